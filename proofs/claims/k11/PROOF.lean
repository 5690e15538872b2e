import PyProof.Rows.All
import Wide.All
import OpenK.AllK
import Wide.FinOn
import HandS.ForMost
import HandS.IsInst
import HandS.Wide
import HandS.WideBits
import HandS.Flow
import HandS.Defaults
import HandS.TryOnly
import HandS.Style
import KE.LtData
import HandS.Zip
import KE.KStateDown
import Lean
import HandS.EndBits
import HandS.HeadEnd
import HandS.Head0
import HandS.Head1
import HandS.Head2
import HandS.HeadHook1
import HandS.HeadHook2
import HandS.Exc
import HandS.ExcOwn
import HandS.ExcIs
import HandS.WordsExc
import HandS.HotCalls
import HandS.Conv
import HandS.Deep
import PySem.Challenge.RW_watchyard_k11_fractions_made
set_option Elab.async false
set_option linter.all false
set_option autoImplicit false
set_option maxRecDepth 100000
set_option maxHeartbeats 4000000
namespace Z
open PySem PySem.Spec PyProof.Rows L2
inductive D where
  | non | bl (b : Bool) | int (i : Int) | str (x : Str) | ty (n : String)
  | tup (xs : List D) | lst (xs : List D)
  /-- a list that is known: read, never written -/
  | kls (xs : List D)
  /-- nothing is known of it any more -/
  | unk
  /-- the list at this address, not looked into -/
  | ptr (a : Addr)
  /-- a dict that is empty, never written -/
  | emp
mutual
def D.imm : D → Bool
  | .tup xs => D.immL xs
  | .kls xs => D.immL xs
  | .lst _ => false
  | _ => true
def D.immL : List D → Bool
  | [] => true
  | x :: xs => x.imm && D.immL xs
end
def Knw (K : PySem.W.Frag) (H : Hp) (a : Addr) (xs : List V) : Prop :=
  (∃ o, H a = some (.frz o (.lst xs))) ∨
    ∃ (its : Array Value) (n : Nat), K.lookup a = some { cls := .type "list", data := .seq its n } ∧ its.size ≤ sizeLine ∧ Vals xs its.toList
theorem Knw.sq {K : PySem.W.Frag} {H : Hp} {a : Addr} {xs : List V} (h : Knw K H a xs) : SqL K H a xs := by
  rcases h with ⟨o, h⟩ | ⟨its, n, h, hz, r⟩
  · exact .inl (.inr ⟨o, h⟩)
  · exact .inr ⟨_, its, n, h, rfl, rfl, rfl, hz, r⟩
def SqX (K : PySem.W.Frag) (H : Hp) (a : Addr) (xs : List V) : Prop := H a = some (.lst xs) ∨ Knw K H a xs
theorem SqX.sq {K : PySem.W.Frag} {H : Hp} {a : Addr} {xs : List V} (h : SqX K H a xs) : SqL K H a xs := h.elim (fun z => .inl (.inl z)) Knw.sq
theorem SqX.obj {X : Cx} {pins : List (Addr × Obj)} {σ : L2.St} {H : Hp} {s : Shared} {a : Addr} {xs : List V} (I : Inv X pins σ H s) (h : SqX X.K H a xs) :
    ∃ (its : List Value) (n : Nat), Vals xs its ∧ s.heap.get? a = some { cls := .type "list", data := .seq its.toArray n } ∧ xs.length ≤ sizeLine := by
  rcases h with h | ⟨o, h⟩ | ⟨its, n, h, hz, r⟩
  · exact I.lst h
  · obtain ⟨_, z, its, n, r, e⟩ := I.hok a _ h
    exact ⟨its, n, r, e, z⟩
  · refine ⟨its.toList, n, r, by simpa using I.kIn a _ h, ?_⟩
    have e := r.length
    simp only [Array.length_toList] at e
    omega
mutual
inductive Rep (K : PySem.W.Frag) (H : Hp) : V → D → List Addr → Prop
  | non : Rep K H .non .non []
  | bl (b : Bool) : Rep K H (.bl b) (.bl b) []
  | int (i : Int) : Rep K H (.int i) (.int i) []
  | str (x : Str) : Rep K H (.str x) (.str x) []
  | ty (n : String) : Rep K H (.ty n) (.ty n) []
  | tup {a : Addr} {vs : List V} {ds : List D} {fp : List Addr} : SqT K H a vs → RepL K H vs ds fp → Rep K H (.ref a) (.tup ds) fp
  | lst {a : Addr} {vs : List V} {ds : List D} {fp : List Addr} : H a = some (.lst vs) → RepL K H vs ds fp → Rep K H (.ref a) (.lst ds) (a :: fp)
  | knw {a : Addr} {vs : List V} {ds : List D} {fp : List Addr} : Knw K H a vs → RepL K H vs ds fp → Rep K H (.ref a) (.kls ds) fp
  | unk (v : V) : Rep K H v .unk []
  | ptr (a : Addr) : Rep K H (.ref a) (.ptr a) []
  | emp {a : Addr} : H a = some (.dK []) → Rep K H (.ref a) .emp []
inductive RepL (K : PySem.W.Frag) (H : Hp) : List V → List D → List Addr → Prop
  | nil : RepL K H [] [] []
  | cons {v : V} {vs : List V} {d : D} {ds : List D} {fp fq : List Addr} : Rep K H v d fp → RepL K H vs ds fq → RepL K H (v :: vs) (d :: ds) (fp ++ fq)
end
section
variable {K : PySem.W.Frag} {H H' : Hp} {O : Addr → Prop}
def Stab (O : Addr → Prop) (H H' : Hp) : Prop := ∀ b o, H b = some o → ¬ O b → H' b = some o
theorem Stab.of_same (s : Same H H') : Stab O H H' := fun b o e _ => s b o e
theorem Stab.refl : Stab O H H := fun _ _ e _ => e
abbrev IsLs (H : Hp) (a : Addr) : Prop := ∃ vs, H a = some (.lst vs)
theorem SqT.stab {a : Addr} {xs : List V} (h : SqT K H a xs) (ho : ∀ b, O b → IsLs H b) (s : Stab O H H') : SqT K H' a xs := by
  have ne : ∀ o, H a = some o → (∀ vs, o ≠ .lst vs) → ¬ O a := fun o e n hO => by
    obtain ⟨vs, q⟩ := ho a hO
    rw [e] at q; cases q; exact n _ rfl
  rcases h with (h | ⟨o, h⟩) | h
  · exact .inl (.inl (s _ _ h (ne _ h (fun _ z => nomatch z))))
  · exact .inl (.inr ⟨o, s _ _ h (ne _ h (fun _ z => nomatch z))⟩)
  · exact .inr h
theorem Knw.stab {a : Addr} {xs : List V} (h : Knw K H a xs) (ho : ∀ b, O b → IsLs H b) (s : Stab O H H') : Knw K H' a xs := by
  rcases h with ⟨o, h⟩ | h
  · refine .inl ⟨o, s _ _ h fun hO => ?_⟩
    obtain ⟨vs, q⟩ := ho a hO
    rw [h] at q; cases q
  · exact .inr h
mutual
theorem Rep.stab (ho : ∀ b, O b → IsLs H b) (s : Stab O H H') : ∀ {v : V} {d : D} {fp : List Addr}, Rep K H v d fp → (∀ a ∈ fp, ¬ O a) → Rep K H' v d fp
  | _, _, _, .non, _ => .non
  | _, _, _, .bl b, _ => .bl b
  | _, _, _, .int i, _ => .int i
  | _, _, _, .str i, _ => .str i
  | _, _, _, .ty i, _ => .ty i
  | _, _, _, .tup h r, n => .tup (SqT.stab h ho s) (RepL.stab ho s r n)
  | _, _, _, .lst h r, n => .lst (s _ _ h (n _ List.mem_cons_self)) (RepL.stab ho s r fun a q => n a (List.mem_cons_of_mem _ q))
  | _, _, _, .knw h r, n => .knw (Knw.stab h ho s) (RepL.stab ho s r n)
  | _, _, _, .unk v, _ => .unk v
  | _, _, _, .ptr v, _ => .ptr v
  | _, _, _, .emp h, _ => .emp (s _ _ h fun hO => by obtain ⟨vs, q⟩ := ho _ hO; rw [h] at q; cases q)
theorem RepL.stab (ho : ∀ b, O b → IsLs H b) (s : Stab O H H') : ∀ {vs : List V} {ds : List D} {fp : List Addr}, RepL K H vs ds fp → (∀ a ∈ fp, ¬ O a) → RepL K H' vs ds fp
  | _, _, _, .nil, _ => .nil
  | _, _, _, .cons h r, n => .cons (Rep.stab ho s h fun a q => n a (List.mem_append_left _ q)) (RepL.stab ho s r fun a q => n a (List.mem_append_right _ q))
end
theorem Rep.same {v : V} {d : D} {fp : List Addr} (r : Rep K H v d fp) (s : Same H H') : Rep K H' v d fp :=
  r.stab (O := fun _ => False) (fun _ z => z.elim) (Stab.of_same s) (fun _ _ z => z)
theorem RepL.same {v : List V} {d : List D} {fp : List Addr} (r : RepL K H v d fp) (s : Same H H') : RepL K H' v d fp :=
  r.stab (O := fun _ => False) (fun _ z => z.elim) (Stab.of_same s) (fun _ _ z => z)
mutual
theorem Rep.trk : ∀ {v : V} {d : D} {fp : List Addr}, Rep K H v d fp → ∀ a ∈ fp, IsLs H a
  | _, _, _, .non, _, h => nomatch h
  | _, _, _, .bl b, _, h => nomatch h
  | _, _, _, .int i, _, h => nomatch h
  | _, _, _, .str i, _, h => nomatch h
  | _, _, _, .ty i, _, h => nomatch h
  | _, _, _, .tup _ r, a, h => RepL.trk r a h
  | _, _, _, .lst e r, a, h => by
    rcases List.mem_cons.mp h with rfl | h
    · exact ⟨_, e⟩
    · exact RepL.trk r a h
  | _, _, _, .knw _ r, a, h => RepL.trk r a h
  | _, _, _, .unk v, _, h => nomatch h
  | _, _, _, .ptr v, _, h => nomatch h
  | _, _, _, .emp _, _, h => nomatch h
theorem RepL.trk : ∀ {v : List V} {d : List D} {fp : List Addr}, RepL K H v d fp → ∀ a ∈ fp, IsLs H a
  | _, _, _, .nil, _, h => nomatch h
  | _, _, _, .cons x r, a, h => by
    rcases List.mem_append.mp h with h | h
    · exact Rep.trk x a h
    · exact RepL.trk r a h
end
mutual
theorem Rep.imm : ∀ {v : V} {d : D} {fp : List Addr}, Rep K H v d fp → d.imm = true → fp = []
  | _, _, _, .non, _ => rfl
  | _, _, _, .bl b, _ => rfl
  | _, _, _, .int i, _ => rfl
  | _, _, _, .str i, _ => rfl
  | _, _, _, .ty i, _ => rfl
  | _, _, _, .tup _ r, h => RepL.imm r (by rw [D.imm] at h; exact h)
  | _, _, _, .lst e r, h => by rw [D.imm] at h; cases h
  | _, _, _, .knw _ r, h => RepL.imm r (by rw [D.imm] at h; exact h)
  | _, _, _, .unk v, _ => rfl
  | _, _, _, .ptr v, _ => rfl
  | _, _, _, .emp _, _ => rfl
theorem RepL.imm : ∀ {v : List V} {d : List D} {fp : List Addr}, RepL K H v d fp → D.immL d = true → fp = []
  | _, _, _, .nil, _ => rfl
  | _, _, _, .cons x r, h => by
    rw [D.immL, Bool.and_eq_true] at h
    rw [Rep.imm x h.1, RepL.imm r h.2]
    rfl
end
theorem RepL.len : ∀ {v : List V} {d : List D} {fp : List Addr}, RepL K H v d fp → v.length = d.length
  | _, _, _, .nil => rfl
  | _, _, _, .cons _ r => by
    rw [List.length_cons, List.length_cons, RepL.len r]
theorem RepL.at : ∀ {vs : List V} {ds : List D} {fp : List Addr} {i : Nat} {d : D}, RepL K H vs ds fp → ds[i]? = some d → ∃ v fq l r, vs[i]? = some v ∧ Rep K H v d fq ∧ fp = l ++ (fq ++ r)
  | _, _, _, i, _, .nil, e => by simp at e
  | _, _, _, 0, d, .cons (fp := fp) (fq := fq) x r, e => by
    have e' := Option.some.inj e
    subst e'
    exact ⟨_, fp, [], fq, rfl, x, rfl⟩
  | _, _, _, i + 1, d, .cons (fp := fp) x r, e => by
    obtain ⟨v, f2, l, r2, h1, h2, rfl⟩ := RepL.at (i := i) r e
    exact ⟨v, f2, fp ++ l, r2, h1, h2, by simp⟩
theorem RepL.app : ∀ {vs ws : List V} {ds es : List D} {fp fq : List Addr}, RepL K H vs ds fp → RepL K H ws es fq → RepL K H (vs ++ ws) (ds ++ es) (fp ++ fq)
  | _, _, _, _, _, _, .nil, s => s
  | _, _, _, _, _, _, .cons x r, s => by
    rw [List.append_assoc]
    exact .cons x (RepL.app r s)
def D.lsq : D → Option (List D)
  | .lst xs => some xs
  | .kls xs => some xs
  | _ => none
theorem Rep.lsq {v : V} {d : D} {ds : List D} {fp : List Addr} (r : Rep K H v d fp) (h : d.lsq = some ds) : ∃ a vs fq, v = .ref a ∧ SqX K H a vs ∧ RepL K H vs ds fq ∧ ∃ l, fp = l ++ fq := by
  cases r with
  | lst h' r => cases h; exact ⟨_, _, _, rfl, .inl h', r, [_], rfl⟩
  | knw h' r => cases h; exact ⟨_, _, _, rfl, .inr h', r, [], rfl⟩
  | _ => cases h
theorem Rep.asL {v : V} {ds : List D} {fp : List Addr} (r : Rep K H v (.lst ds) fp) : ∃ a vs fq, v = .ref a ∧ H a = some (.lst vs) ∧ RepL K H vs ds fq ∧ fp = a :: fq := by
  cases r with
  | lst h r => exact ⟨_, _, _, rfl, h, r, rfl⟩
theorem Rep.asT {v : V} {ds : List D} {fp : List Addr} (r : Rep K H v (.tup ds) fp) : ∃ a vs, v = .ref a ∧ SqT K H a vs ∧ RepL K H vs ds fp := by
  cases r with
  | tup h r => exact ⟨_, _, rfl, h, r⟩
theorem Rep.asI {v : V} {i : Int} {fp : List Addr} (r : Rep K H v (.int i) fp) : v = .int i := by cases r; rfl
theorem Rep.asB {v : V} {i : Bool} {fp : List Addr} (r : Rep K H v (.bl i) fp) : v = .bl i := by cases r; rfl
theorem Rep.asS {v : V} {i : Str} {fp : List Addr} (r : Rep K H v (.str i) fp) : v = .str i := by cases r; rfl
theorem Rep.asTy {v : V} {i : String} {fp : List Addr} (r : Rep K H v (.ty i) fp) : v = .ty i := by cases r; rfl
theorem Rep.asN {v : V} {fp : List Addr} (r : Rep K H v .non fp) : v = .non := by cases r; rfl
end
inductive Sl where
  | no | al (d : D) | ow (d : D) | rf (v : V) (d : D)
abbrev Ev := List Sl
def Sl.od : Sl → Option D
  | .ow d => some d
  | .rf _ d => some d
  | _ => none
def odAt (ρ : Ev) (i : Nat) : Option D := (ρ[i]?).bind Sl.od
theorem odAt_ow {ρ : Ev} {i : Nat} {d : D} (h : ρ[i]? = some (.ow d)) : odAt ρ i = some d := by unfold odAt; rw [h]; rfl
theorem odAt_rf {ρ : Ev} {i : Nat} {v : V} {d : D} (h : ρ[i]? = some (.rf v d)) : odAt ρ i = some d := by unfold odAt; rw [h]; rfl
theorem odAt_at {ρ : Ev} {i : Nat} {d : D} (h : odAt ρ i = some d) : ∃ x, ρ[i]? = some x ∧ x.od = some d ∧ x ≠ .no := by
  unfold odAt at h
  cases e : ρ[i]? with
  | none => rw [e] at h; cases h
  | some x =>
    rw [e] at h
    exact ⟨x, rfl, h, fun z => by rw [z] at h; cases h⟩
theorem odAt_of {ρ : Ev} {i : Nat} {x : Sl} {d : D} (h : ρ[i]? = some x) (hx : x.od = some d) : odAt ρ i = some d := by unfold odAt; rw [h]; exact hx
def Own (ρ : Ev) (fm : Nat → List Addr) (a : Addr) : Prop := ∃ i d, odAt ρ i = some d ∧ a ∈ fm i
structure ER (K : PySem.W.Frag) (H0 H : Hp) (σ : L2.St) (ρ : Ev) (fm : Nat → List Addr) : Prop where
  len : σ.length = ρ.length
  al : ∀ i d, ρ[i]? = some (.al d) → ∃ v, σ[i]? = some (some v) ∧ Rep K H v d (fm i)
  own : ∀ i d, odAt ρ i = some d → ∃ v, σ[i]? = some (some v) ∧ Rep K H v d (fm i) ∧ (fm i).Nodup ∧ ∀ a ∈ fm i, H0 a = none
  rfv : ∀ (i : Nat) (v : V) (d : D), ρ[i]? = some (Sl.rf v d) → σ[i]? = some (some v)
  sepG : ∀ (i j : Nat) (d : D) (x : Sl), i ≠ j → odAt ρ i = some d → ρ[j]? = some x → x ≠ .no → ∀ a ∈ fm i, a ∉ fm j
  same : Same H0 H
section
variable {K : PySem.W.Frag} {H0 H H' : Hp} {σ : L2.St} {ρ : Ev} {fm : Nat → List Addr}
theorem ER.ow (e : ER K H0 H σ ρ fm) (i : Nat) (d : D) (h : ρ[i]? = some (.ow d)) : ∃ v, σ[i]? = some (some v) ∧ Rep K H v d (fm i) ∧ (fm i).Nodup ∧ ∀ a ∈ fm i, H0 a = none := e.own i d (odAt_ow h)
theorem ER.sep (e : ER K H0 H σ ρ fm) (i j : Nat) (d : D) (x : Sl) (ne : i ≠ j) (h : ρ[i]? = some (.ow d)) (hx : ρ[j]? = some x) (n : x ≠ .no) : ∀ a ∈ fm i, a ∉ fm j := e.sepG i j d x ne (odAt_ow h) hx n
theorem ER.sepO (e : ER K H0 H σ ρ fm) (i j : Nat) (d d' : D) (ne : i ≠ j) (h : odAt ρ i = some d) (h' : odAt ρ j = some d') : ∀ a ∈ fm i, a ∉ fm j := by
  obtain ⟨x, hx, _, n⟩ := odAt_at h'
  exact e.sepG i j d x ne h hx n
theorem ER.mono (e : ER K H0 H σ ρ fm) (s : Same H H') : ER K H0 H' σ ρ fm where
  len := e.len
  al := fun i d h => by
    obtain ⟨v, h1, h2⟩ := e.al i d h
    exact ⟨v, h1, h2.same s⟩
  own := fun i d h => by
    obtain ⟨v, h1, h2, h3⟩ := e.own i d h
    exact ⟨v, h1, h2.same s, h3⟩
  rfv := e.rfv
  sepG := e.sepG
  same := e.same.trans s
theorem ER.trk (e : ER K H0 H σ ρ fm) {a : Addr} (h : Own ρ fm a) : IsLs H a := by
  obtain ⟨i, d, h1, h2⟩ := h
  obtain ⟨v, _, r, _⟩ := e.own i d h1
  exact r.trk a h2
theorem ER.fresh (e : ER K H0 H σ ρ fm) {a : Addr} (h : Own ρ fm a) : H0 a = none := by
  obtain ⟨i, d, h1, h2⟩ := h
  obtain ⟨v, _, r, _, n⟩ := e.own i d h1
  exact n a h2
theorem ER.notOwn (e : ER K H0 H σ ρ fm) {i : Nat} {d : D} (h : ρ[i]? = some (.al d)) : ∀ a ∈ fm i, ¬ Own ρ fm a := fun a ha ⟨j, d', h1, h2⟩ => by
  have ne : j ≠ i := fun z => by rw [z] at h1; unfold odAt at h1; rw [h] at h1; cases h1
  exact e.sepG j i d' (.al d) ne h1 h (fun z => nomatch z) a h2 ha
theorem not_own_of_none (e : ER K H0 H σ ρ fm) {a : Addr} (h : H a = none) : ¬ Own ρ fm a := fun z => by
  obtain ⟨vs, q⟩ := e.trk z
  rw [h] at q; cases q
structure Fr (H : Hp) (ρ : Ev) (fm : Nat → List Addr) (H' : Hp) (ρ' : Ev) (fm' : Nat → List Addr) : Prop where
  keep : Stab (Own ρ fm) H H'
  new : ∀ b, Own ρ' fm' b → Own ρ fm b ∨ H b = none
  dom : ∀ b, H' b = none → H b = none
theorem Fr.refl : Fr H ρ fm H ρ fm := ⟨Stab.refl, fun _ h => .inl h, fun _ h => h⟩
theorem Fr.of_same {ρ' : Ev} {fm' : Nat → List Addr} (s : Same H H') (h : ∀ b, Own ρ' fm' b → Own ρ fm b ∨ H b = none) : Fr H ρ fm H' ρ' fm' := ⟨Stab.of_same s, h, fun _ e => s.free e⟩
theorem Fr.trans {H1 H2 : Hp} {ρ1 ρ2 : Ev} {fm1 fm2 : Nat → List Addr} (a : Fr H ρ fm H1 ρ1 fm1) (b : Fr H1 ρ1 fm1 H2 ρ2 fm2) : Fr H ρ fm H2 ρ2 fm2 where
  keep := fun c o e n => by
    refine b.keep c o (a.keep c o e n) fun z => ?_
    rcases a.new c z with z | z
    · exact n z
    · rw [e] at z; cases z
  new := fun c z => by
    rcases b.new c z with z | z
    · exact a.new c z
    · cases q : H c with
      | none => exact .inr rfl
      | some o =>
        by_cases ho : Own ρ fm c
        · exact .inl ho
        · rw [a.keep c o q ho] at z; cases z
  dom := fun c z => a.dom c (b.dom c z)
inductive Kd where
  | any | sh | rt (S : List Nat)
def Kd.ok (κ : Kd) (H : Hp) (ρ : Ev) (fm : Nat → List Addr) (fp : List Addr) : Prop := match κ with
  | .any => True
  | .sh => ∀ a ∈ fp, ¬ Own ρ fm a
  | .rt S => fp.Nodup ∧ ∀ a ∈ fp, H a = none ∨ ∃ i ∈ S, (∃ d, odAt ρ i = some d) ∧ a ∈ fm i
theorem Kd.ok_nil {κ : Kd} : κ.ok H ρ fm [] := by
  cases κ with
  | any => trivial
  | sh => exact fun _ h => nomatch h
  | rt S => exact ⟨List.nodup_nil, fun _ h => nomatch h⟩
def Kd.le : Kd → Kd → Bool
  | _, .any => true
  | .sh, .sh => true
  | .rt [], .sh => true
  | .rt S, .rt T => S.all (T.contains ·)
  | _, _ => false
theorem Kd.ok_le {κ κ' : Kd} {fp : List Addr} (e : ER K H0 H σ ρ fm) (h : κ.le κ' = true) (k : κ.ok H ρ fm fp) : κ'.ok H ρ fm fp := by
  cases κ' with
  | any => trivial
  | sh =>
    cases κ with
    | any => cases h
    | sh => exact k
    | rt S =>
      cases S with
      | nil =>
        intro a ha
        rcases k.2 a ha with z | ⟨i, hi, _⟩
        · exact not_own_of_none e z
        · cases hi
      | cons _ _ => cases h
  | rt T =>
    cases κ with
    | any => cases h
    | sh => cases h
    | rt S =>
      refine ⟨k.1, fun a ha => ?_⟩
      rcases k.2 a ha with z | ⟨i, hi, q⟩
      · exact .inl z
      · refine .inr ⟨i, ?_, q⟩
        have := List.all_eq_true.mp h i hi
        simpa using this
def Kd.join : Kd → Kd → Kd
  | .rt S, .rt T => if S.all (fun i => !T.contains i) then .rt (S ++ T) else .any
  | .sh, .sh => .sh
  | .rt [], .sh => .sh
  | .sh, .rt [] => .sh
  | _, _ => .any
theorem Kd.ok_join {κ κ' : Kd} {H1 : Hp} {fp fq : List Addr} (e : ER K H0 H σ ρ fm) (s : Same H H1) (tp : ∀ a ∈ fp, IsLs H1 a) (k : κ.ok H ρ fm fp) (k' : κ'.ok H1 ρ fm fq) : (κ.join κ').ok H ρ fm (fp ++ fq) := by
  have e1 := e.mono s
  have down : ∀ {a}, H1 a = none → H a = none := fun h => s.free h
  cases κ with
  | any => cases κ' <;> trivial
  | sh =>
    cases κ' with
    | any => trivial
    | sh => exact fun a ha => (List.mem_append.mp ha).elim (k a) (k' a)
    | rt T =>
      cases T with
      | nil => exact fun a ha => (List.mem_append.mp ha).elim (k a) (Kd.ok_le (κ := .rt []) (κ' := .sh) e1 rfl k' a)
      | cons _ _ => trivial
  | rt S =>
    cases κ' with
    | any => cases S <;> trivial
    | sh =>
      cases S with
      | nil => exact fun a ha => (List.mem_append.mp ha).elim (Kd.ok_le (κ := .rt []) (κ' := .sh) e rfl k a) (k' a)
      | cons _ _ => trivial
    | rt T =>
      show Kd.ok (if S.all (fun i => !T.contains i) then .rt (S ++ T) else .any) H ρ fm (fp ++ fq)
      by_cases h : S.all (fun i => !T.contains i) = true
      · rw [if_pos h]
        refine ⟨List.nodup_append.mpr ⟨k.1, k'.1, fun a ha b hb => ?_⟩, fun a ha => ?_⟩
        · rintro rfl
          rcases k'.2 a hb with z | ⟨j, hj, ⟨d, hd⟩, hm⟩
          · obtain ⟨vs, q⟩ := tp a ha
            rw [z] at q; cases q
          · rcases k.2 a ha with z | ⟨i, hi, ⟨d', hd'⟩, hm'⟩
            · obtain ⟨vs, q⟩ := e.trk ⟨j, d, hd, hm⟩
              rw [z] at q; cases q
            · have ne : i ≠ j := fun z => by
                have := List.all_eq_true.mp h i hi
                rw [z] at this
                simp at this
                exact this hj
              exact e.sepO i j d' _ ne hd' hd a hm' hm
        · rcases List.mem_append.mp ha with ha | ha
          · rcases k.2 a ha with z | ⟨i, hi, q⟩
            · exact .inl z
            · exact .inr ⟨i, List.mem_append_left _ hi, q⟩
          · rcases k'.2 a ha with z | ⟨i, hi, q⟩
            · exact .inl (down z)
            · exact .inr ⟨i, List.mem_append_right _ hi, q⟩
      · rw [if_neg h]
        trivial
end
end Z
namespace Z
open PySem PySem.Spec PyProof.Rows L2
theorem same_upd {H : Hp} {p : Addr} {o : HO} (h : H p = none) : Same H (upd H p o) := fun b x e => by
  rw [upd_ne (ne_of_none e h)]
  exact e
theorem pe_mono {X : Cx} {e : Expr} {t t' : TE} (h : PE X e t) (hm : ∀ σ H Q, t' σ H Q → t σ H Q) : PE X e t' := ⟨fun pins s σ H Q I q => h.run pins s σ H Q I (hm σ H Q q)⟩
theorem pt_mono {X : Cx} {e : Expr} {t t' : TT} (h : PT X e t) (hm : ∀ σ H Q, t' σ H Q → t σ H Q) : PT X e t' := ⟨fun pins s σ H Q I q => h.run pins s σ H Q I (hm σ H Q q)⟩
theorem pw_mono {X : Cx} {e : Expr} {t t' : TT} (h : PW X e t) (hm : ∀ σ H Q, t' σ H Q → t σ H Q) : PW X e t' := ⟨fun wh pins s σ H Q I q => h.run wh pins s σ H Q I (hm σ H Q q)⟩
theorem pa_mono {X : Cx} {e : List Expr} {t t' : TA} (h : PA X e t) (hm : ∀ σ H Q, t' σ H Q → t σ H Q) : PA X e t' := ⟨fun pos pins s σ H Q I q => h.run pos pins s σ H Q I (hm σ H Q q)⟩
theorem ps_mono {X : Cx} {e : Stmt} {t t' : TS} (h : PS X e t) (hm : ∀ D σ H, t' D σ H → t D σ H) : PS X e t' := ⟨fun pins s σ H D I q => h.run pins s σ H D I (hm D σ H q)⟩
theorem pss_mono {X : Cx} {e : List Stmt} {t t' : TS} (h : PSs X e t) (hm : ∀ D σ H, t' D σ H → t D σ H) : PSs X e t' := ⟨fun pins s σ H D I q => h.run pins s σ H D I (hm D σ H q)⟩
theorem pg_mono {X : Cx} {e : Expr} {t t' : TG} (h : PG X e t) (hm : ∀ v σ H Q, t' v σ H Q → t v σ H Q) : PG X e t' := ⟨fun pins s σ H v u Q I r q => h.run pins s σ H v u Q I r (hm v σ H Q q)⟩
theorem pgs_mono {X : Cx} {e : List Expr} {t t' : TGs} (h : PGs X e t) (hm : ∀ v σ H Q, t' v σ H Q → t v σ H Q) : PGs X e t' := ⟨fun pins s σ H v u Q I r q => h.run pins s σ H v u Q I r (hm v σ H Q q)⟩
theorem pi_mono {X : Cx} {e tg : Expr} {t t' : TI} (h : PI X tg e t) (hm : ∀ σ H Q, t' σ H Q → t σ H Q) : PI X tg e t' := ⟨fun pins s σ H Q I q => h.run pins s σ H Q I (hm σ H Q q)⟩
abbrev FE := Ev → Option D
def tE (K : PySem.W.Frag) (κ : Kd) (f : FE) : TE := fun σ H Q => ∃ H0 ρ fm d, ER K H0 H σ ρ fm ∧ f ρ = some d ∧ ∀ v H' fp, Same H H' → Rep K H' v d fp → κ.ok H ρ fm fp → Q v H'
abbrev DE (X : Cx) (e : Expr) (κ : Kd) (f : FE) : Prop := PE X e (tE X.K κ f)
def tA (K : PySem.W.Frag) (κ : Kd) (f : Ev → Option (List D)) : TA := fun σ H Q => ∃ H0 ρ fm d, ER K H0 H σ ρ fm ∧ f ρ = some d ∧ ∀ v H' fp, Same H H' → RepL K H' v d fp → κ.ok H ρ fm fp → Q v H'
structure DA (X : Cx) (es : List Expr) (κ : Kd) (f : Ev → Option (List D)) : Prop where
  run : PA X es (tA X.K κ f)
  len : ∀ ρ ds, f ρ = some ds → ds.length = es.length
def tT (K : PySem.W.Frag) (c : Ev → Option Bool) : TT := fun σ H Q => ∃ H0 ρ fm b, ER K H0 H σ ρ fm ∧ c ρ = some b ∧ ∀ H', Same H H' → Q b H'
abbrev DT (X : Cx) (e : Expr) (c : Ev → Option Bool) : Prop := PT X e (tT X.K c)
abbrev DW (X : Cx) (e : Expr) (c : Ev → Option Bool) : Prop := PW X e (tT X.K c)
def fVar (i : Nat) : FE := fun ρ => match ρ[i]? with
  | some (.al d) => some d
  | some (.ow d) => some d
  | some (.rf _ d) => some d
  | _ => none
def fAl (i : Nat) : FE := fun ρ => match ρ[i]? with
  | some (.al d) => some d
  | _ => none
def fOw (i : Nat) : FE := fun ρ => match ρ[i]? with
  | some (.ow d) => some d
  | _ => none
def fC (d : D) : FE := fun _ => some d
def fNil : Ev → Option (List D) := fun _ => some []
def fCons (f : FE) (g : Ev → Option (List D)) : Ev → Option (List D) := fun ρ => (f ρ).bind fun x => (g ρ).bind fun xs => some (x :: xs)
def fTup (f : Ev → Option (List D)) : FE := fun ρ => (f ρ).bind fun ds => some (.tup ds)
def fLst (f : Ev → Option (List D)) : FE := fun ρ => (f ρ).bind fun ds => some (.lst ds)
def f1 (g : D → Option D) (f : FE) : FE := fun ρ => (f ρ).bind g
def f2 (g : D → D → Option D) (fa fb : FE) : FE := fun ρ => (fa ρ).bind fun x => (fb ρ).bind fun y => g x y
def fA (g : List D → Option D) (fa : Ev → Option (List D)) : FE := fun ρ => (fa ρ).bind g
def fImm (f : FE) : FE := fun ρ => (f ρ).bind fun d => if d.imm then some d else none
def fIf (c : Ev → Option Bool) (f g : FE) : FE := fun ρ => (c ρ).bind fun b => if b then f ρ else g ρ
def fB (c : Ev → Option Bool) : FE := fun ρ => (c ρ).bind fun b => some (.bl b)
def c1 (g : D → Option Bool) (f : FE) : Ev → Option Bool := fun ρ => (f ρ).bind g
def c2 (g : D → D → Option Bool) (fa fb : FE) : Ev → Option Bool := fun ρ => (fa ρ).bind fun x => (fb ρ).bind fun y => g x y
def cNot (c : Ev → Option Bool) : Ev → Option Bool := fun ρ => (c ρ).bind fun b => some (!b)
def cAnd (c e : Ev → Option Bool) : Ev → Option Bool := fun ρ => (c ρ).bind fun b => if b then e ρ else some false
def cOr (c e : Ev → Option Bool) : Ev → Option Bool := fun ρ => (c ρ).bind fun b => if b then some true else e ρ
noncomputable def gd {α : Type} (p : Prop) (x : Option α) : Option α := @ite _ p (Classical.propDecidable p) x none
theorem gd_pos {α : Type} {p : Prop} {x : Option α} (h : p) : gd p x = x := if_pos h
theorem gds {α : Type} {p : Prop} {x : Option α} {y : α} (h : gd p x = some y) : p ∧ x = some y := by
  by_cases hp : p
  · rw [gd_pos hp] at h; exact ⟨hp, h⟩
  · have e : gd p x = none := if_neg hp
    rw [e] at h; cases h
theorem bind_some {α β : Type} {x : Option α} {f : α → Option β} {y : β} (h : x.bind f = some y) : ∃ a, x = some a ∧ f a = some y := Option.bind_eq_some_iff.mp h
section
variable {X : Cx} {e a b : Expr} {es : List Expr} {κ κ' : Kd} {f g : FE} {pos : Pos}
theorem de_le (h : DE X e κ f) (κ' : Kd) (hk : κ.le κ' = true := by rfl) : DE X e κ' f := pe_mono h fun σ H Q ⟨H0, ρ, fm, d, er, hf, k⟩ =>
  ⟨H0, ρ, fm, d, er, hf, fun v H' fp s r ko => k v H' fp s r (Kd.ok_le er hk ko)⟩
theorem de_imm (h : DE X e κ f) : DE X e (.rt []) (fImm f) := pe_mono h fun σ H Q ⟨H0, ρ, fm, d, er, hf, k⟩ => by
  obtain ⟨d', h1, h2⟩ := bind_some hf
  by_cases hi : d'.imm = true
  · rw [if_pos hi] at h2
    cases h2
    refine ⟨H0, ρ, fm, d, er, h1, fun v H' fp s r ko => k v H' fp s r ?_⟩
    rw [r.imm hi]
    exact Kd.ok_nil
  · rw [if_neg hi] at h2; cases h2
theorem de_var (i : Nat) {x : Str} (hN : X.N[i]? = some x := by rfl) (hv : Vis X.env.scope x := by first | exact Or.inl rfl | exact Or.inr (Or.inl rfl) | exact Or.inr (Or.inr rfl)) (hd : (x == ("__debug__" : Str)) = false := by decide)
    (hcd : (x == ("__classdict__" : Str)) = false := by decide) : DE X (.Name x pos) .any (fVar i) := pe_mono (pe_var (i := i) hN hv hd hcd) fun σ H Q ⟨H0, ρ, fm, d, er, hf, k⟩ => by
  unfold fVar at hf
  split at hf
  · next d' h => cases hf; obtain ⟨v, h1, r⟩ := er.al _ _ h; exact ⟨v, h1, k v H _ (Same.refl H) r trivial⟩
  · next d' h => cases hf; obtain ⟨v, h1, r, _⟩ := er.ow _ _ h; exact ⟨v, h1, k v H _ (Same.refl H) r trivial⟩
  · next v' d' h => cases hf; obtain ⟨v, h1, r, _⟩ := er.own _ _ (odAt_rf h); exact ⟨v, h1, k v H _ (Same.refl H) r trivial⟩
  · cases hf
theorem de_al (i : Nat) {x : Str} (hN : X.N[i]? = some x := by rfl) (hv : Vis X.env.scope x := by first | exact Or.inl rfl | exact Or.inr (Or.inl rfl) | exact Or.inr (Or.inr rfl)) (hd : (x == ("__debug__" : Str)) = false := by decide)
    (hcd : (x == ("__classdict__" : Str)) = false := by decide) : DE X (.Name x pos) .sh (fAl i) := pe_mono (pe_var (i := i) hN hv hd hcd) fun σ H Q ⟨H0, ρ, fm, d, er, hf, k⟩ => by
  unfold fAl at hf
  split at hf
  · next d' h => cases hf; obtain ⟨v, h1, r⟩ := er.al _ _ h; exact ⟨v, h1, k v H _ (Same.refl H) r (er.notOwn h)⟩
  · cases hf
theorem de_ow (i : Nat) {x : Str} (hN : X.N[i]? = some x := by rfl) (hv : Vis X.env.scope x := by first | exact Or.inl rfl | exact Or.inr (Or.inl rfl) | exact Or.inr (Or.inr rfl)) (hd : (x == ("__debug__" : Str)) = false := by decide)
    (hcd : (x == ("__classdict__" : Str)) = false := by decide) : DE X (.Name x pos) (.rt [i]) (fOw i) := pe_mono (pe_var (i := i) hN hv hd hcd) fun σ H Q ⟨H0, ρ, fm, d, er, hf, k⟩ => by
  unfold fOw at hf
  split at hf
  · next d' h => cases hf; obtain ⟨v, h1, r, n, z⟩ := er.ow _ _ h; exact ⟨v, h1, k v H _ (Same.refl H) r ⟨n, fun a ha => .inr ⟨i, List.mem_cons_self, ⟨_, odAt_ow h⟩, ha⟩⟩⟩
  · cases hf
theorem de_const {d : D} {v : V} (h : PE X e (tC v)) (r : ∀ H, Rep X.K H v d []) : DE X e (.rt []) (fC d) := pe_mono h fun σ H Q ⟨H0, ρ, fm, d', er, hf, k⟩ => by
  cases hf
  exact k v H [] (Same.refl H) (r H) Kd.ok_nil
theorem de_int {i j} : DE X (.Constant (.int i) j pos) (.rt []) (fC (.int i)) := de_const pe_int fun _ => .int i
theorem de_bl {i j} : DE X (.Constant (.bool i) j pos) (.rt []) (fC (.bl i)) := de_const pe_bl fun _ => .bl i
theorem de_str {i j} : DE X (.Constant (.str i) j pos) (.rt []) (fC (.str i)) := de_const pe_str fun _ => .str i
theorem de_non {j} : DE X (.Constant .none j pos) (.rt []) (fC .non) := de_const pe_non fun _ => .non
theorem de_type {x : Str} {n : String} (hg : Gl X x) (hm : X.mg x = none) (hv : bootBuiltins x = some (.type n)) (hn : x ≠ "__name__" := by decide) (hd : (x == ("__debug__" : Str)) = false := by decide) : DE X (.Name x pos) (.rt []) (fC (.ty n)) :=
  de_const (pe_bltn (v := .ty n) hg hm hv rfl hn hd) fun _ => .ty n
theorem de_glob {x : Str} {v : V} {u : Value} {d : D} (hg : Gl X x) (hm : X.mg x = some u) (r : RelV v u) (hr : ∀ H, Rep X.K H v d []) (hd : (x == ("__debug__" : Str)) = false := by decide) : DE X (.Name x pos) (.rt []) (fC d) :=
  de_const (pe_glob hg hm r hd) hr
theorem da_nil : DA X [] (.rt []) fNil := ⟨pa_mono pa_nil fun σ H Q ⟨H0, ρ, fm, d', er, hf, k⟩ => by
  cases hf
  exact k [] H [] (Same.refl H) .nil Kd.ok_nil, fun ρ ds h => by cases h; rfl⟩
theorem da_cons {k : Ev → Option (List D)} (h : DE X e κ f) (hr : DA X es κ' k) (hs : starEach (e :: es) X.env = (false, eval e X.env) :: starEach es X.env := by rfl) : DA X (e :: es) (κ.join κ') (fCons f k) :=
  ⟨pa_mono (pa_cons h hr.run hs) fun σ H Q ⟨H0, ρ, fm, d', er, hf, k⟩ => by
    obtain ⟨x, h1, h2⟩ := bind_some hf
    obtain ⟨xs, h3, h4⟩ := bind_some h2
    cases h4
    exact ⟨H0, ρ, fm, x, er, h1, fun v H1 fp s1 r1 k1 => ⟨H0, ρ, fm, xs, er.mono s1, h3, fun vs H2 fq s2 r2 k2 =>
      k (v :: vs) H2 (fp ++ fq) (s1.trans s2) (.cons (r1.same s2) r2) (Kd.ok_join er s1 r1.trk k1 k2)⟩⟩, fun ρ ds h => by
    obtain ⟨x, h1, h2⟩ := bind_some h
    obtain ⟨xs, h3, h4⟩ := bind_some h2
    cases h4
    rw [List.length_cons, List.length_cons, hr.len ρ xs h3]⟩
theorem de_tup {k : Ev → Option (List D)} {x1} (h : DA X es κ k) (hl : es.length ≤ sizeLine := by decide) : DE X (.Tuple es x1 pos) κ (fTup k) := pe_mono (pe_tup h.run) fun σ H Q ⟨H0, ρ, fm, d', er, hf, k⟩ => by
  obtain ⟨ds, h1, h2⟩ := bind_some hf
  cases h2
  refine ⟨H0, ρ, fm, ds, er, h1, fun vs H1 fp s1 r1 k1 => ⟨by rw [r1.len, h.len ρ ds h1]; exact hl, fun p hp => ?_⟩⟩
  exact k _ _ fp (s1.trans (same_upd hp)) (.tup (.inl (.inl upd_same)) (r1.same (same_upd hp))) k1
theorem kd_new {K : PySem.W.Frag} {H0 H H1 : Hp} {σ : L2.St} {ρ : Ev} {fm : Nat → List Addr} {fp : List Addr} {p : Addr} (er : ER K H0 H σ ρ fm) (s : Same H H1) (t : ∀ a ∈ fp, IsLs H1 a) (hp : H1 p = none) (k : κ.ok H ρ fm fp) : κ.ok H ρ fm (p :: fp) := by
  cases κ with
  | any => trivial
  | sh =>
    intro a ha
    rcases List.mem_cons.mp ha with rfl | ha
    · exact not_own_of_none er (s.free hp)
    · exact k a ha
  | rt S =>
    refine ⟨List.nodup_cons.mpr ⟨fun hm => ?_, k.1⟩, fun a ha => ?_⟩
    · obtain ⟨vs, q⟩ := t p hm
      rw [hp] at q; cases q
    · rcases List.mem_cons.mp ha with rfl | ha
      · exact .inl (s.free hp)
      · exact k.2 a ha
theorem de_lst {k : Ev → Option (List D)} (h : DA X es κ k) (hl : es.length ≤ sizeLine := by decide) : DE X (.List es pos) κ (fLst k) := pe_mono (pe_lst h.run) fun σ H Q ⟨H0, ρ, fm, d', er, hf, k⟩ => by
  obtain ⟨ds, h1, h2⟩ := bind_some hf
  cases h2
  refine ⟨H0, ρ, fm, ds, er, h1, fun vs H1 fp s1 r1 k1 => ⟨by rw [r1.len, h.len ρ ds h1]; exact hl, fun p hp => ?_⟩⟩
  exact k _ _ (p :: fp) (s1.trans (same_upd hp)) (.lst upd_same (r1.same (same_upd hp))) (kd_new er s1 r1.trk hp k1)
def Op2 (K : PySem.W.Frag) (r : R2) (g : D → D → Option D) : Prop := ∀ x y d vx vy H fx fy (Q : VK), g x y = some d → Rep K H vx x fx → Rep K H vy y fy →
  (∀ v H' fp, Same H H' → Rep K H' v d fp → fp.Nodup → (∀ a ∈ fp, H a = none) → Q v H') → r vx vy H Q
def OpC (K : PySem.W.Frag) (r : R2) (g : D → D → Option Bool) : Prop := ∀ x y b vx vy H fx fy (Q : VK), g x y = some b → Rep K H vx x fx → Rep K H vy y fy → Q (.bl b) H → r vx vy H Q
def OpU (K : PySem.W.Frag) (r : V → Hp → VK → Prop) (g : D → Option D) : Prop := ∀ x d vx H fx (Q : VK), g x = some d → Rep K H vx x fx →
  (∀ v H' fp, Same H H' → Rep K H' v d fp → fp.Nodup → (∀ a ∈ fp, H a = none) → Q v H') → r vx H Q
def OpA (K : PySem.W.Frag) (r : List V → Hp → VK → Prop) (g : List D → Option D) : Prop := ∀ x d vx H fx (Q : VK), g x = some d → RepL K H vx x fx →
  (∀ v H' fp, Same H H' → Rep K H' v d fp → fp.Nodup → (∀ a ∈ fp, H a = none) → Q v H') → r vx H Q
theorem kd_fresh {H H1 : Hp} {ρ : Ev} {fm : Nat → List Addr} {fp : List Addr} (s : Same H H1) (n : fp.Nodup) (h : ∀ a ∈ fp, H1 a = none) : (Kd.rt []).ok H ρ fm fp := ⟨n, fun a ha => .inl (s.free (h a ha))⟩
theorem t_op2 {K : PySem.W.Frag} {r : R2} {k : D → D → Option D} (hk : Op2 K r k) {σ : L2.St} {H : Hp} {Q : VK} (q : tE K (.rt []) (f2 k f g) σ H Q) : tOp r (tE K κ f) (tE K κ' g) σ H Q := by
  obtain ⟨H0, ρ, fm, d, er, hf, q⟩ := q
  obtain ⟨x, h1, h2⟩ := bind_some hf
  obtain ⟨y, h3, h4⟩ := bind_some h2
  exact ⟨H0, ρ, fm, x, er, h1, fun v H1 fp s1 r1 k1 => ⟨H0, ρ, fm, y, er.mono s1, h3, fun u H2 fq s2 r2 k2 =>
    hk x y d v u H2 fp fq Q h4 (r1.same s2) r2 fun z H3 fz s3 r3 n fr => q z H3 fz ((s1.trans s2).trans s3) r3 (kd_fresh (s1.trans s2) n fr)⟩⟩
theorem t_opC {K : PySem.W.Frag} {r : R2} {k : D → D → Option Bool} (hk : OpC K r k) {σ : L2.St} {H : Hp} {Q : VK} (q : ∃ H0 ρ fm b, ER K H0 H σ ρ fm ∧ c2 k f g ρ = some b ∧ ∀ H', Same H H' → Q (.bl b) H') : tOp r (tE K κ f) (tE K κ' g) σ H Q := by
  obtain ⟨H0, ρ, fm, d, er, hf, q⟩ := q
  obtain ⟨x, h1, h2⟩ := bind_some hf
  obtain ⟨y, h3, h4⟩ := bind_some h2
  exact ⟨H0, ρ, fm, x, er, h1, fun v H1 fp s1 r1 k1 => ⟨H0, ρ, fm, y, er.mono s1, h3, fun u H2 fq s2 r2 k2 =>
    hk x y d v u H2 fp fq _ h4 (r1.same s2) r2 (q H2 (s1.trans s2))⟩⟩
theorem de_op {op : Operator} {r : R2} {k : D → D → Option D} (ho : OpR X (binaryOp op) r) (hk : Op2 X.K r k) (ha : DE X a κ f) (hb : DE X b κ' g) : DE X (.BinOp a op b pos) (.rt []) (f2 k f g) :=
  pe_mono (pe_op ho ha hb) fun σ H Q q => t_op2 hk q
theorem de_un {op : UnaryOp} {r : V → Hp → VK → Prop} {k : D → Option D} (ho : UnR X (unaryOp op) r) (hk : OpU X.K r k) (ha : DE X a κ f) : DE X (.UnaryOp op a pos) (.rt []) (f1 k f) :=
  pe_mono (pe_un ho ha) fun σ H Q ⟨H0, ρ, fm, d, er, hf, q⟩ => by
    obtain ⟨x, h1, h2⟩ := bind_some hf
    exact ⟨H0, ρ, fm, x, er, h1, fun v H1 fp s1 r1 k1 => hk x d v H1 fp Q h2 r1 fun z H3 fz s3 r3 n fr => q z H3 fz (s1.trans s3) r3 (kd_fresh s1 n fr)⟩
theorem dt_cmp {op : CmpOp} {r : R2} {k : D → D → Option Bool} (ho : OpR X (compareOp op) r) (hk : OpC X.K r k) (ha : DE X a κ f) (hb : DE X b κ' g) (hm : behindInMarks op b = false) : DT X (.Compare a [op] [b] pos) (c2 k f g) :=
  pt_mono (pt_cmpR ho ha hb hm) fun σ H Q ⟨H0, ρ, fm, d, er, hf, q⟩ => t_opC hk ⟨H0, ρ, fm, d, er, hf, fun H' s => ⟨d, rfl, q H' s⟩⟩
theorem de_cmp {op : CmpOp} {r : R2} {k : D → D → Option Bool} (ho : OpR X (compareOp op) r) (hk : OpC X.K r k) (ha : DE X a κ f) (hb : DE X b κ' g) (hm : behindInMarks op b = false) : DE X (.Compare a [op] [b] pos) (.rt []) (fB (c2 k f g)) :=
  pe_mono (pe_cmpR ho ha hb hm) fun σ H Q ⟨H0, ρ, fm, d, er, hf, q⟩ => by
    obtain ⟨x, h1, h2⟩ := bind_some hf
    cases h2
    exact t_opC hk ⟨H0, ρ, fm, x, er, h1, fun H' s => q _ H' [] s (.bl x) Kd.ok_nil⟩
def cChain (k k' : D → D → Option Bool) (fa fb fc : FE) : Ev → Option Bool := fun ρ => (fa ρ).bind fun x => (fb ρ).bind fun y => (k x y).bind fun t => if t then (fc ρ).bind fun z => k' y z else some false
theorem t_chain {K : PySem.W.Frag} {r r' : R2} {k k' : D → D → Option Bool} (hk : OpC K r k) (hk' : OpC K r' k') {κ'' : Kd} {h : FE} {σ : L2.St} {H : Hp} {Q : VK} (q : ∃ H0 ρ fm b, ER K H0 H σ ρ fm ∧ cChain k k' f g h ρ = some b ∧ ∀ H', Same H H' → Q (.bl b) H') : tChain r r' (tE K κ f) (tE K κ' g) (tE K κ'' h) σ H Q := by
  obtain ⟨H0, ρ, fm, d, er, hf, q⟩ := q
  obtain ⟨x, h1, h2⟩ := bind_some hf
  obtain ⟨y, h3, h4⟩ := bind_some h2
  obtain ⟨t, h5, h6⟩ := bind_some h4
  refine ⟨H0, ρ, fm, x, er, h1, fun v H1 fp s1 r1 k1 => ⟨H0, ρ, fm, y, er.mono s1, h3, fun u H2 fq s2 r2 k2 =>
    hk x y t v u H2 fp fq _ h5 (r1.same s2) r2 ⟨t, rfl, ?_⟩⟩⟩
  cases t with
  | true =>
    rw [if_pos rfl] at h6 ⊢
    obtain ⟨z, h7, h8⟩ := bind_some h6
    exact ⟨H0, ρ, fm, z, (er.mono s1).mono s2, h7, fun u' H3 fz s3 r3 k3 => hk' y z d u u' H3 fq fz Q h8 (r2.same s3) r3 (q H3 ((s1.trans s2).trans s3))⟩
  | false =>
    rw [if_neg Bool.false_ne_true] at h6 ⊢
    cases h6
    exact q H2 (s1.trans s2)
theorem de_chain {c : Expr} {κ'' : Kd} {h : FE} {op op' : CmpOp} {r r' : R2} {k k' : D → D → Option Bool} (ho : OpR X (compareOp op) r) (ho' : OpR X (compareOp op') r') (hk : OpC X.K r k) (hk' : OpC X.K r' k') (ha : DE X a κ f) (hb : DE X b κ' g) (hc : DE X c κ'' h)
    (hm : lastMarks [op, op'] [b, c] = false := by with_unfolding_all rfl) : DE X (.Compare a [op, op'] [b, c] pos) (.rt []) (fB (cChain k k' f g h)) :=
  pe_mono (pe_chain ho ho' ha hb hc hm) fun σ H Q ⟨H0, ρ, fm, d, er, hf, q⟩ => by
    obtain ⟨x, h1, h2⟩ := bind_some hf
    cases h2
    exact t_chain hk hk' ⟨H0, ρ, fm, x, er, h1, fun H' s => q _ H' [] s (.bl x) Kd.ok_nil⟩
theorem dt_chain {c : Expr} {κ'' : Kd} {h : FE} {op op' : CmpOp} {r r' : R2} {k k' : D → D → Option Bool} (ho : OpR X (compareOp op) r) (ho' : OpR X (compareOp op') r') (hk : OpC X.K r k) (hk' : OpC X.K r' k') (ha : DE X a κ f) (hb : DE X b κ' g) (hc : DE X c κ'' h)
    (hm : lastMarks [op, op'] [b, c] = false := by with_unfolding_all rfl) : DT X (.Compare a [op, op'] [b, c] pos) (cChain k k' f g h) :=
  pt_mono (pt_chain ho ho' ha hb hc hm) fun σ H Q ⟨H0, ρ, fm, d, er, hf, q⟩ => t_chain hk hk' ⟨H0, ρ, fm, d, er, hf, fun H' s => ⟨d, rfl, q H' s⟩⟩
def dIsN : D → Option Bool
  | .non => some true
  | .unk => none
  | .ptr _ => none
  | .emp => none
  | _ => some false
theorem isN_ok {K : PySem.W.Frag} {H : Hp} {v : V} {d : D} {fp : List Addr} {b : Bool} (r : Rep K H v d fp) (h : dIsN d = some b) : decide (v = .non) = b := by
  cases r <;> first | (cases h; rfl) | (cases h; simp; done) | (cases h; done)
theorem dt_isN {j pos'} (ha : DE X a κ f) : DT X (.Compare a [.Is] [.Constant .none j pos'] pos) (c1 dIsN f) :=
  pt_mono (pt_cmp (pc_isN ha)) fun σ H Q ⟨H0, ρ, fm, d, er, hf, q⟩ => by
    obtain ⟨x, h1, h2⟩ := bind_some hf
    exact ⟨H0, ρ, fm, x, er, h1, fun v H1 fp s1 r1 k1 => ⟨d, by rw [isN_ok r1 h2], q H1 s1⟩⟩
theorem dt_notN {j pos'} (ha : DE X a κ f) : DT X (.Compare a [.IsNot] [.Constant .none j pos'] pos) (cNot (c1 dIsN f)) :=
  pt_mono (pt_cmp (pc_notN ha)) fun σ H Q ⟨H0, ρ, fm, d, er, hf, q⟩ => by
    obtain ⟨x', h1', h2'⟩ := bind_some hf
    obtain ⟨x, h1, h2⟩ := bind_some h1'
    cases h2'
    exact ⟨H0, ρ, fm, x, er, h1, fun v H1 fp s1 r1 k1 => ⟨!x', by rw [isN_ok r1 h2], q H1 s1⟩⟩
theorem de_isN {j pos'} (ha : DE X a κ f) : DE X (.Compare a [.Is] [.Constant .none j pos'] pos) (.rt []) (fB (c1 dIsN f)) :=
  pe_mono (pe_cmp (pc_isN ha)) fun σ H Q ⟨H0, ρ, fm, d, er, hf, q⟩ => by
    obtain ⟨b, h0, h9⟩ := bind_some hf
    cases h9
    obtain ⟨x, h1, h2⟩ := bind_some h0
    refine ⟨H0, ρ, fm, x, er, h1, fun v H1 fp s1 r1 k1 => ?_⟩
    show Q (.bl (decide (v = .non))) H1
    rw [isN_ok r1 h2]
    exact q _ H1 [] s1 (.bl b) Kd.ok_nil
theorem de_notN {j pos'} (ha : DE X a κ f) : DE X (.Compare a [.IsNot] [.Constant .none j pos'] pos) (.rt []) (fB (cNot (c1 dIsN f))) :=
  pe_mono (pe_cmp (pc_notN ha)) fun σ H Q ⟨H0, ρ, fm, d, er, hf, q⟩ => by
    obtain ⟨b, h0, h9⟩ := bind_some hf
    cases h9
    obtain ⟨b', h0', h9'⟩ := bind_some h0
    cases h9'
    obtain ⟨x, h1, h2⟩ := bind_some h0'
    refine ⟨H0, ρ, fm, x, er, h1, fun v H1 fp s1 r1 k1 => ?_⟩
    show Q (.bl (!decide (v = .non))) H1
    rw [isN_ok r1 h2]
    exact q _ H1 [] s1 (.bl _) Kd.ok_nil
noncomputable def dTru : D → Option Bool
  | .non => some false
  | .bl b => some b
  | .int i => some (i != 0)
  | .tup xs => some (!xs.isEmpty)
  | .lst xs => some (!xs.isEmpty)
  | .kls xs => some (!xs.isEmpty)
  | .str x => gd (x.length ≤ sizeLine) (some ((x.length : Int) != 0))
  | .ty _ => none
  | .unk => none
  | .ptr _ => none
  | .emp => none
theorem isEmpty_len {α β : Type} : ∀ {xs : List α} {ys : List β}, xs.length = ys.length → (!xs.isEmpty) = !ys.isEmpty
  | [], [], _ => rfl
  | _ :: _, _ :: _, _ => rfl
  | [], _ :: _, h => nomatch h
  | _ :: _, [], h => nomatch h
theorem tru_of {K : PySem.W.Frag} {H : Hp} {v : V} {d : D} {fp : List Addr} {b : Bool} (r : Rep K H v d fp) (h : dTru d = some b) : TruV K v H b := by
  cases d with
  | non => cases r; cases h; rfl
  | bl b' => cases r; cases h; rfl
  | int i => cases r; cases h; rfl
  | str x =>
    cases r
    have h : gd (x.length ≤ sizeLine) (some ((x.length : Int) != 0)) = some b := h
    obtain ⟨hl, h⟩ := gds h
    cases h
    exact ⟨hl, rfl⟩
  | ty n => cases h
  | unk => cases h
  | ptr _ => cases h
  | emp => cases h
  | tup xs =>
    obtain ⟨a, vs, rfl, hs, rl⟩ := r.asT
    cases h
    exact .inr (.inl ⟨vs, hs, isEmpty_len rl.len.symm⟩)
  | lst xs =>
    obtain ⟨a, vs, fq, rfl, hs, rl, _⟩ := r.lsq rfl
    cases h
    exact .inl ⟨vs, hs.sq, isEmpty_len rl.len.symm⟩
  | kls xs =>
    obtain ⟨a, vs, fq, rfl, hs, rl, _⟩ := r.lsq rfl
    cases h
    exact .inl ⟨vs, hs.sq, isEmpty_len rl.len.symm⟩
theorem dt_tru (h : DE X e κ f) (he : ∀ whole, isTrue e X.env whole = (do let v ← whole; standAt e.pos; holding [v] (truthy v)) := by intro _; rfl) : DT X e (c1 dTru f) :=
  pt_mono (pt_truth h he) fun σ H Q ⟨H0, ρ, fm, d, er, hf, q⟩ => by
    obtain ⟨x, h1, h2⟩ := bind_some hf
    exact ⟨H0, ρ, fm, x, er, h1, fun v H1 fp s1 r1 k1 => ⟨d, tru_of r1 h2, q H1 s1⟩⟩
variable {c c' : Ev → Option Bool} {rest : List Expr}
theorem dt_not (ha : DT X a c) : DT X (.UnaryOp .Not a pos) (cNot c) := pt_mono (pt_not ha) fun σ H Q ⟨H0, ρ, fm, d, er, hf, q⟩ => by
  obtain ⟨x, h1, h2⟩ := bind_some hf
  cases h2
  exact ⟨H0, ρ, fm, x, er, h1, q⟩
theorem dw_and1 (ha : DT X a c) : DW X (.BoolOp .And [a] pos) c := pw_and1 ha
theorem dw_or1 (ha : DT X a c) : DW X (.BoolOp .Or [a] pos) c := pw_or1 ha
theorem dw_and (ha : DT X a c) (hb : DW X (.BoolOp .And (b :: rest) pos) c') : DW X (.BoolOp .And (a :: b :: rest) pos) (cAnd c c') := pw_mono (pw_and ha hb) fun σ H Q ⟨H0, ρ, fm, d, er, hf, q⟩ => by
  obtain ⟨x, h1, h2⟩ := bind_some hf
  refine ⟨H0, ρ, fm, x, er, h1, fun H1 s1 => ?_⟩
  cases x with
  | true => rw [if_pos rfl] at h2 ⊢; exact ⟨H0, ρ, fm, d, er.mono s1, h2, fun H2 s2 => q H2 (s1.trans s2)⟩
  | false => rw [if_neg Bool.false_ne_true] at h2 ⊢; cases h2; exact q H1 s1
theorem dw_or (ha : DT X a c) (hb : DW X (.BoolOp .Or (b :: rest) pos) c') : DW X (.BoolOp .Or (a :: b :: rest) pos) (cOr c c') := pw_mono (pw_or ha hb) fun σ H Q ⟨H0, ρ, fm, d, er, hf, q⟩ => by
  obtain ⟨x, h1, h2⟩ := bind_some hf
  refine ⟨H0, ρ, fm, x, er, h1, fun H1 s1 => ?_⟩
  cases x with
  | false => rw [if_neg Bool.false_ne_true] at h2 ⊢; exact ⟨H0, ρ, fm, d, er.mono s1, h2, fun H2 s2 => q H2 (s1.trans s2)⟩
  | true => rw [if_pos rfl] at h2 ⊢; cases h2; exact q H1 s1
theorem dt_w (h : DW X e c) : DT X e c := h.pt
def fAnd (f g : FE) : FE := fun ρ => (f ρ).bind fun x => match x with
  | .bl true => g ρ
  | .bl false => some (.bl false)
  | _ => none
def fOr (f g : FE) : FE := fun ρ => (f ρ).bind fun x => match x with
  | .bl false => g ρ
  | .bl true => some (.bl true)
  | _ => none
def dNot : D → Option D
  | .bl b => some (.bl (!b))
  | _ => none
theorem de_one {op} (h : DE X a κ f) : DE X (.BoolOp op [a] pos) κ f := pe_one h
theorem kd_ok_same {K : PySem.W.Frag} {H0 H H1 : Hp} {σ : L2.St} {ρ : Ev} {fm : Nat → List Addr} {fp : List Addr} (s : Same H H1) (k : κ.ok H1 ρ fm fp) : κ.ok H ρ fm fp := by
  cases κ with
  | any => trivial
  | sh => exact k
  | rt S => exact ⟨k.1, fun a ha => (k.2 a ha).elim (fun z => .inl (s.free z)) .inr⟩
theorem de_and (ha : DE X a κ f) (hb : DE X (.BoolOp .And (b :: rest) pos) κ' g) : DE X (.BoolOp .And (a :: b :: rest) pos) κ' (fAnd f g) := pe_mono (pe_and ha hb) fun σ H Q ⟨H0, ρ, fm, d, er, hf, q⟩ => by
  obtain ⟨x, h1, h2⟩ := bind_some hf
  refine ⟨H0, ρ, fm, x, er, h1, fun v H1 fp s1 r1 k1 => ?_⟩
  cases x with
  | bl t =>
    cases t with
    | true => exact ⟨true, r1.asB, (iteT ⟨H0, ρ, fm, d, er.mono s1, h2, fun v2 H2 fq s2 r2 k2 => q v2 H2 fq (s1.trans s2) r2 (kd_ok_same (K := X.K) (H0 := H0) (σ := σ) s1 k2)⟩)⟩
    | false => cases h2; exact ⟨false, r1.asB, iteF (q _ H1 [] s1 (.bl false) Kd.ok_nil)⟩
  | _ => cases h2
theorem de_or (ha : DE X a κ f) (hb : DE X (.BoolOp .Or (b :: rest) pos) κ' g) : DE X (.BoolOp .Or (a :: b :: rest) pos) κ' (fOr f g) := pe_mono (pe_or ha hb) fun σ H Q ⟨H0, ρ, fm, d, er, hf, q⟩ => by
  obtain ⟨x, h1, h2⟩ := bind_some hf
  refine ⟨H0, ρ, fm, x, er, h1, fun v H1 fp s1 r1 k1 => ?_⟩
  cases x with
  | bl t =>
    cases t with
    | false => exact ⟨false, r1.asB, (iteF ⟨H0, ρ, fm, d, er.mono s1, h2, fun v2 H2 fq s2 r2 k2 => q v2 H2 fq (s1.trans s2) r2 (kd_ok_same (K := X.K) (H0 := H0) (σ := σ) s1 k2)⟩)⟩
    | true => cases h2; exact ⟨true, r1.asB, iteT (q _ H1 [] s1 (.bl true) Kd.ok_nil)⟩
  | _ => cases h2
theorem de_not (ha : DE X a κ f) : DE X (.UnaryOp .Not a pos) (.rt []) (f1 dNot f) := pe_mono (pe_not ha) fun σ H Q ⟨H0, ρ, fm, d, er, hf, q⟩ => by
  obtain ⟨x, h1, h2⟩ := bind_some hf
  refine ⟨H0, ρ, fm, x, er, h1, fun v H1 fp s1 r1 k1 => ?_⟩
  cases x with
  | bl t => cases h2; exact ⟨t, r1.asB, q _ H1 [] s1 (.bl _) Kd.ok_nil⟩
  | _ => cases h2
theorem de_ifExp (hc : DT X e c) (ha : DE X a κ f) (hb : DE X b κ g) : DE X (.IfExp e a b pos) κ (fIf c f g) := pe_mono (pe_ifExp hc ha hb) fun σ H Q ⟨H0, ρ, fm, d, er, hf, q⟩ => by
  obtain ⟨x, h1, h2⟩ := bind_some hf
  refine ⟨H0, ρ, fm, x, er, h1, fun H1 s1 => ?_⟩
  cases x with
  | true => rw [if_pos rfl] at h2 ⊢; exact ⟨H0, ρ, fm, d, er.mono s1, h2, fun v H2 fp s2 r2 k2 => q v H2 fp (s1.trans s2) r2 (kd_ok_same (K := X.K) (H0 := H0) (σ := σ) s1 k2)⟩
  | false => rw [if_neg Bool.false_ne_true] at h2 ⊢; exact ⟨H0, ρ, fm, d, er.mono s1, h2, fun v H2 fp s2 r2 k2 => q v H2 fp (s1.trans s2) r2 (kd_ok_same (K := X.K) (H0 := H0) (σ := σ) s1 k2)⟩
end
end Z
namespace Z
open PySem PySem.Spec PyProof.Rows L2
noncomputable def dAdd : D → D → Option D
  | .int i, .int j => some (.int (i + j))
  | x, y => x.lsq.bind fun xs => y.lsq.bind fun ys => gd (xs.length + ys.length ≤ sizeLine ∧ D.immL xs = true ∧ D.immL ys = true) (some (.lst (xs ++ ys)))
def dSub : D → D → Option D
  | .int i, .int j => some (.int (i - j))
  | _, _ => none
noncomputable def dMul : D → D → Option D
  | .int i, .int j => gd ((Builtin.Int.intBits i : Int) + (Builtin.Int.intBits j : Int) ≤ 134217728) (some (.int (i * j)))
  | _, _ => none
noncomputable def dDiv : D → D → Option D
  | .int i, .int j => gd (0 < j ∧ j.natAbs.log2 < 9000) (some (.int (i / j)))
  | _, _ => none
noncomputable def dMod : D → D → Option D
  | .int i, .int j => gd (0 < j) (some (.int (i % j)))
  | _, _ => none
noncomputable def dPow : D → D → Option D
  | .int i, .int j => gd (0 ≤ j ∧ j ≤ 1000000 ∧ i.natAbs < 2 ^ 64) (some (.int (i ^ j.toNat)))
  | _, _ => none
def dNeg : D → Option D
  | .int i => some (.int (-i))
  | _ => none
section
variable {K : PySem.W.Frag} {X : Cx}
theorem rI0_op {g : Int → Int → Int} {k : D → D → Option D} (hk : ∀ x y d, k x y = some d → ∃ i j, x = .int i ∧ y = .int j ∧ d = .int (g i j)) : Op2 K (rI0 fun i j => .int (g i j)) k := by
  intro x y d vx vy H fx fy Q h r1 r2 q
  obtain ⟨i, j, rfl, rfl, rfl⟩ := hk x y d h
  exact ⟨i, j, r1.asI, r2.asI, q _ H [] (Same.refl H) (.int _) List.nodup_nil fun _ z => nomatch z⟩
theorem rI_op {C : Int → Int → Prop} {g : Int → Int → Int} {k : D → D → Option D} (hk : ∀ x y d, k x y = some d → ∃ i j, x = .int i ∧ y = .int j ∧ C i j ∧ d = .int (g i j)) : Op2 K (rI C fun i j => .int (g i j)) k := by
  intro x y d vx vy H fx fy Q h r1 r2 q
  obtain ⟨i, j, rfl, rfl, c, rfl⟩ := hk x y d h
  exact ⟨i, j, r1.asI, r2.asI, c, q _ H [] (Same.refl H) (.int _) List.nodup_nil fun _ z => nomatch z⟩
theorem OpR.or {f : Value → Value → Sem Value} {r r' : R2} (h : OpR X f r) (h' : OpR X f r') : OpR X f (fun x y H Q => r x y H Q ∨ r' x y H Q) := by
  intro pins s σ H x y v u Q I rx ry q
  rcases q with q | q
  · exact h pins s σ H x y v u Q I rx ry q
  · exact h' pins s σ H x y v u Q I rx ry q
theorem Op2.orD {r r' : R2} {k : D → D → Option D} (h : ∀ x y d, k x y = some d → (∀ vx vy H fx fy (Q : VK), Rep K H vx x fx → Rep K H vy y fy → (∀ v H' fp, Same H H' → Rep K H' v d fp → fp.Nodup → (∀ a ∈ fp, H a = none) → Q v H') → r vx vy H Q) ∨
    (∀ vx vy H fx fy (Q : VK), Rep K H vx x fx → Rep K H vy y fy → (∀ v H' fp, Same H H' → Rep K H' v d fp → fp.Nodup → (∀ a ∈ fp, H a = none) → Q v H') → r' vx vy H Q)) : Op2 K (fun x y H Q => r x y H Q ∨ r' x y H Q) k := by
  intro x y d vx vy H fx fy Q hk r1 r2 q
  rcases h x y d hk with z | z
  · exact .inl (z vx vy H fx fy Q r1 r2 q)
  · exact .inr (z vx vy H fx fy Q r1 r2 q)
theorem ifs {α : Type} {c : Prop} [Decidable c] {x y : α} (h : (if c then some x else none) = some y) : c ∧ x = y := by
  by_cases hc : c
  · rw [if_pos hc] at h; exact ⟨hc, Option.some.inj h⟩
  · rw [if_neg hc] at h; cases h
theorem o_sub : Op2 K (rI0 fun i j => .int (i - j)) dSub := rI0_op fun x y d h => by
  unfold dSub at h
  split at h
  · cases h; exact ⟨_, _, rfl, rfl, rfl⟩
  · cases h
theorem o_mul : Op2 K (rI CMulX fun i j => .int (i * j)) dMul := rI_op fun x y d h => by
  unfold dMul at h
  split at h
  · obtain ⟨c, h⟩ := gds h; cases h; exact ⟨_, _, rfl, rfl, c, rfl⟩
  · cases h
theorem o_div : Op2 K (rI CDivW fun i j => .int (i / j)) dDiv := rI_op fun x y d h => by
  unfold dDiv at h
  split at h
  · obtain ⟨c, h⟩ := gds h; cases h; exact ⟨_, _, rfl, rfl, c, rfl⟩
  · cases h
theorem o_mod : Op2 K (rI (fun _ j => 0 < j) fun i j => .int (i % j)) dMod := rI_op fun x y d h => by
  unfold dMod at h
  split at h
  · obtain ⟨c, h⟩ := gds h; cases h; exact ⟨_, _, rfl, rfl, c, rfl⟩
  · cases h
theorem o_pow : Op2 K (rI CPow fun i j => .int (i ^ j.toNat)) dPow := rI_op fun x y d h => by
  unfold dPow at h
  split at h
  · obtain ⟨c, h⟩ := gds h; cases h; exact ⟨_, _, rfl, rfl, c, rfl⟩
  · cases h
theorem o_neg : OpU K (rU fun i => .int (-i)) dNeg := by
  intro x d vx H fx Q h r q
  unfold dNeg at h
  split at h
  · cases h
    exact ⟨_, r.asI, q _ H [] (Same.refl H) (.int _) List.nodup_nil fun _ z => nomatch z⟩
  · cases h
def rCatX (K : PySem.W.Frag) : R2 := fun x y H Q => ∃ l b xs zs, x = .ref l ∧ y = .ref b ∧ SqX K H l xs ∧ SqX K H b zs ∧ xs.length + zs.length ≤ sizeLine ∧ ∀ p, H p = none → Q (.ref p) (upd H p (.lst (xs ++ zs)))
theorem op_catX : OpR X (binaryOp .Add) (rCatX X.K) := by
  intro pins s σ H x y v u Q I rx ry h
  obtain ⟨l, b, xs, zs, rfl, rfl, hH, hB, hz, q⟩ := h
  cases rx
  cases ry
  obtain ⟨its, n, r, e, _⟩ := hH.obj I
  obtain ⟨its2, n2, r2, e2, _⟩ := hB.obj I
  have hl := r.length
  have hl2 := r2.length
  refine PySem.P.add_list e e2 ?_ (by rw [List.size_toArray, List.size_toArray]; omega)
  have ea : its.toArray ++ its2.toArray = (its ++ its2).toArray := by simp
  rw [ea]
  exact ⟨.ref _, _, I.lnew (t' := s.toks) (r.append r2) (by rw [List.length_append]; omega), rfl, q _ I.fresh⟩
theorem RepL.nil_imm {H : Hp} {vs : List V} {ds : List D} {fp : List Addr} (r : RepL K H vs ds fp) (h : D.immL ds = true) : RepL K H vs ds [] := by
  have e := r.imm h
  subst e
  exact r
theorem new_lst {H : Hp} {p : Addr} {vs : List V} {ds : List D} {Q : VK} (hp : H p = none) (r : RepL K H vs ds []) (q : ∀ v H' fp, Same H H' → Rep K H' v (.lst ds) fp → fp.Nodup → (∀ a ∈ fp, H a = none) → Q v H') : Q (.ref p) (upd H p (.lst vs)) :=
  q (.ref p) _ [p] (same_upd hp) (.lst upd_same (r.same (same_upd hp))) (by simp) fun a ha => by
    have e : a = p := by simpa using ha
    rw [e]; exact hp
theorem o_add : Op2 K (fun x y H Q => rI0 (fun i j => .int (i + j)) x y H Q ∨ rCatX K x y H Q) dAdd := by
  intro x y d vx vy H fx fy Q h r1 r2 q
  unfold dAdd at h
  split at h
  · cases h
    exact .inl ⟨_, _, r1.asI, r2.asI, q _ H [] (Same.refl H) (.int _) List.nodup_nil fun _ z => nomatch z⟩
  · obtain ⟨xs, h1, h⟩ := bind_some h
    obtain ⟨ys, h2, h⟩ := bind_some h
    obtain ⟨⟨hl, i1, i2⟩, h⟩ := gds h
    cases h
    obtain ⟨a, vs, fq, rfl, hs, rl, _⟩ := r1.lsq h1
    obtain ⟨b, ws, fr, rfl, hs2, rl2, _⟩ := r2.lsq h2
    refine .inr ⟨a, b, vs, ws, rfl, rfl, hs, hs2, by rw [rl.len, rl2.len]; exact hl, fun p hp => ?_⟩
    exact new_lst hp ((rl.nil_imm i1).app (rl2.nil_imm i2)) q
theorem op_addX : OpR X (binaryOp .Add) (fun x y H Q => rI0 (fun i j => .int (i + j)) x y H Q ∨ rCatX X.K x y H Q) := OpR.or op_add op_catX
end
def pI (p : Int → Int → Bool) : D → D → Option Bool
  | .int i, .int j => some (p i j)
  | _, _ => none
abbrev dLt := pI fun i j => decide (i < j)
abbrev dLe := pI fun i j => decide (i ≤ j)
abbrev dGt := pI fun i j => decide (j < i)
abbrev dGe := pI fun i j => decide (j ≤ i)
section
variable {K : PySem.W.Frag} {X : Cx}
theorem o_cmp {p : Int → Int → Bool} : OpC K (rI0 fun i j => .bl (p i j)) (pI p) := by
  intro x y b vx vy H fx fy Q h r1 r2 q
  unfold pI at h
  split at h
  · cases h; exact ⟨_, _, r1.asI, r2.asI, q⟩
  · cases h
end
mutual
def D.py : D → PyData
  | .non => .none
  | .bl b => .bool b
  | .int i => .int i
  | .str x => .str x
  | .ty _ => .none
  | .unk => .none
  | .ptr _ => .none
  | .emp => .none
  | .tup xs => .tuple (D.pyL xs)
  | .lst xs => .list (D.pyL xs)
  | .kls xs => .list (D.pyL xs)
def D.pyL : List D → List PyData
  | [] => []
  | x :: xs => x.py :: D.pyL xs
end
mutual
def D.eqOk : D → Nat → Bool
  | .non, _ => true
  | .bl _, _ => true
  | .int _, _ => true
  | .str x, _ => PyData.strOk x
  | .ty _, _ => false
  | .unk, _ => false
  | .ptr _, _ => false
  | .emp, _ => false
  | .kls xs, n => match n with
    | 0 => false
    | n + 1 => D.eqOkL xs n
  | .tup xs, n => match n with
    | 0 => false
    | n + 1 => D.eqOkL xs n
  | .lst xs, n => match n with
    | 0 => false
    | n + 1 => D.eqOkL xs n
def D.eqOkL : List D → Nat → Bool
  | [], _ => true
  | x :: xs, n => x.eqOk n && D.eqOkL xs n
end
mutual
theorem D.eqOk_can : ∀ (d : D) (n : Nat), d.eqOk n = true → d.py.canLay0 = true
  | .non, _, _ => by simp [D.py, PyData.canLay0]
  | .bl _, _, _ => by simp [D.py, PyData.canLay0]
  | .int _, _, _ => by simp [D.py, PyData.canLay0]
  | .str x, _, h => by rw [D.eqOk] at h; simpa [D.py, PyData.canLay0] using h
  | .ty _, _, h => by rw [D.eqOk] at h; cases h
  | .unk, _, h => by rw [D.eqOk] at h; cases h
  | .ptr _, _, h => by rw [D.eqOk] at h; cases h
  | .emp, _, h => by rw [D.eqOk] at h; cases h
  | .kls xs, 0, h => by rw [D.eqOk] at h; cases h
  | .kls xs, n + 1, h => by rw [D.eqOk] at h; rw [D.py, PyData.canLay0]; exact D.eqOkL_can xs n h
  | .tup xs, 0, h => by rw [D.eqOk] at h; cases h
  | .tup xs, n + 1, h => by rw [D.eqOk] at h; rw [D.py, PyData.canLay0]; exact D.eqOkL_can xs n h
  | .lst xs, 0, h => by rw [D.eqOk] at h; cases h
  | .lst xs, n + 1, h => by rw [D.eqOk] at h; rw [D.py, PyData.canLay0]; exact D.eqOkL_can xs n h
theorem D.eqOkL_can : ∀ (d : List D) (n : Nat), D.eqOkL d n = true → PyData.canLayAll0 (D.pyL d) = true
  | [], _, _ => by simp [D.pyL, PyData.canLayAll0]
  | x :: xs, n, h => by
    rw [D.eqOkL, Bool.and_eq_true] at h
    rw [D.pyL, PyData.canLayAll0, D.eqOk_can x n h.1, D.eqOkL_can xs n h.2]
    rfl
end
mutual
theorem D.eqOk_dep : ∀ (d : D) (n : Nat), d.eqOk n = true → d.py.depth ≤ n
  | .non, _, _ => by simp [D.py, PyData.depth]
  | .bl _, _, _ => by simp [D.py, PyData.depth]
  | .int _, _, _ => by simp [D.py, PyData.depth]
  | .str x, _, h => by simp [D.py, PyData.depth]
  | .ty _, _, h => by rw [D.eqOk] at h; cases h
  | .unk, _, h => by rw [D.eqOk] at h; cases h
  | .ptr _, _, h => by rw [D.eqOk] at h; cases h
  | .emp, _, h => by rw [D.eqOk] at h; cases h
  | .kls xs, 0, h => by rw [D.eqOk] at h; cases h
  | .kls xs, n + 1, h => by
    rw [D.eqOk] at h
    have := D.eqOkL_dep xs n h
    rw [D.py, PyData.depth]
    omega
  | .tup xs, 0, h => by rw [D.eqOk] at h; cases h
  | .tup xs, n + 1, h => by
    rw [D.eqOk] at h
    have := D.eqOkL_dep xs n h
    rw [D.py, PyData.depth]
    omega
  | .lst xs, 0, h => by rw [D.eqOk] at h; cases h
  | .lst xs, n + 1, h => by
    rw [D.eqOk] at h
    have := D.eqOkL_dep xs n h
    rw [D.py, PyData.depth]
    omega
theorem D.eqOkL_dep : ∀ (d : List D) (n : Nat), D.eqOkL d n = true → PyData.depthAll (D.pyL d) ≤ n
  | [], _, _ => by simp [D.pyL, PyData.depthAll]
  | x :: xs, n, h => by
    rw [D.eqOkL, Bool.and_eq_true] at h
    have h1 := D.eqOk_dep x n h.1
    have h2 := D.eqOkL_dep xs n h.2
    rw [D.pyL, PyData.depthAll]
    omega
end
mutual
def D.eqv : D → D → Bool
  | .non, .non => true
  | .bl a, .bl b => a == b
  | .bl a, .int j => (if a then 1 else 0) == j
  | .int i, .bl b => i == (if b then 1 else 0)
  | .int i, .int j => i == j
  | .str x, .str y => x == y
  | .lst xs, .lst ys => D.eqvL xs ys
  | .lst xs, .kls ys => D.eqvL xs ys
  | .kls xs, .lst ys => D.eqvL xs ys
  | .kls xs, .kls ys => D.eqvL xs ys
  | .tup xs, .tup ys => D.eqvL xs ys
  | _, _ => false
def D.eqvL : List D → List D → Bool
  | [], [] => true
  | x :: xs, y :: ys => x.eqv y && D.eqvL xs ys
  | _, _ => false
end
mutual
theorem D.eqv_py : ∀ (d e : D) (n m : Nat), d.eqOk n = true → e.eqOk m = true → PyData.eqv d.py e.py = d.eqv e := by
  intro d e n m h1 h2
  cases d <;> cases e <;> first
    | (simp only [D.py, PyData.eqv, D.eqv]; done)
    | (rw [D.eqOk] at h1; cases h1; done)
    | (rw [D.eqOk] at h2; cases h2; done)
    | (simp only [D.py, PyData.eqv, D.eqv]
       cases n with
       | zero => rw [D.eqOk] at h1; cases h1
       | succ n =>
         cases m with
         | zero => rw [D.eqOk] at h2; cases h2
         | succ m =>
           rw [D.eqOk] at h1
           rw [D.eqOk] at h2
           exact D.eqvL_py _ _ n m h1 h2)
theorem D.eqvL_py : ∀ (d e : List D) (n m : Nat), D.eqOkL d n = true → D.eqOkL e m = true → PyData.eqvAll (D.pyL d) (D.pyL e) = D.eqvL d e
  | [], [], _, _, _, _ => by simp only [D.pyL, PyData.eqvAll, D.eqvL]
  | [], _ :: _, _, _, _, _ => by simp only [D.pyL, PyData.eqvAll, D.eqvL]
  | _ :: _, [], _, _, _, _ => by simp only [D.pyL, PyData.eqvAll, D.eqvL]
  | x :: xs, y :: ys, n, m, h1, h2 => by
    rw [D.eqOkL, Bool.and_eq_true] at h1 h2
    simp only [D.pyL, PyData.eqvAll, D.eqvL]
    rw [D.eqv_py x y n m h1.1 h2.1, D.eqvL_py xs ys n m h1.2 h2.2]
end
def dEq (d e : D) : Option Bool := if d.eqOk 64 = true ∧ e.eqOk 64 = true then some (d.eqv e) else none
def dNe (d e : D) : Option Bool := if d.eqOk 64 = true ∧ e.eqOk 64 = true then some (!d.eqv e) else none
section
variable {K : PySem.W.Frag} {X : Cx}
mutual
theorem Rep.dp {H : Hp} : ∀ {v : V} {d : D} {fp : List Addr} (n : Nat), Rep K H v d fp → d.eqOk n = true → Dp K H v d.py
  | _, _, _, _, .non, _ => by rw [D.py]; exact .non
  | _, _, _, _, .bl b, _ => by rw [D.py]; exact .bl b
  | _, _, _, _, .int i, _ => by rw [D.py]; exact .int i
  | _, _, _, _, .str i, _ => by rw [D.py]; exact .str i
  | _, _, _, _, .ty i, h => by rw [D.eqOk] at h; cases h
  | _, _, _, _, .unk v, h => by rw [D.eqOk] at h; cases h
  | _, _, _, _, .ptr v, h => by rw [D.eqOk] at h; cases h
  | _, _, _, _, .emp _, h => by rw [D.eqOk] at h; cases h
  | _, _, _, 0, .tup _ _, h => by rw [D.eqOk] at h; cases h
  | _, _, _, n + 1, .tup hs r, h => by rw [D.eqOk] at h; rw [D.py]; exact .tup hs (RepL.dp n r h)
  | _, _, _, 0, .lst _ _, h => by rw [D.eqOk] at h; cases h
  | _, _, _, n + 1, .lst hs r, h => by rw [D.eqOk] at h; rw [D.py]; exact .lst (.inl (.inl hs)) (RepL.dp n r h)
  | _, _, _, 0, .knw _ _, h => by rw [D.eqOk] at h; cases h
  | _, _, _, n + 1, .knw hs r, h => by rw [D.eqOk] at h; rw [D.py]; exact .lst hs.sq (RepL.dp n r h)
theorem RepL.dp {H : Hp} : ∀ {v : List V} {d : List D} {fp : List Addr} (n : Nat), RepL K H v d fp → D.eqOkL d n = true → DpAll K H v (D.pyL d)
  | _, _, _, _, .nil, _ => by rw [D.pyL]; exact .nil
  | _, _, _, n, .cons x r, h => by
    rw [D.eqOkL, Bool.and_eq_true] at h
    rw [D.pyL]
    exact .cons (Rep.dp n x h.1) (RepL.dp n r h.2)
end
theorem D.eqOk_shp {d : D} (h : d.eqOk 64 = true) : SeqAt.shaped d.py = true := by
  unfold SeqAt.shaped
  rw [d.eqOk_can 64 h, decide_eq_true (d.eqOk_dep 64 h)]
  rfl
theorem o_eq : OpC K (rEqD K) dEq := by
  intro x y b vx vy H fx fy Q h r1 r2 q
  obtain ⟨⟨h1, h2⟩, rfl⟩ := ifs h
  refine ⟨x.py, y.py, r1.dp 64 h1, r2.dp 64 h2, D.eqOk_shp h1, D.eqOk_shp h2, ?_⟩
  rw [D.eqv_py x y 64 64 h1 h2]
  exact q
theorem o_ne : OpC K (rNeD K) dNe := by
  intro x y b vx vy H fx fy Q h r1 r2 q
  obtain ⟨⟨h1, h2⟩, rfl⟩ := ifs h
  refine ⟨x.py, y.py, r1.dp 64 h1, r2.dp 64 h2, D.eqOk_shp h1, D.eqOk_shp h2, ?_⟩
  rw [D.eqv_py x y 64 64 h1 h2]
  exact q
end
noncomputable def dIx : D → D → Option D
  | .lst xs, .int i => atI xs i
  | .kls xs, .int i => atI xs i
  | .tup xs, .int i => atI xs i
  | .str z, .int i => gd (z.length ≤ sizeLine) ((atI z.cps.toList i).bind fun c => some (.str ⟨#[c]⟩))
  | _, _ => none
theorem atI_rep {K : PySem.W.Frag} {H : Hp} {vs : List V} {ds : List D} {fp : List Addr} {i : Int} {d : D} (r : RepL K H vs ds fp) (h : atI ds i = some d) : ∃ v fq l r', atI vs i = some v ∧ Rep K H v d fq ∧ fp = l ++ (fq ++ r') := by
  unfold atI at h ⊢
  rw [r.len]
  cases e : ixN ds.length i with
  | none => rw [e] at h; cases h
  | some j =>
    rw [e] at h
    obtain ⟨v, fq, l, r', h1, h2, h3⟩ := r.at (i := j) h
    exact ⟨v, fq, l, r', h1, h2, h3⟩
theorem Kd.ok_sub {κ : Kd} {H : Hp} {ρ : Ev} {fm : Nat → List Addr} {l fq r : List Addr} (k : κ.ok H ρ fm (l ++ (fq ++ r))) : κ.ok H ρ fm fq := by
  cases κ with
  | any => trivial
  | sh => exact fun a ha => k a (List.mem_append_right _ (List.mem_append_left _ ha))
  | rt S =>
    refine ⟨?_, fun a ha => k.2 a (List.mem_append_right _ (List.mem_append_left _ ha))⟩
    have h1 := (List.nodup_append.mp k.1).2.1
    exact (List.nodup_append.mp h1).1
section
variable {X : Cx} {a b : Expr} {κ κ' : Kd} {f g : FE} {pos : Pos}
theorem de_ix (ha : DE X a κ f) (hb : DE X b κ' g) (hs : PlainIx b := by exact fun _ _ => rfl) : DE X (.Subscript a b pos) κ (f2 dIx f g) := pe_mono (pe_ix ix_seq ha hb hs) fun σ H Q ⟨H0, ρ, fm, d, er, hf, q⟩ => by
  obtain ⟨x, h1, h2⟩ := bind_some hf
  obtain ⟨y, h3, h4⟩ := bind_some h2
  refine ⟨H0, ρ, fm, x, er, h1, fun v H1 fp s1 r1 k1 => ⟨H0, ρ, fm, y, er.mono s1, h3, fun u H2 fq s2 r2 k2 => ?_⟩⟩
  have r1' := r1.same s2
  unfold dIx at h4
  split at h4
  · obtain ⟨a, vs, fz, rfl, hs, rl, l, rfl⟩ := r1'.lsq rfl
    obtain ⟨w, f4, l', r', e, rw', rfl⟩ := atI_rep rl h4
    exact .inl ⟨a, vs, _, w, rfl, r2.asI, hs.sq, e, q w H2 f4 (s1.trans s2) rw' (Kd.ok_sub (l := l ++ l') (r := r') (by simpa using k1))⟩
  · obtain ⟨a, vs, fz, rfl, hs, rl, l, rfl⟩ := r1'.lsq rfl
    obtain ⟨w, f4, l', r', e, rw', rfl⟩ := atI_rep rl h4
    exact .inl ⟨a, vs, _, w, rfl, r2.asI, hs.sq, e, q w H2 f4 (s1.trans s2) rw' (Kd.ok_sub (l := l ++ l') (r := r') (by simpa using k1))⟩
  · obtain ⟨a, vs, rfl, hs, rl⟩ := r1'.asT
    obtain ⟨w, f4, l', r', e, rw', rfl⟩ := atI_rep rl h4
    exact .inr (.inl ⟨a, vs, _, w, rfl, r2.asI, hs, e, q w H2 f4 (s1.trans s2) rw' (Kd.ok_sub k1)⟩)
  · next z i =>
    obtain ⟨hz, h4⟩ := gds h4
    obtain ⟨c, e, h5⟩ := bind_some h4
    cases h5
    exact .inr (.inr ⟨z, i, c, r1'.asS, r2.asI, hz, e, q _ H2 [] (s1.trans s2) (.str _) Kd.ok_nil⟩)
  · cases h4
def FO := Ev → Option (Option Int)
def tO (K : PySem.W.Frag) (f : FO) : TO := fun σ H Q => ∃ H0 ρ fm d, ER K H0 H σ ρ fm ∧ f ρ = some d ∧ ∀ H', Same H H' → Q d H'
abbrev DO (X : Cx) (e : Option Expr) (f : FO) : Prop := PO X e (tO X.K f)
def oNone : FO := fun _ => some none
def oSome (f : FE) : FO := fun ρ => (f ρ).bind fun d => match d with
  | .int i => some (some i)
  | _ => none
theorem po_mono {e : Option Expr} {t t' : TO} (h : PO X e t) (hm : ∀ σ H Q, t' σ H Q → t σ H Q) : PO X e t' := ⟨fun pins s σ H Q I q => h.run pins s σ H Q I (hm σ H Q q)⟩
theorem do_none : DO X none oNone := po_mono po_none fun σ H Q ⟨H0, ρ, fm, d, er, hf, q⟩ => by
  cases hf
  exact q H (Same.refl H)
theorem do_some (h : DE X a κ f) : DO X (some a) (oSome f) := po_mono (po_some h) fun σ H Q ⟨H0, ρ, fm, d, er, hf, q⟩ => by
  obtain ⟨x, h1, h2⟩ := bind_some hf
  refine ⟨H0, ρ, fm, x, er, h1, fun v H1 fp s1 r1 k1 => ?_⟩
  cases x with
  | int i => cases h2; exact ⟨i, r1.asI, q H1 s1⟩
  | _ => cases h2
def dCut (xs : List D) (lo hi : Option Int) : List D := (xs.drop (HT.sIx xs.length 0 lo)).take (HT.sIx xs.length xs.length hi - HT.sIx xs.length 0 lo)
def fSl (f : FE) (lo hi : FO) : FE := fun ρ => (f ρ).bind fun x => (lo ρ).bind fun l => (hi ρ).bind fun h => x.lsq.bind fun xs => if D.immL xs = true then some (.lst (dCut xs l h)) else none
theorem immL_drop : ∀ {xs : List D} (n : Nat), D.immL xs = true → D.immL (xs.drop n) = true
  | _, 0, h => h
  | [], _ + 1, h => h
  | x :: xs, n + 1, h => by
    rw [D.immL, Bool.and_eq_true] at h
    exact immL_drop n h.2
theorem immL_take : ∀ {xs : List D} (n : Nat), D.immL xs = true → D.immL (xs.take n) = true
  | _, 0, h => rfl
  | [], _ + 1, h => rfl
  | x :: xs, n + 1, h => by
    rw [D.immL, Bool.and_eq_true] at h
    rw [List.take_succ_cons, D.immL, h.1, immL_take n h.2]
    rfl
theorem RepL.drop0 {K : PySem.W.Frag} {H : Hp} : ∀ {vs : List V} {ds : List D} {fp : List Addr} (n : Nat), RepL K H vs ds fp → D.immL ds = true → RepL K H (vs.drop n) (ds.drop n) []
  | _, _, _, 0, r, h => r.nil_imm h
  | _, _, _, n + 1, .nil, _ => .nil
  | _, _, _, n + 1, .cons x r, h => by
    rw [D.immL, Bool.and_eq_true] at h
    exact RepL.drop0 n r h.2
theorem RepL.take0 {K : PySem.W.Frag} {H : Hp} : ∀ {vs : List V} {ds : List D} {fp : List Addr} (n : Nat), RepL K H vs ds fp → D.immL ds = true → RepL K H (vs.take n) (ds.take n) []
  | _, _, _, 0, r, h => .nil
  | _, _, _, n + 1, .nil, _ => .nil
  | _, _, _, n + 1, .cons x r, h => by
    rw [D.immL, Bool.and_eq_true] at h
    have e := x.imm h.1
    subst e
    exact .cons (fp := []) (fq := []) x (RepL.take0 n r h.2)
theorem de_slice {lo hi : Option Expr} {fl fh : FO} {p2 : Pos} (ha : DE X a κ f) (hl : DO X lo fl) (hh : DO X hi fh) : DE X (.Subscript a (.Slice lo hi none p2) pos) (.rt []) (fSl f fl fh) := pe_mono (pe_slice sl_list ha hl hh) fun σ H Q ⟨H0, ρ, fm, d, er, hf, q⟩ => by
  obtain ⟨x, h1, h2⟩ := bind_some hf
  obtain ⟨l, h3, h4⟩ := bind_some h2
  obtain ⟨h, h5, h6⟩ := bind_some h4
  refine ⟨H0, ρ, fm, x, er, h1, fun v H1 fp s1 r1 k1 => ⟨H0, ρ, fm, l, er.mono s1, h3, fun H2 s2 => ⟨H0, ρ, fm, h, (er.mono s1).mono s2, h5, fun H3 s3 => ?_⟩⟩⟩
  obtain ⟨xs, h7, h6⟩ := bind_some h6
  obtain ⟨im, rfl⟩ := ifs h6
  obtain ⟨a, vs, fz, rfl, hs, rl, _⟩ := ((r1.same s2).same s3).lsq h7
  refine ⟨a, vs, rfl, hs.sq, fun p hp => ?_⟩
  have e : cutV vs l h = (vs.drop (HT.sIx xs.length 0 l)).take (HT.sIx xs.length xs.length h - HT.sIx xs.length 0 l) := by
    unfold cutV
    rw [rl.len]
  rw [e]
  exact new_lst hp (RepL.take0 _ (RepL.drop0 _ (rl.nil_imm im) im) (immL_drop _ im)) fun v' H4 fp' s4 r4 n4 fr4 => q v' H4 fp' (((s1.trans s2).trans s3).trans s4) r4 (kd_fresh ((s1.trans s2).trans s3) n4 fr4)
end
end Z
namespace Z
open PySem PySem.Spec PyProof.Rows L2
section
variable {X : Cx} {e : Expr} {es : List Expr} {κ : Kd} {fa : Ev → Option (List D)} {p pos : Pos} {x : Str} {r : List V → Hp → VK → Prop} {k : List D → Option D} {id T : String}
theorem t_cb {K : PySem.W.Frag} (hk : OpA K r k) {σ : L2.St} {H : Hp} {Q : VK} (q : tE K (.rt []) (fA k fa) σ H Q) : tCB r (tA K κ fa) σ H Q := by
  obtain ⟨H0, ρ, fm, d, er, hf, q⟩ := q
  obtain ⟨ds, h1, h2⟩ := bind_some hf
  exact ⟨H0, ρ, fm, ds, er, h1, fun vs H1 fp s1 r1 k1 => hk ds d vs H1 fp Q h2 r1 fun v H2 fq s2 r2 n fr => q v H2 fq (s1.trans s2) r2 (kd_fresh s1 n fr)⟩
theorem de_callB (hc : CallR X (.builtin id) r) (hk : OpA X.K r k) (hg : Gl X x) (hm : X.mg x = none) (hv : bootBuiltins x = some (.builtin id)) (ha : DA X (e :: es) κ fa) (hn : x ≠ "__name__" := by decide) (hdb : (x == ("__debug__" : Str)) = false := by decide)
    (he : starEach (e :: es) X.env = (false, eval e X.env) :: starEach es X.env := by rfl) (hpl : (backTo pos (starEach es X.env)).any (·.1) = false := by rfl) : DE X (.Call (.Name x p) (e :: es) [] pos) (.rt []) (fA k fa) :=
  pe_mono (pe_callB hc hg hm hv ha.run hn hdb he hpl) fun σ H Q q => t_cb hk q
theorem de_callTy (hc : CallR X (.type T) r) (hk : OpA X.K r k) (hg : Gl X x) (hm : X.mg x = none) (hv : bootBuiltins x = some (.type T)) (ha : DA X (e :: es) κ fa) (hn : x ≠ "__name__" := by decide) (hdb : (x == ("__debug__" : Str)) = false := by decide)
    (he : starEach (e :: es) X.env = (false, eval e X.env) :: starEach es X.env := by rfl) (hpl : (backTo pos (starEach es X.env)).any (·.1) = false := by rfl) : DE X (.Call (.Name x p) (e :: es) [] pos) (.rt []) (fA k fa) :=
  pe_mono (pe_callTy hc hg hm hv ha.run hn hdb he hpl) fun σ H Q q => t_cb hk q
end
noncomputable def dLen : List D → Option D
  | [.lst xs] => some (.int xs.length)
  | [.kls xs] => some (.int xs.length)
  | [.tup xs] => some (.int xs.length)
  | [.str z] => gd (z.length ≤ sizeLine) (some (.int z.length))
  | _ => none
def dAbs : List D → Option D
  | [.int i] => some (.int i.natAbs)
  | _ => none
def dInt1 : List D → Option D
  | [.int i] => some (.int i)
  | [.bl b] => some (.int (if b then 1 else 0))
  | _ => none
def dList : List D → Option D
  | [.lst xs] => if D.immL xs = true then some (.lst xs) else none
  | [.kls xs] => if D.immL xs = true then some (.lst xs) else none
  | [.tup xs] => if D.immL xs = true then some (.lst xs) else none
  | _ => none
def dTuple : List D → Option D
  | [.lst xs] => if D.immL xs = true then some (.tup xs) else none
  | [.kls xs] => if D.immL xs = true then some (.tup xs) else none
  | [.tup xs] => if D.immL xs = true then some (.tup xs) else none
  | _ => none
def dTyN : D → Option String
  | .non => some "NoneType"
  | .bl _ => some "bool"
  | .int _ => some "int"
  | .str _ => some "str"
  | .tup _ => some "tuple"
  | .lst _ => some "list"
  | .kls _ => some "list"
  | .ty _ => none
  | .unk => none
  | .ptr _ => none
  | .emp => some "dict"
def isT (a b : String) : Option Bool :=
  if b = "int" then some (decide (a = "int" ∨ a = "bool")) else if b = "bool" ∨ b = "str" ∨ b = "tuple" ∨ b = "list" then some (decide (a = b)) else none
def dIsi : List D → Option D
  | [x, .ty n] => (dTyN x).bind fun t => (isT t n).bind fun b => some (.bl b)
  | _ => none
def allB : List D → Option (List Bool)
  | [] => some []
  | .bl b :: r => (allB r).bind fun bs => some (b :: bs)
  | _ => none
def allI : List D → Option (List Int)
  | [] => some []
  | .int b :: r => (allI r).bind fun bs => some (b :: bs)
  | _ => none
def dAny : List D → Option D
  | [.lst xs] => (allB xs).bind fun bs => some (.bl (bs.any id))
  | _ => none
def dAll : List D → Option D
  | [.lst xs] => (allB xs).bind fun bs => some (.bl (bs.all id))
  | _ => none
def dSum : List D → Option D
  | [.lst xs] => (allI xs).bind fun bs => some (.int bs.sum)
  | _ => none
def lMax : List Int → Int
  | [] => 0
  | [x] => x
  | x :: r => max x (lMax r)
def lMin : List Int → Int
  | [] => 0
  | [x] => x
  | x :: r => min x (lMin r)
def dMax1 : List D → Option D
  | [.lst xs] => (allI xs).bind fun bs => if 0 < bs.length then some (.int (lMax bs)) else none
  | _ => none
def dMin1 : List D → Option D
  | [.lst xs] => (allI xs).bind fun bs => if 0 < bs.length then some (.int (lMin bs)) else none
  | _ => none
def dMax2 : List D → Option D
  | [.int i, .int j] => some (.int (if j > i then j else i))
  | _ => none
def dMin2 : List D → Option D
  | [.int i, .int j] => some (.int (if j < i then j else i))
  | _ => none
section
variable {K : PySem.W.Frag} {X : Cx}
theorem RepL.one {H : Hp} {vs : List V} {d : D} {fp : List Addr} (r : RepL K H vs [d] fp) : ∃ v, vs = [v] ∧ Rep K H v d fp := by
  cases r with
  | cons x r => cases r with
    | nil => exact ⟨_, rfl, by simpa using x⟩
theorem RepL.two {H : Hp} {vs : List V} {d e : D} {fp : List Addr} (r : RepL K H vs [d, e] fp) : ∃ v w f1 f2, vs = [v, w] ∧ Rep K H v d f1 ∧ Rep K H w e f2 ∧ fp = f1 ++ f2 := by
  cases r with
  | cons x r => cases r with
    | cons y r => cases r with
      | nil => exact ⟨_, _, _, _, rfl, x, y, by simp⟩
theorem fin_int {H : Hp} {i : Int} {Q : VK} (q : ∀ v H' fp, Same H H' → Rep K H' v (.int i) fp → fp.Nodup → (∀ a ∈ fp, H a = none) → Q v H') : Q (.int i) H := q _ H [] (Same.refl H) (.int _) List.nodup_nil fun _ z => nomatch z
theorem fin_bl {H : Hp} {i : Bool} {Q : VK} (q : ∀ v H' fp, Same H H' → Rep K H' v (.bl i) fp → fp.Nodup → (∀ a ∈ fp, H a = none) → Q v H') : Q (.bl i) H := q _ H [] (Same.refl H) (.bl _) List.nodup_nil fun _ z => nomatch z
theorem o_len : OpA K (fun xs H Q => ∃ x n, xs = [x] ∧ LenV K x H n ∧ Q (.int n) H) dLen := by
  intro x d vx H fx Q h r q
  unfold dLen at h
  split at h
  · obtain ⟨v, rfl, rr⟩ := r.one
    obtain ⟨a, vs, fz, rfl, hs, rl, _⟩ := rr.lsq rfl
    cases h
    exact ⟨_, vs.length, rfl, .inl ⟨vs, hs.sq, rfl⟩, by rw [rl.len]; exact fin_int q⟩
  · obtain ⟨v, rfl, rr⟩ := r.one
    obtain ⟨a, vs, fz, rfl, hs, rl, _⟩ := rr.lsq rfl
    cases h
    exact ⟨_, vs.length, rfl, .inl ⟨vs, hs.sq, rfl⟩, by rw [rl.len]; exact fin_int q⟩
  · obtain ⟨v, rfl, rr⟩ := r.one
    obtain ⟨a, vs, rfl, hs, rl⟩ := rr.asT
    cases h
    exact ⟨_, vs.length, rfl, .inr ⟨vs, hs, rfl⟩, by rw [rl.len]; exact fin_int q⟩
  · obtain ⟨v, rfl, rr⟩ := r.one
    obtain ⟨hz, h⟩ := gds h
    cases h
    rw [rr.asS]
    exact ⟨_, _, rfl, ⟨hz, rfl⟩, fin_int q⟩
  · cases h
theorem o_abs : OpA K (fun xs H Q => ∃ i, xs = [.int i] ∧ Q (.int (if i < 0 then -i else i)) H) dAbs := by
  intro x d vx H fx Q h r q
  unfold dAbs at h
  split at h
  · obtain ⟨v, rfl, rr⟩ := r.one
    cases h
    rw [rr.asI]
    refine ⟨_, rfl, ?_⟩
    have e : ∀ i : Int, (if i < 0 then -i else i) = (i.natAbs : Int) := fun i => by split <;> omega
    rw [e]
    exact fin_int q
  · cases h
theorem o_int1 : OpA K (fun xs H Q => (∃ i, xs = [.int i] ∧ Q (.int i) H) ∨ ∃ k, xs = [.bl k] ∧ Q (.int (if k then 1 else 0)) H) dInt1 := by
  intro x d vx H fx Q h r q
  unfold dInt1 at h
  split at h
  · obtain ⟨v, rfl, rr⟩ := r.one
    cases h
    rw [rr.asI]
    exact .inl ⟨_, rfl, fin_int q⟩
  · obtain ⟨v, rfl, rr⟩ := r.one
    cases h
    rw [rr.asB]
    exact .inr ⟨_, rfl, fin_int q⟩
  · cases h
theorem o_list : OpA K (fun xs H Q => ∃ p ys, xs = [.ref p] ∧ (SqL K H p ys ∨ SqT K H p ys) ∧ ∀ l, H l = none → Q (.ref l) (upd H l (.lst ys))) dList := by
  intro x d vx H fx Q h r q
  unfold dList at h
  split at h
  · obtain ⟨v, rfl, rr⟩ := r.one
    obtain ⟨a, vs, fz, rfl, hs, rl, _⟩ := rr.lsq rfl
    obtain ⟨im, rfl⟩ := ifs h
    exact ⟨a, vs, rfl, .inl hs.sq, fun l hl => new_lst hl (rl.nil_imm im) q⟩
  · obtain ⟨v, rfl, rr⟩ := r.one
    obtain ⟨a, vs, fz, rfl, hs, rl, _⟩ := rr.lsq rfl
    obtain ⟨im, rfl⟩ := ifs h
    exact ⟨a, vs, rfl, .inl hs.sq, fun l hl => new_lst hl (rl.nil_imm im) q⟩
  · obtain ⟨v, rfl, rr⟩ := r.one
    obtain ⟨a, vs, rfl, hs, rl⟩ := rr.asT
    obtain ⟨im, rfl⟩ := ifs h
    exact ⟨a, vs, rfl, .inr hs, fun l hl => new_lst hl (rl.nil_imm im) q⟩
  · cases h
theorem o_tuple : OpA K (fun xs H Q => ∃ p ys, xs = [.ref p] ∧ ((SqL K H p ys ∧ ∀ l, H l = none → Q (.ref l) (upd H l (.tup ys))) ∨ (SqT K H p ys ∧ Q (.ref p) H))) dTuple := by
  intro x d vx H fx Q h r q
  unfold dTuple at h
  split at h
  · obtain ⟨v, rfl, rr⟩ := r.one
    obtain ⟨a, vs, fz, rfl, hs, rl, _⟩ := rr.lsq rfl
    obtain ⟨im, rfl⟩ := ifs h
    refine ⟨a, vs, rfl, .inl ⟨hs.sq, fun l hl => q _ _ [] (same_upd hl) (.tup (.inl (.inl upd_same)) ((rl.nil_imm im).same (same_upd hl))) List.nodup_nil fun _ z => nomatch z⟩⟩
  · obtain ⟨v, rfl, rr⟩ := r.one
    obtain ⟨a, vs, fz, rfl, hs, rl, _⟩ := rr.lsq rfl
    obtain ⟨im, rfl⟩ := ifs h
    refine ⟨a, vs, rfl, .inl ⟨hs.sq, fun l hl => q _ _ [] (same_upd hl) (.tup (.inl (.inl upd_same)) ((rl.nil_imm im).same (same_upd hl))) List.nodup_nil fun _ z => nomatch z⟩⟩
  · obtain ⟨v, rfl, rr⟩ := r.one
    obtain ⟨a, vs, rfl, hs, rl⟩ := rr.asT
    obtain ⟨im, rfl⟩ := ifs h
    exact ⟨a, vs, rfl, .inr ⟨hs, q _ H [] (Same.refl H) (.tup hs (rl.nil_imm im)) List.nodup_nil fun _ z => nomatch z⟩⟩
  · cases h
theorem kit_isT {a b : String} {r : Bool} (ha : a = "NoneType" ∨ a = "bool" ∨ a = "int" ∨ a = "str" ∨ a = "tuple" ∨ a = "list" ∨ a = "dict") (h : isT a b = some r) : PySem.W.kitOne K (.type a) (.type b) = some r := by
  refine kit_ty ?_
  unfold isT at h
  by_cases hb : b = "int"
  · rw [if_pos hb] at h
    subst hb
    cases h
    rcases ha with rfl | rfl | rfl | rfl | rfl | rfl | rfl <;> decide +kernel
  · rw [if_neg hb] at h
    by_cases hb2 : b = "bool" ∨ b = "str" ∨ b = "tuple" ∨ b = "list"
    · rw [if_pos hb2] at h
      cases h
      rcases ha with rfl | rfl | rfl | rfl | rfl | rfl | rfl <;> rcases hb2 with rfl | rfl | rfl | rfl <;> decide +kernel
    · rw [if_neg hb2] at h; cases h
theorem o_isi : OpA K (rIsi K) dIsi := by
  intro x d vx H fx Q h r q
  unfold dIsi at h
  split at h
  · next x n =>
    obtain ⟨v, w, f1, f2, rfl, r1, r2, _⟩ := r.two
    rw [r2.asTy]
    obtain ⟨t, h1, h2⟩ := bind_some h
    obtain ⟨b, h3, h4⟩ := bind_some h2
    cases h4
    have base : ∀ {tt : String}, dTyN x = some tt → (tt = "NoneType" ∨ tt = "bool" ∨ tt = "int" ∨ tt = "str" ∨ tt = "tuple" ∨ tt = "list" ∨ tt = "dict") ∧ TyX K H v (.type tt) := fun {tt} e => by
      cases r1 with
      | non => cases e; exact ⟨by simp, .base .non⟩
      | bl b => cases e; exact ⟨by simp, .base (.bl b)⟩
      | int b => cases e; exact ⟨by simp, .base (.int b)⟩
      | str b => cases e; exact ⟨by simp, .base (.str b)⟩
      | ty b => cases e
      | unk v => cases e
      | ptr v => cases e
      | emp hd => cases e; exact ⟨by simp, .base (.dK hd)⟩
      | tup hs rl =>
        cases e
        refine ⟨by simp, ?_⟩
        rcases hs with (hs | ⟨o, hs⟩) | ⟨o, its, m, hk, hc, _⟩
        · exact .base (.tup hs)
        · exact .fTuple hs
        · exact .kTuple hk hc
      | lst hs rl => cases e; exact ⟨by simp, .base (.lst hs)⟩
      | knw hs rl =>
        cases e
        refine ⟨by simp, ?_⟩
        rcases hs with ⟨o, hs⟩ | ⟨its, m, hk, _⟩
        · exact .base (.frz hs)
        · exact .kList hk rfl
    obtain ⟨z1, z2⟩ := base h1
    exact ⟨v, .ty n, _, _, b, rfl, .ty n, z2, kit_isT z1 h3, fin_bl q⟩
  · cases h
theorem allB_rep {H : Hp} : ∀ {vs : List V} {ds : List D} {fp : List Addr} {bs : List Bool}, RepL K H vs ds fp → allB ds = some bs → vs = bs.map V.bl
  | _, _, _, _, .nil, h => by cases h; rfl
  | v :: vs, d :: ds, _, bs, .cons x r, h => by
    cases d with
    | bl b =>
      obtain ⟨cs, h1, h2⟩ := bind_some (x := allB ds) h
      cases h2
      rw [x.asB, allB_rep r h1]
      rfl
    | _ => cases h
theorem allI_rep {H : Hp} : ∀ {vs : List V} {ds : List D} {fp : List Addr} {bs : List Int}, RepL K H vs ds fp → allI ds = some bs → vs = bs.map V.int
  | _, _, _, _, .nil, h => by cases h; rfl
  | v :: vs, d :: ds, _, bs, .cons x r, h => by
    cases d with
    | int b =>
      obtain ⟨cs, h1, h2⟩ := bind_some (x := allI ds) h
      cases h2
      rw [x.asI, allI_rep r h1]
      rfl
    | _ => cases h
theorem o_any : OpA K (rAny K) dAny := by
  intro x d vx H fx Q h r q
  unfold dAny at h
  split at h
  · obtain ⟨v, rfl, rr⟩ := r.one
    obtain ⟨a, vs, fz, rfl, hs, rl, _⟩ := rr.lsq rfl
    obtain ⟨bs, h1, h2⟩ := bind_some h
    cases h2
    exact ⟨a, bs, rfl, by rw [← allB_rep rl h1]; exact hs.sq, fin_bl q⟩
  · cases h
theorem o_all : OpA K (rAll K) dAll := by
  intro x d vx H fx Q h r q
  unfold dAll at h
  split at h
  · obtain ⟨v, rfl, rr⟩ := r.one
    obtain ⟨a, vs, fz, rfl, hs, rl, _⟩ := rr.lsq rfl
    obtain ⟨bs, h1, h2⟩ := bind_some h
    cases h2
    exact ⟨a, bs, rfl, by rw [← allB_rep rl h1]; exact hs.sq, fin_bl q⟩
  · cases h
theorem o_sum : OpA K (rSum K) dSum := by
  intro x d vx H fx Q h r q
  unfold dSum at h
  split at h
  · obtain ⟨v, rfl, rr⟩ := r.one
    obtain ⟨a, vs, fz, rfl, hs, rl, _⟩ := rr.lsq rfl
    obtain ⟨bs, h1, h2⟩ := bind_some h
    cases h2
    exact ⟨a, bs, rfl, by rw [← allI_rep rl h1]; exact hs.sq, fin_int q⟩
  · cases h
theorem lMax_mem : ∀ {ns : List Int}, 0 < ns.length → lMax ns ∈ ns ∧ ∀ y ∈ ns, y ≤ lMax ns
  | [x], _ => by simp [lMax]
  | x :: y :: r, _ => by
    obtain ⟨h1, h2⟩ := lMax_mem (ns := y :: r) (by simp)
    show max x (lMax (y :: r)) ∈ x :: y :: r ∧ ∀ z ∈ x :: y :: r, z ≤ max x (lMax (y :: r))
    refine ⟨?_, fun z hz => ?_⟩
    · by_cases h : x ≤ lMax (y :: r)
      · rw [Int.max_eq_right h]; exact List.mem_cons_of_mem _ h1
      · rw [Int.max_eq_left (by omega)]; exact List.mem_cons_self
    · rcases List.mem_cons.mp hz with rfl | hz
      · omega
      · have := h2 z hz; omega
theorem lMin_mem : ∀ {ns : List Int}, 0 < ns.length → lMin ns ∈ ns ∧ ∀ y ∈ ns, lMin ns ≤ y
  | [x], _ => by simp [lMin]
  | x :: y :: r, _ => by
    obtain ⟨h1, h2⟩ := lMin_mem (ns := y :: r) (by simp)
    show min x (lMin (y :: r)) ∈ x :: y :: r ∧ ∀ z ∈ x :: y :: r, min x (lMin (y :: r)) ≤ z
    refine ⟨?_, fun z hz => ?_⟩
    · by_cases h : x ≤ lMin (y :: r)
      · rw [Int.min_eq_left h]; exact List.mem_cons_self
      · rw [Int.min_eq_right (by omega)]; exact List.mem_cons_of_mem _ h1
    · rcases List.mem_cons.mp hz with rfl | hz
      · omega
      · have := h2 z hz; omega
theorem o_max1 : OpA K (rMax K) dMax1 := by
  intro x d vx H fx Q h r q
  unfold dMax1 at h
  split at h
  · obtain ⟨v, rfl, rr⟩ := r.one
    obtain ⟨a, vs, fz, rfl, hs, rl, _⟩ := rr.lsq rfl
    obtain ⟨bs, h1, h2⟩ := bind_some h
    obtain ⟨hp, rfl⟩ := ifs h2
    refine ⟨a, bs, rfl, by rw [← allI_rep rl h1]; exact hs.sq, hp, fun m hm hle => ?_⟩
    obtain ⟨z1, z2⟩ := lMax_mem hp
    have e : m = lMax bs := Int.le_antisymm (z2 m hm) (hle _ z1)
    rw [e]
    exact fin_int q
  · cases h
theorem o_min1 : OpA K (rMin K) dMin1 := by
  intro x d vx H fx Q h r q
  unfold dMin1 at h
  split at h
  · obtain ⟨v, rfl, rr⟩ := r.one
    obtain ⟨a, vs, fz, rfl, hs, rl, _⟩ := rr.lsq rfl
    obtain ⟨bs, h1, h2⟩ := bind_some h
    obtain ⟨hp, rfl⟩ := ifs h2
    refine ⟨a, bs, rfl, by rw [← allI_rep rl h1]; exact hs.sq, hp, fun m hm hle => ?_⟩
    obtain ⟨z1, z2⟩ := lMin_mem hp
    have e : m = lMin bs := Int.le_antisymm (hle _ z1) (z2 m hm)
    rw [e]
    exact fin_int q
  · cases h
theorem o_max2 : OpA K (fun xs H Q => ∃ i j, xs = [.int i, .int j] ∧ Q (.int (if j > i then j else i)) H) dMax2 := by
  intro x d vx H fx Q h r q
  unfold dMax2 at h
  split at h
  · obtain ⟨v, w, f1, f2, rfl, r1, r2, _⟩ := r.two
    cases h
    rw [r1.asI, r2.asI]
    exact ⟨_, _, rfl, fin_int q⟩
  · cases h
theorem o_min2 : OpA K (fun xs H Q => ∃ i j, xs = [.int i, .int j] ∧ Q (.int (if j < i then j else i)) H) dMin2 := by
  intro x d vx H fx Q h r q
  unfold dMin2 at h
  split at h
  · obtain ⟨v, w, f1, f2, rfl, r1, r2, _⟩ := r.two
    cases h
    rw [r1.asI, r2.asI]
    exact ⟨_, _, rfl, fin_int q⟩
  · cases h
end
def spD (K : PySem.W.Frag) (f : List D → Option D) : Sp := fun vs H Q _ => ∃ ds fp d, RepL K H vs ds fp ∧ f ds = some d ∧ ∀ v H' fp', Same H H' → Rep K H' v d fp' → fp'.Nodup → (∀ a ∈ fp', H a = none) → Q v H'
structure Fd (P : Program) (w : World) (K : PySem.W.Frag) (mg : Str → Option Value) (base : Heap) (x : Str) (k : Nat) (dd : List D) (f : List D → Option D) : Prop where
  ex : ∃ (a : Addr) (fd : FuncData) (ps : List Str) (dvs : List V) (ds : List Value), mg x = some (.ref a) ∧ PySem.W.keepIn K (.ref a) = true ∧ Binds K fd ps ds ∧ Vals dvs ds ∧ (∀ H, RepL K H dvs dd []) ∧ FnOk P w K mg base CX0 k a fd ps (spD K f)
def fCall (f : List D → Option D) (dd : List D) (fa : Ev → Option (List D)) : FE := fun ρ => (fa ρ).bind fun ds => f (ds ++ dd)
section
variable {X : Cx} {e : Expr} {es : List Expr} {κ : Kd} {fa : Ev → Option (List D)} {p pos : Pos} {x : Str} {k : Nat} {dd : List D} {f : List D → Option D}
theorem t_call {K : PySem.W.Frag} {dvs : List V} (hd : ∀ H, RepL K H dvs dd []) {σ : L2.St} {H : Hp} {Q : VK} (q : tE K (.rt []) (fCall f dd fa) σ H Q) : tCall (spD K f) dvs E0 (tA K κ fa) σ H Q := by
  obtain ⟨H0, ρ, fm, d, er, hf, q⟩ := q
  obtain ⟨ds, h1, h2⟩ := bind_some hf
  refine ⟨H0, ρ, fm, ds, er, h1, fun vs H1 fp s1 r1 k1 => ⟨ds ++ dd, fp ++ [], d, r1.app (hd H1), h2, fun v H2 fq s2 r2 n fr => q v H2 fq (s1.trans s2) r2 (kd_fresh s1 n fr)⟩⟩
theorem de_call (F : Fd X.prog X.w X.K X.mg X.base x k dd f) (hr : Room k X.A) (hg : Gl X x) (ha : DA X (e :: es) κ fa) (hdb : (x == ("__debug__" : Str)) = false := by decide) (he : starEach (e :: es) X.env = (false, eval e X.env) :: starEach es X.env := by rfl)
    (hpl : (backTo pos (starEach es X.env)).any (·.1) = false := by rfl) : DE X (.Call (.Name x p) (e :: es) [] pos) (.rt []) (fCall f dd fa) := by
  obtain ⟨a, fd, ps, dvs, ds, hm, hk, hb, hd, hR, G⟩ := F.ex
  exact pe_mono (pe_call G hr hg hm hk hb hd pass0 ha.run hdb he hpl) fun σ H Q q => t_call hR q
theorem de_call0 (F : Fd X.prog X.w X.K X.mg X.base x k dd f) (hr : Room k X.A) (hg : Gl X x) (hdb : (x == ("__debug__" : Str)) = false := by decide) : DE X (.Call (.Name x p) [] [] pos) (.rt []) (fCall f dd fNil) := by
  obtain ⟨a, fd, ps, dvs, ds, hm, hk, hb, hd, hR, G⟩ := F.ex
  refine pe_mono (pe_call0 G hr hg hm hk hb hd pass0 hdb) fun σ H Q q => ?_
  obtain ⟨H0, ρ, fm, d, er, hf, q⟩ := q
  exact ⟨dd, [], d, hR H, hf, fun v H2 fq s2 r2 n fr => q v H2 fq s2 r2 (kd_fresh (Same.refl H) n fr)⟩
end
end Z
namespace Z
open PySem PySem.Spec PyProof.Rows L2
def fput (fm : Nat → List Addr) (i : Nat) (fp : List Addr) : Nat → List Addr := fun j => if j = i then fp else fm j
section
variable {K : PySem.W.Frag} {H0 H H' : Hp} {σ : L2.St} {ρ ρ' : Ev} {fm : Nat → List Addr}
theorem ER.sub (e : ER K H0 H σ ρ fm) (hl : ρ'.length = ρ.length) (h : ∀ (j : Nat) (x : Sl), ρ'[j]? = some x → x = .no ∨ ρ[j]? = some x) : ER K H0 H σ ρ' fm where
  len := e.len.trans hl.symm
  al := fun i d z => by
    rcases h i _ z with q | q
    · cases q
    · exact e.al i d q
  own := fun i d z => by
    obtain ⟨y, z, hy, ny⟩ := odAt_at z
    rcases h i _ z with q | q
    · exact absurd q ny
    · exact e.own i d (odAt_of q hy)
  rfv := fun i v d z => by
    rcases h i _ z with q | q
    · cases q
    · exact e.rfv i v d q
  sepG := fun i j d x ne z1 z2 n => by
    obtain ⟨y, z1, hy, ny⟩ := odAt_at z1
    rcases h i _ z1 with q1 | q1
    · exact absurd q1 ny
    · rcases h j _ z2 with q2 | q2
      · exact absurd q2 n
      · exact e.sepG i j d x ne (odAt_of q1 hy) q2 n
  same := e.same
theorem own_sub (h : ∀ (j : Nat) (x : Sl), ρ'[j]? = some x → x = .no ∨ ρ[j]? = some x) {a : Addr} (z : Own ρ' fm a) : Own ρ fm a := by
  obtain ⟨i, d, h1, h2⟩ := z
  obtain ⟨y, h1, hy, ny⟩ := odAt_at h1
  rcases h i _ h1 with q | q
  · exact absurd q ny
  · exact ⟨i, d, odAt_of q hy, h2⟩
theorem get_set {α : Type} {l : List α} {i j : Nat} {x y : α} (h : (l.set i x)[j]? = some y) : (j = i ∧ i < l.length ∧ y = x) ∨ (j ≠ i ∧ l[j]? = some y) := by
  rw [List.getElem?_set] at h
  by_cases e : i = j
  · rw [if_pos e] at h
    split at h
    · next hlt => cases h; exact .inl ⟨e.symm, hlt, rfl⟩
    · cases h
  · rw [if_neg e] at h
    exact .inr ⟨fun z => e z.symm, h⟩
theorem set_get {α : Type} {l : List α} {i : Nat} {x : α} (h : i < l.length) : (l.set i x)[i]? = some x := by
  rw [List.getElem?_set, if_pos rfl, if_pos h]
theorem set_get_ne {α : Type} {l : List α} {i j : Nat} {x : α} (h : j ≠ i) : (l.set i x)[j]? = l[j]? := by
  rw [List.getElem?_set, if_neg (fun z => h z.symm)]
theorem fput_same {i : Nat} {fp : List Addr} : fput fm i fp i = fp := by unfold fput; rw [if_pos rfl]
theorem fput_ne {i j : Nat} {fp : List Addr} (h : j ≠ i) : fput fm i fp j = fm j := by unfold fput; rw [if_neg h]
theorem ER.put_al (e : ER K H0 H σ ρ fm) {i : Nat} {v : V} {d : D} {fp : List Addr} (r : Rep K H v d fp) (n : ∀ a ∈ fp, ¬ Own ρ fm a) : ER K H0 H (σ.set i (some v)) (ρ.set i (.al d)) (fput fm i fp) where
  len := by rw [List.length_set, List.length_set]; exact e.len
  al := fun j d' z => by
    rcases get_set z with ⟨rfl, hlt, q⟩ | ⟨ne, q⟩
    · cases q
      exact ⟨v, set_get (by rw [e.len]; exact hlt), by rw [fput_same]; exact r⟩
    · obtain ⟨v', h1, h2⟩ := e.al j d' q
      exact ⟨v', by rw [set_get_ne ne]; exact h1, by rw [fput_ne ne]; exact h2⟩
  own := fun j d' z => by
    obtain ⟨y, z, hy, ny⟩ := odAt_at z
    rcases get_set z with ⟨rfl, hlt, q⟩ | ⟨ne, q⟩
    · rw [q] at hy; cases hy
    · obtain ⟨v', h1, h2⟩ := e.own j d' (odAt_of q hy)
      rw [fput_ne ne]
      exact ⟨v', by rw [set_get_ne ne]; exact h1, h2⟩
  rfv := fun j w d' z => by
    rcases get_set z with ⟨rfl, hlt, q⟩ | ⟨ne, q⟩
    · cases q
    · rw [set_get_ne ne]; exact e.rfv j w d' q
  sepG := fun j l d' x hne z1 z2 nn => by
    obtain ⟨y, z1, hy, ny⟩ := odAt_at z1
    rcases get_set z1 with ⟨rfl, hlt, q⟩ | ⟨ne, q⟩
    · rw [q] at hy; cases hy
    · rw [fput_ne ne]
      rcases get_set z2 with ⟨rfl, hlt, q2⟩ | ⟨ne2, q2⟩
      · rw [fput_same]
        exact fun a ha hb => n a hb ⟨j, d', odAt_of q hy, ha⟩
      · rw [fput_ne ne2]
        exact e.sepG j l d' x hne (odAt_of q hy) q2 nn
  same := e.same
theorem own_put_al {i : Nat} {d : D} {fp : List Addr} {a : Addr} (z : Own (ρ.set i (.al d)) (fput fm i fp) a) : Own ρ fm a := by
  obtain ⟨j, d', h1, h2⟩ := z
  obtain ⟨y, h1, hy, ny⟩ := odAt_at h1
  rcases get_set h1 with ⟨rfl, hlt, q⟩ | ⟨ne, q⟩
  · rw [q] at hy; cases hy
  · rw [fput_ne ne] at h2; exact ⟨j, d', odAt_of q hy, h2⟩
theorem ER.put_x (e : ER K H0 H σ ρ fm) {i : Nat} {v : V} {d : D} {fp : List Addr} (x : Sl) (hx : x.od = some d) (hr : ∀ w d', x = Sl.rf w d' → w = v) (r : Rep K H v d fp) (nd : fp.Nodup) (fr : ∀ a ∈ fp, H0 a = none) (n : ∀ (j : Nat) (x : Sl), j ≠ i → ρ[j]? = some x → x ≠ .no → ∀ a ∈ fp, a ∉ fm j) : ER K H0 H (σ.set i (some v)) (ρ.set i x) (fput fm i fp) where
  len := by rw [List.length_set, List.length_set]; exact e.len
  al := fun j d' z => by
    rcases get_set z with ⟨rfl, hlt, q⟩ | ⟨ne, q⟩
    · rw [← q] at hx; cases hx
    · obtain ⟨v', h1, h2⟩ := e.al j d' q
      exact ⟨v', by rw [set_get_ne ne]; exact h1, by rw [fput_ne ne]; exact h2⟩
  own := fun j d' z => by
    obtain ⟨y, z, hy, ny⟩ := odAt_at z
    rcases get_set z with ⟨rfl, hlt, q⟩ | ⟨ne, q⟩
    · rw [q, hx] at hy
      cases hy
      rw [fput_same]
      exact ⟨v, set_get (by rw [e.len]; exact hlt), r, nd, fr⟩
    · obtain ⟨v', h1, h2⟩ := e.own j d' (odAt_of q hy)
      rw [fput_ne ne]
      exact ⟨v', by rw [set_get_ne ne]; exact h1, h2⟩
  rfv := fun j w d' z => by
    rcases get_set z with ⟨rfl, hlt, q⟩ | ⟨ne, q⟩
    · rw [set_get (by rw [e.len]; exact hlt), hr w d' q.symm]
    · rw [set_get_ne ne]; exact e.rfv j w d' q
  sepG := fun j l d' y hne z1 z2 nn => by
    obtain ⟨y1, z1, hy, ny⟩ := odAt_at z1
    rcases get_set z1 with ⟨rfl, hlt, q⟩ | ⟨ne, q⟩
    · rw [fput_same]
      rcases get_set z2 with ⟨rfl, hlt, q2⟩ | ⟨ne2, q2⟩
      · exact absurd rfl hne
      · rw [fput_ne ne2]
        exact n l y ne2 q2 nn
    · rw [fput_ne ne]
      rcases get_set z2 with ⟨rfl, hlt, q2⟩ | ⟨ne2, q2⟩
      · rw [fput_same]
        intro a ha hb
        exact n j y1 ne q ny a hb ha
      · rw [fput_ne ne2]
        exact e.sepG j l d' y hne (odAt_of q hy) q2 nn
  same := e.same
theorem ER.put_ow (e : ER K H0 H σ ρ fm) {i : Nat} {v : V} {d : D} {fp : List Addr} (r : Rep K H v d fp) (nd : fp.Nodup) (fr : ∀ a ∈ fp, H0 a = none) (n : ∀ (j : Nat) (x : Sl), j ≠ i → ρ[j]? = some x → x ≠ .no → ∀ a ∈ fp, a ∉ fm j) : ER K H0 H (σ.set i (some v)) (ρ.set i (.ow d)) (fput fm i fp) :=
  e.put_x (.ow d) rfl (fun _ _ z => nomatch z) r nd fr n
theorem own_put_x {i : Nat} {x : Sl} {fp : List Addr} {a : Addr} (z : Own (ρ.set i x) (fput fm i fp) a) : a ∈ fp ∨ Own ρ fm a := by
  obtain ⟨j, d', h1, h2⟩ := z
  obtain ⟨y, h1, hy, ny⟩ := odAt_at h1
  rcases get_set h1 with ⟨rfl, hlt, q⟩ | ⟨ne, q⟩
  · rw [fput_same] at h2; exact .inl h2
  · rw [fput_ne ne] at h2; exact .inr ⟨j, d', odAt_of q hy, h2⟩
theorem own_put_ow {i : Nat} {d : D} {fp : List Addr} {a : Addr} (z : Own (ρ.set i (.ow d)) (fput fm i fp) a) : a ∈ fp ∨ Own ρ fm a := own_put_x z
def wipeD (ρ : Ev) : List Nat → Ev
  | [] => ρ
  | i :: r => (wipeD ρ r).set i .no
theorem wipeD_len : ∀ (S : List Nat), (wipeD ρ S).length = ρ.length
  | [] => rfl
  | i :: r => by unfold wipeD; rw [List.length_set, wipeD_len r]
theorem wipeD_get : ∀ {S : List Nat} {j : Nat} {x : Sl}, (wipeD ρ S)[j]? = some x → x = .no ∨ (j ∉ S ∧ ρ[j]? = some x)
  | [], j, x, h => .inr ⟨by simp, h⟩
  | i :: r, j, x, h => by
    unfold wipeD at h
    rcases get_set h with ⟨_, _, q⟩ | ⟨ne, q⟩
    · exact .inl q
    · rcases wipeD_get q with z | ⟨z1, z2⟩
      · exact .inl z
      · exact .inr ⟨fun z => (List.mem_cons.mp z).elim ne z1, z2⟩
theorem wipeD_sub {S : List Nat} : ∀ (j : Nat) (x : Sl), (wipeD ρ S)[j]? = some x → x = .no ∨ ρ[j]? = some x := fun j x h => (wipeD_get h).imp id (·.2)
theorem ER.wipe (e : ER K H0 H σ ρ fm) : ∀ (S : List Nat), ER K H0 H (L2.wipe σ S) (wipeD ρ S) fm
  | [] => e
  | i :: r => by
    have ih := ER.wipe e r
    unfold L2.wipe wipeD
    refine ⟨by rw [List.length_set, List.length_set]; exact ih.len, fun j d z => ?_, fun j d z => ?_, fun j w d z => ?_, fun j l d x hne z1 z2 nn => ?_, ih.same⟩
    · rcases get_set z with ⟨rfl, hlt, q⟩ | ⟨ne, q⟩
      · cases q
      · rw [set_get_ne ne]; exact ih.al j d q
    · obtain ⟨y, z, hy, ny⟩ := odAt_at z
      rcases get_set z with ⟨rfl, hlt, q⟩ | ⟨ne, q⟩
      · exact absurd q ny
      · rw [set_get_ne ne]; exact ih.own j d (odAt_of q hy)
    · rcases get_set z with ⟨rfl, hlt, q⟩ | ⟨ne, q⟩
      · cases q
      · rw [set_get_ne ne]; exact ih.rfv j w d q
    · obtain ⟨y, z1, hy, ny⟩ := odAt_at z1
      rcases get_set z1 with ⟨rfl, hlt, q⟩ | ⟨ne, q⟩
      · exact absurd q ny
      · rcases get_set z2 with ⟨rfl, hlt, q2⟩ | ⟨ne2, q2⟩
        · exact absurd q2 nn
        · exact ih.sepG j l d x hne (odAt_of q hy) q2 nn
end
inductive Out where
  | nx (ρ : Ev) | rt (d : D) | bk (ρ : Ev) | ct (ρ : Ev)
  /-- handed back by a def that changes lists of its caller: with what stands then -/
  | rm (d : D) (ρ : Ev)
abbrev FS := Ev → Option Out
def Post (K : PySem.W.Frag) (H0 H : Hp) (ρ : Ev) (fm : Nat → List Addr) (Dn : Ends) : Out → Prop
  | .nx ρ' => ∀ σ' H' fm', ER K H0 H' σ' ρ' fm' → Fr H ρ fm H' ρ' fm' → Dn.nx σ' H'
  | .bk ρ' => ∀ σ' H' fm', ER K H0 H' σ' ρ' fm' → Fr H ρ fm H' ρ' fm' → Dn.bk σ' H'
  | .ct ρ' => ∀ σ' H' fm', ER K H0 H' σ' ρ' fm' → Fr H ρ fm H' ρ' fm' → Dn.ct σ' H'
  | .rt d => ∀ v H' fp, Same H0 H' → Rep K H' v d fp → fp.Nodup → (∀ a ∈ fp, H0 a = none) → Dn.rt v H'
  | .rm d ρ' => ∀ v σ' H' fm' fp, ER K H0 H' σ' ρ' fm' → Fr H ρ fm H' ρ' fm' → Rep K H' v d fp → fp.Nodup → (∀ a ∈ fp, H0 a = none ∧ ¬ Own ρ' fm' a) → Dn.rt v H'
def tS (K : PySem.W.Frag) (F : FS) : TS := fun Dn σ H => ∃ H0 ρ fm o, ER K H0 H σ ρ fm ∧ F ρ = some o ∧ Post K H0 H ρ fm Dn o
abbrev DS (X : Cx) (st : Stmt) (F : FS) : Prop := PS X st (tS X.K F)
abbrev DSs (X : Cx) (st : List Stmt) (F : FS) : Prop := PSs X st (tS X.K F)
def Out.thn (G : FS) : Out → Option Out
  | .nx ρ => G ρ
  | .rt d => some (.rt d)
  | .bk ρ => some (.bk ρ)
  | .ct ρ => some (.ct ρ)
  | .rm d ρ => some (.rm d ρ)
def sSeq (F G : FS) : FS := fun ρ => (F ρ).bind (Out.thn G)
def sNext : FS := fun ρ => some (.nx ρ)
def sBrk : FS := fun ρ => some (.bk ρ)
def sCnt : FS := fun ρ => some (.ct ρ)
def sRet (f : FE) : FS := fun ρ => (f ρ).bind fun d => some (.rt d)
def sRetN : FS := fun _ => some (.rt .non)
def sIf (c : Ev → Option Bool) (F G : FS) : FS := fun ρ => (c ρ).bind fun b => if b then F ρ else G ρ
def sNever : FS := fun _ => none
def sAl (i : Nat) (f : FE) : FS := fun ρ => (f ρ).bind fun d => some (.nx (ρ.set i (.al d)))
def sOw (i : Nat) (S : List Nat) (f : FE) : FS := fun ρ => (f ρ).bind fun d => some (.nx ((wipeD ρ S).set i (.ow d)))
def sDrop (f : FE) : FS := fun ρ => (f ρ).bind fun _ => some (.nx ρ)
def sPar (i j : Nat) (f : Ev → Option (List D)) : FS := fun ρ => (f ρ).bind fun ds => match ds with
  | [x, y] => some (.nx ((ρ.set i (.al x)).set j (.al y)))
  | _ => none
def frz (i : Nat) (ρ : Ev) : Ev := match ρ[i]? with
  | some (.ow d) => ρ.set i (.al d)
  | _ => ρ
section
variable {X : Cx} {st : Stmt} {rest : List Stmt} {e a b : Expr} {κ : Kd} {f : FE} {F G : FS} {c : Ev → Option Bool} {pos : Pos}
theorem Post.seq {K : PySem.W.Frag} {H0 H : Hp} {ρ : Ev} {fm : Nat → List Addr} {Dn : Ends} {o : Out} (ρ1 : Ev) {H1 : Hp} {fm1 : Nat → List Addr} (fr : Fr H ρ fm H1 ρ1 fm1) (h : Post K H0 H ρ fm Dn o) : Post K H0 H1 ρ1 fm1 Dn o := by
  cases o with
  | nx ρ' => exact fun σ' H' fm' er' fr' => h σ' H' fm' er' (fr.trans fr')
  | bk ρ' => exact fun σ' H' fm' er' fr' => h σ' H' fm' er' (fr.trans fr')
  | ct ρ' => exact fun σ' H' fm' er' fr' => h σ' H' fm' er' (fr.trans fr')
  | rt d => exact h
  | rm d ρ' => exact fun v σ' H' fm' fp er' fr' => h v σ' H' fm' fp er' (fr.trans fr')
theorem dss_nil : DSs X [] sNext := pss_mono pss_nil fun Dn σ H ⟨H0, ρ, fm, o, er, hf, q⟩ => by
  cases hf
  exact q σ H fm er Fr.refl
theorem dss_cons (h1 : DS X st F) (h2 : DSs X rest G) : DSs X (st :: rest) (sSeq F G) := pss_mono (pss_cons h1 h2) fun Dn σ H ⟨H0, ρ, fm, o, er, hf, q⟩ => by
  obtain ⟨o1, e1, e2⟩ := bind_some hf
  refine ⟨H0, ρ, fm, o1, er, e1, ?_⟩
  cases o1 with
  | nx ρ1 => exact fun σ1 H1 fm1 er1 fr1 => ⟨H0, ρ1, fm1, o, er1, e2, q.seq ρ1 fr1⟩
  | rt d => cases e2; exact q
  | bk ρ1 => cases e2; exact q
  | ct ρ1 => cases e2; exact q
  | rm d ρ1 => cases e2; exact q
theorem dss_one (h : DS X st F) : DSs X [st] F := pss_one h
theorem ds_pass : DS X (.Pass pos) sNext := ps_mono ps_pass fun Dn σ H ⟨H0, ρ, fm, o, er, hf, q⟩ => by
  cases hf
  exact q σ H fm er Fr.refl
theorem ds_break : DS X (.Break pos) sBrk := ps_mono ps_break fun Dn σ H ⟨H0, ρ, fm, o, er, hf, q⟩ => by
  cases hf
  exact q σ H fm er Fr.refl
theorem ds_continue : DS X (.Continue pos) sCnt := ps_mono ps_continue fun Dn σ H ⟨H0, ρ, fm, o, er, hf, q⟩ => by
  cases hf
  exact q σ H fm er Fr.refl
theorem ds_never : DS X st sNever := ps_mono ps_never fun Dn σ H ⟨H0, ρ, fm, o, er, hf, q⟩ => by cases hf
theorem dss_never : DSs X rest sNever := pss_mono pss_never fun Dn σ H ⟨H0, ρ, fm, o, er, hf, q⟩ => by cases hf
theorem ret_ok {K : PySem.W.Frag} {H0 H : Hp} {σ : L2.St} {ρ : Ev} {fm : Nat → List Addr} {S : List Nat} {fp : List Addr} (er : ER K H0 H σ ρ fm) (k : (Kd.rt S).ok H ρ fm fp) : fp.Nodup ∧ ∀ a ∈ fp, H0 a = none :=
  ⟨k.1, fun a ha => (k.2 a ha).elim (fun z => er.same.free z) fun ⟨i, _, ⟨d, hd⟩, hm⟩ => er.fresh ⟨i, d, hd, hm⟩⟩
theorem ds_ret {S : List Nat} (h : DE X e (.rt S) f) : DS X (.Return (some e) pos) (sRet f) := ps_mono (ps_ret h) fun Dn σ H ⟨H0, ρ, fm, o, er, hf, q⟩ => by
  obtain ⟨d, h1, h2⟩ := bind_some hf
  cases h2
  exact ⟨H0, ρ, fm, d, er, h1, fun v H1 fp s1 r1 k1 => q v H1 fp (er.same.trans s1) r1 (ret_ok er k1).1 (ret_ok er k1).2⟩
theorem ds_retN : DS X (.Return none pos) sRetN := ps_mono ps_retN fun Dn σ H ⟨H0, ρ, fm, o, er, hf, q⟩ => by
  cases hf
  exact q .non H [] er.same .non List.nodup_nil fun _ z => nomatch z
theorem ds_if {x y : List Stmt} (hc : DT X e c) (h1 : DSs X x F) (h2 : DSs X y G) : DS X (.If e x y pos) (sIf c F G) := ps_mono (ps_if hc h1 h2) fun Dn σ H ⟨H0, ρ, fm, o, er, hf, q⟩ => by
  obtain ⟨b, e1, e2⟩ := bind_some hf
  refine ⟨H0, ρ, fm, b, er, e1, fun H1 s1 => ?_⟩
  have fr : Fr H ρ fm H1 ρ fm := Fr.of_same s1 fun _ z => .inl z
  cases b with
  | true => rw [if_pos rfl] at e2; exact iteT ⟨H0, ρ, fm, o, er.mono s1, e2, q.seq ρ fr⟩
  | false => rw [if_neg Bool.false_ne_true] at e2; exact iteF ⟨H0, ρ, fm, o, er.mono s1, e2, q.seq ρ fr⟩
theorem ds_drop (h : DE X e κ f) (hs : swapsWith e none pos.line X.env = pure false := by rfl) : DS X (.Expr e pos) (sDrop f) := ps_mono (ps_expr h hs) fun Dn σ H ⟨H0, ρ, fm, o, er, hf, q⟩ => by
  obtain ⟨d, h1, h2⟩ := bind_some hf
  cases h2
  exact ⟨H0, ρ, fm, d, er, h1, fun v H1 fp s1 r1 k1 => q σ H1 fm (er.mono s1) (Fr.of_same s1 fun _ z => .inl z)⟩
theorem t_asg_al {K : PySem.W.Frag} {i : Nat} {Dn : Ends} {σ : L2.St} {H : Hp} (h : tS K (sAl i f) Dn σ H) : tAsg (tE K .sh f) (gName i) Dn σ H := by
  obtain ⟨H0, ρ, fm, o, er, hf, q⟩ := h
  obtain ⟨d, h1, h2⟩ := bind_some hf
  cases h2
  exact ⟨H0, ρ, fm, d, er, h1, fun v H1 fp s1 r1 k1 => q _ H1 _ ((er.mono s1).put_al r1 k1) (Fr.of_same s1 fun _ z => .inl (own_put_al z))⟩
theorem asg_ow_at {K : PySem.W.Frag} {i : Nat} {S : List Nat} {Dn : Ends} {σ : L2.St} {H0 H H1 : Hp} {ρ : Ev} {fm : Nat → List Addr} {v : V} {d : D} {fp : List Addr} (er : ER K H0 H σ ρ fm) (r1 : Rep K H1 v d fp) (s1 : Same H H1) (k1 : (Kd.rt S).ok H ρ fm fp) (q : Post K H0 H ρ fm Dn (.nx ((wipeD ρ S).set i (.ow d)))) :
    Dn.nx (σ.set i (some v)) H1 := by
  have er1 := er.mono s1
  have er2 : ER K H0 H1 σ (wipeD ρ S) fm := er1.sub (wipeD_len S) wipeD_sub
  refine q _ H1 _ (er2.put_ow r1 (ret_ok er k1).1 (ret_ok er k1).2 fun j x ne hx nn a ha hb => ?_) (Fr.of_same s1 fun b z => ?_)
  · rcases wipeD_get hx with z | ⟨z1, z2⟩
    · exact nn z
    · rcases k1.2 a ha with z | ⟨l, hl, ⟨d', hd⟩, hm⟩
      · have t : IsLs H a := by
          cases x with
          | no => exact absurd rfl nn
          | al d'' => obtain ⟨v', _, r'⟩ := er.al j d'' z2; exact r'.trk a hb
          | ow d'' => obtain ⟨v', _, r', _⟩ := er.ow j d'' z2; exact r'.trk a hb
          | rf v'' d'' => obtain ⟨v', _, r', _⟩ := er.own j d'' (odAt_rf z2); exact r'.trk a hb
        obtain ⟨vs, t⟩ := t
        rw [z] at t; cases t
      · have nlj : l ≠ j := fun z => z1 (z ▸ hl)
        exact er.sepG l j d' x nlj hd z2 nn a hm hb
  · rcases own_put_ow z with z | z
    · rcases k1.2 b z with z | ⟨l, hl, ⟨d', hd⟩, hm⟩
      · exact .inr z
      · exact .inl ⟨l, d', hd, hm⟩
    · exact .inl (own_sub wipeD_sub z)
theorem t_asg_ow {K : PySem.W.Frag} {i : Nat} {S : List Nat} {Dn : Ends} {σ : L2.St} {H : Hp} (h : tS K (sOw i S f) Dn σ H) : tAsg (tE K (.rt S) f) (gName i) Dn σ H := by
  obtain ⟨H0, ρ, fm, o, er, hf, q⟩ := h
  obtain ⟨d, h1, h2⟩ := bind_some hf
  cases h2
  exact ⟨H0, ρ, fm, d, er, h1, fun v H1 fp s1 r1 k1 => asg_ow_at er r1 s1 k1 q⟩
theorem asg_al_at {K : PySem.W.Frag} {i : Nat} {Dn : Ends} {σ : L2.St} {H0 H H1 : Hp} {ρ : Ev} {fm : Nat → List Addr} {v : V} {d : D} {fp : List Addr} (er : ER K H0 H σ ρ fm) (r1 : Rep K H1 v d fp) (s1 : Same H H1) (k1 : ∀ a ∈ fp, ¬ Own ρ fm a) (q : Post K H0 H ρ fm Dn (.nx (ρ.set i (.al d)))) :
    Dn.nx (σ.set i (some v)) H1 := q _ H1 _ ((er.mono s1).put_al r1 k1) (Fr.of_same s1 fun _ z => .inl (own_put_al z))
theorem ds_al (i : Nat) {x : Str} {pos' : Pos} (hN : X.N.Nodup) (he : DE X e .sh f) (hi : X.N[i]? = some x := by rfl) (hx : Loc X.env.scope x := by first | exact Or.inl rfl | exact Or.inr rfl) (hs : swapsWith e (some (.Name x pos')) pos.line X.env = pure false := by rfl)
    (hf : X.fn x = true ∨ X.env.scope.names.lookup x = some .local := by first | exact .inl rfl | exact .inr rfl | assumption) : DS X (.Assign [.Name x pos'] e pos) (sAl i f) := ps_mono (ps_set hN hi hx he hs hf) fun Dn σ H q => t_asg_al q
theorem ds_ow (i : Nat) {S : List Nat} {x : Str} {pos' : Pos} (hN : X.N.Nodup) (he : DE X e (.rt S) f) (hi : X.N[i]? = some x := by rfl) (hx : Loc X.env.scope x := by first | exact Or.inl rfl | exact Or.inr rfl) (hs : swapsWith e (some (.Name x pos')) pos.line X.env = pure false := by rfl)
    (hf : X.fn x = true ∨ X.env.scope.names.lookup x = some .local := by first | exact .inl rfl | exact .inr rfl | assumption) : DS X (.Assign [.Name x pos'] e pos) (sOw i S f) := ps_mono (ps_set hN hi hx he hs hf) fun Dn σ H q => t_asg_ow q
theorem ds_par (i j : Nat) {x y : Str} {fa : Ev → Option (List D)} {px py pt : Pos} {kt k2 pt2} (hc : X.calm = true) (hN : X.N.Nodup) (ha : DA X [a, b] κ fa) (hk : κ.le .sh = true := by rfl) (hij : i ≠ j := by decide) (hi : X.N[i]? = some x := by rfl) (hj : X.N[j]? = some y := by rfl)
    (hx : X.env.scope.names.lookup x = some .local := by rfl) (hy : X.env.scope.names.lookup y = some .local := by rfl)
    (hw : swappedStores [.Tuple [.Name x px, .Name y py] kt pt] (.Tuple [a, b] k2 pt2) X.env = pure (some [x, y]) := by rfl)
    (hs : swapsWithSole [.Tuple [.Name x px, .Name y py] kt pt] (.Tuple [a, b] k2 pt2) pos.line X.env = pure false := by rfl) :
    DS X (.Assign [.Tuple [.Name x px, .Name y py] kt pt] (.Tuple [a, b] k2 pt2) pos) (sPar i j fa) := ps_mono (ps_par hc hN hi hj hij hx hy ha.run hw hs) fun Dn σ H ⟨H0, ρ, fm, o, er, hf, q⟩ => by
  obtain ⟨ds, h1, h2⟩ := bind_some hf
  refine ⟨H0, ρ, fm, ds, er, h1, fun vs H1 fp s1 r1 k1 => ?_⟩
  split at h2
  · next x y =>
    cases h2
    obtain ⟨v, w, f1, f2, rfl, r2, r3, rfl⟩ := r1.two
    have k2 : ∀ a ∈ f1 ++ f2, ¬ Own ρ fm a := Kd.ok_le (κ' := .sh) er hk k1
    have er1 := er.mono s1
    refine ⟨v, w, rfl, q _ H1 _ ((er1.put_al r2 fun a ha => k2 a (List.mem_append_left _ ha)).put_al r3 fun a ha z => k2 a (List.mem_append_right _ ha) (own_put_al z)) (Fr.of_same s1 fun _ z => .inl (own_put_al (own_put_al z)))⟩
  · cases h2
theorem wipe_idem {σ : L2.St} : ∀ {vs : List Nat} {i : Nat} {x : Option V}, i ∈ vs → L2.wipe (σ.set i x) vs = L2.wipe σ vs
  | [], _, _, h => nomatch h
  | v :: vs, i, x, h => by
    unfold L2.wipe
    by_cases e : i ∈ vs
    · rw [wipe_idem e]
    · have e2 : i = v := by
        rcases List.mem_cons.mp h with q | q
        · exact q
        · exact absurd q e
      subst e2
      have go : ∀ (vs : List Nat), i ∉ vs → ∀ σ : L2.St, (L2.wipe (σ.set i x) vs).set i none = (L2.wipe σ vs).set i none := by
        intro vs
        induction vs with
        | nil => intro _ σ; show (σ.set i x).set i none = σ.set i none; rw [List.set_set]
        | cons w ws ih =>
          intro hn σ
          have hw : i ≠ w := fun z => hn (by simp [z])
          have hn2 : i ∉ ws := fun z => hn (List.mem_cons_of_mem _ z)
          show ((L2.wipe (σ.set i x) ws).set w none).set i none = ((L2.wipe σ ws).set w none).set i none
          rw [List.set_comm _ _ (Ne.symm hw), ih hn2 σ, List.set_comm _ _ (Ne.symm hw)]
      exact go vs e σ
theorem wipe_wipe {σ : L2.St} : ∀ (vs ws : List Nat), (∀ i ∈ vs, i ∈ ws) → L2.wipe (L2.wipe σ vs) ws = L2.wipe σ ws
  | [], _, _ => rfl
  | v :: vs, ws, h => by
    show L2.wipe ((L2.wipe σ vs).set v none) ws = _
    rw [wipe_idem (h v List.mem_cons_self), wipe_wipe vs ws fun i hi => h i (List.mem_cons_of_mem _ hi)]
def InS (S : List Nat) (σ σ' : L2.St) : Prop := ∀ vs : List Nat, (∀ i ∈ S, i ∈ vs) → L2.wipe σ' vs = L2.wipe σ vs
def tG (K : PySem.W.Frag) (S : List Nat) (G : D → Ev → Option Ev) : TG := fun v σ H Q => ∃ H0 ρ fm d fp ρ', ER K H0 H σ ρ fm ∧ Rep K H v d fp ∧ (∀ a ∈ fp, ¬ Own ρ fm a) ∧ G d ρ = some ρ' ∧ ∀ σ' fm', ER K H0 H σ' ρ' fm' → (∀ b, Own ρ' fm' b → Own ρ fm b) → InS S σ σ' → Q σ' H
def tGs (K : PySem.W.Frag) (S : List Nat) (G : List D → Ev → Option Ev) : TGs := fun v σ H Q => ∃ H0 ρ fm d fp ρ', ER K H0 H σ ρ fm ∧ RepL K H v d fp ∧ (∀ a ∈ fp, ¬ Own ρ fm a) ∧ G d ρ = some ρ' ∧ ∀ σ' fm', ER K H0 H σ' ρ' fm' → (∀ b, Own ρ' fm' b → Own ρ fm b) → InS S σ σ' → Q σ' H
abbrev DG (X : Cx) (tg : Expr) (S : List Nat) (G : D → Ev → Option Ev) : Prop := PG X tg (tG X.K S G)
abbrev DGs (X : Cx) (tg : List Expr) (S : List Nat) (G : List D → Ev → Option Ev) : Prop := PGs X tg (tGs X.K S G)
def gN (i : Nat) : D → Ev → Option Ev := fun d ρ => some (ρ.set i (.al d))
def gNl : List D → Ev → Option Ev := fun ds ρ => match ds with
  | [] => some ρ
  | _ => none
def gCs (G : D → Ev → Option Ev) (J : List D → Ev → Option Ev) : List D → Ev → Option Ev := fun ds ρ => match ds with
  | d :: r => (G d ρ).bind (J r)
  | _ => none
def gTp (n : Nat) (J : List D → Ev → Option Ev) : D → Ev → Option Ev := fun d ρ => match d with
  | .tup ds => if ds.length = n then J ds ρ else none
  | _ => none
theorem dg_name (i : Nat) {x : Str} (hN : X.N.Nodup) (hi : X.N[i]? = some x := by rfl) (hx : Loc X.env.scope x := by first | exact Or.inl rfl | exact Or.inr rfl) (hf : X.fn x = true ∨ X.env.scope.names.lookup x = some .local := by first | exact .inl rfl | exact .inr rfl | assumption) : DG X (.Name x pos) [i] (gN i) :=
  pg_mono (pg_name hN hi hx hf) fun v σ H Q ⟨H0, ρ, fm, d, fp, ρ', er, r, n, hg, q⟩ => by
    cases hg
    exact q _ _ (er.put_al r n) (fun _ z => own_put_al z) fun vs h => wipe_idem (h i List.mem_cons_self)
theorem dgs_nil : DGs X [] [] gNl := pgs_mono pgs_nil fun v σ H Q ⟨H0, ρ, fm, d, fp, ρ', er, r, n, hg, q⟩ => by
  cases r with
  | nil => cases hg; exact ⟨rfl, q σ fm er (fun _ z => z) fun _ _ => rfl⟩
  | cons _ _ => cases hg
theorem dgs_cons {es : List Expr} {S T : List Nat} {G : D → Ev → Option Ev} {J : List D → Ev → Option Ev} (h1 : DG X e S G) (h2 : DGs X es T J)
    (hs : (assignEach (e :: es) X.env).map (·.2) = assign e X.env :: (assignEach es X.env).map (·.2) := by rfl) : DGs X (e :: es) (S ++ T) (gCs G J) := pgs_mono (pgs_cons h1 h2 hs) fun v σ H Q ⟨H0, ρ, fm, d, fp, ρ', er, r, n, hg, q⟩ => by
  cases r with
  | nil => cases hg
  | cons x r =>
    obtain ⟨ρ1, h3, h4⟩ := bind_some (f := J _) hg
    exact ⟨_, _, rfl, H0, ρ, fm, _, _, ρ1, er, x, fun a ha => n a (List.mem_append_left _ ha), h3, fun σ1 fm1 er1 ho in1 => ⟨H0, ρ1, fm1, _, _, ρ', er1, r, fun a ha z => n a (List.mem_append_right _ ha) (ho a z), h4, fun σ2 fm2 er2 ho2 in2 => q σ2 fm2 er2 (fun b z => ho b (ho2 b z)) fun vs h =>
      (in2 vs fun i hi => h i (List.mem_append_right _ hi)).trans (in1 vs fun i hi => h i (List.mem_append_left _ hi))⟩⟩
theorem dg_tup {es : List Expr} {k : Nat} {S : List Nat} {J : List D → Ev → Option Ev} {n : Nat} (hc : X.calm = true) (h : DGs X es S J) (hn : (assignEach es X.env).length = n := by rfl) (hst : (assignEach es X.env).findIdx? (·.1) = none := by rfl) : DG X (.Tuple es k pos) S (gTp n J) :=
  pg_mono (pg_tup hc h hn hst) fun v σ H Q ⟨H0, ρ, fm, d, fp, ρ', er, r, nn, hg, q⟩ => by
    cases d with
    | tup ds =>
      obtain ⟨a, vs, rfl, hs, rl⟩ := r.asT
      have hg : (if ds.length = n then J ds ρ else none) = some ρ' := hg
      by_cases hl : ds.length = n
      · rw [if_pos hl] at hg
        exact ⟨a, vs, rfl, hs, by rw [rl.len]; exact hl, H0, ρ, fm, ds, fp, ρ', er, rl, nn, hg, q⟩
      · rw [if_neg hl] at hg; cases hg
    | _ => cases hg
def sAsg (f : FE) (G : D → Ev → Option Ev) : FS := fun ρ => (f ρ).bind fun d => (G d ρ).bind fun ρ' => some (.nx ρ')
theorem ds_asg {tg : Expr} {S : List Nat} {G : D → Ev → Option Ev} (he : DE X e .sh f) (hg : DG X tg S G) (hs : swapsWithSole [tg] e pos.line X.env = pure false := by rfl) (hw : swappedStores [tg] e X.env = pure none := by rfl)
    (h1 : (assignEach [tg] X.env).map (·.2) = [assign tg X.env] := by rfl) : DS X (.Assign [tg] e pos) (sAsg f G) := ps_mono (ps_asg he hg hs hw h1) fun Dn σ H ⟨H0, ρ, fm, o, er, hf, q⟩ => by
  obtain ⟨d, h1, h2⟩ := bind_some hf
  obtain ⟨ρ', h3, h4⟩ := bind_some h2
  cases h4
  exact ⟨H0, ρ, fm, d, er, h1, fun v H1 fp s1 r1 k1 => ⟨H0, ρ, fm, d, fp, ρ', er.mono s1, r1, k1, h3, fun σ' fm' er' ho _ => q σ' H1 fm' er' (Fr.of_same s1 fun b z => .inl (ho b z))⟩⟩
end
def whileN (c : Ev → Option Bool) (b : FS) : Nat → FS
  | 0, _ => none
  | n + 1, ρ => (c ρ).bind fun t => if t then (b ρ).bind fun o => match o with
      | .nx ρ' => whileN c b n ρ'
      | .ct ρ' => whileN c b n ρ'
      | .bk ρ' => some (.nx ρ')
      | .rt d => some (.rt d)
      | .rm d ρ' => some (.rm d ρ')
    else some (.nx ρ)
theorem whileN_mono {c : Ev → Option Bool} {b : FS} : ∀ {n m : Nat} {ρ : Ev} {o : Out}, n ≤ m → whileN c b n ρ = some o → whileN c b m ρ = some o
  | 0, _, _, _, _, h => by cases h
  | n + 1, 0, _, _, l, _ => absurd l (by omega)
  | n + 1, m + 1, ρ, o, l, h => by
    unfold whileN at h ⊢
    obtain ⟨t, h1, h2⟩ := bind_some h
    rw [h1]
    show (if t = true then _ else _) = some o
    cases t with
    | false => exact h2
    | true =>
      rw [if_pos rfl] at h2 ⊢
      obtain ⟨o1, h3, h4⟩ := bind_some h2
      rw [h3]
      cases o1 with
      | nx ρ' => exact whileN_mono (show n ≤ m by omega) h4
      | ct ρ' => exact whileN_mono (show n ≤ m by omega) h4
      | bk ρ' => exact h4
      | rt d => exact h4
      | rm d ρ' => exact h4
open Classical in
noncomputable def sWhile (c : Ev → Option Bool) (b : FS) : FS := fun ρ => if h : ∃ n, (whileN c b n ρ).isSome = true then whileN c b (Classical.choose h) ρ else none
theorem sWhile_of {c : Ev → Option Bool} {b : FS} {n : Nat} {ρ : Ev} {o : Out} (h : whileN c b n ρ = some o) : sWhile c b ρ = some o := by
  have ex : ∃ n, (whileN c b n ρ).isSome = true := ⟨n, by rw [h]; rfl⟩
  unfold sWhile
  rw [dif_pos ex]
  have q := Classical.choose_spec ex
  obtain ⟨o', h'⟩ := Option.isSome_iff_exists.mp q
  rw [h']
  have h1 := whileN_mono (Nat.le_max_left n (Classical.choose ex)) h
  have h2 := whileN_mono (Nat.le_max_right n (Classical.choose ex)) h'
  rw [h1] at h2
  exact h2.symm
theorem sWhile_ex {c : Ev → Option Bool} {b : FS} {ρ : Ev} {o : Out} (h : sWhile c b ρ = some o) : ∃ n, whileN c b n ρ = some o := by
  unfold sWhile at h
  split at h
  · exact ⟨_, h⟩
  · cases h
theorem sWhile_step {c : Ev → Option Bool} {b : FS} {ρ ρ' : Ev} {o : Out} (hc : c ρ = some true) (hb : b ρ = some (.nx ρ')) (h : sWhile c b ρ' = some o) : sWhile c b ρ = some o := by
  obtain ⟨n, h⟩ := sWhile_ex h
  refine sWhile_of (n := n + 1) ?_
  unfold whileN
  simp only [hc, hb, Option.bind_some, if_true]
  exact h
theorem sWhile_end {c : Ev → Option Bool} {b : FS} {ρ : Ev} (hc : c ρ = some false) : sWhile c b ρ = some (.nx ρ) := by
  refine sWhile_of (n := 1) ?_
  unfold whileN
  rw [hc]
  rfl
section
variable {X : Cx} {e : Expr} {body : List Stmt} {c : Ev → Option Bool} {F : FS} {pos : Pos}
theorem ds_while (hp : PassesOwn (model X.prog X.w) X.A X.env X.xe) (hc : DT X e c) (hb : DSs X body F) : DS X (.While e body [] pos) (sWhile c F) := ps_mono (ps_while hp hc hb) fun Dn σ H ⟨H0, ρ, fm, o, er, hf, q⟩ => by
  obtain ⟨n, hf⟩ := sWhile_ex hf
  refine ⟨fun m σ1 H1 => ∃ ρ1 fm1, ER X.K H0 H1 σ1 ρ1 fm1 ∧ Fr H ρ fm H1 ρ1 fm1 ∧ whileN c F m ρ1 = some o, ⟨n, ρ, fm, er, Fr.refl, hf⟩, ?_⟩
  rintro m σ1 H1 ⟨ρ1, fm1, er1, fr1, hw⟩
  cases m with
  | zero => cases hw
  | succ m =>
    unfold whileN at hw
    obtain ⟨t, h1, h2⟩ := bind_some hw
    refine ⟨H0, ρ1, fm1, t, er1, h1, fun H2 s2 => ?_⟩
    have er2 := er1.mono s2
    have fr2 : Fr H ρ fm H2 ρ1 fm1 := fr1.trans (Fr.of_same s2 fun _ z => .inl z)
    cases t with
    | false =>
      rw [if_neg Bool.false_ne_true] at h2
      cases h2
      exact iteF (q σ1 H2 fm1 er2 fr2)
    | true =>
      rw [if_pos rfl] at h2
      obtain ⟨o1, h3, h4⟩ := bind_some h2
      refine iteT ⟨fun σ3 H3 => ∃ ρ3 fm3, ER X.K H0 H3 σ3 ρ3 fm3 ∧ Fr H ρ fm H3 ρ3 fm3 ∧ whileN c F m ρ3 = some o, fun σ3 H3 z => ⟨m, Nat.lt_succ_self m, z⟩, H0, ρ1, fm1, o1, er2, h3, ?_⟩
      cases o1 with
      | nx ρ3 => exact fun σ3 H3 fm3 er3 fr3 => ⟨ρ3, fm3, er3, fr2.trans fr3, h4⟩
      | ct ρ3 => exact fun σ3 H3 fm3 er3 fr3 => ⟨ρ3, fm3, er3, fr2.trans fr3, h4⟩
      | bk ρ3 => cases h4; exact fun σ3 H3 fm3 er3 fr3 => q σ3 H3 fm3 er3 (fr2.trans fr3)
      | rt d => cases h4; exact q
      | rm d ρ3 => cases h4; exact fun v σ3 H3 fm3 fp er3 fr3 => q v σ3 H3 fm3 fp er3 (fr2.trans fr3)
end
end Z
namespace Z
open PySem PySem.Spec PyProof.Rows L2
def Yld (K : PySem.W.Frag) (O : Addr → Prop) (J : It) (H1 : Hp) (ds : List D) : Prop := ∀ H2, Stab O H1 H2 → (∀ i, ds.length ≤ i → J.stop i H2) ∧ ∀ i d, ds[i]? = some d → J.go i H2 ∧
  ∀ x H3, J.yld i H2 x H3 → Same H2 H3 ∧ ∃ fp, Rep K H3 x d fp ∧ ∀ a ∈ fp, ¬ O a ∧ ∃ o, H1 a = some o
def tI (K : PySem.W.Frag) (g : Ev → Option (List D)) : TI := fun σ H R => ∃ H0 ρ fm ds, ER K H0 H σ ρ fm ∧ g ρ = some ds ∧ ∀ J H1, Same H H1 → Yld K (Own ρ fm) J H1 ds → R J H1
abbrev DI (X : Cx) (tg iter : Expr) (g : Ev → Option (List D)) : Prop := PI X tg iter (tI X.K g)
def iSeq (f : FE) : Ev → Option (List D) := fun ρ => (f ρ).bind D.lsq
def iTup' (f : FE) : Ev → Option (List D) := fun ρ => (f ρ).bind fun d => match d with
  | .tup xs => some xs
  | _ => none
def rngL (lo : Int) (n : Nat) : List D := (List.range n).map fun i => D.int (lo + (i : Nat))
noncomputable def iR1 (f : Ev → Option (List D)) : Ev → Option (List D) := fun ρ => (f ρ).bind fun ds => match ds with
  | [.int j] => gd (-(2 ^ 62) ≤ j ∧ j < 2 ^ 62) (some (rngL 0 j.toNat))
  | _ => none
noncomputable def iR2 (f : Ev → Option (List D)) : Ev → Option (List D) := fun ρ => (f ρ).bind fun ds => match ds with
  | [.int i, .int j] => gd (-(2 ^ 62) ≤ i ∧ i < 2 ^ 62 ∧ -(2 ^ 62) ≤ j ∧ j < 2 ^ 62) (some (rngL i (j - i).toNat))
  | _ => none
section
variable {X : Cx} {e tg : Expr} {κ : Kd} {f : FE} {pos p : Pos}
theorem kd_stab {K : PySem.W.Frag} {H0 H : Hp} {σ : L2.St} {ρ : Ev} {fm : Nat → List Addr} {fp : List Addr} (er : ER K H0 H σ ρ fm) (h : κ.le .sh = true) (k : κ.ok H ρ fm fp) : ∀ a ∈ fp, ¬ Own ρ fm a := Kd.ok_le (κ' := .sh) er h k
theorem own_ls {K : PySem.W.Frag} {H0 H H1 : Hp} {σ : L2.St} {ρ : Ev} {fm : Nat → List Addr} (er : ER K H0 H σ ρ fm) (s : Same H H1) : ∀ b, Own ρ fm b → IsLs H1 b := fun b hb => by
  obtain ⟨vs, q⟩ := er.trk hb
  exact ⟨vs, s _ _ q⟩
theorem RepL.item {K : PySem.W.Frag} {H H2 : Hp} {O : Addr → Prop} {vs : List V} {ds : List D} {fp : List Addr} (r : RepL K H vs ds fp) (ho : ∀ b, O b → IsLs H b) (n : ∀ a ∈ fp, ¬ O a) (s : Stab O H H2) {i : Nat} {d : D} (h : ds[i]? = some d) :
    ∃ v, vs[i]? = some v ∧ ∃ fq, Rep K H2 v d fq ∧ ∀ a ∈ fq, ¬ O a ∧ ∃ o, H a = some o := by
  obtain ⟨v, fq, l, r', h1, h2, rfl⟩ := r.at h
  have nn : ∀ a ∈ fq, ¬ O a := fun a ha => n a (List.mem_append_right _ (List.mem_append_left _ ha))
  refine ⟨v, h1, fq, h2.stab ho s nn, fun a ha => ⟨nn a ha, ?_⟩⟩
  obtain ⟨vs, q⟩ := h2.trk a ha
  exact ⟨_, q⟩
theorem di_list (h : DE X e κ f) (hk : κ.le .sh = true := by rfl) : DI X tg e (iSeq f) := pi_mono (pi_list h) fun σ H R ⟨H0, ρ, fm, ds, er, hf, q⟩ => by
  obtain ⟨d, h1, h2⟩ := bind_some hf
  refine ⟨H0, ρ, fm, d, er, h1, fun v H1 fp s1 r1 k1 => ?_⟩
  cases d with
  | lst xs =>
    cases h2
    have k2 := kd_stab er hk k1
    cases r1 with
    | lst hl rl =>
      refine ⟨_, rfl, ⟨_, .inl (.inl hl)⟩, q _ H1 s1 fun H2 st => ?_⟩
      have hl2 : SqL X.K H2 _ _ := .inl (.inl (st _ _ hl (k2 _ List.mem_cons_self)))
      refine ⟨fun i hi => ⟨_, hl2, by rw [rl.len]; exact hi⟩, fun i d hd => ?_⟩
      obtain ⟨v, hv, fq, hr, hn⟩ := rl.item (own_ls er s1) (fun a ha => k2 a (List.mem_cons_of_mem _ ha)) st hd
      refine ⟨⟨_, v, hl2, hv⟩, fun x H3 y => ?_⟩
      obtain ⟨rfl, y⟩ := y
      have := (y _ hl2).symm.trans hv
      cases this
      exact ⟨Same.refl _, fq, hr, hn⟩
  | kls xs =>
    cases h2
    have k2 := kd_stab er hk k1
    cases r1 with
    | knw hl rl =>
      refine ⟨_, rfl, ⟨_, hl.sq⟩, q _ H1 s1 fun H2 st => ?_⟩
      have hl2 : SqL X.K H2 _ _ := (hl.stab (own_ls er s1) st).sq
      refine ⟨fun i hi => ⟨_, hl2, by rw [rl.len]; exact hi⟩, fun i d hd => ?_⟩
      obtain ⟨v, hv, fq, hr, hn⟩ := rl.item (own_ls er s1) k2 st hd
      refine ⟨⟨_, v, hl2, hv⟩, fun x H3 y => ?_⟩
      obtain ⟨rfl, y⟩ := y
      have := (y _ hl2).symm.trans hv
      cases this
      exact ⟨Same.refl _, fq, hr, hn⟩
  | _ => cases h2
theorem di_tup (h : DE X e κ f) (hk : κ.le .sh = true := by rfl) : DI X tg e (iTup' f) := pi_mono (pi_tup h) fun σ H R ⟨H0, ρ, fm, ds, er, hf, q⟩ => by
  obtain ⟨d, h1, h2⟩ := bind_some hf
  refine ⟨H0, ρ, fm, d, er, h1, fun v H1 fp s1 r1 k1 => ?_⟩
  cases d with
  | tup xs =>
    cases h2
    have k2 := kd_stab er hk k1
    cases r1 with
    | tup hl rl =>
      refine ⟨_, rfl, ⟨_, hl⟩, q _ H1 s1 fun H2 st => ?_⟩
      have hl2 : SqT X.K H2 _ _ := Z.SqT.stab hl (own_ls er s1) st
      refine ⟨fun i hi => ⟨_, hl2, by rw [rl.len]; exact hi⟩, fun i d hd => ?_⟩
      obtain ⟨v, hv, fq, hr, hn⟩ := rl.item (own_ls er s1) k2 st hd
      refine ⟨⟨_, v, hl2, hv⟩, fun x H3 y => ?_⟩
      obtain ⟨rfl, y⟩ := y
      have := (y _ hl2).symm.trans hv
      cases this
      exact ⟨Same.refl _, fq, hr, hn⟩
  | _ => cases h2
theorem rngL_len {lo : Int} {n : Nat} : (rngL lo n).length = n := by unfold rngL; simp
theorem yld_rng {K : PySem.W.Frag} {O : Addr → Prop} {lo : Int} {n : Nat} {H1 : Hp} : Yld K O (Itr lo n) H1 (rngL lo n) := fun H2 st => by
  refine ⟨fun i hi => by rw [rngL_len] at hi; exact hi, fun i d hd => ?_⟩
  unfold rngL at hd
  rw [List.getElem?_map] at hd
  obtain ⟨j, h1, h2⟩ := Option.map_eq_some_iff.mp hd
  have hi : i < n := by
    have := (List.getElem?_eq_some_iff.mp h1).1
    simpa using this
  have e : j = i := by
    rw [List.getElem?_range hi] at h1
    exact (Option.some.inj h1).symm
  subst e
  refine ⟨hi, fun x H3 y => ?_⟩
  obtain ⟨rfl, rfl⟩ := y
  exact ⟨Same.refl _, [], h2 ▸ .int _, fun _ z => nomatch z⟩
theorem di_range1 {fa : Ev → Option (List D)} {a : Expr} (hg : Gl X "range") (hm : X.mg "range" = none) (ha : DA X [a] κ fa) (hs : starEach [a] X.env = [(false, eval a X.env)] := by rfl) : DI X tg (.Call (.Name "range" p) [a] [] pos) (iR1 fa) :=
  pi_mono (pi_range1 hg hm ha.run hs) fun σ H R ⟨H0, ρ, fm, ds, er, hf, q⟩ => by
    obtain ⟨d, h1, h2⟩ := bind_some hf
    refine ⟨H0, ρ, fm, d, er, h1, fun v H1 fp s1 r1 k1 => ?_⟩
    split at h2
    · obtain ⟨⟨hc1, hc2⟩, h2⟩ := gds h2
      cases h2
      obtain ⟨v, rfl, rr⟩ := r1.one
      rw [rr.asI]
      exact ⟨_, rfl, hc1, hc2, q _ H1 s1 yld_rng⟩
    · cases h2
theorem di_range2 {fa : Ev → Option (List D)} {a b : Expr} (hg : Gl X "range") (hm : X.mg "range" = none) (ha : DA X [a, b] κ fa) (hs : starEach [a, b] X.env = [(false, eval a X.env), (false, eval b X.env)] := by rfl) (hs2 : starEach [b] X.env = [(false, eval b X.env)] := by rfl) : DI X tg (.Call (.Name "range" p) [a, b] [] pos) (iR2 fa) :=
  pi_mono (pi_range2 hg hm ha.run hs hs2) fun σ H R ⟨H0, ρ, fm, ds, er, hf, q⟩ => by
    obtain ⟨d, h1, h2⟩ := bind_some hf
    refine ⟨H0, ρ, fm, d, er, h1, fun v H1 fp s1 r1 k1 => ?_⟩
    split at h2
    · obtain ⟨hc, h2⟩ := gds h2
      cases h2
      obtain ⟨v, w, f1, f2, rfl, r2, r3, _⟩ := r1.two
      rw [r2.asI, r3.asI]
      exact ⟨_, _, rfl, hc, q _ H1 s1 yld_rng⟩
    · cases h2
end
def sForL (G : D → Ev → Option Ev) (b : FS) : List D → FS
  | [], ρ => some (.nx ρ)
  | d :: ds, ρ => (G d ρ).bind fun ρ1 => (b ρ1).bind fun o => match o with
    | .nx ρ' => sForL G b ds ρ'
    | .ct ρ' => sForL G b ds ρ'
    | .bk ρ' => some (.nx ρ')
    | .rt d => some (.rt d)
    | .rm d ρ' => some (.rm d ρ')
def sFor (g : Ev → Option (List D)) (G : D → Ev → Option Ev) (b : FS) : FS := fun ρ => (g ρ).bind fun ds => sForL G b ds ρ
section
variable {X : Cx} {tg iter : Expr} {body : List Stmt} {F : FS} {pos : Pos} {g : Ev → Option (List D)} {G : D → Ev → Option Ev}
theorem fr_stab {H H1 H2 : Hp} {ρ ρ1 : Ev} {fm fm1 : Nat → List Addr} (s : Same H H1) (fr : Fr H1 ρ fm H2 ρ1 fm1) : Stab (Own ρ fm) H1 H2 := fr.keep
theorem ds_for (hp : PassesOwn (model X.prog X.w) X.A X.env X.xe) (hc : X.calm = true) (hi : DI X tg iter g) {S : List Nat} (hg : DG X tg S G) (hb : DSs X body F) (hs : ∀ x, foldedSetIterable iter X.env x = pure x := by intro _; rfl) : DS X (.For tg iter body [] pos) (sFor g G F) :=
  ps_mono (ps_for hp hc hi hg hb hs) fun Dn σ H ⟨H0, ρ, fm, o, er, hf, q⟩ => by
    obtain ⟨ds, h1, h2⟩ := bind_some hf
    refine ⟨H0, ρ, fm, ds, er, h1, fun J H1 s1 Y => ?_⟩
    refine ⟨fun i m σ2 H2 => m = ds.length - i ∧ i ≤ ds.length ∧ ∃ ρ2 fm2, ER X.K H0 H2 σ2 ρ2 fm2 ∧ Fr H1 ρ fm H2 ρ2 fm2 ∧ sForL G F (ds.drop i) ρ2 = some o, ⟨ds.length, by simp, Nat.zero_le _, ρ, fm, er.mono s1, Fr.refl, h2⟩, ?_⟩
    rintro i m σ2 H2 ⟨rfl, hi, ρ2, fm2, er2, fr2, e2⟩
    have fr02 : Fr H ρ fm H2 ρ2 fm2 := (Fr.of_same s1 fun _ z => .inl z).trans fr2
    obtain ⟨y1, y2⟩ := Y H2 fr2.keep
    by_cases hlt : i < ds.length
    · have ed : ds[i]? = some ds[i] := List.getElem?_eq_getElem hlt
      have edr : ds.drop i = ds[i] :: ds.drop (i + 1) := (List.drop_eq_getElem_cons hlt)
      rw [edr] at e2
      obtain ⟨ρ3, h3, h4⟩ := bind_some (x := G _ ρ2) e2
      obtain ⟨o1, h5, h6⟩ := bind_some h4
      obtain ⟨y3, y4⟩ := y2 i _ ed
      refine .inr ⟨y3, fun σ' H' => ∃ ρ4 fm4, ER X.K H0 H' σ' ρ4 fm4 ∧ Fr H1 ρ fm H' ρ4 fm4 ∧ sForL G F (ds.drop (i + 1)) ρ4 = some o, fun σ' H' z => ⟨_, by omega, rfl, hlt, z⟩, fun x H3 y => ?_⟩
      obtain ⟨s3, fp, rx, nx⟩ := y4 x H3 y
      have er3 := er2.mono s3
      have nown : ∀ a ∈ fp, ¬ Own ρ2 fm2 a := fun a ha z => by
        obtain ⟨n1, o', n2⟩ := nx a ha
        rcases fr2.new a z with z | z
        · exact n1 z
        · rw [n2] at z; cases z
      refine ⟨H0, ρ2, fm2, _, fp, ρ3, er3, rx, nown, h3, fun σ4 fm4 er4 ho4 _ => ⟨H0, ρ3, fm4, o1, er4, h5, ?_⟩⟩
      have fr4 : Fr H1 ρ fm H3 ρ3 fm4 := fr2.trans (Fr.of_same s3 fun b z => .inl (ho4 b z))
      cases o1 with
      | nx ρ5 => exact fun σ5 H5 fm5 er5 fr5 => ⟨ρ5, fm5, er5, fr4.trans fr5, h6⟩
      | ct ρ5 => exact fun σ5 H5 fm5 er5 fr5 => ⟨ρ5, fm5, er5, fr4.trans fr5, h6⟩
      | bk ρ5 => cases h6; exact fun σ5 H5 fm5 er5 fr5 => q σ5 H5 fm5 er5 ((Fr.of_same s1 fun _ z => .inl z).trans (fr4.trans fr5))
      | rt d => cases h6; exact q
      | rm d ρ5 => cases h6; exact fun v σ5 H5 fm5 fp er5 fr5 => q v σ5 H5 fm5 fp er5 ((Fr.of_same s1 fun _ z => .inl z).trans (fr4.trans fr5))
    · have e : i = ds.length := by omega
      subst e
      rw [List.drop_length] at e2
      cases e2
      exact .inl ⟨y1 _ (Nat.le_refl _), q σ2 H2 fm2 er2 fr02⟩
end
def compL (G : D → Ev → Option Ev) (c : Ev → Option Bool) (e : FE) (ρ : Ev) : List D → Option (List D)
  | [] => some []
  | d :: ds => (G d ρ).bind fun ρ1 => (c ρ1).bind fun b => if b then (e ρ1).bind fun y => (compL G c e ρ ds).bind fun ys => some (y :: ys) else compL G c e ρ ds
noncomputable def fComp (g : Ev → Option (List D)) (G : D → Ev → Option Ev) (c : Ev → Option Bool) (e : FE) (vs : List Nat) : FE := fun ρ => (g ρ).bind fun ds => (compL G c e (wipeD ρ vs) ds).bind fun ys => gd (ys.length ≤ sizeLine) (some (.lst ys))
abbrev DTs (X : Cx) (e : List Expr) (c : Ev → Option Bool) : Prop := PTs X e (tT X.K c)
def cYes : Ev → Option Bool := fun _ => some true
theorem pts_mono {X : Cx} {e : List Expr} {t t' : TT} (h : PTs X e t) (hm : ∀ σ H Q, t' σ H Q → t σ H Q) : PTs X e t' := ⟨fun pins s σ H Q I q => h.run pins s σ H Q I (hm σ H Q q)⟩
theorem dts_nil {X : Cx} : DTs X [] cYes := pts_mono pts_nil fun σ H Q ⟨H0, ρ, fm, b, er, hf, q⟩ => by
  cases hf
  exact q H (Same.refl H)
theorem dts_one {X : Cx} {e : Expr} {c : Ev → Option Bool} (h : DT X e c) : DTs X [e] c := pts_one h
theorem compL_len {G : D → Ev → Option Ev} {c : Ev → Option Bool} {e : FE} {ρ : Ev} : ∀ {ds ys : List D}, compL G c e ρ ds = some ys → ys.length ≤ ds.length
  | [], _, h => by cases h; exact Nat.le_refl _
  | d :: ds, ys, h => by
    obtain ⟨ρ1, h1, h2⟩ := bind_some (x := G d ρ) h
    obtain ⟨b, h3, h4⟩ := bind_some h2
    cases b with
    | true =>
      rw [if_pos rfl] at h4
      obtain ⟨y, h5, h6⟩ := bind_some h4
      obtain ⟨zs, h7, h8⟩ := bind_some h6
      cases h8
      have := compL_len h7
      simp only [List.length_cons]
      omega
    | false =>
      rw [if_neg Bool.false_ne_true] at h4
      have := compL_len h4
      simp only [List.length_cons]
      omega
theorem wipe_len2 {σ : L2.St} {vs : List Nat} : (L2.wipe σ vs).length = σ.length := wipe_length σ vs
section
variable {X : Cx} {elt tg iter : Expr} {ifs : List Expr} {scope : Scope} {own : List (Str × Nat)} {pos : Pos} {g : Ev → Option (List D)} {G : D → Ev → Option Ev} {S : List Nat} {c : Ev → Option Bool} {f : FE} {κ : Kd}
theorem t_comp {K : PySem.W.Frag} {vs : List Nat} (hS : ∀ i ∈ S, i ∈ vs) {σ : L2.St} {H : Hp} {Q : VK} (q : tE K (.rt []) (fComp g G c f vs) σ H Q) : tLc (tI K g) (tG K S G) (tT K c) (tE K (.rt []) f) vs σ H Q := by
  obtain ⟨H0, ρ, fm, d, er, hf, q⟩ := q
  obtain ⟨ds, h1, h2⟩ := bind_some hf
  obtain ⟨ys, h3, h4⟩ := bind_some h2
  obtain ⟨hz, h4⟩ := gds h4
  cases h4
  refine ⟨H0, ρ, fm, ds, er, h1, fun J H1 s1 Y Da hD => ?_⟩
  have er1 := er.mono s1
  let W : Nat → Nat → Hp → Prop := fun i m H2 => m = ds.length - i ∧ i ≤ ds.length ∧ ∃ accV accD fp, Same H1 H2 ∧ H2 Da = some (.lst accV) ∧ RepL K H2 accV accD fp ∧ Da ∉ fp ∧
    fp.Nodup ∧ (∀ a ∈ fp, H a = none) ∧ ∃ r, compL G c f (wipeD ρ vs) (ds.drop i) = some r ∧ accD ++ r = ys
  refine ⟨W, ⟨ds.length, by simp, Nat.zero_le _, [], [], [], same_upd hD, upd_same, .nil, (fun z => nomatch z), List.nodup_nil, (fun _ z => nomatch z), ys, h3, rfl⟩, ?_⟩
  rintro i m H2 ⟨rfl, hi, accV, accD, fp, s12, hDa, ra, nD, nd, frs, r, hr, he⟩
  obtain ⟨y1, y2⟩ := Y H2 (Stab.of_same s12)
  by_cases hlt : i < ds.length
  · have ed : ds[i]? = some ds[i] := List.getElem?_eq_getElem hlt
    have edr : ds.drop i = ds[i] :: ds.drop (i + 1) := (List.drop_eq_getElem_cons hlt)
    rw [edr] at hr
    obtain ⟨ρ3, h5, h6⟩ := bind_some (x := G _ (wipeD ρ vs)) hr
    obtain ⟨b, h7, h8⟩ := bind_some h6
    obtain ⟨y3, y4⟩ := y2 i _ ed
    refine .inr ⟨y3, W (i + 1) (ds.length - (i + 1)), fun H' z => ⟨_, by omega, z⟩, fun x H3 y => ?_⟩
    obtain ⟨s3, fq, rx, nx⟩ := y4 x H3 y
    have erw : ER K H0 H3 (L2.wipe σ vs) (wipeD ρ vs) fm := ((er1.mono s12).mono s3).wipe vs
    have nown : ∀ a ∈ fq, ¬ Own (wipeD ρ vs) fm a := fun a ha z => (nx a ha).1 (own_sub wipeD_sub z)
    refine ⟨H0, wipeD ρ vs, fm, _, fq, ρ3, erw, rx, nown, h5, fun σ4 fm4 er4 ho4 in4 => ⟨?_, ?_⟩⟩
    · rw [in4 vs hS, wipe_wipe vs vs fun _ h => h]
    · refine ⟨H0, ρ3, fm4, b, er4, h7, fun H4 s4 => ?_⟩
      have s24 : Same H2 H4 := s3.trans s4
      cases b with
      | false =>
        rw [if_neg Bool.false_ne_true] at h8
        exact iteF ⟨rfl, hlt, accV, accD, fp, s12.trans s24, s24 _ _ hDa, ra.same s24, nD, nd, frs, r, h8, he⟩
      | true =>
        rw [if_pos rfl] at h8
        obtain ⟨y0, h9, h10⟩ := bind_some h8
        obtain ⟨r', h11, h12⟩ := bind_some h10
        cases h12
        refine iteT ⟨H0, ρ3, fm4, y0, er4.mono s4, h9, fun v H5 fz s5 rv kv => ?_⟩
        have s25 : Same H2 H5 := s24.trans s5
        have hDa5 : H5 Da = some (.lst accV) := s25 _ _ hDa
        have hlen : accV.length < sizeLine := by
          have e1 := ra.len
          have e2 : accD.length + (y0 :: r').length = ys.length := by rw [← he, List.length_append]
          simp only [List.length_cons] at e2
          omega
        have fz4 : ∀ a ∈ fz, H4 a = none := fun a ha => (kv.2 a ha).elim id fun ⟨_, hi, _⟩ => nomatch hi
        have nfz : Da ∉ fz := fun hm => by
          have z := fz4 Da hm
          rw [s24 _ _ hDa] at z; cases z
        have st : Stab (fun b => b = Da) H5 (upd H5 Da (.lst (accV ++ [v]))) := fun b o e n => by rw [upd_ne n]; exact e
        have ol : ∀ b, b = Da → IsLs H5 b := fun b e => by rw [e]; exact ⟨_, hDa5⟩
        have r1 : RepL K (upd H5 Da (.lst (accV ++ [v]))) accV accD fp := (ra.same s25).stab ol st fun a ha e => nD (e ▸ ha)
        have r2 : Rep K (upd H5 Da (.lst (accV ++ [v]))) v y0 fz := rv.stab ol st fun a ha e => nfz (e ▸ ha)
        have r3 : RepL K (upd H5 Da (.lst (accV ++ [v]))) (accV ++ [v]) (accD ++ [y0]) (fp ++ (fz ++ [])) := r1.app (.cons r2 .nil)
        rw [List.append_nil] at r3
        refine ⟨accV, hDa5, hlen, rfl, hlt, accV ++ [v], accD ++ [y0], fp ++ fz, fun b o e => ?_, upd_same, r3, ?_, ?_, ?_, r', h11, by rw [← he]; simp⟩
        · rw [upd_ne (ne_of_none e hD)]
          exact s25 _ _ (s12 _ _ e)
        · exact fun hm => (List.mem_append.mp hm).elim nD nfz
        · refine List.nodup_append.mpr ⟨nd, kv.1, fun a ha b hb e => ?_⟩
          subst e
          obtain ⟨ws, t⟩ := ra.trk a ha
          have z := fz4 a hb
          rw [s24 _ _ t] at z; cases z
        · exact fun a ha => (List.mem_append.mp ha).elim (frs a) fun hb => s1.free (s12.free (s24.free (fz4 a hb)))
  · have e : i = ds.length := by omega
    subst e
    rw [List.drop_length] at hr
    cases hr
    rw [List.append_nil] at he
    subst he
    refine .inl ⟨y1 _ (Nat.le_refl _), q _ H2 (Da :: fp) (s1.trans s12) (.lst hDa ra) ⟨List.nodup_cons.mpr ⟨nD, nd⟩, fun a ha => .inl ?_⟩⟩
    rcases List.mem_cons.mp ha with rfl | ha
    · exact s1.free hD
    · exact frs a ha
theorem de_comp (hc : X.calm = true) (hN : X.N.Nodup) (hi : DI X tg iter g) (ok : BlkOk X.N X.env.scope scope own) (hS : ∀ i ∈ S, i ∈ own.map (·.2))
    (hg : ∀ (s : Shared) (H : Hp) (C : Addr) (cl : List (Str × Addr)) (fp : List Addr), DG (X.blk s H scope (compEnvC scope cl C X.env) fp) tg S G) (ht : ∀ (s : Shared) (H : Hp) (C : Addr) (cl : List (Str × Addr)) (fp : List Addr), DTs (X.blk s H scope (compEnvC scope cl C X.env) fp) ifs c)
    (he : ∀ (s : Shared) (H : Hp) (C : Addr) (cl : List (Str × Addr)) (fp : List Addr), DE (X.blk s H scope (compEnvC scope cl C X.env) fp) elt (.rt []) f) (hs : ∀ x, foldedSetIterable iter X.env x = pure x := by intro _; rfl) :
    DE X (.ListComp elt [⟨tg, iter, ifs, 0⟩] scope pos) (.rt []) (fComp g G c f (own.map (·.2))) :=
  pe_mono (pe_lc hc hN hi ok hg ht he hs) fun σ H Q q => t_comp hS q
theorem ds_comp_ow (i : Nat) {y : Str} {py spos : Pos} (hc : X.calm = true) (hN : X.N.Nodup) (hi : DI X tg iter g) (ok : BlkOk X.N X.env.scope scope own) (hS : ∀ i ∈ S, i ∈ own.map (·.2))
    (hg : ∀ (s : Shared) (H : Hp) (C : Addr) (cl : List (Str × Addr)) (fp : List Addr), DG (X.blk s H scope (compEnvC scope cl C X.env) fp) tg S G) (ht : ∀ (s : Shared) (H : Hp) (C : Addr) (cl : List (Str × Addr)) (fp : List Addr), DTs (X.blk s H scope (compEnvC scope cl C X.env) fp) ifs c)
    (he : ∀ (s : Shared) (H : Hp) (C : Addr) (cl : List (Str × Addr)) (fp : List Addr), DE (X.blk s H scope (compEnvC scope cl C X.env) fp) elt (.rt []) f)
    (hsw : swapsWith (.ListComp elt [⟨tg, iter, ifs, 0⟩] scope pos) (some (.Name y py)) spos.line X.env = pure true := by exact sw_true rfl rfl rfl (by decide +kernel)) (hy : X.N[i]? = some y := by rfl) (hyl : X.env.scope.names.lookup y = some .local := by rfl) (hs : ∀ x, foldedSetIterable iter X.env x = pure x := by intro _; rfl) :
    DS X (.Assign [.Name y py] (.ListComp elt [⟨tg, iter, ifs, 0⟩] scope pos) spos) (sOw i [] (fComp g G c f (own.map (·.2)))) :=
  ps_mono (ps_setLc hc hN hy hyl hsw hi ok hg ht he hs) fun Dn σ H h => by
    obtain ⟨H0, ρ, fm, o, er, hf, q⟩ := h
    obtain ⟨d, h1, h2⟩ := bind_some hf
    cases h2
    exact t_comp hS ⟨H0, ρ, fm, d, er, h1, fun v H1 fp s1 r1 k1 => asg_ow_at er r1 s1 k1 q⟩
theorem ds_comp_al (i : Nat) {y : Str} {py spos : Pos} (hc : X.calm = true) (hN : X.N.Nodup) (hi : DI X tg iter g) (ok : BlkOk X.N X.env.scope scope own) (hS : ∀ i ∈ S, i ∈ own.map (·.2))
    (hg : ∀ (s : Shared) (H : Hp) (C : Addr) (cl : List (Str × Addr)) (fp : List Addr), DG (X.blk s H scope (compEnvC scope cl C X.env) fp) tg S G) (ht : ∀ (s : Shared) (H : Hp) (C : Addr) (cl : List (Str × Addr)) (fp : List Addr), DTs (X.blk s H scope (compEnvC scope cl C X.env) fp) ifs c)
    (he : ∀ (s : Shared) (H : Hp) (C : Addr) (cl : List (Str × Addr)) (fp : List Addr), DE (X.blk s H scope (compEnvC scope cl C X.env) fp) elt (.rt []) f)
    (hsw : swapsWith (.ListComp elt [⟨tg, iter, ifs, 0⟩] scope pos) (some (.Name y py)) spos.line X.env = pure true := by exact sw_true rfl rfl rfl (by decide +kernel)) (hy : X.N[i]? = some y := by rfl) (hyl : X.env.scope.names.lookup y = some .local := by rfl) (hs : ∀ x, foldedSetIterable iter X.env x = pure x := by intro _; rfl) :
    DS X (.Assign [.Name y py] (.ListComp elt [⟨tg, iter, ifs, 0⟩] scope pos) spos) (sAl i (fComp g G c f (own.map (·.2)))) :=
  ps_mono (ps_setLc hc hN hy hyl hsw hi ok hg ht he hs) fun Dn σ H h => by
    obtain ⟨H0, ρ, fm, o, er, hf, q⟩ := h
    obtain ⟨d, h1, h2⟩ := bind_some hf
    cases h2
    exact t_comp hS ⟨H0, ρ, fm, d, er, h1, fun v H1 fp s1 r1 k1 => asg_al_at er r1 s1 (Kd.ok_le (κ := .rt []) (κ' := .sh) er rfl k1) q⟩
end
def args (N : List Str) (ds : List D) : Ev := ds.map Sl.al ++ List.replicate (N.length - ds.length) .no
def outD : Out → Option D
  | .rt d => some d
  | .nx _ => some .non
  | _ => none
def fnD (N : List Str) (n : Nat) (F : FS) : List D → Option D := fun ds => if ds.length = n then (F (args N ds)).bind outD else none
theorem RepL.fm {K : PySem.W.Frag} {H : Hp} : ∀ {vs : List V} {ds : List D} {fp : List Addr}, RepL K H vs ds fp → ∃ fm : Nat → List Addr, ∀ i d, ds[i]? = some d → ∃ v, vs[i]? = some v ∧ Rep K H v d (fm i)
  | _, _, _, .nil => ⟨fun _ => [], fun i d h => by simp at h⟩
  | _, _, _, .cons (fp := fp) x r => by
    obtain ⟨fm, h⟩ := RepL.fm r
    refine ⟨fun i => match i with | 0 => fp | i + 1 => fm i, fun i d hd => ?_⟩
    cases i with
    | zero =>
      cases hd
      exact ⟨_, rfl, x⟩
    | succ i => exact h i d hd
theorem ER.start {K : PySem.W.Frag} {H : Hp} {N : List Str} {vs : List V} {ds : List D} {fp : List Addr} (r : RepL K H vs ds fp) : ∃ fm, ER K H H (L2.start N vs) (args N ds) fm := by
  obtain ⟨fm, h⟩ := r.fm
  have hl := r.len
  have get : ∀ (i : Nat) (x : Sl), (args N ds)[i]? = some x → x = .no ∨ ∃ d, ds[i]? = some d ∧ x = .al d := fun i x z => by
    unfold args at z
    by_cases hi : i < ds.length
    · rw [List.getElem?_append_left (by simpa using hi), List.getElem?_map] at z
      obtain ⟨d, h1, h2⟩ := Option.map_eq_some_iff.mp z
      exact .inr ⟨d, h1, h2.symm⟩
    · rw [List.getElem?_append_right (by simpa using hi), List.getElem?_replicate] at z
      split at z
      · cases z; exact .inl rfl
      · cases z
  refine ⟨fm, ⟨?_, fun i d z => ?_, fun i d z => ?_, fun i w d z => ?_, fun i j d x ne z1 z2 nn => ?_, Same.refl H⟩⟩
  · unfold L2.start args
    simp [hl]
  · rcases get i _ z with q | ⟨d', h1, h2⟩
    · cases q
    · cases h2
      obtain ⟨v, h3, h4⟩ := h i d h1
      refine ⟨v, ?_, h4⟩
      unfold L2.start
      have hi : i < vs.length := (List.getElem?_eq_some_iff.mp h3).1
      rw [List.getElem?_append_left (by simpa using hi), List.getElem?_map, h3]
      rfl
  · obtain ⟨y, z, hy, ny⟩ := odAt_at z
    rcases get i _ z with q | ⟨d', h1, h2⟩
    · exact absurd q ny
    · rw [h2] at hy; cases hy
  · rcases get i _ z with q | ⟨d', h1, h2⟩
    · cases q
    · cases h2
  · obtain ⟨y, z1, hy, ny⟩ := odAt_at z1
    rcases get i _ z1 with q | ⟨d', h1, h2⟩
    · exact absurd q ny
    · rw [h2] at hy; cases hy
section
variable {P : Program} {w : World} {K : PySem.W.Frag} {mg : Str → Option Value} {base : Heap}
theorem fn_ok {x qual : Str} {params : Arguments} {body : List Stmt} {scope : Scope} {dvs : List V} {f : Addr} {fd : FuncData} {N ps : List Str} {k n : Nat} {F : FS} (Fn : FunD K x qual params body scope dvs [] f fd) (S : FnScope N ps scope) (hn : ps.length = n)
    (hbody : ∀ (cdv : Value) (A : Around) (outer : List Env) (s : Shared) (H : Hp) (E : XK), Room k (A.deeper (envOfC qual scope s.heap.objs.size f cdv)) → DSs (cxOf CX0 P w K mg base N qual scope f cdv A outer s H E).nox body F) :
    FnOk P w K mg base CX0 (k + 1) f fd ps (spD K (fnD N n F)) := by
  refine Fn.ok S (fun vs H Q E h => ?_) (fun cdv A outer s H vs Q E hr h => ⟨tS K F, PSs.nox (hbody cdv A outer s H E hr), ?_⟩)
  · obtain ⟨ds, fp, d, r, hf, _⟩ := h
    unfold fnD at hf
    split at hf
    · next hl => rw [r.len, hl, hn]
    · cases hf
  · obtain ⟨ds, fp, d, r, hf, q⟩ := h
    obtain ⟨fm, er⟩ := ER.start (N := N) r
    unfold fnD at hf
    split at hf
    · obtain ⟨o, h1, h2⟩ := bind_some hf
      refine ⟨H, args N ds, fm, o, er, h1, ?_⟩
      cases o with
      | rt d' => cases h2; exact fun v H' fp' s' r' n' f' => q v H' fp' s' r' n' f'
      | nx ρ' => cases h2; exact fun σ' H' fm' er' _ => q .non H' [] er'.same .non List.nodup_nil fun _ z => nomatch z
      | bk ρ' => cases h2
      | ct ρ' => cases h2
      | rm d ρ' => cases h2
    · cases hf
theorem fd_mk {x : Str} {f : Addr} {fd : FuncData} {ps : List Str} {k : Nat} {g : List D → Option D} (hm : mg x = some (.ref f)) (hk : PySem.W.keepIn K (.ref f) = true) (hb : Binds K fd ps []) (h : FnOk P w K mg base CX0 k f fd ps (spD K g)) : Fd P w K mg base x k [] g :=
  ⟨f, fd, ps, [], [], hm, hk, hb, .nil, fun _ => .nil, h⟩
theorem fd_mkD {x : Str} {f : Addr} {fd : FuncData} {ps : List Str} {k : Nat} {dvs : List V} {dd : List D} {g : List D → Option D} (hm : mg x = some (.ref f)) (hk : PySem.W.keepIn K (.ref f) = true) (hb : ∃ ds, Vals dvs ds ∧ Binds K fd ps ds) (hd : ∀ H, RepL K H dvs dd []) (h : FnOk P w K mg base CX0 k f fd ps (spD K g)) : Fd P w K mg base x k dd g := by
  obtain ⟨ds, h1, h2⟩ := hb
  exact ⟨f, fd, ps, dvs, ds, hm, hk, h2, h1, hd, h⟩
theorem Fd.mono {x : Str} {j k : Nat} {dd : List D} {g : List D → Option D} (h : Fd P w K mg base x j dd g) (l : j ≤ k) : Fd P w K mg base x k dd g := by
  obtain ⟨a, fd, ps, dvs, ds, h1, h2, h3, h4, h5, h6⟩ := h.ex
  exact ⟨a, fd, ps, dvs, ds, h1, h2, h3, h4, h5, h6.mono l⟩
theorem Fd.imp {x : Str} {k : Nat} {dd : List D} {g g' : List D → Option D} (h : Fd P w K mg base x k dd g) (l : ∀ ds d, g' ds = some d → g ds = some d) : Fd P w K mg base x k dd g' := by
  obtain ⟨a, fd, ps, dvs, ds, h1, h2, h3, h4, h5, h6⟩ := h.ex
  exact ⟨a, fd, ps, dvs, ds, h1, h2, h3, h4, h5, h6.imp fun vs H Q E ⟨ds, fp, d, r, hf, q⟩ => ⟨ds, fp, d, r, l ds d hf, q⟩⟩
end
end Z
namespace Z
open PySem PySem.Spec PyProof.Rows L2
section
variable {K : PySem.W.Frag} {X : Cx}
def rRepX (K : PySem.W.Frag) : R2 := fun x y H Q => ∃ l k xs, x = .ref l ∧ y = .int k ∧ SqX K H l xs ∧ -(2 ^ 63) ≤ k ∧ k < 2 ^ 63 ∧ xs.length * k.toNat ≤ sizeLine ∧
  ∀ p, H p = none → Q (.ref p) (upd H p (.lst (List.replicate k.toNat xs).flatten))
theorem PG.or {tg : Expr} {t t' : TG} (h : PG X tg t) (h' : PG X tg t') : PG X tg (fun v σ H Q => t v σ H Q ∨ t' v σ H Q) := ⟨fun pins s σ H v u Q I r q => by
  rcases q with q | q
  · exact h.run pins s σ H v u Q I r q
  · exact h'.run pins s σ H v u Q I r q⟩
def gSq (n : Nat) (J : List D → Ev → Option Ev) : D → Ev → Option Ev := fun d ρ => match d with
  | .tup ds => if ds.length = n then J ds ρ else none
  | .lst ds => if ds.length = n then J ds ρ else none
  | _ => none
theorem dg_seq {es : List Expr} {k : Nat} {S : List Nat} {J : List D → Ev → Option Ev} {n : Nat} {pos : Pos} (hc : X.calm = true) (h : DGs X es S J) (hn : (assignEach es X.env).length = n := by rfl) (hst : (assignEach es X.env).findIdx? (·.1) = none := by rfl) : DG X (.Tuple es k pos) S (gSq n J) :=
  pg_mono (PG.or (pg_tup hc h hn hst) (pg_lst hc h hn hst)) fun v σ H Q ⟨H0, ρ, fm, d, fp, ρ', er, r, nn, hg, q⟩ => by
    cases d with
    | tup ds =>
      obtain ⟨a, vs, rfl, hs, rl⟩ := r.asT
      have hg : (if ds.length = n then J ds ρ else none) = some ρ' := hg
      by_cases hl : ds.length = n
      · rw [if_pos hl] at hg
        exact .inl ⟨a, vs, rfl, hs, by rw [rl.len]; exact hl, H0, ρ, fm, ds, fp, ρ', er, rl, nn, hg, q⟩
      · rw [if_neg hl] at hg; cases hg
    | lst ds =>
      obtain ⟨a, vs, fq, rfl, hs, rl, l, rfl⟩ := r.lsq rfl
      have hg : (if ds.length = n then J ds ρ else none) = some ρ' := hg
      by_cases hl : ds.length = n
      · rw [if_pos hl] at hg
        exact .inr ⟨a, vs, rfl, hs.sq, by rw [rl.len]; exact hl, H0, ρ, fm, ds, fq, ρ', er, rl, fun b hb => nn b (List.mem_append_right _ hb), hg, q⟩
      · rw [if_neg hl] at hg; cases hg
    | _ => cases hg
end
theorem op_mulXX {X : Cx} : OpR X (binaryOp .Mult) (rI CMulX fun i j => .int (i * j)) := op_mulX
end Z
namespace Z
open PySem PySem.Spec PyProof.Rows L2
def D.get : D → List Nat → Option D
  | d, [] => some d
  | .lst xs, k :: p => (xs[k]?).bind fun x => x.get p
  | .tup xs, k :: p => (xs[k]?).bind fun x => x.get p
  | _, _ :: _ => none
def D.put : D → List Nat → D → D
  | _, [], e => e
  | .lst xs, k :: p, e => match xs[k]? with
    | some x => .lst (xs.set k (x.put p e))
    | none => .lst xs
  | .tup xs, k :: p, e => match xs[k]? with
    | some x => .tup (xs.set k (x.put p e))
    | none => .tup xs
  | d, _ :: _, _ => d
inductive AtR (K : PySem.W.Frag) (H : Hp) : V → D → List Addr → List Nat → V → D → List Addr → Prop
  | nil {v : V} {d : D} {fp : List Addr} : Rep K H v d fp → AtR K H v d fp [] v d fp
  | lst {a : Addr} {l1 l2 : List V} {w u : V} {m1 m2 : List D} {e d' : D} {f1 f f2 f' : List Addr} {p : List Nat} : H a = some (.lst (l1 ++ w :: l2)) → RepL K H l1 m1 f1 → AtR K H w e f p u d' f' → RepL K H l2 m2 f2 →
      AtR K H (.ref a) (.lst (m1 ++ e :: m2)) (a :: (f1 ++ (f ++ f2))) (m1.length :: p) u d' f'
  | tup {a : Addr} {l1 l2 : List V} {w u : V} {m1 m2 : List D} {e d' : D} {f1 f f2 f' : List Addr} {p : List Nat} : SqT K H a (l1 ++ w :: l2) → RepL K H l1 m1 f1 → AtR K H w e f p u d' f' → RepL K H l2 m2 f2 →
      AtR K H (.ref a) (.tup (m1 ++ e :: m2)) (f1 ++ (f ++ f2)) (m1.length :: p) u d' f'
section
variable {K : PySem.W.Frag} {H H' : Hp} {v u : V} {d d' : D} {fp f' : List Addr} {p : List Nat}
theorem AtR.focus (h : AtR K H v d fp p u d' f') : Rep K H u d' f' := by
  induction h with
  | nil r => exact r
  | lst _ _ _ _ ih => exact ih
  | tup _ _ _ _ ih => exact ih
theorem SqT.same' {a : Addr} {xs : List V} (h : SqT K H a xs) (s : Same H H') : SqT K H' a xs := Z.SqT.stab (O := fun _ => False) h (fun _ z => z.elim) (Stab.of_same s)
theorem AtR.same (s : Same H H') (h : AtR K H v d fp p u d' f') : AtR K H' v d fp p u d' f' := by
  induction h with
  | nil r => exact .nil (r.same s)
  | lst e r1 _ r2 ih => exact .lst (s _ _ e) (r1.same s) ih (r2.same s)
  | tup e r1 _ r2 ih => exact .tup (SqT.same' e s) (r1.same s) ih (r2.same s)
theorem get_mid {α : Type} {m1 m2 : List α} {e : α} : (m1 ++ e :: m2)[m1.length]? = some e := by simp
theorem set_mid {α : Type} {m1 m2 : List α} {e e' : α} : (m1 ++ e :: m2).set m1.length e' = m1 ++ e' :: m2 := by simp
theorem AtR.get (h : AtR K H v d fp p u d' f') : d.get p = some d' := by
  induction h with
  | nil r => unfold D.get; rfl
  | lst e r1 _ r2 ih => unfold D.get; rw [get_mid]; exact ih
  | tup e r1 _ r2 ih => unfold D.get; rw [get_mid]; exact ih
theorem RepL.split : ∀ {m1 m2 : List D} {e : D} {vs : List V} {fq : List Addr}, RepL K H vs (m1 ++ e :: m2) fq → ∃ l1 w l2 f1 f f2, vs = l1 ++ w :: l2 ∧ RepL K H l1 m1 f1 ∧ Rep K H w e f ∧ RepL K H l2 m2 f2 ∧ fq = f1 ++ (f ++ f2)
  | [], m2, e, _, _, .cons x r => ⟨[], _, _, [], _, _, rfl, .nil, x, r, rfl⟩
  | m :: m1, m2, e, _, _, .cons (fp := fp) x r => by
    obtain ⟨l1, w, l2, f1, f, f2, rfl, r1, rw', r2, rfl⟩ := RepL.split (m1 := m1) r
    exact ⟨_ :: l1, w, l2, fp ++ f1, f, f2, rfl, .cons x r1, rw', r2, by simp⟩
theorem split_at {α : Type} {l : List α} {j : Nat} {e : α} (h : l[j]? = some e) : ∃ m1 m2, l = m1 ++ e :: m2 ∧ m1.length = j := by
  have hj : j < l.length := (List.getElem?_eq_some_iff.mp h).1
  refine ⟨l.take j, l.drop (j + 1), ?_, by rw [List.length_take]; omega⟩
  have e1 : l[j] = e := (List.getElem?_eq_some_iff.mp h).2
  rw [← e1, ← List.drop_eq_getElem_cons hj, List.take_append_drop]
theorem AtR.snocL (h : AtR K H v d fp p u d' f') : ∀ {ds : List D}, d' = .lst ds → ∀ {j : Nat} {e : D}, ds[j]? = some e → ∃ a vs w f, u = .ref a ∧ H a = some (.lst vs) ∧ vs.length = ds.length ∧ vs[j]? = some w ∧ AtR K H v d fp (p ++ [j]) w e f := by
  induction h with
  | nil r =>
    intro ds e1 j e he
    subst e1
    obtain ⟨a, vs, fq, rfl, hl, rl, rfl⟩ := r.asL
    have hlen := rl.len
    obtain ⟨m1, m2, rfl, rfl⟩ := split_at he
    obtain ⟨l1, w, l2, f1, f, f2, rfl, r1, rw', r2, rfl⟩ := rl.split
    refine ⟨a, _, w, f, rfl, hl, hlen, ?_, .lst hl r1 (.nil rw') r2⟩
    rw [← r1.len]
    exact get_mid
  | lst e r1 _ r2 ih =>
    intro ds e1 j e' he
    obtain ⟨a, vs, w, f, h1, h2, h3, h4, h5⟩ := ih e1 he
    exact ⟨a, vs, w, f, h1, h2, h3, h4, .lst e r1 h5 r2⟩
  | tup e r1 _ r2 ih =>
    intro ds e1 j e' he
    obtain ⟨a, vs, w, f, h1, h2, h3, h4, h5⟩ := ih e1 he
    exact ⟨a, vs, w, f, h1, h2, h3, h4, .tup e r1 h5 r2⟩
theorem AtR.snocT (h : AtR K H v d fp p u d' f') : ∀ {ds : List D}, d' = .tup ds → ∀ {j : Nat} {e : D}, ds[j]? = some e → ∃ a vs w f, u = .ref a ∧ SqT K H a vs ∧ vs.length = ds.length ∧ vs[j]? = some w ∧ AtR K H v d fp (p ++ [j]) w e f := by
  induction h with
  | nil r =>
    intro ds e1 j e he
    subst e1
    obtain ⟨a, vs, rfl, hl, rl⟩ := r.asT
    have hlen := rl.len
    obtain ⟨m1, m2, rfl, rfl⟩ := split_at he
    obtain ⟨l1, w, l2, f1, f, f2, rfl, r1, rw', r2, rfl⟩ := rl.split
    refine ⟨a, _, w, f, rfl, hl, hlen, ?_, .tup hl r1 (.nil rw') r2⟩
    rw [← r1.len]
    exact get_mid
  | lst e r1 _ r2 ih =>
    intro ds e1 j e' he
    obtain ⟨a, vs, w, f, h1, h2, h3, h4, h5⟩ := ih e1 he
    exact ⟨a, vs, w, f, h1, h2, h3, h4, .lst e r1 h5 r2⟩
  | tup e r1 _ r2 ih =>
    intro ds e1 j e' he
    obtain ⟨a, vs, w, f, h1, h2, h3, h4, h5⟩ := ih e1 he
    exact ⟨a, vs, w, f, h1, h2, h3, h4, .tup e r1 h5 r2⟩
theorem upd_stab {a : Addr} {o : HO} : Stab (fun b => b = a) H (upd H a o) := fun b o' e n => by rw [upd_ne n]; exact e
theorem rep_upd {a : Addr} {o : HO} (t : IsLs H a) (r : Rep K H v d fp) (n : a ∉ fp) : Rep K (upd H a o) v d fp := r.stab (O := fun b => b = a) (fun b e => by rw [e]; exact t) upd_stab fun b hb e => n (e ▸ hb)
theorem repL_upd {a : Addr} {o : HO} {vs : List V} {ds : List D} (t : IsLs H a) (r : RepL K H vs ds fp) (n : a ∉ fp) : RepL K (upd H a o) vs ds fp := r.stab (O := fun b => b = a) (fun b e => by rw [e]; exact t) upd_stab fun b hb e => n (e ▸ hb)
theorem sqT_upd {a b : Addr} {o : HO} {xs : List V} (t : IsLs H a) (h : SqT K H b xs) : SqT K (upd H a o) b xs := Z.SqT.stab (O := fun b => b = a) h (fun b e => by rw [e]; exact t) upd_stab
theorem nodup3 {f1 f f2 : List Addr} (h : (f1 ++ (f ++ f2)).Nodup) : f1.Nodup ∧ f.Nodup ∧ f2.Nodup ∧ (∀ b ∈ f1, b ∉ f) ∧ (∀ b ∈ f1, b ∉ f2) ∧ ∀ b ∈ f, b ∉ f2 := by
  obtain ⟨h1, h2, h3⟩ := List.nodup_append.mp h
  obtain ⟨h4, h5, h6⟩ := List.nodup_append.mp h2
  exact ⟨h1, h4, h5, fun b hb hc => h3 b hb b (List.mem_append_left _ hc) rfl, fun b hb hc => h3 b hb b (List.mem_append_right _ hc) rfl, fun b hb hc => h6 b hb b hc rfl⟩
theorem mk_nodup3 {f1 f f2 : List Addr} (h1 : f1.Nodup) (h2 : f.Nodup) (h3 : f2.Nodup) (h4 : ∀ b ∈ f1, b ∉ f) (h5 : ∀ b ∈ f1, b ∉ f2) (h6 : ∀ b ∈ f, b ∉ f2) : (f1 ++ (f ++ f2)).Nodup :=
  List.nodup_append.mpr ⟨h1, List.nodup_append.mpr ⟨h2, h3, fun a ha b hb e => h6 a ha (e ▸ hb)⟩, fun a ha b hb e => (List.mem_append.mp hb).elim (fun z => h4 a ha (e ▸ z)) fun z => h5 a ha (e ▸ z)⟩
theorem AtR.write (h : AtR K H v d fp p u d' f') : ∀ {a : Addr} {xs : List D}, u = .ref a → d' = .lst xs → fp.Nodup →
    ∃ vs fpl, H a = some (.lst vs) ∧ RepL K H vs xs fpl ∧ a ∈ fp ∧ (∀ b ∈ fpl, b ∈ fp) ∧ fpl.Nodup ∧ a ∉ fpl ∧
      ∀ vs' xs' fpn, RepL K (upd H a (.lst vs')) vs' xs' fpn → fpn.Nodup → a ∉ fpn → (∀ b ∈ fpn, b ∈ fp → b ∈ fpl) →
        ∃ fp', Rep K (upd H a (.lst vs')) v (d.put p (.lst xs')) fp' ∧ fp'.Nodup ∧ ∀ b ∈ fp', b ∈ fp ∨ b ∈ fpn := by
  induction h with
  | nil r =>
    intro a xs e1 e2 nd
    subst e2
    obtain ⟨a', vs, fq, e3, hl, rl, rfl⟩ := r.asL
    rw [e1] at e3
    cases e3
    have nd' := List.nodup_cons.mp nd
    refine ⟨vs, fq, hl, rl, List.mem_cons_self, fun b hb => List.mem_cons_of_mem _ hb, nd'.2, nd'.1, fun vs' xs' fpn r' n' na _ => ⟨a :: fpn, ?_, List.nodup_cons.mpr ⟨na, n'⟩, fun b hb => ?_⟩⟩
    · rw [e1]
      unfold D.put
      exact .lst upd_same r'
    · rcases List.mem_cons.mp hb with rfl | hb
      · exact .inl List.mem_cons_self
      · exact .inr hb
  | @lst b l1 l2 w u m1 m2 e d' f1 f f2 f' p hb r1 hA r2 ih =>
    intro a xs e1 e2 nd
    obtain ⟨nb, nd'⟩ := List.nodup_cons.mp nd
    obtain ⟨n1, n2, n3, n4, n5, n6⟩ := nodup3 nd'
    obtain ⟨vs, fpl, h1, h2, h3, h4, h5, h6, h7⟩ := ih e1 e2 n2
    have inn : ∀ c, c ∈ f → c ∈ b :: (f1 ++ (f ++ f2)) := fun c hc => List.mem_cons_of_mem _ (List.mem_append_right _ (List.mem_append_left _ hc))
    refine ⟨vs, fpl, h1, h2, inn _ h3, fun c hc => inn _ (h4 c hc), h5, h6, fun vs' xs' fpn r' n' na hx => ?_⟩
    obtain ⟨fp', q1, q2, q3⟩ := h7 vs' xs' fpn r' n' na fun c hc hf => hx c hc (inn c hf)
    have t : IsLs H a := ⟨vs, h1⟩
    have na1 : a ∉ f1 := fun z => n4 a z h3
    have na2 : a ∉ f2 := fun z => n6 a h3 z
    have nab : b ≠ a := fun z => nb (by rw [z]; exact List.mem_append_right _ (List.mem_append_left _ h3))
    have out : ∀ c ∈ fp', c ∉ f1 ∧ c ∉ f2 ∧ c ≠ b := fun c hc => by
      rcases q3 c hc with z | z
      · exact ⟨fun y => n4 c y z, fun y => n6 c z y, fun y => nb (by rw [← y]; exact List.mem_append_right _ (List.mem_append_left _ z))⟩
      · refine ⟨fun y => ?_, fun y => ?_, fun y => ?_⟩
        · exact n4 c y (h4 c (hx c z (List.mem_cons_of_mem _ (List.mem_append_left _ y))))
        · exact n6 c (h4 c (hx c z (List.mem_cons_of_mem _ (List.mem_append_right _ (List.mem_append_right _ y))))) y
        · have := h4 c (hx c z (by rw [y]; exact List.mem_cons_self))
          exact nb (by rw [← y]; exact List.mem_append_right _ (List.mem_append_left _ this))
    refine ⟨b :: (f1 ++ (fp' ++ f2)), ?_, ?_, fun c hc => ?_⟩
    · unfold D.put
      rw [get_mid]
      show Rep K _ (.ref b) (.lst ((m1 ++ e :: m2).set m1.length _)) _
      rw [set_mid]
      exact .lst (by rw [upd_ne nab]; exact hb) ((repL_upd t r1 na1).app (.cons q1 (repL_upd t r2 na2)))
    · refine List.nodup_cons.mpr ⟨fun hm => ?_, mk_nodup3 n1 q2 n3 (fun c hc hd => (out c hd).1 hc) n5 fun c hc hd => (out c hc).2.1 hd⟩
      rcases List.mem_append.mp hm with hm | hm
      · exact nb (List.mem_append_left _ hm)
      · rcases List.mem_append.mp hm with hm | hm
        · exact (out b hm).2.2 rfl
        · exact nb (List.mem_append_right _ (List.mem_append_right _ hm))
    · rcases List.mem_cons.mp hc with rfl | hc
      · exact .inl List.mem_cons_self
      · rcases List.mem_append.mp hc with hc | hc
        · exact .inl (List.mem_cons_of_mem _ (List.mem_append_left _ hc))
        · rcases List.mem_append.mp hc with hc | hc
          · exact (q3 c hc).imp (inn c) id
          · exact .inl (List.mem_cons_of_mem _ (List.mem_append_right _ (List.mem_append_right _ hc)))
  | @tup b l1 l2 w u m1 m2 e d' f1 f f2 f' p hb r1 hA r2 ih =>
    intro a xs e1 e2 nd
    obtain ⟨n1, n2, n3, n4, n5, n6⟩ := nodup3 nd
    obtain ⟨vs, fpl, h1, h2, h3, h4, h5, h6, h7⟩ := ih e1 e2 n2
    have inn : ∀ c, c ∈ f → c ∈ f1 ++ (f ++ f2) := fun c hc => List.mem_append_right _ (List.mem_append_left _ hc)
    refine ⟨vs, fpl, h1, h2, inn _ h3, fun c hc => inn _ (h4 c hc), h5, h6, fun vs' xs' fpn r' n' na hx => ?_⟩
    obtain ⟨fp', q1, q2, q3⟩ := h7 vs' xs' fpn r' n' na fun c hc hf => hx c hc (inn c hf)
    have t : IsLs H a := ⟨vs, h1⟩
    have na1 : a ∉ f1 := fun z => n4 a z h3
    have na2 : a ∉ f2 := fun z => n6 a h3 z
    have out : ∀ c ∈ fp', c ∉ f1 ∧ c ∉ f2 := fun c hc => by
      rcases q3 c hc with z | z
      · exact ⟨fun y => n4 c y z, fun y => n6 c z y⟩
      · refine ⟨fun y => ?_, fun y => ?_⟩
        · exact n4 c y (h4 c (hx c z (List.mem_append_left _ y)))
        · exact n6 c (h4 c (hx c z (List.mem_append_right _ (List.mem_append_right _ y)))) y
    refine ⟨f1 ++ (fp' ++ f2), ?_, mk_nodup3 n1 q2 n3 (fun c hc hd => (out c hd).1 hc) n5 fun c hc hd => (out c hc).2 hd, fun c hc => ?_⟩
    · unfold D.put
      rw [get_mid]
      show Rep K _ (.ref b) (.tup ((m1 ++ e :: m2).set m1.length _)) _
      rw [set_mid]
      exact .tup (sqT_upd t hb) ((repL_upd t r1 na1).app (.cons q1 (repL_upd t r2 na2)))
    · rcases List.mem_append.mp hc with hc | hc
      · exact .inl (List.mem_append_left _ hc)
      · rcases List.mem_append.mp hc with hc | hc
        · exact (q3 c hc).imp (inn c) id
        · exact .inl (List.mem_append_right _ (List.mem_append_right _ hc))
end
def slotO (i : Nat) (ρ : Ev) : Option D := match ρ[i]? with
  | some (.ow d) => some d
  | some (.rf _ d) => some d
  | _ => none
abbrev FP := Ev → Option (List Nat)
def pNil (i : Nat) : FP := fun ρ => (slotO i ρ).bind fun _ => some []
def pIx (i : Nat) (q : FP) (f : FE) : FP := fun ρ => (q ρ).bind fun p => (slotO i ρ).bind fun d => (d.get p).bind fun e => (f ρ).bind fun k => match e, k with
  | .lst xs, .int n => (ixN xs.length n).bind fun j => some (p ++ [j])
  | .tup xs, .int n => (ixN xs.length n).bind fun j => some (p ++ [j])
  | _, _ => none
def tPl (K : PySem.W.Frag) (i : Nat) (q : FP) : TE := fun σ H Q => ∃ H0 ρ fm p d, ER K H0 H σ ρ fm ∧ q ρ = some p ∧ odAt ρ i = some d ∧ ∀ u H', Same H H' → (∃ v d' f', σ[i]? = some (some v) ∧ AtR K H' v d (fm i) p u d' f' ∧ (fm i).Nodup) → Q u H'
abbrev DP (X : Cx) (e : Expr) (i : Nat) (q : FP) : Prop := PE X e (tPl X.K i q)
section
variable {X : Cx} {a b : Expr} {i : Nat} {q : FP} {κ : Kd} {f : FE} {pos : Pos}
theorem slotO_some {ρ : Ev} {d : D} (h : slotO i ρ = some d) : odAt ρ i = some d := by
  unfold slotO at h
  split at h
  · next h' => cases h; exact odAt_ow h'
  · next h' => cases h; exact odAt_rf h'
  · cases h
theorem pl_var (i : Nat) {x : Str} (hN : X.N[i]? = some x := by rfl) (hv : Vis X.env.scope x := by first | exact Or.inl rfl | exact Or.inr (Or.inl rfl) | exact Or.inr (Or.inr rfl)) (hd : (x == ("__debug__" : Str)) = false := by decide)
    (hcd : (x == ("__classdict__" : Str)) = false := by decide) : DP X (.Name x pos) i (pNil i) := pe_mono (pe_var (i := i) hN hv hd hcd) fun σ H Q ⟨H0, ρ, fm, p, d, er, hq, hd, k⟩ => by
  obtain ⟨d', h1, h2⟩ := bind_some hq
  cases h2
  obtain ⟨v, h3, r, n, _⟩ := er.own i d hd
  exact ⟨v, h3, k v H (Same.refl H) ⟨v, d, _, h3, .nil r, n⟩⟩
theorem ixN_lt {n : Nat} {i : Int} {j : Nat} (h : ixN n i = some j) : j < n := (ixN_seq h).2.1
theorem pl_ix (ha : DP X a i q) (hb : DE X b κ f) (hs : PlainIx b := by exact fun _ _ => rfl) : DP X (.Subscript a b pos) i (pIx i q f) := pe_mono (pe_ix ix_seq ha hb hs) fun σ H Q ⟨H0, ρ, fm, p', d, er, hq, hd, k⟩ => by
  obtain ⟨p, h1, h2⟩ := bind_some hq
  obtain ⟨d0, h3, h4⟩ := bind_some h2
  obtain ⟨e, h5, h6⟩ := bind_some h4
  obtain ⟨n, h7, h8⟩ := bind_some h6
  have e0 : d0 = d := by
    have := slotO_some h3
    rw [hd] at this
    cases this
    rfl
  subst e0
  refine ⟨H0, ρ, fm, p, d0, er, h1, hd, fun u H1 s1 ⟨v, d', f', hv, hA, nd⟩ => ⟨H0, ρ, fm, n, er.mono s1, h7, fun y H2 fq s2 r2 k2 => ?_⟩⟩
  have hA2 := hA.same s2
  have eg := hA2.get
  rw [h5] at eg
  cases eg
  split at h8
  · next xs m =>
    obtain ⟨j, hj, e9⟩ := bind_some h8
    cases e9
    have hlt := ixN_lt hj
    obtain ⟨c, vs, w, f, rfl, hl, hlen, hw, hA3⟩ := hA2.snocL rfl (List.getElem?_eq_getElem hlt)
    refine .inl ⟨c, vs, m, w, rfl, r2.asI, .inl (.inl hl), ?_, k w H2 (s1.trans s2) ⟨v, _, f, hv, hA3, nd⟩⟩
    unfold atI
    rw [hlen, hj]
    exact hw
  · next xs m =>
    obtain ⟨j, hj, e9⟩ := bind_some h8
    cases e9
    have hlt := ixN_lt hj
    obtain ⟨c, vs, w, f, rfl, hl, hlen, hw, hA3⟩ := hA2.snocT rfl (List.getElem?_eq_getElem hlt)
    refine .inr (.inl ⟨c, vs, m, w, rfl, r2.asI, hl, ?_, k w H2 (s1.trans s2) ⟨v, _, f, hv, hA3, nd⟩⟩)
    unfold atI
    rw [hlen, hj]
    exact hw
  · cases h8
end
end Z
namespace Z
open PySem PySem.Spec PyProof.Rows L2
section
variable {K : PySem.W.Frag} {H0 Hs H : Hp} {σ : L2.St} {ρ : Ev} {fm : Nat → List Addr}
theorem set_self {α : Type} {l : List α} {i : Nat} {x : α} (h : l[i]? = some x) : l.set i x = l := by
  apply List.ext_getElem?
  intro j
  rw [List.getElem?_set]
  by_cases e : i = j
  · subst e
    rw [if_pos rfl, if_pos (List.getElem?_eq_some_iff.mp h).1, h]
  · rw [if_neg e]
def putD (ρ : Ev) (i : Nat) (d : D) : Ev := match ρ[i]? with
  | some (.rf v _) => ρ.set i (.rf v d)
  | _ => ρ.set i (.ow d)
theorem putD_ow {ρ : Ev} {i : Nat} {d d' : D} (h : ρ[i]? = some (.ow d)) : putD ρ i d' = ρ.set i (.ow d') := by unfold putD; rw [h]
theorem putD_rf {ρ : Ev} {i : Nat} {v : V} {d d' : D} (h : ρ[i]? = some (.rf v d)) : putD ρ i d' = ρ.set i (.rf v d') := by unfold putD; rw [h]
theorem putD_x {ρ : Ev} {i : Nat} (d' : D) : ∃ x : Sl, x.od = some d' ∧ putD ρ i d' = ρ.set i x ∧ ∀ w e, x = Sl.rf w e → ∃ d, ρ[i]? = some (Sl.rf w d) := by
  unfold putD
  split
  · next v d h => exact ⟨.rf v d', rfl, rfl, fun w e z => by cases z; exact ⟨_, h⟩⟩
  · exact ⟨.ow d', rfl, rfl, fun w e z => nomatch z⟩
theorem ER.changeX (es : ER K H0 Hs σ ρ fm) (s : Same Hs H) {i : Nat} {d : D} {v : V} {a : Addr} {p : List Nat} {xs : List D} {f' : List Addr} (hi : odAt ρ i = some d) (hv : σ[i]? = some (some v)) (hA : AtR K H v d (fm i) p (.ref a) (.lst xs) f') :
    ∃ vs fpl, H a = some (.lst vs) ∧ RepL K H vs xs fpl ∧ fpl.Nodup ∧ a ∉ fpl ∧ (∀ b, Hs b = none → b ≠ a ∧ b ∉ fpl) ∧ ∀ vs' xs' fpn, RepL K (upd H a (.lst vs')) vs' xs' fpn → fpn.Nodup → (∀ b ∈ fpn, b ∈ fpl ∨ Hs b = none) →
      ∃ fm', ER K H0 (upd H a (.lst vs')) σ (putD ρ i (d.put p (.lst xs'))) fm' ∧ Fr Hs ρ fm (upd H a (.lst vs')) (putD ρ i (d.put p (.lst xs'))) fm' ∧ ∀ j, j ≠ i → fm' j = fm j := by
  obtain ⟨v0, hv0, rs, nd, fresh⟩ := es.own i d hi
  obtain ⟨yi, hyi, _, _⟩ := odAt_at hi
  obtain ⟨vs, fpl, h1, h2, h3, h4, h5, h6, h7⟩ := hA.write rfl rfl nd
  have tks : ∀ b ∈ fm i, IsLs Hs b := rs.trk
  have nfr : ∀ b, Hs b = none → b ∉ fm i := fun b e z => by
    obtain ⟨w, q⟩ := tks b z
    rw [e] at q; cases q
  refine ⟨vs, fpl, h1, h2, h5, h6, fun b hb => ⟨fun z => nfr b hb (z ▸ h3), fun z => nfr b hb (h4 b z)⟩, fun vs' xs' fpn r' n' hf => ?_⟩
  have na : a ∉ fpn := fun z => (hf a z).elim h6 fun e => nfr a e h3
  obtain ⟨fp', q1, q2, q3⟩ := h7 vs' xs' fpn r' n' na fun b hb hm => (hf b hb).elim id fun e => absurd hm (nfr b e)
  have t : IsLs H a := ⟨vs, h1⟩
  have er := es.mono s
  have hlt : i < ρ.length := (List.getElem?_eq_some_iff.mp hyi).1
  have oth : ∀ j x, j ≠ i → ρ[j]? = some x → x ≠ .no → a ∉ fm j := fun j x ne hx nn => es.sepG i j d x (Ne.symm ne) hi hx nn a h3
  have e1 : ER K H0 (upd H a (.lst vs')) σ (ρ.set i .no) fm := by
    refine ⟨by rw [List.length_set]; exact es.len, fun j d' z => ?_, fun j d' z => ?_, fun j w d' z => ?_, fun j l d' x hne z1 z2 nn => ?_, fun b o e => ?_⟩
    · rcases get_set z with ⟨rfl, _, q⟩ | ⟨ne, q⟩
      · cases q
      · obtain ⟨w, g1, g2⟩ := er.al j d' q
        exact ⟨w, g1, rep_upd t g2 (oth j _ ne q (fun z => nomatch z))⟩
    · obtain ⟨y, z, hy, ny⟩ := odAt_at z
      rcases get_set z with ⟨rfl, _, q⟩ | ⟨ne, q⟩
      · exact absurd q ny
      · obtain ⟨w, g1, g2, g3⟩ := er.own j d' (odAt_of q hy)
        exact ⟨w, g1, rep_upd t g2 (oth j _ ne q ny), g3⟩
    · rcases get_set z with ⟨rfl, _, q⟩ | ⟨ne, q⟩
      · cases q
      · exact es.rfv j w d' q
    · obtain ⟨y, z1, hy, ny⟩ := odAt_at z1
      rcases get_set z1 with ⟨rfl, _, q⟩ | ⟨ne, q⟩
      · exact absurd q ny
      · rcases get_set z2 with ⟨rfl, _, q2⟩ | ⟨ne2, q2⟩
        · exact absurd q2 nn
        · exact es.sepG j l d' x hne (odAt_of q hy) q2 nn
    · have ne : b ≠ a := fun z => by
        rw [z, fresh a h3] at e; cases e
      rw [upd_ne ne]
      exact er.same _ _ e
  obtain ⟨X, hX, eX, rX⟩ := putD_x (ρ := ρ) (i := i) (d.put p (.lst xs'))
  have e2 := e1.put_x (i := i) X hX (fun w e z => by
    obtain ⟨d0, hd0⟩ := rX w e z
    have z1 := es.rfv i w d0 hd0
    rw [hv] at z1
    cases z1
    rfl) q1 q2 (fun b hb => (q3 b hb).elim (fresh b) fun z => (hf b z).elim (fun y => fresh b (h4 b y)) fun e => es.same.free e) fun j x ne hx nn b hb => by
    rw [set_get_ne ne] at hx
    rcases q3 b hb with z | z
    · exact es.sepG i j d x (Ne.symm ne) hi hx nn b z
    · rcases hf b z with y | e
      · exact es.sepG i j d x (Ne.symm ne) hi hx nn b (h4 b y)
      · intro y
        cases x with
        | no => exact nn rfl
        | al d2 =>
          obtain ⟨w, _, g2⟩ := es.al j d2 hx
          obtain ⟨ws, g⟩ := g2.trk b y
          rw [e] at g; cases g
        | ow d2 =>
          obtain ⟨w, _, g2, _⟩ := es.ow j d2 hx
          obtain ⟨ws, g⟩ := g2.trk b y
          rw [e] at g; cases g
        | rf w2 d2 =>
          obtain ⟨w, _, g2, _⟩ := es.own j d2 (odAt_rf hx)
          obtain ⟨ws, g⟩ := g2.trk b y
          rw [e] at g; cases g
  have eset : (ρ.set i .no).set i X = putD ρ i (d.put p (.lst xs')) := by rw [List.set_set, eX]
  have evs : σ.set i (some v) = σ := set_self hv
  rw [eset, evs] at e2
  refine ⟨_, e2, ⟨fun b o e n => ?_, fun b z => ?_, fun b z => ?_⟩, fun j ne => fput_ne ne⟩
  · have ne : b ≠ a := fun z => n (z ▸ ⟨i, d, hi, h3⟩)
    rw [upd_ne ne]
    exact s _ _ e
  · rw [eX] at z
    rcases own_put_x z with y | y
    · rcases q3 b y with w | w
      · exact .inl ⟨i, d, hi, w⟩
      · rcases hf b w with w | w
        · exact .inl ⟨i, d, hi, h4 b w⟩
        · exact .inr w
    · exact .inl y
  · have ne : b ≠ a := fun y => by rw [y, upd_same] at z; cases z
    rw [upd_ne ne] at z
    exact s.free z
theorem ER.change (es : ER K H0 Hs σ ρ fm) (s : Same Hs H) {i : Nat} {d : D} {v : V} {a : Addr} {p : List Nat} {xs : List D} {f' : List Addr} (hi : odAt ρ i = some d) (hv : σ[i]? = some (some v)) (hA : AtR K H v d (fm i) p (.ref a) (.lst xs) f') :
    ∃ vs fpl, H a = some (.lst vs) ∧ RepL K H vs xs fpl ∧ fpl.Nodup ∧ a ∉ fpl ∧ (∀ b, Hs b = none → b ≠ a ∧ b ∉ fpl) ∧ ∀ vs' xs' fpn, RepL K (upd H a (.lst vs')) vs' xs' fpn → fpn.Nodup → (∀ b ∈ fpn, b ∈ fpl ∨ Hs b = none) →
      ∃ fm', ER K H0 (upd H a (.lst vs')) σ (putD ρ i (d.put p (.lst xs'))) fm' ∧ Fr Hs ρ fm (upd H a (.lst vs')) (putD ρ i (d.put p (.lst xs'))) fm' := by
  obtain ⟨vs, fpl, h1, h2, h3, h4, h5, h6⟩ := ER.changeX es s hi hv hA
  refine ⟨vs, fpl, h1, h2, h3, h4, h5, fun vs' xs' fpn r' n' hf => ?_⟩
  obtain ⟨fm', e1, e2, _⟩ := h6 vs' xs' fpn r' n' hf
  exact ⟨fm', e1, e2⟩
end
theorem RepL.rev {K : PySem.W.Frag} {H : Hp} : ∀ {vs : List V} {ds : List D} {fp : List Addr}, RepL K H vs ds fp → ∃ fq, RepL K H vs.reverse ds.reverse fq ∧ fq.Perm fp
  | _, _, _, .nil => ⟨[], .nil, .refl _⟩
  | _, _, _, .cons (fp := fp) x r => by
    obtain ⟨fq, h1, h2⟩ := RepL.rev r
    rw [List.reverse_cons, List.reverse_cons]
    refine ⟨_, h1.app (.cons x .nil), ?_⟩
    rw [List.append_nil]
    exact (List.perm_append_comm).trans (List.Perm.append_left _ h2)
def sMut (i : Nat) (q : FP) (g : Ev → List D → Option (List D)) : FS := fun ρ => (q ρ).bind fun p => (slotO i ρ).bind fun d => (d.get p).bind fun e => match e with
  | .lst xs => (g ρ xs).bind fun ys => some (.nx (putD ρ i (d.put p (.lst ys))))
  | _ => none
noncomputable def gAppend (f : FE) : Ev → List D → Option (List D) := fun ρ xs => (f ρ).bind fun y => gd (xs.length < sizeLine) (some (xs ++ [y]))
noncomputable def sAppend (i : Nat) (q : FP) (f : Ev → Option (List D)) : FS := sMut i q (gAppend fun ρ => (f ρ).bind fun ds => match ds with
  | [y] => some y
  | _ => none)
def sReverse (i : Nat) (q : FP) : FS := sMut i q fun _ xs => some xs.reverse
def sClear (i : Nat) (q : FP) : FS := sMut i q fun _ xs => some []
def sPop (i : Nat) (q : FP) : FS := sMut i q fun _ xs => if xs = [] then none else some xs.dropLast
def sSetItem (i : Nat) (q : FP) (fk fv : FE) : FS := sMut i q fun ρ xs => (fk ρ).bind fun k => (fv ρ).bind fun y => match k with
  | .int n => (ixN xs.length n).bind fun j => some (xs.set j y)
  | _ => none
theorem sMut_some {i : Nat} {q : FP} {g : Ev → List D → Option (List D)} {ρ : Ev} {o : Out} (h : sMut i q g ρ = some o) : ∃ p d xs ys, q ρ = some p ∧ odAt ρ i = some d ∧ d.get p = some (.lst xs) ∧ g ρ xs = some ys ∧ o = .nx (putD ρ i (d.put p (.lst ys))) := by
  obtain ⟨p, h1, h2⟩ := bind_some h
  obtain ⟨d, h3, h4⟩ := bind_some h2
  obtain ⟨e, h5, h6⟩ := bind_some h4
  cases e with
  | lst xs =>
    obtain ⟨ys, h7, h8⟩ := bind_some (x := g ρ xs) h6
    cases h8
    exact ⟨p, d, xs, ys, h1, slotO_some h3, h5, h7, rfl⟩
  | _ => cases h6
section
variable {X : Cx} {a b e : Expr} {i : Nat} {q : FP} {κ : Kd} {f fk : FE} {fa : Ev → Option (List D)} {pos apos cpos pos' : Pos}
theorem asL_at {K : PySem.W.Frag} {H : Hp} {v u : V} {d d' : D} {fp f' : List Addr} {p : List Nat} {xs : List D} (h : AtR K H v d fp p u d' f') (e : d.get p = some (.lst xs)) : d' = .lst xs ∧ ∃ a vs, u = .ref a ∧ H a = some (.lst vs) := by
  have eg := h.get
  rw [e] at eg
  cases eg
  obtain ⟨a, vs, fq, h1, h2, _⟩ := h.focus.asL
  exact ⟨rfl, a, vs, h1, h2⟩
theorem nodup_app {l r : List Addr} (hl : l.Nodup) (hr : r.Nodup) (h : ∀ a ∈ l, a ∉ r) : (l ++ r).Nodup := List.nodup_append.mpr ⟨hl, hr, fun a ha b hb e => h a ha (e ▸ hb)⟩
theorem ds_append (ha : DP X a i q) (hb : DA X [b] (.rt []) fa) (hs : swapsWith (.Call (.Attribute a "append" apos) [b] [] cpos) none pos.line X.env = pure false := by rfl)
    (hbase : attributeBase a "append" X.env (eval a X.env) = eval a X.env := by rfl)
    (hfew : ((backTo cpos (starEach [b] X.env)).all (fun x => !x.1) && (backToKw cpos (keywordEach [] X.env)).all (fun x => x.1.isSome)
      && decide (([b] : List Expr).length + ([] : List Keyword).length + (if ([] : List Keyword).isEmpty then 0 else 1) < 30)) = true := by rfl)
    (hline : (apos.endLine == cpos.line) = true := by rfl) (hst : starEach [b] X.env = (false, eval b X.env) :: starEach [] X.env := by rfl) (hplain : (backTo cpos (starEach [] X.env)).any (·.1) = false := by rfl) :
    DS X (.Expr (.Call (.Attribute a "append" apos) [b] [] cpos) pos) (sAppend i q fa) :=
  ps_mono (ps_expr (pe_bm PySem.F.plainAttrs_list PySem.F.slot_list_append PySem.F.type_list_append mt_append ha hb.run hbase hfew hline hst hplain) hs) fun Dn σ H ⟨H0, ρ, fm, o, er, hf, k⟩ => by
    obtain ⟨p, d, xs, ys, h1, h2, h3, h4, rfl⟩ := sMut_some hf
    obtain ⟨y, h5, h6⟩ := bind_some h4
    obtain ⟨hz, h6⟩ := gds h6
    cases h6
    obtain ⟨ds, h7, h8⟩ := bind_some h5
    split at h8
    · cases h8
      refine ⟨H0, ρ, fm, p, d, er, h1, h2, fun u H1 s1 ⟨v, d', f', hv, hA, nd⟩ => ?_⟩
      obtain ⟨rfl, l, vs, rfl, hl⟩ := asL_at hA h3
      refine ⟨.inl ⟨rfl, _, SqL.of hl⟩, H0, ρ, fm, _, er.mono s1, h7, fun w H2 fq s2 rw' kw => ?_⟩
      obtain ⟨y', rfl, ry⟩ := rw'.one
      have hA2 := hA.same s2
      obtain ⟨vs2, fpl, c1, c2, c3, c4, c5, c6⟩ := er.change (s1.trans s2) h2 hv hA2
      have fr : ∀ b ∈ fq, H b = none := fun b hb => s1.free ((kw.2 b hb).elim id fun ⟨_, z, _⟩ => nomatch z)
      have t : IsLs H2 l := ⟨_, c1⟩
      obtain ⟨fm', e1, e2⟩ := c6 (vs2 ++ [y']) (xs ++ [y]) (fpl ++ (fq ++ [])) ((repL_upd t c2 c4).app (.cons (rep_upd t ry fun z => (c5 l (fr l z)).1 rfl) .nil)) (nodup_app c3 (by rw [List.append_nil]; exact kw.1) fun b hb z => (c5 b (fr b (by rw [List.append_nil] at z; exact z))).2 hb)
        fun b hb => (List.mem_append.mp hb).imp id fun z => fr b (by rw [List.append_nil] at z; exact z)
      exact ⟨l, vs2, y', rfl, rfl, c1, by rw [c2.len]; exact hz, k _ _ _ e1 e2⟩
    · cases h8
theorem ds_reverse (ha : DP X a i q) (hs : swapsWith (.Call (.Attribute a "reverse" apos) [] [] cpos) none pos.line X.env = pure false := by rfl)
    (hbase : attributeBase a "reverse" X.env (eval a X.env) = eval a X.env := by rfl) (hline : (apos.endLine == cpos.line) = true := by rfl) :
    DS X (.Expr (.Call (.Attribute a "reverse" apos) [] [] cpos) pos) (sReverse i q) :=
  ps_mono (ps_expr (pe_bm0 PySem.F.plainAttrs_list PySem.F.slot_list_reverse PySem.F.type_list_reverse mt_reverse ha hbase hline) hs) fun Dn σ H ⟨H0, ρ, fm, o, er, hf, k⟩ => by
    obtain ⟨p, d, xs, ys, h1, h2, h3, h4, rfl⟩ := sMut_some hf
    cases h4
    refine ⟨H0, ρ, fm, p, d, er, h1, h2, fun u H1 s1 ⟨v, d', f', hv, hA, nd⟩ => ?_⟩
    obtain ⟨rfl, l, vs, rfl, hl⟩ := asL_at hA h3
    obtain ⟨vs2, fpl, c1, c2, c3, c4, c5, c6⟩ := er.change s1 h2 hv hA
    have t : IsLs H1 l := ⟨_, c1⟩
    obtain ⟨fpr, rr, pm⟩ := RepL.rev (repL_upd (o := .lst vs2.reverse) t c2 c4)
    obtain ⟨fm', e1, e2⟩ := c6 vs2.reverse xs.reverse fpr rr (pm.nodup_iff.mpr c3) fun b hb => .inl (pm.mem_iff.mp hb)
    exact ⟨.inl ⟨rfl, _, SqL.of hl⟩, l, vs2, rfl, rfl, c1, k _ _ _ e1 e2⟩
theorem ds_clear (ha : DP X a i q) (hs : swapsWith (.Call (.Attribute a "clear" apos) [] [] cpos) none pos.line X.env = pure false := by rfl)
    (hbase : attributeBase a "clear" X.env (eval a X.env) = eval a X.env := by rfl) (hline : (apos.endLine == cpos.line) = true := by rfl) :
    DS X (.Expr (.Call (.Attribute a "clear" apos) [] [] cpos) pos) (sClear i q) :=
  ps_mono (ps_expr (pe_bm0 PySem.F.plainAttrs_list PySem.F.slot_list_clear PySem.F.type_list_clear mt_clear ha hbase hline) hs) fun Dn σ H ⟨H0, ρ, fm, o, er, hf, k⟩ => by
    obtain ⟨p, d, xs, ys, h1, h2, h3, h4, rfl⟩ := sMut_some hf
    cases h4
    refine ⟨H0, ρ, fm, p, d, er, h1, h2, fun u H1 s1 ⟨v, d', f', hv, hA, nd⟩ => ?_⟩
    obtain ⟨rfl, l, vs, rfl, hl⟩ := asL_at hA h3
    obtain ⟨vs2, fpl, c1, c2, c3, c4, c5, c6⟩ := er.change s1 h2 hv hA
    obtain ⟨fm', e1, e2⟩ := c6 [] [] [] .nil List.nodup_nil fun b hb => nomatch hb
    exact ⟨.inl ⟨rfl, _, SqL.of hl⟩, l, vs2, rfl, rfl, c1, k _ _ _ e1 e2⟩
theorem ds_pop (ha : DP X a i q) (hs : swapsWith (.Call (.Attribute a "pop" apos) [] [] cpos) none pos.line X.env = pure false := by rfl)
    (hbase : attributeBase a "pop" X.env (eval a X.env) = eval a X.env := by rfl) (hline : (apos.endLine == cpos.line) = true := by rfl) :
    DS X (.Expr (.Call (.Attribute a "pop" apos) [] [] cpos) pos) (sPop i q) :=
  ps_mono (ps_expr (pe_bm0 PySem.F.plainAttrs_list PySem.F.slot_list_pop PySem.F.type_list_pop mt_pop ha hbase hline) hs) fun Dn σ H ⟨H0, ρ, fm, o, er, hf, k⟩ => by
    obtain ⟨p, d, xs, ys, h1, h2, h3, h4, rfl⟩ := sMut_some hf
    by_cases hx : xs = []
    · rw [if_pos hx] at h4; cases h4
    rw [if_neg hx] at h4
    cases h4
    refine ⟨H0, ρ, fm, p, d, er, h1, h2, fun u H1 s1 ⟨v, d', f', hv, hA, nd⟩ => ?_⟩
    obtain ⟨rfl, l, vs, rfl, hl⟩ := asL_at hA h3
    obtain ⟨vs2, fpl, c1, c2, c3, c4, c5, c6⟩ := er.change s1 h2 hv hA
    have t : IsLs H1 l := ⟨_, c1⟩
    obtain ⟨xs0, x1, rfl⟩ : ∃ xs0 x1, xs = xs0 ++ [x1] := ⟨xs.dropLast, xs.getLast hx, (List.dropLast_concat_getLast hx).symm⟩
    obtain ⟨l1, w, l2, f1, f, f2, rfl, r1, rw', r2, rfl⟩ := c2.split
    cases r2
    rw [List.dropLast_concat] at k
    obtain ⟨n1, n2, n3, n4, n5, n6⟩ := nodup3 c3
    obtain ⟨fm', e1, e2⟩ := c6 l1 xs0 f1 (repL_upd t r1 fun z => c4 (List.mem_append_left _ z)) n1 fun b hb => .inl (List.mem_append_left _ hb)
    refine ⟨.inl ⟨rfl, _, SqL.of hl⟩, l, l1 ++ [w], w, rfl, rfl, c1, by simp, ?_⟩
    rw [List.dropLast_concat]
    exact k _ _ _ e1 e2
theorem ds_setitem (hv : DE X e (.rt []) f) (ha : DP X a i q) (hb : DE X b κ fk) (hs : swapsWithSole [.Subscript a b pos'] e pos.line X.env = pure false := by rfl) (hw : swappedStores [.Subscript a b pos'] e X.env = pure none := by rfl)
    (h1 : (assignEach [.Subscript a b pos'] X.env).map (·.2) = [assign (.Subscript a b pos') X.env] := by rfl)
    (has : ∀ v, assign (.Subscript a b pos') X.env v = (do
      let ov ← holding [v] (eval a X.env)
      let iv ← holding [v, ov] (eval b X.env)
      standAt pos'
      holding [v, ov, iv] (setItem ov iv v)
      release [v, ov, iv] []) := by intro _; rfl) : DS X (.Assign [.Subscript a b pos'] e pos) (sSetItem i q fk f) :=
  ps_mono (ps_asg hv (pg_sub ha hb set_list has) hs hw h1) fun Dn σ H ⟨H0, ρ, fm, o, er, hf, k⟩ => by
    obtain ⟨p, d, xs, ys, h1, h2, h3, h4, rfl⟩ := sMut_some hf
    obtain ⟨kk, h5, h6⟩ := bind_some h4
    obtain ⟨y, h7, h8⟩ := bind_some h6
    cases kk with
    | int n =>
      obtain ⟨j, hj, h9⟩ := bind_some (x := ixN xs.length n) h8
      cases h9
      refine ⟨H0, ρ, fm, y, er, h7, fun yv H1 fq s1 ry ky => ?_⟩
      refine ⟨H0, ρ, fm, p, d, er.mono s1, h1, h2, fun u H2 s2 ⟨v, d', f', hv, hA, nd⟩ => ?_⟩
      obtain ⟨rfl, l, vs, rfl, hl⟩ := asL_at hA h3
      refine ⟨H0, ρ, fm, _, er.mono (s1.trans s2), h5, fun kv H3 fk' s3 rk _ => ?_⟩
      have hA3 := hA.same s3
      obtain ⟨vs2, fpl, c1, c2, c3, c4, c5, c6⟩ := er.change ((s1.trans s2).trans s3) h2 hv hA3
      have fr : ∀ b ∈ fq, H b = none := fun b hb => (ky.2 b hb).elim id fun ⟨_, z, _⟩ => nomatch z
      have t : IsLs H3 l := ⟨_, c1⟩
      have hlt := ixN_lt hj
      obtain ⟨x0, hx0⟩ : ∃ x, xs[j]? = some x := ⟨_, List.getElem?_eq_getElem hlt⟩
      obtain ⟨m1, m2, rfl, rfl⟩ := split_at hx0
      have hlen := c2.len
      obtain ⟨l1, w, l2, f1, f, f2, rfl, r1, rw', r2, rfl⟩ := c2.split
      obtain ⟨n1, n2, n3, n4, n5, n6⟩ := nodup3 c3
      rw [set_mid] at k
      obtain ⟨fm', e1, e2⟩ := c6 (l1 ++ yv :: l2) (m1 ++ y :: m2) (f1 ++ (fq ++ f2)) ((repL_upd t r1 fun z => c4 (List.mem_append_left _ z)).app (.cons (rep_upd t (ry.same (s2.trans s3)) fun z => (c5 l (fr l z)).1 rfl) (repL_upd t r2 fun z => c4 (List.mem_append_right _ (List.mem_append_right _ z)))))
        (mk_nodup3 n1 ky.1 n3 (fun b hb z => (c5 b (fr b z)).2 (List.mem_append_left _ hb)) n5 fun b hb z => (c5 b (fr b hb)).2 (List.mem_append_right _ (List.mem_append_right _ z)))
        fun b hb => by
          rcases List.mem_append.mp hb with z | z
          · exact .inl (List.mem_append_left _ z)
          · rcases List.mem_append.mp z with z | z
            · exact .inr (fr b z)
            · exact .inl (List.mem_append_right _ (List.mem_append_right _ z))
      refine ⟨l, _, n, m1.length, rfl, rk.asI, c1, by rw [hlen]; exact hj, ?_⟩
      rw [← r1.len, set_mid]
      exact k _ _ _ e1 e2
    | _ => cases h8
end
def sFrz (i : Nat) (F : FS) : FS := fun ρ => F (frz i ρ)
section
variable {K : PySem.W.Frag} {H0 H : Hp} {σ : L2.St} {ρ : Ev} {fm : Nat → List Addr}
theorem frz_get {i j : Nat} {x : Sl} (h : (frz i ρ)[j]? = some x) : ρ[j]? = some x ∨ (j = i ∧ ∃ d, x = .al d ∧ ρ[i]? = some (.ow d)) := by
  unfold frz at h
  split at h
  · next d hd =>
    rcases get_set h with ⟨rfl, _, q⟩ | ⟨_, q⟩
    · exact .inr ⟨rfl, d, q, hd⟩
    · exact .inl q
  · exact .inl h
theorem frz_len {i : Nat} : (frz i ρ).length = ρ.length := by
  unfold frz
  split
  · rw [List.length_set]
  · rfl
theorem own_frz {i : Nat} {a : Addr} (h : Own (frz i ρ) fm a) : Own ρ fm a := by
  obtain ⟨j, d, h1, h2⟩ := h
  obtain ⟨y, h1, hy, ny⟩ := odAt_at h1
  rcases frz_get h1 with q | ⟨rfl, d', q, _⟩
  · exact ⟨j, d, odAt_of q hy, h2⟩
  · rw [q] at hy; cases hy
theorem ER.frz {i : Nat} (e : ER K H0 H σ ρ fm) : ER K H0 H σ (frz i ρ) fm where
  len := by rw [frz_len]; exact e.len
  al := fun j d z => by
    rcases frz_get z with q | ⟨rfl, d', q, q2⟩
    · exact e.al j d q
    · cases q
      obtain ⟨v, h1, h2, _⟩ := e.ow j d q2
      exact ⟨v, h1, h2⟩
  own := fun j d z => by
    obtain ⟨y, z, hy, ny⟩ := odAt_at z
    rcases frz_get z with q | ⟨rfl, d', q, q2⟩
    · exact e.own j d (odAt_of q hy)
    · rw [q] at hy; cases hy
  rfv := fun j w d z => by
    rcases frz_get z with q | ⟨rfl, d', q, q2⟩
    · exact e.rfv j w d q
    · cases q
  sepG := fun j l d x hne z1 z2 nn => by
    obtain ⟨y, z1, hy, ny⟩ := odAt_at z1
    rcases frz_get z1 with q | ⟨rfl, d', q, q2⟩
    · rcases frz_get z2 with q3 | ⟨rfl, d2, q3, q4⟩
      · exact e.sepG j l d x hne (odAt_of q hy) q3 nn
      · exact e.sepG j l d (.ow d2) hne (odAt_of q hy) q4 (fun z => nomatch z)
    · rw [q] at hy; cases hy
  same := e.same
theorem ds_frz {X : Cx} {st : Stmt} {F : FS} (i : Nat) (h : DS X st F) : DS X st (sFrz i F) := ps_mono h fun Dn σ H ⟨H0, ρ, fm, o, er, hf, q⟩ =>
  ⟨H0, Z.frz i ρ, fm, o, er.frz, hf, Post.seq (Z.frz i ρ) (Fr.of_same (Same.refl H) fun b z => .inl (own_frz z)) q⟩
end
end Z
namespace Z
open PySem PySem.Spec PyProof.Rows L2
def pB (p : Bool → Bool → Bool) : D → D → Option Bool := fun d e => match d, e with
  | .bl a, .bl b => some (p a b)
  | _, _ => none
abbrev dIsB := pB fun a b => decide (a = b)
abbrev dIsNotB := pB fun a b => !decide (a = b)
section
variable {K : PySem.W.Frag} {X : Cx}
theorem op_isB : OpR X (compareOp .Is) rIsB := op_isBl
theorem op_isNotB : OpR X (compareOp .IsNot) rNotB := op_notBl
theorem o_isB : OpC K rIsB dIsB := by
  intro x y b vx vy H fx fy Q h r1 r2 q
  unfold dIsB pB at h
  split at h
  · cases h; exact ⟨_, _, r1.asB, r2.asB, q⟩
  · cases h
theorem o_isNotB : OpC K rNotB dIsNotB := by
  intro x y b vx vy H fx fy Q h r1 r2 q
  unfold dIsNotB pB at h
  split at h
  · cases h; exact ⟨_, _, r1.asB, r2.asB, q⟩
  · cases h
end
def rngC (lo c : Int) (n : Nat) : List D := (List.range n).map fun i => D.int (lo + (i : Nat) * c)
noncomputable def iR3 (f : Ev → Option (List D)) : Ev → Option (List D) := fun ρ => (f ρ).bind fun ds => match ds with
  | [.int i, .int j, .int c] => gd (RgC i j c (Builtin.Range.rangeSize i j c).toNat) (some (rngC i c (Builtin.Range.rangeSize i j c).toNat))
  | _ => none
def iZipD (f g : FE) : Ev → Option (List D) := fun ρ => (f ρ).bind fun x => (g ρ).bind fun y => match x.lsq, y.lsq with
  | some xs, some ys => some ((xs.zip ys).map fun p => .tup [p.1, p.2])
  | _, _ => none
def iEnumD (f : FE) : Ev → Option (List D) := fun ρ => (f ρ).bind fun x => match x.lsq with
  | some xs => some (xs.zipIdx.map fun p => .tup [.int (p.2 : Nat), p.1])
  | _ => none
theorem RepL.three {K : PySem.W.Frag} {H : Hp} {x y z : D} {vs : List V} {fp : List Addr} (r : RepL K H vs [x, y, z] fp) : ∃ u v w f1 f2 f3, vs = [u, v, w] ∧ Rep K H u x f1 ∧ Rep K H v y f2 ∧ Rep K H w z f3 := by
  cases r with
  | cons a r => cases r with
    | cons b r => cases r with
      | cons c r => cases r; exact ⟨_, _, _, _, _, _, rfl, a, b, c⟩
section
variable {X : Cx} {e tg : Expr} {κ κ' : Kd} {f g : FE} {pos p : Pos}
theorem Rep.lsqS {K : PySem.W.Frag} {H : Hp} {O : Addr → Prop} {v : V} {d : D} {ds : List D} {fp : List Addr} (r : Rep K H v d fp) (h : d.lsq = some ds) (ho : ∀ b, O b → IsLs H b) (n : ∀ a ∈ fp, ¬ O a) :
    ∃ a vs fq, v = .ref a ∧ RepL K H vs ds fq ∧ (∀ b ∈ fq, b ∈ fp) ∧ ∀ H2, Stab O H H2 → SqL K H2 a vs := by
  cases r with
  | lst hl rl => cases h; exact ⟨_, _, _, rfl, rl, fun b hb => List.mem_cons_of_mem _ hb, fun H2 st => .inl (.inl (st _ _ hl (n _ List.mem_cons_self)))⟩
  | knw hl rl => cases h; exact ⟨_, _, _, rfl, rl, fun b hb => hb, fun H2 st => (hl.stab ho st).sq⟩
  | _ => cases h
theorem yld_zip {K : PySem.W.Frag} {O : Addr → Prop} {a b : Addr} {vs ws : List V} {xs ys : List D} {f1 f2 : List Addr} {H1 : Hp} (ho : ∀ b, O b → IsLs H1 b) (r1 : RepL K H1 vs xs f1) (r2 : RepL K H1 ws ys f2) (n1 : ∀ b ∈ f1, ¬ O b) (n2 : ∀ b ∈ f2, ¬ O b)
    (h1 : ∀ H2, Stab O H1 H2 → SqL K H2 a vs) (h2 : ∀ H2, Stab O H1 H2 → SqL K H2 b ws) : Yld K O (Itz K a b) H1 ((xs.zip ys).map fun p => .tup [p.1, p.2]) := fun H2 st => by
  refine ⟨fun i hi => ⟨vs, ws, h1 H2 st, h2 H2 st, ?_⟩, fun i d hd => ?_⟩
  · rw [List.length_map, List.length_zip] at hi
    rw [r1.len, r2.len]
    omega
  · rw [List.getElem?_map] at hd
    obtain ⟨⟨x, y⟩, g1, g2⟩ := Option.map_eq_some_iff.mp hd
    cases g2
    obtain ⟨g3, g4⟩ := List.getElem?_zip_eq_some.mp g1
    obtain ⟨v, hv, fv, rv, nv⟩ := r1.item ho n1 st g3
    obtain ⟨w, hw, fw, rw', nw⟩ := r2.item ho n2 st g4
    refine ⟨⟨vs, ws, v, w, h1 H2 st, h2 H2 st, hv, hw⟩, fun z H3 ⟨T, v', w', e1, e2, e3, e4, e5⟩ => ?_⟩
    have := (e4 _ (h1 H2 st)).symm.trans hv
    cases this
    have := (e5 _ (h2 H2 st)).symm.trans hw
    cases this
    subst e1 e3
    have s3 : Same H2 (upd H2 T (.tup [v, w])) := same_upd e2
    refine ⟨s3, fv ++ (fw ++ []), .tup (.inl (.inl upd_same)) (.cons (rv.same s3) (.cons (rw'.same s3) .nil)), fun c hc => ?_⟩
    rw [List.append_nil] at hc
    exact (List.mem_append.mp hc).elim (nv c) (nw c)
theorem rngC_len {lo c : Int} {n : Nat} : (rngC lo c n).length = n := by unfold rngC; simp
theorem yld_rngC {K : PySem.W.Frag} {O : Addr → Prop} {lo c : Int} {n : Nat} {H1 : Hp} : Yld K O (Itc lo c n) H1 (rngC lo c n) := fun H2 st => by
  refine ⟨fun i hi => by rw [rngC_len] at hi; exact hi, fun i d hd => ?_⟩
  unfold rngC at hd
  rw [List.getElem?_map] at hd
  obtain ⟨j, h1, h2⟩ := Option.map_eq_some_iff.mp hd
  have hi : i < n := by
    have := (List.getElem?_eq_some_iff.mp h1).1
    simpa using this
  have e : j = i := by
    rw [List.getElem?_range hi] at h1
    exact (Option.some.inj h1).symm
  subst e
  refine ⟨hi, fun x H3 y => ?_⟩
  obtain ⟨rfl, rfl⟩ := y
  exact ⟨Same.refl _, [], h2 ▸ .int _, fun _ z => nomatch z⟩
theorem di_range3 {fa : Ev → Option (List D)} {a b c : Expr} (hg : Gl X "range") (hm : X.mg "range" = none) (ha : DA X [a, b, c] κ fa) (hs : starEach [a, b, c] X.env = (false, eval a X.env) :: starEach [b, c] X.env := by rfl) (hpl : (backTo pos (starEach [b, c] X.env)).any (·.1) = false := by rfl) : DI X tg (.Call (.Name "range" p) [a, b, c] [] pos) (iR3 fa) :=
  pi_mono (pi_range3 hg hm ha.run hs hpl) fun σ H R ⟨H0, ρ, fm, ds, er, hf, q⟩ => by
    obtain ⟨d, h1, h2⟩ := bind_some hf
    refine ⟨H0, ρ, fm, d, er, h1, fun v H1 fp s1 r1 k1 => ?_⟩
    split at h2
    · obtain ⟨hc, h2⟩ := gds h2
      cases h2
      obtain ⟨u, v, w, f1, f2, f3, rfl, r2, r3, r4⟩ := r1.three
      rw [r2.asI, r3.asI, r4.asI]
      exact ⟨_, _, _, _, rfl, hc, q _ H1 s1 yld_rngC⟩
    · cases h2
theorem di_zip {a b : Expr} {es : List Expr} {kk : Nat} {tpos : Pos} (hg : Gl X "zip") (hm : X.mg "zip" = none) (ha : DE X a κ f) (hb : DE X b κ' g) (hk : κ.le .sh = true := by rfl) (hk' : κ'.le .sh = true := by rfl)
    (hs : starEach [a, b] X.env = (false, eval a X.env) :: starEach [b] X.env := by rfl) (hpl : (backTo pos (starEach [b] X.env)).any (·.1) = false := by rfl)
    (h1 : starEach [a, b] X.env = (false, eval a X.env) :: starEach [b] X.env := by rfl) (h2 : starEach [b] X.env = (false, eval b X.env) :: starEach [] X.env := by rfl) : DI X (.Tuple es kk tpos) (.Call (.Name "zip" p) [a, b] [] pos) (iZipD f g) :=
  pi_mono (pi_zip hg hm (pa_cons ha (pa_cons hb pa_nil h2) h1) hs hpl) fun σ H R ⟨H0, ρ, fm, ds, er, hf, q⟩ => by
    obtain ⟨x, g1, g2⟩ := bind_some hf
    obtain ⟨y, g3, g4⟩ := bind_some g2
    split at g4
    · next xs ys ex ey =>
      cases g4
      refine ⟨H0, ρ, fm, x, er, g1, fun vx H1 fp s1 r1 k1 => ?_⟩
      refine ⟨H0, ρ, fm, y, er.mono s1, g3, fun vy H2 fq s2 r2 k2 => ?_⟩
      have k1' := kd_stab er hk k1
      have k2' := kd_stab (er.mono s1) hk' k2
      have o2 := own_ls er (s1.trans s2)
      obtain ⟨la, vs, f1, rfl, rl1, m1, hx⟩ := (r1.same s2).lsqS ex o2 k1'
      obtain ⟨lb, ws, f2, rfl, rl2, m2, hy⟩ := r2.lsqS ey o2 k2'
      exact ⟨la, lb, vs, ws, rfl, hx H2 Stab.refl, hy H2 Stab.refl, q _ H2 (s1.trans s2) (yld_zip o2 rl1 rl2 (fun b hb => k1' b (m1 b hb)) (fun b hb => k2' b (m2 b hb)) hx hy)⟩
    · cases g4
theorem yld_enum {K : PySem.W.Frag} {O : Addr → Prop} {a : Addr} {vs : List V} {xs : List D} {f1 : List Addr} {H1 : Hp} (ho : ∀ b, O b → IsLs H1 b) (r1 : RepL K H1 vs xs f1) (n1 : ∀ b ∈ f1, ¬ O b)
    (h1 : ∀ H2, Stab O H1 H2 → SqL K H2 a vs) : Yld K O (Ite K a) H1 (xs.zipIdx.map fun p => .tup [.int (p.2 : Nat), p.1]) := fun H2 st => by
  refine ⟨fun i hi => ⟨vs, h1 H2 st, ?_⟩, fun i d hd => ?_⟩
  · rw [List.length_map, List.length_zipIdx] at hi
    rw [r1.len]
    exact hi
  · rw [List.getElem?_map] at hd
    obtain ⟨⟨x, j⟩, g1, g2⟩ := Option.map_eq_some_iff.mp hd
    cases g2
    rw [List.getElem?_zipIdx] at g1
    obtain ⟨x', g3, g4⟩ := Option.map_eq_some_iff.mp g1
    have ex : x' = x := congrArg Prod.fst g4
    have ej : i = j := by
      have e := congrArg Prod.snd g4
      simp only at e
      omega
    subst ex ej
    obtain ⟨v, hv, fv, rv, nv⟩ := r1.item ho n1 st g3
    refine ⟨⟨vs, v, h1 H2 st, hv⟩, fun z H3 ⟨T, v', e1, e2, e3, e4⟩ => ?_⟩
    have := (e4 _ (h1 H2 st)).symm.trans hv
    cases this
    subst e1 e3
    have s3 : Same H2 (upd H2 T (.tup [.int (i : Nat), v])) := same_upd e2
    refine ⟨s3, [] ++ (fv ++ []), .tup (.inl (.inl upd_same)) (.cons (.int _) (.cons (rv.same s3) .nil)), fun c hc => ?_⟩
    rw [List.append_nil] at hc
    exact nv c hc
theorem di_enum {a : Expr} {es : List Expr} {kk : Nat} {tpos : Pos} (hg : Gl X "enumerate") (hm : X.mg "enumerate" = none) (ha : DE X a κ f) (hk : κ.le .sh = true := by rfl)
    (hs : starEach [a] X.env = [(false, eval a X.env)] := by rfl) (h1 : starEach [a] X.env = (false, eval a X.env) :: starEach [] X.env := by rfl) : DI X (.Tuple es kk tpos) (.Call (.Name "enumerate" p) [a] [] pos) (iEnumD f) :=
  pi_mono (pi_enum hg hm (pa_cons ha pa_nil h1) hs) fun σ H R ⟨H0, ρ, fm, ds, er, hf, q⟩ => by
    obtain ⟨x, g1, g2⟩ := bind_some hf
    split at g2
    · next xs ex =>
      cases g2
      refine ⟨H0, ρ, fm, x, er, g1, fun vx H1 fp s1 r1 k1 => ?_⟩
      have k1' := kd_stab er hk k1
      have o2 := own_ls er s1
      obtain ⟨la, vs, f1, rfl, rl1, m1, hx⟩ := r1.lsqS ex o2 k1'
      exact ⟨la, vs, rfl, hx H1 Stab.refl, q _ H1 s1 (yld_enum o2 rl1 (fun b hb => k1' b (m1 b hb)) hx)⟩
    · cases g2
end
end Z
namespace Z
open PySem PySem.Spec PyProof.Rows L2
noncomputable def dRep : D → D → Option D
  | .lst xs, .int k => gd (-(2 ^ 63) ≤ k ∧ k < 2 ^ 63 ∧ xs.length * k.toNat ≤ sizeLine ∧ D.immL xs = true) (some (.lst (List.replicate k.toNat xs).flatten))
  | _, _ => none
def dLtD : D → D → Option Bool
  | .tup xs, .tup ys => if (D.tup xs).eqOk 64 = true ∧ (D.tup ys).eqOk 64 = true ∧ PySem.W.alike (D.tup xs).py (D.tup ys).py = true then some (PySem.W.dataLt (D.tup xs).py (D.tup ys).py) else none
  | _, _ => none
section
variable {K : PySem.W.Frag} {X : Cx}
theorem RepL.rep {H : Hp} {vs : List V} {ds : List D} (r : RepL K H vs ds []) : ∀ k : Nat, RepL K H (List.replicate k vs).flatten (List.replicate k ds).flatten []
  | 0 => .nil
  | k + 1 => by
    rw [List.replicate_succ, List.replicate_succ, List.flatten_cons, List.flatten_cons]
    exact r.app (RepL.rep r k)
theorem o_rep : Op2 K rRep dRep := by
  intro x y d vx vy H fx fy Q h r1 r2 q
  unfold dRep at h
  split at h
  · obtain ⟨⟨h1, h2, h3, i1⟩, h⟩ := gds h
    cases h
    obtain ⟨a, vs, fq, rfl, hs, rl, _⟩ := r1.asL
    refine ⟨a, _, vs, rfl, r2.asI, hs, h1, h2, by rw [rl.len]; exact h3, fun p hp => ?_⟩
    exact new_lst hp ((rl.nil_imm i1).rep _) q
  · cases h
def rLtD (K : PySem.W.Frag) : R2 := fun x y H Q => ∃ d e, Dp K H x d ∧ Dp K H y e ∧ PySem.W.alike d e = true ∧ d ≠ .none ∧ d.depth ≤ 64 ∧ Q (.bl (PySem.W.dataLt d e)) H
theorem op_ltD (hu : X.A.units + 64 < cLine) : OpR X (compareOp .Lt) (rLtD X.K) := by
  intro pins s σ H x y v u Q I rx ry h
  obtain ⟨d, e, hd, he, ha, hn, dd, q⟩ := h
  obtain ⟨as, r1⟩ := Dp.reads I d x v hd rx
  obtain ⟨bs, r2⟩ := Dp.reads I e y u he ry
  exact PySem.W.rcLt_alike d e _ s v u as bs r1 r2 ha hn (by omega) _ _ _ _ ⟨.bl _, H, I, rfl, q⟩
theorem o_ltD : OpC K (rLtD K) dLtD := by
  intro x y b vx vy H fx fy Q h r1 r2 q
  unfold dLtD at h
  split at h
  · obtain ⟨⟨h1, h2, h3⟩, rfl⟩ := ifs h
    exact ⟨_, _, r1.dp 64 h1, r2.dp 64 h2, h3, (by rw [D.py]; intro z; cases z), D.eqOk_dep _ 64 h1, q⟩
  · cases h
end
noncomputable def rowRA (c : D) : D → Option D
  | .lst xs => gd (xs.length < sizeLine) (some (.lst (xs.reverse ++ [c])))
  | _ => none
noncomputable def rowsRA (c : D) : List D → Option (List D)
  | [] => some []
  | r :: rs => (rowRA c r).bind fun r' => (rowsRA c rs).bind fun rs' => some (r' :: rs')
theorem fOw_some {i : Nat} {ρ : Ev} {d : D} (h : fOw i ρ = some d) : ρ[i]? = some (.ow d) := by
  unfold fOw at h
  split at h
  · next h' => cases h; exact h'
  · cases h
noncomputable def sForRA (i j : Nat) (c : D) : FS := fun ρ => if j < ρ.length then (fOw i ρ).bind fun d => (match d with
  | .lst rows => (rowsRA c rows).bind fun rows' => some (.nx ((ρ.set i (.ow (.lst rows'))).set j .no))
  | _ => none) else none
theorem rowsRA_len {c : D} : ∀ {rs rs' : List D}, rowsRA c rs = some rs' → rs'.length = rs.length
  | [], _, h => by cases h; rfl
  | r :: rs, rs', h => by
    obtain ⟨r', h1, h2⟩ := bind_some (x := rowRA c r) h
    obtain ⟨rs2, h3, h4⟩ := bind_some h2
    cases h4
    rw [List.length_cons, List.length_cons, rowsRA_len h3]
theorem rowsRA_at {c : D} : ∀ {rs rs' : List D}, rowsRA c rs = some rs' → ∀ {k : Nat} {r : D}, rs[k]? = some r → ∃ r', rowRA c r = some r' ∧ rs'[k]? = some r'
  | [], _, h, k, r, e => by simp at e
  | r0 :: rs, rs', h, k, r, e => by
    obtain ⟨r', h1, h2⟩ := bind_some (x := rowRA c r0) h
    obtain ⟨rs2, h3, h4⟩ := bind_some h2
    cases h4
    cases k with
    | zero => simp at e; subst e; exact ⟨r', h1, rfl⟩
    | succ k => simp at e; obtain ⟨r2, g1, g2⟩ := rowsRA_at h3 e; exact ⟨r2, g1, by simpa using g2⟩
section
variable {K : PySem.W.Frag} {H0 H : Hp} {σ : L2.St} {ρ : Ev} {fm : Nat → List Addr}
theorem ER.setno {j : Nat} {v : Option V} (e : ER K H0 H σ ρ fm) (h : ∀ x, ρ[j]? = some x → x = .no) : ER K H0 H (σ.set j v) ρ fm where
  len := by rw [List.length_set]; exact e.len
  al := fun i d z => by
    have ne : i ≠ j := fun y => by rw [y] at z; cases h _ z
    obtain ⟨w, h1, h2⟩ := e.al i d z
    exact ⟨w, by rw [set_get_ne ne]; exact h1, h2⟩
  own := fun i d z => by
    obtain ⟨y, hy, _, ny⟩ := odAt_at z
    have ne : i ≠ j := fun q => by rw [q] at hy; exact ny (h _ hy)
    obtain ⟨w, h1, h2⟩ := e.own i d z
    exact ⟨w, by rw [set_get_ne ne]; exact h1, h2⟩
  rfv := fun i w d z => by
    have ne : i ≠ j := fun y => by rw [y] at z; cases h _ z
    rw [set_get_ne ne]
    exact e.rfv i w d z
  sepG := e.sepG
  same := e.same
theorem row_at (e : ER K H0 H σ ρ fm) {i k : Nat} {rows xs : List D} (h : ρ[i]? = some (.ow (.lst rows))) (hk : rows[k]? = some (.lst xs)) :
    ∃ a vs l f', σ[i]? = some (some (.ref a)) ∧ H a = some (.lst vs) ∧ vs.length = rows.length ∧ vs[k]? = some (.ref l) ∧ l ≠ a ∧ AtR K H (.ref a) (.lst rows) (fm i) [k] (.ref l) (.lst xs) f' ∧ (∃ ws, H l = some (.lst ws)) := by
  obtain ⟨v, h1, r, nd, _⟩ := e.ow i _ h
  obtain ⟨a, vs, fq, rfl, hl, rl, hfp⟩ := r.asL
  obtain ⟨a', vs', w, f', e1, hl', hlen, hw, hA⟩ := (AtR.nil r).snocL rfl hk
  cases e1
  rw [hl] at hl'
  cases hl'
  obtain ⟨v2, fq', l1, r1, g1, g2, g3⟩ := rl.at hk
  rw [hw] at g1
  cases g1
  obtain ⟨l, ws, fz, rfl, hlw, _, g4⟩ := g2.asL
  refine ⟨a, vs, l, f', h1, hl, hlen, hw, fun z => ?_, hA, ws, hlw⟩
  rw [hfp, g3, g4, z] at nd
  exact (List.nodup_cons.mp nd).1 (List.mem_append_right _ (List.mem_append_left _ List.mem_cons_self))
end
section
variable {X : Cx} {pos apos cpos pos' : Pos} {y : Str}
theorem st_rev (j : Nat) (hN : X.N[j]? = some y := by rfl) (hv : Vis X.env.scope y := by first | exact Or.inl rfl | exact Or.inr (Or.inl rfl) | exact Or.inr (Or.inr rfl)) (hd : (y == ("__debug__" : Str)) = false := by decide) (hcd : (y == ("__classdict__" : Str)) = false := by decide)
    (hs : swapsWith (.Call (.Attribute (.Name y pos') "reverse" apos) [] [] cpos) none pos.line X.env = pure false := by rfl)
    (hbase : attributeBase (.Name y pos') "reverse" X.env (eval (.Name y pos') X.env) = eval (.Name y pos') X.env := by rfl) (hline : (apos.endLine == cpos.line) = true := by rfl) :
    PS X (.Expr (.Call (.Attribute (.Name y pos') "reverse" apos) [] [] cpos) pos) (tDrop (tBM0 X.K "list" rReverse (tVar j))) :=
  ps_expr (pe_bm0 PySem.F.plainAttrs_list PySem.F.slot_list_reverse PySem.F.type_list_reverse mt_reverse (pe_var hN hv hd hcd) hbase hline) hs
theorem st_app {b : Expr} {fa : Ev → Option (List D)} (j : Nat) (hb : DA X [b] (.rt []) fa) (hN : X.N[j]? = some y := by rfl) (hv : Vis X.env.scope y := by first | exact Or.inl rfl | exact Or.inr (Or.inl rfl) | exact Or.inr (Or.inr rfl)) (hd : (y == ("__debug__" : Str)) = false := by decide) (hcd : (y == ("__classdict__" : Str)) = false := by decide)
    (hs : swapsWith (.Call (.Attribute (.Name y pos') "append" apos) [b] [] cpos) none pos.line X.env = pure false := by rfl)
    (hbase : attributeBase (.Name y pos') "append" X.env (eval (.Name y pos') X.env) = eval (.Name y pos') X.env := by rfl)
    (hfew : ((backTo cpos (starEach [b] X.env)).all (fun x => !x.1) && (backToKw cpos (keywordEach [] X.env)).all (fun x => x.1.isSome)
      && decide (([b] : List Expr).length + ([] : List Keyword).length + (if ([] : List Keyword).isEmpty then 0 else 1) < 30)) = true := by rfl)
    (hline : (apos.endLine == cpos.line) = true := by rfl) (hst : starEach [b] X.env = (false, eval b X.env) :: starEach [] X.env := by rfl) (hplain : (backTo cpos (starEach [] X.env)).any (·.1) = false := by rfl) :
    PS X (.Expr (.Call (.Attribute (.Name y pos') "append" apos) [b] [] cpos) pos) (tDrop (tBM X.K "list" rAppend (tVar j) (tA X.K (.rt []) fa))) :=
  ps_expr (pe_bm PySem.F.plainAttrs_list PySem.F.slot_list_append PySem.F.type_list_append mt_append (pe_var hN hv hd hcd) hb.run hbase hfew hline hst hplain) hs
theorem put1 {rows : List D} {k : Nat} {r e : D} (h : rows[k]? = some r) : (D.lst rows).put [k] e = .lst (rows.set k e) := by
  unfold D.put
  rw [h]
  show D.lst (rows.set k (r.put [] e)) = _
  have : r.put [] e = e := by cases r <;> (unfold D.put; rfl)
  rw [this]
theorem ds_forRA {tg iter : Expr} {s1 s2 : Stmt} {fa : Ev → Option (List D)} {c : D} (i j : Nat) (hp : PassesOwn (model X.prog X.w) X.A X.env X.xe) (hc : X.calm = true) (hij : i ≠ j) (hi : PE X iter (tVar i)) (hg : PG X tg (gName j))
    (h1 : PS X s1 (tDrop (tBM0 X.K "list" rReverse (tVar j)))) (h2 : PS X s2 (tDrop (tBM X.K "list" rAppend (tVar j) (tA X.K (.rt []) fa)))) (hcst : ∀ ρ, fa ρ = some [c]) (hs : ∀ x, foldedSetIterable iter X.env x = pure x := by intro _; rfl) :
    DS X (.For tg iter [s1, s2] [] pos) (sForRA i j c) :=
  ps_mono (ps_for hp hc (pi_list hi) hg (pss_cons h1 (pss_one h2)) hs) fun Dn σ H ⟨H0, ρ, fm, o, er, hf, q⟩ => by
    have hf : (if j < ρ.length then (fOw i ρ).bind fun d => (match d with
      | .lst rows => (rowsRA c rows).bind fun rows' => some (Out.nx ((ρ.set i (.ow (.lst rows'))).set j .no))
      | _ => none) else none) = some o := hf
    by_cases hjl : j < ρ.length
    case neg => rw [if_neg hjl] at hf; cases hf
    rw [if_pos hjl] at hf
    obtain ⟨d, h1, hf⟩ := bind_some hf
    cases d with
    | lst rows =>
      obtain ⟨rows', h2, hf⟩ := bind_some (x := rowsRA c rows) hf
      cases hf
      have hρ := fOw_some h1
      have hlen := rowsRA_len h2
      have hil : i < ρ.length := (List.getElem?_eq_some_iff.mp hρ).1
      obtain ⟨v0, hσ, r0, _, _⟩ := er.ow i _ hρ
      obtain ⟨a, vs0, fq0, rfl, hl0, rl0, _⟩ := r0.asL
      let R : List D → Ev := fun mid => (ρ.set i (.ow (.lst mid))).set j .no
      have Ri : ∀ mid, (R mid)[i]? = some (.ow (.lst mid)) := fun mid => by
        show ((ρ.set i (.ow (.lst mid))).set j .no)[i]? = _
        rw [set_get_ne hij, set_get hil]
      have Rj : ∀ mid x, (R mid)[j]? = some x → x = .no := fun mid x h => by
        rcases get_set (l := ρ.set i (.ow (.lst mid))) h with ⟨_, _, e⟩ | ⟨e, _⟩
        · exact e
        · exact absurd rfl e
      have Rset : ∀ mid mid', (R mid).set i (.ow (.lst mid')) = R mid' := fun mid mid' => by
        show ((ρ.set i (.ow (.lst mid))).set j .no).set i (.ow (.lst mid')) = (ρ.set i (.ow (.lst mid'))).set j .no
        rw [List.set_comm _ _ (Ne.symm hij), List.set_set]
      refine ⟨.ref a, hσ, a, rfl, ⟨vs0, SqL.of hl0⟩, fun k m σ' H' => m = rows.length - k ∧ k ≤ rows.length ∧ σ'[i]? = some (some (.ref a)) ∧ ∃ fm' mid, mid.length = rows.length ∧ (∀ n, n < k → mid[n]? = rows'[n]?) ∧ (∀ n, k ≤ n → mid[n]? = rows[n]?) ∧ ER X.K H0 H' σ' (R mid) fm' ∧ Fr H ρ fm H' (R mid) fm', ⟨rows.length, by simp, Nat.zero_le _, hσ, fm, rows, rfl, fun n z => absurd z (Nat.not_lt_zero _), fun _ _ => rfl, ?_, ?_⟩, ?_⟩
      · refine er.sub (by show ((ρ.set i _).set j .no).length = _; rw [List.length_set, List.length_set]) fun n x h => ?_
        rcases get_set (l := ρ.set i (.ow (.lst rows))) h with ⟨_, _, e⟩ | ⟨_, e⟩
        · exact .inl e
        · rw [set_self hρ] at e; exact .inr e
      · refine Fr.of_same (Same.refl H) fun b z => .inl (own_sub (fun n x h => ?_) z)
        rcases get_set (l := ρ.set i (.ow (.lst rows))) h with ⟨_, _, e⟩ | ⟨_, e⟩
        · exact .inl e
        · rw [set_self hρ] at e; exact .inr e
      rintro k m σ1 H1 ⟨rfl, hk, hσ1, fm1, mid, hml, hm1, hm2, er1, fr1⟩
      by_cases hlt : k < rows.length
      · have ek : rows[k]? = some rows[k] := List.getElem?_eq_getElem hlt
        obtain ⟨r', g1, g2⟩ := rowsRA_at h2 ek
        cases er0 : rows[k] with
        | lst xs =>
          rw [er0] at g1 ek
          have g1 : gd (xs.length < sizeLine) (some (D.lst (xs.reverse ++ [c]))) = some r' := g1
          obtain ⟨hz, g1⟩ := gds g1
          cases g1
          have ek1 : mid[k]? = some (.lst xs) := (hm2 k (Nat.le_refl _)).trans ek
          obtain ⟨a', vs, l, f', e1, e2, e3, e4, e5, e6, ws, e7⟩ := row_at er1 (Ri mid) ek1
          rw [hσ1] at e1
          cases e1
          refine .inr ⟨⟨vs, _, SqL.of e2, e4⟩, fun σ2 H2 => σ2[i]? = some (some (.ref a)) ∧ ∃ fm' mid', mid'.length = rows.length ∧ (∀ n, n < k + 1 → mid'[n]? = rows'[n]?) ∧ (∀ n, k + 1 ≤ n → mid'[n]? = rows[n]?) ∧ ER X.K H0 H2 σ2 (R mid') fm' ∧ Fr H ρ fm H2 (R mid') fm', fun σ2 H2 z => ⟨_, by omega, rfl, hlt, z⟩, fun x H2 ⟨y1, y2⟩ => ?_⟩
          subst y1
          have ex := (y2 _ (SqL.of e2)).symm.trans e4
          cases ex
          have er2 : ER X.K H0 H2 (σ1.set j (some (.ref l))) (R mid) fm1 := er1.setno (Rj mid)
          have hσ2 : (σ1.set j (some (V.ref l)))[i]? = some (some (.ref a)) := by rw [set_get_ne hij]; exact hσ1
          have hσj : (σ1.set j (some (V.ref l)))[j]? = some (some (.ref l)) := set_get (by rw [er1.len]; show j < ((ρ.set i _).set j .no).length; rw [List.length_set, List.length_set]; exact hjl)
          obtain ⟨vl, fpl, c1, c2, c3, c4, c5, c6⟩ := er2.change (Same.refl _) (odAt_ow (Ri mid)) hσ2 e6
          have t : IsLs H2 l := ⟨_, c1⟩
          obtain ⟨fpr, rr, pm⟩ := RepL.rev (repL_upd (o := .lst vl.reverse) t c2 c4)
          obtain ⟨fm3, er3, fr3⟩ := c6 vl.reverse xs.reverse fpr rr (pm.nodup_iff.mpr c3) fun b hb => .inl (pm.mem_iff.mp hb)
          rw [put1 ek1, putD_ow (Ri mid), Rset] at er3 fr3
          refine ⟨_, hσj, .inl ⟨rfl, _, SqL.of c1⟩, l, vl, rfl, rfl, c1, ?_⟩
          have ek3 : (mid.set k (.lst xs.reverse))[k]? = some (.lst xs.reverse) := set_get (by rw [hml]; exact hlt)
          obtain ⟨a3, vs3, l3, f3, b1, b2, b3, b4, b5, b6, ws3, b7⟩ := row_at er3 (Ri _) ek3
          rw [hσ2] at b1
          cases b1
          have b2' : H2 a = some (.lst vs3) := by rw [upd_ne (Ne.symm e5)] at b2; exact b2
          rw [e2] at b2'
          cases b2'
          rw [e4] at b4
          cases b4
          refine ⟨_, hσj, .inl ⟨rfl, _, SqL.of upd_same⟩, H0, R (mid.set k (.lst xs.reverse)), fm3, _, er3, hcst _, fun w H4 fq s4 rw4 kw => ?_⟩
          obtain ⟨y', rfl, ry⟩ := rw4.one
          obtain ⟨vl4, fp4, d1, d2, d3, d4, d5, d6⟩ := er3.change s4 (odAt_ow (Ri _)) hσ2 (b6.same s4)
          have fr : ∀ b ∈ fq, upd H2 l (.lst vl.reverse) b = none := fun b hb => (kw.2 b hb).elim id fun ⟨_, z, _⟩ => nomatch z
          have t4 : IsLs H4 l := ⟨_, d1⟩
          obtain ⟨fm5, er5, fr5⟩ := d6 (vl4 ++ [y']) (xs.reverse ++ [c]) (fp4 ++ (fq ++ [])) ((repL_upd t4 d2 d4).app (.cons (rep_upd t4 ry fun z => (d5 l (fr l z)).1 rfl) .nil)) (nodup_app d3 (by rw [List.append_nil]; exact kw.1) fun b hb z => (d5 b (fr b (by rw [List.append_nil] at z; exact z))).2 hb)
            fun b hb => (List.mem_append.mp hb).imp id fun z => fr b (by rw [List.append_nil] at z; exact z)
          rw [put1 ek3, putD_ow (Ri _), Rset, List.set_set] at er5 fr5
          refine ⟨l, vl4, y', rfl, rfl, d1, by rw [d2.len, List.length_reverse]; exact hz, hσ2, fm5, _, by rw [List.length_set]; exact hml, fun n hn => ?_, fun n hn => ?_, er5, (fr1.trans fr3).trans fr5⟩
          · by_cases en : n = k
            · subst en
              rw [set_get (by rw [hml]; exact hlt), g2]
            · rw [set_get_ne en]
              exact hm1 n (by omega)
          · rw [set_get_ne (by omega)]
            exact hm2 n (by omega)
        | _ => rw [er0] at g1; cases g1
      · have ek : k = rows.length := by omega
        subst ek
        obtain ⟨v1, hv1, r1, _⟩ := er1.ow i _ (Ri mid)
        rw [hσ1] at hv1
        cases hv1
        obtain ⟨a', vs, fq, e1, hl, rl, _⟩ := r1.asL
        cases e1
        have em : mid = rows' := List.ext_getElem? fun n => by
          by_cases hn : n < rows.length
          · exact hm1 n hn
          · rw [List.getElem?_eq_none (by omega), List.getElem?_eq_none (by omega)]
        subst em
        exact .inl ⟨⟨vs, SqL.of hl, by rw [rl.len]; omega⟩, q σ1 H1 fm1 er1 fr1⟩
    | _ => cases hf
end
def fSlA (f : FE) (lo hi : FO) : FE := fun ρ => (f ρ).bind fun x => (lo ρ).bind fun l => (hi ρ).bind fun h => x.lsq.bind fun xs => some (.lst (dCut xs l h))
theorem RepL.dropA {K : PySem.W.Frag} {H : Hp} : ∀ {vs : List V} {ds : List D} {fp : List Addr} (n : Nat), RepL K H vs ds fp → ∃ fq, RepL K H (vs.drop n) (ds.drop n) fq
  | _, _, fp, 0, r => ⟨fp, r⟩
  | _, _, _, n + 1, .nil => ⟨[], .nil⟩
  | _, _, _, n + 1, .cons x r => RepL.dropA n r
theorem RepL.takeA {K : PySem.W.Frag} {H : Hp} : ∀ {vs : List V} {ds : List D} {fp : List Addr} (n : Nat), RepL K H vs ds fp → ∃ fq, RepL K H (vs.take n) (ds.take n) fq
  | _, _, _, 0, r => ⟨[], .nil⟩
  | _, _, _, n + 1, .nil => ⟨[], .nil⟩
  | _, _, _, n + 1, .cons x r => by
    obtain ⟨fq, h⟩ := RepL.takeA n r
    exact ⟨_, .cons x h⟩
theorem de_sliceA {X : Cx} {a : Expr} {κ : Kd} {f : FE} {pos : Pos} {lo hi : Option Expr} {fl fh : FO} {p2 : Pos} (ha : DE X a κ f) (hl : DO X lo fl) (hh : DO X hi fh) : DE X (.Subscript a (.Slice lo hi none p2) pos) .any (fSlA f fl fh) := pe_mono (pe_slice sl_list ha hl hh) fun σ H Q ⟨H0, ρ, fm, d, er, hf, q⟩ => by
  obtain ⟨x, h1, h2⟩ := bind_some hf
  obtain ⟨l, h3, h4⟩ := bind_some h2
  obtain ⟨h, h5, h6⟩ := bind_some h4
  refine ⟨H0, ρ, fm, x, er, h1, fun v H1 fp s1 r1 k1 => ⟨H0, ρ, fm, l, er.mono s1, h3, fun H2 s2 => ⟨H0, ρ, fm, h, (er.mono s1).mono s2, h5, fun H3 s3 => ?_⟩⟩⟩
  obtain ⟨xs, h7, h6⟩ := bind_some h6
  cases h6
  obtain ⟨a, vs, fz, rfl, hs, rl, _⟩ := ((r1.same s2).same s3).lsq h7
  refine ⟨a, vs, rfl, hs.sq, fun p hp => ?_⟩
  have e : cutV vs l h = (vs.drop (HT.sIx xs.length 0 l)).take (HT.sIx xs.length xs.length h - HT.sIx xs.length 0 l) := by
    unfold cutV
    rw [rl.len]
  rw [e]
  obtain ⟨f1, g1⟩ := RepL.dropA (HT.sIx xs.length 0 l) rl
  obtain ⟨f2, g2⟩ := RepL.takeA (HT.sIx xs.length xs.length h - HT.sIx xs.length 0 l) g1
  exact q _ _ (p :: f2) (((s1.trans s2).trans s3).trans (same_upd hp)) (.lst upd_same (g2.same (same_upd hp))) trivial
end Z
namespace Z
open PySem PySem.Spec PyProof.Rows L2
def intsOf : List D → Option (List Int)
  | [] => some []
  | .int n :: ds => (intsOf ds).bind fun ns => some (n :: ns)
  | _ :: _ => none
def seqOf : D → Option (List D)
  | .tup xs => some xs
  | .lst xs => some xs
  | .kls xs => some xs
  | _ => none
def dInI (neg : Bool) : D → D → Option Bool
  | .int i, y => (seqOf y).bind fun ds => (intsOf ds).bind fun ns => some (if neg then !ns.any (fun n => n == i) else ns.any fun n => n == i)
  | _, _ => none
abbrev dIn := dInI false
abbrev dNotIn := dInI true
section
variable {K : PySem.W.Frag} {X : Cx}
theorem intsOf_rep {H : Hp} : ∀ {vs : List V} {ds : List D} {fp : List Addr} {ns : List Int}, RepL K H vs ds fp → intsOf ds = some ns → vs = ns.map V.int
  | _, [], _, _, .nil, h => by cases h; rfl
  | _, .int n :: ds, _, _, .cons r rl, h => by
    obtain ⟨ns', h1, h2⟩ := bind_some (x := intsOf ds) h
    cases h2
    rw [r.asI, intsOf_rep rl h1]
    rfl
  | _, .non :: _, _, _, .cons _ _, h => by cases h
  | _, .unk :: _, _, _, .cons _ _, h => by cases h
  | _, .ptr _ :: _, _, _, .cons _ _, h => by cases h
  | _, .emp :: _, _, _, .cons _ _, h => by cases h
  | _, .bl _ :: _, _, _, .cons _ _, h => by cases h
  | _, .str _ :: _, _, _, .cons _ _, h => by cases h
  | _, .ty _ :: _, _, _, .cons _ _, h => by cases h
  | _, .tup _ :: _, _, _, .cons _ _, h => by cases h
  | _, .lst _ :: _, _, _, .cons _ _, h => by cases h
  | _, .kls _ :: _, _, _, .cons _ _, h => by cases h
theorem inV_ints (i : Int) : ∀ ns : List Int, inV (.int i) (ns.map V.int) = ns.any fun n => n == i
  | [] => rfl
  | n :: ns => by
    have ih := inV_ints i ns
    unfold inV at *
    rw [List.map_cons, List.any_cons, List.any_cons, ih]
    rfl
theorem o_inI (neg : Bool) : OpC K (rIn K neg) (dInI neg) := by
  intro x y b vx vy H fx fy Q h r1 r2 q
  unfold dInI at h
  split at h
  · obtain ⟨ds, h1, h⟩ := bind_some h
    obtain ⟨ns, h2, h⟩ := bind_some h
    cases h
    have key : ∃ p xs, vy = .ref p ∧ (SqL K H p xs ∨ SqT K H p xs) ∧ xs = ns.map V.int := by
      cases r2 with
      | tup hs rl => cases h1; exact ⟨_, _, rfl, .inr hs, intsOf_rep rl h2⟩
      | lst hs rl => cases h1; exact ⟨_, _, rfl, .inl (.inl (.inl hs)), intsOf_rep rl h2⟩
      | knw hs rl => cases h1; exact ⟨_, _, rfl, .inl hs.sq, intsOf_rep rl h2⟩
      | _ => cases h1
    obtain ⟨p, xs, rfl, hs, rfl⟩ := key
    rw [r1.asI]
    refine ⟨p, _, rfl, hs, rfl, ?_, ?_⟩
    · rw [List.all_eq_true]
      intro v hv
      obtain ⟨n, _, rfl⟩ := List.mem_map.mp hv
      rfl
    · rw [inV_ints]
      exact q
  · cases h
theorem o_in : OpC K (rIn K false) dIn := o_inI false
theorem o_notIn : OpC K (rIn K true) dNotIn := o_inI true
end
noncomputable def sTmpApp (f : FE) (fa : Ev → Option (List D)) : FS := fun ρ => (f ρ).bind fun d => match d with
  | .lst xs => (fa ρ).bind fun ds => match ds with
    | [_] => gd (xs.length < sizeLine) (some (.nx ρ))
    | _ => none
  | _ => none
section
variable {X : Cx} {a b : Expr} {f : FE} {fa : Ev → Option (List D)} {κ : Kd} {pos apos cpos : Pos}
theorem ds_tmpApp (ha : DE X a (.rt []) f) (hb : DA X [b] κ fa) (hs : swapsWith (.Call (.Attribute a "append" apos) [b] [] cpos) none pos.line X.env = pure false := by rfl)
    (hbase : attributeBase a "append" X.env (eval a X.env) = eval a X.env := by rfl)
    (hfew : ((backTo cpos (starEach [b] X.env)).all (fun x => !x.1) && (backToKw cpos (keywordEach [] X.env)).all (fun x => x.1.isSome)
      && decide (([b] : List Expr).length + ([] : List Keyword).length + (if ([] : List Keyword).isEmpty then 0 else 1) < 30)) = true := by rfl)
    (hline : (apos.endLine == cpos.line) = true := by rfl) (hst : starEach [b] X.env = (false, eval b X.env) :: starEach [] X.env := by rfl) (hplain : (backTo cpos (starEach [] X.env)).any (·.1) = false := by rfl) :
    DS X (.Expr (.Call (.Attribute a "append" apos) [b] [] cpos) pos) (sTmpApp f fa) :=
  ps_mono (ps_expr (pe_bm PySem.F.plainAttrs_list PySem.F.slot_list_append PySem.F.type_list_append mt_append ha hb.run hbase hfew hline hst hplain) hs) fun Dn σ H ⟨H0, ρ, fm, o, er, hf, k⟩ => by
    obtain ⟨d, h1, hf⟩ := bind_some hf
    cases d with
    | lst xs =>
      obtain ⟨ds, h2, hf⟩ := bind_some (x := fa ρ) hf
      split at hf
      · obtain ⟨hz, hf⟩ := gds hf
        cases hf
        refine ⟨H0, ρ, fm, _, er, h1, fun v H1 fp s1 r1 k1 => ?_⟩
        obtain ⟨l, vs, fq, rfl, hl, rl, rfl⟩ := r1.asL
        have hfr : H l = none := (k1.2 l List.mem_cons_self).elim id fun ⟨_, z, _⟩ => nomatch z
        refine ⟨.inl ⟨rfl, _, SqL.of hl⟩, H0, ρ, fm, _, er.mono s1, h2, fun w H2 fq' s2 rw' kw => ?_⟩
        obtain ⟨y', rfl, ry⟩ := rw'.one
        have s3 : Same H (upd H2 l (.lst (vs ++ [y']))) := fun b o e => by
          have ne : b ≠ l := fun z => by rw [z, hfr] at e; cases e
          rw [upd_ne ne]
          exact s2 _ _ (s1 _ _ e)
        exact ⟨l, vs, y', rfl, rfl, s2 _ _ hl, by rw [rl.len]; exact hz, k _ _ _ (er.mono s3) (Fr.of_same s3 fun _ z => .inl z)⟩
      · cases hf
    | _ => cases hf
end
end Z
namespace Z
open PySem PySem.Spec PyProof.Rows L2
structure Ex (H : Hp) (ρ : Ev) (fm : Nat → List Addr) (H' : Hp) (ρ' : Ev) (fm' : Nat → List Addr) : Prop where
  fr : Fr H ρ fm H' ρ' fm'
  al : ∀ i, odAt ρ i = none → ρ'[i]? = ρ[i]? ∧ fm' i = fm i
  ow : ∀ i d, odAt ρ i = some d → ∃ d', odAt ρ' i = some d'
section
variable {K : PySem.W.Frag} {H0 H H' H1 H2 : Hp} {σ : L2.St} {ρ ρ' ρ1 ρ2 : Ev} {fm fm' fm1 fm2 : Nat → List Addr}
theorem Ex.refl : Ex H ρ fm H ρ fm := ⟨Fr.refl, fun _ _ => ⟨rfl, rfl⟩, fun _ d h => ⟨d, h⟩⟩
theorem Ex.of_same (s : Same H H') : Ex H ρ fm H' ρ fm := ⟨Fr.of_same s fun _ z => .inl z, fun _ _ => ⟨rfl, rfl⟩, fun _ d h => ⟨d, h⟩⟩
theorem Ex.trans (a : Ex H ρ fm H1 ρ1 fm1) (b : Ex H1 ρ1 fm1 H2 ρ2 fm2) : Ex H ρ fm H2 ρ2 fm2 where
  fr := a.fr.trans b.fr
  al := fun i h => by
    obtain ⟨g1, g2⟩ := a.al i h
    have h1 : odAt ρ1 i = none := by unfold odAt at h ⊢; rw [g1]; exact h
    obtain ⟨g3, g4⟩ := b.al i h1
    exact ⟨g3.trans g1, g4.trans g2⟩
  ow := fun i d h => by
    obtain ⟨d1, h1⟩ := a.ow i d h
    exact b.ow i d1 h1
def Src (H : Hp) (ρ : Ev) (fm : Nat → List Addr) (a : Addr) : Prop := H a = none ∨ Own ρ fm a
theorem Src.pre {a : Addr} (ex : Ex H ρ fm H1 ρ1 fm1) (s : Src H1 ρ1 fm1 a) : Src H ρ fm a := by
  rcases s with s | s
  · exact .inl (ex.fr.dom a s)
  · exact (ex.fr.new a s).symm
theorem Src.h0 {a : Addr} (er : ER K H0 H σ ρ fm) (s : Src H ρ fm a) : H0 a = none := s.elim er.same.free er.fresh
def KX (κ : Bool) (H : Hp) (ρ : Ev) (fm : Nat → List Addr) (ρ' : Ev) (fm' : Nat → List Addr) (fp : List Addr) : Prop :=
  (∀ a ∈ fp, ¬ Own ρ' fm' a) ∧ (κ = true → fp.Nodup ∧ ∀ a ∈ fp, Src H ρ fm a ∧ ∀ (j : Nat) (x : Sl), ρ'[j]? = some x → x ≠ .no → a ∉ fm' j)
theorem KX.nil {κ : Bool} : KX κ H ρ fm ρ' fm' [] := ⟨(fun _ z => nomatch z), fun _ => ⟨List.nodup_nil, fun _ z => nomatch z⟩⟩
theorem KX.le {fp : List Addr} {κ : Bool} (k : KX true H ρ fm ρ' fm' fp) : KX κ H ρ fm ρ' fm' fp := ⟨k.1, fun _ => k.2 rfl⟩
theorem KX.lo {fp : List Addr} {κ : Bool} (k : KX κ H ρ fm ρ' fm' fp) : KX false H ρ fm ρ' fm' fp := ⟨k.1, fun z => nomatch z⟩
theorem KX.pre {fp : List Addr} {κ : Bool} (ex : Ex H ρ fm H1 ρ1 fm1) (k : KX κ H1 ρ1 fm1 ρ2 fm2 fp) : KX κ H ρ fm ρ2 fm2 fp :=
  ⟨k.1, fun h => ⟨(k.2 h).1, fun a ha => ⟨((k.2 h).2 a ha).1.pre ex, ((k.2 h).2 a ha).2⟩⟩⟩
theorem KX.sub {κ : Bool} {l fq r : List Addr} (k : KX κ H ρ fm ρ' fm' (l ++ (fq ++ r))) : KX κ H ρ fm ρ' fm' fq := by
  refine ⟨fun a ha => k.1 a (List.mem_append_right _ (List.mem_append_left _ ha)), fun h => ⟨?_, fun a ha => (k.2 h).2 a (List.mem_append_right _ (List.mem_append_left _ ha))⟩⟩
  exact (List.nodup_append.mp (List.nodup_append.mp (k.2 h).1).2.1).1
theorem ER.slotLs (er : ER K H0 H σ ρ fm) {j : Nat} {x : Sl} (h : ρ[j]? = some x) (n : x ≠ .no) {a : Addr} (ha : a ∈ fm j) : IsLs H a := by
  cases x with
  | no => exact absurd rfl n
  | al d => obtain ⟨v, _, r⟩ := er.al j d h; exact r.trk a ha
  | ow d => obtain ⟨v, _, r, _⟩ := er.ow j d h; exact r.trk a ha
  | rf w d => obtain ⟨v, _, r, _⟩ := er.own j d (odAt_rf h); exact r.trk a ha
theorem kx_fresh {κ : Bool} {fp : List Addr} (er : ER K H0 H σ ρ fm) (n : fp.Nodup) (fr : ∀ a ∈ fp, H a = none) : KX κ H ρ fm ρ fm fp :=
  ⟨fun a ha => not_own_of_none er (fr a ha), fun _ => ⟨n, fun a ha => ⟨.inl (fr a ha), fun j x hx nx hm => by
    obtain ⟨vs, q⟩ := er.slotLs hx nx hm
    rw [fr a ha] at q; cases q⟩⟩⟩
theorem KX.ex {κ : Bool} {fp : List Addr} (k : KX κ H ρ fm ρ1 fm1 fp) (tk : ∀ a ∈ fp, IsLs H1 a) (ex : Ex H1 ρ1 fm1 H2 ρ2 fm2) : KX κ H ρ fm ρ2 fm2 fp := by
  have no : ∀ a ∈ fp, ¬ Own ρ2 fm2 a := fun a ha z => by
    rcases ex.fr.new a z with z | z
    · exact k.1 a ha z
    · obtain ⟨vs, q⟩ := tk a ha
      rw [z] at q; cases q
  refine ⟨no, fun h => ⟨(k.2 h).1, fun a ha => ⟨((k.2 h).2 a ha).1, fun j x hx nx hm => ?_⟩⟩⟩
  cases e : odAt ρ1 j with
  | none =>
    obtain ⟨g1, g2⟩ := ex.al j e
    rw [g2] at hm
    rw [g1] at hx
    exact ((k.2 h).2 a ha).2 j x hx nx hm
  | some d =>
    obtain ⟨d', hd'⟩ := ex.ow j d e
    exact no a ha ⟨j, d', hd', hm⟩
theorem Rep.ex {v : V} {d : D} {fp : List Addr} (r : Rep K H1 v d fp) (er : ER K H0 H1 σ ρ1 fm1) (ex : Ex H1 ρ1 fm1 H2 ρ2 fm2) (n : ∀ a ∈ fp, ¬ Own ρ1 fm1 a) : Rep K H2 v d fp :=
  r.stab (O := Own ρ1 fm1) (fun _ hb => er.trk hb) ex.fr.keep n
theorem RepL.ex {v : List V} {d : List D} {fp : List Addr} (r : RepL K H1 v d fp) (er : ER K H0 H1 σ ρ1 fm1) (ex : Ex H1 ρ1 fm1 H2 ρ2 fm2) (n : ∀ a ∈ fp, ¬ Own ρ1 fm1 a) : RepL K H2 v d fp :=
  r.stab (O := Own ρ1 fm1) (fun _ hb => er.trk hb) ex.fr.keep n
end
abbrev FX := Ev → Option (D × Ev)
abbrev CX := Ev → Option (Bool × Ev)
abbrev FXs := Ev → Option (List D × Ev)
def tX (K : PySem.W.Frag) (κ : Bool) (f : FX) : TE := fun σ H Q => ∃ H0 ρ fm d ρ', ER K H0 H σ ρ fm ∧ f ρ = some (d, ρ') ∧ ∀ v H' fm' fp, ER K H0 H' σ ρ' fm' → Ex H ρ fm H' ρ' fm' → Rep K H' v d fp → KX κ H ρ fm ρ' fm' fp → Q v H'
abbrev DX (X : Cx) (e : Expr) (κ : Bool) (f : FX) : Prop := PE X e (tX X.K κ f)
def tTX (K : PySem.W.Frag) (c : CX) : TT := fun σ H Q => ∃ H0 ρ fm b ρ', ER K H0 H σ ρ fm ∧ c ρ = some (b, ρ') ∧ ∀ H' fm', ER K H0 H' σ ρ' fm' → Ex H ρ fm H' ρ' fm' → Q b H'
abbrev DTX (X : Cx) (e : Expr) (c : CX) : Prop := PT X e (tTX X.K c)
abbrev DWX (X : Cx) (e : Expr) (c : CX) : Prop := PW X e (tTX X.K c)
def tAX (K : PySem.W.Frag) (κ : Bool) (f : FXs) : TA := fun σ H Q => ∃ H0 ρ fm d ρ', ER K H0 H σ ρ fm ∧ f ρ = some (d, ρ') ∧ ∀ v H' fm' fp, ER K H0 H' σ ρ' fm' → Ex H ρ fm H' ρ' fm' → RepL K H' v d fp → KX κ H ρ fm ρ' fm' fp → Q v H'
structure DAX (X : Cx) (es : List Expr) (κ : Bool) (f : FXs) : Prop where
  run : PA X es (tAX X.K κ f)
  len : ∀ ρ ds ρ', f ρ = some (ds, ρ') → ds.length = es.length
def xOf (f : FE) : FX := fun ρ => (f ρ).bind fun d => some (d, ρ)
def xC (c : Ev → Option Bool) : CX := fun ρ => (c ρ).bind fun d => some (d, ρ)
def x1 (k : D → Option D) (f : FX) : FX := fun ρ => (f ρ).bind fun p => (k p.1).bind fun z => some (z, p.2)
def x2 (k : D → D → Option D) (f g : FX) : FX := fun ρ => (f ρ).bind fun p => (g p.2).bind fun q => (k p.1 q.1).bind fun z => some (z, q.2)
def cx1 (k : D → Option Bool) (f : FX) : CX := fun ρ => (f ρ).bind fun p => (k p.1).bind fun z => some (z, p.2)
def cx2 (k : D → D → Option Bool) (f g : FX) : CX := fun ρ => (f ρ).bind fun p => (g p.2).bind fun q => (k p.1 q.1).bind fun z => some (z, q.2)
def xB (c : CX) : FX := fun ρ => (c ρ).bind fun p => some (.bl p.1, p.2)
def cxNot (c : CX) : CX := fun ρ => (c ρ).bind fun p => some (!p.1, p.2)
def cxAnd (c e : CX) : CX := fun ρ => (c ρ).bind fun p => if p.1 then e p.2 else some (false, p.2)
def cxOr (c e : CX) : CX := fun ρ => (c ρ).bind fun p => if p.1 then some (true, p.2) else e p.2
def xIf (c : CX) (f g : FX) : FX := fun ρ => (c ρ).bind fun p => if p.1 then f p.2 else g p.2
def xNil : FXs := fun ρ => some ([], ρ)
def xCons (f : FX) (g : FXs) : FXs := fun ρ => (f ρ).bind fun p => (g p.2).bind fun q => some (p.1 :: q.1, q.2)
def xTup (f : FXs) : FX := fun ρ => (f ρ).bind fun p => some (.tup p.1, p.2)
def xLst (f : FXs) : FX := fun ρ => (f ρ).bind fun p => some (.lst p.1, p.2)
def xA (k : List D → Option D) (f : FXs) : FX := fun ρ => (f ρ).bind fun p => (k p.1).bind fun z => some (z, p.2)
def xImm (f : FX) : FX := fun ρ => (f ρ).bind fun p => if p.1.imm then some p else none
section
variable {X : Cx} {e a b : Expr} {es : List Expr} {κ κ' : Bool} {f g : FX} {pos : Pos}
theorem dx_pure {f : FE} (h : DE X e (.rt []) f) : DX X e true (xOf f) := pe_mono h fun σ H Q ⟨H0, ρ, fm, d, ρ', er, hf, k⟩ => by
  obtain ⟨x, h1, h2⟩ := bind_some hf
  cases h2
  refine ⟨H0, ρ, fm, _, er, h1, fun v H' fp s r ko => k v H' fm fp (er.mono s) (Ex.of_same s) r ?_⟩
  exact kx_fresh er ko.1 fun a ha => (ko.2 a ha).elim id fun ⟨_, z, _⟩ => nomatch z
theorem dx_sh {f : FE} (h : DE X e .sh f) : DX X e false (xOf f) := pe_mono h fun σ H Q ⟨H0, ρ, fm, d, ρ', er, hf, k⟩ => by
  obtain ⟨x, h1, h2⟩ := bind_some hf
  cases h2
  exact ⟨H0, ρ, fm, _, er, h1, fun v H' fp s r ko => k v H' fm fp (er.mono s) (Ex.of_same s) r ⟨ko, fun z => nomatch z⟩⟩
theorem dx_le (h : DX X e true f) : DX X e false f := pe_mono h fun σ H Q ⟨H0, ρ, fm, d, ρ', er, hf, k⟩ =>
  ⟨H0, ρ, fm, d, ρ', er, hf, fun v H' fm' fp er' ex r ko => k v H' fm' fp er' ex r ko.le⟩
theorem dx_imm (h : DX X e κ f) : DX X e true (xImm f) := pe_mono h fun σ H Q ⟨H0, ρ, fm, d, ρ', er, hf, k⟩ => by
  obtain ⟨p, h1, h2⟩ := bind_some hf
  by_cases hi : p.1.imm = true
  · rw [if_pos hi] at h2
    cases h2
    refine ⟨H0, ρ, fm, _, _, er, h1, fun v H' fm' fp er' ex r ko => k v H' fm' fp er' ex r ?_⟩
    rw [r.imm hi]
    exact KX.nil
  · rw [if_neg hi] at h2; cases h2
theorem dx_op {op : Operator} {r : R2} {k : D → D → Option D} (ho : OpR X (binaryOp op) r) (hk : Op2 X.K r k) (ha : DX X a κ f) (hb : DX X b κ' g) : DX X (.BinOp a op b pos) true (x2 k f g) :=
  pe_mono (pe_op ho ha hb) fun σ H Q ⟨H0, ρ, fm, d, ρ', er, hf, q⟩ => by
    obtain ⟨⟨x, ρ1⟩, h1, h2⟩ := bind_some hf
    obtain ⟨⟨y, ρ2⟩, h3, h4⟩ := bind_some h2
    obtain ⟨z, h5, h6⟩ := bind_some h4
    cases h6
    exact ⟨H0, ρ, fm, x, ρ1, er, h1, fun v H1 fm1 fp er1 ex1 r1 k1 => ⟨H0, ρ1, fm1, y, ρ2, er1, h3, fun u H2 fm2 fq er2 ex2 r2 k2 =>
      hk x y _ v u H2 fp fq Q h5 (r1.ex er1 ex2 k1.1) r2 fun w H3 fz s3 r3 n fr => q w H3 fm2 fz (er2.mono s3) ((ex1.trans ex2).trans (Ex.of_same s3)) r3 ((kx_fresh er2 n fr).pre (ex1.trans ex2))⟩⟩
theorem dx_un {op : UnaryOp} {r : V → Hp → VK → Prop} {k : D → Option D} (ho : UnR X (unaryOp op) r) (hk : OpU X.K r k) (ha : DX X a κ f) : DX X (.UnaryOp op a pos) true (x1 k f) :=
  pe_mono (pe_un ho ha) fun σ H Q ⟨H0, ρ, fm, d, ρ', er, hf, q⟩ => by
    obtain ⟨⟨x, ρ1⟩, h1, h2⟩ := bind_some hf
    obtain ⟨z, h5, h6⟩ := bind_some h2
    cases h6
    exact ⟨H0, ρ, fm, x, ρ1, er, h1, fun v H1 fm1 fp er1 ex1 r1 k1 => hk x _ v H1 fp Q h5 r1 fun w H3 fz s3 r3 n fr => q w H3 fm1 fz (er1.mono s3) (ex1.trans (Ex.of_same s3)) r3 ((kx_fresh er1 n fr).pre ex1)⟩
theorem t_opCX {K : PySem.W.Frag} {r : R2} {k : D → D → Option Bool} (hk : OpC K r k) {σ : L2.St} {H : Hp} {Q : VK} (q : ∃ H0 ρ fm b ρ', ER K H0 H σ ρ fm ∧ cx2 k f g ρ = some (b, ρ') ∧ ∀ H' fm', ER K H0 H' σ ρ' fm' → Ex H ρ fm H' ρ' fm' → Q (.bl b) H') : tOp r (tX K κ f) (tX K κ' g) σ H Q := by
  obtain ⟨H0, ρ, fm, d, ρ', er, hf, q⟩ := q
  obtain ⟨⟨x, ρ1⟩, h1, h2⟩ := bind_some hf
  obtain ⟨⟨y, ρ2⟩, h3, h4⟩ := bind_some h2
  obtain ⟨z, h5, h6⟩ := bind_some h4
  cases h6
  exact ⟨H0, ρ, fm, x, ρ1, er, h1, fun v H1 fm1 fp er1 ex1 r1 k1 => ⟨H0, ρ1, fm1, y, ρ2, er1, h3, fun u H2 fm2 fq er2 ex2 r2 k2 =>
    hk x y _ v u H2 fp fq _ h5 (r1.ex er1 ex2 k1.1) r2 (q H2 fm2 er2 (ex1.trans ex2))⟩⟩
theorem dtx_cmp {op : CmpOp} {r : R2} {k : D → D → Option Bool} (ho : OpR X (compareOp op) r) (hk : OpC X.K r k) (ha : DX X a κ f) (hb : DX X b κ' g) (hm : behindInMarks op b = false) : DTX X (.Compare a [op] [b] pos) (cx2 k f g) :=
  pt_mono (pt_cmpR ho ha hb hm) fun σ H Q ⟨H0, ρ, fm, d, ρ', er, hf, q⟩ => t_opCX hk ⟨H0, ρ, fm, d, ρ', er, hf, fun H' fm' er' ex => ⟨d, rfl, q H' fm' er' ex⟩⟩
theorem dx_cmp {op : CmpOp} {r : R2} {k : D → D → Option Bool} (ho : OpR X (compareOp op) r) (hk : OpC X.K r k) (ha : DX X a κ f) (hb : DX X b κ' g) (hm : behindInMarks op b = false) : DX X (.Compare a [op] [b] pos) true (xB (cx2 k f g)) :=
  pe_mono (pe_cmpR ho ha hb hm) fun σ H Q ⟨H0, ρ, fm, d, ρ', er, hf, q⟩ => by
    obtain ⟨⟨x, ρ1⟩, h1, h2⟩ := bind_some hf
    cases h2
    exact t_opCX hk ⟨H0, ρ, fm, x, _, er, h1, fun H' fm' er' ex => q _ H' fm' [] er' ex (.bl x) KX.nil⟩
theorem dtx_of {c : Ev → Option Bool} (h : DT X e c) : DTX X e (xC c) := pt_mono h fun σ H Q ⟨H0, ρ, fm, b, ρ', er, hf, q⟩ => by
  obtain ⟨x, h1, h2⟩ := bind_some hf
  cases h2
  exact ⟨H0, ρ, fm, _, er, h1, fun H' s => q H' fm (er.mono s) (Ex.of_same s)⟩
theorem dtx_tru (h : DX X e κ f) (he : ∀ whole, isTrue e X.env whole = (do let v ← whole; standAt e.pos; holding [v] (truthy v)) := by intro _; rfl) : DTX X e (cx1 dTru f) :=
  pt_mono (pt_truth h he) fun σ H Q ⟨H0, ρ, fm, d, ρ', er, hf, q⟩ => by
    obtain ⟨⟨x, ρ1⟩, h1, h2⟩ := bind_some hf
    obtain ⟨z, h5, h6⟩ := bind_some h2
    cases h6
    exact ⟨H0, ρ, fm, x, ρ1, er, h1, fun v H1 fm1 fp er1 ex1 r1 k1 => ⟨d, tru_of r1 h5, q H1 fm1 er1 ex1⟩⟩
variable {c c' : CX} {rest : List Expr}
theorem dtx_not (ha : DTX X a c) : DTX X (.UnaryOp .Not a pos) (cxNot c) := pt_mono (pt_not ha) fun σ H Q ⟨H0, ρ, fm, d, ρ', er, hf, q⟩ => by
  obtain ⟨⟨x, ρ1⟩, h1, h2⟩ := bind_some hf
  cases h2
  exact ⟨H0, ρ, fm, x, _, er, h1, q⟩
theorem dwx_and1 (ha : DTX X a c) : DWX X (.BoolOp .And [a] pos) c := pw_and1 ha
theorem dwx_or1 (ha : DTX X a c) : DWX X (.BoolOp .Or [a] pos) c := pw_or1 ha
theorem dwx_and (ha : DTX X a c) (hb : DWX X (.BoolOp .And (b :: rest) pos) c') : DWX X (.BoolOp .And (a :: b :: rest) pos) (cxAnd c c') := pw_mono (pw_and ha hb) fun σ H Q ⟨H0, ρ, fm, d, ρ', er, hf, q⟩ => by
  obtain ⟨⟨x, ρ1⟩, h1, h2⟩ := bind_some hf
  refine ⟨H0, ρ, fm, x, ρ1, er, h1, fun H1 fm1 er1 ex1 => ?_⟩
  cases x with
  | true => exact iteT ⟨H0, ρ1, fm1, d, ρ', er1, h2, fun H2 fm2 er2 ex2 => q H2 fm2 er2 (ex1.trans ex2)⟩
  | false => cases h2; exact iteF (q H1 fm1 er1 ex1)
theorem dwx_or (ha : DTX X a c) (hb : DWX X (.BoolOp .Or (b :: rest) pos) c') : DWX X (.BoolOp .Or (a :: b :: rest) pos) (cxOr c c') := pw_mono (pw_or ha hb) fun σ H Q ⟨H0, ρ, fm, d, ρ', er, hf, q⟩ => by
  obtain ⟨⟨x, ρ1⟩, h1, h2⟩ := bind_some hf
  refine ⟨H0, ρ, fm, x, ρ1, er, h1, fun H1 fm1 er1 ex1 => ?_⟩
  cases x with
  | false => exact iteF ⟨H0, ρ1, fm1, d, ρ', er1, h2, fun H2 fm2 er2 ex2 => q H2 fm2 er2 (ex1.trans ex2)⟩
  | true => cases h2; exact iteT (q H1 fm1 er1 ex1)
theorem dtx_w (h : DWX X e c) : DTX X e c := h.pt
theorem dx_ifExp (hc : DTX X e c) (ha : DX X a κ f) (hb : DX X b κ g) : DX X (.IfExp e a b pos) κ (xIf c f g) := pe_mono (pe_ifExp hc ha hb) fun σ H Q ⟨H0, ρ, fm, d, ρ', er, hf, q⟩ => by
  obtain ⟨⟨x, ρ1⟩, h1, h2⟩ := bind_some hf
  refine ⟨H0, ρ, fm, x, ρ1, er, h1, fun H1 fm1 er1 ex1 => ?_⟩
  cases x with
  | true => exact iteT ⟨H0, ρ1, fm1, d, ρ', er1, h2, fun v H2 fm2 fp er2 ex2 r2 k2 => q v H2 fm2 fp er2 (ex1.trans ex2) r2 (k2.pre ex1)⟩
  | false => exact iteF ⟨H0, ρ1, fm1, d, ρ', er1, h2, fun v H2 fm2 fp er2 ex2 r2 k2 => q v H2 fm2 fp er2 (ex1.trans ex2) r2 (k2.pre ex1)⟩
theorem dax_nil : DAX X [] true xNil := ⟨pa_mono pa_nil fun σ H Q ⟨H0, ρ, fm, d, ρ', er, hf, k⟩ => by
  cases hf
  exact k [] H fm [] er Ex.refl .nil KX.nil, fun ρ ds ρ' h => by cases h; rfl⟩
theorem kx_app {H H1 : Hp} {ρ ρ1 ρ2 : Ev} {fm fm1 fm2 : Nat → List Addr} {fp fq : List Addr} (ex1 : Ex H ρ fm H1 ρ1 fm1) (t1 : ∀ a ∈ fp, IsLs H1 a) (n1 : ∀ a ∈ fp, ¬ Own ρ1 fm1 a) (k1 : KX κ H ρ fm ρ2 fm2 fp) (k2 : KX κ' H1 ρ1 fm1 ρ2 fm2 fq) : KX (κ && κ') H ρ fm ρ2 fm2 (fp ++ fq) := by
  refine ⟨fun a ha => (List.mem_append.mp ha).elim (k1.1 a) (k2.1 a), fun h => ?_⟩
  rw [Bool.and_eq_true] at h
  refine ⟨List.nodup_append.mpr ⟨(k1.2 h.1).1, (k2.2 h.2).1, fun a ha b hb e => ?_⟩, fun a ha => (List.mem_append.mp ha).elim ((k1.2 h.1).2 a) (((k2.pre ex1).2 h.2).2 a)⟩
  subst e
  rcases ((k2.2 h.2).2 a hb).1 with z | z
  · obtain ⟨vs, q⟩ := t1 a ha
    rw [z] at q; cases q
  · exact n1 a ha z
theorem dax_cons {k : FXs} (h : DX X e κ f) (hr : DAX X es κ' k) (hs : starEach (e :: es) X.env = (false, eval e X.env) :: starEach es X.env := by rfl) : DAX X (e :: es) (κ && κ') (xCons f k) :=
  ⟨pa_mono (pa_cons h hr.run hs) fun σ H Q ⟨H0, ρ, fm, d, ρ', er, hf, q⟩ => by
    obtain ⟨⟨x, ρ1⟩, h1, h2⟩ := bind_some hf
    obtain ⟨⟨xs, ρ2⟩, h3, h4⟩ := bind_some h2
    cases h4
    exact ⟨H0, ρ, fm, x, ρ1, er, h1, fun v H1 fm1 fp er1 ex1 r1 k1 => ⟨H0, ρ1, fm1, xs, _, er1, h3, fun vs H2 fm2 fq er2 ex2 r2 k2 =>
      q (v :: vs) H2 fm2 (fp ++ fq) er2 (ex1.trans ex2) (.cons (r1.ex er1 ex2 k1.1) r2) (kx_app ex1 r1.trk k1.1 (k1.ex r1.trk ex2) k2)⟩⟩, fun ρ ds ρ' h => by
    obtain ⟨⟨x, ρ1⟩, h1, h2⟩ := bind_some h
    obtain ⟨⟨xs, ρ2⟩, h3, h4⟩ := bind_some h2
    cases h4
    rw [List.length_cons, List.length_cons, hr.len ρ1 xs _ h3]⟩
theorem ex_upd {H H1 : Hp} {ρ ρ1 : Ev} {fm fm1 : Nat → List Addr} {p : Addr} {o : HO} (ex : Ex H ρ fm H1 ρ1 fm1) (hp : H1 p = none) : Ex H ρ fm (upd H1 p o) ρ1 fm1 := ex.trans (Ex.of_same (same_upd hp))
theorem dx_tup {k : FXs} {x1} (h : DAX X es κ k) (hl : es.length ≤ sizeLine := by decide) : DX X (.Tuple es x1 pos) κ (xTup k) := pe_mono (pe_tup h.run) fun σ H Q ⟨H0, ρ, fm, d', ρ', er, hf, q⟩ => by
  obtain ⟨⟨ds, ρ1⟩, h1, h2⟩ := bind_some hf
  cases h2
  refine ⟨H0, ρ, fm, ds, _, er, h1, fun vs H1 fm1 fp er1 ex1 r1 k1 => ⟨by rw [r1.len, h.len ρ ds _ h1]; exact hl, fun p hp => ?_⟩⟩
  exact q _ _ fm1 fp (er1.mono (same_upd hp)) (ex_upd ex1 hp) (.tup (.inl (.inl upd_same)) (r1.same (same_upd hp))) k1
theorem kx_new {K : PySem.W.Frag} {H0 H H1 : Hp} {σ : L2.St} {ρ ρ1 : Ev} {fm fm1 : Nat → List Addr} {fp : List Addr} {p : Addr} (er1 : ER K H0 H1 σ ρ1 fm1) (ex : Ex H ρ fm H1 ρ1 fm1) (t : ∀ a ∈ fp, IsLs H1 a) (hp : H1 p = none) (k : KX κ H ρ fm ρ1 fm1 fp) : KX κ H ρ fm ρ1 fm1 (p :: fp) := by
  have kp := (kx_fresh (κ := true) (fp := [p]) er1 (by simp) (fun a ha => by rw [List.mem_singleton.mp ha]; exact hp)).pre ex
  refine ⟨fun a ha => (List.mem_cons.mp ha).elim (fun e => kp.1 a (by rw [e]; exact List.mem_singleton.mpr rfl)) (k.1 a), fun h => ⟨List.nodup_cons.mpr ⟨fun hm => ?_, (k.2 h).1⟩, fun a ha => (List.mem_cons.mp ha).elim (fun e => (kp.2 rfl).2 a (by rw [e]; exact List.mem_singleton.mpr rfl)) ((k.2 h).2 a)⟩⟩
  obtain ⟨vs, q⟩ := t p hm
  rw [hp] at q; cases q
theorem dx_lst {k : FXs} (h : DAX X es κ k) (hl : es.length ≤ sizeLine := by decide) : DX X (.List es pos) κ (xLst k) := pe_mono (pe_lst h.run) fun σ H Q ⟨H0, ρ, fm, d', ρ', er, hf, q⟩ => by
  obtain ⟨⟨ds, ρ1⟩, h1, h2⟩ := bind_some hf
  cases h2
  refine ⟨H0, ρ, fm, ds, _, er, h1, fun vs H1 fm1 fp er1 ex1 r1 k1 => ⟨by rw [r1.len, h.len ρ ds _ h1]; exact hl, fun p hp => ?_⟩⟩
  exact q _ _ fm1 (p :: fp) (er1.mono (same_upd hp)) (ex_upd ex1 hp) (.lst upd_same (r1.same (same_upd hp))) (kx_new er1 ex1 r1.trk hp k1)
theorem t_cbX {K : PySem.W.Frag} {r : List V → Hp → VK → Prop} {k : List D → Option D} {fa : FXs} (hk : OpA K r k) {σ : L2.St} {H : Hp} {Q : VK} (q : tX K true (xA k fa) σ H Q) : tCB r (tAX K κ fa) σ H Q := by
  obtain ⟨H0, ρ, fm, d, ρ', er, hf, q⟩ := q
  obtain ⟨⟨ds, ρ1⟩, h1, h2⟩ := bind_some hf
  obtain ⟨z, h5, h6⟩ := bind_some h2
  cases h6
  exact ⟨H0, ρ, fm, ds, _, er, h1, fun vs H1 fm1 fp er1 ex1 r1 k1 => hk ds _ vs H1 fp Q h5 r1 fun v H2 fq s2 r2 n fr => q v H2 fm1 fq (er1.mono s2) (ex1.trans (Ex.of_same s2)) r2 ((kx_fresh er1 n fr).pre ex1)⟩
theorem dx_callB {x : Str} {id : String} {r : List V → Hp → VK → Prop} {k : List D → Option D} {fa : FXs} {p : Pos} (hc : CallR X (.builtin id) r) (hk : OpA X.K r k) (hg : Gl X x) (hm : X.mg x = none) (hv : bootBuiltins x = some (.builtin id)) (ha : DAX X (e :: es) κ fa) (hn : x ≠ "__name__" := by decide) (hdb : (x == ("__debug__" : Str)) = false := by decide)
    (he : starEach (e :: es) X.env = (false, eval e X.env) :: starEach es X.env := by rfl) (hpl : (backTo pos (starEach es X.env)).any (·.1) = false := by rfl) : DX X (.Call (.Name x p) (e :: es) [] pos) true (xA k fa) :=
  pe_mono (pe_callB hc hg hm hv ha.run hn hdb he hpl) fun σ H Q q => t_cbX hk q
theorem dx_callTy {x : Str} {T : String} {r : List V → Hp → VK → Prop} {k : List D → Option D} {fa : FXs} {p : Pos} (hc : CallR X (.type T) r) (hk : OpA X.K r k) (hg : Gl X x) (hm : X.mg x = none) (hv : bootBuiltins x = some (.type T)) (ha : DAX X (e :: es) κ fa) (hn : x ≠ "__name__" := by decide) (hdb : (x == ("__debug__" : Str)) = false := by decide)
    (he : starEach (e :: es) X.env = (false, eval e X.env) :: starEach es X.env := by rfl) (hpl : (backTo pos (starEach es X.env)).any (·.1) = false := by rfl) : DX X (.Call (.Name x p) (e :: es) [] pos) true (xA k fa) :=
  pe_mono (pe_callTy hc hg hm hv ha.run hn hdb he hpl) fun σ H Q q => t_cbX hk q
theorem dx_ix (ha : DX X a κ f) (hb : DX X b κ' g) (hs : PlainIx b := by exact fun _ _ => rfl) : DX X (.Subscript a b pos) κ (x2 dIx f g) := pe_mono (pe_ix ix_seq ha hb hs) fun σ H Q ⟨H0, ρ, fm, d, ρ', er, hf, q⟩ => by
  obtain ⟨⟨x, ρ1⟩, h1, h2⟩ := bind_some hf
  obtain ⟨⟨y, ρ2⟩, h3, h4⟩ := bind_some h2
  obtain ⟨z, h5, h6⟩ := bind_some h4
  cases h6
  refine ⟨H0, ρ, fm, x, ρ1, er, h1, fun v H1 fm1 fp er1 ex1 r1 k1 => ⟨H0, ρ1, fm1, y, _, er1, h3, fun u H2 fm2 fq er2 ex2 r2 k2 => ?_⟩⟩
  have r1' := r1.ex er1 ex2 k1.1
  have k1' := k1.ex r1.trk ex2
  have ex12 := ex1.trans ex2
  have h5 : dIx x y = some _ := h5
  unfold dIx at h5
  split at h5
  · obtain ⟨a, vs, fz, rfl, hs, rl, l, rfl⟩ := r1'.lsq rfl
    obtain ⟨w, f4, l', r', e, rw', rfl⟩ := atI_rep rl h5
    exact .inl ⟨a, vs, _, w, rfl, r2.asI, hs.sq, e, q w H2 fm2 f4 er2 ex12 rw' (KX.sub (l := l ++ l') (r := r') (by simpa using k1'))⟩
  · obtain ⟨a, vs, fz, rfl, hs, rl, l, rfl⟩ := r1'.lsq rfl
    obtain ⟨w, f4, l', r', e, rw', rfl⟩ := atI_rep rl h5
    exact .inl ⟨a, vs, _, w, rfl, r2.asI, hs.sq, e, q w H2 fm2 f4 er2 ex12 rw' (KX.sub (l := l ++ l') (r := r') (by simpa using k1'))⟩
  · obtain ⟨a, vs, rfl, hs, rl⟩ := r1'.asT
    obtain ⟨w, f4, l', r', e, rw', rfl⟩ := atI_rep rl h5
    exact .inr (.inl ⟨a, vs, _, w, rfl, r2.asI, hs, e, q w H2 fm2 f4 er2 ex12 rw' (KX.sub k1')⟩)
  · next z i _ =>
    obtain ⟨hz, h4⟩ := gds h5
    obtain ⟨c, e, h5⟩ := bind_some h4
    cases h5
    exact .inr (.inr ⟨z, i, c, r1'.asS, r2.asI, hz, e, q _ H2 fm2 [] er2 ex12 (.str _) KX.nil⟩)
  · cases h5
end
end Z
namespace Z
open PySem PySem.Spec PyProof.Rows L2
inductive Ag where
  | val (d : D) | sl (s : Nat)
def Ag.res (ρ : Ev) : Ag → Option D
  | .val d => some d
  | .sl s => fVar s ρ
def resL (ρ : Ev) : List Ag → Option (List D)
  | [] => some []
  | a :: as => (a.res ρ).bind fun d => (resL ρ as).bind fun ds => some (d :: ds)
inductive AgL (K : PySem.W.Frag) (H : Hp) (σ : L2.St) (ρ : Ev) (fm : Nat → List Addr) : List V → List Ag → Prop
  | nil : AgL K H σ ρ fm [] []
  | val {v : V} {vs : List V} {d : D} {as : List Ag} {fp : List Addr} : Rep K H v d fp → (∀ a ∈ fp, ¬ Own ρ fm a) → AgL K H σ ρ fm vs as → AgL K H σ ρ fm (v :: vs) (.val d :: as)
  | sl {v : V} {vs : List V} {s : Nat} {as : List Ag} : σ[s]? = some (some v) → AgL K H σ ρ fm vs as → AgL K H σ ρ fm (v :: vs) (.sl s :: as)
abbrev FAg := Ev → Option (List Ag × Ev)
def tAG (K : PySem.W.Frag) (f : FAg) : TA := fun σ H Q => ∃ H0 ρ fm as ρ', ER K H0 H σ ρ fm ∧ f ρ = some (as, ρ') ∧ ∀ vs H' fm', ER K H0 H' σ ρ' fm' → Ex H ρ fm H' ρ' fm' → AgL K H' σ ρ' fm' vs as → Q vs H'
abbrev DAG (X : Cx) (es : List Expr) (f : FAg) : Prop := PA X es (tAG X.K f)
def gNil : FAg := fun ρ => some ([], ρ)
def gVal (f : FX) (g : FAg) : FAg := fun ρ => (f ρ).bind fun p => (g p.2).bind fun q => some (.val p.1 :: q.1, q.2)
def gSl (s : Nat) (g : FAg) : FAg := fun ρ => (fVar s ρ).bind fun _ => (g ρ).bind fun q => some (.sl s :: q.1, q.2)
section
variable {K : PySem.W.Frag} {H0 H H1 H2 : Hp} {σ : L2.St} {ρ ρ1 ρ2 : Ev} {fm fm1 fm2 : Nat → List Addr}
theorem fVar_at {s : Nat} {d : D} (h : fVar s ρ = some d) : ∃ x, ρ[s]? = some x ∧ x ≠ .no ∧ (x = .al d ∨ x.od = some d) := by
  unfold fVar at h
  split at h
  · next d' e => cases h; exact ⟨_, e, (fun z => nomatch z), .inl rfl⟩
  · next d' e => cases h; exact ⟨_, e, (fun z => nomatch z), .inr rfl⟩
  · next v' d' e => cases h; exact ⟨_, e, (fun z => nomatch z), .inr rfl⟩
  · cases h
theorem ER.slot (er : ER K H0 H σ ρ fm) {s : Nat} {d : D} (h : fVar s ρ = some d) : ∃ v, σ[s]? = some (some v) ∧ Rep K H v d (fm s) := by
  obtain ⟨x, e, _, z⟩ := fVar_at h
  rcases z with rfl | z
  · exact er.al s d e
  · obtain ⟨v, h1, h2, _⟩ := er.own s d (odAt_of e z)
    exact ⟨v, h1, h2⟩
theorem AgL.ex : ∀ {vs : List V} {as : List Ag}, AgL K H1 σ ρ1 fm1 vs as → ER K H0 H1 σ ρ1 fm1 → Ex H1 ρ1 fm1 H2 ρ2 fm2 → AgL K H2 σ ρ2 fm2 vs as
  | _, _, .nil, _, _ => .nil
  | _, _, .val r n l, er, ex => .val (r.ex er ex n) ((KX.ex (κ := false) (H := H1) (ρ := ρ1) (fm := fm1) ⟨n, fun z => nomatch z⟩ r.trk ex).1) (l.ex er ex)
  | _, _, .sl e l, er, ex => .sl e (l.ex er ex)
theorem AgL.at : ∀ {vs : List V} {as : List Ag} {ds : List D}, AgL K H σ ρ fm vs as → ER K H0 H σ ρ fm → resL ρ as = some ds →
    vs.length = ds.length ∧ as.length = ds.length ∧ ∃ gm : Nat → List Addr, ∀ i d, ds[i]? = some d → ∃ v, vs[i]? = some v ∧ Rep K H v d (gm i) ∧ ((∃ e, as[i]? = some (.val e) ∧ ∀ a ∈ gm i, ¬ Own ρ fm a) ∨ ∃ s, as[i]? = some (.sl s) ∧ gm i = fm s ∧ σ[s]? = some (some v) ∧ fVar s ρ = some d)
  | _, _, _, .nil, _, h => by
    cases h
    exact ⟨rfl, rfl, fun _ => [], fun i d h => by simp at h⟩
  | _, _, _, .val (fp := fp) (d := d0) r n l, er, h => by
    obtain ⟨d, h1, h2⟩ := bind_some (x := Ag.res ρ _) h
    obtain ⟨ds, h3, h4⟩ := bind_some h2
    cases h4
    cases h1
    obtain ⟨g1, g2, gm, g3⟩ := AgL.at l er h3
    refine ⟨by simp [g1], by simp [g2], fun i => match i with | 0 => fp | i + 1 => gm i, fun i d hd => ?_⟩
    cases i with
    | zero => cases hd; exact ⟨_, rfl, r, .inl ⟨_, rfl, n⟩⟩
    | succ i => exact g3 i d hd
  | _, _, _, .sl (s := s) e l, er, h => by
    obtain ⟨d, h1, h2⟩ := bind_some (x := Ag.res ρ _) h
    obtain ⟨ds, h3, h4⟩ := bind_some h2
    cases h4
    obtain ⟨g1, g2, gm, g3⟩ := AgL.at l er h3
    obtain ⟨v, e1, r⟩ := er.slot h1
    rw [e] at e1
    cases e1
    refine ⟨by simp [g1], by simp [g2], fun i => match i with | 0 => fm s | i + 1 => gm i, fun i d' hd => ?_⟩
    cases i with
    | zero => cases hd; exact ⟨_, rfl, r, .inr ⟨s, rfl, rfl, e, h1⟩⟩
    | succ i => exact g3 i d' hd
theorem AgL.repL : ∀ {vs : List V} {as : List Ag} {ds : List D}, AgL K H σ ρ fm vs as → ER K H0 H σ ρ fm → resL ρ as = some ds → ∃ fp, RepL K H vs ds fp
  | _, _, _, .nil, _, h => by cases h; exact ⟨[], .nil⟩
  | _, _, _, .val (fp := fp) r n l, er, h => by
    obtain ⟨d, h1, h2⟩ := bind_some (x := Ag.res ρ _) h
    obtain ⟨ds, h3, h4⟩ := bind_some h2
    cases h4
    cases h1
    obtain ⟨fq, q⟩ := l.repL er h3
    exact ⟨_, .cons r q⟩
  | _, _, _, .sl (s := s) e l, er, h => by
    obtain ⟨d, h1, h2⟩ := bind_some (x := Ag.res ρ _) h
    obtain ⟨ds, h3, h4⟩ := bind_some h2
    cases h4
    obtain ⟨fq, q⟩ := l.repL er h3
    obtain ⟨v, e1, r⟩ := er.slot h1
    rw [e] at e1
    cases e1
    exact ⟨_, .cons r q⟩
end
section
variable {X : Cx} {e a b : Expr} {es : List Expr} {κ κ' : Bool} {f g : FX} {fa : FAg} {pos p : Pos}
theorem dag_nil : DAG X [] gNil := pa_mono pa_nil fun σ H Q ⟨H0, ρ, fm, d, ρ', er, hf, k⟩ => by
  cases hf
  exact k [] H fm er Ex.refl .nil
theorem dag_val (h : DX X e κ f) (hr : DAG X es fa) (hs : starEach (e :: es) X.env = (false, eval e X.env) :: starEach es X.env := by rfl) : DAG X (e :: es) (gVal f fa) :=
  pa_mono (pa_cons h hr hs) fun σ H Q ⟨H0, ρ, fm, d, ρ', er, hf, q⟩ => by
    obtain ⟨⟨x, ρ1⟩, h1, h2⟩ := bind_some hf
    obtain ⟨⟨xs, ρ2⟩, h3, h4⟩ := bind_some h2
    cases h4
    exact ⟨H0, ρ, fm, x, ρ1, er, h1, fun v H1 fm1 fp er1 ex1 r1 k1 => ⟨H0, ρ1, fm1, xs, _, er1, h3, fun vs H2 fm2 er2 ex2 l2 =>
      q (v :: vs) H2 fm2 er2 (ex1.trans ex2) (.val (r1.ex er1 ex2 k1.1) (k1.ex r1.trk ex2).1 l2)⟩⟩
theorem dag_sl (s : Nat) {x : Str} (hr : DAG X es fa) (hN : X.N[s]? = some x := by rfl) (hv : Vis X.env.scope x := by first | exact Or.inl rfl | exact Or.inr (Or.inl rfl) | exact Or.inr (Or.inr rfl)) (hd : (x == ("__debug__" : Str)) = false := by decide)
    (hcd : (x == ("__classdict__" : Str)) = false := by decide) (hs : starEach (.Name x p :: es) X.env = (false, eval (.Name x p) X.env) :: starEach es X.env := by rfl) : DAG X (.Name x p :: es) (gSl s fa) :=
  pa_mono (pa_cons (pe_var (i := s) hN hv hd hcd) hr hs) fun σ H Q ⟨H0, ρ, fm, d, ρ', er, hf, q⟩ => by
    obtain ⟨d, h1, h2⟩ := bind_some hf
    obtain ⟨⟨as, ρ2⟩, h3, h4⟩ := bind_some h2
    cases h4
    obtain ⟨v, e1, _⟩ := er.slot h1
    exact ⟨v, e1, H0, ρ, fm, as, _, er, h3, fun vs H2 fm2 er2 ex2 l2 => q (v :: vs) H2 fm2 er2 ex2 (.sl e1 l2)⟩
def xCall (f : List D → Option D) (dd : List D) (fa : FAg) : FX := fun ρ => (fa ρ).bind fun p => (resL p.2 p.1).bind fun ds => (f (ds ++ dd)).bind fun d => some (d, p.2)
theorem dx_call {x : Str} {k : Nat} {dd : List D} {f : List D → Option D} (F : Fd X.prog X.w X.K X.mg X.base x k dd f) (hr : Room k X.A) (hg : Gl X x) (ha : DAG X (e :: es) fa) (hdb : (x == ("__debug__" : Str)) = false := by decide) (he : starEach (e :: es) X.env = (false, eval e X.env) :: starEach es X.env := by rfl)
    (hpl : (backTo pos (starEach es X.env)).any (·.1) = false := by rfl) : DX X (.Call (.Name x p) (e :: es) [] pos) true (xCall f dd fa) := by
  obtain ⟨a, fd, ps, dvs, ds, hm, hk, hb, hd, hR, G⟩ := F.ex
  exact pe_mono (pe_call G hr hg hm hk hb hd pass0 ha hdb he hpl) fun σ H Q ⟨H0, ρ, fm, d, ρ', er, hf, q⟩ => by
    obtain ⟨⟨as, ρ1⟩, h1, h2⟩ := bind_some hf
    obtain ⟨es, h3, h4⟩ := bind_some h2
    obtain ⟨d', h5, h6⟩ := bind_some h4
    cases h6
    refine ⟨H0, ρ, fm, as, _, er, h1, fun vs H1 fm1 er1 ex1 l1 => ?_⟩
    obtain ⟨fp, rl⟩ := l1.repL er1 h3
    exact ⟨es ++ dd, fp ++ [], _, rl.app (hR H1), h5, fun v H2 fq s2 r2 n fr => q v H2 fm1 fq (er1.mono s2) (ex1.trans (Ex.of_same s2)) r2 ((kx_fresh er1 n fr).pre ex1)⟩
end
def ArgRep (K : PySem.W.Frag) (H : Hp) (vs : List V) (ds : List D) (fm : Nat → List Addr) : Prop := vs.length = ds.length ∧ ∀ i d, ds[i]? = some d → ∃ v, vs[i]? = some v ∧ Rep K H v d (fm i)
def spM (K : PySem.W.Frag) (M : List Nat) (g : List D → Option (D × List D)) : Sp := fun vs H Q _ => ∃ ds fm d ds', ArgRep K H vs ds fm ∧ (∀ i ∈ M, i < ds.length ∧ (fm i).Nodup ∧ ∀ j, j ≠ i → j < ds.length → ∀ a ∈ fm i, a ∉ fm j) ∧ g ds = some (d, ds') ∧
  ∀ (v : V) (H' : Hp) (fm' : Nat → List Addr) (fp : List Addr), Stab (fun a => ∃ i ∈ M, a ∈ fm i) H H' → (∀ b, H' b = none → H b = none) →
    (∀ i ∈ M, ∃ v d', vs[i]? = some v ∧ ds'[i]? = some d' ∧ Rep K H' v d' (fm' i) ∧ (fm' i).Nodup ∧ (∀ a ∈ fm' i, (∃ j ∈ M, a ∈ fm j) ∨ H a = none) ∧ ∀ j ∈ M, j ≠ i → ∀ a ∈ fm' i, a ∉ fm' j) →
    Rep K H' v d fp → fp.Nodup → (∀ a ∈ fp, ((∃ j ∈ M, a ∈ fm j) ∨ H a = none) ∧ ∀ i ∈ M, a ∉ fm' i) → Q v H'
structure FdM (P : Program) (w : World) (K : PySem.W.Frag) (mg : Str → Option Value) (base : Heap) (x : Str) (k : Nat) (M : List Nat) (g : List D → Option (D × List D)) : Prop where
  ex : ∃ (a : Addr) (fd : FuncData) (ps : List Str), mg x = some (.ref a) ∧ PySem.W.keepIn K (.ref a) = true ∧ Binds K fd ps [] ∧ FnOk P w K mg base CX0 k a fd ps (spM K M g)
def Sl.pt : Sl → D → Sl
  | .rf v _, d => .rf v d
  | _, d => .ow d
def putA (ρ0 : Ev) : List (Nat × D) → Ev → Ev
  | [], ρ => ρ
  | (s, d) :: r, ρ => putA ρ0 r (ρ.set s ((ρ0.getD s .no).pt d))
def newD (ds' : List D) : List (Nat × Nat) → Option (List (Nat × D))
  | [] => some []
  | (i, s) :: r => (ds'[i]?).bind fun d => (newD ds' r).bind fun l => some ((s, d) :: l)
def okA (as : List Ag) (ρ : Ev) (Ms : List (Nat × Nat)) : Bool :=
  decide ((Ms.map (·.2)).Nodup) && Ms.all fun m => (match as[m.1]? with | some (.sl s) => s == m.2 | _ => false) && (odAt ρ m.2).isSome && (List.range as.length).all fun j => j == m.1 || (match as[j]? with | some (.sl s) => s != m.2 | _ => true)
def xCallM (g : List D → Option (D × List D)) (Ms : List (Nat × Nat)) (fa : FAg) : FX := fun ρ => (fa ρ).bind fun p => if okA p.1 p.2 Ms = true then (resL p.2 p.1).bind fun ds => (g ds).bind fun r => (newD r.2 Ms).bind fun l => some (r.1, putA p.2 l (wipeD p.2 (l.map (·.1)))) else none
section
variable {K : PySem.W.Frag} {H0 H H' H1 H2 : Hp} {σ : L2.St} {ρ ρ0 ρ1 ρ2 : Ev} {fm fm1 fm2 : Nat → List Addr}
theorem ER.heap (er : ER K H0 H σ ρ fm) {O : Addr → Prop} (ho : ∀ b, O b → IsLs H b) (st : Stab O H H') (hn : ∀ (j : Nat) (x : Sl), ρ[j]? = some x → x ≠ .no → ∀ a ∈ fm j, ¬ O a) (h0 : ∀ b, O b → H0 b = none) : ER K H0 H' σ ρ fm where
  len := er.len
  al := fun i d h => by
    obtain ⟨v, h1, h2⟩ := er.al i d h
    exact ⟨v, h1, h2.stab ho st (hn i _ h fun z => nomatch z)⟩
  own := fun i d h => by
    obtain ⟨v, h1, h2, h3⟩ := er.own i d h
    obtain ⟨x, hx, _, nx⟩ := odAt_at h
    exact ⟨v, h1, h2.stab ho st (hn i x hx nx), h3⟩
  rfv := er.rfv
  sepG := er.sepG
  same := fun b o e => st b o (er.same b o e) fun z => by rw [h0 b z] at e; cases e
theorem putA_len : ∀ (l : List (Nat × D)) (ρ : Ev), (putA ρ0 l ρ).length = ρ.length
  | [], _ => rfl
  | (s, d) :: r, ρ => by
    unfold putA
    rw [putA_len r, List.length_set]
theorem putA_ne : ∀ (l : List (Nat × D)) (ρ : Ev) {j : Nat}, j ∉ l.map (·.1) → (putA ρ0 l ρ)[j]? = ρ[j]?
  | [], _, _, _ => rfl
  | (s, d) :: r, ρ, j, h => by
    unfold putA
    rw [putA_ne r _ fun z => h (List.mem_cons_of_mem _ z), set_get_ne fun z => h (by rw [z]; exact List.mem_cons_self)]
theorem putA_at : ∀ (l : List (Nat × D)) (ρ : Ev) {p : Nat × D}, p ∈ l → (l.map (·.1)).Nodup → p.1 < ρ.length → (putA ρ0 l ρ)[p.1]? = some ((ρ0.getD p.1 .no).pt p.2)
  | (s, d) :: r, ρ, p, h, nd, hl => by
    obtain ⟨n1, n2⟩ := List.nodup_cons.mp nd
    unfold putA
    rcases List.mem_cons.mp h with rfl | h
    · rw [putA_ne r _ n1, set_get hl]
    · exact putA_at r _ h n2 (by rw [List.length_set]; exact hl)
theorem pt_od {x : Sl} {d : D} : (x.pt d).od = some d := by cases x <;> rfl
theorem pt_rf {x : Sl} {d e : D} {w : V} (h : x.pt d = Sl.rf w e) : ∃ c, x = Sl.rf w c := by
  cases x with
  | rf v c => cases h; exact ⟨c, rfl⟩
  | _ => cases h
theorem putA_er (fpf : Nat → List Addr) : ∀ (l : List (Nat × D)) (ρ : Ev) (fm : Nat → List Addr), ER K H0 H σ ρ fm → (l.map (·.1)).Nodup → (∀ j ∈ l.map (·.1), ∀ x, ρ[j]? = some x → x = .no) →
    (∀ p ∈ l, ∃ v, σ[p.1]? = some (some v) ∧ Rep K H v p.2 (fpf p.1) ∧ (fpf p.1).Nodup ∧ (∀ a ∈ fpf p.1, H0 a = none) ∧ ∀ w d, ρ0.getD p.1 .no = Sl.rf w d → w = v) →
    (∀ p ∈ l, ∀ (j : Nat) (x : Sl), ρ[j]? = some x → x ≠ .no → ∀ a ∈ fpf p.1, a ∉ fm j) → (∀ p ∈ l, ∀ q ∈ l, p.1 ≠ q.1 → ∀ a ∈ fpf p.1, a ∉ fpf q.1) →
    ER K H0 H σ (putA ρ0 l ρ) (fun j => if j ∈ l.map (·.1) then fpf j else fm j)
  | [], ρ, fm, er, _, _, _, _, _ => by
    have e : (fun j => if j ∈ ([] : List (Nat × D)).map (·.1) then fpf j else fm j) = fm := by
      funext j
      rw [if_neg (by simp)]
    rw [e]
    exact er
  | (s, d) :: r, ρ, fm, er, nd, hno, hp, hd, hq => by
    obtain ⟨n1, n2⟩ := List.nodup_cons.mp nd
    obtain ⟨v, e1, e2, e3, e4, e5⟩ := hp (s, d) List.mem_cons_self
    have er1 := er.put_x (i := s) ((ρ0.getD s .no).pt d) pt_od (fun w c z => by
      obtain ⟨c', hc⟩ := pt_rf z
      exact e5 w c' hc) e2 e3 e4 (fun j x _ hx nx a ha => hd (s, d) List.mem_cons_self j x hx nx a ha)
    rw [set_self e1] at er1
    have ih := putA_er fpf r _ _ er1 n2 (fun j hj x hx => by
      rcases get_set hx with ⟨rfl, _, _⟩ | ⟨_, q⟩
      · exact absurd hj n1
      · exact hno j (List.mem_cons_of_mem _ hj) x q) (fun p h => hp p (List.mem_cons_of_mem _ h)) (fun p h j x hx nx a ha => by
      rcases get_set hx with ⟨rfl, _, _⟩ | ⟨ne, q⟩
      · rw [fput_same]
        exact hq p (List.mem_cons_of_mem _ h) (j, d) List.mem_cons_self (fun z => n1 (List.mem_map.mpr ⟨p, h, z⟩)) a ha
      · rw [fput_ne ne]
        exact hd p (List.mem_cons_of_mem _ h) j x q nx a ha) fun p h q h' => hq p (List.mem_cons_of_mem _ h) q (List.mem_cons_of_mem _ h')
    have e : (fun j => if j ∈ ((s, d) :: r).map (·.1) then fpf j else fm j) = fun j => if j ∈ r.map (·.1) then fpf j else fput fm s (fpf s) j := by
      funext j
      show (if j ∈ s :: r.map (fun x => x.1) then fpf j else fm j) = _
      by_cases h1 : j ∈ r.map (·.1)
      · rw [if_pos h1, if_pos (List.mem_cons_of_mem _ h1)]
      · rw [if_neg h1]
        by_cases h2 : j = s
        · subst h2
          rw [if_pos (by simp), fput_same]
        · rw [if_neg (fun z => (List.mem_cons.mp z).elim h2 h1), fput_ne h2]
    rw [e]
    exact ih
theorem newD_map : ∀ {ds' : List D} {Ms : List (Nat × Nat)} {l : List (Nat × D)}, newD ds' Ms = some l → l.map (·.1) = Ms.map (·.2)
  | _, [], _, h => by cases h; rfl
  | ds', (i, s) :: r, _, h => by
    obtain ⟨d, h1, h2⟩ := bind_some (x := ds'[i]?) h
    obtain ⟨l', h3, h4⟩ := bind_some h2
    cases h4
    rw [List.map_cons, List.map_cons, newD_map h3]
theorem newD_mem : ∀ {ds' : List D} {Ms : List (Nat × Nat)} {l : List (Nat × D)}, newD ds' Ms = some l → ∀ p ∈ l, ∃ m ∈ Ms, m.2 = p.1 ∧ ds'[m.1]? = some p.2
  | _, [], _, h, p, hp => by cases h; cases hp
  | ds', (i, s) :: r, _, h, p, hp => by
    obtain ⟨d, h1, h2⟩ := bind_some (x := ds'[i]?) h
    obtain ⟨l', h3, h4⟩ := bind_some h2
    cases h4
    rcases List.mem_cons.mp hp with rfl | hp
    · exact ⟨(i, s), List.mem_cons_self, rfl, h1⟩
    · obtain ⟨m, g1, g2⟩ := newD_mem h3 p hp
      exact ⟨m, List.mem_cons_of_mem _ g1, g2⟩
theorem okA_nd {as : List Ag} {Ms : List (Nat × Nat)} (h : okA as ρ Ms = true) : (Ms.map (·.2)).Nodup := by
  unfold okA at h
  exact of_decide_eq_true (Bool.and_eq_true _ _ ▸ h : _ ∧ _).1
theorem okA_at {as : List Ag} {Ms : List (Nat × Nat)} (h : okA as ρ Ms = true) {m : Nat × Nat} (hm : m ∈ Ms) : as[m.1]? = some (.sl m.2) ∧ (∃ d, odAt ρ m.2 = some d) ∧ ∀ j, j ≠ m.1 → j < as.length → as[j]? ≠ some (.sl m.2) := by
  unfold okA at h
  have h1 := List.all_eq_true.mp (Bool.and_eq_true _ _ ▸ h : _ ∧ _).2 m hm
  rw [Bool.and_eq_true, Bool.and_eq_true] at h1
  obtain ⟨⟨h2, h3⟩, h4⟩ := h1
  refine ⟨?_, Option.isSome_iff_exists.mp h3, fun j hj hl z => ?_⟩
  · split at h2
    · next s e => rw [e, beq_iff_eq.mp h2]
    · cases h2
  · have h5 := List.all_eq_true.mp h4 j (List.mem_range.mpr hl)
    rw [z] at h5
    simp [hj] at h5
end
section
variable {X : Cx} {e : Expr} {es : List Expr} {fa : FAg} {pos p : Pos}
theorem dx_callM {x : Str} {k : Nat} {M : List Nat} {g : List D → Option (D × List D)} (F : FdM X.prog X.w X.K X.mg X.base x k M g) (Ms : List (Nat × Nat)) (hM : Ms.map (·.1) = M) (hr : Room k X.A) (hg : Gl X x) (ha : DAG X (e :: es) fa) (hdb : (x == ("__debug__" : Str)) = false := by decide) (he : starEach (e :: es) X.env = (false, eval e X.env) :: starEach es X.env := by rfl)
    (hpl : (backTo pos (starEach es X.env)).any (·.1) = false := by rfl) : DX X (.Call (.Name x p) (e :: es) [] pos) true (xCallM g Ms fa) := by
  obtain ⟨a, fd, ps, hm, hk, hb, G⟩ := F.ex
  exact pe_mono (pe_call G hr hg hm hk hb .nil pass0 ha hdb he hpl) fun σ H Q ⟨H0, ρ, fm, d, ρ', er, hf, q⟩ => by
    obtain ⟨⟨as, ρ1⟩, h1, h2⟩ := bind_some hf
    by_cases ok : okA as ρ1 Ms = true
    case neg => rw [if_neg ok] at h2; cases h2
    rw [if_pos ok] at h2
    obtain ⟨ds, h3, h4⟩ := bind_some h2
    obtain ⟨⟨d', ds'⟩, h5, h6⟩ := bind_some h4
    obtain ⟨l, h7, h8⟩ := bind_some h6
    cases h8
    refine ⟨H0, ρ, fm, as, ρ1, er, h1, fun vs H1 fm1 er1 ex1 l1 => ?_⟩
    obtain ⟨lv, la, gm, hgm⟩ := l1.at er1 h3
    have mpos : ∀ i ∈ M, ∃ m ∈ Ms, m.1 = i := fun i hi => by
      rw [← hM] at hi
      obtain ⟨m, h, e⟩ := List.mem_map.mp hi
      exact ⟨m, h, e⟩
    have key : ∀ m ∈ Ms, m.1 < ds.length ∧ gm m.1 = fm1 m.2 ∧ ∃ v, σ[m.2]? = some (some v) ∧ vs[m.1]? = some v := fun m hm => by
      obtain ⟨o1, _, _⟩ := okA_at ok hm
      have hlt : m.1 < ds.length := by rw [← la]; exact (List.getElem?_eq_some_iff.mp o1).1
      obtain ⟨v, g1, g2, g3⟩ := hgm m.1 _ (List.getElem?_eq_getElem hlt)
      rcases g3 with ⟨e', g4, _⟩ | ⟨s, g4, g5, g6, _⟩
      · rw [o1] at g4; cases g4
      · rw [o1] at g4
        cases g4
        exact ⟨hlt, g5, v, g6, g1⟩
    have ownM : ∀ m ∈ Ms, ∀ a ∈ fm1 m.2, Own ρ1 fm1 a := fun m hm a ha => by
      obtain ⟨_, ⟨dm, o2⟩, _⟩ := okA_at ok hm
      exact ⟨m.2, dm, o2, ha⟩
    refine ⟨ds ++ [], gm, d', ds', by rw [List.append_nil, List.append_nil]; exact ⟨lv, fun i d hd => by obtain ⟨v, g1, g2, _⟩ := hgm i d hd; exact ⟨v, g1, g2⟩⟩, ?_, by rw [List.append_nil]; exact h5, ?_⟩
    · rw [List.append_nil]
      intro i hi
      obtain ⟨m, hm, rfl⟩ := mpos i hi
      obtain ⟨o1, ⟨dm, o2⟩, o3⟩ := okA_at ok hm
      obtain ⟨k1, k2, _⟩ := key m hm
      obtain ⟨vm, _, _, nd, _⟩ := er1.own _ _ o2
      refine ⟨k1, by rw [k2]; exact nd, fun j hj hl a ha hb => ?_⟩
      rw [k2] at ha
      obtain ⟨v, g1, g2, g3⟩ := hgm j _ (List.getElem?_eq_getElem hl)
      rcases g3 with ⟨e', g4, g5⟩ | ⟨s, g4, g5, g6, g7⟩
      · exact g5 a hb (ownM m hm a ha)
      · rw [g5] at hb
        have ne : m.2 ≠ s := fun z => o3 j hj (by rw [la]; exact hl) (z ▸ g4)
        obtain ⟨xs, hx, nx, _⟩ := fVar_at g7
        exact er1.sepG m.2 s dm xs ne o2 hx nx a ha hb
    · intro v H2 gm' fp st dom hpar rv nd src
      rw [List.append_nil] at hpar
      let S : List Nat := l.map (·.1)
      have eS : S = Ms.map (·.2) := newD_map h7
      have nS : S.Nodup := by rw [eS]; exact okA_nd ok
      have memS : ∀ s ∈ S, ∃ m ∈ Ms, m.2 = s := fun s hs => by
        rw [eS] at hs
        obtain ⟨m, h, e⟩ := List.mem_map.mp hs
        exact ⟨m, h, e⟩
      have Sown : ∀ s ∈ S, ∃ d, odAt ρ1 s = some d := fun s hs => by
        obtain ⟨m, hm, rfl⟩ := memS s hs
        exact (okA_at ok hm).2.1
      have OS : ∀ a, (∃ i ∈ M, a ∈ gm i) ↔ ∃ s ∈ S, a ∈ fm1 s := fun a => by
        constructor
        · rintro ⟨i, hi, ha⟩
          obtain ⟨m, hm, rfl⟩ := mpos i hi
          rw [(key m hm).2.1] at ha
          exact ⟨m.2, by rw [eS]; exact List.mem_map_of_mem hm, ha⟩
        · rintro ⟨s, hs, ha⟩
          obtain ⟨m, hm, rfl⟩ := memS s hs
          exact ⟨m.1, by rw [← hM]; exact List.mem_map_of_mem hm, by rw [(key m hm).2.1]; exact ha⟩
      have Oown : ∀ a, (∃ i ∈ M, a ∈ gm i) → Own ρ1 fm1 a := fun a h => by
        obtain ⟨s, hs, ha⟩ := (OS a).mp h
        obtain ⟨d, hd⟩ := Sown s hs
        exact ⟨s, d, hd, ha⟩
      have oth : ∀ (j : Nat) (x : Sl), j ∉ S → ρ1[j]? = some x → x ≠ .no → ∀ a ∈ fm1 j, ¬ ∃ i ∈ M, a ∈ gm i := fun j x hj hx nx a ha h => by
        obtain ⟨s, hs, hb⟩ := (OS a).mp h
        obtain ⟨d, hd⟩ := Sown s hs
        exact er1.sepG s j d x (fun z => hj (z ▸ hs)) hd hx nx a hb ha
      have wget : ∀ (j : Nat) (x : Sl), (wipeD ρ1 S)[j]? = some x → x ≠ .no → j ∉ S ∧ ρ1[j]? = some x := fun j x h nx => (wipeD_get h).elim (fun z => absurd z nx) id
      have erA : ER X.K H0 H2 σ (wipeD ρ1 S) fm1 := (er1.sub (wipeD_len S) wipeD_sub).heap (fun b hb => er1.trk (Oown b hb)) st (fun j x hx nx a ha => by
        obtain ⟨g1, g2⟩ := wget j x hx nx
        exact oth j x g1 g2 nx a ha) fun b hb => er1.fresh (Oown b hb)
      let pf : Nat → Nat := fun s => ((Ms.find? fun m => m.2 == s).map (·.1)).getD 0
      have pfm : ∀ m ∈ Ms, pf m.2 = m.1 := fun m hm => by
        show ((Ms.find? fun m' => m'.2 == m.2).map (·.1)).getD 0 = m.1
        cases e : Ms.find? fun m' => m'.2 == m.2 with
        | none =>
          have := List.find?_eq_none.mp e m hm
          simp at this
        | some m' =>
          have h1 : m'.2 = m.2 := by simpa using List.find?_some e
          have h2 := List.mem_of_find?_eq_some e
          show m'.1 = m.1
          obtain ⟨o1, _, _⟩ := okA_at ok h2
          obtain ⟨p1, _, p3⟩ := okA_at ok hm
          by_cases z : m'.1 = m.1
          · exact z
          · exact absurd (h1 ▸ o1) (p3 m'.1 z (List.getElem?_eq_some_iff.mp o1).1)
      have pfM : ∀ s ∈ S, pf s ∈ M := fun s hs => by
        obtain ⟨m, hm, rfl⟩ := memS s hs
        rw [pfm m hm, ← hM]
        exact List.mem_map_of_mem hm
      have pfinj : ∀ s ∈ S, ∀ s' ∈ S, s ≠ s' → pf s ≠ pf s' := fun s hs s' hs' ne z => by
        obtain ⟨m, hm, rfl⟩ := memS s hs
        obtain ⟨m', hm', rfl⟩ := memS s' hs'
        rw [pfm m hm, pfm m' hm'] at z
        have o1 := (okA_at ok hm).1
        have o2 := (okA_at ok hm').1
        rw [z, o2] at o1
        exact ne (Ag.sl.inj (Option.some.inj o1)).symm
      have newsrc : ∀ s ∈ S, ∀ a ∈ gm' (pf s), Src H1 ρ1 fm1 a := fun s hs a ha => by
        obtain ⟨v', d'', _, _, _, _, g, _⟩ := hpar (pf s) (pfM s hs)
        exact (g a ha).elim (fun z => .inr (Oown a z)) .inl
      have othN : ∀ (j : Nat) (x : Sl), j ∉ S → ρ1[j]? = some x → x ≠ .no → ∀ a ∈ fm1 j, ¬ ((∃ i ∈ M, a ∈ gm i) ∨ H1 a = none) := fun j x hj hx nx a ha h => by
        rcases h with h | h
        · exact oth j x hj hx nx a ha h
        · obtain ⟨ws, z⟩ := er1.slotLs hx nx ha
          rw [h] at z; cases z
      have erB := putA_er (ρ0 := ρ1) (fun s => gm' (pf s)) l (wipeD ρ1 S) fm1 erA nS (fun j hj x hx => (wipeD_get hx).elim id fun z => absurd hj z.1) (fun pd hpd => by
        obtain ⟨m, hm, e1, e2⟩ := newD_mem h7 pd hpd
        have hs : pd.1 ∈ S := List.mem_map_of_mem hpd
        obtain ⟨_, _, v', g1, g2⟩ := key m hm
        obtain ⟨v2, d2, p1, p2, p3, p4, p5, p6⟩ := hpar (pf pd.1) (pfM _ hs)
        have epf : pf pd.1 = m.1 := by rw [← e1]; exact pfm m hm
        rw [epf] at p1 p2
        rw [g2] at p1
        cases p1
        rw [e2] at p2
        cases p2
        refine ⟨v', by rw [← e1]; exact g1, p3, p4, fun a ha => (newsrc _ hs a ha).h0 er1, fun w c hw => ?_⟩
        obtain ⟨dm, hdm⟩ := Sown _ hs
        obtain ⟨xm, hxm, _, _⟩ := odAt_at hdm
        have e3 : xm = Sl.rf w c := by
          rw [List.getD_eq_getElem?_getD, hxm] at hw
          exact hw
        rw [e3] at hxm
        have z := er1.rfv _ _ _ hxm
        rw [← e1, g1] at z
        cases z
        rfl) (fun pd hpd j x hx nx a ha hb => by
        have hs : pd.1 ∈ S := List.mem_map_of_mem hpd
        obtain ⟨g1, g2⟩ := wget j x hx nx
        obtain ⟨v2, d2, p1, p2, p3, p4, p5, p6⟩ := hpar (pf pd.1) (pfM _ hs)
        exact othN j x g1 g2 nx a hb (p5 a ha)) (fun pd hpd pe hpe ne a ha hb => by
        have hs : pd.1 ∈ S := List.mem_map_of_mem hpd
        have hs' : pe.1 ∈ S := List.mem_map_of_mem hpe
        obtain ⟨v2, d2, p1, p2, p3, p4, p5, p6⟩ := hpar (pf pd.1) (pfM _ hs)
        exact p6 (pf pe.1) (pfM _ hs') (fun z => pfinj _ hs _ hs' ne z.symm) a ha hb)
      have getO : ∀ j, j ∉ S → (putA ρ1 l (wipeD ρ1 S))[j]? = ρ1[j]? := fun j hj => by
        rw [putA_ne l _ hj]
        have go : ∀ (T : List Nat), j ∉ T → (wipeD ρ1 T)[j]? = ρ1[j]? := by
          intro T
          induction T with
          | nil => exact fun _ => rfl
          | cons t T ih =>
            intro h
            unfold wipeD
            rw [set_get_ne fun z => h (by rw [z]; exact List.mem_cons_self)]
            exact ih fun z => h (List.mem_cons_of_mem _ z)
        exact go S hj
      have exB : Ex H1 ρ1 fm1 H2 (putA ρ1 l (wipeD ρ1 S)) (fun j => if j ∈ l.map (·.1) then gm' (pf j) else fm1 j) := by
        refine ⟨⟨fun b o e n => st b o e fun z => n (Oown b z), fun b z => ?_, dom⟩, fun i h => ?_, fun i dd h => ?_⟩
        · obtain ⟨j, dj, z1, z2⟩ := z
          replace z2 : b ∈ (if j ∈ l.map (·.1) then gm' (pf j) else fm1 j) := z2
          replace z2 : b ∈ (if j ∈ l.map (·.1) then gm' (pf j) else fm1 j) := z2
          by_cases hj : j ∈ l.map (·.1)
          · rw [if_pos hj] at z2
            exact (newsrc j hj b z2).symm
          · rw [if_neg hj] at z2
            unfold odAt at z1
            rw [getO j hj] at z1
            exact .inl ⟨j, dj, z1, z2⟩
        · have hj : i ∉ S := fun z => by
            obtain ⟨dz, hz⟩ := Sown i z
            rw [h] at hz; cases hz
          exact ⟨getO i hj, if_neg hj⟩
        · by_cases hj : i ∈ S
          · obtain ⟨pd, hpd, rfl⟩ := List.mem_map.mp hj
            obtain ⟨x, hx, _, _⟩ := odAt_at h
            have := putA_at (ρ0 := ρ1) l (wipeD ρ1 S) hpd nS (by rw [wipeD_len]; exact (List.getElem?_eq_some_iff.mp hx).1)
            exact ⟨_, odAt_of this pt_od⟩
          · exact ⟨dd, by unfold odAt; rw [getO i hj]; exact h⟩
      have kB : KX true H1 ρ1 fm1 (putA ρ1 l (wipeD ρ1 S)) (fun j => if j ∈ l.map (·.1) then gm' (pf j) else fm1 j) fp := by
        have slots : ∀ a ∈ fp, ∀ (j : Nat) (x : Sl), (putA ρ1 l (wipeD ρ1 S))[j]? = some x → x ≠ .no → a ∉ (if j ∈ l.map (·.1) then gm' (pf j) else fm1 j) := fun a ha j x hx nx hm => by
          by_cases hj : j ∈ l.map (·.1)
          · rw [if_pos hj] at hm
            exact (src a ha).2 (pf j) (pfM j hj) hm
          · rw [if_neg hj] at hm
            rw [getO j hj] at hx
            exact othN j x hj hx nx a hm (src a ha).1
        refine ⟨fun a ha z => ?_, fun _ => ⟨nd, fun a ha => ⟨(src a ha).1.elim (fun z => .inr (Oown a z)) .inl, slots a ha⟩⟩⟩
        obtain ⟨j, dj, z1, z2⟩ := z
        obtain ⟨x, hx, _, nx⟩ := odAt_at z1
        exact slots a ha j x hx nx z2
      exact q v H2 _ fp erB (ex1.trans exB) rv (kB.pre ex1)
end
end Z
namespace Z
open PySem PySem.Spec PyProof.Rows L2
def sAlX (i : Nat) (f : FX) : FS := fun ρ => (f ρ).bind fun p => some (.nx (p.2.set i (.al p.1)))
def sOwX (i : Nat) (f : FX) : FS := fun ρ => (f ρ).bind fun p => some (.nx (p.2.set i (.ow p.1)))
def sDropX (f : FX) : FS := fun ρ => (f ρ).bind fun p => some (.nx p.2)
def sRetX (f : FX) : FS := fun ρ => (f ρ).bind fun p => some (.rt p.1)
def sRetMX (f : FX) : FS := fun ρ => (f ρ).bind fun p => some (.rm p.1 p.2)
def sRetM (S : List Nat) (f : FE) : FS := fun ρ => (f ρ).bind fun d => some (.rm d (wipeD ρ S))
def sRetMN : FS := fun ρ => some (.rm .non ρ)
def sIfX (c : CX) (F G : FS) : FS := fun ρ => (c ρ).bind fun p => if p.1 then F p.2 else G p.2
def sAsgX (f : FX) (G : D → Ev → Option Ev) : FS := fun ρ => (f ρ).bind fun p => (G p.1 p.2).bind fun ρ' => some (.nx ρ')
section
variable {X : Cx} {st : Stmt} {rest : List Stmt} {e a b : Expr} {κ : Bool} {f : FX} {F G : FS} {c : CX} {pos : Pos}
theorem ds_alX (i : Nat) {x : Str} {pos' : Pos} (hN : X.N.Nodup) (he : DX X e κ f) (hi : X.N[i]? = some x := by rfl) (hx : Loc X.env.scope x := by first | exact Or.inl rfl | exact Or.inr rfl) (hs : swapsWith e (some (.Name x pos')) pos.line X.env = pure false := by rfl)
    (hf : X.fn x = true ∨ X.env.scope.names.lookup x = some .local := by first | exact .inl rfl | exact .inr rfl | assumption) : DS X (.Assign [.Name x pos'] e pos) (sAlX i f) := ps_mono (ps_set hN hi hx he hs hf) fun Dn σ H ⟨H0, ρ, fm, o, er, hf, q⟩ => by
  obtain ⟨⟨d, ρ1⟩, h1, h2⟩ := bind_some hf
  cases h2
  exact ⟨H0, ρ, fm, d, ρ1, er, h1, fun v H1 fm1 fp er1 ex1 r1 k1 => q _ H1 _ (er1.put_al r1 k1.1) (ex1.fr.trans (Fr.of_same (Same.refl _) fun _ z => .inl (own_put_al z)))⟩
theorem ds_owX (i : Nat) {x : Str} {pos' : Pos} (hN : X.N.Nodup) (he : DX X e true f) (hi : X.N[i]? = some x := by rfl) (hx : Loc X.env.scope x := by first | exact Or.inl rfl | exact Or.inr rfl) (hs : swapsWith e (some (.Name x pos')) pos.line X.env = pure false := by rfl)
    (hf : X.fn x = true ∨ X.env.scope.names.lookup x = some .local := by first | exact .inl rfl | exact .inr rfl | assumption) : DS X (.Assign [.Name x pos'] e pos) (sOwX i f) := ps_mono (ps_set hN hi hx he hs hf) fun Dn σ H ⟨H0, ρ, fm, o, er, hf, q⟩ => by
  obtain ⟨⟨d, ρ1⟩, h1, h2⟩ := bind_some hf
  cases h2
  refine ⟨H0, ρ, fm, d, ρ1, er, h1, fun v H1 fm1 fp er1 ex1 r1 k1 => ?_⟩
  have k2 := k1.2 rfl
  refine q _ H1 _ (er1.put_ow r1 k2.1 (fun a ha => (k2.2 a ha).1.h0 er) fun j x ne hx nx a ha => (k2.2 a ha).2 j x hx nx) ⟨ex1.fr.keep, fun b z => ?_, ex1.fr.dom⟩
  rcases own_put_ow z with z | z
  · exact (k2.2 b z).1.symm
  · exact ex1.fr.new b z
theorem ds_dropX (h : DX X e κ f) (hs : swapsWith e none pos.line X.env = pure false := by rfl) : DS X (.Expr e pos) (sDropX f) := ps_mono (ps_expr h hs) fun Dn σ H ⟨H0, ρ, fm, o, er, hf, q⟩ => by
  obtain ⟨⟨d, ρ1⟩, h1, h2⟩ := bind_some hf
  cases h2
  exact ⟨H0, ρ, fm, d, _, er, h1, fun v H1 fm1 fp er1 ex1 r1 k1 => q σ H1 fm1 er1 ex1.fr⟩
theorem ds_retX (h : DX X e true f) : DS X (.Return (some e) pos) (sRetX f) := ps_mono (ps_ret h) fun Dn σ H ⟨H0, ρ, fm, o, er, hf, q⟩ => by
  obtain ⟨⟨d, ρ1⟩, h1, h2⟩ := bind_some hf
  cases h2
  exact ⟨H0, ρ, fm, d, _, er, h1, fun v H1 fm1 fp er1 ex1 r1 k1 => q v H1 fp er1.same r1 (k1.2 rfl).1 fun a ha => ((k1.2 rfl).2 a ha).1.h0 er⟩
theorem ds_retMX (h : DX X e true f) : DS X (.Return (some e) pos) (sRetMX f) := ps_mono (ps_ret h) fun Dn σ H ⟨H0, ρ, fm, o, er, hf, q⟩ => by
  obtain ⟨⟨d, ρ1⟩, h1, h2⟩ := bind_some hf
  cases h2
  exact ⟨H0, ρ, fm, d, _, er, h1, fun v H1 fm1 fp er1 ex1 r1 k1 => q v σ H1 fm1 fp er1 ex1.fr r1 (k1.2 rfl).1 fun a ha => ⟨((k1.2 rfl).2 a ha).1.h0 er, k1.1 a ha⟩⟩
theorem ds_retM {S : List Nat} {f : FE} (h : DE X e (.rt S) f) : DS X (.Return (some e) pos) (sRetM S f) := ps_mono (ps_ret h) fun Dn σ H ⟨H0, ρ, fm, o, er, hf, q⟩ => by
  obtain ⟨d, h1, h2⟩ := bind_some hf
  cases h2
  refine ⟨H0, ρ, fm, d, er, h1, fun v H1 fp s1 r1 k1 => ?_⟩
  have er1 : ER X.K H0 H1 σ (wipeD ρ S) fm := (er.mono s1).sub (wipeD_len S) wipeD_sub
  refine q v σ H1 fm fp er1 (Fr.of_same s1 fun b z => .inl (own_sub wipeD_sub z)) r1 k1.1 fun a ha => ⟨(ret_ok er k1).2 a ha, fun z => ?_⟩
  obtain ⟨j, d', z1, z2⟩ := z
  obtain ⟨x, hx, hd, nx⟩ := odAt_at z1
  rcases wipeD_get hx with y | ⟨y1, y2⟩
  · exact nx y
  · have hj := odAt_of y2 hd
    rcases k1.2 a ha with y | ⟨l, hl, ⟨d2, hd2⟩, hm⟩
    · exact not_own_of_none er y ⟨j, d', hj, z2⟩
    · exact er.sepO l j d2 d' (fun z => y1 (z ▸ hl)) hd2 hj a hm z2
theorem ds_retMN : DS X (.Return none pos) sRetMN := ps_mono ps_retN fun Dn σ H ⟨H0, ρ, fm, o, er, hf, q⟩ => by
  cases hf
  exact q .non σ H fm [] er Fr.refl .non List.nodup_nil fun _ z => nomatch z
theorem ds_ifX {x y : List Stmt} (hc : DTX X e c) (h1 : DSs X x F) (h2 : DSs X y G) : DS X (.If e x y pos) (sIfX c F G) := ps_mono (ps_if hc h1 h2) fun Dn σ H ⟨H0, ρ, fm, o, er, hf, q⟩ => by
  obtain ⟨⟨b, ρ1⟩, e1, e2⟩ := bind_some hf
  refine ⟨H0, ρ, fm, b, ρ1, er, e1, fun H1 fm1 er1 ex1 => ?_⟩
  cases b with
  | true => exact iteT ⟨H0, ρ1, fm1, o, er1, e2, q.seq ρ1 ex1.fr⟩
  | false => exact iteF ⟨H0, ρ1, fm1, o, er1, e2, q.seq ρ1 ex1.fr⟩
theorem ds_asgX {tg : Expr} {S : List Nat} {G : D → Ev → Option Ev} (he : DX X e κ f) (hg : DG X tg S G) (hs : swapsWithSole [tg] e pos.line X.env = pure false := by rfl) (hw : swappedStores [tg] e X.env = pure none := by rfl)
    (h1 : (assignEach [tg] X.env).map (·.2) = [assign tg X.env] := by rfl) : DS X (.Assign [tg] e pos) (sAsgX f G) := ps_mono (ps_asg he hg hs hw h1) fun Dn σ H ⟨H0, ρ, fm, o, er, hf, q⟩ => by
  obtain ⟨⟨d, ρ1⟩, h1, h2⟩ := bind_some hf
  obtain ⟨ρ', h3, h4⟩ := bind_some h2
  cases h4
  exact ⟨H0, ρ, fm, d, ρ1, er, h1, fun v H1 fm1 fp er1 ex1 r1 k1 => ⟨H0, ρ1, fm1, d, fp, ρ', er1, r1, k1.1, h3, fun σ' fm' er' ho _ => q σ' H1 fm' er' (ex1.fr.trans (Fr.of_same (Same.refl _) fun b z => .inl (ho b z)))⟩⟩
end
def argsM (N : List Str) (M : List Nat) (roots : Nat → V) (ds : List D) : Ev := (ds.zipIdx.map fun p => if M.contains p.2 then Sl.rf (roots p.2) p.1 else .al p.1) ++ List.replicate (N.length - ds.length) .no
def endM (M : List Nat) (roots : Nat → V) (d : D) (ds' : List D) : Out → Prop
  | .rm d' ρ' => d' = d ∧ ∀ i ∈ M, ∃ e, ds'[i]? = some e ∧ ρ'[i]? = some (Sl.rf (roots i) e)
  | .nx ρ' => d = .non ∧ ∀ i ∈ M, ∃ e, ds'[i]? = some e ∧ ρ'[i]? = some (Sl.rf (roots i) e)
  | _ => False
structure MRel (N : List Str) (n : Nat) (M : List Nat) (F : FS) (ds : List D) (d : D) (ds' : List D) : Prop where
  len : ds.length = n
  len' : ds'.length = n
  off : ∀ i, i ∉ M → ds'[i]? = ds[i]?
  on : ∀ roots, ∃ o, F (argsM N M roots ds) = some o ∧ endM M roots d ds' o
theorem MRel.unique {N : List Str} {n : Nat} {M : List Nat} {F : FS} {ds : List D} {d e : D} {ds' es' : List D} (h : MRel N n M F ds d ds') (h' : MRel N n M F ds e es') : d = e ∧ ds' = es' := by
  obtain ⟨o, h1, h2⟩ := h.on fun _ => .non
  obtain ⟨o', h3, h4⟩ := h'.on fun _ => .non
  rw [h1] at h3
  cases h3
  have go : ∀ {ρ' : Ev}, (∀ i ∈ M, ∃ e, ds'[i]? = some e ∧ ρ'[i]? = some (Sl.rf .non e)) → (∀ i ∈ M, ∃ e, es'[i]? = some e ∧ ρ'[i]? = some (Sl.rf .non e)) → ds' = es' := fun {ρ'} a b => List.ext_getElem? fun i => by
    by_cases hi : i ∈ M
    · obtain ⟨e1, a1, a2⟩ := a i hi
      obtain ⟨e2, b1, b2⟩ := b i hi
      rw [a2] at b2
      cases b2
      rw [a1, b1]
    · rw [h.off i hi, h'.off i hi]
  cases o with
  | rm d' ρ' => exact ⟨h2.1.symm.trans h4.1, go h2.2 h4.2⟩
  | nx ρ' => exact ⟨h2.1.trans h4.1.symm, go h2.2 h4.2⟩
  | _ => cases h2
open Classical in
noncomputable def fnM (N : List Str) (n : Nat) (M : List Nat) (F : FS) : List D → Option (D × List D) := fun ds => if h : ∃ r : D × List D, MRel N n M F ds r.1 r.2 then some (Classical.choose h) else none
theorem fnM_of {N : List Str} {n : Nat} {M : List Nat} {F : FS} {ds : List D} {d : D} {ds' : List D} (h : MRel N n M F ds d ds') : fnM N n M F ds = some (d, ds') := by
  have ex : ∃ r : D × List D, MRel N n M F ds r.1 r.2 := ⟨(d, ds'), h⟩
  unfold fnM
  rw [dif_pos ex]
  obtain ⟨e1, e2⟩ := (Classical.choose_spec ex).unique h
  congr 1
  exact Prod.ext e1 e2
theorem fnM_ex {N : List Str} {n : Nat} {M : List Nat} {F : FS} {ds : List D} {r : D × List D} (h : fnM N n M F ds = some r) : MRel N n M F ds r.1 r.2 := by
  unfold fnM at h
  split at h
  · next ex => cases h; exact Classical.choose_spec ex
  · cases h
theorem argsM_get {N : List Str} {M : List Nat} {roots : Nat → V} {ds : List D} {i : Nat} {x : Sl} (h : (argsM N M roots ds)[i]? = some x) : x = .no ∨ ∃ d, ds[i]? = some d ∧ x = if M.contains i then Sl.rf (roots i) d else .al d := by
  unfold argsM at h
  by_cases hi : i < ds.length
  · rw [List.getElem?_append_left (by simpa using hi), List.getElem?_map, List.getElem?_zipIdx, List.getElem?_eq_getElem hi] at h
    simp only [Option.map_some, Nat.zero_add] at h
    exact .inr ⟨ds[i], List.getElem?_eq_getElem hi, (Option.some.inj h).symm⟩
  · rw [List.getElem?_append_right (by simpa using hi), List.getElem?_replicate] at h
    split at h
    · cases h; exact .inl rfl
    · cases h
theorem argsM_od {N : List Str} {M : List Nat} {roots : Nat → V} {ds : List D} {i : Nat} {d : D} (h : odAt (argsM N M roots ds) i = some d) : i ∈ M ∧ ds[i]? = some d := by
  obtain ⟨x, hx, hd, nx⟩ := odAt_at h
  rcases argsM_get hx with z | ⟨d', h1, h2⟩
  · exact absurd z nx
  · subst h2
    by_cases hm : M.contains i = true
    · rw [if_pos hm] at hd
      cases hd
      exact ⟨by simpa using hm, h1⟩
    · rw [if_neg hm] at hd
      cases hd
section
variable {P : Program} {w : World} {K : PySem.W.Frag} {mg : Str → Option Value} {base : Heap}
open Classical in
theorem ER.startM {H : Hp} {N : List Str} {vs : List V} {ds : List D} {M : List Nat} {fm : Nat → List Addr} (r : ArgRep K H vs ds fm) (hM : ∀ i ∈ M, i < ds.length ∧ (fm i).Nodup ∧ ∀ j, j ≠ i → j < ds.length → ∀ a ∈ fm i, a ∉ fm j) :
    ER K (fun a => if ∃ i ∈ M, a ∈ fm i then none else H a) H (L2.start N vs) (argsM N M (fun i => (vs[i]?).getD .non) ds) fm := by
  have vget : ∀ {i : Nat} {v : V}, vs[i]? = some v → (L2.start N vs)[i]? = some (some v) := fun {i v} h => by
    unfold L2.start
    have hi : i < vs.length := (List.getElem?_eq_some_iff.mp h).1
    rw [List.getElem?_append_left (by simpa using hi), List.getElem?_map, h]
    rfl
  refine ⟨?_, fun i d z => ?_, fun i d z => ?_, fun i v d z => ?_, fun i j d x ne z1 z2 nn a ha hb => ?_, fun b o e => ?_⟩
  · unfold L2.start argsM
    simp [r.1]
  · rcases argsM_get z with q | ⟨d', h1, h2⟩
    · cases q
    · by_cases hm : M.contains i = true
      · rw [if_pos hm] at h2; cases h2
      · rw [if_neg hm] at h2
        cases h2
        obtain ⟨v, h3, h4⟩ := r.2 i d h1
        exact ⟨v, vget h3, h4⟩
  · obtain ⟨hm, h1⟩ := argsM_od z
    obtain ⟨v, h3, h4⟩ := r.2 i d h1
    exact ⟨v, vget h3, h4, (hM i hm).2.1, fun a ha => if_pos ⟨i, hm, ha⟩⟩
  · rcases argsM_get z with q | ⟨d', h1, h2⟩
    · cases q
    · by_cases hm : M.contains i = true
      · rw [if_pos hm] at h2
        cases h2
        obtain ⟨v, h3, h4⟩ := r.2 i _ h1
        rw [h3]
        exact vget h3
      · rw [if_neg hm] at h2; cases h2
  · obtain ⟨hm, h1⟩ := argsM_od z1
    rcases argsM_get z2 with q | ⟨d', h3, _⟩
    · exact nn q
    · exact (hM i hm).2.2 j (Ne.symm ne) (List.getElem?_eq_some_iff.mp h3).1 a ha hb
  · split at e
    · cases e
    · exact e
theorem fn_okM {x qual : Str} {params : Arguments} {body : List Stmt} {scope : Scope} {dvs : List V} {f : Addr} {fd : FuncData} {N ps : List Str} {k n : Nat} {M : List Nat} {F : FS} (Fn : FunD K x qual params body scope dvs [] f fd) (S : FnScope N ps scope) (hn : ps.length = n)
    (hbody : ∀ (cdv : Value) (A : Around) (outer : List Env) (s : Shared) (H : Hp) (E : XK), Room k (A.deeper (envOfC qual scope s.heap.objs.size f cdv)) → DSs (cxOf CX0 P w K mg base N qual scope f cdv A outer s H E).nox body F) :
    FnOk P w K mg base CX0 (k + 1) f fd ps (spM K M (fnM N n M F)) := by
  refine Fn.ok S (fun vs H Q E h => ?_) (fun cdv A outer s H vs Q E hr h => ⟨tS K F, PSs.nox (hbody cdv A outer s H E hr), ?_⟩)
  · obtain ⟨ds, fm, d, ds', r, hM, hf, _⟩ := h
    rw [r.1, (fnM_ex hf).len, hn]
  · obtain ⟨ds, fm, d, ds', r, hM, hf, q⟩ := h
    have R := fnM_ex hf
    obtain ⟨o, h1, h2⟩ := R.on fun i => (vs[i]?).getD .non
    have ownI : ∀ a, Own (argsM N M (fun i => (vs[i]?).getD .non) ds) fm a ↔ ∃ i ∈ M, a ∈ fm i := fun a => by
      constructor
      · rintro ⟨i, d, hd, ha⟩
        exact ⟨i, (argsM_od hd).1, ha⟩
      · rintro ⟨i, hi, ha⟩
        have hlt := (hM i hi).1
        refine ⟨i, ds[i], ?_, ha⟩
        unfold odAt argsM
        rw [List.getElem?_append_left (by simpa using hlt), List.getElem?_map, List.getElem?_zipIdx, List.getElem?_eq_getElem hlt]
        simp only [Option.map_some, Nat.zero_add]
        rw [if_pos (by simpa using hi)]
        rfl
    have fin : ∀ (v : V) (d : D) (σ' : L2.St) (ρ' : Ev) (H' : Hp) (fm' : Nat → List Addr) (fp : List Addr), ER K (fun a => if ∃ i ∈ M, a ∈ fm i then none else H a) H' σ' ρ' fm' → Fr H (argsM N M (fun i => (vs[i]?).getD .non) ds) fm H' ρ' fm' → Rep K H' v d fp → fp.Nodup → (∀ a ∈ fp, (if ∃ i ∈ M, a ∈ fm i then none else H a) = none ∧ ¬ Own ρ' fm' a) →
        (∀ i ∈ M, ∃ e, ds'[i]? = some e ∧ ρ'[i]? = some (Sl.rf ((vs[i]?).getD .non) e)) → (∀ (v : V) (H' : Hp) (fm' : Nat → List Addr) (fp : List Addr), Stab (fun a => ∃ i ∈ M, a ∈ fm i) H H' → (∀ b, H' b = none → H b = none) →
    (∀ i ∈ M, ∃ v d', vs[i]? = some v ∧ ds'[i]? = some d' ∧ Rep K H' v d' (fm' i) ∧ (fm' i).Nodup ∧ (∀ a ∈ fm' i, (∃ j ∈ M, a ∈ fm j) ∨ H a = none) ∧ ∀ j ∈ M, j ≠ i → ∀ a ∈ fm' i, a ∉ fm' j) →
    Rep K H' v d fp → fp.Nodup → (∀ a ∈ fp, ((∃ j ∈ M, a ∈ fm j) ∨ H a = none) ∧ ∀ i ∈ M, a ∉ fm' i) → Q v H') → Q v H' := fun v d σ' ρ' H' fm' fp er' fr' rv nd hfp hpar q => by
      refine q v H' fm' fp (fun b o e n => fr'.keep b o e fun z => n ((ownI b).mp z)) fr'.dom (fun i hi => ?_) rv nd fun a ha => ⟨?_, fun i hi hm => ?_⟩
      · obtain ⟨e, g1, g2⟩ := hpar i hi
        have hlt : i < vs.length := by rw [r.1]; exact (hM i hi).1
        have ev : vs[i]? = some vs[i] := List.getElem?_eq_getElem hlt
        have g3 := er'.rfv _ _ _ g2
        obtain ⟨v', g4, g5, g6, _⟩ := er'.own _ _ (odAt_rf g2)
        rw [g3] at g4
        cases g4
        rw [ev] at g5
        refine ⟨_, e, ev, g1, g5, g6, fun a ha => ?_, fun j hj ne a ha hb => ?_⟩
        · exact (fr'.new a ⟨i, e, odAt_rf g2, ha⟩).imp (ownI a).mp id
        · obtain ⟨e2, _, g7⟩ := hpar j hj
          exact er'.sepO i j e e2 (Ne.symm ne) (odAt_rf g2) (odAt_rf g7) a ha hb
      · have z := (hfp a ha).1
        split at z
        · next h => exact .inl h
        · exact .inr z
      · obtain ⟨e, _, g2⟩ := hpar i hi
        exact (hfp a ha).2 ⟨i, e, odAt_rf g2, hm⟩
    refine ⟨_, argsM N M (fun i => (vs[i]?).getD .non) ds, fm, o, ER.startM r hM, h1, ?_⟩
    cases o with
    | rm d' ρ' =>
      obtain ⟨rfl, h3⟩ := h2
      exact fun v σ' H' fm' fp er' fr' rv nd hfp => fin v _ σ' ρ' H' fm' fp er' fr' rv nd hfp h3 q
    | nx ρ' =>
      obtain ⟨h2, h3⟩ := h2
      have h2 : d = .non := h2
      subst h2
      exact fun σ' H' fm' er' fr' => fin .non _ σ' ρ' H' fm' [] er' fr' .non List.nodup_nil (fun _ z => nomatch z) h3 q
    | _ => cases h2
theorem fdM_mk {x : Str} {f : Addr} {fd : FuncData} {ps : List Str} {k : Nat} {M : List Nat} {g : List D → Option (D × List D)} (hm : mg x = some (.ref f)) (hk : PySem.W.keepIn K (.ref f) = true) (hb : Binds K fd ps []) (h : FnOk P w K mg base CX0 k f fd ps (spM K M g)) : FdM P w K mg base x k M g :=
  ⟨f, fd, ps, hm, hk, hb, h⟩
theorem FdM.mono {x : Str} {j k : Nat} {M : List Nat} {g : List D → Option (D × List D)} (h : FdM P w K mg base x j M g) (l : j ≤ k) : FdM P w K mg base x k M g := by
  obtain ⟨a, fd, ps, h1, h2, h3, h6⟩ := h.ex
  exact ⟨a, fd, ps, h1, h2, h3, h6.mono l⟩
end
end Z
namespace Z
open PySem PySem.Spec PyProof.Rows L2
section
variable {K : PySem.W.Frag} {H0 H H' : Hp} {σ : L2.St} {ρ : Ev} {fm : Nat → List Addr}
theorem AtR.take {v u : V} {d d' e0 : D} {fp f' : List Addr} {p : List Nat} (h : AtR K H v d fp p u d' f') (r0 : Rep K H u e0 []) : fp.Nodup → ∃ fp', Rep K H v (d.put p e0) fp' ∧ fp'.Nodup ∧ f'.Nodup ∧ (∀ b ∈ fp', b ∈ fp ∧ b ∉ f') ∧ ∀ b ∈ f', b ∈ fp := by
  induction h with
  | nil r => exact fun nd => ⟨[], by unfold D.put; exact r0, List.nodup_nil, nd, (fun _ z => nomatch z), fun _ z => z⟩
  | @lst b l1 l2 w u m1 m2 e d' f1 f f2 f' p hb r1 hA r2 ih =>
    intro nd
    obtain ⟨nb, nd'⟩ := List.nodup_cons.mp nd
    obtain ⟨n1, n2, n3, n4, n5, n6⟩ := nodup3 nd'
    obtain ⟨fq, q1, q2, q3, q4, q5⟩ := ih r0 n2
    refine ⟨b :: (f1 ++ (fq ++ f2)), ?_, ?_, q3, fun c hc => ?_, fun c hc => List.mem_cons_of_mem _ (List.mem_append_right _ (List.mem_append_left _ (q5 c hc)))⟩
    · unfold D.put
      rw [get_mid]
      show Rep K _ (.ref b) (.lst ((m1 ++ e :: m2).set m1.length _)) _
      rw [set_mid]
      refine .lst hb (r1.app (.cons q1 r2))
    · refine List.nodup_cons.mpr ⟨fun hm => nb ?_, mk_nodup3 n1 q2 n3 (fun c hc hd => n4 c hc (q4 c hd).1) n5 fun c hc hd => n6 c (q4 c hc).1 hd⟩
      rcases List.mem_append.mp hm with hm | hm
      · exact List.mem_append_left _ hm
      · rcases List.mem_append.mp hm with hm | hm
        · exact List.mem_append_right _ (List.mem_append_left _ (q4 b hm).1)
        · exact List.mem_append_right _ (List.mem_append_right _ hm)
    · rcases List.mem_cons.mp hc with rfl | hc
      · exact ⟨List.mem_cons_self, fun z => nb (List.mem_append_right _ (List.mem_append_left _ (q5 c z)))⟩
      · rcases List.mem_append.mp hc with hc | hc
        · exact ⟨List.mem_cons_of_mem _ (List.mem_append_left _ hc), fun z => n4 c hc (q5 c z)⟩
        · rcases List.mem_append.mp hc with hc | hc
          · exact ⟨List.mem_cons_of_mem _ (List.mem_append_right _ (List.mem_append_left _ (q4 c hc).1)), (q4 c hc).2⟩
          · exact ⟨List.mem_cons_of_mem _ (List.mem_append_right _ (List.mem_append_right _ hc)), fun z => n6 c (q5 c z) hc⟩
  | @tup b l1 l2 w u m1 m2 e d' f1 f f2 f' p hb r1 hA r2 ih =>
    intro nd
    obtain ⟨n1, n2, n3, n4, n5, n6⟩ := nodup3 nd
    obtain ⟨fq, q1, q2, q3, q4, q5⟩ := ih r0 n2
    refine ⟨f1 ++ (fq ++ f2), ?_, mk_nodup3 n1 q2 n3 (fun c hc hd => n4 c hc (q4 c hd).1) n5 (fun c hc hd => n6 c (q4 c hc).1 hd), q3, fun c hc => ?_, fun c hc => List.mem_append_right _ (List.mem_append_left _ (q5 c hc))⟩
    · unfold D.put
      rw [get_mid]
      show Rep K _ (.ref b) (.tup ((m1 ++ e :: m2).set m1.length _)) _
      rw [set_mid]
      refine .tup hb (r1.app (.cons q1 r2))
    · rcases List.mem_append.mp hc with hc | hc
      · exact ⟨List.mem_append_left _ hc, fun z => n4 c hc (q5 c z)⟩
      · rcases List.mem_append.mp hc with hc | hc
        · exact ⟨List.mem_append_right _ (List.mem_append_left _ (q4 c hc).1), (q4 c hc).2⟩
        · exact ⟨List.mem_append_right _ (List.mem_append_right _ hc), fun z => n6 c (q5 c z) hc⟩
theorem AtR.back {v u : V} {d d' e0 : D} {fp f' fn : List Addr} {p : List Nat} (h : AtR K H v d fp p u d' f') (r0 : Rep K H u e0 fn) (hf : f' = []) (nn : fn.Nodup) : fp.Nodup → (∀ b ∈ fn, b ∉ fp) → ∃ fp', Rep K H v (d.put p e0) fp' ∧ fp'.Nodup ∧ ∀ b ∈ fp', b ∈ fp ∨ b ∈ fn := by
  induction h with
  | nil r => exact fun nd _ => ⟨fn, by unfold D.put; exact r0, nn, fun _ z => .inr z⟩
  | @lst b l1 l2 w u m1 m2 e d' f1 f f2 f' p hb r1 hA r2 ih =>
    intro nd dj
    obtain ⟨nb, nd'⟩ := List.nodup_cons.mp nd
    obtain ⟨n1, n2, n3, n4, n5, n6⟩ := nodup3 nd'
    have dj' : ∀ c ∈ fn, c ≠ b ∧ c ∉ f1 ∧ c ∉ f ∧ c ∉ f2 := fun c hc => by
      have := dj c hc
      simp only [List.mem_cons, List.mem_append, not_or] at this
      exact ⟨this.1, this.2.1, this.2.2.1, this.2.2.2⟩
    obtain ⟨fq, q1, q2, q4⟩ := ih r0 hf n2 fun c hc => (dj' c hc).2.2.1
    have out : ∀ c ∈ fq, c ≠ b ∧ c ∉ f1 ∧ c ∉ f2 := fun c hc => by
      rcases q4 c hc with z | z
      · exact ⟨fun y => nb (by rw [← y]; exact List.mem_append_right _ (List.mem_append_left _ z)), fun y => n4 c y z, fun y => n6 c z y⟩
      · exact ⟨(dj' c z).1, (dj' c z).2.1, (dj' c z).2.2.2⟩
    refine ⟨b :: (f1 ++ (fq ++ f2)), ?_, ?_, fun c hc => ?_⟩
    · unfold D.put
      rw [get_mid]
      show Rep K _ (.ref b) (.lst ((m1 ++ e :: m2).set m1.length _)) _
      rw [set_mid]
      exact .lst hb (r1.app (.cons q1 r2))
    · refine List.nodup_cons.mpr ⟨fun hm => ?_, mk_nodup3 n1 q2 n3 (fun c hc hd => (out c hd).2.1 hc) n5 fun c hc hd => (out c hc).2.2 hd⟩
      rcases List.mem_append.mp hm with hm | hm
      · exact nb (List.mem_append_left _ hm)
      · rcases List.mem_append.mp hm with hm | hm
        · exact (out b hm).1 rfl
        · exact nb (List.mem_append_right _ (List.mem_append_right _ hm))
    · simp only [List.mem_cons, List.mem_append] at hc ⊢
      rcases hc with z | z | z | z
      · exact .inl (.inl z)
      · exact .inl (.inr (.inl z))
      · exact (q4 c z).imp (fun y => .inr (.inr (.inl y))) id
      · exact .inl (.inr (.inr (.inr z)))
  | @tup b l1 l2 w u m1 m2 e d' f1 f f2 f' p hb r1 hA r2 ih =>
    intro nd dj
    obtain ⟨n1, n2, n3, n4, n5, n6⟩ := nodup3 nd
    have dj' : ∀ c ∈ fn, c ∉ f1 ∧ c ∉ f ∧ c ∉ f2 := fun c hc => by
      have := dj c hc
      simp only [List.mem_append, not_or] at this
      exact ⟨this.1, this.2.1, this.2.2⟩
    obtain ⟨fq, q1, q2, q4⟩ := ih r0 hf n2 fun c hc => (dj' c hc).2.1
    have out : ∀ c ∈ fq, c ∉ f1 ∧ c ∉ f2 := fun c hc => by
      rcases q4 c hc with z | z
      · exact ⟨fun y => n4 c y z, fun y => n6 c z y⟩
      · exact ⟨(dj' c z).1, (dj' c z).2.2⟩
    refine ⟨f1 ++ (fq ++ f2), ?_, mk_nodup3 n1 q2 n3 (fun c hc hd => (out c hd).1 hc) n5 (fun c hc hd => (out c hc).2 hd), fun c hc => ?_⟩
    · unfold D.put
      rw [get_mid]
      show Rep K _ (.ref b) (.tup ((m1 ++ e :: m2).set m1.length _)) _
      rw [set_mid]
      exact .tup hb (r1.app (.cons q1 r2))
    · simp only [List.mem_append] at hc ⊢
      rcases hc with z | z | z
      · exact .inl (.inl z)
      · exact (q4 c z).imp (fun y => .inr (.inl y)) id
      · exact .inl (.inr (.inr z))
def Mine (H0 : Hp) (ρ : Ev) (fm : Nat → List Addr) (fp : List Addr) : Prop := fp.Nodup ∧ ∀ a ∈ fp, H0 a = none ∧ ∀ (j : Nat) (x : Sl), ρ[j]? = some x → x ≠ .no → a ∉ fm j
theorem Mine.notOwn {fp : List Addr} (m : Mine H0 ρ fm fp) : ∀ a ∈ fp, ¬ Own ρ fm a := fun a ha ⟨j, d, h1, h2⟩ => by
  obtain ⟨x, hx, _, nx⟩ := odAt_at h1
  exact (m.2 a ha).2 j x hx nx h2
end
def tGO (K : PySem.W.Frag) (S : List Nat) (G : D → Ev → Option Ev) : TG := fun v σ H Q => ∃ H0 ρ fm d fp ρ', ER K H0 H σ ρ fm ∧ Rep K H v d fp ∧ Mine H0 ρ fm fp ∧ G d ρ = some ρ' ∧ ∀ σ' fm', ER K H0 H σ' ρ' fm' → (∀ (b : Addr), (∃ (j : Nat) (x : Sl), ρ'[j]? = some x ∧ x ≠ .no ∧ b ∈ fm' j) → (∃ (j : Nat) (x : Sl), ρ[j]? = some x ∧ x ≠ .no ∧ b ∈ fm j) ∨ b ∈ fp) → (∀ b, Own ρ' fm' b → Own ρ fm b ∨ b ∈ fp) → InS S σ σ' → (∀ j, j ∉ S → ρ'[j]? = ρ[j]? ∧ σ'[j]? = σ[j]?) → Q σ' H
def tGOs (K : PySem.W.Frag) (S : List Nat) (G : List D → Ev → Option Ev) : TGs := fun v σ H Q => ∃ H0 ρ fm d fp ρ', ER K H0 H σ ρ fm ∧ RepL K H v d fp ∧ Mine H0 ρ fm fp ∧ G d ρ = some ρ' ∧ ∀ σ' fm', ER K H0 H σ' ρ' fm' → (∀ (b : Addr), (∃ (j : Nat) (x : Sl), ρ'[j]? = some x ∧ x ≠ .no ∧ b ∈ fm' j) → (∃ (j : Nat) (x : Sl), ρ[j]? = some x ∧ x ≠ .no ∧ b ∈ fm j) ∨ b ∈ fp) → (∀ b, Own ρ' fm' b → Own ρ fm b ∨ b ∈ fp) → InS S σ σ' → (∀ j, j ∉ S → ρ'[j]? = ρ[j]? ∧ σ'[j]? = σ[j]?) → Q σ' H
abbrev DGO (X : Cx) (tg : Expr) (S : List Nat) (G : D → Ev → Option Ev) : Prop := PG X tg (tGO X.K S G)
abbrev DGOs (X : Cx) (tg : List Expr) (S : List Nat) (G : List D → Ev → Option Ev) : Prop := PGs X tg (tGOs X.K S G)
def gO (i : Nat) : D → Ev → Option Ev := fun d ρ => some (ρ.set i (.ow d))
section
variable {X : Cx} {e : Expr} {es : List Expr} {pos : Pos}
theorem dgo_name (i : Nat) {x : Str} (hN : X.N.Nodup) (hi : X.N[i]? = some x := by rfl) (hx : Loc X.env.scope x := by first | exact Or.inl rfl | exact Or.inr rfl) (hf : X.fn x = true ∨ X.env.scope.names.lookup x = some .local := by first | exact .inl rfl | exact .inr rfl | assumption) : DGO X (.Name x pos) [i] (gO i) :=
  pg_mono (pg_name hN hi hx hf) fun v σ H Q ⟨H0, ρ, fm, d, fp, ρ', er, r, m, hg, q⟩ => by
    cases hg
    refine q _ _ (er.put_ow r m.1 (fun a ha => (m.2 a ha).1) fun j x _ hx nx a ha => (m.2 a ha).2 j x hx nx) (fun b ⟨j, x, hx, nx, hb⟩ => ?_) (fun _ z => (own_put_ow z).symm) (fun vs h => wipe_idem (h i List.mem_cons_self)) fun j hj => ?_
    · rcases get_set hx with ⟨rfl, _, _⟩ | ⟨ne, q⟩
      · rw [fput_same] at hb; exact .inr hb
      · rw [fput_ne ne] at hb; exact .inl ⟨j, x, q, nx, hb⟩
    · have ne : j ≠ i := fun z => hj (by rw [z]; exact List.mem_singleton.mpr rfl)
      exact ⟨set_get_ne ne, set_get_ne ne⟩
theorem dgo_al (i : Nat) {x : Str} (hN : X.N.Nodup) (hi : X.N[i]? = some x := by rfl) (hx : Loc X.env.scope x := by first | exact Or.inl rfl | exact Or.inr rfl) (hf : X.fn x = true ∨ X.env.scope.names.lookup x = some .local := by first | exact .inl rfl | exact .inr rfl | assumption) : DGO X (.Name x pos) [i] (gN i) :=
  pg_mono (pg_name hN hi hx hf) fun v σ H Q ⟨H0, ρ, fm, d, fp, ρ', er, r, m, hg, q⟩ => by
    cases hg
    refine q _ _ (er.put_al r m.notOwn) (fun b ⟨j, x, hx, nx, hb⟩ => ?_) (fun _ z => .inl (own_put_al z)) (fun vs h => wipe_idem (h i List.mem_cons_self)) fun j hj => ?_
    · rcases get_set hx with ⟨rfl, _, _⟩ | ⟨ne, q⟩
      · rw [fput_same] at hb; exact .inr hb
      · rw [fput_ne ne] at hb; exact .inl ⟨j, x, q, nx, hb⟩
    · have ne : j ≠ i := fun z => hj (by rw [z]; exact List.mem_singleton.mpr rfl)
      exact ⟨set_get_ne ne, set_get_ne ne⟩
theorem dgos_nil : DGOs X [] [] gNl := pgs_mono pgs_nil fun v σ H Q ⟨H0, ρ, fm, d, fp, ρ', er, r, n, hg, q⟩ => by
  cases r with
  | nil => cases hg; exact ⟨rfl, q σ fm er (fun _ z => .inl z) (fun _ z => .inl z) (fun _ _ => rfl) fun _ _ => ⟨rfl, rfl⟩⟩
  | cons _ _ => cases hg
theorem dgos_cons {S T : List Nat} {G : D → Ev → Option Ev} {J : List D → Ev → Option Ev} (h1 : DGO X e S G) (h2 : DGOs X es T J)
    (hs : (assignEach (e :: es) X.env).map (·.2) = assign e X.env :: (assignEach es X.env).map (·.2) := by rfl) : DGOs X (e :: es) (S ++ T) (gCs G J) := pgs_mono (pgs_cons h1 h2 hs) fun v σ H Q ⟨H0, ρ, fm, d, fp, ρ', er, r, m, hg, q⟩ => by
  cases r with
  | nil => cases hg
  | cons x r =>
    obtain ⟨ρ1, h3, h4⟩ := bind_some (f := J _) hg
    obtain ⟨n1, n2, n3⟩ := List.nodup_append.mp m.1
    refine ⟨_, _, rfl, H0, ρ, fm, _, _, ρ1, er, x, ⟨n1, fun a ha => m.2 a (List.mem_append_left _ ha)⟩, h3, fun σ1 fm1 er1 in1 ho1 ins1 id1 => ⟨H0, ρ1, fm1, _, _, ρ', er1, r, ⟨n2, fun a ha => ⟨(m.2 a (List.mem_append_right _ ha)).1, fun j x hx nx hb => ?_⟩⟩, h4, fun σ2 fm2 er2 in2 ho2 ins2 id2 => q σ2 fm2 er2 (fun b z => ?_) (fun b z => ?_) (fun vs h =>
      (ins2 vs fun i hi => h i (List.mem_append_right _ hi)).trans (ins1 vs fun i hi => h i (List.mem_append_left _ hi))) fun j hj => ?_⟩⟩
    · rcases in1 a ⟨j, x, hx, nx, hb⟩ with ⟨j2, x2, hx2, nx2, hb2⟩ | z
      · exact (m.2 a (List.mem_append_right _ ha)).2 j2 x2 hx2 nx2 hb2
      · exact n3 a z a ha rfl
    · rcases in2 b z with z | z
      · exact (in1 b z).imp id (List.mem_append_left _)
      · exact .inr (List.mem_append_right _ z)
    · rcases ho2 b z with z | z
      · exact (ho1 b z).imp id (List.mem_append_left _)
      · exact .inr (List.mem_append_right _ z)
    · obtain ⟨a1, a2⟩ := id1 j fun z => hj (List.mem_append_left _ z)
      obtain ⟨b1, b2⟩ := id2 j fun z => hj (List.mem_append_right _ z)
      exact ⟨b1.trans a1, b2.trans a2⟩
theorem dgo_seq {k : Nat} {S : List Nat} {J : List D → Ev → Option Ev} {n : Nat} (hc : X.calm = true) (h : DGOs X es S J) (hn : (assignEach es X.env).length = n := by rfl) (hst : (assignEach es X.env).findIdx? (·.1) = none := by rfl) : DGO X (.Tuple es k pos) S (gTp n J) :=
  pg_mono (pg_tup hc h hn hst) fun v σ H Q ⟨H0, ρ, fm, d, fp, ρ', er, r, m, hg, q⟩ => by
    cases d with
    | tup ds =>
      obtain ⟨a, vs, rfl, hs, rl⟩ := r.asT
      have hg : (if ds.length = n then J ds ρ else none) = some ρ' := hg
      by_cases hl : ds.length = n
      · rw [if_pos hl] at hg
        exact ⟨a, vs, rfl, hs, by rw [rl.len]; exact hl, H0, ρ, fm, ds, fp, ρ', er, rl, m, hg, q⟩
      · rw [if_neg hl] at hg; cases hg
    | _ => cases hg
end
def unroot (i : Nat) (ρ : Ev) : Ev := match ρ[i]? with
  | some (.rf _ d) => ρ.set i (.ow d)
  | _ => ρ
def Out.unroot (i : Nat) : Out → Out
  | .nx ρ => .nx (Z.unroot i ρ)
  | .bk ρ => .bk (Z.unroot i ρ)
  | .ct ρ => .ct (Z.unroot i ρ)
  | .rt d => .rt d
  | .rm d ρ => .rm d (Z.unroot i ρ)
open Classical in
noncomputable def sRoot (i : Nat) (F : FS) : FS := fun ρ => match ρ[i]? with
  | some (.ow d) => if h : ∃ o, ∀ v, ∃ o', F (ρ.set i (.rf v d)) = some o' ∧ o'.unroot i = o then some (Classical.choose h) else none
  | _ => none
open Classical in
theorem sRoot_of {i : Nat} {F : FS} {ρ : Ev} {d : D} {o : Out} (h : ρ[i]? = some (.ow d)) (hF : ∀ v, ∃ o', F (ρ.set i (.rf v d)) = some o' ∧ o'.unroot i = o) : sRoot i F ρ = some o := by
  have ex : ∃ o, ∀ v, ∃ o', F (ρ.set i (.rf v d)) = some o' ∧ o'.unroot i = o := ⟨o, hF⟩
  unfold sRoot
  rw [h]
  show (if h : ∃ o, ∀ v, ∃ o', F (ρ.set i (.rf v d)) = some o' ∧ o'.unroot i = o then some (Classical.choose h) else none) = some o
  rw [dif_pos ex]
  obtain ⟨o1, a1, a2⟩ := Classical.choose_spec ex .non
  obtain ⟨o2, b1, b2⟩ := hF .non
  rw [a1] at b1
  cases b1
  rw [← a2, b2]
section
variable {K : PySem.W.Frag} {H0 H H' : Hp} {σ : L2.St} {ρ ρ' : Ev} {fm fm' : Nat → List Addr}
theorem unroot_get {i j : Nat} {x : Sl} (h : (unroot i ρ)[j]? = some x) : ρ[j]? = some x ∨ (j = i ∧ ∃ v d, x = .ow d ∧ ρ[i]? = some (.rf v d)) := by
  unfold unroot at h
  split at h
  · next v d hd =>
    rcases get_set h with ⟨rfl, _, q⟩ | ⟨_, q⟩
    · exact .inr ⟨rfl, v, d, q, hd⟩
    · exact .inl q
  · exact .inl h
theorem unroot_len {i : Nat} : (unroot i ρ).length = ρ.length := by
  unfold unroot
  split
  · rw [List.length_set]
  · rfl
theorem unroot_od {i j : Nat} {d : D} (h : odAt (unroot i ρ) j = some d) : odAt ρ j = some d := by
  obtain ⟨x, hx, hd, nx⟩ := odAt_at h
  rcases unroot_get hx with z | ⟨rfl, v, e, z1, z2⟩
  · exact odAt_of z hd
  · rw [z1] at hd
    cases hd
    exact odAt_rf z2
theorem own_unroot {i : Nat} {a : Addr} (h : Own (unroot i ρ) fm a) : Own ρ fm a := by
  obtain ⟨j, d, h1, h2⟩ := h
  exact ⟨j, d, unroot_od h1, h2⟩
theorem ER.unroot {i : Nat} (e : ER K H0 H σ ρ fm) : ER K H0 H σ (unroot i ρ) fm where
  len := by rw [unroot_len]; exact e.len
  al := fun j d z => by
    rcases unroot_get z with q | ⟨rfl, v, d', q, q2⟩
    · exact e.al j d q
    · cases q
  own := fun j d z => e.own j d (unroot_od z)
  rfv := fun j w d z => by
    rcases unroot_get z with q | ⟨rfl, v, d', q, q2⟩
    · exact e.rfv j w d q
    · cases q
  sepG := fun j l d x hne z1 z2 nn => by
    rcases unroot_get z2 with q | ⟨rfl, v, d', q, q2⟩
    · exact e.sepG j l d x hne (unroot_od z1) q nn
    · exact e.sepG j l d _ hne (unroot_od z1) q2 (fun z => nomatch z)
  same := e.same
theorem post_unroot {i : Nat} {Dn : Ends} {o : Out} (h : Post K H0 H ρ fm Dn (o.unroot i)) : Post K H0 H ρ fm Dn o := by
  have fr : ∀ {H' ρ' fm'}, Fr H ρ fm H' ρ' fm' → Fr H ρ fm H' (unroot i ρ') fm' := fun f => ⟨f.keep, fun b z => f.new b (own_unroot z), f.dom⟩
  cases o with
  | nx ρ' => exact fun σ' H' fm' er' f => h σ' H' fm' er'.unroot (fr f)
  | bk ρ' => exact fun σ' H' fm' er' f => h σ' H' fm' er'.unroot (fr f)
  | ct ρ' => exact fun σ' H' fm' er' f => h σ' H' fm' er'.unroot (fr f)
  | rt d => exact h
  | rm d ρ' => exact fun v σ' H' fm' fp er' f r nd k => h v σ' H' fm' fp er'.unroot (fr f) r nd fun a ha => ⟨(k a ha).1, fun z => (k a ha).2 (own_unroot z)⟩
theorem ER.root (e : ER K H0 H σ ρ fm) {i : Nat} {d : D} (h : ρ[i]? = some (.ow d)) : ∃ v, ER K H0 H σ (ρ.set i (.rf v d)) fm ∧ ∀ a, Own ρ fm a ↔ Own (ρ.set i (.rf v d)) fm a := by
  obtain ⟨v, h1, _⟩ := e.ow i d h
  have hlt : i < ρ.length := (List.getElem?_eq_some_iff.mp h).1
  have od : ∀ j d', odAt (ρ.set i (.rf v d)) j = some d' → odAt ρ j = some d' := fun j d' z => by
    obtain ⟨x, hx, hd, _⟩ := odAt_at z
    rcases get_set hx with ⟨rfl, _, q⟩ | ⟨_, q⟩
    · rw [q] at hd
      cases hd
      exact odAt_ow h
    · exact odAt_of q hd
  have do' : ∀ j d', odAt ρ j = some d' → odAt (ρ.set i (.rf v d)) j = some d' := fun j d' z => by
    obtain ⟨x, hx, hd, _⟩ := odAt_at z
    by_cases hj : j = i
    · subst hj
      rw [h] at hx
      cases hx
      cases hd
      exact odAt_rf (set_get hlt)
    · exact odAt_of (by rw [set_get_ne hj]; exact hx) hd
  refine ⟨v, ⟨by rw [List.length_set]; exact e.len, fun j d' z => ?_, fun j d' z => e.own j d' (od j d' z), fun j w d' z => ?_, fun j l d' x hne z1 z2 nn => ?_, e.same⟩, fun a => ⟨fun ⟨j, d', z1, z2⟩ => ⟨j, d', do' j d' z1, z2⟩, fun ⟨j, d', z1, z2⟩ => ⟨j, d', od j d' z1, z2⟩⟩⟩
  · rcases get_set z with ⟨rfl, _, q⟩ | ⟨_, q⟩
    · cases q
    · exact e.al j d' q
  · rcases get_set z with ⟨rfl, _, q⟩ | ⟨_, q⟩
    · cases q; exact h1
    · exact e.rfv j w d' q
  · rcases get_set z2 with ⟨rfl, _, q⟩ | ⟨_, q⟩
    · exact e.sepG j l d' _ hne (od j d' z1) h (fun z => nomatch z)
    · exact e.sepG j l d' x hne (od j d' z1) q nn
end
theorem ds_root {X : Cx} {st : Stmt} {F : FS} (i : Nat) (h : DS X st F) : DS X st (sRoot i F) := ps_mono h fun Dn σ H ⟨H0, ρ, fm, o, er, hf, q⟩ => by
  unfold sRoot at hf
  split at hf
  · next d hd =>
    split at hf
    · next ex =>
      have e0 := Option.some.inj hf
      obtain ⟨v, er1, ow⟩ := er.root hd
      obtain ⟨o', h1, h2⟩ := Classical.choose_spec ex v
      rw [e0] at h2
      subst h2
      exact ⟨H0, _, fm, o', er1, h1, post_unroot (q.seq _ ⟨Stab.refl, fun b z => .inl ((ow b).mpr z), fun _ z => z⟩)⟩
    · cases hf
  · cases hf
def sWipe (S : List Nat) (F : FS) : FS := fun ρ => F (wipeD ρ S)
theorem ds_wipe {X : Cx} {st : Stmt} {F : FS} (S : List Nat) (h : DS X st F) : DS X st (sWipe S F) := ps_mono h fun Dn σ H ⟨H0, ρ, fm, o, er, hf, q⟩ =>
  ⟨H0, wipeD ρ S, fm, o, er.sub (wipeD_len S) wipeD_sub, hf, q.seq _ (Fr.of_same (Same.refl H) fun b z => .inl (own_sub wipeD_sub z))⟩
end Z
namespace Z
open PySem PySem.Spec PyProof.Rows L2
def cleanE (ρ : Ev) : Bool := ρ.all fun x => match x with
  | .al d => d.imm
  | _ => true
theorem cleanE_at {ρ : Ev} (h : cleanE ρ = true) {i : Nat} {d : D} (hi : ρ[i]? = some (.al d)) : d.imm = true := List.all_eq_true.mp h _ (List.mem_of_getElem? hi)
def giveF (G : D → Ev → Option Ev) (b : FS) : List D → FS
  | [], ρ => some (.nx ρ)
  | d :: ds, ρ => if cleanE ρ = true then (G d ρ).bind fun ρ1 => (b ρ1).bind fun o => match o with
    | .nx ρ' => giveF G b ds ρ'
    | .ct ρ' => giveF G b ds ρ'
    | .bk ρ' => some (.nx ρ')
    | .rt d => some (.rt d)
    | .rm d ρ' => some (.rm d ρ') else none
def sGiveF (f : FE) (G : D → Ev → Option Ev) (b : FS) : FS := fun ρ => (f ρ).bind fun d => match d with
  | .lst xs => giveF G b xs ρ
  | _ => none
section
variable {K : PySem.W.Frag} {H0 H H1 : Hp} {σ : L2.St} {ρ : Ev} {fm : Nat → List Addr}
structure Anon (K : PySem.W.Frag) (H0 Hb : Hp) (ρb : Ev) (fmb : Nat → List Addr) (l : Addr) (vs : List V) (k : Nat) (ds : List D) (ρ : Ev) (fm : Nat → List Addr) (H : Hp) (fp : List Addr) : Prop where
  lst : H l = some (.lst vs)
  rep : RepL K H (vs.drop k) ds fp
  nd : (l :: fp).Nodup
  fr : ∀ a ∈ l :: fp, H0 a = none ∧ Src Hb ρb fmb a ∧ ¬ Own ρ fm a
end
section
variable {X : Cx} {tg iter : Expr} {body : List Stmt} {F : FS} {pos : Pos} {G : D → Ev → Option Ev}
theorem giveF_step {K : PySem.W.Frag} {H0 Hb H : Hp} {ρb : Ev} {fmb : Nat → List Addr} {σ : L2.St} {ρ : Ev} {fm : Nat → List Addr} {l : Addr} {vs : List V} {k : Nat} {d : D} {ds : List D} {fp : List Addr} (A : Anon K H0 Hb ρb fmb l vs k (d :: ds) ρ fm H fp) (er : ER K H0 H σ ρ fm) (fr : Fr Hb ρb fmb H ρ fm) (hc : cleanE ρ = true) :
    ∃ x f r, vs[k]? = some x ∧ Rep K H x d f ∧ fp = f ++ r ∧ Mine H0 ρ fm f ∧ ∀ (ρ1 : Ev) (fm1 : Nat → List Addr) (σ1 : L2.St), (∀ b, Own ρ1 fm1 b → Own ρ fm b ∨ b ∈ f) → ER K H0 H σ1 ρ1 fm1 → Fr Hb ρb fmb H ρ1 fm1 ∧ ∀ (ρ2 : Ev) (fm2 : Nat → List Addr) (H2 : Hp) (σ2 : L2.St), Fr H ρ1 fm1 H2 ρ2 fm2 → Anon K H0 Hb ρb fmb l vs (k + 1) ds ρ2 fm2 H2 r ∧ Fr Hb ρb fmb H2 ρ2 fm2 := by
  have hrep := A.rep
  cases hv : vs.drop k with
  | nil => rw [hv] at hrep; cases hrep
  | cons x xs =>
    rw [hv] at hrep
    cases hrep with
    | cons rx rr =>
      rename_i f r
      have hx : vs[k]? = some x := by
        have := congrArg (fun z => z[0]?) hv
        simpa using this
      have hxs : vs.drop (k + 1) = xs := by
        have := congrArg List.tail hv
        simpa using this
      obtain ⟨nl, nfr⟩ := List.nodup_cons.mp A.nd
      obtain ⟨nf, nr, nj⟩ := List.nodup_append.mp nfr
      have frf : ∀ a ∈ f, H0 a = none ∧ Src Hb ρb fmb a ∧ ¬ Own ρ fm a := fun a ha => A.fr a (List.mem_cons_of_mem _ (List.mem_append_left _ ha))
      have frr : ∀ a ∈ r, H0 a = none ∧ Src Hb ρb fmb a ∧ ¬ Own ρ fm a := fun a ha => A.fr a (List.mem_cons_of_mem _ (List.mem_append_right _ ha))
      have frl := A.fr l List.mem_cons_self
      refine ⟨x, f, r, hx, rx, rfl, ⟨nf, fun a ha => ⟨(frf a ha).1, fun j y hy ny hm => ?_⟩⟩, fun ρ1 fm1 σ1 ho er1 => ⟨⟨fr.keep, fun b z => ?_, fr.dom⟩, fun ρ2 fm2 H2 σ2 fr2 => ?_⟩⟩
      · cases y with
        | no => exact ny rfl
        | al e =>
          obtain ⟨w, _, rw'⟩ := er.al j e hy
          rw [rw'.imm (cleanE_at hc hy)] at hm
          cases hm
        | ow e => exact (frf a ha).2.2 ⟨j, e, odAt_ow hy, hm⟩
        | rf w e => exact (frf a ha).2.2 ⟨j, e, odAt_rf hy, hm⟩
      · rcases ho b z with z | z
        · exact fr.new b z
        · exact (frf b z).2.1.symm
      · have no1 : ∀ a ∈ l :: r, ¬ Own ρ1 fm1 a := fun a ha z => by
          rcases ho a z with z | z
          · rcases List.mem_cons.mp ha with rfl | ha
            · exact frl.2.2 z
            · exact (frr a ha).2.2 z
          · rcases List.mem_cons.mp ha with rfl | ha
            · exact nl (List.mem_append_left _ z)
            · exact nj a z a ha rfl
        have hl : IsLs H l := ⟨vs, A.lst⟩
        have ho1 : ∀ b, Own ρ1 fm1 b → IsLs H b := fun b hb => er1.trk hb
        have rr2 : RepL K H2 xs ds r := rr.stab ho1 fr2.keep fun a ha => no1 a (List.mem_cons_of_mem _ ha)
        refine ⟨⟨fr2.keep _ _ A.lst (no1 l List.mem_cons_self), by rw [hxs]; exact rr2, List.nodup_cons.mpr ⟨fun z => nl (List.mem_append_right _ z), nr⟩, fun a ha => ?_⟩, ⟨fun c o e n => ?_, fun b z => ?_, fun b z => fr.dom b (fr2.dom b z)⟩⟩
        · have h3 : H0 a = none ∧ Src Hb ρb fmb a := by
            rcases List.mem_cons.mp ha with rfl | ha
            · exact ⟨frl.1, frl.2.1⟩
            · exact ⟨(frr a ha).1, (frr a ha).2.1⟩
          refine ⟨h3.1, h3.2, fun z => ?_⟩
          rcases fr2.new a z with z | z
          · exact no1 a ha z
          · have t : IsLs H a := by
              rcases List.mem_cons.mp ha with rfl | ha
              · exact hl
              · exact rr.trk a ha
            obtain ⟨ws, q⟩ := t
            rw [z] at q; cases q
        · refine fr2.keep c o (fr.keep c o e n) fun z => ?_
          rcases ho c z with z | z
          · rcases fr.new c z with z | z
            · exact n z
            · rw [e] at z; cases z
          · rcases (frf c z).2.1 with y | y
            · rw [y] at e; cases e
            · exact n y
        · rcases fr2.new b z with z | z
          · rcases ho b z with z | z
            · exact fr.new b z
            · exact (frf b z).2.1.symm
          · exact .inr (fr.dom b z)
theorem ds_giveF {S : List Nat} {f : FE} (hp : PassesOwn (model X.prog X.w) X.A X.env X.xe) (hc : X.calm = true) (hi : DE X iter (.rt []) f) (hg : DGO X tg S G) (hb : DSs X body F) (hs : ∀ x, foldedSetIterable iter X.env x = pure x := by intro _; rfl) : DS X (.For tg iter body [] pos) (sGiveF f G F) :=
  ps_mono (ps_for hp hc (pi_list hi) hg hb hs) fun Dn σ H ⟨H0, ρ, fm, o, er, hf, q⟩ => by
    obtain ⟨d, h1, h2⟩ := bind_some hf
    cases d with
    | lst ds =>
      refine ⟨H0, ρ, fm, _, er, h1, fun v H1 fp s1 r1 k1 => ?_⟩
      obtain ⟨l, vs, fq, rfl, hl, rl, rfl⟩ := r1.asL
      have fr0 : ∀ a ∈ l :: fq, H a = none := fun a ha => (k1.2 a ha).elim id fun ⟨_, z, _⟩ => nomatch z
      have A0 : Anon X.K H0 H ρ fm l vs 0 ds ρ fm H1 fq := ⟨hl, rl, k1.1, fun a ha => ⟨er.same.free (fr0 a ha), .inl (fr0 a ha), not_own_of_none er (fr0 a ha)⟩⟩
      have len := rl.len
      refine ⟨l, rfl, ⟨vs, SqL.of hl⟩, fun i m σ2 H2 => m = ds.length - i ∧ i ≤ ds.length ∧ ∃ ρ2 fm2 fp2, ER X.K H0 H2 σ2 ρ2 fm2 ∧ Fr H ρ fm H2 ρ2 fm2 ∧ Anon X.K H0 H ρ fm l vs i (ds.drop i) ρ2 fm2 H2 fp2 ∧ giveF G F (ds.drop i) ρ2 = some o, ⟨ds.length, by simp, Nat.zero_le _, ρ, fm, fq, er.mono s1, Fr.of_same s1 fun _ z => .inl z, A0, h2⟩, ?_⟩
      rintro i m σ2 H2 ⟨rfl, hi, ρ2, fm2, fp2, er2, fr2, A, e2⟩
      by_cases hlt : i < ds.length
      · have edr : ds.drop i = ds[i] :: ds.drop (i + 1) := (List.drop_eq_getElem_cons hlt)
        rw [edr] at e2 A
        unfold giveF at e2
        by_cases hcl : cleanE ρ2 = true
        case neg => rw [if_neg hcl] at e2; cases e2
        rw [if_pos hcl] at e2
        obtain ⟨ρ3, h3, h4⟩ := bind_some (x := G _ ρ2) e2
        obtain ⟨o1, h5, h6⟩ := bind_some h4
        obtain ⟨x, f, r, hx, rx, _, mine, nxt⟩ := giveF_step A er2 fr2 hcl
        refine .inr ⟨⟨vs, x, SqL.of A.lst, hx⟩, fun σ' H' => ∃ ρ4 fm4 fp4, ER X.K H0 H' σ' ρ4 fm4 ∧ Fr H ρ fm H' ρ4 fm4 ∧ Anon X.K H0 H ρ fm l vs (i + 1) (ds.drop (i + 1)) ρ4 fm4 H' fp4 ∧ giveF G F (ds.drop (i + 1)) ρ4 = some o, fun σ' H' z => ⟨_, by omega, rfl, hlt, z⟩, fun y H3 ⟨y1, y2⟩ => ?_⟩
        subst y1
        have ey := (y2 _ (SqL.of A.lst)).symm.trans hx
        cases ey
        refine ⟨H0, ρ2, fm2, _, f, ρ3, er2, rx, mine, h3, fun σ4 fm4 er4 _ ho4 _ _ => ⟨H0, ρ3, fm4, o1, er4, h5, ?_⟩⟩
        obtain ⟨fr4, nx4⟩ := nxt ρ3 fm4 σ4 ho4 er4
        cases o1 with
        | nx ρ5 => exact fun σ5 H5 fm5 er5 fr5 => ⟨ρ5, fm5, r, er5, (nx4 ρ5 fm5 H5 σ5 fr5).2, (nx4 ρ5 fm5 H5 σ5 fr5).1, h6⟩
        | ct ρ5 => exact fun σ5 H5 fm5 er5 fr5 => ⟨ρ5, fm5, r, er5, (nx4 ρ5 fm5 H5 σ5 fr5).2, (nx4 ρ5 fm5 H5 σ5 fr5).1, h6⟩
        | bk ρ5 => cases h6; exact fun σ5 H5 fm5 er5 fr5 => q σ5 H5 fm5 er5 (nx4 ρ5 fm5 H5 σ5 fr5).2
        | rt d => cases h6; exact q
        | rm d ρ5 => cases h6; exact fun w σ5 H5 fm5 fp5 er5 fr5 => q w σ5 H5 fm5 fp5 er5 (nx4 ρ5 fm5 H5 σ5 fr5).2
      · have e : i = ds.length := by omega
        subst e
        rw [List.drop_length] at e2
        cases e2
        exact .inl ⟨⟨vs, SqL.of A.lst, by rw [len]; exact Nat.le_refl _⟩, q σ2 H2 fm2 er2 fr2⟩
    | _ => cases h2
def backP (i : Nat) (p : List Nat) (n : Nat) (l : Addr) : Out → Out → Prop
  | .nx ρ', o => cleanE ρ' = true ∧ ∃ d', slotO i ρ' = some d' ∧ d'.get p = some (.ptr l) ∧ o = .nx (putD ρ' i (d'.put p (.lst (List.replicate n .unk))))
  | .rt d, o => o = .rt d
  | _, _ => False
open Classical in
noncomputable def sGiveP (i : Nat) (q : FP) (G : D → Ev → Option Ev) (b : FS) : FS := fun ρ => (q ρ).bind fun p => (slotO i ρ).bind fun d => (d.get p).bind fun e => match e with
  | .lst rows => if h : ∃ o, ∀ l, ∃ o', giveF G b rows (putD ρ i (d.put p (.ptr l))) = some o' ∧ backP i p rows.length l o' o then some (Classical.choose h) else none
  | _ => none
open Classical in
theorem sGiveP_of {i : Nat} {q : FP} {b : FS} {ρ : Ev} {p : List Nat} {d : D} {rows : List D} {o : Out} (h1 : q ρ = some p) (h2 : slotO i ρ = some d) (h3 : d.get p = some (.lst rows)) (hF : ∀ l, ∃ o', giveF G b rows (putD ρ i (d.put p (.ptr l))) = some o' ∧ backP i p rows.length l o' o) : sGiveP i q G b ρ = some o := by
  have ex : ∃ o, ∀ l, ∃ o', giveF G b rows (putD ρ i (d.put p (.ptr l))) = some o' ∧ backP i p rows.length l o' o := ⟨o, hF⟩
  unfold sGiveP
  rw [h1, Option.bind_some, h2, Option.bind_some, h3, Option.bind_some]
  show (if h : ∃ o, ∀ l, ∃ o', giveF G b rows (putD ρ i (d.put p (.ptr l))) = some o' ∧ backP i p rows.length l o' o then some (Classical.choose h) else none) = some o
  rw [dif_pos ex]
  obtain ⟨o1, a1, a2⟩ := Classical.choose_spec ex 0
  obtain ⟨o2, b1, b2⟩ := hF 0
  rw [a1] at b1
  cases b1
  congr 1
  cases o1 with
  | nx ρ' =>
    obtain ⟨_, d1, c1, c2, c3⟩ := a2
    obtain ⟨_, d2, e1, e2, e3⟩ := b2
    rw [c1] at e1
    cases e1
    rw [c3, e3]
  | rt d => exact a2.trans b2.symm
  | _ => cases a2
theorem slot_lt {ρ : Ev} {i : Nat} {d : D} (h : odAt ρ i = some d) : i < ρ.length := by
  obtain ⟨x, hx, _, _⟩ := odAt_at h
  exact (List.getElem?_eq_some_iff.mp hx).1
theorem ER.swap {K : PySem.W.Frag} {H0 H : Hp} {σ : L2.St} {ρ : Ev} {fm : Nat → List Addr} (e : ER K H0 H σ ρ fm) {i : Nat} {d d' : D} {v : V} {fp : List Addr} (h : odAt ρ i = some d) (hv : σ[i]? = some (some v)) (r : Rep K H v d' fp) (nd : fp.Nodup) (fr : ∀ a ∈ fp, H0 a = none) (n : ∀ (j : Nat) (x : Sl), j ≠ i → ρ[j]? = some x → x ≠ .no → ∀ a ∈ fp, a ∉ fm j) :
    ER K H0 H σ (putD ρ i d') (fput fm i fp) ∧ ∀ a, Own (putD ρ i d') (fput fm i fp) a → a ∈ fp ∨ ∃ j c, j ≠ i ∧ odAt ρ j = some c ∧ a ∈ fm j := by
  obtain ⟨x, hx, ex, hr⟩ := putD_x (ρ := ρ) (i := i) d'
  have e2 := e.put_x (i := i) (v := v) x hx (fun w c z => by
    obtain ⟨d0, hd0⟩ := hr w c z
    have := e.rfv _ _ _ hd0
    rw [hv] at this
    cases this
    rfl) r nd fr n
  rw [set_self hv] at e2
  rw [ex]
  refine ⟨e2, fun a ⟨j, c, h1, h2⟩ => ?_⟩
  obtain ⟨y, hy, hd, _⟩ := odAt_at h1
  rcases get_set hy with ⟨rfl, _, _⟩ | ⟨ne, q⟩
  · rw [fput_same] at h2; exact .inl h2
  · rw [fput_ne ne] at h2; exact .inr ⟨j, c, ne, odAt_of q hd, h2⟩
theorem atR_of {K : PySem.W.Frag} {H : Hp} : ∀ {p : List Nat} {v : V} {d d' : D} {fp : List Addr}, Rep K H v d fp → d.get p = some d' → ∃ u f', AtR K H v d fp p u d' f'
  | [], v, d, d', fp, r, h => by
    have e : d = d' := by
      have := get_nil' d
      rw [this] at h
      exact Option.some.inj h
    subst e
    exact ⟨v, fp, .nil r⟩
  | k :: p, v, .lst xs, d', fp, r, h => by
    unfold D.get at h
    obtain ⟨e, h1, h2⟩ := bind_some h
    obtain ⟨a, vs, fq, rfl, hl, rl, rfl⟩ := r.asL
    obtain ⟨m1, m2, rfl, rfl⟩ := split_at h1
    obtain ⟨l1, w, l2, f1, f, f2, rfl, r1, rw', r2, rfl⟩ := rl.split
    obtain ⟨u, f', hA⟩ := atR_of rw' h2
    exact ⟨u, f', .lst hl r1 hA r2⟩
  | k :: p, v, .tup xs, d', fp, r, h => by
    unfold D.get at h
    obtain ⟨e, h1, h2⟩ := bind_some h
    obtain ⟨a, vs, rfl, hl, rl⟩ := r.asT
    obtain ⟨m1, m2, rfl, rfl⟩ := split_at h1
    obtain ⟨l1, w, l2, f1, f, f2, rfl, r1, rw', r2, rfl⟩ := rl.split
    obtain ⟨u, f', hA⟩ := atR_of rw' h2
    exact ⟨u, f', .tup hl r1 hA r2⟩
  | _ :: _, _, .non, _, _, _, h => by cases h
  | _ :: _, _, .bl _, _, _, _, h => by cases h
  | _ :: _, _, .int _, _, _, _, h => by cases h
  | _ :: _, _, .str _, _, _, _, h => by cases h
  | _ :: _, _, .ty _, _, _, _, h => by cases h
  | _ :: _, _, .kls _, _, _, _, h => by cases h
  | _ :: _, _, .unk, _, _, _, h => by cases h
  | _ :: _, _, .ptr _, _, _, _, h => by cases h
  | _ :: _, _, .emp, _, _, _, h => by cases h
where get_nil' (d : D) : d.get [] = some d := by cases d <;> (unfold D.get; rfl)
theorem repL_unk {K : PySem.W.Frag} {H : Hp} : ∀ vs : List V, RepL K H vs (List.replicate vs.length .unk) []
  | [] => .nil
  | v :: vs => .cons (fp := []) (fq := []) (.unk v) (repL_unk vs)
open Classical in
theorem ds_giveP {S : List Nat} {i : Nat} {q : FP} (hp : PassesOwn (model X.prog X.w) X.A X.env X.xe) (hc : X.calm = true) (hi : DP X iter i q) (hg : DGO X tg S G) (hb : DSs X body F) (hs : ∀ x, foldedSetIterable iter X.env x = pure x := by intro _; rfl) : DS X (.For tg iter body [] pos) (sGiveP i q G F) :=
  ps_mono (ps_for hp hc (pi_list hi) hg hb hs) fun Dn σ H ⟨H0, ρ, fm, o, er, hf, k⟩ => by
    obtain ⟨p, h1, h2⟩ := bind_some hf
    obtain ⟨d, h3, h4⟩ := bind_some h2
    obtain ⟨e, h5, h6⟩ := bind_some h4
    cases e with
    | lst ds =>
      have h6 : (if h : ∃ o, ∀ l, ∃ o', giveF G F ds (putD ρ i (d.put p (.ptr l))) = some o' ∧ backP i p ds.length l o' o then some (Classical.choose h) else none) = some o := h6
      split at h6
      case isFalse => cases h6
      next ex =>
      have e0 := Option.some.inj h6
      have od := slotO_some h3
      refine ⟨H0, ρ, fm, p, d, er, h1, od, fun u H1 s1 ⟨v, d', f', hv, hA, nd⟩ => ?_⟩
      obtain ⟨rfl, l, vs, rfl, hl⟩ := asL_at hA h5
      obtain ⟨o', g1, g2⟩ := Classical.choose_spec ex l
      rw [e0] at g2
      obtain ⟨l', vs', fq, e3, hl', rl, rfl⟩ := hA.focus.asL
      cases e3
      rw [hl] at hl'
      cases hl'
      obtain ⟨fp', q1, q2, q3, q4, q5⟩ := hA.take (.ptr l) nd
      have er1 := er.mono s1
      obtain ⟨v0, hv0, _, _, fresh⟩ := er1.own i d od
      obtain ⟨erA, owA⟩ := er1.swap od hv q1 q2 (fun a ha => fresh a (q4 a ha).1) fun j x ne hx nx a ha => er1.sepG i j d x (Ne.symm ne) od hx nx a (q4 a ha).1
      have len := rl.len
      have ownOld : ∀ a ∈ l :: fq, Own ρ fm a := fun a ha => ⟨i, d, od, q5 a ha⟩
      have notA : ∀ a ∈ l :: fq, ¬ Own (putD ρ i (d.put p (.ptr l))) (fput fm i fp') a := fun a ha z => by
        rcases owA a z with z | ⟨j, c, ne, z1, z2⟩
        · exact (q4 a z).2 ha
        · exact er1.sepO i j d c (Ne.symm ne) od z1 a (q5 a ha) z2
      have A0 : Anon X.K H0 H ρ fm l vs 0 ds (putD ρ i (d.put p (.ptr l))) (fput fm i fp') H1 fq := ⟨hl, rl, q3, fun a ha => ⟨fresh a (q5 a ha), .inr (ownOld a ha), notA a ha⟩⟩
      have fr0 : Fr H ρ fm H1 (putD ρ i (d.put p (.ptr l))) (fput fm i fp') := Fr.of_same s1 fun b z => by
        rcases owA b z with z | ⟨j, c', ne, z1, z2⟩
        · exact .inl ⟨i, d, od, (q4 b z).1⟩
        · exact .inl ⟨j, c', z1, z2⟩
      have fin : ∀ (ρ2 : Ev) (fm2 : Nat → List Addr) (H2 : Hp) (σ2 : L2.St), o' = .nx ρ2 → ER X.K H0 H2 σ2 ρ2 fm2 → Fr H ρ fm H2 ρ2 fm2 → H2 l = some (.lst vs) → ¬ Own ρ2 fm2 l → Dn.nx σ2 H2 := fun ρ2 fm2 H2 σ2 eo er2 fr2 hl2 nl2 => by
        subst eo
        obtain ⟨cl, d2, b1, b2, b3⟩ := g2
        subst b3
        have od2 := slotO_some b1
        obtain ⟨v2, hv2, r2, nd2, fresh2⟩ := er2.own i d2 od2
        obtain ⟨u2, f2, hA2⟩ := atR_of r2 b2
        have hfo := hA2.focus
        cases hfo
        have r0 : Rep X.K H2 (.ref l) (.lst (List.replicate ds.length .unk)) [l] := .lst hl2 (by rw [← len]; exact repL_unk vs)
        have nil2 : ∀ a ∈ [l], a ∉ fm2 i := fun a ha z => by
          rw [List.mem_singleton.mp ha] at z
          exact nl2 ⟨i, d2, od2, z⟩
        obtain ⟨fp'', c1, c2, c3⟩ := hA2.back r0 rfl (by simp) nd2 nil2
        have hl0 := (A0.fr l List.mem_cons_self).1
        obtain ⟨er3, ow3⟩ := er2.swap od2 hv2 c1 c2 (fun a ha => (c3 a ha).elim (fresh2 a) fun z => by rw [List.mem_singleton.mp z]; exact hl0) fun j x ne hx nx a ha hm => by
          rcases c3 a ha with z | z
          · exact er2.sepG i j d2 x (Ne.symm ne) od2 hx nx a z hm
          · rw [List.mem_singleton.mp z] at hm
            cases x with
            | no => exact nx rfl
            | al e =>
              obtain ⟨w, _, rw'⟩ := er2.al j e hx
              rw [rw'.imm (cleanE_at cl hx)] at hm
              cases hm
            | ow e => exact nl2 ⟨j, e, odAt_ow hx, hm⟩
            | rf w e => exact nl2 ⟨j, e, odAt_rf hx, hm⟩
        refine k σ2 H2 _ er3 ⟨fr2.keep, fun b z => ?_, fr2.dom⟩
        rcases ow3 b z with z | ⟨j, c', ne, z1, z2⟩
        · rcases c3 b z with z | z
          · exact fr2.new b ⟨i, d2, od2, z⟩
          · rw [List.mem_singleton.mp z]
            exact .inl (ownOld l List.mem_cons_self)
        · exact fr2.new b ⟨j, c', z1, z2⟩
      refine ⟨l, rfl, ⟨vs, SqL.of hl⟩, fun n m σ2 H2 => m = ds.length - n ∧ n ≤ ds.length ∧ ∃ ρ2 fm2 fp2, ER X.K H0 H2 σ2 ρ2 fm2 ∧ Fr H ρ fm H2 ρ2 fm2 ∧ Anon X.K H0 H ρ fm l vs n (ds.drop n) ρ2 fm2 H2 fp2 ∧ giveF G F (ds.drop n) ρ2 = some o', ⟨ds.length, by simp, Nat.zero_le _, _, _, fq, erA, fr0, A0, g1⟩, ?_⟩
      rintro n m σ2 H2 ⟨rfl, hi, ρ2, fm2, fp2, er2, fr2, A, e2⟩
      by_cases hlt : n < ds.length
      · have edr : ds.drop n = ds[n] :: ds.drop (n + 1) := (List.drop_eq_getElem_cons hlt)
        rw [edr] at e2 A
        unfold giveF at e2
        by_cases hcl : cleanE ρ2 = true
        case neg => rw [if_neg hcl] at e2; cases e2
        rw [if_pos hcl] at e2
        obtain ⟨ρ3, h3, h4⟩ := bind_some (x := G _ ρ2) e2
        obtain ⟨o1, h5, h6⟩ := bind_some h4
        obtain ⟨x, f, r, hx, rx, _, mine, nxt⟩ := giveF_step A er2 fr2 hcl
        refine .inr ⟨⟨vs, x, SqL.of A.lst, hx⟩, fun σ' H' => ∃ ρ4 fm4 fp4, ER X.K H0 H' σ' ρ4 fm4 ∧ Fr H ρ fm H' ρ4 fm4 ∧ Anon X.K H0 H ρ fm l vs (n + 1) (ds.drop (n + 1)) ρ4 fm4 H' fp4 ∧ giveF G F (ds.drop (n + 1)) ρ4 = some o', fun σ' H' z => ⟨_, by omega, rfl, hlt, z⟩, fun y H3 ⟨y1, y2⟩ => ?_⟩
        subst y1
        have ey := (y2 _ (SqL.of A.lst)).symm.trans hx
        cases ey
        refine ⟨H0, ρ2, fm2, _, f, ρ3, er2, rx, mine, h3, fun σ4 fm4 er4 _ ho4 _ _ => ⟨H0, ρ3, fm4, o1, er4, h5, ?_⟩⟩
        obtain ⟨fr4, nx4⟩ := nxt ρ3 fm4 σ4 ho4 er4
        cases o1 with
        | nx ρ5 => exact fun σ5 H5 fm5 er5 fr5 => ⟨ρ5, fm5, r, er5, (nx4 ρ5 fm5 H5 σ5 fr5).2, (nx4 ρ5 fm5 H5 σ5 fr5).1, h6⟩
        | ct ρ5 => exact fun σ5 H5 fm5 er5 fr5 => ⟨ρ5, fm5, r, er5, (nx4 ρ5 fm5 H5 σ5 fr5).2, (nx4 ρ5 fm5 H5 σ5 fr5).1, h6⟩
        | bk ρ5 => exact fun σ5 H5 fm5 er5 fr5 => fin ρ5 fm5 H5 σ5 (Option.some.inj h6).symm er5 (nx4 ρ5 fm5 H5 σ5 fr5).2 (nx4 ρ5 fm5 H5 σ5 fr5).1.lst ((nx4 ρ5 fm5 H5 σ5 fr5).1.fr l List.mem_cons_self).2.2
        | rt d =>
          cases h6
          have g2 : o = .rt d := g2
          subst g2
          exact k
        | rm d ρ5 => cases h6; cases g2
      · have e : n = ds.length := by omega
        subst e
        rw [List.drop_length] at e2
        exact .inl ⟨⟨vs, SqL.of A.lst, by rw [len]; exact Nat.le_refl _⟩, fin ρ2 fm2 H2 σ2 (Option.some.inj e2).symm er2 fr2 A.lst (A.fr l List.mem_cons_self).2.2⟩
    | _ => cases h6
end
open Classical in
noncomputable def dLenSet : D → Option D := fun d => (d.lsq).bind fun xs => (intsOf xs).bind fun ns => gd (ns.Nodup ∧ ns.length ≤ 4000) (some (.int ns.length))
theorem de_lenSet {X : Cx} {a : Expr} {κ : Kd} {f : FE} {p p2 q pos : Pos} (hg : Gl X "len") (hm : X.mg "len" = none) (hg2 : Gl X "set") (hm2 : X.mg "set" = none) (ha : DE X a κ f) (hc : X.calm = true := by rfl)
    (na : starEach [a] X.env = (false, eval a X.env) :: starEach [] X.env := by rfl) : DE X (.Call (.Name "len" p) [.Call (.Name "set" p2) [a] [] q] [] pos) (.rt []) (f1 dLenSet f) :=
  pe_mono (RZ.pe_lenSetI hg hm hg2 hm2 ha hc na) fun σ H Q ⟨H0, ρ, fm, d, er, hf, k⟩ => by
    obtain ⟨x, h1, h2⟩ := bind_some hf
    obtain ⟨xs, h3, h4⟩ := bind_some h2
    obtain ⟨ns, h5, h6⟩ := bind_some h4
    obtain ⟨⟨n1, n2⟩, h6⟩ := gds h6
    cases h6
    refine ⟨H0, ρ, fm, x, er, h1, fun v H1 fp s1 r1 k1 => ?_⟩
    obtain ⟨l, vs, fq, rfl, hs, rl, _⟩ := r1.lsq h3
    refine ⟨l, ns, rfl, ?_, n1, n2, k _ H1 [] s1 (.int _) Kd.ok_nil⟩
    rw [← intsOf_rep rl h5]
    exact hs.sq
end Z
namespace Z
open PySem PySem.Spec PyProof.Rows L2
def fFrz (i : Nat) (f : FE) : FE := fun ρ => f (frz i ρ)
theorem de_frz {X : Cx} {e : Expr} {f : FE} (i : Nat) (h : DE X e (.rt []) f) : DE X e (.rt []) (fFrz i f) := pe_mono h fun σ H Q ⟨H0, ρ, fm, d, er, hf, k⟩ =>
  ⟨H0, frz i ρ, fm, d, er.frz, hf, fun v H' fp s r ko => k v H' fp s r ⟨ko.1, fun a ha => (ko.2 a ha).elim .inl fun ⟨_, z, _⟩ => nomatch z⟩⟩
def Out.wipe (S : List Nat) : Out → Out
  | .nx ρ => .nx (wipeD ρ S)
  | .bk ρ => .bk (wipeD ρ S)
  | .ct ρ => .ct (wipeD ρ S)
  | .rt d => .rt d
  | .rm d ρ => .rm d ρ
def sWipeE (S : List Nat) (F : FS) : FS := fun ρ => (F ρ).bind fun o => some (o.wipe S)
theorem ds_wipeE {X : Cx} {st : Stmt} {F : FS} (S : List Nat) (h : DS X st F) : DS X st (sWipeE S F) := ps_mono h fun Dn σ H ⟨H0, ρ, fm, o, er, hf, q⟩ => by
  obtain ⟨o1, h1, h2⟩ := bind_some hf
  cases h2
  refine ⟨H0, ρ, fm, o1, er, h1, ?_⟩
  have fr : ∀ {H' : Hp} {ρ' : Ev} {fm' : Nat → List Addr}, Fr H ρ fm H' ρ' fm' → Fr H ρ fm H' (wipeD ρ' S) fm' := fun f => ⟨f.keep, fun b z => f.new b (own_sub wipeD_sub z), f.dom⟩
  cases o1 with
  | nx ρ' => exact fun σ' H' fm' er' f => q σ' H' fm' (er'.sub (wipeD_len S) wipeD_sub) (fr f)
  | bk ρ' => exact fun σ' H' fm' er' f => q σ' H' fm' (er'.sub (wipeD_len S) wipeD_sub) (fr f)
  | ct ρ' => exact fun σ' H' fm' er' f => q σ' H' fm' (er'.sub (wipeD_len S) wipeD_sub) (fr f)
  | rt d => exact q
  | rm d ρ' => exact q
theorem ds_asgO {X : Cx} {e tg : Expr} {f : FE} {pos : Pos} {S : List Nat} {G : D → Ev → Option Ev} (he : DE X e (.rt []) f) (hg : DGO X tg S G) (hs : swapsWithSole [tg] e pos.line X.env = pure false := by rfl) (hw : swappedStores [tg] e X.env = pure none := by rfl)
    (h1 : (assignEach [tg] X.env).map (·.2) = [assign tg X.env] := by rfl) : DS X (.Assign [tg] e pos) (sAsg f G) := ps_mono (ps_asg he hg hs hw h1) fun Dn σ H ⟨H0, ρ, fm, o, er, hf, q⟩ => by
  obtain ⟨d, h1, h2⟩ := bind_some hf
  obtain ⟨ρ', h3, h4⟩ := bind_some h2
  cases h4
  refine ⟨H0, ρ, fm, d, er, h1, fun v H1 fp s1 r1 k1 => ?_⟩
  have fr : ∀ a ∈ fp, H a = none := fun a ha => (k1.2 a ha).elim id fun ⟨_, z, _⟩ => nomatch z
  refine ⟨H0, ρ, fm, d, fp, ρ', er.mono s1, r1, ⟨k1.1, fun a ha => ⟨er.same.free (fr a ha), fun j x hx nx hm => ?_⟩⟩, h3, fun σ' fm' er' _ ho _ _ => q σ' H1 fm' er' (Fr.of_same s1 fun b z => (ho b z).imp id (fr b))⟩
  obtain ⟨vs, q⟩ := er.slotLs hx nx hm
  rw [fr a ha] at q; cases q
end Z
namespace Z
open PySem PySem.Spec PyProof.Rows L2
def sListMove (j i : Nat) : FS := fun ρ => (slotO i ρ).bind fun d => match d with
  | .lst rows => some (.nx ((putD ρ i (.lst (List.replicate rows.length .unk))).set j (.ow (.lst rows))))
  | _ => none
theorem ds_listMove {X : Cx} (j i : Nat) {x y : Str} {pos pos' cpos p p2 : Pos} (hij : i ≠ j) (hN : X.N.Nodup) (hg : Gl X "list") (hm : X.mg "list" = none) (hv : bootBuiltins ("list" : Str) = some (.type "list"))
    (hj : X.N[j]? = some x := by rfl) (hi : X.N[i]? = some y := by rfl) (hx : Loc X.env.scope x := by first | exact Or.inl rfl | exact Or.inr rfl) (hy : Vis X.env.scope y := by first | exact Or.inl rfl | exact Or.inr (Or.inl rfl) | exact Or.inr (Or.inr rfl))
    (hd : (y == ("__debug__" : Str)) = false := by decide) (hcd : (y == ("__classdict__" : Str)) = false := by decide)
    (he : starEach [.Name y p2] X.env = (false, eval (.Name y p2) X.env) :: starEach [] X.env := by rfl) (hpl : (backTo cpos (starEach [] X.env)).any (·.1) = false := by rfl)
    (hs : swapsWith (.Call (.Name "list" p) [.Name y p2] [] cpos) (some (.Name x pos')) pos.line X.env = pure false := by rfl) (hf : X.fn x = true ∨ X.env.scope.names.lookup x = some .local := by first | exact .inl rfl | exact .inr rfl | assumption) :
    DS X (.Assign [.Name x pos'] (.Call (.Name "list" p) [.Name y p2] [] cpos) pos) (sListMove j i) :=
  ps_mono (ps_set hN hj hx (pe_callTy call_list_of hg hm hv (pa_cons (pe_var (i := i) hi hy hd hcd) pa_nil he) (by decide) (by decide) he hpl) hs hf) fun Dn σ H ⟨H0, ρ, fm, o, er, hf, q⟩ => by
    obtain ⟨d, h1, h2⟩ := bind_some hf
    cases d with
    | lst rows =>
      cases h2
      have od := slotO_some h1
      obtain ⟨v, hv', r, nd, fr⟩ := er.own i _ od
      obtain ⟨a, vs, fq, rfl, hl, rl, hfp⟩ := r.asL
      rw [hfp] at nd fr
      obtain ⟨na, nq⟩ := List.nodup_cons.mp nd
      refine ⟨.ref a, hv', a, vs, rfl, .inl (SqL.of hl), fun l hl0 => ?_⟩
      have r1 : Rep X.K H (.ref a) (.lst (List.replicate rows.length .unk)) [a] := .lst hl (by rw [← rl.len]; exact repL_unk vs)
      obtain ⟨e1, ow1⟩ := er.swap od hv' r1 (by simp) (fun b hb => by rw [List.mem_singleton.mp hb]; exact fr a List.mem_cons_self) fun k z ne hz nz b hb hm => by
        rw [List.mem_singleton.mp hb] at hm
        exact er.sepG i k _ z (Ne.symm ne) od hz nz a (by rw [hfp]; exact List.mem_cons_self) hm
      have e2 := e1.mono (same_upd (o := .lst vs) hl0)
      have lin : l ∉ fq := fun z => by
        obtain ⟨w, t⟩ := rl.trk l z
        rw [hl0] at t; cases t
      obtain ⟨X0, hX0, eX0, _⟩ := putD_x (ρ := ρ) (i := i) (.lst (List.replicate rows.length .unk))
      have e3 := e2.put_ow (i := j) (v := .ref l) (d := .lst rows) (fp := l :: fq) (.lst upd_same (rl.same (same_upd hl0))) (List.nodup_cons.mpr ⟨lin, nq⟩) (fun b hb => (List.mem_cons.mp hb).elim (fun z => by rw [z]; exact er.same.free hl0) fun z => fr b (List.mem_cons_of_mem _ z)) fun k z ne hz nz b hb hm => by
        rw [eX0] at hz
        rcases get_set hz with ⟨rfl, _, _⟩ | ⟨ne2, hz⟩
        · rw [fput_same] at hm
          rw [List.mem_singleton.mp hm] at hb
          rcases List.mem_cons.mp hb with z | z
          · rw [z, hl0] at hl; cases hl
          · exact na z
        · rw [fput_ne ne2] at hm
          rcases List.mem_cons.mp hb with z | z
          · obtain ⟨w, t⟩ := er.slotLs hz nz hm
            rw [z, hl0] at t; cases t
          · exact er.sepG i k _ _ (Ne.symm ne2) od hz nz b (by rw [hfp]; exact List.mem_cons_of_mem _ z) hm
      refine q _ _ _ e3 ⟨fun b o e n => same_upd hl0 b o e, fun b z => ?_, fun b z => (same_upd hl0).free z⟩
      rcases own_put_ow z with z | z
      · rcases List.mem_cons.mp z with rfl | z
        · exact .inr hl0
        · exact .inl ⟨i, _, od, by rw [hfp]; exact List.mem_cons_of_mem _ z⟩
      · rcases ow1 b z with z | ⟨k, c, ne, z1, z2⟩
        · rw [List.mem_singleton.mp z]
          exact .inl ⟨i, _, od, by rw [hfp]; exact List.mem_cons_self⟩
        · exact .inl ⟨k, c, z1, z2⟩
    | _ => cases h2
end Z
namespace Z
open PySem PySem.Spec PyProof.Rows L2
theorem ds_comp_owF {X : Cx} {elt tg iter : Expr} {ifs : List Expr} {scope : Scope} {own : List (Str × Nat)} {pos : Pos} {g : Ev → Option (List D)} {G : D → Ev → Option Ev} {S : List Nat} {c : Ev → Option Bool} {f : FE} (φ : Ev → Ev) (hφ : ∀ {K : PySem.W.Frag} {H0 H : Hp} {σ : L2.St} {ρ : Ev} {fm : Nat → List Addr}, ER K H0 H σ ρ fm → ER K H0 H σ (φ ρ) fm)
    (i : Nat) {y : Str} {py spos : Pos} (hc : X.calm = true) (hN : X.N.Nodup) (hi : DI X tg iter g) (ok : BlkOk X.N X.env.scope scope own) (hS : ∀ i ∈ S, i ∈ own.map (·.2))
    (hg : ∀ (s : Shared) (H : Hp) (C : Addr) (cl : List (Str × Addr)) (fp : List Addr), DG (X.blk s H scope (compEnvC scope cl C X.env) fp) tg S G) (ht : ∀ (s : Shared) (H : Hp) (C : Addr) (cl : List (Str × Addr)) (fp : List Addr), DTs (X.blk s H scope (compEnvC scope cl C X.env) fp) ifs c)
    (he : ∀ (s : Shared) (H : Hp) (C : Addr) (cl : List (Str × Addr)) (fp : List Addr), DE (X.blk s H scope (compEnvC scope cl C X.env) fp) elt (.rt []) f)
    (hsw : swapsWith (.ListComp elt [⟨tg, iter, ifs, 0⟩] scope pos) (some (.Name y py)) spos.line X.env = pure true := by exact sw_true rfl rfl rfl (by decide +kernel)) (hy : X.N[i]? = some y := by rfl) (hyl : X.env.scope.names.lookup y = some .local := by rfl) (hs : ∀ x, foldedSetIterable iter X.env x = pure x := by intro _; rfl) :
    DS X (.Assign [.Name y py] (.ListComp elt [⟨tg, iter, ifs, 0⟩] scope pos) spos) (sOw i [] (fun ρ => fComp g G c f (own.map (·.2)) (φ ρ))) :=
  ps_mono (ps_setLc hc hN hy hyl hsw hi ok hg ht he hs) fun Dn σ H h => by
    obtain ⟨H0, ρ, fm, o, er, hf, q⟩ := h
    obtain ⟨d, h1, h2⟩ := bind_some hf
    cases h2
    exact t_comp hS ⟨H0, φ ρ, fm, d, hφ er, h1, fun v H1 fp s1 r1 k1 => asg_ow_at er r1 s1 ⟨k1.1, fun a ha => (k1.2 a ha).elim .inl fun ⟨_, z, _⟩ => nomatch z⟩ q⟩
end Z
namespace Z
open PySem PySem.Spec PyProof.Rows L2
theorem ds_comp_alF {X : Cx} {elt tg iter : Expr} {ifs : List Expr} {scope : Scope} {own : List (Str × Nat)} {pos : Pos} {g : Ev → Option (List D)} {G : D → Ev → Option Ev} {S : List Nat} {c : Ev → Option Bool} {f : FE} (φ : Ev → Ev) (hφ : ∀ {K : PySem.W.Frag} {H0 H : Hp} {σ : L2.St} {ρ : Ev} {fm : Nat → List Addr}, ER K H0 H σ ρ fm → ER K H0 H σ (φ ρ) fm)
    (i : Nat) {y : Str} {py spos : Pos} (hc : X.calm = true) (hN : X.N.Nodup) (hi : DI X tg iter g) (ok : BlkOk X.N X.env.scope scope own) (hS : ∀ i ∈ S, i ∈ own.map (·.2))
    (hg : ∀ (s : Shared) (H : Hp) (C : Addr) (cl : List (Str × Addr)) (fp : List Addr), DG (X.blk s H scope (compEnvC scope cl C X.env) fp) tg S G) (ht : ∀ (s : Shared) (H : Hp) (C : Addr) (cl : List (Str × Addr)) (fp : List Addr), DTs (X.blk s H scope (compEnvC scope cl C X.env) fp) ifs c)
    (he : ∀ (s : Shared) (H : Hp) (C : Addr) (cl : List (Str × Addr)) (fp : List Addr), DE (X.blk s H scope (compEnvC scope cl C X.env) fp) elt (.rt []) f)
    (hsw : swapsWith (.ListComp elt [⟨tg, iter, ifs, 0⟩] scope pos) (some (.Name y py)) spos.line X.env = pure true := by exact sw_true rfl rfl rfl (by decide +kernel)) (hy : X.N[i]? = some y := by rfl) (hyl : X.env.scope.names.lookup y = some .local := by rfl) (hs : ∀ x, foldedSetIterable iter X.env x = pure x := by intro _; rfl) :
    DS X (.Assign [.Name y py] (.ListComp elt [⟨tg, iter, ifs, 0⟩] scope pos) spos) (sAl i (fun ρ => fComp g G c f (own.map (·.2)) (φ ρ))) :=
  ps_mono (ps_setLc hc hN hy hyl hsw hi ok hg ht he hs) fun Dn σ H h => by
    obtain ⟨H0, ρ, fm, o, er, hf, q⟩ := h
    obtain ⟨d, h1, h2⟩ := bind_some hf
    cases h2
    refine t_comp hS ⟨H0, φ ρ, fm, d, hφ er, h1, fun v H1 fp s1 r1 k1 => asg_al_at er r1 s1 (fun a ha z => ?_) q⟩
    exact not_own_of_none er ((k1.2 a ha).elim id fun ⟨_, y, _⟩ => nomatch y) z
end Z
namespace Z
open PySem PySem.Spec PyProof.Rows L2
mutual
def D.fz : D → D
  | .lst xs => .kls (D.fzL xs)
  | .kls xs => .kls (D.fzL xs)
  | .tup xs => .tup (D.fzL xs)
  | .non => .non
  | .bl b => .bl b
  | .int i => .int i
  | .str x => .str x
  | .ty n => .ty n
  | .unk => .unk
  | .ptr a => .ptr a
  | .emp => .emp
def D.fzL : List D → List D
  | [] => []
  | x :: xs => x.fz :: D.fzL xs
end
mutual
theorem D.fz_imm : ∀ d : D, d.fz.imm = true
  | .lst xs => by rw [D.fz, D.imm]; exact D.fzL_imm xs
  | .kls xs => by rw [D.fz, D.imm]; exact D.fzL_imm xs
  | .tup xs => by rw [D.fz, D.imm]; exact D.fzL_imm xs
  | .non => by rw [D.fz]; rfl
  | .bl b => by rw [D.fz]; rfl
  | .int i => by rw [D.fz]; rfl
  | .str x => by rw [D.fz]; rfl
  | .ty n => by rw [D.fz]; rfl
  | .unk => by rw [D.fz]; rfl
  | .ptr a => by rw [D.fz]; rfl
  | .emp => by rw [D.fz]; rfl
theorem D.fzL_imm : ∀ xs : List D, D.immL (D.fzL xs) = true
  | [] => by rw [D.fzL, D.immL]
  | x :: xs => by rw [D.fzL, D.immL, D.fz_imm x, D.fzL_imm xs]; rfl
end
section
variable {X : Cx} {pins : List (Addr × Obj)} {σ : L2.St} {H : Hp} {s : Shared}
theorem Inv.frz {a : Addr} {xs : List V} (I : Inv X pins σ H s) (h : H a = some (.lst xs)) : ∃ o, Inv X pins σ (upd H a (.frz o (.lst xs))) s := by
  obtain ⟨z, its, n, r, e⟩ := I.hok a _ h
  refine ⟨{ cls := .type "list", data := .seq its.toArray n }, ?_⟩
  have ne : ∀ {b : Addr} {o : Option HO}, H b = o → o ≠ some (.lst xs) → b ≠ a := fun {b o} q w y => by
    rw [y, h] at q
    exact w q.symm
  exact I.step (h' := s.heap) (g' := s.gens) (d' := s.drawn) (t' := s.toks) (ch := []) (fun _ z => nomatch z) (fun b o _ _ _ q _ => q) (fun b o _ _ _ q _ => ⟨o.slots, q⟩)
    (fun b o _ q w => by rw [upd_ne (ne w (fun z => nomatch z))]; exact w) (fun b o _ q => ⟨o, q⟩)
    (fun b ys q => by rw [upd_ne (ne q (fun z => nomatch z))]; exact q) (fun b o u q => by rw [upd_ne (ne q (fun z => nomatch z))]; exact q) (fun b ps q => ⟨#[], by rw [upd_ne (ne q (fun z => nomatch z)), q]; simp⟩)
    (fun m q => q) (fun b u q => by
      by_cases hb : b = a
      · subst hb
        rw [upd_same] at q
        cases q
        exact ⟨e, z, its, n, r, e⟩
      · rw [upd_ne hb] at q
        refine (I.hok b u q).stay (fun c w _ q => q) (fun c w => ?_) fun c ys w => ?_
        · rw [upd_ne (ne w (fun z => nomatch z))]; exact w
        · rw [upd_ne (ne w (fun z => nomatch z))]; exact w) I.bare
end
def Fast (O : Addr → Prop) (H H' : Hp) : Prop := ∀ b, H' b = H b ∨ (O b ∧ ∃ vs o, H b = some (.lst vs) ∧ H' b = some (.frz o (.lst vs)))
theorem ps_fast {X : Cx} {st : Stmt} {t : TS} (h : PS X st t) : ∀ (l : List Addr), l.Nodup → PS X st (fun Dn σ H => (∀ a ∈ l, IsLs H a) ∧ ∀ H', Fast (· ∈ l) H H' → (∀ a ∈ l, ∃ vs o, H a = some (.lst vs) ∧ H' a = some (.frz o (.lst vs))) → t Dn σ H')
  | [], _ => ps_mono h fun Dn σ H ⟨_, k⟩ => k H (fun b => .inl rfl) (fun _ z => nomatch z)
  | a :: l, nd => by
    obtain ⟨na, nl⟩ := List.nodup_cons.mp nd
    have ih := ps_fast h l nl
    refine ⟨fun pins s σ H D I q => ?_⟩
    obtain ⟨ql, k⟩ := q
    obtain ⟨xs, hx⟩ := ql a List.mem_cons_self
    obtain ⟨o, I'⟩ := Inv.frz I hx
    refine ih.run pins s σ _ D I' ⟨fun b hb => ?_, fun H' f1 f2 => k H' (fun b => ?_) fun b hb => ?_⟩
    · obtain ⟨ys, hy⟩ := ql b (List.mem_cons_of_mem _ hb)
      have ne : b ≠ a := fun z => na (z ▸ hb)
      exact ⟨ys, by rw [upd_ne ne]; exact hy⟩
    · rcases f1 b with z | ⟨z1, vs, o', z2, z3⟩
      · by_cases hb : b = a
        · subst hb
          rw [upd_same] at z
          exact .inr ⟨List.mem_cons_self, xs, o, hx, z⟩
        · rw [upd_ne hb] at z; exact .inl z
      · have ne : b ≠ a := fun z => na (z ▸ z1)
        rw [upd_ne ne] at z2
        exact .inr ⟨List.mem_cons_of_mem _ z1, vs, o', z2, z3⟩
    · rcases List.mem_cons.mp hb with rfl | hb
      · rcases f1 b with z | ⟨z1, _⟩
        · rw [upd_same] at z; exact ⟨xs, o, hx, z⟩
        · exact absurd z1 na
      · obtain ⟨vs, o', z1, z2⟩ := f2 b hb
        have ne : b ≠ a := fun z => na (z ▸ hb)
        rw [upd_ne ne] at z1
        exact ⟨vs, o', z1, z2⟩
section
variable {K : PySem.W.Frag} {H0 H H' : Hp} {σ : L2.St} {ρ : Ev} {fm : Nat → List Addr} {O : Addr → Prop}
theorem Fast.stab (f : Fast O H H') : Stab O H H' := fun b o e n => (f b).elim (fun z => z.trans e) fun z => absurd z.1 n
theorem knw_fast {a : Addr} {vs : List V} (f : Fast O H H') (h : Knw K H a vs) : Knw K H' a vs := by
  rcases h with ⟨o, h⟩ | h
  · refine .inl ⟨o, ?_⟩
    rcases f a with z | ⟨_, ws, o', z, _⟩
    · rw [z]; exact h
    · rw [h] at z; cases z
  · exact .inr h
theorem sqT_fast {a : Addr} {vs : List V} (f : Fast O H H') (h : SqT K H a vs) : SqT K H' a vs := by
  have go : ∀ {o : HO}, H a = some o → (∀ ws, o ≠ .lst ws) → H' a = some o := fun {o} e n => by
    rcases f a with z | ⟨_, ws, o', z, _⟩
    · rw [z]; exact e
    · rw [e] at z; cases z; exact absurd rfl (n ws)
  rcases h with (h | ⟨o, h⟩) | h
  · exact .inl (.inl (go h (fun _ z => nomatch z)))
  · exact .inl (.inr ⟨o, go h (fun _ z => nomatch z)⟩)
  · exact .inr h
mutual
theorem Rep.fz (f : Fast O H H') : ∀ {v : V} {d : D} {fp : List Addr}, Rep K H v d fp → (∀ a ∈ fp, ∃ vs o, H a = some (.lst vs) ∧ H' a = some (.frz o (.lst vs))) → Rep K H' v d.fz []
  | _, _, _, .non, _ => by rw [D.fz]; exact .non
  | _, _, _, .bl b, _ => by rw [D.fz]; exact .bl b
  | _, _, _, .int i, _ => by rw [D.fz]; exact .int i
  | _, _, _, .str i, _ => by rw [D.fz]; exact .str i
  | _, _, _, .ty i, _ => by rw [D.fz]; exact .ty i
  | _, _, _, .tup h r, q => by rw [D.fz]; exact .tup (sqT_fast f h) (RepL.fz f r q)
  | _, _, _, .lst (a := a) h r, q => by
    rw [D.fz]
    obtain ⟨vs, o, e1, e2⟩ := q a List.mem_cons_self
    rw [h] at e1
    cases e1
    exact .knw (.inl ⟨o, e2⟩) (RepL.fz f r fun b hb => q b (List.mem_cons_of_mem _ hb))
  | _, _, _, .knw h r, q => by rw [D.fz]; exact .knw (knw_fast f h) (RepL.fz f r q)
  | _, _, _, .unk v, _ => by rw [D.fz]; exact .unk v
  | _, _, _, .ptr v, _ => by rw [D.fz]; exact .ptr v
  | _, _, _, .emp h, q => by rw [D.fz]; exact .emp ((f _).elim (fun z => z.trans h) fun ⟨_, vs, o, e, _⟩ => by rw [h] at e; cases e)
theorem RepL.fz (f : Fast O H H') : ∀ {vs : List V} {ds : List D} {fp : List Addr}, RepL K H vs ds fp → (∀ a ∈ fp, ∃ vs o, H a = some (.lst vs) ∧ H' a = some (.frz o (.lst vs))) → RepL K H' vs (D.fzL ds) []
  | _, _, _, .nil, _ => by rw [D.fzL]; exact .nil
  | _, _, _, .cons h r, q => by
    rw [D.fzL]
    exact .cons (fp := []) (fq := []) (Rep.fz f h fun b hb => q b (List.mem_append_left _ hb)) (RepL.fz f r fun b hb => q b (List.mem_append_right _ hb))
end
def fzE (i : Nat) (ρ : Ev) : Ev := match ρ[i]? with
  | some (.ow d) => ρ.set i (.al d.fz)
  | _ => ρ
end
def sFz (i : Nat) (F : FS) : FS := fun ρ => F (fzE i ρ)
theorem ps_ex {α : Type} {X : Cx} {st : Stmt} {t : α → TS} (h : ∀ a, PS X st (t a)) : PS X st (fun Dn σ H => ∃ a, t a Dn σ H) := ⟨fun pins s σ H D I ⟨a, q⟩ => (h a).run pins s σ H D I q⟩
theorem ps_ex' {α : Type} {P : α → Prop} {X : Cx} {st : Stmt} {t : α → TS} (h : ∀ a, P a → PS X st (t a)) : PS X st (fun Dn σ H => ∃ a, P a ∧ t a Dn σ H) := ⟨fun pins s σ H D I ⟨a, p, q⟩ => (h a p).run pins s σ H D I q⟩
theorem ds_fz {X : Cx} {st : Stmt} {F : FS} (i : Nat) (h : DS X st F) : DS X st (sFz i F) :=
  ps_mono (ps_ex' (P := List.Nodup) fun l nd => ps_fast h l nd) fun Dn σ H ⟨H0, ρ, fm, o, er, hf, q⟩ => by
    have same : fzE i ρ = ρ → ∃ l : List Addr, l.Nodup ∧ ((∀ a ∈ l, IsLs H a) ∧ ∀ H', Fast (· ∈ l) H H' → (∀ a ∈ l, ∃ vs o, H a = some (.lst vs) ∧ H' a = some (.frz o (.lst vs))) → tS X.K F Dn σ H') := fun e => by
      have hf : F (fzE i ρ) = some o := hf
      rw [e] at hf
      refine ⟨[], List.nodup_nil, (fun _ z => nomatch z), fun H' f1 _ => ?_⟩
      have : H' = H := by
        funext b
        rcases f1 b with z | ⟨z, _⟩
        · exact z
        · cases z
      subst this
      exact ⟨H0, ρ, fm, o, er, hf, q⟩
    cases e : ρ[i]? with
    | none => exact same (by unfold fzE; rw [e])
    | some x =>
      cases x with
      | no => exact same (by unfold fzE; rw [e])
      | al d => exact same (by unfold fzE; rw [e])
      | rf w d => exact same (by unfold fzE; rw [e])
      | ow d =>
        obtain ⟨v, hv, r, nd, fr⟩ := er.ow i d e
        refine ⟨fm i, nd, r.trk, fun H' f1 f2 => ?_⟩
        have ee : fzE i ρ = ρ.set i (.al d.fz) := by unfold fzE; rw [e]
        have hf : F (fzE i ρ) = some o := hf
        rw [ee] at hf
        have er1 : ER X.K H0 H' σ (ρ.set i .no) fm := by
          refine (er.sub (ρ' := ρ.set i .no) (by rw [List.length_set]) fun j y hy => ?_).heap (O := (· ∈ fm i)) (fun b hb => r.trk b hb) f1.stab (fun j y hy ny a ha hb => ?_) fr
          · rcases get_set hy with ⟨_, _, z⟩ | ⟨_, z⟩
            · exact .inl z
            · exact .inr z
          · rcases get_set hy with ⟨_, _, z⟩ | ⟨ne, z⟩
            · exact ny z
            · exact er.sep i j d y (Ne.symm ne) e z ny a hb ha
        have er2 := er1.put_al (i := i) (v := v) (Rep.fz f1 r f2) (fun _ z => nomatch z)
        rw [set_self hv, List.set_set] at er2
        refine ⟨H0, _, _, o, er2, hf, q.seq _ ⟨fun b u eb n => f1.stab b u eb fun z => n ⟨i, d, odAt_ow e, z⟩, fun b z => ?_, fun b z => ?_⟩⟩
        · have z2 : Own ((ρ.set i .no).set i (.al d.fz)) (fput fm i []) b := by rw [List.set_set]; exact z
          have z3 := own_put_al z2
          refine .inl (own_sub (fun j y hy => ?_) z3)
          rcases get_set hy with ⟨_, _, w⟩ | ⟨_, w⟩
          · exact .inl w
          · exact .inr w
        · rcases f1 b with w | ⟨_, vs, o', w1, w2⟩
          · rw [← w]; exact z
          · rw [w2] at z; cases z
end Z
namespace Z
open PySem PySem.Spec PyProof.Rows L2
theorem invs_fast {X : Cx} {pins : List (Addr × Obj)} {σ : L2.St} {s : Shared} : ∀ (l : List Addr) {H : Hp}, l.Nodup → (∀ a ∈ l, IsLs H a) → Inv X pins σ H s → ∃ H2, Inv X pins σ H2 s ∧ Fast (· ∈ l) H H2 ∧ ∀ a ∈ l, ∃ vs o, H a = some (.lst vs) ∧ H2 a = some (.frz o (.lst vs))
  | [], H, _, _, I => ⟨H, I, (fun _ => .inl rfl), fun _ z => nomatch z⟩
  | a :: l, H, nd, hl, I => by
    obtain ⟨na, nl⟩ := List.nodup_cons.mp nd
    obtain ⟨xs, hx⟩ := hl a List.mem_cons_self
    obtain ⟨o, I'⟩ := Inv.frz I hx
    obtain ⟨H2, I2, f1, f2⟩ := invs_fast l nl (fun b hb => by
      obtain ⟨ys, hy⟩ := hl b (List.mem_cons_of_mem _ hb)
      have ne : b ≠ a := fun z => na (z ▸ hb)
      exact ⟨ys, by rw [upd_ne ne]; exact hy⟩) I'
    refine ⟨H2, I2, fun b => ?_, fun b hb => ?_⟩
    · rcases f1 b with z | ⟨z1, vs, o', z2, z3⟩
      · by_cases hb : b = a
        · subst hb
          rw [upd_same] at z
          exact .inr ⟨List.mem_cons_self, xs, o, hx, z⟩
        · rw [upd_ne hb] at z; exact .inl z
      · have ne : b ≠ a := fun z => na (z ▸ z1)
        rw [upd_ne ne] at z2
        exact .inr ⟨List.mem_cons_of_mem _ z1, vs, o', z2, z3⟩
    · rcases List.mem_cons.mp hb with rfl | hb
      · rcases f1 b with z | ⟨z1, _⟩
        · rw [upd_same] at z; exact ⟨xs, o, hx, z⟩
        · exact absurd z1 na
      · obtain ⟨vs, o', z1, z2⟩ := f2 b hb
        have ne : b ≠ a := fun z => na (z ▸ hb)
        rw [upd_ne ne] at z1
        exact ⟨vs, o', z1, z2⟩
theorem pe_fast {X : Cx} {e : Expr} {t : TE} (h : PE X e t) : PE X e (fun σ H Q => t σ H fun x H1 => ∃ l : List Addr, l.Nodup ∧ (∀ a ∈ l, IsLs H1 a) ∧ ∀ H2, Fast (· ∈ l) H1 H2 → (∀ a ∈ l, ∃ vs o, H1 a = some (.lst vs) ∧ H2 a = some (.frz o (.lst vs))) → Q x H2) :=
  ⟨fun pins s σ H Q I q => thn (h.run pins s σ H _ I q) fun v s1 ⟨x, H1, I1, r, l, nd, hl, k⟩ => by
    obtain ⟨H2, I2, f1, f2⟩ := invs_fast l nd hl I1
    exact ⟨x, H2, I2, r, k H2 f1 f2⟩⟩
def fFz (f : FE) : FE := fun ρ => (f ρ).bind fun d => some d.fz
theorem de_fz {X : Cx} {e : Expr} {f : FE} (h : DE X e (.rt []) f) : DE X e (.rt []) (fFz f) := pe_mono (pe_fast h) fun σ H Q ⟨H0, ρ, fm, d', er, hf, k⟩ => by
  obtain ⟨d, h1, h2⟩ := bind_some hf
  cases h2
  refine ⟨H0, ρ, fm, d, er, h1, fun v H1 fp s1 r1 k1 => ⟨fp, k1.1, r1.trk, fun H2 f1 f2 => k v H2 [] (fun b o e => ?_) (Rep.fz f1 r1 f2) Kd.ok_nil⟩⟩
  rcases f1 b with z | ⟨z, _⟩
  · rw [z]; exact s1 b o e
  · rcases k1.2 b z with y | ⟨_, y, _⟩
    · rw [y] at e; cases e
    · cases y
end Z
namespace Z
open PySem PySem.Spec PyProof.Rows L2
def obsZ (chk : PySem.W.Frag → Bool) (fn : List He.DefD) (K : PySem.W.Frag) : He.AlD := (chk K && fn.all fun d => d.ok K, fn.map fun d => He.fnW K d.at_)
def SaysZ (chk : PySem.W.Frag → Bool) (fn : List He.DefD) (K : PySem.W.Frag) : Prop := obsZ chk fn K = He.valD fn
def obsZG (n : Nat) (chk : PySem.W.Frag → Bool) (fn : List He.DefD) (g : Addr → Option Obj) : He.AlD := obsZ chk fn (He.frG g (He.asD g n))
def hookZ (n : Nat) (chk : PySem.W.Frag → Bool) (fn : List He.DefD) : PySem.W.Hook where
  α := He.AlD
  obs := fun s => obsZG n chk fn s.heap.get?
  val := fun _ => He.valD fn
  says := fun _ h => ∃ K : PySem.W.Frag, K.In h ∧ SaysZ chk fn K
  of := fun _ _ e => ⟨_, He.frG_in, e⟩
  keeps := fun _ _ _ ⟨K, hK, c⟩ k => ⟨K, PySem.W.Frag.In.keeps hK k, c⟩
theorem obsZG_eq {n : Nat} {chk : PySem.W.Frag → Bool} {fn : List He.DefD} {g : Addr → Option Obj} {s : Shared} (h : ∀ a, g a = s.heap.get? a) : obsZG n chk fn g = (hookZ n chk fn).obs s := by
  have e : g = s.heap.get? := funext h
  rw [e] <;> rfl
section
variable {chk : PySem.W.Frag → Bool} {fn : List He.DefD} {K : PySem.W.Frag}
theorem SaysZ.chkd (c : SaysZ chk fn K) : chk K = true := (He.ba (show (chk K && fn.all fun d => d.ok K) = true from congrArg (fun z : He.AlD => z.1) c)).1
theorem SaysZ.def_ (c : SaysZ chk fn K) (i : Nat) {d : He.DefD} (h : fn[i]? = some d := by rfl) : ∃ fd, FunD K d.name d.qual d.params d.body d.scope (d.dvs K) (d.kws K) (He.fAd K d.at_) fd := by
  have c2 := (He.ba (show (chk K && fn.all fun d => d.ok K) = true from congrArg (fun z : He.AlD => z.1) c)).2
  have e : fn.map (fun d => He.fnW K d.at_) = fn.map He.DefD.val := congrArg (fun z : He.AlD => z.2) c
  have e2 : (fn.map fun d => He.fnW K d.at_)[i]? = (fn.map He.DefD.val)[i]? := by rw [e]
  rw [List.getElem?_map, List.getElem?_map, h] at e2
  exact He.DefD.funD (Option.some.inj e2) (List.all_eq_true.mp c2 d (List.mem_of_getElem? h))
def glos (xs : List Str) (K : PySem.W.Frag) : Bool := xs.all fun x => (He.Fa.glo x).ok K
def frees (xs : List Str) (K : PySem.W.Frag) : Bool := xs.all fun x => (He.Fa.free x).ok K
theorem glos_ok {h : Heap} {mg : Str → Option Value} {xs : List Str} (X : K.In h) (G : h.Ns mainGlobals mg) (c : glos xs K = true) {x : Str} (i : Nat) (hx : xs[i]? = some x := by rfl) : mg x = some (.ref (He.ga K x)) :=
  He.glo_ok X G (List.all_eq_true.mp c x (List.mem_of_getElem? hx))
theorem frees_ok {h : Heap} {mg : Str → Option Value} {xs : List Str} (X : K.In h) (G : h.Ns mainGlobals mg) (c : frees xs K = true) {x : Str} (i : Nat) (hx : xs[i]? = some x := by rfl) : mg x = none :=
  He.free_ok X G (List.all_eq_true.mp c x (List.mem_of_getElem? hx))
end
structure GlC (K : PySem.W.Frag) (mg : Str → Option Value) (x : Str) (d : D) : Prop where
  ex : ∃ (v : V) (u : Value), mg x = some u ∧ RelV v u ∧ ∀ H, Rep K H v d []
theorem GlC.de {X : Cx} {x : Str} {d : D} {pos : Pos} (h : GlC X.K X.mg x d) (hg : Gl X x) (hd : (x == ("__debug__" : Str)) = false := by decide) : DE X (.Name x pos) (.rt []) (fC d) := by
  obtain ⟨v, u, h1, h2, h3⟩ := h.ex
  exact de_glob hg h1 h2 h3 hd
theorem knw_of {K : PySem.W.Frag} {h : Heap} {H : Hp} {a : Addr} {vs : List Value} {xs : List V} (KX : K.In h) (ha : h.get? a = some { cls := .type "list", data := .seq vs.toArray }) (hO : Only H) (hS : SqL K H a xs) : Knw K H a xs := by
  rcases hS with (z | ⟨o, z⟩) | ⟨o, its, n, z, hc, hd, hs, hz, r⟩
  · rcases hO a with q | ⟨o, ys, q⟩
    · rw [q] at z; cases z
    · rw [q] at z; cases z
  · exact .inl ⟨o, z⟩
  · have e := KX a o z
    rw [ha] at e
    cases e
    refine .inr ⟨its, n, ?_, hz, r⟩
    rw [z]
    cases hs
    rfl
theorem walkZ {l : PySem.W.OpenLaw} {n k : Nat} {q : Program} {loose : List Str} {XP : (Str → Option Value) → Heap → Prop} {YP : World → Heap → Prop} {d : DefRec} {x : Str}
    (hn : l.most = some n) (hn2 : n ≤ sizeLine) (hdf : d.params.defaults = []) (hr : Room k callerA) (f : List D → Option D)
    (hf : ∀ ns : List Int, ns.length ≤ n → (∀ z ∈ ns, Builtin.Int.intBits z ≤ 1048576) → f [.kls (ns.map D.int)] = some (.bl true))
    (F : ∀ (w : World) (mg : Str → Option Value) (fa : Addr) (h : Heap), YP w h → h.Ns mainGlobals mg → mg d.name = some (.ref fa) →
      ∃ (K : PySem.W.Frag) (fd : FuncData), K.In h ∧ (∀ (s : Shared) (u : Value), BindsTo s fd ⟨[u], []⟩ [(x, u)]) ∧ ∀ base : Heap, K.In base → base.Ns mainGlobals mg → FnOk l.prog w K mg base CX0 k fa fd [x] (spD K f)) :
    PySem.W.WalkO q loose XP YP l.row.toRowW d [] (fun f vs => PySem.call f vs) := by
  refine Att.attach_callB hn hdf fun w s₀ s₁ mg mb fa o pm cd doc a vs ns G Y ho hd hcd hmg hobj hints hlen hbits hg => ?_
  obtain ⟨K, fd, KX, hb, hF⟩ := F w mg fa _ Y G.T.g hmg
  refine law_call KX G.T.g G.T.b G.T.builtins G.T.nolimit hg hobj hints (Nat.le_trans hlen hn2) hr hF hb (fun H hO hS => ?_) fun H e s' z => z
  refine ⟨[.kls (ns.map D.int)], [], .bl true, ?_, hf ns hlen hbits, fun v H' fp' s r _ _ => r.asB⟩
  have hk := knw_of KX hobj hO hS
  have items : ∀ ms : List Int, RepL K H (ms.map V.int) (ms.map D.int) [] := fun ms => by
    induction ms with
    | nil => exact .nil
    | cons m ms ih => exact .cons (fp := []) (fq := []) (.int m) ih
  exact .cons (fp := []) (fq := []) (.knw hk (items ns)) .nil
end Z
namespace Z
open PySem PySem.Spec PyProof.Rows L2
inductive OutR where
  | ok (o : Out) | xc (c : Str) (ρ : Ev)
abbrev FR := Ev → Option OutR
abbrev clsV (K : PySem.W.Frag) (c : Str) : Value := .ref (He.ga K c)
def PostR (K : PySem.W.Frag) (H0 H : Hp) (ρ : Ev) (fm : Nat → List Addr) (W : WX) (Dn : Ends) : OutR → Prop
  | .ok o => Post K H0 H ρ fm Dn o
  | .xc c ρ' => ∀ σ' H' fm', ER K H0 H' σ' ρ' fm' → Fr H ρ fm H' ρ' fm' → W (clsV K c) none σ' H'
def tR (K : PySem.W.Frag) (W : WX) (F : FR) : TS := fun Dn σ H => ∃ H0 ρ fm o, ER K H0 H σ ρ fm ∧ F ρ = some o ∧ PostR K H0 H ρ fm W Dn o
abbrev RS (X : Cx) (W : WX) (st : Stmt) (F : FR) : Prop := PS X st (tR X.K W F)
abbrev RSs (X : Cx) (W : WX) (st : List Stmt) (F : FR) : Prop := PSs X st (tR X.K W F)
def rOk (F : FS) : FR := fun ρ => (F ρ).map .ok
def OutR.thn (G : FR) : OutR → Option OutR
  | .ok (.nx ρ) => G ρ
  | o => some o
def rSeq (F G : FR) : FR := fun ρ => (F ρ).bind (OutR.thn G)
def rIf (c : Ev → Option Bool) (F G : FR) : FR := fun ρ => (c ρ).bind fun b => if b then F ρ else G ρ
def rRaise (c : Str) : FR := fun ρ => some (.xc c ρ)
section
variable {X : Cx} {W : WX} {st : Stmt} {rest : List Stmt} {e : Expr} {F G : FR} {c : Ev → Option Bool} {pos : Pos}
theorem PostR.seq {K : PySem.W.Frag} {H0 H : Hp} {ρ : Ev} {fm : Nat → List Addr} {Dn : Ends} {o : OutR} (ρ1 : Ev) {H1 : Hp} {fm1 : Nat → List Addr} (fr : Fr H ρ fm H1 ρ1 fm1) (h : PostR K H0 H ρ fm W Dn o) : PostR K H0 H1 ρ1 fm1 W Dn o := by
  cases o with
  | ok o => exact Post.seq (o := o) ρ1 fr h
  | xc c ρ' => exact fun σ' H' fm' er' fr' => h σ' H' fm' er' (fr.trans fr')
theorem rOk_of {F : FS} {ρ : Ev} {o : OutR} (h : rOk F ρ = some o) : ∃ o', F ρ = some o' ∧ o = .ok o' := by
  unfold rOk at h
  cases hf : F ρ with
  | none => rw [hf] at h; cases h
  | some o' => rw [hf] at h; cases h; exact ⟨o', rfl, rfl⟩
theorem rs_ok {F : FS} (h : DS X st F) : RS X W st (rOk F) := ps_mono h fun Dn σ H ⟨H0, ρ, fm, o, er, hf, q⟩ => by
  obtain ⟨o', h1, rfl⟩ := rOk_of hf
  exact ⟨H0, ρ, fm, o', er, h1, q⟩
theorem rss_ok {F : FS} (h : DSs X rest F) : RSs X W rest (rOk F) := pss_mono h fun Dn σ H ⟨H0, ρ, fm, o, er, hf, q⟩ => by
  obtain ⟨o', h1, rfl⟩ := rOk_of hf
  exact ⟨H0, ρ, fm, o', er, h1, q⟩
theorem rss_one (h : RS X W st F) : RSs X W [st] F := pss_one h
theorem rss_cons (h1 : RS X W st F) (h2 : RSs X W rest G) : RSs X W (st :: rest) (rSeq F G) := pss_mono (pss_cons h1 h2) fun Dn σ H ⟨H0, ρ, fm, o, er, hf, q⟩ => by
  obtain ⟨o1, e1, e2⟩ := bind_some hf
  refine ⟨H0, ρ, fm, o1, er, e1, ?_⟩
  cases o1 with
  | xc c ρ1 => cases e2; exact q
  | ok o1 => cases o1 with
    | nx ρ1 => exact fun σ1 H1 fm1 er1 fr1 => ⟨H0, ρ1, fm1, o, er1, e2, q.seq ρ1 fr1⟩
    | rt d => cases e2; exact q
    | bk ρ1 => cases e2; exact q
    | ct ρ1 => cases e2; exact q
    | rm d ρ1 => cases e2; exact q
theorem rs_if {x y : List Stmt} (hc : DT X e c) (h1 : RSs X W x F) (h2 : RSs X W y G) : RS X W (.If e x y pos) (rIf c F G) := ps_mono (ps_if hc h1 h2) fun Dn σ H ⟨H0, ρ, fm, o, er, hf, q⟩ => by
  obtain ⟨b, e1, e2⟩ := bind_some hf
  refine ⟨H0, ρ, fm, b, er, e1, fun H1 s1 => ?_⟩
  have fr : Fr H ρ fm H1 ρ fm := Fr.of_same s1 fun _ z => .inl z
  cases b with
  | true => rw [if_pos rfl] at e2; exact iteT ⟨H0, ρ, fm, o, er.mono s1, e2, q.seq ρ fr⟩
  | false => rw [if_neg Bool.false_ne_true] at e2; exact iteF ⟨H0, ρ, fm, o, er.mono s1, e2, q.seq ρ fr⟩
theorem rs_raise {x m : Str} {j : Nat} {p p2 pos2 : Pos} {bmB : List Value} {B newId initId : String} (hc : X.calm = true) (tk : Takes X W) (Fb : ExcBaseFacts B newId initId bmB) (q : PySem.W.excIn X.K (He.ga X.K x) bmB newId = true) (gC : X.mg x = some (clsV X.K x)) (kC : PySem.W.keepIn X.K (clsV X.K x) = true) (r : Raises X (clsV X.K x)) (hg : Gl X x)
    (hdb : (x == ("__debug__" : Str)) = false := by decide) : RS X W (.Raise (some (.Call (.Name x p) [.Constant (.str m) j p2] [] pos2)) none pos) (rRaise x) :=
  ps_mono (ps_raise hc tk (pmk_own Fb q gC kC r hg hdb)) fun Dn σ H ⟨H0, ρ, fm, o, er, hf, q⟩ => by
    cases hf
    exact q σ H fm er Fr.refl
end
abbrev Res := D ⊕ Str
def spR (K : PySem.W.Frag) (f : List D → Option Res) : Sp := fun vs H Q E => ∃ ds fp r, RepL K H vs ds fp ∧ f ds = some r ∧ match r with
  | .inl d => ∀ v H' fp', Same H H' → Rep K H' v d fp' → fp'.Nodup → (∀ a ∈ fp', H a = none) → Q v H'
  | .inr c => ∀ H', Same H H' → E (clsV K c) none H'
structure FdR (P : Program) (w : World) (K : PySem.W.Frag) (mg : Str → Option Value) (base : Heap) (x : Str) (k : Nat) (f : List D → Option Res) : Prop where
  ex : ∃ (a : Addr) (fd : FuncData) (ps : List Str), mg x = some (.ref a) ∧ PySem.W.keepIn K (.ref a) = true ∧ Binds K fd ps [] ∧ FnOk P w K mg base (L2.CX P w) k a fd ps (spR K f)
theorem FdR.mono {P : Program} {w : World} {K : PySem.W.Frag} {mg : Str → Option Value} {base : Heap} {x : Str} {j k : Nat} {f : List D → Option Res} (h : FdR P w K mg base x j f) (l : j ≤ k) : FdR P w K mg base x k f := by
  obtain ⟨a, fd, ps, h1, h2, h3, h4⟩ := h.ex
  exact ⟨a, fd, ps, h1, h2, h3, h4.mono l⟩
abbrev FER := Ev → Option Res
def tER (K : PySem.W.Frag) (W : WX) (f : FER) : TE := fun σ H Q => ∃ H0 ρ fm r, ER K H0 H σ ρ fm ∧ f ρ = some r ∧ match r with
  | .inl d => ∀ v H' fp, Same H H' → Rep K H' v d fp → (Kd.rt []).ok H ρ fm fp → Q v H'
  | .inr c => ∀ H', Same H H' → W (clsV K c) none σ H'
abbrev DER (X : Cx) (W : WX) (e : Expr) (f : FER) : Prop := PE X e (tER X.K W f)
def fCallR (f : List D → Option Res) (fa : Ev → Option (List D)) : FER := fun ρ => (fa ρ).bind f
section
variable {X : Cx} {W : WX} {e : Expr} {es : List Expr} {κ : Kd} {fa : Ev → Option (List D)} {p pos : Pos} {x : Str} {k : Nat} {f : List D → Option Res}
theorem der_call (tk : Takes X W) (F : FdR X.prog X.w X.K X.mg X.base x k f) (hr : Room k X.A) (hg : Gl X x) (ha : DA X (e :: es) κ fa) (hdb : (x == ("__debug__" : Str)) = false := by decide) (he : starEach (e :: es) X.env = (false, eval e X.env) :: starEach es X.env := by rfl)
    (hpl : (backTo pos (starEach es X.env)).any (·.1) = false := by rfl) : DER X W (.Call (.Name x p) (e :: es) [] pos) (fCallR f fa) := by
  obtain ⟨a, fd, ps, hm, hk, hb, G⟩ := F.ex
  refine pe_mono (pe_callS (E := WE W) G hr hg hm hk hb (fun σ => passAt tk σ) ha.run hdb he hpl) fun σ H Q q => ?_
  obtain ⟨H0, ρ, fm, r, er, hf, q⟩ := q
  obtain ⟨ds, h1, h2⟩ := bind_some hf
  refine ⟨H0, ρ, fm, ds, er, h1, fun vs H1 fp s1 r1 k1 => ⟨ds, fp, r, r1, h2, ?_⟩⟩
  cases r with
  | inl d => exact fun v H2 fq s2 r2 n fr => q v H2 fq (s1.trans s2) r2 (kd_fresh s1 n fr)
  | inr c => exact fun H2 s2 => q H2 (s1.trans s2)
def rAl (i : Nat) (f : FER) : FR := fun ρ => (f ρ).bind fun r => match r with
  | .inl d => some (.ok (.nx (ρ.set i (.al d))))
  | .inr c => some (.xc c ρ)
def rOw (i : Nat) (f : FER) : FR := fun ρ => (f ρ).bind fun r => match r with
  | .inl d => some (.ok (.nx (ρ.set i (.ow d))))
  | .inr c => some (.xc c ρ)
def rRet (f : FER) : FR := fun ρ => (f ρ).bind fun r => match r with
  | .inl d => some (.ok (.rt d))
  | .inr c => some (.xc c ρ)
theorem xc_at {K : PySem.W.Frag} {H0 H H' : Hp} {ρ : Ev} {fm : Nat → List Addr} {σ : L2.St} {c : Str} {Dn : Ends} (er : ER K H0 H σ ρ fm) (q : PostR K H0 H ρ fm W Dn (.xc c ρ)) (s : Same H H') : W (clsV K c) none σ H' :=
  q σ H' fm (er.mono s) (Fr.of_same s fun _ z => .inl z)
theorem rs_al (i : Nat) {fe : FER} {y : Str} {pos' : Pos} (hN : X.N.Nodup) (he : DER X W e fe) (hi : X.N[i]? = some y := by rfl) (hx : Loc X.env.scope y := by first | exact Or.inl rfl | exact Or.inr rfl) (hs : swapsWith e (some (.Name y pos')) pos.line X.env = pure false := by rfl)
    (hf : X.fn y = true ∨ X.env.scope.names.lookup y = some .local := by first | exact .inl rfl | exact .inr rfl | assumption) : RS X W (.Assign [.Name y pos'] e pos) (rAl i fe) := ps_mono (ps_set hN hi hx he hs hf) fun Dn σ H ⟨H0, ρ, fm, o, er, hf, q⟩ => by
  obtain ⟨r, h1, h2⟩ := bind_some hf
  refine ⟨H0, ρ, fm, r, er, h1, ?_⟩
  cases r with
  | inl d =>
    cases h2
    refine fun v H1 fp s1 r1 k1 => q _ H1 _ ((er.mono s1).put_al r1 (Kd.ok_le (κ' := .sh) er rfl k1)) (Fr.of_same s1 fun _ z => .inl (own_put_al z))
  | inr c =>
    cases h2
    exact fun H1 s1 => xc_at er q s1
theorem rs_ow (i : Nat) {fe : FER} {y : Str} {pos' : Pos} (hN : X.N.Nodup) (he : DER X W e fe) (hi : X.N[i]? = some y := by rfl) (hx : Loc X.env.scope y := by first | exact Or.inl rfl | exact Or.inr rfl) (hs : swapsWith e (some (.Name y pos')) pos.line X.env = pure false := by rfl)
    (hf : X.fn y = true ∨ X.env.scope.names.lookup y = some .local := by first | exact .inl rfl | exact .inr rfl | assumption) : RS X W (.Assign [.Name y pos'] e pos) (rOw i fe) := ps_mono (ps_set hN hi hx he hs hf) fun Dn σ H ⟨H0, ρ, fm, o, er, hf, q⟩ => by
  obtain ⟨r, h1, h2⟩ := bind_some hf
  refine ⟨H0, ρ, fm, r, er, h1, ?_⟩
  cases r with
  | inl d =>
    cases h2
    exact fun v H1 fp s1 r1 k1 => asg_ow_at (S := []) er r1 s1 k1 q
  | inr c =>
    cases h2
    exact fun H1 s1 => xc_at er q s1
theorem rs_ret {fe : FER} (he : DER X W e fe) : RS X W (.Return (some e) pos) (rRet fe) := ps_mono (ps_ret he) fun Dn σ H ⟨H0, ρ, fm, o, er, hf, q⟩ => by
  obtain ⟨r, h1, h2⟩ := bind_some hf
  refine ⟨H0, ρ, fm, r, er, h1, ?_⟩
  cases r with
  | inl d =>
    cases h2
    exact fun v H1 fp s1 r1 k1 => q v H1 fp (er.mono s1).same r1 (ret_ok er k1).1 (ret_ok er k1).2
  | inr c =>
    cases h2
    exact fun H1 s1 => xc_at er q s1
end
def outR : OutR → Option Res
  | .ok o => (outD o).map .inl
  | .xc c _ => some (.inr c)
def fnR (N : List Str) (n : Nat) (F : FR) : List D → Option Res := fun ds => if ds.length = n then (F (args N ds)).bind outR else none
section
variable {P : Program} {w : World} {K : PySem.W.Frag} {mg : Str → Option Value} {base : Heap}
theorem fn_okR {x qual : Str} {params : Arguments} {body : List Stmt} {scope : Scope} {dvs : List V} {f : Addr} {fd : FuncData} {N ps : List Str} {k n : Nat} {F : FR} (Fn : FunD K x qual params body scope dvs [] f fd) (S : FnScope N ps scope) (hn : ps.length = n)
    (hbody : ∀ (cdv : Value) (A : Around) (outer : List Env) (s : Shared) (H : Hp) (E : XK), Room k (A.deeper (envOfC qual scope s.heap.objs.size f cdv)) → RSs (cxOf (L2.CX P w) P w K mg base N qual scope f cdv A outer s H E) (fun cls d _ H' => E cls d H') body F) :
    FnOk P w K mg base (L2.CX P w) (k + 1) f fd ps (spR K (fnR N n F)) := by
  refine Fn.ok S (fun vs H Q E h => ?_) (fun cdv A outer s H vs Q E hr h => ⟨tR K (fun cls d _ H' => E cls d H') F, hbody cdv A outer s H E hr, ?_⟩)
  · obtain ⟨ds, fp, r, rl, hf, _⟩ := h
    unfold fnR at hf
    split at hf
    · next hl => rw [rl.len, hl, hn]
    · cases hf
  · obtain ⟨ds, fp, r, rl, hf, q⟩ := h
    obtain ⟨fm, er⟩ := ER.start (N := N) rl
    unfold fnR at hf
    split at hf
    · obtain ⟨o, h1, h2⟩ := bind_some hf
      refine ⟨H, args N ds, fm, o, er, h1, ?_⟩
      cases o with
      | xc c ρ' =>
        cases h2
        exact fun σ' H' fm' er' _ => q H' er'.same
      | ok o =>
        cases o with
        | rt d' => cases h2; exact fun v H' fp' s' r' n' f' => q v H' fp' s' r' n' f'
        | nx ρ' => cases h2; exact fun σ' H' fm' er' _ => q .non H' [] er'.same .non List.nodup_nil fun _ z => nomatch z
        | bk ρ' => cases h2
        | ct ρ' => cases h2
        | rm d ρ' => cases h2
    · cases hf
theorem takes_cxOf {N : List Str} {qual : Str} {scope : Scope} {f : Addr} {cdv : Value} {A : Around} {outer : List Env} {s : Shared} {H : Hp} {E : XK} (hs : (cxOf (L2.CX P w) P w K mg base N qual scope f cdv A outer s H E).stack = (cxOf (L2.CX P w) P w K mg base N qual scope f cdv A outer s H E).env :: (cxOf (L2.CX P w) P w K mg base N qual scope f cdv A outer s H E).outer := by rfl) :
    Takes (cxOf (L2.CX P w) P w K mg base N qual scope f cdv A outer s H E) (fun cls d _ H' => E cls d H') := takes_of hs rfl rfl rfl
theorem fdR_mk {x : Str} {f : Addr} {fd : FuncData} {ps : List Str} {k : Nat} {g : List D → Option Res} (hm : mg x = some (.ref f)) (hk : PySem.W.keepIn K (.ref f) = true) (hb : Binds K fd ps []) (h : FnOk P w K mg base (L2.CX P w) k f fd ps (spR K g)) : FdR P w K mg base x k g :=
  ⟨f, fd, ps, hm, hk, hb, h⟩
end
end Z
namespace Z
open PySem PySem.Spec PyProof.Rows L2
open Classical in
noncomputable def sTry (i : Nat) (L : List Str) (F : FR) (Hc : Str → Addr → FS) : FS := fun ρ => (F ρ).bind fun o => match o with
  | .ok o => some o
  | .xc c ρ' => if h : c ∈ L ∧ ∃ o, ∀ a, ∃ o', Hc c a (ρ'.set i (.al (.ptr a))) = some o' ∧ o'.wipe [i] = o then some (Classical.choose h.2) else none
theorem sTry_ok {i : Nat} {L : List Str} {F : FR} {Hc : Str → Addr → FS} {ρ : Ev} {o : Out} (h : F ρ = some (.ok o)) : sTry i L F Hc ρ = some o := by
  unfold sTry
  rw [h]
  rfl
open Classical in
theorem sTry_xc {i : Nat} {L : List Str} {F : FR} {Hc : Str → Addr → FS} {ρ ρ' : Ev} {c : Str} {o : Out} (h : F ρ = some (.xc c ρ')) (hc : c ∈ L) (ho : ∀ a, ∃ o', Hc c a (ρ'.set i (.al (.ptr a))) = some o' ∧ o'.wipe [i] = o) : sTry i L F Hc ρ = some o := by
  unfold sTry
  rw [h]
  show (if h : c ∈ L ∧ ∃ o, ∀ a, ∃ o', Hc c a (ρ'.set i (.al (.ptr a))) = some o' ∧ o'.wipe [i] = o then some (Classical.choose h.2) else none) = some o
  have hx : c ∈ L ∧ ∃ o, ∀ a, ∃ o', Hc c a (ρ'.set i (.al (.ptr a))) = some o' ∧ o'.wipe [i] = o := ⟨hc, o, ho⟩
  rw [dif_pos hx]
  have hs := Classical.choose_spec hx.2
  obtain ⟨o1, h1, h2⟩ := hs 0
  obtain ⟨o2, h3, h4⟩ := ho 0
  rw [h1] at h3
  cases h3
  rw [← h2, h4]
theorem Fr.wipeT {H H' : Hp} {ρ ρ' : Ev} {fm fm' : Nat → List Addr} (f : Fr H ρ fm H' ρ' fm') (S : List Nat) : Fr H ρ fm H' (wipeD ρ' S) fm' := ⟨f.keep, fun b z => f.new b (own_sub wipeD_sub z), f.dom⟩
open Classical in
theorem ds_try {X : Cx} {L : List Str} {i : Nat} {n x : Str} {cv : Value} {body suite : List Stmt} {b₀ : Stmt} {np pos pos' : Pos} {F : FR} {Hc : Str → Addr → FS} (hs : X.stack = X.env :: X.outer) (hf : X.env.frame = some X.env.locals) (hN : X.N.Nodup) (hi : X.N[i]? = some n) (hln : X.env.kindOf n = some .local)
    (hc : Names X x cv) (hex : ∀ k ∈ L, PySem.W.exmOne X.K (clsV X.K k) cv = some true)
    (hb : ∀ (W : WX) (pn : List (Addr × Obj)) (xe : Value → Shared → Prop), Takes (X.tr pn xe) W → PassesOwn (model X.prog X.w) X.A X.env xe → RSs (X.tr pn xe) W body F)
    (hH : ∀ k ∈ L, ∀ (a : Addr) (oe : Obj) (pn : List (Addr × Obj)), Zc (clsV X.K k) none oe → (∃ vs, oe.data = .fields vs) → DSs (X.suite a ((a, oe) :: pn)) (b₀ :: suite) (Hc k a)) :
    DS X (.Try body [.ExceptHandler (some (.Name x np)) (some n) (b₀ :: suite) pos'] [] [] pos) (sTry i L F Hc) :=
  ps_mono (ps_try_as (tb := fun W => tR X.K W F) (ts := fun a cls d => fun Dn σ H => ∃ k, k ∈ L ∧ cls = clsV X.K k ∧ d = none ∧ tS X.K (Hc k a) Dn σ H) (Wout := fun _ _ _ _ => False) hs hf hN hi hln hc takes0 hb
    (fun a oe cls d pn hz hd => ⟨fun pins s σ H D I ⟨k, hk, e1, e2, q⟩ => (hH k hk a oe pn (by rw [← e1, ← e2]; exact hz) hd).run pins s σ H D I q⟩)) fun Dn σ H ⟨H0, ρ, fm, o, er, hf, q⟩ => by
    obtain ⟨o1, e1, e2⟩ := bind_some hf
    refine ⟨H0, ρ, fm, o1, er, e1, ?_⟩
    cases o1 with
    | ok o1 => cases e2; exact q
    | xc c ρ' =>
      have e2 : (if h : c ∈ L ∧ ∃ o, ∀ a, ∃ o', Hc c a (ρ'.set i (.al (.ptr a))) = some o' ∧ o'.wipe [i] = o then some (Classical.choose h.2) else none) = some o := e2
      by_cases hx : c ∈ L ∧ ∃ o, ∀ a, ∃ o', Hc c a (ρ'.set i (.al (.ptr a))) = some o' ∧ o'.wipe [i] = o
      · rw [dif_pos hx] at e2
        have e2 := Option.some.inj e2
        have hs := Classical.choose_spec hx.2
        rw [e2] at hs
        intro σ' H' fm' er' fr'
        refine ⟨true, hex c hx.1, fun _ a na => ?_, fun z => by cases z⟩
        obtain ⟨o', ho1, ho2⟩ := hs a
        have er2 := er'.put_al (i := i) (v := .ref a) (Rep.ptr a) (fun b hb => by cases hb)
        refine ⟨c, hx.1, rfl, rfl, H0, _, _, o', er2, ho1, ?_⟩
        have fr2 : Fr H ρ fm H' (ρ'.set i (.al (.ptr a))) (fput fm' i []) := fr'.trans (Fr.of_same (Same.refl H') fun _ z => .inl (own_put_al z))
        cases o' with
        | nx ρ1 =>
          subst ho2
          exact fun σ1 H1 fm1 er1 fr1 => q _ H1 fm1 (er1.wipe [i]) ((fr2.trans fr1).wipeT [i])
        | bk ρ1 =>
          subst ho2
          exact fun σ1 H1 fm1 er1 fr1 => q _ H1 fm1 (er1.wipe [i]) ((fr2.trans fr1).wipeT [i])
        | ct ρ1 =>
          subst ho2
          exact fun σ1 H1 fm1 er1 fr1 => q _ H1 fm1 (er1.wipe [i]) ((fr2.trans fr1).wipeT [i])
        | rt d =>
          subst ho2
          exact q
        | rm d ρ1 =>
          subst ho2
          exact fun v σ1 H1 fm1 fp er1 fr1 => q v σ1 H1 fm1 fp er1 (fr2.trans fr1)
      · rw [dif_neg hx] at e2
        cases e2
end Z
namespace Z
open PySem PySem.Spec PyProof.Rows L2
def Bears (X : Cx) (a : Addr) (c : Str) : Prop := ∃ oe, (a, oe) ∈ X.pn ∧ Zc (clsV X.K c) none oe ∧ ∃ vs, oe.data = .fields vs
theorem bears_suite {X : Cx} {a : Addr} {oe : Obj} {pn : List (Addr × Obj)} {c : Str} (hz : Zc (clsV X.K c) none oe) (hd : ∃ vs, oe.data = .fields vs) : Bears (X.suite a ((a, oe) :: pn)) a c := ⟨oe, List.mem_cons_self, hz, hd⟩
structure FdE (P : Program) (w : World) (K : PySem.W.Frag) (mg : Str → Option Value) (base : Heap) (x : Str) (k : Nat) (c : Str) (d : D) : Prop where
  ex : ∃ (f : Addr) (fd : FuncData) (p : Str), mg x = some (.ref f) ∧ PySem.W.keepIn K (.ref f) = true ∧ Binds K fd [p] [] ∧
    ∀ (A : Around) (outer : List Env) (s : Shared) (H : Hp) (a : Addr) (oe : Obj) (Q : VK), L2H.RoomH k A → Env0 P w K mg base A outer s H → s.heap.get? a = some oe → Zc (clsV K c) none oe → (∃ vs, oe.data = .fields vs) → H a = none → a ∉ frs outer → BindsTo s fd ⟨[.ref a], []⟩ [(p, .ref a)] →
      (∀ v H' fp, Same H H' → Rep K H' v d fp → fp.Nodup → (∀ b ∈ fp, H b = none) → Q v H') → codeAny (model P w) A (.call (.ref f) ⟨[.ref a], []⟩) (CR CX0 outer P w H s Q E0) s
def fE (i : Nat) (a : Addr) (d : D) : FE := fun ρ => match ρ[i]? with
  | some (.al (.ptr b)) => if b = a then some d else none
  | _ => none
theorem fE_of {i : Nat} {a : Addr} {d d' : D} {ρ : Ev} (h : fE i a d ρ = some d') : ρ[i]? = some (.al (.ptr a)) ∧ d' = d := by
  unfold fE at h
  split at h
  · next b hb =>
    by_cases e : b = a
    · subst e
      rw [if_pos rfl] at h
      exact ⟨hb, (Option.some.inj h).symm⟩
    · rw [if_neg e] at h; cases h
  · cases h
theorem de_callE {X : Cx} {a : Addr} {c : Str} {d : D} {k i : Nat} {x n : Str} {p p2 pos : Pos} (B : Bears X a c) (F : FdE X.prog X.w X.K X.mg X.base x k c d) (hr : L2H.RoomH k X.A) (hg : Gl X x) (hs : X.stack = X.env :: X.outer) (hfr : X.env.frame = some X.env.locals) (hN : X.N[i]? = some n) (hv : Vis X.env.scope n)
    (hdb : (x == ("__debug__" : Str)) = false := by decide) (hdn : (n == ("__debug__" : Str)) = false := by decide) (hcd : (n == ("__classdict__" : Str)) = false := by decide) : DE X (.Call (.Name x p) [.Name n p2] [] pos) (.rt []) (fE i a d) := by
  obtain ⟨f, fd, pa, hm, hk, hb, G⟩ := F.ex
  obtain ⟨oe, hpn, hz, hd⟩ := B
  refine ⟨fun pins s σ H Q I h => ?_⟩
  obtain ⟨H0, ρ, fm, d', er, hf, q⟩ := h
  obtain ⟨hi, rfl⟩ := fE_of hf
  obtain ⟨v, hσ, rv⟩ := er.al i _ hi
  have ev0 : v = .ref a := by
    generalize fm i = fp at rv
    cases rv
    rfl
  subst ev0
  refine wpAny_Call_Name_kw (ld_glob I hg hm ?_ hdb)
  have ha : PA X [.Name n p2] (tCons (tVar i) tNil) := pa_cons (pe_var hN hv hdn hcd) pa_nil
  refine PySem.W.callWith_K (h₀ := X.base) I.ok.mod.kin hk (thn (ha.run pos pins s σ H (fun vs H1 => vs = [V.ref a] ∧ H = H1) I ⟨_, hσ, rfl, rfl⟩) fun us s1 hh => ?_)
  obtain ⟨vs, H1, I1, r1, ev, eH⟩ := hh
  subst ev
  subst eH
  refine ⟨I1.kIn, ?_⟩
  cases r1 with
  | cons ru rn =>
    cases rn
    cases ru
    obtain ⟨hget, hn, nl, nf, _⟩ := I1.pin (a, oe) (List.mem_append.mpr (.inl hpn))
    have nst : a ∉ frs X.stack := by
      rw [hs]
      intro hm
      obtain ⟨e, he, h2⟩ := List.mem_filterMap.mp hm
      rcases List.mem_cons.mp he with rfl | he
      · rw [hfr] at h2; exact nl (Option.some.inj h2).symm
      · exact nf (List.mem_filterMap.mpr ⟨e, he, h2⟩)
    have b := hb s1 [.ref a] I1.kIn rfl
    refine wpAny_call (codeAny_mono (G X.A X.stack s1 H a oe Q hr I1.env0 hget hz hd hn nst b fun v H' fp s' r' n' f' => q v H' fp s' r' ⟨n', fun b hb => .inl (f' b hb)⟩) fun r s' hq => ?_)
    cases r with
    | error e => exact False.elim hq
    | ok fl =>
      cases fl with
      | ret u => exact I1.after hq
      | next => exact False.elim hq
      | brk => exact False.elim hq
      | cont => exact False.elim hq
theorem roomS {j k : Nat} {A : Around} {v : Option Value} (r : Room j A) (l : k ≤ j) : L2H.RoomH k (A.mark v) := ⟨(r.mono l).dp, (r.mono l).un⟩
theorem roomT {j k : Nat} {A : Around} (r : L2H.RoomH j A) (l : k ≤ j) : L2H.RoomH k A := r.mono l
abbrev cxE (P : Program) (w : World) (K : PySem.W.Frag) (mg : Str → Option Value) (base : Heap) (N : List Str) (qual : Str) (scope : Scope) (f : Addr) (cd : Value) (A : Around) (outer : List Env) (s : Shared) (H : Hp) (p : Addr × Obj) : Cx :=
  (L2H.cxH CX0 P w K mg base N qual scope f cd A outer s H E0 p).nox
theorem fn_okE {P : Program} {w : World} {K : PySem.W.Frag} {mg : Str → Option Value} {base : Heap} {x qual c y : Str} {params : Arguments} {body : List Stmt} {scope : Scope} {dvs : List V} {f : Addr} {fd : FuncData} {N : List Str} {k : Nat} {F : Addr → FS} {d : D}
    (hm : mg x = some (.ref f)) (Fn : FunD K x qual params body scope dvs [] f fd) (hk : PySem.W.keepIn K (.ref f) = true) (hb : Binds K fd [y] []) (S : FnScope N [y] scope)
    (hbody : ∀ (cdv : Value) (A : Around) (outer : List Env) (s : Shared) (H : Hp) (a : Addr) (oe : Obj), L2H.RoomH k (A.deeper (envOfC qual scope s.heap.objs.size f cdv)) → Zc (clsV K c) none oe → (∃ vs, oe.data = .fields vs) → DSs (cxE P w K mg base N qual scope f cdv A outer s H (a, oe)) body (F a))
    (hF : ∀ a, ∃ o, F a (args N [.ptr a]) = some o ∧ outD o = some d) : FdE P w K mg base x (k + 1) c d := by
  refine ⟨f, fd, y, hm, hk, hb, fun A outer s H a oe Q hr e0 hget hz hdt hn nfr hbt hQ => ?_⟩
  obtain ⟨oc, od, dV, kV, doc, pm, an, cdv, ct, osl, rfl, lk, hcd, _, _⟩ := Fn.ex
  have KX : K.In s.heap := e0.mod.kin.keeps fun b o e => (e0.bs b o e).1
  have lim : s.heap.NoLimit := e0.mod.nolimit.keeps fun b o e => (e0.bs b o e).1
  have hkind : ∀ z ∈ [(y, Value.ref a)], scope.names.lookup z.1 = some .local ∨ (scope.names.lookup z.1 = some .cell ∧ ((cellsFrom (s.heap.objs.size + 1) scope.names []).lookup z.1).isSome = true) := fun z hz => by
    rw [List.mem_singleton.mp hz]
    rcases S.par y List.mem_cons_self with q | q
    · exact .inl q
    · exact .inr ⟨q, PySem.W.cellsFrom_some _ _ _ (.inl q)⟩
  refine codeAny_call_function hr.depth (KX _ _ lk) rfl S.co S.gen rfl (PySem.W.codeRec_of KX hcd) (hbt _ _ _ _ ?_)
  refine wpAny_newFunctionEnv_cells S.kind hkind fun env he s1 xx => ?_
  subst he
  refine ⟨lim.keeps xx.toInCall.keep, codeAny_func ?_⟩
  have pin : L2H.PinOk outer H s (a, oe) := ⟨hget, hn, nfr, fun v z => by
    obtain ⟨vs, hv⟩ := hdt
    have z : oe.data = .cell v := z
    rw [hv] at z; cases z⟩
  have I1 : Inv (L2H.cxH CX0 P w K mg base N qual scope f cdv A outer s H E0 (a, oe)) [] (start N [.ref a]) H s1 := L2H.inv_startH (ps := [y]) (us := [.ref a]) S pin e0 rfl (.cons rfl .nil) xx
  obtain ⟨o, ho1, ho2⟩ := hF a
  obtain ⟨fm, er⟩ := ER.start (K := K) (H := H) (N := N) (vs := [.ref a]) (ds := [.ptr a]) (.cons (fp := []) (fq := []) (.ptr a) .nil)
  refine wpAny_mono ((PSs.nox (hbody cdv A outer s H a oe (hr.deeper _) hz hdt)).run [] s1 (start N [.ref a]) H { nx := fun _ H' => Q .non H', rt := Q } I1 ⟨H, args N [.ptr a], fm, o, er, ho1, ?_⟩) (fun fl s' hs => ?_) fun e s' z => z
  · cases o with
    | rt d' => cases ho2; exact fun v H' fp' s' r' n' f' => hQ v H' fp' s' r' n' f'
    | nx ρ' => cases ho2; exact fun σ' H' fm' er' _ => hQ .non H' [] er'.same .non List.nodup_nil fun _ z => nomatch z
    | bk ρ' => cases ho2
    | ct ρ' => cases ho2
    | rm d ρ' => cases ho2
  · have fin : ∀ {σ' : L2.St} {H' : Hp} {v : V} {u : Value}, Inv (L2H.cxH CX0 P w K mg base N qual scope f cdv A outer s H E0 (a, oe)) [] σ' H' s' → RelV v u → Q v H' → CE outer P w H s Q u s' :=
      fun {σ' H' v u} J rv q => ⟨v, H', J.os, J.bare, J.base, J.hok, rv, q⟩
    cases fl with
    | ret u =>
      obtain ⟨v, σ', H', J, rv, q⟩ := hs
      exact fin J rv q
    | next =>
      obtain ⟨σ', H', J, q⟩ := hs
      exact fin (v := V.non) (u := Value.none) J rfl q
    | brk =>
      obtain ⟨_, _, _, q⟩ := hs
      exact False.elim q
    | cont =>
      obtain ⟨_, _, _, q⟩ := hs
      exact False.elim q
end Z
namespace Z
open PySem PySem.Spec PyProof.Rows L2
def rIsB (K : PySem.W.Frag) (c : Str) (a : Addr) : List V → Hp → VK → Prop := fun xs H Q => ∃ (cv : V) (u : Value) (b : Bool), xs = [.ref a, cv] ∧ ClsV cv u ∧ PySem.W.kitOne K (clsV K c) u = some b ∧ Q (.bl b) H
def rIsBT (K : PySem.W.Frag) (c : Str) (a : Addr) : List V → Hp → VK → Prop := fun xs H Q => ∃ (tp : Addr) (cs : List V) (us : List Value) (b : Bool), xs = [.ref a, .ref tp] ∧ H tp = some (.tup cs) ∧ Paired ClsV cs us ∧ PySem.W.kitAny K (clsV K c) us = some b ∧ Q (.bl b) H
section
variable {X : Cx} {a : Addr} {c : Str}
theorem Bears.inst {pins : List (Addr × Obj)} {σ : L2.St} {H : Hp} {s : Shared} (B : Bears X a c) (I : Inv X pins σ H s) : ∃ oe, PySem.W.InstAt s.heap a oe (He.ga X.K c) none := by
  obtain ⟨oe, hpn, hz, vs, hv⟩ := B
  obtain ⟨hget, _⟩ := I.pin (a, oe) (List.mem_append.mpr (.inl hpn))
  refine ⟨oe, ?_⟩
  obtain ⟨oc, od, oda, osl⟩ := oe
  obtain ⟨h1, h2⟩ := hz
  dsimp only at h1 h2 hv
  subst h1 h2 hv
  exact ⟨hget, rfl, rfl, trivial⟩
theorem call_isB (B : Bears X a c) (C : ExcC X.K (He.ga X.K c)) : CallR X (.builtin "isinstance") (rIsB X.K c a) := by
  intro pins s σ H xs us Q I r h
  obtain ⟨cv, u, b, rfl, k, e, q⟩ := h
  obtain ⟨u1, u2, rfl, r1, r2⟩ := vals2 r
  cases (show u1 = Value.ref a from r1)
  have e2 := k.eq r2
  subst e2
  obtain ⟨oe, J⟩ := B.inst I
  exact PySem.W.kia_one (PySem.W.handS_kitx_exc C.hg C.hk C.hs C.hd C.ha C.hn C.ht C.hm) I.kIn J e (fun z => nomatch z) fun tk => ⟨.bl b, H, I.tok tk, rfl, q⟩
theorem call_isBT (B : Bears X a c) (C : ExcC X.K (He.ga X.K c)) : CallR X (.builtin "isinstance") (rIsBT X.K c a) := by
  intro pins s σ H xs us Q I r h
  obtain ⟨tp, cs, ws, b, rfl, hT, k, e, q⟩ := h
  obtain ⟨u1, u2, rfl, r1, r2⟩ := vals2 r
  cases (show u1 = Value.ref a from r1)
  cases (show u2 = Value.ref tp from r2)
  obtain ⟨oe, J⟩ := B.inst I
  obtain ⟨_, its, rv, o, h1, h2, n, h3⟩ := (show ObjOk X.prog X.w H s.heap tp (.tup cs) from I.hok tp _ hT)
  have e3 := ClsV.all k rv
  subst e3
  obtain ⟨oc, od, dt, sl⟩ := o
  simp only at h2 h3
  subst h2 h3
  exact PySem.W.kia_tup (PySem.W.handS_kitx_exc C.hg C.hk C.hs C.hd C.ha C.hn C.ht C.hm) I.kIn J h1 e (fun z => nomatch z) fun tk => ⟨.bl b, H, I.tok tk, rfl, q⟩
theorem de_isB {i : Nat} {n : Str} {cE : Expr} {cv : V} {u : Value} {b : Bool} {p p2 pos : Pos} (B : Bears X a c) (C : ExcC X.K (He.ga X.K c)) (hg : Gl X "isinstance") (hm : X.mg "isinstance" = none) (hN : X.N[i]? = some n) (hv : Vis X.env.scope n) (hC : PE X cE (tC cv)) (k : ClsV cv u) (e : PySem.W.kitOne X.K (clsV X.K c) u = some b)
    (hdn : (n == ("__debug__" : Str)) = false := by decide) (hcd : (n == ("__classdict__" : Str)) = false := by decide)
    (he : starEach [.Name n p2, cE] X.env = (false, eval (.Name n p2) X.env) :: starEach [cE] X.env := by rfl) (he2 : starEach [cE] X.env = (false, eval cE X.env) :: starEach [] X.env := by rfl) (hpl : (backTo pos (starEach [cE] X.env)).any (·.1) = false := by rfl) : DE X (.Call (.Name "isinstance" p) [.Name n p2, cE] [] pos) (.rt []) (fE i a (.bl b)) :=
  pe_mono (pe_callB (call_isB B C) hg hm (by decide +kernel) (pa_cons (pe_var hN hv hdn hcd) (pa_cons hC pa_nil he2) he) (by decide) (by decide) he hpl) fun σ H Q ⟨H0, ρ, fm, d, er, hf, q⟩ => by
    obtain ⟨hi, rfl⟩ := fE_of hf
    obtain ⟨v, hσ, rv⟩ := er.al i _ hi
    have ev0 : v = .ref a := by
      generalize fm i = fp at rv
      cases rv
      rfl
    subst ev0
    exact ⟨_, hσ, cv, u, b, rfl, k, e, q (.bl b) H [] (Same.refl H) (.bl b) Kd.ok_nil⟩
end
end Z
namespace Z
open PySem PySem.Spec PyProof.Rows L2
def tCL : List V → TA
  | [] => tNil
  | c :: r => tCons (tC c) (tCL r)
theorem tCL_of : ∀ {cs : List V} {σ : L2.St} {H : Hp} {Q : List V → Hp → Prop}, Q cs H → tCL cs σ H Q
  | [], _, _, _, h => h
  | c :: r, σ, H, Q, h => tCL_of (cs := r) (Q := fun xs H2 => Q (c :: xs) H2) h
section
variable {X : Cx} {a : Addr} {c : Str}
theorem de_isBT {i : Nat} {n : Str} {es : List Expr} {k2 : _} {cs : List V} {us : List Value} {b : Bool} {p p2 pt pos : Pos} (B : Bears X a c) (C : ExcC X.K (He.ga X.K c)) (hg : Gl X "isinstance") (hm : X.mg "isinstance" = none) (hN : X.N[i]? = some n) (hv : Vis X.env.scope n) (hC : PA X es (tCL cs)) (k : Paired ClsV cs us) (e : PySem.W.kitAny X.K (clsV X.K c) us = some b) (hl : cs.length ≤ sizeLine)
    (hdn : (n == ("__debug__" : Str)) = false := by decide) (hcd : (n == ("__classdict__" : Str)) = false := by decide)
    (he : starEach [.Name n p2, .Tuple es k2 pt] X.env = (false, eval (.Name n p2) X.env) :: starEach [.Tuple es k2 pt] X.env := by rfl) (he2 : starEach [.Tuple es k2 pt] X.env = (false, eval (.Tuple es k2 pt) X.env) :: starEach [] X.env := by rfl) (hpl : (backTo pos (starEach [.Tuple es k2 pt] X.env)).any (·.1) = false := by rfl) :
    DE X (.Call (.Name "isinstance" p) [.Name n p2, .Tuple es k2 pt] [] pos) (.rt []) (fE i a (.bl b)) :=
  pe_mono (pe_callB (call_isBT B C) hg hm (by decide +kernel) (pa_cons (pe_var hN hv hdn hcd) (pa_cons (pe_tup hC) pa_nil he2) he) (by decide) (by decide) he hpl) fun σ H Q ⟨H0, ρ, fm, d, er, hf, q⟩ => by
    obtain ⟨hi, rfl⟩ := fE_of hf
    obtain ⟨v, hσ, rv⟩ := er.al i _ hi
    have ev0 : v = .ref a := by
      generalize fm i = fp at rv
      cases rv
      rfl
    subst ev0
    refine ⟨_, hσ, tCL_of (cs := cs) ⟨hl, fun tp htp => ?_⟩⟩
    have hup : upd H tp (.tup cs) tp = some (.tup cs) := by simp [upd]
    exact ⟨tp, cs, us, b, rfl, hup, k, e, q (.bl b) _ [] (same_upd htp) (.bl b) Kd.ok_nil⟩
end
end Z
namespace Z
open PySem PySem.Spec PyProof.Rows L2
def isC (K : PySem.W.Frag) (c : Str) : Bool :=
  decide (PySem.W.findIn K (clsV K c) "__getattribute__" = some (some (.builtin "BaseException.__getattribute__"))) &&
  (decide (PySem.W.findIn K (clsV K c) "__getattr__" = some none) &&
  (decide (PySem.W.subIn K (clsV K c) (.type "BaseException") = some true) &&
  (PySem.W.hasDictIn K (He.ga K c) &&
  (decide (PySem.W.findIn K (clsV K c) "__class__" = some (some (.builtin "object.__class__"))) &&
  (decide (PySem.W.specialIn K (.builtin "object.__class__") "__get__" = some (some (.builtin "getset_descriptor.__get__"))) &&
  (decide (PySem.W.takesIn K (.builtin "object.__class__") = some true) &&
  decide (PySem.W.mroIn K (He.ga K c) (.type "object") = some true)))))))
theorem isC_ok {K : PySem.W.Frag} {c : Str} (h : isC K c = true) : ExcC K (He.ga K c) := by
  obtain ⟨h1, h⟩ := He.ba h
  obtain ⟨h2, h⟩ := He.ba h
  obtain ⟨h3, h⟩ := He.ba h
  obtain ⟨h4, h⟩ := He.ba h
  obtain ⟨h5, h⟩ := He.ba h
  obtain ⟨h6, h⟩ := He.ba h
  obtain ⟨h7, h8⟩ := He.ba h
  exact ⟨of_decide_eq_true h1, of_decide_eq_true h2, of_decide_eq_true h3, h4, of_decide_eq_true h5, of_decide_eq_true h6, of_decide_eq_true h7, of_decide_eq_true h8⟩
def kitC (K : PySem.W.Frag) (c y : Str) (b : Bool) : Bool := decide (PySem.W.kitOne K (clsV K c) (clsV K y) = some b)
theorem kitC_ok {K : PySem.W.Frag} {c y : Str} {b : Bool} (h : kitC K c y b = true) : PySem.W.kitOne K (clsV K c) (clsV K y) = some b := of_decide_eq_true h
def kitT (K : PySem.W.Frag) (c : Str) (T : String) (b : Bool) : Bool := decide (PySem.W.kitOne K (clsV K c) (.type T) = some b)
theorem kitT_ok {K : PySem.W.Frag} {c : Str} {T : String} {b : Bool} (h : kitT K c T b = true) : PySem.W.kitOne K (clsV K c) (.type T) = some b := of_decide_eq_true h
def kitN (K : PySem.W.Frag) (c : Str) (ys : List Str) : Bool := ys.all fun y => kitC K c y false
theorem kitN_ok {K : PySem.W.Frag} {c : Str} : ∀ {ys : List Str}, kitN K c ys = true → PySem.W.kitAny K (clsV K c) (ys.map (clsV K)) = some false
  | [], _ => rfl
  | y :: ys, h => by
    unfold kitN at h
    rw [List.all_cons] at h
    obtain ⟨h1, h2⟩ := He.ba h
    exact kitAny_cons (kitC_ok h1) (fun _ => kitN_ok h2) (fun z => by cases z)
theorem clsVs {K : PySem.W.Frag} : ∀ ys : List Str, Paired ClsV (ys.map fun y => V.ref (He.ga K y)) (ys.map (clsV K))
  | [] => .nil
  | y :: ys => .cons (.own _) (clsVs ys)
theorem rs_raiseC {X : Cx} {W : WX} {x m : Str} {j : Nat} {p p2 pos2 pos : Pos} (hc : X.calm = true) (tk : Takes X W) (hx : (He.Fa.exc x).ok X.K = true) (gC : X.mg x = some (clsV X.K x)) (hg : Gl X x) (hdb : (x == ("__debug__" : Str)) = false := by decide) :
    RS X W (.Raise (some (.Call (.Name x p) [.Constant (.str m) j p2] [] pos2)) none pos) (rRaise x) := by
  obtain ⟨q, kC, s, t⟩ := He.exc_ok hx
  exact rs_raise hc tk PySem.F.excBase_ValueError q gC kC (raises_own s t) hg hdb
theorem FdR.fd {P : Program} {w : World} {K : PySem.W.Frag} {mg : Str → Option Value} {base : Heap} {x : Str} {k : Nat} {fx : List D → Option Res} {f : List D → Option D} (h : FdR P w K mg base x k fx) (l : ∀ ds d, f ds = some d → fx ds = some (.inl d)) : Fd P w K mg base x k [] f := by
  obtain ⟨a, fd, ps, hm, hk, hb, F⟩ := h.ex
  refine ⟨a, fd, ps, [], [], hm, hk, hb, .nil, fun _ => .nil, ⟨fun vs H Q E ⟨ds, fp, d, r, hf, q⟩ => F.len vs H Q E0 ⟨ds, fp, .inl d, r, l ds d hf, q⟩, fun A outer s H args us vs Q E hr e0 hbt hv ⟨ds, fp, d, r, hf, q⟩ => ?_⟩⟩
  refine codeAny_mono (F.run A outer s H args us vs Q E0 hr e0 hbt hv ⟨ds, fp, .inl d, r, l ds d hf, q⟩) fun r s' hq => ?_
  cases r with
  | ok fl =>
    cases fl with
    | ret u => exact hq
    | next => exact hq
    | brk => exact hq
    | cont => exact hq
  | error e =>
    obtain ⟨_, _, _, _, _, _, _, _, _, _, _, _, z⟩ := hq
    exact z.elim
end Z
namespace Z
open PySem PySem.Spec PyProof.Rows L2
theorem fE_at {i : Nat} {a : Addr} {d : D} {ρ : Ev} (h : ρ[i]? = some (.al (.ptr a))) : fE i a d ρ = some d := by
  unfold fE
  rw [h]
  exact if_pos rfl
end Z
namespace Z
open PySem PySem.Spec PyProof.Rows L2
abbrev rgD (n : Int) : List D := (List.range (n - 0).toNat).map fun i => D.int (0 + (i : Nat))
noncomputable def fLstRg (f : FE) : FE := fun ρ => (f ρ).bind fun d => match d with
  | .int n => gd (RgOk 0 n) (some (.lst (rgD n)))
  | _ => none
theorem repL_ints {K : PySem.W.Frag} {H : Hp} : ∀ xs : List Int, RepL K H (xs.map V.int) (xs.map D.int) []
  | [] => .nil
  | x :: xs => .cons (fp := []) (fq := []) (.int x) (repL_ints xs)
theorem repL_rg {K : PySem.W.Frag} {H : Hp} (n : Int) : RepL K H (rgV 0 n) (rgD n) [] := by
  have := repL_ints (K := K) (H := H) ((List.range (n - 0).toNat).map fun i : Nat => (0 + (i : Int)))
  rw [List.map_map, List.map_map] at this
  exact this
theorem de_listRg1 {X : Cx} {a : Expr} {κ : Kd} {f : FE} {p p2 pos pos2 : Pos} (hc : X.calm = true) (hg : Gl X "list") (hm : X.mg "list" = none) (hgr : Gl X "range") (hmr : X.mg "range" = none) (ha : DE X a κ f)
    (na : starEach [a] X.env = (false, eval a X.env) :: starEach [] X.env := by rfl) (nb : starEach [Expr.Call (.Name "range" p2) [a] [] pos2] X.env = (false, eval (.Call (.Name "range" p2) [a] [] pos2) X.env) :: starEach [] X.env := by rfl) :
    DE X (.Call (.Name "list" p) [.Call (.Name "range" p2) [a] [] pos2] [] pos) (.rt []) (fLstRg f) :=
  pe_mono (pe_listRg hc hg hm (prg_1 hgr hmr ha na) nb) fun σ H Q ⟨H0, ρ, fm, d, er, hf, q⟩ => by
    obtain ⟨d0, h1, h2⟩ := bind_some hf
    refine ⟨H0, ρ, fm, d0, er, h1, fun v H1 fp s1 r1 k1 => ?_⟩
    split at h2
    · next n =>
      obtain ⟨hr, h2⟩ := gds h2
      cases h2
      refine ⟨n, r1.asI, hr, fun b hb => ?_⟩
      have s2 := same_upd (o := .lst (rgV 0 n)) hb
      refine q (.ref b) _ [b] (s1.trans s2) (.lst (fp := []) (by simp [upd]) (repL_rg _)) ⟨by simp, fun a ha => ?_⟩
      rw [List.mem_singleton.mp ha]
      exact .inl (s1.free hb)
    · cases h2
def sortI (xs : List Int) : List Int := xs.mergeSort fun a b => decide (a ≤ b)
theorem sortI_perm (xs : List Int) : (sortI xs).Perm xs := List.mergeSort_perm _ _
theorem sortI_pw (xs : List Int) : (sortI xs).Pairwise (· ≤ ·) := by
  have := List.pairwise_mergeSort (le := fun a b : Int => decide (a ≤ b)) (fun a b c h1 h2 => by simp at *; omega) (fun a b => by simp; omega) xs
  unfold sortI
  simpa using this
theorem sortI_eq {xs ys : List Int} (p : ys.Perm xs) (w : ys.Pairwise (· ≤ ·)) : ys = sortI xs :=
  List.Perm.eq_of_pairwise (fun a b _ _ h1 h2 => Int.le_antisymm h1 h2) w (sortI_pw xs) (p.trans (sortI_perm xs).symm)
def dSorted : List D → Option D
  | [d] => (d.lsq).bind fun xs => (intsOf xs).bind fun ns => if ns.length < 64 then some (.lst ((sortI ns).map D.int)) else none
  | _ => none
theorem o_sorted {K : PySem.W.Frag} : OpA K (rSorted K) dSorted := by
  intro x d vx H fx Q h r q
  unfold dSorted at h
  split at h
  · obtain ⟨v, rfl, rr⟩ := r.one
    obtain ⟨ds, h1, h⟩ := bind_some h
    obtain ⟨ns, h2, h⟩ := bind_some h
    obtain ⟨h64, rfl⟩ := ifs h
    obtain ⟨a, vs, fz, rfl, hs, rl, _⟩ := rr.lsq h1
    refine ⟨a, ns, rfl, by rw [← intsOf_rep rl h2]; exact hs.sq, h64, fun ns' p pm pw hp => ?_⟩
    have e := sortI_eq pm pw
    subst e
    exact q (.ref p) _ [p] (same_upd hp) (.lst (fp := []) (by simp [upd]) (repL_ints _)) (by simp) fun a ha => by
      rw [List.mem_singleton.mp ha]
      exact hp
  · cases h
theorem ifs' {α : Type} {c : Prop} [Decidable c] {x : Option α} {y : α} (h : (if c then x else none) = some y) : c ∧ x = some y := by
  by_cases hc : c
  · rw [if_pos hc] at h; exact ⟨hc, h⟩
  · rw [if_neg hc] at h; cases h
def dInD (d s : D) : Option Bool := (s.lsq).bind fun xs => if d.eqOk 64 = true ∧ s.eqOk 64 = true then some (xs.any fun z => z.eqv d) else none
theorem lsq_py {s : D} {xs : List D} (h : s.lsq = some xs) : s.py = .list (D.pyL xs) := by
  cases s with
  | lst ys => cases h; rw [D.py]
  | kls ys => cases h; rw [D.py]
  | _ => cases h
theorem lsq_ok {s : D} {xs : List D} (h : s.lsq = some xs) (h2 : s.eqOk 64 = true) : ∀ x ∈ xs, x.eqOk 63 = true := by
  have k : D.eqOkL xs 63 = true := by
    cases s with
    | lst ys => cases h; rw [D.eqOk] at h2; exact h2
    | kls ys => cases h; rw [D.eqOk] at h2; exact h2
    | _ => cases h
  have : ∀ xs : List D, D.eqOkL xs 63 = true → ∀ x ∈ xs, x.eqOk 63 = true := fun xs => by
    induction xs with
    | nil => intro _ x hx; cases hx
    | cons y ys ih =>
      intro h x hx
      rw [D.eqOkL, Bool.and_eq_true] at h
      rcases List.mem_cons.mp hx with rfl | hx
      · exact h.1
      · exact ih h.2 x hx
  exact this xs k
theorem pyL_map : ∀ xs : List D, D.pyL xs = xs.map D.py
  | [] => by rw [D.pyL]; rfl
  | x :: xs => by rw [D.pyL, pyL_map xs]; rfl
theorem o_inD {K : PySem.W.Frag} : OpC K (rInD K) dInD := by
  intro x y b vx vy H fx fy Q h r1 r2 q
  obtain ⟨xs, h1, h⟩ := bind_some h
  obtain ⟨⟨h2, h3⟩, rfl⟩ := ifs h
  have e := lsq_py h1
  have k2 := r2.dp 64 h3
  have s2 := D.eqOk_shp h3
  rw [e] at k2 s2
  refine ⟨x.py, D.pyL xs, r1.dp 64 h2, k2, D.eqOk_shp h2, s2, ?_⟩
  have e2 : ((D.pyL xs).any fun z => PyData.eqv z x.py) = xs.any fun z => z.eqv x := by
    rw [pyL_map, List.any_map]
    have : ∀ ys : List D, (∀ z ∈ ys, z.eqOk 63 = true) → ys.any ((fun z => PyData.eqv z x.py) ∘ D.py) = ys.any fun z => z.eqv x := fun ys => by
      induction ys with
      | nil => intro _; rfl
      | cons z zs ih =>
        intro hz
        rw [List.any_cons, List.any_cons, ih fun w hw => hz w (List.mem_cons_of_mem _ hw)]
        congr 1
        exact D.eqv_py z x 63 64 (hz z List.mem_cons_self) h2
    exact this xs (lsq_ok h1 h3)
  rw [e2]
  exact q
def dIndex (s d : D) : Option D := (s.lsq).bind fun xs => if d.eqOk 64 = true ∧ s.eqOk 64 = true then (xs.findIdx? fun z => z.eqv d).bind fun j => some (.int (j : Nat)) else none
section
variable {X : Cx} {o e b : Expr} {κ κ' : Kd} {fo fe : FE} {apos cpos pos : Pos}
theorem de_index (hu : X.A.units + 65 < cLine) (ho : DE X o κ fo) (he : DE X e κ' fe)
    (hbase : attributeBase o "index" X.env (eval o X.env) = eval o X.env := by rfl)
    (hfew : ((backTo cpos (starEach [e] X.env)).all (fun x => !x.1) && (backToKw cpos (keywordEach [] X.env)).all (fun x => x.1.isSome)
      && decide (([e] : List Expr).length + ([] : List Keyword).length + (if ([] : List Keyword).isEmpty then 0 else 1) < 30)) = true := by rfl)
    (hline : (apos.endLine == cpos.line) = true := by rfl) (hst : starEach [e] X.env = (false, eval e X.env) :: starEach [] X.env := by rfl) (hplain : (backTo cpos (starEach [] X.env)).any (·.1) = false := by rfl) :
    DE X (.Call (.Attribute o "index" apos) [e] [] cpos) (.rt []) (f2 dIndex fo fe) :=
  pe_mono (pe_bm PySem.F.plainAttrs_list PySem.F.slot_list_index PySem.F.type_list_index (mt_indexD hu) ho (pa_cons he pa_nil hst) hbase hfew hline hst hplain) fun σ H Q ⟨H0, ρ, fm, d, er, hf, q⟩ => by
    obtain ⟨s, h1, hf⟩ := bind_some hf
    obtain ⟨x, h2, hf⟩ := bind_some hf
    obtain ⟨xs, h3, hf⟩ := bind_some hf
    obtain ⟨⟨h4, h5⟩, hf⟩ := ifs' hf
    obtain ⟨j, h6, h7⟩ := bind_some hf
    cases h7
    refine ⟨H0, ρ, fm, s, er, h1, fun v H1 fp s1 r1 k1 => ?_⟩
    obtain ⟨a, vs, fq, rfl, hs, rl, _⟩ := r1.lsq h3
    refine ⟨.inl ⟨rfl, _, hs.sq⟩, H0, ρ, fm, x, er.mono s1, h2, fun w H2 fz s2 r2 k2 => ?_⟩
    have e := lsq_py h3
    have k3 := (r1.same s2).dp 64 h5
    have s3 := D.eqOk_shp h5
    rw [e] at k3 s3
    have ok := lsq_ok h3 h5
    obtain ⟨hj, hz, hno⟩ := List.findIdx?_eq_some_iff_getElem.mp h6
    refine ⟨a, w, x.py, D.pyL xs, j, xs[j].py, rfl, rfl, k3, r2.dp 64 h4, s3, D.eqOk_shp h4, by rw [pyL_map, List.getElem?_map, List.getElem?_eq_getElem hj]; rfl, by rw [D.eqv_py _ _ 63 64 (ok _ (List.getElem_mem hj)) h4]; exact hz, fun m z' hm hz' => ?_, q _ H2 [] (s1.trans s2) (.int _) Kd.ok_nil⟩
    rw [pyL_map, List.getElem?_map, List.getElem?_eq_getElem (Nat.lt_trans hm hj)] at hz'
    cases hz'
    rw [D.eqv_py _ _ 63 64 (ok _ (List.getElem_mem _)) h4]
    simpa using hno m hm
end
end Z
namespace Z
open PySem PySem.Spec PyProof.Rows L2
def xPopAt (i : Nat) (fk : FE) : FX := fun ρ => (slotO i ρ).bind fun d => match d with
  | .lst xs => (fk ρ).bind fun k => match k with
    | .int n => (ixN xs.length n).bind fun j => (xs[j]?).bind fun y => if y.imm = true ∧ (xs.length : Int) < 2 ^ 62 then some (y, putD ρ i (.lst (xs.eraseIdx j))) else none
    | _ => none
  | _ => none
theorem RepL.erase {K : PySem.W.Frag} {H : Hp} : ∀ {vs : List V} {ds : List D} {fp : List Addr} (j : Nat), RepL K H vs ds fp → ∃ fq, RepL K H (vs.eraseIdx j) (ds.eraseIdx j) fq ∧ (∀ a ∈ fq, a ∈ fp) ∧ (fp.Nodup → fq.Nodup)
  | _, _, _, _, .nil => ⟨[], .nil, fun _ z => z, fun h => h⟩
  | _, _, _, 0, .cons (fp := f1) (fq := f2) _ r => ⟨f2, r, fun a h => List.mem_append_right _ h, fun h => (List.nodup_append.mp h).2.1⟩
  | _, _, _, j + 1, .cons (fp := f1) (fq := f2) x r => by
    obtain ⟨fq, h1, h2, h3⟩ := RepL.erase j r
    refine ⟨f1 ++ fq, .cons x h1, fun a ha => (List.mem_append.mp ha).elim (List.mem_append_left _) fun z => List.mem_append_right _ (h2 a z), fun nd => ?_⟩
    obtain ⟨n1, n2, n3⟩ := List.nodup_append.mp nd
    exact List.nodup_append.mpr ⟨n1, h3 n2, fun a ha b hb => n3 a ha b (h2 b hb)⟩
theorem RepL.atD {K : PySem.W.Frag} {H : Hp} : ∀ {vs : List V} {ds : List D} {fp : List Addr} {j : Nat} {y : D}, RepL K H vs ds fp → ds[j]? = some y → ∃ v f, vs[j]? = some v ∧ Rep K H v y f
  | _, _, _, _, _, .nil, h => by simp at h
  | _, _, _, 0, _, .cons x r, h => by cases h; exact ⟨_, _, rfl, x⟩
  | _, _, _, j + 1, _, .cons x r, h => by
    obtain ⟨v, f, h1, h2⟩ := RepL.atD (j := j) r h
    exact ⟨v, f, h1, h2⟩
theorem Ex.put {K : PySem.W.Frag} {H0 H H' : Hp} {σ : L2.St} {ρ : Ev} {fm fm' : Nat → List Addr} {i : Nat} {d d' : D} (hi : odAt ρ i = some d) (e1 : ER K H0 H' σ (putD ρ i d') fm') (e2 : Fr H ρ fm H' (putD ρ i d') fm') (hfm : ∀ j, j ≠ i → fm' j = fm j) : Ex H ρ fm H' (putD ρ i d') fm' := by
  obtain ⟨x, hx, hp, _⟩ := putD_x (ρ := ρ) (i := i) d'
  have hlt : i < ρ.length := by
    obtain ⟨y, hy, _⟩ := odAt_at hi
    exact (List.getElem?_eq_some_iff.mp hy).1
  have oi : odAt (putD ρ i d') i = some d' := by
    rw [hp]
    unfold odAt
    rw [List.getElem?_set_self hlt]
    exact hx
  refine ⟨e2, fun j hj => ?_, fun j e he => ?_⟩
  · have ne : j ≠ i := fun z => by subst z; rw [hi] at hj; cases hj
    rw [hp, List.getElem?_set_ne (fun z => ne z.symm)]
    exact ⟨rfl, hfm j ne⟩
  · by_cases z : j = i
    · subst z; exact ⟨d', oi⟩
    · refine ⟨e, ?_⟩
      rw [hp]
      unfold odAt at he ⊢
      rw [List.getElem?_set_ne (fun w => z w.symm)]
      exact he
end Z
namespace Z
open PySem PySem.Spec PyProof.Rows L2
section
variable {X : Cx} {b : Expr} {i : Nat} {κ : Kd} {fk : FE} {fx : FX} {x : Str} {pos apos cpos xpos : Pos}
theorem dx_popAt (i : Nat) (hN : X.N[i]? = some x) (hv : Vis X.env.scope x) (hb : DE X b κ fk) (hd : (x == ("__debug__" : Str)) = false := by decide) (hcd : (x == ("__classdict__" : Str)) = false := by decide)
    (hbase : attributeBase (.Name x xpos) "pop" X.env (eval (.Name x xpos) X.env) = eval (.Name x xpos) X.env := by rfl)
    (hfew : ((backTo cpos (starEach [b] X.env)).all (fun x => !x.1) && (backToKw cpos (keywordEach [] X.env)).all (fun x => x.1.isSome)
      && decide (([b] : List Expr).length + ([] : List Keyword).length + (if ([] : List Keyword).isEmpty then 0 else 1) < 30)) = true := by rfl)
    (hline : (apos.endLine == cpos.line) = true := by rfl) (hst : starEach [b] X.env = (false, eval b X.env) :: starEach [] X.env := by rfl) (hplain : (backTo cpos (starEach [] X.env)).any (·.1) = false := by rfl) :
    DX X (.Call (.Attribute (.Name x xpos) "pop" apos) [b] [] cpos) true (xPopAt i fk) :=
  pe_mono (pe_bm PySem.F.plainAttrs_list PySem.F.slot_list_pop PySem.F.type_list_pop mt_popAt (pl_var i hN hv hd hcd) (pa_cons hb pa_nil hst) hbase hfew hline hst hplain) fun σ H Q ⟨H0, ρ, fm, dr, ρ', er, hf, q⟩ => by
    obtain ⟨d, h1, hf⟩ := bind_some hf
    cases d with
    | lst xs =>
      obtain ⟨k, h2, hf⟩ := bind_some (x := fk ρ) hf
      cases k with
      | int n =>
        obtain ⟨j, h3, hf⟩ := bind_some (x := ixN xs.length n) hf
        obtain ⟨y, h4, hf⟩ := bind_some (x := xs[j]?) hf
        obtain ⟨⟨him, hsz⟩, hf⟩ := ifs hf
        cases hf
        obtain ⟨g1, g2, g3, g4⟩ := ixN_seq h3
        have hi := slotO_some h1
        refine ⟨H0, ρ, fm, [], .lst xs, er, (by unfold pNil; rw [h1]; rfl), hi, fun u H1 s1 ⟨v, d', f', hv', hA, nd⟩ => ?_⟩
        obtain ⟨rfl, l, vs, rfl, hl⟩ := asL_at hA rfl
        refine ⟨.inl ⟨rfl, _, SqL.of hl⟩, H0, ρ, fm, .int n, er.mono s1, h2, fun w H2 fz s2 r2 k2 => ?_⟩
        obtain ⟨vs2, fpl, c1, c2, c3, c4, c5, c6⟩ := er.changeX (s1.trans s2) hi hv' (hA.same s2)
        obtain ⟨y', fy, hy', ry⟩ := c2.atD h4
        obtain rfl := ry.imm him
        have t : IsLs H2 l := ⟨_, c1⟩
        have hlen := c2.len
        obtain ⟨fq, p1, p2, p3⟩ := (repL_upd (o := .lst (vs2.eraseIdx j)) t c2 c4).erase j
        obtain ⟨fm', e1, e2, e3⟩ := c6 (vs2.eraseIdx j) (xs.eraseIdx j) fq p1 (p3 c3) fun b hb => .inl (p2 b hb)
        refine ⟨l, vs2, n, j, y', rfl, by rw [r2.asI], c1, by omega, by omega, by rw [hlen]; exact g1, hy', ?_⟩
        exact q y' _ fm' [] e1 (Ex.put hi e1 e2 e3) (rep_upd t ry fun z => nomatch z) KX.nil
      | _ => cases hf
    | _ => cases hf
theorem atR_nil {K : PySem.W.Frag} {H : Hp} {v u : V} {d d' : D} {fp f' : List Addr} (h : AtR K H v d fp [] u d' f') : u = v := by
  cases h
  rfl
noncomputable def sAppendX (i : Nat) (fx : FX) : FS := fun ρ => (slotO i ρ).bind fun d0 => match d0 with
  | .lst _ => (fx ρ).bind fun p => if p.1.imm = true then (slotO i p.2).bind fun d => match d with
    | .lst xs => gd (xs.length < sizeLine) (some (.nx (putD p.2 i (.lst (xs ++ [p.1])))))
    | _ => none else none
  | _ => none
theorem ds_appendX {κ : Bool} (i : Nat) (hN : X.N[i]? = some x) (hv : Vis X.env.scope x) (hb : DX X b κ fx) (hd : (x == ("__debug__" : Str)) = false := by decide) (hcd : (x == ("__classdict__" : Str)) = false := by decide)
    (hs : swapsWith (.Call (.Attribute (.Name x xpos) "append" apos) [b] [] cpos) none pos.line X.env = pure false := by rfl)
    (hbase : attributeBase (.Name x xpos) "append" X.env (eval (.Name x xpos) X.env) = eval (.Name x xpos) X.env := by rfl)
    (hfew : ((backTo cpos (starEach [b] X.env)).all (fun x => !x.1) && (backToKw cpos (keywordEach [] X.env)).all (fun x => x.1.isSome)
      && decide (([b] : List Expr).length + ([] : List Keyword).length + (if ([] : List Keyword).isEmpty then 0 else 1) < 30)) = true := by rfl)
    (hline : (apos.endLine == cpos.line) = true := by rfl) (hst : starEach [b] X.env = (false, eval b X.env) :: starEach [] X.env := by rfl) (hplain : (backTo cpos (starEach [] X.env)).any (·.1) = false := by rfl) :
    DS X (.Expr (.Call (.Attribute (.Name x xpos) "append" apos) [b] [] cpos) pos) (sAppendX i fx) :=
  ps_mono (ps_expr (pe_bm PySem.F.plainAttrs_list PySem.F.slot_list_append PySem.F.type_list_append mt_append (pl_var i hN hv hd hcd) (pa_cons hb pa_nil hst) hbase hfew hline hst hplain) hs) fun Dn σ H ⟨H0, ρ, fm, o, er, hf, k⟩ => by
    obtain ⟨d0, h1, hf⟩ := bind_some hf
    cases d0 with
    | lst xs0 =>
      obtain ⟨⟨y, ρ1⟩, h2, hf⟩ := bind_some (x := fx ρ) hf
      obtain ⟨him, hf⟩ := ifs' hf
      obtain ⟨d, h3, hf⟩ := bind_some (x := slotO i ρ1) hf
      cases d with
      | lst xs =>
        obtain ⟨hz, hf⟩ := gds hf
        cases hf
        have hi := slotO_some h1
        refine ⟨H0, ρ, fm, [], .lst xs0, er, (by unfold pNil; rw [h1]; rfl), hi, fun u H1 s1 ⟨v, d', f', hv', hA, nd⟩ => ?_⟩
        obtain ⟨rfl, l, vs, rfl, hl⟩ := asL_at hA rfl
        obtain ⟨v0, hv0, r0, _⟩ := (er.mono s1).own i _ hi
        rw [hv'] at hv0
        cases hv0
        obtain ⟨a0, vs0, fq0, ea0, hl0, rl0, ef0⟩ := r0.asL
        subst ea0
        have el := atR_nil hA
        cases el
        refine ⟨.inl ⟨rfl, _, SqL.of hl⟩, H0, ρ, fm, y, ρ1, er.mono s1, h2, fun w H2 fm1 fp er1 ex1 r2 k2 => ?_⟩
        obtain rfl := r2.imm him
        have hi1 := slotO_some h3
        obtain ⟨v1, hv1, r1, nd1, _⟩ := er1.own i _ hi1
        rw [hv'] at hv1
        cases hv1
        obtain ⟨vs2, fpl, c1, c2, c3, c4, c5, c6⟩ := er1.changeX (Same.refl H2) hi1 hv' (.nil r1)
        have t : IsLs H2 l := ⟨_, c1⟩
        obtain ⟨fm', e1, e2, e3⟩ := c6 (vs2 ++ [w]) (xs ++ [y]) (fpl ++ ([] ++ [])) ((repL_upd t c2 c4).app (.cons (rep_upd t r2 fun z => nomatch z) .nil)) (by simpa using c3) fun b hb => .inl (by simpa using hb)
        exact ⟨l, vs2, w, rfl, rfl, c1, by rw [c2.len]; exact hz, k _ _ fm' e1 ((Fr.of_same s1 fun _ z => .inl z).trans (ex1.fr.trans e2))⟩
      | _ => cases hf
    | _ => cases hf
end
def rDrop (f : FER) : FR := fun ρ => (f ρ).bind fun r => match r with
  | .inl _ => some (.ok (.nx ρ))
  | .inr c => some (.xc c ρ)
theorem rs_drop {X : Cx} {W : WX} {e : Expr} {fe : FER} {pos : Pos} (he : DER X W e fe) (hs : swapsWith e none pos.line X.env = pure false := by rfl) : RS X W (.Expr e pos) (rDrop fe) := ps_mono (ps_expr he hs) fun Dn σ H ⟨H0, ρ, fm, o, er, hf, q⟩ => by
  obtain ⟨r, h1, h2⟩ := bind_some hf
  refine ⟨H0, ρ, fm, r, er, h1, ?_⟩
  cases r with
  | inl d =>
    cases h2
    exact fun v H1 fp s1 r1 k1 => q σ H1 fm (er.mono s1) (Fr.of_same s1 fun _ z => .inl z)
  | inr c =>
    cases h2
    exact fun H1 s1 => xc_at er q s1
end Z
namespace Z
open PySem PySem.Spec PyProof.Rows L2
theorem roomU {k : Nat} {A : Around} (r : Room k A) : A.units + 65 < cLine := by have := r.un; omega
end Z
namespace Z
open PySem PySem.Spec PyProof.Rows L2
theorem de_emp {X : Cx} {pos : Pos} : DE X (.Dict [] [] pos) (.rt []) (fC .emp) := pe_mono pe_dnewK fun σ H Q ⟨H0, ρ, fm, d, er, hf, q⟩ p hp => by
  cases hf
  exact q (.ref p) _ [] (same_upd hp) (.emp (by simp [upd])) Kd.ok_nil
end Z
namespace Z
open PySem PySem.Spec PyProof.Rows L2
theorem fdR_mkD {P : Program} {w : World} {K : PySem.W.Frag} {mg : Str → Option Value} {base : Heap} {x : Str} {f : Addr} {fd : FuncData} {ps : List Str} {k : Nat} {dvs : List V} {g : List D → Option Res} (hm : mg x = some (.ref f)) (hk : PySem.W.keepIn K (.ref f) = true) (hb : ∃ ds, Vals dvs ds ∧ Binds K fd ps ds) (he : dvs = []) (h : FnOk P w K mg base (L2.CX P w) k f fd ps (spR K g)) : FdR P w K mg base x k g := by
  obtain ⟨ds, h1, h2⟩ := hb
  subst he
  cases h1
  exact fdR_mk hm hk h2 h
end Z
namespace G
open PySem PySem.Spec PyProof.Rows L2 Z
noncomputable def F_is_whole : FS :=
  (sRet (fAnd (fA dIsi (fCons (fAl 0) (fCons (fC (.ty "int")) fNil))) (f1 dNot (fA dIsi (fCons (fAl 0) (fCons (fC (.ty "bool")) fNil))))))
abbrev N_is_whole : List Str := ["thing"]
noncomputable def f_is_whole : List D → Option D := fnD N_is_whole 1 F_is_whole
theorem e_is_whole (x0 : D) : f_is_whole [x0] = (F_is_whole [.al x0]).bind outD := rfl
noncomputable def F_common : FS :=
  (sSeq (sWhile (c2 dNe (fAl 1) (fC (.int 0))) (sPar 0 1 (fCons (fAl 1) (fCons (f2 dMod (fAl 0) (fAl 1)) fNil))))
  (sRet (fImm (fAl 0))))
abbrev N_common : List Str := ["one", "other"]
noncomputable def f_common : List D → Option D := fnD N_common 2 F_common
theorem e_common (x0 x1 : D) : f_common [x0, x1] = (F_common [.al x0, .al x1]).bind outD := rfl
noncomputable def F_is_fraction : FS :=
  (sSeq (sIf (cOr (cNot (c1 dTru (fA dIsi (fCons (fAl 0) (fCons (fC (.ty "tuple")) fNil))))) (cOr (c2 dNe (fA dLen (fCons (fAl 0) fNil)) (fC (.int 2))) (cOr (cNot (c1 dTru (fCall f_is_whole [] (fCons (f2 dIx (fAl 0) (fC (.int 0))) fNil)))) (cNot (c1 dTru (fCall f_is_whole [] (fCons (f2 dIx (fAl 0) (fC (.int 1))) fNil))))))) (sRet (fC (.bl false))) sNext)
  (sRet (fAnd (fB (c2 dGt (f2 dIx (fAl 0) (fC (.int 1))) (fC (.int 0)))) (fB (c2 dEq (fCall f_common [] (fCons (fA dAbs (fCons (f2 dIx (fAl 0) (fC (.int 0))) fNil)) (fCons (f2 dIx (fAl 0) (fC (.int 1))) fNil))) (fC (.int 1)))))))
abbrev N_is_fraction : List Str := ["thing"]
noncomputable def f_is_fraction : List D → Option D := fnD N_is_fraction 1 F_is_fraction
theorem e_is_fraction (x0 : D) : f_is_fraction [x0] = (F_is_fraction [.al x0]).bind outD := rfl
noncomputable def F_fraction : FS :=
  (sSeq (sIf (cOr (cNot (c1 dTru (fCall f_is_whole [] (fCons (fAl 0) fNil)))) (cOr (cNot (c1 dTru (fCall f_is_whole [] (fCons (fAl 1) fNil)))) (c2 dEq (fAl 1) (fC (.int 0))))) sNever sNext)
  (sSeq (sIf (c2 dLt (fAl 1) (fC (.int 0))) (sPar 0 1 (fCons (f1 dNeg (fAl 0)) (fCons (f1 dNeg (fAl 1)) fNil))) sNext)
  (sSeq (sAl 2 (fCall f_common [] (fCons (fA dAbs (fCons (fAl 0) fNil)) (fCons (fAl 1) fNil))))
  (sRet (fTup (fCons (f2 dDiv (fAl 0) (fAl 2)) (fCons (f2 dDiv (fAl 1) (fAl 2)) fNil)))))))
abbrev N_fraction : List Str := ["top", "bottom", "shared"]
noncomputable def f_fraction : List D → Option D := fnD N_fraction 2 F_fraction
theorem e_fraction (x0 x1 : D) : f_fraction [x0, x1] = (F_fraction [.al x0, .al x1, .no]).bind outD := rfl
noncomputable def F_plus : FS :=
  (sRet (fCall f_fraction [] (fCons (f2 dAdd (f2 dMul (f2 dIx (fAl 0) (fC (.int 0))) (f2 dIx (fAl 1) (fC (.int 1)))) (f2 dMul (f2 dIx (fAl 1) (fC (.int 0))) (f2 dIx (fAl 0) (fC (.int 1))))) (fCons (f2 dMul (f2 dIx (fAl 0) (fC (.int 1))) (f2 dIx (fAl 1) (fC (.int 1)))) fNil))))
abbrev N_plus : List Str := ["one", "other"]
noncomputable def f_plus : List D → Option D := fnD N_plus 2 F_plus
theorem e_plus (x0 x1 : D) : f_plus [x0, x1] = (F_plus [.al x0, .al x1]).bind outD := rfl
noncomputable def F_minus : FS :=
  (sRet (fCall f_fraction [] (fCons (f2 dSub (f2 dMul (f2 dIx (fAl 0) (fC (.int 0))) (f2 dIx (fAl 1) (fC (.int 1)))) (f2 dMul (f2 dIx (fAl 1) (fC (.int 0))) (f2 dIx (fAl 0) (fC (.int 1))))) (fCons (f2 dMul (f2 dIx (fAl 0) (fC (.int 1))) (f2 dIx (fAl 1) (fC (.int 1)))) fNil))))
abbrev N_minus : List Str := ["one", "other"]
noncomputable def f_minus : List D → Option D := fnD N_minus 2 F_minus
theorem e_minus (x0 x1 : D) : f_minus [x0, x1] = (F_minus [.al x0, .al x1]).bind outD := rfl
noncomputable def F_times : FS :=
  (sRet (fCall f_fraction [] (fCons (f2 dMul (f2 dIx (fAl 0) (fC (.int 0))) (f2 dIx (fAl 1) (fC (.int 0)))) (fCons (f2 dMul (f2 dIx (fAl 0) (fC (.int 1))) (f2 dIx (fAl 1) (fC (.int 1)))) fNil))))
abbrev N_times : List Str := ["one", "other"]
noncomputable def f_times : List D → Option D := fnD N_times 2 F_times
theorem e_times (x0 x1 : D) : f_times [x0, x1] = (F_times [.al x0, .al x1]).bind outD := rfl
noncomputable def F_less : FS :=
  (sRet (fB (c2 dLt (f2 dMul (f2 dIx (fAl 0) (fC (.int 0))) (f2 dIx (fAl 1) (fC (.int 1)))) (f2 dMul (f2 dIx (fAl 1) (fC (.int 0))) (f2 dIx (fAl 0) (fC (.int 1)))))))
abbrev N_less : List Str := ["one", "other"]
noncomputable def f_less : List D → Option D := fnD N_less 2 F_less
theorem e_less (x0 x1 : D) : f_less [x0, x1] = (F_less [.al x0, .al x1]).bind outD := rfl
noncomputable def F_floor_of : FS :=
  (sRet (f2 dDiv (f2 dIx (fAl 0) (fC (.int 0))) (f2 dIx (fAl 0) (fC (.int 1)))))
abbrev N_floor_of : List Str := ["one"]
noncomputable def f_floor_of : List D → Option D := fnD N_floor_of 1 F_floor_of
theorem e_floor_of (x0 : D) : f_floor_of [x0] = (F_floor_of [.al x0]).bind outD := rfl
noncomputable def F__law_cell_at : FS :=
  (sSeq (sIf (c2 dLt (fAl 1) (fA dLen (fCons (fAl 0) fNil))) (sRet (fImm (f2 dIx (fAl 0) (fAl 1)))) sNext)
  (sRet (fC (.int 0))))
abbrev N__law_cell_at : List Str := ["_law_script", "_law_k"]
noncomputable def f__law_cell_at : List D → Option D := fnD N__law_cell_at 2 F__law_cell_at
theorem e__law_cell_at (x0 x1 : D) : f__law_cell_at [x0, x1] = (F__law_cell_at [.al x0, .al x1]).bind outD := rfl
noncomputable def F__law_whole : FS :=
  (sRet (fAnd (fA dIsi (fCons (fAl 0) (fCons (fC (.ty "int")) fNil))) (f1 dNot (fA dIsi (fCons (fAl 0) (fCons (fC (.ty "bool")) fNil))))))
abbrev N__law_whole : List Str := ["_law_found"]
noncomputable def f__law_whole : List D → Option D := fnD N__law_whole 1 F__law_whole
theorem e__law_whole (x0 : D) : f__law_whole [x0] = (F__law_whole [.al x0]).bind outD := rfl
noncomputable def F__law_common : FS :=
  (sSeq (sWhile (c2 dNe (fAl 1) (fC (.int 0))) (sPar 0 1 (fCons (fAl 1) (fCons (f2 dMod (fAl 0) (fAl 1)) fNil))))
  (sRet (fImm (fAl 0))))
abbrev N__law_common : List Str := ["_law_one", "_law_other"]
noncomputable def f__law_common : List D → Option D := fnD N__law_common 2 F__law_common
theorem e__law_common (x0 x1 : D) : f__law_common [x0, x1] = (F__law_common [.al x0, .al x1]).bind outD := rfl
noncomputable def F__law_lowest : FS :=
  (sSeq (sIf (c2 dLt (fAl 1) (fC (.int 0))) (sPar 0 1 (fCons (f1 dNeg (fAl 0)) (fCons (f1 dNeg (fAl 1)) fNil))) sNext)
  (sSeq (sAl 2 (fCall f__law_common [] (fCons (fA dAbs (fCons (fAl 0) fNil)) (fCons (fAl 1) fNil))))
  (sRet (fTup (fCons (f2 dDiv (fAl 0) (fAl 2)) (fCons (f2 dDiv (fAl 1) (fAl 2)) fNil))))))
abbrev N__law_lowest : List Str := ["_law_top", "_law_bottom", "_law_shared"]
noncomputable def f__law_lowest : List D → Option D := fnD N__law_lowest 2 F__law_lowest
theorem e__law_lowest (x0 x1 : D) : f__law_lowest [x0, x1] = (F__law_lowest [.al x0, .al x1, .no]).bind outD := rfl
noncomputable def F__law_says : FS :=
  (sRet (fAnd (fA dIsi (fCons (fAl 0) (fCons (fC (.ty "bool")) fNil))) (fB (c2 dEq (fAl 0) (fAl 1)))))
abbrev N__law_says : List Str := ["_law_found", "_law_due"]
noncomputable def f__law_says : List D → Option D := fnD N__law_says 2 F__law_says
theorem e__law_says (x0 x1 : D) : f__law_says [x0, x1] = (F__law_says [.al x0, .al x1]).bind outD := rfl
noncomputable def F_keeps : FS :=
  (sSeq (sIf (c1 dIsN (fAl 1)) (sRet (fC (.bl true))) sNext)
  (sSeq (sAsg (fAl 1) (gSq 2 (gCs (gN 2) (gCs (gN 3) gNl))))
  (sSeq (sIf (c1 dTru (fAl 3)) (sRet (fB (c2 dLt (f2 dIx (fAl 0) (fC (.int 0))) (f2 dMul (fAl 2) (f2 dIx (fAl 0) (fC (.int 1))))))) sNext)
  (sRet (fB (c2 dLe (f2 dIx (fAl 0) (fC (.int 0))) (f2 dMul (fAl 2) (f2 dIx (fAl 0) (fC (.int 1))))))))))
abbrev N_keeps : List Str := ["part", "bound", "number", "strict"]
noncomputable def f_keeps : List D → Option D := fnD N_keeps 2 F_keeps
theorem e_keeps (x0 x1 : D) : f_keeps [x0, x1] = (F_keeps [.al x0, .al x1, .no, .no]).bind outD := rfl
noncomputable def F_bound_sum : FS :=
  (sSeq (sIf (cOr (c1 dIsN (fAl 0)) (c1 dIsN (fAl 1))) (sRet (fC .non)) sNext)
  (sRet (fImm (fTup (fCons (f2 dAdd (f2 dIx (fAl 0) (fC (.int 0))) (f2 dIx (fAl 1) (fC (.int 0)))) (fCons (fOr (f2 dIx (fAl 0) (fC (.int 1))) (f2 dIx (fAl 1) (fC (.int 1)))) fNil))))))
abbrev N_bound_sum : List Str := ["one", "other"]
noncomputable def f_bound_sum : List D → Option D := fnD N_bound_sum 2 F_bound_sum
theorem e_bound_sum (x0 x1 : D) : f_bound_sum [x0, x1] = (F_bound_sum [.al x0, .al x1]).bind outD := rfl
noncomputable def F_tighter : FS :=
  (sSeq (sIf (c1 dIsN (fAl 0)) (sRet (fC (.bl false))) sNext)
  (sSeq (sIf (cOr (c1 dIsN (fAl 1)) (c2 dLt (f2 dIx (fAl 0) (fC (.int 0))) (f2 dIx (fAl 1) (fC (.int 0))))) (sRet (fC (.bl true))) sNext)
  (sRet (fAnd (fB (c2 dEq (f2 dIx (fAl 0) (fC (.int 0))) (f2 dIx (fAl 1) (fC (.int 0))))) (fAnd (f2 dIx (fAl 0) (fC (.int 1))) (f1 dNot (f2 dIx (fAl 1) (fC (.int 1)))))))))
abbrev N_tighter : List Str := ["one", "other"]
noncomputable def f_tighter : List D → Option D := fnD N_tighter 2 F_tighter
theorem e_tighter (x0 x1 : D) : f_tighter [x0, x1] = (F_tighter [.al x0, .al x1]).bind outD := rfl
noncomputable def F__law_number : FS :=
  (sSeq (sIf (c2 dEq (f2 dMod (fAl 0) (fC (.int 2))) (fC (.int 0))) (sRet (f2 dSub (f2 dMod (f2 dDiv (fAl 0) (fC (.int 2))) (fC (.int 25))) (fC (.int 12)))) sNext)
  (sRet (f2 dSub (f2 dMod (f2 dDiv (fAl 0) (fC (.int 2))) (f2 dSub (f2 dMul (fC (.int 2)) (f2 dPow (fC (.int 10)) (fC (.int 59)))) (fC (.int 1)))) (f2 dSub (f2 dPow (fC (.int 10)) (fC (.int 59))) (fC (.int 1))))))
abbrev N__law_number : List Str := ["_law_cell"]
noncomputable def f__law_number : List D → Option D := fnD N__law_number 1 F__law_number
theorem e__law_number (x0 : D) : f__law_number [x0] = (F__law_number [.al x0]).bind outD := rfl
noncomputable def F_open_table : FS :=
  (sRet (fComp (iR1 (fCons (f2 dAdd (fAl 0) (fC (.int 1))) fNil)) (gN 1) cYes (fComp (iR1 (fCons (f2 dAdd (fAl 0) (fC (.int 1))) fNil)) (gN 2) cYes (fC .non) [2]) [1]))
abbrev N_open_table : List Str := ["k", "i", "j"]
noncomputable def f_open_table : List D → Option D := fnD N_open_table 1 F_open_table
theorem e_open_table (x0 : D) : f_open_table [x0] = (F_open_table [.al x0, .no, .no]).bind outD := rfl
noncomputable def F_narrowed : FS :=
  (sSeq (sOw 4 [] (fComp (iSeq (fAl 0)) (gN 5) cYes (fA dList (fCons (fAl 5) fNil)) [5]))
  (sSeq (sIf (c1 dTru (fCall f_tighter [] (fCons (fAl 3) (fCons (f2 dIx (f2 dIx (fVar 4) (fAl 1)) (fAl 2)) fNil)))) (sSetItem 4 (pIx 4 (pNil 4) (fAl 1)) (fAl 2) (fImm (fAl 3))) sNext)
  (sRet (fOw 4))))
abbrev N_narrowed : List Str := ["table", "i", "j", "bound", "found", "row"]
noncomputable def f_narrowed : List D → Option D := fnD N_narrowed 4 F_narrowed
theorem e_narrowed (x0 x1 x2 x3 : D) : f_narrowed [x0, x1, x2, x3] = (F_narrowed [.al x0, .al x1, .al x2, .al x3, .no, .no]).bind outD := rfl
noncomputable def L1_lies_in : FS :=
  (sIf (cNot (c1 dTru (fCall f_keeps [] (fCons (fCall f_minus [] (fCons (fAl 3) (fCons (fAl 5) fNil))) (fCons (fAl 6) fNil))))) (sRet (fC (.bl false))) sNext)
noncomputable def L2_lies_in : FS :=
  (sFor (iZipD (fAl 2) (fAl 4)) (gSq 2 (gCs (gN 5) (gCs (gN 6) gNl))) L1_lies_in)
noncomputable def F_lies_in : FS :=
  (sSeq (sAl 2 (f2 dAdd (fLst (fCons (fC (.tup [(.int 0), (.int 1)])) fNil)) (fA dList (fCons (fAl 1) fNil))))
  (sSeq (sFor (iZipD (fAl 2) (fAl 0)) (gSq 2 (gCs (gN 3) (gCs (gN 4) gNl))) L2_lies_in)
  (sRet (fC (.bl true)))))
abbrev N_lies_in : List Str := ["table", "point", "values", "one", "row", "other", "bound"]
noncomputable def f_lies_in : List D → Option D := fnD N_lies_in 2 F_lies_in
theorem e_lies_in (x0 x1 : D) : f_lies_in [x0, x1] = (F_lies_in [.al x0, .al x1, .no, .no, .no, .no, .no]).bind outD := rfl
noncomputable def F__law_less : FS :=
  (sRet (fCall f__law_lowest [] (fCons (f2 dSub (f2 dMul (f2 dIx (fAl 0) (fC (.int 0))) (f2 dIx (fAl 1) (fC (.int 1)))) (f2 dMul (f2 dIx (fAl 1) (fC (.int 0))) (f2 dIx (fAl 0) (fC (.int 1))))) (fCons (f2 dMul (f2 dIx (fAl 0) (fC (.int 1))) (f2 dIx (fAl 1) (fC (.int 1)))) fNil))))
abbrev N__law_less : List Str := ["_law_one", "_law_other"]
noncomputable def f__law_less : List D → Option D := fnD N__law_less 2 F__law_less
theorem e__law_less (x0 x1 : D) : f__law_less [x0, x1] = (F__law_less [.al x0, .al x1]).bind outD := rfl
noncomputable def F__law_keeps_v2 : FS :=
  (sSeq (sIf (c1 dIsN (fAl 1)) (sRet (fC (.bl true))) sNext)
  (sSeq (sAl 2 (f2 dSub (f2 dIx (fAl 0) (fC (.int 0))) (f2 dMul (f2 dIx (fAl 1) (fC (.int 0))) (f2 dIx (fAl 0) (fC (.int 1))))))
  (sRet (fOr (fB (c2 dLt (fAl 2) (fC (.int 0)))) (fAnd (fB (c2 dEq (fAl 2) (fC (.int 0)))) (f1 dNot (f2 dIx (fAl 1) (fC (.int 1)))))))))
abbrev N__law_keeps_v2 : List Str := ["_law_part_here", "_law_bound", "_law_far"]
noncomputable def f__law_keeps_v2 : List D → Option D := fnD N__law_keeps_v2 2 F__law_keeps_v2
theorem e__law_keeps_v2 (x0 x1 : D) : f__law_keeps_v2 [x0, x1] = (F__law_keeps_v2 [.al x0, .al x1, .no]).bind outD := rfl
noncomputable def F__law_mixed : FS :=
  (sSeq (sAl 2 (f2 dMod (f2 dAdd (f2 dAdd (f2 dAdd (f2 dMul (fAl 0) (fC (.int 48271))) (f2 dMul (f2 dMul (fAl 1) (fAl 1)) (fC (.int 69621)))) (f2 dMul (fC (.int 7)) (fAl 1))) (fC (.int 11))) (fC (.int 2147483647))))
  (sRet (f2 dMod (f2 dMul (fAl 2) (fAl 2)) (fC (.int 2147483629)))))
abbrev N__law_mixed : List Str := ["_law_cell", "_law_k", "_law_number"]
noncomputable def f__law_mixed : List D → Option D := fnD N__law_mixed 2 F__law_mixed
theorem e__law_mixed (x0 x1 : D) : f__law_mixed [x0, x1] = (F__law_mixed [.al x0, .al x1, .no]).bind outD := rfl
noncomputable def L1__law_lowest_v2 : FS :=
  (sPar 2 3 (fCons (fAl 3) (fCons (f2 dMod (fAl 2) (fAl 3)) fNil)))
noncomputable def F__law_lowest_v2 : FS :=
  (sSeq (sAl 2 (fA dAbs (fCons (fAl 0) fNil)))
  (sSeq (sAl 3 (fAl 1))
  (sSeq (sWhile (c2 dGt (fAl 3) (fC (.int 0))) L1__law_lowest_v2)
  (sRet (fTup (fCons (f2 dDiv (fAl 0) (fAl 2)) (fCons (f2 dDiv (fAl 1) (fAl 2)) fNil)))))))
abbrev N__law_lowest_v2 : List Str := ["_law_top", "_law_bottom", "_law_one", "_law_other"]
noncomputable def f__law_lowest_v2 : List D → Option D := fnD N__law_lowest_v2 2 F__law_lowest_v2
theorem e__law_lowest_v2 (x0 x1 : D) : f__law_lowest_v2 [x0, x1] = (F__law_lowest_v2 [.al x0, .al x1, .no, .no]).bind outD := rfl
noncomputable def F__law_less_v2 : FS :=
  (sRet (fTup (fCons (f2 dSub (f2 dMul (f2 dIx (fAl 0) (fC (.int 0))) (f2 dIx (fAl 1) (fC (.int 1)))) (f2 dMul (f2 dIx (fAl 1) (fC (.int 0))) (f2 dIx (fAl 0) (fC (.int 1))))) (fCons (f2 dMul (f2 dIx (fAl 0) (fC (.int 1))) (f2 dIx (fAl 1) (fC (.int 1)))) fNil))))
abbrev N__law_less_v2 : List Str := ["_law_one", "_law_other"]
noncomputable def f__law_less_v2 : List D → Option D := fnD N__law_less_v2 2 F__law_less_v2
theorem e__law_less_v2 (x0 x1 : D) : f__law_less_v2 [x0, x1] = (F__law_less_v2 [.al x0, .al x1]).bind outD := rfl
noncomputable def L1__law_any_table : FS :=
  (sSeq (sAl 7 (f2 dMod (fAl 3) (f2 dAdd (f2 dMul (fC (.int 4)) (fAl 2)) (fC (.int 3)))))
  (sSeq (sIf (c2 dIn (fAl 3) (fTup (fCons (fC (.int 0)) (fCons (f1 dNeg (fC (.int 1))) fNil)))) (sSeq (sAl 8 (fCall f__law_mixed [] (fCons (fAl 0) (fCons (f2 dAdd (f2 dMul (fC (.int 9)) (fAl 5)) (fAl 6)) fNil))))
  (sAl 7 (f2 dIx (fLst (fCons (fC (.int 0)) (fCons (fC (.int 0)) (fCons (f2 dAdd (fC (.int 1)) (f2 dMod (f2 dDiv (fAl 8) (fC (.int 3))) (f2 dAdd (f2 dMul (fC (.int 4)) (fAl 2)) (fC (.int 2))))) fNil)))) (f2 dMod (fAl 8) (fC (.int 3)))))) sNext)
  (sSeq (sAl 3 (f2 dDiv (fAl 3) (f2 dAdd (f2 dMul (fC (.int 4)) (fAl 2)) (fC (.int 3)))))
  (sSeq (sAl 9 (fC .non))
  (sSeq (sIf (c2 dGt (fAl 7) (fC (.int 0))) (sAl 9 (fTup (fCons (f2 dSub (f2 dDiv (f2 dSub (fAl 7) (fC (.int 1))) (fC (.int 2))) (fAl 2)) (fCons (fB (c2 dEq (f2 dMod (fAl 7) (fC (.int 2))) (fC (.int 0)))) fNil)))) sNext)
  (sAppend 4 (pIx 4 (pNil 4) (fAl 5)) (fCons (fImm (fAl 9)) fNil)))))))
noncomputable def L2__law_any_table : FS :=
  (sSeq (sAppend 4 (pNil 4) (fCons (fLst fNil) fNil))
  (sFor (iR1 (fCons (f2 dAdd (fAl 1) (fC (.int 1))) fNil)) (gN 6) L1__law_any_table))
noncomputable def F__law_any_table : FS :=
  (sSeq (sAl 3 (fAl 0))
  (sSeq (sOw 4 [] (fLst fNil))
  (sSeq (sFor (iR1 (fCons (f2 dAdd (fAl 1) (fC (.int 1))) fNil)) (gN 5) L2__law_any_table)
  (sRet (fOw 4)))))
abbrev N__law_any_table : List Str := ["_law_seed", "_law_k", "_law_most", "_law_cell", "_law_table", "_law_i", "_law_j", "_law_digit", "_law_drawn", "_law_bound"]
noncomputable def f__law_any_table : List D → Option D := fnD N__law_any_table 3 F__law_any_table
theorem e__law_any_table (x0 x1 x2 : D) : f__law_any_table [x0, x1, x2] = (F__law_any_table [.al x0, .al x1, .al x2, .no, .no, .no, .no, .no, .no, .no]).bind outD := rfl
noncomputable def F__law_part_v4 : FS :=
  (sSeq (sIf (c2 dEq (f2 dMod (fAl 0) (fC (.int 8))) (fC (.int 5))) (sRet (fCall f__law_lowest_v2 [] (fCons (f2 dSub (f2 dMod (f2 dDiv (fAl 0) (fC (.int 8))) (f2 dAdd (f2 dMul (fC (.int 2)) (f2 dPow (fC (.int 10)) (fC (.int 45)))) (fC (.int 1)))) (f2 dPow (fC (.int 10)) (fC (.int 45)))) (fCons (f2 dAdd (fC (.int 1)) (f2 dMod (fAl 0) (fC (.int 9973)))) fNil)))) sNext)
  (sRet (fCall f__law_lowest_v2 [] (fCons (f2 dSub (f2 dMod (f2 dDiv (fAl 0) (fC (.int 48))) (fC (.int 41))) (fC (.int 20))) (fCons (f2 dAdd (fC (.int 1)) (f2 dMod (f2 dDiv (fAl 0) (fC (.int 8))) (fC (.int 6)))) fNil)))))
abbrev N__law_part_v4 : List Str := ["_law_cell"]
noncomputable def f__law_part_v4 : List D → Option D := fnD N__law_part_v4 1 F__law_part_v4
theorem e__law_part_v4 (x0 : D) : f__law_part_v4 [x0] = (F__law_part_v4 [.al x0]).bind outD := rfl
noncomputable def L1__law_planted : FS :=
  (sSeq (sAsg (fCall f__law_less_v2 [] (fCons (f2 dIx (fAl 2) (fAl 4)) (fCons (f2 dIx (fAl 2) (fAl 5)) fNil))) (gSq 2 (gCs (gN 6) (gCs (gN 7) gNl))))
  (sSeq (sAl 8 (fCall f__law_mixed [] (fCons (fCall f__law_cell_at [] (fCons (fAl 0) (fCons (f2 dAdd (f2 dAdd (fC (.int 8)) (f2 dMul (fA dLen (fCons (fAl 2) fNil)) (fAl 4))) (fAl 5)) fNil))) (fCons (f2 dAdd (f2 dMul (fC (.int 9)) (fAl 4)) (fAl 5)) fNil))))
  (sSeq (sAl 9 (f2 dAdd (f1 dNeg (f2 dDiv (f1 dNeg (fAl 6)) (fAl 7))) (f2 dMod (f2 dDiv (fAl 8) (fC (.int 8))) (fC (.int 3)))))
  (sSeq (sAl 10 (fTup (fCons (fAl 9) (fCons (fAnd (fB (c2 dGt (f2 dMul (fAl 9) (fAl 7)) (fAl 6))) (fB (c2 dEq (f2 dMod (f2 dDiv (fAl 8) (fC (.int 24))) (fC (.int 2))) (fC (.int 1))))) fNil))))
  (sSeq (sIf (cOr (c2 dLt (f2 dMod (fAl 8) (fC (.int 8))) (fC (.int 3))) (cAnd (c2 dEq (fAl 4) (fAl 5)) (c2 dLt (f2 dMod (fAl 8) (fC (.int 8))) (fC (.int 6))))) (sAl 10 (fC .non)) sNext)
  (sAppend 3 (pIx 3 (pNil 3) (fAl 4)) (fCons (fImm (fAl 10)) fNil)))))))
noncomputable def L2__law_planted : FS :=
  (sSeq (sAppend 3 (pNil 3) (fCons (fLst fNil) fNil))
  (sFor (iR1 (fCons (fA dLen (fCons (fAl 2) fNil)) fNil)) (gN 5) L1__law_planted))
noncomputable def F__law_planted : FS :=
  (sSeq (sAl 2 (f2 dAdd (fLst (fCons (fTup (fCons (fC (.int 0)) (fCons (fC (.int 1)) fNil))) fNil)) (fAl 1)))
  (sSeq (sOw 3 [] (fLst fNil))
  (sSeq (sFor (iR1 (fCons (fA dLen (fCons (fAl 2) fNil)) fNil)) (gN 4) L2__law_planted)
  (sRet (fOw 3)))))
abbrev N__law_planted : List Str := ["_law_script", "_law_point", "_law_parts", "_law_table", "_law_i", "_law_j", "_law_top", "_law_bottom", "_law_drawn", "_law_number", "_law_bound"]
noncomputable def f__law_planted : List D → Option D := fnD N__law_planted 2 F__law_planted
theorem e__law_planted (x0 x1 : D) : f__law_planted [x0, x1] = (F__law_planted [.al x0, .al x1, .no, .no, .no, .no, .no, .no, .no, .no, .no]).bind outD := rfl
noncomputable def F__law_table_by : FS :=
  (sSeq (sAl 1 (fCall f__law_cell_at [] (fCons (fAl 0) (fCons (fC (.int 0)) fNil))))
  (sSeq (sAl 2 (f2 dMod (f2 dDiv (fAl 1) (fC (.int 4))) (f2 dIx (fLst (fCons (fC (.int 5)) (fCons (fC (.int 7)) fNil))) (fA dInt1 (fCons (fB (c2 dGt (f2 dMod (fAl 1) (fC (.int 4))) (fC (.int 1)))) fNil)))))
  (sSeq (sOw 3 [] (fComp (iR1 (fCons (fAl 2) fNil)) (gN 8) cYes (fCall f__law_part_v4 [] (fCons (fCall f__law_cell_at [] (fCons (fAl 0) (fCons (f2 dAdd (fC (.int 1)) (fAl 8)) fNil))) fNil)) [8]))
  (sSeq (sIf (c2 dLt (f2 dMod (fAl 1) (fC (.int 4))) (fC (.int 2))) (sRet (fTup (fCons (fCall f__law_any_table [] (fCons (fCall f__law_cell_at [] (fCons (fAl 0) (fCons (fC (.int 1)) fNil))) (fCons (fAl 2) (fCons (f2 dIx (fLst (fCons (fC (.int 3)) (fCons (fC (.int 9)) (fCons (f2 dPow (fC (.int 10)) (fC (.int 55))) fNil)))) (f2 dMod (f2 dDiv (fAl 1) (fC (.int 20))) (fC (.int 3)))) fNil)))) (fCons (fOw 3) fNil)))) sNext)
  (sSeq (sOw 4 [] (fCall f__law_planted [] (fCons (fAl 0) (fCons (fVar 3) fNil))))
  (sSeq (sIf (c2 dEq (f2 dMod (fAl 1) (fC (.int 4))) (fC (.int 3))) (sSeq (sAl 5 (fCall f__law_cell_at [] (fCons (fAl 0) (fCons (fC (.int 7)) fNil))))
  (sSeq (sAl 6 (f2 dMod (fAl 5) (f2 dAdd (fAl 2) (fC (.int 1)))))
  (sSeq (sAl 7 (f2 dMod (f2 dDiv (fAl 5) (f2 dAdd (fAl 2) (fC (.int 1)))) (f2 dAdd (fAl 2) (fC (.int 1)))))
  (sIf (cNot (c1 dIsN (f2 dIx (f2 dIx (fVar 4) (fAl 6)) (fAl 7)))) (sSetItem 4 (pIx 4 (pNil 4) (fAl 6)) (fAl 7) (fTup (fCons (f2 dSub (f2 dSub (f2 dIx (f2 dIx (f2 dIx (fVar 4) (fAl 6)) (fAl 7)) (fC (.int 0))) (fC (.int 1))) (f2 dMod (f2 dDiv (fAl 5) (fC (.int 50))) (fC (.int 4)))) (fCons (fB (c2 dEq (f2 dMod (f2 dDiv (fAl 5) (fC (.int 200))) (fC (.int 2))) (fC (.int 1)))) fNil)))) sNext)))) sNext)
  (sRet (fTup (fCons (fOw 4) (fCons (fOw 3) fNil))))))))))
abbrev N__law_table_by : List Str := ["_law_script", "_law_head", "_law_k", "_law_point", "_law_table", "_law_cell", "_law_i", "_law_j", "_law_t"]
noncomputable def f__law_table_by : List D → Option D := fnD N__law_table_by 1 F__law_table_by
theorem e__law_table_by (x0 : D) : f__law_table_by [x0] = (F__law_table_by [.al x0, .no, .no, .no, .no, .no, .no, .no, .no]).bind outD := rfl
noncomputable def F__law_keeps_v3 : FS :=
  (sSeq (sIf (c1 dIsN (fAl 1)) (sRet (fC (.bl true))) sNext)
  (sRet (fOr (fB (c2 dLt (f2 dIx (fAl 0) (fC (.int 0))) (f2 dMul (f2 dIx (fAl 1) (fC (.int 0))) (f2 dIx (fAl 0) (fC (.int 1)))))) (fAnd (fB (c2 dEq (f2 dIx (fAl 0) (fC (.int 0))) (f2 dMul (f2 dIx (fAl 1) (fC (.int 0))) (f2 dIx (fAl 0) (fC (.int 1)))))) (f1 dNot (f2 dIx (fAl 1) (fC (.int 1))))))))
abbrev N__law_keeps_v3 : List Str := ["_law_part_here", "_law_bound"]
noncomputable def f__law_keeps_v3 : List D → Option D := fnD N__law_keeps_v3 2 F__law_keeps_v3
theorem e__law_keeps_v3 (x0 x1 : D) : f__law_keeps_v3 [x0, x1] = (F__law_keeps_v3 [.al x0, .al x1]).bind outD := rfl
noncomputable def L1__law_lies : FS :=
  (sIf (cNot (c1 dTru (fCall f__law_keeps_v3 [] (fCons (fCall f__law_less_v2 [] (fCons (f2 dIx (fAl 2) (fAl 3)) (fCons (f2 dIx (fAl 2) (fAl 4)) fNil))) (fCons (f2 dIx (f2 dIx (fAl 0) (fAl 3)) (fAl 4)) fNil))))) (sRet (fC (.bl false))) sNext)
noncomputable def L2__law_lies : FS :=
  (sFor (iR1 (fCons (fA dLen (fCons (fAl 2) fNil)) fNil)) (gN 4) L1__law_lies)
noncomputable def F__law_lies : FS :=
  (sSeq (sAl 2 (f2 dAdd (fLst (fCons (fTup (fCons (fC (.int 0)) (fCons (fC (.int 1)) fNil))) fNil)) (fAl 1)))
  (sSeq (sFor (iR1 (fCons (fA dLen (fCons (fAl 2) fNil)) fNil)) (gN 3) L2__law_lies)
  (sRet (fC (.bl true)))))
abbrev N__law_lies : List Str := ["_law_table", "_law_point", "_law_parts", "_law_i", "_law_j"]
noncomputable def f__law_lies : List D → Option D := fnD N__law_lies 2 F__law_lies
theorem e__law_lies (x0 x1 : D) : f__law_lies [x0, x1] = (F__law_lies [.al x0, .al x1, .no, .no, .no]).bind outD := rfl
noncomputable def L1__law_is_point : FS :=
  (sSeq (sIf (cOr (cNot (c1 dTru (fA dIsi (fCons (fAl 2) (fCons (fC (.ty "tuple")) fNil))))) (cOr (c2 dNe (fA dLen (fCons (fAl 2) fNil)) (fC (.int 2))) (cNot (c1 dTru (fA dAll (fCons (fComp (iTup' (fAl 2)) (gN 3) cYes (fCall f__law_whole [] (fCons (fAl 3) fNil)) [3]) fNil)))))) (sRet (fC (.bl false))) sNext)
  (sIf (cOr (c2 dLt (f2 dIx (fAl 2) (fC (.int 1))) (fC (.int 1))) (c2 dNe (fCall f__law_lowest_v2 [] (fCons (f2 dIx (fAl 2) (fC (.int 0))) (fCons (f2 dIx (fAl 2) (fC (.int 1))) fNil))) (fAl 2))) (sRet (fC (.bl false))) sNext))
noncomputable def F__law_is_point : FS :=
  (sSeq (sIf (cOr (cNot (c1 dTru (fA dIsi (fCons (fAl 0) (fCons (fC (.ty "list")) fNil))))) (c2 dNe (fA dLen (fCons (fAl 0) fNil)) (fAl 1))) (sRet (fC (.bl false))) sNext)
  (sSeq (sFor (iSeq (fAl 0)) (gN 2) L1__law_is_point)
  (sRet (fC (.bl true)))))
abbrev N__law_is_point : List Str := ["_law_found", "_law_many", "_law_part_here", "_law_one"]
noncomputable def f__law_is_point : List D → Option D := fnD N__law_is_point 2 F__law_is_point
theorem e__law_is_point (x0 x1 : D) : f__law_is_point [x0, x1] = (F__law_is_point [.al x0, .al x1, .no, .no]).bind outD := rfl
noncomputable def F_step_on : FS :=
  (sRet (fTup (fCons (f2 dAdd (f2 dIx (fAl 0) (fC (.int 0))) (f2 dIx (fAl 1) (fC (.int 0)))) (fCons (f2 dAdd (f2 dIx (fAl 0) (fC (.int 1))) (fA dInt1 (fCons (f2 dIx (fAl 1) (fC (.int 1))) fNil))) fNil))))
abbrev N_step_on : List Str := ["far", "bound"]
noncomputable def f_step_on : List D → Option D := fnD N_step_on 2 F_step_on
theorem e_step_on (x0 x1 : D) : f_step_on [x0, x1] = (F_step_on [.al x0, .al x1]).bind outD := rfl
noncomputable def F_is_nearer : FS :=
  (sRet (fOr (fB (c2 dLt (f2 dIx (fAl 0) (fC (.int 0))) (f2 dIx (fAl 1) (fC (.int 0))))) (fAnd (fB (c2 dEq (f2 dIx (fAl 0) (fC (.int 0))) (f2 dIx (fAl 1) (fC (.int 0))))) (fB (c2 dGt (f2 dIx (fAl 0) (fC (.int 1))) (f2 dIx (fAl 1) (fC (.int 1))))))))
abbrev N_is_nearer : List Str := ["one", "other"]
noncomputable def f_is_nearer : List D → Option D := fnD N_is_nearer 2 F_is_nearer
theorem e_is_nearer (x0 x1 : D) : f_is_nearer [x0, x1] = (F_is_nearer [.al x0, .al x1]).bind outD := rfl
noncomputable def L1_relaxed : FS :=
  (sIf (cAnd (cNot (c1 dIsN (fAl 7))) (c1 dTru (fCall f_is_nearer [] (fCons (fCall f_step_on [] (fCons (f2 dIx (fVar 1) (fAl 6)) (fCons (fAl 7) fNil))) (fCons (f2 dIx (fVar 1) (fAl 4)) fNil))))) (sSeq (sSetItem 1 (pNil 1) (fAl 4) (fCall f_step_on [] (fCons (f2 dIx (fVar 1) (fAl 6)) (fCons (fAl 7) fNil))))
  (sSeq (sSetItem 2 (pNil 2) (fAl 4) (fImm (fAl 6)))
  (sAl 3 (fAl 4)))) sNext)
noncomputable def L2_relaxed : FS :=
  (sFor (iEnumD (fAl 5)) (gSq 2 (gCs (gN 6) (gCs (gN 7) gNl))) L1_relaxed)
noncomputable def F_relaxed : FS :=
  (sSeq (sAl 3 (fC .non))
  (sSeq (sFor (iEnumD (fAl 0)) (gSq 2 (gCs (gN 4) (gCs (gN 5) gNl))) L2_relaxed)
  (sRetM [] (fImm (fAl 3)))))
abbrev N_relaxed : List Str := ["table", "fars", "heads", "moved", "i", "row", "j", "bound"]
noncomputable def f_relaxed : List D → Option (D × List D) := fnM N_relaxed 3 [1, 2] F_relaxed
noncomputable def L1_ring_of : FS :=
  (sSeq (sAlX 3 (xCallM f_relaxed [(1, 1), (2, 2)] (gSl 0 (gSl 1 (gSl 2 gNil)))))
  (sIf (c1 dIsN (fAl 3)) (sRet (fC .non)) sNext))
noncomputable def L2_ring_of : FS :=
  (sAl 3 (fImm (f2 dIx (fVar 2) (fAl 3))))
noncomputable def L3_ring_of : FS :=
  (sAppend 5 (pNil 5) (fCons (fImm (f2 dIx (fVar 2) (f2 dIx (fVar 5) (f1 dNeg (fC (.int 1)))))) fNil))
noncomputable def F_ring_of : FS :=
  (sSeq (sOw 1 [] (fComp (iSeq (fAl 0)) (gN 6) cYes (fTup (fCons (fC (.int 0)) (fCons (fC (.int 0)) fNil))) [6]))
  (sSeq (sOw 2 [] (fComp (iSeq (fAl 0)) (gN 6) cYes (fC (.int 0)) [6]))
  (sSeq (sAl 3 (fC .non))
  (sSeq (sFor (iR1 (fCons (f2 dAdd (fA dLen (fCons (fAl 0) fNil)) (fC (.int 1))) fNil)) (gN 4) L1_ring_of)
  (sSeq (sFor (iR1 (fCons (fA dLen (fCons (fAl 0) fNil)) fNil)) (gN 4) L2_ring_of)
  (sSeq (sOw 5 [] (fLst (fCons (fImm (fAl 3)) fNil)))
  (sSeq (sWhile (c2 dNe (f2 dIx (fVar 2) (f2 dIx (fVar 5) (f1 dNeg (fC (.int 1))))) (fAl 3)) L3_ring_of)
  (sRet (fOw 5)))))))))
abbrev N_ring_of : List Str := ["table", "fars", "heads", "moved", "turn", "ring", "row"]
noncomputable def f_ring_of : List D → Option D := fnD N_ring_of 1 F_ring_of
theorem e_ring_of (x0 : D) : f_ring_of [x0] = (F_ring_of [.al x0, .no, .no, .no, .no, .no, .no]).bind outD := rfl
noncomputable def L1_closed : FS :=
  (sSetItem 2 (pIx 2 (pNil 2) (fAl 3)) (fAl 3) (fTup (fCons (fC (.int 0)) (fCons (fC (.bl false)) fNil))))
noncomputable def L2_closed : FS :=
  (sSeq (sAl 6 (fCall f_bound_sum [] (fCons (f2 dIx (f2 dIx (fVar 2) (fAl 4)) (fAl 3)) (fCons (f2 dIx (f2 dIx (fVar 2) (fAl 3)) (fAl 5)) fNil))))
  (sIf (c1 dTru (fCall f_tighter [] (fCons (fAl 6) (fCons (f2 dIx (f2 dIx (fVar 2) (fAl 4)) (fAl 5)) fNil)))) (sSetItem 2 (pIx 2 (pNil 2) (fAl 4)) (fAl 5) (fImm (fAl 6))) sNext))
noncomputable def L3_closed : FS :=
  (sFor (iR1 (fCons (fA dLen (fCons (fVar 2) fNil)) fNil)) (gN 5) L2_closed)
noncomputable def L4_closed : FS :=
  (sFor (iR1 (fCons (fA dLen (fCons (fVar 2) fNil)) fNil)) (gN 4) L3_closed)
noncomputable def F_closed : FS :=
  (sSeq (sOw 1 [] (fCall f_ring_of [] (fCons (fAl 0) fNil)))
  (sSeq (sIf (cNot (c1 dIsN (fVar 1))) (sRet (fTup (fCons (fC (.str "ring")) (fCons (fOw 1) fNil)))) sNext)
  (sSeq (sOw 2 [] (fComp (iSeq (fAl 0)) (gN 7) cYes (fA dList (fCons (fAl 7) fNil)) [7]))
  (sSeq (sFor (iR1 (fCons (fA dLen (fCons (fVar 2) fNil)) fNil)) (gN 3) L1_closed)
  (sSeq (sFor (iR1 (fCons (fA dLen (fCons (fVar 2) fNil)) fNil)) (gN 3) L4_closed)
  (sRet (fTup (fCons (fC (.str "table")) (fCons (fOw 2) fNil)))))))))
abbrev N_closed : List Str := ["table", "ring", "found", "m", "i", "j", "beyond", "row"]
noncomputable def f_closed : List D → Option D := fnD N_closed 1 F_closed
theorem e_closed (x0 : D) : f_closed [x0] = (F_closed [.al x0, .no, .no, .no, .no, .no, .no, .no]).bind outD := rfl
noncomputable def F__law_sum : FS :=
  (sSeq (sIf (cOr (c1 dIsN (fAl 0)) (c1 dIsN (fAl 1))) (sRet (fC .non)) sNext)
  (sRet (fImm (fTup (fCons (f2 dAdd (f2 dIx (fAl 0) (fC (.int 0))) (f2 dIx (fAl 1) (fC (.int 0)))) (fCons (fOr (f2 dIx (fAl 0) (fC (.int 1))) (f2 dIx (fAl 1) (fC (.int 1)))) fNil))))))
abbrev N__law_sum : List Str := ["_law_one", "_law_other"]
noncomputable def f__law_sum : List D → Option D := fnD N__law_sum 2 F__law_sum
theorem e__law_sum (x0 x1 : D) : f__law_sum [x0, x1] = (F__law_sum [.al x0, .al x1]).bind outD := rfl
noncomputable def F__law_tighter_v2 : FS :=
  (sSeq (sIf (c1 dIsN (fAl 0)) (sRet (fC (.bl false))) sNext)
  (sRet (fOr (fB (c1 dIsN (fAl 1))) (fOr (fB (c2 dLt (f2 dIx (fAl 0) (fC (.int 0))) (f2 dIx (fAl 1) (fC (.int 0))))) (fAnd (fB (c2 dEq (f2 dIx (fAl 0) (fC (.int 0))) (f2 dIx (fAl 1) (fC (.int 0))))) (fAnd (f2 dIx (fAl 0) (fC (.int 1))) (f1 dNot (f2 dIx (fAl 1) (fC (.int 1))))))))))
abbrev N__law_tighter_v2 : List Str := ["_law_one", "_law_other"]
noncomputable def f__law_tighter_v2 : List D → Option D := fnD N__law_tighter_v2 2 F__law_tighter_v2
theorem e__law_tighter_v2 (x0 x1 : D) : f__law_tighter_v2 [x0, x1] = (F__law_tighter_v2 [.al x0, .al x1]).bind outD := rfl
noncomputable def L1__law_closed : FS :=
  (sIf (cNot (c1 dTru (fCall f__law_tighter_v2 [] (fCons (f2 dIx (f2 dIx (fVar 1) (fAl 2)) (fAl 2)) (fCons (fTup (fCons (fC (.int 0)) (fCons (fC (.bl false)) fNil))) fNil))))) (sSetItem 1 (pIx 1 (pNil 1) (fAl 2)) (fAl 2) (fTup (fCons (fC (.int 0)) (fCons (fC (.bl false)) fNil)))) sNext)
noncomputable def L2__law_closed : FS :=
  (sSeq (sAl 7 (fCall f__law_sum [] (fCons (f2 dIx (f2 dIx (fVar 1) (fAl 2)) (fAl 6)) (fCons (f2 dIx (f2 dIx (fVar 1) (fAl 6)) (fAl 5)) fNil))))
  (sIf (c1 dTru (fCall f__law_tighter_v2 [] (fCons (fAl 7) (fCons (f2 dIx (f2 dIx (fVar 4) (fAl 2)) (fAl 5)) fNil)))) (sSetItem 4 (pIx 4 (pNil 4) (fAl 2)) (fAl 5) (fImm (fAl 7))) sNext))
noncomputable def L3__law_closed : FS :=
  (sFor (iR1 (fCons (fA dLen (fCons (fVar 1) fNil)) fNil)) (gN 6) L2__law_closed)
noncomputable def L4__law_closed : FS :=
  (sFor (iR1 (fCons (fA dLen (fCons (fVar 1) fNil)) fNil)) (gN 5) L3__law_closed)
noncomputable def L5__law_closed : FS :=
  (sSeq (sOw 4 [] (fFrz 1 (fComp (iSeq (fAl 1)) (gN 8) cYes (fA dList (fCons (fAl 8) fNil)) [8])))
  (sSeq (sFor (iR1 (fCons (fA dLen (fCons (fVar 1) fNil)) fNil)) (gN 2) L4__law_closed)
  (sOw 1 [4] (fOw 4))))
noncomputable def F__law_closed : FS :=
  (sSeq (sOw 1 [] (fComp (iSeq (fAl 0)) (gN 8) cYes (fA dList (fCons (fAl 8) fNil)) [8]))
  (sSeq (sFor (iR1 (fCons (fA dLen (fCons (fVar 1) fNil)) fNil)) (gN 2) L1__law_closed)
  (sSeq (sFor (iR1 (fCons (fC (.int 4)) fNil)) (gN 3) L5__law_closed)
  (sSeq (sIf (c1 dTru (fA dAny (fCons (fComp (iR1 (fCons (fA dLen (fCons (fVar 1) fNil)) fNil)) (gN 2) cYes (fB (c2 dNe (f2 dIx (f2 dIx (fVar 1) (fAl 2)) (fAl 2)) (fTup (fCons (fC (.int 0)) (fCons (fC (.bl false)) fNil))))) [2]) fNil))) (sRet (fC .non)) sNext)
  (sRet (fOw 1))))))
abbrev N__law_closed : List Str := ["_law_table", "_law_made", "_law_i", "_law_turn", "_law_longer", "_law_j", "_law_m", "_law_beyond", "_law_row"]
noncomputable def f__law_closed : List D → Option D := fnD N__law_closed 1 F__law_closed
theorem e__law_closed (x0 : D) : f__law_closed [x0] = (F__law_closed [.al x0, .no, .no, .no, .no, .no, .no, .no, .no]).bind outD := rfl
noncomputable def L1__law_is_ring : FS :=
  (sAl 2 (fCall f__law_sum [] (fCons (fAl 2) (fCons (f2 dIx (f2 dIx (fAl 1) (f2 dIx (fAl 0) (f2 dSub (fAl 3) (fC (.int 1))))) (f2 dIx (fAl 0) (fAl 3))) fNil))))
noncomputable def F__law_is_ring : FS :=
  (sSeq (sIf (cOr (cNot (c1 dTru (fA dIsi (fCons (fAl 0) (fCons (fC (.ty "list")) fNil))))) (cOr (c2 dEq (fA dLen (fCons (fAl 0) fNil)) (fC (.int 0))) (c2 dLt (f1 dLenSet (fAl 0)) (fA dLen (fCons (fAl 0) fNil))))) (sRet (fC (.bl false))) sNext)
  (sSeq (sIf (cNot (c1 dTru (fA dAll (fCons (fComp (iSeq (fAl 0)) (gN 4) cYes (fAnd (fCall f__law_whole [] (fCons (fAl 4) fNil)) (fB (cChain dLe dLt (fC (.int 0)) (fAl 4) (fA dLen (fCons (fAl 1) fNil))))) [4]) fNil)))) (sRet (fC (.bl false))) sNext)
  (sSeq (sAl 2 (fTup (fCons (fC (.int 0)) (fCons (fC (.bl false)) fNil))))
  (sSeq (sFor (iR1 (fCons (fA dLen (fCons (fAl 0) fNil)) fNil)) (gN 3) L1__law_is_ring)
  (sRet (fImm (fAnd (fB (cNot (c1 dIsN (fAl 2)))) (fOr (fB (c2 dLt (f2 dIx (fAl 2) (fC (.int 0))) (fC (.int 0)))) (fAnd (fB (c2 dEq (f2 dIx (fAl 2) (fC (.int 0))) (fC (.int 0)))) (f2 dIx (fAl 2) (fC (.int 1))))))))))))
abbrev N__law_is_ring : List Str := ["_law_found", "_law_table", "_law_total", "_law_k", "_law_thing"]
noncomputable def f__law_is_ring : List D → Option D := fnD N__law_is_ring 2 F__law_is_ring
theorem e__law_is_ring (x0 x1 : D) : f__law_is_ring [x0, x1] = (F__law_is_ring [.al x0, .al x1, .no, .no, .no]).bind outD := rfl
noncomputable def F__law_is_bound : FS :=
  (sSeq (sIf (c1 dIsN (fAl 0)) (sRet (fC (.bl true))) sNext)
  (sSeq (sIf (cOr (cNot (c1 dTru (fA dIsi (fCons (fAl 0) (fCons (fC (.ty "tuple")) fNil))))) (cOr (c2 dNe (fA dLen (fCons (fAl 0) fNil)) (fC (.int 2))) (cNot (c1 dTru (fCall f__law_whole [] (fCons (f2 dIx (fAl 0) (fC (.int 0))) fNil)))))) (sRet (fC (.bl false))) sNext)
  (sRet (fA dIsi (fCons (f2 dIx (fAl 0) (fC (.int 1))) (fCons (fC (.ty "bool")) fNil))))))
abbrev N__law_is_bound : List Str := ["_law_found"]
noncomputable def f__law_is_bound : List D → Option D := fnD N__law_is_bound 1 F__law_is_bound
theorem e__law_is_bound (x0 : D) : f__law_is_bound [x0] = (F__law_is_bound [.al x0]).bind outD := rfl
noncomputable def L1__law_right_v5 : FS :=
  (sIf (cOr (cNot (c1 dTru (fA dIsi (fCons (fAl 3) (fCons (fC (.ty "list")) fNil))))) (cNot (c1 dTru (fA dAll (fCons (fComp (iSeq (fAl 3)) (gN 4) cYes (fCall f__law_is_bound [] (fCons (fAl 4) fNil)) [4]) fNil))))) (sRet (fC (.bl false))) sNext)
noncomputable def F__law_right_v5 : FS :=
  (sSeq (sIf (cOr (cNot (c1 dTru (fA dIsi (fCons (fAl 0) (fCons (fC (.ty "tuple")) fNil))))) (c2 dNe (fA dLen (fCons (fAl 0) fNil)) (fC (.int 2)))) (sRet (fC (.bl false))) sNext)
  (sSeq (sAl 2 (fCall f__law_closed [] (fCons (fAl 1) fNil)))
  (sSeq (sIf (c1 dIsN (fAl 2)) (sRet (fAnd (fB (c2 dEq (f2 dIx (fAl 0) (fC (.int 0))) (fC (.str "ring")))) (fCall f__law_is_ring [] (fCons (f2 dIx (fAl 0) (fC (.int 1))) (fCons (fAl 1) fNil))))) sNext)
  (sSeq (sIf (cOr (c2 dNe (f2 dIx (fAl 0) (fC (.int 0))) (fC (.str "table"))) (cNot (c1 dTru (fA dIsi (fCons (f2 dIx (fAl 0) (fC (.int 1))) (fCons (fC (.ty "list")) fNil)))))) (sRet (fC (.bl false))) sNext)
  (sSeq (sFor (iSeq (f2 dIx (fAl 0) (fC (.int 1)))) (gN 3) L1__law_right_v5)
  (sRet (fB (c2 dEq (f2 dIx (fAl 0) (fC (.int 1))) (fAl 2)))))))))
abbrev N__law_right_v5 : List Str := ["_law_found", "_law_table", "_law_due", "_law_row", "_law_bound"]
noncomputable def f__law_right_v5 : List D → Option D := fnD N__law_right_v5 2 F__law_right_v5
theorem e__law_right_v5 (x0 x1 : D) : f__law_right_v5 [x0, x1] = (F__law_right_v5 [.al x0, .al x1, .no, .no, .no]).bind outD := rfl
noncomputable def R_fraction : FR :=
  (rSeq (rIf (cOr (cNot (c1 dTru (fCall f_is_whole [] (fCons (fAl 0) fNil)))) (cOr (cNot (c1 dTru (fCall f_is_whole [] (fCons (fAl 1) fNil)))) (c2 dEq (fAl 1) (fC (.int 0))))) (rRaise "NoFraction") (rOk sNext))
  (rOk (sSeq (sIf (c2 dLt (fAl 1) (fC (.int 0))) (sPar 0 1 (fCons (f1 dNeg (fAl 0)) (fCons (f1 dNeg (fAl 1)) fNil))) sNext)
  (sSeq (sAl 2 (fCall f_common [] (fCons (fA dAbs (fCons (fAl 0) fNil)) (fCons (fAl 1) fNil))))
  (sRet (fTup (fCons (f2 dDiv (fAl 0) (fAl 2)) (fCons (f2 dDiv (fAl 1) (fAl 2)) fNil))))))))
noncomputable def g_fraction : List D → Option Res := fnR N_fraction 2 R_fraction
theorem r_fraction (x0 x1 : D) : g_fraction [x0, x1] = (R_fraction [.al x0, .al x1, .no]).bind outR := rfl
noncomputable def F_closed_or_none : FS :=
  (sSeq (sAsg (fCall f_closed [] (fCons (fAl 0) fNil)) (gTp 2 (gCs (gN 1) (gCs (gO 2) gNl))))
  (sSeq (sIf (c2 dEq (fAl 1) (fC (.str "ring"))) sNever sNext)
  (sRet (fOw 2))))
abbrev N_closed_or_none : List Str := ["table", "word", "found"]
noncomputable def f_closed_or_none : List D → Option D := fnD N_closed_or_none 1 F_closed_or_none
theorem e_closed_or_none (x0 : D) : f_closed_or_none [x0] = (F_closed_or_none [.al x0, .no, .no]).bind outD := rfl
noncomputable def R_closed_or_none : FR :=
  (rSeq (rOk (sAsg (fCall f_closed [] (fCons (fAl 0) fNil)) (gTp 2 (gCs (gN 1) (gCs (gO 2) gNl)))))
  (rSeq (rIf (c2 dEq (fAl 1) (fC (.str "ring"))) (rRaise "NoPoint") (rOk sNext))
  (rOk (sRet (fOw 2)))))
noncomputable def g_closed_or_none : List D → Option Res := fnR N_closed_or_none 1 R_closed_or_none
theorem r_closed_or_none (x0 : D) : g_closed_or_none [x0] = (R_closed_or_none [.al x0, .no, .no]).bind outR := rfl
noncomputable def L1_ends_for : FS :=
  (sSeq (sAl 7 (f2 dIx (f2 dIx (fAl 0) (fAl 5)) (fAl 2)))
  (sSeq (sAl 8 (f2 dIx (f2 dIx (fAl 0) (fAl 2)) (fAl 5)))
  (sSeq (sIf (cNot (c1 dIsN (fAl 7))) (sAppend 3 (pNil 3) (fCons (fImm (fTup (fCons (fCall f_minus [] (fCons (fAl 6) (fCons (fCall f_fraction [(.int 1)] (fCons (f2 dIx (fAl 7) (fC (.int 0))) fNil)) fNil))) (fCons (f2 dIx (fAl 7) (fC (.int 1))) fNil)))) fNil)) sNext)
  (sIf (cNot (c1 dIsN (fAl 8))) (sAppend 4 (pNil 4) (fCons (fImm (fTup (fCons (fCall f_plus [] (fCons (fAl 6) (fCons (fCall f_fraction [(.int 1)] (fCons (f2 dIx (fAl 8) (fC (.int 0))) fNil)) fNil))) (fCons (f2 dIx (fAl 8) (fC (.int 1))) fNil)))) fNil)) sNext))))
noncomputable def F_ends_for : FS :=
  (sSeq (sOw 3 [] (fLst fNil))
  (sSeq (sOw 4 [] (fLst fNil))
  (sSeq (sFor (iEnumD (fAl 1)) (gSq 2 (gCs (gN 5) (gCs (gN 6) gNl))) L1_ends_for)
  (sRet (fTup (fCons (fOw 3) (fCons (fOw 4) fNil)))))))
abbrev N_ends_for : List Str := ["table", "point", "thing", "lows", "highs", "other", "part", "low", "high"]
noncomputable def f_ends_for : List D → Option D := fnD N_ends_for 3 F_ends_for
theorem e_ends_for (x0 x1 x2 : D) : f_ends_for [x0, x1, x2] = (F_ends_for [.al x0, .al x1, .al x2, .no, .no, .no, .no, .no, .no]).bind outD := rfl
noncomputable def F_is_narrower : FS :=
  (sSeq (sIf (c2 dEq (f2 dIx (fAl 0) (fC (.int 0))) (f2 dIx (fAl 1) (fC (.int 0)))) (sRet (fImm (f2 dIx (fAl 0) (fC (.int 1))))) sNext)
  (sRet (fB (c2 dEq (fCall f_less [] (fCons (f2 dIx (fAl 1) (fC (.int 0))) (fCons (f2 dIx (fAl 0) (fC (.int 0))) fNil))) (fAl 2)))))
abbrev N_is_narrower : List Str := ["end", "best", "greatest"]
noncomputable def f_is_narrower : List D → Option D := fnD N_is_narrower 3 F_is_narrower
theorem e_is_narrower (x0 x1 x2 : D) : f_is_narrower [x0, x1, x2] = (F_is_narrower [.al x0, .al x1, .al x2]).bind outD := rfl
noncomputable def L1_narrowest : FS :=
  (sIf (cOr (c1 dIsN (fAl 2)) (c1 dTru (fCall f_is_narrower [] (fCons (fAl 3) (fCons (fAl 2) (fCons (fAl 1) fNil)))))) (sAl 2 (fAl 3)) sNext)
noncomputable def F_narrowest : FS :=
  (sSeq (sAl 2 (fC .non))
  (sSeq (sFor (iSeq (fAl 0)) (gN 3) L1_narrowest)
  (sRet (fImm (fAl 2)))))
abbrev N_narrowest : List Str := ["ends", "greatest", "best", "end"]
noncomputable def f_narrowest : List D → Option D := fnD N_narrowest 2 F_narrowest
theorem e_narrowest (x0 x1 : D) : f_narrowest [x0, x1] = (F_narrowest [.al x0, .al x1, .no, .no]).bind outD := rfl
noncomputable def F_between : FS :=
  (sSeq (sIf (cAnd (c1 dIsN (fAl 0)) (c1 dIsN (fAl 1))) (sRet (fCall f_fraction [(.int 1)] (fCons (fC (.int 0)) fNil))) sNext)
  (sSeq (sIf (c1 dIsN (fAl 0)) (sRet (fCall f_minus [] (fCons (f2 dIx (fAl 1) (fC (.int 0))) (fCons (fCall f_fraction [(.int 1)] (fCons (fC (.int 1)) fNil)) fNil)))) sNext)
  (sSeq (sIf (cNot (c1 dTru (f2 dIx (fAl 0) (fC (.int 1))))) (sRet (fImm (f2 dIx (fAl 0) (fC (.int 0))))) sNext)
  (sSeq (sIf (c1 dIsN (fAl 1)) (sRet (fCall f_plus [] (fCons (f2 dIx (fAl 0) (fC (.int 0))) (fCons (fCall f_fraction [(.int 1)] (fCons (fC (.int 1)) fNil)) fNil)))) sNext)
  (sRet (fCall f_times [] (fCons (fCall f_plus [] (fCons (f2 dIx (fAl 0) (fC (.int 0))) (fCons (f2 dIx (fAl 1) (fC (.int 0))) fNil))) (fCons (fC (.tup [(.int 1), (.int 2)])) fNil))))))))
abbrev N_between : List Str := ["low", "high"]
noncomputable def f_between : List D → Option D := fnD N_between 2 F_between
theorem e_between (x0 x1 : D) : f_between [x0, x1] = (F_between [.al x0, .al x1]).bind outD := rfl
noncomputable def L1_point_of : FS :=
  (sSeq (sAsg (fCall f_ends_for [] (fCons (fAl 1) (fCons (fVar 2) (fCons (fAl 3) fNil)))) (gSq 2 (gCs (gN 4) (gCs (gN 5) gNl))))
  (sAppend 2 (pNil 2) (fCons (fCall f_between [] (fCons (fCall f_narrowest [] (fCons (fAl 4) (fCons (fC (.bl true)) fNil))) (fCons (fCall f_narrowest [] (fCons (fAl 5) (fCons (fC (.bl false)) fNil))) fNil))) fNil)))
noncomputable def F_point_of : FS :=
  (sSeq (sAl 1 (fCall f_closed_or_none [] (fCons (fAl 0) fNil)))
  (sSeq (sOw 2 [] (fLst (fCons (fCall f_fraction [(.int 1)] (fCons (fC (.int 0)) fNil)) fNil)))
  (sSeq (sFor (iR2 (fCons (fC (.int 1)) (fCons (fA dLen (fCons (fAl 1) fNil)) fNil))) (gN 3) L1_point_of)
  (sRet (fSl (fVar 2) (oSome (fC (.int 1))) oNone)))))
abbrev N_point_of : List Str := ["table", "found", "point", "thing", "lows", "highs"]
noncomputable def f_point_of : List D → Option D := fnD N_point_of 1 F_point_of
theorem e_point_of (x0 : D) : f_point_of [x0] = (F_point_of [.al x0, .no, .no, .no, .no, .no]).bind outD := rfl
noncomputable def R_point_of : FR :=
  (rSeq (rAl 1 (fCallR g_closed_or_none (fCons (fAl 0) fNil)))
  (rOk (sSeq (sOw 2 [] (fLst (fCons (fCall f_fraction [(.int 1)] (fCons (fC (.int 0)) fNil)) fNil)))
  (sSeq (sFor (iR2 (fCons (fC (.int 1)) (fCons (fA dLen (fCons (fAl 1) fNil)) fNil))) (gN 3) L1_point_of)
  (sRet (fSl (fVar 2) (oSome (fC (.int 1))) oNone))))))
noncomputable def g_point_of : List D → Option Res := fnR N_point_of 1 R_point_of
theorem r_point_of (x0 : D) : g_point_of [x0] = (R_point_of [.al x0, .no, .no, .no, .no, .no]).bind outR := rfl
noncomputable def L1_spread : FS :=
  (sAppend 2 (pNil 2) (fCons (fComp (iSeq (fAl 3)) (gN 4) cYes (fImm (fIf (c1 dIsN (fAl 4)) (fC .non) (fTup (fCons (f2 dMul (f2 dIx (fAl 4) (fC (.int 0))) (fAl 1)) (fCons (f2 dIx (fAl 4) (fC (.int 1))) fNil))))) [4]) fNil))
noncomputable def F_spread : FS :=
  (sSeq (sOw 2 [] (fLst fNil))
  (sSeq (sFor (iSeq (fAl 0)) (gN 3) L1_spread)
  (sRet (fOw 2))))
abbrev N_spread : List Str := ["table", "far", "found", "row", "bound"]
noncomputable def f_spread : List D → Option D := fnD N_spread 2 F_spread
theorem e_spread (x0 x1 : D) : f_spread [x0, x1] = (F_spread [.al x0, .al x1, .no, .no, .no]).bind outD := rfl
noncomputable def F_far_point : FS :=
  (sSeq (sAl 4 (fCall f_closed_or_none [] (fCons (fAl 0) fNil)))
  (sSeq (sAl 5 (f2 dIx (f2 dIx (fAl 4) (fAl 1)) (fAl 2)))
  (sSeq (sIf (c1 dIsN (fAl 5)) (sRet (fCall f_point_of [] (fCons (fCall f_narrowed [] (fCons (fAl 4) (fCons (fAl 2) (fCons (fAl 1) (fCons (fTup (fCons (f2 dSub (f1 dNeg (fC (.int 1))) (fCall f_floor_of [] (fCons (fCall f_fraction [] (fCons (f2 dIx (fAl 3) (fC (.int 1))) (fCons (f2 dIx (fAl 3) (fC (.int 0))) fNil))) fNil))) (fCons (fC (.bl false)) fNil))) fNil))))) fNil))) sNext)
  (sSeq (sIf (cNot (c1 dTru (f2 dIx (fAl 5) (fC (.int 1))))) (sRet (fCall f_point_of [] (fCons (fCall f_narrowed [] (fCons (fAl 4) (fCons (fAl 2) (fCons (fAl 1) (fCons (fTup (fCons (f1 dNeg (f2 dIx (fAl 5) (fC (.int 0)))) (fCons (fC (.bl false)) fNil))) fNil))))) fNil))) sNext)
  (sSeq (sAl 6 (f2 dMul (fC (.int 2)) (f2 dIx (fAl 3) (fC (.int 1)))))
  (sSeq (sAl 7 (fCall f_narrowed [] (fCons (fCall f_spread [] (fCons (fAl 4) (fCons (fAl 6) fNil))) (fCons (fAl 2) (fCons (fAl 1) (fCons (fTup (fCons (f2 dSub (fC (.int 1)) (f2 dMul (f2 dIx (fAl 5) (fC (.int 0))) (fAl 6))) (fCons (fC (.bl false)) fNil))) fNil))))))
  (sRet (fComp (iSeq (fCall f_point_of [] (fCons (fAl 7) fNil))) (gN 8) cYes (fCall f_times [] (fCons (fAl 8) (fCons (fCall f_fraction [] (fCons (fC (.int 1)) (fCons (fAl 6) fNil))) fNil))) [8]))))))))
abbrev N_far_point : List Str := ["table", "i", "j", "e", "found", "bound", "far", "wide", "part"]
noncomputable def f_far_point : List D → Option D := fnD N_far_point 4 F_far_point
theorem e_far_point (x0 x1 x2 x3 : D) : f_far_point [x0, x1, x2, x3] = (F_far_point [.al x0, .al x1, .al x2, .al x3, .no, .no, .no, .no, .no]).bind outD := rfl
noncomputable def R_far_point : FR :=
  (rSeq (rAl 4 (fCallR g_closed_or_none (fCons (fAl 0) fNil)))
  (rOk (sSeq (sAl 5 (f2 dIx (f2 dIx (fAl 4) (fAl 1)) (fAl 2)))
  (sSeq (sIf (c1 dIsN (fAl 5)) (sRet (fCall f_point_of [] (fCons (fCall f_narrowed [] (fCons (fAl 4) (fCons (fAl 2) (fCons (fAl 1) (fCons (fTup (fCons (f2 dSub (f1 dNeg (fC (.int 1))) (fCall f_floor_of [] (fCons (fCall f_fraction [] (fCons (f2 dIx (fAl 3) (fC (.int 1))) (fCons (f2 dIx (fAl 3) (fC (.int 0))) fNil))) fNil))) (fCons (fC (.bl false)) fNil))) fNil))))) fNil))) sNext)
  (sSeq (sIf (cNot (c1 dTru (f2 dIx (fAl 5) (fC (.int 1))))) (sRet (fCall f_point_of [] (fCons (fCall f_narrowed [] (fCons (fAl 4) (fCons (fAl 2) (fCons (fAl 1) (fCons (fTup (fCons (f1 dNeg (f2 dIx (fAl 5) (fC (.int 0)))) (fCons (fC (.bl false)) fNil))) fNil))))) fNil))) sNext)
  (sSeq (sAl 6 (f2 dMul (fC (.int 2)) (f2 dIx (fAl 3) (fC (.int 1)))))
  (sSeq (sAl 7 (fCall f_narrowed [] (fCons (fCall f_spread [] (fCons (fAl 4) (fCons (fAl 6) fNil))) (fCons (fAl 2) (fCons (fAl 1) (fCons (fTup (fCons (f2 dSub (fC (.int 1)) (f2 dMul (f2 dIx (fAl 5) (fC (.int 0))) (fAl 6))) (fCons (fC (.bl false)) fNil))) fNil))))))
  (sRet (fComp (iSeq (fCall f_point_of [] (fCons (fAl 7) fNil))) (gN 8) cYes (fCall f_times [] (fCons (fAl 8) (fCons (fCall f_fraction [] (fCons (fC (.int 1)) (fCons (fAl 6) fNil))) fNil))) [8])))))))))
noncomputable def g_far_point : List D → Option Res := fnR N_far_point 4 R_far_point
theorem r_far_point (x0 x1 x2 x3 : D) : g_far_point [x0, x1, x2, x3] = (R_far_point [.al x0, .al x1, .al x2, .al x3, .no, .no, .no, .no, .no]).bind outR := rfl
noncomputable def F__law_right : FS :=
  (sSeq (sIf (cOr (cNot (c1 dTru (fA dIsi (fCons (fAl 0) (fCons (fC (.ty "tuple")) fNil))))) (cOr (c2 dNe (fA dLen (fCons (fAl 0) fNil)) (fC (.int 2))) (cOr (cNot (c1 dTru (fCall f__law_whole [] (fCons (f2 dIx (fAl 0) (fC (.int 0))) fNil)))) (cNot (c1 dTru (fCall f__law_whole [] (fCons (f2 dIx (fAl 0) (fC (.int 1))) fNil))))))) (sRet (fC (.bl false))) sNext)
  (sRet (fAnd (fB (c2 dEq (fAl 0) (fAl 1))) (fB (c2 dIsB (fCall f_is_fraction [] (fCons (fAl 0) fNil)) (fC (.bl true)))))))
abbrev N__law_right : List Str := ["_law_found", "_law_due"]
noncomputable def f__law_right : List D → Option D := fnD N__law_right 2 F__law_right
theorem e__law_right (x0 x1 : D) : f__law_right [x0, x1] = (F__law_right [.al x0, .al x1]).bind outD := rfl
noncomputable def F__law_refused : FS :=
  (sSeq (sAl 2 (fC (.bl false)))
  (sSeq (sTry 3 ["NoFraction"] (rDrop (fCallR g_fraction (fCons (fAl 0) (fCons (fAl 1) fNil)))) (fun _ a => (sSeq (sAl 2 (fAnd (fE 3 a (.bl true)) (fE 3 a (.bl true))))
  (sIf (c1 dTru (fE 3 a (.bl false))) (sAl 2 (fC (.bl false))) sNext))))
  (sRet (fImm (fAl 2)))))
abbrev N__law_refused : List Str := ["_law_top", "_law_bottom", "_law_good", "e"]
noncomputable def f__law_refused : List D → Option D := fnD N__law_refused 2 F__law_refused
theorem e__law_refused (x0 x1 : D) : f__law_refused [x0, x1] = (F__law_refused [.al x0, .al x1, .no, .no]).bind outD := rfl
noncomputable def F__law_pair : FS :=
  (sSeq (sAl 2 (fLst (fCons (fTup (fCons (fAl 1) (fCons (fC (.int 0)) fNil))) (fCons (fTup (fCons (fC (.int 0)) (fCons (fC (.int 0)) fNil))) (fCons (fTup (fCons (fC .non) (fCons (fC (.int 1)) fNil))) (fCons (fTup (fCons (fC (.int 1)) (fCons (fC .non) fNil))) (fCons (fTup (fCons (fC (.str "1")) (fCons (fC (.int 1)) fNil))) (fCons (fTup (fCons (fAl 1) (fCons (fC (.str "1")) fNil))) (fCons (fTup (fCons (fC (.bl true)) (fCons (fC (.int 1)) fNil))) (fCons (fTup (fCons (fAl 1) (fCons (fC (.bl true)) fNil))) fNil))))))))))
  (sSeq (sAl 2 (f2 dAdd (fAl 2) (fFz (fLst (fCons (fTup (fCons (fC (.int 1)) (fCons (fC (.bl false)) fNil))) (fCons (fImm (fTup (fCons (fTup (fCons (fAl 1) fNil)) (fCons (fC (.int 1)) fNil)))) (fCons (fTup (fCons (fC (.int 1)) (fCons (fTup (fCons (fC (.int 1)) (fCons (fC (.int 1)) fNil))) fNil))) (fCons (fTup (fCons (fLst (fCons (fC (.int 1)) fNil)) (fCons (fC (.int 1)) fNil))) (fCons (fImm (fTup (fCons (fAl 1) (fCons (fC .emp) fNil)))) (fCons (fTup (fCons (fC (.bl false)) (fCons (f2 dAdd (fAl 1) (fA dInt1 (fCons (fB (c2 dEq (fAl 1) (fC (.int 0)))) fNil))) fNil))) fNil))))))))))
  (sRet (fImm (f2 dIx (fAl 2) (fAl 0))))))
abbrev N__law_pair : List Str := ["_law_way", "_law_number_here", "_law_some"]
noncomputable def f__law_pair : List D → Option D := fnD N__law_pair 2 F__law_pair
theorem e__law_pair (x0 x1 : D) : f__law_pair [x0, x1] = (F__law_pair [.al x0, .al x1, .no]).bind outD := rfl
noncomputable def F__law_odd : FS :=
  (sSeq (sAl 2 (fLst (fCons (fTup (fCons (fC (.int 0)) (fCons (fC (.int 1)) fNil))) (fCons (fTup (fCons (fAl 1) (fCons (fC (.int 1)) fNil))) (fCons (fTup (fCons (f2 dMul (fC (.int 2)) (fAl 1)) (fCons (fC (.int 2)) fNil))) (fCons (fTup (fCons (fC (.int 1)) (fCons (f2 dSub (f1 dNeg (fC (.int 1))) (fA dAbs (fCons (fAl 1) fNil))) fNil))) (fCons (fTup (fCons (fC (.int 0)) (fCons (fC (.int 2)) fNil))) (fCons (fTup (fCons (fAl 1) (fCons (fC (.int 0)) fNil))) (fCons (fTup (fCons (fC (.bl true)) (fCons (fC (.int 1)) fNil))) (fCons (fTup (fCons (fC (.int 1)) (fCons (fC (.bl true)) fNil))) fNil))))))))))
  (sSeq (sAl 2 (f2 dAdd (fAl 2) (fFz (fLst (fCons (fLst (fCons (fC (.int 1)) (fCons (fC (.int 2)) fNil))) (fCons (fTup (fCons (fC (.int 1)) fNil)) (fCons (fTup (fCons (fC (.int 1)) (fCons (fC (.int 2)) (fCons (fC (.int 3)) fNil)))) (fCons (fImm (fAl 1)) (fCons (fC (.str "1/2")) (fCons (fC .non) (fCons (fTup (fCons (fC (.int 1)) (fCons (f2 dAdd (fC (.int 1)) (fA dAbs (fCons (fAl 1) fNil))) fNil))) (fCons (fImm (fTup (fCons (fAl 1) (fCons (fC (.int 7)) fNil)))) fNil))))))))))))
  (sRet (fImm (f2 dIx (fAl 2) (fAl 0))))))
abbrev N__law_odd : List Str := ["_law_way", "_law_number_here", "_law_some"]
noncomputable def f__law_odd : List D → Option D := fnD N__law_odd 2 F__law_odd
theorem e__law_odd (x0 x1 : D) : f__law_odd [x0, x1] = (F__law_odd [.al x0, .al x1, .no]).bind outD := rfl
noncomputable def F__law_is_one : FS :=
  (sSeq (sIf (cOr (cNot (c1 dTru (fA dIsi (fCons (fAl 0) (fCons (fC (.ty "tuple")) fNil))))) (cOr (c2 dNe (fA dLen (fCons (fAl 0) fNil)) (fC (.int 2))) (cOr (cNot (c1 dTru (fCall f__law_whole [] (fCons (f2 dIx (fAl 0) (fC (.int 0))) fNil)))) (cNot (c1 dTru (fCall f__law_whole [] (fCons (f2 dIx (fAl 0) (fC (.int 1))) fNil))))))) (sRet (fC (.bl false))) sNext)
  (sRet (fAnd (fB (c2 dGt (f2 dIx (fAl 0) (fC (.int 1))) (fC (.int 0)))) (fB (c2 dEq (fCall f__law_common [] (fCons (fA dAbs (fCons (f2 dIx (fAl 0) (fC (.int 0))) fNil)) (fCons (f2 dIx (fAl 0) (fC (.int 1))) fNil))) (fC (.int 1)))))))
abbrev N__law_is_one : List Str := ["_law_thing"]
noncomputable def f__law_is_one : List D → Option D := fnD N__law_is_one 1 F__law_is_one
theorem e__law_is_one (x0 : D) : f__law_is_one [x0] = (F__law_is_one [.al x0]).bind outD := rfl
noncomputable def F__law_odd_right : FS :=
  (sRet (fAnd (fCall f__law_says [] (fCons (fCall f_is_fraction [] (fCons (fAl 0) fNil)) (fCons (fCall f__law_is_one [] (fCons (fAl 0) fNil)) fNil))) (fCall f__law_says [] (fCons (fCall f_is_whole [] (fCons (fAl 0) fNil)) (fCons (fCall f__law_whole [] (fCons (fAl 0) fNil)) fNil)))))
abbrev N__law_odd_right : List Str := ["_law_thing"]
noncomputable def f__law_odd_right : List D → Option D := fnD N__law_odd_right 1 F__law_odd_right
theorem e__law_odd_right (x0 : D) : f__law_odd_right [x0] = (F__law_odd_right [.al x0]).bind outD := rfl
noncomputable def L1_law_k11 : FS :=
  (sSeq (sAl 7 (fCall f__law_number [] (fCons (f2 dDiv (fAl 6) (fC (.int 224))) fNil)))
  (sSeq (sAl 8 (fCall f__law_pair [] (fCons (f2 dMod (fAl 6) (fC (.int 14))) (fCons (fAl 7) fNil))))
  (sIf (cOr (cNot (c1 dTru (fCall f__law_refused [] (fCons (f2 dIx (fAl 8) (fC (.int 0))) (fCons (f2 dIx (fAl 8) (fC (.int 1))) fNil))))) (cNot (c1 dTru (fCall f__law_odd_right [] (fCons (fCall f__law_odd [] (fCons (f2 dMod (f2 dDiv (fAl 6) (fC (.int 14))) (fC (.int 16))) (fCons (fAl 7) fNil))) fNil))))) (sRet (fC (.bl false))) sNext)))
noncomputable def F_law_k11 : FS :=
  (sSeq (sAl 1 (fCall f__law_number [] (fCons (fCall f__law_cell_at [] (fCons (fAl 0) (fCons (fC (.int 1)) fNil))) fNil)))
  (sSeq (sAl 2 (fCall f__law_number [] (fCons (fCall f__law_cell_at [] (fCons (fAl 0) (fCons (fC (.int 2)) fNil))) fNil)))
  (sSeq (sAl 2 (f2 dAdd (fAl 2) (fA dInt1 (fCons (fB (c2 dEq (fAl 2) (fC (.int 0)))) fNil))))
  (sSeq (sAl 3 (fCall f__law_cell_at [] (fCons (fAl 0) (fCons (fC (.int 0)) fNil))))
  (sSeq (sIf (c2 dEq (f2 dMod (fAl 3) (fC (.int 4))) (fC (.int 3))) (sSeq (sAl 4 (f2 dAdd (fC (.int 1)) (f2 dMod (f2 dDiv (fAl 3) (fC (.int 4))) (f2 dPow (fC (.int 10)) (fC (.int 29))))))
  (sSeq (sAl 1 (f2 dMul (f2 dMod (fAl 1) (f2 dPow (fC (.int 10)) (fC (.int 31)))) (fAl 4)))
  (sAl 2 (f2 dMul (f2 dMul (f2 dAdd (fC (.int 1)) (f2 dMod (fAl 2) (f2 dPow (fC (.int 10)) (fC (.int 30))))) (fAl 4)) (f2 dSub (fC (.int 1)) (f2 dMul (f2 dMod (f2 dDiv (fAl 3) (fC (.int 8))) (fC (.int 2))) (fC (.int 2)))))))) sNext)
  (sSeq (sAl 5 (fCall f__law_lowest [] (fCons (fAl 1) (fCons (fAl 2) fNil))))
  (sSeq (sIf (cOr (cNot (c1 dTru (fCall f__law_right [] (fCons (fCall f_fraction [] (fCons (fAl 1) (fCons (fAl 2) fNil))) (fCons (fAl 5) fNil))))) (cNot (c1 dTru (fCall f__law_right [] (fCons (fCall f_fraction [(.int 1)] (fCons (fAl 1) fNil)) (fCons (fTup (fCons (fAl 1) (fCons (fC (.int 1)) fNil))) fNil)))))) (sRet (fC (.bl false))) sNext)
  (sSeq (sFor (iSeq (fSl (fAl 0) (oSome (fC (.int 3))) (oSome (fC (.int 33))))) (gN 6) L1_law_k11)
  (sSeq (sIf (cOr (c2 dIsNotB (fCall f_is_whole [] (fCons (fAl 1) fNil)) (fC (.bl true))) (cOr (c2 dIsNotB (fCall f_is_whole [] (fCons (fC (.bl true)) fNil)) (fC (.bl false))) (c2 dIsNotB (fCall f_is_whole [] (fCons (fAl 5) fNil)) (fC (.bl false))))) (sRet (fC (.bl false))) sNext)
  (sRet (fAnd (fCall f__law_refused [] (fCons (fAl 1) (fCons (fC (.int 0)) fNil))) (fCall f__law_right [] (fCons (fCall f_fraction [] (fCons (fAl 1) (fCons (fAl 2) fNil))) (fCons (fAl 5) fNil))))))))))))))
abbrev N_law_k11 : List Str := ["_law_script", "_law_top", "_law_bottom", "_law_head", "_law_shared", "_law_due", "_law_cell", "_law_number_here", "_law_pair_here"]
noncomputable def f_law_k11 : List D → Option D := fnD N_law_k11 1 F_law_k11
theorem e_law_k11 (x0 : D) : f_law_k11 [x0] = (F_law_k11 [.al x0, .no, .no, .no, .no, .no, .no, .no, .no]).bind outD := rfl
end G
namespace K11
open PySem PySem.Spec PyProof.Rows L2 Z
open G
def topS (i : Nat) : Stmt := PySem.Challenge.pw_watchyard_k11_fractions_made.main.body.getD i (.Pass ⟨0, 0, 0, 0⟩)
abbrev FnP (K : PySem.W.Frag) (x : Str) (st : Stmt) (dvs : List V) (f : Addr) (fd : FuncData) : Prop := FunD K x x (defArgs st) (defBody st) (defScope st) dvs [] f fd
abbrev XX (P : Program) (w : World) (K : PySem.W.Frag) (mg : Str → Option Value) (base : Heap) (N : List Str) (qual : Str) (scope : Scope) (f : Addr) (cd : Value) (A : Around) (outer : List Env) (s : Shared) (H : Hp) (E : XK) : Cx := (cxOf CX0 P w K mg base N qual scope f cd A outer s H E).nox
abbrev XXR (P : Program) (w : World) (K : PySem.W.Frag) (mg : Str → Option Value) (base : Heap) (N : List Str) (qual : Str) (scope : Scope) (f : Addr) (cd : Value) (A : Around) (outer : List Env) (s : Shared) (H : Hp) (E : XK) : Cx := (cxOf (L2.CX P w) P w K mg base N qual scope f cd A outer s H E).nox
abbrev s_is_whole : Stmt := topS 10
theorem sc_is_whole : FnScope N_is_whole ["thing"] (defScope s_is_whole) := ⟨rfl, rfl, rfl, by decide +kernel, rfl, by decide +kernel, by decide +kernel⟩
abbrev s_common : Stmt := topS 11
theorem sc_common : FnScope N_common ["one", "other"] (defScope s_common) := ⟨rfl, rfl, rfl, by decide +kernel, rfl, by decide +kernel, by decide +kernel⟩
abbrev s_is_fraction : Stmt := topS 12
theorem sc_is_fraction : FnScope N_is_fraction ["thing"] (defScope s_is_fraction) := ⟨rfl, rfl, rfl, by decide +kernel, rfl, by decide +kernel, by decide +kernel⟩
abbrev s_fraction : Stmt := topS 13
theorem sc_fraction : FnScope N_fraction ["top", "bottom"] (defScope s_fraction) := ⟨rfl, rfl, rfl, by decide +kernel, rfl, by decide +kernel, by decide +kernel⟩
abbrev s__law_cell_at : Stmt := topS 15
theorem sc__law_cell_at : FnScope N__law_cell_at ["_law_script", "_law_k"] (defScope s__law_cell_at) := ⟨rfl, rfl, rfl, by decide +kernel, rfl, by decide +kernel, by decide +kernel⟩
abbrev s__law_number : Stmt := topS 16
theorem sc__law_number : FnScope N__law_number ["_law_cell"] (defScope s__law_number) := ⟨rfl, rfl, rfl, by decide +kernel, rfl, by decide +kernel, by decide +kernel⟩
abbrev s__law_whole : Stmt := topS 17
theorem sc__law_whole : FnScope N__law_whole ["_law_found"] (defScope s__law_whole) := ⟨rfl, rfl, rfl, by decide +kernel, rfl, by decide +kernel, by decide +kernel⟩
abbrev s__law_common : Stmt := topS 18
theorem sc__law_common : FnScope N__law_common ["_law_one", "_law_other"] (defScope s__law_common) := ⟨rfl, rfl, rfl, by decide +kernel, rfl, by decide +kernel, by decide +kernel⟩
abbrev s__law_lowest : Stmt := topS 19
theorem sc__law_lowest : FnScope N__law_lowest ["_law_top", "_law_bottom"] (defScope s__law_lowest) := ⟨rfl, rfl, rfl, by decide +kernel, rfl, by decide +kernel, by decide +kernel⟩
abbrev s__law_right : Stmt := topS 20
theorem sc__law_right : FnScope N__law_right ["_law_found", "_law_due"] (defScope s__law_right) := ⟨rfl, rfl, rfl, by decide +kernel, rfl, by decide +kernel, by decide +kernel⟩
abbrev s__law_refused : Stmt := topS 21
theorem sc__law_refused : FnScope N__law_refused ["_law_top", "_law_bottom"] (defScope s__law_refused) := ⟨rfl, rfl, rfl, by decide +kernel, rfl, by decide +kernel, by decide +kernel⟩
abbrev s__law_pair : Stmt := topS 22
theorem sc__law_pair : FnScope N__law_pair ["_law_way", "_law_number_here"] (defScope s__law_pair) := ⟨rfl, rfl, rfl, by decide +kernel, rfl, by decide +kernel, by decide +kernel⟩
abbrev s__law_odd : Stmt := topS 23
theorem sc__law_odd : FnScope N__law_odd ["_law_way", "_law_number_here"] (defScope s__law_odd) := ⟨rfl, rfl, rfl, by decide +kernel, rfl, by decide +kernel, by decide +kernel⟩
abbrev s__law_is_one : Stmt := topS 24
theorem sc__law_is_one : FnScope N__law_is_one ["_law_thing"] (defScope s__law_is_one) := ⟨rfl, rfl, rfl, by decide +kernel, rfl, by decide +kernel, by decide +kernel⟩
abbrev s__law_says : Stmt := topS 25
theorem sc__law_says : FnScope N__law_says ["_law_found", "_law_due"] (defScope s__law_says) := ⟨rfl, rfl, rfl, by decide +kernel, rfl, by decide +kernel, by decide +kernel⟩
abbrev s__law_odd_right : Stmt := topS 26
theorem sc__law_odd_right : FnScope N__law_odd_right ["_law_thing"] (defScope s__law_odd_right) := ⟨rfl, rfl, rfl, by decide +kernel, rfl, by decide +kernel, by decide +kernel⟩
abbrev s_law : Stmt := topS 27
theorem sc_law : FnScope N_law_k11 ["_law_script"] (defScope s_law) := ⟨rfl, rfl, rfl, by decide +kernel, rfl, by decide +kernel, by decide +kernel⟩
section
variable {P : Program} {w : World} {K : PySem.W.Frag} {mg : Str → Option Value} {base : Heap}
theorem ok_is_whole {f : Addr} {fd : FuncData} (F : FnP K "is_whole" s_is_whole [] f fd) (m_isinstance : mg "isinstance" = none) (m_int : mg "int" = none) (m_bool : mg "bool" = none) : FnOk P w K mg base CX0 1 f fd ["thing"] (spD K f_is_whole) :=
  fn_ok F sc_is_whole rfl fun cdv A outer s H E hr =>
    (dss_one (ds_ret (de_and (de_callB call_isi o_isi (by rfl) m_isinstance (by decide +kernel) (da_cons (de_al 0) (da_cons (de_type (n := "int") (by rfl) m_int (by decide +kernel)) da_nil))) (de_one (de_not (de_callB call_isi o_isi (by rfl) m_isinstance (by decide +kernel) (da_cons (de_al 0) (da_cons (de_type (n := "bool") (by rfl) m_bool (by decide +kernel)) da_nil))))))))
theorem ok_common {f : Addr} {fd : FuncData} (F : FnP K "common" s_common [] f fd) : FnOk P w K mg base CX0 1 f fd ["one", "other"] (spD K f_common) :=
  fn_ok F sc_common rfl fun cdv A outer s H E hr =>
    (dss_cons (ds_while PassesOwn.never (dt_cmp (op_neD hr.units) o_ne (de_al 1) de_int (nomark _)) (dss_one (ds_par 0 1 rfl sc_common.nd (da_cons (de_al 1) (da_cons (de_op op_mod o_mod (de_al 0) (de_al 1)) da_nil)))))
      (dss_one (ds_ret (de_imm (de_al 0)))))
theorem ok_is_fraction {f : Addr} {fd : FuncData} (F : FnP K "is_fraction" s_is_fraction [] f fd) (c_is_whole : Fd P w K mg base "is_whole" 1 [] f_is_whole) (c_common : Fd P w K mg base "common" 1 [] f_common) (m_isinstance : mg "isinstance" = none) (m_tuple : mg "tuple" = none) (m_len : mg "len" = none) (m_abs : mg "abs" = none) : FnOk P w K mg base CX0 2 f fd ["thing"] (spD K f_is_fraction) :=
  fn_ok F sc_is_fraction rfl fun cdv A outer s H E hr =>
    (dss_cons (ds_if (dt_w (dw_or (dt_not (dt_tru (de_callB call_isi o_isi (by rfl) m_isinstance (by decide +kernel) (da_cons (de_al 0) (da_cons (de_type (n := "tuple") (by rfl) m_tuple (by decide +kernel)) da_nil))))) (dw_or (dt_cmp (op_neD hr.units) o_ne (de_callB call_len o_len (by rfl) m_len (by decide +kernel) (da_cons (de_al 0) da_nil)) de_int (nomark _)) (dw_or (dt_not (dt_tru (de_call c_is_whole (hr.mono (by decide)) (by rfl) (da_cons (de_ix (de_al 0) de_int) da_nil)))) (dw_or1 (dt_not (dt_tru (de_call c_is_whole (hr.mono (by decide)) (by rfl) (da_cons (de_ix (de_al 0) de_int) da_nil))))))))) (dss_one (ds_ret de_bl)) dss_nil)
      (dss_one (ds_ret (de_and (de_cmp op_gt o_cmp (de_ix (de_al 0) de_int) de_int (nomark _)) (de_one (de_cmp (op_eqD hr.units) o_eq (de_call c_common (hr.mono (by decide)) (by rfl) (da_cons (de_callB call_abs o_abs (by rfl) m_abs (by decide +kernel) (da_cons (de_ix (de_al 0) de_int) da_nil)) (da_cons (de_ix (de_al 0) de_int) da_nil))) de_int (nomark _)))))))
theorem ok_fraction {f : Addr} {fd : FuncData} (F : FnP K "fraction" s_fraction [.int 1] f fd) (c_is_whole : Fd P w K mg base "is_whole" 1 [] f_is_whole) (c_common : Fd P w K mg base "common" 1 [] f_common) (m_abs : mg "abs" = none) : FnOk P w K mg base CX0 2 f fd ["top", "bottom"] (spD K f_fraction) :=
  fn_ok F sc_fraction rfl fun cdv A outer s H E hr =>
    (dss_cons (ds_if (dt_w (dw_or (dt_not (dt_tru (de_call c_is_whole (hr.mono (by decide)) (by rfl) (da_cons (de_al 0) da_nil)))) (dw_or (dt_not (dt_tru (de_call c_is_whole (hr.mono (by decide)) (by rfl) (da_cons (de_al 1) da_nil)))) (dw_or1 (dt_cmp (op_eqD hr.units) o_eq (de_al 1) de_int (nomark _)))))) (dss_one ds_never) dss_nil)
      (dss_cons (ds_if (dt_cmp op_lt o_cmp (de_al 1) de_int (nomark _)) (dss_one (ds_par 0 1 rfl sc_fraction.nd (da_cons (de_un un_neg o_neg (de_al 0)) (da_cons (de_un un_neg o_neg (de_al 1)) da_nil)))) dss_nil)
      (dss_cons (ds_al 2 sc_fraction.nd (de_le (de_call c_common (hr.mono (by decide)) (by rfl) (da_cons (de_callB call_abs o_abs (by rfl) m_abs (by decide +kernel) (da_cons (de_al 0) da_nil)) (da_cons (de_al 1) da_nil))) .sh))
      (dss_one (ds_ret (de_tup (da_cons (de_op op_fdivW o_div (de_al 0) (de_al 2)) (da_cons (de_op op_fdivW o_div (de_al 1) (de_al 2)) da_nil))))))))
theorem okR_fraction {f : Addr} {fd : FuncData} (F : FnP K "fraction" s_fraction [.int 1] f fd) (c_is_whole : Fd P w K mg base "is_whole" 1 [] f_is_whole) (c_common : Fd P w K mg base "common" 1 [] f_common) (m_abs : mg "abs" = none) (x_NoFraction : (He.Fa.exc "NoFraction").ok K = true) (G_NoFraction : mg "NoFraction" = some (clsV K "NoFraction")) : FnOk P w K mg base (L2.CX P w) 2 f fd ["top", "bottom"] (spR K g_fraction) :=
  fn_okR F sc_fraction rfl fun cdv A outer s H E hr =>
    (rss_cons (rs_if (dt_w (dw_or (dt_not (dt_tru (de_call c_is_whole (hr.mono (by decide)) (by rfl) (da_cons (de_al 0) da_nil)))) (dw_or (dt_not (dt_tru (de_call c_is_whole (hr.mono (by decide)) (by rfl) (da_cons (de_al 1) da_nil)))) (dw_or1 (dt_cmp (op_eqD hr.units) o_eq (de_al 1) de_int (nomark _)))))) (rss_one (rs_raiseC rfl takes_cxOf x_NoFraction G_NoFraction (by rfl))) (rss_ok dss_nil))
      (rss_ok (PSs.nox (dss_cons (ds_if (dt_cmp op_lt o_cmp (de_al 1) de_int (nomark _)) (dss_one (ds_par 0 1 rfl sc_fraction.nd (da_cons (de_un un_neg o_neg (de_al 0)) (da_cons (de_un un_neg o_neg (de_al 1)) da_nil)))) dss_nil)
      (dss_cons (ds_al 2 sc_fraction.nd (de_le (de_call c_common (hr.mono (by decide)) (by rfl) (da_cons (de_callB call_abs o_abs (by rfl) m_abs (by decide +kernel) (da_cons (de_al 0) da_nil)) (da_cons (de_al 1) da_nil))) .sh))
      (dss_one (ds_ret (de_tup (da_cons (de_op op_fdivW o_div (de_al 0) (de_al 2)) (da_cons (de_op op_fdivW o_div (de_al 1) (de_al 2)) da_nil))))))))))
theorem ok__law_cell_at {f : Addr} {fd : FuncData} (F : FnP K "_law_cell_at" s__law_cell_at [] f fd) (m_len : mg "len" = none) : FnOk P w K mg base CX0 1 f fd ["_law_script", "_law_k"] (spD K f__law_cell_at) :=
  fn_ok F sc__law_cell_at rfl fun cdv A outer s H E hr =>
    (dss_cons (ds_if (dt_cmp op_lt o_cmp (de_al 1) (de_callB call_len o_len (by rfl) m_len (by decide +kernel) (da_cons (de_al 0) da_nil)) (nomark _)) (dss_one (ds_ret (de_imm (de_ix (de_al 0) (de_al 1))))) dss_nil)
      (dss_one (ds_ret de_int)))
theorem ok__law_number {f : Addr} {fd : FuncData} (F : FnP K "_law_number" s__law_number [] f fd) : FnOk P w K mg base CX0 1 f fd ["_law_cell"] (spD K f__law_number) :=
  fn_ok F sc__law_number rfl fun cdv A outer s H E hr =>
    (dss_cons (ds_if (dt_cmp (op_eqD hr.units) o_eq (de_op op_mod o_mod (de_al 0) de_int) de_int (nomark _)) (dss_one (ds_ret (de_op op_sub o_sub (de_op op_mod o_mod (de_op op_fdivW o_div (de_al 0) de_int) de_int) de_int))) dss_nil)
      (dss_one (ds_ret (de_op op_sub o_sub (de_op op_mod o_mod (de_op op_fdivW o_div (de_al 0) de_int) (de_op op_sub o_sub (de_op op_mulXX o_mul de_int (de_op op_pow o_pow de_int de_int)) de_int)) (de_op op_sub o_sub (de_op op_pow o_pow de_int de_int) de_int)))))
theorem ok__law_whole {f : Addr} {fd : FuncData} (F : FnP K "_law_whole" s__law_whole [] f fd) (m_isinstance : mg "isinstance" = none) (m_int : mg "int" = none) (m_bool : mg "bool" = none) : FnOk P w K mg base CX0 1 f fd ["_law_found"] (spD K f__law_whole) :=
  fn_ok F sc__law_whole rfl fun cdv A outer s H E hr =>
    (dss_one (ds_ret (de_and (de_callB call_isi o_isi (by rfl) m_isinstance (by decide +kernel) (da_cons (de_al 0) (da_cons (de_type (n := "int") (by rfl) m_int (by decide +kernel)) da_nil))) (de_one (de_not (de_callB call_isi o_isi (by rfl) m_isinstance (by decide +kernel) (da_cons (de_al 0) (da_cons (de_type (n := "bool") (by rfl) m_bool (by decide +kernel)) da_nil))))))))
theorem ok__law_common {f : Addr} {fd : FuncData} (F : FnP K "_law_common" s__law_common [] f fd) : FnOk P w K mg base CX0 1 f fd ["_law_one", "_law_other"] (spD K f__law_common) :=
  fn_ok F sc__law_common rfl fun cdv A outer s H E hr =>
    (dss_cons (ds_while PassesOwn.never (dt_cmp (op_neD hr.units) o_ne (de_al 1) de_int (nomark _)) (dss_one (ds_par 0 1 rfl sc__law_common.nd (da_cons (de_al 1) (da_cons (de_op op_mod o_mod (de_al 0) (de_al 1)) da_nil)))))
      (dss_one (ds_ret (de_imm (de_al 0)))))
theorem ok__law_lowest {f : Addr} {fd : FuncData} (F : FnP K "_law_lowest" s__law_lowest [] f fd) (c__law_common : Fd P w K mg base "_law_common" 1 [] f__law_common) (m_abs : mg "abs" = none) : FnOk P w K mg base CX0 2 f fd ["_law_top", "_law_bottom"] (spD K f__law_lowest) :=
  fn_ok F sc__law_lowest rfl fun cdv A outer s H E hr =>
    (dss_cons (ds_if (dt_cmp op_lt o_cmp (de_al 1) de_int (nomark _)) (dss_one (ds_par 0 1 rfl sc__law_lowest.nd (da_cons (de_un un_neg o_neg (de_al 0)) (da_cons (de_un un_neg o_neg (de_al 1)) da_nil)))) dss_nil)
      (dss_cons (ds_al 2 sc__law_lowest.nd (de_le (de_call c__law_common (hr.mono (by decide)) (by rfl) (da_cons (de_callB call_abs o_abs (by rfl) m_abs (by decide +kernel) (da_cons (de_al 0) da_nil)) (da_cons (de_al 1) da_nil))) .sh))
      (dss_one (ds_ret (de_tup (da_cons (de_op op_fdivW o_div (de_al 0) (de_al 2)) (da_cons (de_op op_fdivW o_div (de_al 1) (de_al 2)) da_nil)))))))
theorem ok__law_right {f : Addr} {fd : FuncData} (F : FnP K "_law_right" s__law_right [] f fd) (c__law_whole : Fd P w K mg base "_law_whole" 1 [] f__law_whole) (c_is_fraction : Fd P w K mg base "is_fraction" 2 [] f_is_fraction) (m_isinstance : mg "isinstance" = none) (m_tuple : mg "tuple" = none) (m_len : mg "len" = none) : FnOk P w K mg base CX0 3 f fd ["_law_found", "_law_due"] (spD K f__law_right) :=
  fn_ok F sc__law_right rfl fun cdv A outer s H E hr =>
    (dss_cons (ds_if (dt_w (dw_or (dt_not (dt_tru (de_callB call_isi o_isi (by rfl) m_isinstance (by decide +kernel) (da_cons (de_al 0) (da_cons (de_type (n := "tuple") (by rfl) m_tuple (by decide +kernel)) da_nil))))) (dw_or (dt_cmp (op_neD hr.units) o_ne (de_callB call_len o_len (by rfl) m_len (by decide +kernel) (da_cons (de_al 0) da_nil)) de_int (nomark _)) (dw_or (dt_not (dt_tru (de_call c__law_whole (hr.mono (by decide)) (by rfl) (da_cons (de_ix (de_al 0) de_int) da_nil)))) (dw_or1 (dt_not (dt_tru (de_call c__law_whole (hr.mono (by decide)) (by rfl) (da_cons (de_ix (de_al 0) de_int) da_nil))))))))) (dss_one (ds_ret de_bl)) dss_nil)
      (dss_one (ds_ret (de_and (de_cmp (op_eqD hr.units) o_eq (de_al 0) (de_al 1) (nomark _)) (de_one (de_cmp op_isB o_isB (de_call c_is_fraction (hr.mono (by decide)) (by rfl) (da_cons (de_al 0) da_nil)) de_bl (nomark _)))))))
theorem ok__law_refused {f : Addr} {fd : FuncData} (F : FnP K "_law_refused" s__law_refused [] f fd) (m_isinstance : mg "isinstance" = none) (m_ValueError : mg "ValueError" = none) (cR_fraction : FdR P w K mg base "fraction" 2 g_fraction) (G_WatchError : mg "WatchError" = some (clsV K "WatchError")) (em_NoFraction_WatchError : (He.Fa.exm "NoFraction" "WatchError" true).ok K = true) (iC_NoFraction : isC K "NoFraction" = true) (kC_NoFraction_NoFraction : kitC K "NoFraction" "NoFraction" true = true) (G_NoFraction : mg "NoFraction" = some (clsV K "NoFraction")) (kT_NoFraction_ValueError : kitT K "NoFraction" "ValueError" true = true) (kN_NoFraction_NoAct : kitN K "NoFraction" ["NoAct", "NoAsk", "NoMove", "NoNet", "NoPoint", "NoWait"] = true) (G_NoWait : mg "NoWait" = some (clsV K "NoWait")) (G_NoPoint : mg "NoPoint" = some (clsV K "NoPoint")) (G_NoNet : mg "NoNet" = some (clsV K "NoNet")) (G_NoMove : mg "NoMove" = some (clsV K "NoMove")) (G_NoAsk : mg "NoAsk" = some (clsV K "NoAsk")) (G_NoAct : mg "NoAct" = some (clsV K "NoAct")) : FnOk P w K mg base CX0 3 f fd ["_law_top", "_law_bottom"] (spD K f__law_refused) :=
  fn_ok F sc__law_refused rfl fun cdv A outer s H E hr =>
    (dss_cons (ds_al 2 sc__law_refused.nd (de_le de_bl .sh))
      (dss_cons (ds_try (L := ["NoFraction"]) (i := 3) (x := "WatchError") (cv := clsV K "WatchError") rfl rfl sc__law_refused.nd (by rfl) (by rfl) ⟨by rfl, by decide, .inl G_WatchError⟩ (fun k hk => by have e := List.mem_singleton.mp hk; subst e; exact He.exm_ok em_NoFraction_WatchError)
      (fun W pn xe tk po => (rss_one (rs_drop (der_call tk cR_fraction (hr.mono (by decide)) (by rfl) (da_cons (de_al 0) (da_cons (de_al 1) da_nil))))))
      (fun k hk a oe pn hz hd => by have e := List.mem_singleton.mp hk; subst e; exact (dss_cons (ds_al 2 sc__law_refused.nd (de_le (de_and (de_isB (bears_suite hz hd) (isC_ok iC_NoFraction) (by rfl) m_isinstance (i := 3) (by rfl) (by first | exact Or.inl rfl | exact Or.inr (Or.inl rfl) | exact Or.inr (Or.inr rfl)) (pe_glob (v := .ref (He.ga K "NoFraction")) (by rfl) G_NoFraction rfl) (.own _) (kitC_ok kC_NoFraction_NoFraction)) (de_one (de_isB (bears_suite hz hd) (isC_ok iC_NoFraction) (by rfl) m_isinstance (i := 3) (by rfl) (by first | exact Or.inl rfl | exact Or.inr (Or.inl rfl) | exact Or.inr (Or.inr rfl)) (pe_bltn (v := .ty "ValueError") (by rfl) m_ValueError (by decide +kernel) rfl) (.ty _) (kitT_ok kT_NoFraction_ValueError)))) .sh))
      (dss_one (ds_if (dt_tru (de_isBT (bears_suite hz hd) (isC_ok iC_NoFraction) (by rfl) m_isinstance (i := 3) (by rfl) (by first | exact Or.inl rfl | exact Or.inr (Or.inl rfl) | exact Or.inr (Or.inr rfl)) (cs := (["NoAct", "NoAsk", "NoMove", "NoNet", "NoPoint", "NoWait"] : List Str).map fun y => .ref (He.ga K y)) (pa_cons (pe_glob (v := .ref (He.ga K "NoAct")) (by rfl) G_NoAct rfl) (pa_cons (pe_glob (v := .ref (He.ga K "NoAsk")) (by rfl) G_NoAsk rfl) (pa_cons (pe_glob (v := .ref (He.ga K "NoMove")) (by rfl) G_NoMove rfl) (pa_cons (pe_glob (v := .ref (He.ga K "NoNet")) (by rfl) G_NoNet rfl) (pa_cons (pe_glob (v := .ref (He.ga K "NoPoint")) (by rfl) G_NoPoint rfl) (pa_cons (pe_glob (v := .ref (He.ga K "NoWait")) (by rfl) G_NoWait rfl) pa_nil)))))) (clsVs ["NoAct", "NoAsk", "NoMove", "NoNet", "NoPoint", "NoWait"]) (kitN_ok kN_NoFraction_NoAct) (show 6 ≤ sizeLine by decide +kernel))) (dss_one (ds_al 2 sc__law_refused.nd (de_le de_bl .sh))) dss_nil)))))
      (dss_one (ds_ret (de_imm (de_al 2))))))
theorem ok__law_pair {f : Addr} {fd : FuncData} (F : FnP K "_law_pair" s__law_pair [] f fd) (m_int : mg "int" = none) : FnOk P w K mg base CX0 1 f fd ["_law_way", "_law_number_here"] (spD K f__law_pair) :=
  fn_ok F sc__law_pair rfl fun cdv A outer s H E hr =>
    (dss_cons (ds_al 2 sc__law_pair.nd (de_lst (da_cons (de_tup (da_cons (de_al 1) (da_cons de_int da_nil))) (da_cons (de_tup (da_cons de_int (da_cons de_int da_nil))) (da_cons (de_tup (da_cons de_non (da_cons de_int da_nil))) (da_cons (de_tup (da_cons de_int (da_cons de_non da_nil))) (da_cons (de_tup (da_cons de_str (da_cons de_int da_nil))) (da_cons (de_tup (da_cons (de_al 1) (da_cons de_str da_nil))) (da_cons (de_tup (da_cons de_bl (da_cons de_int da_nil))) (da_cons (de_tup (da_cons (de_al 1) (da_cons de_bl da_nil))) da_nil))))))))))
      (dss_cons (ds_al 2 sc__law_pair.nd (de_le (de_op op_addX o_add (de_al 2) (de_fz (de_lst (da_cons (de_tup (da_cons de_int (da_cons de_bl da_nil))) (da_cons (de_imm (de_tup (da_cons (de_tup (da_cons (de_al 1) da_nil)) (da_cons de_int da_nil)))) (da_cons (de_tup (da_cons de_int (da_cons (de_tup (da_cons de_int (da_cons de_int da_nil))) da_nil))) (da_cons (de_tup (da_cons (de_lst (da_cons de_int da_nil)) (da_cons de_int da_nil))) (da_cons (de_imm (de_tup (da_cons (de_al 1) (da_cons de_emp da_nil)))) (da_cons (de_tup (da_cons de_bl (da_cons (de_op op_addX o_add (de_al 1) (de_callTy call_int1 o_int1 (by rfl) m_int (by decide +kernel) (da_cons (de_cmp (op_eqD hr.units) o_eq (de_al 1) de_int (nomark _)) da_nil))) da_nil))) da_nil))))))))) .sh))
      (dss_one (ds_ret (de_imm (de_ix (de_al 2) (de_al 0)))))))
theorem ok__law_odd {f : Addr} {fd : FuncData} (F : FnP K "_law_odd" s__law_odd [] f fd) (m_abs : mg "abs" = none) : FnOk P w K mg base CX0 1 f fd ["_law_way", "_law_number_here"] (spD K f__law_odd) :=
  fn_ok F sc__law_odd rfl fun cdv A outer s H E hr =>
    (dss_cons (ds_al 2 sc__law_odd.nd (de_lst (da_cons (de_tup (da_cons de_int (da_cons de_int da_nil))) (da_cons (de_tup (da_cons (de_al 1) (da_cons de_int da_nil))) (da_cons (de_tup (da_cons (de_op op_mulXX o_mul de_int (de_al 1)) (da_cons de_int da_nil))) (da_cons (de_tup (da_cons de_int (da_cons (de_op op_sub o_sub (de_un un_neg o_neg de_int) (de_callB call_abs o_abs (by rfl) m_abs (by decide +kernel) (da_cons (de_al 1) da_nil))) da_nil))) (da_cons (de_tup (da_cons de_int (da_cons de_int da_nil))) (da_cons (de_tup (da_cons (de_al 1) (da_cons de_int da_nil))) (da_cons (de_tup (da_cons de_bl (da_cons de_int da_nil))) (da_cons (de_tup (da_cons de_int (da_cons de_bl da_nil))) da_nil))))))))))
      (dss_cons (ds_al 2 sc__law_odd.nd (de_le (de_op op_addX o_add (de_al 2) (de_fz (de_lst (da_cons (de_lst (da_cons de_int (da_cons de_int da_nil))) (da_cons (de_tup (da_cons de_int da_nil)) (da_cons (de_tup (da_cons de_int (da_cons de_int (da_cons de_int da_nil)))) (da_cons (de_imm (de_al 1)) (da_cons de_str (da_cons de_non (da_cons (de_tup (da_cons de_int (da_cons (de_op op_addX o_add de_int (de_callB call_abs o_abs (by rfl) m_abs (by decide +kernel) (da_cons (de_al 1) da_nil))) da_nil))) (da_cons (de_imm (de_tup (da_cons (de_al 1) (da_cons de_int da_nil)))) da_nil))))))))))) .sh))
      (dss_one (ds_ret (de_imm (de_ix (de_al 2) (de_al 0)))))))
theorem ok__law_is_one {f : Addr} {fd : FuncData} (F : FnP K "_law_is_one" s__law_is_one [] f fd) (c__law_whole : Fd P w K mg base "_law_whole" 1 [] f__law_whole) (c__law_common : Fd P w K mg base "_law_common" 1 [] f__law_common) (m_isinstance : mg "isinstance" = none) (m_tuple : mg "tuple" = none) (m_len : mg "len" = none) (m_abs : mg "abs" = none) : FnOk P w K mg base CX0 2 f fd ["_law_thing"] (spD K f__law_is_one) :=
  fn_ok F sc__law_is_one rfl fun cdv A outer s H E hr =>
    (dss_cons (ds_if (dt_w (dw_or (dt_not (dt_tru (de_callB call_isi o_isi (by rfl) m_isinstance (by decide +kernel) (da_cons (de_al 0) (da_cons (de_type (n := "tuple") (by rfl) m_tuple (by decide +kernel)) da_nil))))) (dw_or (dt_cmp (op_neD hr.units) o_ne (de_callB call_len o_len (by rfl) m_len (by decide +kernel) (da_cons (de_al 0) da_nil)) de_int (nomark _)) (dw_or (dt_not (dt_tru (de_call c__law_whole (hr.mono (by decide)) (by rfl) (da_cons (de_ix (de_al 0) de_int) da_nil)))) (dw_or1 (dt_not (dt_tru (de_call c__law_whole (hr.mono (by decide)) (by rfl) (da_cons (de_ix (de_al 0) de_int) da_nil))))))))) (dss_one (ds_ret de_bl)) dss_nil)
      (dss_one (ds_ret (de_and (de_cmp op_gt o_cmp (de_ix (de_al 0) de_int) de_int (nomark _)) (de_one (de_cmp (op_eqD hr.units) o_eq (de_call c__law_common (hr.mono (by decide)) (by rfl) (da_cons (de_callB call_abs o_abs (by rfl) m_abs (by decide +kernel) (da_cons (de_ix (de_al 0) de_int) da_nil)) (da_cons (de_ix (de_al 0) de_int) da_nil))) de_int (nomark _)))))))
theorem ok__law_says {f : Addr} {fd : FuncData} (F : FnP K "_law_says" s__law_says [] f fd) (m_isinstance : mg "isinstance" = none) (m_bool : mg "bool" = none) : FnOk P w K mg base CX0 1 f fd ["_law_found", "_law_due"] (spD K f__law_says) :=
  fn_ok F sc__law_says rfl fun cdv A outer s H E hr =>
    (dss_one (ds_ret (de_and (de_callB call_isi o_isi (by rfl) m_isinstance (by decide +kernel) (da_cons (de_al 0) (da_cons (de_type (n := "bool") (by rfl) m_bool (by decide +kernel)) da_nil))) (de_one (de_cmp (op_eqD hr.units) o_eq (de_al 0) (de_al 1) (nomark _))))))
theorem ok__law_odd_right {f : Addr} {fd : FuncData} (F : FnP K "_law_odd_right" s__law_odd_right [] f fd) (c__law_says : Fd P w K mg base "_law_says" 1 [] f__law_says) (c_is_fraction : Fd P w K mg base "is_fraction" 2 [] f_is_fraction) (c__law_is_one : Fd P w K mg base "_law_is_one" 2 [] f__law_is_one) (c_is_whole : Fd P w K mg base "is_whole" 1 [] f_is_whole) (c__law_whole : Fd P w K mg base "_law_whole" 1 [] f__law_whole) : FnOk P w K mg base CX0 3 f fd ["_law_thing"] (spD K f__law_odd_right) :=
  fn_ok F sc__law_odd_right rfl fun cdv A outer s H E hr =>
    (dss_one (ds_ret (de_and (de_call c__law_says (hr.mono (by decide)) (by rfl) (da_cons (de_call c_is_fraction (hr.mono (by decide)) (by rfl) (da_cons (de_al 0) da_nil)) (da_cons (de_call c__law_is_one (hr.mono (by decide)) (by rfl) (da_cons (de_al 0) da_nil)) da_nil))) (de_one (de_call c__law_says (hr.mono (by decide)) (by rfl) (da_cons (de_call c_is_whole (hr.mono (by decide)) (by rfl) (da_cons (de_al 0) da_nil)) (da_cons (de_call c__law_whole (hr.mono (by decide)) (by rfl) (da_cons (de_al 0) da_nil)) da_nil)))))))
theorem ok_law {f : Addr} {fd : FuncData} (F : FnP K "law" s_law [] f fd) (c__law_number : Fd P w K mg base "_law_number" 1 [] f__law_number) (c__law_cell_at : Fd P w K mg base "_law_cell_at" 1 [] f__law_cell_at) (c__law_lowest : Fd P w K mg base "_law_lowest" 2 [] f__law_lowest) (c__law_right : Fd P w K mg base "_law_right" 3 [] f__law_right) (c_fraction : Fd P w K mg base "fraction" 2 [] f_fraction) (c_fraction_d1 : Fd P w K mg base "fraction" 2 [(.int 1)] f_fraction) (c__law_pair : Fd P w K mg base "_law_pair" 1 [] f__law_pair) (c__law_refused : Fd P w K mg base "_law_refused" 3 [] f__law_refused) (c__law_odd_right : Fd P w K mg base "_law_odd_right" 3 [] f__law_odd_right) (c__law_odd : Fd P w K mg base "_law_odd" 1 [] f__law_odd) (c_is_whole : Fd P w K mg base "is_whole" 1 [] f_is_whole) (m_int : mg "int" = none) : FnOk P w K mg base CX0 4 f fd ["_law_script"] (spD K f_law_k11) :=
  fn_ok F sc_law rfl fun cdv A outer s H E hr =>
    (dss_cons (ds_al 1 sc_law.nd (de_le (de_call c__law_number (hr.mono (by decide)) (by rfl) (da_cons (de_call c__law_cell_at (hr.mono (by decide)) (by rfl) (da_cons (de_al 0) (da_cons de_int da_nil))) da_nil)) .sh))
      (dss_cons (ds_al 2 sc_law.nd (de_le (de_call c__law_number (hr.mono (by decide)) (by rfl) (da_cons (de_call c__law_cell_at (hr.mono (by decide)) (by rfl) (da_cons (de_al 0) (da_cons de_int da_nil))) da_nil)) .sh))
      (dss_cons (ds_al 2 sc_law.nd (de_le (de_op op_addX o_add (de_al 2) (de_callTy call_int1 o_int1 (by rfl) m_int (by decide +kernel) (da_cons (de_cmp (op_eqD hr.units) o_eq (de_al 2) de_int (nomark _)) da_nil))) .sh))
      (dss_cons (ds_al 3 sc_law.nd (de_le (de_call c__law_cell_at (hr.mono (by decide)) (by rfl) (da_cons (de_al 0) (da_cons de_int da_nil))) .sh))
      (dss_cons (ds_if (dt_cmp (op_eqD hr.units) o_eq (de_op op_mod o_mod (de_al 3) de_int) de_int (nomark _)) (dss_cons (ds_al 4 sc_law.nd (de_le (de_op op_addX o_add de_int (de_op op_mod o_mod (de_op op_fdivW o_div (de_al 3) de_int) (de_op op_pow o_pow de_int de_int))) .sh))
      (dss_cons (ds_al 1 sc_law.nd (de_le (de_op op_mulXX o_mul (de_op op_mod o_mod (de_al 1) (de_op op_pow o_pow de_int de_int)) (de_al 4)) .sh))
      (dss_one (ds_al 2 sc_law.nd (de_le (de_op op_mulXX o_mul (de_op op_mulXX o_mul (de_op op_addX o_add de_int (de_op op_mod o_mod (de_al 2) (de_op op_pow o_pow de_int de_int))) (de_al 4)) (de_op op_sub o_sub de_int (de_op op_mulXX o_mul (de_op op_mod o_mod (de_op op_fdivW o_div (de_al 3) de_int) de_int) de_int))) .sh))))) dss_nil)
      (dss_cons (ds_al 5 sc_law.nd (de_le (de_call c__law_lowest (hr.mono (by decide)) (by rfl) (da_cons (de_al 1) (da_cons (de_al 2) da_nil))) .sh))
      (dss_cons (ds_if (dt_w (dw_or (dt_not (dt_tru (de_call c__law_right (hr.mono (by decide)) (by rfl) (da_cons (de_call c_fraction (hr.mono (by decide)) (by rfl) (da_cons (de_al 1) (da_cons (de_al 2) da_nil))) (da_cons (de_al 5) da_nil))))) (dw_or1 (dt_not (dt_tru (de_call c__law_right (hr.mono (by decide)) (by rfl) (da_cons (de_call c_fraction_d1 (hr.mono (by decide)) (by rfl) (da_cons (de_al 1) da_nil)) (da_cons (de_tup (da_cons (de_al 1) (da_cons de_int da_nil))) da_nil)))))))) (dss_one (ds_ret de_bl)) dss_nil)
      (dss_cons (ds_for PassesOwn.never rfl (di_list (de_slice (de_al 0) (do_some de_int) (do_some de_int))) (dg_name 6 sc_law.nd) (dss_cons (ds_al 7 sc_law.nd (de_le (de_call c__law_number (hr.mono (by decide)) (by rfl) (da_cons (de_op op_fdivW o_div (de_al 6) de_int) da_nil)) .sh))
      (dss_cons (ds_al 8 sc_law.nd (de_le (de_call c__law_pair (hr.mono (by decide)) (by rfl) (da_cons (de_op op_mod o_mod (de_al 6) de_int) (da_cons (de_al 7) da_nil))) .sh))
      (dss_one (ds_if (dt_w (dw_or (dt_not (dt_tru (de_call c__law_refused (hr.mono (by decide)) (by rfl) (da_cons (de_ix (de_al 8) de_int) (da_cons (de_ix (de_al 8) de_int) da_nil))))) (dw_or1 (dt_not (dt_tru (de_call c__law_odd_right (hr.mono (by decide)) (by rfl) (da_cons (de_call c__law_odd (hr.mono (by decide)) (by rfl) (da_cons (de_op op_mod o_mod (de_op op_fdivW o_div (de_al 6) de_int) de_int) (da_cons (de_al 7) da_nil))) da_nil))))))) (dss_one (ds_ret de_bl)) dss_nil)))))
      (dss_cons (ds_if (dt_w (dw_or (dt_cmp op_isNotB o_isNotB (de_call c_is_whole (hr.mono (by decide)) (by rfl) (da_cons (de_al 1) da_nil)) de_bl (nomark _)) (dw_or (dt_cmp op_isNotB o_isNotB (de_call c_is_whole (hr.mono (by decide)) (by rfl) (da_cons de_bl da_nil)) de_bl (nomark _)) (dw_or1 (dt_cmp op_isNotB o_isNotB (de_call c_is_whole (hr.mono (by decide)) (by rfl) (da_cons (de_al 5) da_nil)) de_bl (nomark _)))))) (dss_one (ds_ret de_bl)) dss_nil)
      (dss_one (ds_ret (de_and (de_call c__law_refused (hr.mono (by decide)) (by rfl) (da_cons (de_al 1) (da_cons de_int da_nil))) (de_one (de_call c__law_right (hr.mono (by decide)) (by rfl) (da_cons (de_call c_fraction (hr.mono (by decide)) (by rfl) (da_cons (de_al 1) (da_cons (de_al 2) da_nil))) (da_cons (de_al 5) da_nil))))))))))))))))
end
end K11
namespace K11
open PySem PySem.Spec PyProof.Rows L2 Z
open G
def d_is_whole : He.DefD := ⟨("is_whole", none), "is_whole", "is_whole", defArgs s_is_whole, defBody s_is_whole, defScope s_is_whole, [], []⟩
def d_common : He.DefD := ⟨("common", none), "common", "common", defArgs s_common, defBody s_common, defScope s_common, [], []⟩
def d_is_fraction : He.DefD := ⟨("is_fraction", none), "is_fraction", "is_fraction", defArgs s_is_fraction, defBody s_is_fraction, defScope s_is_fraction, [], []⟩
def d_fraction : He.DefD := ⟨("fraction", none), "fraction", "fraction", defArgs s_fraction, defBody s_fraction, defScope s_fraction, [.int 1], []⟩
def d__law_cell_at : He.DefD := ⟨("_law_cell_at", none), "_law_cell_at", "_law_cell_at", defArgs s__law_cell_at, defBody s__law_cell_at, defScope s__law_cell_at, [], []⟩
def d__law_number : He.DefD := ⟨("_law_number", none), "_law_number", "_law_number", defArgs s__law_number, defBody s__law_number, defScope s__law_number, [], []⟩
def d__law_whole : He.DefD := ⟨("_law_whole", none), "_law_whole", "_law_whole", defArgs s__law_whole, defBody s__law_whole, defScope s__law_whole, [], []⟩
def d__law_common : He.DefD := ⟨("_law_common", none), "_law_common", "_law_common", defArgs s__law_common, defBody s__law_common, defScope s__law_common, [], []⟩
def d__law_lowest : He.DefD := ⟨("_law_lowest", none), "_law_lowest", "_law_lowest", defArgs s__law_lowest, defBody s__law_lowest, defScope s__law_lowest, [], []⟩
def d__law_right : He.DefD := ⟨("_law_right", none), "_law_right", "_law_right", defArgs s__law_right, defBody s__law_right, defScope s__law_right, [], []⟩
def d__law_refused : He.DefD := ⟨("_law_refused", none), "_law_refused", "_law_refused", defArgs s__law_refused, defBody s__law_refused, defScope s__law_refused, [], []⟩
def d__law_pair : He.DefD := ⟨("_law_pair", none), "_law_pair", "_law_pair", defArgs s__law_pair, defBody s__law_pair, defScope s__law_pair, [], []⟩
def d__law_odd : He.DefD := ⟨("_law_odd", none), "_law_odd", "_law_odd", defArgs s__law_odd, defBody s__law_odd, defScope s__law_odd, [], []⟩
def d__law_is_one : He.DefD := ⟨("_law_is_one", none), "_law_is_one", "_law_is_one", defArgs s__law_is_one, defBody s__law_is_one, defScope s__law_is_one, [], []⟩
def d__law_says : He.DefD := ⟨("_law_says", none), "_law_says", "_law_says", defArgs s__law_says, defBody s__law_says, defScope s__law_says, [], []⟩
def d__law_odd_right : He.DefD := ⟨("_law_odd_right", none), "_law_odd_right", "_law_odd_right", defArgs s__law_odd_right, defBody s__law_odd_right, defScope s__law_odd_right, [], []⟩
def d_law : He.DefD := ⟨("law", none), "law", "law", defArgs s_law, defBody s_law, defScope s_law, [], []⟩
def fnL : List He.DefD := [d_is_whole, d_common, d_is_fraction, d_fraction, d__law_cell_at, d__law_number, d__law_whole, d__law_common, d__law_lowest, d__law_right, d__law_refused, d__law_pair, d__law_odd, d__law_is_one, d__law_says, d__law_odd_right, d_law]
def gl : List Str := (["is_whole", "common", "is_fraction", "fraction", "_law_cell_at", "_law_number", "_law_whole", "_law_common", "_law_lowest", "_law_right", "_law_refused", "_law_pair", "_law_odd", "_law_is_one", "_law_says", "_law_odd_right", "law", "WatchError", "NoFraction", "NoWait", "NoPoint", "NoNet", "NoMove", "NoAsk", "NoAct"] : List Str)
def fr : List Str := (["isinstance", "int", "bool", "tuple", "len", "abs", "ValueError"] : List Str)
def chk (K : PySem.W.Frag) : Bool := glos gl K && frees fr K && (He.Fa.exm "NoFraction" "WatchError" true).ok K && isC K "NoFraction" && kitC K "NoFraction" "NoFraction" true && kitT K "NoFraction" "ValueError" true && kitN K "NoFraction" ["NoAct", "NoAsk", "NoMove", "NoNet", "NoPoint", "NoWait"] && (He.Fa.exc "NoFraction").ok K
abbrev R : PySem.W.OpenRow := PySem.W.OpenLaw.row PySem.Challenge.rw_watchyard_k11_fractions_made
def names0 : List PySem.Str := ["WatchError", "NoFraction", "NoPoint", "NoAsk", "NoNet", "NoWait", "NoAct", "NoMove", "is_whole", "common", "is_fraction", "fraction", "_law_cell_at", "_law_number", "_law_whole", "_law_common", "_law_lowest", "_law_right", "_law_refused", "_law_pair", "_law_odd", "_law_is_one", "_law_says", "_law_odd_right"]
def names : List PySem.Str := names0
abbrev hk : PySem.W.Hook := hookZ 4 chk fnL
def ob (s : PySem.W.SharedT) : He.AlD := obsZG 4 chk fnL (HandSHeadRun.getT s)
theorem ob_eq (s : PySem.W.SharedT) : ob s = hk.obs s.abs := obsZG_eq (HandSHeadRun.getT_eq s)
set_option maxHeartbeats 0 in
theorem run (w : World) : HandSHeadRun.RunEq R (PySem.W.view R.prog [27]) hk ob 4000 names w := by
  intro os
  kernel_rfl
theorem facts {P : Program} {w : World} {K : PySem.W.Frag} {h : Heap} {mg : Str → Option Value} {f : Addr} (X : K.In h) (G : h.Ns mainGlobals mg) (hfa : mg ("law" : Str) = some (.ref f)) (c : SaysZ chk fnL K) :
    ∃ fd : FuncData, (∀ (s : Shared) (v : Value), BindsTo s fd ⟨[v], []⟩ [("_law_script", v)]) ∧ ∀ base : Heap, K.In base → base.Ns mainGlobals mg → FnOk P w K mg base CX0 4 f fd ["_law_script"] (spD K f_law_k11) := by
  have c0 := c.chkd
  have x_NoFraction := (He.ba c0).2
  replace c0 := (He.ba c0).1
  have kN_NoFraction_NoAct := (He.ba c0).2
  replace c0 := (He.ba c0).1
  have kT_NoFraction_ValueError := (He.ba c0).2
  replace c0 := (He.ba c0).1
  have kC_NoFraction_NoFraction := (He.ba c0).2
  replace c0 := (He.ba c0).1
  have iC_NoFraction := (He.ba c0).2
  replace c0 := (He.ba c0).1
  have em_NoFraction_WatchError := (He.ba c0).2
  replace c0 := (He.ba c0).1
  have cg := (He.ba c0).1
  have cf := (He.ba c0).2
  have G_WatchError : mg "WatchError" = some (clsV K "WatchError") := glos_ok X G cg 17
  have G_NoFraction : mg "NoFraction" = some (clsV K "NoFraction") := glos_ok X G cg 18
  have G_NoWait : mg "NoWait" = some (clsV K "NoWait") := glos_ok X G cg 19
  have G_NoPoint : mg "NoPoint" = some (clsV K "NoPoint") := glos_ok X G cg 20
  have G_NoNet : mg "NoNet" = some (clsV K "NoNet") := glos_ok X G cg 21
  have G_NoMove : mg "NoMove" = some (clsV K "NoMove") := glos_ok X G cg 22
  have G_NoAsk : mg "NoAsk" = some (clsV K "NoAsk") := glos_ok X G cg 23
  have G_NoAct : mg "NoAct" = some (clsV K "NoAct") := glos_ok X G cg 24
  have m_isinstance : mg "isinstance" = none := frees_ok X G cf 0
  have m_int : mg "int" = none := frees_ok X G cf 1
  have m_bool : mg "bool" = none := frees_ok X G cf 2
  have m_tuple : mg "tuple" = none := frees_ok X G cf 3
  have m_len : mg "len" = none := frees_ok X G cf 4
  have m_abs : mg "abs" = none := frees_ok X G cf 5
  have m_ValueError : mg "ValueError" = none := frees_ok X G cf 6
  obtain ⟨fd_is_whole, F_is_whole⟩ := c.def_ 0 (d := d_is_whole) rfl
  have h_is_whole : mg "is_whole" = some (.ref (He.ga K "is_whole")) := glos_ok X G cg 0
  obtain ⟨fd_common, F_common⟩ := c.def_ 1 (d := d_common) rfl
  have h_common : mg "common" = some (.ref (He.ga K "common")) := glos_ok X G cg 1
  obtain ⟨fd_is_fraction, F_is_fraction⟩ := c.def_ 2 (d := d_is_fraction) rfl
  have h_is_fraction : mg "is_fraction" = some (.ref (He.ga K "is_fraction")) := glos_ok X G cg 2
  obtain ⟨fd_fraction, F_fraction⟩ := c.def_ 3 (d := d_fraction) rfl
  have h_fraction : mg "fraction" = some (.ref (He.ga K "fraction")) := glos_ok X G cg 3
  obtain ⟨fd__law_cell_at, F__law_cell_at⟩ := c.def_ 4 (d := d__law_cell_at) rfl
  have h__law_cell_at : mg "_law_cell_at" = some (.ref (He.ga K "_law_cell_at")) := glos_ok X G cg 4
  obtain ⟨fd__law_number, F__law_number⟩ := c.def_ 5 (d := d__law_number) rfl
  have h__law_number : mg "_law_number" = some (.ref (He.ga K "_law_number")) := glos_ok X G cg 5
  obtain ⟨fd__law_whole, F__law_whole⟩ := c.def_ 6 (d := d__law_whole) rfl
  have h__law_whole : mg "_law_whole" = some (.ref (He.ga K "_law_whole")) := glos_ok X G cg 6
  obtain ⟨fd__law_common, F__law_common⟩ := c.def_ 7 (d := d__law_common) rfl
  have h__law_common : mg "_law_common" = some (.ref (He.ga K "_law_common")) := glos_ok X G cg 7
  obtain ⟨fd__law_lowest, F__law_lowest⟩ := c.def_ 8 (d := d__law_lowest) rfl
  have h__law_lowest : mg "_law_lowest" = some (.ref (He.ga K "_law_lowest")) := glos_ok X G cg 8
  obtain ⟨fd__law_right, F__law_right⟩ := c.def_ 9 (d := d__law_right) rfl
  have h__law_right : mg "_law_right" = some (.ref (He.ga K "_law_right")) := glos_ok X G cg 9
  obtain ⟨fd__law_refused, F__law_refused⟩ := c.def_ 10 (d := d__law_refused) rfl
  have h__law_refused : mg "_law_refused" = some (.ref (He.ga K "_law_refused")) := glos_ok X G cg 10
  obtain ⟨fd__law_pair, F__law_pair⟩ := c.def_ 11 (d := d__law_pair) rfl
  have h__law_pair : mg "_law_pair" = some (.ref (He.ga K "_law_pair")) := glos_ok X G cg 11
  obtain ⟨fd__law_odd, F__law_odd⟩ := c.def_ 12 (d := d__law_odd) rfl
  have h__law_odd : mg "_law_odd" = some (.ref (He.ga K "_law_odd")) := glos_ok X G cg 12
  obtain ⟨fd__law_is_one, F__law_is_one⟩ := c.def_ 13 (d := d__law_is_one) rfl
  have h__law_is_one : mg "_law_is_one" = some (.ref (He.ga K "_law_is_one")) := glos_ok X G cg 13
  obtain ⟨fd__law_says, F__law_says⟩ := c.def_ 14 (d := d__law_says) rfl
  have h__law_says : mg "_law_says" = some (.ref (He.ga K "_law_says")) := glos_ok X G cg 14
  obtain ⟨fd__law_odd_right, F__law_odd_right⟩ := c.def_ 15 (d := d__law_odd_right) rfl
  have h__law_odd_right : mg "_law_odd_right" = some (.ref (He.ga K "_law_odd_right")) := glos_ok X G cg 15
  obtain ⟨fd_law, F_law⟩ := c.def_ 16 (d := d_law) rfl
  have h_law : mg "law" = some (.ref (He.ga K "law")) := glos_ok X G cg 16
  have e := hfa.symm.trans h_law
  cases e
  have b := FunD.bindsA (ps := ["_law_script"]) F_law fun _ _ _ _ _ _ us hl => match us, hl with | [_], _ => rfl
  refine ⟨fd_law, fun s v => b s [v] rfl, fun base _ _ => ?_⟩
  have c_is_whole : Fd P w K mg base "is_whole" 1 [] f_is_whole := fd_mk h_is_whole F_is_whole.kp (F_is_whole.bindsN fun _ _ _ _ _ _ us hl => match us, hl with | [_], _ => rfl) (ok_is_whole F_is_whole m_isinstance m_int m_bool)
  have c_common : Fd P w K mg base "common" 1 [] f_common := fd_mk h_common F_common.kp (F_common.bindsN fun _ _ _ _ _ _ us hl => match us, hl with | [_, _], _ => rfl) (ok_common F_common )
  have c_is_fraction : Fd P w K mg base "is_fraction" 2 [] f_is_fraction := fd_mk h_is_fraction F_is_fraction.kp (F_is_fraction.bindsN fun _ _ _ _ _ _ us hl => match us, hl with | [_], _ => rfl) (ok_is_fraction F_is_fraction c_is_whole c_common m_isinstance m_tuple m_len m_abs)
  have cR_fraction : FdR P w K mg base "fraction" 2 g_fraction := fdR_mkD (dvs := []) h_fraction F_fraction.kp (FunD.binds1 F_fraction 2 1 (by simp [d_fraction, He.DefD.dvs]) (by rfl) fun T kV doc pm an cdv ct us its hl hi => match us, its, hl, hi with | [_, _], [_], _, _ => ⟨_, rfl, rfl⟩) rfl (okR_fraction F_fraction c_is_whole c_common m_abs x_NoFraction G_NoFraction)
  have o_fraction := ok_fraction (P := P) (w := w) (base := base) F_fraction c_is_whole c_common m_abs
  have c_fraction : Fd P w K mg base "fraction" 2 [] f_fraction := fd_mkD (dvs := []) h_fraction F_fraction.kp (FunD.binds1 F_fraction 2 1 (by simp [d_fraction, He.DefD.dvs]) (by rfl) fun T kV doc pm an cdv ct us its hl hi => match us, its, hl, hi with | [_, _], [_], _, _ => ⟨_, rfl, rfl⟩) (fun _ => .nil) o_fraction
  have c_fraction_d1 : Fd P w K mg base "fraction" 2 [(.int 1)] f_fraction := fd_mkD (dvs := [.int 1]) h_fraction F_fraction.kp (FunD.binds1 F_fraction 1 0 (by simp [d_fraction, He.DefD.dvs]) (by rfl) fun T kV doc pm an cdv ct us its hl hi => match us, its, hl, hi with | [_], [_], _, _ => ⟨_, rfl, rfl⟩) (fun _ => .cons (fp := []) (fq := []) (.int _) (.nil)) o_fraction
  have c__law_cell_at : Fd P w K mg base "_law_cell_at" 1 [] f__law_cell_at := fd_mk h__law_cell_at F__law_cell_at.kp (F__law_cell_at.bindsN fun _ _ _ _ _ _ us hl => match us, hl with | [_, _], _ => rfl) (ok__law_cell_at F__law_cell_at m_len)
  have c__law_number : Fd P w K mg base "_law_number" 1 [] f__law_number := fd_mk h__law_number F__law_number.kp (F__law_number.bindsN fun _ _ _ _ _ _ us hl => match us, hl with | [_], _ => rfl) (ok__law_number F__law_number )
  have c__law_whole : Fd P w K mg base "_law_whole" 1 [] f__law_whole := fd_mk h__law_whole F__law_whole.kp (F__law_whole.bindsN fun _ _ _ _ _ _ us hl => match us, hl with | [_], _ => rfl) (ok__law_whole F__law_whole m_isinstance m_int m_bool)
  have c__law_common : Fd P w K mg base "_law_common" 1 [] f__law_common := fd_mk h__law_common F__law_common.kp (F__law_common.bindsN fun _ _ _ _ _ _ us hl => match us, hl with | [_, _], _ => rfl) (ok__law_common F__law_common )
  have c__law_lowest : Fd P w K mg base "_law_lowest" 2 [] f__law_lowest := fd_mk h__law_lowest F__law_lowest.kp (F__law_lowest.bindsN fun _ _ _ _ _ _ us hl => match us, hl with | [_, _], _ => rfl) (ok__law_lowest F__law_lowest c__law_common m_abs)
  have c__law_right : Fd P w K mg base "_law_right" 3 [] f__law_right := fd_mk h__law_right F__law_right.kp (F__law_right.bindsN fun _ _ _ _ _ _ us hl => match us, hl with | [_, _], _ => rfl) (ok__law_right F__law_right c__law_whole c_is_fraction m_isinstance m_tuple m_len)
  have c__law_refused : Fd P w K mg base "_law_refused" 3 [] f__law_refused := fd_mk h__law_refused F__law_refused.kp (F__law_refused.bindsN fun _ _ _ _ _ _ us hl => match us, hl with | [_, _], _ => rfl) (ok__law_refused F__law_refused m_isinstance m_ValueError cR_fraction G_WatchError em_NoFraction_WatchError iC_NoFraction kC_NoFraction_NoFraction G_NoFraction kT_NoFraction_ValueError kN_NoFraction_NoAct G_NoWait G_NoPoint G_NoNet G_NoMove G_NoAsk G_NoAct)
  have c__law_pair : Fd P w K mg base "_law_pair" 1 [] f__law_pair := fd_mk h__law_pair F__law_pair.kp (F__law_pair.bindsN fun _ _ _ _ _ _ us hl => match us, hl with | [_, _], _ => rfl) (ok__law_pair F__law_pair m_int)
  have c__law_odd : Fd P w K mg base "_law_odd" 1 [] f__law_odd := fd_mk h__law_odd F__law_odd.kp (F__law_odd.bindsN fun _ _ _ _ _ _ us hl => match us, hl with | [_, _], _ => rfl) (ok__law_odd F__law_odd m_abs)
  have c__law_is_one : Fd P w K mg base "_law_is_one" 2 [] f__law_is_one := fd_mk h__law_is_one F__law_is_one.kp (F__law_is_one.bindsN fun _ _ _ _ _ _ us hl => match us, hl with | [_], _ => rfl) (ok__law_is_one F__law_is_one c__law_whole c__law_common m_isinstance m_tuple m_len m_abs)
  have c__law_says : Fd P w K mg base "_law_says" 1 [] f__law_says := fd_mk h__law_says F__law_says.kp (F__law_says.bindsN fun _ _ _ _ _ _ us hl => match us, hl with | [_, _], _ => rfl) (ok__law_says F__law_says m_isinstance m_bool)
  have c__law_odd_right : Fd P w K mg base "_law_odd_right" 3 [] f__law_odd_right := fd_mk h__law_odd_right F__law_odd_right.kp (F__law_odd_right.bindsN fun _ _ _ _ _ _ us hl => match us, hl with | [_], _ => rfl) (ok__law_odd_right F__law_odd_right c__law_says c_is_fraction c__law_is_one c_is_whole c__law_whole)
  exact ok_law F_law c__law_number c__law_cell_at c__law_lowest c__law_right c_fraction c_fraction_d1 c__law_pair c__law_refused c__law_odd_right c__law_odd c_is_whole m_int
end K11
namespace Z
open PySem PySem.Spec PyProof.Rows L2
section
variable {ρ : Ev} {f g fa fb : FE} {c e : Ev → Option Bool} {F H : FS} {i : Nat} {d : D}
@[simp] theorem v_fVar : fVar i ρ = match ρ[i]? with | some (.al d) => some d | some (.ow d) => some d | some (.rf _ d) => some d | _ => none := (rfl)
@[simp] theorem v_fAl : fAl i ρ = match ρ[i]? with | some (.al d) => some d | _ => none := (rfl)
@[simp] theorem v_fOw : fOw i ρ = match ρ[i]? with | some (.ow d) => some d | _ => none := (rfl)
@[simp] theorem v_fC : fC d ρ = some d := (rfl)
@[simp] theorem v_fNil : fNil ρ = some [] := (rfl)
@[simp] theorem v_fCons {k : Ev → Option (List D)} : fCons f k ρ = (f ρ).bind fun x => (k ρ).bind fun xs => some (x :: xs) := (rfl)
@[simp] theorem v_fTup {k : Ev → Option (List D)} : fTup k ρ = (k ρ).bind fun ds => some (.tup ds) := (rfl)
@[simp] theorem v_fLst {k : Ev → Option (List D)} : fLst k ρ = (k ρ).bind fun ds => some (.lst ds) := (rfl)
@[simp] theorem v_f1 {k : D → Option D} : f1 k f ρ = (f ρ).bind k := (rfl)
@[simp] theorem v_f2 {k : D → D → Option D} : f2 k fa fb ρ = (fa ρ).bind fun x => (fb ρ).bind fun y => k x y := (rfl)
@[simp] theorem v_fA {k : List D → Option D} {j : Ev → Option (List D)} : fA k j ρ = (j ρ).bind k := (rfl)
@[simp] theorem v_fImm : fImm f ρ = (f ρ).bind fun d => if d.imm then some d else none := (rfl)
@[simp] theorem v_fIf : fIf c f g ρ = (c ρ).bind fun b => if b then f ρ else g ρ := (rfl)
@[simp] theorem v_fB : fB c ρ = (c ρ).bind fun b => some (.bl b) := (rfl)
@[simp] theorem v_c1 {k : D → Option Bool} : c1 k f ρ = (f ρ).bind k := (rfl)
@[simp] theorem v_c2 {k : D → D → Option Bool} : c2 k fa fb ρ = (fa ρ).bind fun x => (fb ρ).bind fun y => k x y := (rfl)
@[simp] theorem v_cNot : cNot c ρ = (c ρ).bind fun b => some (!b) := (rfl)
@[simp] theorem v_cAnd : cAnd c e ρ = (c ρ).bind fun b => if b then e ρ else some false := (rfl)
@[simp] theorem v_cOr : cOr c e ρ = (c ρ).bind fun b => if b then some true else e ρ := (rfl)
@[simp] theorem v_cChain {k k' : D → D → Option Bool} : cChain k k' f g fa ρ = (f ρ).bind fun x => (g ρ).bind fun y => (k x y).bind fun t => if t then (fa ρ).bind fun z => k' y z else some false := (rfl)
@[simp] theorem v_fAnd : fAnd f g ρ = (f ρ).bind fun x => match x with | .bl true => g ρ | .bl false => some (.bl false) | _ => none := (rfl)
@[simp] theorem v_fOr : fOr f g ρ = (f ρ).bind fun x => match x with | .bl false => g ρ | .bl true => some (.bl true) | _ => none := (rfl)
@[simp] theorem v_fCall {k : List D → Option D} {dd : List D} {j : Ev → Option (List D)} : fCall k dd j ρ = (j ρ).bind fun ds => k (ds ++ dd) := (rfl)
@[simp] theorem v_sSeq : sSeq F H ρ = (F ρ).bind (Out.thn H) := (rfl)
@[simp] theorem v_thn1 {ρ' : Ev} : Out.thn H (.nx ρ') = H ρ' := (rfl)
@[simp] theorem v_thn2 {d : D} : Out.thn H (.rt d) = some (.rt d) := (rfl)
@[simp] theorem v_thn3 {ρ' : Ev} : Out.thn H (.bk ρ') = some (.bk ρ') := (rfl)
@[simp] theorem v_thn5 {d : D} {ρ' : Ev} : Out.thn H (.rm d ρ') = some (.rm d ρ') := (rfl)
@[simp] theorem v_thn4 {ρ' : Ev} : Out.thn H (.ct ρ') = some (.ct ρ') := (rfl)
@[simp] theorem v_sNext : sNext ρ = some (.nx ρ) := (rfl)
@[simp] theorem v_sBrk : sBrk ρ = some (.bk ρ) := (rfl)
@[simp] theorem v_sCnt : sCnt ρ = some (.ct ρ) := (rfl)
@[simp] theorem v_sRet : sRet f ρ = (f ρ).bind fun d => some (.rt d) := (rfl)
@[simp] theorem v_sRetN : sRetN ρ = some (.rt .non) := (rfl)
@[simp] theorem v_sIf : sIf c F H ρ = (c ρ).bind fun b => if b then F ρ else H ρ := (rfl)
@[simp] theorem v_sNever : sNever ρ = none := (rfl)
@[simp] theorem v_sAl : sAl i f ρ = (f ρ).bind fun d => some (.nx (ρ.set i (.al d))) := (rfl)
@[simp] theorem v_sOw {S : List Nat} : sOw i S f ρ = (f ρ).bind fun d => some (.nx ((wipeD ρ S).set i (.ow d))) := (rfl)
@[simp] theorem v_sDrop : sDrop f ρ = (f ρ).bind fun _ => some (.nx ρ) := (rfl)
@[simp] theorem v_sPar {j : Nat} {k : Ev → Option (List D)} : sPar i j k ρ = (k ρ).bind fun ds => match ds with | [x, y] => some (.nx ((ρ.set i (.al x)).set j (.al y))) | _ => none := (rfl)
@[simp] theorem v_sAsg {G : D → Ev → Option Ev} : sAsg f G ρ = (f ρ).bind fun d => (G d ρ).bind fun ρ' => some (.nx ρ') := (rfl)
@[simp] theorem v_gN : gN i d ρ = some (ρ.set i (.al d)) := (rfl)
@[simp] theorem v_gNl : gNl [] ρ = some ρ := (rfl)
@[simp] theorem v_gCs {G : D → Ev → Option Ev} {J : List D → Ev → Option Ev} {r : List D} : gCs G J (d :: r) ρ = (G d ρ).bind (J r) := (rfl)
@[simp] theorem v_gTp {n : Nat} {J : List D → Ev → Option Ev} {ds : List D} : gTp n J (.tup ds) ρ = if ds.length = n then J ds ρ else none := (rfl)
@[simp] theorem v_gSq {n : Nat} {J : List D → Ev → Option Ev} {ds : List D} : gSq n J (.tup ds) ρ = if ds.length = n then J ds ρ else none := (rfl)
@[simp] theorem v_gSqL {n : Nat} {J : List D → Ev → Option Ev} {ds : List D} : gSq n J (.lst ds) ρ = if ds.length = n then J ds ρ else none := (rfl)
@[simp] theorem v_wipe0 : wipeD ρ [] = ρ := (rfl)
@[simp] theorem v_wipe1 {S : List Nat} : wipeD ρ (i :: S) = (wipeD ρ S).set i .no := (rfl)
@[simp] theorem v_out1 {d : D} : outD (.rt d) = some d := (rfl)
@[simp] theorem v_out2 {ρ : Ev} : outD (.nx ρ) = some .non := (rfl)
@[simp] theorem v_sFor {g : Ev → Option (List D)} {G : D → Ev → Option Ev} : sFor g G F ρ = (g ρ).bind fun ds => sForL G F ds ρ := (rfl)
@[simp] theorem v_sForL0 {G : D → Ev → Option Ev} : sForL G F [] ρ = some (.nx ρ) := (rfl)
@[simp] theorem v_iSeq : iSeq f ρ = (f ρ).bind D.lsq := (rfl)
@[simp] theorem lsq_lst {xs : List D} : (D.lst xs).lsq = some xs := (rfl)
@[simp] theorem lsq_kls {xs : List D} : (D.kls xs).lsq = some xs := (rfl)
@[simp] theorem v_iTup' : iTup' f ρ = (f ρ).bind fun d => match d with | .tup xs => some xs | _ => none := (rfl)
@[simp] theorem v_sForL1 {G : D → Ev → Option Ev} {ds : List D} : sForL G F (d :: ds) ρ = (G d ρ).bind fun ρ1 => (F ρ1).bind fun o => match o with
    | .nx ρ' => sForL G F ds ρ'
    | .ct ρ' => sForL G F ds ρ'
    | .bk ρ' => some (.nx ρ')
    | .rt d => some (.rt d)
    | .rm d ρ' => some (.rm d ρ') := (rfl)
end
section
variable {ρ : Ev} {f g : FE} {F : FS} {i : Nat} {d : D}
@[simp] theorem v_sFrz : sFrz i F ρ = F (frz i ρ) := (rfl)
@[simp] theorem v_frz : frz i ρ = match ρ[i]? with | some (.ow d) => ρ.set i (.al d) | _ => ρ := (rfl)
@[simp] theorem v_pNil : pNil i ρ = (slotO i ρ).bind fun _ => some [] := (rfl)
@[simp] theorem v_slotO : slotO i ρ = match ρ[i]? with | some (.ow d) => some d | some (.rf _ d) => some d | _ => none := (rfl)
@[simp] theorem v_sMut {q : FP} {k : Ev → List D → Option (List D)} : sMut i q k ρ = (q ρ).bind fun p => (slotO i ρ).bind fun d => (d.get p).bind fun e => match e with
  | .lst xs => (k ρ xs).bind fun ys => some (.nx (putD ρ i (d.put p (.lst ys))))
  | _ => none := (rfl)
@[simp] theorem v_putD : putD ρ i d = match ρ[i]? with | some (.rf v _) => ρ.set i (.rf v d) | _ => ρ.set i (.ow d) := (rfl)
theorem v_sAppend {q : FP} {j : Ev → Option (List D)} : sAppend i q j ρ = sMut i q (gAppend fun ρ => (j ρ).bind fun ds => match ds with
  | [y] => some y
  | _ => none) ρ := (rfl)
theorem app_nil {j : Ev → Option (List D)} {xs : List D} {y : D} (h : ρ[i]? = some (.ow (.lst xs))) (hj : j ρ = some [y]) (hl : xs.length < sizeLine) : sAppend i (pNil i) j ρ = some (.nx (ρ.set i (.ow (.lst (xs ++ [y]))))) := by
  rw [v_sAppend, v_sMut, v_pNil, v_slotO, h]
  show (gAppend _ ρ xs).bind _ = _
  have e : gAppend (fun ρ => (j ρ).bind fun ds => match ds with | [y] => some y | _ => none) ρ xs = some (xs ++ [y]) := by
    show Option.bind (Option.bind (j ρ) _) _ = _
    rw [hj]
    show gd (xs.length < sizeLine) (some (xs ++ [y])) = _
    rw [gd_pos hl]
  rw [e]
  show some (Out.nx (putD ρ i ((D.lst xs).put [] (D.lst (xs ++ [y]))))) = _
  rw [putD_ow h]
  rfl
@[simp] theorem pB_bl {p : Bool → Bool → Bool} {a b : Bool} : pB p (.bl a) (.bl b) = some (p a b) := (rfl)
@[simp] theorem get_nil : d.get [] = some d := by cases d <;> (unfold D.get; rfl)
@[simp] theorem put_nil {e : D} : d.put [] e = e := by cases d <;> (unfold D.put; rfl)
end
theorem seq_nx {F G : FS} {ρ : Ev} (ρ1 : Ev) (h : F ρ = some (.nx ρ1)) : sSeq F G ρ = G ρ1 := by
  rw [v_sSeq, h]
  rfl
theorem seq_rt {F G : FS} {ρ : Ev} {d : D} (h : F ρ = some (.rt d)) : sSeq F G ρ = some (.rt d) := by
  rw [v_sSeq, h]
  rfl
@[simp] theorem dAdd_int {i j : Int} : dAdd (.int i) (.int j) = some (.int (i + j)) := (rfl)
@[simp] theorem dSub_int {i j : Int} : dSub (.int i) (.int j) = some (.int (i - j)) := (rfl)
@[simp] theorem dNeg_int {i : Int} : dNeg (.int i) = some (.int (-i)) := (rfl)
@[simp] theorem dNot_bl {i : Bool} : dNot (.bl i) = some (.bl (!i)) := (rfl)
@[simp] theorem dTru_bl {i : Bool} : dTru (.bl i) = some i := (rfl)
@[simp] theorem dIsN_non : dIsN .non = some true := (rfl)
@[simp] theorem dIsN_int {i : Int} : dIsN (.int i) = some false := (rfl)
@[simp] theorem dIsN_tup {i : List D} : dIsN (.tup i) = some false := (rfl)
@[simp] theorem dIsN_lst {i : List D} : dIsN (.lst i) = some false := (rfl)
@[simp] theorem pI_int {p : Int → Int → Bool} {i j : Int} : pI p (.int i) (.int j) = some (p i j) := (rfl)
@[simp] theorem imm_int {i : Int} : (D.int i).imm = true := (rfl)
@[simp] theorem imm_bl {i : Bool} : (D.bl i).imm = true := (rfl)
@[simp] theorem imm_non : D.non.imm = true := (rfl)
@[simp] theorem imm_str {x : Str} : (D.str x).imm = true := (rfl)
@[simp] theorem imm_tup {xs : List D} : (D.tup xs).imm = D.immL xs := by rw [D.imm]
@[simp] theorem immL_nil : D.immL [] = true := by rw [D.immL]
@[simp] theorem immL_cons {x : D} {xs : List D} : D.immL (x :: xs) = (x.imm && D.immL xs) := by rw [D.immL]
@[simp] theorem atI_0 {α : Type} {x : α} {xs : List α} : atI (x :: xs) 0 = some x := by
  have : atI (x :: xs) ((0 : Nat) : Int) = some x := atI_nat rfl
  simpa using this
@[simp] theorem atI_1 {α : Type} {x y : α} {xs : List α} : atI (x :: y :: xs) 1 = some y := by
  have : atI (x :: y :: xs) ((1 : Nat) : Int) = some y := atI_nat rfl
  simpa using this
@[simp] theorem atI_2 {α : Type} {x y z : α} {xs : List α} : atI (x :: y :: z :: xs) 2 = some z := by
  have : atI (x :: y :: z :: xs) ((2 : Nat) : Int) = some z := atI_nat rfl
  simpa using this
@[simp] theorem dIx_tup {xs : List D} {i : Int} : dIx (.tup xs) (.int i) = atI xs i := (rfl)
@[simp] theorem dIx_lst {xs : List D} {i : Int} : dIx (.lst xs) (.int i) = atI xs i := (rfl)
@[simp] theorem dLen_lst {xs : List D} : dLen [.lst xs] = some (.int xs.length) := (rfl)
@[simp] theorem dIx_kls {xs : List D} {i : Int} : dIx (.kls xs) (.int i) = atI xs i := (rfl)
@[simp] theorem dLen_kls {xs : List D} : dLen [.kls xs] = some (.int xs.length) := (rfl)
@[simp] theorem imm_kls {xs : List D} : (D.kls xs).imm = D.immL xs := by rw [D.imm]
@[simp] theorem dLen_tup {xs : List D} : dLen [.tup xs] = some (.int xs.length) := (rfl)
@[simp] theorem dAbs_int {i : Int} : dAbs [.int i] = some (.int i.natAbs) := (rfl)
@[simp] theorem dInt1_bl {b : Bool} : dInt1 [.bl b] = some (.int (if b then 1 else 0)) := (rfl)
@[simp] theorem dInt1_int {b : Int} : dInt1 [.int b] = some (.int b) := (rfl)
@[simp] theorem dIsi_def {x : D} {n : String} : dIsi [x, .ty n] = (dTyN x).bind fun t => (isT t n).bind fun b => some (.bl b) := (rfl)
@[simp] theorem dTyN_int {i : Int} : dTyN (.int i) = some "int" := (rfl)
@[simp] theorem dTyN_bl {i : Bool} : dTyN (.bl i) = some "bool" := (rfl)
@[simp] theorem dTyN_non : dTyN .non = some "NoneType" := (rfl)
@[simp] theorem dTyN_str {x : Str} : dTyN (.str x) = some "str" := (rfl)
@[simp] theorem dTyN_tup {x : List D} : dTyN (.tup x) = some "tuple" := (rfl)
@[simp] theorem dTyN_lst {x : List D} : dTyN (.lst x) = some "list" := (rfl)
@[simp] theorem isT_int {a : String} : isT a "int" = some (decide (a = "int" ∨ a = "bool")) := (rfl)
@[simp] theorem isT_bool {a : String} : isT a "bool" = some (decide (a = "bool")) := by simp [isT]
@[simp] theorem isT_tuple {a : String} : isT a "tuple" = some (decide (a = "tuple")) := by simp [isT]
@[simp] theorem isT_list {a : String} : isT a "list" = some (decide (a = "list")) := by simp [isT]
@[simp] theorem isT_str {a : String} : isT a "str" = some (decide (a = "str")) := by simp [isT]
@[simp] theorem ok_int {i : Int} {n : Nat} : (D.int i).eqOk n = true := by rw [D.eqOk]
@[simp] theorem ok_bl {i : Bool} {n : Nat} : (D.bl i).eqOk n = true := by rw [D.eqOk]
@[simp] theorem ok_non {n : Nat} : D.non.eqOk n = true := by rw [D.eqOk]
@[simp] theorem ok_tup {xs : List D} {n : Nat} : (D.tup xs).eqOk (n + 1) = D.eqOkL xs n := by rw [D.eqOk]
@[simp] theorem ok_lst {xs : List D} {n : Nat} : (D.lst xs).eqOk (n + 1) = D.eqOkL xs n := by rw [D.eqOk]
@[simp] theorem ok_kls {xs : List D} {n : Nat} : (D.kls xs).eqOk (n + 1) = D.eqOkL xs n := by rw [D.eqOk]
@[simp] theorem eqv_kls {i j : List D} : (D.kls i).eqv (.kls j) = D.eqvL i j := by rw [D.eqv]
@[simp] theorem eqv_lk {i j : List D} : (D.lst i).eqv (.kls j) = D.eqvL i j := by rw [D.eqv]
@[simp] theorem eqv_kl {i j : List D} : (D.kls i).eqv (.lst j) = D.eqvL i j := by rw [D.eqv]
@[simp] theorem ok_nil {n : Nat} : D.eqOkL [] n = true := by rw [D.eqOkL]
@[simp] theorem ok_cons {x : D} {xs : List D} {n : Nat} : D.eqOkL (x :: xs) n = (x.eqOk n && D.eqOkL xs n) := by rw [D.eqOkL]
@[simp] theorem eqv_int {i j : Int} : (D.int i).eqv (.int j) = (i == j) := by rw [D.eqv]
@[simp] theorem eqv_bl {i j : Bool} : (D.bl i).eqv (.bl j) = (i == j) := by rw [D.eqv]
@[simp] theorem eqv_non : D.non.eqv .non = true := by rw [D.eqv]
@[simp] theorem eqv_tup {i j : List D} : (D.tup i).eqv (.tup j) = D.eqvL i j := by rw [D.eqv]
@[simp] theorem eqv_lst {i j : List D} : (D.lst i).eqv (.lst j) = D.eqvL i j := by rw [D.eqv]
@[simp] theorem eqvL_nil : D.eqvL [] [] = true := by rw [D.eqvL]
@[simp] theorem eqvL_cons {x y : D} {xs ys : List D} : D.eqvL (x :: xs) (y :: ys) = (x.eqv y && D.eqvL xs ys) := by rw [D.eqvL]
@[simp] theorem dEq_int {i j : Int} : dEq (.int i) (.int j) = some (i == j) := by unfold dEq; rw [if_pos ⟨ok_int, ok_int⟩, eqv_int]
@[simp] theorem dNe_int {i j : Int} : dNe (.int i) (.int j) = some (!(i == j)) := by unfold dNe; rw [if_pos ⟨ok_int, ok_int⟩, eqv_int]
@[simp] theorem dEq_bl {i j : Bool} : dEq (.bl i) (.bl j) = some (i == j) := by unfold dEq; rw [if_pos ⟨ok_bl, ok_bl⟩, eqv_bl]
mutual
theorem D.eqv_self : ∀ (d : D) (n : Nat), d.eqOk n = true → d.eqv d = true
  | .non, _, _ => by rw [D.eqv]
  | .bl b, _, _ => by rw [D.eqv]; simp
  | .int i, _, _ => by rw [D.eqv]; simp
  | .str x, _, _ => by rw [D.eqv]; simp
  | .ty _, _, h => by rw [D.eqOk] at h; cases h
  | .unk, _, h => by rw [D.eqOk] at h; cases h
  | .ptr _, _, h => by rw [D.eqOk] at h; cases h
  | .emp, _, h => by rw [D.eqOk] at h; cases h
  | .kls xs, 0, h => by rw [D.eqOk] at h; cases h
  | .kls xs, n + 1, h => by rw [D.eqOk] at h; rw [D.eqv]; exact D.eqvL_self xs n h
  | .tup xs, 0, h => by rw [D.eqOk] at h; cases h
  | .tup xs, n + 1, h => by rw [D.eqOk] at h; rw [D.eqv]; exact D.eqvL_self xs n h
  | .lst xs, 0, h => by rw [D.eqOk] at h; cases h
  | .lst xs, n + 1, h => by rw [D.eqOk] at h; rw [D.eqv]; exact D.eqvL_self xs n h
theorem D.eqvL_self : ∀ (d : List D) (n : Nat), D.eqOkL d n = true → D.eqvL d d = true
  | [], _, _ => by rw [D.eqvL]
  | x :: xs, n, h => by
    rw [D.eqOkL, Bool.and_eq_true] at h
    rw [D.eqvL, D.eqv_self x n h.1, D.eqvL_self xs n h.2]
    rfl
end
theorem dEq_self {d : D} (h : d.eqOk 64 = true) : dEq d d = some true := by
  unfold dEq
  rw [if_pos ⟨h, h⟩, D.eqv_self d 64 h]
theorem dNe_self {d : D} (h : d.eqOk 64 = true) : dNe d d = some false := by
  unfold dNe
  rw [if_pos ⟨h, h⟩, D.eqv_self d 64 h]
  rfl
theorem immL_map {α : Type} {m : α → D} (h : ∀ a, (m a).imm = true) : ∀ xs : List α, D.immL (xs.map m) = true
  | [] => by simp
  | a :: xs => by simp [h, immL_map h xs]
theorem dAdd_lst {xs ys : List D} (h : xs.length + ys.length ≤ sizeLine) (h1 : D.immL xs = true) (h2 : D.immL ys = true) : dAdd (.lst xs) (.lst ys) = some (.lst (xs ++ ys)) := by
  show gd _ _ = _
  rw [gd_pos ⟨h, h1, h2⟩]
theorem compL_ex {α : Type} {G : D → Ev → Option Ev} {c : Ev → Option Bool} {e : FE} {ρ : Ev} {m : α → D} {P : α → Prop} : ∀ ds : List D, (∀ d ∈ ds, ∃ ρ1 a, G d ρ = some ρ1 ∧ c ρ1 = some true ∧ e ρ1 = some (m a) ∧ P a) →
    ∃ as : List α, compL G c e ρ ds = some (as.map m) ∧ as.length = ds.length ∧ ∀ a ∈ as, P a
  | [], _ => ⟨[], rfl, rfl, fun _ h => nomatch h⟩
  | d :: ds, h => by
    obtain ⟨ρ1, a, h1, h2, h3, h4⟩ := h d List.mem_cons_self
    obtain ⟨as, g1, g2, g3⟩ := compL_ex ds fun d hd => h d (List.mem_cons_of_mem _ hd)
    refine ⟨a :: as, ?_, by simp [g2], fun b hb => ?_⟩
    · show (G d ρ).bind _ = _
      rw [h1]
      show (c ρ1).bind _ = _
      rw [h2]
      show (e ρ1).bind _ = _
      rw [h3]
      show (compL G c e ρ ds).bind _ = _
      rw [g1]
      rfl
    · rcases List.mem_cons.mp hb with rfl | hb
      · exact h4
      · exact g3 b hb
theorem fComp_ok {g : Ev → Option (List D)} {G : D → Ev → Option Ev} {c : Ev → Option Bool} {e : FE} {vs : List Nat} {ρ : Ev} {ds ys : List D} (h1 : g ρ = some ds) (h2 : compL G c e (wipeD ρ vs) ds = some ys) (h3 : ys.length ≤ sizeLine) : fComp g G c e vs ρ = some (.lst ys) := by
  unfold fComp
  rw [h1]
  show (compL G c e (wipeD ρ vs) ds).bind _ = _
  rw [h2]
  exact gd_pos h3
def Bt (n : Nat) (i : Int) : Prop := i.natAbs < 2 ^ n
instance {n : Nat} {i : Int} : Decidable (Bt n i) := inferInstanceAs (Decidable (_ < _))
theorem Bt.mono {n m : Nat} {i : Int} (h : Bt n i) (l : n ≤ m) : Bt m i := Nat.lt_of_lt_of_le h (Nat.pow_le_pow_right (by decide) l)
theorem Bt.mul {n m : Nat} {i j : Int} (h : Bt n i) (h' : Bt m j) : Bt (n + m) (i * j) := by
  unfold Bt at *
  rw [Int.natAbs_mul, Nat.pow_add]
  exact Nat.mul_lt_mul'' h h'
theorem Bt.add {n : Nat} {i j : Int} (h : Bt n i) (h' : Bt n j) : Bt (n + 1) (i + j) := by
  unfold Bt at *
  have := Int.natAbs_add_le i j
  rw [Nat.pow_succ]
  omega
theorem Bt.sub {n : Nat} {i j : Int} (h : Bt n i) (h' : Bt n j) : Bt (n + 1) (i - j) := by
  unfold Bt at *
  have := Int.natAbs_sub_le i j
  rw [Nat.pow_succ]
  omega
theorem Bt.neg {n : Nat} {i : Int} (h : Bt n i) : Bt n (-i) := by unfold Bt at *; rw [Int.natAbs_neg]; exact h
theorem Bt.le {n : Nat} {i j : Int} (h : Bt n i) (l : j.natAbs ≤ i.natAbs) : Bt n j := Nat.lt_of_le_of_lt l h
theorem dMul_ok {n m : Nat} {i j : Int} (h : Bt n i) (h' : Bt m j) (l : n + m ≤ 134217728 := by decide) : dMul (.int i) (.int j) = some (.int (i * j)) := by
  exact gd_pos (show (Builtin.Int.intBits i : Int) + (Builtin.Int.intBits j : Int) ≤ 134217728 from mulx_ok h h' l)
theorem dDiv_ok {n : Nat} {i j : Int} (h0 : 0 < j) (h : Bt n j) (l : n ≤ 9000 := by decide) (l0 : 0 < n := by decide) : dDiv (.int i) (.int j) = some (.int (i / j)) := by
  exact gd_pos ⟨h0, (wide_div (i := i) h0 h l0 l).2⟩
theorem dMod_ok {i j : Int} (h0 : 0 < j) : dMod (.int i) (.int j) = some (.int (i % j)) := by
  exact gd_pos h0
theorem dPow_ok {i j : Int} (h0 : 0 ≤ j) (h1 : j ≤ 1000000) (h : i.natAbs < 2 ^ 64) : dPow (.int i) (.int j) = some (.int (i ^ j.toNat)) := by
  exact gd_pos ⟨h0, h1, h⟩
theorem bt_bits {i : Int} {n : Nat} (h : Builtin.Int.intBits i ≤ n) : Bt n i := by
  unfold Bt
  by_cases hi : i = 0
  · subst hi; exact Nat.two_pow_pos n
  · have e : Builtin.Int.intBits i = i.natAbs.log2 + 1 := by
      unfold Builtin.Int.intBits
      simp [hi]
    rw [e] at h
    have : i.natAbs < 2 ^ (i.natAbs.log2 + 1) := Nat.lt_log2_self
    exact Nat.lt_of_lt_of_le this (Nat.pow_le_pow_right (by decide) h)
def eQ (q : Rat) : D := .tup [.int q.num, .int q.den]
def BtQ (n : Nat) (q : Rat) : Prop := Bt n q.num ∧ Bt n q.den
theorem BtQ.mono {n m : Nat} {q : Rat} (h : BtQ n q) (l : n ≤ m) : BtQ m q := ⟨h.1.mono l, h.2.mono l⟩
@[simp] theorem eQ_imm {q : Rat} : (eQ q).imm = true := by unfold eQ; simp
@[simp] theorem eQ_ok {q : Rat} {n : Nat} : (eQ q).eqOk (n + 1) = true := by unfold eQ; simp
@[simp] theorem dTyN_Q {q : Rat} : dTyN (eQ q) = some "tuple" := (rfl)
@[simp] theorem dLen_Q {q : Rat} : dLen [eQ q] = some (.int 2) := (rfl)
@[simp] theorem dIsN_Q {q : Rat} : dIsN (eQ q) = some false := (rfl)
@[simp] theorem dIx_num {q : Rat} : dIx (eQ q) (.int 0) = some (.int q.num) := by unfold eQ; simp
@[simp] theorem dIx_den {q : Rat} : dIx (eQ q) (.int 1) = some (.int q.den) := by unfold eQ; simp
@[simp] theorem gTp_Q {J : List D → Ev → Option Ev} {q : Rat} {ρ : Ev} : gSq 2 J (eQ q) ρ = J [.int q.num, .int q.den] ρ := by unfold eQ; simp
theorem eQ_eqv {p q : Rat} : (eQ p).eqv (eQ q) = decide (p = q) := by
  unfold eQ
  simp only [eqv_tup, eqvL_cons, eqvL_nil, eqv_int, Bool.and_true]
  by_cases h : p = q
  · subst h; simp
  · rw [decide_eq_false h, Bool.and_eq_false_iff]
    by_cases h1 : p.num = q.num
    · right
      have : p.den ≠ q.den := fun z => h (Rat.ext h1 z)
      simp; omega
    · left; simpa using h1
theorem dEq_Q {p q : Rat} : dEq (eQ p) (eQ q) = some (decide (p = q)) := by
  unfold dEq
  rw [if_pos ⟨eQ_ok, eQ_ok⟩, eQ_eqv]
theorem dNe_Q {p q : Rat} : dNe (eQ p) (eQ q) = some (!decide (p = q)) := by
  unfold dNe
  rw [if_pos ⟨eQ_ok, eQ_ok⟩, eQ_eqv]
theorem divInt_num {a b : Int} (h : 0 < b) : (Rat.divInt a b).num = a / (Nat.gcd a.natAbs b.natAbs : Int) ∧ ((Rat.divInt a b).den : Int) = b / (Nat.gcd a.natAbs b.natAbs : Int) := by
  obtain ⟨n, rfl⟩ := Int.eq_ofNat_of_zero_le (Int.le_of_lt h)
  have hn : n ≠ 0 := by omega
  have e : Rat.divInt a (n : Int) = mkRat a n := (rfl)
  rw [e]
  unfold mkRat
  rw [dif_neg hn, Rat.normalize_eq]
  simp
theorem divInt_btQ {a b : Int} {n : Nat} (h : b ≠ 0) (ha : Bt n a) (hb : Bt n b) : BtQ n (Rat.divInt a b) := by
  have key : ∀ {a b : Int}, 0 < b → Bt n a → Bt n b → BtQ n (Rat.divInt a b) := fun {a b} h ha hb => by
    obtain ⟨e1, e2⟩ := divInt_num (a := a) h
    have hg : 0 < Nat.gcd a.natAbs b.natAbs := Nat.gcd_pos_of_pos_right _ (by omega)
    refine ⟨?_, ?_⟩
    · rw [e1]
      refine ha.le ?_
      rw [Int.natAbs_ediv_of_dvd (Int.ofNat_dvd_left.mpr (Nat.gcd_dvd_left _ _))]
      exact Nat.div_le_self _ _
    · rw [e2]
      refine hb.le ?_
      rw [Int.natAbs_ediv_of_dvd (Int.ofNat_dvd_left.mpr (Nat.gcd_dvd_right _ _))]
      exact Nat.div_le_self _ _
  by_cases hb0 : 0 < b
  · exact key hb0 ha hb
  · have e : Rat.divInt a b = Rat.divInt (-a) (-b) := by
      exact (Rat.neg_divInt_neg a b).symm
    rw [e]
    exact key (by omega) ha.neg hb.neg
end Z
namespace Mt
open PySem PySem.Spec PyProof.Rows L2 Z G
theorem whole_int (i : Int) : f_is_whole [.int i] = some (.bl true) := by
  rw [e_is_whole]
  simp [F_is_whole]
theorem whole_bl (i : Bool) : f_is_whole [.bl i] = some (.bl false) := by
  rw [e_is_whole]
  simp [F_is_whole]
theorem gcd_loop (n : Nat) : ∀ (a b : Nat), b ≤ n → sWhile (c2 dNe (fAl 1) (fC (.int 0))) (sPar 0 1 (fCons (fAl 1) (fCons (f2 dMod (fAl 0) (fAl 1)) fNil))) [.al (.int a), .al (.int b)] = some (.nx [.al (.int (Nat.gcd a b)), .al (.int 0)]) := by
  induction n with
  | zero =>
    intro a b h
    have e : b = 0 := by omega
    subst e
    rw [sWhile_end (by simp)]
    simp
  | succ n ih =>
    intro a b h
    by_cases hb : b = 0
    · subst hb
      rw [sWhile_end (by simp)]
      simp
    · refine sWhile_step (ρ' := [.al (.int b), .al (.int (a % b : Nat))]) (by simp; omega) ?_ ?_
      · simp [dMod_ok (i := (a : Int)) (j := (b : Int)) (by omega)]
      · have hlt := Nat.mod_lt a (Nat.pos_of_ne_zero hb)
        rw [ih b (a % b) (by omega)]
        rw [Nat.gcd_comm a b, Nat.gcd_rec b a, Nat.gcd_comm (a % b) b]
theorem common_ok (a b : Nat) : f_common [.int a, .int b] = some (.int (Nat.gcd a b)) := by
  rw [e_common]
  have h := gcd_loop b a b (Nat.le_refl _)
  simp [F_common, h]
theorem isFrac_ok (a b : Int) : f_is_fraction [.tup [.int a, .int b]] = some (.bl (decide (0 < b) && decide (Nat.gcd a.natAbs b.natAbs = 1))) := by
  rw [e_is_fraction]
  by_cases hb : 0 < b
  · obtain ⟨n, rfl⟩ := Int.eq_ofNat_of_zero_le (Int.le_of_lt hb)
    have hn : 0 < n := by omega
    have e : (((a.natAbs.gcd n : Nat) : Int) == 1) = decide (a.natAbs.gcd n = 1) := by
      rw [Bool.eq_iff_iff, beq_iff_eq, decide_eq_true_iff]
      omega
    simp [F_is_fraction, whole_int, common_ok, hn, e]
  · simp [F_is_fraction, whole_int, common_ok, hb]
theorem isFrac_Q (q : Rat) : f_is_fraction [eQ q] = some (.bl true) := by
  unfold eQ
  rw [isFrac_ok]
  have h1 : 0 < q.den := Nat.pos_of_ne_zero q.den_nz
  have h2 : Nat.gcd q.num.natAbs q.den = 1 := q.reduced
  simp [h1, h2]
theorem frac_pos {a : Int} {n : Nat} (h : 0 < n) (hb : Bt 9000 (n : Int)) :
    dDiv (.int a) (.int (Nat.gcd a.natAbs n : Nat)) = some (.int (Rat.divInt a n).num) ∧ dDiv (.int n) (.int (Nat.gcd a.natAbs n : Nat)) = some (.int (Rat.divInt a n).den) := by
  obtain ⟨e1, e2⟩ := divInt_num (a := a) (b := n) (by omega)
  have hg : 0 < Nat.gcd a.natAbs n := Nat.gcd_pos_of_pos_right _ (by omega)
  have hgb : Bt 9000 (Nat.gcd a.natAbs n : Nat) := hb.le (by simpa using Nat.gcd_le_right _ (by omega))
  rw [e1, e2]
  exact ⟨dDiv_ok (by omega) hgb, dDiv_ok (by omega) hgb⟩
theorem fraction_ok {a b : Int} (h : b ≠ 0) (hb : Bt 9000 b) : f_fraction [.int a, .int b] = some (eQ (Rat.divInt a b)) := by
  rw [e_fraction]
  by_cases hp : 0 < b
  · obtain ⟨n, rfl⟩ := Int.eq_ofNat_of_zero_le (Int.le_of_lt hp)
    obtain ⟨h1, h2⟩ := frac_pos (a := a) (by omega) hb
    have n1 : ¬ (n : Int) < 0 := by omega
    have n2 : n ≠ 0 := by omega
    simp [F_fraction, whole_int, n1, n2, common_ok, h1, h2, eQ]
  · obtain ⟨n, e⟩ := Int.eq_ofNat_of_zero_le (show 0 ≤ -b by omega)
    have eb : b = -(n : Int) := by omega
    subst eb
    have hb' : Bt 9000 (n : Int) := hb.le (by simp)
    obtain ⟨h1, h2⟩ := frac_pos (a := -a) (by omega) hb'
    have n1 : -(n : Int) < 0 := by omega
    have n2 : n ≠ 0 := by omega
    have ed : Rat.divInt a (-(n : Int)) = Rat.divInt (-a) n := by
      have := Rat.neg_divInt_neg (-a) n
      rw [Int.neg_neg] at this
      exact this
    rw [Int.natAbs_neg] at h1 h2
    rw [ed]
    have n3 : 0 < n := by omega
    simp [F_fraction, whole_int, n1, n2, n3, common_ok, h1, h2, eQ]
theorem plus_ok {p q : Rat} (hp : BtQ 4000 p) (hq : BtQ 4000 q) : f_plus [eQ p, eQ q] = some (eQ (p + q)) := by
  rw [e_plus]
  have hd : (p.den : Int) * q.den ≠ 0 := by
    have := p.den_nz
    have := q.den_nz
    simp [*]
  have e : Rat.divInt (p.num * q.den + q.num * p.den) (p.den * q.den) = p + q := by
    have := Rat.divInt_add_divInt p.num q.num (d₁ := p.den) (d₂ := q.den) (by have := p.den_nz; omega) (by have := q.den_nz; omega)
    rw [Rat.num_divInt_den, Rat.num_divInt_den] at this
    exact this.symm
  have h := fraction_ok (a := p.num * q.den + q.num * p.den) hd ((hp.2.mul hq.2).mono (by decide))
  rw [e] at h
  rw [F_plus]
  simp [eQ, dMul_ok hp.1 hq.2, dMul_ok hq.1 hp.2, dMul_ok hp.2 hq.2]
  rw [h]
  rfl
theorem minus_ok {p q : Rat} (hp : BtQ 4000 p) (hq : BtQ 4000 q) : f_minus [eQ p, eQ q] = some (eQ (p - q)) := by
  rw [e_minus]
  have hd : (p.den : Int) * q.den ≠ 0 := by
    have := p.den_nz
    have := q.den_nz
    simp [*]
  have e : Rat.divInt (p.num * q.den - q.num * p.den) (p.den * q.den) = p - q := by
    have := Rat.divInt_sub_divInt p.num q.num (d₁ := p.den) (d₂ := q.den) (by have := p.den_nz; omega) (by have := q.den_nz; omega)
    rw [Rat.num_divInt_den, Rat.num_divInt_den] at this
    exact this.symm
  have h := fraction_ok (a := p.num * q.den - q.num * p.den) hd ((hp.2.mul hq.2).mono (by decide))
  rw [e] at h
  rw [F_minus]
  simp [eQ, dMul_ok hp.1 hq.2, dMul_ok hq.1 hp.2, dMul_ok hp.2 hq.2]
  rw [h]
  rfl
theorem times_ok {p q : Rat} (hp : BtQ 4000 p) (hq : BtQ 4000 q) : f_times [eQ p, eQ q] = some (eQ (p * q)) := by
  rw [e_times]
  have hd : (p.den : Int) * q.den ≠ 0 := by
    have := p.den_nz
    have := q.den_nz
    simp [*]
  have e : Rat.divInt (p.num * q.num) (p.den * q.den) = p * q := by
    have := Rat.divInt_mul_divInt p.num q.num (d₁ := p.den) (d₂ := q.den)
    rw [Rat.num_divInt_den, Rat.num_divInt_den] at this
    exact this.symm
  have h := fraction_ok (a := p.num * q.num) hd ((hp.2.mul hq.2).mono (by decide))
  rw [e] at h
  rw [F_times]
  simp [eQ, dMul_ok hp.1 hq.1, dMul_ok hp.2 hq.2]
  rw [h]
  rfl
theorem less_ok {p q : Rat} (hp : BtQ 4000 p) (hq : BtQ 4000 q) : f_less [eQ p, eQ q] = some (.bl (decide (p < q))) := by
  rw [e_less, F_less]
  simp [eQ, dMul_ok hp.1 hq.2, dMul_ok hq.1 hp.2, Rat.lt_iff]
theorem floor_ok {p : Rat} (hp : BtQ 4000 p) : f_floor_of [eQ p] = some (.int p.floor) := by
  rw [e_floor_of, F_floor_of]
  have h : (0 : Int) < p.den := by have := p.den_nz; omega
  simp [eQ, dDiv_ok h hp.2, Rat.floor_def]
theorem btQ_add {n m : Nat} {p q : Rat} (hp : BtQ n p) (hq : BtQ m q) : BtQ (n + m + 1) (p + q) := by
  have e := Rat.divInt_add_divInt p.num q.num (d₁ := p.den) (d₂ := q.den) (by have := p.den_nz; omega) (by have := q.den_nz; omega)
  rw [Rat.num_divInt_den, Rat.num_divInt_den] at e
  rw [e]
  refine divInt_btQ (by have := p.den_nz; have := q.den_nz; simp [*]) ((hp.1.mul hq.2).add ?_) ((hp.2.mul hq.2).mono (by omega))
  have := hq.1.mul hp.2
  rw [Nat.add_comm] at this
  exact this
theorem btQ_sub {n m : Nat} {p q : Rat} (hp : BtQ n p) (hq : BtQ m q) : BtQ (n + m + 1) (p - q) := by
  have e := Rat.divInt_sub_divInt p.num q.num (d₁ := p.den) (d₂ := q.den) (by have := p.den_nz; omega) (by have := q.den_nz; omega)
  rw [Rat.num_divInt_den, Rat.num_divInt_den] at e
  rw [e]
  refine divInt_btQ (by have := p.den_nz; have := q.den_nz; simp [*]) ((hp.1.mul hq.2).sub ?_) ((hp.2.mul hq.2).mono (by omega))
  have := hq.1.mul hp.2
  rw [Nat.add_comm] at this
  exact this
theorem btQ_mul {n m : Nat} {p q : Rat} (hp : BtQ n p) (hq : BtQ m q) : BtQ (n + m) (p * q) := by
  have e := Rat.divInt_mul_divInt p.num q.num (d₁ := p.den) (d₂ := q.den)
  rw [Rat.num_divInt_den, Rat.num_divInt_den] at e
  rw [e]
  exact divInt_btQ (by have := p.den_nz; have := q.den_nz; simp [*]) (hp.1.mul hq.1) (hp.2.mul hq.2)
end Mt
namespace Mt
open PySem PySem.Spec PyProof.Rows L2 Z G
def cell (ns : List Int) (k : Nat) : Int := ns.getD k 0
theorem cell_ok (ns : List Int) (k : Nat) : f__law_cell_at [.kls (ns.map .int), .int k] = some (.int (cell ns k)) := by
  rw [e__law_cell_at, F__law_cell_at]
  by_cases h : k < ns.length
  · have e : atI (ns.map D.int) (k : Int) = some (.int ns[k]) := atI_nat (by rw [List.getElem?_map, List.getElem?_eq_getElem h]; rfl)
    have h' : (k : Int) < ns.length := by omega
    have ec : cell ns k = ns[k] := by unfold cell; simp [h]
    simp [h', e, ec]
  · have h' : ¬ (k : Int) < ns.length := by omega
    have ec : cell ns k = 0 := by unfold cell; simp [Nat.not_lt.mp h]
    simp [h', ec]
theorem lcommon_ok (a b : Nat) : f__law_common [.int a, .int b] = some (.int (Nat.gcd a b)) := by
  rw [e__law_common]
  have h := gcd_loop b a b (Nat.le_refl _)
  simp [F__law_common, h]
theorem lowest_ok {a b : Int} (h : b ≠ 0) (hb : Bt 9000 b) : f__law_lowest [.int a, .int b] = some (eQ (Rat.divInt a b)) := by
  rw [e__law_lowest]
  by_cases hp : 0 < b
  · obtain ⟨n, rfl⟩ := Int.eq_ofNat_of_zero_le (Int.le_of_lt hp)
    obtain ⟨h1, h2⟩ := frac_pos (a := a) (by omega) hb
    have n1 : ¬ (n : Int) < 0 := by omega
    have n2 : n ≠ 0 := by omega
    simp [F__law_lowest, n1, n2, lcommon_ok, h1, h2, eQ]
  · obtain ⟨n, e⟩ := Int.eq_ofNat_of_zero_le (show 0 ≤ -b by omega)
    have eb : b = -(n : Int) := by omega
    subst eb
    have hb' : Bt 9000 (n : Int) := hb.le (by simp)
    obtain ⟨h1, h2⟩ := frac_pos (a := -a) (by omega) hb'
    have n1 : -(n : Int) < 0 := by omega
    have n2 : n ≠ 0 := by omega
    have ed : Rat.divInt a (-(n : Int)) = Rat.divInt (-a) n := by
      have := Rat.neg_divInt_neg (-a) n
      rw [Int.neg_neg] at this
      exact this
    rw [Int.natAbs_neg] at h1 h2
    rw [ed]
    have n3 : 0 < n := by omega
    simp [F__law_lowest, n1, n2, n3, lcommon_ok, h1, h2, eQ]
theorem lwhole_int (i : Int) : f__law_whole [.int i] = some (.bl true) := by
  rw [e__law_whole]
  simp [F__law_whole]
theorem divInt_den_ne {a b : Int} (h : b ≠ 0) : b ≠ 0 := h
end Mt
namespace Mt
open PySem PySem.Spec PyProof.Rows L2 Z G
abbrev Bd := Option (Int × Bool)
def eB : Bd → D
  | none => .non
  | some (n, s) => .tup [.int n, .bl s]
def BtB (n : Nat) : Bd → Prop
  | none => True
  | some (m, _) => Bt n m
theorem BtB.mono {n m : Nat} {b : Bd} (h : BtB n b) (l : n ≤ m) : BtB m b := by
  cases b with
  | none => trivial
  | some p => exact Bt.mono (n := n) h l
@[simp] theorem eB_none : eB none = .non := (rfl)
@[simp] theorem eB_some {n : Int} {s : Bool} : eB (some (n, s)) = .tup [.int n, .bl s] := (rfl)
@[simp] theorem eB_imm (b : Bd) : (eB b).imm = true := by
  cases b with
  | none => simp
  | some p => obtain ⟨n, s⟩ := p; simp
@[simp] theorem eB_ok (b : Bd) (n : Nat) : (eB b).eqOk (n + 1) = true := by
  cases b with
  | none => simp
  | some p => obtain ⟨m, s⟩ := p; simp
theorem eB_isN (b : Bd) : dIsN (eB b) = some b.isNone := by
  cases b with
  | none => simp
  | some p => obtain ⟨m, s⟩ := p; simp
theorem eB_eqv (a b : Bd) : (eB a).eqv (eB b) = decide (a = b) := by
  cases a with
  | none => cases b with
    | none => simp
    | some q => obtain ⟨m, t⟩ := q; simp [D.eqv]
  | some p =>
    obtain ⟨n, s⟩ := p
    cases b with
    | none => simp [D.eqv]
    | some q =>
      obtain ⟨m, t⟩ := q
      rw [Bool.eq_iff_iff]
      simp
theorem dEq_B (a b : Bd) : dEq (eB a) (eB b) = some (decide (a = b)) := by
  unfold dEq
  rw [if_pos ⟨eB_ok _ _, eB_ok _ _⟩, eB_eqv]
theorem dNe_B (a b : Bd) : dNe (eB a) (eB b) = some (!decide (a = b)) := by
  unfold dNe
  rw [if_pos ⟨eB_ok _ _, eB_ok _ _⟩, eB_eqv]
def keepsB (q : Rat) : Bd → Bool
  | none => true
  | some (n, true) => decide (q < (n : Rat))
  | some (n, false) => decide (q ≤ (n : Rat))
def addB : Bd → Bd → Bd
  | some (n, s), some (m, t) => some (n + m, s || t)
  | _, _ => none
def tightB : Bd → Bd → Bool
  | none, _ => false
  | some _, none => true
  | some (n, s), some (m, t) => decide (n < m) || (decide (n = m) && s && !t)
theorem rat_lt_int (q : Rat) (n : Int) : (q < (n : Rat)) ↔ q.num < n * q.den := by
  rw [Rat.lt_iff, Rat.num_intCast, Rat.den_intCast]
  simp
theorem rat_le_int (q : Rat) (n : Int) : (q ≤ (n : Rat)) ↔ q.num ≤ n * q.den := by
  rw [Rat.le_iff, Rat.num_intCast, Rat.den_intCast]
  simp
theorem keeps_ok {q : Rat} {b : Bd} (hq : BtQ 4000 q) (hb : BtB 4000 b) : f_keeps [eQ q, eB b] = some (.bl (keepsB q b)) := by
  rw [e_keeps, F_keeps]
  cases b with
  | none => simp [keepsB]
  | some p =>
    obtain ⟨n, s⟩ := p
    have h1 := dMul_ok (i := n) (j := q.den) hb hq.2
    cases s with
    | true => simp [keepsB, h1, rat_lt_int]
    | false => simp [keepsB, h1, rat_le_int]
theorem bound_sum_ok (a b : Bd) : f_bound_sum [eB a, eB b] = some (eB (addB a b)) := by
  rw [e_bound_sum, F_bound_sum]
  cases a with
  | none => simp [addB]
  | some p =>
    obtain ⟨n, s⟩ := p
    cases b with
    | none => simp [addB]
    | some q =>
      obtain ⟨m, t⟩ := q
      cases s <;> simp [addB]
theorem keeps_add {p q : Rat} {a b : Bd} (h1 : keepsB p a = true) (h2 : keepsB q b = true) : keepsB (p + q) (addB a b) = true := by
  cases a with
  | none => rfl
  | some x =>
    obtain ⟨n, s⟩ := x
    cases b with
    | none => rfl
    | some y =>
      obtain ⟨m, t⟩ := y
      have e := Rat.intCast_add n m
      cases s <;> cases t <;> simp only [keepsB, addB, decide_eq_true_iff, Bool.or_true, Bool.or_false, Bool.true_or, Bool.false_or] at * <;> rw [e] <;> grind
theorem addB_comm (a b : Bd) : addB a b = addB b a := by
  cases a with
  | none => cases b <;> rfl
  | some x => cases b with
    | none => rfl
    | some y => simp [addB, Int.add_comm, Bool.or_comm]
theorem addB_assoc (a b c : Bd) : addB (addB a b) c = addB a (addB b c) := by
  cases a with
  | none => cases b <;> cases c <;> rfl
  | some x => cases b with
    | none => cases c <;> rfl
    | some y => cases c with
      | none => rfl
      | some z => simp [addB, Int.add_assoc, Bool.or_assoc]
theorem addB_0 (a : Bd) : addB a (some (0, false)) = a := by
  cases a with
  | none => rfl
  | some x => simp [addB]
theorem BtB.add {n : Nat} {a b : Bd} (h1 : BtB n a) (h2 : BtB n b) : BtB (n + 1) (addB a b) := by
  cases a with
  | none => cases b <;> trivial
  | some x => cases b with
    | none => trivial
    | some y => exact Bt.add (n := n) h1 h2
theorem sForL_inv {G : D → Ev → Option Ev} {F : FS} (I : Ev → Prop) : ∀ (ds : List D) (ρ : Ev), I ρ → (∀ d ∈ ds, ∀ ρ, I ρ → ∃ ρ1 ρ', G d ρ = some ρ1 ∧ F ρ1 = some (.nx ρ') ∧ I ρ') → ∃ ρ', sForL G F ds ρ = some (.nx ρ') ∧ I ρ'
  | [], ρ, h, _ => ⟨ρ, rfl, h⟩
  | d :: ds, ρ, h, s => by
    obtain ⟨ρ1, ρ', h1, h2, h3⟩ := s d List.mem_cons_self ρ h
    obtain ⟨ρ2, h4, h5⟩ := sForL_inv I ds ρ' h3 fun d hd => s d (List.mem_cons_of_mem _ hd)
    refine ⟨ρ2, ?_, h5⟩
    rw [v_sForL1, h1]
    show (F ρ1).bind _ = _
    rw [h2]
    exact h4
theorem ten_pow (n : Nat) (h : n ≤ 1000) : ∃ T : Int, T = 10 ^ n ∧ 0 < T ∧ Bt (4 * n + 1) T ∧ dPow (.int 10) (.int n) = some (.int T) := by
  have e : (10 : Int) ^ n = ((10 ^ n : Nat) : Int) := by norm_cast
  refine ⟨10 ^ n, rfl, ?_, ?_, ?_⟩
  · rw [e]
    have := Nat.pow_pos (n := n) (show 0 < 10 by decide)
    omega
  · unfold Bt
    rw [e, Int.natAbs_natCast]
    have h1 : 10 ^ n ≤ 16 ^ n := Nat.pow_le_pow_left (by decide) n
    have h2 : (16 : Nat) ^ n = 2 ^ (4 * n) := by
      rw [Nat.pow_mul]
    have h3 : 2 ^ (4 * n) < 2 ^ (4 * n + 1) := Nat.pow_lt_pow_right (by decide) (by omega)
    omega
  · have := dPow_ok (i := 10) (j := (n : Int)) (by omega) (by omega) (by decide)
    simpa using this
noncomputable def numF (n : Int) : FS :=
  (sSeq (sIf (c2 dEq (f2 dMod (fAl 0) (fC (.int 2))) (fC (.int 0))) (sRet (f2 dSub (f2 dMod (f2 dDiv (fAl 0) (fC (.int 2))) (fC (.int 25))) (fC (.int 12)))) sNext)
  (sRet (f2 dSub (f2 dMod (f2 dDiv (fAl 0) (fC (.int 2))) (f2 dSub (f2 dMul (fC (.int 2)) (f2 dPow (fC (.int 10)) (fC (.int n)))) (fC (.int 1)))) (f2 dSub (f2 dPow (fC (.int 10)) (fC (.int n))) (fC (.int 1))))))
theorem num_gen (n : Nat) (h : n ≤ 1000) (c : Int) : ∃ m, (numF n [.al (.int c)]).bind outD = some (.int m) ∧ Bt (4 * n + 5) m := by
  obtain ⟨T, _, hT, hb, p1⟩ := ten_pow n h
  have p2 : dMul (.int 2) (.int T) = some (.int (2 * T)) := dMul_ok (n := 2) (by decide) hb (by omega)
  have m2 : dMod (.int c) (.int 2) = some (.int (c % 2)) := dMod_ok (by decide)
  have d2 : dDiv (.int c) (.int 2) = some (.int (c / 2)) := dDiv_ok (n := 2) (by decide) (by decide)
  by_cases h : c % 2 = 0
  · refine ⟨c / 2 % 25 - 12, ?_, ?_⟩
    · have m3 : dMod (.int (c / 2)) (.int 25) = some (.int (c / 2 % 25)) := dMod_ok (by decide)
      simp [numF, m2, d2, h, m3]
    · have h1 := Int.emod_nonneg (c / 2) (show (25 : Int) ≠ 0 by decide)
      have h2 := Int.emod_lt_of_pos (c / 2) (show (0 : Int) < 25 by decide)
      exact Bt.mono (n := 5) (show (c / 2 % 25 - 12).natAbs < 2 ^ 5 by omega) (by omega)
  · refine ⟨c / 2 % (2 * T - 1) - (T - 1), ?_, ?_⟩
    · have m3 : dMod (.int (c / 2)) (.int (2 * T - 1)) = some (.int (c / 2 % (2 * T - 1))) := dMod_ok (by omega)
      simp [numF, m2, d2, h, m3, p1, p2]
    · have h1 := Int.emod_nonneg (c / 2) (show (2 * T - 1 : Int) ≠ 0 by omega)
      have h2 := Int.emod_lt_of_pos (c / 2) (show (0 : Int) < 2 * T - 1 by omega)
      exact (hb.le (show (c / 2 % (2 * T - 1) - (T - 1)).natAbs ≤ T.natAbs by omega)).mono (by omega)
theorem mod_ok (c : Int) {k : Int} (h : 0 < k) : dMod (.int c) (.int k) = some (.int (c % k)) := dMod_ok h
theorem div_ok (c : Int) {k : Int} (h : 0 < k) (l : k < 1000000000000) : dDiv (.int c) (.int k) = some (.int (c / k)) := dDiv_ok (n := 40) h (show k.natAbs < 2 ^ 40 by omega) (by decide) (by decide)
end Mt
namespace Mt
theorem php : ∀ (n : Nat) (l : List Nat), l.Nodup → (∀ x ∈ l, x < n) → l.length ≤ n
  | 0, [], _, _ => Nat.le_refl _
  | 0, x :: l, _, h => absurd (h x List.mem_cons_self) (Nat.not_lt_zero _)
  | n + 1, l, nd, h => by
    have ih := php n (l.erase n) (nd.erase n) fun x hx => by
      have h1 := h x (List.mem_of_mem_erase hx)
      have h2 : x ≠ n := fun z => by
        rw [z] at hx
        exact (List.Nodup.mem_erase_iff nd).mp hx |>.1 rfl
      omega
    by_cases hm : n ∈ l
    · have := List.length_erase_of_mem hm
      omega
    · rw [List.erase_of_not_mem hm] at ih
      omega
theorem dup_of {n : Nat} {f : Nat → Nat} {m : Nat} (h : ∀ k ≤ m, f k < n) (hm : n ≤ m) : ∃ p q, p < q ∧ q ≤ m ∧ f p = f q := by
  apply Classical.byContradiction
  intro hn
  have nd : ((List.range (m + 1)).map f).Nodup := by
    rw [List.nodup_iff_pairwise_ne, List.pairwise_map]
    refine List.Pairwise.imp_of_mem (fun {a b} ha hb hab e => ?_) List.pairwise_lt_range
    exact hn ⟨a, b, hab, by have := List.mem_range.mp hb; omega, e⟩
  have := php n _ nd fun x hx => by
    obtain ⟨k, hk, rfl⟩ := List.mem_map.mp hx
    exact h k (by have := List.mem_range.mp hk; omega)
  simp at this
  omega
def leB (a b : Bd) : Prop := tightB b a = false
instance (a b : Bd) : Decidable (leB a b) := inferInstanceAs (Decidable (_ = _))
def zB : Bd := some (0, false)
theorem leB_some {n m : Int} {s t : Bool} : leB (some (n, s)) (some (m, t)) ↔ n < m ∨ (n = m ∧ (t = true → s = true)) := by
  unfold leB tightB
  by_cases h1 : m < n
  · have h2 : ¬ n < m := by omega
    have h3 : ¬ n = m := by omega
    simp [h1, h2, h3]
  · by_cases h3 : n = m
    · subst h3
      cases s <;> cases t <;> simp
    · have h4 : n < m := by omega
      have h5 : ¬ m = n := by omega
      simp [h1, h4, h5]
theorem leB_none (a : Bd) : leB a none := rfl
theorem leB_none_l {a : Bd} (h : leB none a) : a = none := by
  cases a with
  | none => rfl
  | some x => obtain ⟨n, s⟩ := x; cases h
theorem leB_refl (a : Bd) : leB a a := by
  cases a with
  | none => rfl
  | some x => obtain ⟨n, s⟩ := x; rw [leB_some]; exact .inr ⟨rfl, id⟩
theorem leB_trans {a b c : Bd} (h : leB a b) (h' : leB b c) : leB a c := by
  cases c with
  | none => exact leB_none a
  | some z => cases b with
    | none => exact absurd (leB_none_l h') (by simp)
    | some y => cases a with
      | none => have := leB_none_l h; cases this
      | some x =>
        obtain ⟨n, s⟩ := x
        obtain ⟨m, t⟩ := y
        obtain ⟨k, u⟩ := z
        rw [leB_some] at *
        rcases h with h | ⟨h1, h2⟩ <;> rcases h' with h' | ⟨h3, h4⟩
        · left; omega
        · left; omega
        · left; omega
        · right; exact ⟨h1.trans h3, fun z => h2 (h4 z)⟩
theorem leB_anti {a b : Bd} (h : leB a b) (h' : leB b a) : a = b := by
  cases a with
  | none => exact (leB_none_l h).symm
  | some x => cases b with
    | none => exact absurd (leB_none_l h') (by simp)
    | some y =>
      obtain ⟨n, s⟩ := x
      obtain ⟨m, t⟩ := y
      rw [leB_some] at *
      have e : n = m := by omega
      subst e
      have : s = t := by
        rcases h with h | ⟨_, h⟩
        · omega
        · rcases h' with h' | ⟨_, h'⟩
          · omega
          · cases s <;> cases t <;> simp_all
      subst this
      rfl
theorem leB_total (a b : Bd) : leB a b ∨ tightB b a = true := by
  unfold leB
  cases tightB b a <;> simp
theorem tight_le {a b : Bd} (h : tightB a b = true) : leB a b := by
  cases a with
  | none => cases h
  | some x => cases b with
    | none => exact leB_none _
    | some y =>
      obtain ⟨n, s⟩ := x
      obtain ⟨m, t⟩ := y
      rw [leB_some]
      simp [tightB] at h
      rcases h with h | ⟨⟨h1, h2⟩, h3⟩
      · left; exact h
      · right; exact ⟨h1, fun _ => h2⟩
theorem addB_mono {a a' b b' : Bd} (h : leB a a') (h' : leB b b') : leB (addB a b) (addB a' b') := by
  cases a' with
  | none => cases b' <;> exact leB_none _
  | some x' => cases b' with
    | none => exact leB_none _
    | some y' => cases a with
      | none => have := leB_none_l h; cases this
      | some x => cases b with
        | none => have := leB_none_l h'; cases this
        | some y =>
          obtain ⟨n, s⟩ := x
          obtain ⟨m, t⟩ := y
          obtain ⟨n', s'⟩ := x'
          obtain ⟨m', t'⟩ := y'
          rw [leB_some] at h h'
          show leB (some (n + m, s || t)) (some (n' + m', s' || t'))
          rw [leB_some]
          rcases h with h | ⟨h1, h2⟩ <;> rcases h' with h' | ⟨h3, h4⟩
          · left; omega
          · left; omega
          · left; omega
          · right
            refine ⟨by omega, fun z => ?_⟩
            cases s' <;> cases t' <;> simp_all
theorem addB_z (a : Bd) : addB a zB = a := addB_0 a
theorem z_addB (a : Bd) : addB zB a = a := by rw [addB_comm]; exact addB_0 a
theorem addB_none (a : Bd) : addB a none = none := by cases a <;> rfl
def minB (x y : Bd) : Bd := if tightB y x = true then y else x
theorem minB_l (x y : Bd) : leB (minB x y) x := by
  unfold minB
  split
  · next h => exact tight_le h
  · exact leB_refl x
theorem minB_r (x y : Bd) : leB (minB x y) y := by
  unfold minB
  split
  · exact leB_refl y
  · next h => unfold leB; simpa using h
theorem minB_or (x y : Bd) : minB x y = x ∨ minB x y = y := by
  unfold minB
  split
  · exact .inr rfl
  · exact .inl rfl
theorem minB_of_le {x y : Bd} (h : leB x y) : minB x y = x := by
  unfold minB
  have h' : tightB y x = false := h
  rw [h']
  rfl
abbrev Tf := Nat → Nat → Bd
def wsum (T : Tf) : Nat → List Nat → Bd
  | _, [] => zB
  | i, k :: p => addB (T i k) (wsum T k p)
def wend : Nat → List Nat → Nat
  | i, [] => i
  | _, k :: p => wend k p
theorem wsum_app (T : Tf) : ∀ (i : Nat) (p q : List Nat), wsum T i (p ++ q) = addB (wsum T i p) (wsum T (wend i p) q)
  | i, [], q => (z_addB _).symm
  | i, k :: p, q => by
    show addB (T i k) (wsum T k (p ++ q)) = addB (addB (T i k) (wsum T k p)) _
    rw [wsum_app T k p q, addB_assoc]
    rfl
theorem wend_app : ∀ (i : Nat) (p q : List Nat), wend i (p ++ q) = wend (wend i p) q
  | i, [], q => rfl
  | i, k :: p, q => wend_app k p q
theorem wend_take : ∀ (i : Nat) (p : List Nat) (a : Nat), a ≤ p.length → (i :: p)[a]? = some (wend i (p.take a))
  | i, p, 0, _ => by simp [wend]
  | i, [], a + 1, h => by simp at h
  | i, k :: p, a + 1, h => by
    have := wend_take k p a (by simpa using h)
    simpa [wend] using this
structure Way (n i j : Nat) (p : List Nat) : Prop where
  lt : i < n
  all : ∀ x ∈ p, x < n
  nd : wend i p = j
theorem wend_lt {n : Nat} : ∀ {i : Nat} {p : List Nat}, i < n → (∀ x ∈ p, x < n) → wend i p < n
  | _, [], h, _ => h
  | _, k :: p, _, h => wend_lt (i := k) (h k List.mem_cons_self) fun x hx => h x (List.mem_cons_of_mem _ hx)
theorem Way.app {n i k j : Nat} {p q : List Nat} (a : Way n i k p) (b : Way n k j q) : Way n i j (p ++ q) :=
  ⟨a.lt, fun x hx => (List.mem_append.mp hx).elim (a.all x) (b.all x), by rw [wend_app, a.nd]; exact b.nd⟩
theorem Way.nil {n i : Nat} (h : i < n) : Way n i i [] := ⟨h, (fun _ z => nomatch z), rfl⟩
theorem Way.one {n i j : Nat} (h : i < n) (h' : j < n) : Way n i j [j] := ⟨h, fun x hx => by rw [List.mem_singleton.mp hx]; exact h', rfl⟩
def NoNeg (n : Nat) (T : Tf) : Prop := ∀ i p, Way n i i p → leB zB (wsum T i p)
theorem way_short {n : Nat} {T : Tf} (hT : NoNeg n T) : ∀ (l : Nat) (i j : Nat) (p : List Nat), p.length ≤ l → Way n i j p → ∃ q, Way n i j q ∧ q.length < n ∧ leB (wsum T i q) (wsum T i p)
  | 0, i, j, p, hl, hp => ⟨p, hp, by have := hp.lt; omega, leB_refl _⟩
  | l + 1, i, j, p, hl, hp => by
    by_cases hn : p.length < n
    · exact ⟨p, hp, hn, leB_refl _⟩
    · have hlt : ∀ k ≤ p.length, wend i (p.take k) < n := fun k _ => wend_lt hp.lt fun x hx => hp.all x (List.mem_of_mem_take hx)
      obtain ⟨a, b, hab, hb, e⟩ := dup_of hlt (by omega)
      have e1 : p = p.take a ++ ((p.drop a).take (b - a) ++ p.drop b) := by
        have h1 : (p.drop a).drop (b - a) = p.drop b := by rw [List.drop_drop]; congr 1; omega
        rw [← h1, List.take_append_drop, List.take_append_drop]
      have etb : p.take b = p.take a ++ (p.drop a).take (b - a) := by
        have : p.take (a + (b - a)) = p.take a ++ (p.drop a).take (b - a) := List.take_add
        rw [← this]
        congr 1
        omega
      have w1 : wend i (p.take b) = wend (wend i (p.take a)) ((p.drop a).take (b - a)) := by rw [etb, wend_app]
      have hc : Way n (wend i (p.take a)) (wend i (p.take a)) ((p.drop a).take (b - a)) := ⟨hlt a (by omega), fun x hx => hp.all x (List.mem_of_mem_drop (List.mem_of_mem_take hx)), by rw [← w1, ← e]⟩
      have hsum : wsum T i p = addB (wsum T i (p.take a)) (addB (wsum T (wend i (p.take a)) ((p.drop a).take (b - a))) (wsum T (wend i (p.take a)) (p.drop b))) := by
        conv => lhs; rw [e1]
        rw [wsum_app, wsum_app, ← w1, ← e]
      have hend : wend i p = wend (wend i (p.take a)) (p.drop b) := by
        conv => lhs; rw [e1]
        rw [wend_app, wend_app, ← w1, ← e]
      have hq : Way n i j (p.take a ++ p.drop b) := ⟨hp.lt, fun x hx => (List.mem_append.mp hx).elim (fun z => hp.all x (List.mem_of_mem_take z)) fun z => hp.all x (List.mem_of_mem_drop z), by rw [wend_app, ← hend]; exact hp.nd⟩
      have hle : leB (wsum T i (p.take a ++ p.drop b)) (wsum T i p) := by
        rw [wsum_app, hsum]
        refine addB_mono (leB_refl _) ?_
        have := addB_mono (hT _ _ hc) (leB_refl (wsum T (wend i (p.take a)) (p.drop b)))
        rwa [z_addB] at this
      obtain ⟨q, q1, q2, q3⟩ := way_short hT l i j _ (by
        rw [List.length_append, List.length_take, List.length_drop]
        omega) hq
      exact ⟨q, q1, q2, leB_trans q3 hle⟩
structure Least (n : Nat) (T C : Tf) : Prop where
  le : ∀ i j p, Way n i j p → leB (C i j) (wsum T i p)
  ach : ∀ i j, i < n → j < n → ∃ p, Way n i j p ∧ C i j = wsum T i p
theorem Least.unique {n : Nat} {T C D : Tf} (h : Least n T C) (h' : Least n T D) {i j : Nat} (hi : i < n) (hj : j < n) : C i j = D i j := by
  obtain ⟨p, p1, p2⟩ := h.ach i j hi hj
  obtain ⟨q, q1, q2⟩ := h'.ach i j hi hj
  exact leB_anti (by rw [q2]; exact h.le i j q q1) (by rw [p2]; exact h'.le i j p p1)
structure Closd (n : Nat) (C : Tf) : Prop where
  dg : ∀ i, i < n → C i i = zB
  tri : ∀ i j m, i < n → j < n → m < n → leB (C i j) (addB (C i m) (C m j))
theorem closd_le {n : Nat} {T C : Tf} (h : Closd n C) (hT : ∀ i j, i < n → j < n → leB (C i j) (T i j)) : ∀ (p : List Nat) (i j : Nat), Way n i j p → leB (C i j) (wsum T i p)
  | [], i, j, hp => by
    have e : i = j := hp.nd
    subst e
    rw [h.dg i hp.lt]
    exact leB_refl _
  | k :: p, i, j, hp => by
    have hk : k < n := hp.all k List.mem_cons_self
    have hj : j < n := by rw [← hp.nd]; exact wend_lt hp.lt hp.all
    have ih := closd_le h hT p k j ⟨hk, fun x hx => hp.all x (List.mem_cons_of_mem _ hx), hp.nd⟩
    exact leB_trans (h.tri i j k hp.lt hj hk) (addB_mono (hT i k hp.lt hk) ih)
theorem Least.closd {n : Nat} {T C : Tf} (hT : NoNeg n T) (h : Least n T C) : Closd n C where
  dg := fun i hi => by
    obtain ⟨p, p1, p2⟩ := h.ach i i hi hi
    exact leB_anti (h.le i i [] (.nil hi)) (by rw [p2]; exact hT i p p1)
  tri := fun i j m hi hj hm => by
    obtain ⟨p, p1, p2⟩ := h.ach i m hi hm
    obtain ⟨q, q1, q2⟩ := h.ach m j hm hj
    have := h.le i j (p ++ q) (p1.app q1)
    rw [wsum_app, p1.nd] at this
    rw [p2, q2]
    exact this
theorem Least.lt {n : Nat} {T C : Tf} (h : Least n T C) {i j : Nat} (hi : i < n) (hj : j < n) : leB (C i j) (T i j) := by
  have := h.le i j [j] (.one hi hj)
  have e : wsum T i [j] = T i j := addB_z _
  rwa [e] at this
def up2 (C : Tf) (i j : Nat) (x : Bd) : Tf := fun a b => if a = i ∧ b = j then x else C a b
theorem up2_same {C : Tf} {i j : Nat} {x : Bd} : up2 C i j x i j = x := if_pos ⟨rfl, rfl⟩
theorem up2_ne {C : Tf} {i j a b : Nat} {x : Bd} (h : ¬ (a = i ∧ b = j)) : up2 C i j x a b = C a b := if_neg h
def turn (k : Nat) (C : Tf) : Tf := fun i j => minB (C i j) (addB (C i k) (C k j))
def turnS (k i j : Nat) (C : Tf) : Tf := up2 C i j (turn k C i j)
def midT (n k i j : Nat) (C : Tf) : Tf := fun a b => if a < n ∧ b < n ∧ (a < i ∨ (a = i ∧ b < j)) then turn k C a b else C a b
theorem turn_k {k : Nat} {C : Tf} (h : C k k = zB) (i : Nat) : turn k C i k = C i k ∧ turn k C k i = C k i := by
  unfold turn
  rw [h, addB_z, z_addB]
  exact ⟨minB_of_le (leB_refl _), minB_of_le (leB_refl _)⟩
theorem midT_k {n k i j : Nat} {C : Tf} (h : C k k = zB) (a : Nat) : midT n k i j C a k = C a k ∧ midT n k i j C k a = C k a := by
  unfold midT
  refine ⟨?_, ?_⟩
  · split
    · exact (turn_k h a).1
    · rfl
  · split
    · exact (turn_k h a).2
    · rfl
theorem midT_step {n k i j : Nat} {C : Tf} (h : C k k = zB) (hi : i < n) (hj : j < n) : turnS k i j (midT n k i j C) = midT n k i (j + 1) C := by
  funext a b
  unfold turnS
  by_cases e : a = i ∧ b = j
  · obtain ⟨rfl, rfl⟩ := e
    rw [up2_same]
    have h1 : midT n k a b C a b = C a b := by unfold midT; rw [if_neg (by omega)]
    have h2 : midT n k a (b + 1) C a b = turn k C a b := by unfold midT; rw [if_pos (by omega)]
    rw [h2]
    unfold turn
    rw [h1, (midT_k h a).1, (midT_k h b).2]
  · rw [up2_ne e]
    unfold midT
    by_cases c : a < n ∧ b < n ∧ (a < i ∨ (a = i ∧ b < j))
    · rw [if_pos c, if_pos (by omega)]
    · rw [if_neg c, if_neg (by omega)]
structure Turned (n : Nat) (T : Tf) (k : Nat) (C : Tf) : Prop where
  dg : ∀ i, i < n → C i i = zB
  tri : ∀ i j m, i < n → j < n → m < k → leB (C i j) (addB (C i m) (C m j))
  ach : ∀ i j, i < n → j < n → ∃ p, Way n i j p ∧ C i j = wsum T i p
  le : ∀ i j, i < n → j < n → leB (C i j) (T i j)
theorem Turned.step {n k : Nat} {T C : Tf} (hT : NoNeg n T) (hk : k < n) (h : Turned n T k C) : Turned n T (k + 1) (turn k C) where
  dg := fun i hi => by
    unfold turn
    rw [h.dg i hi]
    refine minB_of_le ?_
    obtain ⟨p, p1, p2⟩ := h.ach i k hi hk
    obtain ⟨q, q1, q2⟩ := h.ach k i hk hi
    have := hT i _ (p1.app q1)
    rw [wsum_app, p1.nd, ← p2, ← q2] at this
    exact this
  tri := fun i j m hi hj hm => by
    have mono : ∀ a b, leB (turn k C a b) (C a b) := fun a b => minB_l _ _
    have viak : ∀ a b, leB (turn k C a b) (addB (C a k) (C k b)) := fun a b => minB_r _ _
    have kk := turn_k (h.dg k hk)
    by_cases hmk : m = k
    · subst hmk
      rw [(kk i).1, (kk j).2]
      exact viak i j
    · have hmk' : m < k := by omega
      rcases minB_or (C i m) (addB (C i k) (C k m)) with e1 | e1 <;> rcases minB_or (C m j) (addB (C m k) (C k j)) with e2 | e2
      · have : addB (turn k C i m) (turn k C m j) = addB (C i m) (C m j) := by unfold turn; rw [e1, e2]
        rw [this]
        exact leB_trans (mono i j) (h.tri i j m hi hj hmk')
      · have : addB (turn k C i m) (turn k C m j) = addB (addB (C i m) (C m k)) (C k j) := by unfold turn; rw [e1, e2, addB_assoc]
        rw [this]
        exact leB_trans (viak i j) (addB_mono (h.tri i k m hi hk hmk') (leB_refl _))
      · have : addB (turn k C i m) (turn k C m j) = addB (C i k) (addB (C k m) (C m j)) := by unfold turn; rw [e1, e2, addB_assoc]
        rw [this]
        exact leB_trans (viak i j) (addB_mono (leB_refl _) (h.tri k j m hk hj hmk'))
      · have : addB (turn k C i m) (turn k C m j) = addB (C i k) (addB (addB (C k m) (C m k)) (C k j)) := by unfold turn; rw [e1, e2, addB_assoc, addB_assoc]
        rw [this]
        refine leB_trans (viak i j) (addB_mono (leB_refl _) ?_)
        have h1 := h.tri k k m hk hk hmk'
        rw [h.dg k hk] at h1
        have := addB_mono h1 (leB_refl (C k j))
        rwa [z_addB] at this
  ach := fun i j hi hj => by
    unfold turn
    rcases minB_or (C i j) (addB (C i k) (C k j)) with e | e
    · rw [e]; exact h.ach i j hi hj
    · rw [e]
      obtain ⟨p, p1, p2⟩ := h.ach i k hi hk
      obtain ⟨q, q1, q2⟩ := h.ach k j hk hj
      exact ⟨p ++ q, p1.app q1, by rw [wsum_app, p1.nd, p2, q2]⟩
  le := fun i j hi hj => leB_trans (minB_l _ _) (h.le i j hi hj)
def diag0 (n : Nat) (T : Tf) : Tf := fun i j => if i = j ∧ i < n then zB else T i j
theorem turned0 {n : Nat} {T : Tf} (hT : NoNeg n T) : Turned n T 0 (diag0 n T) where
  dg := fun i hi => if_pos ⟨rfl, hi⟩
  tri := fun _ _ m _ _ hm => absurd hm (Nat.not_lt_zero m)
  ach := fun i j hi hj => by
    unfold diag0
    by_cases e : i = j ∧ i < n
    · rw [if_pos e]
      obtain ⟨rfl, _⟩ := e
      exact ⟨[], .nil hi, rfl⟩
    · rw [if_neg e]
      exact ⟨[j], .one hi hj, (addB_z _).symm⟩
  le := fun i j hi hj => by
    unfold diag0
    by_cases e : i = j ∧ i < n
    · rw [if_pos e]
      obtain ⟨rfl, _⟩ := e
      have := hT i [i] (.one hi hi)
      have e2 : wsum T i [i] = T i i := addB_z _
      rwa [e2] at this
    · rw [if_neg e]; exact leB_refl _
def fw (n : Nat) (T : Tf) : Nat → Tf
  | 0 => diag0 n T
  | k + 1 => turn k (fw n T k)
theorem fw_turned {n : Nat} {T : Tf} (hT : NoNeg n T) : ∀ k, k ≤ n → Turned n T k (fw n T k)
  | 0, _ => turned0 hT
  | k + 1, h => (fw_turned hT k (by omega)).step hT (by omega)
theorem fw_least {n : Nat} {T : Tf} (hT : NoNeg n T) : Least n T (fw n T n) := by
  have h := fw_turned hT n (Nat.le_refl _)
  exact ⟨fun i j p hp => closd_le ⟨h.dg, fun i j m hi hj hm => h.tri i j m hi hj hm⟩ h.le p i j hp, h.ach⟩
def viaL (D : Tf) (i j : Nat) : List Nat → Bd → Bd
  | [], x => x
  | m :: ms, x => viaL D i j ms (minB x (addB (D i m) (D m j)))
theorem viaL_le (D : Tf) (i j : Nat) : ∀ (ms : List Nat) (x : Bd), leB (viaL D i j ms x) x ∧ ∀ m ∈ ms, leB (viaL D i j ms x) (addB (D i m) (D m j))
  | [], x => ⟨leB_refl _, fun _ z => nomatch z⟩
  | m :: ms, x => by
    obtain ⟨h1, h2⟩ := viaL_le D i j ms (minB x (addB (D i m) (D m j)))
    refine ⟨leB_trans h1 (minB_l _ _), fun k hk => ?_⟩
    rcases List.mem_cons.mp hk with rfl | hk
    · exact leB_trans h1 (minB_r _ _)
    · exact h2 k hk
theorem viaL_ach (D : Tf) (i j : Nat) : ∀ (ms : List Nat) (x : Bd), viaL D i j ms x = x ∨ ∃ m ∈ ms, viaL D i j ms x = addB (D i m) (D m j)
  | [], x => .inl rfl
  | m :: ms, x => by
    show viaL D i j ms (minB x (addB (D i m) (D m j))) = x ∨ _
    rcases viaL_ach D i j ms (minB x (addB (D i m) (D m j))) with h | ⟨k, hk, h⟩
    · rcases minB_or x (addB (D i m) (D m j)) with e | e
      · exact .inl (h.trans e)
      · exact .inr ⟨m, List.mem_cons_self, h.trans e⟩
    · exact .inr ⟨k, List.mem_cons_of_mem _ hk, h⟩
def dbl (n : Nat) (D : Tf) : Tf := fun i j => viaL D i j (List.range n) (D i j)
structure Upto (n : Nat) (T : Tf) (l : Nat) (D : Tf) : Prop where
  le : ∀ i j p, Way n i j p → p.length ≤ l → leB (D i j) (wsum T i p)
  ach : ∀ i j, i < n → j < n → ∃ p, Way n i j p ∧ D i j = wsum T i p
theorem Upto.dbl {n l : Nat} {T D : Tf} (h : Upto n T l D) : Upto n T (l + l) (dbl n D) where
  le := fun i j p hp hl => by
    have hm : wend i (p.take l) < n := wend_lt hp.lt fun x hx => hp.all x (List.mem_of_mem_take hx)
    have w1 : Way n i (wend i (p.take l)) (p.take l) := ⟨hp.lt, fun x hx => hp.all x (List.mem_of_mem_take hx), rfl⟩
    have w2 : Way n (wend i (p.take l)) j (p.drop l) := ⟨hm, fun x hx => hp.all x (List.mem_of_mem_drop hx), by rw [← wend_app, List.take_append_drop]; exact hp.nd⟩
    have e : wsum T i p = addB (wsum T i (p.take l)) (wsum T (wend i (p.take l)) (p.drop l)) := by
      rw [← wsum_app, List.take_append_drop]
    rw [e]
    refine leB_trans ((viaL_le D i j (List.range n) (D i j)).2 _ (List.mem_range.mpr hm)) (addB_mono (h.le _ _ _ w1 ?_) (h.le _ _ _ w2 ?_))
    · rw [List.length_take]; omega
    · rw [List.length_drop]; omega
  ach := fun i j hi hj => by
    rcases viaL_ach D i j (List.range n) (D i j) with e | ⟨m, hm, e⟩
    · obtain ⟨p, p1, p2⟩ := h.ach i j hi hj
      exact ⟨p, p1, e.trans p2⟩
    · have hm := List.mem_range.mp hm
      obtain ⟨p, p1, p2⟩ := h.ach i m hi hm
      obtain ⟨q, q1, q2⟩ := h.ach m j hm hj
      exact ⟨p ++ q, p1.app q1, by rw [wsum_app, p1.nd, ← p2, ← q2]; exact e⟩
def way1 (n : Nat) (T : Tf) : Tf := fun i j => if i = j ∧ i < n then (if tightB (T i i) zB = true then T i i else zB) else T i j
theorem upto1 {n : Nat} {T : Tf} : Upto n T 1 (way1 n T) where
  le := fun i j p hp hl => by
    have hi := hp.lt
    match p, hp, hl with
    | [], hp, _ =>
      have e : i = j := hp.nd
      subst e
      unfold way1
      rw [if_pos ⟨rfl, hi⟩]
      split
      · next h => exact tight_le h
      · exact leB_refl _
    | [k], hp, _ =>
      have e : k = j := hp.nd
      subst e
      have e2 : wsum T i [k] = T i k := addB_z _
      rw [e2]
      unfold way1
      by_cases e : i = k ∧ i < n
      · rw [if_pos e]
        obtain ⟨rfl, _⟩ := e
        split
        · exact leB_refl _
        · next h => unfold leB; simpa using h
      · rw [if_neg e]; exact leB_refl _
    | _ :: _ :: _, _, hl => simp at hl
  ach := fun i j hi hj => by
    unfold way1
    by_cases e : i = j ∧ i < n
    · rw [if_pos e]
      obtain ⟨rfl, _⟩ := e
      split
      · exact ⟨[i], .one hi hi, (addB_z _).symm⟩
      · exact ⟨[], .nil hi, rfl⟩
    · rw [if_neg e]
      exact ⟨[j], .one hi hj, (addB_z _).symm⟩
theorem Upto.least {n l : Nat} {T D : Tf} (hT : NoNeg n T) (h : Upto n T l D) (hl : n ≤ l + 1) : Least n T D :=
  ⟨fun i j p hp => by
    obtain ⟨q, q1, q2, q3⟩ := way_short hT p.length i j p (Nat.le_refl _) hp
    exact leB_trans (h.le i j q q1 (by omega)) q3, h.ach⟩
def ringSum (T : Tf) (x : Nat) (r : List Nat) : Bd := addB (wsum T x r) (T (wend x r) x)
structure IsRing (n : Nat) (T : Tf) (x : Nat) (r : List Nat) : Prop where
  lt : ∀ y ∈ x :: r, y < n
  nd : (x :: r).Nodup
  neg : tightB (ringSum T x r) zB = true
theorem ring_way {n : Nat} {T : Tf} {x : Nat} {r : List Nat} (h : IsRing n T x r) : Way n x x (r ++ [x]) ∧ wsum T x (r ++ [x]) = ringSum T x r := by
  refine ⟨⟨h.lt x List.mem_cons_self, fun y hy => ?_, by rw [wend_app]; rfl⟩, ?_⟩
  · rcases List.mem_append.mp hy with z | z
    · exact h.lt y (List.mem_cons_of_mem _ z)
    · rw [List.mem_singleton.mp z]; exact h.lt x List.mem_cons_self
  · rw [wsum_app]
    unfold ringSum
    congr 1
    exact addB_z _
theorem not_tight_le {a b : Bd} (h : leB a b) : tightB b a ≠ true := by
  have h' : tightB b a = false := h
  rw [h']
  exact Bool.false_ne_true
theorem Upto.ring {n l : Nat} {T D : Tf} {x : Nat} {r : List Nat} (h : Upto n T l D) (hr : IsRing n T x r) (hl : n ≤ l) : x < n ∧ D x x ≠ zB := by
  obtain ⟨w1, w2⟩ := ring_way hr
  have hlen := php n (x :: r) hr.nd hr.lt
  have h1 := h.le x x _ w1 (by rw [List.length_append]; simp at hlen ⊢; omega)
  rw [w2] at h1
  refine ⟨w1.lt, fun e => ?_⟩
  rw [e] at h1
  exact not_tight_le h1 hr.neg
theorem noneg_no_ring {n : Nat} {T : Tf} {x : Nat} {r : List Nat} (hT : NoNeg n T) (hr : IsRing n T x r) : False := by
  obtain ⟨w1, w2⟩ := ring_way hr
  have := hT x _ w1
  rw [w2] at this
  exact not_tight_le this hr.neg
end Mt
namespace Mt
abbrev Wt := Int × Int
def near (a b : Wt) : Prop := a.1 < b.1 ∨ (a.1 = b.1 ∧ b.2 < a.2)
instance (a b : Wt) : Decidable (near a b) := inferInstanceAs (Decidable (_ ∨ _))
def b2 (s : Bool) : Int := if s then 1 else 0
theorem b2_range (s : Bool) : b2 s = 0 ∨ b2 s = 1 := by cases s <;> simp [b2]
def addW (a : Wt) (b : Int × Bool) : Wt := (a.1 + b.1, a.2 + b2 b.2)
structure Bf where
  F : Nat → Wt
  h : Nat → Nat
  m : Option Nat
def up1 {α : Type} (f : Nat → α) (i : Nat) (x : α) : Nat → α := fun a => if a = i then x else f a
theorem up1_same {α : Type} {f : Nat → α} {i : Nat} {x : α} : up1 f i x i = x := if_pos rfl
theorem up1_ne {α : Type} {f : Nat → α} {i a : Nat} {x : α} (h : a ≠ i) : up1 f i x a = f a := if_neg h
def relax1 (T : Tf) (i j : Nat) (s : Bf) : Bf := match T i j with
  | some b => if near (addW (s.F j) b) (s.F i) then ⟨up1 s.F i (addW (s.F j) b), up1 s.h i j, some i⟩ else s
  | none => s
structure BI (n r i0 j0 : Nat) (T : Tf) (s : Bf) (R τ : Nat → Nat) (c : Nat) : Prop where
  rle : ∀ i, R i ≤ r
  tle : ∀ i, τ i ≤ c
  hd : ∀ i, i < n → 0 < R i → s.h i < n ∧ ∃ b, T i (s.h i) = some b ∧ ¬ near (s.F i) (addW (s.F (s.h i)) b) ∧ ((τ i < τ (s.h i) ∨ s.h i = i) → near (addW (s.F (s.h i)) b) (s.F i)) ∧ R i ≤ R (s.h i) + 1
  inj : ∀ i j, i < n → j < n → 0 < R i → 0 < R j → τ i = τ j → i = j
  t0 : ∀ i, 0 < R i → 0 < τ i
  edge : ∀ i j b, i < n → j < n → T i j = some b → (R j = r ∨ ¬ near (addW (s.F j) b) (s.F i)) ∨ (¬ (i < i0 ∨ (i = i0 ∧ j < j0)) ∧ R j + 1 = r)
  mv : ∀ x, s.m = some x → x < n ∧ R x = r
  st : s.m = none → ∀ i, R i ≠ r
theorem near_trans_le {a b c : Wt} (h : near a b) (h' : ¬ near c b) : near a c := by
  unfold near at *
  omega
theorem BI.step {n r i j : Nat} {T : Tf} {s : Bf} {R τ : Nat → Nat} {c : Nat} (h : BI n r i j T s R τ c) (hr : 0 < r) (hi : i < n) (hj : j < n) : ∃ R' τ' c', BI n r i (j + 1) T (relax1 T i j s) R' τ' c' := by
  have keep : (∀ b, T i j = some b → ¬ near (addW (s.F j) b) (s.F i)) → BI n r i (j + 1) T s R τ c := fun hn =>
    ⟨h.rle, h.tle, h.hd, h.inj, h.t0, fun a e b ha he hb => by
      by_cases z : a = i ∧ e = j
      · obtain ⟨rfl, rfl⟩ := z
        exact .inl (.inr (hn b hb))
      · rcases h.edge a e b ha he hb with y | ⟨y1, y2⟩
        · exact .inl y
        · exact .inr ⟨by omega, y2⟩, h.mv, h.st⟩
  cases hb : T i j with
  | none =>
    refine ⟨R, τ, c, ?_⟩
    unfold relax1
    rw [hb]
    exact keep fun b e => by rw [hb] at e; cases e
  | some b =>
    by_cases hnear : near (addW (s.F j) b) (s.F i)
    case neg =>
      refine ⟨R, τ, c, ?_⟩
      unfold relax1
      rw [hb]
      show BI n r i (j + 1) T (if near (addW (s.F j) b) (s.F i) then _ else s) R τ c
      rw [if_neg hnear]
      exact keep fun b' e => by rw [hb] at e; cases e; exact hnear
    refine ⟨up1 R i r, up1 τ i (c + 1), c + 1, ?_⟩
    unfold relax1
    rw [hb]
    show BI n r i (j + 1) T (if near (addW (s.F j) b) (s.F i) then _ else s) _ _ _
    rw [if_pos hnear]
    have hRj : R j = r ∨ R j + 1 = r := by
      rcases h.edge i j b hi hj hb with (y | y) | ⟨_, y⟩
      · exact .inl y
      · exact absurd hnear y
      · exact .inr y
    have Rle : ∀ a, R a ≤ up1 R i r a := fun a => by
      unfold up1
      split
      · next e => rw [e]; exact h.rle i
      · exact Nat.le_refl _
    refine ⟨fun a => ?_, fun a => ?_, fun a ha hR => ?_, fun a e ha he hRa hRe ht => ?_, fun a hR => ?_, fun a e b' ha he hb' => ?_, fun x hx => ?_, fun hx => ?_⟩
    · unfold up1; split
      · exact Nat.le_refl _
      · exact h.rle a
    · unfold up1; split
      · exact Nat.le_refl _
      · exact Nat.le_succ_of_le (h.tle a)
    · show up1 s.h i j a < n ∧ ∃ b', T a (up1 s.h i j a) = some b' ∧ ¬ near (up1 s.F i (addW (s.F j) b) a) (addW (up1 s.F i (addW (s.F j) b) (up1 s.h i j a)) b') ∧ ((up1 τ i (c + 1) a < up1 τ i (c + 1) (up1 s.h i j a) ∨ up1 s.h i j a = a) → near (addW (up1 s.F i (addW (s.F j) b) (up1 s.h i j a)) b') (up1 s.F i (addW (s.F j) b) a)) ∧ up1 R i r a ≤ up1 R i r (up1 s.h i j a) + 1
      by_cases hai : a = i
      · subst hai
        rw [up1_same (f := s.h), up1_same (f := s.F), up1_same (f := τ), up1_same (f := R)]
        refine ⟨hj, b, hb, ?_, fun hc => ?_, ?_⟩
        · by_cases hja : j = a
          · subst hja
            rw [up1_same]
            have := b2_range b.2
            unfold near addW at *
            simp only at *
            omega
          · rw [up1_ne hja]
            unfold near
            omega
        · by_cases hja : j = a
          · subst hja
            rw [up1_same]
            unfold near addW at *
            simp only at *
            omega
          · exfalso
            rcases hc with hc | hc
            · rw [up1_ne hja] at hc
              have := h.tle j
              omega
            · exact hja hc
        · by_cases hja : j = a
          · rw [hja, up1_same]; omega
          · rw [up1_ne hja]; omega
      · rw [up1_ne hai] at hR
        obtain ⟨h1, b', h2, h3, h4, h5⟩ := h.hd a ha hR
        rw [up1_ne (f := s.h) hai, up1_ne (f := s.F) hai, up1_ne (f := τ) hai, up1_ne (f := R) hai]
        refine ⟨h1, b', h2, ?_, fun hc => ?_, Nat.le_trans h5 (Nat.succ_le_succ (Rle _))⟩
        · by_cases hh : s.h a = i
          · rw [hh, up1_same]
            rw [hh] at h3
            generalize addW (s.F j) b = g at hnear ⊢
            unfold near addW at *
            simp only at *
            omega
          · rw [up1_ne hh]; exact h3
        · by_cases hh : s.h a = i
          · rw [hh, up1_same]
            rw [hh] at h3
            generalize addW (s.F j) b = g at hnear ⊢
            unfold near addW at *
            simp only at *
            omega
          · rw [up1_ne hh]
            refine h4 ?_
            rw [up1_ne hh] at hc
            exact hc
    · by_cases hai : a = i <;> by_cases hei : e = i
      · rw [hai, hei]
      · rw [hai, up1_same, up1_ne hei] at ht
        have := h.tle e
        omega
      · rw [hei, up1_same, up1_ne hai] at ht
        have := h.tle a
        omega
      · rw [up1_ne hai, up1_ne hei] at ht
        rw [up1_ne hai] at hRa
        rw [up1_ne hei] at hRe
        exact h.inj a e ha he hRa hRe ht
    · by_cases hai : a = i
      · rw [hai, up1_same]; omega
      · rw [up1_ne hai] at hR ⊢
        exact h.t0 a hR
    · by_cases hei : e = i
      · exact .inl (.inl (by rw [hei, up1_same]))
      · rw [up1_ne hei]
        have hF : addW (up1 s.F i (addW (s.F j) b) e) b' = addW (s.F e) b' := by rw [up1_ne hei]
        show (R e = r ∨ ¬ near (addW (up1 s.F i (addW (s.F j) b) e) b') (up1 s.F i (addW (s.F j) b) a)) ∨ _
        rw [hF]
        by_cases hai : a = i
        · subst hai
          rw [up1_same]
          by_cases hej : e = j
          · subst hej
            rw [hb] at hb'
            cases hb'
            refine .inl (.inr ?_)
            unfold near
            omega
          · rcases h.edge a e b' ha he hb' with (y | y) | ⟨y1, y2⟩
            · exact .inl (.inl y)
            · refine .inl (.inr ?_)
              generalize addW (s.F j) b = g at hnear ⊢
              generalize addW (s.F e) b' = g' at y ⊢
              unfold near at *
              omega
            · exact .inr ⟨by omega, y2⟩
        · rw [up1_ne hai]
          rcases h.edge a e b' ha he hb' with y | ⟨y1, y2⟩
          · exact .inl y
          · exact .inr ⟨by omega, y2⟩
    · cases hx
      exact ⟨hi, up1_same⟩
    · cases hx
theorem BI.row {n r i : Nat} {T : Tf} {s : Bf} {R τ : Nat → Nat} {c : Nat} (h : BI n r i n T s R τ c) : BI n r (i + 1) 0 T s R τ c :=
  ⟨h.rle, h.tle, h.hd, h.inj, h.t0, fun a e b ha he hb => (h.edge a e b ha he hb).imp id fun z => ⟨by omega, z.2⟩, h.mv, h.st⟩
theorem BI.round {n r : Nat} {T : Tf} {s : Bf} {R τ : Nat → Nat} {c : Nat} (h : BI n r n 0 T s R τ c) : BI n (r + 1) 0 0 T { s with m := none } R τ c :=
  ⟨fun i => Nat.le_succ_of_le (h.rle i), h.tle, h.hd, h.inj, h.t0, fun a e b ha he hb => by
    rcases h.edge a e b ha he hb with (y | y) | ⟨y1, _⟩
    · exact .inr ⟨by omega, by omega⟩
    · exact .inl (.inr y)
    · exact absurd (.inl ha) y1, (fun x hx => by cases hx), fun _ i => by have := h.rle i; omega⟩
theorem BI.start {n : Nat} {T : Tf} {s : Bf} (hm : s.m = none) : BI n 1 0 0 T s (fun _ => 0) (fun _ => 0) 0 :=
  ⟨fun _ => Nat.zero_le _, fun _ => Nat.le_refl _, fun _ _ h => absurd h (Nat.lt_irrefl 0), fun _ _ _ _ h => absurd h (Nat.lt_irrefl 0), fun _ h => absurd h (Nat.lt_irrefl 0), fun _ _ _ _ _ _ => .inr ⟨by omega, rfl⟩, (fun x hx => by rw [hm] at hx; cases hx), fun _ _ => by omega⟩
def relaxRow (T : Tf) (i : Nat) : List Nat → Bf → Bf
  | [], s => s
  | j :: js, s => relaxRow T i js (relax1 T i j s)
def relaxAll (T : Tf) (n : Nat) : List Nat → Bf → Bf
  | [], s => s
  | i :: is, s => relaxAll T n is (relaxRow T i (List.range n) s)
def relax (T : Tf) (n : Nat) (s : Bf) : Bf := relaxAll T n (List.range n) { s with m := none }
theorem row_inv {n r i : Nat} {T : Tf} (hr : 0 < r) (hi : i < n) : ∀ (m k : Nat) (s : Bf) (R τ : Nat → Nat) (c : Nat), k + m = n → BI n r i k T s R τ c → ∃ R' τ' c', BI n r i n T (relaxRow T i (List.range' k m) s) R' τ' c'
  | 0, k, s, R, τ, c, e, h => by
    have : k = n := by omega
    subst this
    exact ⟨R, τ, c, h⟩
  | m + 1, k, s, R, τ, c, e, h => by
    obtain ⟨R', τ', c', h'⟩ := h.step hr hi (j := k) (by omega)
    rw [List.range'_succ]
    exact row_inv hr hi m (k + 1) _ R' τ' c' (by omega) h'
theorem all_inv {n r : Nat} {T : Tf} (hr : 0 < r) : ∀ (m k : Nat) (s : Bf) (R τ : Nat → Nat) (c : Nat), k + m = n → BI n r k 0 T s R τ c → ∃ R' τ' c', BI n r n 0 T (relaxAll T n (List.range' k m) s) R' τ' c'
  | 0, k, s, R, τ, c, e, h => by
    have : k = n := by omega
    subst this
    exact ⟨R, τ, c, h⟩
  | m + 1, k, s, R, τ, c, e, h => by
    obtain ⟨R', τ', c', h'⟩ := row_inv hr (show k < n by omega) n 0 s R τ c (by omega) h
    rw [List.range'_succ]
    unfold relaxAll
    rw [List.range_eq_range']
    exact all_inv hr m (k + 1) _ R' τ' c' (by omega) h'.row
def rounds (T : Tf) (n : Nat) : Nat → Bf → Bf
  | 0, s => s
  | k + 1, s => relax T n (rounds T n k s)
theorem rounds_inv {n : Nat} {T : Tf} {s : Bf} : ∀ k, ∃ R τ c, BI n (k + 1) n 0 T (rounds T n (k + 1) s) R τ c
  | 0 => by
    obtain ⟨R, τ, c, h⟩ := all_inv (n := n) (r := 1) (T := T) (by decide) n 0 { s with m := none } _ _ _ (by omega) (BI.start rfl)
    exact ⟨R, τ, c, by rw [← List.range_eq_range'] at h; exact h⟩
  | k + 1 => by
    obtain ⟨R, τ, c, h⟩ := rounds_inv (n := n) (T := T) (s := s) k
    obtain ⟨R', τ', c', h'⟩ := all_inv (n := n) (r := k + 2) (T := T) (by omega) n 0 _ _ _ _ (by omega) h.round
    exact ⟨R', τ', c', by rw [← List.range_eq_range'] at h'; exact h'⟩
def Pot (n : Nat) (T : Tf) (F : Nat → Wt) : Prop := ∀ i j b, i < n → j < n → T i j = some b → ¬ near (addW (F j) b) (F i)
theorem BI.pot {n r : Nat} {T : Tf} {s : Bf} {R τ : Nat → Nat} {c : Nat} (h : BI n r n 0 T s R τ c) (hm : s.m = none) : Pot n T s.F := fun i j b hi hj hb => by
  rcases h.edge i j b hi hj hb with (y | y) | ⟨y1, _⟩
  · exact absurd y (h.st hm j)
  · exact y
  · exact absurd (.inl hi) y1
theorem Pot.way {n : Nat} {T : Tf} {F : Nat → Wt} (h : Pot n T F) : ∀ (p : List Nat) (i j : Nat) (N : Int) (s : Bool), Way n i j p → wsum T i p = some (N, s) → (F i).1 < (F j).1 + N ∨ ((F i).1 = (F j).1 + N ∧ (F j).2 + b2 s ≤ (F i).2)
  | [], i, j, N, s, hp, e => by
    have e1 : i = j := hp.nd
    subst e1
    cases e
    right
    simp [b2]
  | k :: p, i, j, N, s, hp, e => by
    have hk : k < n := hp.all k List.mem_cons_self
    have e : addB (T i k) (wsum T k p) = some (N, s) := e
    cases hb : T i k with
    | none => rw [hb] at e; cases wsum T k p <;> cases e
    | some b =>
      cases hw : wsum T k p with
      | none => rw [hb, hw] at e; obtain ⟨b1, b3⟩ := b; cases e
      | some w =>
        obtain ⟨M, t⟩ := w
        obtain ⟨bn, bs⟩ := b
        rw [hb, hw] at e
        have e : (bn + M, bs || t) = (N, s) := Option.some.inj e
        have e1 : bn + M = N := congrArg Prod.fst e
        have e2 : (bs || t) = s := congrArg Prod.snd e
        have ih := h.way p k j M t ⟨hk, fun x hx => hp.all x (List.mem_cons_of_mem _ hx), hp.nd⟩ hw
        have hp1 := h i k _ hp.lt hk hb
        unfold near addW at hp1
        simp only at hp1
        have hb2 : b2 s ≤ b2 bs + b2 t := by rw [← e2]; cases bs <;> cases t <;> simp [b2]
        have := b2_range s
        have := b2_range bs
        have := b2_range t
        omega
theorem Pot.noneg {n : Nat} {T : Tf} {F : Nat → Wt} (h : Pot n T F) : NoNeg n T := fun i p hp => by
  cases e : wsum T i p with
  | none => exact leB_none _
  | some w =>
    obtain ⟨N, s⟩ := w
    have := h.way p i i N s hp e
    show leB (some (0, false)) (some (N, s))
    rw [leB_some]
    cases s with
    | false => simp only [b2] at this; simp at this; rcases this with z | z
               · left; omega
               · right; exact ⟨by omega, fun y => nomatch y⟩
    | true => simp only [b2] at this; simp at this; left; omega
def itr (f : Nat → Nat) (x : Nat) : Nat → Nat
  | 0 => x
  | k + 1 => f (itr f x k)
theorem itr_add (f : Nat → Nat) (x : Nat) (a : Nat) : ∀ b, itr f x (a + b) = itr f (itr f x a) b
  | 0 => rfl
  | b + 1 => by
    show f (itr f x (a + b)) = f (itr f (itr f x a) b)
    rw [itr_add f x a b]
theorem min_of {P : Nat → Prop} : ∀ (c : Nat), 0 < c → P c → ∃ d, 0 < d ∧ P d ∧ ∀ k, 0 < k → k < d → ¬ P k := by
  intro c
  induction c using Nat.strongRecOn with
  | _ c ih =>
    intro h0 hc
    by_cases h : ∃ k, 0 < k ∧ k < c ∧ P k
    · obtain ⟨k, k1, k2, k3⟩ := h
      exact ih k k2 k1 k3
    · exact ⟨c, h0, hc, fun k k1 k2 k3 => h ⟨k, k1, k2, k3⟩⟩
theorem BI.cycle {n : Nat} {T : Tf} {s : Bf} {R τ : Nat → Nat} {c : Nat} (h : BI n (n + 1) n 0 T s R τ c) {x : Nat} (hx : s.m = some x) :
    (∀ k, itr s.h (itr s.h x n) k < n ∧ 0 < R (itr s.h (itr s.h x n) k)) ∧ ∃ d, 0 < d ∧ itr s.h (itr s.h x n) d = itr s.h x n ∧ ∀ k, 0 < k → k < d → itr s.h (itr s.h x n) k ≠ itr s.h x n := by
  obtain ⟨x1, x2⟩ := h.mv x hx
  have up : ∀ k, k ≤ n → itr s.h x k < n ∧ n + 1 ≤ R (itr s.h x k) + k := by
    intro k
    induction k with
    | zero => exact fun _ => ⟨x1, by show n + 1 ≤ R x + 0; omega⟩
    | succ k ih =>
      intro hk
      obtain ⟨a1, a2⟩ := ih (by omega)
      obtain ⟨b1, _, _, _, _, b5⟩ := h.hd _ a1 (by omega)
      exact ⟨b1, by show n + 1 ≤ R (s.h (itr s.h x k)) + (k + 1); omega⟩
  obtain ⟨p, q, hpq, hq, e⟩ := dup_of (fun k hk => (up k hk).1) (Nat.le_refl n)
  have per : ∀ k, p ≤ k → itr s.h x (k + (q - p)) = itr s.h x k := fun k hk => by
    have e1 : k + (q - p) = q + (k - p) := by omega
    have e2 : k = p + (k - p) := by omega
    rw [e1, itr_add, ← e, ← itr_add, ← e2]
  have all : ∀ k, p ≤ k → itr s.h x k < n ∧ 0 < R (itr s.h x k) := by
    intro k
    induction k using Nat.strongRecOn with
    | _ k ih =>
      intro hk
      by_cases hkn : k ≤ n
      · obtain ⟨a1, a2⟩ := up k hkn
        exact ⟨a1, by omega⟩
      · have e1 : k = (k - (q - p)) + (q - p) := by omega
        rw [e1, per _ (by omega)]
        exact ih _ (by omega) (by omega)
  refine ⟨fun k => by rw [← itr_add]; exact all _ (by omega), min_of (q - p) (by omega) ?_⟩
  show itr s.h (itr s.h x n) (q - p) = itr s.h x n
  rw [← itr_add]
  exact per n (by omega)
def stepsL (f : Nat → Nat) (y k : Nat) : List Nat := (List.range k).map fun m => itr f y (m + 1)
theorem stepsL_succ (f : Nat → Nat) (y k : Nat) : stepsL f y (k + 1) = stepsL f y k ++ [itr f y (k + 1)] := by
  unfold stepsL
  rw [List.range_succ, List.map_append]
  rfl
theorem stepsL_end (f : Nat → Nat) (y : Nat) : ∀ k, wend y (stepsL f y k) = itr f y k
  | 0 => rfl
  | k + 1 => by rw [stepsL_succ, wend_app]; rfl
theorem BI.ring {n : Nat} {T : Tf} {s : Bf} {R τ : Nat → Nat} {c : Nat} (h : BI n (n + 1) n 0 T s R τ c) {x d : Nat} (hx : s.m = some x) (hd0 : 0 < d) (hd : itr s.h (itr s.h x n) d = itr s.h x n) (hmin : ∀ k, 0 < k → k < d → itr s.h (itr s.h x n) k ≠ itr s.h x n) : IsRing n T (itr s.h x n) (stepsL s.h (itr s.h x n) (d - 1)) := by
  have all := (h.cycle hx).1
  generalize itr s.h x n = y at all hd hmin ⊢
  have dist : ∀ a b, a < b → b < d → itr s.h y a ≠ itr s.h y b := fun a b hab hb e => by
    refine hmin (a + (d - b)) (by omega) (by omega) ?_
    rw [itr_add, e, ← itr_add]
    have : b + (d - b) = d := by omega
    rw [this, hd]
  have ecl : y :: stepsL s.h y (d - 1) = (List.range d).map fun m => itr s.h y m := by
    have e1 : d = (d - 1) + 1 := by omega
    conv => rhs; rw [e1, List.range_succ_eq_map]
    rw [List.map_cons, List.map_map]
    rfl
  refine ⟨fun z hz => ?_, ?_, ?_⟩
  · rw [ecl] at hz
    obtain ⟨k, _, rfl⟩ := List.mem_map.mp hz
    exact (all k).1
  · rw [ecl, List.nodup_iff_pairwise_ne, List.pairwise_map]
    exact List.Pairwise.imp_of_mem (fun {a b} ha hb hab => dist a b hab (List.mem_range.mp hb)) List.pairwise_lt_range
  · -- the sums
    have key : ∀ k, ∃ W : Wt, 0 ≤ W.2 ∧ wsum T y (stepsL s.h y k) = some (W.1, decide (0 < W.2)) ∧
        (near ((s.F (itr s.h y k)).1 + W.1, (s.F (itr s.h y k)).2 + W.2) (s.F y) ∨ (¬ near (s.F y) ((s.F (itr s.h y k)).1 + W.1, (s.F (itr s.h y k)).2 + W.2) ∧ τ (itr s.h y k) + k ≤ τ y)) := by
      intro k
      induction k with
      | zero => exact ⟨(0, 0), by decide, rfl, .inr ⟨by unfold near; simp only [itr]; omega, Nat.le_refl _⟩⟩
      | succ k ih =>
        obtain ⟨W, w1, w2, w3⟩ := ih
        obtain ⟨a1, a2⟩ := all k
        obtain ⟨b1, b, b3, b4, b5, _⟩ := h.hd _ a1 a2
        obtain ⟨c1, c2⟩ := all (k + 1)
        have ei : itr s.h y (k + 1) = s.h (itr s.h y k) := rfl
        obtain ⟨bn, bs⟩ := b
        refine ⟨addW W (bn, bs), by have := b2_range bs; unfold addW; simp only; omega, ?_, ?_⟩
        · rw [stepsL_succ, wsum_app, w2, stepsL_end]
          show addB (some (W.1, decide (0 < W.2))) (addB (T (itr s.h y k) (s.h (itr s.h y k))) zB) = _
          rw [addB_z, b3]
          show some (W.1 + bn, decide (0 < W.2) || bs) = some (W.1 + bn, decide (0 < W.2 + b2 bs))
          congr 2
          cases bs
          · simp [b2]
          · have : 0 < W.2 + 1 := by omega
            simp [b2, this]
        · rw [ei]
          have hτ : τ (itr s.h y k) < τ (s.h (itr s.h y k)) ∨ s.h (itr s.h y k) = itr s.h y k ∨ τ (s.h (itr s.h y k)) < τ (itr s.h y k) := by
            by_cases e : τ (itr s.h y k) = τ (s.h (itr s.h y k))
            · exact .inr (.inl (h.inj _ _ a1 c1 a2 c2 e).symm)
            · omega
          generalize s.F (itr s.h y k) = A at *
          generalize s.F (s.h (itr s.h y k)) = B at *
          generalize s.F y = Y at *
          rcases hτ with z | z | z
          · have b5 := b5 (.inl z)
            left
            unfold near addW at *
            simp only at *
            omega
          · have b5 := b5 (.inr z)
            left
            unfold near addW at *
            simp only at *
            omega
          · rcases w3 with w3 | ⟨w3, w4⟩
            · left
              unfold near addW at *
              simp only at *
              omega
            · right
              refine ⟨?_, by omega⟩
              unfold near addW at *
              simp only at *
              omega
    obtain ⟨W, w1, w2, w3⟩ := key d
    have e1 : d = (d - 1) + 1 := by omega
    have es : wsum T y (stepsL s.h y d) = ringSum T y (stepsL s.h y (d - 1)) := by
      conv => lhs; rw [e1, stepsL_succ]
      rw [wsum_app]
      unfold ringSum
      congr 1
      show addB (T _ (itr s.h y (d - 1 + 1))) zB = _
      rw [addB_z, ← e1, hd]
    rw [← es, w2]
    rw [hd] at w3
    have neg : W.1 < 0 ∨ (W.1 = 0 ∧ 0 < W.2) := by
      rcases w3 with w3 | ⟨_, w4⟩
      · unfold near at w3
        simp only at w3
        omega
      · omega
    show tightB (some (W.1, decide (0 < W.2))) (some (0, false)) = true
    rcases neg with z | ⟨z1, z2⟩
    · simp [tightB, z]
    · simp [tightB, z1, z2]
end Mt
namespace Mt
open PySem PySem.Spec PyProof.Rows L2 Z G
theorem size2 (n : Nat) (h : n ≤ 2000) : n ≤ sizeLine := Nat.le_trans h (by decide)
theorem tighterB_ok (a b : Bd) : f_tighter [eB a, eB b] = some (.bl (tightB a b)) := by
  rw [e_tighter, F_tighter]
  cases a with
  | none => simp [tightB]
  | some p =>
    obtain ⟨n, s⟩ := p
    cases b with
    | none => simp [tightB]
    | some q =>
      obtain ⟨m, t⟩ := q
      by_cases h1 : n < m
      · simp [tightB, h1]
      · by_cases h2 : n = m
        · subst h2
          cases s <;> cases t <;> simp [tightB]
        · have h3 : (n == m) = false := by simpa using h2
          simp [tightB, h1, h2, h3]
theorem tight_keeps {a b : Bd} {q : Rat} (h : tightB a b = true) (k : keepsB q a = true) : keepsB q b = true := by
  cases a with
  | none => cases h
  | some x =>
    obtain ⟨n, s⟩ := x
    cases b with
    | none => rfl
    | some y =>
      obtain ⟨m, t⟩ := y
      by_cases h1 : n < m
      · have h2 : (n : Rat) < (m : Rat) := by rw [Rat.intCast_lt_intCast]; exact h1
        cases s <;> cases t <;> simp [keepsB] at k ⊢ <;> grind
      · simp [tightB, h1] at h
        obtain ⟨⟨h4, h5⟩, h6⟩ := h
        subst h4 h5 h6
        simp [keepsB] at k ⊢
        grind
theorem loose_keeps {a b : Bd} {q : Rat} (h : tightB a b = false) (k : keepsB q b = true) : keepsB q a = true := by
  cases a with
  | none => rfl
  | some x =>
    obtain ⟨n, s⟩ := x
    cases b with
    | none => cases h
    | some y =>
      obtain ⟨m, t⟩ := y
      by_cases h1 : n < m
      · simp [tightB, h1] at h
      · by_cases h4 : n = m
        · subst h4
          cases s <;> cases t <;> simp [tightB, keepsB] at h k ⊢ <;> grind
        · have h5 : (m : Rat) < (n : Rat) := by rw [Rat.intCast_lt_intCast]; omega
          cases s <;> cases t <;> simp [keepsB] at k ⊢ <;> grind
abbrev Tb := List (List Bd)
def eR (r : List Bd) : D := .lst (r.map eB)
def eM (T : Tb) : D := .lst (T.map eR)
theorem okL_map {α : Type} {m : α → D} {n : Nat} (h : ∀ a, (m a).eqOk n = true) : ∀ xs : List α, D.eqOkL (xs.map m) n = true
  | [] => by simp
  | a :: xs => by simp [h, okL_map h xs]
theorem eR_ok (r : List Bd) (n : Nat) : (eR r).eqOk (n + 2) = true := by
  unfold eR
  rw [ok_lst]
  exact okL_map (fun _ => eB_ok _ _) _
theorem eM_ok (T : Tb) : (eM T).eqOk 64 = true := by
  unfold eM
  rw [ok_lst]
  exact okL_map (fun _ => eR_ok _ _) _
theorem dList_lst {xs : List D} (h : D.immL xs = true) : dList [.lst xs] = some (.lst xs) := by
  show (if D.immL xs = true then some (D.lst xs) else none) = _
  rw [if_pos h]
theorem dList_R (r : List Bd) : dList [eR r] = some (eR r) := dList_lst (immL_map (fun _ => eB_imm _) _)
theorem compL_map {α : Type} {G : D → Ev → Option Ev} {c : Ev → Option Bool} {e : FE} {ρ : Ev} {m r : α → D} : ∀ as : List α, (∀ a ∈ as, ∃ ρ1, G (m a) ρ = some ρ1 ∧ c ρ1 = some true ∧ e ρ1 = some (r a)) → compL G c e ρ (as.map m) = some (as.map r)
  | [], _ => rfl
  | a :: as, h => by
    obtain ⟨ρ1, h1, h2, h3⟩ := h a List.mem_cons_self
    have ih := compL_map as fun a ha => h a (List.mem_cons_of_mem _ ha)
    show (G (m a) ρ).bind _ = _
    rw [h1]
    show (c ρ1).bind _ = _
    rw [h2]
    show (e ρ1).bind _ = _
    rw [h3]
    show (compL G c e ρ (as.map m)).bind _ = _
    rw [ih]
    rfl
theorem copy_ok {g : Ev → Option (List D)} {ρ : Ev} {i j : Nat} {T : Tb} (hg : g ρ = some (T.map eR)) (hl : T.length ≤ 2000) (hj : ∀ d : D, (((wipeD ρ [j]).set j (.al d))[i]?) = some (.al d)) : fComp g (gN j) cYes (fA dList (fCons (fAl i) fNil)) [j] ρ = some (eM T) :=
  fComp_ok (ys := T.map eR) hg (compL_map T fun r _ => ⟨_, rfl, rfl, by
    rw [v_fA, v_fCons, v_fAl, hj]
    exact dList_R r⟩) (size2 _ (by rw [List.length_map]; exact hl))
theorem sForL_all {α : Type} {G : D → Ev → Option Ev} {F : FS} {m : α → D} {p : α → Bool} {out : D} (I : Ev → Prop) : ∀ (xs : List α) (ρ : Ev), I ρ → (∀ a ∈ xs, ∀ ρ, I ρ → ∃ ρ1, G (m a) ρ = some ρ1 ∧ (p a = true → ∃ ρ', F ρ1 = some (.nx ρ') ∧ I ρ') ∧ (p a = false → F ρ1 = some (.rt out))) →
    (xs.all p = true → ∃ ρ', sForL G F (xs.map m) ρ = some (.nx ρ') ∧ I ρ') ∧ (xs.all p = false → sForL G F (xs.map m) ρ = some (.rt out))
  | [], ρ, h, _ => ⟨fun _ => ⟨ρ, rfl, h⟩, fun z => by cases z⟩
  | a :: xs, ρ, h, s => by
    obtain ⟨ρ1, h1, h2, h3⟩ := s a List.mem_cons_self ρ h
    rw [List.all_cons]
    cases hp : p a with
    | false =>
      refine ⟨fun z => (by cases z), fun _ => ?_⟩
      show sForL G F (m a :: xs.map m) ρ = _
      rw [v_sForL1, h1]
      show (F ρ1).bind _ = _
      rw [h3 hp]
      rfl
    | true =>
      obtain ⟨ρ', h4, h5⟩ := h2 hp
      have ih := sForL_all I xs ρ' h5 fun b hb => s b (List.mem_cons_of_mem _ hb)
      have e : sForL G F ((a :: xs).map m) ρ = sForL G F (xs.map m) ρ' := by
        show sForL G F (m a :: xs.map m) ρ = _
        rw [v_sForL1, h1]
        show (F ρ1).bind _ = _
        rw [h4]
        rfl
      rw [e, Bool.true_and]
      exact ih
theorem v_iZip {f g : FE} {ρ : Ev} {α β : Type} {m : α → D} {r : β → D} {xs : List α} {ys : List β} (h1 : f ρ = some (.lst (xs.map m))) (h2 : g ρ = some (.lst (ys.map r))) : iZipD f g ρ = some ((xs.zip ys).map fun p => .tup [m p.1, r p.2]) := by
  unfold iZipD
  rw [h1, h2]
  show some (((xs.map m).zip (ys.map r)).map _) = _
  rw [List.zip_map, List.map_map]
  rfl
theorem lless_ok {p q : Rat} (hp : BtQ 4000 p) (hq : BtQ 4000 q) : f__law_less [eQ p, eQ q] = some (eQ (p - q)) := by
  rw [e__law_less, F__law_less]
  have hd : (p.den : Int) * q.den ≠ 0 := by
    have := p.den_nz
    have := q.den_nz
    simp [*]
  have e : Rat.divInt (p.num * q.den - q.num * p.den) (p.den * q.den) = p - q := by
    have := Rat.divInt_sub_divInt p.num q.num (d₁ := p.den) (d₂ := q.den) (by have := p.den_nz; omega) (by have := q.den_nz; omega)
    rw [Rat.num_divInt_den, Rat.num_divInt_den] at this
    exact this.symm
  have h := lowest_ok (a := p.num * q.den - q.num * p.den) hd ((hp.2.mul hq.2).mono (by decide))
  rw [e] at h
  simp [dMul_ok hp.1 hq.2, dMul_ok hq.1 hp.2, dMul_ok hp.2 hq.2, h]
theorem lkeeps2_ok {q : Rat} {b : Bd} (hq : BtQ 4000 q) (hb : BtB 4000 b) : f__law_keeps_v2 [eQ q, eB b] = some (.bl (keepsB q b)) := by
  rw [e__law_keeps_v2, F__law_keeps_v2]
  cases b with
  | none => simp [keepsB]
  | some p =>
    obtain ⟨n, s⟩ := p
    have h1 := dMul_ok (i := n) (j := q.den) hb hq.2
    by_cases h2 : q.num - n * q.den < 0
    · have h3 : q.num < n * q.den := by omega
      have h4 : q.num ≤ n * q.den := by omega
      cases s <;> simp [keepsB, h1, rat_lt_int, rat_le_int, h2, h3, h4]
    · by_cases h5 : q.num - n * q.den = 0
      · have h3 : ¬ q.num < n * q.den := by omega
        have h4 : q.num ≤ n * q.den := by omega
        cases s <;> simp [keepsB, h1, rat_lt_int, rat_le_int, h5, h3, h4]
      · have h3 : ¬ q.num < n * q.den := by omega
        have h4 : ¬ q.num ≤ n * q.den := by omega
        have h6 : (q.num - n * q.den == 0) = false := by simpa using h5
        cases s <;> simp [keepsB, h1, rat_lt_int, rat_le_int, h2, h6, h3, h4]
theorem saysB_ok (a b : Bool) : f__law_says [.bl a, .bl b] = some (.bl (a == b)) := by
  rw [e__law_says, F__law_says]
  cases a <;> cases b <;> simp
def rowB (p : Rat) (vs : List Rat) (row : List Bd) : Bool := (vs.zip row).all fun x => keepsB (p - x.1) x.2
def liesB (vs : List Rat) (T : Tb) : Bool := (vs.zip T).all fun x => rowB x.1 vs x.2
def BtT (n : Nat) (T : Tb) : Prop := ∀ r ∈ T, ∀ b ∈ r, BtB n b
theorem eQ_01 : eQ 0 = .tup [.int 0, .int 1] := rfl
theorem lies_ok {T : Tb} {qs : List Rat} (hT : BtT 4000 T) (hq : ∀ q ∈ qs, BtQ 1000 q) (hl : qs.length ≤ 1000) : f_lies_in [eM T, .lst (qs.map eQ)] = some (.bl (liesB (0 :: qs) T)) := by
  rw [e_lies_in, F_lies_in]
  let vs : List Rat := 0 :: qs
  have hv : ∀ q ∈ vs, BtQ 1000 q := fun q h => by
    rcases List.mem_cons.mp h with rfl | h
    · exact ⟨Bt.mono (n := 2) (by decide) (by decide), Bt.mono (n := 2) (by decide) (by decide)⟩
    · exact hq q h
  have ad := dAdd_lst (xs := [.tup [.int 0, .int 1]]) (ys := qs.map eQ) (size2 _ (by rw [List.length_map]; simp; omega)) (by simp) (immL_map (fun _ => eQ_imm) _)
  have ls := dList_lst (xs := qs.map eQ) (immL_map (fun _ => eQ_imm) _)
  have e0 : D.lst ([.tup [.int 0, .int 1]] ++ qs.map eQ) = .lst (vs.map eQ) := rfl
  rw [seq_nx [.al (eM T), .al (.lst (qs.map eQ)), .al (.lst (vs.map eQ)), .no, .no, .no, .no] (by
    simp only [v_sAl, v_f2, v_fLst, v_fCons, v_fC, v_fNil, v_fA, v_fAl, List.getElem?_cons_zero, List.getElem?_cons_succ, Option.bind_some, ls, ad]
    rfl)]
  let I : Ev → Prop := fun ρ => ∃ a b c d, ρ = [.al (eM T), .al (.lst (qs.map eQ)), .al (.lst (vs.map eQ)), a, b, c, d]
  have main := sForL_all (G := gSq 2 (gCs (gN 3) (gCs (gN 4) gNl))) (F := L2_lies_in) (m := fun x : Rat × List Bd => D.tup [eQ x.1, eR x.2]) (p := fun x => rowB x.1 vs x.2) (out := .bl false) I (vs.zip T) [.al (eM T), .al (.lst (qs.map eQ)), .al (.lst (vs.map eQ)), .no, .no, .no, .no] ⟨_, _, _, _, rfl⟩ fun x hx ρ hI => by
    obtain ⟨p, row⟩ := x
    obtain ⟨a, b, c, d, rfl⟩ := hI
    have hp : BtQ 1000 p := hv p (List.of_mem_zip hx).1
    have hr : ∀ b ∈ row, BtB 4000 b := hT row (List.of_mem_zip hx).2
    refine ⟨[.al (eM T), .al (.lst (qs.map eQ)), .al (.lst (vs.map eQ)), .al (eQ p), .al (eR row), c, d], rfl, ?_⟩
    have inner := sForL_all (G := gSq 2 (gCs (gN 5) (gCs (gN 6) gNl))) (F := L1_lies_in) (m := fun x : Rat × Bd => D.tup [eQ x.1, eB x.2]) (p := fun x => keepsB (p - x.1) x.2) (out := .bl false)
      (fun ρ => ∃ c d, ρ = [.al (eM T), .al (.lst (qs.map eQ)), .al (.lst (vs.map eQ)), .al (eQ p), .al (eR row), c, d]) (vs.zip row) [.al (eM T), .al (.lst (qs.map eQ)), .al (.lst (vs.map eQ)), .al (eQ p), .al (eR row), c, d] ⟨_, _, rfl⟩ fun x hx ρ hI => by
        obtain ⟨q, b⟩ := x
        obtain ⟨c, d, rfl⟩ := hI
        have hq' : BtQ 1000 q := hv q (List.of_mem_zip hx).1
        have hb' : BtB 4000 b := hr b (List.of_mem_zip hx).2
        have m1 := minus_ok (hp.mono (show _ ≤ 4000 by decide)) (hq'.mono (show _ ≤ 4000 by decide))
        have k1 := keeps_ok (b := b) ((btQ_sub hp hq').mono (show _ ≤ 4000 by decide)) hb'
        refine ⟨[.al (eM T), .al (.lst (qs.map eQ)), .al (.lst (vs.map eQ)), .al (eQ p), .al (eR row), .al (eQ q), .al (eB b)], rfl, fun h => ⟨[.al (eM T), .al (.lst (qs.map eQ)), .al (.lst (vs.map eQ)), .al (eQ p), .al (eR row), .al (eQ q), .al (eB b)], ?_, _, _, rfl⟩, fun h => ?_⟩
        · have h : keepsB (p - q) b = true := h
          rw [h] at k1
          unfold L1_lies_in
          simp [m1, k1]
        · have h : keepsB (p - q) b = false := h
          rw [h] at k1
          unfold L1_lies_in
          simp [m1, k1]
    have ez : L2_lies_in [.al (eM T), .al (.lst (qs.map eQ)), .al (.lst (vs.map eQ)), .al (eQ p), .al (eR row), c, d] = sForL (gSq 2 (gCs (gN 5) (gCs (gN 6) gNl))) L1_lies_in ((vs.zip row).map fun x : Rat × Bd => D.tup [eQ x.1, eB x.2]) [.al (eM T), .al (.lst (qs.map eQ)), .al (.lst (vs.map eQ)), .al (eQ p), .al (eR row), c, d] := by
      unfold L2_lies_in
      rw [v_sFor, v_iZip (m := eQ) (r := eB) rfl rfl]
      rfl
    rw [ez]
    refine ⟨fun h => ?_, fun h => inner.2 h⟩
    obtain ⟨ρ', g1, c', d', g2⟩ := inner.1 h
    exact ⟨ρ', g1, _, _, _, _, g2⟩
  have ez : sFor (iZipD (fAl 2) (fAl 0)) (gSq 2 (gCs (gN 3) (gCs (gN 4) gNl))) L2_lies_in [.al (eM T), .al (.lst (qs.map eQ)), .al (.lst (vs.map eQ)), .no, .no, .no, .no] = sForL (gSq 2 (gCs (gN 3) (gCs (gN 4) gNl))) L2_lies_in ((vs.zip T).map fun x : Rat × List Bd => D.tup [eQ x.1, eR x.2]) [.al (eM T), .al (.lst (qs.map eQ)), .al (.lst (vs.map eQ)), .no, .no, .no, .no] := by
    rw [v_sFor, v_iZip (m := eQ) (r := eR) rfl rfl]
    rfl
  cases hL : liesB vs T with
  | true =>
    obtain ⟨ρ', g1, _⟩ := main.1 hL
    rw [seq_nx ρ' (by rw [ez]; exact g1)]
    rfl
  | false =>
    have g1 := main.2 hL
    rw [seq_rt (by rw [ez]; exact g1)]
    rfl
def openT (k : Nat) : Tb := List.replicate (k + 1) (List.replicate (k + 1) none)
theorem map_const {α β : Type} (x : β) : ∀ xs : List α, xs.map (fun _ => x) = List.replicate xs.length x
  | [] => rfl
  | _ :: xs => by rw [List.map_cons, map_const x xs]; rfl
theorem iR1_ok {f : Ev → Option (List D)} {ρ : Ev} {n : Nat} (h : f ρ = some [.int n]) (hn : n ≤ 2000) : iR1 f ρ = some ((List.range n).map fun i : Nat => D.int (0 + (i : Nat))) := by
  unfold iR1
  rw [h]
  show gd _ (some (rngL 0 (Int.toNat (n : Int)))) = _
  rw [gd_pos ⟨by omega, by omega⟩]
  rfl
theorem open_ok {k : Nat} (hk : k ≤ 1000) : f_open_table [.int k] = some (eM (openT k)) := by
  rw [e_open_table, F_open_table]
  have hn : ∀ ρ : Ev, ρ[0]? = some (.al (.int k)) → (fCons (f2 dAdd (fAl 0) (fC (.int 1))) fNil) ρ = some [.int ((k + 1 : Nat) : Int)] := fun ρ h => by
    rw [v_fCons, v_f2, v_fAl, h]
    simp
  have inner : ∀ a b : Sl, fComp (iR1 (fCons (f2 dAdd (fAl 0) (fC (.int 1))) fNil)) (gN 2) cYes (fC .non) [2] [.al (.int k), a, b] = some (eR (List.replicate (k + 1) none)) := fun a b => by
    have e := compL_map (G := gN 2) (c := cYes) (e := fC .non) (ρ := [.al (.int k), a, .no]) (m := fun i : Nat => D.int (0 + (i : Nat))) (r := fun _ => .non) (List.range (k + 1)) fun i _ => ⟨_, rfl, rfl, rfl⟩
    rw [map_const, List.length_range] at e
    have e2 : (eR (List.replicate (k + 1) none)) = .lst (List.replicate (k + 1) .non) := by unfold eR; rw [List.map_replicate]; rfl
    rw [e2]
    exact fComp_ok (iR1_ok (hn _ rfl) (by omega)) e (size2 _ (by rw [List.length_replicate]; omega))
  have e := compL_map (G := gN 1) (c := cYes) (e := fComp (iR1 (fCons (f2 dAdd (fAl 0) (fC (.int 1))) fNil)) (gN 2) cYes (fC .non) [2]) (ρ := [.al (.int k), .no, .no]) (m := fun i : Nat => D.int (0 + (i : Nat))) (r := fun _ => eR (List.replicate (k + 1) none)) (List.range (k + 1)) fun i _ => ⟨_, rfl, rfl, inner _ _⟩
  rw [map_const, List.length_range] at e
  have e2 : eM (openT k) = .lst (List.replicate (k + 1) (eR (List.replicate (k + 1) none))) := by unfold eM openT; rw [List.map_replicate]
  rw [v_sRet, fComp_ok (iR1_ok (hn _ rfl) (by omega)) e (size2 _ (by rw [List.length_replicate]; omega)), e2]
  rfl
theorem ixN_of {n j : Nat} (h : j < n) : ixN n (j : Int) = some j := by
  unfold ixN
  rw [if_pos (by omega), if_pos (by omega)]
  simp
def narrowB (T : Tb) (i j : Nat) (b : Bd) : Tb := match T[i]? with
  | some row => match row[j]? with
    | some c => if tightB b c then T.set i (row.set j b) else T
    | none => T
  | none => T
theorem dIx_at {xs : List D} {i : Nat} {d : D} (h : xs[i]? = some d) : dIx (.lst xs) (.int i) = some d := atI_nat h
theorem narrow_ok {T : Tb} {i j : Nat} {b c : Bd} {row : List Bd} (hl : T.length ≤ 2000) (h1 : T[i]? = some row) (h2 : row[j]? = some c) : f_narrowed [eM T, .int i, .int j, eB b] = some (eM (narrowB T i j b)) := by
  rw [e_narrowed, F_narrowed]
  have i1 : dIx (eM T) (.int i) = some (eR row) := dIx_at (by rw [List.getElem?_map, h1]; rfl)
  have i2 : dIx (eR row) (.int j) = some (eB c) := dIx_at (by rw [List.getElem?_map, h2]; rfl)
  have hi : i < T.length := (List.getElem?_eq_some_iff.mp h1).1
  have hj : j < row.length := (List.getElem?_eq_some_iff.mp h2).1
  rw [seq_nx [.al (eM T), .al (.int i), .al (.int j), .al (eB b), .ow (eM T), .no] (by
    rw [v_sOw, copy_ok (T := T) rfl hl (fun d => rfl)]
    rfl)]
  have tt := tighterB_ok b c
  unfold narrowB
  rw [h1]
  show _ = some (eM (match row[j]? with | some c => if tightB b c then T.set i (row.set j b) else T | none => T))
  rw [h2]
  show _ = some (eM (if tightB b c then T.set i (row.set j b) else T))
  have ct : (c1 dTru (fCall f_tighter [] (fCons (fAl 3) (fCons (f2 dIx (f2 dIx (fVar 4) (fAl 1)) (fAl 2)) fNil)))) [.al (eM T), .al (.int i), .al (.int j), .al (eB b), .ow (eM T), .no] = some (tightB b c) := by
    simp only [v_c1, v_fCall, v_fCons, v_fAl, v_fVar, v_f2, v_fNil, List.getElem?_cons_zero, List.getElem?_cons_succ, Option.bind_some, i1, i2, List.append_nil, tt, dTru_bl]
  cases h : tightB b c with
  | false =>
    rw [h] at ct
    rw [seq_nx [.al (eM T), .al (.int i), .al (.int j), .al (eB b), .ow (eM T), .no] (by rw [v_sIf, ct]; rfl)]
    rfl
  | true =>
    rw [h] at ct
    have g1 : (eM T).get [i] = some (eR row) := by
      unfold eM D.get
      rw [List.getElem?_map, h1]
      show (eR row).get [] = _
      rw [get_nil]
    have ixl : ixN (T.map eR).length (i : Int) = some i := ixN_of (by rw [List.length_map]; exact hi)
    have pe : pIx 4 (pNil 4) (fAl 1) [.al (eM T), .al (.int i), .al (.int j), .al (eB b), .ow (eM T), .no] = some [i] := by
      unfold pIx
      simp only [v_pNil, v_slotO, List.getElem?_cons_succ, List.getElem?_cons_zero, Option.bind_some, get_nil, v_fAl]
      show (ixN (T.map eR).length (i : Int)).bind _ = _
      rw [ixl]
      rfl
    have st : sSetItem 4 (pIx 4 (pNil 4) (fAl 1)) (fAl 2) (fImm (fAl 3)) [.al (eM T), .al (.int i), .al (.int j), .al (eB b), .ow (eM T), .no] = some (.nx [.al (eM T), .al (.int i), .al (.int j), .al (eB b), .ow (eM (T.set i (row.set j b))), .no]) := by
      unfold sSetItem
      rw [v_sMut, pe, v_slotO]
      show ((eM T).get [i]).bind _ = _
      rw [g1]
      have ixr : ixN (row.map eB).length (j : Int) = some j := ixN_of (by rw [List.length_map]; exact hj)
      have im : (fImm (fAl 3)) [.al (eM T), .al (.int i), .al (.int j), .al (eB b), .ow (eM T), .no] = some (eB b) := by
        rw [v_fImm, v_fAl]
        show (if (eB b).imm = true then some (eB b) else none) = _
        rw [eB_imm]
        rfl
      show Option.bind (Option.bind ((fImm (fAl 3)) [.al (eM T), .al (.int i), .al (.int j), .al (eB b), .ow (eM T), .no]) fun y => Option.bind (ixN (row.map eB).length (j : Int)) _) _ = _
      rw [im]
      show Option.bind (Option.bind (ixN (row.map eB).length (j : Int)) _) _ = _
      rw [ixr]
      have pu : (eM T).put [i] (.lst ((row.map eB).set j (eB b))) = eM (T.set i (row.set j b)) := by
        unfold eM D.put
        rw [List.getElem?_map, h1]
        show D.lst ((T.map eR).set i ((eR row).put [] _)) = _
        rw [put_nil, List.map_set]
        unfold eR
        rw [List.map_set]
      show some (Out.nx [.al (eM T), .al (.int i), .al (.int j), .al (eB b), .ow ((eM T).put [i] (.lst ((row.map eB).set j (eB b)))), .no]) = _
      rw [pu]
    rw [seq_nx _ (by rw [v_sIf, ct]; exact st)]
    rfl
theorem lies_iff {vs : List Rat} {T : Tb} : liesB vs T = true ↔ ∀ (i j : Nat) (p q : Rat) (row : List Bd) (c : Bd), vs[i]? = some p → vs[j]? = some q → T[i]? = some row → row[j]? = some c → keepsB (p - q) c = true := by
  unfold liesB rowB
  rw [List.all_eq_true]
  constructor
  · intro h i j p q row c h1 h2 h3 h4
    have m1 : (p, row) ∈ vs.zip T := List.mem_iff_getElem?.mpr ⟨i, List.getElem?_zip_eq_some.mpr ⟨h1, h3⟩⟩
    have h5 := List.all_eq_true.mp (h _ m1)
    exact h5 (q, c) (List.mem_iff_getElem?.mpr ⟨j, List.getElem?_zip_eq_some.mpr ⟨h2, h4⟩⟩)
  · rintro h ⟨p, row⟩ m1
    rw [List.all_eq_true]
    rintro ⟨q, c⟩ m2
    obtain ⟨i, h1⟩ := List.mem_iff_getElem?.mp m1
    obtain ⟨j, h2⟩ := List.mem_iff_getElem?.mp m2
    obtain ⟨a1, a2⟩ := List.getElem?_zip_eq_some.mp h1
    obtain ⟨b1, b2⟩ := List.getElem?_zip_eq_some.mp h2
    exact h i j p q row c a1 b1 a2 b2
theorem lies_narrow {vs : List Rat} {T : Tb} {i j : Nat} {b c : Bd} {row : List Bd} {p q : Rat} (h1 : T[i]? = some row) (h2 : row[j]? = some c) (hp : vs[i]? = some p) (hq : vs[j]? = some q) : liesB vs (narrowB T i j b) = (liesB vs T && keepsB (p - q) b) := by
  have hi : i < T.length := (List.getElem?_eq_some_iff.mp h1).1
  have hj : j < row.length := (List.getElem?_eq_some_iff.mp h2).1
  have e : narrowB T i j b = if tightB b c then T.set i (row.set j b) else T := by
    unfold narrowB
    rw [h1]
    show (match row[j]? with | some c => if tightB b c then T.set i (row.set j b) else T | none => T) = _
    rw [h2]
  rw [e, Bool.eq_iff_iff, Bool.and_eq_true]
  cases ht : tightB b c with
  | false =>
    rw [if_neg Bool.false_ne_true]
    exact ⟨fun h => ⟨h, loose_keeps ht (lies_iff.mp h i j p q row c hp hq h1 h2)⟩, fun h => h.1⟩
  | true =>
    rw [if_pos rfl, lies_iff, lies_iff]
    constructor
    · intro h
      have kb : keepsB (p - q) b = true := h i j p q (row.set j b) b hp hq (List.getElem?_set_self hi) (List.getElem?_set_self hj)
      refine ⟨fun i' j' p' q' row' c' g1 g2 g3 g4 => ?_, kb⟩
      by_cases ei : i = i'
      · subst ei
        rw [h1] at g3
        cases g3
        by_cases ej : j = j'
        · subst ej
          rw [h2] at g4
          cases g4
          rw [hp] at g1
          rw [hq] at g2
          cases g1
          cases g2
          exact tight_keeps ht kb
        · exact h i j' p' q' (row.set j b) c' g1 g2 (List.getElem?_set_self hi) (by rw [List.getElem?_set_ne ej]; exact g4)
      · exact h i' j' p' q' row' c' g1 g2 (by rw [List.getElem?_set_ne ei]; exact g3) g4
    · rintro ⟨h, kb⟩ i' j' p' q' row' c' g1 g2 g3 g4
      by_cases ei : i = i'
      · subst ei
        rw [List.getElem?_set_self hi] at g3
        cases g3
        by_cases ej : j = j'
        · subst ej
          rw [List.getElem?_set_self hj] at g4
          cases g4
          rw [hp] at g1
          rw [hq] at g2
          cases g1
          cases g2
          exact kb
        · rw [List.getElem?_set_ne ej] at g4
          exact h i j' p' q' row c' g1 g2 h1 g4
      · rw [List.getElem?_set_ne ei] at g3
        exact h i' j' p' q' row' c' g1 g2 g3 g4
end Mt
namespace Mt
open PySem PySem.Spec PyProof.Rows L2 Z G
theorem gcd_loop2 (c0 c1 : Sl) (n : Nat) : ∀ (a b : Nat), b ≤ n → sWhile (c2 dGt (fAl 3) (fC (.int 0))) L1__law_lowest_v2 [c0, c1, .al (.int a), .al (.int b)] = some (.nx [c0, c1, .al (.int (Nat.gcd a b)), .al (.int 0)]) := by
  induction n with
  | zero =>
    intro a b h
    have e : b = 0 := by omega
    subst e
    rw [sWhile_end (by simp)]
    simp
  | succ n ih =>
    intro a b h
    by_cases hb : b = 0
    · subst hb
      rw [sWhile_end (by simp)]
      simp
    · refine sWhile_step (ρ' := [c0, c1, .al (.int b), .al (.int (a % b : Nat))]) (by simp; omega) ?_ ?_
      · unfold L1__law_lowest_v2
        simp [dMod_ok (i := (a : Int)) (j := (b : Int)) (by omega)]
      · have hlt := Nat.mod_lt a (Nat.pos_of_ne_zero hb)
        rw [ih b (a % b) (by omega)]
        rw [Nat.gcd_comm a b, Nat.gcd_rec b a, Nat.gcd_comm (a % b) b]
theorem lowest2_ok {a b : Int} (h : 0 < b) (hb : Bt 9000 b) : f__law_lowest_v2 [.int a, .int b] = some (eQ (Rat.divInt a b)) := by
  rw [e__law_lowest_v2, F__law_lowest_v2]
  obtain ⟨n, rfl⟩ := Int.eq_ofNat_of_zero_le (Int.le_of_lt h)
  obtain ⟨h1, h2⟩ := frac_pos (a := a) (n := n) (by omega) hb
  rw [seq_nx [.al (.int a), .al (.int n), .al (.int a.natAbs), .no] (by simp)]
  rw [seq_nx [.al (.int a), .al (.int n), .al (.int a.natAbs), .al (.int n)] (by simp)]
  rw [seq_nx _ (gcd_loop2 _ _ n a.natAbs n (Nat.le_refl _))]
  simp only [v_sRet, v_fTup, v_fCons, v_f2, v_fAl, v_fNil, List.getElem?_cons_zero, List.getElem?_cons_succ, Option.bind_some, h1, h2]
  rfl
theorem less2_ok {p q : Rat} (hp : BtQ 4000 p) (hq : BtQ 4000 q) : f__law_less_v2 [eQ p, eQ q] = some (.tup [.int (p.num * q.den - q.num * p.den), .int (p.den * q.den)]) := by
  rw [e__law_less_v2, F__law_less_v2]
  simp [dMul_ok hp.1 hq.2, dMul_ok hq.1 hp.2, dMul_ok hp.2 hq.2]
theorem divInt_diff (p q : Rat) : Rat.divInt (p.num * q.den - q.num * p.den) (p.den * q.den) = p - q := by
  have := Rat.divInt_sub_divInt p.num q.num (d₁ := p.den) (d₂ := q.den) (by have := p.den_nz; omega) (by have := q.den_nz; omega)
  rw [Rat.num_divInt_den, Rat.num_divInt_den] at this
  exact this.symm
theorem dvd_lt {x b n : Int} (h : 0 < b) : (Rat.divInt x b < (n : Rat)) ↔ x < n * b := by
  rw [Rat.divInt_eq_div, Rat.div_lt_iff (by exact_mod_cast h), ← Rat.intCast_mul, Rat.intCast_lt_intCast]
theorem dvd_gt {x b n : Int} (h : 0 < b) : ((n : Rat) < Rat.divInt x b) ↔ n * b < x := by
  rw [Rat.divInt_eq_div, Rat.lt_div_iff (by exact_mod_cast h), ← Rat.intCast_mul, Rat.intCast_lt_intCast]
theorem dvd_le {x b n : Int} (h : 0 < b) : (Rat.divInt x b ≤ (n : Rat)) ↔ x ≤ n * b := by
  have e : (Rat.divInt x b ≤ (n : Rat)) ↔ ¬ (n : Rat) < Rat.divInt x b := Rat.not_lt.symm
  rw [e, dvd_gt h]
  omega
theorem lkeeps3_ok {t d : Int} {b : Bd} (hd : 0 < d) (bd : Bt 8001 d) (hb : BtB 4000 b) : f__law_keeps_v3 [.tup [.int t, .int d], eB b] = some (.bl (keepsB (Rat.divInt t d) b)) := by
  rw [e__law_keeps_v3, F__law_keeps_v3]
  cases b with
  | none => simp [keepsB]
  | some p =>
    obtain ⟨n, s⟩ := p
    have h1 := dMul_ok (n := 4000) (m := 8001) (i := n) (j := d) hb bd
    by_cases h3 : t < n * d
    · have h4 : t ≤ n * d := by omega
      cases s <;> simp [keepsB, h1, dvd_lt hd, dvd_le hd, h3, h4]
    · by_cases h5 : t = n * d
      · have h6 : (t == n * d) = true := by simp [h5]
        have h4 : t ≤ n * d := by omega
        cases s <;> simp [keepsB, h1, dvd_lt hd, dvd_le hd, h3, h4, h6]
      · have h6 : (t == n * d) = false := by simpa using h5
        have h4 : ¬ t ≤ n * d := by omega
        cases s <;> simp [keepsB, h1, dvd_lt hd, dvd_le hd, h3, h4, h6]
theorem mixed_ok {c : Int} {k : Nat} (hc : Bt 1048600 c) (hk : k < 1000000) : ∃ n : Nat, f__law_mixed [.int c, .int k] = some (.int n) ∧ n < 2147483629 := by
  rw [e__law_mixed, F__law_mixed]
  have bk : Bt 20 (k : Int) := show (k : Int).natAbs < 2 ^ 20 by omega
  have m1 := dMul_ok (n := 1048600) (m := 20) (i := c) (j := 48271) hc (by decide) (by decide)
  have m2 := dMul_ok (n := 20) (m := 20) bk bk
  have m3 := dMul_ok (n := 40) (m := 20) (i := (k : Int) * k) (j := 69621) (bk.mul bk) (by decide)
  have m4 := dMul_ok (n := 4) (m := 20) (i := 7) (j := (k : Int)) (by decide) bk
  generalize ht : c * 48271 + (k : Int) * k * 69621 + 7 * k + 11 = t
  have m5 : dMod (.int t) (.int 2147483647) = some (.int (t % 2147483647)) := mod_ok _ (by decide)
  have a0 := Int.emod_nonneg t (show (2147483647 : Int) ≠ 0 by decide)
  have a1 := Int.emod_lt_of_pos t (show (0 : Int) < 2147483647 by decide)
  have bs : Bt 40 (t % 2147483647) := show (t % 2147483647).natAbs < 2 ^ 40 by omega
  have m6 := dMul_ok (n := 40) (m := 40) bs bs
  have m7 : dMod (.int (t % 2147483647 * (t % 2147483647))) (.int 2147483629) = some (.int (t % 2147483647 * (t % 2147483647) % 2147483629)) := mod_ok _ (by decide)
  have b0 := Int.emod_nonneg (t % 2147483647 * (t % 2147483647)) (show (2147483629 : Int) ≠ 0 by decide)
  have b1 := Int.emod_lt_of_pos (t % 2147483647 * (t % 2147483647)) (show (0 : Int) < 2147483629 by decide)
  refine ⟨(t % 2147483647 * (t % 2147483647) % 2147483629).toNat, ?_, by omega⟩
  have en : (((t % 2147483647 * (t % 2147483647) % 2147483629).toNat : Nat) : Int) = t % 2147483647 * (t % 2147483647) % 2147483629 := by omega
  rw [en]
  rw [seq_nx [.al (.int c), .al (.int k), .al (.int (t % 2147483647))] (by
    simp only [v_sAl, v_f2, v_fAl, v_fC, List.getElem?_cons_zero, List.getElem?_cons_succ, Option.bind_some, m1, m2, m3, m4, dAdd_int, ht, m5, List.set_cons_zero, List.set_cons_succ])]
  simp only [v_sRet, v_f2, v_fAl, v_fC, List.getElem?_cons_zero, List.getElem?_cons_succ, Option.bind_some, m6, m7]
  rfl
theorem part4_ok (c : Int) : ∃ q, f__law_part_v4 [.int c] = some (eQ q) ∧ BtQ 300 q := by
  rw [e__law_part_v4, F__law_part_v4]
  obtain ⟨T, eT, hT, bT, p1⟩ := ten_pow 45 (by decide)
  have p1' : dPow (.int 10) (.int 45) = some (.int T) := p1
  have p2 : dMul (.int 2) (.int T) = some (.int (2 * T)) := dMul_ok (n := 2) (by decide) bT (by decide)
  have m8 : dMod (.int c) (.int 8) = some (.int (c % 8)) := mod_ok _ (by decide)
  have d8 : dDiv (.int c) (.int 8) = some (.int (c / 8)) := div_ok _ (by decide) (by decide)
  by_cases h5 : c % 8 = 5
  · have a0 := Int.emod_nonneg (c / 8) (show (2 * T + 1 : Int) ≠ 0 by omega)
    have a1 := Int.emod_lt_of_pos (c / 8) (show (0 : Int) < 2 * T + 1 by omega)
    have b0 := Int.emod_nonneg c (show (9973 : Int) ≠ 0 by decide)
    have b1 := Int.emod_lt_of_pos c (show (0 : Int) < 9973 by decide)
    have mT : dMod (.int (c / 8)) (.int (2 * T + 1)) = some (.int (c / 8 % (2 * T + 1))) := mod_ok _ (by omega)
    have m9 : dMod (.int c) (.int 9973) = some (.int (c % 9973)) := mod_ok _ (by decide)
    have bW : Bt 20 (1 + c % 9973) := show (1 + c % 9973).natAbs < 2 ^ 20 by omega
    have l1 := lowest2_ok (a := c / 8 % (2 * T + 1) - T) (b := 1 + c % 9973) (by omega) (bW.mono (by decide))
    refine ⟨Rat.divInt (c / 8 % (2 * T + 1) - T) (1 + c % 9973), by simp [m8, d8, h5, p1', p2, mT, m9, l1], divInt_btQ (by omega) ((bT.le (show (c / 8 % (2 * T + 1) - T).natAbs ≤ T.natAbs by omega)).mono (by decide)) (bW.mono (by decide))⟩
  · have h5' : (c % 8 == 5) = false := by simpa using h5
    have a0 := Int.emod_nonneg (c / 48) (show (41 : Int) ≠ 0 by decide)
    have a1 := Int.emod_lt_of_pos (c / 48) (show (0 : Int) < 41 by decide)
    have b0 := Int.emod_nonneg (c / 8) (show (6 : Int) ≠ 0 by decide)
    have b1 := Int.emod_lt_of_pos (c / 8) (show (0 : Int) < 6 by decide)
    have d48 : dDiv (.int c) (.int 48) = some (.int (c / 48)) := div_ok _ (by decide) (by decide)
    have m41 : dMod (.int (c / 48)) (.int 41) = some (.int (c / 48 % 41)) := mod_ok _ (by decide)
    have m6 : dMod (.int (c / 8)) (.int 6) = some (.int (c / 8 % 6)) := mod_ok _ (by decide)
    have bW : Bt 10 (1 + c / 8 % 6) := show (1 + c / 8 % 6).natAbs < 2 ^ 10 by omega
    have bN : Bt 10 (c / 48 % 41 - 20) := show (c / 48 % 41 - 20).natAbs < 2 ^ 10 by omega
    have l1 := lowest2_ok (a := c / 48 % 41 - 20) (b := 1 + c / 8 % 6) (by omega) (bW.mono (by decide))
    exact ⟨_, by simp [m8, d8, h5', d48, m41, m6, l1], divInt_btQ (by omega) (bN.mono (by decide)) (bW.mono (by decide))⟩
end Mt
namespace Mt
open PySem PySem.Spec PyProof.Rows L2 Z G
theorem seq_ok {F G : FS} {ρ ρ1 : Ev} {o : Option Out} (h : F ρ = some (.nx ρ1)) (h2 : G ρ1 = o) : sSeq F G ρ = o := by rw [seq_nx _ h, h2]
theorem eM_at {T : Tb} {row : List Bd} : (eM (T ++ [row])).get [T.length] = some (eR row) := by
  unfold eM D.get
  rw [List.getElem?_map]
  simp
theorem app_at {ρ : Ev} {t : Nat} {fi : FE} {j : Ev → Option (List D)} {T : Tb} {row : List Bd} {b : Bd} (ht : ρ[t]? = some (.ow (eM (T ++ [row])))) (hi : fi ρ = some (.int T.length)) (hj : j ρ = some [eB b]) (hl : row.length ≤ 1000) :
    sAppend t (pIx t (pNil t) fi) j ρ = some (.nx (ρ.set t (.ow (eM (T ++ [row ++ [b]]))))) := by
  have ixl : ixN ((T ++ [row]).map eR).length (T.length : Int) = some T.length := ixN_of (by simp)
  have pe : pIx t (pNil t) fi ρ = some [T.length] := by
    unfold pIx
    rw [v_pNil, v_slotO, ht]
    simp only [Option.bind_some, get_nil, hi]
    show (ixN ((T ++ [row]).map eR).length (T.length : Int)).bind _ = _
    rw [ixl]
    rfl
  rw [v_sAppend, v_sMut, pe, v_slotO, ht]
  simp only [Option.bind_some, eM_at]
  have e : gAppend (fun ρ => (j ρ).bind fun ds => match ds with | [y] => some y | _ => none) ρ (row.map eB) = some (row.map eB ++ [eB b]) := by
    show Option.bind (Option.bind (j ρ) _) _ = _
    rw [hj]
    show gd ((row.map eB).length < sizeLine) (some (row.map eB ++ [eB b])) = _
    rw [gd_pos (Nat.lt_of_le_of_lt (by rw [List.length_map]; exact hl) (show 1000 < sizeLine by decide))]
  refine Eq.trans (congrArg (fun z => Option.bind z _) e) ?_
  have pu : (eM (T ++ [row])).put [T.length] (.lst (row.map eB ++ [eB b])) = eM (T ++ [row ++ [b]]) := by
    unfold eM D.put
    rw [List.getElem?_map]
    simp [put_nil, eR]
  show some (Out.nx (putD ρ t ((eM (T ++ [row])).put [T.length] (.lst (row.map eB ++ [eB b]))))) = _
  rw [putD_ow ht, pu]
theorem app_row {ρ : Ev} {t : Nat} {T : Tb} (ht : ρ[t]? = some (.ow (eM T))) (hl : T.length ≤ 1000) : sAppend t (pNil t) (fCons (fLst fNil) fNil) ρ = some (.nx (ρ.set t (.ow (eM (T ++ [[]]))))) := by
  rw [app_nil (y := .lst []) ht (by simp) (Nat.lt_of_le_of_lt (by rw [List.length_map]; exact hl) (show 1000 < sizeLine by decide))]
  unfold eM
  rw [List.map_append]
  rfl
theorem grow_ok {gI gJ : Ev → Option (List D)} {L1 : FS} {t oi oj n : Nat} (P : Nat → Nat → Bd → Prop) (J : Tb → Ev → Prop) (K : Tb → List Bd → Ev → Prop) (hn : n ≤ 1000)
    (hA : ∀ T ρ, J T ρ → T.length < n → (ρ.set oi (.al (.int T.length)))[t]? = some (.ow (eM T)) ∧ K T [] ((ρ.set oi (.al (.int T.length))).set t (.ow (eM (T ++ [[]])))))
    (hJ : ∀ T ρ, K T [] ρ → gJ ρ = some ((List.range n).map fun i : Nat => D.int (0 + (i : Nat))))
    (hB : ∀ T row ρ, T.length < n → K T row ρ → row.length < n → ∃ ρ' b, L1 (ρ.set oj (.al (.int row.length))) = some (.nx ρ') ∧ K T (row ++ [b]) ρ' ∧ P T.length row.length b)
    (hC : ∀ T row ρ, K T row ρ → row.length = n → J (T ++ [row]) ρ)
    (hI : ∀ ρ, J [] ρ → gI ρ = some ((List.range n).map fun i : Nat => D.int (0 + (i : Nat)))) {ρ : Ev} (h : J [] ρ) :
    ∃ ρ' T, sFor gI (gN oi) (sSeq (sAppend t (pNil t) (fCons (fLst fNil) fNil)) (sFor gJ (gN oj) L1)) ρ = some (.nx ρ') ∧ J T ρ' ∧ T.length = n ∧ ∀ (i : Nat) r, T[i]? = some r → r.length = n ∧ ∀ (j : Nat) b, r[j]? = some b → P i j b := by
  have inner : ∀ (m : Nat) (T : Tb) (row : List Bd) (ρ : Ev), T.length < n → K T row ρ → row.length + m = n → (∀ (j : Nat) b, row[j]? = some b → P T.length j b) →
      ∃ ρ' row', sForL (gN oj) L1 ((List.range' row.length m).map fun i : Nat => D.int (0 + (i : Nat))) ρ = some (.nx ρ') ∧ K T row' ρ' ∧ row'.length = n ∧ ∀ (j : Nat) b, row'[j]? = some b → P T.length j b := by
    intro m
    induction m with
    | zero => exact fun T row ρ _ hk hl hp => ⟨ρ, row, rfl, hk, by omega, hp⟩
    | succ m ih =>
      intro T row ρ hT hk hl hp
      obtain ⟨ρ1, b, h1, h2, h3⟩ := hB T row ρ hT hk (by omega)
      obtain ⟨ρ2, row', h4, h5, h6, h7⟩ := ih T (row ++ [b]) ρ1 hT h2 (by simp; omega) (fun j c hc => by
        by_cases hj : j < row.length
        · rw [List.getElem?_append_left hj] at hc
          exact hp j c hc
        · by_cases hj2 : j = row.length
          · subst hj2
            simp at hc
            exact hc ▸ h3
          · have := (List.getElem?_eq_some_iff.mp hc).1
            simp at this
            omega)
      refine ⟨ρ2, row', ?_, h5, h6, h7⟩
      rw [List.range'_succ, List.map_cons, v_sForL1, v_gN, Int.zero_add]
      show (L1 (ρ.set oj (.al (.int row.length)))).bind _ = _
      rw [h1]
      have e : (row ++ [b]).length = row.length + 1 := by simp
      rw [e] at h4
      exact h4
  have outer : ∀ (m : Nat) (T : Tb) (ρ : Ev), J T ρ → T.length + m = n → (∀ (i : Nat) r, T[i]? = some r → r.length = n ∧ ∀ (j : Nat) b, r[j]? = some b → P i j b) →
      ∃ ρ' T', sForL (gN oi) (sSeq (sAppend t (pNil t) (fCons (fLst fNil) fNil)) (sFor gJ (gN oj) L1)) ((List.range' T.length m).map fun i : Nat => D.int (0 + (i : Nat))) ρ = some (.nx ρ') ∧ J T' ρ' ∧ T'.length = n ∧ ∀ (i : Nat) r, T'[i]? = some r → r.length = n ∧ ∀ (j : Nat) b, r[j]? = some b → P i j b := by
    intro m
    induction m with
    | zero => exact fun T ρ hk hl hp => ⟨ρ, T, rfl, hk, by omega, hp⟩
    | succ m ih =>
      intro T ρ hk hl hp
      obtain ⟨a1, a2⟩ := hA T ρ hk (by omega)
      obtain ⟨ρ1, row, h1, h2, h3, h4⟩ := inner n T [] _ (by omega) a2 (by simp) (fun j b hb => by simp at hb)
      obtain ⟨ρ2, T', h5, h6, h7, h8⟩ := ih (T ++ [row]) ρ1 (hC T row ρ1 h2 h3) (by simp; omega) (fun i r hr => by
        by_cases hj : i < T.length
        · rw [List.getElem?_append_left hj] at hr
          exact hp i r hr
        · by_cases hj2 : i = T.length
          · subst hj2
            simp at hr
            exact hr ▸ ⟨h3, h4⟩
          · have := (List.getElem?_eq_some_iff.mp hr).1
            simp at this
            omega)
      refine ⟨ρ2, T', ?_, h6, h7, h8⟩
      rw [List.range'_succ, List.map_cons, v_sForL1, v_gN, Int.zero_add]
      show (sSeq _ _ (ρ.set oi (.al (.int T.length)))).bind _ = _
      rw [seq_nx _ (app_row a1 (by omega)), v_sFor, hJ _ _ a2]
      rw [List.length_nil] at h1
      rw [List.range_eq_range']
      show (sForL (gN oj) L1 ((List.range' 0 n).map fun i : Nat => D.int (0 + (i : Nat))) _).bind _ = _
      rw [h1]
      have e : (T ++ [row]).length = T.length + 1 := by simp
      rw [e] at h5
      exact h5
  obtain ⟨ρ', T, h1, h2, h3, h4⟩ := outer n [] ρ h (by simp) (fun i r hr => by simp at hr)
  refine ⟨ρ', T, ?_, h2, h3, h4⟩
  rw [v_sFor, hI ρ h, List.range_eq_range']
  rw [List.length_nil] at h1
  exact h1
structure Sq (n w : Nat) (T : Tb) : Prop where
  len : T.length = n
  row : ∀ r ∈ T, r.length = n
  bt : BtT w T
theorem sq_of {n w : Nat} {T : Tb} {P : Nat → Nat → Bd → Prop} (h1 : T.length = n) (h2 : ∀ (i : Nat) r, T[i]? = some r → r.length = n ∧ ∀ (j : Nat) b, r[j]? = some b → P i j b) (h3 : ∀ i j b, P i j b → BtB w b) : Sq n w T :=
  ⟨h1, fun r hr => by obtain ⟨i, hi⟩ := List.mem_iff_getElem?.mp hr; exact (h2 i r hi).1, fun r hr b hb => by
    obtain ⟨i, hi⟩ := List.mem_iff_getElem?.mp hr
    obtain ⟨j, hj⟩ := List.mem_iff_getElem?.mp hb
    exact h3 i j b ((h2 i r hi).2 j b hj)⟩
theorem dIn_two (c : Int) : dIn (.int c) (.tup [.int 0, .int (-1)]) = some (decide (c = 0 ∨ c = -1)) := by
  show some (((0 : Int) == c) || (((-1 : Int) == c) || false)) = _
  congr 1
  rw [Bool.eq_iff_iff]
  simp
  omega
theorem tri_ix {x : D} {n : Nat} : dIx (.lst [.int 0, .int 0, x]) (.int ((n : Int) % 3)) = some (if n % 3 = 2 then x else .int 0) := by
  have h : n % 3 = 0 ∨ n % 3 = 1 ∨ n % 3 = 2 := by omega
  rcases h with h | h | h
  · have e : (n : Int) % 3 = 0 := by omega
    rw [e, h]; simp
  · have e : (n : Int) % 3 = 1 := by omega
    rw [e, h]; simp
  · have e : (n : Int) % 3 = 2 := by omega
    rw [e, h]; simp
theorem any_table_ok {s m : Int} {k : Nat} (hs : Bt 1048600 s) (hk : k ≤ 40) (hm : 0 ≤ m) (bm : Bt 300 m) : ∃ T, f__law_any_table [.int s, .int k, .int m] = some (eM T) ∧ Sq (k + 1) 310 T := by
  rw [e__law_any_table, F__law_any_table]
  have m4 : dMul (.int 4) (.int m) = some (.int (4 * m)) := dMul_ok (n := 4) (m := 300) (by decide) bm (by decide)
  have b4 : Bt 310 (4 * m + 3) := (((Bt.mul (n := 4) (m := 300) (i := 4) (by decide) bm).mono (show 304 ≤ 305 by decide)).add (Bt.mono (n := 4) (m := 305) (i := 3) (by decide) (by decide))).mono (by decide)
  have rg : ∀ ρ : Ev, ρ[1]? = some (.al (.int k)) → iR1 (fCons (f2 dAdd (fAl 1) (fC (.int 1))) fNil) ρ = some ((List.range (k + 1)).map fun i : Nat => D.int (0 + (i : Nat))) := fun ρ h => iR1_ok (by rw [v_fCons, v_f2, v_fAl, h]; simp) (by omega)
  rw [seq_nx [.al (.int s), .al (.int k), .al (.int m), .al (.int s), .no, .no, .no, .no, .no, .no] (by simp)]
  rw [seq_nx [.al (.int s), .al (.int k), .al (.int m), .al (.int s), .ow (eM []), .no, .no, .no, .no, .no] (by simp [eM])]
  obtain ⟨ρ', T, h1, ⟨c, s5, s6, s7, s8, s9, rfl, _⟩, h3, h4⟩ := grow_ok (t := 4) (oi := 5) (oj := 6) (n := k + 1) (gI := iR1 (fCons (f2 dAdd (fAl 1) (fC (.int 1))) fNil)) (gJ := iR1 (fCons (f2 dAdd (fAl 1) (fC (.int 1))) fNil)) (L1 := L1__law_any_table) (fun _ _ b => BtB 310 b)
    (fun T ρ => ∃ c s5 s6 s7 s8 s9, ρ = [.al (.int s), .al (.int k), .al (.int m), .al (.int c), .ow (eM T), s5, s6, s7, s8, s9] ∧ Bt 1048600 c)
    (fun T row ρ => ∃ c s6 s7 s8 s9, ρ = [.al (.int s), .al (.int k), .al (.int m), .al (.int c), .ow (eM (T ++ [row])), .al (.int T.length), s6, s7, s8, s9] ∧ Bt 1048600 c) (by omega)
    (fun T ρ ⟨c, s5, s6, s7, s8, s9, e, hc⟩ _ => by subst e; exact ⟨rfl, c, s6, s7, s8, s9, rfl, hc⟩)
    (fun T ρ ⟨c, s6, s7, s8, s9, e, hc⟩ => by subst e; exact rg _ rfl)
    (fun T row ρ hT ⟨c, s6, s7, s8, s9, e, hc⟩ hl => by
      subst e
      have mc : dMod (.int c) (.int (4 * m + 3)) = some (.int (c % (4 * m + 3))) := mod_ok _ (by omega)
      have dc : dDiv (.int c) (.int (4 * m + 3)) = some (.int (c / (4 * m + 3))) := dDiv_ok (n := 310) (by omega) b4
      have bc : Bt 1048600 (c / (4 * m + 3)) := hc.le (Int.natAbs_ediv_le_natAbs _ _)
      have c0 := Int.emod_nonneg c (show (4 * m + 3) ≠ 0 by omega)
      have c1 := Int.emod_lt_of_pos c (show 0 < 4 * m + 3 by omega)
      obtain ⟨w, w1, w2⟩ := mixed_ok (k := 9 * T.length + row.length) hs (by omega)
      have wk : ((9 * T.length + row.length : Nat) : Int) = 9 * (T.length : Int) + row.length := by omega
      rw [wk] at w1
      have m9 : dMul (.int 9) (.int T.length) = some (.int (9 * (T.length : Int))) := dMul_ok (n := 4) (m := 20) (by decide) (show (T.length : Int).natAbs < 2 ^ 20 by omega) (by decide)
      have dw : dDiv (.int w) (.int 3) = some (.int ((w : Int) / 3)) := div_ok _ (by decide) (by decide)
      have mw : dMod (.int ((w : Int) / 3)) (.int (4 * m + 2)) = some (.int ((w : Int) / 3 % (4 * m + 2))) := mod_ok _ (by omega)
      have m3 : dMod (.int w) (.int 3) = some (.int ((w : Int) % 3)) := mod_ok _ (by decide)
      have q0 := Int.emod_nonneg ((w : Int) / 3) (show (4 * m + 2) ≠ 0 by omega)
      have q1 := Int.emod_lt_of_pos ((w : Int) / 3) (show 0 < 4 * m + 2 by omega)
      obtain ⟨g, s8', g0, g1, gd⟩ : ∃ (g : Int) (s8' : Sl), 0 ≤ g ∧ g ≤ 4 * m + 2 ∧ ∀ G : FS, sSeq (sAl 7 (f2 dMod (fAl 3) (f2 dAdd (f2 dMul (fC (.int 4)) (fAl 2)) (fC (.int 3))))) (sSeq (sIf (c2 dIn (fAl 3) (fTup (fCons (fC (.int 0)) (fCons (f1 dNeg (fC (.int 1))) fNil)))) (sSeq (sAl 8 (fCall f__law_mixed [] (fCons (fAl 0) (fCons (f2 dAdd (f2 dMul (fC (.int 9)) (fAl 5)) (fAl 6)) fNil))))
  (sAl 7 (f2 dIx (fLst (fCons (fC (.int 0)) (fCons (fC (.int 0)) (fCons (f2 dAdd (fC (.int 1)) (f2 dMod (f2 dDiv (fAl 8) (fC (.int 3))) (f2 dAdd (f2 dMul (fC (.int 4)) (fAl 2)) (fC (.int 2))))) fNil)))) (f2 dMod (fAl 8) (fC (.int 3)))))) sNext) G)
          [.al (.int s), .al (.int k), .al (.int m), .al (.int c), .ow (eM (T ++ [row])), .al (.int T.length), .al (.int row.length), s7, s8, s9] =
          G [.al (.int s), .al (.int k), .al (.int m), .al (.int c), .ow (eM (T ++ [row])), .al (.int T.length), .al (.int row.length), .al (.int g), s8', s9] := by
        by_cases hz : c = 0 ∨ c = -1
        · refine ⟨if w % 3 = 2 then 1 + (w : Int) / 3 % (4 * m + 2) else 0, .al (.int w), by split <;> omega, by split <;> omega, fun G => ?_⟩
          rw [seq_nx [.al (.int s), .al (.int k), .al (.int m), .al (.int c), .ow (eM (T ++ [row])), .al (.int T.length), .al (.int row.length), .al (.int (c % (4 * m + 3))), s8, s9] (by simp [m4, mc])]
          have tx := tri_ix (x := .int (1 + (w : Int) / 3 % (4 * m + 2))) (n := w)
          refine seq_ok (ρ1 := [.al (.int s), .al (.int k), .al (.int m), .al (.int c), .ow (eM (T ++ [row])), .al (.int T.length), .al (.int row.length), .al (.int (if w % 3 = 2 then 1 + (w : Int) / 3 % (4 * m + 2) else 0)), .al (.int w), s9]) ?_ rfl
          rw [v_sIf]
          have ci : c2 dIn (fAl 3) (fTup (fCons (fC (.int 0)) (fCons (f1 dNeg (fC (.int 1))) fNil))) [.al (.int s), .al (.int k), .al (.int m), .al (.int c), .ow (eM (T ++ [row])), .al (.int T.length), .al (.int row.length), .al (.int (c % (4 * m + 3))), s8, s9] = some true := by
            simp only [v_c2, v_fAl, v_fTup, v_fCons, v_fC, v_f1, v_fNil, List.getElem?_cons_zero, List.getElem?_cons_succ, Option.bind_some, dNeg_int, dIn_two]
            rw [decide_eq_true hz]
          rw [ci]
          show sSeq _ _ _ = _
          rw [seq_nx [.al (.int s), .al (.int k), .al (.int m), .al (.int c), .ow (eM (T ++ [row])), .al (.int T.length), .al (.int row.length), .al (.int (c % (4 * m + 3))), .al (.int w), s9] (by simp [m9, w1])]
          simp only [v_sAl, v_f2, v_fLst, v_fCons, v_fC, v_fNil, v_fAl, List.getElem?_cons_zero, List.getElem?_cons_succ, Option.bind_some, dw, m4, dAdd_int, mw, m3, tx, List.set_cons_zero, List.set_cons_succ]
          by_cases h2 : w % 3 = 2
          · rw [if_pos h2, if_pos h2]
          · rw [if_neg h2, if_neg h2]
        · refine ⟨c % (4 * m + 3), s8, c0, by omega, fun G => ?_⟩
          rw [seq_nx [.al (.int s), .al (.int k), .al (.int m), .al (.int c), .ow (eM (T ++ [row])), .al (.int T.length), .al (.int row.length), .al (.int (c % (4 * m + 3))), s8, s9] (by simp [m4, mc])]
          refine seq_ok (ρ1 := [.al (.int s), .al (.int k), .al (.int m), .al (.int c), .ow (eM (T ++ [row])), .al (.int T.length), .al (.int row.length), .al (.int (c % (4 * m + 3))), s8, s9]) ?_ rfl
          rw [v_sIf]
          have ci : c2 dIn (fAl 3) (fTup (fCons (fC (.int 0)) (fCons (f1 dNeg (fC (.int 1))) fNil))) [.al (.int s), .al (.int k), .al (.int m), .al (.int c), .ow (eM (T ++ [row])), .al (.int T.length), .al (.int row.length), .al (.int (c % (4 * m + 3))), s8, s9] = some false := by
            simp only [v_c2, v_fAl, v_fTup, v_fCons, v_fC, v_f1, v_fNil, List.getElem?_cons_zero, List.getElem?_cons_succ, Option.bind_some, dNeg_int, dIn_two]
            rw [decide_eq_false hz]
          rw [ci]
          rfl
      obtain ⟨b, bb, bd⟩ : ∃ b : Bd, BtB 310 b ∧ (sIf (c2 dGt (fAl 7) (fC (.int 0))) (sAl 9 (fTup (fCons (f2 dSub (f2 dDiv (f2 dSub (fAl 7) (fC (.int 1))) (fC (.int 2))) (fAl 2)) (fCons (fB (c2 dEq (f2 dMod (fAl 7) (fC (.int 2))) (fC (.int 0)))) fNil)))) sNext)
          [.al (.int s), .al (.int k), .al (.int m), .al (.int (c / (4 * m + 3))), .ow (eM (T ++ [row])), .al (.int T.length), .al (.int row.length), .al (.int g), s8', .al .non] =
          some (.nx [.al (.int s), .al (.int k), .al (.int m), .al (.int (c / (4 * m + 3))), .ow (eM (T ++ [row])), .al (.int T.length), .al (.int row.length), .al (.int g), s8', .al (eB b)]) := by
        have d2 : dDiv (.int (g - 1)) (.int 2) = some (.int ((g - 1) / 2)) := div_ok _ (by decide) (by decide)
        have m2 : dMod (.int g) (.int 2) = some (.int (g % 2)) := mod_ok _ (by decide)
        by_cases hg : 0 < g
        · refine ⟨some ((g - 1) / 2 - m, g % 2 == 0), ?_, by simp [hg, d2, m2]⟩
          have : Bt 301 ((g - 1) / 2 - m) := (bm.add (Bt.mono (n := 2) (m := 300) (i := 1) (by decide) (by decide))).le (by omega)
          exact this.mono (by decide)
        · exact ⟨none, trivial, by simp [hg]⟩
      refine ⟨[.al (.int s), .al (.int k), .al (.int m), .al (.int (c / (4 * m + 3))), .ow (eM (T ++ [row ++ [b]])), .al (.int T.length), .al (.int row.length), .al (.int g), s8', .al (eB b)], b, ?_, ⟨c / (4 * m + 3), _, _, _, _, rfl, bc⟩, bb⟩
      unfold L1__law_any_table
      show sSeq _ _ [.al (.int s), .al (.int k), .al (.int m), .al (.int c), .ow (eM (T ++ [row])), .al (.int T.length), .al (.int row.length), s7, s8, s9] = _
      rw [gd]
      rw [seq_nx [.al (.int s), .al (.int k), .al (.int m), .al (.int (c / (4 * m + 3))), .ow (eM (T ++ [row])), .al (.int T.length), .al (.int row.length), .al (.int g), s8', s9] (by simp [m4, dc])]
      rw [seq_nx [.al (.int s), .al (.int k), .al (.int m), .al (.int (c / (4 * m + 3))), .ow (eM (T ++ [row])), .al (.int T.length), .al (.int row.length), .al (.int g), s8', .al .non] (by simp)]
      rw [seq_nx _ bd]
      exact app_at rfl rfl (by simp) (by omega))
    (fun T row ρ ⟨c, s6, s7, s8, s9, e, hc⟩ hl => ⟨c, _, s6, s7, s8, s9, e, hc⟩)
    (fun ρ ⟨c, s5, s6, s7, s8, s9, e, hc⟩ => by subst e; exact rg _ rfl) ⟨s, .no, .no, .no, .no, .no, rfl, hs⟩
  refine ⟨T, ?_, sq_of h3 h4 fun _ _ _ z => z⟩
  unfold L2__law_any_table
  rw [seq_nx _ h1]
  rfl
theorem dIxQ {vs : List Rat} {i : Nat} (h : i < vs.length) : dIx (.lst (vs.map eQ)) (.int i) = some (eQ (vs.getD i 0)) := dIx_at (by rw [List.getElem?_map]; simp [h])
theorem getD_bt {vs : List Rat} {w : Nat} (h : ∀ q ∈ vs, BtQ w q) {i : Nat} (hi : i < vs.length) : BtQ w (vs.getD i 0) := h _ (List.mem_iff_getElem?.mpr ⟨i, by rw [List.getD_eq_getElem?_getD, List.getElem?_eq_getElem hi]; rfl⟩)
theorem bt_01 {w : Nat} (h : 2 ≤ w) : BtQ w 0 := BtQ.mono (n := 2) ⟨by decide, by decide⟩ h
theorem cons0_bt {qs : List Rat} {w : Nat} (hw : 2 ≤ w) (h : ∀ q ∈ qs, BtQ w q) : ∀ q ∈ (0 :: qs), BtQ w q := fun q m => by
  rcases List.mem_cons.mp m with rfl | m
  · exact bt_01 hw
  · exact h q m
theorem fAnd_bl {f g : FE} {ρ : Ev} {a b : Bool} (h1 : f ρ = some (.bl a)) (h2 : a = true → g ρ = some (.bl b)) : fAnd f g ρ = some (.bl (a && b)) := by
  rw [v_fAnd, h1]
  cases a with
  | false => rfl
  | true => exact h2 rfl
theorem planted_ok {ns : List Int} {qs : List Rat} (hb : ∀ k, Bt 1048600 (cell ns k)) (hq : ∀ q ∈ qs, BtQ 300 q) (hl : qs.length ≤ 45) :
    ∃ T, f__law_planted [.kls (ns.map .int), .lst (qs.map eQ)] = some (eM T) ∧ Sq (qs.length + 1) 700 T ∧ ∀ (i j : Nat) r b, T[i]? = some r → r[j]? = some b → keepsB ((0 :: qs).getD i 0 - (0 :: qs).getD j 0) b = true := by
  rw [e__law_planted, F__law_planted]
  have hv := cons0_bt (show 2 ≤ 300 by decide) hq
  have ad := dAdd_lst (xs := [.tup [.int 0, .int 1]]) (ys := qs.map eQ) (size2 _ (by rw [List.length_map]; simp; omega)) (by simp) (immL_map (fun _ => eQ_imm) _)
  rw [seq_nx [.al (.kls (ns.map .int)), .al (.lst (qs.map eQ)), .al (.lst ((0 :: qs).map eQ)), .no, .no, .no, .no, .no, .no, .no, .no] (by
    simp only [v_sAl, v_f2, v_fLst, v_fTup, v_fCons, v_fC, v_fNil, v_fAl, List.getElem?_cons_zero, List.getElem?_cons_succ, Option.bind_some, ad]
    rfl)]
  have hn : (0 :: qs).length = qs.length + 1 := rfl
  have hn46 : qs.length + 1 ≤ 46 := by omega
  generalize 0 :: qs = vs at hv hn ⊢
  generalize qs.length + 1 = n at hn hn46 ⊢
  generalize D.lst (qs.map eQ) = d1
  rw [seq_nx [.al (.kls (ns.map .int)), .al d1, .al (.lst (vs.map eQ)), .ow (eM []), .no, .no, .no, .no, .no, .no, .no] (by simp [eM])]
  have rg : ∀ ρ : Ev, ρ[2]? = some (.al (.lst (vs.map eQ))) → iR1 (fCons (fA dLen (fCons (fAl 2) fNil)) fNil) ρ = some ((List.range n).map fun i : Nat => D.int (0 + (i : Nat))) := fun ρ h => iR1_ok (by rw [v_fCons, v_fA, v_fCons, v_fAl, h]; simp [hn]) (by omega)
  obtain ⟨ρ', T, h1, ⟨s4, s5, s6, s7, s8, s9, s10, rfl⟩, h3, h4⟩ := grow_ok (t := 3) (oi := 4) (oj := 5) (n := n) (gI := iR1 (fCons (fA dLen (fCons (fAl 2) fNil)) fNil)) (gJ := iR1 (fCons (fA dLen (fCons (fAl 2) fNil)) fNil)) (L1 := L1__law_planted) (fun i j b => BtB 700 b ∧ keepsB (vs.getD i 0 - vs.getD j 0) b = true)
    (fun T ρ => ∃ s4 s5 s6 s7 s8 s9 s10, ρ = [.al (.kls (ns.map .int)), .al d1, .al (.lst (vs.map eQ)), .ow (eM T), s4, s5, s6, s7, s8, s9, s10])
    (fun T row ρ => ∃ s5 s6 s7 s8 s9 s10, ρ = [.al (.kls (ns.map .int)), .al d1, .al (.lst (vs.map eQ)), .ow (eM (T ++ [row])), .al (.int T.length), s5, s6, s7, s8, s9, s10]) (by omega)
    (fun T ρ ⟨s4, s5, s6, s7, s8, s9, s10, e⟩ _ => by subst e; exact ⟨rfl, s5, s6, s7, s8, s9, s10, rfl⟩)
    (fun T ρ ⟨s5, s6, s7, s8, s9, s10, e⟩ => by subst e; exact rg _ rfl)
    (fun T row ρ hT ⟨s5, s6, s7, s8, s9, s10, e⟩ hl => by
      subst e
      have i1 := dIxQ (vs := vs) (i := T.length) (by omega)
      have i2 := dIxQ (vs := vs) (i := row.length) (by omega)
      have hp := getD_bt hv (i := T.length) (by omega)
      have hq := getD_bt hv (i := row.length) (by omega)
      generalize vs.getD T.length 0 = p at i1 hp ⊢
      generalize vs.getD row.length 0 = q at i2 hq ⊢
      have l2 := less2_ok (hp.mono (show 300 ≤ 4000 by decide)) (hq.mono (show 300 ≤ 4000 by decide))
      have dd := divInt_diff p q
      have bp : (0 : Int) < p.den * q.den := Int.mul_pos (by have := p.den_nz; omega) (by have := q.den_nz; omega)
      have bt1 : Bt 601 (p.num * q.den - q.num * p.den) := (hp.1.mul hq.2).sub (hq.1.mul hp.2)
      have bt2 : Bt 600 ((p.den : Int) * q.den) := hp.2.mul hq.2
      generalize p.num * q.den - q.num * p.den = top at l2 dd bt1 ⊢
      generalize (p.den : Int) * q.den = bot at l2 dd bp bt2 ⊢
      have mn : dMul (.int n) (.int T.length) = some (.int ((n : Int) * T.length)) := dMul_ok (n := 20) (m := 20) (show (n : Int).natAbs < 2 ^ 20 by omega) (show (T.length : Int).natAbs < 2 ^ 20 by omega) (by decide)
      have ce := cell_ok ns (8 + n * T.length + row.length)
      have cw : ((8 + n * T.length + row.length : Nat) : Int) = 8 + (n : Int) * T.length + row.length := by simp
      rw [cw] at ce
      obtain ⟨w, w1, w2⟩ := mixed_ok (k := 9 * T.length + row.length) (hb (8 + n * T.length + row.length)) (by omega)
      have wk : ((9 * T.length + row.length : Nat) : Int) = 9 * (T.length : Int) + row.length := by omega
      rw [wk] at w1
      have m9 : dMul (.int 9) (.int T.length) = some (.int (9 * (T.length : Int))) := dMul_ok (n := 4) (m := 20) (by decide) (show (T.length : Int).natAbs < 2 ^ 20 by omega) (by decide)
      have d1' : dDiv (.int (-top)) (.int bot) = some (.int (-top / bot)) := dDiv_ok (n := 600) bp bt2
      have d8 : dDiv (.int w) (.int 8) = some (.int ((w : Int) / 8)) := div_ok _ (by decide) (by decide)
      have m3 : dMod (.int ((w : Int) / 8)) (.int 3) = some (.int ((w : Int) / 8 % 3)) := mod_ok _ (by decide)
      have m8 : dMod (.int w) (.int 8) = some (.int ((w : Int) % 8)) := mod_ok _ (by decide)
      have d24 : dDiv (.int w) (.int 24) = some (.int ((w : Int) / 24)) := div_ok _ (by decide) (by decide)
      have m2 : dMod (.int ((w : Int) / 24)) (.int 2) = some (.int ((w : Int) / 24 % 2)) := mod_ok _ (by decide)
      have q0 := Int.emod_nonneg ((w : Int) / 8) (show (3 : Int) ≠ 0 by decide)
      have q1 := Int.emod_lt_of_pos ((w : Int) / 8) (show (0 : Int) < 3 by decide)
      obtain ⟨N, hN⟩ : ∃ N, N = -(-top / bot) + (w : Int) / 8 % 3 := ⟨_, rfl⟩
      have hN1 : top ≤ N * bot := by
        have h1 := Int.ediv_mul_le (-top) (show bot ≠ 0 by omega)
        have h2 : 0 ≤ (w : Int) / 8 % 3 * bot := Int.mul_nonneg q0 (by omega)
        rw [hN, Int.add_mul, Int.neg_mul]
        omega
      have bN : Bt 610 N := by
        have h1 := Int.natAbs_ediv_le_natAbs (-top) bot
        rw [Int.natAbs_neg] at h1
        have h2 : Bt 602 (-top / bot) := (bt1.le h1).mono (by decide)
        have h3 : Bt 602 ((w : Int) / 8 % 3) := Bt.mono (n := 3) (show ((w : Int) / 8 % 3).natAbs < 2 ^ 3 by omega) (by decide)
        rw [hN]
        exact (h2.neg.add h3).mono (by decide)
      have mN : dMul (.int N) (.int bot) = some (.int (N * bot)) := dMul_ok (n := 610) (m := 600) bN bt2 (by decide)
      have st : ∀ ρ : Ev, ρ[6]? = some (.al (.int top)) → ρ[7]? = some (.al (.int bot)) → ρ[8]? = some (.al (.int w)) → ρ[9]? = some (.al (.int N)) → fAnd (fB (c2 dGt (f2 dMul (fAl 9) (fAl 7)) (fAl 6))) (fB (c2 dEq (f2 dMod (f2 dDiv (fAl 8) (fC (.int 24))) (fC (.int 2))) (fC (.int 1)))) ρ = some (.bl (decide (top < N * bot) && ((w : Int) / 24 % 2 == 1))) := fun ρ g6 g7 g8 g9 => fAnd_bl (by
          simp only [v_fB, v_c2, v_f2, v_fAl, g6, g7, g9, Option.bind_some, mN, pI_int]) fun _ => by
          simp only [v_fB, v_c2, v_f2, v_fAl, v_fC, g8, Option.bind_some, d24, m2, dEq_int]
      obtain ⟨s, hs⟩ : ∃ s, s = (decide (top < N * bot) && ((w : Int) / 24 % 2 == 1)) := ⟨_, rfl⟩
      rw [← hs] at st
      have kk : keepsB (p - q) (some (N, s)) = true := by
        rw [← dd]
        cases hs' : s with
        | false => simp only [keepsB, decide_eq_true_iff, dvd_le bp]; exact hN1
        | true =>
          rw [hs'] at hs
          have h1 := (Bool.and_eq_true _ _ ▸ hs.symm : _ ∧ _).1
          simp only [keepsB, decide_eq_true_iff, dvd_lt bp]
          exact of_decide_eq_true h1
      obtain ⟨b, b1, b2, b3⟩ : ∃ b : Bd, BtB 700 b ∧ keepsB (p - q) b = true ∧ (sIf (cOr (c2 dLt (f2 dMod (fAl 8) (fC (.int 8))) (fC (.int 3))) (cAnd (c2 dEq (fAl 4) (fAl 5)) (c2 dLt (f2 dMod (fAl 8) (fC (.int 8))) (fC (.int 6))))) (sAl 10 (fC .non)) sNext)
          [.al (.kls (ns.map .int)), .al d1, .al (.lst (vs.map eQ)), .ow (eM (T ++ [row])), .al (.int T.length), .al (.int row.length), .al (.int top), .al (.int bot), .al (.int w), .al (.int N), .al (eB (some (N, s)))] =
          some (.nx [.al (.kls (ns.map .int)), .al d1, .al (.lst (vs.map eQ)), .ow (eM (T ++ [row])), .al (.int T.length), .al (.int row.length), .al (.int top), .al (.int bot), .al (.int w), .al (.int N), .al (eB b)]) := by
        by_cases h3 : (w : Int) % 8 < 3
        · exact ⟨none, trivial, rfl, by simp [m8, h3]⟩
        · by_cases h4 : ((T.length : Int) == row.length) = true
          · by_cases h5 : (w : Int) % 8 < 6
            · exact ⟨none, trivial, rfl, by simp [m8, h3, h4, h5]⟩
            · exact ⟨some (N, s), bN.mono (show 610 ≤ 700 by decide), kk, by simp [m8, h3, h4, h5]⟩
          · have h4' : ((T.length : Int) == row.length) = false := by simpa using h4
            exact ⟨some (N, s), bN.mono (show 610 ≤ 700 by decide), kk, by simp [m8, h3, h4']⟩
      refine ⟨[.al (.kls (ns.map .int)), .al d1, .al (.lst (vs.map eQ)), .ow (eM (T ++ [row ++ [b]])), .al (.int T.length), .al (.int row.length), .al (.int top), .al (.int bot), .al (.int w), .al (.int N), .al (eB b)], b, ?_, ⟨_, _, _, _, _, _, rfl⟩, b1, b2⟩
      unfold L1__law_planted
      show sSeq _ _ [.al (.kls (ns.map .int)), .al d1, .al (.lst (vs.map eQ)), .ow (eM (T ++ [row])), .al (.int T.length), .al (.int row.length), s6, s7, s8, s9, s10] = _
      rw [seq_nx [.al (.kls (ns.map .int)), .al d1, .al (.lst (vs.map eQ)), .ow (eM (T ++ [row])), .al (.int T.length), .al (.int row.length), .al (.int top), .al (.int bot), s8, s9, s10] (by simp [i1, i2, l2])]
      rw [seq_nx [.al (.kls (ns.map .int)), .al d1, .al (.lst (vs.map eQ)), .ow (eM (T ++ [row])), .al (.int T.length), .al (.int row.length), .al (.int top), .al (.int bot), .al (.int w), s9, s10] (by simp [hn, mn, ce, m9, w1])]
      rw [seq_nx [.al (.kls (ns.map .int)), .al d1, .al (.lst (vs.map eQ)), .ow (eM (T ++ [row])), .al (.int T.length), .al (.int row.length), .al (.int top), .al (.int bot), .al (.int w), .al (.int N), s10] (by
        simp only [v_sAl, v_f2, v_f1, v_fC, v_fAl, List.getElem?_cons_zero, List.getElem?_cons_succ, Option.bind_some, dNeg_int, d1', d8, m3, dAdd_int, ← hN, List.set_cons_zero, List.set_cons_succ])]
      rw [seq_nx [.al (.kls (ns.map .int)), .al d1, .al (.lst (vs.map eQ)), .ow (eM (T ++ [row])), .al (.int T.length), .al (.int row.length), .al (.int top), .al (.int bot), .al (.int w), .al (.int N), .al (eB (some (N, s)))] (by
        rw [v_sAl, v_fTup, v_fCons, v_fCons, st _ rfl rfl rfl rfl]
        rfl)]
      rw [seq_nx _ b3]
      exact app_at rfl rfl (by simp) (by omega))
    (fun T row ρ ⟨s5, s6, s7, s8, s9, s10, e⟩ hl => ⟨_, s5, s6, s7, s8, s9, s10, e⟩)
    (fun ρ ⟨s4, s5, s6, s7, s8, s9, s10, e⟩ => by subst e; exact rg _ rfl) ⟨.no, .no, .no, .no, .no, .no, .no, rfl⟩
  refine ⟨T, ?_, sq_of h3 h4 fun _ _ _ z => z.1, fun i j r b hr hb => ((h4 i r hr).2 j b hb).2⟩
  unfold L2__law_planted
  rw [seq_nx _ h1]
  rfl
theorem setB_ok {ρ : Ev} {s i j : Nat} {fi fj fv : FE} {T : Tb} {b : Bd} {row : List Bd} (hs : ρ[s]? = some (.ow (eM T))) (h1 : T[i]? = some row) (hj : j < row.length) (ei : fi ρ = some (.int i)) (ej : fj ρ = some (.int j)) (ev : fv ρ = some (eB b)) :
    sSetItem s (pIx s (pNil s) fi) fj fv ρ = some (.nx (ρ.set s (.ow (eM (T.set i (row.set j b)))))) := by
  have hi : i < T.length := (List.getElem?_eq_some_iff.mp h1).1
  have g1 : (eM T).get [i] = some (eR row) := by
    unfold eM D.get
    rw [List.getElem?_map, h1]
    show (eR row).get [] = _
    rw [get_nil]
  have ixl : ixN (T.map eR).length (i : Int) = some i := ixN_of (by rw [List.length_map]; exact hi)
  have pe : pIx s (pNil s) fi ρ = some [i] := by
    unfold pIx
    rw [v_pNil, v_slotO, hs]
    simp only [Option.bind_some, get_nil, ei]
    show (ixN (T.map eR).length (i : Int)).bind _ = _
    rw [ixl]
    rfl
  unfold sSetItem
  rw [v_sMut, pe, v_slotO, hs]
  simp only [Option.bind_some, g1]
  have ixr : ixN (row.map eB).length (j : Int) = some j := ixN_of (by rw [List.length_map]; exact hj)
  show Option.bind (Option.bind (fj ρ) _) _ = _
  rw [ej]
  show Option.bind (Option.bind (fv ρ) fun y => Option.bind (ixN (row.map eB).length (j : Int)) _) _ = _
  rw [ev]
  show Option.bind (Option.bind (ixN (row.map eB).length (j : Int)) _) _ = _
  rw [ixr]
  have pu : (eM T).put [i] (.lst ((row.map eB).set j (eB b))) = eM (T.set i (row.set j b)) := by
    unfold eM D.put
    rw [List.getElem?_map, h1]
    show D.lst ((T.map eR).set i ((eR row).put [] _)) = _
    rw [put_nil, List.map_set]
    unfold eR
    rw [List.map_set]
  show some (Out.nx (putD ρ s ((eM T).put [i] (.lst ((row.map eB).set j (eB b)))))) = _
  rw [putD_ow hs, pu]
theorem Sq.at {n w : Nat} {T : Tb} (h : Sq n w T) {i j : Nat} (hi : i < n) (hj : j < n) : ∃ row b, T[i]? = some row ∧ row.length = n ∧ row[j]? = some b ∧ BtB w b ∧ (T.getD i []).getD j none = b := by
  have hi' : i < T.length := by rw [h.len]; exact hi
  have e : T[i]? = some T[i] := List.getElem?_eq_getElem hi'
  have hm : T[i] ∈ T := List.getElem_mem _
  have hl := h.row _ hm
  have hj' : j < (T[i]).length := by rw [hl]; exact hj
  have e2 : (T[i])[j]? = some (T[i])[j] := List.getElem?_eq_getElem hj'
  refine ⟨_, _, e, hl, e2, h.bt _ hm _ (List.getElem_mem _), ?_⟩
  rw [List.getD_eq_getElem?_getD, List.getD_eq_getElem?_getD, e]
  show ((T[i])[j]?).getD none = _
  rw [e2]
  rfl
theorem Sq.mono {n w v : Nat} {T : Tb} (h : Sq n w T) (l : w ≤ v) : Sq n v T := ⟨h.len, h.row, fun r hr b hb => (h.bt r hr b hb).mono l⟩
theorem Sq.set {n w : Nat} {T : Tb} (h : Sq n w T) {i j : Nat} {row : List Bd} {b : Bd} (hr : T[i]? = some row) (hb : BtB w b) : Sq n w (T.set i (row.set j b)) := by
  have hm : row ∈ T := List.mem_of_getElem? hr
  refine ⟨by rw [List.length_set]; exact h.len, fun r hr => ?_, fun r hr c hc => ?_⟩
  · rcases List.mem_or_eq_of_mem_set hr with z | rfl
    · exact h.row r z
    · rw [List.length_set]; exact h.row row hm
  · rcases List.mem_or_eq_of_mem_set hr with z | rfl
    · exact h.bt r z c hc
    · rcases List.mem_or_eq_of_mem_set hc with z | rfl
      · exact h.bt row hm c z
      · exact hb
theorem Sq.dIx {n w : Nat} {T : Tb} (h : Sq n w T) {i j : Nat} (hi : i < n) (hj : j < n) : ∃ row b, T[i]? = some row ∧ row.length = n ∧ row[j]? = some b ∧ BtB w b ∧ (T.getD i []).getD j none = b ∧ Z.dIx (eM T) (.int i) = some (eR row) ∧ Z.dIx (eR row) (.int j) = some (eB b) := by
  obtain ⟨row, b, h1, h2, h3, h4, h5⟩ := h.at hi hj
  exact ⟨row, b, h1, h2, h3, h4, h5, dIx_at (by rw [List.getElem?_map, h1]; rfl), dIx_at (by rw [List.getElem?_map, h3]; rfl)⟩
theorem eRimm (r : List Bd) : (eR r).imm = false := by unfold eR; rw [D.imm]
theorem two_ix {x y : D} {c : Bool} : Z.dIx (.lst [x, y]) (.int (if c = true then 1 else 0)) = some (if c = true then y else x) := by cases c <;> simp
theorem tri2_ix {x y z : D} {c : Int} : ∃ d, Z.dIx (.lst [x, y, z]) (.int (c % 3)) = some d ∧ (d = x ∨ d = y ∨ d = z) := by
  have h : c % 3 = 0 ∨ c % 3 = 1 ∨ c % 3 = 2 := by omega
  rcases h with h | h | h
  · exact ⟨x, by rw [h]; simp, .inl rfl⟩
  · exact ⟨y, by rw [h]; simp, .inr (.inl rfl)⟩
  · exact ⟨z, by rw [h]; simp, .inr (.inr rfl)⟩
theorem rng_mem {n : Nat} {d : D} (h : d ∈ (List.range n).map fun i : Nat => D.int (0 + (i : Nat))) : ∃ i : Nat, i < n ∧ d = .int i := by
  obtain ⟨i, hi, rfl⟩ := List.mem_map.mp h
  exact ⟨i, List.mem_range.mp hi, by rw [Int.zero_add]⟩
theorem immL_Q (qs : List Rat) : D.immL (qs.map eQ) = true := immL_map (fun _ => eQ_imm) _
theorem table_by_ok {ns : List Int} (hb : ∀ k, Bt 1048600 (cell ns k)) : ∃ (T : Tb) (qs : List Rat), f__law_table_by [.kls (ns.map .int)] = some (.tup [eM T, .lst (qs.map eQ)]) ∧ Sq (qs.length + 1) 800 T ∧ qs.length ≤ 6 ∧ ∀ q ∈ qs, BtQ 300 q := by
  rw [e__law_table_by, F__law_table_by]
  have ce0 := cell_ok ns 0
  have ce1 := cell_ok ns 1
  have ce7 := cell_ok ns 7
  have b0 := hb 0
  have b1 := hb 1
  have b7 := hb 7
  have c0' : f__law_cell_at [.kls (ns.map .int), .int 0] = some (.int (cell ns 0)) := ce0
  have c1' : f__law_cell_at [.kls (ns.map .int), .int 1] = some (.int (cell ns 1)) := ce1
  have c7' : f__law_cell_at [.kls (ns.map .int), .int 7] = some (.int (cell ns 7)) := ce7
  generalize cell ns 0 = h at c0' b0
  generalize cell ns 1 = s at c1' b1
  generalize cell ns 7 = z at c7' b7
  have d4 : dDiv (.int h) (.int 4) = some (.int (h / 4)) := div_ok _ (by decide) (by decide)
  have m4 : dMod (.int h) (.int 4) = some (.int (h % 4)) := mod_ok _ (by decide)
  obtain ⟨M, hM0, hM, eM'⟩ : ∃ M : Int, 0 < M ∧ M ≤ 7 ∧ Z.dIx (.lst [.int 5, .int 7]) (.int (if decide (1 < h % 4) = true then 1 else 0)) = some (.int M) := by
    rw [two_ix]
    by_cases h1 : 1 < h % 4
    · exact ⟨7, by decide, by decide, by rw [if_pos (decide_eq_true h1)]⟩
    · exact ⟨5, by decide, by decide, by rw [if_neg (by simp [h1])]⟩
  have mM : dMod (.int (h / 4)) (.int M) = some (.int (h / 4 % M)) := mod_ok _ hM0
  obtain ⟨k, hk⟩ := Int.eq_ofNat_of_zero_le (Int.emod_nonneg (h / 4) (show M ≠ 0 by omega))
  have hk7 := Int.emod_lt_of_pos (h / 4) hM0
  have hk6 : k ≤ 6 := by omega
  rw [seq_nx [.al (.kls (ns.map .int)), .al (.int h), .no, .no, .no, .no, .no, .no, .no] (by simp [c0'])]
  rw [seq_nx [.al (.kls (ns.map .int)), .al (.int h), .al (.int k), .no, .no, .no, .no, .no, .no] (by
    simp only [v_sAl, v_f2, v_fA, v_fLst, v_fCons, v_fC, v_fNil, v_fB, v_c2, v_fAl, List.getElem?_cons_zero, List.getElem?_cons_succ, Option.bind_some, d4, m4, pI_int, dInt1_bl, eM', mM, hk, List.set_cons_zero, List.set_cons_succ])]
  obtain ⟨qs, g1, g2, g3⟩ := compL_ex (G := gN 8) (c := cYes) (e := fCall f__law_part_v4 [] (fCons (fCall f__law_cell_at [] (fCons (fAl 0) (fCons (f2 dAdd (fC (.int 1)) (fAl 8)) fNil))) fNil)) (ρ := [.al (.kls (ns.map .int)), .al (.int h), .al (.int k), .no, .no, .no, .no, .no, .no]) (m := eQ) (P := BtQ 300)
    ((List.range k).map fun i : Nat => D.int (0 + (i : Nat))) (fun d hd => by
      obtain ⟨i, _, rfl⟩ := rng_mem hd
      obtain ⟨q, q1, q2⟩ := part4_ok (cell ns (1 + i))
      have ce := cell_ok ns (1 + i)
      have cw : ((1 + i : Nat) : Int) = 1 + (i : Int) := by omega
      rw [cw] at ce
      exact ⟨[.al (.kls (ns.map .int)), .al (.int h), .al (.int k), .no, .no, .no, .no, .no, .al (.int i)], q, rfl, rfl, by simp [ce, q1], q2⟩)
  rw [List.length_map, List.length_range] at g2
  rw [seq_nx [.al (.kls (ns.map .int)), .al (.int h), .al (.int k), .ow (.lst (qs.map eQ)), .no, .no, .no, .no, .no] (by
    rw [v_sOw, fComp_ok (iR1_ok (n := k) rfl (by omega)) g1 (size2 _ (by rw [List.length_map]; omega))]
    rfl)]
  by_cases h2 : h % 4 < 2
  · -- by digits
    obtain ⟨P, eP, hP, bP, p1⟩ := ten_pow 55 (by decide)
    have p1' : dPow (.int 10) (.int 55) = some (.int P) := p1
    have d20 : dDiv (.int h) (.int 20) = some (.int (h / 20)) := div_ok _ (by decide) (by decide)
    have m3 : dMod (.int (h / 20)) (.int 3) = some (.int (h / 20 % 3)) := mod_ok _ (by decide)
    obtain ⟨d, t1, t2⟩ := tri2_ix (x := .int 3) (y := .int 9) (z := .int P) (c := h / 20)
    obtain ⟨m, rfl, hm0, bm⟩ : ∃ m : Int, d = .int m ∧ 0 ≤ m ∧ Bt 300 m := by
      rcases t2 with rfl | rfl | rfl
      · exact ⟨3, rfl, by decide, Bt.mono (n := 2) (by decide) (by decide)⟩
      · exact ⟨9, rfl, by decide, Bt.mono (n := 4) (by decide) (by decide)⟩
      · exact ⟨P, rfl, by omega, bP.mono (by decide)⟩
    obtain ⟨T, a1, a2⟩ := any_table_ok (k := k) b1 (by omega) hm0 bm
    refine ⟨T, qs, ?_, by rw [g2]; exact a2.mono (by decide), by omega, g3⟩
    rw [seq_rt (d := .tup [eM T, .lst (qs.map eQ)]) (by
      rw [v_sIf]
      simp only [v_c2, v_f2, v_fAl, v_fC, List.getElem?_cons_zero, List.getElem?_cons_succ, Option.bind_some, m4, pI_int, decide_eq_true h2, if_true]
      simp only [v_sRet, v_fTup, v_fCons, v_fCall, v_fLst, v_f2, v_fC, v_fAl, v_fOw, v_fNil, List.getElem?_cons_zero, List.getElem?_cons_succ, Option.bind_some, List.append_nil, c1', p1', d20, m3, t1, a1])]
    rfl
  · obtain ⟨T, a1, a2, _⟩ := planted_ok (qs := qs) hb g3 (by omega)
    rw [g2] at a2
    rw [seq_nx [.al (.kls (ns.map .int)), .al (.int h), .al (.int k), .ow (.lst (qs.map eQ)), .no, .no, .no, .no, .no] (by
      rw [v_sIf]
      simp only [v_c2, v_f2, v_fAl, v_fC, List.getElem?_cons_zero, List.getElem?_cons_succ, Option.bind_some, m4, pI_int, decide_eq_false h2]
      rfl)]
    rw [seq_nx [.al (.kls (ns.map .int)), .al (.int h), .al (.int k), .ow (.lst (qs.map eQ)), .ow (eM T), .no, .no, .no, .no] (by
      simp only [v_sOw, v_fCall, v_fCons, v_fAl, v_fVar, v_fNil, List.getElem?_cons_zero, List.getElem?_cons_succ, Option.bind_some, List.append_nil, a1, v_wipe0, List.set_cons_zero, List.set_cons_succ])]
    have fin : ∀ (T' : Tb) (s5 s6 s7 : Sl), (sRet (fTup (fCons (fOw 4) (fCons (fOw 3) fNil))) [.al (.kls (ns.map .int)), .al (.int h), .al (.int k), .ow (.lst (qs.map eQ)), .ow (eM T'), s5, s6, s7, .no]).bind outD = some (.tup [eM T', .lst (qs.map eQ)]) := fun _ _ _ _ => rfl
    by_cases h3 : h % 4 = 3
    · have z0 := Int.emod_nonneg z (show (k + 1 : Int) ≠ 0 by omega)
      have z1 := Int.emod_lt_of_pos z (show (0 : Int) < k + 1 by omega)
      have z2 := Int.emod_nonneg (z / (k + 1)) (show (k + 1 : Int) ≠ 0 by omega)
      have z3 := Int.emod_lt_of_pos (z / (k + 1)) (show (0 : Int) < k + 1 by omega)
      have m5 : dMod (.int z) (.int (k + 1)) = some (.int (z % (k + 1))) := mod_ok _ (by omega)
      have d5 : dDiv (.int z) (.int (k + 1)) = some (.int (z / (k + 1))) := div_ok _ (by omega) (by omega)
      have m6 : dMod (.int (z / (k + 1))) (.int (k + 1)) = some (.int (z / (k + 1) % (k + 1))) := mod_ok _ (by omega)
      obtain ⟨i, ei⟩ := Int.eq_ofNat_of_zero_le z0
      obtain ⟨j, ej⟩ := Int.eq_ofNat_of_zero_le z2
      rw [ei] at m5
      rw [ej] at m6
      obtain ⟨row, b, r1, r2, r3, r4, _, x1, x2⟩ := a2.dIx (i := i) (j := j) (by omega) (by omega)
      have c3 : ∀ F G : FS, sIf (c2 dEq (f2 dMod (fAl 1) (fC (.int 4))) (fC (.int 3))) F G [.al (.kls (ns.map .int)), .al (.int h), .al (.int k), .ow (.lst (qs.map eQ)), .ow (eM T), .no, .no, .no, .no] = F [.al (.kls (ns.map .int)), .al (.int h), .al (.int k), .ow (.lst (qs.map eQ)), .ow (eM T), .no, .no, .no, .no] := fun F G => by
        rw [v_sIf]
        simp only [v_c2, v_f2, v_fAl, v_fC, List.getElem?_cons_zero, List.getElem?_cons_succ, Option.bind_some, m4, h3, dEq_int]
        rfl
      obtain ⟨T', t1, t2⟩ : ∃ T', Sq (k + 1) 800 T' ∧ sIf (cNot (c1 dIsN (f2 dIx (f2 dIx (fVar 4) (fAl 6)) (fAl 7)))) (sSetItem 4 (pIx 4 (pNil 4) (fAl 6)) (fAl 7) (fTup (fCons (f2 dSub (f2 dSub (f2 dIx (f2 dIx (f2 dIx (fVar 4) (fAl 6)) (fAl 7)) (fC (.int 0))) (fC (.int 1))) (f2 dMod (f2 dDiv (fAl 5) (fC (.int 50))) (fC (.int 4)))) (fCons (fB (c2 dEq (f2 dMod (f2 dDiv (fAl 5) (fC (.int 200))) (fC (.int 2))) (fC (.int 1)))) fNil)))) sNext
          [.al (.kls (ns.map .int)), .al (.int h), .al (.int k), .ow (.lst (qs.map eQ)), .ow (eM T), .al (.int z), .al (.int i), .al (.int j), .no] = some (.nx [.al (.kls (ns.map .int)), .al (.int h), .al (.int k), .ow (.lst (qs.map eQ)), .ow (eM T'), .al (.int z), .al (.int i), .al (.int j), .no]) := by
        cases b with
        | none =>
          refine ⟨T, a2.mono (by decide), ?_⟩
          rw [v_sIf]
          simp only [v_cNot, v_c1, v_f2, v_fVar, v_fAl, List.getElem?_cons_zero, List.getElem?_cons_succ, Option.bind_some, x1, x2, eB_isN]
          rfl
        | some p =>
          obtain ⟨N, st⟩ := p
          have d50 : dDiv (.int z) (.int 50) = some (.int (z / 50)) := div_ok _ (by decide) (by decide)
          have m44 : dMod (.int (z / 50)) (.int 4) = some (.int (z / 50 % 4)) := mod_ok _ (by decide)
          have d200 : dDiv (.int z) (.int 200) = some (.int (z / 200)) := div_ok _ (by decide) (by decide)
          have m22 : dMod (.int (z / 200)) (.int 2) = some (.int (z / 200 % 2)) := mod_ok _ (by decide)
          have q0 := Int.emod_nonneg (z / 50) (show (4 : Int) ≠ 0 by decide)
          have q1 := Int.emod_lt_of_pos (z / 50) (show (0 : Int) < 4 by decide)
          have bN : Bt 700 N := r4
          have bW : BtB 800 (some (N - 1 - z / 50 % 4, z / 200 % 2 == 1)) := by
            have h1 : Bt 701 (N - (1 + z / 50 % 4)) := bN.sub (Bt.mono (n := 3) (show (1 + z / 50 % 4).natAbs < 2 ^ 3 by omega) (by decide))
            have e : N - 1 - z / 50 % 4 = N - (1 + z / 50 % 4) := by omega
            show Bt 800 (N - 1 - z / 50 % 4)
            rw [e]
            exact h1.mono (by decide)
          refine ⟨T.set i (row.set j (some (N - 1 - z / 50 % 4, z / 200 % 2 == 1))), (a2.mono (by decide)).set r1 bW, ?_⟩
          rw [v_sIf]
          simp only [v_cNot, v_c1, v_f2, v_fVar, v_fAl, List.getElem?_cons_zero, List.getElem?_cons_succ, Option.bind_some, x1, x2, eB_isN]
          exact setB_ok (i := i) (j := j) (b := some (N - 1 - z / 50 % 4, z / 200 % 2 == 1)) rfl r1 (by omega) rfl rfl (by
            simp only [v_fTup, v_fCons, v_f2, v_fVar, v_fAl, v_fC, v_fB, v_c2, v_fNil, List.getElem?_cons_zero, List.getElem?_cons_succ, Option.bind_some, x1, x2, eB_some, dIx_tup, atI_0, dSub_int, d50, m44, d200, m22, dEq_int])
      refine ⟨T', qs, ?_, by rw [g2]; exact t1, by omega, g3⟩
      rw [seq_nx [.al (.kls (ns.map .int)), .al (.int h), .al (.int k), .ow (.lst (qs.map eQ)), .ow (eM T'), .al (.int z), .al (.int i), .al (.int j), .no] (by
        rw [c3]
        rw [seq_nx [.al (.kls (ns.map .int)), .al (.int h), .al (.int k), .ow (.lst (qs.map eQ)), .ow (eM T), .al (.int z), .no, .no, .no] (by simp [c7'])]
        rw [seq_nx [.al (.kls (ns.map .int)), .al (.int h), .al (.int k), .ow (.lst (qs.map eQ)), .ow (eM T), .al (.int z), .al (.int i), .no, .no] (by simp [m5])]
        rw [seq_nx [.al (.kls (ns.map .int)), .al (.int h), .al (.int k), .ow (.lst (qs.map eQ)), .ow (eM T), .al (.int z), .al (.int i), .al (.int j), .no] (by simp [d5, m6])]
        exact t2)]
      exact fin _ _ _ _
    · refine ⟨T, qs, ?_, by rw [g2]; exact a2.mono (by decide), by omega, g3⟩
      rw [seq_nx [.al (.kls (ns.map .int)), .al (.int h), .al (.int k), .ow (.lst (qs.map eQ)), .ow (eM T), .no, .no, .no, .no] (by
        rw [v_sIf]
        have h3' : (h % 4 == 3) = false := by simpa using h3
        simp only [v_c2, v_f2, v_fAl, v_fC, List.getElem?_cons_zero, List.getElem?_cons_succ, Option.bind_some, m4, dEq_int, h3']
        rfl)]
      exact fin _ _ _ _
theorem v_fSl {f : FE} {lo hi : FO} {ρ : Ev} : fSl f lo hi ρ = (f ρ).bind fun x => (lo ρ).bind fun l => (hi ρ).bind fun h => x.lsq.bind fun xs => if D.immL xs = true then some (.lst (dCut xs l h)) else none := (rfl)
theorem cutI (ns : List Int) (l h : Option Int) : ∃ ms : List Int, dCut (ns.map D.int) l h = ms.map D.int ∧ ms.length ≤ ns.length ∧ ∀ z ∈ ms, z ∈ ns := by
  unfold dCut
  refine ⟨(ns.drop (HT.sIx (ns.map D.int).length 0 l)).take (HT.sIx (ns.map D.int).length (ns.map D.int).length h - HT.sIx (ns.map D.int).length 0 l), ?_, ?_, fun z hz => ?_⟩
  · rw [List.map_take, List.map_drop]
  · rw [List.length_take, List.length_drop]
    omega
  · exact List.mem_of_mem_drop (List.mem_of_mem_take hz)
theorem cutTo {xs : List D} {n : Nat} (h : n ≤ xs.length) : dCut xs none (some (n : Int)) = xs.take n := by
  unfold dCut
  rw [HT.sIx_nat, HT.sIx_none, Nat.min_eq_left h, Nat.sub_zero, List.drop_zero]
theorem immI : ∀ ns : List Int, D.immL (ns.map D.int) = true
  | [] => by simp
  | n :: ns => by simp [immI ns]
theorem sForL_pre {α : Type} {G : D → Ev → Option Ev} {F : FS} {m : α → D} (I : Nat → Ev → Prop) (xs : List α) {ρ : Ev} (h0 : I 0 ρ) (hs : ∀ (i : Nat) x ρ, xs[i]? = some x → I i ρ → ∃ ρ1 ρ', G (m x) ρ = some ρ1 ∧ F ρ1 = some (.nx ρ') ∧ I (i + 1) ρ') : ∃ ρ', sForL G F (xs.map m) ρ = some (.nx ρ') ∧ I xs.length ρ' := by
  have go : ∀ (ys : List α) (k : Nat) (ρ : Ev), (∀ i x, ys[i]? = some x → xs[k + i]? = some x) → I k ρ → ∃ ρ', sForL G F (ys.map m) ρ = some (.nx ρ') ∧ I (k + ys.length) ρ' := by
    intro ys
    induction ys with
    | nil => exact fun k ρ _ h => ⟨ρ, rfl, h⟩
    | cons y ys ih =>
      intro k ρ hy h
      obtain ⟨ρ1, ρ', h1, h2, h3⟩ := hs k y ρ (hy 0 y rfl) h
      obtain ⟨ρ2, h4, h5⟩ := ih (k + 1) ρ' (fun i x hx => by
        have := hy (i + 1) x (by simpa using hx)
        rw [← this]
        congr 1
        omega) h3
      refine ⟨ρ2, ?_, by rw [List.length_cons]; have e : k + (ys.length + 1) = k + 1 + ys.length := by omega
                         rw [e]; exact h5⟩
      rw [List.map_cons, v_sForL1, h1]
      show (F ρ1).bind _ = _
      rw [h2]
      exact h4
  have := go xs 0 ρ (fun i x h => by rw [Nat.zero_add]; exact h) h0
  rwa [Nat.zero_add] at this
theorem ok_Q (qs : List Rat) (n : Nat) : (D.lst (qs.map eQ)).eqOk (n + 2) = true := by
  rw [ok_lst]
  exact okL_map (fun _ => eQ_ok) _
theorem bits_cell {ns : List Int} (hb : ∀ z ∈ ns, Builtin.Int.intBits z ≤ 1048576) (k : Nat) : Bt 1048600 (cell ns k) := by
  unfold cell
  by_cases h : k < ns.length
  · have e : ns.getD k 0 = ns[k] := by simp [h]
    rw [e]
    exact (bt_bits (hb _ (List.getElem_mem _))).mono (by decide)
  · have e : ns.getD k 0 = 0 := by simp [Nat.not_lt.mp h]
    rw [e]
    exact Bt.mono (n := 1) (by decide) (by decide)
end Mt
namespace Mt
open PySem PySem.Spec PyProof.Rows L2 Z G
def tabL (n : Nat) (C : Tf) : Tb := (List.range n).map fun i => (List.range n).map (C i)
def entry (T : Tb) : Tf := fun i j => (T.getD i []).getD j none
theorem rg_get {α : Type} {n i : Nat} {f : Nat → α} (h : i < n) : ((List.range n).map f)[i]? = some (f i) := by rw [List.getElem?_map, List.getElem?_range h]; rfl
theorem tab_of {n w : Nat} {T : Tb} (h : Sq n w T) : T = tabL n (entry T) := by
  refine List.ext_getElem? fun i => ?_
  by_cases hi : i < n
  · unfold tabL
    rw [rg_get hi]
    have e1 : T[i]? = some (T.getD i []) := by
      rw [List.getD_eq_getElem?_getD, List.getElem?_eq_getElem (by rw [h.len]; exact hi)]; rfl
    rw [e1]
    congr 1
    have hm : T.getD i [] ∈ T := List.mem_of_getElem? e1
    have hl := h.row _ hm
    refine List.ext_getElem? fun j => ?_
    by_cases hj : j < n
    · rw [rg_get hj]
      unfold entry
      rw [List.getD_eq_getElem?_getD (l := T.getD i []), List.getElem?_eq_getElem (by rw [hl]; exact hj)]; rfl
    · rw [List.getElem?_eq_none (by omega), List.getElem?_eq_none (by simp; omega)]
  · rw [List.getElem?_eq_none (by rw [h.len]; omega), List.getElem?_eq_none (by unfold tabL; simp; omega)]
theorem tab_congr {n : Nat} {C D : Tf} (h : ∀ i j, i < n → j < n → C i j = D i j) : tabL n C = tabL n D := by
  unfold tabL
  refine List.map_congr_left fun i hi => List.map_congr_left fun j hj => ?_
  exact h i j (List.mem_range.mp hi) (List.mem_range.mp hj)
theorem entry_tab {n : Nat} {C : Tf} {i j : Nat} (hi : i < n) (hj : j < n) : entry (tabL n C) i j = C i j := by
  unfold entry tabL
  rw [List.getD_eq_getElem?_getD, List.getD_eq_getElem?_getD, rg_get hi]
  show (((List.range n).map (C i))[j]?).getD none = _
  rw [rg_get hj]
  rfl
theorem tab_len {n : Nat} {C : Tf} : (tabL n C).length = n := by unfold tabL; simp
theorem tab_row {n i : Nat} {C : Tf} (hi : i < n) : (tabL n C)[i]? = some ((List.range n).map (C i)) := rg_get hi
theorem set_rg {α : Type} {n i : Nat} {f : Nat → α} {x : α} : ((List.range n).map f).set i x = (List.range n).map (up1 f i x) := by
  refine List.ext_getElem? fun j => ?_
  rw [List.getElem?_set]
  by_cases hj : j < n
  · rw [rg_get hj, rg_get hj]
    by_cases e : i = j
    · subst e
      rw [if_pos rfl, if_pos (by simpa using hj), up1_same]
    · rw [if_neg e, up1_ne (fun z => e z.symm)]
  · rw [List.getElem?_eq_none (by simp; omega)]
    rw [List.getElem?_eq_none (by simp; omega)]
    by_cases e : i = j
    · rw [if_pos e, if_neg (by simp; omega)]
    · rw [if_neg e]
theorem tab_set {n i j : Nat} {C : Tf} {x : Bd} : (tabL n C).set i (((List.range n).map (C i)).set j x) = tabL n (up2 C i j x) := by
  unfold tabL
  rw [set_rg, set_rg]
  refine List.map_congr_left fun a _ => ?_
  by_cases e : a = i
  · subst e
    rw [up1_same]
    refine List.map_congr_left fun b _ => ?_
    by_cases e2 : b = j
    · subst e2
      rw [up1_same, up2_same]
    · rw [up1_ne e2, up2_ne (fun z => e2 z.2)]
  · rw [up1_ne e]
    exact List.map_congr_left fun b _ => (up2_ne (fun z => e z.1)).symm
theorem ixT {n i : Nat} {C : Tf} (hi : i < n) : dIx (eM (tabL n C)) (.int i) = some (eR ((List.range n).map (C i))) := dIx_at (by rw [List.getElem?_map, tab_row hi]; rfl)
theorem ixR {n j : Nat} {f : Nat → Bd} (hj : j < n) : dIx (eR ((List.range n).map f)) (.int j) = some (eB (f j)) := dIx_at (by rw [List.getElem?_map, rg_get hj]; rfl)
theorem lenT {n : Nat} {C : Tf} : dLen [eM (tabL n C)] = some (.int n) := by unfold eM; rw [dLen_lst, List.length_map, tab_len]
theorem zipIdx_rg {α : Type} (f : Nat → α) (n : Nat) : ((List.range n).map f).zipIdx = (List.range n).map fun i => (f i, i) := by
  refine List.ext_getElem? fun i => ?_
  rw [List.getElem?_zipIdx]
  by_cases hi : i < n
  · rw [rg_get hi, rg_get hi]; simp
  · rw [List.getElem?_eq_none (by simp; omega), List.getElem?_eq_none (by simp; omega)]; rfl
theorem enum_rg {f : FE} {ρ : Ev} {n : Nat} {g : Nat → D} (h : f ρ = some (.lst ((List.range n).map g))) : iEnumD f ρ = some ((List.range n).map fun i : Nat => D.tup [.int i, g i]) := by
  unfold iEnumD
  rw [h]
  show some (((List.range n).map g).zipIdx.map _) = _
  rw [zipIdx_rg, List.map_map]
  rfl
theorem eM_tab {n : Nat} {C : Tf} : eM (tabL n C) = .lst ((List.range n).map fun i => eR ((List.range n).map (C i))) := by
  unfold eM tabL
  rw [List.map_map]
  rfl
theorem eR_rg {n : Nat} {f : Nat → Bd} : eR ((List.range n).map f) = .lst ((List.range n).map fun j => eB (f j)) := by
  unfold eR
  rw [List.map_map]
  rfl
def eW (a : Wt) : D := .tup [.int a.1, .int a.2]
def eWs (n : Nat) (F : Nat → Wt) : D := .lst ((List.range n).map fun i => eW (F i))
def eHs (n : Nat) (h : Nat → Nat) : D := .lst ((List.range n).map fun i => D.int (h i))
def eMv : Option Nat → D
  | none => .non
  | some x => .int x
theorem step_on_ok (a : Wt) (n : Int) (s : Bool) : f_step_on [eW a, eB (some (n, s))] = some (eW (addW a (n, s))) := by
  rw [e_step_on, F_step_on]
  simp [eW, addW, b2]
theorem nearer_ok (a b : Wt) : f_is_nearer [eW a, eW b] = some (.bl (decide (near a b))) := by
  rw [e_is_nearer, F_is_nearer]
  unfold near
  by_cases h1 : a.1 < b.1
  · simp [eW, h1]
  · by_cases h2 : a.1 = b.1
    · have : (a.1 == b.1) = true := by simp [h2]
      by_cases h3 : b.2 < a.2 <;> simp [eW, h1, h2, h3]
    · have : (a.1 == b.1) = false := by simpa using h2
      simp [eW, h1, h2, this]
theorem setRf {ρ : Ev} {i k : Nat} {r : V} {xs : List D} {fk fv : FE} {y : D} (h : ρ[i]? = some (Sl.rf r (.lst xs))) (hk : fk ρ = some (.int k)) (hl : k < xs.length) (hv : fv ρ = some y) : sSetItem i (pNil i) fk fv ρ = some (.nx (ρ.set i (.rf r (.lst (xs.set k y))))) := by
  unfold sSetItem
  rw [v_sMut, v_pNil, v_slotO, h]
  simp only [Option.bind_some, get_nil]
  show Option.bind (Option.bind (fk ρ) fun k => Option.bind (fv ρ) _) _ = _
  rw [hk]
  show Option.bind (Option.bind (fv ρ) fun y => Option.bind (ixN xs.length (k : Int)) _) _ = _
  rw [hv]
  show Option.bind (Option.bind (ixN xs.length (k : Int)) _) _ = _
  rw [ixN_of hl]
  show some (Out.nx (putD ρ i ((D.lst xs).put [] (.lst (xs.set k y))))) = _
  rw [putD_rf h, put_nil]
theorem ixW {n i : Nat} {F : Nat → Wt} (hi : i < n) : dIx (eWs n F) (.int i) = some (eW (F i)) := dIx_at (rg_get hi)
theorem ixH {n i : Nat} {h : Nat → Nat} (hi : i < n) : dIx (eHs n h) (.int i) = some (.int (h i)) := dIx_at (rg_get hi)
theorem setW {n i : Nat} {F : Nat → Wt} {x : Wt} : ((List.range n).map fun a => eW (F a)).set i (eW x) = (List.range n).map fun a => eW (up1 F i x a) := by
  rw [set_rg]
  refine List.map_congr_left fun a _ => ?_
  unfold up1
  split <;> rfl
theorem setH {n i : Nat} {h : Nat → Nat} {x : Nat} : ((List.range n).map fun a => D.int (h a)).set i (.int x) = (List.range n).map fun a => D.int ((up1 h i x a : Nat) : Int) := by
  rw [set_rg]
  refine List.map_congr_left fun a _ => ?_
  unfold up1
  split <;> rfl
theorem relaxed_ok {n : Nat} {T : Tf} (s : Bf) : MRel N_relaxed 3 [1, 2] F_relaxed [eM (tabL n T), eWs n s.F, eHs n s.h] (eMv (relax T n s).m) [eM (tabL n T), eWs n (relax T n s).F, eHs n (relax T n s).h] := by
  refine ⟨rfl, rfl, fun i hi => ?_, fun roots => ?_⟩
  · match i with
    | 0 => rfl
    | 1 => simp at hi
    | 2 => simp at hi
    | _ + 3 => rfl
  let E : Bf → Sl → Sl → Sl → Sl → Ev := fun s a b c d => [.al (eM (tabL n T)), .rf (roots 1) (eWs n s.F), .rf (roots 2) (eHs n s.h), .al (eMv s.m), a, b, c, d]
  have row : ∀ (i : Nat), i < n → ∀ (js : List Nat), (∀ j ∈ js, j < n) → ∀ (s : Bf) (c d : Sl), ∃ c' d', sForL (gSq 2 (gCs (gN 6) (gCs (gN 7) gNl))) L1_relaxed (js.map fun j : Nat => D.tup [.int j, eB (T i j)]) (E s (.al (.int i)) (.al (eR ((List.range n).map (T i)))) c d) = some (.nx (E (relaxRow T i js s) (.al (.int i)) (.al (eR ((List.range n).map (T i)))) c' d')) := by
    intro i hi js
    induction js with
    | nil => exact fun _ s c d => ⟨c, d, rfl⟩
    | cons j js ih =>
      intro hj s c d
      have hjn := hj j List.mem_cons_self
      obtain ⟨c', d', h⟩ := ih (fun k hk => hj k (List.mem_cons_of_mem _ hk)) (relax1 T i j s) (.al (.int j)) (.al (eB (T i j)))
      refine ⟨c', d', ?_⟩
      rw [List.map_cons, v_sForL1]
      show (L1_relaxed (E s (.al (.int i)) (.al (eR ((List.range n).map (T i)))) (.al (.int j)) (.al (eB (T i j))))).bind _ = _
      have body : L1_relaxed (E s (.al (.int i)) (.al (eR ((List.range n).map (T i)))) (.al (.int j)) (.al (eB (T i j)))) = some (.nx (E (relax1 T i j s) (.al (.int i)) (.al (eR ((List.range n).map (T i)))) (.al (.int j)) (.al (eB (T i j))))) := by
        unfold L1_relaxed relax1
        rw [v_sIf]
        cases hb : T i j with
        | none =>
          simp only [E, v_cAnd, v_cNot, v_c1, v_fAl, List.getElem?_cons_zero, List.getElem?_cons_succ, Option.bind_some, eB_none, dIsN_non]
          rfl
        | some b =>
          obtain ⟨bn, bs⟩ := b
          have st := step_on_ok (s.F j) bn bs
          have nr := nearer_ok (addW (s.F j) (bn, bs)) (s.F i)
          have x1 := ixW (n := n) (F := s.F) hjn
          have x2 := ixW (n := n) (F := s.F) hi
          have cd : cAnd (cNot (c1 dIsN (fAl 7))) (c1 dTru (fCall f_is_nearer [] (fCons (fCall f_step_on [] (fCons (f2 dIx (fVar 1) (fAl 6)) (fCons (fAl 7) fNil))) (fCons (f2 dIx (fVar 1) (fAl 4)) fNil)))) (E s (.al (.int i)) (.al (eR ((List.range n).map (T i)))) (.al (.int j)) (.al (eB (some (bn, bs))))) = some (decide (near (addW (s.F j) (bn, bs)) (s.F i))) := by
            simp only [E, v_cAnd, v_cNot, v_c1, v_fCall, v_fCons, v_f2, v_fVar, v_fAl, v_fNil, List.getElem?_cons_zero, List.getElem?_cons_succ, Option.bind_some, List.append_nil, eB_isN, Option.isNone_some, Bool.not_false, if_true, x1, x2, st, nr, dTru_bl]
          rw [cd]
          by_cases hn : near (addW (s.F j) (bn, bs)) (s.F i)
          · rw [decide_eq_true hn]
            show sSeq _ _ _ = some (.nx (E (if near (addW (s.F j) (bn, bs)) (s.F i) then _ else s) _ _ _ _))
            rw [if_pos hn]
            have sv : (fCall f_step_on [] (fCons (f2 dIx (fVar 1) (fAl 6)) (fCons (fAl 7) fNil))) (E s (.al (.int i)) (.al (eR ((List.range n).map (T i)))) (.al (.int j)) (.al (eB (some (bn, bs))))) = some (eW (addW (s.F j) (bn, bs))) := by
              simp only [E, v_fCall, v_fCons, v_f2, v_fVar, v_fAl, v_fNil, List.getElem?_cons_zero, List.getElem?_cons_succ, Option.bind_some, List.append_nil, x1, st]
            rw [seq_nx _ (setRf (r := roots 1) (xs := (List.range n).map fun a => eW (s.F a)) (k := i) rfl rfl (by simpa using hi) sv), setW]
            rw [seq_nx _ (setRf (r := roots 2) (xs := (List.range n).map fun a => D.int (s.h a)) (k := i) rfl rfl (by simpa using hi) rfl), setH]
            rfl
          · rw [decide_eq_false hn]
            show some (Out.nx _) = some (.nx (E (if near (addW (s.F j) (bn, bs)) (s.F i) then _ else s) _ _ _ _))
            rw [if_neg hn]
      rw [body]
      exact h
  have all : ∀ (is : List Nat), (∀ i ∈ is, i < n) → ∀ (s : Bf) (a b c d : Sl), ∃ a' b' c' d', sForL (gSq 2 (gCs (gN 4) (gCs (gN 5) gNl))) L2_relaxed (is.map fun i : Nat => D.tup [.int i, eR ((List.range n).map (T i))]) (E s a b c d) = some (.nx (E (relaxAll T n is s) a' b' c' d')) := by
    intro is
    induction is with
    | nil => exact fun _ s a b c d => ⟨a, b, c, d, rfl⟩
    | cons i is ih =>
      intro hi s a b c d
      obtain ⟨c1, d1, h1⟩ := row i (hi i List.mem_cons_self) (List.range n) (fun j hj => List.mem_range.mp hj) s c d
      obtain ⟨a', b', c', d', h⟩ := ih (fun k hk => hi k (List.mem_cons_of_mem _ hk)) (relaxRow T i (List.range n) s) (.al (.int i)) (.al (eR ((List.range n).map (T i)))) c1 d1
      refine ⟨a', b', c', d', ?_⟩
      rw [List.map_cons, v_sForL1]
      show (L2_relaxed (E s (.al (.int i)) (.al (eR ((List.range n).map (T i)))) c d)).bind _ = _
      have e2 : L2_relaxed (E s (.al (.int i)) (.al (eR ((List.range n).map (T i)))) c d) = some (.nx (E (relaxRow T i (List.range n) s) (.al (.int i)) (.al (eR ((List.range n).map (T i)))) c1 d1)) := by
        unfold L2_relaxed
        rw [v_sFor, enum_rg (n := n) (g := fun j => eB (T i j)) (by show some (eR _) = _; rw [eR_rg])]
        exact h1
      rw [e2]
      exact h
  obtain ⟨a', b', c', d', h⟩ := all (List.range n) (fun i hi => List.mem_range.mp hi) { s with m := none } .no .no .no .no
  refine ⟨.rm (eMv (relax T n s).m) (E (relax T n s) a' b' c' d'), ?_, rfl, fun i hi => ?_⟩
  · show F_relaxed [.al (eM (tabL n T)), .rf (roots 1) (eWs n s.F), .rf (roots 2) (eHs n s.h), .no, .no, .no, .no, .no] = _
    unfold F_relaxed
    rw [seq_nx (E { s with m := none } .no .no .no .no) rfl]
    rw [seq_nx (E (relax T n s) a' b' c' d') (by
      rw [v_sFor, enum_rg (n := n) (g := fun i => eR ((List.range n).map (T i))) (by show some (eM (tabL n T)) = _; rw [eM_tab])]
      exact h)]
    show (if (eMv (relax T n s).m).imm = true then some (eMv (relax T n s).m) else none).bind _ = _
    have im : (eMv (relax T n s).m).imm = true := by
      cases (relax T n s).m with
      | none => exact imm_non
      | some x => exact imm_int
    rw [im]
    rfl
  · simp only [List.mem_cons, List.not_mem_nil, or_false] at hi
    rcases hi with rfl | rfl
    · exact ⟨_, rfl, rfl⟩
    · exact ⟨_, rfl, rfl⟩
end Mt
namespace Mt
open PySem PySem.Spec PyProof.Rows L2 Z G
theorem relax1_hd {n i j : Nat} {T : Tf} {s : Bf} (hj : j < n) (h : ∀ a, a < n → s.h a < n) : ∀ a, a < n → (relax1 T i j s).h a < n := by
  unfold relax1
  cases T i j with
  | none => exact h
  | some b =>
    show ∀ a, a < n → (if near (addW (s.F j) b) (s.F i) then (⟨up1 s.F i (addW (s.F j) b), up1 s.h i j, some i⟩ : Bf) else s).h a < n
    split
    · intro a ha
      show up1 s.h i j a < n
      unfold up1
      split
      · exact hj
      · exact h a ha
    · exact h
theorem relaxRow_hd {n i : Nat} {T : Tf} : ∀ (js : List Nat) {s : Bf}, (∀ j ∈ js, j < n) → (∀ a, a < n → s.h a < n) → ∀ a, a < n → (relaxRow T i js s).h a < n
  | [], _, _, h => h
  | j :: js, s, hj, h => relaxRow_hd js (fun k hk => hj k (List.mem_cons_of_mem _ hk)) (relax1_hd (hj j List.mem_cons_self) h)
theorem relaxAll_hd {n : Nat} {T : Tf} : ∀ (is : List Nat) {s : Bf}, (∀ a, a < n → s.h a < n) → ∀ a, a < n → (relaxAll T n is s).h a < n
  | [], _, h => h
  | i :: is, s, h => relaxAll_hd is (relaxRow_hd (List.range n) (fun j hj => List.mem_range.mp hj) h)
theorem rounds_hd {n : Nat} {T : Tf} {s : Bf} (h : ∀ a, a < n → s.h a < n) : ∀ k a, a < n → (rounds T n k s).h a < n
  | 0 => h
  | k + 1 => relaxAll_hd (List.range n) (rounds_hd h k)
theorem itr_lt {n : Nat} {f : Nat → Nat} (h : ∀ a, a < n → f a < n) {x : Nat} (hx : x < n) : ∀ k, itr f x k < n
  | 0 => hx
  | k + 1 => h _ (itr_lt h hx k)
def bf0 : Bf := ⟨fun _ => (0, 0), fun _ => 0, none⟩
theorem atI_last {α : Type} {xs : List α} {x : α} : atI (xs ++ [x]) (-1) = some x := by
  have e : ixN (xs ++ [x]).length (-1) = some xs.length := by
    unfold ixN
    rw [List.length_append, List.length_singleton]
    have h1 : ¬ (0 : Int) ≤ -1 := by omega
    simp only [h1]
    have h2 : (0 : Int) ≤ -1 + ((xs.length + 1 : Nat) : Int) ∧ -1 + ((xs.length + 1 : Nat) : Int) < ((xs.length + 1 : Nat) : Int) := by omega
    have h3 : (-1 + ((xs.length + 1 : Nat) : Int)).toNat = xs.length := by omega
    simp [h3]
    try omega
  unfold atI
  rw [e]
  simp
theorem ring_of_ok {n : Nat} {T : Tf} (hn : 0 < n) (hn2 : n ≤ 100) : (NoNeg n T ∧ f_ring_of [eM (tabL n T)] = some .non) ∨ ∃ y r, IsRing n T y r ∧ f_ring_of [eM (tabL n T)] = some (.lst ((y :: r).map fun k : Nat => D.int k)) := by
  rw [e_ring_of, F_ring_of]
  let M : D := eM (tabL n T)
  let E : Bf → Sl → Ev := fun s a => [.al M, .ow (eWs n s.F), .ow (eHs n s.h), .al (eMv s.m), a, .no, .no]
  have rows : ∀ ρ : Ev, ρ[0]? = some (.al M) → iSeq (fAl 0) ρ = some ((List.range n).map fun i => eR ((List.range n).map (T i))) := fun ρ h => by
    rw [v_iSeq, v_fAl, h]
    show (eM (tabL n T)).lsq = _
    rw [eM_tab]
    rfl
  rw [seq_nx [.al M, .ow (eWs n fun _ => (0, 0)), .no, .no, .no, .no, .no] (by
    have c := compL_map (G := gN 6) (c := cYes) (e := fTup (fCons (fC (.int 0)) (fCons (fC (.int 0)) fNil))) (ρ := [.al M, .no, .no, .no, .no, .no, .no]) (m := fun i : Nat => eR ((List.range n).map (T i))) (r := fun _ => eW (0, 0)) (List.range n) fun i _ => ⟨_, rfl, rfl, rfl⟩
    rw [v_sOw, fComp_ok (rows _ rfl) c (size2 _ (by simp; omega))]
    rfl)]
  rw [seq_nx [.al M, .ow (eWs n fun _ => (0, 0)), .ow (eHs n fun _ => 0), .no, .no, .no, .no] (by
    have c := compL_map (G := gN 6) (c := cYes) (e := fC (.int 0)) (ρ := [.al M, .ow (eWs n fun _ => (0, 0)), .no, .no, .no, .no, .no]) (m := fun i : Nat => eR ((List.range n).map (T i))) (r := fun _ => D.int ((0 : Nat) : Int)) (List.range n) fun i _ => ⟨_, rfl, rfl, rfl⟩
    rw [v_sOw, fComp_ok (rows _ rfl) c (size2 _ (by simp; omega))]
    rfl)]
  rw [seq_nx (E bf0 .no) rfl]
  have len : ∀ s a, fA dLen (fCons (fAl 0) fNil) (E s a) = some (.int n) := fun s a => by
    show dLen [eM (tabL n T)] = _
    exact lenT
  have one : ∀ (s : Bf) (a : Sl), sAlX 3 (xCallM f_relaxed [(1, 1), (2, 2)] (gSl 0 (gSl 1 (gSl 2 gNil)))) (E s a) = some (.nx (E (relax T n s) a)) := fun s a => by
    have e : f_relaxed [eM (tabL n T), eWs n s.F, eHs n s.h] = some (eMv (relax T n s).m, [eM (tabL n T), eWs n (relax T n s).F, eHs n (relax T n s).h]) := fnM_of (relaxed_ok s)
    have x : xCallM f_relaxed [(1, 1), (2, 2)] (gSl 0 (gSl 1 (gSl 2 gNil))) (E s a) = some (eMv (relax T n s).m, [.al M, .ow (eWs n (relax T n s).F), .ow (eHs n (relax T n s).h), .al (eMv s.m), a, .no, .no]) := by
      show (f_relaxed [eM (tabL n T), eWs n s.F, eHs n s.h]).bind _ = _
      rw [e]
      rfl
    show (xCallM f_relaxed [(1, 1), (2, 2)] (gSl 0 (gSl 1 (gSl 2 gNil))) (E s a)).bind _ = _
    rw [x]
    rfl
  have hdlt : ∀ k a, a < n → (rounds T n k bf0).h a < n := rounds_hd fun _ _ => hn
  have main : ∀ (m k : Nat) (a : Sl), (∃ k', k < k' ∧ k' ≤ k + m ∧ (rounds T n k' bf0).m = none ∧ ∀ ds : List D, ds.length = m → sForL (gN 4) L1_ring_of ds (E (rounds T n k bf0) a) = some (.rt .non)) ∨
      ((0 < m → (rounds T n (k + m) bf0).m ≠ none) ∧ ∀ ds : List D, ds.length = m → ∃ a', sForL (gN 4) L1_ring_of ds (E (rounds T n k bf0) a) = some (.nx (E (rounds T n (k + m) bf0) a'))) := by
    intro m
    induction m with
    | zero => exact fun k a => .inr ⟨fun z => absurd z (Nat.lt_irrefl 0), fun ds hd => by
        have : ds = [] := List.length_eq_zero_iff.mp hd
        subst this
        exact ⟨a, rfl⟩⟩
    | succ m ih =>
      intro k a
      have stepN : ∀ d : D, (rounds T n (k + 1) bf0).m = none → L1_ring_of (E (rounds T n k bf0) (.al d)) = some (.rt .non) := fun d hm => by
        unfold L1_ring_of
        rw [seq_nx _ (one _ _)]
        show sIf (c1 dIsN (fAl 3)) (sRet (fC .non)) sNext (E (rounds T n (k + 1) bf0) (.al d)) = _
        rw [v_sIf]
        simp only [E, v_c1, v_fAl, List.getElem?_cons_zero, List.getElem?_cons_succ, Option.bind_some, hm]
        rfl
      have stepS : ∀ (d : D) (x : Nat), (rounds T n (k + 1) bf0).m = some x → L1_ring_of (E (rounds T n k bf0) (.al d)) = some (.nx (E (rounds T n (k + 1) bf0) (.al d))) := fun d x hm => by
        unfold L1_ring_of
        rw [seq_nx _ (one _ _)]
        show sIf (c1 dIsN (fAl 3)) (sRet (fC .non)) sNext (E (rounds T n (k + 1) bf0) (.al d)) = _
        rw [v_sIf]
        simp only [E, v_c1, v_fAl, List.getElem?_cons_zero, List.getElem?_cons_succ, Option.bind_some, hm]
        rfl
      cases hm : (rounds T n (k + 1) bf0).m with
      | none =>
        refine .inl ⟨k + 1, by omega, by omega, hm, fun ds hd => ?_⟩
        match ds, hd with
        | d :: ds, _ =>
          rw [v_sForL1]
          show (L1_ring_of (E (rounds T n k bf0) (.al d))).bind _ = _
          rw [stepN d hm]
          rfl
      | some x =>
        have next : ∀ (d : D) (ds : List D), sForL (gN 4) L1_ring_of (d :: ds) (E (rounds T n k bf0) a) = sForL (gN 4) L1_ring_of ds (E (rounds T n (k + 1) bf0) (.al d)) := fun d ds => by
          rw [v_sForL1]
          show (L1_ring_of (E (rounds T n k bf0) (.al d))).bind _ = _
          rw [stepS d x hm]
          rfl
        by_cases hmm : ∃ k', k + 1 < k' ∧ k' ≤ k + 1 + m ∧ (rounds T n k' bf0).m = none
        · obtain ⟨k', k1, k2, k3⟩ := hmm
          refine .inl ⟨k', by omega, by omega, k3, fun ds hd => ?_⟩
          match ds, hd with
          | d :: ds, hd =>
            rw [next d ds]
            rcases ih (k + 1) (.al d) with ⟨_, _, _, _, g⟩ | ⟨g1, _⟩
            · exact g ds (by simpa using hd)
            · -- the last one moved, an earlier one not: then the next ones don't either
              exfalso
              have stay : ∀ q, (rounds T n k' bf0).m = none → (rounds T n (k' + q) bf0).m = none := fun q hq => by
                have pot : Pot n T (rounds T n k' bf0).F := by
                  obtain ⟨R, τ, c, h⟩ := rounds_inv (n := n) (T := T) (s := bf0) (k' - 1)
                  have e : k' - 1 + 1 = k' := by omega
                  rw [e] at h
                  exact h.pot hq
                have fix : ∀ s : Bf, Pot n T s.F → (relax T n s).m = none ∧ (relax T n s).F = s.F := fun s hp => by
                  have r1 : ∀ i j (u : Bf), i < n → j < n → u.F = s.F → relax1 T i j u = u := fun i j u hi hj hu => by
                    unfold relax1
                    cases hb : T i j with
                    | none => rfl
                    | some b =>
                      show (if near (addW (u.F j) b) (u.F i) then _ else u) = u
                      rw [hu, if_neg (hp i j b hi hj hb)]
                  have r2 : ∀ i, i < n → ∀ (js : List Nat) (u : Bf), (∀ j ∈ js, j < n) → u.F = s.F → relaxRow T i js u = u := fun i hi js => by
                    induction js with
                    | nil => exact fun _ _ _ => rfl
                    | cons j js ih =>
                      intro u hj hu
                      show relaxRow T i js (relax1 T i j u) = u
                      rw [r1 i j u hi (hj j List.mem_cons_self) hu]
                      exact ih u (fun q hq => hj q (List.mem_cons_of_mem _ hq)) hu
                  have r3 : ∀ (is : List Nat) (u : Bf), (∀ i ∈ is, i < n) → u.F = s.F → relaxAll T n is u = u := fun is => by
                    induction is with
                    | nil => exact fun _ _ _ => rfl
                    | cons i is ih =>
                      intro u hi hu
                      show relaxAll T n is (relaxRow T i (List.range n) u) = u
                      rw [r2 i (hi i List.mem_cons_self) (List.range n) u (fun q hq => List.mem_range.mp hq) hu]
                      exact ih u (fun q hq => hi q (List.mem_cons_of_mem _ hq)) hu
                  have := r3 (List.range n) { s with m := none } (fun q hq => List.mem_range.mp hq) rfl
                  show (relaxAll T n (List.range n) { s with m := none }).m = none ∧ _
                  unfold relax
                  rw [this]
                  exact ⟨rfl, rfl⟩
                have both : ∀ q, (rounds T n (k' + q) bf0).F = (rounds T n k' bf0).F ∧ (rounds T n (k' + q) bf0).m = none := by
                  intro q
                  induction q with
                  | zero => exact ⟨rfl, hq⟩
                  | succ q ihq =>
                    have := fix (rounds T n (k' + q) bf0) (by rw [ihq.1]; exact pot)
                    exact ⟨this.2.trans ihq.1, this.1⟩
                exact (both q).2
              have e : k + 1 + m = k' + (k + 1 + m - k') := by omega
              have := stay (k + 1 + m - k') k3
              rw [← e] at this
              exact g1 (by omega) this
        · refine .inr ⟨fun _ => ?_, fun ds hd => ?_⟩
          · by_cases hm0 : m = 0
            · subst hm0; rw [hm]; simp
            · intro z
              have e : k + 1 + m = k + (m + 1) := by omega
              exact hmm ⟨k + 1 + m, by omega, by omega, by rw [e]; exact z⟩
          · match ds, hd with
            | d :: ds, hd =>
              rcases ih (k + 1) (.al d) with ⟨k', k1, k2, k3, _⟩ | ⟨_, g⟩
              · exact absurd ⟨k', k1, k2, k3⟩ hmm
              · obtain ⟨a', g⟩ := g ds (by simpa using hd)
                refine ⟨a', ?_⟩
                rw [next d ds, g]
                have e : k + 1 + m = k + (m + 1) := by omega
                rw [e]
  have rg1 : iR1 (fCons (f2 dAdd (fA dLen (fCons (fAl 0) fNil)) (fC (.int 1))) fNil) (E bf0 .no) = some ((List.range (n + 1)).map fun i : Nat => D.int (0 + (i : Nat))) := iR1_ok (by
    rw [v_fCons, v_f2, len]
    rfl) (by omega)
  have rg0 : ∀ s a, iR1 (fCons (fA dLen (fCons (fAl 0) fNil)) fNil) (E s a) = some ((List.range n).map fun i : Nat => D.int (0 + (i : Nat))) := fun s a => iR1_ok (by
    rw [v_fCons, len]
    rfl) (by omega)
  rcases main (n + 1) 0 .no with ⟨k', k1, k2, k3, g⟩ | ⟨g1, g⟩
  · left
    obtain ⟨R, τ, c, h⟩ := rounds_inv (n := n) (T := T) (s := bf0) (k' - 1)
    have e : k' - 1 + 1 = k' := by omega
    rw [e] at h
    refine ⟨(h.pot k3).noneg, ?_⟩
    rw [seq_rt (d := .non) (by
      rw [v_sFor, rg1]
      exact g _ (by simp))]
    rfl
  · right
    obtain ⟨a', g⟩ := g ((List.range (n + 1)).map fun i : Nat => D.int (0 + (i : Nat))) (by simp)
    have e0 : 0 + (n + 1) = n + 1 := by omega
    rw [e0] at g g1
    obtain ⟨R, τ, c, h⟩ := rounds_inv (n := n) (T := T) (s := bf0) n
    obtain ⟨x, hx⟩ : ∃ x, (rounds T n (n + 1) bf0).m = some x := by
      cases e : (rounds T n (n + 1) bf0).m with
      | none => exact absurd e (g1 (by omega))
      | some x => exact ⟨x, rfl⟩
    have hhd := hdlt (n + 1)
    obtain ⟨hxn, _⟩ := h.mv x hx
    obtain ⟨_, d, d0, d1, d2⟩ := h.cycle hx
    have ring := h.ring hx d0 d1 d2
    refine ⟨_, _, ring, ?_⟩
    rw [seq_nx (E (rounds T n (n + 1) bf0) a') (by rw [v_sFor, rg1]; exact g)]
    generalize rounds T n (n + 1) bf0 = s at hx hhd d1 d2 ring ⊢
    have turnL : ∀ (m k : Nat) (ds : List D) (a : Sl), ds.length = m → ∃ a', sForL (gN 4) L2_ring_of ds [.al M, .ow (eWs n s.F), .ow (eHs n s.h), .al (.int (itr s.h x k)), a, .no, .no] = some (.nx [.al M, .ow (eWs n s.F), .ow (eHs n s.h), .al (.int (itr s.h x (k + m))), a', .no, .no]) := by
      intro m
      induction m with
      | zero =>
        exact fun k ds a hd => by
          have : ds = [] := List.length_eq_zero_iff.mp hd
          subst this
          exact ⟨a, rfl⟩
      | succ m ih =>
        intro k ds a hd
        match ds, hd with
        | d :: ds, hd =>
          obtain ⟨a', g⟩ := ih (k + 1) ds (.al d) (by simpa using hd)
          refine ⟨a', ?_⟩
          rw [v_sForL1]
          have st : L2_ring_of [.al M, .ow (eWs n s.F), .ow (eHs n s.h), .al (.int (itr s.h x k)), .al d, .no, .no] = some (.nx [.al M, .ow (eWs n s.F), .ow (eHs n s.h), .al (.int (itr s.h x (k + 1))), .al d, .no, .no]) := by
            unfold L2_ring_of
            have ih := ixH (n := n) (h := s.h) (itr_lt hhd hxn k)
            simp only [v_sAl, v_fImm, v_f2, v_fVar, v_fAl, List.getElem?_cons_zero, List.getElem?_cons_succ, Option.bind_some, ih, imm_int, if_true, List.set_cons_zero, List.set_cons_succ]
            rfl
          show (L2_ring_of [.al M, .ow (eWs n s.F), .ow (eHs n s.h), .al (.int (itr s.h x k)), .al d, .no, .no]).bind _ = _
          rw [st]
          have e : k + (m + 1) = k + 1 + m := by omega
          rw [e]
          exact g
    obtain ⟨a2, g2⟩ := turnL n 0 ((List.range n).map fun i : Nat => D.int (0 + (i : Nat))) a' (by simp)
    rw [Nat.zero_add] at g2
    rw [seq_nx [.al M, .ow (eWs n s.F), .ow (eHs n s.h), .al (.int (itr s.h x n)), a2, .no, .no] (by
      rw [v_sFor, rg0]
      have ee : E s a' = [.al M, .ow (eWs n s.F), .ow (eHs n s.h), .al (.int (itr s.h x 0)), a', .no, .no] := by
        show [.al M, .ow (eWs n s.F), .ow (eHs n s.h), .al (eMv s.m), a', .no, .no] = _
        rw [hx]
        rfl
      rw [ee]
      exact g2)]
    have hyn : itr s.h x n < n := itr_lt hhd hxn n
    generalize itr s.h x n = y at d1 d2 ring hyn ⊢
    let W : Nat → Ev := fun k => [.al M, .ow (eWs n s.F), .ow (eHs n s.h), .al (.int y), a2, .ow (.lst ((y :: stepsL s.h y k).map fun k : Nat => D.int k)), .no]
    rw [seq_nx (W 0) (by
      simp only [v_sOw, v_fImm, v_fLst, v_fCons, v_fAl, v_fNil, List.getElem?_cons_zero, List.getElem?_cons_succ, Option.bind_some, imm_int, if_true]
      rfl)]
    have last : ∀ k, atI ((y :: stepsL s.h y k).map fun k : Nat => D.int k) (-1) = some (.int (itr s.h y k)) := fun k => by
      cases k with
      | zero => exact atI_last (xs := [])
      | succ k =>
        rw [stepsL_succ, ← List.cons_append, List.map_append]
        exact atI_last
    have nxt : ∀ k, f2 dIx (fVar 2) (f2 dIx (fVar 5) (f1 dNeg (fC (.int 1)))) (W k) = some (.int (itr s.h y (k + 1))) := fun k => by
      have ih := ixH (n := n) (h := s.h) (itr_lt hhd hyn k)
      simp only [W, v_f2, v_fVar, v_f1, v_fC, List.getElem?_cons_zero, List.getElem?_cons_succ, Option.bind_some, dNeg_int, dIx_lst, last, ih]
      rfl
    have dlen : d ≤ n := by
      have := php n _ ring.nd ring.lt
      simp [stepsL] at this
      omega
    have wl : ∀ m k, k + m = d - 1 → sWhile (c2 dNe (f2 dIx (fVar 2) (f2 dIx (fVar 5) (f1 dNeg (fC (.int 1))))) (fAl 3)) L3_ring_of (W k) = some (.nx (W (d - 1))) := by
      intro m
      induction m with
      | zero =>
        intro k hk
        have e : k = d - 1 := by omega
        subst e
        refine sWhile_end ?_
        rw [v_c2, nxt]
        have e2 : d - 1 + 1 = d := by omega
        rw [e2, d1]
        show dNe (.int (y : Int)) (.int (y : Int)) = _
        simp
      | succ m ih =>
        intro k hk
        refine sWhile_step (ρ' := W (k + 1)) ?_ ?_ (ih (k + 1) (by omega))
        · rw [v_c2, nxt]
          have hne := d2 (k + 1) (by omega) (by omega)
          show dNe (.int (itr s.h y (k + 1) : Int)) (.int (y : Int)) = _
          have hne' : ((itr s.h y (k + 1) : Int) == (y : Int)) = false := by
            rw [beq_eq_false_iff_ne]
            omega
          rw [dNe_int, hne']
          rfl
        · unfold L3_ring_of
          rw [app_nil (y := .int (itr s.h y (k + 1))) (xs := (y :: stepsL s.h y k).map fun k : Nat => D.int k) rfl (by
            rw [v_fCons, v_fImm, nxt]
            rfl) (Nat.lt_of_le_of_lt (by simp [stepsL]; omega) (show 1000 < sizeLine by decide))]
          show some (Out.nx [.al M, .ow (eWs n s.F), .ow (eHs n s.h), .al (.int y), a2, .ow (.lst (((y :: stepsL s.h y k).map fun k : Nat => D.int k) ++ [.int (itr s.h y (k + 1))])), .no]) = _
          have e : ((y :: stepsL s.h y k).map fun k : Nat => D.int k) ++ [D.int (itr s.h y (k + 1))] = (y :: stepsL s.h y (k + 1)).map fun k : Nat => D.int k := by
            rw [stepsL_succ, ← List.cons_append, List.map_append]
            rfl
          rw [e]
    rw [seq_nx (W (d - 1)) (wl (d - 1) 0 (by omega))]
    rfl
end Mt
namespace Mt
open PySem PySem.Spec PyProof.Rows L2 Z G
theorem sForN {G : D → Ev → Option Ev} {F : FS} (S : Nat → Ev → Prop) {n : Nat} {ρ : Ev} (h0 : S 0 ρ) (hs : ∀ (i : Nat) ρ, i < n → S i ρ → ∃ ρ1 ρ', G (.int i) ρ = some ρ1 ∧ F ρ1 = some (.nx ρ') ∧ S (i + 1) ρ') :
    ∃ ρ', sForL G F ((List.range n).map fun i : Nat => D.int (0 + (i : Nat))) ρ = some (.nx ρ') ∧ S n ρ' := by
  obtain ⟨ρ', h1, h2⟩ := sForL_pre (G := G) (F := F) (m := fun i : Nat => D.int (0 + (i : Nat))) S (List.range n) h0 fun i x ρ hx hS => by
    have hi : i < n := by have := (List.getElem?_eq_some_iff.mp hx).1; simpa using this
    rw [List.getElem?_range hi] at hx
    have e := Option.some.inj hx
    subst e
    rw [Int.zero_add]
    exact hs _ ρ hi hS
  rw [List.length_range] at h2
  exact ⟨ρ', h1, h2⟩
theorem setT {ρ : Ev} {s i j n : Nat} {fi fj fv : FE} {C : Tf} {b : Bd} (hs : ρ[s]? = some (.ow (eM (tabL n C)))) (hi : i < n) (hj : j < n) (ei : fi ρ = some (.int i)) (ej : fj ρ = some (.int j)) (ev : fv ρ = some (eB b)) :
    sSetItem s (pIx s (pNil s) fi) fj fv ρ = some (.nx (ρ.set s (.ow (eM (tabL n (up2 C i j b)))))) := by
  rw [setB_ok hs (tab_row hi) (by simpa using hj) ei ej ev, tab_set]
theorem closed_ok {n : Nat} {T : Tf} (hn : 0 < n) (hn2 : n ≤ 100) : (NoNeg n T ∧ f_closed [eM (tabL n T)] = some (.tup [.str "table", eM (tabL n (fw n T n))])) ∨ ∃ y r, IsRing n T y r ∧ f_closed [eM (tabL n T)] = some (.tup [.str "ring", .lst ((y :: r).map fun k : Nat => D.int k)]) := by
  rw [e_closed, F_closed]
  let M : D := eM (tabL n T)
  rcases ring_of_ok (T := T) hn hn2 with ⟨hT, hr⟩ | ⟨y, r, hR, hr⟩
  case inr =>
    refine .inr ⟨y, r, hR, ?_⟩
    rw [seq_nx [.al M, .ow (.lst ((y :: r).map fun k : Nat => D.int k)), .no, .no, .no, .no, .no, .no] (by
      simp only [v_sOw, v_fCall, v_fCons, v_fAl, v_fNil, List.getElem?_cons_zero, Option.bind_some, List.append_nil, M, hr]
      rfl)]
    rw [seq_rt (d := .tup [.str "ring", .lst ((y :: r).map fun k : Nat => D.int k)]) rfl]
    rfl
  refine .inl ⟨hT, ?_⟩
  rw [seq_nx [.al M, .ow .non, .no, .no, .no, .no, .no, .no] (by
    simp only [v_sOw, v_fCall, v_fCons, v_fAl, v_fNil, List.getElem?_cons_zero, Option.bind_some, List.append_nil, M, hr]
    rfl)]
  rw [seq_nx [.al M, .ow .non, .no, .no, .no, .no, .no, .no] rfl]
  rw [seq_nx [.al M, .ow .non, .ow (eM (tabL n T)), .no, .no, .no, .no, .no] (by
    rw [v_sOw, copy_ok (T := tabL n T) rfl (by rw [tab_len]; omega) (fun d => rfl)]
    rfl)]
  let E : Tf → Sl → Sl → Sl → Sl → Ev := fun C a b c d => [.al M, .ow .non, .ow (eM (tabL n C)), a, b, c, d, .no]
  have rg : ∀ C a b c d, iR1 (fCons (fA dLen (fCons (fVar 2) fNil)) fNil) (E C a b c d) = some ((List.range n).map fun i : Nat => D.int (0 + (i : Nat))) := fun C a b c d => iR1_ok (by
    show (Option.bind (dLen [eM (tabL n C)]) _) = _
    rw [lenT]
    rfl) (by omega)
  obtain ⟨ρ1, h1, C1, a1, rfl, e1⟩ := sForN (G := gN 3) (F := L1_closed) (n := n) (fun k ρ => ∃ C a, ρ = E C a .no .no .no ∧ ∀ i j, C i j = if i = j ∧ i < k then zB else T i j) (ρ := E T .no .no .no .no) ⟨T, .no, rfl, fun i j => (if_neg (fun z => Nat.not_lt_zero _ z.2)).symm⟩ (fun k ρ hk ⟨C, a, eρ, hC⟩ => by
    subst eρ
    refine ⟨E C (.al (.int k)) .no .no .no, E (up2 C k k zB) (.al (.int k)) .no .no .no, rfl, ?_, _, _, rfl, fun i j => ?_⟩
    · unfold L1_closed
      rw [setT (b := zB) (n := n) (C := C) (i := k) (j := k) rfl hk hk rfl rfl rfl]
      rfl
    · by_cases e : i = k ∧ j = k
      · obtain ⟨rfl, rfl⟩ := e
        rw [up2_same, if_pos ⟨rfl, by omega⟩]
      · rw [up2_ne e, hC i j]
        by_cases e2 : i = j ∧ i < k
        · rw [if_pos e2, if_pos ⟨e2.1, by omega⟩]
        · rw [if_neg e2, if_neg (by omega)])
  have hC1 : tabL n C1 = tabL n (fw n T 0) := tab_congr fun i j hi hj => by rw [e1 i j]; rfl
  rw [seq_nx (E (fw n T 0) a1 .no .no .no) (by
    rw [v_sFor]
    show (iR1 _ (E T .no .no .no .no)).bind _ = _
    rw [rg]
    show sForL _ _ _ (E T .no .no .no .no) = _
    rw [h1]
    show some (Out.nx [.al M, .ow .non, .ow (eM (tabL n C1)), a1, .no, .no, .no, .no]) = _
    rw [hC1])]
  have inner : ∀ (k i : Nat) (C : Tf), C k k = zB → k < n → i < n → ∀ (c d : Sl), ∃ c' d', sForL (gN 5) L2_closed ((List.range n).map fun i : Nat => D.int (0 + (i : Nat))) (E (midT n k i 0 C) (.al (.int k)) (.al (.int i)) c d) = some (.nx (E (midT n k (i + 1) 0 C) (.al (.int k)) (.al (.int i)) c' d')) := fun k i C hkk hk hi c d => by
    obtain ⟨ρ1, h1, c', d', e1⟩ := sForN (G := gN 5) (F := L2_closed) (n := n) (fun j ρ => ∃ c d, ρ = E (midT n k i j C) (.al (.int k)) (.al (.int i)) c d) (ρ := E (midT n k i 0 C) (.al (.int k)) (.al (.int i)) c d) ⟨c, d, rfl⟩ (fun j ρ hj ⟨c, d, eρ⟩ => by
      subst eρ
      have bs := bound_sum_ok (midT n k i j C i k) (midT n k i j C k j)
      have tt := tighterB_ok (addB (midT n k i j C i k) (midT n k i j C k j)) (midT n k i j C i j)
      have st := midT_step (C := C) hkk hi hj
      have xi := ixT (n := n) (C := midT n k i j C) hi
      have xk := ixT (n := n) (C := midT n k i j C) hk
      refine ⟨E (midT n k i j C) (.al (.int k)) (.al (.int i)) (.al (.int j)) d, E (midT n k i (j + 1) C) (.al (.int k)) (.al (.int i)) (.al (.int j)) (.al (eB (addB (midT n k i j C i k) (midT n k i j C k j)))), rfl, ?_, _, _, rfl⟩
      unfold L2_closed
      rw [seq_nx (E (midT n k i j C) (.al (.int k)) (.al (.int i)) (.al (.int j)) (.al (eB (addB (midT n k i j C i k) (midT n k i j C k j))))) (by
        simp only [E, v_sAl, v_fCall, v_fCons, v_f2, v_fVar, v_fAl, v_fNil, List.getElem?_cons_zero, List.getElem?_cons_succ, Option.bind_some, List.append_nil, xi, xk, ixR hk, ixR hj, bs, List.set_cons_zero, List.set_cons_succ])]
      rw [v_sIf]
      have cd : c1 dTru (fCall f_tighter [] (fCons (fAl 6) (fCons (f2 dIx (f2 dIx (fVar 2) (fAl 4)) (fAl 5)) fNil))) (E (midT n k i j C) (.al (.int k)) (.al (.int i)) (.al (.int j)) (.al (eB (addB (midT n k i j C i k) (midT n k i j C k j))))) = some (tightB (addB (midT n k i j C i k) (midT n k i j C k j)) (midT n k i j C i j)) := by
        simp only [E, v_c1, v_fCall, v_fCons, v_f2, v_fVar, v_fAl, v_fNil, List.getElem?_cons_zero, List.getElem?_cons_succ, Option.bind_some, List.append_nil, xi, ixR hj, tt, dTru_bl]
      rw [cd, ← st]
      unfold turnS turn minB
      cases ht : tightB (addB (midT n k i j C i k) (midT n k i j C k j)) (midT n k i j C i j) with
      | true =>
        rw [if_pos rfl]
        show sSetItem _ _ _ _ _ = _
        rw [setT (b := addB (midT n k i j C i k) (midT n k i j C k j)) (n := n) (C := midT n k i j C) (i := i) (j := j) rfl hi hj rfl rfl (by
          show (if (eB _).imm = true then some (eB _) else none) = _
          rw [eB_imm]
          rfl)]
        rfl
      | false =>
        rw [if_neg Bool.false_ne_true]
        have e : up2 (midT n k i j C) i j (midT n k i j C i j) = midT n k i j C := by
          funext a b
          by_cases z : a = i ∧ b = j
          · rw [z.1, z.2, up2_same]
          · rw [up2_ne z]
        rw [e]
        rfl)
    refine ⟨c', d', ?_⟩
    rw [h1, e1]
    have em : midT n k i n C = midT n k (i + 1) 0 C := by
      funext a b
      unfold midT
      by_cases z : a < n ∧ b < n ∧ (a < i ∨ (a = i ∧ b < n))
      · rw [if_pos z, if_pos (by omega)]
      · rw [if_neg z, if_neg (by omega)]
    rw [em]
  obtain ⟨ρ2, h2, a2, b2', c2', d2', e2⟩ := sForN (G := gN 3) (F := L4_closed) (n := n) (fun k ρ => ∃ a b c d, ρ = E (fw n T k) a b c d) (ρ := E (fw n T 0) a1 .no .no .no) ⟨_, _, _, _, rfl⟩ (fun k ρ hk ⟨a, b, c, d, eρ⟩ => by
    subst eρ
    have hkk := (fw_turned hT k (by omega)).dg k hk
    obtain ⟨ρ1, h1, b', c', d', e1⟩ := sForN (G := gN 4) (F := L3_closed) (n := n) (fun i ρ => ∃ b c d, ρ = E (midT n k i 0 (fw n T k)) (.al (.int k)) b c d) (ρ := E (midT n k 0 0 (fw n T k)) (.al (.int k)) b c d) ⟨_, _, _, rfl⟩ (fun i ρ hi ⟨b, c, d, eρ⟩ => by
      subst eρ
      obtain ⟨c', d', hin⟩ := inner k i (fw n T k) hkk hk hi c d
      refine ⟨E (midT n k i 0 (fw n T k)) (.al (.int k)) (.al (.int i)) c d, E (midT n k (i + 1) 0 (fw n T k)) (.al (.int k)) (.al (.int i)) c' d', rfl, ?_, _, _, _, rfl⟩
      unfold L3_closed
      rw [v_sFor, rg]
      exact hin)
    have m0 : midT n k 0 0 (fw n T k) = fw n T k := by
      funext a b
      unfold midT
      rw [if_neg (by omega)]
    have mn : tabL n (midT n k n 0 (fw n T k)) = tabL n (fw n T (k + 1)) := tab_congr fun i j hi hj => by
      unfold midT
      rw [if_pos (by omega)]
      rfl
    rw [m0] at h1
    refine ⟨E (fw n T k) (.al (.int k)) b c d, E (fw n T (k + 1)) (.al (.int k)) b' c' d', rfl, ?_, _, _, _, _, rfl⟩
    unfold L4_closed
    rw [v_sFor, rg]
    show sForL _ _ _ (E (fw n T k) (.al (.int k)) b c d) = _
    rw [h1, e1]
    show some (Out.nx [.al M, .ow .non, .ow (eM (tabL n (midT n k n 0 (fw n T k)))), .al (.int k), b', c', d', .no]) = _
    rw [mn])
  subst e2
  rw [seq_nx (E (fw n T n) a2 b2' c2' d2') (by rw [v_sFor, rg]; exact h2)]
  rfl
end Mt
namespace Mt
open PySem PySem.Spec PyProof.Rows L2 Z G
theorem lsum_ok (a b : Bd) : f__law_sum [eB a, eB b] = some (eB (addB a b)) := by
  rw [e__law_sum, F__law_sum]
  cases a with
  | none => simp [addB]
  | some p =>
    obtain ⟨n, s⟩ := p
    cases b with
    | none => simp [addB]
    | some q =>
      obtain ⟨m, t⟩ := q
      cases s <;> simp [addB]
theorem ltight2_ok (a b : Bd) : f__law_tighter_v2 [eB a, eB b] = some (.bl (tightB a b)) := by
  rw [e__law_tighter_v2, F__law_tighter_v2]
  cases a with
  | none => simp [tightB]
  | some p =>
    obtain ⟨n, s⟩ := p
    cases b with
    | none => simp [tightB]
    | some q =>
      obtain ⟨m, t⟩ := q
      by_cases h1 : n < m
      · simp [tightB, h1]
      · by_cases h2 : n = m
        · subst h2
          cases s <;> cases t <;> simp [tightB]
        · have h3 : (n == m) = false := by simpa using h2
          simp [tightB, h1, h2, h3]
theorem viaL_app (D : Tf) (i j : Nat) : ∀ (ms : List Nat) (m : Nat) (x : Bd), viaL D i j (ms ++ [m]) x = minB (viaL D i j ms x) (addB (D i m) (D m j))
  | [], m, x => rfl
  | k :: ms, m, x => viaL_app D i j ms m _
def midL (n i j : Nat) (C : Tf) : Tf := fun a b => if a < n ∧ b < n ∧ (a < i ∨ (a = i ∧ b < j)) then dbl n C a b else C a b
def dblK (n : Nat) (C : Tf) : Nat → Tf
  | 0 => C
  | k + 1 => dbl n (dblK n C k)
def diagOk (n : Nat) (C : Tf) : Bool := (List.range n).all fun i => decide (C i i = zB)
theorem midL_set {n i j : Nat} {C : Tf} (hi : i < n) (hj : j < n) : up2 (midL n i j C) i j (dbl n C i j) = midL n i (j + 1) C := by
  funext a b
  by_cases z : a = i ∧ b = j
  · obtain ⟨rfl, rfl⟩ := z
    rw [up2_same]
    unfold midL
    rw [if_pos (by omega)]
  · rw [up2_ne z]
    unfold midL
    by_cases c : a < n ∧ b < n ∧ (a < i ∨ (a = i ∧ b < j))
    · rw [if_pos c, if_pos (by omega)]
    · rw [if_neg c, if_neg (by omega)]
theorem any_bl {α : Type} {p : α → Bool} {xs : List α} : dAny [.lst (xs.map fun a => D.bl (p a))] = some (.bl (xs.any p)) := by
  have e : ∀ xs : List α, Z.allB (xs.map fun a => D.bl (p a)) = some (xs.map p) := fun xs => by
    induction xs with
    | nil => rfl
    | cons a xs ih =>
      show (Z.allB (xs.map fun a => D.bl (p a))).bind _ = _
      rw [ih]
      rfl
  show (Z.allB _).bind _ = _
  rw [e]
  show some (D.bl ((xs.map p).any id)) = _
  rw [List.any_map]
  rfl
theorem all_bl {α : Type} {p : α → Bool} {xs : List α} : dAll [.lst (xs.map fun a => D.bl (p a))] = some (.bl (xs.all p)) := by
  have e : ∀ xs : List α, Z.allB (xs.map fun a => D.bl (p a)) = some (xs.map p) := fun xs => by
    induction xs with
    | nil => rfl
    | cons a xs ih =>
      show (Z.allB (xs.map fun a => D.bl (p a))).bind _ = _
      rw [ih]
      rfl
  show (Z.allB _).bind _ = _
  rw [e]
  show some (D.bl ((xs.map p).all id)) = _
  rw [List.all_map]
  rfl
theorem lclosed_ok {n : Nat} {T : Tf} (hn2 : n ≤ 100) : f__law_closed [eM (tabL n T)] = some (if diagOk n (dblK n (way1 n T) 4) then eM (tabL n (dblK n (way1 n T) 4)) else .non) := by
  rw [e__law_closed, F__law_closed]
  let M : D := eM (tabL n T)
  rw [seq_nx [.al M, .ow (eM (tabL n T)), .no, .no, .no, .no, .no, .no, .no] (by
    rw [v_sOw, copy_ok (T := tabL n T) rfl (by rw [tab_len]; omega) (fun d => rfl)]
    rfl)]
  let E : Tf → Sl → Sl → Sl → Sl → Sl → Sl → Ev := fun C a b c d e f => [.al M, .ow (eM (tabL n C)), a, b, c, d, e, f, .no]
  have rgV : ∀ C a b c d e f, iR1 (fCons (fA dLen (fCons (fVar 1) fNil)) fNil) (E C a b c d e f) = some ((List.range n).map fun i : Nat => D.int (0 + (i : Nat))) := fun C a b c d e f => iR1_ok (by
    show (Option.bind (dLen [eM (tabL n C)]) _) = _
    rw [lenT]
    rfl) (by omega)
  obtain ⟨ρ1, h1, C1, a1, rfl, e1⟩ := sForN (G := gN 2) (F := L1__law_closed) (n := n) (fun k ρ => ∃ C a, ρ = E C a .no .no .no .no .no ∧ ∀ i j, C i j = if i = j ∧ i < k then (if tightB (T i i) zB = true then T i i else zB) else T i j) (ρ := E T .no .no .no .no .no .no) ⟨T, .no, rfl, fun i j => (if_neg (fun z => Nat.not_lt_zero _ z.2)).symm⟩ (fun k ρ hk ⟨C, a, eρ, hC⟩ => by
    subst eρ
    have hkk : C k k = T k k := by rw [hC k k, if_neg (by omega)]
    have xk := ixT (n := n) (C := C) hk
    have tt := ltight2_ok (C k k) zB
    have cd : cNot (c1 dTru (fCall f__law_tighter_v2 [] (fCons (f2 dIx (f2 dIx (fVar 1) (fAl 2)) (fAl 2)) (fCons (fTup (fCons (fC (.int 0)) (fCons (fC (.bl false)) fNil))) fNil)))) (E C (.al (.int k)) .no .no .no .no .no) = some (!tightB (C k k) zB) := by
      simp only [E, v_cNot, v_c1, v_fCall, v_fCons, v_f2, v_fVar, v_fAl, v_fTup, v_fC, v_fNil, List.getElem?_cons_zero, List.getElem?_cons_succ, Option.bind_some, List.append_nil, xk, ixR hk]
      show ((f__law_tighter_v2 [eB (C k k), eB zB]).bind dTru).bind _ = _
      rw [tt]
      rfl
    cases ht : tightB (C k k) zB with
    | true =>
      refine ⟨E C (.al (.int k)) .no .no .no .no .no, E C (.al (.int k)) .no .no .no .no .no, rfl, ?_, _, _, rfl, fun i j => ?_⟩
      · unfold L1__law_closed
        rw [v_sIf, cd, ht]
        rfl
      · rw [hC i j]
        by_cases e2 : i = j ∧ i < k
        · rw [if_pos e2, if_pos (show i = j ∧ i < k + 1 from ⟨e2.1, by omega⟩)]
        · rw [if_neg e2]
          by_cases e3 : i = j ∧ i < k + 1
          · have : i = k := by omega
            subst this
            obtain ⟨rfl, _⟩ := e3
            rw [if_pos (show i = i ∧ i < i + 1 from ⟨rfl, by omega⟩), ← hkk, if_pos ht]
          · rw [if_neg e3]
    | false =>
      refine ⟨E C (.al (.int k)) .no .no .no .no .no, E (up2 C k k zB) (.al (.int k)) .no .no .no .no .no, rfl, ?_, _, _, rfl, fun i j => ?_⟩
      · unfold L1__law_closed
        rw [v_sIf, cd, ht]
        show sSetItem _ _ _ _ _ = _
        rw [setT (b := zB) (n := n) (C := C) (i := k) (j := k) rfl hk hk rfl rfl rfl]
        rfl
      · by_cases e : i = k ∧ j = k
        · obtain ⟨rfl, rfl⟩ := e
          rw [up2_same, if_pos (show j = j ∧ j < j + 1 from ⟨rfl, by omega⟩), ← hkk, if_neg (show ¬ tightB (C j j) zB = true by rw [ht]; simp)]
        · rw [up2_ne e, hC i j]
          by_cases e2 : i = j ∧ i < k
          · rw [if_pos e2, if_pos (show i = j ∧ i < k + 1 from ⟨e2.1, by omega⟩)]
          · rw [if_neg e2, if_neg (by omega)])
  have hC1 : tabL n C1 = tabL n (dblK n (way1 n T) 0) := tab_congr fun i j hi hj => by rw [e1 i j]; rfl
  rw [seq_nx (E (dblK n (way1 n T) 0) a1 .no .no .no .no .no) (by
    rw [v_sFor]
    show (iR1 _ (E T .no .no .no .no .no .no)).bind _ = _
    rw [rgV]
    show sForL _ _ _ (E T .no .no .no .no .no .no) = _
    rw [h1]
    show some (Out.nx [.al M, .ow (eM (tabL n C1)), a1, .no, .no, .no, .no, .no, .no]) = _
    rw [hC1])]
  have place : ∀ (C : Tf) (i j : Nat) (b g h : Sl), i < n → j < n → ∃ g' h', sForL (gN 6) L2__law_closed ((List.range n).map fun i : Nat => D.int (0 + (i : Nat))) (E C (.al (.int i)) b (.ow (eM (tabL n (midL n i j C)))) (.al (.int j)) g h) = some (.nx (E C (.al (.int i)) b (.ow (eM (tabL n (midL n i (j + 1) C)))) (.al (.int j)) g' h')) := fun C i j b g h hi hj => by
    obtain ⟨ρ1, h1, g', h', e1⟩ := sForN (G := gN 6) (F := L2__law_closed) (n := n) (fun m ρ => ∃ g h, ρ = E C (.al (.int i)) b (.ow (eM (tabL n (up2 (midL n i j C) i j (viaL C i j (List.range m) (C i j)))))) (.al (.int j)) g h) (ρ := E C (.al (.int i)) b (.ow (eM (tabL n (midL n i j C)))) (.al (.int j)) g h) ⟨g, h, by
      have e : up2 (midL n i j C) i j (viaL C i j (List.range 0) (C i j)) = midL n i j C := by
        funext a b
        by_cases z : a = i ∧ b = j
        · obtain ⟨rfl, rfl⟩ := z
          rw [up2_same]
          unfold midL
          rw [if_neg (by omega)]
          rfl
        · rw [up2_ne z]
      rw [e]⟩ (fun m ρ hm ⟨g, h, eρ⟩ => by
      subst eρ
      have xi := ixT (n := n) (C := C) hi
      have xm := ixT (n := n) (C := C) hm
      have sm := lsum_ok (C i m) (C m j)
      have tt := ltight2_ok (addB (C i m) (C m j)) (viaL C i j (List.range m) (C i j))
      have xl := ixT (n := n) (C := up2 (midL n i j C) i j (viaL C i j (List.range m) (C i j))) hi
      refine ⟨E C (.al (.int i)) b (.ow (eM (tabL n (up2 (midL n i j C) i j (viaL C i j (List.range m) (C i j)))))) (.al (.int j)) (.al (.int m)) h, E C (.al (.int i)) b (.ow (eM (tabL n (up2 (midL n i j C) i j (viaL C i j (List.range (m + 1)) (C i j)))))) (.al (.int j)) (.al (.int m)) (.al (eB (addB (C i m) (C m j)))), rfl, ?_, _, _, rfl⟩
      unfold L2__law_closed
      rw [seq_nx (E C (.al (.int i)) b (.ow (eM (tabL n (up2 (midL n i j C) i j (viaL C i j (List.range m) (C i j)))))) (.al (.int j)) (.al (.int m)) (.al (eB (addB (C i m) (C m j))))) (by
        simp only [E, v_sAl, v_fCall, v_fCons, v_f2, v_fVar, v_fAl, v_fNil, List.getElem?_cons_zero, List.getElem?_cons_succ, Option.bind_some, List.append_nil, xi, xm, ixR hm, ixR hj, sm, List.set_cons_zero, List.set_cons_succ])]
      rw [v_sIf]
      have cd : c1 dTru (fCall f__law_tighter_v2 [] (fCons (fAl 7) (fCons (f2 dIx (f2 dIx (fVar 4) (fAl 2)) (fAl 5)) fNil))) (E C (.al (.int i)) b (.ow (eM (tabL n (up2 (midL n i j C) i j (viaL C i j (List.range m) (C i j)))))) (.al (.int j)) (.al (.int m)) (.al (eB (addB (C i m) (C m j))))) = some (tightB (addB (C i m) (C m j)) (viaL C i j (List.range m) (C i j))) := by
        simp only [E, v_c1, v_fCall, v_fCons, v_f2, v_fVar, v_fAl, v_fNil, List.getElem?_cons_zero, List.getElem?_cons_succ, Option.bind_some, List.append_nil, xl, ixR hj, up2_same, tt, dTru_bl]
      have ev : viaL C i j (List.range (m + 1)) (C i j) = minB (viaL C i j (List.range m) (C i j)) (addB (C i m) (C m j)) := by rw [List.range_succ, viaL_app]
      have eup : ∀ (X : Tf) (x y : Bd), up2 (up2 X i j x) i j y = up2 X i j y := fun X x y => by
        funext a b
        by_cases z : a = i ∧ b = j
        · obtain ⟨rfl, rfl⟩ := z
          rw [up2_same, up2_same]
        · rw [up2_ne z, up2_ne z, up2_ne z]
      rw [cd, ev]
      unfold minB
      cases ht : tightB (addB (C i m) (C m j)) (viaL C i j (List.range m) (C i j)) with
      | true =>
        rw [if_pos rfl]
        show sSetItem _ _ _ _ _ = _
        rw [setT (b := addB (C i m) (C m j)) (n := n) (C := up2 (midL n i j C) i j (viaL C i j (List.range m) (C i j))) (i := i) (j := j) rfl hi hj rfl rfl (by
          show (if (eB _).imm = true then some (eB _) else none) = _
          rw [eB_imm]
          rfl), eup]
        rfl
      | false =>
        rw [if_neg Bool.false_ne_true]
        rfl)
    refine ⟨g', h', ?_⟩
    rw [h1, e1]
    have em : up2 (midL n i j C) i j (viaL C i j (List.range n) (C i j)) = midL n i (j + 1) C := midL_set hi hj
    rw [em]
  have turn1 : ∀ (C : Tf) (a b c d e f : Sl), ∃ a' d' e' f', L5__law_closed (E C a b c d e f) = some (.nx (E (dbl n C) a' b .no d' e' f')) := fun C a b c d e f => by
    unfold L5__law_closed
    rw [seq_nx (E C a b (.ow (eM (tabL n C))) d e f) (by
      rw [v_sOw]
      show (fComp (iSeq (fAl 1)) (gN 8) cYes (fA dList (fCons (fAl 8) fNil)) [8] [.al M, .al (eM (tabL n C)), a, b, c, d, e, f, .no]).bind _ = _
      rw [copy_ok (T := tabL n C) rfl (by rw [tab_len]; omega) (fun d => rfl)]
      rfl)]
    obtain ⟨ρ2, h2, a', d', e', f', e2⟩ := sForN (G := gN 2) (F := L4__law_closed) (n := n) (fun i ρ => ∃ a d e f, ρ = E C a b (.ow (eM (tabL n (midL n i 0 C)))) d e f) (ρ := E C a b (.ow (eM (tabL n C))) d e f) ⟨a, d, e, f, by
      have e : midL n 0 0 C = C := by
        funext a b
        unfold midL
        rw [if_neg (by omega)]
      rw [e]⟩ (fun i ρ hi ⟨a, d, e, f, eρ⟩ => by
      subst eρ
      obtain ⟨ρ1, h1, d', e', f', e1⟩ := sForN (G := gN 5) (F := L3__law_closed) (n := n) (fun j ρ => ∃ d e f, ρ = E C (.al (.int i)) b (.ow (eM (tabL n (midL n i j C)))) d e f) (ρ := E C (.al (.int i)) b (.ow (eM (tabL n (midL n i 0 C)))) d e f) ⟨_, _, _, rfl⟩ (fun j ρ hj ⟨d, e, f, eρ⟩ => by
        subst eρ
        obtain ⟨g', h', hp⟩ := place C i j b e f hi hj
        refine ⟨E C (.al (.int i)) b (.ow (eM (tabL n (midL n i j C)))) (.al (.int j)) e f, E C (.al (.int i)) b (.ow (eM (tabL n (midL n i (j + 1) C)))) (.al (.int j)) g' h', rfl, ?_, _, _, _, rfl⟩
        unfold L3__law_closed
        rw [v_sFor, rgV]
        exact hp)
      refine ⟨E C (.al (.int i)) b (.ow (eM (tabL n (midL n i 0 C)))) d e f, E C (.al (.int i)) b (.ow (eM (tabL n (midL n (i + 1) 0 C)))) d' e' f', rfl, ?_, _, _, _, _, rfl⟩
      unfold L4__law_closed
      rw [v_sFor, rgV]
      show sForL _ _ _ (E C (.al (.int i)) b (.ow (eM (tabL n (midL n i 0 C)))) d e f) = _
      rw [h1, e1]
      have em : midL n i n C = midL n (i + 1) 0 C := by
        funext a b
        unfold midL
        by_cases z : a < n ∧ b < n ∧ (a < i ∨ (a = i ∧ b < n))
        · rw [if_pos z, if_pos (by omega)]
        · rw [if_neg z, if_neg (by omega)]
      rw [em])
    have em : tabL n (midL n n 0 C) = tabL n (dbl n C) := tab_congr fun i j hi hj => by
      unfold midL
      rw [if_pos (by omega)]
    refine ⟨a', d', e', f', ?_⟩
    rw [seq_nx (E C a' b (.ow (eM (tabL n (dbl n C)))) d' e' f') (by
      rw [v_sFor, rgV]
      show sForL _ _ _ (E C a b (.ow (eM (tabL n C))) d e f) = _
      rw [h2, e2, em])]
    rfl
  obtain ⟨ρ3, h3, a3, c3, d3, e3, f3, g3, ee3⟩ := sForN (G := gN 3) (F := L5__law_closed) (n := 4) (fun k ρ => ∃ a b c d e f, ρ = E (dblK n (way1 n T) k) a b c d e f) (ρ := E (dblK n (way1 n T) 0) a1 .no .no .no .no .no) ⟨_, _, _, _, _, _, rfl⟩ (fun k ρ hk ⟨a, b, c, d, e, f, eρ⟩ => by
    subst eρ
    obtain ⟨a', d', e', f', h⟩ := turn1 (dblK n (way1 n T) k) a (.al (.int k)) c d e f
    exact ⟨E (dblK n (way1 n T) k) a (.al (.int k)) c d e f, E (dblK n (way1 n T) (k + 1)) a' (.al (.int k)) .no d' e' f', rfl, h, _, _, _, _, _, _, rfl⟩)
  subst ee3
  rw [seq_nx (E (dblK n (way1 n T) 4) a3 c3 d3 e3 f3 g3) (by
    rw [v_sFor, iR1_ok (n := 4) rfl (by decide)]
    exact h3)]
  generalize dblK n (way1 n T) 4 = C
  have cm := compL_map (G := gN 2) (c := cYes) (e := fB (c2 dNe (f2 dIx (f2 dIx (fVar 1) (fAl 2)) (fAl 2)) (fTup (fCons (fC (.int 0)) (fCons (fC (.bl false)) fNil))))) (ρ := E C .no c3 d3 e3 f3 g3) (m := fun i : Nat => D.int (0 + (i : Nat))) (r := fun i => D.bl (!decide (C i i = zB))) (List.range n) fun i hi => ⟨E C (.al (.int i)) c3 d3 e3 f3 g3, by rw [Int.zero_add]; rfl, rfl, by
    have hi := List.mem_range.mp hi
    have xi := ixT (n := n) (C := C) hi
    have ne := dNe_B (C i i) zB
    simp only [E, v_fB, v_c2, v_f2, v_fVar, v_fAl, v_fTup, v_fCons, v_fC, v_fNil, List.getElem?_cons_zero, List.getElem?_cons_succ, Option.bind_some, xi, ixR hi]
    show (dNe (eB (C i i)) (eB zB)).bind _ = _
    rw [ne]
    rfl⟩
  have an : c1 dTru (fA dAny (fCons (fComp (iR1 (fCons (fA dLen (fCons (fVar 1) fNil)) fNil)) (gN 2) cYes (fB (c2 dNe (f2 dIx (f2 dIx (fVar 1) (fAl 2)) (fAl 2)) (fTup (fCons (fC (.int 0)) (fCons (fC (.bl false)) fNil))))) [2]) fNil)) (E C a3 c3 d3 e3 f3 g3) = some (!diagOk n C) := by
    rw [v_c1, v_fA, v_fCons, fComp_ok (rgV C a3 c3 d3 e3 f3 g3) cm (size2 _ (by simp; omega))]
    show (dAny [.lst ((List.range n).map fun i => D.bl (!decide (C i i = zB)))]).bind dTru = _
    rw [any_bl]
    show some ((List.range n).any fun i => !decide (C i i = zB)) = _
    unfold diagOk
    rw [List.not_all_eq_any_not]
  cases hd : diagOk n C with
  | true =>
    rw [seq_nx (E C a3 c3 d3 e3 f3 g3) (by rw [v_sIf, an, hd]; rfl)]
    rfl
  | false =>
    rw [seq_rt (d := .non) (by rw [v_sIf, an, hd]; rfl)]
    rfl
end Mt
namespace Mt
open PySem PySem.Spec PyProof.Rows L2 Z G
abbrev eIs (l : List Nat) : D := .lst (l.map fun k : Nat => D.int k)
theorem intsOf_nat : ∀ l : List Nat, intsOf (l.map fun k : Nat => D.int k) = some (l.map fun k : Nat => (k : Int))
  | [] => rfl
  | k :: l => by
    show (intsOf (l.map fun k : Nat => D.int k)).bind _ = _
    rw [intsOf_nat l]
    rfl
theorem lenSet_nat {l : List Nat} (h : l.Nodup) (hl : l.length ≤ 4000) : dLenSet (eIs l) = some (.int l.length) := by
  show (intsOf (l.map fun k : Nat => D.int k)).bind _ = _
  rw [intsOf_nat]
  show gd _ _ = _
  rw [gd_pos ⟨by
    rw [List.nodup_iff_pairwise_ne, List.pairwise_map]
    rw [List.nodup_iff_pairwise_ne] at h
    exact h.imp fun {a b} hab e => hab (by omega), by rw [List.length_map]; exact hl⟩, List.length_map]
theorem wsum_take {T : Tf} : ∀ (r : List Nat) (x k : Nat) (y : Nat), r[k]? = some y → wsum T x (r.take (k + 1)) = addB (wsum T x (r.take k)) (T ((x :: r).getD k 0) y)
  | [], _, _, _, h => by simp at h
  | z :: r, x, 0, y, h => by
    simp at h
    subst h
    show addB (T x z) (wsum T z (r.take 0)) = addB zB (T x z)
    rw [List.take_zero]
    show addB (T x z) zB = _
    rw [addB_z, z_addB]
  | z :: r, x, k + 1, y, h => by
    have ih := wsum_take (T := T) r z k y (by simpa using h)
    show addB (T x z) (wsum T z (r.take (k + 1))) = addB (addB (T x z) (wsum T z (r.take k))) _
    rw [ih, addB_assoc]
    rfl
theorem wend_last : ∀ (r : List Nat) (x : Nat), wend x r = (x :: r).getLast (by simp)
  | [], x => rfl
  | z :: r, x => by
    show wend z r = _
    exact (wend_last r z).trans (List.getLast_cons (by simp)).symm
theorem neg_at {α : Type} {xs : List α} (h : xs ≠ []) : atI xs (-1) = some (xs.getLast h) := by
  conv => lhs; rw [← List.dropLast_concat_getLast h]
  exact atI_last
theorem lring_ok {n y : Nat} {r : List Nat} {T : Tf} (h : IsRing n T y r) (hn : n ≤ 100) : f__law_is_ring [eIs (y :: r), eM (tabL n T)] = some (.bl true) := by
  rw [e__law_is_ring, F__law_is_ring]
  have hlen := php n _ h.nd h.lt
  have ls := lenSet_nat h.nd (by omega)
  have hll : ¬ ((y :: r).length : Int) < ((y :: r).length : Nat) := by omega
  have hl0 : (((y :: r).length : Int) == 0) = false := by rw [beq_eq_false_iff_ne]; simp; omega
  rw [seq_nx [.al (eIs (y :: r)), .al (eM (tabL n T)), .no, .no, .no] (by
    rw [v_sIf]
    have e1 : fA dLen (fCons (fAl 0) fNil) [.al (eIs (y :: r)), .al (eM (tabL n T)), .no, .no, .no] = some (.int (y :: r).length) := by
      show dLen [eIs (y :: r)] = _
      rw [dLen_lst, List.length_map]
    simp only [v_cOr, v_cNot, v_c1, v_c2, e1, v_f1, v_fAl, v_fC, List.getElem?_cons_zero, Option.bind_some, ls, dEq_int, hl0, pI_int, decide_eq_false hll]
    rfl)]
  have cm := compL_map (G := gN 4) (c := cYes) (e := fAnd (fCall f__law_whole [] (fCons (fAl 4) fNil)) (fB (cChain dLe dLt (fC (.int 0)) (fAl 4) (fA dLen (fCons (fAl 1) fNil))))) (ρ := [.al (eIs (y :: r)), .al (eM (tabL n T)), .no, .no, .no]) (m := fun k : Nat => D.int k) (r := fun _ => D.bl true) (y :: r) fun k hk => ⟨[.al (eIs (y :: r)), .al (eM (tabL n T)), .no, .no, .al (.int k)], rfl, rfl, by
    have hkn := h.lt k hk
    have e2 : fA dLen (fCons (fAl 1) fNil) [.al (eIs (y :: r)), .al (eM (tabL n T)), .no, .no, .al (.int k)] = some (.int n) := by
      show dLen [eM (tabL n T)] = _
      exact lenT
    have h0 : (0 : Int) ≤ k := by omega
    have h1 : (k : Int) < n := by omega
    simp only [v_fAnd, v_fCall, v_fCons, v_fAl, v_fNil, List.getElem?_cons_zero, List.getElem?_cons_succ, Option.bind_some, List.append_nil, lwhole_int, v_fB, v_cChain, v_fC, pI_int, decide_eq_true h0, if_true, e2, decide_eq_true h1]⟩
  rw [seq_nx [.al (eIs (y :: r)), .al (eM (tabL n T)), .no, .no, .no] (by
    rw [v_sIf, v_cNot, v_c1, v_fA, v_fCons, fComp_ok rfl cm (size2 _ (by simp at hlen ⊢; omega))]
    show ((((dAll [.lst ((y :: r).map fun _ => D.bl true)]).bind dTru).bind fun b => some (!b)).bind _) = _
    rw [all_bl (p := fun _ => true)]
    have : (y :: r).all (fun _ => true) = true := by simp
    rw [this]
    rfl)]
  rw [seq_nx [.al (eIs (y :: r)), .al (eM (tabL n T)), .al (eB zB), .no, .no] rfl]
  have hne : y :: r ≠ [] := by simp
  obtain ⟨ρ1, h1, s3, e1⟩ := sForN (G := gN 3) (F := L1__law_is_ring) (n := (y :: r).length) (fun k ρ => ∃ s3, ρ = [.al (eIs (y :: r)), .al (eM (tabL n T)), .al (eB (if k = 0 then zB else addB (T (wend y r) y) (wsum T y (r.take (k - 1))))), s3, .no]) (ρ := [.al (eIs (y :: r)), .al (eM (tabL n T)), .al (eB zB), .no, .no]) ⟨.no, rfl⟩ (fun k ρ hk ⟨s3, eρ⟩ => by
    subst eρ
    refine ⟨[.al (eIs (y :: r)), .al (eM (tabL n T)), .al (eB (if k = 0 then zB else addB (T (wend y r) y) (wsum T y (r.take (k - 1))))), .al (.int k), .no], [.al (eIs (y :: r)), .al (eM (tabL n T)), .al (eB (if k + 1 = 0 then zB else addB (T (wend y r) y) (wsum T y (r.take (k + 1 - 1))))), .al (.int k), .no], rfl, ?_, _, rfl⟩
    obtain ⟨b, hb⟩ : ∃ b, (y :: r)[k]? = some b := ⟨_, List.getElem?_eq_getElem hk⟩
    have hbn : b < n := h.lt b (List.mem_of_getElem? hb)
    have xb : dIx (eIs (y :: r)) (.int k) = some (.int b) := dIx_at (by rw [List.getElem?_map, hb]; rfl)
    obtain ⟨a, han, xa, es⟩ : ∃ a, a < n ∧ dIx (eIs (y :: r)) (.int ((k : Int) - 1)) = some (.int (a : Nat)) ∧ addB (if k = 0 then zB else addB (T (wend y r) y) (wsum T y (r.take (k - 1)))) (T a b) = (if k + 1 = 0 then zB else addB (T (wend y r) y) (wsum T y (r.take (k + 1 - 1)))) := by
      cases k with
      | zero =>
        have eb : b = y := by simpa using hb.symm
        subst eb
        refine ⟨wend b r, wend_lt (h.lt b List.mem_cons_self) fun z hz => h.lt z (List.mem_cons_of_mem _ hz), ?_, ?_⟩
        · show atI ((b :: r).map fun k : Nat => D.int k) (((0 : Nat) : Int) - 1) = _
          have e0 : ((0 : Nat) : Int) - 1 = -1 := by omega
          rw [e0, neg_at (by simp), wend_last, List.getLast_map]
        · rw [if_pos rfl, if_neg (by omega), z_addB]
          show _ = addB _ (wsum T b (r.take 0))
          rw [List.take_zero]
          exact (addB_z _).symm
      | succ k =>
        have hb' : r[k]? = some b := by simpa using hb
        have hkl : k < (y :: r).length := by simp at hk ⊢; omega
        obtain ⟨a, ha⟩ : ∃ a, (y :: r)[k]? = some a := ⟨_, List.getElem?_eq_getElem hkl⟩
        have hk1 : (((k + 1 : Nat) : Int) - 1) = (k : Nat) := by omega
        refine ⟨a, h.lt a (List.mem_of_getElem? ha), ?_, ?_⟩
        · rw [hk1]
          exact dIx_at (by rw [List.getElem?_map, ha]; rfl)
        · rw [if_neg (by omega), if_neg (by omega)]
          have w := wsum_take (T := T) r y k b hb'
          have ea : (y :: r).getD k 0 = a := by rw [List.getD_eq_getElem?_getD, ha]; rfl
          rw [ea] at w
          show addB (addB _ (wsum T y (r.take k))) _ = addB _ (wsum T y (r.take (k + 1)))
          rw [w, addB_assoc]
    have sm := lsum_ok (if k = 0 then zB else addB (T (wend y r) y) (wsum T y (r.take (k - 1)))) (T a b)
    rw [es] at sm
    have xt := ixT (n := n) (C := T) han
    unfold L1__law_is_ring
    simp only [v_sAl, v_fCall, v_fCons, v_f2, v_fAl, v_fC, v_fNil, List.getElem?_cons_zero, List.getElem?_cons_succ, Option.bind_some, List.append_nil, dSub_int, xa, xb, xt, ixR hbn, sm, List.set_cons_zero, List.set_cons_succ])
  have lp : (if (y :: r).length = 0 then zB else addB (T (wend y r) y) (wsum T y (r.take ((y :: r).length - 1)))) = ringSum T y r := by
    rw [if_neg (by simp)]
    have : r.take ((y :: r).length - 1) = r := by simp
    rw [this, addB_comm]
    rfl
  subst e1
  rw [seq_nx [.al (eIs (y :: r)), .al (eM (tabL n T)), .al (eB (ringSum T y r)), s3, .no] (by
    rw [v_sFor, iR1_ok (n := (y :: r).length) (by
      show (Option.bind (dLen [eIs (y :: r)]) _) = _
      rw [dLen_lst, List.length_map]
      rfl) (by omega)]
    show sForL _ _ _ _ = _
    rw [h1, lp])]
  have neg := h.neg
  cases hs : ringSum T y r with
  | none => rw [hs] at neg; cases neg
  | some p =>
    obtain ⟨N, s⟩ := p
    rw [hs] at neg
    have neg : (decide (N < 0) || (decide (N = 0) && s && !false)) = true := neg
    by_cases hN : N < 0
    · simp [hN]
    · simp [hN] at neg
      obtain ⟨rfl, rfl⟩ := neg
      simp
theorem lbound_ok (b : Bd) : f__law_is_bound [eB b] = some (.bl true) := by
  rw [e__law_is_bound, F__law_is_bound]
  cases b with
  | none => simp
  | some p =>
    obtain ⟨n, s⟩ := p
    simp [lwhole_int]
theorem str_ok (x : Str) (h : PyData.strOk x = true) (n : Nat) : (D.str x).eqOk n = true := by rw [D.eqOk]; exact h
theorem eq_ring : dEq (.str "ring") (.str "ring") = some true := dEq_self (str_ok _ (by decide +kernel) _)
theorem ne_table : dNe (.str "table") (.str "table") = some false := dNe_self (str_ok _ (by decide +kernel) _)
theorem eq_table : dEq (.str "table") (.str "table") = some true := dEq_self (str_ok _ (by decide +kernel) _)
theorem eq_ring_table : dEq (.str "ring") (.str "table") = some false := by
  unfold dEq
  rw [if_pos ⟨str_ok _ (by decide +kernel) _, str_ok _ (by decide +kernel) _⟩, D.eqv]
  rfl
theorem upto16 {n : Nat} {T : Tf} : Upto n T 16 (dblK n (way1 n T) 4) := ((((upto1 (n := n) (T := T)).dbl).dbl).dbl).dbl
theorem diagOk_iff {n : Nat} {C : Tf} : diagOk n C = true ↔ ∀ i, i < n → C i i = zB := by
  unfold diagOk
  rw [List.all_eq_true]
  exact ⟨fun h i hi => of_decide_eq_true (h i (List.mem_range.mpr hi)), fun h i hi => decide_eq_true (h i (List.mem_range.mp hi))⟩
theorem lclosed_no {n : Nat} {T : Tf} (hn : n ≤ 16) (h : NoNeg n T) : f__law_closed [eM (tabL n T)] = some (eM (tabL n (fw n T n))) := by
  rw [lclosed_ok (by omega)]
  have l1 := (upto16 (n := n) (T := T)).least h (by omega)
  have l2 := fw_least h
  rw [if_pos (diagOk_iff.mpr (l1.closd h).dg), tab_congr fun i j hi hj => l1.unique l2 hi hj]
theorem lclosed_ring {n y : Nat} {r : List Nat} {T : Tf} (hn : n ≤ 16) (h : IsRing n T y r) : f__law_closed [eM (tabL n T)] = some .non := by
  rw [lclosed_ok (by omega)]
  obtain ⟨h1, h2⟩ := (upto16 (n := n) (T := T)).ring h hn
  rw [if_neg fun z => h2 (diagOk_iff.mp z y h1)]
theorem eM_isN (T : Tb) : dIsN (eM T) = some false := rfl
theorem right_ok {n : Nat} {T : Tf} (hn0 : 0 < n) (hn : n ≤ 16) {d : D} (hd : f_closed [eM (tabL n T)] = some d) : f__law_right_v5 [d, eM (tabL n T)] = some (.bl true) := by
  rw [e__law_right_v5, F__law_right_v5]
  rcases closed_ok (T := T) hn0 (by omega) with ⟨hT, hc⟩ | ⟨y, r, hR, hc⟩
  · rw [hc] at hd
    cases hd
    have lc := lclosed_no hn hT
    generalize fw n T n = C at lc
    rw [seq_nx [.al (.tup [.str "table", eM (tabL n C)]), .al (eM (tabL n T)), .no, .no, .no] (by simp)]
    rw [seq_nx [.al (.tup [.str "table", eM (tabL n C)]), .al (eM (tabL n T)), .al (eM (tabL n C)), .no, .no] (by
      simp only [v_sAl, v_fCall, v_fCons, v_fAl, v_fNil, List.getElem?_cons_zero, List.getElem?_cons_succ, Option.bind_some, List.append_nil, lc, List.set_cons_zero, List.set_cons_succ])]
    rw [seq_nx [.al (.tup [.str "table", eM (tabL n C)]), .al (eM (tabL n T)), .al (eM (tabL n C)), .no, .no] rfl]
    rw [seq_nx [.al (.tup [.str "table", eM (tabL n C)]), .al (eM (tabL n T)), .al (eM (tabL n C)), .no, .no] (by
      rw [v_sIf]
      simp only [v_cOr, v_c2, v_f2, v_fAl, v_fC, List.getElem?_cons_zero, Option.bind_some, dIx_tup, atI_0, ne_table]
      simp [eM])]
    obtain ⟨ρ', h1, x, rfl⟩ := sForL_inv (G := gN 3) (F := L1__law_right_v5) (fun ρ => ∃ x, ρ = [.al (.tup [.str "table", eM (tabL n C)]), .al (eM (tabL n T)), .al (eM (tabL n C)), x, .no]) ((tabL n C).map eR) [.al (.tup [.str "table", eM (tabL n C)]), .al (eM (tabL n T)), .al (eM (tabL n C)), .no, .no] ⟨.no, rfl⟩ (fun d hd ρ ⟨x, eρ⟩ => by
      subst eρ
      obtain ⟨row, hrow, rfl⟩ := List.mem_map.mp hd
      refine ⟨[.al (.tup [.str "table", eM (tabL n C)]), .al (eM (tabL n T)), .al (eM (tabL n C)), .al (eR row), .no], [.al (.tup [.str "table", eM (tabL n C)]), .al (eM (tabL n T)), .al (eM (tabL n C)), .al (eR row), .no], rfl, ?_, _, rfl⟩
      have hl : row.length ≤ 16 := by
        obtain ⟨i, hi, rfl⟩ := List.mem_map.mp hrow
        simp; omega
      have cm := compL_map (G := gN 4) (c := cYes) (e := fCall f__law_is_bound [] (fCons (fAl 4) fNil)) (ρ := [.al (.tup [.str "table", eM (tabL n C)]), .al (eM (tabL n T)), .al (eM (tabL n C)), .al (eR row), .no]) (m := eB) (r := fun _ => D.bl true) row fun b _ => ⟨[.al (.tup [.str "table", eM (tabL n C)]), .al (eM (tabL n T)), .al (eM (tabL n C)), .al (eR row), .al (eB b)], rfl, rfl, by simp [lbound_ok]⟩
      have fc := fComp_ok (g := iSeq (fAl 3)) (G := gN 4) (c := cYes) (e := fCall f__law_is_bound [] (fCons (fAl 4) fNil)) (vs := [4]) (ρ := [.al (.tup [.str "table", eM (tabL n C)]), .al (eM (tabL n T)), .al (eM (tabL n C)), .al (eR row), .no]) rfl cm (size2 _ (by rw [List.length_map]; omega))
      unfold L1__law_right_v5
      rw [v_sIf, v_cOr, v_cNot, v_c1, v_cNot, v_c1, v_fA (j := fCons (fComp _ _ _ _ _) fNil), v_fCons (f := fComp _ _ _ _ _), fc]
      show ((((dIsi [eR row, .ty "list"]).bind dTru).bind fun b => some (!b)).bind fun b => if b = true then some true else ((((dAll [.lst (row.map fun _ => D.bl true)]).bind dTru).bind fun b => some (!b)))).bind _ = _
      rw [all_bl (p := fun _ => true)]
      have : row.all (fun _ => true) = true := by simp
      rw [this]
      simp [eR])
    rw [seq_nx _ (by rw [v_sFor]; exact h1)]
    have eqs := dEq_self (eM_ok (tabL n C))
    simp only [v_sRet, v_fB, v_c2, v_f2, v_fAl, v_fC, List.getElem?_cons_zero, List.getElem?_cons_succ, Option.bind_some, dIx_tup, atI_1, eqs]
    rfl
  · rw [hc] at hd
    cases hd
    have lc := lclosed_ring hn hR
    have lr := lring_ok hR (by omega)
    rw [seq_nx [.al (.tup [.str "ring", eIs (y :: r)]), .al (eM (tabL n T)), .no, .no, .no] (by simp)]
    rw [seq_nx [.al (.tup [.str "ring", eIs (y :: r)]), .al (eM (tabL n T)), .al .non, .no, .no] (by
      simp only [v_sAl, v_fCall, v_fCons, v_fAl, v_fNil, List.getElem?_cons_zero, List.getElem?_cons_succ, Option.bind_some, List.append_nil, lc, List.set_cons_zero, List.set_cons_succ])]
    rw [seq_rt (d := .bl true) (by
      rw [v_sIf]
      simp only [v_c1, v_fAl, List.getElem?_cons_zero, List.getElem?_cons_succ, Option.bind_some, dIsN_non, if_true, v_sRet, v_fAnd, v_fB, v_c2, v_f2, v_fC, dIx_tup, atI_0, eq_ring, v_fCall, v_fCons, v_fNil, atI_1, List.append_nil, lr])]
    rfl
end Mt
namespace Mt
open PySem PySem.Spec PyProof.Rows L2 Z G
def liesN (n : Nat) (vs : List Rat) (T : Tb) : Bool := (List.range n).all fun i => (List.range n).all fun j => keepsB (vs.getD i 0 - vs.getD j 0) ((T.getD i []).getD j none)
theorem dAdd_lsq {d : D} {xs ys : List D} (hd : d.lsq = some ys) (h : xs.length + ys.length ≤ sizeLine) (h1 : D.immL xs = true) (h2 : D.immL ys = true) : dAdd (.lst xs) d = some (.lst (xs ++ ys)) := by
  cases d with
  | lst zs => cases hd; exact dAdd_lst h h1 h2
  | kls zs =>
    cases hd
    show gd _ _ = _
    rw [gd_pos ⟨h, h1, h2⟩]
  | _ => cases hd
theorem lliesD_ok {d : D} {T : Tb} {qs : List Rat} {n : Nat} (hd : d.lsq = some (qs.map eQ)) (hn : (0 :: qs).length = n) (hn2 : n ≤ 1000) (hT : BtT 4000 T) (hl : T.length = n) (hr : ∀ r ∈ T, r.length = n) (hq : ∀ q ∈ qs, BtQ 3900 q) : f__law_lies [eM T, d] = some (.bl (liesN n (0 :: qs) T)) := by
  rw [e__law_lies, F__law_lies]
  have hv : ∀ q ∈ (0 :: qs), BtQ 3900 q := fun q h => by
    rcases List.mem_cons.mp h with rfl | h
    · exact ⟨Bt.mono (n := 2) (by decide) (by decide), Bt.mono (n := 2) (by decide) (by decide)⟩
    · exact hq q h
  have ad := dAdd_lsq (xs := [.tup [.int 0, .int 1]]) (ys := qs.map eQ) hd (size2 _ (by rw [List.length_map]; simp at hn ⊢; omega)) (by simp) (immL_map (fun _ => eQ_imm) _)
  have e0 : D.lst ([.tup [.int 0, .int 1]] ++ qs.map eQ) = .lst ((0 :: qs).map eQ) := rfl
  rw [seq_nx [.al (eM T), .al d, .al (.lst ((0 :: qs).map eQ)), .no, .no] (by
    simp only [v_sAl, v_f2, v_fLst, v_fTup, v_fCons, v_fC, v_fNil, v_fAl, List.getElem?_cons_zero, List.getElem?_cons_succ, Option.bind_some, ad]
    rfl)]
  have rg : ∀ a b : Sl, iR1 (fCons (fA dLen (fCons (fAl 2) fNil)) fNil) [.al (eM T), .al d, .al (.lst ((0 :: qs).map eQ)), a, b] = some ((List.range n).map fun i : Nat => D.int (0 + (i : Nat))) := fun a b => iR1_ok (by
    show some [D.int (((0 :: qs).map eQ).length : Int)] = _
    rw [List.length_map, hn]) (by omega)
  have main := sForL_all (G := gN 3) (F := L2__law_lies) (m := fun i : Nat => D.int (0 + (i : Nat))) (p := fun i => (List.range n).all fun j => keepsB ((0 :: qs).getD i 0 - (0 :: qs).getD j 0) ((T.getD i []).getD j none)) (out := .bl false)
    (fun ρ => ∃ a b, ρ = [.al (eM T), .al d, .al (.lst ((0 :: qs).map eQ)), a, b]) (List.range n) [.al (eM T), .al d, .al (.lst ((0 :: qs).map eQ)), .no, .no] ⟨_, _, rfl⟩ fun i hi ρ hI => by
      obtain ⟨a, b, rfl⟩ := hI
      have hi := List.mem_range.mp hi
      refine ⟨[.al (eM T), .al d, .al (.lst ((0 :: qs).map eQ)), .al (.int i), b], by rw [Int.zero_add]; rfl, ?_⟩
      have inner := sForL_all (G := gN 4) (F := L1__law_lies) (m := fun i : Nat => D.int (0 + (i : Nat))) (p := fun j => keepsB ((0 :: qs).getD i 0 - (0 :: qs).getD j 0) ((T.getD i []).getD j none)) (out := .bl false)
        (fun ρ => ∃ b, ρ = [.al (eM T), .al d, .al (.lst ((0 :: qs).map eQ)), .al (.int i), b]) (List.range n) [.al (eM T), .al d, .al (.lst ((0 :: qs).map eQ)), .al (.int i), b] ⟨_, rfl⟩ fun j hj ρ hI => by
          obtain ⟨b, rfl⟩ := hI
          have hj := List.mem_range.mp hj
          have i1 := dIxQ (vs := 0 :: qs) (i := i) (by omega)
          have i2 := dIxQ (vs := 0 :: qs) (i := j) (by omega)
          have hm : T.getD i [] ∈ T := List.mem_iff_getElem?.mpr ⟨i, by simp [hl, hi]⟩
          have hrl := hr _ hm
          have i3 : dIx (eM T) (.int i) = some (eR (T.getD i [])) := dIx_at (by rw [List.getElem?_map]; simp [hl, hi])
          have i4 : dIx (eR (T.getD i [])) (.int j) = some (eB ((T.getD i []).getD j none)) := dIx_at (by rw [List.getElem?_map, List.getD_eq_getElem?_getD (l := T.getD i []), List.getElem?_eq_getElem (by rw [hrl]; exact hj)]; rfl)
          have gv : ∀ i, i < n → BtQ 3900 ((0 :: qs).getD i 0) := fun i h => hv _ (List.mem_iff_getElem?.mpr ⟨i, by rw [List.getD_eq_getElem?_getD, List.getElem?_eq_getElem (by rw [hn]; exact h)]; rfl⟩)
          have l2 := less2_ok ((gv i hi).mono (show 3900 ≤ 4000 by decide)) ((gv j hj).mono (show 3900 ≤ 4000 by decide))
          have hbb : BtB 4000 ((T.getD i []).getD j none) := hT _ hm _ (List.mem_iff_getElem?.mpr ⟨j, by rw [List.getD_eq_getElem?_getD (l := T.getD i []), List.getElem?_eq_getElem (by rw [hrl]; exact hj)]; rfl⟩)
          have hp := gv i hi
          have hq' := gv j hj
          have dp : (0 : Int) < ((0 :: qs).getD i 0).den * ((0 :: qs).getD j 0).den := by
            have h1 := ((0 :: qs).getD i 0).den_nz
            have h2 := ((0 :: qs).getD j 0).den_nz
            exact Int.mul_pos (by omega) (by omega)
          have k3 := lkeeps3_ok (t := ((0 :: qs).getD i 0).num * ((0 :: qs).getD j 0).den - ((0 :: qs).getD j 0).num * ((0 :: qs).getD i 0).den) dp ((hp.2.mul hq'.2).mono (show 3900 + 3900 ≤ 8001 by decide)) hbb
          rw [divInt_diff] at k3
          have st : cNot (c1 dTru (fCall f__law_keeps_v3 [] (fCons (fCall f__law_less_v2 [] (fCons (f2 dIx (fAl 2) (fAl 3)) (fCons (f2 dIx (fAl 2) (fAl 4)) fNil))) (fCons (f2 dIx (f2 dIx (fAl 0) (fAl 3)) (fAl 4)) fNil)))) [.al (eM T), .al d, .al (.lst ((0 :: qs).map eQ)), .al (.int i), .al (.int j)] = some (!keepsB ((0 :: qs).getD i 0 - (0 :: qs).getD j 0) ((T.getD i []).getD j none)) := by
            simp only [v_cNot, v_c1, v_fCall, v_fCons, v_fAl, v_f2, v_fNil, List.getElem?_cons_zero, List.getElem?_cons_succ, Option.bind_some, List.append_nil, i1, i2, i3, i4, l2, k3, dTru_bl]
          refine ⟨[.al (eM T), .al d, .al (.lst ((0 :: qs).map eQ)), .al (.int i), .al (.int j)], by rw [Int.zero_add]; rfl, fun h => ⟨[.al (eM T), .al d, .al (.lst ((0 :: qs).map eQ)), .al (.int i), .al (.int j)], ?_, _, rfl⟩, fun h => ?_⟩
          · unfold L1__law_lies
            rw [v_sIf, st, h]
            rfl
          · unfold L1__law_lies
            rw [v_sIf, st, h]
            rfl
      have ez : L2__law_lies [.al (eM T), .al d, .al (.lst ((0 :: qs).map eQ)), .al (.int i), b] = sForL (gN 4) L1__law_lies ((List.range n).map fun i : Nat => D.int (0 + (i : Nat))) [.al (eM T), .al d, .al (.lst ((0 :: qs).map eQ)), .al (.int i), b] := by
        unfold L2__law_lies
        rw [v_sFor, rg]
        rfl
      rw [ez]
      refine ⟨fun h => ?_, fun h => inner.2 h⟩
      obtain ⟨ρ', g1, b', g2⟩ := inner.1 h
      exact ⟨ρ', g1, _, _, g2⟩
  have ez : sFor (iR1 (fCons (fA dLen (fCons (fAl 2) fNil)) fNil)) (gN 3) L2__law_lies [.al (eM T), .al d, .al (.lst ((0 :: qs).map eQ)), .no, .no] = sForL (gN 3) L2__law_lies ((List.range n).map fun i : Nat => D.int (0 + (i : Nat))) [.al (eM T), .al d, .al (.lst ((0 :: qs).map eQ)), .no, .no] := by
    rw [v_sFor, rg]
    rfl
  cases hL : liesN n (0 :: qs) T with
  | true =>
    obtain ⟨ρ', g1, _⟩ := main.1 hL
    rw [seq_nx ρ' (by rw [ez]; exact g1)]
    rfl
  | false =>
    rw [seq_rt (by rw [ez]; exact main.2 hL)]
    rfl
theorem lliesN_ok {T : Tb} {qs : List Rat} {n : Nat} (hn : (0 :: qs).length = n) (hn2 : n ≤ 1000) (hT : BtT 4000 T) (hl : T.length = n) (hr : ∀ r ∈ T, r.length = n) (hq : ∀ q ∈ qs, BtQ 3900 q) : f__law_lies [eM T, .lst (qs.map eQ)] = some (.bl (liesN n (0 :: qs) T)) := lliesD_ok rfl hn hn2 hT hl hr hq
theorem liesN_iff {n : Nat} {vs : List Rat} {T : Tb} : liesN n vs T = true ↔ ∀ i < n, ∀ j < n, keepsB (vs.getD i 0 - vs.getD j 0) ((T.getD i []).getD j none) = true := by
  unfold liesN
  simp only [List.all_eq_true, List.mem_range]
theorem isPoint_ok (qs : List Rat) (hq : ∀ q ∈ qs, BtQ 4000 q) : f__law_is_point [.lst (qs.map eQ), .int qs.length] = some (.bl true) := by
  rw [e__law_is_point, F__law_is_point]
  have main := sForL_inv (G := gN 2) (F := L1__law_is_point) (fun ρ => ∃ x, ρ = [.al (.lst (qs.map eQ)), .al (.int qs.length), x, .no]) (qs.map eQ) [.al (.lst (qs.map eQ)), .al (.int qs.length), .no, .no] ⟨_, rfl⟩ fun d hd ρ hI => by
    obtain ⟨q, hm, rfl⟩ := List.mem_map.mp hd
    obtain ⟨x, rfl⟩ := hI
    have hd0 : (0 : Int) < q.den := by have := q.den_nz; omega
    have l1 := lowest2_ok (a := q.num) hd0 ((hq q hm).2.mono (by decide))
    rw [Rat.num_divInt_den] at l1
    have ne := dNe_self (eQ_ok (q := q) (n := 63))
    have al : dAll [.lst [.bl true, .bl true]] = some (.bl true) := by rfl
    have cp : fComp (iTup' (fAl 2)) (gN 3) cYes (fCall f__law_whole [] (fCons (fAl 3) fNil)) [3] [.al (.lst (qs.map eQ)), .al (.int qs.length), .al (eQ q), .no] = some (.lst [.bl true, .bl true]) :=
      fComp_ok (ds := [.int q.num, .int q.den]) rfl (compL_map (m := D.int) (r := fun _ => .bl true) [q.num, q.den] fun a _ => ⟨_, rfl, rfl, by simp [lwhole_int]⟩) (size2 _ (by simp))
    refine ⟨_, [.al (.lst (qs.map eQ)), .al (.int qs.length), .al (eQ q), .no], rfl, ?_, _, rfl⟩
    have h1 : ¬ (q.den : Int) < 1 := by omega
    unfold L1__law_is_point
    rw [seq_nx [.al (.lst (qs.map eQ)), .al (.int qs.length), .al (eQ q), .no] (by simp [cp, al])]
    simp [l1, ne, h1]
  obtain ⟨ρ', i1, x, rfl⟩ := main
  rw [seq_nx [.al (.lst (qs.map eQ)), .al (.int qs.length), .no, .no] (by simp)]
  rw [seq_nx _ (by rw [v_sFor]; exact i1)]
  simp
end Mt
namespace Mt
open PySem PySem.Spec PyProof.Rows L2 Z G
theorem le_keeps {a b : Bd} {q : Rat} (h : leB a b) (k : keepsB q a = true) : keepsB q b = true := loose_keeps h k
theorem keeps0 {b : Bd} (h : keepsB 0 b = true) : leB zB b := by
  cases b with
  | none => exact leB_none _
  | some p =>
    obtain ⟨n, s⟩ := p
    show leB (some (0, false)) (some (n, s))
    rw [leB_some]
    cases s with
    | true =>
      simp only [keepsB, decide_eq_true_iff] at h
      left
      have : ((0 : Int) : Rat) < (n : Rat) := h
      exact Rat.intCast_lt_intCast.mp this
    | false =>
      simp only [keepsB, decide_eq_true_iff] at h
      have : ((0 : Int) : Rat) ≤ (n : Rat) := h
      have := Rat.intCast_le_intCast.mp this
      by_cases z : (0 : Int) = n
      · exact .inr ⟨z, fun y => by cases y⟩
      · left; omega
theorem keepsB_z : keepsB 0 zB = true := by
  simp [keepsB, zB]
def Keep (n : Nat) (v : Nat → Rat) (T : Tf) : Prop := ∀ i, i < n → ∀ j, j < n → keepsB (v i - v j) (T i j) = true
theorem Keep.way {n : Nat} {v : Nat → Rat} {T : Tf} (h : Keep n v T) : ∀ (p : List Nat) (i j : Nat), Way n i j p → keepsB (v i - v j) (wsum T i p) = true
  | [], i, j, hp => by
    have e : i = j := hp.nd
    subst e
    have : v i - v i = 0 := by grind
    rw [this]
    exact keepsB_z
  | k :: p, i, j, hp => by
    have hk : k < n := hp.all k List.mem_cons_self
    have h1 := h i hp.lt k hk
    have h2 := Keep.way h p k j ⟨hk, fun x hx => hp.all x (List.mem_cons_of_mem _ hx), hp.nd⟩
    have := keeps_add h1 h2
    have e : v i - v k + (v k - v j) = v i - v j := by grind
    rw [e] at this
    exact this
theorem Keep.noneg {n : Nat} {v : Nat → Rat} {T : Tf} (h : Keep n v T) : NoNeg n T := fun i p hp => by
  have := h.way p i i hp
  have e : v i - v i = 0 := by grind
  rw [e] at this
  exact keeps0 this
theorem keep_least {n : Nat} {v : Nat → Rat} {T C : Tf} (hC : Least n T C) : Keep n v T ↔ Keep n v C := by
  constructor
  · intro h i hi j hj
    obtain ⟨p, p1, p2⟩ := hC.ach i j hi hj
    rw [p2]
    exact h.way p i j p1
  · intro h i hi j hj
    exact le_keeps (hC.lt hi hj) (h i hi j hj)
theorem keep_fw {n : Nat} {v : Nat → Rat} {T : Tf} (hT : NoNeg n T) : Keep n v T ↔ Keep n v (fw n T n) := keep_least (fw_least hT)
theorem liesN_keep {n : Nat} {vs : List Rat} {C : Tf} : liesN n vs (tabL n C) = true ↔ Keep n (fun i => vs.getD i 0) C := by
  rw [liesN_iff]
  refine ⟨fun h i hi j hj => ?_, fun h i hi j hj => ?_⟩
  · have := h i hi j hj
    have e : ((tabL n C).getD i []).getD j none = C i j := entry_tab hi hj
    rwa [e] at this
  · have e : ((tabL n C).getD i []).getD j none = C i j := entry_tab hi hj
    rw [e]
    exact h i hi j hj
theorem minB_keeps {a b : Bd} {q : Rat} : keepsB q (minB a b) = (keepsB q a && keepsB q b) := by
  rw [Bool.eq_iff_iff, Bool.and_eq_true]
  refine ⟨fun h => ⟨le_keeps (minB_l a b) h, le_keeps (minB_r a b) h⟩, fun ⟨h1, h2⟩ => ?_⟩
  rcases minB_or a b with e | e <;> rw [e] <;> assumption
theorem minB_comm (a b : Bd) : minB a b = minB b a := by
  have t : ∀ a b, leB (minB a b) (minB b a) := fun a b => by
    rcases minB_or b a with e | e <;> rw [e]
    · exact minB_r a b
    · exact minB_l a b
  exact leB_anti (t a b) (t b a)
theorem wsum_bt {n w : Nat} {T : Tf} (h : ∀ i j, i < n → j < n → BtB w (T i j)) : ∀ (p : List Nat) (i : Nat), i < n → (∀ x ∈ p, x < n) → BtB (w + 1 + p.length) (wsum T i p)
  | [], i, _, _ => by
    show BtB _ (some (0, false))
    exact Bt.mono (n := 1) (by decide) (by simp)
  | k :: p, i, hi, hp => by
    have hk := hp k List.mem_cons_self
    have h1 := h i k hi hk
    have h2 := wsum_bt h p k hk fun x hx => hp x (List.mem_cons_of_mem _ hx)
    exact (BtB.add (n := w + 1 + p.length) (h1.mono (by omega)) h2).mono (by simp; omega)
theorem fw_bt {n w : Nat} {T : Tf} (hT : NoNeg n T) (h : ∀ i j, i < n → j < n → BtB w (T i j)) : ∀ i j, i < n → j < n → BtB (w + 1 + n) (fw n T n i j) := fun i j hi hj => by
  obtain ⟨p, p1, p2⟩ := (fw_least hT).ach i j hi hj
  obtain ⟨q, q1, q2, q3⟩ := way_short hT p.length i j p (Nat.le_refl _) p1
  have e : fw n T n i j = wsum T i q := leB_anti ((fw_least hT).le i j q q1) (by rw [p2]; exact q3)
  rw [e]
  exact (wsum_bt h q i hi q1.all).mono (by omega)
theorem tab_btT {n w : Nat} {T : Tf} (h : ∀ i j, i < n → j < n → BtB w (T i j)) : BtT w (tabL n T) := fun r hr b hb => by
  obtain ⟨i, hi, rfl⟩ := List.mem_map.mp hr
  obtain ⟨j, hj, rfl⟩ := List.mem_map.mp hb
  exact h i j (List.mem_range.mp hi) (List.mem_range.mp hj)
theorem tab_rows {n : Nat} {T : Tf} : ∀ r ∈ tabL n T, r.length = n := fun r hr => by
  obtain ⟨i, hi, rfl⟩ := List.mem_map.mp hr
  simp
theorem Sq.entry_bt {n w : Nat} {T : Tb} (h : Sq n w T) {i j : Nat} (hi : i < n) (hj : j < n) : BtB w (entry T i j) := by
  obtain ⟨_, b, _, _, _, h4, h5⟩ := h.at hi hj
  show BtB w ((T.getD i []).getD j none)
  rw [h5]
  exact h4
theorem fz_eQ (q : Rat) : (eQ q).fz = eQ q := by
  unfold eQ
  rw [D.fz, D.fzL, D.fzL, D.fzL, D.fz, D.fz]
theorem fzL_Q : ∀ qs : List Rat, D.fzL (qs.map eQ) = qs.map eQ
  | [] => by rw [List.map_nil, D.fzL]
  | q :: qs => by rw [List.map_cons, D.fzL, fz_eQ, fzL_Q qs]
theorem fz_Q (qs : List Rat) : (D.lst (qs.map eQ)).fz = .kls (qs.map eQ) := by rw [D.fz, fzL_Q]
theorem kQ_imm (qs : List Rat) : (D.kls (qs.map eQ)).imm = true := by rw [imm_kls]; exact immL_map (fun _ => eQ_imm) _
end Mt
namespace Mt
open PySem PySem.Spec PyProof.Rows L2 Z G
abbrev En := Rat × Bool
def okE (g : Bool) (e : En) (v : Rat) : Prop := match g, e.2 with
  | true, true => e.1 < v
  | true, false => e.1 ≤ v
  | false, true => v < e.1
  | false, false => v ≤ e.1
def narB (g : Bool) (e b : En) : Bool := if e.1 = b.1 then e.2 else (decide (b.1 < e.1) == g)
theorem nar_yes {g : Bool} {e b : En} {v : Rat} (h : narB g e b = true) (k : okE g e v) : okE g b v := by
  obtain ⟨e1, e2⟩ := e
  obtain ⟨b1, b2⟩ := b
  unfold narB at h
  by_cases z : e1 = b1
  · subst z
    rw [if_pos rfl] at h
    have h : e2 = true := h
    subst h
    cases g <;> cases b2 <;> simp only [okE] at * <;> grind
  · rw [if_neg z] at h
    have h : (decide (b1 < e1) == g) = true := h
    cases g <;> cases e2 <;> cases b2 <;> simp [okE] at * <;> grind
theorem nar_no {g : Bool} {e b : En} {v : Rat} (h : narB g e b = false) (k : okE g b v) : okE g e v := by
  obtain ⟨e1, e2⟩ := e
  obtain ⟨b1, b2⟩ := b
  unfold narB at h
  by_cases z : e1 = b1
  · subst z
    rw [if_pos rfl] at h
    have h : e2 = false := h
    subst h
    cases g <;> cases b2 <;> simp only [okE] at * <;> grind
  · rw [if_neg z] at h
    have h : (decide (b1 < e1) == g) = false := h
    cases g <;> cases e2 <;> cases b2 <;> simp [okE] at * <;> grind
def bestB (g : Bool) : Option En → List En → Option En
  | b, [] => b
  | none, e :: es => bestB g (some e) es
  | some b, e :: es => bestB g (some (if narB g e b = true then e else b)) es
theorem best_some {g : Bool} : ∀ {es : List En} {b0 b : En}, bestB g (some b0) es = some b → (b = b0 ∨ b ∈ es) ∧ ∀ v, okE g b v → okE g b0 v ∧ ∀ e ∈ es, okE g e v
  | [], b0, b, h => by
    cases h
    exact ⟨.inl rfl, fun v k => ⟨k, fun _ z => by cases z⟩⟩
  | e :: es, b0, b, h => by
    obtain ⟨h1, h2⟩ := best_some (es := es) h
    cases hn : narB g e b0 with
    | true =>
      rw [hn, if_pos rfl] at h1 h2
      refine ⟨.inr (h1.elim (fun z => z ▸ List.mem_cons_self) (List.mem_cons_of_mem _)), fun v k => ⟨nar_yes hn (h2 v k).1, fun x hx => ?_⟩⟩
      rcases List.mem_cons.mp hx with rfl | hx
      · exact (h2 v k).1
      · exact (h2 v k).2 x hx
    | false =>
      rw [hn, if_neg (by simp)] at h1 h2
      refine ⟨h1.imp id (List.mem_cons_of_mem _), fun v k => ⟨(h2 v k).1, fun x hx => ?_⟩⟩
      rcases List.mem_cons.mp hx with rfl | hx
      · exact nar_no hn (h2 v k).1
      · exact (h2 v k).2 x hx
theorem best_ex {g : Bool} : ∀ (es : List En) (b0 : En), ∃ b, bestB g (some b0) es = some b
  | [], b0 => ⟨b0, rfl⟩
  | e :: es, b0 => best_ex es _
theorem best_of {g : Bool} {es : List En} : (es = [] ∧ bestB g none es = none) ∨ ∃ b, bestB g none es = some b ∧ b ∈ es ∧ ∀ v, okE g b v → ∀ e ∈ es, okE g e v := by
  cases es with
  | nil => exact .inl ⟨rfl, rfl⟩
  | cons e es =>
    obtain ⟨b, hb⟩ := best_ex (g := g) es e
    obtain ⟨h1, h2⟩ := best_some hb
    refine .inr ⟨b, hb, h1.elim (fun z => z ▸ List.mem_cons_self) (List.mem_cons_of_mem _), fun v k x hx => ?_⟩
    rcases List.mem_cons.mp hx with rfl | hx
    · exact (h2 v k).1
    · exact (h2 v k).2 x hx
def Gap (l h : En) : Prop := l.1 < h.1 ∨ (l.1 = h.1 ∧ l.2 = false ∧ h.2 = false)
def betw : Option En → Option En → Rat
  | none, none => 0
  | none, some h => h.1 - 1
  | some l, none => if l.2 then l.1 + 1 else l.1
  | some l, some h => if l.2 then (l.1 + h.1) * Rat.divInt 1 2 else l.1
theorem half_eq : Rat.divInt 1 2 = (1 : Rat) / 2 := by rw [Rat.divInt_eq_div]; rfl
theorem betw_low {l : En} {h : Option En} (g : ∀ e, h = some e → Gap l e) : okE true l (betw (some l) h) := by
  obtain ⟨l1, l2⟩ := l
  cases h with
  | none => cases l2 <;> simp only [okE, betw] <;> grind
  | some e =>
    obtain ⟨h1, h2⟩ := e
    have := g _ rfl
    simp only [Gap] at this
    cases l2 <;> simp only [okE, betw, half_eq] <;> grind
theorem betw_high {l : Option En} {h : En} (g : ∀ e, l = some e → Gap e h) : okE false h (betw l (some h)) := by
  obtain ⟨h1, h2⟩ := h
  cases l with
  | none => cases h2 <;> simp only [okE, betw] <;> grind
  | some e =>
    obtain ⟨l1, l2⟩ := e
    have := g _ rfl
    simp only [Gap] at this
    cases l2 <;> cases h2 <;> simp only [okE, betw, half_eq] <;> grind
structure Fit (j : Nat) (M : Int) (v : Rat) : Prop where
  dy : ∃ z : Int, v * (((2 ^ j : Nat) : Int) : Rat) = (z : Rat)
  lo : -(M : Rat) ≤ v
  hi : v ≤ (M : Rat)
theorem Fit.up {j : Nat} {M N : Int} {v : Rat} (h : Fit j M v) (l : M ≤ N) : Fit (j + 1) N v := by
  obtain ⟨⟨z, hz⟩, h1, h2⟩ := h
  have l' : (M : Rat) ≤ (N : Rat) := Rat.intCast_le_intCast.mpr l
  refine ⟨⟨2 * z, ?_⟩, by grind, by grind⟩
  have e : (((2 ^ (j + 1) : Nat) : Int) : Rat) = (((2 ^ j : Nat) : Int) : Rat) * 2 := by
    rw [Nat.pow_succ, Int.natCast_mul, Rat.intCast_mul]
    rfl
  rw [e, Rat.intCast_mul]
  have : ((2 : Int) : Rat) = 2 := rfl
  rw [this]
  grind
theorem Fit.mono {j : Nat} {M N : Int} {v : Rat} (h : Fit j M v) (l : M ≤ N) : Fit j N v := by
  obtain ⟨hz, h1, h2⟩ := h
  have l' : (M : Rat) ≤ (N : Rat) := Rat.intCast_le_intCast.mpr l
  exact ⟨hz, by grind, by grind⟩
theorem Fit.add {j : Nat} {M B : Int} {v : Rat} (h : Fit j M v) {b : Int} (h1 : -B ≤ b) (h2 : b ≤ B) : Fit j (M + B) (v + (b : Rat)) := by
  obtain ⟨⟨z, hz⟩, h3, h4⟩ := h
  have h1' : ((-B : Int) : Rat) ≤ (b : Rat) := Rat.intCast_le_intCast.mpr h1
  have h2' : (b : Rat) ≤ (B : Rat) := Rat.intCast_le_intCast.mpr h2
  rw [Rat.intCast_neg] at h1'
  have e : ((M + B : Int) : Rat) = (M : Rat) + (B : Rat) := Rat.intCast_add ..
  refine ⟨⟨z + b * ((2 ^ j : Nat) : Int), ?_⟩, by rw [e]; grind, by rw [e]; grind⟩
  rw [Rat.add_mul, hz, ← Rat.intCast_mul, Rat.intCast_add]
theorem Fit.sub {j : Nat} {M B : Int} {v : Rat} (h : Fit j M v) {b : Int} (h1 : -B ≤ b) (h2 : b ≤ B) : Fit j (M + B) (v - (b : Rat)) := by
  have := h.add (b := -b) (B := B) (by omega) (by omega)
  rw [Rat.intCast_neg] at this
  have e : v - (b : Rat) = v + -(b : Rat) := by grind
  rw [e]
  exact this
theorem Fit.mid {j : Nat} {M : Int} {u v : Rat} (h : Fit j M u) (h' : Fit j M v) : Fit (j + 1) M ((u + v) * Rat.divInt 1 2) := by
  obtain ⟨⟨z, hz⟩, h1, h2⟩ := h
  obtain ⟨⟨y, hy⟩, h3, h4⟩ := h'
  rw [half_eq]
  refine ⟨⟨z + y, ?_⟩, by grind, by grind⟩
  have e : (((2 ^ (j + 1) : Nat) : Int) : Rat) = (((2 ^ j : Nat) : Int) : Rat) * 2 := by
    rw [Nat.pow_succ, Int.natCast_mul, Rat.intCast_mul]
    rfl
  rw [e, Rat.intCast_add, ← hz, ← hy]
  grind
theorem Fit.btQ {j w : Nat} {v : Rat} (h : Fit j (2 ^ w) v) : BtQ (w + j + 1) v := by
  obtain ⟨⟨z, hz⟩, h1, h2⟩ := h
  have hp : (0 : Int) < ((2 ^ j : Nat) : Int) := by
    have := Nat.two_pow_pos j
    omega
  have hp' : (0 : Rat) < (((2 ^ j : Nat) : Int) : Rat) := Rat.intCast_pos.mpr hp
  have ev : v = Rat.divInt z ((2 ^ j : Nat) : Int) := by
    rw [Rat.divInt_eq_div, ← hz]
    grind
  have z1 : (z : Rat) ≤ ((2 ^ w * ((2 ^ j : Nat) : Int) : Int) : Rat) := by
    rw [← hz, Rat.intCast_mul]
    exact Rat.mul_le_mul_of_nonneg_right h2 (Rat.le_of_lt hp')
  have z2 : ((-(2 ^ w * ((2 ^ j : Nat) : Int)) : Int) : Rat) ≤ (z : Rat) := by
    rw [← hz, Rat.intCast_neg, Rat.intCast_mul, ← Rat.neg_mul]
    exact Rat.mul_le_mul_of_nonneg_right h1 (Rat.le_of_lt hp')
  have z1 := Rat.intCast_le_intCast.mp z1
  have z2 := Rat.intCast_le_intCast.mp z2
  have e : (2 : Int) ^ w * ((2 ^ j : Nat) : Int) = ((2 ^ (w + j) : Nat) : Int) := by
    rw [Nat.pow_add, Int.natCast_mul]
    congr 1
  rw [e] at z1 z2
  rw [ev]
  have hlt : 2 ^ (w + j) < 2 ^ (w + j + 1) := Nat.pow_lt_pow_right (by decide) (by omega)
  refine divInt_btQ (by omega) (show z.natAbs < 2 ^ (w + j + 1) by omega) ?_
  show (((2 ^ j : Nat) : Int)).natAbs < 2 ^ (w + j + 1)
  rw [Int.natAbs_natCast]
  exact Nat.pow_lt_pow_right (by decide) (by omega)
theorem Bt.rng {n : Nat} {i : Int} (h : Bt n i) : -(2 ^ n : Int) ≤ i ∧ i ≤ 2 ^ n := by
  have h : i.natAbs < 2 ^ n := h
  have e : (2 : Int) ^ n = ((2 ^ n : Nat) : Int) := (Int.natCast_pow 2 n).symm
  rw [e]
  omega
abbrev eE (e : En) : D := .tup [eQ e.1, .bl e.2]
def eO : Option En → D
  | none => .non
  | some e => eE e
theorem eE_imm (e : En) : (eE e).imm = true := by
  show (D.tup [eQ e.1, .bl e.2]).imm = true
  rw [D.imm, D.immL, D.immL, D.immL, eQ_imm]
  rfl
theorem narrower_ok {g : Bool} {e b : En} (he : BtQ 4000 e.1) (hb : BtQ 4000 b.1) : f_is_narrower [eE e, eE b, .bl g] = some (.bl (narB g e b)) := by
  rw [e_is_narrower, F_is_narrower]
  have q := dEq_Q (p := e.1) (q := b.1)
  have l := less_ok hb he
  have c : c2 dEq (f2 dIx (fAl 0) (fC (.int 0))) (f2 dIx (fAl 1) (fC (.int 0))) [.al (eE e), .al (eE b), .al (.bl g)] = some (decide (e.1 = b.1)) := by
    simp only [v_c2, v_f2, v_fAl, v_fC, List.getElem?_cons_zero, List.getElem?_cons_succ, Option.bind_some, dIx_tup, atI_0, q]
  unfold narB
  by_cases z : e.1 = b.1
  · rw [if_pos z, seq_rt (d := .bl e.2) (by
      rw [v_sIf, c, decide_eq_true z]
      rfl)]
    rfl
  · rw [if_neg z, seq_nx [.al (eE e), .al (eE b), .al (.bl g)] (by
      rw [v_sIf, c, decide_eq_false z]
      rfl)]
    simp only [v_sRet, v_fB, v_c2, v_f2, v_fAl, v_fC, v_fCall, v_fCons, v_fNil, List.getElem?_cons_zero, List.getElem?_cons_succ, Option.bind_some, List.append_nil, dIx_tup, atI_0, l, dEq_bl]
    rfl
theorem narrowest_ok {g : Bool} {es : List En} (he : ∀ e ∈ es, BtQ 4000 e.1) : f_narrowest [.lst (es.map eE), .bl g] = some (eO (bestB g none es)) := by
  rw [e_narrowest, F_narrowest]
  rw [seq_nx [.al (.lst (es.map eE)), .al (.bl g), .al .non, .no] rfl]
  generalize hd0 : D.lst (es.map eE) = d0
  have lp : ∀ (xs : List En) (b : Option En) (s3 : Sl), (∀ e ∈ xs, BtQ 4000 e.1) → (∀ e, b = some e → BtQ 4000 e.1) → ∃ s3', sForL (gN 3) L1_narrowest (xs.map eE) [.al d0, .al (.bl g), .al (eO b), s3] = some (.nx [.al d0, .al (.bl g), .al (eO (bestB g b xs)), s3']) := by
    intro xs
    induction xs with
    | nil => exact fun b s3 _ _ => ⟨s3, by cases b <;> rfl⟩
    | cons e xs ih =>
      intro b s3 hx hb
      have he := hx e List.mem_cons_self
      have hx' : ∀ e ∈ xs, BtQ 4000 e.1 := fun z hz => hx z (List.mem_cons_of_mem _ hz)
      cases b with
      | none =>
        obtain ⟨s', h⟩ := ih (some e) (.al (eE e)) hx' (fun z hz => by cases hz; exact he)
        refine ⟨s', ?_⟩
        rw [List.map_cons, v_sForL1]
        exact h
      | some b =>
        obtain ⟨s', h⟩ := ih (some (if narB g e b = true then e else b)) (.al (eE e)) hx' (fun z hz => by
          cases hz
          split
          · exact he
          · exact hb b rfl)
        refine ⟨s', ?_⟩
        have nr := narrower_ok (g := g) he (hb b rfl)
        rw [List.map_cons, v_sForL1]
        show (L1_narrowest [.al d0, .al (.bl g), .al (eE b), .al (eE e)]).bind _ = _
        have body : L1_narrowest [.al d0, .al (.bl g), .al (eE b), .al (eE e)] = some (.nx [.al d0, .al (.bl g), .al (eE (if narB g e b = true then e else b)), .al (eE e)]) := by
          unfold L1_narrowest
          have cd : cOr (c1 dIsN (fAl 2)) (c1 dTru (fCall f_is_narrower [] (fCons (fAl 3) (fCons (fAl 2) (fCons (fAl 1) fNil))))) [.al d0, .al (.bl g), .al (eE b), .al (eE e)] = some (narB g e b) := by
            have ni : dIsN (eE b) = some false := rfl
            simp only [v_cOr, v_c1, v_fAl, v_fCall, v_fCons, v_fNil, List.getElem?_cons_zero, List.getElem?_cons_succ, Option.bind_some, List.append_nil, ni, nr, dTru_bl]
            rfl
          rw [v_sIf, cd]
          cases narB g e b <;> rfl
        rw [body]
        exact h
  obtain ⟨s', h⟩ := lp es none .no he (fun e z => by cases z)
  have it : iSeq (fAl 0) [.al d0, .al (.bl g), .al .non, .no] = some (es.map eE) := by rw [← hd0]; rfl
  rw [seq_nx _ (by rw [v_sFor, it]; exact h)]
  have im : (eO (bestB g none es)).imm = true := by
    cases bestB g none es with
    | none => exact imm_non
    | some e => exact eE_imm e
  simp only [v_sRet, v_fImm, v_fAl, List.getElem?_cons_zero, List.getElem?_cons_succ, Option.bind_some, im, if_true]
  rfl
theorem divInt_1 (i : Int) : Rat.divInt i 1 = (i : Rat) := by
  rw [Rat.divInt_eq_div]
  have : ((1 : Int) : Rat) = 1 := rfl
  rw [this]
  grind
theorem frac1 (i : Int) : f_fraction [.int i, .int 1] = some (eQ (i : Rat)) := by
  rw [fraction_ok (by decide) (Bt.mono (n := 1) (by decide) (by decide)), divInt_1]
theorem btQ_half : BtQ 4000 (Rat.divInt 1 2) := divInt_btQ (by decide) (Bt.mono (n := 1) (by decide) (by decide)) (Bt.mono (n := 2) (by decide) (by decide))
theorem eQ_half : eQ (Rat.divInt 1 2) = .tup [.int 1, .int 2] := by
  have h : (Rat.divInt 1 2).num = 1 := by decide
  have h2 : (Rat.divInt 1 2).den = 2 := by decide
  unfold eQ
  rw [h, h2]
  rfl
theorem btQ_int {n : Nat} {i : Int} (h : Bt n i) (h0 : 0 < n) : BtQ n (i : Rat) := by
  rw [← divInt_1]
  exact divInt_btQ (by decide) h (Bt.mono (n := 1) (by decide) h0)
theorem between_ok {l h : Option En} (hl : ∀ e, l = some e → BtQ 1900 e.1) (hh : ∀ e, h = some e → BtQ 1900 e.1) : f_between [eO l, eO h] = some (eQ (betw l h)) := by
  rw [e_between, F_between]
  have f0 := frac1 0
  have f1' := frac1 1
  have b1 : BtQ 4000 ((1 : Int) : Rat) := btQ_int (Bt.mono (n := 1) (by decide) (by decide)) (by decide)
  cases l with
  | none =>
    cases h with
    | none =>
      rw [seq_rt (d := eQ ((0 : Int) : Rat)) (by
        show (fCall f_fraction [(.int 1)] (fCons (fC (.int 0)) fNil) _).bind _ = _
        simp only [v_fCall, v_fCons, v_fC, v_fNil, Option.bind_some, List.cons_append, List.nil_append, f0])]
      rfl
    | some e =>
      have m := minus_ok ((hh e rfl).mono (show 1900 ≤ 4000 by decide)) b1
      rw [seq_nx [.al .non, .al (eE e)] rfl]
      rw [seq_rt (d := eQ (e.1 - ((1 : Int) : Rat))) (by
        show (fCall f_minus [] (fCons (f2 dIx (fAl 1) (fC (.int 0))) (fCons (fCall f_fraction [(.int 1)] (fCons (fC (.int 1)) fNil)) fNil)) [.al .non, .al (eE e)]).bind _ = _
        simp only [v_f2, v_fAl, v_fCall, v_fCons, v_fC, v_fNil, List.getElem?_cons_zero, List.getElem?_cons_succ, Option.bind_some, List.cons_append, List.nil_append, List.append_nil, dIx_tup, atI_0, f1', m])]
      rfl
  | some l =>
    obtain ⟨l1, l2⟩ := l
    have bl := (hl _ rfl).mono (show 1900 ≤ 4000 by decide)
    have i1 : dIx (eE (l1, l2)) (.int 1) = some (.bl l2) := rfl
    have ni : dIsN (eE (l1, l2)) = some false := rfl
    rw [seq_nx [.al (eE (l1, l2)), .al (eO h)] rfl]
    rw [seq_nx [.al (eE (l1, l2)), .al (eO h)] rfl]
    have cd : cNot (c1 dTru (f2 dIx (fAl 0) (fC (.int 1)))) [.al (eE (l1, l2)), .al (eO h)] = some (!l2) := by
      simp only [v_cNot, v_c1, v_f2, v_fAl, v_fC, List.getElem?_cons_zero, Option.bind_some, i1, dTru_bl]
    cases l2 with
    | false =>
      rw [seq_rt (d := eQ l1) (by
        rw [v_sIf, cd]
        simp only [Bool.not_false, v_sRet, v_fImm, v_f2, v_fAl, v_fC, List.getElem?_cons_zero, Option.bind_some, dIx_tup, atI_0, eQ_imm, if_true])]
      cases h <;> rfl
    | true =>
      rw [seq_nx [.al (eE (l1, true)), .al (eO h)] (by
        rw [v_sIf, cd]
        rfl)]
      cases h with
      | none =>
        have m := plus_ok bl b1
        rw [seq_rt (d := eQ (l1 + ((1 : Int) : Rat))) (by
          show (fCall f_plus [] (fCons (f2 dIx (fAl 0) (fC (.int 0))) (fCons (fCall f_fraction [(.int 1)] (fCons (fC (.int 1)) fNil)) fNil)) [.al (eE (l1, true)), .al .non]).bind _ = _
          simp only [v_f2, v_fAl, v_fCall, v_fCons, v_fC, v_fNil, List.getElem?_cons_zero, List.getElem?_cons_succ, Option.bind_some, List.cons_append, List.nil_append, List.append_nil, dIx_tup, atI_0, f1', m])]
        rfl
      | some e =>
        have m := plus_ok bl ((hh e rfl).mono (show 1900 ≤ 4000 by decide))
        have t := times_ok ((btQ_add (hl _ rfl) (hh e rfl)).mono (show 1900 + 1900 + 1 ≤ 4000 by decide)) btQ_half
        rw [eQ_half] at t
        rw [seq_nx [.al (eE (l1, true)), .al (eE e)] rfl]
        show (sRet (fCall f_times [] (fCons (fCall f_plus [] (fCons (f2 dIx (fAl 0) (fC (.int 0))) (fCons (f2 dIx (fAl 1) (fC (.int 0))) fNil))) (fCons (fC (.tup [(.int 1), (.int 2)])) fNil))) [.al (eE (l1, true)), .al (eE e)]).bind _ = _
        simp only [v_sRet, v_f2, v_fAl, v_fCall, v_fCons, v_fC, v_fNil, List.getElem?_cons_zero, List.getElem?_cons_succ, Option.bind_some, List.cons_append, List.nil_append, List.append_nil, dIx_tup, atI_0, m, t]
        rfl
def lowE (C : Tf) (v : Nat → Rat) (k o : Nat) : Option En := (C o k).map fun b => (v o - (b.1 : Rat), b.2)
def highE (C : Tf) (v : Nat → Rat) (k o : Nat) : Option En := (C k o).map fun b => (v o + (b.1 : Rat), b.2)
theorem ends_ok {n m k : Nat} {C : Tf} {v : Nat → Rat} (hm : m ≤ n) (hn : n ≤ 100) (hk : k < n) (hC : ∀ i j, i < n → j < n → BtB 4000 (C i j)) (hv : ∀ o, o < m → BtQ 4000 (v o)) :
    f_ends_for [eM (tabL n C), .lst ((List.range m).map fun o => eQ (v o)), .int k] = some (.tup [.lst (((List.range m).filterMap (lowE C v k)).map eE), .lst (((List.range m).filterMap (highE C v k)).map eE)]) := by
  rw [e_ends_for, F_ends_for]
  generalize hp : D.lst ((List.range m).map fun o => eQ (v o)) = dp
  rw [seq_nx [.al (eM (tabL n C)), .al dp, .al (.int k), .ow (.lst []), .no, .no, .no, .no, .no] rfl]
  rw [seq_nx [.al (eM (tabL n C)), .al dp, .al (.int k), .ow (.lst []), .ow (.lst []), .no, .no, .no, .no] rfl]
  obtain ⟨ρ1, h1, a, b, c, d, e1⟩ := sForL_pre (G := gSq 2 (gCs (gN 5) (gCs (gN 6) gNl))) (F := L1_ends_for) (m := fun o : Nat => D.tup [.int o, eQ (v o)]) (fun t ρ => ∃ a b c d, ρ = [.al (eM (tabL n C)), .al dp, .al (.int k), .ow (.lst (((List.range t).filterMap (lowE C v k)).map eE)), .ow (.lst (((List.range t).filterMap (highE C v k)).map eE)), a, b, c, d]) (List.range m) (ρ := [.al (eM (tabL n C)), .al dp, .al (.int k), .ow (.lst []), .ow (.lst []), .no, .no, .no, .no]) ⟨.no, .no, .no, .no, rfl⟩ (fun o x ρ hx ⟨a, b, c, d, eρ⟩ => by
    subst eρ
    have ho : o < m := by have := (List.getElem?_eq_some_iff.mp hx).1; simpa using this
    rw [List.getElem?_range ho] at hx
    have e := Option.some.inj hx
    subst e
    have l1 : ((List.range o).filterMap (lowE C v k)).length ≤ 100 := Nat.le_trans (List.length_filterMap_le _ _) (by simp; omega)
    have l2 : ((List.range o).filterMap (highE C v k)).length ≤ 100 := Nat.le_trans (List.length_filterMap_le _ _) (by simp; omega)
    rw [List.range_succ, List.filterMap_append, List.filterMap_append]
    generalize (List.range o).filterMap (lowE C v k) = lo at l1
    generalize (List.range o).filterMap (highE C v k) = hi at l2
    have xo := ixT (n := n) (C := C) (show o < n by omega)
    have xk := ixT (n := n) (C := C) hk
    refine ⟨[.al (eM (tabL n C)), .al dp, .al (.int k), .ow (.lst (lo.map eE)), .ow (.lst (hi.map eE)), .al (.int o), .al (eQ (v o)), c, d], [.al (eM (tabL n C)), .al dp, .al (.int k), .ow (.lst ((lo ++ List.filterMap (lowE C v k) [o]).map eE)), .ow (.lst ((hi ++ List.filterMap (highE C v k) [o]).map eE)), .al (.int o), .al (eQ (v o)), .al (eB (C o k)), .al (eB (C k o))], rfl, ?_, _, _, _, _, rfl⟩
    unfold L1_ends_for
    rw [seq_nx [.al (eM (tabL n C)), .al dp, .al (.int k), .ow (.lst (lo.map eE)), .ow (.lst (hi.map eE)), .al (.int o), .al (eQ (v o)), .al (eB (C o k)), d] (by
      simp only [v_sAl, v_f2, v_fAl, List.getElem?_cons_zero, List.getElem?_cons_succ, Option.bind_some, xo, ixR hk, List.set_cons_zero, List.set_cons_succ])]
    rw [seq_nx [.al (eM (tabL n C)), .al dp, .al (.int k), .ow (.lst (lo.map eE)), .ow (.lst (hi.map eE)), .al (.int o), .al (eQ (v o)), .al (eB (C o k)), .al (eB (C k o))] (by
      simp only [v_sAl, v_f2, v_fAl, List.getElem?_cons_zero, List.getElem?_cons_succ, Option.bind_some, xk, ixR (show o < n by omega), List.set_cons_zero, List.set_cons_succ])]
    have hb1 := hC o k (by omega) hk
    have hb2 := hC k o hk (by omega)
    have hvo := hv o ho
    rw [seq_nx [.al (eM (tabL n C)), .al dp, .al (.int k), .ow (.lst ((lo ++ List.filterMap (lowE C v k) [o]).map eE)), .ow (.lst (hi.map eE)), .al (.int o), .al (eQ (v o)), .al (eB (C o k)), .al (eB (C k o))] (by
      rw [v_sIf]
      have cd : ∀ (b : Bd) (ρ : Ev), ρ[7]? = some (.al (eB b)) → cNot (c1 dIsN (fAl 7)) ρ = some (!b.isNone) := fun b ρ h => by
        simp only [v_cNot, v_c1, v_fAl, h, Option.bind_some, eB_isN]
      rw [cd (C o k) _ rfl]
      cases hb : C o k with
      | none =>
        have e : List.filterMap (lowE C v k) [o] = [] := by simp [lowE, hb]
        rw [e, List.append_nil]
        rfl
      | some x =>
        obtain ⟨bn, bs⟩ := x
        have e : List.filterMap (lowE C v k) [o] = [(v o - (bn : Rat), bs)] := by simp [lowE, hb]
        rw [hb] at hb1
        have hb1 : Bt 4000 bn := hb1
        have fr := frac1 bn
        have mi := minus_ok hvo (btQ_int hb1 (by decide))
        have i0 : dIx (eB (some (bn, bs))) (.int 0) = some (.int bn) := rfl
        have i1 : dIx (eB (some (bn, bs))) (.int 1) = some (.bl bs) := rfl
        have im := eE_imm (v o - (bn : Rat), bs)
        rw [e, Option.bind_some, if_pos (show (!(Option.isNone (some (bn, bs)))) = true from rfl), app_nil (y := eE (v o - (bn : Rat), bs)) rfl (by
          simp only [v_fCons, v_fImm, v_fTup, v_fCall, v_f2, v_fAl, v_fC, v_fNil, List.getElem?_cons_zero, List.getElem?_cons_succ, Option.bind_some, List.cons_append, List.nil_append, List.append_nil, i0, i1, fr, mi, im, if_true]) (Nat.lt_of_le_of_lt (show _ ≤ 100 by rw [List.length_map]; exact l1) (by decide))]
        rw [List.map_append]
        rfl)]
    rw [v_sIf]
    have cd : ∀ (b : Bd) (ρ : Ev), ρ[8]? = some (.al (eB b)) → cNot (c1 dIsN (fAl 8)) ρ = some (!b.isNone) := fun b ρ h => by
      simp only [v_cNot, v_c1, v_fAl, h, Option.bind_some, eB_isN]
    rw [cd (C k o) _ rfl]
    cases hb : C k o with
    | none =>
      have e : List.filterMap (highE C v k) [o] = [] := by simp [highE, hb]
      rw [e, List.append_nil]
      rfl
    | some x =>
      obtain ⟨bn, bs⟩ := x
      have e : List.filterMap (highE C v k) [o] = [(v o + (bn : Rat), bs)] := by simp [highE, hb]
      rw [hb] at hb2
      have hb2 : Bt 4000 bn := hb2
      have fr := frac1 bn
      have mi := plus_ok hvo (btQ_int hb2 (by decide))
      have i0 : dIx (eB (some (bn, bs))) (.int 0) = some (.int bn) := rfl
      have i1 : dIx (eB (some (bn, bs))) (.int 1) = some (.bl bs) := rfl
      have im := eE_imm (v o + (bn : Rat), bs)
      rw [e, Option.bind_some, if_pos (show (!(Option.isNone (some (bn, bs)))) = true from rfl), app_nil (y := eE (v o + (bn : Rat), bs)) rfl (by
        simp only [v_fCons, v_fImm, v_fTup, v_fCall, v_f2, v_fAl, v_fC, v_fNil, List.getElem?_cons_zero, List.getElem?_cons_succ, Option.bind_some, List.cons_append, List.nil_append, List.append_nil, i0, i1, fr, mi, im, if_true]) (Nat.lt_of_le_of_lt (show _ ≤ 100 by rw [List.length_map]; exact l2) (by decide))]
      have em : (hi ++ [(v o + (bn : Rat), bs)]).map eE = hi.map eE ++ [eE (v o + (bn : Rat), bs)] := by rw [List.map_append]; rfl
      rw [em]
      rfl)
  subst e1
  rw [List.length_range] at h1
  rw [seq_nx _ (by rw [v_sFor, enum_rg (n := m) (g := fun o => eQ (v o)) (by rw [hp]; rfl)]; exact h1)]
  rfl
theorem closed_or_none_ok {n : Nat} {T : Tf} (hn0 : 0 < n) (hn : n ≤ 100) (hT : NoNeg n T) : f_closed_or_none [eM (tabL n T)] = some (eM (tabL n (fw n T n))) := by
  rw [e_closed_or_none, F_closed_or_none]
  rcases closed_ok (T := T) hn0 hn with ⟨_, hc⟩ | ⟨y, r, hR, hc⟩
  · have nr : dEq (.str "table") (.str "ring") = some false := by
      unfold dEq
      rw [if_pos ⟨str_ok _ (by decide +kernel) _, str_ok _ (by decide +kernel) _⟩, D.eqv]
      rfl
    rw [seq_nx [.al (eM (tabL n T)), .al (.str "table"), .ow (eM (tabL n (fw n T n)))] (by
      simp only [v_sAsg, v_fCall, v_fCons, v_fAl, v_fNil, List.getElem?_cons_zero, Option.bind_some, List.append_nil, hc]
      rfl)]
    rw [seq_nx [.al (eM (tabL n T)), .al (.str "table"), .ow (eM (tabL n (fw n T n)))] (by
      rw [v_sIf, v_c2]
      show ((Option.bind (some (D.str "table")) fun x => Option.bind (some (D.str "ring")) fun y => dEq x y).bind _) = _
      simp only [Option.bind_some, nr]
      rfl)]
    rfl
  · exact (noneg_no_ring hT hR).elim
theorem gap_of {k n : Nat} {C : Tf} {v : Nat → Rat} (hC : Closd n C) (hk : k < n) (hv : Keep k v C) {o p : Nat} {l h : En} (ho : o < k) (hp : p < k) (hl : lowE C v k o = some l) (hh : highE C v k p = some h) : Gap l h := by
  unfold lowE at hl
  unfold highE at hh
  cases h1 : C o k with
  | none => rw [h1] at hl; cases hl
  | some x =>
    cases h2 : C k p with
    | none => rw [h2] at hh; cases hh
    | some y =>
      obtain ⟨a, s⟩ := x
      obtain ⟨b, t⟩ := y
      rw [h1] at hl
      rw [h2] at hh
      cases hl
      cases hh
      have tr := hC.tri o p k (by omega) (by omega) hk
      rw [h1, h2] at tr
      have kk := le_keeps tr (hv o ho p hp)
      have kk : keepsB (v o - v p) (some (a + b, s || t)) = true := kk
      show v o - (a : Rat) < v p + (b : Rat) ∨ (v o - (a : Rat) = v p + (b : Rat) ∧ s = false ∧ t = false)
      have e : ((a + b : Int) : Rat) = (a : Rat) + (b : Rat) := Rat.intCast_add ..
      cases s <;> cases t <;> simp [keepsB, e] at kk ⊢ <;> grind
theorem keep_congr {n : Nat} {u v : Nat → Rat} {T : Tf} (h : ∀ i, i < n → u i = v i) (k : Keep n u T) : Keep n v T := fun i hi j hj => by
  rw [← h i hi, ← h j hj]
  exact k i hi j hj
theorem keep_step {k n : Nat} {C : Tf} {v : Nat → Rat} {x : Rat} (hC : Closd n C) (hk : k < n) (hv : Keep k v C) (hl : ∀ o, o < k → ∀ e, lowE C v k o = some e → okE true e x) (hh : ∀ o, o < k → ∀ e, highE C v k o = some e → okE false e x) : Keep (k + 1) (up1 v k x) C := fun i hi j hj => by
  by_cases h1 : i = k
  · subst h1
    rw [up1_same]
    by_cases h2 : j = i
    · subst h2
      rw [up1_same, hC.dg j hk]
      have : x - x = 0 := by grind
      rw [this]
      exact keepsB_z
    · rw [up1_ne h2]
      have hj' : j < i := by omega
      have := hh j hj'
      unfold highE at this
      cases h3 : C i j with
      | none => rfl
      | some y =>
        obtain ⟨b, s⟩ := y
        rw [h3] at this
        have := this _ rfl
        cases s <;> simp only [okE, keepsB, decide_eq_true_iff] at this ⊢ <;> grind
  · have hi' : i < k := by omega
    rw [up1_ne h1]
    by_cases h2 : j = k
    · subst h2
      rw [up1_same]
      have := hl i hi'
      unfold lowE at this
      cases h3 : C i j with
      | none => rfl
      | some y =>
        obtain ⟨b, s⟩ := y
        rw [h3] at this
        have := this _ rfl
        cases s <;> simp only [okE, keepsB, decide_eq_true_iff] at this ⊢ <;> grind
    · rw [up1_ne h2]
      exact hv i hi' j (by omega)
theorem fit0 {j : Nat} {M : Int} (h : 0 ≤ M) : Fit j M 0 := by
  have h' : ((0 : Int) : Rat) ≤ (M : Rat) := Rat.intCast_le_intCast.mpr h
  have z : ((0 : Int) : Rat) = 0 := rfl
  rw [z] at h'
  exact ⟨⟨0, by rw [Rat.zero_mul]; rfl⟩, by grind, h'⟩
theorem betw_fit {j : Nat} {N : Int} {l h : Option En} (h0 : 0 ≤ N) (hl : ∀ e, l = some e → Fit j N e.1) (hh : ∀ e, h = some e → Fit j N e.1) : Fit (j + 1) (N + 1) (betw l h) := by
  have one : ((1 : Int) : Rat) = 1 := rfl
  cases l with
  | none => cases h with
    | none => exact fit0 (by omega)
    | some e =>
      have := (hh e rfl).sub (b := 1) (B := 1) (by omega) (by omega)
      rw [one] at this
      exact this.up (Int.le_refl _)
  | some l => cases h with
    | none =>
      show Fit _ _ (if l.2 = true then l.1 + 1 else l.1)
      split
      · have := (hl l rfl).add (b := 1) (B := 1) (by omega) (by omega)
        rw [one] at this
        exact this.up (Int.le_refl _)
      · exact (hl l rfl).up (by omega)
    | some h =>
      show Fit _ _ (if l.2 = true then (l.1 + h.1) * Rat.divInt 1 2 else l.1)
      split
      · exact ((hl l rfl).mid (hh h rfl)).mono (by omega)
      · exact (hl l rfl).up (by omega)
theorem Fit.small {k w : Nat} {v : Rat} (hk : k ≤ 60) (h : Fit k ((k : Int) * (2 ^ w + 1)) v) : BtQ (w + k + 8) v := by
  have hp : (1 : Int) ≤ 2 ^ w := by
    have e : (2 : Int) ^ w = ((2 ^ w : Nat) : Int) := (Int.natCast_pow 2 w).symm
    have := Nat.two_pow_pos w
    rw [e]; omega
  have h1 : (k : Int) * (2 ^ w + 1) ≤ 60 * (2 ^ w + 1) := Int.mul_le_mul_of_nonneg_right (by omega) (by omega)
  have h2 : (2 : Int) ^ (w + 7) = 2 ^ w * 128 := by rw [Int.pow_add]; rfl
  have := (h.mono (N := 2 ^ (w + 7)) (by rw [h2]; omega)).btQ
  exact this.mono (by omega)
theorem Fit.room {k w : Nat} {v : Rat} (hk : k ≤ 60) (h : Fit k ((k : Int) * (2 ^ w + 1) + 2 ^ w) v) : BtQ (w + k + 8) v := by
  have hp : (1 : Int) ≤ 2 ^ w := by
    have e : (2 : Int) ^ w = ((2 ^ w : Nat) : Int) := (Int.natCast_pow 2 w).symm
    have := Nat.two_pow_pos w
    rw [e]; omega
  have h1 : (k : Int) * (2 ^ w + 1) ≤ 60 * (2 ^ w + 1) := Int.mul_le_mul_of_nonneg_right (by omega) (by omega)
  have h2 : (2 : Int) ^ (w + 7) = 2 ^ w * 128 := by rw [Int.pow_add]; rfl
  have := (h.mono (N := 2 ^ (w + 7)) (by rw [h2]; omega)).btQ
  exact this.mono (by omega)
theorem point_okW {n w : Nat} {T : Tf} (hn0 : 0 < n) (hn : n ≤ 60) (hT : NoNeg n T) (hw : w + 2 * n ≤ 1880) (hb : ∀ i j, i < n → j < n → BtB w (T i j)) :
    ∃ qs : List Rat, f_point_of [eM (tabL n T)] = some (.lst (qs.map eQ)) ∧ qs.length + 1 = n ∧ Keep n (fun i => (0 :: qs).getD i 0) T ∧ ∀ q ∈ qs, BtQ (w + 2 * n + 8) q := by
  have cn := closed_or_none_ok hn0 (by omega) hT
  have hC := (fw_least hT).closd hT
  have bC := fw_bt hT hb
  have kT : ∀ v, Keep n v T ↔ Keep n v (fw n T n) := fun v => keep_fw hT
  generalize fw n T n = C at cn hC bC kT
  obtain ⟨W, hW⟩ : ∃ W, W = w + 1 + n := ⟨_, rfl⟩
  rw [← hW] at bC
  rw [e_point_of, F_point_of]
  generalize eM (tabL n T) = M at cn
  rw [seq_nx [.al M, .al (eM (tabL n C)), .no, .no, .no, .no] (by
    simp only [v_sAl, v_fCall, v_fCons, v_fAl, v_fNil, List.getElem?_cons_zero, Option.bind_some, List.append_nil, cn]
    rfl)]
  have f0 := frac1 0
  rw [seq_nx [.al M, .al (eM (tabL n C)), .ow (.lst ((List.range (0 + 1)).map fun o => eQ ((fun _ => 0 : Nat → Rat) o))), .no, .no, .no] (by
    simp only [v_sOw, v_fLst, v_fCall, v_fCons, v_fC, v_fNil, Option.bind_some, List.cons_append, List.nil_append, f0]
    rfl)]
  obtain ⟨ρ1, h1, v, a, b, c, e1, v0, kv, fv⟩ := sForL_pre (G := gN 3) (F := L1_point_of) (m := fun i : Nat => D.int (1 + (i : Nat))) (fun t ρ => ∃ (v : Nat → Rat) (a b c : Sl), ρ = [.al M, .al (eM (tabL n C)), .ow (.lst ((List.range (t + 1)).map fun o => eQ (v o))), a, b, c] ∧ v 0 = 0 ∧ Keep (t + 1) v C ∧ ∀ o, o ≤ t → Fit t ((t : Int) * (2 ^ W + 1)) (v o)) (List.range (n - 1)) (ρ := [.al M, .al (eM (tabL n C)), .ow (.lst ((List.range (0 + 1)).map fun o => eQ ((fun _ => 0 : Nat → Rat) o))), .no, .no, .no]) ⟨fun _ => 0, .no, .no, .no, rfl, rfl, fun i hi j hj => by
      have hi0 : i = 0 := by omega
      have hj0 : j = 0 := by omega
      subst hi0 hj0
      rw [hC.dg 0 hn0]
      show keepsB ((0 : Rat) - 0) zB = true
      have z : (0 : Rat) - 0 = 0 := by grind
      rw [z]
      exact keepsB_z, fun o _ => fit0 (by simp)⟩ (fun t x ρ hx ⟨v, a, b, c, eρ, v0, kv, fv⟩ => by
    subst eρ
    have ht : t < n - 1 := by have := (List.getElem?_eq_some_iff.mp hx).1; simpa using this
    rw [List.getElem?_range ht] at hx
    have e := Option.some.inj hx
    subst e
    have hk : t + 1 < n := by omega
    have ek : (1 : Int) + (t : Nat) = ((t + 1 : Nat) : Int) := by omega
    have hp : (1 : Int) ≤ 2 ^ W := by
      have e : (2 : Int) ^ W = ((2 ^ W : Nat) : Int) := (Int.natCast_pow 2 W).symm
      have := Nat.two_pow_pos W
      rw [e]; omega
    have bv : ∀ o, o < t + 1 → BtQ 4000 (v o) := fun o ho => (Fit.small (by omega) (fv o (by omega))).mono (by omega)
    have en := ends_ok (n := n) (m := t + 1) (k := t + 1) (C := C) (v := v) (by omega) (by omega) hk (fun i j hi hj => (bC i j hi hj).mono (by omega)) bv
    have fl : ∀ o, o < t + 1 → ∀ e, lowE C v (t + 1) o = some e → Fit t ((t : Int) * (2 ^ W + 1) + 2 ^ W) e.1 := fun o ho e he => by
      unfold lowE at he
      cases h3 : C o (t + 1) with
      | none => rw [h3] at he; cases he
      | some y =>
        obtain ⟨b, s⟩ := y
        rw [h3] at he
        cases he
        have hbb := bC o (t + 1) (by omega) hk
        rw [h3] at hbb
        obtain ⟨r1, r2⟩ := Bt.rng (show Bt W b from hbb)
        exact (fv o (by omega)).sub r1 r2
    have fh : ∀ o, o < t + 1 → ∀ e, highE C v (t + 1) o = some e → Fit t ((t : Int) * (2 ^ W + 1) + 2 ^ W) e.1 := fun o ho e he => by
      unfold highE at he
      cases h3 : C (t + 1) o with
      | none => rw [h3] at he; cases he
      | some y =>
        obtain ⟨b, s⟩ := y
        rw [h3] at he
        cases he
        have hbb := bC (t + 1) o hk (by omega)
        rw [h3] at hbb
        obtain ⟨r1, r2⟩ := Bt.rng (show Bt W b from hbb)
        exact (fv o (by omega)).add r1 r2
    have ml : ∀ e ∈ (List.range (t + 1)).filterMap (lowE C v (t + 1)), ∃ o, o < t + 1 ∧ lowE C v (t + 1) o = some e := fun e he => by
      obtain ⟨o, h1, h2⟩ := List.mem_filterMap.mp he
      exact ⟨o, List.mem_range.mp h1, h2⟩
    have mh : ∀ e ∈ (List.range (t + 1)).filterMap (highE C v (t + 1)), ∃ o, o < t + 1 ∧ highE C v (t + 1) o = some e := fun e he => by
      obtain ⟨o, h1, h2⟩ := List.mem_filterMap.mp he
      exact ⟨o, List.mem_range.mp h1, h2⟩
    have lm : ∀ o, o < t + 1 → ∀ e, lowE C v (t + 1) o = some e → e ∈ (List.range (t + 1)).filterMap (lowE C v (t + 1)) := fun o ho e he => List.mem_filterMap.mpr ⟨o, List.mem_range.mpr ho, he⟩
    have hm : ∀ o, o < t + 1 → ∀ e, highE C v (t + 1) o = some e → e ∈ (List.range (t + 1)).filterMap (highE C v (t + 1)) := fun o ho e he => List.mem_filterMap.mpr ⟨o, List.mem_range.mpr ho, he⟩
    generalize (List.range (t + 1)).filterMap (lowE C v (t + 1)) = lows at en ml lm
    generalize (List.range (t + 1)).filterMap (highE C v (t + 1)) = highs at en mh hm
    have n1 := narrowest_ok (g := true) (es := lows) (fun e he => by
      obtain ⟨o, h1, h2⟩ := ml e he
      exact (Fit.room (by omega) (fl o h1 e h2)).mono (by omega))
    have n2 := narrowest_ok (g := false) (es := highs) (fun e he => by
      obtain ⟨o, h1, h2⟩ := mh e he
      exact (Fit.room (by omega) (fh o h1 e h2)).mono (by omega))
    have B1 := best_of (g := true) (es := lows)
    have B2 := best_of (g := false) (es := highs)
    generalize bestB true none lows = bl at n1 B1
    generalize bestB false none highs = bh at n2 B2
    have L1 : ∀ e, bl = some e → ∃ o, o < t + 1 ∧ lowE C v (t + 1) o = some e := fun e he => by
      rcases B1 with ⟨_, z⟩ | ⟨b, z, zm, _⟩
      · rw [z] at he; cases he
      · rw [z] at he; cases he; exact ml _ zm
    have L2 : ∀ e, bh = some e → ∃ o, o < t + 1 ∧ highE C v (t + 1) o = some e := fun e he => by
      rcases B2 with ⟨_, z⟩ | ⟨b, z, zm, _⟩
      · rw [z] at he; cases he
      · rw [z] at he; cases he; exact mh _ zm
    have bt := between_ok (l := bl) (h := bh) (fun e he => by
      obtain ⟨o, h1, h2⟩ := L1 e he
      exact (Fit.room (by omega) (fl o h1 e h2)).mono (by omega)) (fun e he => by
      obtain ⟨o, h1, h2⟩ := L2 e he
      exact (Fit.room (by omega) (fh o h1 e h2)).mono (by omega))
    have gp : ∀ l h, bl = some l → bh = some h → Gap l h := fun l h hl hh => by
      obtain ⟨o, o1, o2⟩ := L1 l hl
      obtain ⟨p, p1, p2⟩ := L2 h hh
      exact gap_of hC hk kv o1 p1 o2 p2
    have ft := betw_fit (j := t) (N := (t : Int) * (2 ^ W + 1) + 2 ^ W) (l := bl) (h := bh) (by
      have : (0 : Int) ≤ (t : Int) * (2 ^ W + 1) := Int.mul_nonneg (by omega) (by omega)
      omega) (fun e he => by
      obtain ⟨o, h1, h2⟩ := L1 e he
      exact fl o h1 e h2) (fun e he => by
      obtain ⟨o, h1, h2⟩ := L2 e he
      exact fh o h1 e h2)
    have okl : ∀ o, o < t + 1 → ∀ e, lowE C v (t + 1) o = some e → okE true e (betw bl bh) := fun o ho e he => by
      rcases B1 with ⟨z, _⟩ | ⟨b, z, zm, zo⟩
      · have := lm o ho e he
        rw [z] at this
        cases this
      · refine zo _ ?_ e (lm o ho e he)
        rw [z]
        exact betw_low fun x hx => gp b x z hx
    have okh : ∀ o, o < t + 1 → ∀ e, highE C v (t + 1) o = some e → okE false e (betw bl bh) := fun o ho e he => by
      rcases B2 with ⟨z, _⟩ | ⟨b, z, zm, zo⟩
      · have := hm o ho e he
        rw [z] at this
        cases this
      · refine zo _ ?_ e (hm o ho e he)
        rw [z]
        exact betw_high fun x hx => gp x b hx z
    have ks := keep_step hC hk kv okl okh
    have eM' : ((t : Int) * (2 ^ W + 1) + 2 ^ W + 1) = ((t + 1 : Nat) : Int) * (2 ^ W + 1) := by
      rw [Int.natCast_add, Int.add_mul]
      have : ((1 : Nat) : Int) * (2 ^ W + 1) = 2 ^ W + 1 := Int.one_mul _
      omega
    rw [eM'] at ft
    have eB' : (t : Int) * (2 ^ W + 1) ≤ ((t + 1 : Nat) : Int) * (2 ^ W + 1) := Int.mul_le_mul_of_nonneg_right (by omega) (by omega)
    generalize betw bl bh = x at bt ft ks
    have em : ((List.range (t + 1)).map fun o => eQ (v o)) ++ [eQ x] = (List.range (t + 1 + 1)).map fun o => eQ (up1 v (t + 1) x o) := by
      rw [List.range_succ (n := t + 1), List.map_append]
      congr 1
      · refine List.map_congr_left fun o ho => ?_
        have := List.mem_range.mp ho
        rw [up1_ne (by omega)]
      · show [eQ x] = [eQ (up1 v (t + 1) x (t + 1))]
        rw [up1_same]
    refine ⟨[.al M, .al (eM (tabL n C)), .ow (.lst ((List.range (t + 1)).map fun o => eQ (v o))), .al (.int ((t + 1 : Nat) : Int)), b, c], [.al M, .al (eM (tabL n C)), .ow (.lst ((List.range (t + 1 + 1)).map fun o => eQ (up1 v (t + 1) x o))), .al (.int ((t + 1 : Nat) : Int)), .al (.lst (lows.map eE)), .al (.lst (highs.map eE))], by rw [ek]; rfl, ?_, up1 v (t + 1) x, _, _, _, rfl, by rw [up1_ne (by omega)]; exact v0, ks, fun o ho => ?_⟩
    · unfold L1_point_of
      rw [seq_nx [.al M, .al (eM (tabL n C)), .ow (.lst ((List.range (t + 1)).map fun o => eQ (v o))), .al (.int ((t + 1 : Nat) : Int)), .al (.lst (lows.map eE)), .al (.lst (highs.map eE))] (by
        simp only [v_sAsg, v_fCall, v_fCons, v_fAl, v_fVar, v_fNil, List.getElem?_cons_zero, List.getElem?_cons_succ, Option.bind_some, List.append_nil, en]
        rfl)]
      rw [app_nil (y := eQ x) rfl (by
        simp only [v_fCons, v_fCall, v_fAl, v_fC, v_fNil, List.getElem?_cons_zero, List.getElem?_cons_succ, Option.bind_some, List.append_nil, n1, n2, bt]) (Nat.lt_of_le_of_lt (show _ ≤ 100 by simp; omega) (by decide)), em]
      rfl
    · by_cases z : o = t + 1
      · subst z
        rw [up1_same]
        exact ft
      · rw [up1_ne z]
        exact (fv o (by omega)).up eB')
  subst e1
  rw [List.length_range] at h1 kv fv
  have en : n - 1 + 1 = n := by omega
  rw [seq_nx _ (by
    have : iR2 (fCons (fC (.int 1)) (fCons (fA dLen (fCons (fAl 1) fNil)) fNil)) [.al M, .al (eM (tabL n C)), .ow (.lst ((List.range (0 + 1)).map fun o => eQ ((fun _ => 0 : Nat → Rat) o))), .no, .no, .no] = some ((List.range (n - 1)).map fun i : Nat => D.int (1 + (i : Nat))) := by
      have lc : (fCons (fC (.int 1)) (fCons (fA dLen (fCons (fAl 1) fNil)) fNil)) [.al M, .al (eM (tabL n C)), .ow (.lst ((List.range (0 + 1)).map fun o => eQ ((fun _ => 0 : Nat → Rat) o))), .no, .no, .no] = some [.int 1, .int n] := by
        simp only [v_fCons, v_fC, v_fA, v_fAl, v_fNil, List.getElem?_cons_zero, List.getElem?_cons_succ, Option.bind_some, lenT]
      show Option.bind _ _ = _
      rw [lc]
      show gd _ _ = _
      rw [gd_pos ⟨by decide, by decide, by omega, by omega⟩]
      have : ((n : Int) - 1).toNat = n - 1 := by omega
      rw [this]
      rfl
    rw [v_sFor, this]
    exact h1)]
  refine ⟨(List.range (n - 1)).map fun i => v (i + 1), ?_, by simp; omega, ?_, fun q hq => ?_⟩
  · have imm : D.immL ((List.range (n - 1 + 1)).map fun o => eQ (v o)) = true := immL_map (fun _ => eQ_imm) _
    have cut : dCut ((List.range (n - 1 + 1)).map fun o => eQ (v o)) (some 1) none = ((List.range (n - 1)).map fun i => v (i + 1)).map eQ := by
      unfold dCut
      have e1 : HT.sIx ((List.range (n - 1 + 1)).map fun o => eQ (v o)).length 0 (some 1) = 1 := by
        have := HT.sIx_nat (n := ((List.range (n - 1 + 1)).map fun o => eQ (v o)).length) (d := 0) (k := 1)
        rw [show ((1 : Nat) : Int) = 1 from rfl] at this
        rw [this]
        simp
      rw [e1, HT.sIx_none, List.length_map, List.length_range]
      rw [List.take_of_length_le (by simp)]
      rw [List.range_succ_eq_map, List.map_cons, List.drop_one, List.tail_cons, List.map_map, List.map_map]
      rfl
    rw [v_sRet, v_fSl]
    show (((some (D.lst ((List.range (n - 1 + 1)).map fun o => eQ (v o)))).bind fun x => (some (some (1 : Int))).bind fun l => (some none).bind fun h => x.lsq.bind fun xs => if D.immL xs = true then some (D.lst (dCut xs l h)) else none).bind _).bind _ = _
    show ((if D.immL ((List.range (n - 1 + 1)).map fun o => eQ (v o)) = true then some (D.lst (dCut ((List.range (n - 1 + 1)).map fun o => eQ (v o)) (some 1) none)) else none).bind _).bind _ = _
    rw [if_pos imm, cut]
    rfl
  · rw [kT]
    rw [en] at kv
    refine keep_congr (fun i hi => ?_) kv
    cases i with
    | zero => exact v0
    | succ i =>
      show v (i + 1) = ((List.range (n - 1)).map fun i => v (i + 1)).getD i 0
      rw [List.getD_eq_getElem?_getD, rg_get (show i < n - 1 by omega)]
      rfl
  · obtain ⟨i, hi, rfl⟩ := List.mem_map.mp hq
    have := List.mem_range.mp hi
    exact (Fit.small (by omega) (fv (i + 1) (by omega))).mono (by omega)
theorem point_ok {n w : Nat} {T : Tf} (hn0 : 0 < n) (hn : n ≤ 16) (hT : NoNeg n T) (hw : w ≤ 1800) (hb : ∀ i j, i < n → j < n → BtB w (T i j)) :
    ∃ qs : List Rat, f_point_of [eM (tabL n T)] = some (.lst (qs.map eQ)) ∧ qs.length + 1 = n ∧ Keep n (fun i => (0 :: qs).getD i 0) T ∧ ∀ q ∈ qs, BtQ (w + 40) q := by
  obtain ⟨qs, q1, q2, q3, q4⟩ := point_okW hn0 (by omega) hT (by omega) hb
  exact ⟨qs, q1, q2, q3, fun q hq => (q4 q hq).mono (by omega)⟩
theorem Closd.noneg {n : Nat} {C : Tf} (h : Closd n C) : NoNeg n C := fun i p hp => by
  have := closd_le h (T := C) (fun i j _ _ => leB_refl _) p i i hp
  rwa [h.dg i hp.lt] at this
theorem Closd.least {n : Nat} {C : Tf} (h : Closd n C) : Least n C C :=
  ⟨fun i j p hp => closd_le h (T := C) (fun i j _ _ => leB_refl _) p i j hp, fun i j hi hj => ⟨[j], .one hi hj, (addB_z _).symm⟩⟩
theorem closd_closed {n : Nat} {C : Tf} (hn0 : 0 < n) (hn : n ≤ 100) (h : Closd n C) : f_closed [eM (tabL n C)] = some (.tup [.str "table", eM (tabL n C)]) := by
  rcases closed_ok (T := C) hn0 hn with ⟨hT, hc⟩ | ⟨y, r, hR, hc⟩
  · rw [hc, tab_congr fun i j hi hj => (fw_least hT).unique h.least hi hj]
  · exact (noneg_no_ring h.noneg hR).elim
theorem eq_table_ring : dEq (.str "table") (.str "ring") = some false := by
  unfold dEq
  rw [if_pos ⟨str_ok _ (by decide +kernel) _, str_ok _ (by decide +kernel) _⟩, D.eqv]
  rfl
theorem eM_okM (T : Tb) (n : Nat) : (eM T).eqOk (n + 3) = true := by
  unfold eM
  rw [ok_lst]
  exact okL_map (fun _ => eR_ok _ _) _
theorem eqvL_B : ∀ xs ys : List Bd, D.eqvL (xs.map eB) (ys.map eB) = decide (xs = ys)
  | [], [] => by simp
  | [], y :: ys => by rw [List.map_nil, List.map_cons]; simp [D.eqvL]
  | x :: xs, [] => by rw [List.map_nil, List.map_cons]; simp [D.eqvL]
  | x :: xs, y :: ys => by
    rw [List.map_cons, List.map_cons, eqvL_cons, eB_eqv, eqvL_B xs ys, Bool.eq_iff_iff]
    simp
theorem eqvL_R : ∀ xs ys : Tb, D.eqvL (xs.map eR) (ys.map eR) = decide (xs = ys)
  | [], [] => by simp
  | [], y :: ys => by rw [List.map_nil, List.map_cons]; simp [D.eqvL]
  | x :: xs, [] => by rw [List.map_nil, List.map_cons]; simp [D.eqvL]
  | x :: xs, y :: ys => by
    have e : (eR x).eqv (eR y) = decide (x = y) := by
      unfold eR
      rw [eqv_lst, eqvL_B]
    rw [List.map_cons, List.map_cons, eqvL_cons, e, eqvL_R xs ys, Bool.eq_iff_iff]
    simp
theorem dEq_M (S T : Tb) : dEq (eM S) (eM T) = some (decide (S = T)) := by
  unfold dEq
  rw [if_pos ⟨eM_ok S, eM_ok T⟩]
  unfold eM
  rw [eqv_lst, eqvL_R]
theorem dNe_M (S T : Tb) : dNe (eM S) (eM T) = some (!decide (S = T)) := by
  unfold dNe
  rw [if_pos ⟨eM_ok S, eM_ok T⟩]
  unfold eM
  rw [eqv_lst, eqvL_R]
theorem tab_inj {n : Nat} {C D : Tf} (h : tabL n C = tabL n D) {i j : Nat} (hi : i < n) (hj : j < n) : C i j = D i j := by
  rw [← entry_tab (C := C) hi hj, h, entry_tab hi hj]
end Mt
namespace Mt
open PySem PySem.Spec PyProof.Rows L2 Z G
def edge (C : Tf) (j i : Nat) (b : Bd) : Tf := up2 C j i (minB (C j i) b)
theorem leB_add_l {a b c : Bd} (h : leB zB a) (k : leB b c) : leB b (addB a c) := by
  have := addB_mono h k
  rwa [z_addB] at this
theorem edge_noneg {n : Nat} {C : Tf} {j i : Nat} {b : Bd} (hC : Closd n C) (hi : i < n) (hj : j < n) (hb : leB zB (addB (C i j) b)) : NoNeg n (edge C j i b) := by
  have key : ∀ (p : List Nat) (x y : Nat), Way n x y p → leB (minB (C x y) (addB (addB (C x j) b) (C i y))) (wsum (edge C j i b) x p) := fun p => by
    induction p with
    | nil =>
      intro x y hp
      have e : x = y := hp.nd
      subst e
      refine leB_trans (minB_l _ _) ?_
      rw [hC.dg x hp.lt]
      exact leB_refl _
    | cons k p ih =>
      intro x y hp
      have hx := hp.lt
      have hk : k < n := hp.all k List.mem_cons_self
      have hy : y < n := by rw [← hp.nd]; exact wend_lt hp.lt hp.all
      have h1 := ih k y ⟨hk, fun z hz => hp.all z (List.mem_cons_of_mem _ hz), hp.nd⟩
      show leB _ (addB (edge C j i b x k) (wsum (edge C j i b) k p))
      refine leB_trans ?_ (addB_mono (leB_refl _) h1)
      have base : leB (minB (C x y) (addB (addB (C x j) b) (C i y))) (addB (C x k) (minB (C k y) (addB (addB (C k j) b) (C i y)))) := by
        rcases minB_or (C k y) (addB (addB (C k j) b) (C i y)) with e | e
        · rw [e]
          exact leB_trans (minB_l _ _) (hC.tri x y k hx hy hk)
        · rw [e]
          refine leB_trans (minB_r _ _) ?_
          rw [← addB_assoc, ← addB_assoc]
          exact addB_mono (addB_mono (hC.tri x j k hx hj hk) (leB_refl _)) (leB_refl _)
      by_cases z : x = j ∧ k = i
      · obtain ⟨rfl, rfl⟩ := z
        have ee : edge C x k b x k = minB (C x k) b := up2_same
        rw [ee]
        rcases minB_or (C x k) b with e | e
        · rw [e]
          exact base
        · rw [e]
          have t1 : leB (minB (C x y) (addB (addB (C x x) b) (C k y))) (addB b (C k y)) := by
            have := minB_r (C x y) (addB (addB (C x x) b) (C k y))
            rwa [hC.dg x hx, z_addB] at this ⊢
          rcases minB_or (C k y) (addB (addB (C k x) b) (C k y)) with e2 | e2
          · rw [e2]
            exact t1
          · rw [e2]
            refine leB_trans t1 (addB_mono (leB_refl _) ?_)
            exact leB_add_l hb (leB_refl _)
      · have ee : edge C j i b x k = C x k := up2_ne z
        rw [ee]
        exact base
  intro x p hp
  have hx := hp.lt
  refine leB_trans ?_ (key p x x hp)
  rcases minB_or (C x x) (addB (addB (C x j) b) (C i x)) with e | e
  · rw [e, hC.dg x hx]
    exact leB_refl _
  · rw [e, addB_comm, ← addB_assoc]
    refine leB_trans hb (addB_mono (hC.tri i j x hi hj hx) (leB_refl _))
theorem edge_keep {n : Nat} {C : Tf} {j i : Nat} {b : Bd} {v : Nat → Rat} (hi : i < n) (hj : j < n) (h : Keep n v (edge C j i b)) : Keep n v C ∧ keepsB (v j - v i) b = true := by
  have h0 := h j hj i hi
  have ee : edge C j i b j i = minB (C j i) b := up2_same
  rw [ee, minB_keeps, Bool.and_eq_true] at h0
  refine ⟨fun x hx y hy => ?_, h0.2⟩
  by_cases z : x = j ∧ y = i
  · obtain ⟨rfl, rfl⟩ := z
    exact h0.1
  · have := h x hx y hy
    have ee : edge C j i b x y = C x y := up2_ne z
    rwa [ee] at this
def scB (far : Int) (b : Bd) : Bd := b.map fun x => (x.1 * far, x.2)
def scT (far : Int) (C : Tf) : Tf := fun i j => scB far (C i j)
theorem scB_le {far : Int} (hf : 0 < far) {a b : Bd} (h : leB a b) : leB (scB far a) (scB far b) := by
  cases b with
  | none => exact leB_none _
  | some y => cases a with
    | none => have := leB_none_l h; cases this
    | some x =>
      obtain ⟨n, s⟩ := x
      obtain ⟨m, t⟩ := y
      show leB (some (n * far, s)) (some (m * far, t))
      rw [leB_some] at h ⊢
      rcases h with h | ⟨h1, h2⟩
      · exact .inl (Int.mul_lt_mul_of_pos_right h hf)
      · exact .inr ⟨by rw [h1], h2⟩
theorem scB_add {far : Int} (a b : Bd) : scB far (addB a b) = addB (scB far a) (scB far b) := by
  cases a with
  | none => rfl
  | some x => cases b with
    | none => rfl
    | some y =>
      obtain ⟨n, s⟩ := x
      obtain ⟨m, t⟩ := y
      show some ((n + m) * far, s || t) = some (n * far + m * far, s || t)
      rw [Int.add_mul]
theorem scT_closd {far : Int} (hf : 0 < far) {n : Nat} {C : Tf} (h : Closd n C) : Closd n (scT far C) where
  dg := fun i hi => by
    show scB far (C i i) = zB
    rw [h.dg i hi]
    show some (0 * far, false) = _
    rw [Int.zero_mul]
    rfl
  tri := fun i j m hi hj hm => by
    show leB (scB far (C i j)) (addB (scB far (C i m)) (scB far (C m j)))
    rw [← scB_add]
    exact scB_le hf (h.tri i j m hi hj hm)
theorem scB_keeps {far : Int} (hf : 0 < far) {q : Rat} {b : Bd} (h : keepsB q (scB far b) = true) : keepsB (q * Rat.divInt 1 far) b = true := by
  cases b with
  | none => rfl
  | some x =>
    obtain ⟨m, s⟩ := x
    have h : keepsB q (some (m * far, s)) = true := h
    have hf' : (0 : Rat) < (far : Rat) := Rat.intCast_pos.mpr hf
    have e : Rat.divInt 1 far = 1 / (far : Rat) := by rw [Rat.divInt_eq_div]; rfl
    have e2 : ((m * far : Int) : Rat) = (m : Rat) * (far : Rat) := Rat.intCast_mul ..
    have e3 : q * Rat.divInt 1 far = q / (far : Rat) := by rw [e]; grind
    rw [e3]
    cases s with
    | true =>
      simp only [keepsB, decide_eq_true_iff, e2] at h ⊢
      rw [Rat.div_lt_iff hf']
      exact h
    | false =>
      simp only [keepsB, decide_eq_true_iff, e2] at h ⊢
      rw [← Rat.not_lt, Rat.lt_div_iff hf', Rat.not_lt]
      exact h
theorem spread_ok {n : Nat} {C : Tf} {far : Int} (hn : n ≤ 100) (bf : Bt 2000 far) (hC : ∀ i j, i < n → j < n → BtB 2000 (C i j)) : f_spread [eM (tabL n C), .int far] = some (eM (tabL n (scT far C))) := by
  rw [e_spread, F_spread]
  rw [seq_nx [.al (eM (tabL n C)), .al (.int far), .ow (.lst []), .no, .no] rfl]
  obtain ⟨ρ1, h1, a, e1⟩ := sForL_pre (G := gN 3) (F := L1_spread) (m := fun i : Nat => eR ((List.range n).map (C i))) (fun k ρ => ∃ a, ρ = [.al (eM (tabL n C)), .al (.int far), .ow (.lst ((List.range k).map fun i => eR ((List.range n).map (scT far C i)))), a, .no]) (List.range n) (ρ := [.al (eM (tabL n C)), .al (.int far), .ow (.lst []), .no, .no]) ⟨.no, rfl⟩ (fun k x ρ hx ⟨a, eρ⟩ => by
    subst eρ
    have hk : k < n := by have := (List.getElem?_eq_some_iff.mp hx).1; simpa using this
    rw [List.getElem?_range hk] at hx
    have e := Option.some.inj hx
    subst e
    refine ⟨[.al (eM (tabL n C)), .al (.int far), .ow (.lst ((List.range k).map fun i => eR ((List.range n).map (scT far C i)))), .al (eR ((List.range n).map (C k))), .no], [.al (eM (tabL n C)), .al (.int far), .ow (.lst ((List.range (k + 1)).map fun i => eR ((List.range n).map (scT far C i)))), .al (eR ((List.range n).map (C k))), .no], rfl, ?_, _, rfl⟩
    have cm := compL_map (G := gN 4) (c := cYes) (e := fImm (fIf (c1 dIsN (fAl 4)) (fC .non) (fTup (fCons (f2 dMul (f2 dIx (fAl 4) (fC (.int 0))) (fAl 1)) (fCons (f2 dIx (fAl 4) (fC (.int 1))) fNil))))) (ρ := [.al (eM (tabL n C)), .al (.int far), .ow (.lst ((List.range k).map fun i => eR ((List.range n).map (scT far C i)))), .al (eR ((List.range n).map (C k))), .no]) (m := fun j : Nat => eB (C k j)) (r := fun j => eB (scT far C k j)) (List.range n) fun j hj => ⟨[.al (eM (tabL n C)), .al (.int far), .ow (.lst ((List.range k).map fun i => eR ((List.range n).map (scT far C i)))), .al (eR ((List.range n).map (C k))), .al (eB (C k j))], rfl, rfl, by
      have hjn := List.mem_range.mp hj
      have hb := hC k j hk hjn
      have im := eB_imm (scT far C k j)
      show ((fIf _ _ _ _).bind _) = _
      cases h : C k j with
      | none =>
        have e : scT far C k j = none := by show scB far (C k j) = none; rw [h]; rfl
        rw [e]
        rfl
      | some x =>
        obtain ⟨bn, bs⟩ := x
        rw [h] at hb
        have hb : Bt 2000 bn := hb
        have e : scT far C k j = some (bn * far, bs) := by show scB far (C k j) = _; rw [h]; rfl
        rw [e] at im ⊢
        have mu := dMul_ok hb bf
        have i0 : dIx (eB (some (bn, bs))) (.int 0) = some (.int bn) := rfl
        have i1 : dIx (eB (some (bn, bs))) (.int 1) = some (.bl bs) := rfl
        have ni : dIsN (eB (some (bn, bs))) = some false := rfl
        have et : D.tup [.int (bn * far), .bl bs] = eB (some (bn * far, bs)) := rfl
        simp only [v_fIf, v_c1, v_fTup, v_fCons, v_f2, v_fAl, v_fC, v_fNil, List.getElem?_cons_zero, List.getElem?_cons_succ, Option.bind_some, ni, i0, i1, mu, et, im, if_true]
        rfl⟩
    have it : iSeq (fAl 3) [.al (eM (tabL n C)), .al (.int far), .ow (.lst ((List.range k).map fun i => eR ((List.range n).map (scT far C i)))), .al (eR ((List.range n).map (C k))), .no] = some ((List.range n).map fun j => eB (C k j)) := by
      show Option.bind (some (eR ((List.range n).map (C k)))) _ = _
      rw [eR_rg]
      rfl
    have fc := fComp_ok (vs := [4]) it cm (size2 _ (by simp; omega))
    unfold L1_spread
    rw [app_nil (y := eR ((List.range n).map (scT far C k))) rfl (by
      rw [v_fCons, fc, v_fNil, eR_rg]
      rfl) (Nat.lt_of_le_of_lt (show _ ≤ 100 by simp; omega) (by decide))]
    rw [List.range_succ, List.map_append]
    rfl)
  subst e1
  rw [List.length_range] at h1
  have it : iSeq (fAl 0) [.al (eM (tabL n C)), .al (.int far), .ow (.lst []), .no, .no] = some ((List.range n).map fun i => eR ((List.range n).map (C i))) := by
    show Option.bind (some (eM (tabL n C))) _ = _
    rw [eM_tab]
    rfl
  rw [seq_nx _ (by rw [v_sFor, it]; exact h1), ← eM_tab]
  rfl
theorem narT_ok {n i j : Nat} {C : Tf} {b : Bd} (hn : n ≤ 100) (hi : i < n) (hj : j < n) : f_narrowed [eM (tabL n C), .int i, .int j, eB b] = some (eM (tabL n (edge C i j b))) := by
  rw [narrow_ok (row := (List.range n).map (C i)) (c := C i j) (by rw [tab_len]; omega) (tab_row hi) (rg_get hj)]
  unfold narrowB
  rw [tab_row hi]
  simp only [rg_get hj]
  unfold edge minB
  cases h : tightB b (C i j) with
  | true => rw [if_pos rfl, if_pos rfl, tab_set]
  | false =>
    rw [if_neg (by simp), if_neg (by simp)]
    congr 2
    refine tab_congr fun x y hx hy => ?_
    by_cases z : x = i ∧ y = j
    · obtain ⟨rfl, rfl⟩ := z
      rw [up2_same]
    · rw [up2_ne z]
theorem floor_int (E : Int) : ((E : Int) : Rat).floor = E := by
  rw [Rat.floor_def, Rat.num_intCast, Rat.den_intCast]
  simp
def FarOk (b : Bd) (E : Int) (q : Rat) : Prop := match b with
  | none => (E : Rat) < q
  | some (m, false) => q = (m : Rat)
  | some (m, true) => (m : Rat) - 1 / (E : Rat) < q
def FarQ (b : Bd) (a E : Int) (q : Rat) : Prop := match b with
  | none => Rat.divInt E a < q
  | some (m, false) => q = (m : Rat)
  | some (m, true) => (m : Rat) - Rat.divInt a E < q
theorem far_okW {n w : Nat} {T : Tf} {i j : Nat} {a E : Int} (ha : 0 < a) (ba : Bt 870 a) (hi : i < n) (hj : j < n) (hn : n ≤ 60) (hT : NoNeg n T) (hw : w + n ≤ 859) (hb : ∀ i j, i < n → j < n → BtB w (T i j)) (hE : 0 < E) (bE : Bt 870 E) :
    ∃ qs : List Rat, f_far_point [eM (tabL n T), .int i, .int j, .tup [.int a, .int E]] = some (.lst (qs.map eQ)) ∧ qs.length + 1 = n ∧ Keep n (fun i => (0 :: qs).getD i 0) T ∧ (∀ q ∈ qs, BtQ 3900 q) ∧ FarQ (fw n T n i j) a E ((0 :: qs).getD i 0 - (0 :: qs).getD j 0) := by
  have hn0 : 0 < n := by omega
  have cn := closed_or_none_ok hn0 (by omega) hT
  have hC := (fw_least hT).closd hT
  have bC : ∀ i j, i < n → j < n → BtB 860 (fw n T n i j) := fun i j hi hj => (fw_bt hT hb i j hi hj).mono (by omega)
  have kT : ∀ v, Keep n v T ↔ Keep n v (fw n T n) := fun v => keep_fw hT
  generalize fw n T n = C at cn hC bC kT
  rw [e_far_point, F_far_point]
  generalize eM (tabL n T) = M at cn
  have xi := ixT (n := n) (C := C) hi
  rw [seq_nx [.al M, .al (.int i), .al (.int j), .al (.tup [.int a, .int E]), .al (eM (tabL n C)), .no, .no, .no, .no] (by
    simp only [v_sAl, v_fCall, v_fCons, v_fAl, v_fNil, List.getElem?_cons_zero, Option.bind_some, List.append_nil, cn]
    rfl)]
  rw [seq_nx [.al M, .al (.int i), .al (.int j), .al (.tup [.int a, .int E]), .al (eM (tabL n C)), .al (eB (C i j)), .no, .no, .no] (by
    simp only [v_sAl, v_f2, v_fAl, List.getElem?_cons_zero, List.getElem?_cons_succ, Option.bind_some, xi, ixR hj, List.set_cons_zero, List.set_cons_succ])]
  have pt : ∀ (b : Bd) (h : leB zB (addB (C i j) b)), BtB 880 b → ∃ qs : List Rat, f_point_of [eM (tabL n (edge C j i b))] = some (.lst (qs.map eQ)) ∧ qs.length + 1 = n ∧ Keep n (fun i => (0 :: qs).getD i 0) T ∧ (∀ q ∈ qs, BtQ 3900 q) ∧ keepsB ((0 :: qs).getD j 0 - (0 :: qs).getD i 0) b = true := fun b h bb => by
    obtain ⟨qs, q1, q2, q3, q4⟩ := point_okW (w := 880) hn0 hn (edge_noneg hC hi hj h) (by omega) (fun x y hx hy => by
      by_cases z : x = j ∧ y = i
      · obtain ⟨rfl, rfl⟩ := z
        have ee : edge C x y b x y = minB (C x y) b := up2_same
        rw [ee]
        rcases minB_or (C x y) b with e | e
        · rw [e]; exact (bC x y hx hy).mono (by decide)
        · rw [e]; exact bb
      · have ee : edge C j i b x y = C x y := up2_ne z
        rw [ee]
        exact (bC x y hx hy).mono (by decide))
    obtain ⟨k1, k2⟩ := edge_keep hi hj q3
    exact ⟨qs, q1, q2, (kT _).mpr k1, fun q hq => (q4 q hq).mono (by omega), k2⟩
  have e1 : dIx (.tup [.int a, .int E]) (.int 1) = some (.int E) := rfl
  have e0 : dIx (.tup [.int a, .int E]) (.int 0) = some (.int a) := rfl
  cases h : C i j with
  | none =>
    have bqE : BtQ 870 (Rat.divInt E a) := divInt_btQ (by omega) bE ba
    have fl := floor_ok (bqE.mono (show 870 ≤ 4000 by decide))
    have ltf : Rat.divInt E a < (((Rat.divInt E a).floor + 1 : Int) : Rat) := by
      rw [rat_lt_int, Rat.floor_def]
      exact Int.lt_ediv_add_one_mul_self _ (by have := (Rat.divInt E a).den_nz; omega)
    have bfl : Bt 870 (Rat.divInt E a).floor := by
      rw [Rat.floor_def]
      exact bqE.1.le (Int.natAbs_ediv_le_natAbs _ _)
    generalize (Rat.divInt E a).floor = fE at fl ltf bfl
    obtain ⟨qs, q1, q2, q3, q4, q5⟩ := pt (some (-1 - fE, false)) (by rw [h]; exact leB_none _) (by
      show Bt 880 (-1 - fE)
      have : Bt 871 (-1 - fE) := (Bt.mono (n := 1) (m := 870) (i := -1) (by decide) (by decide)).sub bfl
      exact this.mono (by decide))
    have fr := fraction_ok (a := E) (b := a) (by omega) (ba.mono (by decide))
    have na := narT_ok (n := n) (C := C) (b := some (-1 - fE, false)) (show n ≤ 100 by omega) hj hi
    have na : f_narrowed [eM (tabL n C), .int j, .int i, .tup [.int (-1 - fE), .bl false]] = _ := na
    refine ⟨qs, ?_, q2, q3, q4, ?_⟩
    · rw [seq_rt (d := .lst (qs.map eQ)) (by
        rw [v_sIf]
        show (sRet _ [.al M, .al (.int i), .al (.int j), .al (.tup [.int a, .int E]), .al (eM (tabL n C)), .al (eB none), .no, .no, .no]) = _
        simp only [v_sRet, v_fCall, v_fCons, v_fTup, v_f1, v_f2, v_fAl, v_fC, v_fNil, List.getElem?_cons_zero, List.getElem?_cons_succ, Option.bind_some, List.append_nil, e0, e1, fr, fl, dNeg_int, dSub_int, na, q1])]
      rfl
    · show Rat.divInt E a < _
      simp only [keepsB, decide_eq_true_iff] at q5
      have e : ((-1 - fE : Int) : Rat) = -1 - (fE : Rat) := by rw [Rat.intCast_sub]; rfl
      have e2 : ((fE + 1 : Int) : Rat) = (fE : Rat) + 1 := by rw [Rat.intCast_add]; rfl
      rw [e] at q5
      rw [e2] at ltf
      grind
  | some x =>
    obtain ⟨m, s⟩ := x
    have hm : Bt 860 m := by have := bC i j hi hj; rw [h] at this; exact this
    have i0 : dIx (eB (some (m, s))) (.int 0) = some (.int m) := rfl
    have i1 : dIx (eB (some (m, s))) (.int 1) = some (.bl s) := rfl
    have ni : dIsN (eB (some (m, s))) = some false := rfl
    rw [seq_nx [.al M, .al (.int i), .al (.int j), .al (.tup [.int a, .int E]), .al (eM (tabL n C)), .al (eB (some (m, s))), .no, .no, .no] (by
      rw [v_sIf]
      show Option.bind ((fAl 5 [.al M, .al (.int i), .al (.int j), .al (.tup [.int a, .int E]), .al (eM (tabL n C)), .al (eB (some (m, s))), .no, .no, .no]).bind dIsN) _ = _
      rfl)]
    have cd : cNot (c1 dTru (f2 dIx (fAl 5) (fC (.int 1)))) [.al M, .al (.int i), .al (.int j), .al (.tup [.int a, .int E]), .al (eM (tabL n C)), .al (eB (some (m, s))), .no, .no, .no] = some (!s) := by
      simp only [v_cNot, v_c1, v_f2, v_fAl, v_fC, List.getElem?_cons_zero, List.getElem?_cons_succ, Option.bind_some, i1, dTru_bl]
    cases s with
    | false =>
      obtain ⟨qs, q1, q2, q3, q4, q5⟩ := pt (some (-m, false)) (by
        rw [h]
        show leB (some (0, false)) (some (m + -m, false))
        rw [leB_some]
        exact .inr ⟨by omega, id⟩) (show Bt 880 (-m) from hm.neg.mono (by decide))
      have na := narT_ok (n := n) (C := C) (b := some (-m, false)) (show n ≤ 100 by omega) hj hi
      have na : f_narrowed [eM (tabL n C), .int j, .int i, .tup [.int (-m), .bl false]] = _ := na
      refine ⟨qs, ?_, q2, q3, q4, ?_⟩
      · rw [seq_rt (d := .lst (qs.map eQ)) (by
          rw [v_sIf, cd]
          simp only [Bool.not_false, if_true, v_sRet, v_fCall, v_fCons, v_fTup, v_f1, v_f2, v_fAl, v_fC, v_fNil, List.getElem?_cons_zero, List.getElem?_cons_succ, Option.bind_some, List.append_nil, i0, dNeg_int, na, q1])]
        rfl
      · show _ = (m : Rat)
        have k := ((kT _).mp q3) i hi j hj
        rw [h] at k
        simp only [keepsB, decide_eq_true_iff] at q5 k
        have e : ((-m : Int) : Rat) = -(m : Rat) := Rat.intCast_neg m
        rw [e] at q5
        grind
    | true =>
      have hf : (0 : Int) < 2 * E := by omega
      have bf : Bt 872 (2 * E) := (Bt.mul (n := 2) (i := 2) (by decide) bE).mono (by decide)
      have mE := dMul_ok (n := 2) (i := 2) (by decide) bE
      have mm := dMul_ok hm bf
      have bmf : Bt 1732 (m * (2 * E)) := hm.mul bf
      have sp := spread_ok (n := n) (C := C) (far := 2 * E) (by omega) (bf.mono (by decide)) (fun i j hi hj => (bC i j hi hj).mono (by decide))
      have na := narT_ok (n := n) (C := scT (2 * E) C) (b := some (1 - m * (2 * E), false)) (show n ≤ 100 by omega) hj hi
      have na : f_narrowed [eM (tabL n (scT (2 * E) C)), .int j, .int i, .tup [.int (1 - m * (2 * E)), .bl false]] = _ := na
      have bnew : Bt 1733 (1 - m * (2 * E)) := (Bt.mono (n := 1) (m := 1732) (i := 1) (by decide) (by decide)).sub bmf
      have hij : scT (2 * E) C i j = some (m * (2 * E), true) := by
        show scB _ (C i j) = _
        rw [h]
        rfl
      have bS : ∀ x y, x < n → y < n → BtB 1740 (scT (2 * E) C x y) := fun x y hx hy => by
        have := bC x y hx hy
        show BtB 1740 (scB (2 * E) (C x y))
        cases hxy : C x y with
        | none => exact trivial
        | some z =>
          obtain ⟨a, t⟩ := z
          rw [hxy] at this
          have this : Bt 860 a := this
          exact (show Bt 1732 (a * (2 * E)) from this.mul bf).mono (by decide)
      obtain ⟨rs, r1, r2, r3, r4⟩ := point_okW (w := 1740) hn0 hn (edge_noneg (b := some (1 - m * (2 * E), false)) (scT_closd hf hC) hi hj (by
        rw [hij]
        show leB (some (0, false)) (some (m * (2 * E) + (1 - m * (2 * E)), true || false))
        rw [leB_some]
        left
        omega)) (by omega) (fun x y hx hy => by
        by_cases z : x = j ∧ y = i
        · obtain ⟨rfl, rfl⟩ := z
          have ee : edge (scT (2 * E) C) x y (some (1 - m * (2 * E), false)) x y = minB (scT (2 * E) C x y) (some (1 - m * (2 * E), false)) := up2_same
          rw [ee]
          rcases minB_or (scT (2 * E) C x y) (some (1 - m * (2 * E), false)) with e | e
          · rw [e]; exact bS x y hx hy
          · rw [e]; exact bnew.mono (by decide)
        · have ee : edge (scT (2 * E) C) j i (some (1 - m * (2 * E), false)) x y = scT (2 * E) C x y := up2_ne z
          rw [ee]
          exact bS x y hx hy)
      obtain ⟨k1, k2⟩ := edge_keep hi hj r3
      have bq1 : BtQ 880 (Rat.divInt 1 (2 * E)) := divInt_btQ (by omega) (Bt.mono (n := 1) (by decide) (by decide)) (bf.mono (by decide))
      have gd : ∀ x, (0 :: rs.map fun q => q * Rat.divInt 1 (2 * E)).getD x 0 = (0 :: rs).getD x 0 * Rat.divInt 1 (2 * E) := fun x => by
        cases x with
        | zero => show (0 : Rat) = 0 * _; rw [Rat.zero_mul]
        | succ x =>
          show (rs.map fun q => q * Rat.divInt 1 (2 * E)).getD x 0 = rs.getD x 0 * _
          rw [List.getD_eq_getElem?_getD, List.getD_eq_getElem?_getD, List.getElem?_map]
          cases rs[x]? with
          | none => show (0 : Rat) = 0 * _; rw [Rat.zero_mul]
          | some q => rfl
      refine ⟨rs.map fun q => q * Rat.divInt 1 (2 * E), ?_, by rw [List.length_map]; exact r2, ?_, fun q hq => ?_, ?_⟩
      · rw [seq_nx [.al M, .al (.int i), .al (.int j), .al (.tup [.int a, .int E]), .al (eM (tabL n C)), .al (eB (some (m, true))), .no, .no, .no] (by
          rw [v_sIf, cd]
          rfl)]
        rw [seq_nx [.al M, .al (.int i), .al (.int j), .al (.tup [.int a, .int E]), .al (eM (tabL n C)), .al (eB (some (m, true))), .al (.int (2 * E)), .no, .no] (by
          simp only [v_sAl, v_f2, v_fC, v_fAl, List.getElem?_cons_zero, List.getElem?_cons_succ, Option.bind_some, e1, mE, List.set_cons_zero, List.set_cons_succ])]
        rw [seq_nx [.al M, .al (.int i), .al (.int j), .al (.tup [.int a, .int E]), .al (eM (tabL n C)), .al (eB (some (m, true))), .al (.int (2 * E)), .al (eM (tabL n (edge (scT (2 * E) C) j i (some (1 - m * (2 * E), false))))), .no] (by
          simp only [v_sAl, v_fCall, v_fCons, v_fTup, v_f2, v_fC, v_fAl, v_fNil, List.getElem?_cons_zero, List.getElem?_cons_succ, Option.bind_some, List.append_nil, sp, i0, mm, dSub_int, na, List.set_cons_zero, List.set_cons_succ])]
        have fr := fraction_ok (a := 1) (b := 2 * E) (by omega) (bf.mono (by decide))
        generalize eM (tabL n (edge (scT (2 * E) C) j i (some (1 - m * (2 * E), false)))) = W at r1
        have cm := compL_map (G := gN 8) (c := cYes) (e := fCall f_times [] (fCons (fAl 8) (fCons (fCall f_fraction [] (fCons (fC (.int 1)) (fCons (fAl 6) fNil))) fNil))) (ρ := [.al M, .al (.int i), .al (.int j), .al (.tup [.int a, .int E]), .al (eM (tabL n C)), .al (eB (some (m, true))), .al (.int (2 * E)), .al W, .no]) (m := eQ) (r := fun q => eQ (q * Rat.divInt 1 (2 * E))) rs fun q hq => ⟨[.al M, .al (.int i), .al (.int j), .al (.tup [.int a, .int E]), .al (eM (tabL n C)), .al (eB (some (m, true))), .al (.int (2 * E)), .al W, .al (eQ q)], rfl, rfl, by
          have t := times_ok ((r4 q hq).mono (show 1740 + 2 * n + 8 ≤ 4000 by omega)) (bq1.mono (show 880 ≤ 4000 by decide))
          simp only [v_fCall, v_fCons, v_fC, v_fAl, v_fNil, List.getElem?_cons_zero, List.getElem?_cons_succ, Option.bind_some, List.append_nil, fr, t]⟩
        have it : iSeq (fCall f_point_of [] (fCons (fAl 7) fNil)) [.al M, .al (.int i), .al (.int j), .al (.tup [.int a, .int E]), .al (eM (tabL n C)), .al (eB (some (m, true))), .al (.int (2 * E)), .al W, .no] = some (rs.map eQ) := by
          have : fCall f_point_of [] (fCons (fAl 7) fNil) [.al M, .al (.int i), .al (.int j), .al (.tup [.int a, .int E]), .al (eM (tabL n C)), .al (eB (some (m, true))), .al (.int (2 * E)), .al W, .no] = some (.lst (rs.map eQ)) := by
            simp only [v_fCall, v_fCons, v_fAl, v_fNil, List.getElem?_cons_zero, List.getElem?_cons_succ, Option.bind_some, List.append_nil, r1]
          show Option.bind _ _ = _
          rw [this]
          rfl
        have fc := fComp_ok (vs := [8]) it cm (size2 _ (by rw [List.length_map]; omega))
        rw [v_sRet, fc, List.map_map]
        rfl
      · rw [kT]
        intro x hx y hy
        show keepsB ((0 :: rs.map fun q => q * Rat.divInt 1 (2 * E)).getD x 0 - (0 :: rs.map fun q => q * Rat.divInt 1 (2 * E)).getD y 0) (C x y) = true
        rw [gd, gd]
        have := scB_keeps hf (k1 x hx y hy)
        have e : ((0 :: rs).getD x 0 - (0 :: rs).getD y 0) * Rat.divInt 1 (2 * E) = (0 :: rs).getD x 0 * Rat.divInt 1 (2 * E) - (0 :: rs).getD y 0 * Rat.divInt 1 (2 * E) := by grind
        rw [← e]
        exact this
      · obtain ⟨z, hz, rfl⟩ := List.mem_map.mp hq
        exact (btQ_mul (r4 z hz) bq1).mono (by omega)
      · show (m : Rat) - Rat.divInt a E < _
        rw [gd, gd]
        generalize (0 :: rs).getD i 0 = u at k2
        generalize (0 :: rs).getD j 0 = v at k2
        simp only [keepsB, decide_eq_true_iff] at k2
        have hE' : (0 : Rat) < (E : Rat) := Rat.intCast_pos.mpr hE
        have ex : ((1 - m * (2 * E) : Int) : Rat) = 1 - (m : Rat) * (2 * (E : Rat)) := by
          rw [Rat.intCast_sub, Rat.intCast_mul, Rat.intCast_mul]
          rfl
        rw [ex] at k2
        have ed : Rat.divInt 1 (2 * E) = 1 / (2 * (E : Rat)) := by
          rw [Rat.divInt_eq_div, Rat.intCast_mul]
          rfl
        rw [ed]
        have hp : (0 : Rat) < 2 * (E : Rat) := by grind
        have one : ((1 : Int) : Rat) = 1 := rfl
        have ha1 : (1 : Rat) ≤ (a : Rat) := by
          rw [← one]
          exact Rat.intCast_le_intCast.mpr (by omega)
        have eE : Rat.divInt a E = (a : Rat) * (1 / (E : Rat)) := by
          rw [Rat.divInt_eq_div]
          grind
        have hr : (0 : Rat) < 1 / (E : Rat) := by
          rw [Rat.lt_div_iff hE']
          grind
        have hle : 1 / (E : Rat) ≤ Rat.divInt a E := by
          rw [eE]
          have := Rat.mul_le_mul_of_nonneg_right ha1 (Rat.le_of_lt hr)
          grind
        have e2 : u * (1 / (2 * (E : Rat))) - v * (1 / (2 * (E : Rat))) = (u - v) / (2 * (E : Rat)) := by grind
        have key : (m : Rat) - 1 / (E : Rat) < (u - v) / (2 * (E : Rat)) := by
          rw [Rat.lt_div_iff hp]
          have e3 : ((m : Rat) - 1 / (E : Rat)) * (2 * (E : Rat)) = (m : Rat) * (2 * (E : Rat)) - 2 := by grind
          rw [e3]
          grind
        rw [e2]
        grind
theorem far_okE {n w : Nat} {T : Tf} {i j : Nat} {a E : Int} (ha : 0 < a) (ba : Bt 870 a) (hi : i < n) (hj : j < n) (hn : n ≤ 16) (hT : NoNeg n T) (hw : w ≤ 840) (hb : ∀ i j, i < n → j < n → BtB w (T i j)) (hE : 0 < E) (bE : Bt 870 E) :
    ∃ qs : List Rat, f_far_point [eM (tabL n T), .int i, .int j, .tup [.int a, .int E]] = some (.lst (qs.map eQ)) ∧ qs.length + 1 = n ∧ Keep n (fun i => (0 :: qs).getD i 0) T ∧ (∀ q ∈ qs, BtQ 3900 q) ∧ FarQ (fw n T n i j) a E ((0 :: qs).getD i 0 - (0 :: qs).getD j 0) := far_okW ha ba hi hj (by omega) hT (by omega) hb hE bE
theorem far_ok {n w : Nat} {T : Tf} {i j : Nat} {E : Int} (hi : i < n) (hj : j < n) (hn : n ≤ 16) (hT : NoNeg n T) (hw : w ≤ 840) (hb : ∀ i j, i < n → j < n → BtB w (T i j)) (hE : 0 < E) (bE : Bt 870 E) :
    ∃ qs : List Rat, f_far_point [eM (tabL n T), .int i, .int j, .tup [.int 1, .int E]] = some (.lst (qs.map eQ)) ∧ qs.length + 1 = n ∧ Keep n (fun i => (0 :: qs).getD i 0) T ∧ (∀ q ∈ qs, BtQ 3900 q) ∧ FarOk (fw n T n i j) E ((0 :: qs).getD i 0 - (0 :: qs).getD j 0) := by
  obtain ⟨qs, q1, q2, q3, q4, q5⟩ := far_okE (a := 1) (by decide) (Bt.mono (n := 1) (by decide) (by decide)) hi hj hn hT hw hb hE bE
  refine ⟨qs, q1, q2, q3, q4, ?_⟩
  generalize ((0 :: qs).getD i 0 - (0 :: qs).getD j 0) = q at q5
  cases h : fw n T n i j with
  | none =>
    rw [h] at q5
    have q5 : Rat.divInt E 1 < q := q5
    rw [divInt_1] at q5
    exact q5
  | some x =>
    obtain ⟨m, s⟩ := x
    rw [h] at q5
    cases s with
    | false => exact q5
    | true =>
      have q5 : (m : Rat) - Rat.divInt 1 E < q := q5
      have e : Rat.divInt 1 E = 1 / (E : Rat) := by rw [Rat.divInt_eq_div]; rfl
      rw [e] at q5
      exact q5
end Mt
namespace Mt
open PySem PySem.Spec PyProof.Rows L2 Z G
def Ext (F : FS) (R : FR) : Prop := ∀ ρ o, F ρ = some o → R ρ = some (.ok o)
theorem ext_ok {F : FS} : Ext F (rOk F) := fun ρ o h => by
  unfold rOk
  rw [h]
  rfl
theorem ext_never {R : FR} : Ext sNever R := fun ρ o h => by cases h
theorem ext_seq {F J : FS} {R S : FR} (h1 : Ext F R) (h2 : Ext J S) : Ext (sSeq F J) (rSeq R S) := fun ρ o h => by
  obtain ⟨o1, e1, e2⟩ := bind_some h
  unfold rSeq
  rw [h1 ρ o1 e1]
  cases o1 with
  | nx ρ1 => exact h2 ρ1 o e2
  | rt d => cases e2; rfl
  | bk ρ1 => cases e2; rfl
  | ct ρ1 => cases e2; rfl
  | rm d ρ1 => cases e2; rfl
theorem ext_if {c : Ev → Option Bool} {F J : FS} {R S : FR} (h1 : Ext F R) (h2 : Ext J S) : Ext (sIf c F J) (rIf c R S) := fun ρ o h => by
  obtain ⟨b, e1, e2⟩ := bind_some h
  unfold rIf
  rw [e1]
  cases b with
  | true => exact h1 ρ o e2
  | false => exact h2 ρ o e2
abbrev Up (f : List D → Option D) (g : List D → Option Res) : Prop := ∀ ds d, f ds = some d → g ds = some (.inl d)
theorem up_call {f : List D → Option D} {g : List D → Option Res} {fa : Ev → Option (List D)} (h : Up f g) {ρ : Ev} {d : D} (e : fCall f [] fa ρ = some d) : fCallR g fa ρ = some (.inl d) := by
  obtain ⟨ds, e1, e2⟩ := bind_some e
  unfold fCallR
  rw [e1]
  rw [List.append_nil] at e2
  exact h ds d e2
theorem ext_al {i : Nat} {f : List D → Option D} {g : List D → Option Res} {fa : Ev → Option (List D)} (h : Up f g) : Ext (sAl i (fCall f [] fa)) (rAl i (fCallR g fa)) := fun ρ o e => by
  obtain ⟨d, e1, e2⟩ := bind_some e
  unfold rAl
  rw [up_call h e1]
  cases e2
  rfl
theorem ext_ow {i : Nat} {f : List D → Option D} {g : List D → Option Res} {fa : Ev → Option (List D)} (h : Up f g) : Ext (sOw i [] (fCall f [] fa)) (rOw i (fCallR g fa)) := fun ρ o e => by
  obtain ⟨d, e1, e2⟩ := bind_some e
  unfold rOw
  rw [up_call h e1]
  cases e2
  rfl
theorem ext_fn {N : List Str} {n : Nat} {F : FS} {R : FR} (h : Ext F R) : Up (fnD N n F) (fnR N n R) := fun ds d e => by
  unfold fnD at e
  unfold fnR
  split at e
  · next hl =>
    rw [if_pos hl]
    obtain ⟨o, e1, e2⟩ := bind_some e
    rw [h _ o e1]
    show (outD o).map Sum.inl = _
    rw [e2]
    rfl
  · cases e
theorem up_con : Up f_closed_or_none g_closed_or_none := ext_fn (ext_seq ext_ok (ext_seq (ext_if ext_never ext_ok) ext_ok))
theorem up_point : Up f_point_of g_point_of := ext_fn (ext_seq (ext_al up_con) ext_ok)
theorem up_far : Up f_far_point g_far_point := ext_fn (ext_seq (ext_al up_con) ext_ok)
theorem con_ring {n y : Nat} {r : List Nat} {T : Tf} (hn0 : 0 < n) (hn : n ≤ 100) (hR : IsRing n T y r) : g_closed_or_none [eM (tabL n T)] = some (.inr "NoPoint") := by
  rcases closed_ok (T := T) hn0 hn with ⟨hT, _⟩ | ⟨y, r, _, hc⟩
  · exact (noneg_no_ring hT hR).elim
  rw [r_closed_or_none, R_closed_or_none]
  have e1 : sAsg (fCall f_closed [] (fCons (fAl 0) fNil)) (gTp 2 (gCs (gN 1) (gCs (gO 2) gNl))) [.al (eM (tabL n T)), .no, .no] = some (.nx [.al (eM (tabL n T)), .al (.str "ring"), .ow (.lst ((y :: r).map fun k : Nat => D.int k))]) := by
    simp only [v_sAsg, v_fCall, v_fCons, v_fAl, v_fNil, List.getElem?_cons_zero, Option.bind_some, List.append_nil, hc]
    rfl
  unfold rSeq
  have e2 := ext_ok _ _ e1
  rw [e2]
  show (Option.bind (rIf (c2 dEq (fAl 1) (fC (.str "ring"))) (rRaise "NoPoint") (rOk sNext) [.al (eM (tabL n T)), .al (.str "ring"), .ow (.lst ((y :: r).map fun k : Nat => D.int k))]) _).bind _ = _
  unfold rIf
  rw [v_c2]
  show (Option.bind (Option.bind (Option.bind (some (D.str "ring")) fun x => Option.bind (some (D.str "ring")) fun y => dEq x y) _) _).bind _ = _
  simp only [Option.bind_some, eq_ring]
  rfl
theorem ral_xc {i : Nat} {g : List D → Option Res} {fa : Ev → Option (List D)} {ρ : Ev} {ds : List D} {c : Str} {S : FR} (h1 : fa ρ = some ds) (h2 : g ds = some (.inr c)) : (rSeq (rAl i (fCallR g fa)) S ρ).bind outR = some (.inr c) := by
  unfold rSeq rAl fCallR
  rw [h1]
  show (Option.bind (Option.bind (g ds) _) _).bind _ = _
  rw [h2]
  rfl
theorem point_ring {n y : Nat} {r : List Nat} {T : Tf} (hn0 : 0 < n) (hn : n ≤ 100) (hR : IsRing n T y r) : g_point_of [eM (tabL n T)] = some (.inr "NoPoint") := by
  rw [r_point_of, R_point_of]
  exact ral_xc (ds := [eM (tabL n T)]) rfl (con_ring hn0 hn hR)
theorem far_ring {n y : Nat} {r : List Nat} {T : Tf} {a b c : D} (hn0 : 0 < n) (hn : n ≤ 100) (hR : IsRing n T y r) : g_far_point [eM (tabL n T), a, b, c] = some (.inr "NoPoint") := by
  rw [r_far_point, R_far_point]
  exact ral_xc (ds := [eM (tabL n T)]) rfl (con_ring hn0 hn hR)
end Mt
namespace Mt
open PySem PySem.Spec PyProof.Rows L2 Z G
theorem whole_eq : f__law_whole = f_is_whole := rfl
theorem common_eq : f__law_common = f_common := rfl
theorem one_eq : f__law_is_one = f_is_fraction := rfl
theorem isi_of {d : D} {t : String} (h : dTyN d = some t) (b : String) (hb : b = "int" ∨ b = "bool" ∨ b = "str" ∨ b = "tuple" ∨ b = "list") : ∃ r, isT t b = some r ∧ dIsi [d, .ty b] = some (.bl r) := by
  have e : ∃ r, isT t b = some r := by
    unfold isT
    by_cases h1 : b = "int"
    · exact ⟨_, if_pos h1⟩
    · rw [if_neg h1, if_pos (hb.resolve_left h1)]
      exact ⟨_, rfl⟩
  obtain ⟨r, hr⟩ := e
  refine ⟨r, hr, ?_⟩
  show (dTyN d).bind _ = _
  rw [h, Option.bind_some, hr]
  rfl
theorem not_whole {d : D} {t : String} (h : dTyN d = some t) (h1 : t ≠ "int") (h2 : t ≠ "bool") : f_is_whole [d] = some (.bl false) := by
  obtain ⟨r, r1, r2⟩ := isi_of h "int" (by simp)
  have : r = false := by
    unfold isT at r1
    rw [if_pos rfl] at r1
    have := Option.some.inj r1
    rw [← this]
    simp [h1, h2]
  subst this
  rw [e_is_whole, F_is_whole, v_sRet, v_fAnd]
  have e : fA dIsi (fCons (fAl 0) (fCons (fC (.ty "int")) fNil)) [.al d] = some (.bl false) := r2
  rw [e]
  rfl
theorem not_frac_ty {d : D} {t : String} (h : dTyN d = some t) (h1 : t ≠ "tuple") : f_is_fraction [d] = some (.bl false) := by
  obtain ⟨r, r1, r2⟩ := isi_of h "tuple" (by simp)
  have : r = false := by
    unfold isT at r1
    rw [if_neg (by decide), if_pos (by simp)] at r1
    have := Option.some.inj r1
    rw [← this]
    simp [h1]
  subst this
  rw [e_is_fraction, F_is_fraction]
  have e : fA dIsi (fCons (fAl 0) (fCons (fC (.ty "tuple")) fNil)) [.al d] = some (.bl false) := r2
  rw [seq_rt (d := .bl false) (by
    rw [v_sIf, v_cOr, v_cNot, v_c1, e]
    rfl)]
  rfl
theorem tup_isi (xs : List D) : fA dIsi (fCons (fAl 0) (fCons (fC (.ty "tuple")) fNil)) [.al (.tup xs)] = some (.bl true) := rfl
theorem not_frac_len {xs : List D} (h : xs.length ≠ 2) : f_is_fraction [.tup xs] = some (.bl false) := by
  rw [e_is_fraction, F_is_fraction]
  have e : c2 dNe (fA dLen (fCons (fAl 0) fNil)) (fC (.int 2)) [.al (.tup xs)] = some true := by
    show dNe (.int (xs.length : Int)) (.int 2) = _
    rw [dNe_int]
    have : ((xs.length : Int) == 2) = false := by
      have : (xs.length : Int) ≠ 2 := by omega
      simpa using this
    rw [this]
    rfl
  rw [seq_rt (d := .bl false) (by
    rw [v_sIf, v_cOr, v_cNot, v_c1, tup_isi, v_cOr, e]
    rfl)]
  rfl
theorem not_frac_1 {a b : D} (h : f_is_whole [a] = some (.bl false)) : f_is_fraction [.tup [a, b]] = some (.bl false) := by
  rw [e_is_fraction, F_is_fraction]
  have e : c2 dNe (fA dLen (fCons (fAl 0) fNil)) (fC (.int 2)) [.al (.tup [a, b])] = some false := by
    show dNe (.int 2) (.int 2) = _
    rw [dNe_int]
    rfl
  have e2 : fCall f_is_whole [] (fCons (f2 dIx (fAl 0) (fC (.int 0))) fNil) [.al (.tup [a, b])] = some (.bl false) := by
    simp only [v_fCall, v_fCons, v_f2, v_fAl, v_fC, v_fNil, List.getElem?_cons_zero, Option.bind_some, List.append_nil, dIx_tup, atI_0, h]
  rw [seq_rt (d := .bl false) (by
    rw [v_sIf, v_cOr, v_cNot, v_c1, tup_isi, v_cOr, e, v_cOr, v_cNot, v_c1, e2]
    rfl)]
  rfl
theorem not_frac_2 {a b : D} (h1 : f_is_whole [a] = some (.bl true)) (h : f_is_whole [b] = some (.bl false)) : f_is_fraction [.tup [a, b]] = some (.bl false) := by
  rw [e_is_fraction, F_is_fraction]
  have e : c2 dNe (fA dLen (fCons (fAl 0) fNil)) (fC (.int 2)) [.al (.tup [a, b])] = some false := by
    show dNe (.int 2) (.int 2) = _
    rw [dNe_int]
    rfl
  have e2 : fCall f_is_whole [] (fCons (f2 dIx (fAl 0) (fC (.int 0))) fNil) [.al (.tup [a, b])] = some (.bl true) := by
    simp only [v_fCall, v_fCons, v_f2, v_fAl, v_fC, v_fNil, List.getElem?_cons_zero, Option.bind_some, List.append_nil, dIx_tup, atI_0, h1]
  have e3 : fCall f_is_whole [] (fCons (f2 dIx (fAl 0) (fC (.int 1))) fNil) [.al (.tup [a, b])] = some (.bl false) := by
    simp only [v_fCall, v_fCons, v_f2, v_fAl, v_fC, v_fNil, List.getElem?_cons_zero, Option.bind_some, List.append_nil, dIx_tup, atI_1, h]
  rw [seq_rt (d := .bl false) (by
    rw [v_sIf, v_cOr, v_cNot, v_c1, tup_isi, v_cOr, e, v_cOr, v_cNot, v_c1, e2, v_cNot, v_c1, e3]
    rfl)]
  rfl
theorem rfr_of {a b : D} (h : cOr (cNot (c1 dTru (fCall f_is_whole [] (fCons (fAl 0) fNil)))) (cOr (cNot (c1 dTru (fCall f_is_whole [] (fCons (fAl 1) fNil)))) (c2 dEq (fAl 1) (fC (.int 0)))) [.al a, .al b, .no] = some true) : g_fraction [a, b] = some (.inr "NoFraction") := by
  rw [r_fraction, R_fraction]
  unfold rSeq
  have e : rIf (cOr (cNot (c1 dTru (fCall f_is_whole [] (fCons (fAl 0) fNil)))) (cOr (cNot (c1 dTru (fCall f_is_whole [] (fCons (fAl 1) fNil)))) (c2 dEq (fAl 1) (fC (.int 0))))) (rRaise "NoFraction") (rOk sNext) [.al a, .al b, .no] = some (.xc "NoFraction" [.al a, .al b, .no]) := by
    unfold rIf
    rw [h]
    rfl
  rw [e]
  rfl
theorem gf1 {a b : D} (h : f_is_whole [a] = some (.bl false)) : g_fraction [a, b] = some (.inr "NoFraction") := rfr_of (by
  simp only [v_cOr, v_cNot, v_c1, v_fCall, v_fCons, v_fAl, v_fNil, List.getElem?_cons_zero, Option.bind_some, List.append_nil, h]
  rfl)
theorem gf2 {a b : D} (h1 : f_is_whole [a] = some (.bl true)) (h : f_is_whole [b] = some (.bl false)) : g_fraction [a, b] = some (.inr "NoFraction") := rfr_of (by
  simp only [v_cOr, v_cNot, v_c1, v_fCall, v_fCons, v_fAl, v_fNil, List.getElem?_cons_zero, List.getElem?_cons_succ, Option.bind_some, List.append_nil, h1, h]
  rfl)
theorem gf3 (m : Int) : g_fraction [.int m, .int 0] = some (.inr "NoFraction") := rfr_of (by
  simp only [v_cOr, v_cNot, v_c1, v_c2, v_fCall, v_fCons, v_fAl, v_fC, v_fNil, List.getElem?_cons_zero, List.getElem?_cons_succ, Option.bind_some, List.append_nil, whole_int, dTru_bl, dEq_int]
  rfl)
theorem refused_ok {a b : D} (h : g_fraction [a, b] = some (.inr "NoFraction")) : f__law_refused [a, b] = some (.bl true) := by
  rw [e__law_refused, F__law_refused]
  rw [seq_nx [.al a, .al b, .al (.bl false), .no] rfl]
  rw [seq_nx [.al a, .al b, .al (.bl true), .no] (sTry_xc (ρ' := [.al a, .al b, .al (.bl false), .no]) (c := "NoFraction") (by
    unfold rDrop fCallR
    show Option.bind (Option.bind (some [a, b]) _) _ = _
    rw [Option.bind_some, h]
    rfl) List.mem_cons_self fun p => ⟨.nx [.al a, .al b, .al (.bl true), .al (.ptr p)], by
      have f1 : fE 3 p (.bl true) [.al a, .al b, .al (.bl false), .al (.ptr p)] = some (.bl true) := fE_at rfl
      have f2 : fE 3 p (.bl false) [.al a, .al b, .al (.bl true), .al (.ptr p)] = some (.bl false) := fE_at rfl
      show sSeq _ _ [.al a, .al b, .al (.bl false), .al (.ptr p)] = _
      rw [seq_nx [.al a, .al b, .al (.bl true), .al (.ptr p)] (by
        rw [v_sAl, v_fAnd, f1]
        rfl), v_sIf, v_c1, f2]
      rfl, rfl⟩)]
  rfl
@[simp] theorem imm_emp : D.emp.imm = true := by rw [D.imm] <;> simp
def pairs14 (m : Int) : List D := [.tup [.int m, .int 0], .tup [.int 0, .int 0], .tup [.non, .int 1], .tup [.int 1, .non], .tup [.str "1", .int 1], .tup [.int m, .str "1"], .tup [.bl true, .int 1], .tup [.int m, .bl true],
  .tup [.int 1, .bl false], .tup [.tup [.int m], .int 1], .tup [.int 1, .tup [.int 1, .int 1]], .tup [.kls [.int 1], .int 1], .tup [.int m, .emp], .tup [.bl false, .int (m + (if (m == 0) = true then 1 else 0))]]
theorem pair_eq (w m : Int) : f__law_pair [.int w, .int m] = (dIx (.lst (pairs14 m)) (.int w)).bind fun d => if d.imm then some d else none := by
  rw [e__law_pair, F__law_pair]
  rw [seq_nx [.al (.int w), .al (.int m), .al (.lst [.tup [.int m, .int 0], .tup [.int 0, .int 0], .tup [.non, .int 1], .tup [.int 1, .non], .tup [.str "1", .int 1], .tup [.int m, .str "1"], .tup [.bl true, .int 1], .tup [.int m, .bl true]])] rfl]
  have ad := dAdd_lsq (d := .kls [.tup [.int 1, .bl false], .tup [.tup [.int m], .int 1], .tup [.int 1, .tup [.int 1, .int 1]], .tup [.kls [.int 1], .int 1], .tup [.int m, .emp], .tup [.bl false, .int (m + (if (m == 0) = true then 1 else 0))]]) (xs := [.tup [.int m, .int 0], .tup [.int 0, .int 0], .tup [.non, .int 1], .tup [.int 1, .non], .tup [.str "1", .int 1], .tup [.int m, .str "1"], .tup [.bl true, .int 1], .tup [.int m, .bl true]]) rfl (size2 _ (show 14 ≤ 2000 by decide)) (by simp) (by simp)
  rw [seq_nx [.al (.int w), .al (.int m), .al (.lst (pairs14 m))] (by
    rw [v_sAl, v_f2]
    have fz : fFz (fLst (fCons (fTup (fCons (fC (.int 1)) (fCons (fC (.bl false)) fNil))) (fCons (fImm (fTup (fCons (fTup (fCons (fAl 1) fNil)) (fCons (fC (.int 1)) fNil)))) (fCons (fTup (fCons (fC (.int 1)) (fCons (fTup (fCons (fC (.int 1)) (fCons (fC (.int 1)) fNil))) fNil))) (fCons (fTup (fCons (fLst (fCons (fC (.int 1)) fNil)) (fCons (fC (.int 1)) fNil))) (fCons (fImm (fTup (fCons (fAl 1) (fCons (fC .emp) fNil)))) (fCons (fTup (fCons (fC (.bl false)) (fCons (f2 dAdd (fAl 1) (fA dInt1 (fCons (fB (c2 dEq (fAl 1) (fC (.int 0)))) fNil))) fNil))) fNil))))))) [.al (.int w), .al (.int m), .al (.lst [.tup [.int m, .int 0], .tup [.int 0, .int 0], .tup [.non, .int 1], .tup [.int 1, .non], .tup [.str "1", .int 1], .tup [.int m, .str "1"], .tup [.bl true, .int 1], .tup [.int m, .bl true]])] = some (.kls [.tup [.int 1, .bl false], .tup [.tup [.int m], .int 1], .tup [.int 1, .tup [.int 1, .int 1]], .tup [.kls [.int 1], .int 1], .tup [.int m, .emp], .tup [.bl false, .int (m + (if (m == 0) = true then 1 else 0))]]) := by
      show Option.bind (fLst _ _) _ = _
      simp only [v_fLst, v_fCons, v_fTup, v_fImm, v_f2, v_fA, v_fB, v_c2, v_fAl, v_fC, v_fNil, List.getElem?_cons_zero, List.getElem?_cons_succ, Option.bind_some, dEq_int, dInt1_bl, dAdd_int]
      simp [D.fz, D.fzL]
    rw [fz]
    show Option.bind (Option.bind (some _) _) _ = _
    rw [Option.bind_some, Option.bind_some, ad]
    rfl)]
  rw [v_sRet, v_fImm]
  show (Option.bind (Option.bind (dIx (.lst (pairs14 m)) (.int w)) _) _).bind outD = _
  cases dIx (.lst (pairs14 m)) (.int w) with
  | none => rfl
  | some d =>
    rw [Option.bind_some]
    cases d.imm <;> rfl
theorem pair_ok (m : Int) : ∀ w : Nat, w < 14 → ∃ a b : D, f__law_pair [.int w, .int m] = some (.tup [a, b]) ∧ g_fraction [a, b] = some (.inr "NoFraction") := fun w hw => by
  have key : ∀ a b : D, (pairs14 m)[w]? = some (.tup [a, b]) → (D.tup [a, b]).imm = true → f__law_pair [.int w, .int m] = some (.tup [a, b]) := fun a b h1 h2 => by
    rw [pair_eq, dIx_at h1, Option.bind_some, if_pos h2]
  have nw : ∀ {d : D} {t : String}, dTyN d = some t → t ≠ "int" → t ≠ "bool" → f_is_whole [d] = some (.bl false) := fun h h1 h2 => not_whole h h1 h2
  match w, hw with
  | 0, _ => exact ⟨.int m, .int 0, key _ _ rfl (by simp), gf3 m⟩
  | 1, _ => exact ⟨.int 0, .int 0, key _ _ rfl (by simp), gf3 0⟩
  | 2, _ => exact ⟨.non, .int 1, key _ _ rfl (by simp), gf1 (nw (t := "NoneType") rfl (by decide) (by decide))⟩
  | 3, _ => exact ⟨.int 1, .non, key _ _ rfl (by simp), gf2 (whole_int 1) (nw (t := "NoneType") rfl (by decide) (by decide))⟩
  | 4, _ => exact ⟨.str "1", .int 1, key _ _ rfl (by simp), gf1 (nw (t := "str") rfl (by decide) (by decide))⟩
  | 5, _ => exact ⟨.int m, .str "1", key _ _ rfl (by simp), gf2 (whole_int m) (nw (t := "str") rfl (by decide) (by decide))⟩
  | 6, _ => exact ⟨.bl true, .int 1, key _ _ rfl (by simp), gf1 (whole_bl true)⟩
  | 7, _ => exact ⟨.int m, .bl true, key _ _ rfl (by simp), gf2 (whole_int m) (whole_bl true)⟩
  | 8, _ => exact ⟨.int 1, .bl false, key _ _ rfl (by simp), gf2 (whole_int 1) (whole_bl false)⟩
  | 9, _ => exact ⟨.tup [.int m], .int 1, key _ _ rfl (by simp), gf1 (nw (t := "tuple") rfl (by decide) (by decide))⟩
  | 10, _ => exact ⟨.int 1, .tup [.int 1, .int 1], key _ _ rfl (by simp), gf2 (whole_int 1) (nw (t := "tuple") rfl (by decide) (by decide))⟩
  | 11, _ => exact ⟨.kls [.int 1], .int 1, key _ _ rfl (by simp), gf1 (nw (t := "list") rfl (by decide) (by decide))⟩
  | 12, _ => exact ⟨.int m, .emp, key _ _ rfl (by simp), gf2 (whole_int m) (nw (t := "dict") rfl (by decide) (by decide))⟩
  | 13, _ => exact ⟨.bl false, .int (m + (if (m == 0) = true then 1 else 0)), key _ _ rfl (by simp), gf1 (whole_bl false)⟩
  | k + 14, h => omega
def odds16 (m : Int) : List D := [.tup [.int 0, .int 1], .tup [.int m, .int 1], .tup [.int (2 * m), .int 2], .tup [.int 1, .int (-1 - m.natAbs)], .tup [.int 0, .int 2], .tup [.int m, .int 0], .tup [.bl true, .int 1], .tup [.int 1, .bl true],
  .kls [.int 1, .int 2], .tup [.int 1], .tup [.int 1, .int 2, .int 3], .int m, .str "1/2", .non, .tup [.int 1, .int (1 + m.natAbs)], .tup [.int m, .int 7]]
theorem odd_eq {w m : Int} (hm : Bt 4000 m) : f__law_odd [.int w, .int m] = (dIx (.lst (odds16 m)) (.int w)).bind fun d => if d.imm then some d else none := by
  rw [e__law_odd, F__law_odd]
  have d2 : dMul (.int 2) (.int m) = some (.int (2 * m)) := dMul_ok (n := 2) (by decide) hm (by decide)
  have ab : dAbs [.int m] = some (.int m.natAbs) := rfl
  rw [seq_nx [.al (.int w), .al (.int m), .al (.lst [.tup [.int 0, .int 1], .tup [.int m, .int 1], .tup [.int (2 * m), .int 2], .tup [.int 1, .int (-1 - m.natAbs)], .tup [.int 0, .int 2], .tup [.int m, .int 0], .tup [.bl true, .int 1], .tup [.int 1, .bl true]])] (by
    simp only [v_sAl, v_fLst, v_fCons, v_fTup, v_f1, v_f2, v_fA, v_fAl, v_fC, v_fNil, List.getElem?_cons_zero, List.getElem?_cons_succ, Option.bind_some, d2, ab, dNeg_int, dSub_int]
    rfl)]
  have ad := dAdd_lsq (d := .kls [.kls [.int 1, .int 2], .tup [.int 1], .tup [.int 1, .int 2, .int 3], .int m, .str "1/2", .non, .tup [.int 1, .int (1 + m.natAbs)], .tup [.int m, .int 7]]) (xs := [.tup [.int 0, .int 1], .tup [.int m, .int 1], .tup [.int (2 * m), .int 2], .tup [.int 1, .int (-1 - m.natAbs)], .tup [.int 0, .int 2], .tup [.int m, .int 0], .tup [.bl true, .int 1], .tup [.int 1, .bl true]]) rfl (size2 _ (show 16 ≤ 2000 by decide)) (by simp) (by simp)
  rw [seq_nx [.al (.int w), .al (.int m), .al (.lst (odds16 m))] (by
    rw [v_sAl, v_f2]
    have fz : fFz (fLst (fCons (fLst (fCons (fC (.int 1)) (fCons (fC (.int 2)) fNil))) (fCons (fTup (fCons (fC (.int 1)) fNil)) (fCons (fTup (fCons (fC (.int 1)) (fCons (fC (.int 2)) (fCons (fC (.int 3)) fNil)))) (fCons (fImm (fAl 1)) (fCons (fC (.str "1/2")) (fCons (fC .non) (fCons (fTup (fCons (fC (.int 1)) (fCons (f2 dAdd (fC (.int 1)) (fA dAbs (fCons (fAl 1) fNil))) fNil))) (fCons (fImm (fTup (fCons (fAl 1) (fCons (fC (.int 7)) fNil)))) fNil))))))))) [.al (.int w), .al (.int m), .al (.lst [.tup [.int 0, .int 1], .tup [.int m, .int 1], .tup [.int (2 * m), .int 2], .tup [.int 1, .int (-1 - m.natAbs)], .tup [.int 0, .int 2], .tup [.int m, .int 0], .tup [.bl true, .int 1], .tup [.int 1, .bl true]])] = some (.kls [.kls [.int 1, .int 2], .tup [.int 1], .tup [.int 1, .int 2, .int 3], .int m, .str "1/2", .non, .tup [.int 1, .int (1 + m.natAbs)], .tup [.int m, .int 7]]) := by
      show Option.bind (fLst _ _) _ = _
      simp only [v_fLst, v_fCons, v_fTup, v_fImm, v_f2, v_fA, v_fAl, v_fC, v_fNil, List.getElem?_cons_zero, List.getElem?_cons_succ, Option.bind_some, ab, dAdd_int]
      simp [D.fz, D.fzL]
    rw [fz]
    show Option.bind (Option.bind (some _) _) _ = _
    rw [Option.bind_some, Option.bind_some, ad]
    rfl)]
  rw [v_sRet, v_fImm]
  show (Option.bind (Option.bind (dIx (.lst (odds16 m)) (.int w)) _) _).bind outD = _
  cases dIx (.lst (odds16 m)) (.int w) with
  | none => rfl
  | some d =>
    rw [Option.bind_some]
    cases d.imm <;> rfl
theorem says11 (b : Bool) : f__law_says [.bl b, .bl b] = some (.bl true) := by
  rw [e__law_says]
  simp [F__law_says]
theorem odd_right {d : D} {b c : Bool} (h1 : f_is_fraction [d] = some (.bl b)) (h2 : f_is_whole [d] = some (.bl c)) : f__law_odd_right [d] = some (.bl true) := by
  rw [e__law_odd_right, F__law_odd_right]
  simp only [v_sRet, v_fAnd, v_fCall, v_fCons, v_fAl, v_fNil, List.getElem?_cons_zero, Option.bind_some, List.append_nil, one_eq, whole_eq, h1, h2, says11]
  rfl
theorem odd_ok {m : Int} (hm : Bt 4000 m) : ∀ w : Nat, w < 16 → ∃ d : D, f__law_odd [.int w, .int m] = some d ∧ f__law_odd_right [d] = some (.bl true) := fun w hw => by
  have key : ∀ d : D, (odds16 m)[w]? = some d → d.imm = true → f__law_odd [.int w, .int m] = some d := fun d h1 h2 => by
    rw [odd_eq hm, dIx_at h1, Option.bind_some, if_pos h2]
  have nw : ∀ {d : D} {t : String}, dTyN d = some t → t ≠ "int" → t ≠ "bool" → f_is_whole [d] = some (.bl false) := fun h h1 h2 => not_whole h h1 h2
  have tw : ∀ xs : List D, f_is_whole [.tup xs] = some (.bl false) := fun xs => nw (t := "tuple") rfl (by decide) (by decide)
  match w, hw with
  | 0, _ => exact ⟨_, key _ rfl (by simp), odd_right (isFrac_ok 0 1) (tw _)⟩
  | 1, _ => exact ⟨_, key _ rfl (by simp), odd_right (isFrac_ok m 1) (tw _)⟩
  | 2, _ => exact ⟨_, key _ rfl (by simp), odd_right (isFrac_ok (2 * m) 2) (tw _)⟩
  | 3, _ => exact ⟨_, key _ rfl (by simp), odd_right (isFrac_ok 1 (-1 - m.natAbs)) (tw _)⟩
  | 4, _ => exact ⟨_, key _ rfl (by simp), odd_right (isFrac_ok 0 2) (tw _)⟩
  | 5, _ => exact ⟨_, key _ rfl (by simp), odd_right (isFrac_ok m 0) (tw _)⟩
  | 6, _ => exact ⟨_, key _ rfl (by simp), odd_right (not_frac_1 (whole_bl true)) (tw _)⟩
  | 7, _ => exact ⟨_, key _ rfl (by simp), odd_right (not_frac_2 (whole_int 1) (whole_bl true)) (tw _)⟩
  | 8, _ => exact ⟨_, key _ rfl (by simp), odd_right (not_frac_ty (t := "list") rfl (by decide)) (nw (t := "list") rfl (by decide) (by decide))⟩
  | 9, _ => exact ⟨_, key _ rfl (by simp), odd_right (not_frac_len (by decide)) (tw _)⟩
  | 10, _ => exact ⟨_, key _ rfl (by simp), odd_right (not_frac_len (by decide)) (tw _)⟩
  | 11, _ => exact ⟨_, key _ rfl (by simp), odd_right (not_frac_ty (t := "int") rfl (by decide)) (whole_int m)⟩
  | 12, _ => exact ⟨_, key _ rfl (by simp), odd_right (not_frac_ty (t := "str") rfl (by decide)) (nw (t := "str") rfl (by decide) (by decide))⟩
  | 13, _ => exact ⟨_, key _ rfl (by simp), odd_right (not_frac_ty (t := "NoneType") rfl (by decide)) (nw (t := "NoneType") rfl (by decide) (by decide))⟩
  | 14, _ => exact ⟨_, key _ rfl (by simp), odd_right (isFrac_ok 1 (1 + m.natAbs)) (tw _)⟩
  | 15, _ => exact ⟨_, key _ rfl (by simp), odd_right (isFrac_ok m 7) (tw _)⟩
  | k + 16, h => omega
theorem number11 (c : Int) : ∃ m, f__law_number [.int c] = some (.int m) ∧ Bt 300 m := by
  rw [e__law_number]
  obtain ⟨T, _, hT, hb, p1⟩ := ten_pow 59 (by decide)
  have p1' : dPow (.int 10) (.int 59) = some (.int T) := p1
  have p2 : dMul (.int 2) (.int T) = some (.int (2 * T)) := dMul_ok (n := 2) (by decide) hb
  have m2 : dMod (.int c) (.int 2) = some (.int (c % 2)) := dMod_ok (by decide)
  have d2 : dDiv (.int c) (.int 2) = some (.int (c / 2)) := dDiv_ok (n := 2) (by decide) (by decide)
  by_cases h : c % 2 = 0
  · refine ⟨c / 2 % 25 - 12, ?_, ?_⟩
    · have m3 : dMod (.int (c / 2)) (.int 25) = some (.int (c / 2 % 25)) := dMod_ok (by decide)
      simp [F__law_number, m2, d2, h, m3]
    · have h1 := Int.emod_nonneg (c / 2) (show (25 : Int) ≠ 0 by decide)
      have h2 := Int.emod_lt_of_pos (c / 2) (show (0 : Int) < 25 by decide)
      exact Bt.mono (n := 5) (show (c / 2 % 25 - 12).natAbs < 2 ^ 5 by omega) (by omega)
  · refine ⟨c / 2 % (2 * T - 1) - (T - 1), ?_, ?_⟩
    · have m3 : dMod (.int (c / 2)) (.int (2 * T - 1)) = some (.int (c / 2 % (2 * T - 1))) := dMod_ok (by omega)
      simp [F__law_number, m2, d2, h, m3, p1', p2]
    · have h1 := Int.emod_nonneg (c / 2) (show (2 * T - 1 : Int) ≠ 0 by omega)
      have h2 := Int.emod_lt_of_pos (c / 2) (show (0 : Int) < 2 * T - 1 by omega)
      exact (hb.le (show (c / 2 % (2 * T - 1) - (T - 1)).natAbs ≤ T.natAbs by omega)).mono (by omega)
theorem right11 (q : Rat) : f__law_right [eQ q, eQ q] = some (.bl true) := by
  rw [e__law_right, F__law_right]
  have i1 : fA dIsi (fCons (fAl 0) (fCons (fC (.ty "tuple")) fNil)) [.al (eQ q), .al (eQ q)] = some (.bl true) := rfl
  have w0 : dIx (eQ q) (.int 0) = some (.int q.num) := rfl
  have w1 : dIx (eQ q) (.int 1) = some (.int q.den) := rfl
  have ln : dLen [eQ q] = some (.int 2) := rfl
  rw [seq_nx [.al (eQ q), .al (eQ q)] (by
    rw [v_sIf, v_cOr, v_cNot, v_c1, i1]
    simp only [v_cOr, v_cNot, v_c1, v_c2, v_f2, v_fA, v_fCall, v_fCons, v_fAl, v_fC, v_fNil, List.getElem?_cons_zero, Option.bind_some, List.append_nil, ln, w0, w1, lwhole_int, dTru_bl, dNe_int, Bool.not_true]
    rfl)]
  have isb : dIsB (.bl true) (.bl true) = some true := rfl
  simp only [v_sRet, v_fAnd, v_fB, v_c2, v_fCall, v_fCons, v_fAl, v_fC, v_fNil, List.getElem?_cons_zero, List.getElem?_cons_succ, Option.bind_some, List.append_nil, dEq_Q, isFrac_Q, isb]
  simp
theorem eQ_int (t : Int) : eQ ((t : Int) : Rat) = .tup [.int t, .int 1] := by
  show D.tup [.int ((t : Rat).num), .int ((t : Rat).den : Int)] = _
  rw [Rat.num_intCast, Rat.den_intCast]
  rfl
abbrev e11 (ns : List Int) (t b h : Int) (s4 : Sl) (q : Rat) (s6 s7 s8 : Sl) : Ev := [.al (.kls (ns.map .int)), .al (.int t), .al (.int b), .al (.int h), s4, .al (eQ q), s6, s7, s8]
theorem law_k11_ok (ns : List Int) (hl : ns.length ≤ 63) (hb : ∀ z ∈ ns, Builtin.Int.intBits z ≤ 1048576) : f_law_k11 [.kls (ns.map .int)] = some (.bl true) := by
  rw [e_law_k11, F_law_k11]
  have ce0 : f__law_cell_at [.kls (ns.map .int), .int 0] = some (.int (cell ns 0)) := cell_ok ns 0
  have ce1 : f__law_cell_at [.kls (ns.map .int), .int 1] = some (.int (cell ns 1)) := cell_ok ns 1
  have ce2 : f__law_cell_at [.kls (ns.map .int), .int 2] = some (.int (cell ns 2)) := cell_ok ns 2
  obtain ⟨t0, n1, bt0⟩ := number11 (cell ns 1)
  obtain ⟨b0, n2, bb0⟩ := number11 (cell ns 2)
  generalize cell ns 0 = h at ce0
  obtain ⟨b1, hb1, hb1n, bb1⟩ : ∃ b1 : Int, b0 + (if (b0 == 0) = true then 1 else 0) = b1 ∧ b1 ≠ 0 ∧ Bt 301 b1 := by
    refine ⟨_, rfl, ?_, bb0.add ?_⟩
    · by_cases z : b0 = 0
      · simp [z]
      · simpa [z] using z
    · split <;> exact Bt.mono (n := 1) (by decide) (by decide)
  rw [seq_nx [.al (.kls (ns.map .int)), .al (.int t0), .no, .no, .no, .no, .no, .no, .no] (by
    simp only [v_sAl, v_fCall, v_fCons, v_fAl, v_fC, v_fNil, List.getElem?_cons_zero, Option.bind_some, List.append_nil, ce1, n1]
    rfl)]
  rw [seq_nx [.al (.kls (ns.map .int)), .al (.int t0), .al (.int b0), .no, .no, .no, .no, .no, .no] (by
    simp only [v_sAl, v_fCall, v_fCons, v_fAl, v_fC, v_fNil, List.getElem?_cons_zero, Option.bind_some, List.append_nil, ce2, n2]
    rfl)]
  rw [seq_nx [.al (.kls (ns.map .int)), .al (.int t0), .al (.int b1), .no, .no, .no, .no, .no, .no] (by
    simp only [v_sAl, v_f2, v_fA, v_fB, v_c2, v_fCons, v_fAl, v_fC, v_fNil, List.getElem?_cons_zero, List.getElem?_cons_succ, Option.bind_some, dEq_int, dInt1_bl, dAdd_int, hb1]
    rfl)]
  rw [seq_nx [.al (.kls (ns.map .int)), .al (.int t0), .al (.int b1), .al (.int h), .no, .no, .no, .no, .no] (by
    simp only [v_sAl, v_fCall, v_fCons, v_fAl, v_fC, v_fNil, List.getElem?_cons_zero, Option.bind_some, List.append_nil, ce0]
    rfl)]
  have m4 : dMod (.int h) (.int 4) = some (.int (h % 4)) := mod_ok _ (by decide)
  have d4 : dDiv (.int h) (.int 4) = some (.int (h / 4)) := div_ok _ (by decide) (by decide)
  have d8 : dDiv (.int h) (.int 8) = some (.int (h / 8)) := div_ok _ (by decide) (by decide)
  have m2 : dMod (.int (h / 8)) (.int 2) = some (.int (h / 8 % 2)) := mod_ok _ (by decide)
  obtain ⟨T29, _, h29, b29, p29⟩ := ten_pow 29 (by decide)
  obtain ⟨T30, _, h30, b30, p30⟩ := ten_pow 30 (by decide)
  obtain ⟨T31, _, h31, b31, p31⟩ := ten_pow 31 (by decide)
  have p29' : dPow (.int 10) (.int 29) = some (.int T29) := p29
  have p30' : dPow (.int 10) (.int 30) = some (.int T30) := p30
  have p31' : dPow (.int 10) (.int 31) = some (.int T31) := p31
  have mS : dMod (.int (h / 4)) (.int T29) = some (.int (h / 4 % T29)) := mod_ok _ h29
  have mT : dMod (.int t0) (.int T31) = some (.int (t0 % T31)) := mod_ok _ h31
  have mB : dMod (.int b1) (.int T30) = some (.int (b1 % T30)) := mod_ok _ h30
  obtain ⟨t, b, s4, hb0, bt, bb, est⟩ : ∃ (t b : Int) (s4 : Sl), b ≠ 0 ∧ Bt 1000 t ∧ Bt 1000 b ∧ sIf (c2 dEq (f2 dMod (fAl 3) (fC (.int 4))) (fC (.int 3))) (sSeq (sAl 4 (f2 dAdd (fC (.int 1)) (f2 dMod (f2 dDiv (fAl 3) (fC (.int 4))) (f2 dPow (fC (.int 10)) (fC (.int 29))))))
      (sSeq (sAl 1 (f2 dMul (f2 dMod (fAl 1) (f2 dPow (fC (.int 10)) (fC (.int 31)))) (fAl 4)))
      (sAl 2 (f2 dMul (f2 dMul (f2 dAdd (fC (.int 1)) (f2 dMod (fAl 2) (f2 dPow (fC (.int 10)) (fC (.int 30))))) (fAl 4)) (f2 dSub (fC (.int 1)) (f2 dMul (f2 dMod (f2 dDiv (fAl 3) (fC (.int 8))) (fC (.int 2))) (fC (.int 2)))))))) sNext [.al (.kls (ns.map .int)), .al (.int t0), .al (.int b1), .al (.int h), .no, .no, .no, .no, .no] = some (.nx [.al (.kls (ns.map .int)), .al (.int t), .al (.int b), .al (.int h), s4, .no, .no, .no, .no]) := by
    have tst : c2 dEq (f2 dMod (fAl 3) (fC (.int 4))) (fC (.int 3)) [.al (.kls (ns.map .int)), .al (.int t0), .al (.int b1), .al (.int h), .no, .no, .no, .no, .no] = some (h % 4 == 3) := by
      simp only [v_c2, v_f2, v_fAl, v_fC, List.getElem?_cons_zero, List.getElem?_cons_succ, Option.bind_some, m4, dEq_int]
    by_cases h3 : h % 4 = 3
    · have e3 : (h % 4 == 3) = true := by simp [h3]
      rw [e3] at tst
      have u0 := Int.emod_nonneg (h / 4) (show T29 ≠ 0 by omega)
      have u1 := Int.emod_lt_of_pos (h / 4) h29
      have v0 := Int.emod_nonneg t0 (show T31 ≠ 0 by omega)
      have v1 := Int.emod_lt_of_pos t0 h31
      have w0 := Int.emod_nonneg b1 (show T30 ≠ 0 by omega)
      have w1 := Int.emod_lt_of_pos b1 h30
      have x0 := Int.emod_nonneg (h / 8) (show (2 : Int) ≠ 0 by decide)
      have x1 := Int.emod_lt_of_pos (h / 8) (show (0 : Int) < 2 by decide)
      have bS : Bt 200 (1 + h / 4 % T29) := (b29.le (show (1 + h / 4 % T29).natAbs ≤ T29.natAbs by omega)).mono (by decide)
      have bT : Bt 200 (t0 % T31) := (b31.le (show (t0 % T31).natAbs ≤ T31.natAbs by omega)).mono (by decide)
      have bB : Bt 200 (1 + b1 % T30) := (b30.le (show (1 + b1 % T30).natAbs ≤ T30.natAbs by omega)).mono (by decide)
      have b2 : Bt 2 (h / 8 % 2) := show (h / 8 % 2).natAbs < 2 ^ 2 by omega
      have bs : Bt 3 (1 - h / 8 % 2 * 2) := show (1 - h / 8 % 2 * 2).natAbs < 2 ^ 3 by omega
      have k1 := dMul_ok bT bS
      have k2 := dMul_ok bB bS
      have k3 := dMul_ok (bB.mul bS) bs
      have k4 := dMul_ok b2 (m := 2) (j := 2) (by decide)
      have hSp : 0 < 1 + h / 4 % T29 := by omega
      have hBp : 0 < 1 + b1 % T30 := by omega
      refine ⟨t0 % T31 * (1 + h / 4 % T29), (1 + b1 % T30) * (1 + h / 4 % T29) * (1 - h / 8 % 2 * 2), .al (.int (1 + h / 4 % T29)), ?_, (bT.mul bS).mono (by decide), ((bB.mul bS).mul bs).mono (by decide), ?_⟩
      · have hm := Int.mul_pos hBp hSp
        have hs : (1 - h / 8 % 2 * 2) ≠ 0 := by omega
        exact Int.mul_ne_zero (by omega) hs
      · rw [v_sIf, tst, Option.bind_some, if_pos rfl]
        rw [seq_nx [.al (.kls (ns.map .int)), .al (.int t0), .al (.int b1), .al (.int h), .al (.int (1 + h / 4 % T29)), .no, .no, .no, .no] (by
          simp only [v_sAl, v_f2, v_fAl, v_fC, List.getElem?_cons_zero, List.getElem?_cons_succ, Option.bind_some, d4, p29', mS, dAdd_int]
          rfl)]
        rw [seq_nx [.al (.kls (ns.map .int)), .al (.int (t0 % T31 * (1 + h / 4 % T29))), .al (.int b1), .al (.int h), .al (.int (1 + h / 4 % T29)), .no, .no, .no, .no] (by
          simp only [v_sAl, v_f2, v_fAl, v_fC, List.getElem?_cons_zero, List.getElem?_cons_succ, Option.bind_some, p31', mT, k1]
          rfl)]
        simp only [v_sAl, v_f2, v_fAl, v_fC, List.getElem?_cons_zero, List.getElem?_cons_succ, Option.bind_some, p30', mB, dAdd_int, k2, d8, m2, k4, dSub_int, k3]
        rfl
    · have e3 : (h % 4 == 3) = false := by simpa using h3
      rw [e3] at tst
      exact ⟨t0, b1, .no, hb1n, bt0.mono (by decide), bb1.mono (by decide), by rw [v_sIf, tst]; rfl⟩
  rw [seq_nx _ est]
  clear est
  have lw := lowest_ok (a := t) hb0 (bb.mono (by decide))
  have fr := fraction_ok (a := t) hb0 (bb.mono (by decide))
  have fr1 : f_fraction [.int t, .int 1] = some (.tup [.int t, .int 1]) := by
    rw [fraction_ok (a := t) (b := 1) (by decide) (Bt.mono (n := 1) (by decide) (by decide)), divInt_1, eQ_int]
  have r1 := right11 ((t : Int) : Rat)
  rw [eQ_int] at r1
  rw [seq_nx (e11 ns t b h s4 (Rat.divInt t b) .no .no .no) (by
    simp only [v_sAl, v_fCall, v_fCons, v_fAl, v_fNil, List.getElem?_cons_zero, List.getElem?_cons_succ, Option.bind_some, List.append_nil, lw]
    rfl)]
  have rq := right11 (Rat.divInt t b)
  have wq : f_is_whole [eQ (Rat.divInt t b)] = some (.bl false) := not_whole (t := "tuple") rfl (by decide) (by decide)
  generalize Rat.divInt t b = q at fr rq wq
  rw [seq_nx (e11 ns t b h s4 q .no .no .no) (by
    have e1 : fCall f_fraction [(.int 1)] (fCons (fAl 1) fNil) (e11 ns t b h s4 q .no .no .no) = some (.tup [.int t, .int 1]) := fr1
    have e2 : fCall f__law_right [] (fCons (fCall f_fraction [(.int 1)] (fCons (fAl 1) fNil)) (fCons (fTup (fCons (fAl 1) (fCons (fC (.int 1)) fNil))) fNil)) (e11 ns t b h s4 q .no .no .no) = some (.bl true) := by
      rw [v_fCall, v_fCons, e1]
      exact r1
    rw [v_sIf, v_cOr, v_cNot, v_c1, v_cNot, v_c1, e2]
    simp only [v_fCall, v_fCons, v_fTup, v_fC, v_fAl, v_fNil, List.getElem?_cons_zero, List.getElem?_cons_succ, Option.bind_some, List.append_nil, fr, rq, dTru_bl, Bool.not_true]
    rfl)]
  obtain ⟨ms, c1, c2', c3⟩ := cutI ns (some 3) (some 33)
  have cut : iSeq (fSl (fAl 0) (oSome (fC (.int 3))) (oSome (fC (.int 33)))) (e11 ns t b h s4 q .no .no .no) = some (ms.map D.int) := by
    have : fSl (fAl 0) (oSome (fC (.int 3))) (oSome (fC (.int 33))) (e11 ns t b h s4 q .no .no .no) = some (.lst (ms.map D.int)) := by
      rw [v_fSl]
      show (if D.immL (ns.map D.int) = true then some (D.lst (dCut (ns.map D.int) (some 3) (some 33))) else none) = _
      rw [if_pos (immI ns), c1]
    show (Option.bind _ _) = _
    rw [this]
    rfl
  obtain ⟨ρ', k1, s6, s7, s8, e⟩ := sForL_inv (G := gN 6) (F := L1_law_k11) (fun ρ => ∃ s6 s7 s8 : Sl, ρ = e11 ns t b h s4 q s6 s7 s8) (ms.map D.int) (e11 ns t b h s4 q .no .no .no) ⟨_, _, _, rfl⟩ (fun d hd ρ ⟨s6, s7, s8, e⟩ => by
    subst e
    obtain ⟨c, hc, rfl⟩ := List.mem_map.mp hd
    obtain ⟨m, m1, bm⟩ := number11 (c / 224)
    have d224 : dDiv (.int c) (.int 224) = some (.int (c / 224)) := div_ok _ (by decide) (by decide)
    have d14 : dDiv (.int c) (.int 14) = some (.int (c / 14)) := div_ok _ (by decide) (by decide)
    have m14 : dMod (.int c) (.int 14) = some (.int (c % 14)) := mod_ok _ (by decide)
    have m16 : dMod (.int (c / 14)) (.int 16) = some (.int (c / 14 % 16)) := mod_ok _ (by decide)
    obtain ⟨w, hw⟩ := Int.eq_ofNat_of_zero_le (Int.emod_nonneg c (show (14 : Int) ≠ 0 by decide))
    have hw2 := Int.emod_lt_of_pos c (show (0 : Int) < 14 by decide)
    obtain ⟨v, hv⟩ := Int.eq_ofNat_of_zero_le (Int.emod_nonneg (c / 14) (show (16 : Int) ≠ 0 by decide))
    have hv2 := Int.emod_lt_of_pos (c / 14) (show (0 : Int) < 16 by decide)
    obtain ⟨x, y, p1, p2⟩ := pair_ok m w (by omega)
    obtain ⟨z, o1, o2⟩ := odd_ok (bm.mono (by decide)) v (by omega)
    have rf := refused_ok p2
    refine ⟨e11 ns t b h s4 q (.al (.int c)) s7 s8, e11 ns t b h s4 q (.al (.int c)) (.al (.int m)) (.al (.tup [x, y])), rfl, ?_, _, _, _, rfl⟩
    unfold L1_law_k11
    rw [seq_nx (e11 ns t b h s4 q (.al (.int c)) (.al (.int m)) s8) (by
      simp only [v_sAl, v_f2, v_fCall, v_fCons, v_fAl, v_fC, v_fNil, List.getElem?_cons_zero, List.getElem?_cons_succ, Option.bind_some, List.append_nil, d224, m1]
      rfl)]
    rw [seq_nx (e11 ns t b h s4 q (.al (.int c)) (.al (.int m)) (.al (.tup [x, y]))) (by
      simp only [v_sAl, v_f2, v_fCall, v_fCons, v_fAl, v_fC, v_fNil, List.getElem?_cons_zero, List.getElem?_cons_succ, Option.bind_some, List.append_nil, m14, hw, p1]
      rfl)]
    simp only [v_sIf, v_cOr, v_cNot, v_c1, v_f2, v_fCall, v_fCons, v_fAl, v_fC, v_fNil, List.getElem?_cons_zero, List.getElem?_cons_succ, Option.bind_some, List.append_nil, dIx_tup, atI_0, atI_1, rf, d14, m16, hv, o1, o2, dTru_bl, Bool.not_true]
    rfl)
  subst e
  rw [seq_nx _ (by rw [v_sFor, cut, Option.bind_some]; exact k1)]
  have n1' : dIsNotB (.bl true) (.bl true) = some false := rfl
  have n2' : dIsNotB (.bl false) (.bl false) = some false := rfl
  rw [seq_nx (e11 ns t b h s4 q s6 s7 s8) (by
    simp only [v_sIf, v_cOr, v_c2, v_fCall, v_fCons, v_fAl, v_fC, v_fNil, List.getElem?_cons_zero, List.getElem?_cons_succ, Option.bind_some, List.append_nil, whole_int, whole_bl, wq, n1', n2']
    rfl)]
  have rz := refused_ok (gf3 t)
  simp only [v_sRet, v_fAnd, v_fCall, v_fCons, v_fAl, v_fC, v_fNil, List.getElem?_cons_zero, List.getElem?_cons_succ, Option.bind_some, List.append_nil, rz, fr, rq]
  rfl
end Mt
open PySem PySem.W PySem.Calls PyProof.Rows
set_option maxRecDepth 100000 in
set_option maxHeartbeats 0 in
theorem PySem.Challenge.cw_watchyard_k11_fractions_made_holds : PySem.Challenge.rw_watchyard_k11_fractions_made.Holds := by
  w_on; o_law
  refine HandSHeadRun.head_any (r := OpenLaw.row PySem.Challenge.rw_watchyard_k11_fractions_made) (q := view (OpenLaw.row PySem.Challenge.rw_watchyard_k11_fractions_made).prog [27]) (H := K11.hk) (ob := K11.ob) (M := 4000) (loose := K11.names) (d := HandSHeadRun.topDef (OpenLaw.row PySem.Challenge.rw_watchyard_k11_fractions_made).prog 27) (kwd := []) K11.ob_eq
    (by kernel_rfl) (fun s => by kernel_rfl) K11.run (by kernel_rfl) (by kernel_rfl) (by kernel_rfl) (by rfl) (by first | assumption | decide +kernel) (by decide +kernel) ⟨rfl, rfl, rfl, rfl, rfl, by decide +kernel⟩ ?hw ?hc
  case hw => w_witness2
  case hc =>
    refine Z.walkZ (l := PySem.Challenge.rw_watchyard_k11_fractions_made) (n := 63) (k := 4) (x := "_law_script") rfl (by decide) (by kernel_rfl) ⟨rfl, by decide, by decide⟩ G.f_law_k11 Mt.law_k11_ok ?F
    intro w mg fa h Y G hmg0
    obtain ⟨K, KX, c⟩ := Y
    have hmg : mg ("law" : PySem.Str) = some (.ref fa) := by
      have e : (HandSHeadRun.topDef (OpenLaw.row PySem.Challenge.rw_watchyard_k11_fractions_made).prog 27).name = ("law" : PySem.Str) := by kernel_rfl
      rw [← e]
      exact hmg0
    obtain ⟨fd, hb, hF⟩ := K11.facts (P := (PySem.Challenge.rw_watchyard_k11_fractions_made).prog) (w := w) KX G hmg c
    exact ⟨K, fd, KX, hb, hF⟩
