import PyProof.Rows.All
import Wide.All
import OpenK.AllK
import Wide.FinOn
import HandS.ForMost
import HandS.Exc
import HandS.WordsExc
import HandS.HeadHook1
import HandS.TupAny
import HandS.Wide
import HandS.Conv
import HandS.Zip
import HandS.SetFor
import HandS.IsInst
import HandS.CallSlots
import HandS.Defaults
import KE.GoesMore
import KE.GoesEnum
import HandS.Style
import HandS.Codes
import HandS.EndBits
import HandS.Head0
import HandS.Head1
import HandS.Head2
import HandS.HeadEnd
import HandS.HeadHook2
import PySem.Challenge.RW_arrivesalike_k50_windows_by_own_ends
set_option Elab.async false
set_option linter.all false
set_option maxRecDepth 100000
set_option maxHeartbeats 4000000
/-! DL1: pure data over HandS: values as trees, environments of slots, readings by pure functions. -/
namespace DL
open PySem L2
/-! ### data -/
inductive D where
  | non | bl (b : Bool) | int (i : Int) | str (x : Str)
  | tup (ds : List D) | lst (ds : List D) | dic (es : List D) | set (ds : List D)
  | obj (c : Str) (ds : List D) | fn (k : Nat) (ds : List D)
/-- an exception as data: its class's name, its field -/
structure Exn where
  cls : Str
  arg : Option (Str × D)
/-- a tree of open things: frozen, an open container of frozen things, a list of such trees, an instance -/
inductive NT where
  | fz (d : D) | op (d : D) | lst (ts : List NT) | ins (c : Str) (ns : List Str) (ts : List NT)
inductive Sl where
  | un | fz (d : D) | op (d : D) | on (t : NT)
abbrev Env := List Sl
inductive Res (α : Type) where
  | ok (a : α) (ρ : Env) | err (x : Exn) (ρ : Env) | stuck
abbrev M (α : Type) := Env → Res α
/-! ### frozen values -/
def LeF (F F' : Hp) : Prop := ∀ a o, F a = some o → F' a = some o
theorem LeF.refl (F : Hp) : LeF F F := fun _ _ h => h
theorem LeF.trans {F F1 F2 : Hp} (a : LeF F F1) (b : LeF F1 F2) : LeF F F2 := fun c o h => b c o (a c o h)
def isFrz : HO → Bool
  | .frz _ _ => true
  | _ => false
def Sub (F H : Hp) : Prop := ∀ a o, F a = some o → H a = some o ∨ (isFrz o = false ∧ ∃ ob, H a = some (.frz ob o))
def keyD : Key → D
  | .inl i => .int i
  | .inr x => .str x
section
variable (K : PySem.W.Frag) (F : Hp)
mutual
inductive Rep : V → D → Prop
  | non : Rep .non .non
  | bl {b} : Rep (.bl b) (.bl b)
  | int {i} : Rep (.int i) (.int i)
  | str {x} : Rep (.str x) (.str x)
  | tup {a xs ds} : SqT K F a xs → RepL xs ds → Rep (.ref a) (.tup ds)
  | lst {a xs ds} : SqL K F a xs → RepL xs ds → Rep (.ref a) (.lst ds)
  | dicK {a kvs es} : Rd F a (.dK kvs) → RepE kvs es → Rep (.ref a) (.dic es)
inductive RepL : List V → List D → Prop
  | nil : RepL [] []
  | cons {x d xs ds} : Rep x d → RepL xs ds → RepL (x :: xs) (d :: ds)
inductive RepE : List (Key × V) → List D → Prop
  | nil : RepE [] []
  | cons {k v d kvs es} : Rep v d → RepE kvs es → RepE ((k, v) :: kvs) (.tup [keyD k, d] :: es)
end
end
section
variable {K : PySem.W.Frag} {F F' H H' : Hp}
theorem Rd.le {a : Addr} {u : HO} (l : LeF F F') (r : Rd F a u) : Rd F' a u := by
  rcases r with r | ⟨o, r⟩
  · exact .inl (l _ _ r)
  · exact .inr ⟨o, l _ _ r⟩
theorem SqL_le {a : Addr} {xs : List V} (l : LeF F F') (r : SqL K F a xs) : SqL K F' a xs := by
  rcases r with r | r
  · exact .inl (Rd.le l r)
  · exact .inr r
theorem SqT_le {a : Addr} {xs : List V} (l : LeF F F') (r : SqT K F a xs) : SqT K F' a xs := by
  rcases r with r | r
  · exact .inl (Rd.le l r)
  · exact .inr r
mutual
theorem Rep.le (l : LeF F F') : ∀ {v : V} {d : D}, Rep K F v d → Rep K F' v d
  | _, _, .non => .non
  | _, _, .bl => .bl
  | _, _, .int => .int
  | _, _, .str => .str
  | _, _, .tup h r => .tup (SqT_le l h) (RepL.le l r)
  | _, _, .lst h r => .lst (SqL_le l h) (RepL.le l r)
  | _, _, .dicK h r => .dicK (Rd.le l h) (RepE.le l r)
theorem RepL.le (l : LeF F F') : ∀ {vs : List V} {ds : List D}, RepL K F vs ds → RepL K F' vs ds
  | _, _, .nil => .nil
  | _, _, .cons h r => .cons (Rep.le l h) (RepL.le l r)
theorem RepE.le (l : LeF F F') : ∀ {kvs : List (Key × V)} {es : List D}, RepE K F kvs es → RepE K F' kvs es
  | _, _, .nil => .nil
  | _, _, .cons h r => .cons (Rep.le l h) (RepE.le l r)
end
theorem Sub.rd {a : Addr} {u : HO} (s : Sub F H) (hu : isFrz u = false) (r : Rd F a u) : Rd H a u := by
  rcases r with r | ⟨o, r⟩
  · rcases s a u r with h | ⟨_, ob, h⟩
    · exact .inl h
    · exact .inr ⟨ob, h⟩
  · rcases s a _ r with h | ⟨h0, _⟩
    · exact .inr ⟨o, h⟩
    · exact absurd h0 (by show ¬ (true = false); decide)
theorem Sub.sqL {a : Addr} {xs : List V} (s : Sub F H) (r : SqL K F a xs) : SqL K H a xs := by
  rcases r with r | r
  · exact .inl (s.rd rfl r)
  · exact .inr r
theorem Sub.sqT {a : Addr} {xs : List V} (s : Sub F H) (r : SqT K F a xs) : SqT K H a xs := by
  rcases r with r | r
  · exact .inl (s.rd rfl r)
  · exact .inr r
theorem RepL.length : ∀ {vs : List V} {ds : List D}, RepL K F vs ds → vs.length = ds.length
  | _, _, .nil => rfl
  | _, _, .cons _ r => by simp [RepL.length r]
theorem RepL.get : ∀ {vs : List V} {ds : List D} {i : Nat} {d : D}, RepL K F vs ds → ds[i]? = some d → ∃ v, vs[i]? = some v ∧ Rep K F v d
  | _, _, _, _, .nil, e => by simp at e
  | _, _, 0, _, .cons h _, e => by simp at e; subst e; exact ⟨_, by simp, h⟩
  | _, _, i + 1, _, .cons _ r, e => by
    obtain ⟨v, h1, h2⟩ := RepL.get (i := i) r (by simpa using e)
    exact ⟨v, by simpa using h1, h2⟩
theorem RepL.getV : ∀ {vs : List V} {ds : List D} {i : Nat} {v : V}, RepL K F vs ds → vs[i]? = some v → ∃ d, ds[i]? = some d ∧ Rep K F v d
  | _, _, _, _, .nil, e => by simp at e
  | _, _, 0, _, .cons h _, e => by simp at e; subst e; exact ⟨_, by simp, h⟩
  | _, _, i + 1, _, .cons _ r, e => by
    obtain ⟨v, h1, h2⟩ := RepL.getV (i := i) r (by simpa using e)
    exact ⟨v, by simpa using h1, h2⟩
theorem RepL.append : ∀ {vs us : List V} {ds es : List D}, RepL K F vs ds → RepL K F us es → RepL K F (vs ++ us) (ds ++ es)
  | _, _, _, _, .nil, q => q
  | _, _, _, _, .cons h r, q => .cons h (RepL.append r q)
theorem RepL.take : ∀ {vs : List V} {ds : List D} (n : Nat), RepL K F vs ds → RepL K F (vs.take n) (ds.take n)
  | _, _, 0, _ => by simp; exact .nil
  | _, _, _ + 1, .nil => by simp; exact .nil
  | _, _, n + 1, .cons h r => by simp; exact .cons h (RepL.take n r)
theorem RepL.drop : ∀ {vs : List V} {ds : List D} (n : Nat), RepL K F vs ds → RepL K F (vs.drop n) (ds.drop n)
  | _, _, 0, r => by simpa using r
  | _, _, _ + 1, .nil => by simp; exact .nil
  | _, _, n + 1, .cons _ r => by simp; exact RepL.drop n r
theorem RepL.set : ∀ {vs : List V} {ds : List D} {v : V} {d : D} (n : Nat), RepL K F vs ds → Rep K F v d → RepL K F (vs.set n v) (ds.set n d)
  | _, _, _, _, _, .nil, _ => by simp; exact .nil
  | _, _, _, _, 0, .cons _ r, q => by simp; exact .cons q r
  | _, _, _, _, n + 1, .cons h r, q => by simp; exact .cons h (RepL.set n r q)
theorem RepL.erase : ∀ {vs : List V} {ds : List D} (n : Nat), RepL K F vs ds → RepL K F (vs.eraseIdx n) (ds.eraseIdx n)
  | _, _, _, .nil => by simp; exact .nil
  | _, _, 0, .cons _ r => by simpa using r
  | _, _, n + 1, .cons h r => by simp; exact .cons h (RepL.erase n r)
theorem RepL.rev {vs : List V} {ds : List D} (r : RepL K F vs ds) : RepL K F vs.reverse ds.reverse := by
  induction vs generalizing ds with
  | nil => cases r; simp; exact .nil
  | cons v vs ih =>
    cases r with
    | cons h r => simp; exact RepL.append (ih r) (.cons h .nil)
theorem RepL.ints : ∀ {vs : List V} {ns : List Int}, RepL K F vs (ns.map .int) → vs = ns.map .int
  | _, [], .nil => rfl
  | _, _ :: _, .cons h r => by
    cases h
    rw [RepL.ints r]; rfl
theorem RepL.of_ints : ∀ (ns : List Int), RepL K F (ns.map .int) (ns.map .int)
  | [] => .nil
  | _ :: r => .cons .int (RepL.of_ints r)
end
/-! ### open containers -/
/-- what stands at an open address -/
inductive Cont (K : PySem.W.Frag) (F : Hp) : HO → D → Prop
  | lst {xs ds} : RepL K F xs ds → Cont K F (.lst xs) (.lst ds)
  | dicK {kvs es} : RepE K F kvs es → Cont K F (.dK kvs) (.dic es)
theorem Cont.le {K : PySem.W.Frag} {F F' : Hp} (l : LeF F F') : ∀ {o : HO} {d : D}, Cont K F o d → Cont K F' o d
  | _, _, .lst r => .lst (r.le l)
  | _, _, .dicK r => .dicK (r.le l)
theorem Cont.rep {K : PySem.W.Frag} {F : Hp} {a : Addr} : ∀ {o : HO} {d : D}, Cont K F o d → F a = some o → Rep K F (.ref a) d
  | _, _, .lst r, h => .lst (.inl (.inl h)) r
  | _, _, .dicK r, h => .dicK (.inl h) r
theorem Cont.noFrz {K : PySem.W.Frag} {F : Hp} : ∀ {o : HO} {d : D}, Cont K F o d → isFrz o = false
  | _, _, .lst _ => rfl
  | _, _, .dicK _ => rfl
abbrev AS := Addr → Prop
abbrev Ws := Nat → AS
def Tw (w : Ws) : AS := fun b => ∃ i, w i b
def OpAt (K : PySem.W.Frag) (F H : Hp) (w : AS) (v : V) (d : D) : Prop := ∃ a o, v = .ref a ∧ w a ∧ H a = some o ∧ Cont K F o d
mutual
inductive NtAt (K : PySem.W.Frag) (F H : Hp) : AS → V → NT → Prop
  | fz {w v d} : Rep K F v d → NtAt K F H w v (.fz d)
  | op {w a o d} : w a → H a = some o → Cont K F o d → NtAt K F H w (.ref a) (.op d)
  | lst {w w' a vs ts} : w a → H a = some (.lst vs) → (∀ b, w' b → w b ∧ b ≠ a) → NtL K F H w' vs ts → NtAt K F H w (.ref a) (.lst ts)
  | ins {w w' a dx c C fs ns vs ts} : w a → w dx → a ≠ dx → C = He.ga K c → H a = some (.ins C dx fs) → H dx = some (.own a) → fs = ns.zip vs → ns.length = vs.length → (∀ b, w' b → w b ∧ b ≠ a ∧ b ≠ dx) → NtL K F H w' vs ts → NtAt K F H w (.ref a) (.ins c ns ts)
inductive NtL (K : PySem.W.Frag) (F H : Hp) : AS → List V → List NT → Prop
  | nil {w} : NtL K F H w [] []
  | cons {w w1 w2 v t vs ts} : (∀ b, w1 b → w b) → (∀ b, w2 b → w b) → (∀ b, w1 b → ¬ w2 b) → NtAt K F H w1 v t → NtL K F H w2 vs ts → NtL K F H w (v :: vs) (t :: ts)
end
mutual
/-- the tree elsewhere -/
theorem NtAt.move {K : PySem.W.Frag} {F H F' H' : Hp} (l : LeF F F') : ∀ {w : AS} {v : V} {t : NT}, (∀ b o, w b → H b = some o → H' b = some o) → NtAt K F H w v t → NtAt K F' H' w v t
  | _, _, _, _, .fz r => .fz (r.le l)
  | _, _, _, k, .op h1 h2 h3 => .op h1 (k _ _ h1 h2) (h3.le l)
  | _, _, _, k, .lst h1 h2 h3 h4 => .lst h1 (k _ _ h1 h2) h3 (NtL.move l (fun b o h => k b o (h3 b h).1) h4)
  | _, _, _, k, .ins h1 h2 h3 h4 h5 h6 h7 h8 h9 h10 => .ins h1 h2 h3 h4 (k _ _ h1 h5) (k _ _ h2 h6) h7 h8 h9 (NtL.move l (fun b o h => k b o (h9 b h).1) h10)
theorem NtL.move {K : PySem.W.Frag} {F H F' H' : Hp} (l : LeF F F') : ∀ {w : AS} {vs : List V} {ts : List NT}, (∀ b o, w b → H b = some o → H' b = some o) → NtL K F H w vs ts → NtL K F' H' w vs ts
  | _, _, _, _, .nil => .nil
  | _, _, _, k, .cons h1 h2 h3 h4 h5 => .cons h1 h2 h3 (NtAt.move l (fun b o h => k b o (h1 b h)) h4) (NtL.move l (fun b o h => k b o (h2 b h)) h5)
end
def SlOk (K : PySem.W.Frag) (F H : Hp) (w : AS) : Option V → Sl → Prop
  | _, .un => True
  | some v, .fz d => Rep K F v d
  | some v, .op d => OpAt K F H w v d
  | some v, .on t => NtAt K F H w v t
  | none, _ => False
/-- a slot's thing elsewhere -/
theorem SlOk.move {K : PySem.W.Frag} {F H F' H' : Hp} {w : AS} {v : Option V} {s : Sl} (l : LeF F F') (k : ∀ b o, w b → H b = some o → H' b = some o) (h : SlOk K F H w v s) : SlOk K F' H' w v s := by
  cases s with
  | un => cases v <;> trivial
  | fz d => cases v with
    | none => exact h.elim
    | some v => exact Rep.le l h
  | op d => cases v with
    | none => exact h.elim
    | some v =>
      obtain ⟨a, o, rfl, wa, ha, c⟩ := h
      exact ⟨a, o, rfl, wa, k a o wa ha, c.le l⟩
  | on t => cases v with
    | none => exact h.elim
    | some v => exact NtAt.move l k h
/-- what a caller may lean on -/
structure Ext (F H : Hp) (T : AS) (F' H' : Hp) (T' : AS) : Prop where
  le : LeF F F'
  keep : ∀ b o, H b = some o → ¬ T b → H' b = some o
  new : ∀ b o, F' b = some o → F b = some o ∨ H b = none ∨ T b
  own : ∀ b, T' b → H b = none ∨ T b
theorem Ext.refl (F H : Hp) (T : AS) : Ext F H T F H T := ⟨LeF.refl F, fun _ _ h _ => h, fun _ _ h => .inl h, fun _ h => .inr h⟩
theorem Ext.trans {F H F1 H1 F2 H2 : Hp} {T T1 T2 : AS} (a : Ext F H T F1 H1 T1) (b : Ext F1 H1 T1 F2 H2 T2) : Ext F H T F2 H2 T2 := by
  have nT : ∀ c o, H c = some o → ¬ T c → H1 c = some o ∧ ¬ T1 c := fun c o h n => ⟨a.keep c o h n, fun t => by
    rcases a.own c t with q | q
    · rw [h] at q; cases q
    · exact n q⟩
  have up : ∀ c, H1 c = none ∨ T1 c → H c = none ∨ T c := fun c h => by
    rcases h with h | h
    · cases q : H c with
      | none => exact .inl rfl
      | some o =>
        by_cases n : T c
        · exact .inr n
        · rw [(nT c o q n).1] at h; cases h
    · exact a.own c h
  refine ⟨a.le.trans b.le, fun c o h n => b.keep c o (nT c o h n).1 (nT c o h n).2, fun c o h => ?_, fun c h => up c (b.own c h)⟩
  rcases b.new c o h with q | q | q
  · exact a.new c o q
  · exact .inr (up c (.inl q))
  · exact .inr (up c (.inr q))
/-- what stands beside -/
theorem SlOk.beside {K : PySem.W.Frag} {F H F' H' : Hp} {T T' w : AS} {v : Option V} {s : Sl} (e : Ext F H T F' H' T') (h : SlOk K F H w v s) (n : ∀ b, w b → ¬ T b) : SlOk K F' H' w v s :=
  h.move e.le fun b o hb ho => e.keep b o ho (n b hb)
/-- the written part, and the slots that keep their value through a def (in and out) -/
structure Kx where
  K : PySem.W.Frag
  pn : List (Nat × V)
structure Rs (κ : Kx) (F H : Hp) (w : Ws) (σ : St) (ρ : Env) : Prop where
  sub : Sub F H
  pin : ∀ q ∈ κ.pn, σ[q.1]? = some (some q.2)
  len : σ.length = ρ.length
  slot : ∀ i s, ρ[i]? = some s → SlOk κ.K F H (w i) (σ[i]?.getD none) s
  dis : ∀ i j b, w i b → w j b → i = j
  free : ∀ i b, w i b → F b = none ∧ ∃ o, H b = some o
section
variable {κ : Kx} {F H F' H' : Hp} {w w' : Ws} {σ : St} {ρ ρ' : Env}
theorem Rs.fz (R : Rs κ F H w σ ρ) {i : Nat} {d : D} (h : ρ[i]? = some (.fz d)) : ∃ v, σ[i]? = some (some v) ∧ Rep κ.K F v d := by
  have q := R.slot i _ h
  cases e : σ[i]? with
  | none => rw [e] at q; exact q.elim
  | some o => cases o with
    | none => rw [e] at q; exact q.elim
    | some v => rw [e] at q; exact ⟨v, rfl, q⟩
theorem Rs.op (R : Rs κ F H w σ ρ) {i : Nat} {d : D} (h : ρ[i]? = some (.op d)) : ∃ a o, σ[i]? = some (some (.ref a)) ∧ w i a ∧ H a = some o ∧ Cont κ.K F o d := by
  have q := R.slot i _ h
  cases e : σ[i]? with
  | none => rw [e] at q; exact q.elim
  | some o => cases o with
    | none => rw [e] at q; exact q.elim
    | some v =>
      rw [e] at q
      obtain ⟨a, o, rfl, c1, c2, c3⟩ := q
      exact ⟨a, o, rfl, c1, c2, c3⟩
theorem Rs.setFz (R : Rs κ F H w σ ρ) {i : Nat} {v : V} {d : D} (hp : ∀ q ∈ κ.pn, q.1 ≠ i) (hi : i < ρ.length) (r : Rep κ.K F v d) : Rs κ F H (fun j => if j = i then fun _ => False else w j) (σ.set i (some v)) (ρ.set i (.fz d)) := by
  refine ⟨R.sub, fun q hq => by rw [List.getElem?_set_ne (Ne.symm (hp q hq))]; exact R.pin q hq, by simp [R.len], fun j s hj => ?_, fun j k b h1 h2 => ?_, fun j b h => ?_⟩
  · by_cases e : j = i
    · subst e
      rw [List.getElem?_set_self hi] at hj
      cases hj
      rw [List.getElem?_set_self (by rw [R.len]; exact hi)]
      exact r
    · rw [List.getElem?_set_ne (Ne.symm e)] at hj ⊢
      simp only [if_neg e]
      exact R.slot j s hj
  · by_cases e1 : j = i
    · simp only [if_pos e1] at h1
    · by_cases e2 : k = i
      · simp only [if_pos e2] at h2
      · simp only [if_neg e1] at h1
        simp only [if_neg e2] at h2
        exact R.dis j k b h1 h2
  · by_cases e1 : j = i
    · simp only [if_pos e1] at h
    · simp only [if_neg e1] at h
      exact R.free j b h
theorem Rs.setSl (R : Rs κ F H w σ ρ) {i : Nat} {v : V} {sl : Sl} {wv : AS} (hp : ∀ q ∈ κ.pn, q.1 ≠ i) (hi : i < ρ.length) (r : SlOk κ.K F H wv (some v) sl) (hd : ∀ b, wv b → ¬ Tw w b) (hf : ∀ b, wv b → F b = none ∧ ∃ o, H b = some o) :
    Rs κ F H (fun j => if j = i then wv else w j) (σ.set i (some v)) (ρ.set i sl) := by
  refine ⟨R.sub, fun q hq => by rw [List.getElem?_set_ne (Ne.symm (hp q hq))]; exact R.pin q hq, by simp [R.len], fun j s hj => ?_, fun j k b h1 h2 => ?_, fun j b h => ?_⟩
  · by_cases e : j = i
    · subst e
      rw [List.getElem?_set_self hi] at hj
      cases hj
      rw [List.getElem?_set_self (by rw [R.len]; exact hi)]
      simp only [if_true]
      exact r
    · rw [List.getElem?_set_ne (Ne.symm e)] at hj ⊢
      simp only [if_neg e]
      exact R.slot j s hj
  · by_cases e1 : j = i
    · by_cases e2 : k = i
      · rw [e1, e2]
      · simp only [if_pos e1] at h1
        simp only [if_neg e2] at h2
        exact absurd ⟨k, h2⟩ (hd b h1)
    · by_cases e2 : k = i
      · simp only [if_neg e1] at h1
        simp only [if_pos e2] at h2
        exact absurd ⟨j, h1⟩ (hd b h2)
      · simp only [if_neg e1] at h1
        simp only [if_neg e2] at h2
        exact R.dis j k b h1 h2
  · by_cases e1 : j = i
    · simp only [if_pos e1] at h
      exact hf b h
    · simp only [if_neg e1] at h
      exact R.free j b h
theorem Rs.setOp (R : Rs κ F H w σ ρ) {i : Nat} {v : V} {d : D} {wv : AS} (hp : ∀ q ∈ κ.pn, q.1 ≠ i) (hi : i < ρ.length) (r : OpAt κ.K F H wv v d) (hd : ∀ b, wv b → ¬ Tw w b) (hf : ∀ b, wv b → F b = none ∧ ∃ o, H b = some o) :
    Rs κ F H (fun j => if j = i then wv else w j) (σ.set i (some v)) (ρ.set i (.op d)) := R.setSl (sl := .op d) hp hi r hd hf
/-- a slot is forgotten -/
theorem Rs.setUn (R : Rs κ F H w σ ρ) {i : Nat} {x : Option V} (hp : ∀ q ∈ κ.pn, q.1 ≠ i) : Rs κ F H (fun j => if j = i then fun _ => False else w j) (σ.set i x) (ρ.set i .un) := by
  refine ⟨R.sub, fun q hq => by rw [List.getElem?_set_ne (Ne.symm (hp q hq))]; exact R.pin q hq, by simp [R.len], fun j s hj => ?_, fun j k b h1 h2 => ?_, fun j b h => ?_⟩
  · by_cases e : j = i
    · subst e
      by_cases hi : j < ρ.length
      · rw [List.getElem?_set_self hi] at hj
        cases hj
        cases (((σ.set j x)[j]?).getD none) <;> trivial
      · rw [List.getElem?_eq_none (by simpa using hi)] at hj
        cases hj
    · rw [List.getElem?_set_ne (Ne.symm e)] at hj ⊢
      simp only [if_neg e]
      exact R.slot j s hj
  · by_cases e1 : j = i
    · simp only [if_pos e1] at h1
    · by_cases e2 : k = i
      · simp only [if_pos e2] at h2
      · simp only [if_neg e1] at h1
        simp only [if_neg e2] at h2
        exact R.dis j k b h1 h2
  · by_cases e1 : j = i
    · simp only [if_pos e1] at h
    · simp only [if_neg e1] at h
      exact R.free j b h
/-- the frozen part grows beside the owned ones -/
theorem Rs.grow (R : Rs κ F H w σ ρ) (e : Ext F H (fun _ => False) F' H' (fun _ => False)) (s : Sub F' H') : Rs κ F' H' w σ ρ := by
  refine ⟨s, R.pin, R.len, fun i s hs => (R.slot i s hs).beside e fun _ _ h => h, R.dis, fun i b h => ?_⟩
  obtain ⟨h1, o, h2⟩ := R.free i b h
  refine ⟨?_, o, e.keep b o h2 fun h => h⟩
  cases q : F' b with
  | none => rfl
  | some u =>
    rcases e.new b u q with z | z | z
    · rw [h1] at z; cases z
    · rw [h2] at z; cases z
    · exact z.elim
theorem Ext.wide {T T2 T' T2' : AS} (e : Ext F H T F' H' T') (h : ∀ b, T b → T2 b) (h' : ∀ b, T2' b → T' b ∨ T2 b) : Ext F H T2 F' H' T2' :=
  ⟨e.le, fun b o q n => e.keep b o q fun t => n (h b t), fun b o q => by
    rcases e.new b o q with z | z | z
    · exact .inl z
    · exact .inr (.inl z)
    · exact .inr (.inr (h b z)), fun b q => by
    rcases h' b q with z | z
    · rcases e.own b z with y | y
      · exact .inl y
      · exact .inr (h b y)
    · exact .inr z⟩
end
/-- new frozen things alone -/
structure Grow (F H F' H' : Hp) : Prop where
  sub : Sub F' H'
  le : LeF F F'
  keep : ∀ b o, H b = some o → H' b = some o
  new : ∀ b o, F' b = some o → F b = some o ∨ H b = none
theorem Grow.refl {F H : Hp} (s : Sub F H) : Grow F H F H := ⟨s, LeF.refl F, fun _ _ h => h, fun _ _ h => .inl h⟩
theorem Grow.ext {F H F' H' : Hp} (g : Grow F H F' H') (T : AS) : Ext F H T F' H' T := ⟨g.le, fun b o h _ => g.keep b o h, fun b o h => (g.new b o h).elim .inl fun z => .inr (.inl z), fun _ h => .inr h⟩
theorem Grow.trans {F H F1 H1 F2 H2 : Hp} (a : Grow F H F1 H1) (b : Grow F1 H1 F2 H2) : Grow F H F2 H2 :=
  ⟨b.sub, a.le.trans b.le, fun c o h => b.keep c o (a.keep c o h), fun c o h => by
    rcases b.new c o h with z | z
    · exact a.new c o z
    · refine .inr ?_
      cases q : H c with
      | none => rfl
      | some u => rw [a.keep c u q] at z; cases z⟩
theorem Rs.grown {κ : Kx} {F H F' H' : Hp} {w : Ws} {σ : St} {ρ : Env} (R : Rs κ F H w σ ρ) (g : Grow F H F' H') : Rs κ F' H' w σ ρ := R.grow (g.ext _) g.sub
/-- a new frozen object -/
theorem Grow.laid {F H : Hp} {p : Addr} {o : HO} (s : Sub F H) (hp : H p = none) : Grow F H (upd F p o) (upd H p o) := by
  have fp : F p = none := by
    cases q : F p with
    | none => rfl
    | some u => rcases s p u q with z | ⟨_, ob, z⟩ <;> (rw [hp] at z; cases z)
  refine ⟨fun b u h => ?_, fun b u h => ?_, fun b u h => ?_, fun b u h => ?_⟩
  · by_cases e : b = p
    · subst e; rw [upd_same] at h ⊢; exact .inl h
    · rw [upd_ne e] at h ⊢; exact s b u h
  · rw [upd_ne (ne_of_none h fp)]; exact h
  · rw [upd_ne (ne_of_none h hp)]; exact h
  · by_cases e : b = p
    · subst e; exact .inr hp
    · rw [upd_ne e] at h; exact .inl h
end DL
/-! DL2: readings by pure functions; operands, operators, calls of built-ins, tests. -/
namespace DL
open PySem L2
/-! ### the monad -/
def M.pure {α : Type} (a : α) : M α := fun ρ => .ok a ρ
def M.bind {α β : Type} (g : M α) (f : α → M β) : M β := fun ρ => match g ρ with
  | .ok a ρ' => f a ρ'
  | .err x ρ' => .err x ρ'
  | .stuck => .stuck
def M.lift {α : Type} (o : Option α) : M α := fun ρ => match o with
  | some a => .ok a ρ
  | none => .stuck
def ExAt (κ : Kx) (F H : Hp) (x : Exn) (c : Value) (dd : Option Addr) : Prop := c = .ref (He.ga κ.K x.cls) ∧ match x.arg with
  | none => dd = none
  | some (f, d) => ∃ da v, dd = some da ∧ H da = some (.xd [(f, v)]) ∧ Rep κ.K F v d
section
variable (κ : Kx) (W : WX)
/-- from a known state -/
def runAt {α : Type} (F H : Hp) (w : Ws) (σ : St) (r : Res α) (P : α → Hp → Hp → Ws → Env → Prop) : Prop := match r with
  | .ok a ρ' => ∀ F' H' w', Rs κ F' H' w' σ ρ' → Ext F H (Tw w) F' H' (Tw w') → P a F' H' w' ρ'
  | .err x ρ' => ∀ c dd F' H' w', Rs κ F' H' w' σ ρ' → Ext F H (Tw w) F' H' (Tw w') → ExAt κ F' H' x c dd → W c dd σ H'
  | .stuck => False
def run {α : Type} (g : M α) (σ : St) (H : Hp) (P : α → Hp → Hp → Ws → Env → Prop) : Prop := ∃ F w ρ, Rs κ F H w σ ρ ∧ runAt κ W F H w σ (g ρ) P
/-- a frozen result -/
def rdF (g : M D) : TE := fun σ H Q => run κ W g σ H fun d F' H' _ _ => ∀ v, Rep κ.K F' v d → Q v H'
/-- a new open container -/
def rdO (g : M D) : TE := fun σ H Q => run κ W g σ H fun d F' H' w' _ => ∀ v F2 H2 wv, Grow F' H' F2 H2 → OpAt κ.K F2 H2 wv v d → (∀ b, wv b → F2 b = none ∧ H' b = none ∧ ∃ o, H2 b = some o) → Q v H2
def rdT (g : M Bool) : TT := fun σ H Q => run κ W g σ H fun b _ H' _ _ => Q b H'
end
theorem runAt.imp {κ : Kx} {W : WX} {α : Type} {F H : Hp} {w : Ws} {σ : St} {r : Res α} {P P' : α → Hp → Hp → Ws → Env → Prop} (h : runAt κ W F H w σ r P) (i : ∀ a F' H' w' ρ', Rs κ F' H' w' σ ρ' → Ext F H (Tw w) F' H' (Tw w') → P a F' H' w' ρ' → P' a F' H' w' ρ') : runAt κ W F H w σ r P' := by
  cases r with
  | ok a ρ' => exact fun F' H' w' R E => i _ _ _ _ _ R E (h F' H' w' R E)
  | err x ρ' => exact h
  | stuck => exact h
/-- the first part, then the rest from there -/
theorem runAt.bind {κ : Kx} {W : WX} {α β : Type} {F H : Hp} {w : Ws} {σ : St} {ρ : Env} {g : M α} {f : α → M β} {P : β → Hp → Hp → Ws → Env → Prop} (h : runAt κ W F H w σ (M.bind g f ρ) P) :
    runAt κ W F H w σ (g ρ) fun a F1 H1 w1 ρ1 => runAt κ W F1 H1 w1 σ (f a ρ1) fun b F2 H2 w2 ρ2 => Ext F1 H1 (Tw w1) F2 H2 (Tw w2) → P b F2 H2 w2 ρ2 := by
  unfold M.bind at h
  cases e : g ρ with
  | stuck => rw [e] at h; exact h
  | err x ρ' => rw [e] at h; exact h
  | ok a ρ1 =>
    rw [e] at h
    intro F1 H1 w1 R1 E1
    have h' : runAt κ W F H w σ (f a ρ1) P := h
    cases e2 : f a ρ1 with
    | stuck => rw [e2] at h'; exact h'
    | err x ρ2 =>
      rw [e2] at h'
      exact fun c dd F2 H2 w2 R2 E2 => h' c dd F2 H2 w2 R2 (E1.trans E2)
    | ok b ρ2 =>
      rw [e2] at h'
      exact fun F2 H2 w2 R2 E2 _ => h' F2 H2 w2 R2 (E1.trans E2)
/-- the same, the rest being told what it stands upon -/
theorem runAt.bind' {κ : Kx} {W : WX} {α β : Type} {F H : Hp} {w : Ws} {σ : St} {ρ : Env} {g : M α} {f : α → M β} {P : β → Hp → Hp → Ws → Env → Prop} (h : runAt κ W F H w σ (M.bind g f ρ) P)
    {P' : α → Hp → Hp → Ws → Env → Prop} (i : ∀ a F1 H1 w1 ρ1, Rs κ F1 H1 w1 σ ρ1 → Ext F H (Tw w) F1 H1 (Tw w1) → runAt κ W F1 H1 w1 σ (f a ρ1) P → P' a F1 H1 w1 ρ1) :
    runAt κ W F H w σ (g ρ) P' := (runAt.bind h).imp fun a F1 H1 w1 ρ1 R E q => i a F1 H1 w1 ρ1 R E (q.imp fun b F2 H2 w2 ρ2 _ E2 z => z E2)
theorem run.of {κ : Kx} {W : WX} {α : Type} {F H : Hp} {w : Ws} {σ : St} {ρ : Env} {g : M α} {P : α → Hp → Hp → Ws → Env → Prop} (R : Rs κ F H w σ ρ) (h : runAt κ W F H w σ (g ρ) P) : run κ W g σ H P := ⟨F, w, ρ, R, h⟩
theorem run.bind {κ : Kx} {W : WX} {α β : Type} {σ : St} {H : Hp} {g : M α} {f : α → M β} {P : β → Hp → Hp → Ws → Env → Prop} (h : run κ W (M.bind g f) σ H P) {P' : α → Hp → Hp → Ws → Env → Prop}
    (i : ∀ a F1 H1 w1 ρ1, Rs κ F1 H1 w1 σ ρ1 → runAt κ W F1 H1 w1 σ (f a ρ1) P → P' a F1 H1 w1 ρ1) : run κ W g σ H P' := by
  obtain ⟨F, w, ρ, R, h⟩ := h
  refine ⟨F, w, ρ, R, ?_⟩
  unfold M.bind at h
  cases e : g ρ with
  | stuck => rw [e] at h; exact h
  | err x ρ' => rw [e] at h; exact h
  | ok a ρ1 =>
    rw [e] at h
    intro F1 H1 w1 R1 E1
    refine i a F1 H1 w1 ρ1 R1 ?_
    have h' : runAt κ W F H w σ (f a ρ1) P := h
    cases e2 : f a ρ1 with
    | stuck => rw [e2] at h'; exact h'
    | err x ρ2 =>
      rw [e2] at h'
      exact fun c dd F2 H2 w2 R2 E2 => h' c dd F2 H2 w2 R2 (E1.trans E2)
    | ok b ρ2 =>
      rw [e2] at h'
      exact fun F2 H2 w2 R2 E2 => h' F2 H2 w2 R2 (E1.trans E2)
theorem run.imp {κ : Kx} {W : WX} {α : Type} {σ : St} {H : Hp} {g : M α} {P P' : α → Hp → Hp → Ws → Env → Prop} (h : run κ W g σ H P) (i : ∀ a F' H' w' ρ', Rs κ F' H' w' σ ρ' → P a F' H' w' ρ' → P' a F' H' w' ρ') : run κ W g σ H P' := by
  obtain ⟨F, w, ρ, R, h⟩ := h
  exact ⟨F, w, ρ, R, h.imp fun a F' H' w' ρ' R _ p => i a F' H' w' ρ' R p⟩
/-! ### the judgements -/
abbrev DE (X : Cx) (κ : Kx) (W : WX) (e : Expr) (g : M D) : Prop := PE X e (rdF κ W g)
abbrev DO (X : Cx) (κ : Kx) (W : WX) (e : Expr) (g : M D) : Prop := PE X e (rdO κ W g)
abbrev DT (X : Cx) (κ : Kx) (W : WX) (e : Expr) (g : M Bool) : Prop := PT X e (rdT κ W g)
theorem pe_weak {X : Cx} {e : Expr} {t t' : TE} (h : PE X e t) (i : ∀ σ H Q, t' σ H Q → t σ H Q) : PE X e t' := ⟨fun pins s σ H Q I q => h.run pins s σ H Q I (i σ H Q q)⟩
theorem pt_weak {X : Cx} {e : Expr} {t t' : TT} (h : PT X e t) (i : ∀ σ H Q, t' σ H Q → t σ H Q) : PT X e t' := ⟨fun pins s σ H Q I q => h.run pins s σ H Q I (i σ H Q q)⟩
theorem pw_weak {X : Cx} {e : Expr} {t t' : TT} (h : PW X e t) (i : ∀ σ H Q, t' σ H Q → t σ H Q) : PW X e t' := ⟨fun wh pins s σ H Q I q => h.run wh pins s σ H Q I (i σ H Q q)⟩
theorem ps_weak {X : Cx} {e : Stmt} {t t' : TS} (h : PS X e t) (i : ∀ D σ H, t' D σ H → t D σ H) : PS X e t' := ⟨fun pins s σ H D I q => h.run pins s σ H D I (i D σ H q)⟩
theorem pss_weak {X : Cx} {e : List Stmt} {t t' : TS} (h : PSs X e t) (i : ∀ D σ H, t' D σ H → t D σ H) : PSs X e t' := ⟨fun pins s σ H D I q => h.run pins s σ H D I (i D σ H q)⟩
theorem pa_weak {X : Cx} {e : List Expr} {t t' : TA} (h : PA X e t) (i : ∀ σ H Q, t' σ H Q → t σ H Q) : PA X e t' := ⟨fun pos pins s σ H Q I q => h.run pos pins s σ H Q I (i σ H Q q)⟩
/-! ### freezing -/
theorem frozen {κ : Kx} {F H F2 H2 : Hp} {v : V} {wv : AS} {d : D} (g : Grow F H F2 H2) (h : OpAt κ.K F2 H2 wv v d) (hw : ∀ b, wv b → F2 b = none ∧ H b = none ∧ ∃ o, H2 b = some o)
    {Q : Prop} (q : ∀ F', Grow F H F' H2 → Rep κ.K F' v d → Q) : Q := by
  obtain ⟨a, o, rfl, wa, ha, c⟩ := h
  obtain ⟨f0, h0, _⟩ := hw a wa
  have le : LeF F2 (upd F2 a o) := fun b u h => by rw [upd_ne (ne_of_none h f0)]; exact h
  refine q (upd F2 a o) ⟨fun b u h => ?_, g.le.trans le, g.keep, fun b u h => ?_⟩ ((c.le le).rep upd_same)
  · by_cases e : b = a
    · subst e
      rw [upd_same] at h
      cases h
      exact .inl ha
    · rw [upd_ne e] at h
      exact g.sub b u h
  · by_cases e : b = a
    · subst e; exact .inr h0
    · rw [upd_ne e] at h; exact g.new b u h
theorem de_fz {X : Cx} {κ : Kx} {W : WX} {e : Expr} {g : M D} (h : DO X κ W e g) : DE X κ W e g := pe_weak h fun σ H Q q => by
  obtain ⟨F, w, ρ, R, q⟩ := q
  refine ⟨F, w, ρ, R, ?_⟩
  cases e : g ρ with
  | stuck => rw [e] at q; exact q
  | err x ρ' => rw [e] at q; exact q
  | ok d ρ' =>
    rw [e] at q
    intro F' H' w' R' E' v F2 H2 wv g o1 o2
    exact frozen g o1 o2 fun F3 g r => q F3 H2 w' (R'.grown g) (E'.trans (g.ext _)) v r
/-! ### what may be read of a value now -/
def Bor (κ : Kx) (F H : Hp) (v : V) (d : D) : Prop := Rep κ.K F v d ∨ ∃ a o, v = .ref a ∧ H a = some o ∧ Cont κ.K F o d
section
variable {κ : Kx} {F H : Hp} {v : V}
theorem Bor.lst {ds : List D} (s : Sub F H) (b : Bor κ F H v (.lst ds)) : ∃ a xs, v = .ref a ∧ SqL κ.K H a xs ∧ RepL κ.K F xs ds := by
  rcases b with b | ⟨a, o, rfl, h, c⟩
  · cases b with
    | lst h r => exact ⟨_, _, rfl, s.sqL h, r⟩
  · cases c with
    | lst r => exact ⟨a, _, rfl, .inl (.inl h), r⟩
theorem Bor.tup {ds : List D} (s : Sub F H) (b : Bor κ F H v (.tup ds)) : ∃ a xs, v = .ref a ∧ SqT κ.K H a xs ∧ RepL κ.K F xs ds := by
  rcases b with b | ⟨a, o, rfl, h, c⟩
  · cases b with
    | tup h r => exact ⟨_, _, rfl, s.sqT h, r⟩
  · cases c
theorem Bor.int {i : Int} (b : Bor κ F H v (.int i)) : v = .int i := by
  rcases b with b | ⟨a, o, rfl, h, c⟩
  · cases b; rfl
  · cases c
theorem Bor.bl {i : Bool} (b : Bor κ F H v (.bl i)) : v = .bl i := by
  rcases b with b | ⟨a, o, rfl, h, c⟩
  · cases b; rfl
  · cases c
theorem Bor.str {i : Str} (b : Bor κ F H v (.str i)) : v = .str i := by
  rcases b with b | ⟨a, o, rfl, h, c⟩
  · cases b; rfl
  · cases c
theorem Bor.non (b : Bor κ F H v .non) : v = .non := by
  rcases b with b | ⟨a, o, rfl, h, c⟩
  · cases b; rfl
  · cases c
end
inductive BorL (κ : Kx) (F H : Hp) : List V → List D → Prop
  | nil : BorL κ F H [] []
  | cons {v d vs ds} : Bor κ F H v d → BorL κ F H vs ds → BorL κ F H (v :: vs) (d :: ds)
/-! ### operands -/
/-- a value told, or a name read late -/
inductive LV where
  | at_ (d : D) | pl (i : Nat)
def slD : Sl → Option D
  | .un => none
  | .fz d => some d
  | .op d => some d
  | .on _ => none
def LV.read : LV → Env → Option D
  | .at_ d, _ => some d
  | .pl i, ρ => (ρ[i]?).bind slD
def LvOk (κ : Kx) (F : Hp) (σ : St) (v : V) : LV → Prop
  | .at_ d => Rep κ.K F v d
  | .pl i => σ[i]? = some (some v)
theorem LvOk.le {κ : Kx} {F F' : Hp} {σ : St} {v : V} (l : LeF F F') : ∀ {x : LV}, LvOk κ F σ v x → LvOk κ F' σ v x
  | .at_ _, h => Rep.le l h
  | .pl _, h => h
theorem LvOk.bor {κ : Kx} {F H : Hp} {w : Ws} {σ : St} {ρ : Env} {v : V} (R : Rs κ F H w σ ρ) : ∀ {x : LV} {d : D}, LvOk κ F σ v x → x.read ρ = some d → Bor κ F H v d
  | .at_ _, _, h, e => by cases e; exact .inl h
  | .pl i, d, h, e => by
    have h : σ[i]? = some (some v) := h
    have e : (ρ[i]?).bind slD = some d := e
    cases q : ρ[i]? with
    | none => rw [q] at e; cases e
    | some s =>
      rw [q] at e
      cases s with
      | un => cases e
      | fz d' =>
        cases e
        obtain ⟨v', h1, h2⟩ := R.fz q
        rw [h] at h1; cases h1
        exact .inl h2
      | op d' =>
        cases e
        obtain ⟨a, o, h1, h2, h3, h4⟩ := R.op q
        rw [h] at h1; cases h1
        exact .inr ⟨a, o, rfl, h3, h4⟩
      | on t => cases e
def oEx (g : M D) : M LV := M.bind g fun d => M.pure (.at_ d)
def oPl (i : Nat) : M LV := fun ρ => match (ρ[i]?).bind slD with
  | some _ => .ok (.pl i) ρ
  | none => .stuck
def rdV (κ : Kx) (W : WX) (o : M LV) : TE := fun σ H Q => run κ W o σ H fun x F' H' _ _ => ∀ v, LvOk κ F' σ v x → Q v H'
abbrev DV (X : Cx) (κ : Kx) (W : WX) (e : Expr) (o : M LV) : Prop := PE X e (rdV κ W o)
section
variable {X : Cx} {κ : Kx} {W : WX} {e : Expr}
theorem dv_ex {g : M D} (h : DE X κ W e g) : DV X κ W e (oEx g) := pe_weak h fun σ H Q q => run.bind q fun a F1 H1 w1 ρ1 R1 z => fun v r => z F1 H1 w1 R1 (Ext.refl _ _ _) v r
theorem dv_pl {i : Nat} (h : PE X e (tVar i)) : DV X κ W e (oPl i) := pe_weak h fun σ H Q q => by
  obtain ⟨F, w, ρ, R, q⟩ := q
  unfold oPl at q
  cases e1 : ρ[i]? with
  | none => rw [e1] at q; exact q.elim
  | some s =>
    rw [e1] at q
    have key : ∀ v, σ[i]? = some (some v) → slD s ≠ none → tVar i σ H Q := fun v h n => by
      refine ⟨v, h, ?_⟩
      cases e2 : slD s with
      | none => exact absurd e2 n
      | some d =>
        have q : runAt κ W F H w σ (match slD s with | some _ => Res.ok (LV.pl i) ρ | none => .stuck) (fun x F' H' _ _ => ∀ v, LvOk κ F' σ v x → Q v H') := q
        rw [e2] at q
        exact q F H w R (Ext.refl _ _ _) v h
    cases s with
    | un => exact q.elim
    | fz d =>
      obtain ⟨v, h, _⟩ := R.fz e1
      exact key v h (by simp [slD])
    | op d =>
      obtain ⟨a, o, h, _⟩ := R.op e1
      exact key _ h (by simp [slD])
    | on t => exact q.elim
/-! ### a tree of open things, frozen -/
mutual
def NT.strip : NT → D
  | .fz d => d
  | .op d => d
  | .lst ts => .lst (NT.strips ts)
  | .ins c _ ts => .obj c (NT.strips ts)
def NT.strips : List NT → List D
  | [] => []
  | t :: ts => t.strip :: NT.strips ts
end
mutual
/-- no instances in it -/
def NT.lists : NT → Bool
  | .fz _ => true
  | .op _ => true
  | .lst ts => NT.listss ts
  | .ins _ _ _ => false
def NT.listss : List NT → Bool
  | [] => true
  | t :: ts => t.lists && NT.listss ts
end
mutual
theorem NtAt.rep {K : PySem.W.Frag} {F H F' : Hp} (l : LeF F F') : ∀ {w : AS} {v : V} {t : NT}, (∀ b o, w b → H b = some o → F' b = some o) → t.lists = true → NtAt K F H w v t → Rep K F' v t.strip
  | _, _, _, _, _, .fz r => r.le l
  | _, _, _, k, _, .op h1 h2 h3 => (h3.le l).rep (k _ _ h1 h2)
  | _, _, _, k, z, .lst h1 h2 h3 h4 => .lst (.inl (.inl (k _ _ h1 h2))) (NtL.rep l (fun b o h => k b o (h3 b h).1) z h4)
theorem NtL.rep {K : PySem.W.Frag} {F H F' : Hp} (l : LeF F F') : ∀ {w : AS} {vs : List V} {ts : List NT}, (∀ b o, w b → H b = some o → F' b = some o) → NT.listss ts = true → NtL K F H w vs ts → RepL K F' vs (NT.strips ts)
  | _, _, _, _, _, .nil => .nil
  | _, _, _, k, z, .cons h1 h2 h3 h4 h5 => by
    simp only [NT.listss, Bool.and_eq_true] at z
    exact .cons (NtAt.rep l (fun b o h => k b o (h1 b h)) z.1 h4) (NtL.rep l (fun b o h => k b o (h2 b h)) z.2 h5)
end
/-- what is owned at some slots, taken among the frozen -/
def sink (F H : Hp) (T : AS) [DecidablePred T] : Hp := fun b => if T b then H b else F b
open Classical in
theorem sink_le {κ : Kx} {F H : Hp} {w : Ws} {σ : L2.St} {ρ : Env} {T : AS} (R : Rs κ F H w σ ρ) (hT : ∀ b, T b → Tw w b) : LeF F (sink F H T) := fun b u h => by
  unfold sink
  split
  · rename_i ht
    obtain ⟨i, hi⟩ := hT b ht
    rw [(R.free i b hi).1] at h; cases h
  · exact h
open Classical in
theorem sink_sub {F H : Hp} {T : AS} (s : Sub F H) : Sub (sink F H T) H := fun b u h => by
  unfold sink at h
  split at h
  · exact .inl h
  · exact s b u h
def slS : Sl → Option D
  | .un => none
  | .fz d => some d
  | .op d => some d
  | .on t => if t.lists = true then some t.strip else none
open Classical in
theorem sink_rep {κ : Kx} {F H : Hp} {w : Ws} {σ : L2.St} {ρ : Env} {T : AS} (R : Rs κ F H w σ ρ) (hT : ∀ b, T b → Tw w b) {i : Nat} {s : Sl} {d : D} (h : ρ[i]? = some s) (e : slS s = some d) (hi : ∀ b, w i b → T b) : ∃ v, σ[i]? = some (some v) ∧ Rep κ.K (sink F H T) v d := by
  have z := R.slot i s h
  have k : ∀ b o, w i b → H b = some o → sink F H T b = some o := fun b o hb ho => by
    unfold sink; rw [if_pos (hi b hb)]; exact ho
  cases e0 : σ[i]? with
  | none => rw [e0] at z; cases s <;> first | exact z.elim | cases e
  | some o => cases o with
    | none => rw [e0] at z; cases s <;> first | exact z.elim | cases e
    | some v =>
      rw [e0] at z
      refine ⟨v, rfl, ?_⟩
      cases s with
      | un => cases e
      | fz d' => cases e; exact Rep.le (sink_le R hT) z
      | op d' =>
        cases e
        obtain ⟨a, o, rfl, wa, ha, c⟩ := z
        exact (c.le (sink_le R hT)).rep (k a o wa ha)
      | on t =>
        have e : (if t.lists = true then some t.strip else none) = some d := e
        split at e
        · rename_i hl
          cases e
          exact NtAt.rep (sink_le R hT) k hl z
        · cases e
/-- a name as a frozen value: an open container is frozen by it -/
def gVar (i : Nat) : M D := fun ρ => match ρ[i]? with
  | some (.fz d) => .ok d ρ
  | some s => match slS s with
    | some d => .ok d (ρ.set i (.fz d))
    | none => .stuck
  | _ => .stuck
open Classical in
theorem de_var {X : Cx} {κ : Kx} {W : WX} {e : Expr} {i : Nat} (h : PE X e (tVar i)) : DE X κ W e (gVar i) := pe_weak h fun σ H Q q => by
  obtain ⟨F, w, ρ, R, q⟩ := q
  unfold gVar at q
  split at q
  · rename_i d e1
    obtain ⟨v, h1, h2⟩ := R.fz e1
    exact ⟨v, h1, q F H w R (Ext.refl _ _ _) v h2⟩
  · rename_i s _ e1
    split at q
    · rename_i d e2
      have hT : ∀ b, w i b → Tw w b := fun b hb => ⟨i, hb⟩
      obtain ⟨v, h1, h2⟩ := sink_rep (T := w i) R hT e1 e2 fun b hb => hb
      have hi : i < ρ.length := (List.getElem?_eq_some_iff.mp e1).1
      have le := sink_le R hT
      refine ⟨v, h1, q (sink F H (w i)) H (fun j b => j ≠ i ∧ w j b) ⟨sink_sub R.sub, R.pin, by simp [R.len], fun j s hj => ?_, fun j k b x y => R.dis j k b x.2 y.2, fun j b x => ⟨?_, (R.free j b x.2).2⟩⟩
        ⟨le, fun b u h _ => h, fun b u h => ?_, fun b ⟨j, x⟩ => .inr ⟨j, x.2⟩⟩ _ h2⟩
      · by_cases ej : j = i
        · subst ej
          rw [List.getElem?_set_self hi] at hj
          cases hj
          rw [h1]
          exact h2
        · rw [List.getElem?_set_ne (Ne.symm ej)] at hj
          have z := R.slot j s hj
          have e0 : (fun b => j ≠ i ∧ w j b) = w j := by
            funext b
            simp [ej]
          rw [e0]
          exact z.move le fun b o _ ho => ho
      · unfold sink
        rw [if_neg fun z => x.1 (R.dis j i b x.2 z)]
        exact (R.free j b x.2).1
      · unfold sink at h
        split at h
        · rename_i hb; exact .inr (.inr ⟨i, hb⟩)
        · exact .inl h
    · exact q.elim
  · exact q.elim
end
end DL
/-! DL3: constants, operators, arguments, built-ins, subscripts, displays, tests. -/
namespace DL
open PySem L2
section
variable {X : Cx} {κ : Kx} {W : WX} {e a b : Expr}
/-! ### constants -/
theorem de_c {v : V} {d : D} (h : PE X e (tC v)) (r : ∀ F, Rep κ.K F v d) : DE X κ W e (M.pure d) := pe_weak h fun σ H Q q => by
  obtain ⟨F, w, ρ, R, q⟩ := q
  exact q F H w R (Ext.refl _ _ _) v (r F)
theorem de_int {i : Int} {j pos} : DE X κ W (.Constant (.int i) j pos) (M.pure (.int i)) := de_c pe_int fun _ => .int
theorem de_bl {i : Bool} {j pos} : DE X κ W (.Constant (.bool i) j pos) (M.pure (.bl i)) := de_c pe_bl fun _ => .bl
theorem de_str {i : Str} {j pos} : DE X κ W (.Constant (.str i) j pos) (M.pure (.str i)) := de_c pe_str fun _ => .str
theorem de_non {j pos} : DE X κ W (.Constant .none j pos) (M.pure .non) := de_c pe_non fun _ => .non
/-! ### two operands -/
def rd2 {α : Type} (p : D → D → Option α) (x y : LV) : M α := fun ρ => match x.read ρ, y.read ρ with
  | some d1, some d2 => M.lift (p d1 d2) ρ
  | _, _ => .stuck
def p2 {α : Type} (p : D → D → Option α) (oa ob : M LV) : M α := M.bind oa fun x => M.bind ob fun y => rd2 p x y
/-- an operation upon two values: a frozen result -/
def r2 (κ : Kx) (p : D → D → Option D) : R2 := fun x y H Q => ∃ F d1 d2 d, Sub F H ∧ Bor κ F H x d1 ∧ Bor κ F H y d2 ∧ p d1 d2 = some d ∧ ∀ v F' H', Grow F H F' H' → Rep κ.K F' v d → Q v H'
/-- .. a new list -/
def r2O (κ : Kx) (p : D → D → Option (List D)) : R2 := fun x y H Q => ∃ F d1 d2 ds, Sub F H ∧ Bor κ F H x d1 ∧ Bor κ F H y d2 ∧ p d1 d2 = some ds ∧ ∀ xs q, H q = none → RepL κ.K F xs ds → Q (.ref q) (upd H q (.lst xs))
theorem rd2_ok {α : Type} {p : D → D → Option α} {x y : LV} {ρ : Env} {F H : Hp} {w : Ws} {σ : St} {P : α → Hp → Hp → Ws → Env → Prop} (R : Rs κ F H w σ ρ) (h : runAt κ W F H w σ (rd2 p x y ρ) P) :
    ∃ d1 d2 d, x.read ρ = some d1 ∧ y.read ρ = some d2 ∧ p d1 d2 = some d ∧ ∀ F' H' w', Rs κ F' H' w' σ ρ → Ext F H (Tw w) F' H' (Tw w') → P d F' H' w' ρ := by
  unfold rd2 at h
  cases e1 : x.read ρ with
  | none => rw [e1] at h; exact h.elim
  | some d1 =>
    cases e2 : y.read ρ with
    | none => rw [e1, e2] at h; exact h.elim
    | some d2 =>
      rw [e1, e2] at h
      have h : runAt κ W F H w σ (M.lift (p d1 d2) ρ) P := h
      unfold M.lift at h
      cases e3 : p d1 d2 with
      | none => rw [e3] at h; exact h.elim
      | some d => rw [e3] at h; exact ⟨d1, d2, d, rfl, rfl, e3, h⟩
theorem op2_core {α : Type} {p : D → D → Option α} {oa ob : M LV} {σ : St} {H : Hp} {P : α → Hp → Hp → Ws → Env → Prop} {r : V → V → Hp → Prop} (q : run κ W (p2 p oa ob) σ H P)
    (i : ∀ x y F H w ρ d1 d2 d, Rs κ F H w σ ρ → Bor κ F H x d1 → Bor κ F H y d2 → p d1 d2 = some d → (∀ F' H' w', Rs κ F' H' w' σ ρ → Ext F H (Tw w) F' H' (Tw w') → P d F' H' w' ρ) → r x y H) :
    rdV κ W oa σ H fun x H1 => rdV κ W ob σ H1 fun y H2 => r x y H2 := by
  refine run.bind q fun lx F1 H1 w1 ρ1 R1 q1 => fun x rx => ?_
  refine ⟨F1, w1, ρ1, R1, runAt.bind' q1 fun ly F2 H2 w2 ρ2 R2 E2 q2 => ?_⟩
  intro y ry
  obtain ⟨d1, d2, d, e1, e2, e3, q3⟩ := rd2_ok R2 q2
  exact i x y F2 H2 w2 ρ2 d1 d2 d R2 ((LvOk.le E2.le rx).bor R2 e1) (ry.bor R2 e2) e3 q3
theorem op2_F {p : D → D → Option D} {oa ob : M LV} {σ : St} {H : Hp} {Q : VK} (q : rdF κ W (p2 p oa ob) σ H Q) : tOp (r2 κ p) (rdV κ W oa) (rdV κ W ob) σ H Q :=
  op2_core q fun x y F H w ρ d1 d2 d R b1 b2 e k => ⟨F, d1, d2, d, R.sub, b1, b2, e, fun v F' H' g r => k F' H' w (R.grown g) (g.ext _) v r⟩
theorem new_lst {F H : Hp} {w : Ws} {σ : St} {ρ : Env} {ds : List D} {xs : List V} {q : Addr} {Q : VK} (R : Rs κ F H w σ ρ) (hq : H q = none) (r : RepL κ.K F xs ds)
    (k : ∀ v F2 H2 wv, Grow F H F2 H2 → OpAt κ.K F2 H2 wv v (.lst ds) → (∀ b, wv b → F2 b = none ∧ H b = none ∧ ∃ o, H2 b = some o) → Q v H2) : Q (.ref q) (upd H q (.lst xs)) := by
  have fp : F q = none := by
    cases e : F q with
    | none => rfl
    | some u => rcases R.sub q u e with z | ⟨_, ob, z⟩ <;> (rw [hq] at z; cases z)
  refine k (.ref q) F (upd H q (.lst xs)) (fun b => b = q) ⟨fun b u h => ?_, LeF.refl F, fun b o h => ?_, fun b o h => .inl h⟩ ⟨q, _, rfl, rfl, upd_same, .lst r⟩ (fun b e => ?_)
  · rcases R.sub b u h with z | ⟨z, ob, y⟩
    · exact .inl (by rw [upd_ne (ne_of_none z hq)]; exact z)
    · exact .inr ⟨z, ob, by rw [upd_ne (ne_of_none y hq)]; exact y⟩
  · rw [upd_ne (ne_of_none h hq)]; exact h
  · subst e; exact ⟨fp, hq, _, upd_same⟩
theorem op2_O {p : D → D → Option (List D)} {oa ob : M LV} {σ : St} {H : Hp} {Q : VK} (q : rdO κ W (M.bind (p2 p oa ob) fun ds => M.pure (.lst ds)) σ H Q) : tOp (r2O κ p) (rdV κ W oa) (rdV κ W ob) σ H Q := by
  refine op2_core (p := p) (P := fun ds F' H' w' ρ' => ∀ xs q, H' q = none → RepL κ.K F' xs ds → Q (.ref q) (upd H' q (.lst xs))) (run.bind q fun ds F1 H1 w1 ρ1 R1 z => fun xs q hq r => ?_)
    fun x y F H w ρ d1 d2 ds R b1 b2 e k => ⟨F, d1, d2, ds, R.sub, b1, b2, e, fun xs q hq r => k F H w R (Ext.refl _ _ _) xs q hq r⟩
  exact new_lst R1 hq r (z F1 H1 w1 R1 (Ext.refl _ _ _))
theorem de_bin {op : Operator} {p : D → D → Option D} {oa ob : M LV} {pos} (ho : OpR X (binaryOp op) (r2 κ p)) (ha : DV X κ W a oa) (hb : DV X κ W b ob) : DE X κ W (.BinOp a op b pos) (p2 p oa ob) :=
  pe_weak (pe_op ho ha hb) fun _ _ _ q => op2_F q
theorem do_bin {op : Operator} {p : D → D → Option (List D)} {oa ob : M LV} {pos} (ho : OpR X (binaryOp op) (r2O κ p)) (ha : DV X κ W a oa) (hb : DV X κ W b ob) : DO X κ W (.BinOp a op b pos) (M.bind (p2 p oa ob) fun ds => M.pure (.lst ds)) :=
  pe_weak (pe_op ho ha hb) fun _ _ _ q => op2_O q
/-- a comparison: p gives a truth value -/
def pB (p : D → D → Option Bool) : D → D → Option D := fun x y => (p x y).map .bl
theorem de_cmp {op : CmpOp} {p : D → D → Option Bool} {oa ob : M LV} {pos} (ho : OpR X (compareOp op) (r2 κ (pB p))) (ha : DV X κ W a oa) (hb : DV X κ W b ob) (hm : behindInMarks op b = false) : DE X κ W (.Compare a [op] [b] pos) (p2 (pB p) oa ob) :=
  pe_weak (pe_cmpR ho ha hb hm) fun _ _ _ q => op2_F q
theorem dt_cmp {op : CmpOp} {p : D → D → Option Bool} {oa ob : M LV} {pos} (ho : OpR X (compareOp op) (r2 κ (pB p))) (ha : DV X κ W a oa) (hb : DV X κ W b ob) (hm : behindInMarks op b = false) : DT X κ W (.Compare a [op] [b] pos) (p2 p oa ob) :=
  pt_weak (pt_cmpR ho ha hb hm) fun σ H Q q => op2_core q fun x y F H w ρ d1 d2 d R b1 b2 e k => ⟨F, d1, d2, .bl d, R.sub, b1, b2, by unfold pB; rw [e]; rfl, fun v F' H' g r => by
    cases r
    exact ⟨d, rfl, k F' H' w (R.grown g) (g.ext _)⟩⟩
/-! ### operators -/
/-- a rule over values, by cases -/
theorem opr_of {f : Value → Value → Sem Value} {r : R2} {p : D → D → Option D} (h : OpR X f r) (i : ∀ F x y H Q d1 d2 d, Sub F H → Bor κ F H x d1 → Bor κ F H y d2 → p d1 d2 = some d → (∀ v F' H', Grow F H F' H' → Rep κ.K F' v d → Q v H') → r x y H Q) : OpR X f (r2 κ p) := by
  intro pins s σ H x y v u Q I rx ry ⟨F, d1, d2, d, sb, b1, b2, e, k⟩
  exact h pins s σ H x y v u Q I rx ry (i F x y H Q d1 d2 d sb b1 b2 e k)
def iop (g : Int → Int → D) : D → D → Option D
  | .int i, .int j => some (g i j)
  | _, _ => none
def iopC (c : Int → Int → Bool) (g : Int → Int → D) : D → D → Option D
  | .int i, .int j => if c i j = true then some (g i j) else none
  | _, _ => none
theorem opr_I0 {f : Value → Value → Sem Value} {g : Int → Int → Int} (h : OpR X f (rI0 fun i j => .int (g i j))) : OpR X f (r2 κ (iop fun i j => .int (g i j))) := opr_of h fun F x y H Q d1 d2 d sb b1 b2 e k => by
  cases d1 <;> cases d2 <;> cases e
  exact ⟨_, _, b1.int, b2.int, k _ F H (Grow.refl sb) .int⟩
theorem opr_IC {f : Value → Value → Sem Value} {c : Int → Int → Bool} {C : Int → Int → Prop} {g : Int → Int → Int} (h : OpR X f (rI C fun i j => .int (g i j))) (hc : ∀ i j, c i j = true → C i j) : OpR X f (r2 κ (iopC c fun i j => .int (g i j))) := opr_of h fun F x y H Q d1 d2 d sb b1 b2 e k => by
  cases d1 <;> cases d2 <;> try (cases e; done)
  rename_i i j
  have e : (if c i j = true then some (D.int (g i j)) else none) = some d := e
  by_cases hij : c i j = true
  · rw [if_pos hij] at e
    cases e
    exact ⟨_, _, b1.int, b2.int, hc i j hij, k _ F H (Grow.refl sb) .int⟩
  · rw [if_neg hij] at e
    cases e
def icmp (g : Int → Int → Bool) : D → D → Option Bool
  | .int i, .int j => some (g i j)
  | _, _ => none
theorem opr_B0 {f : Value → Value → Sem Value} {g : Int → Int → Bool} (h : OpR X f (rI0 fun i j => .bl (g i j))) : OpR X f (r2 κ (pB (icmp g))) := opr_of h fun F x y H Q d1 d2 d sb b1 b2 e k => by
  cases d1 <;> cases d2 <;> cases e
  exact ⟨_, _, b1.int, b2.int, k _ F H (Grow.refl sb) .bl⟩
abbrev iSub := iop fun i j => .int (i - j)
/-- * of two factors of together less than 2 ^ 26 bits -/
def CMulB (i j : Int) : Prop := i.natAbs.log2 + j.natAbs.log2 < 67108864 ∨ i.natAbs < 1152921504606846976 ∨ j.natAbs < 1152921504606846976
theorem CMulB.ok {i j : Int} (h : CMulB i j) : IntMulOk i j := by
  have b : ∀ x : Int, Builtin.Int.intBits x ≤ x.natAbs.log2 + 1 := fun x => by
    unfold Builtin.Int.intBits
    split <;> omega
  have h1 := b i
  have h2 := b j
  rcases h with h3 | h3 | h3
  rotate_left
  · exact .of_left (intBits_le_64 (by omega) (by omega))
  · exact .of_right (intBits_le_64 (by omega) (by omega))
  have e : bitsLine = 134217728 := by decide
  unfold IntMulOk
  intro z
  rw [Bool.and_eq_true] at z
  have z2 := z.2
  unfold Builtin.Int.intTooBig at z2
  have z3 := of_decide_eq_true z2
  rw [e] at z3
  omega
theorem op_mulB : OpR X (binaryOp .Mult) (rI CMulB fun i j => .int (i * j)) := opI fun _ _ _ _ _ _ _ hc q => PyProof.Rows.mul_int q hc.ok
abbrev iMul := iopC (fun i j => decide (i.natAbs.log2 + j.natAbs.log2 < 67108864 ∨ i.natAbs < 1152921504606846976 ∨ j.natAbs < 1152921504606846976)) fun i j => .int (i * j)
abbrev iMod := iopC (fun _ j => decide (0 < j)) fun i j => .int (i % j)
abbrev iDiv := iopC (fun _ j => decide (0 < j ∧ j.natAbs.log2 < 9000)) fun i j => .int (i / j)
abbrev iOr := iop fun i j => .int (Builtin.bitOr i j)
theorem od_sub : OpR X (binaryOp .Sub) (r2 κ iSub) := opr_I0 op_sub
theorem od_mul : OpR X (binaryOp .Mult) (r2 κ iMul) := opr_IC op_mulB fun i j h => (of_decide_eq_true h : i.natAbs.log2 + j.natAbs.log2 < 67108864 ∨ i.natAbs < 1152921504606846976 ∨ j.natAbs < 1152921504606846976)
theorem od_mod : OpR X (binaryOp .Mod) (r2 κ iMod) := opr_IC op_mod fun i j h => of_decide_eq_true h
theorem od_div : OpR X (binaryOp .FloorDiv) (r2 κ iDiv) := opr_IC op_fdivW fun i j h => (of_decide_eq_true h : 0 < j ∧ j.natAbs.log2 < 9000)
theorem od_or : OpR X (binaryOp .BitOr) (r2 κ iOr) := opr_I0 op_or
abbrev cLt := icmp fun i j => decide (i < j)
abbrev cLe := icmp fun i j => decide (i ≤ j)
abbrev cGt := icmp fun i j => decide (j < i)
abbrev cGe := icmp fun i j => decide (j ≤ i)
theorem od_lt : OpR X (compareOp .Lt) (r2 κ (pB cLt)) := opr_B0 op_lt
theorem od_le : OpR X (compareOp .LtE) (r2 κ (pB cLe)) := opr_B0 op_le
theorem od_gt : OpR X (compareOp .Gt) (r2 κ (pB cGt)) := opr_B0 op_gt
theorem od_ge : OpR X (compareOp .GtE) (r2 κ (pB cGe)) := opr_B0 op_ge
/-- + of ints, of tuples -/
def szB (n : Nat) : Bool := decide (n ≤ sizeLine)
def dAdd : D → D → Option D
  | .int i, .int j => some (.int (i + j))
  | .tup xs, .tup ys => if szB (xs.length + ys.length) = true then some (.tup (xs ++ ys)) else none
  | _, _ => none
theorem Rep.cast {K K' : PySem.W.Frag} {F : Hp} {v : V} {d : D} (e : K = K') (h : Rep K F v d) : Rep K' F v d := e ▸ h
theorem grow_tup {F H : Hp} {p : Addr} {xs : List V} {ds : List D} (sb : Sub F H) (hp : H p = none) (r : RepL κ.K F xs ds) : Grow F H (upd F p (.tup xs)) (upd H p (.tup xs)) ∧ Rep κ.K (upd F p (.tup xs)) (.ref p) (.tup ds) := by
  have g := Grow.laid (o := .tup xs) sb hp
  exact ⟨g, .tup (.inl (.inl upd_same)) (r.le g.le)⟩
theorem od_add (hK : κ.K = X.K) : OpR X (binaryOp .Add) (r2 κ dAdd) := by
  intro pins s σ H x y v u Q I rx ry ⟨F, d1, d2, d, sb, b1, b2, e, k⟩
  cases d1 <;> cases d2 <;> try (cases e; done)
  · cases e
    exact op_add pins s σ H x y v u Q I rx ry ⟨_, _, b1.int, b2.int, k _ F H (Grow.refl sb) .int⟩
  · rename_i xs ys
    have e : (if szB (xs.length + ys.length) = true then some (D.tup (xs ++ ys)) else none) = some d := e
    by_cases hz : szB (xs.length + ys.length) = true
    · rw [if_pos hz] at e
      cases e
      obtain ⟨a1, vs1, rfl, h1, r1⟩ := b1.tup sb
      obtain ⟨a2, vs2, rfl, h2, r2⟩ := b2.tup sb
      have l1 := r1.length
      have l2 := r2.length
      have hz : xs.length + ys.length ≤ sizeLine := of_decide_eq_true hz
      refine op_catA pins s σ H _ _ v u Q I rx ry ⟨a1, a2, vs1, vs2, rfl, rfl, hK ▸ h1, hK ▸ h2, by omega, fun n => ?_, fun _ n => ?_, fun _ _ p hp => ?_⟩
      · subst n
        cases r1
        refine k _ F H (Grow.refl sb) ?_
        simp only [List.nil_append]
        rcases b2 with b2 | ⟨_, _, _, _, c⟩
        · exact b2
        · cases c
      · subst n
        cases r2
        refine k _ F H (Grow.refl sb) ?_
        simp only [List.append_nil]
        rcases b1 with b1 | ⟨_, _, _, _, c⟩
        · exact b1
        · cases c
      · obtain ⟨g, r⟩ := grow_tup (κ := κ) sb hp (r1.append r2)
        exact k _ _ _ g r
    · rw [if_neg hz] at e
      cases e
/-- xs + ys, lists: a new one -/
def lAdd : D → D → Option (List D)
  | .lst xs, .lst ys => if szB (xs.length + ys.length) = true then some (xs ++ ys) else none
  | _, _ => none
/-! ### == of data -/
mutual
def D.py : D → Option PyData
  | .non => some .none
  | .bl b => some (.bool b)
  | .int i => some (.int i)
  | .str x => some (.str x)
  | .tup ds => (D.pyL ds).map .tuple
  | .lst ds => (D.pyL ds).map .list
  | _ => none
def D.pyL : List D → Option (List PyData)
  | [] => some []
  | d :: ds => match D.py d, D.pyL ds with
    | some p, some ps => some (p :: ps)
    | _, _ => none
end
mutual
theorem py_dp {F H : Hp} (sb : Sub F H) : ∀ {v : V} {d : D} {p : PyData}, Rep κ.K F v d → D.py d = some p → Dp κ.K H v p
  | _, _, _, .non, e => by simp [D.py] at e; subst e; exact .non
  | _, _, _, .bl, e => by simp [D.py] at e; subst e; exact .bl _
  | _, _, _, .int, e => by simp [D.py] at e; subst e; exact .int _
  | _, _, _, .str, e => by simp [D.py] at e; subst e; exact .str _
  | _, _, _, .tup h r, e => by
    simp only [D.py, Option.map_eq_some_iff] at e
    obtain ⟨ps, e1, rfl⟩ := e
    exact .tup (sb.sqT h) (py_dpL sb r e1)
  | _, _, _, .lst h r, e => by
    simp only [D.py, Option.map_eq_some_iff] at e
    obtain ⟨ps, e1, rfl⟩ := e
    exact .lst (sb.sqL h) (py_dpL sb r e1)
  | _, _, _, .dicK _ _, e => by simp [D.py] at e
theorem py_dpL {F H : Hp} (sb : Sub F H) : ∀ {vs : List V} {ds : List D} {ps : List PyData}, RepL κ.K F vs ds → D.pyL ds = some ps → DpAll κ.K H vs ps
  | _, _, _, .nil, e => by simp [D.pyL] at e; subst e; exact .nil
  | _, _, _, .cons h r, e => by
    simp only [D.pyL] at e
    split at e
    · rename_i p ps e1 e2
      cases e
      exact .cons (py_dp sb h e1) (py_dpL sb r e2)
    · cases e
end
theorem Bor.dp {F H : Hp} {v : V} {d : D} {p : PyData} (sb : Sub F H) (b : Bor κ F H v d) (e : D.py d = some p) : Dp κ.K H v p := by
  rcases b with b | ⟨a, o, rfl, h, c⟩
  · exact py_dp sb b e
  · cases c with
    | lst r =>
      simp only [D.py, Option.map_eq_some_iff] at e
      obtain ⟨ps, e1, rfl⟩ := e
      exact .lst (.inl (.inl h)) (py_dpL sb r e1)
    | dicK r => simp [D.py] at e
/-- == -/
def dEq (x y : D) : Option Bool := match D.py x, D.py y with
  | some p, some q => if SeqAt.shaped p = true ∧ SeqAt.shaped q = true then some (PyData.eqv p q) else none
  | _, _ => none
def dNe (x y : D) : Option Bool := (dEq x y).map not
theorem dEq_some {x y : D} {b : Bool} (h : dEq x y = some b) : ∃ p q, D.py x = some p ∧ D.py y = some q ∧ SeqAt.shaped p = true ∧ SeqAt.shaped q = true ∧ b = PyData.eqv p q := by
  unfold dEq at h
  split at h
  · rename_i p q e1 e2
    split at h
    · rename_i hs
      cases h
      exact ⟨p, q, e1, e2, hs.1, hs.2, rfl⟩
    · cases h
  · cases h
theorem od_eq (hK : κ.K = X.K) (hu : X.A.units + 64 < cLine) : OpR X (compareOp .Eq) (r2 κ (pB dEq)) := opr_of (op_eqD hu) fun F x y H Q d1 d2 d sb b1 b2 e k => by
  simp only [pB, Option.map_eq_some_iff] at e
  obtain ⟨c, e, rfl⟩ := e
  obtain ⟨p, q, e1, e2, s1, s2, rfl⟩ := dEq_some e
  exact ⟨p, q, hK ▸ b1.dp sb e1, hK ▸ b2.dp sb e2, s1, s2, k _ F H (Grow.refl sb) .bl⟩
theorem od_ne (hK : κ.K = X.K) (hu : X.A.units + 64 < cLine) : OpR X (compareOp .NotEq) (r2 κ (pB dNe)) := opr_of (op_neD hu) fun F x y H Q d1 d2 d sb b1 b2 e k => by
  simp only [pB, Option.map_eq_some_iff, dNe] at e
  obtain ⟨c, ⟨c0, e, rfl⟩, rfl⟩ := e
  obtain ⟨p, q, e1, e2, s1, s2, rfl⟩ := dEq_some e
  exact ⟨p, q, hK ▸ b1.dp sb e1, hK ▸ b2.dp sb e2, s1, s2, k _ F H (Grow.refl sb) .bl⟩
/-- is None -/
def D.isNon : D → Bool
  | .non => true
  | _ => false
def dIsN (x y : D) : Option Bool := match y with
  | .non => some x.isNon
  | _ => none
def dIsnN (x y : D) : Option Bool := match y with
  | .non => some (!x.isNon)
  | _ => none
theorem Bor.isNon {F H : Hp} {v : V} {d : D} (b : Bor κ F H v d) : decide (v = .non) = d.isNon := by
  rcases b with b | ⟨a, o, rfl, h, c⟩
  · cases b <;> rfl
  · cases c <;> rfl
theorem od_isN : OpR X (compareOp .Is) (r2 κ (pB dIsN)) := opr_of op_isN fun F x y H Q d1 d2 d sb b1 b2 e k => by
  simp only [pB, Option.map_eq_some_iff] at e
  obtain ⟨c, e, rfl⟩ := e
  cases d2 <;> cases e
  exact ⟨b2.non, by rw [b1.isNon]; exact k _ F H (Grow.refl sb) .bl⟩
theorem od_isnN : OpR X (compareOp .IsNot) (r2 κ (pB dIsnN)) := opr_of op_notN fun F x y H Q d1 d2 d sb b1 b2 e k => by
  simp only [pB, Option.map_eq_some_iff] at e
  obtain ⟨c, e, rfl⟩ := e
  cases d2 <;> cases e
  exact ⟨b2.non, by rw [b1.isNon]; exact k _ F H (Grow.refl sb) .bl⟩
/-! ### subscripts -/
def dIx : D → D → Option D
  | .lst xs, .int i => atI xs i
  | .tup xs, .int i => atI xs i
  | _, _ => none
theorem atI_rep {F : Hp} {xs : List V} {ds : List D} {i : Int} {d : D} (r : RepL κ.K F xs ds) (h : atI ds i = some d) : ∃ v, atI xs i = some v ∧ Rep κ.K F v d := by
  unfold atI at h ⊢
  rw [r.length]
  cases e : ixN ds.length i with
  | none => rw [e] at h; cases h
  | some j =>
    rw [e] at h
    obtain ⟨v, h1, h2⟩ := r.get h
    exact ⟨v, h1, h2⟩
theorem de_ix {oa ob : M LV} {pos} (hK : κ.K = X.K) (ha : DV X κ W a oa) (hb : DV X κ W b ob) (hs : PlainIx b) : DE X κ W (.Subscript a b pos) (p2 dIx oa ob) :=
  pe_weak (pe_ix (ix_list.or ix_tup) ha hb hs) fun σ H Q q => op2_core q fun x y F H w ρ d1 d2 d R b1 b2 e k => by
    cases d1 <;> cases d2 <;> try (cases e; done)
    · obtain ⟨p, xs, rfl, h1, r1⟩ := b1.tup R.sub
      obtain ⟨v, h2, r2⟩ := atI_rep r1 e
      exact .inr ⟨p, xs, _, v, rfl, b2.int, hK ▸ h1, h2, k F H w R (Ext.refl _ _ _) v r2⟩
    · obtain ⟨p, xs, rfl, h1, r1⟩ := b1.lst R.sub
      obtain ⟨v, h2, r2⟩ := atI_rep r1 e
      exact .inl ⟨p, xs, _, v, rfl, b2.int, hK ▸ h1, h2, k F H w R (Ext.refl _ _ _) v r2⟩
end
end DL
/-! DL4: arguments, calls of built-ins, slices, displays, tests. -/
namespace DL
open PySem L2
section
variable {X : Cx} {κ : Kx} {W : WX} {e a b c : Expr} {es : List Expr}
/-! ### argument lists -/
def gOps : List (M LV) → M (List LV)
  | [] => M.pure []
  | o :: os => M.bind o fun x => M.bind (gOps os) fun xs => M.pure (x :: xs)
inductive LvsOk (κ : Kx) (F : Hp) (σ : St) : List V → List LV → Prop
  | nil : LvsOk κ F σ [] []
  | cons {v x vs xs} : LvOk κ F σ v x → LvsOk κ F σ vs xs → LvsOk κ F σ (v :: vs) (x :: xs)
def readAll : List LV → Env → Option (List D)
  | [], _ => some []
  | x :: xs, ρ => match x.read ρ, readAll xs ρ with
    | some d, some ds => some (d :: ds)
    | _, _ => none
theorem LvsOk.bor {F H : Hp} {w : Ws} {σ : St} {ρ : Env} (R : Rs κ F H w σ ρ) : ∀ {xs : List LV} {vs : List V} {ds : List D}, LvsOk κ F σ vs xs → readAll xs ρ = some ds → BorL κ F H vs ds
  | _, _, _, .nil, e => by simp [readAll] at e; subst e; exact .nil
  | _, _, _, .cons h r, e => by
    simp only [readAll] at e
    split at e
    · rename_i d ds e1 e2
      cases e
      exact .cons (h.bor R e1) (LvsOk.bor R r e2)
    · cases e
def rdA (κ : Kx) (W : WX) (os : List (M LV)) : TA := fun σ H Q => run κ W (gOps os) σ H fun xs F' H' _ _ => ∀ vs, LvsOk κ F' σ vs xs → Q vs H'
abbrev DA (X : Cx) (κ : Kx) (W : WX) (es : List Expr) (os : List (M LV)) : Prop := PA X es (rdA κ W os)
theorem da_nil : DA X κ W [] [] := pa_weak pa_nil fun σ H Q q => by
  obtain ⟨F, w, ρ, R, q⟩ := q
  exact q F H w R (Ext.refl _ _ _) [] .nil
theorem LvOk.leP {F F' : Hp} {σ : St} {v : V} {x : LV} (l : LeF F F') (h : LvOk κ F σ v x) : LvOk κ F' σ v x := h.le l
theorem da_cons {o : M LV} {os : List (M LV)} (ha : DV X κ W e o) (hr : DA X κ W es os) (hs : starEach (e :: es) X.env = (false, eval e X.env) :: starEach es X.env := by rfl) : DA X κ W (e :: es) (o :: os) :=
  pa_weak (pa_cons ha hr hs) fun σ H Q q => run.bind q fun x F1 H1 w1 ρ1 R1 q1 => fun v rv => by
    refine ⟨F1, w1, ρ1, R1, runAt.bind' q1 fun xs F2 H2 w2 ρ2 R2 E2 q2 => fun vs rs => ?_⟩
    exact q2 F2 H2 w2 R2 (Ext.refl _ _ _) (v :: vs) (.cons (rv.leP E2.le) rs)
/-! ### calls of built-ins -/
def gRead {α : Type} (p : List D → Option α) (xs : List LV) : M α := fun ρ => match readAll xs ρ with
  | some ds => M.lift (p ds) ρ
  | none => .stuck
def gB {α : Type} (p : List D → Option α) (os : List (M LV)) : M α := M.bind (gOps os) (gRead p)
def rB (κ : Kx) (p : List D → Option D) : List V → Hp → VK → Prop := fun vs H Q => ∃ F ds d, Sub F H ∧ BorL κ F H vs ds ∧ p ds = some d ∧ ∀ v F' H', Grow F H F' H' → Rep κ.K F' v d → Q v H'
def rBO (κ : Kx) (p : List D → Option (List D)) : List V → Hp → VK → Prop := fun vs H Q => ∃ F ds d, Sub F H ∧ BorL κ F H vs ds ∧ p ds = some d ∧ ∀ xs q, H q = none → RepL κ.K F xs d → Q (.ref q) (upd H q (.lst xs))
theorem gB_core {α : Type} {p : List D → Option α} {os : List (M LV)} {σ : St} {H : Hp} {P : α → Hp → Hp → Ws → Env → Prop} {r : List V → Hp → Prop} (q : run κ W (gB p os) σ H P)
    (i : ∀ vs F H w ρ ds d, Rs κ F H w σ ρ → BorL κ F H vs ds → p ds = some d → (∀ F' H' w', Rs κ F' H' w' σ ρ → Ext F H (Tw w) F' H' (Tw w') → P d F' H' w' ρ) → r vs H) : rdA κ W os σ H r := by
  refine run.bind q fun xs F1 H1 w1 ρ1 R1 q1 => fun vs rs => ?_
  unfold gRead at q1
  cases e : readAll xs ρ1 with
  | none => rw [e] at q1; exact q1.elim
  | some ds =>
    rw [e] at q1
    have q1 : runAt κ W F1 H1 w1 σ (M.lift (p ds) ρ1) P := q1
    unfold M.lift at q1
    cases e2 : p ds with
    | none => rw [e2] at q1; exact q1.elim
    | some d => rw [e2] at q1; exact i vs F1 H1 w1 ρ1 ds d R1 (rs.bor R1 e) e2 q1
theorem gB_F {p : List D → Option D} {os : List (M LV)} {σ : St} {H : Hp} {Q : VK} (q : rdF κ W (gB p os) σ H Q) : tCB (rB κ p) (rdA κ W os) σ H Q :=
  gB_core q fun vs F H w ρ ds d R b e k => ⟨F, ds, d, R.sub, b, e, fun v F' H' g r => k F' H' w (R.grown g) (g.ext _) v r⟩
theorem gB_O {p : List D → Option (List D)} {os : List (M LV)} {σ : St} {H : Hp} {Q : VK} (q : rdO κ W (M.bind (gB p os) fun ds => M.pure (.lst ds)) σ H Q) : tCB (rBO κ p) (rdA κ W os) σ H Q := by
  refine gB_core (p := p) (P := fun ds F' H' w' ρ' => ∀ xs q, H' q = none → RepL κ.K F' xs ds → Q (.ref q) (upd H' q (.lst xs))) (run.bind q fun ds F1 H1 w1 ρ1 R1 z => fun xs q hq r => new_lst R1 hq r (z F1 H1 w1 R1 (Ext.refl _ _ _)))
    fun vs F H w ρ ds d R b e k => ⟨F, ds, d, R.sub, b, e, fun xs q hq r => k F H w R (Ext.refl _ _ _) xs q hq r⟩
variable {x : Str} {p₀ pos : Pos} {id T : String}
theorem de_callB {p : List D → Option D} {o : M LV} {os : List (M LV)} (hc : CallR X (.builtin id) (rB κ p)) (hg : Gl X x) (hm : X.mg x = none) (hv : bootBuiltins x = some (.builtin id)) (ha : DA X κ W (e :: es) (o :: os)) (hn : x ≠ "__name__" := by decide) (hdb : (x == ("__debug__" : Str)) = false := by decide)
    (he : starEach (e :: es) X.env = (false, eval e X.env) :: starEach es X.env := by rfl) (hpl : (backTo pos (starEach es X.env)).any (·.1) = false := by rfl) : DE X κ W (.Call (.Name x p₀) (e :: es) [] pos) (gB p (o :: os)) :=
  pe_weak (pe_callB hc hg hm hv ha hn hdb he hpl) fun _ _ _ q => gB_F q
theorem de_callTy {p : List D → Option D} {o : M LV} {os : List (M LV)} (hc : CallR X (.type T) (rB κ p)) (hg : Gl X x) (hm : X.mg x = none) (hv : bootBuiltins x = some (.type T)) (ha : DA X κ W (e :: es) (o :: os)) (hn : x ≠ "__name__" := by decide) (hdb : (x == ("__debug__" : Str)) = false := by decide)
    (he : starEach (e :: es) X.env = (false, eval e X.env) :: starEach es X.env := by rfl) (hpl : (backTo pos (starEach es X.env)).any (·.1) = false := by rfl) : DE X κ W (.Call (.Name x p₀) (e :: es) [] pos) (gB p (o :: os)) :=
  pe_weak (pe_callTy hc hg hm hv ha hn hdb he hpl) fun _ _ _ q => gB_F q
theorem do_callTy {p : List D → Option (List D)} {o : M LV} {os : List (M LV)} (hc : CallR X (.type T) (rBO κ p)) (hg : Gl X x) (hm : X.mg x = none) (hv : bootBuiltins x = some (.type T)) (ha : DA X κ W (e :: es) (o :: os)) (hn : x ≠ "__name__" := by decide) (hdb : (x == ("__debug__" : Str)) = false := by decide)
    (he : starEach (e :: es) X.env = (false, eval e X.env) :: starEach es X.env := by rfl) (hpl : (backTo pos (starEach es X.env)).any (·.1) = false := by rfl) : DO X κ W (.Call (.Name x p₀) (e :: es) [] pos) (M.bind (gB p (o :: os)) fun ds => M.pure (.lst ds)) :=
  pe_weak (pe_callTy hc hg hm hv ha hn hdb he hpl) fun _ _ _ q => gB_O q
theorem do_callB {p : List D → Option (List D)} {o : M LV} {os : List (M LV)} (hc : CallR X (.builtin id) (rBO κ p)) (hg : Gl X x) (hm : X.mg x = none) (hv : bootBuiltins x = some (.builtin id)) (ha : DA X κ W (e :: es) (o :: os)) (hn : x ≠ "__name__" := by decide) (hdb : (x == ("__debug__" : Str)) = false := by decide)
    (he : starEach (e :: es) X.env = (false, eval e X.env) :: starEach es X.env := by rfl) (hpl : (backTo pos (starEach es X.env)).any (·.1) = false := by rfl) : DO X κ W (.Call (.Name x p₀) (e :: es) [] pos) (M.bind (gB p (o :: os)) fun ds => M.pure (.lst ds)) :=
  pe_weak (pe_callB hc hg hm hv ha hn hdb he hpl) fun _ _ _ q => gB_O q
/-- a rule over values -/
theorem callr_of {f : Value} {r : List V → Hp → VK → Prop} {p : List D → Option D} (h : CallR X f r) (i : ∀ F vs H Q ds d, Sub F H → BorL κ F H vs ds → p ds = some d → (∀ v F' H', Grow F H F' H' → Rep κ.K F' v d → Q v H') → r vs H Q) : CallR X f (rB κ p) := by
  intro pins s σ H xs us Q I rx ⟨F, ds, d, sb, b, e, k⟩
  exact h pins s σ H xs us Q I rx (i F xs H Q ds d sb b e k)
theorem callr_ofO {f : Value} {r : List V → Hp → VK → Prop} {p : List D → Option (List D)} (h : CallR X f r) (i : ∀ F vs H Q ds d, Sub F H → BorL κ F H vs ds → p ds = some d → (∀ xs q, H q = none → RepL κ.K F xs d → Q (.ref q) (upd H q (.lst xs))) → r vs H Q) : CallR X f (rBO κ p) := by
  intro pins s σ H xs us Q I rx ⟨F, ds, d, sb, b, e, k⟩
  exact h pins s σ H xs us Q I rx (i F xs H Q ds d sb b e k)
theorem BorL.one {F H : Hp} {vs : List V} {d : D} (b : BorL κ F H vs [d]) : ∃ v, vs = [v] ∧ Bor κ F H v d := by
  cases b with
  | cons h r => cases r; exact ⟨_, rfl, h⟩
theorem BorL.two {F H : Hp} {vs : List V} {d d2 : D} (b : BorL κ F H vs [d, d2]) : ∃ v v2, vs = [v, v2] ∧ Bor κ F H v d ∧ Bor κ F H v2 d2 := by
  cases b with
  | cons h r => cases r with
    | cons h2 r => cases r; exact ⟨_, _, rfl, h, h2⟩
/-- len -/
def pLen : List D → Option D
  | [.lst xs] => some (.int xs.length)
  | [.tup xs] => some (.int xs.length)
  | _ => none
theorem cd_len (hK : κ.K = X.K) : CallR X (.builtin "len") (rB κ pLen) := callr_of call_len_seq fun F vs H Q ds d sb bl e k => by
  unfold pLen at e
  split at e
  · cases e
    obtain ⟨v, rfl, b⟩ := bl.one
    obtain ⟨a, xs, rfl, h, r⟩ := b.lst sb
    exact ⟨a, xs, rfl, .inl (hK ▸ h), by rw [r.length]; exact k _ F H (Grow.refl sb) .int⟩
  · cases e
    obtain ⟨v, rfl, b⟩ := bl.one
    obtain ⟨a, xs, rfl, h, r⟩ := b.tup sb
    exact ⟨a, xs, rfl, .inr (hK ▸ h), by rw [r.length]; exact k _ F H (Grow.refl sb) .int⟩
  · cases e
def pAbs : List D → Option D
  | [.int i] => some (.int (if i < 0 then -i else i))
  | _ => none
theorem cd_abs : CallR X (.builtin "abs") (rB κ pAbs) := callr_of call_abs fun F vs H Q ds d sb bl e k => by
  unfold pAbs at e
  split at e
  · cases e
    obtain ⟨v, rfl, b⟩ := bl.one
    cases b.int
    exact ⟨_, rfl, k _ F H (Grow.refl sb) .int⟩
  · cases e
def pMax2 : List D → Option D
  | [.int i, .int j] => some (.int (if j > i then j else i))
  | _ => none
theorem cd_max2 (hc : X.calm = true) : CallR X (.builtin "max") (rB κ pMax2) := callr_of (call_max2 hc) fun F vs H Q ds d sb bl e k => by
  unfold pMax2 at e
  split at e
  · cases e
    obtain ⟨v, v2, rfl, b, b2⟩ := bl.two
    cases b.int
    cases b2.int
    exact ⟨_, _, rfl, k _ F H (Grow.refl sb) .int⟩
  · cases e
def pMin2 : List D → Option D
  | [.int i, .int j] => some (.int (if j < i then j else i))
  | _ => none
theorem cd_min2 (hc : X.calm = true) : CallR X (.builtin "min") (rB κ pMin2) := callr_of (call_min2 hc) fun F vs H Q ds d sb bl e k => by
  unfold pMin2 at e
  split at e
  · cases e
    obtain ⟨v, v2, rfl, b, b2⟩ := bl.two
    cases b.int
    cases b2.int
    exact ⟨_, _, rfl, k _ F H (Grow.refl sb) .int⟩
  · cases e
def pInt : List D → Option D
  | [.int i] => some (.int i)
  | _ => none
theorem cd_int : CallR X (.type "int") (rB κ pInt) := callr_of call_int1 fun F vs H Q ds d sb bl e k => by
  unfold pInt at e
  split at e
  · cases e
    obtain ⟨v, rfl, b⟩ := bl.one
    cases b.int
    exact .inl ⟨_, rfl, k _ F H (Grow.refl sb) .int⟩
  · cases e
def pTuple : List D → Option D
  | [.lst xs] => some (.tup xs)
  | [.tup xs] => some (.tup xs)
  | _ => none
theorem cd_tuple (hK : κ.K = X.K) : CallR X (.type "tuple") (rB κ pTuple) := callr_of call_tuple_of fun F vs H Q ds d sb bl e k => by
  unfold pTuple at e
  split at e
  · cases e
    obtain ⟨v, rfl, b⟩ := bl.one
    obtain ⟨a, xs, rfl, h, r⟩ := b.lst sb
    refine ⟨a, xs, rfl, .inl ⟨hK ▸ h, fun p hp => ?_⟩⟩
    obtain ⟨g, r⟩ := grow_tup (κ := κ) sb hp r
    exact k _ _ _ g r
  · cases e
    obtain ⟨v, rfl, b⟩ := bl.one
    obtain ⟨a, xs, rfl, h, r⟩ := b.tup sb
    refine ⟨a, xs, rfl, .inr ⟨hK ▸ h, k _ F H (Grow.refl sb) ?_⟩⟩
    rcases b with b | ⟨_, _, _, _, c⟩
    · exact b
    · cases c
  · cases e
def pList : List D → Option (List D)
  | [.lst xs] => some xs
  | [.tup xs] => some xs
  | _ => none
theorem cd_list (hK : κ.K = X.K) : CallR X (.type "list") (rBO κ pList) := callr_ofO call_list_of fun F vs H Q ds d sb bl e k => by
  unfold pList at e
  split at e
  · cases e
    obtain ⟨v, rfl, b⟩ := bl.one
    obtain ⟨a, xs, rfl, h, r⟩ := b.lst sb
    exact ⟨a, xs, rfl, .inl (hK ▸ h), fun l hl => k xs l hl r⟩
  · cases e
    obtain ⟨v, rfl, b⟩ := bl.one
    obtain ⟨a, xs, rfl, h, r⟩ := b.tup sb
    exact ⟨a, xs, rfl, .inr (hK ▸ h), fun l hl => k xs l hl r⟩
  · cases e
def D.bools : List D → Option (List Bool)
  | [] => some []
  | .bl b :: r => (D.bools r).map (b :: ·)
  | _ => none
theorem bools_rep {F : Hp} : ∀ {vs : List V} {ds : List D} {bs : List Bool}, RepL κ.K F vs ds → D.bools ds = some bs → vs = bs.map V.bl
  | _, _, _, .nil, e => by simp [D.bools] at e; subst e; rfl
  | _, d :: ds, _, .cons h r, e => by
    cases d <;> simp [D.bools] at e
    obtain ⟨bs, e1, rfl⟩ := e
    cases h
    rw [bools_rep r e1]; rfl
def pAll : List D → Option D
  | [.lst xs] => (D.bools xs).map fun bs => .bl (bs.all _root_.id)
  | _ => none
def pAny : List D → Option D
  | [.lst xs] => (D.bools xs).map fun bs => .bl (bs.any _root_.id)
  | _ => none
theorem cd_all (hK : κ.K = X.K) (hc : X.calm = true) : CallR X (.builtin "all") (rB κ pAll) := callr_of (cr_all hc) fun F vs H Q ds d sb bl e k => by
  unfold pAll at e
  split at e
  · simp only [Option.map_eq_some_iff] at e
    obtain ⟨bs, e, rfl⟩ := e
    obtain ⟨v, rfl, b⟩ := bl.one
    obtain ⟨a, xs, rfl, h, r⟩ := b.lst sb
    cases bools_rep r e
    exact ⟨a, bs, rfl, hK ▸ h, k _ F H (Grow.refl sb) .bl⟩
  · cases e
theorem cd_any (hK : κ.K = X.K) (hc : X.calm = true) : CallR X (.builtin "any") (rB κ pAny) := callr_of (cr_any hc) fun F vs H Q ds d sb bl e k => by
  unfold pAny at e
  split at e
  · simp only [Option.map_eq_some_iff] at e
    obtain ⟨bs, e, rfl⟩ := e
    obtain ⟨v, rfl, b⟩ := bl.one
    obtain ⟨a, xs, rfl, h, r⟩ := b.lst sb
    cases bools_rep r e
    exact ⟨a, bs, rfl, hK ▸ h, k _ F H (Grow.refl sb) .bl⟩
  · cases e
end
end DL
/-! DL5: truth values, isinstance, sets' sizes, ranges as lists, slices, displays. -/
namespace DL
open PySem L2
section
variable {X : Cx} {κ : Kx} {W : WX} {e a b c : Expr} {es rest : List Expr} {pos : Pos}
/-! ### truth values -/
def rdL (κ : Kx) (W : WX) (g : M Bool) : TE := fun σ H Q => run κ W g σ H fun b _ H' _ _ => Q (.bl b) H'
abbrev DBl (X : Cx) (κ : Kx) (W : WX) (e : Expr) (g : M Bool) : Prop := PE X e (rdL κ W g)
def gV (g : M Bool) : M D := M.bind g fun b => M.pure (.bl b)
def gL (g : M D) : M Bool := M.bind g fun d => match d with
  | .bl b => M.pure b
  | _ => fun _ => .stuck
theorem de_L {g : M Bool} (h : DBl X κ W e g) : DE X κ W e (gV g) := pe_weak h fun σ H Q q => run.bind q fun b F1 H1 w1 ρ1 R1 z => z F1 H1 w1 R1 (Ext.refl _ _ _) (.bl b) .bl
theorem db_E {g : M D} (h : DE X κ W e g) : DBl X κ W e (gL g) := pe_weak h fun σ H Q q => run.bind q fun d F1 H1 w1 ρ1 R1 z => fun v r => by
  cases d <;> try exact z.elim
  cases r
  exact z F1 H1 w1 R1 (Ext.refl _ _ _)
theorem dt_L {g : M Bool} (h : DBl X κ W e g) (he : ∀ whole, isTrue e X.env whole = (do let v ← whole; standAt e.pos; holding [v] (truthy v)) := by intro _; rfl) : DT X κ W e g :=
  pt_weak (pt_val h he) fun σ H Q q => run.imp q fun b F1 H1 w1 ρ1 R1 z => ⟨b, rfl, z⟩
theorem db_cmp {op : CmpOp} {p : D → D → Option Bool} {oa ob : M LV} (ho : OpR X (compareOp op) (r2 κ (pB p))) (ha : DV X κ W a oa) (hb : DV X κ W b ob) (hm : behindInMarks op b = false) : DBl X κ W (.Compare a [op] [b] pos) (p2 p oa ob) :=
  pe_weak (pe_cmpR ho ha hb hm) fun σ H Q q => op2_core q fun x y F H w ρ d1 d2 d R b1 b2 e k => ⟨F, d1, d2, .bl d, R.sub, b1, b2, by unfold pB; rw [e]; rfl, fun v F' H' g r => by
    cases r
    exact k F' H' w (R.grown g) (g.ext _)⟩
def gAnd (ga gb : M Bool) : M Bool := M.bind ga fun c => if c = true then gb else M.pure false
def gOr (ga gb : M Bool) : M Bool := M.bind ga fun c => if c = true then M.pure true else gb
def gNot (ga : M Bool) : M Bool := M.bind ga fun c => M.pure (!c)
def gIf {α : Type} (gc : M Bool) (ga gb : M α) : M α := M.bind gc fun c => if c = true then ga else gb
theorem db_not {g : M Bool} (h : DBl X κ W a g) : DBl X κ W (.UnaryOp .Not a pos) (gNot g) :=
  pe_weak (pe_not h) fun σ H Q q => run.bind q fun b F1 H1 w1 ρ1 R1 z => ⟨b, rfl, z F1 H1 w1 R1 (Ext.refl _ _ _)⟩
theorem db_one {op} {g : M Bool} (h : DBl X κ W a g) : DBl X κ W (.BoolOp op [a] pos) g := pe_one h
theorem db_and {ga gb : M Bool} (ha : DBl X κ W a ga) (hb : DBl X κ W (.BoolOp .And (b :: rest) pos) gb) : DBl X κ W (.BoolOp .And (a :: b :: rest) pos) (gAnd ga gb) :=
  pe_weak (pe_and ha hb) fun σ H Q q => run.bind q fun c F1 H1 w1 ρ1 R1 z => ⟨c, rfl, by
    cases c with
    | true => exact ⟨F1, w1, ρ1, R1, z⟩
    | false => exact z F1 H1 w1 R1 (Ext.refl _ _ _)⟩
theorem db_or {ga gb : M Bool} (ha : DBl X κ W a ga) (hb : DBl X κ W (.BoolOp .Or (b :: rest) pos) gb) : DBl X κ W (.BoolOp .Or (a :: b :: rest) pos) (gOr ga gb) :=
  pe_weak (pe_or ha hb) fun σ H Q q => run.bind q fun c F1 H1 w1 ρ1 R1 z => ⟨c, rfl, by
    cases c with
    | false => exact ⟨F1, w1, ρ1, R1, z⟩
    | true => exact z F1 H1 w1 R1 (Ext.refl _ _ _)⟩
abbrev DW (X : Cx) (κ : Kx) (W : WX) (e : Expr) (g : M Bool) : Prop := PW X e (rdT κ W g)
theorem dt_W {g : M Bool} (h : DW X κ W e g) : DT X κ W e g := h.pt
theorem dw_and1 {g : M Bool} (h : DT X κ W a g) : DW X κ W (.BoolOp .And [a] pos) g := pw_and1 h
theorem dw_or1 {g : M Bool} (h : DT X κ W a g) : DW X κ W (.BoolOp .Or [a] pos) g := pw_or1 h
theorem dw_and {ga gb : M Bool} (ha : DT X κ W a ga) (hb : DW X κ W (.BoolOp .And (b :: rest) pos) gb) : DW X κ W (.BoolOp .And (a :: b :: rest) pos) (gAnd ga gb) :=
  pw_weak (pw_and ha hb) fun σ H Q q => run.bind q fun c F1 H1 w1 ρ1 R1 z => by
    cases c with
    | true => exact ⟨F1, w1, ρ1, R1, z⟩
    | false => exact z F1 H1 w1 R1 (Ext.refl _ _ _)
theorem dw_or {ga gb : M Bool} (ha : DT X κ W a ga) (hb : DW X κ W (.BoolOp .Or (b :: rest) pos) gb) : DW X κ W (.BoolOp .Or (a :: b :: rest) pos) (gOr ga gb) :=
  pw_weak (pw_or ha hb) fun σ H Q q => run.bind q fun c F1 H1 w1 ρ1 R1 z => by
    cases c with
    | false => exact ⟨F1, w1, ρ1, R1, z⟩
    | true => exact z F1 H1 w1 R1 (Ext.refl _ _ _)
theorem dt_not {g : M Bool} (h : DT X κ W a g) : DT X κ W (.UnaryOp .Not a pos) (gNot g) :=
  pt_weak (pt_not h) fun σ H Q q => run.bind q fun b F1 H1 w1 ρ1 R1 z => z F1 H1 w1 R1 (Ext.refl _ _ _)
theorem de_if {gc : M Bool} {ga gb : M D} (hc : DT X κ W c gc) (ha : DE X κ W a ga) (hb : DE X κ W b gb) : DE X κ W (.IfExp c a b pos) (gIf gc ga gb) :=
  pe_weak (pe_ifExp hc ha hb) fun σ H Q q => run.bind q fun c F1 H1 w1 ρ1 R1 z => by
    cases c with
    | true => exact ⟨F1, w1, ρ1, R1, z⟩
    | false => exact ⟨F1, w1, ρ1, R1, z⟩
/-! ### isinstance of a value and a built-in class -/
def D.ty : D → Option String
  | .non => some "NoneType"
  | .bl _ => some "bool"
  | .int _ => some "int"
  | .str _ => some "str"
  | .tup _ => some "tuple"
  | .lst _ => some "list"
  | .dic _ => some "dict"
  | _ => none
/-- isinstance(x, T): by the types' names -/
def isT (T : String) (t : String) : Option Bool := kitB t T
def pIsi (T : String) : D → Option Bool := fun d => d.ty.bind (isT T)
theorem sqL_ty {K : PySem.W.Frag} {H : Hp} {a : Addr} {xs : List V} (h : SqL K H a xs) : TyX K H (.ref a) (.type "list") := by
  rcases h with (h | ⟨o, h⟩) | ⟨o, its, n, h1, h2, _⟩
  · exact .base (.lst h)
  · exact .base (.frz h)
  · exact .kList h1 h2
theorem sqT_ty {K : PySem.W.Frag} {H : Hp} {a : Addr} {xs : List V} (h : SqT K H a xs) : TyX K H (.ref a) (.type "tuple") := by
  rcases h with (h | ⟨o, h⟩) | ⟨o, its, n, h1, h2, _⟩
  · exact .base (.tup h)
  · exact .fTuple h
  · exact .kTuple h1 h2
theorem Bor.tyx {F H : Hp} {v : V} {d : D} {t : String} (sb : Sub F H) (b : Bor κ F H v d) (e : d.ty = some t) : TyX κ.K H v (.type t) := by
  cases d <;> simp [D.ty] at e <;> subst e
  · cases b.non; exact .base .non
  · cases b.bl; exact .base (.bl _)
  · cases b.int; exact .base (.int _)
  · cases b.str; exact .base (.str _)
  · obtain ⟨a, xs, rfl, h, _⟩ := b.tup sb; exact sqT_ty h
  · obtain ⟨a, xs, rfl, h, _⟩ := b.lst sb; exact sqL_ty h
  · rcases b with b | ⟨a, o, rfl, h, c⟩
    · cases b with
      | dicK h r =>
        rcases sb.rd rfl h with h | ⟨o, h⟩
        · exact .base (.dK h)
        · exact .fDict h
    · cases c; exact .base (.dK h)
def gIsi (T : String) (o : M LV) : M Bool := M.bind o fun x => fun ρ => match (x.read ρ).bind (pIsi T) with
  | some b => .ok b ρ
  | none => .stuck
theorem db_isi {T : String} {o : M LV} {t : Str} {p₀ p1 : Pos} (hK : κ.K = X.K) (ha : DV X κ W a o) (hg : Gl X "isinstance") (hm : X.mg "isinstance" = none) (hgt : Gl X t) (hmt : X.mg t = none) (hvt : bootBuiltins t = some (.type T)) (hnt : t ≠ "__name__" := by decide) (hdt : (t == ("__debug__" : Str)) = false := by decide)
    (hs : starEach (a :: [.Name t p1]) X.env = (false, eval a X.env) :: starEach [.Name t p1] X.env := by rfl) (hs2 : starEach (.Name t p1 :: []) X.env = (false, eval (.Name t p1) X.env) :: starEach [] X.env := by rfl)
    (hpl : (backTo pos (starEach [Expr.Name t p1] X.env)).any (·.1) = false := by rfl) : DBl X κ W (.Call (.Name "isinstance" p₀) [a, .Name t p1] [] pos) (gIsi T o) :=
  pe_weak (pe_callB call_isi hg hm (by decide +kernel) (pa_cons ha (pa_cons (pe_bltn (v := .ty T) hgt hmt hvt rfl hnt hdt) pa_nil hs2) hs) (by decide) (by decide) hs hpl) fun σ H Q q => run.bind q fun lx F1 H1 w1 ρ1 R1 z => fun v r => by
    cases e : (lx.read ρ1).bind (pIsi T) with
    | none => simp only [e] at z; exact z.elim
    | some bb =>
      simp only [e] at z
      cases e1 : lx.read ρ1 with
      | none => rw [e1] at e; cases e
      | some d =>
        rw [e1] at e
        have e : (d.ty.bind (isT T)) = some bb := e
        cases e2 : d.ty with
        | none => rw [e2] at e; cases e
        | some ty =>
          rw [e2] at e
          have ty1 := (r.bor R1 e1).tyx R1.sub e2
          exact ⟨v, .ty T, _, _, bb, rfl, .ty T, hK ▸ ty1, kit_ty e, z F1 H1 w1 R1 (Ext.refl _ _ _)⟩
/-! ### len(set(t)), a tuple of ints -/
def D.ints : List D → Option (List Int)
  | [] => some []
  | .int i :: r => (D.ints r).map (i :: ·)
  | _ => none
theorem ints_eq : ∀ {ds : List D} {ns : List Int}, D.ints ds = some ns → ds = ns.map .int
  | [], ns, e => by simp [D.ints] at e; subst e; rfl
  | d :: ds, ns, e => by
    cases d <;> simp [D.ints] at e
    obtain ⟨ms, e1, rfl⟩ := e
    rw [ints_eq e1]; rfl
def pLenSet : D → Option D
  | .tup ds => match D.ints ds with
    | some ns => if ns.length ≤ 4000 then some (.int (ns.eraseDups.length : Nat)) else none
    | none => none
  | _ => none
def gU (p : D → Option D) (o : M LV) : M D := M.bind o fun x => fun ρ => match (x.read ρ).bind p with
  | some d => .ok d ρ
  | none => .stuck
theorem gU_ok {p : D → Option D} {o : M LV} {σ : St} {H : Hp} {P : D → Hp → Hp → Ws → Env → Prop} {r : V → Hp → Prop} (q : run κ W (gU p o) σ H P)
    (i : ∀ v F H w ρ d d', Rs κ F H w σ ρ → Bor κ F H v d → p d = some d' → (∀ F' H' w', Rs κ F' H' w' σ ρ → Ext F H (Tw w) F' H' (Tw w') → P d' F' H' w' ρ) → r v H) : rdV κ W o σ H r := run.bind q fun lx F1 H1 w1 ρ1 R1 z => fun v rv => by
  cases e : (lx.read ρ1).bind p with
  | none => simp only [e] at z; exact z.elim
  | some d' =>
    simp only [e] at z
    cases e1 : lx.read ρ1 with
    | none => rw [e1] at e; cases e
    | some d => rw [e1] at e; exact i v F1 H1 w1 ρ1 d d' R1 (rv.bor R1 e1) e z
theorem nodup_len {α : Type} [DecidableEq α] {l m : List α} (hl : l.Nodup) (hm : m.Nodup) (h : ∀ x, x ∈ l ↔ x ∈ m) : l.length = m.length := ((List.perm_ext_iff_of_nodup hl hm).mpr h).length_eq
theorem eraseDups_nodup (ns : List Int) : ns.eraseDups.Nodup := by
  induction h : ns.length using Nat.strongRecOn generalizing ns with
  | _ n ih =>
    cases ns with
    | nil => simp
    | cons a l =>
      rw [List.eraseDups_cons, List.nodup_cons]
      subst h
      refine ⟨?_, ih (l.filter fun b => !b == a).length ?_ _ rfl⟩
      · simp [List.mem_eraseDups]
      · have := List.length_filter_le (fun b => !b == a) l
        simp only [List.length_cons]
        omega
theorem de_lenSetT {o : M LV} {p₀ p1 q₀ : Pos} (hK : κ.K = X.K) (ha : DV X κ W a o) (hg : Gl X "len") (hm : X.mg "len" = none) (hg2 : Gl X "set") (hm2 : X.mg "set" = none) (hc : X.calm = true := by rfl)
    (na : starEach [a] X.env = (false, eval a X.env) :: starEach [] X.env := by rfl) : DE X κ W (.Call (.Name "len" p₀) [.Call (.Name "set" p1) [a] [] q₀] [] pos) (gU pLenSet o) := by
  refine pe_weak (t := fun σ H Q => rdV κ W o σ H fun x H1 => ∃ (l : Addr) (ns : List Int), x = .ref l ∧ SqT X.K H1 l (ns.map V.int) ∧ ns.length ≤ 4000 ∧ Q (.int (ns.eraseDups.length : Nat)) H1) ⟨fun pins s σ H Q I h => ?_⟩ fun σ H Q q => gU_ok q fun v F H w ρ d d' R b e k => ?_
  · refine PyProof.Rows.Call_ (ld_blt I hg hm boot_len ?_)
    refine PyProof.Rows.callWith_builtin1 (PyProof.Rows.args_cons ?_ rfl) rfl rfl
    refine PyProof.Rows.Call_ (ld_blt I hg2 hm2 PyProof.Rows.boot_set ?_)
    refine PyProof.Rows.callWith_type1 (PyProof.Rows.args_cons (thn (ha.run pins s σ H _ I h) fun v s1 ⟨x, H1, I1, r1, q1⟩ => PyProof.Rows.args_nil ?_) na) na rfl
    obtain ⟨l, ns, rfl, hq, hl, q1⟩ := q1
    cases r1
    obtain ⟨its, r, ⟨ot, e1, e2, n1, e3⟩, hz⟩ := I1.tuple hq
    have hlen : its.toArray.size = ns.length := by rw [List.size_toArray, ← r.length, List.length_map]
    refine call_set_tupI (P := X.prog) (w := X.w) ns (I1.ok.hd hc) ⟨ot, e1, e2, n1, e3⟩ (by simpa using RZ.intsAre_vals r) (by unfold scanBound; omega) fun h' tk c hS hcl hk => ?_
    refine PyProof.Rows.args_nil ?_
    obtain ⟨o, es, ep, t, ho, hex, hd, hge, hnd, hmem, hsb, hf, hn, _⟩ := hS
    have I2 : Inv X pins σ H1 { s1 with heap := h', toks := tk } := I1.kept hk
    have hcn : c = ns.eraseDups.length := by
      have z := nodup_len hnd (eraseDups_nodup ns) fun x => by
        rw [List.mem_eraseDups, ← hmem x]
        simp
      rw [List.length_map, Array.length_toList, hn] at z
      exact z
    exact call_len_set ho hex hd hf (by rw [hn] <;> omega) ⟨.int (ns.eraseDups.length : Nat), H1, I2.tok _, ⟨_, by rw [hn, hcn]⟩, q1⟩
  · cases d <;> try (cases e; done)
    rename_i ds
    have e : (match D.ints ds with | some ns => if ns.length ≤ 4000 then some (D.int (ns.eraseDups.length : Nat)) else none | none => none) = some d' := e
    cases e1 : D.ints ds with
    | none => rw [e1] at e; cases e
    | some ns =>
      rw [e1] at e
      by_cases h4 : ns.length ≤ 4000
      · simp only [if_pos h4] at e
        cases e
        obtain ⟨l, xs, rfl, h, r⟩ := b.tup R.sub
        cases ints_eq e1
        cases r.ints
        exact ⟨l, ns, rfl, hK ▸ h, h4, k F H w R (Ext.refl _ _ _) _ .int⟩
      · simp only [if_neg h4] at e
        cases e
end
end DL
/-! DL6: slices, displays, list(range), calls of defs, statements. -/
namespace DL
open PySem L2
section
variable {X : Cx} {κ : Kx} {W : WX} {e a b c : Expr} {es rest : List Expr} {pos p2 : Pos}
/-! ### slices -/
def gPart (g : M D) : M (Option Int) := M.bind g fun d => match d with
  | .int i => M.pure (some i)
  | _ => fun _ => .stuck
def rdP (κ : Kx) (W : WX) (g : M (Option Int)) : TO := fun σ H Q => run κ W g σ H fun o _ H' _ _ => Q o H'
theorem po_weak {e : Option Expr} {t t' : TO} (h : PO X e t) (i : ∀ σ H Q, t' σ H Q → t σ H Q) : PO X e t' := ⟨fun pins s σ H Q I q => h.run pins s σ H Q I (i σ H Q q)⟩
theorem dp_none : PO X none (rdP κ W (M.pure none)) := po_weak po_none fun σ H Q q => by
  obtain ⟨F, w, ρ, R, q⟩ := q
  exact q F H w R (Ext.refl _ _ _)
theorem dp_some {g : M D} (h : DE X κ W e g) : PO X (some e) (rdP κ W (gPart g)) := po_weak (po_some h) fun σ H Q q => run.bind q fun d F1 H1 w1 ρ1 R1 z => fun v r => by
  cases d <;> try exact z.elim
  cases r
  exact ⟨_, rfl, z F1 H1 w1 R1 (Ext.refl _ _ _)⟩
def cutA {α : Type} (xs : List α) (lo hi : Option Int) : List α := (xs.drop (HT.sIx xs.length 0 lo)).take (HT.sIx xs.length xs.length hi - HT.sIx xs.length 0 lo)
theorem cut_rep {F : Hp} {xs : List V} {ds : List D} (lo hi : Option Int) (r : RepL κ.K F xs ds) : RepL κ.K F (cutV xs lo hi) (cutA ds lo hi) := by
  unfold cutV cutA
  rw [r.length]
  exact (r.drop _).take _
def dSl : D → Option Int → Option Int → Option D
  | .tup ds, lo, hi => some (.tup (cutA ds lo hi))
  | .lst ds, lo, hi => some (.lst (cutA ds lo hi))
  | _, _, _ => none
def gSl (o : M LV) (lo hi : M (Option Int)) : M D := M.bind o fun x => M.bind lo fun l => M.bind hi fun u => fun ρ => match x.read ρ with
  | some d => M.lift (dSl d l u) ρ
  | none => .stuck
theorem de_sl {o : M LV} {lo hi : Option Expr} {gl gh : M (Option Int)} (hK : κ.K = X.K) (ha : DV X κ W a o) (hl : PO X lo (rdP κ W gl)) (hh : PO X hi (rdP κ W gh)) : DE X κ W (.Subscript a (.Slice lo hi none p2) pos) (gSl o gl gh) :=
  pe_weak (pe_slice (sl_list.or sl_tupA) ha hl hh) fun σ H Q q => run.bind q fun lx F1 H1 w1 ρ1 R1 z => fun v rv => by
    refine ⟨F1, w1, ρ1, R1, runAt.bind' z fun l F2 H2 w2 ρ2 R2 E2 z2 => ?_⟩
    refine ⟨F2, w2, ρ2, R2, runAt.bind' z2 fun u F3 H3 w3 ρ3 R3 E3 z3 => ?_⟩
    cases e1 : lx.read ρ3 with
    | none => rw [e1] at z3; exact z3.elim
    | some d =>
      rw [e1] at z3
      have b := ((rv.leP E2.le).leP E3.le).bor R3 e1
      cases d <;> try exact z3.elim
      · obtain ⟨p, xs, rfl, h, r⟩ := b.tup R3.sub
        refine .inr ⟨p, xs, rfl, hK ▸ h, fun hw => ?_, fun _ p hp => ?_⟩
        · refine z3 F3 H3 w3 R3 (Ext.refl _ _ _) _ ?_
          rename_i ds
          have e : cutA ds l u = ds := by
            unfold cutA
            rw [← r.length, hw.1, hw.2]
            simp [r.length]
          rw [e]
          rcases b with b | ⟨_, _, _, _, c⟩
          · exact b
          · cases c
        · obtain ⟨g, r⟩ := grow_tup (κ := κ) R3.sub hp (cut_rep (κ := κ) l u r)
          exact z3 _ _ w3 (R3.grown g) (g.ext _) _ r
      · obtain ⟨p, xs, rfl, h, r⟩ := b.lst R3.sub
        refine .inl ⟨p, xs, rfl, hK ▸ h, fun p hp => ?_⟩
        have g := Grow.laid (o := .lst (cutV xs l u)) R3.sub hp
        exact z3 _ _ w3 (R3.grown g) (g.ext _) _ (.lst (.inl (.inl upd_same)) ((cut_rep (κ := κ) l u r).le g.le))
/-! ### displays -/
def atAll : List LV → Option (List D)
  | [] => some []
  | .at_ d :: r => (atAll r).map (d :: ·)
  | _ => none
theorem atAll_rep {F : Hp} {σ : St} : ∀ {xs : List LV} {vs : List V} {ds : List D}, LvsOk κ F σ vs xs → atAll xs = some ds → RepL κ.K F vs ds
  | _, _, _, .nil, e => by simp [atAll] at e; subst e; exact .nil
  | x :: xs, _, _, .cons h r, e => by
    cases x with
    | pl i => simp [atAll] at e
    | at_ d =>
      simp only [atAll, Option.map_eq_some_iff] at e
      obtain ⟨ds, e1, rfl⟩ := e
      exact .cons h (atAll_rep r e1)
/-- the operands' values, frozen -/
def gArgs (os : List (M LV)) : M (List D) := M.bind (gOps os) fun xs => M.lift (atAll xs)
theorem gArgs_ok {os : List (M LV)} {σ : St} {H : Hp} {P : List D → Hp → Hp → Ws → Env → Prop} (q : run κ W (gArgs os) σ H P) : rdA κ W os σ H fun vs H' => ∃ F w ρ ds, Rs κ F H' w σ ρ ∧ RepL κ.K F vs ds ∧ P ds F H' w ρ := run.bind q fun xs F1 H1 w1 ρ1 R1 z => fun vs rs => by
  unfold M.lift at z
  cases e : atAll xs with
  | none => simp only [e] at z; exact z.elim
  | some ds => simp only [e] at z; exact ⟨F1, w1, ρ1, ds, R1, atAll_rep rs e, z F1 H1 w1 R1 (Ext.refl _ _ _)⟩
def szL (ds : List D) : Option (List D) := if szB ds.length = true then some ds else none
def gDisp (os : List (M LV)) : M (List D) := M.bind (gArgs os) fun ds => M.lift (szL ds)
theorem gDisp_ok {os : List (M LV)} {σ : St} {H : Hp} {P : List D → Hp → Hp → Ws → Env → Prop} (q : run κ W (gDisp os) σ H P) : rdA κ W os σ H fun vs H' => ∃ F w ρ ds, Rs κ F H' w σ ρ ∧ RepL κ.K F vs ds ∧ vs.length ≤ sizeLine ∧ P ds F H' w ρ := by
  have z := run.bind (P' := fun ds F H' w ρ => szB ds.length = true ∧ P ds F H' w ρ) q fun ds F1 H1 w1 ρ1 R1 z => by
    unfold M.lift szL at z
    by_cases h : szB ds.length = true
    · rw [if_pos h] at z
      exact ⟨h, z F1 H1 w1 R1 (Ext.refl _ _ _)⟩
    · rw [if_neg h] at z
      exact z.elim
  refine run.imp (gArgs_ok z) fun xs F' H' w' ρ' R' k vs rs => ?_
  obtain ⟨F, w, ρ, ds, R, r, h, p⟩ := k vs rs
  exact ⟨F, w, ρ, ds, R, r, by rw [r.length]; exact of_decide_eq_true h, p⟩
theorem de_tup {os : List (M LV)} {x1} (h : DA X κ W es os) : DE X κ W (.Tuple es x1 pos) (M.bind (gDisp os) fun ds => M.pure (.tup ds)) :=
  pe_weak (pe_tup h) fun σ H Q q => by
    have z := gDisp_ok (P := fun ds F' H' w' ρ' => ∀ v, ∀ F2 H2, Grow F' H' F2 H2 → Rep κ.K F2 v (.tup ds) → Q v H2) (run.bind q fun ds F1 H1 w1 ρ1 R1 z => fun v F2 H2 g r => z F2 H2 w1 (R1.grown g) (g.ext _) v r)
    refine run.imp z fun xs F' H' w' ρ' R' k vs rs => ?_
    obtain ⟨F, w, ρ, ds, R, r, h, p⟩ := k vs rs
    refine ⟨h, fun q hq => ?_⟩
    obtain ⟨g, r⟩ := grow_tup (κ := κ) R.sub hq r
    exact p _ _ _ g r
theorem do_lst {os : List (M LV)} (h : DA X κ W es os) : DO X κ W (.List es pos) (M.bind (gDisp os) fun ds => M.pure (.lst ds)) :=
  pe_weak (pe_lst h) fun σ H Q q => by
    have z := gDisp_ok (P := fun ds F' H' w' ρ' => ∀ xs q, H' q = none → RepL κ.K F' xs ds → Q (.ref q) (upd H' q (.lst xs))) (run.bind q fun ds F1 H1 w1 ρ1 R1 z => fun xs q hq r => new_lst R1 hq r (z F1 H1 w1 R1 (Ext.refl _ _ _)))
    refine run.imp z fun xs F' H' w' ρ' R' k vs rs => ?_
    obtain ⟨F, w, ρ, ds, R, r, h, p⟩ := k vs rs
    exact ⟨h, fun q hq => p vs q hq r⟩
/-! ### list(range(n)), tuple(range(n)) -/
def rgD (a b : Int) : List D := (List.range (b - a).toNat).map fun i => .int (a + (i : Nat))
theorem rg_rep {F : Hp} (a b : Int) : RepL κ.K F (rgV a b) (rgD a b) := by
  unfold rgV rgD
  generalize List.range (b - a).toNat = l
  induction l with
  | nil => exact .nil
  | cons i l ih => exact .cons .int ih
def rgOk (a b : Int) : Bool := decide (-(2 ^ 62) ≤ a ∧ a < 2 ^ 62 ∧ -(2 ^ 62) ≤ b ∧ b < 2 ^ 62 ∧ (b - a).toNat ≤ 2 ^ 24)
theorem rgOk_ok {a b : Int} (h : rgOk a b = true) : RgOk a b := (of_decide_eq_true h : -(2 ^ 62) ≤ a ∧ a < 2 ^ 62 ∧ -(2 ^ 62) ≤ b ∧ b < 2 ^ 62 ∧ (b - a).toNat ≤ 2 ^ 24)
def dRg1 : D → Option (List D)
  | .int n => if rgOk 0 n = true then some (rgD 0 n) else none
  | _ => none
def gU' {α : Type} (p : D → Option α) (g : M D) : M α := M.bind g fun d => M.lift (p d)
theorem gU'_ok {α : Type} {p : D → Option α} {g : M D} {σ : St} {H : Hp} {P : α → Hp → Hp → Ws → Env → Prop} (q : run κ W (gU' p g) σ H P) : run κ W g σ H fun d F H w ρ => ∃ a, p d = some a ∧ Rs κ F H w σ ρ ∧ P a F H w ρ := run.bind q fun d F1 H1 w1 ρ1 R1 z => by
  unfold M.lift at z
  cases e : p d with
  | none => rw [e] at z; exact z.elim
  | some x => rw [e] at z; exact ⟨x, rfl, R1, z F1 H1 w1 R1 (Ext.refl _ _ _)⟩
theorem rg1_core {g : M D} {σ : St} {H : Hp} {P : List D → Hp → Hp → Ws → Env → Prop} {k : Int → Int → Hp → Prop} (q : run κ W (gU' dRg1 g) σ H P) (i : ∀ n F H w ρ, Rs κ F H w σ ρ → RgOk 0 n → P (rgD 0 n) F H w ρ → k 0 n H) : tRg1 (rdF κ W g) σ H k := by
  refine run.imp (gU'_ok q) fun d F1 H1 w1 ρ1 R1 ⟨ds, e, _, p⟩ v r => ?_
  cases d <;> try (cases e; done)
  rename_i n _
  have e : (if rgOk 0 n = true then some (rgD 0 n) else none) = some ds := e
  by_cases h : rgOk 0 n = true
  · rw [if_pos h] at e
    cases e
    cases r
    exact ⟨n, rfl, i n F1 H1 w1 ρ1 R1 (rgOk_ok h) p⟩
  · rw [if_neg h] at e; cases e
theorem do_listRg {g : M D} {p₀ p1 q₀ : Pos} (hc : X.calm = true) (hg : Gl X "list") (hm : X.mg "list" = none) (hg2 : Gl X "range") (hm2 : X.mg "range" = none) (h : DE X κ W a g)
    (na : starEach [a] X.env = (false, eval a X.env) :: starEach [] X.env := by rfl) (na2 : starEach [Expr.Call (.Name "range" p1) [a] [] q₀] X.env = (false, eval (Expr.Call (.Name "range" p1) [a] [] q₀) X.env) :: starEach [] X.env := by rfl) :
    DO X κ W (.Call (.Name "list" p₀) [.Call (.Name "range" p1) [a] [] q₀] [] pos) (M.bind (gU' dRg1 g) fun ds => M.pure (.lst ds)) :=
  pe_weak (pe_listRg hc hg hm (prg_1 hg2 hm2 h na) na2) fun σ H Q q =>
    rg1_core (P := fun ds F' H' w' ρ' => ∀ xs q, H' q = none → RepL κ.K F' xs ds → Q (.ref q) (upd H' q (.lst xs))) (run.bind q fun ds F1 H1 w1 ρ1 R1 z => fun xs q hq r => new_lst R1 hq r (z F1 H1 w1 R1 (Ext.refl _ _ _)))
      fun n F H w ρ R ok p => ⟨ok, fun q hq => p _ q hq (rg_rep 0 n)⟩
theorem de_tupRg {g : M D} {p₀ p1 q₀ : Pos} (hc : X.calm = true) (hg : Gl X "tuple") (hm : X.mg "tuple" = none) (hg2 : Gl X "range") (hm2 : X.mg "range" = none) (h : DE X κ W a g)
    (na : starEach [a] X.env = (false, eval a X.env) :: starEach [] X.env := by rfl) (na2 : starEach [Expr.Call (.Name "range" p1) [a] [] q₀] X.env = (false, eval (Expr.Call (.Name "range" p1) [a] [] q₀) X.env) :: starEach [] X.env := by rfl) :
    DE X κ W (.Call (.Name "tuple" p₀) [.Call (.Name "range" p1) [a] [] q₀] [] pos) (M.bind (gU' dRg1 g) fun ds => M.pure (.tup ds)) :=
  pe_weak (pe_tupRg hc hg hm (prg_1 hg2 hm2 h na) na2) fun σ H Q q =>
    rg1_core (P := fun ds F' H' w' ρ' => ∀ v, ∀ F2 H2, Grow F' H' F2 H2 → Rep κ.K F2 v (.tup ds) → Q v H2) (run.bind q fun ds F1 H1 w1 ρ1 R1 z => fun v F2 H2 g r => z F2 H2 w1 (R1.grown g) (g.ext _) v r)
      fun n F H w ρ R ok p => ⟨ok, fun q hq => by
        obtain ⟨g, r⟩ := grow_tup (κ := κ) R.sub hq (rg_rep (κ := κ) 0 n)
        exact p _ _ _ g r⟩
/-! ### what a def does, as data -/
inductive FR (α : Type) where
  | ok (a : α) | err (x : Exn) | stuck
/-- a def that changes nothing that it was handed -/
def SpF (K : PySem.W.Frag) (m : List D → FR D) : Sp := fun vs H Q E => ∃ F ds, Sub F H ∧ RepL K F vs ds ∧ match m ds with
  | .ok d => ∀ v F' H', Grow F H F' H' → Rep K F' v d → Q v H'
  | .err x => ∀ c dd F' H', Grow F H F' H' → ExAt ⟨K, []⟩ F' H' x c dd → E c dd H'
  | .stuck => False
/-- .. and hands back a new container -/
def SpO (K : PySem.W.Frag) (m : List D → FR D) : Sp := fun vs H Q E => ∃ F ds, Sub F H ∧ RepL K F vs ds ∧ match m ds with
  | .ok d => ∀ v F' H' wv, Grow F H F' H' → OpAt K F' H' wv v d → (∀ b, wv b → F' b = none ∧ H b = none ∧ ∃ o, H' b = some o) → Q v H'
  | .err x => ∀ c dd F' H', Grow F H F' H' → ExAt ⟨K, []⟩ F' H' x c dd → E c dd H'
  | .stuck => False
/-- a def that changes its first argument, an open container -/
def SpI (K : PySem.W.Frag) (m : D → List D → FR (D × D)) : Sp := fun vs H Q E => ∃ F w v0 vs' c ds, vs = v0 :: vs' ∧ Sub F H ∧ OpAt K F H w v0 c ∧ (∀ b, w b → F b = none ∧ ∃ o, H b = some o) ∧ RepL K F vs' ds ∧ match m c ds with
  | .ok (d, c') => ∀ v F' H' w', Ext F H w F' H' w' → Sub F' H' → OpAt K F' H' w' v0 c' → (∀ b, w' b → F' b = none ∧ ∃ o, H' b = some o) → Rep K F' v d → Q v H'
  | .err x => False
  | .stuck => False
/-- a def of the module, as callers know it -/
def Has (P : Program) (w : World) (K : PySem.W.Frag) (mg : Str → Option Value) (base : Heap) (x : Str) (k : Nat) (ps : List Str) (sp : Sp) : Prop :=
  ∃ f fd, mg x = some (.ref f) ∧ PySem.W.keepIn K (.ref f) = true ∧ Binds K fd ps [] ∧ FnOk P w K mg base (L2.CX P w) k f fd ps sp
def gCall (m : List D → FR D) (os : List (M LV)) : M D := M.bind (gArgs os) fun ds ρ => match m ds with
  | .ok d => .ok d ρ
  | .err x => .err x ρ
  | .stuck => .stuck
theorem Rs.exat {κ : Kx} {F H : Hp} {x : Exn} {c : Value} {dd : Option Addr} (h : ExAt ⟨κ.K, []⟩ F H x c dd) : ExAt κ F H x c dd := h
theorem de_call {x : Str} {k : Nat} {ps : List Str} {m : List D → FR D} {o : M LV} {os : List (M LV)} {p₀ : Pos} (hK : κ.K = X.K) (G : Has X.prog X.w X.K X.mg X.base x k ps (SpF X.K m)) (hr : Room k X.A) (tk : Takes X W) (hg : Gl X x)
    (ha : DA X κ W (e :: es) (o :: os)) (hdb : (x == ("__debug__" : Str)) = false := by decide) (he : starEach (e :: es) X.env = (false, eval e X.env) :: starEach es X.env := by rfl) (hpl : (backTo pos (starEach es X.env)).any (·.1) = false := by rfl) :
    DE X κ W (.Call (.Name x p₀) (e :: es) [] pos) (gCall m (o :: os)) := by
  obtain ⟨f, fd, h1, h2, h3, h4⟩ := G
  refine pe_weak (pe_callSD h4 hr hg h1 h2 h3 .nil (fun σ => passAt tk σ) ha hdb he hpl) fun σ H Q q => ?_
  have z := gArgs_ok (P := fun ds F1 H1 w1 ρ1 => match m ds with
    | .ok d => ∀ v F' H', Grow F1 H1 F' H' → Rep κ.K F' v d → Q v H'
    | .err x => ∀ c dd F' H', Grow F1 H1 F' H' → ExAt κ F' H' x c dd → W c dd σ H'
    | .stuck => False) (run.bind q fun ds F1 H1 w1 ρ1 R1 z => by
      cases e : m ds with
      | ok d => simp only [e] at z ⊢; exact fun v F' H' g r => z F' H' w1 (R1.grown g) (g.ext _) v r
      | err x => simp only [e] at z ⊢; exact fun c dd F' H' g r => z c dd F' H' w1 (R1.grown g) (g.ext _) r
      | stuck => simp only [e] at z ⊢; exact z)
  refine run.imp z fun xs F' H' w' ρ' R' kk vs rs => ?_
  obtain ⟨F, w, ρ, ds, R, r, p⟩ := kk vs rs
  refine ⟨F, ds, R.sub, by rw [List.append_nil]; exact hK ▸ r, ?_⟩
  cases e : m ds with
  | ok d => simp only [e] at p ⊢; exact fun v F' H' g r => p v F' H' g (hK ▸ r)
  | err x => simp only [e] at p ⊢; exact fun c dd F' H' g r => p c dd F' H' g (by obtain ⟨K, pn⟩ := κ; cases hK; assumption)
  | stuck => simp only [e] at p
theorem do_call {x : Str} {k : Nat} {ps : List Str} {m : List D → FR D} {o : M LV} {os : List (M LV)} {p₀ : Pos} (hK : κ.K = X.K) (G : Has X.prog X.w X.K X.mg X.base x k ps (SpO X.K m)) (hr : Room k X.A) (tk : Takes X W) (hg : Gl X x)
    (ha : DA X κ W (e :: es) (o :: os)) (hdb : (x == ("__debug__" : Str)) = false := by decide) (he : starEach (e :: es) X.env = (false, eval e X.env) :: starEach es X.env := by rfl) (hpl : (backTo pos (starEach es X.env)).any (·.1) = false := by rfl) :
    DO X κ W (.Call (.Name x p₀) (e :: es) [] pos) (gCall m (o :: os)) := by
  obtain ⟨f, fd, h1, h2, h3, h4⟩ := G
  refine pe_weak (pe_callSD h4 hr hg h1 h2 h3 .nil (fun σ => passAt tk σ) ha hdb he hpl) fun σ H Q q => ?_
  have z := gArgs_ok (P := fun ds F1 H1 w1 ρ1 => match m ds with
    | .ok d => ∀ v F' H' wv, Grow F1 H1 F' H' → OpAt κ.K F' H' wv v d → (∀ b, wv b → F' b = none ∧ H1 b = none ∧ ∃ o, H' b = some o) → Q v H'
    | .err x => ∀ c dd F' H', Grow F1 H1 F' H' → ExAt κ F' H' x c dd → W c dd σ H'
    | .stuck => False) (run.bind q fun ds F1 H1 w1 ρ1 R1 z => by
      cases e : m ds with
      | ok d => simp only [e] at z ⊢; exact fun v F' H' wv g r f => z F1 H1 w1 R1 (Ext.refl _ _ _) v F' H' wv g r f
      | err x => simp only [e] at z ⊢; exact fun c dd F' H' g r => z c dd F' H' w1 (R1.grown g) (g.ext _) r
      | stuck => simp only [e] at z ⊢; exact z)
  refine run.imp z fun xs F' H' w' ρ' R' kk vs rs => ?_
  obtain ⟨F, w, ρ, ds, R, r, p⟩ := kk vs rs
  refine ⟨F, ds, R.sub, by rw [List.append_nil]; exact hK ▸ r, ?_⟩
  cases e : m ds with
  | ok d => simp only [e] at p ⊢; exact fun v F' H' wv g r => p v F' H' wv g (hK ▸ r)
  | err x => simp only [e] at p ⊢; exact fun c dd F' H' g r => p c dd F' H' g (by obtain ⟨K, pn⟩ := κ; cases hK; assumption)
  | stuck => simp only [e] at p
end
end DL
/-! DL7: containers changed, statements. -/
namespace DL
open PySem L2
section
variable {X : Cx} {κ : Kx} {W : WX} {e a b c : Expr} {es rest : List Expr} {pos p2 : Pos}
/-! ### an open container is changed -/
theorem Rs.mut {F H : Hp} {w : Ws} {σ : St} {ρ : Env} {i : Nat} {a₀ : Addr} {o' : HO} {d' : D} (R : Rs κ F H w σ ρ) (wa : w i a₀) (hs : σ[i]? = some (some (.ref a₀))) (hi : i < ρ.length) (c' : Cont κ.K F o' d') : Rs κ F (upd H a₀ o') w σ (ρ.set i (.op d')) := by
  have fa := (R.free i a₀ wa).1
  refine ⟨fun q u h => ?_, R.pin, by simp [R.len], fun j s hj => ?_, R.dis, fun j q h => ?_⟩
  · have ne : q ≠ a₀ := ne_of_none h fa
    rw [upd_ne ne]
    exact R.sub q u h
  · by_cases ej : j = i
    · subst ej
      rw [List.getElem?_set_self hi] at hj
      cases hj
      rw [hs]
      exact ⟨a₀, o', rfl, wa, upd_same, c'⟩
    · rw [List.getElem?_set_ne (Ne.symm ej)] at hj
      have z := R.slot j s hj
      exact z.move (LeF.refl F) fun b o hb ho => by
        rw [upd_ne]
        · exact ho
        · intro q
          subst q
          exact ej (R.dis j i b hb wa)
  · refine ⟨(R.free j q h).1, ?_⟩
    obtain ⟨u, hu⟩ := (R.free j q h).2
    by_cases e : q = a₀
    · subst e; exact ⟨_, upd_same⟩
    · exact ⟨u, by rw [upd_ne e]; exact hu⟩
theorem Ext.mut {F H : Hp} {w : Ws} {i : Nat} {a₀ : Addr} {o' : HO} (wa : w i a₀) : Ext F H (Tw w) F (upd H a₀ o') (Tw w) :=
  ⟨LeF.refl F, fun b o h n => by
    have ne : b ≠ a₀ := fun q => n (q ▸ ⟨i, wa⟩)
    rw [upd_ne ne]; exact h, fun b o h => .inl h, fun b h => .inr h⟩
/-- a method that changes its container -/
def rM (κ : Kx) (p : D → List D → Option (D × D)) : V → List V → Hp → VK → Prop := fun x vs H Q => ∃ F a o c ds d c', x = .ref a ∧ H a = some o ∧ Cont κ.K F o c ∧ Sub F H ∧ RepL κ.K F vs ds ∧ p c ds = some (d, c') ∧ ∀ v o', Cont κ.K F o' c' → Rep κ.K F v d → Q v (upd H a o')
def gMut (i : Nat) (p : D → List D → Option (D × D)) (os : List (M LV)) : M D := M.bind (gArgs os) fun ds ρ => match ρ[i]? with
  | some (.op c) => match p c ds with
    | some (d, c') => .ok d (ρ.set i (.op c'))
    | none => .stuck
  | _ => .stuck
/-- the container's own kind -/
def isLst : D → Bool
  | .lst _ => true
  | _ => false
theorem gMut_core {i : Nat} {p : D → List D → Option (D × D)} {os : List (M LV)} {σ : St} {H : Hp} {Q : VK} (q : rdF κ W (gMut i p os) σ H Q) : rdA κ W os σ H fun vs H1 => ∃ a, σ[i]? = some (some (.ref a)) ∧ rM κ p (.ref a) vs H1 Q := by
  have z := gArgs_ok (P := fun ds F1 H1 w1 ρ1 => ∃ a o c d c', σ[i]? = some (some (.ref a)) ∧ H1 a = some o ∧ Cont κ.K F1 o c ∧ p c ds = some (d, c') ∧ ∀ v o', Cont κ.K F1 o' c' → Rep κ.K F1 v d → Q v (upd H1 a o')) (run.bind q fun ds F1 H1 w1 ρ1 R1 z => by
    cases e1 : ρ1[i]? with
    | none => simp only [e1] at z; exact z.elim
    | some s =>
      cases s with
      | un => simp only [e1] at z; exact z.elim
      | fz d => simp only [e1] at z; exact z.elim
      | on t => simp only [e1] at z; exact z.elim
      | op c =>
        simp only [e1] at z
        obtain ⟨a, o, h1, h2, h3, h4⟩ := R1.op e1
        cases e2 : p c ds with
        | none => simp only [e2] at z; exact z.elim
        | some dc =>
          obtain ⟨d, c'⟩ := dc
          simp only [e2] at z
          exact ⟨a, o, c, d, c', h1, h3, h4, e2, fun v o' k r => z F1 (upd H1 a o') w1 (R1.mut h2 h1 (List.getElem?_eq_some_iff.mp e1).1 k) (Ext.mut h2) v r⟩)
  refine run.imp z fun xs F' H' w' ρ' R' kk vs rs => ?_
  obtain ⟨F, w, ρ, ds, R, r, a, o, c, d, c', h1, h2, h3, h4, h5⟩ := kk vs rs
  exact ⟨a, h1, F, a, o, c, ds, d, c', rfl, h2, h3, R.sub, r, h4, h5⟩
/-- the first operand's slot, ahead -/
theorem run.at0 {α : Type} {g : M α} {σ : St} {H : Hp} {P : α → Hp → Hp → Ws → Env → Prop} {i : Nat} (q : run κ W g σ H P) (h : ∀ ρ a ρ', g ρ = .ok a ρ' → ∃ xs, ρ[i]? = some (.op (.lst xs))) (hs : ∀ ρ x ρ', g ρ = .err x ρ' → ∃ xs, ρ[i]? = some (.op (.lst xs))) :
    ∃ a vs, σ[i]? = some (some (.ref a)) ∧ H a = some (.lst vs) := by
  obtain ⟨F, w, ρ, R, q⟩ := q
  have key : ∀ xs, ρ[i]? = some (.op (.lst xs)) → ∃ a vs, σ[i]? = some (some (.ref a)) ∧ H a = some (.lst vs) := fun xs e => by
    obtain ⟨a, o, h1, h2, h3, h4⟩ := R.op e
    cases h4 with
    | lst r => exact ⟨a, _, h1, h3⟩
  cases e : g ρ with
  | stuck => rw [e] at q; exact q.elim
  | err x ρ' => obtain ⟨xs, e1⟩ := hs ρ x ρ' e; exact key xs e1
  | ok a ρ' => obtain ⟨xs, e1⟩ := h ρ a ρ' e; exact key xs e1
/-- a list's method: asked first that a list stands there -/
def gMutL (i : Nat) (p : D → List D → Option (D × D)) (os : List (M LV)) : M D := fun ρ => match ρ[i]? with
  | some (.op (.lst _)) => gMut i p os ρ
  | _ => .stuck
theorem gMutL_at {i : Nat} {p : D → List D → Option (D × D)} {os : List (M LV)} {σ : St} {H : Hp} {Q : VK} (q : rdF κ W (gMutL i p os) σ H Q) : (∃ a vs, σ[i]? = some (some (.ref a)) ∧ H a = some (.lst vs)) ∧ rdF κ W (gMut i p os) σ H Q := by
  obtain ⟨F, w, ρ, R, q⟩ := q
  unfold gMutL at q
  split at q
  · rename_i xs e
    obtain ⟨a, o, h1, h2, h3, h4⟩ := R.op e
    cases h4 with
    | lst r => exact ⟨⟨a, _, h1, h3⟩, F, w, ρ, R, q⟩
  · exact q.elim
theorem de_mutL {i : Nat} {p : D → List D → Option (D × D)} {o : M LV} {os : List (M LV)} {name : Str} {apos cpos : Pos} {id : String} (hK : κ.K = X.K) (slot : Slot "list" name id) (hty : typeOf (.builtin id) = pure (.type "method_descriptor")) (hm : MtR X id (rM κ p)) (ho : PE X a (tVar i)) (ha : DA X κ W (e :: es) (o :: os))
    (hbase : attributeBase a name X.env (eval a X.env) = eval a X.env := by rfl)
    (hfew : ((backTo cpos (starEach (e :: es) X.env)).all (fun x => !x.1) && (backToKw cpos (keywordEach [] X.env)).all (fun x => x.1.isSome)
      && decide ((e :: es).length + ([] : List Keyword).length + (if ([] : List Keyword).isEmpty then 0 else 1) < 30)) = true := by rfl)
    (hline : (apos.endLine == cpos.line) = true := by rfl) (hs : starEach (e :: es) X.env = (false, eval e X.env) :: starEach es X.env := by rfl) (hplain : (backTo cpos (starEach es X.env)).any (·.1) = false := by rfl) :
    DE X κ W (.Call (.Attribute a name apos) (e :: es) [] cpos) (gMutL i p (o :: os)) :=
  pe_weak (pe_bm PySem.F.plainAttrs_list slot hty hm ho ha hbase hfew hline hs hplain) fun σ H Q q => by
    obtain ⟨⟨a1, vs, h1, h2⟩, q⟩ := gMutL_at q
    refine ⟨.ref a1, h1, .inl ⟨rfl, vs, .inl (.inl h2)⟩, run.imp (gMut_core q) fun xs F' H' w' ρ' R' kk us rs => ?_⟩
    obtain ⟨a2, h3, h4⟩ := kk us rs
    rw [h1] at h3
    cases h3
    exact h4
theorem de_mutL0 {i : Nat} {p : D → List D → Option (D × D)} {name : Str} {apos cpos : Pos} {id : String} (hK : κ.K = X.K) (slot : Slot "list" name id) (hty : typeOf (.builtin id) = pure (.type "method_descriptor")) (hm : MtR X id (rM κ p)) (ho : PE X a (tVar i))
    (hbase : attributeBase a name X.env (eval a X.env) = eval a X.env := by rfl) (hline : (apos.endLine == cpos.line) = true := by rfl) :
    DE X κ W (.Call (.Attribute a name apos) [] [] cpos) (gMutL i p []) :=
  pe_weak (pe_bm0 PySem.F.plainAttrs_list slot hty hm ho hbase hline) fun σ H Q q => by
    obtain ⟨⟨a1, vs, h1, h2⟩, q⟩ := gMutL_at q
    refine ⟨.ref a1, h1, .inl ⟨rfl, vs, .inl (.inl h2)⟩, ?_⟩
    obtain ⟨F, w, ρ, R, z⟩ := gMut_core q
    obtain ⟨a2, h3, h4⟩ := z F H w R (Ext.refl _ _ _) [] .nil
    rw [h1] at h3
    cases h3
    exact h4
/-- append -/
def mAppend : D → List D → Option (D × D)
  | .lst xs, [d] => if xs.length < sizeLine then some (.non, .lst (xs ++ [d])) else none
  | _, _ => none
theorem RepL.one {F : Hp} {vs : List V} {d : D} (b : RepL κ.K F vs [d]) : ∃ v, vs = [v] ∧ Rep κ.K F v d := by
  cases b with
  | cons h r => cases r; exact ⟨_, rfl, h⟩
theorem md_append : MtR X "list.append" (rM κ mAppend) := by
  intro pins s σ H x vs v us Q I rx rv ⟨F, a, o, c, ds, d, c', ex, h1, h2, sb, r, e, k⟩
  unfold mAppend at e
  split at e
  · rename_i xs d₀
    split at e
    · rename_i hz
      cases e
      cases h2 with
      | lst rl =>
        obtain ⟨v, rfl, rv'⟩ := r.one
        exact mt_append pins s σ H x _ _ us Q I rx rv ⟨a, _, v, ex, rfl, h1, by rw [rl.length]; exact hz, k _ _ (.lst (rl.append (.cons rv' .nil))) .non⟩
    · cases e
  · cases e
def mPop : D → List D → Option (D × D)
  | .lst xs, [] => match xs[xs.length - 1]? with
    | some d => some (d, .lst xs.dropLast)
    | none => none
  | _, _ => none
theorem RepL.dropLast {F : Hp} : ∀ {vs : List V} {ds : List D}, RepL κ.K F vs ds → RepL κ.K F vs.dropLast ds.dropLast
  | _, _, .nil => .nil
  | _, _, .cons _ .nil => .nil
  | _, _, .cons h (.cons h2 r) => .cons h (RepL.dropLast (.cons h2 r))
theorem md_pop : MtR X "list.pop" (rM κ mPop) := by
  intro pins s σ H x vs v us Q I rx rv ⟨F, a, o, c, ds, d, c', ex, h1, h2, sb, r, e, k⟩
  unfold mPop at e
  split at e
  · split at e
    · rename_i xs d₀ he
      cases e
      cases h2 with
      | lst rl =>
        cases r
        obtain ⟨v0, e1, e2⟩ := rl.get he
        exact mt_pop pins s σ H x _ _ us Q I rx rv ⟨a, _, v0, ex, rfl, h1, by rw [rl.length]; exact e1, k _ _ (.lst rl.dropLast) e2⟩
    · cases e
  · cases e
def mPopAt : D → List D → Option (D × D)
  | .lst xs, [.int i] => if -(2 ^ 63) ≤ i ∧ i < 2 ^ 63 then match seqIndex? i xs.length with
    | some k => match xs[k]? with
      | some d => some (d, .lst (xs.eraseIdx k))
      | none => none
    | none => none
    else none
  | _, _ => none
theorem md_popAt : MtR X "list.pop" (rM κ mPopAt) := by
  intro pins s σ H x vs v us Q I rx rv ⟨F, a, o, c, ds, d, c', ex, h1, h2, sb, r, e, k⟩
  unfold mPopAt at e
  split at e
  · split at e
    · rename_i xs i hi
      split at e
      · rename_i j hj
        split at e
        · rename_i d₀ he
          cases e
          cases h2 with
          | lst rl =>
            obtain ⟨v1, rfl, rv1⟩ := r.one
            cases rv1
            obtain ⟨v0, e1, e2⟩ := rl.get he
            exact mt_popAt pins s σ H x _ _ us Q I rx rv ⟨a, _, i, j, v0, ex, rfl, h1, hi.1, hi.2, by rw [rl.length]; exact hj, e1, k _ _ (.lst (rl.erase j)) e2⟩
        · cases e
      · cases e
    · cases e
  · cases e
end
end DL
/-! DL8: statements. -/
namespace DL
open PySem L2
inductive SR where
  | nx (ρ : Env) | ret (d : D) (ρ : Env) | ro (d : D) (ρ : Env) | brk (ρ : Env) | ct (ρ : Env) | err (x : Exn) (ρ : Env) | stuck
abbrev SM := Env → SR
section
variable (κ : Kx) (W : WX)
def stAt (F H : Hp) (w : Ws) (D₀ : Ends) : SR → Prop
  | .nx ρ' => ∀ σ' F' H' w', Rs κ F' H' w' σ' ρ' → Ext F H (Tw w) F' H' (Tw w') → D₀.nx σ' H'
  | .brk ρ' => ∀ σ' F' H' w', Rs κ F' H' w' σ' ρ' → Ext F H (Tw w) F' H' (Tw w') → D₀.bk σ' H'
  | .ct ρ' => ∀ σ' F' H' w', Rs κ F' H' w' σ' ρ' → Ext F H (Tw w) F' H' (Tw w') → D₀.ct σ' H'
  | .ret d ρ' => ∀ v σ' F' H' w', Rs κ F' H' w' σ' ρ' → Ext F H (Tw w) F' H' (Tw w') → Rep κ.K F' v d → D₀.rt v H'
  | .ro d ρ' => ∀ v σ' F' H' w' wv, Rs κ F' H' w' σ' ρ' → Ext F H (Tw w) F' H' (fun b => Tw w' b ∨ wv b) → OpAt κ.K F' H' wv v d → (∀ b, wv b → ¬ Tw w' b ∧ F' b = none ∧ ∃ o, H' b = some o) → D₀.rt v H'
  | .err x ρ' => ∀ c dd σ' F' H' w', Rs κ F' H' w' σ' ρ' → Ext F H (Tw w) F' H' (Tw w') → ExAt κ F' H' x c dd → W c dd σ' H'
  | .stuck => False
def rdS (s : SM) : TS := fun D₀ σ H => ∃ F w ρ, Rs κ F H w σ ρ ∧ stAt κ W F H w D₀ (s ρ)
end
abbrev DS (X : Cx) (κ : Kx) (W : WX) (st : Stmt) (s : SM) : Prop := PS X st (rdS κ W s)
abbrev DB (X : Cx) (κ : Kx) (W : WX) (st : List Stmt) (s : SM) : Prop := PSs X st (rdS κ W s)
def sSeq (s t : SM) : SM := fun ρ => match s ρ with
  | .nx ρ' => t ρ'
  | r => r
/-- an expression, then a statement -/
def sBind {α : Type} (g : M α) (s : α → SM) : SM := fun ρ => match g ρ with
  | .ok a ρ' => s a ρ'
  | .err x ρ' => .err x ρ'
  | .stuck => .stuck
section
variable {X : Cx} {κ : Kx} {W : WX} {e a b c : Expr} {es rest : List Expr} {st : Stmt} {sts : List Stmt} {pos p2 : Pos} {s t : SM}
theorem stAt.trans {F H F1 H1 : Hp} {w w1 : Ws} {D₀ : Ends} (E1 : Ext F H (Tw w) F1 H1 (Tw w1)) : ∀ {r : SR}, stAt κ W F H w D₀ r → stAt κ W F1 H1 w1 D₀ r
  | .nx ρ', h => fun σ' F' H' w' R E => h σ' F' H' w' R (E1.trans E)
  | .brk ρ', h => fun σ' F' H' w' R E => h σ' F' H' w' R (E1.trans E)
  | .ct ρ', h => fun σ' F' H' w' R E => h σ' F' H' w' R (E1.trans E)
  | .ret d ρ', h => fun v σ' F' H' w' R E => h v σ' F' H' w' R (E1.trans E)
  | .ro d ρ', h => fun v σ' F' H' w' wv R E => h v σ' F' H' w' wv R (E1.trans E)
  | .err x ρ', h => fun c dd σ' F' H' w' R E => h c dd σ' F' H' w' R (E1.trans E)
  | .stuck, h => h
theorem sBind_run {α : Type} {g : M α} {s : α → SM} {D₀ : Ends} {σ : St} {H : Hp} (q : rdS κ W (sBind g s) D₀ σ H) : run κ W g σ H fun x F' H' w' ρ' => stAt κ W F' H' w' D₀ (s x ρ') := by
  obtain ⟨F, w, ρ, R, q⟩ := q
  refine ⟨F, w, ρ, R, ?_⟩
  unfold sBind at q
  cases e : g ρ with
  | stuck => rw [e] at q; exact q
  | err x ρ' => rw [e] at q; exact fun c dd F' H' w' R' E' k => q c dd σ F' H' w' R' E' k
  | ok x ρ' => rw [e] at q; exact fun F' H' w' R' E' => q.trans E'
theorem bk_nil : DB X κ W [] SR.nx := pss_weak pss_nil fun D₀ σ H q => by
  obtain ⟨F, w, ρ, R, q⟩ := q
  exact q σ F H w R (Ext.refl _ _ _)
theorem bk_cons (h1 : DS X κ W st s) (h2 : DB X κ W sts t) : DB X κ W (st :: sts) (sSeq s t) := pss_weak (pss_cons h1 h2) fun D₀ σ H q => by
  obtain ⟨F, w, ρ, R, q⟩ := q
  refine ⟨F, w, ρ, R, ?_⟩
  unfold sSeq at q
  cases e : s ρ with
  | nx ρ' => rw [e] at q; exact fun σ' F' H' w' R' E' => ⟨F', w', ρ', R', stAt.trans E' q⟩
  | _ => rw [e] at q; exact q
theorem bk_one (h1 : DS X κ W st s) : DB X κ W [st] s := pss_one h1
theorem ds_pass : DS X κ W (.Pass pos) SR.nx := ps_weak ps_pass fun D₀ σ H q => by
  obtain ⟨F, w, ρ, R, q⟩ := q
  exact q σ F H w R (Ext.refl _ _ _)
theorem ds_brk : DS X κ W (.Break pos) SR.brk := ps_weak ps_break fun D₀ σ H q => by
  obtain ⟨F, w, ρ, R, q⟩ := q
  exact q σ F H w R (Ext.refl _ _ _)
theorem ds_ct : DS X κ W (.Continue pos) SR.ct := ps_weak ps_continue fun D₀ σ H q => by
  obtain ⟨F, w, ρ, R, q⟩ := q
  exact q σ F H w R (Ext.refl _ _ _)
/-- code that is not walked -/
def sNo : SM := fun _ => .stuck
theorem ds_no : DS X κ W st sNo := ps_weak ps_never fun D₀ σ H q => by
  obtain ⟨F, w, ρ, R, q⟩ := q
  exact q
theorem bk_no : DB X κ W sts sNo := pss_weak pss_never fun D₀ σ H q => by
  obtain ⟨F, w, ρ, R, q⟩ := q
  exact q
theorem ds_expr {g : M D} (he : DE X κ W e g) (hs : swapsWith e none pos.line X.env = pure false := by rfl) : DS X κ W (.Expr e pos) (sBind g fun _ => SR.nx) := ps_weak (ps_expr he hs) fun D₀ σ H q =>
  run.imp (sBind_run q) fun d F' H' w' ρ' R' z v r => z σ F' H' w' R' (Ext.refl _ _ _)
theorem ds_ret {g : M D} (he : DE X κ W e g) : DS X κ W (.Return (some e) pos) (sBind g SR.ret) := ps_weak (ps_ret he) fun D₀ σ H q =>
  run.imp (sBind_run q) fun d F' H' w' ρ' R' z v r => z v σ F' H' w' R' (Ext.refl _ _ _) r
theorem ds_retN : DS X κ W (.Return none pos) (SR.ret .non) := ps_weak ps_retN fun D₀ σ H q => by
  obtain ⟨F, w, ρ, R, q⟩ := q
  exact q .non σ F H w R (Ext.refl _ _ _) .non
/-- a new container, handed back open -/
theorem ds_retO {g : M D} (he : DO X κ W e g) : DS X κ W (.Return (some e) pos) (sBind g SR.ro) := ps_weak (ps_ret he) fun D₀ σ H q =>
  run.imp (sBind_run q) fun d F' H' w' ρ' R' z v F2 H2 wv g r f => by
    refine z v σ F2 H2 w' wv (R'.grown g) ⟨g.le, fun b o h _ => g.keep b o h, fun b o h => (g.new b o h).elim .inl fun z => .inr (.inl z), fun b h => ?_⟩ r fun b h => ⟨fun ⟨i, wi⟩ => ?_, (f b h).1, (f b h).2.2⟩
    · rcases h with h | h
      · exact .inr h
      · exact .inl (f b h).2.1
    · obtain ⟨o, ho⟩ := (R'.free i b wi).2
      rw [(f b h).2.1] at ho
      cases ho
/-- a name's open container, handed back -/
def sRetV (i : Nat) : SM := fun ρ => match ρ[i]? with
  | some (.op d) => .ro d (ρ.set i .un)
  | _ => .stuck
theorem ds_retV {i : Nat} (hp : κ.pn.all (fun q => q.1 != i) = true) (he : PE X e (tVar i)) : DS X κ W (.Return (some e) pos) (sRetV i) := ps_weak (ps_ret he) fun D₀ σ H q => by
  obtain ⟨F, w, ρ, R, q⟩ := q
  unfold sRetV at q
  split at q
  · rename_i d e1
    obtain ⟨a, o, h1, h2, h3, h4⟩ := R.op e1
    have hp' : ∀ q ∈ κ.pn, q.1 ≠ i := fun q hq => by
      have := List.all_eq_true.mp hp q hq
      simpa using this
    have R2 := R.setUn (i := i) (x := some (.ref a)) hp'
    have es : σ.set i (some (.ref a)) = σ := by
      obtain ⟨hi, e⟩ := List.getElem?_eq_some_iff.mp h1
      rw [← e, List.set_getElem_self]
    rw [es] at R2
    refine ⟨_, h1, q _ σ F H _ (w i) R2 ⟨LeF.refl F, fun b o h _ => h, fun b o h => .inl h, fun b h => .inr ?_⟩ ⟨a, o, rfl, h2, h3, h4⟩ fun b h => ⟨fun ⟨j, hj⟩ => ?_, R.free i b h⟩⟩
    · rcases h with ⟨j, hj⟩ | h
      · by_cases ej : j = i
        · simp only [if_pos ej] at hj
        · simp only [if_neg ej] at hj
          exact ⟨j, hj⟩
      · exact ⟨i, h⟩
    · by_cases ej : j = i
      · simp only [if_pos ej] at hj
      · simp only [if_neg ej] at hj
        exact ej (R.dis j i b hj h)
  · exact q.elim
def sIf (g : M Bool) (s t : SM) : SM := sBind g fun c => if c = true then s else t
theorem ds_if {g : M Bool} {A B : List Stmt} (hc : DT X κ W c g) (ha : DB X κ W A s) (hb : DB X κ W B t) : DS X κ W (.If c A B pos) (sIf g s t) := ps_weak (ps_if hc ha hb) fun D₀ σ H q =>
  run.imp (sBind_run q) fun d F' H' w' ρ' R' z => by
    cases d with
    | true => exact ⟨F', w', ρ', R', z⟩
    | false => exact ⟨F', w', ρ', R', z⟩
/-! ### name = value -/
def sSet (i : Nat) (d : D) : SM := fun ρ => if i < ρ.length then .nx (ρ.set i (.fz d)) else .stuck
def sSetO (i : Nat) (d : D) : SM := fun ρ => if i < ρ.length then .nx (ρ.set i (.op d)) else .stuck
theorem pin_ne {i : Nat} (hp : κ.pn.all (fun q => q.1 != i) = true) : ∀ q ∈ κ.pn, q.1 ≠ i := fun q hq => by
  have := List.all_eq_true.mp hp q hq
  simpa using this
theorem Tw_set {w : Ws} {i : Nat} {b : Addr} {wv : AS} : Tw (fun j => if j = i then wv else w j) b → Tw w b ∨ wv b := fun ⟨j, h⟩ => by
  by_cases e : j = i
  · simp only [if_pos e] at h; exact .inr h
  · simp only [if_neg e] at h; exact .inl ⟨j, h⟩
theorem set_fz {F H : Hp} {w : Ws} {σ : St} {ρ : Env} {D₀ : Ends} {i : Nat} {d : D} {v : V} (hp : κ.pn.all (fun q => q.1 != i) = true) (R : Rs κ F H w σ ρ) (z : stAt κ W F H w D₀ (sSet i d ρ)) (r : Rep κ.K F v d) : D₀.nx (σ.set i (some v)) H := by
  unfold sSet at z
  split at z
  · rename_i hi
    refine z _ F H _ (R.setFz (pin_ne hp) hi r) ⟨LeF.refl F, fun b o h _ => h, fun b o h => .inl h, fun b h => .inr ?_⟩
    rcases Tw_set h with h | h
    · exact h
    · exact h.elim
  · exact z.elim
theorem set_op {F H F2 H2 : Hp} {w : Ws} {σ : St} {ρ : Env} {D₀ : Ends} {i : Nat} {d : D} {v : V} {wv : AS} (hp : κ.pn.all (fun q => q.1 != i) = true) (R : Rs κ F H w σ ρ) (z : stAt κ W F H w D₀ (sSetO i d ρ)) (g : Grow F H F2 H2) (r : OpAt κ.K F2 H2 wv v d)
    (f : ∀ b, wv b → F2 b = none ∧ H b = none ∧ ∃ o, H2 b = some o) : D₀.nx (σ.set i (some v)) H2 := by
  unfold sSetO at z
  split at z
  · rename_i hi
    refine z _ F2 H2 _ ((R.grown g).setOp (pin_ne hp) hi r (fun b h ⟨j, hj⟩ => ?_) fun b h => ⟨(f b h).1, (f b h).2.2⟩) ⟨g.le, fun b o h _ => g.keep b o h, fun b o h => (g.new b o h).elim .inl fun z => .inr (.inl z), fun b h => ?_⟩
    · obtain ⟨o, ho⟩ := (R.free j b hj).2
      rw [(f b h).2.1] at ho
      cases ho
    · rcases Tw_set h with h | h
      · exact .inr h
      · exact .inl (f b h).2.1
  · exact z.elim
theorem ds_set {i : Nat} {x : Str} {pos' : Pos} {g : M D} (hN : X.N.Nodup) (hi : X.N[i]? = some x) (hx : Loc X.env.scope x) (hp : κ.pn.all (fun q => q.1 != i) = true) (he : DE X κ W e g) (hs : swapsWith e (some (.Name x pos')) pos.line X.env = pure false := by rfl)
    (hf : X.fn x = true ∨ X.env.scope.names.lookup x = some .local := by first | exact .inl rfl | exact .inr rfl | assumption) : DS X κ W (.Assign [.Name x pos'] e pos) (sBind g (sSet i)) :=
  ps_weak (ps_set hN hi hx he hs hf) fun D₀ σ H q => run.imp (sBind_run q) fun d F' H' w' ρ' R' z v r => set_fz hp R' z r
theorem ds_setO {i : Nat} {x : Str} {pos' : Pos} {g : M D} (hN : X.N.Nodup) (hi : X.N[i]? = some x) (hx : Loc X.env.scope x) (hp : κ.pn.all (fun q => q.1 != i) = true) (he : DO X κ W e g) (hs : swapsWith e (some (.Name x pos')) pos.line X.env = pure false := by rfl)
    (hf : X.fn x = true ∨ X.env.scope.names.lookup x = some .local := by first | exact .inl rfl | exact .inr rfl | assumption) : DS X κ W (.Assign [.Name x pos'] e pos) (sBind g (sSetO i)) :=
  ps_weak (ps_set hN hi hx he hs hf) fun D₀ σ H q => run.imp (sBind_run q) fun d F' H' w' ρ' R' z v F2 H2 wv g r f => set_op hp R' z g r f
/-! ### targets -/
inductive Tg where
  | nm (i : Nat) | tp (ts : List Tg)
mutual
def bindT : Tg → D → Env → Option Env
  | .nm i, d, ρ => if i < ρ.length then some (ρ.set i (.fz d)) else none
  | .tp ts, .tup ds, ρ => bindTs ts ds ρ
  | .tp _, _, _ => none
def bindTs : List Tg → List D → Env → Option Env
  | [], [], ρ => some ρ
  | t :: ts, d :: ds, ρ => match bindT t d ρ with
    | some ρ' => bindTs ts ds ρ'
    | none => none
  | _, _, _ => none
end
mutual
def Tg.sl : Tg → List Nat
  | .nm i => [i]
  | .tp ts => Tg.sls ts
def Tg.sls : List Tg → List Nat
  | [] => []
  | t :: ts => t.sl ++ Tg.sls ts
end
/-- a target's reading -/
def rdG (κ : Kx) (g : D → Env → Option Env) (sl : List Nat) : TG := fun v σ H Q => ∃ F w ρ d ρ', Rs κ F H w σ ρ ∧ Rep κ.K F v d ∧ g d ρ = some ρ' ∧ ∀ σ' w', Rs κ F H w' σ' ρ' → (∀ b, Tw w' b → Tw w b) → (∀ j, j ∉ sl → σ'[j]? = σ[j]?) → Q σ' H
def rdGs (κ : Kx) (g : List D → Env → Option Env) (sl : List Nat) : TGs := fun vs σ H Q => ∃ F w ρ ds ρ', Rs κ F H w σ ρ ∧ RepL κ.K F vs ds ∧ g ds ρ = some ρ' ∧ ∀ σ' w', Rs κ F H w' σ' ρ' → (∀ b, Tw w' b → Tw w b) → (∀ j, j ∉ sl → σ'[j]? = σ[j]?) → Q σ' H
abbrev DG (X : Cx) (κ : Kx) (t : Expr) (g : Tg) : Prop := PG X t (rdG κ (bindT g) g.sl)
abbrev DGs (X : Cx) (κ : Kx) (t : List Expr) (g : List Tg) : Prop := PGs X t (rdGs κ (bindTs g) (Tg.sls g))
theorem pg_weak {X : Cx} {e : Expr} {t t' : TG} (h : PG X e t) (i : ∀ v σ H Q, t' v σ H Q → t v σ H Q) : PG X e t' := ⟨fun pins s σ H v u Q I r q => h.run pins s σ H v u Q I r (i v σ H Q q)⟩
theorem pgs_weak {X : Cx} {e : List Expr} {t t' : TGs} (h : PGs X e t) (i : ∀ v σ H Q, t' v σ H Q → t v σ H Q) : PGs X e t' := ⟨fun pins s σ H v u Q I r q => h.run pins s σ H v u Q I r (i v σ H Q q)⟩
theorem dg_nm {i : Nat} {x : Str} (hN : X.N.Nodup) (hi : X.N[i]? = some x) (hx : Loc X.env.scope x) (hp : κ.pn.all (fun q => q.1 != i) = true) (hf : X.fn x = true ∨ X.env.scope.names.lookup x = some .local := by first | exact .inl rfl | exact .inr rfl | assumption) :
    DG X κ (.Name x pos) (.nm i) := pg_weak (pg_name hN hi hx hf) fun v σ H Q ⟨F, w, ρ, d, ρ', R, r, e, k⟩ => by
  unfold bindT at e
  split at e
  · rename_i hl
    cases e
    refine k _ _ (R.setFz (pin_ne hp) hl r) (fun b h => ?_) fun j hj => ?_
    · rcases Tw_set h with h | h
      · exact h
      · exact h.elim
    · have : j ≠ i := by simpa [Tg.sl] using hj
      exact List.getElem?_set_ne (Ne.symm this)
  · cases e
theorem dgs_nil : DGs X κ [] [] := pgs_weak pgs_nil fun vs σ H Q ⟨F, w, ρ, ds, ρ', R, r, e, k⟩ => by
  cases r with
  | nil => simp [bindTs] at e; subst e; exact ⟨rfl, k σ w R (fun _ h => h) fun _ _ => rfl⟩
  | cons _ _ => simp [bindTs] at e
theorem dgs_cons {g : Tg} {gs : List Tg} (h1 : DG X κ e g) (h2 : DGs X κ es gs) (hs : (assignEach (e :: es) X.env).map (·.2) = assign e X.env :: (assignEach es X.env).map (·.2) := by rfl) : DGs X κ (e :: es) (g :: gs) :=
  pgs_weak (pgs_cons h1 h2 hs) fun vs σ H Q ⟨F, w, ρ, ds, ρ', R, r, e, k⟩ => by
    cases r with
    | nil => simp [bindTs] at e
    | cons h r =>
      simp only [bindTs] at e
      split at e
      · rename_i ρ1 e1
        exact ⟨_, _, rfl, F, w, ρ, _, ρ1, R, h, e1, fun σ1 w1 R1 l1 s1 => ⟨F, w1, ρ1, _, ρ', R1, r, e, fun σ2 w2 R2 l2 s2 => k σ2 w2 R2 (fun b h => l1 b (l2 b h)) fun j hj => by
          have hj' : j ∉ g.sl ++ Tg.sls gs := hj
          rw [List.mem_append, not_or] at hj'
          exact (s2 j hj'.2).trans (s1 j hj'.1)⟩⟩
      · cases e
theorem bindTs_len : ∀ {gs : List Tg} {ds : List D} {ρ ρ' : Env}, bindTs gs ds ρ = some ρ' → ds.length = gs.length
  | [], [], _, _, _ => rfl
  | [], _ :: _, _, _, e => by simp [bindTs] at e
  | _ :: _, [], _, _, e => by simp [bindTs] at e
  | t :: ts, d :: ds, ρ, ρ', e => by
    simp only [bindTs] at e
    split at e
    · simp [bindTs_len e]
    · cases e
theorem dg_tp {k : Nat} {gs : List Tg} (hK : κ.K = X.K) (hc : X.calm = true) (h : DGs X κ es gs) (hn : (assignEach es X.env).length = gs.length := by rfl) (hst : (assignEach es X.env).findIdx? (·.1) = none := by rfl) : DG X κ (.Tuple es k pos) (.tp gs) :=
  pg_weak (pg_tup hc h hn hst) fun v σ H Q ⟨F, w, ρ, d, ρ', R, r, e, k⟩ => by
    cases d <;> try (simp [bindT] at e; done)
    simp only [bindT] at e
    cases r with
    | tup h r => exact ⟨_, _, rfl, hK ▸ R.sub.sqT h, by rw [r.length]; exact bindTs_len e, F, w, ρ, _, ρ', R, r, e, k⟩
/-- target = value, the target a tuple -/
def sBindT (t : Tg) (d : D) : SM := fun ρ => match bindT t d ρ with
  | some ρ' => .nx ρ'
  | none => .stuck
theorem ds_asg {tg : Expr} {t : Tg} {g : M D} (he : DE X κ W e g) (hg : DG X κ tg t) (hs : swapsWithSole [tg] e pos.line X.env = pure false := by rfl) (hw : swappedStores [tg] e X.env = pure none := by rfl)
    (h1 : (assignEach [tg] X.env).map (·.2) = [assign tg X.env] := by rfl) : DS X κ W (.Assign [tg] e pos) (sBind g (sBindT t)) :=
  ps_weak (ps_asg he hg hs hw h1) fun D₀ σ H q => run.imp (sBind_run q) fun d F' H' w' ρ' R' z v r => by
    unfold sBindT at z
    split at z
    · rename_i ρ2 e2
      exact ⟨F', w', ρ', d, ρ2, R', r, e2, fun σ' w2 R2 l _ => z σ' F' H' w2 R2 ⟨LeF.refl _, fun b o h _ => h, fun b o h => .inl h, fun b h => .inr (l b h)⟩⟩
    · exact z.elim
/-- x[i] = v of an open list -/
def sStore2 (i : Nat) (d : D) (k : D) : SM := fun ρ => match ρ[i]? with
  | some (.op (.lst ds)) => match k with
    | .int k => match ixN ds.length k with
      | some j => .nx (ρ.set i (.op (.lst (ds.set j d))))
      | none => .stuck
    | _ => .stuck
  | _ => .stuck
def sStore1 (i : Nat) (gi : M D) (d : D) : SM := fun ρ => match ρ[i]? with
  | some (.op (.lst _)) => sBind gi (sStore2 i d) ρ
  | _ => .stuck
def sStore (i : Nat) (gi gv : M D) : SM := sBind gv (sStore1 i gi)
theorem ds_store {i : Nat} {gi gv : M D} {ix : Expr} (ho : PE X a (tVar i)) (hi : DE X κ W ix gi) (hv : DE X κ W e gv)
    (ha : ∀ v, assign (.Subscript a ix p2) X.env v = (do
      let ov ← holding [v] (eval a X.env)
      let iv ← holding [v, ov] (eval ix X.env)
      standAt p2
      holding [v, ov, iv] (setItem ov iv v)
      release [v, ov, iv] []) := by intro _; rfl) (hs : swapsWithSole [.Subscript a ix p2] e pos.line X.env = pure false := by rfl) (hw : swappedStores [.Subscript a ix p2] e X.env = pure none := by rfl)
    (h1 : (assignEach [.Subscript a ix p2] X.env).map (·.2) = [assign (.Subscript a ix p2) X.env] := by rfl) : DS X κ W (.Assign [.Subscript a ix p2] e pos) (sStore i gi gv) :=
  ps_weak (ps_asg hv (pg_sub ho hi set_list ha) hs hw h1) fun D₀ σ H q => by
    obtain ⟨F, w, ρ, R, q⟩ := q
    unfold sStore sBind at q
    refine ⟨F, w, ρ, R, ?_⟩
    cases e0 : gv ρ with
    | stuck => rw [e0] at q; exact q
    | err x ρ' => rw [e0] at q; exact fun c dd F' H' w' R' E' k => q c dd σ F' H' w' R' E' k
    | ok d ρ1 =>
      rw [e0] at q
      intro F1 H1 w1 R1 E1 v r
      have z : stAt κ W F1 H1 w1 D₀ (sStore1 i gi d ρ1) := q.trans E1
      unfold sStore1 at z
      split at z
      · rename_i xs e1
        obtain ⟨a1, o1, s1, s2, s3, s4⟩ := R1.op e1
        refine ⟨.ref a1, s1, F1, w1, ρ1, R1, ?_⟩
        unfold sBind at z
        cases e2 : gi ρ1 with
        | stuck => rw [e2] at z; exact z
        | err x ρ' => rw [e2] at z; exact fun c dd F' H' w' R' E' k => z c dd σ F' H' w' R' E' k
        | ok k ρ2 =>
          rw [e2] at z
          intro F2 H2 w2 R2 E2 kv rk
          have z : stAt κ W F2 H2 w2 D₀ (sStore2 i d k ρ2) := z.trans E2
          unfold sStore2 at z
          split at z
          · rename_i ds e3
            split at z
            · rename_i kk
              split at z
              · rename_i j e4
                cases rk
                obtain ⟨a2, o2, t1, t2, t3, t4⟩ := R2.op e3
                rw [s1] at t1
                cases t1
                cases t4 with
                | lst rl =>
                  refine ⟨a1, _, _, j, rfl, rfl, t3, by rw [rl.length]; exact e4, z σ F2 _ w2 (R2.mut t2 s1 (List.getElem?_eq_some_iff.mp e3).1 (.lst (rl.set j (r.le E2.le)))) (Ext.mut t2)⟩
              · exact z.elim
            · exact z.elim
          · exact z.elim
      · exact z.elim
end
end DL
/-! DL9: what is walked; for, while, list comprehensions. -/
namespace DL
open PySem L2
/-- an iterator gives these items, whatever is frozen besides -/
def ItOk (κ : Kx) (F : Hp) (J : It) (ds : List D) : Prop := ∀ i F' H', LeF F F' → Sub F' H' → (ds.length = i → J.stop i H') ∧ (∀ d, ds[i]? = some d → J.go i H' ∧ ∀ x H3, J.yld i H' x H3 → ∃ F3, Grow F' H' F3 H3 ∧ Rep κ.K F3 x d)
def rdI (κ : Kx) (W : WX) (g : M (List D)) : TI := fun σ H R => run κ W g σ H fun ds F' H' _ _ => ∀ J F2 H2, Grow F' H' F2 H2 → ItOk κ F2 J ds → R J H2
abbrev DI (X : Cx) (κ : Kx) (W : WX) (tg it : Expr) (g : M (List D)) : Prop := PI X tg it (rdI κ W g)
section
variable {X : Cx} {κ : Kx} {W : WX} {e a b c tg iter elt : Expr} {es rest : List Expr} {st : Stmt} {sts body : List Stmt} {pos p2 : Pos} {s t : SM}
theorem pi_weak {tg e : Expr} {t t' : TI} (h : PI X tg e t) (i : ∀ σ H Q, t' σ H Q → t σ H Q) : PI X tg e t' := ⟨fun pins s σ H Q I q => h.run pins s σ H Q I (i σ H Q q)⟩
/-- a list or a tuple -/
def iSeq (K : PySem.W.Frag) (tl : TE) : TI := fun σ H R => tl σ H fun x H1 => ∃ a, x = .ref a ∧ ((∃ xs, SqL K H1 a xs ∧ R (Itl K a) H1) ∨ (∃ xs, SqT K H1 a xs ∧ R (Itt K a) H1))
theorem pi_seq {l : Expr} {tl : TE} (hl : PE X l tl) : PI X tg l (iSeq X.K tl) := by
  refine ⟨fun pins s σ H R I h => ?_⟩
  refine thn (hl.run pins s σ H _ I h) fun v s1 ⟨x, H1, I1, r1, q1⟩ => ?_
  obtain ⟨a, e, q⟩ := q1
  subst e
  cases r1
  rcases q with ⟨xs, hq, q⟩ | ⟨xs, hq, q⟩
  · obtain ⟨its, rv, p, hz⟩ := I1.list hq
    refine wpAny_pyIter_list p.isList ?_
    refine ⟨s1.heap.objs.size, [s1.heap.objs.size], _, _, H1, rfl, I1.kept (t' := s1.toks) fun b o e => Heap.get?_push_of_some _ e, turn_list a _, ⟨_, Heap.get?_push_size _ rfl, rfl, rfl⟩, fun b hb => ?_, q⟩
    have e : b = s1.heap.objs.size := by simpa using hb
    subst e
    exact I1.fpOk (Nat.le_refl _) (I1.hok.fresh (Nat.le_refl _))
  · obtain ⟨its, rv, p, hz⟩ := I1.tuple hq
    refine wpAny_pyIter_tuple (show s1.heap.IsTuple a its.toArray from p) ?_
    refine ⟨s1.heap.objs.size, [s1.heap.objs.size], _, _, H1, rfl, I1.kept (t' := s1.toks) fun b o e => Heap.get?_push_of_some _ e, turn_tuple a _, ⟨_, Heap.get?_push_size _ rfl, rfl, rfl⟩, fun b hb => ?_, q⟩
    have e : b = s1.heap.objs.size := by simpa using hb
    subst e
    exact I1.fpOk (Nat.le_refl _) (I1.hok.fresh (Nat.le_refl _))
theorem itl_ok {F : Hp} {a : Addr} {xs : List V} {ds : List D} (hK : κ.K = X.K) (h : SqL X.K F a xs) (r : RepL κ.K F xs ds) : ItOk κ F (Itl X.K a) ds := fun i F' H' l sb => by
  have h' : SqL X.K H' a xs := sb.sqL (SqL_le l h)
  refine ⟨fun hi => ⟨xs, h', by rw [r.length]; exact Nat.le_of_eq hi⟩, fun d e => ?_⟩
  obtain ⟨v, e1, e2⟩ := r.get e
  exact ⟨⟨xs, v, h', e1⟩, fun x H3 ⟨eH, y⟩ => by
    subst eH
    have := y xs h'
    rw [e1] at this
    cases this
    exact ⟨F', Grow.refl sb, e2.le l⟩⟩
theorem itt_ok {F : Hp} {a : Addr} {xs : List V} {ds : List D} (h : SqT X.K F a xs) (r : RepL κ.K F xs ds) : ItOk κ F (Itt X.K a) ds := fun i F' H' l sb => by
  have h' : SqT X.K H' a xs := sb.sqT (SqT_le l h)
  refine ⟨fun hi => ⟨xs, h', by rw [r.length]; exact Nat.le_of_eq hi⟩, fun d e => ?_⟩
  obtain ⟨v, e1, e2⟩ := r.get e
  exact ⟨⟨xs, v, h', e1⟩, fun x H3 ⟨eH, y⟩ => by
    subst eH
    have := y xs h'
    rw [e1] at this
    cases this
    exact ⟨F', Grow.refl sb, e2.le l⟩⟩
def dItems : D → Option (List D)
  | .lst xs => some xs
  | .tup xs => some xs
  | _ => none
theorem di_seq {g : M D} (hK : κ.K = X.K) (h : DE X κ W e g) : DI X κ W tg e (gU' dItems g) := pi_weak (pi_seq h) fun σ H R q => run.imp (gU'_ok q) fun d F1 H1 w1 ρ1 R1 ⟨ds, e, _, k⟩ v r => by
  cases d <;> try (cases e; done)
  · cases e
    cases r with
    | tup h r => exact ⟨_, rfl, .inr ⟨_, hK ▸ R1.sub.sqT h, k _ F1 H1 (Grow.refl R1.sub) (itt_ok (hK ▸ h) r)⟩⟩
  · cases e
    cases r with
    | lst h r => exact ⟨_, rfl, .inl ⟨_, hK ▸ R1.sub.sqL h, k _ F1 H1 (Grow.refl R1.sub) (itl_ok hK (hK ▸ h) r)⟩⟩
/-! ### for -/
def forL (t : Tg) (s : SM) : List D → SM
  | [], ρ => .nx ρ
  | d :: ds, ρ => match bindT t d ρ with
    | none => .stuck
    | some ρ1 => match s ρ1 with
      | .nx ρ2 => forL t s ds ρ2
      | .ct ρ2 => forL t s ds ρ2
      | .brk ρ2 => .nx ρ2
      | r => r
theorem Ext.sub {F H : Hp} {T T' : AS} (l : ∀ b, T' b → T b) : Ext F H T F H T' := ⟨LeF.refl F, fun _ _ h _ => h, fun _ _ h => .inl h, fun b h => .inr (l b h)⟩
theorem for_core {t : Tg} {F H : Hp} {w : Ws} {σ : St} {ρ : Env} {J : It} {ds : List D} {D₀ : Ends} {body : SM} (R : Rs κ F H w σ ρ) (it : ItOk κ F J ds) (q : stAt κ W F H w D₀ (forL t body ds ρ)) :
    ∃ W' : Nat → Nat → St → Hp → Prop, (∃ m, W' 0 m σ H) ∧ ∀ i m σ H, W' i m σ H →
      (J.stop i H ∧ D₀.nx σ H) ∨ (J.go i H ∧ ∃ N : St → Hp → Prop, (∀ σ' H', N σ' H' → ∃ m', m' < m ∧ W' (i + 1) m' σ' H') ∧ ∀ x H', J.yld i H x H' → rdG κ (bindT t) t.sl x σ H' fun σ2 H2 => rdS κ W body { D₀ with nx := N, ct := N, bk := D₀.nx } σ2 H2) := by
  refine ⟨fun i m σ' H' => m = ds.length - i ∧ i ≤ ds.length ∧ ∃ F' w' ρ', Rs κ F' H' w' σ' ρ' ∧ LeF F F' ∧ stAt κ W F' H' w' D₀ (forL t body (ds.drop i) ρ'), ⟨_, rfl, Nat.zero_le _, F, w, ρ, R, LeF.refl F, q⟩, ?_⟩
  rintro i m σ1 H1 ⟨rfl, hi, F1, w1, ρ1, R1, l1, q1⟩
  by_cases hlt : i < ds.length
  · have ed : ds.drop i = ds[i] :: ds.drop (i + 1) := List.drop_eq_getElem_cons hlt
    rw [ed] at q1
    have e1 : ds[i]? = some ds[i] := List.getElem?_eq_getElem hlt
    obtain ⟨go, yl⟩ := (it i F1 H1 l1 R1.sub).2 ds[i] e1
    refine .inr ⟨go, fun σ' H' => ∃ F' w' ρ', Rs κ F' H' w' σ' ρ' ∧ LeF F F' ∧ stAt κ W F' H' w' D₀ (forL t body (ds.drop (i + 1)) ρ'), fun σ' H' ⟨F', w', ρ', R', l', q'⟩ => ⟨ds.length - (i + 1), by omega, rfl, hlt, F', w', ρ', R', l', q'⟩, fun x H2 y => ?_⟩
    obtain ⟨F2, g2, r2⟩ := yl x H2 y
    have q2 : stAt κ W F1 H1 w1 D₀ (match bindT t ds[i] ρ1 with
      | none => .stuck
      | some ρ1 => match body ρ1 with
        | .nx ρ2 => forL t body (ds.drop (i + 1)) ρ2
        | .ct ρ2 => forL t body (ds.drop (i + 1)) ρ2
        | .brk ρ2 => .nx ρ2
        | r => r) := q1
    cases e2 : bindT t ds[i] ρ1 with
    | none => rw [e2] at q2; exact q2.elim
    | some ρ2 =>
      rw [e2] at q2
      refine ⟨F2, w1, ρ1, _, ρ2, R1.grown g2, r2, e2, fun σ3 w3 R3 s3 _ => ⟨F2, w3, ρ2, R3, ?_⟩⟩
      have E3 : Ext F1 H1 (Tw w1) F2 H2 (Tw w3) := (g2.ext (Tw w1)).trans (Ext.sub s3)
      have q3 := q2.trans E3
      have l3 : LeF F F2 := l1.trans g2.le
      cases e3 : body ρ2 with
      | nx ρ3 => simp only [e3] at q3; exact fun σ' F' H' w' R' E' => ⟨F', w', ρ3, R', l3.trans E'.le, q3.trans E'⟩
      | ct ρ3 => simp only [e3] at q3; exact fun σ' F' H' w' R' E' => ⟨F', w', ρ3, R', l3.trans E'.le, q3.trans E'⟩
      | brk ρ3 => simp only [e3] at q3; exact q3
      | ret d ρ3 => simp only [e3] at q3; exact q3
      | ro d ρ3 => simp only [e3] at q3; exact q3
      | err x ρ3 => simp only [e3] at q3; exact q3
      | stuck => simp only [e3] at q3; exact q3
  · have e : i = ds.length := by omega
    subst e
    rw [List.drop_length] at q1
    exact .inl ⟨(it _ F1 H1 l1 R1.sub).1 rfl, q1 σ1 F1 H1 w1 R1 (Ext.refl _ _ _)⟩
def sFor (t : Tg) (g : M (List D)) (s : SM) : SM := sBind g fun ds => forL t s ds
theorem ds_for {t : Tg} {g : M (List D)} (hp : PassesOwn (model X.prog X.w) X.A X.env X.xe) (hc : X.calm = true) (hi : DI X κ W tg iter g) (hg : DG X κ tg t) (hb : DB X κ W body s)
    (hs : ∀ x, foldedSetIterable iter X.env x = pure x := by intro _; rfl) : DS X κ W (.For tg iter body [] pos) (sFor t g s) :=
  ps_weak (ps_for hp hc hi hg hb hs) fun D₀ σ H q => run.imp (sBind_run q) fun ds F1 H1 w1 ρ1 R1 z J F2 H2 g2 it => for_core (R1.grown g2) it (z.trans (g2.ext _))
/-! ### while -/
def whileL (g : M Bool) (s : SM) : Nat → SM
  | 0, _ => .stuck
  | n + 1, ρ => match g ρ with
    | .ok true ρ1 => (match s ρ1 with
      | .nx ρ2 => whileL g s n ρ2
      | .ct ρ2 => whileL g s n ρ2
      | .brk ρ2 => .nx ρ2
      | r => r)
    | .ok false ρ1 => .nx ρ1
    | .err x ρ1 => .err x ρ1
    | .stuck => .stuck
theorem ds_while {g : M Bool} (fuel : Nat) (hp : PassesOwn (model X.prog X.w) X.A X.env X.xe) (hc : DT X κ W c g) (hb : DB X κ W body s) : DS X κ W (.While c body [] pos) (whileL g s fuel) :=
  ps_weak (ps_while hp hc hb) fun D₀ σ H q => by
    obtain ⟨F, w, ρ, R, q⟩ := q
    refine ⟨fun m σ' H' => ∃ F' w' ρ', Rs κ F' H' w' σ' ρ' ∧ stAt κ W F' H' w' D₀ (whileL g s m ρ'), ⟨fuel, F, w, ρ, R, q⟩, ?_⟩
    rintro m σ1 H1 ⟨F1, w1, ρ1, R1, q1⟩
    cases m with
    | zero => exact q1.elim
    | succ n =>
      unfold whileL at q1
      refine ⟨F1, w1, ρ1, R1, ?_⟩
      cases e : g ρ1 with
      | stuck => simp only [e] at q1; exact q1
      | err x ρ' => simp only [e] at q1; exact fun c dd F' H' w' R' E' k => q1 c dd σ1 F' H' w' R' E' k
      | ok b ρ2 =>
        cases b with
        | false => simp only [e] at q1; exact fun F' H' w' R' E' => q1 σ1 F' H' w' R' E'
        | true =>
          simp only [e] at q1
          intro F2 H2 w2 R2 E2
          refine ⟨fun σ' H' => ∃ F' w' ρ', Rs κ F' H' w' σ' ρ' ∧ stAt κ W F' H' w' D₀ (whileL g s n ρ'), fun σ' H' z => ⟨n, Nat.lt_succ_self n, z⟩, F2, w2, ρ2, R2, ?_⟩
          have q3 := q1.trans E2
          cases e3 : s ρ2 with
          | nx ρ3 => simp only [e3] at q3; exact fun σ' F' H' w' R' E' => ⟨F', w', ρ3, R', q3.trans E'⟩
          | ct ρ3 => simp only [e3] at q3; exact fun σ' F' H' w' R' E' => ⟨F', w', ρ3, R', q3.trans E'⟩
          | brk ρ3 => simp only [e3] at q3; exact q3
          | ret d ρ3 => simp only [e3] at q3; exact q3
          | ro d ρ3 => simp only [e3] at q3; exact q3
          | err x ρ3 => simp only [e3] at q3; exact q3
          | stuck => simp only [e3] at q3; exact q3
/-! ### list comprehensions -/
def wipeE (ρ : Env) : List Nat → Env
  | [] => ρ
  | v :: vs => (wipeE ρ vs).set v .un
def wipeW (w : Ws) : List Nat → Ws
  | [] => w
  | v :: vs => fun j => if j = v then fun _ => False else wipeW w vs j
theorem Rs.wiped {F H : Hp} {w : Ws} {σ : St} {ρ : Env} (R : Rs κ F H w σ ρ) : ∀ {vs : List Nat}, (vs.all fun v => κ.pn.all fun q => q.1 != v) = true → Rs κ F H (wipeW w vs) (wipe σ vs) (wipeE ρ vs)
  | [], _ => R
  | v :: vs, h => by
    simp only [List.all_cons, Bool.and_eq_true] at h
    exact (R.wiped h.2).setUn (pin_ne h.1)
theorem wipeW_le {w : Ws} : ∀ {vs : List Nat} {b : Addr}, Tw (wipeW w vs) b → Tw w b
  | [], _, h => h
  | v :: vs, b, ⟨j, h⟩ => by
    by_cases e : j = v
    · simp only [wipeW, if_pos e] at h
    · simp only [wipeW, if_neg e] at h
      exact wipeW_le (vs := vs) ⟨j, h⟩
theorem wipe_get (σ : St) : ∀ (vs : List Nat) (j : Nat), (wipe σ vs)[j]? = if j ∈ vs then (if j < σ.length then some none else none) else σ[j]?
  | [], j => by simp [wipe]
  | v :: vs, j => by
    unfold wipe
    by_cases e : j = v
    · subst e
      by_cases hj : j < σ.length
      · rw [List.getElem?_set_self (by rw [wipe_length]; exact hj)]
        simp [hj]
      · rw [List.getElem?_eq_none (by rw [List.length_set, wipe_length]; omega)]
        simp [hj]
    · rw [List.getElem?_set_ne (Ne.symm e), wipe_get σ vs j]
      simp [e]
theorem wipe_eq {σ σ' : St} {vs sl : List Nat} (hl : σ'.length = σ.length) (h : ∀ j, j ∉ sl → σ'[j]? = (wipe σ vs)[j]?) (hs : ∀ j ∈ sl, j ∈ vs) : wipe σ' vs = wipe σ vs := by
  apply List.ext_getElem?
  intro j
  rw [wipe_get, wipe_get]
  by_cases e : j ∈ vs
  · simp [e, hl]
  · simp only [if_neg e]
    rw [h j fun z => e (hs j z), wipe_get, if_neg e]
/-- the block's names as they were: a frozen one stays, an open one is forgotten -/
def keepE (ρ₀ : Env) (ρ : Env) : List Nat → Env
  | [] => ρ
  | v :: vs => (keepE ρ₀ ρ vs).set v (match ρ₀[v]? with
    | some (.fz d) => .fz d
    | _ => .un)
def lcL (ρ₀ : Env) (vs : List Nat) (t : Tg) (gt : M Bool) (ge : M D) : List D → List D → M (List D)
  | [], acc, ρ => .ok acc (keepE ρ₀ ρ vs)
  | d :: ds, acc, ρ => match bindT t d ρ with
    | none => .stuck
    | some ρ1 => match gt ρ1 with
      | .ok true ρ2 => (match ge ρ2 with
        | .ok y ρ3 => if acc.length < sizeLine then lcL ρ₀ vs t gt ge ds (acc ++ [y]) (wipeE ρ3 vs) else .stuck
        | _ => .stuck)
      | .ok false ρ2 => lcL ρ₀ vs t gt ge ds acc (wipeE ρ2 vs)
      | _ => .stuck
def gLc (vs : List Nat) (gi : M (List D)) (t : Tg) (gt : M Bool) (ge : M D) : M (List D) := M.bind gi fun ds ρ => lcL ρ vs t gt ge ds [] (wipeE ρ vs)
abbrev WF : WX := fun _ _ _ _ => False
def hide (H : Hp) (a : Addr) : Hp := fun b => if b = a then none else H b
theorem hide_ne {H : Hp} {a b : Addr} (h : b ≠ a) : hide H a b = H b := by unfold hide; rw [if_neg h]
theorem hide_self {H : Hp} {a : Addr} : hide H a a = none := by unfold hide; rw [if_pos rfl]
theorem keepE_len {ρ₀ ρ : Env} : ∀ {vs : List Nat}, (keepE ρ₀ ρ vs).length = ρ.length
  | [] => rfl
  | v :: vs => by unfold keepE; rw [List.length_set, keepE_len]
theorem keepE_get {ρ₀ ρ : Env} : ∀ (vs : List Nat) (j : Nat), (keepE ρ₀ ρ vs)[j]? = if j ∈ vs then (if j < ρ.length then some (match ρ₀[j]? with | some (.fz d) => Sl.fz d | _ => .un) else none) else ρ[j]?
  | [], j => by simp [keepE]
  | v :: vs, j => by
    unfold keepE
    by_cases e : j = v
    · subst e
      by_cases hj : j < ρ.length
      · rw [List.getElem?_set_self (by rw [keepE_len]; exact hj)]
        simp [hj]
      · rw [List.getElem?_eq_none (by rw [List.length_set, keepE_len]; omega)]
        simp [hj]
    · rw [List.getElem?_set_ne (Ne.symm e), keepE_get vs j]
      simp [e]
theorem wipeE_len {ρ : Env} : ∀ {vs : List Nat}, (wipeE ρ vs).length = ρ.length
  | [] => rfl
  | v :: vs => by unfold wipeE; rw [List.length_set, wipeE_len]
theorem wipeW_get {w : Ws} : ∀ {vs : List Nat} {j : Nat}, wipeW w vs j = if j ∈ vs then (fun _ => False) else w j
  | [], j => by simp [wipeW]
  | v :: vs, j => by
    by_cases e : j = v
    · simp [wipeW, e]
    · simp only [wipeW, if_neg e, wipeW_get (vs := vs), List.mem_cons, e, false_or, if_false]
mutual
theorem bindT_len : ∀ {t : Tg} {d : D} {ρ ρ' : Env}, bindT t d ρ = some ρ' → ρ'.length = ρ.length
  | .nm i, d, ρ, ρ', e => by
    unfold bindT at e
    split at e
    · cases e; simp
    · cases e
  | .tp ts, .tup ds, ρ, ρ', e => bindTs_len' (ts := ts) (ds := ds) (by simpa [bindT] using e)
  | .tp _, .non, _, _, e => by simp [bindT] at e
  | .tp _, .bl _, _, _, e => by simp [bindT] at e
  | .tp _, .int _, _, _, e => by simp [bindT] at e
  | .tp _, .str _, _, _, e => by simp [bindT] at e
  | .tp _, .lst _, _, _, e => by simp [bindT] at e
  | .tp _, .dic _, _, _, e => by simp [bindT] at e
  | .tp _, .set _, _, _, e => by simp [bindT] at e
  | .tp _, .obj _ _, _, _, e => by simp [bindT] at e
  | .tp _, .fn _ _, _, _, e => by simp [bindT] at e
theorem bindTs_len' : ∀ {ts : List Tg} {ds : List D} {ρ ρ' : Env}, bindTs ts ds ρ = some ρ' → ρ'.length = ρ.length
  | [], [], ρ, ρ', e => by simp [bindTs] at e; subst e; rfl
  | [], _ :: _, _, _, e => by simp [bindTs] at e
  | _ :: _, [], _, _, e => by simp [bindTs] at e
  | t :: ts, d :: ds, ρ, ρ', e => by
    simp only [bindTs] at e
    split at e
    · rename_i ρ1 e1
      rw [bindTs_len' e, bindT_len e1]
    · cases e
end
/-- an object beside is changed -/
theorem Rs.aside {F H : Hp} {w : Ws} {σ : St} {ρ : Env} {p : Addr} {o : HO} (R : Rs κ F H w σ ρ) (hD : ¬ Tw w p) (fD : F p = none) : Rs κ F (upd H p o) w σ ρ := by
  refine ⟨fun b u h => by rw [upd_ne (ne_of_none h fD)]; exact R.sub b u h, R.pin, R.len, fun j s hj => ?_, R.dis, fun i b h => ?_⟩
  · exact (R.slot j s hj).move (LeF.refl F) fun b o hb ho => by rw [upd_ne (fun q => hD ⟨j, by rw [← q]; exact hb⟩)]; exact ho
  · obtain ⟨f, o, ho⟩ := R.free i b h
    exact ⟨f, o, by rw [upd_ne (fun q => hD ⟨i, by rw [← q]; exact h⟩)]; exact ho⟩
/-- the block is left -/
theorem Rs.left {F F₀ H H₀ : Hp} {w w₀ : Ws} {σ : St} {ρ ρ₀ : Env} {vs : List Nat} {p : Addr} (R : Rs κ F H w (wipe σ vs) ρ) (R₀ : Rs κ F₀ H₀ w₀ σ ρ₀) (l : LeF F₀ F) (hD : ¬ Tw w p) (fD : F p = none) : Rs κ F (hide H p) (wipeW w vs) σ (keepE ρ₀ ρ vs) := by
  have len : σ.length = ρ.length := by rw [← R.len, wipe_length]
  refine ⟨fun b u h => ?_, R₀.pin, by rw [keepE_len]; exact len, fun j s hj => ?_, fun i j b h1 h2 => ?_, fun i b h => ?_⟩
  · rw [hide_ne (ne_of_none h fD)]; exact R.sub b u h
  · rw [keepE_get] at hj
    by_cases e : j ∈ vs
    · rw [if_pos e] at hj
      by_cases hl : j < ρ.length
      · rw [if_pos hl] at hj
        cases e0 : ρ₀[j]? with
        | none =>
          rw [e0] at hj
          cases hj
          cases ((σ[j]?).getD none) <;> trivial
        | some s0 =>
          rw [e0] at hj
          cases s0 with
          | un => cases hj; cases ((σ[j]?).getD none) <;> trivial
          | op d => cases hj; cases ((σ[j]?).getD none) <;> trivial
          | on d => cases hj; cases ((σ[j]?).getD none) <;> trivial
          | fz d =>
            cases hj
            obtain ⟨v, h1, h2⟩ := R₀.fz e0
            rw [h1]
            exact h2.le l
      · rw [if_neg hl] at hj; cases hj
    · rw [if_neg e] at hj
      have z := R.slot j s hj
      rw [wipe_get, if_neg e] at z
      rw [wipeW_get, if_neg e]
      exact z.move (LeF.refl F) fun b o hb ho => by rw [hide_ne (fun q => hD ⟨j, by rw [← q]; exact hb⟩)]; exact ho
  · rw [wipeW_get] at h1 h2
    split at h1
    · exact h1.elim
    · split at h2
      · exact h2.elim
      · exact R.dis i j b h1 h2
  · rw [wipeW_get] at h
    split at h
    · exact h.elim
    · obtain ⟨f, o, ho⟩ := R.free i b h
      exact ⟨f, o, by rw [hide_ne (fun q => hD ⟨i, by rw [← q]; exact h⟩)]; exact ho⟩
theorem lc_turns {t : Tg} {gt : M Bool} {ge : M D} {vs : List Nat} {F H : Hp} {w : Ws} {σ : St} {ρ : Env} {J : It} {ds : List D} {p : Addr} {Q : VK} (R : Rs κ F H w σ ρ) (it : ItOk κ F J ds) (hp : H p = none) (hv : (vs.all fun v => κ.pn.all fun q => q.1 != v) = true) (hs : ∀ j ∈ t.sl, j ∈ vs)
    (q : runAt κ W F H w σ (lcL ρ vs t gt ge ds [] (wipeE ρ vs)) fun ds F' H' w' _ => ∀ v F2 H2 wv, Grow F' H' F2 H2 → OpAt κ.K F2 H2 wv v (.lst ds) → (∀ b, wv b → F2 b = none ∧ H' b = none ∧ ∃ o, H2 b = some o) → Q v H2) :
    ∃ W' : Nat → Nat → Hp → Prop, (∃ m, W' 0 m (upd H p (.lst []))) ∧ ∀ i m H, W' i m H → (J.stop i H ∧ Q (.ref p) H) ∨ (J.go i H ∧ ∃ Nx : Hp → Prop, (∀ H', Nx H' → ∃ m', m' < m ∧ W' (i + 1) m' H') ∧ ∀ x H', J.yld i H x H' → rdG κ (bindT t) t.sl x (wipe σ vs) H' fun σ2 H2 => wipe σ2 vs = wipe σ vs ∧ rdT κ WF gt σ2 H2 fun b H3 =>
      if b = true then rdF κ WF ge σ2 H3 fun y H4 => ∃ acc, H4 p = some (.lst acc) ∧ acc.length < sizeLine ∧ Nx (upd H4 p (.lst (acc ++ [y]))) else Nx H3) := by
  have fp : F p = none := by
    cases e : F p with
    | none => rfl
    | some u => rcases R.sub p u e with z | ⟨_, ob, z⟩ <;> (rw [hp] at z; cases z)
  refine ⟨fun i m H' => m = ds.length - i ∧ i ≤ ds.length ∧ ∃ F' w' ρb acc av, Rs κ F' H' w' (wipe σ vs) ρb ∧ H' p = some (.lst av) ∧ RepL κ.K F' av acc ∧ F' p = none ∧ ¬ Tw w' p ∧ Ext F H (Tw w) F' H' (fun b => Tw w' b ∨ b = p) ∧
    runAt κ W F H w σ (lcL ρ vs t gt ge (ds.drop i) acc ρb) fun ds F' H' w' _ => ∀ v F2 H2 wv, Grow F' H' F2 H2 → OpAt κ.K F2 H2 wv v (.lst ds) → (∀ b, wv b → F2 b = none ∧ H' b = none ∧ ∃ o, H2 b = some o) → Q v H2,
    ⟨_, rfl, Nat.zero_le _, F, wipeW w vs, wipeE ρ vs, [], [], ?_, upd_same, .nil, fp, fun z => ?_, ?_, q⟩, ?_⟩
  · have g : Grow F H F (upd H p (.lst [])) := ⟨fun b u h => by
      rcases R.sub b u h with z | ⟨z, ob, y⟩
      · exact .inl (by rw [upd_ne (ne_of_none z hp)]; exact z)
      · exact .inr ⟨z, ob, by rw [upd_ne (ne_of_none y hp)]; exact y⟩, LeF.refl F, fun b o h => by rw [upd_ne (ne_of_none h hp)]; exact h, fun b o h => .inl h⟩
    exact (R.grown g).wiped hv
  · obtain ⟨j, hj⟩ := wipeW_le z
    obtain ⟨o, ho⟩ := (R.free j p hj).2
    rw [hp] at ho
    cases ho
  · exact ⟨LeF.refl F, fun b o h _ => by rw [upd_ne (ne_of_none h hp)]; exact h, fun b o h => .inl h, fun b h => by
      rcases h with h | h
      · exact .inr (wipeW_le h)
      · subst h; exact .inl hp⟩
  rintro i m H1 ⟨rfl, hi, F1, w1, ρb, acc, av, R1, d1, d2, d3, d4, E1, q1⟩
  by_cases hlt : i < ds.length
  · have ed : ds.drop i = ds[i] :: ds.drop (i + 1) := List.drop_eq_getElem_cons hlt
    rw [ed] at q1
    have e1 : ds[i]? = some ds[i] := List.getElem?_eq_getElem hlt
    obtain ⟨go, yl⟩ := (it i F1 H1 E1.le R1.sub).2 ds[i] e1
    refine .inr ⟨go, fun H' => ∃ F' w' ρb acc av, Rs κ F' H' w' (wipe σ vs) ρb ∧ H' p = some (.lst av) ∧ RepL κ.K F' av acc ∧ F' p = none ∧ ¬ Tw w' p ∧ Ext F H (Tw w) F' H' (fun b => Tw w' b ∨ b = p) ∧
      runAt κ W F H w σ (lcL ρ vs t gt ge (ds.drop (i + 1)) acc ρb) fun ds F' H' w' _ => ∀ v F2 H2 wv, Grow F' H' F2 H2 → OpAt κ.K F2 H2 wv v (.lst ds) → (∀ b, wv b → F2 b = none ∧ H' b = none ∧ ∃ o, H2 b = some o) → Q v H2,
      fun H' z => ⟨ds.length - (i + 1), by omega, rfl, hlt, z⟩, fun x H2 y => ?_⟩
    obtain ⟨F2, g2, r2⟩ := yl x H2 y
    unfold lcL at q1
    cases e2 : bindT t ds[i] ρb with
    | none => rw [e2] at q1; exact q1.elim
    | some ρ1 =>
      rw [e2] at q1
      refine ⟨F2, w1, ρb, _, ρ1, R1.grown g2, r2, e2, fun σ3 w3 R3 s3 a3 => ?_⟩
      have hl3 : σ3.length = σ.length := by
        have h1 := R3.len
        have h2 := (R1.grown g2).len
        rw [wipe_length] at h2
        have h3 : ρ1.length = ρb.length := bindT_len e2
        omega
      have hw3 : wipe σ3 vs = wipe σ vs := wipe_eq hl3 a3 hs
      refine ⟨hw3, F2, w3, ρ1, R3, ?_⟩
      -- the list at p stands beside
      have E2 : Ext F H (Tw w) F2 H2 (fun b => Tw w3 b ∨ b = p) := E1.trans ((g2.ext _).trans (Ext.sub fun b h => h.elim (fun h => .inl (s3 b h)) .inr))
      have p2 : H2 p = some (.lst av) := g2.keep _ _ d1
      have f2 : F2 p = none := by
        cases e : F2 p with
        | none => rfl
        | some u =>
          rcases g2.new p u e with z | z
          · rw [d3] at z; cases z
          · rw [d1] at z; cases z
      have n3 : ¬ Tw w3 p := fun z => d4 (s3 p z)
      have beside : ∀ {F' H' : Hp} {w' : Ws} {Fa Ha : Hp} {wa : Ws}, Ha p = some (.lst av) → Fa p = none → ¬ Tw wa p → Ext Fa Ha (Tw wa) F' H' (Tw w') → H' p = some (.lst av) ∧ F' p = none ∧ ¬ Tw w' p := fun {F' H' w' Fa Ha wa} h1 h2 h3 E => by
        refine ⟨E.keep p _ h1 h3, ?_, fun z => ?_⟩
        · cases e : F' p with
          | none => rfl
          | some u =>
            rcases E.new p u e with z | z | z
            · rw [h2] at z; cases z
            · rw [h1] at z; cases z
            · exact absurd z h3
        · rcases E.own p z with y | y
          · rw [h1] at y; cases y
          · exact h3 y
      have wide : ∀ {F' H' : Hp} {w' : Ws} {Fa Ha : Hp} {wa : Ws}, Ext Fa Ha (Tw wa) F' H' (Tw w') → Ext Fa Ha (fun b => Tw wa b ∨ b = p) F' H' (fun b => Tw w' b ∨ b = p) := fun E => E.wide (fun b h => .inl h) fun b h => h.elim .inl fun h => .inr (.inr h)
      cases e3 : gt ρ1 with
      | stuck => simp only [e3] at q1; exact q1.elim
      | err x ρ' => simp only [e3] at q1; exact q1.elim
      | ok b ρ2 =>
        cases b with
        | false =>
          simp only [e3] at q1
          intro F3 H3 w4 R4 E4
          refine L2.iteF ?_
          obtain ⟨b1, b2, b3⟩ := beside p2 f2 n3 E4
          have R5 := R4.wiped hv
          rw [hw3] at R5
          exact ⟨F3, _, _, acc, av, R5, b1, (d2.le g2.le).le E4.le, b2, fun z => b3 (wipeW_le z), (E2.trans (wide E4)).trans (Ext.sub fun b h => h.elim (fun h => .inl (wipeW_le h)) .inr), q1⟩
        | true =>
          simp only [e3] at q1
          intro F3 H3 w4 R4 E4
          refine L2.iteT ?_
          obtain ⟨b1, b2, b3⟩ := beside p2 f2 n3 E4
          refine ⟨F3, w4, ρ2, R4, ?_⟩
          cases e4 : ge ρ2 with
          | stuck => simp only [e4] at q1; exact q1.elim
          | err x ρ' => simp only [e4] at q1; exact q1.elim
          | ok y ρ3 =>
            simp only [e4] at q1
            split at q1
            · rename_i hz
              intro F4 H4 w5 R5 E5 yv ry
              obtain ⟨c1, c2, c3⟩ := beside b1 b2 b3 E5
              have rl := ((d2.le g2.le).le E4.le).le E5.le
              refine ⟨av, c1, by rw [rl.length]; exact hz, F4, wipeW w5 vs, wipeE ρ3 vs, acc ++ [y], av ++ [yv], ?_, upd_same, rl.append (.cons ry .nil), c2, fun z => c3 (wipeW_le z), ?_, q1⟩
              · have R6 := R5.wiped hv
                rw [hw3] at R6
                exact R6.aside (fun z => c3 (wipeW_le z)) c2
              · exact ((E2.trans (wide E4)).trans (wide E5)).trans ⟨LeF.refl _, fun b o h n => by rw [upd_ne (fun z => n (.inr z))]; exact h, fun b o h => .inl h, fun b h => .inr (h.elim (fun h => .inl (wipeW_le h)) .inr)⟩
            · exact q1.elim
  · have e : i = ds.length := by omega
    subst e
    rw [List.drop_length] at q1
    unfold lcL at q1
    refine .inl ⟨(it _ F1 H1 E1.le R1.sub).1 rfl, ?_⟩
    refine q1 F1 (hide H1 p) (wipeW w1 vs) (R1.left R E1.le d4 d3) ⟨E1.le, fun b o h n => ?_, fun b o h => E1.new b o h, fun b h => ?_⟩ (.ref p) F1 H1 (fun b => b = p) ⟨R1.sub, LeF.refl _, fun b o h => ?_, fun b o h => .inl h⟩ ⟨p, _, rfl, rfl, d1, .lst d2⟩ fun b e => ?_
    · rw [hide_ne (ne_of_none h hp)]; exact E1.keep b o h n
    · exact E1.own b (.inl (wipeW_le h))
    · by_cases eb : b = p
      · subst eb; rw [hide_self] at h; cases h
      · rw [hide_ne eb] at h; exact h
    · subst e; exact ⟨d3, hide_self, _, d1⟩
def gT : M Bool := M.pure true
abbrev DTs (X : Cx) (κ : Kx) (W : WX) (ifs : List Expr) (g : M Bool) : Prop := PTs X ifs (rdT κ W g)
theorem pts_weak {ifs : List Expr} {t t' : TT} (h : PTs X ifs t) (i : ∀ σ H Q, t' σ H Q → t σ H Q) : PTs X ifs t' := ⟨fun pins s σ H Q I q => h.run pins s σ H Q I (i σ H Q q)⟩
theorem dts_nil : DTs X κ W [] gT := pts_weak pts_nil fun σ H Q q => by
  obtain ⟨F, w, ρ, R, q⟩ := q
  exact q F H w R (Ext.refl _ _ _)
theorem dts_one {g : M Bool} (h : DT X κ W c g) : DTs X κ W [c] g := pts_one h
theorem lc_read {vs : List Nat} {t : Tg} {gi : M (List D)} {gt : M Bool} {ge : M D} {σ : St} {H : Hp} {Q : VK} (hv : (vs.all fun v => κ.pn.all fun q => q.1 != v) = true) (hs : ∀ j ∈ t.sl, j ∈ vs)
    (q : rdO κ W (M.bind (gLc vs gi t gt ge) fun ds => M.pure (.lst ds)) σ H Q) : tLc (rdI κ W gi) (rdG κ (bindT t) t.sl) (rdT κ WF gt) (rdF κ WF ge) vs σ H Q := by
  have q1 := run.bind (P' := fun ds F' H' w' _ => ∀ v F2 H2 wv, Grow F' H' F2 H2 → OpAt κ.K F2 H2 wv v (.lst ds) → (∀ b, wv b → F2 b = none ∧ H' b = none ∧ ∃ o, H2 b = some o) → Q v H2) q fun ds F1 H1 w1 ρ1 R1 z => z F1 H1 w1 R1 (Ext.refl _ _ _)
  refine run.bind q1 fun ds F1 H1 w1 ρ1 R1 z J F2 H2 g2 it p hp => ?_
  refine lc_turns (W := W) (R1.grown g2) it hp hv hs ?_
  have E := g2.ext (Tw w1)
  cases e : lcL ρ1 vs t gt ge ds [] (wipeE ρ1 vs) with
  | stuck => simp only [e] at z; exact z
  | err x ρ' => simp only [e] at z; exact fun c dd F' H' w' R' E' k => z c dd F' H' w' R' (E.trans E') k
  | ok a ρ' => simp only [e] at z; exact fun F' H' w' R' E' => z F' H' w' R' (E.trans E')
variable {scope : Scope} {own : List (Str × Nat)} {ifs : List Expr}
theorem do_lc {t : Tg} {gi : M (List D)} {gt : M Bool} {ge : M D} (hc : X.calm = true) (hN : X.N.Nodup) (hi : DI X κ W tg iter gi) (ok : BlkOk X.N X.env.scope scope own) (hv : ((own.map (·.2)).all fun v => κ.pn.all fun q => q.1 != v) = true) (hsl : (t.sl.all fun j => (own.map (·.2)).contains j) = true)
    (hg : ∀ (s : Shared) (H : Hp) (C : Addr) (cl : List (Str × Addr)) (fp : List Addr), DG (X.blk s H scope (compEnvC scope cl C X.env) fp) κ tg t) (ht : ∀ (s : Shared) (H : Hp) (C : Addr) (cl : List (Str × Addr)) (fp : List Addr), DTs (X.blk s H scope (compEnvC scope cl C X.env) fp) κ WF ifs gt)
    (he : ∀ (s : Shared) (H : Hp) (C : Addr) (cl : List (Str × Addr)) (fp : List Addr), DE (X.blk s H scope (compEnvC scope cl C X.env) fp) κ WF elt ge) (hs : ∀ x, foldedSetIterable iter X.env x = pure x := by intro _; rfl) :
    DO X κ W (.ListComp elt [⟨tg, iter, ifs, 0⟩] scope pos) (M.bind (gLc (own.map (·.2)) gi t gt ge) fun ds => M.pure (.lst ds)) :=
  pe_weak (pe_lc hc hN hi ok hg ht he hs) fun σ H Q q => lc_read hv (fun j hj => by simpa using List.all_eq_true.mp hsl j hj) q
theorem ds_setLc {t : Tg} {gi : M (List D)} {gt : M Bool} {ge : M D} {i : Nat} {y : Str} {py spos : Pos} (hc : X.calm = true) (hN : X.N.Nodup) (hy : X.N[i]? = some y) (hyl : X.env.scope.names.lookup y = some .local) (hp : κ.pn.all (fun q => q.1 != i) = true)
    (hsw : swapsWith (.ListComp elt [⟨tg, iter, ifs, 0⟩] scope pos) (some (.Name y py)) spos.line X.env = pure true) (hi : DI X κ W tg iter gi) (ok : BlkOk X.N X.env.scope scope own) (hv : ((own.map (·.2)).all fun v => κ.pn.all fun q => q.1 != v) = true) (hsl : (t.sl.all fun j => (own.map (·.2)).contains j) = true)
    (hg : ∀ (s : Shared) (H : Hp) (C : Addr) (cl : List (Str × Addr)) (fp : List Addr), DG (X.blk s H scope (compEnvC scope cl C X.env) fp) κ tg t) (ht : ∀ (s : Shared) (H : Hp) (C : Addr) (cl : List (Str × Addr)) (fp : List Addr), DTs (X.blk s H scope (compEnvC scope cl C X.env) fp) κ WF ifs gt)
    (he : ∀ (s : Shared) (H : Hp) (C : Addr) (cl : List (Str × Addr)) (fp : List Addr), DE (X.blk s H scope (compEnvC scope cl C X.env) fp) κ WF elt ge) (hs : ∀ x, foldedSetIterable iter X.env x = pure x := by intro _; rfl) :
    DS X κ W (.Assign [.Name y py] (.ListComp elt [⟨tg, iter, ifs, 0⟩] scope pos) spos) (sBind (M.bind (gLc (own.map (·.2)) gi t gt ge) fun ds => M.pure (.lst ds)) (sSetO i)) :=
  ps_weak (ps_setLc hc hN hy hyl hsw hi ok hg ht he hs) fun D₀ σ H q => lc_read hv (fun j hj => by simpa using List.all_eq_true.mp hsl j hj) (run.imp (sBind_run q) fun d F' H' w' ρ' R' z v F2 H2 wv g r f => set_op hp R' z g r f)
end
end DL
/-! DLA: ranges and enumerations walked, defs by their bodies, calls that change their first argument. -/
namespace DL
open PySem L2
section
variable {X : Cx} {κ : Kx} {W : WX} {e a b c tg iter elt : Expr} {es rest : List Expr} {st : Stmt} {sts body : List Stmt} {pos p2 : Pos} {s t : SM}
/-! ### range -/
theorem itr_ok {F : Hp} (n : Int) : ItOk κ F (Itr 0 n.toNat) (rgD 0 n) := fun i F' H' l sb => by
  have hl : (rgD 0 n).length = n.toNat := by simp [rgD]
  refine ⟨fun hi => by rw [hl] at hi; exact Nat.le_of_eq hi, fun d e => ?_⟩
  have hi : i < n.toNat := by rw [← hl]; exact (List.getElem?_eq_some_iff.mp e).1
  have ed : d = .int (0 + (i : Nat)) := by
    unfold rgD at e
    rw [List.getElem?_map, List.getElem?_range (by simpa using hi)] at e
    simpa using e.symm
  subst ed
  exact ⟨hi, fun x H3 ⟨eH, ex⟩ => by subst eH; subst ex; exact ⟨F', Grow.refl sb, .int⟩⟩
def dRgI : D → Option (List D)
  | .int n => if -(2 ^ 62) ≤ n ∧ n < 2 ^ 62 then some (rgD 0 n) else none
  | _ => none
def one1 {α : Type} (p : D → Option α) : List D → Option α
  | [d] => p d
  | _ => none
theorem one1_some {α : Type} {p : D → Option α} : ∀ {ds : List D} {a : α}, one1 p ds = some a → ∃ d, ds = [d] ∧ p d = some a
  | [d], _, h => ⟨d, rfl, h⟩
  | [], _, h => by cases h
  | _ :: _ :: _, _, h => by cases h
def gRead1 {α : Type} (p : D → Option α) (o : M LV) : M α := gB (one1 p) [o]
theorem di_range1 {o : M LV} {p₀ : Pos} (hg : Gl X "range") (hm : X.mg "range" = none) (ha : DA X κ W [a] [o]) (hs : starEach [a] X.env = [(false, eval a X.env)] := by rfl) : DI X κ W tg (.Call (.Name "range" p₀) [a] [] pos) (gRead1 dRgI o) :=
  pi_weak (pi_range1 hg hm ha hs) fun σ H R q => gB_core q fun vs F H w ρ ds d R bl e k => by
    obtain ⟨d0, rfl, e⟩ := one1_some e
    obtain ⟨v, rfl, b⟩ := bl.one
    cases d0 with
    | int n =>
      have e : (if -(2 ^ 62) ≤ n ∧ n < 2 ^ 62 then some (rgD 0 n) else none) = some d := e
      by_cases h : -(2 ^ 62) ≤ n ∧ n < 2 ^ 62
      · rw [if_pos h] at e
        cases e
        cases b.int
        exact ⟨n, rfl, h.1, h.2, k F H w R (Ext.refl _ _ _) _ F H (Grow.refl R.sub) (itr_ok n)⟩
      · rw [if_neg h] at e; cases e
    | _ => cases e
/-! ### enumerate of a list or a tuple -/
theorem meets_enumerate_newT (l : Addr) (items : Array Value) (n : Nat) (dct : Option Addr) (sl : Array (Option Value)) :
    Meets (Builtin.«enumerate.__new__» ⟨[.type "enumerate", .ref l], []⟩) (fun _ R s => s.heap.get? l = some { cls := .type "tuple", dict := dct, data := .seq items n, slots := sl } ∧
      R (.ok (.ret (.ref (s.heap.push { cls := .type "tuple_iterator", data := .fields #[.ref l, .int 0 0] }).objs.size)))
        { s with heap := (s.heap.push { cls := .type "tuple_iterator", data := .fields #[.ref l, .int 0 0] }).push { cls := .type "enumerate", data := .fields #[.none, .bool false, .ref s.heap.objs.size, rawInt 0, .none, .none] } }) :=
  .of_wp fun prog w A R s h => by
    obtain ⟨hp, g, d, tk, os⟩ := s; obtain ⟨hl, h⟩ := h
    have hsub := sub_enumerate
    have hL : Heap.IsTuple (Shared.heap ⟨hp, g, d, tk, os⟩) l items := ⟨_, hl, rfl, n, rfl⟩
    wp_walk using AutoSeq1.wpAny_loadPart' hl
    refine wpAny_stack_any fun st => wpAny_pure ?_
    split
    · rename_i c _ _ _ _ _
      cases (c == Value.type "enumerate")
      · wp_walk using AutoSeq1.wpAny_loadPart' hl, wpAny_pyIter_tuple hL
        exact ⟨_, rfl, h⟩
      · wp_walk using AutoSeq1.wpAny_loadPart' hl, wpAny_pyIter_tuple hL
        exact ⟨_, rfl, h⟩
    · wp_walk using AutoSeq1.wpAny_loadPart' hl, wpAny_pyIter_tuple hL
      exact ⟨_, rfl, h⟩
theorem call_enumerate_tuple {prog : Program} {w : World} {A : Around} {E : Value → Shared → Prop} {s : Shared} {l : Addr} {items : Array Value} {Q : Value → Shared → Prop} (hL : s.heap.IsTuple l items)
    (h : ∀ h', IsEnum h' (s.heap.objs.size + 1) s.heap.objs.size 0 .none → h'.IsTupleIter s.heap.objs.size l 0 → h'.objs.size = s.heap.objs.size + 2 →
      (∀ b o, s.heap.get? b = some o → h'.get? b = some o) → Q (.ref (s.heap.objs.size + 1)) { s with heap := h' }) :
    wpAny (model prog w) A (call (.type "enumerate") [.ref l]) Q E s := by
  obtain ⟨⟨c, dct, dt, sl⟩, hl, hc, n, hd⟩ := hL
  replace hc : c = .type "tuple" := hc
  replace hd : dt = .seq items n := hd
  subst hc hd
  refine callType_new F.called_enumerate (by decide) (F.typeCall_enumerate_1 _) (F.newCall_enumerate_1 _) (fun obj => F.args_object_init_2 obj _) F.entry_enumerate_new
    (meets_enumerate_newT l items n dct sl) ⟨hl, ?_⟩
  have hz : (s.heap.push { cls := .type "tuple_iterator", data := .fields #[.ref l, .int 0 0] }).objs.size = s.heap.objs.size + 1 := Heap.size_push ..
  show _ ∧ _
  rw [hz]
  have he : IsEnum ((s.heap.push { cls := .type "tuple_iterator", data := .fields #[.ref l, .int 0 0] }).push
      { cls := .type "enumerate", data := .fields #[.none, .bool false, .ref s.heap.objs.size, rawInt 0, .none, .none] }) (s.heap.objs.size + 1) s.heap.objs.size 0 .none := by
    have := Heap.get?_push_size (s.heap.push { cls := .type "tuple_iterator", data := .fields #[.ref l, .int 0 0] })
      (o := { cls := .type "enumerate", data := .fields #[.none, .bool false, .ref s.heap.objs.size, rawInt 0, .none, .none] }) rfl
    rw [hz] at this; exact this
  refine ⟨⟨_, he, rfl⟩, h _ he ⟨_, Heap.get?_push_of_some _ (Heap.get?_push_size _ rfl), rfl, rfl⟩ (by rw [Heap.size_push, hz]) fun b o x => Heap.get?_push_of_some _ (Heap.get?_push_of_some _ x)⟩
/-- the tuple at a, the items in new pairs -/
def IteT (K : PySem.W.Frag) (a : Addr) : It :=
  ⟨fun i H => ∃ (xs : List V) (x : V), SqT K H a xs ∧ xs[i]? = some x, fun i H v H' => ∃ T x, v = .ref T ∧ H T = none ∧ H' = upd H T (.tup [.int (i : Nat), x]) ∧ ∀ xs, SqT K H a xs → xs[i]? = some x, fun i H => ∃ xs : List V, SqT K H a xs ∧ xs.length = i⟩
theorem turn_enumT {P : Program} {w : World} {K : PySem.W.Frag} {elts : List Expr} {kk : Nat} {tpos : Pos} (a e it : Addr) :
    Turn P w K (.Tuple elts kk tpos) (IteT K a) [e, it] e (fun i h => (∃ old, IsEnum h e it ((i : Nat) : Int) old) ∧ h.IsTupleIter it a i ∧ e ≠ it) where
  mem := by simp
  obj := fun i h st b hb => by
    obtain ⟨⟨old, he⟩, ⟨o, ho, hc, hd⟩, _⟩ := st
    have e' : b = e ∨ b = it := by simpa using hb
    rcases e' with z | z
    · rw [z]; exact ⟨_, he, fun v q => nomatch q⟩
    · rw [z]; exact ⟨o, ho, fun v q => by rw [hd] at q; cases q⟩
  keep := fun i h h' st k => let ⟨⟨old, he⟩, hi, hne⟩ := st; ⟨⟨old, k e (by simp) _ he⟩, hi.at fun o q => k it (by simp) o q, hne⟩
  item := by
    intro X hP hw hK hc i pins s σ H E I hf st hg
    subst hP hw hK
    obtain ⟨⟨old, he⟩, hit, hne⟩ := st
    obtain ⟨xs, x, hq, hx⟩ := hg
    obtain ⟨its, rv, p, hz⟩ := I.tuple hq
    obtain ⟨u, hu, ru⟩ := rv.get hx
    have hel : e < s.heap.objs.size := Heap.lt_size he
    have hil : it < s.heap.objs.size := by obtain ⟨_, q, _⟩ := hit; exact Heap.lt_size q
    have pt : s.heap.IsTuple a its.toArray := p
    have hat : a ≠ it := by
      rintro rfl
      obtain ⟨o1, h1, c1, d1⟩ := hit
      obtain ⟨o2, h2, c2, n2, d2⟩ := pt
      rw [h1] at h2; cases h2; rw [d1] at d2; cases d2
    have hae : a ≠ e := by
      rintro rfl
      obtain ⟨o2, h2, c2, n2, d2⟩ := pt
      unfold IsEnum at he
      rw [he] at h2; cases h2; cases d2
    have D := Draws.tuple (prog := X.prog) (w := X.w) (A := X.A.in1) (show X.A.in1.handled = none from I.ok.hd hc) it a hat its.toArray
    have hux : its.toArray[i]? = some u := by simpa using hu
    refine wpAny_pyNext_enum_itemD D he ⟨hit, pt⟩ (Array.getElem?_eq_some_iff.mp hux).1 hne (by simp; exact ⟨hne, Ne.symm hae⟩) fun x' h' tk hx' ho hit' hT hsz hk => ?_
    have ex : x' = u := by rw [hux] at hx'; exact (Option.some.inj hx').symm
    subst ex
    refine ⟨_, rfl, wpAny_letOwnedTupleGo_enum (s := { s with heap := h', toks := tk + 1 }) ho fun h'' he' sb => ?_⟩
    have hT2 : h''.get? s.heap.objs.size = some { cls := .type "tuple", data := .seq #[.int i tk, x'] } := (sb.2 _ (Nat.ne_of_gt hel)).trans hT
    have new : ObjOk X.prog X.w (upd H s.heap.objs.size (.tup [.int (i : Nat), x])) h'' s.heap.objs.size (.tup [.int (i : Nat), x]) :=
      ⟨by show 2 ≤ sizeLine; decide, [.int i tk, x'], .cons ⟨_, rfl⟩ (.cons ru .nil), ⟨_, hT2, rfl, _, rfl⟩⟩
    have I1 : Inv X pins σ (upd H s.heap.objs.size (.tup [.int (i : Nat), x])) { s with heap := h'', toks := tk + 1 } :=
      I.turnedNew (ch := [e, it]) (fun b ob hb q => (sb.2 b (fun z => hb (by simp [z]))).trans (hk b ob (fun z => hb (by simp [z])) (fun z => hb (by simp [z])) q)) hf (Nat.le_refl _) new
    refine ⟨.ref s.heap.objs.size, _, I1, rfl, ⟨_, x, rfl, I.hok.fresh (Nat.le_refl _), rfl, fun ys hy => by rw [I.tuple_inj hy hq]; exact hx⟩, ⟨⟨x', ?_⟩, hit'.1.at fun o q => (sb.2 it (Ne.symm hne)).trans q, hne⟩, fun b hb => ?_⟩
    · have e1 : ((i + 1 : Nat) : Int) = (i : Int) + 1 := by omega
      rw [e1]; exact he'
    · have hb' : b < s.heap.objs.size := by
        have e' : b = e ∨ b = it := by simpa using hb
        rcases e' with z | z
        · rw [z]; exact hel
        · rw [z]; exact hil
      rw [upd_ne (Nat.ne_of_lt hb')]
      exact (hf b hb).1
  done := by
    intro X hP hw hK hc i pins s σ H E I hf st hg
    subst hP hw hK
    obtain ⟨⟨old, he⟩, hit, hne⟩ := st
    obtain ⟨xs, hq, hx⟩ := hg
    obtain ⟨its, rv, p, hz⟩ := I.tuple hq
    obtain ⟨f0, f1, f2, f3, f4, f5⟩ := hf it (by simp)
    have hl := rv.length
    have pt : s.heap.IsTuple a its.toArray := p
    have hat : a ≠ it := by
      rintro rfl
      obtain ⟨o1, h1, c1, d1⟩ := hit
      obtain ⟨o2, h2, c2, n2, d2⟩ := pt
      rw [h1] at h2; cases h2; rw [d1] at d2; cases d2
    have D := Draws.tuple (prog := X.prog) (w := X.w) (A := X.A.in1) (show X.A.in1.handled = none from I.ok.hd hc) it a hat its.toArray
    have en : i = its.toArray.size := by rw [List.size_toArray, ← hl, hx]
    exact wpAny_pyNext_enum_endD D he ⟨by rw [← en]; exact hit, pt⟩ fun h' eb => ⟨rfl, I.turned (t' := s.toks) (fun b o hb q => eb b o hb q) f0 f1 f3 f4 f5⟩
  self := fun A i s Q E st h => let ⟨⟨_, he⟩, _⟩ := st; wpAny_pyIter_enum he h
/-- enumerate of a list or of a tuple -/
def iEnumA (K : PySem.W.Frag) (ta : TA) : TI := fun σ H R => ta σ H fun vs H1 => ∃ a xs, vs = [.ref a] ∧ ((SqL K H1 a xs ∧ R (Ite K a) H1) ∨ (SqT K H1 a xs ∧ R (IteT K a) H1))
theorem pi_enumA {p₀ tpos : Pos} {elts : List Expr} {kk : Nat} {ta : TA} (hg : Gl X "enumerate") (hm : X.mg "enumerate" = none) (ha : PA X [e] ta) (hs : starEach [e] X.env = [(false, eval e X.env)] := by rfl) :
    PI X (.Tuple elts kk tpos) (.Call (.Name "enumerate" p₀) [e] [] pos) (iEnumA X.K ta) := by
  refine ⟨fun pins s σ H R I h => ?_⟩
  refine PyProof.Rows.Call_ (ld_blt I hg hm PyProof.Rows.boot_enumerate (PyProof.Rows.callWith_type1 (thn (ha.run pos pins s σ H _ I h) fun us s1 ⟨vs, H1, I1, r1, q1⟩ => ?_) hs rfl))
  obtain ⟨a, xs, ex, q⟩ := q1
  subst ex
  cases r1 with
  | cons r rr =>
    cases rr
    cases r
    have fpk : ∀ (h' : Heap), ∀ b ∈ [s1.heap.objs.size + 1, s1.heap.objs.size], FpOk X pins H1 b := fun h' b hb => by
      have e' : b = s1.heap.objs.size + 1 ∨ b = s1.heap.objs.size := by simpa using hb
      have hle : s1.heap.objs.size ≤ b := by
        rcases e' with z | z
        · rw [z]; exact Nat.le_add_right _ _
        · rw [z]; exact Nat.le_refl _
      exact I1.fpOk hle (I1.hok.fresh hle)
    rcases q with ⟨hq, q⟩ | ⟨hq, q⟩
    · obtain ⟨its, rv, p', hz⟩ := I1.list hq
      refine call_enumerate_list p'.isList fun h' he hit hsz hk => wpAny_pyIter_enum he ?_
      have I2 : Inv X pins σ H1 { s1 with heap := h' } := I1.kept (t' := s1.toks) hk
      exact ⟨s1.heap.objs.size + 1, [s1.heap.objs.size + 1, s1.heap.objs.size], _, _, H1, rfl, I2, turn_enum a (s1.heap.objs.size + 1) s1.heap.objs.size, ⟨⟨.none, he⟩, hit, Nat.succ_ne_self _⟩, fpk h', q⟩
    · obtain ⟨its, rv, p', hz⟩ := I1.tuple hq
      have pt : s1.heap.IsTuple a its.toArray := p'
      refine call_enumerate_tuple pt fun h' he hit hsz hk => wpAny_pyIter_enum he ?_
      have I2 : Inv X pins σ H1 { s1 with heap := h' } := I1.kept (t' := s1.toks) hk
      exact ⟨s1.heap.objs.size + 1, [s1.heap.objs.size + 1, s1.heap.objs.size], _, _, H1, rfl, I2, turn_enumT a (s1.heap.objs.size + 1) s1.heap.objs.size, ⟨⟨.none, he⟩, hit, Nat.succ_ne_self _⟩, fpk h', q⟩
def enumD (ds : List D) : List D := (List.range ds.length).zipWith (fun i d => .tup [.int (i : Nat), d]) ds
theorem enumD_get {ds : List D} {i : Nat} {d : D} (h : (enumD ds)[i]? = some d) : ∃ x, ds[i]? = some x ∧ d = .tup [.int (i : Nat), x] := by
  unfold enumD at h
  rw [List.getElem?_zipWith] at h
  cases e : ds[i]? with
  | none => simp [e] at h
  | some x =>
    have hi : i < ds.length := (List.getElem?_eq_some_iff.mp e).1
    rw [List.getElem?_range hi, e] at h
    exact ⟨x, rfl, by simpa using h.symm⟩
theorem enumD_len (ds : List D) : (enumD ds).length = ds.length := by simp [enumD]
theorem pair_grow {F' H' : Hp} {T : Addr} {i : Int} {x : V} {d : D} (sb : Sub F' H') (hT : H' T = none) (r : Rep κ.K F' x d) : ∃ F3, Grow F' H' F3 (upd H' T (.tup [.int i, x])) ∧ Rep κ.K F3 (.ref T) (.tup [.int i, d]) := by
  obtain ⟨g, r⟩ := grow_tup (κ := κ) (xs := [.int i, x]) (ds := [.int i, d]) sb hT (.cons .int (.cons r .nil))
  exact ⟨_, g, r⟩
theorem di_enum {g : M D} {p₀ tpos : Pos} {elts : List Expr} {kk : Nat} (hK : κ.K = X.K) (hg : Gl X "enumerate") (hm : X.mg "enumerate" = none) (ha : DE X κ W e g) (hs : starEach [e] X.env = [(false, eval e X.env)] := by rfl)
    (hs2 : starEach (e :: []) X.env = (false, eval e X.env) :: starEach [] X.env := by rfl) : DI X κ W (.Tuple elts kk tpos) (.Call (.Name "enumerate" p₀) [e] [] pos) (M.bind (gU' dItems g) fun ds => M.pure (enumD ds)) :=
  pi_weak (pi_enumA hg hm (pa_cons ha pa_nil hs2) hs) fun σ H R q => by
    have q1 := run.bind (P' := fun ds F' H' w' _ => ∀ J F2 H2, Grow F' H' F2 H2 → ItOk κ F2 J (enumD ds) → R J H2) q fun ds F1 H1 w1 ρ1 R1 z => z F1 H1 w1 R1 (Ext.refl _ _ _)
    refine run.imp (gU'_ok q1) fun d F1 H1 w1 ρ1 R1 ⟨ds, e, _, k⟩ v r => ?_
    cases d <;> try (cases e; done)
    · cases e
      cases r with
      | tup h r =>
        refine ⟨_, _, rfl, .inr ⟨hK ▸ R1.sub.sqT h, k _ F1 H1 (Grow.refl R1.sub) fun i F' H' l sb => ?_⟩⟩
        have h' : SqT X.K H' _ _ := hK ▸ sb.sqT (SqT_le l h)
        refine ⟨fun hi => ⟨_, h', by rw [r.length, ← hi, enumD_len]⟩, fun d e => ?_⟩
        obtain ⟨x, e1, rfl⟩ := enumD_get e
        obtain ⟨v, e2, e3⟩ := r.get e1
        refine ⟨⟨_, v, h', e2⟩, fun y H3 ⟨T, z, ey, hT, eH, ez⟩ => ?_⟩
        have ez := ez _ h'
        rw [e2] at ez
        cases ez
        subst ey eH
        exact pair_grow sb hT (e3.le l)
    · cases e
      cases r with
      | lst h r =>
        refine ⟨_, _, rfl, .inl ⟨hK ▸ R1.sub.sqL h, k _ F1 H1 (Grow.refl R1.sub) fun i F' H' l sb => ?_⟩⟩
        have h' : SqL X.K H' _ _ := hK ▸ sb.sqL (SqL_le l h)
        refine ⟨fun hi => ⟨_, h', by rw [r.length, ← hi, enumD_len]; exact Nat.le_refl _⟩, fun d e => ?_⟩
        obtain ⟨x, e1, rfl⟩ := enumD_get e
        obtain ⟨v, e2, e3⟩ := r.get e1
        refine ⟨⟨_, v, h', e2⟩, fun y H3 ⟨T, z, ey, hT, eH, ez⟩ => ?_⟩
        have ez := ez _ h'
        rw [e2] at ez
        cases ez
        subst ey eH
        exact pair_grow sb hT (e3.le l)
end
end DL
/-! DLB: defs by their bodies; calls that change their first argument. -/
namespace DL
open PySem L2
/-! ### a def's body as a function of data -/
def env0 (N : Nat) (ds : List D) : Env := ds.map .fz ++ List.replicate (N - ds.length) .un
def mkF (n N : Nat) (s : SM) (ds : List D) : FR D := if ds.length = n then match s (env0 N ds) with
  | .nx _ => .ok .non
  | .ret d _ => .ok d
  | .err x _ => .err x
  | _ => .stuck
  else .stuck
def mkO (n N : Nat) (s : SM) (ds : List D) : FR D := if ds.length = n then match s (env0 N ds) with
  | .ro d _ => .ok d
  | .err x _ => .err x
  | _ => .stuck
  else .stuck
def out0 (d : D) (ρ : Env) : FR (D × D) := match ρ[(0 : Nat)]? with
  | some (.op c) => .ok (d, c)
  | _ => .stuck
/-- the first parameter an open container -/
def mkI (n N : Nat) (s : SM) (c : D) (ds : List D) : FR (D × D) := if ds.length + 1 = n then match s (.op c :: env0 (N - 1) ds) with
  | .nx ρ => out0 .non ρ
  | .ret d ρ => out0 d ρ
  | _ => .stuck
  else .stuck
theorem repL_slots {K : PySem.W.Frag} {F H : Hp} {w : AS} : ∀ {vs : List V} {ds : List D} (n : Nat), RepL K F vs ds → ∀ (i : Nat) s, (ds.map Sl.fz ++ List.replicate n .un)[i]? = some s → SlOk K F H w (((vs.map some ++ List.replicate n none)[i]?).getD none) s
  | _, _, n, .nil, i, s, h => by
    have h : (List.replicate n Sl.un)[i]? = some s := by simpa using h
    rw [List.getElem?_replicate] at h
    split at h
    · cases h
      cases ((([] : List V).map some ++ List.replicate n none)[i]?.getD none) <;> trivial
    · cases h
  | _, _, n, .cons r rs, 0, s, h => by
    have h : some (Sl.fz _) = some s := h
    cases h
    exact r
  | _, _, n, .cons r rs, i + 1, s, h => repL_slots n rs i s h
theorem rs_start {K : PySem.W.Frag} {F H : Hp} {vs : List V} {ds : List D} (N : List Str) (r : RepL K F vs ds) (s : Sub F H) : Rs ⟨K, []⟩ F H (fun _ _ => False) (start N vs) (env0 N.length ds) := by
  refine ⟨s, (fun q h => (nomatch h)), ?_, fun i sl h => ?_, fun _ _ _ h => h.elim, fun _ _ h => h.elim⟩
  · unfold L2.start env0
    simp [r.length]
  · unfold L2.start
    unfold env0 at h
    rw [r.length]
    exact repL_slots _ r i sl h
theorem rs_startI {K : PySem.W.Frag} {F H : Hp} {w : AS} {v0 : V} {c : D} {vs : List V} {ds : List D} (N : List Str) (h0 : OpAt K F H w v0 c) (hw : ∀ b, w b → F b = none ∧ ∃ o, H b = some o) (r : RepL K F vs ds) (s : Sub F H) :
    Rs ⟨K, [(0, v0)]⟩ F H (fun j b => j = 0 ∧ w b) (start N (v0 :: vs)) (.op c :: env0 (N.length - 1) ds) := by
  have e : start N (v0 :: vs) = some v0 :: (vs.map some ++ List.replicate (N.length - 1 - ds.length) none) := by
    unfold L2.start
    have h1 : N.length - (v0 :: vs).length = N.length - 1 - ds.length := by
      rw [List.length_cons, r.length]
      omega
    rw [h1]
    rfl
  rw [e]
  refine ⟨s, fun q h => ?_, ?_, fun i sl h => ?_, fun i j b h1 h2 => h1.1.trans h2.1.symm, fun i b h => hw b h.2⟩
  · have h : q = (0, v0) := by simpa using h
    subst h
    rfl
  · simp [env0, r.length]
  · cases i with
    | zero =>
      have h : some (Sl.op c) = some sl := h
      cases h
      obtain ⟨a, o, h1, h2, h3, h4⟩ := h0
      exact ⟨a, o, h1, ⟨rfl, h2⟩, h3, h4⟩
    | succ i =>
      have z := repL_slots (K := K) (F := F) (H := H) (w := fun b => i + 1 = 0 ∧ w b) (N.length - 1 - ds.length) r i sl h
      exact z
section
variable {P : Program} {w : World} {K : PySem.W.Frag} {mg : Str → Option Value} {base : Heap} {x qual : Str} {params : Arguments} {body : List Stmt} {scope : Scope} {f : Addr} {fd : FuncData} {N ps : List Str} {k : Nat} {s : SM}
abbrev WE0 (E : XK) : WX := fun c d _ H => E c d H
theorem fn_F (F : FunD K x qual params body scope [] [] f fd) (S : FnScope N ps scope)
    (hb : ∀ (cdv : Value) (A : Around) (outer : List PySem.Env) (s₀ : Shared) (H : Hp) (E : XK), Room k (A.deeper (PyProof.Rows.envOfC qual scope s₀.heap.objs.size f cdv)) → DB (cxOf (L2.CX P w) P w K mg base N qual scope f cdv A outer s₀ H E) ⟨K, []⟩ (WE0 E) body s) :
    FnOk P w K mg base (L2.CX P w) (k + 1) f fd ps (SpF K (mkF ps.length N.length s)) := by
  refine F.ok S (fun vs H Q E h => ?_) fun cdv A outer s₀ H vs Q E hr h => ⟨_, hb cdv A outer s₀ H E hr, ?_⟩
  · obtain ⟨F, ds, sb, r, h⟩ := h
    unfold mkF at h
    by_cases e : ds.length = ps.length
    · rw [r.length, e]
    · rw [if_neg e] at h; exact h.elim
  · obtain ⟨F, ds, sb, r, h⟩ := h
    refine ⟨F, _, _, rs_start N r sb, ?_⟩
    unfold mkF at h
    by_cases e : ds.length = ps.length
    · rw [if_pos e] at h
      have gw : ∀ {F' H' : Hp} {w' : Ws}, Sub F' H' → Ext F H (Tw fun _ _ => False) F' H' (Tw w') → Grow F H F' H' := fun sb' E' => ⟨sb', E'.le, fun b o q => E'.keep b o q fun ⟨_, z⟩ => z, fun b o q => by
        rcases E'.new b o q with z | z | ⟨_, z⟩
        · exact .inl z
        · exact .inr z
        · exact z.elim⟩
      cases e2 : s (env0 N.length ds) with
      | nx ρ => rw [e2] at h; exact fun σ' F' H' w' R' E' => h .non F' H' (gw R'.sub E') .non
      | ret d ρ => rw [e2] at h; exact fun v σ' F' H' w' R' E' r => h v F' H' (gw R'.sub E') r
      | err x ρ => rw [e2] at h; exact fun c dd σ' F' H' w' R' E' r => h c dd F' H' (gw R'.sub E') r
      | ro d ρ => rw [e2] at h; exact h.elim
      | brk ρ => rw [e2] at h; exact h.elim
      | ct ρ => rw [e2] at h; exact h.elim
      | stuck => rw [e2] at h; exact h.elim
    · rw [if_neg e] at h; exact h.elim
theorem fn_O (F : FunD K x qual params body scope [] [] f fd) (S : FnScope N ps scope)
    (hb : ∀ (cdv : Value) (A : Around) (outer : List PySem.Env) (s₀ : Shared) (H : Hp) (E : XK), Room k (A.deeper (PyProof.Rows.envOfC qual scope s₀.heap.objs.size f cdv)) → DB (cxOf (L2.CX P w) P w K mg base N qual scope f cdv A outer s₀ H E) ⟨K, []⟩ (WE0 E) body s) :
    FnOk P w K mg base (L2.CX P w) (k + 1) f fd ps (SpO K (mkO ps.length N.length s)) := by
  refine F.ok S (fun vs H Q E h => ?_) fun cdv A outer s₀ H vs Q E hr h => ⟨_, hb cdv A outer s₀ H E hr, ?_⟩
  · obtain ⟨F, ds, sb, r, h⟩ := h
    unfold mkO at h
    by_cases e : ds.length = ps.length
    · rw [r.length, e]
    · rw [if_neg e] at h; exact h.elim
  · obtain ⟨F, ds, sb, r, h⟩ := h
    refine ⟨F, _, _, rs_start N r sb, ?_⟩
    unfold mkO at h
    by_cases e : ds.length = ps.length
    · rw [if_pos e] at h
      cases e2 : s (env0 N.length ds) with
      | ro d ρ =>
        rw [e2] at h
        intro v σ' F' H' w' wv R' E' o f
        refine h v F' H' wv ⟨R'.sub, E'.le, fun b o q => E'.keep b o q fun ⟨_, z⟩ => z, fun b o q => ?_⟩ o fun b hb => ⟨(f b hb).2.1, ?_, (f b hb).2.2⟩
        · rcases E'.new b o q with z | z | ⟨_, z⟩
          · exact .inl z
          · exact .inr z
          · exact z.elim
        · rcases E'.own b (.inr hb) with z | ⟨_, z⟩
          · exact z
          · exact z.elim
      | err x ρ =>
        rw [e2] at h
        exact fun c dd σ' F' H' w' R' E' r => h c dd F' H' ⟨R'.sub, E'.le, fun b o q => E'.keep b o q fun ⟨_, z⟩ => z, fun b o q => by
          rcases E'.new b o q with z | z | ⟨_, z⟩
          · exact .inl z
          · exact .inr z
          · exact z.elim⟩ r
      | nx ρ => rw [e2] at h; exact h.elim
      | ret d ρ => rw [e2] at h; exact h.elim
      | brk ρ => rw [e2] at h; exact h.elim
      | ct ρ => rw [e2] at h; exact h.elim
      | stuck => rw [e2] at h; exact h.elim
    · rw [if_neg e] at h; exact h.elim
theorem fn_I (F : FunD K x qual params body scope [] [] f fd) (S : FnScope N ps scope)
    (hb : ∀ (v0 : V) (cdv : Value) (A : Around) (outer : List PySem.Env) (s₀ : Shared) (H : Hp) (E : XK), Room k (A.deeper (PyProof.Rows.envOfC qual scope s₀.heap.objs.size f cdv)) → DB (cxOf (L2.CX P w) P w K mg base N qual scope f cdv A outer s₀ H E) ⟨K, [(0, v0)]⟩ (WE0 E) body s) :
    FnOk P w K mg base (L2.CX P w) (k + 1) f fd ps (SpI K (mkI ps.length N.length s)) := by
  refine F.ok S (fun vs H Q E h => ?_) fun cdv A outer s₀ H vs Q E hr h => ?_
  · obtain ⟨F, w1, v0, vs', c, ds, rfl, sb, o, f, r, h⟩ := h
    unfold mkI at h
    by_cases e : ds.length + 1 = ps.length
    · rw [List.length_cons, r.length, e]
    · rw [if_neg e] at h; exact h.elim
  · obtain ⟨F, w1, v0, vs', c, ds, rfl, sb, o, f, r, h⟩ := h
    refine ⟨_, hb v0 cdv A outer s₀ H E hr, F, _, _, rs_startI N o f r sb, ?_⟩
    unfold mkI at h
    by_cases e : ds.length + 1 = ps.length
    · rw [if_pos e] at h
      have tw : ∀ b, Tw (fun j b => j = 0 ∧ w1 b) b ↔ w1 b := fun b => ⟨fun ⟨j, _, z⟩ => z, fun z => ⟨0, rfl, z⟩⟩
      have fin : ∀ {d : D} {ρ : Env} {v : V} {σ' : St} {F' H' : Hp} {w' : Ws}, Rs ⟨K, [(0, v0)]⟩ F' H' w' σ' ρ → Ext F H (Tw fun j b => j = 0 ∧ w1 b) F' H' (Tw w') → Rep K F' v d →
          (match (generalizing := false) out0 d ρ with
          | .ok (d, c') => ∀ v F' H' w', Ext F H w1 F' H' w' → Sub F' H' → OpAt K F' H' w' v0 c' → (∀ b, w' b → F' b = none ∧ ∃ o, H' b = some o) → Rep K F' v d → Q v H'
          | .err x => False
          | .stuck => False) → Q v H' := fun {d ρ v σ' F' H' w'} R' E' r q => by
        unfold out0 at q
        cases e0 : ρ[(0 : Nat)]? with
        | none => simp only [e0] at q
        | some sl =>
          cases sl with
          | un => simp only [e0] at q
          | fz d => simp only [e0] at q
          | on d => simp only [e0] at q
          | op c' =>
            simp only [e0] at q
            obtain ⟨a, ob, h1, h2, h3, h4⟩ := R'.op e0
            have hp := R'.pin (0, v0) (by simp)
            have hp : σ'[0]? = some (some v0) := hp
            rw [h1] at hp
            cases hp
            refine q v F' H' (w' 0) ⟨E'.le, fun b o q n => E'.keep b o q fun z => n ((tw b).mp z), fun b o q => ?_, fun b z => ?_⟩ R'.sub ⟨a, ob, rfl, h2, h3, h4⟩ (fun b z => R'.free 0 b z) r
            · rcases E'.new b o q with z | z | z
              · exact .inl z
              · exact .inr (.inl z)
              · exact .inr (.inr ((tw b).mp z))
            · rcases E'.own b ⟨0, z⟩ with y | y
              · exact .inl y
              · exact .inr ((tw b).mp y)
      cases e2 : s (.op c :: env0 (N.length - 1) ds) with
      | nx ρ => rw [e2] at h; exact fun σ' F' H' w' R' E' => fin R' E' .non h
      | ret d ρ => rw [e2] at h; exact fun v σ' F' H' w' R' E' r => fin R' E' r h
      | ro d ρ => rw [e2] at h; exact h.elim
      | err x ρ => rw [e2] at h; exact h.elim
      | brk ρ => rw [e2] at h; exact h.elim
      | ct ρ => rw [e2] at h; exact h.elim
      | stuck => rw [e2] at h; exact h.elim
    · rw [if_neg e] at h; exact h.elim
end
section
variable {X : Cx} {κ : Kx} {W : WX} {e a : Expr} {es : List Expr} {pos : Pos}
/-- the callee has changed the container of slot i -/
theorem Rs.called {F H F' H' : Hp} {w : Ws} {w1 : AS} {σ : St} {ρ : Env} {i : Nat} {c' : D} {v : V} (R : Rs κ F H w σ ρ) (hs : σ[i]? = some (some v)) (hi : i < ρ.length) (E : Ext F H (w i) F' H' w1) (sb : Sub F' H') (o : OpAt κ.K F' H' w1 v c') (f : ∀ b, w1 b → F' b = none ∧ ∃ o, H' b = some o) :
    Rs κ F' H' (fun j => if j = i then w1 else w j) σ (ρ.set i (.op c')) := by
  have dis : ∀ j b, j ≠ i → w j b → ¬ w i b := fun j b n h z => n (R.dis j i b h z)
  have dis1 : ∀ j b, j ≠ i → w j b → ¬ w1 b := fun j b n h z => by
    rcases E.own b z with y | y
    · obtain ⟨u, hu⟩ := (R.free j b h).2
      rw [y] at hu; cases hu
    · exact dis j b n h y
  refine ⟨sb, R.pin, by simp [R.len], fun j s hj => ?_, fun j k b h1 h2 => ?_, fun j b h => ?_⟩
  · by_cases ej : j = i
    · subst ej
      rw [List.getElem?_set_self hi] at hj
      cases hj
      rw [hs]
      simp only [if_true]
      exact o
    · rw [List.getElem?_set_ne (Ne.symm ej)] at hj
      simp only [if_neg ej]
      exact (R.slot j s hj).beside E fun b h => dis j b ej h
  · by_cases e1 : j = i
    · by_cases e2 : k = i
      · rw [e1, e2]
      · simp only [if_pos e1] at h1
        simp only [if_neg e2] at h2
        exact absurd h1 (dis1 k b e2 h2)
    · by_cases e2 : k = i
      · simp only [if_neg e1] at h1
        simp only [if_pos e2] at h2
        exact absurd h2 (dis1 j b e1 h1)
      · simp only [if_neg e1] at h1
        simp only [if_neg e2] at h2
        exact R.dis j k b h1 h2
  · by_cases e1 : j = i
    · simp only [if_pos e1] at h
      exact f b h
    · simp only [if_neg e1] at h
      obtain ⟨f0, u, hu⟩ := R.free j b h
      refine ⟨?_, u, E.keep b u hu (dis j b e1 h)⟩
      cases q : F' b with
      | none => rfl
      | some z =>
        rcases E.new b z q with y | y | y
        · rw [f0] at y; cases y
        · rw [hu] at y; cases y
        · exact absurd y (dis j b e1 h)
theorem Ext.called {F H F' H' : Hp} {w : Ws} {w1 : AS} {i : Nat} (E : Ext F H (w i) F' H' w1) : Ext F H (Tw w) F' H' (Tw fun j => if j = i then w1 else w j) :=
  E.wide (fun b h => ⟨i, h⟩) fun b ⟨j, h⟩ => by
    by_cases ej : j = i
    · simp only [if_pos ej] at h; exact .inl h
    · simp only [if_neg ej] at h; exact .inr ⟨j, h⟩
def gCallI (m : D → List D → FR (D × D)) (i : Nat) (os : List (M LV)) : M D := M.bind (gOps (oPl i :: os)) fun xs ρ => match xs with
  | .pl _ :: r => match atAll r, ρ[i]? with
    | some ds, some (.op c) => match m c ds with
      | .ok (d, c') => .ok d (ρ.set i (.op c'))
      | _ => .stuck
    | _, _ => .stuck
  | _ => .stuck
theorem oPl_run {i : Nat} {ρ ρ' : Env} {x : LV} (h : oPl i ρ = .ok x ρ') : x = .pl i := by
  unfold oPl at h
  split at h
  · cases h; rfl
  · cases h
theorem gOps_head {i : Nat} {os : List (M LV)} {ρ ρ' : Env} {xs : List LV} (h : gOps (oPl i :: os) ρ = .ok xs ρ') : ∃ r, xs = .pl i :: r := by
  simp only [gOps, M.bind] at h
  cases e : oPl i ρ with
  | stuck => rw [e] at h; cases h
  | err x ρ1 => rw [e] at h; cases h
  | ok x ρ1 =>
    rw [e] at h
    have ex := oPl_run e
    subst ex
    simp only at h
    cases e2 : gOps os ρ1 with
    | stuck => rw [e2] at h; cases h
    | err x ρ1 => rw [e2] at h; cases h
    | ok r ρ2 => rw [e2] at h; cases h; exact ⟨r, rfl⟩
theorem de_callI {x : Str} {k : Nat} {ps : List Str} {m : D → List D → FR (D × D)} {i : Nat} {os : List (M LV)} {p₀ : Pos} (hK : κ.K = X.K) (G : Has X.prog X.w X.K X.mg X.base x k ps (SpI X.K m)) (hr : Room k X.A) (tk : Takes X W) (hg : Gl X x)
    (ha : DA X κ W (e :: es) (oPl i :: os)) (hdb : (x == ("__debug__" : Str)) = false := by decide) (he : starEach (e :: es) X.env = (false, eval e X.env) :: starEach es X.env := by rfl) (hpl : (backTo pos (starEach es X.env)).any (·.1) = false := by rfl) :
    DE X κ W (.Call (.Name x p₀) (e :: es) [] pos) (gCallI m i os) := by
  obtain ⟨f, fd, h1, h2, h3, h4⟩ := G
  refine pe_weak (pe_callSD h4 hr hg h1 h2 h3 .nil (fun σ => passAt tk σ) ha hdb he hpl) fun σ H Q q => ?_
  obtain ⟨F, w, ρ, R, q⟩ := q
  refine ⟨F, w, ρ, R, ?_⟩
  unfold gCallI M.bind at q
  cases e0 : gOps (oPl i :: os) ρ with
  | stuck => rw [e0] at q; exact q
  | err x ρ' => rw [e0] at q; exact q
  | ok xs ρ1 =>
    rw [e0] at q
    obtain ⟨r, rfl⟩ := gOps_head e0
    intro F1 H1 w1 R1 E1 vs rs
    cases rs with
    | cons r0 rr =>
      rename_i v0 vs'
      have r0 : σ[i]? = some (some v0) := r0
      simp only at q
      cases e1 : atAll r with
      | none => rw [e1] at q; exact q.elim
      | some ds =>
        cases e2 : ρ1[i]? with
        | none => rw [e1, e2] at q; exact q.elim
        | some sl =>
          cases sl with
          | un => rw [e1, e2] at q; exact q.elim
          | fz d => rw [e1, e2] at q; exact q.elim
          | on d => rw [e1, e2] at q; exact q.elim
          | op c =>
            rw [e1, e2] at q
            simp only at q
            obtain ⟨a, ob, s1, s2, s3, s4⟩ := R1.op e2
            rw [r0] at s1
            cases s1
            refine ⟨F1, w1 i, .ref a, vs', c, ds, by simp, R1.sub, ⟨a, ob, rfl, s2, s3, hK ▸ s4⟩, fun b h => R1.free i b h, hK ▸ atAll_rep rr e1, ?_⟩
            cases e3 : m c ds with
            | stuck => rw [e3] at q; exact q.elim
            | err x => rw [e3] at q; exact q.elim
            | ok dc =>
              obtain ⟨d, c'⟩ := dc
              rw [e3] at q
              intro v F' H' w' E' sb o' f' r'
              exact q F' H' _ (R1.called r0 (List.getElem?_eq_some_iff.mp e2).1 E' sb (hK ▸ o') f') (E1.trans (Ext.called E')) v (hK ▸ r')
end
end DL
/-! DLC: powers of wide ints, list + list, assignments of several names at once. -/
namespace DL
open PySem L2
section
variable {X : Cx} {κ : Kx} {W : WX} {e a b c : Expr} {es rest : List Expr} {pos : Pos}
/-! ### powers -/
def CPowW (i j : Int) : Prop := 0 ≤ j ∧ j ≤ 100 ∧ i.natAbs.log2 < 1000000
theorem op_powW : OpR X (binaryOp .Pow) (rI CPowW fun i j => .int (i ^ j.toNat)) := opI fun i j _ _ _ _ _ hc q => by
  obtain ⟨h0, h1, h2⟩ := hc
  refine PyProof.Rows.pow_int h0 ?_ q
  have hb : Builtin.Int.intBits i ≤ 1000000 := by
    unfold Builtin.Int.intBits
    split
    · exact Nat.zero_le _
    · omega
  have h3 : (Builtin.Int.intBits i : Int) * j ≤ 1000000 * j := Int.mul_le_mul_of_nonneg_right (by omega) h0
  omega
abbrev iPow := iopC (fun i j => decide (0 ≤ j ∧ j ≤ 100 ∧ i.natAbs.log2 < 1000000)) fun i j => .int (i ^ j.toNat)
theorem od_pow : OpR X (binaryOp .Pow) (r2 κ iPow) := opr_IC op_powW fun i j h => (of_decide_eq_true h : 0 ≤ j ∧ j ≤ 100 ∧ i.natAbs.log2 < 1000000)
/-! ### list + list -/
def rCatL (K : PySem.W.Frag) : R2 := fun x y H Q => ∃ l b xs zs, x = .ref l ∧ y = .ref b ∧ SqL K H l xs ∧ SqL K H b zs ∧ xs.length + zs.length ≤ sizeLine ∧ ∀ p, H p = none → Q (.ref p) (upd H p (.lst (xs ++ zs)))
theorem op_catL : OpR X (binaryOp .Add) (rCatL X.K) := by
  intro pins s σ H x y v u Q I rx ry h
  obtain ⟨l, b, xs, zs, rfl, rfl, hH, hB, hz, q⟩ := h
  cases rx
  cases ry
  obtain ⟨its, r, ⟨⟨cls, dd, data, sl⟩, n, ho, hc, hdd, hd⟩, z1⟩ := I.list hH
  obtain ⟨its2, r2, ⟨⟨cls2, dd2, data2, sl2⟩, n2, ho2, hc2, hdd2, hd2⟩, z2⟩ := I.list hB
  have hl' := r.length
  have hl2' := r2.length
  simp only at hc hd hc2 hd2
  subst hc hd hc2 hd2
  have ea : its.toArray ++ its2.toArray = (its ++ its2).toArray := by simp
  refine concat_meets ⟨_, ho, rfl⟩ ⟨_, ho2, rfl⟩ noFill_list_add seq_list_add PySem.F.slot_list_add PySem.F.entry_list_add (PySem.F.args_list_add_2 _ _) (PyProof.Rows.list_addW l b its.toArray its2.toArray n n2 dd dd2 sl sl2 (by simp; omega)) ⟨ho, ho2, ?_⟩
  rw [ea]
  exact ⟨.ref _, _, I.lnew (t' := s.toks) (r.append r2) (by rw [List.length_append]; omega), rfl, q _ I.fresh⟩
theorem od_cat (hK : κ.K = X.K) : OpR X (binaryOp .Add) (r2O κ lAdd) := by
  intro pins s σ H x y v u Q I rx ry h
  obtain ⟨F, d1, d2, ds, sb, b1, b2, hp, k⟩ := h
  unfold lAdd at hp
  split at hp
  · rename_i xs ys
    split at hp
    · rename_i hz
      have hp := Option.some.inj hp
      subst hp
      obtain ⟨a1, v1, rfl, s1, r1⟩ := b1.lst sb
      obtain ⟨a2, v2, rfl, s2, r2⟩ := b2.lst sb
      refine op_catL pins s σ H _ _ v u Q I rx ry ⟨a1, a2, v1, v2, rfl, rfl, hK ▸ s1, hK ▸ s2, ?_, fun p hp => k _ p hp (r1.append r2)⟩
      rw [r1.length, r2.length]
      exact of_decide_eq_true hz
    · cases hp
  · cases hp
end
/-! ### several values, some of them new containers -/
inductive ME where
  | fz (g : M D) | op (g : M D)
def ME.run1 : ME → M (Bool × D)
  | .fz g => M.bind g fun d => M.pure (false, d)
  | .op g => M.bind g fun d => M.pure (true, d)
def gMs : List ME → M (List (Bool × D))
  | [] => M.pure []
  | o :: os => M.bind o.run1 fun x => M.bind (gMs os) fun xs => M.pure (x :: xs)
inductive MixOk (K : PySem.W.Frag) (F H : Hp) : List V → List (Bool × D) → AS → Prop
  | nil : MixOk K F H [] [] (fun _ => False)
  | fz {v d vs bs T} : Rep K F v d → MixOk K F H vs bs T → MixOk K F H (v :: vs) ((false, d) :: bs) T
  | op {v d vs bs T wv} : OpAt K F H wv v d → (∀ b, wv b → ¬ T b) → MixOk K F H vs bs T → MixOk K F H (v :: vs) ((true, d) :: bs) (fun b => wv b ∨ T b)
def MixAt (F H : Hp) (w : Ws) (T : AS) : Prop := ∀ b, T b → F b = none ∧ ¬ Tw w b ∧ ∃ o, H b = some o
def rdMs (κ : Kx) (W : WX) (ms : List ME) : TA := fun σ H Q => ∃ F w ρ, Rs κ F H w σ ρ ∧ runAt κ W F H w σ (gMs ms ρ) fun bs F' H' w' _ => ∀ vs T, MixOk κ.K F' H' vs bs T → MixAt F' H' w' T → Ext F H (Tw w) F' H' (fun b => Tw w' b ∨ T b) → Q vs H'
abbrev DMs (X : Cx) (κ : Kx) (W : WX) (es : List Expr) (ms : List ME) : Prop := PA X es (rdMs κ W ms)
section
variable {X : Cx} {κ : Kx} {W : WX} {e a b c : Expr} {es rest : List Expr} {pos : Pos}
theorem dm_nil : DMs X κ W [] [] := pa_weak pa_nil fun σ H Q q => by
  obtain ⟨F, w, ρ, R, q⟩ := q
  exact q F H w R (Ext.refl _ _ _) [] _ .nil (fun _ h => h.elim) ⟨LeF.refl F, fun _ _ h _ => h, fun _ _ h => .inl h, fun _ h => h.elim .inr fun h => h.elim⟩
/-- two runs, one after the other, the second at a grown heap -/
theorem run2 {α β γ : Type} {g : M α} {f : M β} {h : α → β → γ} {F H : Hp} {w : Ws} {σ : L2.St} {ρ : Env} {P : γ → Hp → Hp → Ws → Env → Prop} (q : runAt κ W F H w σ (M.bind g (fun x => M.bind f fun y => M.pure (h x y)) ρ) P) :
    runAt κ W F H w σ (g ρ) fun x F1 H1 w1 ρ1 => Rs κ F1 H1 w1 σ ρ1 ∧ Ext F H (Tw w) F1 H1 (Tw w1) ∧ ∀ F2 H2, Grow F1 H1 F2 H2 → runAt κ W F2 H2 w1 σ (f ρ1) fun y F' H' w' ρ' => P (h x y) F' H' w' ρ' := by
  unfold M.bind at q
  cases e : g ρ with
  | stuck => rw [e] at q; exact q
  | err x ρ' => rw [e] at q; exact q
  | ok x ρ1 =>
    rw [e] at q
    intro F1 H1 w1 R1 E1
    refine ⟨R1, E1, fun F2 H2 g2 => ?_⟩
    have E12 := E1.trans (g2.ext (Tw w1))
    simp only at q
    cases e2 : f ρ1 with
    | stuck => rw [e2] at q; exact q
    | err x ρ' => rw [e2] at q; exact fun c dd F' H' w' R' E' k => q c dd F' H' w' R' (E12.trans E') k
    | ok y ρ2 =>
      rw [e2] at q
      exact fun F' H' w' R' E' => q F' H' w' R' (E12.trans E')
theorem run1_any {g : M D} {f : D → Bool × D} {F H : Hp} {w : Ws} {σ : L2.St} {ρ : Env} {P : Bool × D → Hp → Hp → Ws → Env → Prop} (q : runAt κ W F H w σ ((M.bind g fun d => M.pure (f d)) ρ) P) : runAt κ W F H w σ (g ρ) fun d F' H' w' ρ' => P (f d) F' H' w' ρ' := by
  unfold M.bind at q
  cases e : g ρ with
  | stuck => simp only [e] at q; exact q
  | err x ρ' => simp only [e] at q; exact q
  | ok x ρ1 => simp only [e] at q; exact q
theorem MixOk.own {K : PySem.W.Frag} {F H : Hp} : ∀ {vs : List V} {bs : List (Bool × D)} {T : AS}, MixOk K F H vs bs T → True := fun _ => trivial
theorem dm_fz {g : M D} {ms : List ME} (h : DE X κ W e g) (hr : DMs X κ W es ms) (hs : starEach (e :: es) X.env = (false, eval e X.env) :: starEach es X.env := by rfl) : DMs X κ W (e :: es) (.fz g :: ms) :=
  pa_weak (pa_cons h hr hs) fun σ H Q q => by
    obtain ⟨F, w, ρ, R, q⟩ := q
    have q1 := run1_any (f := fun d => (false, d)) (run2 (g := (ME.fz g).run1) q)
    refine ⟨F, w, ρ, R, runAt.imp q1 fun d F1 H1 w1 ρ1 R1 E1 ⟨_, _, z⟩ v r => ⟨F1, w1, ρ1, R1, runAt.imp (z F1 H1 (Grow.refl R1.sub)) fun bs F2 H2 w2 ρ2 R2 E2 z2 vs T m t E3 => z2 (v :: vs) T (.fz (r.le E2.le) m) t (E1.trans E3)⟩⟩
theorem dm_op {g : M D} {ms : List ME} (h : DO X κ W e g) (hr : DMs X κ W es ms) (hs : starEach (e :: es) X.env = (false, eval e X.env) :: starEach es X.env := by rfl) : DMs X κ W (e :: es) (.op g :: ms) :=
  pa_weak (pa_cons h hr hs) fun σ H Q q => by
    obtain ⟨F, w, ρ, R, q⟩ := q
    have q1 := run1_any (f := fun d => (true, d)) (run2 (g := (ME.op g).run1) q)
    refine ⟨F, w, ρ, R, runAt.imp q1 fun d F1 H1 w1 ρ1 R1 E1 ⟨_, _, z⟩ v F2 H2 wv g2 o f => ⟨F2, w1, ρ1, R1.grown g2, runAt.imp (z F2 H2 g2) fun bs F3 H3 w3 ρ3 R3 E3 z2 vs T m t E4 => ?_⟩⟩
    have nw : ∀ b, wv b → ¬ Tw w1 b := fun b hb ⟨i, hi⟩ => by
      obtain ⟨u, hu⟩ := (R1.free i b hi).2
      rw [(f b hb).2.1] at hu; cases hu
    have nT : ∀ b, wv b → ¬ (Tw w3 b ∨ T b) := fun b hb hT => by
      rcases E4.own b hT with z | z
      · obtain ⟨u, hu⟩ := (f b hb).2.2
        rw [z] at hu; cases hu
      · exact nw b hb z
    obtain ⟨a, u, rfl, o1, o2, o3⟩ := o
    refine z2 (.ref a :: vs) _ (.op ⟨a, u, rfl, o1, E3.keep a u o2 (nw a o1), o3.le E3.le⟩ (fun b hb hT => nT b hb (.inr hT)) m) (fun b hb => ?_) ?_
    · rcases hb with hb | hb
      · obtain ⟨u, hu⟩ := (f b hb).2.2
        refine ⟨?_, fun hw => nT b hb (.inl hw), u, E3.keep b u hu (nw b hb)⟩
        cases e0 : F3 b with
        | none => rfl
        | some y =>
          rcases E3.new b y e0 with z | z | z
          · rw [(f b hb).1] at z; cases z
          · rw [hu] at z; cases z
          · exact absurd z (nw b hb)
      · exact t b hb
    · have E := E1.trans ((g2.ext (Tw w1)).trans E4)
      refine ⟨E.le, E.keep, E.new, fun b hb => ?_⟩
      rcases hb with hb | hb | hb
      · exact E.own b (.inl hb)
      · cases e0 : H b with
        | none => exact .inl rfl
        | some y =>
          by_cases hw : Tw w b
          · exact .inr hw
          · have := E1.keep b y e0 hw
            rw [(f b hb).2.1] at this; cases this
      · exact E.own b (.inr hb)
/-! ### the names set -/
def setE (ρ : Env) : List Nat → List (Bool × D) → Option Env
  | [], [] => some ρ
  | i :: is, (o, d) :: bs => if i < ρ.length then setE (ρ.set i (if o = true then .op d else .fz d)) is bs else none
  | _, _ => none
def sSets (is : List Nat) (bs : List (Bool × D)) : SM := fun ρ => match setE ρ is bs with
  | some ρ' => .nx ρ'
  | none => .stuck
def setS (σ : L2.St) : List Nat → List V → L2.St
  | i :: is, v :: vs => setS (σ.set i (some v)) is vs
  | _, _ => σ
theorem sets_ok {F H : Hp} : ∀ {is : List Nat} {bs : List (Bool × D)} {vs : List V} {T : AS} {w : Ws} {σ : L2.St} {ρ ρ' : Env}, (is.all fun i => κ.pn.all fun q => q.1 != i) = true → Rs κ F H w σ ρ → MixOk κ.K F H vs bs T → MixAt F H w T → setE ρ is bs = some ρ' →
    ∃ w', Rs κ F H w' (setS σ is vs) ρ' ∧ ∀ b, Tw w' b → Tw w b ∨ T b
  | [], _, _, _, w, σ, ρ, ρ', _, R, .nil, _, e => by
    simp only [setE] at e
    cases e
    exact ⟨w, R, fun b h => .inl h⟩
  | [], _, _, _, _, _, _, _, _, _, .fz _ _, _, e => by simp only [setE] at e; cases e
  | [], _, _, _, _, _, _, _, _, _, .op _ _ _, _, e => by simp only [setE] at e; cases e
  | _ :: _, _, _, _, _, _, _, _, _, _, .nil, _, e => by simp only [setE] at e; cases e
  | i :: is, _, _, T, w, σ, ρ, ρ', hp, R, .fz (v := v) (d := d) r m, t, e => by
    simp only [setE] at e
    split at e
    · rename_i hi
      simp only [List.all_cons, Bool.and_eq_true] at hp
      have R1 := R.setFz (pin_ne hp.1) hi r
      obtain ⟨w', R', h'⟩ := sets_ok (T := T) hp.2 R1 m (fun b hb => ⟨(t b hb).1, fun hw => (Tw_set hw).elim (t b hb).2.1 (fun z => z.elim), (t b hb).2.2⟩) (by simpa using e)
      exact ⟨w', R', fun b hb => (h' b hb).elim (fun z => (Tw_set z).elim .inl fun z => z.elim) .inr⟩
    · cases e
  | i :: is, _, _, _, w, σ, ρ, ρ', hp, R, .op (v := v) (d := d) (T := T) (wv := wv) r dj m, t, e => by
    simp only [setE] at e
    split at e
    · rename_i hi
      simp only [List.all_cons, Bool.and_eq_true] at hp
      have R1 := R.setOp (pin_ne hp.1) hi r (fun b hb => (t b (.inl hb)).2.1) (fun b hb => ⟨(t b (.inl hb)).1, (t b (.inl hb)).2.2⟩)
      obtain ⟨w', R', h'⟩ := sets_ok (T := T) hp.2 R1 m (fun b hb => ⟨(t b (.inr hb)).1, fun hw => (Tw_set hw).elim (t b (.inr hb)).2.1 (fun z => dj b z hb), (t b (.inr hb)).2.2⟩) (by simpa using e)
      exact ⟨w', R', fun b hb => (h' b hb).elim (fun z => (Tw_set z).elim .inl fun z => .inr (.inl z)) fun z => .inr (.inr z)⟩
    · cases e
/-- from the reading of all to the values -/
theorem par_core {ms : List ME} {is : List Nat} {D₀ : Ends} {σ : L2.St} {H : Hp} (hp : (is.all fun i => κ.pn.all fun q => q.1 != i) = true) (q : rdS κ W (sBind (gMs ms) (sSets is)) D₀ σ H) :
    rdMs κ W ms σ H fun vs H1 => ∃ F w F1 w1 bs ρ1 T, Rs κ F1 H1 w1 σ ρ1 ∧ MixOk κ.K F1 H1 vs bs T ∧ MixAt F1 H1 w1 T ∧ Ext F H (Tw w) F1 H1 (fun b => Tw w1 b ∨ T b) ∧ stAt κ W F H w D₀ (sSets is bs ρ1) := by
  obtain ⟨F, w, ρ, R, q⟩ := q
  refine ⟨F, w, ρ, R, ?_⟩
  unfold sBind at q
  cases e : gMs ms ρ with
  | stuck => rw [e] at q; exact q
  | err x ρ' => rw [e] at q; exact fun c dd F' H' w' R' E' k => q c dd σ F' H' w' R' E' k
  | ok bs ρ1 =>
    rw [e] at q
    exact fun F' H' w' R' E' vs T m t E3 => ⟨F, w, F', w', bs, ρ1, T, R', m, t, E3, q⟩
theorem par_end {is : List Nat} {bs : List (Bool × D)} {vs : List V} {T : AS} {F H F1 H1 : Hp} {w w1 : Ws} {σ : L2.St} {ρ1 : Env} {D₀ : Ends} (hp : (is.all fun i => κ.pn.all fun q => q.1 != i) = true) (R : Rs κ F1 H1 w1 σ ρ1) (m : MixOk κ.K F1 H1 vs bs T) (t : MixAt F1 H1 w1 T)
    (E : Ext F H (Tw w) F1 H1 (fun b => Tw w1 b ∨ T b)) (q : stAt κ W F H w D₀ (sSets is bs ρ1)) : D₀.nx (setS σ is vs) H1 := by
  unfold sSets at q
  cases e : setE ρ1 is bs with
  | none => rw [e] at q; exact q.elim
  | some ρ' =>
    rw [e] at q
    obtain ⟨w', R', h'⟩ := sets_ok hp R m t e
    exact q _ F1 H1 w' R' ⟨E.le, E.keep, E.new, fun b hb => E.own b (h' b hb)⟩
theorem MixOk.lens {K : PySem.W.Frag} {F H : Hp} : ∀ {vs : List V} {bs : List (Bool × D)} {T : AS}, MixOk K F H vs bs T → vs.length = bs.length
  | _, _, _, .nil => rfl
  | _, _, _, .fz _ m => by simp [MixOk.lens m]
  | _, _, _, .op _ _ m => by simp [MixOk.lens m]
theorem setE_len : ∀ {is : List Nat} {bs : List (Bool × D)} {ρ ρ' : Env}, setE ρ is bs = some ρ' → bs.length = is.length
  | [], [], _, _, _ => rfl
  | i :: is, (o, d) :: bs, ρ, ρ', e => by
    simp only [setE] at e
    split at e
    · simp [setE_len e]
    · cases e
  | [], _ :: _, _, _, e => by simp only [setE] at e; cases e
  | _ :: _, [], _, _, e => by simp only [setE] at e; cases e
theorem par_len {is : List Nat} {bs : List (Bool × D)} {F H : Hp} {w : Ws} {ρ1 : Env} {D₀ : Ends} (q : stAt κ W F H w D₀ (sSets is bs ρ1)) : bs.length = is.length := by
  unfold sSets at q
  cases e : setE ρ1 is bs with
  | none => rw [e] at q; exact q.elim
  | some ρ' => exact setE_len e
theorem ds_par2 {i j : Nat} {x y : Str} {px py pt : Pos} {kt k2 pt2} {ms : List ME} (hc : X.calm = true) (hN : X.N.Nodup) (hi : X.N[i]? = some x) (hj : X.N[j]? = some y) (hij : i ≠ j)
    (hx : X.env.scope.names.lookup x = some .local) (hy : X.env.scope.names.lookup y = some .local) (hp : ([i, j].all fun i => κ.pn.all fun q => q.1 != i) = true) (ha : DMs X κ W [a, b] ms)
    (hw : swappedStores [.Tuple [.Name x px, .Name y py] kt pt] (.Tuple [a, b] k2 pt2) X.env = pure (some [x, y]))
    (hs : swapsWithSole [.Tuple [.Name x px, .Name y py] kt pt] (.Tuple [a, b] k2 pt2) pos.line X.env = pure false := by rfl) :
    DS X κ W (.Assign [.Tuple [.Name x px, .Name y py] kt pt] (.Tuple [a, b] k2 pt2) pos) (sBind (gMs ms) (sSets [i, j])) := ps_weak (ps_par hc hN hi hj hij hx hy ha hw hs) fun D₀ σ H q => by
  obtain ⟨F, w, ρ, R, q⟩ := par_core hp q
  refine ⟨F, w, ρ, R, runAt.imp q fun bs F1 H1 w1 ρ1 R1 E1 z vs T m t E3 => ?_⟩
  obtain ⟨F, w, F1, w1, bs, ρ1, T, R1, m, t, E, q⟩ := z vs T m t E3
  have l := m.lens.trans (par_len q)
  match vs, l, m with
  | [u, v], _, m => exact ⟨u, v, rfl, par_end (vs := [u, v]) hp R1 m t E q⟩
theorem ds_par3 {i j l : Nat} {x y z : Str} {px py pz pt : Pos} {kt k2 pt2} {ms : List ME} (hc : X.calm = true) (hN : X.N.Nodup) (hi : X.N[i]? = some x) (hj : X.N[j]? = some y) (hl : X.N[l]? = some z) (hij : i ≠ j) (hil : i ≠ l) (hjl : j ≠ l)
    (hx : X.env.scope.names.lookup x = some .local) (hy : X.env.scope.names.lookup y = some .local) (hz : X.env.scope.names.lookup z = some .local) (hp : ([i, j, l].all fun i => κ.pn.all fun q => q.1 != i) = true) (ha : DMs X κ W [a, b, c] ms)
    (hw : swappedStores [.Tuple [.Name x px, .Name y py, .Name z pz] kt pt] (.Tuple [a, b, c] k2 pt2) X.env = pure (some [x, y, z]))
    (hs : swapsWithSole [.Tuple [.Name x px, .Name y py, .Name z pz] kt pt] (.Tuple [a, b, c] k2 pt2) pos.line X.env = pure false := by rfl) :
    DS X κ W (.Assign [.Tuple [.Name x px, .Name y py, .Name z pz] kt pt] (.Tuple [a, b, c] k2 pt2) pos) (sBind (gMs ms) (sSets [i, j, l])) := ps_weak (ps_par3 hc hN hi hj hl hij hil hjl hx hy hz ha hw hs) fun D₀ σ H q => by
  obtain ⟨F, w, ρ, R, q⟩ := par_core hp q
  refine ⟨F, w, ρ, R, runAt.imp q fun bs F1 H1 w1 ρ1 R1 E1 z vs T m t E3 => ?_⟩
  obtain ⟨F, w, F1, w1, bs, ρ1, T, R1, m, t, E, q⟩ := z vs T m t E3
  have l := m.lens.trans (par_len q)
  match vs, l, m with
  | [u, v, v2], _, m => exact ⟨u, v, v2, rfl, par_end (vs := [u, v, v2]) hp R1 m t E q⟩
/-! names of any kind: a tuple is made, then taken apart -/
def gNames : List Nat → TGs
  | [] => gNil
  | i :: is => gCons (gName i) (gNames is)
inductive DNs (X : Cx) : List Expr → List Nat → Prop
  | nil : DNs X [] []
  | cons {i : Nat} {x : Str} {p : Pos} {es is} : X.N[i]? = some x → Loc X.env.scope x → (X.fn x = true ∨ X.env.scope.names.lookup x = some .local) → (assignEach (.Name x p :: es) X.env).map (·.2) = assign (.Name x p) X.env :: (assignEach es X.env).map (·.2) → DNs X es is → DNs X (.Name x p :: es) (i :: is)
theorem pgs_names (hN : X.N.Nodup) : ∀ {es : List Expr} {is : List Nat}, DNs X es is → PGs X es (gNames is)
  | _, _, .nil => pgs_nil
  | _, _, .cons h1 h2 h3 h4 r => pgs_cons (pg_name hN h1 h2 h3) (pgs_names hN r) h4
theorem names_run : ∀ {is : List Nat} {vs : List V} {σ : L2.St} {H : Hp} {Q : L2.St → Hp → Prop}, vs.length = is.length → Q (setS σ is vs) H → gNames is vs σ H Q
  | [], [], _, _, _, _, h => ⟨rfl, h⟩
  | i :: is, v :: vs, σ, H, Q, l, h => ⟨v, vs, rfl, names_run (by simpa using l) h⟩
  | [], _ :: _, _, _, _, l, _ => by cases l
  | _ :: _, [], _, _, _, l, _ => by cases l
theorem setE_some {is : List Nat} {bs : List (Bool × D)} {F H : Hp} {w : Ws} {ρ1 : Env} {D₀ : Ends} (q : stAt κ W F H w D₀ (sSets is bs ρ1)) : ∃ ρ', setE ρ1 is bs = some ρ' := by
  unfold sSets at q
  cases e : setE ρ1 is bs with
  | none => rw [e] at q; exact q.elim
  | some ρ' => exact ⟨ρ', rfl⟩
theorem MixOk.up {K : PySem.W.Frag} {F H : Hp} {p : Addr} {o : HO} (hp : H p = none) : ∀ {vs : List V} {bs : List (Bool × D)} {T : AS}, MixOk K F H vs bs T → MixOk K F (upd H p o) vs bs T
  | _, _, _, .nil => .nil
  | _, _, _, .fz r m => .fz r (m.up hp)
  | _, _, _, .op ⟨a, u, h1, h2, h3, h4⟩ d m => .op ⟨a, u, h1, h2, by rw [upd_ne fun e => by rw [e, hp] at h3; cases h3]; exact h3, h4⟩ d (m.up hp)
theorem ds_parT {is : List Nat} {ts : List Expr} {pt pt2 : Pos} {kt k2} {ms : List ME} (hc : X.calm = true) (hN : X.N.Nodup) (hd : DNs X ts is) (hp : (is.all fun i => κ.pn.all fun q => q.1 != i) = true) (ha : DMs X κ W es ms) (hz : is.length ≤ sizeLine := by decide)
    (hn : (assignEach ts X.env).length = is.length := by rfl) (hst : (assignEach ts X.env).findIdx? (·.1) = none := by rfl)
    (hs : swapsWithSole [.Tuple ts kt pt] (.Tuple es k2 pt2) pos.line X.env = pure false := by rfl) (hw : swappedStores [.Tuple ts kt pt] (.Tuple es k2 pt2) X.env = pure none := by rfl)
    (h1 : (assignEach [.Tuple ts kt pt] X.env).map (·.2) = [assign (.Tuple ts kt pt) X.env] := by rfl) :
    DS X κ W (.Assign [.Tuple ts kt pt] (.Tuple es k2 pt2) pos) (sBind (gMs ms) (sSets is)) := ps_weak (ps_asg (pe_tup ha) (pg_tup hc (pgs_names hN hd) hn hst) hs hw h1) fun D₀ σ H q => by
  obtain ⟨F, w, ρ, R, q⟩ := par_core hp q
  refine ⟨F, w, ρ, R, runAt.imp q fun bs F1 H1 w1 ρ1 R1 E1 z vs T m t E3 => ?_⟩
  obtain ⟨F, w, F1, w1, bs, ρ1, T, R1, m, t, E, q⟩ := z vs T m t E3
  have l := m.lens.trans (par_len q)
  refine ⟨by rw [l]; exact hz, fun p hp1 => ⟨p, vs, rfl, .inl (.inl (upd_same)), l, names_run l ?_⟩⟩
  have nw : ¬ Tw w1 p := fun ⟨i, hi⟩ => by
    obtain ⟨u, hu⟩ := (R1.free i p hi).2
    rw [hp1] at hu; cases hu
  have fF : F1 p = none := by
    cases e0 : F1 p with
    | none => rfl
    | some u =>
      rcases R1.sub p u e0 with z | ⟨_, ob, z⟩
      · rw [hp1] at z; cases z
      · rw [hp1] at z; cases z
  refine par_end hp (R1.aside nw fF) (m.up hp1) (fun b hb => ?_) ⟨E.le, fun b o h n => ?_, E.new, E.own⟩ q
  · obtain ⟨t1, t2, u, t3⟩ := t b hb
    exact ⟨t1, t2, u, by rw [upd_ne fun e => by rw [e, hp1] at t3; cases t3]; exact t3⟩
  · have h2 := E.keep b o h n
    rw [upd_ne fun e => by rw [e, hp1] at h2; cases h2]; exact h2
end
end DL
/-! DLD: short names for the mirrors; calls with a new container as the first argument; range of two. -/
namespace DL
open PySem L2
abbrev gComp (vs : List Nat) (gi : M (List D)) (t : Tg) (gt : M Bool) (ge : M D) : M D := M.bind (gLc vs gi t gt ge) fun ds => M.pure (.lst ds)
abbrev gLst (os : List (M LV)) : M D := M.bind (gDisp os) fun ds => M.pure (.lst ds)
abbrev gTup (os : List (M LV)) : M D := M.bind (gDisp os) fun ds => M.pure (.tup ds)
abbrev gCat (oa ob : M LV) : M D := M.bind (p2 lAdd oa ob) fun ds => M.pure (.lst ds)
abbrev gLstRg (g : M D) : M D := M.bind (gU' dRg1 g) fun ds => M.pure (.lst ds)
abbrev gTupRg (g : M D) : M D := M.bind (gU' dRg1 g) fun ds => M.pure (.tup ds)
abbrev gLstOf (os : List (M LV)) : M D := M.bind (gB pList os) fun ds => M.pure (.lst ds)
abbrev gEnum (g : M D) : M (List D) := M.bind (gU' dItems g) fun ds => M.pure (enumD ds)
abbrev sExp (g : M D) : SM := sBind g fun _ => SR.nx
abbrev sRet (g : M D) : SM := sBind g SR.ret
abbrev sPar (ms : List ME) (is : List Nat) : SM := sBind (gMs ms) (sSets is)
section
variable {X : Cx} {κ : Kx} {W : WX} {e a b c tg : Expr} {es rest : List Expr} {pos : Pos}
def dNeg : D → Option D
  | .int i => some (.int (-i))
  | _ => none
theorem de_neg {g : M D} (h : DE X κ W a g) : DE X κ W (.UnaryOp .USub a pos) (gU' dNeg g) := pe_weak (pe_un un_neg h) fun σ H Q q => run.imp (gU'_ok q) fun d F H w ρ R ⟨d', e, _, k⟩ v r => by
  cases d with
  | int i =>
    have e := Option.some.inj e
    subst e
    cases r
    exact ⟨i, rfl, k _ .int⟩
  | _ => cases e
def dRgI2 : List D → Option (List D)
  | [.int i, .int j] => if -(2 ^ 62) ≤ i ∧ i < 2 ^ 62 ∧ -(2 ^ 62) ≤ j ∧ j < 2 ^ 62 then some (rgD i j) else none
  | _ => none
theorem itr_ok2 {F : Hp} (i j : Int) : ItOk κ F (Itr i (j - i).toNat) (rgD i j) := fun k F' H' l sb => by
  have hl : (rgD i j).length = (j - i).toNat := by simp [rgD]
  refine ⟨fun hi => by rw [hl] at hi; exact Nat.le_of_eq hi, fun d e => ?_⟩
  have hi : k < (j - i).toNat := by rw [← hl]; exact (List.getElem?_eq_some_iff.mp e).1
  have ed : d = .int (i + (k : Nat)) := by
    unfold rgD at e
    rw [List.getElem?_map, List.getElem?_range hi] at e
    simpa using e.symm
  subst ed
  exact ⟨hi, fun x H3 ⟨eH, ex⟩ => by subst eH; subst ex; exact ⟨F', Grow.refl sb, .int⟩⟩
theorem di_range2 {os : List (M LV)} {p₀ : Pos} (hg : Gl X "range") (hm : X.mg "range" = none) (ha : DA X κ W [a, b] os) (hs : starEach [a, b] X.env = [(false, eval a X.env), (false, eval b X.env)] := by rfl) (hs2 : starEach [b] X.env = [(false, eval b X.env)] := by rfl) :
    DI X κ W tg (.Call (.Name "range" p₀) [a, b] [] pos) (gB dRgI2 os) :=
  pi_weak (pi_range2 hg hm ha hs hs2) fun σ H R q => gB_core q fun vs F H w ρ ds d R bl e k => by
    unfold dRgI2 at e
    split at e
    · rename_i i j
      split at e
      · rename_i h
        cases e
        obtain ⟨v, v2, rfl, b1, b2⟩ := bl.two
        cases b1.int
        cases b2.int
        exact ⟨i, j, rfl, h, k F H w R (Ext.refl _ _ _) _ F H (Grow.refl R.sub) (itr_ok2 i j)⟩
      · cases e
    · cases e
/-! ### a call whose first argument is a new container, changed by the callee -/
def gCallT (m : D → List D → FR (D × D)) (g : M D) (gs : List ME) : M D := M.bind (gMs (.op g :: gs)) fun bs ρ => match bs with
  | (true, c) :: r => if r.all (fun x => !x.1) = true then match m c (r.map (·.2)) with
    | .ok (d, _) => .ok d ρ
    | _ => .stuck
    else .stuck
  | _ => .stuck
theorem MixOk.fzs {K : PySem.W.Frag} {F H : Hp} : ∀ {vs : List V} {bs : List (Bool × D)} {T : AS}, MixOk K F H vs bs T → (bs.all fun x => !x.1) = true → RepL K F vs (bs.map (·.2)) ∧ ∀ b, ¬ T b
  | _, _, _, .nil, _ => ⟨.nil, fun _ h => h⟩
  | _, _, _, .fz r m, h => by
    simp only [List.all_cons, Bool.and_eq_true] at h
    obtain ⟨h1, h2⟩ := m.fzs h.2
    exact ⟨.cons r h1, h2⟩
  | _, _, _, .op _ _ _, h => by simp at h
theorem Rs.beside {F H F' H' : Hp} {T T' : AS} {w : Ws} {σ : L2.St} {ρ : Env} (R : Rs κ F H w σ ρ) (E : Ext F H T F' H' T') (sb : Sub F' H') (n : ∀ b, Tw w b → ¬ T b) : Rs κ F' H' w σ ρ := by
  refine ⟨sb, R.pin, R.len, fun i s h => (R.slot i s h).beside E fun b hb => n b ⟨i, hb⟩, R.dis, fun i b h => ?_⟩
  obtain ⟨f0, u, hu⟩ := R.free i b h
  refine ⟨?_, u, E.keep b u hu (n b ⟨i, h⟩)⟩
  cases q : F' b with
  | none => rfl
  | some z =>
    rcases E.new b z q with y | y | y
    · rw [f0] at y; cases y
    · rw [hu] at y; cases y
    · exact absurd y (n b ⟨i, h⟩)
theorem de_callT {x : Str} {k : Nat} {ps : List Str} {m : D → List D → FR (D × D)} {g : M D} {gs : List ME} {p₀ : Pos} (hK : κ.K = X.K) (G : Has X.prog X.w X.K X.mg X.base x k ps (SpI X.K m)) (hr : Room k X.A) (tk : Takes X W) (hg : Gl X x)
    (ha : DMs X κ W (e :: es) (.op g :: gs)) (hdb : (x == ("__debug__" : Str)) = false := by decide) (he : starEach (e :: es) X.env = (false, eval e X.env) :: starEach es X.env := by rfl) (hpl : (backTo pos (starEach es X.env)).any (·.1) = false := by rfl) :
    DE X κ W (.Call (.Name x p₀) (e :: es) [] pos) (gCallT m g gs) := by
  obtain ⟨f, fd, h1, h2, h3, h4⟩ := G
  refine pe_weak (pe_callSD h4 hr hg h1 h2 h3 .nil (fun σ => passAt tk σ) ha hdb he hpl) fun σ H Q q => ?_
  obtain ⟨F, w, ρ, R, q⟩ := q
  refine ⟨F, w, ρ, R, ?_⟩
  unfold gCallT M.bind at q
  cases e0 : gMs (.op g :: gs) ρ with
  | stuck => rw [e0] at q; exact q
  | err x ρ' => rw [e0] at q; exact q
  | ok bs ρ1 =>
    rw [e0] at q
    intro F1 H1 w1 R1 E1 vs T mx at_ E2
    simp only at q
    cases mx with
    | nil => exact q.elim
    | fz r mx => exact q.elim
    | @op v c vs bs T wv o dj mx =>
      simp only at q
      split at q
      · rename_i hall
        obtain ⟨rl, noT⟩ := mx.fzs hall
        refine ⟨F1, wv, v, vs, c, bs.map (·.2), by simp, R1.sub, hK ▸ o, fun b hb => ⟨(at_ b (.inl hb)).1, (at_ b (.inl hb)).2.2⟩, hK ▸ rl, ?_⟩
        cases e3 : m c (bs.map (·.2)) with
        | stuck => rw [e3] at q; exact q.elim
        | err x => rw [e3] at q; exact q.elim
        | ok dc =>
          obtain ⟨d, c'⟩ := dc
          rw [e3] at q
          intro v' F' H' w' E' sb o' f' r'
          have R2 := R1.beside E' sb fun b hb hw => (at_ b (.inl hw)).2.1 hb
          refine q F' H' w1 R2 (E2.trans (E'.wide (fun b h => .inr (.inl h)) fun b h => .inr (.inl h))) v' (hK ▸ r')
      · exact q.elim
end
end DL
/-! DLE: calls that only borrow; lists of new lists; a change within. -/
namespace DL
open PySem L2
section
variable {X : Cx} {κ : Kx} {W : WX} {e a b c tg iter elt : Expr} {es rest : List Expr} {pos : Pos}
/-! ### a call that borrows its arguments and gives a plain value -/
def D.plain : D → Bool
  | .non => true
  | .bl _ => true
  | .int _ => true
  | .str _ => true
  | _ => false
theorem Rep.plain {K : PySem.W.Frag} {F F' : Hp} {v : V} {d : D} (r : Rep K F v d) (h : d.plain = true) : Rep K F' v d := by
  cases r with
  | non => exact .non
  | bl => exact .bl
  | int => exact .int
  | str => exact .str
  | tup _ _ => cases h
  | lst _ _ => cases h
  | dicK _ _ => cases h
def LV.readS : LV → Env → Option D
  | .at_ d, _ => some d
  | .pl i, ρ => (ρ[i]?).bind slS
def readAllS : List LV → Env → Option (List D)
  | [], _ => some []
  | x :: xs, ρ => match x.readS ρ, readAllS xs ρ with
    | some d, some ds => some (d :: ds)
    | _, _ => none
/-- a name read late, trees too -/
def oPn (i : Nat) : M LV := fun ρ => match (ρ[i]?).bind slS with
  | some _ => .ok (.pl i) ρ
  | none => .stuck
theorem slS_val {F H : Hp} {w : Ws} {σ : L2.St} {ρ : Env} (R : Rs κ F H w σ ρ) {i : Nat} {d : D} (h : (ρ[i]?).bind slS = some d) : ∃ v, σ[i]? = some (some v) := by
  cases e : ρ[i]? with
  | none => rw [e] at h; cases h
  | some s =>
    rw [e] at h
    have z := R.slot i s e
    cases e0 : σ[i]? with
    | none => rw [e0] at z; cases s <;> first | exact z.elim | cases h
    | some o => cases o with
      | none => rw [e0] at z; cases s <;> first | exact z.elim | cases h
      | some v => exact ⟨v, rfl⟩
theorem dv_pn {i : Nat} (h : PE X e (tVar i)) : DV X κ W e (oPn i) := pe_weak h fun σ H Q q => by
  obtain ⟨F, w, ρ, R, q⟩ := q
  unfold oPn at q
  cases e1 : (ρ[i]?).bind slS with
  | none => rw [e1] at q; exact q.elim
  | some d =>
    rw [e1] at q
    obtain ⟨v, hv⟩ := slS_val R e1
    exact ⟨v, hv, q F H w R (Ext.refl _ _ _) v hv⟩
def gCallS (m : List D → FR D) (os : List (M LV)) : M D := M.bind (gOps os) fun xs ρ => match readAllS xs ρ with
  | some ds => match m ds with
    | .ok d => if d.plain = true then .ok d ρ else .stuck
    | _ => .stuck
  | none => .stuck
open Classical in
theorem readS_rep {F H : Hp} {w : Ws} {σ : L2.St} {ρ : Env} (R : Rs κ F H w σ ρ) : ∀ {xs : List LV} {vs : List V} {ds : List D}, LvsOk κ F σ vs xs → readAllS xs ρ = some ds → RepL κ.K (sink F H (Tw w)) vs ds
  | _, _, _, .nil, e => by simp [readAllS] at e; subst e; exact .nil
  | _, _, _, .cons (v := v) (x := x) h r, e => by
    unfold readAllS at e
    split at e
    · rename_i d ds' e1 e2
      cases e
      refine .cons ?_ (readS_rep R r e2)
      cases x with
      | at_ d' =>
        have e1 : some d' = some d := e1
        cases e1
        exact Rep.le (sink_le R fun _ h => h) h
      | pl i =>
        have e1 : (ρ[i]?).bind slS = some d := e1
        have h : σ[i]? = some (some v) := h
        cases e3 : ρ[i]? with
        | none => rw [e3] at e1; cases e1
        | some s =>
          rw [e3] at e1
          obtain ⟨v', h1, h2⟩ := sink_rep (T := Tw w) R (fun _ h => h) e3 e1 fun b hb => ⟨i, hb⟩
          rw [h] at h1; cases h1
          exact h2
    · cases e
open Classical in
theorem Rs.back {F H F' H' : Hp} {w : Ws} {σ : L2.St} {ρ : Env} (R : Rs κ F H w σ ρ) (g : Grow (sink F H (Tw w)) H F' H') : Rs κ F H' w σ ρ ∧ Ext F H (Tw w) F H' (Tw w) := by
  have le := sink_le (T := Tw w) R fun _ h => h
  refine ⟨⟨fun b u h => g.sub b u (g.le b u (le b u h)), R.pin, R.len, fun i s h => (R.slot i s h).move (LeF.refl F) fun b o _ ho => g.keep b o ho, R.dis, fun i b h => ?_⟩, ⟨LeF.refl F, fun b o h _ => g.keep b o h, fun b o h => .inl h, fun b h => .inr h⟩⟩
  obtain ⟨f, o, ho⟩ := R.free i b h
  exact ⟨f, o, g.keep b o ho⟩
theorem de_callS {x : Str} {k : Nat} {ps : List Str} {m : List D → FR D} {o : M LV} {os : List (M LV)} {p₀ : Pos} (hK : κ.K = X.K) (G : Has X.prog X.w X.K X.mg X.base x k ps (SpF X.K m)) (hr : Room k X.A) (tk : Takes X W) (hg : Gl X x)
    (ha : DA X κ W (e :: es) (o :: os)) (hdb : (x == ("__debug__" : Str)) = false := by decide) (he : starEach (e :: es) X.env = (false, eval e X.env) :: starEach es X.env := by rfl) (hpl : (backTo pos (starEach es X.env)).any (·.1) = false := by rfl) :
    DE X κ W (.Call (.Name x p₀) (e :: es) [] pos) (gCallS m (o :: os)) := by
  obtain ⟨f, fd, h1, h2, h3, h4⟩ := G
  refine pe_weak (pe_callSD h4 hr hg h1 h2 h3 .nil (fun σ => passAt tk σ) ha hdb he hpl) fun σ H Q q => ?_
  refine run.bind q fun xs F1 H1 w1 ρ1 R1 z => fun vs rs => ?_
  cases e1 : readAllS xs ρ1 with
  | none => simp only [e1] at z; exact z.elim
  | some ds =>
    simp only [e1] at z
    cases e2 : m ds with
    | err x => simp only [e2] at z; exact z.elim
    | stuck => simp only [e2] at z; exact z.elim
    | ok d =>
      simp only [e2] at z
      split at z
      · rename_i hp
        refine ⟨_, ds, sink_sub (T := Tw w1) R1.sub, by rw [List.append_nil]; exact hK ▸ readS_rep R1 rs e1, ?_⟩
        rw [e2]
        intro v F' H' g r
        obtain ⟨R2, E2⟩ := R1.back g
        exact z F1 H' w1 R2 E2 v (hK ▸ r.plain hp)
      · exact z.elim
/-! ### trees of new things -/
def rdN (κ : Kx) (W : WX) (g : M NT) : TE := fun σ H Q => run κ W g σ H fun t F' H' w' _ => ∀ v F2 H2 wv, Grow F' H' F2 H2 → NtAt κ.K F2 H2 wv v t → (∀ b, wv b → F2 b = none ∧ H' b = none ∧ ∃ o, H2 b = some o) → Q v H2
abbrev DN (X : Cx) (κ : Kx) (W : WX) (e : Expr) (g : M NT) : Prop := PE X e (rdN κ W g)
def sSetN (i : Nat) (t : NT) : SM := fun ρ => if i < ρ.length then .nx (ρ.set i (.on t)) else .stuck
theorem set_on {F H F2 H2 : Hp} {w : Ws} {σ : L2.St} {ρ : Env} {D₀ : Ends} {i : Nat} {t : NT} {v : V} {wv : AS} (hp : κ.pn.all (fun q => q.1 != i) = true) (R : Rs κ F H w σ ρ) (z : stAt κ W F H w D₀ (sSetN i t ρ)) (g : Grow F H F2 H2) (r : NtAt κ.K F2 H2 wv v t)
    (f : ∀ b, wv b → F2 b = none ∧ H b = none ∧ ∃ o, H2 b = some o) : D₀.nx (σ.set i (some v)) H2 := by
  unfold sSetN at z
  split at z
  · rename_i hi
    refine z _ F2 H2 _ ((R.grown g).setSl (sl := .on t) (pin_ne hp) hi r (fun b h ⟨j, hj⟩ => ?_) fun b h => ⟨(f b h).1, (f b h).2.2⟩) ⟨g.le, fun b o h _ => g.keep b o h, fun b o h => (g.new b o h).elim .inl fun z => .inr (.inl z), fun b h => ?_⟩
    · obtain ⟨o, ho⟩ := (R.free j b hj).2
      rw [(f b h).2.1] at ho
      cases ho
    · rcases Tw_set h with h | h
      · exact .inr h
      · exact .inl (f b h).2.1
  · exact z.elim
/-! a comprehension whose elements are new containers -/
def lcN (ρ₀ : Env) (vs : List Nat) (t : Tg) (ge : M D) : List D → List D → M NT
  | [], acc, ρ => .ok (.lst (acc.map .op)) (keepE ρ₀ ρ vs)
  | d :: ds, acc, ρ => match bindT t d ρ with
    | none => .stuck
    | some ρ1 => match ge ρ1 with
      | .ok y ρ3 => if acc.length < sizeLine then lcN ρ₀ vs t ge ds (acc ++ [y]) (wipeE ρ3 vs) else .stuck
      | _ => .stuck
def gLcN (vs : List Nat) (gi : M (List D)) (t : Tg) (ge : M D) : M NT := M.bind gi fun ds ρ => lcN ρ vs t ge ds [] (wipeE ρ vs)
theorem NtL.len {K : PySem.W.Frag} {F H : Hp} : ∀ {w : AS} {vs : List V} {ts : List NT}, NtL K F H w vs ts → vs.length = ts.length
  | _, _, _, .nil => rfl
  | _, _, _, .cons _ _ _ _ h => by simp [NtL.len h]
theorem NtL.wid {K : PySem.W.Frag} {F H : Hp} {w w' : AS} (k : ∀ b, w b → w' b) : ∀ {vs : List V} {ts : List NT}, NtL K F H w vs ts → NtL K F H w' vs ts
  | _, _, .nil => .nil
  | _, _, .cons h1 h2 h3 h4 h5 => .cons (fun b h => k b (h1 b h)) (fun b h => k b (h2 b h)) h3 h4 h5
theorem NtAt.wid {K : PySem.W.Frag} {F H : Hp} {w w' : AS} (k : ∀ b, w b → w' b) : ∀ {v : V} {t : NT}, NtAt K F H w v t → NtAt K F H w' v t
  | _, _, .fz r => .fz r
  | _, _, .op h1 h2 h3 => .op (k _ h1) h2 h3
  | _, _, .lst h1 h2 h3 h4 => .lst (k _ h1) h2 (fun b h => ⟨k b (h3 b h).1, (h3 b h).2⟩) h4
  | _, _, .ins h1 h2 h3 h4 h5 h6 h7 h8 h9 h10 => .ins (k _ h1) (k _ h2) h3 h4 h5 h6 h7 h8 (fun b h => ⟨k b (h9 b h).1, (h9 b h).2⟩) h10
theorem NtL.snoc {K : PySem.W.Frag} {F H : Hp} {v : V} {t : NT} {w1 : AS} (hv : NtAt K F H w1 v t) : ∀ {w : AS} {vs : List V} {ts : List NT}, (∀ b, w1 b → ¬ w b) → NtL K F H w vs ts → NtL K F H (fun b => w b ∨ w1 b) (vs ++ [v]) (ts ++ [t])
  | w, _, _, n, .nil => .cons (w1 := w1) (w2 := fun _ => False) (fun b h => .inr h) (fun b h => h.elim) (fun b _ h => h) hv .nil
  | w, _, _, n, .cons (w1 := u1) (w2 := u2) h1 h2 h3 h4 h5 => .cons (w1 := u1) (w2 := fun b => u2 b ∨ w1 b) (fun b h => .inl (h1 b h)) (fun b h => h.elim (fun h => .inl (h2 b h)) .inr)
      (fun b h z => z.elim (h3 b h) fun z => n b z (h1 b h)) h4 (NtL.snoc hv (fun b h z => n b h (h2 b z)) h5)
open Classical in
noncomputable def hideP (H : Hp) (T : AS) : Hp := fun b => if T b then none else H b
theorem hideP_ne {H : Hp} {T : AS} {b : Addr} (h : ¬ T b) : hideP H T b = H b := by unfold hideP; rw [if_neg h]
theorem hideP_at {H : Hp} {T : AS} {b : Addr} (h : T b) : hideP H T b = none := by unfold hideP; rw [if_pos h]
theorem Rs.less {F H : Hp} {w : Ws} {σ : L2.St} {ρ : Env} {T : AS} (R : Rs κ F H w σ ρ) (f : ∀ b, T b → F b = none) (n : ∀ b, T b → ¬ Tw w b) : Rs κ F (hideP H T) w σ ρ := by
  refine ⟨fun b u h => ?_, R.pin, R.len, fun i s h => (R.slot i s h).move (LeF.refl F) fun b o hb ho => by rw [hideP_ne fun z => n b z ⟨i, hb⟩]; exact ho, R.dis, fun i b h => ?_⟩
  · rw [hideP_ne fun z => by rw [f b z] at h; cases h]; exact R.sub b u h
  · obtain ⟨g, o, ho⟩ := R.free i b h
    exact ⟨g, o, by rw [hideP_ne fun z => n b z ⟨i, h⟩]; exact ho⟩
theorem lcN_turns {t : Tg} {ge : M D} {vs : List Nat} {F H : Hp} {w : Ws} {σ : L2.St} {ρ : Env} {J : It} {ds : List D} {p : Addr} {Q : VK} (R : Rs κ F H w σ ρ) (it : ItOk κ F J ds) (hp : H p = none) (hv : (vs.all fun v => κ.pn.all fun q => q.1 != v) = true) (hs : ∀ j ∈ t.sl, j ∈ vs)
    (q : runAt κ W F H w σ (lcN ρ vs t ge ds [] (wipeE ρ vs)) fun t F' H' w' _ => ∀ v F2 H2 wv, Grow F' H' F2 H2 → NtAt κ.K F2 H2 wv v t → (∀ b, wv b → F2 b = none ∧ H' b = none ∧ ∃ o, H2 b = some o) → Q v H2) :
    ∃ W' : Nat → Nat → Hp → Prop, (∃ m, W' 0 m (upd H p (.lst []))) ∧ ∀ i m H, W' i m H → (J.stop i H ∧ Q (.ref p) H) ∨ (J.go i H ∧ ∃ Nx : Hp → Prop, (∀ H', Nx H' → ∃ m', m' < m ∧ W' (i + 1) m' H') ∧ ∀ x H', J.yld i H x H' → rdG κ (bindT t) t.sl x (wipe σ vs) H' fun σ2 H2 => wipe σ2 vs = wipe σ vs ∧ rdT κ WF gT σ2 H2 fun b H3 =>
      if b = true then rdO κ WF ge σ2 H3 fun y H4 => ∃ acc, H4 p = some (.lst acc) ∧ acc.length < sizeLine ∧ Nx (upd H4 p (.lst (acc ++ [y]))) else Nx H3) := by
  have fp : F p = none := by
    cases e : F p with
    | none => rfl
    | some u => rcases R.sub p u e with z | ⟨_, ob, z⟩ <;> (rw [hp] at z; cases z)
  let St8 := fun (i : Nat) (H' : Hp) => ∃ F' w' ρb acc av wa, Rs κ F' H' w' (wipe σ vs) ρb ∧ H' p = some (.lst av) ∧ NtL κ.K F' H' wa av (acc.map .op) ∧ (∀ b, wa b → F' b = none ∧ (∃ o, H' b = some o) ∧ ¬ Tw w' b ∧ b ≠ p) ∧ F' p = none ∧ ¬ Tw w' p ∧ Ext F H (Tw w) F' H' (fun b => Tw w' b ∨ b = p ∨ wa b) ∧
    runAt κ W F H w σ (lcN ρ vs t ge (ds.drop i) acc ρb) fun t F' H' w' _ => ∀ v F2 H2 wv, Grow F' H' F2 H2 → NtAt κ.K F2 H2 wv v t → (∀ b, wv b → F2 b = none ∧ H' b = none ∧ ∃ o, H2 b = some o) → Q v H2
  refine ⟨fun i m H' => m = ds.length - i ∧ i ≤ ds.length ∧ St8 i H',
    ⟨_, rfl, Nat.zero_le _, F, wipeW w vs, wipeE ρ vs, [], [], fun _ => False, ?_, upd_same, .nil, (fun _ h => h.elim), fp, fun z => ?_, ?_, q⟩, ?_⟩
  · have g : Grow F H F (upd H p (.lst [])) := ⟨fun b u h => by
      rcases R.sub b u h with z | ⟨z, ob, y⟩
      · exact .inl (by rw [upd_ne (ne_of_none z hp)]; exact z)
      · exact .inr ⟨z, ob, by rw [upd_ne (ne_of_none y hp)]; exact y⟩, LeF.refl F, fun b o h => by rw [upd_ne (ne_of_none h hp)]; exact h, fun b o h => .inl h⟩
    exact (R.grown g).wiped hv
  · obtain ⟨j, hj⟩ := wipeW_le z
    obtain ⟨o, ho⟩ := (R.free j p hj).2
    rw [hp] at ho
    cases ho
  · exact ⟨LeF.refl F, fun b o h _ => by rw [upd_ne (ne_of_none h hp)]; exact h, fun b o h => .inl h, fun b h => by
      rcases h with h | h | h
      · exact .inr (wipeW_le h)
      · subst h; exact .inl hp
      · exact h.elim⟩
  rintro i m H1 ⟨rfl, hi, F1, w1, ρb, acc, av, wa, R1, d1, d2, d5, d3, d4, E1, q1⟩
  by_cases hlt : i < ds.length
  · have ed : ds.drop i = ds[i] :: ds.drop (i + 1) := List.drop_eq_getElem_cons hlt
    rw [ed] at q1
    have e1 : ds[i]? = some ds[i] := List.getElem?_eq_getElem hlt
    obtain ⟨go, yl⟩ := (it i F1 H1 E1.le R1.sub).2 ds[i] e1
    refine .inr ⟨go, St8 (i + 1), fun H' z => ⟨ds.length - (i + 1), by omega, rfl, hlt, z⟩, fun x H2 y => ?_⟩
    obtain ⟨F2, g2, r2⟩ := yl x H2 y
    unfold lcN at q1
    cases e2 : bindT t ds[i] ρb with
    | none => rw [e2] at q1; exact q1.elim
    | some ρ1 =>
      rw [e2] at q1
      refine ⟨F2, w1, ρb, _, ρ1, R1.grown g2, r2, e2, fun σ3 w3 R3 s3 a3 => ?_⟩
      have hl3 : σ3.length = σ.length := by
        have h1 := R3.len
        have h2 := (R1.grown g2).len
        rw [wipe_length] at h2
        have h3 : ρ1.length = ρb.length := bindT_len e2
        omega
      have hw3 : wipe σ3 vs = wipe σ vs := wipe_eq hl3 a3 hs
      refine ⟨hw3, F2, w3, ρ1, R3, fun F3 H3 w4 R4 E4 => L2.iteT ⟨F3, w4, ρ1, R4, ?_⟩⟩
      -- what stands beside: the list at p, its elements
      let B := fun (b : Addr) => b = p ∨ wa b
      have bs1 : ∀ b, B b → F1 b = none ∧ (∃ o, H1 b = some o) ∧ ¬ Tw w1 b := fun b hb => by
        rcases hb with hb | hb
        · subst hb; exact ⟨d3, ⟨_, d1⟩, d4⟩
        · exact ⟨(d5 b hb).1, (d5 b hb).2.1, (d5 b hb).2.2.1⟩
      have bs2 : ∀ b, B b → F2 b = none ∧ (∃ o, H2 b = some o) ∧ ¬ Tw w3 b := fun b hb => by
        obtain ⟨f, ⟨o, ho⟩, n⟩ := bs1 b hb
        refine ⟨?_, ⟨o, g2.keep _ _ ho⟩, fun z => n (s3 b z)⟩
        cases e : F2 b with
        | none => rfl
        | some u =>
          rcases g2.new b u e with z | z
          · rw [f] at z; cases z
          · rw [ho] at z; cases z
      have beside : ∀ {F' H' : Hp} {w' : Ws} {Fa Ha : Hp} {wx : Ws}, (∀ b, B b → Fa b = none ∧ (∃ o, Ha b = some o) ∧ ¬ Tw wx b) → Ext Fa Ha (Tw wx) F' H' (Tw w') → ∀ b, B b → F' b = none ∧ (∃ o, H' b = some o) ∧ ¬ Tw w' b := fun {F' H' w' Fa Ha wx} k E b hb => by
        obtain ⟨f, ⟨o, ho⟩, n⟩ := k b hb
        refine ⟨?_, ⟨o, E.keep b o ho n⟩, fun z => ?_⟩
        · cases e : F' b with
          | none => rfl
          | some u =>
            rcases E.new b u e with z | z | z
            · rw [f] at z; cases z
            · rw [ho] at z; cases z
            · exact absurd z n
        · rcases E.own b z with y | y
          · rw [ho] at y; cases y
          · exact n y
      have bs4 := beside bs2 E4
      have E2 : Ext F H (Tw w) F2 H2 (fun b => Tw w3 b ∨ B b) := E1.trans ((g2.ext _).trans (Ext.sub fun b h => h.elim (fun h => .inl (s3 b h)) .inr))
      have wide : ∀ {F' H' : Hp} {w' : Ws} {Fa Ha : Hp} {wx : Ws}, Ext Fa Ha (Tw wx) F' H' (Tw w') → Ext Fa Ha (fun b => Tw wx b ∨ B b) F' H' (fun b => Tw w' b ∨ B b) := fun E => E.wide (fun b h => .inl h) fun b h => h.elim .inl fun h => .inr (.inr h)
      cases e4 : ge ρ1 with
      | stuck => simp only [e4] at q1; exact q1.elim
      | err x ρ' => simp only [e4] at q1; exact q1.elim
      | ok y ρ3 =>
        simp only [e4] at q1
        split at q1
        · rename_i hz
          intro F4 H4 w5 R5 E5 yv F5 H5 wy g5 o5 f5
          have bs5 := beside bs4 E5
          have E6 : Ext F H (Tw w) F5 H5 (fun b => Tw w5 b ∨ B b) := (E2.trans ((wide E4).trans (wide E5))).trans (g5.ext _)
          have keepB : ∀ b o, B b → H1 b = some o → H5 b = some o := fun b o hb ho => by
            have h2 := g2.keep b o ho
            have h3 := E4.keep b o h2 (bs2 b hb).2.2
            have h4 := E5.keep b o h3 (bs4 b hb).2.2
            exact g5.keep b o h4
          have fB : ∀ b, B b → F5 b = none := fun b hb => by
            cases e : F5 b with
            | none => rfl
            | some u =>
              rcases g5.new b u e with z | z
              · rw [(bs5 b hb).1] at z; cases z
              · obtain ⟨o, ho⟩ := (bs5 b hb).2.1
                rw [ho] at z; cases z
          have c1 : H5 p = some (.lst av) := keepB p _ (.inl rfl) d1
          have nwy : ∀ b, wy b → ¬ B b := fun b hb hB => by
            obtain ⟨o, ho⟩ := (bs5 b hB).2.1
            rw [(f5 b hb).2.1] at ho; cases ho
          have nww : ∀ b, wy b → ¬ Tw w5 b := fun b hb ⟨j, hj⟩ => by
            obtain ⟨o, ho⟩ := (R5.free j b hj).2
            rw [(f5 b hb).2.1] at ho; cases ho
          have le15 : LeF F1 F5 := g2.le.trans (E4.le.trans (E5.le.trans g5.le))
          have len : av.length = acc.length := by rw [d2.len]; simp
          refine ⟨av, c1, by rw [len]; exact hz, F5, wipeW w5 vs, wipeE ρ3 vs, acc ++ [y], av ++ [yv], (fun b => wa b ∨ wy b), ?_, upd_same, ?_, fun b hb => ?_, fB p (.inl rfl), fun z => (bs5 p (.inl rfl)).2.2 (wipeW_le z), ?_, q1⟩
          · have R6 := (R5.grown g5).wiped hv
            rw [hw3] at R6
            exact R6.aside (fun z => (bs5 p (.inl rfl)).2.2 (wipeW_le z)) (fB p (.inl rfl))
          · rw [List.map_append]
            obtain ⟨ya, yo, rfl, y1, y2, y3⟩ := o5
            refine NtL.snoc (.op y1 (by rw [upd_ne fun e => nwy ya y1 (.inl e)]; exact y2) y3) (fun b h z => nwy b h (.inr z)) (NtL.move le15 (fun b o hb ho => by rw [upd_ne (d5 b hb).2.2.2]; exact keepB b o (.inr hb) ho) d2)
          · rcases hb with hb | hb
            · refine ⟨fB b (.inr hb), ?_, fun z => (bs5 b (.inr hb)).2.2 (wipeW_le z), (d5 b hb).2.2.2⟩
              obtain ⟨o, ho⟩ := (d5 b hb).2.1
              exact ⟨o, by rw [upd_ne (d5 b hb).2.2.2]; exact keepB b o (.inr hb) ho⟩
            · have np : b ≠ p := fun e => nwy b hb (.inl e)
              obtain ⟨o, ho⟩ := (f5 b hb).2.2
              exact ⟨(f5 b hb).1, ⟨o, by rw [upd_ne np]; exact ho⟩, fun z => nww b hb (wipeW_le z), np⟩
          · refine ⟨E6.le, fun b o h n => ?_, E6.new, fun b hb => ?_⟩
            · have h2 := E6.keep b o h n
              rw [upd_ne fun e => by rw [e, hp] at h; cases h]; exact h2
            · rcases hb with hb | hb | hb | hb
              · exact E6.own b (.inl (wipeW_le hb))
              · exact E6.own b (.inr (.inl hb))
              · exact E6.own b (.inr (.inr hb))
              · cases e0 : H b with
                | none => exact .inl rfl
                | some u =>
                  by_cases hw : Tw w b
                  · exact .inr hw
                  · have h4 := (E2.trans ((wide E4).trans (wide E5))).keep b u e0 hw
                    rw [(f5 b hb).2.1] at h4; cases h4
        · exact q1.elim
  · have e : i = ds.length := by omega
    subst e
    rw [List.drop_length] at q1
    unfold lcN at q1
    refine .inl ⟨(it _ F1 H1 E1.le R1.sub).1 rfl, ?_⟩
    have hR := (R1.left R E1.le d4 d3).less (T := wa) (fun b hb => (d5 b hb).1) fun b hb hw => (d5 b hb).2.2.1 (wipeW_le hw)
    refine q1 F1 _ (wipeW w1 vs) hR ⟨E1.le, fun b o h n => ?_, fun b o h => E1.new b o h, fun b h => ?_⟩ (.ref p) F1 H1 (fun b => b = p ∨ wa b) ⟨R1.sub, LeF.refl _, fun b o h => ?_, fun b o h => .inl h⟩ (.lst (.inl rfl) d1 (fun b hb => ⟨.inr hb, (d5 b hb).2.2.2⟩) d2) fun b hb => ?_
    · have np : b ≠ p := fun e => by rw [e, hp] at h; cases h
      by_cases hb : wa b
      · rcases E1.own b (.inr (.inr hb)) with z | z
        · rw [h] at z; cases z
        · exact absurd z n
      · rw [hideP_ne hb, hide_ne np]; exact E1.keep b o h n
    · exact E1.own b (.inl (wipeW_le h))
    · by_cases hb : wa b
      · rw [hideP_at hb] at h; cases h
      · rw [hideP_ne hb] at h
        by_cases eb : b = p
        · subst eb; rw [hide_self] at h; cases h
        · rw [hide_ne eb] at h; exact h
    · rcases hb with hb | hb
      · subst hb
        refine ⟨d3, ?_, _, d1⟩
        by_cases hb : wa b
        · exact hideP_at hb
        · rw [hideP_ne hb]; exact hide_self
      · exact ⟨(d5 b hb).1, hideP_at hb, (d5 b hb).2.1⟩
theorem lcN_read {vs : List Nat} {t : Tg} {gi : M (List D)} {ge : M D} {σ : L2.St} {H : Hp} {Q : VK} (hv : (vs.all fun v => κ.pn.all fun q => q.1 != v) = true) (hs : ∀ j ∈ t.sl, j ∈ vs)
    (q : rdN κ W (gLcN vs gi t ge) σ H Q) : tLc (rdI κ W gi) (rdG κ (bindT t) t.sl) (rdT κ WF gT) (rdO κ WF ge) vs σ H Q := by
  refine run.bind q fun ds F1 H1 w1 ρ1 R1 z J F2 H2 g2 it p hp => ?_
  refine lcN_turns (W := W) (R1.grown g2) it hp hv hs ?_
  have E := g2.ext (Tw w1)
  cases e : lcN ρ1 vs t ge ds [] (wipeE ρ1 vs) with
  | stuck => simp only [e] at z; exact z
  | err x ρ' => simp only [e] at z; exact fun c dd F' H' w' R' E' k => z c dd F' H' w' R' (E.trans E') k
  | ok a ρ' => simp only [e] at z; exact fun F' H' w' R' E' => z F' H' w' R' (E.trans E')
variable {scope : Scope} {own : List (Str × Nat)}
theorem ds_setLcN {t : Tg} {gi : M (List D)} {ge : M D} {i : Nat} {y : Str} {py spos : Pos} (hc : X.calm = true) (hN : X.N.Nodup) (hy : X.N[i]? = some y) (hyl : X.env.scope.names.lookup y = some .local) (hp : κ.pn.all (fun q => q.1 != i) = true)
    (hsw : swapsWith (.ListComp elt [⟨tg, iter, [], 0⟩] scope pos) (some (.Name y py)) spos.line X.env = pure true) (hi : DI X κ W tg iter gi) (ok : BlkOk X.N X.env.scope scope own) (hv : ((own.map (·.2)).all fun v => κ.pn.all fun q => q.1 != v) = true) (hsl : (t.sl.all fun j => (own.map (·.2)).contains j) = true)
    (hg : ∀ (s : Shared) (H : Hp) (C : Addr) (cl : List (Str × Addr)) (fp : List Addr), DG (X.blk s H scope (compEnvC scope cl C X.env) fp) κ tg t)
    (he : ∀ (s : Shared) (H : Hp) (C : Addr) (cl : List (Str × Addr)) (fp : List Addr), DO (X.blk s H scope (compEnvC scope cl C X.env) fp) κ WF elt ge) (hs : ∀ x, foldedSetIterable iter X.env x = pure x := by intro _; rfl) :
    DS X κ W (.Assign [.Name y py] (.ListComp elt [⟨tg, iter, [], 0⟩] scope pos) spos) (sBind (gLcN (own.map (·.2)) gi t ge) (sSetN i)) :=
  ps_weak (ps_setLc hc hN hy hyl hsw hi ok hg (fun _ _ _ _ _ => dts_nil) he hs) fun D₀ σ H q => lcN_read hv (fun j hj => by simpa using List.all_eq_true.mp hsl j hj) (run.imp (sBind_run q) fun d F' H' w' ρ' R' z v F2 H2 wv g r f => set_on hp R' z g r f)
/-! ### a change within a tree -/
theorem NtL.open_ {K : PySem.W.Frag} {F H : Hp} : ∀ {w : AS} {vs : List V} {ts : List NT} {j : Nat} {d : D}, NtL K F H w vs ts → ts[j]? = some (.op d) → ∃ b o, vs[j]? = some (.ref b) ∧ w b ∧ H b = some o ∧ Cont K F o d ∧ ∀ o' d', Cont K F o' d' → NtL K F (upd H b o') w vs (ts.set j (.op d'))
  | _, _, _, _, _, .nil, e => by simp at e
  | w, _, _, 0, d, .cons (w1 := w1) (w2 := w2) h1 h2 h3 h4 h5, e => by
    simp at e
    subst e
    cases h4 with
    | op k1 k2 k3 =>
      rename_i b o
      refine ⟨b, o, by simp, h1 _ k1, k2, k3, fun o' d' c' => ?_⟩
      simp only [List.set_cons_zero]
      refine .cons h1 h2 h3 (.op k1 upd_same c') (NtL.move (LeF.refl F) (fun x u hx hu => ?_) h5)
      have ne : x ≠ b := fun q => h3 b k1 (by rw [← q]; exact hx)
      rw [upd_ne ne]; exact hu
  | w, _, _, j + 1, d, .cons (w1 := w1) (w2 := w2) h1 h2 h3 h4 h5, e => by
    obtain ⟨b, o, k1, k2, k3, k4, k5⟩ := NtL.open_ h5 (by simpa using e)
    refine ⟨b, o, by simpa using k1, h2 _ k2, k3, k4, fun o' d' c' => ?_⟩
    simp only [List.set_cons_succ]
    refine .cons h1 h2 h3 (NtAt.move (LeF.refl F) (fun x u hx hu => ?_) h4) (k5 o' d' c')
    have ne : x ≠ b := fun q => h3 x hx (by rw [q]; exact k2)
    rw [upd_ne ne]; exact hu
def gAppN (i j : Nat) (n : Int) : M D := fun ρ => match ρ[i]? with
  | some (.on (.lst ts)) => match ts[j]? with
    | some (.op (.lst xs)) => if xs.length < sizeLine then .ok .non (ρ.set i (.on (.lst (ts.set j (.op (.lst (xs ++ [.int n]))))))) else .stuck
    | _ => .stuck
  | _ => .stuck
theorem de_appN {i j : Nat} {n : Int} {j1 k1} {p1 p2 p3 apos cpos : Pos} (hK : κ.K = X.K) (ho : PE X a (tVar i)) (hs : PlainIx (.Constant (.int (j : Nat)) j1 p1))
    (hbase : attributeBase (.Subscript a (.Constant (.int (j : Nat)) j1 p1) p2) "append" X.env (eval (.Subscript a (.Constant (.int (j : Nat)) j1 p1) p2) X.env) = eval (.Subscript a (.Constant (.int (j : Nat)) j1 p1) p2) X.env := by rfl) (hline : (apos.endLine == cpos.line) = true := by rfl) :
    DE X κ W (.Call (.Attribute (.Subscript a (.Constant (.int (j : Nat)) j1 p1) p2) "append" apos) [.Constant (.int n) k1 p3] [] cpos) (gAppN i j n) :=
  pe_weak (pe_bm PySem.F.plainAttrs_list PySem.F.slot_list_append PySem.F.type_list_append (md_append (κ := κ)) (pe_ix ix_list ho pe_int hs) (pa_cons pe_int pa_nil) hbase rfl hline rfl rfl) fun σ H Q q => by
    obtain ⟨F, w, ρ, R, q⟩ := q
    unfold gAppN at q
    split at q
    · rename_i ts e1
      split at q
      · rename_i xs e2
        split at q
        · rename_i hz
          have hi : i < ρ.length := (List.getElem?_eq_some_iff.mp e1).1
          have z := R.slot i _ e1
          cases e0 : σ[i]? with
          | none => rw [e0] at z; exact z.elim
          | some ov =>
            cases ov with
            | none => rw [e0] at z; exact z.elim
            | some v =>
              rw [e0] at z
              have z : NtAt κ.K F H (w i) v (.lst ts) := z
              cases z with
              | lst h1 h2 h3 h4 =>
                rename_i w' a₀ vs
                obtain ⟨b, o, k1, k2, k3, k4, k5⟩ := h4.open_ e2
                cases k4 with
                | lst r =>
                  rename_i ys
                  have hj : j < vs.length := (List.getElem?_eq_some_iff.mp k1).1
                  have wb := (h3 b k2)
                  have at_ : atI vs (j : Nat) = some (.ref b) := by
                    unfold atI
                    rw [show ixN vs.length (j : Nat) = some j by unfold ixN; simp [hj]]
                    exact k1
                  refine ⟨.ref a₀, e0, a₀, vs, (j : Nat), .ref b, rfl, rfl, .inl (.inl h2), at_, .inl ⟨rfl, ys, .inl (.inl k3)⟩, ?_⟩
                  show rM κ mAppend (.ref b) [.int n] H Q
                  refine ⟨F, b, _, .lst xs, [.int n], .non, .lst (xs ++ [.int n]), rfl, k3, .lst r, R.sub, .cons .int .nil, ?_, fun v' o' c' r' => ?_⟩
                  · show (if xs.length < sizeLine then some (D.non, D.lst (xs ++ [.int n])) else none) = _
                    rw [if_pos hz]
                  · have ne : ∀ {c : Addr}, F c ≠ none → c ≠ b := fun h e => h (e ▸ (R.free i b wb.1).1)
                    refine q F (upd H b o') w ⟨fun c u h => ?_, R.pin, by simp [R.len], fun k s hk => ?_, R.dis, fun k c h => ?_⟩ ⟨LeF.refl F, fun c u h n => ?_, fun c u h => .inl h, fun c h => .inr h⟩ v' r'
                    · rw [upd_ne (ne (by rw [h]; simp))]; exact R.sub c u h
                    · by_cases ek : k = i
                      · subst ek
                        rw [List.getElem?_set_self hi] at hk
                        cases hk
                        rw [e0]
                        exact .lst h1 (by rw [upd_ne fun q => wb.2 q.symm]; exact h2) h3 (k5 o' _ c')
                      · rw [List.getElem?_set_ne (Ne.symm ek)] at hk
                        refine (R.slot k s hk).move (LeF.refl F) fun c u hc hu => ?_
                        have ne : c ≠ b := fun q => ek (R.dis k i b (by rw [← q]; exact hc) wb.1)
                        rw [upd_ne ne]; exact hu
                    · obtain ⟨f, u, hu⟩ := R.free k c h
                      refine ⟨f, ?_⟩
                      by_cases ec : c = b
                      · subst ec; exact ⟨_, upd_same⟩
                      · exact ⟨u, by rw [upd_ne ec]; exact hu⟩
                    · have ne : c ≠ b := fun q => n (by rw [q]; exact ⟨i, wb.1⟩)
                      rw [upd_ne ne]; exact h
        · exact q.elim
      · exact q.elim
    · exact q.elim
end
end DL
/-! DLF: calls with keywords. -/
namespace DL
open PySem L2
def permL {α : Type} (pm : List Nat) (l : List α) : List α := pm.filterMap (l[·]?)
theorem Vals.perm {vs : List V} {us : List Value} (r : Vals vs us) : ∀ (pm : List Nat), Vals (permL pm vs) (permL pm us)
  | [] => .nil
  | j :: pm => by
    have z := Vals.perm r pm
    unfold permL at z ⊢
    rw [List.filterMap_cons, List.filterMap_cons]
    cases e : vs[j]? with
    | none =>
      have : us[j]? = none := by
        rw [List.getElem?_eq_none_iff] at e ⊢
        rw [← r.length]; exact e
      rw [this]; exact z
    | some v =>
      obtain ⟨u, hu, rv⟩ := r.get e
      rw [hu]
      exact .cons rv z
theorem RepL.perm {K : PySem.W.Frag} {F : Hp} {vs : List V} {ds : List D} (r : RepL K F vs ds) : ∀ (pm : List Nat), RepL K F (permL pm vs) (permL pm ds)
  | [] => .nil
  | j :: pm => by
    have z := RepL.perm r pm
    unfold permL at z ⊢
    rw [List.filterMap_cons, List.filterMap_cons]
    cases e : ds[j]? with
    | none =>
      have : vs[j]? = none := by
        rw [List.getElem?_eq_none_iff] at e ⊢
        rw [r.length]; exact e
      rw [this]; exact z
    | some d =>
      obtain ⟨v, hv, rv⟩ := r.get e
      rw [hv]
      exact .cons rv z
/-- how keywords are bound: n by position, the names ks, all put in the parameters' order -/
def KBs (K : PySem.W.Frag) (fd : FuncData) (ps ks : List Str) (n : Nat) (pm : List Nat) : Prop := ∀ (s : Shared) (us ws : List Value), us.length = n → ws.length = ks.length → BindsTo s fd ⟨us, ks.zip ws⟩ (ps.zip (permL pm (us ++ ws)))
theorem _root_.L2.FunD.kbs {K : PySem.W.Frag} {x qual : Str} {params : Arguments} {body : List Stmt} {scope : Scope} {f : Addr} {fd : FuncData} {ps ks : List Str} {n : Nat} {pm : List Nat} (F : FunD K x qual params body scope [] [] f fd)
    (h : ∀ (kV doc pmv : Value) (an : Option Addr) (cdv ct : Value) (us ws : List Value), us.length = n → ws.length = ks.length → bindArgs (PySem.W.fnOf x qual params body scope .none kV doc pmv an cdv ct) ⟨us, ks.zip ws⟩ = pure (ps.zip (permL pm (us ++ ws)))) : KBs K fd ps ks n pm := by
  obtain ⟨oc, od, dV, kV, doc, pmv, an, cdv, ct, osl, rfl, lk, hcd, hD, hK⟩ := F.ex
  rcases hD with ⟨_, rfl⟩ | ⟨e, _⟩
  · exact fun s us ws h1 h2 => .of_eq (h kV doc pmv an cdv ct us ws h1 h2)
  · exact absurd rfl e
def HasK (P : Program) (w : World) (K : PySem.W.Frag) (mg : Str → Option Value) (base : Heap) (x : Str) (k : Nat) (ps ks : List Str) (n : Nat) (pm : List Nat) (sp : Sp) : Prop :=
  ∃ f fd, mg x = some (.ref f) ∧ PySem.W.keepIn K (.ref f) = true ∧ KBs K fd ps ks n pm ∧ FnOk P w K mg base (L2.CX P w) k f fd ps sp
section
variable {X : Cx} {κ : Kx} {W : WX} {e a b c : Expr} {es rest : List Expr} {pos kpos : Pos} {kws : List Keyword} {ps ks : List Str} {n k : Nat} {pm : List Nat} {sp : Sp} {nm : Option Str}
abbrev DK (X : Cx) (κ : Kx) (W : WX) (kws : List Keyword) (os : List (M LV)) : Prop := PK X kws (rdA κ W os)
theorem pk_weak {t t' : TA} (h : PK X kws t) (i : ∀ σ H Q, t' σ H Q → t σ H Q) : PK X kws t' := ⟨fun pos pins s σ H Q I q => h.run pos pins s σ H Q I (i σ H Q q)⟩
theorem dk_nil : DK X κ W [] [] := pk_weak pk_nil fun σ H Q q => by
  obtain ⟨F, w, ρ, R, q⟩ := q
  exact q F H w R (Ext.refl _ _ _) [] .nil
def tCallKS (sp : Sp) (n m : Nat) (pm : List Nat) (E : L2.St → XK) (t tk : TA) : TE := fun σ H Q => t σ H fun vs H1 => tk σ H1 fun zs H2 => vs.length = n ∧ zs.length = m ∧ sp (permL pm (vs ++ zs)) H2 Q (E σ)
theorem run_fnKS {CX : CXT} {f : Addr} {fd : FuncData} {E : L2.St → XK} {pins : List (Addr × Obj)} {σ : L2.St} {H : Hp} {s : Shared} {Q : VK} {us ws : List Value} {vs zs : List V} (F : FnOk X.prog X.w X.K X.mg X.base CX k f fd ps sp) (hr : Room k X.A) (hb : KBs X.K fd ps ks n pm) (hx : PassesAt CX X σ (E σ))
    (I : Inv X pins σ H s) (r : Vals vs us) (rz : Vals zs ws) (h1 : vs.length = n) (h2 : zs.length = ks.length) (h : sp (permL pm (vs ++ zs)) H Q (E σ)) : wpAny (model X.prog X.w) X.A (call (.ref f) us (ks.zip ws)) (EP X pins σ Q) X.xe s := by
  have r2 := Vals.perm (r.append rz) pm
  refine wpAny_call (codeAny_mono (F.run X.A X.stack s H ⟨us, ks.zip ws⟩ _ _ Q (E σ) hr I.env0 (hb s us ws (by rw [← r.length]; exact h1) (by rw [← rz.length]; exact h2)) r2 h) fun r s' hq => ?_)
  cases r with
  | error e => exact hx pins H s e s' I hq
  | ok fl =>
    cases fl with
    | ret u => exact I.after hq
    | next => exact False.elim hq
    | brk => exact False.elim hq
    | cont => exact False.elim hq
theorem pe_callKS {CX : CXT} {f : Addr} {fd : FuncData} {E : L2.St → XK} {x : Str} {p : Pos} {t tk : TA} (F : FnOk X.prog X.w X.K X.mg X.base CX k f fd ps sp) (hr : Room k X.A) (hg : Gl X x) (hm : X.mg x = some (.ref f)) (hk : PySem.W.keepIn X.K (.ref f) = true) (hb : KBs X.K fd ps ks n pm) (hx : ∀ σ, PassesAt CX X σ (E σ))
    (ha : PA X (e :: es) t) (hkw : PK X kws tk) (hall : (backToKw pos (keywordEach kws X.env)).all (·.1.isSome) = true := by rfl) (hks : (backToKw pos (keywordEach kws X.env)).filterMap (·.1) = ks := by rfl)
    (hdb : (x == ("__debug__" : Str)) = false := by decide) (he : starEach (e :: es) X.env = (false, eval e X.env) :: starEach es X.env := by rfl)
    (hpl : ((backTo pos (starEach (e :: es) X.env)).any (·.1) || (backToKw pos (keywordEach kws X.env)).any (·.1.isNone)) = false := by rfl) :
    PE X (.Call (.Name x p) (e :: es) kws pos) (tCallKS sp n ks.length pm E t tk) := by
  refine ⟨fun pins s σ H Q I h => ?_⟩
  refine wpAny_Call_Name_kw (ld_glob I hg hm ?_ hdb)
  refine PySem.W.callWith_KW (h₀ := X.base) I.ok.mod.kin hk hall (thn (ha.run pos pins s σ H _ I h) fun us s1 ⟨vs, H1, I1, r, q⟩ => ?_) hpl he
  refine thn (hkw.run pos pins s1 σ H1 _ I1 q) fun ws s2 ⟨zs, H2, I2, rz, q1, q2, q3⟩ => ⟨I2.kIn, ?_⟩
  rw [hks]
  exact run_fnKS F hr hb (hx σ) I2 r rz q1 q2 q3
theorem pe_callKS0 {CX : CXT} {f : Addr} {fd : FuncData} {E : L2.St → XK} {x : Str} {p : Pos} {tk : TA} (F : FnOk X.prog X.w X.K X.mg X.base CX k f fd ps sp) (hr : Room k X.A) (hg : Gl X x) (hm : X.mg x = some (.ref f)) (hk : PySem.W.keepIn X.K (.ref f) = true) (hb : KBs X.K fd ps ks 0 pm) (hx : ∀ σ, PassesAt CX X σ (E σ))
    (hkw : PK X kws tk) (hall : (backToKw pos (keywordEach kws X.env)).all (·.1.isSome) = true := by rfl) (hks : (backToKw pos (keywordEach kws X.env)).filterMap (·.1) = ks := by rfl)
    (hdb : (x == ("__debug__" : Str)) = false := by decide)
    (hpl : ((backTo pos (starEach [] X.env)).any (·.1) || (backToKw pos (keywordEach kws X.env)).any (·.1.isNone)) = false := by rfl) :
    PE X (.Call (.Name x p) [] kws pos) (tCallKS sp 0 ks.length pm E tNil tk) := by
  refine ⟨fun pins s σ H Q I h => ?_⟩
  refine wpAny_Call_Name_kw (ld_glob I hg hm ?_ hdb)
  refine PySem.W.callWith_KW0 (h₀ := X.base) I.ok.mod.kin hk hall (thn (hkw.run pos pins s σ H _ I h) fun ws s2 ⟨zs, H2, I2, rz, q1, q2, q3⟩ => ⟨I2.kIn, ?_⟩) hpl
  rw [hks]
  exact run_fnKS (us := []) (vs := []) F hr hb (hx σ) I2 .nil rz q1 q2 q3
theorem dk_cons {o : M LV} {os : List (M LV)} (ha : DV X κ W e o) (hr : DK X κ W kws os) : DK X κ W (⟨nm, e, kpos⟩ :: kws) (o :: os) :=
  pk_weak (pk_cons ha hr) fun σ H Q q => run.bind q fun x F1 H1 w1 ρ1 R1 q1 => fun v rv => by
    refine ⟨F1, w1, ρ1, R1, runAt.bind' q1 fun xs F2 H2 w2 ρ2 R2 E2 q2 => fun vs rs => ?_⟩
    exact q2 F2 H2 w2 R2 (Ext.refl _ _ _) (v :: vs) (.cons (rv.leP E2.le) rs)
def gCallK (m : List D → FR D) (n j : Nat) (pm : List Nat) (os1 os2 : List (M LV)) : M D := M.bind (gArgs os1) fun d1 => M.bind (gArgs os2) fun d2 ρ => if d1.length = n ∧ d2.length = j then match m (permL pm (d1 ++ d2)) with
  | .ok d => .ok d ρ
  | .err x => .err x ρ
  | .stuck => .stuck
  else .stuck
/-- both rows of arguments, read -/
theorem gCallK_ok {α : Type} {os1 os2 : List (M LV)} {f : List D → List D → M α} {σ : L2.St} {H : Hp} {P : α → Hp → Hp → Ws → Env → Prop} {R₀ : List V → List V → Hp → Prop}
    (q : run κ W (M.bind (gArgs os1) fun d1 => M.bind (gArgs os2) fun d2 => f d1 d2) σ H P) (i : ∀ vs zs d1 d2 F H w ρ, Rs κ F H w σ ρ → RepL κ.K F vs d1 → RepL κ.K F zs d2 → runAt κ W F H w σ (f d1 d2 ρ) P → R₀ vs zs H) :
    rdA κ W os1 σ H fun vs H1 => rdA κ W os2 σ H1 fun zs H2 => R₀ vs zs H2 := by
  have z1 := gArgs_ok (P := fun d1 F1 H1 w1 ρ1 => runAt κ W F1 H1 w1 σ ((M.bind (gArgs os2) fun d2 => f d1 d2) ρ1) P) (run.bind q fun d1 F1 H1 w1 ρ1 R1 z => z)
  refine run.imp z1 fun xs F' H' w' ρ' R' kk vs rs => ?_
  obtain ⟨F1, w1, ρ1, d1, R1, r1, q1⟩ := kk vs rs
  have z2 := gArgs_ok (P := fun d2 F2 H2 w2 ρ2 => LeF F1 F2 ∧ runAt κ W F2 H2 w2 σ (f d1 d2 ρ2) P) ⟨F1, w1, ρ1, R1, runAt.bind' q1 fun d2 F2 H2 w2 ρ2 R2 E2 z => ⟨E2.le, z⟩⟩
  refine run.imp z2 fun xs F' H' w' ρ' R' kk zs rs => ?_
  obtain ⟨F2, w2, ρ2, d2, R2, r2, l, q2⟩ := kk zs rs
  exact i vs zs d1 d2 F2 _ w2 ρ2 R2 (r1.le l) r2 q2
variable {x : Str} {p₀ : Pos} {m : List D → FR D} {o : M LV} {os os2 : List (M LV)}
theorem callK_F (hK : κ.K = X.K) {σ : L2.St} {H : Hp} {Q : VK} {j : Nat} (q : rdF κ W (gCallK m n j pm os os2) σ H Q) : tCallKS (SpF X.K m) n j pm (fun σ => WE W σ) (rdA κ W os) (rdA κ W os2) σ H Q :=
  gCallK_ok q fun vs zs d1 d2 F H w ρ R r1 r2 z => by
    by_cases hl : d1.length = n ∧ d2.length = j
    · rw [if_pos hl] at z
      refine ⟨r1.length.trans hl.1, r2.length.trans hl.2, F, _, R.sub, hK ▸ (r1.append r2).perm pm, ?_⟩
      cases e : m (permL pm (d1 ++ d2)) with
      | ok d => rw [e] at z; exact fun v F' H' g r => z F' H' w (R.grown g) (g.ext _) v (hK ▸ r)
      | err x => rw [e] at z; exact fun c dd F' H' g r => z c dd F' H' w (R.grown g) (g.ext _) (by obtain ⟨K, pn⟩ := κ; cases hK; exact r)
      | stuck => rw [e] at z; exact z
    · rw [if_neg hl] at z; exact z.elim
theorem callK_O (hK : κ.K = X.K) {σ : L2.St} {H : Hp} {Q : VK} {j : Nat} (q : rdO κ W (gCallK m n j pm os os2) σ H Q) : tCallKS (SpO X.K m) n j pm (fun σ => WE W σ) (rdA κ W os) (rdA κ W os2) σ H Q :=
  gCallK_ok q fun vs zs d1 d2 F H w ρ R r1 r2 z => by
    by_cases hl : d1.length = n ∧ d2.length = j
    · rw [if_pos hl] at z
      refine ⟨r1.length.trans hl.1, r2.length.trans hl.2, F, _, R.sub, hK ▸ (r1.append r2).perm pm, ?_⟩
      cases e : m (permL pm (d1 ++ d2)) with
      | ok d => rw [e] at z; exact fun v F' H' wv g r f => z F H w R (Ext.refl _ _ _) v F' H' wv g (hK ▸ r) f
      | err x => rw [e] at z; exact fun c dd F' H' g r => z c dd F' H' w (R.grown g) (g.ext _) (by obtain ⟨K, pn⟩ := κ; cases hK; exact r)
      | stuck => rw [e] at z; exact z
    · rw [if_neg hl] at z; exact z.elim
theorem da_run0 {os2 : List (M LV)} {σ : L2.St} {H : Hp} {R₀ : List V → List V → Hp → Prop} (q : rdA κ W [] σ H fun vs H1 => rdA κ W os2 σ H1 fun zs H2 => R₀ vs zs H2) : tNil σ H fun vs H1 => rdA κ W os2 σ H1 fun zs H2 => R₀ vs zs H2 := by
  obtain ⟨F, w, ρ, R, q⟩ := q
  exact q F H w R (Ext.refl _ _ _) [] .nil
variable (hK : κ.K = X.K) (hr : Room k X.A) (tk : Takes X W) (hg : Gl X x)
include hK hr tk hg
theorem de_callK (G : HasK X.prog X.w X.K X.mg X.base x k ps ks n pm (SpF X.K m))
    (ha : DA X κ W (e :: es) (o :: os)) (hkw : DK X κ W kws os2) (hall : (backToKw pos (keywordEach kws X.env)).all (·.1.isSome) = true := by rfl) (hks : (backToKw pos (keywordEach kws X.env)).filterMap (·.1) = ks := by rfl) (hdb : (x == ("__debug__" : Str)) = false := by decide) (he : starEach (e :: es) X.env = (false, eval e X.env) :: starEach es X.env := by rfl)
    (hpl : ((backTo pos (starEach (e :: es) X.env)).any (·.1) || (backToKw pos (keywordEach kws X.env)).any (·.1.isNone)) = false := by rfl) :
    DE X κ W (.Call (.Name x p₀) (e :: es) kws pos) (gCallK m n ks.length pm (o :: os) os2) := by
  obtain ⟨f, fd, h1, h2, h3, h4⟩ := G
  exact pe_weak (pe_callKS h4 hr hg h1 h2 h3 (fun σ => passAt tk σ) ha hkw hall hks hdb he hpl) fun σ H Q q => callK_F hK q
theorem do_callK (G : HasK X.prog X.w X.K X.mg X.base x k ps ks n pm (SpO X.K m))
    (ha : DA X κ W (e :: es) (o :: os)) (hkw : DK X κ W kws os2) (hall : (backToKw pos (keywordEach kws X.env)).all (·.1.isSome) = true := by rfl) (hks : (backToKw pos (keywordEach kws X.env)).filterMap (·.1) = ks := by rfl) (hdb : (x == ("__debug__" : Str)) = false := by decide) (he : starEach (e :: es) X.env = (false, eval e X.env) :: starEach es X.env := by rfl)
    (hpl : ((backTo pos (starEach (e :: es) X.env)).any (·.1) || (backToKw pos (keywordEach kws X.env)).any (·.1.isNone)) = false := by rfl) :
    DO X κ W (.Call (.Name x p₀) (e :: es) kws pos) (gCallK m n ks.length pm (o :: os) os2) := by
  obtain ⟨f, fd, h1, h2, h3, h4⟩ := G
  exact pe_weak (pe_callKS h4 hr hg h1 h2 h3 (fun σ => passAt tk σ) ha hkw hall hks hdb he hpl) fun σ H Q q => callK_O hK q
theorem de_callK0 (G : HasK X.prog X.w X.K X.mg X.base x k ps ks 0 pm (SpF X.K m))
    (hkw : DK X κ W kws os2) (hall : (backToKw pos (keywordEach kws X.env)).all (·.1.isSome) = true := by rfl) (hks : (backToKw pos (keywordEach kws X.env)).filterMap (·.1) = ks := by rfl) (hdb : (x == ("__debug__" : Str)) = false := by decide)
    (hpl : ((backTo pos (starEach [] X.env)).any (·.1) || (backToKw pos (keywordEach kws X.env)).any (·.1.isNone)) = false := by rfl) :
    DE X κ W (.Call (.Name x p₀) [] kws pos) (gCallK m 0 ks.length pm [] os2) := by
  obtain ⟨f, fd, h1, h2, h3, h4⟩ := G
  exact pe_weak (pe_callKS0 h4 hr hg h1 h2 h3 (fun σ => passAt tk σ) hkw hall hks hdb hpl) fun σ H Q q => da_run0 (callK_F hK q)
theorem do_callK0 (G : HasK X.prog X.w X.K X.mg X.base x k ps ks 0 pm (SpO X.K m))
    (hkw : DK X κ W kws os2) (hall : (backToKw pos (keywordEach kws X.env)).all (·.1.isSome) = true := by rfl) (hks : (backToKw pos (keywordEach kws X.env)).filterMap (·.1) = ks := by rfl) (hdb : (x == ("__debug__" : Str)) = false := by decide)
    (hpl : ((backTo pos (starEach [] X.env)).any (·.1) || (backToKw pos (keywordEach kws X.env)).any (·.1.isNone)) = false := by rfl) :
    DO X κ W (.Call (.Name x p₀) [] kws pos) (gCallK m 0 ks.length pm [] os2) := by
  obtain ⟨f, fd, h1, h2, h3, h4⟩ := G
  exact pe_weak (pe_callKS0 h4 hr hg h1 h2 h3 (fun σ => passAt tk σ) hkw hall hks hdb hpl) fun σ H Q q => da_run0 (callK_O hK q)
end
end DL
/-! DLG: the law's def at the script. -/
namespace DL
open PySem L2
theorem walkD {l : PySem.W.OpenLaw} {n k : Nat} {q : Program} {loose : List Str} {XP : (Str → Option Value) → Heap → Prop} {YP : World → Heap → Prop} {d : DefRec} {x : Str}
    (hn : l.most = some n) (hn2 : n ≤ sizeLine) (hdf : d.params.defaults = []) (hr : Room k callerA)
    (F : ∀ (w : World) (mg : Str → Option Value) (fa : Addr) (h : Heap), YP w h → h.Ns mainGlobals mg → mg d.name = some (.ref fa) →
      ∃ (K : PySem.W.Frag) (fd : FuncData) (m : List D → FR D), K.In h ∧ (∀ (s : Shared) (u : Value), BindsTo s fd ⟨[u], []⟩ [(x, u)]) ∧
        (∀ (ns : List Int), ns.length ≤ n → (∀ z ∈ ns, Builtin.Int.intBits z ≤ 1048576) → m [.lst (ns.map .int)] = .ok (.bl true)) ∧
        ∀ base : Heap, K.In base → base.Ns mainGlobals mg → FnOk l.prog w K mg base (L2.CX l.prog w) k fa fd [x] (SpF K m)) :
    PySem.W.WalkO q loose XP YP l.row.toRowW d [] (fun f vs => PySem.call f vs) := by
  refine Att.attach_callB hn hdf fun w s₀ s₁ mg mb fa o pm cd doc a vs ns G Y ho hd hcd hmg hobj hints hlen hbits hg => ?_
  obtain ⟨K, fd, m, KX, hb, hm, hF⟩ := F w mg fa _ Y G.T.g hmg
  refine law_call (CX := L2.CX l.prog w) KX G.T.g G.T.b G.T.builtins G.T.nolimit hg hobj hints (Nat.le_trans hlen hn2) hr hF hb (fun H hO hS => ?_) fun H e s' ⟨_, _, _, _, _, _, _, _, _, _, _, _, h⟩ => h
  refine ⟨H, _, fun b u h => .inl h, .cons (.lst hS (RepL.of_ints ns)) .nil, ?_⟩
  rw [hm ns hlen hbits]
  intro v F' H' g r
  cases r
  rfl
end DL
/-! PL1: the mirrors evaluated by simp, the first part first. -/
namespace DL
open PySem L2
section
variable {α β : Type}
/-- a mark by which simp leaves what stands in it alone -/
inductive Tag {γ : Type} (x : γ) : Type where
  | mk
def Res.bind (r : Res α) (f : α → M β) (_ : Tag f := .mk) : Res β := match r with
  | .ok a ρ => f a ρ
  | .err x ρ => .err x ρ
  | .stuck => .stuck
@[simp] theorem Res.bind_ok {a : α} {ρ : Env} {f : α → M β} : Res.bind (.ok a ρ) f = f a ρ := (rfl)
@[simp] theorem Res.bind_err {x : Exn} {ρ : Env} {f : α → M β} : Res.bind (.err x ρ) f = .err x ρ := (rfl)
@[simp] theorem Res.bind_stuck {f : α → M β} : Res.bind (.stuck) f = .stuck := (rfl)
theorem Res.bindE' {r : Res α} {f f' : α → M β} (h : ∀ a, f a = f' a) : Res.bind r f = Res.bind r f' := by
  have e : f = f' := funext h
  subst e
  rfl
theorem Res.bindE {r : Res α} {f f' : α → M β} (h : ∀ a ρ, f a ρ = f' a ρ) : Res.bind r f = Res.bind r f' := Res.bindE' fun a => funext (h a)
theorem M.bindE' {g : M α} {f f' : α → M β} (h : ∀ a, f a = f' a) : M.bind g f = M.bind g f' := by
  have e : f = f' := funext h
  subst e
  rfl
theorem M.bindE {g : M α} {f f' : α → M β} (h : ∀ a ρ, f a ρ = f' a ρ) : M.bind g f = M.bind g f' := M.bindE' fun a => funext (h a)
@[simp] theorem pure_ap {a : α} {ρ : Env} : M.pure a ρ = .ok a ρ := (rfl)
@[simp] theorem bind_ap {g : M α} {f : α → M β} {ρ : Env} : M.bind g f ρ = Res.bind (g ρ) f := (rfl)
@[simp] theorem lift_some {a : α} {ρ : Env} : M.lift (some a) ρ = .ok a ρ := (rfl)
@[simp] theorem lift_none {ρ : Env} : M.lift (none : Option α) ρ = .stuck := (rfl)
theorem lift_if {c : Prop} [Decidable c] {a : α} {ρ : Env} (h : c) : M.lift (if c then some a else none) ρ = .ok a ρ := by rw [if_pos h]; rfl
/-- a slot's first look -/
def slV (ρ : Env) (i : Nat) : Option Sl → Res D
  | some (.fz d) => .ok d ρ
  | some (.op d) => .ok d (ρ.set i (.fz d))
  | some (.on t) => if t.lists = true then .ok t.strip (ρ.set i (.fz t.strip)) else .stuck
  | _ => .stuck
theorem gVar_ap' {i : Nat} {ρ : Env} : gVar i ρ = slV ρ i ρ[i]? := by
  unfold gVar slV
  cases e : ρ[i]? with
  | none => rfl
  | some s =>
    cases s with
    | un => rfl
    | fz d => rfl
    | op d => rfl
    | on t =>
      by_cases h : t.lists = true
      · simp [slS, h]
      · simp [slS, h]
@[simp] theorem gVar_ap {i : Nat} {ρ : Env} : gVar i ρ = slV ρ i ρ[i]? := gVar_ap'
@[simp] theorem slV_fz {i : Nat} {ρ : Env} {d : D} : slV ρ i (some (.fz d)) = .ok d ρ := (rfl)
@[simp] theorem slV_op {i : Nat} {ρ : Env} {d : D} : slV ρ i (some (.op d)) = .ok d (ρ.set i (.fz d)) := (rfl)
@[simp] theorem slV_on {i : Nat} {ρ : Env} {t : NT} : slV ρ i (some (.on t)) = if t.lists = true then .ok t.strip (ρ.set i (.fz t.strip)) else .stuck := (rfl)
@[simp] theorem oEx_ap {g : M D} {ρ : Env} : oEx g ρ = Res.bind (g ρ) fun d => M.pure (.at_ d) := (rfl)
def slP (ρ : Env) (i : Nat) : Option Sl → Res LV
  | some (.fz _) => .ok (.pl i) ρ
  | some (.op _) => .ok (.pl i) ρ
  | _ => .stuck
@[simp] theorem oPl_ap {i : Nat} {ρ : Env} : oPl i ρ = slP ρ i ρ[i]? := by
  unfold oPl slP
  cases e : ρ[i]? with
  | none => rfl
  | some s => cases s <;> rfl
@[simp] theorem slP_fz {i : Nat} {ρ : Env} {d : D} : slP ρ i (some (.fz d)) = .ok (.pl i) ρ := (rfl)
@[simp] theorem slP_op {i : Nat} {ρ : Env} {d : D} : slP ρ i (some (.op d)) = .ok (.pl i) ρ := (rfl)
def slPn (ρ : Env) (i : Nat) : Option Sl → Res LV
  | some (.fz _) => .ok (.pl i) ρ
  | some (.op _) => .ok (.pl i) ρ
  | some (.on t) => if t.lists = true then .ok (.pl i) ρ else .stuck
  | _ => .stuck
@[simp] theorem oPn_ap {i : Nat} {ρ : Env} : oPn i ρ = slPn ρ i ρ[i]? := by
  unfold oPn slPn
  cases e : ρ[i]? with
  | none => rfl
  | some s =>
    cases s with
    | un => rfl
    | fz d => rfl
    | op d => rfl
    | on t =>
      by_cases h : t.lists = true
      · simp [slS, h]
      · simp [slS, h]
@[simp] theorem slPn_fz {i : Nat} {ρ : Env} {d : D} : slPn ρ i (some (.fz d)) = .ok (.pl i) ρ := (rfl)
@[simp] theorem slPn_op {i : Nat} {ρ : Env} {d : D} : slPn ρ i (some (.op d)) = .ok (.pl i) ρ := (rfl)
@[simp] theorem slPn_on {i : Nat} {ρ : Env} {t : NT} : slPn ρ i (some (.on t)) = if t.lists = true then .ok (.pl i) ρ else .stuck := (rfl)
@[simp] theorem read_at {d : D} {ρ : Env} : LV.read (.at_ d) ρ = some d := (rfl)
@[simp] theorem read_pl {i : Nat} {ρ : Env} : LV.read (.pl i) ρ = (ρ[i]?).bind slD := (rfl)
@[simp] theorem slD_fz {d : D} : slD (.fz d) = some d := (rfl)
@[simp] theorem slD_op {d : D} : slD (.op d) = some d := (rfl)
@[simp] theorem slS_fz {d : D} : slS (.fz d) = some d := (rfl)
@[simp] theorem slS_op {d : D} : slS (.op d) = some d := (rfl)
@[simp] theorem slS_on {t : NT} : slS (.on t) = if t.lists = true then some t.strip else none := (rfl)
@[simp] theorem readS_at {d : D} {ρ : Env} : LV.readS (.at_ d) ρ = some d := (rfl)
@[simp] theorem readS_pl {i : Nat} {ρ : Env} : LV.readS (.pl i) ρ = (ρ[i]?).bind slS := (rfl)
def rd2' (p : D → D → Option α) (ρ : Env) : Option D → Option D → Res α
  | some d1, some d2 => M.lift (p d1 d2) ρ
  | _, _ => .stuck
@[simp] theorem rd2_ap {p : D → D → Option α} {x y : LV} {ρ : Env} : rd2 p x y ρ = rd2' p ρ (x.read ρ) (y.read ρ) := by
  unfold rd2 rd2'
  cases x.read ρ <;> cases y.read ρ <;> rfl
@[simp] theorem rd2'_some {p : D → D → Option α} {d1 d2 : D} {ρ : Env} : rd2' p ρ (some d1) (some d2) = M.lift (p d1 d2) ρ := (rfl)
@[simp] theorem p2_ap {p : D → D → Option α} {oa ob : M LV} {ρ : Env} : p2 p oa ob ρ = Res.bind (oa ρ) fun x => M.bind ob fun y => rd2 p x y := (rfl)
@[simp] theorem gOps_nil {ρ : Env} : gOps [] ρ = .ok [] ρ := (rfl)
@[simp] theorem gOps_cons {o : M LV} {os : List (M LV)} {ρ : Env} : gOps (o :: os) ρ = Res.bind (o ρ) fun x => M.bind (gOps os) fun xs => M.pure (x :: xs) := (rfl)
@[simp] theorem readAll_nil {ρ : Env} : readAll [] ρ = some [] := (rfl)
def optC : Option D → Option (List D) → Option (List D)
  | some d, some ds => some (d :: ds)
  | _, _ => none
@[simp] theorem optC_some {d : D} {ds : List D} : optC (some d) (some ds) = some (d :: ds) := (rfl)
@[simp] theorem readAll_cons {x : LV} {xs : List LV} {ρ : Env} : readAll (x :: xs) ρ = optC (x.read ρ) (readAll xs ρ) := by
  rw [readAll]
  unfold optC
  cases x.read ρ <;> cases readAll xs ρ <;> rfl
@[simp] theorem readAllS_nil {ρ : Env} : readAllS [] ρ = some [] := (rfl)
@[simp] theorem readAllS_cons {x : LV} {xs : List LV} {ρ : Env} : readAllS (x :: xs) ρ = optC (x.readS ρ) (readAllS xs ρ) := by
  rw [readAllS]
  unfold optC
  cases x.readS ρ <;> cases readAllS xs ρ <;> rfl
def optL (p : List D → Option α) (ρ : Env) : Option (List D) → Res α
  | some ds => M.lift (p ds) ρ
  | none => .stuck
@[simp] theorem gRead_ap {p : List D → Option α} {xs : List LV} {ρ : Env} : gRead p xs ρ = optL p ρ (readAll xs ρ) := by
  unfold gRead optL
  cases readAll xs ρ <;> rfl
@[simp] theorem optL_some {p : List D → Option α} {ds : List D} {ρ : Env} : optL p ρ (some ds) = M.lift (p ds) ρ := (rfl)
@[simp] theorem gB_ap {p : List D → Option α} {os : List (M LV)} {ρ : Env} : gB p os ρ = Res.bind (gOps os ρ) (gRead p) := (rfl)
@[simp] theorem gRead1_ap {p : D → Option α} {o : M LV} {ρ : Env} : gRead1 p o ρ = gB (one1 p) [o] ρ := (rfl)
@[simp] theorem one1_ap {p : D → Option α} {d : D} : one1 p [d] = p d := (rfl)
@[simp] theorem atAll_nil : atAll [] = some [] := (rfl)
@[simp] theorem atAll_at {d : D} {r : List LV} : atAll (.at_ d :: r) = (atAll r).map (d :: ·) := (rfl)
@[simp] theorem gArgs_ap {os : List (M LV)} {ρ : Env} : gArgs os ρ = Res.bind (gOps os ρ) fun xs => M.lift (atAll xs) := (rfl)
@[simp] theorem gDisp_ap {os : List (M LV)} {ρ : Env} : gDisp os ρ = Res.bind (gArgs os ρ) fun ds => M.lift (szL ds) := (rfl)
theorem szL_le {ds : List D} (h : ds.length ≤ sizeLine) : szL ds = some ds := by unfold szL szB; rw [if_pos (decide_eq_true h)]
theorem szB_le {n : Nat} (h : n ≤ sizeLine) : szB n = true := decide_eq_true h
@[simp] theorem gU'_ap {p : D → Option α} {g : M D} {ρ : Env} : gU' p g ρ = Res.bind (g ρ) fun d => M.lift (p d) := (rfl)
@[simp] theorem gV_ap {g : M Bool} {ρ : Env} : gV g ρ = Res.bind (g ρ) fun b => M.pure (.bl b) := (rfl)
def blR : D → M Bool
  | .bl b => M.pure b
  | _ => fun _ => .stuck
@[simp] theorem gL_ap {g : M D} {ρ : Env} : gL g ρ = Res.bind (g ρ) blR := by
  show Res.bind (g ρ) _ = _
  refine Res.bindE' fun d => ?_
  cases d <;> rfl
@[simp] theorem blR_ap {b : Bool} : blR (.bl b) = M.pure b := (rfl)
@[simp] theorem gAnd_ap {ga gb : M Bool} {ρ : Env} : gAnd ga gb ρ = Res.bind (ga ρ) fun c => if c = true then gb else M.pure false := (rfl)
@[simp] theorem gOr_ap {ga gb : M Bool} {ρ : Env} : gOr ga gb ρ = Res.bind (ga ρ) fun c => if c = true then M.pure true else gb := (rfl)
@[simp] theorem gNot_ap {ga : M Bool} {ρ : Env} : gNot ga ρ = Res.bind (ga ρ) fun c => M.pure (!c) := (rfl)
@[simp] theorem gIf_ap {gc : M Bool} {ga gb : M α} {ρ : Env} : gIf gc ga gb ρ = Res.bind (gc ρ) fun c => if c = true then ga else gb := (rfl)
@[simp] theorem gT_ap {ρ : Env} : gT ρ = .ok true ρ := (rfl)
def optR (ρ : Env) : Option α → Res α
  | some b => .ok b ρ
  | none => .stuck
@[simp] theorem optR_some {a : α} {ρ : Env} : optR ρ (some a) = .ok a ρ := (rfl)
@[simp] theorem gIsi_ap {T : String} {o : M LV} {ρ : Env} : gIsi T o ρ = Res.bind (o ρ) fun x ρ => optR ρ ((x.read ρ).bind (pIsi T)) := by
  show Res.bind (o ρ) _ = _
  refine Res.bindE fun x ρ => ?_
  cases h : (x.read ρ).bind (pIsi T) <;> rfl
@[simp] theorem gU_ap {p : D → Option D} {o : M LV} {ρ : Env} : gU p o ρ = Res.bind (o ρ) fun x ρ => optR ρ ((x.read ρ).bind p) := by
  show Res.bind (o ρ) _ = _
  refine Res.bindE fun x ρ => ?_
  cases h : (x.read ρ).bind p <;> rfl
def FR.to (r : FR α) (ρ : Env) : Res α := match r with
  | .ok d => .ok d ρ
  | .err x => .err x ρ
  | .stuck => .stuck
@[simp] theorem FR.to_ok {d : α} {ρ : Env} : FR.to (.ok d) ρ = .ok d ρ := (rfl)
@[simp] theorem FR.to_err {x : Exn} {ρ : Env} : FR.to (.err x : FR α) ρ = .err x ρ := (rfl)
@[simp] theorem gCall_ap {m : List D → FR D} {os : List (M LV)} {ρ : Env} : gCall m os ρ = Res.bind (gArgs os ρ) fun ds ρ => FR.to (m ds) ρ := by
  show Res.bind (gArgs os ρ) _ = _
  refine Res.bindE fun ds ρ => ?_
  unfold FR.to
  cases m ds <;> rfl
def ptR (r : Option (List D)) (m : List D → FR D) (ρ : Env) : Res D := match r with
  | some ds => match m ds with
    | .ok d => if d.plain = true then .ok d ρ else .stuck
    | _ => .stuck
  | none => .stuck
@[simp] theorem gCallS_ap {m : List D → FR D} {os : List (M LV)} {ρ : Env} : gCallS m os ρ = Res.bind (gOps os ρ) fun xs ρ => ptR (readAllS xs ρ) m ρ := by
  rfl
theorem ptR_ok {ds : List D} {m : List D → FR D} {ρ : Env} {d : D} (h : m ds = .ok d) (hp : d.plain = true) : ptR (some ds) m ρ = .ok d ρ := by
  unfold ptR; simp [h, hp]
def ciR (i : Nat) (m : D → List D → FR (D × D)) (ds : Option (List D)) (ρ : Env) (s : Option Sl) : Res D := match ds, s with
  | some ds, some (.op c) => match m c ds with
    | .ok (d, c') => .ok d (ρ.set i (.op c'))
    | _ => .stuck
  | _, _ => .stuck
def ciR0 (i : Nat) (m : D → List D → FR (D × D)) (xs : List LV) (ρ : Env) : Res D := match xs with
  | .pl _ :: r => ciR i m (atAll r) ρ ρ[i]?
  | _ => .stuck
@[simp] theorem gCallI_ap {m : D → List D → FR (D × D)} {i : Nat} {os : List (M LV)} {ρ : Env} : gCallI m i os ρ = Res.bind (gOps (oPl i :: os) ρ) (ciR0 i m) := by
  show Res.bind (gOps (oPl i :: os) ρ) _ = _
  refine Res.bindE fun xs ρ => ?_
  unfold ciR0
  cases xs with
  | nil => rfl
  | cons x r => cases x with
    | at_ d => rfl
    | pl j =>
      unfold ciR
      simp only
      try (cases atAll r with
      | none => rfl
      | some ds => cases h : ρ[i]? with
        | none => rfl
        | some s => cases s <;> rfl)
@[simp] theorem ciR0_pl {m : D → List D → FR (D × D)} {i j : Nat} {r : List LV} {ρ : Env} : ciR0 i m (.pl j :: r) ρ = ciR i m (atAll r) ρ ρ[i]? := (rfl)
def FR.toI (i : Nat) (ρ : Env) (r : FR (D × D)) : Res D := match r with
  | .ok (d, c') => .ok d (ρ.set i (.op c'))
  | _ => .stuck
@[simp] theorem FR.toI_ok {i : Nat} {ρ : Env} {d c' : D} : FR.toI i ρ (.ok (d, c')) = .ok d (ρ.set i (.op c')) := (rfl)
@[simp] theorem ciR_ap {m : D → List D → FR (D × D)} {i : Nat} {ds : List D} {c : D} {ρ : Env} : ciR i m (some ds) ρ (some (.op c)) = FR.toI i ρ (m c ds) := by
  simp only [ciR, FR.toI]
/-! ### statements -/
def SR.seq (r : SR) (t : SM) (_ : Tag t := .mk) : SR := match r with
  | .nx ρ => t ρ
  | r => r
@[simp] theorem SR.seq_nx {ρ : Env} {t : SM} : SR.seq (.nx ρ) t = t ρ := (rfl)
@[simp] theorem SR.seq_ret {d : D} {ρ : Env} {t : SM} : SR.seq (.ret d ρ) t = .ret d ρ := (rfl)
@[simp] theorem SR.seq_ro {d : D} {ρ : Env} {t : SM} : SR.seq (.ro d ρ) t = .ro d ρ := (rfl)
@[simp] theorem SR.seq_brk {ρ : Env} {t : SM} : SR.seq (.brk ρ) t = .brk ρ := (rfl)
@[simp] theorem SR.seq_ct {ρ : Env} {t : SM} : SR.seq (.ct ρ) t = .ct ρ := (rfl)
@[simp] theorem SR.seq_err {x : Exn} {ρ : Env} {t : SM} : SR.seq (.err x ρ) t = .err x ρ := (rfl)
@[simp] theorem SR.seq_stuck {t : SM} : SR.seq (.stuck) t = .stuck := (rfl)
@[simp] theorem sSeq_ap {s t : SM} {ρ : Env} : sSeq s t ρ = SR.seq (s ρ) t := by
  unfold sSeq SR.seq
  cases s ρ <;> rfl
def Res.stm (r : Res α) (s : α → SM) (_ : Tag s := .mk) : SR := match r with
  | .ok a ρ => s a ρ
  | .err x ρ => .err x ρ
  | .stuck => .stuck
@[simp] theorem Res.stm_ok {a : α} {ρ : Env} {s : α → SM} : Res.stm (.ok a ρ) s = s a ρ := (rfl)
@[simp] theorem Res.stm_err {x : Exn} {ρ : Env} {s : α → SM} : Res.stm (.err x ρ) s = .err x ρ := (rfl)
@[simp] theorem Res.stm_stuck {s : α → SM} : Res.stm (.stuck) s = .stuck := (rfl)
@[simp] theorem sBind_ap {g : M α} {s : α → SM} {ρ : Env} : sBind g s ρ = Res.stm (g ρ) s := by
  unfold sBind Res.stm
  cases g ρ <;> rfl
@[simp] theorem sIf_ap {g : M Bool} {s t : SM} {ρ : Env} : sIf g s t ρ = Res.stm (g ρ) fun c => if c = true then s else t := sBind_ap
@[simp] theorem sSet_ap {i : Nat} {d : D} {ρ : Env} : sSet i d ρ = if i < ρ.length then .nx (ρ.set i (.fz d)) else .stuck := (rfl)
@[simp] theorem sSetO_ap {i : Nat} {d : D} {ρ : Env} : sSetO i d ρ = if i < ρ.length then .nx (ρ.set i (.op d)) else .stuck := (rfl)
@[simp] theorem sSetN_ap {i : Nat} {t : NT} {ρ : Env} : sSetN i t ρ = if i < ρ.length then .nx (ρ.set i (.on t)) else .stuck := (rfl)
def rvR (ρ : Env) (i : Nat) : Option Sl → SR
  | some (.op d) => .ro d (ρ.set i .un)
  | _ => .stuck
@[simp] theorem sRetV_ap {i : Nat} {ρ : Env} : sRetV i ρ = rvR ρ i ρ[i]? := by
  unfold sRetV rvR
  cases h : ρ[i]? with
  | none => rfl
  | some s => cases s <;> rfl
@[simp] theorem rvR_op {i : Nat} {ρ : Env} {d : D} : rvR ρ i (some (.op d)) = .ro d (ρ.set i .un) := (rfl)
@[simp] theorem sFor_ap {t : Tg} {g : M (List D)} {s : SM} {ρ : Env} : sFor t g s ρ = Res.stm (g ρ) fun ds => forL t s ds := sBind_ap
@[simp] theorem ite_ap {c : Prop} [Decidable c] {s t : SM} {ρ : Env} : (if c then s else t) ρ = if c then s ρ else t ρ := by split <;> rfl
@[simp] theorem ite_apM {c : Prop} [Decidable c] {s t : M α} {ρ : Env} : (if c then s else t) ρ = if c then s ρ else t ρ := by split <;> rfl
/-! ### defs -/
def FR.ofF (r : SR) : FR D := match r with
  | .nx _ => .ok .non
  | .ret d _ => .ok d
  | .err x _ => .err x
  | _ => .stuck
@[simp] theorem FR.ofF_nx {ρ : Env} : FR.ofF (.nx ρ) = .ok .non := (rfl)
@[simp] theorem FR.ofF_ret {d : D} {ρ : Env} : FR.ofF (.ret d ρ) = .ok d := (rfl)
@[simp] theorem FR.ofF_err {x : Exn} {ρ : Env} : FR.ofF (.err x ρ) = .err x := (rfl)
theorem mkF_ap {n N : Nat} {s : SM} {ds : List D} (h : ds.length = n) : mkF n N s ds = FR.ofF (s (env0 N ds)) := by
  unfold mkF
  rw [if_pos h]
  cases s (env0 N ds) <;> rfl
def FR.ofO (r : SR) : FR D := match r with
  | .ro d _ => .ok d
  | .err x _ => .err x
  | _ => .stuck
@[simp] theorem FR.ofO_ro {d : D} {ρ : Env} : FR.ofO (.ro d ρ) = .ok d := (rfl)
@[simp] theorem FR.ofO_err {x : Exn} {ρ : Env} : FR.ofO (.err x ρ) = .err x := (rfl)
theorem mkO_ap {n N : Nat} {s : SM} {ds : List D} (h : ds.length = n) : mkO n N s ds = FR.ofO (s (env0 N ds)) := by
  unfold mkO
  rw [if_pos h]
  cases s (env0 N ds) <;> rfl
def out1 (d : D) (s : Option Sl) : FR (D × D) := match s with
  | some (.op c) => .ok (d, c)
  | _ => .stuck
@[simp] theorem out1_op {d c : D} : out1 d (some (.op c)) = .ok (d, c) := (rfl)
def FR.ofI (r : SR) : FR (D × D) := match r with
  | .nx ρ => out1 .non ρ[(0 : Nat)]?
  | .ret d ρ => out1 d ρ[(0 : Nat)]?
  | _ => .stuck
@[simp] theorem FR.ofI_nx {ρ : Env} : FR.ofI (.nx ρ) = out1 .non ρ[(0 : Nat)]? := (rfl)
@[simp] theorem FR.ofI_ret {d : D} {ρ : Env} : FR.ofI (.ret d ρ) = out1 d ρ[(0 : Nat)]? := (rfl)
theorem mkI_ap {n N : Nat} {s : SM} {c : D} {ds : List D} (h : ds.length + 1 = n) : mkI n N s c ds = FR.ofI (s (.op c :: env0 (N - 1) ds)) := by
  unfold mkI FR.ofI
  rw [if_pos h]
  cases s (.op c :: env0 (N - 1) ds) with
  | nx ρ => simp only; unfold out0 out1; cases h : ρ[(0 : Nat)]? with
    | none => rfl
    | some s => cases s <;> rfl
  | ret d ρ => simp only; unfold out0 out1; cases h : ρ[(0 : Nat)]? with
    | none => rfl
    | some s => cases s <;> rfl
  | _ => rfl
/-! ### operators at data -/
@[simp] theorem iSub_ii {i j : Int} : iSub (.int i) (.int j) = some (.int (i - j)) := (rfl)
@[simp] theorem iOr_ii {i j : Int} : iOr (.int i) (.int j) = some (.int (Builtin.bitOr i j)) := (rfl)
@[simp] theorem dAdd_ii {i j : Int} : dAdd (.int i) (.int j) = some (.int (i + j)) := (rfl)
@[simp] theorem cLt_ii {i j : Int} : cLt (.int i) (.int j) = some (decide (i < j)) := (rfl)
@[simp] theorem cLe_ii {i j : Int} : cLe (.int i) (.int j) = some (decide (i ≤ j)) := (rfl)
@[simp] theorem cGt_ii {i j : Int} : cGt (.int i) (.int j) = some (decide (j < i)) := (rfl)
@[simp] theorem cGe_ii {i j : Int} : cGe (.int i) (.int j) = some (decide (j ≤ i)) := (rfl)
theorem iMod_ii {i j : Int} (h : 0 < j) : iMod (.int i) (.int j) = some (.int (i % j)) := by
  show (if decide (0 < j) = true then _ else _) = _
  rw [if_pos (decide_eq_true h)]
theorem iDiv_ii {i j : Int} (h : 0 < j) (h2 : j.natAbs.log2 < 9000) : iDiv (.int i) (.int j) = some (.int (i / j)) := by
  show (if decide (0 < j ∧ j.natAbs.log2 < 9000) = true then _ else _) = _
  rw [if_pos (decide_eq_true ⟨h, h2⟩)]
theorem iMul_of {i j : Int} (h : i.natAbs.log2 + j.natAbs.log2 < 67108864 ∨ i.natAbs < 1152921504606846976 ∨ j.natAbs < 1152921504606846976) : iMul (.int i) (.int j) = some (.int (i * j)) := by
  show (if decide (i.natAbs.log2 + j.natAbs.log2 < 67108864 ∨ i.natAbs < 1152921504606846976 ∨ j.natAbs < 1152921504606846976) = true then _ else _) = _
  rw [if_pos (decide_eq_true h)]
theorem iMul_ii {i j : Int} (h : i.natAbs.log2 + j.natAbs.log2 < 67108864) : iMul (.int i) (.int j) = some (.int (i * j)) := iMul_of (.inl h)
theorem iMul_l {i j : Int} (h : i.natAbs < 1152921504606846976) : iMul (.int i) (.int j) = some (.int (i * j)) := iMul_of (.inr (.inl h))
theorem iMul_r {i j : Int} (h : j.natAbs < 1152921504606846976) : iMul (.int i) (.int j) = some (.int (i * j)) := iMul_of (.inr (.inr h))
theorem iPow_ii {i j : Int} (h : 0 ≤ j ∧ j ≤ 100 ∧ i.natAbs.log2 < 1000000) : iPow (.int i) (.int j) = some (.int (i ^ j.toNat)) := by
  show (if decide (0 ≤ j ∧ j ≤ 100 ∧ i.natAbs.log2 < 1000000) = true then _ else _) = _
  rw [if_pos (decide_eq_true h)]
theorem dAdd_tt {xs ys : List D} (h : xs.length + ys.length ≤ sizeLine) : dAdd (.tup xs) (.tup ys) = some (.tup (xs ++ ys)) := by
  show (if szB (xs.length + ys.length) = true then _ else _) = _
  rw [if_pos (szB_le h)]
theorem lAdd_ll {xs ys : List D} (h : xs.length + ys.length ≤ sizeLine) : lAdd (.lst xs) (.lst ys) = some (xs ++ ys) := by
  show (if szB (xs.length + ys.length) = true then _ else _) = _
  rw [if_pos (szB_le h)]
@[simp] theorem dIx_t {xs : List D} {i : Int} : dIx (.tup xs) (.int i) = atI xs i := (rfl)
@[simp] theorem dIx_l {xs : List D} {i : Int} : dIx (.lst xs) (.int i) = atI xs i := (rfl)
theorem atN {α : Type} {xs : List α} {i : Nat} : atI xs (i : Int) = xs[i]? := by
  unfold atI ixN
  rw [if_pos (Int.natCast_nonneg i)]
  by_cases h : (i : Int) < (xs.length : Int)
  · rw [if_pos h]
    simp
  · rw [if_neg h]
    have : xs.length ≤ i := by omega
    simp [List.getElem?_eq_none this]
theorem atI_of {α : Type} {xs : List α} {i : Int} (h : 0 ≤ i) : atI xs i = xs[i.toNat]? := by
  have := atN (xs := xs) (i := i.toNat)
  rwa [Int.toNat_of_nonneg h] at this
@[simp] theorem atI_0 {α : Type} {xs : List α} : atI xs 0 = xs[0]? := atN (i := 0)
@[simp] theorem atI_1 {α : Type} {xs : List α} : atI xs 1 = xs[1]? := atN (i := 1)
@[simp] theorem atI_2 {α : Type} {xs : List α} : atI xs 2 = xs[2]? := atN (i := 2)
@[simp] theorem atI_3 {α : Type} {xs : List α} : atI xs 3 = xs[3]? := atN (i := 3)
@[simp] theorem dItems_l {xs : List D} : dItems (.lst xs) = some xs := (rfl)
@[simp] theorem dItems_t {xs : List D} : dItems (.tup xs) = some xs := (rfl)
@[simp] theorem pLen_l {xs : List D} : pLen [.lst xs] = some (.int xs.length) := (rfl)
@[simp] theorem pLen_t {xs : List D} : pLen [.tup xs] = some (.int xs.length) := (rfl)
@[simp] theorem pInt_i {i : Int} : pInt [.int i] = some (.int i) := (rfl)
@[simp] theorem pAbs_i {i : Int} : pAbs [.int i] = some (.int (if i < 0 then -i else i)) := (rfl)
@[simp] theorem pMax2_i {i j : Int} : pMax2 [.int i, .int j] = some (.int (if j > i then j else i)) := (rfl)
@[simp] theorem pMin2_i {i j : Int} : pMin2 [.int i, .int j] = some (.int (if j < i then j else i)) := (rfl)
@[simp] theorem pTuple_l {xs : List D} : pTuple [.lst xs] = some (.tup xs) := (rfl)
@[simp] theorem pTuple_t {xs : List D} : pTuple [.tup xs] = some (.tup xs) := (rfl)
@[simp] theorem pList_l {xs : List D} : pList [.lst xs] = some xs := (rfl)
@[simp] theorem pList_t {xs : List D} : pList [.tup xs] = some xs := (rfl)
@[simp] theorem dNeg_i {i : Int} : dNeg (.int i) = some (.int (-i)) := (rfl)
@[simp] theorem dIsN_non {x : D} : dIsN x .non = some x.isNon := (rfl)
@[simp] theorem dIsnN_non {x : D} : dIsnN x .non = some (!x.isNon) := (rfl)
@[simp] theorem isNon_non : D.isNon .non = true := (rfl)
@[simp] theorem isNon_int {i : Int} : D.isNon (.int i) = false := (rfl)
@[simp] theorem isNon_tup {i : List D} : D.isNon (.tup i) = false := (rfl)
@[simp] theorem isNon_lst {i : List D} : D.isNon (.lst i) = false := (rfl)
@[simp] theorem isNon_bl {i : Bool} : D.isNon (.bl i) = false := (rfl)
@[simp] theorem isNon_str {i : Str} : D.isNon (.str i) = false := (rfl)
@[simp] theorem env0_ap {N : Nat} {ds : List D} : env0 N ds = ds.map .fz ++ List.replicate (N - ds.length) .un := (rfl)
end
end DL
/-! PL2: isinstance at data; loops. -/
namespace DL
open PySem L2
@[simp] theorem isi_int_int {i : Int} : pIsi "int" (.int i) = some true := (by decide +kernel : isT "int" "int" = some true)
@[simp] theorem isi_int_bool {i : Bool} : pIsi "int" (.bl i) = some true := (by decide +kernel : isT "int" "bool" = some true)
@[simp] theorem isi_int_str {i : Str} : pIsi "int" (.str i) = some false := (by decide +kernel : isT "int" "str" = some false)
@[simp] theorem isi_int_tuple {i : List D} : pIsi "int" (.tup i) = some false := (by decide +kernel : isT "int" "tuple" = some false)
@[simp] theorem isi_int_list {i : List D} : pIsi "int" (.lst i) = some false := (by decide +kernel : isT "int" "list" = some false)
@[simp] theorem isi_int_NoneType  : pIsi "int" .non = some false := (by decide +kernel : isT "int" "NoneType" = some false)
@[simp] theorem isi_int_dict {i : List D} : pIsi "int" (.dic i) = some false := (by decide +kernel : isT "int" "dict" = some false)
@[simp] theorem isi_bool_int {i : Int} : pIsi "bool" (.int i) = some false := (by decide +kernel : isT "bool" "int" = some false)
@[simp] theorem isi_bool_bool {i : Bool} : pIsi "bool" (.bl i) = some true := (by decide +kernel : isT "bool" "bool" = some true)
@[simp] theorem isi_bool_str {i : Str} : pIsi "bool" (.str i) = some false := (by decide +kernel : isT "bool" "str" = some false)
@[simp] theorem isi_bool_tuple {i : List D} : pIsi "bool" (.tup i) = some false := (by decide +kernel : isT "bool" "tuple" = some false)
@[simp] theorem isi_bool_list {i : List D} : pIsi "bool" (.lst i) = some false := (by decide +kernel : isT "bool" "list" = some false)
@[simp] theorem isi_bool_NoneType  : pIsi "bool" .non = some false := (by decide +kernel : isT "bool" "NoneType" = some false)
@[simp] theorem isi_bool_dict {i : List D} : pIsi "bool" (.dic i) = some false := (by decide +kernel : isT "bool" "dict" = some false)
@[simp] theorem isi_str_int {i : Int} : pIsi "str" (.int i) = some false := (by decide +kernel : isT "str" "int" = some false)
@[simp] theorem isi_str_bool {i : Bool} : pIsi "str" (.bl i) = some false := (by decide +kernel : isT "str" "bool" = some false)
@[simp] theorem isi_str_str {i : Str} : pIsi "str" (.str i) = some true := (by decide +kernel : isT "str" "str" = some true)
@[simp] theorem isi_str_tuple {i : List D} : pIsi "str" (.tup i) = some false := (by decide +kernel : isT "str" "tuple" = some false)
@[simp] theorem isi_str_list {i : List D} : pIsi "str" (.lst i) = some false := (by decide +kernel : isT "str" "list" = some false)
@[simp] theorem isi_str_NoneType  : pIsi "str" .non = some false := (by decide +kernel : isT "str" "NoneType" = some false)
@[simp] theorem isi_str_dict {i : List D} : pIsi "str" (.dic i) = some false := (by decide +kernel : isT "str" "dict" = some false)
@[simp] theorem isi_tuple_int {i : Int} : pIsi "tuple" (.int i) = some false := (by decide +kernel : isT "tuple" "int" = some false)
@[simp] theorem isi_tuple_bool {i : Bool} : pIsi "tuple" (.bl i) = some false := (by decide +kernel : isT "tuple" "bool" = some false)
@[simp] theorem isi_tuple_str {i : Str} : pIsi "tuple" (.str i) = some false := (by decide +kernel : isT "tuple" "str" = some false)
@[simp] theorem isi_tuple_tuple {i : List D} : pIsi "tuple" (.tup i) = some true := (by decide +kernel : isT "tuple" "tuple" = some true)
@[simp] theorem isi_tuple_list {i : List D} : pIsi "tuple" (.lst i) = some false := (by decide +kernel : isT "tuple" "list" = some false)
@[simp] theorem isi_tuple_NoneType  : pIsi "tuple" .non = some false := (by decide +kernel : isT "tuple" "NoneType" = some false)
@[simp] theorem isi_tuple_dict {i : List D} : pIsi "tuple" (.dic i) = some false := (by decide +kernel : isT "tuple" "dict" = some false)
@[simp] theorem isi_list_int {i : Int} : pIsi "list" (.int i) = some false := (by decide +kernel : isT "list" "int" = some false)
@[simp] theorem isi_list_bool {i : Bool} : pIsi "list" (.bl i) = some false := (by decide +kernel : isT "list" "bool" = some false)
@[simp] theorem isi_list_str {i : Str} : pIsi "list" (.str i) = some false := (by decide +kernel : isT "list" "str" = some false)
@[simp] theorem isi_list_tuple {i : List D} : pIsi "list" (.tup i) = some false := (by decide +kernel : isT "list" "tuple" = some false)
@[simp] theorem isi_list_list {i : List D} : pIsi "list" (.lst i) = some true := (by decide +kernel : isT "list" "list" = some true)
@[simp] theorem isi_list_NoneType  : pIsi "list" .non = some false := (by decide +kernel : isT "list" "NoneType" = some false)
@[simp] theorem isi_list_dict {i : List D} : pIsi "list" (.dic i) = some false := (by decide +kernel : isT "list" "dict" = some false)
@[simp] theorem isi_dict_int {i : Int} : pIsi "dict" (.int i) = some false := (by decide +kernel : isT "dict" "int" = some false)
@[simp] theorem isi_dict_bool {i : Bool} : pIsi "dict" (.bl i) = some false := (by decide +kernel : isT "dict" "bool" = some false)
@[simp] theorem isi_dict_str {i : Str} : pIsi "dict" (.str i) = some false := (by decide +kernel : isT "dict" "str" = some false)
@[simp] theorem isi_dict_tuple {i : List D} : pIsi "dict" (.tup i) = some false := (by decide +kernel : isT "dict" "tuple" = some false)
@[simp] theorem isi_dict_list {i : List D} : pIsi "dict" (.lst i) = some false := (by decide +kernel : isT "dict" "list" = some false)
@[simp] theorem isi_dict_NoneType  : pIsi "dict" .non = some false := (by decide +kernel : isT "dict" "NoneType" = some false)
@[simp] theorem isi_dict_dict {i : List D} : pIsi "dict" (.dic i) = some true := (by decide +kernel : isT "dict" "dict" = some true)
/-! ### loops -/
def ldR (o : Option Env) (k : Env → SR) : SR := match o with
  | some ρ => k ρ
  | none => .stuck
theorem forL_inv {t : Tg} {s : SM} {I : Nat → Env → Prop} : ∀ {ds : List D} {ρ : Env} (k : Nat), (∀ i ρ d, ds[i]? = some d → I (k + i) ρ → ∃ ρ1 ρ2, bindT t d ρ = some ρ1 ∧ (s ρ1 = .nx ρ2 ∨ s ρ1 = .ct ρ2) ∧ I (k + i + 1) ρ2) → I k ρ → ∃ ρ', forL t s ds ρ = .nx ρ' ∧ I (k + ds.length) ρ'
  | [], ρ, k, _, h0 => ⟨ρ, rfl, h0⟩
  | d :: ds, ρ, k, h, h0 => by
    obtain ⟨ρ1, ρ2, e1, e2, h2⟩ := h 0 ρ d (by simp) h0
    obtain ⟨ρ', e, hI⟩ := forL_inv (k + 1) (fun i ρ d hd hI => by
      obtain ⟨ρ1, ρ2, q1, q2, q3⟩ := h (i + 1) ρ d (by simpa using hd) (by rw [show k + (i + 1) = k + 1 + i by omega]; exact hI)
      exact ⟨ρ1, ρ2, q1, q2, by rw [show k + 1 + i + 1 = k + (i + 1) + 1 by omega]; exact q3⟩) h2
    refine ⟨ρ', ?_, by rw [List.length_cons, show k + (ds.length + 1) = k + 1 + ds.length by omega]; exact hI⟩
    unfold forL
    rw [e1]
    rcases e2 with e2 | e2 <;> (simp only [e2]; exact e)
/-- with an end ahead -/
theorem forL_out {t : Tg} {s : SM} {I : Nat → Env → Prop} {Q : SR → Prop} : ∀ {ds : List D} {ρ : Env} (k : Nat), (∀ i ρ d, ds[i]? = some d → I (k + i) ρ → ∃ ρ1, bindT t d ρ = some ρ1 ∧ ((∃ ρ2, (s ρ1 = .nx ρ2 ∨ s ρ1 = .ct ρ2) ∧ I (k + i + 1) ρ2) ∨ (∃ d' ρ2, s ρ1 = .ret d' ρ2 ∧ Q (.ret d' ρ2)))) → I k ρ → (∃ ρ', forL t s ds ρ = .nx ρ' ∧ I (k + ds.length) ρ') ∨ Q (forL t s ds ρ)
  | [], ρ, k, _, h0 => .inl ⟨ρ, rfl, h0⟩
  | d :: ds, ρ, k, h, h0 => by
    obtain ⟨ρ1, e1, h2⟩ := h 0 ρ d (by simp) h0
    rcases h2 with ⟨ρ2, e2, h2⟩ | ⟨d', ρ2, e2, h2⟩
    · rcases forL_out (k + 1) (fun i ρ d hd hI => by
        obtain ⟨ρ1, q1, q2⟩ := h (i + 1) ρ d (by simpa using hd) (by rw [show k + (i + 1) = k + 1 + i by omega]; exact hI)
        refine ⟨ρ1, q1, ?_⟩
        rw [show k + 1 + i + 1 = k + (i + 1) + 1 by omega]; exact q2) h2 with ⟨ρ', e, hI⟩ | hq
      · refine .inl ⟨ρ', ?_, by rw [List.length_cons, show k + (ds.length + 1) = k + 1 + ds.length by omega]; exact hI⟩
        unfold forL
        rw [e1]
        rcases e2 with e2 | e2 <;> (simp only [e2]; exact e)
      · refine .inr ?_
        unfold forL
        rw [e1]
        rcases e2 with e2 | e2 <;> (simp only [e2]; exact hq)
    · refine .inr ?_
      unfold forL
      rw [e1]
      simp only [e2]
      exact h2
theorem lcL_inv {ρ₀ : Env} {vs : List Nat} {t : Tg} {gt : M Bool} {ge : M D} {I : Nat → List D → Env → Prop} : ∀ {ds acc : List D} {ρ : Env} (k : Nat), (∀ i acc ρ d, ds[i]? = some d → I (k + i) acc ρ → ∃ ρ1, bindT t d ρ = some ρ1 ∧ ((∃ ρ2 y ρ3, gt ρ1 = .ok true ρ2 ∧ ge ρ2 = .ok y ρ3 ∧ acc.length < sizeLine ∧ I (k + i + 1) (acc ++ [y]) (wipeE ρ3 vs)) ∨ (∃ ρ2, gt ρ1 = .ok false ρ2 ∧ I (k + i + 1) acc (wipeE ρ2 vs)))) →
    I k acc ρ → ∃ acc' ρ', lcL ρ₀ vs t gt ge ds acc ρ = .ok acc' (keepE ρ₀ ρ' vs) ∧ I (k + ds.length) acc' ρ'
  | [], acc, ρ, k, _, h0 => ⟨acc, ρ, rfl, h0⟩
  | d :: ds, acc, ρ, k, h, h0 => by
    have step : ∀ {acc2 : List D} {ρ2 : Env}, I (k + 1) acc2 ρ2 → ∃ acc' ρ', lcL ρ₀ vs t gt ge ds acc2 ρ2 = .ok acc' (keepE ρ₀ ρ' vs) ∧ I (k + 1 + ds.length) acc' ρ' := fun h2 =>
      lcL_inv (k + 1) (fun i acc ρ d hd hI => by
        obtain ⟨ρ1, q1, q2⟩ := h (i + 1) acc ρ d (by simpa using hd) (by rw [show k + (i + 1) = k + 1 + i by omega]; exact hI)
        refine ⟨ρ1, q1, ?_⟩
        rw [show k + 1 + i + 1 = k + (i + 1) + 1 by omega]; exact q2) h2
    have lenE : k + (d :: ds).length = k + 1 + ds.length := by rw [List.length_cons]; omega
    obtain ⟨ρ1, e1, h2⟩ := h 0 acc ρ d (by simp) h0
    rcases h2 with ⟨ρ2, y, ρ3, e2, e3, hz, h2⟩ | ⟨ρ2, e2, h2⟩
    · obtain ⟨acc', ρ', e, hI⟩ := step h2
      refine ⟨acc', ρ', ?_, by rw [lenE]; exact hI⟩
      unfold lcL
      simp only [e1, e2, e3, if_pos hz]
      exact e
    · obtain ⟨acc', ρ', e, hI⟩ := step h2
      refine ⟨acc', ρ', ?_, by rw [lenE]; exact hI⟩
      unfold lcL
      simp only [e1, e2]
      exact e
theorem lcL_map {ρ₀ : Env} {vs : List Nat} {t : Tg} {ge : M D} {f : D → D} {ρ : Env} : ∀ {ds acc : List D}, acc.length + ds.length ≤ sizeLine → (∀ d ∈ ds, ∃ ρ1 ρ3, bindT t d ρ = some ρ1 ∧ ge ρ1 = .ok (f d) ρ3 ∧ wipeE ρ3 vs = ρ) → lcL ρ₀ vs t gT ge ds acc ρ = .ok (acc ++ ds.map f) (keepE ρ₀ ρ vs)
  | [], acc, _, _ => by simp [lcL]
  | d :: ds, acc, hz, h => by
    obtain ⟨ρ1, ρ3, e1, e2, e3⟩ := h d (by simp)
    rw [List.length_cons] at hz
    unfold lcL
    simp only [e1, gT_ap, e2, if_pos (show acc.length < sizeLine by omega), e3]
    rw [lcL_map (by rw [List.length_append, List.length_singleton]; omega) fun d hd => h d (by simp [hd])]
    simp
/-- the same where the slots may change within a set of theirs -/
theorem lcL_mapE {ρ₀ : Env} {vs : List Nat} {t : Tg} {ge : M D} {f : D → D} {E : Env → Prop} : ∀ {ds acc : List D} {ρ : Env}, acc.length + ds.length ≤ sizeLine → (∀ d ∈ ds, ∀ ρ, E ρ → ∃ ρ1 ρ3, bindT t d ρ = some ρ1 ∧ ge ρ1 = .ok (f d) ρ3 ∧ E (wipeE ρ3 vs)) → E ρ → ∃ ρ', lcL ρ₀ vs t gT ge ds acc ρ = .ok (acc ++ ds.map f) (keepE ρ₀ ρ' vs) ∧ E ρ'
  | [], acc, ρ, _, _, hE => ⟨ρ, by simp [lcL], hE⟩
  | d :: ds, acc, ρ, hz, h, hE => by
    obtain ⟨ρ1, ρ3, e1, e2, e3⟩ := h d (by simp) ρ hE
    rw [List.length_cons] at hz
    unfold lcL
    simp only [e1, gT_ap, e2, if_pos (show acc.length < sizeLine by omega)]
    obtain ⟨ρ', e, hE'⟩ := lcL_mapE (ρ₀ := ρ₀) (ds := ds) (acc := acc ++ [f d]) (by rw [List.length_append, List.length_singleton]; omega) (fun d hd => h d (by simp [hd])) e3
    exact ⟨ρ', by rw [e]; simp, hE'⟩
/-- a list of picked elements -/
theorem lcL_filter {ρ₀ : Env} {vs : List Nat} {t : Tg} {gt : M Bool} {ge : M D} {c : D → Bool} {f : D → D} {ρ : Env} : ∀ {ds acc : List D}, acc.length + ds.length ≤ sizeLine → (∀ d ∈ ds, ∃ ρ1 ρ2, bindT t d ρ = some ρ1 ∧ gt ρ1 = .ok (c d) ρ2 ∧ (c d = false → wipeE ρ2 vs = ρ) ∧ (c d = true → ∃ ρ3, ge ρ2 = .ok (f d) ρ3 ∧ wipeE ρ3 vs = ρ)) →
    lcL ρ₀ vs t gt ge ds acc ρ = .ok (acc ++ (ds.filter c).map f) (keepE ρ₀ ρ vs)
  | [], acc, _, _ => by simp [lcL]
  | d :: ds, acc, hz, h => by
    obtain ⟨ρ1, ρ2, e1, e2, h1, h2⟩ := h d (by simp)
    rw [List.length_cons] at hz
    unfold lcL
    cases hc : c d with
    | false =>
      rw [hc] at e2
      simp only [e1, e2, h1 hc]
      rw [lcL_filter (by omega) fun d hd => h d (by simp [hd])]
      simp [List.filter_cons, hc]
    | true =>
      rw [hc] at e2
      obtain ⟨ρ3, e3, e4⟩ := h2 hc
      simp only [e1, e2, e3, if_pos (show acc.length < sizeLine by omega), e4]
      rw [lcL_filter (by rw [List.length_append, List.length_singleton]; omega) fun d hd => h d (by simp [hd])]
      simp [List.filter_cons, hc]
theorem lcN_map {ρ₀ : Env} {vs : List Nat} {t : Tg} {ge : M D} {f : D → D} {ρ : Env} : ∀ {ds acc : List D}, acc.length + ds.length ≤ sizeLine → (∀ d ∈ ds, ∃ ρ1 ρ3, bindT t d ρ = some ρ1 ∧ ge ρ1 = .ok (f d) ρ3 ∧ wipeE ρ3 vs = ρ) → lcN ρ₀ vs t ge ds acc ρ = .ok (.lst ((acc ++ ds.map f).map .op)) (keepE ρ₀ ρ vs)
  | [], acc, _, _ => by simp [lcN]
  | d :: ds, acc, hz, h => by
    obtain ⟨ρ1, ρ3, e1, e2, e3⟩ := h d (by simp)
    rw [List.length_cons] at hz
    unfold lcN
    simp only [e1, e2, if_pos (show acc.length < sizeLine by omega), e3]
    rw [lcN_map (by rw [List.length_append, List.length_singleton]; omega) fun d hd => h d (by simp [hd])]
    simp
@[simp] theorem gLc_ap {vs : List Nat} {gi : M (List D)} {t : Tg} {gt : M Bool} {ge : M D} {ρ : Env} : gLc vs gi t gt ge ρ = Res.bind (gi ρ) fun ds ρ => lcL ρ vs t gt ge ds [] (wipeE ρ vs) := (rfl)
@[simp] theorem gLcN_ap {vs : List Nat} {gi : M (List D)} {t : Tg} {ge : M D} {ρ : Env} : gLcN vs gi t ge ρ = Res.bind (gi ρ) fun ds ρ => lcN ρ vs t ge ds [] (wipeE ρ vs) := (rfl)
@[simp] theorem wipeE_nil {ρ : Env} : wipeE ρ [] = ρ := (rfl)
@[simp] theorem wipeE_cons {ρ : Env} {v : Nat} {vs : List Nat} : wipeE ρ (v :: vs) = (wipeE ρ vs).set v .un := (rfl)
def kpS : Option Sl → Sl
  | some (.fz d) => .fz d
  | _ => .un
@[simp] theorem kpS_fz {d : D} : kpS (some (.fz d)) = .fz d := (rfl)
@[simp] theorem kpS_un : kpS (some .un) = .un := (rfl)
@[simp] theorem kpS_op {d : D} : kpS (some (.op d)) = .un := (rfl)
@[simp] theorem kpS_on {d : NT} : kpS (some (.on d)) = .un := (rfl)
@[simp] theorem keepE_nil {ρ₀ ρ : Env} : keepE ρ₀ ρ [] = ρ := (rfl)
@[simp] theorem keepE_cons {ρ₀ ρ : Env} {v : Nat} {vs : List Nat} : keepE ρ₀ ρ (v :: vs) = (keepE ρ₀ ρ vs).set v (kpS ρ₀[v]?) := by
  show (keepE ρ₀ ρ vs).set v _ = _
  congr 1
@[simp] theorem bindT_nm {i : Nat} {d : D} {ρ : Env} : bindT (.nm i) d ρ = if i < ρ.length then some (ρ.set i (.fz d)) else none := by simp [bindT]
@[simp] theorem bindT_tp {ts : List Tg} {ds : List D} {ρ : Env} : bindT (.tp ts) (.tup ds) ρ = bindTs ts ds ρ := by simp [bindT]
@[simp] theorem bindTs_nil {ρ : Env} : bindTs [] [] ρ = some ρ := by simp [bindTs]
@[simp] theorem bindTs_cons {t : Tg} {ts : List Tg} {d : D} {ds : List D} {ρ : Env} : bindTs (t :: ts) (d :: ds) ρ = (bindT t d ρ).bind (bindTs ts ds) := by
  simp only [bindTs]
  cases bindT t d ρ <;> rfl
/-! ### slices -/
def slR (ρ : Env) (l u : Option Int) : Option D → Res D
  | some d => M.lift (dSl d l u) ρ
  | none => .stuck
@[simp] theorem slR_some {ρ : Env} {l u : Option Int} {d : D} : slR ρ l u (some d) = M.lift (dSl d l u) ρ := (rfl)
@[simp] theorem gSl_ap {o : M LV} {lo hi : M (Option Int)} {ρ : Env} : gSl o lo hi ρ = Res.bind (o ρ) fun x => M.bind lo fun l => M.bind hi fun u ρ => slR ρ l u (x.read ρ) := by
  show Res.bind (o ρ) _ = _
  refine Res.bindE' fun x => ?_
  refine M.bindE' fun l => ?_
  refine M.bindE fun u ρ => ?_
  cases x.read ρ <;> rfl
def ptI : D → M (Option Int)
  | .int i => M.pure (some i)
  | _ => fun _ => .stuck
@[simp] theorem gPart_ap {g : M D} {ρ : Env} : gPart g ρ = Res.bind (g ρ) ptI := by
  show Res.bind (g ρ) _ = _
  refine Res.bindE' fun d => ?_
  cases d <;> rfl
@[simp] theorem ptI_i {i : Int} : ptI (.int i) = M.pure (some i) := (rfl)
@[simp] theorem dSl_t {ds : List D} {l u : Option Int} : dSl (.tup ds) l u = some (.tup (cutA ds l u)) := (rfl)
@[simp] theorem dSl_l {ds : List D} {l u : Option Int} : dSl (.lst ds) l u = some (.lst (cutA ds l u)) := (rfl)
theorem cutA_map {α β : Type} (f : α → β) {xs : List α} {l u : Option Int} : cutA (xs.map f) l u = (cutA xs l u).map f := by
  unfold cutA
  simp [List.map_take, List.map_drop]
theorem cutA_nat {α : Type} {xs : List α} {a b : Nat} (h1 : a ≤ b) (h2 : b ≤ xs.length) : cutA xs (some (a : Int)) (some (b : Int)) = (xs.drop a).take (b - a) := by
  unfold cutA
  rw [HT.sIx_nat, HT.sIx_nat, Nat.min_eq_left h2, Nat.min_eq_left (Nat.le_trans h1 h2)]
theorem cutA_to {α : Type} {xs : List α} {b : Nat} : cutA xs none (some (b : Int)) = xs.take b := by
  unfold cutA
  rw [HT.sIx_nat, HT.sIx_none]
  simp
/-! ### several at once -/
@[simp] theorem gMs_nil {ρ : Env} : gMs [] ρ = .ok [] ρ := (rfl)
@[simp] theorem gMs_cons {o : ME} {os : List ME} {ρ : Env} : gMs (o :: os) ρ = Res.bind (o.run1 ρ) fun x => M.bind (gMs os) fun xs => M.pure (x :: xs) := (rfl)
@[simp] theorem run1_fz' {g : M D} {ρ : Env} : (ME.fz g).run1 ρ = Res.bind (g ρ) fun d => M.pure (false, d) := (rfl)
@[simp] theorem run1_op' {g : M D} {ρ : Env} : (ME.op g).run1 ρ = Res.bind (g ρ) fun d => M.pure (true, d) := (rfl)
def stE : Option Env → SR
  | some ρ => .nx ρ
  | none => .stuck
@[simp] theorem stE_some {ρ : Env} : stE (some ρ) = .nx ρ := (rfl)
@[simp] theorem sSets_ap {is : List Nat} {bs : List (Bool × D)} {ρ : Env} : sSets is bs ρ = stE (setE ρ is bs) := by
  unfold sSets stE
  cases setE ρ is bs <;> rfl
@[simp] theorem setE_nil {ρ : Env} : setE ρ [] [] = some ρ := (rfl)
@[simp] theorem setE_fz {ρ : Env} {i : Nat} {is : List Nat} {d : D} {bs : List (Bool × D)} : setE ρ (i :: is) ((false, d) :: bs) = if i < ρ.length then setE (ρ.set i (.fz d)) is bs else none := by simp [setE]
@[simp] theorem setE_op {ρ : Env} {i : Nat} {is : List Nat} {d : D} {bs : List (Bool × D)} : setE ρ (i :: is) ((true, d) :: bs) = if i < ρ.length then setE (ρ.set i (.op d)) is bs else none := by simp [setE]
/-! ### changes of containers -/
def muR (i : Nat) (p : D → List D → Option (D × D)) (ds : List D) (ρ : Env) : Option Sl → Res D
  | some (.op c) => match p c ds with
    | some (d, c') => .ok d (ρ.set i (.op c'))
    | none => .stuck
  | _ => .stuck
def muL (i : Nat) (p : D → List D → Option (D × D)) (os : List (M LV)) (ρ : Env) : Option Sl → Res D
  | some (.op (.lst _)) => Res.bind (gArgs os ρ) fun ds ρ => muR i p ds ρ ρ[i]?
  | _ => .stuck
@[simp] theorem gMutL_ap {i : Nat} {p : D → List D → Option (D × D)} {os : List (M LV)} {ρ : Env} : gMutL i p os ρ = muL i p os ρ ρ[i]? := by
  unfold gMutL muL
  have k : gMut i p os ρ = Res.bind (gArgs os ρ) fun ds ρ => muR i p ds ρ ρ[i]? := by
    show Res.bind (gArgs os ρ) _ = _
    refine Res.bindE fun ds ρ => ?_
    unfold muR
    cases h : ρ[i]? with
    | none => rfl
    | some s => cases s <;> rfl
  cases h : ρ[i]? with
  | none => rfl
  | some s => cases s with
    | un => rfl
    | fz d => rfl
    | on d => rfl
    | op d => cases d <;> first | exact k | rfl
@[simp] theorem muL_op {i : Nat} {p : D → List D → Option (D × D)} {os : List (M LV)} {ρ : Env} {xs : List D} : muL i p os ρ (some (.op (.lst xs))) = Res.bind (gArgs os ρ) fun ds ρ => muR i p ds ρ ρ[i]? := (rfl)
theorem muR_app {i : Nat} {d : D} {ρ : Env} {xs : List D} (h : xs.length < sizeLine) : muR i mAppend [d] ρ (some (.op (.lst xs))) = .ok .non (ρ.set i (.op (.lst (xs ++ [d])))) := by
  have e : mAppend (.lst xs) [d] = some (.non, .lst (xs ++ [d])) := by
    show (if xs.length < sizeLine then some (D.non, D.lst (xs ++ [d])) else none) = _
    rw [if_pos h]
  simp only [muR, e]
theorem muR_of {i : Nat} {p : D → List D → Option (D × D)} {ds : List D} {ρ : Env} {c d c' : D} (h : p c ds = some (d, c')) : muR i p ds ρ (some (.op c)) = .ok d (ρ.set i (.op c')) := by
  simp only [muR, h]
/-! ### xs[i] = v -/
def st2R (i : Nat) (d k : D) (ρ : Env) : Option Sl → SR
  | some (.op (.lst ds)) => match k with
    | .int k => match ixN ds.length k with
      | some j => .nx (ρ.set i (.op (.lst (ds.set j d))))
      | none => .stuck
    | _ => .stuck
  | _ => .stuck
@[simp] theorem sStore2_ap {i : Nat} {d k : D} {ρ : Env} : sStore2 i d k ρ = st2R i d k ρ ρ[i]? := by
  unfold sStore2 st2R
  cases h : ρ[i]? with
  | none => rfl
  | some s => cases s with
    | op d => cases d <;> rfl
    | _ => rfl
def stN (ρ : Env) (i : Nat) (ds : List D) (d : D) : Option Nat → SR
  | some j => .nx (ρ.set i (.op (.lst (ds.set j d))))
  | none => .stuck
@[simp] theorem stN_some {ρ : Env} {i j : Nat} {ds : List D} {d : D} : stN ρ i ds d (some j) = .nx (ρ.set i (.op (.lst (ds.set j d)))) := (rfl)
@[simp] theorem st2R_op {i : Nat} {d : D} {k : Int} {ρ : Env} {ds : List D} : st2R i d (.int k) ρ (some (.op (.lst ds))) = stN ρ i ds d (ixN ds.length k) := by
  simp only [st2R]
  cases ixN ds.length k <;> rfl
def st1R (i : Nat) (gi : M D) (d : D) (ρ : Env) : Option Sl → SR
  | some (.op (.lst _)) => Res.stm (gi ρ) (sStore2 i d)
  | _ => .stuck
@[simp] theorem sStore1_ap {i : Nat} {gi : M D} {d : D} {ρ : Env} : sStore1 i gi d ρ = st1R i gi d ρ ρ[i]? := by
  unfold sStore1 st1R
  cases h : ρ[i]? with
  | none => rfl
  | some s => cases s with
    | op d => cases d <;> first | exact sBind_ap | rfl
    | _ => rfl
@[simp] theorem st1R_op {i : Nat} {gi : M D} {d : D} {ρ : Env} {ds : List D} : st1R i gi d ρ (some (.op (.lst ds))) = Res.stm (gi ρ) (sStore2 i d) := (rfl)
@[simp] theorem sStore_ap {i : Nat} {gi gv : M D} {ρ : Env} : sStore i gi gv ρ = Res.stm (gv ρ) (sStore1 i gi) := sBind_ap
@[simp] theorem gCallK_ap {m : List D → FR D} {n j : Nat} {pm : List Nat} {os1 os2 : List (M LV)} {ρ : Env} : gCallK m n j pm os1 os2 ρ = Res.bind (gArgs os1 ρ) fun d1 => M.bind (gArgs os2) fun d2 ρ => if d1.length = n ∧ d2.length = j then FR.to (m (permL pm (d1 ++ d2))) ρ else .stuck := by
  show Res.bind (gArgs os1 ρ) _ = _
  refine Res.bindE' fun d1 => ?_
  refine M.bindE fun d2 ρ => ?_
  split
  · unfold FR.to
    cases m (permL pm (d1 ++ d2)) <;> rfl
  · rfl
@[simp] theorem permL_nil {α : Type} {l : List α} : permL [] l = [] := (rfl)
theorem permL_cons {α : Type} {i : Nat} {pm : List Nat} {l : List α} {x : α} (h : l[i]? = some x) : permL (i :: pm) l = x :: permL pm l := by
  unfold permL
  rw [List.filterMap_cons, h]
def ctR (m : D → List D → FR (D × D)) (bs : List (Bool × D)) (ρ : Env) : Res D := match bs with
  | (true, c) :: r => if r.all (fun x => !x.1) = true then match m c (r.map (·.2)) with
    | .ok (d, _) => .ok d ρ
    | _ => .stuck
    else .stuck
  | _ => .stuck
@[simp] theorem gCallT_ap {m : D → List D → FR (D × D)} {g : M D} {gs : List ME} {ρ : Env} : gCallT m g gs ρ = Res.bind (gMs (.op g :: gs) ρ) (ctR m) := by
  show Res.bind (gMs (.op g :: gs) ρ) _ = _
  refine Res.bindE fun bs ρ => ?_
  cases bs with
  | nil => rfl
  | cons b r => cases b with
    | mk o c => cases o <;> rfl
theorem ctR_ok {m : D → List D → FR (D × D)} {c d c' : D} {r : List (Bool × D)} {ρ : Env} (h : r.all (fun x => !x.1) = true) (e : m c (r.map (·.2)) = .ok (d, c')) : ctR m ((true, c) :: r) ρ = .ok d ρ := by
  simp only [ctR, if_pos h, e]
/-! ### ranges -/
theorem rgD_nat {n : Nat} : rgD 0 (n : Int) = (List.range n).map fun i => D.int (i : Nat) := by
  unfold rgD
  simp
theorem dRgI_nat {n : Nat} (h : n ≤ 1000000) : dRgI (.int (n : Nat)) = some ((List.range n).map fun i => D.int (i : Nat)) := by
  have e : dRgI (.int (n : Nat)) = if -(2 ^ 62) ≤ (n : Int) ∧ (n : Int) < 2 ^ 62 then some (rgD 0 n) else none := by rw [dRgI]
  rw [e, if_pos (by omega), rgD_nat]
theorem dRg1_nat {n : Nat} (h : n ≤ sizeLine) : dRg1 (.int (n : Nat)) = some ((List.range n).map fun i => D.int (i : Nat)) := by
  have hz : sizeLine = 2 ^ 24 := by decide
  have e : dRg1 (.int (n : Nat)) = if rgOk 0 (n : Int) = true then some (rgD 0 (n : Int)) else none := by rw [dRg1]
  rw [e, if_pos, rgD_nat]
  unfold rgOk
  refine decide_eq_true ?_
  rw [hz] at h
  omega
theorem enumD_nat {ds : List D} : enumD ds = (List.range ds.length).zipWith (fun i d => .tup [.int (i : Nat), d]) ds := rfl
end DL
/-! PL3: equality of data of ints. -/
namespace DL
open PySem L2
theorem sh_int {i : Int} : SeqAt.shaped (.int i) = true := rfl
theorem sh_bool {i : Bool} : SeqAt.shaped (.bool i) = true := rfl
theorem sh_none : SeqAt.shaped .none = true := rfl
@[simp] theorem dEq_ii {i j : Int} : dEq (.int i) (.int j) = some (decide (i = j)) := by
  show (if SeqAt.shaped (.int i) = true ∧ SeqAt.shaped (.int j) = true then some (PyData.eqv (.int i) (.int j)) else none) = _
  rw [if_pos ⟨sh_int, sh_int⟩]
  rfl
@[simp] theorem dNe_ii {i j : Int} : dNe (.int i) (.int j) = some (!decide (i = j)) := by
  unfold dNe
  rw [dEq_ii]
  rfl
@[simp] theorem dEq_bb {i j : Bool} : dEq (.bl i) (.bl j) = some (i == j) := by
  show (if SeqAt.shaped (.bool i) = true ∧ SeqAt.shaped (.bool j) = true then some (PyData.eqv (.bool i) (.bool j)) else none) = _
  rw [if_pos ⟨sh_bool, sh_bool⟩]
  rfl
@[simp] theorem dNe_bb {i j : Bool} : dNe (.bl i) (.bl j) = some (!(i == j)) := by
  unfold dNe
  rw [dEq_bb]
  rfl
/-! data of ints, in tuples and lists -/
mutual
def D.nums : Nat → D → Bool
  | _, .int _ => true
  | n + 1, .tup ds => D.numsL n ds
  | n + 1, .lst ds => D.numsL n ds
  | _, _ => false
def D.numsL : Nat → List D → Bool
  | _, [] => true
  | n, d :: ds => D.nums n d && D.numsL n ds
end
theorem numsL_all {n : Nat} : ∀ {ds : List D}, (∀ d ∈ ds, d.nums n = true) → D.numsL n ds = true
  | [], _ => by cases n <;> rfl
  | d :: ds, h => by
    have h1 := h d (by simp)
    have h2 := numsL_all fun x hx => h x (List.mem_cons_of_mem _ hx)
    cases n <;> simp [D.numsL, h1, h2]
theorem nums_tup {n : Nat} {ds : List D} (h : ∀ d ∈ ds, d.nums n = true) : (D.tup ds).nums (n + 1) = true := by
  simp [D.nums, numsL_all h]
theorem nums_lst {n : Nat} {ds : List D} (h : ∀ d ∈ ds, d.nums n = true) : (D.lst ds).nums (n + 1) = true := by
  simp [D.nums, numsL_all h]
mutual
theorem py_nums : ∀ {n : Nat} {d : D}, d.nums n = true → ∃ p, d.py = some p ∧ PyData.canLay0 p = true ∧ PyData.depth p ≤ n
  | n, .int i, _ => ⟨.int i, by simp [D.py], rfl, Nat.zero_le _⟩
  | n + 1, .tup ds, h => by
    have h : D.numsL n ds = true := by simpa [D.nums] using h
    obtain ⟨ps, e, k, l⟩ := pyL_nums h
    refine ⟨.tuple ps, by simp [D.py, e], k, ?_⟩
    simp only [PyData.depth]
    omega
  | n + 1, .lst ds, h => by
    have h : D.numsL n ds = true := by simpa [D.nums] using h
    obtain ⟨ps, e, k, l⟩ := pyL_nums h
    refine ⟨.list ps, by simp [D.py, e], k, ?_⟩
    simp only [PyData.depth]
    omega
  | 0, .tup _, h => by simp [D.nums] at h
  | 0, .lst _, h => by simp [D.nums] at h
  | 0, .non, h => by simp [D.nums] at h
  | _ + 1, .non, h => by simp [D.nums] at h
  | 0, .bl _, h => by simp [D.nums] at h
  | _ + 1, .bl _, h => by simp [D.nums] at h
  | 0, .str _, h => by simp [D.nums] at h
  | _ + 1, .str _, h => by simp [D.nums] at h
  | 0, .dic _, h => by simp [D.nums] at h
  | _ + 1, .dic _, h => by simp [D.nums] at h
  | 0, .set _, h => by simp [D.nums] at h
  | _ + 1, .set _, h => by simp [D.nums] at h
  | 0, .obj _ _, h => by simp [D.nums] at h
  | _ + 1, .obj _ _, h => by simp [D.nums] at h
  | 0, .fn _ _, h => by simp [D.nums] at h
  | _ + 1, .fn _ _, h => by simp [D.nums] at h
theorem pyL_nums : ∀ {n : Nat} {ds : List D}, D.numsL n ds = true → ∃ ps, D.pyL ds = some ps ∧ PyData.canLayAll0 ps = true ∧ PyData.depthAll ps ≤ n
  | _, [], _ => ⟨[], by simp [D.pyL], rfl, by simp [PyData.depthAll]⟩
  | n, d :: ds, h => by
    have h : D.nums n d = true ∧ D.numsL n ds = true := by simpa [D.numsL] using h
    obtain ⟨p, e, k, l⟩ := py_nums h.1
    obtain ⟨ps, e2, k2, l2⟩ := pyL_nums h.2
    refine ⟨p :: ps, by simp [D.pyL, e, e2], by simp [PyData.canLayAll0, k, k2], ?_⟩
    simp only [PyData.depthAll]
    omega
end
mutual
theorem eqv_nums : ∀ {n m : Nat} {d d' : D} {p p' : PyData}, d.nums n = true → d'.nums m = true → d.py = some p → d'.py = some p' → (PyData.eqv p p' = true ↔ d = d')
  | n, m, .int i, .int j, p, p', _, _, e, e' => by
    simp [D.py] at e e'
    subst e e'
    simp [PyData.eqv]
  | n, m, .int i, .tup _, p, p', _, h, e, e' => by
    cases m with
    | zero => simp [D.nums] at h
    | succ m =>
      obtain ⟨ps, q, _⟩ := pyL_nums (n := m) (by simpa [D.nums] using h)
      simp [D.py, q] at e e'
      subst e e'
      simp [PyData.eqv]
  | n, m, .int i, .lst _, p, p', _, h, e, e' => by
    cases m with
    | zero => simp [D.nums] at h
    | succ m =>
      obtain ⟨ps, q, _⟩ := pyL_nums (n := m) (by simpa [D.nums] using h)
      simp [D.py, q] at e e'
      subst e e'
      simp [PyData.eqv]
  | n + 1, m, .tup xs, .int j, p, p', h, _, e, e' => by
    obtain ⟨ps, q, _⟩ := pyL_nums (n := n) (by simpa [D.nums] using h)
    simp [D.py, q] at e e'
    subst e e'
    simp [PyData.eqv]
  | n + 1, m, .lst xs, .int j, p, p', h, _, e, e' => by
    obtain ⟨ps, q, _⟩ := pyL_nums (n := n) (by simpa [D.nums] using h)
    simp [D.py, q] at e e'
    subst e e'
    simp [PyData.eqv]
  | n + 1, m + 1, .tup xs, .tup ys, p, p', h, h', e, e' => by
    have h : D.numsL n xs = true := by simpa [D.nums] using h
    have h' : D.numsL m ys = true := by simpa [D.nums] using h'
    obtain ⟨ps, q, _⟩ := pyL_nums h
    obtain ⟨ps', q', _⟩ := pyL_nums h'
    simp [D.py, q, q'] at e e'
    subst e e'
    have := eqvL_nums h h' q q'
    simp [PyData.eqv, this]
  | n + 1, m + 1, .lst xs, .lst ys, p, p', h, h', e, e' => by
    have h : D.numsL n xs = true := by simpa [D.nums] using h
    have h' : D.numsL m ys = true := by simpa [D.nums] using h'
    obtain ⟨ps, q, _⟩ := pyL_nums h
    obtain ⟨ps', q', _⟩ := pyL_nums h'
    simp [D.py, q, q'] at e e'
    subst e e'
    have := eqvL_nums h h' q q'
    simp [PyData.eqv, this]
  | n + 1, m + 1, .tup xs, .lst ys, p, p', h, h', e, e' => by
    have h : D.numsL n xs = true := by simpa [D.nums] using h
    have h' : D.numsL m ys = true := by simpa [D.nums] using h'
    obtain ⟨ps, q, _⟩ := pyL_nums h
    obtain ⟨ps', q', _⟩ := pyL_nums h'
    simp [D.py, q, q'] at e e'
    subst e e'
    simp [PyData.eqv]
  | n + 1, m + 1, .lst xs, .tup ys, p, p', h, h', e, e' => by
    have h : D.numsL n xs = true := by simpa [D.nums] using h
    have h' : D.numsL m ys = true := by simpa [D.nums] using h'
    obtain ⟨ps, q, _⟩ := pyL_nums h
    obtain ⟨ps', q', _⟩ := pyL_nums h'
    simp [D.py, q, q'] at e e'
    subst e e'
    simp [PyData.eqv]
theorem eqvL_nums : ∀ {n m : Nat} {ds ds' : List D} {ps ps' : List PyData}, D.numsL n ds = true → D.numsL m ds' = true → D.pyL ds = some ps → D.pyL ds' = some ps' → (PyData.eqvAll ps ps' = true ↔ ds = ds')
  | _, _, [], [], ps, ps', _, _, e, e' => by
    simp [D.pyL] at e e'
    subst e e'
    simp [PyData.eqvAll]
  | n, m, [], d' :: ds', ps, ps', _, h', e, e' => by
    have h' : D.nums m d' = true ∧ D.numsL m ds' = true := by simpa [D.numsL] using h'
    obtain ⟨p, q, _⟩ := py_nums h'.1
    obtain ⟨ps2, q2, _⟩ := pyL_nums h'.2
    simp [D.pyL, q, q2] at e e'
    subst e e'
    simp [PyData.eqvAll]
  | n, m, d :: ds, [], ps, ps', h, _, e, e' => by
    have h : D.nums n d = true ∧ D.numsL n ds = true := by simpa [D.numsL] using h
    obtain ⟨p, q, _⟩ := py_nums h.1
    obtain ⟨ps2, q2, _⟩ := pyL_nums h.2
    simp [D.pyL, q, q2] at e e'
    subst e e'
    simp [PyData.eqvAll]
  | n, m, d :: ds, d' :: ds', ps, ps', h, h', e, e' => by
    have h : D.nums n d = true ∧ D.numsL n ds = true := by simpa [D.numsL] using h
    have h' : D.nums m d' = true ∧ D.numsL m ds' = true := by simpa [D.numsL] using h'
    obtain ⟨p, q, _⟩ := py_nums h.1
    obtain ⟨ps2, q2, _⟩ := pyL_nums h.2
    obtain ⟨p', q', _⟩ := py_nums h'.1
    obtain ⟨ps2', q2', _⟩ := pyL_nums h'.2
    simp [D.pyL, q, q2, q', q2'] at e e'
    subst e e'
    have h1 := eqv_nums h.1 h'.1 q q'
    have h2 := eqvL_nums h.2 h'.2 q2 q2'
    simp [PyData.eqvAll, h1, h2]
end
/-- equality of such data -/
theorem dEq_nums {n m : Nat} {d d' : D} (h : d.nums n = true) (h' : d'.nums m = true) (hn : n ≤ 64) (hm : m ≤ 64) : ∃ b, dEq d d' = some b ∧ (b = true ↔ d = d') := by
  obtain ⟨p, e, k, l⟩ := py_nums h
  obtain ⟨p', e', k', l'⟩ := py_nums h'
  have s1 : SeqAt.shaped p = true := Bool.and_eq_true_iff.mpr ⟨k, decide_eq_true (Nat.le_trans l hn)⟩
  have s2 : SeqAt.shaped p' = true := Bool.and_eq_true_iff.mpr ⟨k', decide_eq_true (Nat.le_trans l' hm)⟩
  refine ⟨PyData.eqv p p', ?_, eqv_nums h h' e e'⟩
  unfold dEq
  rw [e, e']
  simp only [s1, s2, and_self, if_true]
theorem dEq_yes {n : Nat} {d : D} (h : d.nums n = true) (hn : n ≤ 64) : dEq d d = some true := by
  obtain ⟨b, e, i⟩ := dEq_nums h h hn hn
  rw [e, i.mpr rfl]
theorem dEq_not {n m : Nat} {d d' : D} (h : d.nums n = true) (h' : d'.nums m = true) (hn : n ≤ 64) (hm : m ≤ 64) (ne : d ≠ d') : dEq d d' = some false := by
  obtain ⟨b, e, i⟩ := dEq_nums h h' hn hm
  rw [e]
  cases b with
  | false => rfl
  | true => exact absurd (i.mp rfl) ne
end DL
namespace LK
open PySem L2 DL
def m_is_integer : SM :=
 (sRet (gV (gAnd (gIsi "int" (oPl 0)) (gNot (gIsi "bool" (oPl 0))))))
def f_is_integer := mkF 1 1 m_is_integer
def m_is_from : SM :=
 (sRet (gV (gAnd (gL (gCall f_is_integer [(oEx (gVar 1))])) (p2 cGe (oPl 1) (oPl 0)))))
def f_is_from := mkF 2 2 m_is_from
def m_is_below : SM :=
 (sRet (gV (gAnd (gL (gCall f_is_from [(oEx (M.pure (.int 0))), (oEx (gVar 1))])) (p2 cLt (oPl 1) (oPl 0)))))
def f_is_below := mkF 2 2 m_is_below
def m_is_tuple : SM :=
 (sRet (gV (gAnd (gIsi "tuple" (oPl 1)) (gOr (p2 dIsN (oPl 0) (oEx (M.pure .non))) (p2 dEq (oEx (gB pLen [(oPl 1)])) (oPl 0))))))
def f_is_tuple := mkF 2 2 m_is_tuple
def m_is_row : SM :=
 (sRet (gV (gAnd (gIsi "tuple" (oPl 1)) (gL (gB pAll [(oEx (gComp [2] (gU' dItems (gVar 1)) (.nm 2) gT (gCall f_is_below [(oEx (gVar 0)), (oEx (gVar 2))])))])))))
def f_is_row := mkF 2 3 m_is_row
def m_row_fault : SM :=
 (sSeq (sIf (gNot (gIsi "tuple" (oPl 1)))
 (sRet (gU' dNeg (M.pure (.int 1))))
 SR.nx)
 (sSeq (sFor (.tp [(.nm 2), (.nm 3)]) (gEnum (gVar 1))
 (sIf (gNot (gL (gCall f_is_below [(oEx (gVar 0)), (oEx (gVar 3))])))
 (sRet (gVar 2))
 SR.nx))
 (sRet (M.pure .non))))
def f_row_fault := mkF 2 4 m_row_fault
def m_check_number : SM :=
 (sIf (gNot (gL (gCall f_is_from [(oEx (M.pure (.int 0))), (oEx (gVar 0))])))
 sNo
 SR.nx)
def f_check_number := mkF 1 1 m_check_number
def m_check_log : SM :=
 (sSeq (sBind (gCall f_row_fault [(oEx (gVar 0)), (oEx (gVar 1))]) (sSet 2))
 (sIf (p2 dIsnN (oPl 2) (oEx (M.pure .non)))
 sNo
 SR.nx))
def f_check_log := mkF 2 3 m_check_log
def m_summary_fault : SM :=
 (sSeq (sIf (gNot (gL (gCall f_is_tuple [(oEx (M.pure (.int 3))), (oEx (gVar 0))])))
 (sRet (gTup []))
 SR.nx)
 (sSeq (sIf (gNot (gL (gCall f_is_from [(oEx (M.pure (.int 1))), (oEx (p2 dIx (oPl 0) (oEx (M.pure (.int 0)))))])))
 (sRet (gTup [(oEx (M.pure (.int 0)))]))
 SR.nx)
 (sSeq (sIf (gOr (gNot (gIsi "tuple" (oEx (p2 dIx (oPl 0) (oEx (M.pure (.int 1))))))) (p2 dEq (oEx (p2 dIx (oPl 0) (oEx (M.pure (.int 1))))) (oEx (gTup []))))
 (sRet (gTup [(oEx (M.pure (.int 1)))]))
 SR.nx)
 (sSeq (sFor (.tp [(.nm 1), (.nm 2)]) (gEnum (p2 dIx (oPl 0) (oEx (M.pure (.int 1)))))
 (sIf (gOr (gNot (gL (gCall f_is_tuple [(oEx (p2 dIx (oPl 0) (oEx (M.pure (.int 0))))), (oEx (gVar 2))]))) (gNot (gL (gCall f_is_row [(oEx (gB pLen [(oEx (p2 dIx (oPl 0) (oEx (M.pure (.int 1)))))])), (oEx (gVar 2))]))))
 (sRet (gTup [(oEx (M.pure (.int 1))), (oEx (gVar 1))]))
 SR.nx))
 (sSeq (sIf (gNot (gL (gCall f_is_tuple [(oEx (gB pLen [(oEx (p2 dIx (oPl 0) (oEx (M.pure (.int 1)))))])), (oEx (p2 dIx (oPl 0) (oEx (M.pure (.int 2)))))])))
 (sRet (gTup [(oEx (M.pure (.int 2)))]))
 SR.nx)
 (sSeq (sFor (.tp [(.nm 1), (.nm 3)]) (gEnum (p2 dIx (oPl 0) (oEx (M.pure (.int 2)))))
 (sIf (gNot (gL (gCall f_is_from [(oEx (M.pure (.int 0))), (oEx (gVar 3))])))
 (sRet (gTup [(oEx (M.pure (.int 2))), (oEx (gVar 1))]))
 SR.nx))
 (sRet (M.pure .non))))))))
def f_summary_fault := mkF 1 4 m_summary_fault
def m_check_summary : SM :=
 (sSeq (sBind (gCall f_summary_fault [(oEx (gVar 0))]) (sSet 1))
 (sIf (p2 dIsnN (oPl 1) (oEx (M.pure .non)))
 sNo
 SR.nx))
def f_check_summary := mkF 1 2 m_check_summary
def m_check_read : SM :=
 (sSeq (sExp (gCall f_check_summary [(oEx (gVar 0))]))
 (sExp (gCall f_check_log [(oEx (p2 dIx (oPl 0) (oEx (M.pure (.int 0))))), (oEx (gVar 1))])))
def f_check_read := mkF 2 2 m_check_read
def m_led : SM :=
 (sSeq (sFor (.nm 3) (gU' dItems (gVar 2))
 (sBind (p2 dIx (oEx (p2 dIx (oEx (p2 dIx (oPl 0) (oEx (M.pure (.int 1))))) (oPl 1))) (oPl 3)) (sSet 1)))
 (sRet (gVar 1)))
def f_led := mkF 3 4 m_led
def m_answer_in : SM :=
 (sRet (p2 dIx (oEx (p2 dIx (oPl 0) (oEx (M.pure (.int 2))))) (oEx (gCall f_led [(oEx (gVar 0)), (oEx (M.pure (.int 0))), (oEx (gVar 1))]))))
def f_answer_in := mkF 2 2 m_answer_in
def m_answers_along : SM :=
 (sSeq (sExp (gCall f_check_read [(oEx (gVar 0)), (oEx (gVar 1))]))
 (sSeq (sPar [.fz (M.pure (.int 0)), .op (gLst [(oEx (p2 dIx (oEx (p2 dIx (oPl 0) (oEx (M.pure (.int 2))))) (oEx (M.pure (.int 0)))))])] [2, 3])
 (sSeq (sFor (.nm 4) (gU' dItems (gVar 1))
 (sSeq (sBind (p2 dIx (oEx (p2 dIx (oEx (p2 dIx (oPl 0) (oEx (M.pure (.int 1))))) (oPl 2))) (oPl 4)) (sSet 2))
 (sExp (gMutL 3 mAppend [(oEx (p2 dIx (oEx (p2 dIx (oPl 0) (oEx (M.pure (.int 2))))) (oPl 2)))]))))
 (sRetV 3))))
def f_answers_along := mkO 2 5 m_answers_along
def m_window_answers : SM :=
 (sSeq (sExp (gCall f_check_read [(oEx (gVar 0)), (oEx (gVar 1))]))
 (sSeq (sExp (gCall f_check_number [(oEx (gVar 2))]))
 (sBind (gComp [3] (gRead1 dRgI (oEx (p2 dAdd (oEx (gB pLen [(oPl 1)])) (oEx (M.pure (.int 1)))))) (.nm 3) gT (gCall f_answer_in [(oEx (gVar 0)), (oEx (gSl (oPl 1) (gPart (gB pMax2 [(oEx (M.pure (.int 0))), (oEx (p2 iSub (oPl 3) (oPl 2)))])) (gPart (gVar 3))))])) SR.ro)))
def f_window_answers := mkO 3 4 m_window_answers
def m_law_purse : SM :=
 (sSeq (sBind (p2 dAdd (oEx (p2 dAdd (oEx (p2 iMul (oEx (M.pure (.int 611953))) (oPl 1))) (oEx (p2 iMul (oEx (M.pure (.int 4799))) (oEx (gB pLen [(oEx (gSl (oPl 0) (M.pure none) (gPart (M.pure (.int 63)))))])))))) (oEx (M.pure (.int 97)))) (sSet 2))
 (sSeq (sFor (.nm 3) (gU' dItems (gSl (oPl 0) (M.pure none) (gPart (M.pure (.int 63)))))
 (sBind (p2 iMod (oEx (gB pInt [(oEx (p2 dAdd (oEx (p2 dAdd (oEx (p2 iMul (oPl 2) (oEx (M.pure (.int 7368787))))) (oEx (p2 iMul (oEx (gB pInt [(oPl 3)])) (oEx (M.pure (.int 2750159))))))) (oEx (M.pure (.int 8191)))))])) (oEx (p2 dAdd (oEx (p2 iPow (oEx (M.pure (.int 10))) (oEx (M.pure (.int 24))))) (oEx (M.pure (.int 7)))))) (sSet 2)))
 (sSeq (sBind (gIf (p2 cLt (oPl 1) (oEx (gB pLen [(oPl 0)]))) (gB pAbs [(oEx (gB pInt [(oEx (p2 dIx (oPl 0) (oPl 1)))]))]) (M.pure (.int 0))) (sSet 4))
 (sBind (gLst [(oEx (gB pMax2 [(oEx (M.pure (.int 0))), (oEx (p2 iSub (oPl 4) (oEx (p2 iPow (oEx (M.pure (.int 10))) (oEx (M.pure (.int 18)))))))])), (oEx (gVar 2)), (oEx (M.pure (.int 0)))]) SR.ro))))
def f_law_purse := mkO 2 5 m_law_purse
def m_law_coin : SM :=
 (sSeq (sIf (p2 cGt (oEx (p2 dIx (oPl 0) (oEx (M.pure (.int 0))))) (oEx (M.pure (.int 0))))
 (sSeq (sBind (p2 iMod (oEx (gB pInt [(oEx (p2 dIx (oPl 0) (oEx (M.pure (.int 0)))))])) (oPl 1)) (sSet 2))
 (sSeq (sStore 0 (M.pure (.int 0)) (p2 iDiv (oEx (p2 dIx (oPl 0) (oEx (M.pure (.int 0))))) (oPl 1)))
 (sRet (gVar 2))))
 SR.nx)
 (sSeq (sStore 0 (M.pure (.int 2)) (p2 dAdd (oEx (p2 dIx (oPl 0) (oEx (M.pure (.int 2))))) (oEx (M.pure (.int 1)))))
 (sSeq (sBind (p2 iMod (oEx (gB pInt [(oEx (p2 dAdd (oEx (p2 iPow (oEx (p2 dAdd (oEx (p2 dIx (oPl 0) (oEx (M.pure (.int 1))))) (oEx (p2 iMul (oEx (M.pure (.int 15487469))) (oEx (p2 dIx (oPl 0) (oEx (M.pure (.int 2))))))))) (oEx (M.pure (.int 2))))) (oEx (p2 iMul (oEx (M.pure (.int 32452867))) (oEx (p2 dIx (oPl 0) (oEx (M.pure (.int 2)))))))))])) (oEx (p2 dAdd (oEx (p2 iPow (oEx (M.pure (.int 10))) (oEx (M.pure (.int 23))))) (oEx (M.pure (.int 117)))))) (sSet 3))
 (sSeq (sBind (p2 iMod (oEx (gB pInt [(oEx (p2 dAdd (oEx (p2 iPow (oPl 3) (oEx (M.pure (.int 2))))) (oEx (p2 iMul (oEx (M.pure (.int 49979693))) (oEx (p2 dIx (oPl 0) (oEx (M.pure (.int 2)))))))))])) (oEx (p2 dAdd (oEx (p2 iPow (oEx (M.pure (.int 10))) (oEx (M.pure (.int 21))))) (oEx (M.pure (.int 117)))))) (sSet 4))
 (sRet (p2 iMod (oEx (gB pInt [(oEx (p2 iDiv (oPl 4) (oEx (p2 iPow (oEx (M.pure (.int 10))) (oEx (M.pure (.int 6)))))))])) (oPl 1)))))))
def f_law_coin := mkI 2 5 m_law_coin
def m_law_pick : SM :=
 (sRet (p2 dIx (oPl 1) (oEx (gCallI f_law_coin 0 [(oEx (gB pLen [(oPl 1)]))]))))
def f_law_pick := mkI 2 2 m_law_pick
def m_law_same (g0 : List D → FR D) : SM :=
 (sSeq (sIf (gOr (gIsi "tuple" (oPl 1)) (gIsi "list" (oPl 1)))
 (sSeq (sIf (gOr (p2 dNe (oEx (gV (gIsi "tuple" (oPl 1)))) (oEx (gV (gIsi "tuple" (oPl 0))))) (p2 dNe (oEx (gV (gIsi "list" (oPl 1)))) (oEx (gV (gIsi "list" (oPl 0))))))
 (sRet (M.pure (.bl false)))
 SR.nx)
 (sRet (gV (gAnd (p2 dEq (oEx (gB pLen [(oPl 0)])) (oEx (gB pLen [(oPl 1)]))) (gL (gB pAll [(oEx (gComp [2] (gRead1 dRgI (oEx (gB pLen [(oPl 1)]))) (.nm 2) gT (gCallS g0 [(oEx (p2 dIx (oPl 0) (oPl 2))), (oEx (p2 dIx (oPl 1) (oPl 2)))])))]))))))
 SR.nx)
 (sSeq (sIf (p2 dIsN (oPl 1) (oEx (M.pure .non)))
 (sRet (gV (p2 dIsN (oPl 0) (oEx (M.pure .non)))))
 SR.nx)
 (sSeq (sIf (gOr (gIsi "bool" (oPl 1)) (gIsi "bool" (oPl 0)))
 (sRet (gV (gAnd (gIsi "bool" (oPl 1)) (gAnd (gIsi "bool" (oPl 0)) (p2 dEq (oPl 0) (oPl 1))))))
 SR.nx)
 (sSeq (sIf (gIsi "str" (oPl 1))
 (sRet (gV (gAnd (gIsi "str" (oPl 0)) (p2 dEq (oPl 0) (oPl 1)))))
 SR.nx)
 (sRet (gV (gAnd (gIsi "int" (oPl 0)) (p2 dEq (oPl 0) (oPl 1)))))))))
def f_law_same : Nat → List D → FR D
  | 0 => fun _ => .stuck
  | n + 1 => mkF 2 3 (m_law_same (f_law_same n))
def m_law_log : SM :=
 (sRet (gB pTuple [(oEx (gComp [3] (gRead1 dRgI (oEx (gCallI f_law_coin 0 [(oEx (p2 dAdd (oPl 2) (oEx (M.pure (.int 1)))))]))) (.nm 3) gT (gCallI f_law_coin 0 [(oEx (gVar 1))])))]))
def f_law_log := mkI 3 4 m_law_log
def m_law_led : SM :=
 (sSeq (sFor (.nm 3) (gU' dItems (gVar 2))
 (sBind (p2 dIx (oEx (p2 dIx (oEx (p2 dIx (oPl 0) (oEx (M.pure (.int 1))))) (oPl 1))) (oPl 3)) (sSet 1)))
 (sRet (gVar 1)))
def f_law_led := mkF 3 4 m_law_led
def m_law_answer : SM :=
 (sRet (p2 dIx (oEx (p2 dIx (oPl 0) (oEx (M.pure (.int 2))))) (oEx (gCall f_law_led [(oEx (gVar 0)), (oEx (M.pure (.int 0))), (oEx (gVar 1))]))))
def f_law_answer := mkF 2 2 m_law_answer
def m_law_column : SM :=
 (sSeq (sBind (gCallI f_law_coin 0 [(oEx (gVar 2))]) (sSet 3))
 (sSeq (sIf (p2 dEq (oPl 1) (oEx (M.pure (.int 1))))
 (sRet (gComp [4] (gRead1 dRgI (oPl 2)) (.nm 4) gT (p2 iMod (oEx (gB pInt [(oEx (p2 dAdd (oPl 4) (oPl 3)))])) (oPl 2))))
 SR.nx)
 (sSeq (sIf (p2 dEq (oPl 1) (oEx (M.pure (.int 2))))
 (sRet (gComp [4] (gRead1 dRgI (oPl 2)) (.nm 4) gT (gB pMin2 [(oEx (p2 iSub (oPl 2) (oEx (M.pure (.int 1))))), (oEx (p2 dAdd (oPl 4) (oPl 3)))])))
 SR.nx)
 (sSeq (sIf (p2 dEq (oPl 1) (oEx (M.pure (.int 3))))
 (sRet (gComp [4] (gRead1 dRgI (oPl 2)) (.nm 4) gT (p2 iOr (oPl 4) (oPl 3))))
 SR.nx)
 (sSeq (sIf (p2 dEq (oPl 1) (oEx (M.pure (.int 4))))
 (sRet (gComp [4] (gRead1 dRgI (oPl 2)) (.nm 4) gT (p2 dAdd (oEx (p2 iMod (oEx (gB pInt [(oEx (p2 dAdd (oEx (p2 iMod (oPl 4) (oEx (M.pure (.int 2))))) (oPl 3)))])) (oEx (M.pure (.int 2))))) (oEx (p2 iMul (oEx (M.pure (.int 2))) (oEx (gB pMax2 [(oEx (p2 iDiv (oPl 4) (oEx (M.pure (.int 2))))), (oEx (p2 iDiv (oPl 3) (oEx (M.pure (.int 2)))))])))))))
 SR.nx)
 (sSeq (sIf (p2 dEq (oPl 1) (oEx (M.pure (.int 5))))
 (sSeq (sBind (gCallI f_law_coin 0 [(oEx (M.pure (.int 3)))]) (sSet 5))
 (sRet (gComp [4] (gRead1 dRgI (oPl 2)) (.nm 4) gT (gIf (p2 dEq (oPl 5) (oEx (M.pure (.int 0)))) (gVar 4) (gVar 3)))))
 SR.nx)
 (sSeq (sIf (p2 dEq (oPl 1) (oEx (M.pure (.int 6))))
 (sSeq (sPar [.op (gLstRg (gVar 2)), .op (gLst [])] [6, 7])
 (sSeq (sFor (.nm 4) (gRead1 dRgI (oPl 2))
 (sExp (gMutL 7 mAppend [(oEx (gMutL 6 mPopAt [(oEx (gCallI f_law_coin 0 [(oEx (gB pLen [(oPl 6)]))]))]))])))
 (sRet (gVar 7))))
 SR.nx)
 (sSeq (sIf (p2 dEq (oPl 1) (oEx (M.pure (.int 7))))
 (sRet (gComp [4] (gRead1 dRgI (oPl 2)) (.nm 4) gT (gB pMax2 [(oEx (M.pure (.int 0))), (oEx (gB pMin2 [(oEx (p2 iSub (oPl 2) (oEx (M.pure (.int 1))))), (oEx (p2 iSub (oEx (p2 dAdd (oPl 4) (oPl 3))) (oEx (p2 iDiv (oPl 2) (oEx (M.pure (.int 2)))))))]))])))
 SR.nx)
 (sSeq (sIf (p2 dEq (oPl 1) (oEx (M.pure (.int 8))))
 (sRet (gComp [4] (gRead1 dRgI (oPl 2)) (.nm 4) gT (gB pMax2 [(oPl 4), (oPl 3)])))
 SR.nx)
 (sSeq (sIf (p2 dEq (oPl 1) (oEx (M.pure (.int 9))))
 (sSeq (sPar [.fz (p2 iMod (oEx (gB pInt [(oPl 3)])) (oEx (M.pure (.int 3)))), .fz (p2 iDiv (oPl 3) (oEx (M.pure (.int 3))))] [8, 9])
 (sRet (gComp [4] (gRead1 dRgI (oPl 2)) (.nm 4) gT (p2 dAdd (oEx (p2 iMod (oEx (gB pInt [(oEx (p2 dAdd (oEx (p2 dAdd (oEx (p2 iMod (oPl 4) (oEx (M.pure (.int 3))))) (oEx (p2 iMul (oPl 8) (oEx (p2 iSub (oEx (M.pure (.int 1))) (oEx (p2 iMul (oEx (M.pure (.int 2))) (oEx (p2 iDiv (oPl 4) (oEx (M.pure (.int 3))))))))))))) (oEx (M.pure (.int 3)))))])) (oEx (M.pure (.int 3))))) (oEx (p2 iMul (oEx (M.pure (.int 3))) (oEx (p2 iMod (oEx (gB pInt [(oEx (p2 dAdd (oEx (p2 iDiv (oPl 4) (oEx (M.pure (.int 3))))) (oPl 9)))])) (oEx (M.pure (.int 2)))))))))))
 SR.nx)
 (sRet (gComp [4] (gRead1 dRgI (oPl 2)) (.nm 4) gT (gCallI f_law_coin 0 [(oEx (gVar 2))])))))))))))))
def f_law_column := mkI 3 10 m_law_column
def m_law_any : SM :=
 (sSeq (sPar [.fz (p2 dAdd (oEx (M.pure (.int 1))) (oEx (gCallI f_law_coin 0 [(oEx (M.pure (.int 3)))]))), .fz (gCallI f_law_coin 0 [(oEx (M.pure (.int 12)))]), .fz (p2 dAdd (oEx (M.pure (.int 1))) (oEx (gCallI f_law_coin 0 [(oEx (gVar 1))])))] [2, 3, 4])
 (sSeq (sIf (gOr (p2 dEq (oPl 3) (oEx (M.pure (.int 3)))) (p2 dEq (oPl 3) (oEx (M.pure (.int 4)))))
 (sBind (M.pure (.int 4)) (sSet 4))
 SR.nx)
 (sSeq (sIf (p2 dEq (oPl 3) (oEx (M.pure (.int 9))))
 (sBind (M.pure (.int 6)) (sSet 4))
 SR.nx)
 (sSeq (sBind (gComp [5] (gRead1 dRgI (oPl 2)) (.nm 5) gT (gCallI f_law_column 0 [(oEx (gVar 3)), (oEx (gVar 4))])) (sSetO 6))
 (sSeq (sBind (gCallI f_law_coin 0 [(oEx (M.pure (.int 3)))]) (sSet 7))
 (sSeq (sBind (gB pTuple [(oEx (gComp [8] (gRead1 dRgI (oPl 4)) (.nm 8) gT (gIf (p2 cGt (oPl 7) (oEx (M.pure (.int 0)))) (gVar 8) (gCallI f_law_coin 0 [(oEx (M.pure (.int 3)))]))))]) (sSet 9))
 (sRet (gTup [(oEx (gVar 2)), (oEx (gB pTuple [(oEx (gComp [8] (gRead1 dRgI (oPl 4)) (.nm 8) gT (gB pTuple [(oEx (gComp [10] (gU' dItems (gVar 6)) (.nm 10) gT (p2 dIx (oPl 10) (oPl 8))))])))])), (oEx (gVar 9))]))))))))
def f_law_any := mkI 2 11 m_law_any
def m_law_summary : SM :=
 (sSeq (sBind (gCallI f_law_any 0 [(oEx (gVar 1))]) (sSet 2))
 (sSeq (sFor (.nm 3) (gRead1 dRgI (oEx (M.pure (.int 2))))
 (sIf (gOr (p2 dEq (oEx (gU pLenSet (oEx (p2 dAdd (oEx (p2 dIx (oEx (p2 dIx (oPl 2) (oEx (M.pure (.int 1))))) (oEx (M.pure (.int 0))))) (oEx (gTup [(oEx (M.pure (.int 0)))])))))) (oEx (M.pure (.int 1)))) (p2 dEq (oEx (gU pLenSet (oEx (p2 dIx (oPl 2) (oEx (M.pure (.int 2))))))) (oEx (M.pure (.int 1)))))
 (sBind (gCallI f_law_any 0 [(oEx (gVar 1))]) (sSet 2))
 SR.nx))
 (sRet (gVar 2))))
def f_law_summary := mkI 2 4 m_law_summary
def m_law_copied : SM :=
 (sSeq (sBind (gB pLen [(oEx (p2 dIx (oPl 1) (oEx (M.pure (.int 1)))))]) (sSet 2))
 (sSeq (sBind (gCat (oEx (gLstRg (gVar 2))) (oEx (gComp [3] (gRead1 dRgI (oEx (gCallI f_law_coin 0 [(oEx (gB pMax2 [(oEx (M.pure (.int 1))), (oEx (gB pMin2 [(oEx (M.pure (.int 3))), (oEx (p2 iSub (oEx (M.pure (.int 7))) (oPl 2)))]))]))]))) (.nm 3) gT (gCallI f_law_coin 0 [(oEx (gVar 2))])))) (sSetO 4))
 (sSeq (sBind (gLst []) (sSetO 5))
 (sSeq (sFor (.nm 6) (gU' dItems (gVar 4))
 (sSeq (sBind (gComp [7] (gU' dItems (p2 dIx (oEx (p2 dIx (oPl 1) (oEx (M.pure (.int 1))))) (oPl 6))) (.nm 7) gT (gComp [8] (gRead1 dRgI (oEx (gB pLen [(oPl 4)]))) (.nm 8) (p2 dEq (oEx (p2 dIx (oPl 4) (oPl 8))) (oPl 7)) (gVar 8))) (sSetO 9))
 (sExp (gMutL 5 mAppend [(oEx (gB pTuple [(oEx (gComp [10] (gU' dItems (gVar 9)) (.nm 10) gT (gCallI f_law_pick 0 [(oEx (gVar 10))])))]))]))))
 (sRet (gTup [(oEx (p2 dIx (oPl 1) (oEx (M.pure (.int 0))))), (oEx (gB pTuple [(oPl 5)])), (oEx (gB pTuple [(oEx (gComp [6] (gU' dItems (gVar 4)) (.nm 6) gT (p2 dIx (oEx (p2 dIx (oPl 1) (oEx (M.pure (.int 2))))) (oPl 6))))]))]))))))
def f_law_copied := mkI 2 11 m_law_copied
def m_law_due : SM :=
 (sBind (gComp [3] (gRead1 dRgI (oEx (p2 dAdd (oEx (gB pLen [(oPl 1)])) (oEx (M.pure (.int 1)))))) (.nm 3) gT (gCall f_law_answer [(oEx (gVar 0)), (oEx (gSl (oPl 1) (gPart (gB pMax2 [(oEx (M.pure (.int 0))), (oEx (p2 iSub (oPl 3) (oPl 2)))])) (gPart (gVar 3))))])) SR.ro)
def f_law_due := mkO 3 4 m_law_due
def m_law_right : SM :=
 (sSeq (sBind (gCallI f_law_copied 0 [(oEx (gCallI f_law_summary 0 [(oEx (M.pure (.int 4)))]))]) (sSet 1))
 (sSeq (sBind (gCallI f_law_log 0 [(oEx (p2 dIx (oPl 1) (oEx (M.pure (.int 0))))), (oEx (gCallI f_law_pick 0 [(oEx (gLst [(oEx (M.pure (.int 3))), (oEx (M.pure (.int 8))), (oEx (M.pure (.int 12))), (oEx (M.pure (.int 40)))]))]))]) (sSet 2))
 (sSeq (sBind (gLst [(oEx (gCallI f_law_coin 0 [(oEx (M.pure (.int 4)))])), (oEx (gCallI f_law_pick 0 [(oEx (gLst [(oEx (M.pure (.int 0))), (oEx (M.pure (.int 1))), (oEx (M.pure (.int 2))), (oEx (M.pure (.int 3))), (oEx (M.pure (.int 5))), (oEx (M.pure (.int 8)))]))])), (oEx (gB pLen [(oPl 2)])), (oEx (gCallI f_law_coin 0 [(oEx (M.pure (.int 41)))]))]) (sSetO 3))
 (sSeq (sBind (gLcN [4] (gU' dItems (gVar 3)) (.nm 4) (gCall f_window_answers [(oEx (gVar 1)), (oEx (gVar 2)), (oEx (gVar 4))])) (sSetN 5))
 (sSeq (sIf (gNot (gL (gCallS (f_law_same 8) [(oPn 5), (oEx (gComp [4] (gU' dItems (gVar 3)) (.nm 4) gT (gCall f_law_due [(oEx (gVar 1)), (oEx (gVar 2)), (oEx (gVar 4))])))])))
 (sRet (M.pure (.bl false)))
 SR.nx)
 (sSeq (sBind (gCallI f_law_log 0 [(oEx (p2 dIx (oPl 1) (oEx (M.pure (.int 0))))), (oEx (M.pure (.int 6)))]) (sSet 6))
 (sSeq (sIf (gNot (gL (gCallS (f_law_same 8) [(oEx (gCallK f_window_answers 1 2 [0, 1, 2] [(oEx (gVar 1))] [(oEx (gVar 6)), (oEx (p2 dIx (oPl 3) (oEx (M.pure (.int 1)))))])), (oEx (gCall f_law_due [(oEx (gVar 1)), (oEx (gVar 6)), (oEx (p2 dIx (oPl 3) (oEx (M.pure (.int 1)))))]))])))
 (sRet (M.pure (.bl false)))
 SR.nx)
 (sSeq (sExp (gAppN 5 0 7))
 (sSeq (sBind (gCallK f_window_answers 0 3 [1, 2, 0] [] [(oEx (p2 dIx (oPl 3) (oEx (M.pure (.int 0))))), (oEx (gVar 1)), (oEx (gVar 2))]) (sSetO 7))
 (sRet (gV (gAnd (gL (gCallS (f_law_same 8) [(oPn 7), (oEx (gCall f_law_due [(oEx (gVar 1)), (oEx (gVar 2)), (oEx (p2 dIx (oPl 3) (oEx (M.pure (.int 0)))))]))])) (gL (gCallS (f_law_same 8) [(oEx (p2 dIx (oEx (gVar 5)) (oEx (M.pure (.int 2))))), (oEx (gCall f_answers_along [(oEx (gVar 1)), (oEx (gVar 2))]))]))))))))))))))
def f_law_right := mkI 1 8 m_law_right
def m_law : SM :=
 (sSeq (sFor (.nm 1) (gRead1 dRgI (oEx (gB pMax2 [(oEx (M.pure (.int 1))), (oEx (gB pMin2 [(oEx (M.pure (.int 5))), (oEx (gB pLen [(oPl 0)]))]))])))
 (sIf (gNot (gL (gCallT f_law_right (gCall f_law_purse [(oEx (gVar 0)), (oEx (gVar 1))]) [])))
 (sRet (M.pure (.bl false)))
 SR.nx))
 (sRet (M.pure (.bl true))))
def f_law := mkF 1 2 m_law
end LK
namespace LK
open PySem L2 DL
/-! ### data -/
abbrev dn (n : Nat) : D := .int (n : Int)
abbrev dT (l : List Nat) : D := .tup (l.map dn)
abbrev dL (l : List Nat) : D := .lst (l.map dn)
structure Sm where
  ev : Nat
  mv : List (List Nat)
  an : List Nat
abbrev Sm.d (S : Sm) : D := .tup [dn S.ev, .tup (S.mv.map dT), dT S.an]
structure Sm.Ok (S : Sm) : Prop where
  ev : 1 ≤ S.ev
  mv : S.mv ≠ []
  row : ∀ r ∈ S.mv, r.length = S.ev ∧ ∀ x ∈ r, x < S.mv.length
  an : S.an.length = S.mv.length
  small : S.mv.length < 100 ∧ S.ev < 100
def LogOk (ev : Nat) (log : List Nat) : Prop := (∀ x ∈ log, x < ev) ∧ log.length < 1000
@[simp] theorem zl : sizeLine = 16777216 := by decide
theorem is_integer_int {i : Int} : f_is_integer [.int i] = .ok (.bl true) := by
  simp [f_is_integer, mkF_ap, m_is_integer]
theorem is_from_int {a i : Int} : f_is_from [.int a, .int i] = .ok (.bl (decide (a ≤ i))) := by
  simp [f_is_from, mkF_ap, m_is_from, is_integer_int]
theorem is_below_int {a i : Int} : f_is_below [.int a, .int i] = .ok (.bl (decide (0 ≤ i) && decide (i < a))) := by
  simp [f_is_below, mkF_ap, m_is_below, is_from_int]
  by_cases h : 0 ≤ i <;> simp [h]
theorem is_below_nat {a i : Nat} (h : i < a) : f_is_below [dn a, dn i] = .ok (.bl true) := by
  rw [is_below_int]
  simp [h]
theorem bools_all : ∀ {l : List D}, (∀ d ∈ l, d = .bl true) → D.bools l = some (List.replicate l.length true)
  | [], _ => rfl
  | d :: l, h => by
    have h1 := h d (by simp)
    subst h1
    have h2 := bools_all fun d hd => h d (List.mem_cons_of_mem _ hd)
    simp [D.bools, h2, List.replicate_succ]
theorem pAll_true {l : List D} (h : ∀ d ∈ l, d = .bl true) : pAll [.lst l] = some (.bl true) := by
  simp [pAll, bools_all h]
theorem is_tuple_n {n : Nat} {l : List D} (h : l.length = n) : f_is_tuple [dn n, .tup l] = .ok (.bl true) := by
  simp [f_is_tuple, mkF_ap, m_is_tuple, h]
theorem is_row_n {n : Nat} {l : List Nat} (h : ∀ x ∈ l, x < n) (hz : l.length < 1000) : f_is_row [dn n, dT l] = .ok (.bl true) := by
  have e : ∀ ρ₀ : DL.Env, lcL ρ₀ [2] (.nm 2) gT (gCall f_is_below [(oEx (gVar 0)), (oEx (gVar 2))]) (l.map dn) [] [.fz (dn n), .fz (dT l), .un] = .ok ((l.map dn).map fun _ => .bl true) (keepE ρ₀ [.fz (dn n), .fz (dT l), .un] [2]) := fun ρ₀ => by
    rw [lcL_map (f := fun _ => .bl true) (ρ := [.fz (dn n), .fz (dT l), .un])]
    · simp
    · simp [zl]; omega
    · intro d hd
      obtain ⟨x, hx, rfl⟩ := List.mem_map.mp hd
      have := is_below_nat (h x hx)
      simp [this]
  simp [f_is_row, mkF_ap, m_is_row, e]
  rw [pAll_true (by simp)]
  simp
theorem row_fault_n {n : Nat} {l : List Nat} (h : ∀ x ∈ l, x < n) : f_row_fault [dn n, dT l] = .ok .non := by
  have e : ∃ ρ', forL (.tp [(.nm 2), (.nm 3)]) (sIf (gNot (gL (gCall f_is_below [(oEx (gVar 0)), (oEx (gVar 3))]))) (sRet (gVar 2)) SR.nx) (enumD (l.map dn)) [.fz (dn n), .fz (dT l), .un, .un] = .nx ρ' ∧ ∃ a b, ρ' = [.fz (dn n), .fz (dT l), a, b] := by
    obtain ⟨ρ', e, a⟩ := forL_inv (I := fun _ ρ => ∃ a b, ρ = [.fz (dn n), .fz (dT l), a, b]) (t := .tp [(.nm 2), (.nm 3)]) (s := sIf (gNot (gL (gCall f_is_below [(oEx (gVar 0)), (oEx (gVar 3))]))) (sRet (gVar 2)) SR.nx) (ds := enumD (l.map dn)) 0 (fun i ρ d hd hI => by
      obtain ⟨a, b, rfl⟩ := hI
      obtain ⟨x, hx, rfl⟩ := enumD_get hd
      rw [List.getElem?_map] at hx
      cases hy : l[i]? with
      | none => rw [hy] at hx; cases hx
      | some y =>
        rw [hy] at hx
        cases hx
        have := is_below_nat (h y (List.mem_of_getElem? hy))
        simp [this]) ⟨_, _, rfl⟩
    exact ⟨ρ', e, a⟩
  obtain ⟨ρ', e, a, b, rfl⟩ := e
  simp [f_row_fault, mkF_ap, m_row_fault, e]
theorem check_number_n {n : Nat} : f_check_number [dn n] = .ok .non := by
  simp [f_check_number, mkF_ap, m_check_number, is_from_int]
theorem check_log_n {n : Nat} {l : List Nat} (h : ∀ x ∈ l, x < n) : f_check_log [dn n, dT l] = .ok .non := by
  simp [f_check_log, mkF_ap, m_check_log, row_fault_n h]
theorem nums_dT {l : List Nat} : (dT l).nums 1 = true := nums_tup fun d hd => by
  obtain ⟨x, _, rfl⟩ := List.mem_map.mp hd
  rfl
theorem nums_dTT {m : List (List Nat)} : (D.tup (m.map dT)).nums 2 = true := nums_tup fun d hd => by
  obtain ⟨x, _, rfl⟩ := List.mem_map.mp hd
  exact nums_dT
theorem zipW_get {ds : List D} {i : Nat} {d : D} (h : (enumD ds)[i]? = some d) : ∃ x, ds[i]? = some x ∧ d = .tup [.int (i : Nat), x] := enumD_get h
theorem summary_fault_n {S : Sm} (h : S.Ok) : f_summary_fault [S.d] = .ok .non := by
  obtain ⟨hev, hmv, hrow, han, hsm⟩ := h
  have hne : dEq (D.tup (S.mv.map dT)) (D.tup []) = some false := dEq_not (n := 2) (m := 1) nums_dTT rfl (by decide) (by decide) (by
    intro e
    simp at e
    exact hmv e)
  have l1 : ∃ ρ', forL (.tp [(.nm 1), (.nm 2)]) (sIf (gOr (gNot (gL (gCall f_is_tuple [(oEx (p2 dIx (oPl 0) (oEx (M.pure (.int 0))))), (oEx (gVar 2))]))) (gNot (gL (gCall f_is_row [(oEx (gB pLen [(oEx (p2 dIx (oPl 0) (oEx (M.pure (.int 1)))))])), (oEx (gVar 2))]))))
 (sRet (gTup [(oEx (M.pure (.int 1))), (oEx (gVar 1))]))
 SR.nx) (enumD (S.mv.map dT)) [.fz S.d, .un, .un, .un] = .nx ρ' ∧ ∃ a b, ρ' = [.fz S.d, a, b, .un] :=
    forL_inv (I := fun _ ρ => ∃ a b, ρ = [.fz S.d, a, b, .un]) 0 (fun i ρ d hd hI => by
      obtain ⟨a, b, rfl⟩ := hI
      obtain ⟨x, hx, rfl⟩ := enumD_get hd
      rw [List.getElem?_map] at hx
      cases hy : S.mv[i]? with
      | none => rw [hy] at hx; cases hx
      | some y =>
        rw [hy] at hx
        cases hx
        obtain ⟨r1, r2⟩ := hrow y (List.mem_of_getElem? hy)
        have t1 : f_is_tuple [dn S.ev, dT y] = .ok (.bl true) := is_tuple_n (by simpa using r1)
        have t2 := is_row_n r2 (by omega)
        simp [t1, t2]) ⟨_, _, rfl⟩
  have l2 : ∀ a b, ∃ ρ', forL (.tp [(.nm 1), (.nm 3)]) (sIf (gNot (gL (gCall f_is_from [(oEx (M.pure (.int 0))), (oEx (gVar 3))])))
 (sRet (gTup [(oEx (M.pure (.int 2))), (oEx (gVar 1))]))
 SR.nx) (enumD (S.an.map dn)) [.fz S.d, a, b, .un] = .nx ρ' ∧ ∃ a c, ρ' = [.fz S.d, a, b, c] := fun a b =>
    forL_inv (I := fun _ ρ => ∃ a c, ρ = [.fz S.d, a, b, c]) 0 (fun i ρ d hd hI => by
      obtain ⟨a, c, rfl⟩ := hI
      obtain ⟨x, hx, rfl⟩ := enumD_get hd
      rw [List.getElem?_map] at hx
      cases hy : S.an[i]? with
      | none => rw [hy] at hx; cases hx
      | some y =>
        rw [hy] at hx
        cases hx
        simp [is_from_int]) ⟨_, _, rfl⟩
  obtain ⟨ρ1, e1, a, b, rfl⟩ := l1
  obtain ⟨ρ2, e2, c, d, rfl⟩ := l2 a b
  have t1 : f_is_tuple [.int 3, S.d] = .ok (.bl true) := is_tuple_n (n := 3) rfl
  have t2 : f_is_from [.int 1, dn S.ev] = .ok (.bl true) := by rw [is_from_int]; simp; omega
  have t3 : f_is_tuple [.int (S.mv.map dT).length, dT S.an] = .ok (.bl true) := is_tuple_n (by simpa using han)
  simp [f_summary_fault, mkF_ap, m_summary_fault, t1, t2, hne, e1, szL_le]
  simp at t3
  simp [t3, e2]
theorem check_summary_n {S : Sm} (h : S.Ok) : f_check_summary [S.d] = .ok .non := by
  simp [f_check_summary, mkF_ap, m_check_summary, summary_fault_n h]
theorem check_read_n {S : Sm} (h : S.Ok) {l : List Nat} (hl : LogOk S.ev l) : f_check_read [S.d, dT l] = .ok .non := by
  simp [f_check_read, mkF_ap, m_check_read, check_summary_n h, check_log_n hl.1]
/-! ### reading -/
def Sm.step (S : Sm) (s e : Nat) : Nat := ((S.mv[s]?.getD [])[e]?).getD 0
def Sm.led (S : Sm) (s : Nat) (l : List Nat) : Nat := l.foldl S.step s
def Sm.at_ (S : Sm) (s : Nat) : Nat := S.an[s]?.getD 0
def Sm.ans (S : Sm) (l : List Nat) : Nat := S.at_ (S.led 0 l)
theorem Sm.Ok.row_at {S : Sm} (h : S.Ok) {s e : Nat} (hs : s < S.mv.length) (he : e < S.ev) : ∃ r, S.mv[s]? = some r ∧ r[e]? = some (S.step s e) ∧ S.step s e < S.mv.length := by
  have h1 : S.mv[s]? = some S.mv[s] := List.getElem?_eq_getElem hs
  obtain ⟨r1, r2⟩ := h.row S.mv[s] (List.getElem_mem hs)
  have h2 : S.mv[s][e]? = some (S.mv[s][e]'(by omega)) := List.getElem?_eq_getElem (by omega)
  have h3 : S.step s e = S.mv[s][e]'(by omega) := by unfold Sm.step; rw [h1]; simp [h2]
  exact ⟨_, h1, by rw [h3]; exact h2, by rw [h3]; exact r2 _ (List.getElem_mem _)⟩
theorem Sm.led_lt {S : Sm} (h : S.Ok) : ∀ {l : List Nat} {s : Nat}, s < S.mv.length → (∀ x ∈ l, x < S.ev) → S.led s l < S.mv.length
  | [], s, hs, _ => hs
  | e :: l, s, hs, hl => by
    obtain ⟨_, _, _, h2⟩ := h.row_at hs (hl e (by simp))
    exact Sm.led_lt (l := l) (s := S.step s e) h h2 fun x hx => hl x (List.mem_cons_of_mem _ hx)
theorem Sm.at_get {S : Sm} (h : S.Ok) {s : Nat} (hs : s < S.mv.length) : S.an[s]? = some (S.at_ s) := by
  have : s < S.an.length := by rw [h.an]; exact hs
  unfold Sm.at_
  rw [List.getElem?_eq_getElem this]
  rfl
theorem Sm.Ok.pos {S : Sm} (h : S.Ok) : 0 < S.mv.length := by
  have := h.mv
  cases e : S.mv with
  | nil => exact absurd e this
  | cons _ _ => simp
/-- the loop of led -/
theorem led_loop {S : Sm} (h : S.Ok) {l : List Nat} {L : D} {c : Sl} : ∀ {k : List Nat} {s : Nat} {b : Sl}, s < S.mv.length → (∀ x ∈ k, x < S.ev) →
    ∃ b', forL (.nm 3) (sBind (p2 dIx (oEx (p2 dIx (oEx (p2 dIx (oPl 0) (oEx (M.pure (.int 1))))) (oPl 1))) (oPl 3)) (sSet 1)) (k.map dn) [.fz S.d, .fz (dn s), c, b] = .nx [.fz S.d, .fz (dn (S.led s k)), c, b']
  | [], s, b, _, _ => ⟨b, rfl⟩
  | e :: k, s, b, hs, hk => by
    obtain ⟨r, h1, h2, h3⟩ := h.row_at hs (hk e (by simp))
    obtain ⟨b', hb⟩ := led_loop (l := l) (L := L) h (k := k) (s := S.step s e) (b := .fz (dn e)) h3 fun x hx => hk x (List.mem_cons_of_mem _ hx)
    refine ⟨b', ?_⟩
    unfold forL
    simp only [List.map_cons]
    simp [atN, h1, h2]
    exact hb
theorem led_n {S : Sm} (h : S.Ok) {s : Nat} {l : List Nat} (hs : s < S.mv.length) (hl : ∀ x ∈ l, x < S.ev) : f_led [S.d, dn s, dT l] = .ok (dn (S.led s l)) := by
  obtain ⟨b, e⟩ := led_loop (l := l) (L := .non) (c := .fz (dT l)) h (k := l) (b := .un) hs hl
  simp [f_led, mkF_ap, m_led, e]
theorem law_led_n {S : Sm} (h : S.Ok) {s : Nat} {l : List Nat} (hs : s < S.mv.length) (hl : ∀ x ∈ l, x < S.ev) : f_law_led [S.d, dn s, dT l] = .ok (dn (S.led s l)) := led_n h hs hl
theorem answer_in_n {S : Sm} (h : S.Ok) {l : List Nat} (hl : ∀ x ∈ l, x < S.ev) : f_answer_in [S.d, dT l] = .ok (dn (S.ans l)) := by
  have e : f_led [S.d, .int 0, dT l] = .ok (dn (S.led 0 l)) := led_n h h.pos hl
  have e2 := Sm.at_get h (Sm.led_lt h h.pos hl)
  simp [f_answer_in, mkF_ap, m_answer_in, e, atN, e2, Sm.ans]
theorem law_answer_n {S : Sm} (h : S.Ok) {l : List Nat} (hl : ∀ x ∈ l, x < S.ev) : f_law_answer [S.d, dT l] = .ok (dn (S.ans l)) := by
  have e : f_law_led [S.d, .int 0, dT l] = .ok (dn (S.led 0 l)) := law_led_n h h.pos hl
  have e2 := Sm.at_get h (Sm.led_lt h h.pos hl)
  simp [f_law_answer, mkF_ap, m_law_answer, e, atN, e2, Sm.ans]
/-- the last n ahead of place k -/
def win (l : List Nat) (n k : Nat) : List Nat := (l.drop (k - n)).take (k - (k - n))
theorem win_mem {l : List Nat} {n k x : Nat} (h : x ∈ win l n k) : x ∈ l := List.mem_of_mem_drop (List.mem_of_mem_take h)
def Sm.wins (S : Sm) (l : List Nat) (n : Nat) : List Nat := (List.range (l.length + 1)).map fun k => S.ans (win l n k)
theorem cut_win {l : List Nat} {n k : Nat} (hk : k ≤ l.length) : cutA (l.map dn) (some (if n < k then (k : Int) - (n : Int) else 0)) (some (k : Int)) = (win l n k).map dn := by
  have e : (if n < k then (k : Int) - (n : Int) else 0) = ((k - n : Nat) : Int) := by split <;> omega
  rw [e, cutA_map, cutA_nat (by omega) hk]
  rfl
theorem rg_len {l : List Nat} (hl : l.length < 1000) : dRgI (.int ((l.length : Int) + 1)) = some ((List.range (l.length + 1)).map fun i => D.int (i : Nat)) := by
  have r := dRgI_nat (n := l.length + 1) (by omega)
  simp at r
  exact r
theorem window_answers_n {S : Sm} (h : S.Ok) {l : List Nat} (hl : LogOk S.ev l) {n : Nat} : f_window_answers [S.d, dT l, dn n] = .ok (dL (S.wins l n)) := by
  have e : ∀ ρ₀ : DL.Env, lcL ρ₀ [3] (.nm 3) gT (gCall f_answer_in [(oEx (gVar 0)), (oEx (gSl (oPl 1) (gPart (gB pMax2 [(oEx (M.pure (.int 0))), (oEx (p2 iSub (oPl 3) (oPl 2)))])) (gPart (gVar 3))))]) ((List.range (l.length + 1)).map fun i => D.int (i : Nat)) [] [.fz S.d, .fz (dT l), .fz (dn n), .un] = .ok (((List.range (l.length + 1)).map fun i => D.int (i : Nat)).map fun d => match d with | .int i => dn (S.ans (win l n i.toNat)) | _ => .non) (keepE ρ₀ [.fz S.d, .fz (dT l), .fz (dn n), .un] [3]) := fun ρ₀ => by
    rw [lcL_map (f := fun d => match d with | .int i => dn (S.ans (win l n i.toNat)) | _ => .non) (ρ := [.fz S.d, .fz (dT l), .fz (dn n), .un])]
    · simp
    · have := hl.2
      simp [zl]; omega
    · intro d hd
      obtain ⟨k, hk, rfl⟩ := List.mem_map.mp hd
      have hk : k ≤ l.length := by have := List.mem_range.mp hk; omega
      have a := answer_in_n h (l := win l n k) fun x hx => hl.1 x (win_mem hx)
      simp [cut_win hk, a]
  have r := rg_len hl.2
  simp [f_window_answers, mkO_ap, m_window_answers, check_read_n h hl, check_number_n, r, e]
  simp [Sm.wins, Function.comp_def]
theorem law_due_n {S : Sm} (h : S.Ok) {l : List Nat} (hl : LogOk S.ev l) {n : Nat} : f_law_due [S.d, dT l, dn n] = .ok (dL (S.wins l n)) := by
  have e : ∀ ρ₀ : DL.Env, lcL ρ₀ [3] (.nm 3) gT (gCall f_law_answer [(oEx (gVar 0)), (oEx (gSl (oPl 1) (gPart (gB pMax2 [(oEx (M.pure (.int 0))), (oEx (p2 iSub (oPl 3) (oPl 2)))])) (gPart (gVar 3))))]) ((List.range (l.length + 1)).map fun i => D.int (i : Nat)) [] [.fz S.d, .fz (dT l), .fz (dn n), .un] = .ok (((List.range (l.length + 1)).map fun i => D.int (i : Nat)).map fun d => match d with | .int i => dn (S.ans (win l n i.toNat)) | _ => .non) (keepE ρ₀ [.fz S.d, .fz (dT l), .fz (dn n), .un] [3]) := fun ρ₀ => by
    rw [lcL_map (f := fun d => match d with | .int i => dn (S.ans (win l n i.toNat)) | _ => .non) (ρ := [.fz S.d, .fz (dT l), .fz (dn n), .un])]
    · simp
    · have := hl.2
      simp [zl]; omega
    · intro d hd
      obtain ⟨k, hk, rfl⟩ := List.mem_map.mp hd
      have hk : k ≤ l.length := by have := List.mem_range.mp hk; omega
      have a := law_answer_n h (l := win l n k) fun x hx => hl.1 x (win_mem hx)
      simp [cut_win hk, a]
  have r := rg_len hl.2
  simp [f_law_due, mkO_ap, m_law_due, r, e]
  simp [Sm.wins, Function.comp_def]
/-! answers along a log -/
def Sm.along (S : Sm) : Nat → List Nat → List Nat
  | _, [] => []
  | s, e :: l => S.at_ (S.step s e) :: S.along (S.step s e) l
theorem along_loop {S : Sm} (h : S.Ok) {c : Sl} : ∀ {k : List Nat} {s : Nat} {b : Sl} {acc : List D}, s < S.mv.length → (∀ x ∈ k, x < S.ev) → acc.length + k.length < 10000 →
    ∃ s' b', forL (.nm 4) (sSeq (sBind (p2 dIx (oEx (p2 dIx (oEx (p2 dIx (oPl 0) (oEx (M.pure (.int 1))))) (oPl 2))) (oPl 4)) (sSet 2))
 (sExp (gMutL 3 mAppend [(oEx (p2 dIx (oEx (p2 dIx (oPl 0) (oEx (M.pure (.int 2))))) (oPl 2)))]))) (k.map dn) [.fz S.d, c, .fz (dn s), .op (.lst acc), b] = .nx [.fz S.d, c, .fz (dn s'), .op (.lst (acc ++ (S.along s k).map dn)), b']
  | [], s, b, acc, _, _, _ => ⟨s, b, by simp [forL, Sm.along]⟩
  | e :: k, s, b, acc, hs, hk, hz => by
    rw [List.length_cons] at hz
    obtain ⟨r, h1, h2, h3⟩ := h.row_at hs (hk e (by simp))
    obtain ⟨s', b', hb⟩ := along_loop h (c := c) (k := k) (s := S.step s e) (b := .fz (dn e)) (acc := acc ++ [dn (S.at_ (S.step s e))]) h3 (fun x hx => hk x (List.mem_cons_of_mem _ hx)) (by rw [List.length_append, List.length_singleton]; omega)
    refine ⟨s', b', ?_⟩
    unfold forL
    simp only [List.map_cons]
    have m : muR 3 mAppend [dn (S.at_ (S.step s e))] [.fz S.d, c, .fz (dn (S.step s e)), .op (.lst acc), .fz (dn e)] (some (.op (.lst acc))) = _ := muR_app (by rw [zl]; omega)
    simp [atN, h1, h2, Sm.at_get h h3, m]
    simp at hb
    rw [hb]
    simp [Sm.along]
theorem answers_along_n {S : Sm} (h : S.Ok) {l : List Nat} (hl : LogOk S.ev l) : f_answers_along [S.d, dT l] = .ok (dL (S.at_ 0 :: S.along 0 l)) := by
  obtain ⟨s', b', e⟩ := along_loop h (c := .fz (dT l)) (k := l) (s := 0) (b := .un) (acc := [dn (S.at_ 0)]) h.pos hl.1 (by have := hl.2; simp; omega)
  have z := Sm.at_get h h.pos
  simp [dn] at e
  simp [f_answers_along, mkO_ap, m_answers_along, check_read_n h hl, z, szL_le, dn, e]
end LK
namespace LK
open PySem L2 DL
/-! ### the law's own equality -/
theorem same_int {k : Nat} {i : Int} : f_law_same (k + 1) [.int i, .int i] = .ok (.bl true) := by
  simp [f_law_same, mkF_ap, m_law_same]
theorem same_lst {k : Nat} {ds : List D} (h : ∀ d ∈ ds, f_law_same k [d, d] = .ok (.bl true)) (hz : ds.length ≤ 1000000) : f_law_same (k + 1) [.lst ds, .lst ds] = .ok (.bl true) := by
  have r := dRgI_nat hz
  have e : ∀ ρ₀ : DL.Env, lcL ρ₀ [2] (.nm 2) gT (gCallS (f_law_same k) [(oEx (p2 dIx (oPl 0) (oPl 2))), (oEx (p2 dIx (oPl 1) (oPl 2)))]) ((List.range ds.length).map fun i => D.int (i : Nat)) [] [.fz (.lst ds), .fz (.lst ds), .un] = .ok (((List.range ds.length).map fun i => D.int (i : Nat)).map fun _ => .bl true) (keepE ρ₀ [.fz (.lst ds), .fz (.lst ds), .un] [2]) := fun ρ₀ => by
    rw [lcL_map (f := fun _ => .bl true) (ρ := [.fz (.lst ds), .fz (.lst ds), .un])]
    · simp
    · simp; omega
    · intro d hd
      obtain ⟨j, hj, rfl⟩ := List.mem_map.mp hd
      have hj := List.mem_range.mp hj
      have g : ds[j]? = some ds[j] := List.getElem?_eq_getElem hj
      have s := h ds[j] (List.getElem_mem hj)
      have p : ∀ ρ, ptR (some [ds[j], ds[j]]) (f_law_same k) ρ = .ok (.bl true) ρ := fun ρ => ptR_ok s rfl
      simp [atN, g, p]
  simp [f_law_same, mkF_ap, m_law_same, r, e]
  rw [pAll_true (by simp)]
  simp
theorem same_dL {k : Nat} {l : List Nat} (hz : l.length ≤ 1000000) : f_law_same (k + 2) [dL l, dL l] = .ok (.bl true) :=
  same_lst (fun d hd => by
    obtain ⟨x, _, rfl⟩ := List.mem_map.mp hd
    exact same_int) (by simpa using hz)
/-! ### the purse -/
/-- a purse of which at most n coins have been drawn -/
def Pu (n : Nat) (d : D) : Prop := ∃ a b c : Int, d = .lst [.int a, .int b, .int c] ∧ 0 ≤ a ∧ 0 ≤ b ∧ b < 10 ^ 25 ∧ 0 ≤ c ∧ c ≤ n
theorem Pu.mono {n m : Nat} {d : D} (h : Pu n d) (l : n ≤ m) : Pu m d := by
  obtain ⟨a, b, c, e, h1, h2, h3, h4, h5⟩ := h
  exact ⟨a, b, c, e, h1, h2, h3, h4, by omega⟩
theorem log2_le {i : Int} {k : Nat} (h0 : 0 ≤ i) (h : i < 2 ^ k) (hk : 0 < k) : i.natAbs.log2 < k := by
  refine PySem.Flt.log2_lt_of hk ?_
  have : (i.natAbs : Int) < ((2 ^ k : Nat) : Int) := by
    rw [Int.natAbs_of_nonneg h0]
    simpa using h
  exact_mod_cast this
theorem p_10_24 : iPow (.int 10) (.int 24) = some (.int 1000000000000000000000000) := (iPow_ii (by decide)).trans (congrArg some (congrArg D.int (by decide)))
theorem p_10_23 : iPow (.int 10) (.int 23) = some (.int 100000000000000000000000) := (iPow_ii (by decide)).trans (congrArg some (congrArg D.int (by decide)))
theorem p_10_21 : iPow (.int 10) (.int 21) = some (.int 1000000000000000000000) := (iPow_ii (by decide)).trans (congrArg some (congrArg D.int (by decide)))
theorem p_10_18 : iPow (.int 10) (.int 18) = some (.int 1000000000000000000) := (iPow_ii (by decide)).trans (congrArg some (congrArg D.int (by decide)))
theorem p_10_6 : iPow (.int 10) (.int 6) = some (.int 1000000) := (iPow_ii (by decide)).trans (congrArg some (congrArg D.int (by decide)))
theorem p_sq {i : Int} (h : i.natAbs.log2 < 1000000) : iPow (.int i) (.int 2) = some (.int (i ^ 2)) := iPow_ii ⟨by decide, by decide, h⟩
theorem ixN_30 : ixN 3 0 = some 0 := by decide
theorem ixN_32 : ixN 3 2 = some 2 := by decide
theorem coin_n {n : Nat} {p : D} {many : Int} (h : Pu n p) (hn : n ≤ 1000000000) (hm : 0 < many) (hm2 : many ≤ 1000000) : ∃ r p', f_law_coin p [.int many] = .ok (.int r, p') ∧ 0 ≤ r ∧ r < many ∧ Pu (n + 1) p' := by
  obtain ⟨a, b, c, rfl, ha, hb, hb2, hc, hc2⟩ := h
  by_cases h0 : 0 < a
  · refine ⟨a % many, .lst [.int (a / many), .int b, .int c], ?_, Int.emod_nonneg _ (by omega), Int.emod_lt_of_pos _ hm, _, _, _, rfl, Int.ediv_nonneg ha (by omega), hb, hb2, hc, by omega⟩
    have q := iMod_ii (i := a) hm
    have q2 := iDiv_ii (i := a) hm (Nat.lt_trans (log2_le (k := 20) (by omega) (by omega) (by decide)) (by decide))
    simp [f_law_coin, mkI_ap, m_law_coin, h0, q, q2, ixN_30]
  · have l1 : ∀ x, iMul (.int 15487469) (.int x) = some (.int (15487469 * x)) := fun x => iMul_l (by decide)
    have l2 : iPow (.int (b + 15487469 * (c + 1))) (.int 2) = some (.int ((b + 15487469 * (c + 1)) ^ 2)) := p_sq (by
      have := log2_le (i := b + 15487469 * (c + 1)) (k := 100) (by omega) (by omega) (by decide)
      omega)
    have l3 : ∀ x, iMul (.int 32452867) (.int x) = some (.int (32452867 * x)) := fun x => iMul_l (by decide)
    have l4 : ∀ x, iMul (.int 49979693) (.int x) = some (.int (49979693 * x)) := fun x => iMul_l (by decide)
    have m1 : ∀ x : Int, iMod (.int x) (.int 100000000000000000000117) = some (.int (x % 100000000000000000000117)) := fun x => iMod_ii (by decide)
    have m2 : ∀ x : Int, iMod (.int x) (.int 1000000000000000000117) = some (.int (x % 1000000000000000000117)) := fun x => iMod_ii (by decide)
    have m3 : ∀ x : Int, iMod (.int x) (.int many) = some (.int (x % many)) := fun x => iMod_ii hm
    have m4 : ∀ x : Int, iDiv (.int x) (.int 1000000) = some (.int (x / 1000000)) := fun x => iDiv_ii (by decide) (by decide +kernel)
    have l5 : ∀ x : Int, iPow (.int (x % 100000000000000000000117)) (.int 2) = some (.int ((x % 100000000000000000000117) ^ 2)) := fun x => p_sq (by
      have h1 := Int.emod_nonneg x (b := 100000000000000000000117) (by decide)
      have h2 := Int.emod_lt_of_pos x (b := 100000000000000000000117) (by decide)
      have := log2_le (i := x % 100000000000000000000117) (k := 100) h1 (by omega) (by decide)
      omega)
    obtain ⟨x, e⟩ : ∃ x : Int, f_law_coin (.lst [.int a, .int b, .int c]) [.int many] = .ok (.int (x % many), .lst [.int a, .int b, .int (c + 1)]) := by
      refine ⟨(((((b + 15487469 * (c + 1)) ^ 2 + 32452867 * (c + 1)) % 100000000000000000000117) ^ 2 + 49979693 * (c + 1)) % 1000000000000000000117) / 1000000, ?_⟩
      simp [f_law_coin, mkI_ap, m_law_coin, h0, l1, l2, l3, l4, l5, m1, m2, m3, m4, ixN_32, p_10_23, p_10_21, p_10_6]
    exact ⟨_, _, e, Int.emod_nonneg _ (by omega), Int.emod_lt_of_pos _ hm, _, _, _, rfl, ha, hb, hb2, by omega, by omega⟩
theorem coin_nat {n : Nat} {p : D} {many : Nat} (h : Pu n p) (hn : n ≤ 1000000000) (hm : 0 < many) (hm2 : many ≤ 1000000) : ∃ (r : Nat) (p' : D), f_law_coin p [dn many] = .ok (dn r, p') ∧ r < many ∧ Pu (n + 1) p' := by
  obtain ⟨r, p', e, h1, h2, h3⟩ := coin_n (many := (many : Int)) h hn (by omega) (by omega)
  refine ⟨r.toNat, p', ?_, by omega, h3⟩
  rw [e, dn, Int.toNat_of_nonneg h1]
theorem pick_n {n : Nat} {p : D} {xs : List D} (h : Pu n p) (hn : n ≤ 1000000000) (hx : xs ≠ []) (hz : xs.length ≤ 1000000) : ∃ (d : D) (p' : D), f_law_pick p [.tup xs] = .ok (d, p') ∧ f_law_pick p [.lst xs] = .ok (d, p') ∧ d ∈ xs ∧ Pu (n + 1) p' := by
  obtain ⟨r, p', e, h1, h2⟩ := coin_nat (many := xs.length) h hn (List.length_pos_iff.mpr hx) hz
  have g : xs[r]? = some xs[r] := List.getElem?_eq_getElem h1
  exact ⟨xs[r], p', by simp [f_law_pick, mkI_ap, m_law_pick, e, atN, g], by simp [f_law_pick, mkI_ap, m_law_pick, e, atN, g], List.getElem_mem h1, h2⟩
theorem log_n {n ev most : Nat} {p : D} (h : Pu n p) (hn : n + most ≤ 900000000) (he : 0 < ev) (he2 : ev ≤ 1000000) (hm : most < 900) : ∃ (l : List Nat) (p' : D), f_law_log p [dn ev, dn most] = .ok (dT l, p') ∧ LogOk ev l ∧ l.length ≤ most ∧ Pu (n + 1 + most) p' := by
  obtain ⟨r, p1, e1, h1, h2⟩ := coin_nat (many := most + 1) h (by omega) (by omega) (by omega)
  have q : dAdd (dn most) (.int 1) = some (dn (most + 1)) := by simp
  have rg := dRgI_nat (n := r) (by omega)
  obtain ⟨acc, ρ', e2, p2, l, rfl, rfl, h3, h4, h5⟩ := lcL_inv (ρ₀ := [.op p1, .fz (dn ev), .fz (dn most), .un]) (vs := [3]) (t := .nm 3) (gt := gT) (ge := gCallI f_law_coin 0 [(oEx (gVar 1))]) (ds := (List.range r).map fun i => D.int (i : Nat)) (acc := []) (ρ := [.op p1, .fz (dn ev), .fz (dn most), .un])
    (I := fun i acc ρ => ∃ (p2 : D) (l : List Nat), ρ = [.op p2, .fz (dn ev), .fz (dn most), .un] ∧ acc = l.map dn ∧ l.length = i ∧ (∀ x ∈ l, x < ev) ∧ Pu (n + 1 + i) p2) 0 (fun i acc ρ d hd hI => by
      obtain ⟨p2, l, rfl, rfl, h3, h4, h5⟩ := hI
      have hi : i < r := by simpa using (List.getElem?_eq_some_iff.mp hd).1
      obtain ⟨x, p3, e3, h6, h7⟩ := coin_nat (many := ev) h5 (by omega) he he2
      refine ⟨_, by simp; rfl, .inl ⟨_, dn x, [.op p3, .fz (dn ev), .fz (dn most), .fz d], by simp; rfl, by simp [e3], by simp; omega, p3, l ++ [x], by simp, by simp, by simp [h3], fun y hy => ?_, h7.mono (by omega)⟩⟩
      rcases List.mem_append.mp hy with hy | hy
      · exact h4 y hy
      · simp at hy; subst hy; exact h6) ⟨p1, [], rfl, rfl, rfl, by simp, h2⟩
  simp at h3
  refine ⟨l, p2, ?_, ⟨h4, by omega⟩, by omega, h5.mono (by simp; omega)⟩
  have e1' : f_law_coin p [.int ((most : Int) + 1)] = .ok (dn r, p1) := e1
  simp [f_law_log, mkI_ap, m_law_log, e1', rg, e2]
/-! ### comprehensions of small ints -/
theorem lc_ints {ρ₀ ρ : DL.Env} {vs : List Nat} {t : Tg} {ge : M D} {ds : List D} {bound : Nat} (hz : ds.length ≤ 1000000) (h : ∀ d ∈ ds, ∃ (ρ1 ρ3 : DL.Env) (z : Int), bindT t d ρ = some ρ1 ∧ ge ρ1 = .ok (.int z) ρ3 ∧ wipeE ρ3 vs = ρ ∧ 0 ≤ z ∧ z < bound) :
    ∃ c : List Nat, lcL ρ₀ vs t gT ge ds [] ρ = .ok (c.map dn) (keepE ρ₀ ρ vs) ∧ c.length = ds.length ∧ ∀ x ∈ c, x < bound := by
  obtain ⟨acc, ρ', e, rfl, c, rfl, h1, h2⟩ := lcL_inv (ρ₀ := ρ₀) (vs := vs) (t := t) (gt := gT) (ge := ge) (ds := ds) (acc := []) (ρ := ρ) (I := fun i acc ρ' => ρ' = ρ ∧ ∃ c : List Nat, acc = c.map dn ∧ c.length = i ∧ ∀ x ∈ c, x < bound) 0 (fun i acc ρ' d hd hI => by
    obtain ⟨rfl, c, rfl, h1, h2⟩ := hI
    obtain ⟨ρ1, ρ3, z, e1, e2, e3, h3, h4⟩ := h d (List.mem_of_getElem? hd)
    have hi := (List.getElem?_eq_some_iff.mp hd).1
    refine ⟨ρ1, e1, .inl ⟨ρ1, .int z, ρ3, by simp, e2, by simp; omega, e3, c ++ [z.toNat], ?_, by simp [h1], fun x hx => ?_⟩⟩
    · rw [List.map_append]
      simp [dn, Int.toNat_of_nonneg h3]
    · rcases List.mem_append.mp hx with hx | hx
      · exact h2 x hx
      · simp at hx; subst hx; omega) ⟨rfl, [], rfl, rfl, by simp⟩
  exact ⟨c, e, by simpa using h1, h2⟩
theorem lc_draws {ρ₀ ρ : DL.Env} {vs : List Nat} {t : Tg} {ge : M D} {ds : List D} {bound n B : Nat} {p : D} (hz : ds.length ≤ 1000000) (hp : Pu n p) (h : ∀ d ∈ ds, ∀ q m, Pu m q → m + B ≤ n + ds.length * B → ∃ (ρ1 ρ3 : DL.Env) (z : Int) (q' : D), bindT t d (.op q :: ρ) = some ρ1 ∧ ge ρ1 = .ok (.int z) ρ3 ∧ wipeE ρ3 vs = .op q' :: ρ ∧ 0 ≤ z ∧ z < bound ∧ Pu (m + B) q') :
    ∃ (c : List Nat) (q : D), lcL ρ₀ vs t gT ge ds [] (.op p :: ρ) = .ok (c.map dn) (keepE ρ₀ (.op q :: ρ) vs) ∧ c.length = ds.length ∧ (∀ x ∈ c, x < bound) ∧ Pu (n + ds.length * B) q := by
  obtain ⟨acc, ρ', e, q, rfl, hq, c, rfl, h1, h2⟩ := lcL_inv (ρ₀ := ρ₀) (vs := vs) (t := t) (gt := gT) (ge := ge) (ds := ds) (acc := []) (ρ := .op p :: ρ) (I := fun i acc ρ' => ∃ q, ρ' = .op q :: ρ ∧ Pu (n + i * B) q ∧ ∃ c : List Nat, acc = c.map dn ∧ c.length = i ∧ ∀ x ∈ c, x < bound) 0 (fun i acc ρ' d hd hI => by
    obtain ⟨q, rfl, hq, c, rfl, h1, h2⟩ := hI
    have hi := (List.getElem?_eq_some_iff.mp hd).1
    have hb : n + (0 + i) * B + B ≤ n + ds.length * B := by
      have : (0 + i + 1) * B ≤ ds.length * B := Nat.mul_le_mul_right B (by omega)
      rw [Nat.add_mul, Nat.one_mul] at this
      omega
    obtain ⟨ρ1, ρ3, z, q', e1, e2, e3, h3, h4, h5⟩ := h d (List.mem_of_getElem? hd) q _ hq hb
    refine ⟨ρ1, e1, .inl ⟨ρ1, .int z, ρ3, by simp, e2, by simp; omega, q', e3, ?_, c ++ [z.toNat], ?_, by simp [h1], fun x hx => ?_⟩⟩
    · rw [Nat.add_mul, Nat.one_mul, ← Nat.add_assoc]
      exact h5
    · rw [List.map_append]
      simp [dn, Int.toNat_of_nonneg h3]
    · rcases List.mem_append.mp hx with hx | hx
      · exact h2 x hx
      · simp at hx; subst hx; omega) ⟨p, rfl, by simpa using hp, [], rfl, rfl, by simp⟩
  exact ⟨c, q, e, by simpa using h1, h2, by simpa using hq⟩
theorem mem_rng {m : Nat} {d : D} (h : d ∈ (List.range m).map fun i => D.int (i : Nat)) : ∃ k, k < m ∧ d = .int (k : Nat) := by
  obtain ⟨k, hk, rfl⟩ := List.mem_map.mp h
  exact ⟨k, List.mem_range.mp hk, rfl⟩
theorem or4 : ∀ (k step : Nat), k < 4 → step < 4 → 0 ≤ Builtin.bitOr (k : Int) (step : Int) ∧ Builtin.bitOr (k : Int) (step : Int) < ((4 : Nat) : Int) := by
  intro k step hk hs
  have h : ∀ a b : Fin 4, 0 ≤ Builtin.bitOr ((a.val : Nat) : Int) ((b.val : Nat) : Int) ∧ Builtin.bitOr ((a.val : Nat) : Int) ((b.val : Nat) : Int) < ((4 : Nat) : Int) := by decide
  exact h ⟨k, hk⟩ ⟨step, hs⟩
theorem erase_map {α β : Type} (f : α → β) : ∀ (l : List α) (r : Nat), (l.map f).eraseIdx r = (l.eraseIdx r).map f
  | [], _ => by simp
  | a :: l, 0 => by simp
  | a :: l, r + 1 => by simp [erase_map f l r]
theorem pop_at {l : List Nat} {r : Nat} (h : r < l.length) (hz : l.length ≤ 1000000) : mPopAt (dL l) [dn r] = some (dn l[r], dL (l.eraseIdx r)) := by
  have h1 : -(2 ^ 63) ≤ (r : Int) ∧ (r : Int) < 2 ^ 63 := by omega
  have h2 : seqIndex? (r : Int) (l.map dn).length = some r := by
    refine (ixN_seq ?_).1
    unfold ixN
    simp [h]
  have h3 : (l.map dn)[r]? = some (dn l[r]) := by simp [h]
  simp only [mPopAt, if_pos h1, h2, h3]
  rw [erase_map]
/-! ### a column -/
def ColOk (many : Nat) (c : List Nat) : Prop := c.length = many ∧ ∀ x ∈ c, x < many
def WayOk (way many : Nat) : Prop := (way = 3 ∨ way = 4 → many = 4) ∧ (way = 9 → many = 6)
theorem column_n {n way many : Nat} {p : D} (h : Pu n p) (hn : n ≤ 900000000) (hm : 0 < many) (hm2 : many ≤ 90) (hw : WayOk way many) : ∃ (c : List Nat) (p' : D), f_law_column p [dn way, dn many] = .ok (dL c, p') ∧ ColOk many c ∧ Pu (n + 200) p' := by
  obtain ⟨step, p1, e1, s1, s2⟩ := coin_nat (many := many) h (by omega) hm (by omega)
  have rg := dRgI_nat (n := many) (by omega)
  have fin : ∀ {c : List Nat}, c.length = ((List.range many).map fun i => D.int (i : Nat)).length → (∀ x ∈ c, x < many) → ColOk many c := fun a b => ⟨by simpa using a, b⟩
  have md : ∀ x : Int, iMod (.int x) (.int many) = some (.int (x % many)) := fun x => iMod_ii (by omega)
  have m2 : ∀ x : Int, iMod (.int x) (.int 2) = some (.int (x % 2)) := fun x => iMod_ii (by decide)
  have m3 : ∀ x : Int, iMod (.int x) (.int 3) = some (.int (x % 3)) := fun x => iMod_ii (by decide)
  have d2 : ∀ x : Int, iDiv (.int x) (.int 2) = some (.int (x / 2)) := fun x => iDiv_ii (by decide) (by decide +kernel)
  have d3 : ∀ x : Int, iDiv (.int x) (.int 3) = some (.int (x / 3)) := fun x => iDiv_ii (by decide) (by decide +kernel)
  have t2 : ∀ x : Int, iMul (.int 2) (.int x) = some (.int (2 * x)) := fun x => iMul_l (by decide)
  have t3 : ∀ x : Int, iMul (.int 3) (.int x) = some (.int (3 * x)) := fun x => iMul_l (by decide)
  by_cases h1 : way = 1
  · subst h1
    obtain ⟨c, e2, c1, c2⟩ := lc_ints (ρ₀ := [.op p1, .fz (dn 1), .fz (dn many), .fz (dn step), .un, .un, .un, .un, .un, .un]) (ρ := [.op p1, .fz (dn 1), .fz (dn many), .fz (dn step), .un, .un, .un, .un, .un, .un]) (vs := [4]) (t := .nm 4) (ge := (p2 iMod (oEx (gB pInt [(oEx (p2 dAdd (oPl 4) (oPl 3)))])) (oPl 2))) (ds := (List.range many).map fun i => D.int (i : Nat)) (bound := many) (by simp; omega) (fun d hd => by
      obtain ⟨k, hk, rfl⟩ := mem_rng hd
      refine ⟨_, _, _, by simp; rfl, by simp [md]; exact ⟨rfl, rfl⟩, by simp, ?_, ?_⟩
      · exact Int.emod_nonneg _ (by omega)
      · exact Int.emod_lt_of_pos _ (by omega))
    exact ⟨c, p1, by simp [f_law_column, mkI_ap, m_law_column, e1, rg, e2], fin c1 c2, s2.mono (by omega)⟩
  by_cases h2 : way = 2
  · subst h2
    obtain ⟨c, e2, c1, c2⟩ := lc_ints (ρ₀ := [.op p1, .fz (dn 2), .fz (dn many), .fz (dn step), .un, .un, .un, .un, .un, .un]) (ρ := [.op p1, .fz (dn 2), .fz (dn many), .fz (dn step), .un, .un, .un, .un, .un, .un]) (vs := [4]) (t := .nm 4) (ge := (gB pMin2 [(oEx (p2 iSub (oPl 2) (oEx (M.pure (.int 1))))), (oEx (p2 dAdd (oPl 4) (oPl 3)))])) (ds := (List.range many).map fun i => D.int (i : Nat)) (bound := many) (by simp; omega) (fun d hd => by
      obtain ⟨k, hk, rfl⟩ := mem_rng hd
      refine ⟨_, _, _, by simp; rfl, by simp []; exact ⟨rfl, rfl⟩, by simp, ?_, ?_⟩
      · (repeat' split) <;> omega
      · (repeat' split) <;> omega)
    exact ⟨c, p1, by simp [f_law_column, mkI_ap, m_law_column, e1, rg, e2], fin c1 c2, s2.mono (by omega)⟩
  by_cases h3 : way = 3
  · subst h3
    have hm4 := hw.1 (by simp)
    subst hm4
    obtain ⟨c, e2, c1, c2⟩ := lc_ints (ρ₀ := [.op p1, .fz (dn 3), .fz (dn 4), .fz (dn step), .un, .un, .un, .un, .un, .un]) (ρ := [.op p1, .fz (dn 3), .fz (dn 4), .fz (dn step), .un, .un, .un, .un, .un, .un]) (vs := [4]) (t := .nm 4) (ge := (p2 iOr (oPl 4) (oPl 3))) (ds := (List.range 4).map fun i => D.int (i : Nat)) (bound := 4) (by simp) (fun d hd => by
      obtain ⟨k, hk, rfl⟩ := mem_rng hd
      refine ⟨_, _, _, by simp; rfl, by simp []; exact ⟨rfl, rfl⟩, by simp, ?_, ?_⟩
      · exact (or4 k step hk s1).1
      · exact (or4 k step hk s1).2)
    exact ⟨c, p1, by simp [f_law_column, mkI_ap, m_law_column, e1, rg, e2], fin c1 c2, s2.mono (by omega)⟩
  by_cases h4 : way = 4
  · subst h4
    have hm4 := hw.1 (by simp)
    subst hm4
    obtain ⟨c, e2, c1, c2⟩ := lc_ints (ρ₀ := [.op p1, .fz (dn 4), .fz (dn 4), .fz (dn step), .un, .un, .un, .un, .un, .un]) (ρ := [.op p1, .fz (dn 4), .fz (dn 4), .fz (dn step), .un, .un, .un, .un, .un, .un]) (vs := [4]) (t := .nm 4) (ge := (p2 dAdd (oEx (p2 iMod (oEx (gB pInt [(oEx (p2 dAdd (oEx (p2 iMod (oPl 4) (oEx (M.pure (.int 2))))) (oPl 3)))])) (oEx (M.pure (.int 2))))) (oEx (p2 iMul (oEx (M.pure (.int 2))) (oEx (gB pMax2 [(oEx (p2 iDiv (oPl 4) (oEx (M.pure (.int 2))))), (oEx (p2 iDiv (oPl 3) (oEx (M.pure (.int 2)))))])))))) (ds := (List.range 4).map fun i => D.int (i : Nat)) (bound := 4) (by simp) (fun d hd => by
      obtain ⟨k, hk, rfl⟩ := mem_rng hd
      refine ⟨_, _, _, by simp; rfl, by simp [m2, d2, t2]; exact ⟨rfl, rfl⟩, by simp, ?_, ?_⟩
      · (repeat' split) <;> omega
      · (repeat' split) <;> omega)
    exact ⟨c, p1, by simp [f_law_column, mkI_ap, m_law_column, e1, rg, e2], fin c1 c2, s2.mono (by omega)⟩
  by_cases h7 : way = 7
  · subst h7
    obtain ⟨c, e2, c1, c2⟩ := lc_ints (ρ₀ := [.op p1, .fz (dn 7), .fz (dn many), .fz (dn step), .un, .un, .un, .un, .un, .un]) (ρ := [.op p1, .fz (dn 7), .fz (dn many), .fz (dn step), .un, .un, .un, .un, .un, .un]) (vs := [4]) (t := .nm 4) (ge := (gB pMax2 [(oEx (M.pure (.int 0))), (oEx (gB pMin2 [(oEx (p2 iSub (oPl 2) (oEx (M.pure (.int 1))))), (oEx (p2 iSub (oEx (p2 dAdd (oPl 4) (oPl 3))) (oEx (p2 iDiv (oPl 2) (oEx (M.pure (.int 2)))))))]))])) (ds := (List.range many).map fun i => D.int (i : Nat)) (bound := many) (by simp; omega) (fun d hd => by
      obtain ⟨k, hk, rfl⟩ := mem_rng hd
      refine ⟨_, _, _, by simp; rfl, by simp [d2]; exact ⟨rfl, rfl⟩, by simp, ?_, ?_⟩
      · (repeat' split) <;> omega
      · (repeat' split) <;> omega)
    exact ⟨c, p1, by simp [f_law_column, mkI_ap, m_law_column, e1, rg, e2], fin c1 c2, s2.mono (by omega)⟩
  by_cases h8 : way = 8
  · subst h8
    obtain ⟨c, e2, c1, c2⟩ := lc_ints (ρ₀ := [.op p1, .fz (dn 8), .fz (dn many), .fz (dn step), .un, .un, .un, .un, .un, .un]) (ρ := [.op p1, .fz (dn 8), .fz (dn many), .fz (dn step), .un, .un, .un, .un, .un, .un]) (vs := [4]) (t := .nm 4) (ge := (gB pMax2 [(oPl 4), (oPl 3)])) (ds := (List.range many).map fun i => D.int (i : Nat)) (bound := many) (by simp; omega) (fun d hd => by
      obtain ⟨k, hk, rfl⟩ := mem_rng hd
      refine ⟨_, _, _, by simp; rfl, by simp []; exact ⟨rfl, rfl⟩, by simp, ?_, ?_⟩
      · (repeat' split) <;> omega
      · (repeat' split) <;> omega)
    exact ⟨c, p1, by simp [f_law_column, mkI_ap, m_law_column, e1, rg, e2], fin c1 c2, s2.mono (by omega)⟩
  by_cases h9 : way = 9
  · subst h9
    have hm6 := hw.2 rfl
    subst hm6
    have t9 : ∀ x : Int, iMul (.int ((step : Int) % 3)) (.int x) = some (.int ((step : Int) % 3 * x)) := fun x => iMul_l (by omega)
    obtain ⟨c, e2, c1, c2⟩ := lc_ints (ρ₀ := [.op p1, .fz (dn 9), .fz (dn 6), .fz (dn step), .un, .un, .un, .un, .fz (.int ((step : Int) % 3)), .fz (.int ((step : Int) / 3))]) (ρ := [.op p1, .fz (dn 9), .fz (dn 6), .fz (dn step), .un, .un, .un, .un, .fz (.int ((step : Int) % 3)), .fz (.int ((step : Int) / 3))]) (vs := [4]) (t := .nm 4) (ge := (p2 dAdd (oEx (p2 iMod (oEx (gB pInt [(oEx (p2 dAdd (oEx (p2 dAdd (oEx (p2 iMod (oPl 4) (oEx (M.pure (.int 3))))) (oEx (p2 iMul (oPl 8) (oEx (p2 iSub (oEx (M.pure (.int 1))) (oEx (p2 iMul (oEx (M.pure (.int 2))) (oEx (p2 iDiv (oPl 4) (oEx (M.pure (.int 3))))))))))))) (oEx (M.pure (.int 3)))))])) (oEx (M.pure (.int 3))))) (oEx (p2 iMul (oEx (M.pure (.int 3))) (oEx (p2 iMod (oEx (gB pInt [(oEx (p2 dAdd (oEx (p2 iDiv (oPl 4) (oEx (M.pure (.int 3))))) (oPl 9)))])) (oEx (M.pure (.int 2))))))))) (ds := (List.range 6).map fun i => D.int (i : Nat)) (bound := 6) (by simp) (fun d hd => by
      obtain ⟨k, hk, rfl⟩ := mem_rng hd
      refine ⟨_, _, _, by simp; rfl, by simp [m3, d3, t2, t3, m2, t9]; exact ⟨rfl, rfl⟩, by simp, ?_, ?_⟩
      · (repeat' split) <;> omega
      · (repeat' split) <;> omega)
    exact ⟨c, p1, by simp [f_law_column, mkI_ap, m_law_column, e1, rg, e2, m3, d3], fin c1 c2, s2.mono (by omega)⟩
  have hh : ∀ {k : Nat}, way ≠ k → ¬ ((way : Int) = (k : Int)) := fun h => by omega
  have n1 := hh h1
  have n2 := hh h2
  have n3 := hh h3
  have n4 := hh h4
  have n7 := hh h7
  have n8 := hh h8
  have n9 := hh h9
  simp at n1 n2 n3 n4 n7 n8 n9
  by_cases h5 : way = 5
  · subst h5
    obtain ⟨keep, pz, e5, k1, k2⟩ := coin_nat (many := 3) s2 (by omega) (by decide) (by decide)
    obtain ⟨c, e2, c1, c2⟩ := lc_ints (ρ₀ := [.op pz, .fz (dn 5), .fz (dn many), .fz (dn step), .un, .fz (dn keep), .un, .un, .un, .un]) (ρ := [.op pz, .fz (dn 5), .fz (dn many), .fz (dn step), .un, .fz (dn keep), .un, .un, .un, .un]) (vs := [4]) (t := .nm 4) (ge := gIf (p2 dEq (oPl 5) (oEx (M.pure (.int 0)))) (gVar 4) (gVar 3)) (ds := (List.range many).map fun i => D.int (i : Nat)) (bound := many) (by simp; omega) (fun d hd => by
      obtain ⟨k, hk, rfl⟩ := mem_rng hd
      by_cases h0 : keep = 0
      · subst h0
        exact ⟨_, _, k, by simp; rfl, by simp; rfl, by simp, by omega, by omega⟩
      · exact ⟨_, _, step, by simp; rfl, by simp [h0]; rfl, by simp, by omega, by omega⟩)
    have e5' : f_law_coin p1 [.int 3] = .ok (dn keep, pz) := e5
    exact ⟨c, pz, by simp [f_law_column, mkI_ap, m_law_column, e1, rg, e5', e2], fin c1 c2, k2.mono (by omega)⟩
  have n5 := hh h5
  simp at n5
  by_cases h6 : way = 6
  · subst h6
    have rg1 := dRg1_nat (n := many) (by simp; omega)
    obtain ⟨ρ', e2, pz, a4, l, f, rfl, l1, f1, l2, f2, l3⟩ := forL_inv (t := .nm 4) (s := sExp (gMutL 7 mAppend [(oEx (gMutL 6 mPopAt [(oEx (gCallI f_law_coin 0 [(oEx (gB pLen [(oPl 6)]))]))]))])) (ds := (List.range many).map fun i => D.int (i : Nat)) (ρ := [.op p1, .fz (dn 6), .fz (dn many), .fz (dn step), .un, .un, .op (.lst ((List.range many).map fun i => D.int (i : Nat))), .op (.lst []), .un, .un])
      (I := fun i ρ => ∃ pz a4 l f, ρ = [.op pz, .fz (dn 6), .fz (dn many), .fz (dn step), a4, .un, .op (dL l), .op (dL f), .un, .un] ∧ l.length + i = many ∧ f.length = i ∧ (∀ x ∈ l, x < many) ∧ (∀ x ∈ f, x < many) ∧ Pu (n + 1 + i) pz) 0 (fun i ρ d hd hI => by
        obtain ⟨pz, a4, l, f, rfl, l1, f1, l2, f2, l3⟩ := hI
        have hi : i < many := by simpa using (List.getElem?_eq_some_iff.mp hd).1
        obtain ⟨r, p3, e3, r1, r2⟩ := coin_nat (many := l.length) l3 (by omega) (by omega) (by omega)
        have g : l[r]? = some l[r] := List.getElem?_eq_getElem r1
        have pop : mPopAt (dL l) [dn r] = some (dn l[r], dL (l.eraseIdx r)) := pop_at r1 (by omega)
        have m1 := fun ρ => muR_of (i := 6) (ρ := ρ) pop
        have m2 := fun ρ => muR_app (i := 7) (d := dn l[r]) (ρ := ρ) (xs := f.map dn) (by simp; omega)
        refine ⟨_, _, by simp; rfl, .inl (by simp [e3, m1, m2]; rfl), p3, .fz d, l.eraseIdx r, f ++ [l[r]], by simp, ?_, by simp [f1], fun x hx => l2 x (List.mem_of_mem_eraseIdx hx), fun x hx => ?_, r2.mono (by omega)⟩
        · rw [List.length_eraseIdx]
          split <;> omega
        · rcases List.mem_append.mp hx with hx | hx
          · exact f2 x hx
          · simp at hx; subst hx; exact l2 _ (List.getElem_mem r1)) ⟨p1, .un, List.range many, [], by simp, by simp, rfl, by simp, by simp, s2⟩
    simp at l1 f1
    exact ⟨f, pz, by simp [f_law_column, mkI_ap, m_law_column, e1, rg, rg1, szL_le, e2], ⟨f1, f2⟩, l3.mono (by simp; omega)⟩
  have n6 := hh h6
  simp at n6
  obtain ⟨c, q, e2, c1, c2, c3⟩ := lc_draws (ρ₀ := [.op p1, .fz (dn way), .fz (dn many), .fz (dn step), .un, .un, .un, .un, .un, .un]) (ρ := [.fz (dn way), .fz (dn many), .fz (dn step), .un, .un, .un, .un, .un, .un]) (vs := [4]) (t := .nm 4) (ge := gCallI f_law_coin 0 [(oEx (gVar 2))]) (ds := (List.range many).map fun i => D.int (i : Nat)) (bound := many) (B := 1) (by simp; omega) s2 (fun d hd q m hq hb => by
    simp at hb
    obtain ⟨r, p3, e3, r1, r2⟩ := coin_nat (many := many) hq (by omega) hm (by omega)
    exact ⟨_, _, r, p3, by simp; rfl, by simp [e3]; rfl, by simp, by omega, by omega, r2⟩)
  simp at c3
  exact ⟨c, q, by simp [f_law_column, mkI_ap, m_law_column, e1, rg, n1, n2, n3, n4, n5, n6, n7, n8, n9, e2], fin c1 c2, c3.mono (by omega)⟩
end LK
namespace LK
open PySem L2 DL
theorem lc_drawsG {α : Type} {enc : α → D} {ok : α → Prop} {ρ₀ ρ : DL.Env} {vs : List Nat} {t : Tg} {ge : M D} {ds : List D} {n B : Nat} {p : D} (hz : ds.length ≤ 1000000) (hp : Pu n p) (h : ∀ d ∈ ds, ∀ q m, Pu m q → m + B ≤ n + ds.length * B → ∃ (ρ1 ρ3 : DL.Env) (z : α) (q' : D), bindT t d (.op q :: ρ) = some ρ1 ∧ ge ρ1 = .ok (enc z) ρ3 ∧ wipeE ρ3 vs = .op q' :: ρ ∧ ok z ∧ Pu (m + B) q') :
    ∃ (c : List α) (q : D), lcL ρ₀ vs t gT ge ds [] (.op p :: ρ) = .ok (c.map enc) (keepE ρ₀ (.op q :: ρ) vs) ∧ c.length = ds.length ∧ (∀ x ∈ c, ok x) ∧ Pu (n + ds.length * B) q := by
  obtain ⟨acc, ρ', e, q, rfl, hq, c, rfl, h1, h2⟩ := lcL_inv (ρ₀ := ρ₀) (vs := vs) (t := t) (gt := gT) (ge := ge) (ds := ds) (acc := []) (ρ := .op p :: ρ) (I := fun i acc ρ' => ∃ q, ρ' = .op q :: ρ ∧ Pu (n + i * B) q ∧ ∃ c : List α, acc = c.map enc ∧ c.length = i ∧ ∀ x ∈ c, ok x) 0 (fun i acc ρ' d hd hI => by
    obtain ⟨q, rfl, hq, c, rfl, h1, h2⟩ := hI
    have hi := (List.getElem?_eq_some_iff.mp hd).1
    have hb : n + (0 + i) * B + B ≤ n + ds.length * B := by
      have : (0 + i + 1) * B ≤ ds.length * B := Nat.mul_le_mul_right B (by omega)
      rw [Nat.add_mul, Nat.one_mul] at this
      omega
    obtain ⟨ρ1, ρ3, z, q', e1, e2, e3, h3, h5⟩ := h d (List.mem_of_getElem? hd) q _ hq hb
    refine ⟨ρ1, e1, .inl ⟨ρ1, enc z, ρ3, by simp, e2, by simp; omega, q', e3, ?_, c ++ [z], by simp, by simp [h1], fun x hx => ?_⟩⟩
    · rw [Nat.add_mul, Nat.one_mul, ← Nat.add_assoc]
      exact h5
    · rcases List.mem_append.mp hx with hx | hx
      · exact h2 x hx
      · simp at hx; subst hx; exact h3) ⟨p, rfl, by simpa using hp, [], rfl, rfl, by simp⟩
  exact ⟨c, q, e, by simpa using h1, h2, by simpa using hq⟩
/-! ### a drawn summary -/
theorem lc_nats {ρ₀ ρ : DL.Env} {vs : List Nat} {t : Tg} {ge : M D} {ds : List D} {f : D → D} (hz : ds.length ≤ 1000000) (h : ∀ d ∈ ds, ∃ ρ1 ρ3, bindT t d ρ = some ρ1 ∧ ge ρ1 = .ok (f d) ρ3 ∧ wipeE ρ3 vs = ρ) : lcL ρ₀ vs t gT ge ds [] ρ = .ok (ds.map f) (keepE ρ₀ ρ vs) := by
  rw [lcL_map (f := f) (ρ := ρ) (by simp; omega) h]
  simp
def t_any : SM :=
 (sSeq (sBind (gComp [5] (gRead1 dRgI (oPl 2)) (.nm 5) gT (gCallI f_law_column 0 [(oEx (gVar 3)), (oEx (gVar 4))])) (sSetO 6))
 (sSeq (sBind (gCallI f_law_coin 0 [(oEx (M.pure (.int 3)))]) (sSet 7))
 (sSeq (sBind (gB pTuple [(oEx (gComp [8] (gRead1 dRgI (oPl 4)) (.nm 8) gT (gIf (p2 cGt (oPl 7) (oEx (M.pure (.int 0)))) (gVar 8) (gCallI f_law_coin 0 [(oEx (M.pure (.int 3)))]))))]) (sSet 9))
 (sRet (gTup [(oEx (gVar 2)), (oEx (gB pTuple [(oEx (gComp [8] (gRead1 dRgI (oPl 4)) (.nm 8) gT (gB pTuple [(oEx (gComp [10] (gU' dItems (gVar 6)) (.nm 10) gT (p2 dIx (oPl 10) (oPl 8))))])))])), (oEx (gVar 9))])))))
theorem m_law_any_eq : m_law_any = (sSeq (sPar [.fz (p2 dAdd (oEx (M.pure (.int 1))) (oEx (gCallI f_law_coin 0 [(oEx (M.pure (.int 3)))]))), .fz (gCallI f_law_coin 0 [(oEx (M.pure (.int 12)))]), .fz (p2 dAdd (oEx (M.pure (.int 1))) (oEx (gCallI f_law_coin 0 [(oEx (gVar 1))])))] [2, 3, 4]) (sSeq (sIf (gOr (p2 dEq (oPl 3) (oEx (M.pure (.int 3)))) (p2 dEq (oPl 3) (oEx (M.pure (.int 4)))))
 (sBind (M.pure (.int 4)) (sSet 4))
 SR.nx) (sSeq (sIf (p2 dEq (oPl 3) (oEx (M.pure (.int 9))))
 (sBind (M.pure (.int 6)) (sSet 4))
 SR.nx) t_any))) := rfl
theorem t_any_n {n most ev way many : Nat} {p : D} (h : Pu n p) (hn : n ≤ 850000000) (he : 0 < ev) (he2 : ev ≤ 3) (hm : 0 < many) (hm2 : many ≤ 90) (hw : WayOk way many) :
    ∃ (S : Sm) (p' : D) (ρ' : DL.Env), t_any [.op p, .fz (dn most), .fz (dn ev), .fz (dn way), .fz (dn many), .un, .un, .un, .un, .un, .un] = .ret S.d (.op p' :: ρ') ∧ S.Ok ∧ S.ev = ev ∧ S.mv.length = many ∧ Pu (n + 1000) p' := by
  have rge := dRgI_nat (n := ev) (by omega)
  have rgm := dRgI_nat (n := many) (by omega)
  obtain ⟨cs, p1, e1, c1, c2, c3⟩ := lc_drawsG (enc := dL) (ok := ColOk many) (ρ₀ := [.op p, .fz (dn most), .fz (dn ev), .fz (dn way), .fz (dn many), .un, .un, .un, .un, .un, .un]) (ρ := [.fz (dn most), .fz (dn ev), .fz (dn way), .fz (dn many), .un, .un, .un, .un, .un, .un]) (vs := [5]) (t := .nm 5) (ge := gCallI f_law_column 0 [(oEx (gVar 3)), (oEx (gVar 4))]) (ds := (List.range ev).map fun i => D.int (i : Nat)) (B := 200) (by simp; omega) h (fun d hd q m hq hb => by
    simp at hb
    obtain ⟨c, q', e, k1, k2⟩ := column_n hq (by omega) hm hm2 hw
    exact ⟨_, _, c, q', by simp; rfl, by simp [e]; rfl, by simp, k1, k2⟩)
  simp at c1 c3
  obtain ⟨plain, p2, e2, d1, d2⟩ := coin_nat (many := 3) c3 (by omega) (by decide) (by decide)
  have e2' : f_law_coin p1 [.int 3] = .ok (dn plain, p2) := e2
  obtain ⟨an, p3, e3, a1, a2, a3⟩ := lc_draws (ρ₀ := [.op p2, .fz (dn most), .fz (dn ev), .fz (dn way), .fz (dn many), .un, .op (.lst (cs.map dL)), .fz (dn plain), .un, .un, .un]) (ρ := [.fz (dn most), .fz (dn ev), .fz (dn way), .fz (dn many), .un, .op (.lst (cs.map dL)), .fz (dn plain), .un, .un, .un]) (vs := [8]) (t := .nm 8) (ge := gIf (_root_.DL.p2 cGt (oPl 7) (oEx (M.pure (.int 0)))) (gVar 8) (gCallI f_law_coin 0 [(oEx (M.pure (.int 3)))])) (ds := (List.range many).map fun i => D.int (i : Nat)) (bound := 100) (B := 1) (by simp; omega) d2 (fun d hd q m hq hb => by
    simp at hb
    obtain ⟨k, hk, rfl⟩ := mem_rng hd
    by_cases hp : 0 < plain
    · exact ⟨_, _, k, q, by simp; rfl, by simp [hp]; rfl, by simp, by omega, by omega, hq.mono (by omega)⟩
    · obtain ⟨r, q', e, k1, k2⟩ := coin_nat (many := 3) hq (by omega) (by decide) (by decide)
      have e' : f_law_coin q [.int 3] = .ok (dn r, q') := e
      exact ⟨_, _, r, q', by simp; rfl, by simp [hp, e']; rfl, by simp, by omega, by omega, k2⟩)
  simp at a1 a3
  have colget : ∀ c ∈ cs, ∀ k, k < many → ∃ x, c[k]? = some x ∧ x < many := fun c hc k hk => by
    obtain ⟨l1, l2⟩ := c2 c hc
    exact ⟨c[k]'(by omega), List.getElem?_eq_getElem (by omega), l2 _ (List.getElem_mem _)⟩
  let row := fun k : Nat => cs.map fun c => c[k]?.getD 0
  let S : Sm := ⟨ev, (List.range many).map row, an⟩
  let E := fun ρ : DL.Env => ∃ s6 : Sl, (s6 = .op (.lst (cs.map dL)) ∨ s6 = .fz (.lst (cs.map dL))) ∧ ρ = [.op p3, .fz (dn most), .fz (dn ev), .fz (dn way), .fz (dn many), .un, s6, .fz (dn plain), .un, .fz (dT an), .un]
  obtain ⟨ρ5, e5, s6, hs6, rfl⟩ := lcL_mapE (E := E) (ρ₀ := [.op p3, .fz (dn most), .fz (dn ev), .fz (dn way), .fz (dn many), .un, .op (.lst (cs.map dL)), .fz (dn plain), .un, .fz (dT an), .un]) (vs := [8]) (t := .nm 8) (ge := gB pTuple [(oEx (gComp [10] (gU' dItems (gVar 6)) (.nm 10) gT (_root_.DL.p2 dIx (oPl 10) (oPl 8))))]) (ds := (List.range many).map fun i => D.int (i : Nat)) (acc := []) (f := fun d => match d with | .int i => dT (row i.toNat) | _ => .non) (ρ := [.op p3, .fz (dn most), .fz (dn ev), .fz (dn way), .fz (dn many), .un, .op (.lst (cs.map dL)), .fz (dn plain), .un, .fz (dT an), .un]) (by simp; omega) (fun d hd ρ hE => by
    obtain ⟨s6, hs6, rfl⟩ := hE
    obtain ⟨k, hk, rfl⟩ := mem_rng hd
    have inner : ∀ ρ₀ : DL.Env, lcL ρ₀ [10] (.nm 10) gT (_root_.DL.p2 dIx (oPl 10) (oPl 8)) (cs.map dL) [] [.op p3, .fz (dn most), .fz (dn ev), .fz (dn way), .fz (dn many), .un, .fz (.lst (cs.map dL)), .fz (dn plain), .fz (.int (k : Nat)), .fz (dT an), .un] = .ok ((cs.map dL).map fun d => match d with | .lst l => (l[k]?).getD .non | _ => .non) (keepE ρ₀ [.op p3, .fz (dn most), .fz (dn ev), .fz (dn way), .fz (dn many), .un, .fz (.lst (cs.map dL)), .fz (dn plain), .fz (.int (k : Nat)), .fz (dT an), .un] [10]) := fun ρ₀ => by
      rw [lc_nats (f := fun d => match d with | .lst l => (l[k]?).getD .non | _ => .non)]
      · simp; omega
      · intro d hd
        obtain ⟨c, hc, rfl⟩ := List.mem_map.mp hd
        obtain ⟨x, hx, _⟩ := colget c hc k hk
        exact ⟨_, _, by simp; rfl, by simp [atN, hx]; rfl, by simp⟩
    have mapE : ((cs.map dL).map fun d => match d with | .lst l => (l[k]?).getD .non | _ => .non) = (row k).map dn := by
      simp only [row, List.map_map]
      refine List.map_congr_left fun c hc => ?_
      obtain ⟨x, hx, _⟩ := colget c hc k hk
      simp [hx]
    rw [mapE] at inner
    rcases hs6 with rfl | rfl
    · exact ⟨_, [.op p3, .fz (dn most), .fz (dn ev), .fz (dn way), .fz (dn many), .un, .fz (.lst (cs.map dL)), .fz (dn plain), .fz (.int (k : Nat)), .fz (dT an), .un], by simp; rfl, by simp [inner], _, .inr rfl, by simp⟩
    · exact ⟨_, [.op p3, .fz (dn most), .fz (dn ev), .fz (dn way), .fz (dn many), .un, .fz (.lst (cs.map dL)), .fz (dn plain), .fz (.int (k : Nat)), .fz (dT an), .un], by simp; rfl, by simp [inner], _, .inr rfl, by simp⟩) ⟨_, .inl rfl, rfl⟩
  refine ⟨S, p3, [.fz (dn most), .fz (dn ev), .fz (dn way), .fz (dn many), .un, s6, .fz (dn plain), .un, .fz (dT an), .un], ?_, ⟨he, ?_, fun r hr => ?_, ?_, ?_⟩, rfl, by simp [S], a3.mono (by omega)⟩
  · have z : ∀ a b c : D, szL [a, b, c] = some [a, b, c] := fun a b c => szL_le (by simp)
    simp [t_any, rge, rgm, e1, e2', e3, e5, z]
    refine ⟨rfl, ?_, rfl⟩
    simp [S, Function.comp_def]
  · intro e
    have := congrArg List.length e
    simp [S] at this
    omega
  · obtain ⟨k, hk, rfl⟩ := List.mem_map.mp hr
    have hk := List.mem_range.mp hk
    refine ⟨by simp [row, S, c1], fun x hx => ?_⟩
    obtain ⟨c, hc, rfl⟩ := List.mem_map.mp hx
    obtain ⟨y, hy, hy2⟩ := colget c hc k hk
    simp [hy, S]
    exact hy2
  · simp [S, a1]
  · simp [S]
    omega
theorem any_n {n most : Nat} {p : D} (h : Pu n p) (hn : n ≤ 800000000) (hm : 0 < most) (hm2 : most ≤ 80) : ∃ (S : Sm) (p' : D), f_law_any p [dn most] = .ok (S.d, p') ∧ S.Ok ∧ S.ev ≤ 3 ∧ S.mv.length ≤ most + 6 ∧ Pu (n + 2000) p' := by
  obtain ⟨e0, p1, q1, a1, b1⟩ := coin_nat (many := 3) h (by omega) (by decide) (by decide)
  obtain ⟨way, p2, q2, a2, b2⟩ := coin_nat (many := 12) b1 (by omega) (by decide) (by decide)
  obtain ⟨m0, p3, q3, a3, b3⟩ := coin_nat (many := most) b2 (by omega) hm (by omega)
  have q1' : f_law_coin p [.int 3] = .ok (dn e0, p1) := q1
  have q2' : f_law_coin p1 [.int 12] = .ok (dn way, p2) := q2
  obtain ⟨many, hmany, hw, hm0, hm1⟩ : ∃ many : Nat, ((way = 9 ∧ many = 6) ∨ (way ≠ 9 ∧ (way = 3 ∨ way = 4) ∧ many = 4) ∨ (way ≠ 9 ∧ ¬ (way = 3 ∨ way = 4) ∧ many = 1 + m0)) ∧ WayOk way many ∧ 0 < many ∧ many ≤ most + 6 := by
    by_cases h9 : way = 9
    · exact ⟨6, .inl ⟨h9, rfl⟩, ⟨by omega, by omega⟩, by omega, by omega⟩
    · by_cases h34 : way = 3 ∨ way = 4
      · exact ⟨4, .inr (.inl ⟨h9, h34, rfl⟩), ⟨by omega, by omega⟩, by omega, by omega⟩
      · exact ⟨1 + m0, .inr (.inr ⟨h9, h34, rfl⟩), ⟨by omega, by omega⟩, by omega, by omega⟩
  obtain ⟨S, p4, ρ', e, k1, k2, k3, k4⟩ := t_any_n (most := most) (ev := 1 + e0) (way := way) (many := many) b3 (by omega) (by omega) (by omega) hm0 (by omega) hw
  refine ⟨S, p4, ?_, k1, by omega, by omega, k4.mono (by omega)⟩
  have e' : t_any [.op p3, .fz (dn most), .fz (.int (1 + (e0 : Int))), .fz (dn way), .fz (dn many), .un, .un, .un, .un, .un, .un] = .ret S.d (.op p4 :: ρ') := by
    rw [← e]
    simp [dn]
  rcases hmany with ⟨rfl, rfl⟩ | ⟨h9, h34, rfl⟩ | ⟨h9, h34, rfl⟩
  · have e'' : t_any [.op p3, .fz (dn most), .fz (.int (1 + (e0 : Int))), .fz (dn 9), .fz (.int 6), .un, .un, .un, .un, .un, .un] = .ret S.d (.op p4 :: ρ') := e'
    simp [f_law_any, mkI_ap, m_law_any_eq, q1', q2', q3, e'']
  · have e'' : t_any [.op p3, .fz (dn most), .fz (.int (1 + (e0 : Int))), .fz (dn way), .fz (.int 4), .un, .un, .un, .un, .un, .un] = .ret S.d (.op p4 :: ρ') := e'
    rcases h34 with rfl | rfl <;> simp [f_law_any, mkI_ap, m_law_any_eq, q1', q2', q3, e'']
  · have h1 : ¬ ((way : Int) = 9) := by omega
    have h2 : ¬ ((way : Int) = 3) := by omega
    have h3 : ¬ ((way : Int) = 4) := by omega
    have e'' : t_any [.op p3, .fz (dn most), .fz (.int (1 + (e0 : Int))), .fz (dn way), .fz (.int (1 + (m0 : Int))), .un, .un, .un, .un, .un, .un] = .ret S.d (.op p4 :: ρ') := by
      rw [← e']
      simp [dn]
    simp [f_law_any, mkI_ap, m_law_any_eq, q1', q2', q3, h1, h2, h3, e'']
end LK
namespace LK
open PySem L2 DL
theorem ints_dn : ∀ {l : List Nat}, D.ints (l.map dn) = some (l.map Int.ofNat)
  | [] => rfl
  | x :: l => by
    rw [List.map_cons, List.map_cons, D.ints, ints_dn (l := l)]
    rfl
theorem lenSet_n {l : List Nat} (hz : l.length ≤ 4000) : ∃ k : Int, pLenSet (.tup (l.map dn)) = some (.int k) := by
  refine ⟨(((l.map Int.ofNat).eraseDups.length : Nat) : Int), ?_⟩
  simp only [pLenSet, ints_dn, List.length_map, if_pos hz]
theorem summary_n {n most : Nat} {p : D} (h : Pu n p) (hn : n ≤ 700000000) (hm : 0 < most) (hm2 : most ≤ 80) : ∃ (S : Sm) (p' : D), f_law_summary p [dn most] = .ok (S.d, p') ∧ S.Ok ∧ S.ev ≤ 3 ∧ S.mv.length ≤ most + 6 ∧ Pu (n + 8000) p' := by
  obtain ⟨S, p1, e1, a1, a2, a3, a4⟩ := any_n h (by omega) hm hm2
  have rg : dRgI (.int 2) = some ((List.range 2).map fun i => D.int (i : Nat)) := dRgI_nat (n := 2) (by decide)
  obtain ⟨ρ', e2, q, S2, t, rfl, b1, b2, b3, b4⟩ := forL_inv (t := .nm 3) (s := (sIf (gOr (p2 dEq (oEx (gU pLenSet (oEx (p2 dAdd (oEx (p2 dIx (oEx (p2 dIx (oPl 2) (oEx (M.pure (.int 1))))) (oEx (M.pure (.int 0))))) (oEx (gTup [(oEx (M.pure (.int 0)))])))))) (oEx (M.pure (.int 1)))) (p2 dEq (oEx (gU pLenSet (oEx (p2 dIx (oPl 2) (oEx (M.pure (.int 2))))))) (oEx (M.pure (.int 1)))))
 (sBind (gCallI f_law_any 0 [(oEx (gVar 1))]) (sSet 2))
 SR.nx)) (ds := (List.range 2).map fun i => D.int (i : Nat)) (ρ := [.op p1, .fz (dn most), .fz S.d, .un]) (I := fun i ρ => ∃ q S t, ρ = [.op q, .fz (dn most), .fz (Sm.d S), t] ∧ S.Ok ∧ S.ev ≤ 3 ∧ S.mv.length ≤ most + 6 ∧ Pu (n + 2000 * (i + 1)) q) 0 (fun i ρ d hd hI => by
    obtain ⟨q, S, t, rfl, b1, b2, b3, b4⟩ := hI
    have hi : i < 2 := by simpa using (List.getElem?_eq_some_iff.mp hd).1
    have hpos := b1.pos
    have g0 : S.mv[0]? = some S.mv[0] := List.getElem?_eq_getElem hpos
    obtain ⟨r1, r2⟩ := b1.row S.mv[0] (List.getElem_mem hpos)
    obtain ⟨k1, hk1⟩ := lenSet_n (l := S.mv[0] ++ [0]) (by simp; omega)
    generalize hT : D.tup ((S.mv[0] ++ [0]).map dn) = T at hk1
    obtain ⟨k2, hk2⟩ := lenSet_n (l := S.an) (by have := b1.an; have := b1.small; omega)
    have ad : dAdd (dT S.mv[0]) (.tup [.int 0]) = some T := by
      rw [← hT]
      rw [dAdd_tt (by simp; have := b1.small; omega)]
      simp
    have z : szL [D.int 0] = some [D.int 0] := szL_le (by simp)
    obtain ⟨S2, q2, e3, c1, c2, c3, c4⟩ := any_n b4 (by omega) hm hm2
    by_cases hb : k1 = 1 ∨ k2 = 1
    · refine ⟨_, [.op q2, .fz (dn most), .fz S2.d, .fz d], by simp; rfl, .inl ?_, q2, S2, .fz d, rfl, c1, c2, c3, c4.mono (by omega)⟩
      rcases hb with hb | hb
      · simp [g0, z, ad, hk1, hb, e3]
      · by_cases hb1 : k1 = 1
        · simp [g0, z, ad, hk1, hb1, e3]
        · simp [g0, z, ad, hk1, hb1, hk2, hb, e3]
    · have hb1 : ¬ k1 = 1 := fun e => hb (.inl e)
      have hb2 : ¬ k2 = 1 := fun e => hb (.inr e)
      exact ⟨_, [.op q, .fz (dn most), .fz S.d, .fz d], by simp; rfl, .inl (by simp [g0, z, ad, hk1, hb1, hk2, hb2]), q, S, .fz d, rfl, b1, b2, b3, b4.mono (by omega)⟩) ⟨p1, S, .un, rfl, a1, a2, a3, a4.mono (by omega)⟩
  exact ⟨S2, q, by simp [f_law_summary, mkI_ap, m_law_summary, e1, rg, e2], b1, b2, b3, b4.mono (by simp)⟩
/-! ### copied states -/
def places (base : List Nat) (later : Nat) : List Nat := (List.range base.length).filter fun i => base[i]? == some later
theorem places_n {base : List Nat} {later : Nat} (hz : base.length ≤ 1000) {ρ₀ : DL.Env} {a b c d e f g h : Sl} : lcL ρ₀ [8] (.nm 8) (p2 dEq (oEx (p2 dIx (oPl 4) (oPl 8))) (oPl 7)) (gVar 8) ((List.range base.length).map fun i => D.int (i : Nat)) [] [a, b, c, d, .fz (dL base), e, f, .fz (dn later), .un, g, h] = .ok ((places base later).map dn) (keepE ρ₀ [a, b, c, d, .fz (dL base), e, f, .fz (dn later), .un, g, h] [8]) := by
  rw [lcL_filter (c := fun d => match d with | .int i => base[i.toNat]? == some later | _ => false) (f := id) (ρ := [a, b, c, d, .fz (dL base), e, f, .fz (dn later), .un, g, h])]
  · simp only [List.filter_map, places, List.nil_append, List.map_map, Function.id_comp]
    rfl
  · simp; omega
  · intro x hx
    obtain ⟨k, hk, rfl⟩ := mem_rng hx
    have gk : base[k]? = some base[k] := List.getElem?_eq_getElem hk
    refine ⟨_, [a, b, c, d, .fz (dL base), e, f, .fz (dn later), .fz (.int (k : Nat)), g, h], by simp; rfl, ?_, fun _ => by simp, fun _ => ⟨_, by simp; rfl, by simp⟩⟩
    simp [atN, gk]
    by_cases hb : base[k] = later
    · simp [hb]
    · have : ¬ ((base[k] : Int) = (later : Int)) := by omega
      simp [hb, this]
def b_copied : SM :=
 (sSeq (sBind (gComp [7] (gU' dItems (p2 dIx (oEx (p2 dIx (oPl 1) (oEx (M.pure (.int 1))))) (oPl 6))) (.nm 7) gT (gComp [8] (gRead1 dRgI (oEx (gB pLen [(oPl 4)]))) (.nm 8) (p2 dEq (oEx (p2 dIx (oPl 4) (oPl 8))) (oPl 7)) (gVar 8))) (sSetO 9))
 (sExp (gMutL 5 mAppend [(oEx (gB pTuple [(oEx (gComp [10] (gU' dItems (gVar 9)) (.nm 10) gT (gCallI f_law_pick 0 [(oEx (gVar 10))])))]))])))
def t_copied : SM :=
 (sSeq (sFor (.nm 6) (gU' dItems (gVar 4))
 b_copied)
 (sRet (gTup [(oEx (p2 dIx (oPl 1) (oEx (M.pure (.int 0))))), (oEx (gB pTuple [(oPl 5)])), (oEx (gB pTuple [(oEx (gComp [6] (gU' dItems (gVar 4)) (.nm 6) gT (p2 dIx (oEx (p2 dIx (oPl 1) (oEx (M.pure (.int 2))))) (oPl 6))))]))])))
theorem m_law_copied_eq : m_law_copied = (sSeq (sBind (gB pLen [(oEx (p2 dIx (oPl 1) (oEx (M.pure (.int 1)))))]) (sSet 2)) (sSeq (sBind (gCat (oEx (gLstRg (gVar 2))) (oEx (gComp [3] (gRead1 dRgI (oEx (gCallI f_law_coin 0 [(oEx (gB pMax2 [(oEx (M.pure (.int 1))), (oEx (gB pMin2 [(oEx (M.pure (.int 3))), (oEx (p2 iSub (oEx (M.pure (.int 7))) (oPl 2)))]))]))]))) (.nm 3) gT (gCallI f_law_coin 0 [(oEx (gVar 2))])))) (sSetO 4)) (sSeq (sBind (gLst []) (sSetO 5)) t_copied))) := rfl
def rowsOf (S : Sm) (base : List Nat) (s : Nat) : List (List Nat) := ((S.mv[s]?).getD []).map (places base)
/-- what the base tells: a state of the copied summary for each place -/
def BaseOk (S : Sm) (base : List Nat) : Prop := (∀ x ∈ base, x < S.mv.length) ∧ (∀ x, x < S.mv.length → x ∈ base) ∧ base.length ≤ 95
theorem places_ne {base : List Nat} {x : Nat} (h : x ∈ base) : places base x ≠ [] := by
  obtain ⟨i, hi, e⟩ := List.getElem_of_mem h
  intro z
  have : i ∈ places base x := by
    unfold places
    rw [List.mem_filter]
    exact ⟨List.mem_range.mpr hi, by simp [List.getElem?_eq_getElem hi, e]⟩
  rw [z] at this
  cases this
theorem places_lt {base : List Nat} {x i : Nat} (h : i ∈ places base x) : i < base.length := by
  unfold places at h
  exact List.mem_range.mp (List.mem_filter.mp h).1
theorem b_copied_n {n : Nat} {p : D} {S : Sm} {base : List Nat} {st : Nat} {acc : List D} {s2 s9 : Sl} (h : Pu n p) (hn : n ≤ 800000000) (hS : S.Ok) (hb : BaseOk S base) (hs : st < S.mv.length) (ha : acc.length ≤ 1000) (hv : S.ev ≤ 3) :
    ∃ (r : List Nat) (q : D) (s9' : Sl), b_copied [.op p, .fz S.d, s2, .un, .fz (dL base), .op (.lst acc), .fz (dn st), .un, .un, s9, .un] = .nx [.op q, .fz S.d, s2, .un, .fz (dL base), .op (.lst (acc ++ [dT r])), .fz (dn st), .un, .un, s9', .un] ∧ r.length = S.ev ∧ (∀ x ∈ r, x < base.length) ∧ Pu (n + 3) q := by
  obtain ⟨b1, b2, b3⟩ := hb
  have g : S.mv[st]? = some S.mv[st] := List.getElem?_eq_getElem hs
  obtain ⟨r1, r2⟩ := hS.row S.mv[st] (List.getElem_mem hs)
  have rg := dRgI_nat (n := base.length) (by omega)
  have e1 : ∀ ρ₀ : DL.Env, lcL ρ₀ [7] (.nm 7) gT (gComp [8] (gRead1 dRgI (oEx (gB pLen [(oPl 4)]))) (.nm 8) (p2 dEq (oEx (p2 dIx (oPl 4) (oPl 8))) (oPl 7)) (gVar 8)) (S.mv[st].map dn) [] [.op p, .fz S.d, s2, .un, .fz (dL base), .op (.lst acc), .fz (dn st), .un, .un, s9, .un] = .ok ((S.mv[st].map dn).map fun d => match d with | .int i => dL (places base i.toNat) | _ => .non) (keepE ρ₀ [.op p, .fz S.d, s2, .un, .fz (dL base), .op (.lst acc), .fz (dn st), .un, .un, s9, .un] [7]) := fun ρ₀ => by
    rw [lc_nats (f := fun d => match d with | .int i => dL (places base i.toNat) | _ => .non)]
    · have := hS.small
      simp; omega
    · intro d hd
      obtain ⟨x, hx, rfl⟩ := List.mem_map.mp hd
      exact ⟨_, [.op p, .fz S.d, s2, .un, .fz (dL base), .op (.lst acc), .fz (dn st), .fz (dn x), .un, s9, .un], by simp; rfl, by simp [rg, places_n (show base.length ≤ 1000 by omega)], by simp⟩
  have mapE : ((S.mv[st].map dn).map fun d => match d with | .int i => dL (places base i.toNat) | _ => .non) = (S.mv[st].map (places base)).map dL := by simp [Function.comp_def]
  rw [mapE] at e1
  obtain ⟨r, q, e2, c1, c2, c3⟩ := lc_draws (ρ₀ := [.op p, .fz S.d, s2, .un, .fz (dL base), .op (.lst acc), .fz (dn st), .un, .un, .fz (.lst ((S.mv[st].map (places base)).map dL)), .un]) (ρ := [.fz S.d, s2, .un, .fz (dL base), .op (.lst acc), .fz (dn st), .un, .un, .fz (.lst ((S.mv[st].map (places base)).map dL)), .un]) (vs := [10]) (t := .nm 10) (ge := gCallI f_law_pick 0 [(oEx (gVar 10))]) (ds := (S.mv[st].map (places base)).map dL) (bound := base.length) (B := 1) (by simp; have := hS.small; omega) h (fun d hd q m hq hb => by
    simp at hb
    obtain ⟨l, hl, rfl⟩ := List.mem_map.mp hd
    obtain ⟨x, hx, rfl⟩ := List.mem_map.mp hl
    have ne := places_ne (b2 x (r2 x hx))
    have len : (places base x).length ≤ base.length := by
      unfold places
      have := List.length_filter_le (fun i => base[i]? == some x) (List.range base.length)
      simpa using this
    obtain ⟨d, q', _, e, k1, k2⟩ := pick_n (xs := (places base x).map dn) hq (by omega) (by simpa using ne) (by simp; omega)
    obtain ⟨y, hy, rfl⟩ := List.mem_map.mp k1
    have := places_lt hy
    exact ⟨_, _, y, q', by simp; rfl, by simp [e]; rfl, by simp, by omega, by omega, k2⟩)
  simp at c1 c3
  have app : ∀ ρ, muR 5 mAppend [dT r] ρ (some (.op (.lst acc))) = .ok .non (ρ.set 5 (.op (.lst (acc ++ [dT r])))) := fun ρ => muR_app (by simp; omega)
  generalize (S.mv[st].map (places base)).map dL = R at e1 e2
  refine ⟨r, q, .fz (.lst R), ?_, by omega, c2, c3.mono (by omega)⟩
  simp [b_copied, atN, g, e1, e2, app]
theorem t_copied_n {n : Nat} {p : D} {S : Sm} {base : List Nat} (h : Pu n p) (hn : n ≤ 700000000) (hS : S.Ok) (hb : BaseOk S base) (hv : S.ev ≤ 3) {sb : Sl} (hsb : sb = .op (dL base)) :
    ∃ (S' : Sm) (p' : D) (ρ' : DL.Env), t_copied [.op p, .fz S.d, .fz (dn S.mv.length), .un, sb, .op (.lst []), .un, .un, .un, .un, .un] = .ret S'.d (.op p' :: ρ') ∧ S'.Ok ∧ S'.ev = S.ev ∧ S'.mv.length = base.length ∧ Pu (n + 300) p' := by
  subst hsb
  obtain ⟨b1, b2, b3⟩ := id hb
  obtain ⟨ρ', e1, q, mv, s6, s9, rfl, m1, m2, m3⟩ := forL_inv (t := .nm 6) (s := b_copied) (ds := base.map dn) (ρ := [.op p, .fz S.d, .fz (dn S.mv.length), .un, .fz (dL base), .op (.lst []), .un, .un, .un, .un, .un])
    (I := fun i ρ => ∃ (q : D) (mv : List (List Nat)) (s6 s9 : Sl), ρ = [.op q, .fz S.d, .fz (dn S.mv.length), .un, .fz (dL base), .op (.lst (mv.map dT)), s6, .un, .un, s9, .un] ∧ mv.length = i ∧ (∀ r ∈ mv, r.length = S.ev ∧ ∀ x ∈ r, x < base.length) ∧ Pu (n + 3 * i) q) 0 (fun i ρ d hd hI => by
      obtain ⟨q, mv, s6, s9, rfl, m1, m2, m3⟩ := hI
      have hi : i < base.length := by simpa using (List.getElem?_eq_some_iff.mp hd).1
      obtain ⟨st, hst, rfl⟩ := List.mem_map.mp (List.mem_of_getElem? hd)
      obtain ⟨r, q', s9', e, k1, k2, k3⟩ := b_copied_n (acc := mv.map dT) (s2 := .fz (dn S.mv.length)) (s9 := s9) m3 (by omega) hS hb (b1 st hst) (by simp; omega) hv
      refine ⟨_, _, by simp, .inl e, q', mv ++ [r], .fz (dn st), s9', by simp, by simp [m1], fun r' hr' => ?_, k3.mono (by omega)⟩
      rcases List.mem_append.mp hr' with hr' | hr'
      · exact m2 r' hr'
      · simp at hr'; subst hr'; exact ⟨k1, k2⟩) ⟨p, [], .un, .un, rfl, rfl, by simp, by simpa using h⟩
  simp at m1 m3
  have hbl : 0 < base.length := by
    have := b2 0 hS.pos
    exact List.length_pos_of_mem this
  have e2 : ∀ ρ₀ : DL.Env, lcL ρ₀ [6] (.nm 6) gT (p2 dIx (oEx (p2 dIx (oPl 1) (oEx (M.pure (.int 2))))) (oPl 6)) (base.map dn) [] [.op q, .fz S.d, .fz (dn S.mv.length), .un, .fz (dL base), .op (.lst (mv.map dT)), .un, .un, .un, s9, .un] = .ok ((base.map dn).map fun d => match d with | .int i => dn (S.at_ i.toNat) | _ => .non) (keepE ρ₀ [.op q, .fz S.d, .fz (dn S.mv.length), .un, .fz (dL base), .op (.lst (mv.map dT)), .un, .un, .un, s9, .un] [6]) := fun ρ₀ => by
    rw [lc_nats (f := fun d => match d with | .int i => dn (S.at_ i.toNat) | _ => .non)]
    · simp
      omega
    · intro d hd
      obtain ⟨x, hx, rfl⟩ := List.mem_map.mp hd
      have g := Sm.at_get hS (b1 x hx)
      exact ⟨_, _, by simp; rfl, by simp [atN, g]; rfl, by simp⟩
  have mapE : ((base.map dn).map fun d => match d with | .int i => dn (S.at_ i.toNat) | _ => .non) = (base.map S.at_).map dn := by simp [Function.comp_def]
  rw [mapE] at e2
  generalize hR : (base.map S.at_).map dn = R at e2
  refine ⟨⟨S.ev, mv, base.map S.at_⟩, q, keepE [.op q, .fz S.d, .fz (dn S.mv.length), .un, .fz (dL base), .op (.lst (mv.map dT)), s6, .un, .un, s9, .un] [.op q, .fz S.d, .fz (dn S.mv.length), .un, .fz (dL base), .op (.lst (mv.map dT)), .un, .un, .un, s9, .un] [6] |>.tail, ?_, ⟨hS.ev, ?_, fun r hr => ?_, ?_, ?_⟩, rfl, m1, m3.mono (by omega)⟩
  · have z : ∀ a b c : D, szL [a, b, c] = some [a, b, c] := fun a b c => szL_le (by simp)
    have hR' : dT (base.map S.at_) = .tup R := by rw [← hR]
    simp [t_copied, e1, e2, z]
    rw [← hR]
    simp
  · intro e
    simp at e
    rw [e] at m1
    simp at m1
    omega
  · obtain ⟨k1, k2⟩ := m2 r hr
    exact ⟨k1, fun x hx => by rw [m1]; exact k2 x hx⟩
  · simp [m1]
  · have := hS.small
    simp [m1]
    omega
theorem copied_n {n : Nat} {p : D} {S : Sm} (h : Pu n p) (hn : n ≤ 600000000) (hS : S.Ok) (hv : S.ev ≤ 3) (hm : S.mv.length ≤ 90) : ∃ (S' : Sm) (p' : D), f_law_copied p [S.d] = .ok (S'.d, p') ∧ S'.Ok ∧ S'.ev = S.ev ∧ S'.mv.length ≤ S.mv.length + 2 ∧ Pu (n + 1000) p' := by
  have hpos := hS.pos
  obtain ⟨z, hz⟩ : ∃ z : Int, z = if 1 < if 7 - (S.mv.length : Int) < 3 then 7 - (S.mv.length : Int) else 3 then if 7 - (S.mv.length : Int) < 3 then 7 - (S.mv.length : Int) else 3 else 1 := ⟨_, rfl⟩
  have hz1 : 0 < z := by rw [hz]; repeat' split
                         all_goals omega
  have hz2 : z ≤ 3 := by rw [hz]; repeat' split
                         all_goals omega
  obtain ⟨k, p1, e1, k1, k2, a1⟩ := coin_n (many := z) h (by omega) hz1 (by omega)
  obtain ⟨m, rfl⟩ : ∃ m : Nat, k = (m : Int) := ⟨k.toNat, by omega⟩
  have rg := dRgI_nat (n := m) (by omega)
  have rg1 := dRg1_nat (n := S.mv.length) (by simp; omega)
  obtain ⟨ex, p2, e2, c1, c2, c3⟩ := lc_draws (ρ₀ := [.op p1, .fz S.d, .fz (dn S.mv.length), .un, .un, .un, .un, .un, .un, .un, .un]) (ρ := [.fz S.d, .fz (dn S.mv.length), .un, .un, .un, .un, .un, .un, .un, .un]) (vs := [3]) (t := .nm 3) (ge := gCallI f_law_coin 0 [(oEx (gVar 2))]) (ds := (List.range m).map fun i => D.int (i : Nat)) (bound := S.mv.length) (B := 1) (by simp; omega) a1 (fun d hd q j hq hb => by
    simp at hb
    obtain ⟨r, q', e, k1, k2⟩ := coin_nat (many := S.mv.length) hq (by omega) hpos (by omega)
    exact ⟨_, _, r, q', by simp; rfl, by simp [e]; rfl, by simp, by omega, by omega, k2⟩)
  simp at c1 c3
  let base := List.range S.mv.length ++ ex
  have hb : BaseOk S base := ⟨fun x hx => by
    rcases List.mem_append.mp hx with hx | hx
    · exact List.mem_range.mp hx
    · exact c2 x hx, fun x hx => List.mem_append.mpr (.inl (List.mem_range.mpr hx)), by simp [base, c1]; omega⟩
  obtain ⟨S', p', ρ', e, k3, k4, k5, k6⟩ := t_copied_n c3 (by omega) hS hb hv rfl
  refine ⟨S', p', ?_, k3, k4, by rw [k5]; simp [base, c1]; omega, k6.mono (by omega)⟩
  have cat : lAdd (.lst ((List.range S.mv.length).map fun i => D.int (i : Nat))) (.lst (ex.map dn)) = some (base.map dn) := by
    rw [lAdd_ll (by simp [c1]; omega)]
    simp [base]
  have z0 : szL [] = some [] := szL_le (by simp)
  rw [hz] at e1
  simp [f_law_copied, mkI_ap, m_law_copied_eq, e1, rg, rg1, e2, cat, z0, e]
end LK
namespace LK
open PySem L2 DL
theorem along_eq {S : Sm} : ∀ {l : List Nat} {s : Nat}, S.along s l = (List.range l.length).map fun k => S.at_ (S.led s (l.take (k + 1)))
  | [], _ => rfl
  | e :: l, s => by
    rw [List.length_cons, List.range_succ_eq_map, List.map_cons, List.map_map, Sm.along, along_eq (l := l)]
    rfl
theorem wins_all {S : Sm} {l : List Nat} : S.wins l l.length = S.at_ 0 :: S.along 0 l := by
  unfold Sm.wins
  rw [List.range_succ_eq_map, List.map_cons, List.map_map, along_eq]
  refine List.cons_eq_cons.mpr ⟨by simp [win, Sm.ans, Sm.led], ?_⟩
  refine List.map_congr_left fun k hk => ?_
  have hk := List.mem_range.mp hk
  have e : Nat.succ k - l.length = 0 := by omega
  simp [win, Sm.ans, e]
theorem wins_len {S : Sm} {l : List Nat} {n : Nat} : (S.wins l n).length = l.length + 1 := by simp [Sm.wins]
def apT (i : Nat) (n : Int) (j : Nat) (ts : List NT) (ρ : DL.Env) : Option NT → Res D
  | some (.op (.lst xs)) => if xs.length < sizeLine then .ok .non (ρ.set i (.on (.lst (ts.set j (.op (.lst (xs ++ [.int n]))))))) else .stuck
  | _ => .stuck
def apR (i j : Nat) (n : Int) (ρ : DL.Env) : Option Sl → Res D
  | some (.on (.lst ts)) => apT i n j ts ρ ts[j]?
  | _ => .stuck
theorem gAppN_ap {i j : Nat} {n : Int} {ρ : DL.Env} : gAppN i j n ρ = apR i j n ρ ρ[i]? := by
  unfold gAppN apR
  cases h : ρ[i]? with
  | none => rfl
  | some s => cases s with
    | on t => cases t with
      | lst ts =>
        simp only
        unfold apT
        cases ts[j]? with
        | none => rfl
        | some t => cases t with
          | op d => cases d <;> rfl
          | _ => rfl
      | _ => rfl
    | _ => rfl
def t_right : SM :=
 (sSeq (sBind (gLcN [4] (gU' dItems (gVar 3)) (.nm 4) (gCall f_window_answers [(oEx (gVar 1)), (oEx (gVar 2)), (oEx (gVar 4))])) (sSetN 5))
 (sSeq (sIf (gNot (gL (gCallS (f_law_same 8) [(oPn 5), (oEx (gComp [4] (gU' dItems (gVar 3)) (.nm 4) gT (gCall f_law_due [(oEx (gVar 1)), (oEx (gVar 2)), (oEx (gVar 4))])))])))
 (sRet (M.pure (.bl false)))
 SR.nx)
 (sSeq (sBind (gCallI f_law_log 0 [(oEx (p2 dIx (oPl 1) (oEx (M.pure (.int 0))))), (oEx (M.pure (.int 6)))]) (sSet 6))
 (sSeq (sIf (gNot (gL (gCallS (f_law_same 8) [(oEx (gCallK f_window_answers 1 2 [0, 1, 2] [(oEx (gVar 1))] [(oEx (gVar 6)), (oEx (p2 dIx (oPl 3) (oEx (M.pure (.int 1)))))])), (oEx (gCall f_law_due [(oEx (gVar 1)), (oEx (gVar 6)), (oEx (p2 dIx (oPl 3) (oEx (M.pure (.int 1)))))]))])))
 (sRet (M.pure (.bl false)))
 SR.nx)
 (sSeq (sExp (gAppN 5 0 7))
 (sSeq (sBind (gCallK f_window_answers 0 3 [1, 2, 0] [] [(oEx (p2 dIx (oPl 3) (oEx (M.pure (.int 0))))), (oEx (gVar 1)), (oEx (gVar 2))]) (sSetO 7))
 (sRet (gV (gAnd (gL (gCallS (f_law_same 8) [(oPn 7), (oEx (gCall f_law_due [(oEx (gVar 1)), (oEx (gVar 2)), (oEx (p2 dIx (oPl 3) (oEx (M.pure (.int 0)))))]))])) (gL (gCallS (f_law_same 8) [(oEx (p2 dIx (oEx (gVar 5)) (oEx (M.pure (.int 2))))), (oEx (gCall f_answers_along [(oEx (gVar 1)), (oEx (gVar 2))]))])))))))))))
theorem m_law_right_eq : m_law_right = (sSeq (sBind (gCallI f_law_copied 0 [(oEx (gCallI f_law_summary 0 [(oEx (M.pure (.int 4)))]))]) (sSet 1)) (sSeq (sBind (gCallI f_law_log 0 [(oEx (p2 dIx (oPl 1) (oEx (M.pure (.int 0))))), (oEx (gCallI f_law_pick 0 [(oEx (gLst [(oEx (M.pure (.int 3))), (oEx (M.pure (.int 8))), (oEx (M.pure (.int 12))), (oEx (M.pure (.int 40)))]))]))]) (sSet 2)) (sSeq (sBind (gLst [(oEx (gCallI f_law_coin 0 [(oEx (M.pure (.int 4)))])), (oEx (gCallI f_law_pick 0 [(oEx (gLst [(oEx (M.pure (.int 0))), (oEx (M.pure (.int 1))), (oEx (M.pure (.int 2))), (oEx (M.pure (.int 3))), (oEx (M.pure (.int 5))), (oEx (M.pure (.int 8)))]))])), (oEx (gB pLen [(oPl 2)])), (oEx (gCallI f_law_coin 0 [(oEx (M.pure (.int 41)))]))]) (sSetO 3)) t_right))) := rfl
theorem same_wins {ws : List (List Nat)} (h : ∀ w ∈ ws, w.length ≤ 100000) (hz : ws.length ≤ 1000) : f_law_same 8 [.lst (ws.map dL), .lst (ws.map dL)] = .ok (.bl true) :=
  same_lst (k := 7) (fun d hd => by
    obtain ⟨w, hw, rfl⟩ := List.mem_map.mp hd
    exact same_dL (k := 5) (by have := h w hw; omega)) (by simp; omega)
theorem t_right_n {n : Nat} {p : D} {S : Sm} {l : List Nat} {a b c : Nat} (h : Pu n p) (hn : n ≤ 600000000) (hS : S.Ok) (hl : LogOk S.ev l) : ∃ (p' : D) (ρ' : DL.Env), t_right [.op p, .fz S.d, .fz (dT l), .op (.lst [dn a, dn b, dn l.length, dn c]), .un, .un, .un, .un] = .ret (.bl true) (.op p' :: ρ') := by
  obtain ⟨o, p2, e2, o1, o2, o3⟩ := log_n (most := 6) h (by omega) hS.ev (by have := hS.small; omega) (by omega)
  have e2' : f_law_log p [dn S.ev, .int 6] = .ok (dT o, p2) := e2
  let ds := [dn a, dn b, dn l.length, dn c]
  let f := fun d : D => match d with | .int i => dL (S.wins l i.toNat) | _ => .non
  have hds : ∀ d ∈ ds, ∃ k : Nat, d = dn k := fun d hd => by
    simp [ds] at hd
    rcases hd with rfl | rfl | rfl | rfl
    · exact ⟨_, rfl⟩
    · exact ⟨_, rfl⟩
    · exact ⟨_, rfl⟩
    · exact ⟨_, rfl⟩
  have w1 : ∀ ρ₀ : DL.Env, lcN ρ₀ [4] (.nm 4) (gCall f_window_answers [(oEx (gVar 1)), (oEx (gVar 2)), (oEx (gVar 4))]) ds [] [.op p, .fz S.d, .fz (dT l), .fz (.lst ds), .un, .un, .un, .un] = .ok (.lst ((ds.map f).map .op)) (keepE ρ₀ [.op p, .fz S.d, .fz (dT l), .fz (.lst ds), .un, .un, .un, .un] [4]) := fun ρ₀ => by
    rw [lcN_map (f := f) (ρ := [.op p, .fz S.d, .fz (dT l), .fz (.lst ds), .un, .un, .un, .un])]
    · rfl
    · simp [ds]
    · intro d hd
      obtain ⟨k, rfl⟩ := hds d hd
      exact ⟨_, _, by simp; rfl, by simp [window_answers_n hS hl, f]; rfl, by simp⟩
  have w2 : ∀ (ρ₀ : DL.Env) (t : Sl), lcL ρ₀ [4] (.nm 4) gT (gCall f_law_due [(oEx (gVar 1)), (oEx (gVar 2)), (oEx (gVar 4))]) ds [] [.op p, .fz S.d, .fz (dT l), .fz (.lst ds), .un, t, .un, .un] = .ok (ds.map f) (keepE ρ₀ [.op p, .fz S.d, .fz (dT l), .fz (.lst ds), .un, t, .un, .un] [4]) := fun ρ₀ t => by
    rw [lc_nats (f := f)]
    · simp [ds]
    · intro d hd
      obtain ⟨k, rfl⟩ := hds d hd
      exact ⟨_, _, by simp; rfl, by simp [law_due_n hS hl, f]; rfl, by simp⟩
  have sm := same_wins (ws := [S.wins l a, S.wins l b, S.wins l l.length, S.wins l c]) (fun w hw => by
    have := hl.2
    simp at hw
    rcases hw with rfl | rfl | rfl | rfl <;> (rw [wins_len]; omega)) (by simp)
  have s2 : f_law_same 8 [dL (S.wins o b), dL (S.wins o b)] = .ok (.bl true) := same_dL (k := 6) (by rw [wins_len]; omega)
  have s3 : f_law_same 8 [dL (S.wins l a), dL (S.wins l a)] = .ok (.bl true) := same_dL (k := 6) (by have := hl.2; rw [wins_len]; omega)
  have s4 : f_law_same 8 [dL (S.wins l l.length), dL (S.at_ 0 :: S.along 0 l)] = .ok (.bl true) := by
    rw [← wins_all]
    exact same_dL (k := 6) (by have := hl.2; rw [wins_len]; omega)
  have w1' : ∀ ρ₀ : DL.Env, lcN ρ₀ [4] (.nm 4) (gCall f_window_answers [(oEx (gVar 1)), (oEx (gVar 2)), (oEx (gVar 4))]) [dn a, dn b, dn l.length, dn c] [] [.op p, .fz S.d, .fz (dT l), .fz (.lst [dn a, dn b, dn l.length, dn c]), .un, .un, .un, .un] = .ok (.lst [.op (dL (S.wins l a)), .op (dL (S.wins l b)), .op (dL (S.wins l l.length)), .op (dL (S.wins l c))]) (keepE ρ₀ [.op p, .fz S.d, .fz (dT l), .fz (.lst [dn a, dn b, dn l.length, dn c]), .un, .un, .un, .un] [4]) := w1
  have w2' : ∀ (ρ₀ : DL.Env) (t : Sl), lcL ρ₀ [4] (.nm 4) gT (gCall f_law_due [(oEx (gVar 1)), (oEx (gVar 2)), (oEx (gVar 4))]) [dn a, dn b, dn l.length, dn c] [] [.op p, .fz S.d, .fz (dT l), .fz (.lst [dn a, dn b, dn l.length, dn c]), .un, t, .un, .un] = .ok [dL (S.wins l a), dL (S.wins l b), dL (S.wins l l.length), dL (S.wins l c)] (keepE ρ₀ [.op p, .fz S.d, .fz (dT l), .fz (.lst [dn a, dn b, dn l.length, dn c]), .un, t, .un, .un] [4]) := w2
  have pt : ∀ {m : List D → FR D} {xs : List D} {ρ : DL.Env}, m xs = .ok (.bl true) → ptR (some xs) m ρ = .ok (.bl true) ρ := fun h => ptR_ok h rfl
  have sm' : f_law_same 8 [.lst [dL (S.wins l a), dL (S.wins l b), dL (S.wins l l.length), dL (S.wins l c)], .lst [dL (S.wins l a), dL (S.wins l b), dL (S.wins l l.length), dL (S.wins l c)]] = .ok (.bl true) := sm
  have pt1 := fun ρ => pt (ρ := ρ) sm'
  have pt2 := fun ρ => pt (ρ := ρ) s2
  have pt3 := fun ρ => pt (ρ := ρ) s3
  have pt4 := fun ρ => pt (ρ := ρ) s4
  have wa := window_answers_n hS o1 (n := b)
  have wb := window_answers_n hS hl (n := a)
  have lb := law_due_n hS o1 (n := b)
  have la := law_due_n hS hl (n := a)
  have al := answers_along_n hS hl
  have zw : (S.wins l a).length < 16777216 := by have := hl.2; rw [wins_len]; omega
  have pm1 : ∀ x y z : D, permL [0, 1, 2] [x, y, z] = [x, y, z] := fun x y z => rfl
  have pm2 : ∀ x y z : D, permL [1, 2, 0] [x, y, z] = [y, z, x] := fun x y z => rfl
  refine ⟨p2, ?_, ?_⟩
  rotate_left
  simp [t_right, w1', NT.lists, NT.listss, NT.strip, NT.strips, w2', pt1, e2', wa, lb, pt2, pm1, pm2, gAppN_ap, apR, apT, zw, wb, la, pt3, al, pt4]
  rfl
theorem right_n {n : Nat} {p : D} (h : Pu n p) (hn : n ≤ 500000000) : ∃ c', f_law_right p [] = .ok (.bl true, c') := by
  obtain ⟨S1, p1, e1, a1, a2, a3, a4⟩ := summary_n (most := 4) h (by omega) (by decide) (by decide)
  obtain ⟨S, p2, e2, b1, b2, b3, b4⟩ := copied_n a4 (by omega) a1 a2 (by omega)
  obtain ⟨d, p3, _, e3, k1, k2⟩ := pick_n (xs := [.int 3, .int 8, .int 12, .int 40]) b4 (by omega) (by simp) (by simp)
  obtain ⟨m, rfl, hm⟩ : ∃ m : Nat, d = dn m ∧ m ≤ 40 := by
    simp at k1
    rcases k1 with rfl | rfl | rfl | rfl
    · exact ⟨3, rfl, by decide⟩
    · exact ⟨8, rfl, by decide⟩
    · exact ⟨12, rfl, by decide⟩
    · exact ⟨40, rfl, by decide⟩
  obtain ⟨l, p4, e4, l1, l2, l3⟩ := log_n (ev := S.ev) (most := m) k2 (by omega) b1.ev (by have := b1.small; omega) (by omega)
  obtain ⟨a, p5, e5, _, c1⟩ := coin_nat (many := 4) l3 (by omega) (by decide) (by decide)
  obtain ⟨d2, p6, _, e6, k3, c2⟩ := pick_n (xs := [.int 0, .int 1, .int 2, .int 3, .int 5, .int 8]) c1 (by omega) (by simp) (by simp)
  obtain ⟨b, rfl⟩ : ∃ m : Nat, d2 = dn m := by
    simp at k3
    rcases k3 with rfl | rfl | rfl | rfl | rfl | rfl
    · exact ⟨0, rfl⟩
    · exact ⟨1, rfl⟩
    · exact ⟨2, rfl⟩
    · exact ⟨3, rfl⟩
    · exact ⟨5, rfl⟩
    · exact ⟨8, rfl⟩
  obtain ⟨c, p7, e7, _, c3⟩ := coin_nat (many := 41) c2 (by omega) (by decide) (by decide)
  obtain ⟨p', ρ', e⟩ := t_right_n (a := a) (b := b) (c := c) c3 (by omega) b1 l1
  have e1' : f_law_summary p [.int 4] = .ok (S1.d, p1) := e1
  have e5' : f_law_coin p4 [.int 4] = .ok (dn a, p5) := e5
  have e7' : f_law_coin p6 [.int 41] = .ok (dn c, p7) := e7
  have z1 : szL [D.int 3, .int 8, .int 12, .int 40] = some [D.int 3, .int 8, .int 12, .int 40] := szL_le (by simp)
  have z2 : szL [D.int 0, .int 1, .int 2, .int 3, .int 5, .int 8] = some [D.int 0, .int 1, .int 2, .int 3, .int 5, .int 8] := szL_le (by simp)
  have z3 : ∀ w x y z : D, szL [w, x, y, z] = some [w, x, y, z] := fun w x y z => szL_le (by simp)
  exact ⟨p', by simp [f_law_right, mkI_ap, m_law_right_eq, e1', e2, z1, e3, e4, e5', z2, e6, e7', z3, e]⟩
/-! ### the purse -/
theorem purse_loop {k : Nat} {sc : D} {at_ : Sl} {x y : Sl} : ∀ {cells : List Int} {b : Int} {c : Sl}, 0 ≤ b → b < 10 ^ 25 → ∃ (b' : Int) (c' : Sl), forL (.nm 3) (sBind (p2 iMod (oEx (gB pInt [(oEx (p2 dAdd (oEx (p2 dAdd (oEx (p2 iMul (oPl 2) (oEx (M.pure (.int 7368787))))) (oEx (p2 iMul (oEx (gB pInt [(oPl 3)])) (oEx (M.pure (.int 2750159))))))) (oEx (M.pure (.int 8191)))))])) (oEx (p2 dAdd (oEx (p2 iPow (oEx (M.pure (.int 10))) (oEx (M.pure (.int 24))))) (oEx (M.pure (.int 7)))))) (sSet 2)) (cells.map .int) [.fz sc, at_, .fz (.int b), c, x] = .nx [.fz sc, at_, .fz (.int b'), c', x] ∧ 0 ≤ b' ∧ b' < 10 ^ 25
  | [], b, c, h1, h2 => ⟨b, c, by simp [forL], h1, h2⟩
  | z :: cells, b, c, h1, h2 => by
    have m1 : ∀ i, iMul (.int i) (.int 7368787) = some (.int (i * 7368787)) := fun i => iMul_r (by decide)
    have m2 : ∀ i, iMul (.int i) (.int 2750159) = some (.int (i * 2750159)) := fun i => iMul_r (by decide)
    have m3 : ∀ x : Int, iMod (.int x) (.int 1000000000000000000000007) = some (.int (x % 1000000000000000000000007)) := fun x => iMod_ii (by decide)
    have q1 := Int.emod_nonneg (b * 7368787 + z * 2750159 + 8191) (b := 1000000000000000000000007) (by decide)
    have q2 := Int.emod_lt_of_pos (b * 7368787 + z * 2750159 + 8191) (b := 1000000000000000000000007) (by decide)
    obtain ⟨b', c', e, h3, h4⟩ := purse_loop (k := k) (sc := sc) (at_ := at_) (x := x) (y := y) (cells := cells) (b := (b * 7368787 + z * 2750159 + 8191) % 1000000000000000000000007) (c := .fz (.int z)) q1 (by omega)
    refine ⟨b', c', ?_, h3, h4⟩
    unfold forL
    simp only [List.map_cons]
    simp [m1, m2, m3, p_10_24, e]
theorem purse_n {ns : List Int} {i : Nat} (hl : ns.length ≤ 63) (hi : i < ns.length ∨ i = 0) : ∃ p, f_law_purse [.lst (ns.map .int), dn i] = .ok p ∧ Pu 0 p := by
  have m0 : ∀ x, iMul (.int 611953) (.int x) = some (.int (611953 * x)) := fun x => iMul_l (by decide)
  have m1 : ∀ x, iMul (.int 4799) (.int x) = some (.int (4799 * x)) := fun x => iMul_l (by decide)
  have ct : cutA (ns.map D.int) none (some 63) = ns.map D.int := by
    have := cutA_to (xs := ns.map D.int) (b := 63)
    rw [show ((63 : Nat) : Int) = 63 from rfl] at this
    rw [this, List.take_of_length_le (by simpa using hl)]
  obtain ⟨b', c', e, h1, h2⟩ := purse_loop (k := 0) (sc := .lst (ns.map .int)) (at_ := .fz (dn i)) (x := .un) (y := .un) (cells := ns) (b := 611953 * (i : Int) + 4799 * (ns.length : Int) + 97) (c := .un) (by omega) (by omega)
  have z3 : ∀ x y z : D, szL [x, y, z] = some [x, y, z] := fun x y z => szL_le (by simp)
  by_cases h : i < ns.length
  · have g : ns[i]? = some ns[i] := List.getElem?_eq_getElem h
    refine ⟨.lst [.int (if 1000000000000000000 < if ns[i] < 0 then -ns[i] else ns[i] then (if ns[i] < 0 then -ns[i] else ns[i]) - 1000000000000000000 else 0), .int b', .int 0], by simp [f_law_purse, mkO_ap, m_law_purse, m0, m1, ct, e, h, atN, g, p_10_18, z3], _, _, _, rfl, ?_, h1, h2, by omega, by omega⟩
    repeat' split
    all_goals omega
  · exact ⟨.lst [.int 0, .int b', .int 0], by simp [f_law_purse, mkO_ap, m_law_purse, m0, m1, ct, e, h, p_10_18, z3], _, _, _, rfl, by omega, h1, h2, by omega, by omega⟩
theorem law_true (ns : List Int) (hl : ns.length ≤ 63) (hb : ∀ z ∈ ns, Builtin.Int.intBits z ≤ 1048576) : f_law [.lst (ns.map .int)] = .ok (.bl true) := by
  obtain ⟨N, hN, hN2, hN3⟩ : ∃ N : Nat, (if 1 < if (ns.length : Int) < 5 then (ns.length : Int) else 5 then if (ns.length : Int) < 5 then (ns.length : Int) else 5 else 1) = (N : Int) ∧ N ≤ 5 ∧ ∀ i, i < N → i < ns.length ∨ i = 0 := by
    by_cases h5 : ns.length < 5
    · by_cases h1 : 1 < ns.length
      · refine ⟨ns.length, ?_, by omega, fun i hi => .inl hi⟩
        repeat' split
        all_goals omega
      · refine ⟨1, ?_, by omega, fun i hi => .inr (by omega)⟩
        repeat' split
        all_goals omega
    · refine ⟨5, ?_, by omega, fun i hi => .inl (by omega)⟩
      repeat' split
      all_goals omega
  have rg := dRgI_nat (n := N) (by omega)
  obtain ⟨ρ', e, t, rfl⟩ := forL_inv (t := .nm 1) (s := (sIf (gNot (gL (gCallT f_law_right (gCall f_law_purse [(oEx (gVar 0)), (oEx (gVar 1))]) [])))
 (sRet (M.pure (.bl false)))
 SR.nx)) (ds := (List.range N).map fun i => D.int (i : Nat)) (ρ := [.fz (.lst (ns.map .int)), .un]) (I := fun _ ρ => ∃ t, ρ = [.fz (.lst (ns.map .int)), t]) 0 (fun i ρ d hd hI => by
    obtain ⟨t, rfl⟩ := hI
    obtain ⟨k, hk, rfl⟩ := mem_rng (List.mem_of_getElem? hd)
    obtain ⟨p, e1, h1⟩ := purse_n hl (hN3 k hk)
    obtain ⟨c', e2⟩ := right_n h1 (by omega)
    have e3 : ∀ ρ, ctR f_law_right [(true, p)] ρ = .ok (.bl true) ρ := fun ρ => ctR_ok rfl e2
    exact ⟨_, _, by simp; rfl, .inl (by simp [e1, e3]; rfl), _, rfl⟩) ⟨_, rfl⟩
  simp [f_law, mkF_ap, m_law, hN, rg, e]
end LK
namespace LK
open PySem L2 DL
def top (i : Nat) : Stmt := PySem.Challenge.pw_arrivesalike_k50_windows_by_own_ends.main.body.getD i (.Pass ⟨0, 0, 0, 0⟩)
abbrev FnP (K : PySem.W.Frag) (x : Str) (st : Stmt) (f : Addr) (fd : FuncData) : Prop := FunD K x x (defArgs st) (defBody st) (defScope st) [] [] f fd
structure Fx (K : PySem.W.Frag) (mg : Str → Option Value) : Prop where
  b_abs : mg "abs" = none
  b_all : mg "all" = none
  b_bool : mg "bool" = none
  b_enumerate : mg "enumerate" = none
  b_int : mg "int" = none
  b_isinstance : mg "isinstance" = none
  b_len : mg "len" = none
  b_list : mg "list" = none
  b_max : mg "max" = none
  b_min : mg "min" = none
  b_range : mg "range" = none
  b_set : mg "set" = none
  b_str : mg "str" = none
  b_tuple : mg "tuple" = none
  d_is_integer : ∃ f fd, mg "is_integer" = some (.ref f) ∧ FnP K "is_integer" (top 6) f fd
  d_is_from : ∃ f fd, mg "is_from" = some (.ref f) ∧ FnP K "is_from" (top 7) f fd
  d_is_below : ∃ f fd, mg "is_below" = some (.ref f) ∧ FnP K "is_below" (top 8) f fd
  d_is_tuple : ∃ f fd, mg "is_tuple" = some (.ref f) ∧ FnP K "is_tuple" (top 9) f fd
  d_is_row : ∃ f fd, mg "is_row" = some (.ref f) ∧ FnP K "is_row" (top 10) f fd
  d_row_fault : ∃ f fd, mg "row_fault" = some (.ref f) ∧ FnP K "row_fault" (top 11) f fd
  d_check_number : ∃ f fd, mg "check_number" = some (.ref f) ∧ FnP K "check_number" (top 12) f fd
  d_check_log : ∃ f fd, mg "check_log" = some (.ref f) ∧ FnP K "check_log" (top 13) f fd
  d_summary_fault : ∃ f fd, mg "summary_fault" = some (.ref f) ∧ FnP K "summary_fault" (top 15) f fd
  d_check_summary : ∃ f fd, mg "check_summary" = some (.ref f) ∧ FnP K "check_summary" (top 16) f fd
  d_check_read : ∃ f fd, mg "check_read" = some (.ref f) ∧ FnP K "check_read" (top 17) f fd
  d_led : ∃ f fd, mg "led" = some (.ref f) ∧ FnP K "led" (top 18) f fd
  d_answer_in : ∃ f fd, mg "answer_in" = some (.ref f) ∧ FnP K "answer_in" (top 19) f fd
  d_answers_along : ∃ f fd, mg "answers_along" = some (.ref f) ∧ FnP K "answers_along" (top 20) f fd
  d_window_answers : ∃ f fd, mg "window_answers" = some (.ref f) ∧ FnP K "window_answers" (top 22) f fd
  d_law_purse : ∃ f fd, mg "_law_purse" = some (.ref f) ∧ FnP K "_law_purse" (top 24) f fd
  d_law_coin : ∃ f fd, mg "_law_coin" = some (.ref f) ∧ FnP K "_law_coin" (top 25) f fd
  d_law_pick : ∃ f fd, mg "_law_pick" = some (.ref f) ∧ FnP K "_law_pick" (top 26) f fd
  d_law_same : ∃ f fd, mg "_law_same" = some (.ref f) ∧ FnP K "_law_same" (top 27) f fd
  d_law_log : ∃ f fd, mg "_law_log" = some (.ref f) ∧ FnP K "_law_log" (top 28) f fd
  d_law_led : ∃ f fd, mg "_law_led" = some (.ref f) ∧ FnP K "_law_led" (top 29) f fd
  d_law_answer : ∃ f fd, mg "_law_answer" = some (.ref f) ∧ FnP K "_law_answer" (top 30) f fd
  d_law_column : ∃ f fd, mg "_law_column" = some (.ref f) ∧ FnP K "_law_column" (top 31) f fd
  d_law_any : ∃ f fd, mg "_law_any" = some (.ref f) ∧ FnP K "_law_any" (top 32) f fd
  d_law_summary : ∃ f fd, mg "_law_summary" = some (.ref f) ∧ FnP K "_law_summary" (top 33) f fd
  d_law_copied : ∃ f fd, mg "_law_copied" = some (.ref f) ∧ FnP K "_law_copied" (top 34) f fd
  d_law_due : ∃ f fd, mg "_law_due" = some (.ref f) ∧ FnP K "_law_due" (top 35) f fd
  d_law_right : ∃ f fd, mg "_law_right" = some (.ref f) ∧ FnP K "_law_right" (top 36) f fd
  d_law : ∃ f fd, mg "law" = some (.ref f) ∧ FnP K "law" (top 37) f fd
section
variable {P : Program} {w : World} {K : PySem.W.Frag} {mg : Str → Option Value} {base : Heap}
theorem sc_is_integer : FnScope (["thing"] : List Str) (["thing"] : List Str) (defScope (top 6)) := C8.fnScope_by (by decide +kernel)
theorem ok_is_integer (c : Fx K mg) {f : Addr} {fd : FuncData} (F : FnP K "is_integer" (top 6) f fd) : FnOk P w K mg base (L2.CX P w) 1 f fd (["thing"] : List Str) (SpF K f_is_integer) := by
  refine fn_F F sc_is_integer fun cdv A outer s₀ H E hr => ?_
  have hN := sc_is_integer.nd
  have tk : Takes (cxOf (L2.CX P w) P w K mg base (["thing"] : List Str) "is_integer" (defScope (top 6)) f cdv A outer s₀ H E) (WE0 E) := takes_of rfl rfl rfl rfl
  have po : PassesOwn (model P w) _ _ (cxOf (L2.CX P w) P w K mg base (["thing"] : List Str) "is_integer" (defScope (top 6)) f cdv A outer s₀ H E).xe := passes_of rfl
  exact (bk_one (ds_ret (de_L (db_and (db_isi (T := "int") rfl (dv_pl (pe_var (i := 0) rfl (.inl rfl))) rfl c.b_isinstance rfl c.b_int rfl) (db_one (db_not (db_isi (T := "bool") rfl (dv_pl (pe_var (i := 0) rfl (.inl rfl))) rfl c.b_isinstance rfl c.b_bool rfl)))))))
theorem has_is_integer (c : Fx K mg) : Has P w K mg base "is_integer" 1 (["thing"] : List Str) (SpF K f_is_integer) := by
  obtain ⟨f, fd, hm, F⟩ := c.d_is_integer
  exact ⟨f, fd, hm, F.kp, F.bindsN fun _ _ _ _ _ _ us hl => match us, hl with | [_], _ => rfl, ok_is_integer c F⟩
theorem sc_is_from : FnScope (["low", "thing"] : List Str) (["low", "thing"] : List Str) (defScope (top 7)) := C8.fnScope_by (by decide +kernel)
theorem ok_is_from (c : Fx K mg) {f : Addr} {fd : FuncData} (F : FnP K "is_from" (top 7) f fd) : FnOk P w K mg base (L2.CX P w) 2 f fd (["low", "thing"] : List Str) (SpF K f_is_from) := by
  refine fn_F F sc_is_from fun cdv A outer s₀ H E hr => ?_
  have hN := sc_is_from.nd
  have tk : Takes (cxOf (L2.CX P w) P w K mg base (["low", "thing"] : List Str) "is_from" (defScope (top 7)) f cdv A outer s₀ H E) (WE0 E) := takes_of rfl rfl rfl rfl
  have po : PassesOwn (model P w) _ _ (cxOf (L2.CX P w) P w K mg base (["low", "thing"] : List Str) "is_from" (defScope (top 7)) f cdv A outer s₀ H E).xe := passes_of rfl
  exact (bk_one (ds_ret (de_L (db_and (db_E (de_call rfl (has_is_integer c) (hr.mono (by decide)) tk rfl (da_cons (dv_ex (de_var (pe_var (i := 1) rfl (.inl rfl)))) da_nil))) (db_one (db_cmp od_ge (dv_pl (pe_var (i := 1) rfl (.inl rfl))) (dv_pl (pe_var (i := 0) rfl (.inl rfl))) rfl))))))
theorem has_is_from (c : Fx K mg) : Has P w K mg base "is_from" 2 (["low", "thing"] : List Str) (SpF K f_is_from) := by
  obtain ⟨f, fd, hm, F⟩ := c.d_is_from
  exact ⟨f, fd, hm, F.kp, F.bindsN fun _ _ _ _ _ _ us hl => match us, hl with | [_, _], _ => rfl, ok_is_from c F⟩
theorem sc_is_below : FnScope (["many", "thing"] : List Str) (["many", "thing"] : List Str) (defScope (top 8)) := C8.fnScope_by (by decide +kernel)
theorem ok_is_below (c : Fx K mg) {f : Addr} {fd : FuncData} (F : FnP K "is_below" (top 8) f fd) : FnOk P w K mg base (L2.CX P w) 3 f fd (["many", "thing"] : List Str) (SpF K f_is_below) := by
  refine fn_F F sc_is_below fun cdv A outer s₀ H E hr => ?_
  have hN := sc_is_below.nd
  have tk : Takes (cxOf (L2.CX P w) P w K mg base (["many", "thing"] : List Str) "is_below" (defScope (top 8)) f cdv A outer s₀ H E) (WE0 E) := takes_of rfl rfl rfl rfl
  have po : PassesOwn (model P w) _ _ (cxOf (L2.CX P w) P w K mg base (["many", "thing"] : List Str) "is_below" (defScope (top 8)) f cdv A outer s₀ H E).xe := passes_of rfl
  exact (bk_one (ds_ret (de_L (db_and (db_E (de_call rfl (has_is_from c) (hr.mono (by decide)) tk rfl (da_cons (dv_ex de_int) (da_cons (dv_ex (de_var (pe_var (i := 1) rfl (.inl rfl)))) da_nil)))) (db_one (db_cmp od_lt (dv_pl (pe_var (i := 1) rfl (.inl rfl))) (dv_pl (pe_var (i := 0) rfl (.inl rfl))) rfl))))))
theorem has_is_below (c : Fx K mg) : Has P w K mg base "is_below" 3 (["many", "thing"] : List Str) (SpF K f_is_below) := by
  obtain ⟨f, fd, hm, F⟩ := c.d_is_below
  exact ⟨f, fd, hm, F.kp, F.bindsN fun _ _ _ _ _ _ us hl => match us, hl with | [_, _], _ => rfl, ok_is_below c F⟩
theorem sc_is_tuple : FnScope (["many", "thing"] : List Str) (["many", "thing"] : List Str) (defScope (top 9)) := C8.fnScope_by (by decide +kernel)
theorem ok_is_tuple (c : Fx K mg) {f : Addr} {fd : FuncData} (F : FnP K "is_tuple" (top 9) f fd) : FnOk P w K mg base (L2.CX P w) 1 f fd (["many", "thing"] : List Str) (SpF K f_is_tuple) := by
  refine fn_F F sc_is_tuple fun cdv A outer s₀ H E hr => ?_
  have hN := sc_is_tuple.nd
  have tk : Takes (cxOf (L2.CX P w) P w K mg base (["many", "thing"] : List Str) "is_tuple" (defScope (top 9)) f cdv A outer s₀ H E) (WE0 E) := takes_of rfl rfl rfl rfl
  have po : PassesOwn (model P w) _ _ (cxOf (L2.CX P w) P w K mg base (["many", "thing"] : List Str) "is_tuple" (defScope (top 9)) f cdv A outer s₀ H E).xe := passes_of rfl
  exact (bk_one (ds_ret (de_L (db_and (db_isi (T := "tuple") rfl (dv_pl (pe_var (i := 1) rfl (.inl rfl))) rfl c.b_isinstance rfl c.b_tuple rfl) (db_one (db_or (db_cmp od_isN (dv_pl (pe_var (i := 0) rfl (.inl rfl))) (dv_ex de_non) rfl) (db_one (db_cmp (od_eq rfl hr.units) (dv_ex (de_callB (cd_len rfl) rfl c.b_len rfl (da_cons (dv_pl (pe_var (i := 1) rfl (.inl rfl))) da_nil))) (dv_pl (pe_var (i := 0) rfl (.inl rfl))) rfl))))))))
theorem has_is_tuple (c : Fx K mg) : Has P w K mg base "is_tuple" 1 (["many", "thing"] : List Str) (SpF K f_is_tuple) := by
  obtain ⟨f, fd, hm, F⟩ := c.d_is_tuple
  exact ⟨f, fd, hm, F.kp, F.bindsN fun _ _ _ _ _ _ us hl => match us, hl with | [_, _], _ => rfl, ok_is_tuple c F⟩
theorem sc_is_row : FnScope (["many", "thing", "one"] : List Str) (["many", "thing"] : List Str) (defScope (top 10)) := C8.fnScope_by (by decide +kernel)
theorem ok_is_row (c : Fx K mg) {f : Addr} {fd : FuncData} (F : FnP K "is_row" (top 10) f fd) : FnOk P w K mg base (L2.CX P w) 4 f fd (["many", "thing"] : List Str) (SpF K f_is_row) := by
  refine fn_F F sc_is_row fun cdv A outer s₀ H E hr => ?_
  have hN := sc_is_row.nd
  have tk : Takes (cxOf (L2.CX P w) P w K mg base (["many", "thing", "one"] : List Str) "is_row" (defScope (top 10)) f cdv A outer s₀ H E) (WE0 E) := takes_of rfl rfl rfl rfl
  have po : PassesOwn (model P w) _ _ (cxOf (L2.CX P w) P w K mg base (["many", "thing", "one"] : List Str) "is_row" (defScope (top 10)) f cdv A outer s₀ H E).xe := passes_of rfl
  exact (bk_one (ds_ret (de_L (db_and (db_isi (T := "tuple") rfl (dv_pl (pe_var (i := 1) rfl (.inl rfl))) rfl c.b_isinstance rfl c.b_tuple rfl) (db_one (db_E (de_callB (cd_all rfl rfl) rfl c.b_all rfl (da_cons (dv_ex (de_fz (do_lc rfl hN (di_seq rfl (de_var (pe_var (i := 1) rfl (.inl rfl)))) (own := [("one", 2)]) (blkOk_by (by kernel_rfl)) rfl rfl (fun _ _ _ _ _ => (dg_nm (i := 2) hN rfl (.inl rfl) rfl)) (fun _ _ _ _ _ => dts_nil) (fun _ _ _ _ _ => (de_call rfl (has_is_below c) (hr.mono (by decide)) takes0 rfl (da_cons (dv_ex (de_var (pe_var (i := 0) rfl (.inr (.inl rfl))))) (da_cons (dv_ex (de_var (pe_var (i := 2) rfl (.inl rfl)))) da_nil))))))) da_nil))))))))
theorem has_is_row (c : Fx K mg) : Has P w K mg base "is_row" 4 (["many", "thing"] : List Str) (SpF K f_is_row) := by
  obtain ⟨f, fd, hm, F⟩ := c.d_is_row
  exact ⟨f, fd, hm, F.kp, F.bindsN fun _ _ _ _ _ _ us hl => match us, hl with | [_, _], _ => rfl, ok_is_row c F⟩
theorem sc_row_fault : FnScope (["many", "thing", "index", "one"] : List Str) (["many", "thing"] : List Str) (defScope (top 11)) := C8.fnScope_by (by decide +kernel)
theorem ok_row_fault (c : Fx K mg) {f : Addr} {fd : FuncData} (F : FnP K "row_fault" (top 11) f fd) : FnOk P w K mg base (L2.CX P w) 4 f fd (["many", "thing"] : List Str) (SpF K f_row_fault) := by
  refine fn_F F sc_row_fault fun cdv A outer s₀ H E hr => ?_
  have hN := sc_row_fault.nd
  have tk : Takes (cxOf (L2.CX P w) P w K mg base (["many", "thing", "index", "one"] : List Str) "row_fault" (defScope (top 11)) f cdv A outer s₀ H E) (WE0 E) := takes_of rfl rfl rfl rfl
  have po : PassesOwn (model P w) _ _ (cxOf (L2.CX P w) P w K mg base (["many", "thing", "index", "one"] : List Str) "row_fault" (defScope (top 11)) f cdv A outer s₀ H E).xe := passes_of rfl
  exact (bk_cons (ds_if (dt_not (dt_L (db_isi (T := "tuple") rfl (dv_pl (pe_var (i := 1) rfl (.inl rfl))) rfl c.b_isinstance rfl c.b_tuple rfl)))
 (bk_one (ds_ret (de_neg de_int)))
 bk_nil)
 (bk_cons (ds_for po rfl (di_enum rfl rfl c.b_enumerate (de_var (pe_var (i := 1) rfl (.inl rfl)))) (dg_tp rfl rfl (dgs_cons (dg_nm (i := 2) hN rfl (.inl rfl) rfl) (dgs_cons (dg_nm (i := 3) hN rfl (.inl rfl) rfl) dgs_nil)))
 (bk_one (ds_if (dt_not (dt_L (db_E (de_call rfl (has_is_below c) (hr.mono (by decide)) tk rfl (da_cons (dv_ex (de_var (pe_var (i := 0) rfl (.inl rfl)))) (da_cons (dv_ex (de_var (pe_var (i := 3) rfl (.inl rfl)))) da_nil))))))
 (bk_one (ds_ret (de_var (pe_var (i := 2) rfl (.inl rfl)))))
 bk_nil)))
 (bk_one (ds_ret de_non))))
theorem has_row_fault (c : Fx K mg) : Has P w K mg base "row_fault" 4 (["many", "thing"] : List Str) (SpF K f_row_fault) := by
  obtain ⟨f, fd, hm, F⟩ := c.d_row_fault
  exact ⟨f, fd, hm, F.kp, F.bindsN fun _ _ _ _ _ _ us hl => match us, hl with | [_, _], _ => rfl, ok_row_fault c F⟩
theorem sc_check_number : FnScope (["thing"] : List Str) (["thing"] : List Str) (defScope (top 12)) := C8.fnScope_by (by decide +kernel)
theorem ok_check_number (c : Fx K mg) {f : Addr} {fd : FuncData} (F : FnP K "check_number" (top 12) f fd) : FnOk P w K mg base (L2.CX P w) 3 f fd (["thing"] : List Str) (SpF K f_check_number) := by
  refine fn_F F sc_check_number fun cdv A outer s₀ H E hr => ?_
  have hN := sc_check_number.nd
  have tk : Takes (cxOf (L2.CX P w) P w K mg base (["thing"] : List Str) "check_number" (defScope (top 12)) f cdv A outer s₀ H E) (WE0 E) := takes_of rfl rfl rfl rfl
  have po : PassesOwn (model P w) _ _ (cxOf (L2.CX P w) P w K mg base (["thing"] : List Str) "check_number" (defScope (top 12)) f cdv A outer s₀ H E).xe := passes_of rfl
  exact (bk_one (ds_if (dt_not (dt_L (db_E (de_call rfl (has_is_from c) (hr.mono (by decide)) tk rfl (da_cons (dv_ex de_int) (da_cons (dv_ex (de_var (pe_var (i := 0) rfl (.inl rfl)))) da_nil))))))
 (bk_one ds_no)
 bk_nil))
theorem has_check_number (c : Fx K mg) : Has P w K mg base "check_number" 3 (["thing"] : List Str) (SpF K f_check_number) := by
  obtain ⟨f, fd, hm, F⟩ := c.d_check_number
  exact ⟨f, fd, hm, F.kp, F.bindsN fun _ _ _ _ _ _ us hl => match us, hl with | [_], _ => rfl, ok_check_number c F⟩
theorem sc_check_log : FnScope (["events", "thing", "index"] : List Str) (["events", "thing"] : List Str) (defScope (top 13)) := C8.fnScope_by (by decide +kernel)
theorem ok_check_log (c : Fx K mg) {f : Addr} {fd : FuncData} (F : FnP K "check_log" (top 13) f fd) : FnOk P w K mg base (L2.CX P w) 5 f fd (["events", "thing"] : List Str) (SpF K f_check_log) := by
  refine fn_F F sc_check_log fun cdv A outer s₀ H E hr => ?_
  have hN := sc_check_log.nd
  have tk : Takes (cxOf (L2.CX P w) P w K mg base (["events", "thing", "index"] : List Str) "check_log" (defScope (top 13)) f cdv A outer s₀ H E) (WE0 E) := takes_of rfl rfl rfl rfl
  have po : PassesOwn (model P w) _ _ (cxOf (L2.CX P w) P w K mg base (["events", "thing", "index"] : List Str) "check_log" (defScope (top 13)) f cdv A outer s₀ H E).xe := passes_of rfl
  exact (bk_cons (ds_set (i := 2) hN rfl (.inl rfl) rfl (de_call rfl (has_row_fault c) (hr.mono (by decide)) tk rfl (da_cons (dv_ex (de_var (pe_var (i := 0) rfl (.inl rfl)))) (da_cons (dv_ex (de_var (pe_var (i := 1) rfl (.inl rfl)))) da_nil))))
 (bk_one (ds_if (dt_cmp od_isnN (dv_pl (pe_var (i := 2) rfl (.inl rfl))) (dv_ex de_non) rfl)
 (bk_one ds_no)
 bk_nil)))
theorem has_check_log (c : Fx K mg) : Has P w K mg base "check_log" 5 (["events", "thing"] : List Str) (SpF K f_check_log) := by
  obtain ⟨f, fd, hm, F⟩ := c.d_check_log
  exact ⟨f, fd, hm, F.kp, F.bindsN fun _ _ _ _ _ _ us hl => match us, hl with | [_, _], _ => rfl, ok_check_log c F⟩
theorem sc_summary_fault : FnScope (["value", "state", "row", "one"] : List Str) (["value"] : List Str) (defScope (top 15)) := C8.fnScope_by (by decide +kernel)
theorem ok_summary_fault (c : Fx K mg) {f : Addr} {fd : FuncData} (F : FnP K "summary_fault" (top 15) f fd) : FnOk P w K mg base (L2.CX P w) 5 f fd (["value"] : List Str) (SpF K f_summary_fault) := by
  refine fn_F F sc_summary_fault fun cdv A outer s₀ H E hr => ?_
  have hN := sc_summary_fault.nd
  have tk : Takes (cxOf (L2.CX P w) P w K mg base (["value", "state", "row", "one"] : List Str) "summary_fault" (defScope (top 15)) f cdv A outer s₀ H E) (WE0 E) := takes_of rfl rfl rfl rfl
  have po : PassesOwn (model P w) _ _ (cxOf (L2.CX P w) P w K mg base (["value", "state", "row", "one"] : List Str) "summary_fault" (defScope (top 15)) f cdv A outer s₀ H E).xe := passes_of rfl
  exact (bk_cons (ds_if (dt_not (dt_L (db_E (de_call rfl (has_is_tuple c) (hr.mono (by decide)) tk rfl (da_cons (dv_ex de_int) (da_cons (dv_ex (de_var (pe_var (i := 0) rfl (.inl rfl)))) da_nil))))))
 (bk_one (ds_ret (de_tup da_nil)))
 bk_nil)
 (bk_cons (ds_if (dt_not (dt_L (db_E (de_call rfl (has_is_from c) (hr.mono (by decide)) tk rfl (da_cons (dv_ex de_int) (da_cons (dv_ex (de_ix rfl (dv_pl (pe_var (i := 0) rfl (.inl rfl))) (dv_ex de_int) (fun _ _ => rfl))) da_nil))))))
 (bk_one (ds_ret (de_tup (da_cons (dv_ex de_int) da_nil))))
 bk_nil)
 (bk_cons (ds_if (dt_W (dw_or (dt_not (dt_L (db_isi (T := "tuple") rfl (dv_ex (de_ix rfl (dv_pl (pe_var (i := 0) rfl (.inl rfl))) (dv_ex de_int) (fun _ _ => rfl))) rfl c.b_isinstance rfl c.b_tuple rfl))) (dw_or1 (dt_cmp (od_eq rfl hr.units) (dv_ex (de_ix rfl (dv_pl (pe_var (i := 0) rfl (.inl rfl))) (dv_ex de_int) (fun _ _ => rfl))) (dv_ex (de_tup da_nil)) rfl))))
 (bk_one (ds_ret (de_tup (da_cons (dv_ex de_int) da_nil))))
 bk_nil)
 (bk_cons (ds_for po rfl (di_enum rfl rfl c.b_enumerate (de_ix rfl (dv_pl (pe_var (i := 0) rfl (.inl rfl))) (dv_ex de_int) (fun _ _ => rfl))) (dg_tp rfl rfl (dgs_cons (dg_nm (i := 1) hN rfl (.inl rfl) rfl) (dgs_cons (dg_nm (i := 2) hN rfl (.inl rfl) rfl) dgs_nil)))
 (bk_one (ds_if (dt_W (dw_or (dt_not (dt_L (db_E (de_call rfl (has_is_tuple c) (hr.mono (by decide)) tk rfl (da_cons (dv_ex (de_ix rfl (dv_pl (pe_var (i := 0) rfl (.inl rfl))) (dv_ex de_int) (fun _ _ => rfl))) (da_cons (dv_ex (de_var (pe_var (i := 2) rfl (.inl rfl)))) da_nil)))))) (dw_or1 (dt_not (dt_L (db_E (de_call rfl (has_is_row c) (hr.mono (by decide)) tk rfl (da_cons (dv_ex (de_callB (cd_len rfl) rfl c.b_len rfl (da_cons (dv_ex (de_ix rfl (dv_pl (pe_var (i := 0) rfl (.inl rfl))) (dv_ex de_int) (fun _ _ => rfl))) da_nil))) (da_cons (dv_ex (de_var (pe_var (i := 2) rfl (.inl rfl)))) da_nil)))))))))
 (bk_one (ds_ret (de_tup (da_cons (dv_ex de_int) (da_cons (dv_ex (de_var (pe_var (i := 1) rfl (.inl rfl)))) da_nil)))))
 bk_nil)))
 (bk_cons (ds_if (dt_not (dt_L (db_E (de_call rfl (has_is_tuple c) (hr.mono (by decide)) tk rfl (da_cons (dv_ex (de_callB (cd_len rfl) rfl c.b_len rfl (da_cons (dv_ex (de_ix rfl (dv_pl (pe_var (i := 0) rfl (.inl rfl))) (dv_ex de_int) (fun _ _ => rfl))) da_nil))) (da_cons (dv_ex (de_ix rfl (dv_pl (pe_var (i := 0) rfl (.inl rfl))) (dv_ex de_int) (fun _ _ => rfl))) da_nil))))))
 (bk_one (ds_ret (de_tup (da_cons (dv_ex de_int) da_nil))))
 bk_nil)
 (bk_cons (ds_for po rfl (di_enum rfl rfl c.b_enumerate (de_ix rfl (dv_pl (pe_var (i := 0) rfl (.inl rfl))) (dv_ex de_int) (fun _ _ => rfl))) (dg_tp rfl rfl (dgs_cons (dg_nm (i := 1) hN rfl (.inl rfl) rfl) (dgs_cons (dg_nm (i := 3) hN rfl (.inl rfl) rfl) dgs_nil)))
 (bk_one (ds_if (dt_not (dt_L (db_E (de_call rfl (has_is_from c) (hr.mono (by decide)) tk rfl (da_cons (dv_ex de_int) (da_cons (dv_ex (de_var (pe_var (i := 3) rfl (.inl rfl)))) da_nil))))))
 (bk_one (ds_ret (de_tup (da_cons (dv_ex de_int) (da_cons (dv_ex (de_var (pe_var (i := 1) rfl (.inl rfl)))) da_nil)))))
 bk_nil)))
 (bk_one (ds_ret de_non))))))))
theorem has_summary_fault (c : Fx K mg) : Has P w K mg base "summary_fault" 5 (["value"] : List Str) (SpF K f_summary_fault) := by
  obtain ⟨f, fd, hm, F⟩ := c.d_summary_fault
  exact ⟨f, fd, hm, F.kp, F.bindsN fun _ _ _ _ _ _ us hl => match us, hl with | [_], _ => rfl, ok_summary_fault c F⟩
theorem sc_check_summary : FnScope (["thing", "place"] : List Str) (["thing"] : List Str) (defScope (top 16)) := C8.fnScope_by (by decide +kernel)
theorem ok_check_summary (c : Fx K mg) {f : Addr} {fd : FuncData} (F : FnP K "check_summary" (top 16) f fd) : FnOk P w K mg base (L2.CX P w) 6 f fd (["thing"] : List Str) (SpF K f_check_summary) := by
  refine fn_F F sc_check_summary fun cdv A outer s₀ H E hr => ?_
  have hN := sc_check_summary.nd
  have tk : Takes (cxOf (L2.CX P w) P w K mg base (["thing", "place"] : List Str) "check_summary" (defScope (top 16)) f cdv A outer s₀ H E) (WE0 E) := takes_of rfl rfl rfl rfl
  have po : PassesOwn (model P w) _ _ (cxOf (L2.CX P w) P w K mg base (["thing", "place"] : List Str) "check_summary" (defScope (top 16)) f cdv A outer s₀ H E).xe := passes_of rfl
  exact (bk_cons (ds_set (i := 1) hN rfl (.inl rfl) rfl (de_call rfl (has_summary_fault c) (hr.mono (by decide)) tk rfl (da_cons (dv_ex (de_var (pe_var (i := 0) rfl (.inl rfl)))) da_nil)))
 (bk_one (ds_if (dt_cmp od_isnN (dv_pl (pe_var (i := 1) rfl (.inl rfl))) (dv_ex de_non) rfl)
 (bk_one ds_no)
 bk_nil)))
theorem has_check_summary (c : Fx K mg) : Has P w K mg base "check_summary" 6 (["thing"] : List Str) (SpF K f_check_summary) := by
  obtain ⟨f, fd, hm, F⟩ := c.d_check_summary
  exact ⟨f, fd, hm, F.kp, F.bindsN fun _ _ _ _ _ _ us hl => match us, hl with | [_], _ => rfl, ok_check_summary c F⟩
theorem sc_check_read : FnScope (["summary", "log"] : List Str) (["summary", "log"] : List Str) (defScope (top 17)) := C8.fnScope_by (by decide +kernel)
theorem ok_check_read (c : Fx K mg) {f : Addr} {fd : FuncData} (F : FnP K "check_read" (top 17) f fd) : FnOk P w K mg base (L2.CX P w) 7 f fd (["summary", "log"] : List Str) (SpF K f_check_read) := by
  refine fn_F F sc_check_read fun cdv A outer s₀ H E hr => ?_
  have hN := sc_check_read.nd
  have tk : Takes (cxOf (L2.CX P w) P w K mg base (["summary", "log"] : List Str) "check_read" (defScope (top 17)) f cdv A outer s₀ H E) (WE0 E) := takes_of rfl rfl rfl rfl
  have po : PassesOwn (model P w) _ _ (cxOf (L2.CX P w) P w K mg base (["summary", "log"] : List Str) "check_read" (defScope (top 17)) f cdv A outer s₀ H E).xe := passes_of rfl
  exact (bk_cons (ds_expr (de_call rfl (has_check_summary c) (hr.mono (by decide)) tk rfl (da_cons (dv_ex (de_var (pe_var (i := 0) rfl (.inl rfl)))) da_nil)))
 (bk_one (ds_expr (de_call rfl (has_check_log c) (hr.mono (by decide)) tk rfl (da_cons (dv_ex (de_ix rfl (dv_pl (pe_var (i := 0) rfl (.inl rfl))) (dv_ex de_int) (fun _ _ => rfl))) (da_cons (dv_ex (de_var (pe_var (i := 1) rfl (.inl rfl)))) da_nil))))))
theorem has_check_read (c : Fx K mg) : Has P w K mg base "check_read" 7 (["summary", "log"] : List Str) (SpF K f_check_read) := by
  obtain ⟨f, fd, hm, F⟩ := c.d_check_read
  exact ⟨f, fd, hm, F.kp, F.bindsN fun _ _ _ _ _ _ us hl => match us, hl with | [_, _], _ => rfl, ok_check_read c F⟩
theorem sc_led : FnScope (["summary", "state", "log", "event"] : List Str) (["summary", "state", "log"] : List Str) (defScope (top 18)) := C8.fnScope_by (by decide +kernel)
theorem ok_led (c : Fx K mg) {f : Addr} {fd : FuncData} (F : FnP K "led" (top 18) f fd) : FnOk P w K mg base (L2.CX P w) 1 f fd (["summary", "state", "log"] : List Str) (SpF K f_led) := by
  refine fn_F F sc_led fun cdv A outer s₀ H E hr => ?_
  have hN := sc_led.nd
  have tk : Takes (cxOf (L2.CX P w) P w K mg base (["summary", "state", "log", "event"] : List Str) "led" (defScope (top 18)) f cdv A outer s₀ H E) (WE0 E) := takes_of rfl rfl rfl rfl
  have po : PassesOwn (model P w) _ _ (cxOf (L2.CX P w) P w K mg base (["summary", "state", "log", "event"] : List Str) "led" (defScope (top 18)) f cdv A outer s₀ H E).xe := passes_of rfl
  exact (bk_cons (ds_for po rfl (di_seq rfl (de_var (pe_var (i := 2) rfl (.inl rfl)))) (dg_nm (i := 3) hN rfl (.inl rfl) rfl)
 (bk_one (ds_set (i := 1) hN rfl (.inl rfl) rfl (de_ix rfl (dv_ex (de_ix rfl (dv_ex (de_ix rfl (dv_pl (pe_var (i := 0) rfl (.inl rfl))) (dv_ex de_int) (fun _ _ => rfl))) (dv_pl (pe_var (i := 1) rfl (.inl rfl))) (fun _ _ => rfl))) (dv_pl (pe_var (i := 3) rfl (.inl rfl))) (fun _ _ => rfl)))))
 (bk_one (ds_ret (de_var (pe_var (i := 1) rfl (.inl rfl))))))
theorem has_led (c : Fx K mg) : Has P w K mg base "led" 1 (["summary", "state", "log"] : List Str) (SpF K f_led) := by
  obtain ⟨f, fd, hm, F⟩ := c.d_led
  exact ⟨f, fd, hm, F.kp, F.bindsN fun _ _ _ _ _ _ us hl => match us, hl with | [_, _, _], _ => rfl, ok_led c F⟩
theorem sc_answer_in : FnScope (["summary", "log"] : List Str) (["summary", "log"] : List Str) (defScope (top 19)) := C8.fnScope_by (by decide +kernel)
theorem ok_answer_in (c : Fx K mg) {f : Addr} {fd : FuncData} (F : FnP K "answer_in" (top 19) f fd) : FnOk P w K mg base (L2.CX P w) 2 f fd (["summary", "log"] : List Str) (SpF K f_answer_in) := by
  refine fn_F F sc_answer_in fun cdv A outer s₀ H E hr => ?_
  have hN := sc_answer_in.nd
  have tk : Takes (cxOf (L2.CX P w) P w K mg base (["summary", "log"] : List Str) "answer_in" (defScope (top 19)) f cdv A outer s₀ H E) (WE0 E) := takes_of rfl rfl rfl rfl
  have po : PassesOwn (model P w) _ _ (cxOf (L2.CX P w) P w K mg base (["summary", "log"] : List Str) "answer_in" (defScope (top 19)) f cdv A outer s₀ H E).xe := passes_of rfl
  exact (bk_one (ds_ret (de_ix rfl (dv_ex (de_ix rfl (dv_pl (pe_var (i := 0) rfl (.inl rfl))) (dv_ex de_int) (fun _ _ => rfl))) (dv_ex (de_call rfl (has_led c) (hr.mono (by decide)) tk rfl (da_cons (dv_ex (de_var (pe_var (i := 0) rfl (.inl rfl)))) (da_cons (dv_ex de_int) (da_cons (dv_ex (de_var (pe_var (i := 1) rfl (.inl rfl)))) da_nil))))) (fun _ _ => rfl))))
theorem has_answer_in (c : Fx K mg) : Has P w K mg base "answer_in" 2 (["summary", "log"] : List Str) (SpF K f_answer_in) := by
  obtain ⟨f, fd, hm, F⟩ := c.d_answer_in
  exact ⟨f, fd, hm, F.kp, F.bindsN fun _ _ _ _ _ _ us hl => match us, hl with | [_, _], _ => rfl, ok_answer_in c F⟩
theorem sc_answers_along : FnScope (["summary", "log", "state", "found", "event"] : List Str) (["summary", "log"] : List Str) (defScope (top 20)) := C8.fnScope_by (by decide +kernel)
theorem ok_answers_along (c : Fx K mg) {f : Addr} {fd : FuncData} (F : FnP K "answers_along" (top 20) f fd) : FnOk P w K mg base (L2.CX P w) 8 f fd (["summary", "log"] : List Str) (SpO K f_answers_along) := by
  refine fn_O F sc_answers_along fun cdv A outer s₀ H E hr => ?_
  have hN := sc_answers_along.nd
  have tk : Takes (cxOf (L2.CX P w) P w K mg base (["summary", "log", "state", "found", "event"] : List Str) "answers_along" (defScope (top 20)) f cdv A outer s₀ H E) (WE0 E) := takes_of rfl rfl rfl rfl
  have po : PassesOwn (model P w) _ _ (cxOf (L2.CX P w) P w K mg base (["summary", "log", "state", "found", "event"] : List Str) "answers_along" (defScope (top 20)) f cdv A outer s₀ H E).xe := passes_of rfl
  exact (bk_cons (ds_expr (de_call rfl (has_check_read c) (hr.mono (by decide)) tk rfl (da_cons (dv_ex (de_var (pe_var (i := 0) rfl (.inl rfl)))) (da_cons (dv_ex (de_var (pe_var (i := 1) rfl (.inl rfl)))) da_nil))))
 (bk_cons (ds_par2 (i := 2) (j := 3) rfl hN rfl rfl (by decide) rfl rfl rfl (dm_fz de_int (dm_op (do_lst (da_cons (dv_ex (de_ix rfl (dv_ex (de_ix rfl (dv_pl (pe_var (i := 0) rfl (.inl rfl))) (dv_ex de_int) (fun _ _ => rfl))) (dv_ex de_int) (fun _ _ => rfl))) da_nil)) dm_nil)) rfl)
 (bk_cons (ds_for po rfl (di_seq rfl (de_var (pe_var (i := 1) rfl (.inl rfl)))) (dg_nm (i := 4) hN rfl (.inl rfl) rfl)
 (bk_cons (ds_set (i := 2) hN rfl (.inl rfl) rfl (de_ix rfl (dv_ex (de_ix rfl (dv_ex (de_ix rfl (dv_pl (pe_var (i := 0) rfl (.inl rfl))) (dv_ex de_int) (fun _ _ => rfl))) (dv_pl (pe_var (i := 2) rfl (.inl rfl))) (fun _ _ => rfl))) (dv_pl (pe_var (i := 4) rfl (.inl rfl))) (fun _ _ => rfl)))
 (bk_one (ds_expr (de_mutL rfl PySem.F.slot_list_append PySem.F.type_list_append md_append (pe_var (i := 3) rfl (.inl rfl)) (da_cons (dv_ex (de_ix rfl (dv_ex (de_ix rfl (dv_pl (pe_var (i := 0) rfl (.inl rfl))) (dv_ex de_int) (fun _ _ => rfl))) (dv_pl (pe_var (i := 2) rfl (.inl rfl))) (fun _ _ => rfl))) da_nil))))))
 (bk_one (ds_retV (i := 3) rfl (pe_var (i := 3) rfl (.inl rfl)))))))
theorem has_answers_along (c : Fx K mg) : Has P w K mg base "answers_along" 8 (["summary", "log"] : List Str) (SpO K f_answers_along) := by
  obtain ⟨f, fd, hm, F⟩ := c.d_answers_along
  exact ⟨f, fd, hm, F.kp, F.bindsN fun _ _ _ _ _ _ us hl => match us, hl with | [_, _], _ => rfl, ok_answers_along c F⟩
theorem sc_window_answers : FnScope (["summary", "log", "number", "at"] : List Str) (["summary", "log", "number"] : List Str) (defScope (top 22)) := C8.fnScope_by (by decide +kernel)
theorem ok_window_answers (c : Fx K mg) {f : Addr} {fd : FuncData} (F : FnP K "window_answers" (top 22) f fd) : FnOk P w K mg base (L2.CX P w) 8 f fd (["summary", "log", "number"] : List Str) (SpO K f_window_answers) := by
  refine fn_O F sc_window_answers fun cdv A outer s₀ H E hr => ?_
  have hN := sc_window_answers.nd
  have tk : Takes (cxOf (L2.CX P w) P w K mg base (["summary", "log", "number", "at"] : List Str) "window_answers" (defScope (top 22)) f cdv A outer s₀ H E) (WE0 E) := takes_of rfl rfl rfl rfl
  have po : PassesOwn (model P w) _ _ (cxOf (L2.CX P w) P w K mg base (["summary", "log", "number", "at"] : List Str) "window_answers" (defScope (top 22)) f cdv A outer s₀ H E).xe := passes_of rfl
  exact (bk_cons (ds_expr (de_call rfl (has_check_read c) (hr.mono (by decide)) tk rfl (da_cons (dv_ex (de_var (pe_var (i := 0) rfl (.inr (.inl rfl))))) (da_cons (dv_ex (de_var (pe_var (i := 1) rfl (.inr (.inl rfl))))) da_nil))))
 (bk_cons (ds_expr (de_call rfl (has_check_number c) (hr.mono (by decide)) tk rfl (da_cons (dv_ex (de_var (pe_var (i := 2) rfl (.inr (.inl rfl))))) da_nil)))
 (bk_one (ds_retO (do_lc rfl hN (di_range1 rfl c.b_range (da_cons (dv_ex (de_bin (od_add rfl) (dv_ex (de_callB (cd_len rfl) rfl c.b_len rfl (da_cons (dv_pl (pe_var (i := 1) rfl (.inr (.inl rfl)))) da_nil))) (dv_ex de_int))) da_nil)) (own := [("at", 3)]) (blkOk_by (by kernel_rfl)) rfl rfl (fun _ _ _ _ _ => (dg_nm (i := 3) hN rfl (.inl rfl) rfl)) (fun _ _ _ _ _ => dts_nil) (fun _ _ _ _ _ => (de_call rfl (has_answer_in c) (hr.mono (by decide)) takes0 rfl (da_cons (dv_ex (de_var (pe_var (i := 0) rfl (.inr (.inl rfl))))) (da_cons (dv_ex (de_sl rfl (dv_pl (pe_var (i := 1) rfl (.inr (.inl rfl)))) (dp_some (de_callB (cd_max2 rfl) rfl c.b_max rfl (da_cons (dv_ex de_int) (da_cons (dv_ex (de_bin od_sub (dv_pl (pe_var (i := 3) rfl (.inl rfl))) (dv_pl (pe_var (i := 2) rfl (.inr (.inl rfl)))))) da_nil)))) (dp_some (de_var (pe_var (i := 3) rfl (.inl rfl)))))) da_nil)))))))))
theorem has_window_answers (c : Fx K mg) : Has P w K mg base "window_answers" 8 (["summary", "log", "number"] : List Str) (SpO K f_window_answers) := by
  obtain ⟨f, fd, hm, F⟩ := c.d_window_answers
  exact ⟨f, fd, hm, F.kp, F.bindsN fun _ _ _ _ _ _ us hl => match us, hl with | [_, _, _], _ => rfl, ok_window_answers c F⟩
theorem hask_window_answers_0_number_summary_log (c : Fx K mg) : HasK P w K mg base "window_answers" 8 (["summary", "log", "number"] : List Str) (["number", "summary", "log"] : List Str) 0 [1, 2, 0] (SpO K f_window_answers) := by
  obtain ⟨f, fd, hm, F⟩ := c.d_window_answers
  exact ⟨f, fd, hm, F.kp, F.kbs fun _ _ _ _ _ _ us ws h1 h2 => match us, ws, h1, h2 with | [], [_, _, _], _, _ => rfl, ok_window_answers c F⟩
theorem hask_window_answers_1_log_number (c : Fx K mg) : HasK P w K mg base "window_answers" 8 (["summary", "log", "number"] : List Str) (["log", "number"] : List Str) 1 [0, 1, 2] (SpO K f_window_answers) := by
  obtain ⟨f, fd, hm, F⟩ := c.d_window_answers
  exact ⟨f, fd, hm, F.kp, F.kbs fun _ _ _ _ _ _ us ws h1 h2 => match us, ws, h1, h2 with | [_], [_, _], _, _ => rfl, ok_window_answers c F⟩
theorem sc_law_purse : FnScope (["script", "at", "stirred", "cell", "own"] : List Str) (["script", "at"] : List Str) (defScope (top 24)) := C8.fnScope_by (by decide +kernel)
theorem ok_law_purse (c : Fx K mg) {f : Addr} {fd : FuncData} (F : FnP K "_law_purse" (top 24) f fd) : FnOk P w K mg base (L2.CX P w) 1 f fd (["script", "at"] : List Str) (SpO K f_law_purse) := by
  refine fn_O F sc_law_purse fun cdv A outer s₀ H E hr => ?_
  have hN := sc_law_purse.nd
  have tk : Takes (cxOf (L2.CX P w) P w K mg base (["script", "at", "stirred", "cell", "own"] : List Str) "_law_purse" (defScope (top 24)) f cdv A outer s₀ H E) (WE0 E) := takes_of rfl rfl rfl rfl
  have po : PassesOwn (model P w) _ _ (cxOf (L2.CX P w) P w K mg base (["script", "at", "stirred", "cell", "own"] : List Str) "_law_purse" (defScope (top 24)) f cdv A outer s₀ H E).xe := passes_of rfl
  exact (bk_cons (ds_set (i := 2) hN rfl (.inl rfl) rfl (de_bin (od_add rfl) (dv_ex (de_bin (od_add rfl) (dv_ex (de_bin od_mul (dv_ex de_int) (dv_pl (pe_var (i := 1) rfl (.inl rfl))))) (dv_ex (de_bin od_mul (dv_ex de_int) (dv_ex (de_callB (cd_len rfl) rfl c.b_len rfl (da_cons (dv_ex (de_sl rfl (dv_pl (pe_var (i := 0) rfl (.inl rfl))) dp_none (dp_some de_int))) da_nil))))))) (dv_ex de_int)))
 (bk_cons (ds_for po rfl (di_seq rfl (de_sl rfl (dv_pl (pe_var (i := 0) rfl (.inl rfl))) dp_none (dp_some de_int))) (dg_nm (i := 3) hN rfl (.inl rfl) rfl)
 (bk_one (ds_set (i := 2) hN rfl (.inl rfl) rfl (de_bin od_mod (dv_ex (de_callTy cd_int rfl c.b_int rfl (da_cons (dv_ex (de_bin (od_add rfl) (dv_ex (de_bin (od_add rfl) (dv_ex (de_bin od_mul (dv_pl (pe_var (i := 2) rfl (.inl rfl))) (dv_ex de_int))) (dv_ex (de_bin od_mul (dv_ex (de_callTy cd_int rfl c.b_int rfl (da_cons (dv_pl (pe_var (i := 3) rfl (.inl rfl))) da_nil))) (dv_ex de_int))))) (dv_ex de_int))) da_nil))) (dv_ex (de_bin (od_add rfl) (dv_ex (de_bin od_pow (dv_ex de_int) (dv_ex de_int))) (dv_ex de_int)))))))
 (bk_cons (ds_set (i := 4) hN rfl (.inl rfl) rfl (de_if (dt_cmp od_lt (dv_pl (pe_var (i := 1) rfl (.inl rfl))) (dv_ex (de_callB (cd_len rfl) rfl c.b_len rfl (da_cons (dv_pl (pe_var (i := 0) rfl (.inl rfl))) da_nil))) rfl) (de_callB cd_abs rfl c.b_abs rfl (da_cons (dv_ex (de_callTy cd_int rfl c.b_int rfl (da_cons (dv_ex (de_ix rfl (dv_pl (pe_var (i := 0) rfl (.inl rfl))) (dv_pl (pe_var (i := 1) rfl (.inl rfl))) (fun _ _ => rfl))) da_nil))) da_nil)) de_int))
 (bk_one (ds_retO (do_lst (da_cons (dv_ex (de_callB (cd_max2 rfl) rfl c.b_max rfl (da_cons (dv_ex de_int) (da_cons (dv_ex (de_bin od_sub (dv_pl (pe_var (i := 4) rfl (.inl rfl))) (dv_ex (de_bin od_pow (dv_ex de_int) (dv_ex de_int))))) da_nil)))) (da_cons (dv_ex (de_var (pe_var (i := 2) rfl (.inl rfl)))) (da_cons (dv_ex de_int) da_nil)))))))))
theorem has_law_purse (c : Fx K mg) : Has P w K mg base "_law_purse" 1 (["script", "at"] : List Str) (SpO K f_law_purse) := by
  obtain ⟨f, fd, hm, F⟩ := c.d_law_purse
  exact ⟨f, fd, hm, F.kp, F.bindsN fun _ _ _ _ _ _ us hl => match us, hl with | [_, _], _ => rfl, ok_law_purse c F⟩
theorem sc_law_coin : FnScope (["purse", "many", "digit", "one", "two"] : List Str) (["purse", "many"] : List Str) (defScope (top 25)) := C8.fnScope_by (by decide +kernel)
theorem ok_law_coin (c : Fx K mg) {f : Addr} {fd : FuncData} (F : FnP K "_law_coin" (top 25) f fd) : FnOk P w K mg base (L2.CX P w) 1 f fd (["purse", "many"] : List Str) (SpI K f_law_coin) := by
  refine fn_I F sc_law_coin fun v0 cdv A outer s₀ H E hr => ?_
  have hN := sc_law_coin.nd
  have tk : Takes (cxOf (L2.CX P w) P w K mg base (["purse", "many", "digit", "one", "two"] : List Str) "_law_coin" (defScope (top 25)) f cdv A outer s₀ H E) (WE0 E) := takes_of rfl rfl rfl rfl
  have po : PassesOwn (model P w) _ _ (cxOf (L2.CX P w) P w K mg base (["purse", "many", "digit", "one", "two"] : List Str) "_law_coin" (defScope (top 25)) f cdv A outer s₀ H E).xe := passes_of rfl
  exact (bk_cons (ds_if (dt_cmp od_gt (dv_ex (de_ix rfl (dv_pl (pe_var (i := 0) rfl (.inl rfl))) (dv_ex de_int) (fun _ _ => rfl))) (dv_ex de_int) rfl)
 (bk_cons (ds_set (i := 2) hN rfl (.inl rfl) rfl (de_bin od_mod (dv_ex (de_callTy cd_int rfl c.b_int rfl (da_cons (dv_ex (de_ix rfl (dv_pl (pe_var (i := 0) rfl (.inl rfl))) (dv_ex de_int) (fun _ _ => rfl))) da_nil))) (dv_pl (pe_var (i := 1) rfl (.inl rfl)))))
 (bk_cons (ds_store (i := 0) (pe_var (i := 0) rfl (.inl rfl)) de_int (de_bin od_div (dv_ex (de_ix rfl (dv_pl (pe_var (i := 0) rfl (.inl rfl))) (dv_ex de_int) (fun _ _ => rfl))) (dv_pl (pe_var (i := 1) rfl (.inl rfl)))) (by intro _; rfl))
 (bk_one (ds_ret (de_var (pe_var (i := 2) rfl (.inl rfl)))))))
 bk_nil)
 (bk_cons (ds_store (i := 0) (pe_var (i := 0) rfl (.inl rfl)) de_int (de_bin (od_add rfl) (dv_ex (de_ix rfl (dv_pl (pe_var (i := 0) rfl (.inl rfl))) (dv_ex de_int) (fun _ _ => rfl))) (dv_ex de_int)) (by intro _; rfl))
 (bk_cons (ds_set (i := 3) hN rfl (.inl rfl) rfl (de_bin od_mod (dv_ex (de_callTy cd_int rfl c.b_int rfl (da_cons (dv_ex (de_bin (od_add rfl) (dv_ex (de_bin od_pow (dv_ex (de_bin (od_add rfl) (dv_ex (de_ix rfl (dv_pl (pe_var (i := 0) rfl (.inl rfl))) (dv_ex de_int) (fun _ _ => rfl))) (dv_ex (de_bin od_mul (dv_ex de_int) (dv_ex (de_ix rfl (dv_pl (pe_var (i := 0) rfl (.inl rfl))) (dv_ex de_int) (fun _ _ => rfl))))))) (dv_ex de_int))) (dv_ex (de_bin od_mul (dv_ex de_int) (dv_ex (de_ix rfl (dv_pl (pe_var (i := 0) rfl (.inl rfl))) (dv_ex de_int) (fun _ _ => rfl))))))) da_nil))) (dv_ex (de_bin (od_add rfl) (dv_ex (de_bin od_pow (dv_ex de_int) (dv_ex de_int))) (dv_ex de_int)))))
 (bk_cons (ds_set (i := 4) hN rfl (.inl rfl) rfl (de_bin od_mod (dv_ex (de_callTy cd_int rfl c.b_int rfl (da_cons (dv_ex (de_bin (od_add rfl) (dv_ex (de_bin od_pow (dv_pl (pe_var (i := 3) rfl (.inl rfl))) (dv_ex de_int))) (dv_ex (de_bin od_mul (dv_ex de_int) (dv_ex (de_ix rfl (dv_pl (pe_var (i := 0) rfl (.inl rfl))) (dv_ex de_int) (fun _ _ => rfl))))))) da_nil))) (dv_ex (de_bin (od_add rfl) (dv_ex (de_bin od_pow (dv_ex de_int) (dv_ex de_int))) (dv_ex de_int)))))
 (bk_one (ds_ret (de_bin od_mod (dv_ex (de_callTy cd_int rfl c.b_int rfl (da_cons (dv_ex (de_bin od_div (dv_pl (pe_var (i := 4) rfl (.inl rfl))) (dv_ex (de_bin od_pow (dv_ex de_int) (dv_ex de_int))))) da_nil))) (dv_pl (pe_var (i := 1) rfl (.inl rfl))))))))))
theorem has_law_coin (c : Fx K mg) : Has P w K mg base "_law_coin" 1 (["purse", "many"] : List Str) (SpI K f_law_coin) := by
  obtain ⟨f, fd, hm, F⟩ := c.d_law_coin
  exact ⟨f, fd, hm, F.kp, F.bindsN fun _ _ _ _ _ _ us hl => match us, hl with | [_, _], _ => rfl, ok_law_coin c F⟩
theorem sc_law_pick : FnScope (["purse", "things"] : List Str) (["purse", "things"] : List Str) (defScope (top 26)) := C8.fnScope_by (by decide +kernel)
theorem ok_law_pick (c : Fx K mg) {f : Addr} {fd : FuncData} (F : FnP K "_law_pick" (top 26) f fd) : FnOk P w K mg base (L2.CX P w) 2 f fd (["purse", "things"] : List Str) (SpI K f_law_pick) := by
  refine fn_I F sc_law_pick fun v0 cdv A outer s₀ H E hr => ?_
  have hN := sc_law_pick.nd
  have tk : Takes (cxOf (L2.CX P w) P w K mg base (["purse", "things"] : List Str) "_law_pick" (defScope (top 26)) f cdv A outer s₀ H E) (WE0 E) := takes_of rfl rfl rfl rfl
  have po : PassesOwn (model P w) _ _ (cxOf (L2.CX P w) P w K mg base (["purse", "things"] : List Str) "_law_pick" (defScope (top 26)) f cdv A outer s₀ H E).xe := passes_of rfl
  exact (bk_one (ds_ret (de_ix rfl (dv_pl (pe_var (i := 1) rfl (.inl rfl))) (dv_ex (de_callI rfl (has_law_coin c) (hr.mono (by decide)) tk rfl (da_cons (dv_pl (pe_var (i := 0) rfl (.inl rfl))) (da_cons (dv_ex (de_callB (cd_len rfl) rfl c.b_len rfl (da_cons (dv_pl (pe_var (i := 1) rfl (.inl rfl))) da_nil))) da_nil)))) (fun _ _ => rfl))))
theorem has_law_pick (c : Fx K mg) : Has P w K mg base "_law_pick" 2 (["purse", "things"] : List Str) (SpI K f_law_pick) := by
  obtain ⟨f, fd, hm, F⟩ := c.d_law_pick
  exact ⟨f, fd, hm, F.kp, F.bindsN fun _ _ _ _ _ _ us hl => match us, hl with | [_, _], _ => rfl, ok_law_pick c F⟩
theorem sc_law_same : FnScope (["found", "due", "k"] : List Str) (["found", "due"] : List Str) (defScope (top 27)) := C8.fnScope_by (by decide +kernel)
theorem has_law_same (c : Fx K mg) : ∀ n, Has P w K mg base "_law_same" (0 + n) (["found", "due"] : List Str) (SpF K (f_law_same n))
  | 0 => by
    obtain ⟨f, fd, hm, F⟩ := c.d_law_same
    exact ⟨f, fd, hm, F.kp, F.bindsN fun _ _ _ _ _ _ us hl => match us, hl with | [_, _], _ => rfl, ⟨fun vs H Q E h => (by obtain ⟨_, _, _, _, h⟩ := h; exact h.elim), fun _ _ _ _ _ _ _ _ _ _ _ _ _ h => (by obtain ⟨_, _, _, _, h⟩ := h; exact h.elim)⟩⟩
  | n + 1 => by
    have G0 : Has P w K mg base "_law_same" (0 + n) (["found", "due"] : List Str) (SpF K (f_law_same n)) := has_law_same c n
    obtain ⟨f, fd, hm, F⟩ := c.d_law_same
    refine ⟨f, fd, hm, F.kp, F.bindsN fun _ _ _ _ _ _ us hl => match us, hl with | [_, _], _ => rfl, fn_F F sc_law_same fun cdv A outer s₀ H E hr => ?_⟩
    have hN := sc_law_same.nd
    have tk : Takes (cxOf (L2.CX P w) P w K mg base (["found", "due", "k"] : List Str) "_law_same" (defScope (top 27)) f cdv A outer s₀ H E) (WE0 E) := takes_of rfl rfl rfl rfl
    have po : PassesOwn (model P w) _ _ (cxOf (L2.CX P w) P w K mg base (["found", "due", "k"] : List Str) "_law_same" (defScope (top 27)) f cdv A outer s₀ H E).xe := passes_of rfl
    exact (bk_cons (ds_if (dt_W (dw_or (dt_L (db_isi (T := "tuple") rfl (dv_pl (pe_var (i := 1) rfl (.inr (.inl rfl)))) rfl c.b_isinstance rfl c.b_tuple rfl)) (dw_or1 (dt_L (db_isi (T := "list") rfl (dv_pl (pe_var (i := 1) rfl (.inr (.inl rfl)))) rfl c.b_isinstance rfl c.b_list rfl)))))
 (bk_cons (ds_if (dt_W (dw_or (dt_cmp (od_ne rfl hr.units) (dv_ex (de_L (db_isi (T := "tuple") rfl (dv_pl (pe_var (i := 1) rfl (.inr (.inl rfl)))) rfl c.b_isinstance rfl c.b_tuple rfl))) (dv_ex (de_L (db_isi (T := "tuple") rfl (dv_pl (pe_var (i := 0) rfl (.inr (.inl rfl)))) rfl c.b_isinstance rfl c.b_tuple rfl))) rfl) (dw_or1 (dt_cmp (od_ne rfl hr.units) (dv_ex (de_L (db_isi (T := "list") rfl (dv_pl (pe_var (i := 1) rfl (.inr (.inl rfl)))) rfl c.b_isinstance rfl c.b_list rfl))) (dv_ex (de_L (db_isi (T := "list") rfl (dv_pl (pe_var (i := 0) rfl (.inr (.inl rfl)))) rfl c.b_isinstance rfl c.b_list rfl))) rfl))))
 (bk_one (ds_ret de_bl))
 bk_nil)
 (bk_one (ds_ret (de_L (db_and (db_cmp (od_eq rfl hr.units) (dv_ex (de_callB (cd_len rfl) rfl c.b_len rfl (da_cons (dv_pl (pe_var (i := 0) rfl (.inr (.inl rfl)))) da_nil))) (dv_ex (de_callB (cd_len rfl) rfl c.b_len rfl (da_cons (dv_pl (pe_var (i := 1) rfl (.inr (.inl rfl)))) da_nil))) rfl) (db_one (db_E (de_callB (cd_all rfl rfl) rfl c.b_all rfl (da_cons (dv_ex (de_fz (do_lc rfl hN (di_range1 rfl c.b_range (da_cons (dv_ex (de_callB (cd_len rfl) rfl c.b_len rfl (da_cons (dv_pl (pe_var (i := 1) rfl (.inr (.inl rfl)))) da_nil))) da_nil)) (own := [("k", 2)]) (blkOk_by (by kernel_rfl)) rfl rfl (fun _ _ _ _ _ => (dg_nm (i := 2) hN rfl (.inl rfl) rfl)) (fun _ _ _ _ _ => dts_nil) (fun _ _ _ _ _ => (de_callS rfl G0 hr takes0 rfl (da_cons (dv_ex (de_ix rfl (dv_pl (pe_var (i := 0) rfl (.inr (.inl rfl)))) (dv_pl (pe_var (i := 2) rfl (.inl rfl))) (fun _ _ => rfl))) (da_cons (dv_ex (de_ix rfl (dv_pl (pe_var (i := 1) rfl (.inr (.inl rfl)))) (dv_pl (pe_var (i := 2) rfl (.inl rfl))) (fun _ _ => rfl))) da_nil))))))) da_nil)))))))))
 bk_nil)
 (bk_cons (ds_if (dt_cmp od_isN (dv_pl (pe_var (i := 1) rfl (.inr (.inl rfl)))) (dv_ex de_non) rfl)
 (bk_one (ds_ret (de_L (db_cmp od_isN (dv_pl (pe_var (i := 0) rfl (.inr (.inl rfl)))) (dv_ex de_non) rfl))))
 bk_nil)
 (bk_cons (ds_if (dt_W (dw_or (dt_L (db_isi (T := "bool") rfl (dv_pl (pe_var (i := 1) rfl (.inr (.inl rfl)))) rfl c.b_isinstance rfl c.b_bool rfl)) (dw_or1 (dt_L (db_isi (T := "bool") rfl (dv_pl (pe_var (i := 0) rfl (.inr (.inl rfl)))) rfl c.b_isinstance rfl c.b_bool rfl)))))
 (bk_one (ds_ret (de_L (db_and (db_isi (T := "bool") rfl (dv_pl (pe_var (i := 1) rfl (.inr (.inl rfl)))) rfl c.b_isinstance rfl c.b_bool rfl) (db_and (db_isi (T := "bool") rfl (dv_pl (pe_var (i := 0) rfl (.inr (.inl rfl)))) rfl c.b_isinstance rfl c.b_bool rfl) (db_one (db_cmp (od_eq rfl hr.units) (dv_pl (pe_var (i := 0) rfl (.inr (.inl rfl)))) (dv_pl (pe_var (i := 1) rfl (.inr (.inl rfl)))) rfl)))))))
 bk_nil)
 (bk_cons (ds_if (dt_L (db_isi (T := "str") rfl (dv_pl (pe_var (i := 1) rfl (.inr (.inl rfl)))) rfl c.b_isinstance rfl c.b_str rfl))
 (bk_one (ds_ret (de_L (db_and (db_isi (T := "str") rfl (dv_pl (pe_var (i := 0) rfl (.inr (.inl rfl)))) rfl c.b_isinstance rfl c.b_str rfl) (db_one (db_cmp (od_eq rfl hr.units) (dv_pl (pe_var (i := 0) rfl (.inr (.inl rfl)))) (dv_pl (pe_var (i := 1) rfl (.inr (.inl rfl)))) rfl))))))
 bk_nil)
 (bk_one (ds_ret (de_L (db_and (db_isi (T := "int") rfl (dv_pl (pe_var (i := 0) rfl (.inr (.inl rfl)))) rfl c.b_isinstance rfl c.b_int rfl) (db_one (db_cmp (od_eq rfl hr.units) (dv_pl (pe_var (i := 0) rfl (.inr (.inl rfl)))) (dv_pl (pe_var (i := 1) rfl (.inr (.inl rfl)))) rfl))))))))))
theorem sc_law_log : FnScope (["purse", "events", "most", "turn"] : List Str) (["purse", "events", "most"] : List Str) (defScope (top 28)) := C8.fnScope_by (by decide +kernel)
theorem ok_law_log (c : Fx K mg) {f : Addr} {fd : FuncData} (F : FnP K "_law_log" (top 28) f fd) : FnOk P w K mg base (L2.CX P w) 2 f fd (["purse", "events", "most"] : List Str) (SpI K f_law_log) := by
  refine fn_I F sc_law_log fun v0 cdv A outer s₀ H E hr => ?_
  have hN := sc_law_log.nd
  have tk : Takes (cxOf (L2.CX P w) P w K mg base (["purse", "events", "most", "turn"] : List Str) "_law_log" (defScope (top 28)) f cdv A outer s₀ H E) (WE0 E) := takes_of rfl rfl rfl rfl
  have po : PassesOwn (model P w) _ _ (cxOf (L2.CX P w) P w K mg base (["purse", "events", "most", "turn"] : List Str) "_law_log" (defScope (top 28)) f cdv A outer s₀ H E).xe := passes_of rfl
  exact (bk_one (ds_ret (de_callTy (cd_tuple rfl) rfl c.b_tuple rfl (da_cons (dv_ex (de_fz (do_lc rfl hN (di_range1 rfl c.b_range (da_cons (dv_ex (de_callI rfl (has_law_coin c) (hr.mono (by decide)) tk rfl (da_cons (dv_pl (pe_var (i := 0) rfl (.inr (.inl rfl)))) (da_cons (dv_ex (de_bin (od_add rfl) (dv_pl (pe_var (i := 2) rfl (.inl rfl))) (dv_ex de_int))) da_nil)))) da_nil)) (own := [("turn", 3)]) (blkOk_by (by kernel_rfl)) rfl rfl (fun _ _ _ _ _ => (dg_nm (i := 3) hN rfl (.inl rfl) rfl)) (fun _ _ _ _ _ => dts_nil) (fun _ _ _ _ _ => (de_callI rfl (has_law_coin c) (hr.mono (by decide)) takes0 rfl (da_cons (dv_pl (pe_var (i := 0) rfl (.inr (.inl rfl)))) (da_cons (dv_ex (de_var (pe_var (i := 1) rfl (.inr (.inl rfl))))) da_nil))))))) da_nil))))
theorem has_law_log (c : Fx K mg) : Has P w K mg base "_law_log" 2 (["purse", "events", "most"] : List Str) (SpI K f_law_log) := by
  obtain ⟨f, fd, hm, F⟩ := c.d_law_log
  exact ⟨f, fd, hm, F.kp, F.bindsN fun _ _ _ _ _ _ us hl => match us, hl with | [_, _, _], _ => rfl, ok_law_log c F⟩
theorem sc_law_led : FnScope (["summary", "state", "log", "event"] : List Str) (["summary", "state", "log"] : List Str) (defScope (top 29)) := C8.fnScope_by (by decide +kernel)
theorem ok_law_led (c : Fx K mg) {f : Addr} {fd : FuncData} (F : FnP K "_law_led" (top 29) f fd) : FnOk P w K mg base (L2.CX P w) 1 f fd (["summary", "state", "log"] : List Str) (SpF K f_law_led) := by
  refine fn_F F sc_law_led fun cdv A outer s₀ H E hr => ?_
  have hN := sc_law_led.nd
  have tk : Takes (cxOf (L2.CX P w) P w K mg base (["summary", "state", "log", "event"] : List Str) "_law_led" (defScope (top 29)) f cdv A outer s₀ H E) (WE0 E) := takes_of rfl rfl rfl rfl
  have po : PassesOwn (model P w) _ _ (cxOf (L2.CX P w) P w K mg base (["summary", "state", "log", "event"] : List Str) "_law_led" (defScope (top 29)) f cdv A outer s₀ H E).xe := passes_of rfl
  exact (bk_cons (ds_for po rfl (di_seq rfl (de_var (pe_var (i := 2) rfl (.inl rfl)))) (dg_nm (i := 3) hN rfl (.inl rfl) rfl)
 (bk_one (ds_set (i := 1) hN rfl (.inl rfl) rfl (de_ix rfl (dv_ex (de_ix rfl (dv_ex (de_ix rfl (dv_pl (pe_var (i := 0) rfl (.inl rfl))) (dv_ex de_int) (fun _ _ => rfl))) (dv_pl (pe_var (i := 1) rfl (.inl rfl))) (fun _ _ => rfl))) (dv_pl (pe_var (i := 3) rfl (.inl rfl))) (fun _ _ => rfl)))))
 (bk_one (ds_ret (de_var (pe_var (i := 1) rfl (.inl rfl))))))
theorem has_law_led (c : Fx K mg) : Has P w K mg base "_law_led" 1 (["summary", "state", "log"] : List Str) (SpF K f_law_led) := by
  obtain ⟨f, fd, hm, F⟩ := c.d_law_led
  exact ⟨f, fd, hm, F.kp, F.bindsN fun _ _ _ _ _ _ us hl => match us, hl with | [_, _, _], _ => rfl, ok_law_led c F⟩
theorem sc_law_answer : FnScope (["summary", "log"] : List Str) (["summary", "log"] : List Str) (defScope (top 30)) := C8.fnScope_by (by decide +kernel)
theorem ok_law_answer (c : Fx K mg) {f : Addr} {fd : FuncData} (F : FnP K "_law_answer" (top 30) f fd) : FnOk P w K mg base (L2.CX P w) 2 f fd (["summary", "log"] : List Str) (SpF K f_law_answer) := by
  refine fn_F F sc_law_answer fun cdv A outer s₀ H E hr => ?_
  have hN := sc_law_answer.nd
  have tk : Takes (cxOf (L2.CX P w) P w K mg base (["summary", "log"] : List Str) "_law_answer" (defScope (top 30)) f cdv A outer s₀ H E) (WE0 E) := takes_of rfl rfl rfl rfl
  have po : PassesOwn (model P w) _ _ (cxOf (L2.CX P w) P w K mg base (["summary", "log"] : List Str) "_law_answer" (defScope (top 30)) f cdv A outer s₀ H E).xe := passes_of rfl
  exact (bk_one (ds_ret (de_ix rfl (dv_ex (de_ix rfl (dv_pl (pe_var (i := 0) rfl (.inl rfl))) (dv_ex de_int) (fun _ _ => rfl))) (dv_ex (de_call rfl (has_law_led c) (hr.mono (by decide)) tk rfl (da_cons (dv_ex (de_var (pe_var (i := 0) rfl (.inl rfl)))) (da_cons (dv_ex de_int) (da_cons (dv_ex (de_var (pe_var (i := 1) rfl (.inl rfl)))) da_nil))))) (fun _ _ => rfl))))
theorem has_law_answer (c : Fx K mg) : Has P w K mg base "_law_answer" 2 (["summary", "log"] : List Str) (SpF K f_law_answer) := by
  obtain ⟨f, fd, hm, F⟩ := c.d_law_answer
  exact ⟨f, fd, hm, F.kp, F.bindsN fun _ _ _ _ _ _ us hl => match us, hl with | [_, _], _ => rfl, ok_law_answer c F⟩
theorem sc_law_column : FnScope (["purse", "way", "many", "step", "state", "keep", "left", "found", "turn", "flip"] : List Str) (["purse", "way", "many"] : List Str) (defScope (top 31)) := C8.fnScope_by (by decide +kernel)
theorem ok_law_column (c : Fx K mg) {f : Addr} {fd : FuncData} (F : FnP K "_law_column" (top 31) f fd) : FnOk P w K mg base (L2.CX P w) 2 f fd (["purse", "way", "many"] : List Str) (SpI K f_law_column) := by
  refine fn_I F sc_law_column fun v0 cdv A outer s₀ H E hr => ?_
  have hN := sc_law_column.nd
  have tk : Takes (cxOf (L2.CX P w) P w K mg base (["purse", "way", "many", "step", "state", "keep", "left", "found", "turn", "flip"] : List Str) "_law_column" (defScope (top 31)) f cdv A outer s₀ H E) (WE0 E) := takes_of rfl rfl rfl rfl
  have po : PassesOwn (model P w) _ _ (cxOf (L2.CX P w) P w K mg base (["purse", "way", "many", "step", "state", "keep", "left", "found", "turn", "flip"] : List Str) "_law_column" (defScope (top 31)) f cdv A outer s₀ H E).xe := passes_of rfl
  exact (bk_cons (ds_set (i := 3) hN rfl (.inr rfl) rfl (de_callI rfl (has_law_coin c) (hr.mono (by decide)) tk rfl (da_cons (dv_pl (pe_var (i := 0) rfl (.inr (.inl rfl)))) (da_cons (dv_ex (de_var (pe_var (i := 2) rfl (.inr (.inl rfl))))) da_nil))))
 (bk_cons (ds_if (dt_cmp (od_eq rfl hr.units) (dv_pl (pe_var (i := 1) rfl (.inl rfl))) (dv_ex de_int) rfl)
 (bk_one (ds_ret (de_fz (do_lc rfl hN (di_range1 rfl c.b_range (da_cons (dv_pl (pe_var (i := 2) rfl (.inr (.inl rfl)))) da_nil)) (own := [("state", 4)]) (blkOk_by (by kernel_rfl)) rfl rfl (fun _ _ _ _ _ => (dg_nm (i := 4) hN rfl (.inl rfl) rfl)) (fun _ _ _ _ _ => dts_nil) (fun _ _ _ _ _ => (de_bin od_mod (dv_ex (de_callTy cd_int rfl c.b_int rfl (da_cons (dv_ex (de_bin (od_add rfl) (dv_pl (pe_var (i := 4) rfl (.inl rfl))) (dv_pl (pe_var (i := 3) rfl (.inr (.inl rfl)))))) da_nil))) (dv_pl (pe_var (i := 2) rfl (.inr (.inl rfl))))))))))
 bk_nil)
 (bk_cons (ds_if (dt_cmp (od_eq rfl hr.units) (dv_pl (pe_var (i := 1) rfl (.inl rfl))) (dv_ex de_int) rfl)
 (bk_one (ds_ret (de_fz (do_lc rfl hN (di_range1 rfl c.b_range (da_cons (dv_pl (pe_var (i := 2) rfl (.inr (.inl rfl)))) da_nil)) (own := [("state", 4)]) (blkOk_by (by kernel_rfl)) rfl rfl (fun _ _ _ _ _ => (dg_nm (i := 4) hN rfl (.inl rfl) rfl)) (fun _ _ _ _ _ => dts_nil) (fun _ _ _ _ _ => (de_callB (cd_min2 rfl) rfl c.b_min rfl (da_cons (dv_ex (de_bin od_sub (dv_pl (pe_var (i := 2) rfl (.inr (.inl rfl)))) (dv_ex de_int))) (da_cons (dv_ex (de_bin (od_add rfl) (dv_pl (pe_var (i := 4) rfl (.inl rfl))) (dv_pl (pe_var (i := 3) rfl (.inr (.inl rfl)))))) da_nil))))))))
 bk_nil)
 (bk_cons (ds_if (dt_cmp (od_eq rfl hr.units) (dv_pl (pe_var (i := 1) rfl (.inl rfl))) (dv_ex de_int) rfl)
 (bk_one (ds_ret (de_fz (do_lc rfl hN (di_range1 rfl c.b_range (da_cons (dv_pl (pe_var (i := 2) rfl (.inr (.inl rfl)))) da_nil)) (own := [("state", 4)]) (blkOk_by (by kernel_rfl)) rfl rfl (fun _ _ _ _ _ => (dg_nm (i := 4) hN rfl (.inl rfl) rfl)) (fun _ _ _ _ _ => dts_nil) (fun _ _ _ _ _ => (de_bin od_or (dv_pl (pe_var (i := 4) rfl (.inl rfl))) (dv_pl (pe_var (i := 3) rfl (.inr (.inl rfl))))))))))
 bk_nil)
 (bk_cons (ds_if (dt_cmp (od_eq rfl hr.units) (dv_pl (pe_var (i := 1) rfl (.inl rfl))) (dv_ex de_int) rfl)
 (bk_one (ds_ret (de_fz (do_lc rfl hN (di_range1 rfl c.b_range (da_cons (dv_pl (pe_var (i := 2) rfl (.inr (.inl rfl)))) da_nil)) (own := [("state", 4)]) (blkOk_by (by kernel_rfl)) rfl rfl (fun _ _ _ _ _ => (dg_nm (i := 4) hN rfl (.inl rfl) rfl)) (fun _ _ _ _ _ => dts_nil) (fun _ _ _ _ _ => (de_bin (od_add rfl) (dv_ex (de_bin od_mod (dv_ex (de_callTy cd_int rfl c.b_int rfl (da_cons (dv_ex (de_bin (od_add rfl) (dv_ex (de_bin od_mod (dv_pl (pe_var (i := 4) rfl (.inl rfl))) (dv_ex de_int))) (dv_pl (pe_var (i := 3) rfl (.inr (.inl rfl)))))) da_nil))) (dv_ex de_int))) (dv_ex (de_bin od_mul (dv_ex de_int) (dv_ex (de_callB (cd_max2 rfl) rfl c.b_max rfl (da_cons (dv_ex (de_bin od_div (dv_pl (pe_var (i := 4) rfl (.inl rfl))) (dv_ex de_int))) (da_cons (dv_ex (de_bin od_div (dv_pl (pe_var (i := 3) rfl (.inr (.inl rfl)))) (dv_ex de_int))) da_nil))))))))))))
 bk_nil)
 (bk_cons (ds_if (dt_cmp (od_eq rfl hr.units) (dv_pl (pe_var (i := 1) rfl (.inl rfl))) (dv_ex de_int) rfl)
 (bk_cons (ds_set (i := 5) hN rfl (.inr rfl) rfl (de_callI rfl (has_law_coin c) (hr.mono (by decide)) tk rfl (da_cons (dv_pl (pe_var (i := 0) rfl (.inr (.inl rfl)))) (da_cons (dv_ex de_int) da_nil))))
 (bk_one (ds_ret (de_fz (do_lc rfl hN (di_range1 rfl c.b_range (da_cons (dv_pl (pe_var (i := 2) rfl (.inr (.inl rfl)))) da_nil)) (own := [("state", 4)]) (blkOk_by (by kernel_rfl)) rfl rfl (fun _ _ _ _ _ => (dg_nm (i := 4) hN rfl (.inl rfl) rfl)) (fun _ _ _ _ _ => dts_nil) (fun _ _ _ _ _ => (de_if (dt_cmp (od_eq rfl hr.units) (dv_pl (pe_var (i := 5) rfl (.inr (.inl rfl)))) (dv_ex de_int) rfl) (de_var (pe_var (i := 4) rfl (.inl rfl))) (de_var (pe_var (i := 3) rfl (.inr (.inl rfl)))))))))))
 bk_nil)
 (bk_cons (ds_if (dt_cmp (od_eq rfl hr.units) (dv_pl (pe_var (i := 1) rfl (.inl rfl))) (dv_ex de_int) rfl)
 (bk_cons (ds_par2 (i := 6) (j := 7) rfl hN rfl rfl (by decide) rfl rfl rfl (dm_op (do_listRg rfl rfl c.b_list rfl c.b_range (de_var (pe_var (i := 2) rfl (.inr (.inl rfl))))) (dm_op (do_lst da_nil) dm_nil)) rfl)
 (bk_cons (ds_for po rfl (di_range1 rfl c.b_range (da_cons (dv_pl (pe_var (i := 2) rfl (.inr (.inl rfl)))) da_nil)) (dg_nm (i := 4) hN rfl (.inl rfl) rfl)
 (bk_one (ds_expr (de_mutL rfl PySem.F.slot_list_append PySem.F.type_list_append md_append (pe_var (i := 7) rfl (.inl rfl)) (da_cons (dv_ex (de_mutL rfl PySem.F.slot_list_pop PySem.F.type_list_pop md_popAt (pe_var (i := 6) rfl (.inl rfl)) (da_cons (dv_ex (de_callI rfl (has_law_coin c) (hr.mono (by decide)) tk rfl (da_cons (dv_pl (pe_var (i := 0) rfl (.inr (.inl rfl)))) (da_cons (dv_ex (de_callB (cd_len rfl) rfl c.b_len rfl (da_cons (dv_pl (pe_var (i := 6) rfl (.inl rfl))) da_nil))) da_nil)))) da_nil))) da_nil)))))
 (bk_one (ds_ret (de_var (pe_var (i := 7) rfl (.inl rfl)))))))
 bk_nil)
 (bk_cons (ds_if (dt_cmp (od_eq rfl hr.units) (dv_pl (pe_var (i := 1) rfl (.inl rfl))) (dv_ex de_int) rfl)
 (bk_one (ds_ret (de_fz (do_lc rfl hN (di_range1 rfl c.b_range (da_cons (dv_pl (pe_var (i := 2) rfl (.inr (.inl rfl)))) da_nil)) (own := [("state", 4)]) (blkOk_by (by kernel_rfl)) rfl rfl (fun _ _ _ _ _ => (dg_nm (i := 4) hN rfl (.inl rfl) rfl)) (fun _ _ _ _ _ => dts_nil) (fun _ _ _ _ _ => (de_callB (cd_max2 rfl) rfl c.b_max rfl (da_cons (dv_ex de_int) (da_cons (dv_ex (de_callB (cd_min2 rfl) rfl c.b_min rfl (da_cons (dv_ex (de_bin od_sub (dv_pl (pe_var (i := 2) rfl (.inr (.inl rfl)))) (dv_ex de_int))) (da_cons (dv_ex (de_bin od_sub (dv_ex (de_bin (od_add rfl) (dv_pl (pe_var (i := 4) rfl (.inl rfl))) (dv_pl (pe_var (i := 3) rfl (.inr (.inl rfl)))))) (dv_ex (de_bin od_div (dv_pl (pe_var (i := 2) rfl (.inr (.inl rfl)))) (dv_ex de_int))))) da_nil)))) da_nil))))))))
 bk_nil)
 (bk_cons (ds_if (dt_cmp (od_eq rfl hr.units) (dv_pl (pe_var (i := 1) rfl (.inl rfl))) (dv_ex de_int) rfl)
 (bk_one (ds_ret (de_fz (do_lc rfl hN (di_range1 rfl c.b_range (da_cons (dv_pl (pe_var (i := 2) rfl (.inr (.inl rfl)))) da_nil)) (own := [("state", 4)]) (blkOk_by (by kernel_rfl)) rfl rfl (fun _ _ _ _ _ => (dg_nm (i := 4) hN rfl (.inl rfl) rfl)) (fun _ _ _ _ _ => dts_nil) (fun _ _ _ _ _ => (de_callB (cd_max2 rfl) rfl c.b_max rfl (da_cons (dv_pl (pe_var (i := 4) rfl (.inl rfl))) (da_cons (dv_pl (pe_var (i := 3) rfl (.inr (.inl rfl)))) da_nil))))))))
 bk_nil)
 (bk_cons (ds_if (dt_cmp (od_eq rfl hr.units) (dv_pl (pe_var (i := 1) rfl (.inl rfl))) (dv_ex de_int) rfl)
 (bk_cons (ds_parT rfl hN (.cons (i := 8) rfl (.inr rfl) (.inl rfl) rfl (.cons (i := 9) rfl (.inr rfl) (.inl rfl) rfl .nil)) rfl (dm_fz (de_bin od_mod (dv_ex (de_callTy cd_int rfl c.b_int rfl (da_cons (dv_pl (pe_var (i := 3) rfl (.inr (.inl rfl)))) da_nil))) (dv_ex de_int)) (dm_fz (de_bin od_div (dv_pl (pe_var (i := 3) rfl (.inr (.inl rfl)))) (dv_ex de_int)) dm_nil)))
 (bk_one (ds_ret (de_fz (do_lc rfl hN (di_range1 rfl c.b_range (da_cons (dv_pl (pe_var (i := 2) rfl (.inr (.inl rfl)))) da_nil)) (own := [("state", 4)]) (blkOk_by (by kernel_rfl)) rfl rfl (fun _ _ _ _ _ => (dg_nm (i := 4) hN rfl (.inl rfl) rfl)) (fun _ _ _ _ _ => dts_nil) (fun _ _ _ _ _ => (de_bin (od_add rfl) (dv_ex (de_bin od_mod (dv_ex (de_callTy cd_int rfl c.b_int rfl (da_cons (dv_ex (de_bin (od_add rfl) (dv_ex (de_bin (od_add rfl) (dv_ex (de_bin od_mod (dv_pl (pe_var (i := 4) rfl (.inl rfl))) (dv_ex de_int))) (dv_ex (de_bin od_mul (dv_pl (pe_var (i := 8) rfl (.inr (.inl rfl)))) (dv_ex (de_bin od_sub (dv_ex de_int) (dv_ex (de_bin od_mul (dv_ex de_int) (dv_ex (de_bin od_div (dv_pl (pe_var (i := 4) rfl (.inl rfl))) (dv_ex de_int))))))))))) (dv_ex de_int))) da_nil))) (dv_ex de_int))) (dv_ex (de_bin od_mul (dv_ex de_int) (dv_ex (de_bin od_mod (dv_ex (de_callTy cd_int rfl c.b_int rfl (da_cons (dv_ex (de_bin (od_add rfl) (dv_ex (de_bin od_div (dv_pl (pe_var (i := 4) rfl (.inl rfl))) (dv_ex de_int))) (dv_pl (pe_var (i := 9) rfl (.inr (.inl rfl)))))) da_nil))) (dv_ex de_int))))))))))))
 bk_nil)
 (bk_one (ds_ret (de_fz (do_lc rfl hN (di_range1 rfl c.b_range (da_cons (dv_pl (pe_var (i := 2) rfl (.inr (.inl rfl)))) da_nil)) (own := [("state", 4)]) (blkOk_by (by kernel_rfl)) rfl rfl (fun _ _ _ _ _ => (dg_nm (i := 4) hN rfl (.inl rfl) rfl)) (fun _ _ _ _ _ => dts_nil) (fun _ _ _ _ _ => (de_callI rfl (has_law_coin c) (hr.mono (by decide)) takes0 rfl (da_cons (dv_pl (pe_var (i := 0) rfl (.inr (.inl rfl)))) (da_cons (dv_ex (de_var (pe_var (i := 2) rfl (.inr (.inl rfl))))) da_nil))))))))))))))))))
theorem has_law_column (c : Fx K mg) : Has P w K mg base "_law_column" 2 (["purse", "way", "many"] : List Str) (SpI K f_law_column) := by
  obtain ⟨f, fd, hm, F⟩ := c.d_law_column
  exact ⟨f, fd, hm, F.kp, F.bindsN fun _ _ _ _ _ _ us hl => match us, hl with | [_, _, _], _ => rfl, ok_law_column c F⟩
theorem sc_law_any : FnScope (["purse", "most", "events", "way", "many", "event", "columns", "plain", "state", "answers", "column"] : List Str) (["purse", "most"] : List Str) (defScope (top 32)) := C8.fnScope_by (by decide +kernel)
theorem ok_law_any (c : Fx K mg) {f : Addr} {fd : FuncData} (F : FnP K "_law_any" (top 32) f fd) : FnOk P w K mg base (L2.CX P w) 3 f fd (["purse", "most"] : List Str) (SpI K f_law_any) := by
  refine fn_I F sc_law_any fun v0 cdv A outer s₀ H E hr => ?_
  have hN := sc_law_any.nd
  have tk : Takes (cxOf (L2.CX P w) P w K mg base (["purse", "most", "events", "way", "many", "event", "columns", "plain", "state", "answers", "column"] : List Str) "_law_any" (defScope (top 32)) f cdv A outer s₀ H E) (WE0 E) := takes_of rfl rfl rfl rfl
  have po : PassesOwn (model P w) _ _ (cxOf (L2.CX P w) P w K mg base (["purse", "most", "events", "way", "many", "event", "columns", "plain", "state", "answers", "column"] : List Str) "_law_any" (defScope (top 32)) f cdv A outer s₀ H E).xe := passes_of rfl
  exact (bk_cons (ds_parT rfl hN (.cons (i := 2) rfl (.inl rfl) (.inl rfl) rfl (.cons (i := 3) rfl (.inr rfl) (.inl rfl) rfl (.cons (i := 4) rfl (.inr rfl) (.inl rfl) rfl .nil))) rfl (dm_fz (de_bin (od_add rfl) (dv_ex de_int) (dv_ex (de_callI rfl (has_law_coin c) (hr.mono (by decide)) tk rfl (da_cons (dv_pl (pe_var (i := 0) rfl (.inr (.inl rfl)))) (da_cons (dv_ex de_int) da_nil))))) (dm_fz (de_callI rfl (has_law_coin c) (hr.mono (by decide)) tk rfl (da_cons (dv_pl (pe_var (i := 0) rfl (.inr (.inl rfl)))) (da_cons (dv_ex de_int) da_nil))) (dm_fz (de_bin (od_add rfl) (dv_ex de_int) (dv_ex (de_callI rfl (has_law_coin c) (hr.mono (by decide)) tk rfl (da_cons (dv_pl (pe_var (i := 0) rfl (.inr (.inl rfl)))) (da_cons (dv_ex (de_var (pe_var (i := 1) rfl (.inl rfl)))) da_nil))))) dm_nil))))
 (bk_cons (ds_if (dt_W (dw_or (dt_cmp (od_eq rfl hr.units) (dv_pl (pe_var (i := 3) rfl (.inr (.inl rfl)))) (dv_ex de_int) rfl) (dw_or1 (dt_cmp (od_eq rfl hr.units) (dv_pl (pe_var (i := 3) rfl (.inr (.inl rfl)))) (dv_ex de_int) rfl))))
 (bk_one (ds_set (i := 4) hN rfl (.inr rfl) rfl de_int))
 bk_nil)
 (bk_cons (ds_if (dt_cmp (od_eq rfl hr.units) (dv_pl (pe_var (i := 3) rfl (.inr (.inl rfl)))) (dv_ex de_int) rfl)
 (bk_one (ds_set (i := 4) hN rfl (.inr rfl) rfl de_int))
 bk_nil)
 (bk_cons (ds_setO (i := 6) hN rfl (.inr rfl) rfl (do_lc rfl hN (di_range1 rfl c.b_range (da_cons (dv_pl (pe_var (i := 2) rfl (.inl rfl))) da_nil)) (own := [("event", 5)]) (blkOk_by (by kernel_rfl)) rfl rfl (fun _ _ _ _ _ => (dg_nm (i := 5) hN rfl (.inl rfl) rfl)) (fun _ _ _ _ _ => dts_nil) (fun _ _ _ _ _ => (de_callI rfl (has_law_column c) (hr.mono (by decide)) takes0 rfl (da_cons (dv_pl (pe_var (i := 0) rfl (.inr (.inl rfl)))) (da_cons (dv_ex (de_var (pe_var (i := 3) rfl (.inr (.inl rfl))))) (da_cons (dv_ex (de_var (pe_var (i := 4) rfl (.inr (.inl rfl))))) da_nil)))))))
 (bk_cons (ds_set (i := 7) hN rfl (.inr rfl) rfl (de_callI rfl (has_law_coin c) (hr.mono (by decide)) tk rfl (da_cons (dv_pl (pe_var (i := 0) rfl (.inr (.inl rfl)))) (da_cons (dv_ex de_int) da_nil))))
 (bk_cons (ds_set (i := 9) hN rfl (.inl rfl) rfl (de_callTy (cd_tuple rfl) rfl c.b_tuple rfl (da_cons (dv_ex (de_fz (do_lc rfl hN (di_range1 rfl c.b_range (da_cons (dv_pl (pe_var (i := 4) rfl (.inr (.inl rfl)))) da_nil)) (own := [("state", 8)]) (blkOk_by (by kernel_rfl)) rfl rfl (fun _ _ _ _ _ => (dg_nm (i := 8) hN rfl (.inl rfl) rfl)) (fun _ _ _ _ _ => dts_nil) (fun _ _ _ _ _ => (de_if (dt_cmp od_gt (dv_pl (pe_var (i := 7) rfl (.inr (.inl rfl)))) (dv_ex de_int) rfl) (de_var (pe_var (i := 8) rfl (.inl rfl))) (de_callI rfl (has_law_coin c) (hr.mono (by decide)) takes0 rfl (da_cons (dv_pl (pe_var (i := 0) rfl (.inr (.inl rfl)))) (da_cons (dv_ex de_int) da_nil)))))))) da_nil)))
 (bk_one (ds_ret (de_tup (da_cons (dv_ex (de_var (pe_var (i := 2) rfl (.inl rfl)))) (da_cons (dv_ex (de_callTy (cd_tuple rfl) rfl c.b_tuple rfl (da_cons (dv_ex (de_fz (do_lc rfl hN (di_range1 rfl c.b_range (da_cons (dv_pl (pe_var (i := 4) rfl (.inr (.inl rfl)))) da_nil)) (own := [("state", 8)]) (blkOk_by (by kernel_rfl)) rfl rfl (fun _ _ _ _ _ => (dg_nm (i := 8) hN rfl (.inr rfl) rfl)) (fun _ _ _ _ _ => dts_nil) (fun _ _ _ _ _ => (de_callTy (cd_tuple rfl) rfl c.b_tuple rfl (da_cons (dv_ex (de_fz (do_lc rfl hN (di_seq rfl (de_var (pe_var (i := 6) rfl (.inr (.inl rfl))))) (own := [("column", 10)]) (blkOk_by (by kernel_rfl)) rfl rfl (fun _ _ _ _ _ => (dg_nm (i := 10) hN rfl (.inl rfl) rfl)) (fun _ _ _ _ _ => dts_nil) (fun _ _ _ _ _ => (de_ix rfl (dv_pl (pe_var (i := 10) rfl (.inl rfl))) (dv_pl (pe_var (i := 8) rfl (.inr (.inl rfl)))) (fun _ _ => rfl)))))) da_nil)))))) da_nil))) (da_cons (dv_ex (de_var (pe_var (i := 9) rfl (.inl rfl)))) da_nil))))))))))))
theorem has_law_any (c : Fx K mg) : Has P w K mg base "_law_any" 3 (["purse", "most"] : List Str) (SpI K f_law_any) := by
  obtain ⟨f, fd, hm, F⟩ := c.d_law_any
  exact ⟨f, fd, hm, F.kp, F.bindsN fun _ _ _ _ _ _ us hl => match us, hl with | [_, _], _ => rfl, ok_law_any c F⟩
theorem sc_law_summary : FnScope (["purse", "most", "found", "turn"] : List Str) (["purse", "most"] : List Str) (defScope (top 33)) := C8.fnScope_by (by decide +kernel)
theorem ok_law_summary (c : Fx K mg) {f : Addr} {fd : FuncData} (F : FnP K "_law_summary" (top 33) f fd) : FnOk P w K mg base (L2.CX P w) 4 f fd (["purse", "most"] : List Str) (SpI K f_law_summary) := by
  refine fn_I F sc_law_summary fun v0 cdv A outer s₀ H E hr => ?_
  have hN := sc_law_summary.nd
  have tk : Takes (cxOf (L2.CX P w) P w K mg base (["purse", "most", "found", "turn"] : List Str) "_law_summary" (defScope (top 33)) f cdv A outer s₀ H E) (WE0 E) := takes_of rfl rfl rfl rfl
  have po : PassesOwn (model P w) _ _ (cxOf (L2.CX P w) P w K mg base (["purse", "most", "found", "turn"] : List Str) "_law_summary" (defScope (top 33)) f cdv A outer s₀ H E).xe := passes_of rfl
  exact (bk_cons (ds_set (i := 2) hN rfl (.inl rfl) rfl (de_callI rfl (has_law_any c) (hr.mono (by decide)) tk rfl (da_cons (dv_pl (pe_var (i := 0) rfl (.inl rfl))) (da_cons (dv_ex (de_var (pe_var (i := 1) rfl (.inl rfl)))) da_nil))))
 (bk_cons (ds_for po rfl (di_range1 rfl c.b_range (da_cons (dv_ex de_int) da_nil)) (dg_nm (i := 3) hN rfl (.inl rfl) rfl)
 (bk_one (ds_if (dt_W (dw_or (dt_cmp (od_eq rfl hr.units) (dv_ex (de_lenSetT rfl (dv_ex (de_bin (od_add rfl) (dv_ex (de_ix rfl (dv_ex (de_ix rfl (dv_pl (pe_var (i := 2) rfl (.inl rfl))) (dv_ex de_int) (fun _ _ => rfl))) (dv_ex de_int) (fun _ _ => rfl))) (dv_ex (de_tup (da_cons (dv_ex de_int) da_nil))))) rfl c.b_len rfl c.b_set)) (dv_ex de_int) rfl) (dw_or1 (dt_cmp (od_eq rfl hr.units) (dv_ex (de_lenSetT rfl (dv_ex (de_ix rfl (dv_pl (pe_var (i := 2) rfl (.inl rfl))) (dv_ex de_int) (fun _ _ => rfl))) rfl c.b_len rfl c.b_set)) (dv_ex de_int) rfl))))
 (bk_one (ds_set (i := 2) hN rfl (.inl rfl) rfl (de_callI rfl (has_law_any c) (hr.mono (by decide)) tk rfl (da_cons (dv_pl (pe_var (i := 0) rfl (.inl rfl))) (da_cons (dv_ex (de_var (pe_var (i := 1) rfl (.inl rfl)))) da_nil)))))
 bk_nil)))
 (bk_one (ds_ret (de_var (pe_var (i := 2) rfl (.inl rfl)))))))
theorem has_law_summary (c : Fx K mg) : Has P w K mg base "_law_summary" 4 (["purse", "most"] : List Str) (SpI K f_law_summary) := by
  obtain ⟨f, fd, hm, F⟩ := c.d_law_summary
  exact ⟨f, fd, hm, F.kp, F.bindsN fun _ _ _ _ _ _ us hl => match us, hl with | [_, _], _ => rfl, ok_law_summary c F⟩
theorem sc_law_copied : FnScope (["purse", "summary", "many", "turn", "base", "moves", "state", "later", "place", "rows", "row"] : List Str) (["purse", "summary"] : List Str) (defScope (top 34)) := C8.fnScope_by (by decide +kernel)
theorem ok_law_copied (c : Fx K mg) {f : Addr} {fd : FuncData} (F : FnP K "_law_copied" (top 34) f fd) : FnOk P w K mg base (L2.CX P w) 3 f fd (["purse", "summary"] : List Str) (SpI K f_law_copied) := by
  refine fn_I F sc_law_copied fun v0 cdv A outer s₀ H E hr => ?_
  have hN := sc_law_copied.nd
  have tk : Takes (cxOf (L2.CX P w) P w K mg base (["purse", "summary", "many", "turn", "base", "moves", "state", "later", "place", "rows", "row"] : List Str) "_law_copied" (defScope (top 34)) f cdv A outer s₀ H E) (WE0 E) := takes_of rfl rfl rfl rfl
  have po : PassesOwn (model P w) _ _ (cxOf (L2.CX P w) P w K mg base (["purse", "summary", "many", "turn", "base", "moves", "state", "later", "place", "rows", "row"] : List Str) "_law_copied" (defScope (top 34)) f cdv A outer s₀ H E).xe := passes_of rfl
  exact (bk_cons (ds_set (i := 2) hN rfl (.inr rfl) rfl (de_callB (cd_len rfl) rfl c.b_len rfl (da_cons (dv_ex (de_ix rfl (dv_pl (pe_var (i := 1) rfl (.inr (.inl rfl)))) (dv_ex de_int) (fun _ _ => rfl))) da_nil)))
 (bk_cons (ds_setO (i := 4) hN rfl (.inr rfl) rfl (do_bin (od_cat rfl) (dv_ex (de_fz (do_listRg rfl rfl c.b_list rfl c.b_range (de_var (pe_var (i := 2) rfl (.inr (.inl rfl))))))) (dv_ex (de_fz (do_lc rfl hN (di_range1 rfl c.b_range (da_cons (dv_ex (de_callI rfl (has_law_coin c) (hr.mono (by decide)) tk rfl (da_cons (dv_pl (pe_var (i := 0) rfl (.inr (.inl rfl)))) (da_cons (dv_ex (de_callB (cd_max2 rfl) rfl c.b_max rfl (da_cons (dv_ex de_int) (da_cons (dv_ex (de_callB (cd_min2 rfl) rfl c.b_min rfl (da_cons (dv_ex de_int) (da_cons (dv_ex (de_bin od_sub (dv_ex de_int) (dv_pl (pe_var (i := 2) rfl (.inr (.inl rfl)))))) da_nil)))) da_nil)))) da_nil)))) da_nil)) (own := [("turn", 3)]) (blkOk_by (by kernel_rfl)) rfl rfl (fun _ _ _ _ _ => (dg_nm (i := 3) hN rfl (.inl rfl) rfl)) (fun _ _ _ _ _ => dts_nil) (fun _ _ _ _ _ => (de_callI rfl (has_law_coin c) (hr.mono (by decide)) takes0 rfl (da_cons (dv_pl (pe_var (i := 0) rfl (.inr (.inl rfl)))) (da_cons (dv_ex (de_var (pe_var (i := 2) rfl (.inr (.inl rfl))))) da_nil)))))))))
 (bk_cons (ds_setO (i := 5) hN rfl (.inl rfl) rfl (do_lst da_nil))
 (bk_cons (ds_for po rfl (di_seq rfl (de_var (pe_var (i := 4) rfl (.inr (.inl rfl))))) (dg_nm (i := 6) hN rfl (.inl rfl) rfl)
 (bk_cons (ds_setLc rfl hN (i := 9) rfl rfl rfl rfl (di_seq rfl (de_ix rfl (dv_ex (de_ix rfl (dv_pl (pe_var (i := 1) rfl (.inr (.inl rfl)))) (dv_ex de_int) (fun _ _ => rfl))) (dv_pl (pe_var (i := 6) rfl (.inl rfl))) (fun _ _ => rfl))) (own := [("later", 7)]) (blkOk_by (by kernel_rfl)) rfl rfl (fun _ _ _ _ _ => (dg_nm (i := 7) hN rfl (.inr rfl) rfl)) (fun _ _ _ _ _ => dts_nil) (fun _ _ _ _ _ => (de_fz (do_lc rfl hN (di_range1 rfl c.b_range (da_cons (dv_ex (de_callB (cd_len rfl) rfl c.b_len rfl (da_cons (dv_pl (pe_var (i := 4) rfl (.inr (.inl rfl)))) da_nil))) da_nil)) (own := [("place", 8)]) (blkOk_by (by kernel_rfl)) rfl rfl (fun _ _ _ _ _ => (dg_nm (i := 8) hN rfl (.inl rfl) rfl)) (fun _ _ _ _ _ => (dts_one (dt_cmp (od_eq rfl hr.units) (dv_ex (de_ix rfl (dv_pl (pe_var (i := 4) rfl (.inr (.inl rfl)))) (dv_pl (pe_var (i := 8) rfl (.inl rfl))) (fun _ _ => rfl))) (dv_pl (pe_var (i := 7) rfl (.inr (.inl rfl)))) rfl))) (fun _ _ _ _ _ => (de_var (pe_var (i := 8) rfl (.inl rfl))))))))
 (bk_one (ds_expr (de_mutL rfl PySem.F.slot_list_append PySem.F.type_list_append md_append (pe_var (i := 5) rfl (.inl rfl)) (da_cons (dv_ex (de_callTy (cd_tuple rfl) rfl c.b_tuple rfl (da_cons (dv_ex (de_fz (do_lc rfl hN (di_seq rfl (de_var (pe_var (i := 9) rfl (.inl rfl)))) (own := [("row", 10)]) (blkOk_by (by kernel_rfl)) rfl rfl (fun _ _ _ _ _ => (dg_nm (i := 10) hN rfl (.inl rfl) rfl)) (fun _ _ _ _ _ => dts_nil) (fun _ _ _ _ _ => (de_callI rfl (has_law_pick c) (hr.mono (by decide)) takes0 rfl (da_cons (dv_pl (pe_var (i := 0) rfl (.inr (.inl rfl)))) (da_cons (dv_ex (de_var (pe_var (i := 10) rfl (.inl rfl)))) da_nil))))))) da_nil))) da_nil))))))
 (bk_one (ds_ret (de_tup (da_cons (dv_ex (de_ix rfl (dv_pl (pe_var (i := 1) rfl (.inr (.inl rfl)))) (dv_ex de_int) (fun _ _ => rfl))) (da_cons (dv_ex (de_callTy (cd_tuple rfl) rfl c.b_tuple rfl (da_cons (dv_pl (pe_var (i := 5) rfl (.inl rfl))) da_nil))) (da_cons (dv_ex (de_callTy (cd_tuple rfl) rfl c.b_tuple rfl (da_cons (dv_ex (de_fz (do_lc rfl hN (di_seq rfl (de_var (pe_var (i := 4) rfl (.inr (.inl rfl))))) (own := [("state", 6)]) (blkOk_by (by kernel_rfl)) rfl rfl (fun _ _ _ _ _ => (dg_nm (i := 6) hN rfl (.inl rfl) rfl)) (fun _ _ _ _ _ => dts_nil) (fun _ _ _ _ _ => (de_ix rfl (dv_ex (de_ix rfl (dv_pl (pe_var (i := 1) rfl (.inr (.inl rfl)))) (dv_ex de_int) (fun _ _ => rfl))) (dv_pl (pe_var (i := 6) rfl (.inl rfl))) (fun _ _ => rfl)))))) da_nil))) da_nil))))))))))
theorem has_law_copied (c : Fx K mg) : Has P w K mg base "_law_copied" 3 (["purse", "summary"] : List Str) (SpI K f_law_copied) := by
  obtain ⟨f, fd, hm, F⟩ := c.d_law_copied
  exact ⟨f, fd, hm, F.kp, F.bindsN fun _ _ _ _ _ _ us hl => match us, hl with | [_, _], _ => rfl, ok_law_copied c F⟩
theorem sc_law_due : FnScope (["summary", "log", "number", "at"] : List Str) (["summary", "log", "number"] : List Str) (defScope (top 35)) := C8.fnScope_by (by decide +kernel)
theorem ok_law_due (c : Fx K mg) {f : Addr} {fd : FuncData} (F : FnP K "_law_due" (top 35) f fd) : FnOk P w K mg base (L2.CX P w) 3 f fd (["summary", "log", "number"] : List Str) (SpO K f_law_due) := by
  refine fn_O F sc_law_due fun cdv A outer s₀ H E hr => ?_
  have hN := sc_law_due.nd
  have tk : Takes (cxOf (L2.CX P w) P w K mg base (["summary", "log", "number", "at"] : List Str) "_law_due" (defScope (top 35)) f cdv A outer s₀ H E) (WE0 E) := takes_of rfl rfl rfl rfl
  have po : PassesOwn (model P w) _ _ (cxOf (L2.CX P w) P w K mg base (["summary", "log", "number", "at"] : List Str) "_law_due" (defScope (top 35)) f cdv A outer s₀ H E).xe := passes_of rfl
  exact (bk_one (ds_retO (do_lc rfl hN (di_range1 rfl c.b_range (da_cons (dv_ex (de_bin (od_add rfl) (dv_ex (de_callB (cd_len rfl) rfl c.b_len rfl (da_cons (dv_pl (pe_var (i := 1) rfl (.inr (.inl rfl)))) da_nil))) (dv_ex de_int))) da_nil)) (own := [("at", 3)]) (blkOk_by (by kernel_rfl)) rfl rfl (fun _ _ _ _ _ => (dg_nm (i := 3) hN rfl (.inl rfl) rfl)) (fun _ _ _ _ _ => dts_nil) (fun _ _ _ _ _ => (de_call rfl (has_law_answer c) (hr.mono (by decide)) takes0 rfl (da_cons (dv_ex (de_var (pe_var (i := 0) rfl (.inr (.inl rfl))))) (da_cons (dv_ex (de_sl rfl (dv_pl (pe_var (i := 1) rfl (.inr (.inl rfl)))) (dp_some (de_callB (cd_max2 rfl) rfl c.b_max rfl (da_cons (dv_ex de_int) (da_cons (dv_ex (de_bin od_sub (dv_pl (pe_var (i := 3) rfl (.inl rfl))) (dv_pl (pe_var (i := 2) rfl (.inr (.inl rfl)))))) da_nil)))) (dp_some (de_var (pe_var (i := 3) rfl (.inl rfl)))))) da_nil)))))))
theorem has_law_due (c : Fx K mg) : Has P w K mg base "_law_due" 3 (["summary", "log", "number"] : List Str) (SpO K f_law_due) := by
  obtain ⟨f, fd, hm, F⟩ := c.d_law_due
  exact ⟨f, fd, hm, F.kp, F.bindsN fun _ _ _ _ _ _ us hl => match us, hl with | [_, _, _], _ => rfl, ok_law_due c F⟩
theorem sc_law_right : FnScope (["purse", "summary", "log", "numbers", "number", "told", "other", "again"] : List Str) (["purse"] : List Str) (defScope (top 36)) := C8.fnScope_by (by decide +kernel)
theorem ok_law_right (c : Fx K mg) {f : Addr} {fd : FuncData} (F : FnP K "_law_right" (top 36) f fd) : FnOk P w K mg base (L2.CX P w) 9 f fd (["purse"] : List Str) (SpI K f_law_right) := by
  refine fn_I F sc_law_right fun v0 cdv A outer s₀ H E hr => ?_
  have hN := sc_law_right.nd
  have tk : Takes (cxOf (L2.CX P w) P w K mg base (["purse", "summary", "log", "numbers", "number", "told", "other", "again"] : List Str) "_law_right" (defScope (top 36)) f cdv A outer s₀ H E) (WE0 E) := takes_of rfl rfl rfl rfl
  have po : PassesOwn (model P w) _ _ (cxOf (L2.CX P w) P w K mg base (["purse", "summary", "log", "numbers", "number", "told", "other", "again"] : List Str) "_law_right" (defScope (top 36)) f cdv A outer s₀ H E).xe := passes_of rfl
  exact (bk_cons (ds_set (i := 1) hN rfl (.inr rfl) rfl (de_callI rfl (has_law_copied c) (hr.mono (by decide)) tk rfl (da_cons (dv_pl (pe_var (i := 0) rfl (.inl rfl))) (da_cons (dv_ex (de_callI rfl (has_law_summary c) (hr.mono (by decide)) tk rfl (da_cons (dv_pl (pe_var (i := 0) rfl (.inl rfl))) (da_cons (dv_ex de_int) da_nil)))) da_nil))))
 (bk_cons (ds_set (i := 2) hN rfl (.inr rfl) rfl (de_callI rfl (has_law_log c) (hr.mono (by decide)) tk rfl (da_cons (dv_pl (pe_var (i := 0) rfl (.inl rfl))) (da_cons (dv_ex (de_ix rfl (dv_pl (pe_var (i := 1) rfl (.inr (.inl rfl)))) (dv_ex de_int) (fun _ _ => rfl))) (da_cons (dv_ex (de_callI rfl (has_law_pick c) (hr.mono (by decide)) tk rfl (da_cons (dv_pl (pe_var (i := 0) rfl (.inl rfl))) (da_cons (dv_ex (de_fz (do_lst (da_cons (dv_ex de_int) (da_cons (dv_ex de_int) (da_cons (dv_ex de_int) (da_cons (dv_ex de_int) da_nil))))))) da_nil)))) da_nil)))))
 (bk_cons (ds_setO (i := 3) hN rfl (.inl rfl) rfl (do_lst (da_cons (dv_ex (de_callI rfl (has_law_coin c) (hr.mono (by decide)) tk rfl (da_cons (dv_pl (pe_var (i := 0) rfl (.inl rfl))) (da_cons (dv_ex de_int) da_nil)))) (da_cons (dv_ex (de_callI rfl (has_law_pick c) (hr.mono (by decide)) tk rfl (da_cons (dv_pl (pe_var (i := 0) rfl (.inl rfl))) (da_cons (dv_ex (de_fz (do_lst (da_cons (dv_ex de_int) (da_cons (dv_ex de_int) (da_cons (dv_ex de_int) (da_cons (dv_ex de_int) (da_cons (dv_ex de_int) (da_cons (dv_ex de_int) da_nil))))))))) da_nil)))) (da_cons (dv_ex (de_callB (cd_len rfl) rfl c.b_len rfl (da_cons (dv_pl (pe_var (i := 2) rfl (.inr (.inl rfl)))) da_nil))) (da_cons (dv_ex (de_callI rfl (has_law_coin c) (hr.mono (by decide)) tk rfl (da_cons (dv_pl (pe_var (i := 0) rfl (.inl rfl))) (da_cons (dv_ex de_int) da_nil)))) da_nil))))))
 (bk_cons (ds_setLcN rfl hN (i := 5) rfl rfl rfl rfl (di_seq rfl (de_var (pe_var (i := 3) rfl (.inl rfl)))) (own := [("number", 4)]) (blkOk_by (by kernel_rfl)) rfl rfl (fun _ _ _ _ _ => (dg_nm (i := 4) hN rfl (.inl rfl) rfl)) (fun _ _ _ _ _ => (do_call rfl (has_window_answers c) (hr.mono (by decide)) takes0 rfl (da_cons (dv_ex (de_var (pe_var (i := 1) rfl (.inr (.inl rfl))))) (da_cons (dv_ex (de_var (pe_var (i := 2) rfl (.inr (.inl rfl))))) (da_cons (dv_ex (de_var (pe_var (i := 4) rfl (.inl rfl)))) da_nil))))))
 (bk_cons (ds_if (dt_not (dt_L (db_E (de_callS rfl (has_law_same c 8) (hr.mono (by decide)) tk rfl (da_cons (dv_pn (pe_var (i := 5) rfl (.inl rfl))) (da_cons (dv_ex (de_fz (do_lc rfl hN (di_seq rfl (de_var (pe_var (i := 3) rfl (.inl rfl)))) (own := [("number", 4)]) (blkOk_by (by kernel_rfl)) rfl rfl (fun _ _ _ _ _ => (dg_nm (i := 4) hN rfl (.inl rfl) rfl)) (fun _ _ _ _ _ => dts_nil) (fun _ _ _ _ _ => (de_fz (do_call rfl (has_law_due c) (hr.mono (by decide)) takes0 rfl (da_cons (dv_ex (de_var (pe_var (i := 1) rfl (.inr (.inl rfl))))) (da_cons (dv_ex (de_var (pe_var (i := 2) rfl (.inr (.inl rfl))))) (da_cons (dv_ex (de_var (pe_var (i := 4) rfl (.inl rfl)))) da_nil))))))))) da_nil))))))
 (bk_one (ds_ret de_bl))
 bk_nil)
 (bk_cons (ds_set (i := 6) hN rfl (.inl rfl) rfl (de_callI rfl (has_law_log c) (hr.mono (by decide)) tk rfl (da_cons (dv_pl (pe_var (i := 0) rfl (.inl rfl))) (da_cons (dv_ex (de_ix rfl (dv_pl (pe_var (i := 1) rfl (.inr (.inl rfl)))) (dv_ex de_int) (fun _ _ => rfl))) (da_cons (dv_ex de_int) da_nil)))))
 (bk_cons (ds_if (dt_not (dt_L (db_E (de_callS rfl (has_law_same c 8) (hr.mono (by decide)) tk rfl (da_cons (dv_ex (de_fz (do_callK (x := "window_answers") (k := 8) rfl (hr.mono (by decide)) tk rfl (hask_window_answers_1_log_number c) (da_cons (dv_ex (de_var (pe_var (i := 1) rfl (.inr (.inl rfl))))) da_nil) (dk_cons (dv_ex (de_var (pe_var (i := 6) rfl (.inl rfl)))) (dk_cons (dv_ex (de_ix rfl (dv_pl (pe_var (i := 3) rfl (.inl rfl))) (dv_ex de_int) (fun _ _ => rfl))) dk_nil))))) (da_cons (dv_ex (de_fz (do_call rfl (has_law_due c) (hr.mono (by decide)) tk rfl (da_cons (dv_ex (de_var (pe_var (i := 1) rfl (.inr (.inl rfl))))) (da_cons (dv_ex (de_var (pe_var (i := 6) rfl (.inl rfl)))) (da_cons (dv_ex (de_ix rfl (dv_pl (pe_var (i := 3) rfl (.inl rfl))) (dv_ex de_int) (fun _ _ => rfl))) da_nil)))))) da_nil))))))
 (bk_one (ds_ret de_bl))
 bk_nil)
 (bk_cons (ds_expr (de_appN rfl (pe_var (i := 5) rfl (.inl rfl)) (fun _ _ => rfl)))
 (bk_cons (ds_setO (i := 7) hN rfl (.inl rfl) rfl (do_callK0 (x := "window_answers") (k := 8) rfl (hr.mono (by decide)) tk rfl (hask_window_answers_0_number_summary_log c) (dk_cons (dv_ex (de_ix rfl (dv_pl (pe_var (i := 3) rfl (.inl rfl))) (dv_ex de_int) (fun _ _ => rfl))) (dk_cons (dv_ex (de_var (pe_var (i := 1) rfl (.inr (.inl rfl))))) (dk_cons (dv_ex (de_var (pe_var (i := 2) rfl (.inr (.inl rfl))))) dk_nil)))))
 (bk_one (ds_ret (de_L (db_and (db_E (de_callS rfl (has_law_same c 8) (hr.mono (by decide)) tk rfl (da_cons (dv_pn (pe_var (i := 7) rfl (.inl rfl))) (da_cons (dv_ex (de_fz (do_call rfl (has_law_due c) (hr.mono (by decide)) tk rfl (da_cons (dv_ex (de_var (pe_var (i := 1) rfl (.inr (.inl rfl))))) (da_cons (dv_ex (de_var (pe_var (i := 2) rfl (.inr (.inl rfl))))) (da_cons (dv_ex (de_ix rfl (dv_pl (pe_var (i := 3) rfl (.inl rfl))) (dv_ex de_int) (fun _ _ => rfl))) da_nil)))))) da_nil)))) (db_one (db_E (de_callS rfl (has_law_same c 8) (hr.mono (by decide)) tk rfl (da_cons (dv_ex (de_ix rfl (dv_ex (de_var (pe_var (i := 5) rfl (.inl rfl)))) (dv_ex de_int) (fun _ _ => rfl))) (da_cons (dv_ex (de_fz (do_call rfl (has_answers_along c) (hr.mono (by decide)) tk rfl (da_cons (dv_ex (de_var (pe_var (i := 1) rfl (.inr (.inl rfl))))) (da_cons (dv_ex (de_var (pe_var (i := 2) rfl (.inr (.inl rfl))))) da_nil))))) da_nil))))))))))))))))))
theorem has_law_right (c : Fx K mg) : Has P w K mg base "_law_right" 9 (["purse"] : List Str) (SpI K f_law_right) := by
  obtain ⟨f, fd, hm, F⟩ := c.d_law_right
  exact ⟨f, fd, hm, F.kp, F.bindsN fun _ _ _ _ _ _ us hl => match us, hl with | [_], _ => rfl, ok_law_right c F⟩
theorem sc_law : FnScope (["script", "at"] : List Str) (["script"] : List Str) (defScope (top 37)) := C8.fnScope_by (by decide +kernel)
theorem ok_law (c : Fx K mg) {f : Addr} {fd : FuncData} (F : FnP K "law" (top 37) f fd) : FnOk P w K mg base (L2.CX P w) 10 f fd (["script"] : List Str) (SpF K f_law) := by
  refine fn_F F sc_law fun cdv A outer s₀ H E hr => ?_
  have hN := sc_law.nd
  have tk : Takes (cxOf (L2.CX P w) P w K mg base (["script", "at"] : List Str) "law" (defScope (top 37)) f cdv A outer s₀ H E) (WE0 E) := takes_of rfl rfl rfl rfl
  have po : PassesOwn (model P w) _ _ (cxOf (L2.CX P w) P w K mg base (["script", "at"] : List Str) "law" (defScope (top 37)) f cdv A outer s₀ H E).xe := passes_of rfl
  exact (bk_cons (ds_for po rfl (di_range1 rfl c.b_range (da_cons (dv_ex (de_callB (cd_max2 rfl) rfl c.b_max rfl (da_cons (dv_ex de_int) (da_cons (dv_ex (de_callB (cd_min2 rfl) rfl c.b_min rfl (da_cons (dv_ex de_int) (da_cons (dv_ex (de_callB (cd_len rfl) rfl c.b_len rfl (da_cons (dv_pl (pe_var (i := 0) rfl (.inl rfl))) da_nil))) da_nil)))) da_nil)))) da_nil)) (dg_nm (i := 1) hN rfl (.inl rfl) rfl)
 (bk_one (ds_if (dt_not (dt_L (db_E (de_callT rfl (has_law_right c) (hr.mono (by decide)) tk rfl (dm_op (do_call rfl (has_law_purse c) (hr.mono (by decide)) tk rfl (da_cons (dv_ex (de_var (pe_var (i := 0) rfl (.inl rfl)))) (da_cons (dv_ex (de_var (pe_var (i := 1) rfl (.inl rfl)))) da_nil))) dm_nil)))))
 (bk_one (ds_ret de_bl))
 bk_nil)))
 (bk_one (ds_ret de_bl)))
theorem has_law (c : Fx K mg) : Has P w K mg base "law" 10 (["script"] : List Str) (SpF K f_law) := by
  obtain ⟨f, fd, hm, F⟩ := c.d_law
  exact ⟨f, fd, hm, F.kp, F.bindsN fun _ _ _ _ _ _ us hl => match us, hl with | [_], _ => rfl, ok_law c F⟩
end
def dd0 : He.DefD := ⟨("is_integer", none), "is_integer", "is_integer", defArgs (top 6), defBody (top 6), defScope (top 6), [], []⟩
def dd1 : He.DefD := ⟨("is_from", none), "is_from", "is_from", defArgs (top 7), defBody (top 7), defScope (top 7), [], []⟩
def dd2 : He.DefD := ⟨("is_below", none), "is_below", "is_below", defArgs (top 8), defBody (top 8), defScope (top 8), [], []⟩
def dd3 : He.DefD := ⟨("is_tuple", none), "is_tuple", "is_tuple", defArgs (top 9), defBody (top 9), defScope (top 9), [], []⟩
def dd4 : He.DefD := ⟨("is_row", none), "is_row", "is_row", defArgs (top 10), defBody (top 10), defScope (top 10), [], []⟩
def dd5 : He.DefD := ⟨("row_fault", none), "row_fault", "row_fault", defArgs (top 11), defBody (top 11), defScope (top 11), [], []⟩
def dd6 : He.DefD := ⟨("check_number", none), "check_number", "check_number", defArgs (top 12), defBody (top 12), defScope (top 12), [], []⟩
def dd7 : He.DefD := ⟨("check_log", none), "check_log", "check_log", defArgs (top 13), defBody (top 13), defScope (top 13), [], []⟩
def dd8 : He.DefD := ⟨("summary_fault", none), "summary_fault", "summary_fault", defArgs (top 15), defBody (top 15), defScope (top 15), [], []⟩
def dd9 : He.DefD := ⟨("check_summary", none), "check_summary", "check_summary", defArgs (top 16), defBody (top 16), defScope (top 16), [], []⟩
def dd10 : He.DefD := ⟨("check_read", none), "check_read", "check_read", defArgs (top 17), defBody (top 17), defScope (top 17), [], []⟩
def dd11 : He.DefD := ⟨("led", none), "led", "led", defArgs (top 18), defBody (top 18), defScope (top 18), [], []⟩
def dd12 : He.DefD := ⟨("answer_in", none), "answer_in", "answer_in", defArgs (top 19), defBody (top 19), defScope (top 19), [], []⟩
def dd13 : He.DefD := ⟨("answers_along", none), "answers_along", "answers_along", defArgs (top 20), defBody (top 20), defScope (top 20), [], []⟩
def dd14 : He.DefD := ⟨("window_answers", none), "window_answers", "window_answers", defArgs (top 22), defBody (top 22), defScope (top 22), [], []⟩
def dd15 : He.DefD := ⟨("_law_purse", none), "_law_purse", "_law_purse", defArgs (top 24), defBody (top 24), defScope (top 24), [], []⟩
def dd16 : He.DefD := ⟨("_law_coin", none), "_law_coin", "_law_coin", defArgs (top 25), defBody (top 25), defScope (top 25), [], []⟩
def dd17 : He.DefD := ⟨("_law_pick", none), "_law_pick", "_law_pick", defArgs (top 26), defBody (top 26), defScope (top 26), [], []⟩
def dd18 : He.DefD := ⟨("_law_same", none), "_law_same", "_law_same", defArgs (top 27), defBody (top 27), defScope (top 27), [], []⟩
def dd19 : He.DefD := ⟨("_law_log", none), "_law_log", "_law_log", defArgs (top 28), defBody (top 28), defScope (top 28), [], []⟩
def dd20 : He.DefD := ⟨("_law_led", none), "_law_led", "_law_led", defArgs (top 29), defBody (top 29), defScope (top 29), [], []⟩
def dd21 : He.DefD := ⟨("_law_answer", none), "_law_answer", "_law_answer", defArgs (top 30), defBody (top 30), defScope (top 30), [], []⟩
def dd22 : He.DefD := ⟨("_law_column", none), "_law_column", "_law_column", defArgs (top 31), defBody (top 31), defScope (top 31), [], []⟩
def dd23 : He.DefD := ⟨("_law_any", none), "_law_any", "_law_any", defArgs (top 32), defBody (top 32), defScope (top 32), [], []⟩
def dd24 : He.DefD := ⟨("_law_summary", none), "_law_summary", "_law_summary", defArgs (top 33), defBody (top 33), defScope (top 33), [], []⟩
def dd25 : He.DefD := ⟨("_law_copied", none), "_law_copied", "_law_copied", defArgs (top 34), defBody (top 34), defScope (top 34), [], []⟩
def dd26 : He.DefD := ⟨("_law_due", none), "_law_due", "_law_due", defArgs (top 35), defBody (top 35), defScope (top 35), [], []⟩
def dd27 : He.DefD := ⟨("_law_right", none), "_law_right", "_law_right", defArgs (top 36), defBody (top 36), defScope (top 36), [], []⟩
def dd28 : He.DefD := ⟨("law", none), "law", "law", defArgs (top 37), defBody (top 37), defScope (top 37), [], []⟩
def fn : List He.DefD := [dd0, dd1, dd2, dd3, dd4, dd5, dd6, dd7, dd8, dd9, dd10, dd11, dd12, dd13, dd14, dd15, dd16, dd17, dd18, dd19] ++ [dd20, dd21, dd22, dd23, dd24, dd25, dd26, dd27, dd28]
def fa : List He.Fa := [.glo "is_integer", .glo "is_from", .glo "is_below", .glo "is_tuple", .glo "is_row", .glo "row_fault", .glo "check_number", .glo "check_log", .glo "summary_fault", .glo "check_summary", .glo "check_read", .glo "led", .glo "answer_in", .glo "answers_along", .glo "window_answers", .glo "_law_purse", .glo "_law_coin", .glo "_law_pick", .glo "_law_same", .glo "_law_log"] ++ [.glo "_law_led", .glo "_law_answer", .glo "_law_column", .glo "_law_any", .glo "_law_summary", .glo "_law_copied", .glo "_law_due", .glo "_law_right", .glo "law", .free "abs", .free "all", .free "bool", .free "enumerate", .free "int", .free "isinstance", .free "len", .free "list", .free "max", .free "min", .free "range"] ++ [.free "set", .free "str", .free "tuple"]
def loose : List Str := (["ArriveError", "InvalidNumber", "InvalidLog", "InvalidSummary", "is_integer", "is_from", "is_below", "is_tuple", "is_row", "row_fault", "check_number", "check_log", "summary_fault", "check_summary", "check_read", "led", "answer_in", "answers_along", "window_answers", "_law_purse"] : List Str) ++ (["_law_coin", "_law_pick", "_law_same", "_law_log", "_law_led", "_law_answer", "_law_column", "_law_any", "_law_summary", "_law_copied", "_law_due", "_law_right"] : List Str)
abbrev R : PySem.W.OpenRow := PySem.W.OpenLaw.row PySem.Challenge.rw_arrivesalike_k50_windows_by_own_ends
abbrev hk : PySem.W.Hook := He.hookD 4 fa fn
def ob (s : PySem.W.SharedT) : He.AlD := He.obsDG 4 fa fn (HandSHeadRun.getT s)
theorem ob_eq (s : PySem.W.SharedT) : ob s = hk.obs s.abs := He.obsDG_eq (HandSHeadRun.getT_eq s)
theorem run (w : World) : HandSHeadRun.RunEq R (PySem.W.view R.prog [37]) hk ob 8000 loose w := by
  intro os
  kernel_rfl
theorem fx_of {K : PySem.W.Frag} {h : Heap} {mg : Str → Option Value} (X : K.In h) (G : h.Ns mainGlobals mg) (c : He.SaysD fa fn K) : Fx K mg :=
  ⟨He.free_ok X G (c.fact 29 rfl),
   He.free_ok X G (c.fact 30 rfl),
   He.free_ok X G (c.fact 31 rfl),
   He.free_ok X G (c.fact 32 rfl),
   He.free_ok X G (c.fact 33 rfl),
   He.free_ok X G (c.fact 34 rfl),
   He.free_ok X G (c.fact 35 rfl),
   He.free_ok X G (c.fact 36 rfl),
   He.free_ok X G (c.fact 37 rfl),
   He.free_ok X G (c.fact 38 rfl),
   He.free_ok X G (c.fact 39 rfl),
   He.free_ok X G (c.fact 40 rfl),
   He.free_ok X G (c.fact 41 rfl),
   He.free_ok X G (c.fact 42 rfl),
   (let ⟨fd, F⟩ := c.def_ 0 (d := dd0) rfl; ⟨_, fd, He.glo_ok X G (c.fact 0 rfl), F⟩),
   (let ⟨fd, F⟩ := c.def_ 1 (d := dd1) rfl; ⟨_, fd, He.glo_ok X G (c.fact 1 rfl), F⟩),
   (let ⟨fd, F⟩ := c.def_ 2 (d := dd2) rfl; ⟨_, fd, He.glo_ok X G (c.fact 2 rfl), F⟩),
   (let ⟨fd, F⟩ := c.def_ 3 (d := dd3) rfl; ⟨_, fd, He.glo_ok X G (c.fact 3 rfl), F⟩),
   (let ⟨fd, F⟩ := c.def_ 4 (d := dd4) rfl; ⟨_, fd, He.glo_ok X G (c.fact 4 rfl), F⟩),
   (let ⟨fd, F⟩ := c.def_ 5 (d := dd5) rfl; ⟨_, fd, He.glo_ok X G (c.fact 5 rfl), F⟩),
   (let ⟨fd, F⟩ := c.def_ 6 (d := dd6) rfl; ⟨_, fd, He.glo_ok X G (c.fact 6 rfl), F⟩),
   (let ⟨fd, F⟩ := c.def_ 7 (d := dd7) rfl; ⟨_, fd, He.glo_ok X G (c.fact 7 rfl), F⟩),
   (let ⟨fd, F⟩ := c.def_ 8 (d := dd8) rfl; ⟨_, fd, He.glo_ok X G (c.fact 8 rfl), F⟩),
   (let ⟨fd, F⟩ := c.def_ 9 (d := dd9) rfl; ⟨_, fd, He.glo_ok X G (c.fact 9 rfl), F⟩),
   (let ⟨fd, F⟩ := c.def_ 10 (d := dd10) rfl; ⟨_, fd, He.glo_ok X G (c.fact 10 rfl), F⟩),
   (let ⟨fd, F⟩ := c.def_ 11 (d := dd11) rfl; ⟨_, fd, He.glo_ok X G (c.fact 11 rfl), F⟩),
   (let ⟨fd, F⟩ := c.def_ 12 (d := dd12) rfl; ⟨_, fd, He.glo_ok X G (c.fact 12 rfl), F⟩),
   (let ⟨fd, F⟩ := c.def_ 13 (d := dd13) rfl; ⟨_, fd, He.glo_ok X G (c.fact 13 rfl), F⟩),
   (let ⟨fd, F⟩ := c.def_ 14 (d := dd14) rfl; ⟨_, fd, He.glo_ok X G (c.fact 14 rfl), F⟩),
   (let ⟨fd, F⟩ := c.def_ 15 (d := dd15) rfl; ⟨_, fd, He.glo_ok X G (c.fact 15 rfl), F⟩),
   (let ⟨fd, F⟩ := c.def_ 16 (d := dd16) rfl; ⟨_, fd, He.glo_ok X G (c.fact 16 rfl), F⟩),
   (let ⟨fd, F⟩ := c.def_ 17 (d := dd17) rfl; ⟨_, fd, He.glo_ok X G (c.fact 17 rfl), F⟩),
   (let ⟨fd, F⟩ := c.def_ 18 (d := dd18) rfl; ⟨_, fd, He.glo_ok X G (c.fact 18 rfl), F⟩),
   (let ⟨fd, F⟩ := c.def_ 19 (d := dd19) rfl; ⟨_, fd, He.glo_ok X G (c.fact 19 rfl), F⟩),
   (let ⟨fd, F⟩ := c.def_ 20 (d := dd20) rfl; ⟨_, fd, He.glo_ok X G (c.fact 20 rfl), F⟩),
   (let ⟨fd, F⟩ := c.def_ 21 (d := dd21) rfl; ⟨_, fd, He.glo_ok X G (c.fact 21 rfl), F⟩),
   (let ⟨fd, F⟩ := c.def_ 22 (d := dd22) rfl; ⟨_, fd, He.glo_ok X G (c.fact 22 rfl), F⟩),
   (let ⟨fd, F⟩ := c.def_ 23 (d := dd23) rfl; ⟨_, fd, He.glo_ok X G (c.fact 23 rfl), F⟩),
   (let ⟨fd, F⟩ := c.def_ 24 (d := dd24) rfl; ⟨_, fd, He.glo_ok X G (c.fact 24 rfl), F⟩),
   (let ⟨fd, F⟩ := c.def_ 25 (d := dd25) rfl; ⟨_, fd, He.glo_ok X G (c.fact 25 rfl), F⟩),
   (let ⟨fd, F⟩ := c.def_ 26 (d := dd26) rfl; ⟨_, fd, He.glo_ok X G (c.fact 26 rfl), F⟩),
   (let ⟨fd, F⟩ := c.def_ 27 (d := dd27) rfl; ⟨_, fd, He.glo_ok X G (c.fact 27 rfl), F⟩),
   (let ⟨fd, F⟩ := c.def_ 28 (d := dd28) rfl; ⟨_, fd, He.glo_ok X G (c.fact 28 rfl), F⟩)⟩
end LK
open PySem PySem.W PySem.Calls
theorem PySem.Challenge.cw_arrivesalike_k50_windows_by_own_ends_holds : PySem.Challenge.rw_arrivesalike_k50_windows_by_own_ends.Holds := by
  w_on; o_law
  refine HandSHeadRun.head_any (r := OpenLaw.row PySem.Challenge.rw_arrivesalike_k50_windows_by_own_ends) (q := view (OpenLaw.row PySem.Challenge.rw_arrivesalike_k50_windows_by_own_ends).prog [37]) (H := LK.hk) (ob := LK.ob) (M := 8000) (loose := LK.loose) (d := HandSHeadRun.topDef (OpenLaw.row PySem.Challenge.rw_arrivesalike_k50_windows_by_own_ends).prog 37) (kwd := []) LK.ob_eq
    (by kernel_rfl) (fun s => by kernel_rfl) LK.run (by kernel_rfl) (by kernel_rfl) (by kernel_rfl) (by rfl) (by first | assumption | decide +kernel) (by decide +kernel) ⟨rfl, rfl, rfl, rfl, rfl, by decide +kernel⟩ ?hw ?hc
  case hw => w_witness2
  case hc =>
    refine DL.walkD (l := PySem.Challenge.rw_arrivesalike_k50_windows_by_own_ends) (n := 63) (k := 10) (x := "script") rfl (by decide) (by kernel_rfl) ⟨rfl, by decide, by decide⟩ ?F
    intro w mg fa h Y G hmg0
    obtain ⟨K, KX, c⟩ := Y
    have hmg : mg ("law" : PySem.Str) = some (.ref fa) := by
      have e : (HandSHeadRun.topDef (OpenLaw.row PySem.Challenge.rw_arrivesalike_k50_windows_by_own_ends).prog 37).name = ("law" : PySem.Str) := by kernel_rfl
      rw [← e]
      exact hmg0
    have cc := LK.fx_of KX G c
    obtain ⟨f, fd, hf, F⟩ := cc.d_law
    have e := hmg.symm.trans hf
    cases e
    have b := L2.FunD.bindsA (ps := ["script"]) F fun _ _ _ _ _ _ us hl => match us, hl with | [_], _ => rfl
    exact ⟨K, fd, LK.f_law, KX, fun s v => b s [v] rfl, LK.law_true, fun base _ _ => LK.ok_law cc F⟩
