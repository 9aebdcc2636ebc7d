import PyProof.Rows.All
import Wide.All
import OpenK.AllK
import Wide.FinOn
import HandS.ForMost
import HandS.ForExc
import HandS.TryOnly
import HandS.TryMany
import HandS.TryElse
import HandS.ExcOwn
import HandS.ExcIs
import HandS.CallSlots
import HandS.Wide
import HandS.Rev
import HandS.Codes
import HandS.IsInst
import HandS.TupAny
import HandS.Style
import HandS.Text
import HandS.More
import HandS.Finally
import PySem.Challenge.RW_heirbook_k12_texts_of_no_way
set_option Elab.async false
set_option linter.all false
set_option maxRecDepth 100000
/-! DLCore: a layer of data over the hand layer: tuples are values, mutable objects stand at places 0, 1, .. of a list. -/
namespace DL
open PySem PySem.Spec PyProof.Rows L2
abbrev St := L2.St

inductive D where
  | non | bl (b : Bool) | int (i : Int) | str (x : Str) | ref (n : Nat) | tup (xs : List D) | raw (v : V)
instance : Inhabited D := ⟨.non⟩
inductive DO where
  | lst (xs : List D) | dk (kvs : List (Key × D)) | dt (kvs : List (List Key × D)) | ins (C : Addr) (fs : List (Str × D)) | scr (xs : List D)
abbrev DH := List DO
abbrev DEnv := List (Option D)
def DO.isScr : DO → Bool
  | .scr _ => true
  | _ => false

section
variable (K : PySem.W.Frag)
mutual
inductive RV (H : Hp) (al : List Addr) : D → V → Prop where
  | non : RV H al .non .non
  | bl {b} : RV H al (.bl b) (.bl b)
  | int {i} : RV H al (.int i) (.int i)
  | str {x} : RV H al (.str x) (.str x)
  | ref {n a} : al[n]? = some a → RV H al (.ref n) (.ref a)
  | tup {a vs ds} : SqT K H a vs → RVs H al ds vs → RV H al (.tup ds) (.ref a)
  | raw {v} : RV H al (.raw v) v
inductive RVs (H : Hp) (al : List Addr) : List D → List V → Prop where
  | nil : RVs H al [] []
  | cons {d v ds vs} : RV H al d v → RVs H al ds vs → RVs H al (d :: ds) (v :: vs)
end
structure Evo (H : Hp) (al : List Addr) (H' : Hp) (al' : List Addr) : Prop where
  pre : ∃ r, al' = al ++ r
  tup : ∀ a vs, SqT K H a vs → SqT K H' a vs
def KR {κ : Type} (H : Hp) (al : List Addr) (p : κ × D) (q : κ × V) : Prop := p.1 = q.1 ∧ RV K H al p.2 q.2
def RO (H : Hp) (al : List Addr) : DO → Addr → Prop
  | .lst ds, a => ∃ vs, H a = some (.lst vs) ∧ RVs K H al ds vs
  | .dk kvs, a => ∃ kv, H a = some (.dK kv) ∧ Paired (KR K H al) kvs kv
  | .dt kvs, a => ∃ kv, H a = some (.dT kv) ∧ Paired (KR K H al) kvs kv
  | .ins C fs, a => ∃ dx fv, H a = some (.ins C dx fv) ∧ Paired (KR K H al) fs fv
  | .scr ds, a => ∃ vs, ((∃ o, H a = some (.frz o (.lst vs))) ∨ (∀ H', SqL K H' a vs)) ∧ RVs K H al ds vs
structure RH (H : Hp) (al : List Addr) (h : DH) : Prop where
  len : h.length = al.length
  obj : ∀ (n : Nat) (o : DO) (a : Addr), h[n]? = some o → al[n]? = some a → RO K H al o a
  uniq : ∀ (i j : Nat) (a : Addr) (o o' : DO), al[i]? = some a → al[j]? = some a → h[i]? = some o → h[j]? = some o' → o.isScr = false → o'.isScr = false → i = j
def RSlot (H : Hp) (al : List Addr) : Option D → Option V → Prop
  | none, _ => True
  | some d, some v => RV K H al d v
  | some _, none => False
abbrev RS (H : Hp) (al : List Addr) : DEnv → St → Prop := Paired (RSlot K H al)
end

section
variable {K : PySem.W.Frag} {H H1 H2 : Hp} {al al1 al2 : List Addr}
theorem Evo.refl : Evo K H al H al := ⟨⟨[], by simp⟩, fun _ _ h => h⟩
theorem Evo.trans (a : Evo K H al H1 al1) (b : Evo K H1 al1 H2 al2) : Evo K H al H2 al2 := by
  obtain ⟨⟨r, e⟩, t⟩ := a
  obtain ⟨⟨r', e'⟩, t'⟩ := b
  exact ⟨⟨r ++ r', by rw [e', e, List.append_assoc]⟩, fun a vs h => t' a vs (t a vs h)⟩
theorem Evo.at (e : Evo K H al H1 al1) {n : Nat} {a : Addr} (h : al[n]? = some a) : al1[n]? = some a := by
  obtain ⟨⟨r, rfl⟩, _⟩ := e
  obtain ⟨hn, _⟩ := List.getElem?_eq_some_iff.mp h
  rw [List.getElem?_append_left hn]
  exact h
mutual
theorem RV.evo (e : Evo K H al H1 al1) : ∀ {d : D} {v : V}, RV K H al d v → RV K H1 al1 d v
  | _, _, .non => .non
  | _, _, .bl => .bl
  | _, _, .int => .int
  | _, _, .str => .str
  | _, _, .ref h => .ref (e.at h)
  | _, _, .tup h hs => .tup (e.tup _ _ h) (RVs.evo e hs)
  | _, _, .raw => .raw
theorem RVs.evo (e : Evo K H al H1 al1) : ∀ {ds : List D} {vs : List V}, RVs K H al ds vs → RVs K H1 al1 ds vs
  | _, _, .nil => .nil
  | _, _, .cons h t => .cons (RV.evo e h) (RVs.evo e t)
end
theorem KR.evo {κ : Type} (e : Evo K H al H1 al1) {p : κ × D} {q : κ × V} (h : KR K H al p q) : KR K H1 al1 p q := ⟨h.1, h.2.evo e⟩
theorem RSlot.evo (e : Evo K H al H1 al1) : ∀ {d : Option D} {v : Option V}, RSlot K H al d v → RSlot K H1 al1 d v
  | none, _, _ => trivial
  | some _, some _, h => RV.evo e h
  | some _, none, h => h
theorem RS.evo (e : Evo K H al H1 al1) {ρ : DEnv} {σ : St} (h : RS K H al ρ σ) : RS K H1 al1 ρ σ := Paired.mapP h fun _ _ q => RSlot.evo e q

/-! ### lists of values -/
theorem RVs.length : ∀ {ds : List D} {vs : List V}, RVs K H al ds vs → ds.length = vs.length
  | _, _, .nil => rfl
  | _, _, .cons _ t => congrArg (· + 1) (RVs.length t)
theorem RVs.get : ∀ {ds : List D} {vs : List V} {i : Nat} {d : D}, RVs K H al ds vs → ds[i]? = some d → ∃ v, vs[i]? = some v ∧ RV K H al d v
  | _, _, i, _, .nil, e => by simp at e
  | _, _, 0, _, .cons h _, e => by simp at e; subst e; exact ⟨_, rfl, h⟩
  | _, _, i + 1, d, .cons _ t, e => by
    obtain ⟨v, h1, h2⟩ := RVs.get (i := i) (d := d) t (by simpa using e)
    exact ⟨v, by simpa using h1, h2⟩
theorem RVs.append : ∀ {ds es : List D} {vs ws : List V}, RVs K H al ds vs → RVs K H al es ws → RVs K H al (ds ++ es) (vs ++ ws)
  | _, _, _, _, .nil, s => s
  | _, _, _, _, .cons r t, s => .cons r (RVs.append t s)
theorem RVs.take : ∀ {ds : List D} {vs : List V} (n : Nat), RVs K H al ds vs → RVs K H al (ds.take n) (vs.take n)
  | _, _, 0, _ => by simpa using RVs.nil
  | _, _, _ + 1, .nil => .nil
  | _, _, n + 1, .cons r t => .cons r (RVs.take n t)
theorem RVs.drop : ∀ {ds : List D} {vs : List V} (n : Nat), RVs K H al ds vs → RVs K H al (ds.drop n) (vs.drop n)
  | _, _, 0, r => r
  | _, _, _ + 1, .nil => .nil
  | _, _, n + 1, .cons _ t => RVs.drop n t
theorem RVs.set {d : D} {v : V} (r : RV K H al d v) : ∀ {ds : List D} {vs : List V} (i : Nat), RVs K H al ds vs → RVs K H al (ds.set i d) (vs.set i v)
  | _, _, _, .nil => .nil
  | _, _, 0, .cons _ t => .cons r t
  | _, _, i + 1, .cons q t => .cons q (RVs.set r i t)
theorem RVs.snoc {ds : List D} {vs : List V} {d : D} {v : V} (h : RVs K H al ds vs) (r : RV K H al d v) : RVs K H al (ds ++ [d]) (vs ++ [v]) := h.append (.cons r .nil)
theorem RVs.reverse : ∀ {ds : List D} {vs : List V}, RVs K H al ds vs → RVs K H al ds.reverse vs.reverse
  | _, _, .nil => .nil
  | _, _, .cons r t => by simpa using (RVs.reverse t).snoc r
theorem RVs.dropLast {ds : List D} {vs : List V} (h : RVs K H al ds vs) : RVs K H al ds.dropLast vs.dropLast := by
  rw [List.dropLast_eq_take, List.dropLast_eq_take, h.length]
  exact h.take _
theorem RVs.ints : ∀ {ns : List Int} {vs : List V}, RVs K H al (ns.map D.int) vs → vs = ns.map V.int
  | [], _, .nil => rfl
  | _ :: _, _, .cons .int t => by simp [RVs.ints t]
theorem RVs.of_ints : ∀ {ns : List Int}, RVs K H al (ns.map D.int) (ns.map V.int)
  | [] => .nil
  | _ :: _ => .cons .int RVs.of_ints
theorem RVs.strs : ∀ {ns : List Str} {vs : List V}, RVs K H al (ns.map D.str) vs → vs = ns.map V.str
  | [], _, .nil => rfl
  | _ :: _, _, .cons .str t => by simp [RVs.strs t]
theorem RVs.of_strs : ∀ {ns : List Str}, RVs K H al (ns.map D.str) (ns.map V.str)
  | [] => .nil
  | _ :: _ => .cons .str RVs.of_strs
theorem RVs.bls : ∀ {ns : List Bool} {vs : List V}, RVs K H al (ns.map D.bl) vs → vs = ns.map V.bl
  | [], _, .nil => rfl
  | _ :: _, _, .cons .bl t => by simp [RVs.bls t]

/-! ### slots -/
theorem RS.get {ρ : DEnv} {σ : St} (h : RS K H al ρ σ) {i : Nat} {d : D} (e : ρ[i]? = some (some d)) : ∃ v, σ[i]? = some (some v) ∧ RV K H al d v := by
  obtain ⟨b, e', r⟩ := paired_get h e
  cases b with
  | none => exact r.elim
  | some v => exact ⟨v, e', r⟩
theorem Paired.setP {α β : Type} {F : α → β → Prop} {a : α} {b : β} (r : F a b) : ∀ {l₁ : List α} {l₂ : List β} (i : Nat), Paired F l₁ l₂ → Paired F (l₁.set i a) (l₂.set i b)
  | _, _, _, .nil => .nil
  | _, _, 0, .cons _ t => .cons r t
  | _, _, i + 1, .cons q t => .cons q (Paired.setP r i t)
theorem RS.set {ρ : DEnv} {σ : St} (h : RS K H al ρ σ) (i : Nat) {d : D} {v : V} (r : RV K H al d v) : RS K H al (ρ.set i (some d)) (σ.set i (some v)) := Paired.setP (show RSlot K H al (some d) (some v) from r) i h
theorem RS.gone {ρ : DEnv} {σ : St} (h : RS K H al ρ σ) (i : Nat) (o : Option V) : RS K H al (ρ.set i none) (σ.set i o) := Paired.setP (show RSlot K H al none o from trivial) i h

/-! ### the heap: a new object, a change -/
theorem SqT.upd_new {p : Addr} {o : HO} (hp : H p = none) {a : Addr} {vs : List V} (h : SqT K H a vs) : SqT K (upd H p o) a vs := by
  rcases h with (h | ⟨u, h⟩) | h
  · exact .inl (.inl (by rw [upd_ne (ne_of_none h hp)]; exact h))
  · exact .inl (.inr ⟨u, by rw [upd_ne (ne_of_none h hp)]; exact h⟩)
  · exact .inr h
theorem Evo.new {p : Addr} {o : HO} (hp : H p = none) : Evo K H al (upd H p o) (al ++ [p]) := ⟨⟨[p], rfl⟩, fun _ _ h => SqT.upd_new hp h⟩
/-- something untracked by the layer of data is laid -/
theorem Evo.aside {p : Addr} {o : HO} (hp : H p = none) : Evo K H al (upd H p o) al := ⟨⟨[], by simp⟩, fun _ _ h => SqT.upd_new hp h⟩
def MutO : HO → Bool
  | .lst _ => true
  | .dK _ => true
  | .dT _ => true
  | .ins _ _ _ => true
  | _ => false
theorem Evo.write {p : Addr} {u o : HO} (hp : H p = some u) (m : MutO u = true) : Evo K H al (upd H p o) al := by
  refine ⟨⟨[], by simp⟩, fun a vs h => ?_⟩
  have ne : ∀ q, MutO q = false → H a = some q → a ≠ p := fun q hq e z => by
    subst z; rw [hp] at e; cases e; rw [m] at hq; cases hq
  rcases h with (h | ⟨u, h⟩) | h
  · exact .inl (.inl (by rw [upd_ne (ne _ rfl h)]; exact h))
  · exact .inl (.inr ⟨u, by rw [upd_ne (ne _ rfl h)]; exact h⟩)
  · exact .inr h
theorem RO.mut {o : DO} {a : Addr} (h : RO K H al o a) (ns : o.isScr = false) : ∃ u, H a = some u ∧ MutO u = true := by
  cases o with
  | lst ds => obtain ⟨vs, e, _⟩ := h; exact ⟨_, e, rfl⟩
  | dk ds => obtain ⟨vs, e, _⟩ := h; exact ⟨_, e, rfl⟩
  | dt ds => obtain ⟨vs, e, _⟩ := h; exact ⟨_, e, rfl⟩
  | ins C ds => obtain ⟨dx, vs, e, _⟩ := h; exact ⟨_, e, rfl⟩
  | scr ds => cases ns
/-- an object's description is carried on where the object itself stays -/
theorem RO.evo {o : DO} {a : Addr} (h : RO K H al o a) (e : Evo K H al H1 al1) (st : ∀ u, H a = some u → H1 a = some u) : RO K H1 al1 o a := by
  cases o with
  | lst ds => obtain ⟨vs, q, r⟩ := h; exact ⟨vs, st _ q, r.evo e⟩
  | dk ds => obtain ⟨vs, q, r⟩ := h; exact ⟨vs, st _ q, Paired.mapP r fun _ _ z => z.evo e⟩
  | dt ds => obtain ⟨vs, q, r⟩ := h; exact ⟨vs, st _ q, Paired.mapP r fun _ _ z => z.evo e⟩
  | ins C ds => obtain ⟨dx, vs, q, r⟩ := h; exact ⟨dx, vs, st _ q, Paired.mapP r fun _ _ z => z.evo e⟩
  | scr ds =>
    obtain ⟨vs, q, r⟩ := h
    refine ⟨vs, ?_, r.evo e⟩
    rcases q with ⟨o, q⟩ | q
    · exact .inl ⟨o, st _ q⟩
    · exact .inr q
theorem RH.at {hh : DH} (h : RH K H al hh) {n : Nat} {o : DO} (e : hh[n]? = some o) : ∃ a, al[n]? = some a ∧ RO K H al o a := by
  obtain ⟨hn, _⟩ := List.getElem?_eq_some_iff.mp e
  have hn' : n < al.length := by rw [← h.len]; exact hn
  exact ⟨al[n], List.getElem?_eq_getElem hn', h.obj n o _ e (List.getElem?_eq_getElem hn')⟩
/-- a new object -/
theorem RH.new {hh : DH} {p : Addr} {u : HO} {o : DO} (h : RH K H al hh) (hp : H p = none) (r : RO K (upd H p u) (al ++ [p]) o p) : RH K (upd H p u) (al ++ [p]) (hh ++ [o]) := by
  have ev : Evo K H al (upd H p u) (al ++ [p]) := Evo.new hp
  refine ⟨by simp [h.len], fun n o' a e e' => ?_, fun i j a o1 o2 e1 e2 f1 f2 s1 s2 => ?_⟩
  · by_cases hn : n < hh.length
    · rw [List.getElem?_append_left hn] at e
      rw [List.getElem?_append_left (by rw [← h.len]; exact hn)] at e'
      exact (h.obj n o' a e e').evo ev fun u' q => by rw [upd_ne (ne_of_none q hp)]; exact q
    · have hn2 : n = hh.length := by
        have := (List.getElem?_eq_some_iff.mp e).1
        simp at this; omega
      subst hn2
      rw [List.getElem?_append_right (Nat.le_refl _)] at e
      rw [h.len, List.getElem?_append_right (Nat.le_refl _)] at e'
      simp at e e'
      subst e; subst e'; exact r
  · have old : ∀ (k : Nat) (o' : DO), hh[k]? = some o' → al[k]? = some p → o'.isScr = false → False := fun k o' q1 q2 s => by
      obtain ⟨u', q, _⟩ := (h.obj k o' p q1 q2).mut s
      rw [hp] at q; cases q
    have spl : ∀ (k : Nat) (o' : DO), (hh ++ [o])[k]? = some o' → (al ++ [p])[k]? = some a → (hh[k]? = some o' ∧ al[k]? = some a) ∨ (k = hh.length ∧ a = p) := fun k o' q1 q2 => by
      by_cases hk : k < hh.length
      · rw [List.getElem?_append_left hk] at q1
        rw [List.getElem?_append_left (by rw [← h.len]; exact hk)] at q2
        exact .inl ⟨q1, q2⟩
      · have hk2 : k = hh.length := by
          have := (List.getElem?_eq_some_iff.mp q1).1
          simp at this; omega
        subst hk2
        rw [h.len, List.getElem?_append_right (Nat.le_refl _)] at q2
        simp at q2
        exact .inr ⟨rfl, q2.symm⟩
    rcases spl i o1 f1 e1 with ⟨a1, b1⟩ | ⟨a1, b1⟩ <;> rcases spl j o2 f2 e2 with ⟨a2, b2⟩ | ⟨a2, b2⟩
    · exact h.uniq i j a o1 o2 b1 b2 a1 a2 s1 s2
    · subst b2; exact (old i o1 a1 b1 s1).elim
    · subst b1; exact (old j o2 a2 b2 s2).elim
    · rw [a1, a2]
/-- a changed object -/
theorem RH.write {hh : DH} {n : Nat} {p : Addr} {u : HO} {o o' : DO} (h : RH K H al hh) (e : hh[n]? = some o) (ep : al[n]? = some p) (ns : o.isScr = false) (ns' : o'.isScr = false) (r : RO K (upd H p u) al o' p) : RH K (upd H p u) al (hh.set n o') := by
  obtain ⟨w, hw, mw⟩ := (h.obj n o p e ep).mut ns
  have ev : Evo K H al (upd H p u) al := Evo.write hw mw
  have hn := (List.getElem?_eq_some_iff.mp e).1
  refine ⟨by simp [h.len], fun m o1 a q q' => ?_, fun i j a o1 o2 e1 e2 f1 f2 s1 s2 => ?_⟩
  · by_cases hm : m = n
    · subst hm
      rw [List.getElem?_set_self hn] at q
      rw [ep] at q'
      cases q; cases q'; exact r
    · rw [List.getElem?_set_ne (Ne.symm hm)] at q
      have R := h.obj m o1 a q q'
      by_cases ha : a = p
      · subst ha
        cases hs : o1.isScr with
        | false => exact (hm (h.uniq m n a o1 o q' ep q e hs ns)).elim
        | true =>
          cases o1 with
          | scr ds =>
            obtain ⟨vs, q1, r1⟩ := R
            refine ⟨vs, ?_, r1.evo ev⟩
            rcases q1 with ⟨o, q1⟩ | q1
            · rw [hw] at q1; cases q1; cases mw
            · exact .inr q1
          | _ => cases hs
      · exact R.evo ev fun u' z => by rw [upd_ne ha]; exact z
  · have back : ∀ (k : Nat) (ok : DO), (hh.set n o')[k]? = some ok → ok.isScr = false → ∃ ok' : DO, hh[k]? = some ok' ∧ ok'.isScr = false := fun k ok q s => by
      by_cases hk : k = n
      · subst hk; exact ⟨o, e, ns⟩
      · rw [List.getElem?_set_ne (Ne.symm hk)] at q; exact ⟨ok, q, s⟩
    obtain ⟨x1, y1, z1⟩ := back i o1 f1 s1
    obtain ⟨x2, y2, z2⟩ := back j o2 f2 s2
    exact h.uniq i j a x1 x2 e1 e2 y1 y2 z1 z2
end

/-! ### what comes of a run -/
structure DX where
  cls : Value
  fs : List (Str × D)
inductive Out (β : Type) where
  | val (b : β) (h : DH) | exc (x : DX) (h : DH) | bad
def Out.bind {β γ : Type} (o : Out β) (f : β → DH → Out γ) : Out γ := match o with
  | .val b h => f b h
  | .exc x h => .exc x h
  | .bad => .bad
@[simp] theorem Out.bind_val {β γ : Type} {b : β} {h : DH} {f : β → DH → Out γ} : (Out.val b h).bind f = f b h := rfl
@[simp] theorem Out.bind_exc {β γ : Type} {x : DX} {h : DH} {f : β → DH → Out γ} : (Out.exc x h).bind f = .exc x h := rfl
@[simp] theorem Out.bind_bad {β γ : Type} {f : β → DH → Out γ} : (Out.bad).bind f = .bad := rfl

section
variable (K : PySem.W.Frag)
def RX (H : Hp) (al : List Addr) (x : DX) (dd : Option Addr) : Prop :=
  (x.fs = [] ∧ dd = none) ∨ (x.fs ≠ [] ∧ ∃ a fv, dd = some a ∧ H a = some (.xd fv) ∧ Paired (KR K H al) x.fs fv)
def PostG {β γ : Type} (R : Hp → List Addr → β → γ → Prop) (WX' : Value → Option Addr → Hp → Prop) (H : Hp) (al : List Addr) (o : Out β) (Q : γ → Hp → Prop) : Prop := match o with
  | .val b h' => ∀ H' al' c, Evo K H al H' al' → RH K H' al' h' → R H' al' b c → Q c H'
  | .exc x h' => ∀ H' al' dd, Evo K H al H' al' → RH K H' al' h' → RX K H' al' x dd → WX' x.cls dd H'
  | .bad => False
abbrev EM (β : Type) := DEnv → DH → Out β
/-- a reading by the layer of data; W: the wish of exceptions -/
def tG {β γ : Type} (R : Hp → List Addr → β → γ → Prop) (W : WX) (m : EM β) : St → Hp → (γ → Hp → Prop) → Prop := fun σ H Q =>
  ∃ ρ h al, RS K H al ρ σ ∧ RH K H al h ∧ PostG K R (fun c d H' => W c d σ H') H al (m ρ h) Q
abbrev tD (W : WX) (m : EM D) : TE := tG K (RV K) W m
abbrev RB : Hp → List Addr → Bool → Bool → Prop := fun _ _ b c => b = c
abbrev tBl (W : WX) (m : EM Bool) : TT := tG K RB W m
abbrev tAr (W : WX) (m : EM (List D)) : TA := tG K (RVs K) W m
end
section
variable {K : PySem.W.Frag} {β γ δ ε : Type} {R : Hp → List Addr → β → γ → Prop} {R2 : Hp → List Addr → δ → ε → Prop} {Wx : Value → Option Addr → Hp → Prop} {H H1 : Hp} {al al1 : List Addr}
theorem PostG.evo {o : Out β} {Q : γ → Hp → Prop} (e : Evo K H al H1 al1) (p : PostG K R Wx H al o Q) : PostG K R Wx H1 al1 o Q := by
  cases o with
  | val b h => exact fun H' al' c e' rh r => p H' al' c (e.trans e') rh r
  | exc x h => exact fun H' al' c e' rh r => p H' al' c (e.trans e') rh r
  | bad => exact p
theorem PostG.imp {o : Out β} {Q Q' : γ → Hp → Prop} (p : PostG K R Wx H al o Q) (i : ∀ c H', Q c H' → Q' c H') : PostG K R Wx H al o Q' := by
  cases o with
  | val b h => exact fun H' al' c e' rh r => i _ _ (p H' al' c e' rh r)
  | exc x h => exact p
  | bad => exact p
theorem PostG.bind {o : Out β} {f : β → DH → Out δ} {Q : ε → Hp → Prop} (p : PostG K R2 Wx H al (o.bind f) Q) :
    PostG K R Wx H al o (fun c H1 => ∃ b h1 al1, Evo K H al H1 al1 ∧ RH K H1 al1 h1 ∧ R H1 al1 b c ∧ PostG K R2 Wx H1 al1 (f b h1) Q) := by
  cases o with
  | val b h => exact fun H' al' c e rh r => ⟨b, h, al', e, rh, r, PostG.evo (o := f b h) e p⟩
  | exc x h => exact p
  | bad => exact p
/-- a value is told where it stands -/
theorem PostG.val {b : β} {h : DH} {c : γ} {Q : γ → Hp → Prop} (p : PostG K R Wx H al (.val b h) Q) (rh : RH K H al h) (r : R H al b c) : Q c H := p H al c Evo.refl rh r
end
abbrev DE (X : Cx) (W : WX) (e : Expr) (m : EM D) : Prop := PE X e (tD X.K W m)
abbrev DT (X : Cx) (W : WX) (e : Expr) (m : EM Bool) : Prop := PT X e (tBl X.K W m)
abbrev DW (X : Cx) (W : WX) (e : Expr) (m : EM Bool) : Prop := PW X e (tBl X.K W m)
abbrev DA (X : Cx) (W : WX) (es : List Expr) (m : EM (List D)) : Prop := PA X es (tAr X.K W m)
theorem _root_.L2.PE.imp {X : Cx} {e : Expr} {t t' : TE} (h : PE X e t) (i : ∀ σ H Q, t' σ H Q → t σ H Q) : PE X e t' := ⟨fun pins s σ H Q I q => h.run pins s σ H Q I (i σ H Q q)⟩
theorem _root_.L2.PT.imp {X : Cx} {e : Expr} {t t' : TT} (h : PT X e t) (i : ∀ σ H Q, t' σ H Q → t σ H Q) : PT X e t' := ⟨fun pins s σ H Q I q => h.run pins s σ H Q I (i σ H Q q)⟩
theorem _root_.L2.PW.imp {X : Cx} {e : Expr} {t t' : TT} (h : PW X e t) (i : ∀ σ H Q, t' σ H Q → t σ H Q) : PW X e t' := ⟨fun wh pins s σ H Q I q => h.run wh pins s σ H Q I (i σ H Q q)⟩
theorem _root_.L2.PA.imp {X : Cx} {e : List Expr} {t t' : TA} (h : PA X e t) (i : ∀ σ H Q, t' σ H Q → t σ H Q) : PA X e t' := ⟨fun po pins s σ H Q I q => h.run po pins s σ H Q I (i σ H Q q)⟩
theorem _root_.L2.PS.imp {X : Cx} {e : Stmt} {t t' : TS} (h : PS X e t) (i : ∀ D σ H, t' D σ H → t D σ H) : PS X e t' := ⟨fun pins s σ H D I q => h.run pins s σ H D I (i D σ H q)⟩
theorem _root_.L2.PSs.imp {X : Cx} {e : List Stmt} {t t' : TS} (h : PSs X e t) (i : ∀ D σ H, t' D σ H → t D σ H) : PSs X e t' := ⟨fun pins s σ H D I q => h.run pins s σ H D I (i D σ H q)⟩
end DL

namespace DL
open PySem PySem.Spec PyProof.Rows L2

/-! ### names, constants -/
def mVar (i : Nat) : EM D := fun ρ h => match ρ.getD i none with
  | some d => .val d h
  | none => .bad
def mC {β : Type} (d : β) : EM β := fun _ h => .val d h
section
variable {X : Cx} {W : WX} {a b c e : Expr} {es : List Expr} {pos p : Pos}
theorem de_var (i : Nat) {x : Str} (hN : X.N[i]? = some x := by rfl) (hv : Vis X.env.scope x := by first | exact Or.inl rfl | exact Or.inr (Or.inl rfl) | exact Or.inr (Or.inr rfl)) (hd : (x == ("__debug__" : Str)) = false := by decide)
    (hcd : (x == ("__classdict__" : Str)) = false := by decide) : DE X W (.Name x pos) (mVar i) := by
  refine (pe_var hN hv hd hcd).imp fun σ H Q ⟨ρ, h, al, rs, rh, q⟩ => ?_
  unfold mVar at q
  cases e : ρ.getD i none with
  | none => rw [e] at q; exact q.elim
  | some d =>
    rw [e] at q
    have e' : ρ[i]? = some (some d) := by
      rw [List.getD_eq_getElem?_getD] at e
      cases e2 : ρ[i]? with
      | none => rw [e2] at e; cases e
      | some o => rw [e2] at e; simp at e; rw [e]
    obtain ⟨v, e2, r⟩ := rs.get e'
    exact ⟨v, e2, PostG.val q rh r⟩
theorem de_const {d : D} {v : V} (h : PE X e (tC v)) (r : ∀ H al, RV X.K H al d v) : DE X W e (mC d) :=
  h.imp fun σ H Q ⟨ρ, hh, al, rs, rh, q⟩ => PostG.val q rh (r H al)
theorem de_int {i j} : DE X W (.Constant (.int i) j pos) (mC (.int i)) := de_const pe_int fun _ _ => .int
theorem de_bl {i j} : DE X W (.Constant (.bool i) j pos) (mC (.bl i)) := de_const pe_bl fun _ _ => .bl
theorem de_non {j} : DE X W (.Constant .none j pos) (mC .non) := de_const pe_non fun _ _ => .non
theorem de_str {i j} : DE X W (.Constant (.str i) j pos) (mC (.str i)) := de_const pe_str fun _ _ => .str
/-- a module's name as a value; d: the data that it holds -/
theorem de_glob {x : Str} {v : V} {u : Value} {d : D} (hg : Gl X x) (hm : X.mg x = some u) (r : RelV v u) (rd : ∀ H al, RV X.K H al d v) (hd : (x == ("__debug__" : Str)) = false := by decide) : DE X W (.Name x pos) (mC d) :=
  de_const (pe_glob hg hm r hd) rd
theorem de_bltn {x : Str} {v : V} {u : Value} {d : D} (hg : Gl X x) (hm : X.mg x = none) (hv : bootBuiltins x = some u) (r : RelV v u) (rd : ∀ H al, RV X.K H al d v) (hn : x ≠ "__name__" := by decide) (hd : (x == ("__debug__" : Str)) = false := by decide) : DE X W (.Name x pos) (mC d) :=
  de_const (pe_bltn hg hm hv r hn hd) rd

/-! ### operators by values -/
def mOp {β : Type} (g : D → D → DH → Out β) (ma mb : EM D) : EM β := fun ρ h => (ma ρ h).bind fun x h1 => (mb ρ h1).bind fun y h2 => g x y h2
def mUn {β : Type} (g : D → DH → Out β) (ma : EM D) : EM β := fun ρ h => (ma ρ h).bind g
def OpC (K : PySem.W.Frag) (r : R2) (g : D → D → DH → Out D) : Prop :=
  ∀ (Wx : Value → Option Addr → Hp → Prop) (H : Hp) (al : List Addr) (h : DH) (x y : V) (d e : D) (Q : VK), RH K H al h → RV K H al d x → RV K H al e y → PostG K (RV K) Wx H al (g d e h) Q → r x y H Q
def UnC (K : PySem.W.Frag) (r : V → Hp → VK → Prop) (g : D → DH → Out D) : Prop :=
  ∀ (Wx : Value → Option Addr → Hp → Prop) (H : Hp) (al : List Addr) (h : DH) (x : V) (d : D) (Q : VK), RH K H al h → RV K H al d x → PostG K (RV K) Wx H al (g d h) Q → r x H Q
theorem op_imp {r : R2} {g : D → D → DH → Out D} {ma mb : EM D} (hc : OpC X.K r g) (σ : St) (H : Hp) (Q : VK) (q : tD X.K W (mOp g ma mb) σ H Q) : tOp r (tD X.K W ma) (tD X.K W mb) σ H Q := by
  obtain ⟨ρ, h, al, rs, rh, q⟩ := q
  refine ⟨ρ, h, al, rs, rh, (PostG.bind q).imp ?_⟩
  rintro x H1 ⟨d, h1, al1, e1, rh1, r1, q1⟩
  refine ⟨ρ, h1, al1, rs.evo e1, rh1, (PostG.bind q1).imp ?_⟩
  rintro y H2 ⟨e, h2, al2, e2, rh2, r2, q2⟩
  exact hc _ H2 al2 h2 x y d e Q rh2 (r1.evo e2) r2 q2
theorem de_op {op : Operator} {r : R2} {g : D → D → DH → Out D} {ma mb : EM D} (ho : OpR X (binaryOp op) r) (hc : OpC X.K r g) (ha : DE X W a ma) (hb : DE X W b mb) : DE X W (.BinOp a op b pos) (mOp g ma mb) :=
  (pe_op ho ha hb).imp fun σ H Q q => op_imp hc σ H Q q
theorem de_ix {r : R2} {g : D → D → DH → Out D} {ma mb : EM D} (ho : IxR X r) (hc : OpC X.K r g) (ha : DE X W a ma) (hb : DE X W b mb) (hs : PlainIx b) : DE X W (.Subscript a b pos) (mOp g ma mb) :=
  (pe_ix ho ha hb hs).imp fun σ H Q q => op_imp hc σ H Q q
theorem de_cmp {op : CmpOp} {r : R2} {g : D → D → DH → Out D} {ma mb : EM D} (ho : OpR X (compareOp op) r) (hc : OpC X.K r g) (ha : DE X W a ma) (hb : DE X W b mb) (hm : behindInMarks op b = false) : DE X W (.Compare a [op] [b] pos) (mOp g ma mb) :=
  (pe_cmpR ho ha hb hm).imp fun σ H Q q => op_imp hc σ H Q q
theorem de_un {op : UnaryOp} {r : V → Hp → VK → Prop} {g : D → DH → Out D} {ma : EM D} (ho : UnR X (unaryOp op) r) (hc : UnC X.K r g) (ha : DE X W a ma) : DE X W (.UnaryOp op a pos) (mUn g ma) := by
  refine (pe_un ho ha).imp fun σ H Q ⟨ρ, h, al, rs, rh, q⟩ => ?_
  refine ⟨ρ, h, al, rs, rh, (PostG.bind q).imp ?_⟩
  rintro x H1 ⟨d, h1, al1, e1, rh1, r1, q1⟩
  exact hc _ H1 al1 h1 x d Q rh1 r1 q1
/-- what a value is as a truth -/
def asB {β : Type} (k : Bool → DH → Out β) : D → DH → Out β := fun d h => match d with
  | .bl b => k b h
  | _ => .bad
def mB (m : EM D) : EM Bool := fun ρ h => (m ρ h).bind (asB fun b h => .val b h)
theorem test_imp {t : TE} {m : EM D} (hi : ∀ σ H Q, tD X.K W m σ H Q → t σ H Q) (σ : St) (H : Hp) (Q : Bool → Hp → Prop) (q : tBl X.K W (mB m) σ H Q) : tTest t σ H Q := by
  obtain ⟨ρ, h, al, rs, rh, q⟩ := q
  refine hi _ _ _ ⟨ρ, h, al, rs, rh, (PostG.bind q).imp ?_⟩
  rintro x H1 ⟨d, h1, al1, e1, rh1, r1, q1⟩
  cases r1 with
  | bl => exact ⟨_, rfl, PostG.val (R := RB) q1 rh1 rfl⟩
  | _ => exact q1.elim
theorem dt_cmp {op : CmpOp} {r : R2} {g : D → D → DH → Out D} {ma mb : EM D} (ho : OpR X (compareOp op) r) (hc : OpC X.K r g) (ha : DE X W a ma) (hb : DE X W b mb) (hm : behindInMarks op b = false) : DT X W (.Compare a [op] [b] pos) (mB (mOp g ma mb)) :=
  (pt_cmpR ho ha hb hm).imp fun σ H Q q => test_imp (fun σ H Q q => op_imp hc σ H Q q) σ H Q q
theorem dt_val {m : EM D} (h : DE X W e m) (he : ∀ whole, isTrue e X.env whole = (do let v ← whole; standAt e.pos; holding [v] (truthy v)) := by intro _; rfl) : DT X W e (mB m) :=
  (pt_val h he).imp fun σ H Q q => test_imp (t := tD X.K W m) (fun _ _ _ q => q) σ H Q q
/-- a < b < c -/
def mChain (g g' : D → D → DH → Out D) (ma mb mc : EM D) : EM D := fun ρ h => (ma ρ h).bind fun x h1 => (mb ρ h1).bind fun y h2 => (g x y h2).bind (asB fun k h3 => if k = true then (mc ρ h3).bind fun z h4 => g' y z h4 else .bad)

/-! ### and, or, not, if -/
def mAnd (ma mb : EM Bool) : EM Bool := fun ρ h => (ma ρ h).bind fun k h1 => if k = true then mb ρ h1 else .val false h1
def mOr (ma mb : EM Bool) : EM Bool := fun ρ h => (ma ρ h).bind fun k h1 => if k = true then .val true h1 else mb ρ h1
def mNot (ma : EM Bool) : EM Bool := fun ρ h => (ma ρ h).bind fun k h1 => .val (!k) h1
def mIf {β : Type} (mt : EM Bool) (ma mb : EM β) : EM β := fun ρ h => (mt ρ h).bind fun k h1 => if k = true then ma ρ h1 else mb ρ h1
theorem dt_bind {β γ : Type} {R : Hp → List Addr → β → γ → Prop} {mt : EM Bool} {f : DEnv → Bool → DH → Out β} {t : (St → Hp → (γ → Hp → Prop) → Prop)} {σ : St} {H : Hp} {Q : γ → Hp → Prop} (q : tG X.K R W (fun ρ h => (mt ρ h).bind (f ρ)) σ H Q)
    (k : ∀ b H1, tG X.K R W (fun ρ h => f ρ b h) σ H1 Q → Q' b H1) : tBl X.K W mt σ H Q' := by
  obtain ⟨ρ, h, al, rs, rh, q⟩ := q
  refine ⟨ρ, h, al, rs, rh, (PostG.bind q).imp ?_⟩
  rintro c H1 ⟨d, h1, al1, e1, rh1, r1, q1⟩
  have r1 : d = c := r1
  subst r1
  exact k d H1 ⟨ρ, h1, al1, rs.evo e1, rh1, q1⟩
theorem tG.val {β γ : Type} {K : PySem.W.Frag} {R : Hp → List Addr → β → γ → Prop} {b : β} {c : γ} {σ : St} {H : Hp} {Q : γ → Hp → Prop} (q : tG K R W (fun _ h => .val b h) σ H Q) (r : ∀ H al, R H al b c) : Q c H := by
  obtain ⟨ρ, h, al, rs, rh, q⟩ := q
  exact PostG.val q rh (r _ _)
variable {ta tb : EM Bool} {ma mb : EM D} {rest : List Expr}
theorem dw_and1 (ha : DT X W a ta) : DW X W (.BoolOp .And [a] pos) ta := pw_and1 ha
theorem dw_or1 (ha : DT X W a ta) : DW X W (.BoolOp .Or [a] pos) ta := pw_or1 ha
theorem dw_and (ha : DT X W a ta) (hb : DW X W (.BoolOp .And (b :: rest) pos) tb) : DW X W (.BoolOp .And (a :: b :: rest) pos) (mAnd ta tb) := by
  refine (pw_and ha hb).imp fun σ H Q q => ?_
  refine dt_bind (t := fun _ _ _ => True) q fun k H1 q1 => ?_
  cases k with
  | true => exact iteT q1
  | false => exact iteF (tG.val q1 fun _ _ => rfl)
theorem dw_or (ha : DT X W a ta) (hb : DW X W (.BoolOp .Or (b :: rest) pos) tb) : DW X W (.BoolOp .Or (a :: b :: rest) pos) (mOr ta tb) := by
  refine (pw_or ha hb).imp fun σ H Q q => ?_
  refine dt_bind (t := fun _ _ _ => True) q fun k H1 q1 => ?_
  cases k with
  | true => exact iteT (tG.val q1 fun _ _ => rfl)
  | false => exact iteF q1
theorem dt_w (h : DW X W e ta) : DT X W e ta := h.pt
theorem dt_not (ha : DT X W a ta) : DT X W (.UnaryOp .Not a pos) (mNot ta) := by
  refine (pt_not ha).imp fun σ H Q q => ?_
  exact dt_bind (t := fun _ _ _ => True) q fun k H1 q1 => tG.val q1 fun _ _ => rfl
theorem de_if (hc : DT X W c ta) (ha : DE X W a ma) (hb : DE X W b mb) : DE X W (.IfExp c a b pos) (mIf ta ma mb) := by
  refine (pe_ifExp hc ha hb).imp fun σ H Q q => ?_
  refine dt_bind (t := fun _ _ _ => True) q fun k H1 q1 => ?_
  cases k with
  | true => exact iteT q1
  | false => exact iteF q1
/-- and, or as values: all but the last are truths -/
def mAndV (ma mb : EM D) : EM D := fun ρ h => (ma ρ h).bind (asB fun k h1 => if k = true then mb ρ h1 else .val (.bl false) h1)
def mOrV (ma mb : EM D) : EM D := fun ρ h => (ma ρ h).bind (asB fun k h1 => if k = true then .val (.bl true) h1 else mb ρ h1)
def mNotV (ma : EM D) : EM D := fun ρ h => (ma ρ h).bind (asB fun k h1 => .val (.bl (!k)) h1)
theorem de_bindB {f : DEnv → Bool → DH → Out D} {σ : St} {H : Hp} {Q : VK} {Q' : Bool → Hp → Prop} (q : tD X.K W (fun ρ h => (ma ρ h).bind (asB (f ρ))) σ H Q)
    (k : ∀ b H1, tD X.K W (fun ρ h => f ρ b h) σ H1 Q → Q' b H1) : tD X.K W ma σ H (fun x H1 => ∃ c, x = .bl c ∧ Q' c H1) := by
  obtain ⟨ρ, h, al, rs, rh, q⟩ := q
  refine ⟨ρ, h, al, rs, rh, (PostG.bind q).imp ?_⟩
  rintro c H1 ⟨d, h1, al1, e1, rh1, r1, q1⟩
  cases r1 with
  | bl => exact ⟨_, rfl, k _ H1 ⟨ρ, h1, al1, rs.evo e1, rh1, q1⟩⟩
  | _ => exact q1.elim
theorem de_one {op} {m : EM D} (h : DE X W a m) : DE X W (.BoolOp op [a] pos) m := pe_one h
theorem de_and (ha : DE X W a ma) (hb : DE X W (.BoolOp .And (b :: rest) pos) mb) : DE X W (.BoolOp .And (a :: b :: rest) pos) (mAndV ma mb) := by
  refine (pe_and ha hb).imp fun σ H Q q => ?_
  refine de_bindB q fun k H1 q1 => ?_
  cases k with
  | true => exact iteT q1
  | false => exact iteF (tG.val q1 fun _ _ => .bl)
theorem de_or (ha : DE X W a ma) (hb : DE X W (.BoolOp .Or (b :: rest) pos) mb) : DE X W (.BoolOp .Or (a :: b :: rest) pos) (mOrV ma mb) := by
  refine (pe_or ha hb).imp fun σ H Q q => ?_
  refine de_bindB q fun k H1 q1 => ?_
  cases k with
  | true => exact iteT (tG.val q1 fun _ _ => .bl)
  | false => exact iteF q1
theorem de_not (ha : DE X W a ma) : DE X W (.UnaryOp .Not a pos) (mNotV ma) := by
  refine (pe_not ha).imp fun σ H Q q => ?_
  exact de_bindB q fun k H1 q1 => tG.val q1 fun _ _ => .bl

/-! ### argument lists, displays, calls -/
def mNil : EM (List D) := fun _ h => .val [] h
def mCons (ma : EM D) (mr : EM (List D)) : EM (List D) := fun ρ h => (ma ρ h).bind fun x h1 => (mr ρ h1).bind fun xs h2 => .val (x :: xs) h2
variable {mr : EM (List D)}
theorem da_nil : DA X W [] mNil := pa_nil.imp fun σ H Q ⟨ρ, h, al, rs, rh, q⟩ => PostG.val (R := RVs X.K) q rh .nil
theorem da_cons (ha : DE X W e ma) (hr : DA X W es mr) (hs : starEach (e :: es) X.env = (false, eval e X.env) :: starEach es X.env := by rfl) : DA X W (e :: es) (mCons ma mr) := by
  refine (pa_cons ha hr hs).imp fun σ H Q ⟨ρ, h, al, rs, rh, q⟩ => ?_
  refine ⟨ρ, h, al, rs, rh, (PostG.bind q).imp ?_⟩
  rintro x H1 ⟨d, h1, al1, e1, rh1, r1, q1⟩
  refine ⟨ρ, h1, al1, rs.evo e1, rh1, (PostG.bind q1).imp ?_⟩
  rintro xs H2 ⟨ds, h2, al2, e2, rh2, r2, q2⟩
  exact PostG.val (R := RVs X.K) q2 rh2 (.cons (r1.evo e2) r2)
def mTup (mr : EM (List D)) : EM D := fun ρ h => (mr ρ h).bind fun xs h1 => if xs.length ≤ sizeLine then .val (.tup xs) h1 else .bad
def mLst (mr : EM (List D)) : EM D := fun ρ h => (mr ρ h).bind fun xs h1 => if xs.length ≤ sizeLine then .val (.ref h1.length) (h1 ++ [.lst xs]) else .bad
theorem PostG.newTup {K : PySem.W.Frag} {Wx : Value → Option Addr → Hp → Prop} {H : Hp} {al : List Addr} {h : DH} {ds : List D} {vs : List V} {Q : VK} (q : PostG K (RV K) Wx H al (.val (.tup ds) h) Q) (rh : RH K H al h) (r : RVs K H al ds vs) {p : Addr} (hp : H p = none) : Q (.ref p) (upd H p (.tup vs)) := by
  have ev : Evo K H al (upd H p (.tup vs)) al := Evo.aside hp
  refine q _ al _ ev ⟨rh.len, fun n o a e1 e2 => (rh.obj n o a e1 e2).evo ev fun u z => by rw [upd_ne (ne_of_none z hp)]; exact z, rh.uniq⟩ (.tup (.inl (.inl upd_same)) (r.evo ev))
theorem PostG.newLst {K : PySem.W.Frag} {Wx : Value → Option Addr → Hp → Prop} {H : Hp} {al : List Addr} {h : DH} {ds : List D} {vs : List V} {Q : VK} (q : PostG K (RV K) Wx H al (.val (.ref h.length) (h ++ [.lst ds])) Q) (rh : RH K H al h) (r : RVs K H al ds vs) {p : Addr} (hp : H p = none) : Q (.ref p) (upd H p (.lst vs)) := by
  have ev : Evo K H al (upd H p (.lst vs)) (al ++ [p]) := Evo.new hp
  refine q _ (al ++ [p]) _ ev (rh.new hp ⟨vs, upd_same, r.evo ev⟩) (.ref ?_)
  rw [rh.len, List.getElem?_append_right (Nat.le_refl _)]
  simp
theorem de_tup {x1} (ha : DA X W es mr) : DE X W (.Tuple es x1 pos) (mTup mr) := by
  refine (pe_tup ha).imp fun σ H Q ⟨ρ, h, al, rs, rh, q⟩ => ?_
  refine ⟨ρ, h, al, rs, rh, (PostG.bind q).imp ?_⟩
  rintro xs H1 ⟨ds, h1, al1, e1, rh1, r1, q1⟩
  by_cases hz : ds.length ≤ sizeLine
  · rw [if_pos hz] at q1
    exact ⟨by rw [← r1.length]; exact hz, fun p hp => PostG.newTup q1 rh1 r1 hp⟩
  · rw [if_neg hz] at q1; exact q1.elim
theorem de_lst (ha : DA X W es mr) : DE X W (.List es pos) (mLst mr) := by
  refine (pe_lst ha).imp fun σ H Q ⟨ρ, h, al, rs, rh, q⟩ => ?_
  refine ⟨ρ, h, al, rs, rh, (PostG.bind q).imp ?_⟩
  rintro xs H1 ⟨ds, h1, al1, e1, rh1, r1, q1⟩
  by_cases hz : ds.length ≤ sizeLine
  · rw [if_pos hz] at q1
    exact ⟨by rw [← r1.length]; exact hz, fun p hp => PostG.newLst q1 rh1 r1 hp⟩
  · rw [if_neg hz] at q1; exact q1.elim
def mCall {β : Type} (F : List D → DH → Out β) (mr : EM (List D)) : EM β := fun ρ h => (mr ρ h).bind F
def CallC (K : PySem.W.Frag) (r : List V → Hp → VK → Prop) (g : List D → DH → Out D) : Prop :=
  ∀ (Wx : Value → Option Addr → Hp → Prop) (H : Hp) (al : List Addr) (h : DH) (xs : List V) (ds : List D) (Q : VK), RH K H al h → RVs K H al ds xs → PostG K (RV K) Wx H al (g ds h) Q → r xs H Q
theorem call_imp {r : List V → Hp → VK → Prop} {g : List D → DH → Out D} (hc : CallC X.K r g) (σ : St) (H : Hp) (Q : VK) (q : tD X.K W (mCall g mr) σ H Q) : tCB r (tAr X.K W mr) σ H Q := by
  obtain ⟨ρ, h, al, rs, rh, q⟩ := q
  refine ⟨ρ, h, al, rs, rh, (PostG.bind q).imp ?_⟩
  rintro xs H1 ⟨ds, h1, al1, e1, rh1, r1, q1⟩
  exact hc _ H1 al1 h1 xs ds Q rh1 r1 q1
theorem de_callB {id : String} {x : Str} {r : List V → Hp → VK → Prop} {g : List D → DH → Out D} (hr : CallR X (.builtin id) r) (hc : CallC X.K r g) (hg : Gl X x) (hm : X.mg x = none) (hv : bootBuiltins x = some (.builtin id)) (ha : DA X W (e :: es) mr) (hn : x ≠ "__name__" := by decide) (hdb : (x == ("__debug__" : Str)) = false := by decide)
    (he : starEach (e :: es) X.env = (false, eval e X.env) :: starEach es X.env := by rfl) (hpl : (backTo pos (starEach es X.env)).any (·.1) = false := by rfl) : DE X W (.Call (.Name x p) (e :: es) [] pos) (mCall g mr) :=
  (pe_callB hr hg hm hv ha hn hdb he hpl).imp fun σ H Q q => call_imp hc σ H Q q
theorem de_callTy {T : String} {x : Str} {r : List V → Hp → VK → Prop} {g : List D → DH → Out D} (hr : CallR X (.type T) r) (hc : CallC X.K r g) (hg : Gl X x) (hm : X.mg x = none) (hv : bootBuiltins x = some (.type T)) (ha : DA X W (e :: es) mr) (hn : x ≠ "__name__" := by decide) (hdb : (x == ("__debug__" : Str)) = false := by decide)
    (he : starEach (e :: es) X.env = (false, eval e X.env) :: starEach es X.env := by rfl) (hpl : (backTo pos (starEach es X.env)).any (·.1) = false := by rfl) : DE X W (.Call (.Name x p) (e :: es) [] pos) (mCall g mr) :=
  (pe_callTy hr hg hm hv ha hn hdb he hpl).imp fun σ H Q q => call_imp hc σ H Q q

def LenM (mr : EM (List D)) (n : Nat) : Prop := ∀ ρ h ds h', mr ρ h = .val ds h' → ds.length = n
theorem ln_nil : LenM mNil 0 := fun ρ h ds h' e => by cases e; rfl
theorem ln_cons {ma : EM D} {n : Nat} (hr : LenM mr n) : LenM (mCons ma mr) (n + 1) := fun ρ h ds h' e => by
  unfold mCons at e
  cases e1 : ma ρ h with
  | bad => rw [e1] at e; cases e
  | exc x h1 => rw [e1] at e; cases e
  | val d h1 =>
    rw [e1] at e
    simp only [Out.bind_val] at e
    cases e2 : mr ρ h1 with
    | bad => rw [e2] at e; cases e
    | exc x h1 => rw [e2] at e; cases e
    | val ds2 h2 =>
      rw [e2] at e
      simp only [Out.bind_val] at e
      cases e
      rw [List.length_cons, hr _ _ _ _ e2]

/-! ### defs of the text -/
def spD (K : PySem.W.Frag) (n : Nat) (F : List D → DH → Out D) : Sp := fun vs H Q E => ∃ ds h al, vs.length = n ∧ RVs K H al ds vs ∧ RH K H al h ∧ PostG K (RV K) E H al (F ds h) Q
structure FnD (P : Program) (w : World) (K : PySem.W.Frag) (mg : Str → Option Value) (base : Heap) (k : Nat) (x : Str) (ps : List Str) (F : List D → DH → Out D) : Prop where
  ex : ∃ f fd, FnOk P w K mg base (L2.CX P w) k f fd ps (spD K ps.length F) ∧ Binds K fd ps [] ∧ PySem.W.keepIn K (.ref f) = true ∧ mg x = some (.ref f)
theorem FnD.mono {P : Program} {w : World} {K : PySem.W.Frag} {mg : Str → Option Value} {base : Heap} {k j : Nat} {x : Str} {ps : List Str} {F : List D → DH → Out D} (h : FnD P w K mg base k x ps F) (hk : k ≤ j) : FnD P w K mg base j x ps F := by
  obtain ⟨f, fd, h1, h2, h3, h4⟩ := h.ex
  exact ⟨f, fd, h1.mono hk, h2, h3, h4⟩
theorem de_call {k : Nat} {x : Str} {ps : List Str} {F : List D → DH → Out D} (f : FnD X.prog X.w X.K X.mg X.base k x ps F) (hr : Room k X.A) (tk : Takes X W) (hg : Gl X x) (ha : DA X W (e :: es) mr) (hlen : LenM mr ps.length) (hdb : (x == ("__debug__" : Str)) = false := by decide)
    (he : starEach (e :: es) X.env = (false, eval e X.env) :: starEach es X.env := by rfl) (hpl : (backTo pos (starEach es X.env)).any (·.1) = false := by rfl) :
    DE X W (.Call (.Name x p) (e :: es) [] pos) (mCall F mr) := by
  obtain ⟨fa, fd, h1, h2, h3, h4⟩ := f.ex
  refine (pe_callS h1 hr hg h4 h3 h2 (fun σ => passAt tk σ) ha hdb he hpl).imp fun σ H Q ⟨ρ, h, al, rs, rh, q⟩ => ?_
  refine ⟨ρ, h, al, rs, rh, ?_⟩
  cases e0 : mr ρ h with
  | bad => unfold mCall at q; rw [e0] at q; exact q
  | exc x h' => unfold mCall at q; rw [e0] at q; exact q
  | val ds0 h0 =>
    have q' : PostG X.K (RV X.K) (fun c d H' => W c d σ H') H al (F ds0 h0) Q := by
      unfold mCall at q; rw [e0] at q; exact q
    intro H1 al1 xs e1 rh1 r1
    refine ⟨ds0, h0, al1, ?_, r1, rh1, PostG.evo e1 q'⟩
    rw [← r1.length]
    exact hlen ρ h ds0 h0 e0
end
end DL

namespace DL
open PySem PySem.Spec PyProof.Rows L2

/-! ### what comes of a statement -/
inductive SOut where
  | nx (ρ : DEnv) (h : DH) | brk (ρ : DEnv) (h : DH) | cnt (ρ : DEnv) (h : DH) | ret (d : D) (h : DH) | exc (x : DX) (ρ : DEnv) (h : DH) | bad
abbrev SM := DEnv → DH → SOut
def Out.toS {β : Type} (o : Out β) (ρ : DEnv) (f : β → DH → SOut) : SOut := match o with
  | .val b h => f b h
  | .exc x h => .exc x ρ h
  | .bad => .bad
@[simp] theorem Out.toS_val {β : Type} {b : β} {h : DH} {ρ : DEnv} {f : β → DH → SOut} : (Out.val b h).toS ρ f = f b h := rfl
@[simp] theorem Out.toS_exc {β : Type} {x : DX} {h : DH} {ρ : DEnv} {f : β → DH → SOut} : (Out.exc x h).toS ρ f = .exc x ρ h := rfl
@[simp] theorem Out.toS_bad {β : Type} {ρ : DEnv} {f : β → DH → SOut} : (Out.bad).toS ρ f = .bad := rfl
def SOut.thn (o : SOut) (f : SM) : SOut := match o with
  | .nx ρ h => f ρ h
  | o => o
@[simp] theorem SOut.thn_nx {ρ : DEnv} {h : DH} {f : SM} : (SOut.nx ρ h).thn f = f ρ h := rfl
@[simp] theorem SOut.thn_brk {ρ : DEnv} {h : DH} {f : SM} : (SOut.brk ρ h).thn f = .brk ρ h := rfl
@[simp] theorem SOut.thn_cnt {ρ : DEnv} {h : DH} {f : SM} : (SOut.cnt ρ h).thn f = .cnt ρ h := rfl
@[simp] theorem SOut.thn_ret {d : D} {h : DH} {f : SM} : (SOut.ret d h).thn f = .ret d h := rfl
@[simp] theorem SOut.thn_exc {x : DX} {ρ : DEnv} {h : DH} {f : SM} : (SOut.exc x ρ h).thn f = .exc x ρ h := rfl
@[simp] theorem SOut.thn_bad {f : SM} : SOut.bad.thn f = .bad := rfl
section
variable (K : PySem.W.Frag)
def PostS (W : WX) (H : Hp) (al : List Addr) (o : SOut) (D : Ends) : Prop := match o with
  | .nx ρ h => ∀ H' al' σ', Evo K H al H' al' → RH K H' al' h → RS K H' al' ρ σ' → D.nx σ' H'
  | .brk ρ h => ∀ H' al' σ', Evo K H al H' al' → RH K H' al' h → RS K H' al' ρ σ' → D.bk σ' H'
  | .cnt ρ h => ∀ H' al' σ', Evo K H al H' al' → RH K H' al' h → RS K H' al' ρ σ' → D.ct σ' H'
  | .ret d h => ∀ H' al' v, Evo K H al H' al' → RH K H' al' h → RV K H' al' d v → D.rt v H'
  | .exc x ρ h => ∀ H' al' σ' dd, Evo K H al H' al' → RH K H' al' h → RS K H' al' ρ σ' → RX K H' al' x dd → W x.cls dd σ' H'
  | .bad => False
def tS (W : WX) (m : SM) : TS := fun D σ H => ∃ ρ h al, RS K H al ρ σ ∧ RH K H al h ∧ PostS K W H al (m ρ h) D
end
abbrev DS (X : Cx) (W : WX) (st : Stmt) (m : SM) : Prop := PS X st (tS X.K W m)
abbrev DSs (X : Cx) (W : WX) (st : List Stmt) (m : SM) : Prop := PSs X st (tS X.K W m)
section
variable {K : PySem.W.Frag} {W : WX} {H H1 : Hp} {al al1 : List Addr}
theorem PostS.evo {o : SOut} {D : Ends} (e : Evo K H al H1 al1) (p : PostS K W H al o D) : PostS K W H1 al1 o D := by
  cases o with
  | bad => exact p
  | nx ρ h => exact fun H' al' c e' => p H' al' c (e.trans e')
  | brk ρ h => exact fun H' al' c e' => p H' al' c (e.trans e')
  | cnt ρ h => exact fun H' al' c e' => p H' al' c (e.trans e')
  | ret d h => exact fun H' al' c e' => p H' al' c (e.trans e')
  | exc x ρ h => exact fun H' al' c dd e' => p H' al' c dd (e.trans e')
theorem PostS.thn {o : SOut} {f : SM} {D : Ends} (p : PostS K W H al (o.thn f) D) : PostS K W H al o { D with nx := tS K W f D } := by
  cases o with
  | nx ρ h => exact fun H' al' σ' e rh rs => ⟨ρ, h, al', rs, rh, PostS.evo (o := f ρ h) e p⟩
  | bad => exact p
  | brk ρ h => exact p
  | cnt ρ h => exact p
  | ret d h => exact p
  | exc x ρ h => exact p
/-- an expression within a statement -/
theorem PostG.toS {β γ : Type} {R : Hp → List Addr → β → γ → Prop} {o : Out β} {ρ : DEnv} {σ : St} {f : β → DH → SOut} {D : Ends} (rs : RS K H al ρ σ) (p : PostS K W H al (o.toS ρ f) D) :
    PostG K R (fun c d H' => W c d σ H') H al o (fun c H1 => ∃ b h1 al1, Evo K H al H1 al1 ∧ RH K H1 al1 h1 ∧ R H1 al1 b c ∧ PostS K W H1 al1 (f b h1) D) := by
  cases o with
  | val b h => exact fun H' al' c e rh r => ⟨b, h, al', e, rh, r, PostS.evo (o := f b h) e p⟩
  | exc x h => exact fun H' al' dd e rh rx => p H' al' σ dd e rh (rs.evo e) rx
  | bad => exact p
end

/-! ### blocks -/
def sNil : SM := fun ρ h => .nx ρ h
def sSeq (m n : SM) : SM := fun ρ h => (m ρ h).thn n
section
variable {X : Cx} {W : WX} {a b c e : Expr} {es : List Expr} {st : Stmt} {rest sts : List Stmt} {pos p pos' : Pos} {m n : SM} {ma mb : EM D} {mt : EM Bool}
theorem dss_nil : DSs X W [] sNil := pss_nil.imp fun D σ H ⟨ρ, h, al, rs, rh, q⟩ => q H al σ Evo.refl rh rs
theorem dss_cons (h1 : DS X W st m) (h2 : DSs X W rest n) : DSs X W (st :: rest) (sSeq m n) :=
  (pss_cons h1 h2).imp fun D σ H ⟨ρ, h, al, rs, rh, q⟩ => ⟨ρ, h, al, rs, rh, PostS.thn q⟩
theorem dss_one (h1 : DS X W st m) : DSs X W [st] m := pss_one h1
theorem ds_pass : DS X W (.Pass pos) sNil := ps_pass.imp fun D σ H ⟨ρ, h, al, rs, rh, q⟩ => q H al σ Evo.refl rh rs
def sBrk : SM := fun ρ h => .brk ρ h
def sCnt : SM := fun ρ h => .cnt ρ h
theorem ds_break : DS X W (.Break pos) sBrk := ps_break.imp fun D σ H ⟨ρ, h, al, rs, rh, q⟩ => q H al σ Evo.refl rh rs
theorem ds_continue : DS X W (.Continue pos) sCnt := ps_continue.imp fun D σ H ⟨ρ, h, al, rs, rh, q⟩ => q H al σ Evo.refl rh rs
theorem ds_doc {x j} : DS X W (.Expr (.Constant (.str x) j pos) pos') sNil := ps_doc.imp fun D σ H ⟨ρ, h, al, rs, rh, q⟩ => q H al σ Evo.refl rh rs
def sExpr (ma : EM D) : SM := fun ρ h => (ma ρ h).toS ρ fun _ h1 => .nx ρ h1
theorem ds_expr (he : DE X W e ma) (hs : swapsWith e none pos.line X.env = pure false := by rfl) : DS X W (.Expr e pos) (sExpr ma) := by
  refine (ps_expr he hs).imp fun D σ H ⟨ρ, h, al, rs, rh, q⟩ => ⟨ρ, h, al, rs, rh, (PostG.toS rs q).imp ?_⟩
  rintro x H1 ⟨d, h1, al1, e1, rh1, r1, q1⟩
  exact q1 H1 al1 σ Evo.refl rh1 (rs.evo e1)
def sRet (ma : EM D) : SM := fun ρ h => (ma ρ h).toS ρ fun d h1 => .ret d h1
theorem ds_ret (he : DE X W e ma) : DS X W (.Return (some e) pos) (sRet ma) := by
  refine (ps_ret he).imp fun D σ H ⟨ρ, h, al, rs, rh, q⟩ => ⟨ρ, h, al, rs, rh, (PostG.toS rs q).imp ?_⟩
  rintro x H1 ⟨d, h1, al1, e1, rh1, r1, q1⟩
  exact q1 H1 al1 x Evo.refl rh1 r1
def sRetN : SM := fun ρ h => .ret .non h
theorem ds_retN : DS X W (.Return none pos) sRetN := ps_retN.imp fun D σ H ⟨ρ, h, al, rs, rh, q⟩ => q H al .non Evo.refl rh .non
def sIf (mt : EM Bool) (m n : SM) : SM := fun ρ h => (mt ρ h).toS ρ fun k h1 => if k = true then m ρ h1 else n ρ h1
theorem ds_if {A B : List Stmt} (hc : DT X W c mt) (ha : DSs X W A m) (hb : DSs X W B n) : DS X W (.If c A B pos) (sIf mt m n) := by
  refine (ps_if hc ha hb).imp fun D σ H ⟨ρ, h, al, rs, rh, q⟩ => ⟨ρ, h, al, rs, rh, (PostG.toS rs q).imp ?_⟩
  rintro k H1 ⟨d, h1, al1, e1, rh1, r1, q1⟩
  have r1 : d = k := r1
  subst r1
  cases d with
  | true => exact iteT ⟨ρ, h1, al1, rs.evo e1, rh1, by simpa using q1⟩
  | false => exact iteF ⟨ρ, h1, al1, rs.evo e1, rh1, by simpa using q1⟩

/-! ### targets -/
abbrev GM := D → DEnv → DH → SOut
/-- the reading of a target by the layer of data -/
def DG (X : Cx) (W : WX) (tg : Expr) (g : GM) : Prop := ∃ t : TG, PG X tg t ∧ ∀ (H : Hp) (al : List Addr) (ρ : DEnv) (σ : St) (h : DH) (d : D) (v : V) (D' : Ends), RS X.K H al ρ σ → RH X.K H al h → RV X.K H al d v → PostS X.K W H al (g d ρ h) D' →
  t v σ H D'.nx
def gSet (i : Nat) : GM := fun d ρ h => .nx (ρ.set i (some d)) h
theorem dg_name (i : Nat) {x : Str} (hN : X.N.Nodup) (hi : X.N[i]? = some x := by rfl) (hx : Loc X.env.scope x := by first | exact Or.inl rfl | exact Or.inr rfl) (hf : X.fn x = true ∨ X.env.scope.names.lookup x = some .local := by first | exact .inl rfl | exact .inr rfl | assumption) : DG X W (.Name x pos) (gSet i) :=
  ⟨_, pg_name hN hi hx hf, fun H al ρ σ h d v D' rs rh r q => q H al _ Evo.refl rh (rs.set i r)⟩
def DGs (X : Cx) (W : WX) (tgs : List Expr) (g : List D → DEnv → DH → SOut) : Prop := ∃ t : TGs, PGs X tgs t ∧ ∀ (H : Hp) (al : List Addr) (ρ : DEnv) (σ : St) (h : DH) (d : List D) (v : List V) (D' : Ends), RS X.K H al ρ σ → RH X.K H al h → RVs X.K H al d v → PostS X.K W H al (g d ρ h) D' →
  t v σ H D'.nx
def gsNil : List D → DEnv → DH → SOut := fun ds ρ h => match ds with
  | [] => .nx ρ h
  | _ => .bad
/-- simple targets alone: the first is a name (or a tuple of names) -/
def gsCons (g : GM) (gr : List D → DEnv → DH → SOut) : List D → DEnv → DH → SOut := fun ds ρ h => match ds with
  | d :: r => (g d ρ h).thn (gr r)
  | _ => .bad
theorem dgs_nil : DGs X W [] gsNil := ⟨_, pgs_nil, fun H al ρ σ h d v D' rs rh r q => by
  cases r with
  | nil => exact ⟨rfl, q H al σ Evo.refl rh rs⟩
  | cons _ _ => exact q.elim⟩
theorem dgs_cons {g : GM} {gr : List D → DEnv → DH → SOut} (h1 : DG X W e g) (h2 : DGs X W es gr) (hs : (assignEach (e :: es) X.env).map (·.2) = assign e X.env :: (assignEach es X.env).map (·.2) := by rfl) : DGs X W (e :: es) (gsCons g gr) := by
  obtain ⟨t, p1, k1⟩ := h1
  obtain ⟨u, p2, k2⟩ := h2
  refine ⟨_, pgs_cons p1 p2 hs, fun H al ρ σ h d v D' rs rh r q => ?_⟩
  cases r with
  | nil => exact q.elim
  | cons r rr =>
    rename_i d v ds vs
    refine ⟨v, vs, rfl, ?_⟩
    refine k1 H al ρ σ h d v { D' with nx := fun σ' H' => u vs σ' H' D'.nx } rs rh r ?_
    have q : PostS X.K W H al ((g d ρ h).thn (gr ds)) D' := q
    cases e : g d ρ h with
    | nx ρ' h' =>
      rw [e] at q
      exact fun H' al' σ' e' rh' rs' => k2 H' al' ρ' σ' h' ds vs D' rs' rh' (rr.evo e') (PostS.evo e' q)
    | bad => rw [e] at q; exact q
    | brk ρ' h' => rw [e] at q; exact q
    | cnt ρ' h' => rw [e] at q; exact q
    | ret d' h' => rw [e] at q; exact q
    | exc x ρ' h' => rw [e] at q; exact q
def gTupD (n : Nat) (gr : List D → DEnv → DH → SOut) : GM := fun d ρ h => match d with
  | .tup ds => if ds.length = n then gr ds ρ h else .bad
  | _ => .bad
theorem dg_tup {k : Nat} {n : Nat} {gr : List D → DEnv → DH → SOut} (hc : X.calm = true) (h : DGs X W es gr) (hn : (assignEach es X.env).length = n := by rfl) (hst : (assignEach es X.env).findIdx? (·.1) = none := by rfl) : DG X W (.Tuple es k pos) (gTupD n gr) := by
  obtain ⟨t, p1, k1⟩ := h
  refine ⟨_, pg_tup hc p1 hn hst, fun H al ρ σ h d v D' rs rh r q => ?_⟩
  cases r with
  | tup hs hr =>
    rename_i a vs ds
    have q : PostS X.K W H al (if ds.length = n then gr ds ρ h else .bad) D' := q
    by_cases hl : ds.length = n
    · rw [if_pos hl] at q
      exact ⟨a, vs, rfl, hs, by rw [← hr.length]; exact hl, k1 H al ρ σ h ds vs D' rs rh hr q⟩
    · rw [if_neg hl] at q; exact q.elim
  | _ => exact q.elim

/-! ### assignments -/
def sAsg (ma : EM D) (g : GM) : SM := fun ρ h => (ma ρ h).toS ρ fun d h1 => g d ρ h1
theorem ds_asg {tg : Expr} {g : GM} (he : DE X W e ma) (hg : DG X W tg g) (hs : swapsWithSole [tg] e pos.line X.env = pure false := by rfl) (hw : swappedStores [tg] e X.env = pure none := by rfl) (h1 : (assignEach [tg] X.env).map (·.2) = [assign tg X.env] := by rfl) : DS X W (.Assign [tg] e pos) (sAsg ma g) := by
  obtain ⟨t, p1, k1⟩ := hg
  refine (ps_asg he p1 hs hw h1).imp fun D σ H ⟨ρ, h, al, rs, rh, q⟩ => ⟨ρ, h, al, rs, rh, (PostG.toS rs q).imp ?_⟩
  rintro x H1 ⟨d, h1, al1, e1, rh1, r1, q1⟩
  exact k1 H1 al1 ρ σ h1 d x D (rs.evo e1) rh1 r1 q1
theorem ds_set (i : Nat) {x : Str} (hN : X.N.Nodup) (he : DE X W e ma) (hi : X.N[i]? = some x := by rfl) (hx : Loc X.env.scope x := by first | exact Or.inl rfl | exact Or.inr rfl) (hs : swapsWith e (some (.Name x pos')) pos.line X.env = pure false := by rfl) (hf : X.fn x = true ∨ X.env.scope.names.lookup x = some .local := by first | exact .inl rfl | exact .inr rfl | assumption) :
    DS X W (.Assign [.Name x pos'] e pos) (sAsg ma (gSet i)) := by
  refine (ps_set hN hi hx he hs hf).imp fun D σ H ⟨ρ, h, al, rs, rh, q⟩ => ⟨ρ, h, al, rs, rh, (PostG.toS rs q).imp ?_⟩
  rintro y H1 ⟨d, h1, al1, e1, rh1, r1, q1⟩
  exact q1 H1 al1 _ Evo.refl rh1 ((rs.evo e1).set i r1)
/-- a, b = e1, e2 of two local names -/
def sPar (i j : Nat) (mr : EM (List D)) : SM := fun ρ h => (mr ρ h).toS ρ fun ds h1 => match ds with
  | [d, e] => .nx ((ρ.set i (some d)).set j (some e)) h1
  | _ => .bad
theorem ds_par {i j : Nat} {mr : EM (List D)} (hp : PS X st (tPar i j (tAr X.K W mr))) : DS X W st (sPar i j mr) := by
  refine hp.imp fun D σ H ⟨ρ, h, al, rs, rh, q⟩ => ⟨ρ, h, al, rs, rh, (PostG.toS rs q).imp ?_⟩
  rintro vs H1 ⟨ds, h1, al1, e1, rh1, r1, q1⟩
  cases r1 with
  | nil => exact q1.elim
  | cons r1 t =>
    cases t with
    | nil => exact q1.elim
    | cons r2 t =>
      cases t with
      | cons _ _ => exact q1.elim
      | nil => exact ⟨_, _, rfl, q1 H1 al1 _ Evo.refl rh1 (((rs.evo e1).set i r1).set j r2)⟩
/-- x += e of a local name -/
def IpC (K : PySem.W.Frag) (r : TIp) (g : D → D → DH → Out D) : Prop := OpC K r g
def sAug (i : Nat) (g : D → D → DH → Out D) (ma : EM D) : SM := fun ρ h => match ρ.getD i none with
  | some d => (ma ρ h).toS ρ fun e h1 => (g d e h1).toS ρ fun z h2 => .nx (ρ.set i (some z)) h2
  | none => .bad
theorem getD_some {ρ : DEnv} {i : Nat} {d : D} (e : ρ.getD i none = some d) : ρ[i]? = some (some d) := by
  rw [List.getD_eq_getElem?_getD] at e
  cases e2 : ρ[i]? with
  | none => rw [e2] at e; cases e
  | some o => rw [e2] at e; simp at e; rw [e]
theorem ds_aug (i : Nat) {x : Str} {op : Operator} {ti : TIp} {g : D → D → DH → Out D} (hN : X.N.Nodup) (he : DE X W e ma) (ho : PIp X op ti) (hc : IpC X.K ti g) (hi : X.N[i]? = some x := by rfl) (hx : Loc X.env.scope x := by first | exact Or.inl rfl | exact Or.inr rfl) (hf : X.fn x = true ∨ X.env.scope.names.lookup x = some .local := by first | exact .inl rfl | exact .inr rfl | assumption) :
    DS X W (.AugAssign (.Name x pos') op e pos) (sAug i g ma) := by
  refine (ps_aug hN hi hx he ho hf).imp fun D σ H ⟨ρ, h, al, rs, rh, q⟩ => ?_
  unfold sAug at q
  cases e0 : ρ.getD i none with
  | none => rw [e0] at q; exact q.elim
  | some d =>
    rw [e0] at q
    obtain ⟨v, e2, r⟩ := rs.get (getD_some e0)
    refine ⟨v, e2, ρ, h, al, rs, rh, (PostG.toS rs q).imp ?_⟩
    rintro y H1 ⟨e, h1, al1, e1, rh1, r1, q1⟩
    refine hc (fun c d H' => W c d σ H') H1 al1 h1 v y d e _ rh1 (r.evo e1) r1 ((PostG.toS (rs.evo e1) q1).imp ?_)
    rintro z H2 ⟨f, h2, al2, e3, rh2, r2, q2⟩
    exact q2 H2 al2 _ Evo.refl rh2 (((rs.evo e1).evo e3).set i r2)

/-! ### while -/
def whileN (mt : EM Bool) (m : SM) : Nat → SM
  | 0 => fun _ _ => .bad
  | n + 1 => fun ρ h => (mt ρ h).toS ρ fun k h1 => if k = true then
      (match m ρ h1 with
        | .nx ρ2 h2 => whileN mt m n ρ2 h2
        | .cnt ρ2 h2 => whileN mt m n ρ2 h2
        | .brk ρ2 h2 => .nx ρ2 h2
        | o => o)
    else .nx ρ h1
open Classical in
/-- the run of a while, whatever its turns are -/
noncomputable def sWhile (mt : EM Bool) (m : SM) : SM := fun ρ h => if x : ∃ n, whileN mt m n ρ h ≠ .bad then whileN mt m x.choose ρ h else .bad
theorem whileN_mono {mt : EM Bool} {m : SM} : ∀ (n k : Nat) (ρ : DEnv) (h : DH), whileN mt m n ρ h ≠ .bad → whileN mt m (n + k) ρ h = whileN mt m n ρ h
  | 0, _, _, _, x => (x rfl).elim
  | n + 1, k, ρ, h, x => by
    rw [Nat.add_right_comm]
    unfold whileN at x ⊢
    cases e : mt ρ h with
    | bad => rfl
    | exc _ _ => rfl
    | val b h1 =>
      rw [e] at x
      simp only [Out.toS_val] at x ⊢
      cases b with
      | false => rfl
      | true =>
        simp only [if_pos] at x ⊢
        cases e2 : m ρ h1 with
        | nx ρ2 h2 => rw [e2] at x; exact whileN_mono n k ρ2 h2 x
        | cnt ρ2 h2 => rw [e2] at x; exact whileN_mono n k ρ2 h2 x
        | _ => rfl
theorem sWhile_of {mt : EM Bool} {m : SM} {n : Nat} {ρ : DEnv} {h : DH} (x : whileN mt m n ρ h ≠ .bad) : sWhile mt m ρ h = whileN mt m n ρ h := by
  have z : ∃ n, whileN mt m n ρ h ≠ .bad := ⟨n, x⟩
  unfold sWhile
  rw [dif_pos z]
  have y := z.choose_spec
  rcases Nat.le_total n z.choose with l | l
  · obtain ⟨k, e⟩ := Nat.exists_eq_add_of_le l
    rw [e]; exact whileN_mono n k ρ h x
  · obtain ⟨k, e⟩ := Nat.exists_eq_add_of_le l
    have := whileN_mono z.choose k ρ h y
    rw [← e] at this
    exact this.symm
theorem sWhile_eq {mt : EM Bool} {m : SM} {n : Nat} {ρ : DEnv} {h : DH} {o : SOut} (e : whileN mt m n ρ h = o) (x : o ≠ .bad) : sWhile mt m ρ h = o := by
  rw [← e] at x ⊢
  exact sWhile_of x
theorem ds_while {body : List Stmt} (hp : PassesOwn (model X.prog X.w) X.A X.env X.xe) (hc : DT X W c mt) (hb : DSs X W body m) : DS X W (.While c body [] pos) (sWhile mt m) := by
  refine (ps_while hp hc hb).imp fun D σ H ⟨ρ, h, al, rs, rh, q⟩ => ?_
  unfold sWhile at q
  by_cases z : ∃ n, whileN mt m n ρ h ≠ .bad
  · rw [dif_pos z] at q
    generalize z.choose = n at q
    refine ⟨fun n σ H => ∃ ρ h al, RS X.K H al ρ σ ∧ RH X.K H al h ∧ PostS X.K W H al (whileN mt m n ρ h) D, ⟨n, ρ, h, al, rs, rh, q⟩, ?_⟩
    rintro n σ H ⟨ρ, h, al, rs, rh, q⟩
    cases n with
    | zero => exact q.elim
    | succ n =>
      unfold whileN at q
      refine ⟨ρ, h, al, rs, rh, (PostG.toS rs q).imp ?_⟩
      rintro k H1 ⟨d, h1, al1, e1, rh1, r1, q1⟩
      have r1 : d = k := r1
      subst r1
      cases d with
      | false => exact iteF (q1 H1 al1 σ Evo.refl rh1 (rs.evo e1))
      | true =>
        refine iteT ⟨fun σ H => ∃ ρ h al, RS X.K H al ρ σ ∧ RH X.K H al h ∧ PostS X.K W H al (whileN mt m n ρ h) D, fun σ' H' z => ⟨n, Nat.lt_succ_self _, z⟩, ρ, h1, al1, rs.evo e1, rh1, ?_⟩
        simp only [if_pos] at q1
        cases e2 : m ρ h1 with
        | nx ρ2 h2 => rw [e2] at q1; exact fun H' al' σ' e' rh' rs' => ⟨ρ2, h2, al', rs', rh', PostS.evo e' q1⟩
        | cnt ρ2 h2 => rw [e2] at q1; exact fun H' al' σ' e' rh' rs' => ⟨ρ2, h2, al', rs', rh', PostS.evo e' q1⟩
        | brk ρ2 h2 => rw [e2] at q1; exact q1
        | ret d' h' => rw [e2] at q1; exact q1
        | exc x ρ' h' => rw [e2] at q1; exact q1
        | bad => rw [e2] at q1; exact q1
  · rw [dif_neg z] at q; exact q.elim
end
end DL

namespace DL
open PySem PySem.Spec PyProof.Rows L2

/-! ### what is walked -/
abbrev ItD := DH → Option (List D)
def RI (K : PySem.W.Frag) (H : Hp) (al : List Addr) (it : ItD) (J : It) : Prop :=
  ∀ (H1 : Hp) (al1 : List Addr) (h1 : DH) (ds : List D), Evo K H al H1 al1 → RH K H1 al1 h1 → it h1 = some ds → ∀ i : Nat,
    (i < ds.length → J.go i H1) ∧ (ds.length ≤ i → J.stop i H1) ∧ ∀ x H2, J.yld i H1 x H2 → ∀ d, ds[i]? = some d → Evo K H1 al1 H2 al1 ∧ RH K H2 al1 h1 ∧ RV K H2 al1 d x
def DI (X : Cx) (W : WX) (tg iter : Expr) (mi : EM ItD) : Prop := ∃ wi : TI, PI X tg iter wi ∧ ∀ σ H R, tG X.K (RI X.K) W mi σ H R → wi σ H R
/-- the list at a place -/
def listAt (h : DH) (n : Nat) : Option (List D) := match h[n]? with
  | some (.lst ds) => some ds
  | some (.scr ds) => some ds
  | _ => none
theorem RH.list {K : PySem.W.Frag} {H : Hp} {al : List Addr} {h : DH} (rh : RH K H al h) {n : Nat} {ds : List D} (e : listAt h n = some ds) : ∃ a vs, al[n]? = some a ∧ SqL K H a vs ∧ RVs K H al ds vs := by
  unfold listAt at e
  cases q : h[n]? with
  | none => rw [q] at e; cases e
  | some o =>
    rw [q] at e
    obtain ⟨a, ha, r⟩ := rh.at q
    cases o with
    | lst xs => cases e; obtain ⟨vs, h1, h2⟩ := r; exact ⟨a, vs, ha, .of h1, h2⟩
    | scr xs =>
      cases e; obtain ⟨vs, h1, h2⟩ := r
      refine ⟨a, vs, ha, ?_, h2⟩
      rcases h1 with ⟨o, h1⟩ | h1
      · exact .inl (.inr ⟨o, h1⟩)
      · exact h1 H
    | _ => cases e
section
variable {X : Cx} {W : WX} {a b c e tg : Expr} {es : List Expr} {pos p pos' : Pos} {ma mb : EM D} {mr : EM (List D)}
/-- a list: as it stands at each turn -/
def seqIt (d : D) : Option ItD := match d with
  | .ref n => some fun h => listAt h n
  | _ => none
def iSeqL (ma : EM D) : EM ItD := fun ρ h => (ma ρ h).bind fun d h1 => match d with
  | .ref n => if (listAt h1 n).isSome then .val (fun h => listAt h n) h1 else .bad
  | _ => .bad
theorem rv_inj {K : PySem.W.Frag} {H : Hp} {al : List Addr} {n : Nat} {a b : Addr} (h : al[n]? = some a) (h' : al[n]? = some b) : a = b := Option.some.inj (h.symm.trans h')
/-- two lists read at one address are one: by the heap that stands behind (the reading's facts give it) -/
theorem di_list (h : DE X W e ma) : DI X W tg e (iSeqL ma) := by
  refine ⟨_, pi_list h, fun σ H R ⟨ρ, hh, al, rs, rh, q⟩ => ⟨ρ, hh, al, rs, rh, (PostG.bind q).imp ?_⟩⟩
  rintro x H1 ⟨d, h1, al1, e1, rh1, r1, q1⟩
  cases r1 with
  | ref ha =>
    rename_i n a
    cases ez : listAt h1 n with
    | none => simp only [ez] at q1; exact q1.elim
    | some ds =>
      simp only [ez] at q1
      obtain ⟨a', vs, ha', hs, _⟩ := rh1.list ez
      obtain rfl := rv_inj (K := X.K) (H := H1) ha ha'
      refine ⟨a, rfl, ⟨vs, hs⟩, PostG.val (R := RI X.K) q1 rh1 ?_⟩
      intro H2 al2 h2 ds2 e2 rh2 q2 i
      obtain ⟨a2, vs2, ha2, hs2, hr2⟩ := rh2.list q2
      obtain rfl := rv_inj (K := X.K) (H := H1) (e2.at ha) ha2
      refine ⟨fun hi => ?_, fun hi => ⟨vs2, hs2, by rw [← hr2.length]; exact hi⟩, fun x H3 hy d hd => ?_⟩
      · obtain ⟨v, hv, _⟩ := hr2.get (List.getElem?_eq_getElem hi)
        exact ⟨vs2, v, hs2, hv⟩
      · obtain ⟨rfl, hx⟩ := hy
        obtain ⟨v, hv, rv⟩ := hr2.get hd
        have := hx vs2 hs2
        rw [hv] at this; cases this
        exact ⟨Evo.refl, rh2, rv⟩
  | _ => exact q1.elim
/-- a tuple -/
def iTupD (ma : EM D) : EM ItD := fun ρ h => (ma ρ h).bind fun d h1 => match d with
  | .tup ds => .val (fun _ => some ds) h1
  | _ => .bad
theorem di_tup (h : DE X W e ma) : DI X W tg e (iTupD ma) := by
  refine ⟨_, pi_tup h, fun σ H R ⟨ρ, hh, al, rs, rh, q⟩ => ⟨ρ, hh, al, rs, rh, (PostG.bind q).imp ?_⟩⟩
  rintro x H1 ⟨d, h1, al1, e1, rh1, r1, q1⟩
  cases r1 with
  | tup hs hr =>
    rename_i a vs ds
    refine ⟨a, rfl, ⟨vs, hs⟩, PostG.val (R := RI X.K) q1 rh1 ?_⟩
    intro H2 al2 h2 ds2 e2 rh2 q2 i
    cases q2
    have hs2 := e2.tup _ _ hs
    have hr2 := hr.evo e2
    refine ⟨fun hi => ?_, fun hi => ⟨vs, hs2, by rw [← hr2.length]; exact hi⟩, fun x H3 hy d hd => ?_⟩
    · obtain ⟨v, hv, _⟩ := hr2.get (List.getElem?_eq_getElem hi)
      exact ⟨vs, v, hs2, hv⟩
    · obtain ⟨rfl, hx⟩ := hy
      obtain ⟨v, hv, rv⟩ := hr2.get hd
      have := hx vs hs2
      rw [hv] at this; cases this
      exact ⟨Evo.refl, rh2, rv⟩
  | _ => exact q1.elim
/-- a text, sign by sign -/
def signsD (x : Str) : List D := x.cps.toList.map fun c => D.str ⟨#[c]⟩
def iStrD (ma : EM D) : EM ItD := fun ρ h => (ma ρ h).bind fun d h1 => match d with
  | .str x => .val (fun _ => some (signsD x)) h1
  | _ => .bad
theorem di_str (h : DE X W e ma) : DI X W tg e (iStrD ma) := by
  refine ⟨_, pi_str h, fun σ H R ⟨ρ, hh, al, rs, rh, q⟩ => ⟨ρ, hh, al, rs, rh, (PostG.bind q).imp ?_⟩⟩
  rintro x H1 ⟨d, h1, al1, e1, rh1, r1, q1⟩
  cases r1 with
  | str =>
    rename_i x
    refine ⟨x, rfl, PostG.val (R := RI X.K) q1 rh1 ?_⟩
    intro H2 al2 h2 ds2 e2 rh2 q2 i
    cases q2
    have hl : (signsD x).length = x.cps.size := by simp [signsD]
    refine ⟨fun hi => by rw [hl] at hi; exact hi, fun hi => by rw [hl] at hi; exact hi, fun v H3 hy d hd => ?_⟩
    obtain ⟨rfl, c, hc, rfl⟩ := hy
    unfold signsD at hd
    rw [List.getElem?_map, Array.getElem?_toList, hc] at hd
    cases hd
    exact ⟨Evo.refl, rh2, .str⟩
  | _ => exact q1.elim
/-- range(n), range(a, b) -/
def rangeD (lo : Int) (n : Nat) : List D := (List.range n).map fun i : Nat => D.int (lo + (i : Int))
def gR62 (i : Int) : Prop := -(2 ^ 62) ≤ i ∧ i < 2 ^ 62
instance (i : Int) : Decidable (gR62 i) := by unfold gR62; infer_instance
def iRng1D (mr : EM (List D)) : EM ItD := fun ρ h => (mr ρ h).bind fun ds h1 => match ds with
  | [.int j] => if gR62 j then .val (fun _ => some (rangeD 0 j.toNat)) h1 else .bad
  | _ => .bad
def iRng2D (mr : EM (List D)) : EM ItD := fun ρ h => (mr ρ h).bind fun ds h1 => match ds with
  | [.int i, .int j] => if gR62 i ∧ gR62 j then .val (fun _ => some (rangeD i (j - i).toNat)) h1 else .bad
  | _ => .bad
theorem ri_range {K : PySem.W.Frag} {H : Hp} {al : List Addr} (lo : Int) (n : Nat) : RI K H al (fun _ => some (rangeD lo n)) (Itr lo n) := by
  intro H2 al2 h2 ds2 e2 rh2 q2 i
  cases q2
  have hl : (rangeD lo n).length = n := by simp [rangeD]
  refine ⟨fun hi => by rw [hl] at hi; exact hi, fun hi => by rw [hl] at hi; exact hi, fun v H3 hy d hd => ?_⟩
  obtain ⟨rfl, rfl⟩ := hy
  have hi : i < n := by
    have := (List.getElem?_eq_some_iff.mp hd).1
    rw [hl] at this; exact this
  unfold rangeD at hd
  rw [List.getElem?_map, List.getElem?_range hi] at hd
  cases hd
  exact ⟨Evo.refl, rh2, .int⟩
theorem di_range1 (hg : Gl X "range") (hm : X.mg "range" = none) (ha : DA X W [a] mr) (hs : starEach [a] X.env = [(false, eval a X.env)] := by rfl) : DI X W tg (.Call (.Name "range" p) [a] [] pos) (iRng1D mr) := by
  refine ⟨_, pi_range1 hg hm ha hs, fun σ H R ⟨ρ, hh, al, rs, rh, q⟩ => ⟨ρ, hh, al, rs, rh, (PostG.bind q).imp ?_⟩⟩
  rintro xs H1 ⟨ds, h1, al1, e1, rh1, r1, q1⟩
  cases r1 with
  | nil => exact q1.elim
  | cons r t =>
    cases t with
    | cons _ _ => cases r <;> exact q1.elim
    | nil =>
      cases r with
      | int =>
        rename_i j
        by_cases hz : gR62 j
        · simp only [if_pos hz] at q1
          exact ⟨j, rfl, hz.1, hz.2, PostG.val (R := RI X.K) q1 rh1 (ri_range 0 _)⟩
        · simp only [if_neg hz] at q1; exact q1.elim
      | _ => exact q1.elim
theorem di_range2 (hg : Gl X "range") (hm : X.mg "range" = none) (ha : DA X W [a, b] mr) (hs : starEach [a, b] X.env = [(false, eval a X.env), (false, eval b X.env)] := by rfl) (hs2 : starEach [b] X.env = [(false, eval b X.env)] := by rfl) : DI X W tg (.Call (.Name "range" p) [a, b] [] pos) (iRng2D mr) := by
  refine ⟨_, pi_range2 hg hm ha hs hs2, fun σ H R ⟨ρ, hh, al, rs, rh, q⟩ => ⟨ρ, hh, al, rs, rh, (PostG.bind q).imp ?_⟩⟩
  rintro xs H1 ⟨ds, h1, al1, e1, rh1, r1, q1⟩
  cases r1 with
  | nil => exact q1.elim
  | cons r t =>
    cases t with
    | nil => cases r <;> exact q1.elim
    | cons r2 t2 =>
      cases t2 with
      | cons _ _ => cases r <;> cases r2 <;> exact q1.elim
      | nil =>
        cases r with
        | int =>
          cases r2 with
          | int =>
            rename_i i j
            by_cases hz : gR62 i ∧ gR62 j
            · simp only [if_pos hz] at q1
              exact ⟨i, j, rfl, ⟨hz.1.1, hz.1.2, hz.2.1, hz.2.2⟩, PostG.val (R := RI X.K) q1 rh1 (ri_range i _)⟩
            · simp only [if_neg hz] at q1; exact q1.elim
          | _ => exact q1.elim
        | _ => cases r2 <;> exact q1.elim
/-- reversed(x), x a list or a tuple -/
def iRevD (ma : EM D) : EM ItD := fun ρ h => (ma ρ h).bind fun d h1 => match d with
  | .tup ds => .val (fun _ => some ds.reverse) h1
  | .ref n => match listAt h1 n with
    | some ds => .val (fun h => if (listAt h n).map List.length = some ds.length then (listAt h n).map List.reverse else none) h1
    | none => .bad
  | _ => .bad
theorem rev_get {α : Type} {l : List α} {i : Nat} (hi : i < l.length) : l.reverse[i]? = l[l.length - 1 - i]? := by
  rw [List.getElem?_reverse hi]
theorem di_rev (hg : Gl X "reversed") (hm : X.mg "reversed" = none) (h : DE X W e ma) (hs : starEach [e] X.env = (false, eval e X.env) :: starEach [] X.env := by rfl) : DI X W tg (.Call (.Name "reversed" p) [e] [] pos) (iRevD ma) := by
  refine ⟨_, RT.pi_revA hg hm h hs, fun σ H R ⟨ρ, hh, al, rs, rh, q⟩ => ⟨ρ, hh, al, rs, rh, (PostG.bind q).imp ?_⟩⟩
  rintro x H1 ⟨d, h1, al1, e1, rh1, r1, q1⟩
  cases r1 with
  | tup hs hr =>
    rename_i a vs ds
    refine ⟨a, vs, rfl, .inr ⟨hs, PostG.val (R := RI X.K) q1 rh1 ?_⟩⟩
    intro H2 al2 h2 ds2 e2 rh2 q2 i
    cases q2
    have hs2 := e2.tup _ _ hs
    have hr2 := hr.evo e2
    have hl : ds.reverse.length = vs.length := by rw [List.length_reverse, hr2.length]
    refine ⟨fun hi => ?_, fun hi => by rw [hl] at hi; exact hi, fun x H3 hy d hd => ?_⟩
    · rw [hl] at hi
      refine ⟨hi, vs, vs[vs.length - 1 - i]'(by omega), hs2, List.getElem?_eq_getElem _⟩
    · obtain ⟨rfl, hx⟩ := hy
      have hi : i < ds.length := by
        have := (List.getElem?_eq_some_iff.mp hd).1
        rwa [List.length_reverse] at this
      rw [rev_get hi] at hd
      obtain ⟨v, hv, rv⟩ := hr2.get hd
      have := hx vs hs2
      rw [← hr2.length, hv] at this; cases this
      exact ⟨Evo.refl, rh2, rv⟩
  | ref ha =>
    rename_i n a
    cases ez : listAt h1 n with
    | none => simp only [ez] at q1; exact q1.elim
    | some ds =>
      simp only [ez] at q1
      obtain ⟨a', vs, ha', hs, hr⟩ := rh1.list ez
      obtain rfl := rv_inj (K := X.K) (H := H1) ha ha'
      refine ⟨a, vs, rfl, .inl ⟨hs, PostG.val (R := RI X.K) q1 rh1 ?_⟩⟩
      intro H2 al2 h2 ds2 e2 rh2 q2 i
      dsimp only at q2
      cases ew : listAt h2 n with
      | none => rw [ew] at q2; simp at q2
      | some ds3 =>
        rw [ew] at q2
        simp only [Option.map_some, Option.some.injEq] at q2
        by_cases hl3 : ds3.length = ds.length
        · rw [if_pos hl3] at q2
          cases q2
          obtain ⟨a2, vs2, ha2, hs2, hr2⟩ := rh2.list ew
          obtain rfl := rv_inj (K := X.K) (H := H1) (e2.at ha) ha2
          have hl : ds3.reverse.length = vs.length := by rw [List.length_reverse, hl3, hr.length]
          have hl2 : vs2.length = vs.length := by rw [← hr2.length, hl3, hr.length]
          refine ⟨fun hi => ?_, fun hi => by rw [hl] at hi; exact hi, fun x H3 hy d hd => ?_⟩
          · rw [hl] at hi
            refine ⟨hi, vs2, vs2[vs.length - 1 - i]'(by omega), hs2, List.getElem?_eq_getElem _⟩
          · obtain ⟨rfl, hx⟩ := hy
            have hi : i < ds3.length := by
              have := (List.getElem?_eq_some_iff.mp hd).1
              rwa [List.length_reverse] at this
            rw [rev_get hi] at hd
            obtain ⟨v, hv, rv⟩ := hr2.get hd
            have := hx vs2 hs2
            rw [← hl2, ← hr2.length, hv] at this; cases this
            exact ⟨Evo.refl, rh2, rv⟩
        · rw [if_neg hl3] at q2; cases q2
  | _ => exact q1.elim

/-! ### for -/
open Classical in
noncomputable def loopL (it : ItD) (all : List D) (g : GM) (m : SM) : List D → SM
  | [] => fun ρ h => if it h = some all then .nx ρ h else .bad
  | d :: r => fun ρ h => if it h = some all then ((g d ρ h).thn fun ρ1 h1 => match m ρ1 h1 with
      | .nx ρ2 h2 => loopL it all g m r ρ2 h2
      | .cnt ρ2 h2 => loopL it all g m r ρ2 h2
      | .brk ρ2 h2 => .nx ρ2 h2
      | o => o) else .bad
noncomputable def sFor (mi : EM ItD) (g : GM) (m : SM) : SM := fun ρ h => (mi ρ h).toS ρ fun it h1 => match it h1 with
  | some ds => loopL it ds g m ds ρ h1
  | none => .bad
theorem ds_for {iter : Expr} {body : List Stmt} {mi : EM ItD} {g : GM} {m : SM} (hp : PassesOwn (model X.prog X.w) X.A X.env X.xe) (hc : X.calm = true) (hi : DI X W tg iter mi) (hg : DG X W tg g) (hb : DSs X W body m)
    (hs : ∀ x, foldedSetIterable iter X.env x = pure x := by intro _; rfl) : DS X W (.For tg iter body [] pos) (sFor mi g m) := by
  obtain ⟨wi, p1, k1⟩ := hi
  obtain ⟨t, p2, k2⟩ := hg
  refine (ps_for hp hc p1 p2 hb hs).imp fun D σ H ⟨ρ, h, al, rs, rh, q⟩ => k1 _ _ _ ⟨ρ, h, al, rs, rh, (PostG.toS rs q).imp ?_⟩
  rintro J H1 ⟨it, h1, al1, e1, rh1, ri, q1⟩
  cases ez : it h1 with
  | none => simp only [ez] at q1; exact q1.elim
  | some ds =>
    simp only [ez] at q1
    refine ⟨fun i n σ H => n = ds.length - i ∧ i ≤ ds.length ∧ ∃ ρ h al, Evo X.K H1 al1 H al ∧ RS X.K H al ρ σ ∧ RH X.K H al h ∧ PostS X.K W H al (loopL it ds g m (ds.drop i) ρ h) D, ⟨ds.length, by simp, by simp, ρ, h1, al1, Evo.refl, rs.evo e1, rh1, by simpa using q1⟩, ?_⟩
    rintro i n σ2 H2 ⟨rfl, hi, ρ2, h2, al2, e2, rs2, rh2, q2⟩
    by_cases hlt : i < ds.length
    · right
      rw [List.drop_eq_getElem_cons hlt] at q2
      unfold loopL at q2
      by_cases hit : it h2 = some ds
      · rw [if_pos hit] at q2
        obtain ⟨g1, g2, g3⟩ := ri H2 al2 h2 ds e2 rh2 hit i
        refine ⟨g1 hlt, fun σ H => ∃ ρ h al, Evo X.K H1 al1 H al ∧ RS X.K H al ρ σ ∧ RH X.K H al h ∧ PostS X.K W H al (loopL it ds g m (ds.drop (i + 1)) ρ h) D, ?_, ?_⟩
        · rintro σ' H' ⟨ρ', h', al', a1, a2, a3, a4⟩
          exact ⟨ds.length - (i + 1), by omega, rfl, by omega, ρ', h', al', a1, a2, a3, a4⟩
        · intro x H3 hy
          obtain ⟨e3, rh3, rv⟩ := g3 x H3 hy ds[i] (List.getElem?_eq_getElem hlt)
          have q3 := PostS.thn (PostS.evo e3 q2)
          refine k2 H3 al2 ρ2 σ2 h2 ds[i] x { D with nx := fun σ H => tS X.K W m { D with nx := fun σ H => ∃ ρ h al, Evo X.K H1 al1 H al ∧ RS X.K H al ρ σ ∧ RH X.K H al h ∧ PostS X.K W H al (loopL it ds g m (ds.drop (i + 1)) ρ h) D, ct := fun σ H => ∃ ρ h al, Evo X.K H1 al1 H al ∧ RS X.K H al ρ σ ∧ RH X.K H al h ∧ PostS X.K W H al (loopL it ds g m (ds.drop (i + 1)) ρ h) D, bk := D.nx } σ H } (rs2.evo e3) rh3 rv ?_
          cases eg : g ds[i] ρ2 h2 with
          | nx ρ3 h3 =>
            rw [eg] at q3
            intro H4 al4 σ4 e4 rh4 rs4
            obtain ⟨ρ5, h5, al5, rs5, rh5, q5⟩ := q3 H4 al4 σ4 e4 rh4 rs4
            -- the state as it stands
            have q6 : PostS X.K W H4 al4 (match m ρ3 h3 with
              | .nx ρ2 h2 => loopL it ds g m (ds.drop (i + 1)) ρ2 h2
              | .cnt ρ2 h2 => loopL it ds g m (ds.drop (i + 1)) ρ2 h2
              | .brk ρ2 h2 => .nx ρ2 h2
              | o => o) D := by
              have z := PostS.evo (e3.trans e4) q2
              rw [eg] at z
              exact z
            refine ⟨ρ3, h3, al4, rs4, rh4, ?_⟩
            cases em : m ρ3 h3 with
            | nx ρ6 h6 => rw [em] at q6; exact fun H7 al7 σ7 e7 rh7 rs7 => ⟨ρ6, h6, al7, ((e2.trans e3).trans e4).trans e7, rs7, rh7, PostS.evo e7 q6⟩
            | cnt ρ6 h6 => rw [em] at q6; exact fun H7 al7 σ7 e7 rh7 rs7 => ⟨ρ6, h6, al7, ((e2.trans e3).trans e4).trans e7, rs7, rh7, PostS.evo e7 q6⟩
            | brk ρ6 h6 => rw [em] at q6; exact q6
            | ret d6 h6 => rw [em] at q6; exact q6
            | exc x6 ρ6 h6 => rw [em] at q6; exact q6
            | bad => rw [em] at q6; exact q6
          | bad => rw [eg] at q3; exact q3
          | brk ρ' h' => rw [eg] at q3; exact q3
          | cnt ρ' h' => rw [eg] at q3; exact q3
          | ret d' h' => rw [eg] at q3; exact q3
          | exc x ρ' h' => rw [eg] at q3; exact q3
      · rw [if_neg hit] at q2; exact q2.elim
    · left
      have hd : ds.drop i = [] := List.drop_eq_nil_of_le (by omega)
      rw [hd] at q2
      unfold loopL at q2
      by_cases hit : it h2 = some ds
      · rw [if_pos hit] at q2
        exact ⟨(ri H2 al2 h2 ds e2 rh2 hit i).2.1 (by omega), q2 H2 al2 σ2 Evo.refl rh2 rs2⟩
      · rw [if_neg hit] at q2; exact q2.elim
end
end DL

namespace DL
open PySem PySem.Spec PyProof.Rows L2

/-! ### list comprehensions -/
def wipeD (ρ : DEnv) : List Nat → DEnv
  | [] => ρ
  | v :: vs => (wipeD ρ vs).set v none
theorem RS.wipe {K : PySem.W.Frag} {H : Hp} {al : List Addr} {ρ : DEnv} {σ : St} (h : RS K H al ρ σ) : ∀ vs : List Nat, RS K H al (wipeD ρ vs) (wipe σ vs)
  | [] => h
  | v :: vs => RS.gone (RS.wipe h vs) v none
theorem wipe_set {σ : St} {i : Nat} {o : Option V} : ∀ {vs : List Nat}, i ∈ vs → L2.wipe (σ.set i o) vs = L2.wipe σ vs
  | v :: vs, h => by
    show (L2.wipe (σ.set i o) vs).set v none = (L2.wipe σ vs).set v none
    by_cases hi : i ∈ vs
    · rw [wipe_set hi]
    · have e : i = v := by
        rcases List.mem_cons.mp h with e | e
        · exact e
        · exact (hi e).elim
      subst e
      have gen : ∀ (ws : List Nat), i ∉ ws → L2.wipe (σ.set i o) ws = (L2.wipe σ ws).set i o := by
        intro ws
        induction ws with
        | nil => intro _; rfl
        | cons w ws ih =>
          intro hn
          have h1 : ¬ i = w := fun e => hn (by simp [e])
          show (L2.wipe (σ.set i o) ws).set w none = ((L2.wipe σ ws).set w none).set i o
          rw [ih fun z => hn (List.mem_cons_of_mem _ z), List.set_comm _ _ (Ne.symm (fun e => h1 e.symm) )]
      rw [gen vs hi, List.set_set]
theorem wipe_wipe {σ : St} : ∀ {us vs : List Nat}, (∀ i ∈ us, i ∈ vs) → L2.wipe (L2.wipe σ us) vs = L2.wipe σ vs
  | [], _, _ => rfl
  | u :: us, vs, h => by
    show L2.wipe ((L2.wipe σ us).set u none) vs = _
    rw [wipe_set (h u List.mem_cons_self), wipe_wipe fun i hi => h i (List.mem_cons_of_mem _ hi)]
/-- the targets of a comprehension: a name, a tuple of names -/
inductive CT where
  | nm (i : Nat) | tp (is : List Nat)
def CT.slots : CT → List Nat
  | .nm i => [i]
  | .tp is => is
def setsD : List Nat → List D → DEnv → Option DEnv
  | [], [], ρ => some ρ
  | i :: is, d :: ds, ρ => setsD is ds (ρ.set i (some d))
  | _, _, _ => none
def CT.put : CT → D → DEnv → Option DEnv
  | .nm i, d, ρ => some (ρ.set i (some d))
  | .tp is, .tup ds, ρ => setsD is ds ρ
  | _, _, _ => none
def gNames : List Nat → TGs
  | [] => gNil
  | i :: is => gCons (gName i) (gNames is)
def CT.read (K : PySem.W.Frag) : CT → TG
  | .nm i => gName i
  | .tp is => gTup K is.length (gNames is)
theorem gNames_of {K : PySem.W.Frag} {H : Hp} {al : List Addr} {vs0 : List Nat} : ∀ {is : List Nat} {ds : List D} {vs : List V} {ρ ρ' : DEnv} {σ : St} {Q : St → Hp → Prop}, (∀ i ∈ is, i ∈ vs0) → RS K H al ρ σ → RVs K H al ds vs → setsD is ds ρ = some ρ' →
    (∀ σ', L2.wipe σ' vs0 = L2.wipe σ vs0 → RS K H al ρ' σ' → Q σ' H) → gNames is vs σ H Q
  | [], [], _, ρ, ρ', σ, Q, _, rs, .nil, e, q => by cases e; exact ⟨rfl, q σ rfl rs⟩
  | i :: is, d :: ds, _, ρ, ρ', σ, Q, hi, rs, .cons r rr, e, q => by
    refine ⟨_, _, rfl, ?_⟩
    exact gNames_of (σ := σ.set i _) (fun j hj => hi j (List.mem_cons_of_mem _ hj)) (rs.set i r) rr e fun σ' h1 h2 => q σ' (by rw [h1, wipe_set (hi i List.mem_cons_self)]) h2
  | [], _ :: _, _, _, _, _, _, _, _, _, e, _ => by cases e
  | _ :: _, [], _, _, _, _, _, _, _, _, e, _ => by cases e
theorem setsD_len : ∀ {is : List Nat} {ds : List D} {ρ ρ' : DEnv}, setsD is ds ρ = some ρ' → ds.length = is.length
  | [], [], _, _, _ => rfl
  | _ :: _, _ :: _, _, _, e => congrArg (· + 1) (setsD_len e)
  | [], _ :: _, _, _, e => by cases e
  | _ :: _, [], _, _, e => by cases e
theorem CT.of {K : PySem.W.Frag} {H : Hp} {al : List Addr} {vs0 : List Nat} {c : CT} {d : D} {v : V} {ρ ρ' : DEnv} {σ : St} {Q : St → Hp → Prop} (hi : ∀ i ∈ c.slots, i ∈ vs0) (rs : RS K H al ρ σ) (r : RV K H al d v) (e : c.put d ρ = some ρ')
    (q : ∀ σ', L2.wipe σ' vs0 = L2.wipe σ vs0 → RS K H al ρ' σ' → Q σ' H) : c.read K v σ H Q := by
  cases c with
  | nm i => cases e; exact q _ (wipe_set (hi i List.mem_cons_self)) (rs.set i r)
  | tp is =>
    cases r with
    | tup hs hr => exact ⟨_, _, rfl, hs, by rw [← hr.length]; exact setsD_len e, gNames_of hi rs hr e q⟩
    | _ => cases e
open Classical in
noncomputable def lcLoop (it : ItD) (all : List D) (c : CT) (mt : EM Bool) (me : EM D) (n : Nat) (ρ : DEnv) : List D → DH → Out D
  | [], h => if it h = some all then .val (.ref n) h else .bad
  | d :: r, h => if it h = some all then (match c.put d ρ with
      | some ρ2 => match mt ρ2 h with
        | .val true h3 => match me ρ2 h3 with
          | .val y h4 => match h4[n]? with
            | some (.lst acc) => if acc.length < sizeLine then lcLoop it all c mt me n ρ r (h4.set n (.lst (acc ++ [y]))) else .bad
            | _ => .bad
          | _ => .bad
        | .val false h3 => lcLoop it all c mt me n ρ r h3
        | _ => .bad
      | none => .bad) else .bad
noncomputable def mLc (mi : EM ItD) (c : CT) (mt : EM Bool) (me : EM D) (vs : List Nat) : EM D := fun ρ h => (mi ρ h).bind fun it h1 => match it h1 with
  | some ds => lcLoop it ds c mt me h1.length (wipeD ρ vs) ds (h1 ++ [.lst []])
  | none => .bad
def W0 : WX := fun _ _ _ _ => False
theorem it_ext {K : PySem.W.Frag} : True := trivial
section
variable {X : Cx} {W : WX} {a b e tg iter elt : Expr} {es ifs : List Expr} {pos p pos' spos : Pos} {ma mb me : EM D} {mt : EM Bool} {mi : EM ItD} {c : CT} {scope : Scope} {own : List (Str × Nat)}
theorem lc_imp {wi : TI} {vs : List Nat} (ki : ∀ σ H R, tG X.K (RI X.K) W mi σ H R → wi σ H R) (hs : ∀ i ∈ c.slots, i ∈ vs) (σ : St) (H : Hp) (Q : VK) (q : tD X.K W (mLc mi c mt me vs) σ H Q) :
    tLc wi (c.read X.K) (tBl X.K W0 mt) (tD X.K W0 me) vs σ H Q := by
  obtain ⟨ρ, h, al, rs, rh, q⟩ := q
  refine ki _ _ _ ⟨ρ, h, al, rs, rh, (PostG.bind q).imp ?_⟩
  rintro J H1 ⟨it, h1, al1, e1, rh1, ri, q1⟩
  cases ez : it h1 with
  | none => simp only [ez] at q1; exact q1.elim
  | some ds =>
    simp only [ez] at q1
    intro L hL
    have ev : Evo X.K H1 al1 (upd H1 L (.lst [])) (al1 ++ [L]) := Evo.new hL
    have rhL : RH X.K (upd H1 L (.lst [])) (al1 ++ [L]) (h1 ++ [.lst []]) := rh1.new hL ⟨[], upd_same, .nil⟩
    have aL : (al1 ++ [L])[h1.length]? = some L := by
      rw [rh1.len, List.getElem?_append_right (Nat.le_refl _)]; simp
    refine ⟨fun i n H => n = ds.length - i ∧ i ≤ ds.length ∧ ∃ h al, Evo X.K (upd H1 L (.lst [])) (al1 ++ [L]) H al ∧ RH X.K H al h ∧ PostG X.K (RV X.K) (fun c d H' => W c d σ H') H al (lcLoop it ds c mt me h1.length (wipeD ρ vs) (ds.drop i) h) Q, ⟨ds.length, by simp, by simp, h1 ++ [.lst []], al1 ++ [L], Evo.refl, rhL, by simpa using PostG.evo ev q1⟩, ?_⟩
    rintro i n H2 ⟨rfl, hi, h2, al2, e2, rh2, q2⟩
    by_cases hlt : i < ds.length
    · right
      rw [List.drop_eq_getElem_cons hlt] at q2
      unfold lcLoop at q2
      by_cases hit : it h2 = some ds
      · rw [if_pos hit] at q2
        obtain ⟨g1, g2, g3⟩ := ri H2 al2 h2 ds (ev.trans e2) rh2 hit i
        refine ⟨g1 hlt, fun H => ∃ h al, Evo X.K (upd H1 L (.lst [])) (al1 ++ [L]) H al ∧ RH X.K H al h ∧ PostG X.K (RV X.K) (fun c d H' => W c d σ H') H al (lcLoop it ds c mt me h1.length (wipeD ρ vs) (ds.drop (i + 1)) h) Q, ?_, ?_⟩
        · rintro H' ⟨h', al', a1, a3, a4⟩
          exact ⟨ds.length - (i + 1), by omega, rfl, by omega, h', al', a1, a3, a4⟩
        · intro x H3 hy
          obtain ⟨e3, rh3, rv⟩ := g3 x H3 hy ds[i] (List.getElem?_eq_getElem hlt)
          have q3 := PostG.evo e3 q2
          have rsw : RS X.K H3 al2 (wipeD ρ vs) (L2.wipe σ vs) := ((rs.evo e1).evo ((ev.trans e2).trans e3)).wipe vs
          cases eg : c.put ds[i] (wipeD ρ vs) with
          | none => simp only [eg] at q3; exact q3.elim
          | some ρ2 =>
            simp only [eg] at q3
            refine CT.of (σ := L2.wipe σ vs) (vs0 := vs) hs rsw rv eg fun σ2 hw2 rs2 => ⟨by rw [hw2, wipe_wipe fun _ h => h], ?_⟩
            refine ⟨ρ2, h2, al2, rs2, rh3, ?_⟩
            cases et : mt ρ2 h2 with
            | bad => simp only [et] at q3; exact q3.elim
            | exc x h => simp only [et] at q3; exact q3.elim
            | val bb h3 =>
              rw [et] at q3
              intro H4 al4 b4 e4 rh4 hb
              have hb : bb = b4 := hb
              subst hb
              cases bb with
              | false =>
                refine iteF ⟨h3, al4, (e2.trans e3).trans e4, rh4, PostG.evo e4 q3⟩
              | true =>
                refine iteT ⟨ρ2, h3, al4, rs2.evo e4, rh4, ?_⟩
                dsimp only at q3
                cases ee : me ρ2 h3 with
                | bad => simp only [ee] at q3; exact q3.elim
                | exc x h => simp only [ee] at q3; exact q3.elim
                | val y h4 =>
                  simp only [ee] at q3
                  intro H5 al5 v5 e5 rh5 rv5
                  cases eh : h4[h1.length]? with
                  | none => simp only [eh] at q3; exact q3.elim
                  | some o =>
                    have ev5 := ((e2.trans e3).trans e4).trans e5
                    have aL5 := ev5.at aL
                    cases o with
                    | lst acc =>
                      simp only [eh] at q3
                      by_cases hz : acc.length < sizeLine
                      · rw [if_pos hz] at q3
                        obtain ⟨vacc, hv, rvs⟩ := rh5.obj _ _ _ eh aL5
                        have ew : Evo X.K H5 al5 (upd H5 L (.lst (vacc ++ [v5]))) al5 := Evo.write hv rfl
                        refine ⟨vacc, hv, by rw [← rvs.length]; exact hz, h4.set h1.length (.lst (acc ++ [y])), al5, ev5.trans ew, ?_, PostG.evo ((e4.trans e5).trans ew) q3⟩
                        exact rh5.write eh aL5 rfl rfl ⟨_, upd_same, (rvs.snoc rv5).evo ew⟩
                      · rw [if_neg hz] at q3; exact q3.elim
                    | _ => simp only [eh] at q3; exact q3.elim
      · rw [if_neg hit] at q2; exact q2.elim
    · left
      have hd : ds.drop i = [] := List.drop_eq_nil_of_le (by omega)
      rw [hd] at q2
      unfold lcLoop at q2
      by_cases hit : it h2 = some ds
      · rw [if_pos hit] at q2
        exact ⟨(ri H2 al2 h2 ds (ev.trans e2) rh2 hit i).2.1 (by omega), PostG.val q2 rh2 (.ref (e2.at aL))⟩
      · rw [if_neg hit] at q2; exact q2.elim
/-- the targets in a block -/
def DC (X : Cx) (scope : Scope) (tg : Expr) (c : CT) : Prop := ∀ (s : Shared) (H : Hp) (C : Addr) (cl : List (Str × Addr)) (fp : List Addr), PG (X.blk s H scope (compEnvC scope cl C X.env) fp) tg (c.read X.K)
theorem dc_name (i : Nat) {x : Str} (hN : X.N.Nodup) (hi : X.N[i]? = some x := by rfl) (hx : ∀ (s : Shared) (H : Hp) (C : Addr) (cl : List (Str × Addr)) (fp : List Addr), Loc (X.blk s H scope (compEnvC scope cl C X.env) fp).env.scope x := by intros; first | exact Or.inl rfl | exact Or.inr rfl) (hf : ∀ (s : Shared) (H : Hp) (C : Addr) (cl : List (Str × Addr)) (fp : List Addr), (X.blk s H scope (compEnvC scope cl C X.env) fp).fn x = true ∨ (X.blk s H scope (compEnvC scope cl C X.env) fp).env.scope.names.lookup x = some .local := by intros; first | exact .inl rfl | exact .inr rfl) : DC X scope (.Name x pos) (.nm i) :=
  fun s H C cl fp => pg_name (X := X.blk s H scope (compEnvC scope cl C X.env) fp) (i := i) hN hi (hx s H C cl fp) (hf s H C cl fp)
def DCs (X : Cx) (scope : Scope) (tgs : List Expr) (is : List Nat) : Prop := ∀ (s : Shared) (H : Hp) (C : Addr) (cl : List (Str × Addr)) (fp : List Addr), PGs (X.blk s H scope (compEnvC scope cl C X.env) fp) tgs (gNames is)
theorem dcs_nil : DCs X scope [] [] := fun _ _ _ _ _ => pgs_nil
theorem dcs_cons (i : Nat) {x : Str} {is : List Nat} (hN : X.N.Nodup) (h2 : DCs X scope es is) (hs : ∀ (s : Shared) (H : Hp) (C : Addr) (cl : List (Str × Addr)) (fp : List Addr), (assignEach (.Name x pos :: es) (X.blk s H scope (compEnvC scope cl C X.env) fp).env).map (·.2) = assign (.Name x pos) (X.blk s H scope (compEnvC scope cl C X.env) fp).env :: (assignEach es (X.blk s H scope (compEnvC scope cl C X.env) fp).env).map (·.2) := by intros; rfl)
    (hi : X.N[i]? = some x := by rfl) (hx : ∀ (s : Shared) (H : Hp) (C : Addr) (cl : List (Str × Addr)) (fp : List Addr), Loc (X.blk s H scope (compEnvC scope cl C X.env) fp).env.scope x := by intros; first | exact Or.inl rfl | exact Or.inr rfl) (hf : ∀ (s : Shared) (H : Hp) (C : Addr) (cl : List (Str × Addr)) (fp : List Addr), (X.blk s H scope (compEnvC scope cl C X.env) fp).fn x = true ∨ (X.blk s H scope (compEnvC scope cl C X.env) fp).env.scope.names.lookup x = some .local := by intros; first | exact .inl rfl | exact .inr rfl) : DCs X scope (.Name x pos :: es) (i :: is) :=
  fun s H C cl fp => pgs_cons (pg_name (X := X.blk s H scope (compEnvC scope cl C X.env) fp) (i := i) hN hi (hx s H C cl fp) (hf s H C cl fp)) (h2 s H C cl fp) (hs s H C cl fp)
theorem dc_tup {k : Nat} {is : List Nat} (hc : X.calm = true) (h : DCs X scope es is) (hn : ∀ (s : Shared) (H : Hp) (C : Addr) (cl : List (Str × Addr)) (fp : List Addr), (assignEach es (X.blk s H scope (compEnvC scope cl C X.env) fp).env).length = is.length := by intros; rfl) (hst : ∀ (s : Shared) (H : Hp) (C : Addr) (cl : List (Str × Addr)) (fp : List Addr), (assignEach es (X.blk s H scope (compEnvC scope cl C X.env) fp).env).findIdx? (·.1) = none := by intros; rfl) : DC X scope (.Tuple es k pos) (.tp is) :=
  fun s H C cl fp => pg_tup hc (h s H C cl fp) (hn s H C cl fp) (hst s H C cl fp)
/-- tests of a comprehension -/
def DTs (X : Cx) (ifs : List Expr) (mt : EM Bool) : Prop := PTs X ifs (tBl X.K W0 mt)
theorem _root_.L2.PTs.imp {X : Cx} {e : List Expr} {t t' : TT} (h : PTs X e t) (i : ∀ σ H Q, t' σ H Q → t σ H Q) : PTs X e t' := ⟨fun pins s σ H Q I q => h.run pins s σ H Q I (i σ H Q q)⟩
theorem dts_nil : DTs X [] (mC true) := pts_nil.imp fun σ H Q ⟨ρ, h, al, rs, rh, q⟩ => PostG.val (R := RB) q rh rfl
theorem dts_one (h : DT X W0 e mt) : DTs X [e] mt := pts_one h
theorem de_lc (hc : X.calm = true) (hN : X.N.Nodup) (hi : DI X W tg iter mi) (ok : BlkOk X.N X.env.scope scope own) (hg : DC X scope tg c)
    (ht : ∀ (s : Shared) (H : Hp) (C : Addr) (cl : List (Str × Addr)) (fp : List Addr), DTs (X.blk s H scope (compEnvC scope cl C X.env) fp) ifs mt)
    (he : ∀ (s : Shared) (H : Hp) (C : Addr) (cl : List (Str × Addr)) (fp : List Addr), DE (X.blk s H scope (compEnvC scope cl C X.env) fp) W0 elt me) (hsl : ∀ i ∈ c.slots, i ∈ own.map (·.2)) (hs : ∀ x, foldedSetIterable iter X.env x = pure x := by intro _; rfl) :
    DE X W (.ListComp elt [⟨tg, iter, ifs, 0⟩] scope pos) (mLc mi c mt me (own.map (·.2))) := by
  obtain ⟨wi, p1, k1⟩ := hi
  exact (pe_lc (tt := tBl X.K W0 mt) (te := tD X.K W0 me) hc hN p1 ok hg (fun s H C cl fp => ht s H C cl fp) (fun s H C cl fp => he s H C cl fp) hs).imp fun σ H Q q => lc_imp k1 hsl σ H Q q
theorem ds_setLc (i : Nat) {y : Str} {py : Pos} (hc : X.calm = true) (hN : X.N.Nodup) (hi : DI X W tg iter mi) (ok : BlkOk X.N X.env.scope scope own) (hg : DC X scope tg c)
    (ht : ∀ (s : Shared) (H : Hp) (C : Addr) (cl : List (Str × Addr)) (fp : List Addr), DTs (X.blk s H scope (compEnvC scope cl C X.env) fp) ifs mt)
    (he : ∀ (s : Shared) (H : Hp) (C : Addr) (cl : List (Str × Addr)) (fp : List Addr), DE (X.blk s H scope (compEnvC scope cl C X.env) fp) W0 elt me) (hsl : ∀ i ∈ c.slots, i ∈ own.map (·.2))
    (hsw : swapsWith (.ListComp elt [⟨tg, iter, ifs, 0⟩] scope pos) (some (.Name y py)) spos.line X.env = pure true) (hy : X.N[i]? = some y := by rfl) (hyl : X.env.scope.names.lookup y = some .local := by rfl) (hs : ∀ x, foldedSetIterable iter X.env x = pure x := by intro _; rfl) :
    DS X W (.Assign [.Name y py] (.ListComp elt [⟨tg, iter, ifs, 0⟩] scope pos) spos) (sAsg (mLc mi c mt me (own.map (·.2))) (gSet i)) := by
  obtain ⟨wi, p1, k1⟩ := hi
  refine (ps_setLc (tt := tBl X.K W0 mt) (te := tD X.K W0 me) hc hN hy hyl hsw p1 ok hg (fun s H C cl fp => ht s H C cl fp) (fun s H C cl fp => he s H C cl fp) hs).imp fun D σ H ⟨ρ, h, al, rs, rh, q⟩ => lc_imp (W := W) k1 hsl σ H (fun x H1 => gName i x σ H1 D.nx) ⟨ρ, h, al, rs, rh, (PostG.toS rs q).imp ?_⟩
  rintro y H1 ⟨d, h1, al1, e1, rh1, r1, q1⟩
  exact q1 H1 al1 _ Evo.refl rh1 ((rs.evo e1).set i r1)
end

/-! ### defs -/
def startD (N : List Str) (ds : List D) : DEnv := ds.map some ++ List.replicate (N.length - ds.length) none
theorem RVs.somes {K : PySem.W.Frag} {H : Hp} {al : List Addr} : ∀ {ds : List D} {vs : List V}, RVs K H al ds vs → RS K H al (ds.map some) (vs.map some)
  | _, _, .nil => .nil
  | _, _, .cons r t => .cons r (RVs.somes t)
theorem RS.start {K : PySem.W.Frag} {H : Hp} {al : List Addr} {N : List Str} {ds : List D} {vs : List V} (r : RVs K H al ds vs) : RS K H al (startD N ds) (start N vs) := by
  have h2 : ∀ n, RS K H al (List.replicate n none) (List.replicate n none) := fun n => by
    induction n with
    | zero => exact .nil
    | succ n ih => exact .cons trivial ih
  have app : ∀ {l1 l3 : DEnv} {l2 l4 : St}, RS K H al l1 l2 → RS K H al l3 l4 → RS K H al (l1 ++ l3) (l2 ++ l4) := fun {l1 l3 l2 l4} a b => by
    induction a with
    | nil => exact b
    | cons h _ ih => exact .cons h ih
  unfold startD L2.start
  rw [r.length]
  exact app (RVs.somes r) (h2 _)
/-- what a body's end is for the caller -/
def SOut.fin : SOut → Out D
  | .nx _ h => .val .non h
  | .ret d h => .val d h
  | .exc x _ h => .exc x h
  | _ => .bad
/-- one outcome serves for another: garbage may be dropped, places renamed -/
def Serves (o o' : Out D) : Prop := ∀ (K : PySem.W.Frag) (Wx : Value → Option Addr → Hp → Prop) (H : Hp) (al : List Addr) (Q : VK), PostG K (RV K) Wx H al o Q → PostG K (RV K) Wx H al o' Q
theorem Serves.refl {o : Out D} : Serves o o := fun _ _ _ _ _ q => q
theorem Serves.bad {o : Out D} : Serves .bad o := fun _ _ _ _ _ q => q.elim
theorem Serves.of_eq {o o' : Out D} (e : o' = o) : Serves o o' := by subst e; exact .refl
section
variable {P : Program} {w : World} {K : PySem.W.Frag} {mg : Str → Option Value} {base : Heap}
theorem fnok_of {x qual : Str} {st : Stmt} {f : Addr} {fd : FuncData} {N ps : List Str} {k : Nat} {m : SM} {F : List D → DH → Out D} (Fu : Fun K x qual st f fd) (S : FnScope N ps (defScope st))
    (hbody : ∀ (cdv : Value) (A : Around) (outer : List Env) (s : Shared) (H : Hp) (E : XK), Room k (A.deeper (envOfC qual (defScope st) s.heap.objs.size f cdv)) →
      Takes (cxOf (L2.CX P w) P w K mg base N qual (defScope st) f cdv A outer s H E) (fun c d _ H' => E c d H') →
      PassesOwn (model P w) (cxOf (L2.CX P w) P w K mg base N qual (defScope st) f cdv A outer s H E).A (cxOf (L2.CX P w) P w K mg base N qual (defScope st) f cdv A outer s H E).env (cxOf (L2.CX P w) P w K mg base N qual (defScope st) f cdv A outer s H E).xe →
      DSs (cxOf (L2.CX P w) P w K mg base N qual (defScope st) f cdv A outer s H E) (fun c d _ H' => E c d H') (defBody st) m)
    (hF : ∀ ds h, ds.length = ps.length → Serves (F ds h) (m (startD N ds) h).fin) : FnOk P w K mg base (L2.CX P w) (k + 1) f fd ps (spD K ps.length F) := by
  refine Fu.okX S (fun vs H Q E h => h.choose_spec.choose_spec.choose_spec.1) (fun cdv A outer s H vs Q E hr h => ?_)
  obtain ⟨ds, hh, al, hl, r, rh, q⟩ := h
  have hl' : ds.length = ps.length := by rw [r.length]; exact hl
  refine ⟨_, hbody cdv A outer s H E hr (takes_of rfl rfl rfl rfl) (passes_of rfl), startD N ds, hh, al, RS.start r, rh, ?_⟩
  have q2 := hF ds hh hl' K _ H al Q q
  cases e : m (startD N ds) hh with
  | nx ρ h' => rw [e] at q2; exact fun H' al' σ' e' rh' _ => q2 H' al' .non e' rh' .non
  | ret d h' => rw [e] at q2; exact q2
  | exc x ρ h' => rw [e] at q2; exact fun H' al' σ' dd e' rh' _ rx => q2 H' al' dd e' rh' rx
  | bad => rw [e] at q2; exact q2.elim
  | brk ρ h' => rw [e] at q2; exact q2.elim
  | cnt ρ h' => rw [e] at q2; exact q2.elim
theorem fnd_of {y : Str} {f : Addr} {fd : FuncData} {ps : List Str} {k : Nat} {F : List D → DH → Out D} (hm : mg y = some (.ref f)) (hb : Binds K fd ps []) (kp : PySem.W.keepIn K (.ref f) = true) (h : FnOk P w K mg base (L2.CX P w) k f fd ps (spD K ps.length F)) : FnD P w K mg base k y ps F :=
  ⟨⟨f, fd, h, hb, kp, hm⟩⟩
/-- the law's own promise -/
def spLaw (K : PySem.W.Frag) : Sp := fun vs H Q _ => ∃ (a : Addr) (ns : List Int), vs = [.ref a] ∧ SqL K H a (ns.map V.int) ∧ Only H ∧ ns.length ≤ 63 ∧ ∀ H', Q (.bl true) H'
theorem law_of {f : Addr} {fd : FuncData} {x : Str} {k : Nat} {F : List D → DH → Out D} (h : FnOk P w K mg base (L2.CX P w) k f fd [x] (spD K 1 F)) (hl : ∀ ns : List Int, ns.length ≤ 63 → ∃ h', F [.ref 0] [.scr (ns.map D.int)] = .val (.bl true) h') : FnOk P w K mg base (L2.CX P w) k f fd [x] (spLaw K) := by
  refine h.imp fun vs H Q E q => ?_
  obtain ⟨a, ns, rfl, hS, ho, hn, q⟩ := q
  obtain ⟨h', e⟩ := hl ns hn
  have r : RO K H [a] (.scr (ns.map D.int)) a := by
    refine ⟨ns.map V.int, ?_, RVs.of_ints⟩
    rcases hS with (hS | ⟨o, hS⟩) | hS
    · rcases ho a with z | ⟨o, xs, z⟩
      · rw [z] at hS; cases hS
      · rw [z] at hS; cases hS
    · exact .inl ⟨o, hS⟩
    · exact .inr fun H' => .inr hS
  refine ⟨[.ref 0], [.scr (ns.map D.int)], [a], rfl, .cons (.ref rfl) .nil, ⟨rfl, fun n o b e1 e2 => ?_, fun i j b o o' e1 e2 e3 e4 s1 s2 => ?_⟩, ?_⟩
  · cases n with
    | zero => cases e1; cases e2; exact r
    | succ n => cases e2
  · cases i with
    | zero => cases e3; cases s1
    | succ i => cases e1
  · rw [e]
    intro H' al' v _ _ rv
    cases rv
    exact q H'
end
/-- at the end of a call: what was made there and is not handed on is let go -/
theorem Serves.drop {d : D} {h j : DH} (hd : ∀ (K : PySem.W.Frag) (H : Hp) (al al' : List Addr) (v : V), al.length = h.length → RV K H (al ++ al') d v → RV K H al d v) (hj : ∀ (K : PySem.W.Frag) (H : Hp) (al al' : List Addr) (n : Nat) (o : DO) (a : Addr), al.length = h.length → h[n]? = some o → RO K H (al ++ al') o a → RO K H al o a) : True := trivial
end DL

namespace DL
open PySem PySem.Spec PyProof.Rows L2

section
variable {X : Cx} {K : PySem.W.Frag}
theorem ite_post {β γ : Type} {R : Hp → List Addr → β → γ → Prop} {Wx : Value → Option Addr → Hp → Prop} {H : Hp} {al : List Addr} {c : Prop} {inst : Decidable c} {o : Out β} {Q : γ → Hp → Prop} (q : PostG K R Wx H al (if c then o else .bad) Q) : c ∧ PostG K R Wx H al o Q := by
  by_cases h : c
  · rw [if_pos h] at q; exact ⟨h, q⟩
  · rw [if_neg h] at q; exact q.elim
theorem lst_of {H : Hp} {al : List Addr} {h : DH} (rh : RH K H al h) {n : Nat} {a : Addr} {xs : List D} (e : h[n]? = some (.lst xs)) (ha : al[n]? = some a) : ∃ vs, H a = some (.lst vs) ∧ RVs K H al xs vs := rh.obj _ _ _ e ha
theorem list_of {H : Hp} {al : List Addr} {h : DH} (rh : RH K H al h) {n : Nat} {a : Addr} {xs : List D} (e : listAt h n = some xs) (ha : al[n]? = some a) : ∃ vs, SqL K H a vs ∧ RVs K H al xs vs := by
  obtain ⟨a', vs, h1, h2, h3⟩ := rh.list e
  obtain rfl := rv_inj (K := K) (H := H) ha h1
  exact ⟨vs, h2, h3⟩
theorem RVs.nil_of {H : Hp} {al : List Addr} {xs : List D} {vs : List V} (r : RVs K H al xs vs) : xs = [] ↔ vs = [] := by
  cases r with
  | nil => simp
  | cons _ _ => simp

/-! ### + - * // % ** -/
def gAdd (d e : D) (h : DH) : Out D := match d, e with
  | .int i, .int j => .val (.int (i + j)) h
  | .str a, .str b => if a.length + b.length ≤ sizeLine then .val (.str (a ++ b)) h else .bad
  | .tup xs, .tup ys => if xs.length + ys.length ≤ sizeLine then .val (.tup (xs ++ ys)) h else .bad
  | .ref n, .ref m => match h[n]?, h[m]? with
    | some (.lst xs), some (.lst ys) => if xs.length + ys.length ≤ sizeLine then .val (.ref h.length) (h ++ [.lst (xs ++ ys)]) else .bad
    | _, _ => .bad
  | _, _ => .bad
def rAddU (K : PySem.W.Frag) : R2 := fun x y H Q => (rI0 (fun i j => .int (i + j)) x y H Q ∨ ∃ i j, x = .str i ∧ y = .str j ∧ i.length + j.length ≤ sizeLine ∧ Q (.str (i ++ j)) H) ∨ (rCat x y H Q ∨ rCatA K x y H Q)
theorem or_add : OpR X (binaryOp .Add) (rAddU X.K) := (op_add.or op_add_str).or (op_cat.or op_catA)
theorem oc_add : OpC K (rAddU K) gAdd := by
  intro Wx H al h x y d e Q rh r1 r2 q
  unfold gAdd at q
  split at q
  · cases r1; cases r2; exact .inl (.inl ⟨_, _, rfl, rfl, PostG.val q rh .int⟩)
  · cases r1; cases r2; obtain ⟨hz, q⟩ := ite_post q; exact .inl (.inr ⟨_, _, rfl, rfl, hz, PostG.val q rh .str⟩)
  · cases r1 with | tup hs hr => cases r2 with | tup hs2 hr2 =>
    obtain ⟨hz, q⟩ := ite_post q
    refine .inr (.inr ⟨_, _, _, _, rfl, rfl, hs, hs2, by rw [← hr.length, ← hr2.length]; exact hz, fun e => ?_, fun _ e => ?_, fun _ _ p hp => PostG.newTup q rh (hr.append hr2) hp⟩)
    · have e' := hr.nil_of.mpr e; subst e'; exact PostG.val q rh (.tup hs2 (by simpa using hr2))
    · have e' := hr2.nil_of.mpr e; subst e'; exact PostG.val q rh (.tup hs (by simpa using hr))
  · cases r1 with | ref ha => cases r2 with | ref hb =>
    split at q
    · rename_i e1 e2
      obtain ⟨hz, q⟩ := ite_post q
      obtain ⟨vs, h1, r1⟩ := lst_of rh e1 ha
      obtain ⟨ws, h2, r2⟩ := lst_of rh e2 hb
      exact .inr (.inl ⟨_, _, vs, ws, rfl, rfl, h1, h2, by rw [← r1.length, ← r2.length]; exact hz, fun p hp => PostG.newLst q rh (r1.append r2) hp⟩)
    · exact q.elim
  · exact q.elim
open Classical in
/-- an operator of two whole numbers -/
noncomputable def gII (C : Int → Int → Prop) (f : Int → Int → D) (d e : D) (h : DH) : Out D := match d, e with
  | .int i, .int j => if C i j then .val (f i j) h else .bad
  | _, _ => .bad
theorem oc_II {C C' : Int → Int → Prop} {f : Int → Int → D} {g : Int → Int → V} (hf : ∀ i j H al, RV K H al (f i j) (g i j)) (hC : ∀ i j, C i j → C' i j) : OpC K (rI C' g) (gII C f) := by
  intro Wx H al h x y d e Q rh r1 r2 q
  unfold gII at q
  split at q
  · cases r1; cases r2; obtain ⟨hz, q⟩ := ite_post q; exact ⟨_, _, rfl, rfl, hC _ _ hz, PostG.val q rh (hf _ _ _ _)⟩
  · exact q.elim
def gI0 (f : Int → Int → D) (d e : D) (h : DH) : Out D := match d, e with
  | .int i, .int j => .val (f i j) h
  | _, _ => .bad
theorem oc_I0 {f : Int → Int → D} {g : Int → Int → V} (hf : ∀ i j H al, RV K H al (f i j) (g i j)) : OpC K (rI0 g) (gI0 f) := by
  intro Wx H al h x y d e Q rh r1 r2 q
  unfold gI0 at q
  split at q
  · cases r1; cases r2; exact ⟨_, _, rfl, rfl, PostG.val q rh (hf _ _ _ _)⟩
  · exact q.elim
abbrev gSub := gI0 fun i j => .int (i - j)
theorem oc_sub : OpC K (rI0 fun i j => .int (i - j)) gSub := oc_I0 fun _ _ _ _ => .int
/-- one factor is small, or both together are below a million bits -/
def CMulU (i j : Int) : Prop := CMul i j ∨ CMulW i j
theorem op_mulU : OpR X (binaryOp .Mult) (rI CMulU fun i j => .int (i * j)) := opI fun _ _ _ _ _ _ _ hc q => mul_int q (hc.elim (fun z => z.ok) fun z => z.ok)
noncomputable abbrev gMul := gII CMulU fun i j => .int (i * j)
theorem oc_mul : OpC K (rI CMulU fun i j => .int (i * j)) gMul := oc_II (fun _ _ _ _ => .int) fun _ _ h => h
/-- // by any number but 0, below 2 ^ 9000 -/
def CDivG (_ j : Int) : Prop := j ≠ 0 ∧ j.natAbs.log2 < 9000
theorem op_fdivG : OpR X (binaryOp .FloorDiv) (rI CDivG fun i j => .int (i.fdiv j)) := opI fun _ _ _ _ _ _ _ hc q => floordiv_int hc.1 q (.inl (PyProof.noPylong_of_log2 hc.2))
noncomputable abbrev gFdiv := gII CDivG fun i j => .int (i.fdiv j)
theorem oc_fdiv : OpC K (rI CDivG fun i j => .int (i.fdiv j)) gFdiv := oc_II (fun _ _ _ _ => .int) fun _ _ h => h
noncomputable abbrev gMod := gII (fun _ j => 0 < j) fun i j => .int (i % j)
theorem oc_mod : OpC K (rI (fun _ j => 0 < j) fun i j => .int (i % j)) gMod := oc_II (fun _ _ _ _ => .int) fun _ _ h => h
noncomputable abbrev gPow := gII CPow fun i j => .int (i ^ j.toNat)
theorem oc_pow : OpC K (rI CPow fun i j => .int (i ^ j.toNat)) gPow := oc_II (fun _ _ _ _ => .int) fun _ _ h => h
/-- lists times a number, numbers times numbers: * -/
def gNeg (d : D) (h : DH) : Out D := match d with
  | .int i => .val (.int (-i)) h
  | _ => .bad
theorem uc_neg : UnC K (rU fun i => .int (-i)) gNeg := by
  intro Wx H al h x d Q rh r1 q
  unfold gNeg at q
  split at q
  · cases r1; exact ⟨_, rfl, PostG.val q rh .int⟩
  · exact q.elim

/-! ### comparisons -/
/-- < of whole numbers and of texts -/
def gLt (d e : D) (h : DH) : Out D := match d, e with
  | .int i, .int j => .val (.bl (decide (i < j))) h
  | .str a, .str b => .val (.bl (decide (a.cps.toList < b.cps.toList))) h
  | _, _ => .bad
def rLtU : R2 := fun x y H Q => rI0 (fun i j => .bl (decide (i < j))) x y H Q ∨ ∃ i j, x = .str i ∧ y = .str j ∧ Q (.bl (decide (i.cps.toList < j.cps.toList))) H
theorem or_lt : OpR X (compareOp .Lt) rLtU := op_lt.or op_lt_str
theorem oc_lt : OpC K rLtU gLt := by
  intro Wx H al h x y d e Q rh r1 r2 q
  unfold gLt at q
  split at q
  · cases r1; cases r2; exact .inl ⟨_, _, rfl, rfl, PostG.val q rh .bl⟩
  · cases r1; cases r2; exact .inr ⟨_, _, rfl, rfl, PostG.val q rh .bl⟩
  · exact q.elim
abbrev gLe := gI0 fun i j => .bl (decide (i ≤ j))
theorem oc_le : OpC K (rI0 fun i j => .bl (decide (i ≤ j))) gLe := oc_I0 fun _ _ _ _ => .bl
abbrev gGt := gI0 fun i j => .bl (decide (j < i))
theorem oc_gt : OpC K (rI0 fun i j => .bl (decide (j < i))) gGt := oc_I0 fun _ _ _ _ => .bl
abbrev gGe := gI0 fun i j => .bl (decide (j ≤ i))
theorem oc_ge : OpC K (rI0 fun i j => .bl (decide (j ≤ i))) gGe := oc_I0 fun _ _ _ _ => .bl
/-- data as the library's rules of == see them -/
def pdAll (f : D → Option PyData) : List D → Option (List PyData)
  | [] => some []
  | d :: r => match f d, pdAll f r with
    | some p, some ps => some (p :: ps)
    | _, _ => none
def pd (h : DH) : Nat → D → Option PyData
  | _, .non => some .none
  | _, .bl b => some (.bool b)
  | _, .int i => some (.int i)
  | _, .str x => some (.str x)
  | n + 1, .tup ds => (pdAll (pd h n) ds).map .tuple
  | n + 1, .ref m => match listAt h m with
    | some ds => (pdAll (pd h n) ds).map .list
    | none => none
  | _, _ => none
theorem dp_all {H : Hp} {al : List Addr} {f : D → Option PyData} (hf : ∀ d v p, RV K H al d v → f d = some p → Dp K H v p) : ∀ {ds : List D} {vs : List V} {ps : List PyData}, RVs K H al ds vs → pdAll f ds = some ps → DpAll K H vs ps
  | _, _, _, .nil, e => by cases e; exact .nil
  | d :: ds, v :: vs, ps, .cons r t, e => by
    unfold pdAll at e
    split at e
    · rename_i p ps' e1 e2
      cases e
      exact .cons (hf d v p r e1) (dp_all hf t e2)
    · cases e
theorem dp_of {H : Hp} {al : List Addr} {h : DH} (rh : RH K H al h) : ∀ (n : Nat) (d : D) (v : V) (p : PyData), RV K H al d v → pd h n d = some p → Dp K H v p
  | n, .non, _, _, .non, e => by cases n <;> (cases e; exact .non)
  | n, .bl b, _, _, .bl, e => by cases n <;> (cases e; exact .bl b)
  | n, .int b, _, _, .int, e => by cases n <;> (cases e; exact .int b)
  | n, .str b, _, _, .str, e => by cases n <;> (cases e; exact .str b)
  | 0, .tup ds, _, _, _, e => by cases e
  | n + 1, .tup ds, _, p, .tup hs hr, e => by
    have e : (pdAll (pd h n) ds).map PyData.tuple = some p := e
    cases e2 : pdAll (pd h n) ds with
    | none => rw [e2] at e; cases e
    | some ps => rw [e2] at e; cases e; exact .tup hs (dp_all (fun d v p r e => dp_of rh n d v p r e) hr e2)
  | 0, .ref m, _, _, _, e => by cases e
  | n + 1, .ref m, _, p, .ref ha, e => by
    unfold pd at e
    split at e
    · rename_i ds e1
      obtain ⟨vs, hs, hr⟩ := list_of rh e1 ha
      cases e2 : pdAll (pd h n) ds with
      | none => rw [e2] at e; cases e
      | some ps => rw [e2] at e; cases e; exact .lst hs (dp_all (fun d v p r e => dp_of rh n d v p r e) hr e2)
    · cases e
  | 0, .raw _, _, _, _, e => by cases e
  | n + 1, .raw _, _, _, _, e => by cases e
def scalD : D → D → Bool
  | .non, .non => true | .non, .int _ => true | .int _, .non => true | .non, .bl _ => true | .bl _, .non => true | .non, .str _ => true | .str _, .non => true
  | .int _, .int _ => true | .bl _, .bl _ => true | .str _, .str _ => true
  | .int _, .str _ => true | .str _, .int _ => true | .bl _, .str _ => true | .str _, .bl _ => true
  | _, _ => false
/-- == of flat things -/
def eqD : D → D → Bool
  | .non, .non => true
  | .bl a, .bl b => a == b
  | .bl a, .int b => (if a then 1 else 0) == b
  | .int a, .bl b => a == (if b then 1 else 0)
  | .int a, .int b => a == b
  | .str a, .str b => a == b
  | _, _ => false
theorem scal_of {H : Hp} {al : List Addr} {d e : D} {x y : V} (r : RV K H al d x) (r2 : RV K H al e y) (f : scalD d e = true) : scal x y = true ∧ decide (x = y) = eqD d e := by
  cases r <;> cases r2 <;> first | (cases (show false = true from f)) | exact ⟨rfl, dec_int⟩ | exact ⟨rfl, dec_bl⟩ | exact ⟨rfl, dec_str⟩ | exact ⟨rfl, rfl⟩
def gEq (d e : D) (h : DH) : Out D := if scalD d e = true then .val (.bl (eqD d e)) h else match pd h 16 d, pd h 16 e with
  | some p, some r => if SeqAt.shaped p = true ∧ SeqAt.shaped r = true then .val (.bl (PyData.eqv p r)) h else .bad
  | _, _ => .bad
def gNe (d e : D) (h : DH) : Out D := if scalD d e = true then .val (.bl (!eqD d e)) h else match pd h 16 d, pd h 16 e with
  | some p, some r => if SeqAt.shaped p = true ∧ SeqAt.shaped r = true then .val (.bl (!PyData.eqv p r)) h else .bad
  | _, _ => .bad
def rEqU (K : PySem.W.Frag) : R2 := fun x y H Q => rEq x y H Q ∨ rEqD K x y H Q
def rNeU (K : PySem.W.Frag) : R2 := fun x y H Q => rNe x y H Q ∨ rNeD K x y H Q
theorem or_eq (hu : X.A.units + 64 < cLine) : OpR X (compareOp .Eq) (rEqU X.K) := op_eq.or (op_eqD hu)
theorem or_ne (hu : X.A.units + 64 < cLine) : OpR X (compareOp .NotEq) (rNeU X.K) := op_ne.or (op_neD hu)
theorem oc_eq : OpC K (rEqU K) gEq := by
  intro Wx H al h x y d e Q rh r1 r2 q
  unfold gEq at q
  split at q
  · rename_i z
    obtain ⟨z1, z2⟩ := scal_of r1 r2 z
    refine .inl ⟨z1, ?_⟩
    rw [z2]; exact PostG.val q rh .bl
  · split at q
    · rename_i p r e1 e2
      obtain ⟨⟨z1, z2⟩, q⟩ := ite_post q
      exact .inr ⟨p, r, dp_of rh _ _ _ _ r1 e1, dp_of rh _ _ _ _ r2 e2, z1, z2, PostG.val q rh .bl⟩
    · exact q.elim
theorem oc_ne : OpC K (rNeU K) gNe := by
  intro Wx H al h x y d e Q rh r1 r2 q
  unfold gNe at q
  split at q
  · rename_i z
    obtain ⟨z1, z2⟩ := scal_of r1 r2 z
    refine .inl ⟨z1, ?_⟩
    rw [z2]; exact PostG.val q rh .bl
  · split at q
    · rename_i p r e1 e2
      obtain ⟨⟨z1, z2⟩, q⟩ := ite_post q
      exact .inr ⟨p, r, dp_of rh _ _ _ _ r1 e1, dp_of rh _ _ _ _ r2 e2, z1, z2, PostG.val q rh .bl⟩
    · exact q.elim
/-- is None, is True, is False -/
def isNon : D → Bool
  | .non => true
  | _ => false
def gIs (d e : D) (h : DH) : Out D := match d, e with
  | .bl a, .bl b => .val (.bl (decide (a = b))) h
  | .raw _, _ => .bad
  | d, .non => .val (.bl (isNon d)) h
  | _, _ => .bad
def gIsNot (d e : D) (h : DH) : Out D := match d, e with
  | .bl a, .bl b => .val (.bl (!decide (a = b))) h
  | .raw _, _ => .bad
  | d, .non => .val (.bl (!isNon d)) h
  | _, _ => .bad
theorem isNon_of {H : Hp} {al : List Addr} {d : D} {x : V} (r : RV K H al d x) (h : ∀ v, d ≠ .raw v) : isNon d = decide (x = .non) := by
  cases r with
  | raw => exact (h _ rfl).elim
  | _ => simp [isNon]
theorem or_is : OpR X (compareOp .Is) (fun x y H Q => rIsB x y H Q ∨ (y = .non ∧ Q (.bl (decide (x = .non))) H)) := op_isBl.or op_isN
theorem oc_is : OpC K (fun x y H Q => rIsB x y H Q ∨ (y = .non ∧ Q (.bl (decide (x = .non))) H)) gIs := by
  intro Wx H al h x y d e Q rh r1 r2 q
  unfold gIs at q
  split at q
  · cases r1; cases r2; exact .inl ⟨_, _, rfl, rfl, PostG.val q rh .bl⟩
  · exact q.elim
  · rename_i n1 n2
    cases r2
    refine .inr ⟨rfl, ?_⟩
    rw [← isNon_of r1 (by intro v z; subst z; exact n2 _ rfl)]
    exact PostG.val q rh .bl
  · exact q.elim
theorem or_isnot : OpR X (compareOp .IsNot) (fun x y H Q => rNotB x y H Q ∨ (y = .non ∧ Q (.bl (!decide (x = .non))) H)) := op_notBl.or op_notN
theorem oc_isnot : OpC K (fun x y H Q => rNotB x y H Q ∨ (y = .non ∧ Q (.bl (!decide (x = .non))) H)) gIsNot := by
  intro Wx H al h x y d e Q rh r1 r2 q
  unfold gIsNot at q
  split at q
  · cases r1; cases r2; exact .inl ⟨_, _, rfl, rfl, PostG.val q rh .bl⟩
  · exact q.elim
  · rename_i n1 n2
    cases r2
    refine .inr ⟨rfl, ?_⟩
    rw [← isNon_of r1 (by intro v z; subst z; exact n2 _ rfl)]
    exact PostG.val q rh .bl
  · exact q.elim

/-! ### in, not in -/
def flatD : D → Bool
  | .non => true | .bl _ => true | .int _ => true | .str _ => true | _ => false
def inD (x : D) (xs : List D) : Bool := xs.any fun y => eqD y x
theorem flat_of {H : Hp} {al : List Addr} {d : D} {x : V} (r : RV K H al d x) (f : flatD d = true) : flatV x = true := by
  cases r <;> first | rfl | cases f
theorem eqD_of {H : Hp} {al : List Addr} {d e : D} {x y : V} (r : RV K H al d x) (r2 : RV K H al e y) (f : flatD d = true) (f2 : flatD e = true) : eqV x y = eqD d e := by
  cases r <;> cases r2 <;> first | rfl | (cases (show false = true from f)) | (cases (show false = true from f2))
theorem flats_of {H : Hp} {al : List Addr} : ∀ {ds : List D} {xs : List V}, RVs K H al ds xs → ds.all flatD = true → xs.all flatV = true
  | _, _, .nil, _ => rfl
  | _, _, .cons r t, f => by
    rw [List.all_cons, Bool.and_eq_true] at f
    rw [List.all_cons, Bool.and_eq_true]
    exact ⟨flat_of r f.1, flats_of t f.2⟩
theorem inD_of {H : Hp} {al : List Addr} {d : D} {x : V} (r : RV K H al d x) (f : flatD d = true) : ∀ {ds : List D} {xs : List V}, RVs K H al ds xs → ds.all flatD = true → inV x xs = inD d ds
  | _, _, .nil, _ => rfl
  | _, _, .cons r1 t, f1 => by
    rw [List.all_cons, Bool.and_eq_true] at f1
    unfold inV inD
    rw [List.any_cons, List.any_cons, eqD_of r1 r f1.1 f]
    have ih := inD_of r f t f1.2
    unfold inV inD at ih
    rw [ih]
def gInG (neg : Bool) (d e : D) (h : DH) : Out D := match d, e with
  | .str a, .str b => .val (.bl (if neg then !(!(Builtin.Str.occurrences b a 0 b.length 1).isEmpty) else !(Builtin.Str.occurrences b a 0 b.length 1).isEmpty)) h
  | d, .tup ds => if flatD d = true ∧ ds.all flatD = true then .val (.bl (if neg then !inD d ds else inD d ds)) h else .bad
  | d, .ref n => match listAt h n with
    | some ds => if flatD d = true ∧ ds.all flatD = true then .val (.bl (if neg then !inD d ds else inD d ds)) h else .bad
    | none => .bad
  | _, _ => .bad
abbrev gIn := gInG false
abbrev gNotIn := gInG true
def rInStr (neg : Bool) : R2 := fun x y H Q => ∃ i j, x = .str i ∧ y = .str j ∧ Q (.bl (if neg then !(!(Builtin.Str.occurrences j i 0 j.length 1).isEmpty) else !(Builtin.Str.occurrences j i 0 j.length 1).isEmpty)) H
theorem or_in : OpR X (compareOp .In) (fun x y H Q => rInStr false x y H Q ∨ rIn X.K false x y H Q) := (show OpR X (compareOp .In) (rInStr false) from op_in_str).or op_in_seq
theorem or_notin : OpR X (compareOp .NotIn) (fun x y H Q => rInStr true x y H Q ∨ rIn X.K true x y H Q) := (show OpR X (compareOp .NotIn) (rInStr true) from op_notIn_str).or op_notIn_seq
theorem oc_in (neg : Bool) : OpC K (fun x y H Q => rInStr neg x y H Q ∨ rIn K neg x y H Q) (gInG neg) := by
  intro Wx H al h x y d e Q rh r1 r2 q
  unfold gInG at q
  split at q
  · cases r1; cases r2; exact .inl ⟨_, _, rfl, rfl, PostG.val q rh .bl⟩
  · cases r2 with | tup hs hr =>
    obtain ⟨⟨f1, f2⟩, q⟩ := ite_post q
    refine .inr ⟨_, _, rfl, .inr hs, flat_of r1 f1, flats_of hr f2, ?_⟩
    rw [inD_of r1 f1 hr f2]
    exact PostG.val q rh .bl
  · cases r2 with | ref ha =>
    split at q
    · rename_i e1
      obtain ⟨vs, hs, hr⟩ := list_of rh e1 ha
      obtain ⟨⟨f1, f2⟩, q⟩ := ite_post q
      refine .inr ⟨_, _, rfl, .inl hs, flat_of r1 f1, flats_of hr f2, ?_⟩
      rw [inD_of r1 f1 hr f2]
      exact PostG.val q rh .bl
    · exact q.elim
  · exact q.elim

/-! ### items -/
def gIx (d e : D) (h : DH) : Out D := match d, e with
  | .tup ds, .int i => match atI ds i with
    | some x => .val x h
    | none => .bad
  | .str z, .int i => if z.length ≤ sizeLine then (match atI z.cps.toList i with
    | some c => .val (.str ⟨#[c]⟩) h
    | none => .bad) else .bad
  | .ref n, .int i => match listAt h n with
    | some ds => match atI ds i with
      | some x => .val x h
      | none => .bad
    | none => .bad
  | _, _ => .bad
theorem RVs.atI {H : Hp} {al : List Addr} {ds : List D} {vs : List V} (r : RVs K H al ds vs) {i : Int} {d : D} (e : L2.atI ds i = some d) : ∃ v, L2.atI vs i = some v ∧ RV K H al d v := by
  unfold L2.atI at e ⊢
  rw [← r.length]
  cases q : ixN ds.length i with
  | none => rw [q] at e; cases e
  | some j => rw [q] at e; exact r.get (show ds[j]? = some d from e)
theorem oc_ix : OpC K (rIx K) gIx := by
  intro Wx H al h x y d e Q rh r1 r2 q
  unfold gIx at q
  split at q
  · cases r1 with | tup hs hr => cases r2 with | int =>
    split at q
    · rename_i e1
      obtain ⟨v, h1, h2⟩ := hr.atI e1
      exact .inr (.inl ⟨_, _, _, v, rfl, rfl, hs, h1, PostG.val q rh h2⟩)
    · exact q.elim
  · cases r1; cases r2
    obtain ⟨hz, q⟩ := ite_post q
    split at q
    · rename_i e1
      exact .inr (.inr ⟨_, _, _, rfl, rfl, hz, e1, PostG.val q rh .str⟩)
    · exact q.elim
  · cases r1 with | ref ha => cases r2 with | int =>
    split at q
    · rename_i e1
      obtain ⟨vs, hs, hr⟩ := list_of rh e1 ha
      split at q
      · rename_i e2
        obtain ⟨v, h1, h2⟩ := hr.atI e2
        exact .inl ⟨_, _, _, v, rfl, rfl, hs, h1, PostG.val q rh h2⟩
      · exact q.elim
    · exact q.elim
  · exact q.elim

/-! ### slices -/
def cutD (xs : List D) (lo hi : Option Int) : List D := (xs.drop (HT.sIx xs.length 0 lo)).take (HT.sIx xs.length xs.length hi - HT.sIx xs.length 0 lo)
def gSl (d : D) (lo hi : Option Int) (h : DH) : Out D := match d with
  | .tup ds => .val (.tup (cutD ds lo hi)) h
  | .str z => if z.length ≤ sizeLine then .val (.str (cutS z lo hi)) h else .bad
  | .ref n => match listAt h n with
    | some ds => .val (.ref h.length) (h ++ [.lst (cutD ds lo hi)])
    | none => .bad
  | _ => .bad
theorem cutD_of {H : Hp} {al : List Addr} {ds : List D} {vs : List V} (r : RVs K H al ds vs) (lo hi : Option Int) : RVs K H al (cutD ds lo hi) (cutV vs lo hi) := by
  unfold cutD cutV
  rw [r.length]
  exact (r.drop _).take _
def mPN : EM (Option Int) := fun _ h => .val none h
def mPS (ma : EM D) : EM (Option Int) := fun ρ h => (ma ρ h).bind fun d h1 => match d with
  | .int i => .val (some i) h1
  | _ => .bad
def mSl (ma : EM D) (ml mh : EM (Option Int)) : EM D := fun ρ h => (ma ρ h).bind fun d h1 => (ml ρ h1).bind fun lo h2 => (mh ρ h2).bind fun hi h3 => gSl d lo hi h3
abbrev RI' : Hp → List Addr → Option Int → Option Int → Prop := fun _ _ a b => a = b
def DP (X : Cx) (W : WX) (e : Option Expr) (m : EM (Option Int)) : Prop := PO X e (tG X.K RI' W m)
theorem _root_.L2.PO.imp {X : Cx} {e : Option Expr} {t t' : TO} (h : PO X e t) (i : ∀ σ H Q, t' σ H Q → t σ H Q) : PO X e t' := ⟨fun pins s σ H Q I q => h.run pins s σ H Q I (i σ H Q q)⟩
variable {W : WX} {a e : Expr} {lo hi : Option Expr} {ma : EM D} {ml mh : EM (Option Int)} {pos p2 : Pos}
theorem dp_none : DP X W none mPN := po_none.imp fun σ H Q ⟨ρ, h, al, rs, rh, q⟩ => PostG.val (R := RI') q rh rfl
theorem dp_some (h : DE X W e ma) : DP X W (some e) (mPS ma) := by
  refine (po_some h).imp fun σ H Q ⟨ρ, h, al, rs, rh, q⟩ => ⟨ρ, h, al, rs, rh, (PostG.bind q).imp ?_⟩
  rintro x H1 ⟨d, h1, al1, e1, rh1, r1, q1⟩
  cases r1 with
  | int => exact ⟨_, rfl, PostG.val (R := RI') q1 rh1 rfl⟩
  | _ => exact q1.elim
theorem de_slice (he : DE X W a ma) (hl : DP X W lo ml) (hu : DP X W hi mh) : DE X W (.Subscript a (.Slice lo hi none p2) pos) (mSl ma ml mh) := by
  refine (pe_slice (sl_list.or (sl_tupA.or sl_str)) he hl hu).imp fun σ H Q ⟨ρ, h, al, rs, rh, q⟩ => ⟨ρ, h, al, rs, rh, (PostG.bind q).imp ?_⟩
  rintro x H1 ⟨d, h1, al1, e1, rh1, r1, q1⟩
  refine ⟨ρ, h1, al1, rs.evo e1, rh1, (PostG.bind q1).imp ?_⟩
  rintro l H2 ⟨l', h2, al2, e2, rh2, rl, q2⟩
  have rl : l' = l := rl
  subst rl
  refine ⟨ρ, h2, al2, (rs.evo e1).evo e2, rh2, (PostG.bind q2).imp ?_⟩
  rintro u H3 ⟨u', h3, al3, e3, rh3, ru, q3⟩
  have ru : u' = u := ru
  subst ru
  have r3 := r1.evo (e2.trans e3)
  unfold gSl at q3
  split at q3
  · cases r3 with | @tup aa vs ds hs hr =>
    refine .inr (.inl ⟨_, _, rfl, hs, fun w => ?_, fun _ p hp => PostG.newTup q3 rh3 (cutD_of hr _ _) hp⟩)
    refine PostG.val q3 rh3 (.tup hs ?_)
    unfold cutD
    rw [hr.length, w.1, w.2, ← hr.length]
    simpa using hr
  · cases r3
    obtain ⟨hz, q3⟩ := ite_post q3
    exact .inr (.inr ⟨_, rfl, hz, PostG.val q3 rh3 .str⟩)
  · cases r3 with | ref ha =>
    split at q3
    · rename_i e5
      obtain ⟨vs, hs, hr⟩ := list_of rh3 e5 ha
      exact .inl ⟨_, _, rfl, hs, fun p hp => PostG.newLst q3 rh3 (cutD_of hr _ _) hp⟩
    · exact q3.elim
  · exact q3.elim
end
end DL

namespace DL
open PySem PySem.Spec PyProof.Rows L2

section
variable {X : Cx} {K : PySem.W.Frag} {W : WX}
theorem ite_postI {c : Prop} {inst : Decidable c} {H : Hp} {al : List Addr} {Wx : Value → Option Addr → Hp → Prop} {o : Out D} {Q : VK} (q : PostG K (RV K) Wx H al (if c then o else .bad) Q) : c ∧ PostG K (RV K) Wx H al o Q := ite_post q
/-! ### built-in functions -/
def gLen (ds : List D) (h : DH) : Out D := match ds with
  | [.tup xs] => .val (.int xs.length) h
  | [.str z] => if z.length ≤ sizeLine then .val (.int z.length) h else .bad
  | [.ref n] => match h[n]? with
    | some (.lst xs) => .val (.int xs.length) h
    | some (.scr xs) => .val (.int xs.length) h
    | _ => .bad
  | _ => .bad
theorem cc_len : CallC K (fun xs H Q => ∃ x n, xs = [x] ∧ LenV K x H n ∧ Q (.int n) H) gLen := by
  intro Wx H al h xs ds Q rh r q
  unfold gLen at q
  split at q
  · cases r with | cons r t => cases t; cases r with | tup hs hr =>
    exact ⟨_, _, rfl, .inr ⟨_, hs, hr.length⟩, PostG.val q rh .int⟩
  · cases r with | cons r t =>
    cases t; cases r
    obtain ⟨hz, q⟩ := ite_post q
    exact ⟨_, _, rfl, ⟨hz, rfl⟩, PostG.val q rh .int⟩
  · cases r with | cons r t => cases t; cases r with | ref ha =>
    split at q
    · rename_i e
      obtain ⟨vs, hs, hr⟩ := list_of rh (show listAt h _ = some _ by unfold listAt; rw [e]) ha
      exact ⟨_, _, rfl, .inl ⟨_, hs, hr.length⟩, PostG.val q rh .int⟩
    · rename_i e
      obtain ⟨vs, hs, hr⟩ := list_of rh (show listAt h _ = some _ by unfold listAt; rw [e]) ha
      exact ⟨_, _, rfl, .inl ⟨_, hs, hr.length⟩, PostG.val q rh .int⟩
    · exact q.elim
  · exact q.elim
def gAbs (ds : List D) (h : DH) : Out D := match ds with
  | [.int i] => .val (.int (if i < 0 then -i else i)) h
  | _ => .bad
theorem cc_abs : CallC K (fun xs H Q => ∃ i, xs = [.int i] ∧ Q (.int (if i < 0 then -i else i)) H) gAbs := by
  intro Wx H al h xs ds Q rh r q
  unfold gAbs at q
  split at q
  · cases r with | cons r t => cases t; cases r; exact ⟨_, rfl, PostG.val q rh .int⟩
  · exact q.elim
def gMax2 (ds : List D) (h : DH) : Out D := match ds with
  | [.int i, .int j] => .val (.int (if j > i then j else i)) h
  | _ => .bad
theorem cc_max2 : CallC K (fun xs H Q => ∃ i j, xs = [.int i, .int j] ∧ Q (.int (if j > i then j else i)) H) gMax2 := by
  intro Wx H al h xs ds Q rh r q
  unfold gMax2 at q
  split at q
  · cases r with | cons r t => cases t with | cons r2 t => cases t; cases r; cases r2; exact ⟨_, _, rfl, PostG.val q rh .int⟩
  · exact q.elim
def gMin2 (ds : List D) (h : DH) : Out D := match ds with
  | [.int i, .int j] => .val (.int (if j < i then j else i)) h
  | _ => .bad
theorem cc_min2 : CallC K (fun xs H Q => ∃ i j, xs = [.int i, .int j] ∧ Q (.int (if j < i then j else i)) H) gMin2 := by
  intro Wx H al h xs ds Q rh r q
  unfold gMin2 at q
  split at q
  · cases r with | cons r t => cases t with | cons r2 t => cases t; cases r; cases r2; exact ⟨_, _, rfl, PostG.val q rh .int⟩
  · exact q.elim
/-- int(n), int(flag) -/
def gInt1 (ds : List D) (h : DH) : Out D := match ds with
  | [.int i] => .val (.int i) h
  | [.bl k] => .val (.int (if k then 1 else 0)) h
  | _ => .bad
theorem cc_int1 : CallC K (fun xs H Q => (∃ i, xs = [.int i] ∧ Q (.int i) H) ∨ ∃ k, xs = [.bl k] ∧ Q (.int (if k then 1 else 0)) H) gInt1 := by
  intro Wx H al h xs ds Q rh r q
  unfold gInt1 at q
  split at q
  · cases r with | cons r t => cases t; cases r; exact .inl ⟨_, rfl, PostG.val q rh .int⟩
  · cases r with | cons r t => cases t; cases r; exact .inr ⟨_, rfl, PostG.val q rh .int⟩
  · exact q.elim
def gListOf (ds : List D) (h : DH) : Out D := match ds with
  | [.tup xs] => .val (.ref h.length) (h ++ [.lst xs])
  | [.ref n] => match listAt h n with
    | some xs => .val (.ref h.length) (h ++ [.lst xs])
    | none => .bad
  | _ => .bad
theorem cc_listOf : CallC K (fun xs H Q => ∃ p ys, xs = [.ref p] ∧ (SqL K H p ys ∨ SqT K H p ys) ∧ ∀ l, H l = none → Q (.ref l) (upd H l (.lst ys))) gListOf := by
  intro Wx H al h xs ds Q rh r q
  unfold gListOf at q
  split at q
  · cases r with | cons r t => cases t; cases r with | tup hs hr =>
    exact ⟨_, _, rfl, .inr hs, fun l hl => PostG.newLst q rh hr hl⟩
  · cases r with | cons r t => cases t; cases r with | ref ha =>
    split at q
    · rename_i e
      obtain ⟨vs, hs, hr⟩ := list_of rh e ha
      exact ⟨_, _, rfl, .inl hs, fun l hl => PostG.newLst q rh hr hl⟩
    · exact q.elim
  · exact q.elim
def gTupOf (ds : List D) (h : DH) : Out D := match ds with
  | [.tup xs] => .val (.tup xs) h
  | [.ref n] => match listAt h n with
    | some xs => .val (.tup xs) h
    | none => .bad
  | _ => .bad
theorem cc_tupOf : CallC K (fun xs H Q => ∃ p ys, xs = [.ref p] ∧ ((SqL K H p ys ∧ ∀ l, H l = none → Q (.ref l) (upd H l (.tup ys))) ∨ (SqT K H p ys ∧ Q (.ref p) H))) gTupOf := by
  intro Wx H al h xs ds Q rh r q
  unfold gTupOf at q
  split at q
  · cases r with | cons r t => cases t; cases r with | tup hs hr =>
    exact ⟨_, _, rfl, .inr ⟨hs, PostG.val q rh (.tup hs hr)⟩⟩
  · cases r with | cons r t => cases t; cases r with | ref ha =>
    split at q
    · rename_i e
      obtain ⟨vs, hs, hr⟩ := list_of rh e ha
      exact ⟨_, _, rfl, .inl ⟨hs, fun l hl => PostG.newTup q rh hr hl⟩⟩
    · exact q.elim
  · exact q.elim
/-- isinstance against a built-in type -/
def tyR : Option DO → Option String
  | some (.lst _) => some "list"
  | some (.dk _) => some "dict"
  | some (.dt _) => some "dict"
  | some (.scr _) => some "list"
  | _ => none
def tyD (h : DH) : D → Option String
  | .non => some "NoneType"
  | .bl _ => some "bool"
  | .int _ => some "int"
  | .str _ => some "str"
  | .tup _ => some "tuple"
  | .ref n => tyR h[n]?
  | .raw _ => none
def gIsTy (ds : List D) (h : DH) : Out D := match ds with
  | [d, .raw (.ty T)] => match tyD h d with
    | some t => match kitB t T with
      | some b => .val (.bl b) h
      | none => .bad
    | none => .bad
  | _ => .bad
theorem ty_of {H : Hp} {al : List Addr} {h : DH} (rh : RH K H al h) {d : D} {x : V} (r : RV K H al d x) {t : String} (e : tyD h d = some t) : TyX K H x (.type t) := by
  cases r with
  | non => cases e; exact .base .non
  | bl => cases e; exact .base (.bl _)
  | int => cases e; exact .base (.int _)
  | str => cases e; exact .base (.str _)
  | raw => cases e
  | tup hs hr =>
    cases e
    rcases hs with (hs | ⟨o, hs⟩) | ⟨o, its, n, h1, h2, _⟩
    · exact .base (.tup hs)
    · exact .fTuple hs
    · exact .kTuple h1 h2
  | ref ha =>
    rename_i n a
    have e : tyR h[n]? = some t := e
    cases e1 : h[n]? with
    | none => rw [e1] at e; cases e
    | some o =>
      rw [e1] at e
      cases o with
      | lst ds => cases e; obtain ⟨vs, h1, _⟩ := rh.obj _ _ _ e1 ha; exact .base (.lst h1)
      | dk ds => cases e; obtain ⟨vs, h1, _⟩ := rh.obj _ _ _ e1 ha; exact .base (.dK h1)
      | dt ds => cases e; obtain ⟨vs, h1, _⟩ := rh.obj _ _ _ e1 ha; exact .base (.dT h1)
      | ins C fs => cases e
      | scr ds =>
        cases e
        obtain ⟨vs, h1, _⟩ := rh.obj _ _ _ e1 ha
        rcases h1 with ⟨o, h1⟩ | h1
        · exact .base (.frz h1)
        · rcases h1 (fun _ => none) with (h1 | ⟨o, h1⟩) | ⟨o, its, n, h1, h2, _⟩
          · cases h1
          · cases h1
          · exact .kList h1 h2
theorem cc_isTy : CallC K (rIsi K) gIsTy := by
  intro Wx H al h xs ds Q rh r q
  unfold gIsTy at q
  split at q
  · cases r with | cons r t => cases t with | cons r2 t =>
    cases t; cases r2
    split at q
    · rename_i e1
      split at q
      · rename_i e2
        exact ⟨_, _, _, _, _, rfl, .ty _, ty_of rh r e1, kit_ty e2, PostG.val q rh .bl⟩
      · exact q.elim
    · exact q.elim
  · exact q.elim
/-- str of a whole number -/
def gStr1 (ds : List D) (h : DH) : Out D := match ds with
  | [.int i] => if i.natAbs.log2 < 1920 then .val (.str (toString i)) h else .bad
  | _ => .bad
theorem cc_str1 : CallC K (fun xs H Q => ∃ i, xs = [.int i] ∧ i.natAbs.log2 < 1920 ∧ Q (.str (toString i)) H) gStr1 := by
  intro Wx H al h xs ds Q rh r q
  unfold gStr1 at q
  split at q
  · cases r with | cons r t =>
    cases t; cases r
    obtain ⟨hz, q⟩ := ite_post q
    exact ⟨_, rfl, hz, PostG.val q rh .str⟩
  · exact q.elim

/-! ### methods of texts -/
def MtC (K : PySem.W.Frag) (r : V → List V → Hp → VK → Prop) (g : D → List D → DH → Out D) : Prop :=
  ∀ (Wx : Value → Option Addr → Hp → Prop) (H : Hp) (al : List Addr) (h : DH) (x : V) (d : D) (xs : List V) (ds : List D) (Q : VK), RH K H al h → RV K H al d x → RVs K H al ds xs → PostG K (RV K) Wx H al (g d ds h) Q → r x xs H Q
variable {a e o : Expr} {es : List Expr} {ma mb : EM D} {mr : EM (List D)} {pos apos : Pos}
def isStrD : D → Bool
  | .str _ => true
  | _ => false
def mM0 (g : D → List D → DH → Out D) (ma : EM D) : EM D := fun ρ h => (ma ρ h).bind fun d h1 => if isStrD d = true then g d [] h1 else .bad
def mM1 (g : D → List D → DH → Out D) (ma mb : EM D) : EM D := fun ρ h => (ma ρ h).bind fun d h1 => if isStrD d = true then (mb ρ h1).bind fun e h2 => g d [e] h2 else .bad
theorem de_m0 {id : String} {name : Str} {r : V → List V → Hp → VK → Prop} {g : D → List D → DH → Out D} (slot : Slot "str" name id) (ty : typeOf (.builtin id) = pure (.type "method_descriptor")) (rule : MtR X id r) (hc : MtC X.K r g) (ho : DE X W o ma)
    (hbase : attributeBase o name X.env (eval o X.env) = eval o X.env := by rfl) (hline : (apos.endLine == pos.line) = true := by rfl) : DE X W (.Call (.Attribute o name apos) [] [] pos) (mM0 g ma) := by
  refine (pe_m0 slot ty rule ho hbase hline).imp fun σ H Q ⟨ρ, h, al, rs, rh, q⟩ => ⟨ρ, h, al, rs, rh, (PostG.bind q).imp ?_⟩
  rintro x H1 ⟨d, h1, al1, e1, rh1, r1, q1⟩
  obtain ⟨z, q1⟩ := ite_post q1
  refine ⟨?_, hc _ H1 al1 h1 x d [] [] Q rh1 r1 .nil q1⟩
  cases r1 <;> first | exact ⟨_, rfl⟩ | cases z
theorem de_m1 {id : String} {name : Str} {r : V → List V → Hp → VK → Prop} {g : D → List D → DH → Out D} (slot : Slot "str" name id) (ty : typeOf (.builtin id) = pure (.type "method_descriptor")) (rule : MtR X id r) (hc : MtC X.K r g) (ho : DE X W o ma) (he : DE X W e mb)
    (hs : starEach [e] X.env = [(false, eval e X.env)] := by rfl) (hbase : attributeBase o name X.env (eval o X.env) = eval o X.env := by rfl) (hline : (apos.endLine == pos.line) = true := by rfl) : DE X W (.Call (.Attribute o name apos) [e] [] pos) (mM1 g ma mb) := by
  refine (pe_m1 slot ty rule ho he hs hbase hline).imp fun σ H Q ⟨ρ, h, al, rs, rh, q⟩ => ⟨ρ, h, al, rs, rh, (PostG.bind q).imp ?_⟩
  rintro x H1 ⟨d, h1, al1, e1, rh1, r1, q1⟩
  obtain ⟨z, q1⟩ := ite_post q1
  refine ⟨?_, ρ, h1, al1, rs.evo e1, rh1, (PostG.bind q1).imp ?_⟩
  · cases r1 <;> first | exact ⟨_, rfl⟩ | cases z
  · rintro y H2 ⟨e, h2, al2, e2, rh2, r2, q2⟩
    exact hc _ H2 al2 h2 x d [y] [e] Q rh2 (r1.evo e2) (.cons r2 .nil) q2
def strsOf : List D → Option (List Str)
  | [] => some []
  | .str x :: r => (strsOf r).map (x :: ·)
  | _ => none
theorem strsOf_map : ∀ ys : List Str, strsOf (ys.map D.str) = some ys
  | [] => rfl
  | y :: r => by
    show (strsOf (r.map D.str)).map (y :: ·) = _
    rw [strsOf_map r]; rfl
theorem strsOf_of {H : Hp} {al : List Addr} : ∀ {ds : List D} {vs : List V} {ys : List Str}, RVs K H al ds vs → strsOf ds = some ys → vs = ys.map V.str
  | _, _, _, .nil, e => by cases e; rfl
  | d :: ds, v :: vs, ys, .cons r t, e => by
    cases r with
    | str =>
      rename_i x
      have e : (strsOf ds).map (x :: ·) = some ys := e
      cases e2 : strsOf ds with
      | none => rw [e2] at e; cases e
      | some zs => rw [e2] at e; cases e; rw [strsOf_of t e2]; rfl
    | _ => cases e
def gJoin (d : D) (es : List D) (h : DH) : Out D := match d, es with
  | .str a, [.tup ds] => match strsOf ds with
    | some ys => if (ys.map (·.length)).sum + ys.length * a.length ≤ 16777216 then .val (.str (Txt.join a ys)) h else .bad
    | none => .bad
  | .str a, [.ref n] => match (listAt h n).bind strsOf with
    | some ys => if (ys.map (·.length)).sum + ys.length * a.length ≤ 16777216 then .val (.str (Txt.join a ys)) h else .bad
    | none => .bad
  | _, _ => .bad
theorem tc_join : MtC K (fun x xs H Q => ∃ a p, ∃ ys : List Str, x = .str a ∧ xs = [.ref p] ∧ (SqL K H p (ys.map V.str) ∨ SqT K H p (ys.map V.str)) ∧
    (ys.map (·.length)).sum + ys.length * a.length ≤ 16777216 ∧ Q (.str (Txt.join a ys)) H) gJoin := by
  intro Wx H al h x d xs ds Q rh r rs q
  unfold gJoin at q
  split at q
  · cases r; cases rs with | cons r t => cases t; cases r with | tup hs hr =>
    split at q
    · rename_i e
      obtain ⟨hz, q⟩ := ite_post q
      have := strsOf_of hr e
      subst this
      exact ⟨_, _, _, rfl, rfl, .inr hs, hz, PostG.val q rh .str⟩
    · exact q.elim
  · cases r; cases rs with | cons r t => cases t; cases r with | ref ha =>
    split at q
    · rename_i e
      obtain ⟨hz, q⟩ := ite_post q
      obtain ⟨zs, e1, e2⟩ := Option.bind_eq_some_iff.mp e
      obtain ⟨vs, hs, hr⟩ := list_of rh e1 ha
      have := strsOf_of hr e2
      subst this
      exact ⟨_, _, _, rfl, rfl, .inl hs, hz, PostG.val q rh .str⟩
    · exact q.elim
  · exact q.elim
def gSplit (d : D) (es : List D) (h : DH) : Out D := match d, es with
  | .str a, [.str b] => if (b.length == 0) = false ∧ a.length + 2 ≤ sizeLine then .val (.ref h.length) (h ++ [.lst ((Txt.split a b).map D.str)]) else .bad
  | _, _ => .bad
theorem tc_split : MtC K (fun x xs H Q => ∃ a b, x = .str a ∧ xs = [.str b] ∧ (b.length == 0) = false ∧ a.length + 2 ≤ sizeLine ∧ rNewStrs (Txt.split a b) H Q) gSplit := by
  intro Wx H al h x d xs ds Q rh r rs q
  unfold gSplit at q
  split at q
  · cases r; cases rs with | cons r t =>
    cases t; cases r
    obtain ⟨⟨h1, h2⟩, q⟩ := ite_post q
    exact ⟨_, _, rfl, rfl, h1, h2, fun p hp => PostG.newLst q rh RVs.of_strs hp⟩
  · exact q.elim
def gLower (d : D) (es : List D) (h : DH) : Out D := match d, es with
  | .str a, [] => if a.length ≤ 5592405 then .val (.str (Txt.lower a)) h else .bad
  | _, _ => .bad
theorem tc_lower : MtC K (fun x xs H Q => ∃ a, x = .str a ∧ xs = [] ∧ a.length ≤ 5592405 ∧ Q (.str (Txt.lower a)) H) gLower := by
  intro Wx H al h x d xs ds Q rh r rs q
  unfold gLower at q
  split at q
  · cases r; cases rs; obtain ⟨hz, q⟩ := ite_post q; exact ⟨_, rfl, rfl, hz, PostG.val q rh .str⟩
  · exact q.elim
def gUpper (d : D) (es : List D) (h : DH) : Out D := match d, es with
  | .str a, [] => if a.length ≤ 5592405 then .val (.str (Txt.upper a)) h else .bad
  | _, _ => .bad
theorem tc_upper : MtC K (fun x xs H Q => ∃ a, x = .str a ∧ xs = [] ∧ a.length ≤ 5592405 ∧ Q (.str (Txt.upper a)) H) gUpper := by
  intro Wx H al h x d xs ds Q rh r rs q
  unfold gUpper at q
  split at q
  · cases r; cases rs; obtain ⟨hz, q⟩ := ite_post q; exact ⟨_, rfl, rfl, hz, PostG.val q rh .str⟩
  · exact q.elim
def gStarts (d : D) (es : List D) (h : DH) : Out D := match d, es with
  | .str a, [.str b] => .val (.bl (Txt.startswith a b)) h
  | _, _ => .bad
theorem tc_starts : MtC K (fun x xs H Q => ∃ a b, x = .str a ∧ xs = [.str b] ∧ Q (.bl (Txt.startswith a b)) H) gStarts := by
  intro Wx H al h x d xs ds Q rh r rs q
  unfold gStarts at q
  split at q
  · cases r; cases rs with | cons r t => cases t; cases r; exact ⟨_, _, rfl, rfl, PostG.val q rh .bl⟩
  · exact q.elim
def gPartition (d : D) (es : List D) (h : DH) : Out D := match d, es with
  | .str a, [.str b] => if (b.length == 0) = false ∧ a.length ≤ sizeLine then .val (.tup [.str (Txt.partition a b).1, .str (Txt.partition a b).2.1, .str (Txt.partition a b).2.2]) h else .bad
  | _, _ => .bad
theorem tc_partition : MtC K (fun x xs H Q => ∃ a b, x = .str a ∧ xs = [.str b] ∧ (b.length == 0) = false ∧ a.length ≤ sizeLine ∧
    ∀ p, H p = none → Q (.ref p) (upd H p (.tup [.str (Txt.partition a b).1, .str (Txt.partition a b).2.1, .str (Txt.partition a b).2.2]))) gPartition := by
  intro Wx H al h x d xs ds Q rh r rs q
  unfold gPartition at q
  split at q
  · cases r; cases rs with | cons r t =>
    cases t; cases r
    obtain ⟨⟨h1, h2⟩, q⟩ := ite_post q
    exact ⟨_, _, rfl, rfl, h1, h2, fun p hp => PostG.newTup q rh (.cons .str (.cons .str (.cons .str .nil))) hp⟩
  · exact q.elim

/-! ### methods of lists -/
def mBM (g : D → List D → DH → Out D) (ma : EM D) (mr : EM (List D)) : EM D := fun ρ h => (ma ρ h).bind fun d h1 => match d with
  | .ref n => match h1[n]? with
    | some (.lst _) => (mr ρ h1).bind fun es h2 => g d es h2
    | _ => .bad
  | _ => .bad
def mBM0 (g : D → List D → DH → Out D) (ma : EM D) : EM D := fun ρ h => (ma ρ h).bind fun d h1 => match d with
  | .ref n => match h1[n]? with
    | some (.lst _) => g d [] h1
    | _ => .bad
  | _ => .bad
theorem de_bm {id : String} {name : Str} {r : V → List V → Hp → VK → Prop} {g : D → List D → DH → Out D} (slot : Slot "list" name id) (ty : typeOf (.builtin id) = pure (.type "method_descriptor")) (rule : MtR X id r) (hc : MtC X.K r g)
    (hp : ∀ {t : TA} {to : TE}, PE X o to → PA X (e :: es) t → PE X a (tBM X.K "list" r to t)) (ho : DE X W o ma) (ha : DA X W (e :: es) mr) : DE X W a (mBM g ma mr) := by
  refine (hp ho ha).imp fun σ H Q ⟨ρ, h, al, rs, rh, q⟩ => ⟨ρ, h, al, rs, rh, (PostG.bind q).imp ?_⟩
  rintro x H1 ⟨d, h1, al1, e1, rh1, r1, q1⟩
  cases r1 with
  | ref ha =>
    dsimp only at q1
    split at q1
    · rename_i e0
      obtain ⟨vs, hv, hr⟩ := lst_of rh1 e0 ha
      refine ⟨.inl ⟨rfl, _, SqL.of hv⟩, ρ, h1, al1, rs.evo e1, rh1, (PostG.bind q1).imp ?_⟩
      rintro ys H2 ⟨es, h2, al2, e2, rh2, r2, q2⟩
      exact hc _ H2 al2 h2 _ _ ys es Q rh2 (.ref (e2.at ha)) r2 q2
    · exact q1.elim
  | _ => exact q1.elim
theorem de_bm0 {id : String} {name : Str} {r : V → List V → Hp → VK → Prop} {g : D → List D → DH → Out D} (slot : Slot "list" name id) (ty : typeOf (.builtin id) = pure (.type "method_descriptor")) (rule : MtR X id r) (hc : MtC X.K r g)
    (hp : ∀ {to : TE}, PE X o to → PE X a (tBM0 X.K "list" r to)) (ho : DE X W o ma) : DE X W a (mBM0 g ma) := by
  refine (hp ho).imp fun σ H Q ⟨ρ, h, al, rs, rh, q⟩ => ⟨ρ, h, al, rs, rh, (PostG.bind q).imp ?_⟩
  rintro x H1 ⟨d, h1, al1, e1, rh1, r1, q1⟩
  cases r1 with
  | ref ha =>
    dsimp only at q1
    split at q1
    · rename_i e0
      obtain ⟨vs, hv, hr⟩ := lst_of rh1 e0 ha
      exact ⟨.inl ⟨rfl, _, SqL.of hv⟩, hc _ H1 al1 h1 _ _ [] [] Q rh1 (.ref ha) .nil q1⟩
    · exact q1.elim
  | _ => exact q1.elim
/-- a list is changed -/
theorem PostG.putLst {Wx : Value → Option Addr → Hp → Prop} {H : Hp} {al : List Addr} {h : DH} {n : Nat} {a : Addr} {o : DO} {ds : List D} {vs : List V} {d : D} {v : V} {Q : VK} (q : PostG K (RV K) Wx H al (.val d (h.set n (.lst ds))) Q) (rh : RH K H al h) (e : h[n]? = some o) (ns : o.isScr = false) (ha : al[n]? = some a) (r : RVs K H al ds vs) (rv : RV K H al d v) : Q v (upd H a (.lst vs)) := by
  obtain ⟨w, hw, mw⟩ := (rh.obj n o a e ha).mut ns
  have ev : Evo K H al (upd H a (.lst vs)) al := Evo.write hw mw
  exact q _ al _ ev (rh.write e ha ns rfl ⟨vs, upd_same, r.evo ev⟩) (rv.evo ev)
def gAppend (d : D) (es : List D) (h : DH) : Out D := match d, es with
  | .ref n, [y] => match h[n]? with
    | some (.lst xs) => if xs.length < sizeLine then .val .non (h.set n (.lst (xs ++ [y]))) else .bad
    | _ => .bad
  | _, _ => .bad
theorem tc_append : MtC K rAppend gAppend := by
  intro Wx H al h x d xs ds Q rh r rs q
  unfold gAppend at q
  split at q
  · cases r with | ref ha => cases rs with | cons r t =>
    cases t
    split at q
    · rename_i e
      obtain ⟨hz, q⟩ := ite_post q
      obtain ⟨vs, hv, hr⟩ := lst_of rh e ha
      exact ⟨_, vs, _, rfl, rfl, hv, by rw [← hr.length]; exact hz, PostG.putLst q rh e rfl ha (hr.snoc r) .non⟩
    · exact q.elim
  · exact q.elim
def gPop (d : D) (es : List D) (h : DH) : Out D := match d, es with
  | .ref n, [] => match h[n]? with
    | some (.lst xs) => match xs[xs.length - 1]? with
      | some y => .val y (h.set n (.lst xs.dropLast))
      | none => .bad
    | _ => .bad
  | _, _ => .bad
theorem tc_pop : MtC K rPop gPop := by
  intro Wx H al h x d xs ds Q rh r rs q
  unfold gPop at q
  split at q
  · cases r with | ref ha =>
    cases rs
    split at q
    · rename_i e
      obtain ⟨vs, hv, hr⟩ := lst_of rh e ha
      split at q
      · rename_i e2
        obtain ⟨v, h1, h2⟩ := hr.get e2
        exact ⟨_, vs, v, rfl, rfl, hv, by rw [← hr.length]; exact h1, PostG.putLst q rh e rfl ha hr.dropLast h2⟩
      · exact q.elim
    · exact q.elim
  · exact q.elim
def gClear (d : D) (es : List D) (h : DH) : Out D := match d, es with
  | .ref n, [] => match h[n]? with
    | some (.lst xs) => .val .non (h.set n (.lst []))
    | _ => .bad
  | _, _ => .bad
theorem tc_clear : MtC K rClear gClear := by
  intro Wx H al h x d xs ds Q rh r rs q
  unfold gClear at q
  split at q
  · cases r with | ref ha =>
    cases rs
    split at q
    · rename_i e
      obtain ⟨vs, hv, hr⟩ := lst_of rh e ha
      exact ⟨_, vs, rfl, rfl, hv, PostG.putLst q rh e rfl ha .nil .non⟩
    · exact q.elim
  · exact q.elim
/-! ### a dict of the module, its keys texts -/
open Classical in
noncomputable def gKD (a : Addr) (f : Str → Option D) (d e : D) (h : DH) : Out D := match d, e with
  | .raw v, .str z => if v = .ref a then (match f z with
    | some y => .val y h
    | none => .bad) else .bad
  | _, _ => .bad
theorem oc_kd {w : World} {ad : Addr} {f : Str → Option D} (hf : ∀ z y, f z = some y → ∃ v, KDct K w ad z v ∧ ∀ H al, RV K H al y v) : OpC K (rIxD K w) (gKD ad f) := by
  intro Wx H al h x y d e Q rh r1 r2 q
  unfold gKD at q
  split at q
  · cases r1; cases r2
    obtain ⟨hz, q⟩ := ite_post q
    split at q
    · rename_i e1
      obtain ⟨v, h1, h2⟩ := hf _ _ e1
      exact ⟨ad, _, v, hz, rfl, h1, PostG.val q rh (h2 H al)⟩
    · exact q.elim
  · exact q.elim
end
end DL

namespace DL
open PySem PySem.Spec PyProof.Rows L2

section
variable {X : Cx} {K : PySem.W.Frag} {W : WX} {a e o : Expr} {es : List Expr} {ma mb : EM D} {mr : EM (List D)} {pos apos : Pos}
/-- raise C('..') of a class without fields -/
def sRaise (cls : Value) : SM := fun ρ h => .exc ⟨cls, []⟩ ρ h
theorem ds_raise {C : Addr} (hp : PS X (.Raise (some e) none pos) (fun _ σ H => W (.ref C) none σ H)) : DS X W (.Raise (some e) none pos) (sRaise (.ref C)) :=
  hp.imp fun D σ H ⟨ρ, h, al, rs, rh, q⟩ => q H al σ none Evo.refl rh rs (.inl ⟨rfl, rfl⟩)
/-- behind a suite: the caught one's name is gone -/
def sufx (i : Nat) : SOut → SOut
  | .nx ρ h => .nx (ρ.set i none) h
  | .brk ρ h => .brk (ρ.set i none) h
  | .cnt ρ h => .cnt (ρ.set i none) h
  | o => o
open Classical in
/-- of exceptions without fields -/
noncomputable def sTryAs (em : Value → Option Bool) (m : SM) (i : Nat) (ms : Addr → Value → SM) : SM := fun ρ h => match m ρ h with
  | .exc x ρ1 h1 => match em x.cls with
    | some true => if z : x.fs = [] ∧ ∃ o, ∀ a, sufx i (ms a x.cls (ρ1.set i (some (.raw (.ref a)))) h1) = o ∧ (∀ y ρ' h', o ≠ .exc y ρ' h') then z.2.choose else .bad
    | some false => .exc x ρ1 h1
    | none => .bad
  | o => o
theorem sTryAs_yes {em : Value → Option Bool} {m : SM} {i : Nat} {ms : Addr → Value → SM} {ρ ρ1 : DEnv} {h h1 : DH} {c : Value} {o : SOut} (e : m ρ h = .exc ⟨c, []⟩ ρ1 h1) (e2 : em c = some true) (eo : ∀ a, sufx i (ms a c (ρ1.set i (some (.raw (.ref a)))) h1) = o) (ne : ∀ y ρ' h', o ≠ .exc y ρ' h') : sTryAs em m i ms ρ h = o := by
  unfold sTryAs
  rw [e]; dsimp only; rw [e2]; dsimp only
  have z : (([] : List (Str × D)) = []) ∧ ∃ o, ∀ a, sufx i (ms a c (ρ1.set i (some (.raw (.ref a)))) h1) = o ∧ (∀ y ρ' h', o ≠ .exc y ρ' h') := ⟨rfl, o, fun a => ⟨eo a, ne⟩⟩
  rw [dif_pos z]
  exact ((z.2.choose_spec 0).1.symm.trans (eo 0))
theorem sTryAs_nx {em : Value → Option Bool} {m : SM} {i : Nat} {ms : Addr → Value → SM} {ρ ρ1 : DEnv} {h h1 : DH} (e : m ρ h = .nx ρ1 h1) : sTryAs em m i ms ρ h = .nx ρ1 h1 := by
  unfold sTryAs; rw [e]
theorem sTryAs_ret {em : Value → Option Bool} {m : SM} {i : Nat} {ms : Addr → Value → SM} {ρ : DEnv} {h h1 : DH} {d : D} (e : m ρ h = .ret d h1) : sTryAs em m i ms ρ h = .ret d h1 := by
  unfold sTryAs; rw [e]
theorem sTryAs_no {em : Value → Option Bool} {m : SM} {i : Nat} {ms : Addr → Value → SM} {ρ ρ1 : DEnv} {h h1 : DH} {x : DX} (e : m ρ h = .exc x ρ1 h1) (e2 : em x.cls = some false) : sTryAs em m i ms ρ h = .exc x ρ1 h1 := by
  unfold sTryAs; rw [e]; dsimp only; rw [e2]
theorem ds_tryAs {x n : Str} {c : Value} (i : Nat) {body suite : List Stmt} {b₀ : Stmt} {np pos pos' : Pos} {m : SM} {ms : Addr → Value → SM} {em : Value → Option Bool} (hs : X.stack = X.env :: X.outer) (hf : X.env.frame = some X.env.locals) (hN : X.N.Nodup) (hc : Names X x c) (tk : Takes X W)
    (hem : ∀ cls b, em cls = some b → PySem.W.exmOne X.K cls c = some b)
    (hb : ∀ (W : WX) (pn : List (Addr × Obj)) (xe : Value → Shared → Prop), Takes (X.tr pn xe) W → PassesOwn (model X.prog X.w) X.A X.env xe → DSs (X.tr pn xe) W body m)
    (hsu : ∀ (a : Addr) (oe : Obj) (cls : Value) (pn : List (Addr × Obj)), Zc cls none oe → (∃ vs, oe.data = .fields vs) → (em cls = some true) → DSs (X.suite a ((a, oe) :: pn)) W0 (b₀ :: suite) (ms a cls))
    (hi : X.N[i]? = some n := by rfl) (hln : X.env.kindOf n = some .local := by rfl) :
    DS X W (.Try body [.ExceptHandler (some (.Name x np)) (some n) (b₀ :: suite) pos'] [] [] pos) (sTryAs em m i ms) := by
  refine (ps_try_as (ts := fun a cls d D σ H => d = none ∧ em cls = some true ∧ tS X.K W0 (ms a cls) D σ H) (tb := fun W' => tS X.K W' m) hs hf hN hi hln hc tk (fun W pn xe t p => hb W pn xe t p) ?_).imp ?_
  · intro a oe cls d pn hz hv
    refine ⟨fun pins s σ H D I q => ?_⟩
    obtain ⟨hd, ee, q⟩ := q
    subst hd
    exact (hsu a oe cls pn hz hv ee).run pins s σ H D I q
  · rintro D σ H ⟨ρ, h, al, rs, rh, q⟩
    refine ⟨ρ, h, al, rs, rh, ?_⟩
    unfold sTryAs at q
    cases e : m ρ h with
    | exc y ρ1 h1 =>
      rw [e] at q
      intro H' al' σ' dd ev rh' rs' rx
      have q := PostS.evo ev q
      dsimp only at q
      cases e2 : em y.cls with
      | none => rw [e2] at q; exact q.elim
      | some bb =>
        rw [e2] at q
        refine ⟨bb, hem _ _ e2, fun hb1 a na => ?_, fun hb1 => ?_⟩
        · subst hb1
          dsimp only at q
          by_cases z : y.fs = [] ∧ ∃ o, ∀ a, sufx i (ms a y.cls (ρ1.set i (some (.raw (.ref a)))) h1) = o ∧ (∀ y ρ' h', o ≠ .exc y ρ' h')
          · rw [dif_pos z] at q
            have hd : dd = none := by
              rcases rx with ⟨_, r1⟩ | ⟨r1, _⟩
              · exact r1
              · exact (r1 z.1).elim
            have sp := z.2.choose_spec a
            generalize z.2.choose = oo at q sp
            obtain ⟨sp1, sp2⟩ := sp
            refine ⟨hd, e2, ρ1.set i (some (.raw (.ref a))), h1, al', rs'.set i .raw, rh', ?_⟩
            cases em2 : ms a y.cls (ρ1.set i (some (.raw (.ref a)))) h1 with
            | nx ρ2 h2 => rw [em2] at sp1; subst sp1; exact fun H3 al3 σ3 e3 rh3 rs3 => q H3 al3 _ e3 rh3 (rs3.gone i none)
            | brk ρ2 h2 => rw [em2] at sp1; subst sp1; exact fun H3 al3 σ3 e3 rh3 rs3 => q H3 al3 _ e3 rh3 (rs3.gone i none)
            | cnt ρ2 h2 => rw [em2] at sp1; subst sp1; exact fun H3 al3 σ3 e3 rh3 rs3 => q H3 al3 _ e3 rh3 (rs3.gone i none)
            | ret d2 h2 => rw [em2] at sp1; subst sp1; exact q
            | bad => rw [em2] at sp1; subst sp1; exact q
            | exc x2 ρ2 h2 => rw [em2] at sp1; exact (sp2 _ _ _ sp1.symm).elim
          · rw [dif_neg z] at q; exact q.elim
        · subst hb1
          exact q H' al' σ' dd Evo.refl rh' rs' rx
    | nx ρ1 h1 => rw [e] at q; exact q
    | brk ρ1 h1 => rw [e] at q; exact q
    | cnt ρ1 h1 => rw [e] at q; exact q
    | ret d1 h1 => rw [e] at q; exact q
    | bad => rw [e] at q; exact q
/-- isinstance(e, (C1, C2, ..)), e the exception that the suite holds -/
def rIsET (K : PySem.W.Frag) (D a : Addr) : List V → Hp → VK → Prop := fun xs H Q => ∃ (tp : Addr) (cs : List V) (us : List Value) (b : Bool), xs = [.ref a, .ref tp] ∧ SqT K H tp cs ∧ Paired ClsV cs us ∧ PySem.W.kitAny K (.ref D) us = some b ∧ Q (.bl b) H
theorem call_isET {X : Cx} {a D : Addr} {oe : Obj} {pn : List (Addr × Obj)} (C : ExcC X.K D) (hz : Zc (.ref D) none oe) (hf : ∃ vs, oe.data = .fields vs) : CallR (X.suite a ((a, oe) :: pn)) (.builtin "isinstance") (rIsET X.K D a) := by
  intro pins s σ H xs us Q I r h
  obtain ⟨tp, cs, ws, b, rfl, hT, k, e, q⟩ := h
  obtain ⟨u1, u2, rfl, r1, r2⟩ := vals2 r
  cases (show u2 = Value.ref tp from r2)
  cases (show u1 = Value.ref a from r1)
  obtain ⟨hget, _⟩ := I.pin (a, oe) (List.mem_append.mpr (.inl List.mem_cons_self))
  obtain ⟨vs, hv⟩ := hf
  have J : PySem.W.InstAt s.heap a oe D none := by
    obtain ⟨oc, od, oda, osl⟩ := oe
    obtain ⟨h1, h2⟩ := hz
    dsimp only at h1 h2 hv
    subst h1 h2 hv
    exact ⟨hget, rfl, rfl, trivial⟩
  obtain ⟨its, rv, ⟨o, h1, h2, n, h3⟩, _⟩ := I.tuple hT
  have e3 := ClsV.all k rv
  subst e3
  obtain ⟨oc, od, dt, sl⟩ := o
  simp only at h2 h3
  subst h2 h3
  exact PySem.W.kia_tup (PySem.W.handS_kitx_exc C.hg C.hk C.hs C.hd C.ha C.hn C.ht C.hm) I.kIn J h1 e (fun z => nomatch z) fun tk => ⟨.bl b, H, I.kept (t' := tk) fun _ _ z => z, rfl, q⟩
theorem ite_or {α : Type} {P : Prop} [Decidable P] {a b : α} {r : Option α} (e : (if P then some a else r) = some b) : (P ∧ a = b) ∨ r = some b := by
  by_cases h : P
  · rw [if_pos h] at e; exact .inl ⟨h, Option.some.inj e⟩
  · rw [if_neg h] at e; exact .inr e
/-- what a class is, as a value -/
def clsD : D → Option Value
  | .raw (.ref C) => some (.ref C)
  | .raw (.ty T) => some (.type T)
  | _ => none
/-- the answers of one after the other -/
def kitAnyD (kit : Value → Option Bool) : List D → Option Bool
  | [] => some false
  | d :: r => match (clsD d).bind kit, kitAnyD kit r with
    | some b, some c => some (b || c)
    | _, _ => none
theorem clsD_of {K : PySem.W.Frag} {H : Hp} {al : List Addr} {d : D} {v : V} {c : Value} (r : RV K H al d v) (e : clsD d = some c) : ClsV v c := by
  unfold clsD at e
  split at e
  · cases r; cases e; exact .own _
  · cases r; cases e; exact .ty _
  · cases e
theorem kitAnyD_of {K : PySem.W.Frag} {Dc : Addr} {kit : Value → Option Bool} (hk : ∀ c b, kit c = some b → PySem.W.kitOne K (.ref Dc) c = some b) {H : Hp} {al : List Addr} : ∀ {ds : List D} {vs : List V} {b : Bool}, RVs K H al ds vs → kitAnyD kit ds = some b → ∃ us, Paired ClsV vs us ∧ PySem.W.kitAny K (.ref Dc) us = some b
  | [], _, b, r, e => by
    cases r
    cases e
    exact ⟨[], .nil, rfl⟩
  | d :: ds, _, b, r, e => by
    cases r with | cons r t =>
    unfold kitAnyD at e
    split at e
    · rename_i b1 b2 e1 e2
      cases e
      obtain ⟨c, hc, hkc⟩ := Option.bind_eq_some_iff.mp e1
      obtain ⟨us, h1, h2⟩ := kitAnyD_of hk t e2
      refine ⟨_, .cons (clsD_of r hc) h1, kitAny_cons (hk _ _ hkc) (fun z => by subst z; simpa using h2) (fun z => by subst z; rfl)⟩
    · cases e
open Classical in
/-- isinstance(e, C) of the caught one -/
noncomputable def gIsE (a : Addr) (kit : Value → Option Bool) (ds : List D) (h : DH) : Out D := match ds with
  | [.raw v, .raw (.ref C)] => if v = .ref a then (match kit (.ref C) with
    | some b => .val (.bl b) h
    | none => .bad) else .bad
  | [.raw v, .raw (.ty T)] => if v = .ref a then (match kit (.type T) with
    | some b => .val (.bl b) h
    | none => .bad) else .bad
  | [.raw v, .tup cs] => if v = .ref a then (match kitAnyD kit cs with
    | some b => .val (.bl b) h
    | none => .bad) else .bad
  | _ => .bad
theorem cc_isE {Dc a : Addr} {kit : Value → Option Bool} (hk : ∀ c b, kit c = some b → PySem.W.kitOne K (.ref Dc) c = some b) : CallC K (fun xs H Q => rIsE K Dc a xs H Q ∨ rIsET K Dc a xs H Q) (gIsE a kit) := by
  intro Wx H al h xs ds Q rh r q
  unfold gIsE at q
  split at q
  · cases r with | cons r t => cases t with | cons r2 t =>
    cases t; cases r; cases r2
    obtain ⟨hv, q⟩ := ite_post q
    split at q
    · rename_i e1
      exact .inl ⟨V.ref _, Value.ref _, _, by rw [hv], fun u z => z, hk _ _ e1, PostG.val q rh .bl⟩
    · exact q.elim
  · cases r with | cons r t => cases t with | cons r2 t =>
    cases t; cases r; cases r2
    obtain ⟨hv, q⟩ := ite_post q
    split at q
    · rename_i e1
      exact .inl ⟨V.ty _, Value.type _, _, by rw [hv], fun u z => z, hk _ _ e1, PostG.val q rh .bl⟩
    · exact q.elim
  · cases r with | cons r t => cases t with | cons r2 t =>
    cases t; cases r; cases r2 with | tup hs hr =>
    obtain ⟨hv, q⟩ := ite_post q
    split at q
    · rename_i e1
      obtain ⟨us, h1, h2⟩ := kitAnyD_of hk hr e1
      exact .inr ⟨_, _, us, _, by rw [hv], hs, h1, h2, PostG.val q rh .bl⟩
    · exact q.elim
  · exact q.elim
end
section
open PySem.W
theorem cls_some {K : Frag} {C : Addr} (h : hasDictIn K C = true) : (clsIn K C).isSome = true := by
  unfold hasDictIn at h
  cases e : clsIn K C with
  | none => rw [e] at h; cases h
  | some _ => rfl
theorem kit_ref {K : Frag} {C : Addr} {t : Value} {b : Bool} (hd : hasDictIn K C = true) (ht : typeIn K (.ref C) = some (.type "type")) (h : subIn K t (.ref C) = some b) (hb : t = .ref C → b = true) : kitOne K t (.ref C) = some b := by
  unfold kitOne
  by_cases e : t = .ref C
  · rw [if_pos (by simp [e]), hb e]
  · rw [if_neg (by simp [e])]
    show (if ((clsIn K C).isSome && typeIn K (.ref C) == some (.type "type")) = true then subIn K t (.ref C) else none) = _
    rw [if_pos (by rw [cls_some hd, ht]; rfl), h]
theorem kit_type {K : Frag} {T : String} {C : Addr} {b : Bool} (hm : kitMeta T = true) (h : subIn K (.ref C) (.type T) = some b) : kitOne K (.ref C) (.type T) = some b := by
  unfold kitOne
  rw [if_neg (by intro z; cases (LawfulBEq.eq_of_beq z))]
  show (if kitMeta T = true then subIn K (.ref C) (.type T) else none) = _
  rw [if_pos hm, h]
end
end DL

namespace DL
open PySem PySem.Spec PyProof.Rows L2
theorem _root_.L2.PI.or {X : Cx} {tg iter : Expr} {w1 w2 : TI} (h1 : PI X tg iter w1) (h2 : PI X tg iter w2) : PI X tg iter (fun σ H R => w1 σ H R ∨ w2 σ H R) :=
  ⟨fun pins s σ H R I q => q.elim (h1.run pins s σ H R I) (h2.run pins s σ H R I)⟩
section
variable {X : Cx} {W : WX} {tg e a b c : Expr} {pos : Pos} {ma mb mc : EM D} {mt : EM Bool}
/-- a list, a tuple or a text -/
def iAny (ma : EM D) : EM ItD := fun ρ h => match ma ρ h with
  | .val (.ref _) _ => iSeqL ma ρ h
  | .val (.tup _) _ => iTupD ma ρ h
  | .val (.str _) _ => iStrD ma ρ h
  | .exc x h => .exc x h
  | _ => .bad
theorem di_any (h : DE X W e ma) : DI X W tg e (iAny ma) := by
  obtain ⟨w1, p1, k1⟩ := di_list (tg := tg) h
  obtain ⟨w2, p2, k2⟩ := di_tup (tg := tg) h
  obtain ⟨w3, p3, k3⟩ := di_str (tg := tg) h
  refine ⟨_, p1.or (p2.or p3), fun σ H R ⟨ρ, hh, al, rs, rh, q⟩ => ?_⟩
  unfold iAny at q
  split at q
  · exact .inl (k1 σ H R ⟨ρ, hh, al, rs, rh, q⟩)
  · exact .inr (.inl (k2 σ H R ⟨ρ, hh, al, rs, rh, q⟩))
  · exact .inr (.inr (k3 σ H R ⟨ρ, hh, al, rs, rh, q⟩))
  · rename_i x h' e1
    refine .inl (k1 σ H R ⟨ρ, hh, al, rs, rh, ?_⟩)
    unfold iSeqL
    rw [e1]; exact q
  · exact q.elim
theorem dt_chain {op op' : CmpOp} {r r' : R2} {g g' : D → D → DH → Out D} (ho : OpR X (compareOp op) r) (hc1 : OpC X.K r g) (ho' : OpR X (compareOp op') r') (hc2 : OpC X.K r' g')
    (hp : PE X e (tChain r r' (tD X.K W ma) (tD X.K W mb) (tD X.K W mc))) : DE X W e (fun ρ h => (ma ρ h).bind fun x h1 => (mb ρ h1).bind fun y h2 => (g x y h2).bind (asB fun k h3 => if k = true then (mc ρ h3).bind fun z h4 => g' y z h4 else .val (.bl false) h3)) := by
  refine hp.imp fun σ H Q ⟨ρ, h, al, rs, rh, q⟩ => ⟨ρ, h, al, rs, rh, (PostG.bind q).imp ?_⟩
  rintro x H1 ⟨d, h1, al1, e1, rh1, r1, q1⟩
  refine ⟨ρ, h1, al1, rs.evo e1, rh1, (PostG.bind q1).imp ?_⟩
  rintro y H2 ⟨e, h2, al2, e2, rh2, r2, q2⟩
  refine hc1 _ H2 al2 h2 x y d e _ rh2 (r1.evo e2) r2 ((PostG.bind q2).imp ?_)
  rintro z H3 ⟨f, h3, al3, e3, rh3, r3, q3⟩
  cases r3 with
  | bl =>
    rename_i k
    refine ⟨k, rfl, ?_⟩
    have q3 : PostG X.K (RV X.K) (fun c d H' => W c d σ H') H3 al3 (if k = true then (mc ρ h3).bind fun z h4 => g' e z h4 else .val (.bl false) h3) Q := q3
    cases k with
    | true =>
      rw [if_pos rfl] at q3
      refine iteT ⟨ρ, h3, al3, ((rs.evo e1).evo e2).evo e3, rh3, (PostG.bind q3).imp ?_⟩
      rintro z H4 ⟨f, h4, al4, e4, rh4, r4, q4⟩
      exact hc2 _ H4 al4 h4 y z e f Q rh4 (r2.evo (e3.trans e4)) r4 q4
    | false =>
      rw [if_neg (by decide)] at q3
      exact iteF (PostG.val q3 rh3 .bl)
  | _ => exact q3.elim
end
end DL

set_option maxHeartbeats 1000000
namespace DL
open PySem PySem.Spec PyProof.Rows L2 RT
/-! list(reversed(a list)) -/
section
variable {prog : Program} {w : World} {A : Around} {E : Value → Shared → Prop} {s : Shared}
theorem call_list_rev {it l : Addr} {items : Array Value} {Q : Value → Shared → Prop} (hh : A.handled = none) (hit : s.heap.IsRevIter it l ((items.size : Int) - 1)) (hl : s.heap.IsList l items) (hne : l ≠ it) (hn : items.size ≤ sizeLine)
    (hQ : ∀ (h' : Heap) (tk : Nat) (acc : Array Value) (c : Nat), (∀ b o, b ≠ it → s.heap.get? b = some o → h'.get? b = some o) → h'.get? s.heap.objs.size = some { cls := .type "list", data := .seq acc c } →
      ItemsOf (fun i v => items[items.size - 1 - i]? = some v) acc items.size → Q (.ref s.heap.objs.size) { s with heap := h', toks := tk }) :
    wpAny (model prog w) A (call (.type "list") [.ref it]) Q E s := by
  have W := (Walks.listRev (prog := prog) (w := w) (A := A.in1.in1) hh it l hne items).toS
  obtain ⟨oi, hoi, _⟩ := id hit
  obtain ⟨ol, hol, _⟩ := id hl
  have hSi : s.heap.objs.size ≠ it := Nat.ne_of_gt (Heap.lt_size hoi)
  have hSl : s.heap.objs.size ≠ l := Nat.ne_of_gt (Heap.lt_size hol)
  have hSf : s.heap.objs.size ∉ [it, l] := by simp only [List.mem_cons, List.not_mem_nil, or_false, not_or]; exact ⟨hSi, hSl⟩
  refine callType_codes (Q₁ := fun obj s₁ => obj = .ref s.heap.objs.size ∧ s₁ = { s with heap := s.heap.push { cls := .type "list", data := .seq #[] } }) F.called_list (F.typeCall_list_1 _) F.entry_list_init
    (code_list_new _ ⟨rfl, rfl⟩) fun obj s₁ h₁ => ?_
  obtain ⟨rfl, rfl⟩ := h₁
  have hS : (s.heap.push { cls := .type "list", data := .seq #[] }).get? s.heap.objs.size = some { cls := .type "list", data := .seq #[] } := Heap.get?_push_size _ rfl
  refine ⟨⟨_, hS, rfl⟩, F.args_list_init_2 _ _, ?_⟩
  show wpAny _ A.in1.in1 (do let old ← Builtin.List.listItems (.ref s.heap.objs.size); Builtin.List.listUpdate (.ref s.heap.objs.size) (fun _ => #[]); letGo old.toList.reverse; Builtin.List.listExtendWith (.ref s.heap.objs.size) (.ref it) .none) _ _ _
  refine wpAny_bind ?_
  unfold Builtin.List.listItems
  refine wpAny_bind (wpAny_seqItems hS rfl (wpAny_pure ?_))
  show wpAny _ A.in1.in1 (updateSeq s.heap.objs.size (fun _ => #[]) >>= fun _ => letGo (#[] : Array Value).toList.reverse >>= fun _ => Builtin.List.listExtendWith (.ref s.heap.objs.size) (.ref it) .none) _ _ _
  refine wpAny_bind (wpAny_updateSeq hS rfl ?_)
  have hS2 := Heap.get?_update_self (Obj.mapSeq (fun _ => (#[] : Array Value))) hS rfl
  refine wpAny_bind (wpAny_letGo ?_)
  unfold Builtin.List.listExtendWith
  have k2 : ∀ b o, s.heap.get? b = some o → ((s.heap.push { cls := .type "list", data := .seq #[] }).update s.heap.objs.size (Obj.mapSeq (fun _ => (#[] : Array Value)))).get? b = some o := fun b o e =>
    (Heap.get?_update_other _ _ (Ne.symm (Nat.ne_of_lt (Heap.lt_size e)))).trans (Heap.get?_push_of_some _ e)
  generalize (s.heap.push { cls := .type "list", data := .seq #[] }).update s.heap.objs.size (Obj.mapSeq (fun _ => (#[] : Array Value))) = h2 at hS2 k2 ⊢
  have hit2 : h2.IsRevIter it l ((items.size : Int) - 1) := hit.at fun o e => k2 _ _ e
  have hl2 : h2.IsList l items := by
    obtain ⟨o, ho, r⟩ := id hl
    exact ⟨o, k2 _ _ ho, r⟩
  have hT : ({ s with heap := h2 } : Shared).TypeIs (.ref it) "list_reverseiterator" := Heap.IsRevIter.typeIs (s := { s with heap := h2 }) hit2
  have h1 : Builtin.List.listSameRef (.ref s.heap.objs.size) (.ref it) = false := by simp [Builtin.List.listSameRef, hSi]
  refine wpAny_bind (wpAny_typeOf hT ?_)
  rw [if_neg (by rw [h1]; decide)]
  refine wpAny_bind (wpAny_pyIter_revIter (s := { s with heap := h2 }) hit2 ?_)
  refine wpAny_bind (wpAny_holding ?_)
  unfold Builtin.List.listLengthHint
  refine wpAny_bind (wpAny_specialOf hT nolen_lri ?_)
  show wpAny _ A.in1.in1 (specialOf (Value.ref it) (Str.ofString "__length_hint__") >>= _) _ _ _
  refine wpAny_bind (wpAny_specialOf hT hint_lri ?_)
  generalize hid : ("list_reverseiterator.__length_hint__" : String) = id0
  wp_delta
  rw [show splitId id0 = some ("list_reverseiterator", "__length_hint__") from by subst hid; decide +kernel]
  subst hid
  refine wpAny_bind (wpAny_isInstance (b := true) hT (by rw [isSubtype_type]; kernel_rfl) ?_)
  refine wpAny_pure ?_
  rw [if_neg (by decide)]
  have e0 : ((items.size : Nat) : Int) - 1 - ((0 : Nat) : Int) = (items.size : Int) - 1 := by omega
  refine wpAny_pure ⟨plainId_quiet F.plain_extend_loop _, codeAny_extend_loopS W hn _ hSf _ items.size 0 _ _ _ rfl (Nat.zero_le _) ⟨Nat.zero_le _, by rw [e0]; exact hit2, hl2⟩ hS2 (ItemsOf.nil _) fun s' acc' c' hm hS' hacc => ?_⟩
  refine ⟨rfl, ?_⟩
  rw [Moved.eq_with hm]
  refine hQ s'.heap s'.toks acc' c' (fun b o hb e => hm.heap b o (fun hmem => ?_) (k2 _ _ e)) hS' hacc
  rcases List.mem_cons.mp hmem with e' | hmem
  · exact absurd (Heap.lt_size e) (by rw [e']; exact Nat.lt_irrefl _)
  · exact hb (List.mem_singleton.mp hmem)
end
def tListRev (K : PySem.W.Frag) (te : TE) : TE := fun σ H Q => te σ H fun v H1 => ∃ (a : Addr) (xs : List V), v = .ref a ∧ SqL K H1 a xs ∧ ∀ q, H1 q = none → Q (.ref q) (upd H1 q (.lst xs.reverse))
section
variable {X : Cx}
theorem pe_listRev {e : Expr} {te : TE} {p p2 pos pos2 : Pos} (hc : X.calm = true) (hg : Gl X "list") (hm : X.mg "list" = none) (hg2 : Gl X "reversed") (hm2 : X.mg "reversed" = none) (he : PE X e te)
    (hs : starEach [e] X.env = (false, eval e X.env) :: starEach [] X.env := by rfl)
    (hs2 : starEach [.Call (.Name "reversed" p2) [e] [] pos2] X.env = (false, eval (.Call (.Name "reversed" p2) [e] [] pos2) X.env) :: starEach [] X.env := by rfl) :
    PE X (.Call (.Name "list" p) [.Call (.Name "reversed" p2) [e] [] pos2] [] pos) (tListRev X.K te) := by
  refine ⟨fun pins s σ H Q I h => ?_⟩
  refine Call_ (ld_blt I hg hm boot_list (PyProof.Rows.callWith_type1 (args_cons (Call_ (ld_blt I hg2 hm2 PyProof.Rows.boot_reversed (PyProof.Rows.callWith_type1 (args_cons (thn (he.run pins s σ H _ I h) fun u s1 ⟨v, H1, I1, r1, q1⟩ => args_nil ?_) hs) hs rfl))) hs2) hs2 rfl))
  obtain ⟨a, xs, ev, hq, q⟩ := q1
  subst ev
  obtain rfl : u = Value.ref a := r1
  obtain ⟨its, rv, p', hz⟩ := I1.list hq
  refine call_reversed_list p'.isList (args_nil ?_)
  have k0 : ∀ b o, s1.heap.get? b = some o → (s1.heap.push (revObj a ((its.toArray.size : Int) - 1))).get? b = some o := fun b o e => Heap.get?_push_of_some _ e
  have hl := p'.isList
  obtain ⟨ol, hol, _⟩ := id hl
  have hne : a ≠ s1.heap.objs.size := Nat.ne_of_lt (Heap.lt_size hol)
  have hn : its.toArray.size ≤ sizeLine := by rw [List.size_toArray, ← rv.length]; exact hz
  refine call_list_rev (s := { s1 with heap := s1.heap.push (revObj a ((its.toArray.size : Int) - 1)) }) (I1.ok.hd hc) ⟨_, Heap.get?_push_size _ rfl, rfl, rfl⟩ (hl.push _) hne hn fun h' tk acc c hk hS hi => ?_
  have hle : s1.heap.objs.size ≤ (s1.heap.push (revObj a ((its.toArray.size : Int) - 1))).objs.size := by
    rw [Heap.size_push]; exact Nat.le_succ _
  refine ⟨.ref (s1.heap.push (revObj a ((its.toArray.size : Int) - 1))).objs.size, _, I1.laid (t' := tk) (fun b o e => hk b o (Nat.ne_of_lt (Heap.lt_size e)) (k0 b o e)) hle (show ObjOk X.prog X.w _ h' _ (.lst xs.reverse) from ⟨by rw [List.length_reverse]; exact hz, acc.toList, c, vals_rev rv hi, ?_⟩), rfl, q _ (I1.hok.fresh hle)⟩
  rw [Array.toArray_toList]
  exact hS
def mListRev (m : EM D) : EM D := fun ρ h => (m ρ h).bind fun d h1 => match d with
  | .ref n => match listAt h1 n with
    | some xs => .val (.ref h1.length) (h1 ++ [.lst xs.reverse])
    | none => .bad
  | _ => .bad
theorem de_listRev {W : WX} {e : Expr} {m : EM D} {p p2 pos pos2 : Pos} (hc : X.calm = true) (hg : Gl X "list") (hm : X.mg "list" = none) (hg2 : Gl X "reversed") (hm2 : X.mg "reversed" = none) (he : DE X W e m)
    (hs : starEach [e] X.env = (false, eval e X.env) :: starEach [] X.env := by rfl)
    (hs2 : starEach [.Call (.Name "reversed" p2) [e] [] pos2] X.env = (false, eval (.Call (.Name "reversed" p2) [e] [] pos2) X.env) :: starEach [] X.env := by rfl) :
    DE X W (.Call (.Name "list" p) [.Call (.Name "reversed" p2) [e] [] pos2] [] pos) (mListRev m) := by
  refine (pe_listRev hc hg hm hg2 hm2 he hs hs2).imp fun σ H Q ⟨ρ, h, al, rs, rh, q⟩ => ⟨ρ, h, al, rs, rh, (PostG.bind q).imp ?_⟩
  rintro x H1 ⟨d, h1, al1, e1, rh1, r1, q1⟩
  try dsimp only at q1
  split at q1
  · cases r1 with | ref ha =>
    split at q1
    · rename_i xs e0
      obtain ⟨vs, h2, h3⟩ := list_of rh1 e0 ha
      exact ⟨_, vs, rfl, h2, fun l hl => PostG.newLst q1 rh1 h3.reverse hl⟩
    · exact q1.elim
  · exact q1.elim
end
end DL

namespace DL
open PySem PySem.Spec PyProof.Rows L2
section
variable {X : Cx} {K : PySem.W.Frag} {W : WX} {tg e a b c : Expr} {es : List Expr} {pos : Pos} {ma mb mc : EM D} {mt : EM Bool} {mr : EM (List D)}
/-- a module's constant -/
theorem de_globE {x : Str} {v : V} {d : D} (hg : Gl X x) (hm : ∃ u, X.mg x = some u ∧ RelV v u) (rd : ∀ H al, RV X.K H al d v) (hd : (x == ("__debug__" : Str)) = false := by decide) {pos : Pos} : DE X W (.Name x pos) (mC d) := by
  obtain ⟨u, h1, h2⟩ := hm
  exact de_glob hg h1 h2 rd hd
/-- a tuple of texts of the written part -/
theorem wtup {a : Addr} {oc : Option Addr} {its : List Value} {n : Nat} {sl : Array (Option Value)} {ds : List D} {vs : List V} (l : K.lookup a = some ⟨.type "tuple", oc, .seq its.toArray n, sl⟩) (hl : its.length ≤ sizeLine) (hv : Vals vs its) (r : ∀ H al, RVs K H al ds vs) : ∀ H al, RV K H al (.tup ds) (.ref a) :=
  fun H al => .tup (.inr ⟨_, _, n, l, rfl, rfl, by simpa using hl, by simpa using hv⟩) (r H al)
open Classical in
/-- a in d, d a dict of the module with text keys -/
noncomputable def gInKD (neg : Bool) (a : Addr) (f : Str → Option D) (d e : D) (h : DH) : Out D := match d, e with
  | .str z, .raw v => if v = .ref a then .val (.bl (if neg then !(f z).isSome else (f z).isSome)) h else .bad
  | _, _ => .bad
theorem oc_inkd {ad : Addr} {f : Str → Option D} (neg : Bool) (hf : ∀ z, ∃ r, PySem.W.nsIn K ad z = some r ∧ r.isSome = (f z).isSome) :
    OpC K (fun x y H Q => ∃ (z : Str) (r : Option Value), x = .str z ∧ y = .ref ad ∧ PySem.W.nsIn K ad z = some r ∧ Q (.bl (if neg then !r.isSome else r.isSome)) H) (gInKD neg ad f) := by
  intro Wx H al h x y d e Q rh r1 r2 q
  unfold gInKD at q
  split at q
  · cases r1; cases r2
    obtain ⟨hz, q⟩ := ite_post q
    rename_i z v
    obtain ⟨r, h1, h2⟩ := hf z
    refine ⟨z, r, rfl, hz, h1, ?_⟩
    rw [h2]
    exact PostG.val q rh .bl
  · exact q.elim
theorem op_in_kdd {d : Addr} {es : Array DictEntry} {n : Nat} (D : KDict X.K X.w d es n) : OpR X (compareOp .In) (fun x y H Q => ∃ (z : Str) (r : Option Value), x = .str z ∧ y = .ref d ∧ PySem.W.nsIn X.K d z = some r ∧ Q (.bl (if false then !r.isSome else r.isSome)) H) := op_in_kd D
theorem op_notin_kdd {d : Addr} {es : Array DictEntry} {n : Nat} (D : KDict X.K X.w d es n) : OpR X (compareOp .NotIn) (fun x y H Q => ∃ (z : Str) (r : Option Value), x = .str z ∧ y = .ref d ∧ PySem.W.nsIn X.K d z = some r ∧ Q (.bl (if true then !r.isSome else r.isSome)) H) := op_notIn_kd D
/-- these are all the keys of a dict of the written part -/
def keysOkL (es : List DictEntry) (keys : List Str) : Bool := es.all (fun e => !e.refKey && keys.any fun k => e.key.isStr k) && keys.all fun k => es.any (·.key.isStr k)
theorem isStr_inj {v : Value} {x y : Str} (h1 : v.isStr x = true) (h2 : v.isStr y = true) : x = y := by
  cases v <;> simp_all [Value.isStr]
theorem keys_in {K : PySem.W.Frag} {a : Addr} {keys : List Str} {f : Str → Option D} {c : Value} {od : Option Addr} {es : Array DictEntry} {n : Nat} {sl : Array (Option Value)} (e : K.lookup a = some ⟨c, od, .dict es n, sl⟩) (h : keysOkL es.toList keys = true) (hf : ∀ z, (f z).isSome = keys.contains z) : ∀ z, ∃ r, PySem.W.nsIn K a z = some r ∧ r.isSome = (f z).isSome := by
  intro z
  unfold keysOkL at h
  unfold PySem.W.nsIn
  · rw [e]
    dsimp only
    rw [Bool.and_eq_true, List.all_eq_true, List.all_eq_true] at h
    obtain ⟨h1, h2⟩ := h
    cases q : es.toList.find? (·.key.isStr z) with
    | some x =>
      refine ⟨_, rfl, ?_⟩
      rw [hf]
      have m := List.mem_of_find?_eq_some q
      have k := List.find?_some q
      have := h1 x m
      rw [Bool.and_eq_true, List.any_eq_true] at this
      obtain ⟨k', hk, hk2⟩ := this.2
      have := isStr_inj k hk2
      subst this
      show true = _
      rw [Eq.comm, List.contains_iff_mem]
      exact hk
    | none =>
      dsimp only
      have nr : es.toList.any (·.refKey) = false := by
        rw [List.any_eq_false]
        intro x hx
        have := h1 x hx
        rw [Bool.and_eq_true] at this
        simpa using this.1
      rw [if_neg (by rw [nr]; decide)]
      refine ⟨_, rfl, ?_⟩
      rw [hf]
      show false = _
      rw [Eq.comm, ← Bool.not_eq_true, List.contains_iff_mem]
      intro hz
      have := h2 z hz
      rw [List.any_eq_true] at this
      obtain ⟨x, hx, hx2⟩ := this
      have := List.find?_eq_none.mp q x hx
      exact this hx2
/-- {} -/
def mDictE : EM D := fun _ h => .val (.ref h.length) (h ++ [.dk []])
theorem de_dictE : DE X W (.Dict [] [] pos) mDictE := by
  refine pe_dnewK.imp fun σ H Q ⟨ρ, h, al, rs, rh, q⟩ p hp => ?_
  have ev : Evo X.K H al (upd H p (.dK [])) (al ++ [p]) := Evo.new hp
  refine q _ (al ++ [p]) _ ev (rh.new hp ⟨[], upd_same, .nil⟩) (.ref ?_)
  rw [rh.len, List.getElem?_append_right (Nat.le_refl _)]
  simp
/-- isinstance(e, C) within a suite -/
theorem de_isE {a0 : Addr} {oe : Obj} {pn : List (Addr × Obj)} {cls : Value} {kit : Value → Value → Option Bool} {p : Pos} {e1 e2 : Expr} (hz : Zc cls none oe) (hv : ∃ vs, oe.data = .fields vs) (hD : ∃ Dc, cls = .ref Dc ∧ ExcC X.K Dc ∧ ∀ c b, kit cls c = some b → PySem.W.kitOne X.K (.ref Dc) c = some b)
    (hg : Gl (X.suite a0 ((a0, oe) :: pn)) "isinstance") (hm : X.mg "isinstance" = none) (ha : DA (X.suite a0 ((a0, oe) :: pn)) W0 [e1, e2] mr) (he : starEach [e1, e2] X.env = (false, eval e1 X.env) :: starEach [e2] X.env := by rfl) (hpl : (backTo pos (starEach [e2] X.env)).any (·.1) = false := by rfl) : DE (X.suite a0 ((a0, oe) :: pn)) W0 (.Call (.Name "isinstance" p) [e1, e2] [] pos) (mCall (gIsE a0 (kit cls)) mr) := by
  obtain ⟨Dc, rfl, xc, hk⟩ := hD
  exact de_callB (X := X.suite a0 ((a0, oe) :: pn)) ((call_isE xc hz hv).or (call_isET xc hz hv)) (cc_isE hk) hg hm (by decide +kernel) ha (by decide) (by decide) he hpl
/-- list(reversed(x)) -/
def mChn (g g' : D → D → DH → Out D) (ma mb mc : EM D) : EM D := fun ρ h => (ma ρ h).bind fun x h1 => (mb ρ h1).bind fun y h2 => (g x y h2).bind (asB fun k h3 => if k = true then (mc ρ h3).bind fun z h4 => g' y z h4 else .val (.bl false) h3)
theorem de_chain {op op' : CmpOp} {r r' : R2} {g g' : D → D → DH → Out D} (ho : OpR X (compareOp op) r) (hc1 : OpC X.K r g) (ho' : OpR X (compareOp op') r') (hc2 : OpC X.K r' g') (ha : DE X W a ma) (hb : DE X W b mb) (hc : DE X W c mc)
    (hm : lastMarks [op, op'] [b, c] = false := by with_unfolding_all rfl) : DE X W (.Compare a [op, op'] [b, c] pos) (mChn g g' ma mb mc) := dt_chain ho hc1 ho' hc2 (pe_chain ho ho' ha hb hc hm)
theorem dt_chain2 {op op' : CmpOp} {r r' : R2} {g g' : D → D → DH → Out D} (ho : OpR X (compareOp op) r) (hc1 : OpC X.K r g) (ho' : OpR X (compareOp op') r') (hc2 : OpC X.K r' g') (ha : DE X W a ma) (hb : DE X W b mb) (hc : DE X W c mc)
    (hm : lastMarks [op, op'] [b, c] = false := by with_unfolding_all rfl) : DT X W (.Compare a [op, op'] [b, c] pos) (mB (mChn g g' ma mb mc)) := by
  refine (pt_chain ho ho' ha hb hc hm).imp fun σ H Q q => test_imp (fun σ H Q q => ?_) σ H Q q
  obtain ⟨ρ, h, al, rs, rh, q⟩ := q
  refine ⟨ρ, h, al, rs, rh, (PostG.bind q).imp ?_⟩
  rintro x H1 ⟨d, h1, al1, e1, rh1, r1, q1⟩
  refine ⟨ρ, h1, al1, rs.evo e1, rh1, (PostG.bind q1).imp ?_⟩
  rintro y H2 ⟨e, h2, al2, e2, rh2, r2, q2⟩
  refine hc1 _ H2 al2 h2 x y d e _ rh2 (r1.evo e2) r2 ((PostG.bind q2).imp ?_)
  rintro z H3 ⟨f, h3, al3, e3, rh3, r3, q3⟩
  cases r3 with
  | bl =>
    rename_i k
    refine ⟨k, rfl, ?_⟩
    have q3 : PostG X.K (RV X.K) (fun c d H' => W c d σ H') H3 al3 (if k = true then (mc ρ h3).bind fun z h4 => g' e z h4 else .val (.bl false) h3) Q := q3
    cases k with
    | true =>
      rw [if_pos rfl] at q3
      refine iteT ⟨ρ, h3, al3, ((rs.evo e1).evo e2).evo e3, rh3, (PostG.bind q3).imp ?_⟩
      rintro z H4 ⟨f, h4, al4, e4, rh4, r4, q4⟩
      exact hc2 _ H4 al4 h4 y z e f Q rh4 (r2.evo (e3.trans e4)) r4 q4
    | false =>
      rw [if_neg (by decide)] at q3
      exact iteF (PostG.val q3 rh3 .bl)
  | _ => exact q3.elim
end
end DL

namespace DL
open PySem PySem.Spec PyProof.Rows L2
/-! running by simp -/
@[simp] theorem ofs_inj {s t : String} : (Str.ofString s = Str.ofString t) ↔ s = t := by
  refine ⟨fun e => ?_, fun e => by rw [e]⟩
  rw [Str.ofString_eq_toList, Str.ofString_eq_toList] at e
  injection e with e
  have e := congrArg Array.toList e
  simp only [List.toList_toArray] at e
  have e := (List.map_inj_right (f := Char.toNat) (fun x y h => Char.ext (UInt32.toNat_inj.mp h))).mp e
  exact String.toList_inj.mp e
@[simp] theorem ofs_len {s : String} : (Str.ofString s).length = s.length := by
  rw [Str.ofString_eq_toList]
  show (List.toArray (s.toList.map Char.toNat)).size = _
  simp [String.length_toList]
@[simp] theorem ofs_beq {s t : String} : (Str.ofString s == Str.ofString t) = (s == t) := by
  rw [Bool.eq_iff_iff]; simp

section
variable {β : Type} {ma mb mc : EM D} {mt mu : EM Bool} {mr : EM (List D)} {m n : SM} {ρ : DEnv} {h : DH} {i : Nat} {d e : D}
@[simp] theorem r_mVar : mVar i ρ h = match ρ.getD i none with
  | some d => .val d h
  | none => .bad := rfl
@[simp] theorem r_mC {d : β} : mC d ρ h = .val d h := rfl
@[simp] theorem r_mOp {g : D → D → DH → Out β} : mOp g ma mb ρ h = (ma ρ h).bind fun x h1 => (mb ρ h1).bind fun y h2 => g x y h2 := rfl
@[simp] theorem r_mUn {g : D → DH → Out β} : mUn g ma ρ h = (ma ρ h).bind g := rfl
@[simp] theorem r_mB : mB ma ρ h = (ma ρ h).bind (asB fun b h => .val b h) := rfl
@[simp] theorem r_asB {k : Bool → DH → Out β} {b : Bool} : asB k (.bl b) h = k b h := rfl
@[simp] theorem r_mAnd : mAnd mt mu ρ h = (mt ρ h).bind fun k h1 => if k = true then mu ρ h1 else .val false h1 := rfl
@[simp] theorem r_mOr : mOr mt mu ρ h = (mt ρ h).bind fun k h1 => if k = true then .val true h1 else mu ρ h1 := rfl
@[simp] theorem r_mNot : mNot mt ρ h = (mt ρ h).bind fun k h1 => .val (!k) h1 := rfl
@[simp] theorem r_mIf {ma mb : EM β} : mIf mt ma mb ρ h = (mt ρ h).bind fun k h1 => if k = true then ma ρ h1 else mb ρ h1 := rfl
@[simp] theorem r_mAndV : mAndV ma mb ρ h = (ma ρ h).bind (asB fun k h1 => if k = true then mb ρ h1 else .val (.bl false) h1) := rfl
@[simp] theorem r_mOrV : mOrV ma mb ρ h = (ma ρ h).bind (asB fun k h1 => if k = true then .val (.bl true) h1 else mb ρ h1) := rfl
@[simp] theorem r_mNotV : mNotV ma ρ h = (ma ρ h).bind (asB fun k h1 => .val (.bl (!k)) h1) := rfl
@[simp] theorem r_mNil : mNil ρ h = .val [] h := rfl
@[simp] theorem r_mCons : mCons ma mr ρ h = (ma ρ h).bind fun x h1 => (mr ρ h1).bind fun xs h2 => .val (x :: xs) h2 := rfl
@[simp] theorem r_mTup : mTup mr ρ h = (mr ρ h).bind fun xs h1 => if xs.length ≤ sizeLine then .val (.tup xs) h1 else .bad := rfl
@[simp] theorem r_mLst : mLst mr ρ h = (mr ρ h).bind fun xs h1 => if xs.length ≤ sizeLine then .val (.ref h1.length) (h1 ++ [.lst xs]) else .bad := rfl
@[simp] theorem r_mCall {F : List D → DH → Out β} : mCall F mr ρ h = (mr ρ h).bind F := rfl
@[simp] theorem r_mPN : mPN ρ h = .val none h := rfl
@[simp] theorem r_mPS : mPS ma ρ h = (ma ρ h).bind fun d h1 => match d with
  | .int i => .val (some i) h1
  | _ => .bad := rfl
@[simp] theorem r_mSl {ml mh : EM (Option Int)} : mSl ma ml mh ρ h = (ma ρ h).bind fun d h1 => (ml ρ h1).bind fun lo h2 => (mh ρ h2).bind fun hi h3 => gSl d lo hi h3 := rfl
@[simp] theorem r_mM0 {g : D → List D → DH → Out D} : mM0 g ma ρ h = (ma ρ h).bind fun d h1 => if isStrD d = true then g d [] h1 else .bad := rfl
@[simp] theorem r_mM1 {g : D → List D → DH → Out D} : mM1 g ma mb ρ h = (ma ρ h).bind fun d h1 => if isStrD d = true then (mb ρ h1).bind fun e h2 => g d [e] h2 else .bad := rfl
@[simp] theorem r_isStrD {x : Str} : isStrD (.str x) = true := rfl
@[simp] theorem r_sNil : sNil ρ h = .nx ρ h := rfl
@[simp] theorem r_sSeq : sSeq m n ρ h = (m ρ h).thn n := rfl
@[simp] theorem r_sBrk : sBrk ρ h = .brk ρ h := rfl
@[simp] theorem r_sCnt : sCnt ρ h = .cnt ρ h := rfl
@[simp] theorem r_sExpr : sExpr ma ρ h = (ma ρ h).toS ρ fun _ h1 => .nx ρ h1 := rfl
@[simp] theorem r_sRet : sRet ma ρ h = (ma ρ h).toS ρ fun d h1 => .ret d h1 := rfl
@[simp] theorem r_sIf : sIf mt m n ρ h = (mt ρ h).toS ρ fun k h1 => if k = true then m ρ h1 else n ρ h1 := rfl
@[simp] theorem r_gSet : gSet i d ρ h = .nx (ρ.set i (some d)) h := rfl
@[simp] theorem r_sAsg {g : GM} : sAsg ma g ρ h = (ma ρ h).toS ρ fun d h1 => g d ρ h1 := rfl
@[simp] theorem r_sPar {j : Nat} : sPar i j mr ρ h = (mr ρ h).toS ρ fun ds h1 => match ds with
  | [d, e] => .nx ((ρ.set i (some d)).set j (some e)) h1
  | _ => .bad := rfl
@[simp] theorem r_sRaise {c : Value} : sRaise c ρ h = .exc ⟨c, []⟩ ρ h := rfl
@[simp] theorem r_fin_nx : (SOut.nx ρ h).fin = .val .non h := rfl
@[simp] theorem r_fin_ret : (SOut.ret d h).fin = .val d h := rfl
@[simp] theorem r_fin_exc {x : DX} : (SOut.exc x ρ h).fin = .exc x h := rfl
@[simp] theorem r_fin_bad : SOut.bad.fin = .bad := rfl
theorem r_rng1 {h' : DH} {j : Int} (e : mr ρ h = .val [.int j] h') (z : gR62 j) : iRng1D mr ρ h = .val (fun _ => some (rangeD 0 j.toNat)) h' := by
  unfold iRng1D; rw [e]; exact if_pos z
theorem r_rng2 {h' : DH} {i j : Int} (e : mr ρ h = .val [.int i, .int j] h') (y : gR62 i) (z : gR62 j) : iRng2D mr ρ h = .val (fun _ => some (rangeD i (j - i).toNat)) h' := by
  unfold iRng2D; rw [e]; exact if_pos ⟨y, z⟩
theorem r_for {mi : EM ItD} {g : GM} {it : ItD} {ds : List D} {h1 : DH} (e : mi ρ h = .val it h1) (e2 : it h1 = some ds) : sFor mi g m ρ h = loopL it ds g m ds ρ h1 := by
  unfold sFor; rw [e]; show (match it h1 with | some ds => loopL it ds g m ds ρ h1 | none => .bad) = _; rw [e2]
theorem small62 {n : Nat} (h : n ≤ 1000000) : gR62 (n : Int) := ⟨by omega, by omega⟩
theorem e_call {F : List D → DH → Out β} {ds : List D} {h' : DH} (e : mr ρ h = .val ds h') : mCall F mr ρ h = F ds h' := by rw [r_mCall, e]; rfl
theorem e_cons {x : D} {xs : List D} {h1 h2 : DH} (e : ma ρ h = .val x h1) (e2 : mr ρ h1 = .val xs h2) : mCons ma mr ρ h = .val (x :: xs) h2 := by rw [r_mCons, e]; show ((mr ρ h1).bind _) = _; rw [e2]; rfl
theorem e_nil : mNil ρ h = .val [] h := rfl
theorem e_B {b : Bool} {h1 : DH} (e : ma ρ h = .val (.bl b) h1) : mB ma ρ h = .val b h1 := by rw [r_mB, e]; rfl
theorem e_not {b : Bool} {h1 : DH} (e : mt ρ h = .val b h1) : mNot mt ρ h = .val (!b) h1 := by rw [r_mNot, e]; rfl
theorem e_op {g : D → D → DH → Out β} {x y : D} {h1 h2 : DH} (e : ma ρ h = .val x h1) (e2 : mb ρ h1 = .val y h2) : mOp g ma mb ρ h = g x y h2 := by rw [r_mOp, e]; show ((mb ρ h1).bind _) = _; rw [e2]; rfl
theorem e_callT {g : List D → DH → Out D} {ds : List D} {h1 : DH} {r : Out D} (e : mr ρ h = .val ds h1) (k : g ds h1 = r) : mCall g mr ρ h = r := (e_call e).trans k
theorem e_opT {g : D → D → DH → Out β} {x y : D} {h1 h2 : DH} {r : Out β} (e : ma ρ h = .val x h1) (e2 : mb ρ h1 = .val y h2) (k : g x y h2 = r) : mOp g ma mb ρ h = r := (e_op e e2).trans k
theorem e_andT {h1 : DH} (e : mt ρ h = .val true h1) : mAnd mt mu ρ h = mu ρ h1 := by rw [r_mAnd, e]; rfl
theorem e_andF {h1 : DH} (e : mt ρ h = .val false h1) : mAnd mt mu ρ h = .val false h1 := by rw [r_mAnd, e]; rfl
theorem e_orT {h1 : DH} (e : mt ρ h = .val true h1) : mOr mt mu ρ h = .val true h1 := by rw [r_mOr, e]; rfl
theorem e_orF {h1 : DH} (e : mt ρ h = .val false h1) : mOr mt mu ρ h = mu ρ h1 := by rw [r_mOr, e]; rfl
theorem e_andVT {h1 : DH} (e : ma ρ h = .val (.bl true) h1) : mAndV ma mb ρ h = mb ρ h1 := by rw [r_mAndV, e]; rfl
theorem e_andVF {h1 : DH} (e : ma ρ h = .val (.bl false) h1) : mAndV ma mb ρ h = .val (.bl false) h1 := by rw [r_mAndV, e]; rfl
theorem e_orVT {h1 : DH} (e : ma ρ h = .val (.bl true) h1) : mOrV ma mb ρ h = .val (.bl true) h1 := by rw [r_mOrV, e]; rfl
theorem e_orVF {h1 : DH} (e : ma ρ h = .val (.bl false) h1) : mOrV ma mb ρ h = mb ρ h1 := by rw [r_mOrV, e]; rfl
theorem e_ret {h1 : DH} (e : ma ρ h = .val d h1) : sRet ma ρ h = .ret d h1 := by rw [r_sRet, e]; rfl
theorem fin_step {a : SOut} {r : Out D} {ρ : DEnv} {h : DH} (e : a = .nx ρ h) (k : (n ρ h).fin = r) : (a.thn n).fin = r := by rw [e]; exact k
theorem nx_step {a : SOut} {r : SOut} {ρ : DEnv} {h : DH} (e : a = .nx ρ h) (k : n ρ h = r) : a.thn n = r := by rw [e]; exact k
theorem asg_step {g : GM} {h' : DH} {r : SOut} (e : ma ρ h = .val d h') (k : g d ρ h' = r) : sAsg ma g ρ h = r := by rw [r_sAsg, e]; exact k
theorem if_step {b : Bool} {h' : DH} {r : SOut} (e : mt ρ h = .val b h') (k : (if b = true then m ρ h' else n ρ h') = r) : sIf mt m n ρ h = r := by rw [r_sIf, e]; exact k
/-! operators -/
@[simp] theorem r_add_int {i j : Int} : gAdd (.int i) (.int j) h = .val (.int (i + j)) h := rfl
@[simp] theorem r_I0 {f : Int → Int → D} {i j : Int} : gI0 f (.int i) (.int j) h = .val (f i j) h := rfl
theorem r_II {C : Int → Int → Prop} {f : Int → Int → D} {i j : Int} (c : C i j) : gII C f (.int i) (.int j) h = .val (f i j) h := by
  unfold gII; exact if_pos c
@[simp] theorem r_neg {i : Int} : gNeg (.int i) h = .val (.int (-i)) h := rfl
@[simp] theorem r_lt_int {i j : Int} : gLt (.int i) (.int j) h = .val (.bl (decide (i < j))) h := rfl
theorem r_mod {i j : Int} (c : 0 < j) : gMod (.int i) (.int j) h = .val (.int (i % j)) h := r_II c
theorem r_fdivG {i j : Int} (c : j ≠ 0) (c2 : j.natAbs < 2 ^ 9000) : gFdiv (.int i) (.int j) h = .val (.int (i.fdiv j)) h := r_II ⟨c, PySem.Flt.log2_lt_of (by decide) c2⟩
theorem r_fdiv {i j : Int} (c : 0 < j) (c2 : j.natAbs < 2 ^ 9000) : gFdiv (.int i) (.int j) h = .val (.int (i / j)) h := by
  rw [r_fdivG (by omega) c2, Int.fdiv_eq_ediv_of_nonneg i (by omega)]
theorem r_mul {i j : Int} {a b : Nat} (ha : i.natAbs < 2 ^ a) (hb : j.natAbs < 2 ^ b) (h0 : 0 < a) (h1 : 0 < b) (hs : a + b ≤ 1000000) : gMul (.int i) (.int j) h = .val (.int (i * j)) h := r_II (.inr (wide_mul ha hb h0 h1 hs))
theorem r_mulR {i j : Int} (h1 : -(2 ^ 64) < j) (h2 : j < 2 ^ 64) : gMul (.int i) (.int j) h = .val (.int (i * j)) h := r_II (.inl (.inr ⟨h1, h2⟩))
theorem r_mulL {i j : Int} (h1 : -(2 ^ 64) < i) (h2 : i < 2 ^ 64) : gMul (.int i) (.int j) h = .val (.int (i * j)) h := r_II (.inl (.inl ⟨h1, h2⟩))
theorem r_pow {i j : Int} (c : CPow i j) : gPow (.int i) (.int j) h = .val (.int (i ^ j.toNat)) h := r_II c
@[simp] theorem r_len_tup {xs : List D} : gLen [.tup xs] h = .val (.int xs.length) h := rfl
theorem r_len_lst {k : Nat} {xs : List D} (e : listAt h k = some xs) : gLen [.ref k] h = .val (.int xs.length) h := by
  unfold listAt at e; unfold gLen
  split at e
  · rename_i e1; cases e; dsimp only; rw [e1]
  · rename_i e1; cases e; dsimp only; rw [e1]
  · cases e
@[simp] theorem r_max2 {i j : Int} : gMax2 [.int i, .int j] h = .val (.int (if j > i then j else i)) h := rfl
@[simp] theorem r_min2 {i j : Int} : gMin2 [.int i, .int j] h = .val (.int (if j < i then j else i)) h := rfl
@[simp] theorem r_abs {i : Int} : gAbs [.int i] h = .val (.int (if i < 0 then -i else i)) h := rfl
@[simp] theorem r_int_i {i : Int} : gInt1 [.int i] h = .val (.int i) h := rfl
@[simp] theorem r_int_b {b : Bool} : gInt1 [.bl b] h = .val (.int (if b then 1 else 0)) h := rfl
@[simp] theorem r_tupOf_tup {xs : List D} : gTupOf [.tup xs] h = .val (.tup xs) h := rfl
theorem r_tupOf_lst {k : Nat} {xs : List D} (e : listAt h k = some xs) : gTupOf [.ref k] h = .val (.tup xs) h := by
  unfold gTupOf; dsimp only; rw [e]
theorem r_ix_tup {xs : List D} {k : Nat} {x : D} (e : xs[k]? = some x) : gIx (.tup xs) (.int (k : Int)) h = .val x h := by
  unfold gIx; dsimp only; rw [L2.atI_nat e]
@[simp] theorem r_ix0 {x : D} {xs : List D} : gIx (.tup (x :: xs)) (.int 0) h = .val x h := r_ix_tup (k := 0) rfl
@[simp] theorem r_ix1 {x y : D} {xs : List D} : gIx (.tup (x :: y :: xs)) (.int 1) h = .val y h := r_ix_tup (k := 1) rfl
theorem r_ix_lst {p : Nat} {xs : List D} {k : Nat} {x : D} (e0 : listAt h p = some xs) (e : xs[k]? = some x) : gIx (.ref p) (.int (k : Int)) h = .val x h := by
  unfold gIx; dsimp only; rw [e0]; dsimp only; rw [L2.atI_nat e]
theorem r_ix_tupI {xs : List D} {i : Int} {x : D} (e : L2.atI xs i = some x) : gIx (.tup xs) (.int i) h = .val x h := by
  unfold gIx; dsimp only; rw [e]
theorem r_ix_lstI {p : Nat} {xs : List D} {i : Int} {x : D} (e0 : listAt h p = some xs) (e : L2.atI xs i = some x) : gIx (.ref p) (.int i) h = .val x h := by
  unfold gIx; dsimp only; rw [e0]; dsimp only; rw [e]
@[simp] theorem r_sl_tup {xs : List D} {lo hi : Option Int} : gSl (.tup xs) lo hi h = .val (.tup (cutD xs lo hi)) h := rfl
theorem r_sl_lst {p : Nat} {xs : List D} {lo hi : Option Int} (e : listAt h p = some xs) : gSl (.ref p) lo hi h = .val (.ref h.length) (h ++ [.lst (cutD xs lo hi)]) := by
  unfold gSl; dsimp only; rw [e]
/-! equality of flat things -/
theorem r_eq_scal {d e : D} {h : DH} (z : scalD d e = true) : gEq d e h = .val (.bl (eqD d e)) h := if_pos z
theorem r_ne_scal {d e : D} {h : DH} (z : scalD d e = true) : gNe d e h = .val (.bl (!eqD d e)) h := if_pos z
@[simp] theorem r_eq_str {x y : Str} {h : DH} : gEq (.str x) (.str y) h = .val (.bl (x == y)) h := rfl
@[simp] theorem r_eq_int {x y : Int} {h : DH} : gEq (.int x) (.int y) h = .val (.bl (x == y)) h := rfl
@[simp] theorem r_ne_str {x y : Str} {h : DH} : gNe (.str x) (.str y) h = .val (.bl (!(x == y))) h := rfl
@[simp] theorem r_ne_int {x y : Int} {h : DH} : gNe (.int x) (.int y) h = .val (.bl (!(x == y))) h := rfl
/-! isinstance -/
@[simp] theorem r_isTy {T t : String} {b : Bool} (e : tyD h d = some t) (k : kitB t T = some b) : gIsTy [d, .raw (.ty T)] h = .val (.bl b) h := by
  unfold gIsTy; dsimp only; rw [e]; dsimp only; rw [k]
@[simp] theorem r_str_str {x : Str} : gIsTy [.str x, .raw (.ty "str")] h = .val (.bl true) h := r_isTy (t := "str") rfl (by decide +kernel)
@[simp] theorem r_tup_tup {x : List D} : gIsTy [.tup x, .raw (.ty "tuple")] h = .val (.bl true) h := r_isTy (t := "tuple") rfl (by decide +kernel)
@[simp] theorem r_int_int {x : Int} : gIsTy [.int x, .raw (.ty "int")] h = .val (.bl true) h := r_isTy (t := "int") rfl (by decide +kernel)
@[simp] theorem r_int_bool {x : Int} : gIsTy [.int x, .raw (.ty "bool")] h = .val (.bl false) h := r_isTy (t := "int") rfl (by decide +kernel)
@[simp] theorem r_bl_int {x : Bool} : gIsTy [.bl x, .raw (.ty "int")] h = .val (.bl true) h := r_isTy (t := "bool") rfl (by decide +kernel)
@[simp] theorem r_bl_bool {x : Bool} : gIsTy [.bl x, .raw (.ty "bool")] h = .val (.bl true) h := r_isTy (t := "bool") rfl (by decide +kernel)
end
/-! ### heaps that grow -/
theorem listAt_app {h j : DH} {n : Nat} {xs : List D} (e : listAt h n = some xs) : listAt (h ++ j) n = some xs := by
  unfold listAt at e ⊢
  cases q : h[n]? with
  | none => rw [q] at e; cases e
  | some o =>
    have hn := (List.getElem?_eq_some_iff.mp q).1
    rw [List.getElem?_append_left hn, q]
    rw [q] at e; exact e
theorem listAt_mid {h j : DH} {xs : List D} : listAt (h ++ .lst xs :: j) h.length = some xs := by
  unfold listAt
  rw [List.getElem?_append_right (Nat.le_refl _)]
  simp
theorem listAt_end {h : DH} {xs : List D} : listAt (h ++ [.lst xs]) h.length = some xs := listAt_mid
theorem get_mid {h j : DH} {o : DO} : (h ++ o :: j)[h.length]? = some o := by
  rw [List.getElem?_append_right (Nat.le_refl _)]; simp
theorem set_mid {h j : DH} {o o' : DO} : (h ++ o :: j).set h.length o' = h ++ o' :: j := by
  rw [List.set_append_right _ _ (Nat.le_refl _)]; simp
/-! ### comprehensions -/
/-- each element may lay things behind -/
theorem lcLoop_map {it : ItD} {all : List D} {c : CT} {mt : EM Bool} {me : EM D} {ρ : DEnv} {h : DH} {p : D → Bool} {g : D → D} (hit : ∀ acc j, it (h ++ .lst acc :: j) = some all) :
    ∀ (ds : List D) (acc : List D) (j : DH), acc.length + ds.length < sizeLine →
      (∀ d ∈ ds, ∃ ρ2, c.put d ρ = some ρ2 ∧ ∀ acc j, ∃ j1, mt ρ2 (h ++ .lst acc :: j) = .val (p d) (h ++ .lst acc :: (j ++ j1)) ∧ (p d = true → ∀ j, ∃ j2, me ρ2 (h ++ .lst acc :: j) = .val (g d) (h ++ .lst acc :: (j ++ j2)))) →
      ∃ j', lcLoop it all c mt me h.length ρ ds (h ++ .lst acc :: j) = .val (.ref h.length) (h ++ .lst (acc ++ (ds.filter p).map g) :: j')
  | [], acc, j, _, _ => by
    refine ⟨j, ?_⟩
    unfold lcLoop
    rw [if_pos (hit acc j)]
    simp
  | d :: ds, acc, j, hz, hs => by
    obtain ⟨ρ2, h1, h2⟩ := hs d List.mem_cons_self
    obtain ⟨j1, e1, h3⟩ := h2 acc j
    rw [List.length_cons] at hz
    unfold lcLoop
    rw [if_pos (hit acc j), h1]
    dsimp only
    rw [e1]
    cases hp : p d with
    | true =>
      obtain ⟨j2, e2⟩ := h3 hp (j ++ j1)
      dsimp only
      rw [e2]
      dsimp only
      rw [get_mid]
      dsimp only
      rw [if_pos (by omega), set_mid]
      obtain ⟨j', e⟩ := lcLoop_map hit ds (acc ++ [g d]) (j ++ j1 ++ j2) (by rw [List.length_append]; simp; omega) (fun d hd => hs d (List.mem_cons_of_mem _ hd))
      refine ⟨j', e.trans ?_⟩
      rw [List.filter_cons_of_pos hp]
      simp
    | false =>
      dsimp only
      obtain ⟨j', e⟩ := lcLoop_map hit ds acc (j ++ j1) (by omega) (fun d hd => hs d (List.mem_cons_of_mem _ hd))
      refine ⟨j', e.trans ?_⟩
      rw [List.filter_cons_of_neg (by rw [hp]; exact Bool.false_ne_true)]
theorem mLc_map {mi : EM ItD} {c : CT} {mt : EM Bool} {me : EM D} {vs : List Nat} {ρ : DEnv} {h0 h : DH} {it : ItD} {ds : List D} {p : D → Bool} {g : D → D} (e : mi ρ h0 = .val it h) (hit0 : it h = some ds) (hit : ∀ acc j, it (h ++ .lst acc :: j) = some ds) (hz : ds.length < sizeLine)
    (hs : ∀ d ∈ ds, ∃ ρ2, c.put d (wipeD ρ vs) = some ρ2 ∧ ∀ acc j, ∃ j1, mt ρ2 (h ++ .lst acc :: j) = .val (p d) (h ++ .lst acc :: (j ++ j1)) ∧ (p d = true → ∀ j, ∃ j2, me ρ2 (h ++ .lst acc :: j) = .val (g d) (h ++ .lst acc :: (j ++ j2)))) :
    ∃ j', mLc mi c mt me vs ρ h0 = .val (.ref h.length) (h ++ .lst ((ds.filter p).map g) :: j') := by
  unfold mLc
  rw [e]
  simp only [Out.bind_val]
  rw [hit0]
  dsimp only
  obtain ⟨j', e⟩ := lcLoop_map (ρ := wipeD ρ vs) (mt := mt) (me := me) (g := g) hit ds [] [] (by simpa using hz) hs
  exact ⟨j', by simpa using e⟩
/-! ### loops -/
theorem loopL_go {it : ItD} {all : List D} {g : GM} {m : SM} (Inv : Nat → DEnv → DH → Prop) (Ex : SOut → Prop) (hit : ∀ i ρ h, Inv i ρ h → it h = some all)
    (step : ∀ i d ρ h, all[i]? = some d → Inv i ρ h → ∃ ρ1 h1, g d ρ h = .nx ρ1 h1 ∧ ((∃ ρ2 h2, (m ρ1 h1 = .nx ρ2 h2 ∨ m ρ1 h1 = .cnt ρ2 h2) ∧ Inv (i + 1) ρ2 h2) ∨ (∃ ρ2 h2, m ρ1 h1 = .brk ρ2 h2 ∧ Ex (.nx ρ2 h2)) ∨ ((∃ d h2, m ρ1 h1 = .ret d h2 ∧ Ex (.ret d h2)) ∨ ∃ x ρ2 h2, m ρ1 h1 = .exc x ρ2 h2 ∧ Ex (.exc x ρ2 h2)))) :
    ∀ (ds : List D) (i : Nat) (ρ : DEnv) (h : DH), all.drop i = ds → i ≤ all.length → Inv i ρ h → (∃ ρ' h', loopL it all g m ds ρ h = .nx ρ' h' ∧ Inv all.length ρ' h') ∨ Ex (loopL it all g m ds ρ h)
  | [], i, ρ, h, e, hi, hI => by
    have : i = all.length := by
      have := congrArg List.length e
      simp at this; omega
    subst this
    unfold loopL
    rw [if_pos (hit _ _ _ hI)]
    exact .inl ⟨ρ, h, rfl, hI⟩
  | d :: ds, i, ρ, h, e, hi, hI => by
    have hd : all[i]? = some d := by
      have := congrArg List.head? e
      rw [List.head?_drop] at this
      exact this
    have hr : all.drop (i + 1) = ds := by
      have := congrArg List.tail e
      rw [List.tail_drop] at this
      exact this
    have hlt : i < all.length := (List.getElem?_eq_some_iff.mp hd).1
    unfold loopL
    rw [if_pos (hit _ _ _ hI)]
    obtain ⟨ρ1, h1, e1, z⟩ := step i d ρ h hd hI
    rw [e1]
    simp only [SOut.thn_nx]
    rcases z with ⟨ρ2, h2, z, I2⟩ | ⟨ρ2, h2, z, I2⟩ | ⟨d2, h2, z, I2⟩ | ⟨x, ρ2, h2, z, I2⟩
    · have ih := loopL_go Inv Ex hit step ds (i + 1) ρ2 h2 hr hlt I2
      rcases z with z | z
      · rw [z]; exact ih
      · rw [z]; exact ih
    · rw [z]; exact .inr I2
    · rw [z]; exact .inr I2
    · rw [z]; exact .inr I2
/-- a for and what follows it -/
theorem for_end {mi : EM ItD} {g : GM} {m n : SM} {ρ : DEnv} {h h1 : DH} {it : ItD} {all : List D} {P : Out D → Prop} (Inv : Nat → DEnv → DH → Prop) (Ex : SOut → Prop) (e : mi ρ h = .val it h1) (e2 : it h1 = some all) (hit : ∀ i ρ h, Inv i ρ h → it h = some all)
    (step : ∀ i d ρ h, all[i]? = some d → Inv i ρ h → ∃ ρ1 h1, g d ρ h = .nx ρ1 h1 ∧ ((∃ ρ2 h2, (m ρ1 h1 = .nx ρ2 h2 ∨ m ρ1 h1 = .cnt ρ2 h2) ∧ Inv (i + 1) ρ2 h2) ∨ (∃ ρ2 h2, m ρ1 h1 = .brk ρ2 h2 ∧ Ex (.nx ρ2 h2)) ∨ ((∃ d h2, m ρ1 h1 = .ret d h2 ∧ Ex (.ret d h2)) ∨ ∃ x ρ2 h2, m ρ1 h1 = .exc x ρ2 h2 ∧ Ex (.exc x ρ2 h2))))
    (i0 : Inv 0 ρ h1) (k1 : ∀ ρ' h', Inv all.length ρ' h' → P (n ρ' h').fin) (k2 : ∀ o, Ex o → P (o.thn n).fin) : P ((sFor mi g m ρ h).thn n).fin := by
  rw [r_for e e2]
  rcases loopL_go Inv Ex hit step all 0 ρ h1 rfl (Nat.zero_le _) i0 with ⟨ρ', h', e3, z⟩ | z
  · rw [e3]; exact k1 ρ' h' z
  · exact k2 _ z
/-- the same within a block -/
theorem for_endS {mi : EM ItD} {g : GM} {m n : SM} {ρ : DEnv} {h h1 : DH} {it : ItD} {all : List D} {P : SOut → Prop} (Inv : Nat → DEnv → DH → Prop) (Ex : SOut → Prop) (e : mi ρ h = .val it h1) (e2 : it h1 = some all) (hit : ∀ i ρ h, Inv i ρ h → it h = some all)
    (step : ∀ i d ρ h, all[i]? = some d → Inv i ρ h → ∃ ρ1 h1, g d ρ h = .nx ρ1 h1 ∧ ((∃ ρ2 h2, (m ρ1 h1 = .nx ρ2 h2 ∨ m ρ1 h1 = .cnt ρ2 h2) ∧ Inv (i + 1) ρ2 h2) ∨ (∃ ρ2 h2, m ρ1 h1 = .brk ρ2 h2 ∧ Ex (.nx ρ2 h2)) ∨ ((∃ d h2, m ρ1 h1 = .ret d h2 ∧ Ex (.ret d h2)) ∨ ∃ x ρ2 h2, m ρ1 h1 = .exc x ρ2 h2 ∧ Ex (.exc x ρ2 h2))))
    (i0 : Inv 0 ρ h1) (k1 : ∀ ρ' h', Inv all.length ρ' h' → P (n ρ' h')) (k2 : ∀ o, Ex o → P (o.thn n)) : P ((sFor mi g m ρ h).thn n) := by
  rw [r_for e e2]
  rcases loopL_go Inv Ex hit step all 0 ρ h1 rfl (Nat.zero_le _) i0 with ⟨ρ', h', e3, z⟩ | z
  · rw [e3]; exact k1 ρ' h' z
  · exact k2 _ z
theorem range_at {lo : Int} {n i : Nat} {d : D} (h : (rangeD lo n)[i]? = some d) : i < n ∧ d = .int (lo + (i : Int)) := by
  have hi : i < n := by
    have := (List.getElem?_eq_some_iff.mp h).1
    simpa [rangeD] using this
  refine ⟨hi, ?_⟩
  unfold rangeD at h
  rw [List.getElem?_map, List.getElem?_range hi] at h
  simpa using h.symm
end DL

namespace DL
open PySem PySem.Spec PyProof.Rows L2
/-! ### fractions -/
/-- what both are divided by -/
def rtS (t b : Int) : Int := if b < 0 then 0 - (Nat.gcd b.natAbs t.natAbs : Int) else (Nat.gcd b.natAbs t.natAbs : Int)
def rtP (t b : Int) : Int := t.fdiv (rtS t b)
def rtQ (t b : Int) : Int := b.fdiv (rtS t b)
theorem gcd_pos {t b : Int} (hb : b ≠ 0) : 0 < Nat.gcd b.natAbs t.natAbs := Nat.gcd_pos_of_pos_left _ (by omega)
theorem rtS_ne {t b : Int} (hb : b ≠ 0) : rtS t b ≠ 0 := by
  have := gcd_pos (t := t) hb
  unfold rtS; split <;> omega
theorem rtS_abs (t b : Int) : (rtS t b).natAbs = Nat.gcd b.natAbs t.natAbs := by
  unfold rtS; split <;> omega
theorem rtS_le {t b : Int} (hb : b ≠ 0) : (rtS t b).natAbs ≤ b.natAbs := by
  rw [rtS_abs]
  exact Nat.gcd_le_left _ (by omega)
theorem rtS_dt (t b : Int) : rtS t b ∣ t := by
  rw [← Int.natAbs_dvd_natAbs, rtS_abs]
  exact Nat.gcd_dvd_right _ _
theorem rtS_db (t b : Int) : rtS t b ∣ b := by
  rw [← Int.natAbs_dvd_natAbs, rtS_abs]
  exact Nat.gcd_dvd_left _ _
theorem rtP_mul (t b : Int) : rtP t b * rtS t b = t := by
  unfold rtP
  rw [Int.fdiv_eq_ediv_of_dvd (rtS_dt t b)]
  exact Int.ediv_mul_cancel (rtS_dt t b)
theorem rtQ_mul (t b : Int) : rtQ t b * rtS t b = b := by
  unfold rtQ
  rw [Int.fdiv_eq_ediv_of_dvd (rtS_db t b)]
  exact Int.ediv_mul_cancel (rtS_db t b)
theorem rtQ_pos {t b : Int} (hb : b ≠ 0) : 1 ≤ rtQ t b := by
  have h := rtQ_mul t b
  have g := gcd_pos (t := t) hb
  by_cases z : 1 ≤ rtQ t b
  · exact z
  · exfalso
    have hq : rtQ t b ≤ 0 := by omega
    by_cases hn : b < 0
    · have hs : rtS t b < 0 := by unfold rtS; rw [if_pos hn]; omega
      have := Int.mul_nonneg_of_nonpos_of_nonpos hq (Int.le_of_lt hs)
      omega
    · have hs : 0 < rtS t b := by unfold rtS; rw [if_neg hn]; omega
      have := Int.mul_nonpos_of_nonpos_of_nonneg hq (Int.le_of_lt hs)
      omega
theorem rt_cop {t b : Int} (hb : b ≠ 0) : Nat.gcd (rtP t b).natAbs (rtQ t b).natAbs = 1 := by
  have hp := congrArg Int.natAbs (rtP_mul t b)
  have hq := congrArg Int.natAbs (rtQ_mul t b)
  rw [Int.natAbs_mul, rtS_abs] at hp hq
  have g := gcd_pos (t := t) hb
  have e : Nat.gcd ((rtP t b).natAbs * Nat.gcd b.natAbs t.natAbs) ((rtQ t b).natAbs * Nat.gcd b.natAbs t.natAbs) = Nat.gcd b.natAbs t.natAbs := by
    rw [hp, hq, Nat.gcd_comm]
  rw [Nat.gcd_mul_right] at e
  exact Nat.eq_of_mul_eq_mul_right g (by rw [e, Nat.one_mul])
theorem rt_cross (t b : Int) : rtP t b * b = t * rtQ t b := by
  have h1 := rtP_mul t b
  have h2 := rtQ_mul t b
  calc rtP t b * b = rtP t b * (rtQ t b * rtS t b) := by rw [h2]
    _ = (rtP t b * rtS t b) * rtQ t b := by rw [Int.mul_comm (rtQ t b), Int.mul_assoc]
    _ = t * rtQ t b := by rw [h1]
/-- one fraction in lowest terms -/
theorem low_eq {p q a c : Int} (hq : 1 ≤ q) (hc : 1 ≤ c) (g1 : Nat.gcd p.natAbs q.natAbs = 1) (g2 : Nat.gcd a.natAbs c.natAbs = 1) (e : p * c = a * q) : p = a ∧ q = c := by
  have en := congrArg Int.natAbs e
  rw [Int.natAbs_mul, Int.natAbs_mul] at en
  have d1 : q.natAbs ∣ c.natAbs := Nat.Coprime.dvd_of_dvd_mul_left (k := q.natAbs) (m := p.natAbs) (n := c.natAbs) (by rw [Nat.coprime_iff_gcd_eq_one, Nat.gcd_comm]; exact g1) (by rw [en]; exact Nat.dvd_mul_left _ _)
  have d2 : c.natAbs ∣ q.natAbs := Nat.Coprime.dvd_of_dvd_mul_left (k := c.natAbs) (m := a.natAbs) (n := q.natAbs) (by rw [Nat.coprime_iff_gcd_eq_one, Nat.gcd_comm]; exact g2) (by rw [← en]; exact Nat.dvd_mul_left _ _)
  have e2 := Nat.dvd_antisymm d1 d2
  have e3 : q = c := by omega
  subst e3
  exact ⟨Int.eq_of_mul_eq_mul_right (by omega) e, rfl⟩
theorem rt_le {t b : Int} (hb : b ≠ 0) : (rtP t b).natAbs ≤ t.natAbs ∧ (rtQ t b).natAbs ≤ b.natAbs := by
  have hp := congrArg Int.natAbs (rtP_mul t b)
  have hq := congrArg Int.natAbs (rtQ_mul t b)
  rw [Int.natAbs_mul, rtS_abs] at hp hq
  have g := gcd_pos (t := t) hb
  exact ⟨by rw [← hp]; exact Nat.le_mul_of_pos_right _ g, by rw [← hq]; exact Nat.le_mul_of_pos_right _ g⟩
/-! ### bounds -/
def Bd (n : Nat) (z : Int) : Prop := z.natAbs < 2 ^ n
theorem Bd.mono {m n : Nat} {z : Int} (h : Bd m z) (l : m ≤ n) : Bd n z := Nat.lt_of_lt_of_le h (Nat.pow_le_pow_right (by decide) l)
theorem Bd.mul {m n : Nat} {x y : Int} (h : Bd m x) (k : Bd n y) : Bd (m + n) (x * y) := by
  unfold Bd at *
  rw [Int.natAbs_mul, Nat.pow_add]
  exact Nat.mul_lt_mul'' h k
theorem Bd.add {n : Nat} {x y : Int} (h : Bd n x) (k : Bd n y) : Bd (n + 1) (x + y) := by
  unfold Bd at *
  rw [Nat.pow_succ]
  have := Int.natAbs_add_le x y
  omega
theorem Bd.sub {n : Nat} {x y : Int} (h : Bd n x) (k : Bd n y) : Bd (n + 1) (x - y) := by
  unfold Bd at *
  rw [Nat.pow_succ]
  have := Int.natAbs_sub_le x y
  omega
theorem Bd.le {n : Nat} {x y : Int} (h : Bd n x) (k : y.natAbs ≤ x.natAbs) : Bd n y := Nat.lt_of_le_of_lt k h
theorem Bd.rt {n m : Nat} {t b : Int} (ht : Bd n t) (hb : Bd m b) (h0 : b ≠ 0) : Bd n (rtP t b) ∧ Bd m (rtQ t b) := ⟨ht.le (rt_le h0).1, hb.le (rt_le h0).2⟩
theorem r_mulB {x y : Int} {h : DH} {m n : Nat} (hx : Bd m x) (hy : Bd n y) (h0 : 0 < m := by decide) (h1 : 0 < n := by decide) (hs : m + n ≤ 1000000 := by decide) : gMul (.int x) (.int y) h = .val (.int (x * y)) h := r_mul hx hy h0 h1 hs
end DL

namespace Wk12
open PySem PySem.Spec PyProof.Rows L2 DL
def topS (i : Nat) : Stmt := PySem.Challenge.pw_heirbook_k12_texts_of_no_way.main.body.getD i (.Pass ⟨0, 0, 0, 0⟩)
abbrev s_read_way : Stmt := topS 21
abbrev N_read_way : List Str := ["text", "steps", "step"]
theorem sc_read_way : FnScope N_read_way ["text"] (defScope s_read_way) := ⟨rfl, rfl, rfl, by decide +kernel, rfl, by decide +kernel, by decide +kernel⟩
abbrev s__law_cell_at : Stmt := topS 23
abbrev N__law_cell_at : List Str := ["_law_script", "_law_k"]
theorem sc__law_cell_at : FnScope N__law_cell_at ["_law_script", "_law_k"] (defScope s__law_cell_at) := ⟨rfl, rfl, rfl, by decide +kernel, rfl, by decide +kernel, by decide +kernel⟩
abbrev s__law_read : Stmt := topS 24
abbrev N__law_read : List Str := ["_law_text_here", "_law_words", "_law_word", "_law_sign", "_law_step"]
theorem sc__law_read : FnScope N__law_read ["_law_text_here"] (defScope s__law_read) := ⟨rfl, rfl, rfl, by decide +kernel, rfl, by decide +kernel, by decide +kernel⟩
abbrev s__law_good : Stmt := topS 25
abbrev N__law_good : List Str := ["_law_cells", "_law_some", "_law_cell"]
theorem sc__law_good : FnScope N__law_good ["_law_cells"] (defScope s__law_good) := ⟨rfl, rfl, rfl, by decide +kernel, rfl, by decide +kernel, by decide +kernel⟩
abbrev s__law_spoiled : Stmt := topS 26
abbrev N__law_spoiled : List Str := ["_law_text_here", "_law_cell", "_law_way", "_law_signs", "_law_sign", "_law_at"]
theorem sc__law_spoiled : FnScope N__law_spoiled ["_law_text_here", "_law_cell", "_law_way"] (defScope s__law_spoiled) := ⟨rfl, rfl, rfl, by decide +kernel, rfl, by decide +kernel, by decide +kernel⟩
abbrev s__law_pieces : Stmt := topS 27
abbrev N__law_pieces : List Str := ["_law_cells", "_law_some", "_law_text_here", "_law_cell"]
theorem sc__law_pieces : FnScope N__law_pieces ["_law_cells"] (defScope s__law_pieces) := ⟨rfl, rfl, rfl, by decide +kernel, rfl, by decide +kernel, by decide +kernel⟩
abbrev s__law_text : Stmt := topS 28
abbrev N__law_text : List Str := ["_law_script", "_law_way", "_law_text_here"]
theorem sc__law_text : FnScope N__law_text ["_law_script"] (defScope s__law_text) := ⟨rfl, rfl, rfl, by decide +kernel, rfl, by decide +kernel, by decide +kernel⟩
abbrev s__law_told : Stmt := topS 29
abbrev N__law_told : List Str := ["_law_thing", "_law_found", "_law_right", "e"]
theorem sc__law_told : FnScope N__law_told ["_law_thing"] (defScope s__law_told) := ⟨rfl, rfl, rfl, by decide +kernel, rfl, by decide +kernel, by decide +kernel⟩
abbrev s_law : Stmt := topS 30
abbrev N_law : List Str := ["_law_script", "_law_thing", "_law_due", "_law_told_here", "_law_good_here"]
theorem sc_law : FnScope N_law ["_law_script"] (defScope s_law) := ⟨rfl, rfl, rfl, by decide +kernel, rfl, by decide +kernel, by decide +kernel⟩
def tbl_BACK : Str → Option D := fun z => if z = "F" then some (.str "f") else if z = "M" then some (.str "m") else if z = "T" then some (.str "t") else if z = "f" then some (.str "F") else if z = "m" then some (.str "M") else if z = "t" then some (.str "T") else if z = "S" then some (.str "S") else if z = "he" then some (.str "he") else if z = "she" then some (.str "she") else none
def keys_BACK : List Str := ["F", "M", "T", "f", "m", "t", "S", "he", "she"]
theorem tblS_BACK : ∀ z, (tbl_BACK z).isSome = keys_BACK.contains z := by
  intro z
  unfold tbl_BACK keys_BACK
  simp only [List.contains_cons, List.contains_nil]
  by_cases e : z = "F"
  · subst e; simp
  rw [if_neg e, beq_eq_false_iff_ne.mpr e, Bool.false_or]
  by_cases e : z = "M"
  · subst e; simp
  rw [if_neg e, beq_eq_false_iff_ne.mpr e, Bool.false_or]
  by_cases e : z = "T"
  · subst e; simp
  rw [if_neg e, beq_eq_false_iff_ne.mpr e, Bool.false_or]
  by_cases e : z = "f"
  · subst e; simp
  rw [if_neg e, beq_eq_false_iff_ne.mpr e, Bool.false_or]
  by_cases e : z = "m"
  · subst e; simp
  rw [if_neg e, beq_eq_false_iff_ne.mpr e, Bool.false_or]
  by_cases e : z = "t"
  · subst e; simp
  rw [if_neg e, beq_eq_false_iff_ne.mpr e, Bool.false_or]
  by_cases e : z = "S"
  · subst e; simp
  rw [if_neg e, beq_eq_false_iff_ne.mpr e, Bool.false_or]
  by_cases e : z = "he"
  · subst e; simp
  rw [if_neg e, beq_eq_false_iff_ne.mpr e, Bool.false_or]
  by_cases e : z = "she"
  · subst e; simp
  rw [if_neg e, beq_eq_false_iff_ne.mpr e, Bool.false_or]
  rfl
structure Ad where
  z : Unit := ()
  c_Alive : Addr
  c_Barred : Addr
  c_Full : Addr
  c_HeirError : Addr
  c_Marked : Addr
  c_NoCode : Addr
  c_NoEntry : Addr
  c_NoFit : Addr
  c_NoNumber : Addr
  c_NoPerson : Addr
  c_NoRow : Addr
  c_NoTongue : Addr
  c_NoWay : Addr
  c_NoWord : Addr
  c_TooMany : Addr
  c_Twice : Addr
  c_Unsure : Addr
  a_BACK : Addr
def isEx (A : Ad) (cls : Value) : Prop := cls = .ref A.c_NoWay ∨ False
noncomputable def em_NoWay (A : Ad) (cls : Value) : Option Bool := by classical exact (if cls = .ref A.c_NoWay then some true else none)
theorem exOf_NoWay (A : Ad) (cls : Value) (h : em_NoWay A cls = some true) : isEx A cls := by
  unfold em_NoWay at h
  unfold isEx
  try dsimp only at h
  repeat (rcases ite_or h with ⟨e, _⟩ | h; · simp [e])
  cases h
noncomputable def kitV (A : Ad) (cls c : Value) : Option Bool := by classical exact (if cls = .ref A.c_NoWay ∧ c = .ref A.c_Alive then some false else if cls = .ref A.c_NoWay ∧ c = .ref A.c_Barred then some false else if cls = .ref A.c_NoWay ∧ c = .ref A.c_Full then some false else if cls = .ref A.c_NoWay ∧ c = .ref A.c_HeirError then some true else if cls = .ref A.c_NoWay ∧ c = .ref A.c_Marked then some false else if cls = .ref A.c_NoWay ∧ c = .ref A.c_NoCode then some false else if cls = .ref A.c_NoWay ∧ c = .ref A.c_NoEntry then some false else if cls = .ref A.c_NoWay ∧ c = .ref A.c_NoFit then some false else if cls = .ref A.c_NoWay ∧ c = .ref A.c_NoNumber then some false else if cls = .ref A.c_NoWay ∧ c = .ref A.c_NoPerson then some false else if cls = .ref A.c_NoWay ∧ c = .ref A.c_NoRow then some false else if cls = .ref A.c_NoWay ∧ c = .ref A.c_NoTongue then some false else if cls = .ref A.c_NoWay ∧ c = .ref A.c_NoWord then some false else if cls = .ref A.c_NoWay ∧ c = .ref A.c_TooMany then some false else if cls = .ref A.c_NoWay ∧ c = .ref A.c_Twice then some false else if cls = .ref A.c_NoWay ∧ c = .ref A.c_Unsure then some false else if cls = .ref A.c_NoWay ∧ c = .type "ValueError" then some true else none)
structure AdOk (A : Ad) : Prop where
  z : True
  ne_Alive_Barred : A.c_Alive ≠ A.c_Barred
  ne_Alive_Full : A.c_Alive ≠ A.c_Full
  ne_Alive_HeirError : A.c_Alive ≠ A.c_HeirError
  ne_Alive_Marked : A.c_Alive ≠ A.c_Marked
  ne_Alive_NoCode : A.c_Alive ≠ A.c_NoCode
  ne_Alive_NoEntry : A.c_Alive ≠ A.c_NoEntry
  ne_Alive_NoFit : A.c_Alive ≠ A.c_NoFit
  ne_Alive_NoNumber : A.c_Alive ≠ A.c_NoNumber
  ne_Alive_NoPerson : A.c_Alive ≠ A.c_NoPerson
  ne_Alive_NoRow : A.c_Alive ≠ A.c_NoRow
  ne_Alive_NoTongue : A.c_Alive ≠ A.c_NoTongue
  ne_Alive_NoWay : A.c_Alive ≠ A.c_NoWay
  ne_Alive_NoWord : A.c_Alive ≠ A.c_NoWord
  ne_Alive_TooMany : A.c_Alive ≠ A.c_TooMany
  ne_Alive_Twice : A.c_Alive ≠ A.c_Twice
  ne_Alive_Unsure : A.c_Alive ≠ A.c_Unsure
  ne_Barred_Full : A.c_Barred ≠ A.c_Full
  ne_Barred_HeirError : A.c_Barred ≠ A.c_HeirError
  ne_Barred_Marked : A.c_Barred ≠ A.c_Marked
  ne_Barred_NoCode : A.c_Barred ≠ A.c_NoCode
  ne_Barred_NoEntry : A.c_Barred ≠ A.c_NoEntry
  ne_Barred_NoFit : A.c_Barred ≠ A.c_NoFit
  ne_Barred_NoNumber : A.c_Barred ≠ A.c_NoNumber
  ne_Barred_NoPerson : A.c_Barred ≠ A.c_NoPerson
  ne_Barred_NoRow : A.c_Barred ≠ A.c_NoRow
  ne_Barred_NoTongue : A.c_Barred ≠ A.c_NoTongue
  ne_Barred_NoWay : A.c_Barred ≠ A.c_NoWay
  ne_Barred_NoWord : A.c_Barred ≠ A.c_NoWord
  ne_Barred_TooMany : A.c_Barred ≠ A.c_TooMany
  ne_Barred_Twice : A.c_Barred ≠ A.c_Twice
  ne_Barred_Unsure : A.c_Barred ≠ A.c_Unsure
  ne_Full_HeirError : A.c_Full ≠ A.c_HeirError
  ne_Full_Marked : A.c_Full ≠ A.c_Marked
  ne_Full_NoCode : A.c_Full ≠ A.c_NoCode
  ne_Full_NoEntry : A.c_Full ≠ A.c_NoEntry
  ne_Full_NoFit : A.c_Full ≠ A.c_NoFit
  ne_Full_NoNumber : A.c_Full ≠ A.c_NoNumber
  ne_Full_NoPerson : A.c_Full ≠ A.c_NoPerson
  ne_Full_NoRow : A.c_Full ≠ A.c_NoRow
  ne_Full_NoTongue : A.c_Full ≠ A.c_NoTongue
  ne_Full_NoWay : A.c_Full ≠ A.c_NoWay
  ne_Full_NoWord : A.c_Full ≠ A.c_NoWord
  ne_Full_TooMany : A.c_Full ≠ A.c_TooMany
  ne_Full_Twice : A.c_Full ≠ A.c_Twice
  ne_Full_Unsure : A.c_Full ≠ A.c_Unsure
  ne_HeirError_Marked : A.c_HeirError ≠ A.c_Marked
  ne_HeirError_NoCode : A.c_HeirError ≠ A.c_NoCode
  ne_HeirError_NoEntry : A.c_HeirError ≠ A.c_NoEntry
  ne_HeirError_NoFit : A.c_HeirError ≠ A.c_NoFit
  ne_HeirError_NoNumber : A.c_HeirError ≠ A.c_NoNumber
  ne_HeirError_NoPerson : A.c_HeirError ≠ A.c_NoPerson
  ne_HeirError_NoRow : A.c_HeirError ≠ A.c_NoRow
  ne_HeirError_NoTongue : A.c_HeirError ≠ A.c_NoTongue
  ne_HeirError_NoWay : A.c_HeirError ≠ A.c_NoWay
  ne_HeirError_NoWord : A.c_HeirError ≠ A.c_NoWord
  ne_HeirError_TooMany : A.c_HeirError ≠ A.c_TooMany
  ne_HeirError_Twice : A.c_HeirError ≠ A.c_Twice
  ne_HeirError_Unsure : A.c_HeirError ≠ A.c_Unsure
  ne_Marked_NoCode : A.c_Marked ≠ A.c_NoCode
  ne_Marked_NoEntry : A.c_Marked ≠ A.c_NoEntry
  ne_Marked_NoFit : A.c_Marked ≠ A.c_NoFit
  ne_Marked_NoNumber : A.c_Marked ≠ A.c_NoNumber
  ne_Marked_NoPerson : A.c_Marked ≠ A.c_NoPerson
  ne_Marked_NoRow : A.c_Marked ≠ A.c_NoRow
  ne_Marked_NoTongue : A.c_Marked ≠ A.c_NoTongue
  ne_Marked_NoWay : A.c_Marked ≠ A.c_NoWay
  ne_Marked_NoWord : A.c_Marked ≠ A.c_NoWord
  ne_Marked_TooMany : A.c_Marked ≠ A.c_TooMany
  ne_Marked_Twice : A.c_Marked ≠ A.c_Twice
  ne_Marked_Unsure : A.c_Marked ≠ A.c_Unsure
  ne_NoCode_NoEntry : A.c_NoCode ≠ A.c_NoEntry
  ne_NoCode_NoFit : A.c_NoCode ≠ A.c_NoFit
  ne_NoCode_NoNumber : A.c_NoCode ≠ A.c_NoNumber
  ne_NoCode_NoPerson : A.c_NoCode ≠ A.c_NoPerson
  ne_NoCode_NoRow : A.c_NoCode ≠ A.c_NoRow
  ne_NoCode_NoTongue : A.c_NoCode ≠ A.c_NoTongue
  ne_NoCode_NoWay : A.c_NoCode ≠ A.c_NoWay
  ne_NoCode_NoWord : A.c_NoCode ≠ A.c_NoWord
  ne_NoCode_TooMany : A.c_NoCode ≠ A.c_TooMany
  ne_NoCode_Twice : A.c_NoCode ≠ A.c_Twice
  ne_NoCode_Unsure : A.c_NoCode ≠ A.c_Unsure
  ne_NoEntry_NoFit : A.c_NoEntry ≠ A.c_NoFit
  ne_NoEntry_NoNumber : A.c_NoEntry ≠ A.c_NoNumber
  ne_NoEntry_NoPerson : A.c_NoEntry ≠ A.c_NoPerson
  ne_NoEntry_NoRow : A.c_NoEntry ≠ A.c_NoRow
  ne_NoEntry_NoTongue : A.c_NoEntry ≠ A.c_NoTongue
  ne_NoEntry_NoWay : A.c_NoEntry ≠ A.c_NoWay
  ne_NoEntry_NoWord : A.c_NoEntry ≠ A.c_NoWord
  ne_NoEntry_TooMany : A.c_NoEntry ≠ A.c_TooMany
  ne_NoEntry_Twice : A.c_NoEntry ≠ A.c_Twice
  ne_NoEntry_Unsure : A.c_NoEntry ≠ A.c_Unsure
  ne_NoFit_NoNumber : A.c_NoFit ≠ A.c_NoNumber
  ne_NoFit_NoPerson : A.c_NoFit ≠ A.c_NoPerson
  ne_NoFit_NoRow : A.c_NoFit ≠ A.c_NoRow
  ne_NoFit_NoTongue : A.c_NoFit ≠ A.c_NoTongue
  ne_NoFit_NoWay : A.c_NoFit ≠ A.c_NoWay
  ne_NoFit_NoWord : A.c_NoFit ≠ A.c_NoWord
  ne_NoFit_TooMany : A.c_NoFit ≠ A.c_TooMany
  ne_NoFit_Twice : A.c_NoFit ≠ A.c_Twice
  ne_NoFit_Unsure : A.c_NoFit ≠ A.c_Unsure
  ne_NoNumber_NoPerson : A.c_NoNumber ≠ A.c_NoPerson
  ne_NoNumber_NoRow : A.c_NoNumber ≠ A.c_NoRow
  ne_NoNumber_NoTongue : A.c_NoNumber ≠ A.c_NoTongue
  ne_NoNumber_NoWay : A.c_NoNumber ≠ A.c_NoWay
  ne_NoNumber_NoWord : A.c_NoNumber ≠ A.c_NoWord
  ne_NoNumber_TooMany : A.c_NoNumber ≠ A.c_TooMany
  ne_NoNumber_Twice : A.c_NoNumber ≠ A.c_Twice
  ne_NoNumber_Unsure : A.c_NoNumber ≠ A.c_Unsure
  ne_NoPerson_NoRow : A.c_NoPerson ≠ A.c_NoRow
  ne_NoPerson_NoTongue : A.c_NoPerson ≠ A.c_NoTongue
  ne_NoPerson_NoWay : A.c_NoPerson ≠ A.c_NoWay
  ne_NoPerson_NoWord : A.c_NoPerson ≠ A.c_NoWord
  ne_NoPerson_TooMany : A.c_NoPerson ≠ A.c_TooMany
  ne_NoPerson_Twice : A.c_NoPerson ≠ A.c_Twice
  ne_NoPerson_Unsure : A.c_NoPerson ≠ A.c_Unsure
  ne_NoRow_NoTongue : A.c_NoRow ≠ A.c_NoTongue
  ne_NoRow_NoWay : A.c_NoRow ≠ A.c_NoWay
  ne_NoRow_NoWord : A.c_NoRow ≠ A.c_NoWord
  ne_NoRow_TooMany : A.c_NoRow ≠ A.c_TooMany
  ne_NoRow_Twice : A.c_NoRow ≠ A.c_Twice
  ne_NoRow_Unsure : A.c_NoRow ≠ A.c_Unsure
  ne_NoTongue_NoWay : A.c_NoTongue ≠ A.c_NoWay
  ne_NoTongue_NoWord : A.c_NoTongue ≠ A.c_NoWord
  ne_NoTongue_TooMany : A.c_NoTongue ≠ A.c_TooMany
  ne_NoTongue_Twice : A.c_NoTongue ≠ A.c_Twice
  ne_NoTongue_Unsure : A.c_NoTongue ≠ A.c_Unsure
  ne_NoWay_NoWord : A.c_NoWay ≠ A.c_NoWord
  ne_NoWay_TooMany : A.c_NoWay ≠ A.c_TooMany
  ne_NoWay_Twice : A.c_NoWay ≠ A.c_Twice
  ne_NoWay_Unsure : A.c_NoWay ≠ A.c_Unsure
  ne_NoWord_TooMany : A.c_NoWord ≠ A.c_TooMany
  ne_NoWord_Twice : A.c_NoWord ≠ A.c_Twice
  ne_NoWord_Unsure : A.c_NoWord ≠ A.c_Unsure
  ne_TooMany_Twice : A.c_TooMany ≠ A.c_Twice
  ne_TooMany_Unsure : A.c_TooMany ≠ A.c_Unsure
  ne_Twice_Unsure : A.c_Twice ≠ A.c_Unsure
structure Txt (K : PySem.W.Frag) (w : World) (mg : Str → Option Value) (A : Ad) : Prop where
  z : True
  n_ValueError : mg "ValueError" = none
  n_isinstance : mg "isinstance" = none
  n_len : mg "len" = none
  n_list : mg "list" = none
  n_str : mg "str" = none
  n_tuple : mg "tuple" = none
  c_Alive : mg "Alive" = some (.ref A.c_Alive)
  kc_Alive : PySem.W.keepIn K (.ref A.c_Alive) = true
  sb_Alive : PySem.W.subIn K (.ref A.c_Alive) (.type "BaseException") = some true
  tc_Alive : PySem.W.typeIn K (.ref A.c_Alive) = some (.type "type")
  c_Barred : mg "Barred" = some (.ref A.c_Barred)
  kc_Barred : PySem.W.keepIn K (.ref A.c_Barred) = true
  sb_Barred : PySem.W.subIn K (.ref A.c_Barred) (.type "BaseException") = some true
  tc_Barred : PySem.W.typeIn K (.ref A.c_Barred) = some (.type "type")
  c_Full : mg "Full" = some (.ref A.c_Full)
  kc_Full : PySem.W.keepIn K (.ref A.c_Full) = true
  sb_Full : PySem.W.subIn K (.ref A.c_Full) (.type "BaseException") = some true
  tc_Full : PySem.W.typeIn K (.ref A.c_Full) = some (.type "type")
  c_HeirError : mg "HeirError" = some (.ref A.c_HeirError)
  kc_HeirError : PySem.W.keepIn K (.ref A.c_HeirError) = true
  sb_HeirError : PySem.W.subIn K (.ref A.c_HeirError) (.type "BaseException") = some true
  tc_HeirError : PySem.W.typeIn K (.ref A.c_HeirError) = some (.type "type")
  c_Marked : mg "Marked" = some (.ref A.c_Marked)
  kc_Marked : PySem.W.keepIn K (.ref A.c_Marked) = true
  sb_Marked : PySem.W.subIn K (.ref A.c_Marked) (.type "BaseException") = some true
  tc_Marked : PySem.W.typeIn K (.ref A.c_Marked) = some (.type "type")
  c_NoCode : mg "NoCode" = some (.ref A.c_NoCode)
  kc_NoCode : PySem.W.keepIn K (.ref A.c_NoCode) = true
  sb_NoCode : PySem.W.subIn K (.ref A.c_NoCode) (.type "BaseException") = some true
  tc_NoCode : PySem.W.typeIn K (.ref A.c_NoCode) = some (.type "type")
  c_NoEntry : mg "NoEntry" = some (.ref A.c_NoEntry)
  kc_NoEntry : PySem.W.keepIn K (.ref A.c_NoEntry) = true
  sb_NoEntry : PySem.W.subIn K (.ref A.c_NoEntry) (.type "BaseException") = some true
  tc_NoEntry : PySem.W.typeIn K (.ref A.c_NoEntry) = some (.type "type")
  c_NoFit : mg "NoFit" = some (.ref A.c_NoFit)
  kc_NoFit : PySem.W.keepIn K (.ref A.c_NoFit) = true
  sb_NoFit : PySem.W.subIn K (.ref A.c_NoFit) (.type "BaseException") = some true
  tc_NoFit : PySem.W.typeIn K (.ref A.c_NoFit) = some (.type "type")
  c_NoNumber : mg "NoNumber" = some (.ref A.c_NoNumber)
  kc_NoNumber : PySem.W.keepIn K (.ref A.c_NoNumber) = true
  sb_NoNumber : PySem.W.subIn K (.ref A.c_NoNumber) (.type "BaseException") = some true
  tc_NoNumber : PySem.W.typeIn K (.ref A.c_NoNumber) = some (.type "type")
  c_NoPerson : mg "NoPerson" = some (.ref A.c_NoPerson)
  kc_NoPerson : PySem.W.keepIn K (.ref A.c_NoPerson) = true
  sb_NoPerson : PySem.W.subIn K (.ref A.c_NoPerson) (.type "BaseException") = some true
  tc_NoPerson : PySem.W.typeIn K (.ref A.c_NoPerson) = some (.type "type")
  c_NoRow : mg "NoRow" = some (.ref A.c_NoRow)
  kc_NoRow : PySem.W.keepIn K (.ref A.c_NoRow) = true
  sb_NoRow : PySem.W.subIn K (.ref A.c_NoRow) (.type "BaseException") = some true
  tc_NoRow : PySem.W.typeIn K (.ref A.c_NoRow) = some (.type "type")
  c_NoTongue : mg "NoTongue" = some (.ref A.c_NoTongue)
  kc_NoTongue : PySem.W.keepIn K (.ref A.c_NoTongue) = true
  sb_NoTongue : PySem.W.subIn K (.ref A.c_NoTongue) (.type "BaseException") = some true
  tc_NoTongue : PySem.W.typeIn K (.ref A.c_NoTongue) = some (.type "type")
  c_NoWay : mg "NoWay" = some (.ref A.c_NoWay)
  x_NoWay : PySem.W.excIn K A.c_NoWay [.type "ValueError", .type "Exception", .type "BaseException", .type "object"] "ValueError.__new__" = true
  kc_NoWay : PySem.W.keepIn K (.ref A.c_NoWay) = true
  sb_NoWay : PySem.W.subIn K (.ref A.c_NoWay) (.type "BaseException") = some true
  tc_NoWay : PySem.W.typeIn K (.ref A.c_NoWay) = some (.type "type")
  c_NoWord : mg "NoWord" = some (.ref A.c_NoWord)
  kc_NoWord : PySem.W.keepIn K (.ref A.c_NoWord) = true
  sb_NoWord : PySem.W.subIn K (.ref A.c_NoWord) (.type "BaseException") = some true
  tc_NoWord : PySem.W.typeIn K (.ref A.c_NoWord) = some (.type "type")
  c_TooMany : mg "TooMany" = some (.ref A.c_TooMany)
  kc_TooMany : PySem.W.keepIn K (.ref A.c_TooMany) = true
  sb_TooMany : PySem.W.subIn K (.ref A.c_TooMany) (.type "BaseException") = some true
  tc_TooMany : PySem.W.typeIn K (.ref A.c_TooMany) = some (.type "type")
  c_Twice : mg "Twice" = some (.ref A.c_Twice)
  kc_Twice : PySem.W.keepIn K (.ref A.c_Twice) = true
  sb_Twice : PySem.W.subIn K (.ref A.c_Twice) (.type "BaseException") = some true
  tc_Twice : PySem.W.typeIn K (.ref A.c_Twice) = some (.type "type")
  c_Unsure : mg "Unsure" = some (.ref A.c_Unsure)
  kc_Unsure : PySem.W.keepIn K (.ref A.c_Unsure) = true
  sb_Unsure : PySem.W.subIn K (.ref A.c_Unsure) (.type "BaseException") = some true
  tc_Unsure : PySem.W.typeIn K (.ref A.c_Unsure) = some (.type "type")
  em_NoWay : ∀ cls b, em_NoWay A cls = some b → PySem.W.exmOne K cls (.ref A.c_NoWay) = some b
  ki : ∀ cls, isEx A cls → ∃ Dc, cls = .ref Dc ∧ ExcC K Dc ∧ ∀ c b, kitV A cls c = some b → PySem.W.kitOne K (.ref Dc) c = some b
  k_BACK : mg "BACK" = some (.ref A.a_BACK)
  h_BACK : ∀ z y, tbl_BACK z = some y → ∃ v, KDct K w A.a_BACK z v ∧ ∀ H al, RV K H al y v
  kd_BACK : ∃ es n, KDict K w A.a_BACK es n
  in_BACK : ∀ z, ∃ r, PySem.W.nsIn K A.a_BACK z = some r ∧ r.isSome = (tbl_BACK z).isSome
  k_MOST : ∃ u, mg "MOST" = some u ∧ RelV (.int 24) u
section
noncomputable def m_read_way (A : Ad) : SM := (sSeq (sIf (mNot (mB (mCall gIsTy (mCons (mVar 0) (mCons (mC (.raw (.ty "str"))) mNil))))) (sRaise (.ref A.c_NoWay)) sNil)
    (sSeq (sIf (mB (mOp gEq (mVar 0) (mC (.str "")))) (sRet (mTup mNil)) sNil)
    (sSeq (sAsg (mM1 gSplit (mVar 0) (mC (.str " "))) (gSet 1))
    (sSeq (sIf (mB (mOp gGt (mCall gLen (mCons (mVar 1) mNil)) (mC (.int 24)))) (sRaise (.ref A.c_NoWay)) sNil)
    (sSeq (sFor (iAny (mVar 1)) (gSet 2) (sIf (mB (mOp (gInKD true A.a_BACK tbl_BACK) (mVar 2) (mC (.raw (.ref A.a_BACK))))) (sRaise (.ref A.c_NoWay)) sNil))
    (sRet (mCall gTupOf (mCons (mVar 1) mNil))))))))
noncomputable def f_read_way (A : Ad) : List D → DH → Out D := fun ds h => (m_read_way A (startD N_read_way ds) h).fin
noncomputable def m__law_cell_at (A : Ad) : SM := (sSeq (sIf (mB (mOp gLt (mVar 1) (mCall gLen (mCons (mVar 0) mNil)))) (sRet (mOp gIx (mVar 0) (mVar 1))) sNil)
    (sRet (mC (.int 0))))
noncomputable def f__law_cell_at (A : Ad) : List D → DH → Out D := fun ds h => (m__law_cell_at A (startD N__law_cell_at ds) h).fin
noncomputable def m__law_read (A : Ad) : SM := (sSeq (sIf (mB (mOp gEq (mVar 0) (mC (.str "")))) (sRet (mLst mNil)) sNil)
    (sSeq (sAsg (mLst mNil) (gSet 1))
    (sSeq (sAsg (mC (.str "")) (gSet 2))
    (sSeq (sFor (iAny (mVar 0)) (gSet 3) (sIf (mB (mOp gEq (mVar 3) (mC (.str " ")))) (sSeq (sExpr (mBM gAppend (mVar 1) (mCons (mVar 2) mNil)))
    (sAsg (mC (.str "")) (gSet 2))) (sAsg (mOp gAdd (mVar 2) (mVar 3)) (gSet 2))))
    (sSeq (sExpr (mBM gAppend (mVar 1) (mCons (mVar 2) mNil)))
    (sSeq (sFor (iAny (mVar 1)) (gSet 4) (sIf (mB (mOp gNotIn (mVar 4) (mLst (mCons (mC (.str "F")) (mCons (mC (.str "M")) (mCons (mC (.str "T")) (mCons (mC (.str "f")) (mCons (mC (.str "m")) (mCons (mC (.str "t")) (mCons (mC (.str "S")) (mCons (mC (.str "he")) (mCons (mC (.str "she")) mNil)))))))))))) (sRet (mC .non)) sNil))
    (sSeq (sIf (mB (mOp gGt (mCall gLen (mCons (mVar 1) mNil)) (mC (.int 24)))) (sRet (mC .non)) sNil)
    (sRet (mVar 1)))))))))
noncomputable def f__law_read (A : Ad) : List D → DH → Out D := fun ds h => (m__law_read A (startD N__law_read ds) h).fin
noncomputable def m__law_good (A : Ad) : SM := (sSeq (sAsg (mLst (mCons (mC (.str "F")) (mCons (mC (.str "M")) (mCons (mC (.str "T")) (mCons (mC (.str "f")) (mCons (mC (.str "m")) (mCons (mC (.str "t")) (mCons (mC (.str "S")) (mCons (mC (.str "he")) (mCons (mC (.str "she")) mNil)))))))))) (gSet 1))
    (sRet (mM1 gJoin (mC (.str " ")) (mLc (iAny (mVar 0)) (.nm 2) (mC true) (mOp gIx (mVar 1) (mOp gMod (mVar 2) (mC (.int 9)))) [2]))))
noncomputable def f__law_good (A : Ad) : List D → DH → Out D := fun ds h => (m__law_good A (startD N__law_good ds) h).fin
noncomputable def m__law_spoiled (A : Ad) : SM := (sSeq (sAsg (mC (.str "FMTfmtS hesHE12s\n-:a")) (gSet 3))
    (sSeq (sAsg (mOp gIx (mVar 3) (mOp gMod (mVar 1) (mCall gLen (mCons (mVar 3) mNil)))) (gSet 4))
    (sSeq (sAsg (mOp gMod (mOp gFdiv (mVar 1) (mCall gLen (mCons (mVar 3) mNil))) (mOp gAdd (mCall gLen (mCons (mVar 0) mNil)) (mC (.int 1)))) (gSet 5))
    (sSeq (sIf (mB (mOp gEq (mVar 2) (mC (.int 1)))) (sRet (mOp gAdd (mOp gAdd (mSl (mVar 0) mPN (mPS (mVar 5))) (mVar 4)) (mSl (mVar 0) (mPS (mVar 5)) mPN))) sNil)
    (sSeq (sIf (mB (mOp gEq (mVar 2) (mC (.int 2)))) (sRet (mOp gAdd (mSl (mVar 0) mPN (mPS (mVar 5))) (mSl (mVar 0) (mPS (mOp gAdd (mVar 5) (mC (.int 1)))) mPN))) sNil)
    (sRet (mOp gAdd (mOp gAdd (mSl (mVar 0) mPN (mPS (mVar 5))) (mVar 4)) (mSl (mVar 0) (mPS (mOp gAdd (mVar 5) (mC (.int 1)))) mPN))))))))
noncomputable def f__law_spoiled (A : Ad) : List D → DH → Out D := fun ds h => (m__law_spoiled A (startD N__law_spoiled ds) h).fin
noncomputable def m__law_pieces (A : Ad) : SM := (sSeq (sAsg (mLst (mCons (mC (.str "F")) (mCons (mC (.str " ")) (mCons (mC (.str "M ")) (mCons (mC (.str "he")) (mCons (mC (.str " ")) (mCons (mC (.str "she ")) (mCons (mC (.str "S")) (mCons (mC (.str " f")) (mCons (mC (.str "m t")) (mCons (mC (.str "h")) (mCons (mC (.str "e")) (mCons (mC (.str "s")) (mCons (mC (.str "  ")) (mCons (mC (.str " he ")) (mCons (mC (.str "T F")) (mCons (mC (.str "sh")) mNil))))))))))))))))) (gSet 1))
    (sSeq (sAsg (mC (.str "")) (gSet 2))
    (sSeq (sFor (iAny (mVar 0)) (gSet 3) (sAsg (mOp gAdd (mVar 2) (mOp gIx (mVar 1) (mOp gMod (mVar 3) (mC (.int 16))))) (gSet 2)))
    (sRet (mVar 2)))))
noncomputable def f__law_pieces (A : Ad) : List D → DH → Out D := fun ds h => (m__law_pieces A (startD N__law_pieces ds) h).fin
noncomputable def m__law_text (A : Ad) : SM := (sSeq (sAsg (mOp gMod (mCall (f__law_cell_at A) (mCons (mVar 0) (mCons (mC (.int 0)) mNil))) (mC (.int 6))) (gSet 1))
    (sSeq (sAsg (mCall (f__law_good A) (mCons (mSl (mVar 0) (mPS (mC (.int 2))) (mPS (mC (.int 32)))) mNil)) (gSet 2))
    (sSeq (sIf (mB (mOp gEq (mVar 1) (mC (.int 5)))) (sRet (mCall (f__law_pieces A) (mCons (mSl (mVar 0) (mPS (mC (.int 2))) (mPS (mC (.int 14)))) mNil))) sNil)
    (sSeq (sIf (mAnd (mB (mOp gGt (mVar 1) (mC (.int 0)))) (mB (mOp gLt (mVar 1) (mC (.int 4))))) (sRet (mCall (f__law_spoiled A) (mCons (mVar 2) (mCons (mCall (f__law_cell_at A) (mCons (mVar 0) (mCons (mC (.int 1)) mNil))) (mCons (mVar 1) mNil))))) sNil)
    (sRet (mVar 2))))))
noncomputable def f__law_text (A : Ad) : List D → DH → Out D := fun ds h => (m__law_text A (startD N__law_text ds) h).fin
noncomputable def m__law_told (A : Ad) : SM := (sSeq (sAsg (mC .non) (gSet 1))
    (sSeq (sAsg (mC (.bl false)) (gSet 2))
    (sSeq (sTryAs (em_NoWay A) (sAsg (mCall (f_read_way A) (mCons (mVar 0) mNil)) (gSet 1)) 3 (fun a cls => (sSeq (sAsg (mAndV (mCall (gIsE a (kitV A cls)) (mCons (mVar 3) (mCons (mC (.raw (.ref A.c_HeirError))) mNil))) (mCall (gIsE a (kitV A cls)) (mCons (mVar 3) (mCons (mC (.raw (.ty "ValueError"))) mNil)))) (gSet 2))
    (sSeq (sIf (mB (mCall (gIsE a (kitV A cls)) (mCons (mVar 3) (mCons (mTup (mCons (mC (.raw (.ref A.c_Alive))) (mCons (mC (.raw (.ref A.c_Barred))) (mCons (mC (.raw (.ref A.c_Full))) (mCons (mC (.raw (.ref A.c_Marked))) (mCons (mC (.raw (.ref A.c_NoCode))) (mCons (mC (.raw (.ref A.c_NoEntry))) (mCons (mC (.raw (.ref A.c_NoFit))) (mCons (mC (.raw (.ref A.c_NoNumber))) (mCons (mC (.raw (.ref A.c_NoPerson))) mNil)))))))))) mNil)))) (sAsg (mC (.bl false)) (gSet 2)) sNil)
    (sIf (mB (mCall (gIsE a (kitV A cls)) (mCons (mVar 3) (mCons (mTup (mCons (mC (.raw (.ref A.c_NoRow))) (mCons (mC (.raw (.ref A.c_NoTongue))) (mCons (mC (.raw (.ref A.c_NoWord))) (mCons (mC (.raw (.ref A.c_TooMany))) (mCons (mC (.raw (.ref A.c_Twice))) (mCons (mC (.raw (.ref A.c_Unsure))) mNil))))))) mNil)))) (sAsg (mC (.bl false)) (gSet 2)) sNil)))))
    (sRet (mLst (mCons (mVar 1) (mCons (mVar 2) mNil)))))))
noncomputable def f__law_told (A : Ad) : List D → DH → Out D := fun ds h => (m__law_told A (startD N__law_told ds) h).fin
noncomputable def m_law (A : Ad) : SM := (sSeq (sAsg (mCall (f__law_text A) (mCons (mVar 0) mNil)) (gSet 1))
    (sSeq (sAsg (mCall (f__law_read A) (mCons (mVar 1) mNil)) (gSet 2))
    (sSeq (sIf (mB (mOp gEq (mOp gMod (mOp gFdiv (mCall (f__law_cell_at A) (mCons (mVar 0) (mCons (mC (.int 0)) mNil))) (mC (.int 6))) (mC (.int 9))) (mC (.int 1)))) (sSeq (sAsg (mOp gIx (mLst (mCons (mC .non) (mCons (mC (.bl true)) (mCons (mC (.int 7)) (mCons (mTup (mCons (mC (.str "F")) mNil)) (mCons (mLst (mCons (mC (.str "F")) (mCons (mC (.str "M")) mNil))) (mCons mDictE (mCons (mTup mNil) (mCons (mLst mNil) mNil))))))))) (mOp gMod (mCall (f__law_cell_at A) (mCons (mVar 0) (mCons (mC (.int 1)) mNil))) (mC (.int 8)))) (gSet 1))
    (sAsg (mC .non) (gSet 2))) sNil)
    (sSeq (sAsg (mCall (f__law_told A) (mCons (mVar 1) mNil)) (gSet 3))
    (sSeq (sIf (mB (mOp gIs (mVar 2) (mC .non))) (sIf (mNot (mB (mOp gIx (mVar 3) (mC (.int 1))))) (sRet (mC (.bl false))) sNil) (sIf (mOr (mNot (mB (mCall gIsTy (mCons (mOp gIx (mVar 3) (mC (.int 0))) (mCons (mC (.raw (.ty "tuple"))) mNil))))) (mB (mOp gNe (mCall gListOf (mCons (mOp gIx (mVar 3) (mC (.int 0))) mNil)) (mVar 2)))) (sRet (mC (.bl false))) sNil))
    (sSeq (sAsg (mCall (f__law_good A) (mCons (mSl (mVar 0) (mPS (mC (.int 2))) (mPS (mC (.int 26)))) mNil)) (gSet 4))
    (sSeq (sAsg (mCall (f__law_told A) (mCons (mVar 4) mNil)) (gSet 3))
    (sRet (mAndV (mCall gIsTy (mCons (mOp gIx (mVar 3) (mC (.int 0))) (mCons (mC (.raw (.ty "tuple"))) mNil))) (mAndV (mOp gEq (mCall gListOf (mCons (mOp gIx (mVar 3) (mC (.int 0))) mNil)) (mCall (f__law_read A) (mCons (mVar 4) mNil))) (mOp gEq (mOp gIx (mCall (f__law_told A) (mCons (mC (.str "")) mNil)) (mC (.int 0))) (mTup mNil))))))))))))
noncomputable def f_law (A : Ad) : List D → DH → Out D := fun ds h => (m_law A (startD N_law ds) h).fin
end
section
variable {P : Program} {w : World} {K : PySem.W.Frag} {mg : Str → Option Value} {base : Heap} {A : Ad}
set_option maxHeartbeats 4000000 in
theorem okr_read_way {f : Addr} {fd : FuncData} (T : Txt K w mg A) (Fu : Fun K "read_way" "read_way" s_read_way f fd)  : FnOk P w K mg base (L2.CX P w) 1 f fd ["text"] (spD K 1 (f_read_way A)) := by
  have nd := sc_read_way.nd
  exact fnok_of (m := m_read_way A) Fu sc_read_way (fun cdv A0 outer s H E hr tk po => by
    have hu := hr.units
    exact (dss_cons (ds_if (dt_not (dt_val (de_callB call_isi cc_isTy (by rfl) T.n_isinstance (by decide +kernel) (da_cons (de_var 0) (da_cons (de_bltn (d := .raw (.ty "str")) (v := .ty "str") (by rfl) T.n_str (by decide +kernel) rfl (fun _ _ => .raw)) da_nil))))) (dss_one (ds_raise (ps_raise rfl tk (pmk_own PySem.F.excBase_ValueError T.x_NoWay T.c_NoWay T.kc_NoWay (raises_own T.sb_NoWay T.tc_NoWay) rfl)))) dss_nil)
    (dss_cons (ds_if (dt_cmp (or_eq hu) oc_eq (de_var 0) de_str (nomark _)) (dss_one (ds_ret (de_tup da_nil))) dss_nil)
    (dss_cons (ds_set 1 nd (de_m1 PySem.F.slot_str_split PySem.F.type_str_split mt_split tc_split (de_var 0) de_str))
    (dss_cons (ds_if (dt_cmp op_gt oc_gt (de_callB call_len cc_len (by rfl) T.n_len (by decide +kernel) (da_cons (de_var 1) da_nil)) (de_globE (v := .int 24) (d := .int 24) (by rfl) T.k_MOST (fun _ _ => .int)) (nomark _)) (dss_one (ds_raise (ps_raise rfl tk (pmk_own PySem.F.excBase_ValueError T.x_NoWay T.c_NoWay T.kc_NoWay (raises_own T.sb_NoWay T.tc_NoWay) rfl)))) dss_nil)
    (dss_cons (ds_for po rfl (di_any (de_var 1)) (dg_name 2 nd) (dss_one (ds_if (dt_cmp (op_notin_kdd T.kd_BACK.choose_spec.choose_spec) (oc_inkd true T.in_BACK) (de_var 2) (de_glob (v := .ref A.a_BACK) (d := .raw (.ref A.a_BACK)) (by rfl) T.k_BACK rfl (fun _ _ => .raw)) (by rfl)) (dss_one (ds_raise (ps_raise rfl tk (pmk_own PySem.F.excBase_ValueError T.x_NoWay T.c_NoWay T.kc_NoWay (raises_own T.sb_NoWay T.tc_NoWay) rfl)))) dss_nil)))
    (dss_one (ds_ret (de_callTy call_tuple_of cc_tupOf (by rfl) T.n_tuple (by decide +kernel) (da_cons (de_var 1) da_nil)))))))))) (fun ds h hl => .refl)
theorem ok_read_way {f : Addr} {fd : FuncData} (T : Txt K w mg A) (Fu : Fun K "read_way" "read_way" s_read_way f fd) (hm : mg "read_way" = some (.ref f)) (hb : Binds K fd ["text"] [])  : FnD P w K mg base 1 "read_way" ["text"] (f_read_way A) :=
  fnd_of hm hb Fu.kp (okr_read_way T Fu )
set_option maxHeartbeats 4000000 in
theorem okr__law_cell_at {f : Addr} {fd : FuncData} (T : Txt K w mg A) (Fu : Fun K "_law_cell_at" "_law_cell_at" s__law_cell_at f fd)  : FnOk P w K mg base (L2.CX P w) 1 f fd ["_law_script", "_law_k"] (spD K 2 (f__law_cell_at A)) := by
  have nd := sc__law_cell_at.nd
  exact fnok_of (m := m__law_cell_at A) Fu sc__law_cell_at (fun cdv A0 outer s H E hr tk po => by
    have hu := hr.units
    exact (dss_cons (ds_if (dt_cmp or_lt oc_lt (de_var 1) (de_callB call_len cc_len (by rfl) T.n_len (by decide +kernel) (da_cons (de_var 0) da_nil)) (nomark _)) (dss_one (ds_ret (de_ix ix_seq oc_ix (de_var 0) (de_var 1) (fun _ _ => rfl)))) dss_nil)
    (dss_one (ds_ret de_int)))) (fun ds h hl => .refl)
theorem ok__law_cell_at {f : Addr} {fd : FuncData} (T : Txt K w mg A) (Fu : Fun K "_law_cell_at" "_law_cell_at" s__law_cell_at f fd) (hm : mg "_law_cell_at" = some (.ref f)) (hb : Binds K fd ["_law_script", "_law_k"] [])  : FnD P w K mg base 1 "_law_cell_at" ["_law_script", "_law_k"] (f__law_cell_at A) :=
  fnd_of hm hb Fu.kp (okr__law_cell_at T Fu )
set_option maxHeartbeats 4000000 in
theorem okr__law_read {f : Addr} {fd : FuncData} (T : Txt K w mg A) (Fu : Fun K "_law_read" "_law_read" s__law_read f fd)  : FnOk P w K mg base (L2.CX P w) 1 f fd ["_law_text_here"] (spD K 1 (f__law_read A)) := by
  have nd := sc__law_read.nd
  exact fnok_of (m := m__law_read A) Fu sc__law_read (fun cdv A0 outer s H E hr tk po => by
    have hu := hr.units
    exact (dss_cons (ds_if (dt_cmp (or_eq hu) oc_eq (de_var 0) de_str (nomark _)) (dss_one (ds_ret (de_lst da_nil))) dss_nil)
    (dss_cons (ds_set 1 nd (de_lst da_nil))
    (dss_cons (ds_set 2 nd de_str)
    (dss_cons (ds_for po rfl (di_any (de_var 0)) (dg_name 3 nd) (dss_one (ds_if (dt_cmp (or_eq hu) oc_eq (de_var 3) de_str (nomark _)) (dss_cons (ds_expr (de_bm PySem.F.slot_list_append PySem.F.type_list_append mt_append tc_append (fun ho ha => pe_bm PySem.F.plainAttrs_list PySem.F.slot_list_append PySem.F.type_list_append mt_append ho ha) (de_var 1) (da_cons (de_var 2) da_nil)))
    (dss_one (ds_set 2 nd de_str))) (dss_one (ds_set 2 nd (de_op or_add oc_add (de_var 2) (de_var 3)))))))
    (dss_cons (ds_expr (de_bm PySem.F.slot_list_append PySem.F.type_list_append mt_append tc_append (fun ho ha => pe_bm PySem.F.plainAttrs_list PySem.F.slot_list_append PySem.F.type_list_append mt_append ho ha) (de_var 1) (da_cons (de_var 2) da_nil)))
    (dss_cons (ds_for po rfl (di_any (de_var 1)) (dg_name 4 nd) (dss_one (ds_if (dt_cmp or_notin (oc_in true) (de_var 4) (de_lst (da_cons de_str (da_cons de_str (da_cons de_str (da_cons de_str (da_cons de_str (da_cons de_str (da_cons de_str (da_cons de_str (da_cons de_str da_nil)))))))))) (by rfl)) (dss_one (ds_ret de_non)) dss_nil)))
    (dss_cons (ds_if (dt_cmp op_gt oc_gt (de_callB call_len cc_len (by rfl) T.n_len (by decide +kernel) (da_cons (de_var 1) da_nil)) de_int (nomark _)) (dss_one (ds_ret de_non)) dss_nil)
    (dss_one (ds_ret (de_var 1))))))))))) (fun ds h hl => .refl)
theorem ok__law_read {f : Addr} {fd : FuncData} (T : Txt K w mg A) (Fu : Fun K "_law_read" "_law_read" s__law_read f fd) (hm : mg "_law_read" = some (.ref f)) (hb : Binds K fd ["_law_text_here"] [])  : FnD P w K mg base 1 "_law_read" ["_law_text_here"] (f__law_read A) :=
  fnd_of hm hb Fu.kp (okr__law_read T Fu )
set_option maxHeartbeats 4000000 in
theorem okr__law_good {f : Addr} {fd : FuncData} (T : Txt K w mg A) (Fu : Fun K "_law_good" "_law_good" s__law_good f fd)  : FnOk P w K mg base (L2.CX P w) 1 f fd ["_law_cells"] (spD K 1 (f__law_good A)) := by
  have nd := sc__law_good.nd
  exact fnok_of (m := m__law_good A) Fu sc__law_good (fun cdv A0 outer s H E hr tk po => by
    have hu := hr.units
    exact (dss_cons (ds_set 1 nd (de_lst (da_cons de_str (da_cons de_str (da_cons de_str (da_cons de_str (da_cons de_str (da_cons de_str (da_cons de_str (da_cons de_str (da_cons de_str da_nil)))))))))))
    (dss_one (ds_ret (de_m1 PySem.F.slot_str_join PySem.F.type_str_join mt_join tc_join de_str (de_lc (own := [("_law_cell", 2)]) (c := (.nm 2)) rfl nd (di_any (de_var 0)) (blkOk_by (N := N__law_good) (sc := defScope s__law_good) (by decide +kernel)) (dc_name 2 nd) (fun _ _ _ _ _ => dts_nil) (fun _ _ _ _ _ => (de_ix ix_seq oc_ix (de_var 1) (de_op op_mod oc_mod (de_var 2) de_int) (fun _ _ => rfl))) (by decide))))))) (fun ds h hl => .refl)
theorem ok__law_good {f : Addr} {fd : FuncData} (T : Txt K w mg A) (Fu : Fun K "_law_good" "_law_good" s__law_good f fd) (hm : mg "_law_good" = some (.ref f)) (hb : Binds K fd ["_law_cells"] [])  : FnD P w K mg base 1 "_law_good" ["_law_cells"] (f__law_good A) :=
  fnd_of hm hb Fu.kp (okr__law_good T Fu )
set_option maxHeartbeats 4000000 in
theorem okr__law_spoiled {f : Addr} {fd : FuncData} (T : Txt K w mg A) (Fu : Fun K "_law_spoiled" "_law_spoiled" s__law_spoiled f fd)  : FnOk P w K mg base (L2.CX P w) 1 f fd ["_law_text_here", "_law_cell", "_law_way"] (spD K 3 (f__law_spoiled A)) := by
  have nd := sc__law_spoiled.nd
  exact fnok_of (m := m__law_spoiled A) Fu sc__law_spoiled (fun cdv A0 outer s H E hr tk po => by
    have hu := hr.units
    exact (dss_cons (ds_set 3 nd de_str)
    (dss_cons (ds_set 4 nd (de_ix ix_seq oc_ix (de_var 3) (de_op op_mod oc_mod (de_var 1) (de_callB call_len cc_len (by rfl) T.n_len (by decide +kernel) (da_cons (de_var 3) da_nil))) (fun _ _ => rfl)))
    (dss_cons (ds_set 5 nd (de_op op_mod oc_mod (de_op op_fdivG oc_fdiv (de_var 1) (de_callB call_len cc_len (by rfl) T.n_len (by decide +kernel) (da_cons (de_var 3) da_nil))) (de_op or_add oc_add (de_callB call_len cc_len (by rfl) T.n_len (by decide +kernel) (da_cons (de_var 0) da_nil)) de_int)))
    (dss_cons (ds_if (dt_cmp (or_eq hu) oc_eq (de_var 2) de_int (nomark _)) (dss_one (ds_ret (de_op or_add oc_add (de_op or_add oc_add (de_slice (de_var 0) dp_none (dp_some (de_var 5))) (de_var 4)) (de_slice (de_var 0) (dp_some (de_var 5)) dp_none)))) dss_nil)
    (dss_cons (ds_if (dt_cmp (or_eq hu) oc_eq (de_var 2) de_int (nomark _)) (dss_one (ds_ret (de_op or_add oc_add (de_slice (de_var 0) dp_none (dp_some (de_var 5))) (de_slice (de_var 0) (dp_some (de_op or_add oc_add (de_var 5) de_int)) dp_none)))) dss_nil)
    (dss_one (ds_ret (de_op or_add oc_add (de_op or_add oc_add (de_slice (de_var 0) dp_none (dp_some (de_var 5))) (de_var 4)) (de_slice (de_var 0) (dp_some (de_op or_add oc_add (de_var 5) de_int)) dp_none)))))))))) (fun ds h hl => .refl)
theorem ok__law_spoiled {f : Addr} {fd : FuncData} (T : Txt K w mg A) (Fu : Fun K "_law_spoiled" "_law_spoiled" s__law_spoiled f fd) (hm : mg "_law_spoiled" = some (.ref f)) (hb : Binds K fd ["_law_text_here", "_law_cell", "_law_way"] [])  : FnD P w K mg base 1 "_law_spoiled" ["_law_text_here", "_law_cell", "_law_way"] (f__law_spoiled A) :=
  fnd_of hm hb Fu.kp (okr__law_spoiled T Fu )
set_option maxHeartbeats 4000000 in
theorem okr__law_pieces {f : Addr} {fd : FuncData} (T : Txt K w mg A) (Fu : Fun K "_law_pieces" "_law_pieces" s__law_pieces f fd)  : FnOk P w K mg base (L2.CX P w) 1 f fd ["_law_cells"] (spD K 1 (f__law_pieces A)) := by
  have nd := sc__law_pieces.nd
  exact fnok_of (m := m__law_pieces A) Fu sc__law_pieces (fun cdv A0 outer s H E hr tk po => by
    have hu := hr.units
    exact (dss_cons (ds_set 1 nd (de_lst (da_cons de_str (da_cons de_str (da_cons de_str (da_cons de_str (da_cons de_str (da_cons de_str (da_cons de_str (da_cons de_str (da_cons de_str (da_cons de_str (da_cons de_str (da_cons de_str (da_cons de_str (da_cons de_str (da_cons de_str (da_cons de_str da_nil))))))))))))))))))
    (dss_cons (ds_set 2 nd de_str)
    (dss_cons (ds_for po rfl (di_any (de_var 0)) (dg_name 3 nd) (dss_one (ds_set 2 nd (de_op or_add oc_add (de_var 2) (de_ix ix_seq oc_ix (de_var 1) (de_op op_mod oc_mod (de_var 3) de_int) (fun _ _ => rfl))))))
    (dss_one (ds_ret (de_var 2))))))) (fun ds h hl => .refl)
theorem ok__law_pieces {f : Addr} {fd : FuncData} (T : Txt K w mg A) (Fu : Fun K "_law_pieces" "_law_pieces" s__law_pieces f fd) (hm : mg "_law_pieces" = some (.ref f)) (hb : Binds K fd ["_law_cells"] [])  : FnD P w K mg base 1 "_law_pieces" ["_law_cells"] (f__law_pieces A) :=
  fnd_of hm hb Fu.kp (okr__law_pieces T Fu )
set_option maxHeartbeats 4000000 in
theorem okr__law_text {f : Addr} {fd : FuncData} (T : Txt K w mg A) (Fu : Fun K "_law_text" "_law_text" s__law_text f fd) (F__law_cell_at : FnD P w K mg base 1 "_law_cell_at" ["_law_script", "_law_k"] (f__law_cell_at A)) (F__law_good : FnD P w K mg base 1 "_law_good" ["_law_cells"] (f__law_good A)) (F__law_pieces : FnD P w K mg base 1 "_law_pieces" ["_law_cells"] (f__law_pieces A)) (F__law_spoiled : FnD P w K mg base 1 "_law_spoiled" ["_law_text_here", "_law_cell", "_law_way"] (f__law_spoiled A)) : FnOk P w K mg base (L2.CX P w) 2 f fd ["_law_script"] (spD K 1 (f__law_text A)) := by
  have nd := sc__law_text.nd
  exact fnok_of (m := m__law_text A) Fu sc__law_text (fun cdv A0 outer s H E hr tk po => by
    have hu := hr.units
    exact (dss_cons (ds_set 1 nd (de_op op_mod oc_mod (de_call (F__law_cell_at.mono (by decide)) hr tk (by rfl) (da_cons (de_var 0) (da_cons de_int da_nil)) (ln_cons (ln_cons ln_nil))) de_int))
    (dss_cons (ds_set 2 nd (de_call (F__law_good.mono (by decide)) hr tk (by rfl) (da_cons (de_slice (de_var 0) (dp_some de_int) (dp_some de_int)) da_nil) (ln_cons ln_nil)))
    (dss_cons (ds_if (dt_cmp (or_eq hu) oc_eq (de_var 1) de_int (nomark _)) (dss_one (ds_ret (de_call (F__law_pieces.mono (by decide)) hr tk (by rfl) (da_cons (de_slice (de_var 0) (dp_some de_int) (dp_some de_int)) da_nil) (ln_cons ln_nil)))) dss_nil)
    (dss_cons (ds_if (dt_w (dw_and (dt_cmp op_gt oc_gt (de_var 1) de_int (nomark _)) (dw_and1 (dt_cmp or_lt oc_lt (de_var 1) de_int (nomark _))))) (dss_one (ds_ret (de_call (F__law_spoiled.mono (by decide)) hr tk (by rfl) (da_cons (de_var 2) (da_cons (de_call (F__law_cell_at.mono (by decide)) hr tk (by rfl) (da_cons (de_var 0) (da_cons de_int da_nil)) (ln_cons (ln_cons ln_nil))) (da_cons (de_var 1) da_nil))) (ln_cons (ln_cons (ln_cons ln_nil)))))) dss_nil)
    (dss_one (ds_ret (de_var 2)))))))) (fun ds h hl => .refl)
theorem ok__law_text {f : Addr} {fd : FuncData} (T : Txt K w mg A) (Fu : Fun K "_law_text" "_law_text" s__law_text f fd) (hm : mg "_law_text" = some (.ref f)) (hb : Binds K fd ["_law_script"] []) (F__law_cell_at : FnD P w K mg base 1 "_law_cell_at" ["_law_script", "_law_k"] (f__law_cell_at A)) (F__law_good : FnD P w K mg base 1 "_law_good" ["_law_cells"] (f__law_good A)) (F__law_pieces : FnD P w K mg base 1 "_law_pieces" ["_law_cells"] (f__law_pieces A)) (F__law_spoiled : FnD P w K mg base 1 "_law_spoiled" ["_law_text_here", "_law_cell", "_law_way"] (f__law_spoiled A)) : FnD P w K mg base 2 "_law_text" ["_law_script"] (f__law_text A) :=
  fnd_of hm hb Fu.kp (okr__law_text T Fu F__law_cell_at F__law_good F__law_pieces F__law_spoiled)
set_option maxHeartbeats 4000000 in
theorem okr__law_told {f : Addr} {fd : FuncData} (T : Txt K w mg A) (Fu : Fun K "_law_told" "_law_told" s__law_told f fd) (F_read_way : FnD P w K mg base 1 "read_way" ["text"] (f_read_way A)) : FnOk P w K mg base (L2.CX P w) 2 f fd ["_law_thing"] (spD K 1 (f__law_told A)) := by
  have nd := sc__law_told.nd
  exact fnok_of (m := m__law_told A) Fu sc__law_told (fun cdv A0 outer s H E hr tk po => by
    have hu := hr.units
    exact (dss_cons (ds_set 1 nd de_non)
    (dss_cons (ds_set 2 nd de_bl)
    (dss_cons (ds_tryAs 3 rfl rfl nd ⟨by rfl, by decide, .inl T.c_NoWay⟩ tk T.em_NoWay (fun _ _ _ tk2 po2 => (dss_one (ds_set 1 nd (de_call (F_read_way.mono (by decide)) hr tk2 (by rfl) (da_cons (de_var 0) da_nil) (ln_cons ln_nil)))))
    (fun a oe cls pn hz hv hem => (dss_cons (ds_set 2 nd (de_and (de_isE hz hv (T.ki cls (exOf_NoWay A cls hem)) (by rfl) T.n_isinstance (da_cons (de_var 3) (da_cons (de_glob (v := .ref A.c_HeirError) (d := .raw (.ref A.c_HeirError)) (by rfl) T.c_HeirError rfl (fun _ _ => .raw)) da_nil))) (de_one (de_isE hz hv (T.ki cls (exOf_NoWay A cls hem)) (by rfl) T.n_isinstance (da_cons (de_var 3) (da_cons (de_bltn (d := .raw (.ty "ValueError")) (v := .ty "ValueError") (by rfl) T.n_ValueError (by decide +kernel) rfl (fun _ _ => .raw)) da_nil))))))
    (dss_cons (ds_if (dt_val (de_isE hz hv (T.ki cls (exOf_NoWay A cls hem)) (by rfl) T.n_isinstance (da_cons (de_var 3) (da_cons (de_tup (da_cons (de_glob (v := .ref A.c_Alive) (d := .raw (.ref A.c_Alive)) (by rfl) T.c_Alive rfl (fun _ _ => .raw)) (da_cons (de_glob (v := .ref A.c_Barred) (d := .raw (.ref A.c_Barred)) (by rfl) T.c_Barred rfl (fun _ _ => .raw)) (da_cons (de_glob (v := .ref A.c_Full) (d := .raw (.ref A.c_Full)) (by rfl) T.c_Full rfl (fun _ _ => .raw)) (da_cons (de_glob (v := .ref A.c_Marked) (d := .raw (.ref A.c_Marked)) (by rfl) T.c_Marked rfl (fun _ _ => .raw)) (da_cons (de_glob (v := .ref A.c_NoCode) (d := .raw (.ref A.c_NoCode)) (by rfl) T.c_NoCode rfl (fun _ _ => .raw)) (da_cons (de_glob (v := .ref A.c_NoEntry) (d := .raw (.ref A.c_NoEntry)) (by rfl) T.c_NoEntry rfl (fun _ _ => .raw)) (da_cons (de_glob (v := .ref A.c_NoFit) (d := .raw (.ref A.c_NoFit)) (by rfl) T.c_NoFit rfl (fun _ _ => .raw)) (da_cons (de_glob (v := .ref A.c_NoNumber) (d := .raw (.ref A.c_NoNumber)) (by rfl) T.c_NoNumber rfl (fun _ _ => .raw)) (da_cons (de_glob (v := .ref A.c_NoPerson) (d := .raw (.ref A.c_NoPerson)) (by rfl) T.c_NoPerson rfl (fun _ _ => .raw)) da_nil)))))))))) da_nil)))) (dss_one (ds_set 2 nd de_bl)) dss_nil)
    (dss_one (ds_if (dt_val (de_isE hz hv (T.ki cls (exOf_NoWay A cls hem)) (by rfl) T.n_isinstance (da_cons (de_var 3) (da_cons (de_tup (da_cons (de_glob (v := .ref A.c_NoRow) (d := .raw (.ref A.c_NoRow)) (by rfl) T.c_NoRow rfl (fun _ _ => .raw)) (da_cons (de_glob (v := .ref A.c_NoTongue) (d := .raw (.ref A.c_NoTongue)) (by rfl) T.c_NoTongue rfl (fun _ _ => .raw)) (da_cons (de_glob (v := .ref A.c_NoWord) (d := .raw (.ref A.c_NoWord)) (by rfl) T.c_NoWord rfl (fun _ _ => .raw)) (da_cons (de_glob (v := .ref A.c_TooMany) (d := .raw (.ref A.c_TooMany)) (by rfl) T.c_TooMany rfl (fun _ _ => .raw)) (da_cons (de_glob (v := .ref A.c_Twice) (d := .raw (.ref A.c_Twice)) (by rfl) T.c_Twice rfl (fun _ _ => .raw)) (da_cons (de_glob (v := .ref A.c_Unsure) (d := .raw (.ref A.c_Unsure)) (by rfl) T.c_Unsure rfl (fun _ _ => .raw)) da_nil))))))) da_nil)))) (dss_one (ds_set 2 nd de_bl)) dss_nil))))))
    (dss_one (ds_ret (de_lst (da_cons (de_var 1) (da_cons (de_var 2) da_nil))))))))) (fun ds h hl => .refl)
theorem ok__law_told {f : Addr} {fd : FuncData} (T : Txt K w mg A) (Fu : Fun K "_law_told" "_law_told" s__law_told f fd) (hm : mg "_law_told" = some (.ref f)) (hb : Binds K fd ["_law_thing"] []) (F_read_way : FnD P w K mg base 1 "read_way" ["text"] (f_read_way A)) : FnD P w K mg base 2 "_law_told" ["_law_thing"] (f__law_told A) :=
  fnd_of hm hb Fu.kp (okr__law_told T Fu F_read_way)
set_option maxHeartbeats 4000000 in
theorem okr_law {f : Addr} {fd : FuncData} (T : Txt K w mg A) (Fu : Fun K "law" "law" s_law f fd) (F__law_cell_at : FnD P w K mg base 1 "_law_cell_at" ["_law_script", "_law_k"] (f__law_cell_at A)) (F__law_good : FnD P w K mg base 1 "_law_good" ["_law_cells"] (f__law_good A)) (F__law_read : FnD P w K mg base 1 "_law_read" ["_law_text_here"] (f__law_read A)) (F__law_text : FnD P w K mg base 2 "_law_text" ["_law_script"] (f__law_text A)) (F__law_told : FnD P w K mg base 2 "_law_told" ["_law_thing"] (f__law_told A)) : FnOk P w K mg base (L2.CX P w) 3 f fd ["_law_script"] (spD K 1 (f_law A)) := by
  have nd := sc_law.nd
  exact fnok_of (m := m_law A) Fu sc_law (fun cdv A0 outer s H E hr tk po => by
    have hu := hr.units
    exact (dss_cons (ds_set 1 nd (de_call (F__law_text.mono (by decide)) hr tk (by rfl) (da_cons (de_var 0) da_nil) (ln_cons ln_nil)))
    (dss_cons (ds_set 2 nd (de_call (F__law_read.mono (by decide)) hr tk (by rfl) (da_cons (de_var 1) da_nil) (ln_cons ln_nil)))
    (dss_cons (ds_if (dt_cmp (or_eq hu) oc_eq (de_op op_mod oc_mod (de_op op_fdivG oc_fdiv (de_call (F__law_cell_at.mono (by decide)) hr tk (by rfl) (da_cons (de_var 0) (da_cons de_int da_nil)) (ln_cons (ln_cons ln_nil))) de_int) de_int) de_int (nomark _)) (dss_cons (ds_set 1 nd (de_ix ix_seq oc_ix (de_lst (da_cons de_non (da_cons de_bl (da_cons de_int (da_cons (de_tup (da_cons de_str da_nil)) (da_cons (de_lst (da_cons de_str (da_cons de_str da_nil))) (da_cons de_dictE (da_cons (de_tup da_nil) (da_cons (de_lst da_nil) da_nil))))))))) (de_op op_mod oc_mod (de_call (F__law_cell_at.mono (by decide)) hr tk (by rfl) (da_cons (de_var 0) (da_cons de_int da_nil)) (ln_cons (ln_cons ln_nil))) de_int) (fun _ _ => rfl)))
    (dss_one (ds_set 2 nd de_non))) dss_nil)
    (dss_cons (ds_set 3 nd (de_call (F__law_told.mono (by decide)) hr tk (by rfl) (da_cons (de_var 1) da_nil) (ln_cons ln_nil)))
    (dss_cons (ds_if (dt_cmp or_is oc_is (de_var 2) de_non (nomark _)) (dss_one (ds_if (dt_not (dt_val (de_ix ix_seq oc_ix (de_var 3) de_int (fun _ _ => rfl)))) (dss_one (ds_ret de_bl)) dss_nil)) (dss_one (ds_if (dt_w (dw_or (dt_not (dt_val (de_callB call_isi cc_isTy (by rfl) T.n_isinstance (by decide +kernel) (da_cons (de_ix ix_seq oc_ix (de_var 3) de_int (fun _ _ => rfl)) (da_cons (de_bltn (d := .raw (.ty "tuple")) (v := .ty "tuple") (by rfl) T.n_tuple (by decide +kernel) rfl (fun _ _ => .raw)) da_nil))))) (dw_or1 (dt_cmp (or_ne hu) oc_ne (de_callTy call_list_of cc_listOf (by rfl) T.n_list (by decide +kernel) (da_cons (de_ix ix_seq oc_ix (de_var 3) de_int (fun _ _ => rfl)) da_nil)) (de_var 2) (nomark _))))) (dss_one (ds_ret de_bl)) dss_nil)))
    (dss_cons (ds_set 4 nd (de_call (F__law_good.mono (by decide)) hr tk (by rfl) (da_cons (de_slice (de_var 0) (dp_some de_int) (dp_some de_int)) da_nil) (ln_cons ln_nil)))
    (dss_cons (ds_set 3 nd (de_call (F__law_told.mono (by decide)) hr tk (by rfl) (da_cons (de_var 4) da_nil) (ln_cons ln_nil)))
    (dss_one (ds_ret (de_and (de_callB call_isi cc_isTy (by rfl) T.n_isinstance (by decide +kernel) (da_cons (de_ix ix_seq oc_ix (de_var 3) de_int (fun _ _ => rfl)) (da_cons (de_bltn (d := .raw (.ty "tuple")) (v := .ty "tuple") (by rfl) T.n_tuple (by decide +kernel) rfl (fun _ _ => .raw)) da_nil))) (de_and (de_cmp (or_eq hu) oc_eq (de_callTy call_list_of cc_listOf (by rfl) T.n_list (by decide +kernel) (da_cons (de_ix ix_seq oc_ix (de_var 3) de_int (fun _ _ => rfl)) da_nil)) (de_call (F__law_read.mono (by decide)) hr tk (by rfl) (da_cons (de_var 4) da_nil) (ln_cons ln_nil)) (nomark _)) (de_one (de_cmp (or_eq hu) oc_eq (de_ix ix_seq oc_ix (de_call (F__law_told.mono (by decide)) hr tk (by rfl) (da_cons de_str da_nil) (ln_cons ln_nil)) de_int (fun _ _ => rfl)) (de_tup da_nil) (nomark _))))))))))))))) (fun ds h hl => .refl)
theorem ok_law {f : Addr} {fd : FuncData} (T : Txt K w mg A) (Fu : Fun K "law" "law" s_law f fd) (hm : mg "law" = some (.ref f)) (hb : Binds K fd ["_law_script"] []) (F__law_cell_at : FnD P w K mg base 1 "_law_cell_at" ["_law_script", "_law_k"] (f__law_cell_at A)) (F__law_good : FnD P w K mg base 1 "_law_good" ["_law_cells"] (f__law_good A)) (F__law_read : FnD P w K mg base 1 "_law_read" ["_law_text_here"] (f__law_read A)) (F__law_text : FnD P w K mg base 2 "_law_text" ["_law_script"] (f__law_text A)) (F__law_told : FnD P w K mg base 2 "_law_told" ["_law_thing"] (f__law_told A)) : FnD P w K mg base 3 "law" ["_law_script"] (f_law A) :=
  fnd_of hm hb Fu.kp (okr_law T Fu F__law_cell_at F__law_good F__law_read F__law_text F__law_told)
end
set_option maxHeartbeats 4000000 in
theorem all_mk {l : PySem.W.OpenLaw} {w : World} {K : PySem.W.Frag} {h : Heap} {mg : Str → Option Value} {fa : Addr} (X : K.In h) (G : h.Ns mainGlobals mg) (hfa : mg "law" = some (.ref fa))
    {fa_read_way : Addr} {od_read_way an_read_way : Option Addr} {sl_read_way : Array (Option Value)} {oc_read_way kV_read_way dc_read_way pm_read_way cd_read_way ct_read_way : Value}
    {fa__law_cell_at : Addr} {od__law_cell_at an__law_cell_at : Option Addr} {sl__law_cell_at : Array (Option Value)} {oc__law_cell_at kV__law_cell_at dc__law_cell_at pm__law_cell_at cd__law_cell_at ct__law_cell_at : Value}
    {fa__law_read : Addr} {od__law_read an__law_read : Option Addr} {sl__law_read : Array (Option Value)} {oc__law_read kV__law_read dc__law_read pm__law_read cd__law_read ct__law_read : Value}
    {fa__law_good : Addr} {od__law_good an__law_good : Option Addr} {sl__law_good : Array (Option Value)} {oc__law_good kV__law_good dc__law_good pm__law_good cd__law_good ct__law_good : Value}
    {fa__law_spoiled : Addr} {od__law_spoiled an__law_spoiled : Option Addr} {sl__law_spoiled : Array (Option Value)} {oc__law_spoiled kV__law_spoiled dc__law_spoiled pm__law_spoiled cd__law_spoiled ct__law_spoiled : Value}
    {fa__law_pieces : Addr} {od__law_pieces an__law_pieces : Option Addr} {sl__law_pieces : Array (Option Value)} {oc__law_pieces kV__law_pieces dc__law_pieces pm__law_pieces cd__law_pieces ct__law_pieces : Value}
    {fa__law_text : Addr} {od__law_text an__law_text : Option Addr} {sl__law_text : Array (Option Value)} {oc__law_text kV__law_text dc__law_text pm__law_text cd__law_text ct__law_text : Value}
    {fa__law_told : Addr} {od__law_told an__law_told : Option Addr} {sl__law_told : Array (Option Value)} {oc__law_told kV__law_told dc__law_told pm__law_told cd__law_told ct__law_told : Value}
    {fa_law : Addr} {od_law an_law : Option Addr} {sl_law : Array (Option Value)} {oc_law kV_law dc_law pm_law cd_law ct_law : Value}
    {C_Alive : Addr}
    {C_Barred : Addr}
    {C_Full : Addr}
    {C_HeirError : Addr}
    {C_Marked : Addr}
    {C_NoCode : Addr}
    {C_NoEntry : Addr}
    {C_NoFit : Addr}
    {C_NoNumber : Addr}
    {C_NoPerson : Addr}
    {C_NoRow : Addr}
    {C_NoTongue : Addr}
    {C_NoWay : Addr}
    {C_NoWord : Addr}
    {C_TooMany : Addr}
    {C_Twice : Addr}
    {C_Unsure : Addr}
    {a_BACK : Addr} {es_BACK : Array DictEntry} {n_BACK : Nat} {t_BACK_0 t_BACK_1 t_BACK_2 t_BACK_3 t_BACK_4 t_BACK_5 t_BACK_6 t_BACK_7 t_BACK_8 : Tok}
    {t_MOST : Tok}
    (a_read_way : PySem.W.nsIn K mainGlobals "read_way" = some (some (.ref fa_read_way)))
    (l_read_way : K.lookup fa_read_way = some ⟨oc_read_way, od_read_way, .func (PySem.W.fnOf "read_way" "read_way" (defArgs s_read_way) (defBody s_read_way) (defScope s_read_way) .none kV_read_way dc_read_way pm_read_way an_read_way cd_read_way ct_read_way), sl_read_way⟩)
    (co_read_way : PySem.W.codeIn K cd_read_way "read_way" = true)
    (ke_read_way : PySem.W.keepIn K (.ref fa_read_way) = true)
    (a__law_cell_at : PySem.W.nsIn K mainGlobals "_law_cell_at" = some (some (.ref fa__law_cell_at)))
    (l__law_cell_at : K.lookup fa__law_cell_at = some ⟨oc__law_cell_at, od__law_cell_at, .func (PySem.W.fnOf "_law_cell_at" "_law_cell_at" (defArgs s__law_cell_at) (defBody s__law_cell_at) (defScope s__law_cell_at) .none kV__law_cell_at dc__law_cell_at pm__law_cell_at an__law_cell_at cd__law_cell_at ct__law_cell_at), sl__law_cell_at⟩)
    (co__law_cell_at : PySem.W.codeIn K cd__law_cell_at "_law_cell_at" = true)
    (ke__law_cell_at : PySem.W.keepIn K (.ref fa__law_cell_at) = true)
    (a__law_read : PySem.W.nsIn K mainGlobals "_law_read" = some (some (.ref fa__law_read)))
    (l__law_read : K.lookup fa__law_read = some ⟨oc__law_read, od__law_read, .func (PySem.W.fnOf "_law_read" "_law_read" (defArgs s__law_read) (defBody s__law_read) (defScope s__law_read) .none kV__law_read dc__law_read pm__law_read an__law_read cd__law_read ct__law_read), sl__law_read⟩)
    (co__law_read : PySem.W.codeIn K cd__law_read "_law_read" = true)
    (ke__law_read : PySem.W.keepIn K (.ref fa__law_read) = true)
    (a__law_good : PySem.W.nsIn K mainGlobals "_law_good" = some (some (.ref fa__law_good)))
    (l__law_good : K.lookup fa__law_good = some ⟨oc__law_good, od__law_good, .func (PySem.W.fnOf "_law_good" "_law_good" (defArgs s__law_good) (defBody s__law_good) (defScope s__law_good) .none kV__law_good dc__law_good pm__law_good an__law_good cd__law_good ct__law_good), sl__law_good⟩)
    (co__law_good : PySem.W.codeIn K cd__law_good "_law_good" = true)
    (ke__law_good : PySem.W.keepIn K (.ref fa__law_good) = true)
    (a__law_spoiled : PySem.W.nsIn K mainGlobals "_law_spoiled" = some (some (.ref fa__law_spoiled)))
    (l__law_spoiled : K.lookup fa__law_spoiled = some ⟨oc__law_spoiled, od__law_spoiled, .func (PySem.W.fnOf "_law_spoiled" "_law_spoiled" (defArgs s__law_spoiled) (defBody s__law_spoiled) (defScope s__law_spoiled) .none kV__law_spoiled dc__law_spoiled pm__law_spoiled an__law_spoiled cd__law_spoiled ct__law_spoiled), sl__law_spoiled⟩)
    (co__law_spoiled : PySem.W.codeIn K cd__law_spoiled "_law_spoiled" = true)
    (ke__law_spoiled : PySem.W.keepIn K (.ref fa__law_spoiled) = true)
    (a__law_pieces : PySem.W.nsIn K mainGlobals "_law_pieces" = some (some (.ref fa__law_pieces)))
    (l__law_pieces : K.lookup fa__law_pieces = some ⟨oc__law_pieces, od__law_pieces, .func (PySem.W.fnOf "_law_pieces" "_law_pieces" (defArgs s__law_pieces) (defBody s__law_pieces) (defScope s__law_pieces) .none kV__law_pieces dc__law_pieces pm__law_pieces an__law_pieces cd__law_pieces ct__law_pieces), sl__law_pieces⟩)
    (co__law_pieces : PySem.W.codeIn K cd__law_pieces "_law_pieces" = true)
    (ke__law_pieces : PySem.W.keepIn K (.ref fa__law_pieces) = true)
    (a__law_text : PySem.W.nsIn K mainGlobals "_law_text" = some (some (.ref fa__law_text)))
    (l__law_text : K.lookup fa__law_text = some ⟨oc__law_text, od__law_text, .func (PySem.W.fnOf "_law_text" "_law_text" (defArgs s__law_text) (defBody s__law_text) (defScope s__law_text) .none kV__law_text dc__law_text pm__law_text an__law_text cd__law_text ct__law_text), sl__law_text⟩)
    (co__law_text : PySem.W.codeIn K cd__law_text "_law_text" = true)
    (ke__law_text : PySem.W.keepIn K (.ref fa__law_text) = true)
    (a__law_told : PySem.W.nsIn K mainGlobals "_law_told" = some (some (.ref fa__law_told)))
    (l__law_told : K.lookup fa__law_told = some ⟨oc__law_told, od__law_told, .func (PySem.W.fnOf "_law_told" "_law_told" (defArgs s__law_told) (defBody s__law_told) (defScope s__law_told) .none kV__law_told dc__law_told pm__law_told an__law_told cd__law_told ct__law_told), sl__law_told⟩)
    (co__law_told : PySem.W.codeIn K cd__law_told "_law_told" = true)
    (ke__law_told : PySem.W.keepIn K (.ref fa__law_told) = true)
    (a_law : PySem.W.nsIn K mainGlobals "law" = some (some (.ref fa_law)))
    (l_law : K.lookup fa_law = some ⟨oc_law, od_law, .func (PySem.W.fnOf "law" "law" (defArgs s_law) (defBody s_law) (defScope s_law) .none kV_law dc_law pm_law an_law cd_law ct_law), sl_law⟩)
    (co_law : PySem.W.codeIn K cd_law "law" = true)
    (ke_law : PySem.W.keepIn K (.ref fa_law) = true)
    (z_ValueError : PySem.W.nsIn K mainGlobals "ValueError" = some none)
    (z_isinstance : PySem.W.nsIn K mainGlobals "isinstance" = some none)
    (z_len : PySem.W.nsIn K mainGlobals "len" = some none)
    (z_list : PySem.W.nsIn K mainGlobals "list" = some none)
    (z_str : PySem.W.nsIn K mainGlobals "str" = some none)
    (z_tuple : PySem.W.nsIn K mainGlobals "tuple" = some none)
    (gc_Alive : PySem.W.nsIn K mainGlobals "Alive" = some (some (.ref C_Alive)))
    (kc_Alive : PySem.W.keepIn K (.ref C_Alive) = true)
    (sb_Alive : PySem.W.subIn K (.ref C_Alive) (.type "BaseException") = some true)
    (tc_Alive : PySem.W.typeIn K (.ref C_Alive) = some (.type "type"))
    (gc_Barred : PySem.W.nsIn K mainGlobals "Barred" = some (some (.ref C_Barred)))
    (kc_Barred : PySem.W.keepIn K (.ref C_Barred) = true)
    (sb_Barred : PySem.W.subIn K (.ref C_Barred) (.type "BaseException") = some true)
    (tc_Barred : PySem.W.typeIn K (.ref C_Barred) = some (.type "type"))
    (gc_Full : PySem.W.nsIn K mainGlobals "Full" = some (some (.ref C_Full)))
    (kc_Full : PySem.W.keepIn K (.ref C_Full) = true)
    (sb_Full : PySem.W.subIn K (.ref C_Full) (.type "BaseException") = some true)
    (tc_Full : PySem.W.typeIn K (.ref C_Full) = some (.type "type"))
    (gc_HeirError : PySem.W.nsIn K mainGlobals "HeirError" = some (some (.ref C_HeirError)))
    (kc_HeirError : PySem.W.keepIn K (.ref C_HeirError) = true)
    (sb_HeirError : PySem.W.subIn K (.ref C_HeirError) (.type "BaseException") = some true)
    (tc_HeirError : PySem.W.typeIn K (.ref C_HeirError) = some (.type "type"))
    (gc_Marked : PySem.W.nsIn K mainGlobals "Marked" = some (some (.ref C_Marked)))
    (kc_Marked : PySem.W.keepIn K (.ref C_Marked) = true)
    (sb_Marked : PySem.W.subIn K (.ref C_Marked) (.type "BaseException") = some true)
    (tc_Marked : PySem.W.typeIn K (.ref C_Marked) = some (.type "type"))
    (gc_NoCode : PySem.W.nsIn K mainGlobals "NoCode" = some (some (.ref C_NoCode)))
    (kc_NoCode : PySem.W.keepIn K (.ref C_NoCode) = true)
    (sb_NoCode : PySem.W.subIn K (.ref C_NoCode) (.type "BaseException") = some true)
    (tc_NoCode : PySem.W.typeIn K (.ref C_NoCode) = some (.type "type"))
    (gc_NoEntry : PySem.W.nsIn K mainGlobals "NoEntry" = some (some (.ref C_NoEntry)))
    (kc_NoEntry : PySem.W.keepIn K (.ref C_NoEntry) = true)
    (sb_NoEntry : PySem.W.subIn K (.ref C_NoEntry) (.type "BaseException") = some true)
    (tc_NoEntry : PySem.W.typeIn K (.ref C_NoEntry) = some (.type "type"))
    (gc_NoFit : PySem.W.nsIn K mainGlobals "NoFit" = some (some (.ref C_NoFit)))
    (kc_NoFit : PySem.W.keepIn K (.ref C_NoFit) = true)
    (sb_NoFit : PySem.W.subIn K (.ref C_NoFit) (.type "BaseException") = some true)
    (tc_NoFit : PySem.W.typeIn K (.ref C_NoFit) = some (.type "type"))
    (gc_NoNumber : PySem.W.nsIn K mainGlobals "NoNumber" = some (some (.ref C_NoNumber)))
    (kc_NoNumber : PySem.W.keepIn K (.ref C_NoNumber) = true)
    (sb_NoNumber : PySem.W.subIn K (.ref C_NoNumber) (.type "BaseException") = some true)
    (tc_NoNumber : PySem.W.typeIn K (.ref C_NoNumber) = some (.type "type"))
    (gc_NoPerson : PySem.W.nsIn K mainGlobals "NoPerson" = some (some (.ref C_NoPerson)))
    (kc_NoPerson : PySem.W.keepIn K (.ref C_NoPerson) = true)
    (sb_NoPerson : PySem.W.subIn K (.ref C_NoPerson) (.type "BaseException") = some true)
    (tc_NoPerson : PySem.W.typeIn K (.ref C_NoPerson) = some (.type "type"))
    (gc_NoRow : PySem.W.nsIn K mainGlobals "NoRow" = some (some (.ref C_NoRow)))
    (kc_NoRow : PySem.W.keepIn K (.ref C_NoRow) = true)
    (sb_NoRow : PySem.W.subIn K (.ref C_NoRow) (.type "BaseException") = some true)
    (tc_NoRow : PySem.W.typeIn K (.ref C_NoRow) = some (.type "type"))
    (gc_NoTongue : PySem.W.nsIn K mainGlobals "NoTongue" = some (some (.ref C_NoTongue)))
    (kc_NoTongue : PySem.W.keepIn K (.ref C_NoTongue) = true)
    (sb_NoTongue : PySem.W.subIn K (.ref C_NoTongue) (.type "BaseException") = some true)
    (tc_NoTongue : PySem.W.typeIn K (.ref C_NoTongue) = some (.type "type"))
    (gc_NoWay : PySem.W.nsIn K mainGlobals "NoWay" = some (some (.ref C_NoWay)))
    (xc_NoWay : PySem.W.excIn K C_NoWay [.type "ValueError", .type "Exception", .type "BaseException", .type "object"] "ValueError.__new__" = true)
    (kc_NoWay : PySem.W.keepIn K (.ref C_NoWay) = true)
    (sb_NoWay : PySem.W.subIn K (.ref C_NoWay) (.type "BaseException") = some true)
    (tc_NoWay : PySem.W.typeIn K (.ref C_NoWay) = some (.type "type"))
    (gc_NoWord : PySem.W.nsIn K mainGlobals "NoWord" = some (some (.ref C_NoWord)))
    (kc_NoWord : PySem.W.keepIn K (.ref C_NoWord) = true)
    (sb_NoWord : PySem.W.subIn K (.ref C_NoWord) (.type "BaseException") = some true)
    (tc_NoWord : PySem.W.typeIn K (.ref C_NoWord) = some (.type "type"))
    (gc_TooMany : PySem.W.nsIn K mainGlobals "TooMany" = some (some (.ref C_TooMany)))
    (kc_TooMany : PySem.W.keepIn K (.ref C_TooMany) = true)
    (sb_TooMany : PySem.W.subIn K (.ref C_TooMany) (.type "BaseException") = some true)
    (tc_TooMany : PySem.W.typeIn K (.ref C_TooMany) = some (.type "type"))
    (gc_Twice : PySem.W.nsIn K mainGlobals "Twice" = some (some (.ref C_Twice)))
    (kc_Twice : PySem.W.keepIn K (.ref C_Twice) = true)
    (sb_Twice : PySem.W.subIn K (.ref C_Twice) (.type "BaseException") = some true)
    (tc_Twice : PySem.W.typeIn K (.ref C_Twice) = some (.type "type"))
    (gc_Unsure : PySem.W.nsIn K mainGlobals "Unsure" = some (some (.ref C_Unsure)))
    (kc_Unsure : PySem.W.keepIn K (.ref C_Unsure) = true)
    (sb_Unsure : PySem.W.subIn K (.ref C_Unsure) (.type "BaseException") = some true)
    (tc_Unsure : PySem.W.typeIn K (.ref C_Unsure) = some (.type "type"))
    (x_hn : PySem.W.specialIn K (.builtin "object.__class__") "__get__" = some (some (.builtin "getset_descriptor.__get__")))
    (x_ht : PySem.W.takesIn K (.builtin "object.__class__") = some true)
    (xhg_NoWay : PySem.W.findIn K (.ref C_NoWay) "__getattribute__" = some (some (.builtin "BaseException.__getattribute__")))
    (xhk_NoWay : PySem.W.findIn K (.ref C_NoWay) "__getattr__" = some none)
    (xhd_NoWay : PySem.W.hasDictIn K C_NoWay = true)
    (xha_NoWay : PySem.W.findIn K (.ref C_NoWay) "__class__" = some (some (.builtin "object.__class__")))
    (xhm_NoWay : PySem.W.mroIn K C_NoWay (.type "object") = some true)
    (su_NoWay_Alive : PySem.W.subIn K (.ref C_NoWay) (.ref C_Alive) = some false)
    (su_NoWay_Barred : PySem.W.subIn K (.ref C_NoWay) (.ref C_Barred) = some false)
    (su_NoWay_Full : PySem.W.subIn K (.ref C_NoWay) (.ref C_Full) = some false)
    (su_NoWay_HeirError : PySem.W.subIn K (.ref C_NoWay) (.ref C_HeirError) = some true)
    (su_NoWay_Marked : PySem.W.subIn K (.ref C_NoWay) (.ref C_Marked) = some false)
    (su_NoWay_NoCode : PySem.W.subIn K (.ref C_NoWay) (.ref C_NoCode) = some false)
    (su_NoWay_NoEntry : PySem.W.subIn K (.ref C_NoWay) (.ref C_NoEntry) = some false)
    (su_NoWay_NoFit : PySem.W.subIn K (.ref C_NoWay) (.ref C_NoFit) = some false)
    (su_NoWay_NoNumber : PySem.W.subIn K (.ref C_NoWay) (.ref C_NoNumber) = some false)
    (su_NoWay_NoPerson : PySem.W.subIn K (.ref C_NoWay) (.ref C_NoPerson) = some false)
    (su_NoWay_NoRow : PySem.W.subIn K (.ref C_NoWay) (.ref C_NoRow) = some false)
    (su_NoWay_NoTongue : PySem.W.subIn K (.ref C_NoWay) (.ref C_NoTongue) = some false)
    (su_NoWay_NoWay : PySem.W.subIn K (.ref C_NoWay) (.ref C_NoWay) = some true)
    (su_NoWay_NoWord : PySem.W.subIn K (.ref C_NoWay) (.ref C_NoWord) = some false)
    (su_NoWay_TooMany : PySem.W.subIn K (.ref C_NoWay) (.ref C_TooMany) = some false)
    (su_NoWay_Twice : PySem.W.subIn K (.ref C_NoWay) (.ref C_Twice) = some false)
    (su_NoWay_Unsure : PySem.W.subIn K (.ref C_NoWay) (.ref C_Unsure) = some false)
    (su_NoWay_ValueError : PySem.W.subIn K (.ref C_NoWay) (.type "ValueError") = some true)
    (xhd_Alive : PySem.W.hasDictIn K C_Alive = true)
    (xhd_Barred : PySem.W.hasDictIn K C_Barred = true)
    (xhd_Full : PySem.W.hasDictIn K C_Full = true)
    (xhd_HeirError : PySem.W.hasDictIn K C_HeirError = true)
    (xhd_Marked : PySem.W.hasDictIn K C_Marked = true)
    (xhd_NoCode : PySem.W.hasDictIn K C_NoCode = true)
    (xhd_NoEntry : PySem.W.hasDictIn K C_NoEntry = true)
    (xhd_NoFit : PySem.W.hasDictIn K C_NoFit = true)
    (xhd_NoNumber : PySem.W.hasDictIn K C_NoNumber = true)
    (xhd_NoPerson : PySem.W.hasDictIn K C_NoPerson = true)
    (xhd_NoRow : PySem.W.hasDictIn K C_NoRow = true)
    (xhd_NoTongue : PySem.W.hasDictIn K C_NoTongue = true)
    (xhd_NoWord : PySem.W.hasDictIn K C_NoWord = true)
    (xhd_TooMany : PySem.W.hasDictIn K C_TooMany = true)
    (xhd_Twice : PySem.W.hasDictIn K C_Twice = true)
    (xhd_Unsure : PySem.W.hasDictIn K C_Unsure = true)
    (ne_Alive_Barred : C_Alive ≠ C_Barred)
    (ne_Alive_Full : C_Alive ≠ C_Full)
    (ne_Alive_HeirError : C_Alive ≠ C_HeirError)
    (ne_Alive_Marked : C_Alive ≠ C_Marked)
    (ne_Alive_NoCode : C_Alive ≠ C_NoCode)
    (ne_Alive_NoEntry : C_Alive ≠ C_NoEntry)
    (ne_Alive_NoFit : C_Alive ≠ C_NoFit)
    (ne_Alive_NoNumber : C_Alive ≠ C_NoNumber)
    (ne_Alive_NoPerson : C_Alive ≠ C_NoPerson)
    (ne_Alive_NoRow : C_Alive ≠ C_NoRow)
    (ne_Alive_NoTongue : C_Alive ≠ C_NoTongue)
    (ne_Alive_NoWay : C_Alive ≠ C_NoWay)
    (ne_Alive_NoWord : C_Alive ≠ C_NoWord)
    (ne_Alive_TooMany : C_Alive ≠ C_TooMany)
    (ne_Alive_Twice : C_Alive ≠ C_Twice)
    (ne_Alive_Unsure : C_Alive ≠ C_Unsure)
    (ne_Barred_Full : C_Barred ≠ C_Full)
    (ne_Barred_HeirError : C_Barred ≠ C_HeirError)
    (ne_Barred_Marked : C_Barred ≠ C_Marked)
    (ne_Barred_NoCode : C_Barred ≠ C_NoCode)
    (ne_Barred_NoEntry : C_Barred ≠ C_NoEntry)
    (ne_Barred_NoFit : C_Barred ≠ C_NoFit)
    (ne_Barred_NoNumber : C_Barred ≠ C_NoNumber)
    (ne_Barred_NoPerson : C_Barred ≠ C_NoPerson)
    (ne_Barred_NoRow : C_Barred ≠ C_NoRow)
    (ne_Barred_NoTongue : C_Barred ≠ C_NoTongue)
    (ne_Barred_NoWay : C_Barred ≠ C_NoWay)
    (ne_Barred_NoWord : C_Barred ≠ C_NoWord)
    (ne_Barred_TooMany : C_Barred ≠ C_TooMany)
    (ne_Barred_Twice : C_Barred ≠ C_Twice)
    (ne_Barred_Unsure : C_Barred ≠ C_Unsure)
    (ne_Full_HeirError : C_Full ≠ C_HeirError)
    (ne_Full_Marked : C_Full ≠ C_Marked)
    (ne_Full_NoCode : C_Full ≠ C_NoCode)
    (ne_Full_NoEntry : C_Full ≠ C_NoEntry)
    (ne_Full_NoFit : C_Full ≠ C_NoFit)
    (ne_Full_NoNumber : C_Full ≠ C_NoNumber)
    (ne_Full_NoPerson : C_Full ≠ C_NoPerson)
    (ne_Full_NoRow : C_Full ≠ C_NoRow)
    (ne_Full_NoTongue : C_Full ≠ C_NoTongue)
    (ne_Full_NoWay : C_Full ≠ C_NoWay)
    (ne_Full_NoWord : C_Full ≠ C_NoWord)
    (ne_Full_TooMany : C_Full ≠ C_TooMany)
    (ne_Full_Twice : C_Full ≠ C_Twice)
    (ne_Full_Unsure : C_Full ≠ C_Unsure)
    (ne_HeirError_Marked : C_HeirError ≠ C_Marked)
    (ne_HeirError_NoCode : C_HeirError ≠ C_NoCode)
    (ne_HeirError_NoEntry : C_HeirError ≠ C_NoEntry)
    (ne_HeirError_NoFit : C_HeirError ≠ C_NoFit)
    (ne_HeirError_NoNumber : C_HeirError ≠ C_NoNumber)
    (ne_HeirError_NoPerson : C_HeirError ≠ C_NoPerson)
    (ne_HeirError_NoRow : C_HeirError ≠ C_NoRow)
    (ne_HeirError_NoTongue : C_HeirError ≠ C_NoTongue)
    (ne_HeirError_NoWay : C_HeirError ≠ C_NoWay)
    (ne_HeirError_NoWord : C_HeirError ≠ C_NoWord)
    (ne_HeirError_TooMany : C_HeirError ≠ C_TooMany)
    (ne_HeirError_Twice : C_HeirError ≠ C_Twice)
    (ne_HeirError_Unsure : C_HeirError ≠ C_Unsure)
    (ne_Marked_NoCode : C_Marked ≠ C_NoCode)
    (ne_Marked_NoEntry : C_Marked ≠ C_NoEntry)
    (ne_Marked_NoFit : C_Marked ≠ C_NoFit)
    (ne_Marked_NoNumber : C_Marked ≠ C_NoNumber)
    (ne_Marked_NoPerson : C_Marked ≠ C_NoPerson)
    (ne_Marked_NoRow : C_Marked ≠ C_NoRow)
    (ne_Marked_NoTongue : C_Marked ≠ C_NoTongue)
    (ne_Marked_NoWay : C_Marked ≠ C_NoWay)
    (ne_Marked_NoWord : C_Marked ≠ C_NoWord)
    (ne_Marked_TooMany : C_Marked ≠ C_TooMany)
    (ne_Marked_Twice : C_Marked ≠ C_Twice)
    (ne_Marked_Unsure : C_Marked ≠ C_Unsure)
    (ne_NoCode_NoEntry : C_NoCode ≠ C_NoEntry)
    (ne_NoCode_NoFit : C_NoCode ≠ C_NoFit)
    (ne_NoCode_NoNumber : C_NoCode ≠ C_NoNumber)
    (ne_NoCode_NoPerson : C_NoCode ≠ C_NoPerson)
    (ne_NoCode_NoRow : C_NoCode ≠ C_NoRow)
    (ne_NoCode_NoTongue : C_NoCode ≠ C_NoTongue)
    (ne_NoCode_NoWay : C_NoCode ≠ C_NoWay)
    (ne_NoCode_NoWord : C_NoCode ≠ C_NoWord)
    (ne_NoCode_TooMany : C_NoCode ≠ C_TooMany)
    (ne_NoCode_Twice : C_NoCode ≠ C_Twice)
    (ne_NoCode_Unsure : C_NoCode ≠ C_Unsure)
    (ne_NoEntry_NoFit : C_NoEntry ≠ C_NoFit)
    (ne_NoEntry_NoNumber : C_NoEntry ≠ C_NoNumber)
    (ne_NoEntry_NoPerson : C_NoEntry ≠ C_NoPerson)
    (ne_NoEntry_NoRow : C_NoEntry ≠ C_NoRow)
    (ne_NoEntry_NoTongue : C_NoEntry ≠ C_NoTongue)
    (ne_NoEntry_NoWay : C_NoEntry ≠ C_NoWay)
    (ne_NoEntry_NoWord : C_NoEntry ≠ C_NoWord)
    (ne_NoEntry_TooMany : C_NoEntry ≠ C_TooMany)
    (ne_NoEntry_Twice : C_NoEntry ≠ C_Twice)
    (ne_NoEntry_Unsure : C_NoEntry ≠ C_Unsure)
    (ne_NoFit_NoNumber : C_NoFit ≠ C_NoNumber)
    (ne_NoFit_NoPerson : C_NoFit ≠ C_NoPerson)
    (ne_NoFit_NoRow : C_NoFit ≠ C_NoRow)
    (ne_NoFit_NoTongue : C_NoFit ≠ C_NoTongue)
    (ne_NoFit_NoWay : C_NoFit ≠ C_NoWay)
    (ne_NoFit_NoWord : C_NoFit ≠ C_NoWord)
    (ne_NoFit_TooMany : C_NoFit ≠ C_TooMany)
    (ne_NoFit_Twice : C_NoFit ≠ C_Twice)
    (ne_NoFit_Unsure : C_NoFit ≠ C_Unsure)
    (ne_NoNumber_NoPerson : C_NoNumber ≠ C_NoPerson)
    (ne_NoNumber_NoRow : C_NoNumber ≠ C_NoRow)
    (ne_NoNumber_NoTongue : C_NoNumber ≠ C_NoTongue)
    (ne_NoNumber_NoWay : C_NoNumber ≠ C_NoWay)
    (ne_NoNumber_NoWord : C_NoNumber ≠ C_NoWord)
    (ne_NoNumber_TooMany : C_NoNumber ≠ C_TooMany)
    (ne_NoNumber_Twice : C_NoNumber ≠ C_Twice)
    (ne_NoNumber_Unsure : C_NoNumber ≠ C_Unsure)
    (ne_NoPerson_NoRow : C_NoPerson ≠ C_NoRow)
    (ne_NoPerson_NoTongue : C_NoPerson ≠ C_NoTongue)
    (ne_NoPerson_NoWay : C_NoPerson ≠ C_NoWay)
    (ne_NoPerson_NoWord : C_NoPerson ≠ C_NoWord)
    (ne_NoPerson_TooMany : C_NoPerson ≠ C_TooMany)
    (ne_NoPerson_Twice : C_NoPerson ≠ C_Twice)
    (ne_NoPerson_Unsure : C_NoPerson ≠ C_Unsure)
    (ne_NoRow_NoTongue : C_NoRow ≠ C_NoTongue)
    (ne_NoRow_NoWay : C_NoRow ≠ C_NoWay)
    (ne_NoRow_NoWord : C_NoRow ≠ C_NoWord)
    (ne_NoRow_TooMany : C_NoRow ≠ C_TooMany)
    (ne_NoRow_Twice : C_NoRow ≠ C_Twice)
    (ne_NoRow_Unsure : C_NoRow ≠ C_Unsure)
    (ne_NoTongue_NoWay : C_NoTongue ≠ C_NoWay)
    (ne_NoTongue_NoWord : C_NoTongue ≠ C_NoWord)
    (ne_NoTongue_TooMany : C_NoTongue ≠ C_TooMany)
    (ne_NoTongue_Twice : C_NoTongue ≠ C_Twice)
    (ne_NoTongue_Unsure : C_NoTongue ≠ C_Unsure)
    (ne_NoWay_NoWord : C_NoWay ≠ C_NoWord)
    (ne_NoWay_TooMany : C_NoWay ≠ C_TooMany)
    (ne_NoWay_Twice : C_NoWay ≠ C_Twice)
    (ne_NoWay_Unsure : C_NoWay ≠ C_Unsure)
    (ne_NoWord_TooMany : C_NoWord ≠ C_TooMany)
    (ne_NoWord_Twice : C_NoWord ≠ C_Twice)
    (ne_NoWord_Unsure : C_NoWord ≠ C_Unsure)
    (ne_TooMany_Twice : C_TooMany ≠ C_Twice)
    (ne_TooMany_Unsure : C_TooMany ≠ C_Unsure)
    (ne_Twice_Unsure : C_Twice ≠ C_Unsure)
    (g_BACK : PySem.W.nsIn K mainGlobals "BACK" = some (some (.ref a_BACK)))
    (lk_BACK : K.lookup a_BACK = some ⟨.type "dict", none, .dict es_BACK n_BACK, #[]⟩)
    (li_BACK : PySem.W.KeysLit w.params es_BACK.toList)
    (lo_BACK : (a_BACK == sysModules) = false)
    (e_BACK_0 : PySem.W.nsIn K a_BACK "F" = some (some (.str "f" t_BACK_0)))
    (e_BACK_1 : PySem.W.nsIn K a_BACK "M" = some (some (.str "m" t_BACK_1)))
    (e_BACK_2 : PySem.W.nsIn K a_BACK "T" = some (some (.str "t" t_BACK_2)))
    (e_BACK_3 : PySem.W.nsIn K a_BACK "f" = some (some (.str "F" t_BACK_3)))
    (e_BACK_4 : PySem.W.nsIn K a_BACK "m" = some (some (.str "M" t_BACK_4)))
    (e_BACK_5 : PySem.W.nsIn K a_BACK "t" = some (some (.str "T" t_BACK_5)))
    (e_BACK_6 : PySem.W.nsIn K a_BACK "S" = some (some (.str "S" t_BACK_6)))
    (e_BACK_7 : PySem.W.nsIn K a_BACK "he" = some (some (.str "he" t_BACK_7)))
    (e_BACK_8 : PySem.W.nsIn K a_BACK "she" = some (some (.str "she" t_BACK_8)))
    (in_BACK : keysOkL es_BACK.toList keys_BACK = true)
    (g_MOST : PySem.W.nsIn K mainGlobals "MOST" = some (some (.int 24 t_MOST)))
    (plain : ∀ A : Ad, AdOk A → ∀ ns : List Int, ns.length ≤ 63 → ∃ h', f_law A [.ref 0] [.scr (ns.map D.int)] = .val (.bl true) h') :
    ∃ fd : FuncData, (∀ (s : Shared) (v : Value), BindsTo s fd ⟨[v], []⟩ [("_law_script", v)]) ∧ ∀ base : Heap, K.In base → base.Ns mainGlobals mg → FnOk l.prog w K mg base (L2.CX l.prog w) 3 fa fd ["_law_script"] (spLaw K) := by
  have e := hfa.symm.trans (PySem.W.mg_of X G a_law)
  cases e
  have T : Txt K w mg { c_Alive := C_Alive, c_Barred := C_Barred, c_Full := C_Full, c_HeirError := C_HeirError, c_Marked := C_Marked, c_NoCode := C_NoCode, c_NoEntry := C_NoEntry, c_NoFit := C_NoFit, c_NoNumber := C_NoNumber, c_NoPerson := C_NoPerson, c_NoRow := C_NoRow, c_NoTongue := C_NoTongue, c_NoWay := C_NoWay, c_NoWord := C_NoWord, c_TooMany := C_TooMany, c_Twice := C_Twice, c_Unsure := C_Unsure, a_BACK := a_BACK } := {
    z := trivial
    n_ValueError := PySem.W.mg_none_of X G z_ValueError
    n_isinstance := PySem.W.mg_none_of X G z_isinstance
    n_len := PySem.W.mg_none_of X G z_len
    n_list := PySem.W.mg_none_of X G z_list
    n_str := PySem.W.mg_none_of X G z_str
    n_tuple := PySem.W.mg_none_of X G z_tuple
    c_Alive := PySem.W.mg_of X G gc_Alive
    kc_Alive := kc_Alive
    sb_Alive := sb_Alive
    tc_Alive := tc_Alive
    c_Barred := PySem.W.mg_of X G gc_Barred
    kc_Barred := kc_Barred
    sb_Barred := sb_Barred
    tc_Barred := tc_Barred
    c_Full := PySem.W.mg_of X G gc_Full
    kc_Full := kc_Full
    sb_Full := sb_Full
    tc_Full := tc_Full
    c_HeirError := PySem.W.mg_of X G gc_HeirError
    kc_HeirError := kc_HeirError
    sb_HeirError := sb_HeirError
    tc_HeirError := tc_HeirError
    c_Marked := PySem.W.mg_of X G gc_Marked
    kc_Marked := kc_Marked
    sb_Marked := sb_Marked
    tc_Marked := tc_Marked
    c_NoCode := PySem.W.mg_of X G gc_NoCode
    kc_NoCode := kc_NoCode
    sb_NoCode := sb_NoCode
    tc_NoCode := tc_NoCode
    c_NoEntry := PySem.W.mg_of X G gc_NoEntry
    kc_NoEntry := kc_NoEntry
    sb_NoEntry := sb_NoEntry
    tc_NoEntry := tc_NoEntry
    c_NoFit := PySem.W.mg_of X G gc_NoFit
    kc_NoFit := kc_NoFit
    sb_NoFit := sb_NoFit
    tc_NoFit := tc_NoFit
    c_NoNumber := PySem.W.mg_of X G gc_NoNumber
    kc_NoNumber := kc_NoNumber
    sb_NoNumber := sb_NoNumber
    tc_NoNumber := tc_NoNumber
    c_NoPerson := PySem.W.mg_of X G gc_NoPerson
    kc_NoPerson := kc_NoPerson
    sb_NoPerson := sb_NoPerson
    tc_NoPerson := tc_NoPerson
    c_NoRow := PySem.W.mg_of X G gc_NoRow
    kc_NoRow := kc_NoRow
    sb_NoRow := sb_NoRow
    tc_NoRow := tc_NoRow
    c_NoTongue := PySem.W.mg_of X G gc_NoTongue
    kc_NoTongue := kc_NoTongue
    sb_NoTongue := sb_NoTongue
    tc_NoTongue := tc_NoTongue
    c_NoWay := PySem.W.mg_of X G gc_NoWay
    kc_NoWay := kc_NoWay
    sb_NoWay := sb_NoWay
    tc_NoWay := tc_NoWay
    x_NoWay := xc_NoWay
    c_NoWord := PySem.W.mg_of X G gc_NoWord
    kc_NoWord := kc_NoWord
    sb_NoWord := sb_NoWord
    tc_NoWord := tc_NoWord
    c_TooMany := PySem.W.mg_of X G gc_TooMany
    kc_TooMany := kc_TooMany
    sb_TooMany := sb_TooMany
    tc_TooMany := tc_TooMany
    c_Twice := PySem.W.mg_of X G gc_Twice
    kc_Twice := kc_Twice
    sb_Twice := sb_Twice
    tc_Twice := tc_Twice
    c_Unsure := PySem.W.mg_of X G gc_Unsure
    kc_Unsure := kc_Unsure
    sb_Unsure := sb_Unsure
    tc_Unsure := tc_Unsure
    em_NoWay := by
      intro cls b e
      unfold em_NoWay at e
      dsimp only at e
      rcases ite_or e with ⟨e0, rfl⟩ | e
      · subst e0; exact PySem.W.exm_ref sb_NoWay xhd_NoWay tc_NoWay su_NoWay_NoWay
      cases e
    ki := by
      intro cls h
      unfold isEx at h
      dsimp only at h
      rcases h with rfl | h
      · refine ⟨_, rfl, ⟨xhg_NoWay, xhk_NoWay, sb_NoWay, xhd_NoWay, xha_NoWay, x_hn, x_ht, xhm_NoWay⟩, fun c b e => ?_⟩
        unfold kitV at e
        dsimp only at e
        rcases ite_or e with ⟨⟨_, rfl⟩, rfl⟩ | e
        · exact kit_ref xhd_Alive tc_Alive su_NoWay_Alive (fun z => absurd (Value.ref.inj z) (Ne.symm ne_Alive_NoWay))
        rcases ite_or e with ⟨⟨_, rfl⟩, rfl⟩ | e
        · exact kit_ref xhd_Barred tc_Barred su_NoWay_Barred (fun z => absurd (Value.ref.inj z) (Ne.symm ne_Barred_NoWay))
        rcases ite_or e with ⟨⟨_, rfl⟩, rfl⟩ | e
        · exact kit_ref xhd_Full tc_Full su_NoWay_Full (fun z => absurd (Value.ref.inj z) (Ne.symm ne_Full_NoWay))
        rcases ite_or e with ⟨⟨_, rfl⟩, rfl⟩ | e
        · exact kit_ref xhd_HeirError tc_HeirError su_NoWay_HeirError (fun z => rfl)
        rcases ite_or e with ⟨⟨_, rfl⟩, rfl⟩ | e
        · exact kit_ref xhd_Marked tc_Marked su_NoWay_Marked (fun z => absurd (Value.ref.inj z) (Ne.symm ne_Marked_NoWay))
        rcases ite_or e with ⟨⟨_, rfl⟩, rfl⟩ | e
        · exact kit_ref xhd_NoCode tc_NoCode su_NoWay_NoCode (fun z => absurd (Value.ref.inj z) (Ne.symm ne_NoCode_NoWay))
        rcases ite_or e with ⟨⟨_, rfl⟩, rfl⟩ | e
        · exact kit_ref xhd_NoEntry tc_NoEntry su_NoWay_NoEntry (fun z => absurd (Value.ref.inj z) (Ne.symm ne_NoEntry_NoWay))
        rcases ite_or e with ⟨⟨_, rfl⟩, rfl⟩ | e
        · exact kit_ref xhd_NoFit tc_NoFit su_NoWay_NoFit (fun z => absurd (Value.ref.inj z) (Ne.symm ne_NoFit_NoWay))
        rcases ite_or e with ⟨⟨_, rfl⟩, rfl⟩ | e
        · exact kit_ref xhd_NoNumber tc_NoNumber su_NoWay_NoNumber (fun z => absurd (Value.ref.inj z) (Ne.symm ne_NoNumber_NoWay))
        rcases ite_or e with ⟨⟨_, rfl⟩, rfl⟩ | e
        · exact kit_ref xhd_NoPerson tc_NoPerson su_NoWay_NoPerson (fun z => absurd (Value.ref.inj z) (Ne.symm ne_NoPerson_NoWay))
        rcases ite_or e with ⟨⟨_, rfl⟩, rfl⟩ | e
        · exact kit_ref xhd_NoRow tc_NoRow su_NoWay_NoRow (fun z => absurd (Value.ref.inj z) (Ne.symm ne_NoRow_NoWay))
        rcases ite_or e with ⟨⟨_, rfl⟩, rfl⟩ | e
        · exact kit_ref xhd_NoTongue tc_NoTongue su_NoWay_NoTongue (fun z => absurd (Value.ref.inj z) (Ne.symm ne_NoTongue_NoWay))
        rcases ite_or e with ⟨⟨_, rfl⟩, rfl⟩ | e
        · exact kit_ref xhd_NoWord tc_NoWord su_NoWay_NoWord (fun z => absurd (Value.ref.inj z) ne_NoWay_NoWord)
        rcases ite_or e with ⟨⟨_, rfl⟩, rfl⟩ | e
        · exact kit_ref xhd_TooMany tc_TooMany su_NoWay_TooMany (fun z => absurd (Value.ref.inj z) ne_NoWay_TooMany)
        rcases ite_or e with ⟨⟨_, rfl⟩, rfl⟩ | e
        · exact kit_ref xhd_Twice tc_Twice su_NoWay_Twice (fun z => absurd (Value.ref.inj z) ne_NoWay_Twice)
        rcases ite_or e with ⟨⟨_, rfl⟩, rfl⟩ | e
        · exact kit_ref xhd_Unsure tc_Unsure su_NoWay_Unsure (fun z => absurd (Value.ref.inj z) ne_NoWay_Unsure)
        rcases ite_or e with ⟨⟨_, rfl⟩, rfl⟩ | e
        · exact kit_type (by decide) su_NoWay_ValueError
        cases e
      · exact h.elim
    k_BACK := PySem.W.mg_of X G g_BACK
    kd_BACK := ⟨_, _, lk_BACK, li_BACK, lo_BACK⟩
    in_BACK := keys_in lk_BACK in_BACK tblS_BACK
    h_BACK := by
      intro z y e
      unfold tbl_BACK at e
      rcases ite_or e with ⟨e0, rfl⟩ | e
      · subst e0; exact ⟨.str "f", ⟨_, _, _, lk_BACK, li_BACK, e_BACK_0, ⟨_, rfl⟩⟩, fun _ _ => .str⟩
      rcases ite_or e with ⟨e0, rfl⟩ | e
      · subst e0; exact ⟨.str "m", ⟨_, _, _, lk_BACK, li_BACK, e_BACK_1, ⟨_, rfl⟩⟩, fun _ _ => .str⟩
      rcases ite_or e with ⟨e0, rfl⟩ | e
      · subst e0; exact ⟨.str "t", ⟨_, _, _, lk_BACK, li_BACK, e_BACK_2, ⟨_, rfl⟩⟩, fun _ _ => .str⟩
      rcases ite_or e with ⟨e0, rfl⟩ | e
      · subst e0; exact ⟨.str "F", ⟨_, _, _, lk_BACK, li_BACK, e_BACK_3, ⟨_, rfl⟩⟩, fun _ _ => .str⟩
      rcases ite_or e with ⟨e0, rfl⟩ | e
      · subst e0; exact ⟨.str "M", ⟨_, _, _, lk_BACK, li_BACK, e_BACK_4, ⟨_, rfl⟩⟩, fun _ _ => .str⟩
      rcases ite_or e with ⟨e0, rfl⟩ | e
      · subst e0; exact ⟨.str "T", ⟨_, _, _, lk_BACK, li_BACK, e_BACK_5, ⟨_, rfl⟩⟩, fun _ _ => .str⟩
      rcases ite_or e with ⟨e0, rfl⟩ | e
      · subst e0; exact ⟨.str "S", ⟨_, _, _, lk_BACK, li_BACK, e_BACK_6, ⟨_, rfl⟩⟩, fun _ _ => .str⟩
      rcases ite_or e with ⟨e0, rfl⟩ | e
      · subst e0; exact ⟨.str "he", ⟨_, _, _, lk_BACK, li_BACK, e_BACK_7, ⟨_, rfl⟩⟩, fun _ _ => .str⟩
      rcases ite_or e with ⟨e0, rfl⟩ | e
      · subst e0; exact ⟨.str "she", ⟨_, _, _, lk_BACK, li_BACK, e_BACK_8, ⟨_, rfl⟩⟩, fun _ _ => .str⟩
      cases e
    k_MOST := ⟨_, PySem.W.mg_of X G g_MOST, ⟨_, rfl⟩⟩
  }
  have Fu_read_way := fun_mk (st := s_read_way) l_read_way co_read_way ke_read_way
  have b_read_way := Fu_read_way.binds (ps := ["text"]) fun _ _ _ _ _ _ us hl => match us, hl with | [_], _ => rfl
  have Fu__law_cell_at := fun_mk (st := s__law_cell_at) l__law_cell_at co__law_cell_at ke__law_cell_at
  have b__law_cell_at := Fu__law_cell_at.binds (ps := ["_law_script", "_law_k"]) fun _ _ _ _ _ _ us hl => match us, hl with | [_, _], _ => rfl
  have Fu__law_read := fun_mk (st := s__law_read) l__law_read co__law_read ke__law_read
  have b__law_read := Fu__law_read.binds (ps := ["_law_text_here"]) fun _ _ _ _ _ _ us hl => match us, hl with | [_], _ => rfl
  have Fu__law_good := fun_mk (st := s__law_good) l__law_good co__law_good ke__law_good
  have b__law_good := Fu__law_good.binds (ps := ["_law_cells"]) fun _ _ _ _ _ _ us hl => match us, hl with | [_], _ => rfl
  have Fu__law_spoiled := fun_mk (st := s__law_spoiled) l__law_spoiled co__law_spoiled ke__law_spoiled
  have b__law_spoiled := Fu__law_spoiled.binds (ps := ["_law_text_here", "_law_cell", "_law_way"]) fun _ _ _ _ _ _ us hl => match us, hl with | [_, _, _], _ => rfl
  have Fu__law_pieces := fun_mk (st := s__law_pieces) l__law_pieces co__law_pieces ke__law_pieces
  have b__law_pieces := Fu__law_pieces.binds (ps := ["_law_cells"]) fun _ _ _ _ _ _ us hl => match us, hl with | [_], _ => rfl
  have Fu__law_text := fun_mk (st := s__law_text) l__law_text co__law_text ke__law_text
  have b__law_text := Fu__law_text.binds (ps := ["_law_script"]) fun _ _ _ _ _ _ us hl => match us, hl with | [_], _ => rfl
  have Fu__law_told := fun_mk (st := s__law_told) l__law_told co__law_told ke__law_told
  have b__law_told := Fu__law_told.binds (ps := ["_law_thing"]) fun _ _ _ _ _ _ us hl => match us, hl with | [_], _ => rfl
  have Fu_law := fun_mk (st := s_law) l_law co_law ke_law
  have b_law := Fu_law.binds (ps := ["_law_script"]) fun _ _ _ _ _ _ us hl => match us, hl with | [_], _ => rfl
  refine ⟨PySem.W.fnOf "law" "law" (defArgs s_law) (defBody s_law) (defScope s_law) .none kV_law dc_law pm_law an_law cd_law ct_law, fun s v => .of_eq rfl, fun base _ _ => ?_⟩
  have G_read_way : FnD l.prog w K mg base 1 "read_way" ["text"] (f_read_way _) := ok_read_way T Fu_read_way (PySem.W.mg_of X G a_read_way) b_read_way 
  have G__law_cell_at : FnD l.prog w K mg base 1 "_law_cell_at" ["_law_script", "_law_k"] (f__law_cell_at _) := ok__law_cell_at T Fu__law_cell_at (PySem.W.mg_of X G a__law_cell_at) b__law_cell_at 
  have G__law_read : FnD l.prog w K mg base 1 "_law_read" ["_law_text_here"] (f__law_read _) := ok__law_read T Fu__law_read (PySem.W.mg_of X G a__law_read) b__law_read 
  have G__law_good : FnD l.prog w K mg base 1 "_law_good" ["_law_cells"] (f__law_good _) := ok__law_good T Fu__law_good (PySem.W.mg_of X G a__law_good) b__law_good 
  have G__law_spoiled : FnD l.prog w K mg base 1 "_law_spoiled" ["_law_text_here", "_law_cell", "_law_way"] (f__law_spoiled _) := ok__law_spoiled T Fu__law_spoiled (PySem.W.mg_of X G a__law_spoiled) b__law_spoiled 
  have G__law_pieces : FnD l.prog w K mg base 1 "_law_pieces" ["_law_cells"] (f__law_pieces _) := ok__law_pieces T Fu__law_pieces (PySem.W.mg_of X G a__law_pieces) b__law_pieces 
  have G__law_text : FnD l.prog w K mg base 2 "_law_text" ["_law_script"] (f__law_text _) := ok__law_text T Fu__law_text (PySem.W.mg_of X G a__law_text) b__law_text G__law_cell_at G__law_good G__law_pieces G__law_spoiled
  have G__law_told : FnD l.prog w K mg base 2 "_law_told" ["_law_thing"] (f__law_told _) := ok__law_told T Fu__law_told (PySem.W.mg_of X G a__law_told) b__law_told G_read_way
  exact law_of (okr_law T Fu_law G__law_cell_at G__law_good G__law_read G__law_text G__law_told) (plain _ { z := trivial, ne_Alive_Barred := ne_Alive_Barred, ne_Alive_Full := ne_Alive_Full, ne_Alive_HeirError := ne_Alive_HeirError, ne_Alive_Marked := ne_Alive_Marked, ne_Alive_NoCode := ne_Alive_NoCode, ne_Alive_NoEntry := ne_Alive_NoEntry, ne_Alive_NoFit := ne_Alive_NoFit, ne_Alive_NoNumber := ne_Alive_NoNumber, ne_Alive_NoPerson := ne_Alive_NoPerson, ne_Alive_NoRow := ne_Alive_NoRow, ne_Alive_NoTongue := ne_Alive_NoTongue, ne_Alive_NoWay := ne_Alive_NoWay, ne_Alive_NoWord := ne_Alive_NoWord, ne_Alive_TooMany := ne_Alive_TooMany, ne_Alive_Twice := ne_Alive_Twice, ne_Alive_Unsure := ne_Alive_Unsure, ne_Barred_Full := ne_Barred_Full, ne_Barred_HeirError := ne_Barred_HeirError, ne_Barred_Marked := ne_Barred_Marked, ne_Barred_NoCode := ne_Barred_NoCode, ne_Barred_NoEntry := ne_Barred_NoEntry, ne_Barred_NoFit := ne_Barred_NoFit, ne_Barred_NoNumber := ne_Barred_NoNumber, ne_Barred_NoPerson := ne_Barred_NoPerson, ne_Barred_NoRow := ne_Barred_NoRow, ne_Barred_NoTongue := ne_Barred_NoTongue, ne_Barred_NoWay := ne_Barred_NoWay, ne_Barred_NoWord := ne_Barred_NoWord, ne_Barred_TooMany := ne_Barred_TooMany, ne_Barred_Twice := ne_Barred_Twice, ne_Barred_Unsure := ne_Barred_Unsure, ne_Full_HeirError := ne_Full_HeirError, ne_Full_Marked := ne_Full_Marked, ne_Full_NoCode := ne_Full_NoCode, ne_Full_NoEntry := ne_Full_NoEntry, ne_Full_NoFit := ne_Full_NoFit, ne_Full_NoNumber := ne_Full_NoNumber, ne_Full_NoPerson := ne_Full_NoPerson, ne_Full_NoRow := ne_Full_NoRow, ne_Full_NoTongue := ne_Full_NoTongue, ne_Full_NoWay := ne_Full_NoWay, ne_Full_NoWord := ne_Full_NoWord, ne_Full_TooMany := ne_Full_TooMany, ne_Full_Twice := ne_Full_Twice, ne_Full_Unsure := ne_Full_Unsure, ne_HeirError_Marked := ne_HeirError_Marked, ne_HeirError_NoCode := ne_HeirError_NoCode, ne_HeirError_NoEntry := ne_HeirError_NoEntry, ne_HeirError_NoFit := ne_HeirError_NoFit, ne_HeirError_NoNumber := ne_HeirError_NoNumber, ne_HeirError_NoPerson := ne_HeirError_NoPerson, ne_HeirError_NoRow := ne_HeirError_NoRow, ne_HeirError_NoTongue := ne_HeirError_NoTongue, ne_HeirError_NoWay := ne_HeirError_NoWay, ne_HeirError_NoWord := ne_HeirError_NoWord, ne_HeirError_TooMany := ne_HeirError_TooMany, ne_HeirError_Twice := ne_HeirError_Twice, ne_HeirError_Unsure := ne_HeirError_Unsure, ne_Marked_NoCode := ne_Marked_NoCode, ne_Marked_NoEntry := ne_Marked_NoEntry, ne_Marked_NoFit := ne_Marked_NoFit, ne_Marked_NoNumber := ne_Marked_NoNumber, ne_Marked_NoPerson := ne_Marked_NoPerson, ne_Marked_NoRow := ne_Marked_NoRow, ne_Marked_NoTongue := ne_Marked_NoTongue, ne_Marked_NoWay := ne_Marked_NoWay, ne_Marked_NoWord := ne_Marked_NoWord, ne_Marked_TooMany := ne_Marked_TooMany, ne_Marked_Twice := ne_Marked_Twice, ne_Marked_Unsure := ne_Marked_Unsure, ne_NoCode_NoEntry := ne_NoCode_NoEntry, ne_NoCode_NoFit := ne_NoCode_NoFit, ne_NoCode_NoNumber := ne_NoCode_NoNumber, ne_NoCode_NoPerson := ne_NoCode_NoPerson, ne_NoCode_NoRow := ne_NoCode_NoRow, ne_NoCode_NoTongue := ne_NoCode_NoTongue, ne_NoCode_NoWay := ne_NoCode_NoWay, ne_NoCode_NoWord := ne_NoCode_NoWord, ne_NoCode_TooMany := ne_NoCode_TooMany, ne_NoCode_Twice := ne_NoCode_Twice, ne_NoCode_Unsure := ne_NoCode_Unsure, ne_NoEntry_NoFit := ne_NoEntry_NoFit, ne_NoEntry_NoNumber := ne_NoEntry_NoNumber, ne_NoEntry_NoPerson := ne_NoEntry_NoPerson, ne_NoEntry_NoRow := ne_NoEntry_NoRow, ne_NoEntry_NoTongue := ne_NoEntry_NoTongue, ne_NoEntry_NoWay := ne_NoEntry_NoWay, ne_NoEntry_NoWord := ne_NoEntry_NoWord, ne_NoEntry_TooMany := ne_NoEntry_TooMany, ne_NoEntry_Twice := ne_NoEntry_Twice, ne_NoEntry_Unsure := ne_NoEntry_Unsure, ne_NoFit_NoNumber := ne_NoFit_NoNumber, ne_NoFit_NoPerson := ne_NoFit_NoPerson, ne_NoFit_NoRow := ne_NoFit_NoRow, ne_NoFit_NoTongue := ne_NoFit_NoTongue, ne_NoFit_NoWay := ne_NoFit_NoWay, ne_NoFit_NoWord := ne_NoFit_NoWord, ne_NoFit_TooMany := ne_NoFit_TooMany, ne_NoFit_Twice := ne_NoFit_Twice, ne_NoFit_Unsure := ne_NoFit_Unsure, ne_NoNumber_NoPerson := ne_NoNumber_NoPerson, ne_NoNumber_NoRow := ne_NoNumber_NoRow, ne_NoNumber_NoTongue := ne_NoNumber_NoTongue, ne_NoNumber_NoWay := ne_NoNumber_NoWay, ne_NoNumber_NoWord := ne_NoNumber_NoWord, ne_NoNumber_TooMany := ne_NoNumber_TooMany, ne_NoNumber_Twice := ne_NoNumber_Twice, ne_NoNumber_Unsure := ne_NoNumber_Unsure, ne_NoPerson_NoRow := ne_NoPerson_NoRow, ne_NoPerson_NoTongue := ne_NoPerson_NoTongue, ne_NoPerson_NoWay := ne_NoPerson_NoWay, ne_NoPerson_NoWord := ne_NoPerson_NoWord, ne_NoPerson_TooMany := ne_NoPerson_TooMany, ne_NoPerson_Twice := ne_NoPerson_Twice, ne_NoPerson_Unsure := ne_NoPerson_Unsure, ne_NoRow_NoTongue := ne_NoRow_NoTongue, ne_NoRow_NoWay := ne_NoRow_NoWay, ne_NoRow_NoWord := ne_NoRow_NoWord, ne_NoRow_TooMany := ne_NoRow_TooMany, ne_NoRow_Twice := ne_NoRow_Twice, ne_NoRow_Unsure := ne_NoRow_Unsure, ne_NoTongue_NoWay := ne_NoTongue_NoWay, ne_NoTongue_NoWord := ne_NoTongue_NoWord, ne_NoTongue_TooMany := ne_NoTongue_TooMany, ne_NoTongue_Twice := ne_NoTongue_Twice, ne_NoTongue_Unsure := ne_NoTongue_Unsure, ne_NoWay_NoWord := ne_NoWay_NoWord, ne_NoWay_TooMany := ne_NoWay_TooMany, ne_NoWay_Twice := ne_NoWay_Twice, ne_NoWay_Unsure := ne_NoWay_Unsure, ne_NoWord_TooMany := ne_NoWord_TooMany, ne_NoWord_Twice := ne_NoWord_Twice, ne_NoWord_Unsure := ne_NoWord_Unsure, ne_TooMany_Twice := ne_TooMany_Twice, ne_TooMany_Unsure := ne_TooMany_Unsure, ne_Twice_Unsure := ne_Twice_Unsure })
theorem walk {l : PySem.W.OpenLaw} {q : Program} {loose : List Str} {XP : (Str → Option Value) → Heap → Prop} {YP : World → Heap → Prop} {d : DefRec} {K : Params → PySem.W.Frag} (hn : l.most = some 63) (hdf : d.params.defaults = [])
    (hY : ∀ (w : World) (h : Heap), YP w h → (K w.params).In h)
    (F : ∀ (w : World) (mg : Str → Option Value) (fa : Addr) (h : Heap), (K w.params).In h → h.Ns mainGlobals mg → mg d.name = some (.ref fa) →
      ∃ fd : FuncData, (∀ (s : Shared) (u : Value), BindsTo s fd ⟨[u], []⟩ [("_law_script", u)]) ∧ ∀ base : Heap, (K w.params).In base → base.Ns mainGlobals mg → FnOk l.prog w (K w.params) mg base (L2.CX l.prog w) 3 fa fd ["_law_script"] (spLaw (K w.params))) :
    PySem.W.WalkO q loose XP YP l.row.toRowW d [] (fun f vs => PySem.call f vs) :=
  L2.walk_of (n := 63) (k := 3) (x := "_law_script") (CX := fun w => L2.CX l.prog w) (sp := fun w => spLaw (K w.params)) hn (by decide) hdf ⟨rfl, by decide, by decide⟩ hY F (fun w H a ns hl ho hS => ⟨a, ns, rfl, hS, ho, hl, fun _ => rfl⟩) (fun _ _ _ _ _ ⟨_, _, _, _, _, _, _, _, _, _, _, _, z⟩ => z)
end Wk12

namespace Wk12
open PySem PySem.Spec PyProof.Rows L2 DL
theorem cell_eq (A : Ad) (ns : List Int) (h : DH) (e : listAt h 0 = some (ns.map D.int)) (k : Nat) : ∃ v, f__law_cell_at A [.ref 0, .int k] h = .val (.int v) h := by
  unfold f__law_cell_at m__law_cell_at
  by_cases hk : k < ns.length
  · refine ⟨ns[k], ?_⟩
    have e2 : gIx (.ref 0) (.int (k : Int)) h = .val (.int ns[k]) h := r_ix_lst e (by simp [List.getElem?_eq_getElem hk])
    simp [startD, r_len_lst e, hk, e2]
  · refine ⟨0, ?_⟩
    simp [startD, r_len_lst e, hk]
def steps9 : List Str := ["F", "M", "T", "f", "m", "t", "S", "he", "she"]
theorem small24 {n : Nat} (h : n ≤ 100) : n < sizeLine := Nat.lt_of_le_of_lt h (by rw [sizeLine_eq]; decide)
theorem small24' {n : Nat} (h : n ≤ 100000) : n < sizeLine := Nat.lt_of_le_of_lt h (by rw [sizeLine_eq]; decide)
theorem sz {n : Nat} (h : n ≤ 100000) : n ≤ sizeLine := Nat.le_of_lt (Nat.lt_of_le_of_lt h (by rw [sizeLine_eq]; decide))
theorem filter_true {α : Type} {l : List α} : l.filter (fun _ => true) = l := by simp
theorem cut_ints (ns : List Int) (a b : Nat) : DL.cutD (ns.map D.int) (some (a : Int)) (some (b : Int)) = (((ns.drop (min a ns.length)).take (min b ns.length - min a ns.length)).map D.int) := by
  unfold DL.cutD
  rw [HT.sIx_nat, HT.sIx_nat, List.length_map, List.map_take, List.map_drop]
theorem st_len : ∀ z ∈ steps9, (TL.tl z).length ≤ 3 ∧ TL.tl z ≠ [] ∧ 32 ∉ TL.tl z := by decide +kernel
theorem blank_tl : TL.tl (" " : Str) = [32] := by decide +kernel
theorem joinL_snoc (S x : List Nat) : ∀ l : List (List Nat), l ≠ [] → TL.joinL S (l ++ [x]) = TL.joinL S l ++ (S ++ x)
  | [], h => absurd rfl h
  | [p], _ => rfl
  | p :: q :: r, _ => by
    show p ++ (S ++ TL.joinL S (q :: (r ++ [x]))) = (p ++ (S ++ TL.joinL S (q :: r))) ++ (S ++ x)
    have := joinL_snoc S x (q :: r) (by simp)
    rw [List.cons_append] at this
    rw [this]; simp
theorem joinL_len (S : List Nat) (m : Nat) : ∀ l : List (List Nat), (∀ p ∈ l, p.length ≤ m) → (TL.joinL S l).length ≤ l.length * (m + S.length)
  | [], _ => by simp [TL.joinL]
  | [p], h => by
    have := h p List.mem_cons_self
    simp only [TL.joinL, List.length_cons, List.length_nil]; omega
  | p :: q :: r, h => by
    have h1 := h p List.mem_cons_self
    have h2 := joinL_len S m (q :: r) (fun p hp => h p (List.mem_cons_of_mem _ hp))
    show (p ++ (S ++ TL.joinL S (q :: r))).length ≤ (p :: q :: r).length * (m + S.length)
    rw [List.length_append, List.length_append, List.length_cons, Nat.succ_mul]
    omega
theorem joinL_ne {S : List Nat} : ∀ {l : List (List Nat)}, l ≠ [] → (∀ p ∈ l, p ≠ []) → TL.joinL S l ≠ []
  | [], h, _ => absurd rfl h
  | [p], _, h => h p List.mem_cons_self
  | p :: q :: r, _, h => by
    show p ++ (S ++ TL.joinL S (q :: r)) ≠ []
    have := h p List.mem_cons_self
    simp [this]
def tx (ws : List Str) : Str := Str.join " " ws
theorem tl_tx (ws : List Str) : TL.tl (tx ws) = TL.joinL [32] (ws.map TL.tl) := by
  unfold tx; rw [TL.tl_join, blank_tl]
theorem tx_len {ws : List Str} (hw : ∀ z ∈ ws, z ∈ steps9) : (tx ws).length ≤ ws.length * 4 := by
  rw [TL.len_tl, tl_tx]
  have := joinL_len [32] 3 (ws.map TL.tl) (fun p hp => by
    obtain ⟨z, hz, rfl⟩ := List.mem_map.mp hp
    exact (st_len z (hw z hz)).1)
  simpa using this
theorem tx_nil : tx [] = "" := rfl
theorem tx_ne {ws : List Str} (hne : ws ≠ []) (hw : ∀ z ∈ ws, z ∈ steps9) : (tx ws == ("" : Str)) = false := by
  rw [beq_eq_false_iff_ne]
  intro e
  have e2 : TL.tl (tx ws) = [] := by rw [e]; decide +kernel
  rw [tl_tx] at e2
  refine joinL_ne (by simpa using hne) (fun p hp => ?_) e2
  obtain ⟨z, hz, rfl⟩ := List.mem_map.mp hp
  exact (st_len z (hw z hz)).2.1
theorem tx_snoc {ws : List Str} (hne : ws ≠ []) (x : Str) : tx (ws ++ [x]) = tx ws ++ " " ++ x := by
  apply TL.ext_tl
  rw [tl_tx, TL.tl_append, TL.tl_append, tl_tx, blank_tl, List.map_append, List.map_singleton, joinL_snoc _ _ _ (by simpa using hne)]
  simp
theorem tx_one (x : Str) : tx [x] = x := rfl
theorem tx_split {ws : List Str} (hne : ws ≠ []) (hw : ∀ z ∈ ws, z ∈ steps9) : PySem.Txt.split (tx ws) " " = ws := by
  unfold tx
  rw [← TL.join_eq]
  exact TL.split_join blank_tl (by decide +kernel) hne fun z hz => (st_len z (hw z hz)).2.2
def wz (c : Int) : Str := steps9.getD (c % 9).toNat "F"
theorem wz_at (c : Int) : (steps9.map D.str)[(c % 9).toNat]? = some (.str (wz c)) := by
  have h : (c % 9).toNat < 9 := by omega
  unfold wz
  rw [List.getElem?_map, List.getD_eq_getElem?_getD, List.getElem?_eq_getElem (by exact h)]
  rfl
theorem wz_in (c : Int) : wz c ∈ steps9 := by
  have h : (c % 9).toNat < 9 := by omega
  unfold wz
  rw [List.getD_eq_getElem?_getD, List.getElem?_eq_getElem (by exact h)]
  exact List.getElem_mem _
theorem back_some : ∀ z ∈ steps9, (tbl_BACK z).isSome = true := by
  intro z hz
  simp only [steps9, List.mem_cons, List.not_mem_nil, or_false] at hz
  rcases hz with rfl | rfl | rfl | rfl | rfl | rfl | rfl | rfl | rfl <;> rfl
theorem r_inkd {neg : Bool} {a : Addr} {f : Str → Option D} {z : Str} {h : DH} : gInKD neg a f (.str z) (.raw (.ref a)) h = .val (.bl (if neg then !(f z).isSome else (f z).isSome)) h := by
  unfold gInKD; dsimp only; rw [if_pos rfl]
theorem r_add_str {x y : Str} {h : DH} (c : x.length + y.length ≤ sizeLine) : gAdd (.str x) (.str y) h = .val (.str (x ++ y)) h := if_pos c
theorem nxval {n : SM} {a : SOut} {ρ : DEnv} {h : DH} {P : Str → Prop} {hh : DH} (e : a = .nx ρ h) (k : ∃ y, P y ∧ (n ρ h).fin = .val (.str y) hh) : ∃ y, P y ∧ (a.thn n).fin = .val (.str y) hh := by rw [e]; exact k
theorem nxany {n : SM} {a : SOut} {ρ : DEnv} {h : DH} {P : Str → Prop} {hh : DH} (e : a = .nx ρ h) (k : ∃ y, P y ∧ (n ρ h).fin = .val (.str y) hh) : ∃ y, P y ∧ (a.thn n).fin = .val (.str y) hh := by rw [e]; exact k
abbrev bl1 : Str := " "
def S (z : Str) : List Str := PySem.Txt.split z " "
def rd (z : Str) : Option (List Str) := if z = "" then some [] else if (S z).length ≤ 24 ∧ ∀ w ∈ S z, w ∈ steps9 then some (S z) else none
theorem S_spl (z : Str) : (S z).map TL.tl = TL.spl [32] 0 [] (TL.tl z) := by
  unfold S
  rw [TL.split_spl _ _ (by rw [blank_tl]; simp) (TL.kind_ok (by decide +kernel)), blank_tl]
theorem keys9 : keys_BACK = steps9 := rfl
theorem back_iff (x : Str) : (tbl_BACK x).isSome = decide (x ∈ steps9) := by
  rw [tblS_BACK, keys9, List.contains_eq_mem]
theorem empty_beq (z : Str) : (z == ("" : Str)) = decide (z = "") := by
  by_cases h : z = ""
  · subst h; decide +kernel
  · rw [beq_eq_false_iff_ne.mpr h]; simp [h]
theorem split_call {z : Str} (hz : z.length ≤ 1000) {h : DH} : gSplit (.str z) [.str " "] h = .val (.ref h.length) (h ++ [.lst ((S z).map D.str)]) := by
  unfold gSplit
  dsimp only
  rw [if_pos ⟨by decide +kernel, sz (by omega)⟩]
  rfl
theorem read_eq (A : Ad) {z : Str} (hz : z.length ≤ 1000) {h : DH} : ∃ j, f_read_way A [.str z] h = match rd z with
    | some ws => .val (.tup (ws.map D.str)) (h ++ j)
    | none => .exc ⟨.ref A.c_NoWay, []⟩ (h ++ j) := by
  unfold f_read_way m_read_way rd
  by_cases h0 : z = ""
  · subst h0
    exact ⟨[], by simp [startD]⟩
  rw [if_neg h0]
  have n1 : (z == ("" : Str)) = false := by rw [empty_beq]; simp [h0]
  refine ⟨[.lst ((S z).map D.str)], ?_⟩
  simp only [beq_eq_false_iff_ne, ne_eq] at n1
  have le : listAt (h ++ [.lst ((S z).map D.str)]) h.length = some ((S z).map D.str) := listAt_end
  refine fin_step (ρ := [some (.str z), none, none]) (h := h) (by simp [startD]) ?_
  refine fin_step (ρ := [some (.str z), none, none]) (h := h) (by simp [n1]) ?_
  refine fin_step (ρ := [some (.str z), some (.ref h.length), none]) (h := h ++ [.lst ((S z).map D.str)]) (by simp [split_call hz]) ?_
  have g : gGt (.int ((S z).length : Int)) (.int 24) (h ++ [.lst ((S z).map D.str)]) = .val (.bl (decide ((24 : Int) < (S z).length))) (h ++ [.lst ((S z).map D.str)]) := by
    show gI0 _ _ _ _ = _
    rw [r_I0]
  by_cases h24 : (S z).length ≤ 24
  · refine fin_step (ρ := [some (.str z), some (.ref h.length), none]) (h := h ++ [.lst ((S z).map D.str)]) (by
      have : ¬ (24 : Int) < (S z).length := by omega
      simp [r_len_lst le, g, this]) ?_
    refine for_end (P := fun o => o = match (if (S z).length ≤ 24 ∧ ∀ w ∈ S z, w ∈ steps9 then some (S z) else none) with
        | some ws => .val (.tup (ws.map D.str)) (h ++ [.lst ((S z).map D.str)])
        | none => .exc ⟨.ref A.c_NoWay, []⟩ (h ++ [.lst ((S z).map D.str)])) (it := fun h' => listAt h' h.length) (all := (S z).map D.str) (h1 := h ++ [.lst ((S z).map D.str)]) (mi := iAny (mVar 1)) (ρ := [some (.str z), some (.ref h.length), none]) (h := h ++ [.lst ((S z).map D.str)])
      (fun i ρ h' => h' = h ++ [.lst ((S z).map D.str)] ∧ (∃ o, ρ = [some (.str z), some (.ref h.length), o]) ∧ ∀ w ∈ (S z).take i, w ∈ steps9)
      (fun o => (¬ ∀ w ∈ S z, w ∈ steps9) ∧ ∃ ρ', o = .exc ⟨.ref A.c_NoWay, []⟩ ρ' (h ++ [.lst ((S z).map D.str)])) (by simp [iAny, iSeqL, le]) le ?_ ?_ ⟨rfl, ⟨none, rfl⟩, by simp⟩ ?_ ?_
    · rintro i ρ h' ⟨rfl, _⟩; exact le
    · rintro i d ρ h' hd ⟨rfl, ⟨o, rfl⟩, hp⟩
      rw [List.getElem?_map, Option.map_eq_some_iff] at hd
      obtain ⟨x, hx, rfl⟩ := hd
      refine ⟨[some (.str z), some (.ref h.length), some (.str x)], _, rfl, ?_⟩
      by_cases hxm : x ∈ steps9
      · refine .inl ⟨[some (.str z), some (.ref h.length), some (.str x)], h ++ [.lst ((S z).map D.str)], .inl ?_, rfl, ⟨_, rfl⟩, ?_⟩
        · simp [r_inkd, back_iff, hxm]
        · intro w hw
          rw [List.take_succ, hx, List.mem_append] at hw
          rcases hw with hw | hw
          · exact hp w hw
          · simp at hw; subst hw; exact hxm
      · refine .inr (.inr (.inr ⟨⟨.ref A.c_NoWay, []⟩, [some (.str z), some (.ref h.length), some (.str x)], h ++ [.lst ((S z).map D.str)], ?_, fun q => hxm (q x (List.mem_of_getElem? hx)), _, rfl⟩))
        simp [r_inkd, back_iff, hxm]
    · rintro ρ' h' ⟨rfl, ⟨o, rfl⟩, hp⟩
      rw [List.length_map, List.take_of_length_le (Nat.le_refl _)] at hp
      rw [if_pos ⟨h24, hp⟩]
      simp [r_tupOf_lst le]
    · rintro o ⟨hn, ρ', rfl⟩
      rw [if_neg (fun q => hn q.2)]
      rfl
  · rw [if_neg (fun q => h24 q.1)]
    have : (24 : Int) < (S z).length := by omega
    have e1 : sIf (mB (mOp gGt (mCall gLen (mCons (mVar 1) mNil)) (mC (.int 24)))) (sRaise (.ref A.c_NoWay)) sNil [some (.str z), some (.ref h.length), none] (h ++ [.lst ((S z).map D.str)]) = .exc ⟨.ref A.c_NoWay, []⟩ [some (.str z), some (.ref h.length), none] (h ++ [.lst ((S z).map D.str)]) := by
      simp [r_len_lst le, g, this]
    rw [r_sSeq, e1]
    rfl
theorem in9 (x : Str) : inD (.str x) (steps9.map D.str) = decide (x ∈ steps9) := by
  unfold inD
  rw [List.any_map]
  have : (fun y => eqD y (.str x)) ∘ D.str = fun y => y == x := rfl
  rw [this]
  by_cases h : x ∈ steps9
  · simp only [h, decide_true, List.any_eq_true]
    exact ⟨x, h, by simp⟩
  · simp only [h, decide_false, List.any_eq_false]
    intro y hy e
    rw [beq_iff_eq] at e
    exact h (e ▸ hy)
theorem notin9 (x : Str) {h : DH} {n : Nat} (e : listAt h n = some (steps9.map D.str)) : gNotIn (.str x) (.ref n) h = .val (.bl (!decide (x ∈ steps9))) h := by
  unfold gNotIn gInG
  dsimp only
  rw [e]
  dsimp only
  rw [if_pos ⟨rfl, rfl⟩, in9]
  rfl
theorem sign_blank (c : Nat) : ((⟨#[c]⟩ : Str) == (" " : Str)) = decide (c = 32) := by
  by_cases h : c = 32
  · subst h; decide +kernel
  · have : (⟨#[c]⟩ : Str) ≠ " " := by
      intro e
      have := congrArg TL.tl e
      rw [blank_tl] at this
      exact h (by simpa [TL.tl] using this)
    rw [beq_eq_false_iff_ne.mpr this]; simp [h]
theorem lread_eq (A : Ad) {z : Str} (hz : z.length ≤ 1000) {h : DH} : ∃ j, match rd z with
    | some ws => ∃ m, f__law_read A [.str z] h = .val (.ref m) (h ++ j) ∧ listAt (h ++ j) m = some (ws.map D.str)
    | none => f__law_read A [.str z] h = .val .non (h ++ j) := by
  unfold f__law_read m__law_read rd
  by_cases h0 : z = ""
  · subst h0
    exact ⟨[.lst []], h.length, by simp [startD], listAt_end⟩
  rw [if_neg h0]
  have n1 : (z == ("" : Str)) = false := by rw [empty_beq]; simp [h0]
  simp only [beq_eq_false_iff_ne, ne_eq] at n1
  have n0 : startD N__law_read [.str z] = [some (.str z), none, none, none, none] := rfl
  rw [n0]
  -- the words
  let H : DH := h ++ [.lst ((S z).map D.str)]
  have lH : ∀ j, listAt (H ++ j) h.length = some ((S z).map D.str) := fun j => listAt_app listAt_end
  let k3 : SM := (sSeq (sFor (iAny (mVar 1)) (gSet 4) (sIf (mB (mOp gNotIn (mVar 4) (mLst (mCons (mC (.str "F")) (mCons (mC (.str "M")) (mCons (mC (.str "T")) (mCons (mC (.str "f")) (mCons (mC (.str "m")) (mCons (mC (.str "t")) (mCons (mC (.str "S")) (mCons (mC (.str "he")) (mCons (mC (.str "she")) mNil)))))))))))) (sRet (mC .non)) sNil))
    (sSeq (sIf (mB (mOp gGt (mCall gLen (mCons (mVar 1) mNil)) (mC (.int 24)))) (sRet (mC .non)) sNil)
    (sRet (mVar 1))))
  have c3 : ∀ o w, ∃ j, (k3 [some (.str z), some (.ref h.length), some (.str w), o, none] H).fin = (if (S z).length ≤ 24 ∧ ∀ w ∈ S z, w ∈ steps9 then .val (.ref h.length) (H ++ j) else .val .non (H ++ j)) := by
    intro o w
    have key : ∃ r, (k3 [some (.str z), some (.ref h.length), some (.str w), o, none] H).fin = r ∧ ∃ j, r = (if (S z).length ≤ 24 ∧ ∀ w ∈ S z, w ∈ steps9 then .val (.ref h.length) (H ++ j) else .val .non (H ++ j)) := by
      refine ⟨_, rfl, ?_⟩
      show (fun r : Out D => ∃ j, r = (if (S z).length ≤ 24 ∧ ∀ w ∈ S z, w ∈ steps9 then .val (.ref h.length) (H ++ j) else .val .non (H ++ j))) _
      have ll9 : ∀ (h' : DH) (ρ : DEnv), mLst (mCons (mC (.str "F")) (mCons (mC (.str "M")) (mCons (mC (.str "T")) (mCons (mC (.str "f")) (mCons (mC (.str "m")) (mCons (mC (.str "t")) (mCons (mC (.str "S")) (mCons (mC (.str "he")) (mCons (mC (.str "she")) mNil))))))))) ρ h' = .val (.ref h'.length) (h' ++ [.lst (steps9.map D.str)]) := by
        intro h' ρ
        simp [steps9, if_pos (sz (n := 9) (by decide))]
      refine for_end (it := fun h' => listAt h' h.length) (all := (S z).map D.str) (h1 := H) (mi := iAny (mVar 1)) (ρ := [some (.str z), some (.ref h.length), some (.str w), o, none]) (h := H)
        (fun i ρ h' => (∃ j, h' = H ++ j) ∧ (∃ o2, ρ = [some (.str z), some (.ref h.length), some (.str w), o, o2]) ∧ ∀ w ∈ (S z).take i, w ∈ steps9)
        (fun r => (¬ ∀ w ∈ S z, w ∈ steps9) ∧ ∃ j, r = .ret .non (H ++ j)) ?_ ?_ ?_ ?_ ⟨⟨[], by simp⟩, ⟨none, rfl⟩, by simp⟩ ?_ ?_
      · have l0 := lH []
        rw [List.append_nil] at l0
        simp [iAny, iSeqL, l0]
      · have l0 := lH []
        rw [List.append_nil] at l0
        exact l0
      · rintro i ρ h' ⟨⟨j, rfl⟩, _⟩; exact lH j
      · rintro i d ρ h' hd ⟨⟨j, rfl⟩, ⟨o2, rfl⟩, hp⟩
        rw [List.getElem?_map, Option.map_eq_some_iff] at hd
        obtain ⟨x, hx, rfl⟩ := hd
        refine ⟨[some (.str z), some (.ref h.length), some (.str w), o, some (.str x)], _, rfl, ?_⟩
        have e1 := notin9 x (h := (H ++ j) ++ [.lst (steps9.map D.str)]) (n := (H ++ j).length) listAt_end
        by_cases hxm : x ∈ steps9
        · refine .inl ⟨[some (.str z), some (.ref h.length), some (.str w), o, some (.str x)], H ++ (j ++ [.lst (steps9.map D.str)]), .inl ?_, ⟨_, rfl⟩, ⟨_, rfl⟩, ?_⟩
          · refine if_step (b := false) (h' := (H ++ j) ++ [.lst (steps9.map D.str)]) (e_B ((e_op rfl (ll9 _ _)).trans (by rw [e1]; simp [hxm]))) ?_
            simp
          · intro w hw
            rw [List.take_succ, hx, List.mem_append] at hw
            rcases hw with hw | hw
            · exact hp w hw
            · simp at hw; subst hw; exact hxm
        · refine .inr (.inr (.inl ⟨.non, H ++ (j ++ [.lst (steps9.map D.str)]), ?_, fun q => hxm (q x (List.mem_of_getElem? hx)), _, rfl⟩))
          refine if_step (b := true) (h' := (H ++ j) ++ [.lst (steps9.map D.str)]) (e_B ((e_op rfl (ll9 _ _)).trans (by rw [e1]; simp [hxm]))) ?_
          simp
      · rintro ρ' h' ⟨⟨j, rfl⟩, ⟨o2, rfl⟩, hp⟩
        rw [List.length_map, List.take_of_length_le (Nat.le_refl _)] at hp
        have le := lH j
        have g : gGt (.int ((S z).length : Int)) (.int 24) (H ++ j) = .val (.bl (decide ((24 : Int) < (S z).length))) (H ++ j) := by
          show gI0 _ _ _ _ = _
          rw [r_I0]
        refine ⟨j, ?_⟩
        by_cases h24 : (S z).length ≤ 24
        · rw [if_pos ⟨h24, hp⟩]
          have : ¬ (24 : Int) < (S z).length := by omega
          simp [r_len_lst le, g, this, Nat.not_lt.mpr h24]
        · rw [if_neg (fun q => h24 q.1)]
          have : (24 : Int) < (S z).length := by omega
          simp [r_len_lst le, g, this, Nat.lt_of_not_le h24]
      · rintro r ⟨hn, j, rfl⟩
        exact ⟨j, by rw [if_neg (fun q => hn q.2)]; rfl⟩
    obtain ⟨r, e, j, q⟩ := key
    exact ⟨j, e.trans q⟩
  have fin : ∃ j, (sSeq (sIf (mB (mOp gEq (mVar 0) (mC (.str "")))) (sRet (mLst mNil)) sNil)
      (sSeq (sAsg (mLst mNil) (gSet 1))
      (sSeq (sAsg (mC (.str "")) (gSet 2))
      (sSeq (sFor (iAny (mVar 0)) (gSet 3) (sIf (mB (mOp gEq (mVar 3) (mC (.str " ")))) (sSeq (sExpr (mBM gAppend (mVar 1) (mCons (mVar 2) mNil)))
      (sAsg (mC (.str "")) (gSet 2))) (sAsg (mOp gAdd (mVar 2) (mVar 3)) (gSet 2))))
      (sSeq (sExpr (mBM gAppend (mVar 1) (mCons (mVar 2) mNil))) k3)))) [some (.str z), none, none, none, none] h).fin = (if (S z).length ≤ 24 ∧ ∀ w ∈ S z, w ∈ steps9 then .val (.ref h.length) (H ++ j) else .val .non (H ++ j)) := by
    have key : ∃ r, (sSeq (sIf (mB (mOp gEq (mVar 0) (mC (.str "")))) (sRet (mLst mNil)) sNil)
      (sSeq (sAsg (mLst mNil) (gSet 1))
      (sSeq (sAsg (mC (.str "")) (gSet 2))
      (sSeq (sFor (iAny (mVar 0)) (gSet 3) (sIf (mB (mOp gEq (mVar 3) (mC (.str " ")))) (sSeq (sExpr (mBM gAppend (mVar 1) (mCons (mVar 2) mNil)))
      (sAsg (mC (.str "")) (gSet 2))) (sAsg (mOp gAdd (mVar 2) (mVar 3)) (gSet 2))))
      (sSeq (sExpr (mBM gAppend (mVar 1) (mCons (mVar 2) mNil))) k3)))) [some (.str z), none, none, none, none] h).fin = r ∧ ∃ j, r = (if (S z).length ≤ 24 ∧ ∀ w ∈ S z, w ∈ steps9 then .val (.ref h.length) (H ++ j) else .val .non (H ++ j)) := by
      refine ⟨_, rfl, ?_⟩
      have nx1 : sIf (mB (mOp gEq (mVar 0) (mC (.str "")))) (sRet (mLst mNil)) sNil [some (.str z), none, none, none, none] h = .nx [some (.str z), none, none, none, none] h := by simp [n1]
      have nx2 : sAsg (mLst mNil) (gSet 1) [some (.str z), none, none, none, none] h = .nx [some (.str z), some (.ref h.length), none, none, none] (h ++ [.lst []]) := by simp
      have nx3 : sAsg (mC (.str "")) (gSet 2) [some (.str z), some (.ref h.length), none, none, none] (h ++ [.lst []]) = .nx [some (.str z), some (.ref h.length), some (.str ""), none, none] (h ++ [.lst []]) := by simp
      rw [r_sSeq, nx1, SOut.thn_nx, r_sSeq, nx2, SOut.thn_nx, r_sSeq, nx3, SOut.thn_nx, r_sSeq]
      have hzl : (signsD z).length = z.length := by simp [signsD, Str.length]
      refine for_end (P := fun r : Out D => ∃ j, r = (if (S z).length ≤ 24 ∧ ∀ w ∈ S z, w ∈ steps9 then .val (.ref h.length) (H ++ j) else .val .non (H ++ j))) (it := fun _ => some (signsD z)) (all := signsD z) (h1 := h ++ [.lst []]) (mi := iAny (mVar 0))
        (fun i ρ h' => i ≤ z.length ∧ ∃ ws w o, h' = h ++ [.lst (ws.map D.str)] ∧ ρ = [some (.str z), some (.ref h.length), some (.str w), o, none] ∧ ws.length ≤ i ∧ w.length ≤ i ∧ ws.map TL.tl ++ TL.spl [32] 0 (TL.tl w) ((TL.tl z).drop i) = TL.spl [32] 0 [] (TL.tl z))
        (fun _ => False) (by simp [iAny, iStrD]) rfl (fun _ _ _ _ => rfl) ?_ ⟨Nat.zero_le _, [], "", none, rfl, rfl, Nat.le_refl _, by decide +kernel, rfl⟩ ?_ (fun _ z => z.elim)
      · rintro i d ρ h' hd ⟨hi, ws, w, o, rfl, rfl, h1, h2, h3⟩
        unfold signsD at hd
        rw [List.getElem?_map, Option.map_eq_some_iff] at hd
        obtain ⟨c, hc, rfl⟩ := hd
        have hlt : i < z.length := by
          have := (List.getElem?_eq_some_iff.mp hc).1
          rw [TL.len_tl]; exact this
        have hdr : (TL.tl z).drop i = c :: (TL.tl z).drop (i + 1) := by
          rw [List.drop_eq_getElem_cons (by rw [← TL.len_tl]; exact hlt)]
          congr 1
          exact (List.getElem?_eq_some_iff.mp hc).2
        rw [hdr] at h3
        refine ⟨[some (.str z), some (.ref h.length), some (.str w), some (.str ⟨#[c]⟩), none], _, rfl, ?_⟩
        have hsb := sign_blank c
        by_cases hb : c = 32
        · subst hb
          have e0 : ((⟨#[32]⟩ : Str) == (" " : Str)) = true := by rw [hsb]; rfl
          refine .inl ⟨[some (.str z), some (.ref h.length), some (.str ""), some (.str ⟨#[32]⟩), none], h ++ [.lst ((ws ++ [w]).map D.str)], .inl ?_, hlt, ws ++ [w], "", _, rfl, rfl, by simp; omega, by rw [show ("" : Str).length = 0 by decide +kernel]; omega, ?_⟩
          · have ap : gAppend (.ref h.length) [.str w] (h ++ [.lst (ws.map D.str)]) = .val .non (h ++ [.lst ((ws ++ [w]).map D.str)]) := by
              unfold gAppend
              dsimp only
              rw [get_mid]
              dsimp only
              rw [if_pos (small24' (by rw [List.length_map]; omega)), set_mid]
              simp
            have tst : mB (mOp gEq (mVar 3) (mC (.str " "))) [some (.str z), some (.ref h.length), some (.str w), some (.str ⟨#[32]⟩), none] (h ++ [.lst (ws.map D.str)]) = .val true (h ++ [.lst (ws.map D.str)]) := e_B (by
              refine (e_op rfl rfl).trans ?_
              rw [r_eq_str, e0])
            refine if_step tst ?_
            rw [if_pos rfl]
            simp [mBM, get_mid, ap]
          · rw [← h3]
            have e9 : TL.tl ("" : Str) = [] := by decide +kernel
            simp [TL.spl, TL.pre, e9]
        · have e0 : ((⟨#[c]⟩ : Str) == (" " : Str)) = false := by rw [hsb]; simp [hb]
          have hl1 : (⟨#[c]⟩ : Str).length = 1 := rfl
          refine .inl ⟨[some (.str z), some (.ref h.length), some (.str (w ++ ⟨#[c]⟩)), some (.str ⟨#[c]⟩), none], h ++ [.lst (ws.map D.str)], .inl ?_, hlt, ws, w ++ ⟨#[c]⟩, _, rfl, rfl, by omega, ?_, ?_⟩
          · have ad : gAdd (.str w) (.str ⟨#[c]⟩) (h ++ [.lst (ws.map D.str)]) = .val (.str (w ++ ⟨#[c]⟩)) (h ++ [.lst (ws.map D.str)]) := r_add_str (sz (by rw [hl1]; omega))
            have tst : mB (mOp gEq (mVar 3) (mC (.str " "))) [some (.str z), some (.ref h.length), some (.str w), some (.str ⟨#[c]⟩), none] (h ++ [.lst (ws.map D.str)]) = .val false (h ++ [.lst (ws.map D.str)]) := e_B (by
              refine (e_op rfl rfl).trans ?_
              rw [r_eq_str, e0])
            refine if_step tst ?_
            rw [if_neg (by decide)]
            simp [ad]
          · rw [TL.len_tl, TL.tl_append, List.length_append, ← TL.len_tl]
            show w.length + 1 ≤ i + 1
            omega
          · rw [← h3, TL.tl_append]
            have : ¬ c = 32 := hb
            simp [TL.spl, TL.pre, this, Ne.symm this]
      · rintro ρ' h' ⟨hi, ws, w, o, rfl, rfl, h1, h2, h3⟩
        rw [hzl] at h1 h2 h3
        rw [List.drop_eq_nil_of_le (by rw [← TL.len_tl]; exact Nat.le_refl _)] at h3
        have es : ws ++ [w] = S z := by
          apply TL.map_tl_inj
          rw [S_spl, ← h3, List.map_append]
          rfl
        have ap : gAppend (.ref h.length) [.str w] (h ++ [.lst (ws.map D.str)]) = .val .non H := by
          unfold gAppend
          dsimp only
          rw [get_mid]
          dsimp only
          rw [if_pos (small24' (by rw [List.length_map]; omega)), set_mid]
          show Out.val D.non (h ++ [.lst (ws.map D.str ++ [.str w])]) = .val .non (h ++ [.lst ((S z).map D.str)])
          rw [← es]
          simp
        have ex : sExpr (mBM gAppend (mVar 1) (mCons (mVar 2) mNil)) [some (.str z), some (.ref h.length), some (.str w), o, none] (h ++ [.lst (ws.map D.str)]) = .nx [some (.str z), some (.ref h.length), some (.str w), o, none] H := by
          simp [mBM, get_mid, ap]
        obtain ⟨j, q⟩ := c3 o w
        refine ⟨j, ?_⟩
        rw [r_sSeq, ex, SOut.thn_nx]
        exact q
    obtain ⟨r, e, j, q⟩ := key
    exact ⟨j, e.trans q⟩
  obtain ⟨j, q⟩ := fin
  refine ⟨.lst ((S z).map D.str) :: j, ?_⟩
  have ha : H ++ j = h ++ .lst ((S z).map D.str) :: j := by simp [H]
  by_cases hc : (S z).length ≤ 24 ∧ ∀ w ∈ S z, w ∈ steps9
  · rw [if_pos hc] at q
    rw [if_pos hc]
    exact ⟨h.length, by rw [← ha]; exact q, listAt_mid⟩
  · rw [if_neg hc] at q
    rw [if_neg hc]
    show _ = _
    rw [← ha]; exact q
theorem kinds (A : Ad) (hA : AdOk A) : kitV A (.ref A.c_NoWay) (.ref A.c_HeirError) = some true ∧ kitV A (.ref A.c_NoWay) (.type "ValueError") = some true ∧
    kitAnyD (kitV A (.ref A.c_NoWay)) [.raw (.ref A.c_Alive), .raw (.ref A.c_Barred), .raw (.ref A.c_Full), .raw (.ref A.c_Marked), .raw (.ref A.c_NoCode), .raw (.ref A.c_NoEntry), .raw (.ref A.c_NoFit), .raw (.ref A.c_NoNumber), .raw (.ref A.c_NoPerson)] = some false ∧
    kitAnyD (kitV A (.ref A.c_NoWay)) [.raw (.ref A.c_NoRow), .raw (.ref A.c_NoTongue), .raw (.ref A.c_NoWord), .raw (.ref A.c_TooMany), .raw (.ref A.c_Twice), .raw (.ref A.c_Unsure)] = some false := by
  obtain ⟨_, h1, h2, h3, h4, h5, h6, h7, h8, h9, h10, h11, h12, h13, h14, h15, h16, h17, h18, h19, h20, h21, h22, h23, h24, h25, h26, h27, h28, h29, h30, h31, h32, h33, h34, h35, h36, h37, h38, h39, h40, h41, h42, h43, h44, h45, h46, h47, h48, h49, h50, h51, h52, h53, h54, h55, h56, h57, h58, h59, h60, h61, h62, h63, h64, h65, h66, h67, h68, h69, h70, h71, h72, h73, h74, h75, h76, h77, h78, h79, h80, h81, h82, h83, h84, h85, h86, h87, h88, h89, h90, h91, h92, h93, h94, h95, h96, h97, h98, h99, h100, h101, h102, h103, h104, h105, h106, h107, h108, h109, h110, h111, h112, h113, h114, h115, h116, h117, h118, h119, h120, h121, h122, h123, h124, h125, h126, h127, h128, h129, h130, h131, h132, h133, h134, h135, h136⟩ := hA
  simp [kitV, kitAnyD, clsD, *, Ne.symm, eq_comm]
theorem told_exc (A : Ad) (hA : AdOk A) {d : D} {h j : DH} (e : f_read_way A [d] h = .exc ⟨.ref A.c_NoWay, []⟩ (h ++ j)) : f__law_told A [d] h = .val (.ref (h ++ j).length) ((h ++ j) ++ [.lst [.non, .bl true]]) := by
  obtain ⟨k1, k2, k3, k4⟩ := kinds A hA
  unfold f__law_told m__law_told
  have n0 : startD N__law_told [d] = [some d, none, none, none] := rfl
  rw [n0]
  refine fin_step (ρ := [some d, some .non, none, none]) (h := h) (by simp) ?_
  refine fin_step (ρ := [some d, some .non, some (.bl false), none]) (h := h) (by simp) ?_
  refine fin_step (ρ := [some d, some .non, some (.bl true), none]) (h := h ++ j) ?_ ?_
  · refine sTryAs_yes (c := .ref A.c_NoWay) (ρ1 := [some d, some .non, some (.bl false), none]) (h1 := h ++ j) ?_ ?_ ?_ ?_
    · simp [e]
    · unfold em_NoWay; simp
    · intro a
      simp [gIsE, k1, k2, k3, k4, sufx, if_pos (sz (n := 9) (by decide)), if_pos (sz (n := 6) (by decide))]
    · intro y ρ' h' z; cases z
  · simp [if_pos (sz (n := 2) (by decide))]
theorem told_val (A : Ad) {d : D} {ws : List D} {h j : DH} (e : f_read_way A [d] h = .val (.tup ws) (h ++ j)) : f__law_told A [d] h = .val (.ref (h ++ j).length) ((h ++ j) ++ [.lst [.tup ws, .bl false]]) := by
  unfold f__law_told m__law_told
  have n0 : startD N__law_told [d] = [some d, none, none, none] := rfl
  rw [n0]
  refine fin_step (ρ := [some d, some .non, none, none]) (h := h) (by simp) ?_
  refine fin_step (ρ := [some d, some .non, some (.bl false), none]) (h := h) (by simp) ?_
  refine fin_step (ρ := [some d, some (.tup ws), some (.bl false), none]) (h := h ++ j) ?_ ?_
  · refine sTryAs_nx ?_
    simp [e]
  · simp [if_pos (sz (n := 2) (by decide))]
theorem odd_eq (A : Ad) {d : D} {t : String} {h : DH} (e : tyD h d = some t) (k : kitB t "str" = some false) : f_read_way A [d] h = .exc ⟨.ref A.c_NoWay, []⟩ (h ++ []) := by
  unfold f_read_way m_read_way
  have g : gIsTy [d, .raw (.ty "str")] h = .val (.bl false) h := r_isTy e k
  have e1 : sIf (mNot (mB (mCall gIsTy (mCons (mVar 0) (mCons (mC (.raw (.ty "str"))) mNil))))) (sRaise (.ref A.c_NoWay)) sNil (startD N_read_way [d]) h = .exc ⟨.ref A.c_NoWay, []⟩ (startD N_read_way [d]) h := by
    simp [startD, g]
  rw [r_sSeq, e1, List.append_nil]
  rfl
/-! the texts -/
theorem good_eq (A : Ad) {n : Nat} {cs : List Int} (hl : cs.length ≤ 100) {h : DH} (e : listAt h n = some (cs.map D.int)) : ∃ j, f__law_good A [.ref n] h = .val (.str (tx (cs.map wz))) (h ++ j) := by
  unfold f__law_good m__law_good
  let h1 : DH := h ++ [.lst (steps9.map D.str)]
  have e1 : listAt h1 n = some (cs.map D.int) := listAt_app e
  obtain ⟨j1, ej⟩ := mLc_map (mi := iAny (mVar 0)) (c := .nm 2) (mt := mC true) (me := mOp gIx (mVar 1) (mOp gMod (mVar 2) (mC (.int 9)))) (vs := [2])
    (ρ := [some (.ref n), some (.ref h.length), none]) (h0 := h1) (h := h1) (it := fun h => listAt h n) (ds := cs.map D.int) (p := fun _ => true) (g := fun d => match d with | .int c => .str (wz c) | d => d)
    (by simp [iAny, iSeqL, e1]) e1 (fun acc j => listAt_app e1) (small24 (by simpa using hl)) (by
      intro d hd
      obtain ⟨c, _, rfl⟩ := List.mem_map.mp hd
      refine ⟨_, rfl, fun acc j => ⟨[], by simp, fun _ j => ⟨[], ?_⟩⟩⟩
      have e2 : gIx (.ref h.length) (.int (c % 9)) (h1 ++ .lst acc :: j) = .val (.str (wz c)) (h1 ++ .lst acc :: j) := by
        have q := r_ix_lst (h := h1 ++ .lst acc :: j) (p := h.length) (xs := steps9.map D.str) (listAt_app listAt_end) (wz_at c)
        rwa [Int.toNat_of_nonneg (by omega)] at q
      simp [wipeD, r_mod, e2])
  have eg : ((cs.map D.int).filter (fun _ => true)).map (fun d => match d with | .int c => .str (wz c) | d => d) = (cs.map wz).map D.str := by
    simp [filter_true, Function.comp_def]
  rw [eg] at ej
  refine ⟨.lst (steps9.map D.str) :: .lst ((cs.map wz).map D.str) :: j1, ?_⟩
  have hh : h ++ .lst (steps9.map D.str) :: .lst ((cs.map wz).map D.str) :: j1 = h1 ++ .lst ((cs.map wz).map D.str) :: j1 := by simp [h1]
  rw [hh]
  refine fin_step (ρ := [some (.ref n), some (.ref h.length), none]) (h := h1) (by simp [startD, h1, steps9, if_pos (sz (n := 9) (by decide))]) ?_
  have ejn : gJoin (.str " ") [.ref h1.length] (h1 ++ .lst ((cs.map wz).map D.str) :: j1) = .val (.str (tx (cs.map wz))) (h1 ++ .lst ((cs.map wz).map D.str) :: j1) := by
    unfold gJoin
    dsimp only
    rw [listAt_mid]
    show (match strsOf ((cs.map wz).map D.str) with | some ys => _ | none => _) = _
    rw [strsOf_map]
    dsimp only
    have l3 : (" " : Str).length = 1 := by decide +kernel
    have sm : ∀ l : List Str, (∀ z ∈ l, z ∈ steps9) → (l.map (·.length)).sum ≤ l.length * 3 := fun l => by
      induction l with
      | nil => intro _; simp
      | cons x l ih =>
        intro hh
        have := ih fun z hz => hh z (List.mem_cons_of_mem _ hz)
        have l2 := (st_len x (hh x List.mem_cons_self)).1
        rw [← TL.len_tl] at l2
        simp only [List.map_cons, List.sum_cons, List.length_cons]
        omega
    have := sm (cs.map wz) (fun z hz => by obtain ⟨c, _, rfl⟩ := List.mem_map.mp hz; exact wz_in c)
    rw [List.length_map] at this
    rw [if_pos (by rw [l3, List.length_map]; omega), TL.join_eq]
    rfl
  simp [-List.map_map, ej, ejn]
theorem cutS_len (z : Str) (lo hi : Option Int) : (cutS z lo hi).length ≤ z.length := by
  rw [TL.len_tl, TL.len_tl z]
  show (((z.cps.toList.drop (HT.sIx z.length 0 lo)).take (HT.sIx z.length z.length hi - HT.sIx z.length 0 lo))).length ≤ z.cps.toList.length
  rw [List.length_take, List.length_drop]
  omega
theorem len_app (x y : Str) : (x ++ y).length = x.length + y.length := by
  rw [TL.len_tl, TL.tl_append, List.length_append, ← TL.len_tl, ← TL.len_tl]
theorem sl_str {z : Str} (hz : z.length ≤ 1000) {lo hi : Option Int} {h : DH} : gSl (.str z) lo hi h = .val (.str (cutS z lo hi)) h := if_pos (sz (by omega))
theorem spoiled_eq (A : Ad) {z : Str} (hz : z.length ≤ 200) (c w : Int) (h : DH) : ∃ y : Str, y.length ≤ 900 ∧ f__law_spoiled A [.str z, .int c, .int w] h = .val (.str y) h := by
  unfold f__law_spoiled m__law_spoiled
  have n0 : startD N__law_spoiled [.str z, .int c, .int w] = [some (.str z), some (.int c), some (.int w), none, none, none] := rfl
  rw [n0]
  have q20 : ("FMTfmtS hesHE12s\n-:a" : Str).length = 20 := by decide +kernel
  have gl : ∀ x : Str, x.length ≤ 1000 → gLen [.str x] h = .val (.int x.length) h := fun x hx => if_pos (sz (by omega))
  have q20s : ("FMTfmtS hesHE12s\n-:a" : String).length = 20 := by decide +kernel
  have gl1 := gl "FMTfmtS hesHE12s\n-:a" (by rw [q20]; decide)
  have gl2 := gl z (by omega)
  have m20 : gMod (.int c) (.int 20) h = .val (.int (c % 20)) h := r_mod (by decide)
  have hk : (c % 20).toNat < 20 := by omega
  have gx : ∃ s : Nat, gIx (.str "FMTfmtS hesHE12s\n-:a") (.int (c % 20)) h = .val (.str ⟨#[s]⟩) h := by
    have q : ("FMTfmtS hesHE12s\n-:a" : Str).cps.toList.length = 20 := by rw [← q20, TL.len_tl]
    refine ⟨("FMTfmtS hesHE12s\n-:a" : Str).cps.toList[(c % 20).toNat]'(by rw [q]; exact hk), ?_⟩
    unfold gIx
    dsimp only
    rw [if_pos (sz (by rw [q20]; decide))]
    have ea : L2.atI ("FMTfmtS hesHE12s\n-:a" : Str).cps.toList (((c % 20).toNat : Nat) : Int) = some (("FMTfmtS hesHE12s\n-:a" : Str).cps.toList[(c % 20).toNat]'(by rw [q]; exact hk)) := L2.atI_nat (List.getElem?_eq_getElem _)
    rw [Int.toNat_of_nonneg (by omega)] at ea
    rw [ea]
  obtain ⟨s, gx⟩ := gx
  have fd : gFdiv (.int c) (.int 20) h = .val (.int (c / 20)) h := r_fdiv (by decide) (Nat.lt_of_lt_of_le (show (20 : Int).natAbs < 2 ^ 5 by decide) (Nat.pow_le_pow_right (by decide) (by decide)))
  have md : gMod (.int (c / 20)) (.int ((z.length : Int) + 1)) h = .val (.int (c / 20 % ((z.length : Int) + 1))) h := r_mod (by omega)
  generalize c / 20 % ((z.length : Int) + 1) = at_ at md
  have q20' : (("FMTfmtS hesHE12s\n-:a" : Str).length : Int) = 20 := by rw [q20]; rfl
  refine nxval (ρ := [some (.str z), some (.int c), some (.int w), some (.str "FMTfmtS hesHE12s\n-:a"), none, none]) (h := h) (by simp) ?_
  refine nxval (ρ := [some (.str z), some (.int c), some (.int w), some (.str "FMTfmtS hesHE12s\n-:a"), some (.str ⟨#[s]⟩), none]) (h := h) (by simp [gl1, q20s, m20, gx]) ?_
  refine nxval (ρ := [some (.str z), some (.int c), some (.int w), some (.str "FMTfmtS hesHE12s\n-:a"), some (.str ⟨#[s]⟩), some (.int at_)]) (h := h) (by simp [gl1, gl2, q20s, fd, md]) ?_
  have sl := fun lo hi => sl_str (z := z) (by omega) (lo := lo) (hi := hi) (h := h)
  have cl := cutS_len z
  have s1 : (⟨#[s]⟩ : Str).length = 1 := rfl
  have ad : ∀ x y : Str, x.length ≤ 401 → y.length ≤ 401 → gAdd (.str x) (.str y) h = .val (.str (x ++ y)) h := fun x y h1 h2 => r_add_str (sz (by omega))
  have a1 := ad (cutS z none (some at_)) ⟨#[s]⟩ (by have := cl none (some at_); omega) (by omega)
  have a2 := ad (cutS z none (some at_) ++ ⟨#[s]⟩) (cutS z (some at_) none) (by rw [len_app]; have := cl none (some at_); omega) (by have := cl (some at_) none; omega)
  have a3 := ad (cutS z none (some at_)) (cutS z (some (at_ + 1)) none) (by have := cl none (some at_); omega) (by have := cl (some (at_ + 1)) none; omega)
  have a4 := ad (cutS z none (some at_) ++ ⟨#[s]⟩) (cutS z (some (at_ + 1)) none) (by rw [len_app]; have := cl none (some at_); omega) (by have := cl (some (at_ + 1)) none; omega)
  have c1 := cl none (some at_)
  have c2 := cl (some at_) none
  have c3 := cl (some (at_ + 1)) none
  by_cases w1 : w = 1
  · refine ⟨cutS z none (some at_) ++ ⟨#[s]⟩ ++ cutS z (some at_) none, by rw [len_app, len_app]; omega, ?_⟩
    simp [w1, sl, a1, a2]
  by_cases w2 : w = 2
  · refine ⟨cutS z none (some at_) ++ cutS z (some (at_ + 1)) none, by rw [len_app]; omega, ?_⟩
    simp [w2, sl, a3]
  · refine ⟨cutS z none (some at_) ++ ⟨#[s]⟩ ++ cutS z (some (at_ + 1)) none, by rw [len_app, len_app]; omega, ?_⟩
    simp [w1, w2, sl, a1, a4]
def pcs : List Str := ["F", " ", "M ", "he", " ", "she ", "S", " f", "m t", "h", "e", "s", "  ", " he ", "T F", "sh"]
theorem pcs_len : ∀ z ∈ pcs, z.length ≤ 4 := by decide +kernel
theorem pieces_eq (A : Ad) {n : Nat} {cs : List Int} (hl : cs.length ≤ 100) {h : DH} (e : listAt h n = some (cs.map D.int)) : ∃ j, ∃ y : Str, y.length ≤ 400 ∧ f__law_pieces A [.ref n] h = .val (.str y) (h ++ j) := by
  have key : ∃ r, f__law_pieces A [.ref n] h = r ∧ ∃ y : Str, y.length ≤ 400 ∧ r = .val (.str y) (h ++ [.lst (pcs.map D.str)]) := by
    refine ⟨_, rfl, ?_⟩
    unfold f__law_pieces m__law_pieces
    have n0 : startD N__law_pieces [.ref n] = [some (.ref n), none, none, none] := rfl
    rw [n0]
    let h1 : DH := h ++ [.lst (pcs.map D.str)]
    have e1 : listAt h1 n = some (cs.map D.int) := listAt_app e
    refine nxany (ρ := [some (.ref n), some (.ref h.length), none, none]) (h := h1) (by simp [h1, pcs, if_pos (sz (n := 16) (by decide))]) ?_
    refine nxany (ρ := [some (.ref n), some (.ref h.length), some (.str ""), none]) (h := h1) (by simp) ?_
    refine for_end (P := fun r : Out D => ∃ y : Str, y.length ≤ 400 ∧ r = .val (.str y) h1) (it := fun h' => listAt h' n) (all := cs.map D.int) (h1 := h1) (mi := iAny (mVar 0)) (ρ := [some (.ref n), some (.ref h.length), some (.str ""), none]) (h := h1)
      (fun i ρ h' => h' = h1 ∧ i ≤ cs.length ∧ ∃ (y : Str) (o : Option D), y.length ≤ 4 * i ∧ ρ = [some (.ref n), some (.ref h.length), some (.str y), o]) (fun _ => False) (by simp [iAny, iSeqL, e1]) e1 ?_ ?_ ⟨rfl, Nat.zero_le _, "", none, by decide +kernel, rfl⟩ ?_ (fun _ z => z.elim)
    · rintro i ρ h' ⟨rfl, _⟩; exact e1
    · rintro i d ρ h' hd ⟨rfl, hi, y, o, hy, rfl⟩
      rw [List.getElem?_map, Option.map_eq_some_iff] at hd
      obtain ⟨c, hc, rfl⟩ := hd
      have hlt := (List.getElem?_eq_some_iff.mp hc).1
      have hk : (c % 16).toNat < pcs.length := by show _ < 16; omega
      have g : gIx (.ref h.length) (.int (c % 16)) h1 = .val (.str pcs[(c % 16).toNat]) h1 := by
        have q := r_ix_lst (h := h1) (p := h.length) (xs := pcs.map D.str) (k := (c % 16).toNat) (x := .str pcs[(c % 16).toNat]) listAt_end (by rw [List.getElem?_map, List.getElem?_eq_getElem hk]; rfl)
        rwa [Int.toNat_of_nonneg (by omega)] at q
      have pl := pcs_len _ (List.getElem_mem hk)
      have ad : gAdd (.str y) (.str pcs[(c % 16).toNat]) h1 = .val (.str (y ++ pcs[(c % 16).toNat])) h1 := r_add_str (sz (by omega))
      refine ⟨[some (.ref n), some (.ref h.length), some (.str y), some (.int c)], _, rfl, .inl ⟨[some (.ref n), some (.ref h.length), some (.str (y ++ pcs[(c % 16).toNat])), some (.int c)], h1, .inl ?_, rfl, hlt, _, _, ?_, rfl⟩⟩
      · simp [r_mod, g, ad]
      · rw [len_app]; omega
    · rintro ρ' h' ⟨rfl, hi, y, o, hy, rfl⟩
      rw [List.length_map] at hy
      exact ⟨y, by omega, by simp⟩
  obtain ⟨r, q, y, hy, q2⟩ := key
  exact ⟨_, y, hy, q.trans q2⟩
theorem text_eq (A : Ad) (ns : List Int) (h : DH) (e : listAt h 0 = some (ns.map D.int)) : ∃ j, ∃ y : Str, y.length ≤ 900 ∧ f__law_text A [.ref 0] h = .val (.str y) (h ++ j) := by
  obtain ⟨v, ev⟩ := cell_eq A ns h e 0
  have ev' : f__law_cell_at A [.ref 0, .int 0] h = .val (.int v) h := ev
  have m6 : gMod (.int v) (.int 6) h = .val (.int (v % 6)) h := r_mod (by decide)
  let cs := ((ns.drop (min 2 ns.length)).take (min 32 ns.length - min 2 ns.length))
  have hcs : DL.cutD (ns.map D.int) (some 2) (some 32) = cs.map D.int := cut_ints ns 2 32
  have hcl : cs.length ≤ 30 := by
    show ((ns.drop (min 2 ns.length)).take (min 32 ns.length - min 2 ns.length)).length ≤ 30
    rw [List.length_take, List.length_drop]; omega
  generalize cs = cs at hcs hcl
  let h1 : DH := h ++ [.lst (cs.map D.int)]
  have es : gSl (.ref 0) (some 2) (some 32) h = .val (.ref h.length) h1 := (r_sl_lst e).trans (by rw [hcs])
  obtain ⟨j2, eg⟩ := good_eq A (n := h.length) (cs := cs) (by omega) (h := h1) listAt_end
  let h2 := h1 ++ j2
  have e2 : listAt h2 0 = some (ns.map D.int) := listAt_app (listAt_app e)
  have tl0 : (tx (cs.map wz)).length ≤ 120 := by
    have := tx_len (ws := cs.map wz) (fun z hz => by obtain ⟨c, _, rfl⟩ := List.mem_map.mp hz; exact wz_in c)
    rw [List.length_map] at this; omega
  unfold f__law_text m__law_text
  have n0 : startD N__law_text [.ref 0] = [some (.ref 0), none, none] := rfl
  rw [n0]
  have s1 : sAsg (mOp gMod (mCall (f__law_cell_at A) (mCons (mVar 0) (mCons (mC (.int 0)) mNil))) (mC (.int 6))) (gSet 1) [some (.ref 0), none, none] h = .nx [some (.ref 0), some (.int (v % 6)), none] h := by
    simp [ev', m6]
  have s2 : sAsg (mCall (f__law_good A) (mCons (mSl (mVar 0) (mPS (mC (.int 2))) (mPS (mC (.int 32)))) mNil)) (gSet 2) [some (.ref 0), some (.int (v % 6)), none] h = .nx [some (.ref 0), some (.int (v % 6)), some (.str (tx (cs.map wz)))] h2 := by
    simp [es, eg, h2]
  rw [r_sSeq, s1, SOut.thn_nx, r_sSeq, s2, SOut.thn_nx]
  have gg : gGt (.int (v % 6)) (.int 0) h2 = .val (.bl (decide (0 < v % 6))) h2 := by
    show gI0 _ _ _ _ = _
    rw [r_I0]
  by_cases w5 : v % 6 = 5
  · let cs2 := ((ns.drop (min 2 ns.length)).take (min 14 ns.length - min 2 ns.length))
    have hcs2 : DL.cutD (ns.map D.int) (some 2) (some 14) = cs2.map D.int := cut_ints ns 2 14
    have hcl2 : cs2.length ≤ 12 := by
      show ((ns.drop (min 2 ns.length)).take (min 14 ns.length - min 2 ns.length)).length ≤ 12
      rw [List.length_take, List.length_drop]; omega
    generalize cs2 = cs2 at hcs2 hcl2
    let h3 : DH := h2 ++ [.lst (cs2.map D.int)]
    have es3 : gSl (.ref 0) (some 2) (some 14) h2 = .val (.ref h2.length) h3 := (r_sl_lst e2).trans (by rw [hcs2])
    obtain ⟨j4, y, hy, ep⟩ := pieces_eq A (n := h2.length) (cs := cs2) (by omega) (h := h3) listAt_end
    refine ⟨.lst (cs.map D.int) :: j2 ++ .lst (cs2.map D.int) :: j4, y, by omega, ?_⟩
    have hh : h ++ (.lst (cs.map D.int) :: j2 ++ .lst (cs2.map D.int) :: j4) = h3 ++ j4 := by simp [h3, h2, h1]
    rw [hh]
    simp [w5, es3, ep]
  · by_cases w0 : 0 < v % 6 ∧ v % 6 < 4
    · obtain ⟨u, eu⟩ := cell_eq A ns h2 e2 1
      have eu' : f__law_cell_at A [.ref 0, .int 1] h2 = .val (.int u) h2 := eu
      obtain ⟨y, hy, ey⟩ := spoiled_eq A (z := tx (cs.map wz)) (by omega) u (v % 6) h2
      refine ⟨.lst (cs.map D.int) :: j2, y, by omega, ?_⟩
      have hh : h ++ (.lst (cs.map D.int) :: j2) = h2 := by simp [h2, h1]
      rw [hh]
      simp [w5, gg, w0.1, w0.2, eu', ey]
    · refine ⟨.lst (cs.map D.int) :: j2, tx (cs.map wz), by omega, ?_⟩
      have hh : h ++ (.lst (cs.map D.int) :: j2) = h2 := by simp [h2, h1]
      rw [hh]
      by_cases w1 : 0 < v % 6
      · have w4 : ¬ v % 6 < 4 := fun q => w0 ⟨w1, q⟩
        simp [w5, gg, w1, w4]
      · simp [w5, gg, w1]
theorem strs_data (h : DH) (k : Nat) : ∀ ws : List Str, pdAll (pd h k) (ws.map D.str) = some (ws.map PyData.str)
  | [] => rfl
  | w :: ws => by
    show (match pd h k (.str w), pdAll (pd h k) (ws.map D.str) with | some p, some ps => some (p :: ps) | _, _ => none) = _
    rw [strs_data h k ws]
    cases k <;> rfl
theorem strs_lay : ∀ ws : List Str, (∀ w ∈ ws, w ∈ steps9) → PyData.canLayAll0 (ws.map PyData.str) = true
  | [], _ => by simp [PyData.canLayAll0]
  | w :: ws, h => by
    have : ∀ w ∈ steps9, PyData.strOk w = true := by decide +kernel
    simp [PyData.canLayAll0, PyData.canLay0, this w (h w List.mem_cons_self), strs_lay ws (fun z hz => h z (List.mem_cons_of_mem _ hz))]
theorem strs_depth : ∀ ws : List Str, PyData.depthAll (ws.map PyData.str) = 0
  | [] => by simp [PyData.depthAll]
  | w :: ws => by simp [PyData.depthAll, PyData.depth, strs_depth ws]
theorem same_lists {a b : Nat} {ws : List Str} {h : DH} (hw : ∀ w ∈ ws, w ∈ steps9) (ea : listAt h a = some (ws.map D.str)) (eb : listAt h b = some (ws.map D.str)) : gEq (.ref a) (.ref b) h = .val (.bl true) h ∧ gNe (.ref a) (.ref b) h = .val (.bl false) h := by
  have pa : ∀ {a : Nat}, listAt h a = some (ws.map D.str) → pd h 16 (.ref a) = some (.list (ws.map PyData.str)) := fun {a} ea => by
    show (match listAt h a with | some ds => (pdAll (pd h 15) ds).map PyData.list | none => none) = _
    rw [ea]
    dsimp only
    rw [strs_data]
    rfl
  have cl : PyData.canLay0 (.list (ws.map PyData.str)) = true := by rw [PyData.canLay0]; exact strs_lay ws hw
  have sh : SeqAt.shaped (.list (ws.map PyData.str)) = true := by
    unfold SeqAt.shaped
    rw [cl, PyData.depth, strs_depth]
    rfl
  have ev := SeqAt.eqv_refl _ cl
  constructor
  · unfold gEq
    rw [if_neg (show ¬ (scalD (.ref a) (.ref b) = true) from Bool.false_ne_true), pa ea, pa eb]
    dsimp only
    rw [if_pos ⟨sh, sh⟩, ev]
  · unfold gNe
    rw [if_neg (show ¬ (scalD (.ref a) (.ref b) = true) from Bool.false_ne_true), pa ea, pa eb]
    dsimp only
    rw [if_pos ⟨sh, sh⟩, ev]
    rfl
theorem rd_nil : rd "" = some [] := by unfold rd; rw [if_pos rfl]
theorem rd_tx {ws : List Str} (hw : ∀ z ∈ ws, z ∈ steps9) (hl : ws.length ≤ 24) : rd (tx ws) = some ws := by
  by_cases h0 : ws = []
  · subst h0; exact rd_nil
  · unfold rd
    have n1 := tx_ne h0 hw
    rw [empty_beq, decide_eq_false_iff_not] at n1
    have e : S (tx ws) = ws := tx_split h0 hw
    rw [if_neg n1, e, if_pos ⟨hl, hw⟩]
theorem rd_in {z : Str} {ws : List Str} (e : rd z = some ws) : ∀ w ∈ ws, w ∈ steps9 := by
  unfold rd at e
  split at e
  · cases e; intro w hw; exact absurd hw (List.not_mem_nil)
  · split at e
    · rename_i q; cases e; exact q.2
    · cases e
/-- what the law's second half asks -/
noncomputable def rest2 (A : Ad) : SM := (sSeq (sAsg (mCall (f__law_good A) (mCons (mSl (mVar 0) (mPS (mC (.int 2))) (mPS (mC (.int 26)))) mNil)) (gSet 4))
    (sSeq (sAsg (mCall (f__law_told A) (mCons (mVar 4) mNil)) (gSet 3))
    (sRet (mAndV (mCall gIsTy (mCons (mOp gIx (mVar 3) (mC (.int 0))) (mCons (mC (.raw (.ty "tuple"))) mNil))) (mAndV (mOp gEq (mCall gListOf (mCons (mOp gIx (mVar 3) (mC (.int 0))) mNil)) (mCall (f__law_read A) (mCons (mVar 4) mNil))) (mOp gEq (mOp gIx (mCall (f__law_told A) (mCons (mC (.str "")) mNil)) (mC (.int 0))) (mTup mNil)))))))
theorem rest2_eq (A : Ad) (hA : AdOk A) (ns : List Int) (h : DH) (e : listAt h 0 = some (ns.map D.int)) (a b c : Option D) : ∃ h', (rest2 A [some (.ref 0), a, b, c, none] h).fin = .val (.bl true) h' := by
  let cs := ((ns.drop (min 2 ns.length)).take (min 26 ns.length - min 2 ns.length))
  have hcs : DL.cutD (ns.map D.int) (some 2) (some 26) = cs.map D.int := cut_ints ns 2 26
  have hcl : cs.length ≤ 24 := by
    show ((ns.drop (min 2 ns.length)).take (min 26 ns.length - min 2 ns.length)).length ≤ 24
    rw [List.length_take, List.length_drop]; omega
  generalize cs = cs at hcs hcl
  let h1 : DH := h ++ [.lst (cs.map D.int)]
  have es : gSl (.ref 0) (some 2) (some 26) h = .val (.ref h.length) h1 := (r_sl_lst e).trans (by rw [hcs])
  obtain ⟨j2, eg⟩ := good_eq A (n := h.length) (cs := cs) (by omega) (h := h1) listAt_end
  let h2 := h1 ++ j2
  let ws := cs.map wz
  have hw : ∀ z ∈ ws, z ∈ steps9 := fun z hz => by obtain ⟨c, _, rfl⟩ := List.mem_map.mp hz; exact wz_in c
  have hl : ws.length ≤ 24 := by simpa [ws] using hcl
  have tl0 := tx_len hw
  have hrd := rd_tx hw hl
  obtain ⟨j3, er⟩ := read_eq A (z := tx ws) (by omega) (h := h2)
  rw [hrd] at er
  have et := told_val A (h := h2) er
  let h3 := (h2 ++ j3) ++ [.lst [.tup (ws.map D.str), .bl false]]
  have l3 : listAt h3 (h2 ++ j3).length = some [.tup (ws.map D.str), .bl false] := listAt_end
  let h4 := h3 ++ [.lst (ws.map D.str)]
  obtain ⟨j5, q5⟩ := lread_eq A (z := tx ws) (by omega) (h := h4)
  rw [hrd] at q5
  obtain ⟨m, e5, l5⟩ := q5
  let h5 := h4 ++ j5
  have l4 : listAt h5 h3.length = some (ws.map D.str) := listAt_app listAt_end
  obtain ⟨j6, er6⟩ := read_eq A (z := "") (by decide +kernel) (h := h5)
  rw [rd_nil] at er6
  have et6 := told_val A (h := h5) er6
  let h6 := (h5 ++ j6) ++ [.lst [.tup [], .bl false]]
  refine ⟨h6, ?_⟩
  unfold rest2
  refine fin_step (ρ := [some (.ref 0), a, b, c, some (.str (tx ws))]) (h := h2) (by simp [es, eg, h2, ws]) ?_
  refine fin_step (ρ := [some (.ref 0), a, b, some (.ref (h2 ++ j3).length), some (.str (tx ws))]) (h := h3) ?_ ?_
  · refine asg_step (d := .ref (h2 ++ j3).length) (h' := h3) (e_callT (e_cons rfl e_nil) et) rfl
  have ix0 : mOp gIx (mVar 3) (mC (.int 0)) [some (.ref 0), a, b, some (.ref (h2 ++ j3).length), some (.str (tx ws))] h3 = .val (.tup (ws.map D.str)) h3 := e_opT rfl rfl (r_ix_lst (k := 0) l3 rfl)
  have a1 : mCall gIsTy (mCons (mOp gIx (mVar 3) (mC (.int 0))) (mCons (mC (.raw (.ty "tuple"))) mNil)) [some (.ref 0), a, b, some (.ref (h2 ++ j3).length), some (.str (tx ws))] h3 = .val (.bl true) h3 := e_callT (e_cons ix0 (e_cons rfl e_nil)) r_tup_tup
  have a2 : mOp gEq (mCall gListOf (mCons (mOp gIx (mVar 3) (mC (.int 0))) mNil)) (mCall (f__law_read A) (mCons (mVar 4) mNil)) [some (.ref 0), a, b, some (.ref (h2 ++ j3).length), some (.str (tx ws))] h3 = .val (.bl true) h5 :=
    e_opT (e_callT (e_cons ix0 e_nil) rfl) (e_callT (e_cons rfl e_nil) e5) (same_lists hw l4 l5).1
  have a3 : mOp gEq (mOp gIx (mCall (f__law_told A) (mCons (mC (.str "")) mNil)) (mC (.int 0))) (mTup mNil) [some (.ref 0), a, b, some (.ref (h2 ++ j3).length), some (.str (tx ws))] h5 = .val (.bl true) h6 := by
    exact e_opT (e_opT (e_callT (e_cons rfl e_nil) et6) rfl (r_ix_lst (k := 0) (x := .tup []) listAt_end rfl)) rfl rfl
  exact congrArg SOut.fin (e_ret (((e_andVT a1).trans (e_andVT a2)).trans a3))
theorem is_non_ref {n : Nat} {h : DH} : gIs (.ref n) .non h = .val (.bl false) h := rfl
theorem is_non_non {h : DH} : gIs .non .non h = .val (.bl true) h := rfl
/-- what the law asks behind the telling -/
noncomputable def rest1 (A : Ad) : SM := (sSeq (sAsg (mCall (f__law_told A) (mCons (mVar 1) mNil)) (gSet 3))
    (sSeq (sIf (mB (mOp gIs (mVar 2) (mC .non))) (sIf (mNot (mB (mOp gIx (mVar 3) (mC (.int 1))))) (sRet (mC (.bl false))) sNil) (sIf (mOr (mNot (mB (mCall gIsTy (mCons (mOp gIx (mVar 3) (mC (.int 0))) (mCons (mC (.raw (.ty "tuple"))) mNil))))) (mB (mOp gNe (mCall gListOf (mCons (mOp gIx (mVar 3) (mC (.int 0))) mNil)) (mVar 2)))) (sRet (mC (.bl false))) sNil))
    (rest2 A)))
theorem rest1_exc (A : Ad) (hA : AdOk A) (ns : List Int) (h : DH) (e : listAt h 0 = some (ns.map D.int)) {d : D} {j : DH} (er : f_read_way A [d] h = .exc ⟨.ref A.c_NoWay, []⟩ (h ++ j)) : ∃ h', (rest1 A [some (.ref 0), some d, some .non, none, none] h).fin = .val (.bl true) h' := by
  have et := told_exc A hA (h := h) er
  let h3 := (h ++ j) ++ [.lst [.non, .bl true]]
  have l3 : listAt h3 (h ++ j).length = some [.non, .bl true] := listAt_end
  obtain ⟨h', e2⟩ := rest2_eq A hA ns h3 (listAt_app (listAt_app e)) (some d) (some .non) (some (.ref (h ++ j).length))
  refine ⟨h', ?_⟩
  unfold rest1
  refine fin_step (ρ := [some (.ref 0), some d, some .non, some (.ref (h ++ j).length), none]) (h := h3) ?_ ?_
  · exact asg_step (d := .ref (h ++ j).length) (h' := h3) (e_callT (e_cons rfl e_nil) et) rfl
  refine fin_step (ρ := [some (.ref 0), some d, some .non, some (.ref (h ++ j).length), none]) (h := h3) ?_ e2
  refine if_step (b := true) (h' := h3) (e_B (e_opT rfl rfl is_non_non)) ?_
  rw [if_pos rfl]
  refine if_step (b := false) (h' := h3) (e_not (b := true) (e_B (e_opT rfl rfl (r_ix_lst (k := 1) l3 rfl)))) ?_
  rfl
theorem rest1_val (A : Ad) (hA : AdOk A) (ns : List Int) (h : DH) (e : listAt h 0 = some (ns.map D.int)) {d : D} {ws : List Str} {m : Nat} {j : DH} (hw : ∀ z ∈ ws, z ∈ steps9) (lm : listAt h m = some (ws.map D.str)) (er : f_read_way A [d] h = .val (.tup (ws.map D.str)) (h ++ j)) : ∃ h', (rest1 A [some (.ref 0), some d, some (.ref m), none, none] h).fin = .val (.bl true) h' := by
  have et := told_val A (h := h) er
  let h3 := (h ++ j) ++ [.lst [.tup (ws.map D.str), .bl false]]
  have l3 : listAt h3 (h ++ j).length = some [.tup (ws.map D.str), .bl false] := listAt_end
  let h4 := h3 ++ [.lst (ws.map D.str)]
  have l4 : listAt h4 h3.length = some (ws.map D.str) := listAt_end
  have l4m : listAt h4 m = some (ws.map D.str) := listAt_app (listAt_app (listAt_app lm))
  obtain ⟨h', e2⟩ := rest2_eq A hA ns h4 (listAt_app (listAt_app (listAt_app e))) (some d) (some (.ref m)) (some (.ref (h ++ j).length))
  refine ⟨h', ?_⟩
  unfold rest1
  refine fin_step (ρ := [some (.ref 0), some d, some (.ref m), some (.ref (h ++ j).length), none]) (h := h3) ?_ ?_
  · exact asg_step (d := .ref (h ++ j).length) (h' := h3) (e_callT (e_cons rfl e_nil) et) rfl
  refine fin_step (ρ := [some (.ref 0), some d, some (.ref m), some (.ref (h ++ j).length), none]) (h := h4) ?_ e2
  refine if_step (b := false) (h' := h3) (e_B (e_opT rfl rfl is_non_ref)) ?_
  rw [if_neg (by decide)]
  have ix0 : mOp gIx (mVar 3) (mC (.int 0)) [some (.ref 0), some d, some (.ref m), some (.ref (h ++ j).length), none] h3 = .val (.tup (ws.map D.str)) h3 := e_opT rfl rfl (r_ix_lst (k := 0) l3 rfl)
  have a1 : mNot (mB (mCall gIsTy (mCons (mOp gIx (mVar 3) (mC (.int 0))) (mCons (mC (.raw (.ty "tuple"))) mNil)))) [some (.ref 0), some d, some (.ref m), some (.ref (h ++ j).length), none] h3 = .val false h3 := e_not (b := true) (e_B (e_callT (e_cons ix0 (e_cons rfl e_nil)) r_tup_tup))
  have a2 : mB (mOp gNe (mCall gListOf (mCons (mOp gIx (mVar 3) (mC (.int 0))) mNil)) (mVar 2)) [some (.ref 0), some d, some (.ref m), some (.ref (h ++ j).length), none] h3 = .val false h4 :=
    e_B (e_opT (e_callT (e_cons ix0 e_nil) rfl) rfl (same_lists hw l4 l4m).2)
  refine if_step (b := false) (h' := h4) ((e_orF a1).trans a2) ?_
  rfl
def oddL : List D := [.non, .bl true, .int 7]
theorem plain (A : Ad) (hA : AdOk A) (ns : List Int) (hl : ns.length ≤ 63) : ∃ h', f_law A [.ref 0] [.scr (ns.map D.int)] = .val (.bl true) h' := by
  let h0 : DH := [.scr (ns.map D.int)]
  have l0 : listAt h0 0 = some (ns.map D.int) := rfl
  obtain ⟨j1, z, hz, e1⟩ := text_eq A ns h0 l0
  let h1 := h0 ++ j1
  have l1 : listAt h1 0 = some (ns.map D.int) := listAt_app l0
  obtain ⟨j2, q2⟩ := lread_eq A (z := z) (by omega) (h := h1)
  let h2 := h1 ++ j2
  have l2 : listAt h2 0 = some (ns.map D.int) := listAt_app l1
  obtain ⟨v, ev⟩ := cell_eq A ns h2 l2 0
  have ev' : f__law_cell_at A [.ref 0, .int 0] h2 = .val (.int v) h2 := ev
  have fd : gFdiv (.int v) (.int 6) h2 = .val (.int (v / 6)) h2 := r_fdiv (by decide) (Nat.lt_of_lt_of_le (show (6 : Int).natAbs < 2 ^ 5 by decide) (Nat.pow_le_pow_right (by decide) (by decide)))
  have m9 : gMod (.int (v / 6)) (.int 9) h2 = .val (.int (v / 6 % 9)) h2 := r_mod (by decide)
  obtain ⟨j3, er⟩ := read_eq A (z := z) (by omega) (h := h2)
  -- the due answer
  have due : ∃ d2, f__law_read A [.str z] h1 = .val d2 h2 ∧ (∃ h', (rest1 A [some (.ref 0), some (.str z), some d2, none, none] h2).fin = .val (.bl true) h') := by
    cases q : rd z with
    | some ws =>
      rw [q] at q2 er
      obtain ⟨m, e2, lm⟩ := q2
      exact ⟨_, e2, rest1_val A hA ns h2 l2 (rd_in q) lm er⟩
    | none =>
      rw [q] at q2 er
      exact ⟨_, q2, rest1_exc A hA ns h2 l2 er⟩
  obtain ⟨d2, e2, h', e3⟩ := due
  unfold f_law m_law
  have n0 : startD N_law [.ref 0] = [some (.ref 0), none, none, none, none] := rfl
  rw [n0]
  have s1 : sAsg (mCall (f__law_text A) (mCons (mVar 0) mNil)) (gSet 1) [some (.ref 0), none, none, none, none] h0 = .nx [some (.ref 0), some (.str z), none, none, none] h1 := asg_step (e_callT (e_cons rfl e_nil) e1) rfl
  have s2 : sAsg (mCall (f__law_read A) (mCons (mVar 1) mNil)) (gSet 2) [some (.ref 0), some (.str z), none, none, none] h1 = .nx [some (.ref 0), some (.str z), some d2, none, none] h2 := asg_step (e_callT (e_cons rfl e_nil) e2) rfl
  rw [r_sSeq, s1, SOut.thn_nx, r_sSeq, s2, SOut.thn_nx]
  have tst : mB (mOp gEq (mOp gMod (mOp gFdiv (mCall (f__law_cell_at A) (mCons (mVar 0) (mCons (mC (.int 0)) mNil))) (mC (.int 6))) (mC (.int 9))) (mC (.int 1))) [some (.ref 0), some (.str z), some d2, none, none] h2 = .val (v / 6 % 9 == 1) h2 := by
    simp [ev', fd, m9]
  by_cases w : v / 6 % 9 = 1
  · obtain ⟨u, eu⟩ := cell_eq A ns
      ((h2 ++ [DO.lst [.str "F", .str "M"]] ++ [DO.dk []] ++ [.lst []]) ++ [.lst [.non, .bl true, .int 7, .tup [.str "F"], .ref h2.length, .ref (h2 ++ [DO.lst [.str "F", .str "M"]]).length, .tup [], .ref (h2 ++ [DO.lst [.str "F", .str "M"]] ++ [DO.dk []]).length]]) (listAt_app (listAt_app (listAt_app (listAt_app l2)))) 1
    let hb : DH := (h2 ++ [DO.lst [.str "F", .str "M"]] ++ [DO.dk []] ++ [.lst []])
    let ol : List D := [.non, .bl true, .int 7, .tup [.str "F"], .ref h2.length, .ref (h2 ++ [DO.lst [.str "F", .str "M"]]).length, .tup [], .ref (h2 ++ [DO.lst [.str "F", .str "M"]] ++ [DO.dk []]).length]
    let h3 : DH := hb ++ [.lst ol]
    have lo : listAt h3 hb.length = some ol := listAt_end
    have eu' : f__law_cell_at A [.ref 0, .int 1] h3 = .val (.int u) h3 := eu
    have m8 : gMod (.int u) (.int 8) h3 = .val (.int (u % 8)) h3 := r_mod (by decide)
    have el : mLst (mCons (mC .non) (mCons (mC (.bl true)) (mCons (mC (.int 7)) (mCons (mTup (mCons (mC (.str "F")) mNil)) (mCons (mLst (mCons (mC (.str "F")) (mCons (mC (.str "M")) mNil))) (mCons mDictE (mCons (mTup mNil) (mCons (mLst mNil) mNil)))))))) [some (.ref 0), some (.str z), some d2, none, none] h2 = .val (.ref hb.length) h3 := by
      simp [mDictE, if_pos (sz (n := 8) (by decide)), if_pos (sz (n := 2) (by decide)), if_pos (sz (n := 1) (by decide)), h3, hb, ol]
    have hk : (u % 8).toNat < ol.length := by show _ < 8; omega
    have ix : gIx (.ref hb.length) (.int (u % 8)) h3 = .val ol[(u % 8).toNat] h3 := by
      have q := r_ix_lst (h := h3) (p := hb.length) (xs := ol) (k := (u % 8).toNat) (x := ol[(u % 8).toNat]) lo (List.getElem?_eq_getElem hk)
      rwa [Int.toNat_of_nonneg (by omega)] at q
    have ty : ∃ t, tyD h3 ol[(u % 8).toNat] = some t ∧ kitB t "str" = some false := by
      have all : ∀ d ∈ ol, ∃ t, tyD h3 d = some t ∧ kitB t "str" = some false := by
        have r1 : h3[h2.length]? = some (DO.lst [.str "F", .str "M"]) := by simp [h3, hb]
        have r2 : h3[(h2 ++ [DO.lst [.str "F", .str "M"]]).length]? = some (.dk []) := by simp [h3, hb]
        have r3 : h3[(h2 ++ [DO.lst [.str "F", .str "M"]] ++ [DO.dk []]).length]? = some (.lst []) := by simp [h3, hb]
        intro d hd
        simp only [ol, List.mem_cons, List.not_mem_nil, or_false] at hd
        rcases hd with rfl | rfl | rfl | rfl | rfl | rfl | rfl | rfl
        · exact ⟨"NoneType", rfl, by decide +kernel⟩
        · exact ⟨"bool", rfl, by decide +kernel⟩
        · exact ⟨"int", rfl, by decide +kernel⟩
        · exact ⟨"tuple", rfl, by decide +kernel⟩
        · exact ⟨"list", by show tyR _ = _; rw [r1]; rfl, by decide +kernel⟩
        · exact ⟨"dict", by show tyR _ = _; rw [r2]; rfl, by decide +kernel⟩
        · exact ⟨"tuple", rfl, by decide +kernel⟩
        · exact ⟨"list", by show tyR _ = _; rw [r3]; rfl, by decide +kernel⟩
      exact all _ (List.getElem_mem hk)
    obtain ⟨t, t1, t2⟩ := ty
    generalize ol[(u % 8).toNat] = d at ix t1
    have er3 := odd_eq A t1 t2
    obtain ⟨h'', e4⟩ := rest1_exc A hA ns h3 (listAt_app (listAt_app (listAt_app (listAt_app l2)))) er3
    refine ⟨h'', ?_⟩
    refine fin_step (ρ := [some (.ref 0), some d, some .non, none, none]) (h := h3) ?_ e4
    refine if_step tst ?_
    rw [if_pos (by rw [w]; rfl)]
    refine nx_step (ρ := [some (.ref 0), some d, some d2, none, none]) (h := h3) ?_ (by simp)
    refine asg_step (d := d) (h' := h3) ?_ rfl
    refine e_opT el ?_ ix
    simp [eu', m8]
  · refine ⟨h', ?_⟩
    refine fin_step (ρ := [some (.ref 0), some (.str z), some d2, none, none]) (h := h2) ?_ e3
    refine if_step tst ?_
    rw [if_neg (by simpa using w)]
    rfl
end Wk12

open PySem PySem.W PyProof.Rows in
set_option maxRecDepth 100000 in
set_option maxHeartbeats 0 in
theorem PySem.Challenge.cw_heirbook_k12_texts_of_no_way_holds : PySem.Challenge.rw_heirbook_k12_texts_of_no_way.Holds := by
  w_on; o_law; k_head; (case hw => w_witness2)
  k_fill
  refine Wk12.walk (l := PySem.Challenge.rw_heirbook_k12_texts_of_no_way) rfl rfl (fun w h Y => PySem.W.kIn_of Y) ?F
  case F =>
    intro w mg fa h KX G hmg
    refine' Wk12.all_mk KX G hmg ?a_read_way ?l_read_way ?co_read_way ?ke_read_way ?a__law_cell_at ?l__law_cell_at ?co__law_cell_at ?ke__law_cell_at ?a__law_read ?l__law_read ?co__law_read ?ke__law_read ?a__law_good ?l__law_good ?co__law_good ?ke__law_good ?a__law_spoiled ?l__law_spoiled ?co__law_spoiled ?ke__law_spoiled ?a__law_pieces ?l__law_pieces ?co__law_pieces ?ke__law_pieces ?a__law_text ?l__law_text ?co__law_text ?ke__law_text ?a__law_told ?l__law_told ?co__law_told ?ke__law_told ?a_law ?l_law ?co_law ?ke_law ?z_ValueError ?z_isinstance ?z_len ?z_list ?z_str ?z_tuple ?gc_Alive ?kc_Alive ?sb_Alive ?tc_Alive ?gc_Barred ?kc_Barred ?sb_Barred ?tc_Barred ?gc_Full ?kc_Full ?sb_Full ?tc_Full ?gc_HeirError ?kc_HeirError ?sb_HeirError ?tc_HeirError ?gc_Marked ?kc_Marked ?sb_Marked ?tc_Marked ?gc_NoCode ?kc_NoCode ?sb_NoCode ?tc_NoCode ?gc_NoEntry ?kc_NoEntry ?sb_NoEntry ?tc_NoEntry ?gc_NoFit ?kc_NoFit ?sb_NoFit ?tc_NoFit ?gc_NoNumber ?kc_NoNumber ?sb_NoNumber ?tc_NoNumber ?gc_NoPerson ?kc_NoPerson ?sb_NoPerson ?tc_NoPerson ?gc_NoRow ?kc_NoRow ?sb_NoRow ?tc_NoRow ?gc_NoTongue ?kc_NoTongue ?sb_NoTongue ?tc_NoTongue ?gc_NoWay ?xc_NoWay ?kc_NoWay ?sb_NoWay ?tc_NoWay ?gc_NoWord ?kc_NoWord ?sb_NoWord ?tc_NoWord ?gc_TooMany ?kc_TooMany ?sb_TooMany ?tc_TooMany ?gc_Twice ?kc_Twice ?sb_Twice ?tc_Twice ?gc_Unsure ?kc_Unsure ?sb_Unsure ?tc_Unsure ?x_hn ?x_ht ?xhg_NoWay ?xhk_NoWay ?xhd_NoWay ?xha_NoWay ?xhm_NoWay ?su_NoWay_Alive ?su_NoWay_Barred ?su_NoWay_Full ?su_NoWay_HeirError ?su_NoWay_Marked ?su_NoWay_NoCode ?su_NoWay_NoEntry ?su_NoWay_NoFit ?su_NoWay_NoNumber ?su_NoWay_NoPerson ?su_NoWay_NoRow ?su_NoWay_NoTongue ?su_NoWay_NoWay ?su_NoWay_NoWord ?su_NoWay_TooMany ?su_NoWay_Twice ?su_NoWay_Unsure ?su_NoWay_ValueError ?xhd_Alive ?xhd_Barred ?xhd_Full ?xhd_HeirError ?xhd_Marked ?xhd_NoCode ?xhd_NoEntry ?xhd_NoFit ?xhd_NoNumber ?xhd_NoPerson ?xhd_NoRow ?xhd_NoTongue ?xhd_NoWord ?xhd_TooMany ?xhd_Twice ?xhd_Unsure ?ne_Alive_Barred ?ne_Alive_Full ?ne_Alive_HeirError ?ne_Alive_Marked ?ne_Alive_NoCode ?ne_Alive_NoEntry ?ne_Alive_NoFit ?ne_Alive_NoNumber ?ne_Alive_NoPerson ?ne_Alive_NoRow ?ne_Alive_NoTongue ?ne_Alive_NoWay ?ne_Alive_NoWord ?ne_Alive_TooMany ?ne_Alive_Twice ?ne_Alive_Unsure ?ne_Barred_Full ?ne_Barred_HeirError ?ne_Barred_Marked ?ne_Barred_NoCode ?ne_Barred_NoEntry ?ne_Barred_NoFit ?ne_Barred_NoNumber ?ne_Barred_NoPerson ?ne_Barred_NoRow ?ne_Barred_NoTongue ?ne_Barred_NoWay ?ne_Barred_NoWord ?ne_Barred_TooMany ?ne_Barred_Twice ?ne_Barred_Unsure ?ne_Full_HeirError ?ne_Full_Marked ?ne_Full_NoCode ?ne_Full_NoEntry ?ne_Full_NoFit ?ne_Full_NoNumber ?ne_Full_NoPerson ?ne_Full_NoRow ?ne_Full_NoTongue ?ne_Full_NoWay ?ne_Full_NoWord ?ne_Full_TooMany ?ne_Full_Twice ?ne_Full_Unsure ?ne_HeirError_Marked ?ne_HeirError_NoCode ?ne_HeirError_NoEntry ?ne_HeirError_NoFit ?ne_HeirError_NoNumber ?ne_HeirError_NoPerson ?ne_HeirError_NoRow ?ne_HeirError_NoTongue ?ne_HeirError_NoWay ?ne_HeirError_NoWord ?ne_HeirError_TooMany ?ne_HeirError_Twice ?ne_HeirError_Unsure ?ne_Marked_NoCode ?ne_Marked_NoEntry ?ne_Marked_NoFit ?ne_Marked_NoNumber ?ne_Marked_NoPerson ?ne_Marked_NoRow ?ne_Marked_NoTongue ?ne_Marked_NoWay ?ne_Marked_NoWord ?ne_Marked_TooMany ?ne_Marked_Twice ?ne_Marked_Unsure ?ne_NoCode_NoEntry ?ne_NoCode_NoFit ?ne_NoCode_NoNumber ?ne_NoCode_NoPerson ?ne_NoCode_NoRow ?ne_NoCode_NoTongue ?ne_NoCode_NoWay ?ne_NoCode_NoWord ?ne_NoCode_TooMany ?ne_NoCode_Twice ?ne_NoCode_Unsure ?ne_NoEntry_NoFit ?ne_NoEntry_NoNumber ?ne_NoEntry_NoPerson ?ne_NoEntry_NoRow ?ne_NoEntry_NoTongue ?ne_NoEntry_NoWay ?ne_NoEntry_NoWord ?ne_NoEntry_TooMany ?ne_NoEntry_Twice ?ne_NoEntry_Unsure ?ne_NoFit_NoNumber ?ne_NoFit_NoPerson ?ne_NoFit_NoRow ?ne_NoFit_NoTongue ?ne_NoFit_NoWay ?ne_NoFit_NoWord ?ne_NoFit_TooMany ?ne_NoFit_Twice ?ne_NoFit_Unsure ?ne_NoNumber_NoPerson ?ne_NoNumber_NoRow ?ne_NoNumber_NoTongue ?ne_NoNumber_NoWay ?ne_NoNumber_NoWord ?ne_NoNumber_TooMany ?ne_NoNumber_Twice ?ne_NoNumber_Unsure ?ne_NoPerson_NoRow ?ne_NoPerson_NoTongue ?ne_NoPerson_NoWay ?ne_NoPerson_NoWord ?ne_NoPerson_TooMany ?ne_NoPerson_Twice ?ne_NoPerson_Unsure ?ne_NoRow_NoTongue ?ne_NoRow_NoWay ?ne_NoRow_NoWord ?ne_NoRow_TooMany ?ne_NoRow_Twice ?ne_NoRow_Unsure ?ne_NoTongue_NoWay ?ne_NoTongue_NoWord ?ne_NoTongue_TooMany ?ne_NoTongue_Twice ?ne_NoTongue_Unsure ?ne_NoWay_NoWord ?ne_NoWay_TooMany ?ne_NoWay_Twice ?ne_NoWay_Unsure ?ne_NoWord_TooMany ?ne_NoWord_Twice ?ne_NoWord_Unsure ?ne_TooMany_Twice ?ne_TooMany_Unsure ?ne_Twice_Unsure ?g_BACK ?lk_BACK ?li_BACK ?lo_BACK ?e_BACK_0 ?e_BACK_1 ?e_BACK_2 ?e_BACK_3 ?e_BACK_4 ?e_BACK_5 ?e_BACK_6 ?e_BACK_7 ?e_BACK_8 ?in_BACK ?g_MOST ?plain
    (case a_read_way => k_is)
    (case l_read_way => k_is)
    (case co_read_way => k_is)
    (case ke_read_way => k_is)
    (case a__law_cell_at => k_is)
    (case l__law_cell_at => k_is)
    (case co__law_cell_at => k_is)
    (case ke__law_cell_at => k_is)
    (case a__law_read => k_is)
    (case l__law_read => k_is)
    (case co__law_read => k_is)
    (case ke__law_read => k_is)
    (case a__law_good => k_is)
    (case l__law_good => k_is)
    (case co__law_good => k_is)
    (case ke__law_good => k_is)
    (case a__law_spoiled => k_is)
    (case l__law_spoiled => k_is)
    (case co__law_spoiled => k_is)
    (case ke__law_spoiled => k_is)
    (case a__law_pieces => k_is)
    (case l__law_pieces => k_is)
    (case co__law_pieces => k_is)
    (case ke__law_pieces => k_is)
    (case a__law_text => k_is)
    (case l__law_text => k_is)
    (case co__law_text => k_is)
    (case ke__law_text => k_is)
    (case a__law_told => k_is)
    (case l__law_told => k_is)
    (case co__law_told => k_is)
    (case ke__law_told => k_is)
    (case a_law => k_is)
    (case l_law => k_is)
    (case co_law => k_is)
    (case ke_law => k_is)
    (case z_ValueError => k_is)
    (case z_isinstance => k_is)
    (case z_len => k_is)
    (case z_list => k_is)
    (case z_str => k_is)
    (case z_tuple => k_is)
    (case gc_Alive => k_is)
    (case kc_Alive => k_is)
    (case sb_Alive => k_is)
    (case tc_Alive => k_is)
    (case gc_Barred => k_is)
    (case kc_Barred => k_is)
    (case sb_Barred => k_is)
    (case tc_Barred => k_is)
    (case gc_Full => k_is)
    (case kc_Full => k_is)
    (case sb_Full => k_is)
    (case tc_Full => k_is)
    (case gc_HeirError => k_is)
    (case kc_HeirError => k_is)
    (case sb_HeirError => k_is)
    (case tc_HeirError => k_is)
    (case gc_Marked => k_is)
    (case kc_Marked => k_is)
    (case sb_Marked => k_is)
    (case tc_Marked => k_is)
    (case gc_NoCode => k_is)
    (case kc_NoCode => k_is)
    (case sb_NoCode => k_is)
    (case tc_NoCode => k_is)
    (case gc_NoEntry => k_is)
    (case kc_NoEntry => k_is)
    (case sb_NoEntry => k_is)
    (case tc_NoEntry => k_is)
    (case gc_NoFit => k_is)
    (case kc_NoFit => k_is)
    (case sb_NoFit => k_is)
    (case tc_NoFit => k_is)
    (case gc_NoNumber => k_is)
    (case kc_NoNumber => k_is)
    (case sb_NoNumber => k_is)
    (case tc_NoNumber => k_is)
    (case gc_NoPerson => k_is)
    (case kc_NoPerson => k_is)
    (case sb_NoPerson => k_is)
    (case tc_NoPerson => k_is)
    (case gc_NoRow => k_is)
    (case kc_NoRow => k_is)
    (case sb_NoRow => k_is)
    (case tc_NoRow => k_is)
    (case gc_NoTongue => k_is)
    (case kc_NoTongue => k_is)
    (case sb_NoTongue => k_is)
    (case tc_NoTongue => k_is)
    (case gc_NoWay => k_is)
    (case xc_NoWay => k_exc)
    (case kc_NoWay => k_is)
    (case sb_NoWay => k_is)
    (case tc_NoWay => k_is)
    (case gc_NoWord => k_is)
    (case kc_NoWord => k_is)
    (case sb_NoWord => k_is)
    (case tc_NoWord => k_is)
    (case gc_TooMany => k_is)
    (case kc_TooMany => k_is)
    (case sb_TooMany => k_is)
    (case tc_TooMany => k_is)
    (case gc_Twice => k_is)
    (case kc_Twice => k_is)
    (case sb_Twice => k_is)
    (case tc_Twice => k_is)
    (case gc_Unsure => k_is)
    (case kc_Unsure => k_is)
    (case sb_Unsure => k_is)
    (case tc_Unsure => k_is)
    (case x_hn => k_is)
    (case x_ht => k_is)
    (case xhg_NoWay => k_is)
    (case xhk_NoWay => k_is)
    (case xhd_NoWay => k_is)
    (case xha_NoWay => k_is)
    (case xhm_NoWay => k_is)
    (case su_NoWay_Alive => k_is)
    (case su_NoWay_Barred => k_is)
    (case su_NoWay_Full => k_is)
    (case su_NoWay_HeirError => k_is)
    (case su_NoWay_Marked => k_is)
    (case su_NoWay_NoCode => k_is)
    (case su_NoWay_NoEntry => k_is)
    (case su_NoWay_NoFit => k_is)
    (case su_NoWay_NoNumber => k_is)
    (case su_NoWay_NoPerson => k_is)
    (case su_NoWay_NoRow => k_is)
    (case su_NoWay_NoTongue => k_is)
    (case su_NoWay_NoWay => k_is)
    (case su_NoWay_NoWord => k_is)
    (case su_NoWay_TooMany => k_is)
    (case su_NoWay_Twice => k_is)
    (case su_NoWay_Unsure => k_is)
    (case su_NoWay_ValueError => k_is)
    (case xhd_Alive => k_is)
    (case xhd_Barred => k_is)
    (case xhd_Full => k_is)
    (case xhd_HeirError => k_is)
    (case xhd_Marked => k_is)
    (case xhd_NoCode => k_is)
    (case xhd_NoEntry => k_is)
    (case xhd_NoFit => k_is)
    (case xhd_NoNumber => k_is)
    (case xhd_NoPerson => k_is)
    (case xhd_NoRow => k_is)
    (case xhd_NoTongue => k_is)
    (case xhd_NoWord => k_is)
    (case xhd_TooMany => k_is)
    (case xhd_Twice => k_is)
    (case xhd_Unsure => k_is)
    (case ne_Alive_Barred => decide)
    (case ne_Alive_Full => decide)
    (case ne_Alive_HeirError => decide)
    (case ne_Alive_Marked => decide)
    (case ne_Alive_NoCode => decide)
    (case ne_Alive_NoEntry => decide)
    (case ne_Alive_NoFit => decide)
    (case ne_Alive_NoNumber => decide)
    (case ne_Alive_NoPerson => decide)
    (case ne_Alive_NoRow => decide)
    (case ne_Alive_NoTongue => decide)
    (case ne_Alive_NoWay => decide)
    (case ne_Alive_NoWord => decide)
    (case ne_Alive_TooMany => decide)
    (case ne_Alive_Twice => decide)
    (case ne_Alive_Unsure => decide)
    (case ne_Barred_Full => decide)
    (case ne_Barred_HeirError => decide)
    (case ne_Barred_Marked => decide)
    (case ne_Barred_NoCode => decide)
    (case ne_Barred_NoEntry => decide)
    (case ne_Barred_NoFit => decide)
    (case ne_Barred_NoNumber => decide)
    (case ne_Barred_NoPerson => decide)
    (case ne_Barred_NoRow => decide)
    (case ne_Barred_NoTongue => decide)
    (case ne_Barred_NoWay => decide)
    (case ne_Barred_NoWord => decide)
    (case ne_Barred_TooMany => decide)
    (case ne_Barred_Twice => decide)
    (case ne_Barred_Unsure => decide)
    (case ne_Full_HeirError => decide)
    (case ne_Full_Marked => decide)
    (case ne_Full_NoCode => decide)
    (case ne_Full_NoEntry => decide)
    (case ne_Full_NoFit => decide)
    (case ne_Full_NoNumber => decide)
    (case ne_Full_NoPerson => decide)
    (case ne_Full_NoRow => decide)
    (case ne_Full_NoTongue => decide)
    (case ne_Full_NoWay => decide)
    (case ne_Full_NoWord => decide)
    (case ne_Full_TooMany => decide)
    (case ne_Full_Twice => decide)
    (case ne_Full_Unsure => decide)
    (case ne_HeirError_Marked => decide)
    (case ne_HeirError_NoCode => decide)
    (case ne_HeirError_NoEntry => decide)
    (case ne_HeirError_NoFit => decide)
    (case ne_HeirError_NoNumber => decide)
    (case ne_HeirError_NoPerson => decide)
    (case ne_HeirError_NoRow => decide)
    (case ne_HeirError_NoTongue => decide)
    (case ne_HeirError_NoWay => decide)
    (case ne_HeirError_NoWord => decide)
    (case ne_HeirError_TooMany => decide)
    (case ne_HeirError_Twice => decide)
    (case ne_HeirError_Unsure => decide)
    (case ne_Marked_NoCode => decide)
    (case ne_Marked_NoEntry => decide)
    (case ne_Marked_NoFit => decide)
    (case ne_Marked_NoNumber => decide)
    (case ne_Marked_NoPerson => decide)
    (case ne_Marked_NoRow => decide)
    (case ne_Marked_NoTongue => decide)
    (case ne_Marked_NoWay => decide)
    (case ne_Marked_NoWord => decide)
    (case ne_Marked_TooMany => decide)
    (case ne_Marked_Twice => decide)
    (case ne_Marked_Unsure => decide)
    (case ne_NoCode_NoEntry => decide)
    (case ne_NoCode_NoFit => decide)
    (case ne_NoCode_NoNumber => decide)
    (case ne_NoCode_NoPerson => decide)
    (case ne_NoCode_NoRow => decide)
    (case ne_NoCode_NoTongue => decide)
    (case ne_NoCode_NoWay => decide)
    (case ne_NoCode_NoWord => decide)
    (case ne_NoCode_TooMany => decide)
    (case ne_NoCode_Twice => decide)
    (case ne_NoCode_Unsure => decide)
    (case ne_NoEntry_NoFit => decide)
    (case ne_NoEntry_NoNumber => decide)
    (case ne_NoEntry_NoPerson => decide)
    (case ne_NoEntry_NoRow => decide)
    (case ne_NoEntry_NoTongue => decide)
    (case ne_NoEntry_NoWay => decide)
    (case ne_NoEntry_NoWord => decide)
    (case ne_NoEntry_TooMany => decide)
    (case ne_NoEntry_Twice => decide)
    (case ne_NoEntry_Unsure => decide)
    (case ne_NoFit_NoNumber => decide)
    (case ne_NoFit_NoPerson => decide)
    (case ne_NoFit_NoRow => decide)
    (case ne_NoFit_NoTongue => decide)
    (case ne_NoFit_NoWay => decide)
    (case ne_NoFit_NoWord => decide)
    (case ne_NoFit_TooMany => decide)
    (case ne_NoFit_Twice => decide)
    (case ne_NoFit_Unsure => decide)
    (case ne_NoNumber_NoPerson => decide)
    (case ne_NoNumber_NoRow => decide)
    (case ne_NoNumber_NoTongue => decide)
    (case ne_NoNumber_NoWay => decide)
    (case ne_NoNumber_NoWord => decide)
    (case ne_NoNumber_TooMany => decide)
    (case ne_NoNumber_Twice => decide)
    (case ne_NoNumber_Unsure => decide)
    (case ne_NoPerson_NoRow => decide)
    (case ne_NoPerson_NoTongue => decide)
    (case ne_NoPerson_NoWay => decide)
    (case ne_NoPerson_NoWord => decide)
    (case ne_NoPerson_TooMany => decide)
    (case ne_NoPerson_Twice => decide)
    (case ne_NoPerson_Unsure => decide)
    (case ne_NoRow_NoTongue => decide)
    (case ne_NoRow_NoWay => decide)
    (case ne_NoRow_NoWord => decide)
    (case ne_NoRow_TooMany => decide)
    (case ne_NoRow_Twice => decide)
    (case ne_NoRow_Unsure => decide)
    (case ne_NoTongue_NoWay => decide)
    (case ne_NoTongue_NoWord => decide)
    (case ne_NoTongue_TooMany => decide)
    (case ne_NoTongue_Twice => decide)
    (case ne_NoTongue_Unsure => decide)
    (case ne_NoWay_NoWord => decide)
    (case ne_NoWay_TooMany => decide)
    (case ne_NoWay_Twice => decide)
    (case ne_NoWay_Unsure => decide)
    (case ne_NoWord_TooMany => decide)
    (case ne_NoWord_Twice => decide)
    (case ne_NoWord_Unsure => decide)
    (case ne_TooMany_Twice => decide)
    (case ne_TooMany_Unsure => decide)
    (case ne_Twice_Unsure => decide)
    (case g_BACK => k_is)
    (case lk_BACK => k_is)
    (case li_BACK => k_keys)
    (case lo_BACK => decide)
    (case e_BACK_0 => k_is)
    (case e_BACK_1 => k_is)
    (case e_BACK_2 => k_is)
    (case e_BACK_3 => k_is)
    (case e_BACK_4 => k_is)
    (case e_BACK_5 => k_is)
    (case e_BACK_6 => k_is)
    (case e_BACK_7 => k_is)
    (case e_BACK_8 => k_is)
    (case in_BACK => first | rfl | kernel_rfl | decide +kernel)
    (case g_MOST => k_is)
    (case plain => exact Wk12.plain)
#print axioms PySem.Challenge.cw_heirbook_k12_texts_of_no_way_holds
