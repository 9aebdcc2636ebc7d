import PyProof.Rows.All
import Wide.All
import OpenK.AllK
import Wide.FinOn
import HandS.ForMost
import HandS.ForExc
import HandS.TryOnly
import HandS.TryMany
import HandS.TryElse
import HandS.ExcOwn
import HandS.ExcIs
import HandS.CallSlots
import HandS.Wide
import HandS.Rev
import HandS.Codes
import HandS.IsInst
import HandS.TupAny
import HandS.Style
import HandS.Text
import HandS.More
import HandS.Finally
import PySem.Challenge.RW_heirbook_k01_a_ratio
set_option Elab.async false
set_option linter.all false
set_option maxRecDepth 100000
/-! DLCore: a layer of data over the hand layer: tuples are values, mutable objects stand at places 0, 1, .. of a list. -/
namespace DL
open PySem PySem.Spec PyProof.Rows L2
abbrev St := L2.St

inductive D where
  | non | bl (b : Bool) | int (i : Int) | str (x : Str) | ref (n : Nat) | tup (xs : List D) | raw (v : V)
instance : Inhabited D := ⟨.non⟩
inductive DO where
  | lst (xs : List D) | dk (kvs : List (Key × D)) | dt (kvs : List (List Key × D)) | ins (C : Addr) (fs : List (Str × D)) | scr (xs : List D)
abbrev DH := List DO
abbrev DEnv := List (Option D)
def DO.isScr : DO → Bool
  | .scr _ => true
  | _ => false

section
variable (K : PySem.W.Frag)
mutual
inductive RV (H : Hp) (al : List Addr) : D → V → Prop where
  | non : RV H al .non .non
  | bl {b} : RV H al (.bl b) (.bl b)
  | int {i} : RV H al (.int i) (.int i)
  | str {x} : RV H al (.str x) (.str x)
  | ref {n a} : al[n]? = some a → RV H al (.ref n) (.ref a)
  | tup {a vs ds} : SqT K H a vs → RVs H al ds vs → RV H al (.tup ds) (.ref a)
  | raw {v} : RV H al (.raw v) v
inductive RVs (H : Hp) (al : List Addr) : List D → List V → Prop where
  | nil : RVs H al [] []
  | cons {d v ds vs} : RV H al d v → RVs H al ds vs → RVs H al (d :: ds) (v :: vs)
end
structure Evo (H : Hp) (al : List Addr) (H' : Hp) (al' : List Addr) : Prop where
  pre : ∃ r, al' = al ++ r
  tup : ∀ a vs, SqT K H a vs → SqT K H' a vs
def KR {κ : Type} (H : Hp) (al : List Addr) (p : κ × D) (q : κ × V) : Prop := p.1 = q.1 ∧ RV K H al p.2 q.2
def RO (H : Hp) (al : List Addr) : DO → Addr → Prop
  | .lst ds, a => ∃ vs, H a = some (.lst vs) ∧ RVs K H al ds vs
  | .dk kvs, a => ∃ kv, H a = some (.dK kv) ∧ Paired (KR K H al) kvs kv
  | .dt kvs, a => ∃ kv, H a = some (.dT kv) ∧ Paired (KR K H al) kvs kv
  | .ins C fs, a => ∃ dx fv, H a = some (.ins C dx fv) ∧ Paired (KR K H al) fs fv
  | .scr ds, a => ∃ vs, ((∃ o, H a = some (.frz o (.lst vs))) ∨ (∀ H', SqL K H' a vs)) ∧ RVs K H al ds vs
structure RH (H : Hp) (al : List Addr) (h : DH) : Prop where
  len : h.length = al.length
  obj : ∀ (n : Nat) (o : DO) (a : Addr), h[n]? = some o → al[n]? = some a → RO K H al o a
  uniq : ∀ (i j : Nat) (a : Addr) (o o' : DO), al[i]? = some a → al[j]? = some a → h[i]? = some o → h[j]? = some o' → o.isScr = false → o'.isScr = false → i = j
def RSlot (H : Hp) (al : List Addr) : Option D → Option V → Prop
  | none, _ => True
  | some d, some v => RV K H al d v
  | some _, none => False
abbrev RS (H : Hp) (al : List Addr) : DEnv → St → Prop := Paired (RSlot K H al)
end

section
variable {K : PySem.W.Frag} {H H1 H2 : Hp} {al al1 al2 : List Addr}
theorem Evo.refl : Evo K H al H al := ⟨⟨[], by simp⟩, fun _ _ h => h⟩
theorem Evo.trans (a : Evo K H al H1 al1) (b : Evo K H1 al1 H2 al2) : Evo K H al H2 al2 := by
  obtain ⟨⟨r, e⟩, t⟩ := a
  obtain ⟨⟨r', e'⟩, t'⟩ := b
  exact ⟨⟨r ++ r', by rw [e', e, List.append_assoc]⟩, fun a vs h => t' a vs (t a vs h)⟩
theorem Evo.at (e : Evo K H al H1 al1) {n : Nat} {a : Addr} (h : al[n]? = some a) : al1[n]? = some a := by
  obtain ⟨⟨r, rfl⟩, _⟩ := e
  obtain ⟨hn, _⟩ := List.getElem?_eq_some_iff.mp h
  rw [List.getElem?_append_left hn]
  exact h
mutual
theorem RV.evo (e : Evo K H al H1 al1) : ∀ {d : D} {v : V}, RV K H al d v → RV K H1 al1 d v
  | _, _, .non => .non
  | _, _, .bl => .bl
  | _, _, .int => .int
  | _, _, .str => .str
  | _, _, .ref h => .ref (e.at h)
  | _, _, .tup h hs => .tup (e.tup _ _ h) (RVs.evo e hs)
  | _, _, .raw => .raw
theorem RVs.evo (e : Evo K H al H1 al1) : ∀ {ds : List D} {vs : List V}, RVs K H al ds vs → RVs K H1 al1 ds vs
  | _, _, .nil => .nil
  | _, _, .cons h t => .cons (RV.evo e h) (RVs.evo e t)
end
theorem KR.evo {κ : Type} (e : Evo K H al H1 al1) {p : κ × D} {q : κ × V} (h : KR K H al p q) : KR K H1 al1 p q := ⟨h.1, h.2.evo e⟩
theorem RSlot.evo (e : Evo K H al H1 al1) : ∀ {d : Option D} {v : Option V}, RSlot K H al d v → RSlot K H1 al1 d v
  | none, _, _ => trivial
  | some _, some _, h => RV.evo e h
  | some _, none, h => h
theorem RS.evo (e : Evo K H al H1 al1) {ρ : DEnv} {σ : St} (h : RS K H al ρ σ) : RS K H1 al1 ρ σ := Paired.mapP h fun _ _ q => RSlot.evo e q

/-! ### lists of values -/
theorem RVs.length : ∀ {ds : List D} {vs : List V}, RVs K H al ds vs → ds.length = vs.length
  | _, _, .nil => rfl
  | _, _, .cons _ t => congrArg (· + 1) (RVs.length t)
theorem RVs.get : ∀ {ds : List D} {vs : List V} {i : Nat} {d : D}, RVs K H al ds vs → ds[i]? = some d → ∃ v, vs[i]? = some v ∧ RV K H al d v
  | _, _, i, _, .nil, e => by simp at e
  | _, _, 0, _, .cons h _, e => by simp at e; subst e; exact ⟨_, rfl, h⟩
  | _, _, i + 1, d, .cons _ t, e => by
    obtain ⟨v, h1, h2⟩ := RVs.get (i := i) (d := d) t (by simpa using e)
    exact ⟨v, by simpa using h1, h2⟩
theorem RVs.append : ∀ {ds es : List D} {vs ws : List V}, RVs K H al ds vs → RVs K H al es ws → RVs K H al (ds ++ es) (vs ++ ws)
  | _, _, _, _, .nil, s => s
  | _, _, _, _, .cons r t, s => .cons r (RVs.append t s)
theorem RVs.take : ∀ {ds : List D} {vs : List V} (n : Nat), RVs K H al ds vs → RVs K H al (ds.take n) (vs.take n)
  | _, _, 0, _ => by simpa using RVs.nil
  | _, _, _ + 1, .nil => .nil
  | _, _, n + 1, .cons r t => .cons r (RVs.take n t)
theorem RVs.drop : ∀ {ds : List D} {vs : List V} (n : Nat), RVs K H al ds vs → RVs K H al (ds.drop n) (vs.drop n)
  | _, _, 0, r => r
  | _, _, _ + 1, .nil => .nil
  | _, _, n + 1, .cons _ t => RVs.drop n t
theorem RVs.set {d : D} {v : V} (r : RV K H al d v) : ∀ {ds : List D} {vs : List V} (i : Nat), RVs K H al ds vs → RVs K H al (ds.set i d) (vs.set i v)
  | _, _, _, .nil => .nil
  | _, _, 0, .cons _ t => .cons r t
  | _, _, i + 1, .cons q t => .cons q (RVs.set r i t)
theorem RVs.snoc {ds : List D} {vs : List V} {d : D} {v : V} (h : RVs K H al ds vs) (r : RV K H al d v) : RVs K H al (ds ++ [d]) (vs ++ [v]) := h.append (.cons r .nil)
theorem RVs.reverse : ∀ {ds : List D} {vs : List V}, RVs K H al ds vs → RVs K H al ds.reverse vs.reverse
  | _, _, .nil => .nil
  | _, _, .cons r t => by simpa using (RVs.reverse t).snoc r
theorem RVs.dropLast {ds : List D} {vs : List V} (h : RVs K H al ds vs) : RVs K H al ds.dropLast vs.dropLast := by
  rw [List.dropLast_eq_take, List.dropLast_eq_take, h.length]
  exact h.take _
theorem RVs.ints : ∀ {ns : List Int} {vs : List V}, RVs K H al (ns.map D.int) vs → vs = ns.map V.int
  | [], _, .nil => rfl
  | _ :: _, _, .cons .int t => by simp [RVs.ints t]
theorem RVs.of_ints : ∀ {ns : List Int}, RVs K H al (ns.map D.int) (ns.map V.int)
  | [] => .nil
  | _ :: _ => .cons .int RVs.of_ints
theorem RVs.strs : ∀ {ns : List Str} {vs : List V}, RVs K H al (ns.map D.str) vs → vs = ns.map V.str
  | [], _, .nil => rfl
  | _ :: _, _, .cons .str t => by simp [RVs.strs t]
theorem RVs.of_strs : ∀ {ns : List Str}, RVs K H al (ns.map D.str) (ns.map V.str)
  | [] => .nil
  | _ :: _ => .cons .str RVs.of_strs
theorem RVs.bls : ∀ {ns : List Bool} {vs : List V}, RVs K H al (ns.map D.bl) vs → vs = ns.map V.bl
  | [], _, .nil => rfl
  | _ :: _, _, .cons .bl t => by simp [RVs.bls t]

/-! ### slots -/
theorem RS.get {ρ : DEnv} {σ : St} (h : RS K H al ρ σ) {i : Nat} {d : D} (e : ρ[i]? = some (some d)) : ∃ v, σ[i]? = some (some v) ∧ RV K H al d v := by
  obtain ⟨b, e', r⟩ := paired_get h e
  cases b with
  | none => exact r.elim
  | some v => exact ⟨v, e', r⟩
theorem Paired.setP {α β : Type} {F : α → β → Prop} {a : α} {b : β} (r : F a b) : ∀ {l₁ : List α} {l₂ : List β} (i : Nat), Paired F l₁ l₂ → Paired F (l₁.set i a) (l₂.set i b)
  | _, _, _, .nil => .nil
  | _, _, 0, .cons _ t => .cons r t
  | _, _, i + 1, .cons q t => .cons q (Paired.setP r i t)
theorem RS.set {ρ : DEnv} {σ : St} (h : RS K H al ρ σ) (i : Nat) {d : D} {v : V} (r : RV K H al d v) : RS K H al (ρ.set i (some d)) (σ.set i (some v)) := Paired.setP (show RSlot K H al (some d) (some v) from r) i h
theorem RS.gone {ρ : DEnv} {σ : St} (h : RS K H al ρ σ) (i : Nat) (o : Option V) : RS K H al (ρ.set i none) (σ.set i o) := Paired.setP (show RSlot K H al none o from trivial) i h

/-! ### the heap: a new object, a change -/
theorem SqT.upd_new {p : Addr} {o : HO} (hp : H p = none) {a : Addr} {vs : List V} (h : SqT K H a vs) : SqT K (upd H p o) a vs := by
  rcases h with (h | ⟨u, h⟩) | h
  · exact .inl (.inl (by rw [upd_ne (ne_of_none h hp)]; exact h))
  · exact .inl (.inr ⟨u, by rw [upd_ne (ne_of_none h hp)]; exact h⟩)
  · exact .inr h
theorem Evo.new {p : Addr} {o : HO} (hp : H p = none) : Evo K H al (upd H p o) (al ++ [p]) := ⟨⟨[p], rfl⟩, fun _ _ h => SqT.upd_new hp h⟩
/-- something untracked by the layer of data is laid -/
theorem Evo.aside {p : Addr} {o : HO} (hp : H p = none) : Evo K H al (upd H p o) al := ⟨⟨[], by simp⟩, fun _ _ h => SqT.upd_new hp h⟩
def MutO : HO → Bool
  | .lst _ => true
  | .dK _ => true
  | .dT _ => true
  | .ins _ _ _ => true
  | _ => false
theorem Evo.write {p : Addr} {u o : HO} (hp : H p = some u) (m : MutO u = true) : Evo K H al (upd H p o) al := by
  refine ⟨⟨[], by simp⟩, fun a vs h => ?_⟩
  have ne : ∀ q, MutO q = false → H a = some q → a ≠ p := fun q hq e z => by
    subst z; rw [hp] at e; cases e; rw [m] at hq; cases hq
  rcases h with (h | ⟨u, h⟩) | h
  · exact .inl (.inl (by rw [upd_ne (ne _ rfl h)]; exact h))
  · exact .inl (.inr ⟨u, by rw [upd_ne (ne _ rfl h)]; exact h⟩)
  · exact .inr h
theorem RO.mut {o : DO} {a : Addr} (h : RO K H al o a) (ns : o.isScr = false) : ∃ u, H a = some u ∧ MutO u = true := by
  cases o with
  | lst ds => obtain ⟨vs, e, _⟩ := h; exact ⟨_, e, rfl⟩
  | dk ds => obtain ⟨vs, e, _⟩ := h; exact ⟨_, e, rfl⟩
  | dt ds => obtain ⟨vs, e, _⟩ := h; exact ⟨_, e, rfl⟩
  | ins C ds => obtain ⟨dx, vs, e, _⟩ := h; exact ⟨_, e, rfl⟩
  | scr ds => cases ns
/-- an object's description is carried on where the object itself stays -/
theorem RO.evo {o : DO} {a : Addr} (h : RO K H al o a) (e : Evo K H al H1 al1) (st : ∀ u, H a = some u → H1 a = some u) : RO K H1 al1 o a := by
  cases o with
  | lst ds => obtain ⟨vs, q, r⟩ := h; exact ⟨vs, st _ q, r.evo e⟩
  | dk ds => obtain ⟨vs, q, r⟩ := h; exact ⟨vs, st _ q, Paired.mapP r fun _ _ z => z.evo e⟩
  | dt ds => obtain ⟨vs, q, r⟩ := h; exact ⟨vs, st _ q, Paired.mapP r fun _ _ z => z.evo e⟩
  | ins C ds => obtain ⟨dx, vs, q, r⟩ := h; exact ⟨dx, vs, st _ q, Paired.mapP r fun _ _ z => z.evo e⟩
  | scr ds =>
    obtain ⟨vs, q, r⟩ := h
    refine ⟨vs, ?_, r.evo e⟩
    rcases q with ⟨o, q⟩ | q
    · exact .inl ⟨o, st _ q⟩
    · exact .inr q
theorem RH.at {hh : DH} (h : RH K H al hh) {n : Nat} {o : DO} (e : hh[n]? = some o) : ∃ a, al[n]? = some a ∧ RO K H al o a := by
  obtain ⟨hn, _⟩ := List.getElem?_eq_some_iff.mp e
  have hn' : n < al.length := by rw [← h.len]; exact hn
  exact ⟨al[n], List.getElem?_eq_getElem hn', h.obj n o _ e (List.getElem?_eq_getElem hn')⟩
/-- a new object -/
theorem RH.new {hh : DH} {p : Addr} {u : HO} {o : DO} (h : RH K H al hh) (hp : H p = none) (r : RO K (upd H p u) (al ++ [p]) o p) : RH K (upd H p u) (al ++ [p]) (hh ++ [o]) := by
  have ev : Evo K H al (upd H p u) (al ++ [p]) := Evo.new hp
  refine ⟨by simp [h.len], fun n o' a e e' => ?_, fun i j a o1 o2 e1 e2 f1 f2 s1 s2 => ?_⟩
  · by_cases hn : n < hh.length
    · rw [List.getElem?_append_left hn] at e
      rw [List.getElem?_append_left (by rw [← h.len]; exact hn)] at e'
      exact (h.obj n o' a e e').evo ev fun u' q => by rw [upd_ne (ne_of_none q hp)]; exact q
    · have hn2 : n = hh.length := by
        have := (List.getElem?_eq_some_iff.mp e).1
        simp at this; omega
      subst hn2
      rw [List.getElem?_append_right (Nat.le_refl _)] at e
      rw [h.len, List.getElem?_append_right (Nat.le_refl _)] at e'
      simp at e e'
      subst e; subst e'; exact r
  · have old : ∀ (k : Nat) (o' : DO), hh[k]? = some o' → al[k]? = some p → o'.isScr = false → False := fun k o' q1 q2 s => by
      obtain ⟨u', q, _⟩ := (h.obj k o' p q1 q2).mut s
      rw [hp] at q; cases q
    have spl : ∀ (k : Nat) (o' : DO), (hh ++ [o])[k]? = some o' → (al ++ [p])[k]? = some a → (hh[k]? = some o' ∧ al[k]? = some a) ∨ (k = hh.length ∧ a = p) := fun k o' q1 q2 => by
      by_cases hk : k < hh.length
      · rw [List.getElem?_append_left hk] at q1
        rw [List.getElem?_append_left (by rw [← h.len]; exact hk)] at q2
        exact .inl ⟨q1, q2⟩
      · have hk2 : k = hh.length := by
          have := (List.getElem?_eq_some_iff.mp q1).1
          simp at this; omega
        subst hk2
        rw [h.len, List.getElem?_append_right (Nat.le_refl _)] at q2
        simp at q2
        exact .inr ⟨rfl, q2.symm⟩
    rcases spl i o1 f1 e1 with ⟨a1, b1⟩ | ⟨a1, b1⟩ <;> rcases spl j o2 f2 e2 with ⟨a2, b2⟩ | ⟨a2, b2⟩
    · exact h.uniq i j a o1 o2 b1 b2 a1 a2 s1 s2
    · subst b2; exact (old i o1 a1 b1 s1).elim
    · subst b1; exact (old j o2 a2 b2 s2).elim
    · rw [a1, a2]
/-- a changed object -/
theorem RH.write {hh : DH} {n : Nat} {p : Addr} {u : HO} {o o' : DO} (h : RH K H al hh) (e : hh[n]? = some o) (ep : al[n]? = some p) (ns : o.isScr = false) (ns' : o'.isScr = false) (r : RO K (upd H p u) al o' p) : RH K (upd H p u) al (hh.set n o') := by
  obtain ⟨w, hw, mw⟩ := (h.obj n o p e ep).mut ns
  have ev : Evo K H al (upd H p u) al := Evo.write hw mw
  have hn := (List.getElem?_eq_some_iff.mp e).1
  refine ⟨by simp [h.len], fun m o1 a q q' => ?_, fun i j a o1 o2 e1 e2 f1 f2 s1 s2 => ?_⟩
  · by_cases hm : m = n
    · subst hm
      rw [List.getElem?_set_self hn] at q
      rw [ep] at q'
      cases q; cases q'; exact r
    · rw [List.getElem?_set_ne (Ne.symm hm)] at q
      have R := h.obj m o1 a q q'
      by_cases ha : a = p
      · subst ha
        cases hs : o1.isScr with
        | false => exact (hm (h.uniq m n a o1 o q' ep q e hs ns)).elim
        | true =>
          cases o1 with
          | scr ds =>
            obtain ⟨vs, q1, r1⟩ := R
            refine ⟨vs, ?_, r1.evo ev⟩
            rcases q1 with ⟨o, q1⟩ | q1
            · rw [hw] at q1; cases q1; cases mw
            · exact .inr q1
          | _ => cases hs
      · exact R.evo ev fun u' z => by rw [upd_ne ha]; exact z
  · have back : ∀ (k : Nat) (ok : DO), (hh.set n o')[k]? = some ok → ok.isScr = false → ∃ ok' : DO, hh[k]? = some ok' ∧ ok'.isScr = false := fun k ok q s => by
      by_cases hk : k = n
      · subst hk; exact ⟨o, e, ns⟩
      · rw [List.getElem?_set_ne (Ne.symm hk)] at q; exact ⟨ok, q, s⟩
    obtain ⟨x1, y1, z1⟩ := back i o1 f1 s1
    obtain ⟨x2, y2, z2⟩ := back j o2 f2 s2
    exact h.uniq i j a x1 x2 e1 e2 y1 y2 z1 z2
end

/-! ### what comes of a run -/
structure DX where
  cls : Value
  fs : List (Str × D)
inductive Out (β : Type) where
  | val (b : β) (h : DH) | exc (x : DX) (h : DH) | bad
def Out.bind {β γ : Type} (o : Out β) (f : β → DH → Out γ) : Out γ := match o with
  | .val b h => f b h
  | .exc x h => .exc x h
  | .bad => .bad
@[simp] theorem Out.bind_val {β γ : Type} {b : β} {h : DH} {f : β → DH → Out γ} : (Out.val b h).bind f = f b h := rfl
@[simp] theorem Out.bind_exc {β γ : Type} {x : DX} {h : DH} {f : β → DH → Out γ} : (Out.exc x h).bind f = .exc x h := rfl
@[simp] theorem Out.bind_bad {β γ : Type} {f : β → DH → Out γ} : (Out.bad).bind f = .bad := rfl

section
variable (K : PySem.W.Frag)
def RX (H : Hp) (al : List Addr) (x : DX) (dd : Option Addr) : Prop :=
  (x.fs = [] ∧ dd = none) ∨ (x.fs ≠ [] ∧ ∃ a fv, dd = some a ∧ H a = some (.xd fv) ∧ Paired (KR K H al) x.fs fv)
def PostG {β γ : Type} (R : Hp → List Addr → β → γ → Prop) (WX' : Value → Option Addr → Hp → Prop) (H : Hp) (al : List Addr) (o : Out β) (Q : γ → Hp → Prop) : Prop := match o with
  | .val b h' => ∀ H' al' c, Evo K H al H' al' → RH K H' al' h' → R H' al' b c → Q c H'
  | .exc x h' => ∀ H' al' dd, Evo K H al H' al' → RH K H' al' h' → RX K H' al' x dd → WX' x.cls dd H'
  | .bad => False
abbrev EM (β : Type) := DEnv → DH → Out β
/-- a reading by the layer of data; W: the wish of exceptions -/
def tG {β γ : Type} (R : Hp → List Addr → β → γ → Prop) (W : WX) (m : EM β) : St → Hp → (γ → Hp → Prop) → Prop := fun σ H Q =>
  ∃ ρ h al, RS K H al ρ σ ∧ RH K H al h ∧ PostG K R (fun c d H' => W c d σ H') H al (m ρ h) Q
abbrev tD (W : WX) (m : EM D) : TE := tG K (RV K) W m
abbrev RB : Hp → List Addr → Bool → Bool → Prop := fun _ _ b c => b = c
abbrev tBl (W : WX) (m : EM Bool) : TT := tG K RB W m
abbrev tAr (W : WX) (m : EM (List D)) : TA := tG K (RVs K) W m
end
section
variable {K : PySem.W.Frag} {β γ δ ε : Type} {R : Hp → List Addr → β → γ → Prop} {R2 : Hp → List Addr → δ → ε → Prop} {Wx : Value → Option Addr → Hp → Prop} {H H1 : Hp} {al al1 : List Addr}
theorem PostG.evo {o : Out β} {Q : γ → Hp → Prop} (e : Evo K H al H1 al1) (p : PostG K R Wx H al o Q) : PostG K R Wx H1 al1 o Q := by
  cases o with
  | val b h => exact fun H' al' c e' rh r => p H' al' c (e.trans e') rh r
  | exc x h => exact fun H' al' c e' rh r => p H' al' c (e.trans e') rh r
  | bad => exact p
theorem PostG.imp {o : Out β} {Q Q' : γ → Hp → Prop} (p : PostG K R Wx H al o Q) (i : ∀ c H', Q c H' → Q' c H') : PostG K R Wx H al o Q' := by
  cases o with
  | val b h => exact fun H' al' c e' rh r => i _ _ (p H' al' c e' rh r)
  | exc x h => exact p
  | bad => exact p
theorem PostG.bind {o : Out β} {f : β → DH → Out δ} {Q : ε → Hp → Prop} (p : PostG K R2 Wx H al (o.bind f) Q) :
    PostG K R Wx H al o (fun c H1 => ∃ b h1 al1, Evo K H al H1 al1 ∧ RH K H1 al1 h1 ∧ R H1 al1 b c ∧ PostG K R2 Wx H1 al1 (f b h1) Q) := by
  cases o with
  | val b h => exact fun H' al' c e rh r => ⟨b, h, al', e, rh, r, PostG.evo (o := f b h) e p⟩
  | exc x h => exact p
  | bad => exact p
/-- a value is told where it stands -/
theorem PostG.val {b : β} {h : DH} {c : γ} {Q : γ → Hp → Prop} (p : PostG K R Wx H al (.val b h) Q) (rh : RH K H al h) (r : R H al b c) : Q c H := p H al c Evo.refl rh r
end
abbrev DE (X : Cx) (W : WX) (e : Expr) (m : EM D) : Prop := PE X e (tD X.K W m)
abbrev DT (X : Cx) (W : WX) (e : Expr) (m : EM Bool) : Prop := PT X e (tBl X.K W m)
abbrev DW (X : Cx) (W : WX) (e : Expr) (m : EM Bool) : Prop := PW X e (tBl X.K W m)
abbrev DA (X : Cx) (W : WX) (es : List Expr) (m : EM (List D)) : Prop := PA X es (tAr X.K W m)
theorem _root_.L2.PE.imp {X : Cx} {e : Expr} {t t' : TE} (h : PE X e t) (i : ∀ σ H Q, t' σ H Q → t σ H Q) : PE X e t' := ⟨fun pins s σ H Q I q => h.run pins s σ H Q I (i σ H Q q)⟩
theorem _root_.L2.PT.imp {X : Cx} {e : Expr} {t t' : TT} (h : PT X e t) (i : ∀ σ H Q, t' σ H Q → t σ H Q) : PT X e t' := ⟨fun pins s σ H Q I q => h.run pins s σ H Q I (i σ H Q q)⟩
theorem _root_.L2.PW.imp {X : Cx} {e : Expr} {t t' : TT} (h : PW X e t) (i : ∀ σ H Q, t' σ H Q → t σ H Q) : PW X e t' := ⟨fun wh pins s σ H Q I q => h.run wh pins s σ H Q I (i σ H Q q)⟩
theorem _root_.L2.PA.imp {X : Cx} {e : List Expr} {t t' : TA} (h : PA X e t) (i : ∀ σ H Q, t' σ H Q → t σ H Q) : PA X e t' := ⟨fun po pins s σ H Q I q => h.run po pins s σ H Q I (i σ H Q q)⟩
theorem _root_.L2.PS.imp {X : Cx} {e : Stmt} {t t' : TS} (h : PS X e t) (i : ∀ D σ H, t' D σ H → t D σ H) : PS X e t' := ⟨fun pins s σ H D I q => h.run pins s σ H D I (i D σ H q)⟩
theorem _root_.L2.PSs.imp {X : Cx} {e : List Stmt} {t t' : TS} (h : PSs X e t) (i : ∀ D σ H, t' D σ H → t D σ H) : PSs X e t' := ⟨fun pins s σ H D I q => h.run pins s σ H D I (i D σ H q)⟩
end DL

namespace DL
open PySem PySem.Spec PyProof.Rows L2

/-! ### names, constants -/
def mVar (i : Nat) : EM D := fun ρ h => match ρ.getD i none with
  | some d => .val d h
  | none => .bad
def mC {β : Type} (d : β) : EM β := fun _ h => .val d h
section
variable {X : Cx} {W : WX} {a b c e : Expr} {es : List Expr} {pos p : Pos}
theorem de_var (i : Nat) {x : Str} (hN : X.N[i]? = some x := by rfl) (hv : Vis X.env.scope x := by first | exact Or.inl rfl | exact Or.inr (Or.inl rfl) | exact Or.inr (Or.inr rfl)) (hd : (x == ("__debug__" : Str)) = false := by decide)
    (hcd : (x == ("__classdict__" : Str)) = false := by decide) : DE X W (.Name x pos) (mVar i) := by
  refine (pe_var hN hv hd hcd).imp fun σ H Q ⟨ρ, h, al, rs, rh, q⟩ => ?_
  unfold mVar at q
  cases e : ρ.getD i none with
  | none => rw [e] at q; exact q.elim
  | some d =>
    rw [e] at q
    have e' : ρ[i]? = some (some d) := by
      rw [List.getD_eq_getElem?_getD] at e
      cases e2 : ρ[i]? with
      | none => rw [e2] at e; cases e
      | some o => rw [e2] at e; simp at e; rw [e]
    obtain ⟨v, e2, r⟩ := rs.get e'
    exact ⟨v, e2, PostG.val q rh r⟩
theorem de_const {d : D} {v : V} (h : PE X e (tC v)) (r : ∀ H al, RV X.K H al d v) : DE X W e (mC d) :=
  h.imp fun σ H Q ⟨ρ, hh, al, rs, rh, q⟩ => PostG.val q rh (r H al)
theorem de_int {i j} : DE X W (.Constant (.int i) j pos) (mC (.int i)) := de_const pe_int fun _ _ => .int
theorem de_bl {i j} : DE X W (.Constant (.bool i) j pos) (mC (.bl i)) := de_const pe_bl fun _ _ => .bl
theorem de_non {j} : DE X W (.Constant .none j pos) (mC .non) := de_const pe_non fun _ _ => .non
theorem de_str {i j} : DE X W (.Constant (.str i) j pos) (mC (.str i)) := de_const pe_str fun _ _ => .str
/-- a module's name as a value; d: the data that it holds -/
theorem de_glob {x : Str} {v : V} {u : Value} {d : D} (hg : Gl X x) (hm : X.mg x = some u) (r : RelV v u) (rd : ∀ H al, RV X.K H al d v) (hd : (x == ("__debug__" : Str)) = false := by decide) : DE X W (.Name x pos) (mC d) :=
  de_const (pe_glob hg hm r hd) rd
theorem de_bltn {x : Str} {v : V} {u : Value} {d : D} (hg : Gl X x) (hm : X.mg x = none) (hv : bootBuiltins x = some u) (r : RelV v u) (rd : ∀ H al, RV X.K H al d v) (hn : x ≠ "__name__" := by decide) (hd : (x == ("__debug__" : Str)) = false := by decide) : DE X W (.Name x pos) (mC d) :=
  de_const (pe_bltn hg hm hv r hn hd) rd

/-! ### operators by values -/
def mOp {β : Type} (g : D → D → DH → Out β) (ma mb : EM D) : EM β := fun ρ h => (ma ρ h).bind fun x h1 => (mb ρ h1).bind fun y h2 => g x y h2
def mUn {β : Type} (g : D → DH → Out β) (ma : EM D) : EM β := fun ρ h => (ma ρ h).bind g
def OpC (K : PySem.W.Frag) (r : R2) (g : D → D → DH → Out D) : Prop :=
  ∀ (Wx : Value → Option Addr → Hp → Prop) (H : Hp) (al : List Addr) (h : DH) (x y : V) (d e : D) (Q : VK), RH K H al h → RV K H al d x → RV K H al e y → PostG K (RV K) Wx H al (g d e h) Q → r x y H Q
def UnC (K : PySem.W.Frag) (r : V → Hp → VK → Prop) (g : D → DH → Out D) : Prop :=
  ∀ (Wx : Value → Option Addr → Hp → Prop) (H : Hp) (al : List Addr) (h : DH) (x : V) (d : D) (Q : VK), RH K H al h → RV K H al d x → PostG K (RV K) Wx H al (g d h) Q → r x H Q
theorem op_imp {r : R2} {g : D → D → DH → Out D} {ma mb : EM D} (hc : OpC X.K r g) (σ : St) (H : Hp) (Q : VK) (q : tD X.K W (mOp g ma mb) σ H Q) : tOp r (tD X.K W ma) (tD X.K W mb) σ H Q := by
  obtain ⟨ρ, h, al, rs, rh, q⟩ := q
  refine ⟨ρ, h, al, rs, rh, (PostG.bind q).imp ?_⟩
  rintro x H1 ⟨d, h1, al1, e1, rh1, r1, q1⟩
  refine ⟨ρ, h1, al1, rs.evo e1, rh1, (PostG.bind q1).imp ?_⟩
  rintro y H2 ⟨e, h2, al2, e2, rh2, r2, q2⟩
  exact hc _ H2 al2 h2 x y d e Q rh2 (r1.evo e2) r2 q2
theorem de_op {op : Operator} {r : R2} {g : D → D → DH → Out D} {ma mb : EM D} (ho : OpR X (binaryOp op) r) (hc : OpC X.K r g) (ha : DE X W a ma) (hb : DE X W b mb) : DE X W (.BinOp a op b pos) (mOp g ma mb) :=
  (pe_op ho ha hb).imp fun σ H Q q => op_imp hc σ H Q q
theorem de_ix {r : R2} {g : D → D → DH → Out D} {ma mb : EM D} (ho : IxR X r) (hc : OpC X.K r g) (ha : DE X W a ma) (hb : DE X W b mb) (hs : PlainIx b) : DE X W (.Subscript a b pos) (mOp g ma mb) :=
  (pe_ix ho ha hb hs).imp fun σ H Q q => op_imp hc σ H Q q
theorem de_cmp {op : CmpOp} {r : R2} {g : D → D → DH → Out D} {ma mb : EM D} (ho : OpR X (compareOp op) r) (hc : OpC X.K r g) (ha : DE X W a ma) (hb : DE X W b mb) (hm : behindInMarks op b = false) : DE X W (.Compare a [op] [b] pos) (mOp g ma mb) :=
  (pe_cmpR ho ha hb hm).imp fun σ H Q q => op_imp hc σ H Q q
theorem de_un {op : UnaryOp} {r : V → Hp → VK → Prop} {g : D → DH → Out D} {ma : EM D} (ho : UnR X (unaryOp op) r) (hc : UnC X.K r g) (ha : DE X W a ma) : DE X W (.UnaryOp op a pos) (mUn g ma) := by
  refine (pe_un ho ha).imp fun σ H Q ⟨ρ, h, al, rs, rh, q⟩ => ?_
  refine ⟨ρ, h, al, rs, rh, (PostG.bind q).imp ?_⟩
  rintro x H1 ⟨d, h1, al1, e1, rh1, r1, q1⟩
  exact hc _ H1 al1 h1 x d Q rh1 r1 q1
/-- what a value is as a truth -/
def asB {β : Type} (k : Bool → DH → Out β) : D → DH → Out β := fun d h => match d with
  | .bl b => k b h
  | _ => .bad
def mB (m : EM D) : EM Bool := fun ρ h => (m ρ h).bind (asB fun b h => .val b h)
theorem test_imp {t : TE} {m : EM D} (hi : ∀ σ H Q, tD X.K W m σ H Q → t σ H Q) (σ : St) (H : Hp) (Q : Bool → Hp → Prop) (q : tBl X.K W (mB m) σ H Q) : tTest t σ H Q := by
  obtain ⟨ρ, h, al, rs, rh, q⟩ := q
  refine hi _ _ _ ⟨ρ, h, al, rs, rh, (PostG.bind q).imp ?_⟩
  rintro x H1 ⟨d, h1, al1, e1, rh1, r1, q1⟩
  cases r1 with
  | bl => exact ⟨_, rfl, PostG.val (R := RB) q1 rh1 rfl⟩
  | _ => exact q1.elim
theorem dt_cmp {op : CmpOp} {r : R2} {g : D → D → DH → Out D} {ma mb : EM D} (ho : OpR X (compareOp op) r) (hc : OpC X.K r g) (ha : DE X W a ma) (hb : DE X W b mb) (hm : behindInMarks op b = false) : DT X W (.Compare a [op] [b] pos) (mB (mOp g ma mb)) :=
  (pt_cmpR ho ha hb hm).imp fun σ H Q q => test_imp (fun σ H Q q => op_imp hc σ H Q q) σ H Q q
theorem dt_val {m : EM D} (h : DE X W e m) (he : ∀ whole, isTrue e X.env whole = (do let v ← whole; standAt e.pos; holding [v] (truthy v)) := by intro _; rfl) : DT X W e (mB m) :=
  (pt_val h he).imp fun σ H Q q => test_imp (t := tD X.K W m) (fun _ _ _ q => q) σ H Q q
/-- a < b < c -/
def mChain (g g' : D → D → DH → Out D) (ma mb mc : EM D) : EM D := fun ρ h => (ma ρ h).bind fun x h1 => (mb ρ h1).bind fun y h2 => (g x y h2).bind (asB fun k h3 => if k = true then (mc ρ h3).bind fun z h4 => g' y z h4 else .bad)

/-! ### and, or, not, if -/
def mAnd (ma mb : EM Bool) : EM Bool := fun ρ h => (ma ρ h).bind fun k h1 => if k = true then mb ρ h1 else .val false h1
def mOr (ma mb : EM Bool) : EM Bool := fun ρ h => (ma ρ h).bind fun k h1 => if k = true then .val true h1 else mb ρ h1
def mNot (ma : EM Bool) : EM Bool := fun ρ h => (ma ρ h).bind fun k h1 => .val (!k) h1
def mIf {β : Type} (mt : EM Bool) (ma mb : EM β) : EM β := fun ρ h => (mt ρ h).bind fun k h1 => if k = true then ma ρ h1 else mb ρ h1
theorem dt_bind {β γ : Type} {R : Hp → List Addr → β → γ → Prop} {mt : EM Bool} {f : DEnv → Bool → DH → Out β} {t : (St → Hp → (γ → Hp → Prop) → Prop)} {σ : St} {H : Hp} {Q : γ → Hp → Prop} (q : tG X.K R W (fun ρ h => (mt ρ h).bind (f ρ)) σ H Q)
    (k : ∀ b H1, tG X.K R W (fun ρ h => f ρ b h) σ H1 Q → Q' b H1) : tBl X.K W mt σ H Q' := by
  obtain ⟨ρ, h, al, rs, rh, q⟩ := q
  refine ⟨ρ, h, al, rs, rh, (PostG.bind q).imp ?_⟩
  rintro c H1 ⟨d, h1, al1, e1, rh1, r1, q1⟩
  have r1 : d = c := r1
  subst r1
  exact k d H1 ⟨ρ, h1, al1, rs.evo e1, rh1, q1⟩
theorem tG.val {β γ : Type} {K : PySem.W.Frag} {R : Hp → List Addr → β → γ → Prop} {b : β} {c : γ} {σ : St} {H : Hp} {Q : γ → Hp → Prop} (q : tG K R W (fun _ h => .val b h) σ H Q) (r : ∀ H al, R H al b c) : Q c H := by
  obtain ⟨ρ, h, al, rs, rh, q⟩ := q
  exact PostG.val q rh (r _ _)
variable {ta tb : EM Bool} {ma mb : EM D} {rest : List Expr}
theorem dw_and1 (ha : DT X W a ta) : DW X W (.BoolOp .And [a] pos) ta := pw_and1 ha
theorem dw_or1 (ha : DT X W a ta) : DW X W (.BoolOp .Or [a] pos) ta := pw_or1 ha
theorem dw_and (ha : DT X W a ta) (hb : DW X W (.BoolOp .And (b :: rest) pos) tb) : DW X W (.BoolOp .And (a :: b :: rest) pos) (mAnd ta tb) := by
  refine (pw_and ha hb).imp fun σ H Q q => ?_
  refine dt_bind (t := fun _ _ _ => True) q fun k H1 q1 => ?_
  cases k with
  | true => exact iteT q1
  | false => exact iteF (tG.val q1 fun _ _ => rfl)
theorem dw_or (ha : DT X W a ta) (hb : DW X W (.BoolOp .Or (b :: rest) pos) tb) : DW X W (.BoolOp .Or (a :: b :: rest) pos) (mOr ta tb) := by
  refine (pw_or ha hb).imp fun σ H Q q => ?_
  refine dt_bind (t := fun _ _ _ => True) q fun k H1 q1 => ?_
  cases k with
  | true => exact iteT (tG.val q1 fun _ _ => rfl)
  | false => exact iteF q1
theorem dt_w (h : DW X W e ta) : DT X W e ta := h.pt
theorem dt_not (ha : DT X W a ta) : DT X W (.UnaryOp .Not a pos) (mNot ta) := by
  refine (pt_not ha).imp fun σ H Q q => ?_
  exact dt_bind (t := fun _ _ _ => True) q fun k H1 q1 => tG.val q1 fun _ _ => rfl
theorem de_if (hc : DT X W c ta) (ha : DE X W a ma) (hb : DE X W b mb) : DE X W (.IfExp c a b pos) (mIf ta ma mb) := by
  refine (pe_ifExp hc ha hb).imp fun σ H Q q => ?_
  refine dt_bind (t := fun _ _ _ => True) q fun k H1 q1 => ?_
  cases k with
  | true => exact iteT q1
  | false => exact iteF q1
/-- and, or as values: all but the last are truths -/
def mAndV (ma mb : EM D) : EM D := fun ρ h => (ma ρ h).bind (asB fun k h1 => if k = true then mb ρ h1 else .val (.bl false) h1)
def mOrV (ma mb : EM D) : EM D := fun ρ h => (ma ρ h).bind (asB fun k h1 => if k = true then .val (.bl true) h1 else mb ρ h1)
def mNotV (ma : EM D) : EM D := fun ρ h => (ma ρ h).bind (asB fun k h1 => .val (.bl (!k)) h1)
theorem de_bindB {f : DEnv → Bool → DH → Out D} {σ : St} {H : Hp} {Q : VK} {Q' : Bool → Hp → Prop} (q : tD X.K W (fun ρ h => (ma ρ h).bind (asB (f ρ))) σ H Q)
    (k : ∀ b H1, tD X.K W (fun ρ h => f ρ b h) σ H1 Q → Q' b H1) : tD X.K W ma σ H (fun x H1 => ∃ c, x = .bl c ∧ Q' c H1) := by
  obtain ⟨ρ, h, al, rs, rh, q⟩ := q
  refine ⟨ρ, h, al, rs, rh, (PostG.bind q).imp ?_⟩
  rintro c H1 ⟨d, h1, al1, e1, rh1, r1, q1⟩
  cases r1 with
  | bl => exact ⟨_, rfl, k _ H1 ⟨ρ, h1, al1, rs.evo e1, rh1, q1⟩⟩
  | _ => exact q1.elim
theorem de_one {op} {m : EM D} (h : DE X W a m) : DE X W (.BoolOp op [a] pos) m := pe_one h
theorem de_and (ha : DE X W a ma) (hb : DE X W (.BoolOp .And (b :: rest) pos) mb) : DE X W (.BoolOp .And (a :: b :: rest) pos) (mAndV ma mb) := by
  refine (pe_and ha hb).imp fun σ H Q q => ?_
  refine de_bindB q fun k H1 q1 => ?_
  cases k with
  | true => exact iteT q1
  | false => exact iteF (tG.val q1 fun _ _ => .bl)
theorem de_or (ha : DE X W a ma) (hb : DE X W (.BoolOp .Or (b :: rest) pos) mb) : DE X W (.BoolOp .Or (a :: b :: rest) pos) (mOrV ma mb) := by
  refine (pe_or ha hb).imp fun σ H Q q => ?_
  refine de_bindB q fun k H1 q1 => ?_
  cases k with
  | true => exact iteT (tG.val q1 fun _ _ => .bl)
  | false => exact iteF q1
theorem de_not (ha : DE X W a ma) : DE X W (.UnaryOp .Not a pos) (mNotV ma) := by
  refine (pe_not ha).imp fun σ H Q q => ?_
  exact de_bindB q fun k H1 q1 => tG.val q1 fun _ _ => .bl

/-! ### argument lists, displays, calls -/
def mNil : EM (List D) := fun _ h => .val [] h
def mCons (ma : EM D) (mr : EM (List D)) : EM (List D) := fun ρ h => (ma ρ h).bind fun x h1 => (mr ρ h1).bind fun xs h2 => .val (x :: xs) h2
variable {mr : EM (List D)}
theorem da_nil : DA X W [] mNil := pa_nil.imp fun σ H Q ⟨ρ, h, al, rs, rh, q⟩ => PostG.val (R := RVs X.K) q rh .nil
theorem da_cons (ha : DE X W e ma) (hr : DA X W es mr) (hs : starEach (e :: es) X.env = (false, eval e X.env) :: starEach es X.env := by rfl) : DA X W (e :: es) (mCons ma mr) := by
  refine (pa_cons ha hr hs).imp fun σ H Q ⟨ρ, h, al, rs, rh, q⟩ => ?_
  refine ⟨ρ, h, al, rs, rh, (PostG.bind q).imp ?_⟩
  rintro x H1 ⟨d, h1, al1, e1, rh1, r1, q1⟩
  refine ⟨ρ, h1, al1, rs.evo e1, rh1, (PostG.bind q1).imp ?_⟩
  rintro xs H2 ⟨ds, h2, al2, e2, rh2, r2, q2⟩
  exact PostG.val (R := RVs X.K) q2 rh2 (.cons (r1.evo e2) r2)
def mTup (mr : EM (List D)) : EM D := fun ρ h => (mr ρ h).bind fun xs h1 => if xs.length ≤ sizeLine then .val (.tup xs) h1 else .bad
def mLst (mr : EM (List D)) : EM D := fun ρ h => (mr ρ h).bind fun xs h1 => if xs.length ≤ sizeLine then .val (.ref h1.length) (h1 ++ [.lst xs]) else .bad
theorem PostG.newTup {K : PySem.W.Frag} {Wx : Value → Option Addr → Hp → Prop} {H : Hp} {al : List Addr} {h : DH} {ds : List D} {vs : List V} {Q : VK} (q : PostG K (RV K) Wx H al (.val (.tup ds) h) Q) (rh : RH K H al h) (r : RVs K H al ds vs) {p : Addr} (hp : H p = none) : Q (.ref p) (upd H p (.tup vs)) := by
  have ev : Evo K H al (upd H p (.tup vs)) al := Evo.aside hp
  refine q _ al _ ev ⟨rh.len, fun n o a e1 e2 => (rh.obj n o a e1 e2).evo ev fun u z => by rw [upd_ne (ne_of_none z hp)]; exact z, rh.uniq⟩ (.tup (.inl (.inl upd_same)) (r.evo ev))
theorem PostG.newLst {K : PySem.W.Frag} {Wx : Value → Option Addr → Hp → Prop} {H : Hp} {al : List Addr} {h : DH} {ds : List D} {vs : List V} {Q : VK} (q : PostG K (RV K) Wx H al (.val (.ref h.length) (h ++ [.lst ds])) Q) (rh : RH K H al h) (r : RVs K H al ds vs) {p : Addr} (hp : H p = none) : Q (.ref p) (upd H p (.lst vs)) := by
  have ev : Evo K H al (upd H p (.lst vs)) (al ++ [p]) := Evo.new hp
  refine q _ (al ++ [p]) _ ev (rh.new hp ⟨vs, upd_same, r.evo ev⟩) (.ref ?_)
  rw [rh.len, List.getElem?_append_right (Nat.le_refl _)]
  simp
theorem de_tup {x1} (ha : DA X W es mr) : DE X W (.Tuple es x1 pos) (mTup mr) := by
  refine (pe_tup ha).imp fun σ H Q ⟨ρ, h, al, rs, rh, q⟩ => ?_
  refine ⟨ρ, h, al, rs, rh, (PostG.bind q).imp ?_⟩
  rintro xs H1 ⟨ds, h1, al1, e1, rh1, r1, q1⟩
  by_cases hz : ds.length ≤ sizeLine
  · rw [if_pos hz] at q1
    exact ⟨by rw [← r1.length]; exact hz, fun p hp => PostG.newTup q1 rh1 r1 hp⟩
  · rw [if_neg hz] at q1; exact q1.elim
theorem de_lst (ha : DA X W es mr) : DE X W (.List es pos) (mLst mr) := by
  refine (pe_lst ha).imp fun σ H Q ⟨ρ, h, al, rs, rh, q⟩ => ?_
  refine ⟨ρ, h, al, rs, rh, (PostG.bind q).imp ?_⟩
  rintro xs H1 ⟨ds, h1, al1, e1, rh1, r1, q1⟩
  by_cases hz : ds.length ≤ sizeLine
  · rw [if_pos hz] at q1
    exact ⟨by rw [← r1.length]; exact hz, fun p hp => PostG.newLst q1 rh1 r1 hp⟩
  · rw [if_neg hz] at q1; exact q1.elim
def mCall {β : Type} (F : List D → DH → Out β) (mr : EM (List D)) : EM β := fun ρ h => (mr ρ h).bind F
def CallC (K : PySem.W.Frag) (r : List V → Hp → VK → Prop) (g : List D → DH → Out D) : Prop :=
  ∀ (Wx : Value → Option Addr → Hp → Prop) (H : Hp) (al : List Addr) (h : DH) (xs : List V) (ds : List D) (Q : VK), RH K H al h → RVs K H al ds xs → PostG K (RV K) Wx H al (g ds h) Q → r xs H Q
theorem call_imp {r : List V → Hp → VK → Prop} {g : List D → DH → Out D} (hc : CallC X.K r g) (σ : St) (H : Hp) (Q : VK) (q : tD X.K W (mCall g mr) σ H Q) : tCB r (tAr X.K W mr) σ H Q := by
  obtain ⟨ρ, h, al, rs, rh, q⟩ := q
  refine ⟨ρ, h, al, rs, rh, (PostG.bind q).imp ?_⟩
  rintro xs H1 ⟨ds, h1, al1, e1, rh1, r1, q1⟩
  exact hc _ H1 al1 h1 xs ds Q rh1 r1 q1
theorem de_callB {id : String} {x : Str} {r : List V → Hp → VK → Prop} {g : List D → DH → Out D} (hr : CallR X (.builtin id) r) (hc : CallC X.K r g) (hg : Gl X x) (hm : X.mg x = none) (hv : bootBuiltins x = some (.builtin id)) (ha : DA X W (e :: es) mr) (hn : x ≠ "__name__" := by decide) (hdb : (x == ("__debug__" : Str)) = false := by decide)
    (he : starEach (e :: es) X.env = (false, eval e X.env) :: starEach es X.env := by rfl) (hpl : (backTo pos (starEach es X.env)).any (·.1) = false := by rfl) : DE X W (.Call (.Name x p) (e :: es) [] pos) (mCall g mr) :=
  (pe_callB hr hg hm hv ha hn hdb he hpl).imp fun σ H Q q => call_imp hc σ H Q q
theorem de_callTy {T : String} {x : Str} {r : List V → Hp → VK → Prop} {g : List D → DH → Out D} (hr : CallR X (.type T) r) (hc : CallC X.K r g) (hg : Gl X x) (hm : X.mg x = none) (hv : bootBuiltins x = some (.type T)) (ha : DA X W (e :: es) mr) (hn : x ≠ "__name__" := by decide) (hdb : (x == ("__debug__" : Str)) = false := by decide)
    (he : starEach (e :: es) X.env = (false, eval e X.env) :: starEach es X.env := by rfl) (hpl : (backTo pos (starEach es X.env)).any (·.1) = false := by rfl) : DE X W (.Call (.Name x p) (e :: es) [] pos) (mCall g mr) :=
  (pe_callTy hr hg hm hv ha hn hdb he hpl).imp fun σ H Q q => call_imp hc σ H Q q

def LenM (mr : EM (List D)) (n : Nat) : Prop := ∀ ρ h ds h', mr ρ h = .val ds h' → ds.length = n
theorem ln_nil : LenM mNil 0 := fun ρ h ds h' e => by cases e; rfl
theorem ln_cons {ma : EM D} {n : Nat} (hr : LenM mr n) : LenM (mCons ma mr) (n + 1) := fun ρ h ds h' e => by
  unfold mCons at e
  cases e1 : ma ρ h with
  | bad => rw [e1] at e; cases e
  | exc x h1 => rw [e1] at e; cases e
  | val d h1 =>
    rw [e1] at e
    simp only [Out.bind_val] at e
    cases e2 : mr ρ h1 with
    | bad => rw [e2] at e; cases e
    | exc x h1 => rw [e2] at e; cases e
    | val ds2 h2 =>
      rw [e2] at e
      simp only [Out.bind_val] at e
      cases e
      rw [List.length_cons, hr _ _ _ _ e2]

/-! ### defs of the text -/
def spD (K : PySem.W.Frag) (n : Nat) (F : List D → DH → Out D) : Sp := fun vs H Q E => ∃ ds h al, vs.length = n ∧ RVs K H al ds vs ∧ RH K H al h ∧ PostG K (RV K) E H al (F ds h) Q
structure FnD (P : Program) (w : World) (K : PySem.W.Frag) (mg : Str → Option Value) (base : Heap) (k : Nat) (x : Str) (ps : List Str) (F : List D → DH → Out D) : Prop where
  ex : ∃ f fd, FnOk P w K mg base (L2.CX P w) k f fd ps (spD K ps.length F) ∧ Binds K fd ps [] ∧ PySem.W.keepIn K (.ref f) = true ∧ mg x = some (.ref f)
theorem FnD.mono {P : Program} {w : World} {K : PySem.W.Frag} {mg : Str → Option Value} {base : Heap} {k j : Nat} {x : Str} {ps : List Str} {F : List D → DH → Out D} (h : FnD P w K mg base k x ps F) (hk : k ≤ j) : FnD P w K mg base j x ps F := by
  obtain ⟨f, fd, h1, h2, h3, h4⟩ := h.ex
  exact ⟨f, fd, h1.mono hk, h2, h3, h4⟩
theorem de_call {k : Nat} {x : Str} {ps : List Str} {F : List D → DH → Out D} (f : FnD X.prog X.w X.K X.mg X.base k x ps F) (hr : Room k X.A) (tk : Takes X W) (hg : Gl X x) (ha : DA X W (e :: es) mr) (hlen : LenM mr ps.length) (hdb : (x == ("__debug__" : Str)) = false := by decide)
    (he : starEach (e :: es) X.env = (false, eval e X.env) :: starEach es X.env := by rfl) (hpl : (backTo pos (starEach es X.env)).any (·.1) = false := by rfl) :
    DE X W (.Call (.Name x p) (e :: es) [] pos) (mCall F mr) := by
  obtain ⟨fa, fd, h1, h2, h3, h4⟩ := f.ex
  refine (pe_callS h1 hr hg h4 h3 h2 (fun σ => passAt tk σ) ha hdb he hpl).imp fun σ H Q ⟨ρ, h, al, rs, rh, q⟩ => ?_
  refine ⟨ρ, h, al, rs, rh, ?_⟩
  cases e0 : mr ρ h with
  | bad => unfold mCall at q; rw [e0] at q; exact q
  | exc x h' => unfold mCall at q; rw [e0] at q; exact q
  | val ds0 h0 =>
    have q' : PostG X.K (RV X.K) (fun c d H' => W c d σ H') H al (F ds0 h0) Q := by
      unfold mCall at q; rw [e0] at q; exact q
    intro H1 al1 xs e1 rh1 r1
    refine ⟨ds0, h0, al1, ?_, r1, rh1, PostG.evo e1 q'⟩
    rw [← r1.length]
    exact hlen ρ h ds0 h0 e0
end
end DL

namespace DL
open PySem PySem.Spec PyProof.Rows L2

/-! ### what comes of a statement -/
inductive SOut where
  | nx (ρ : DEnv) (h : DH) | brk (ρ : DEnv) (h : DH) | cnt (ρ : DEnv) (h : DH) | ret (d : D) (h : DH) | exc (x : DX) (ρ : DEnv) (h : DH) | bad
abbrev SM := DEnv → DH → SOut
def Out.toS {β : Type} (o : Out β) (ρ : DEnv) (f : β → DH → SOut) : SOut := match o with
  | .val b h => f b h
  | .exc x h => .exc x ρ h
  | .bad => .bad
@[simp] theorem Out.toS_val {β : Type} {b : β} {h : DH} {ρ : DEnv} {f : β → DH → SOut} : (Out.val b h).toS ρ f = f b h := rfl
@[simp] theorem Out.toS_exc {β : Type} {x : DX} {h : DH} {ρ : DEnv} {f : β → DH → SOut} : (Out.exc x h).toS ρ f = .exc x ρ h := rfl
@[simp] theorem Out.toS_bad {β : Type} {ρ : DEnv} {f : β → DH → SOut} : (Out.bad).toS ρ f = .bad := rfl
def SOut.thn (o : SOut) (f : SM) : SOut := match o with
  | .nx ρ h => f ρ h
  | o => o
@[simp] theorem SOut.thn_nx {ρ : DEnv} {h : DH} {f : SM} : (SOut.nx ρ h).thn f = f ρ h := rfl
@[simp] theorem SOut.thn_brk {ρ : DEnv} {h : DH} {f : SM} : (SOut.brk ρ h).thn f = .brk ρ h := rfl
@[simp] theorem SOut.thn_cnt {ρ : DEnv} {h : DH} {f : SM} : (SOut.cnt ρ h).thn f = .cnt ρ h := rfl
@[simp] theorem SOut.thn_ret {d : D} {h : DH} {f : SM} : (SOut.ret d h).thn f = .ret d h := rfl
@[simp] theorem SOut.thn_exc {x : DX} {ρ : DEnv} {h : DH} {f : SM} : (SOut.exc x ρ h).thn f = .exc x ρ h := rfl
@[simp] theorem SOut.thn_bad {f : SM} : SOut.bad.thn f = .bad := rfl
section
variable (K : PySem.W.Frag)
def PostS (W : WX) (H : Hp) (al : List Addr) (o : SOut) (D : Ends) : Prop := match o with
  | .nx ρ h => ∀ H' al' σ', Evo K H al H' al' → RH K H' al' h → RS K H' al' ρ σ' → D.nx σ' H'
  | .brk ρ h => ∀ H' al' σ', Evo K H al H' al' → RH K H' al' h → RS K H' al' ρ σ' → D.bk σ' H'
  | .cnt ρ h => ∀ H' al' σ', Evo K H al H' al' → RH K H' al' h → RS K H' al' ρ σ' → D.ct σ' H'
  | .ret d h => ∀ H' al' v, Evo K H al H' al' → RH K H' al' h → RV K H' al' d v → D.rt v H'
  | .exc x ρ h => ∀ H' al' σ' dd, Evo K H al H' al' → RH K H' al' h → RS K H' al' ρ σ' → RX K H' al' x dd → W x.cls dd σ' H'
  | .bad => False
def tS (W : WX) (m : SM) : TS := fun D σ H => ∃ ρ h al, RS K H al ρ σ ∧ RH K H al h ∧ PostS K W H al (m ρ h) D
end
abbrev DS (X : Cx) (W : WX) (st : Stmt) (m : SM) : Prop := PS X st (tS X.K W m)
abbrev DSs (X : Cx) (W : WX) (st : List Stmt) (m : SM) : Prop := PSs X st (tS X.K W m)
section
variable {K : PySem.W.Frag} {W : WX} {H H1 : Hp} {al al1 : List Addr}
theorem PostS.evo {o : SOut} {D : Ends} (e : Evo K H al H1 al1) (p : PostS K W H al o D) : PostS K W H1 al1 o D := by
  cases o with
  | bad => exact p
  | nx ρ h => exact fun H' al' c e' => p H' al' c (e.trans e')
  | brk ρ h => exact fun H' al' c e' => p H' al' c (e.trans e')
  | cnt ρ h => exact fun H' al' c e' => p H' al' c (e.trans e')
  | ret d h => exact fun H' al' c e' => p H' al' c (e.trans e')
  | exc x ρ h => exact fun H' al' c dd e' => p H' al' c dd (e.trans e')
theorem PostS.thn {o : SOut} {f : SM} {D : Ends} (p : PostS K W H al (o.thn f) D) : PostS K W H al o { D with nx := tS K W f D } := by
  cases o with
  | nx ρ h => exact fun H' al' σ' e rh rs => ⟨ρ, h, al', rs, rh, PostS.evo (o := f ρ h) e p⟩
  | bad => exact p
  | brk ρ h => exact p
  | cnt ρ h => exact p
  | ret d h => exact p
  | exc x ρ h => exact p
/-- an expression within a statement -/
theorem PostG.toS {β γ : Type} {R : Hp → List Addr → β → γ → Prop} {o : Out β} {ρ : DEnv} {σ : St} {f : β → DH → SOut} {D : Ends} (rs : RS K H al ρ σ) (p : PostS K W H al (o.toS ρ f) D) :
    PostG K R (fun c d H' => W c d σ H') H al o (fun c H1 => ∃ b h1 al1, Evo K H al H1 al1 ∧ RH K H1 al1 h1 ∧ R H1 al1 b c ∧ PostS K W H1 al1 (f b h1) D) := by
  cases o with
  | val b h => exact fun H' al' c e rh r => ⟨b, h, al', e, rh, r, PostS.evo (o := f b h) e p⟩
  | exc x h => exact fun H' al' dd e rh rx => p H' al' σ dd e rh (rs.evo e) rx
  | bad => exact p
end

/-! ### blocks -/
def sNil : SM := fun ρ h => .nx ρ h
def sSeq (m n : SM) : SM := fun ρ h => (m ρ h).thn n
section
variable {X : Cx} {W : WX} {a b c e : Expr} {es : List Expr} {st : Stmt} {rest sts : List Stmt} {pos p pos' : Pos} {m n : SM} {ma mb : EM D} {mt : EM Bool}
theorem dss_nil : DSs X W [] sNil := pss_nil.imp fun D σ H ⟨ρ, h, al, rs, rh, q⟩ => q H al σ Evo.refl rh rs
theorem dss_cons (h1 : DS X W st m) (h2 : DSs X W rest n) : DSs X W (st :: rest) (sSeq m n) :=
  (pss_cons h1 h2).imp fun D σ H ⟨ρ, h, al, rs, rh, q⟩ => ⟨ρ, h, al, rs, rh, PostS.thn q⟩
theorem dss_one (h1 : DS X W st m) : DSs X W [st] m := pss_one h1
theorem ds_pass : DS X W (.Pass pos) sNil := ps_pass.imp fun D σ H ⟨ρ, h, al, rs, rh, q⟩ => q H al σ Evo.refl rh rs
def sBrk : SM := fun ρ h => .brk ρ h
def sCnt : SM := fun ρ h => .cnt ρ h
theorem ds_break : DS X W (.Break pos) sBrk := ps_break.imp fun D σ H ⟨ρ, h, al, rs, rh, q⟩ => q H al σ Evo.refl rh rs
theorem ds_continue : DS X W (.Continue pos) sCnt := ps_continue.imp fun D σ H ⟨ρ, h, al, rs, rh, q⟩ => q H al σ Evo.refl rh rs
theorem ds_doc {x j} : DS X W (.Expr (.Constant (.str x) j pos) pos') sNil := ps_doc.imp fun D σ H ⟨ρ, h, al, rs, rh, q⟩ => q H al σ Evo.refl rh rs
def sExpr (ma : EM D) : SM := fun ρ h => (ma ρ h).toS ρ fun _ h1 => .nx ρ h1
theorem ds_expr (he : DE X W e ma) (hs : swapsWith e none pos.line X.env = pure false := by rfl) : DS X W (.Expr e pos) (sExpr ma) := by
  refine (ps_expr he hs).imp fun D σ H ⟨ρ, h, al, rs, rh, q⟩ => ⟨ρ, h, al, rs, rh, (PostG.toS rs q).imp ?_⟩
  rintro x H1 ⟨d, h1, al1, e1, rh1, r1, q1⟩
  exact q1 H1 al1 σ Evo.refl rh1 (rs.evo e1)
def sRet (ma : EM D) : SM := fun ρ h => (ma ρ h).toS ρ fun d h1 => .ret d h1
theorem ds_ret (he : DE X W e ma) : DS X W (.Return (some e) pos) (sRet ma) := by
  refine (ps_ret he).imp fun D σ H ⟨ρ, h, al, rs, rh, q⟩ => ⟨ρ, h, al, rs, rh, (PostG.toS rs q).imp ?_⟩
  rintro x H1 ⟨d, h1, al1, e1, rh1, r1, q1⟩
  exact q1 H1 al1 x Evo.refl rh1 r1
def sRetN : SM := fun ρ h => .ret .non h
theorem ds_retN : DS X W (.Return none pos) sRetN := ps_retN.imp fun D σ H ⟨ρ, h, al, rs, rh, q⟩ => q H al .non Evo.refl rh .non
def sIf (mt : EM Bool) (m n : SM) : SM := fun ρ h => (mt ρ h).toS ρ fun k h1 => if k = true then m ρ h1 else n ρ h1
theorem ds_if {A B : List Stmt} (hc : DT X W c mt) (ha : DSs X W A m) (hb : DSs X W B n) : DS X W (.If c A B pos) (sIf mt m n) := by
  refine (ps_if hc ha hb).imp fun D σ H ⟨ρ, h, al, rs, rh, q⟩ => ⟨ρ, h, al, rs, rh, (PostG.toS rs q).imp ?_⟩
  rintro k H1 ⟨d, h1, al1, e1, rh1, r1, q1⟩
  have r1 : d = k := r1
  subst r1
  cases d with
  | true => exact iteT ⟨ρ, h1, al1, rs.evo e1, rh1, by simpa using q1⟩
  | false => exact iteF ⟨ρ, h1, al1, rs.evo e1, rh1, by simpa using q1⟩

/-! ### targets -/
abbrev GM := D → DEnv → DH → SOut
/-- the reading of a target by the layer of data -/
def DG (X : Cx) (W : WX) (tg : Expr) (g : GM) : Prop := ∃ t : TG, PG X tg t ∧ ∀ (H : Hp) (al : List Addr) (ρ : DEnv) (σ : St) (h : DH) (d : D) (v : V) (D' : Ends), RS X.K H al ρ σ → RH X.K H al h → RV X.K H al d v → PostS X.K W H al (g d ρ h) D' →
  t v σ H D'.nx
def gSet (i : Nat) : GM := fun d ρ h => .nx (ρ.set i (some d)) h
theorem dg_name (i : Nat) {x : Str} (hN : X.N.Nodup) (hi : X.N[i]? = some x := by rfl) (hx : Loc X.env.scope x := by first | exact Or.inl rfl | exact Or.inr rfl) (hf : X.fn x = true ∨ X.env.scope.names.lookup x = some .local := by first | exact .inl rfl | exact .inr rfl | assumption) : DG X W (.Name x pos) (gSet i) :=
  ⟨_, pg_name hN hi hx hf, fun H al ρ σ h d v D' rs rh r q => q H al _ Evo.refl rh (rs.set i r)⟩
def DGs (X : Cx) (W : WX) (tgs : List Expr) (g : List D → DEnv → DH → SOut) : Prop := ∃ t : TGs, PGs X tgs t ∧ ∀ (H : Hp) (al : List Addr) (ρ : DEnv) (σ : St) (h : DH) (d : List D) (v : List V) (D' : Ends), RS X.K H al ρ σ → RH X.K H al h → RVs X.K H al d v → PostS X.K W H al (g d ρ h) D' →
  t v σ H D'.nx
def gsNil : List D → DEnv → DH → SOut := fun ds ρ h => match ds with
  | [] => .nx ρ h
  | _ => .bad
/-- simple targets alone: the first is a name (or a tuple of names) -/
def gsCons (g : GM) (gr : List D → DEnv → DH → SOut) : List D → DEnv → DH → SOut := fun ds ρ h => match ds with
  | d :: r => (g d ρ h).thn (gr r)
  | _ => .bad
theorem dgs_nil : DGs X W [] gsNil := ⟨_, pgs_nil, fun H al ρ σ h d v D' rs rh r q => by
  cases r with
  | nil => exact ⟨rfl, q H al σ Evo.refl rh rs⟩
  | cons _ _ => exact q.elim⟩
theorem dgs_cons {g : GM} {gr : List D → DEnv → DH → SOut} (h1 : DG X W e g) (h2 : DGs X W es gr) (hs : (assignEach (e :: es) X.env).map (·.2) = assign e X.env :: (assignEach es X.env).map (·.2) := by rfl) : DGs X W (e :: es) (gsCons g gr) := by
  obtain ⟨t, p1, k1⟩ := h1
  obtain ⟨u, p2, k2⟩ := h2
  refine ⟨_, pgs_cons p1 p2 hs, fun H al ρ σ h d v D' rs rh r q => ?_⟩
  cases r with
  | nil => exact q.elim
  | cons r rr =>
    rename_i d v ds vs
    refine ⟨v, vs, rfl, ?_⟩
    refine k1 H al ρ σ h d v { D' with nx := fun σ' H' => u vs σ' H' D'.nx } rs rh r ?_
    have q : PostS X.K W H al ((g d ρ h).thn (gr ds)) D' := q
    cases e : g d ρ h with
    | nx ρ' h' =>
      rw [e] at q
      exact fun H' al' σ' e' rh' rs' => k2 H' al' ρ' σ' h' ds vs D' rs' rh' (rr.evo e') (PostS.evo e' q)
    | bad => rw [e] at q; exact q
    | brk ρ' h' => rw [e] at q; exact q
    | cnt ρ' h' => rw [e] at q; exact q
    | ret d' h' => rw [e] at q; exact q
    | exc x ρ' h' => rw [e] at q; exact q
def gTupD (n : Nat) (gr : List D → DEnv → DH → SOut) : GM := fun d ρ h => match d with
  | .tup ds => if ds.length = n then gr ds ρ h else .bad
  | _ => .bad
theorem dg_tup {k : Nat} {n : Nat} {gr : List D → DEnv → DH → SOut} (hc : X.calm = true) (h : DGs X W es gr) (hn : (assignEach es X.env).length = n := by rfl) (hst : (assignEach es X.env).findIdx? (·.1) = none := by rfl) : DG X W (.Tuple es k pos) (gTupD n gr) := by
  obtain ⟨t, p1, k1⟩ := h
  refine ⟨_, pg_tup hc p1 hn hst, fun H al ρ σ h d v D' rs rh r q => ?_⟩
  cases r with
  | tup hs hr =>
    rename_i a vs ds
    have q : PostS X.K W H al (if ds.length = n then gr ds ρ h else .bad) D' := q
    by_cases hl : ds.length = n
    · rw [if_pos hl] at q
      exact ⟨a, vs, rfl, hs, by rw [← hr.length]; exact hl, k1 H al ρ σ h ds vs D' rs rh hr q⟩
    · rw [if_neg hl] at q; exact q.elim
  | _ => exact q.elim

/-! ### assignments -/
def sAsg (ma : EM D) (g : GM) : SM := fun ρ h => (ma ρ h).toS ρ fun d h1 => g d ρ h1
theorem ds_asg {tg : Expr} {g : GM} (he : DE X W e ma) (hg : DG X W tg g) (hs : swapsWithSole [tg] e pos.line X.env = pure false := by rfl) (hw : swappedStores [tg] e X.env = pure none := by rfl) (h1 : (assignEach [tg] X.env).map (·.2) = [assign tg X.env] := by rfl) : DS X W (.Assign [tg] e pos) (sAsg ma g) := by
  obtain ⟨t, p1, k1⟩ := hg
  refine (ps_asg he p1 hs hw h1).imp fun D σ H ⟨ρ, h, al, rs, rh, q⟩ => ⟨ρ, h, al, rs, rh, (PostG.toS rs q).imp ?_⟩
  rintro x H1 ⟨d, h1, al1, e1, rh1, r1, q1⟩
  exact k1 H1 al1 ρ σ h1 d x D (rs.evo e1) rh1 r1 q1
theorem ds_set (i : Nat) {x : Str} (hN : X.N.Nodup) (he : DE X W e ma) (hi : X.N[i]? = some x := by rfl) (hx : Loc X.env.scope x := by first | exact Or.inl rfl | exact Or.inr rfl) (hs : swapsWith e (some (.Name x pos')) pos.line X.env = pure false := by rfl) (hf : X.fn x = true ∨ X.env.scope.names.lookup x = some .local := by first | exact .inl rfl | exact .inr rfl | assumption) :
    DS X W (.Assign [.Name x pos'] e pos) (sAsg ma (gSet i)) := by
  refine (ps_set hN hi hx he hs hf).imp fun D σ H ⟨ρ, h, al, rs, rh, q⟩ => ⟨ρ, h, al, rs, rh, (PostG.toS rs q).imp ?_⟩
  rintro y H1 ⟨d, h1, al1, e1, rh1, r1, q1⟩
  exact q1 H1 al1 _ Evo.refl rh1 ((rs.evo e1).set i r1)
/-- a, b = e1, e2 of two local names -/
def sPar (i j : Nat) (mr : EM (List D)) : SM := fun ρ h => (mr ρ h).toS ρ fun ds h1 => match ds with
  | [d, e] => .nx ((ρ.set i (some d)).set j (some e)) h1
  | _ => .bad
theorem ds_par {i j : Nat} {mr : EM (List D)} (hp : PS X st (tPar i j (tAr X.K W mr))) : DS X W st (sPar i j mr) := by
  refine hp.imp fun D σ H ⟨ρ, h, al, rs, rh, q⟩ => ⟨ρ, h, al, rs, rh, (PostG.toS rs q).imp ?_⟩
  rintro vs H1 ⟨ds, h1, al1, e1, rh1, r1, q1⟩
  cases r1 with
  | nil => exact q1.elim
  | cons r1 t =>
    cases t with
    | nil => exact q1.elim
    | cons r2 t =>
      cases t with
      | cons _ _ => exact q1.elim
      | nil => exact ⟨_, _, rfl, q1 H1 al1 _ Evo.refl rh1 (((rs.evo e1).set i r1).set j r2)⟩
/-- x += e of a local name -/
def IpC (K : PySem.W.Frag) (r : TIp) (g : D → D → DH → Out D) : Prop := OpC K r g
def sAug (i : Nat) (g : D → D → DH → Out D) (ma : EM D) : SM := fun ρ h => match ρ.getD i none with
  | some d => (ma ρ h).toS ρ fun e h1 => (g d e h1).toS ρ fun z h2 => .nx (ρ.set i (some z)) h2
  | none => .bad
theorem getD_some {ρ : DEnv} {i : Nat} {d : D} (e : ρ.getD i none = some d) : ρ[i]? = some (some d) := by
  rw [List.getD_eq_getElem?_getD] at e
  cases e2 : ρ[i]? with
  | none => rw [e2] at e; cases e
  | some o => rw [e2] at e; simp at e; rw [e]
theorem ds_aug (i : Nat) {x : Str} {op : Operator} {ti : TIp} {g : D → D → DH → Out D} (hN : X.N.Nodup) (he : DE X W e ma) (ho : PIp X op ti) (hc : IpC X.K ti g) (hi : X.N[i]? = some x := by rfl) (hx : Loc X.env.scope x := by first | exact Or.inl rfl | exact Or.inr rfl) (hf : X.fn x = true ∨ X.env.scope.names.lookup x = some .local := by first | exact .inl rfl | exact .inr rfl | assumption) :
    DS X W (.AugAssign (.Name x pos') op e pos) (sAug i g ma) := by
  refine (ps_aug hN hi hx he ho hf).imp fun D σ H ⟨ρ, h, al, rs, rh, q⟩ => ?_
  unfold sAug at q
  cases e0 : ρ.getD i none with
  | none => rw [e0] at q; exact q.elim
  | some d =>
    rw [e0] at q
    obtain ⟨v, e2, r⟩ := rs.get (getD_some e0)
    refine ⟨v, e2, ρ, h, al, rs, rh, (PostG.toS rs q).imp ?_⟩
    rintro y H1 ⟨e, h1, al1, e1, rh1, r1, q1⟩
    refine hc (fun c d H' => W c d σ H') H1 al1 h1 v y d e _ rh1 (r.evo e1) r1 ((PostG.toS (rs.evo e1) q1).imp ?_)
    rintro z H2 ⟨f, h2, al2, e3, rh2, r2, q2⟩
    exact q2 H2 al2 _ Evo.refl rh2 (((rs.evo e1).evo e3).set i r2)

/-! ### while -/
def whileN (mt : EM Bool) (m : SM) : Nat → SM
  | 0 => fun _ _ => .bad
  | n + 1 => fun ρ h => (mt ρ h).toS ρ fun k h1 => if k = true then
      (match m ρ h1 with
        | .nx ρ2 h2 => whileN mt m n ρ2 h2
        | .cnt ρ2 h2 => whileN mt m n ρ2 h2
        | .brk ρ2 h2 => .nx ρ2 h2
        | o => o)
    else .nx ρ h1
open Classical in
/-- the run of a while, whatever its turns are -/
noncomputable def sWhile (mt : EM Bool) (m : SM) : SM := fun ρ h => if x : ∃ n, whileN mt m n ρ h ≠ .bad then whileN mt m x.choose ρ h else .bad
theorem whileN_mono {mt : EM Bool} {m : SM} : ∀ (n k : Nat) (ρ : DEnv) (h : DH), whileN mt m n ρ h ≠ .bad → whileN mt m (n + k) ρ h = whileN mt m n ρ h
  | 0, _, _, _, x => (x rfl).elim
  | n + 1, k, ρ, h, x => by
    rw [Nat.add_right_comm]
    unfold whileN at x ⊢
    cases e : mt ρ h with
    | bad => rfl
    | exc _ _ => rfl
    | val b h1 =>
      rw [e] at x
      simp only [Out.toS_val] at x ⊢
      cases b with
      | false => rfl
      | true =>
        simp only [if_pos] at x ⊢
        cases e2 : m ρ h1 with
        | nx ρ2 h2 => rw [e2] at x; exact whileN_mono n k ρ2 h2 x
        | cnt ρ2 h2 => rw [e2] at x; exact whileN_mono n k ρ2 h2 x
        | _ => rfl
theorem sWhile_of {mt : EM Bool} {m : SM} {n : Nat} {ρ : DEnv} {h : DH} (x : whileN mt m n ρ h ≠ .bad) : sWhile mt m ρ h = whileN mt m n ρ h := by
  have z : ∃ n, whileN mt m n ρ h ≠ .bad := ⟨n, x⟩
  unfold sWhile
  rw [dif_pos z]
  have y := z.choose_spec
  rcases Nat.le_total n z.choose with l | l
  · obtain ⟨k, e⟩ := Nat.exists_eq_add_of_le l
    rw [e]; exact whileN_mono n k ρ h x
  · obtain ⟨k, e⟩ := Nat.exists_eq_add_of_le l
    have := whileN_mono z.choose k ρ h y
    rw [← e] at this
    exact this.symm
theorem sWhile_eq {mt : EM Bool} {m : SM} {n : Nat} {ρ : DEnv} {h : DH} {o : SOut} (e : whileN mt m n ρ h = o) (x : o ≠ .bad) : sWhile mt m ρ h = o := by
  rw [← e] at x ⊢
  exact sWhile_of x
theorem ds_while {body : List Stmt} (hp : PassesOwn (model X.prog X.w) X.A X.env X.xe) (hc : DT X W c mt) (hb : DSs X W body m) : DS X W (.While c body [] pos) (sWhile mt m) := by
  refine (ps_while hp hc hb).imp fun D σ H ⟨ρ, h, al, rs, rh, q⟩ => ?_
  unfold sWhile at q
  by_cases z : ∃ n, whileN mt m n ρ h ≠ .bad
  · rw [dif_pos z] at q
    generalize z.choose = n at q
    refine ⟨fun n σ H => ∃ ρ h al, RS X.K H al ρ σ ∧ RH X.K H al h ∧ PostS X.K W H al (whileN mt m n ρ h) D, ⟨n, ρ, h, al, rs, rh, q⟩, ?_⟩
    rintro n σ H ⟨ρ, h, al, rs, rh, q⟩
    cases n with
    | zero => exact q.elim
    | succ n =>
      unfold whileN at q
      refine ⟨ρ, h, al, rs, rh, (PostG.toS rs q).imp ?_⟩
      rintro k H1 ⟨d, h1, al1, e1, rh1, r1, q1⟩
      have r1 : d = k := r1
      subst r1
      cases d with
      | false => exact iteF (q1 H1 al1 σ Evo.refl rh1 (rs.evo e1))
      | true =>
        refine iteT ⟨fun σ H => ∃ ρ h al, RS X.K H al ρ σ ∧ RH X.K H al h ∧ PostS X.K W H al (whileN mt m n ρ h) D, fun σ' H' z => ⟨n, Nat.lt_succ_self _, z⟩, ρ, h1, al1, rs.evo e1, rh1, ?_⟩
        simp only [if_pos] at q1
        cases e2 : m ρ h1 with
        | nx ρ2 h2 => rw [e2] at q1; exact fun H' al' σ' e' rh' rs' => ⟨ρ2, h2, al', rs', rh', PostS.evo e' q1⟩
        | cnt ρ2 h2 => rw [e2] at q1; exact fun H' al' σ' e' rh' rs' => ⟨ρ2, h2, al', rs', rh', PostS.evo e' q1⟩
        | brk ρ2 h2 => rw [e2] at q1; exact q1
        | ret d' h' => rw [e2] at q1; exact q1
        | exc x ρ' h' => rw [e2] at q1; exact q1
        | bad => rw [e2] at q1; exact q1
  · rw [dif_neg z] at q; exact q.elim
end
end DL

namespace DL
open PySem PySem.Spec PyProof.Rows L2

/-! ### what is walked -/
abbrev ItD := DH → Option (List D)
def RI (K : PySem.W.Frag) (H : Hp) (al : List Addr) (it : ItD) (J : It) : Prop :=
  ∀ (H1 : Hp) (al1 : List Addr) (h1 : DH) (ds : List D), Evo K H al H1 al1 → RH K H1 al1 h1 → it h1 = some ds → ∀ i : Nat,
    (i < ds.length → J.go i H1) ∧ (ds.length ≤ i → J.stop i H1) ∧ ∀ x H2, J.yld i H1 x H2 → ∀ d, ds[i]? = some d → Evo K H1 al1 H2 al1 ∧ RH K H2 al1 h1 ∧ RV K H2 al1 d x
def DI (X : Cx) (W : WX) (tg iter : Expr) (mi : EM ItD) : Prop := ∃ wi : TI, PI X tg iter wi ∧ ∀ σ H R, tG X.K (RI X.K) W mi σ H R → wi σ H R
/-- the list at a place -/
def listAt (h : DH) (n : Nat) : Option (List D) := match h[n]? with
  | some (.lst ds) => some ds
  | some (.scr ds) => some ds
  | _ => none
theorem RH.list {K : PySem.W.Frag} {H : Hp} {al : List Addr} {h : DH} (rh : RH K H al h) {n : Nat} {ds : List D} (e : listAt h n = some ds) : ∃ a vs, al[n]? = some a ∧ SqL K H a vs ∧ RVs K H al ds vs := by
  unfold listAt at e
  cases q : h[n]? with
  | none => rw [q] at e; cases e
  | some o =>
    rw [q] at e
    obtain ⟨a, ha, r⟩ := rh.at q
    cases o with
    | lst xs => cases e; obtain ⟨vs, h1, h2⟩ := r; exact ⟨a, vs, ha, .of h1, h2⟩
    | scr xs =>
      cases e; obtain ⟨vs, h1, h2⟩ := r
      refine ⟨a, vs, ha, ?_, h2⟩
      rcases h1 with ⟨o, h1⟩ | h1
      · exact .inl (.inr ⟨o, h1⟩)
      · exact h1 H
    | _ => cases e
section
variable {X : Cx} {W : WX} {a b c e tg : Expr} {es : List Expr} {pos p pos' : Pos} {ma mb : EM D} {mr : EM (List D)}
/-- a list: as it stands at each turn -/
def seqIt (d : D) : Option ItD := match d with
  | .ref n => some fun h => listAt h n
  | _ => none
def iSeqL (ma : EM D) : EM ItD := fun ρ h => (ma ρ h).bind fun d h1 => match d with
  | .ref n => if (listAt h1 n).isSome then .val (fun h => listAt h n) h1 else .bad
  | _ => .bad
theorem rv_inj {K : PySem.W.Frag} {H : Hp} {al : List Addr} {n : Nat} {a b : Addr} (h : al[n]? = some a) (h' : al[n]? = some b) : a = b := Option.some.inj (h.symm.trans h')
/-- two lists read at one address are one: by the heap that stands behind (the reading's facts give it) -/
theorem di_list (h : DE X W e ma) : DI X W tg e (iSeqL ma) := by
  refine ⟨_, pi_list h, fun σ H R ⟨ρ, hh, al, rs, rh, q⟩ => ⟨ρ, hh, al, rs, rh, (PostG.bind q).imp ?_⟩⟩
  rintro x H1 ⟨d, h1, al1, e1, rh1, r1, q1⟩
  cases r1 with
  | ref ha =>
    rename_i n a
    cases ez : listAt h1 n with
    | none => simp only [ez] at q1; exact q1.elim
    | some ds =>
      simp only [ez] at q1
      obtain ⟨a', vs, ha', hs, _⟩ := rh1.list ez
      obtain rfl := rv_inj (K := X.K) (H := H1) ha ha'
      refine ⟨a, rfl, ⟨vs, hs⟩, PostG.val (R := RI X.K) q1 rh1 ?_⟩
      intro H2 al2 h2 ds2 e2 rh2 q2 i
      obtain ⟨a2, vs2, ha2, hs2, hr2⟩ := rh2.list q2
      obtain rfl := rv_inj (K := X.K) (H := H1) (e2.at ha) ha2
      refine ⟨fun hi => ?_, fun hi => ⟨vs2, hs2, by rw [← hr2.length]; exact hi⟩, fun x H3 hy d hd => ?_⟩
      · obtain ⟨v, hv, _⟩ := hr2.get (List.getElem?_eq_getElem hi)
        exact ⟨vs2, v, hs2, hv⟩
      · obtain ⟨rfl, hx⟩ := hy
        obtain ⟨v, hv, rv⟩ := hr2.get hd
        have := hx vs2 hs2
        rw [hv] at this; cases this
        exact ⟨Evo.refl, rh2, rv⟩
  | _ => exact q1.elim
/-- a tuple -/
def iTupD (ma : EM D) : EM ItD := fun ρ h => (ma ρ h).bind fun d h1 => match d with
  | .tup ds => .val (fun _ => some ds) h1
  | _ => .bad
theorem di_tup (h : DE X W e ma) : DI X W tg e (iTupD ma) := by
  refine ⟨_, pi_tup h, fun σ H R ⟨ρ, hh, al, rs, rh, q⟩ => ⟨ρ, hh, al, rs, rh, (PostG.bind q).imp ?_⟩⟩
  rintro x H1 ⟨d, h1, al1, e1, rh1, r1, q1⟩
  cases r1 with
  | tup hs hr =>
    rename_i a vs ds
    refine ⟨a, rfl, ⟨vs, hs⟩, PostG.val (R := RI X.K) q1 rh1 ?_⟩
    intro H2 al2 h2 ds2 e2 rh2 q2 i
    cases q2
    have hs2 := e2.tup _ _ hs
    have hr2 := hr.evo e2
    refine ⟨fun hi => ?_, fun hi => ⟨vs, hs2, by rw [← hr2.length]; exact hi⟩, fun x H3 hy d hd => ?_⟩
    · obtain ⟨v, hv, _⟩ := hr2.get (List.getElem?_eq_getElem hi)
      exact ⟨vs, v, hs2, hv⟩
    · obtain ⟨rfl, hx⟩ := hy
      obtain ⟨v, hv, rv⟩ := hr2.get hd
      have := hx vs hs2
      rw [hv] at this; cases this
      exact ⟨Evo.refl, rh2, rv⟩
  | _ => exact q1.elim
/-- a text, sign by sign -/
def signsD (x : Str) : List D := x.cps.toList.map fun c => D.str ⟨#[c]⟩
def iStrD (ma : EM D) : EM ItD := fun ρ h => (ma ρ h).bind fun d h1 => match d with
  | .str x => .val (fun _ => some (signsD x)) h1
  | _ => .bad
theorem di_str (h : DE X W e ma) : DI X W tg e (iStrD ma) := by
  refine ⟨_, pi_str h, fun σ H R ⟨ρ, hh, al, rs, rh, q⟩ => ⟨ρ, hh, al, rs, rh, (PostG.bind q).imp ?_⟩⟩
  rintro x H1 ⟨d, h1, al1, e1, rh1, r1, q1⟩
  cases r1 with
  | str =>
    rename_i x
    refine ⟨x, rfl, PostG.val (R := RI X.K) q1 rh1 ?_⟩
    intro H2 al2 h2 ds2 e2 rh2 q2 i
    cases q2
    have hl : (signsD x).length = x.cps.size := by simp [signsD]
    refine ⟨fun hi => by rw [hl] at hi; exact hi, fun hi => by rw [hl] at hi; exact hi, fun v H3 hy d hd => ?_⟩
    obtain ⟨rfl, c, hc, rfl⟩ := hy
    unfold signsD at hd
    rw [List.getElem?_map, Array.getElem?_toList, hc] at hd
    cases hd
    exact ⟨Evo.refl, rh2, .str⟩
  | _ => exact q1.elim
/-- range(n), range(a, b) -/
def rangeD (lo : Int) (n : Nat) : List D := (List.range n).map fun i : Nat => D.int (lo + (i : Int))
def gR62 (i : Int) : Prop := -(2 ^ 62) ≤ i ∧ i < 2 ^ 62
instance (i : Int) : Decidable (gR62 i) := by unfold gR62; infer_instance
def iRng1D (mr : EM (List D)) : EM ItD := fun ρ h => (mr ρ h).bind fun ds h1 => match ds with
  | [.int j] => if gR62 j then .val (fun _ => some (rangeD 0 j.toNat)) h1 else .bad
  | _ => .bad
def iRng2D (mr : EM (List D)) : EM ItD := fun ρ h => (mr ρ h).bind fun ds h1 => match ds with
  | [.int i, .int j] => if gR62 i ∧ gR62 j then .val (fun _ => some (rangeD i (j - i).toNat)) h1 else .bad
  | _ => .bad
theorem ri_range {K : PySem.W.Frag} {H : Hp} {al : List Addr} (lo : Int) (n : Nat) : RI K H al (fun _ => some (rangeD lo n)) (Itr lo n) := by
  intro H2 al2 h2 ds2 e2 rh2 q2 i
  cases q2
  have hl : (rangeD lo n).length = n := by simp [rangeD]
  refine ⟨fun hi => by rw [hl] at hi; exact hi, fun hi => by rw [hl] at hi; exact hi, fun v H3 hy d hd => ?_⟩
  obtain ⟨rfl, rfl⟩ := hy
  have hi : i < n := by
    have := (List.getElem?_eq_some_iff.mp hd).1
    rw [hl] at this; exact this
  unfold rangeD at hd
  rw [List.getElem?_map, List.getElem?_range hi] at hd
  cases hd
  exact ⟨Evo.refl, rh2, .int⟩
theorem di_range1 (hg : Gl X "range") (hm : X.mg "range" = none) (ha : DA X W [a] mr) (hs : starEach [a] X.env = [(false, eval a X.env)] := by rfl) : DI X W tg (.Call (.Name "range" p) [a] [] pos) (iRng1D mr) := by
  refine ⟨_, pi_range1 hg hm ha hs, fun σ H R ⟨ρ, hh, al, rs, rh, q⟩ => ⟨ρ, hh, al, rs, rh, (PostG.bind q).imp ?_⟩⟩
  rintro xs H1 ⟨ds, h1, al1, e1, rh1, r1, q1⟩
  cases r1 with
  | nil => exact q1.elim
  | cons r t =>
    cases t with
    | cons _ _ => cases r <;> exact q1.elim
    | nil =>
      cases r with
      | int =>
        rename_i j
        by_cases hz : gR62 j
        · simp only [if_pos hz] at q1
          exact ⟨j, rfl, hz.1, hz.2, PostG.val (R := RI X.K) q1 rh1 (ri_range 0 _)⟩
        · simp only [if_neg hz] at q1; exact q1.elim
      | _ => exact q1.elim
theorem di_range2 (hg : Gl X "range") (hm : X.mg "range" = none) (ha : DA X W [a, b] mr) (hs : starEach [a, b] X.env = [(false, eval a X.env), (false, eval b X.env)] := by rfl) (hs2 : starEach [b] X.env = [(false, eval b X.env)] := by rfl) : DI X W tg (.Call (.Name "range" p) [a, b] [] pos) (iRng2D mr) := by
  refine ⟨_, pi_range2 hg hm ha hs hs2, fun σ H R ⟨ρ, hh, al, rs, rh, q⟩ => ⟨ρ, hh, al, rs, rh, (PostG.bind q).imp ?_⟩⟩
  rintro xs H1 ⟨ds, h1, al1, e1, rh1, r1, q1⟩
  cases r1 with
  | nil => exact q1.elim
  | cons r t =>
    cases t with
    | nil => cases r <;> exact q1.elim
    | cons r2 t2 =>
      cases t2 with
      | cons _ _ => cases r <;> cases r2 <;> exact q1.elim
      | nil =>
        cases r with
        | int =>
          cases r2 with
          | int =>
            rename_i i j
            by_cases hz : gR62 i ∧ gR62 j
            · simp only [if_pos hz] at q1
              exact ⟨i, j, rfl, ⟨hz.1.1, hz.1.2, hz.2.1, hz.2.2⟩, PostG.val (R := RI X.K) q1 rh1 (ri_range i _)⟩
            · simp only [if_neg hz] at q1; exact q1.elim
          | _ => exact q1.elim
        | _ => cases r2 <;> exact q1.elim
/-- reversed(x), x a list or a tuple -/
def iRevD (ma : EM D) : EM ItD := fun ρ h => (ma ρ h).bind fun d h1 => match d with
  | .tup ds => .val (fun _ => some ds.reverse) h1
  | .ref n => match listAt h1 n with
    | some ds => .val (fun h => if (listAt h n).map List.length = some ds.length then (listAt h n).map List.reverse else none) h1
    | none => .bad
  | _ => .bad
theorem rev_get {α : Type} {l : List α} {i : Nat} (hi : i < l.length) : l.reverse[i]? = l[l.length - 1 - i]? := by
  rw [List.getElem?_reverse hi]
theorem di_rev (hg : Gl X "reversed") (hm : X.mg "reversed" = none) (h : DE X W e ma) (hs : starEach [e] X.env = (false, eval e X.env) :: starEach [] X.env := by rfl) : DI X W tg (.Call (.Name "reversed" p) [e] [] pos) (iRevD ma) := by
  refine ⟨_, RT.pi_revA hg hm h hs, fun σ H R ⟨ρ, hh, al, rs, rh, q⟩ => ⟨ρ, hh, al, rs, rh, (PostG.bind q).imp ?_⟩⟩
  rintro x H1 ⟨d, h1, al1, e1, rh1, r1, q1⟩
  cases r1 with
  | tup hs hr =>
    rename_i a vs ds
    refine ⟨a, vs, rfl, .inr ⟨hs, PostG.val (R := RI X.K) q1 rh1 ?_⟩⟩
    intro H2 al2 h2 ds2 e2 rh2 q2 i
    cases q2
    have hs2 := e2.tup _ _ hs
    have hr2 := hr.evo e2
    have hl : ds.reverse.length = vs.length := by rw [List.length_reverse, hr2.length]
    refine ⟨fun hi => ?_, fun hi => by rw [hl] at hi; exact hi, fun x H3 hy d hd => ?_⟩
    · rw [hl] at hi
      refine ⟨hi, vs, vs[vs.length - 1 - i]'(by omega), hs2, List.getElem?_eq_getElem _⟩
    · obtain ⟨rfl, hx⟩ := hy
      have hi : i < ds.length := by
        have := (List.getElem?_eq_some_iff.mp hd).1
        rwa [List.length_reverse] at this
      rw [rev_get hi] at hd
      obtain ⟨v, hv, rv⟩ := hr2.get hd
      have := hx vs hs2
      rw [← hr2.length, hv] at this; cases this
      exact ⟨Evo.refl, rh2, rv⟩
  | ref ha =>
    rename_i n a
    cases ez : listAt h1 n with
    | none => simp only [ez] at q1; exact q1.elim
    | some ds =>
      simp only [ez] at q1
      obtain ⟨a', vs, ha', hs, hr⟩ := rh1.list ez
      obtain rfl := rv_inj (K := X.K) (H := H1) ha ha'
      refine ⟨a, vs, rfl, .inl ⟨hs, PostG.val (R := RI X.K) q1 rh1 ?_⟩⟩
      intro H2 al2 h2 ds2 e2 rh2 q2 i
      dsimp only at q2
      cases ew : listAt h2 n with
      | none => rw [ew] at q2; simp at q2
      | some ds3 =>
        rw [ew] at q2
        simp only [Option.map_some, Option.some.injEq] at q2
        by_cases hl3 : ds3.length = ds.length
        · rw [if_pos hl3] at q2
          cases q2
          obtain ⟨a2, vs2, ha2, hs2, hr2⟩ := rh2.list ew
          obtain rfl := rv_inj (K := X.K) (H := H1) (e2.at ha) ha2
          have hl : ds3.reverse.length = vs.length := by rw [List.length_reverse, hl3, hr.length]
          have hl2 : vs2.length = vs.length := by rw [← hr2.length, hl3, hr.length]
          refine ⟨fun hi => ?_, fun hi => by rw [hl] at hi; exact hi, fun x H3 hy d hd => ?_⟩
          · rw [hl] at hi
            refine ⟨hi, vs2, vs2[vs.length - 1 - i]'(by omega), hs2, List.getElem?_eq_getElem _⟩
          · obtain ⟨rfl, hx⟩ := hy
            have hi : i < ds3.length := by
              have := (List.getElem?_eq_some_iff.mp hd).1
              rwa [List.length_reverse] at this
            rw [rev_get hi] at hd
            obtain ⟨v, hv, rv⟩ := hr2.get hd
            have := hx vs2 hs2
            rw [← hl2, ← hr2.length, hv] at this; cases this
            exact ⟨Evo.refl, rh2, rv⟩
        · rw [if_neg hl3] at q2; cases q2
  | _ => exact q1.elim

/-! ### for -/
open Classical in
noncomputable def loopL (it : ItD) (all : List D) (g : GM) (m : SM) : List D → SM
  | [] => fun ρ h => if it h = some all then .nx ρ h else .bad
  | d :: r => fun ρ h => if it h = some all then ((g d ρ h).thn fun ρ1 h1 => match m ρ1 h1 with
      | .nx ρ2 h2 => loopL it all g m r ρ2 h2
      | .cnt ρ2 h2 => loopL it all g m r ρ2 h2
      | .brk ρ2 h2 => .nx ρ2 h2
      | o => o) else .bad
noncomputable def sFor (mi : EM ItD) (g : GM) (m : SM) : SM := fun ρ h => (mi ρ h).toS ρ fun it h1 => match it h1 with
  | some ds => loopL it ds g m ds ρ h1
  | none => .bad
theorem ds_for {iter : Expr} {body : List Stmt} {mi : EM ItD} {g : GM} {m : SM} (hp : PassesOwn (model X.prog X.w) X.A X.env X.xe) (hc : X.calm = true) (hi : DI X W tg iter mi) (hg : DG X W tg g) (hb : DSs X W body m)
    (hs : ∀ x, foldedSetIterable iter X.env x = pure x := by intro _; rfl) : DS X W (.For tg iter body [] pos) (sFor mi g m) := by
  obtain ⟨wi, p1, k1⟩ := hi
  obtain ⟨t, p2, k2⟩ := hg
  refine (ps_for hp hc p1 p2 hb hs).imp fun D σ H ⟨ρ, h, al, rs, rh, q⟩ => k1 _ _ _ ⟨ρ, h, al, rs, rh, (PostG.toS rs q).imp ?_⟩
  rintro J H1 ⟨it, h1, al1, e1, rh1, ri, q1⟩
  cases ez : it h1 with
  | none => simp only [ez] at q1; exact q1.elim
  | some ds =>
    simp only [ez] at q1
    refine ⟨fun i n σ H => n = ds.length - i ∧ i ≤ ds.length ∧ ∃ ρ h al, Evo X.K H1 al1 H al ∧ RS X.K H al ρ σ ∧ RH X.K H al h ∧ PostS X.K W H al (loopL it ds g m (ds.drop i) ρ h) D, ⟨ds.length, by simp, by simp, ρ, h1, al1, Evo.refl, rs.evo e1, rh1, by simpa using q1⟩, ?_⟩
    rintro i n σ2 H2 ⟨rfl, hi, ρ2, h2, al2, e2, rs2, rh2, q2⟩
    by_cases hlt : i < ds.length
    · right
      rw [List.drop_eq_getElem_cons hlt] at q2
      unfold loopL at q2
      by_cases hit : it h2 = some ds
      · rw [if_pos hit] at q2
        obtain ⟨g1, g2, g3⟩ := ri H2 al2 h2 ds e2 rh2 hit i
        refine ⟨g1 hlt, fun σ H => ∃ ρ h al, Evo X.K H1 al1 H al ∧ RS X.K H al ρ σ ∧ RH X.K H al h ∧ PostS X.K W H al (loopL it ds g m (ds.drop (i + 1)) ρ h) D, ?_, ?_⟩
        · rintro σ' H' ⟨ρ', h', al', a1, a2, a3, a4⟩
          exact ⟨ds.length - (i + 1), by omega, rfl, by omega, ρ', h', al', a1, a2, a3, a4⟩
        · intro x H3 hy
          obtain ⟨e3, rh3, rv⟩ := g3 x H3 hy ds[i] (List.getElem?_eq_getElem hlt)
          have q3 := PostS.thn (PostS.evo e3 q2)
          refine k2 H3 al2 ρ2 σ2 h2 ds[i] x { D with nx := fun σ H => tS X.K W m { D with nx := fun σ H => ∃ ρ h al, Evo X.K H1 al1 H al ∧ RS X.K H al ρ σ ∧ RH X.K H al h ∧ PostS X.K W H al (loopL it ds g m (ds.drop (i + 1)) ρ h) D, ct := fun σ H => ∃ ρ h al, Evo X.K H1 al1 H al ∧ RS X.K H al ρ σ ∧ RH X.K H al h ∧ PostS X.K W H al (loopL it ds g m (ds.drop (i + 1)) ρ h) D, bk := D.nx } σ H } (rs2.evo e3) rh3 rv ?_
          cases eg : g ds[i] ρ2 h2 with
          | nx ρ3 h3 =>
            rw [eg] at q3
            intro H4 al4 σ4 e4 rh4 rs4
            obtain ⟨ρ5, h5, al5, rs5, rh5, q5⟩ := q3 H4 al4 σ4 e4 rh4 rs4
            -- the state as it stands
            have q6 : PostS X.K W H4 al4 (match m ρ3 h3 with
              | .nx ρ2 h2 => loopL it ds g m (ds.drop (i + 1)) ρ2 h2
              | .cnt ρ2 h2 => loopL it ds g m (ds.drop (i + 1)) ρ2 h2
              | .brk ρ2 h2 => .nx ρ2 h2
              | o => o) D := by
              have z := PostS.evo (e3.trans e4) q2
              rw [eg] at z
              exact z
            refine ⟨ρ3, h3, al4, rs4, rh4, ?_⟩
            cases em : m ρ3 h3 with
            | nx ρ6 h6 => rw [em] at q6; exact fun H7 al7 σ7 e7 rh7 rs7 => ⟨ρ6, h6, al7, ((e2.trans e3).trans e4).trans e7, rs7, rh7, PostS.evo e7 q6⟩
            | cnt ρ6 h6 => rw [em] at q6; exact fun H7 al7 σ7 e7 rh7 rs7 => ⟨ρ6, h6, al7, ((e2.trans e3).trans e4).trans e7, rs7, rh7, PostS.evo e7 q6⟩
            | brk ρ6 h6 => rw [em] at q6; exact q6
            | ret d6 h6 => rw [em] at q6; exact q6
            | exc x6 ρ6 h6 => rw [em] at q6; exact q6
            | bad => rw [em] at q6; exact q6
          | bad => rw [eg] at q3; exact q3
          | brk ρ' h' => rw [eg] at q3; exact q3
          | cnt ρ' h' => rw [eg] at q3; exact q3
          | ret d' h' => rw [eg] at q3; exact q3
          | exc x ρ' h' => rw [eg] at q3; exact q3
      · rw [if_neg hit] at q2; exact q2.elim
    · left
      have hd : ds.drop i = [] := List.drop_eq_nil_of_le (by omega)
      rw [hd] at q2
      unfold loopL at q2
      by_cases hit : it h2 = some ds
      · rw [if_pos hit] at q2
        exact ⟨(ri H2 al2 h2 ds e2 rh2 hit i).2.1 (by omega), q2 H2 al2 σ2 Evo.refl rh2 rs2⟩
      · rw [if_neg hit] at q2; exact q2.elim
end
end DL

namespace DL
open PySem PySem.Spec PyProof.Rows L2

/-! ### list comprehensions -/
def wipeD (ρ : DEnv) : List Nat → DEnv
  | [] => ρ
  | v :: vs => (wipeD ρ vs).set v none
theorem RS.wipe {K : PySem.W.Frag} {H : Hp} {al : List Addr} {ρ : DEnv} {σ : St} (h : RS K H al ρ σ) : ∀ vs : List Nat, RS K H al (wipeD ρ vs) (wipe σ vs)
  | [] => h
  | v :: vs => RS.gone (RS.wipe h vs) v none
theorem wipe_set {σ : St} {i : Nat} {o : Option V} : ∀ {vs : List Nat}, i ∈ vs → L2.wipe (σ.set i o) vs = L2.wipe σ vs
  | v :: vs, h => by
    show (L2.wipe (σ.set i o) vs).set v none = (L2.wipe σ vs).set v none
    by_cases hi : i ∈ vs
    · rw [wipe_set hi]
    · have e : i = v := by
        rcases List.mem_cons.mp h with e | e
        · exact e
        · exact (hi e).elim
      subst e
      have gen : ∀ (ws : List Nat), i ∉ ws → L2.wipe (σ.set i o) ws = (L2.wipe σ ws).set i o := by
        intro ws
        induction ws with
        | nil => intro _; rfl
        | cons w ws ih =>
          intro hn
          have h1 : ¬ i = w := fun e => hn (by simp [e])
          show (L2.wipe (σ.set i o) ws).set w none = ((L2.wipe σ ws).set w none).set i o
          rw [ih fun z => hn (List.mem_cons_of_mem _ z), List.set_comm _ _ (Ne.symm (fun e => h1 e.symm) )]
      rw [gen vs hi, List.set_set]
theorem wipe_wipe {σ : St} : ∀ {us vs : List Nat}, (∀ i ∈ us, i ∈ vs) → L2.wipe (L2.wipe σ us) vs = L2.wipe σ vs
  | [], _, _ => rfl
  | u :: us, vs, h => by
    show L2.wipe ((L2.wipe σ us).set u none) vs = _
    rw [wipe_set (h u List.mem_cons_self), wipe_wipe fun i hi => h i (List.mem_cons_of_mem _ hi)]
/-- the targets of a comprehension: a name, a tuple of names -/
inductive CT where
  | nm (i : Nat) | tp (is : List Nat)
def CT.slots : CT → List Nat
  | .nm i => [i]
  | .tp is => is
def setsD : List Nat → List D → DEnv → Option DEnv
  | [], [], ρ => some ρ
  | i :: is, d :: ds, ρ => setsD is ds (ρ.set i (some d))
  | _, _, _ => none
def CT.put : CT → D → DEnv → Option DEnv
  | .nm i, d, ρ => some (ρ.set i (some d))
  | .tp is, .tup ds, ρ => setsD is ds ρ
  | _, _, _ => none
def gNames : List Nat → TGs
  | [] => gNil
  | i :: is => gCons (gName i) (gNames is)
def CT.read (K : PySem.W.Frag) : CT → TG
  | .nm i => gName i
  | .tp is => gTup K is.length (gNames is)
theorem gNames_of {K : PySem.W.Frag} {H : Hp} {al : List Addr} {vs0 : List Nat} : ∀ {is : List Nat} {ds : List D} {vs : List V} {ρ ρ' : DEnv} {σ : St} {Q : St → Hp → Prop}, (∀ i ∈ is, i ∈ vs0) → RS K H al ρ σ → RVs K H al ds vs → setsD is ds ρ = some ρ' →
    (∀ σ', L2.wipe σ' vs0 = L2.wipe σ vs0 → RS K H al ρ' σ' → Q σ' H) → gNames is vs σ H Q
  | [], [], _, ρ, ρ', σ, Q, _, rs, .nil, e, q => by cases e; exact ⟨rfl, q σ rfl rs⟩
  | i :: is, d :: ds, _, ρ, ρ', σ, Q, hi, rs, .cons r rr, e, q => by
    refine ⟨_, _, rfl, ?_⟩
    exact gNames_of (σ := σ.set i _) (fun j hj => hi j (List.mem_cons_of_mem _ hj)) (rs.set i r) rr e fun σ' h1 h2 => q σ' (by rw [h1, wipe_set (hi i List.mem_cons_self)]) h2
  | [], _ :: _, _, _, _, _, _, _, _, _, e, _ => by cases e
  | _ :: _, [], _, _, _, _, _, _, _, _, e, _ => by cases e
theorem setsD_len : ∀ {is : List Nat} {ds : List D} {ρ ρ' : DEnv}, setsD is ds ρ = some ρ' → ds.length = is.length
  | [], [], _, _, _ => rfl
  | _ :: _, _ :: _, _, _, e => congrArg (· + 1) (setsD_len e)
  | [], _ :: _, _, _, e => by cases e
  | _ :: _, [], _, _, e => by cases e
theorem CT.of {K : PySem.W.Frag} {H : Hp} {al : List Addr} {vs0 : List Nat} {c : CT} {d : D} {v : V} {ρ ρ' : DEnv} {σ : St} {Q : St → Hp → Prop} (hi : ∀ i ∈ c.slots, i ∈ vs0) (rs : RS K H al ρ σ) (r : RV K H al d v) (e : c.put d ρ = some ρ')
    (q : ∀ σ', L2.wipe σ' vs0 = L2.wipe σ vs0 → RS K H al ρ' σ' → Q σ' H) : c.read K v σ H Q := by
  cases c with
  | nm i => cases e; exact q _ (wipe_set (hi i List.mem_cons_self)) (rs.set i r)
  | tp is =>
    cases r with
    | tup hs hr => exact ⟨_, _, rfl, hs, by rw [← hr.length]; exact setsD_len e, gNames_of hi rs hr e q⟩
    | _ => cases e
open Classical in
noncomputable def lcLoop (it : ItD) (all : List D) (c : CT) (mt : EM Bool) (me : EM D) (n : Nat) (ρ : DEnv) : List D → DH → Out D
  | [], h => if it h = some all then .val (.ref n) h else .bad
  | d :: r, h => if it h = some all then (match c.put d ρ with
      | some ρ2 => match mt ρ2 h with
        | .val true h3 => match me ρ2 h3 with
          | .val y h4 => match h4[n]? with
            | some (.lst acc) => if acc.length < sizeLine then lcLoop it all c mt me n ρ r (h4.set n (.lst (acc ++ [y]))) else .bad
            | _ => .bad
          | _ => .bad
        | .val false h3 => lcLoop it all c mt me n ρ r h3
        | _ => .bad
      | none => .bad) else .bad
noncomputable def mLc (mi : EM ItD) (c : CT) (mt : EM Bool) (me : EM D) (vs : List Nat) : EM D := fun ρ h => (mi ρ h).bind fun it h1 => match it h1 with
  | some ds => lcLoop it ds c mt me h1.length (wipeD ρ vs) ds (h1 ++ [.lst []])
  | none => .bad
def W0 : WX := fun _ _ _ _ => False
theorem it_ext {K : PySem.W.Frag} : True := trivial
section
variable {X : Cx} {W : WX} {a b e tg iter elt : Expr} {es ifs : List Expr} {pos p pos' spos : Pos} {ma mb me : EM D} {mt : EM Bool} {mi : EM ItD} {c : CT} {scope : Scope} {own : List (Str × Nat)}
theorem lc_imp {wi : TI} {vs : List Nat} (ki : ∀ σ H R, tG X.K (RI X.K) W mi σ H R → wi σ H R) (hs : ∀ i ∈ c.slots, i ∈ vs) (σ : St) (H : Hp) (Q : VK) (q : tD X.K W (mLc mi c mt me vs) σ H Q) :
    tLc wi (c.read X.K) (tBl X.K W0 mt) (tD X.K W0 me) vs σ H Q := by
  obtain ⟨ρ, h, al, rs, rh, q⟩ := q
  refine ki _ _ _ ⟨ρ, h, al, rs, rh, (PostG.bind q).imp ?_⟩
  rintro J H1 ⟨it, h1, al1, e1, rh1, ri, q1⟩
  cases ez : it h1 with
  | none => simp only [ez] at q1; exact q1.elim
  | some ds =>
    simp only [ez] at q1
    intro L hL
    have ev : Evo X.K H1 al1 (upd H1 L (.lst [])) (al1 ++ [L]) := Evo.new hL
    have rhL : RH X.K (upd H1 L (.lst [])) (al1 ++ [L]) (h1 ++ [.lst []]) := rh1.new hL ⟨[], upd_same, .nil⟩
    have aL : (al1 ++ [L])[h1.length]? = some L := by
      rw [rh1.len, List.getElem?_append_right (Nat.le_refl _)]; simp
    refine ⟨fun i n H => n = ds.length - i ∧ i ≤ ds.length ∧ ∃ h al, Evo X.K (upd H1 L (.lst [])) (al1 ++ [L]) H al ∧ RH X.K H al h ∧ PostG X.K (RV X.K) (fun c d H' => W c d σ H') H al (lcLoop it ds c mt me h1.length (wipeD ρ vs) (ds.drop i) h) Q, ⟨ds.length, by simp, by simp, h1 ++ [.lst []], al1 ++ [L], Evo.refl, rhL, by simpa using PostG.evo ev q1⟩, ?_⟩
    rintro i n H2 ⟨rfl, hi, h2, al2, e2, rh2, q2⟩
    by_cases hlt : i < ds.length
    · right
      rw [List.drop_eq_getElem_cons hlt] at q2
      unfold lcLoop at q2
      by_cases hit : it h2 = some ds
      · rw [if_pos hit] at q2
        obtain ⟨g1, g2, g3⟩ := ri H2 al2 h2 ds (ev.trans e2) rh2 hit i
        refine ⟨g1 hlt, fun H => ∃ h al, Evo X.K (upd H1 L (.lst [])) (al1 ++ [L]) H al ∧ RH X.K H al h ∧ PostG X.K (RV X.K) (fun c d H' => W c d σ H') H al (lcLoop it ds c mt me h1.length (wipeD ρ vs) (ds.drop (i + 1)) h) Q, ?_, ?_⟩
        · rintro H' ⟨h', al', a1, a3, a4⟩
          exact ⟨ds.length - (i + 1), by omega, rfl, by omega, h', al', a1, a3, a4⟩
        · intro x H3 hy
          obtain ⟨e3, rh3, rv⟩ := g3 x H3 hy ds[i] (List.getElem?_eq_getElem hlt)
          have q3 := PostG.evo e3 q2
          have rsw : RS X.K H3 al2 (wipeD ρ vs) (L2.wipe σ vs) := ((rs.evo e1).evo ((ev.trans e2).trans e3)).wipe vs
          cases eg : c.put ds[i] (wipeD ρ vs) with
          | none => simp only [eg] at q3; exact q3.elim
          | some ρ2 =>
            simp only [eg] at q3
            refine CT.of (σ := L2.wipe σ vs) (vs0 := vs) hs rsw rv eg fun σ2 hw2 rs2 => ⟨by rw [hw2, wipe_wipe fun _ h => h], ?_⟩
            refine ⟨ρ2, h2, al2, rs2, rh3, ?_⟩
            cases et : mt ρ2 h2 with
            | bad => simp only [et] at q3; exact q3.elim
            | exc x h => simp only [et] at q3; exact q3.elim
            | val bb h3 =>
              rw [et] at q3
              intro H4 al4 b4 e4 rh4 hb
              have hb : bb = b4 := hb
              subst hb
              cases bb with
              | false =>
                refine iteF ⟨h3, al4, (e2.trans e3).trans e4, rh4, PostG.evo e4 q3⟩
              | true =>
                refine iteT ⟨ρ2, h3, al4, rs2.evo e4, rh4, ?_⟩
                dsimp only at q3
                cases ee : me ρ2 h3 with
                | bad => simp only [ee] at q3; exact q3.elim
                | exc x h => simp only [ee] at q3; exact q3.elim
                | val y h4 =>
                  simp only [ee] at q3
                  intro H5 al5 v5 e5 rh5 rv5
                  cases eh : h4[h1.length]? with
                  | none => simp only [eh] at q3; exact q3.elim
                  | some o =>
                    have ev5 := ((e2.trans e3).trans e4).trans e5
                    have aL5 := ev5.at aL
                    cases o with
                    | lst acc =>
                      simp only [eh] at q3
                      by_cases hz : acc.length < sizeLine
                      · rw [if_pos hz] at q3
                        obtain ⟨vacc, hv, rvs⟩ := rh5.obj _ _ _ eh aL5
                        have ew : Evo X.K H5 al5 (upd H5 L (.lst (vacc ++ [v5]))) al5 := Evo.write hv rfl
                        refine ⟨vacc, hv, by rw [← rvs.length]; exact hz, h4.set h1.length (.lst (acc ++ [y])), al5, ev5.trans ew, ?_, PostG.evo ((e4.trans e5).trans ew) q3⟩
                        exact rh5.write eh aL5 rfl rfl ⟨_, upd_same, (rvs.snoc rv5).evo ew⟩
                      · rw [if_neg hz] at q3; exact q3.elim
                    | _ => simp only [eh] at q3; exact q3.elim
      · rw [if_neg hit] at q2; exact q2.elim
    · left
      have hd : ds.drop i = [] := List.drop_eq_nil_of_le (by omega)
      rw [hd] at q2
      unfold lcLoop at q2
      by_cases hit : it h2 = some ds
      · rw [if_pos hit] at q2
        exact ⟨(ri H2 al2 h2 ds (ev.trans e2) rh2 hit i).2.1 (by omega), PostG.val q2 rh2 (.ref (e2.at aL))⟩
      · rw [if_neg hit] at q2; exact q2.elim
/-- the targets in a block -/
def DC (X : Cx) (scope : Scope) (tg : Expr) (c : CT) : Prop := ∀ (s : Shared) (H : Hp) (C : Addr) (cl : List (Str × Addr)) (fp : List Addr), PG (X.blk s H scope (compEnvC scope cl C X.env) fp) tg (c.read X.K)
theorem dc_name (i : Nat) {x : Str} (hN : X.N.Nodup) (hi : X.N[i]? = some x := by rfl) (hx : ∀ (s : Shared) (H : Hp) (C : Addr) (cl : List (Str × Addr)) (fp : List Addr), Loc (X.blk s H scope (compEnvC scope cl C X.env) fp).env.scope x := by intros; first | exact Or.inl rfl | exact Or.inr rfl) (hf : ∀ (s : Shared) (H : Hp) (C : Addr) (cl : List (Str × Addr)) (fp : List Addr), (X.blk s H scope (compEnvC scope cl C X.env) fp).fn x = true ∨ (X.blk s H scope (compEnvC scope cl C X.env) fp).env.scope.names.lookup x = some .local := by intros; first | exact .inl rfl | exact .inr rfl) : DC X scope (.Name x pos) (.nm i) :=
  fun s H C cl fp => pg_name (X := X.blk s H scope (compEnvC scope cl C X.env) fp) (i := i) hN hi (hx s H C cl fp) (hf s H C cl fp)
def DCs (X : Cx) (scope : Scope) (tgs : List Expr) (is : List Nat) : Prop := ∀ (s : Shared) (H : Hp) (C : Addr) (cl : List (Str × Addr)) (fp : List Addr), PGs (X.blk s H scope (compEnvC scope cl C X.env) fp) tgs (gNames is)
theorem dcs_nil : DCs X scope [] [] := fun _ _ _ _ _ => pgs_nil
theorem dcs_cons (i : Nat) {x : Str} {is : List Nat} (hN : X.N.Nodup) (h2 : DCs X scope es is) (hs : ∀ (s : Shared) (H : Hp) (C : Addr) (cl : List (Str × Addr)) (fp : List Addr), (assignEach (.Name x pos :: es) (X.blk s H scope (compEnvC scope cl C X.env) fp).env).map (·.2) = assign (.Name x pos) (X.blk s H scope (compEnvC scope cl C X.env) fp).env :: (assignEach es (X.blk s H scope (compEnvC scope cl C X.env) fp).env).map (·.2) := by intros; rfl)
    (hi : X.N[i]? = some x := by rfl) (hx : ∀ (s : Shared) (H : Hp) (C : Addr) (cl : List (Str × Addr)) (fp : List Addr), Loc (X.blk s H scope (compEnvC scope cl C X.env) fp).env.scope x := by intros; first | exact Or.inl rfl | exact Or.inr rfl) (hf : ∀ (s : Shared) (H : Hp) (C : Addr) (cl : List (Str × Addr)) (fp : List Addr), (X.blk s H scope (compEnvC scope cl C X.env) fp).fn x = true ∨ (X.blk s H scope (compEnvC scope cl C X.env) fp).env.scope.names.lookup x = some .local := by intros; first | exact .inl rfl | exact .inr rfl) : DCs X scope (.Name x pos :: es) (i :: is) :=
  fun s H C cl fp => pgs_cons (pg_name (X := X.blk s H scope (compEnvC scope cl C X.env) fp) (i := i) hN hi (hx s H C cl fp) (hf s H C cl fp)) (h2 s H C cl fp) (hs s H C cl fp)
theorem dc_tup {k : Nat} {is : List Nat} (hc : X.calm = true) (h : DCs X scope es is) (hn : ∀ (s : Shared) (H : Hp) (C : Addr) (cl : List (Str × Addr)) (fp : List Addr), (assignEach es (X.blk s H scope (compEnvC scope cl C X.env) fp).env).length = is.length := by intros; rfl) (hst : ∀ (s : Shared) (H : Hp) (C : Addr) (cl : List (Str × Addr)) (fp : List Addr), (assignEach es (X.blk s H scope (compEnvC scope cl C X.env) fp).env).findIdx? (·.1) = none := by intros; rfl) : DC X scope (.Tuple es k pos) (.tp is) :=
  fun s H C cl fp => pg_tup hc (h s H C cl fp) (hn s H C cl fp) (hst s H C cl fp)
/-- tests of a comprehension -/
def DTs (X : Cx) (ifs : List Expr) (mt : EM Bool) : Prop := PTs X ifs (tBl X.K W0 mt)
theorem _root_.L2.PTs.imp {X : Cx} {e : List Expr} {t t' : TT} (h : PTs X e t) (i : ∀ σ H Q, t' σ H Q → t σ H Q) : PTs X e t' := ⟨fun pins s σ H Q I q => h.run pins s σ H Q I (i σ H Q q)⟩
theorem dts_nil : DTs X [] (mC true) := pts_nil.imp fun σ H Q ⟨ρ, h, al, rs, rh, q⟩ => PostG.val (R := RB) q rh rfl
theorem dts_one (h : DT X W0 e mt) : DTs X [e] mt := pts_one h
theorem de_lc (hc : X.calm = true) (hN : X.N.Nodup) (hi : DI X W tg iter mi) (ok : BlkOk X.N X.env.scope scope own) (hg : DC X scope tg c)
    (ht : ∀ (s : Shared) (H : Hp) (C : Addr) (cl : List (Str × Addr)) (fp : List Addr), DTs (X.blk s H scope (compEnvC scope cl C X.env) fp) ifs mt)
    (he : ∀ (s : Shared) (H : Hp) (C : Addr) (cl : List (Str × Addr)) (fp : List Addr), DE (X.blk s H scope (compEnvC scope cl C X.env) fp) W0 elt me) (hsl : ∀ i ∈ c.slots, i ∈ own.map (·.2)) (hs : ∀ x, foldedSetIterable iter X.env x = pure x := by intro _; rfl) :
    DE X W (.ListComp elt [⟨tg, iter, ifs, 0⟩] scope pos) (mLc mi c mt me (own.map (·.2))) := by
  obtain ⟨wi, p1, k1⟩ := hi
  exact (pe_lc (tt := tBl X.K W0 mt) (te := tD X.K W0 me) hc hN p1 ok hg (fun s H C cl fp => ht s H C cl fp) (fun s H C cl fp => he s H C cl fp) hs).imp fun σ H Q q => lc_imp k1 hsl σ H Q q
theorem ds_setLc (i : Nat) {y : Str} {py : Pos} (hc : X.calm = true) (hN : X.N.Nodup) (hi : DI X W tg iter mi) (ok : BlkOk X.N X.env.scope scope own) (hg : DC X scope tg c)
    (ht : ∀ (s : Shared) (H : Hp) (C : Addr) (cl : List (Str × Addr)) (fp : List Addr), DTs (X.blk s H scope (compEnvC scope cl C X.env) fp) ifs mt)
    (he : ∀ (s : Shared) (H : Hp) (C : Addr) (cl : List (Str × Addr)) (fp : List Addr), DE (X.blk s H scope (compEnvC scope cl C X.env) fp) W0 elt me) (hsl : ∀ i ∈ c.slots, i ∈ own.map (·.2))
    (hsw : swapsWith (.ListComp elt [⟨tg, iter, ifs, 0⟩] scope pos) (some (.Name y py)) spos.line X.env = pure true) (hy : X.N[i]? = some y := by rfl) (hyl : X.env.scope.names.lookup y = some .local := by rfl) (hs : ∀ x, foldedSetIterable iter X.env x = pure x := by intro _; rfl) :
    DS X W (.Assign [.Name y py] (.ListComp elt [⟨tg, iter, ifs, 0⟩] scope pos) spos) (sAsg (mLc mi c mt me (own.map (·.2))) (gSet i)) := by
  obtain ⟨wi, p1, k1⟩ := hi
  refine (ps_setLc (tt := tBl X.K W0 mt) (te := tD X.K W0 me) hc hN hy hyl hsw p1 ok hg (fun s H C cl fp => ht s H C cl fp) (fun s H C cl fp => he s H C cl fp) hs).imp fun D σ H ⟨ρ, h, al, rs, rh, q⟩ => lc_imp (W := W) k1 hsl σ H (fun x H1 => gName i x σ H1 D.nx) ⟨ρ, h, al, rs, rh, (PostG.toS rs q).imp ?_⟩
  rintro y H1 ⟨d, h1, al1, e1, rh1, r1, q1⟩
  exact q1 H1 al1 _ Evo.refl rh1 ((rs.evo e1).set i r1)
end

/-! ### defs -/
def startD (N : List Str) (ds : List D) : DEnv := ds.map some ++ List.replicate (N.length - ds.length) none
theorem RVs.somes {K : PySem.W.Frag} {H : Hp} {al : List Addr} : ∀ {ds : List D} {vs : List V}, RVs K H al ds vs → RS K H al (ds.map some) (vs.map some)
  | _, _, .nil => .nil
  | _, _, .cons r t => .cons r (RVs.somes t)
theorem RS.start {K : PySem.W.Frag} {H : Hp} {al : List Addr} {N : List Str} {ds : List D} {vs : List V} (r : RVs K H al ds vs) : RS K H al (startD N ds) (start N vs) := by
  have h2 : ∀ n, RS K H al (List.replicate n none) (List.replicate n none) := fun n => by
    induction n with
    | zero => exact .nil
    | succ n ih => exact .cons trivial ih
  have app : ∀ {l1 l3 : DEnv} {l2 l4 : St}, RS K H al l1 l2 → RS K H al l3 l4 → RS K H al (l1 ++ l3) (l2 ++ l4) := fun {l1 l3 l2 l4} a b => by
    induction a with
    | nil => exact b
    | cons h _ ih => exact .cons h ih
  unfold startD L2.start
  rw [r.length]
  exact app (RVs.somes r) (h2 _)
/-- what a body's end is for the caller -/
def SOut.fin : SOut → Out D
  | .nx _ h => .val .non h
  | .ret d h => .val d h
  | .exc x _ h => .exc x h
  | _ => .bad
/-- one outcome serves for another: garbage may be dropped, places renamed -/
def Serves (o o' : Out D) : Prop := ∀ (K : PySem.W.Frag) (Wx : Value → Option Addr → Hp → Prop) (H : Hp) (al : List Addr) (Q : VK), PostG K (RV K) Wx H al o Q → PostG K (RV K) Wx H al o' Q
theorem Serves.refl {o : Out D} : Serves o o := fun _ _ _ _ _ q => q
theorem Serves.bad {o : Out D} : Serves .bad o := fun _ _ _ _ _ q => q.elim
theorem Serves.of_eq {o o' : Out D} (e : o' = o) : Serves o o' := by subst e; exact .refl
section
variable {P : Program} {w : World} {K : PySem.W.Frag} {mg : Str → Option Value} {base : Heap}
theorem fnok_of {x qual : Str} {st : Stmt} {f : Addr} {fd : FuncData} {N ps : List Str} {k : Nat} {m : SM} {F : List D → DH → Out D} (Fu : Fun K x qual st f fd) (S : FnScope N ps (defScope st))
    (hbody : ∀ (cdv : Value) (A : Around) (outer : List Env) (s : Shared) (H : Hp) (E : XK), Room k (A.deeper (envOfC qual (defScope st) s.heap.objs.size f cdv)) →
      Takes (cxOf (L2.CX P w) P w K mg base N qual (defScope st) f cdv A outer s H E) (fun c d _ H' => E c d H') →
      PassesOwn (model P w) (cxOf (L2.CX P w) P w K mg base N qual (defScope st) f cdv A outer s H E).A (cxOf (L2.CX P w) P w K mg base N qual (defScope st) f cdv A outer s H E).env (cxOf (L2.CX P w) P w K mg base N qual (defScope st) f cdv A outer s H E).xe →
      DSs (cxOf (L2.CX P w) P w K mg base N qual (defScope st) f cdv A outer s H E) (fun c d _ H' => E c d H') (defBody st) m)
    (hF : ∀ ds h, ds.length = ps.length → Serves (F ds h) (m (startD N ds) h).fin) : FnOk P w K mg base (L2.CX P w) (k + 1) f fd ps (spD K ps.length F) := by
  refine Fu.okX S (fun vs H Q E h => h.choose_spec.choose_spec.choose_spec.1) (fun cdv A outer s H vs Q E hr h => ?_)
  obtain ⟨ds, hh, al, hl, r, rh, q⟩ := h
  have hl' : ds.length = ps.length := by rw [r.length]; exact hl
  refine ⟨_, hbody cdv A outer s H E hr (takes_of rfl rfl rfl rfl) (passes_of rfl), startD N ds, hh, al, RS.start r, rh, ?_⟩
  have q2 := hF ds hh hl' K _ H al Q q
  cases e : m (startD N ds) hh with
  | nx ρ h' => rw [e] at q2; exact fun H' al' σ' e' rh' _ => q2 H' al' .non e' rh' .non
  | ret d h' => rw [e] at q2; exact q2
  | exc x ρ h' => rw [e] at q2; exact fun H' al' σ' dd e' rh' _ rx => q2 H' al' dd e' rh' rx
  | bad => rw [e] at q2; exact q2.elim
  | brk ρ h' => rw [e] at q2; exact q2.elim
  | cnt ρ h' => rw [e] at q2; exact q2.elim
theorem fnd_of {y : Str} {f : Addr} {fd : FuncData} {ps : List Str} {k : Nat} {F : List D → DH → Out D} (hm : mg y = some (.ref f)) (hb : Binds K fd ps []) (kp : PySem.W.keepIn K (.ref f) = true) (h : FnOk P w K mg base (L2.CX P w) k f fd ps (spD K ps.length F)) : FnD P w K mg base k y ps F :=
  ⟨⟨f, fd, h, hb, kp, hm⟩⟩
/-- the law's own promise -/
def spLaw (K : PySem.W.Frag) : Sp := fun vs H Q _ => ∃ (a : Addr) (ns : List Int), vs = [.ref a] ∧ SqL K H a (ns.map V.int) ∧ Only H ∧ ns.length ≤ 63 ∧ ∀ H', Q (.bl true) H'
theorem law_of {f : Addr} {fd : FuncData} {x : Str} {k : Nat} {F : List D → DH → Out D} (h : FnOk P w K mg base (L2.CX P w) k f fd [x] (spD K 1 F)) (hl : ∀ ns : List Int, ns.length ≤ 63 → ∃ h', F [.ref 0] [.scr (ns.map D.int)] = .val (.bl true) h') : FnOk P w K mg base (L2.CX P w) k f fd [x] (spLaw K) := by
  refine h.imp fun vs H Q E q => ?_
  obtain ⟨a, ns, rfl, hS, ho, hn, q⟩ := q
  obtain ⟨h', e⟩ := hl ns hn
  have r : RO K H [a] (.scr (ns.map D.int)) a := by
    refine ⟨ns.map V.int, ?_, RVs.of_ints⟩
    rcases hS with (hS | ⟨o, hS⟩) | hS
    · rcases ho a with z | ⟨o, xs, z⟩
      · rw [z] at hS; cases hS
      · rw [z] at hS; cases hS
    · exact .inl ⟨o, hS⟩
    · exact .inr fun H' => .inr hS
  refine ⟨[.ref 0], [.scr (ns.map D.int)], [a], rfl, .cons (.ref rfl) .nil, ⟨rfl, fun n o b e1 e2 => ?_, fun i j b o o' e1 e2 e3 e4 s1 s2 => ?_⟩, ?_⟩
  · cases n with
    | zero => cases e1; cases e2; exact r
    | succ n => cases e2
  · cases i with
    | zero => cases e3; cases s1
    | succ i => cases e1
  · rw [e]
    intro H' al' v _ _ rv
    cases rv
    exact q H'
end
/-- at the end of a call: what was made there and is not handed on is let go -/
theorem Serves.drop {d : D} {h j : DH} (hd : ∀ (K : PySem.W.Frag) (H : Hp) (al al' : List Addr) (v : V), al.length = h.length → RV K H (al ++ al') d v → RV K H al d v) (hj : ∀ (K : PySem.W.Frag) (H : Hp) (al al' : List Addr) (n : Nat) (o : DO) (a : Addr), al.length = h.length → h[n]? = some o → RO K H (al ++ al') o a → RO K H al o a) : True := trivial
end DL

namespace DL
open PySem PySem.Spec PyProof.Rows L2

section
variable {X : Cx} {K : PySem.W.Frag}
theorem ite_post {β γ : Type} {R : Hp → List Addr → β → γ → Prop} {Wx : Value → Option Addr → Hp → Prop} {H : Hp} {al : List Addr} {c : Prop} {inst : Decidable c} {o : Out β} {Q : γ → Hp → Prop} (q : PostG K R Wx H al (if c then o else .bad) Q) : c ∧ PostG K R Wx H al o Q := by
  by_cases h : c
  · rw [if_pos h] at q; exact ⟨h, q⟩
  · rw [if_neg h] at q; exact q.elim
theorem lst_of {H : Hp} {al : List Addr} {h : DH} (rh : RH K H al h) {n : Nat} {a : Addr} {xs : List D} (e : h[n]? = some (.lst xs)) (ha : al[n]? = some a) : ∃ vs, H a = some (.lst vs) ∧ RVs K H al xs vs := rh.obj _ _ _ e ha
theorem list_of {H : Hp} {al : List Addr} {h : DH} (rh : RH K H al h) {n : Nat} {a : Addr} {xs : List D} (e : listAt h n = some xs) (ha : al[n]? = some a) : ∃ vs, SqL K H a vs ∧ RVs K H al xs vs := by
  obtain ⟨a', vs, h1, h2, h3⟩ := rh.list e
  obtain rfl := rv_inj (K := K) (H := H) ha h1
  exact ⟨vs, h2, h3⟩
theorem RVs.nil_of {H : Hp} {al : List Addr} {xs : List D} {vs : List V} (r : RVs K H al xs vs) : xs = [] ↔ vs = [] := by
  cases r with
  | nil => simp
  | cons _ _ => simp

/-! ### + - * // % ** -/
def gAdd (d e : D) (h : DH) : Out D := match d, e with
  | .int i, .int j => .val (.int (i + j)) h
  | .str a, .str b => if a.length + b.length ≤ sizeLine then .val (.str (a ++ b)) h else .bad
  | .tup xs, .tup ys => if xs.length + ys.length ≤ sizeLine then .val (.tup (xs ++ ys)) h else .bad
  | .ref n, .ref m => match h[n]?, h[m]? with
    | some (.lst xs), some (.lst ys) => if xs.length + ys.length ≤ sizeLine then .val (.ref h.length) (h ++ [.lst (xs ++ ys)]) else .bad
    | _, _ => .bad
  | _, _ => .bad
def rAddU (K : PySem.W.Frag) : R2 := fun x y H Q => (rI0 (fun i j => .int (i + j)) x y H Q ∨ ∃ i j, x = .str i ∧ y = .str j ∧ i.length + j.length ≤ sizeLine ∧ Q (.str (i ++ j)) H) ∨ (rCat x y H Q ∨ rCatA K x y H Q)
theorem or_add : OpR X (binaryOp .Add) (rAddU X.K) := (op_add.or op_add_str).or (op_cat.or op_catA)
theorem oc_add : OpC K (rAddU K) gAdd := by
  intro Wx H al h x y d e Q rh r1 r2 q
  unfold gAdd at q
  split at q
  · cases r1; cases r2; exact .inl (.inl ⟨_, _, rfl, rfl, PostG.val q rh .int⟩)
  · cases r1; cases r2; obtain ⟨hz, q⟩ := ite_post q; exact .inl (.inr ⟨_, _, rfl, rfl, hz, PostG.val q rh .str⟩)
  · cases r1 with | tup hs hr => cases r2 with | tup hs2 hr2 =>
    obtain ⟨hz, q⟩ := ite_post q
    refine .inr (.inr ⟨_, _, _, _, rfl, rfl, hs, hs2, by rw [← hr.length, ← hr2.length]; exact hz, fun e => ?_, fun _ e => ?_, fun _ _ p hp => PostG.newTup q rh (hr.append hr2) hp⟩)
    · have e' := hr.nil_of.mpr e; subst e'; exact PostG.val q rh (.tup hs2 (by simpa using hr2))
    · have e' := hr2.nil_of.mpr e; subst e'; exact PostG.val q rh (.tup hs (by simpa using hr))
  · cases r1 with | ref ha => cases r2 with | ref hb =>
    split at q
    · rename_i e1 e2
      obtain ⟨hz, q⟩ := ite_post q
      obtain ⟨vs, h1, r1⟩ := lst_of rh e1 ha
      obtain ⟨ws, h2, r2⟩ := lst_of rh e2 hb
      exact .inr (.inl ⟨_, _, vs, ws, rfl, rfl, h1, h2, by rw [← r1.length, ← r2.length]; exact hz, fun p hp => PostG.newLst q rh (r1.append r2) hp⟩)
    · exact q.elim
  · exact q.elim
open Classical in
/-- an operator of two whole numbers -/
noncomputable def gII (C : Int → Int → Prop) (f : Int → Int → D) (d e : D) (h : DH) : Out D := match d, e with
  | .int i, .int j => if C i j then .val (f i j) h else .bad
  | _, _ => .bad
theorem oc_II {C C' : Int → Int → Prop} {f : Int → Int → D} {g : Int → Int → V} (hf : ∀ i j H al, RV K H al (f i j) (g i j)) (hC : ∀ i j, C i j → C' i j) : OpC K (rI C' g) (gII C f) := by
  intro Wx H al h x y d e Q rh r1 r2 q
  unfold gII at q
  split at q
  · cases r1; cases r2; obtain ⟨hz, q⟩ := ite_post q; exact ⟨_, _, rfl, rfl, hC _ _ hz, PostG.val q rh (hf _ _ _ _)⟩
  · exact q.elim
def gI0 (f : Int → Int → D) (d e : D) (h : DH) : Out D := match d, e with
  | .int i, .int j => .val (f i j) h
  | _, _ => .bad
theorem oc_I0 {f : Int → Int → D} {g : Int → Int → V} (hf : ∀ i j H al, RV K H al (f i j) (g i j)) : OpC K (rI0 g) (gI0 f) := by
  intro Wx H al h x y d e Q rh r1 r2 q
  unfold gI0 at q
  split at q
  · cases r1; cases r2; exact ⟨_, _, rfl, rfl, PostG.val q rh (hf _ _ _ _)⟩
  · exact q.elim
abbrev gSub := gI0 fun i j => .int (i - j)
theorem oc_sub : OpC K (rI0 fun i j => .int (i - j)) gSub := oc_I0 fun _ _ _ _ => .int
/-- one factor is small, or both together are below a million bits -/
def CMulU (i j : Int) : Prop := CMul i j ∨ CMulW i j
theorem op_mulU : OpR X (binaryOp .Mult) (rI CMulU fun i j => .int (i * j)) := opI fun _ _ _ _ _ _ _ hc q => mul_int q (hc.elim (fun z => z.ok) fun z => z.ok)
noncomputable abbrev gMul := gII CMulU fun i j => .int (i * j)
theorem oc_mul : OpC K (rI CMulU fun i j => .int (i * j)) gMul := oc_II (fun _ _ _ _ => .int) fun _ _ h => h
/-- // by any number but 0, below 2 ^ 9000 -/
def CDivG (_ j : Int) : Prop := j ≠ 0 ∧ j.natAbs.log2 < 9000
theorem op_fdivG : OpR X (binaryOp .FloorDiv) (rI CDivG fun i j => .int (i.fdiv j)) := opI fun _ _ _ _ _ _ _ hc q => floordiv_int hc.1 q (.inl (PyProof.noPylong_of_log2 hc.2))
noncomputable abbrev gFdiv := gII CDivG fun i j => .int (i.fdiv j)
theorem oc_fdiv : OpC K (rI CDivG fun i j => .int (i.fdiv j)) gFdiv := oc_II (fun _ _ _ _ => .int) fun _ _ h => h
noncomputable abbrev gMod := gII (fun _ j => 0 < j) fun i j => .int (i % j)
theorem oc_mod : OpC K (rI (fun _ j => 0 < j) fun i j => .int (i % j)) gMod := oc_II (fun _ _ _ _ => .int) fun _ _ h => h
noncomputable abbrev gPow := gII CPow fun i j => .int (i ^ j.toNat)
theorem oc_pow : OpC K (rI CPow fun i j => .int (i ^ j.toNat)) gPow := oc_II (fun _ _ _ _ => .int) fun _ _ h => h
/-- lists times a number, numbers times numbers: * -/
def gNeg (d : D) (h : DH) : Out D := match d with
  | .int i => .val (.int (-i)) h
  | _ => .bad
theorem uc_neg : UnC K (rU fun i => .int (-i)) gNeg := by
  intro Wx H al h x d Q rh r1 q
  unfold gNeg at q
  split at q
  · cases r1; exact ⟨_, rfl, PostG.val q rh .int⟩
  · exact q.elim

/-! ### comparisons -/
/-- < of whole numbers and of texts -/
def gLt (d e : D) (h : DH) : Out D := match d, e with
  | .int i, .int j => .val (.bl (decide (i < j))) h
  | .str a, .str b => .val (.bl (decide (a.cps.toList < b.cps.toList))) h
  | _, _ => .bad
def rLtU : R2 := fun x y H Q => rI0 (fun i j => .bl (decide (i < j))) x y H Q ∨ ∃ i j, x = .str i ∧ y = .str j ∧ Q (.bl (decide (i.cps.toList < j.cps.toList))) H
theorem or_lt : OpR X (compareOp .Lt) rLtU := op_lt.or op_lt_str
theorem oc_lt : OpC K rLtU gLt := by
  intro Wx H al h x y d e Q rh r1 r2 q
  unfold gLt at q
  split at q
  · cases r1; cases r2; exact .inl ⟨_, _, rfl, rfl, PostG.val q rh .bl⟩
  · cases r1; cases r2; exact .inr ⟨_, _, rfl, rfl, PostG.val q rh .bl⟩
  · exact q.elim
abbrev gLe := gI0 fun i j => .bl (decide (i ≤ j))
theorem oc_le : OpC K (rI0 fun i j => .bl (decide (i ≤ j))) gLe := oc_I0 fun _ _ _ _ => .bl
abbrev gGt := gI0 fun i j => .bl (decide (j < i))
theorem oc_gt : OpC K (rI0 fun i j => .bl (decide (j < i))) gGt := oc_I0 fun _ _ _ _ => .bl
abbrev gGe := gI0 fun i j => .bl (decide (j ≤ i))
theorem oc_ge : OpC K (rI0 fun i j => .bl (decide (j ≤ i))) gGe := oc_I0 fun _ _ _ _ => .bl
/-- data as the library's rules of == see them -/
def pdAll (f : D → Option PyData) : List D → Option (List PyData)
  | [] => some []
  | d :: r => match f d, pdAll f r with
    | some p, some ps => some (p :: ps)
    | _, _ => none
def pd (h : DH) : Nat → D → Option PyData
  | _, .non => some .none
  | _, .bl b => some (.bool b)
  | _, .int i => some (.int i)
  | _, .str x => some (.str x)
  | n + 1, .tup ds => (pdAll (pd h n) ds).map .tuple
  | n + 1, .ref m => match listAt h m with
    | some ds => (pdAll (pd h n) ds).map .list
    | none => none
  | _, _ => none
theorem dp_all {H : Hp} {al : List Addr} {f : D → Option PyData} (hf : ∀ d v p, RV K H al d v → f d = some p → Dp K H v p) : ∀ {ds : List D} {vs : List V} {ps : List PyData}, RVs K H al ds vs → pdAll f ds = some ps → DpAll K H vs ps
  | _, _, _, .nil, e => by cases e; exact .nil
  | d :: ds, v :: vs, ps, .cons r t, e => by
    unfold pdAll at e
    split at e
    · rename_i p ps' e1 e2
      cases e
      exact .cons (hf d v p r e1) (dp_all hf t e2)
    · cases e
theorem dp_of {H : Hp} {al : List Addr} {h : DH} (rh : RH K H al h) : ∀ (n : Nat) (d : D) (v : V) (p : PyData), RV K H al d v → pd h n d = some p → Dp K H v p
  | n, .non, _, _, .non, e => by cases n <;> (cases e; exact .non)
  | n, .bl b, _, _, .bl, e => by cases n <;> (cases e; exact .bl b)
  | n, .int b, _, _, .int, e => by cases n <;> (cases e; exact .int b)
  | n, .str b, _, _, .str, e => by cases n <;> (cases e; exact .str b)
  | 0, .tup ds, _, _, _, e => by cases e
  | n + 1, .tup ds, _, p, .tup hs hr, e => by
    have e : (pdAll (pd h n) ds).map PyData.tuple = some p := e
    cases e2 : pdAll (pd h n) ds with
    | none => rw [e2] at e; cases e
    | some ps => rw [e2] at e; cases e; exact .tup hs (dp_all (fun d v p r e => dp_of rh n d v p r e) hr e2)
  | 0, .ref m, _, _, _, e => by cases e
  | n + 1, .ref m, _, p, .ref ha, e => by
    unfold pd at e
    split at e
    · rename_i ds e1
      obtain ⟨vs, hs, hr⟩ := list_of rh e1 ha
      cases e2 : pdAll (pd h n) ds with
      | none => rw [e2] at e; cases e
      | some ps => rw [e2] at e; cases e; exact .lst hs (dp_all (fun d v p r e => dp_of rh n d v p r e) hr e2)
    · cases e
  | 0, .raw _, _, _, _, e => by cases e
  | n + 1, .raw _, _, _, _, e => by cases e
def scalD : D → D → Bool
  | .non, .non => true | .non, .int _ => true | .int _, .non => true | .non, .bl _ => true | .bl _, .non => true | .non, .str _ => true | .str _, .non => true
  | .int _, .int _ => true | .bl _, .bl _ => true | .str _, .str _ => true
  | .int _, .str _ => true | .str _, .int _ => true | .bl _, .str _ => true | .str _, .bl _ => true
  | _, _ => false
/-- == of flat things -/
def eqD : D → D → Bool
  | .non, .non => true
  | .bl a, .bl b => a == b
  | .bl a, .int b => (if a then 1 else 0) == b
  | .int a, .bl b => a == (if b then 1 else 0)
  | .int a, .int b => a == b
  | .str a, .str b => a == b
  | _, _ => false
theorem scal_of {H : Hp} {al : List Addr} {d e : D} {x y : V} (r : RV K H al d x) (r2 : RV K H al e y) (f : scalD d e = true) : scal x y = true ∧ decide (x = y) = eqD d e := by
  cases r <;> cases r2 <;> first | (cases (show false = true from f)) | exact ⟨rfl, dec_int⟩ | exact ⟨rfl, dec_bl⟩ | exact ⟨rfl, dec_str⟩ | exact ⟨rfl, rfl⟩
def gEq (d e : D) (h : DH) : Out D := if scalD d e = true then .val (.bl (eqD d e)) h else match pd h 16 d, pd h 16 e with
  | some p, some r => if SeqAt.shaped p = true ∧ SeqAt.shaped r = true then .val (.bl (PyData.eqv p r)) h else .bad
  | _, _ => .bad
def gNe (d e : D) (h : DH) : Out D := if scalD d e = true then .val (.bl (!eqD d e)) h else match pd h 16 d, pd h 16 e with
  | some p, some r => if SeqAt.shaped p = true ∧ SeqAt.shaped r = true then .val (.bl (!PyData.eqv p r)) h else .bad
  | _, _ => .bad
def rEqU (K : PySem.W.Frag) : R2 := fun x y H Q => rEq x y H Q ∨ rEqD K x y H Q
def rNeU (K : PySem.W.Frag) : R2 := fun x y H Q => rNe x y H Q ∨ rNeD K x y H Q
theorem or_eq (hu : X.A.units + 64 < cLine) : OpR X (compareOp .Eq) (rEqU X.K) := op_eq.or (op_eqD hu)
theorem or_ne (hu : X.A.units + 64 < cLine) : OpR X (compareOp .NotEq) (rNeU X.K) := op_ne.or (op_neD hu)
theorem oc_eq : OpC K (rEqU K) gEq := by
  intro Wx H al h x y d e Q rh r1 r2 q
  unfold gEq at q
  split at q
  · rename_i z
    obtain ⟨z1, z2⟩ := scal_of r1 r2 z
    refine .inl ⟨z1, ?_⟩
    rw [z2]; exact PostG.val q rh .bl
  · split at q
    · rename_i p r e1 e2
      obtain ⟨⟨z1, z2⟩, q⟩ := ite_post q
      exact .inr ⟨p, r, dp_of rh _ _ _ _ r1 e1, dp_of rh _ _ _ _ r2 e2, z1, z2, PostG.val q rh .bl⟩
    · exact q.elim
theorem oc_ne : OpC K (rNeU K) gNe := by
  intro Wx H al h x y d e Q rh r1 r2 q
  unfold gNe at q
  split at q
  · rename_i z
    obtain ⟨z1, z2⟩ := scal_of r1 r2 z
    refine .inl ⟨z1, ?_⟩
    rw [z2]; exact PostG.val q rh .bl
  · split at q
    · rename_i p r e1 e2
      obtain ⟨⟨z1, z2⟩, q⟩ := ite_post q
      exact .inr ⟨p, r, dp_of rh _ _ _ _ r1 e1, dp_of rh _ _ _ _ r2 e2, z1, z2, PostG.val q rh .bl⟩
    · exact q.elim
/-- is None, is True, is False -/
def isNon : D → Bool
  | .non => true
  | _ => false
def gIs (d e : D) (h : DH) : Out D := match d, e with
  | .bl a, .bl b => .val (.bl (decide (a = b))) h
  | .raw _, _ => .bad
  | d, .non => .val (.bl (isNon d)) h
  | _, _ => .bad
def gIsNot (d e : D) (h : DH) : Out D := match d, e with
  | .bl a, .bl b => .val (.bl (!decide (a = b))) h
  | .raw _, _ => .bad
  | d, .non => .val (.bl (!isNon d)) h
  | _, _ => .bad
theorem isNon_of {H : Hp} {al : List Addr} {d : D} {x : V} (r : RV K H al d x) (h : ∀ v, d ≠ .raw v) : isNon d = decide (x = .non) := by
  cases r with
  | raw => exact (h _ rfl).elim
  | _ => simp [isNon]
theorem or_is : OpR X (compareOp .Is) (fun x y H Q => rIsB x y H Q ∨ (y = .non ∧ Q (.bl (decide (x = .non))) H)) := op_isBl.or op_isN
theorem oc_is : OpC K (fun x y H Q => rIsB x y H Q ∨ (y = .non ∧ Q (.bl (decide (x = .non))) H)) gIs := by
  intro Wx H al h x y d e Q rh r1 r2 q
  unfold gIs at q
  split at q
  · cases r1; cases r2; exact .inl ⟨_, _, rfl, rfl, PostG.val q rh .bl⟩
  · exact q.elim
  · rename_i n1 n2
    cases r2
    refine .inr ⟨rfl, ?_⟩
    rw [← isNon_of r1 (by intro v z; subst z; exact n2 _ rfl)]
    exact PostG.val q rh .bl
  · exact q.elim
theorem or_isnot : OpR X (compareOp .IsNot) (fun x y H Q => rNotB x y H Q ∨ (y = .non ∧ Q (.bl (!decide (x = .non))) H)) := op_notBl.or op_notN
theorem oc_isnot : OpC K (fun x y H Q => rNotB x y H Q ∨ (y = .non ∧ Q (.bl (!decide (x = .non))) H)) gIsNot := by
  intro Wx H al h x y d e Q rh r1 r2 q
  unfold gIsNot at q
  split at q
  · cases r1; cases r2; exact .inl ⟨_, _, rfl, rfl, PostG.val q rh .bl⟩
  · exact q.elim
  · rename_i n1 n2
    cases r2
    refine .inr ⟨rfl, ?_⟩
    rw [← isNon_of r1 (by intro v z; subst z; exact n2 _ rfl)]
    exact PostG.val q rh .bl
  · exact q.elim

/-! ### in, not in -/
def flatD : D → Bool
  | .non => true | .bl _ => true | .int _ => true | .str _ => true | _ => false
def inD (x : D) (xs : List D) : Bool := xs.any fun y => eqD y x
theorem flat_of {H : Hp} {al : List Addr} {d : D} {x : V} (r : RV K H al d x) (f : flatD d = true) : flatV x = true := by
  cases r <;> first | rfl | cases f
theorem eqD_of {H : Hp} {al : List Addr} {d e : D} {x y : V} (r : RV K H al d x) (r2 : RV K H al e y) (f : flatD d = true) (f2 : flatD e = true) : eqV x y = eqD d e := by
  cases r <;> cases r2 <;> first | rfl | (cases (show false = true from f)) | (cases (show false = true from f2))
theorem flats_of {H : Hp} {al : List Addr} : ∀ {ds : List D} {xs : List V}, RVs K H al ds xs → ds.all flatD = true → xs.all flatV = true
  | _, _, .nil, _ => rfl
  | _, _, .cons r t, f => by
    rw [List.all_cons, Bool.and_eq_true] at f
    rw [List.all_cons, Bool.and_eq_true]
    exact ⟨flat_of r f.1, flats_of t f.2⟩
theorem inD_of {H : Hp} {al : List Addr} {d : D} {x : V} (r : RV K H al d x) (f : flatD d = true) : ∀ {ds : List D} {xs : List V}, RVs K H al ds xs → ds.all flatD = true → inV x xs = inD d ds
  | _, _, .nil, _ => rfl
  | _, _, .cons r1 t, f1 => by
    rw [List.all_cons, Bool.and_eq_true] at f1
    unfold inV inD
    rw [List.any_cons, List.any_cons, eqD_of r1 r f1.1 f]
    have ih := inD_of r f t f1.2
    unfold inV inD at ih
    rw [ih]
def gInG (neg : Bool) (d e : D) (h : DH) : Out D := match d, e with
  | .str a, .str b => .val (.bl (if neg then !(!(Builtin.Str.occurrences b a 0 b.length 1).isEmpty) else !(Builtin.Str.occurrences b a 0 b.length 1).isEmpty)) h
  | d, .tup ds => if flatD d = true ∧ ds.all flatD = true then .val (.bl (if neg then !inD d ds else inD d ds)) h else .bad
  | d, .ref n => match listAt h n with
    | some ds => if flatD d = true ∧ ds.all flatD = true then .val (.bl (if neg then !inD d ds else inD d ds)) h else .bad
    | none => .bad
  | _, _ => .bad
abbrev gIn := gInG false
abbrev gNotIn := gInG true
def rInStr (neg : Bool) : R2 := fun x y H Q => ∃ i j, x = .str i ∧ y = .str j ∧ Q (.bl (if neg then !(!(Builtin.Str.occurrences j i 0 j.length 1).isEmpty) else !(Builtin.Str.occurrences j i 0 j.length 1).isEmpty)) H
theorem or_in : OpR X (compareOp .In) (fun x y H Q => rInStr false x y H Q ∨ rIn X.K false x y H Q) := (show OpR X (compareOp .In) (rInStr false) from op_in_str).or op_in_seq
theorem or_notin : OpR X (compareOp .NotIn) (fun x y H Q => rInStr true x y H Q ∨ rIn X.K true x y H Q) := (show OpR X (compareOp .NotIn) (rInStr true) from op_notIn_str).or op_notIn_seq
theorem oc_in (neg : Bool) : OpC K (fun x y H Q => rInStr neg x y H Q ∨ rIn K neg x y H Q) (gInG neg) := by
  intro Wx H al h x y d e Q rh r1 r2 q
  unfold gInG at q
  split at q
  · cases r1; cases r2; exact .inl ⟨_, _, rfl, rfl, PostG.val q rh .bl⟩
  · cases r2 with | tup hs hr =>
    obtain ⟨⟨f1, f2⟩, q⟩ := ite_post q
    refine .inr ⟨_, _, rfl, .inr hs, flat_of r1 f1, flats_of hr f2, ?_⟩
    rw [inD_of r1 f1 hr f2]
    exact PostG.val q rh .bl
  · cases r2 with | ref ha =>
    split at q
    · rename_i e1
      obtain ⟨vs, hs, hr⟩ := list_of rh e1 ha
      obtain ⟨⟨f1, f2⟩, q⟩ := ite_post q
      refine .inr ⟨_, _, rfl, .inl hs, flat_of r1 f1, flats_of hr f2, ?_⟩
      rw [inD_of r1 f1 hr f2]
      exact PostG.val q rh .bl
    · exact q.elim
  · exact q.elim

/-! ### items -/
def gIx (d e : D) (h : DH) : Out D := match d, e with
  | .tup ds, .int i => match atI ds i with
    | some x => .val x h
    | none => .bad
  | .str z, .int i => if z.length ≤ sizeLine then (match atI z.cps.toList i with
    | some c => .val (.str ⟨#[c]⟩) h
    | none => .bad) else .bad
  | .ref n, .int i => match listAt h n with
    | some ds => match atI ds i with
      | some x => .val x h
      | none => .bad
    | none => .bad
  | _, _ => .bad
theorem RVs.atI {H : Hp} {al : List Addr} {ds : List D} {vs : List V} (r : RVs K H al ds vs) {i : Int} {d : D} (e : L2.atI ds i = some d) : ∃ v, L2.atI vs i = some v ∧ RV K H al d v := by
  unfold L2.atI at e ⊢
  rw [← r.length]
  cases q : ixN ds.length i with
  | none => rw [q] at e; cases e
  | some j => rw [q] at e; exact r.get (show ds[j]? = some d from e)
theorem oc_ix : OpC K (rIx K) gIx := by
  intro Wx H al h x y d e Q rh r1 r2 q
  unfold gIx at q
  split at q
  · cases r1 with | tup hs hr => cases r2 with | int =>
    split at q
    · rename_i e1
      obtain ⟨v, h1, h2⟩ := hr.atI e1
      exact .inr (.inl ⟨_, _, _, v, rfl, rfl, hs, h1, PostG.val q rh h2⟩)
    · exact q.elim
  · cases r1; cases r2
    obtain ⟨hz, q⟩ := ite_post q
    split at q
    · rename_i e1
      exact .inr (.inr ⟨_, _, _, rfl, rfl, hz, e1, PostG.val q rh .str⟩)
    · exact q.elim
  · cases r1 with | ref ha => cases r2 with | int =>
    split at q
    · rename_i e1
      obtain ⟨vs, hs, hr⟩ := list_of rh e1 ha
      split at q
      · rename_i e2
        obtain ⟨v, h1, h2⟩ := hr.atI e2
        exact .inl ⟨_, _, _, v, rfl, rfl, hs, h1, PostG.val q rh h2⟩
      · exact q.elim
    · exact q.elim
  · exact q.elim

/-! ### slices -/
def cutD (xs : List D) (lo hi : Option Int) : List D := (xs.drop (HT.sIx xs.length 0 lo)).take (HT.sIx xs.length xs.length hi - HT.sIx xs.length 0 lo)
def gSl (d : D) (lo hi : Option Int) (h : DH) : Out D := match d with
  | .tup ds => .val (.tup (cutD ds lo hi)) h
  | .str z => if z.length ≤ sizeLine then .val (.str (cutS z lo hi)) h else .bad
  | .ref n => match listAt h n with
    | some ds => .val (.ref h.length) (h ++ [.lst (cutD ds lo hi)])
    | none => .bad
  | _ => .bad
theorem cutD_of {H : Hp} {al : List Addr} {ds : List D} {vs : List V} (r : RVs K H al ds vs) (lo hi : Option Int) : RVs K H al (cutD ds lo hi) (cutV vs lo hi) := by
  unfold cutD cutV
  rw [r.length]
  exact (r.drop _).take _
def mPN : EM (Option Int) := fun _ h => .val none h
def mPS (ma : EM D) : EM (Option Int) := fun ρ h => (ma ρ h).bind fun d h1 => match d with
  | .int i => .val (some i) h1
  | _ => .bad
def mSl (ma : EM D) (ml mh : EM (Option Int)) : EM D := fun ρ h => (ma ρ h).bind fun d h1 => (ml ρ h1).bind fun lo h2 => (mh ρ h2).bind fun hi h3 => gSl d lo hi h3
abbrev RI' : Hp → List Addr → Option Int → Option Int → Prop := fun _ _ a b => a = b
def DP (X : Cx) (W : WX) (e : Option Expr) (m : EM (Option Int)) : Prop := PO X e (tG X.K RI' W m)
theorem _root_.L2.PO.imp {X : Cx} {e : Option Expr} {t t' : TO} (h : PO X e t) (i : ∀ σ H Q, t' σ H Q → t σ H Q) : PO X e t' := ⟨fun pins s σ H Q I q => h.run pins s σ H Q I (i σ H Q q)⟩
variable {W : WX} {a e : Expr} {lo hi : Option Expr} {ma : EM D} {ml mh : EM (Option Int)} {pos p2 : Pos}
theorem dp_none : DP X W none mPN := po_none.imp fun σ H Q ⟨ρ, h, al, rs, rh, q⟩ => PostG.val (R := RI') q rh rfl
theorem dp_some (h : DE X W e ma) : DP X W (some e) (mPS ma) := by
  refine (po_some h).imp fun σ H Q ⟨ρ, h, al, rs, rh, q⟩ => ⟨ρ, h, al, rs, rh, (PostG.bind q).imp ?_⟩
  rintro x H1 ⟨d, h1, al1, e1, rh1, r1, q1⟩
  cases r1 with
  | int => exact ⟨_, rfl, PostG.val (R := RI') q1 rh1 rfl⟩
  | _ => exact q1.elim
theorem de_slice (he : DE X W a ma) (hl : DP X W lo ml) (hu : DP X W hi mh) : DE X W (.Subscript a (.Slice lo hi none p2) pos) (mSl ma ml mh) := by
  refine (pe_slice (sl_list.or (sl_tupA.or sl_str)) he hl hu).imp fun σ H Q ⟨ρ, h, al, rs, rh, q⟩ => ⟨ρ, h, al, rs, rh, (PostG.bind q).imp ?_⟩
  rintro x H1 ⟨d, h1, al1, e1, rh1, r1, q1⟩
  refine ⟨ρ, h1, al1, rs.evo e1, rh1, (PostG.bind q1).imp ?_⟩
  rintro l H2 ⟨l', h2, al2, e2, rh2, rl, q2⟩
  have rl : l' = l := rl
  subst rl
  refine ⟨ρ, h2, al2, (rs.evo e1).evo e2, rh2, (PostG.bind q2).imp ?_⟩
  rintro u H3 ⟨u', h3, al3, e3, rh3, ru, q3⟩
  have ru : u' = u := ru
  subst ru
  have r3 := r1.evo (e2.trans e3)
  unfold gSl at q3
  split at q3
  · cases r3 with | @tup aa vs ds hs hr =>
    refine .inr (.inl ⟨_, _, rfl, hs, fun w => ?_, fun _ p hp => PostG.newTup q3 rh3 (cutD_of hr _ _) hp⟩)
    refine PostG.val q3 rh3 (.tup hs ?_)
    unfold cutD
    rw [hr.length, w.1, w.2, ← hr.length]
    simpa using hr
  · cases r3
    obtain ⟨hz, q3⟩ := ite_post q3
    exact .inr (.inr ⟨_, rfl, hz, PostG.val q3 rh3 .str⟩)
  · cases r3 with | ref ha =>
    split at q3
    · rename_i e5
      obtain ⟨vs, hs, hr⟩ := list_of rh3 e5 ha
      exact .inl ⟨_, _, rfl, hs, fun p hp => PostG.newLst q3 rh3 (cutD_of hr _ _) hp⟩
    · exact q3.elim
  · exact q3.elim
end
end DL

namespace DL
open PySem PySem.Spec PyProof.Rows L2

section
variable {X : Cx} {K : PySem.W.Frag} {W : WX}
theorem ite_postI {c : Prop} {inst : Decidable c} {H : Hp} {al : List Addr} {Wx : Value → Option Addr → Hp → Prop} {o : Out D} {Q : VK} (q : PostG K (RV K) Wx H al (if c then o else .bad) Q) : c ∧ PostG K (RV K) Wx H al o Q := ite_post q
/-! ### built-in functions -/
def gLen (ds : List D) (h : DH) : Out D := match ds with
  | [.tup xs] => .val (.int xs.length) h
  | [.str z] => if z.length ≤ sizeLine then .val (.int z.length) h else .bad
  | [.ref n] => match h[n]? with
    | some (.lst xs) => .val (.int xs.length) h
    | some (.scr xs) => .val (.int xs.length) h
    | _ => .bad
  | _ => .bad
theorem cc_len : CallC K (fun xs H Q => ∃ x n, xs = [x] ∧ LenV K x H n ∧ Q (.int n) H) gLen := by
  intro Wx H al h xs ds Q rh r q
  unfold gLen at q
  split at q
  · cases r with | cons r t => cases t; cases r with | tup hs hr =>
    exact ⟨_, _, rfl, .inr ⟨_, hs, hr.length⟩, PostG.val q rh .int⟩
  · cases r with | cons r t =>
    cases t; cases r
    obtain ⟨hz, q⟩ := ite_post q
    exact ⟨_, _, rfl, ⟨hz, rfl⟩, PostG.val q rh .int⟩
  · cases r with | cons r t => cases t; cases r with | ref ha =>
    split at q
    · rename_i e
      obtain ⟨vs, hs, hr⟩ := list_of rh (show listAt h _ = some _ by unfold listAt; rw [e]) ha
      exact ⟨_, _, rfl, .inl ⟨_, hs, hr.length⟩, PostG.val q rh .int⟩
    · rename_i e
      obtain ⟨vs, hs, hr⟩ := list_of rh (show listAt h _ = some _ by unfold listAt; rw [e]) ha
      exact ⟨_, _, rfl, .inl ⟨_, hs, hr.length⟩, PostG.val q rh .int⟩
    · exact q.elim
  · exact q.elim
def gAbs (ds : List D) (h : DH) : Out D := match ds with
  | [.int i] => .val (.int (if i < 0 then -i else i)) h
  | _ => .bad
theorem cc_abs : CallC K (fun xs H Q => ∃ i, xs = [.int i] ∧ Q (.int (if i < 0 then -i else i)) H) gAbs := by
  intro Wx H al h xs ds Q rh r q
  unfold gAbs at q
  split at q
  · cases r with | cons r t => cases t; cases r; exact ⟨_, rfl, PostG.val q rh .int⟩
  · exact q.elim
def gMax2 (ds : List D) (h : DH) : Out D := match ds with
  | [.int i, .int j] => .val (.int (if j > i then j else i)) h
  | _ => .bad
theorem cc_max2 : CallC K (fun xs H Q => ∃ i j, xs = [.int i, .int j] ∧ Q (.int (if j > i then j else i)) H) gMax2 := by
  intro Wx H al h xs ds Q rh r q
  unfold gMax2 at q
  split at q
  · cases r with | cons r t => cases t with | cons r2 t => cases t; cases r; cases r2; exact ⟨_, _, rfl, PostG.val q rh .int⟩
  · exact q.elim
def gMin2 (ds : List D) (h : DH) : Out D := match ds with
  | [.int i, .int j] => .val (.int (if j < i then j else i)) h
  | _ => .bad
theorem cc_min2 : CallC K (fun xs H Q => ∃ i j, xs = [.int i, .int j] ∧ Q (.int (if j < i then j else i)) H) gMin2 := by
  intro Wx H al h xs ds Q rh r q
  unfold gMin2 at q
  split at q
  · cases r with | cons r t => cases t with | cons r2 t => cases t; cases r; cases r2; exact ⟨_, _, rfl, PostG.val q rh .int⟩
  · exact q.elim
/-- int(n), int(flag) -/
def gInt1 (ds : List D) (h : DH) : Out D := match ds with
  | [.int i] => .val (.int i) h
  | [.bl k] => .val (.int (if k then 1 else 0)) h
  | _ => .bad
theorem cc_int1 : CallC K (fun xs H Q => (∃ i, xs = [.int i] ∧ Q (.int i) H) ∨ ∃ k, xs = [.bl k] ∧ Q (.int (if k then 1 else 0)) H) gInt1 := by
  intro Wx H al h xs ds Q rh r q
  unfold gInt1 at q
  split at q
  · cases r with | cons r t => cases t; cases r; exact .inl ⟨_, rfl, PostG.val q rh .int⟩
  · cases r with | cons r t => cases t; cases r; exact .inr ⟨_, rfl, PostG.val q rh .int⟩
  · exact q.elim
def gListOf (ds : List D) (h : DH) : Out D := match ds with
  | [.tup xs] => .val (.ref h.length) (h ++ [.lst xs])
  | [.ref n] => match listAt h n with
    | some xs => .val (.ref h.length) (h ++ [.lst xs])
    | none => .bad
  | _ => .bad
theorem cc_listOf : CallC K (fun xs H Q => ∃ p ys, xs = [.ref p] ∧ (SqL K H p ys ∨ SqT K H p ys) ∧ ∀ l, H l = none → Q (.ref l) (upd H l (.lst ys))) gListOf := by
  intro Wx H al h xs ds Q rh r q
  unfold gListOf at q
  split at q
  · cases r with | cons r t => cases t; cases r with | tup hs hr =>
    exact ⟨_, _, rfl, .inr hs, fun l hl => PostG.newLst q rh hr hl⟩
  · cases r with | cons r t => cases t; cases r with | ref ha =>
    split at q
    · rename_i e
      obtain ⟨vs, hs, hr⟩ := list_of rh e ha
      exact ⟨_, _, rfl, .inl hs, fun l hl => PostG.newLst q rh hr hl⟩
    · exact q.elim
  · exact q.elim
def gTupOf (ds : List D) (h : DH) : Out D := match ds with
  | [.tup xs] => .val (.tup xs) h
  | [.ref n] => match listAt h n with
    | some xs => .val (.tup xs) h
    | none => .bad
  | _ => .bad
theorem cc_tupOf : CallC K (fun xs H Q => ∃ p ys, xs = [.ref p] ∧ ((SqL K H p ys ∧ ∀ l, H l = none → Q (.ref l) (upd H l (.tup ys))) ∨ (SqT K H p ys ∧ Q (.ref p) H))) gTupOf := by
  intro Wx H al h xs ds Q rh r q
  unfold gTupOf at q
  split at q
  · cases r with | cons r t => cases t; cases r with | tup hs hr =>
    exact ⟨_, _, rfl, .inr ⟨hs, PostG.val q rh (.tup hs hr)⟩⟩
  · cases r with | cons r t => cases t; cases r with | ref ha =>
    split at q
    · rename_i e
      obtain ⟨vs, hs, hr⟩ := list_of rh e ha
      exact ⟨_, _, rfl, .inl ⟨hs, fun l hl => PostG.newTup q rh hr hl⟩⟩
    · exact q.elim
  · exact q.elim
/-- isinstance against a built-in type -/
def tyR : Option DO → Option String
  | some (.lst _) => some "list"
  | some (.dk _) => some "dict"
  | some (.dt _) => some "dict"
  | some (.scr _) => some "list"
  | _ => none
def tyD (h : DH) : D → Option String
  | .non => some "NoneType"
  | .bl _ => some "bool"
  | .int _ => some "int"
  | .str _ => some "str"
  | .tup _ => some "tuple"
  | .ref n => tyR h[n]?
  | .raw _ => none
def gIsTy (ds : List D) (h : DH) : Out D := match ds with
  | [d, .raw (.ty T)] => match tyD h d with
    | some t => match kitB t T with
      | some b => .val (.bl b) h
      | none => .bad
    | none => .bad
  | _ => .bad
theorem ty_of {H : Hp} {al : List Addr} {h : DH} (rh : RH K H al h) {d : D} {x : V} (r : RV K H al d x) {t : String} (e : tyD h d = some t) : TyX K H x (.type t) := by
  cases r with
  | non => cases e; exact .base .non
  | bl => cases e; exact .base (.bl _)
  | int => cases e; exact .base (.int _)
  | str => cases e; exact .base (.str _)
  | raw => cases e
  | tup hs hr =>
    cases e
    rcases hs with (hs | ⟨o, hs⟩) | ⟨o, its, n, h1, h2, _⟩
    · exact .base (.tup hs)
    · exact .fTuple hs
    · exact .kTuple h1 h2
  | ref ha =>
    rename_i n a
    have e : tyR h[n]? = some t := e
    cases e1 : h[n]? with
    | none => rw [e1] at e; cases e
    | some o =>
      rw [e1] at e
      cases o with
      | lst ds => cases e; obtain ⟨vs, h1, _⟩ := rh.obj _ _ _ e1 ha; exact .base (.lst h1)
      | dk ds => cases e; obtain ⟨vs, h1, _⟩ := rh.obj _ _ _ e1 ha; exact .base (.dK h1)
      | dt ds => cases e; obtain ⟨vs, h1, _⟩ := rh.obj _ _ _ e1 ha; exact .base (.dT h1)
      | ins C fs => cases e
      | scr ds =>
        cases e
        obtain ⟨vs, h1, _⟩ := rh.obj _ _ _ e1 ha
        rcases h1 with ⟨o, h1⟩ | h1
        · exact .base (.frz h1)
        · rcases h1 (fun _ => none) with (h1 | ⟨o, h1⟩) | ⟨o, its, n, h1, h2, _⟩
          · cases h1
          · cases h1
          · exact .kList h1 h2
theorem cc_isTy : CallC K (rIsi K) gIsTy := by
  intro Wx H al h xs ds Q rh r q
  unfold gIsTy at q
  split at q
  · cases r with | cons r t => cases t with | cons r2 t =>
    cases t; cases r2
    split at q
    · rename_i e1
      split at q
      · rename_i e2
        exact ⟨_, _, _, _, _, rfl, .ty _, ty_of rh r e1, kit_ty e2, PostG.val q rh .bl⟩
      · exact q.elim
    · exact q.elim
  · exact q.elim
/-- str of a whole number -/
def gStr1 (ds : List D) (h : DH) : Out D := match ds with
  | [.int i] => if i.natAbs.log2 < 1920 then .val (.str (toString i)) h else .bad
  | _ => .bad
theorem cc_str1 : CallC K (fun xs H Q => ∃ i, xs = [.int i] ∧ i.natAbs.log2 < 1920 ∧ Q (.str (toString i)) H) gStr1 := by
  intro Wx H al h xs ds Q rh r q
  unfold gStr1 at q
  split at q
  · cases r with | cons r t =>
    cases t; cases r
    obtain ⟨hz, q⟩ := ite_post q
    exact ⟨_, rfl, hz, PostG.val q rh .str⟩
  · exact q.elim

/-! ### methods of texts -/
def MtC (K : PySem.W.Frag) (r : V → List V → Hp → VK → Prop) (g : D → List D → DH → Out D) : Prop :=
  ∀ (Wx : Value → Option Addr → Hp → Prop) (H : Hp) (al : List Addr) (h : DH) (x : V) (d : D) (xs : List V) (ds : List D) (Q : VK), RH K H al h → RV K H al d x → RVs K H al ds xs → PostG K (RV K) Wx H al (g d ds h) Q → r x xs H Q
variable {a e o : Expr} {es : List Expr} {ma mb : EM D} {mr : EM (List D)} {pos apos : Pos}
def isStrD : D → Bool
  | .str _ => true
  | _ => false
def mM0 (g : D → List D → DH → Out D) (ma : EM D) : EM D := fun ρ h => (ma ρ h).bind fun d h1 => if isStrD d = true then g d [] h1 else .bad
def mM1 (g : D → List D → DH → Out D) (ma mb : EM D) : EM D := fun ρ h => (ma ρ h).bind fun d h1 => if isStrD d = true then (mb ρ h1).bind fun e h2 => g d [e] h2 else .bad
theorem de_m0 {id : String} {name : Str} {r : V → List V → Hp → VK → Prop} {g : D → List D → DH → Out D} (slot : Slot "str" name id) (ty : typeOf (.builtin id) = pure (.type "method_descriptor")) (rule : MtR X id r) (hc : MtC X.K r g) (ho : DE X W o ma)
    (hbase : attributeBase o name X.env (eval o X.env) = eval o X.env := by rfl) (hline : (apos.endLine == pos.line) = true := by rfl) : DE X W (.Call (.Attribute o name apos) [] [] pos) (mM0 g ma) := by
  refine (pe_m0 slot ty rule ho hbase hline).imp fun σ H Q ⟨ρ, h, al, rs, rh, q⟩ => ⟨ρ, h, al, rs, rh, (PostG.bind q).imp ?_⟩
  rintro x H1 ⟨d, h1, al1, e1, rh1, r1, q1⟩
  obtain ⟨z, q1⟩ := ite_post q1
  refine ⟨?_, hc _ H1 al1 h1 x d [] [] Q rh1 r1 .nil q1⟩
  cases r1 <;> first | exact ⟨_, rfl⟩ | cases z
theorem de_m1 {id : String} {name : Str} {r : V → List V → Hp → VK → Prop} {g : D → List D → DH → Out D} (slot : Slot "str" name id) (ty : typeOf (.builtin id) = pure (.type "method_descriptor")) (rule : MtR X id r) (hc : MtC X.K r g) (ho : DE X W o ma) (he : DE X W e mb)
    (hs : starEach [e] X.env = [(false, eval e X.env)] := by rfl) (hbase : attributeBase o name X.env (eval o X.env) = eval o X.env := by rfl) (hline : (apos.endLine == pos.line) = true := by rfl) : DE X W (.Call (.Attribute o name apos) [e] [] pos) (mM1 g ma mb) := by
  refine (pe_m1 slot ty rule ho he hs hbase hline).imp fun σ H Q ⟨ρ, h, al, rs, rh, q⟩ => ⟨ρ, h, al, rs, rh, (PostG.bind q).imp ?_⟩
  rintro x H1 ⟨d, h1, al1, e1, rh1, r1, q1⟩
  obtain ⟨z, q1⟩ := ite_post q1
  refine ⟨?_, ρ, h1, al1, rs.evo e1, rh1, (PostG.bind q1).imp ?_⟩
  · cases r1 <;> first | exact ⟨_, rfl⟩ | cases z
  · rintro y H2 ⟨e, h2, al2, e2, rh2, r2, q2⟩
    exact hc _ H2 al2 h2 x d [y] [e] Q rh2 (r1.evo e2) (.cons r2 .nil) q2
def strsOf : List D → Option (List Str)
  | [] => some []
  | .str x :: r => (strsOf r).map (x :: ·)
  | _ => none
theorem strsOf_map : ∀ ys : List Str, strsOf (ys.map D.str) = some ys
  | [] => rfl
  | y :: r => by
    show (strsOf (r.map D.str)).map (y :: ·) = _
    rw [strsOf_map r]; rfl
theorem strsOf_of {H : Hp} {al : List Addr} : ∀ {ds : List D} {vs : List V} {ys : List Str}, RVs K H al ds vs → strsOf ds = some ys → vs = ys.map V.str
  | _, _, _, .nil, e => by cases e; rfl
  | d :: ds, v :: vs, ys, .cons r t, e => by
    cases r with
    | str =>
      rename_i x
      have e : (strsOf ds).map (x :: ·) = some ys := e
      cases e2 : strsOf ds with
      | none => rw [e2] at e; cases e
      | some zs => rw [e2] at e; cases e; rw [strsOf_of t e2]; rfl
    | _ => cases e
def gJoin (d : D) (es : List D) (h : DH) : Out D := match d, es with
  | .str a, [.tup ds] => match strsOf ds with
    | some ys => if (ys.map (·.length)).sum + ys.length * a.length ≤ 16777216 then .val (.str (Txt.join a ys)) h else .bad
    | none => .bad
  | .str a, [.ref n] => match (listAt h n).bind strsOf with
    | some ys => if (ys.map (·.length)).sum + ys.length * a.length ≤ 16777216 then .val (.str (Txt.join a ys)) h else .bad
    | none => .bad
  | _, _ => .bad
theorem tc_join : MtC K (fun x xs H Q => ∃ a p, ∃ ys : List Str, x = .str a ∧ xs = [.ref p] ∧ (SqL K H p (ys.map V.str) ∨ SqT K H p (ys.map V.str)) ∧
    (ys.map (·.length)).sum + ys.length * a.length ≤ 16777216 ∧ Q (.str (Txt.join a ys)) H) gJoin := by
  intro Wx H al h x d xs ds Q rh r rs q
  unfold gJoin at q
  split at q
  · cases r; cases rs with | cons r t => cases t; cases r with | tup hs hr =>
    split at q
    · rename_i e
      obtain ⟨hz, q⟩ := ite_post q
      have := strsOf_of hr e
      subst this
      exact ⟨_, _, _, rfl, rfl, .inr hs, hz, PostG.val q rh .str⟩
    · exact q.elim
  · cases r; cases rs with | cons r t => cases t; cases r with | ref ha =>
    split at q
    · rename_i e
      obtain ⟨hz, q⟩ := ite_post q
      obtain ⟨zs, e1, e2⟩ := Option.bind_eq_some_iff.mp e
      obtain ⟨vs, hs, hr⟩ := list_of rh e1 ha
      have := strsOf_of hr e2
      subst this
      exact ⟨_, _, _, rfl, rfl, .inl hs, hz, PostG.val q rh .str⟩
    · exact q.elim
  · exact q.elim
def gSplit (d : D) (es : List D) (h : DH) : Out D := match d, es with
  | .str a, [.str b] => if (b.length == 0) = false ∧ a.length + 2 ≤ sizeLine then .val (.ref h.length) (h ++ [.lst ((Txt.split a b).map D.str)]) else .bad
  | _, _ => .bad
theorem tc_split : MtC K (fun x xs H Q => ∃ a b, x = .str a ∧ xs = [.str b] ∧ (b.length == 0) = false ∧ a.length + 2 ≤ sizeLine ∧ rNewStrs (Txt.split a b) H Q) gSplit := by
  intro Wx H al h x d xs ds Q rh r rs q
  unfold gSplit at q
  split at q
  · cases r; cases rs with | cons r t =>
    cases t; cases r
    obtain ⟨⟨h1, h2⟩, q⟩ := ite_post q
    exact ⟨_, _, rfl, rfl, h1, h2, fun p hp => PostG.newLst q rh RVs.of_strs hp⟩
  · exact q.elim
def gLower (d : D) (es : List D) (h : DH) : Out D := match d, es with
  | .str a, [] => if a.length ≤ 5592405 then .val (.str (Txt.lower a)) h else .bad
  | _, _ => .bad
theorem tc_lower : MtC K (fun x xs H Q => ∃ a, x = .str a ∧ xs = [] ∧ a.length ≤ 5592405 ∧ Q (.str (Txt.lower a)) H) gLower := by
  intro Wx H al h x d xs ds Q rh r rs q
  unfold gLower at q
  split at q
  · cases r; cases rs; obtain ⟨hz, q⟩ := ite_post q; exact ⟨_, rfl, rfl, hz, PostG.val q rh .str⟩
  · exact q.elim
def gUpper (d : D) (es : List D) (h : DH) : Out D := match d, es with
  | .str a, [] => if a.length ≤ 5592405 then .val (.str (Txt.upper a)) h else .bad
  | _, _ => .bad
theorem tc_upper : MtC K (fun x xs H Q => ∃ a, x = .str a ∧ xs = [] ∧ a.length ≤ 5592405 ∧ Q (.str (Txt.upper a)) H) gUpper := by
  intro Wx H al h x d xs ds Q rh r rs q
  unfold gUpper at q
  split at q
  · cases r; cases rs; obtain ⟨hz, q⟩ := ite_post q; exact ⟨_, rfl, rfl, hz, PostG.val q rh .str⟩
  · exact q.elim
def gStarts (d : D) (es : List D) (h : DH) : Out D := match d, es with
  | .str a, [.str b] => .val (.bl (Txt.startswith a b)) h
  | _, _ => .bad
theorem tc_starts : MtC K (fun x xs H Q => ∃ a b, x = .str a ∧ xs = [.str b] ∧ Q (.bl (Txt.startswith a b)) H) gStarts := by
  intro Wx H al h x d xs ds Q rh r rs q
  unfold gStarts at q
  split at q
  · cases r; cases rs with | cons r t => cases t; cases r; exact ⟨_, _, rfl, rfl, PostG.val q rh .bl⟩
  · exact q.elim
def gPartition (d : D) (es : List D) (h : DH) : Out D := match d, es with
  | .str a, [.str b] => if (b.length == 0) = false ∧ a.length ≤ sizeLine then .val (.tup [.str (Txt.partition a b).1, .str (Txt.partition a b).2.1, .str (Txt.partition a b).2.2]) h else .bad
  | _, _ => .bad
theorem tc_partition : MtC K (fun x xs H Q => ∃ a b, x = .str a ∧ xs = [.str b] ∧ (b.length == 0) = false ∧ a.length ≤ sizeLine ∧
    ∀ p, H p = none → Q (.ref p) (upd H p (.tup [.str (Txt.partition a b).1, .str (Txt.partition a b).2.1, .str (Txt.partition a b).2.2]))) gPartition := by
  intro Wx H al h x d xs ds Q rh r rs q
  unfold gPartition at q
  split at q
  · cases r; cases rs with | cons r t =>
    cases t; cases r
    obtain ⟨⟨h1, h2⟩, q⟩ := ite_post q
    exact ⟨_, _, rfl, rfl, h1, h2, fun p hp => PostG.newTup q rh (.cons .str (.cons .str (.cons .str .nil))) hp⟩
  · exact q.elim

/-! ### methods of lists -/
def mBM (g : D → List D → DH → Out D) (ma : EM D) (mr : EM (List D)) : EM D := fun ρ h => (ma ρ h).bind fun d h1 => match d with
  | .ref n => match h1[n]? with
    | some (.lst _) => (mr ρ h1).bind fun es h2 => g d es h2
    | _ => .bad
  | _ => .bad
def mBM0 (g : D → List D → DH → Out D) (ma : EM D) : EM D := fun ρ h => (ma ρ h).bind fun d h1 => match d with
  | .ref n => match h1[n]? with
    | some (.lst _) => g d [] h1
    | _ => .bad
  | _ => .bad
theorem de_bm {id : String} {name : Str} {r : V → List V → Hp → VK → Prop} {g : D → List D → DH → Out D} (slot : Slot "list" name id) (ty : typeOf (.builtin id) = pure (.type "method_descriptor")) (rule : MtR X id r) (hc : MtC X.K r g)
    (hp : ∀ {t : TA} {to : TE}, PE X o to → PA X (e :: es) t → PE X a (tBM X.K "list" r to t)) (ho : DE X W o ma) (ha : DA X W (e :: es) mr) : DE X W a (mBM g ma mr) := by
  refine (hp ho ha).imp fun σ H Q ⟨ρ, h, al, rs, rh, q⟩ => ⟨ρ, h, al, rs, rh, (PostG.bind q).imp ?_⟩
  rintro x H1 ⟨d, h1, al1, e1, rh1, r1, q1⟩
  cases r1 with
  | ref ha =>
    dsimp only at q1
    split at q1
    · rename_i e0
      obtain ⟨vs, hv, hr⟩ := lst_of rh1 e0 ha
      refine ⟨.inl ⟨rfl, _, SqL.of hv⟩, ρ, h1, al1, rs.evo e1, rh1, (PostG.bind q1).imp ?_⟩
      rintro ys H2 ⟨es, h2, al2, e2, rh2, r2, q2⟩
      exact hc _ H2 al2 h2 _ _ ys es Q rh2 (.ref (e2.at ha)) r2 q2
    · exact q1.elim
  | _ => exact q1.elim
theorem de_bm0 {id : String} {name : Str} {r : V → List V → Hp → VK → Prop} {g : D → List D → DH → Out D} (slot : Slot "list" name id) (ty : typeOf (.builtin id) = pure (.type "method_descriptor")) (rule : MtR X id r) (hc : MtC X.K r g)
    (hp : ∀ {to : TE}, PE X o to → PE X a (tBM0 X.K "list" r to)) (ho : DE X W o ma) : DE X W a (mBM0 g ma) := by
  refine (hp ho).imp fun σ H Q ⟨ρ, h, al, rs, rh, q⟩ => ⟨ρ, h, al, rs, rh, (PostG.bind q).imp ?_⟩
  rintro x H1 ⟨d, h1, al1, e1, rh1, r1, q1⟩
  cases r1 with
  | ref ha =>
    dsimp only at q1
    split at q1
    · rename_i e0
      obtain ⟨vs, hv, hr⟩ := lst_of rh1 e0 ha
      exact ⟨.inl ⟨rfl, _, SqL.of hv⟩, hc _ H1 al1 h1 _ _ [] [] Q rh1 (.ref ha) .nil q1⟩
    · exact q1.elim
  | _ => exact q1.elim
/-- a list is changed -/
theorem PostG.putLst {Wx : Value → Option Addr → Hp → Prop} {H : Hp} {al : List Addr} {h : DH} {n : Nat} {a : Addr} {o : DO} {ds : List D} {vs : List V} {d : D} {v : V} {Q : VK} (q : PostG K (RV K) Wx H al (.val d (h.set n (.lst ds))) Q) (rh : RH K H al h) (e : h[n]? = some o) (ns : o.isScr = false) (ha : al[n]? = some a) (r : RVs K H al ds vs) (rv : RV K H al d v) : Q v (upd H a (.lst vs)) := by
  obtain ⟨w, hw, mw⟩ := (rh.obj n o a e ha).mut ns
  have ev : Evo K H al (upd H a (.lst vs)) al := Evo.write hw mw
  exact q _ al _ ev (rh.write e ha ns rfl ⟨vs, upd_same, r.evo ev⟩) (rv.evo ev)
def gAppend (d : D) (es : List D) (h : DH) : Out D := match d, es with
  | .ref n, [y] => match h[n]? with
    | some (.lst xs) => if xs.length < sizeLine then .val .non (h.set n (.lst (xs ++ [y]))) else .bad
    | _ => .bad
  | _, _ => .bad
theorem tc_append : MtC K rAppend gAppend := by
  intro Wx H al h x d xs ds Q rh r rs q
  unfold gAppend at q
  split at q
  · cases r with | ref ha => cases rs with | cons r t =>
    cases t
    split at q
    · rename_i e
      obtain ⟨hz, q⟩ := ite_post q
      obtain ⟨vs, hv, hr⟩ := lst_of rh e ha
      exact ⟨_, vs, _, rfl, rfl, hv, by rw [← hr.length]; exact hz, PostG.putLst q rh e rfl ha (hr.snoc r) .non⟩
    · exact q.elim
  · exact q.elim
def gPop (d : D) (es : List D) (h : DH) : Out D := match d, es with
  | .ref n, [] => match h[n]? with
    | some (.lst xs) => match xs[xs.length - 1]? with
      | some y => .val y (h.set n (.lst xs.dropLast))
      | none => .bad
    | _ => .bad
  | _, _ => .bad
theorem tc_pop : MtC K rPop gPop := by
  intro Wx H al h x d xs ds Q rh r rs q
  unfold gPop at q
  split at q
  · cases r with | ref ha =>
    cases rs
    split at q
    · rename_i e
      obtain ⟨vs, hv, hr⟩ := lst_of rh e ha
      split at q
      · rename_i e2
        obtain ⟨v, h1, h2⟩ := hr.get e2
        exact ⟨_, vs, v, rfl, rfl, hv, by rw [← hr.length]; exact h1, PostG.putLst q rh e rfl ha hr.dropLast h2⟩
      · exact q.elim
    · exact q.elim
  · exact q.elim
def gClear (d : D) (es : List D) (h : DH) : Out D := match d, es with
  | .ref n, [] => match h[n]? with
    | some (.lst xs) => .val .non (h.set n (.lst []))
    | _ => .bad
  | _, _ => .bad
theorem tc_clear : MtC K rClear gClear := by
  intro Wx H al h x d xs ds Q rh r rs q
  unfold gClear at q
  split at q
  · cases r with | ref ha =>
    cases rs
    split at q
    · rename_i e
      obtain ⟨vs, hv, hr⟩ := lst_of rh e ha
      exact ⟨_, vs, rfl, rfl, hv, PostG.putLst q rh e rfl ha .nil .non⟩
    · exact q.elim
  · exact q.elim
/-! ### a dict of the module, its keys texts -/
open Classical in
noncomputable def gKD (a : Addr) (f : Str → Option D) (d e : D) (h : DH) : Out D := match d, e with
  | .raw v, .str z => if v = .ref a then (match f z with
    | some y => .val y h
    | none => .bad) else .bad
  | _, _ => .bad
theorem oc_kd {w : World} {ad : Addr} {f : Str → Option D} (hf : ∀ z y, f z = some y → ∃ v, KDct K w ad z v ∧ ∀ H al, RV K H al y v) : OpC K (rIxD K w) (gKD ad f) := by
  intro Wx H al h x y d e Q rh r1 r2 q
  unfold gKD at q
  split at q
  · cases r1; cases r2
    obtain ⟨hz, q⟩ := ite_post q
    split at q
    · rename_i e1
      obtain ⟨v, h1, h2⟩ := hf _ _ e1
      exact ⟨ad, _, v, hz, rfl, h1, PostG.val q rh (h2 H al)⟩
    · exact q.elim
  · exact q.elim
end
end DL

namespace DL
open PySem PySem.Spec PyProof.Rows L2

section
variable {X : Cx} {K : PySem.W.Frag} {W : WX} {a e o : Expr} {es : List Expr} {ma mb : EM D} {mr : EM (List D)} {pos apos : Pos}
/-- raise C('..') of a class without fields -/
def sRaise (cls : Value) : SM := fun ρ h => .exc ⟨cls, []⟩ ρ h
theorem ds_raise {C : Addr} (hp : PS X (.Raise (some e) none pos) (fun _ σ H => W (.ref C) none σ H)) : DS X W (.Raise (some e) none pos) (sRaise (.ref C)) :=
  hp.imp fun D σ H ⟨ρ, h, al, rs, rh, q⟩ => q H al σ none Evo.refl rh rs (.inl ⟨rfl, rfl⟩)
/-- behind a suite: the caught one's name is gone -/
def sufx (i : Nat) : SOut → SOut
  | .nx ρ h => .nx (ρ.set i none) h
  | .brk ρ h => .brk (ρ.set i none) h
  | .cnt ρ h => .cnt (ρ.set i none) h
  | o => o
open Classical in
/-- of exceptions without fields -/
noncomputable def sTryAs (em : Value → Option Bool) (m : SM) (i : Nat) (ms : Addr → Value → SM) : SM := fun ρ h => match m ρ h with
  | .exc x ρ1 h1 => match em x.cls with
    | some true => if z : x.fs = [] ∧ ∃ o, ∀ a, sufx i (ms a x.cls (ρ1.set i (some (.raw (.ref a)))) h1) = o ∧ (∀ y ρ' h', o ≠ .exc y ρ' h') then z.2.choose else .bad
    | some false => .exc x ρ1 h1
    | none => .bad
  | o => o
theorem sTryAs_yes {em : Value → Option Bool} {m : SM} {i : Nat} {ms : Addr → Value → SM} {ρ ρ1 : DEnv} {h h1 : DH} {c : Value} {o : SOut} (e : m ρ h = .exc ⟨c, []⟩ ρ1 h1) (e2 : em c = some true) (eo : ∀ a, sufx i (ms a c (ρ1.set i (some (.raw (.ref a)))) h1) = o) (ne : ∀ y ρ' h', o ≠ .exc y ρ' h') : sTryAs em m i ms ρ h = o := by
  unfold sTryAs
  rw [e]; dsimp only; rw [e2]; dsimp only
  have z : (([] : List (Str × D)) = []) ∧ ∃ o, ∀ a, sufx i (ms a c (ρ1.set i (some (.raw (.ref a)))) h1) = o ∧ (∀ y ρ' h', o ≠ .exc y ρ' h') := ⟨rfl, o, fun a => ⟨eo a, ne⟩⟩
  rw [dif_pos z]
  exact ((z.2.choose_spec 0).1.symm.trans (eo 0))
theorem sTryAs_nx {em : Value → Option Bool} {m : SM} {i : Nat} {ms : Addr → Value → SM} {ρ ρ1 : DEnv} {h h1 : DH} (e : m ρ h = .nx ρ1 h1) : sTryAs em m i ms ρ h = .nx ρ1 h1 := by
  unfold sTryAs; rw [e]
theorem sTryAs_ret {em : Value → Option Bool} {m : SM} {i : Nat} {ms : Addr → Value → SM} {ρ : DEnv} {h h1 : DH} {d : D} (e : m ρ h = .ret d h1) : sTryAs em m i ms ρ h = .ret d h1 := by
  unfold sTryAs; rw [e]
theorem sTryAs_no {em : Value → Option Bool} {m : SM} {i : Nat} {ms : Addr → Value → SM} {ρ ρ1 : DEnv} {h h1 : DH} {x : DX} (e : m ρ h = .exc x ρ1 h1) (e2 : em x.cls = some false) : sTryAs em m i ms ρ h = .exc x ρ1 h1 := by
  unfold sTryAs; rw [e]; dsimp only; rw [e2]
theorem ds_tryAs {x n : Str} {c : Value} (i : Nat) {body suite : List Stmt} {b₀ : Stmt} {np pos pos' : Pos} {m : SM} {ms : Addr → Value → SM} {em : Value → Option Bool} (hs : X.stack = X.env :: X.outer) (hf : X.env.frame = some X.env.locals) (hN : X.N.Nodup) (hc : Names X x c) (tk : Takes X W)
    (hem : ∀ cls b, em cls = some b → PySem.W.exmOne X.K cls c = some b)
    (hb : ∀ (W : WX) (pn : List (Addr × Obj)) (xe : Value → Shared → Prop), Takes (X.tr pn xe) W → PassesOwn (model X.prog X.w) X.A X.env xe → DSs (X.tr pn xe) W body m)
    (hsu : ∀ (a : Addr) (oe : Obj) (cls : Value) (pn : List (Addr × Obj)), Zc cls none oe → (∃ vs, oe.data = .fields vs) → (em cls = some true) → DSs (X.suite a ((a, oe) :: pn)) W0 (b₀ :: suite) (ms a cls))
    (hi : X.N[i]? = some n := by rfl) (hln : X.env.kindOf n = some .local := by rfl) :
    DS X W (.Try body [.ExceptHandler (some (.Name x np)) (some n) (b₀ :: suite) pos'] [] [] pos) (sTryAs em m i ms) := by
  refine (ps_try_as (ts := fun a cls d D σ H => d = none ∧ em cls = some true ∧ tS X.K W0 (ms a cls) D σ H) (tb := fun W' => tS X.K W' m) hs hf hN hi hln hc tk (fun W pn xe t p => hb W pn xe t p) ?_).imp ?_
  · intro a oe cls d pn hz hv
    refine ⟨fun pins s σ H D I q => ?_⟩
    obtain ⟨hd, ee, q⟩ := q
    subst hd
    exact (hsu a oe cls pn hz hv ee).run pins s σ H D I q
  · rintro D σ H ⟨ρ, h, al, rs, rh, q⟩
    refine ⟨ρ, h, al, rs, rh, ?_⟩
    unfold sTryAs at q
    cases e : m ρ h with
    | exc y ρ1 h1 =>
      rw [e] at q
      intro H' al' σ' dd ev rh' rs' rx
      have q := PostS.evo ev q
      dsimp only at q
      cases e2 : em y.cls with
      | none => rw [e2] at q; exact q.elim
      | some bb =>
        rw [e2] at q
        refine ⟨bb, hem _ _ e2, fun hb1 a na => ?_, fun hb1 => ?_⟩
        · subst hb1
          dsimp only at q
          by_cases z : y.fs = [] ∧ ∃ o, ∀ a, sufx i (ms a y.cls (ρ1.set i (some (.raw (.ref a)))) h1) = o ∧ (∀ y ρ' h', o ≠ .exc y ρ' h')
          · rw [dif_pos z] at q
            have hd : dd = none := by
              rcases rx with ⟨_, r1⟩ | ⟨r1, _⟩
              · exact r1
              · exact (r1 z.1).elim
            have sp := z.2.choose_spec a
            generalize z.2.choose = oo at q sp
            obtain ⟨sp1, sp2⟩ := sp
            refine ⟨hd, e2, ρ1.set i (some (.raw (.ref a))), h1, al', rs'.set i .raw, rh', ?_⟩
            cases em2 : ms a y.cls (ρ1.set i (some (.raw (.ref a)))) h1 with
            | nx ρ2 h2 => rw [em2] at sp1; subst sp1; exact fun H3 al3 σ3 e3 rh3 rs3 => q H3 al3 _ e3 rh3 (rs3.gone i none)
            | brk ρ2 h2 => rw [em2] at sp1; subst sp1; exact fun H3 al3 σ3 e3 rh3 rs3 => q H3 al3 _ e3 rh3 (rs3.gone i none)
            | cnt ρ2 h2 => rw [em2] at sp1; subst sp1; exact fun H3 al3 σ3 e3 rh3 rs3 => q H3 al3 _ e3 rh3 (rs3.gone i none)
            | ret d2 h2 => rw [em2] at sp1; subst sp1; exact q
            | bad => rw [em2] at sp1; subst sp1; exact q
            | exc x2 ρ2 h2 => rw [em2] at sp1; exact (sp2 _ _ _ sp1.symm).elim
          · rw [dif_neg z] at q; exact q.elim
        · subst hb1
          exact q H' al' σ' dd Evo.refl rh' rs' rx
    | nx ρ1 h1 => rw [e] at q; exact q
    | brk ρ1 h1 => rw [e] at q; exact q
    | cnt ρ1 h1 => rw [e] at q; exact q
    | ret d1 h1 => rw [e] at q; exact q
    | bad => rw [e] at q; exact q
open Classical in
/-- isinstance(e, C) of the caught one -/
noncomputable def gIsE (a : Addr) (kit : Value → Option Bool) (ds : List D) (h : DH) : Out D := match ds with
  | [.raw v, .raw (.ref C)] => if v = .ref a then (match kit (.ref C) with
    | some b => .val (.bl b) h
    | none => .bad) else .bad
  | [.raw v, .raw (.ty T)] => if v = .ref a then (match kit (.type T) with
    | some b => .val (.bl b) h
    | none => .bad) else .bad
  | _ => .bad
theorem cc_isE {Dc a : Addr} {kit : Value → Option Bool} (hk : ∀ c b, kit c = some b → PySem.W.kitOne K (.ref Dc) c = some b) : CallC K (rIsE K Dc a) (gIsE a kit) := by
  intro Wx H al h xs ds Q rh r q
  unfold gIsE at q
  split at q
  · cases r with | cons r t => cases t with | cons r2 t =>
    cases t; cases r; cases r2
    obtain ⟨hv, q⟩ := ite_post q
    split at q
    · rename_i e1
      exact ⟨V.ref _, Value.ref _, _, by rw [hv], fun u z => z, hk _ _ e1, PostG.val q rh .bl⟩
    · exact q.elim
  · cases r with | cons r t => cases t with | cons r2 t =>
    cases t; cases r; cases r2
    obtain ⟨hv, q⟩ := ite_post q
    split at q
    · rename_i e1
      exact ⟨V.ty _, Value.type _, _, by rw [hv], fun u z => z, hk _ _ e1, PostG.val q rh .bl⟩
    · exact q.elim
  · exact q.elim
end
section
open PySem.W
theorem cls_some {K : Frag} {C : Addr} (h : hasDictIn K C = true) : (clsIn K C).isSome = true := by
  unfold hasDictIn at h
  cases e : clsIn K C with
  | none => rw [e] at h; cases h
  | some _ => rfl
theorem kit_ref {K : Frag} {C : Addr} {t : Value} {b : Bool} (hd : hasDictIn K C = true) (ht : typeIn K (.ref C) = some (.type "type")) (h : subIn K t (.ref C) = some b) (hb : t = .ref C → b = true) : kitOne K t (.ref C) = some b := by
  unfold kitOne
  by_cases e : t = .ref C
  · rw [if_pos (by simp [e]), hb e]
  · rw [if_neg (by simp [e])]
    show (if ((clsIn K C).isSome && typeIn K (.ref C) == some (.type "type")) = true then subIn K t (.ref C) else none) = _
    rw [if_pos (by rw [cls_some hd, ht]; rfl), h]
theorem kit_type {K : Frag} {T : String} {C : Addr} {b : Bool} (hm : kitMeta T = true) (h : subIn K (.ref C) (.type T) = some b) : kitOne K (.ref C) (.type T) = some b := by
  unfold kitOne
  rw [if_neg (by intro z; cases (LawfulBEq.eq_of_beq z))]
  show (if kitMeta T = true then subIn K (.ref C) (.type T) else none) = _
  rw [if_pos hm, h]
end
end DL

namespace DL
open PySem PySem.Spec PyProof.Rows L2
theorem _root_.L2.PI.or {X : Cx} {tg iter : Expr} {w1 w2 : TI} (h1 : PI X tg iter w1) (h2 : PI X tg iter w2) : PI X tg iter (fun σ H R => w1 σ H R ∨ w2 σ H R) :=
  ⟨fun pins s σ H R I q => q.elim (h1.run pins s σ H R I) (h2.run pins s σ H R I)⟩
section
variable {X : Cx} {W : WX} {tg e a b c : Expr} {pos : Pos} {ma mb mc : EM D} {mt : EM Bool}
/-- a list, a tuple or a text -/
def iAny (ma : EM D) : EM ItD := fun ρ h => match ma ρ h with
  | .val (.ref _) _ => iSeqL ma ρ h
  | .val (.tup _) _ => iTupD ma ρ h
  | .val (.str _) _ => iStrD ma ρ h
  | .exc x h => .exc x h
  | _ => .bad
theorem di_any (h : DE X W e ma) : DI X W tg e (iAny ma) := by
  obtain ⟨w1, p1, k1⟩ := di_list (tg := tg) h
  obtain ⟨w2, p2, k2⟩ := di_tup (tg := tg) h
  obtain ⟨w3, p3, k3⟩ := di_str (tg := tg) h
  refine ⟨_, p1.or (p2.or p3), fun σ H R ⟨ρ, hh, al, rs, rh, q⟩ => ?_⟩
  unfold iAny at q
  split at q
  · exact .inl (k1 σ H R ⟨ρ, hh, al, rs, rh, q⟩)
  · exact .inr (.inl (k2 σ H R ⟨ρ, hh, al, rs, rh, q⟩))
  · exact .inr (.inr (k3 σ H R ⟨ρ, hh, al, rs, rh, q⟩))
  · rename_i x h' e1
    refine .inl (k1 σ H R ⟨ρ, hh, al, rs, rh, ?_⟩)
    unfold iSeqL
    rw [e1]; exact q
  · exact q.elim
theorem dt_chain {op op' : CmpOp} {r r' : R2} {g g' : D → D → DH → Out D} (ho : OpR X (compareOp op) r) (hc1 : OpC X.K r g) (ho' : OpR X (compareOp op') r') (hc2 : OpC X.K r' g')
    (hp : PE X e (tChain r r' (tD X.K W ma) (tD X.K W mb) (tD X.K W mc))) : DE X W e (fun ρ h => (ma ρ h).bind fun x h1 => (mb ρ h1).bind fun y h2 => (g x y h2).bind (asB fun k h3 => if k = true then (mc ρ h3).bind fun z h4 => g' y z h4 else .val (.bl false) h3)) := by
  refine hp.imp fun σ H Q ⟨ρ, h, al, rs, rh, q⟩ => ⟨ρ, h, al, rs, rh, (PostG.bind q).imp ?_⟩
  rintro x H1 ⟨d, h1, al1, e1, rh1, r1, q1⟩
  refine ⟨ρ, h1, al1, rs.evo e1, rh1, (PostG.bind q1).imp ?_⟩
  rintro y H2 ⟨e, h2, al2, e2, rh2, r2, q2⟩
  refine hc1 _ H2 al2 h2 x y d e _ rh2 (r1.evo e2) r2 ((PostG.bind q2).imp ?_)
  rintro z H3 ⟨f, h3, al3, e3, rh3, r3, q3⟩
  cases r3 with
  | bl =>
    rename_i k
    refine ⟨k, rfl, ?_⟩
    have q3 : PostG X.K (RV X.K) (fun c d H' => W c d σ H') H3 al3 (if k = true then (mc ρ h3).bind fun z h4 => g' e z h4 else .val (.bl false) h3) Q := q3
    cases k with
    | true =>
      rw [if_pos rfl] at q3
      refine iteT ⟨ρ, h3, al3, ((rs.evo e1).evo e2).evo e3, rh3, (PostG.bind q3).imp ?_⟩
      rintro z H4 ⟨f, h4, al4, e4, rh4, r4, q4⟩
      exact hc2 _ H4 al4 h4 y z e f Q rh4 (r2.evo (e3.trans e4)) r4 q4
    | false =>
      rw [if_neg (by decide)] at q3
      exact iteF (PostG.val q3 rh3 .bl)
  | _ => exact q3.elim
end
end DL

namespace DL
open PySem PySem.Spec PyProof.Rows L2
section
variable {X : Cx} {K : PySem.W.Frag} {W : WX} {tg e a b c : Expr} {es : List Expr} {pos : Pos} {ma mb mc : EM D} {mt : EM Bool} {mr : EM (List D)}
/-- a module's constant -/
theorem de_globE {x : Str} {v : V} {d : D} (hg : Gl X x) (hm : ∃ u, X.mg x = some u ∧ RelV v u) (rd : ∀ H al, RV X.K H al d v) (hd : (x == ("__debug__" : Str)) = false := by decide) {pos : Pos} : DE X W (.Name x pos) (mC d) := by
  obtain ⟨u, h1, h2⟩ := hm
  exact de_glob hg h1 h2 rd hd
/-- a tuple of texts of the written part -/
theorem wtup {a : Addr} {oc : Option Addr} {its : List Value} {n : Nat} {sl : Array (Option Value)} {ds : List D} {vs : List V} (l : K.lookup a = some ⟨.type "tuple", oc, .seq its.toArray n, sl⟩) (hl : its.length ≤ sizeLine) (hv : Vals vs its) (r : ∀ H al, RVs K H al ds vs) : ∀ H al, RV K H al (.tup ds) (.ref a) :=
  fun H al => .tup (.inr ⟨_, _, n, l, rfl, rfl, by simpa using hl, by simpa using hv⟩) (r H al)
open Classical in
/-- a in d, d a dict of the module with text keys -/
noncomputable def gInKD (neg : Bool) (a : Addr) (f : Str → Option D) (d e : D) (h : DH) : Out D := match d, e with
  | .str z, .raw v => if v = .ref a then .val (.bl (if neg then !(f z).isSome else (f z).isSome)) h else .bad
  | _, _ => .bad
theorem oc_inkd {ad : Addr} {f : Str → Option D} (neg : Bool) (hf : ∀ z, ∃ r, PySem.W.nsIn K ad z = some r ∧ r.isSome = (f z).isSome) :
    OpC K (fun x y H Q => ∃ (z : Str) (r : Option Value), x = .str z ∧ y = .ref ad ∧ PySem.W.nsIn K ad z = some r ∧ Q (.bl (if neg then !r.isSome else r.isSome)) H) (gInKD neg ad f) := by
  intro Wx H al h x y d e Q rh r1 r2 q
  unfold gInKD at q
  split at q
  · cases r1; cases r2
    obtain ⟨hz, q⟩ := ite_post q
    rename_i z v
    obtain ⟨r, h1, h2⟩ := hf z
    refine ⟨z, r, rfl, hz, h1, ?_⟩
    rw [h2]
    exact PostG.val q rh .bl
  · exact q.elim
theorem op_in_kdd {d : Addr} {es : Array DictEntry} {n : Nat} (D : KDict X.K X.w d es n) : OpR X (compareOp .In) (fun x y H Q => ∃ (z : Str) (r : Option Value), x = .str z ∧ y = .ref d ∧ PySem.W.nsIn X.K d z = some r ∧ Q (.bl (if false then !r.isSome else r.isSome)) H) := op_in_kd D
theorem op_notin_kdd {d : Addr} {es : Array DictEntry} {n : Nat} (D : KDict X.K X.w d es n) : OpR X (compareOp .NotIn) (fun x y H Q => ∃ (z : Str) (r : Option Value), x = .str z ∧ y = .ref d ∧ PySem.W.nsIn X.K d z = some r ∧ Q (.bl (if true then !r.isSome else r.isSome)) H) := op_notIn_kd D
/-- {} -/
def mDictE : EM D := fun _ h => .val (.ref h.length) (h ++ [.dk []])
theorem de_dictE : DE X W (.Dict [] [] pos) mDictE := by
  refine pe_dnewK.imp fun σ H Q ⟨ρ, h, al, rs, rh, q⟩ p hp => ?_
  have ev : Evo X.K H al (upd H p (.dK [])) (al ++ [p]) := Evo.new hp
  refine q _ (al ++ [p]) _ ev (rh.new hp ⟨[], upd_same, .nil⟩) (.ref ?_)
  rw [rh.len, List.getElem?_append_right (Nat.le_refl _)]
  simp
/-- isinstance(e, C) within a suite -/
theorem de_isE {a0 : Addr} {oe : Obj} {pn : List (Addr × Obj)} {cls : Value} {kit : Value → Value → Option Bool} {p : Pos} {e1 e2 : Expr} (hz : Zc cls none oe) (hv : ∃ vs, oe.data = .fields vs) (hD : ∃ Dc, cls = .ref Dc ∧ ExcC X.K Dc ∧ ∀ c b, kit cls c = some b → PySem.W.kitOne X.K (.ref Dc) c = some b)
    (hg : Gl (X.suite a0 ((a0, oe) :: pn)) "isinstance") (hm : X.mg "isinstance" = none) (ha : DA (X.suite a0 ((a0, oe) :: pn)) W0 [e1, e2] mr) (he : starEach [e1, e2] X.env = (false, eval e1 X.env) :: starEach [e2] X.env := by rfl) (hpl : (backTo pos (starEach [e2] X.env)).any (·.1) = false := by rfl) : DE (X.suite a0 ((a0, oe) :: pn)) W0 (.Call (.Name "isinstance" p) [e1, e2] [] pos) (mCall (gIsE a0 (kit cls)) mr) := by
  obtain ⟨Dc, rfl, xc, hk⟩ := hD
  exact de_callB (X := X.suite a0 ((a0, oe) :: pn)) (call_isE xc hz hv) (cc_isE hk) hg hm (by decide +kernel) ha (by decide) (by decide) he hpl
/-- list(reversed(x)) -/
def mChn (g g' : D → D → DH → Out D) (ma mb mc : EM D) : EM D := fun ρ h => (ma ρ h).bind fun x h1 => (mb ρ h1).bind fun y h2 => (g x y h2).bind (asB fun k h3 => if k = true then (mc ρ h3).bind fun z h4 => g' y z h4 else .val (.bl false) h3)
theorem de_chain {op op' : CmpOp} {r r' : R2} {g g' : D → D → DH → Out D} (ho : OpR X (compareOp op) r) (hc1 : OpC X.K r g) (ho' : OpR X (compareOp op') r') (hc2 : OpC X.K r' g') (ha : DE X W a ma) (hb : DE X W b mb) (hc : DE X W c mc)
    (hm : lastMarks [op, op'] [b, c] = false := by with_unfolding_all rfl) : DE X W (.Compare a [op, op'] [b, c] pos) (mChn g g' ma mb mc) := dt_chain ho hc1 ho' hc2 (pe_chain ho ho' ha hb hc hm)
theorem dt_chain2 {op op' : CmpOp} {r r' : R2} {g g' : D → D → DH → Out D} (ho : OpR X (compareOp op) r) (hc1 : OpC X.K r g) (ho' : OpR X (compareOp op') r') (hc2 : OpC X.K r' g') (ha : DE X W a ma) (hb : DE X W b mb) (hc : DE X W c mc)
    (hm : lastMarks [op, op'] [b, c] = false := by with_unfolding_all rfl) : DT X W (.Compare a [op, op'] [b, c] pos) (mB (mChn g g' ma mb mc)) := by
  refine (pt_chain ho ho' ha hb hc hm).imp fun σ H Q q => test_imp (fun σ H Q q => ?_) σ H Q q
  obtain ⟨ρ, h, al, rs, rh, q⟩ := q
  refine ⟨ρ, h, al, rs, rh, (PostG.bind q).imp ?_⟩
  rintro x H1 ⟨d, h1, al1, e1, rh1, r1, q1⟩
  refine ⟨ρ, h1, al1, rs.evo e1, rh1, (PostG.bind q1).imp ?_⟩
  rintro y H2 ⟨e, h2, al2, e2, rh2, r2, q2⟩
  refine hc1 _ H2 al2 h2 x y d e _ rh2 (r1.evo e2) r2 ((PostG.bind q2).imp ?_)
  rintro z H3 ⟨f, h3, al3, e3, rh3, r3, q3⟩
  cases r3 with
  | bl =>
    rename_i k
    refine ⟨k, rfl, ?_⟩
    have q3 : PostG X.K (RV X.K) (fun c d H' => W c d σ H') H3 al3 (if k = true then (mc ρ h3).bind fun z h4 => g' e z h4 else .val (.bl false) h3) Q := q3
    cases k with
    | true =>
      rw [if_pos rfl] at q3
      refine iteT ⟨ρ, h3, al3, ((rs.evo e1).evo e2).evo e3, rh3, (PostG.bind q3).imp ?_⟩
      rintro z H4 ⟨f, h4, al4, e4, rh4, r4, q4⟩
      exact hc2 _ H4 al4 h4 y z e f Q rh4 (r2.evo (e3.trans e4)) r4 q4
    | false =>
      rw [if_neg (by decide)] at q3
      exact iteF (PostG.val q3 rh3 .bl)
  | _ => exact q3.elim
end
end DL

namespace DL
open PySem PySem.Spec PyProof.Rows L2
/-! running by simp -/
@[simp] theorem ofs_inj {s t : String} : (Str.ofString s = Str.ofString t) ↔ s = t := by
  refine ⟨fun e => ?_, fun e => by rw [e]⟩
  rw [Str.ofString_eq_toList, Str.ofString_eq_toList] at e
  injection e with e
  have e := congrArg Array.toList e
  simp only [List.toList_toArray] at e
  have e := (List.map_inj_right (f := Char.toNat) (fun x y h => Char.ext (UInt32.toNat_inj.mp h))).mp e
  exact String.toList_inj.mp e
@[simp] theorem ofs_len {s : String} : (Str.ofString s).length = s.length := by
  rw [Str.ofString_eq_toList]
  show (List.toArray (s.toList.map Char.toNat)).size = _
  simp [String.length_toList]
@[simp] theorem ofs_beq {s t : String} : (Str.ofString s == Str.ofString t) = (s == t) := by
  rw [Bool.eq_iff_iff]; simp

section
variable {β : Type} {ma mb mc : EM D} {mt mu : EM Bool} {mr : EM (List D)} {m n : SM} {ρ : DEnv} {h : DH} {i : Nat} {d e : D}
@[simp] theorem r_mVar : mVar i ρ h = match ρ.getD i none with
  | some d => .val d h
  | none => .bad := rfl
@[simp] theorem r_mC {d : β} : mC d ρ h = .val d h := rfl
@[simp] theorem r_mOp {g : D → D → DH → Out β} : mOp g ma mb ρ h = (ma ρ h).bind fun x h1 => (mb ρ h1).bind fun y h2 => g x y h2 := rfl
@[simp] theorem r_mUn {g : D → DH → Out β} : mUn g ma ρ h = (ma ρ h).bind g := rfl
@[simp] theorem r_mB : mB ma ρ h = (ma ρ h).bind (asB fun b h => .val b h) := rfl
@[simp] theorem r_asB {k : Bool → DH → Out β} {b : Bool} : asB k (.bl b) h = k b h := rfl
@[simp] theorem r_mAnd : mAnd mt mu ρ h = (mt ρ h).bind fun k h1 => if k = true then mu ρ h1 else .val false h1 := rfl
@[simp] theorem r_mOr : mOr mt mu ρ h = (mt ρ h).bind fun k h1 => if k = true then .val true h1 else mu ρ h1 := rfl
@[simp] theorem r_mNot : mNot mt ρ h = (mt ρ h).bind fun k h1 => .val (!k) h1 := rfl
@[simp] theorem r_mIf {ma mb : EM β} : mIf mt ma mb ρ h = (mt ρ h).bind fun k h1 => if k = true then ma ρ h1 else mb ρ h1 := rfl
@[simp] theorem r_mAndV : mAndV ma mb ρ h = (ma ρ h).bind (asB fun k h1 => if k = true then mb ρ h1 else .val (.bl false) h1) := rfl
@[simp] theorem r_mOrV : mOrV ma mb ρ h = (ma ρ h).bind (asB fun k h1 => if k = true then .val (.bl true) h1 else mb ρ h1) := rfl
@[simp] theorem r_mNotV : mNotV ma ρ h = (ma ρ h).bind (asB fun k h1 => .val (.bl (!k)) h1) := rfl
@[simp] theorem r_mNil : mNil ρ h = .val [] h := rfl
@[simp] theorem r_mCons : mCons ma mr ρ h = (ma ρ h).bind fun x h1 => (mr ρ h1).bind fun xs h2 => .val (x :: xs) h2 := rfl
@[simp] theorem r_mTup : mTup mr ρ h = (mr ρ h).bind fun xs h1 => if xs.length ≤ sizeLine then .val (.tup xs) h1 else .bad := rfl
@[simp] theorem r_mLst : mLst mr ρ h = (mr ρ h).bind fun xs h1 => if xs.length ≤ sizeLine then .val (.ref h1.length) (h1 ++ [.lst xs]) else .bad := rfl
@[simp] theorem r_mCall {F : List D → DH → Out β} : mCall F mr ρ h = (mr ρ h).bind F := rfl
@[simp] theorem r_mPN : mPN ρ h = .val none h := rfl
@[simp] theorem r_mPS : mPS ma ρ h = (ma ρ h).bind fun d h1 => match d with
  | .int i => .val (some i) h1
  | _ => .bad := rfl
@[simp] theorem r_mSl {ml mh : EM (Option Int)} : mSl ma ml mh ρ h = (ma ρ h).bind fun d h1 => (ml ρ h1).bind fun lo h2 => (mh ρ h2).bind fun hi h3 => gSl d lo hi h3 := rfl
@[simp] theorem r_mM0 {g : D → List D → DH → Out D} : mM0 g ma ρ h = (ma ρ h).bind fun d h1 => if isStrD d = true then g d [] h1 else .bad := rfl
@[simp] theorem r_mM1 {g : D → List D → DH → Out D} : mM1 g ma mb ρ h = (ma ρ h).bind fun d h1 => if isStrD d = true then (mb ρ h1).bind fun e h2 => g d [e] h2 else .bad := rfl
@[simp] theorem r_isStrD {x : Str} : isStrD (.str x) = true := rfl
@[simp] theorem r_sNil : sNil ρ h = .nx ρ h := rfl
@[simp] theorem r_sSeq : sSeq m n ρ h = (m ρ h).thn n := rfl
@[simp] theorem r_sBrk : sBrk ρ h = .brk ρ h := rfl
@[simp] theorem r_sCnt : sCnt ρ h = .cnt ρ h := rfl
@[simp] theorem r_sExpr : sExpr ma ρ h = (ma ρ h).toS ρ fun _ h1 => .nx ρ h1 := rfl
@[simp] theorem r_sRet : sRet ma ρ h = (ma ρ h).toS ρ fun d h1 => .ret d h1 := rfl
@[simp] theorem r_sIf : sIf mt m n ρ h = (mt ρ h).toS ρ fun k h1 => if k = true then m ρ h1 else n ρ h1 := rfl
@[simp] theorem r_gSet : gSet i d ρ h = .nx (ρ.set i (some d)) h := rfl
@[simp] theorem r_sAsg {g : GM} : sAsg ma g ρ h = (ma ρ h).toS ρ fun d h1 => g d ρ h1 := rfl
@[simp] theorem r_sPar {j : Nat} : sPar i j mr ρ h = (mr ρ h).toS ρ fun ds h1 => match ds with
  | [d, e] => .nx ((ρ.set i (some d)).set j (some e)) h1
  | _ => .bad := rfl
@[simp] theorem r_sRaise {c : Value} : sRaise c ρ h = .exc ⟨c, []⟩ ρ h := rfl
@[simp] theorem r_fin_nx : (SOut.nx ρ h).fin = .val .non h := rfl
@[simp] theorem r_fin_ret : (SOut.ret d h).fin = .val d h := rfl
@[simp] theorem r_fin_exc {x : DX} : (SOut.exc x ρ h).fin = .exc x h := rfl
@[simp] theorem r_fin_bad : SOut.bad.fin = .bad := rfl
theorem r_rng1 {h' : DH} {j : Int} (e : mr ρ h = .val [.int j] h') (z : gR62 j) : iRng1D mr ρ h = .val (fun _ => some (rangeD 0 j.toNat)) h' := by
  unfold iRng1D; rw [e]; exact if_pos z
theorem r_rng2 {h' : DH} {i j : Int} (e : mr ρ h = .val [.int i, .int j] h') (y : gR62 i) (z : gR62 j) : iRng2D mr ρ h = .val (fun _ => some (rangeD i (j - i).toNat)) h' := by
  unfold iRng2D; rw [e]; exact if_pos ⟨y, z⟩
theorem r_for {mi : EM ItD} {g : GM} {it : ItD} {ds : List D} {h1 : DH} (e : mi ρ h = .val it h1) (e2 : it h1 = some ds) : sFor mi g m ρ h = loopL it ds g m ds ρ h1 := by
  unfold sFor; rw [e]; show (match it h1 with | some ds => loopL it ds g m ds ρ h1 | none => .bad) = _; rw [e2]
theorem small62 {n : Nat} (h : n ≤ 1000000) : gR62 (n : Int) := ⟨by omega, by omega⟩
theorem e_call {F : List D → DH → Out β} {ds : List D} {h' : DH} (e : mr ρ h = .val ds h') : mCall F mr ρ h = F ds h' := by rw [r_mCall, e]; rfl
theorem e_cons {x : D} {xs : List D} {h1 h2 : DH} (e : ma ρ h = .val x h1) (e2 : mr ρ h1 = .val xs h2) : mCons ma mr ρ h = .val (x :: xs) h2 := by rw [r_mCons, e]; show ((mr ρ h1).bind _) = _; rw [e2]; rfl
theorem e_nil : mNil ρ h = .val [] h := rfl
theorem e_B {b : Bool} {h1 : DH} (e : ma ρ h = .val (.bl b) h1) : mB ma ρ h = .val b h1 := by rw [r_mB, e]; rfl
theorem e_not {b : Bool} {h1 : DH} (e : mt ρ h = .val b h1) : mNot mt ρ h = .val (!b) h1 := by rw [r_mNot, e]; rfl
theorem e_op {g : D → D → DH → Out β} {x y : D} {h1 h2 : DH} (e : ma ρ h = .val x h1) (e2 : mb ρ h1 = .val y h2) : mOp g ma mb ρ h = g x y h2 := by rw [r_mOp, e]; show ((mb ρ h1).bind _) = _; rw [e2]; rfl
theorem e_andT {h1 : DH} (e : mt ρ h = .val true h1) : mAnd mt mu ρ h = mu ρ h1 := by rw [r_mAnd, e]; rfl
theorem e_andF {h1 : DH} (e : mt ρ h = .val false h1) : mAnd mt mu ρ h = .val false h1 := by rw [r_mAnd, e]; rfl
theorem e_orT {h1 : DH} (e : mt ρ h = .val true h1) : mOr mt mu ρ h = .val true h1 := by rw [r_mOr, e]; rfl
theorem e_orF {h1 : DH} (e : mt ρ h = .val false h1) : mOr mt mu ρ h = mu ρ h1 := by rw [r_mOr, e]; rfl
theorem e_ret {h1 : DH} (e : ma ρ h = .val d h1) : sRet ma ρ h = .ret d h1 := by rw [r_sRet, e]; rfl
theorem fin_step {a : SOut} {r : Out D} {ρ : DEnv} {h : DH} (e : a = .nx ρ h) (k : (n ρ h).fin = r) : (a.thn n).fin = r := by rw [e]; exact k
theorem nx_step {a : SOut} {r : SOut} {ρ : DEnv} {h : DH} (e : a = .nx ρ h) (k : n ρ h = r) : a.thn n = r := by rw [e]; exact k
theorem asg_step {g : GM} {h' : DH} {r : SOut} (e : ma ρ h = .val d h') (k : g d ρ h' = r) : sAsg ma g ρ h = r := by rw [r_sAsg, e]; exact k
theorem if_step {b : Bool} {h' : DH} {r : SOut} (e : mt ρ h = .val b h') (k : (if b = true then m ρ h' else n ρ h') = r) : sIf mt m n ρ h = r := by rw [r_sIf, e]; exact k
/-! operators -/
@[simp] theorem r_add_int {i j : Int} : gAdd (.int i) (.int j) h = .val (.int (i + j)) h := rfl
@[simp] theorem r_I0 {f : Int → Int → D} {i j : Int} : gI0 f (.int i) (.int j) h = .val (f i j) h := rfl
theorem r_II {C : Int → Int → Prop} {f : Int → Int → D} {i j : Int} (c : C i j) : gII C f (.int i) (.int j) h = .val (f i j) h := by
  unfold gII; exact if_pos c
@[simp] theorem r_neg {i : Int} : gNeg (.int i) h = .val (.int (-i)) h := rfl
@[simp] theorem r_lt_int {i j : Int} : gLt (.int i) (.int j) h = .val (.bl (decide (i < j))) h := rfl
theorem r_mod {i j : Int} (c : 0 < j) : gMod (.int i) (.int j) h = .val (.int (i % j)) h := r_II c
theorem r_fdivG {i j : Int} (c : j ≠ 0) (c2 : j.natAbs < 2 ^ 9000) : gFdiv (.int i) (.int j) h = .val (.int (i.fdiv j)) h := r_II ⟨c, PySem.Flt.log2_lt_of (by decide) c2⟩
theorem r_fdiv {i j : Int} (c : 0 < j) (c2 : j.natAbs < 2 ^ 9000) : gFdiv (.int i) (.int j) h = .val (.int (i / j)) h := by
  rw [r_fdivG (by omega) c2, Int.fdiv_eq_ediv_of_nonneg i (by omega)]
theorem r_mul {i j : Int} {a b : Nat} (ha : i.natAbs < 2 ^ a) (hb : j.natAbs < 2 ^ b) (h0 : 0 < a) (h1 : 0 < b) (hs : a + b ≤ 1000000) : gMul (.int i) (.int j) h = .val (.int (i * j)) h := r_II (.inr (wide_mul ha hb h0 h1 hs))
theorem r_mulR {i j : Int} (h1 : -(2 ^ 64) < j) (h2 : j < 2 ^ 64) : gMul (.int i) (.int j) h = .val (.int (i * j)) h := r_II (.inl (.inr ⟨h1, h2⟩))
theorem r_mulL {i j : Int} (h1 : -(2 ^ 64) < i) (h2 : i < 2 ^ 64) : gMul (.int i) (.int j) h = .val (.int (i * j)) h := r_II (.inl (.inl ⟨h1, h2⟩))
theorem r_pow {i j : Int} (c : CPow i j) : gPow (.int i) (.int j) h = .val (.int (i ^ j.toNat)) h := r_II c
@[simp] theorem r_len_tup {xs : List D} : gLen [.tup xs] h = .val (.int xs.length) h := rfl
theorem r_len_lst {k : Nat} {xs : List D} (e : listAt h k = some xs) : gLen [.ref k] h = .val (.int xs.length) h := by
  unfold listAt at e; unfold gLen
  split at e
  · rename_i e1; cases e; dsimp only; rw [e1]
  · rename_i e1; cases e; dsimp only; rw [e1]
  · cases e
@[simp] theorem r_max2 {i j : Int} : gMax2 [.int i, .int j] h = .val (.int (if j > i then j else i)) h := rfl
@[simp] theorem r_min2 {i j : Int} : gMin2 [.int i, .int j] h = .val (.int (if j < i then j else i)) h := rfl
@[simp] theorem r_abs {i : Int} : gAbs [.int i] h = .val (.int (if i < 0 then -i else i)) h := rfl
@[simp] theorem r_int_i {i : Int} : gInt1 [.int i] h = .val (.int i) h := rfl
@[simp] theorem r_int_b {b : Bool} : gInt1 [.bl b] h = .val (.int (if b then 1 else 0)) h := rfl
@[simp] theorem r_tupOf_tup {xs : List D} : gTupOf [.tup xs] h = .val (.tup xs) h := rfl
theorem r_tupOf_lst {k : Nat} {xs : List D} (e : listAt h k = some xs) : gTupOf [.ref k] h = .val (.tup xs) h := by
  unfold gTupOf; dsimp only; rw [e]
theorem r_ix_tup {xs : List D} {k : Nat} {x : D} (e : xs[k]? = some x) : gIx (.tup xs) (.int (k : Int)) h = .val x h := by
  unfold gIx; dsimp only; rw [L2.atI_nat e]
@[simp] theorem r_ix0 {x : D} {xs : List D} : gIx (.tup (x :: xs)) (.int 0) h = .val x h := r_ix_tup (k := 0) rfl
@[simp] theorem r_ix1 {x y : D} {xs : List D} : gIx (.tup (x :: y :: xs)) (.int 1) h = .val y h := r_ix_tup (k := 1) rfl
theorem r_ix_lst {p : Nat} {xs : List D} {k : Nat} {x : D} (e0 : listAt h p = some xs) (e : xs[k]? = some x) : gIx (.ref p) (.int (k : Int)) h = .val x h := by
  unfold gIx; dsimp only; rw [e0]; dsimp only; rw [L2.atI_nat e]
theorem r_ix_tupI {xs : List D} {i : Int} {x : D} (e : L2.atI xs i = some x) : gIx (.tup xs) (.int i) h = .val x h := by
  unfold gIx; dsimp only; rw [e]
theorem r_ix_lstI {p : Nat} {xs : List D} {i : Int} {x : D} (e0 : listAt h p = some xs) (e : L2.atI xs i = some x) : gIx (.ref p) (.int i) h = .val x h := by
  unfold gIx; dsimp only; rw [e0]; dsimp only; rw [e]
@[simp] theorem r_sl_tup {xs : List D} {lo hi : Option Int} : gSl (.tup xs) lo hi h = .val (.tup (cutD xs lo hi)) h := rfl
theorem r_sl_lst {p : Nat} {xs : List D} {lo hi : Option Int} (e : listAt h p = some xs) : gSl (.ref p) lo hi h = .val (.ref h.length) (h ++ [.lst (cutD xs lo hi)]) := by
  unfold gSl; dsimp only; rw [e]
/-! equality of flat things -/
theorem r_eq_scal {d e : D} {h : DH} (z : scalD d e = true) : gEq d e h = .val (.bl (eqD d e)) h := if_pos z
theorem r_ne_scal {d e : D} {h : DH} (z : scalD d e = true) : gNe d e h = .val (.bl (!eqD d e)) h := if_pos z
@[simp] theorem r_eq_str {x y : Str} {h : DH} : gEq (.str x) (.str y) h = .val (.bl (x == y)) h := rfl
@[simp] theorem r_eq_int {x y : Int} {h : DH} : gEq (.int x) (.int y) h = .val (.bl (x == y)) h := rfl
@[simp] theorem r_ne_str {x y : Str} {h : DH} : gNe (.str x) (.str y) h = .val (.bl (!(x == y))) h := rfl
@[simp] theorem r_ne_int {x y : Int} {h : DH} : gNe (.int x) (.int y) h = .val (.bl (!(x == y))) h := rfl
/-! isinstance -/
@[simp] theorem r_isTy {T t : String} {b : Bool} (e : tyD h d = some t) (k : kitB t T = some b) : gIsTy [d, .raw (.ty T)] h = .val (.bl b) h := by
  unfold gIsTy; dsimp only; rw [e]; dsimp only; rw [k]
@[simp] theorem r_str_str {x : Str} : gIsTy [.str x, .raw (.ty "str")] h = .val (.bl true) h := r_isTy (t := "str") rfl (by decide +kernel)
@[simp] theorem r_tup_tup {x : List D} : gIsTy [.tup x, .raw (.ty "tuple")] h = .val (.bl true) h := r_isTy (t := "tuple") rfl (by decide +kernel)
@[simp] theorem r_int_int {x : Int} : gIsTy [.int x, .raw (.ty "int")] h = .val (.bl true) h := r_isTy (t := "int") rfl (by decide +kernel)
@[simp] theorem r_int_bool {x : Int} : gIsTy [.int x, .raw (.ty "bool")] h = .val (.bl false) h := r_isTy (t := "int") rfl (by decide +kernel)
@[simp] theorem r_bl_int {x : Bool} : gIsTy [.bl x, .raw (.ty "int")] h = .val (.bl true) h := r_isTy (t := "bool") rfl (by decide +kernel)
@[simp] theorem r_bl_bool {x : Bool} : gIsTy [.bl x, .raw (.ty "bool")] h = .val (.bl true) h := r_isTy (t := "bool") rfl (by decide +kernel)
end
/-! ### heaps that grow -/
theorem listAt_app {h j : DH} {n : Nat} {xs : List D} (e : listAt h n = some xs) : listAt (h ++ j) n = some xs := by
  unfold listAt at e ⊢
  cases q : h[n]? with
  | none => rw [q] at e; cases e
  | some o =>
    have hn := (List.getElem?_eq_some_iff.mp q).1
    rw [List.getElem?_append_left hn, q]
    rw [q] at e; exact e
theorem listAt_mid {h j : DH} {xs : List D} : listAt (h ++ .lst xs :: j) h.length = some xs := by
  unfold listAt
  rw [List.getElem?_append_right (Nat.le_refl _)]
  simp
theorem listAt_end {h : DH} {xs : List D} : listAt (h ++ [.lst xs]) h.length = some xs := listAt_mid
theorem get_mid {h j : DH} {o : DO} : (h ++ o :: j)[h.length]? = some o := by
  rw [List.getElem?_append_right (Nat.le_refl _)]; simp
theorem set_mid {h j : DH} {o o' : DO} : (h ++ o :: j).set h.length o' = h ++ o' :: j := by
  rw [List.set_append_right _ _ (Nat.le_refl _)]; simp
/-! ### comprehensions -/
/-- each element may lay things behind -/
theorem lcLoop_map {it : ItD} {all : List D} {c : CT} {mt : EM Bool} {me : EM D} {ρ : DEnv} {h : DH} {p : D → Bool} {g : D → D} (hit : ∀ acc j, it (h ++ .lst acc :: j) = some all) :
    ∀ (ds : List D) (acc : List D) (j : DH), acc.length + ds.length < sizeLine →
      (∀ d ∈ ds, ∃ ρ2, c.put d ρ = some ρ2 ∧ ∀ acc j, ∃ j1, mt ρ2 (h ++ .lst acc :: j) = .val (p d) (h ++ .lst acc :: (j ++ j1)) ∧ (p d = true → ∀ j, ∃ j2, me ρ2 (h ++ .lst acc :: j) = .val (g d) (h ++ .lst acc :: (j ++ j2)))) →
      ∃ j', lcLoop it all c mt me h.length ρ ds (h ++ .lst acc :: j) = .val (.ref h.length) (h ++ .lst (acc ++ (ds.filter p).map g) :: j')
  | [], acc, j, _, _ => by
    refine ⟨j, ?_⟩
    unfold lcLoop
    rw [if_pos (hit acc j)]
    simp
  | d :: ds, acc, j, hz, hs => by
    obtain ⟨ρ2, h1, h2⟩ := hs d List.mem_cons_self
    obtain ⟨j1, e1, h3⟩ := h2 acc j
    rw [List.length_cons] at hz
    unfold lcLoop
    rw [if_pos (hit acc j), h1]
    dsimp only
    rw [e1]
    cases hp : p d with
    | true =>
      obtain ⟨j2, e2⟩ := h3 hp (j ++ j1)
      dsimp only
      rw [e2]
      dsimp only
      rw [get_mid]
      dsimp only
      rw [if_pos (by omega), set_mid]
      obtain ⟨j', e⟩ := lcLoop_map hit ds (acc ++ [g d]) (j ++ j1 ++ j2) (by rw [List.length_append]; simp; omega) (fun d hd => hs d (List.mem_cons_of_mem _ hd))
      refine ⟨j', e.trans ?_⟩
      rw [List.filter_cons_of_pos hp]
      simp
    | false =>
      dsimp only
      obtain ⟨j', e⟩ := lcLoop_map hit ds acc (j ++ j1) (by omega) (fun d hd => hs d (List.mem_cons_of_mem _ hd))
      refine ⟨j', e.trans ?_⟩
      rw [List.filter_cons_of_neg (by rw [hp]; exact Bool.false_ne_true)]
theorem mLc_map {mi : EM ItD} {c : CT} {mt : EM Bool} {me : EM D} {vs : List Nat} {ρ : DEnv} {h0 h : DH} {it : ItD} {ds : List D} {p : D → Bool} {g : D → D} (e : mi ρ h0 = .val it h) (hit0 : it h = some ds) (hit : ∀ acc j, it (h ++ .lst acc :: j) = some ds) (hz : ds.length < sizeLine)
    (hs : ∀ d ∈ ds, ∃ ρ2, c.put d (wipeD ρ vs) = some ρ2 ∧ ∀ acc j, ∃ j1, mt ρ2 (h ++ .lst acc :: j) = .val (p d) (h ++ .lst acc :: (j ++ j1)) ∧ (p d = true → ∀ j, ∃ j2, me ρ2 (h ++ .lst acc :: j) = .val (g d) (h ++ .lst acc :: (j ++ j2)))) :
    ∃ j', mLc mi c mt me vs ρ h0 = .val (.ref h.length) (h ++ .lst ((ds.filter p).map g) :: j') := by
  unfold mLc
  rw [e]
  simp only [Out.bind_val]
  rw [hit0]
  dsimp only
  obtain ⟨j', e⟩ := lcLoop_map (ρ := wipeD ρ vs) (mt := mt) (me := me) (g := g) hit ds [] [] (by simpa using hz) hs
  exact ⟨j', by simpa using e⟩
/-! ### loops -/
theorem loopL_go {it : ItD} {all : List D} {g : GM} {m : SM} (Inv : Nat → DEnv → DH → Prop) (Ex : SOut → Prop) (hit : ∀ i ρ h, Inv i ρ h → it h = some all)
    (step : ∀ i d ρ h, all[i]? = some d → Inv i ρ h → ∃ ρ1 h1, g d ρ h = .nx ρ1 h1 ∧ ((∃ ρ2 h2, (m ρ1 h1 = .nx ρ2 h2 ∨ m ρ1 h1 = .cnt ρ2 h2) ∧ Inv (i + 1) ρ2 h2) ∨ (∃ ρ2 h2, m ρ1 h1 = .brk ρ2 h2 ∧ Ex (.nx ρ2 h2)) ∨ ((∃ d h2, m ρ1 h1 = .ret d h2 ∧ Ex (.ret d h2)) ∨ ∃ x ρ2 h2, m ρ1 h1 = .exc x ρ2 h2 ∧ Ex (.exc x ρ2 h2)))) :
    ∀ (ds : List D) (i : Nat) (ρ : DEnv) (h : DH), all.drop i = ds → i ≤ all.length → Inv i ρ h → (∃ ρ' h', loopL it all g m ds ρ h = .nx ρ' h' ∧ Inv all.length ρ' h') ∨ Ex (loopL it all g m ds ρ h)
  | [], i, ρ, h, e, hi, hI => by
    have : i = all.length := by
      have := congrArg List.length e
      simp at this; omega
    subst this
    unfold loopL
    rw [if_pos (hit _ _ _ hI)]
    exact .inl ⟨ρ, h, rfl, hI⟩
  | d :: ds, i, ρ, h, e, hi, hI => by
    have hd : all[i]? = some d := by
      have := congrArg List.head? e
      rw [List.head?_drop] at this
      exact this
    have hr : all.drop (i + 1) = ds := by
      have := congrArg List.tail e
      rw [List.tail_drop] at this
      exact this
    have hlt : i < all.length := (List.getElem?_eq_some_iff.mp hd).1
    unfold loopL
    rw [if_pos (hit _ _ _ hI)]
    obtain ⟨ρ1, h1, e1, z⟩ := step i d ρ h hd hI
    rw [e1]
    simp only [SOut.thn_nx]
    rcases z with ⟨ρ2, h2, z, I2⟩ | ⟨ρ2, h2, z, I2⟩ | ⟨d2, h2, z, I2⟩ | ⟨x, ρ2, h2, z, I2⟩
    · have ih := loopL_go Inv Ex hit step ds (i + 1) ρ2 h2 hr hlt I2
      rcases z with z | z
      · rw [z]; exact ih
      · rw [z]; exact ih
    · rw [z]; exact .inr I2
    · rw [z]; exact .inr I2
    · rw [z]; exact .inr I2
/-- a for and what follows it -/
theorem for_end {mi : EM ItD} {g : GM} {m n : SM} {ρ : DEnv} {h h1 : DH} {it : ItD} {all : List D} {P : Out D → Prop} (Inv : Nat → DEnv → DH → Prop) (Ex : SOut → Prop) (e : mi ρ h = .val it h1) (e2 : it h1 = some all) (hit : ∀ i ρ h, Inv i ρ h → it h = some all)
    (step : ∀ i d ρ h, all[i]? = some d → Inv i ρ h → ∃ ρ1 h1, g d ρ h = .nx ρ1 h1 ∧ ((∃ ρ2 h2, (m ρ1 h1 = .nx ρ2 h2 ∨ m ρ1 h1 = .cnt ρ2 h2) ∧ Inv (i + 1) ρ2 h2) ∨ (∃ ρ2 h2, m ρ1 h1 = .brk ρ2 h2 ∧ Ex (.nx ρ2 h2)) ∨ ((∃ d h2, m ρ1 h1 = .ret d h2 ∧ Ex (.ret d h2)) ∨ ∃ x ρ2 h2, m ρ1 h1 = .exc x ρ2 h2 ∧ Ex (.exc x ρ2 h2))))
    (i0 : Inv 0 ρ h1) (k1 : ∀ ρ' h', Inv all.length ρ' h' → P (n ρ' h').fin) (k2 : ∀ o, Ex o → P (o.thn n).fin) : P ((sFor mi g m ρ h).thn n).fin := by
  rw [r_for e e2]
  rcases loopL_go Inv Ex hit step all 0 ρ h1 rfl (Nat.zero_le _) i0 with ⟨ρ', h', e3, z⟩ | z
  · rw [e3]; exact k1 ρ' h' z
  · exact k2 _ z
/-- the same within a block -/
theorem for_endS {mi : EM ItD} {g : GM} {m n : SM} {ρ : DEnv} {h h1 : DH} {it : ItD} {all : List D} {P : SOut → Prop} (Inv : Nat → DEnv → DH → Prop) (Ex : SOut → Prop) (e : mi ρ h = .val it h1) (e2 : it h1 = some all) (hit : ∀ i ρ h, Inv i ρ h → it h = some all)
    (step : ∀ i d ρ h, all[i]? = some d → Inv i ρ h → ∃ ρ1 h1, g d ρ h = .nx ρ1 h1 ∧ ((∃ ρ2 h2, (m ρ1 h1 = .nx ρ2 h2 ∨ m ρ1 h1 = .cnt ρ2 h2) ∧ Inv (i + 1) ρ2 h2) ∨ (∃ ρ2 h2, m ρ1 h1 = .brk ρ2 h2 ∧ Ex (.nx ρ2 h2)) ∨ ((∃ d h2, m ρ1 h1 = .ret d h2 ∧ Ex (.ret d h2)) ∨ ∃ x ρ2 h2, m ρ1 h1 = .exc x ρ2 h2 ∧ Ex (.exc x ρ2 h2))))
    (i0 : Inv 0 ρ h1) (k1 : ∀ ρ' h', Inv all.length ρ' h' → P (n ρ' h')) (k2 : ∀ o, Ex o → P (o.thn n)) : P ((sFor mi g m ρ h).thn n) := by
  rw [r_for e e2]
  rcases loopL_go Inv Ex hit step all 0 ρ h1 rfl (Nat.zero_le _) i0 with ⟨ρ', h', e3, z⟩ | z
  · rw [e3]; exact k1 ρ' h' z
  · exact k2 _ z
theorem range_at {lo : Int} {n i : Nat} {d : D} (h : (rangeD lo n)[i]? = some d) : i < n ∧ d = .int (lo + (i : Int)) := by
  have hi : i < n := by
    have := (List.getElem?_eq_some_iff.mp h).1
    simpa [rangeD] using this
  refine ⟨hi, ?_⟩
  unfold rangeD at h
  rw [List.getElem?_map, List.getElem?_range hi] at h
  simpa using h.symm
end DL

namespace DL
open PySem PySem.Spec PyProof.Rows L2
/-! ### fractions -/
/-- what both are divided by -/
def rtS (t b : Int) : Int := if b < 0 then 0 - (Nat.gcd b.natAbs t.natAbs : Int) else (Nat.gcd b.natAbs t.natAbs : Int)
def rtP (t b : Int) : Int := t.fdiv (rtS t b)
def rtQ (t b : Int) : Int := b.fdiv (rtS t b)
theorem gcd_pos {t b : Int} (hb : b ≠ 0) : 0 < Nat.gcd b.natAbs t.natAbs := Nat.gcd_pos_of_pos_left _ (by omega)
theorem rtS_ne {t b : Int} (hb : b ≠ 0) : rtS t b ≠ 0 := by
  have := gcd_pos (t := t) hb
  unfold rtS; split <;> omega
theorem rtS_abs (t b : Int) : (rtS t b).natAbs = Nat.gcd b.natAbs t.natAbs := by
  unfold rtS; split <;> omega
theorem rtS_le {t b : Int} (hb : b ≠ 0) : (rtS t b).natAbs ≤ b.natAbs := by
  rw [rtS_abs]
  exact Nat.gcd_le_left _ (by omega)
theorem rtS_dt (t b : Int) : rtS t b ∣ t := by
  rw [← Int.natAbs_dvd_natAbs, rtS_abs]
  exact Nat.gcd_dvd_right _ _
theorem rtS_db (t b : Int) : rtS t b ∣ b := by
  rw [← Int.natAbs_dvd_natAbs, rtS_abs]
  exact Nat.gcd_dvd_left _ _
theorem rtP_mul (t b : Int) : rtP t b * rtS t b = t := by
  unfold rtP
  rw [Int.fdiv_eq_ediv_of_dvd (rtS_dt t b)]
  exact Int.ediv_mul_cancel (rtS_dt t b)
theorem rtQ_mul (t b : Int) : rtQ t b * rtS t b = b := by
  unfold rtQ
  rw [Int.fdiv_eq_ediv_of_dvd (rtS_db t b)]
  exact Int.ediv_mul_cancel (rtS_db t b)
theorem rtQ_pos {t b : Int} (hb : b ≠ 0) : 1 ≤ rtQ t b := by
  have h := rtQ_mul t b
  have g := gcd_pos (t := t) hb
  by_cases z : 1 ≤ rtQ t b
  · exact z
  · exfalso
    have hq : rtQ t b ≤ 0 := by omega
    by_cases hn : b < 0
    · have hs : rtS t b < 0 := by unfold rtS; rw [if_pos hn]; omega
      have := Int.mul_nonneg_of_nonpos_of_nonpos hq (Int.le_of_lt hs)
      omega
    · have hs : 0 < rtS t b := by unfold rtS; rw [if_neg hn]; omega
      have := Int.mul_nonpos_of_nonpos_of_nonneg hq (Int.le_of_lt hs)
      omega
theorem rt_cop {t b : Int} (hb : b ≠ 0) : Nat.gcd (rtP t b).natAbs (rtQ t b).natAbs = 1 := by
  have hp := congrArg Int.natAbs (rtP_mul t b)
  have hq := congrArg Int.natAbs (rtQ_mul t b)
  rw [Int.natAbs_mul, rtS_abs] at hp hq
  have g := gcd_pos (t := t) hb
  have e : Nat.gcd ((rtP t b).natAbs * Nat.gcd b.natAbs t.natAbs) ((rtQ t b).natAbs * Nat.gcd b.natAbs t.natAbs) = Nat.gcd b.natAbs t.natAbs := by
    rw [hp, hq, Nat.gcd_comm]
  rw [Nat.gcd_mul_right] at e
  exact Nat.eq_of_mul_eq_mul_right g (by rw [e, Nat.one_mul])
theorem rt_cross (t b : Int) : rtP t b * b = t * rtQ t b := by
  have h1 := rtP_mul t b
  have h2 := rtQ_mul t b
  calc rtP t b * b = rtP t b * (rtQ t b * rtS t b) := by rw [h2]
    _ = (rtP t b * rtS t b) * rtQ t b := by rw [Int.mul_comm (rtQ t b), Int.mul_assoc]
    _ = t * rtQ t b := by rw [h1]
/-- one fraction in lowest terms -/
theorem low_eq {p q a c : Int} (hq : 1 ≤ q) (hc : 1 ≤ c) (g1 : Nat.gcd p.natAbs q.natAbs = 1) (g2 : Nat.gcd a.natAbs c.natAbs = 1) (e : p * c = a * q) : p = a ∧ q = c := by
  have en := congrArg Int.natAbs e
  rw [Int.natAbs_mul, Int.natAbs_mul] at en
  have d1 : q.natAbs ∣ c.natAbs := Nat.Coprime.dvd_of_dvd_mul_left (k := q.natAbs) (m := p.natAbs) (n := c.natAbs) (by rw [Nat.coprime_iff_gcd_eq_one, Nat.gcd_comm]; exact g1) (by rw [en]; exact Nat.dvd_mul_left _ _)
  have d2 : c.natAbs ∣ q.natAbs := Nat.Coprime.dvd_of_dvd_mul_left (k := c.natAbs) (m := a.natAbs) (n := q.natAbs) (by rw [Nat.coprime_iff_gcd_eq_one, Nat.gcd_comm]; exact g2) (by rw [← en]; exact Nat.dvd_mul_left _ _)
  have e2 := Nat.dvd_antisymm d1 d2
  have e3 : q = c := by omega
  subst e3
  exact ⟨Int.eq_of_mul_eq_mul_right (by omega) e, rfl⟩
theorem rt_le {t b : Int} (hb : b ≠ 0) : (rtP t b).natAbs ≤ t.natAbs ∧ (rtQ t b).natAbs ≤ b.natAbs := by
  have hp := congrArg Int.natAbs (rtP_mul t b)
  have hq := congrArg Int.natAbs (rtQ_mul t b)
  rw [Int.natAbs_mul, rtS_abs] at hp hq
  have g := gcd_pos (t := t) hb
  exact ⟨by rw [← hp]; exact Nat.le_mul_of_pos_right _ g, by rw [← hq]; exact Nat.le_mul_of_pos_right _ g⟩
/-! ### bounds -/
def Bd (n : Nat) (z : Int) : Prop := z.natAbs < 2 ^ n
theorem Bd.mono {m n : Nat} {z : Int} (h : Bd m z) (l : m ≤ n) : Bd n z := Nat.lt_of_lt_of_le h (Nat.pow_le_pow_right (by decide) l)
theorem Bd.mul {m n : Nat} {x y : Int} (h : Bd m x) (k : Bd n y) : Bd (m + n) (x * y) := by
  unfold Bd at *
  rw [Int.natAbs_mul, Nat.pow_add]
  exact Nat.mul_lt_mul'' h k
theorem Bd.add {n : Nat} {x y : Int} (h : Bd n x) (k : Bd n y) : Bd (n + 1) (x + y) := by
  unfold Bd at *
  rw [Nat.pow_succ]
  have := Int.natAbs_add_le x y
  omega
theorem Bd.sub {n : Nat} {x y : Int} (h : Bd n x) (k : Bd n y) : Bd (n + 1) (x - y) := by
  unfold Bd at *
  rw [Nat.pow_succ]
  have := Int.natAbs_sub_le x y
  omega
theorem Bd.le {n : Nat} {x y : Int} (h : Bd n x) (k : y.natAbs ≤ x.natAbs) : Bd n y := Nat.lt_of_le_of_lt k h
theorem Bd.rt {n m : Nat} {t b : Int} (ht : Bd n t) (hb : Bd m b) (h0 : b ≠ 0) : Bd n (rtP t b) ∧ Bd m (rtQ t b) := ⟨ht.le (rt_le h0).1, hb.le (rt_le h0).2⟩
theorem r_mulB {x y : Int} {h : DH} {m n : Nat} (hx : Bd m x) (hy : Bd n y) (h0 : 0 < m := by decide) (h1 : 0 < n := by decide) (hs : m + n ≤ 1000000 := by decide) : gMul (.int x) (.int y) h = .val (.int (x * y)) h := r_mul hx hy h0 h1 hs
end DL

namespace Wk01
open PySem PySem.Spec PyProof.Rows L2 DL
def topS (i : Nat) : Stmt := PySem.Challenge.pw_heirbook_k01_a_ratio.main.body.getD i (.Pass ⟨0, 0, 0, 0⟩)
abbrev s_is_whole : Stmt := topS 8
abbrev N_is_whole : List Str := ["thing"]
theorem sc_is_whole : FnScope N_is_whole ["thing"] (defScope s_is_whole) := ⟨rfl, rfl, rfl, by decide +kernel, rfl, by decide +kernel, by decide +kernel⟩
abbrev s_ratio : Stmt := topS 9
abbrev N_ratio : List Str := ["top", "bottom", "share", "rest"]
theorem sc_ratio : FnScope N_ratio ["top", "bottom"] (defScope s_ratio) := ⟨rfl, rfl, rfl, by decide +kernel, rfl, by decide +kernel, by decide +kernel⟩
abbrev s__law_cell_at : Stmt := topS 11
abbrev N__law_cell_at : List Str := ["_law_script", "_law_k"]
theorem sc__law_cell_at : FnScope N__law_cell_at ["_law_script", "_law_k"] (defScope s__law_cell_at) := ⟨rfl, rfl, rfl, by decide +kernel, rfl, by decide +kernel, by decide +kernel⟩
abbrev s__law_whole : Stmt := topS 12
abbrev N__law_whole : List Str := ["_law_found"]
theorem sc__law_whole : FnScope N__law_whole ["_law_found"] (defScope s__law_whole) := ⟨rfl, rfl, rfl, by decide +kernel, rfl, by decide +kernel, by decide +kernel⟩
abbrev s__law_divisor : Stmt := topS 13
abbrev N__law_divisor : List Str := ["_law_one", "_law_other", "_law_rest"]
theorem sc__law_divisor : FnScope N__law_divisor ["_law_one", "_law_other"] (defScope s__law_divisor) := ⟨rfl, rfl, rfl, by decide +kernel, rfl, by decide +kernel, by decide +kernel⟩
abbrev s__law_number_by : Stmt := topS 14
abbrev N__law_number_by : List Str := ["_law_cell", "_law_most"]
theorem sc__law_number_by : FnScope N__law_number_by ["_law_cell", "_law_most"] (defScope s__law_number_by) := ⟨rfl, rfl, rfl, by decide +kernel, rfl, by decide +kernel, by decide +kernel⟩
abbrev s__law_stands : Stmt := topS 15
abbrev N__law_stands : List Str := ["_law_found", "_law_top", "_law_bottom"]
theorem sc__law_stands : FnScope N__law_stands ["_law_found", "_law_top", "_law_bottom"] (defScope s__law_stands) := ⟨rfl, rfl, rfl, by decide +kernel, rfl, by decide +kernel, by decide +kernel⟩
abbrev s__law_refused : Stmt := topS 16
abbrev N__law_refused : List Str := ["_law_top", "_law_bottom", "_law_marks", "e"]
theorem sc__law_refused : FnScope N__law_refused ["_law_top", "_law_bottom"] (defScope s__law_refused) := ⟨rfl, rfl, rfl, by decide +kernel, rfl, by decide +kernel, by decide +kernel⟩
abbrev s__law_pair : Stmt := topS 17
abbrev N__law_pair : List Str := ["_law_top", "_law_bottom", "_law_cell", "_law_odd"]
theorem sc__law_pair : FnScope N__law_pair ["_law_top", "_law_bottom", "_law_cell"] (defScope s__law_pair) := ⟨rfl, rfl, rfl, by decide +kernel, rfl, by decide +kernel, by decide +kernel⟩
abbrev s_law : Stmt := topS 18
abbrev N_law : List Str := ["_law_script", "_law_k", "_law_most", "_law_top", "_law_bottom", "_law_cell"]
theorem sc_law : FnScope N_law ["_law_script"] (defScope s_law) := ⟨rfl, rfl, rfl, by decide +kernel, rfl, by decide +kernel, by decide +kernel⟩
structure Ad where
  z : Unit := ()
  c_HeirError : Addr
  c_NoEntry : Addr
  c_NoNumber : Addr
  c_NoPerson : Addr
  c_NoRow : Addr
  c_NoWay : Addr
def isEx (A : Ad) (cls : Value) : Prop := cls = .ref A.c_NoNumber ∨ False
noncomputable def em_NoNumber (A : Ad) (cls : Value) : Option Bool := by classical exact (if cls = .ref A.c_NoNumber then some true else none)
theorem exOf_NoNumber (A : Ad) (cls : Value) (h : em_NoNumber A cls = some true) : isEx A cls := by
  unfold em_NoNumber at h
  unfold isEx
  repeat (split at h; · rename_i e; simp [e])
  cases h
noncomputable def kitV (A : Ad) (cls c : Value) : Option Bool := by classical exact (if cls = .ref A.c_NoNumber ∧ c = .ref A.c_HeirError then some true else if cls = .ref A.c_NoNumber ∧ c = .ref A.c_NoEntry then some false else if cls = .ref A.c_NoNumber ∧ c = .ref A.c_NoPerson then some false else if cls = .ref A.c_NoNumber ∧ c = .ref A.c_NoRow then some false else if cls = .ref A.c_NoNumber ∧ c = .ref A.c_NoWay then some false else if cls = .ref A.c_NoNumber ∧ c = .type "ValueError" then some true else none)
structure AdOk (A : Ad) : Prop where
  z : True
  ne_HeirError_NoEntry : A.c_HeirError ≠ A.c_NoEntry
  ne_HeirError_NoNumber : A.c_HeirError ≠ A.c_NoNumber
  ne_HeirError_NoPerson : A.c_HeirError ≠ A.c_NoPerson
  ne_HeirError_NoRow : A.c_HeirError ≠ A.c_NoRow
  ne_HeirError_NoWay : A.c_HeirError ≠ A.c_NoWay
  ne_NoEntry_NoNumber : A.c_NoEntry ≠ A.c_NoNumber
  ne_NoEntry_NoPerson : A.c_NoEntry ≠ A.c_NoPerson
  ne_NoEntry_NoRow : A.c_NoEntry ≠ A.c_NoRow
  ne_NoEntry_NoWay : A.c_NoEntry ≠ A.c_NoWay
  ne_NoNumber_NoPerson : A.c_NoNumber ≠ A.c_NoPerson
  ne_NoNumber_NoRow : A.c_NoNumber ≠ A.c_NoRow
  ne_NoNumber_NoWay : A.c_NoNumber ≠ A.c_NoWay
  ne_NoPerson_NoRow : A.c_NoPerson ≠ A.c_NoRow
  ne_NoPerson_NoWay : A.c_NoPerson ≠ A.c_NoWay
  ne_NoRow_NoWay : A.c_NoRow ≠ A.c_NoWay
structure Txt (K : PySem.W.Frag) (w : World) (mg : Str → Option Value) (A : Ad) : Prop where
  z : True
  n_ValueError : mg "ValueError" = none
  n_abs : mg "abs" = none
  n_bool : mg "bool" = none
  n_int : mg "int" = none
  n_isinstance : mg "isinstance" = none
  n_len : mg "len" = none
  n_max : mg "max" = none
  n_min : mg "min" = none
  n_range : mg "range" = none
  n_tuple : mg "tuple" = none
  c_HeirError : mg "HeirError" = some (.ref A.c_HeirError)
  x_HeirError : PySem.W.excIn K A.c_HeirError [.type "ValueError", .type "Exception", .type "BaseException", .type "object"] "ValueError.__new__" = true
  kc_HeirError : PySem.W.keepIn K (.ref A.c_HeirError) = true
  sb_HeirError : PySem.W.subIn K (.ref A.c_HeirError) (.type "BaseException") = some true
  tc_HeirError : PySem.W.typeIn K (.ref A.c_HeirError) = some (.type "type")
  c_NoEntry : mg "NoEntry" = some (.ref A.c_NoEntry)
  x_NoEntry : PySem.W.excIn K A.c_NoEntry [.type "ValueError", .type "Exception", .type "BaseException", .type "object"] "ValueError.__new__" = true
  kc_NoEntry : PySem.W.keepIn K (.ref A.c_NoEntry) = true
  sb_NoEntry : PySem.W.subIn K (.ref A.c_NoEntry) (.type "BaseException") = some true
  tc_NoEntry : PySem.W.typeIn K (.ref A.c_NoEntry) = some (.type "type")
  c_NoNumber : mg "NoNumber" = some (.ref A.c_NoNumber)
  x_NoNumber : PySem.W.excIn K A.c_NoNumber [.type "ValueError", .type "Exception", .type "BaseException", .type "object"] "ValueError.__new__" = true
  kc_NoNumber : PySem.W.keepIn K (.ref A.c_NoNumber) = true
  sb_NoNumber : PySem.W.subIn K (.ref A.c_NoNumber) (.type "BaseException") = some true
  tc_NoNumber : PySem.W.typeIn K (.ref A.c_NoNumber) = some (.type "type")
  c_NoPerson : mg "NoPerson" = some (.ref A.c_NoPerson)
  x_NoPerson : PySem.W.excIn K A.c_NoPerson [.type "ValueError", .type "Exception", .type "BaseException", .type "object"] "ValueError.__new__" = true
  kc_NoPerson : PySem.W.keepIn K (.ref A.c_NoPerson) = true
  sb_NoPerson : PySem.W.subIn K (.ref A.c_NoPerson) (.type "BaseException") = some true
  tc_NoPerson : PySem.W.typeIn K (.ref A.c_NoPerson) = some (.type "type")
  c_NoRow : mg "NoRow" = some (.ref A.c_NoRow)
  x_NoRow : PySem.W.excIn K A.c_NoRow [.type "ValueError", .type "Exception", .type "BaseException", .type "object"] "ValueError.__new__" = true
  kc_NoRow : PySem.W.keepIn K (.ref A.c_NoRow) = true
  sb_NoRow : PySem.W.subIn K (.ref A.c_NoRow) (.type "BaseException") = some true
  tc_NoRow : PySem.W.typeIn K (.ref A.c_NoRow) = some (.type "type")
  c_NoWay : mg "NoWay" = some (.ref A.c_NoWay)
  x_NoWay : PySem.W.excIn K A.c_NoWay [.type "ValueError", .type "Exception", .type "BaseException", .type "object"] "ValueError.__new__" = true
  kc_NoWay : PySem.W.keepIn K (.ref A.c_NoWay) = true
  sb_NoWay : PySem.W.subIn K (.ref A.c_NoWay) (.type "BaseException") = some true
  tc_NoWay : PySem.W.typeIn K (.ref A.c_NoWay) = some (.type "type")
  em_NoNumber : ∀ cls b, em_NoNumber A cls = some b → PySem.W.exmOne K cls (.ref A.c_NoNumber) = some b
  ki : ∀ cls, isEx A cls → ∃ Dc, cls = .ref Dc ∧ ExcC K Dc ∧ ∀ c b, kitV A cls c = some b → PySem.W.kitOne K (.ref Dc) c = some b
section
noncomputable def m_is_whole (A : Ad) : SM := (sRet (mAndV (mCall gIsTy (mCons (mVar 0) (mCons (mC (.raw (.ty "int"))) mNil))) (mNotV (mCall gIsTy (mCons (mVar 0) (mCons (mC (.raw (.ty "bool"))) mNil))))))
noncomputable def f_is_whole (A : Ad) : List D → DH → Out D := fun ds h => (m_is_whole A (startD N_is_whole ds) h).fin
noncomputable def m_ratio (A : Ad) : SM := (sSeq (sIf (mOr (mNot (mB (mCall (f_is_whole A) (mCons (mVar 0) mNil)))) (mOr (mNot (mB (mCall (f_is_whole A) (mCons (mVar 1) mNil)))) (mB (mOp gEq (mVar 1) (mC (.int 0)))))) (sRaise (.ref A.c_NoNumber)) sNil)
    (sSeq (sAsg (mCall gAbs (mCons (mVar 1) mNil)) (gSet 2))
    (sSeq (sAsg (mCall gAbs (mCons (mVar 0) mNil)) (gSet 3))
    (sSeq (sWhile (mB (mOp gGt (mVar 3) (mC (.int 0)))) (sPar 2 3 (mCons (mVar 3) (mCons (mOp gMod (mVar 2) (mVar 3)) mNil))))
    (sSeq (sIf (mB (mOp gLt (mVar 1) (mC (.int 0)))) (sAsg (mOp gSub (mC (.int 0)) (mVar 2)) (gSet 2)) sNil)
    (sRet (mTup (mCons (mOp gFdiv (mVar 0) (mVar 2)) (mCons (mOp gFdiv (mVar 1) (mVar 2)) mNil)))))))))
noncomputable def f_ratio (A : Ad) : List D → DH → Out D := fun ds h => (m_ratio A (startD N_ratio ds) h).fin
noncomputable def m__law_cell_at (A : Ad) : SM := (sSeq (sIf (mB (mOp gLt (mVar 1) (mCall gLen (mCons (mVar 0) mNil)))) (sRet (mOp gIx (mVar 0) (mVar 1))) sNil)
    (sRet (mC (.int 0))))
noncomputable def f__law_cell_at (A : Ad) : List D → DH → Out D := fun ds h => (m__law_cell_at A (startD N__law_cell_at ds) h).fin
noncomputable def m__law_whole (A : Ad) : SM := (sRet (mAndV (mCall gIsTy (mCons (mVar 0) (mCons (mC (.raw (.ty "int"))) mNil))) (mNotV (mCall gIsTy (mCons (mVar 0) (mCons (mC (.raw (.ty "bool"))) mNil))))))
noncomputable def f__law_whole (A : Ad) : List D → DH → Out D := fun ds h => (m__law_whole A (startD N__law_whole ds) h).fin
noncomputable def m__law_divisor (A : Ad) : SM := (sSeq (sWhile (mB (mOp gGt (mVar 1) (mC (.int 0)))) (sSeq (sAsg (mOp gMod (mVar 0) (mVar 1)) (gSet 2))
    (sSeq (sAsg (mVar 1) (gSet 0))
    (sAsg (mVar 2) (gSet 1)))))
    (sRet (mVar 0)))
noncomputable def f__law_divisor (A : Ad) : List D → DH → Out D := fun ds h => (m__law_divisor A (startD N__law_divisor ds) h).fin
noncomputable def m__law_number_by (A : Ad) : SM := (sSeq (sIf (mB (mOp gEq (mOp gMod (mVar 0) (mC (.int 3))) (mC (.int 0)))) (sRet (mOp gSub (mOp gMod (mOp gFdiv (mVar 0) (mC (.int 3))) (mOp gAdd (mOp gMul (mC (.int 2)) (mVar 1)) (mC (.int 1)))) (mVar 1))) sNil)
    (sSeq (sIf (mB (mOp gEq (mOp gMod (mVar 0) (mC (.int 3))) (mC (.int 1)))) (sRet (mOp gSub (mOp gMod (mOp gFdiv (mVar 0) (mC (.int 3))) (mC (.int 2001))) (mC (.int 1000)))) sNil)
    (sRet (mOp gSub (mOp gMod (mOp gFdiv (mVar 0) (mC (.int 3))) (mC (.int 13))) (mC (.int 6))))))
noncomputable def f__law_number_by (A : Ad) : List D → DH → Out D := fun ds h => (m__law_number_by A (startD N__law_number_by ds) h).fin
noncomputable def m__law_stands (A : Ad) : SM := (sSeq (sIf (mOr (mNot (mB (mCall gIsTy (mCons (mVar 0) (mCons (mC (.raw (.ty "tuple"))) mNil))))) (mOr (mB (mOp gNe (mCall gLen (mCons (mVar 0) mNil)) (mC (.int 2)))) (mOr (mNot (mB (mCall (f__law_whole A) (mCons (mOp gIx (mVar 0) (mC (.int 0))) mNil)))) (mNot (mB (mCall (f__law_whole A) (mCons (mOp gIx (mVar 0) (mC (.int 1))) mNil))))))) (sRet (mC (.bl false))) sNil)
    (sSeq (sIf (mOr (mB (mOp gLt (mOp gIx (mVar 0) (mC (.int 1))) (mC (.int 1)))) (mB (mOp gNe (mOp gMul (mOp gIx (mVar 0) (mC (.int 0))) (mVar 2)) (mOp gMul (mVar 1) (mOp gIx (mVar 0) (mC (.int 1))))))) (sRet (mC (.bl false))) sNil)
    (sRet (mOp gEq (mCall (f__law_divisor A) (mCons (mCall gAbs (mCons (mOp gIx (mVar 0) (mC (.int 0))) mNil)) (mCons (mOp gIx (mVar 0) (mC (.int 1))) mNil))) (mC (.int 1))))))
noncomputable def f__law_stands (A : Ad) : List D → DH → Out D := fun ds h => (m__law_stands A (startD N__law_stands ds) h).fin
noncomputable def m__law_refused (A : Ad) : SM := (sSeq (sAsg (mLst mNil) (gSet 2))
    (sSeq (sTryAs (em_NoNumber A) (sExpr (mCall (f_ratio A) (mCons (mVar 0) (mCons (mVar 1) mNil)))) 3 (fun a cls => (sSeq (sAsg (mLst (mCons (mCall (gIsE a (kitV A cls)) (mCons (mVar 3) (mCons (mC (.raw (.ref A.c_HeirError))) mNil))) (mCons (mCall (gIsE a (kitV A cls)) (mCons (mVar 3) (mCons (mC (.raw (.ty "ValueError"))) mNil))) (mCons (mCall (gIsE a (kitV A cls)) (mCons (mVar 3) (mCons (mC (.raw (.ref A.c_NoEntry))) mNil))) mNil)))) (gSet 2))
    (sAsg (mOp gAdd (mVar 2) (mLst (mCons (mCall (gIsE a (kitV A cls)) (mCons (mVar 3) (mCons (mC (.raw (.ref A.c_NoPerson))) mNil))) (mCons (mCall (gIsE a (kitV A cls)) (mCons (mVar 3) (mCons (mC (.raw (.ref A.c_NoRow))) mNil))) (mCons (mCall (gIsE a (kitV A cls)) (mCons (mVar 3) (mCons (mC (.raw (.ref A.c_NoWay))) mNil))) mNil))))) (gSet 2)))))
    (sRet (mOp gEq (mVar 2) (mLst (mCons (mC (.bl true)) (mCons (mC (.bl true)) (mCons (mC (.bl false)) (mCons (mC (.bl false)) (mCons (mC (.bl false)) (mCons (mC (.bl false)) mNil)))))))))))
noncomputable def f__law_refused (A : Ad) : List D → DH → Out D := fun ds h => (m__law_refused A (startD N__law_refused ds) h).fin
noncomputable def m__law_pair (A : Ad) : SM := (sSeq (sAsg (mOp gIx (mLst (mCons (mC .non) (mCons (mC (.bl true)) (mCons (mC (.bl false)) (mCons (mC (.str "1")) (mCons (mTup (mCons (mC (.int 1)) mNil)) (mCons (mLst (mCons (mC (.int 1)) mNil)) (mCons mDictE (mCons (mC (.str "0")) mNil))))))))) (mOp gMod (mVar 2) (mC (.int 8)))) (gSet 3))
    (sSeq (sIf (mOr (mB (mOp gIsNot (mCall (f_is_whole A) (mCons (mVar 3) mNil)) (mC (.bl false)))) (mOr (mB (mOp gIsNot (mCall (f_is_whole A) (mCons (mVar 0) mNil)) (mC (.bl true)))) (mB (mOp gIsNot (mCall (f_is_whole A) (mCons (mVar 1) mNil)) (mC (.bl true)))))) (sRet (mC (.bl false))) sNil)
    (sSeq (sIf (mOr (mNot (mB (mCall (f__law_refused A) (mCons (mVar 3) (mCons (mVar 1) mNil))))) (mOr (mNot (mB (mCall (f__law_refused A) (mCons (mVar 0) (mCons (mVar 3) mNil))))) (mNot (mB (mCall (f__law_refused A) (mCons (mVar 0) (mCons (mC (.int 0)) mNil))))))) (sRet (mC (.bl false))) sNil)
    (sSeq (sIf (mB (mOp gEq (mVar 1) (mC (.int 0)))) (sRet (mCall (f__law_refused A) (mCons (mVar 0) (mCons (mVar 1) mNil)))) sNil)
    (sRet (mCall (f__law_stands A) (mCons (mCall (f_ratio A) (mCons (mVar 0) (mCons (mVar 1) mNil))) (mCons (mVar 0) (mCons (mVar 1) mNil)))))))))
noncomputable def f__law_pair (A : Ad) : List D → DH → Out D := fun ds h => (m__law_pair A (startD N__law_pair ds) h).fin
noncomputable def m_law (A : Ad) : SM := (sSeq (sFor (iRng1D (mCons (mCall gMax2 (mCons (mC (.int 1)) (mCons (mCall gMin2 (mCons (mCall gLen (mCons (mVar 0) mNil)) (mCons (mC (.int 60)) mNil))) mNil))) mNil)) (gSet 1) (sSeq (sAsg (mOp gIx (mLst (mCons (mOp gPow (mC (.int 10)) (mC (.int 60))) (mCons (mOp gPow (mC (.int 10)) (mC (.int 15))) mNil))) (mCall gInt1 (mCons (mOp gGt (mVar 1) (mC (.int 11))) mNil))) (gSet 2))
    (sSeq (sAsg (mCall (f__law_number_by A) (mCons (mCall (f__law_cell_at A) (mCons (mVar 0) (mCons (mVar 1) mNil))) (mCons (mVar 2) mNil))) (gSet 3))
    (sSeq (sAsg (mCall (f__law_number_by A) (mCons (mCall (f__law_cell_at A) (mCons (mVar 0) (mCons (mOp gAdd (mVar 1) (mC (.int 1))) mNil))) (mCons (mVar 2) mNil))) (gSet 4))
    (sSeq (sAsg (mCall (f__law_cell_at A) (mCons (mVar 0) (mCons (mOp gAdd (mVar 1) (mC (.int 2))) mNil))) (gSet 5))
    (sSeq (sIf (mB (mOp gEq (mOp gMod (mVar 5) (mC (.int 3))) (mC (.int 1)))) (sSeq (sAsg (mOp gMul (mVar 3) (mOp gAdd (mC (.int 1)) (mOp gMod (mOp gFdiv (mVar 5) (mC (.int 3))) (mOp gPow (mC (.int 10)) (mC (.int 9)))))) (gSet 3))
    (sAsg (mOp gMul (mVar 4) (mOp gAdd (mC (.int 1)) (mOp gMod (mOp gFdiv (mVar 5) (mC (.int 3))) (mOp gPow (mC (.int 10)) (mC (.int 9)))))) (gSet 4))) sNil)
    (sIf (mNot (mB (mCall (f__law_pair A) (mCons (mVar 3) (mCons (mVar 4) (mCons (mOp gFdiv (mVar 5) (mC (.int 3))) mNil)))))) (sRet (mC (.bl false))) sNil)))))))
    (sRet (mC (.bl true))))
noncomputable def f_law (A : Ad) : List D → DH → Out D := fun ds h => (m_law A (startD N_law ds) h).fin
end
section
variable {P : Program} {w : World} {K : PySem.W.Frag} {mg : Str → Option Value} {base : Heap} {A : Ad}
set_option maxHeartbeats 4000000 in
theorem okr_is_whole {f : Addr} {fd : FuncData} (T : Txt K w mg A) (Fu : Fun K "is_whole" "is_whole" s_is_whole f fd)  : FnOk P w K mg base (L2.CX P w) 1 f fd ["thing"] (spD K 1 (f_is_whole A)) := by
  have nd := sc_is_whole.nd
  exact fnok_of (m := m_is_whole A) Fu sc_is_whole (fun cdv A0 outer s H E hr tk po => by
    have hu := hr.units
    exact (dss_one (ds_ret (de_and (de_callB call_isi cc_isTy (by rfl) T.n_isinstance (by decide +kernel) (da_cons (de_var 0) (da_cons (de_bltn (d := .raw (.ty "int")) (v := .ty "int") (by rfl) T.n_int (by decide +kernel) rfl (fun _ _ => .raw)) da_nil))) (de_one (de_not (de_callB call_isi cc_isTy (by rfl) T.n_isinstance (by decide +kernel) (da_cons (de_var 0) (da_cons (de_bltn (d := .raw (.ty "bool")) (v := .ty "bool") (by rfl) T.n_bool (by decide +kernel) rfl (fun _ _ => .raw)) da_nil))))))))) (fun ds h hl => .refl)
theorem ok_is_whole {f : Addr} {fd : FuncData} (T : Txt K w mg A) (Fu : Fun K "is_whole" "is_whole" s_is_whole f fd) (hm : mg "is_whole" = some (.ref f)) (hb : Binds K fd ["thing"] [])  : FnD P w K mg base 1 "is_whole" ["thing"] (f_is_whole A) :=
  fnd_of hm hb Fu.kp (okr_is_whole T Fu )
set_option maxHeartbeats 4000000 in
theorem okr_ratio {f : Addr} {fd : FuncData} (T : Txt K w mg A) (Fu : Fun K "ratio" "ratio" s_ratio f fd) (F_is_whole : FnD P w K mg base 1 "is_whole" ["thing"] (f_is_whole A)) : FnOk P w K mg base (L2.CX P w) 2 f fd ["top", "bottom"] (spD K 2 (f_ratio A)) := by
  have nd := sc_ratio.nd
  exact fnok_of (m := m_ratio A) Fu sc_ratio (fun cdv A0 outer s H E hr tk po => by
    have hu := hr.units
    exact (dss_cons (ds_if (dt_w (dw_or (dt_not (dt_val (de_call (F_is_whole.mono (by decide)) hr tk (by rfl) (da_cons (de_var 0) da_nil) (ln_cons ln_nil)))) (dw_or (dt_not (dt_val (de_call (F_is_whole.mono (by decide)) hr tk (by rfl) (da_cons (de_var 1) da_nil) (ln_cons ln_nil)))) (dw_or1 (dt_cmp (or_eq hu) oc_eq (de_var 1) de_int (nomark _)))))) (dss_one (ds_raise (ps_raise rfl tk (pmk_own PySem.F.excBase_ValueError T.x_NoNumber T.c_NoNumber T.kc_NoNumber (raises_own T.sb_NoNumber T.tc_NoNumber) rfl)))) dss_nil)
    (dss_cons (ds_set 2 nd (de_callB call_abs cc_abs (by rfl) T.n_abs (by decide +kernel) (da_cons (de_var 1) da_nil)))
    (dss_cons (ds_set 3 nd (de_callB call_abs cc_abs (by rfl) T.n_abs (by decide +kernel) (da_cons (de_var 0) da_nil)))
    (dss_cons (ds_while po (dt_cmp op_gt oc_gt (de_var 3) de_int (nomark _)) (dss_one (ds_par (ps_par (i := 2) (j := 3) (by rfl) nd rfl rfl (by decide) rfl rfl (da_cons (de_var 3) (da_cons (de_op op_mod oc_mod (de_var 2) (de_var 3)) da_nil)) (by rfl)))))
    (dss_cons (ds_if (dt_cmp or_lt oc_lt (de_var 1) de_int (nomark _)) (dss_one (ds_set 2 nd (de_op op_sub oc_sub de_int (de_var 2)))) dss_nil)
    (dss_one (ds_ret (de_tup (da_cons (de_op op_fdivG oc_fdiv (de_var 0) (de_var 2)) (da_cons (de_op op_fdivG oc_fdiv (de_var 1) (de_var 2)) da_nil))))))))))) (fun ds h hl => .refl)
theorem ok_ratio {f : Addr} {fd : FuncData} (T : Txt K w mg A) (Fu : Fun K "ratio" "ratio" s_ratio f fd) (hm : mg "ratio" = some (.ref f)) (hb : Binds K fd ["top", "bottom"] []) (F_is_whole : FnD P w K mg base 1 "is_whole" ["thing"] (f_is_whole A)) : FnD P w K mg base 2 "ratio" ["top", "bottom"] (f_ratio A) :=
  fnd_of hm hb Fu.kp (okr_ratio T Fu F_is_whole)
set_option maxHeartbeats 4000000 in
theorem okr__law_cell_at {f : Addr} {fd : FuncData} (T : Txt K w mg A) (Fu : Fun K "_law_cell_at" "_law_cell_at" s__law_cell_at f fd)  : FnOk P w K mg base (L2.CX P w) 1 f fd ["_law_script", "_law_k"] (spD K 2 (f__law_cell_at A)) := by
  have nd := sc__law_cell_at.nd
  exact fnok_of (m := m__law_cell_at A) Fu sc__law_cell_at (fun cdv A0 outer s H E hr tk po => by
    have hu := hr.units
    exact (dss_cons (ds_if (dt_cmp or_lt oc_lt (de_var 1) (de_callB call_len cc_len (by rfl) T.n_len (by decide +kernel) (da_cons (de_var 0) da_nil)) (nomark _)) (dss_one (ds_ret (de_ix ix_seq oc_ix (de_var 0) (de_var 1) (fun _ _ => rfl)))) dss_nil)
    (dss_one (ds_ret de_int)))) (fun ds h hl => .refl)
theorem ok__law_cell_at {f : Addr} {fd : FuncData} (T : Txt K w mg A) (Fu : Fun K "_law_cell_at" "_law_cell_at" s__law_cell_at f fd) (hm : mg "_law_cell_at" = some (.ref f)) (hb : Binds K fd ["_law_script", "_law_k"] [])  : FnD P w K mg base 1 "_law_cell_at" ["_law_script", "_law_k"] (f__law_cell_at A) :=
  fnd_of hm hb Fu.kp (okr__law_cell_at T Fu )
set_option maxHeartbeats 4000000 in
theorem okr__law_whole {f : Addr} {fd : FuncData} (T : Txt K w mg A) (Fu : Fun K "_law_whole" "_law_whole" s__law_whole f fd)  : FnOk P w K mg base (L2.CX P w) 1 f fd ["_law_found"] (spD K 1 (f__law_whole A)) := by
  have nd := sc__law_whole.nd
  exact fnok_of (m := m__law_whole A) Fu sc__law_whole (fun cdv A0 outer s H E hr tk po => by
    have hu := hr.units
    exact (dss_one (ds_ret (de_and (de_callB call_isi cc_isTy (by rfl) T.n_isinstance (by decide +kernel) (da_cons (de_var 0) (da_cons (de_bltn (d := .raw (.ty "int")) (v := .ty "int") (by rfl) T.n_int (by decide +kernel) rfl (fun _ _ => .raw)) da_nil))) (de_one (de_not (de_callB call_isi cc_isTy (by rfl) T.n_isinstance (by decide +kernel) (da_cons (de_var 0) (da_cons (de_bltn (d := .raw (.ty "bool")) (v := .ty "bool") (by rfl) T.n_bool (by decide +kernel) rfl (fun _ _ => .raw)) da_nil))))))))) (fun ds h hl => .refl)
theorem ok__law_whole {f : Addr} {fd : FuncData} (T : Txt K w mg A) (Fu : Fun K "_law_whole" "_law_whole" s__law_whole f fd) (hm : mg "_law_whole" = some (.ref f)) (hb : Binds K fd ["_law_found"] [])  : FnD P w K mg base 1 "_law_whole" ["_law_found"] (f__law_whole A) :=
  fnd_of hm hb Fu.kp (okr__law_whole T Fu )
set_option maxHeartbeats 4000000 in
theorem okr__law_divisor {f : Addr} {fd : FuncData} (T : Txt K w mg A) (Fu : Fun K "_law_divisor" "_law_divisor" s__law_divisor f fd)  : FnOk P w K mg base (L2.CX P w) 1 f fd ["_law_one", "_law_other"] (spD K 2 (f__law_divisor A)) := by
  have nd := sc__law_divisor.nd
  exact fnok_of (m := m__law_divisor A) Fu sc__law_divisor (fun cdv A0 outer s H E hr tk po => by
    have hu := hr.units
    exact (dss_cons (ds_while po (dt_cmp op_gt oc_gt (de_var 1) de_int (nomark _)) (dss_cons (ds_set 2 nd (de_op op_mod oc_mod (de_var 0) (de_var 1)))
    (dss_cons (ds_set 0 nd (de_var 1))
    (dss_one (ds_set 1 nd (de_var 2))))))
    (dss_one (ds_ret (de_var 0))))) (fun ds h hl => .refl)
theorem ok__law_divisor {f : Addr} {fd : FuncData} (T : Txt K w mg A) (Fu : Fun K "_law_divisor" "_law_divisor" s__law_divisor f fd) (hm : mg "_law_divisor" = some (.ref f)) (hb : Binds K fd ["_law_one", "_law_other"] [])  : FnD P w K mg base 1 "_law_divisor" ["_law_one", "_law_other"] (f__law_divisor A) :=
  fnd_of hm hb Fu.kp (okr__law_divisor T Fu )
set_option maxHeartbeats 4000000 in
theorem okr__law_number_by {f : Addr} {fd : FuncData} (T : Txt K w mg A) (Fu : Fun K "_law_number_by" "_law_number_by" s__law_number_by f fd)  : FnOk P w K mg base (L2.CX P w) 1 f fd ["_law_cell", "_law_most"] (spD K 2 (f__law_number_by A)) := by
  have nd := sc__law_number_by.nd
  exact fnok_of (m := m__law_number_by A) Fu sc__law_number_by (fun cdv A0 outer s H E hr tk po => by
    have hu := hr.units
    exact (dss_cons (ds_if (dt_cmp (or_eq hu) oc_eq (de_op op_mod oc_mod (de_var 0) de_int) de_int (nomark _)) (dss_one (ds_ret (de_op op_sub oc_sub (de_op op_mod oc_mod (de_op op_fdivG oc_fdiv (de_var 0) de_int) (de_op or_add oc_add (de_op op_mulU oc_mul de_int (de_var 1)) de_int)) (de_var 1)))) dss_nil)
    (dss_cons (ds_if (dt_cmp (or_eq hu) oc_eq (de_op op_mod oc_mod (de_var 0) de_int) de_int (nomark _)) (dss_one (ds_ret (de_op op_sub oc_sub (de_op op_mod oc_mod (de_op op_fdivG oc_fdiv (de_var 0) de_int) de_int) de_int))) dss_nil)
    (dss_one (ds_ret (de_op op_sub oc_sub (de_op op_mod oc_mod (de_op op_fdivG oc_fdiv (de_var 0) de_int) de_int) de_int)))))) (fun ds h hl => .refl)
theorem ok__law_number_by {f : Addr} {fd : FuncData} (T : Txt K w mg A) (Fu : Fun K "_law_number_by" "_law_number_by" s__law_number_by f fd) (hm : mg "_law_number_by" = some (.ref f)) (hb : Binds K fd ["_law_cell", "_law_most"] [])  : FnD P w K mg base 1 "_law_number_by" ["_law_cell", "_law_most"] (f__law_number_by A) :=
  fnd_of hm hb Fu.kp (okr__law_number_by T Fu )
set_option maxHeartbeats 4000000 in
theorem okr__law_stands {f : Addr} {fd : FuncData} (T : Txt K w mg A) (Fu : Fun K "_law_stands" "_law_stands" s__law_stands f fd) (F__law_divisor : FnD P w K mg base 1 "_law_divisor" ["_law_one", "_law_other"] (f__law_divisor A)) (F__law_whole : FnD P w K mg base 1 "_law_whole" ["_law_found"] (f__law_whole A)) : FnOk P w K mg base (L2.CX P w) 2 f fd ["_law_found", "_law_top", "_law_bottom"] (spD K 3 (f__law_stands A)) := by
  have nd := sc__law_stands.nd
  exact fnok_of (m := m__law_stands A) Fu sc__law_stands (fun cdv A0 outer s H E hr tk po => by
    have hu := hr.units
    exact (dss_cons (ds_if (dt_w (dw_or (dt_not (dt_val (de_callB call_isi cc_isTy (by rfl) T.n_isinstance (by decide +kernel) (da_cons (de_var 0) (da_cons (de_bltn (d := .raw (.ty "tuple")) (v := .ty "tuple") (by rfl) T.n_tuple (by decide +kernel) rfl (fun _ _ => .raw)) da_nil))))) (dw_or (dt_cmp (or_ne hu) oc_ne (de_callB call_len cc_len (by rfl) T.n_len (by decide +kernel) (da_cons (de_var 0) da_nil)) de_int (nomark _)) (dw_or (dt_not (dt_val (de_call (F__law_whole.mono (by decide)) hr tk (by rfl) (da_cons (de_ix ix_seq oc_ix (de_var 0) de_int (fun _ _ => rfl)) da_nil) (ln_cons ln_nil)))) (dw_or1 (dt_not (dt_val (de_call (F__law_whole.mono (by decide)) hr tk (by rfl) (da_cons (de_ix ix_seq oc_ix (de_var 0) de_int (fun _ _ => rfl)) da_nil) (ln_cons ln_nil))))))))) (dss_one (ds_ret de_bl)) dss_nil)
    (dss_cons (ds_if (dt_w (dw_or (dt_cmp or_lt oc_lt (de_ix ix_seq oc_ix (de_var 0) de_int (fun _ _ => rfl)) de_int (nomark _)) (dw_or1 (dt_cmp (or_ne hu) oc_ne (de_op op_mulU oc_mul (de_ix ix_seq oc_ix (de_var 0) de_int (fun _ _ => rfl)) (de_var 2)) (de_op op_mulU oc_mul (de_var 1) (de_ix ix_seq oc_ix (de_var 0) de_int (fun _ _ => rfl))) (nomark _))))) (dss_one (ds_ret de_bl)) dss_nil)
    (dss_one (ds_ret (de_cmp (or_eq hu) oc_eq (de_call (F__law_divisor.mono (by decide)) hr tk (by rfl) (da_cons (de_callB call_abs cc_abs (by rfl) T.n_abs (by decide +kernel) (da_cons (de_ix ix_seq oc_ix (de_var 0) de_int (fun _ _ => rfl)) da_nil)) (da_cons (de_ix ix_seq oc_ix (de_var 0) de_int (fun _ _ => rfl)) da_nil)) (ln_cons (ln_cons ln_nil))) de_int (nomark _))))))) (fun ds h hl => .refl)
theorem ok__law_stands {f : Addr} {fd : FuncData} (T : Txt K w mg A) (Fu : Fun K "_law_stands" "_law_stands" s__law_stands f fd) (hm : mg "_law_stands" = some (.ref f)) (hb : Binds K fd ["_law_found", "_law_top", "_law_bottom"] []) (F__law_divisor : FnD P w K mg base 1 "_law_divisor" ["_law_one", "_law_other"] (f__law_divisor A)) (F__law_whole : FnD P w K mg base 1 "_law_whole" ["_law_found"] (f__law_whole A)) : FnD P w K mg base 2 "_law_stands" ["_law_found", "_law_top", "_law_bottom"] (f__law_stands A) :=
  fnd_of hm hb Fu.kp (okr__law_stands T Fu F__law_divisor F__law_whole)
set_option maxHeartbeats 4000000 in
theorem okr__law_refused {f : Addr} {fd : FuncData} (T : Txt K w mg A) (Fu : Fun K "_law_refused" "_law_refused" s__law_refused f fd) (F_ratio : FnD P w K mg base 2 "ratio" ["top", "bottom"] (f_ratio A)) : FnOk P w K mg base (L2.CX P w) 3 f fd ["_law_top", "_law_bottom"] (spD K 2 (f__law_refused A)) := by
  have nd := sc__law_refused.nd
  exact fnok_of (m := m__law_refused A) Fu sc__law_refused (fun cdv A0 outer s H E hr tk po => by
    have hu := hr.units
    exact (dss_cons (ds_set 2 nd (de_lst da_nil))
    (dss_cons (ds_tryAs 3 rfl rfl nd ⟨by rfl, by decide, .inl T.c_NoNumber⟩ tk T.em_NoNumber (fun _ _ _ tk2 po2 => (dss_one (ds_expr (de_call (F_ratio.mono (by decide)) hr tk2 (by rfl) (da_cons (de_var 0) (da_cons (de_var 1) da_nil)) (ln_cons (ln_cons ln_nil))))))
    (fun a oe cls pn hz hv hem => (dss_cons (ds_set 2 nd (de_lst (da_cons (de_isE hz hv (T.ki cls (exOf_NoNumber A cls hem)) (by rfl) T.n_isinstance (da_cons (de_var 3) (da_cons (de_glob (v := .ref A.c_HeirError) (d := .raw (.ref A.c_HeirError)) (by rfl) T.c_HeirError rfl (fun _ _ => .raw)) da_nil))) (da_cons (de_isE hz hv (T.ki cls (exOf_NoNumber A cls hem)) (by rfl) T.n_isinstance (da_cons (de_var 3) (da_cons (de_bltn (d := .raw (.ty "ValueError")) (v := .ty "ValueError") (by rfl) T.n_ValueError (by decide +kernel) rfl (fun _ _ => .raw)) da_nil))) (da_cons (de_isE hz hv (T.ki cls (exOf_NoNumber A cls hem)) (by rfl) T.n_isinstance (da_cons (de_var 3) (da_cons (de_glob (v := .ref A.c_NoEntry) (d := .raw (.ref A.c_NoEntry)) (by rfl) T.c_NoEntry rfl (fun _ _ => .raw)) da_nil))) da_nil)))))
    (dss_one (ds_set 2 nd (de_op or_add oc_add (de_var 2) (de_lst (da_cons (de_isE hz hv (T.ki cls (exOf_NoNumber A cls hem)) (by rfl) T.n_isinstance (da_cons (de_var 3) (da_cons (de_glob (v := .ref A.c_NoPerson) (d := .raw (.ref A.c_NoPerson)) (by rfl) T.c_NoPerson rfl (fun _ _ => .raw)) da_nil))) (da_cons (de_isE hz hv (T.ki cls (exOf_NoNumber A cls hem)) (by rfl) T.n_isinstance (da_cons (de_var 3) (da_cons (de_glob (v := .ref A.c_NoRow) (d := .raw (.ref A.c_NoRow)) (by rfl) T.c_NoRow rfl (fun _ _ => .raw)) da_nil))) (da_cons (de_isE hz hv (T.ki cls (exOf_NoNumber A cls hem)) (by rfl) T.n_isinstance (da_cons (de_var 3) (da_cons (de_glob (v := .ref A.c_NoWay) (d := .raw (.ref A.c_NoWay)) (by rfl) T.c_NoWay rfl (fun _ _ => .raw)) da_nil))) da_nil))))))))))
    (dss_one (ds_ret (de_cmp (or_eq hu) oc_eq (de_var 2) (de_lst (da_cons de_bl (da_cons de_bl (da_cons de_bl (da_cons de_bl (da_cons de_bl (da_cons de_bl da_nil))))))) (nomark _))))))) (fun ds h hl => .refl)
theorem ok__law_refused {f : Addr} {fd : FuncData} (T : Txt K w mg A) (Fu : Fun K "_law_refused" "_law_refused" s__law_refused f fd) (hm : mg "_law_refused" = some (.ref f)) (hb : Binds K fd ["_law_top", "_law_bottom"] []) (F_ratio : FnD P w K mg base 2 "ratio" ["top", "bottom"] (f_ratio A)) : FnD P w K mg base 3 "_law_refused" ["_law_top", "_law_bottom"] (f__law_refused A) :=
  fnd_of hm hb Fu.kp (okr__law_refused T Fu F_ratio)
set_option maxHeartbeats 4000000 in
theorem okr__law_pair {f : Addr} {fd : FuncData} (T : Txt K w mg A) (Fu : Fun K "_law_pair" "_law_pair" s__law_pair f fd) (F__law_refused : FnD P w K mg base 3 "_law_refused" ["_law_top", "_law_bottom"] (f__law_refused A)) (F__law_stands : FnD P w K mg base 2 "_law_stands" ["_law_found", "_law_top", "_law_bottom"] (f__law_stands A)) (F_is_whole : FnD P w K mg base 1 "is_whole" ["thing"] (f_is_whole A)) (F_ratio : FnD P w K mg base 2 "ratio" ["top", "bottom"] (f_ratio A)) : FnOk P w K mg base (L2.CX P w) 4 f fd ["_law_top", "_law_bottom", "_law_cell"] (spD K 3 (f__law_pair A)) := by
  have nd := sc__law_pair.nd
  exact fnok_of (m := m__law_pair A) Fu sc__law_pair (fun cdv A0 outer s H E hr tk po => by
    have hu := hr.units
    exact (dss_cons (ds_set 3 nd (de_ix ix_seq oc_ix (de_lst (da_cons de_non (da_cons de_bl (da_cons de_bl (da_cons de_str (da_cons (de_tup (da_cons de_int da_nil)) (da_cons (de_lst (da_cons de_int da_nil)) (da_cons de_dictE (da_cons de_str da_nil))))))))) (de_op op_mod oc_mod (de_var 2) de_int) (fun _ _ => rfl)))
    (dss_cons (ds_if (dt_w (dw_or (dt_cmp or_isnot oc_isnot (de_call (F_is_whole.mono (by decide)) hr tk (by rfl) (da_cons (de_var 3) da_nil) (ln_cons ln_nil)) de_bl (nomark _)) (dw_or (dt_cmp or_isnot oc_isnot (de_call (F_is_whole.mono (by decide)) hr tk (by rfl) (da_cons (de_var 0) da_nil) (ln_cons ln_nil)) de_bl (nomark _)) (dw_or1 (dt_cmp or_isnot oc_isnot (de_call (F_is_whole.mono (by decide)) hr tk (by rfl) (da_cons (de_var 1) da_nil) (ln_cons ln_nil)) de_bl (nomark _)))))) (dss_one (ds_ret de_bl)) dss_nil)
    (dss_cons (ds_if (dt_w (dw_or (dt_not (dt_val (de_call (F__law_refused.mono (by decide)) hr tk (by rfl) (da_cons (de_var 3) (da_cons (de_var 1) da_nil)) (ln_cons (ln_cons ln_nil))))) (dw_or (dt_not (dt_val (de_call (F__law_refused.mono (by decide)) hr tk (by rfl) (da_cons (de_var 0) (da_cons (de_var 3) da_nil)) (ln_cons (ln_cons ln_nil))))) (dw_or1 (dt_not (dt_val (de_call (F__law_refused.mono (by decide)) hr tk (by rfl) (da_cons (de_var 0) (da_cons de_int da_nil)) (ln_cons (ln_cons ln_nil))))))))) (dss_one (ds_ret de_bl)) dss_nil)
    (dss_cons (ds_if (dt_cmp (or_eq hu) oc_eq (de_var 1) de_int (nomark _)) (dss_one (ds_ret (de_call (F__law_refused.mono (by decide)) hr tk (by rfl) (da_cons (de_var 0) (da_cons (de_var 1) da_nil)) (ln_cons (ln_cons ln_nil))))) dss_nil)
    (dss_one (ds_ret (de_call (F__law_stands.mono (by decide)) hr tk (by rfl) (da_cons (de_call (F_ratio.mono (by decide)) hr tk (by rfl) (da_cons (de_var 0) (da_cons (de_var 1) da_nil)) (ln_cons (ln_cons ln_nil))) (da_cons (de_var 0) (da_cons (de_var 1) da_nil))) (ln_cons (ln_cons (ln_cons ln_nil))))))))))) (fun ds h hl => .refl)
theorem ok__law_pair {f : Addr} {fd : FuncData} (T : Txt K w mg A) (Fu : Fun K "_law_pair" "_law_pair" s__law_pair f fd) (hm : mg "_law_pair" = some (.ref f)) (hb : Binds K fd ["_law_top", "_law_bottom", "_law_cell"] []) (F__law_refused : FnD P w K mg base 3 "_law_refused" ["_law_top", "_law_bottom"] (f__law_refused A)) (F__law_stands : FnD P w K mg base 2 "_law_stands" ["_law_found", "_law_top", "_law_bottom"] (f__law_stands A)) (F_is_whole : FnD P w K mg base 1 "is_whole" ["thing"] (f_is_whole A)) (F_ratio : FnD P w K mg base 2 "ratio" ["top", "bottom"] (f_ratio A)) : FnD P w K mg base 4 "_law_pair" ["_law_top", "_law_bottom", "_law_cell"] (f__law_pair A) :=
  fnd_of hm hb Fu.kp (okr__law_pair T Fu F__law_refused F__law_stands F_is_whole F_ratio)
set_option maxHeartbeats 4000000 in
theorem okr_law {f : Addr} {fd : FuncData} (T : Txt K w mg A) (Fu : Fun K "law" "law" s_law f fd) (F__law_cell_at : FnD P w K mg base 1 "_law_cell_at" ["_law_script", "_law_k"] (f__law_cell_at A)) (F__law_number_by : FnD P w K mg base 1 "_law_number_by" ["_law_cell", "_law_most"] (f__law_number_by A)) (F__law_pair : FnD P w K mg base 4 "_law_pair" ["_law_top", "_law_bottom", "_law_cell"] (f__law_pair A)) : FnOk P w K mg base (L2.CX P w) 5 f fd ["_law_script"] (spD K 1 (f_law A)) := by
  have nd := sc_law.nd
  exact fnok_of (m := m_law A) Fu sc_law (fun cdv A0 outer s H E hr tk po => by
    have hu := hr.units
    exact (dss_cons (ds_for po rfl (di_range1 (by rfl) T.n_range (da_cons (de_callB (call_max2 rfl) cc_max2 (by rfl) T.n_max (by decide +kernel) (da_cons de_int (da_cons (de_callB (call_min2 rfl) cc_min2 (by rfl) T.n_min (by decide +kernel) (da_cons (de_callB call_len cc_len (by rfl) T.n_len (by decide +kernel) (da_cons (de_var 0) da_nil)) (da_cons de_int da_nil))) da_nil))) da_nil)) (dg_name 1 nd) (dss_cons (ds_set 2 nd (de_ix ix_seq oc_ix (de_lst (da_cons (de_op op_pow oc_pow de_int de_int) (da_cons (de_op op_pow oc_pow de_int de_int) da_nil))) (de_callTy call_int1 cc_int1 (by rfl) T.n_int (by decide +kernel) (da_cons (de_cmp op_gt oc_gt (de_var 1) de_int (nomark _)) da_nil)) (fun _ _ => rfl)))
    (dss_cons (ds_set 3 nd (de_call (F__law_number_by.mono (by decide)) hr tk (by rfl) (da_cons (de_call (F__law_cell_at.mono (by decide)) hr tk (by rfl) (da_cons (de_var 0) (da_cons (de_var 1) da_nil)) (ln_cons (ln_cons ln_nil))) (da_cons (de_var 2) da_nil)) (ln_cons (ln_cons ln_nil))))
    (dss_cons (ds_set 4 nd (de_call (F__law_number_by.mono (by decide)) hr tk (by rfl) (da_cons (de_call (F__law_cell_at.mono (by decide)) hr tk (by rfl) (da_cons (de_var 0) (da_cons (de_op or_add oc_add (de_var 1) de_int) da_nil)) (ln_cons (ln_cons ln_nil))) (da_cons (de_var 2) da_nil)) (ln_cons (ln_cons ln_nil))))
    (dss_cons (ds_set 5 nd (de_call (F__law_cell_at.mono (by decide)) hr tk (by rfl) (da_cons (de_var 0) (da_cons (de_op or_add oc_add (de_var 1) de_int) da_nil)) (ln_cons (ln_cons ln_nil))))
    (dss_cons (ds_if (dt_cmp (or_eq hu) oc_eq (de_op op_mod oc_mod (de_var 5) de_int) de_int (nomark _)) (dss_cons (ds_set 3 nd (de_op op_mulU oc_mul (de_var 3) (de_op or_add oc_add de_int (de_op op_mod oc_mod (de_op op_fdivG oc_fdiv (de_var 5) de_int) (de_op op_pow oc_pow de_int de_int)))))
    (dss_one (ds_set 4 nd (de_op op_mulU oc_mul (de_var 4) (de_op or_add oc_add de_int (de_op op_mod oc_mod (de_op op_fdivG oc_fdiv (de_var 5) de_int) (de_op op_pow oc_pow de_int de_int))))))) dss_nil)
    (dss_one (ds_if (dt_not (dt_val (de_call (F__law_pair.mono (by decide)) hr tk (by rfl) (da_cons (de_var 3) (da_cons (de_var 4) (da_cons (de_op op_fdivG oc_fdiv (de_var 5) de_int) da_nil))) (ln_cons (ln_cons (ln_cons ln_nil)))))) (dss_one (ds_ret de_bl)) dss_nil))))))))
    (dss_one (ds_ret de_bl)))) (fun ds h hl => .refl)
theorem ok_law {f : Addr} {fd : FuncData} (T : Txt K w mg A) (Fu : Fun K "law" "law" s_law f fd) (hm : mg "law" = some (.ref f)) (hb : Binds K fd ["_law_script"] []) (F__law_cell_at : FnD P w K mg base 1 "_law_cell_at" ["_law_script", "_law_k"] (f__law_cell_at A)) (F__law_number_by : FnD P w K mg base 1 "_law_number_by" ["_law_cell", "_law_most"] (f__law_number_by A)) (F__law_pair : FnD P w K mg base 4 "_law_pair" ["_law_top", "_law_bottom", "_law_cell"] (f__law_pair A)) : FnD P w K mg base 5 "law" ["_law_script"] (f_law A) :=
  fnd_of hm hb Fu.kp (okr_law T Fu F__law_cell_at F__law_number_by F__law_pair)
end
set_option maxHeartbeats 4000000 in
theorem all_mk {l : PySem.W.OpenLaw} {w : World} {K : PySem.W.Frag} {h : Heap} {mg : Str → Option Value} {fa : Addr} (X : K.In h) (G : h.Ns mainGlobals mg) (hfa : mg "law" = some (.ref fa))
    {fa_is_whole : Addr} {od_is_whole an_is_whole : Option Addr} {sl_is_whole : Array (Option Value)} {oc_is_whole kV_is_whole dc_is_whole pm_is_whole cd_is_whole ct_is_whole : Value}
    {fa_ratio : Addr} {od_ratio an_ratio : Option Addr} {sl_ratio : Array (Option Value)} {oc_ratio kV_ratio dc_ratio pm_ratio cd_ratio ct_ratio : Value}
    {fa__law_cell_at : Addr} {od__law_cell_at an__law_cell_at : Option Addr} {sl__law_cell_at : Array (Option Value)} {oc__law_cell_at kV__law_cell_at dc__law_cell_at pm__law_cell_at cd__law_cell_at ct__law_cell_at : Value}
    {fa__law_whole : Addr} {od__law_whole an__law_whole : Option Addr} {sl__law_whole : Array (Option Value)} {oc__law_whole kV__law_whole dc__law_whole pm__law_whole cd__law_whole ct__law_whole : Value}
    {fa__law_divisor : Addr} {od__law_divisor an__law_divisor : Option Addr} {sl__law_divisor : Array (Option Value)} {oc__law_divisor kV__law_divisor dc__law_divisor pm__law_divisor cd__law_divisor ct__law_divisor : Value}
    {fa__law_number_by : Addr} {od__law_number_by an__law_number_by : Option Addr} {sl__law_number_by : Array (Option Value)} {oc__law_number_by kV__law_number_by dc__law_number_by pm__law_number_by cd__law_number_by ct__law_number_by : Value}
    {fa__law_stands : Addr} {od__law_stands an__law_stands : Option Addr} {sl__law_stands : Array (Option Value)} {oc__law_stands kV__law_stands dc__law_stands pm__law_stands cd__law_stands ct__law_stands : Value}
    {fa__law_refused : Addr} {od__law_refused an__law_refused : Option Addr} {sl__law_refused : Array (Option Value)} {oc__law_refused kV__law_refused dc__law_refused pm__law_refused cd__law_refused ct__law_refused : Value}
    {fa__law_pair : Addr} {od__law_pair an__law_pair : Option Addr} {sl__law_pair : Array (Option Value)} {oc__law_pair kV__law_pair dc__law_pair pm__law_pair cd__law_pair ct__law_pair : Value}
    {fa_law : Addr} {od_law an_law : Option Addr} {sl_law : Array (Option Value)} {oc_law kV_law dc_law pm_law cd_law ct_law : Value}
    {C_HeirError : Addr}
    {C_NoEntry : Addr}
    {C_NoNumber : Addr}
    {C_NoPerson : Addr}
    {C_NoRow : Addr}
    {C_NoWay : Addr}
    (a_is_whole : PySem.W.nsIn K mainGlobals "is_whole" = some (some (.ref fa_is_whole)))
    (l_is_whole : K.lookup fa_is_whole = some ⟨oc_is_whole, od_is_whole, .func (PySem.W.fnOf "is_whole" "is_whole" (defArgs s_is_whole) (defBody s_is_whole) (defScope s_is_whole) .none kV_is_whole dc_is_whole pm_is_whole an_is_whole cd_is_whole ct_is_whole), sl_is_whole⟩)
    (co_is_whole : PySem.W.codeIn K cd_is_whole "is_whole" = true)
    (ke_is_whole : PySem.W.keepIn K (.ref fa_is_whole) = true)
    (a_ratio : PySem.W.nsIn K mainGlobals "ratio" = some (some (.ref fa_ratio)))
    (l_ratio : K.lookup fa_ratio = some ⟨oc_ratio, od_ratio, .func (PySem.W.fnOf "ratio" "ratio" (defArgs s_ratio) (defBody s_ratio) (defScope s_ratio) .none kV_ratio dc_ratio pm_ratio an_ratio cd_ratio ct_ratio), sl_ratio⟩)
    (co_ratio : PySem.W.codeIn K cd_ratio "ratio" = true)
    (ke_ratio : PySem.W.keepIn K (.ref fa_ratio) = true)
    (a__law_cell_at : PySem.W.nsIn K mainGlobals "_law_cell_at" = some (some (.ref fa__law_cell_at)))
    (l__law_cell_at : K.lookup fa__law_cell_at = some ⟨oc__law_cell_at, od__law_cell_at, .func (PySem.W.fnOf "_law_cell_at" "_law_cell_at" (defArgs s__law_cell_at) (defBody s__law_cell_at) (defScope s__law_cell_at) .none kV__law_cell_at dc__law_cell_at pm__law_cell_at an__law_cell_at cd__law_cell_at ct__law_cell_at), sl__law_cell_at⟩)
    (co__law_cell_at : PySem.W.codeIn K cd__law_cell_at "_law_cell_at" = true)
    (ke__law_cell_at : PySem.W.keepIn K (.ref fa__law_cell_at) = true)
    (a__law_whole : PySem.W.nsIn K mainGlobals "_law_whole" = some (some (.ref fa__law_whole)))
    (l__law_whole : K.lookup fa__law_whole = some ⟨oc__law_whole, od__law_whole, .func (PySem.W.fnOf "_law_whole" "_law_whole" (defArgs s__law_whole) (defBody s__law_whole) (defScope s__law_whole) .none kV__law_whole dc__law_whole pm__law_whole an__law_whole cd__law_whole ct__law_whole), sl__law_whole⟩)
    (co__law_whole : PySem.W.codeIn K cd__law_whole "_law_whole" = true)
    (ke__law_whole : PySem.W.keepIn K (.ref fa__law_whole) = true)
    (a__law_divisor : PySem.W.nsIn K mainGlobals "_law_divisor" = some (some (.ref fa__law_divisor)))
    (l__law_divisor : K.lookup fa__law_divisor = some ⟨oc__law_divisor, od__law_divisor, .func (PySem.W.fnOf "_law_divisor" "_law_divisor" (defArgs s__law_divisor) (defBody s__law_divisor) (defScope s__law_divisor) .none kV__law_divisor dc__law_divisor pm__law_divisor an__law_divisor cd__law_divisor ct__law_divisor), sl__law_divisor⟩)
    (co__law_divisor : PySem.W.codeIn K cd__law_divisor "_law_divisor" = true)
    (ke__law_divisor : PySem.W.keepIn K (.ref fa__law_divisor) = true)
    (a__law_number_by : PySem.W.nsIn K mainGlobals "_law_number_by" = some (some (.ref fa__law_number_by)))
    (l__law_number_by : K.lookup fa__law_number_by = some ⟨oc__law_number_by, od__law_number_by, .func (PySem.W.fnOf "_law_number_by" "_law_number_by" (defArgs s__law_number_by) (defBody s__law_number_by) (defScope s__law_number_by) .none kV__law_number_by dc__law_number_by pm__law_number_by an__law_number_by cd__law_number_by ct__law_number_by), sl__law_number_by⟩)
    (co__law_number_by : PySem.W.codeIn K cd__law_number_by "_law_number_by" = true)
    (ke__law_number_by : PySem.W.keepIn K (.ref fa__law_number_by) = true)
    (a__law_stands : PySem.W.nsIn K mainGlobals "_law_stands" = some (some (.ref fa__law_stands)))
    (l__law_stands : K.lookup fa__law_stands = some ⟨oc__law_stands, od__law_stands, .func (PySem.W.fnOf "_law_stands" "_law_stands" (defArgs s__law_stands) (defBody s__law_stands) (defScope s__law_stands) .none kV__law_stands dc__law_stands pm__law_stands an__law_stands cd__law_stands ct__law_stands), sl__law_stands⟩)
    (co__law_stands : PySem.W.codeIn K cd__law_stands "_law_stands" = true)
    (ke__law_stands : PySem.W.keepIn K (.ref fa__law_stands) = true)
    (a__law_refused : PySem.W.nsIn K mainGlobals "_law_refused" = some (some (.ref fa__law_refused)))
    (l__law_refused : K.lookup fa__law_refused = some ⟨oc__law_refused, od__law_refused, .func (PySem.W.fnOf "_law_refused" "_law_refused" (defArgs s__law_refused) (defBody s__law_refused) (defScope s__law_refused) .none kV__law_refused dc__law_refused pm__law_refused an__law_refused cd__law_refused ct__law_refused), sl__law_refused⟩)
    (co__law_refused : PySem.W.codeIn K cd__law_refused "_law_refused" = true)
    (ke__law_refused : PySem.W.keepIn K (.ref fa__law_refused) = true)
    (a__law_pair : PySem.W.nsIn K mainGlobals "_law_pair" = some (some (.ref fa__law_pair)))
    (l__law_pair : K.lookup fa__law_pair = some ⟨oc__law_pair, od__law_pair, .func (PySem.W.fnOf "_law_pair" "_law_pair" (defArgs s__law_pair) (defBody s__law_pair) (defScope s__law_pair) .none kV__law_pair dc__law_pair pm__law_pair an__law_pair cd__law_pair ct__law_pair), sl__law_pair⟩)
    (co__law_pair : PySem.W.codeIn K cd__law_pair "_law_pair" = true)
    (ke__law_pair : PySem.W.keepIn K (.ref fa__law_pair) = true)
    (a_law : PySem.W.nsIn K mainGlobals "law" = some (some (.ref fa_law)))
    (l_law : K.lookup fa_law = some ⟨oc_law, od_law, .func (PySem.W.fnOf "law" "law" (defArgs s_law) (defBody s_law) (defScope s_law) .none kV_law dc_law pm_law an_law cd_law ct_law), sl_law⟩)
    (co_law : PySem.W.codeIn K cd_law "law" = true)
    (ke_law : PySem.W.keepIn K (.ref fa_law) = true)
    (z_ValueError : PySem.W.nsIn K mainGlobals "ValueError" = some none)
    (z_abs : PySem.W.nsIn K mainGlobals "abs" = some none)
    (z_bool : PySem.W.nsIn K mainGlobals "bool" = some none)
    (z_int : PySem.W.nsIn K mainGlobals "int" = some none)
    (z_isinstance : PySem.W.nsIn K mainGlobals "isinstance" = some none)
    (z_len : PySem.W.nsIn K mainGlobals "len" = some none)
    (z_max : PySem.W.nsIn K mainGlobals "max" = some none)
    (z_min : PySem.W.nsIn K mainGlobals "min" = some none)
    (z_range : PySem.W.nsIn K mainGlobals "range" = some none)
    (z_tuple : PySem.W.nsIn K mainGlobals "tuple" = some none)
    (gc_HeirError : PySem.W.nsIn K mainGlobals "HeirError" = some (some (.ref C_HeirError)))
    (xc_HeirError : PySem.W.excIn K C_HeirError [.type "ValueError", .type "Exception", .type "BaseException", .type "object"] "ValueError.__new__" = true)
    (kc_HeirError : PySem.W.keepIn K (.ref C_HeirError) = true)
    (sb_HeirError : PySem.W.subIn K (.ref C_HeirError) (.type "BaseException") = some true)
    (tc_HeirError : PySem.W.typeIn K (.ref C_HeirError) = some (.type "type"))
    (gc_NoEntry : PySem.W.nsIn K mainGlobals "NoEntry" = some (some (.ref C_NoEntry)))
    (xc_NoEntry : PySem.W.excIn K C_NoEntry [.type "ValueError", .type "Exception", .type "BaseException", .type "object"] "ValueError.__new__" = true)
    (kc_NoEntry : PySem.W.keepIn K (.ref C_NoEntry) = true)
    (sb_NoEntry : PySem.W.subIn K (.ref C_NoEntry) (.type "BaseException") = some true)
    (tc_NoEntry : PySem.W.typeIn K (.ref C_NoEntry) = some (.type "type"))
    (gc_NoNumber : PySem.W.nsIn K mainGlobals "NoNumber" = some (some (.ref C_NoNumber)))
    (xc_NoNumber : PySem.W.excIn K C_NoNumber [.type "ValueError", .type "Exception", .type "BaseException", .type "object"] "ValueError.__new__" = true)
    (kc_NoNumber : PySem.W.keepIn K (.ref C_NoNumber) = true)
    (sb_NoNumber : PySem.W.subIn K (.ref C_NoNumber) (.type "BaseException") = some true)
    (tc_NoNumber : PySem.W.typeIn K (.ref C_NoNumber) = some (.type "type"))
    (gc_NoPerson : PySem.W.nsIn K mainGlobals "NoPerson" = some (some (.ref C_NoPerson)))
    (xc_NoPerson : PySem.W.excIn K C_NoPerson [.type "ValueError", .type "Exception", .type "BaseException", .type "object"] "ValueError.__new__" = true)
    (kc_NoPerson : PySem.W.keepIn K (.ref C_NoPerson) = true)
    (sb_NoPerson : PySem.W.subIn K (.ref C_NoPerson) (.type "BaseException") = some true)
    (tc_NoPerson : PySem.W.typeIn K (.ref C_NoPerson) = some (.type "type"))
    (gc_NoRow : PySem.W.nsIn K mainGlobals "NoRow" = some (some (.ref C_NoRow)))
    (xc_NoRow : PySem.W.excIn K C_NoRow [.type "ValueError", .type "Exception", .type "BaseException", .type "object"] "ValueError.__new__" = true)
    (kc_NoRow : PySem.W.keepIn K (.ref C_NoRow) = true)
    (sb_NoRow : PySem.W.subIn K (.ref C_NoRow) (.type "BaseException") = some true)
    (tc_NoRow : PySem.W.typeIn K (.ref C_NoRow) = some (.type "type"))
    (gc_NoWay : PySem.W.nsIn K mainGlobals "NoWay" = some (some (.ref C_NoWay)))
    (xc_NoWay : PySem.W.excIn K C_NoWay [.type "ValueError", .type "Exception", .type "BaseException", .type "object"] "ValueError.__new__" = true)
    (kc_NoWay : PySem.W.keepIn K (.ref C_NoWay) = true)
    (sb_NoWay : PySem.W.subIn K (.ref C_NoWay) (.type "BaseException") = some true)
    (tc_NoWay : PySem.W.typeIn K (.ref C_NoWay) = some (.type "type"))
    (x_hn : PySem.W.specialIn K (.builtin "object.__class__") "__get__" = some (some (.builtin "getset_descriptor.__get__")))
    (x_ht : PySem.W.takesIn K (.builtin "object.__class__") = some true)
    (xhg_NoNumber : PySem.W.findIn K (.ref C_NoNumber) "__getattribute__" = some (some (.builtin "BaseException.__getattribute__")))
    (xhk_NoNumber : PySem.W.findIn K (.ref C_NoNumber) "__getattr__" = some none)
    (xhd_NoNumber : PySem.W.hasDictIn K C_NoNumber = true)
    (xha_NoNumber : PySem.W.findIn K (.ref C_NoNumber) "__class__" = some (some (.builtin "object.__class__")))
    (xhm_NoNumber : PySem.W.mroIn K C_NoNumber (.type "object") = some true)
    (su_NoNumber_HeirError : PySem.W.subIn K (.ref C_NoNumber) (.ref C_HeirError) = some true)
    (su_NoNumber_NoEntry : PySem.W.subIn K (.ref C_NoNumber) (.ref C_NoEntry) = some false)
    (su_NoNumber_NoNumber : PySem.W.subIn K (.ref C_NoNumber) (.ref C_NoNumber) = some true)
    (su_NoNumber_NoPerson : PySem.W.subIn K (.ref C_NoNumber) (.ref C_NoPerson) = some false)
    (su_NoNumber_NoRow : PySem.W.subIn K (.ref C_NoNumber) (.ref C_NoRow) = some false)
    (su_NoNumber_NoWay : PySem.W.subIn K (.ref C_NoNumber) (.ref C_NoWay) = some false)
    (su_NoNumber_ValueError : PySem.W.subIn K (.ref C_NoNumber) (.type "ValueError") = some true)
    (xhd_HeirError : PySem.W.hasDictIn K C_HeirError = true)
    (xhd_NoEntry : PySem.W.hasDictIn K C_NoEntry = true)
    (xhd_NoPerson : PySem.W.hasDictIn K C_NoPerson = true)
    (xhd_NoRow : PySem.W.hasDictIn K C_NoRow = true)
    (xhd_NoWay : PySem.W.hasDictIn K C_NoWay = true)
    (ne_HeirError_NoEntry : C_HeirError ≠ C_NoEntry)
    (ne_HeirError_NoNumber : C_HeirError ≠ C_NoNumber)
    (ne_HeirError_NoPerson : C_HeirError ≠ C_NoPerson)
    (ne_HeirError_NoRow : C_HeirError ≠ C_NoRow)
    (ne_HeirError_NoWay : C_HeirError ≠ C_NoWay)
    (ne_NoEntry_NoNumber : C_NoEntry ≠ C_NoNumber)
    (ne_NoEntry_NoPerson : C_NoEntry ≠ C_NoPerson)
    (ne_NoEntry_NoRow : C_NoEntry ≠ C_NoRow)
    (ne_NoEntry_NoWay : C_NoEntry ≠ C_NoWay)
    (ne_NoNumber_NoPerson : C_NoNumber ≠ C_NoPerson)
    (ne_NoNumber_NoRow : C_NoNumber ≠ C_NoRow)
    (ne_NoNumber_NoWay : C_NoNumber ≠ C_NoWay)
    (ne_NoPerson_NoRow : C_NoPerson ≠ C_NoRow)
    (ne_NoPerson_NoWay : C_NoPerson ≠ C_NoWay)
    (ne_NoRow_NoWay : C_NoRow ≠ C_NoWay)
    (plain : ∀ A : Ad, AdOk A → ∀ ns : List Int, ns.length ≤ 63 → ∃ h', f_law A [.ref 0] [.scr (ns.map D.int)] = .val (.bl true) h') :
    ∃ fd : FuncData, (∀ (s : Shared) (v : Value), BindsTo s fd ⟨[v], []⟩ [("_law_script", v)]) ∧ ∀ base : Heap, K.In base → base.Ns mainGlobals mg → FnOk l.prog w K mg base (L2.CX l.prog w) 5 fa fd ["_law_script"] (spLaw K) := by
  have e := hfa.symm.trans (PySem.W.mg_of X G a_law)
  cases e
  have T : Txt K w mg { c_HeirError := C_HeirError, c_NoEntry := C_NoEntry, c_NoNumber := C_NoNumber, c_NoPerson := C_NoPerson, c_NoRow := C_NoRow, c_NoWay := C_NoWay } := {
    z := trivial
    n_ValueError := PySem.W.mg_none_of X G z_ValueError
    n_abs := PySem.W.mg_none_of X G z_abs
    n_bool := PySem.W.mg_none_of X G z_bool
    n_int := PySem.W.mg_none_of X G z_int
    n_isinstance := PySem.W.mg_none_of X G z_isinstance
    n_len := PySem.W.mg_none_of X G z_len
    n_max := PySem.W.mg_none_of X G z_max
    n_min := PySem.W.mg_none_of X G z_min
    n_range := PySem.W.mg_none_of X G z_range
    n_tuple := PySem.W.mg_none_of X G z_tuple
    c_HeirError := PySem.W.mg_of X G gc_HeirError
    x_HeirError := xc_HeirError
    kc_HeirError := kc_HeirError
    sb_HeirError := sb_HeirError
    tc_HeirError := tc_HeirError
    c_NoEntry := PySem.W.mg_of X G gc_NoEntry
    x_NoEntry := xc_NoEntry
    kc_NoEntry := kc_NoEntry
    sb_NoEntry := sb_NoEntry
    tc_NoEntry := tc_NoEntry
    c_NoNumber := PySem.W.mg_of X G gc_NoNumber
    x_NoNumber := xc_NoNumber
    kc_NoNumber := kc_NoNumber
    sb_NoNumber := sb_NoNumber
    tc_NoNumber := tc_NoNumber
    c_NoPerson := PySem.W.mg_of X G gc_NoPerson
    x_NoPerson := xc_NoPerson
    kc_NoPerson := kc_NoPerson
    sb_NoPerson := sb_NoPerson
    tc_NoPerson := tc_NoPerson
    c_NoRow := PySem.W.mg_of X G gc_NoRow
    x_NoRow := xc_NoRow
    kc_NoRow := kc_NoRow
    sb_NoRow := sb_NoRow
    tc_NoRow := tc_NoRow
    c_NoWay := PySem.W.mg_of X G gc_NoWay
    x_NoWay := xc_NoWay
    kc_NoWay := kc_NoWay
    sb_NoWay := sb_NoWay
    tc_NoWay := tc_NoWay
    em_NoNumber := by
      intro cls b e
      unfold em_NoNumber at e
      dsimp only at e
      split at e
      · rename_i e0; subst e0; cases e; exact PySem.W.exm_ref sb_NoNumber xhd_NoNumber tc_NoNumber su_NoNumber_NoNumber
      cases e
    ki := by
      intro cls h
      unfold isEx at h
      dsimp only at h
      rcases h with rfl | h
      · refine ⟨_, rfl, ⟨xhg_NoNumber, xhk_NoNumber, sb_NoNumber, xhd_NoNumber, xha_NoNumber, x_hn, x_ht, xhm_NoNumber⟩, fun c b e => ?_⟩
        unfold kitV at e
        dsimp only at e
        split at e
        · rename_i e0; obtain ⟨_, rfl⟩ := e0; cases e; exact kit_ref xhd_HeirError tc_HeirError su_NoNumber_HeirError (fun z => rfl)
        split at e
        · rename_i e0; obtain ⟨_, rfl⟩ := e0; cases e; exact kit_ref xhd_NoEntry tc_NoEntry su_NoNumber_NoEntry (fun z => absurd (Value.ref.inj z) (Ne.symm ne_NoEntry_NoNumber))
        split at e
        · rename_i e0; obtain ⟨_, rfl⟩ := e0; cases e; exact kit_ref xhd_NoPerson tc_NoPerson su_NoNumber_NoPerson (fun z => absurd (Value.ref.inj z) ne_NoNumber_NoPerson)
        split at e
        · rename_i e0; obtain ⟨_, rfl⟩ := e0; cases e; exact kit_ref xhd_NoRow tc_NoRow su_NoNumber_NoRow (fun z => absurd (Value.ref.inj z) ne_NoNumber_NoRow)
        split at e
        · rename_i e0; obtain ⟨_, rfl⟩ := e0; cases e; exact kit_ref xhd_NoWay tc_NoWay su_NoNumber_NoWay (fun z => absurd (Value.ref.inj z) ne_NoNumber_NoWay)
        split at e
        · rename_i e0; obtain ⟨_, rfl⟩ := e0; cases e; exact kit_type (by decide) su_NoNumber_ValueError
        cases e
      · exact h.elim
  }
  have Fu_is_whole := fun_mk (st := s_is_whole) l_is_whole co_is_whole ke_is_whole
  have b_is_whole := Fu_is_whole.binds (ps := ["thing"]) fun _ _ _ _ _ _ us hl => match us, hl with | [_], _ => rfl
  have Fu_ratio := fun_mk (st := s_ratio) l_ratio co_ratio ke_ratio
  have b_ratio := Fu_ratio.binds (ps := ["top", "bottom"]) fun _ _ _ _ _ _ us hl => match us, hl with | [_, _], _ => rfl
  have Fu__law_cell_at := fun_mk (st := s__law_cell_at) l__law_cell_at co__law_cell_at ke__law_cell_at
  have b__law_cell_at := Fu__law_cell_at.binds (ps := ["_law_script", "_law_k"]) fun _ _ _ _ _ _ us hl => match us, hl with | [_, _], _ => rfl
  have Fu__law_whole := fun_mk (st := s__law_whole) l__law_whole co__law_whole ke__law_whole
  have b__law_whole := Fu__law_whole.binds (ps := ["_law_found"]) fun _ _ _ _ _ _ us hl => match us, hl with | [_], _ => rfl
  have Fu__law_divisor := fun_mk (st := s__law_divisor) l__law_divisor co__law_divisor ke__law_divisor
  have b__law_divisor := Fu__law_divisor.binds (ps := ["_law_one", "_law_other"]) fun _ _ _ _ _ _ us hl => match us, hl with | [_, _], _ => rfl
  have Fu__law_number_by := fun_mk (st := s__law_number_by) l__law_number_by co__law_number_by ke__law_number_by
  have b__law_number_by := Fu__law_number_by.binds (ps := ["_law_cell", "_law_most"]) fun _ _ _ _ _ _ us hl => match us, hl with | [_, _], _ => rfl
  have Fu__law_stands := fun_mk (st := s__law_stands) l__law_stands co__law_stands ke__law_stands
  have b__law_stands := Fu__law_stands.binds (ps := ["_law_found", "_law_top", "_law_bottom"]) fun _ _ _ _ _ _ us hl => match us, hl with | [_, _, _], _ => rfl
  have Fu__law_refused := fun_mk (st := s__law_refused) l__law_refused co__law_refused ke__law_refused
  have b__law_refused := Fu__law_refused.binds (ps := ["_law_top", "_law_bottom"]) fun _ _ _ _ _ _ us hl => match us, hl with | [_, _], _ => rfl
  have Fu__law_pair := fun_mk (st := s__law_pair) l__law_pair co__law_pair ke__law_pair
  have b__law_pair := Fu__law_pair.binds (ps := ["_law_top", "_law_bottom", "_law_cell"]) fun _ _ _ _ _ _ us hl => match us, hl with | [_, _, _], _ => rfl
  have Fu_law := fun_mk (st := s_law) l_law co_law ke_law
  have b_law := Fu_law.binds (ps := ["_law_script"]) fun _ _ _ _ _ _ us hl => match us, hl with | [_], _ => rfl
  refine ⟨PySem.W.fnOf "law" "law" (defArgs s_law) (defBody s_law) (defScope s_law) .none kV_law dc_law pm_law an_law cd_law ct_law, fun s v => .of_eq rfl, fun base _ _ => ?_⟩
  have G_is_whole : FnD l.prog w K mg base 1 "is_whole" ["thing"] (f_is_whole _) := ok_is_whole T Fu_is_whole (PySem.W.mg_of X G a_is_whole) b_is_whole 
  have G_ratio : FnD l.prog w K mg base 2 "ratio" ["top", "bottom"] (f_ratio _) := ok_ratio T Fu_ratio (PySem.W.mg_of X G a_ratio) b_ratio G_is_whole
  have G__law_cell_at : FnD l.prog w K mg base 1 "_law_cell_at" ["_law_script", "_law_k"] (f__law_cell_at _) := ok__law_cell_at T Fu__law_cell_at (PySem.W.mg_of X G a__law_cell_at) b__law_cell_at 
  have G__law_whole : FnD l.prog w K mg base 1 "_law_whole" ["_law_found"] (f__law_whole _) := ok__law_whole T Fu__law_whole (PySem.W.mg_of X G a__law_whole) b__law_whole 
  have G__law_divisor : FnD l.prog w K mg base 1 "_law_divisor" ["_law_one", "_law_other"] (f__law_divisor _) := ok__law_divisor T Fu__law_divisor (PySem.W.mg_of X G a__law_divisor) b__law_divisor 
  have G__law_number_by : FnD l.prog w K mg base 1 "_law_number_by" ["_law_cell", "_law_most"] (f__law_number_by _) := ok__law_number_by T Fu__law_number_by (PySem.W.mg_of X G a__law_number_by) b__law_number_by 
  have G__law_stands : FnD l.prog w K mg base 2 "_law_stands" ["_law_found", "_law_top", "_law_bottom"] (f__law_stands _) := ok__law_stands T Fu__law_stands (PySem.W.mg_of X G a__law_stands) b__law_stands G__law_divisor G__law_whole
  have G__law_refused : FnD l.prog w K mg base 3 "_law_refused" ["_law_top", "_law_bottom"] (f__law_refused _) := ok__law_refused T Fu__law_refused (PySem.W.mg_of X G a__law_refused) b__law_refused G_ratio
  have G__law_pair : FnD l.prog w K mg base 4 "_law_pair" ["_law_top", "_law_bottom", "_law_cell"] (f__law_pair _) := ok__law_pair T Fu__law_pair (PySem.W.mg_of X G a__law_pair) b__law_pair G__law_refused G__law_stands G_is_whole G_ratio
  exact law_of (okr_law T Fu_law G__law_cell_at G__law_number_by G__law_pair) (plain _ { z := trivial, ne_HeirError_NoEntry := ne_HeirError_NoEntry, ne_HeirError_NoNumber := ne_HeirError_NoNumber, ne_HeirError_NoPerson := ne_HeirError_NoPerson, ne_HeirError_NoRow := ne_HeirError_NoRow, ne_HeirError_NoWay := ne_HeirError_NoWay, ne_NoEntry_NoNumber := ne_NoEntry_NoNumber, ne_NoEntry_NoPerson := ne_NoEntry_NoPerson, ne_NoEntry_NoRow := ne_NoEntry_NoRow, ne_NoEntry_NoWay := ne_NoEntry_NoWay, ne_NoNumber_NoPerson := ne_NoNumber_NoPerson, ne_NoNumber_NoRow := ne_NoNumber_NoRow, ne_NoNumber_NoWay := ne_NoNumber_NoWay, ne_NoPerson_NoRow := ne_NoPerson_NoRow, ne_NoPerson_NoWay := ne_NoPerson_NoWay, ne_NoRow_NoWay := ne_NoRow_NoWay })
theorem walk {l : PySem.W.OpenLaw} {q : Program} {loose : List Str} {XP : (Str → Option Value) → Heap → Prop} {YP : World → Heap → Prop} {d : DefRec} {K : Params → PySem.W.Frag} (hn : l.most = some 63) (hdf : d.params.defaults = [])
    (hY : ∀ (w : World) (h : Heap), YP w h → (K w.params).In h)
    (F : ∀ (w : World) (mg : Str → Option Value) (fa : Addr) (h : Heap), (K w.params).In h → h.Ns mainGlobals mg → mg d.name = some (.ref fa) →
      ∃ fd : FuncData, (∀ (s : Shared) (u : Value), BindsTo s fd ⟨[u], []⟩ [("_law_script", u)]) ∧ ∀ base : Heap, (K w.params).In base → base.Ns mainGlobals mg → FnOk l.prog w (K w.params) mg base (L2.CX l.prog w) 5 fa fd ["_law_script"] (spLaw (K w.params))) :
    PySem.W.WalkO q loose XP YP l.row.toRowW d [] (fun f vs => PySem.call f vs) :=
  L2.walk_of (n := 63) (k := 5) (x := "_law_script") (CX := fun w => L2.CX l.prog w) (sp := fun w => spLaw (K w.params)) hn (by decide) hdf ⟨rfl, by decide, by decide⟩ hY F (fun w H a ns hl ho hS => ⟨a, ns, rfl, hS, ho, hl, fun _ => rfl⟩) (fun _ _ _ _ _ ⟨_, _, _, _, _, _, _, _, _, _, _, _, z⟩ => z)
end Wk01

namespace Wk01
open PySem PySem.Spec PyProof.Rows L2 DL
/-! ### fractions: the program's own -/
theorem is_whole_int (A : Ad) (i : Int) (h : DH) : f_is_whole A [.int i] h = .val (.bl true) h := by
  simp [f_is_whole, m_is_whole, startD]
theorem ratio_loop (t b : D) (h : DH) : ∀ (n x y : Nat), y ≤ n →
    whileN (mB (mOp gGt (mVar 3) (mC (.int 0)))) (sPar 2 3 (mCons (mVar 3) (mCons (mOp gMod (mVar 2) (mVar 3)) mNil))) (n + 1) [some t, some b, some (.int (x : Int)), some (.int (y : Int))] h = .nx [some t, some b, some (.int (Nat.gcd x y : Nat)), some (.int 0)] h
  | n, x, y, hy => by
    unfold whileN
    by_cases h0 : y = 0
    · subst h0
      simp
    · have hp : (0 : Int) < (y : Int) := by omega
      have e : sPar 2 3 (mCons (mVar 3) (mCons (mOp gMod (mVar 2) (mVar 3)) mNil)) [some t, some b, some (.int (x : Int)), some (.int (y : Int))] h = .nx [some t, some b, some (.int (y : Int)), some (.int ((x % y : Nat) : Int))] h := by
        simp [r_mod hp]
      obtain ⟨k, rfl⟩ : ∃ k, n = k + 1 := ⟨n - 1, by omega⟩
      have hm : x % y ≤ k := by
        have := Nat.mod_lt x (show y > 0 by omega)
        omega
      have ih := ratio_loop t b h k y (x % y) hm
      have eg : Nat.gcd y (x % y) = Nat.gcd x y := by
        rw [Nat.gcd_comm, Nat.gcd_comm x y]; exact (Nat.gcd_rec y x).symm
      rw [eg] at ih
      simp only [r_mB, r_mOp, r_mVar, r_mC, List.getD_cons_succ, List.getD_cons_zero, Out.bind_val, r_I0, r_asB, Out.toS_val, decide_eq_true hp, if_pos, e]
      exact ih
theorem ratio_eq (A : Ad) (t b : Int) (hb : b ≠ 0) (h1 : b.natAbs < 2 ^ 9000) (h : DH) : f_ratio A [.int t, .int b] h = .val (.tup [.int (rtP t b), .int (rtQ t b)]) h := by
  have hw := ratio_loop (.int t) (.int b) h t.natAbs b.natAbs t.natAbs (Nat.le_refl _)
  have hw2 := sWhile_eq hw (by intro z; cases z)
  have ab : ∀ z : Int, (if z < 0 then -z else z) = (z.natAbs : Int) := fun z => by split <;> omega
  have hs : rtS t b ≠ 0 := rtS_ne hb
  have hz : (rtS t b).natAbs < 2 ^ 9000 := Nat.lt_of_le_of_lt (rtS_le hb) h1
  have e1 : gFdiv (.int t) (.int (rtS t b)) h = .val (.int (rtP t b)) h := r_fdivG hs hz
  have e2 : gFdiv (.int b) (.int (rtS t b)) h = .val (.int (rtQ t b)) h := r_fdivG hs hz
  unfold f_ratio m_ratio
  refine fin_step (ρ := [some (.int t), some (.int b), none, none]) (h := h) ?_ ?_
  · simp [startD, is_whole_int, hb]
  refine fin_step (ρ := [some (.int t), some (.int b), some (.int (b.natAbs : Int)), none]) (h := h) ?_ ?_
  · simp [ab]
  refine fin_step (ρ := [some (.int t), some (.int b), some (.int (b.natAbs : Int)), some (.int (t.natAbs : Int))]) (h := h) ?_ ?_
  · simp [ab]
  refine fin_step hw2 ?_
  refine fin_step (ρ := [some (.int t), some (.int b), some (.int (rtS t b)), some (.int 0)]) (h := h) ?_ ?_
  · by_cases hn : b < 0
    · simp [hn, rtS]
    · simp [hn, rtS]
  · simp [e1, e2, sizeLine_eq]
theorem ratio_zero (A : Ad) (t : Int) (h : DH) : f_ratio A [.int t, .int 0] h = .exc ⟨.ref A.c_NoNumber, []⟩ h := by
  simp [f_ratio, m_ratio, startD, is_whole_int]
theorem whole_int (A : Ad) (i : Int) (h : DH) : f__law_whole A [.int i] h = .val (.bl true) h := by
  simp [f__law_whole, m__law_whole, startD]
theorem div_loop (o : Option D) (h : DH) : ∀ (n x y : Nat) (o : Option D), y ≤ n → ∃ o',
    whileN (mB (mOp gGt (mVar 1) (mC (.int 0)))) (sSeq (sAsg (mOp gMod (mVar 0) (mVar 1)) (gSet 2)) (sSeq (sAsg (mVar 1) (gSet 0)) (sAsg (mVar 2) (gSet 1)))) (n + 1) [some (.int (x : Int)), some (.int (y : Int)), o] h = .nx [some (.int (Nat.gcd x y : Nat)), some (.int 0), o'] h
  | n, x, y, o, hy => by
    unfold whileN
    by_cases h0 : y = 0
    · subst h0
      exact ⟨o, by simp⟩
    · have hp : (0 : Int) < (y : Int) := by omega
      have e : (sSeq (sAsg (mOp gMod (mVar 0) (mVar 1)) (gSet 2)) (sSeq (sAsg (mVar 1) (gSet 0)) (sAsg (mVar 2) (gSet 1)))) [some (.int (x : Int)), some (.int (y : Int)), o] h = .nx [some (.int (y : Int)), some (.int ((x % y : Nat) : Int)), some (.int ((x % y : Nat) : Int))] h := by
        simp [r_mod hp]
      obtain ⟨k, rfl⟩ : ∃ k, n = k + 1 := ⟨n - 1, by omega⟩
      have hm : x % y ≤ k := by
        have := Nat.mod_lt x (show y > 0 by omega)
        omega
      obtain ⟨o', ih⟩ := div_loop o h k y (x % y) (some (.int ((x % y : Nat) : Int))) hm
      have eg : Nat.gcd y (x % y) = Nat.gcd x y := by
        rw [Nat.gcd_comm, Nat.gcd_comm x y]; exact (Nat.gcd_rec y x).symm
      rw [eg] at ih
      refine ⟨o', ?_⟩
      simp only [r_mB, r_mOp, r_mVar, r_mC, List.getD_cons_succ, List.getD_cons_zero, Out.bind_val, r_I0, r_asB, Out.toS_val, decide_eq_true hp, if_pos, e]
      exact ih
theorem div_eq (A : Ad) (x y : Nat) (h : DH) : f__law_divisor A [.int x, .int y] h = .val (.int (Nat.gcd x y : Nat)) h := by
  obtain ⟨o', e⟩ := div_loop none h y x y none (Nat.le_refl _)
  have e2 := sWhile_eq e (by intro z; cases z)
  unfold f__law_divisor m__law_divisor
  exact fin_step e2 (by simp)
theorem abs_nat (z : Int) : (if z < 0 then -z else z) = (z.natAbs : Int) := by split <;> omega
theorem is_eq (A : Ad) {p q t b : Int} (hq : 1 ≤ q) (g : Nat.gcd p.natAbs q.natAbs = 1) (e : p * b = t * q) (bp : Bd 3000 p) (bq : Bd 3000 q) (bt : Bd 3000 t) (bb : Bd 3000 b) (h : DH) : f__law_stands A [.tup [.int p, .int q], .int t, .int b] h = .val (.bl true) h := by
  have e1 : gMul (.int p) (.int b) h = .val (.int (p * b)) h := r_mulB bp bb
  have e2 : gMul (.int t) (.int q) h = .val (.int (t * q)) h := r_mulB bt bq
  have e3 := div_eq A p.natAbs q.natAbs h
  have hq2 : (q.natAbs : Int) = q := by omega
  rw [hq2, g] at e3
  have nq : ¬ q < 1 := by omega
  unfold f__law_stands m__law_stands
  refine fin_step (ρ := [some (.tup [.int p, .int q]), some (.int t), some (.int b)]) (h := h) ?_ ?_
  · simp [startD, whole_int]
  refine fin_step (ρ := [some (.tup [.int p, .int q]), some (.int t), some (.int b)]) (h := h) ?_ ?_
  · simp [nq, e1, e2, e]
  · simp [abs_nat, e3]
theorem cell_eq (A : Ad) (ns : List Int) (h : DH) (e : listAt h 0 = some (ns.map D.int)) (k : Nat) : ∃ v, f__law_cell_at A [.ref 0, .int k] h = .val (.int v) h := by
  unfold f__law_cell_at m__law_cell_at
  by_cases hk : k < ns.length
  · refine ⟨ns[k], ?_⟩
    have e2 : gIx (.ref 0) (.int (k : Int)) h = .val (.int ns[k]) h := r_ix_lst e (by simp [List.getElem?_eq_getElem hk])
    simp [startD, r_len_lst e, hk, e2]
  · refine ⟨0, ?_⟩
    simp [startD, r_len_lst e, hk]
/-- no whole number, of the kinds that the law has -/
def Odd (h : DH) : D → Prop
  | .non => True
  | .bl _ => True
  | .str _ => True
  | .tup _ => True
  | .ref n => (∃ xs, h[n]? = some (.lst xs)) ∨ ∃ xs, h[n]? = some (.dk xs)
  | _ => False
theorem Odd.app {h j : DH} {d : D} (o : Odd h d) : Odd (h ++ j) d := by
  cases d with
  | ref n =>
    rcases o with ⟨xs, e⟩ | ⟨xs, e⟩
    · exact .inl ⟨xs, by rw [List.getElem?_append_left (List.getElem?_eq_some_iff.mp e).1]; exact e⟩
    · exact .inr ⟨xs, by rw [List.getElem?_append_left (List.getElem?_eq_some_iff.mp e).1]; exact e⟩
  | _ => exact o
theorem kb : kitB "NoneType" "int" = some false ∧ kitB "str" "int" = some false ∧ kitB "tuple" "int" = some false ∧ kitB "list" "int" = some false ∧ kitB "dict" "int" = some false ∧ kitB "bool" "int" = some true ∧ kitB "bool" "bool" = some true := by decide +kernel
theorem whole_odd (A : Ad) {d : D} {h : DH} (o : Odd h d) : f_is_whole A [d] h = .val (.bl false) h := by
  obtain ⟨k1, k2, k3, k4, k5, k6, k7⟩ := kb
  have go : ∀ t, tyD h d = some t → kitB t "int" = some false → f_is_whole A [d] h = .val (.bl false) h := by
    intro t e k
    have q : gIsTy [d, .raw (.ty "int")] h = .val (.bl false) h := r_isTy e k
    simp [f_is_whole, m_is_whole, startD, q]
  cases d with
  | non => exact go "NoneType" rfl k1
  | bl b =>
    have q1 : gIsTy [.bl b, .raw (.ty "int")] h = .val (.bl true) h := r_isTy (t := "bool") rfl k6
    have q2 : gIsTy [.bl b, .raw (.ty "bool")] h = .val (.bl true) h := r_isTy (t := "bool") rfl k7
    simp [f_is_whole, m_is_whole, startD, q1, q2]
  | str x => exact go "str" rfl k2
  | tup x => exact go "tuple" rfl k3
  | ref n =>
    rcases o with ⟨xs, e⟩ | ⟨xs, e⟩
    · exact go "list" (by show tyR h[n]? = _; rw [e]; rfl) k4
    · exact go "dict" (by show tyR h[n]? = _; rw [e]; rfl) k5
  | int i => exact o.elim
  | raw v => exact o.elim
theorem ratio_odd1 (A : Ad) {d e : D} {h : DH} (o : Odd h d) : f_ratio A [d, e] h = .exc ⟨.ref A.c_NoNumber, []⟩ h := by
  simp [f_ratio, m_ratio, startD, whole_odd A o]
theorem ratio_odd2 (A : Ad) {t : Int} {e : D} {h : DH} (o : Odd h e) : f_ratio A [.int t, e] h = .exc ⟨.ref A.c_NoNumber, []⟩ h := by
  simp [f_ratio, m_ratio, startD, whole_odd A o, is_whole_int]
theorem refused_of (A : Ad) (hA : AdOk A) (x y : D) (h : DH) (e : f_ratio A [x, y] (h ++ [.lst []]) = .exc ⟨.ref A.c_NoNumber, []⟩ (h ++ [.lst []])) : ∃ j, f__law_refused A [x, y] h = .val (.bl true) (h ++ j) := by
  let h1 : DH := h ++ [.lst []]
  let h2 : DH := h1 ++ [.lst [.bl true, .bl true, .bl false]]
  let h3 : DH := h2 ++ [.lst [.bl false, .bl false, .bl false]]
  let h4 : DH := h3 ++ [.lst [.bl true, .bl true, .bl false, .bl false, .bl false, .bl false]]
  let h5 : DH := h4 ++ [.lst [.bl true, .bl true, .bl false, .bl false, .bl false, .bl false]]
  have n1 := hA.ne_HeirError_NoNumber
  have n2 := hA.ne_HeirError_NoEntry
  have n3 := hA.ne_HeirError_NoPerson
  have n4 := hA.ne_HeirError_NoRow
  have n5 := hA.ne_HeirError_NoWay
  have n6 := hA.ne_NoEntry_NoNumber
  have n7 := hA.ne_NoEntry_NoPerson
  have n8 := hA.ne_NoEntry_NoRow
  have n9 := hA.ne_NoEntry_NoWay
  have n10 := hA.ne_NoNumber_NoPerson
  have n11 := hA.ne_NoNumber_NoRow
  have n12 := hA.ne_NoNumber_NoWay
  have n13 := hA.ne_NoPerson_NoRow
  have n14 := hA.ne_NoPerson_NoWay
  have n15 := hA.ne_NoRow_NoWay
  have g2 : h3[h1.length]? = some (.lst [.bl true, .bl true, .bl false]) := by
    show (h1 ++ [DO.lst [.bl true, .bl true, .bl false]] ++ [DO.lst [.bl false, .bl false, .bl false]])[h1.length]? = _
    rw [List.append_assoc]; exact get_mid
  have g3 : h3[h2.length]? = some (.lst [.bl false, .bl false, .bl false]) := get_mid
  have ea : gAdd (.ref h1.length) (.ref h2.length) h3 = .val (.ref h3.length) h4 := by
    unfold gAdd
    dsimp only
    rw [g2, g3]
    dsimp only
    rw [if_pos (by rw [sizeLine_eq]; decide)]
    rfl
  have g4 : listAt h5 h3.length = some [.bl true, .bl true, .bl false, .bl false, .bl false, .bl false] := by
    show listAt (h3 ++ [DO.lst [.bl true, .bl true, .bl false, .bl false, .bl false, .bl false]] ++ [DO.lst [.bl true, .bl true, .bl false, .bl false, .bl false, .bl false]]) h3.length = _
    rw [List.append_assoc]; exact listAt_mid
  have g5 : listAt h5 h4.length = some [.bl true, .bl true, .bl false, .bl false, .bl false, .bl false] := listAt_end
  have ee : gEq (.ref h3.length) (.ref h4.length) h5 = .val (.bl true) h5 := by
    have p1 : ∀ n, listAt h5 n = some [.bl true, .bl true, .bl false, .bl false, .bl false, .bl false] → pd h5 16 (.ref n) = some (.list [.bool true, .bool true, .bool false, .bool false, .bool false, .bool false]) := fun n q => by
      unfold pd; rw [q]; rfl
    unfold gEq
    rw [p1 _ g4, p1 _ g5]
    rfl
  refine ⟨[.lst [], .lst [.bl true, .bl true, .bl false], .lst [.bl false, .bl false, .bl false], .lst [.bl true, .bl true, .bl false, .bl false, .bl false, .bl false], .lst [.bl true, .bl true, .bl false, .bl false, .bl false, .bl false]], ?_⟩
  have eh : h ++ [DO.lst [], .lst [.bl true, .bl true, .bl false], .lst [.bl false, .bl false, .bl false], .lst [.bl true, .bl true, .bl false, .bl false, .bl false, .bl false], .lst [.bl true, .bl true, .bl false, .bl false, .bl false, .bl false]] = h5 := by
    simp only [h5, h4, h3, h2, h1, List.append_assoc, List.cons_append, List.nil_append]
  rw [eh]
  have z3 : (3 : Nat) ≤ sizeLine := by rw [sizeLine_eq]; decide
  have z6 : (6 : Nat) ≤ sizeLine := by rw [sizeLine_eq]; decide
  have e1h : h ++ [DO.lst []] = h1 := rfl
  have e2h : h1 ++ [DO.lst [.bl true, .bl true, .bl false]] = h2 := rfl
  have e3h : h2 ++ [DO.lst [.bl false, .bl false, .bl false]] = h3 := rfl
  have e5h : h4 ++ [DO.lst [.bl true, .bl true, .bl false, .bl false, .bl false, .bl false]] = h5 := rfl
  rw [e1h] at e
  clear_value h1 h2 h3 h4 h5
  unfold f__law_refused m__law_refused
  refine fin_step (ρ := [some x, some y, some (.ref h.length), none]) (h := h1) ?_ ?_
  · simp [startD, e1h]
  refine fin_step (ρ := [some x, some y, some (.ref h3.length), none]) (h := h4) ?_ ?_
  · refine sTryAs_yes (c := .ref A.c_NoNumber) (ρ1 := [some x, some y, some (.ref h.length), none]) (h1 := h1) ?_ ?_ ?_ ?_
    · simp [e]
    · unfold em_NoNumber; simp
    · intro a
      have k1 : kitV A (.ref A.c_NoNumber) (.ref A.c_HeirError) = some true := by simp [kitV]
      have k2 : kitV A (.ref A.c_NoNumber) (.type "ValueError") = some true := by simp [kitV]
      have k3 : kitV A (.ref A.c_NoNumber) (.ref A.c_NoEntry) = some false := by simp [kitV, n2, Ne.symm n2, n7, n8, n9]
      have k4 : kitV A (.ref A.c_NoNumber) (.ref A.c_NoPerson) = some false := by simp [kitV, n3, Ne.symm n3, n7, Ne.symm n7, n13, n14]
      have k5 : kitV A (.ref A.c_NoNumber) (.ref A.c_NoRow) = some false := by simp [kitV, n4, Ne.symm n4, n8, Ne.symm n8, n13, Ne.symm n13, n15]
      have k6 : kitV A (.ref A.c_NoNumber) (.ref A.c_NoWay) = some false := by simp [kitV, n5, Ne.symm n5, n9, Ne.symm n9, n14, Ne.symm n14, n15, Ne.symm n15]
      simp [gIsE, k1, k2, k3, k4, k5, k6, z3, e2h, e3h, ea, sufx]
    · intro y ρ' h' z; cases z
  · simp [z6, e5h, ee]
theorem f3 (c : Int) (h : DH) : gFdiv (.int c) (.int 3) h = .val (.int (c / 3)) h := r_fdiv (by decide) (Nat.lt_of_lt_of_le (show (3 : Int).natAbs < 2 ^ 2 by decide) (Nat.pow_le_pow_right (by decide) (by decide)))
theorem m3 (c : Int) (h : DH) : gMod (.int c) (.int 3) h = .val (.int (c % 3)) h := r_mod (by decide)
theorem number_eq (A : Ad) (c m : Int) (hm : 1 ≤ m) (bm : Bd 200 m) (h : DH) : ∃ v, Bd 201 v ∧ f__law_number_by A [.int c, .int m] h = .val (.int v) h := by
  unfold f__law_number_by m__law_number_by
  have m2 : gMul (.int 2) (.int m) h = .val (.int (2 * m)) h := r_mulL (by decide) (by decide)
  have q1 : gMod (.int (c / 3)) (.int (2 * m + 1)) h = .val (.int (c / 3 % (2 * m + 1))) h := r_mod (by omega)
  have q2 : gMod (.int (c / 3)) (.int 2001) h = .val (.int (c / 3 % 2001)) h := r_mod (by decide)
  have q3 : gMod (.int (c / 3)) (.int 13) h = .val (.int (c / 3 % 13)) h := r_mod (by decide)
  have small : ∀ v : Int, v.natAbs ≤ 2000 → Bd 201 v := fun v hv => Nat.lt_of_le_of_lt hv (Nat.lt_of_lt_of_le (show 2000 < 2 ^ 11 by decide) (Nat.pow_le_pow_right (by decide) (by decide)))
  by_cases e0 : c % 3 = 0
  · refine ⟨c / 3 % (2 * m + 1) - m, ?_, ?_⟩
    · have t0 := Int.emod_nonneg (c / 3) (show 2 * m + 1 ≠ 0 by omega)
      have t1 := Int.emod_lt_of_pos (c / 3) (show 0 < 2 * m + 1 by omega)
      exact (bm.le (y := c / 3 % (2 * m + 1) - m) (by omega)).mono (by decide)
    · simp [startD, m3, e0, f3, m2, q1]
  · by_cases e1 : c % 3 = 1
    · refine ⟨c / 3 % 2001 - 1000, small _ (by omega), ?_⟩
      simp [startD, m3, e1, f3, q2]
    · refine ⟨c / 3 % 13 - 6, small _ (by omega), ?_⟩
      simp [startD, m3, e0, e1, f3, q3]
theorem pair_eq (A : Ad) (hA : AdOk A) (t b c : Int) (bt : Bd 300 t) (bb : Bd 300 b) (h : DH) : ∃ j, f__law_pair A [.int t, .int b, .int c] h = .val (.bl true) (h ++ j) := by
  let ja : DH := [.lst [.int 1], .dk []]
  let od : List D := [.non, .bl true, .bl false, .str "1", .tup [.int 1], .ref h.length, .ref (h.length + 1), .str "0"]
  let h1 : DH := h ++ ja ++ [.lst od]
  have hm : gMod (.int c) (.int 8) h1 = .val (.int (c % 8)) h1 := r_mod (by decide)
  have hi : (c % 8).toNat < 8 := by omega
  have hd : ∃ d, od[(c % 8).toNat]? = some d ∧ Odd h1 d := by
    refine ⟨od[(c % 8).toNat], List.getElem?_eq_getElem hi, ?_⟩
    have o5 : Odd h1 (.ref h.length) := .inl ⟨[.int 1], by show (h ++ ja ++ [DO.lst od])[h.length]? = _; rw [List.append_assoc]; exact get_mid⟩
    have o6 : Odd h1 (.ref (h.length + 1)) := .inr ⟨[], by
      show (h ++ ja ++ [DO.lst od])[h.length + 1]? = _
      rw [List.append_assoc, List.getElem?_append_right (by omega), Nat.add_sub_cancel_left]; rfl⟩
    have all : ∀ (n : Nat) (hn : n < 8), Odd h1 (od[n]'hn) := fun n hn => by
      match n, hn with
      | 0, _ => trivial
      | 1, _ => trivial
      | 2, _ => trivial
      | 3, _ => trivial
      | 4, _ => trivial
      | 5, _ => exact o5
      | 6, _ => exact o6
      | 7, _ => trivial
    exact all _ hi
  obtain ⟨d, ed, o⟩ := hd
  have ix : gIx (.ref (h ++ ja).length) (.int (c % 8)) h1 = .val d h1 := by
    have q := r_ix_lst (h := h1) (p := (h ++ ja).length) (xs := od) listAt_end ed
    rwa [Int.toNat_of_nonneg (by omega)] at q
  have a1 : f__law_pair A [.int t, .int b, .int c] h = f__law_pair A [.int t, .int b, .int c] h := rfl
  obtain ⟨j1, w1⟩ := refused_of A hA d (.int b) h1 (ratio_odd1 A o.app)
  obtain ⟨j2, w2⟩ := refused_of A hA (.int t) d (h1 ++ j1) (ratio_odd2 A (Odd.app (Odd.app o)))
  obtain ⟨j3, w3⟩ := refused_of A hA (.int t) (.int 0) (h1 ++ j1 ++ j2) (ratio_zero A t _)
  let h2 := h1 ++ j1 ++ j2 ++ j3
  have st1 : ∀ (o1 : Option D), (sAsg (mOp gIx (mLst (mCons (mC .non) (mCons (mC (.bl true)) (mCons (mC (.bl false)) (mCons (mC (.str "1")) (mCons (mTup (mCons (mC (.int 1)) mNil)) (mCons (mLst (mCons (mC (.int 1)) mNil)) (mCons mDictE (mCons (mC (.str "0")) mNil))))))))) (mOp gMod (mVar 2) (mC (.int 8)))) (gSet 3)) [some (.int t), some (.int b), some (.int c), none] h = .nx [some (.int t), some (.int b), some (.int c), some d] h1 := by
    intro _
    have z1 : (1 : Nat) ≤ sizeLine := by rw [sizeLine_eq]; decide
    have z8 : (8 : Nat) ≤ sizeLine := by rw [sizeLine_eq]; decide
    refine asg_step (d := d) (h' := h1) ?_ rfl
    refine (e_op (x := .ref (h ++ ja).length) (y := .int (c % 8)) (h1 := h1) (h2 := h1) ?_ ?_).trans ix
    · simp [mDictE, z1, z8, h1, ja, od]
    · exact (e_op (x := .int c) (y := .int 8) rfl rfl).trans hm
  have wd := whole_odd A o
  unfold f__law_pair m__law_pair
  have fin : ∃ j4, (if b = 0 then f__law_refused A [.int t, .int b] h2 = .val (.bl true) (h2 ++ j4) else (f_ratio A [.int t, .int b] h2 = .val (.tup [.int (rtP t b), .int (rtQ t b)]) h2 ∧ f__law_stands A [.tup [.int (rtP t b), .int (rtQ t b)], .int t, .int b] h2 = .val (.bl true) h2 ∧ j4 = [])) := by
    by_cases hb : b = 0
    · subst hb
      obtain ⟨j4, w⟩ := refused_of A hA (.int t) (.int 0) h2 (ratio_zero A t _)
      exact ⟨j4, by rw [if_pos rfl]; exact w⟩
    · have br := Bd.rt bt bb hb
      refine ⟨[], by rw [if_neg hb]; exact ⟨ratio_eq A t b hb (bb.mono (n := 9000) (by decide)) h2, is_eq A (rtQ_pos hb) (rt_cop hb) (rt_cross t b) (br.1.mono (by decide)) (br.2.mono (by decide)) (bt.mono (by decide)) (bb.mono (by decide)) h2, rfl⟩⟩
  obtain ⟨j4, fin⟩ := fin
  refine ⟨ja ++ [.lst od] ++ j1 ++ j2 ++ j3 ++ j4, ?_⟩
  have eh : h ++ (ja ++ [.lst od] ++ j1 ++ j2 ++ j3 ++ j4) = h2 ++ j4 := by simp only [h2, h1, List.append_assoc]
  rw [eh]
  have e2h : h1 ++ j1 ++ j2 ++ j3 = h2 := rfl
  rw [e2h] at w3
  generalize hg1 : h1 ++ j1 = h11 at *
  generalize hg2 : h11 ++ j2 = h12 at *
  clear_value h2 h1
  refine fin_step (ρ := [some (.int t), some (.int b), some (.int c), some d]) (h := h1) ?_ ?_
  · exact st1 none
  refine fin_step (ρ := [some (.int t), some (.int b), some (.int c), some d]) (h := h1) ?_ ?_
  · simp [wd, gIsNot, is_whole_int]
  refine fin_step (ρ := [some (.int t), some (.int b), some (.int c), some d]) (h := h2) ?_ ?_
  · simp [w1, w2, w3]
  by_cases hb : b = 0
  · rw [if_pos hb] at fin
    refine (congrArg SOut.fin (?_ : _ = SOut.ret (.bl true) (h2 ++ j4))).trans rfl
    simp [hb, fin]
    rw [hb] at fin
    simp [fin]
  · rw [if_neg hb] at fin
    obtain ⟨e1, e2, rfl⟩ := fin
    simp [hb, e1, e2]
theorem mul_bd {t v : Int} (h : Bd 201 t) (hv : 1 ≤ v ∧ v ≤ 1000000000) : Bd 300 (t * v) :=
  (h.mul (show Bd 32 v from Nat.lt_of_le_of_lt (show v.natAbs ≤ 1000000000 by omega) (by decide))).mono (by decide)
theorem plain (A : Ad) (hA : AdOk A) (ns : List Int) (hl : ns.length ≤ 63) : ∃ h', f_law A [.ref 0] [.scr (ns.map D.int)] = .val (.bl true) h' := by
  unfold f_law m_law
  let n : Int := if (if (60 : Int) < (ns.length : Int) then 60 else (ns.length : Int)) > 1 then (if (60 : Int) < (ns.length : Int) then 60 else (ns.length : Int)) else 1
  have hn : 0 ≤ n ∧ n ≤ 60 := by
    by_cases h30 : (60 : Int) < (ns.length : Int)
    · simp only [n, if_pos h30]; split <;> omega
    · simp only [n, if_neg h30]; split <;> omega
  have l0 : ∀ j : DH, listAt ([.scr (ns.map D.int)] ++ j) 0 = some (ns.map D.int) := fun j => rfl
  have emi : (iRng1D (mCons (mCall gMax2 (mCons (mC (.int 1)) (mCons (mCall gMin2 (mCons (mCall gLen (mCons (mVar 0) mNil)) (mCons (mC (.int 60)) mNil))) mNil))) mNil)) (startD N_law [.ref 0]) [.scr (ns.map D.int)] = .val (fun _ => some (rangeD 0 n.toNat)) [.scr (ns.map D.int)] := by
    refine r_rng1 (j := n) ?_ ⟨by omega, by omega⟩
    have el : gLen [.ref 0] [.scr (ns.map D.int)] = .val (.int ns.length) [.scr (ns.map D.int)] := (r_len_lst (xs := ns.map D.int) rfl).trans (by simp)
    simp only [r_mCons, r_mCall, r_mC, r_mVar, r_mNil, Out.bind_val, startD, List.map, List.cons_append, List.getD_cons_zero, el, r_min2, r_max2]
    rfl
  refine for_end (P := fun o => ∃ h', o = .val (.bl true) h') (fun _ ρ h => ∃ j o1 o2 o3 o4 o5, h = [.scr (ns.map D.int)] ++ j ∧ ρ = [some (.ref 0), o1, o2, o3, o4, o5]) (fun _ => False) emi rfl (fun _ _ _ _ => rfl) ?_ ⟨[], none, none, none, none, none, rfl, rfl⟩ ?_ (fun _ z => z.elim)
  · rintro i d ρ h hd ⟨j, o1, o2, o3, o4, o5, rfl, rfl⟩
    obtain ⟨hi, rfl⟩ := range_at hd
    rw [Int.zero_add]
    refine ⟨[some (.ref 0), some (.int (i : Int)), o2, o3, o4, o5], _, rfl, .inl ?_⟩
    -- how large
    let ml : List D := [.int (10 ^ 60), .int (10 ^ 15)]
    have hm : ∃ m : Int, 1 ≤ m ∧ Bd 200 m ∧ ml[(if (11 : Int) < (i : Int) then 1 else 0 : Nat)]? = some (.int m) := by
      by_cases hk : (11 : Int) < (i : Int)
      · exact ⟨10 ^ 15, by decide, Nat.lt_of_lt_of_le (show ((10 : Int) ^ 15).natAbs < 2 ^ 60 by decide) (Nat.pow_le_pow_right (by decide) (by decide)), by rw [if_pos hk]; rfl⟩
      · exact ⟨10 ^ 60, by decide, Nat.lt_of_lt_of_le (show ((10 : Int) ^ 60).natAbs < 2 ^ 200 by decide) (Nat.le_refl _), by rw [if_neg hk]; rfl⟩
    obtain ⟨m, hm1, hm2, hm3⟩ := hm
    generalize hh0 : [DO.scr (ns.map D.int)] ++ j = h0
    have l00 : ∀ j', listAt (h0 ++ j') 0 = some (ns.map D.int) := fun j' => by rw [← hh0, List.append_assoc]; exact l0 _
    let h1 : DH := h0 ++ [.lst ml]
    have ixm : gIx (.ref h0.length) (.int (if (decide ((11 : Int) < (i : Int))) = true then 1 else 0)) h1 = .val (.int m) h1 := by
      have q := r_ix_lst (h := h1) (p := h0.length) (xs := ml) listAt_end hm3
      by_cases hk : (11 : Int) < (i : Int)
      · rw [if_pos hk] at q; rw [if_pos (decide_eq_true hk)]; exact q
      · rw [if_neg hk] at q; rw [if_neg (by rw [decide_eq_false hk]; exact Bool.false_ne_true)]; exact q
    obtain ⟨c1, w1⟩ := cell_eq A ns h1 (l00 _) i
    obtain ⟨t, bt, w2⟩ := number_eq A c1 m hm1 hm2 h1
    obtain ⟨c2, w3⟩ := cell_eq A ns h1 (l00 _) (i + 1)
    obtain ⟨b, bb, w4⟩ := number_eq A c2 m hm1 hm2 h1
    obtain ⟨c, w5⟩ := cell_eq A ns h1 (l00 _) (i + 2)
    rw [Int.natCast_add] at w3 w5
    have p60 : gPow (.int 10) (.int 60) h0 = .val (.int (10 ^ 60)) h0 := r_pow ⟨by decide, by decide, by decide⟩
    have p15 : gPow (.int 10) (.int 15) h0 = .val (.int (10 ^ 15)) h0 := r_pow ⟨by decide, by decide, by decide⟩
    have p9 : gPow (.int 10) (.int 9) h1 = .val (.int (10 ^ 9)) h1 := r_pow ⟨by decide, by decide, by decide⟩
    have p9' : (10 : Int) ^ 9 = 1000000000 := by decide
    have q3 : gMod (.int (c / 3)) (.int (10 ^ 9)) h1 = .val (.int (c / 3 % 10 ^ 9)) h1 := r_mod (by decide)
    let v : Int := 1 + c / 3 % 10 ^ 9
    have hv : 1 ≤ v ∧ v ≤ 1000000000 := by
      show 1 ≤ 1 + c / 3 % 10 ^ 9 ∧ 1 + c / 3 % 10 ^ 9 ≤ 1000000000
      rw [p9']; omega
    have mt : gMul (.int t) (.int v) h1 = .val (.int (t * v)) h1 := r_mulR (by omega) (by omega)
    have mb : gMul (.int b) (.int v) h1 = .val (.int (b * v)) h1 := r_mulR (by omega) (by omega)
    have ev : 1 + c / 3 % 10 ^ 9 = v := rfl
    clear_value v
    -- which numbers, in the end
    have key : ∃ t' b', Bd 300 t' ∧ Bd 300 b' ∧ (sIf (mB (mOp gEq (mOp gMod (mVar 5) (mC (.int 3))) (mC (.int 1)))) (sSeq (sAsg (mOp gMul (mVar 3) (mOp gAdd (mC (.int 1)) (mOp gMod (mOp gFdiv (mVar 5) (mC (.int 3))) (mOp gPow (mC (.int 10)) (mC (.int 9)))))) (gSet 3)) (sAsg (mOp gMul (mVar 4) (mOp gAdd (mC (.int 1)) (mOp gMod (mOp gFdiv (mVar 5) (mC (.int 3))) (mOp gPow (mC (.int 10)) (mC (.int 9)))))) (gSet 4))) sNil)
        [some (.ref 0), some (.int (i : Int)), some (.int m), some (.int t), some (.int b), some (.int c)] h1 = .nx [some (.ref 0), some (.int (i : Int)), some (.int m), some (.int t'), some (.int b'), some (.int c)] h1 := by
      by_cases z : c % 3 = 1
      · refine ⟨t * v, b * v, mul_bd bt hv, mul_bd bb hv, ?_⟩
        refine if_step (b := true) (h' := h1) ?_ ?_
        · simp [m3, z]
        · rw [if_pos rfl]
          refine nx_step (ρ := [some (.ref 0), some (.int (i : Int)), some (.int m), some (.int (t * v)), some (.int b), some (.int c)]) (h := h1) ?_ ?_
          · simp only [r_sAsg, r_mOp, r_mVar, r_mC, List.getD_cons_succ, List.getD_cons_zero, Out.bind_val, f3, p9, q3, r_add_int, ev, mt, Out.toS_val, r_gSet]
            rfl
          · simp only [r_sAsg, r_mOp, r_mVar, r_mC, List.getD_cons_succ, List.getD_cons_zero, Out.bind_val, f3, p9, q3, r_add_int, ev, mb, Out.toS_val, r_gSet]
            rfl
      · exact ⟨t, b, bt.mono (by decide), bb.mono (by decide), by simp [m3, z]⟩
    obtain ⟨t', b', bt', bb', key⟩ := key
    obtain ⟨j2, w6⟩ := pair_eq A hA t' b' (c / 3) bt' bb' h1
    refine ⟨[some (.ref 0), some (.int (i : Int)), some (.int m), some (.int t'), some (.int b'), some (.int c)], h1 ++ j2, .inl ?_, j ++ ([.lst ml] ++ j2), _, _, _, _, _, by rw [← List.append_assoc, ← List.append_assoc, hh0], rfl⟩
    have z2 : (2 : Nat) ≤ sizeLine := by rw [sizeLine_eq]; decide
    have w1' : f__law_cell_at A [.ref 0, .int (i : Int)] h1 = .val (.int c1) h1 := w1
    have w3' : f__law_cell_at A [.ref 0, .int ((i : Int) + 1)] h1 = .val (.int c2) h1 := w3
    have w5' : f__law_cell_at A [.ref 0, .int ((i : Int) + 2)] h1 = .val (.int c) h1 := w5
    refine nx_step (ρ := [some (.ref 0), some (.int (i : Int)), some (.int m), o3, o4, o5]) (h := h1) ?_ ?_
    · refine asg_step (d := .int m) (h' := h1) ?_ rfl
      refine (e_op (x := .ref h0.length) (y := .int (if (decide ((11 : Int) < (i : Int))) = true then 1 else 0)) (h1 := h1) (h2 := h1) ?_ ?_).trans ixm
      · simp only [r_mLst, r_mCons, r_mNil, r_mOp, r_mC, Out.bind_val, p60, p15, List.length_cons, List.length_nil]
        rw [if_pos (by rw [sizeLine_eq]; decide)]
      · simp only [r_mCall, r_mCons, r_mNil, r_mOp, r_mC, r_mVar, List.getD_cons_succ, List.getD_cons_zero, Out.bind_val, r_I0, r_int_b]
    clear_value h1
    refine nx_step (ρ := [some (.ref 0), some (.int (i : Int)), some (.int m), some (.int t), o4, o5]) (h := h1) ?_ ?_
    · simp [w1', w2]
    refine nx_step (ρ := [some (.ref 0), some (.int (i : Int)), some (.int m), some (.int t), some (.int b), o5]) (h := h1) ?_ ?_
    · simp [w3', w4]
    refine nx_step (ρ := [some (.ref 0), some (.int (i : Int)), some (.int m), some (.int t), some (.int b), some (.int c)]) (h := h1) ?_ ?_
    · simp [w5']
    refine nx_step key ?_
    simp [f3, w6]
  · rintro ρ' h' ⟨j, o1, o2, o3, o4, o5, rfl, rfl⟩
    exact ⟨_, rfl⟩
end Wk01

open PySem PySem.W PyProof.Rows in
set_option maxRecDepth 100000 in
set_option maxHeartbeats 0 in
theorem PySem.Challenge.cw_heirbook_k01_a_ratio_holds : PySem.Challenge.rw_heirbook_k01_a_ratio.Holds := by
  w_on; o_law; k_head; (case hw => w_witness2)
  k_fill
  refine Wk01.walk (l := PySem.Challenge.rw_heirbook_k01_a_ratio) rfl rfl (fun w h Y => PySem.W.kIn_of Y) ?F
  case F =>
    intro w mg fa h KX G hmg
    refine' Wk01.all_mk KX G hmg ?a_is_whole ?l_is_whole ?co_is_whole ?ke_is_whole ?a_ratio ?l_ratio ?co_ratio ?ke_ratio ?a__law_cell_at ?l__law_cell_at ?co__law_cell_at ?ke__law_cell_at ?a__law_whole ?l__law_whole ?co__law_whole ?ke__law_whole ?a__law_divisor ?l__law_divisor ?co__law_divisor ?ke__law_divisor ?a__law_number_by ?l__law_number_by ?co__law_number_by ?ke__law_number_by ?a__law_stands ?l__law_stands ?co__law_stands ?ke__law_stands ?a__law_refused ?l__law_refused ?co__law_refused ?ke__law_refused ?a__law_pair ?l__law_pair ?co__law_pair ?ke__law_pair ?a_law ?l_law ?co_law ?ke_law ?z_ValueError ?z_abs ?z_bool ?z_int ?z_isinstance ?z_len ?z_max ?z_min ?z_range ?z_tuple ?gc_HeirError ?xc_HeirError ?kc_HeirError ?sb_HeirError ?tc_HeirError ?gc_NoEntry ?xc_NoEntry ?kc_NoEntry ?sb_NoEntry ?tc_NoEntry ?gc_NoNumber ?xc_NoNumber ?kc_NoNumber ?sb_NoNumber ?tc_NoNumber ?gc_NoPerson ?xc_NoPerson ?kc_NoPerson ?sb_NoPerson ?tc_NoPerson ?gc_NoRow ?xc_NoRow ?kc_NoRow ?sb_NoRow ?tc_NoRow ?gc_NoWay ?xc_NoWay ?kc_NoWay ?sb_NoWay ?tc_NoWay ?x_hn ?x_ht ?xhg_NoNumber ?xhk_NoNumber ?xhd_NoNumber ?xha_NoNumber ?xhm_NoNumber ?su_NoNumber_HeirError ?su_NoNumber_NoEntry ?su_NoNumber_NoNumber ?su_NoNumber_NoPerson ?su_NoNumber_NoRow ?su_NoNumber_NoWay ?su_NoNumber_ValueError ?xhd_HeirError ?xhd_NoEntry ?xhd_NoPerson ?xhd_NoRow ?xhd_NoWay ?ne_HeirError_NoEntry ?ne_HeirError_NoNumber ?ne_HeirError_NoPerson ?ne_HeirError_NoRow ?ne_HeirError_NoWay ?ne_NoEntry_NoNumber ?ne_NoEntry_NoPerson ?ne_NoEntry_NoRow ?ne_NoEntry_NoWay ?ne_NoNumber_NoPerson ?ne_NoNumber_NoRow ?ne_NoNumber_NoWay ?ne_NoPerson_NoRow ?ne_NoPerson_NoWay ?ne_NoRow_NoWay ?plain
    (case a_is_whole => k_is)
    (case l_is_whole => k_is)
    (case co_is_whole => k_is)
    (case ke_is_whole => k_is)
    (case a_ratio => k_is)
    (case l_ratio => k_is)
    (case co_ratio => k_is)
    (case ke_ratio => k_is)
    (case a__law_cell_at => k_is)
    (case l__law_cell_at => k_is)
    (case co__law_cell_at => k_is)
    (case ke__law_cell_at => k_is)
    (case a__law_whole => k_is)
    (case l__law_whole => k_is)
    (case co__law_whole => k_is)
    (case ke__law_whole => k_is)
    (case a__law_divisor => k_is)
    (case l__law_divisor => k_is)
    (case co__law_divisor => k_is)
    (case ke__law_divisor => k_is)
    (case a__law_number_by => k_is)
    (case l__law_number_by => k_is)
    (case co__law_number_by => k_is)
    (case ke__law_number_by => k_is)
    (case a__law_stands => k_is)
    (case l__law_stands => k_is)
    (case co__law_stands => k_is)
    (case ke__law_stands => k_is)
    (case a__law_refused => k_is)
    (case l__law_refused => k_is)
    (case co__law_refused => k_is)
    (case ke__law_refused => k_is)
    (case a__law_pair => k_is)
    (case l__law_pair => k_is)
    (case co__law_pair => k_is)
    (case ke__law_pair => k_is)
    (case a_law => k_is)
    (case l_law => k_is)
    (case co_law => k_is)
    (case ke_law => k_is)
    (case z_ValueError => k_is)
    (case z_abs => k_is)
    (case z_bool => k_is)
    (case z_int => k_is)
    (case z_isinstance => k_is)
    (case z_len => k_is)
    (case z_max => k_is)
    (case z_min => k_is)
    (case z_range => k_is)
    (case z_tuple => k_is)
    (case gc_HeirError => k_is)
    (case xc_HeirError => k_exc)
    (case kc_HeirError => k_is)
    (case sb_HeirError => k_is)
    (case tc_HeirError => k_is)
    (case gc_NoEntry => k_is)
    (case xc_NoEntry => k_exc)
    (case kc_NoEntry => k_is)
    (case sb_NoEntry => k_is)
    (case tc_NoEntry => k_is)
    (case gc_NoNumber => k_is)
    (case xc_NoNumber => k_exc)
    (case kc_NoNumber => k_is)
    (case sb_NoNumber => k_is)
    (case tc_NoNumber => k_is)
    (case gc_NoPerson => k_is)
    (case xc_NoPerson => k_exc)
    (case kc_NoPerson => k_is)
    (case sb_NoPerson => k_is)
    (case tc_NoPerson => k_is)
    (case gc_NoRow => k_is)
    (case xc_NoRow => k_exc)
    (case kc_NoRow => k_is)
    (case sb_NoRow => k_is)
    (case tc_NoRow => k_is)
    (case gc_NoWay => k_is)
    (case xc_NoWay => k_exc)
    (case kc_NoWay => k_is)
    (case sb_NoWay => k_is)
    (case tc_NoWay => k_is)
    (case x_hn => k_is)
    (case x_ht => k_is)
    (case xhg_NoNumber => k_is)
    (case xhk_NoNumber => k_is)
    (case xhd_NoNumber => k_is)
    (case xha_NoNumber => k_is)
    (case xhm_NoNumber => k_is)
    (case su_NoNumber_HeirError => k_is)
    (case su_NoNumber_NoEntry => k_is)
    (case su_NoNumber_NoNumber => k_is)
    (case su_NoNumber_NoPerson => k_is)
    (case su_NoNumber_NoRow => k_is)
    (case su_NoNumber_NoWay => k_is)
    (case su_NoNumber_ValueError => k_is)
    (case xhd_HeirError => k_is)
    (case xhd_NoEntry => k_is)
    (case xhd_NoPerson => k_is)
    (case xhd_NoRow => k_is)
    (case xhd_NoWay => k_is)
    (case ne_HeirError_NoEntry => decide)
    (case ne_HeirError_NoNumber => decide)
    (case ne_HeirError_NoPerson => decide)
    (case ne_HeirError_NoRow => decide)
    (case ne_HeirError_NoWay => decide)
    (case ne_NoEntry_NoNumber => decide)
    (case ne_NoEntry_NoPerson => decide)
    (case ne_NoEntry_NoRow => decide)
    (case ne_NoEntry_NoWay => decide)
    (case ne_NoNumber_NoPerson => decide)
    (case ne_NoNumber_NoRow => decide)
    (case ne_NoNumber_NoWay => decide)
    (case ne_NoPerson_NoRow => decide)
    (case ne_NoPerson_NoWay => decide)
    (case ne_NoRow_NoWay => decide)
    (case plain => exact Wk01.plain)
#print axioms PySem.Challenge.cw_heirbook_k01_a_ratio_holds
