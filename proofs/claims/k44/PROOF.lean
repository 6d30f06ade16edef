import PyProof.Rows.All
import Wide.All
import OpenK.AllK
import Wide.FinOn
import HandS.ForMost
import HandS.Walk
import HandS.TupAny
import HandS.TupMul
import HandS.WideBits
import HandS.IsInst
import HandS.Conv
import HandS.Rev
import HandS.Zip
import HandS.Deep
import HandS.Flt
import HandS.NoneIn
import KE.GoesMore
import HandS.Defaults
import HandS.EndBits
import HandS.Head0
import HandS.Head1
import HandS.Head2
import HandS.HeadEnd
import HandS.HeadHook1
import HandS.HeadHook2
import HandS.HeadHook3
import HandS.HeadHook4
import KE.LtData
import HandS.SortInts
import KE.KDictZip
import HandS.RevRange
import HandS.Dict
import PySem.Challenge.RW_fewbits_k44_sums_known
set_option Elab.async false
set_option linter.all false
set_option maxRecDepth 100000
set_option maxHeartbeats 4000000
namespace Sm
section
open PySem PySem.Spec PyProof.Rows L2
/-! Sim, part A: values, the store, how they stand in the heap. -/

/-- a value: data (read only), or the n-th list of the store -/
inductive W where
  | d (x : PyData) | r (n : Nat)
/-- an object of the store -/
inductive Ob where
  | dead | lst (xs : List PyData)
abbrev Sto := List Ob
abbrev Sl := List (Option W)
abbrev ME := Sl → Sto → Option (W × Sto)
abbrev MT := Sl → Sto → Option (Bool × Sto)
abbrev MA := Sl → Sto → Option (List W × Sto)
inductive Fl where
  | nx (env : Sl) | rt (w : W) | bk (env : Sl) | ct (env : Sl)
abbrev MS := Sl → Sto → Option (Fl × Sto)

/-- the line below which lists and texts are made -/
abbrev LIM : Nat := 1000000
/-- a condition that is never reckoned out -/
def Ok (p : Prop) : Prop := p
noncomputable instance (p : Prop) : Decidable (Ok p) := Classical.propDecidable _
theorem lim_line {n : Nat} (h : n ≤ LIM) : n ≤ sizeLine := Nat.le_trans h (by decide)
theorem lim_line' {n : Nat} (h : n < LIM) : n < sizeLine := Nat.lt_of_lt_of_le h (by decide)

/-! ### representation -/
section
variable (K : PySem.W.Frag)
/-- the script (a list that the law's caller made) -/
abbrev scr (ns : List Int) : PyData := .dict [(.none, .list (ns.map PyData.int))]
mutual
def RepD (F : Hp) : PyData → V → Prop
  | .none, v => v = .non
  | .bool b, v => v = .bl b
  | .int i, v => v = .int i
  | .str s, v => v = .str s
  | .tuple ds, v => ∃ a vs, v = .ref a ∧ SqT K F a vs ∧ vs.length ≤ sizeLine ∧ RepL F ds vs
  | .list ds, v => ∃ a vs, v = .ref a ∧ F a = some (.lst vs) ∧ vs.length ≤ sizeLine ∧ RepL F ds vs
  | .dict kvs, v => ∃ (a : Addr) (ns : List Int), v = .ref a ∧ kvs = [(.none, .list (ns.map PyData.int))] ∧ SqL K F a (ns.map V.int) ∧ ns.length ≤ sizeLine
def RepL (F : Hp) : List PyData → List V → Prop
  | [], vs => vs = []
  | d :: ds, vs => ∃ v r, vs = v :: r ∧ RepD F d v ∧ RepL F ds r
end
def RepW (F : Hp) (μ : List Addr) : W → V → Prop
  | .d x, v => RepD K F x v
  | .r n, v => ∃ a, μ[n]? = some a ∧ v = .ref a
def RepWs (F : Hp) (μ : List Addr) : List W → List V → Prop
  | [], vs => vs = []
  | w :: ws, vs => ∃ v r, vs = v :: r ∧ RepW K F μ w v ∧ RepWs F μ ws r
def SlR (F : Hp) (μ : List Addr) : Sl → L2.St → Prop
  | [], σ => σ = []
  | o :: env, σ => ∃ x r, σ = x :: r ∧ (∀ w, o = some w → ∃ v, x = some v ∧ RepW K F μ w v) ∧ SlR F μ env r
/-- the store at its addresses -/
structure Lk (F R : Hp) (μ : List Addr) (S : Sto) (H : Hp) : Prop where
  le : ∀ a o, F a = some o → H a = some o
  len : μ.length = S.length
  ob : ∀ (n : Nat) (a : Addr) (xs : List PyData), μ[n]? = some a → S[n]? = some (Ob.lst xs) → ∃ vs, H a = some (.lst vs) ∧ RepL K F xs vs ∧ vs.length ≤ sizeLine ∧ F a = none
  fr : ∀ a o, R a = some o → H a = some o ∧ F a = none ∧ ∀ (n : Nat) (xs : List PyData), S[n]? = some (Ob.lst xs) → μ[n]? ≠ some a
  dj : ∀ (n m : Nat) (a : Addr) (xs ys : List PyData), μ[n]? = some a → S[n]? = some (Ob.lst xs) → μ[m]? = some a → S[m]? = some (Ob.lst ys) → n = m
end
/-- the world has grown -/
def Ext (F : Hp) (μ : List Addr) (F' : Hp) (μ' : List Addr) : Prop := (∀ a o, F a = some o → F' a = some o) ∧ ∃ ν, μ' = μ ++ ν

theorem Ext.refl (F : Hp) (μ : List Addr) : Ext F μ F μ := ⟨fun _ _ h => h, [], by simp⟩
theorem Ext.trans {F F1 F2 : Hp} {μ μ1 μ2 : List Addr} (a : Ext F μ F1 μ1) (b : Ext F1 μ1 F2 μ2) : Ext F μ F2 μ2 := by
  obtain ⟨a1, ν, rfl⟩ := a
  obtain ⟨b1, ν', rfl⟩ := b
  exact ⟨fun x o h => b1 x o (a1 x o h), ν ++ ν', by simp⟩
theorem Ext.at {F F' : Hp} {μ μ' : List Addr} (e : Ext F μ F' μ') {n : Nat} {a : Addr} (h : μ[n]? = some a) : μ'[n]? = some a := by
  obtain ⟨_, ν, rfl⟩ := e
  have hl := (List.getElem?_eq_some_iff.mp h).1
  rw [List.getElem?_append_left hl]
  exact h

section
variable {K : PySem.W.Frag} {F F' H H' : Hp} {μ μ' : List Addr}
theorem SqT.mono {a : Addr} {xs : List V} (le : ∀ a o, F a = some o → H a = some o) (h : SqT K F a xs) : SqT K H a xs := by
  rcases h with (h | ⟨o, h⟩) | h
  · exact .inl (.inl (le _ _ h))
  · exact .inl (.inr ⟨o, le _ _ h⟩)
  · exact .inr h
theorem SqL.mono {a : Addr} {xs : List V} (le : ∀ a o, F a = some o → H a = some o) (h : SqL K F a xs) : SqL K H a xs := by
  rcases h with (h | ⟨o, h⟩) | h
  · exact .inl (.inl (le _ _ h))
  · exact .inl (.inr ⟨o, le _ _ h⟩)
  · exact .inr h
mutual
theorem RepD.mono (le : ∀ a o, F a = some o → F' a = some o) : ∀ (d : PyData) (v : V), RepD K F d v → RepD K F' d v
  | .none, _, h => h
  | .bool _, _, h => h
  | .int _, _, h => h
  | .str _, _, h => h
  | .tuple ds, _, ⟨a, vs, e, h, z, r⟩ => ⟨a, vs, e, SqT.mono le h, z, RepL.mono le ds vs r⟩
  | .list ds, _, ⟨a, vs, e, h, z, r⟩ => ⟨a, vs, e, le _ _ h, z, RepL.mono le ds vs r⟩
  | .dict _, _, ⟨a, ns, e, q, h, z⟩ => ⟨a, ns, e, q, SqL.mono le h, z⟩
theorem RepL.mono (le : ∀ a o, F a = some o → F' a = some o) : ∀ (ds : List PyData) (vs : List V), RepL K F ds vs → RepL K F' ds vs
  | [], _, h => h
  | d :: ds, _, ⟨v, r, e, h1, h2⟩ => ⟨v, r, e, RepD.mono le d v h1, RepL.mono le ds r h2⟩
end
theorem RepW.mono (e : Ext F μ F' μ') : ∀ {w : W} {v : V}, RepW K F μ w v → RepW K F' μ' w v
  | .d x, _, h => RepD.mono e.1 x _ h
  | .r _, _, ⟨a, h, q⟩ => ⟨a, e.at h, q⟩
theorem RepWs.mono (e : Ext F μ F' μ') : ∀ {ws : List W} {vs : List V}, RepWs K F μ ws vs → RepWs K F' μ' ws vs
  | [], _, h => h
  | _ :: _, _, ⟨v, r, q, h1, h2⟩ => ⟨v, r, q, h1.mono e, RepWs.mono e h2⟩
theorem SlR.mono (e : Ext F μ F' μ') : ∀ {env : Sl} {σ : L2.St}, SlR K F μ env σ → SlR K F' μ' env σ
  | [], _, h => h
  | _ :: _, _, ⟨x, r, q, h1, h2⟩ => ⟨x, r, q, fun w hw => let ⟨v, a, b⟩ := h1 w hw; ⟨v, a, b.mono e⟩, SlR.mono e h2⟩
/-! lists -/
theorem RepL.length : ∀ {ds : List PyData} {vs : List V}, RepL K F ds vs → vs.length = ds.length
  | [], _, h => by cases h; rfl
  | _ :: _, _, ⟨v, r, e, _, h⟩ => by subst e; simp [RepL.length h]
theorem RepL.at : ∀ {ds : List PyData} {vs : List V} {i : Nat} {d : PyData}, RepL K F ds vs → ds[i]? = some d → ∃ v, vs[i]? = some v ∧ RepD K F d v
  | [], _, _, _, _, e => by simp at e
  | _ :: _, _, 0, _, ⟨v, r, q, h, _⟩, e => by
    subst q
    simp at e
    subst e
    exact ⟨v, rfl, h⟩
  | _ :: _, _, i + 1, _, ⟨v, r, q, _, h⟩, e => by
    subst q
    obtain ⟨u, h1, h2⟩ := RepL.at h (i := i) (by simpa using e)
    exact ⟨u, by simpa using h1, h2⟩
theorem RepL.append : ∀ {ds es : List PyData} {vs us : List V}, RepL K F ds vs → RepL K F es us → RepL K F (ds ++ es) (vs ++ us)
  | [], _, _, _, h, h' => by cases h; exact h'
  | _ :: _, _, _, us, ⟨v, r, q, h1, h2⟩, h' => by
    subst q
    exact ⟨v, r ++ us, rfl, h1, RepL.append h2 h'⟩
theorem RepL.take : ∀ {ds : List PyData} {vs : List V} (n : Nat), RepL K F ds vs → RepL K F (ds.take n) (vs.take n)
  | _, _, 0, _ => by simp [RepL]
  | [], _, n + 1, h => by cases h; simp [RepL]
  | _ :: _, _, n + 1, ⟨v, r, q, h1, h2⟩ => by
    subst q
    exact ⟨v, r.take n, rfl, h1, RepL.take n h2⟩
theorem RepL.drop : ∀ {ds : List PyData} {vs : List V} (n : Nat), RepL K F ds vs → RepL K F (ds.drop n) (vs.drop n)
  | _, _, 0, h => h
  | [], _, n + 1, h => by cases h; simp [RepL]
  | _ :: _, _, n + 1, ⟨v, r, q, h1, h2⟩ => by
    subst q
    exact RepL.drop n h2
theorem RepL.set {d : PyData} {u : V} (hd : RepD K F d u) : ∀ {ds : List PyData} {vs : List V} (i : Nat), RepL K F ds vs → RepL K F (ds.set i d) (vs.set i u)
  | [], _, _, h => by cases h; simp [RepL]
  | _ :: _, _, 0, ⟨v, r, q, h1, h2⟩ => by
    subst q
    exact ⟨u, r, rfl, hd, h2⟩
  | _ :: _, _, i + 1, ⟨v, r, q, h1, h2⟩ => by
    subst q
    exact ⟨v, r.set i u, rfl, h1, RepL.set hd i h2⟩
theorem RepL.one {d : PyData} {u : V} (hd : RepD K F d u) : RepL K F [d] [u] := ⟨u, [], rfl, hd, rfl⟩
theorem RepL.eraseIdx : ∀ {ds : List PyData} {vs : List V} (i : Nat), RepL K F ds vs → RepL K F (ds.eraseIdx i) (vs.eraseIdx i)
  | [], _, _, h => by cases h; simp [RepL]
  | _ :: _, _, 0, ⟨v, r, q, h1, h2⟩ => by
    subst q
    exact h2
  | _ :: _, _, i + 1, ⟨v, r, q, h1, h2⟩ => by
    subst q
    exact ⟨v, r.eraseIdx i, rfl, h1, RepL.eraseIdx i h2⟩
theorem RepL.reverse : ∀ {ds : List PyData} {vs : List V}, RepL K F ds vs → RepL K F ds.reverse vs.reverse
  | [], _, h => by cases h; simp [RepL]
  | _ :: _, _, ⟨v, r, q, h1, h2⟩ => by
    subst q
    rw [List.reverse_cons, List.reverse_cons]
    exact (RepL.reverse h2).append (.one h1)
theorem RepL.flat : ∀ {ds : List PyData} {vs : List V} (k : Nat), RepL K F ds vs → RepL K F (List.replicate k ds).flatten (List.replicate k vs).flatten
  | _, _, 0, _ => by simp [RepL]
  | _, _, k + 1, h => by
    rw [List.replicate_succ, List.replicate_succ, List.flatten_cons, List.flatten_cons]
    exact h.append (RepL.flat k h)
/-! slots -/
theorem SlR.length : ∀ {env : Sl} {σ : L2.St}, SlR K F μ env σ → σ.length = env.length
  | [], _, h => by cases h; rfl
  | _ :: _, _, ⟨x, r, e, _, h⟩ => by subst e; simp [SlR.length h]
theorem SlR.at : ∀ {env : Sl} {σ : L2.St} {i : Nat} {w : W}, SlR K F μ env σ → env[i]? = some (some w) → ∃ v, σ[i]? = some (some v) ∧ RepW K F μ w v
  | [], _, _, _, _, e => by simp at e
  | _ :: _, _, 0, w, ⟨x, r, q, h, _⟩, e => by
    subst q
    simp at e
    obtain ⟨v, hv, h'⟩ := h w e
    exact ⟨v, by rw [hv]; rfl, h'⟩
  | _ :: _, _, i + 1, _, ⟨x, r, q, _, h⟩, e => by
    subst q
    obtain ⟨u, h1, h2⟩ := SlR.at h (i := i) (by simpa using e)
    exact ⟨u, by simpa using h1, h2⟩
theorem SlR.set {w : W} {v : V} (hw : RepW K F μ w v) : ∀ {env : Sl} {σ : L2.St} (i : Nat), SlR K F μ env σ → SlR K F μ (env.set i (some w)) (σ.set i (some v))
  | [], _, _, h => by cases h; simp [SlR]
  | _ :: _, _, 0, ⟨x, r, q, _, h⟩ => by
    subst q
    exact ⟨some v, r, rfl, fun w' e => by cases e; exact ⟨v, rfl, hw⟩, h⟩
  | _ :: _, _, i + 1, ⟨x, r, q, h1, h2⟩ => by
    subst q
    exact ⟨x, r.set i (some v), rfl, h1, SlR.set hw i h2⟩
theorem SlR.unset : ∀ {env : Sl} {σ : L2.St} (i : Nat), SlR K F μ env σ → SlR K F μ (env.set i none) (σ.set i none)
  | [], _, _, h => by cases h; simp [SlR]
  | _ :: _, _, 0, ⟨x, r, q, _, h⟩ => by
    subst q
    exact ⟨none, r, rfl, fun w' e => (nomatch e), h⟩
  | _ :: _, _, i + 1, ⟨x, r, q, h1, h2⟩ => by
    subst q
    exact ⟨x, r.set i none, rfl, h1, SlR.unset i h2⟩
/-- a slot is forgotten on our side alone -/
theorem SlR.forget : ∀ {env : Sl} {σ : L2.St} (i : Nat), SlR K F μ env σ → SlR K F μ (env.set i none) σ
  | [], _, _, h => by cases h; simp [SlR]
  | _ :: _, _, 0, ⟨x, r, q, _, h⟩ => by
    subst q
    exact ⟨x, r, rfl, fun w' e => (nomatch e), h⟩
  | _ :: _, _, i + 1, ⟨x, r, q, h1, h2⟩ => by
    subst q
    exact ⟨x, r, rfl, h1, SlR.forget i h2⟩
theorem RepWs.length : ∀ {ws : List W} {vs : List V}, RepWs K F μ ws vs → vs.length = ws.length
  | [], _, h => by cases h; rfl
  | _ :: _, _, ⟨v, r, e, _, h⟩ => by subst e; simp [RepWs.length h]
theorem SlR.start : ∀ {ws : List W} {vs : List V} (n : Nat), RepWs K F μ ws vs → SlR K F μ (ws.map some ++ List.replicate n none) (vs.map some ++ List.replicate n none)
  | [], _, n, h => by
    cases h
    induction n with
    | zero => simp [SlR]
    | succ n ih => exact ⟨none, List.replicate n none, rfl, fun w e => (nomatch e), by simpa using ih⟩
  | w :: _, _, n, ⟨v, r, e, h1, h2⟩ => by
    subst e
    exact ⟨some v, _, rfl, fun w' q => by cases q; exact ⟨v, rfl, h1⟩, SlR.start n h2⟩
end
/-! Sim, part B: the store's rules; the judgements; operators. -/

/-! ### reading the store -/
def getL (S : Sto) : W → Option (List PyData)
  | .d (.list xs) => some xs
  | .r n => match S[n]? with
    | some (Ob.lst xs) => some xs
    | _ => none
  | _ => none
def lsL (S : Sto) : W → Option (List PyData)
  | .d (.dict [(.none, .list xs)]) => some xs
  | w => getL S w
def seqL (S : Sto) : W → Option (List PyData)
  | .d (.tuple xs) => some xs
  | w => lsL S w
def datW (S : Sto) : W → Option PyData
  | .d x => some x
  | .r n => match S[n]? with
    | some (Ob.lst xs) => some (.list xs)
    | _ => none
/-- a list of the store becomes data: it is changed no more -/
def toD : W → Sto → Option (PyData × Sto)
  | .d x, S => some (x, S)
  | .r n, S => match S[n]? with
    | some (Ob.lst xs) => some (.list xs, S.set n .dead)
    | _ => none
def toDs : List W → Sto → Option (List PyData × Sto)
  | [], S => some ([], S)
  | w :: ws, S => (toD w S).bind fun p => (toDs ws p.2).map fun q => (p.1 :: q.1, q.2)

section
variable {K : PySem.W.Frag} {F R H : Hp} {μ : List Addr} {S S' : Sto}
theorem RepL.ints {K : PySem.W.Frag} {F : Hp} : ∀ ns : List Int, RepL K F (ns.map PyData.int) (ns.map V.int)
  | [] => rfl
  | n :: ns => ⟨.int n, ns.map V.int, rfl, rfl, RepL.ints ns⟩
theorem lk_getL (l : Lk K F R μ S H) {w : W} {v : V} {xs : List PyData} (r : RepW K F μ w v) (e : getL S w = some xs) : ∃ a vs, v = .ref a ∧ H a = some (.lst vs) ∧ vs.length ≤ sizeLine ∧ RepL K F xs vs := by
  cases w with
  | d x =>
    cases x <;> simp [getL] at e
    subst e
    obtain ⟨a, vs, rfl, h, z, q⟩ := r
    exact ⟨a, vs, rfl, l.le _ _ h, z, q⟩
  | r n =>
    obtain ⟨a, hn, rfl⟩ := r
    simp only [getL] at e
    split at e <;> simp at e
    rename_i ys hs
    subst e
    obtain ⟨vs, h1, h2, h3, _⟩ := l.ob n a ys hn hs
    exact ⟨a, vs, rfl, h1, h3, h2⟩
theorem lk_ls (l : Lk K F R μ S H) {w : W} {v : V} {xs : List PyData} (r : RepW K F μ w v) (e : lsL S w = some xs) : ∃ a vs, v = .ref a ∧ SqL K H a vs ∧ vs.length ≤ sizeLine ∧ RepL K F xs vs := by
  have fin : getL S w = some xs → ∃ a vs, v = .ref a ∧ SqL K H a vs ∧ vs.length ≤ sizeLine ∧ RepL K F xs vs := fun e => by
    obtain ⟨a, vs, h1, h2, h3, h4⟩ := lk_getL l r e
    exact ⟨a, vs, h1, SqL.of h2, h3, h4⟩
  cases w with
  | d x =>
    cases x with
    | dict kvs =>
      obtain ⟨a, ns, rfl, rfl, h, z⟩ := r
      simp [lsL] at e
      subst e
      exact ⟨a, ns.map V.int, rfl, SqL.mono l.le h, by simpa using z, RepL.ints ns⟩
    | _ => exact fin e
  | r n => exact fin e
theorem lk_seq (l : Lk K F R μ S H) {w : W} {v : V} {xs : List PyData} (r : RepW K F μ w v) (e : seqL S w = some xs) : ∃ a vs, v = .ref a ∧ (SqL K H a vs ∨ SqT K H a vs) ∧ vs.length ≤ sizeLine ∧ RepL K F xs vs := by
  have fin : lsL S w = some xs → ∃ a vs, v = .ref a ∧ (SqL K H a vs ∨ SqT K H a vs) ∧ vs.length ≤ sizeLine ∧ RepL K F xs vs := fun e => by
    obtain ⟨a, vs, h1, h2, h3, h4⟩ := lk_ls l r e
    exact ⟨a, vs, h1, .inl h2, h3, h4⟩
  cases w with
  | d x =>
    cases x with
    | tuple ys =>
      simp [seqL] at e
      subst e
      obtain ⟨a, vs, rfl, h, z, q⟩ := r
      exact ⟨a, vs, rfl, .inr (SqT.mono l.le h), z, q⟩
    | _ => exact fin e
  | r n => exact fin e
mutual
theorem RepD.dp : ∀ (d : PyData) (v : V), d.canLay0 = true → RepD K F d v → Dp K F v d
  | .none, _, _, h => by cases h; exact .non
  | .bool b, _, _, h => by cases h; exact .bl b
  | .int i, _, _, h => by cases h; exact .int i
  | .str s, _, _, h => by cases h; exact .str s
  | .tuple ds, _, c, ⟨a, vs, e, h, _, r⟩ => by subst e; exact .tup h (RepL.dp ds vs (by simpa [PyData.canLay0] using c) r)
  | .list ds, _, c, ⟨a, vs, e, h, _, r⟩ => by subst e; exact .lst (SqL.of h) (RepL.dp ds vs (by simpa [PyData.canLay0] using c) r)
  | .dict _, _, c, h => by simp [PyData.canLay0] at c
theorem RepL.dp : ∀ (ds : List PyData) (vs : List V), PyData.canLayAll0 ds = true → RepL K F ds vs → DpAll K F vs ds
  | [], _, _, h => by cases h; exact .nil
  | d :: ds, _, c, ⟨v, r, e, h1, h2⟩ => by
    subst e
    have c' : d.canLay0 = true ∧ PyData.canLayAll0 ds = true := by simpa [PyData.canLayAll0] using c
    exact .cons (RepD.dp d v c'.1 h1) (RepL.dp ds r c'.2 h2)
end
theorem lk_dp (l : Lk K F R μ S H) {d : PyData} {v : V} (c : d.canLay0 = true) (h : RepD K F d v) : Dp K H v d := RepD.dp d v c (RepD.mono l.le d v h)
theorem lk_dat (l : Lk K F R μ S H) {w : W} {v : V} {x : PyData} (c : x.canLay0 = true) (r : RepW K F μ w v) (e : datW S w = some x) : Dp K H v x := by
  cases w with
  | d y => cases e; exact lk_dp l c r
  | r n =>
    obtain ⟨a, hn, rfl⟩ := r
    simp only [datW] at e
    split at e <;> simp at e
    rename_i ys hs
    subst e
    obtain ⟨vs, h1, h2, h3, _⟩ := l.ob n a ys hn hs
    exact .lst (SqL.of h1) (RepL.dp ys vs (by simpa [PyData.canLay0] using c) (RepL.mono l.le ys vs h2))
/-- a new object that is never written -/
theorem lk_newF (l : Lk K F R μ S H) {p : Addr} {o : HO} (hp : H p = none) : Lk K (upd F p o) R μ S (upd H p o) ∧ Ext F μ (upd F p o) μ := by
  have hF : F p = none := by
    cases e : F p with
    | none => rfl
    | some u => rw [l.le p u e] at hp; cases hp
  have le : ∀ a u, F a = some u → upd F p o a = some u := fun a u e => by
    rw [upd_ne (by rintro rfl; rw [hF] at e; cases e)]; exact e
  refine ⟨⟨fun a u e => ?_, l.len, fun n a xs h1 h2 => ?_, fun a u e => ?_, l.dj⟩, le, [], by simp⟩
  · by_cases h : a = p
    · subst h; rw [upd_same] at e ⊢; exact e
    · rw [upd_ne h] at e ⊢; exact l.le a u e
  · obtain ⟨vs, g1, g2, g3, g4⟩ := l.ob n a xs h1 h2
    have ne : a ≠ p := by rintro rfl; rw [hp] at g1; cases g1
    exact ⟨vs, by rw [upd_ne ne]; exact g1, RepL.mono le xs vs g2, g3, by rw [upd_ne ne]; exact g4⟩
  · obtain ⟨g1, g2, g3⟩ := l.fr a u e
    have ne : a ≠ p := by rintro rfl; rw [hp] at g1; cases g1
    exact ⟨by rw [upd_ne ne]; exact g1, by rw [upd_ne ne]; exact g2, g3⟩
/-- a new list of the store -/
theorem lk_newM (l : Lk K F R μ S H) {p : Addr} {xs : List PyData} {vs : List V} (hp : H p = none) (r : RepL K F xs vs) (z : vs.length ≤ sizeLine) :
    Lk K F R (μ ++ [p]) (S ++ [Ob.lst xs]) (upd H p (.lst vs)) ∧ Ext F μ F (μ ++ [p]) := by
  have hF : F p = none := by
    cases e : F p with
    | none => rfl
    | some u => rw [l.le p u e] at hp; cases hp
  have old : ∀ (n : Nat) (a : Addr) (ys : List PyData), (μ ++ [p])[n]? = some a → (S ++ [Ob.lst xs])[n]? = some (Ob.lst ys) → (n < S.length ∧ μ[n]? = some a ∧ S[n]? = some (Ob.lst ys)) ∨ (n = S.length ∧ a = p ∧ ys = xs) := fun n a ys h1 h2 => by
    by_cases hn : n < S.length
    · rw [List.getElem?_append_left (by rw [l.len]; exact hn)] at h1
      rw [List.getElem?_append_left hn] at h2
      exact .inl ⟨hn, h1, h2⟩
    · have hn2 := (List.getElem?_eq_some_iff.mp h2).1
      rw [List.length_append, List.length_singleton] at hn2
      have e : n = S.length := by omega
      subst e
      rw [← l.len] at h1
      simp at h1 h2
      exact .inr ⟨rfl, h1.symm, h2.symm⟩
  refine ⟨⟨fun a u e => ?_, by simp [l.len], fun n a ys h1 h2 => ?_, fun a u e => ?_, fun n m a ys zs h1 h2 h3 h4 => ?_⟩, fun _ _ h => h, [p], rfl⟩
  · rw [upd_ne (by rintro rfl; rw [hF] at e; cases e)]; exact l.le a u e
  · rcases old n a ys h1 h2 with ⟨_, g1, g2⟩ | ⟨_, rfl, rfl⟩
    · obtain ⟨us, q1, q2, q3, q4⟩ := l.ob n a ys g1 g2
      exact ⟨us, by rw [upd_ne (by rintro rfl; rw [hp] at q1; cases q1)]; exact q1, q2, q3, q4⟩
    · exact ⟨vs, upd_same, r, z, hF⟩
  · obtain ⟨g1, g2, g3⟩ := l.fr a u e
    have ne : a ≠ p := by rintro rfl; rw [hp] at g1; cases g1
    refine ⟨by rw [upd_ne ne]; exact g1, g2, fun n ys h2 h1 => ?_⟩
    rcases old n a ys h1 h2 with ⟨_, q1, q2⟩ | ⟨_, q, _⟩
    · exact g3 n ys q2 q1
    · exact ne q
  · rcases old n a ys h1 h2 with ⟨_, g1, g2⟩ | ⟨e1, rfl, rfl⟩
    · rcases old m a zs h3 h4 with ⟨_, g3, g4⟩ | ⟨_, rfl, _⟩
      · exact l.dj n m a ys zs g1 g2 g3 g4
      · obtain ⟨us, q1, _⟩ := l.ob n a ys g1 g2
        rw [hp] at q1; cases q1
    · rcases old m a zs h3 h4 with ⟨_, g3, g4⟩ | ⟨e2, _, _⟩
      · obtain ⟨us, q1, _⟩ := l.ob m a zs g3 g4
        rw [hp] at q1; cases q1
      · rw [e1, e2]
/-- a list of the store is written -/
theorem lk_set (l : Lk K F R μ S H) {n : Nat} {a : Addr} {xs ys : List PyData} {us : List V} (hn : μ[n]? = some a) (hs : S[n]? = some (Ob.lst xs)) (r : RepL K F ys us) (z : us.length ≤ sizeLine) :
    Lk K F R μ (S.set n (Ob.lst ys)) (upd H a (.lst us)) := by
  obtain ⟨vs, g1, g2, g3, g4⟩ := l.ob n a xs hn hs
  have hlt := (List.getElem?_eq_some_iff.mp hs).1
  have old : ∀ (m : Nat) (zs : List PyData), (S.set n (Ob.lst ys))[m]? = some (Ob.lst zs) → (m = n ∧ zs = ys) ∨ (m ≠ n ∧ S[m]? = some (Ob.lst zs)) := fun m zs h => by
    by_cases e : m = n
    · subst e
      rw [List.getElem?_set_self hlt] at h
      cases h
      exact .inl ⟨rfl, rfl⟩
    · rw [List.getElem?_set_ne (Ne.symm e)] at h
      exact .inr ⟨e, h⟩
  refine ⟨fun b u e => ?_, by simp [l.len], fun m b zs h1 h2 => ?_, fun b u e => ?_, fun m k b zs ws h1 h2 h3 h4 => ?_⟩
  · rw [upd_ne (by rintro rfl; rw [g4] at e; cases e)]; exact l.le b u e
  · rcases old m zs h2 with ⟨rfl, rfl⟩ | ⟨ne, h2⟩
    · rw [hn] at h1; cases h1
      exact ⟨us, upd_same, r, z, g4⟩
    · obtain ⟨ws, q1, q2, q3, q4⟩ := l.ob m b zs h1 h2
      exact ⟨ws, by rw [upd_ne (by rintro rfl; exact ne (l.dj m n _ zs xs h1 h2 hn hs))]; exact q1, q2, q3, q4⟩
  · obtain ⟨q1, q2, q3⟩ := l.fr b u e
    refine ⟨by rw [upd_ne (by rintro rfl; exact q3 n xs hs hn)]; exact q1, q2, fun m zs h2 h1 => ?_⟩
    rcases old m zs h2 with ⟨rfl, _⟩ | ⟨_, h2⟩
    · exact q3 m xs hs h1
    · exact q3 m zs h2 h1
  · have f : ∀ (m : Nat) (zs : List PyData), (S.set n (Ob.lst ys))[m]? = some (Ob.lst zs) → ∃ zs', S[m]? = some (Ob.lst zs') := fun m zs h => by
      rcases old m zs h with ⟨rfl, _⟩ | ⟨_, h⟩
      · exact ⟨_, hs⟩
      · exact ⟨_, h⟩
    obtain ⟨z1, e1⟩ := f m zs h2
    obtain ⟨z2, e2⟩ := f k ws h4
    exact l.dj m k b _ _ h1 e1 h3 e2
theorem lk_toD (l : Lk K F R μ S H) {w : W} {v : V} {x : PyData} (r : RepW K F μ w v) (e : toD w S = some (x, S')) : ∃ F', Ext F μ F' μ ∧ Lk K F' R μ S' H ∧ RepD K F' x v := by
  cases w with
  | d y =>
    simp [toD] at e
    obtain ⟨rfl, rfl⟩ := e
    exact ⟨F, .refl _ _, l, r⟩
  | r n =>
    obtain ⟨a, hn, rfl⟩ := r
    simp only [toD] at e
    split at e <;> simp at e
    rename_i ys hs
    obtain ⟨rfl, rfl⟩ := e
    obtain ⟨vs, g1, g2, g3, g4⟩ := l.ob n a ys hn hs
    have hlt := (List.getElem?_eq_some_iff.mp hs).1
    have le : ∀ b u, F b = some u → upd F a (.lst vs) b = some u := fun b u e => by
      rw [upd_ne (by rintro rfl; rw [g4] at e; cases e)]; exact e
    have old : ∀ (m : Nat) (zs : List PyData), (S.set n Ob.dead)[m]? = some (Ob.lst zs) → m ≠ n ∧ S[m]? = some (Ob.lst zs) := fun m zs h => by
      by_cases e : m = n
      · subst e
        rw [List.getElem?_set_self hlt] at h
        cases h
      · rw [List.getElem?_set_ne (Ne.symm e)] at h
        exact ⟨e, h⟩
    refine ⟨upd F a (.lst vs), ⟨le, [], by simp⟩, ⟨fun b u e => ?_, by simp [l.len], fun m b zs h1 h2 => ?_, fun b u e => ?_, fun m k b zs ws h1 h2 h3 h4 => ?_⟩, a, vs, rfl, upd_same, g3, RepL.mono le ys vs g2⟩
    · by_cases hb : b = a
      · subst hb; rw [upd_same] at e; cases e; exact g1
      · rw [upd_ne hb] at e; exact l.le b u e
    · obtain ⟨ne, h2⟩ := old m zs h2
      obtain ⟨ws, q1, q2, q3, q4⟩ := l.ob m b zs h1 h2
      have hb : b ≠ a := by rintro rfl; exact ne (l.dj m n _ zs ys h1 h2 hn hs)
      exact ⟨ws, q1, RepL.mono le zs ws q2, q3, by rw [upd_ne hb]; exact q4⟩
    · obtain ⟨q1, q2, q3⟩ := l.fr b u e
      exact ⟨q1, by rw [upd_ne (by rintro rfl; exact q3 n ys hs hn)]; exact q2, fun m zs h2 h1 => q3 m zs (old m zs h2).2 h1⟩
    · exact l.dj m k b zs ws h1 (old m zs h2).2 h3 (old k ws h4).2
theorem lk_toDs : ∀ {ws : List W} {vs : List V} {xs : List PyData} {F : Hp} {S S' : Sto}, Lk K F R μ S H → RepWs K F μ ws vs → toDs ws S = some (xs, S') → ∃ F', Ext F μ F' μ ∧ Lk K F' R μ S' H ∧ RepL K F' xs vs
  | [], _, _, F, _, _, l, r, e => by
    simp [toDs] at e
    obtain ⟨rfl, rfl⟩ := e
    cases r
    exact ⟨F, .refl _ _, l, rfl⟩
  | w :: ws, _, _, F, S, _, l, ⟨v, vr, q, r1, r2⟩, e => by
    subst q
    simp only [toDs, Option.bind_eq_some_iff, Option.map_eq_some_iff] at e
    obtain ⟨⟨x, S1⟩, e1, ⟨ys, S2⟩, e2, e3⟩ := e
    cases e3
    obtain ⟨F1, x1, l1, d1⟩ := lk_toD l r1 e1
    obtain ⟨F2, x2, l2, d2⟩ := lk_toDs l1 (r2.mono x1) e2
    exact ⟨F2, x1.trans x2, l2, v, vr, rfl, RepD.mono x2.1 _ _ d1, d2⟩
/-- at a call's end: what the callee made is forgotten -/
theorem lk_take (l : Lk K F R μ S H) (n : Nat) : Lk K F R (μ.take n) (S.take n) H := by
  have f : ∀ {α : Type} (xs : List α) (m : Nat) (x : α), (xs.take n)[m]? = some x → xs[m]? = some x := fun xs m x h => by
    rw [List.getElem?_take] at h
    split at h
    · exact h
    · cases h
  exact ⟨l.le, by simp [l.len], fun m a xs h1 h2 => l.ob m a xs (f _ _ _ h1) (f _ _ _ h2), fun a u e => let ⟨q1, q2, q3⟩ := l.fr a u e; ⟨q1, q2, fun m xs h2 h1 => q3 m xs (f _ _ _ h2) (f _ _ _ h1)⟩, fun m k a xs ys h1 h2 h3 h4 => l.dj m k a xs ys (f _ _ _ h1) (f _ _ _ h2) (f _ _ _ h3) (f _ _ _ h4)⟩
end

/-! ### the judgements -/
section
variable (K : PySem.W.Frag)
def tE (m : ME) : TE := fun σ H Q => ∃ F R μ env S w S', SlR K F μ env σ ∧ Lk K F R μ S H ∧ m env S = some (w, S') ∧ ∀ F' μ' v H', Ext F μ F' μ' → Lk K F' R μ' S' H' → RepW K F' μ' w v → Q v H'
def tT (m : MT) : TT := fun σ H Q => ∃ F R μ env S b S', SlR K F μ env σ ∧ Lk K F R μ S H ∧ m env S = some (b, S') ∧ ∀ F' μ' H', Ext F μ F' μ' → Lk K F' R μ' S' H' → Q b H'
def tA (m : MA) : TA := fun σ H Q => ∃ F R μ env S ws S', SlR K F μ env σ ∧ Lk K F R μ S H ∧ m env S = some (ws, S') ∧ ∀ F' μ' vs H', Ext F μ F' μ' → Lk K F' R μ' S' H' → RepWs K F' μ' ws vs → Q vs H'
end
def SimE (X : Cx) (e : Expr) (m : ME) : Prop := PE X e (tE X.K m)
def SimT (X : Cx) (e : Expr) (m : MT) : Prop := PT X e (tT X.K m)
def SimW (X : Cx) (e : Expr) (m : MT) : Prop := PW X e (tT X.K m)
def SimA (X : Cx) (es : List Expr) (m : MA) : Prop := PA X es (tA X.K m)
theorem pe_imp {X : Cx} {e : Expr} {t t' : TE} (h : PE X e t) (i : ∀ σ H Q, t' σ H Q → t σ H Q) : PE X e t' := ⟨fun pins s σ H Q I q => h.run pins s σ H Q I (i σ H Q q)⟩
theorem pt_imp {X : Cx} {e : Expr} {t t' : TT} (h : PT X e t) (i : ∀ σ H Q, t' σ H Q → t σ H Q) : PT X e t' := ⟨fun pins s σ H Q I q => h.run pins s σ H Q I (i σ H Q q)⟩
theorem pw_imp {X : Cx} {e : Expr} {t t' : TT} (h : PW X e t) (i : ∀ σ H Q, t' σ H Q → t σ H Q) : PW X e t' := ⟨fun wh pins s σ H Q I q => h.run wh pins s σ H Q I (i σ H Q q)⟩
theorem pa_imp {X : Cx} {es : List Expr} {t t' : TA} (h : PA X es t) (i : ∀ σ H Q, t' σ H Q → t σ H Q) : PA X es t' := ⟨fun pos pins s σ H Q I q => h.run pos pins s σ H Q I (i σ H Q q)⟩
theorem ps_imp {X : Cx} {st : Stmt} {t t' : TS} (h : PS X st t) (i : ∀ D σ H, t' D σ H → t D σ H) : PS X st t' := ⟨fun pins s σ H D I q => h.run pins s σ H D I (i D σ H q)⟩
theorem pss_imp {X : Cx} {st : List Stmt} {t t' : TS} (h : PSs X st t) (i : ∀ D σ H, t' D σ H → t D σ H) : PSs X st t' := ⟨fun pins s σ H D I q => h.run pins s σ H D I (i D σ H q)⟩

/-! ### shallow expressions -/
def mVar (i : Nat) : ME := fun env S => match env[i]? with
  | some (some w) => some (w, S)
  | _ => none
def mC (x : PyData) : ME := fun _ S => some (.d x, S)
def mBin (f : W → W → Sto → Option PyData) (a b : ME) : ME := fun env S => (a env S).bind fun p => (b env p.2).bind fun q => (f p.1 q.1 q.2).map fun z => (.d z, q.2)
def mUn (f : W → Sto → Option PyData) (a : ME) : ME := fun env S => (a env S).bind fun p => (f p.1 p.2).map fun z => (.d z, p.2)
def mNil : MA := fun _ S => some ([], S)
def mCons (a : ME) (b : MA) : MA := fun env S => (a env S).bind fun p => (b env p.2).map fun q => (p.1 :: q.1, q.2)
def mBi (f : List W → Sto → Option PyData) (as : MA) : ME := fun env S => (as env S).bind fun p => (f p.1 p.2).map fun z => (.d z, p.2)

/-- two values, one of the layer's operators -/
def OpS (K : PySem.W.Frag) (r : R2) (f : W → W → Sto → Option PyData) : Prop :=
  ∀ (F R : Hp) (μ : List Addr) (S : Sto) (H : Hp) (x y : W) (v u : V) (z : PyData) (Q : VK), Lk K F R μ S H → RepW K F μ x v → RepW K F μ y u → f x y S = some z →
    (∀ F' v' H', Ext F μ F' μ → Lk K F' R μ S H' → RepD K F' z v' → Q v' H') → r v u H Q
def UnS (K : PySem.W.Frag) (r : V → Hp → VK → Prop) (f : W → Sto → Option PyData) : Prop :=
  ∀ (F R : Hp) (μ : List Addr) (S : Sto) (H : Hp) (x : W) (v : V) (z : PyData) (Q : VK), Lk K F R μ S H → RepW K F μ x v → f x S = some z →
    (∀ F' v' H', Ext F μ F' μ → Lk K F' R μ S H' → RepD K F' z v' → Q v' H') → r v H Q
def CaS (K : PySem.W.Frag) (r : List V → Hp → VK → Prop) (f : List W → Sto → Option PyData) : Prop :=
  ∀ (F R : Hp) (μ : List Addr) (S : Sto) (H : Hp) (xs : List W) (vs : List V) (z : PyData) (Q : VK), Lk K F R μ S H → RepWs K F μ xs vs → f xs S = some z →
    (∀ F' v' H', Ext F μ F' μ → Lk K F' R μ S H' → RepD K F' z v' → Q v' H') → r vs H Q
section
variable {X : Cx} {K : PySem.W.Frag} {a b e : Expr} {es : List Expr} {ma mb m : ME} {pos : Pos}
theorem tOp_of {r : R2} {f : W → W → Sto → Option PyData} (h : OpS K r f) (σ : L2.St) (H : Hp) (Q : VK) (q : tE K (mBin f ma mb) σ H Q) : tOp r (tE K ma) (tE K mb) σ H Q := by
  obtain ⟨F, R, μ, env, S, w, S', sl, l, e, k⟩ := q
  simp only [mBin, Option.bind_eq_some_iff, Option.map_eq_some_iff] at e
  obtain ⟨⟨x, S1⟩, e1, ⟨y, S2⟩, e2, z, e3, e4⟩ := e
  cases e4
  refine ⟨F, R, μ, env, S, x, S1, sl, l, e1, fun F1 μ1 v H1 x1 l1 r1 => ?_⟩
  refine ⟨F1, R, μ1, env, S1, y, S2, sl.mono x1, l1, e2, fun F2 μ2 u H2 x2 l2 r2 => ?_⟩
  exact h F2 R μ2 S2 H2 x y v u z Q l2 (r1.mono x2) r2 e3 fun F3 v' H3 x3 l3 r3 => k F3 μ2 v' H3 ((x1.trans x2).trans x3) l3 r3
theorem tUn_of {r : V → Hp → VK → Prop} {f : W → Sto → Option PyData} (h : UnS K r f) (σ : L2.St) (H : Hp) (Q : VK) (q : tE K (mUn f ma) σ H Q) : tUn r (tE K ma) σ H Q := by
  obtain ⟨F, R, μ, env, S, w, S', sl, l, e, k⟩ := q
  simp only [mUn, Option.bind_eq_some_iff, Option.map_eq_some_iff] at e
  obtain ⟨⟨x, S1⟩, e1, z, e3, e4⟩ := e
  cases e4
  refine ⟨F, R, μ, env, S, x, S1, sl, l, e1, fun F1 μ1 v H1 x1 l1 r1 => ?_⟩
  exact h F1 R μ1 S1 H1 x v z Q l1 r1 e3 fun F3 v' H3 x3 l3 r3 => k F3 μ1 v' H3 (x1.trans x3) l3 r3
theorem tCB_of {r : List V → Hp → VK → Prop} {f : List W → Sto → Option PyData} {as : MA} (h : CaS K r f) (σ : L2.St) (H : Hp) (Q : VK) (q : tE K (mBi f as) σ H Q) : tCB r (tA K as) σ H Q := by
  obtain ⟨F, R, μ, env, S, w, S', sl, l, e, k⟩ := q
  simp only [mBi, Option.bind_eq_some_iff, Option.map_eq_some_iff] at e
  obtain ⟨⟨x, S1⟩, e1, z, e3, e4⟩ := e
  cases e4
  refine ⟨F, R, μ, env, S, x, S1, sl, l, e1, fun F1 μ1 vs H1 x1 l1 r1 => ?_⟩
  exact h F1 R μ1 S1 H1 x vs z Q l1 r1 e3 fun F3 v' H3 x3 l3 r3 => k F3 μ1 v' H3 (x1.trans x3) l3 r3
/-! names, constants -/
theorem se_var (i : Nat) {x : Str} (hN : X.N[i]? = some x := by rfl) (hv : Vis X.env.scope x := by first | exact Or.inl rfl | exact Or.inr (Or.inl rfl) | exact Or.inr (Or.inr rfl)) (hd : (x == ("__debug__" : Str)) = false := by decide)
    (hcd : (x == ("__classdict__" : Str)) = false := by decide) : SimE X (.Name x pos) (mVar i) := by
  refine pe_imp (pe_var hN hv hd hcd) fun σ H Q q => ?_
  obtain ⟨F, R, μ, env, S, w, S', sl, l, e, k⟩ := q
  simp only [mVar] at e
  split at e <;> simp at e
  rename_i w' hw
  obtain ⟨rfl, rfl⟩ := e
  obtain ⟨v, h1, h2⟩ := sl.at hw
  exact ⟨v, h1, k F μ v H (.refl _ _) l h2⟩
theorem se_const {v : V} {x : PyData} (h : PE X e (tC v)) (r : ∀ F, RepD X.K F x v) : SimE X e (mC x) := by
  refine pe_imp h fun σ H Q q => ?_
  obtain ⟨F, R, μ, env, S, w, S', sl, l, e, k⟩ := q
  simp [mC] at e
  obtain ⟨rfl, rfl⟩ := e
  exact k F μ v H (.refl _ _) l (r F)
theorem se_int {i : Int} {j} : SimE X (.Constant (.int i) j pos) (mC (.int i)) := se_const pe_int fun _ => rfl
theorem se_bool {i : Bool} {j} : SimE X (.Constant (.bool i) j pos) (mC (.bool i)) := se_const pe_bl fun _ => rfl
theorem se_none {j} : SimE X (.Constant .none j pos) (mC .none) := se_const pe_non fun _ => rfl
theorem se_str {s : Str} {j} : SimE X (.Constant (.str s) j pos) (mC (.str s)) := se_const pe_str fun _ => rfl
/-- a module's constant: an int, a text, a tuple -/
theorem se_glob {x : Str} {v : V} {u : Value} {d : PyData} (hg : Gl X x) (hm : X.mg x = some u) (r : RelV v u) (rd : ∀ F, RepD X.K F d v) (hd : (x == ("__debug__" : Str)) = false := by decide) : SimE X (.Name x pos) (mC d) := se_const (pe_glob hg hm r hd) rd
/-! operators -/
theorem se_op {op : Operator} {r : R2} {f : W → W → Sto → Option PyData} (ho : OpR X (binaryOp op) r) (h : OpS X.K r f) (ha : SimE X a ma) (hb : SimE X b mb) : SimE X (.BinOp a op b pos) (mBin f ma mb) := pe_imp (pe_op ho ha hb) (tOp_of h)
theorem se_cmp {op : CmpOp} {r : R2} {f : W → W → Sto → Option PyData} (ho : OpR X (compareOp op) r) (h : OpS X.K r f) (ha : SimE X a ma) (hb : SimE X b mb) (hm : behindInMarks op b = false) : SimE X (.Compare a [op] [b] pos) (mBin f ma mb) := pe_imp (pe_cmpR ho ha hb hm) (tOp_of h)
theorem se_un {op : UnaryOp} {r : V → Hp → VK → Prop} {f : W → Sto → Option PyData} (ho : UnR X (unaryOp op) r) (h : UnS X.K r f) (ha : SimE X a ma) : SimE X (.UnaryOp op a pos) (mUn f ma) := pe_imp (pe_un ho ha) (tUn_of h)
theorem se_ix {r : R2} {f : W → W → Sto → Option PyData} (hr : IxR X r) (h : OpS X.K r f) (ha : SimE X a ma) (hb : SimE X b mb) (hs : PlainIx b) : SimE X (.Subscript a b pos) (mBin f ma mb) := pe_imp (pe_ix hr ha hb hs) (tOp_of h)
/-! arguments -/
theorem sa_nil : SimA X [] mNil := by
  refine pa_imp pa_nil fun σ H Q q => ?_
  obtain ⟨F, R, μ, env, S, w, S', sl, l, e, k⟩ := q
  simp [mNil] at e
  obtain ⟨rfl, rfl⟩ := e
  exact k F μ [] H (.refl _ _) l rfl
theorem sa_cons {as : MA} (ha : SimE X e m) (hr : SimA X es as) (hs : starEach (e :: es) X.env = (false, eval e X.env) :: starEach es X.env := by rfl) : SimA X (e :: es) (mCons m as) := by
  refine pa_imp (pa_cons ha hr hs) fun σ H Q q => ?_
  obtain ⟨F, R, μ, env, S, w, S', sl, l, e, k⟩ := q
  simp only [mCons, Option.bind_eq_some_iff, Option.map_eq_some_iff] at e
  obtain ⟨⟨x, S1⟩, e1, ⟨y, S2⟩, e2, e3⟩ := e
  cases e3
  refine ⟨F, R, μ, env, S, x, S1, sl, l, e1, fun F1 μ1 v H1 x1 l1 r1 => ?_⟩
  refine ⟨F1, R, μ1, env, S1, y, S2, sl.mono x1, l1, e2, fun F2 μ2 u H2 x2 l2 r2 => ?_⟩
  exact k F2 μ2 (v :: u) H2 (x1.trans x2) l2 ⟨v, u, rfl, r1.mono x2, r2⟩
/-! built-ins by name -/
theorem se_callB {x : Str} {p : Pos} {id : String} {r : List V → Hp → VK → Prop} {f : List W → Sto → Option PyData} {as : MA} (hc : CallR X (.builtin id) r) (h : CaS X.K r f) (hg : Gl X x) (hm : X.mg x = none) (hv : bootBuiltins x = some (.builtin id)) (ha : SimA X (e :: es) as)
    (hn : x ≠ "__name__" := by decide) (hdb : (x == ("__debug__" : Str)) = false := by decide)
    (he : starEach (e :: es) X.env = (false, eval e X.env) :: starEach es X.env := by rfl) (hpl : (backTo pos (starEach es X.env)).any (·.1) = false := by rfl) : SimE X (.Call (.Name x p) (e :: es) [] pos) (mBi f as) := pe_imp (pe_callB hc hg hm hv ha hn hdb he hpl) (tCB_of h)
theorem se_callTy {x : Str} {p : Pos} {T : String} {r : List V → Hp → VK → Prop} {f : List W → Sto → Option PyData} {as : MA} (hc : CallR X (.type T) r) (h : CaS X.K r f) (hg : Gl X x) (hm : X.mg x = none) (hv : bootBuiltins x = some (.type T)) (ha : SimA X (e :: es) as)
    (hn : x ≠ "__name__" := by decide) (hdb : (x == ("__debug__" : Str)) = false := by decide)
    (he : starEach (e :: es) X.env = (false, eval e X.env) :: starEach es X.env := by rfl) (hpl : (backTo pos (starEach es X.env)).any (·.1) = false := by rfl) : SimE X (.Call (.Name x p) (e :: es) [] pos) (mBi f as) := pe_imp (pe_callTy hc hg hm hv ha hn hdb he hpl) (tCB_of h)
end
/-! Sim, part C: the operators by values. -/
section
variable {X : Cx} {K : PySem.W.Frag}
/-! ### ints -/
def intOp (g : Int → Int → Option Int) : W → W → Sto → Option PyData
  | .d (.int i), .d (.int j), _ => (g i j).map .int
  | _, _, _ => none
theorem ops_int {C : Int → Int → Prop} {f : Int → Int → Int} {g : Int → Int → Option Int} (h : ∀ i j k, g i j = some k → C i j ∧ f i j = k) : OpS K (rI C fun i j => .int (f i j)) (intOp g) := by
  intro F R μ S H x y v u z Q l rx ry e k
  unfold intOp at e
  split at e <;> simp only [Option.map_eq_some_iff, reduceCtorEq] at e
  obtain ⟨n, e1, rfl⟩ := e
  cases rx; cases ry
  obtain ⟨c, rfl⟩ := h _ _ _ e1
  exact ⟨_, _, rfl, rfl, c, k F _ H (.refl _ _) l rfl⟩
theorem ops_int0 {f : Int → Int → Int} : OpS K (rI0 fun i j => .int (f i j)) (intOp fun i j => some (f i j)) := by
  intro F R μ S H x y v u z Q l rx ry e k
  unfold intOp at e
  split at e <;> simp only [Option.map_eq_some_iff, reduceCtorEq, Option.some.injEq] at e
  obtain ⟨n, rfl, rfl⟩ := e
  cases rx; cases ry
  exact ⟨_, _, rfl, rfl, k F _ H (.refl _ _) l rfl⟩
def MulOk (i j : Int) : Prop := (-(2 ^ 64) < i ∧ i < 2 ^ 64) ∨ (-(2 ^ 64) < j ∧ j < 2 ^ 64) ∨ (i.natAbs.log2 < 2000000 ∧ j.natAbs.log2 < 2000000)
instance (i j : Int) : Decidable (MulOk i j) := by unfold MulOk; infer_instance
theorem bits_log (x : Int) : Builtin.Int.intBits x ≤ x.natAbs.log2 + 1 := by
  unfold Builtin.Int.intBits
  split <;> omega
theorem op_mulA : OpR X (binaryOp .Mult) (rI MulOk fun i j => .int (i * j)) := opI fun i j _ _ _ _ _ hc q => mul_int q (by
  rcases hc with h | h | h
  · exact (show CMul i j from .inl h).ok
  · exact (show CMul i j from .inr h).ok
  · refine (show CMulX i j from ?_).ok
    have := bits_log i
    have := bits_log j
    unfold CMulX
    omega)
def ShlOk (i j : Int) : Prop := 0 ≤ j ∧ j ≤ 1000000 ∧ i.natAbs.log2 ≤ 2000000
instance (i j : Int) : Decidable (ShlOk i j) := by unfold ShlOk; infer_instance
theorem ShlOk.ok {i j : Int} (h : ShlOk i j) : CShl i j := by
  obtain ⟨h1, h2, h3⟩ := h
  have := bits_log i
  refine ⟨h1, ?_⟩
  have e : (2 : Int) ^ 27 = 134217728 := by decide
  omega
abbrev subW := intOp fun i j => some (i - j)
noncomputable abbrev fdivW := intOp fun i j => if Ok (0 < j ∧ j.natAbs.log2 < 9000) then some (i / j) else none
noncomputable abbrev modW := intOp fun i j => if Ok (0 < j) then some (i % j) else none
noncomputable abbrev shlW := intOp fun i j => if Ok (ShlOk i j) then some (i * 2 ^ j.toNat) else none
noncomputable abbrev shrW := intOp fun i j => if Ok (0 ≤ j) then some (i / 2 ^ j.toNat) else none
noncomputable abbrev powW := intOp fun i j => if Ok (0 ≤ j ∧ j ≤ 1000000 ∧ i.natAbs < 2 ^ 64) then some (i ^ j.toNat) else none
abbrev andW := intOp fun i j => some (Builtin.bitAnd i j)
abbrev orW := intOp fun i j => some (Builtin.bitOr i j)
abbrev xorW := intOp fun i j => some (Builtin.bitXor i j)
theorem ops_sub : OpS K (rI0 fun i j => .int (i - j)) subW := ops_int0
theorem ops_fdiv : OpS K (rI CDivW fun i j => .int (i / j)) fdivW := ops_int fun i j k e => by
  split at e <;> simp at e
  rename_i h
  try unfold Ok at h
  exact ⟨h, e⟩
theorem ops_mod : OpS K (rI (fun _ j => 0 < j) fun i j => .int (i % j)) modW := ops_int fun i j k e => by
  split at e <;> simp at e
  rename_i h
  try unfold Ok at h
  exact ⟨h, e⟩
theorem ops_shl : OpS K (rI CShl fun i j => .int (i * 2 ^ j.toNat)) shlW := ops_int fun i j k e => by
  split at e <;> simp at e
  rename_i h
  try unfold Ok at h
  exact ⟨h.ok, e⟩
theorem ops_shr : OpS K (rI (fun _ j => 0 ≤ j) fun i j => .int (i / 2 ^ j.toNat)) shrW := ops_int fun i j k e => by
  split at e <;> simp at e
  rename_i h
  try unfold Ok at h
  exact ⟨h, e⟩
theorem ops_pow : OpS K (rI CPow fun i j => .int (i ^ j.toNat)) powW := ops_int fun i j k e => by
  split at e <;> simp at e
  rename_i h
  try unfold Ok at h
  exact ⟨h, e⟩
theorem ops_and : OpS K (rI0 fun i j => .int (Builtin.bitAnd i j)) andW := ops_int0
theorem ops_or : OpS K (rI0 fun i j => .int (Builtin.bitOr i j)) orW := ops_int0
theorem ops_xor : OpS K (rI0 fun i j => .int (Builtin.bitXor i j)) xorW := ops_int0
def unInt (g : Int → Int) : W → Sto → Option PyData
  | .d (.int i), _ => some (.int (g i))
  | _, _ => none
theorem uns_int {g : Int → Int} : UnS K (rU fun i => .int (g i)) (unInt g) := by
  intro F R μ S H x v z Q l rx e k
  unfold unInt at e
  split at e <;> simp only [reduceCtorEq, Option.some.injEq] at e
  subst e
  cases rx
  exact ⟨_, rfl, k F _ H (.refl _ _) l rfl⟩
abbrev negW := unInt fun i => -i
abbrev invW := unInt fun i => Builtin.bitNot i
/-! comparisons of ints -/
def cmpOp (g : Int → Int → Bool) : W → W → Sto → Option PyData
  | .d (.int i), .d (.int j), _ => some (.bool (g i j))
  | _, _, _ => none
theorem ops_cmp {g : Int → Int → Bool} : OpS K (rI0 fun i j => .bl (g i j)) (cmpOp g) := by
  intro F R μ S H x y v u z Q l rx ry e k
  unfold cmpOp at e
  split at e <;> simp only [reduceCtorEq, Option.some.injEq] at e
  subst e
  cases rx; cases ry
  exact ⟨_, _, rfl, rfl, k F _ H (.refl _ _) l rfl⟩
abbrev ltW := cmpOp fun i j => decide (i < j)
abbrev leW := cmpOp fun i j => decide (i ≤ j)
abbrev gtW := cmpOp fun i j => decide (j < i)
abbrev geW := cmpOp fun i j => decide (j ≤ i)
/-! ### + -/
def rCatS : R2 := fun x y H Q => ∃ l b xs zs, x = .ref l ∧ y = .ref b ∧ H l = some (.lst xs) ∧ H b = some (.lst zs) ∧ xs.length + zs.length ≤ sizeLine ∧ ∀ p, H p = none → Q (.ref p) (upd H p (.lst (xs ++ zs)))
noncomputable def addW (x y : W) (S : Sto) : Option PyData := match x, y with
  | .d (.int i), .d (.int j) => some (.int (i + j))
  | .d (.str a), .d (.str b) => if Ok (a.length + b.length ≤ LIM) then some (.str (a ++ b)) else none
  | .d (.tuple xs), .d (.tuple ys) => if Ok (xs.length + ys.length ≤ LIM) then some (.tuple (xs ++ ys)) else none
  | x, y => (getL S x).bind fun xs => (getL S y).bind fun ys => if Ok (xs.length + ys.length ≤ LIM) then some (.list (xs ++ ys)) else none
def rAddA (K : PySem.W.Frag) : R2 := fun x y H Q => (rI0 (fun i j => .int (i + j)) x y H Q ∨ (∃ i j, x = .str i ∧ y = .str j ∧ i.length + j.length ≤ sizeLine ∧ Q (.str (i ++ j)) H)) ∨ rCatA K x y H Q ∨ rCat x y H Q
theorem op_addA : OpR X (binaryOp .Add) (rAddA X.K) := (op_add.or op_add_str).or (op_catA.or op_cat)
theorem add_list {F R H : Hp} {μ : List Addr} {S : Sto} {x y : W} {v u : V} {z : PyData} {Q : VK} (l : Lk K F R μ S H) (rx : RepW K F μ x v) (ry : RepW K F μ y u)
    (e : ((getL S x).bind fun xs => (getL S y).bind fun ys => if Ok (xs.length + ys.length ≤ LIM) then some (PyData.list (xs ++ ys)) else none) = some z)
    (k : ∀ F' v' H', Ext F μ F' μ → Lk K F' R μ S H' → RepD K F' z v' → Q v' H') : rCat v u H Q := by
  simp only [Option.bind_eq_some_iff] at e
  obtain ⟨xs, e1, ys, e2, e3⟩ := e
  split at e3 <;> simp at e3
  rename_i hz
  try unfold Ok at hz
  subst e3
  obtain ⟨a, vs, rfl, h1, h2, h3⟩ := lk_getL l rx e1
  obtain ⟨b, us, rfl, g1, g2, g3⟩ := lk_getL l ry e2
  have n1 := h3.length
  have n2 := g3.length
  have hz' : vs.length + us.length ≤ sizeLine := lim_line (by omega)
  refine ⟨a, b, vs, us, rfl, rfl, h1, g1, hz', fun p hp => ?_⟩
  obtain ⟨l', x'⟩ := lk_newF (o := .lst (vs ++ us)) l hp
  exact k _ _ _ x' l' ⟨p, vs ++ us, rfl, upd_same, by rw [List.length_append]; exact hz', RepL.mono x'.1 _ _ (h3.append g3)⟩
theorem ops_add : OpS K (rAddA K) addW := by
  intro F R μ S H x y v u z Q l rx ry e k
  unfold addW at e
  split at e
  · cases e; cases rx; cases ry
    exact .inl (.inl ⟨_, _, rfl, rfl, k F _ H (.refl _ _) l rfl⟩)
  · split at e <;> simp at e
    rename_i hz
    try unfold Ok at hz
    subst e; cases rx; cases ry
    exact .inl (.inr ⟨_, _, rfl, rfl, lim_line hz, k F _ H (.refl _ _) l rfl⟩)
  · rename_i xs ys
    split at e <;> simp at e
    rename_i hz
    try unfold Ok at hz
    subst e
    obtain ⟨a, vs, rfl, h1, h2, h3⟩ := rx
    obtain ⟨b, us, rfl, g1, g2, g3⟩ := ry
    have n1 := h3.length
    have n2 := g3.length
    have hz' : vs.length + us.length ≤ sizeLine := lim_line (by omega)
    refine .inr (.inl ⟨a, b, vs, us, rfl, rfl, SqT.mono l.le h1, SqT.mono l.le g1, hz', fun q => ?_, fun q1 q2 => ?_, fun q1 q2 p hp => ?_⟩)
    · subst q
      have ex : xs = [] := List.length_eq_zero_iff.mp (by simpa using n1.symm)
      subst ex
      exact k F _ H (.refl _ _) l ⟨b, us, rfl, g1, g2, by simpa using g3⟩
    · subst q2
      have ex : ys = [] := List.length_eq_zero_iff.mp (by simpa using n2.symm)
      subst ex
      exact k F _ H (.refl _ _) l ⟨a, vs, rfl, h1, h2, by simpa using h3⟩
    · obtain ⟨l', x'⟩ := lk_newF (o := .tup (vs ++ us)) l hp
      exact k _ _ _ x' l' ⟨p, vs ++ us, rfl, SqT.of upd_same, by rw [List.length_append]; exact hz', RepL.mono x'.1 _ _ (h3.append g3)⟩
  · exact .inr (.inr (add_list l rx ry e k))
/-! ### * -/
noncomputable def mulW (x y : W) (S : Sto) : Option PyData := match x, y with
  | .d (.int i), .d (.int j) => if Ok (MulOk i j) then some (.int (i * j)) else none
  | x, .d (.int k) => (getL S x).bind fun xs => if Ok (-(2 ^ 63) ≤ k ∧ k < 2 ^ 63 ∧ xs.length * k.toNat ≤ LIM) then some (.list (List.replicate k.toNat xs).flatten) else none
  | _, _ => none
theorem op_mulL : OpR X (binaryOp .Mult) (fun x y H Q => rI MulOk (fun i j => .int (i * j)) x y H Q ∨ rRep x y H Q) := op_mulA.or op_rep
theorem flat_len {α : Type} (k : Nat) (xs : List α) : (List.replicate k xs).flatten.length = k * xs.length := by
  induction k with
  | zero => simp
  | succ k ih => rw [List.replicate_succ, List.flatten_cons, List.length_append, ih, Nat.succ_mul]; omega
theorem ops_mul : OpS K (fun x y H Q => rI MulOk (fun i j => .int (i * j)) x y H Q ∨ rRep x y H Q) mulW := by
  intro F R μ S H x y v u z Q l rx ry e k
  unfold mulW at e
  split at e
  · split at e <;> simp at e
    rename_i hz
    try unfold Ok at hz
    subst e; cases rx; cases ry
    exact .inl ⟨_, _, rfl, rfl, hz, k F _ H (.refl _ _) l rfl⟩
  · simp only [Option.bind_eq_some_iff] at e
    obtain ⟨xs, e1, e3⟩ := e
    split at e3 <;> simp at e3
    rename_i hz
    try unfold Ok at hz
    subst e3
    obtain ⟨a, vs, rfl, h1, h2, h3⟩ := lk_getL l rx e1
    cases ry
    have n1 := h3.length
    have hz' : vs.length * Int.toNat ‹Int› ≤ sizeLine := lim_line (by rw [n1]; exact hz.2.2)
    refine .inr ⟨a, _, vs, rfl, rfl, h1, hz.1, hz.2.1, hz', fun p hp => ?_⟩
    obtain ⟨l', x'⟩ := lk_newF (o := .lst (List.replicate (Int.toNat ‹Int›) vs).flatten) l hp
    exact k _ _ _ x' l' ⟨p, _, rfl, upd_same, by rw [flat_len, Nat.mul_comm]; exact hz', RepL.mono x'.1 _ _ (h3.flat _)⟩
  · simp at e
/-! ### ==, !=, is None -/
def scalD : PyData → PyData → Bool
  | .int _, .int _ => true
  | .str _, .str _ => true
  | .bool _, .bool _ => true
  | .none, .none => true
  | _, _ => false
def eqD (a b : PyData) : Option Bool := if scalD a b then some (PyData.eqv a b) else if SeqAt.shaped a && SeqAt.shaped b then some (PyData.eqv a b) else none
def eqW (x y : W) (S : Sto) : Option PyData := (datW S x).bind fun a => (datW S y).bind fun b => (eqD a b).map .bool
def neW (x y : W) (S : Sto) : Option PyData := (datW S x).bind fun a => (datW S y).bind fun b => (eqD a b).map fun k => .bool (!k)
theorem op_eqA (hu : X.A.units + 64 < cLine) : OpR X (compareOp .Eq) (fun x y H Q => (rI0 (fun i j => .bl (decide (i = j))) x y H Q ∨ (∃ i j, x = .str i ∧ y = .str j ∧ Q (.bl (decide (i = j))) H) ∨ ∃ i j, x = .bl i ∧ y = .bl j ∧ Q (.bl (decide (i = j))) H) ∨ rEqD X.K x y H Q) := by
  refine OpR.or (fun pins s σ H x y v u Q I rx ry h => ?_) (op_eqD hu)
  refine op_eq pins s σ H x y v u Q I rx ry ?_
  rcases h with ⟨i, j, rfl, rfl, q⟩ | ⟨i, j, rfl, rfl, q⟩ | ⟨i, j, rfl, rfl, q⟩
  · exact ⟨rfl, by simpa using q⟩
  · exact ⟨rfl, by simpa using q⟩
  · exact ⟨rfl, by simpa using q⟩
theorem op_neA (hu : X.A.units + 64 < cLine) : OpR X (compareOp .NotEq) (fun x y H Q => (rI0 (fun i j => .bl (!decide (i = j))) x y H Q ∨ (∃ i j, x = .str i ∧ y = .str j ∧ Q (.bl (!decide (i = j))) H) ∨ ∃ i j, x = .bl i ∧ y = .bl j ∧ Q (.bl (!decide (i = j))) H) ∨ rNeD X.K x y H Q) := by
  refine OpR.or (fun pins s σ H x y v u Q I rx ry h => ?_) (op_neD hu)
  refine op_ne pins s σ H x y v u Q I rx ry ?_
  rcases h with ⟨i, j, rfl, rfl, q⟩ | ⟨i, j, rfl, rfl, q⟩ | ⟨i, j, rfl, rfl, q⟩
  · exact ⟨rfl, by simpa using q⟩
  · exact ⟨rfl, by simpa using q⟩
  · exact ⟨rfl, by simpa using q⟩
theorem eqv_int (i j : Int) : PyData.eqv (.int i) (.int j) = decide (i = j) := by simp [PyData.eqv]; rfl
theorem eqv_str (i j : Str) : PyData.eqv (.str i) (.str j) = decide (i = j) := by simp [PyData.eqv]; rfl
theorem eqv_bool (i j : Bool) : PyData.eqv (.bool i) (.bool j) = decide (i = j) := by simp [PyData.eqv]; rfl
theorem ops_eq : OpS K (fun x y H Q => (rI0 (fun i j => .bl (decide (i = j))) x y H Q ∨ (∃ i j, x = .str i ∧ y = .str j ∧ Q (.bl (decide (i = j))) H) ∨ ∃ i j, x = .bl i ∧ y = .bl j ∧ Q (.bl (decide (i = j))) H) ∨ rEqD K x y H Q) eqW := by
  intro F R μ S H x y v u z Q l rx ry e k
  simp only [eqW, Option.bind_eq_some_iff, Option.map_eq_some_iff] at e
  obtain ⟨a, ea, b, eb, c, ec, rfl⟩ := e
  have kk : Q (.bl c) H := k F _ H (.refl _ _) l rfl
  have deep : SeqAt.shaped a = true → SeqAt.shaped b = true → PyData.eqv a b = c → rEqD K v u H Q := fun ha hb he =>
    ⟨a, b, lk_dat l (SeqAt.canLay_of_shaped ha) rx ea, lk_dat l (SeqAt.canLay_of_shaped hb) ry eb, ha, hb, by rw [he]; exact kk⟩
  unfold eqD at ec
  split at ec
  · rename_i hs
    simp at ec
    have atom : ∀ {w : W} {t : V} {d : PyData}, RepW K F μ w t → datW S w = some d → (∀ ds, d ≠ .list ds) → RepD K F d t := fun {w t d} r q nl => by
      cases w with
      | d y => cases q; exact r
      | r n =>
        simp only [datW] at q
        split at q <;> simp at q
        exact absurd q.symm (nl _)
    unfold scalD at hs
    split at hs
    · cases atom rx ea (by simp); cases atom ry eb (by simp)
      rw [eqv_int] at ec
      exact .inl (.inl ⟨_, _, rfl, rfl, by subst ec; exact kk⟩)
    · cases atom rx ea (by simp); cases atom ry eb (by simp)
      rw [eqv_str] at ec
      exact .inl (.inr (.inl ⟨_, _, rfl, rfl, by rw [ec]; exact kk⟩))
    · cases atom rx ea (by simp); cases atom ry eb (by simp)
      rw [eqv_bool] at ec
      exact .inl (.inr (.inr ⟨_, _, rfl, rfl, by rw [ec]; exact kk⟩))
    · exact .inr (deep (by decide) (by decide) ec)
    · cases hs
  · split at ec <;> simp at ec
    rename_i h
    try unfold Ok at h
    rw [Bool.and_eq_true] at h
    exact .inr (deep h.1 h.2 ec)
theorem ops_ne : OpS K (fun x y H Q => (rI0 (fun i j => .bl (!decide (i = j))) x y H Q ∨ (∃ i j, x = .str i ∧ y = .str j ∧ Q (.bl (!decide (i = j))) H) ∨ ∃ i j, x = .bl i ∧ y = .bl j ∧ Q (.bl (!decide (i = j))) H) ∨ rNeD K x y H Q) neW := by
  intro F R μ S H x y v u z Q l rx ry e k
  simp only [neW, Option.bind_eq_some_iff, Option.map_eq_some_iff] at e
  obtain ⟨a, ea, b, eb, c, ec, rfl⟩ := e
  have kk : Q (.bl (!c)) H := k F _ H (.refl _ _) l rfl
  have deep : SeqAt.shaped a = true → SeqAt.shaped b = true → PyData.eqv a b = c → rNeD K v u H Q := fun ha hb he =>
    ⟨a, b, lk_dat l (SeqAt.canLay_of_shaped ha) rx ea, lk_dat l (SeqAt.canLay_of_shaped hb) ry eb, ha, hb, by rw [he]; exact kk⟩
  unfold eqD at ec
  split at ec
  · rename_i hs
    simp at ec
    have atom : ∀ {w : W} {t : V} {d : PyData}, RepW K F μ w t → datW S w = some d → (∀ ds, d ≠ .list ds) → RepD K F d t := fun {w t d} r q nl => by
      cases w with
      | d y => cases q; exact r
      | r n =>
        simp only [datW] at q
        split at q <;> simp at q
        exact absurd q.symm (nl _)
    unfold scalD at hs
    split at hs
    · cases atom rx ea (by simp); cases atom ry eb (by simp)
      rw [eqv_int] at ec
      exact .inl (.inl ⟨_, _, rfl, rfl, by subst ec; exact kk⟩)
    · cases atom rx ea (by simp); cases atom ry eb (by simp)
      rw [eqv_str] at ec
      exact .inl (.inr (.inl ⟨_, _, rfl, rfl, by rw [ec]; exact kk⟩))
    · cases atom rx ea (by simp); cases atom ry eb (by simp)
      rw [eqv_bool] at ec
      exact .inl (.inr (.inr ⟨_, _, rfl, rfl, by rw [ec]; exact kk⟩))
    · exact .inr (deep (by decide) (by decide) ec)
    · cases hs
  · split at ec <;> simp at ec
    rename_i h
    try unfold Ok at h
    rw [Bool.and_eq_true] at h
    exact .inr (deep h.1 h.2 ec)
/-- a value is None -/
def isNone : W → Bool
  | .d .none => true
  | _ => false
def isW (x y : W) (_ : Sto) : Option PyData := match y with
  | .d .none => some (.bool (isNone x))
  | _ => none
def notW (x y : W) (_ : Sto) : Option PyData := match y with
  | .d .none => some (.bool (!isNone x))
  | _ => none
theorem isNone_ok {F : Hp} {μ : List Addr} {x : W} {v : V} (r : RepW K F μ x v) : decide (v = V.non) = isNone x := by
  cases x with
  | r n =>
    obtain ⟨a, _, rfl⟩ := r
    simp [isNone]
  | d y =>
    cases y with
    | none => cases r; rfl
    | bool b => cases r; simp [isNone]
    | int b => cases r; simp [isNone]
    | str b => cases r; simp [isNone]
    | list b => obtain ⟨a, vs, rfl, _⟩ := r; simp [isNone]
    | tuple b => obtain ⟨a, vs, rfl, _⟩ := r; simp [isNone]
    | dict b => obtain ⟨a, vs, rfl, _⟩ := r; simp [isNone]
theorem ops_is : OpS K (fun x y H Q => y = .non ∧ Q (.bl (decide (x = .non))) H) isW := by
  intro F R μ S H x y v u z Q l rx ry e k
  unfold isW at e
  split at e <;> simp at e
  subst e
  cases ry
  exact ⟨rfl, by rw [isNone_ok rx]; exact k F _ H (.refl _ _) l rfl⟩
theorem ops_not : OpS K (fun x y H Q => y = .non ∧ Q (.bl (!decide (x = .non))) H) notW := by
  intro F R μ S H x y v u z Q l rx ry e k
  unfold notW at e
  split at e <;> simp at e
  subst e
  cases ry
  exact ⟨rfl, by rw [isNone_ok rx]; exact k F _ H (.refl _ _) l rfl⟩
end
/-! Sim, part D: in, subscripts, slices, displays, built-ins, tests. -/
section
variable {X : Cx} {K : PySem.W.Frag}
/-! ### in -/
def flatD : PyData → Bool
  | .none | .bool _ | .int _ | .str _ => true
  | _ => false
/-- x in y: a sign in a text; flat items; data in a list -/
def memW (x y : W) (S : Sto) : Option Bool := match x, y with
  | .d (.str s), .d (.str t) => if s.cps.size = 1 then some (decide (s.cps.getD 0 0 ∈ t.cps.toList)) else none
  | .d x, y => (seqL S y).bind fun ys => if flatD x && ys.all flatD then some (ys.any fun z => PyData.eqv z x) else
      (getL S y).bind fun ys => if SeqAt.shaped x && SeqAt.shaped (.list ys) then some (ys.any fun z => PyData.eqv z x) else none
  | _, _ => none
def inW (x y : W) (S : Sto) : Option PyData := (memW x y S).map .bool
def ninW (x y : W) (S : Sto) : Option PyData := (memW x y S).map fun k => .bool (!k)
theorem flat_V {F : Hp} {d : PyData} {v : V} (r : RepD K F d v) (f : flatD d = true) : flatV v = true := by
  cases d <;> simp [flatD] at f <;> (cases r; rfl)
theorem flat_eqv {F : Hp} {d e : PyData} {v u : V} (r : RepD K F d v) (q : RepD K F e u) (f : flatD d = true) (g : flatD e = true) : eqV v u = PyData.eqv d e := by
  cases d <;> simp [flatD] at f <;> cases e <;> simp [flatD] at g <;> (cases r; cases q; simp [eqV, PyData.eqv])
theorem flat_all {F : Hp} : ∀ {ds : List PyData} {vs : List V}, RepL K F ds vs → ds.all flatD = true → vs.all flatV = true
  | [], _, h, _ => by cases h; rfl
  | d :: ds, _, ⟨v, r, e, h1, h2⟩, f => by
    subst e
    rw [List.all_cons, Bool.and_eq_true] at f ⊢
    exact ⟨flat_V h1 f.1, flat_all h2 f.2⟩
theorem flat_any {F : Hp} {x : PyData} {u : V} (rx : RepD K F x u) (fx : flatD x = true) : ∀ {ds : List PyData} {vs : List V}, RepL K F ds vs → ds.all flatD = true → inV u vs = ds.any fun z => PyData.eqv z x
  | [], _, h, _ => by cases h; rfl
  | d :: ds, _, ⟨v, r, e, h1, h2⟩, f => by
    subst e
    rw [List.all_cons, Bool.and_eq_true] at f
    show (eqV v u || inV u r) = _
    rw [List.any_cons, flat_eqv h1 rx f.1 fx, flat_any rx fx h2 f.2]
def rInA (K : PySem.W.Frag) : R2 := fun x y H Q => (∃ (c : Nat) (z : Str), x = .str ⟨#[c]⟩ ∧ y = .str z ∧ Q (.bl (decide (c ∈ z.cps.toList))) H) ∨ rIn K false x y H Q ∨ rInD K x y H Q
def rNinA (K : PySem.W.Frag) : R2 := fun x y H Q => (∃ (c : Nat) (z : Str), x = .str ⟨#[c]⟩ ∧ y = .str z ∧ Q (.bl (!decide (c ∈ z.cps.toList))) H) ∨ rIn K true x y H Q ∨ rNotInD K x y H Q
theorem op_inA (hu : X.A.units + 65 < cLine) : OpR X (compareOp .In) (rInA X.K) := op_in_sign.or (op_in_seq.or (op_inD hu))
theorem op_ninA (hu : X.A.units + 65 < cLine) : OpR X (compareOp .NotIn) (rNinA X.K) := op_notIn_sign.or (op_notIn_seq.or (op_notInD hu))
theorem one_sign {s : Str} (h : s.cps.size = 1) : s = ⟨#[s.cps.getD 0 0]⟩ := by
  obtain ⟨⟨l⟩⟩ := s
  match l, h with
  | [a], _ => rfl
theorem mem_ok {F R H : Hp} {μ : List Addr} {S : Sto} {x y : W} {v u : V} {c : Bool} (l : Lk K F R μ S H) (rx : RepW K F μ x v) (ry : RepW K F μ y u) (e : memW x y S = some c) :
    (∃ (n : Nat) (z : Str), v = .str ⟨#[n]⟩ ∧ u = .str z ∧ decide (n ∈ z.cps.toList) = c) ∨ (∃ p xs, u = .ref p ∧ (SqL K H p xs ∨ SqT K H p xs) ∧ flatV v = true ∧ xs.all flatV = true ∧ inV v xs = c) ∨
      ∃ d ds, Dp K H v d ∧ Dp K H u (.list ds) ∧ SeqAt.shaped d = true ∧ SeqAt.shaped (.list ds) = true ∧ (ds.any fun z => PyData.eqv z d) = c := by
  unfold memW at e
  split at e
  · split at e <;> simp only [reduceCtorEq, Option.some.injEq] at e
    rename_i h
    try unfold Ok at h
    cases rx; cases ry
    exact .inl ⟨_, _, by rw [← one_sign h], rfl, e⟩
  · simp only [Option.bind_eq_some_iff] at e
    obtain ⟨ys, e1, e2⟩ := e
    split at e2
    · rename_i h
      rw [Bool.and_eq_true] at h
      obtain ⟨a, vs, rfl, h1, h2, h3⟩ := lk_seq l ry e1
      have rx' : RepD K F _ v := rx
      refine .inr (.inl ⟨a, vs, rfl, h1, flat_V rx' h.1, flat_all h3 h.2, ?_⟩)
      rw [flat_any rx' h.1 h3 h.2]
      simpa using e2
    · simp only [Option.bind_eq_some_iff] at e2
      obtain ⟨zs, e3, e4⟩ := e2
      split at e4 <;> simp at e4
      rename_i h
      try unfold Ok at h
      rw [Bool.and_eq_true] at h
      obtain ⟨a, vs, rfl, h1, h2, h3⟩ := lk_getL l ry e3
      have c1 := SeqAt.canLay_of_shaped h.1
      have c2 := SeqAt.canLay_of_shaped h.2
      refine .inr (.inr ⟨_, zs, lk_dp l c1 rx, .lst (SqL.of h1) (RepL.dp zs vs (by simpa [PyData.canLay0] using c2) (RepL.mono l.le zs vs h3)), h.1, h.2, e4⟩)
  · simp at e
theorem ops_in : OpS K (rInA K) inW := by
  intro F R μ S H x y v u z Q l rx ry e k
  simp only [inW, Option.map_eq_some_iff] at e
  obtain ⟨c, e, rfl⟩ := e
  have kk : Q (.bl c) H := k F _ H (.refl _ _) l rfl
  rcases mem_ok l rx ry e with ⟨n, z, h1, h2, rfl⟩ | ⟨p, xs, h1, h2, h3, h4, rfl⟩ | ⟨d, ds, h1, h2, h3, h4, rfl⟩
  · exact .inl ⟨n, z, h1, h2, kk⟩
  · exact .inr (.inl ⟨p, xs, h1, h2, h3, h4, kk⟩)
  · exact .inr (.inr ⟨d, ds, h1, h2, h3, h4, kk⟩)
theorem ops_nin : OpS K (rNinA K) ninW := by
  intro F R μ S H x y v u z Q l rx ry e k
  simp only [ninW, Option.map_eq_some_iff] at e
  obtain ⟨c, e, rfl⟩ := e
  have kk : Q (.bl (!c)) H := k F _ H (.refl _ _) l rfl
  rcases mem_ok l rx ry e with ⟨n, z, h1, h2, rfl⟩ | ⟨p, xs, h1, h2, h3, h4, rfl⟩ | ⟨d, ds, h1, h2, h3, h4, rfl⟩
  · exact .inl ⟨n, z, h1, h2, kk⟩
  · exact .inr (.inl ⟨p, xs, h1, h2, h3, h4, kk⟩)
  · exact .inr (.inr ⟨d, ds, h1, h2, h3, h4, kk⟩)
/-! ### x[i] -/
noncomputable def ixW (x y : W) (S : Sto) : Option PyData := match x, y with
  | .d (.str s), .d (.int i) => if Ok (s.length ≤ LIM) then (atI s.cps.toList i).map fun c => .str ⟨#[c]⟩ else none
  | x, .d (.int i) => (seqL S x).bind fun xs => atI xs i
  | _, _ => none
theorem RepL.atI {F : Hp} {ds : List PyData} {vs : List V} {i : Int} {d : PyData} (r : RepL K F ds vs) (e : atI ds i = some d) : ∃ v, L2.atI vs i = some v ∧ RepD K F d v := by
  unfold L2.atI at e ⊢
  simp only [Option.bind_eq_some_iff] at e
  obtain ⟨j, e1, e2⟩ := e
  obtain ⟨v, h1, h2⟩ := r.at e2
  exact ⟨v, by rw [r.length, e1]; exact h1, h2⟩
theorem ops_ix : OpS K (rIx K) ixW := by
  intro F R μ S H x y v u z Q l rx ry e k
  unfold ixW at e
  split at e
  · split at e <;> simp only [Option.map_eq_some_iff, reduceCtorEq] at e
    rename_i h
    try unfold Ok at h
    obtain ⟨c, e1, rfl⟩ := e
    cases rx; cases ry
    exact .inr (.inr ⟨_, _, c, rfl, rfl, lim_line h, e1, k F _ H (.refl _ _) l rfl⟩)
  · simp only [Option.bind_eq_some_iff] at e
    obtain ⟨xs, e1, e2⟩ := e
    obtain ⟨a, vs, rfl, h1, h2, h3⟩ := lk_seq l rx e1
    cases ry
    obtain ⟨w, g1, g2⟩ := h3.atI e2
    have kk := k F w H (.refl _ _) l g2
    rcases h1 with h1 | h1
    · exact .inl ⟨a, vs, _, w, rfl, rfl, h1, g1, kk⟩
    · exact .inr (.inl ⟨a, vs, _, w, rfl, rfl, h1, g1, kk⟩)
  · simp at e
/-! ### slices -/
abbrev MO := Sl → Sto → Option (Option Int × Sto)
def tO (K : PySem.W.Frag) (m : MO) : TO := fun σ H Q => ∃ F R μ env S o S', SlR K F μ env σ ∧ Lk K F R μ S H ∧ m env S = some (o, S') ∧ ∀ F' μ' H', Ext F μ F' μ' → Lk K F' R μ' S' H' → Q o H'
def SimO (X : Cx) (e : Option Expr) (m : MO) : Prop := PO X e (tO X.K m)
theorem po_imp {e : Option Expr} {t t' : TO} (h : PO X e t) (i : ∀ σ H Q, t' σ H Q → t σ H Q) : PO X e t' := ⟨fun pins s σ H Q I q => h.run pins s σ H Q I (i σ H Q q)⟩
def oNone : MO := fun _ S => some (none, S)
def oSome (m : ME) : MO := fun env S => (m env S).bind fun p => match p.1 with
  | .d (.int i) => some (some i, p.2)
  | _ => none
theorem so_none : SimO X none oNone := by
  refine po_imp po_none fun σ H Q q => ?_
  obtain ⟨F, R, μ, env, S, w, S', sl, l, e, k⟩ := q
  simp [oNone] at e
  obtain ⟨rfl, rfl⟩ := e
  exact k F μ H (.refl _ _) l
theorem so_some {e : Expr} {m : ME} (h : SimE X e m) : SimO X (some e) (oSome m) := by
  refine po_imp (po_some h) fun σ H Q q => ?_
  obtain ⟨F, R, μ, env, S, w, S', sl, l, e, k⟩ := q
  simp only [oSome, Option.bind_eq_some_iff] at e
  obtain ⟨⟨x, S1⟩, e1, e2⟩ := e
  refine ⟨F, R, μ, env, S, x, S1, sl, l, e1, fun F1 μ1 v H1 x1 l1 r1 => ?_⟩
  split at e2 <;> simp at e2
  rename_i i hx
  simp only at hx
  subst hx
  obtain ⟨rfl, rfl⟩ := e2
  cases r1
  exact ⟨i, rfl, k F1 μ1 H1 x1 l1⟩
def cutD (xs : List PyData) (lo hi : Option Int) : List PyData := (xs.drop (HT.sIx xs.length 0 lo)).take (HT.sIx xs.length xs.length hi - HT.sIx xs.length 0 lo)
noncomputable def slW (x : W) (lo hi : Option Int) (S : Sto) : Option PyData := match x with
  | .d (.str s) => if Ok (s.length ≤ LIM) then some (.str (cutS s lo hi)) else none
  | .d (.tuple xs) => some (.tuple (cutD xs lo hi))
  | x => (lsL S x).map fun xs => .list (cutD xs lo hi)
theorem RepL.cut {F : Hp} {ds : List PyData} {vs : List V} (r : RepL K F ds vs) (lo hi : Option Int) : RepL K F (cutD ds lo hi) (cutV vs lo hi) := by
  unfold cutD cutV
  rw [r.length]
  exact (r.drop _).take _
def rSlAll (K : PySem.W.Frag) : V → Option Int → Option Int → Hp → VK → Prop := fun x lo hi H Q => rSlS x lo hi H Q ∨ rSlA K x lo hi H Q ∨ rSlL K x lo hi H Q
theorem sl_all : L2.SlR X (rSlAll X.K) := sl_str.or (sl_tupA.or sl_list)
theorem sls_all {F R H : Hp} {μ : List Addr} {S : Sto} {x : W} {v : V} {lo hi : Option Int} {z : PyData} {Q : VK} (l : Lk K F R μ S H) (rx : RepW K F μ x v) (e : slW x lo hi S = some z)
    (k : ∀ F' v' H', Ext F μ F' μ → Lk K F' R μ S H' → RepD K F' z v' → Q v' H') : rSlAll K v lo hi H Q := by
  unfold slW at e
  split at e
  · split at e <;> simp at e
    rename_i h
    try unfold Ok at h
    subst e
    cases rx
    exact .inl ⟨_, rfl, lim_line h, k F _ H (.refl _ _) l rfl⟩
  · rename_i xs
    cases e
    obtain ⟨a, vs, rfl, h1, h2, h3⟩ := rx
    refine .inr (.inl ⟨a, vs, rfl, SqT.mono l.le h1, fun q => ?_, fun q p hp => ?_⟩)
    · refine k F _ H (.refl _ _) l ⟨a, vs, rfl, h1, h2, ?_⟩
      have n := h3.length
      unfold cutD
      rw [← n, q.1, q.2]
      simpa [n] using h3
    · obtain ⟨l', x'⟩ := lk_newF (o := .tup (cutV vs lo hi)) l hp
      exact k _ _ _ x' l' ⟨p, _, rfl, SqT.of upd_same, Nat.le_trans (cutV_length _ _ _) h2, RepL.mono x'.1 _ _ (h3.cut lo hi)⟩
  · simp only [Option.map_eq_some_iff] at e
    obtain ⟨xs, e1, rfl⟩ := e
    obtain ⟨a, vs, rfl, h1, h2, h3⟩ := lk_ls l rx e1
    refine .inr (.inr ⟨a, vs, rfl, h1, fun p hp => ?_⟩)
    obtain ⟨l', x'⟩ := lk_newF (o := .lst (cutV vs lo hi)) l hp
    exact k _ _ _ x' l' ⟨p, _, rfl, upd_same, Nat.le_trans (cutV_length _ _ _) h2, RepL.mono x'.1 _ _ (h3.cut lo hi)⟩
noncomputable def mSl (a : ME) (lo hi : MO) : ME := fun env S => (a env S).bind fun p => (lo env p.2).bind fun q => (hi env q.2).bind fun r => (slW p.1 q.1 r.1 r.2).map fun z => (.d z, r.2)
theorem se_slice {a : Expr} {lo hi : Option Expr} {ma : ME} {ml mh : MO} {pos p2 : Pos} (ha : SimE X a ma) (hl : SimO X lo ml) (hh : SimO X hi mh) : SimE X (.Subscript a (.Slice lo hi none p2) pos) (mSl ma ml mh) := by
  refine pe_imp (pe_slice sl_all ha hl hh) fun σ H Q q => ?_
  obtain ⟨F, R, μ, env, S, w, S', sl, l, e, k⟩ := q
  simp only [mSl, Option.bind_eq_some_iff, Option.map_eq_some_iff] at e
  obtain ⟨⟨x, S1⟩, e1, ⟨o1, S2⟩, e2, ⟨o2, S3⟩, e3, z, e4, e5⟩ := e
  cases e5
  refine ⟨F, R, μ, env, S, x, S1, sl, l, e1, fun F1 μ1 v H1 x1 l1 r1 => ?_⟩
  refine ⟨F1, R, μ1, env, S1, o1, S2, sl.mono x1, l1, e2, fun F2 μ2 H2 x2 l2 => ?_⟩
  refine ⟨F2, R, μ2, env, S2, o2, S3, sl.mono (x1.trans x2), l2, e3, fun F3 μ3 H3 x3 l3 => ?_⟩
  exact sls_all l3 (r1.mono (x2.trans x3)) e4 fun F4 v' H4 x4 l4 r4 => k F4 μ3 v' H4 (((x1.trans x2).trans x3).trans x4) l4 r4
/-! ### displays -/
noncomputable def mTup (as : MA) : ME := fun env S => (as env S).bind fun p => (toDs p.1 p.2).bind fun q => if Ok (q.1.length ≤ LIM) then some (.d (.tuple q.1), q.2) else none
noncomputable def mLst (as : MA) : ME := fun env S => (as env S).bind fun p => (toDs p.1 p.2).bind fun q => if Ok (q.1.length ≤ LIM) then some (.d (.list q.1), q.2) else none
/-- a list that will be changed -/
noncomputable def mLstM (as : MA) : ME := fun env S => (as env S).bind fun p => (toDs p.1 p.2).bind fun q => if Ok (q.1.length ≤ LIM) then some (.r q.2.length, q.2 ++ [Ob.lst q.1]) else none
theorem se_tup {es : List Expr} {as : MA} {k : Nat} {pos : Pos} (h : SimA X es as) : SimE X (.Tuple es k pos) (mTup as) := by
  refine pe_imp (pe_tup h) fun σ H Q q => ?_
  obtain ⟨F, R, μ, env, S, w, S', sl, l, e, k⟩ := q
  simp only [mTup, Option.bind_eq_some_iff] at e
  obtain ⟨⟨ws, S1⟩, e1, ⟨xs, S2⟩, e2, e3⟩ := e
  split at e3 <;> simp at e3
  rename_i hz
  try unfold Ok at hz
  obtain ⟨rfl, rfl⟩ := e3
  refine ⟨F, R, μ, env, S, ws, S1, sl, l, e1, fun F1 μ1 vs H1 x1 l1 r1 => ?_⟩
  obtain ⟨F2, x2, l2, r2⟩ := lk_toDs l1 r1 e2
  have n := r2.length
  have hz' : vs.length ≤ sizeLine := lim_line (by rw [n]; exact hz)
  refine ⟨hz', fun p hp => ?_⟩
  obtain ⟨l3, x3⟩ := lk_newF (o := .tup vs) l2 hp
  exact k _ _ _ _ ((x1.trans x2).trans x3) l3 ⟨p, vs, rfl, SqT.of upd_same, hz', RepL.mono x3.1 _ _ r2⟩
theorem se_lst {es : List Expr} {as : MA} {pos : Pos} (h : SimA X es as) : SimE X (.List es pos) (mLst as) := by
  refine pe_imp (pe_lst h) fun σ H Q q => ?_
  obtain ⟨F, R, μ, env, S, w, S', sl, l, e, k⟩ := q
  simp only [mLst, Option.bind_eq_some_iff] at e
  obtain ⟨⟨ws, S1⟩, e1, ⟨xs, S2⟩, e2, e3⟩ := e
  split at e3 <;> simp at e3
  rename_i hz
  try unfold Ok at hz
  obtain ⟨rfl, rfl⟩ := e3
  refine ⟨F, R, μ, env, S, ws, S1, sl, l, e1, fun F1 μ1 vs H1 x1 l1 r1 => ?_⟩
  obtain ⟨F2, x2, l2, r2⟩ := lk_toDs l1 r1 e2
  have n := r2.length
  have hz' : vs.length ≤ sizeLine := lim_line (by rw [n]; exact hz)
  refine ⟨hz', fun p hp => ?_⟩
  obtain ⟨l3, x3⟩ := lk_newF (o := .lst vs) l2 hp
  exact k _ _ _ _ ((x1.trans x2).trans x3) l3 ⟨p, vs, rfl, upd_same, hz', RepL.mono x3.1 _ _ r2⟩
theorem se_lstM {es : List Expr} {as : MA} {pos : Pos} (h : SimA X es as) : SimE X (.List es pos) (mLstM as) := by
  refine pe_imp (pe_lst h) fun σ H Q q => ?_
  obtain ⟨F, R, μ, env, S, w, S', sl, l, e, k⟩ := q
  simp only [mLstM, Option.bind_eq_some_iff] at e
  obtain ⟨⟨ws, S1⟩, e1, ⟨xs, S2⟩, e2, e3⟩ := e
  split at e3 <;> simp at e3
  rename_i hz
  try unfold Ok at hz
  obtain ⟨rfl, rfl⟩ := e3
  refine ⟨F, R, μ, env, S, ws, S1, sl, l, e1, fun F1 μ1 vs H1 x1 l1 r1 => ?_⟩
  obtain ⟨F2, x2, l2, r2⟩ := lk_toDs l1 r1 e2
  have n := r2.length
  have hz' : vs.length ≤ sizeLine := lim_line (by rw [n]; exact hz)
  refine ⟨hz', fun p hp => ?_⟩
  obtain ⟨l3, x3⟩ := lk_newM l2 hp r2 hz'
  refine k _ _ _ _ ((x1.trans x2).trans x3) l3 ⟨p, ?_, rfl⟩
  rw [← l2.len]
  simp
/-! ### built-ins -/
noncomputable def lenW (xs : List W) (S : Sto) : Option PyData := match xs with
  | [.d (.str s)] => if Ok (s.length ≤ LIM) then some (.int s.length) else none
  | [w] => (seqL S w).map fun ys => .int ys.length
  | _ => none
theorem ca1 {F : Hp} {μ : List Addr} {w : W} {vs : List V} (r : RepWs K F μ [w] vs) : ∃ v, vs = [v] ∧ RepW K F μ w v := by
  obtain ⟨v, vr, rfl, h, e⟩ := r
  cases e
  exact ⟨v, rfl, h⟩
theorem ca2 {F : Hp} {μ : List Addr} {w x : W} {vs : List V} (r : RepWs K F μ [w, x] vs) : ∃ v u, vs = [v, u] ∧ RepW K F μ w v ∧ RepW K F μ x u := by
  obtain ⟨v, vr, rfl, h, r⟩ := r
  obtain ⟨u, rfl, h2⟩ := ca1 r
  exact ⟨v, u, rfl, h, h2⟩
theorem ca3 {F : Hp} {μ : List Addr} {w x y : W} {vs : List V} (r : RepWs K F μ [w, x, y] vs) : ∃ v u t, vs = [v, u, t] ∧ RepW K F μ w v ∧ RepW K F μ x u ∧ RepW K F μ y t := by
  obtain ⟨v, vr, rfl, h, r⟩ := r
  obtain ⟨u, t, rfl, h2, h3⟩ := ca2 r
  exact ⟨v, u, t, rfl, h, h2, h3⟩
theorem cas_len : CaS K (fun xs H Q => ∃ x n, xs = [x] ∧ LenV K x H n ∧ Q (.int n) H) lenW := by
  intro F R μ S H xs vs z Q l r e k
  unfold lenW at e
  split at e
  · split at e <;> simp at e
    rename_i h
    try unfold Ok at h
    subst e
    obtain ⟨v, rfl, rv⟩ := ca1 r
    cases rv
    exact ⟨_, _, rfl, ⟨lim_line h, rfl⟩, k F _ H (.refl _ _) l rfl⟩
  · simp only [Option.map_eq_some_iff] at e
    obtain ⟨ys, e1, rfl⟩ := e
    obtain ⟨v, rfl, rv⟩ := ca1 r
    obtain ⟨a, us, rfl, h1, h2, h3⟩ := lk_seq l rv e1
    refine ⟨_, ys.length, rfl, ?_, k F _ H (.refl _ _) l rfl⟩
    rcases h1 with h1 | h1
    · exact .inl ⟨us, h1, h3.length.symm⟩
    · exact .inr ⟨us, h1, h3.length.symm⟩
  · cases e
def int2 (g : Int → Int → Int) (xs : List W) (_ : Sto) : Option PyData := match xs with
  | [.d (.int i), .d (.int j)] => some (.int (g i j))
  | _ => none
theorem cas_int2 {g : Int → Int → Int} : CaS K (fun xs H Q => ∃ i j, xs = [.int i, .int j] ∧ Q (.int (g i j)) H) (int2 g) := by
  intro F R μ S H xs vs z Q l r e k
  unfold int2 at e
  split at e <;> simp at e
  subst e
  obtain ⟨v, u, rfl, rv, ru⟩ := ca2 r
  cases rv; cases ru
  exact ⟨_, _, rfl, k F _ H (.refl _ _) l rfl⟩
abbrev maxW := int2 fun i j => if j > i then j else i
abbrev minW := int2 fun i j => if j < i then j else i
def max3W (xs : List W) (_ : Sto) : Option PyData := match xs with
  | [.d (.int i), .d (.int j), .d (.int k)] => some (.int (max i (max j k)))
  | _ => none
theorem cas_max3 : CaS K (rNuC3 nuMax3) max3W := by
  intro F R μ S H xs vs z Q l r e k
  unfold max3W at e
  split at e <;> simp at e
  rename_i i j m
  subst e
  obtain ⟨v, u, t, rfl, rv, ru, rt⟩ := ca3 r
  cases rv; cases ru; cases rt
  refine ⟨_, _, _, .int (max i (max j m)), rfl, ?_, k F _ H (.refl _ _) l rfl⟩
  have two : ∀ a b : Int, nuMax2 (.int a) (.int b) = some (.int (max a b)) := fun a b => by
    show some (if decide (a < b) = true then V.int b else V.int a) = _
    by_cases h : a < b
    · rw [decide_eq_true h, if_pos rfl, Int.max_def, if_pos (by omega)]
    · rw [decide_eq_false h, if_neg Bool.false_ne_true, Int.max_def]
      split
      · rw [show a = b by omega]
      · rfl
  unfold nuMax3
  rw [two, Option.bind_some, two]
  congr 2
  omega
def allInt : List PyData → Option (List Int)
  | [] => some []
  | .int i :: r => (allInt r).map (i :: ·)
  | _ :: _ => none
theorem allInt_ok {F : Hp} : ∀ {ds : List PyData} {vs : List V} {ns : List Int}, RepL K F ds vs → allInt ds = some ns → vs = ns.map V.int
  | [], _, _, h, e => by cases h; cases e; rfl
  | d :: ds, _, ns, ⟨v, r, q, h1, h2⟩, e => by
    subst q
    cases d <;> simp [allInt] at e
    obtain ⟨ms, e1, rfl⟩ := e
    cases h1
    rw [allInt_ok h2 e1, List.map_cons]
def allBool : List PyData → Option (List Bool)
  | [] => some []
  | .bool i :: r => (allBool r).map (i :: ·)
  | _ :: _ => none
theorem allBool_ok {F : Hp} : ∀ {ds : List PyData} {vs : List V} {ns : List Bool}, RepL K F ds vs → allBool ds = some ns → vs = ns.map V.bl
  | [], _, _, h, e => by cases h; cases e; rfl
  | d :: ds, _, ns, ⟨v, r, q, h1, h2⟩, e => by
    subst q
    cases d <;> simp [allBool] at e
    obtain ⟨ms, e1, rfl⟩ := e
    cases h1
    rw [allBool_ok h2 e1, List.map_cons]
def sumW (xs : List W) (S : Sto) : Option PyData := match xs with
  | [w] => (lsL S w).bind fun ys => (allInt ys).map fun ns => .int ns.sum
  | _ => none
theorem cas_sum : CaS K (rSum K) sumW := by
  intro F R μ S H xs vs z Q l r e k
  unfold sumW at e
  split at e
  · simp only [Option.bind_eq_some_iff, Option.map_eq_some_iff] at e
    obtain ⟨ys, e1, ns, e2, rfl⟩ := e
    obtain ⟨v, rfl, rv⟩ := ca1 r
    obtain ⟨a, us, rfl, h1, h2, h3⟩ := lk_ls l rv e1
    rw [allInt_ok h3 e2] at h1
    exact ⟨a, ns, rfl, h1, k F _ H (.refl _ _) l rfl⟩
  · cases e
def anyW (xs : List W) (S : Sto) : Option PyData := match xs with
  | [w] => (lsL S w).bind fun ys => (allBool ys).map fun ns => .bool (ns.any id)
  | _ => none
def allW (xs : List W) (S : Sto) : Option PyData := match xs with
  | [w] => (lsL S w).bind fun ys => (allBool ys).map fun ns => .bool (ns.all id)
  | _ => none
theorem cas_any : CaS K (rAny K) anyW := by
  intro F R μ S H xs vs z Q l r e k
  unfold anyW at e
  split at e
  · simp only [Option.bind_eq_some_iff, Option.map_eq_some_iff] at e
    obtain ⟨ys, e1, ns, e2, rfl⟩ := e
    obtain ⟨v, rfl, rv⟩ := ca1 r
    obtain ⟨a, us, rfl, h1, h2, h3⟩ := lk_ls l rv e1
    rw [allBool_ok h3 e2] at h1
    exact ⟨a, ns, rfl, h1, k F _ H (.refl _ _) l rfl⟩
  · cases e
theorem cas_all : CaS K (rAll K) allW := by
  intro F R μ S H xs vs z Q l r e k
  unfold allW at e
  split at e
  · simp only [Option.bind_eq_some_iff, Option.map_eq_some_iff] at e
    obtain ⟨ys, e1, ns, e2, rfl⟩ := e
    obtain ⟨v, rfl, rv⟩ := ca1 r
    obtain ⟨a, us, rfl, h1, h2, h3⟩ := lk_ls l rv e1
    rw [allBool_ok h3 e2] at h1
    exact ⟨a, ns, rfl, h1, k F _ H (.refl _ _) l rfl⟩
  · cases e
/-- int(x) of an int, a truth, a text of figures -/
noncomputable def toInt (xs : List W) (_ : Sto) : Option PyData := match xs with
  | [.d (.int i)] => some (.int i)
  | [.d (.bool b)] => some (.int (if b then 1 else 0))
  | [.d (.str s)] => if Ok (s.length ≤ 640) then (PySem.intText? s).map .int else none
  | _ => none
theorem call_intA : CallR X (.type "int") (fun xs H Q => ((∃ i, xs = [.int i] ∧ Q (.int i) H) ∨ ∃ k, xs = [.bl k] ∧ Q (.int (if k then 1 else 0)) H) ∨ ∃ a n, xs = [.str a] ∧ PySem.intText? a = some n ∧ a.length ≤ 640 ∧ Q (.int n) H) := call_int1.or call_int_str
theorem cas_int : CaS K (fun xs H Q => ((∃ i, xs = [.int i] ∧ Q (.int i) H) ∨ ∃ k, xs = [.bl k] ∧ Q (.int (if k then 1 else 0)) H) ∨ ∃ a n, xs = [.str a] ∧ PySem.intText? a = some n ∧ a.length ≤ 640 ∧ Q (.int n) H) toInt := by
  intro F R μ S H xs vs z Q l r e k
  unfold toInt at e
  split at e
  · cases e
    obtain ⟨v, rfl, rv⟩ := ca1 r
    cases rv
    exact .inl (.inl ⟨_, rfl, k F _ H (.refl _ _) l rfl⟩)
  · cases e
    obtain ⟨v, rfl, rv⟩ := ca1 r
    cases rv
    exact .inl (.inr ⟨_, rfl, k F _ H (.refl _ _) l rfl⟩)
  · split at e <;> simp only [Option.map_eq_some_iff, reduceCtorEq] at e
    rename_i h
    try unfold Ok at h
    obtain ⟨n, e1, rfl⟩ := e
    obtain ⟨v, rfl, rv⟩ := ca1 r
    cases rv
    exact .inr ⟨_, n, rfl, e1, h, k F _ H (.refl _ _) l rfl⟩
  · cases e
/-- str(n) -/
noncomputable def toStr (xs : List W) (_ : Sto) : Option PyData := match xs with
  | [.d (.int i)] => if Ok (i.natAbs.log2 < 1920) then some (.str (toString i)) else none
  | _ => none
theorem cas_str : CaS K (fun xs H Q => ∃ i, xs = [.int i] ∧ i.natAbs.log2 < 1920 ∧ Q (.str (toString i)) H) toStr := by
  intro F R μ S H xs vs z Q l r e k
  unfold toStr at e
  split at e
  · split at e <;> simp at e
    rename_i h
    try unfold Ok at h
    subst e
    obtain ⟨v, rfl, rv⟩ := ca1 r
    cases rv
    exact ⟨_, rfl, h, k F _ H (.refl _ _) l rfl⟩
  · cases e
/-- list(x), tuple(x) -/
def toList (xs : List W) (S : Sto) : Option PyData := match xs with
  | [w] => (seqL S w).map .list
  | _ => none
def toTup (xs : List W) (S : Sto) : Option PyData := match xs with
  | [w] => (seqL S w).map .tuple
  | _ => none
theorem cas_list : CaS K (fun xs H Q => ∃ p ys, xs = [.ref p] ∧ (SqL K H p ys ∨ SqT K H p ys) ∧ ∀ l, H l = none → Q (.ref l) (upd H l (.lst ys))) toList := by
  intro F R μ S H xs vs z Q l r e k
  unfold toList at e
  split at e
  · simp only [Option.map_eq_some_iff] at e
    obtain ⟨ys, e1, rfl⟩ := e
    obtain ⟨v, rfl, rv⟩ := ca1 r
    obtain ⟨a, us, rfl, h1, h2, h3⟩ := lk_seq l rv e1
    refine ⟨a, us, rfl, h1, fun p hp => ?_⟩
    obtain ⟨l', x'⟩ := lk_newF (o := .lst us) l hp
    exact k _ _ _ x' l' ⟨p, us, rfl, upd_same, h2, RepL.mono x'.1 _ _ h3⟩
  · cases e
theorem cas_tuple : CaS K (fun xs H Q => ∃ p ys, xs = [.ref p] ∧ ((SqL K H p ys ∧ ∀ l, H l = none → Q (.ref l) (upd H l (.tup ys))) ∨ (SqT K H p ys ∧ Q (.ref p) H))) toTup := by
  intro F R μ S H xs vs z Q l r e k
  unfold toTup at e
  split at e
  · rename_i w
    simp only [Option.map_eq_some_iff] at e
    obtain ⟨ys, e1, rfl⟩ := e
    obtain ⟨v, rfl, rv⟩ := ca1 r
    have lists : lsL S w = some ys → ∃ p ys', [v] = [.ref p] ∧ ((SqL K H p ys' ∧ ∀ l, H l = none → Q (.ref l) (upd H l (.tup ys'))) ∨ (SqT K H p ys' ∧ Q (.ref p) H)) := fun e => by
      obtain ⟨a, us, rfl, h1, h2, h3⟩ := lk_ls l rv e
      refine ⟨a, us, rfl, .inl ⟨h1, fun p hp => ?_⟩⟩
      obtain ⟨l', x'⟩ := lk_newF (o := .tup us) l hp
      exact k _ _ _ x' l' ⟨p, us, rfl, SqT.of upd_same, h2, RepL.mono x'.1 _ _ h3⟩
    cases w with
    | r n => exact lists e1
    | d x =>
      cases x with
      | tuple ds =>
        cases e1
        have rv' := rv
        obtain ⟨a, us, rfl, h1, h2, h3⟩ := rv
        exact ⟨a, us, rfl, .inr ⟨SqT.mono l.le h1, k F _ H (.refl _ _) l rv'⟩⟩
      | _ => exact lists e1
  · cases e
/-- a list that will be changed, by list(x) -/
def mListM (as : MA) : ME := fun env S => (as env S).bind fun p => match p.1 with
  | [w] => (seqL p.2 w).map fun ys => (.r p.2.length, p.2 ++ [Ob.lst ys])
  | _ => none
theorem se_listM {e : Expr} {es : List Expr} {x : Str} {p pos : Pos} {as : MA} (hg : Gl X x) (hm : X.mg x = none) (hv : bootBuiltins x = some (.type "list")) (ha : SimA X (e :: es) as)
    (hn : x ≠ "__name__" := by decide) (hdb : (x == ("__debug__" : Str)) = false := by decide)
    (he : starEach (e :: es) X.env = (false, eval e X.env) :: starEach es X.env := by rfl) (hpl : (backTo pos (starEach es X.env)).any (·.1) = false := by rfl) : SimE X (.Call (.Name x p) (e :: es) [] pos) (mListM as) := by
  refine pe_imp (pe_callTy call_list_of hg hm hv ha hn hdb he hpl) fun σ H Q q => ?_
  obtain ⟨F, R, μ, env, S, w, S', sl, l, e, k⟩ := q
  simp only [mListM, Option.bind_eq_some_iff] at e
  obtain ⟨⟨ws, S1⟩, e1, e2⟩ := e
  refine ⟨F, R, μ, env, S, ws, S1, sl, l, e1, fun F1 μ1 vs H1 x1 l1 r1 => ?_⟩
  split at e2 <;> simp only [Option.map_eq_some_iff, reduceCtorEq] at e2
  rename_i w' hw
  simp only at hw
  subst hw
  obtain ⟨ys, e3, e4⟩ := e2
  cases e4
  obtain ⟨v, rfl, rv⟩ := ca1 r1
  obtain ⟨a, us, rfl, h1, h2, h3⟩ := lk_seq l1 rv e3
  refine ⟨a, us, rfl, h1, fun p hp => ?_⟩
  obtain ⟨l3, x3⟩ := lk_newM l1 hp h3 h2
  refine k _ _ _ _ (x1.trans x3) l3 ⟨p, ?_, rfl⟩
  rw [← l1.len]
  simp
end
/-! Sim, part E: isinstance, tests, and, or, not, chains, conditional expressions; statements. -/
section
variable {X : Cx} {K : PySem.W.Frag}
/-! ### isinstance(x, T), T one of int, bool, str, tuple, list -/
inductive Ty5 where
  | int | bool | str | tup | lst
def Ty5.nm : Ty5 → String
  | .int => "int" | .bool => "bool" | .str => "str" | .tup => "tuple" | .lst => "list"
def isTy (T : Ty5) (w : W) (S : Sto) : Option PyData := match datW S w with
  | some .none => some (.bool false)
  | some (.bool _) => some (.bool (match T with | .int => true | .bool => true | _ => false))
  | some (.int _) => some (.bool (match T with | .int => true | _ => false))
  | some (.str _) => some (.bool (match T with | .str => true | _ => false))
  | some (.tuple _) => some (.bool (match T with | .tup => true | _ => false))
  | some (.list _) => some (.bool (match T with | .lst => true | _ => false))
  | _ => none
theorem tyx_tup {H : Hp} {a : Addr} {vs : List V} (h : SqT K H a vs) : TyX K H (.ref a) (.type "tuple") := by
  rcases h with (h | ⟨o, h⟩) | ⟨o, its, n, h, c, _⟩
  · exact .base (.tup h)
  · exact .fTuple h
  · exact .kTuple h c
theorem isTy_ok {F R H : Hp} {μ : List Addr} {S : Sto} {T : Ty5} {w : W} {v : V} {z : PyData} (l : Lk K F R μ S H) (r : RepW K F μ w v) (e : isTy T w S = some z) : ∃ t b, TyX K H v t ∧ PySem.W.kitOne K t (.type T.nm) = some b ∧ z = .bool b := by
  have atom : ∀ {d : PyData}, datW S w = some d → (∀ ds, d ≠ .list ds) → RepD K F d v := fun {d} q nl => by
    cases w with
    | d y => cases q; exact r
    | r n =>
      simp only [datW] at q
      split at q <;> simp at q
      exact absurd q.symm (nl _)
  unfold isTy at e
  split at e
  · rename_i h
    cases atom h (by simp)
    cases e
    refine ⟨_, false, .base .non, kit_ty ?_, rfl⟩
    cases T <;> decide +kernel
  · rename_i h
    cases atom h (by simp)
    cases e
    refine ⟨_, _, .base (.bl _), kit_ty ?_, rfl⟩
    cases T <;> decide +kernel
  · rename_i h
    cases atom h (by simp)
    cases e
    refine ⟨_, _, .base (.int _), kit_ty ?_, rfl⟩
    cases T <;> decide +kernel
  · rename_i h
    cases atom h (by simp)
    cases e
    refine ⟨_, _, .base (.str _), kit_ty ?_, rfl⟩
    cases T <;> decide +kernel
  · rename_i h
    obtain ⟨a, vs, rfl, h1, _⟩ := atom h (by simp)
    cases e
    refine ⟨_, _, tyx_tup (SqT.mono l.le h1), kit_ty ?_, rfl⟩
    cases T <;> decide +kernel
  · rename_i xs h
    cases e
    have g : getL S w = some xs := by
      cases w with
      | d y => cases h; rfl
      | r n =>
        simp only [datW] at h
        simp only [getL]
        split at h <;> simp at h
        subst h
        rfl
    obtain ⟨a, vs, rfl, h1, _⟩ := lk_getL l r g
    refine ⟨_, _, .base (.lst h1), kit_ty ?_, rfl⟩
    cases T <;> decide +kernel
  · cases e
def mIs (T : Ty5) (a : ME) : ME := mUn (isTy T) a
theorem se_is (T : Ty5) {a : Expr} {ma : ME} {p p2 pos : Pos} {x y : Str} (hg : Gl X x) (hm : X.mg x = none) (hv : bootBuiltins x = some (.builtin "isinstance")) (ha : SimE X a ma)
    (hg2 : Gl X y) (hm2 : X.mg y = none) (hv2 : bootBuiltins y = some (.type T.nm))
    (hn : x ≠ "__name__" := by decide) (hdb : (x == ("__debug__" : Str)) = false := by decide) (hn2 : y ≠ "__name__" := by decide) (hdb2 : (y == ("__debug__" : Str)) = false := by decide)
    (he : starEach [a, .Name y p2] X.env = (false, eval a X.env) :: starEach [.Name y p2] X.env := by rfl) (hpl : (backTo pos (starEach [.Name y p2] X.env)).any (·.1) = false := by rfl)
    (he2 : starEach [.Name y p2] X.env = (false, eval (.Name y p2) X.env) :: starEach [] X.env := by rfl) :
    SimE X (.Call (.Name x p) [a, .Name y p2] [] pos) (mIs T ma) := by
  refine pe_imp (pe_callB call_isi hg hm hv (pa_cons ha (pa_cons (pe_bltn (v := .ty T.nm) hg2 hm2 hv2 rfl hn2 hdb2) pa_nil he2) he) hn hdb he hpl) fun σ H Q q => ?_
  obtain ⟨F, R, μ, env, S, w, S', sl, l, e, k⟩ := q
  simp only [mIs, mUn, Option.bind_eq_some_iff, Option.map_eq_some_iff] at e
  obtain ⟨⟨x, S1⟩, e1, z, e2, e3⟩ := e
  cases e3
  refine ⟨F, R, μ, env, S, x, S1, sl, l, e1, fun F1 μ1 v H1 x1 l1 r1 => ?_⟩
  obtain ⟨t, b, ty, kt, rfl⟩ := isTy_ok l1 r1 e2
  exact ⟨v, .ty T.nm, t, .type T.nm, b, rfl, .ty _, ty, kt, k F1 μ1 _ H1 x1 l1 rfl⟩
/-! ### tests -/
def mB (m : ME) : MT := fun env S => (m env S).bind fun p => match p.1 with
  | .d (.bool b) => some (b, p.2)
  | _ => none
theorem tB_of {m : ME} (σ : L2.St) (H : Hp) (Q : Bool → Hp → Prop) (q : tT K (mB m) σ H Q) : tE K m σ H fun x H1 => ∃ c, x = .bl c ∧ Q c H1 := by
  obtain ⟨F, R, μ, env, S, b, S', sl, l, e, k⟩ := q
  simp only [mB, Option.bind_eq_some_iff] at e
  obtain ⟨⟨x, S1⟩, e1, e2⟩ := e
  refine ⟨F, R, μ, env, S, x, S1, sl, l, e1, fun F1 μ1 v H1 x1 l1 r1 => ?_⟩
  split at e2 <;> simp at e2
  rename_i c hx
  simp only at hx
  subst hx
  obtain ⟨rfl, rfl⟩ := e2
  cases r1
  exact ⟨c, rfl, k F1 μ1 H1 x1 l1⟩
theorem st_val {e : Expr} {m : ME} (h : SimE X e m) (he : ∀ whole, isTrue e X.env whole = (do let v ← whole; standAt e.pos; holding [v] (truthy v)) := by intro _; rfl) : SimT X e (mB m) := pt_imp (pt_val h he) tB_of
theorem st_cmp {a b : Expr} {ma mb : ME} {pos : Pos} {op : CmpOp} {r : R2} {f : W → W → Sto → Option PyData} (ho : OpR X (compareOp op) r) (h : OpS X.K r f) (ha : SimE X a ma) (hb : SimE X b mb) (hm : behindInMarks op b = false) : SimT X (.Compare a [op] [b] pos) (mB (mBin f ma mb)) :=
  pt_imp (pt_cmpR ho ha hb hm) fun σ H Q q => tOp_of h σ H _ (tB_of σ H Q q)
/-- a op b op2 c -/
def mChain (f g : W → W → Sto → Option PyData) (a b c : ME) : ME := fun env S => (a env S).bind fun p => (b env p.2).bind fun q => (f p.1 q.1 q.2).bind fun z => match z with
  | .bool true => (c env q.2).bind fun r => (g q.1 r.1 r.2).map fun y => (.d y, r.2)
  | .bool false => some (.d (.bool false), q.2)
  | _ => none
theorem tChain_of {a b c : Expr} {ma mb mc : ME} {r r' : R2} {f g : W → W → Sto → Option PyData} (h : OpS K r f) (h' : OpS K r' g) (σ : L2.St) (H : Hp) (Q : VK) (q : tE K (mChain f g ma mb mc) σ H Q) : tChain r r' (tE K ma) (tE K mb) (tE K mc) σ H Q := by
  obtain ⟨F, R, μ, env, S, w, S', sl, l, e, k⟩ := q
  simp only [mChain, Option.bind_eq_some_iff] at e
  obtain ⟨⟨x, S1⟩, e1, ⟨y, S2⟩, e2, z, e3, e4⟩ := e
  refine ⟨F, R, μ, env, S, x, S1, sl, l, e1, fun F1 μ1 v H1 x1 l1 r1 => ?_⟩
  refine ⟨F1, R, μ1, env, S1, y, S2, sl.mono x1, l1, e2, fun F2 μ2 u H2 x2 l2 r2 => ?_⟩
  refine h F2 R μ2 S2 H2 x y v u z _ l2 (r1.mono x2) r2 e3 fun F3 v' H3 x3 l3 r3 => ?_
  split at e4
  · cases r3
    refine ⟨true, rfl, ?_⟩
    rw [if_pos rfl]
    simp only [Option.bind_eq_some_iff, Option.map_eq_some_iff] at e4
    obtain ⟨⟨w4, S4⟩, e4, y4, e5, e6⟩ := e4
    cases e6
    refine ⟨F3, R, μ2, env, S2, w4, S4, sl.mono ((x1.trans x2).trans x3), l3, e4, fun F4 μ4 t H4 x4 l4 r4 => ?_⟩
    exact h' F4 R μ4 S4 H4 y w4 u t y4 Q l4 (r2.mono (x3.trans x4)) r4 e5 fun F5 v5 H5 x5 l5 r5 => k F5 μ4 v5 H5 ((((x1.trans x2).trans x3).trans x4).trans x5) l5 r5
  · cases e4
    cases r3
    refine ⟨false, rfl, ?_⟩
    rw [if_neg Bool.false_ne_true]
    exact k F3 μ2 _ H3 ((x1.trans x2).trans x3) l3 rfl
  · cases e4
theorem se_chain {a b c : Expr} {ma mb mc : ME} {pos : Pos} {op op' : CmpOp} {r r' : R2} {f g : W → W → Sto → Option PyData} (ho : OpR X (compareOp op) r) (h : OpS X.K r f) (ho' : OpR X (compareOp op') r') (h' : OpS X.K r' g)
    (ha : SimE X a ma) (hb : SimE X b mb) (hc : SimE X c mc) (hm : lastMarks [op, op'] [b, c] = false := by with_unfolding_all rfl) : SimE X (.Compare a [op, op'] [b, c] pos) (mChain f g ma mb mc) :=
  pe_imp (pe_chain ho ho' ha hb hc hm) (tChain_of (a := a) (b := b) (c := c) h h')
theorem st_chain {a b c : Expr} {ma mb mc : ME} {pos : Pos} {op op' : CmpOp} {r r' : R2} {f g : W → W → Sto → Option PyData} (ho : OpR X (compareOp op) r) (h : OpS X.K r f) (ho' : OpR X (compareOp op') r') (h' : OpS X.K r' g)
    (ha : SimE X a ma) (hb : SimE X b mb) (hc : SimE X c mc) (hm : lastMarks [op, op'] [b, c] = false := by with_unfolding_all rfl) : SimT X (.Compare a [op, op'] [b, c] pos) (mB (mChain f g ma mb mc)) :=
  pt_imp (pt_chain ho ho' ha hb hc hm) fun σ H Q q => tChain_of (a := a) (b := b) (c := c) h h' σ H _ (tB_of σ H Q q)
def mAnd (a b : MT) : MT := fun env S => (a env S).bind fun p => if p.1 = true then b env p.2 else some (false, p.2)
def mOr (a b : MT) : MT := fun env S => (a env S).bind fun p => if p.1 = true then some (true, p.2) else b env p.2
def mNot (a : MT) : MT := fun env S => (a env S).map fun p => (!p.1, p.2)
theorem sw_and1 {a : Expr} {m : MT} {pos : Pos} (h : SimT X a m) : SimW X (.BoolOp .And [a] pos) m := pw_and1 h
theorem sw_or1 {a : Expr} {m : MT} {pos : Pos} (h : SimT X a m) : SimW X (.BoolOp .Or [a] pos) m := pw_or1 h
theorem sw_and {a b : Expr} {rest : List Expr} {m n : MT} {pos : Pos} (h : SimT X a m) (h2 : SimW X (.BoolOp .And (b :: rest) pos) n) : SimW X (.BoolOp .And (a :: b :: rest) pos) (mAnd m n) := by
  refine pw_imp (pw_and h h2) fun σ H Q q => ?_
  obtain ⟨F, R, μ, env, S, b, S', sl, l, e, k⟩ := q
  simp only [mAnd, Option.bind_eq_some_iff] at e
  obtain ⟨⟨c, S1⟩, e1, e2⟩ := e
  refine ⟨F, R, μ, env, S, c, S1, sl, l, e1, fun F1 μ1 H1 x1 l1 => ?_⟩
  cases c with
  | true => exact iteT ⟨F1, R, μ1, env, S1, b, S', sl.mono x1, l1, by simpa using e2, fun F2 μ2 H2 x2 l2 => k F2 μ2 H2 (x1.trans x2) l2⟩
  | false =>
    simp at e2
    obtain ⟨rfl, rfl⟩ := e2
    exact iteF (k F1 μ1 H1 x1 l1)
theorem sw_or {a b : Expr} {rest : List Expr} {m n : MT} {pos : Pos} (h : SimT X a m) (h2 : SimW X (.BoolOp .Or (b :: rest) pos) n) : SimW X (.BoolOp .Or (a :: b :: rest) pos) (mOr m n) := by
  refine pw_imp (pw_or h h2) fun σ H Q q => ?_
  obtain ⟨F, R, μ, env, S, b, S', sl, l, e, k⟩ := q
  simp only [mOr, Option.bind_eq_some_iff] at e
  obtain ⟨⟨c, S1⟩, e1, e2⟩ := e
  refine ⟨F, R, μ, env, S, c, S1, sl, l, e1, fun F1 μ1 H1 x1 l1 => ?_⟩
  cases c with
  | false => exact iteF ⟨F1, R, μ1, env, S1, b, S', sl.mono x1, l1, by simpa using e2, fun F2 μ2 H2 x2 l2 => k F2 μ2 H2 (x1.trans x2) l2⟩
  | true =>
    simp at e2
    obtain ⟨rfl, rfl⟩ := e2
    exact iteT (k F1 μ1 H1 x1 l1)
theorem sw_t {e : Expr} {m : MT} (h : SimW X e m) : SimT X e m := PW.pt h
theorem st_not {a : Expr} {m : MT} {pos : Pos} (h : SimT X a m) : SimT X (.UnaryOp .Not a pos) (mNot m) := by
  refine pt_imp (pt_not h) fun σ H Q q => ?_
  obtain ⟨F, R, μ, env, S, b, S', sl, l, e, k⟩ := q
  simp only [mNot, Option.map_eq_some_iff] at e
  obtain ⟨⟨c, S1⟩, e1, e2⟩ := e
  cases e2
  exact ⟨F, R, μ, env, S, c, S1, sl, l, e1, fun F1 μ1 H1 x1 l1 => k F1 μ1 H1 x1 l1⟩
/-- as values: all but the last a truth -/
def mAndV (a b : ME) : ME := fun env S => (a env S).bind fun p => match p.1 with
  | .d (.bool true) => b env p.2
  | .d (.bool false) => some (.d (.bool false), p.2)
  | _ => none
def mOrV (a b : ME) : ME := fun env S => (a env S).bind fun p => match p.1 with
  | .d (.bool false) => b env p.2
  | .d (.bool true) => some (.d (.bool true), p.2)
  | _ => none
def notB (w : W) (_ : Sto) : Option PyData := match w with
  | .d (.bool b) => some (.bool (!b))
  | _ => none
theorem se_one {op : BoolOp} {a : Expr} {m : ME} {pos : Pos} (h : SimE X a m) : SimE X (.BoolOp op [a] pos) m := pe_one h
theorem se_and {a b : Expr} {rest : List Expr} {m n : ME} {pos : Pos} (h : SimE X a m) (h2 : SimE X (.BoolOp .And (b :: rest) pos) n) : SimE X (.BoolOp .And (a :: b :: rest) pos) (mAndV m n) := by
  refine pe_imp (pe_and h h2) fun σ H Q q => ?_
  obtain ⟨F, R, μ, env, S, b, S', sl, l, e, k⟩ := q
  simp only [mAndV, Option.bind_eq_some_iff] at e
  obtain ⟨⟨c, S1⟩, e1, e2⟩ := e
  refine ⟨F, R, μ, env, S, c, S1, sl, l, e1, fun F1 μ1 v H1 x1 l1 r1 => ?_⟩
  split at e2
  · rename_i hx
    simp only at hx
    subst hx
    cases r1
    exact ⟨true, rfl, iteT ⟨F1, R, μ1, env, S1, b, S', sl.mono x1, l1, e2, fun F2 μ2 v H2 x2 l2 r2 => k F2 μ2 v H2 (x1.trans x2) l2 r2⟩⟩
  · rename_i hx
    simp only at hx
    subst hx
    cases e2
    cases r1
    exact ⟨false, rfl, iteF (k F1 μ1 _ H1 x1 l1 rfl)⟩
  · cases e2
theorem se_or {a b : Expr} {rest : List Expr} {m n : ME} {pos : Pos} (h : SimE X a m) (h2 : SimE X (.BoolOp .Or (b :: rest) pos) n) : SimE X (.BoolOp .Or (a :: b :: rest) pos) (mOrV m n) := by
  refine pe_imp (pe_or h h2) fun σ H Q q => ?_
  obtain ⟨F, R, μ, env, S, b, S', sl, l, e, k⟩ := q
  simp only [mOrV, Option.bind_eq_some_iff] at e
  obtain ⟨⟨c, S1⟩, e1, e2⟩ := e
  refine ⟨F, R, μ, env, S, c, S1, sl, l, e1, fun F1 μ1 v H1 x1 l1 r1 => ?_⟩
  split at e2
  · rename_i hx
    simp only at hx
    subst hx
    cases r1
    exact ⟨false, rfl, iteF ⟨F1, R, μ1, env, S1, b, S', sl.mono x1, l1, e2, fun F2 μ2 v H2 x2 l2 r2 => k F2 μ2 v H2 (x1.trans x2) l2 r2⟩⟩
  · rename_i hx
    simp only at hx
    subst hx
    cases e2
    cases r1
    exact ⟨true, rfl, iteT (k F1 μ1 _ H1 x1 l1 rfl)⟩
  · cases e2
theorem se_notV {a : Expr} {m : ME} {pos : Pos} (h : SimE X a m) : SimE X (.UnaryOp .Not a pos) (mUn notB m) := by
  refine pe_imp (pe_not h) fun σ H Q q => ?_
  obtain ⟨F, R, μ, env, S, b, S', sl, l, e, k⟩ := q
  simp only [mUn, Option.bind_eq_some_iff, Option.map_eq_some_iff] at e
  obtain ⟨⟨c, S1⟩, e1, z, e2, e3⟩ := e
  cases e3
  refine ⟨F, R, μ, env, S, c, S1, sl, l, e1, fun F1 μ1 v H1 x1 l1 r1 => ?_⟩
  unfold notB at e2
  split at e2 <;> simp at e2
  rename_i hx
  simp only at hx
  subst hx e2
  cases r1
  exact ⟨_, rfl, k F1 μ1 _ H1 x1 l1 rfl⟩
def mIf (t : MT) (a b : ME) : ME := fun env S => (t env S).bind fun p => if p.1 = true then a env p.2 else b env p.2
theorem se_if {c a b : Expr} {t : MT} {ma mb : ME} {pos : Pos} (hc : SimT X c t) (ha : SimE X a ma) (hb : SimE X b mb) : SimE X (.IfExp c a b pos) (mIf t ma mb) := by
  refine pe_imp (pe_ifExp hc ha hb) fun σ H Q q => ?_
  obtain ⟨F, R, μ, env, S, b, S', sl, l, e, k⟩ := q
  simp only [mIf, Option.bind_eq_some_iff] at e
  obtain ⟨⟨c, S1⟩, e1, e2⟩ := e
  refine ⟨F, R, μ, env, S, c, S1, sl, l, e1, fun F1 μ1 H1 x1 l1 => ?_⟩
  cases c with
  | true => exact iteT ⟨F1, R, μ1, env, S1, b, S', sl.mono x1, l1, by simpa using e2, fun F2 μ2 v H2 x2 l2 r2 => k F2 μ2 v H2 (x1.trans x2) l2 r2⟩
  | false => exact iteF ⟨F1, R, μ1, env, S1, b, S', sl.mono x1, l1, by simpa using e2, fun F2 μ2 v H2 x2 l2 r2 => k F2 μ2 v H2 (x1.trans x2) l2 r2⟩
/-! ### statements -/
def FlP (K : PySem.W.Frag) (F : Hp) (μ : List Addr) (D : Ends) (H : Hp) : Fl → Prop
  | .nx env => ∀ σ, SlR K F μ env σ → D.nx σ H
  | .rt w => ∀ v, RepW K F μ w v → D.rt v H
  | .bk env => ∀ σ, SlR K F μ env σ → D.bk σ H
  | .ct env => ∀ σ, SlR K F μ env σ → D.ct σ H
def tS (K : PySem.W.Frag) (m : MS) : TS := fun D σ H => ∃ F R μ env S fl S', SlR K F μ env σ ∧ Lk K F R μ S H ∧ m env S = some (fl, S') ∧ ∀ F' μ' H', Ext F μ F' μ' → Lk K F' R μ' S' H' → FlP K F' μ' D H' fl
def SimS (X : Cx) (st : Stmt) (m : MS) : Prop := PS X st (tS X.K m)
def SimSs (X : Cx) (sts : List Stmt) (m : MS) : Prop := PSs X sts (tS X.K m)
def mSkip : MS := fun env S => some (.nx env, S)
def mSeq (a b : MS) : MS := fun env S => (a env S).bind fun p => match p.1 with
  | .nx env' => b env' p.2
  | fl => some (fl, p.2)
theorem ss_nil : SimSs X [] mSkip := by
  refine pss_imp pss_nil fun D σ H q => ?_
  obtain ⟨F, R, μ, env, S, fl, S', sl, l, e, k⟩ := q
  simp [mSkip] at e
  obtain ⟨rfl, rfl⟩ := e
  exact k F μ H (.refl _ _) l σ sl
theorem tSeq_of {a b : MS} (D : Ends) (σ : L2.St) (H : Hp) (q : tS K (mSeq a b) D σ H) : tSeq (tS K a) (tS K b) D σ H := by
  obtain ⟨F, R, μ, env, S, fl, S', sl, l, e, k⟩ := q
  simp only [mSeq, Option.bind_eq_some_iff] at e
  obtain ⟨⟨fl1, S1⟩, e1, e2⟩ := e
  refine ⟨F, R, μ, env, S, fl1, S1, sl, l, e1, fun F1 μ1 H1 x1 l1 => ?_⟩
  cases fl1 with
  | nx env' => exact fun σ' sl' => ⟨F1, R, μ1, env', S1, fl, S', sl', l1, e2, fun F2 μ2 H2 x2 l2 => k F2 μ2 H2 (x1.trans x2) l2⟩
  | rt w => simp at e2; obtain ⟨rfl, rfl⟩ := e2; exact k F1 μ1 H1 x1 l1
  | bk w => simp at e2; obtain ⟨rfl, rfl⟩ := e2; exact k F1 μ1 H1 x1 l1
  | ct w => simp at e2; obtain ⟨rfl, rfl⟩ := e2; exact k F1 μ1 H1 x1 l1
theorem ss_cons {st : Stmt} {rest : List Stmt} {a b : MS} (h : SimS X st a) (h2 : SimSs X rest b) : SimSs X (st :: rest) (mSeq a b) := pss_imp (pss_cons h h2) tSeq_of
theorem ss_one {st : Stmt} {a : MS} (h : SimS X st a) : SimSs X [st] a := pss_one h
def mAsg (i : Nat) (m : ME) : MS := fun env S => (m env S).map fun p => (.nx (env.set i (some p.1)), p.2)
theorem tSet_of {i : Nat} {m : ME} (D : Ends) (σ : L2.St) (H : Hp) (q : tS K (mAsg i m) D σ H) : tAsg (tE K m) (gName i) D σ H := by
  obtain ⟨F, R, μ, env, S, fl, S', sl, l, e, k⟩ := q
  simp only [mAsg, Option.map_eq_some_iff] at e
  obtain ⟨⟨x, S1⟩, e1, e2⟩ := e
  cases e2
  exact ⟨F, R, μ, env, S, x, S1, sl, l, e1, fun F1 μ1 v H1 x1 l1 r1 => k F1 μ1 H1 x1 l1 _ ((sl.mono x1).set r1 i)⟩
theorem ss_set (i : Nat) {x : Str} {e : Expr} {m : ME} {pos pos' : Pos} (hN : X.N.Nodup) (hi : X.N[i]? = some x) (hx : Loc X.env.scope x) (he : SimE X e m) (hs : swapsWith e (some (.Name x pos')) pos.line X.env = pure false := by rfl)
    (hf : X.fn x = true ∨ X.env.scope.names.lookup x = some .local := by first | exact .inl rfl | exact .inr rfl | assumption) : SimS X (.Assign [.Name x pos'] e pos) (mAsg i m) := ps_imp (ps_set hN hi hx he hs hf) tSet_of
def mExpr (m : ME) : MS := fun env S => (m env S).map fun p => (.nx env, p.2)
theorem ss_expr {e : Expr} {m : ME} {pos : Pos} (he : SimE X e m) (hs : swapsWith e none pos.line X.env = pure false := by rfl) : SimS X (.Expr e pos) (mExpr m) := by
  refine ps_imp (ps_expr he hs) fun D σ H q => ?_
  obtain ⟨F, R, μ, env, S, fl, S', sl, l, e, k⟩ := q
  simp only [mExpr, Option.map_eq_some_iff] at e
  obtain ⟨⟨x, S1⟩, e1, e2⟩ := e
  cases e2
  exact ⟨F, R, μ, env, S, x, S1, sl, l, e1, fun F1 μ1 v H1 x1 l1 r1 => k F1 μ1 H1 x1 l1 _ (sl.mono x1)⟩
def mRet (m : ME) : MS := fun env S => (m env S).map fun p => (.rt p.1, p.2)
theorem ss_ret {e : Expr} {m : ME} {pos : Pos} (he : SimE X e m) : SimS X (.Return (some e) pos) (mRet m) := by
  refine ps_imp (ps_ret he) fun D σ H q => ?_
  obtain ⟨F, R, μ, env, S, fl, S', sl, l, e, k⟩ := q
  simp only [mRet, Option.map_eq_some_iff] at e
  obtain ⟨⟨x, S1⟩, e1, e2⟩ := e
  cases e2
  exact ⟨F, R, μ, env, S, x, S1, sl, l, e1, fun F1 μ1 v H1 x1 l1 r1 => k F1 μ1 H1 x1 l1 _ r1⟩
def mIfS (t : MT) (a b : MS) : MS := fun env S => (t env S).bind fun p => if p.1 = true then a env p.2 else b env p.2
theorem ss_if {c : Expr} {a b : List Stmt} {t : MT} {ma mb : MS} {pos : Pos} (hc : SimT X c t) (ha : SimSs X a ma) (hb : SimSs X b mb) : SimS X (.If c a b pos) (mIfS t ma mb) := by
  refine ps_imp (ps_if hc ha hb) fun D σ H q => ?_
  obtain ⟨F, R, μ, env, S, fl, S', sl, l, e, k⟩ := q
  simp only [mIfS, Option.bind_eq_some_iff] at e
  obtain ⟨⟨c, S1⟩, e1, e2⟩ := e
  refine ⟨F, R, μ, env, S, c, S1, sl, l, e1, fun F1 μ1 H1 x1 l1 => ?_⟩
  cases c with
  | true => exact iteT ⟨F1, R, μ1, env, S1, fl, S', sl.mono x1, l1, by simpa using e2, fun F2 μ2 H2 x2 l2 => k F2 μ2 H2 (x1.trans x2) l2⟩
  | false => exact iteF ⟨F1, R, μ1, env, S1, fl, S', sl.mono x1, l1, by simpa using e2, fun F2 μ2 H2 x2 l2 => k F2 μ2 H2 (x1.trans x2) l2⟩
def mNever : MS := fun _ _ => none
theorem ss_never {st : Stmt} : SimS X st mNever := ps_imp ps_never fun D σ H q => by
  obtain ⟨F, R, μ, env, S, fl, S', sl, l, e, k⟩ := q
  simp [mNever] at e
def mBreak : MS := fun env S => some (.bk env, S)
def mCont : MS := fun env S => some (.ct env, S)
theorem ss_break {pos : Pos} : SimS X (.Break pos) mBreak := by
  refine ps_imp ps_break fun D σ H q => ?_
  obtain ⟨F, R, μ, env, S, fl, S', sl, l, e, k⟩ := q
  simp [mBreak] at e
  obtain ⟨rfl, rfl⟩ := e
  exact k F μ H (.refl _ _) l σ sl
theorem ss_cont {pos : Pos} : SimS X (.Continue pos) mCont := by
  refine ps_imp ps_continue fun D σ H q => ?_
  obtain ⟨F, R, μ, env, S, fl, S', sl, l, e, k⟩ := q
  simp [mCont] at e
  obtain ⟨rfl, rfl⟩ := e
  exact k F μ H (.refl _ _) l σ sl
theorem ss_pass {pos : Pos} : SimS X (.Pass pos) mSkip := by
  refine ps_imp ps_pass fun D σ H q => ?_
  obtain ⟨F, R, μ, env, S, fl, S', sl, l, e, k⟩ := q
  simp [mSkip] at e
  obtain ⟨rfl, rfl⟩ := e
  exact k F μ H (.refl _ _) l σ sl
/-! x += e (ints) -/
def mAug (i : Nat) (f : W → W → Sto → Option PyData) (m : ME) : MS := fun env S => match env[i]? with
  | some (some w) => (m env S).bind fun p => (f w p.1 p.2).map fun z => (.nx (env.set i (some (.d z))), p.2)
  | _ => none
theorem ss_augAdd (i : Nat) {x : Str} {e : Expr} {m : ME} {px pos : Pos} (hN : X.N.Nodup) (hi : X.N[i]? = some x) (hx : Loc X.env.scope x) (he : SimE X e m)
    (h : PS X (.AugAssign (.Name x px) .Add e pos) (tAug i (tE X.K m) (ipI fun i j => i + j))) : SimS X (.AugAssign (.Name x px) .Add e pos) (mAug i (intOp fun i j => some (i + j)) m) := by
  refine ps_imp h fun D σ H q => ?_
  obtain ⟨F, R, μ, env, S, fl, S', sl, l, e, k⟩ := q
  simp only [mAug] at e
  split at e
  · rename_i w hw
    simp only [Option.bind_eq_some_iff, Option.map_eq_some_iff] at e
    obtain ⟨⟨y, S1⟩, e1, z, e2, e3⟩ := e
    cases e3
    obtain ⟨v, h1, h2⟩ := sl.at hw
    refine ⟨v, h1, F, R, μ, env, S, y, S1, sl, l, e1, fun F1 μ1 u H1 x1 l1 r1 => ?_⟩
    unfold intOp at e2
    split at e2 <;> simp at e2
    rename_i hx
    simp only at hx
    subst hx e2
    have h2' := h2.mono x1
    cases h2'; cases r1
    exact ⟨_, _, rfl, rfl, k F1 μ1 H1 x1 l1 _ ((sl.mono x1).set (show RepW X.K F1 μ1 (.d (.int _)) (.int _) from rfl) i)⟩
  · cases e
end
/-! Sim, part F: loops, comprehensions, targets, changes of lists. -/
section
/-! ### while -/
def wF (c : MT) (b : MS) : Nat → MS
  | 0 => fun _ _ => none
  | n + 1 => fun env S => (c env S).bind fun p => if p.1 = true then (b env p.2).bind fun q => match q.1 with
      | .nx e => wF c b n e q.2
      | .ct e => wF c b n e q.2
      | .bk e => some (.nx e, q.2)
      | .rt w => some (.rt w, q.2)
    else some (.nx env, p.2)
theorem wF_succ {c : MT} {b : MS} : ∀ (n : Nat) (env : Sl) (S : Sto) (r : Fl × Sto), wF c b n env S = some r → wF c b (n + 1) env S = some r
  | 0, _, _, _, h => by simp [wF] at h
  | n + 1, env, S, r, h => by
    rw [wF] at h ⊢
    simp only [Option.bind_eq_some_iff] at h ⊢
    obtain ⟨p, h1, h2⟩ := h
    refine ⟨p, h1, ?_⟩
    split at h2
    · rename_i hp
      rw [if_pos hp]
      simp only [Option.bind_eq_some_iff] at h2 ⊢
      obtain ⟨q, h3, h4⟩ := h2
      refine ⟨q, h3, ?_⟩
      obtain ⟨fl, S2⟩ := q
      cases fl with
      | nx e => exact wF_succ n _ _ _ h4
      | ct e => exact wF_succ n _ _ _ h4
      | bk e => exact h4
      | rt w => exact h4
    · rename_i hp
      rw [if_neg hp]
      exact h2
theorem wF_le {c : MT} {b : MS} {n m : Nat} (hm : n ≤ m) {env : Sl} {S : Sto} {r : Fl × Sto} (h : wF c b n env S = some r) : wF c b m env S = some r := by
  induction hm with
  | refl => exact h
  | step _ ih => exact wF_succ _ _ _ _ ih
open Classical in
noncomputable def mWhile (c : MT) (b : MS) : MS := fun env S => if h : ∃ n r, wF c b n env S = some r then some (Classical.choose (Classical.choose_spec h)) else none
theorem mWhile_iff {c : MT} {b : MS} {env : Sl} {S : Sto} {r : Fl × Sto} : mWhile c b env S = some r ↔ ∃ n, wF c b n env S = some r := by
  unfold mWhile
  constructor
  · intro h
    split at h
    · rename_i hx
      cases h
      exact ⟨_, Classical.choose_spec (Classical.choose_spec hx)⟩
    · cases h
  · rintro ⟨n, h⟩
    have hx : ∃ n r, wF c b n env S = some r := ⟨n, r, h⟩
    rw [dif_pos hx]
    have h2 := Classical.choose_spec (Classical.choose_spec hx)
    have a := wF_le (Nat.le_max_left n (Classical.choose hx)) h
    have b := wF_le (Nat.le_max_right n (Classical.choose hx)) h2
    rw [a] at b
    exact b.symm
theorem mWhile_eq (c : MT) (b : MS) (env : Sl) (S : Sto) : mWhile c b env S = (c env S).bind fun p => if p.1 = true then (b env p.2).bind fun q => match q.1 with
      | .nx e => mWhile c b e q.2
      | .ct e => mWhile c b e q.2
      | .bk e => some (.nx e, q.2)
      | .rt w => some (.rt w, q.2)
    else some (.nx env, p.2) := by
  apply Option.ext
  intro r
  rw [mWhile_iff]
  constructor
  · rintro ⟨n, h⟩
    cases n with
    | zero => simp [wF] at h
    | succ n =>
      rw [wF] at h
      simp only [Option.bind_eq_some_iff] at h ⊢
      obtain ⟨p, h1, h2⟩ := h
      refine ⟨p, h1, ?_⟩
      split at h2
      · rename_i hp
        rw [if_pos hp]
        simp only [Option.bind_eq_some_iff] at h2 ⊢
        obtain ⟨q, h3, h4⟩ := h2
        refine ⟨q, h3, ?_⟩
        obtain ⟨fl, S2⟩ := q
        cases fl with
        | nx e => exact mWhile_iff.mpr ⟨n, h4⟩
        | ct e => exact mWhile_iff.mpr ⟨n, h4⟩
        | bk e => exact h4
        | rt w => exact h4
      · rename_i hp
        rw [if_neg hp]
        exact h2
  · intro h
    simp only [Option.bind_eq_some_iff] at h
    obtain ⟨p, h1, h2⟩ := h
    split at h2
    · rename_i hp
      simp only [Option.bind_eq_some_iff] at h2
      obtain ⟨q, h3, h4⟩ := h2
      have fin : ∀ n, (match q.1 with
          | .nx e => wF c b n e q.2
          | .ct e => wF c b n e q.2
          | .bk e => some (.nx e, q.2)
          | .rt w => some (.rt w, q.2)) = some r → ∃ n, wF c b n env S = some r := fun n h5 => by
        refine ⟨n + 1, ?_⟩
        rw [wF]
        simp only [Option.bind_eq_some_iff]
        refine ⟨p, h1, ?_⟩
        rw [if_pos hp]
        simp only [Option.bind_eq_some_iff]
        exact ⟨q, h3, h5⟩
      obtain ⟨fl, S2⟩ := q
      cases fl with
      | nx e => obtain ⟨n, h5⟩ := mWhile_iff.mp h4; exact fin n h5
      | ct e => obtain ⟨n, h5⟩ := mWhile_iff.mp h4; exact fin n h5
      | bk e => exact fin 0 h4
      | rt w => exact fin 0 h4
    · rename_i hp
      refine ⟨1, ?_⟩
      rw [wF]
      simp only [Option.bind_eq_some_iff]
      exact ⟨p, h1, by rw [if_neg hp]; exact h2⟩
variable {X : Cx} {K : PySem.W.Frag}
theorem tWhile_of {c : MT} {b : MS} (D : Ends) (σ : L2.St) (H : Hp) (q : tS K (mWhile c b) D σ H) : tWhile (tT K c) (tS K b) D σ H := by
  obtain ⟨F, R, μ, env, S, fl, S', sl, l, e, k⟩ := q
  obtain ⟨n, e⟩ := mWhile_iff.mp e
  refine ⟨fun m σ H => ∃ F R μ env S fl S', SlR K F μ env σ ∧ Lk K F R μ S H ∧ wF c b m env S = some (fl, S') ∧ ∀ F' μ' H', Ext F μ F' μ' → Lk K F' R μ' S' H' → FlP K F' μ' D H' fl, ⟨n, F, R, μ, env, S, fl, S', sl, l, e, k⟩, ?_⟩
  rintro m σ H ⟨F, R, μ, env, S, fl, S', sl, l, e, k⟩
  cases m with
  | zero => simp [wF] at e
  | succ m =>
    rw [wF] at e
    simp only [Option.bind_eq_some_iff] at e
    obtain ⟨⟨p, S1⟩, e1, e2⟩ := e
    refine ⟨F, R, μ, env, S, p, S1, sl, l, e1, fun F1 μ1 H1 x1 l1 => ?_⟩
    cases p with
    | false =>
      simp at e2
      obtain ⟨rfl, rfl⟩ := e2
      exact iteF (k F1 μ1 H1 x1 l1 σ (sl.mono x1))
    | true =>
      simp only [if_true, Option.bind_eq_some_iff] at e2
      obtain ⟨⟨fl2, S2⟩, e3, e4⟩ := e2
      refine iteT ⟨fun σ' H' => ∃ F R μ env S fl S', SlR K F μ env σ' ∧ Lk K F R μ S H' ∧ wF c b m env S = some (fl, S') ∧ ∀ F' μ' H', Ext F μ F' μ' → Lk K F' R μ' S' H' → FlP K F' μ' D H' fl, fun σ' H' h => ⟨m, Nat.lt_succ_self m, h⟩, ?_⟩
      refine ⟨F1, R, μ1, env, S1, fl2, S2, sl.mono x1, l1, e3, fun F2 μ2 H2 x2 l2 => ?_⟩
      cases fl2 with
      | nx env' => exact fun σ' sl' => ⟨F2, R, μ2, env', S2, fl, S', sl', l2, e4, fun F3 μ3 H3 x3 l3 => k F3 μ3 H3 ((x1.trans x2).trans x3) l3⟩
      | ct env' => exact fun σ' sl' => ⟨F2, R, μ2, env', S2, fl, S', sl', l2, e4, fun F3 μ3 H3 x3 l3 => k F3 μ3 H3 ((x1.trans x2).trans x3) l3⟩
      | bk env' =>
        simp at e4
        obtain ⟨rfl, rfl⟩ := e4
        exact fun σ' sl' => k F2 μ2 H2 (x1.trans x2) l2 σ' sl'
      | rt w =>
        simp at e4
        obtain ⟨rfl, rfl⟩ := e4
        exact fun v rv => k F2 μ2 H2 (x1.trans x2) l2 v rv
theorem ss_while {c : Expr} {body : List Stmt} {t : MT} {b : MS} {pos : Pos} (hp : PassesOwn (model X.prog X.w) X.A X.env X.xe) (hc : SimT X c t) (hb : SimSs X body b) : SimS X (.While c body [] pos) (mWhile t b) := ps_imp (ps_while hp hc hb) tWhile_of
/-! ### targets -/
/-- σ' is σ but for the slots is -/
def Sets (is : List Nat) (σ σ' : L2.St) : Prop := ∀ vs : List Nat, (∀ i ∈ is, i ∈ vs) → wipe σ' vs = wipe σ vs
theorem wipe_get (σ : L2.St) (i : Nat) : ∀ vs : List Nat, (wipe σ vs)[i]? = if i ∈ vs then σ[i]?.map fun _ => none else σ[i]?
  | [] => by simp [wipe]
  | v :: vs => by
    unfold wipe
    by_cases h : v = i
    · subst h
      rw [if_pos (by simp)]
      by_cases hl : v < σ.length
      · rw [List.getElem?_set_self (by rw [wipe_length]; exact hl), List.getElem?_eq_getElem hl]; rfl
      · rw [List.getElem?_eq_none (by simp [wipe_length]; omega), List.getElem?_eq_none (by omega)]; rfl
    · rw [List.getElem?_set_ne h, wipe_get σ i vs]
      simp [show ¬ i = v from fun e => h e.symm]
theorem wipe_eq {σ σ' : L2.St} {vs : List Nat} (h : ∀ i, (i ∈ vs → σ'[i]?.isSome = σ[i]?.isSome) ∧ (i ∉ vs → σ'[i]? = σ[i]?)) : wipe σ' vs = wipe σ vs := by
  apply List.ext_getElem?
  intro i
  rw [wipe_get, wipe_get]
  by_cases hi : i ∈ vs
  · rw [if_pos hi, if_pos hi]
    have := (h i).1 hi
    cases e1 : σ'[i]? <;> cases e2 : σ[i]? <;> simp [e1, e2] at this ⊢
  · rw [if_neg hi, if_neg hi]
    exact (h i).2 hi
theorem Sets.one (i : Nat) (σ : L2.St) (x : Option V) : Sets [i] σ (σ.set i x) := fun vs h => by
  have hi : i ∈ vs := h i (by simp)
  refine wipe_eq fun j => ⟨fun _ => ?_, fun hj => ?_⟩
  · by_cases e : i = j
    · subst e
      by_cases hl : i < σ.length
      · rw [List.getElem?_set_self hl, List.getElem?_eq_getElem hl]; rfl
      · rw [List.getElem?_eq_none (by simp; omega), List.getElem?_eq_none (by omega)]
    · rw [List.getElem?_set_ne e]
  · rw [List.getElem?_set_ne (by rintro rfl; exact hj hi)]
theorem Sets.trans {is js : List Nat} {a b c : L2.St} (h : Sets is a b) (h2 : Sets js b c) : Sets (is ++ js) a c := fun vs hv =>
  (h2 vs fun i hi => hv i (List.mem_append_right _ hi)).trans (h vs fun i hi => hv i (List.mem_append_left _ hi))
theorem Sets.nil (a : L2.St) : Sets [] a a := fun _ _ => rfl
theorem wipe_wipe (σ : L2.St) (vs : List Nat) : wipe (wipe σ vs) vs = wipe σ vs := wipe_eq fun i => by
  rw [wipe_get]
  refine ⟨fun hi => ?_, fun hi => by rw [if_neg hi]⟩
  rw [if_pos hi]
  cases σ[i]? <;> rfl
def tG (K : PySem.W.Frag) (is : List Nat) (f : PyData → Sl → Option Sl) : TG := fun v σ H Q => ∃ F μ env d env', SlR K F μ env σ ∧ RepD K F d v ∧ (∀ a o, F a = some o → H a = some o) ∧ f d env = some env' ∧ ∀ σ', SlR K F μ env' σ' → Sets is σ σ' → Q σ' H
def tGs (K : PySem.W.Frag) (is : List Nat) : TGs := fun vs σ H Q => ∃ F μ env ds, SlR K F μ env σ ∧ RepL K F ds vs ∧ (∀ a o, F a = some o → H a = some o) ∧ ds.length = is.length ∧ ∀ σ', SlR K F μ ((is.zip ds).foldl (fun e p => e.set p.1 (some (.d p.2))) env) σ' → Sets is σ σ' → Q σ' H
def SimG (X : Cx) (tg : Expr) (is : List Nat) (f : PyData → Sl → Option Sl) : Prop := PG X tg (tG X.K is f)
def SimGs (X : Cx) (ts : List Expr) (is : List Nat) : Prop := PGs X ts (tGs X.K is)
theorem pg_imp {e : Expr} {t t' : TG} (h : PG X e t) (i : ∀ v σ H Q, t' v σ H Q → t v σ H Q) : PG X e t' := ⟨fun pins s σ H v u Q I r q => h.run pins s σ H v u Q I r (i v σ H Q q)⟩
theorem pgs_imp {e : List Expr} {t t' : TGs} (h : PGs X e t) (i : ∀ v σ H Q, t' v σ H Q → t v σ H Q) : PGs X e t' := ⟨fun pins s σ H v u Q I r q => h.run pins s σ H v u Q I r (i v σ H Q q)⟩
def gN (i : Nat) (d : PyData) (env : Sl) : Option Sl := some (env.set i (some (.d d)))
def gT (is : List Nat) (d : PyData) (env : Sl) : Option Sl := match d with
  | .tuple ds => if ds.length = is.length then some ((is.zip ds).foldl (fun e p => e.set p.1 (some (.d p.2))) env) else none
  | _ => none
theorem sg_name (i : Nat) {x : Str} {pos : Pos} (hN : X.N.Nodup) (hi : X.N[i]? = some x) (hx : Loc X.env.scope x) (hf : X.fn x = true ∨ X.env.scope.names.lookup x = some .local := by first | exact .inl rfl | exact .inr rfl | assumption) : SimG X (.Name x pos) [i] (gN i) := by
  refine pg_imp (pg_name hN hi hx hf) fun v σ H Q q => ?_
  obtain ⟨F, μ, env, d, env', sl, r, le, e, k⟩ := q
  cases e
  exact k _ (sl.set (show RepW X.K F μ (.d d) v from r) i) (Sets.one i σ _)
theorem sgs_nil : SimGs X [] [] := by
  refine pgs_imp pgs_nil fun vs σ H Q q => ?_
  obtain ⟨F, μ, env, ds, sl, r, le, e, k⟩ := q
  have : ds = [] := List.length_eq_zero_iff.mp e
  subst this
  cases r
  exact ⟨rfl, k σ sl (.nil σ)⟩
theorem sgs_cons (i : Nat) {x : Str} {es : List Expr} {is : List Nat} {pos : Pos} (hN : X.N.Nodup) (hi : X.N[i]? = some x) (hx : Loc X.env.scope x) (h2 : SimGs X es is)
    (hf : X.fn x = true ∨ X.env.scope.names.lookup x = some .local := by first | exact .inl rfl | exact .inr rfl | assumption)
    (hs : (assignEach (.Name x pos :: es) X.env).map (·.2) = assign (.Name x pos) X.env :: (assignEach es X.env).map (·.2) := by rfl) : SimGs X (.Name x pos :: es) (i :: is) := by
  refine pgs_imp (pgs_cons (pg_name hN hi hx hf) h2 hs) fun vs σ H Q q => ?_
  obtain ⟨F, μ, env, ds, sl, r, le, e, k⟩ := q
  cases ds with
  | nil => simp at e
  | cons d ds =>
    obtain ⟨v, vr, rfl, r1, r2⟩ := r
    refine ⟨v, vr, rfl, F, μ, env.set i (some (.d d)), ds, sl.set (show RepW X.K F μ (.d d) v from r1) i, r2, le, by simpa using e, fun σ' sl' st => ?_⟩
    exact k σ' (by simpa using sl') ((Sets.one i σ _).trans st)
theorem sg_tup {es : List Expr} {is : List Nat} {k : Nat} {pos : Pos} {n : Nat} (hc : X.calm = true) (h : SimGs X es is) (hl : is.length = n)
    (hn : (assignEach es X.env).length = n := by rfl) (hst : (assignEach es X.env).findIdx? (·.1) = none := by rfl) : SimG X (.Tuple es k pos) is (gT is) := by
  refine pg_imp (pg_tup hc h hn hst) fun v σ H Q q => ?_
  obtain ⟨F, μ, env, d, env', sl, r, le, e, k⟩ := q
  unfold gT at e
  split at e
  · split at e <;> simp at e
    rename_i ds hd
    subst e
    obtain ⟨a, vs, rfl, h1, h2, h3⟩ := r
    exact ⟨a, vs, rfl, SqT.mono le h1, by rw [h3.length, hd, hl], F, μ, env, ds, sl, h3, le, hd, k⟩
  · cases e
/-! a, b = e -/
def mAsgT (is : List Nat) (m : ME) : MS := fun env S => (m env S).bind fun p => match p.1 with
  | .d (.tuple ds) => if ds.length = is.length then some (.nx ((is.zip ds).foldl (fun e p => e.set p.1 (some (.d p.2))) env), p.2) else none
  | _ => none
def mAsgL (is : List Nat) (m : ME) : MS := fun env S => (m env S).bind fun p => (lsL p.2 p.1).bind fun ds =>
  if ds.length = is.length then some (.nx ((is.zip ds).foldl (fun e p => e.set p.1 (some (.d p.2))) env), p.2) else none
theorem ss_asgT {es : List Expr} {is : List Nat} {e : Expr} {m : ME} {k : Nat} {tp pos : Pos} {n : Nat} (hc : X.calm = true) (he : SimE X e m) (h : SimGs X es is) (hl : is.length = n)
    (hn : (assignEach es X.env).length = n := by rfl) (hst : (assignEach es X.env).findIdx? (·.1) = none := by rfl)
    (hs : swapsWithSole [.Tuple es k tp] e pos.line X.env = pure false := by rfl) (hw : swappedStores [.Tuple es k tp] e X.env = pure none := by rfl)
    (h1 : (assignEach [.Tuple es k tp] X.env).map (·.2) = [assign (.Tuple es k tp) X.env] := by rfl) : SimS X (.Assign [.Tuple es k tp] e pos) (mAsgT is m) := by
  refine ps_imp (ps_asg he (pg_tup hc h hn hst) hs hw h1) fun D σ H q => ?_
  obtain ⟨F, R, μ, env, S, fl, S', sl, l, e, k⟩ := q
  simp only [mAsgT, Option.bind_eq_some_iff] at e
  obtain ⟨⟨x, S1⟩, e1, e2⟩ := e
  refine ⟨F, R, μ, env, S, x, S1, sl, l, e1, fun F1 μ1 v H1 x1 l1 r1 => ?_⟩
  split at e2
  · rename_i ds hx
    simp only at hx
    subst hx
    split at e2 <;> simp at e2
    rename_i hd
    obtain ⟨rfl, rfl⟩ := e2
    obtain ⟨a, vs, rfl, g1, g2, g3⟩ := r1
    exact ⟨a, vs, rfl, SqT.mono l1.le g1, by rw [g3.length, hd, hl], F1, μ1, env, ds, sl.mono x1, g3, l1.le, hd, fun σ' sl' _ => k F1 μ1 H1 x1 l1 σ' sl'⟩
  · cases e2
theorem ss_asgL {es : List Expr} {is : List Nat} {e : Expr} {m : ME} {k : Nat} {tp pos : Pos} {n : Nat} (hc : X.calm = true) (he : SimE X e m) (h : SimGs X es is) (hl : is.length = n)
    (hn : (assignEach es X.env).length = n := by rfl) (hst : (assignEach es X.env).findIdx? (·.1) = none := by rfl)
    (hs : swapsWithSole [.Tuple es k tp] e pos.line X.env = pure false := by rfl) (hw : swappedStores [.Tuple es k tp] e X.env = pure none := by rfl)
    (h1 : (assignEach [.Tuple es k tp] X.env).map (·.2) = [assign (.Tuple es k tp) X.env] := by rfl) : SimS X (.Assign [.Tuple es k tp] e pos) (mAsgL is m) := by
  refine ps_imp (ps_asg he (pg_unl hc h hn hst) hs hw h1) fun D σ H q => ?_
  obtain ⟨F, R, μ, env, S, fl, S', sl, l, e, k⟩ := q
  simp only [mAsgL, Option.bind_eq_some_iff] at e
  obtain ⟨⟨x, S1⟩, e1, ds, e2, e3⟩ := e
  refine ⟨F, R, μ, env, S, x, S1, sl, l, e1, fun F1 μ1 v H1 x1 l1 r1 => ?_⟩
  split at e3 <;> simp at e3
  rename_i hd
  obtain ⟨rfl, rfl⟩ := e3
  obtain ⟨a, vs, rfl, g1, g2, g3⟩ := lk_ls l1 r1 e2
  exact ⟨a, vs, rfl, g1, by rw [g3.length, hd, hl], F1, μ1, env, ds, sl.mono x1, g3, l1.le, hd, fun σ' sl' _ => k F1 μ1 H1 x1 l1 σ' sl'⟩
/-! a, b = e1, e2 -/
def mPar (i j : Nat) (a b : ME) : MS := fun env S => (a env S).bind fun p => (b env p.2).map fun q => (.nx ((env.set i (some p.1)).set j (some q.1)), q.2)
theorem tPar_of {i j : Nat} {a b : ME} {x y : Expr} (D : Ends) (σ : L2.St) (H : Hp) (q : tS K (mPar i j a b) D σ H) : tPar i j (tCons (tE K a) (tCons (tE K b) tNil)) D σ H := by
  obtain ⟨F, R, μ, env, S, fl, S', sl, l, e, k⟩ := q
  simp only [mPar, Option.bind_eq_some_iff, Option.map_eq_some_iff] at e
  obtain ⟨⟨p, S1⟩, e1, ⟨q, S2⟩, e2, e3⟩ := e
  cases e3
  refine ⟨F, R, μ, env, S, p, S1, sl, l, e1, fun F1 μ1 v H1 x1 l1 r1 => ?_⟩
  refine ⟨F1, R, μ1, env, S1, q, S2, sl.mono x1, l1, e2, fun F2 μ2 u H2 x2 l2 r2 => ?_⟩
  exact ⟨v, u, rfl, k F2 μ2 H2 (x1.trans x2) l2 _ (((sl.mono (x1.trans x2)).set (r1.mono x2) i).set r2 j)⟩
theorem ss_par (i j : Nat) {a b : Expr} {ma mb : ME} {st : Stmt} (ha : SimE X a ma) (hb : SimE X b mb) (h : PE X a (tE X.K ma) → PE X b (tE X.K mb) → PS X st (tPar i j (tCons (tE X.K ma) (tCons (tE X.K mb) tNil)))) : SimS X st (mPar i j ma mb) :=
  ps_imp (h ha hb) (tPar_of (x := a) (y := b))
/-! o[i] = e -/
def mSetIx (o i e : ME) : MS := fun env S => (e env S).bind fun p => (o env p.2).bind fun q => (i env q.2).bind fun r => match q.1, r.1 with
  | .r n, .d (.int k) => (toD p.1 r.2).bind fun v => match v.2[n]? with
    | some (Ob.lst xs) => (ixN xs.length k).map fun j => (.nx env, v.2.set n (Ob.lst (xs.set j v.1)))
    | _ => none
  | _, _ => none
theorem ss_setIx {o i e : Expr} {mo mi me : ME} {tp pos : Pos} (ho : SimE X o mo) (hi : SimE X i mi) (he : SimE X e me)
    (ha : ∀ v, assign (.Subscript o i tp) X.env v = (do
      let ov ← holding [v] (eval o X.env)
      let iv ← holding [v, ov] (eval i X.env)
      standAt tp
      holding [v, ov, iv] (setItem ov iv v)
      release [v, ov, iv] []) := by intro _; rfl)
    (hs : swapsWithSole [.Subscript o i tp] e pos.line X.env = pure false := by rfl) (hw : swappedStores [.Subscript o i tp] e X.env = pure none := by rfl)
    (h1 : (assignEach [.Subscript o i tp] X.env).map (·.2) = [assign (.Subscript o i tp) X.env] := by rfl) : SimS X (.Assign [.Subscript o i tp] e pos) (mSetIx mo mi me) := by
  refine ps_imp (ps_asg he (pg_sub ho hi set_list ha) hs hw h1) fun D σ H q => ?_
  obtain ⟨F, R, μ, env, S, fl, S', sl, l, e, k⟩ := q
  simp only [mSetIx, Option.bind_eq_some_iff] at e
  obtain ⟨⟨x, S1⟩, e1, ⟨y, S2⟩, e2, ⟨z, S3⟩, e3, e4⟩ := e
  refine ⟨F, R, μ, env, S, x, S1, sl, l, e1, fun F1 μ1 v H1 x1 l1 r1 => ?_⟩
  refine ⟨F1, R, μ1, env, S1, y, S2, sl.mono x1, l1, e2, fun F2 μ2 u H2 x2 l2 r2 => ?_⟩
  refine ⟨F2, R, μ2, env, S2, z, S3, sl.mono (x1.trans x2), l2, e3, fun F3 μ3 t H3 x3 l3 r3 => ?_⟩
  split at e4
  · rename_i n kk h1 h2
    simp only at h1 h2
    subst h1 h2
    simp only [Option.bind_eq_some_iff] at e4
    obtain ⟨⟨d, S4⟩, e5, e6⟩ := e4
    split at e6
    · rename_i xs hS
      simp only [Option.map_eq_some_iff] at e6
      obtain ⟨j, e7, e8⟩ := e6
      cases e8
      obtain ⟨F4, x4, l4, r4⟩ := lk_toD l3 (r1.mono (x2.trans x3)) e5
      obtain ⟨a, hn, rfl⟩ := r2
      cases r3
      have hn4 : μ3[n]? = some a := x3.at hn
      obtain ⟨vs, g1, g2, g3, g4⟩ := l4.ob n a xs hn4 hS
      refine ⟨a, vs, kk, j, rfl, rfl, g1, by rw [g2.length]; exact e7, ?_⟩
      have l5 := lk_set l4 hn4 hS (g2.set r4 j) (by rw [List.length_set]; exact g3)
      exact k F4 μ3 _ (((x1.trans x2).trans x3).trans x4) l5 σ (sl.mono (((x1.trans x2).trans x3).trans x4))
    · cases e6
  · cases e4
/-! o.append(e) -/
noncomputable def mApp (o e : ME) : ME := fun env S => (o env S).bind fun p => (getL p.2 p.1).bind fun _ => (e env p.2).bind fun q => match p.1 with
  | .r n => (toD q.1 q.2).bind fun v => match v.2[n]? with
    | some (Ob.lst xs) => if Ok (xs.length < LIM) then some (.d .none, v.2.set n (Ob.lst (xs ++ [v.1]))) else none
    | _ => none
  | _ => none
theorem se_app {o e : Expr} {mo me : ME} {apos cpos : Pos} (ho : SimE X o mo) (he : SimE X e me)
    (hbase : attributeBase o "append" X.env (eval o X.env) = eval o X.env := by rfl)
    (hfew : ((backTo cpos (starEach [e] X.env)).all (fun x => !x.1) && (backToKw cpos (keywordEach [] X.env)).all (fun x => x.1.isSome)
      && decide ([e].length + ([] : List Keyword).length + (if ([] : List Keyword).isEmpty then 0 else 1) < 30)) = true := by rfl)
    (hline : (apos.endLine == cpos.line) = true := by rfl) (hs : starEach [e] X.env = (false, eval e X.env) :: starEach [] X.env := by rfl) (hplain : (backTo cpos (starEach [] X.env)).any (·.1) = false := by rfl) :
    SimE X (.Call (.Attribute o "append" apos) [e] [] cpos) (mApp mo me) := by
  refine pe_imp (pe_bm PySem.F.plainAttrs_list PySem.F.slot_list_append PySem.F.type_list_append mt_append ho (pa_cons he pa_nil hs) hbase hfew hline hs hplain) fun σ H Q q => ?_
  obtain ⟨F, R, μ, env, S, w, S', sl, l, e, k⟩ := q
  simp only [mApp, Option.bind_eq_some_iff] at e
  obtain ⟨⟨x, S1⟩, e1, xs0, e0, ⟨y, S2⟩, e2, e4⟩ := e
  refine ⟨F, R, μ, env, S, x, S1, sl, l, e1, fun F1 μ1 v H1 x1 l1 r1 => ?_⟩
  split at e4
  · rename_i n h1
    simp only at h1
    subst h1
    simp only [Option.bind_eq_some_iff] at e4
    obtain ⟨⟨d, S4⟩, e5, e6⟩ := e4
    obtain ⟨a0, vs0, ea, g0, _⟩ := lk_getL l1 r1 e0
    obtain ⟨a, hn, rfl⟩ := r1
    injection ea with ea
    subst ea
    refine ⟨.inl ⟨rfl, vs0, SqL.of g0⟩, ?_⟩
    refine ⟨F1, R, μ1, env, S1, y, S2, sl.mono x1, l1, e2, fun F2 μ2 u H2 x2 l2 r2 => ?_⟩
    split at e6
    · rename_i xs hS
      split at e6 <;> simp at e6
      rename_i hz
      try unfold Ok at hz
      obtain ⟨rfl, rfl⟩ := e6
      obtain ⟨F4, x4, l4, r4⟩ := lk_toD l2 r2 e5
      have hn4 : μ2[n]? = some a := x2.at hn
      obtain ⟨vs, g1, g2, g3, g4⟩ := l4.ob n a xs hn4 hS
      have n1 := g2.length
      refine ⟨a, vs, u, rfl, rfl, g1, lim_line' (by rw [n1]; exact hz), ?_⟩
      have l5 := lk_set l4 hn4 hS (g2.append (.one r4)) (by rw [List.length_append, List.length_singleton, n1]; exact lim_line (by omega))
      exact k F4 μ2 _ _ ((x1.trans x2).trans x4) l5 rfl
    · cases e6
  · cases e4
end
/-! Sim, part G: for, comprehensions, what is walked. -/
/-- a walk gives the items of xs, in order, while g holds of the store -/
def WalkD (K : PySem.W.Frag) (F R : Hp) (μ : List Addr) (J : It) (xs : List PyData) (g : Sto → Prop) : Prop :=
  xs.length ≤ sizeLine ∧ ∃ G Y, Walk J xs.length G Y ∧ (∀ F' R' μ' S H, Ext F μ F' μ' → Lk K F' R' μ' S H → g S → G H) ∧
    ∀ F' R' μ' S H i x H', Ext F μ F' μ' → Lk K F' R' μ' S H → g S → i < xs.length → Y i H x H' → ∃ F'' d, Ext F' μ' F'' μ' ∧ Lk K F'' R' μ' S H' ∧ xs[i]? = some d ∧ RepD K F'' d x ∧ (∀ a o, H a = some o → H' a = some o)
abbrev MI := Sl → Sto → Option (List PyData × (Sto → Prop) × Sto)
def tI (K : PySem.W.Frag) (m : MI) : TI := fun σ H Q => ∃ F R μ env S xs g S', SlR K F μ env σ ∧ Lk K F R μ S H ∧ m env S = some (xs, g, S') ∧ ∀ F' μ' H' J, Ext F μ F' μ' → Lk K F' R μ' S' H' → WalkD K F' R μ' J xs g → Q J H'
def SimI (X : Cx) (tg iter : Expr) (m : MI) : Prop := PI X tg iter (tI X.K m)
theorem pi_imp {X : Cx} {tg it : Expr} {t t' : TI} (h : PI X tg it t) (i : ∀ σ H Q, t' σ H Q → t σ H Q) : PI X tg it t' := ⟨fun pins s σ H Q I q => h.run pins s σ H Q I (i σ H Q q)⟩
/-! ### for -/
open Classical in
noncomputable def forL (g : Sto → Prop) (f : PyData → Sl → Option Sl) (b : MS) : List PyData → Sl → Sto → Option (Fl × Sto)
  | [], env, S => if g S then some (.nx env, S) else none
  | d :: ds, env, S => if g S then (f d env).bind fun env1 => (b env1 S).bind fun q => match q.1 with
      | .nx e => forL g f b ds e q.2
      | .ct e => forL g f b ds e q.2
      | .bk e => some (.nx e, q.2)
      | .rt w => some (.rt w, q.2)
    else none
noncomputable def mFor (m : MI) (f : PyData → Sl → Option Sl) (b : MS) : MS := fun env S => (m env S).bind fun p => forL p.2.1 f b p.1 env p.2.2
section
variable {X : Cx} {K : PySem.W.Frag}
theorem tFor_of {m : MI} {is : List Nat} {f : PyData → Sl → Option Sl} {b : MS} (D : Ends) (σ : L2.St) (H : Hp) (q : tS K (mFor m f b) D σ H) : tFor (tI K m) (tG K is f) (tS K b) D σ H := by
  obtain ⟨F, R, μ, env, S, fl, S', sl, l, e, k⟩ := q
  simp only [mFor, Option.bind_eq_some_iff] at e
  obtain ⟨⟨xs, g, S1⟩, e1, e2⟩ := e
  refine ⟨F, R, μ, env, S, xs, g, S1, sl, l, e1, fun F1 μ1 H1 J x1 l1 wd => ?_⟩
  obtain ⟨hz, G, Y, wk, hG, hY⟩ := wd
  refine for_it wk (fun i σ H => i ≤ xs.length ∧ ∃ F2 μ2 env2 S2, Ext F1 μ1 F2 μ2 ∧ SlR K F2 μ2 env2 σ ∧ Lk K F2 R μ2 S2 H ∧ forL g f b (xs.drop i) env2 S2 = some (fl, S')) ?_ ?_ ?_ ?_
  · exact ⟨Nat.zero_le _, F1, μ1, env, S1, .refl _ _, sl.mono x1, l1, e2⟩
  · rintro i σ2 H2 hi ⟨_, F2, μ2, env2, S2, x2, sl2, l2, e3⟩
    have hg : g S2 := by
      cases hd : xs.drop i with
      | nil => rw [hd, forL] at e3; by_cases h : g S2 <;> simp [h] at e3; exact h
      | cons d ds => rw [hd, forL] at e3; by_cases h : g S2 <;> simp [h] at e3; exact h
    exact hG F2 R μ2 S2 H2 x2 l2 hg
  · rintro i x σ2 H2 H3 hi ⟨_, F2, μ2, env2, S2, x2, sl2, l2, e3⟩ y
    have hd : xs.drop i = xs[i] :: xs.drop (i + 1) := by rw [List.drop_eq_getElem_cons hi]
    rw [hd, forL] at e3
    by_cases hg : g S2
    · rw [if_pos hg] at e3
      simp only [Option.bind_eq_some_iff] at e3
      obtain ⟨env3, e4, ⟨fl3, S3⟩, e5, e6⟩ := e3
      obtain ⟨F3, d, x3, l3, hd2, r3, _⟩ := hY F2 R μ2 S2 H2 i x H3 x2 l2 hg hi y
      have ed : xs[i] = d := Option.some.inj ((List.getElem?_eq_getElem hi).symm.trans hd2)
      rw [ed] at e4
      refine ⟨F3, μ2, env2, d, env3, sl2.mono x3, r3, l3.le, e4, fun σ' sl' _ => ?_⟩
      refine ⟨F3, R, μ2, env3, S2, fl3, S3, sl', l3, e5, fun F4 μ4 H4 x4 l4 => ?_⟩
      have x14 : Ext F1 μ1 F4 μ4 := (x2.trans x3).trans x4
      cases fl3 with
      | nx e => exact fun σ5 sl5 => ⟨hi, F4, μ4, e, S3, x14, sl5, l4, e6⟩
      | ct e => exact fun σ5 sl5 => ⟨hi, F4, μ4, e, S3, x14, sl5, l4, e6⟩
      | bk e =>
        simp at e6
        obtain ⟨rfl, rfl⟩ := e6
        exact fun σ5 sl5 => k F4 μ4 H4 (x1.trans x14) l4 σ5 sl5
      | rt w =>
        simp at e6
        obtain ⟨rfl, rfl⟩ := e6
        exact fun v rv => k F4 μ4 H4 (x1.trans x14) l4 v rv
    · rw [if_neg hg] at e3; cases e3
  · rintro σ2 H2 ⟨_, F2, μ2, env2, S2, x2, sl2, l2, e3⟩
    rw [List.drop_length, forL] at e3
    by_cases hg : g S2
    · rw [if_pos hg] at e3
      cases e3
      exact k F2 μ2 H2 (x1.trans x2) l2 σ2 sl2
    · rw [if_neg hg] at e3; cases e3
theorem ss_for {tg iter : Expr} {body : List Stmt} {m : MI} {is : List Nat} {f : PyData → Sl → Option Sl} {b : MS} {pos : Pos} (hp : PassesOwn (model X.prog X.w) X.A X.env X.xe) (hc : X.calm = true) (hi : SimI X tg iter m) (hg : SimG X tg is f) (hb : SimSs X body b)
    (hs : ∀ x, foldedSetIterable iter X.env x = pure x := by intro _; rfl) : SimS X (.For tg iter body [] pos) (mFor m f b) := ps_imp (ps_for hp hc hi hg hb hs) tFor_of
/-! ### comprehensions -/
def wipeE (env : Sl) : List Nat → Sl
  | [] => env
  | v :: vs => (wipeE env vs).set v none
theorem SlR.wipe {F : Hp} {μ : List Addr} {env : Sl} {σ : L2.St} (h : SlR K F μ env σ) : ∀ vs : List Nat, SlR K F μ (wipeE env vs) (L2.wipe σ vs)
  | [] => h
  | v :: vs => (SlR.wipe h vs).unset v
open Classical in
noncomputable def lcL (g : Sto → Prop) (f : PyData → Sl → Option Sl) (c : MT) (e : ME) (env : Sl) : List PyData → Sto → Option (List PyData × Sto)
  | [], S => if g S then some ([], S) else none
  | d :: ds, S => if g S then (f d env).bind fun env1 => (c env1 S).bind fun p => if p.1 = true then (e env1 p.2).bind fun q => (toD q.1 q.2).bind fun r => (lcL g f c e env ds r.2).map fun t => (r.1 :: t.1, t.2)
      else lcL g f c e env ds p.2
    else none
noncomputable def mLc (m : MI) (f : PyData → Sl → Option Sl) (c : MT) (e : ME) (vs : List Nat) : ME := fun env S => (m env S).bind fun p => (lcL p.2.1 f c e (wipeE env vs) p.1 p.2.2).map fun t => (.d (.list t.1), t.2)
/-- its list will be changed -/
noncomputable def mLcM (m : MI) (f : PyData → Sl → Option Sl) (c : MT) (e : ME) (vs : List Nat) : ME := fun env S => (m env S).bind fun p => (lcL p.2.1 f c e (wipeE env vs) p.1 p.2.2).map fun t => (.r t.2.length, t.2 ++ [Ob.lst t.1])
def mYes : MT := fun _ S => some (true, S)
/-- the tests of a clause -/
def SimTs (X : Cx) (ifs : List Expr) (m : MT) : Prop := PTs X ifs (tT X.K m)
theorem pts_imp {ifs : List Expr} {t t' : TT} (h : PTs X ifs t) (i : ∀ σ H Q, t' σ H Q → t σ H Q) : PTs X ifs t' := ⟨fun pins s σ H Q I q => h.run pins s σ H Q I (i σ H Q q)⟩
theorem sts_nil : SimTs X [] mYes := by
  refine pts_imp pts_nil fun σ H Q q => ?_
  obtain ⟨F, R, μ, env, S, b, S', sl, l, e, k⟩ := q
  simp [mYes] at e
  obtain ⟨rfl, rfl⟩ := e
  exact k F μ H (.refl _ _) l
theorem sts_one {c : Expr} {m : MT} (h : SimT X c m) : SimTs X [c] m := pts_one h
/-- the heart of both: D the new list, kept aside in the frame while the items are made -/
theorem tLc_of {m : MI} {is : List Nat} {f : PyData → Sl → Option Sl} {c : MT} {e : ME} {vs : List Nat} (his : ∀ i ∈ is, i ∈ vs) {σ : L2.St} {H : Hp} {Q : VK} {F R : Hp} {μ : List Addr} {env : Sl} {S : Sto} {xs : List PyData} {g : Sto → Prop} {S1 : Sto} {ys : List PyData} {S2 : Sto}
    (sl : SlR K F μ env σ) (l : Lk K F R μ S H) (e1 : m env S = some (xs, g, S1)) (e2 : lcL g f c e (wipeE env vs) xs S1 = some (ys, S2))
    (k : ∀ F' μ' D us H', Ext F μ F' μ' → Lk K F' (upd R D (.lst us)) μ' S2 H' → R D = none → RepL K F' ys us → us.length ≤ sizeLine → Q (.ref D) H') : tLc (tI K m) (tG K is f) (tT K c) (tE K e) vs σ H Q := by
  refine ⟨F, R, μ, env, S, xs, g, S1, sl, l, e1, fun F1 μ1 H1 J x1 l1 wd => ?_⟩
  intro D hD
  obtain ⟨hz, G, Y, wk, hG, hY⟩ := wd
  have RD : R D = none := by
    cases q : R D with
    | none => rfl
    | some u => have := (l1.fr D u q).1; rw [hD] at this; cases this
  -- the frame with the new list
  have lkD : ∀ {F' : Hp} {μ' : List Addr} {S' : Sto} {H' : Hp} {us us' : List V}, Lk K F' (upd R D (.lst us)) μ' S' H' → Lk K F' (upd R D (.lst us')) μ' S' (upd H' D (.lst us')) := fun {F' μ' S' H' us us'} l' => by
    obtain ⟨d1, d2, d3⟩ := l'.fr D _ upd_same
    refine ⟨fun a o q => ?_, l'.len, fun n a zs h1 h2 => ?_, fun a o q => ?_, l'.dj⟩
    · rw [upd_ne (by rintro rfl; rw [d2] at q; cases q)]; exact l'.le a o q
    · obtain ⟨ws, q1, q2, q3, q4⟩ := l'.ob n a zs h1 h2
      exact ⟨ws, by rw [upd_ne (by rintro rfl; exact d3 n zs h2 h1)]; exact q1, q2, q3, q4⟩
    · by_cases ha : a = D
      · subst ha
        rw [upd_same] at q ⊢
        exact ⟨q, d2, d3⟩
      · rw [upd_ne ha] at q ⊢
        exact l'.fr a o (by rw [upd_ne ha]; exact q)
  have l1D : Lk K F1 (upd R D (.lst [])) μ1 S1 (upd H1 D (.lst [])) := by
    refine ⟨fun a o q => ?_, l1.len, fun n a zs h1 h2 => ?_, fun a o q => ?_, l1.dj⟩
    · rw [upd_ne (by rintro rfl; rw [l1.le _ _ q] at hD; cases hD)]; exact l1.le a o q
    · obtain ⟨ws, q1, q2, q3, q4⟩ := l1.ob n a zs h1 h2
      exact ⟨ws, by rw [upd_ne (by rintro rfl; rw [hD] at q1; cases q1)]; exact q1, q2, q3, q4⟩
    · by_cases ha : a = D
      · subst ha
        rw [upd_same] at q ⊢
        refine ⟨q, ?_, fun n zs h2 h1 => ?_⟩
        · cases hF : F1 a with
          | none => rfl
          | some u => rw [l1.le a u hF] at hD; cases hD
        · obtain ⟨ws, q1, _⟩ := l1.ob n a zs h1 h2
          rw [hD] at q1; cases q1
      · rw [upd_ne ha] at q ⊢
        exact l1.fr a o q
  have slw := (sl.mono x1).wipe vs
  refine lc_it wk (fun i H => i ≤ xs.length ∧ ∃ F2 μ2 S' acc us rest, Ext F1 μ1 F2 μ2 ∧ Lk K F2 (upd R D (.lst us)) μ2 S' H ∧ RepL K F2 acc us ∧ us.length ≤ i ∧ lcL g f c e (wipeE env vs) (xs.drop i) S' = some (rest, S2) ∧ acc ++ rest = ys) ?_ ?_ ?_ ?_
  · exact ⟨Nat.zero_le _, F1, μ1, S1, [], [], ys, .refl _ _, l1D, rfl, Nat.le_refl _, e2, rfl⟩
  · rintro i H2 hi ⟨_, F2, μ2, S', acc, us, rest, x2, l2, ra, hu, e3, e4⟩
    have hg : g S' := by
      cases hd : xs.drop i with
      | nil => rw [hd, lcL] at e3; by_cases h : g S' <;> simp [h] at e3; exact h
      | cons d ds => rw [hd, lcL] at e3; by_cases h : g S' <;> simp [h] at e3; exact h
    exact hG F2 _ μ2 S' H2 x2 l2 hg
  · rintro i x H2 H3 hi ⟨_, F2, μ2, S', acc, us, rest, x2, l2, ra, hu, e3, e4⟩ y
    have hd : xs.drop i = xs[i] :: xs.drop (i + 1) := by rw [List.drop_eq_getElem_cons hi]
    rw [hd, lcL] at e3
    by_cases hg : g S'
    · rw [if_pos hg] at e3
      simp only [Option.bind_eq_some_iff] at e3
      obtain ⟨env3, e5, ⟨b, S3⟩, e6, e7⟩ := e3
      obtain ⟨F3, d, x3, l3, hd2, r3, _⟩ := hY F2 _ μ2 S' H2 i x H3 x2 l2 hg hi y
      have ed : xs[i] = d := Option.some.inj ((List.getElem?_eq_getElem hi).symm.trans hd2)
      rw [ed] at e5
      refine ⟨F3, μ2, wipeE env vs, d, env3, slw.mono (x2.trans x3), r3, l3.le, e5, fun σ' sl' st => ⟨?_, ?_⟩⟩
      · rw [st vs his, wipe_wipe]
      refine ⟨F3, upd R D (.lst us), μ2, env3, S', b, S3, sl', l3, e6, fun F4 μ4 H4 x4 l4 => ?_⟩
      cases b with
      | false =>
        simp at e7
        exact iteF ⟨hi, F4, μ4, S3, acc, us, rest, (x2.trans x3).trans x4, l4, RepL.mono (x3.trans x4).1 _ _ ra, by omega, e7, e4⟩
      | true =>
        simp only [if_true, Option.bind_eq_some_iff, Option.map_eq_some_iff] at e7
        obtain ⟨⟨w, S4⟩, e8, ⟨z, S5⟩, e9, ⟨t, S6⟩, e10, e11⟩ := e7
        cases e11
        refine iteT ⟨F4, upd R D (.lst us), μ4, env3, S3, w, S4, sl'.mono x4, l4, e8, fun F5 μ5 v H5 x5 l5 r5 => ?_⟩
        obtain ⟨F6, x6, l6, r6⟩ := lk_toD l5 r5 e9
        have hD5 := (l6.fr D _ upd_same).1
        refine ⟨us, hD5, Nat.lt_of_le_of_lt hu (Nat.lt_of_lt_of_le hi hz), hi, F6, μ5, S5, acc ++ [z], us ++ [v], t, (((x2.trans x3).trans x4).trans x5).trans x6, lkD l6, ?_, ?_, e10, ?_⟩
        · exact (RepL.mono (((x3.trans x4).trans x5).trans x6).1 _ _ ra).append (.one r6)
        · rw [List.length_append, List.length_singleton]; omega
        · rw [List.append_assoc]; exact e4
    · rw [if_neg hg] at e3; cases e3
  · rintro H2 ⟨_, F2, μ2, S', acc, us, rest, x2, l2, ra, hu, e3, e4⟩
    rw [List.drop_length, lcL] at e3
    by_cases hg : g S'
    · rw [if_pos hg] at e3
      cases e3
      rw [List.append_nil] at e4
      subst e4
      exact k F2 μ2 D us H2 (x1.trans x2) l2 RD ra (Nat.le_trans hu hz)
    · rw [if_neg hg] at e3; cases e3
/-- the frame's list goes to the data, or to the store -/
theorem lk_keepF {F R H : Hp} {μ : List Addr} {S : Sto} {D : Addr} {us : List V} (l : Lk K F (upd R D (.lst us)) μ S H) (hR : R D = none) : Lk K (upd F D (.lst us)) R μ S H ∧ Ext F μ (upd F D (.lst us)) μ := by
  obtain ⟨d1, d2, d3⟩ := l.fr D _ upd_same
  have le : ∀ b u, F b = some u → upd F D (.lst us) b = some u := fun b u e => by
    rw [upd_ne (by rintro rfl; rw [d2] at e; cases e)]; exact e
  refine ⟨⟨fun a o q => ?_, l.len, fun n a zs h1 h2 => ?_, fun a o q => ?_, l.dj⟩, le, [], by simp⟩
  · by_cases ha : a = D
    · subst ha; rw [upd_same] at q; cases q; exact d1
    · rw [upd_ne ha] at q; exact l.le a o q
  · obtain ⟨ws, q1, q2, q3, q4⟩ := l.ob n a zs h1 h2
    exact ⟨ws, q1, RepL.mono le _ _ q2, q3, by rw [upd_ne (by rintro rfl; exact d3 n zs h2 h1)]; exact q4⟩
  · have ha : a ≠ D := by rintro rfl; rw [hR] at q; cases q
    obtain ⟨q1, q2, q3⟩ := l.fr a o (by rw [upd_ne ha]; exact q)
    exact ⟨q1, by rw [upd_ne ha]; exact q2, q3⟩
theorem lk_keepM {F R H : Hp} {μ : List Addr} {S : Sto} {D : Addr} {us : List V} {ys : List PyData} (l : Lk K F (upd R D (.lst us)) μ S H) (hR : R D = none) (r : RepL K F ys us) (z : us.length ≤ sizeLine) :
    Lk K F R (μ ++ [D]) (S ++ [Ob.lst ys]) H ∧ Ext F μ F (μ ++ [D]) := by
  obtain ⟨d1, d2, d3⟩ := l.fr D _ upd_same
  have old : ∀ (n : Nat) (a : Addr) (zs : List PyData), (μ ++ [D])[n]? = some a → (S ++ [Ob.lst ys])[n]? = some (Ob.lst zs) → (n < S.length ∧ μ[n]? = some a ∧ S[n]? = some (Ob.lst zs)) ∨ (n = S.length ∧ a = D ∧ zs = ys) := fun n a zs h1 h2 => by
    by_cases hn : n < S.length
    · rw [List.getElem?_append_left (by rw [l.len]; exact hn)] at h1
      rw [List.getElem?_append_left hn] at h2
      exact .inl ⟨hn, h1, h2⟩
    · have hn2 := (List.getElem?_eq_some_iff.mp h2).1
      rw [List.length_append, List.length_singleton] at hn2
      have e : n = S.length := by omega
      subst e
      rw [← l.len] at h1
      simp at h1 h2
      exact .inr ⟨rfl, h1.symm, h2.symm⟩
  refine ⟨⟨l.le, by simp [l.len], fun n a zs h1 h2 => ?_, fun a o q => ?_, fun n m a zs ws h1 h2 h3 h4 => ?_⟩, fun _ _ h => h, [D], rfl⟩
  · rcases old n a zs h1 h2 with ⟨_, g1, g2⟩ | ⟨_, rfl, rfl⟩
    · exact l.ob n a zs g1 g2
    · exact ⟨us, d1, r, z, d2⟩
  · have ha : a ≠ D := by rintro rfl; rw [hR] at q; cases q
    obtain ⟨q1, q2, q3⟩ := l.fr a o (by rw [upd_ne ha]; exact q)
    refine ⟨q1, q2, fun n zs h2 h1 => ?_⟩
    rcases old n a zs h1 h2 with ⟨_, g1, g2⟩ | ⟨_, g, _⟩
    · exact q3 n zs g2 g1
    · exact ha g
  · rcases old n a zs h1 h2 with ⟨_, g1, g2⟩ | ⟨e1, rfl, rfl⟩
    · rcases old m a ws h3 h4 with ⟨_, g3, g4⟩ | ⟨_, rfl, _⟩
      · exact l.dj n m a zs ws g1 g2 g3 g4
      · exact absurd g1 (d3 n zs g2)
    · rcases old m a ws h3 h4 with ⟨_, g3, g4⟩ | ⟨e2, _, _⟩
      · exact absurd g3 (d3 m ws g4)
      · rw [e1, e2]
theorem lcF_of {m : MI} {is : List Nat} {f : PyData → Sl → Option Sl} {c : MT} {e : ME} {vs : List Nat} (his : ∀ i ∈ is, i ∈ vs) (σ : L2.St) (H : Hp) (Q : VK) (q : tE K (mLc m f c e vs) σ H Q) : tLc (tI K m) (tG K is f) (tT K c) (tE K e) vs σ H Q := by
  obtain ⟨F, R, μ, env, S, w, S', sl, l, e, k⟩ := q
  simp only [mLc, Option.bind_eq_some_iff, Option.map_eq_some_iff] at e
  obtain ⟨⟨xs, g, S1⟩, e1, ⟨ys, S2⟩, e2, e3⟩ := e
  cases e3
  refine tLc_of his sl l e1 e2 fun F2 μ2 D us H2 x2 l2 hR r z => ?_
  obtain ⟨l3, x3⟩ := lk_keepF l2 hR
  exact k _ μ2 _ H2 (x2.trans x3) l3 ⟨D, us, rfl, upd_same, z, RepL.mono x3.1 _ _ r⟩
theorem lcM_of {m : MI} {is : List Nat} {f : PyData → Sl → Option Sl} {c : MT} {e : ME} {vs : List Nat} (his : ∀ i ∈ is, i ∈ vs) (σ : L2.St) (H : Hp) (Q : VK) (q : tE K (mLcM m f c e vs) σ H Q) : tLc (tI K m) (tG K is f) (tT K c) (tE K e) vs σ H Q := by
  obtain ⟨F, R, μ, env, S, w, S', sl, l, e, k⟩ := q
  simp only [mLcM, Option.bind_eq_some_iff, Option.map_eq_some_iff] at e
  obtain ⟨⟨xs, g, S1⟩, e1, ⟨ys, S2⟩, e2, e3⟩ := e
  cases e3
  refine tLc_of his sl l e1 e2 fun F2 μ2 D us H2 x2 l2 hR r z => ?_
  obtain ⟨l3, x3⟩ := lk_keepM l2 hR r z
  refine k _ _ _ H2 (x2.trans x3) l3 ⟨D, ?_, rfl⟩
  rw [← l2.len]
  simp
section
variable {elt tg iter : Expr} {ifs : List Expr} {scope : Scope} {own : List (Str × Nat)} {pos : Pos} {m : MI} {is : List Nat} {f : PyData → Sl → Option Sl} {c : MT} {e : ME}
theorem se_lc (his : ∀ i ∈ is, i ∈ own.map (·.2)) (hc : X.calm = true) (hN : X.N.Nodup) (hi : SimI X tg iter m) (ok : BlkOk X.N X.env.scope scope own)
    (hg : ∀ (s : Shared) (H : Hp) (C : Addr) (cl : List (Str × Addr)) (fp : List Addr), SimG (X.blk s H scope (compEnvC scope cl C X.env) fp) tg is f) (ht : ∀ (s : Shared) (H : Hp) (C : Addr) (cl : List (Str × Addr)) (fp : List Addr), SimTs (X.blk s H scope (compEnvC scope cl C X.env) fp) ifs c)
    (he : ∀ (s : Shared) (H : Hp) (C : Addr) (cl : List (Str × Addr)) (fp : List Addr), SimE (X.blk s H scope (compEnvC scope cl C X.env) fp) elt e) (hs : ∀ x, foldedSetIterable iter X.env x = pure x := by intro _; rfl) :
    SimE X (.ListComp elt [⟨tg, iter, ifs, 0⟩] scope pos) (mLc m f c e (own.map (·.2))) := pe_imp (pe_lc (g := tG X.K is f) (tt := tT X.K c) (te := tE X.K e) hc hN hi ok hg ht he hs) (lcF_of his)
theorem se_lcM (his : ∀ i ∈ is, i ∈ own.map (·.2)) (hc : X.calm = true) (hN : X.N.Nodup) (hi : SimI X tg iter m) (ok : BlkOk X.N X.env.scope scope own)
    (hg : ∀ (s : Shared) (H : Hp) (C : Addr) (cl : List (Str × Addr)) (fp : List Addr), SimG (X.blk s H scope (compEnvC scope cl C X.env) fp) tg is f) (ht : ∀ (s : Shared) (H : Hp) (C : Addr) (cl : List (Str × Addr)) (fp : List Addr), SimTs (X.blk s H scope (compEnvC scope cl C X.env) fp) ifs c)
    (he : ∀ (s : Shared) (H : Hp) (C : Addr) (cl : List (Str × Addr)) (fp : List Addr), SimE (X.blk s H scope (compEnvC scope cl C X.env) fp) elt e) (hs : ∀ x, foldedSetIterable iter X.env x = pure x := by intro _; rfl) :
    SimE X (.ListComp elt [⟨tg, iter, ifs, 0⟩] scope pos) (mLcM m f c e (own.map (·.2))) := pe_imp (pe_lc (g := tG X.K is f) (tt := tT X.K c) (te := tE X.K e) hc hN hi ok hg ht he hs) (lcM_of his)
theorem ss_setLc (i : Nat) {y : Str} {py spos : Pos} (his : ∀ i ∈ is, i ∈ own.map (·.2)) (hc : X.calm = true) (hN : X.N.Nodup) (hy : X.N[i]? = some y) (hyl : X.env.scope.names.lookup y = some .local)
    (hsw : swapsWith (.ListComp elt [⟨tg, iter, ifs, 0⟩] scope pos) (some (.Name y py)) spos.line X.env = pure true) (hi : SimI X tg iter m) (ok : BlkOk X.N X.env.scope scope own)
    (hg : ∀ (s : Shared) (H : Hp) (C : Addr) (cl : List (Str × Addr)) (fp : List Addr), SimG (X.blk s H scope (compEnvC scope cl C X.env) fp) tg is f) (ht : ∀ (s : Shared) (H : Hp) (C : Addr) (cl : List (Str × Addr)) (fp : List Addr), SimTs (X.blk s H scope (compEnvC scope cl C X.env) fp) ifs c)
    (he : ∀ (s : Shared) (H : Hp) (C : Addr) (cl : List (Str × Addr)) (fp : List Addr), SimE (X.blk s H scope (compEnvC scope cl C X.env) fp) elt e) (hs : ∀ x, foldedSetIterable iter X.env x = pure x := by intro _; rfl) :
    SimS X (.Assign [.Name y py] (.ListComp elt [⟨tg, iter, ifs, 0⟩] scope pos) spos) (mAsg i (mLc m f c e (own.map (·.2)))) :=
  ps_imp (ps_setLc (g := tG X.K is f) (tt := tT X.K c) (te := tE X.K e) hc hN hy hyl hsw hi ok hg ht he hs) fun D σ H q => lcF_of his σ H _ (tSet_of D σ H q)
theorem ss_setLcM (i : Nat) {y : Str} {py spos : Pos} (his : ∀ i ∈ is, i ∈ own.map (·.2)) (hc : X.calm = true) (hN : X.N.Nodup) (hy : X.N[i]? = some y) (hyl : X.env.scope.names.lookup y = some .local)
    (hsw : swapsWith (.ListComp elt [⟨tg, iter, ifs, 0⟩] scope pos) (some (.Name y py)) spos.line X.env = pure true) (hi : SimI X tg iter m) (ok : BlkOk X.N X.env.scope scope own)
    (hg : ∀ (s : Shared) (H : Hp) (C : Addr) (cl : List (Str × Addr)) (fp : List Addr), SimG (X.blk s H scope (compEnvC scope cl C X.env) fp) tg is f) (ht : ∀ (s : Shared) (H : Hp) (C : Addr) (cl : List (Str × Addr)) (fp : List Addr), SimTs (X.blk s H scope (compEnvC scope cl C X.env) fp) ifs c)
    (he : ∀ (s : Shared) (H : Hp) (C : Addr) (cl : List (Str × Addr)) (fp : List Addr), SimE (X.blk s H scope (compEnvC scope cl C X.env) fp) elt e) (hs : ∀ x, foldedSetIterable iter X.env x = pure x := by intro _; rfl) :
    SimS X (.Assign [.Name y py] (.ListComp elt [⟨tg, iter, ifs, 0⟩] scope pos) spos) (mAsg i (mLcM m f c e (own.map (·.2)))) :=
  ps_imp (ps_setLc (g := tG X.K is f) (tt := tT X.K c) (te := tE X.K e) hc hN hy hyl hsw hi ok hg ht he hs) fun D σ H q => lcM_of his σ H _ (tSet_of D σ H q)
end
end
/-! Sim, part H: enumerate of a tuple; what is walked. -/
open AutoSeq1 (wpAny_loadPart')
theorem meets_enumerate_newT (l : Addr) (items : Array Value) (n : Nat) (dct : Option Addr) (sl : Array (Option Value)) :
    Meets (Builtin.«enumerate.__new__» ⟨[.type "enumerate", .ref l], []⟩) (fun _ R s => s.heap.get? l = some { cls := .type "tuple", dict := dct, data := .seq items n, slots := sl } ∧
      R (.ok (.ret (.ref (s.heap.push { cls := .type "tuple_iterator", data := .fields #[.ref l, .int 0 0] }).objs.size)))
        { s with heap := (s.heap.push { cls := .type "tuple_iterator", data := .fields #[.ref l, .int 0 0] }).push { cls := .type "enumerate", data := .fields #[.none, .bool false, .ref s.heap.objs.size, rawInt 0, .none, .none] } }) :=
  .of_wp fun prog w A R s h => by
    obtain ⟨hp, g, d, tk, os⟩ := s; obtain ⟨hl, h⟩ := h
    have hsub := sub_enumerate
    have hL : Heap.IsTuple (Shared.heap ⟨hp, g, d, tk, os⟩) l items := ⟨_, hl, rfl, n, rfl⟩
    wp_walk using wpAny_loadPart' hl
    refine wpAny_stack_any fun st => wpAny_pure ?_
    split
    · rename_i c _ _ _ _ _
      cases (c == Value.type "enumerate")
      · wp_walk using wpAny_loadPart' hl, wpAny_pyIter_tuple hL
        exact ⟨_, rfl, h⟩
      · wp_walk using wpAny_loadPart' hl, wpAny_pyIter_tuple hL
        exact ⟨_, rfl, h⟩
    · wp_walk using wpAny_loadPart' hl, wpAny_pyIter_tuple hL
      exact ⟨_, rfl, h⟩
section
variable {prog : Program} {w : World} {A : Around} {E : Value → Shared → Prop} {s : Shared}
theorem call_enumerate_tuple {l : Addr} {items : Array Value} {Q : Value → Shared → Prop} (hL : s.heap.IsTuple l items)
    (h : ∀ h', IsEnum h' (s.heap.objs.size + 1) s.heap.objs.size 0 .none → h'.IsTupleIter s.heap.objs.size l 0 → h'.objs.size = s.heap.objs.size + 2 →
      (∀ b o, s.heap.get? b = some o → h'.get? b = some o) → Q (.ref (s.heap.objs.size + 1)) { s with heap := h' }) :
    wpAny (model prog w) A (call (.type "enumerate") [.ref l]) Q E s := by
  obtain ⟨⟨c, dct, dt, sl⟩, hl, hc, n, hd⟩ := hL
  replace hc : c = .type "tuple" := hc
  replace hd : dt = .seq items n := hd
  subst hc hd
  refine callType_new F.called_enumerate (by decide) (F.typeCall_enumerate_1 _) (F.newCall_enumerate_1 _) (fun obj => F.args_object_init_2 obj _) F.entry_enumerate_new
    (meets_enumerate_newT l items n dct sl) ⟨hl, ?_⟩
  have hz : (s.heap.push { cls := .type "tuple_iterator", data := .fields #[.ref l, .int 0 0] }).objs.size = s.heap.objs.size + 1 := Heap.size_push ..
  show _ ∧ _
  rw [hz]
  have he : IsEnum ((s.heap.push { cls := .type "tuple_iterator", data := .fields #[.ref l, .int 0 0] }).push
      { cls := .type "enumerate", data := .fields #[.none, .bool false, .ref s.heap.objs.size, rawInt 0, .none, .none] }) (s.heap.objs.size + 1) s.heap.objs.size 0 .none := by
    have := Heap.get?_push_size (s.heap.push { cls := .type "tuple_iterator", data := .fields #[.ref l, .int 0 0] })
      (o := { cls := .type "enumerate", data := .fields #[.none, .bool false, .ref s.heap.objs.size, rawInt 0, .none, .none] }) rfl
    rw [hz] at this; exact this
  refine ⟨⟨_, he, rfl⟩, h _ he ⟨_, Heap.get?_push_of_some _ (Heap.get?_push_size _ rfl), rfl, rfl⟩ (by rw [Heap.size_push, hz]) fun b o x => Heap.get?_push_of_some _ (Heap.get?_push_of_some _ x)⟩
end
def IteT (K : PySem.W.Frag) (a : Addr) : It :=
  ⟨fun i H => ∃ (xs : List V) (x : V), SqT K H a xs ∧ xs[i]? = some x, fun i H v H' => ∃ T x, v = .ref T ∧ H T = none ∧ H' = upd H T (.tup [.int (i : Nat), x]) ∧ ∀ xs, SqT K H a xs → xs[i]? = some x, fun i H => ∃ xs : List V, SqT K H a xs ∧ xs.length = i⟩
theorem turn_enumT {P : Program} {w : World} {K : PySem.W.Frag} {elts : List Expr} {kk : Nat} {tpos : Pos} (a e it : Addr) :
    Turn P w K (.Tuple elts kk tpos) (IteT K a) [e, it] e (fun i h => (∃ old, IsEnum h e it ((i : Nat) : Int) old) ∧ h.IsTupleIter it a i ∧ e ≠ it ∧ a ≠ it ∧ e ≠ a) where
  mem := by simp
  obj := fun i h st b hb => by
    obtain ⟨⟨old, he⟩, ⟨o, ho, hc, hd⟩, _⟩ := st
    have e' : b = e ∨ b = it := by simpa using hb
    rcases e' with z | z
    · rw [z]; exact ⟨_, he, fun v q => nomatch q⟩
    · rw [z]; exact ⟨o, ho, fun v q => by rw [hd] at q; cases q⟩
  keep := fun i h h' st k => let ⟨⟨old, he⟩, hi, hne⟩ := st; ⟨⟨old, k e (by simp) _ he⟩, hi.at fun o q => k it (by simp) o q, hne⟩
  item := by
    intro X hP hw hK hc i pins s σ H E I hf st hg
    subst hP hw hK
    obtain ⟨⟨old, he⟩, hit, hne, hai, hea⟩ := st
    obtain ⟨xs, x, hq, hx⟩ := hg
    obtain ⟨its, rv, p, hz⟩ := I.tuple hq
    obtain ⟨u, hu, ru⟩ := rv.get hx
    have hel : e < s.heap.objs.size := Heap.lt_size he
    have hil : it < s.heap.objs.size := by obtain ⟨_, q, _⟩ := hit; exact Heap.lt_size q
    have hlt : i < its.toArray.size := by
      have := (List.getElem?_eq_some_iff.mp hu).1
      simpa using this
    refine wpAny_pyNext_enum_itemD (Draws.tuple (show X.A.in1.handled = none from I.ok.hd hc) it a hai its.toArray) he ⟨hit, p⟩ hlt hne (by simp; exact ⟨hne, hea⟩) fun u' h' tk hu' ho hst' hT hsz hk => ?_
    have eu : u' = u := by
      have h1 : its[i]? = some u' := by simpa using hu'
      rw [hu] at h1
      exact (Option.some.inj h1).symm
    subst eu
    refine ⟨_, rfl, wpAny_letOwnedTupleGo_enum (s := { s with heap := h', toks := tk + 1 }) ho fun h'' he' sb => ?_⟩
    have hT2 : h''.get? s.heap.objs.size = some { cls := .type "tuple", data := .seq #[.int i tk, u'] } := (sb.2 _ (Nat.ne_of_gt hel)).trans hT
    have new : ObjOk X.prog X.w (upd H s.heap.objs.size (.tup [.int (i : Nat), x])) h'' s.heap.objs.size (.tup [.int (i : Nat), x]) :=
      ⟨by show 2 ≤ sizeLine; decide, [.int i tk, u'], .cons ⟨_, rfl⟩ (.cons ru .nil), ⟨_, hT2, rfl, _, rfl⟩⟩
    have I1 : Inv X pins σ (upd H s.heap.objs.size (.tup [.int (i : Nat), x])) { s with heap := h'', toks := tk + 1 } :=
      I.turnedNew (ch := [e, it]) (fun b ob hb q => (sb.2 b (fun z => hb (by simp [z]))).trans (hk b ob (fun z => hb (by simp [z])) (fun z => hb (by simp [z])) q)) hf (Nat.le_refl _) new
    refine ⟨.ref s.heap.objs.size, _, I1, rfl, ⟨_, x, rfl, I.hok.fresh (Nat.le_refl _), rfl, fun ys hy => by rw [I.tuple_inj hy hq]; exact hx⟩, ⟨⟨u', ?_⟩, hst'.1.at fun o q => (sb.2 it (Ne.symm hne)).trans q, hne, hai, hea⟩, fun b hb => ?_⟩
    · have e1 : ((i + 1 : Nat) : Int) = (i : Int) + 1 := by omega
      rw [e1]; exact he'
    · have hb' : b < s.heap.objs.size := by
        have e' : b = e ∨ b = it := by simpa using hb
        rcases e' with z | z
        · rw [z]; exact hel
        · rw [z]; exact hil
      rw [upd_ne (Nat.ne_of_lt hb')]
      exact (hf b hb).1
  done := by
    intro X hP hw hK hc i pins s σ H E I hf st hg
    subst hP hw hK
    obtain ⟨⟨old, he⟩, hit, hne, hai, hea⟩ := st
    obtain ⟨xs, hq, hx⟩ := hg
    obtain ⟨its, rv, p, hz⟩ := I.tuple hq
    obtain ⟨f0, f1, f2, f3, f4, f5⟩ := hf it (by simp)
    have hl := rv.length
    have hit' : s.heap.IsTupleIter it a its.toArray.size := by
      rw [show its.toArray.size = i by simp; omega]; exact hit
    exact wpAny_pyNext_enum_endD (Draws.tuple (show X.A.in1.handled = none from I.ok.hd hc) it a hai its.toArray) he ⟨hit', p⟩ fun h' eb => ⟨rfl, I.turned (t' := s.toks) (fun b o hb q => eb b o hb q) f0 f1 f3 f4 f5⟩
  self := fun A i s Q E st h => let ⟨⟨_, he⟩, _⟩ := st; wpAny_pyIter_enum he h
theorem walk_enumT {K : PySem.W.Frag} {a : Addr} {xs : List V} : Walk (IteT K a) xs.length (fun H => SqT K H a xs) (YPair (fun i => some (.int (i : Nat))) (fun i => xs[i]?)) := by
  refine ⟨fun i _ hi q => ⟨xs, xs[i], q, by simp [hi]⟩, fun _ q => ⟨xs, q, rfl⟩, fun i H v H' _ q y => ?_⟩
  obtain ⟨T, x, h1, h2, h3, h4⟩ := y
  exact ⟨T, .int (i : Nat), x, h1, h2, h3, rfl, h4 xs q⟩
/-- enumerate of a list, of a tuple -/
def iEnumA (K : PySem.W.Frag) (ta : TA) : TI := fun σ H R => ta σ H fun vs H1 => ∃ a xs, vs = [.ref a] ∧ ((SqL K H1 a xs ∧ R (Ite K a) H1) ∨ (SqT K H1 a xs ∧ R (IteT K a) H1))
theorem pi_enumA {X : Cx} {e : Expr} {ta : TA} {p pos tpos : Pos} {elts : List Expr} {kk : Nat} (hg : Gl X "enumerate") (hm : X.mg "enumerate" = none) (ha : PA X [e] ta) (hs : starEach [e] X.env = [(false, eval e X.env)] := by rfl) :
    PI X (.Tuple elts kk tpos) (.Call (.Name "enumerate" p) [e] [] pos) (iEnumA X.K ta) := by
  refine ⟨fun pins s σ H R I h => ?_⟩
  refine Call_ (ld_blt I hg hm boot_enumerate (PyProof.Rows.callWith_type1 (thn (ha.run pos pins s σ H _ I h) fun us s1 ⟨vs, H1, I1, r1, q1⟩ => ?_) hs rfl))
  obtain ⟨a, xs, ex, q1⟩ := q1
  subst ex
  cases r1 with
  | cons r rr =>
    cases rr
    cases r
    have fp : ∀ b ∈ [s1.heap.objs.size + 1, s1.heap.objs.size], FpOk X pins H1 b := fun b hb => by
      have e' : b = s1.heap.objs.size + 1 ∨ b = s1.heap.objs.size := by simpa using hb
      have hle : s1.heap.objs.size ≤ b := by
        rcases e' with z | z
        · rw [z]; exact Nat.le_add_right _ _
        · rw [z]; exact Nat.le_refl _
      exact I1.fpOk hle (I1.hok.fresh hle)
    rcases q1 with ⟨hq, q⟩ | ⟨hq, q⟩
    · obtain ⟨its, rv, p', hz⟩ := I1.list hq
      refine call_enumerate_list p'.isList fun h' he hit hsz hk => wpAny_pyIter_enum he ?_
      have I2 : Inv X pins σ H1 { s1 with heap := h' } := I1.kept (t' := s1.toks) hk
      exact ⟨s1.heap.objs.size + 1, [s1.heap.objs.size + 1, s1.heap.objs.size], _, _, H1, rfl, I2, turn_enum a (s1.heap.objs.size + 1) s1.heap.objs.size, ⟨⟨.none, he⟩, hit, Nat.succ_ne_self _⟩, fp, q⟩
    · obtain ⟨its, rv, p', hz⟩ := I1.tuple hq
      have hlt : a < s1.heap.objs.size := IsTup.lt p'
      refine call_enumerate_tuple (show s1.heap.IsTuple a its.toArray from p') fun h' he hit hsz hk => wpAny_pyIter_enum he ?_
      have I2 : Inv X pins σ H1 { s1 with heap := h' } := I1.kept (t' := s1.toks) hk
      exact ⟨s1.heap.objs.size + 1, [s1.heap.objs.size + 1, s1.heap.objs.size], _, _, H1, rfl, I2, turn_enumT a (s1.heap.objs.size + 1) s1.heap.objs.size, ⟨⟨.none, he⟩, hit, Nat.succ_ne_self _, Nat.ne_of_lt hlt, Nat.ne_of_gt (Nat.lt_succ_of_lt hlt)⟩, fp, q⟩
/-! Sim, part J: what is walked; calls; a def's promise. -/
/-- a sequence that is walked, and what must stay so meanwhile -/
def srcW (w : W) (S : Sto) : Option (List PyData × (Sto → Prop)) := match w with
  | .r n => match S[n]? with
    | some (Ob.lst xs) => some (xs, fun S' => S'[n]? = some (Ob.lst xs))
    | _ => none
  | w => (seqL S w).map fun xs => (xs, fun _ => True)
def SrcOk (K : PySem.W.Frag) (F : Hp) (μ : List Addr) (xs : List PyData) (g : Sto → Prop) (P : Hp → List V → Prop) : Prop :=
  ∀ F' R' μ' S' H', Ext F μ F' μ' → Lk K F' R' μ' S' H' → g S' → ∃ vs, P H' vs ∧ RepL K F' xs vs ∧ vs.length ≤ sizeLine
section
variable {X : Cx} {K : PySem.W.Frag} {F R H : Hp} {μ : List Addr} {S : Sto}
theorem src_ok (l : Lk K F R μ S H) {w : W} {v : V} {xs : List PyData} {g : Sto → Prop} (r : RepW K F μ w v) (e : srcW w S = some (xs, g)) :
    g S ∧ ∃ a, v = .ref a ∧ (SrcOk K F μ xs g (fun H vs => SqL K H a vs) ∨ SrcOk K F μ xs g (fun H vs => SqT K H a vs)) := by
  cases w with
  | r n =>
    simp only [srcW] at e
    split at e <;> simp at e
    rename_i ys hs
    obtain ⟨rfl, rfl⟩ := e
    obtain ⟨a, hn, rfl⟩ := r
    refine ⟨hs, a, rfl, .inl fun F' R' μ' S' H' x l' hg => ?_⟩
    obtain ⟨vs, h1, h2, h3, _⟩ := l'.ob n a ys (x.at hn) hg
    exact ⟨vs, SqL.of h1, h2, h3⟩
  | d y =>
    have e' : (seqL S (.d y)).map (fun xs => (xs, fun _ => True)) = some (xs, g) := e
    simp only [Option.map_eq_some_iff] at e'
    obtain ⟨ys, e1, e2⟩ := e'
    cases e2
    refine ⟨trivial, ?_⟩
    cases y with
    | tuple zs =>
      cases e1
      obtain ⟨a, vs, rfl, h1, h2, h3⟩ := r
      exact ⟨a, rfl, .inr fun F' R' μ' S' H' x l' _ => ⟨vs, SqT.mono (fun a o q => l'.le a o (x.1 a o q)) h1, RepL.mono x.1 _ _ h3, h2⟩⟩
    | list zs =>
      cases e1
      obtain ⟨a, vs, rfl, h1, h2, h3⟩ := r
      exact ⟨a, rfl, .inl fun F' R' μ' S' H' x l' _ => ⟨vs, SqL.of (l'.le _ _ (x.1 _ _ h1)), RepL.mono x.1 _ _ h3, h2⟩⟩
    | dict kvs =>
      obtain ⟨a, ns, rfl, rfl, h, z⟩ := r
      simp [seqL, lsL] at e1
      subst e1
      exact ⟨a, rfl, .inl fun F' R' μ' S' H' x l' _ => ⟨ns.map V.int, SqL.mono (fun a o q => l'.le a o (x.1 a o q)) h, RepL.ints ns, by simpa using z⟩⟩
    | none => simp [seqL, lsL, getL] at e1
    | bool b => simp [seqL, lsL, getL] at e1
    | int b => simp [seqL, lsL, getL] at e1
    | str b => simp [seqL, lsL, getL] at e1
theorem SrcOk.len {xs : List PyData} {g : Sto → Prop} {P : Hp → List V → Prop} (l : Lk K F R μ S H) (hg : g S) (s : SrcOk K F μ xs g P) : xs.length ≤ sizeLine := by
  obtain ⟨vs, _, h2, h3⟩ := s F R μ S H (.refl _ _) l hg
  rw [← h2.length]; exact h3
/-! plain -/
theorem wd_list {a : Addr} {xs : List PyData} {g : Sto → Prop} (hz : xs.length ≤ sizeLine) (s : SrcOk K F μ xs g (fun H vs => SqL K H a vs)) : WalkD K F R μ (Itl K a) xs g := by
  refine ⟨hz, fun H => ∃ vs, SqL K H a vs ∧ vs.length = xs.length, fun i H x H' => H' = H ∧ ∀ vs, SqL K H a vs → vs[i]? = some x, ⟨fun i H hi ⟨vs, h, hl⟩ => ⟨vs, vs[i], h, by simp⟩, fun H ⟨vs, h, hl⟩ => ⟨vs, h, Nat.le_of_eq hl⟩, fun i H x H' hi _ y => y⟩, fun F' R' μ' S H x l hg => ?_, fun F' R' μ' S H i x H' x1 l hg hi y => ?_⟩
  · obtain ⟨vs, h1, h2, _⟩ := s F' R' μ' S H x l hg
    exact ⟨vs, h1, h2.length⟩
  · obtain ⟨rfl, y⟩ := y
    obtain ⟨vs, h1, h2, _⟩ := s F' R' μ' S H' x1 l hg
    obtain ⟨v, e1, e2⟩ := h2.at (List.getElem?_eq_getElem hi)
    have := y vs h1
    rw [e1] at this
    cases this
    exact ⟨F', xs[i], .refl _ _, l, List.getElem?_eq_getElem hi, e2, fun _ _ h => h⟩
theorem wd_tup {a : Addr} {xs : List PyData} {g : Sto → Prop} (hz : xs.length ≤ sizeLine) (s : SrcOk K F μ xs g (fun H vs => SqT K H a vs)) : WalkD K F R μ (Itt K a) xs g := by
  refine ⟨hz, fun H => ∃ vs, SqT K H a vs ∧ vs.length = xs.length, fun i H x H' => H' = H ∧ ∀ vs, SqT K H a vs → vs[i]? = some x, ⟨fun i H hi ⟨vs, h, hl⟩ => ⟨vs, vs[i], h, by simp⟩, fun H ⟨vs, h, hl⟩ => ⟨vs, h, Nat.le_of_eq hl⟩, fun i H x H' hi _ y => y⟩, fun F' R' μ' S H x l hg => ?_, fun F' R' μ' S H i x H' x1 l hg hi y => ?_⟩
  · obtain ⟨vs, h1, h2, _⟩ := s F' R' μ' S H x l hg
    exact ⟨vs, h1, h2.length⟩
  · obtain ⟨rfl, y⟩ := y
    obtain ⟨vs, h1, h2, _⟩ := s F' R' μ' S H' x1 l hg
    obtain ⟨v, e1, e2⟩ := h2.at (List.getElem?_eq_getElem hi)
    have := y vs h1
    rw [e1] at this
    cases this
    exact ⟨F', xs[i], .refl _ _, l, List.getElem?_eq_getElem hi, e2, fun _ _ h => h⟩
theorem pi_seqA {tg l : Expr} {tl : TE} (hl : PE X l tl) : PI X tg l (fun σ H R => tl σ H fun x H1 => ∃ a, x = .ref a ∧ (((∃ xs, SqL X.K H1 a xs) ∧ R (Itl X.K a) H1) ∨ ((∃ xs, SqT X.K H1 a xs) ∧ R (Itt X.K a) H1))) := by
  refine ⟨fun pins s σ H R I h => ?_⟩
  refine thn (hl.run pins s σ H _ I h) fun v s1 ⟨x, H1, I1, r1, q1⟩ => ?_
  obtain ⟨a, e, q⟩ := q1
  subst e
  cases r1
  rcases q with ⟨⟨xs, hq⟩, q⟩ | ⟨⟨xs, hq⟩, q⟩
  · obtain ⟨its, rv, p, hz⟩ := I1.list hq
    refine wpAny_pyIter_list p.isList ?_
    refine ⟨s1.heap.objs.size, [s1.heap.objs.size], _, _, H1, rfl, I1.kept (t' := s1.toks) fun b o e => Heap.get?_push_of_some _ e, turn_list a _, ⟨_, Heap.get?_push_size _ rfl, rfl, rfl⟩, fun b hb => ?_, q⟩
    have e : b = s1.heap.objs.size := by simpa using hb
    subst e
    exact I1.fpOk (Nat.le_refl _) (I1.hok.fresh (Nat.le_refl _))
  · obtain ⟨its, rv, p, hz⟩ := I1.tuple hq
    refine wpAny_pyIter_tuple (show s1.heap.IsTuple a its.toArray from p) ?_
    refine ⟨s1.heap.objs.size, [s1.heap.objs.size], _, _, H1, rfl, I1.kept (t' := s1.toks) fun b o e => Heap.get?_push_of_some _ e, turn_tuple a _, ⟨_, Heap.get?_push_size _ rfl, rfl, rfl⟩, fun b hb => ?_, q⟩
    have e : b = s1.heap.objs.size := by simpa using hb
    subst e
    exact I1.fpOk (Nat.le_refl _) (I1.hok.fresh (Nat.le_refl _))
def mIt (m : ME) : MI := fun env S => (m env S).bind fun p => (srcW p.1 p.2).map fun q => (q.1, q.2, p.2)
theorem si_seq {tg e : Expr} {m : ME} (h : SimE X e m) : SimI X tg e (mIt m) := by
  refine pi_imp (pi_seqA h) fun σ H Q q => ?_
  obtain ⟨F, R, μ, env, S, xs, g, S', sl, l, e, k⟩ := q
  simp only [mIt, Option.bind_eq_some_iff, Option.map_eq_some_iff] at e
  obtain ⟨⟨w, S1⟩, e1, ⟨ys, g'⟩, e2, e3⟩ := e
  cases e3
  refine ⟨F, R, μ, env, S, w, S1, sl, l, e1, fun F1 μ1 v H1 x1 l1 r1 => ?_⟩
  obtain ⟨hg, a, rfl, s | s⟩ := src_ok l1 r1 e2
  · obtain ⟨vs, q1, _⟩ := s F1 R μ1 S1 H1 (.refl _ _) l1 hg
    exact ⟨a, rfl, .inl ⟨⟨vs, q1⟩, k F1 μ1 H1 _ x1 l1 (wd_list (SrcOk.len l1 hg s) s)⟩⟩
  · obtain ⟨vs, q1, _⟩ := s F1 R μ1 S1 H1 (.refl _ _) l1 hg
    exact ⟨a, rfl, .inr ⟨⟨vs, q1⟩, k F1 μ1 H1 _ x1 l1 (wd_tup (SrcOk.len l1 hg s) s)⟩⟩
/-! a text -/
noncomputable def mItS (m : ME) : MI := fun env S => (m env S).bind fun p => match p.1 with
  | .d (.str s) => if Ok (s.length ≤ LIM) then some (s.cps.toList.map fun c => .str ⟨#[c]⟩, fun _ => True, p.2) else none
  | _ => none
theorem si_str {tg e : Expr} {m : ME} (h : SimE X e m) : SimI X tg e (mItS m) := by
  refine pi_imp (pi_str h) fun σ H Q q => ?_
  obtain ⟨F, R, μ, env, S, xs, g, S', sl, l, e, k⟩ := q
  simp only [mItS, Option.bind_eq_some_iff] at e
  obtain ⟨⟨w, S1⟩, e1, e2⟩ := e
  refine ⟨F, R, μ, env, S, w, S1, sl, l, e1, fun F1 μ1 v H1 x1 l1 r1 => ?_⟩
  split at e2
  · rename_i s hx
    simp only at hx
    subst hx
    split at e2 <;> simp at e2
    rename_i hz
    try unfold Ok at hz
    obtain ⟨rfl, rfl, rfl⟩ := e2
    cases r1
    refine ⟨s, rfl, k F1 μ1 H1 _ x1 l1 ⟨by rw [List.length_map, Array.length_toList]; exact lim_line hz, fun _ => True, fun i H v H' => H' = H ∧ ∃ c, s.cps[i]? = some c ∧ v = .str ⟨#[c]⟩, ?_, fun _ _ _ _ _ _ _ _ => trivial, fun F' R' μ' S H i x H' x1 l hg hi y => ?_⟩⟩
    · have := walk_str (z := s)
      simpa using this
    · obtain ⟨rfl, c, hc, rfl⟩ := y
      refine ⟨F', .str ⟨#[c]⟩, .refl _ _, l, ?_, rfl, fun _ _ h => h⟩
      rw [List.getElem?_map, Array.getElem?_toList, hc]
      rfl
  · cases e2
/-! ranges -/
def rangeD (lo : Int) (n : Nat) : List PyData := (List.range n).map fun i => .int (lo + (i : Nat))
theorem wd_range {lo : Int} {n : Nat} (hz : n ≤ sizeLine) : WalkD K F R μ (Itr lo n) (rangeD lo n) (fun _ => True) := by
  refine ⟨by simpa [rangeD] using hz, fun _ => True, fun i H x H' => H' = H ∧ x = .int (lo + i), ?_, fun _ _ _ _ _ _ _ _ => trivial, fun F' R' μ' S H i x H' x1 l hg hi y => ?_⟩
  · have : (rangeD lo n).length = n := by simp [rangeD]
    rw [this]
    exact walk_range
  · obtain ⟨rfl, rfl⟩ := y
    have hi' : i < n := by simpa [rangeD] using hi
    refine ⟨F', .int (lo + i), .refl _ _, l, ?_, rfl, fun _ _ h => h⟩
    simp [rangeD, hi']
noncomputable def mRng1 (a : ME) : MI := fun env S => (a env S).bind fun p => match p.1 with
  | .d (.int j) => if Ok (-(2 ^ 62) ≤ j ∧ j ≤ 1000000) then some (rangeD 0 j.toNat, fun _ => True, p.2) else none
  | _ => none
noncomputable def mRng2 (a b : ME) : MI := fun env S => (a env S).bind fun p => (b env p.2).bind fun q => match p.1, q.1 with
  | .d (.int i), .d (.int j) => if Ok (-(2 ^ 61) ≤ i ∧ i ≤ 1000000 ∧ -(2 ^ 61) ≤ j ∧ j ≤ 1000000 ∧ j - i ≤ 1000000) then some (rangeD i (j - i).toNat, fun _ => True, q.2) else none
  | _, _ => none
theorem si_rng1 {tg a : Expr} {ma : ME} {p pos : Pos} (hg : Gl X "range") (hm : X.mg "range" = none) (ha : SimE X a ma) (hs : starEach [a] X.env = [(false, eval a X.env)] := by rfl) : SimI X tg (.Call (.Name "range" p) [a] [] pos) (mRng1 ma) := by
  refine pi_imp (pi_range1 hg hm (pa_cons ha pa_nil hs) hs) fun σ H Q q => ?_
  obtain ⟨F, R, μ, env, S, xs, g, S', sl, l, e, k⟩ := q
  simp only [mRng1, Option.bind_eq_some_iff] at e
  obtain ⟨⟨w, S1⟩, e1, e2⟩ := e
  refine ⟨F, R, μ, env, S, w, S1, sl, l, e1, fun F1 μ1 v H1 x1 l1 r1 => ?_⟩
  split at e2
  · rename_i j hx
    simp only at hx
    subst hx
    split at e2 <;> simp at e2
    rename_i hz
    try unfold Ok at hz
    obtain ⟨rfl, rfl, rfl⟩ := e2
    cases r1
    refine ⟨j, rfl, hz.1, by omega, k F1 μ1 H1 _ x1 l1 (wd_range (lim_line (by unfold LIM; omega)))⟩
  · cases e2
theorem si_rng2 {tg a b : Expr} {ma mb : ME} {p pos : Pos} (hg : Gl X "range") (hm : X.mg "range" = none) (ha : SimE X a ma) (hb : SimE X b mb) (hs : starEach [a, b] X.env = [(false, eval a X.env), (false, eval b X.env)] := by rfl) (hs2 : starEach [b] X.env = [(false, eval b X.env)] := by rfl)
    (hs3 : starEach [a, b] X.env = (false, eval a X.env) :: starEach [b] X.env := by rfl) : SimI X tg (.Call (.Name "range" p) [a, b] [] pos) (mRng2 ma mb) := by
  refine pi_imp (pi_range2 hg hm (pa_cons ha (pa_cons hb pa_nil hs2) hs3) hs hs2) fun σ H Q q => ?_
  obtain ⟨F, R, μ, env, S, xs, g, S', sl, l, e, k⟩ := q
  simp only [mRng2, Option.bind_eq_some_iff] at e
  obtain ⟨⟨w, S1⟩, e1, ⟨w2, S2⟩, e2, e3⟩ := e
  refine ⟨F, R, μ, env, S, w, S1, sl, l, e1, fun F1 μ1 v H1 x1 l1 r1 => ?_⟩
  refine ⟨F1, R, μ1, env, S1, w2, S2, sl.mono x1, l1, e2, fun F2 μ2 v2 H2 x2 l2 r2 => ?_⟩
  split at e3
  · rename_i i j hx hy
    simp only at hx hy
    subst hx hy
    split at e3 <;> simp at e3
    rename_i hz
    try unfold Ok at hz
    obtain ⟨rfl, rfl, rfl⟩ := e3
    cases r1; cases r2
    refine ⟨i, j, rfl, ⟨by omega, by omega, by omega, by omega⟩, k F2 μ2 H2 _ (x1.trans x2) l2 (wd_range (lim_line (by unfold LIM; omega)))⟩
  · cases e3
/-! enumerate -/
def enumD (xs : List PyData) : List PyData := (List.range xs.length).zipWith (fun i x => .tuple [.int (i : Nat), x]) xs
theorem enumD_at {xs : List PyData} {i : Nat} {d : PyData} (h : xs[i]? = some d) : (enumD xs)[i]? = some (.tuple [.int (i : Nat), d]) := by
  have hl := (List.getElem?_eq_some_iff.mp h).1
  unfold enumD
  rw [List.getElem?_zipWith, List.getElem?_range hl, h]
theorem enumD_len (xs : List PyData) : (enumD xs).length = xs.length := by simp [enumD]
theorem lk_pair {F R H : Hp} {μ : List Addr} {S : Sto} {T : Addr} {x y : V} {d e : PyData} (l : Lk K F R μ S H) (hT : H T = none) (r1 : RepD K F d x) (r2 : RepD K F e y) :
    ∃ F'', Ext F μ F'' μ ∧ Lk K F'' R μ S (upd H T (.tup [x, y])) ∧ RepD K F'' (.tuple [d, e]) (.ref T) ∧ ∀ a o, H a = some o → upd H T (.tup [x, y]) a = some o := by
  obtain ⟨l', x'⟩ := lk_newF (o := .tup [x, y]) l hT
  refine ⟨_, x', l', ⟨T, [x, y], rfl, SqT.of upd_same, by show 2 ≤ sizeLine; decide, x, [y], rfl, RepD.mono x'.1 _ _ r1, y, [], rfl, RepD.mono x'.1 _ _ r2, rfl⟩, fun a o q => ?_⟩
  rw [upd_ne (by rintro rfl; rw [hT] at q; cases q)]; exact q
theorem wd_enumL {a : Addr} {xs : List PyData} {g : Sto → Prop} (hz : xs.length ≤ sizeLine) (s : SrcOk K F μ xs g (fun H vs => SqL K H a vs)) : WalkD K F R μ (Ite K a) (enumD xs) g := by
  refine ⟨by rw [enumD_len]; exact hz, fun H => ∃ vs, SqL K H a vs ∧ vs.length = xs.length, fun i H v H' => ∃ T x, v = .ref T ∧ H T = none ∧ H' = upd H T (.tup [.int (i : Nat), x]) ∧ ∀ vs, SqL K H a vs → vs[i]? = some x, ?_, fun F' R' μ' S H x l hg => ?_, fun F' R' μ' S H i x H' x1 l hg hi y => ?_⟩
  · rw [enumD_len]
    exact ⟨fun i H hi ⟨vs, h, hl⟩ => ⟨vs, vs[i], h, by simp⟩, fun H ⟨vs, h, hl⟩ => ⟨vs, h, Nat.le_of_eq hl⟩, fun i H x H' hi _ y => y⟩
  · obtain ⟨vs, h1, h2, _⟩ := s F' R' μ' S H x l hg
    exact ⟨vs, h1, h2.length⟩
  · rw [enumD_len] at hi
    obtain ⟨T, x, rfl, hT, rfl, y⟩ := y
    obtain ⟨vs, h1, h2, _⟩ := s F' R' μ' S H x1 l hg
    obtain ⟨v, e1, e2⟩ := h2.at (List.getElem?_eq_getElem hi)
    have := y vs h1
    rw [e1] at this
    cases this
    obtain ⟨F'', x2, l2, r2, k2⟩ := lk_pair (d := .int (i : Nat)) l hT rfl e2
    exact ⟨F'', _, x2, l2, enumD_at (List.getElem?_eq_getElem hi), r2, k2⟩
theorem wd_enumT {a : Addr} {xs : List PyData} {g : Sto → Prop} (hz : xs.length ≤ sizeLine) (s : SrcOk K F μ xs g (fun H vs => SqT K H a vs)) : WalkD K F R μ (IteT K a) (enumD xs) g := by
  refine ⟨by rw [enumD_len]; exact hz, fun H => ∃ vs, SqT K H a vs ∧ vs.length = xs.length, fun i H v H' => ∃ T x, v = .ref T ∧ H T = none ∧ H' = upd H T (.tup [.int (i : Nat), x]) ∧ ∀ vs, SqT K H a vs → vs[i]? = some x, ?_, fun F' R' μ' S H x l hg => ?_, fun F' R' μ' S H i x H' x1 l hg hi y => ?_⟩
  · rw [enumD_len]
    exact ⟨fun i H hi ⟨vs, h, hl⟩ => ⟨vs, vs[i], h, by simp⟩, fun H ⟨vs, h, hl⟩ => ⟨vs, h, hl⟩, fun i H x H' hi _ y => y⟩
  · obtain ⟨vs, h1, h2, _⟩ := s F' R' μ' S H x l hg
    exact ⟨vs, h1, h2.length⟩
  · rw [enumD_len] at hi
    obtain ⟨T, x, rfl, hT, rfl, y⟩ := y
    obtain ⟨vs, h1, h2, _⟩ := s F' R' μ' S H x1 l hg
    obtain ⟨v, e1, e2⟩ := h2.at (List.getElem?_eq_getElem hi)
    have := y vs h1
    rw [e1] at this
    cases this
    obtain ⟨F'', x2, l2, r2, k2⟩ := lk_pair (d := .int (i : Nat)) l hT rfl e2
    exact ⟨F'', _, x2, l2, enumD_at (List.getElem?_eq_getElem hi), r2, k2⟩
def mEnum (m : ME) : MI := fun env S => (m env S).bind fun p => (srcW p.1 p.2).map fun q => (enumD q.1, q.2, p.2)
theorem si_enum {e : Expr} {m : ME} {p pos tpos : Pos} {elts : List Expr} {kk : Nat} (hg : Gl X "enumerate") (hm : X.mg "enumerate" = none) (h : SimE X e m) (hs : starEach [e] X.env = [(false, eval e X.env)] := by rfl) : SimI X (.Tuple elts kk tpos) (.Call (.Name "enumerate" p) [e] [] pos) (mEnum m) := by
  refine pi_imp (pi_enumA hg hm (pa_cons h pa_nil hs) hs) fun σ H Q q => ?_
  obtain ⟨F, R, μ, env, S, xs, g, S', sl, l, e, k⟩ := q
  simp only [mEnum, Option.bind_eq_some_iff, Option.map_eq_some_iff] at e
  obtain ⟨⟨w, S1⟩, e1, ⟨ys, g'⟩, e2, e3⟩ := e
  cases e3
  refine ⟨F, R, μ, env, S, w, S1, sl, l, e1, fun F1 μ1 v H1 x1 l1 r1 => ?_⟩
  obtain ⟨hg, a, rfl, s | s⟩ := src_ok l1 r1 e2
  · obtain ⟨vs, q1, _⟩ := s F1 R μ1 S1 H1 (.refl _ _) l1 hg
    exact ⟨a, vs, rfl, .inl ⟨q1, k F1 μ1 H1 _ x1 l1 (wd_enumL (SrcOk.len l1 hg s) s)⟩⟩
  · obtain ⟨vs, q1, _⟩ := s F1 R μ1 S1 H1 (.refl _ _) l1 hg
    exact ⟨a, vs, rfl, .inr ⟨q1, k F1 μ1 H1 _ x1 l1 (wd_enumT (SrcOk.len l1 hg s) s)⟩⟩
/-! ### a def's promise; a call -/
abbrev MF := List W → Sto → Option (PyData × Sto)
/-- N names, the body -/
def mDef (n : Nat) (b : MS) : MF := fun ws S => (b (ws.map some ++ List.replicate (n - ws.length) none) S).bind fun p => match p.1 with
  | .rt w => (toD w p.2).map fun q => (q.1, q.2.take S.length)
  | .nx _ => some (.none, p.2.take S.length)
  | _ => none
def spF (K : PySem.W.Frag) (n : Nat) (m : MF) : Sp := fun vs H Q _ => ∃ F R μ S ws d S', ws.length = n ∧ RepWs K F μ ws vs ∧ Lk K F R μ S H ∧ m ws S = some (d, S') ∧ ∀ F' v H', Ext F μ F' μ → Lk K F' R μ S' H' → RepD K F' d v → Q v H'
theorem body_ok {P : Program} {N : List Str} {n : Nat} {m : MF} {b : MS} {sts : List Stmt} {vs : List V} {H : Hp} {Q : VK} {E : XK} (hm : m = mDef N.length b) (hs : SimSs X sts b) (hn : n ≤ N.length)
    (h : spF X.K n m vs H Q E) : ∃ t, PSs X sts t ∧ t { nx := fun _ H' => Q .non H', rt := Q } (L2.start N vs) H := by
  obtain ⟨F, R, μ, S, ws, d, S', hl, r, l, e, k⟩ := h
  refine ⟨_, hs, ?_⟩
  subst hm
  simp only [mDef, Option.bind_eq_some_iff] at e
  obtain ⟨⟨fl, S1⟩, e1, e2⟩ := e
  have rl := r.length
  have sl : SlR X.K F μ (ws.map some ++ List.replicate (N.length - ws.length) none) (L2.start N vs) := by
    unfold L2.start
    rw [rl]
    exact SlR.start _ r
  have back : ∀ {F' : Hp} {μ' : List Addr}, Ext F μ F' μ' → ∀ {S2 : Sto} {H' : Hp}, Lk X.K F' R μ' S2 H' → Lk X.K F' R μ (S2.take S.length) H' ∧ Ext F μ F' μ := fun {F' μ'} x {S2 H'} l' => by
    obtain ⟨x1, ν, rfl⟩ := x
    have := lk_take l' S.length
    rw [← l.len, List.take_left] at this
    rw [← l.len]
    exact ⟨this, x1, [], by simp⟩
  refine ⟨F, R, μ, _, S, fl, S1, sl, l, e1, fun F1 μ1 H1 x1 l1 => ?_⟩
  cases fl with
  | nx env =>
    cases e2
    obtain ⟨l2, x2⟩ := back x1 l1
    exact fun σ _ => k F1 _ H1 x2 l2 rfl
  | rt w =>
    simp only [Option.map_eq_some_iff] at e2
    obtain ⟨⟨z, S2⟩, e3, e4⟩ := e2
    cases e4
    intro v rv
    obtain ⟨F2, x2, l2, r2⟩ := lk_toD l1 rv e3
    obtain ⟨l3, x3⟩ := back (x1.trans x2) l2
    exact k F2 v H1 x3 l3 r2
  | bk env => cases e2
  | ct env => cases e2
theorem sp_len {n : Nat} {m : MF} {ps : List Str} (hn : ps.length = n) (vs : List V) (H : Hp) (Q : VK) (E : XK) (h : spF K n m vs H Q E) : vs.length = ps.length := by
  obtain ⟨F, R, μ, S, ws, d, S', hl, r, _⟩ := h
  rw [r.length, hl, hn]
def mCall (f : MF) (as : MA) : ME := fun env S => (as env S).bind fun p => (f p.1 p.2).map fun q => (.d q.1, q.2)
theorem tCall_of {n : Nat} {f : MF} {as : MA} (hn : ∀ env S ws S', as env S = some (ws, S') → ws.length = n) (σ : L2.St) (H : Hp) (Q : VK) (q : tE K (mCall f as) σ H Q) : tCall (spF K n f) [] E0 (tA K as) σ H Q := by
  obtain ⟨F, R, μ, env, S, w, S', sl, l, e, k⟩ := q
  simp only [mCall, Option.bind_eq_some_iff, Option.map_eq_some_iff] at e
  obtain ⟨⟨ws, S1⟩, e1, ⟨z, S2⟩, e2, e3⟩ := e
  cases e3
  refine ⟨F, R, μ, env, S, ws, S1, sl, l, e1, fun F1 μ1 vs H1 x1 l1 r1 => ?_⟩
  show spF K n f (vs ++ []) H1 Q E0
  rw [List.append_nil]
  exact ⟨F1, R, μ1, S1, ws, z, S2, hn _ _ _ _ e1, r1, l1, e2, fun F' v H' x l' r => k F' μ1 v H' (x1.trans x) l' r⟩
theorem len_nil (env : Sl) (S : Sto) (ws : List W) (S' : Sto) (h : mNil env S = some (ws, S')) : ws.length = 0 := by
  simp [mNil] at h
  obtain ⟨rfl, _⟩ := h
  rfl
theorem len_cons {m : ME} {as : MA} {n : Nat} (h : ∀ env S ws S', as env S = some (ws, S') → ws.length = n) (env : Sl) (S : Sto) (ws : List W) (S' : Sto) (e : mCons m as env S = some (ws, S')) : ws.length = n + 1 := by
  simp only [mCons, Option.bind_eq_some_iff, Option.map_eq_some_iff] at e
  obtain ⟨⟨x, S1⟩, e1, ⟨y, S2⟩, e2, e3⟩ := e
  cases e3
  simp [h _ _ _ _ e2]
/-- what callers know of a def -/
structure Fn (P : Program) (w : World) (K : PySem.W.Frag) (mg : Str → Option Value) (base : Heap) (k : Nat) (x : Str) (ps : List Str) (n : Nat) (m : MF) : Prop where
  ex : ∃ (f : Addr) (fd : FuncData), FnOk P w K mg base CX0 k f fd ps (spF K n m) ∧ mg x = some (.ref f) ∧ PySem.W.keepIn K (.ref f) = true ∧ Binds K fd ps []
theorem Fn.up {P : Program} {w : World} {K : PySem.W.Frag} {mg : Str → Option Value} {base : Heap} {j k : Nat} {x : Str} {ps : List Str} {n : Nat} {m : MF} (h : Fn P w K mg base j x ps n m) (hj : j ≤ k) : Fn P w K mg base k x ps n m := by
  obtain ⟨f, fd, a, b⟩ := h.ex
  exact ⟨f, fd, a.mono hj, b⟩
theorem se_call {e : Expr} {es : List Expr} {as : MA} {p pos : Pos} {k n : Nat} {x : Str} {ps : List Str} {m : MF} (h : Fn X.prog X.w X.K X.mg X.base k x ps n m) (hr : Room k X.A) (hg : Gl X x) (ha : SimA X (e :: es) as)
    (hn : ∀ env S ws S', as env S = some (ws, S') → ws.length = n) (hdb : (x == ("__debug__" : Str)) = false := by decide) (he : starEach (e :: es) X.env = (false, eval e X.env) :: starEach es X.env := by rfl) (hpl : (backTo pos (starEach es X.env)).any (·.1) = false := by rfl) :
    SimE X (.Call (.Name x p) (e :: es) [] pos) (mCall m as) := by
  obtain ⟨f, fd, F, hm, hk, hb⟩ := h.ex
  exact pe_imp (pe_call F hr hg hm hk hb .nil pass0 ha hdb he hpl) (tCall_of hn)
theorem se_call0 {p pos : Pos} {k : Nat} {x : Str} {ps : List Str} {m : MF} (h : Fn X.prog X.w X.K X.mg X.base k x ps 0 m) (hr : Room k X.A) (hg : Gl X x)
    (hdb : (x == ("__debug__" : Str)) = false := by decide) : SimE X (.Call (.Name x p) [] [] pos) (mCall m mNil) := by
  obtain ⟨f, fd, F, hm, hk, hb⟩ := h.ex
  refine pe_imp (pe_call0 F hr hg hm hk hb .nil pass0 hdb) fun σ H Q q => ?_
  have := tCall_of len_nil σ H Q q
  obtain ⟨F, R, μ, env, S, w, S', sl, l, e, k⟩ := q
  simp only [mCall, mNil, Option.bind_some, Option.map_eq_some_iff] at e
  obtain ⟨⟨z, S2⟩, e2, e3⟩ := e
  cases e3
  show spF X.K 0 m ([] ++ []) H Q E0
  exact ⟨F, R, μ, S, [], z, S2, rfl, rfl, l, e2, fun F' v H' x l' r => k F' μ v H' x l' r⟩
end
/-! Sim, part K: a def's theorem; constants; the end of a law. -/
section
variable {P : Program} {w : World} {K : PySem.W.Frag} {mg : Str → Option Value} {base : Heap}
/-- a def by its body -/
theorem fnok_mk {x : Str} {qual : Str} {params : Arguments} {body : List Stmt} {scope : Scope} {f : Addr} {fd : FuncData} {N ps : List Str} {k n : Nat} {m : MF} {b : MS} (hd : FunD K x qual params body scope [] [] f fd) (S : FnScope N ps scope) (hp : ps.length = n)
    (hm : m = mDef N.length b)
    (hs : ∀ (cdv : Value) (A : Around) (outer : List Env) (s : Shared) (H : Hp) (E : XK), Room k (A.deeper (envOfC qual scope s.heap.objs.size f cdv)) → SimSs (cxOf CX0 P w K mg base N qual scope f cdv A outer s H E).nox body b) : FnOk P w K mg base CX0 (k + 1) f fd ps (spF K n m) := by
  have hl : ps.length ≤ N.length := by have := congrArg List.length S.pre; rw [List.length_take] at this; omega
  refine FunD.ok hd S (fun vs H Q E h => sp_len hp vs H Q E h) fun cdv A outer s H vs Q E hr h => ?_
  obtain ⟨t, ht, q⟩ := body_ok (X := (cxOf CX0 P w K mg base N qual scope f cdv A outer s H E).nox) (P := P) hm (hs cdv A outer s H E hr) (n := n) (by omega) h
  exact ⟨t, PSs.nox ht, q⟩
theorem fn_mk {x y : Str} {qual : Str} {params : Arguments} {body : List Stmt} {scope : Scope} {f : Addr} {fd : FuncData} {N ps : List Str} {k n : Nat} {m : MF} {b : MS} (hd : FunD K x qual params body scope [] [] f fd) (hg : mg y = some (.ref f)) (S : FnScope N ps scope) (hp : ps.length = n)
    (hbind : ∀ (kV doc pm : Value) (an : Option Addr) (cdv ct : Value) (us : List Value), us.length = ps.length → bindArgs (PySem.W.fnOf x qual params body scope .none kV doc pm an cdv ct) ⟨us, []⟩ = pure (ps.zip us)) (hm : m = mDef N.length b)
    (hs : ∀ (cdv : Value) (A : Around) (outer : List Env) (s : Shared) (H : Hp) (E : XK), Room k (A.deeper (envOfC qual scope s.heap.objs.size f cdv)) → SimSs (cxOf CX0 P w K mg base N qual scope f cdv A outer s H E).nox body b) : Fn P w K mg base (k + 1) y ps n m :=
  ⟨f, fd, fnok_mk hd S hp hm hs, hg, hd.kp, hd.bindsN hbind⟩
theorem RepL.strs {F : Hp} : ∀ ss : List Str, RepL K F (ss.map PyData.str) (ss.map V.str)
  | [] => rfl
  | s :: ss => ⟨.str s, ss.map V.str, rfl, rfl, RepL.strs ss⟩
/-- a module's tuple of texts -/
theorem se_strs {X : Cx} {x : Str} {pos : Pos} {a : Addr} (ss : List Str) (hg : Gl X x) (hm : X.mg x = some (.ref a)) (h : ∀ H : Hp, SqT X.K H a (ss.map V.str)) (hz : ss.length ≤ 1000) (hd : (x == ("__debug__" : Str)) = false := by decide) :
    SimE X (.Name x pos) (mC (.tuple (ss.map PyData.str))) :=
  se_glob (v := .ref a) hg hm rfl (fun F => ⟨a, ss.map V.str, rfl, h F, by rw [List.length_map]; exact lim_line (by unfold LIM; omega), RepL.strs ss⟩) hd
theorem se_gint {X : Cx} {x : Str} {pos : Pos} {i : Int} (hg : Gl X x) (hm : ∃ t, X.mg x = some (.int i t)) (hd : (x == ("__debug__" : Str)) = false := by decide) : SimE X (.Name x pos) (mC (.int i)) := by
  obtain ⟨t, hm⟩ := hm
  exact se_glob (v := .int i) hg hm ⟨t, rfl⟩ (fun _ => rfl) hd
theorem se_gstr {X : Cx} {x : Str} {pos : Pos} {i : Str} (hg : Gl X x) (hm : ∃ t, X.mg x = some (.str i t)) (hd : (x == ("__debug__" : Str)) = false := by decide) : SimE X (.Name x pos) (mC (.str i)) := by
  obtain ⟨t, hm⟩ := hm
  exact se_glob (v := .str i) hg hm ⟨t, rfl⟩ (fun _ => rfl) hd
end
/-- the law's own promise from what its shallow function tells -/
theorem law_sp {K : PySem.W.Frag} {m : MF} {H : Hp} {a : Addr} {ns : List Int} {S' : Sto} (hz : ns.length ≤ sizeLine) (hS : SqL K H a (ns.map V.int)) (h : m [.d (scr ns)] [] = some (.bool true, S')) :
    spF K 1 m [.ref a] H (fun v _ => v = .bl true) fun _ _ _ => False := by
  refine ⟨H, fun _ => none, [], [], [.d (scr ns)], .bool true, S', rfl, ⟨.ref a, [], rfl, ⟨a, ns, rfl, rfl, hS, hz⟩, rfl⟩, ⟨fun _ _ e => e, rfl, fun n a xs h1 h2 => by simp at h1, fun a o e => (nomatch e), fun n m a xs ys h1 => by simp at h1⟩, h, fun F' v H' x l r => r⟩
/-- the end: the head's facts give the law's def -/
theorem walk_sim {l : PySem.W.OpenLaw} {n k : Nat} {q : Program} {loose : List Str} {XP : (Str → Option Value) → Heap → Prop} {YP : World → Heap → Prop} {d : DefRec} {x : Str} {m : MF}
    (hn : l.most = some n) (hn2 : n ≤ sizeLine) (hdf : d.params.defaults = []) (hr : Room k callerA)
    (F : ∀ (w : World) (mg : Str → Option Value) (fa : Addr) (h : Heap), YP w h → h.Ns mainGlobals mg → mg d.name = some (.ref fa) →
      ∃ (K : PySem.W.Frag) (fd : FuncData), K.In h ∧ (∀ (s : Shared) (u : Value), BindsTo s fd ⟨[u], []⟩ [(x, u)]) ∧ ∀ base : Heap, K.In base → base.Ns mainGlobals mg → FnOk l.prog w K mg base CX0 k fa fd [x] (spF K 1 m))
    (hm : ∀ ns : List Int, ns.length ≤ n → (∀ z ∈ ns, Builtin.Int.intBits z ≤ 1048576) → ∃ S', m [.d (scr ns)] [] = some (.bool true, S')) :
    PySem.W.WalkO q loose XP YP l.row.toRowW d [] (fun f vs => PySem.call f vs) := by
  refine Att.attach_callB hn hdf fun w s₀ s₁ mg mb fa o pm cd doc a vs ns G Y ho hd hcd hmg hobj hints hlen hbits hg => ?_
  obtain ⟨K, fd, KX, hb, hF⟩ := F w mg fa _ Y G.T.g hmg
  refine law_call KX G.T.g G.T.b G.T.builtins G.T.nolimit hg hobj hints (Nat.le_trans hlen hn2) hr hF hb (fun H hO hS => ?_) fun H e s' h => h
  obtain ⟨S', e⟩ := hm ns hlen hbits
  exact law_sp (Nat.le_trans hlen hn2) hS e
/-! Sim, part L: how shallow functions are reckoned. -/
@[simp] theorem env_0 {α : Type} (a : α) (l : List α) : (a :: l)[0]? = some a := id rfl
@[simp] theorem env_S {α : Type} (a : α) (l : List α) (i : Nat) : (a :: l)[i + 1]? = l[i]? := id rfl
@[simp high] theorem ok_le (n : Nat) : Ok (n ≤ LIM) ↔ n ≤ 1000000 := Iff.rfl
@[simp high] theorem ok_lt (n : Nat) : Ok (n < LIM) ↔ n < 1000000 := Iff.rfl
@[simp] theorem ok_iff (p : Prop) : Ok p ↔ p := Iff.rfl
section
variable (env : Sl) (S : Sto)
@[simp] theorem mVar_e (i : Nat) : mVar i env S = (env[i]?).bind fun o => o.map fun w => (w, S) := by
  unfold mVar
  cases env[i]? with
  | none => rfl
  | some o => cases o <;> rfl
@[simp] theorem mC_e (x : PyData) : mC x env S = some (.d x, S) := id rfl
@[simp] theorem mBin_e (f : W → W → Sto → Option PyData) (a b : ME) : mBin f a b env S = (a env S).bind fun p => (b env p.2).bind fun q => (f p.1 q.1 q.2).map fun z => (.d z, q.2) := id rfl
@[simp] theorem mUn_e (f : W → Sto → Option PyData) (a : ME) : mUn f a env S = (a env S).bind fun p => (f p.1 p.2).map fun z => (.d z, p.2) := id rfl
@[simp] theorem mNil_e : mNil env S = some ([], S) := id rfl
@[simp] theorem mCons_e (a : ME) (b : MA) : mCons a b env S = (a env S).bind fun p => (b env p.2).map fun q => (p.1 :: q.1, q.2) := id rfl
@[simp] theorem mBi_e (f : List W → Sto → Option PyData) (as : MA) : mBi f as env S = (as env S).bind fun p => (f p.1 p.2).map fun z => (.d z, p.2) := id rfl
@[simp] theorem mIs_e (T : Ty5) (a : ME) : mIs T a env S = (a env S).bind fun p => (isTy T p.1 p.2).map fun z => (.d z, p.2) := id rfl
@[simp] theorem mTup_e (as : MA) : mTup as env S = (as env S).bind fun p => (toDs p.1 p.2).bind fun q => if Ok (q.1.length ≤ LIM) then some (.d (.tuple q.1), q.2) else none := id rfl
@[simp] theorem mLst_e (as : MA) : mLst as env S = (as env S).bind fun p => (toDs p.1 p.2).bind fun q => if Ok (q.1.length ≤ LIM) then some (.d (.list q.1), q.2) else none := id rfl
@[simp] theorem mLstM_e (as : MA) : mLstM as env S = (as env S).bind fun p => (toDs p.1 p.2).bind fun q => if Ok (q.1.length ≤ LIM) then some (.r q.2.length, q.2 ++ [Ob.lst q.1]) else none := id rfl
@[simp] theorem mListM_e (as : MA) : mListM as env S = (as env S).bind fun p => match p.1 with
  | [w] => (seqL p.2 w).map fun ys => (.r p.2.length, p.2 ++ [Ob.lst ys])
  | _ => none := id rfl
@[simp] theorem mSl_e (a : ME) (lo hi : MO) : mSl a lo hi env S = (a env S).bind fun p => (lo env p.2).bind fun q => (hi env q.2).bind fun r => (slW p.1 q.1 r.1 r.2).map fun z => (.d z, r.2) := id rfl
@[simp] theorem oNone_e : oNone env S = some (none, S) := id rfl
@[simp] theorem oSome_e (m : ME) : oSome m env S = (m env S).bind fun p => match p.1 with
  | .d (.int i) => some (some i, p.2)
  | _ => none := id rfl
@[simp] theorem mB_e (m : ME) : mB m env S = (m env S).bind fun p => match p.1 with
  | .d (.bool b) => some (b, p.2)
  | _ => none := id rfl
@[simp] theorem mChain_e (f g : W → W → Sto → Option PyData) (a b c : ME) : mChain f g a b c env S = (a env S).bind fun p => (b env p.2).bind fun q => (f p.1 q.1 q.2).bind fun z => match z with
  | .bool true => (c env q.2).bind fun r => (g q.1 r.1 r.2).map fun y => (.d y, r.2)
  | .bool false => some (.d (.bool false), q.2)
  | _ => none := id rfl
@[simp] theorem mAnd_e (a b : MT) : mAnd a b env S = (a env S).bind fun p => if p.1 = true then b env p.2 else some (false, p.2) := id rfl
@[simp] theorem mOr_e (a b : MT) : mOr a b env S = (a env S).bind fun p => if p.1 = true then some (true, p.2) else b env p.2 := id rfl
@[simp] theorem mNot_e (a : MT) : mNot a env S = (a env S).map fun p => (!p.1, p.2) := id rfl
@[simp] theorem mAndV_e (a b : ME) : mAndV a b env S = (a env S).bind fun p => match p.1 with
  | .d (.bool true) => b env p.2
  | .d (.bool false) => some (.d (.bool false), p.2)
  | _ => none := id rfl
@[simp] theorem mOrV_e (a b : ME) : mOrV a b env S = (a env S).bind fun p => match p.1 with
  | .d (.bool false) => b env p.2
  | .d (.bool true) => some (.d (.bool true), p.2)
  | _ => none := id rfl
@[simp] theorem notB_e (b : Bool) : notB (.d (.bool b)) S = some (.bool (!b)) := id rfl
@[simp] theorem mIf_e (t : MT) (a b : ME) : mIf t a b env S = (t env S).bind fun p => if p.1 = true then a env p.2 else b env p.2 := id rfl
@[simp] theorem mSkip_e : mSkip env S = some (.nx env, S) := id rfl
@[simp] theorem mSeq_e (a b : MS) : mSeq a b env S = (a env S).bind fun p => match p.1 with
  | .nx env' => b env' p.2
  | fl => some (fl, p.2) := id rfl
@[simp] theorem mAsg_e (i : Nat) (m : ME) : mAsg i m env S = (m env S).map fun p => (.nx (env.set i (some p.1)), p.2) := id rfl
@[simp] theorem mExpr_e (m : ME) : mExpr m env S = (m env S).map fun p => (.nx env, p.2) := id rfl
@[simp] theorem mRet_e (m : ME) : mRet m env S = (m env S).map fun p => (.rt p.1, p.2) := id rfl
@[simp] theorem mIfS_e (t : MT) (a b : MS) : mIfS t a b env S = (t env S).bind fun p => if p.1 = true then a env p.2 else b env p.2 := id rfl
@[simp] theorem mNever_e : mNever env S = none := id rfl
@[simp] theorem mBreak_e : mBreak env S = some (.bk env, S) := id rfl
@[simp] theorem mCont_e : mCont env S = some (.ct env, S) := id rfl
@[simp] theorem mAug_e (i : Nat) (f : W → W → Sto → Option PyData) (m : ME) : mAug i f m env S = (env[i]?).bind fun o => o.bind fun w => (m env S).bind fun p => (f w p.1 p.2).map fun z => (.nx (env.set i (some (.d z))), p.2) := by
  unfold mAug
  cases env[i]? with
  | none => rfl
  | some o => cases o <;> rfl
@[simp] theorem mYes_e : mYes env S = some (true, S) := id rfl
@[simp] theorem mAsgT_e (is : List Nat) (m : ME) : mAsgT is m env S = (m env S).bind fun p => match p.1 with
  | .d (.tuple ds) => if ds.length = is.length then some (.nx ((is.zip ds).foldl (fun e p => e.set p.1 (some (.d p.2))) env), p.2) else none
  | _ => none := id rfl
@[simp] theorem mAsgL_e (is : List Nat) (m : ME) : mAsgL is m env S = (m env S).bind fun p => (lsL p.2 p.1).bind fun ds =>
  if ds.length = is.length then some (.nx ((is.zip ds).foldl (fun e p => e.set p.1 (some (.d p.2))) env), p.2) else none := id rfl
@[simp] theorem mPar_e (i j : Nat) (a b : ME) : mPar i j a b env S = (a env S).bind fun p => (b env p.2).map fun q => (.nx ((env.set i (some p.1)).set j (some q.1)), q.2) := id rfl
@[simp] theorem mSetIx_e (o i e : ME) : mSetIx o i e env S = (e env S).bind fun p => (o env p.2).bind fun q => (i env q.2).bind fun r => match q.1, r.1 with
  | .r n, .d (.int k) => (toD p.1 r.2).bind fun v => match v.2[n]? with
    | some (Ob.lst xs) => (ixN xs.length k).map fun j => (.nx env, v.2.set n (Ob.lst (xs.set j v.1)))
    | _ => none
  | _, _ => none := id rfl
@[simp] theorem mApp_e (o e : ME) : mApp o e env S = (o env S).bind fun p => (getL p.2 p.1).bind fun _ => (e env p.2).bind fun q => match p.1 with
  | .r n => (toD q.1 q.2).bind fun v => match v.2[n]? with
    | some (Ob.lst xs) => if Ok (xs.length < LIM) then some (.d .none, v.2.set n (Ob.lst (xs ++ [v.1]))) else none
    | _ => none
  | _ => none := id rfl
@[simp] theorem mFor_e (m : MI) (f : PyData → Sl → Option Sl) (b : MS) : mFor m f b env S = (m env S).bind fun p => forL p.2.1 f b p.1 env p.2.2 := id rfl
@[simp] theorem mLc_e (m : MI) (f : PyData → Sl → Option Sl) (c : MT) (e : ME) (vs : List Nat) : mLc m f c e vs env S = (m env S).bind fun p => (lcL p.2.1 f c e (wipeE env vs) p.1 p.2.2).map fun t => (.d (.list t.1), t.2) := id rfl
@[simp] theorem mLcM_e (m : MI) (f : PyData → Sl → Option Sl) (c : MT) (e : ME) (vs : List Nat) : mLcM m f c e vs env S = (m env S).bind fun p => (lcL p.2.1 f c e (wipeE env vs) p.1 p.2.2).map fun t => (.r t.2.length, t.2 ++ [Ob.lst t.1]) := id rfl
@[simp] theorem mIt_e (m : ME) : mIt m env S = (m env S).bind fun p => (srcW p.1 p.2).map fun q => (q.1, q.2, p.2) := id rfl
@[simp] theorem mItS_e (m : ME) : mItS m env S = (m env S).bind fun p => match p.1 with
  | .d (.str s) => if Ok (s.length ≤ LIM) then some (s.cps.toList.map fun c => .str ⟨#[c]⟩, fun (_ : Sto) => True, p.2) else none
  | _ => none := id rfl
@[simp] theorem mEnum_e (m : ME) : mEnum m env S = (m env S).bind fun p => (srcW p.1 p.2).map fun q => (enumD q.1, q.2, p.2) := id rfl
noncomputable def rng1 (w : W) (S : Sto) : Option (List PyData × (Sto → Prop) × Sto) := match w with
  | .d (.int j) => if Ok (-(2 ^ 62) ≤ j ∧ j ≤ 1000000) then some (rangeD 0 j.toNat, fun (_ : Sto) => True, S) else none
  | _ => none
noncomputable def rng2 (v w : W) (S : Sto) : Option (List PyData × (Sto → Prop) × Sto) := match v, w with
  | .d (.int i), .d (.int j) => if Ok (-(2 ^ 61) ≤ i ∧ i ≤ 1000000 ∧ -(2 ^ 61) ≤ j ∧ j ≤ 1000000 ∧ j - i ≤ 1000000) then some (rangeD i (j - i).toNat, fun (_ : Sto) => True, S) else none
  | _, _ => none
@[simp] theorem mRng1_e (a : ME) : mRng1 a env S = (a env S).bind fun p => rng1 p.1 p.2 := id rfl
@[simp] theorem mRng2_e (a b : ME) : mRng2 a b env S = (a env S).bind fun p => (b env p.2).bind fun q => rng2 p.1 q.1 q.2 := id rfl
theorem rng1_e (j : Int) (h : -(2 ^ 62) ≤ j) (h' : j ≤ 1000000) : rng1 (.d (.int j)) S = some (rangeD 0 j.toNat, fun (_ : Sto) => True, S) := if_pos ⟨h, h'⟩
theorem rng2_e (i j : Int) (h1 : -(2 ^ 61) ≤ i) (h2 : i ≤ 1000000) (h3 : -(2 ^ 61) ≤ j) (h4 : j ≤ 1000000) (h5 : j - i ≤ 1000000) : rng2 (.d (.int i)) (.d (.int j)) S = some (rangeD i (j - i).toNat, fun (_ : Sto) => True, S) := if_pos ⟨h1, h2, h3, h4, h5⟩
@[simp] theorem mCall_e (f : MF) (as : MA) : mCall f as env S = (as env S).bind fun p => (f p.1 p.2).map fun q => (.d q.1, q.2) := id rfl
@[simp] theorem gN_e (i : Nat) (d : PyData) : gN i d env = some (env.set i (some (.d d))) := id rfl
@[simp] theorem gT_e (is : List Nat) (ds : List PyData) : gT is (.tuple ds) env = if ds.length = is.length then some ((is.zip ds).foldl (fun e p => e.set p.1 (some (.d p.2))) env) else none := id rfl
@[simp] theorem wipeE_nil : wipeE env [] = env := id rfl
@[simp] theorem wipeE_cons (v : Nat) (vs : List Nat) : wipeE env (v :: vs) = (wipeE env vs).set v none := id rfl
@[simp] theorem toD_d (x : PyData) : toD (.d x) S = some (x, S) := id rfl
@[simp] theorem toDs_nil : toDs [] S = some ([], S) := id rfl
@[simp] theorem toDs_cons (w : W) (ws : List W) : toDs (w :: ws) S = (toD w S).bind fun p => (toDs ws p.2).map fun q => (p.1 :: q.1, q.2) := id rfl
/-! operators -/
theorem intOp_e (g : Int → Int → Option Int) (i j : Int) : intOp g (.d (.int i)) (.d (.int j)) S = (g i j).map .int := id rfl
@[simp] theorem subW_ii (i j : Int) : subW (.d (.int i)) (.d (.int j)) S = some (.int (i - j)) := id rfl
@[simp] theorem andW_ii (i j : Int) : andW (.d (.int i)) (.d (.int j)) S = some (.int (Builtin.bitAnd i j)) := id rfl
@[simp] theorem orW_ii (i j : Int) : orW (.d (.int i)) (.d (.int j)) S = some (.int (Builtin.bitOr i j)) := id rfl
@[simp] theorem xorW_ii (i j : Int) : xorW (.d (.int i)) (.d (.int j)) S = some (.int (Builtin.bitXor i j)) := id rfl
@[simp] theorem augW_ii (i j : Int) : intOp (fun i j => some (i + j)) (.d (.int i)) (.d (.int j)) S = some (.int (i + j)) := id rfl
@[simp] theorem cmpOp_e (g : Int → Int → Bool) (i j : Int) : cmpOp g (.d (.int i)) (.d (.int j)) S = some (.bool (g i j)) := id rfl
@[simp] theorem unInt_e (g : Int → Int) (i : Int) : unInt g (.d (.int i)) S = some (.int (g i)) := id rfl
@[simp] theorem addW_ii (i j : Int) : addW (.d (.int i)) (.d (.int j)) S = some (.int (i + j)) := id rfl
theorem addW_ss (a b : Str) : addW (.d (.str a)) (.d (.str b)) S = if Ok (a.length + b.length ≤ LIM) then some (.str (a ++ b)) else none := id rfl
theorem addW_tt (a b : List PyData) : addW (.d (.tuple a)) (.d (.tuple b)) S = if Ok (a.length + b.length ≤ LIM) then some (.tuple (a ++ b)) else none := id rfl
theorem addW_ll (a b : List PyData) : addW (.d (.list a)) (.d (.list b)) S = if Ok (a.length + b.length ≤ LIM) then some (.list (a ++ b)) else none := id rfl
theorem mulW_ii (i j : Int) : mulW (.d (.int i)) (.d (.int j)) S = if Ok (MulOk i j) then some (.int (i * j)) else none := id rfl
theorem mulW_li (a : List PyData) (k : Int) : mulW (.d (.list a)) (.d (.int k)) S = if Ok (-(2 ^ 63) ≤ k ∧ k < 2 ^ 63 ∧ a.length * k.toNat ≤ LIM) then some (.list (List.replicate k.toNat a).flatten) else none := id rfl
@[simp] theorem eqW_ii (i j : Int) : eqW (.d (.int i)) (.d (.int j)) S = some (.bool (decide (i = j))) := by
  simp [eqW, datW, eqD, scalD, eqv_int]
@[simp] theorem eqW_ss (i j : Str) : eqW (.d (.str i)) (.d (.str j)) S = some (.bool (decide (i = j))) := by
  simp [eqW, datW, eqD, scalD, eqv_str]
@[simp] theorem eqW_bb (i j : Bool) : eqW (.d (.bool i)) (.d (.bool j)) S = some (.bool (decide (i = j))) := by
  simp [eqW, datW, eqD, scalD, eqv_bool]
@[simp] theorem neW_ii (i j : Int) : neW (.d (.int i)) (.d (.int j)) S = some (.bool (!decide (i = j))) := by
  simp [neW, datW, eqD, scalD, eqv_int]
@[simp] theorem neW_ss (i j : Str) : neW (.d (.str i)) (.d (.str j)) S = some (.bool (!decide (i = j))) := by
  simp [neW, datW, eqD, scalD, eqv_str]
@[simp] theorem isTy_int (T : Ty5) (i : Int) : isTy T (.d (.int i)) S = some (.bool (match T with | .int => true | _ => false)) := id rfl
@[simp] theorem isTy_bool (T : Ty5) (i : Bool) : isTy T (.d (.bool i)) S = some (.bool (match T with | .int => true | .bool => true | _ => false)) := id rfl
@[simp] theorem isTy_str (T : Ty5) (i : Str) : isTy T (.d (.str i)) S = some (.bool (match T with | .str => true | _ => false)) := id rfl
@[simp] theorem isTy_tup (T : Ty5) (i : List PyData) : isTy T (.d (.tuple i)) S = some (.bool (match T with | .tup => true | _ => false)) := id rfl
@[simp] theorem isTy_lst (T : Ty5) (i : List PyData) : isTy T (.d (.list i)) S = some (.bool (match T with | .lst => true | _ => false)) := id rfl
@[simp] theorem isTy_none (T : Ty5) : isTy T (.d .none) S = some (.bool false) := id rfl
@[simp] theorem isW_n (x : W) : isW x (.d .none) S = some (.bool (isNone x)) := id rfl
@[simp] theorem notW_n (x : W) : notW x (.d .none) S = some (.bool (!isNone x)) := id rfl
@[simp] theorem isNone_n : isNone (.d .none) = true := id rfl
@[simp] theorem isNone_i (i : Int) : isNone (.d (.int i)) = false := id rfl
@[simp] theorem isNone_s (i : Str) : isNone (.d (.str i)) = false := id rfl
@[simp] theorem isNone_b (i : Bool) : isNone (.d (.bool i)) = false := id rfl
@[simp] theorem isNone_t (i : List PyData) : isNone (.d (.tuple i)) = false := id rfl
@[simp] theorem isNone_l (i : List PyData) : isNone (.d (.list i)) = false := id rfl
@[simp] theorem isNone_r (n : Nat) : isNone (.r n) = false := id rfl
@[simp] theorem ixW_l (xs : List PyData) (i : Int) : ixW (.d (.list xs)) (.d (.int i)) S = atI xs i := id rfl
@[simp] theorem ixW_t (xs : List PyData) (i : Int) : ixW (.d (.tuple xs)) (.d (.int i)) S = atI xs i := id rfl
@[simp] theorem ixW_d (xs : List PyData) (i : Int) : ixW (.d (.dict [(.none, .list xs)])) (.d (.int i)) S = atI xs i := id rfl
@[simp] theorem ixW_r (n : Nat) (i : Int) : ixW (.r n) (.d (.int i)) S = (getL S (.r n)).bind fun xs => atI xs i := id rfl
@[simp] theorem getL_l (xs : List PyData) : getL S (.d (.list xs)) = some xs := id rfl
@[simp] theorem getL_r (n : Nat) : getL S (.r n) = match S[n]? with
    | some (Ob.lst xs) => some xs
    | _ => none := id rfl
@[simp] theorem lsL_l (xs : List PyData) : lsL S (.d (.list xs)) = some xs := id rfl
@[simp] theorem lsL_d (xs : List PyData) : lsL S (.d (.dict [(.none, .list xs)])) = some xs := id rfl
@[simp] theorem lsL_r (n : Nat) : lsL S (.r n) = getL S (.r n) := id rfl
@[simp] theorem seqL_t (xs : List PyData) : seqL S (.d (.tuple xs)) = some xs := id rfl
@[simp] theorem seqL_l (xs : List PyData) : seqL S (.d (.list xs)) = some xs := id rfl
@[simp] theorem seqL_d (xs : List PyData) : seqL S (.d (.dict [(.none, .list xs)])) = some xs := id rfl
@[simp] theorem seqL_r (n : Nat) : seqL S (.r n) = getL S (.r n) := id rfl
@[simp] theorem srcW_t (xs : List PyData) : srcW (.d (.tuple xs)) S = some (xs, fun (_ : Sto) => True) := id rfl
@[simp] theorem srcW_l (xs : List PyData) : srcW (.d (.list xs)) S = some (xs, fun (_ : Sto) => True) := id rfl
@[simp] theorem srcW_d (xs : List PyData) : srcW (.d (.dict [(.none, .list xs)])) S = some (xs, fun (_ : Sto) => True) := id rfl
@[simp] theorem slW_t (xs : List PyData) (lo hi : Option Int) : slW (.d (.tuple xs)) lo hi S = some (.tuple (cutD xs lo hi)) := id rfl
@[simp] theorem slW_l (xs : List PyData) (lo hi : Option Int) : slW (.d (.list xs)) lo hi S = some (.list (cutD xs lo hi)) := id rfl
@[simp] theorem slW_d (xs : List PyData) (lo hi : Option Int) : slW (.d (.dict [(.none, .list xs)])) lo hi S = some (.list (cutD xs lo hi)) := id rfl
@[simp] theorem slW_r (n : Nat) (lo hi : Option Int) : slW (.r n) lo hi S = (getL S (.r n)).map fun xs => .list (cutD xs lo hi) := id rfl
@[simp] theorem lenW_l (xs : List PyData) : lenW [.d (.list xs)] S = some (.int xs.length) := id rfl
@[simp] theorem lenW_t (xs : List PyData) : lenW [.d (.tuple xs)] S = some (.int xs.length) := id rfl
@[simp] theorem lenW_d (xs : List PyData) : lenW [.d (.dict [(.none, .list xs)])] S = some (.int xs.length) := id rfl
@[simp] theorem lenW_r (n : Nat) : lenW [.r n] S = (getL S (.r n)).map fun ys => .int ys.length := id rfl
@[simp] theorem lenW_s (s : Str) : lenW [.d (.str s)] S = if Ok (s.length ≤ LIM) then some (.int s.length) else none := id rfl
@[simp] theorem int2_e (g : Int → Int → Int) (i j : Int) : int2 g [.d (.int i), .d (.int j)] S = some (.int (g i j)) := id rfl
@[simp] theorem max3W_e (i j k : Int) : max3W [.d (.int i), .d (.int j), .d (.int k)] S = some (.int (max i (max j k))) := id rfl
@[simp] theorem sumW_l (xs : List PyData) : sumW [.d (.list xs)] S = (allInt xs).map fun ns => .int ns.sum := id rfl
@[simp] theorem anyW_l (xs : List PyData) : anyW [.d (.list xs)] S = (allBool xs).map fun ns => .bool (ns.any id) := id rfl
@[simp] theorem allW_l (xs : List PyData) : allW [.d (.list xs)] S = (allBool xs).map fun ns => .bool (ns.all id) := id rfl
@[simp] theorem toInt_i (i : Int) : toInt [.d (.int i)] S = some (.int i) := id rfl
@[simp] theorem toInt_b (b : Bool) : toInt [.d (.bool b)] S = some (.int (if b then 1 else 0)) := id rfl
@[simp] theorem toStr_i (i : Int) : toStr [.d (.int i)] S = if Ok (i.natAbs.log2 < 1920) then some (.str (toString i)) else none := id rfl
@[simp] theorem toList_e (w : W) : toList [w] S = (seqL S w).map .list := id rfl
@[simp] theorem toTup_e (w : W) : toTup [w] S = (seqL S w).map .tuple := id rfl
@[simp] theorem inW_e (x y : W) : inW x y S = (memW x y S).map .bool := id rfl
@[simp] theorem ninW_e (x y : W) : ninW x y S = (memW x y S).map fun k => .bool (!k) := id rfl
end
theorem allInt_map (ns : List Int) : allInt (ns.map PyData.int) = some ns := by
  induction ns with
  | nil => rfl
  | cons n ns ih => simp [allInt, ih]
theorem allBool_map (ns : List Bool) : allBool (ns.map PyData.bool) = some ns := by
  induction ns with
  | nil => rfl
  | cons n ns ih => simp [allBool, ih]
/-! loops -/
@[simp] theorem forL_nil (f : PyData → Sl → Option Sl) (b : MS) (env : Sl) (S : Sto) : forL (fun _ => True) f b [] env S = some (.nx env, S) := by simp [forL]
theorem forL_cons (f : PyData → Sl → Option Sl) (b : MS) (d : PyData) (ds : List PyData) (env : Sl) (S : Sto) : forL (fun _ => True) f b (d :: ds) env S = (f d env).bind fun env1 => (b env1 S).bind fun q => match q.1 with
      | .nx e => forL (fun _ => True) f b ds e q.2
      | .ct e => forL (fun _ => True) f b ds e q.2
      | .bk e => some (.nx e, q.2)
      | .rt w => some (.rt w, q.2) := by
  (rw [forL, if_pos trivial]) <;> rfl
/-- a loop that goes through, by an invariant over the place, the slots, the store -/
theorem forL_inv {g : Sto → Prop} {f : PyData → Sl → Option Sl} {b : MS} (xs : List PyData) (I : Nat → Sl → Sto → Prop)
    (hs : ∀ i (hi : i < xs.length) env S, I i env S → g S ∧ ∃ env1 env2 S2, f xs[i] env = some env1 ∧ (b env1 S = some (.nx env2, S2) ∨ b env1 S = some (.ct env2, S2)) ∧ I (i + 1) env2 S2) (he : ∀ env S, I xs.length env S → g S) :
    ∀ (env : Sl) (S : Sto), I 0 env S → ∃ env' S', forL g f b xs env S = some (.nx env', S') ∧ I xs.length env' S' := by
  induction xs generalizing I with
  | nil =>
    intro env S h
    exact ⟨env, S, by rw [forL, if_pos (he env S h)], h⟩
  | cons d ds ih =>
    intro env S h
    obtain ⟨hg, env1, env2, S2, h1, h2, h3⟩ := hs 0 (by simp) env S h
    obtain ⟨env', S', h4, h5⟩ := ih (fun i => I (i + 1)) (fun i hi env S h => hs (i + 1) (by simpa using hi) env S h) (fun env S h => he env S h) env2 S2 h3
    refine ⟨env', S', ?_, h5⟩
    rw [forL, if_pos hg]
    simp only [List.getElem_cons_zero] at h1
    rw [h1, Option.bind_some]
    rcases h2 with h2 | h2 <;> (rw [h2, Option.bind_some]; exact h4)
/-- a comprehension whose items are told by h -/
theorem lcL_map {f : PyData → Sl → Option Sl} {c : MT} {e : ME} {env : Sl} {S : Sto} {h : PyData → PyData} (xs : List PyData)
    (H : ∀ x ∈ xs, ∃ env1, f x env = some env1 ∧ c env1 S = some (true, S) ∧ e env1 S = some (.d (h x), S)) : lcL (fun _ => True) f c e env xs S = some (xs.map h, S) := by
  induction xs with
  | nil => simp [lcL]
  | cons x xs ih =>
    obtain ⟨env1, h1, h2, h3⟩ := H x (by simp)
    rw [lcL, if_pos trivial, h1, Option.bind_some, h2, Option.bind_some, if_pos rfl, h3, Option.bind_some, toD_d, Option.bind_some, ih fun y hy => H y (List.mem_cons_of_mem _ hy)]
    rfl
theorem lcL_filter {f : PyData → Sl → Option Sl} {c : MT} {e : ME} {env : Sl} {S : Sto} {p : PyData → Bool} {h : PyData → PyData} (xs : List PyData)
    (H : ∀ x ∈ xs, ∃ env1, f x env = some env1 ∧ c env1 S = some (p x, S) ∧ (p x = true → e env1 S = some (.d (h x), S))) : lcL (fun _ => True) f c e env xs S = some ((xs.filter p).map h, S) := by
  induction xs with
  | nil => simp [lcL]
  | cons x xs ih =>
    obtain ⟨env1, h1, h2, h3⟩ := H x (by simp)
    have ih' := ih fun y hy => H y (List.mem_cons_of_mem _ hy)
    rw [lcL, if_pos trivial, h1, Option.bind_some, h2, Option.bind_some]
    by_cases hp : p x = true
    · rw [if_pos hp, h3 hp, Option.bind_some, toD_d, Option.bind_some, ih', List.filter_cons_of_pos hp]
      rfl
    · rw [if_neg hp, ih', List.filter_cons_of_neg hp]
/-! places -/
theorem atI_nat' {α : Type} {xs : List α} {i : Nat} : atI xs (i : Int) = xs[i]? := by
  unfold atI ixN
  rw [if_pos (by omega)]
  by_cases h : i < xs.length
  · rw [if_pos (by omega)]; simp
  · rw [if_neg (by omega)]; simp; omega
theorem atI_pos {α : Type} {xs : List α} {i : Int} (h : 0 ≤ i) : atI xs i = xs[i.toNat]? := by
  obtain ⟨n, rfl⟩ := Int.eq_ofNat_of_zero_le h
  exact atI_nat'
theorem atI_m1 {α : Type} {xs : List α} : atI xs (-1) = xs.getLast? := by
  unfold atI ixN
  cases xs with
  | nil => rfl
  | cons x xs =>
    rw [if_neg (by omega), if_pos (by simp; omega), Option.bind_some, List.getLast?_eq_getElem?]
    congr 1
    simp
    omega
/-! Sim, part M: list(reversed(x)). -/
section
variable {prog : Program} {w : World} {A : Around} {E : Value → Shared → Prop} {s : Shared}
theorem init_rev {R : Result → Shared → Prop} {it l S : Addr} {items : Array Value} (hh : A.handled = none) (hit : s.heap.IsRevIter it l ((items.size : Int) - 1)) (hl : s.heap.IsList l items) (hne : l ≠ it) (hn : items.size ≤ sizeLine)
    (hSi : S ≠ it) (hSl : S ≠ l) (hS : s.heap.get? S = some { cls := .type "list", data := .seq #[] })
    (hR : ∀ (h' : Heap) (tk : Nat) (acc : Array Value) (c : Nat), (∀ b o, b ≠ it → b ≠ S → s.heap.get? b = some o → h'.get? b = some o) → h'.get? S = some { cls := .type "list", dict := none, data := .seq acc c, slots := #[] } →
      ItemsOf (fun i v => items[items.size - 1 - i]? = some v) acc items.size → R (.ok (.ret .none)) { s with heap := h', toks := tk }) :
    wpAny (model prog w) A.in1 (Builtin.«list.__init__» ⟨[.ref S, .ref it], []⟩)
      (fun fin s' => match fin with | .done f => R (.ok f) s' | .again c' => c'.quiet = true ∧ codeAny (model prog w) A c' R s') (fun e s' => R (.error e) s') s := by
  have W := (Walks.listRev (prog := prog) (w := w) (A := A.in1) hh it l hne items).toS
  have hSf : S ∉ [it, l] := by simp only [List.mem_cons, List.not_mem_nil, or_false, not_or]; exact ⟨hSi, hSl⟩
  show wpAny _ A.in1 (do let old ← Builtin.List.listItems (.ref S); Builtin.List.listUpdate (.ref S) (fun _ => #[]); letGo old.toList.reverse; Builtin.List.listExtendWith (.ref S) (.ref it) .none) _ _ s
  refine wpAny_bind ?_
  unfold Builtin.List.listItems
  refine wpAny_bind (wpAny_seqItems hS rfl (wpAny_pure ?_))
  show wpAny _ A.in1 (updateSeq S (fun _ => #[]) >>= fun _ => letGo (#[] : Array Value).toList.reverse >>= fun _ => Builtin.List.listExtendWith (.ref S) (.ref it) .none) _ _ s
  refine wpAny_bind (wpAny_updateSeq hS rfl ?_)
  have hS₂ := Heap.get?_update_self (Obj.mapSeq (fun _ => (#[] : Array Value))) hS rfl
  have oth : ∀ b o, b ≠ S → s.heap.get? b = some o → (s.heap.update S (Obj.mapSeq (fun _ => (#[] : Array Value)))).get? b = some o :=
    fun b o hb e => (Heap.get?_update_other _ _ (Ne.symm hb)).trans e
  refine wpAny_bind (wpAny_letGo ?_)
  have hit1 : (s.heap.update S (Obj.mapSeq (fun _ => (#[] : Array Value)))).IsRevIter it l ((items.size : Int) - 1) := hit.at fun o e => oth it o (Ne.symm hSi) e
  have hl1 : (s.heap.update S (Obj.mapSeq (fun _ => (#[] : Array Value)))).IsList l items := hl.at fun o e => oth l o (Ne.symm hSl) e
  generalize hg : s.heap.update S (Obj.mapSeq (fun _ => (#[] : Array Value))) = g at hit1 hl1 hS₂ oth ⊢
  have hT : ({ s with heap := g } : Shared).TypeIs (.ref it) "list_reverseiterator" := Heap.IsRevIter.typeIs (s := { s with heap := g }) hit1
  have h1 : Builtin.List.listSameRef (.ref S) (.ref it) = false := by simp [Builtin.List.listSameRef, hSi]
  unfold Builtin.List.listExtendWith
  refine wpAny_bind (wpAny_typeOf hT ?_)
  rw [if_neg (by rw [h1]; decide)]
  refine wpAny_bind (wpAny_pyIter_revIter (s := { s with heap := g }) hit1 ?_)
  refine wpAny_bind (wpAny_holding ?_)
  unfold Builtin.List.listLengthHint
  refine wpAny_bind (wpAny_specialOf hT RT.nolen_lri ?_)
  show wpAny _ A.in1 (specialOf (Value.ref it) (Str.ofString "__length_hint__") >>= _) _ _ _
  refine wpAny_bind (wpAny_specialOf hT RT.hint_lri ?_)
  generalize hid : ("list_reverseiterator.__length_hint__" : String) = id0
  wp_delta
  rw [show splitId id0 = some ("list_reverseiterator", "__length_hint__") from by subst hid; decide +kernel]
  subst hid
  refine wpAny_bind (wpAny_isInstance (b := true) hT (by rw [isSubtype_type]; kernel_rfl) ?_)
  refine wpAny_pure ?_
  rw [if_neg (by decide)]
  have e0 : ((items.size : Nat) : Int) - 1 - ((0 : Nat) : Int) = (items.size : Int) - 1 := by omega
  refine wpAny_pure ⟨plainId_quiet F.plain_extend_loop _, codeAny_extend_loopS W hn _ hSf _ items.size 0 _ _ _ rfl (Nat.zero_le _) ⟨Nat.zero_le _, by rw [e0]; exact hit1, hl1⟩ hS₂ (ItemsOf.nil _) fun s' acc' c' hm hS' hacc => ?_⟩
  rw [Moved.eq_with hm]
  refine hR s'.heap s'.toks acc' c' (fun b o hb hbS e => hm.heap b o (fun hmem => ?_) (oth b o hbS e)) hS' hacc
  rcases List.mem_cons.mp hmem with e' | hmem
  · exact hbS e'
  · exact hb (List.mem_singleton.mp hmem)
theorem call_list_rev {it l : Addr} {items : Array Value} {Q : Value → Shared → Prop} (hh : A.handled = none) (hit : s.heap.IsRevIter it l ((items.size : Int) - 1)) (hl : s.heap.IsList l items) (hne : l ≠ it) (hn : items.size ≤ sizeLine)
    (hQ : ∀ (h' : Heap) (tk : Nat) (acc : Array Value) (c : Nat), (∀ b o, b ≠ it → s.heap.get? b = some o → h'.get? b = some o) → h'.get? s.heap.objs.size = some { cls := .type "list", dict := none, data := .seq acc c, slots := #[] } →
      ItemsOf (fun i v => items[items.size - 1 - i]? = some v) acc items.size → Q (.ref s.heap.objs.size) { s with heap := h', toks := tk }) :
    wpAny (model prog w) A (call (.type "list") [.ref it]) Q E s := by
  obtain ⟨oi, hoi, _⟩ := id hit
  obtain ⟨ol, hol, _⟩ := id hl
  have hSi : s.heap.objs.size ≠ it := Nat.ne_of_gt (Heap.lt_size hoi)
  have hSl : s.heap.objs.size ≠ l := Nat.ne_of_gt (Heap.lt_size hol)
  refine callType_codes (Q₁ := fun obj s₁ => obj = .ref s.heap.objs.size ∧ s₁ = { s with heap := s.heap.push { cls := .type "list", data := .seq #[] } }) F.called_list (F.typeCall_list_1 _) F.entry_list_init
    (code_list_new _ ⟨rfl, rfl⟩) fun obj s₁ h₁ => ?_
  obtain ⟨rfl, rfl⟩ := h₁
  have hS : (s.heap.push { cls := .type "list", data := .seq #[] }).get? s.heap.objs.size = some { cls := .type "list", data := .seq #[] } := Heap.get?_push_size _ rfl
  refine ⟨⟨_, hS, rfl⟩, F.args_list_init_2 _ _, init_rev (s := { s with heap := s.heap.push { cls := .type "list", data := .seq #[] } }) (A := A.in1) hh (hit.at fun o e => Heap.get?_push_of_some _ e) (hl.push _) hne hn hSi hSl hS fun h' tk acc c hk hS' hacc => ?_⟩
  exact ⟨rfl, hQ h' tk acc c (fun b o hb e => hk b o hb (Nat.ne_of_lt (Heap.lt_size e)) (Heap.get?_push_of_some _ e)) hS' hacc⟩
end
/-- list(reversed(x)), x a list: a new list -/
def tLstRev (K : PySem.W.Frag) (te : TE) : TE := fun σ H Q => te σ H fun v H1 => ∃ (a : Addr) (xs : List V), v = .ref a ∧ SqL K H1 a xs ∧ ∀ q, H1 q = none → Q (.ref q) (upd H1 q (.lst xs.reverse))
section
variable {X : Cx}
theorem pe_lstRev {e : Expr} {te : TE} {p p2 pos pos2 : Pos} (hc : X.calm = true) (hg : Gl X "list") (hm : X.mg "list" = none) (hg2 : Gl X "reversed") (hm2 : X.mg "reversed" = none) (he : PE X e te)
    (hs : starEach [e] X.env = (false, eval e X.env) :: starEach [] X.env := by rfl)
    (hs2 : starEach [.Call (.Name "reversed" p2) [e] [] pos2] X.env = (false, eval (.Call (.Name "reversed" p2) [e] [] pos2) X.env) :: starEach [] X.env := by rfl) :
    PE X (.Call (.Name "list" p) [.Call (.Name "reversed" p2) [e] [] pos2] [] pos) (tLstRev X.K te) := by
  refine ⟨fun pins s σ H Q I h => ?_⟩
  refine Call_ (ld_blt I hg hm boot_list (PyProof.Rows.callWith_type1 (args_cons (Call_ (ld_blt I hg2 hm2 PyProof.Rows.boot_reversed (PyProof.Rows.callWith_type1 (args_cons (thn (he.run pins s σ H _ I h) fun u s1 ⟨v, H1, I1, r1, q1⟩ => args_nil ?_) hs) hs rfl))) hs2) hs2 rfl))
  obtain ⟨a, xs, ev, hq, q⟩ := q1
  subst ev
  obtain rfl : u = Value.ref a := r1
  obtain ⟨its, rv, p', hz⟩ := I1.list hq
  refine call_reversed_list p'.isList (args_nil ?_)
  have k0 : ∀ b o, s1.heap.get? b = some o → (s1.heap.push (revObj a ((its.toArray.size : Int) - 1))).get? b = some o := fun b o e => Heap.get?_push_of_some _ e
  have I2 : Inv X pins σ H1 { s1 with heap := s1.heap.push (revObj a ((its.toArray.size : Int) - 1)) } := I1.kept (t' := s1.toks) k0
  have fp := I1.fpOk (H' := H1) (b := s1.heap.objs.size) (Nat.le_refl _) (I1.hok.fresh (Nat.le_refl _))
  have hl := p'.isList
  obtain ⟨ol, hol, _⟩ := id hl
  have hne : a ≠ s1.heap.objs.size := Nat.ne_of_lt (Heap.lt_size hol)
  have hn : its.toArray.size ≤ sizeLine := by rw [List.size_toArray, ← rv.length]; exact hz
  refine call_list_rev (s := { s1 with heap := s1.heap.push (revObj a ((its.toArray.size : Int) - 1)) }) (I1.ok.hd hc) ⟨_, Heap.get?_push_size _ rfl, rfl, rfl⟩ (hl.push _) hne hn fun h' tk acc c hk hS hi => ?_
  have hf := I2.hok.fresh (a := (s1.heap.push (revObj a ((its.toArray.size : Int) - 1))).objs.size) (Nat.le_refl _)
  refine ⟨.ref _, _, I2.turnedNew (T := (s1.heap.push (revObj a ((its.toArray.size : Int) - 1))).objs.size) (ob := .lst xs.reverse) (ch := [s1.heap.objs.size]) (fun b o hb e => hk b o (fun z => hb (by simp [z])) e) (fun b hb => ?_) (Nat.le_refl _) ⟨by rw [List.length_reverse]; exact hz, acc.toList, c, RT.vals_rev rv hi, by rw [Array.toArray_toList]; exact hS⟩, rfl, q _ hf⟩
  rw [List.mem_singleton.mp hb]
  exact fp
def revW (w : W) (S : Sto) : Option PyData := (lsL S w).map fun xs => .list xs.reverse
@[simp] theorem revW_l (S : Sto) (xs : List PyData) : revW (.d (.list xs)) S = some (.list xs.reverse) := id rfl
theorem se_lstRev {a : Expr} {ma : ME} {p p2 pos pos2 : Pos} (hc : X.calm = true) (hg : Gl X "list") (hm : X.mg "list" = none) (hg2 : Gl X "reversed") (hm2 : X.mg "reversed" = none) (ha : SimE X a ma)
    (hs : starEach [a] X.env = (false, eval a X.env) :: starEach [] X.env := by rfl)
    (hs2 : starEach [.Call (.Name "reversed" p2) [a] [] pos2] X.env = (false, eval (.Call (.Name "reversed" p2) [a] [] pos2) X.env) :: starEach [] X.env := by rfl) :
    SimE X (.Call (.Name "list" p) [.Call (.Name "reversed" p2) [a] [] pos2] [] pos) (mUn revW ma) := by
  refine pe_imp (pe_lstRev hc hg hm hg2 hm2 ha hs hs2) fun σ H Q q => ?_
  obtain ⟨F, R, μ, env, S, w, S', sl, l, e, k⟩ := q
  simp only [mUn, Option.bind_eq_some_iff, Option.map_eq_some_iff] at e
  obtain ⟨⟨x, S1⟩, e1, z, e3, e4⟩ := e
  cases e4
  refine ⟨F, R, μ, env, S, x, S1, sl, l, e1, fun F1 μ1 v H1 x1 l1 r1 => ?_⟩
  simp only [revW, Option.map_eq_some_iff] at e3
  obtain ⟨xs, e5, rfl⟩ := e3
  obtain ⟨b, vs, rfl, h1, h2, h3⟩ := lk_ls l1 r1 e5
  refine ⟨b, vs, rfl, h1, fun q hq => ?_⟩
  obtain ⟨l', x'⟩ := lk_newF (o := .lst vs.reverse) l1 hq
  exact k _ _ _ _ (x1.trans x') l' ⟨q, vs.reverse, rfl, upd_same, by rw [List.length_reverse]; exact h2, RepL.mono x'.1 _ _ h3.reverse⟩
end
/-! Sim, part N: zip of two; lists by <. -/
section
variable {X : Cx} {K : PySem.W.Frag} {F R H : Hp} {μ : List Addr} {S : Sto}
def zipD (xs ys : List PyData) : List PyData := xs.zipWith (fun x y => .tuple [x, y]) ys
theorem zipD_len (xs ys : List PyData) : (zipD xs ys).length = min xs.length ys.length := by simp [zipD]
theorem zipD_at {xs ys : List PyData} {i : Nat} {x y : PyData} (h1 : xs[i]? = some x) (h2 : ys[i]? = some y) : (zipD xs ys)[i]? = some (.tuple [x, y]) := by
  unfold zipD
  rw [List.getElem?_zipWith, h1, h2]
theorem wd_zipL {a b : Addr} {xs ys : List PyData} {g1 g2 : Sto → Prop} (hz : xs.length ≤ sizeLine) (s1 : SrcOk K F μ xs g1 (fun H vs => SqL K H a vs)) (s2 : SrcOk K F μ ys g2 (fun H vs => SqL K H b vs)) : WalkD K F R μ (Itz K a b) (zipD xs ys) (fun S => g1 S ∧ g2 S) := by
  refine ⟨by rw [zipD_len]; omega, fun H => ∃ vs us, SqL K H a vs ∧ vs.length = xs.length ∧ SqL K H b us ∧ us.length = ys.length,
    fun i H v H' => ∃ T x y, v = .ref T ∧ H T = none ∧ H' = upd H T (.tup [x, y]) ∧ (∀ vs, SqL K H a vs → vs[i]? = some x) ∧ ∀ us, SqL K H b us → us[i]? = some y, ?_, fun F' R' μ' S H x l hg => ?_, fun F' R' μ' S H i x H' x1 l hg hi y => ?_⟩
  · rw [zipD_len]
    exact ⟨fun i H hi ⟨vs, us, h, hl, h', hl'⟩ => ⟨vs, us, vs[i]'(by omega), us[i]'(by omega), h, h', by simp, by simp⟩, fun H ⟨vs, us, h, hl, h', hl'⟩ => ⟨vs, us, h, h', by omega⟩, fun i H x H' hi _ y => y⟩
  · obtain ⟨vs, h1, h2, _⟩ := s1 F' R' μ' S H x l hg.1
    obtain ⟨us, h3, h4, _⟩ := s2 F' R' μ' S H x l hg.2
    exact ⟨vs, us, h1, h2.length, h3, h4.length⟩
  · rw [zipD_len] at hi
    obtain ⟨T, x, z, rfl, hT, rfl, y1, y2⟩ := y
    obtain ⟨vs, h1, h2, _⟩ := s1 F' R' μ' S H x1 l hg.1
    obtain ⟨us, h3, h4, _⟩ := s2 F' R' μ' S H x1 l hg.2
    obtain ⟨v, e1, e2⟩ := h2.at (List.getElem?_eq_getElem (show i < xs.length by omega))
    obtain ⟨u, e3, e4⟩ := h4.at (List.getElem?_eq_getElem (show i < ys.length by omega))
    have q1 := y1 vs h1
    have q2 := y2 us h3
    rw [e1] at q1
    rw [e3] at q2
    cases q1
    cases q2
    obtain ⟨F'', x2, l2, r2, k2⟩ := lk_pair l hT e2 e4
    exact ⟨F'', _, x2, l2, zipD_at (List.getElem?_eq_getElem (by omega)) (List.getElem?_eq_getElem (by omega)), r2, k2⟩
theorem wd_zipT {a b : Addr} {xs ys : List PyData} {g1 g2 : Sto → Prop} (hz : xs.length ≤ sizeLine) (s1 : SrcOk K F μ xs g1 (fun H vs => SqT K H a vs)) (s2 : SrcOk K F μ ys g2 (fun H vs => SqT K H b vs)) : WalkD K F R μ (RZ.ItzT K a b) (zipD xs ys) (fun S => g1 S ∧ g2 S) := by
  refine ⟨by rw [zipD_len]; omega, fun H => ∃ vs us, SqT K H a vs ∧ vs.length = xs.length ∧ SqT K H b us ∧ us.length = ys.length,
    fun i H v H' => ∃ T x y, v = .ref T ∧ H T = none ∧ H' = upd H T (.tup [x, y]) ∧ (∀ vs, SqT K H a vs → vs[i]? = some x) ∧ ∀ us, SqT K H b us → us[i]? = some y, ?_, fun F' R' μ' S H x l hg => ?_, fun F' R' μ' S H i x H' x1 l hg hi y => ?_⟩
  · rw [zipD_len]
    exact ⟨fun i H hi ⟨vs, us, h, hl, h', hl'⟩ => ⟨vs, us, vs[i]'(by omega), us[i]'(by omega), h, h', by simp, by simp⟩, fun H ⟨vs, us, h, hl, h', hl'⟩ => ⟨vs, us, h, h', by omega⟩, fun i H x H' hi _ y => y⟩
  · obtain ⟨vs, h1, h2, _⟩ := s1 F' R' μ' S H x l hg.1
    obtain ⟨us, h3, h4, _⟩ := s2 F' R' μ' S H x l hg.2
    exact ⟨vs, us, h1, h2.length, h3, h4.length⟩
  · rw [zipD_len] at hi
    obtain ⟨T, x, z, rfl, hT, rfl, y1, y2⟩ := y
    obtain ⟨vs, h1, h2, _⟩ := s1 F' R' μ' S H x1 l hg.1
    obtain ⟨us, h3, h4, _⟩ := s2 F' R' μ' S H x1 l hg.2
    obtain ⟨v, e1, e2⟩ := h2.at (List.getElem?_eq_getElem (show i < xs.length by omega))
    obtain ⟨u, e3, e4⟩ := h4.at (List.getElem?_eq_getElem (show i < ys.length by omega))
    have q1 := y1 vs h1
    have q2 := y2 us h3
    rw [e1] at q1
    rw [e3] at q2
    cases q1
    cases q2
    obtain ⟨F'', x2, l2, r2, k2⟩ := lk_pair l hT e2 e4
    exact ⟨F'', _, x2, l2, zipD_at (List.getElem?_eq_getElem (by omega)) (List.getElem?_eq_getElem (by omega)), r2, k2⟩
/-- what stands in a tuple -/
def isTupW : W → Bool
  | .d (.tuple _) => true
  | _ => false
def mZip (a b : ME) : MI := fun env S => (a env S).bind fun p => (b env p.2).bind fun q => if isTupW p.1 = isTupW q.1 then (srcW p.1 q.2).bind fun x => (srcW q.1 q.2).map fun y => (zipD x.1 y.1, (fun S' => x.2 S' ∧ y.2 S'), q.2) else none
theorem src_tup (l : Lk K F R μ S H) {w : W} {v : V} {xs : List PyData} {g : Sto → Prop} (r : RepW K F μ w v) (e : srcW w S = some (xs, g)) :
    g S ∧ ∃ a, v = .ref a ∧ ((isTupW w = false ∧ SrcOk K F μ xs g (fun H vs => SqL K H a vs)) ∨ (isTupW w = true ∧ SrcOk K F μ xs g (fun H vs => SqT K H a vs))) := by
  cases w with
  | r n =>
    simp only [srcW] at e
    split at e <;> simp at e
    rename_i ys hs
    obtain ⟨rfl, rfl⟩ := e
    obtain ⟨a, hn, rfl⟩ := r
    refine ⟨hs, a, rfl, .inl ⟨rfl, fun F' R' μ' S' H' x l' hg => ?_⟩⟩
    obtain ⟨vs, h1, h2, h3, _⟩ := l'.ob n a ys (x.at hn) hg
    exact ⟨vs, SqL.of h1, h2, h3⟩
  | d y =>
    have e' : (seqL S (.d y)).map (fun xs => (xs, fun _ => True)) = some (xs, g) := e
    simp only [Option.map_eq_some_iff] at e'
    obtain ⟨ys, e1, e2⟩ := e'
    cases e2
    refine ⟨trivial, ?_⟩
    cases y with
    | tuple zs =>
      cases e1
      obtain ⟨a, vs, rfl, h1, h2, h3⟩ := r
      exact ⟨a, rfl, .inr ⟨rfl, fun F' R' μ' S' H' x l' _ => ⟨vs, SqT.mono (fun a o q => l'.le a o (x.1 a o q)) h1, RepL.mono x.1 _ _ h3, h2⟩⟩⟩
    | list zs =>
      cases e1
      obtain ⟨a, vs, rfl, h1, h2, h3⟩ := r
      exact ⟨a, rfl, .inl ⟨rfl, fun F' R' μ' S' H' x l' _ => ⟨vs, SqL.of (l'.le _ _ (x.1 _ _ h1)), RepL.mono x.1 _ _ h3, h2⟩⟩⟩
    | dict kvs =>
      obtain ⟨a, ns, rfl, rfl, h, z⟩ := r
      simp [seqL, lsL] at e1
      subst e1
      exact ⟨a, rfl, .inl ⟨rfl, fun F' R' μ' S' H' x l' _ => ⟨ns.map V.int, SqL.mono (fun a o q => l'.le a o (x.1 a o q)) h, RepL.ints ns, by simpa using z⟩⟩⟩
    | none => simp [seqL, lsL, getL] at e1
    | bool b => simp [seqL, lsL, getL] at e1
    | int b => simp [seqL, lsL, getL] at e1
    | str b => simp [seqL, lsL, getL] at e1
theorem si_zip {e e2 : Expr} {ma mb : ME} {p pos tpos : Pos} {elts : List Expr} {kk : Nat} (hg : Gl X "zip") (hm : X.mg "zip" = none) (h1 : SimE X e ma) (h2 : SimE X e2 mb)
    (hs : starEach [e, e2] X.env = (false, eval e X.env) :: starEach [e2] X.env := by rfl) (hs2 : starEach [e2] X.env = (false, eval e2 X.env) :: starEach [] X.env := by rfl) (hpl : (backTo pos (starEach [e2] X.env)).any (·.1) = false := by rfl) :
    SimI X (.Tuple elts kk tpos) (.Call (.Name "zip" p) [e, e2] [] pos) (mZip ma mb) := by
  refine pi_imp (RZ.pi_zipA hg hm (pa_cons h1 (pa_cons h2 pa_nil hs2) hs) hs hpl) fun σ H Q q => ?_
  obtain ⟨F, R, μ, env, S, xs, g, S', sl, l, e, k⟩ := q
  simp only [mZip, Option.bind_eq_some_iff] at e
  obtain ⟨⟨w1, S1⟩, e1, ⟨w2, S2⟩, e2, e3⟩ := e
  split at e3 <;> simp only [Option.bind_eq_some_iff, Option.map_eq_some_iff, reduceCtorEq] at e3
  rename_i ht
  obtain ⟨⟨ys, g1⟩, e4, ⟨zs, g2⟩, e5, e6⟩ := e3
  cases e6
  refine ⟨F, R, μ, env, S, w1, S1, sl, l, e1, fun F1 μ1 v H1 x1 l1 r1 => ?_⟩
  refine ⟨F1, R, μ1, env, S1, w2, S', sl.mono x1, l1, e2, fun F2 μ2 u H2 x2 l2 r2 => ?_⟩
  obtain ⟨hg1, a, rfl, s1⟩ := src_tup l2 (r1.mono x2) e4
  obtain ⟨hg2, b, rfl, s2⟩ := src_tup l2 r2 e5
  simp only at ht
  rcases s1 with ⟨t1, s1⟩ | ⟨t1, s1⟩ <;> rcases s2 with ⟨t2, s2⟩ | ⟨t2, s2⟩
  · obtain ⟨vs, q1, _⟩ := s1 F2 R μ2 S' H2 (.refl _ _) l2 hg1
    obtain ⟨us, q2, _⟩ := s2 F2 R μ2 S' H2 (.refl _ _) l2 hg2
    exact ⟨a, b, vs, us, rfl, .inl ⟨q1, q2, k F2 μ2 H2 _ (x1.trans x2) l2 (wd_zipL (SrcOk.len l2 hg1 s1) s1 s2)⟩⟩
  · rw [t1, t2] at ht; cases ht
  · rw [t1, t2] at ht; cases ht
  · obtain ⟨vs, q1, _⟩ := s1 F2 R μ2 S' H2 (.refl _ _) l2 hg1
    obtain ⟨us, q2, _⟩ := s2 F2 R μ2 S' H2 (.refl _ _) l2 hg2
    exact ⟨a, b, vs, us, rfl, .inr ⟨q1, q2, k F2 μ2 H2 _ (x1.trans x2) l2 (wd_zipT (SrcOk.len l2 hg1 s1) s1 s2)⟩⟩
/-! ### lists of data by < -/
def rLtD (K : PySem.W.Frag) : R2 := fun x y H Q => ∃ d e, Dp K H x d ∧ Dp K H y e ∧ SeqAt.shaped d = true ∧ PySem.W.alike d e = true ∧ d ≠ .none ∧ Q (.bl (PySem.W.dataLt d e)) H
theorem op_ltD (hu : X.A.units + 64 < cLine) : OpR X (compareOp .Lt) (rLtD X.K) := by
  intro pins s σ H x y v u Q I rx ry h
  obtain ⟨d, e, hd, he, sd, ha, hn, q⟩ := h
  obtain ⟨as, r1⟩ := Dp.reads I d x v hd rx
  obtain ⟨bs, r2⟩ := Dp.reads I e y u he ry
  exact PySem.W.rcLt_alike d e X.A s v u as bs r1 r2 ha hn (SeqAt.room_of_shaped sd hu) X.prog X.w X.xe _ ⟨.bl _, H, I, rfl, q⟩
/-- whole lists by < -/
def ltD : W → W → Sto → Option PyData
  | .d (.list xs), .d (.list ys), _ => if (PyData.list xs).canLay0 && (PyData.list ys).canLay0 && SeqAt.shaped (.list xs) && PySem.W.alike (.list xs) (.list ys) then some (.bool (PySem.W.dataLt (.list xs) (.list ys))) else none
  | _, _, _ => none
theorem ops_ltD : OpS K (rLtD K) ltD := by
  intro F R μ S H x y v u z Q l rx ry e k
  unfold ltD at e
  split at e
  · split at e <;> simp only [reduceCtorEq, Option.some.injEq] at e
    rename_i hc
    simp only [Bool.and_eq_true] at hc
    subst e
    exact ⟨_, _, lk_dp l hc.1.1.1 rx, lk_dp l hc.1.1.2 ry, hc.1.2, hc.2, by simp, k F _ H (.refl _ _) l rfl⟩
  · cases e
end
/-! Sim, part O: tuple * int, lists made by * and + that are changed, list(range), pop(i), max of a list. -/
/-! ### tuple * int -/
theorem tuple_mulS (l : Addr) (items : Array Value) (n : Nat) (dd : Option Addr) (sl : Array (Option Value)) (x : Int) (u : Tok) (c0 : (decide (x < -(2 ^ 63)) || decide (x ≥ 2 ^ 63)) = false) (c1 : (items.isEmpty || x == 1) = true) :
    Meets (Builtin.«tuple.__mul__» ⟨[.ref l, .int x u], []⟩) (fun _ R s => s.heap.get? l = some { cls := .type "tuple", dict := dd, data := .seq items n, slots := sl } ∧
      R (.ok (.ret (Value.ref l))) s) :=
  .of_wp fun prog w A R s h => by
    obtain ⟨hp, g, d, tk, os⟩ := s
    obtain ⟨hl, h⟩ := h
    have f1 := AutoSeq1.idx_int
    have hT : (⟨hp, g, d, tk, os⟩ : Shared).TypeIs (.ref l) "tuple" := ⟨_, hl, rfl⟩
    wp_walk using wpAny_loadPart' hl, wpAny_typeOf hT
    repeat (first
      | (refine wpAny_ite_false (decide_eq_false (by rw [c0]; exact Bool.false_ne_true)) ?_; wp_walk using wpAny_loadPart' hl, wpAny_typeOf hT)
      | (refine wpAny_ite_true (decide_eq_true (by rw [c1])) ?_; wp_walk using wpAny_loadPart' hl, wpAny_typeOf hT))
    exact ⟨_, rfl, h⟩
theorem tuple_mulN (l : Addr) (items : Array Value) (n : Nat) (dd : Option Addr) (sl : Array (Option Value)) (x : Int) (u : Tok) (c0 : (decide (x < -(2 ^ 63)) || decide (x ≥ 2 ^ 63)) = false) (c1 : (items.isEmpty || x == 1) = false) (c2 : (decide (x ≤ 0) || items.isEmpty) = true) :
    Meets (Builtin.«tuple.__mul__» ⟨[.ref l, .int x u], []⟩) (fun _ R s => s.heap.get? l = some { cls := .type "tuple", dict := dd, data := .seq items n, slots := sl } ∧
      R (.ok (.ret (Value.ref s.heap.objs.size))) { s with heap := s.heap.push { cls := Value.type "tuple", data := Data.seq #[] }, toks := s.toks }) :=
  .of_wp fun prog w A R s h => by
    obtain ⟨hp, g, d, tk, os⟩ := s
    obtain ⟨hl, h⟩ := h
    have f1 := AutoSeq1.idx_int
    have hT : (⟨hp, g, d, tk, os⟩ : Shared).TypeIs (.ref l) "tuple" := ⟨_, hl, rfl⟩
    wp_walk using wpAny_loadPart' hl, wpAny_typeOf hT
    repeat (first
      | (refine wpAny_ite_false (decide_eq_false (by rw [c0]; exact Bool.false_ne_true)) ?_; wp_walk using wpAny_loadPart' hl, wpAny_typeOf hT)
      | (refine wpAny_ite_false (decide_eq_false (by rw [c1]; exact Bool.false_ne_true)) ?_; wp_walk using wpAny_loadPart' hl, wpAny_typeOf hT)
      | (refine wpAny_ite_true (decide_eq_true (by rw [c2])) ?_; wp_walk using wpAny_loadPart' hl, wpAny_typeOf hT))
    exact ⟨_, rfl, h⟩

def rRepT1 (K : PySem.W.Frag) : R2 := fun x y H Q => ∃ l k xs, x = .ref l ∧ y = .int k ∧ SqT K H l xs ∧ -(2 ^ 63) ≤ k ∧ k < 2 ^ 63 ∧ (xs = [] ∨ k = 1) ∧ Q (.ref l) H
def rRepT0 (K : PySem.W.Frag) : R2 := fun x y H Q => ∃ l k xs, x = .ref l ∧ y = .int k ∧ SqT K H l xs ∧ -(2 ^ 63) ≤ k ∧ k ≤ 0 ∧ xs ≠ [] ∧ ∀ p, H p = none → Q (.ref p) (upd H p (.tup []))
section
variable {X : Cx} {K : PySem.W.Frag}
theorem op_repT1 : OpR X (binaryOp .Mult) (rRepT1 X.K) := by
  intro pins s σ H x y v u Q I rx ry h
  obtain ⟨l, k, xs, rfl, rfl, hT, h1, h2, he, q⟩ := h
  cases rx
  obtain ⟨t, rfl⟩ := ry
  obtain ⟨its, r, ⟨⟨cls, dd, data, sl⟩, ho, hc, n, hd⟩, hs⟩ := I.tuple hT
  simp only at hc hd
  subst hc hd
  have c0 : (decide (k < -(2 ^ 63)) || decide (k ≥ 2 ^ 63)) = false := by
    rw [decide_eq_false (by omega), decide_eq_false (by omega)] <;> rfl
  have c1 : (its.toArray.isEmpty || k == 1) = true := by
    rcases he with e | e
    · subst e
      cases r
      rfl
    · subst e
      simp
  refine wpAny_binaryOp_repeat_ref (T := "tuple") (U := "int") (by decide) ⟨_, ho, rfl⟩ (fun s' => typeIs_int s' k t) noFill_tuple_mul F.fills_int_mul F.slot_int_rmul repeat_tuple F.slot_int_index.lookup
    (call_meets F.slot_int_rmul (typeIs_int s k t) F.entry_int_rmul (F.args_int_rmul_2 _ _) (int_rmul_tuple k t l its.toArray n dd sl)
      ⟨ho, rfl, ⟨_, ho, rfl⟩, call_meets F.slot_tuple_mul ⟨_, ho, rfl⟩ F.entry_tuple_mul (F.args_tuple_mul_2 _ _) (tuple_mulS l its.toArray n dd sl k t c0 c1) ⟨ho, ?_⟩⟩)
  exact ⟨.ref l, H, I, rfl, q⟩
theorem op_repT0 : OpR X (binaryOp .Mult) (rRepT0 X.K) := by
  intro pins s σ H x y v u Q I rx ry h
  obtain ⟨l, k, xs, rfl, rfl, hT, h1, h2, hne, q⟩ := h
  cases rx
  obtain ⟨t, rfl⟩ := ry
  obtain ⟨its, r, ⟨⟨cls, dd, data, sl⟩, ho, hc, n, hd⟩, hs⟩ := I.tuple hT
  simp only at hc hd
  subst hc hd
  have hle : its.length = xs.length := r.length.symm
  have hn : its ≠ [] := fun e => hne (by
    rw [e] at hle
    exact List.eq_nil_of_length_eq_zero hle.symm)
  have hi : its.toArray.isEmpty = false := by
    cases its with
    | nil => exact absurd rfl hn
    | cons a b => rfl
  have c0 : (decide (k < -(2 ^ 63)) || decide (k ≥ 2 ^ 63)) = false := by
    rw [decide_eq_false (by omega), decide_eq_false (by omega)] <;> rfl
  have c1 : (its.toArray.isEmpty || k == 1) = false := by
    rw [hi, Bool.false_or]
    exact beq_eq_false_iff_ne.mpr (by omega)
  have c2 : (decide (k ≤ 0) || its.toArray.isEmpty) = true := by
    rw [decide_eq_true h2]; rfl
  refine wpAny_binaryOp_repeat_ref (T := "tuple") (U := "int") (by decide) ⟨_, ho, rfl⟩ (fun s' => typeIs_int s' k t) noFill_tuple_mul F.fills_int_mul F.slot_int_rmul repeat_tuple F.slot_int_index.lookup
    (call_meets F.slot_int_rmul (typeIs_int s k t) F.entry_int_rmul (F.args_int_rmul_2 _ _) (int_rmul_tuple k t l its.toArray n dd sl)
      ⟨ho, rfl, ⟨_, ho, rfl⟩, call_meets F.slot_tuple_mul ⟨_, ho, rfl⟩ F.entry_tuple_mul (F.args_tuple_mul_2 _ _) (tuple_mulN l its.toArray n dd sl k t c0 c1 c2) ⟨ho, ?_⟩⟩)
  refine ⟨.ref s.heap.objs.size, _, I.laid (t' := s.toks) (o := .tup []) (fun b ob q => Heap.get?_push_of_some _ q) (Nat.le_refl _) ?_, rfl, q _ (I.hok.fresh (Nat.le_refl _))⟩
  exact ⟨by simp, _, .nil, IsTup.new _ _⟩
noncomputable def mulTW (x y : W) (_ : Sto) : Option PyData := match x, y with
  | .d (.tuple xs), .d (.int k) => if Ok (-1000000 ≤ k ∧ k ≤ 1000 ∧ xs.length ≤ 1000) then some (.tuple (List.replicate k.toNat xs).flatten) else none
  | _, _ => none
theorem mulTW_ok {xs : List PyData} {k : Int} {S : Sto} (h : -1000000 ≤ k ∧ k ≤ 1000 ∧ xs.length ≤ 1000) : mulTW (.d (.tuple xs)) (.d (.int k)) S = some (.tuple (List.replicate k.toNat xs).flatten) := if_pos h
abbrev rMulT (K : PySem.W.Frag) : R2 := fun x y H Q => rRepT K x y H Q ∨ (rRepT1 K x y H Q ∨ rRepT0 K x y H Q)
theorem op_mulT : OpR X (binaryOp .Mult) (rMulT X.K) := op_repT.or (op_repT1.or op_repT0)
theorem ops_mulT : OpS K (rMulT K) mulTW := by
  intro F R μ S H x y v u z Q l rx ry e k
  unfold mulTW at e
  split at e
  · rename_i xs n
    split at e <;> simp at e
    rename_i hz
    unfold Ok at hz
    obtain ⟨z1, z2, z3⟩ := hz
    subst e
    obtain ⟨a, vs, rfl, h1, h2, h3⟩ := rx
    cases ry
    have hn := h3.length
    by_cases e0 : vs = []
    · subst e0
      have ex : xs = [] := List.length_eq_zero_iff.mp (by simpa using hn.symm)
      subst ex
      refine .inr (.inl ⟨a, n, [], rfl, rfl, SqT.mono l.le h1, by omega, by omega, .inl rfl, k F _ H (.refl _ _) l ⟨a, [], rfl, h1, h2, ?_⟩⟩)
      simp [RepL]
    · by_cases e1 : n = 1
      · subst e1
        refine .inr (.inl ⟨a, 1, vs, rfl, rfl, SqT.mono l.le h1, by omega, by omega, .inr rfl, k F _ H (.refl _ _) l ⟨a, vs, rfl, h1, h2, ?_⟩⟩)
        simpa using h3
      · by_cases e2 : n ≤ 0
        · refine .inr (.inr ⟨a, n, vs, rfl, rfl, SqT.mono l.le h1, by omega, e2, e0, fun p hp => ?_⟩)
          obtain ⟨l', x'⟩ := lk_newF (o := .tup []) l hp
          refine k _ _ _ x' l' ⟨p, [], rfl, SqT.of upd_same, by simp, ?_⟩
          have : n.toNat = 0 := by omega
          rw [this]
          simp [RepL]
        · refine .inl ⟨a, n, vs, rfl, rfl, SqT.mono l.le h1, e0, by omega, by omega, by omega, fun p hp => ?_⟩
          obtain ⟨l', x'⟩ := lk_newF (o := .tup (List.replicate n.toNat vs).flatten) l hp
          refine k _ _ _ x' l' ⟨p, _, rfl, SqT.of upd_same, ?_, RepL.mono x'.1 _ _ (h3.flat _)⟩
          rw [flat_len, sizeLine_eq]
          have a1 : n.toNat * vs.length ≤ 1000 * 1000 := Nat.mul_le_mul (by omega) (by omega)
          omega
  · cases e
/-! ### a list that is changed, by * and by + -/
noncomputable def mRepM (a b : ME) : ME := fun env S => (a env S).bind fun p => (b env p.2).bind fun q => match q.1 with
  | .d (.int k) => (getL q.2 p.1).bind fun xs => if Ok (-(2 ^ 63) ≤ k ∧ k < 2 ^ 63 ∧ xs.length * k.toNat ≤ LIM) then some (.r q.2.length, q.2 ++ [Ob.lst (List.replicate k.toNat xs).flatten]) else none
  | _ => none
theorem se_repM {a b : Expr} {ma mb : ME} {pos : Pos} (ha : SimE X a ma) (hb : SimE X b mb) : SimE X (.BinOp a .Mult b pos) (mRepM ma mb) := by
  refine pe_imp (pe_op op_rep ha hb) fun σ H Q q => ?_
  obtain ⟨F, R, μ, env, S, w, S', sl, l, e, k⟩ := q
  simp only [mRepM, Option.bind_eq_some_iff] at e
  obtain ⟨⟨x, S1⟩, e1, ⟨y, S2⟩, e2, e3⟩ := e
  split at e3 <;> simp only [Option.bind_eq_some_iff, reduceCtorEq] at e3
  rename_i n hy
  simp only at hy
  subst hy
  obtain ⟨xs, e4, e5⟩ := e3
  split at e5 <;> simp only [reduceCtorEq, Option.some.injEq, Prod.mk.injEq] at e5
  rename_i hz
  unfold Ok at hz
  obtain ⟨rfl, rfl⟩ := e5
  refine ⟨F, R, μ, env, S, x, S1, sl, l, e1, fun F1 μ1 v H1 x1 l1 r1 => ?_⟩
  refine ⟨F1, R, μ1, env, S1, _, S2, sl.mono x1, l1, e2, fun F2 μ2 u H2 x2 l2 r2 => ?_⟩
  obtain ⟨p, vs, rfl, h1, h2, h3⟩ := lk_getL l2 (r1.mono x2) e4
  cases r2
  have n1 := h3.length
  have hz' : vs.length * Int.toNat n ≤ sizeLine := lim_line (by rw [n1]; exact hz.2.2)
  refine ⟨p, n, vs, rfl, rfl, h1, hz.1, hz.2.1, hz', fun p hp => ?_⟩
  obtain ⟨l3, x3⟩ := lk_newM l2 hp (h3.flat n.toNat) (by rw [flat_len, Nat.mul_comm]; exact hz')
  refine k _ _ _ _ ((x1.trans x2).trans x3) l3 ⟨p, ?_, rfl⟩
  rw [← l2.len]
  simp
noncomputable def mCatM (a b : ME) : ME := fun env S => (a env S).bind fun p => (b env p.2).bind fun q => (getL q.2 p.1).bind fun xs => (getL q.2 q.1).bind fun ys =>
  if Ok (xs.length + ys.length ≤ LIM) then some (.r q.2.length, q.2 ++ [Ob.lst (xs ++ ys)]) else none
theorem se_catM {a b : Expr} {ma mb : ME} {pos : Pos} (ha : SimE X a ma) (hb : SimE X b mb) : SimE X (.BinOp a .Add b pos) (mCatM ma mb) := by
  refine pe_imp (pe_op op_cat ha hb) fun σ H Q q => ?_
  obtain ⟨F, R, μ, env, S, w, S', sl, l, e, k⟩ := q
  simp only [mCatM, Option.bind_eq_some_iff] at e
  obtain ⟨⟨x, S1⟩, e1, ⟨y, S2⟩, e2, xs, e3, ys, e4, e5⟩ := e
  split at e5 <;> simp only [reduceCtorEq, Option.some.injEq, Prod.mk.injEq] at e5
  rename_i hz
  unfold Ok at hz
  obtain ⟨rfl, rfl⟩ := e5
  refine ⟨F, R, μ, env, S, x, S1, sl, l, e1, fun F1 μ1 v H1 x1 l1 r1 => ?_⟩
  refine ⟨F1, R, μ1, env, S1, y, S2, sl.mono x1, l1, e2, fun F2 μ2 u H2 x2 l2 r2 => ?_⟩
  obtain ⟨p, vs, rfl, h1, h2, h3⟩ := lk_getL l2 (r1.mono x2) e3
  obtain ⟨b, us, rfl, g1, g2, g3⟩ := lk_getL l2 r2 e4
  have n1 := h3.length
  have n2 := g3.length
  have hz' : vs.length + us.length ≤ sizeLine := lim_line (by omega)
  refine ⟨p, b, vs, us, rfl, rfl, h1, g1, hz', fun p hp => ?_⟩
  obtain ⟨l3, x3⟩ := lk_newM l2 hp (h3.append g3) (by rw [List.length_append]; exact hz')
  refine k _ _ _ _ ((x1.trans x2).trans x3) l3 ⟨p, ?_, rfl⟩
  rw [← l2.len]
  simp
/-! ### list(range(..)) -/
theorem RepL.rg {F : Hp} (lo hi : Int) : RepL K F (rangeD lo (hi - lo).toNat) (rgV lo hi) := by
  have g : ∀ (f : Nat → Int) (l : List Nat), RepL K F (l.map fun i => PyData.int (f i)) (l.map fun i => V.int (f i)) := fun f l => by
    induction l with
    | nil => simp [RepL]
    | cons a r ih => exact ⟨_, _, rfl, rfl, ih⟩
  exact g (fun i => lo + (i : Nat)) _
noncomputable def mLrg1 (a : ME) : ME := fun env S => (a env S).bind fun p => match p.1 with
  | .d (.int n) => if Ok (0 ≤ n ∧ n ≤ 16777216) then some (.d (.list (rangeD 0 n.toNat)), p.2) else none
  | _ => none
noncomputable def mLrg2 (a b : ME) : ME := fun env S => (a env S).bind fun p => (b env p.2).bind fun q => match p.1, q.1 with
  | .d (.int m), .d (.int n) => if Ok (0 ≤ m ∧ m ≤ 16777216 ∧ 0 ≤ n ∧ n ≤ 16777216) then some (.d (.list (rangeD m (n - m).toNat)), q.2) else none
  | _, _ => none
theorem se_lrg1 {a : Expr} {ma : ME} {p p2 pos pos2 : Pos} (hc : X.calm = true) (hg : Gl X "list") (hm : X.mg "list" = none) (hg2 : Gl X "range") (hm2 : X.mg "range" = none) (ha : SimE X a ma)
    (hs : starEach [a] X.env = (false, eval a X.env) :: starEach [] X.env := by rfl)
    (hs2 : starEach [.Call (.Name "range" p2) [a] [] pos2] X.env = (false, eval (.Call (.Name "range" p2) [a] [] pos2) X.env) :: starEach [] X.env := by rfl) :
    SimE X (.Call (.Name "list" p) [.Call (.Name "range" p2) [a] [] pos2] [] pos) (mLrg1 ma) := by
  refine pe_imp (pe_listRg hc hg hm (prg_1 hg2 hm2 ha hs) hs2) fun σ H Q q => ?_
  obtain ⟨F, R, μ, env, S, w, S', sl, l, e, k⟩ := q
  simp only [mLrg1, Option.bind_eq_some_iff] at e
  obtain ⟨⟨x, S1⟩, e1, e3⟩ := e
  split at e3 <;> simp only [reduceCtorEq] at e3
  rename_i n hx
  simp only at hx
  subst hx
  split at e3 <;> simp only [reduceCtorEq, Option.some.injEq, Prod.mk.injEq] at e3
  rename_i hz
  unfold Ok at hz
  obtain ⟨rfl, rfl⟩ := e3
  refine ⟨F, R, μ, env, S, _, S1, sl, l, e1, fun F1 μ1 v H1 x1 l1 r1 => ?_⟩
  cases r1
  refine ⟨n, rfl, .of_le (by omega) (by omega) (by omega) (by omega), fun q hq => ?_⟩
  obtain ⟨l', x'⟩ := lk_newF (o := .lst (rgV 0 n)) l1 hq
  exact k _ _ _ _ (x1.trans x') l' ⟨q, rgV 0 n, rfl, upd_same, by rw [rgV_length, sizeLine_eq]; omega, by have := RepL.rg (K := X.K) (F := upd F1 q (.lst (rgV 0 n))) 0 n; rwa [Int.sub_zero] at this⟩
theorem se_lrg2 {a b : Expr} {ma mb : ME} {p p2 pos pos2 : Pos} (hc : X.calm = true) (hg : Gl X "list") (hm : X.mg "list" = none) (hg2 : Gl X "range") (hm2 : X.mg "range" = none) (ha : SimE X a ma) (hb : SimE X b mb)
    (hs : starEach [a, b] X.env = (false, eval a X.env) :: starEach [b] X.env := by rfl) (hsb : starEach [b] X.env = (false, eval b X.env) :: starEach [] X.env := by rfl) (hp : (backTo pos2 (starEach [b] X.env)).any (·.1) = false := by rfl)
    (hs2 : starEach [.Call (.Name "range" p2) [a, b] [] pos2] X.env = (false, eval (.Call (.Name "range" p2) [a, b] [] pos2) X.env) :: starEach [] X.env := by rfl) :
    SimE X (.Call (.Name "list" p) [.Call (.Name "range" p2) [a, b] [] pos2] [] pos) (mLrg2 ma mb) := by
  refine pe_imp (pe_listRg hc hg hm (prg_2 hg2 hm2 ha hb hs hsb hp) hs2) fun σ H Q q => ?_
  obtain ⟨F, R, μ, env, S, w, S', sl, l, e, k⟩ := q
  simp only [mLrg2, Option.bind_eq_some_iff] at e
  obtain ⟨⟨x, S1⟩, e1, ⟨y, S2⟩, e2, e3⟩ := e
  split at e3 <;> simp only [reduceCtorEq] at e3
  rename_i m n hx hy
  simp only at hx hy
  subst hx hy
  split at e3 <;> simp only [reduceCtorEq, Option.some.injEq, Prod.mk.injEq] at e3
  rename_i hz
  unfold Ok at hz
  obtain ⟨rfl, rfl⟩ := e3
  refine ⟨F, R, μ, env, S, _, S1, sl, l, e1, fun F1 μ1 v H1 x1 l1 r1 => ?_⟩
  refine ⟨F1, R, μ1, env, S1, _, S2, sl.mono x1, l1, e2, fun F2 μ2 u H2 x2 l2 r2 => ?_⟩
  cases r1
  cases r2
  refine ⟨m, n, rfl, rfl, .of_le (by omega) (by omega) (by omega) (by omega), fun q hq => ?_⟩
  obtain ⟨l', x'⟩ := lk_newF (o := .lst (rgV m n)) l2 hq
  exact k _ _ _ _ ((x1.trans x2).trans x') l' ⟨q, rgV m n, rfl, upd_same, by rw [rgV_length, sizeLine_eq]; omega, RepL.rg m n⟩
/-! ### o.pop(0) -/
def mPop0 (o i : ME) : ME := fun env S => (o env S).bind fun p => (getL p.2 p.1).bind fun _ => (i env p.2).bind fun q => match p.1, q.1 with
  | .r n, .d (.int k) => if k = 0 then match q.2[n]? with
    | some (Ob.lst (x :: xs)) => some (.d x, q.2.set n (Ob.lst xs))
    | _ => none
    else none
  | _, _ => none
theorem se_pop0 {o i : Expr} {mo mi : ME} {apos cpos : Pos} (ho : SimE X o mo) (hi : SimE X i mi)
    (hbase : attributeBase o "pop" X.env (eval o X.env) = eval o X.env := by rfl)
    (hfew : ((backTo cpos (starEach [i] X.env)).all (fun x => !x.1) && (backToKw cpos (keywordEach [] X.env)).all (fun x => x.1.isSome)
      && decide ([i].length + ([] : List Keyword).length + (if ([] : List Keyword).isEmpty then 0 else 1) < 30)) = true := by rfl)
    (hline : (apos.endLine == cpos.line) = true := by rfl) (hs : starEach [i] X.env = (false, eval i X.env) :: starEach [] X.env := by rfl) (hplain : (backTo cpos (starEach [] X.env)).any (·.1) = false := by rfl) :
    SimE X (.Call (.Attribute o "pop" apos) [i] [] cpos) (mPop0 mo mi) := by
  refine pe_imp (pe_bm PySem.F.plainAttrs_list PySem.F.slot_list_pop PySem.F.type_list_pop mt_popAt ho (pa_cons hi pa_nil hs) hbase hfew hline hs hplain) fun σ H Q q => ?_
  obtain ⟨F, R, μ, env, S, w, S', sl, l, e, k⟩ := q
  simp only [mPop0, Option.bind_eq_some_iff] at e
  obtain ⟨⟨x, S1⟩, e1, xs0, e0, ⟨y, S2⟩, e2, e4⟩ := e
  refine ⟨F, R, μ, env, S, x, S1, sl, l, e1, fun F1 μ1 v H1 x1 l1 r1 => ?_⟩
  split at e4
  · rename_i n kk h1 h2
    simp only at h1 h2
    subst h1 h2
    split at e4 <;> simp only [reduceCtorEq] at e4
    rename_i hk
    subst hk
    split at e4 <;> simp only [reduceCtorEq, Option.some.injEq, Prod.mk.injEq] at e4
    rename_i d ds hS
    obtain ⟨rfl, rfl⟩ := e4
    obtain ⟨a0, vs0, ea, g0, _⟩ := lk_getL l1 r1 e0
    obtain ⟨a, hn, rfl⟩ := r1
    injection ea with ea
    subst ea
    refine ⟨.inl ⟨rfl, vs0, SqL.of g0⟩, ?_⟩
    refine ⟨F1, R, μ1, env, S1, _, S2, sl.mono x1, l1, e2, fun F2 μ2 u H2 x2 l2 r2 => ?_⟩
    cases r2
    have hn4 : μ2[n]? = some a := x2.at hn
    obtain ⟨vs, g1, g2, g3, g4⟩ := l2.ob n a _ hn4 hS
    obtain ⟨v0, vr, rfl, q1, q2⟩ := g2
    refine ⟨a, v0 :: vr, 0, 0, v0, rfl, rfl, g1, by omega, by omega, by simp [seqIndex?], rfl, ?_⟩
    have l5 := lk_set l2 hn4 hS q2 (by rw [List.length_cons] at g3; omega)
    exact k F2 μ2 _ _ (x1.trans x2) l5 q1
  · cases e4
/-! ### max of a list -/
def maxLW (xs : List W) (S : Sto) : Option PyData := match xs with
  | [w] => (lsL S w).bind fun ds => (allInt ds).bind fun ns => ns.max?.map .int
  | _ => none
theorem cas_maxL : CaS K (rMax K) maxLW := by
  intro F R μ S H ws vs z Q l rs e k
  unfold maxLW at e
  split at e
  · simp only [Option.bind_eq_some_iff, Option.map_eq_some_iff] at e
    obtain ⟨ds, e1, ns, e2, m, e3, rfl⟩ := e
    obtain ⟨v, rfl, rv⟩ := ca1 rs
    obtain ⟨a, us, rfl, h1, h2, h3⟩ := lk_ls l rv e1
    have eu := allInt_ok h3 e2
    subst eu
    obtain ⟨hm1, hm2⟩ := List.max?_eq_some_iff.mp e3
    refine ⟨a, ns, rfl, h1, List.length_pos_of_mem hm1, fun m' q1 q2 => ?_⟩
    have : m' = m := Int.le_antisymm (hm2 m' q1) (q2 m hm1)
    subst this
    exact k F _ H (.refl _ _) l rfl
  · cases e
end
/-! Sim, part P: zip of two and of three, lists and tuples in any mix. -/
/-- a list (false) or a tuple (true) -/
def SqK (k : Bool) (K : PySem.W.Frag) (H : Hp) (a : Addr) (xs : List V) : Prop := match k with
  | true => SqT K H a xs
  | false => SqL K H a xs
def IterK (k : Bool) (h : Heap) (it l : Addr) (i : Nat) : Prop := match k with
  | true => h.IsTupleIter it l i
  | false => h.IsListIter it l i
def SeqK (k : Bool) (h : Heap) (l : Addr) (items : Array Value) : Prop := match k with
  | true => h.IsTuple l items
  | false => h.IsList l items
def itObj (k : Bool) (l : Addr) : Obj := match k with
  | true => { cls := .type "tuple_iterator", data := .fields #[.ref l, .int 0 0] }
  | false => { cls := .type "list_iterator", data := .fields #[.ref l, .int 0 0] }
section
variable {X : Cx} {pins : List (Addr × Obj)} {σ : L2.St} {H : Hp} {s : Shared} {a : Addr} {xs ys : List V} {k : Bool}
theorem inv_seqK (I : Inv X pins σ H s) (h : SqK k X.K H a xs) : ∃ its : List Value, Vals xs its ∧ SeqK k s.heap a its.toArray ∧ xs.length ≤ sizeLine := by
  cases k with
  | true => exact I.tuple h
  | false =>
    obtain ⟨its, r, p, z⟩ := I.list h
    exact ⟨its, r, p.isList, z⟩
theorem inv_seqK_inj (I : Inv X pins σ H s) (h : SqK k X.K H a xs) (h' : SqK k X.K H a ys) : xs = ys := by
  cases k with
  | true => exact I.tuple_inj h h'
  | false => exact I.list_inj h h'
theorem SeqK.lt {h : Heap} {items : Array Value} (x : SeqK k h a items) : a < h.objs.size := by
  cases k with
  | true => obtain ⟨o, ho, _⟩ := x; exact Heap.lt_size ho
  | false => obtain ⟨o, ho, _⟩ := x; exact Heap.lt_size ho
theorem SeqK.push {h : Heap} {items : Array Value} {o : Obj} (x : SeqK k h a items) : SeqK k (h.push o) a items := by
  cases k with
  | true => exact Heap.IsTuple.at (h := h) x fun o e => Heap.get?_push_of_some _ e
  | false => exact Heap.IsList.at (h := h) x fun o e => Heap.get?_push_of_some _ e
theorem IterK.of {h : Heap} {it : Addr} (e : h.get? it = some (itObj k a)) : IterK k h it a 0 := by
  cases k with
  | true => exact ⟨_, e, rfl, rfl⟩
  | false => exact ⟨_, e, rfl, rfl⟩
theorem IterK.obj {h : Heap} {it : Addr} {i : Nat} (x : IterK k h it a i) : ∃ o, h.get? it = some o ∧ ∀ v, o.data ≠ .cell v := by
  cases k with
  | true => obtain ⟨o, e, _, d⟩ := x; exact ⟨o, e, fun v q => by rw [d] at q; cases q⟩
  | false => obtain ⟨o, e, _, d⟩ := x; exact ⟨o, e, fun v q => by rw [d] at q; cases q⟩
theorem IterK.at {h h' : Heap} {it : Addr} {i : Nat} (x : IterK k h it a i) (f : ∀ o, h.get? it = some o → h'.get? it = some o) : IterK k h' it a i := by
  cases k with
  | true => exact Heap.IsTupleIter.at (h := h) x f
  | false => exact Heap.IsListIter.at (h := h) x f
theorem SeqK.at {h h' : Heap} {items : Array Value} (x : SeqK k h a items) (f : ∀ o, h.get? a = some o → h'.get? a = some o) : SeqK k h' a items := by
  cases k with
  | true => exact Heap.IsTuple.at (h := h) x f
  | false => exact Heap.IsList.at (h := h) x f
theorem drawsK (k : Bool) {prog : Program} {w : World} {A : Around} (hh : A.handled = none) (it l : Addr) (hne : l ≠ it) (items : Array Value) :
    Draws prog w A it [it, l] items.size (fun i v => items[i]? = some v) (fun i h => IterK k h it l i ∧ SeqK k h l items) := by
  cases k with
  | true => exact Draws.tuple hh it l hne items
  | false => exact Draws.list hh it l hne items
theorem beginsK (k : Bool) (l : Addr) (items : Array Value) : Begins (.ref l) (itObj k l) fun h => SeqK k h l items := by
  cases k with
  | true => exact begins_tuple l items
  | false => exact begins_list l items
end
/-! ### two -/
def ItzK (K : PySem.W.Frag) (ka kb : Bool) (a b : Addr) : It :=
  ⟨fun i H => ∃ (xs ys : List V) (x y : V), SqK ka K H a xs ∧ SqK kb K H b ys ∧ xs[i]? = some x ∧ ys[i]? = some y,
    fun i H v H' => ∃ T x y, v = .ref T ∧ H T = none ∧ H' = upd H T (.tup [x, y]) ∧ (∀ xs, SqK ka K H a xs → xs[i]? = some x) ∧ ∀ ys, SqK kb K H b ys → ys[i]? = some y,
    fun i H => ∃ xs ys : List V, SqK ka K H a xs ∧ SqK kb K H b ys ∧ i ≤ xs.length ∧ i ≤ ys.length ∧ (i = xs.length ∨ i = ys.length)⟩
theorem mem5 {c z TI TO i1 i2 : Addr} (h : c ∈ [z, TI, TO, i1, i2]) : c = z ∨ c = TI ∨ c = TO ∨ c = i1 ∨ c = i2 := by simpa using h
theorem turn_zipK {P : Program} {w : World} {K : PySem.W.Frag} {elts : List Expr} {kk : Nat} {tpos : Pos} {ka kb : Bool} {a b z TI TO i1 i2 : Addr} (D : ZipSep2 z TI TO i1 i2 [i1, a] [i2, b]) (ha : a ≠ i1) (hb : b ≠ i2) :
    Turn P w K (.Tuple elts kk tpos) (ItzK K ka kb a b) [z, TI, TO, i1, i2] z (fun i h => IsZip h z TI TO .none ∧ IsTupOf2 h TI (.ref i1) (.ref i2) ∧ (∃ x y, IsTupOf2 h TO x y) ∧ IterK ka h i1 a i ∧ IterK kb h i2 b i) where
  mem := by simp
  obj := fun i h st c hc => by
    obtain ⟨hz, hTI, ⟨x, y, hTO⟩, h1, h2⟩ := st
    rcases mem5 hc with q | q | q | q | q
    · rw [q]; exact ⟨_, hz, fun v q => nomatch q⟩
    · rw [q]; exact ⟨_, hTI, fun v q => nomatch q⟩
    · rw [q]; exact ⟨_, hTO, fun v q => nomatch q⟩
    · rw [q]; exact h1.obj
    · rw [q]; exact h2.obj
  keep := fun i h h' st k => by
    obtain ⟨hz, hTI, ⟨x, y, hTO⟩, h1, h2⟩ := st
    exact ⟨k z (by simp) _ hz, k TI (by simp) _ hTI, ⟨x, y, k TO (by simp) _ hTO⟩, h1.at fun o q => k i1 (by simp) o q, h2.at fun o q => k i2 (by simp) o q⟩
  item := by
    intro X hP hw hK hc i pins s σ H E I hf st hg
    subst hP hw hK
    obtain ⟨hz, hTI, ⟨x0, y0, hTO⟩, h1, h2⟩ := st
    obtain ⟨xs, ys, x, y, hqx, hqy, hx, hy⟩ := hg
    obtain ⟨its, rv, p, _⟩ := inv_seqK I hqx
    obtain ⟨its2, rv2, p2, _⟩ := inv_seqK I hqy
    obtain ⟨u, hu, ru⟩ := rv.get hx
    obtain ⟨u2, hu2, ru2⟩ := rv2.get hy
    have hzl : z < s.heap.objs.size := Heap.lt_size hz
    have hi1 : i < its.toArray.size := by rw [List.size_toArray]; exact (List.getElem?_eq_some_iff.mp hu).1
    have hi2 : i < its2.toArray.size := by rw [List.size_toArray]; exact (List.getElem?_eq_some_iff.mp hu2).1
    have D1 := drawsK (prog := X.prog) (w := X.w) (A := X.A.in1) ka (I.ok.hd hc) i1 a ha its.toArray
    have D2 := drawsK (prog := X.prog) (w := X.w) (A := X.A.in1) kb (I.ok.hd hc) i2 b hb its2.toArray
    refine wpAny_pyNext_zipD2_item D D1 D2 hz hTI hTO ⟨h1, p⟩ ⟨h2, p2⟩ hi1 hi2 fun v1 v2 h' tk hv1 hv2 z' TO' s1 s2 hT hsz hk => ?_
    have ev1 : v1 = u := by
      have : its.toArray[i]? = some u := by rw [← hu]; simp
      rw [this] at hv1
      exact (Option.some.inj hv1).symm
    have ev2 : v2 = u2 := by
      have : its2.toArray[i]? = some u2 := by rw [← hu2]; simp
      rw [this] at hv2
      exact (Option.some.inj hv2).symm
    subst ev1 ev2
    refine ⟨_, rfl, wpAny_letOwnedTupleGo_zip (s := { s with heap := h', toks := tk }) z' fun h'' z'' sb => ?_⟩
    have hT2 : h''.get? s.heap.objs.size = some { cls := .type "tuple", data := .seq #[v1, v2] } := (sb.2 _ (Nat.ne_of_gt hzl)).trans hT
    have new : ObjOk X.prog X.w (upd H s.heap.objs.size (.tup [x, y])) h'' s.heap.objs.size (.tup [x, y]) :=
      ⟨by show 2 ≤ sizeLine; decide, [v1, v2], .cons ru (.cons ru2 .nil), ⟨_, hT2, rfl, _, rfl⟩⟩
    have I1 : Inv X pins σ (upd H s.heap.objs.size (.tup [x, y])) { s with heap := h'', toks := tk } :=
      I.turnedNew (t' := tk) (ch := [z, TI, TO, i1, i2]) (fun c o hb q => (sb.2 c (fun q' => hb (by simp [q']))).trans (hk c o (fun q' => hb (by simp [q'])) (fun q' => hb (by simp [q'])) (fun q' => hb (by simp [q'])) (fun q' => hb (by simp [q'])) q)) hf (Nat.le_refl _) new
    refine ⟨.ref s.heap.objs.size, _, I1, rfl, ⟨_, x, y, rfl, I.hok.fresh (Nat.le_refl _), rfl, fun l hl => by rw [inv_seqK_inj I hl hqx]; exact hx, fun l hl => by rw [inv_seqK_inj I hl hqy]; exact hy⟩, ⟨z'', ?_, ⟨v1, v2, ?_⟩, ?_, ?_⟩, fun c hcm => ?_⟩
    · exact (sb.2 _ D.TIz).trans (hk _ _ D.TIz D.TITO D.TIi1 D.TIi2 hTI)
    · exact (sb.2 _ D.TOz).trans TO'
    · exact s1.1.at fun o q => (sb.2 _ D.zi1.symm).trans q
    · exact s2.1.at fun o q => (sb.2 _ D.zi2.symm).trans q
    · have hlt : c < s.heap.objs.size := by
        rcases mem5 hcm with q | q | q | q | q
        · rw [q]; exact hzl
        · rw [q]; exact Heap.lt_size hTI
        · rw [q]; exact Heap.lt_size hTO
        · rw [q]; obtain ⟨_, e1, _⟩ := h1.obj; exact Heap.lt_size e1
        · rw [q]; obtain ⟨_, e1, _⟩ := h2.obj; exact Heap.lt_size e1
      rw [upd_ne (Nat.ne_of_lt hlt)]
      exact (hf c hcm).1
  done := by
    intro X hP hw hK hc i pins s σ H E I hf st hg
    subst hP hw hK
    obtain ⟨hz, hTI, ⟨x0, y0, hTO⟩, h1, h2⟩ := st
    obtain ⟨xs, ys, hqx, hqy, hle1, hle2, hend⟩ := hg
    obtain ⟨its, rv, p, _⟩ := inv_seqK I hqx
    obtain ⟨its2, rv2, p2, _⟩ := inv_seqK I hqy
    have l1 : its.toArray.size = xs.length := by rw [List.size_toArray]; exact rv.length.symm
    have l2 : its2.toArray.size = ys.length := by rw [List.size_toArray]; exact rv2.length.symm
    have D1 := drawsK (prog := X.prog) (w := X.w) (A := X.A.in1) ka (I.ok.hd hc) i1 a ha its.toArray
    have D2 := drawsK (prog := X.prog) (w := X.w) (A := X.A.in1) kb (I.ok.hd hc) i2 b hb its2.toArray
    exact wpAny_pyNext_zipD2_end D D1 D2 hz hTI hTO ⟨h1, p⟩ ⟨h2, p2⟩ (by omega) (by omega) (by omega) fun h' tk hk => ⟨rfl, I.turnedL (t' := tk) (ch := [z, TI, TO, i1, i2]) (fun c o hb q =>
      hk c o (fun q' => hb (by simp [q'])) (fun q' => hb (by simp [q'])) (fun q' => hb (by simp [q'])) (fun q' => hb (by simp [q'])) q) hf⟩
  self := fun A i s Q E st h => wpAny_pyIter_zip st.1 h
theorem ne' {a b : Nat} (h : a < b ∨ b < a) : a ≠ b := by omega
theorem nm2 {c x y : Nat} (h1 : c < x ∨ x < c) (h2 : c < y ∨ y < c) : c ∉ [x, y] := by
  have := ne' h1
  have := ne' h2
  simp [*]
theorem sep2_of (n a b : Nat) (ha : a < n) (hb : b < n) : ZipSep2 (n + 4) (n + 2) (n + 3) n (n + 1) [n, a] [n + 1, b] :=
  ⟨ne' (by omega), ne' (by omega), ne' (by omega), ne' (by omega), by simp, nm2 (by omega) (by omega), nm2 (by omega) (by omega), ne' (by omega), by simp, nm2 (by omega) (by omega), nm2 (by omega) (by omega), nm2 (by omega) (by omega), nm2 (by omega) (by omega)⟩
def iZipK (K : PySem.W.Frag) (ta : TA) : TI := fun σ H R => ta σ H fun vs H1 => ∃ ka kb a b xs ys, vs = [.ref a, .ref b] ∧ SqK ka K H1 a xs ∧ SqK kb K H1 b ys ∧ R (ItzK K ka kb a b) H1
theorem pi_zipK {X : Cx} {e e2 : Expr} {ta : TA} {p pos tpos : Pos} {elts : List Expr} {kk : Nat} (hg : Gl X "zip") (hm : X.mg "zip" = none) (ha : PA X [e, e2] ta)
    (hs : starEach [e, e2] X.env = (false, eval e X.env) :: starEach [e2] X.env := by rfl) (hpl : (backTo pos (starEach [e2] X.env)).any (·.1) = false := by rfl) :
    PI X (.Tuple elts kk tpos) (.Call (.Name "zip" p) [e, e2] [] pos) (iZipK X.K ta) := by
  refine ⟨fun pins s σ H R I h => ?_⟩
  refine Call_ (ld_blt I hg hm PyProof.Rows.boot_zip (PyProof.Rows.callWith_type1 (thn (ha.run pos pins s σ H _ I h) fun us s1 ⟨vs, H1, I1, r1, q1⟩ => ?_) hs hpl))
  obtain ⟨ka, kb, a, b, xs, ys, ex, hqx, hqy, q⟩ := q1
  subst ex
  cases r1 with
  | cons r rr =>
    cases rr with
    | cons r' rr =>
      cases rr
      cases r
      cases r'
      have fresh5 : ∀ c, c ∈ [s1.heap.objs.size + 4, s1.heap.objs.size + 2, s1.heap.objs.size + 3, s1.heap.objs.size, s1.heap.objs.size + 1] → FpOk X pins H1 c := fun c hcm => by
        have hle : s1.heap.objs.size ≤ c := by
          rcases mem5 hcm with z | z | z | z | z
          · rw [z]; exact Nat.le_add_right _ _
          · rw [z]; exact Nat.le_add_right _ _
          · rw [z]; exact Nat.le_add_right _ _
          · rw [z]; exact Nat.le_refl _
          · rw [z]; exact Nat.le_add_right _ _
        exact I1.fpOk hle (I1.hok.fresh hle)
      obtain ⟨its, rv, p1, _⟩ := inv_seqK I1 hqx
      obtain ⟨its2, rv2, p2, _⟩ := inv_seqK I1 hqy
      have la := p1.lt
      have lb := p2.lt
      refine zip_begins2 (beginsK ka a its.toArray) (beginsK kb b its2.toArray) p1 p2 fun h' hz hTI hTO h1 h2 hsz hk => wpAny_pyIter_zip hz ?_
      have I2 : Inv X pins σ H1 { s1 with heap := h' } := I1.kept (t' := s1.toks) hk
      exact ⟨s1.heap.objs.size + 4, [s1.heap.objs.size + 4, s1.heap.objs.size + 2, s1.heap.objs.size + 3, s1.heap.objs.size, s1.heap.objs.size + 1], _, _, H1, rfl, I2, turn_zipK (ka := ka) (kb := kb) (a := a) (b := b) (sep2_of s1.heap.objs.size a b la lb) (Nat.ne_of_lt la) (Nat.ne_of_lt (Nat.lt_succ_of_lt lb)), ⟨hz, hTI, ⟨_, _, hTO⟩, .of h1, .of h2⟩, fresh5, q⟩
section
variable {X : Cx} {K : PySem.W.Frag} {F R H : Hp} {μ : List Addr} {S : Sto}
theorem wd_zipK {ka kb : Bool} {a b : Addr} {xs ys : List PyData} {g1 g2 : Sto → Prop} (hz : xs.length ≤ sizeLine) (s1 : SrcOk K F μ xs g1 (fun H vs => SqK ka K H a vs)) (s2 : SrcOk K F μ ys g2 (fun H vs => SqK kb K H b vs)) : WalkD K F R μ (ItzK K ka kb a b) (zipD xs ys) (fun S => g1 S ∧ g2 S) := by
  refine ⟨by rw [zipD_len]; omega, fun H => ∃ vs us, SqK ka K H a vs ∧ vs.length = xs.length ∧ SqK kb K H b us ∧ us.length = ys.length,
    fun i H v H' => ∃ T x y, v = .ref T ∧ H T = none ∧ H' = upd H T (.tup [x, y]) ∧ (∀ vs, SqK ka K H a vs → vs[i]? = some x) ∧ ∀ us, SqK kb K H b us → us[i]? = some y, ?_, fun F' R' μ' S H x l hg => ?_, fun F' R' μ' S H i x H' x1 l hg hi y => ?_⟩
  · rw [zipD_len]
    exact ⟨fun i H hi ⟨vs, us, h, hl, h', hl'⟩ => ⟨vs, us, vs[i]'(by omega), us[i]'(by omega), h, h', by simp, by simp⟩, fun H ⟨vs, us, h, hl, h', hl'⟩ => ⟨vs, us, h, h', by omega, by omega, by omega⟩, fun i H x H' hi _ y => y⟩
  · obtain ⟨vs, h1, h2, _⟩ := s1 F' R' μ' S H x l hg.1
    obtain ⟨us, h3, h4, _⟩ := s2 F' R' μ' S H x l hg.2
    exact ⟨vs, us, h1, h2.length, h3, h4.length⟩
  · rw [zipD_len] at hi
    obtain ⟨T, x, z, rfl, hT, rfl, y1, y2⟩ := y
    obtain ⟨vs, h1, h2, _⟩ := s1 F' R' μ' S H x1 l hg.1
    obtain ⟨us, h3, h4, _⟩ := s2 F' R' μ' S H x1 l hg.2
    obtain ⟨v, e1, e2⟩ := h2.at (List.getElem?_eq_getElem (show i < xs.length by omega))
    obtain ⟨u, e3, e4⟩ := h4.at (List.getElem?_eq_getElem (show i < ys.length by omega))
    have q1 := y1 vs h1
    have q2 := y2 us h3
    rw [e1] at q1
    rw [e3] at q2
    cases q1
    cases q2
    obtain ⟨F'', x2, l2, r2, k2⟩ := lk_pair l hT e2 e4
    exact ⟨F'', _, x2, l2, zipD_at (List.getElem?_eq_getElem (by omega)) (List.getElem?_eq_getElem (by omega)), r2, k2⟩
theorem src_K (l : Lk K F R μ S H) {w : W} {v : V} {xs : List PyData} {g : Sto → Prop} (r : RepW K F μ w v) (e : srcW w S = some (xs, g)) :
    g S ∧ ∃ k a, v = .ref a ∧ SrcOk K F μ xs g (fun H vs => SqK k K H a vs) := by
  obtain ⟨h1, a, h2, h3 | h3⟩ := src_tup l r e
  · exact ⟨h1, false, a, h2, h3.2⟩
  · exact ⟨h1, true, a, h2, h3.2⟩
/-- zip(a, b), in any mix -/
def mZipA (a b : ME) : MI := fun env S => (a env S).bind fun p => (b env p.2).bind fun q => (srcW p.1 q.2).bind fun x => (srcW q.1 q.2).map fun y => (zipD x.1 y.1, (fun S' => x.2 S' ∧ y.2 S'), q.2)
theorem si_zipA {e e2 : Expr} {ma mb : ME} {p pos tpos : Pos} {elts : List Expr} {kk : Nat} (hg : Gl X "zip") (hm : X.mg "zip" = none) (h1 : SimE X e ma) (h2 : SimE X e2 mb)
    (hs : starEach [e, e2] X.env = (false, eval e X.env) :: starEach [e2] X.env := by rfl) (hs2 : starEach [e2] X.env = (false, eval e2 X.env) :: starEach [] X.env := by rfl) (hpl : (backTo pos (starEach [e2] X.env)).any (·.1) = false := by rfl) :
    SimI X (.Tuple elts kk tpos) (.Call (.Name "zip" p) [e, e2] [] pos) (mZipA ma mb) := by
  refine pi_imp (pi_zipK hg hm (pa_cons h1 (pa_cons h2 pa_nil hs2) hs) hs hpl) fun σ H Q q => ?_
  obtain ⟨F, R, μ, env, S, xs, g, S', sl, l, e, k⟩ := q
  simp only [mZipA, Option.bind_eq_some_iff, Option.map_eq_some_iff] at e
  obtain ⟨⟨w1, S1⟩, e1, ⟨w2, S2⟩, e2, ⟨ys, g1⟩, e4, ⟨zs, g2⟩, e5, e6⟩ := e
  cases e6
  refine ⟨F, R, μ, env, S, w1, S1, sl, l, e1, fun F1 μ1 v H1 x1 l1 r1 => ?_⟩
  refine ⟨F1, R, μ1, env, S1, w2, S2, sl.mono x1, l1, e2, fun F2 μ2 u H2 x2 l2 r2 => ?_⟩
  obtain ⟨hg1, ka, a, rfl, s1⟩ := src_K l2 (r1.mono x2) e4
  obtain ⟨hg2, kb, b, rfl, s2⟩ := src_K l2 r2 e5
  obtain ⟨vs, q1, _⟩ := s1 F2 R μ2 S2 H2 (.refl _ _) l2 hg1
  obtain ⟨us, q2, _⟩ := s2 F2 R μ2 S2 H2 (.refl _ _) l2 hg2
  exact ⟨ka, kb, a, b, vs, us, rfl, q1, q2, k F2 μ2 H2 _ (x1.trans x2) l2 (wd_zipK (SrcOk.len l2 hg1 s1) s1 s2)⟩
end
/-! Sim, part Q: zip of three. -/
def ItzK3 (K : PySem.W.Frag) (ka kb kc : Bool) (a b c : Addr) : It :=
  ⟨fun i H => ∃ (xs ys zs : List V) (x y z : V), SqK ka K H a xs ∧ SqK kb K H b ys ∧ SqK kc K H c zs ∧ xs[i]? = some x ∧ ys[i]? = some y ∧ zs[i]? = some z,
    fun i H v H' => ∃ T x y z, v = .ref T ∧ H T = none ∧ H' = upd H T (.tup [x, y, z]) ∧ (∀ xs, SqK ka K H a xs → xs[i]? = some x) ∧ (∀ ys, SqK kb K H b ys → ys[i]? = some y) ∧ ∀ zs, SqK kc K H c zs → zs[i]? = some z,
    fun i H => ∃ xs ys zs : List V, SqK ka K H a xs ∧ SqK kb K H b ys ∧ SqK kc K H c zs ∧ i ≤ xs.length ∧ i ≤ ys.length ∧ i ≤ zs.length ∧ (i = xs.length ∨ i = ys.length ∨ i = zs.length)⟩
theorem mem6 {c z TI TO i1 i2 i3 : Addr} (h : c ∈ [z, TI, TO, i1, i2, i3]) : c = z ∨ c = TI ∨ c = TO ∨ c = i1 ∨ c = i2 ∨ c = i3 := by simpa using h
theorem turn_zipK3 {P : Program} {w : World} {K : PySem.W.Frag} {elts : List Expr} {kk : Nat} {tpos : Pos} {ka kb kc : Bool} {a b c z TI TO i1 i2 i3 : Addr} (D : ZipSep3 z TI TO i1 i2 i3 [i1, a] [i2, b] [i3, c]) (ha : a ≠ i1) (hb : b ≠ i2) (hc3 : c ≠ i3) :
    Turn P w K (.Tuple elts kk tpos) (ItzK3 K ka kb kc a b c) [z, TI, TO, i1, i2, i3] z (fun i h => IsZip h z TI TO .none ∧ IsTupOf3 h TI (.ref i1) (.ref i2) (.ref i3) ∧ (∃ x y w, IsTupOf3 h TO x y w) ∧ IterK ka h i1 a i ∧ IterK kb h i2 b i ∧ IterK kc h i3 c i) where
  mem := by simp
  obj := fun i h st c hc => by
    obtain ⟨hz, hTI, ⟨x, y, w0, hTO⟩, h1, h2, h3⟩ := st
    rcases mem6 hc with q | q | q | q | q | q
    · rw [q]; exact ⟨_, hz, fun v q => nomatch q⟩
    · rw [q]; exact ⟨_, hTI, fun v q => nomatch q⟩
    · rw [q]; exact ⟨_, hTO, fun v q => nomatch q⟩
    · rw [q]; exact h1.obj
    · rw [q]; exact h2.obj
    · rw [q]; exact h3.obj
  keep := fun i h h' st k => by
    obtain ⟨hz, hTI, ⟨x, y, w0, hTO⟩, h1, h2, h3⟩ := st
    exact ⟨k z (by simp) _ hz, k TI (by simp) _ hTI, ⟨x, y, w0, k TO (by simp) _ hTO⟩, h1.at fun o q => k i1 (by simp) o q, h2.at fun o q => k i2 (by simp) o q, h3.at fun o q => k i3 (by simp) o q⟩
  item := by
    intro X hP hw hK hc i pins s σ H E I hf st hg
    subst hP hw hK
    obtain ⟨hz, hTI, ⟨x0, y0, w0, hTO⟩, h1, h2, h3⟩ := st
    obtain ⟨xs, ys, zs, x, y, t, hqx, hqy, hqz, hx, hy, ht⟩ := hg
    obtain ⟨its, rv, p, _⟩ := inv_seqK I hqx
    obtain ⟨its2, rv2, p2, _⟩ := inv_seqK I hqy
    obtain ⟨its3, rv3, p3, _⟩ := inv_seqK I hqz
    obtain ⟨u, hu, ru⟩ := rv.get hx
    obtain ⟨u2, hu2, ru2⟩ := rv2.get hy
    obtain ⟨u3, hu3, ru3⟩ := rv3.get ht
    have hzl : z < s.heap.objs.size := Heap.lt_size hz
    have hi1 : i < its.toArray.size := by rw [List.size_toArray]; exact (List.getElem?_eq_some_iff.mp hu).1
    have hi2 : i < its2.toArray.size := by rw [List.size_toArray]; exact (List.getElem?_eq_some_iff.mp hu2).1
    have hi3 : i < its3.toArray.size := by rw [List.size_toArray]; exact (List.getElem?_eq_some_iff.mp hu3).1
    have D1 := drawsK (prog := X.prog) (w := X.w) (A := X.A.in1) ka (I.ok.hd hc) i1 a ha its.toArray
    have D2 := drawsK (prog := X.prog) (w := X.w) (A := X.A.in1) kb (I.ok.hd hc) i2 b hb its2.toArray
    have D3 := drawsK (prog := X.prog) (w := X.w) (A := X.A.in1) kc (I.ok.hd hc) i3 c hc3 its3.toArray
    refine wpAny_pyNext_zipD3_item D D1 D2 D3 hz hTI hTO ⟨h1, p⟩ ⟨h2, p2⟩ ⟨h3, p3⟩ hi1 hi2 hi3 fun v1 v2 v3 h' tk hv1 hv2 hv3 z' TO' s1 s2 s3 hT hsz hk => ?_
    have ev1 : v1 = u := by
      have : its.toArray[i]? = some u := by rw [← hu]; simp
      rw [this] at hv1
      exact (Option.some.inj hv1).symm
    have ev2 : v2 = u2 := by
      have : its2.toArray[i]? = some u2 := by rw [← hu2]; simp
      rw [this] at hv2
      exact (Option.some.inj hv2).symm
    have ev3 : v3 = u3 := by
      have : its3.toArray[i]? = some u3 := by rw [← hu3]; simp
      rw [this] at hv3
      exact (Option.some.inj hv3).symm
    subst ev1 ev2 ev3
    refine ⟨_, rfl, wpAny_letOwnedTupleGo_zip (s := { s with heap := h', toks := tk }) z' fun h'' z'' sb => ?_⟩
    have hT2 : h''.get? s.heap.objs.size = some { cls := .type "tuple", data := .seq #[v1, v2, v3] } := (sb.2 _ (Nat.ne_of_gt hzl)).trans hT
    have new : ObjOk X.prog X.w (upd H s.heap.objs.size (.tup [x, y, t])) h'' s.heap.objs.size (.tup [x, y, t]) :=
      ⟨by show 3 ≤ sizeLine; decide, [v1, v2, v3], .cons ru (.cons ru2 (.cons ru3 .nil)), ⟨_, hT2, rfl, _, rfl⟩⟩
    have I1 : Inv X pins σ (upd H s.heap.objs.size (.tup [x, y, t])) { s with heap := h'', toks := tk } :=
      I.turnedNew (t' := tk) (ch := [z, TI, TO, i1, i2, i3]) (fun c o hb q => (sb.2 c (fun q' => hb (by simp [q']))).trans (hk c o (fun q' => hb (by simp [q'])) (fun q' => hb (by simp [q'])) (fun q' => hb (by simp [q'])) (fun q' => hb (by simp [q'])) (fun q' => hb (by simp [q'])) q)) hf (Nat.le_refl _) new
    refine ⟨.ref s.heap.objs.size, _, I1, rfl, ⟨_, x, y, t, rfl, I.hok.fresh (Nat.le_refl _), rfl, fun l hl => by rw [inv_seqK_inj I hl hqx]; exact hx, fun l hl => by rw [inv_seqK_inj I hl hqy]; exact hy, fun l hl => by rw [inv_seqK_inj I hl hqz]; exact ht⟩, ⟨z'', ?_, ⟨v1, v2, v3, ?_⟩, ?_, ?_, ?_⟩, fun c hcm => ?_⟩
    · exact (sb.2 _ D.TIz).trans (hk _ _ D.TIz D.TITO D.TIi1 D.TIi2 D.TIi3 hTI)
    · exact (sb.2 _ D.TOz).trans TO'
    · exact s1.1.at fun o q => (sb.2 _ D.zi1.symm).trans q
    · exact s2.1.at fun o q => (sb.2 _ D.zi2.symm).trans q
    · exact s3.1.at fun o q => (sb.2 _ D.zi3.symm).trans q
    · have hlt : c < s.heap.objs.size := by
        rcases mem6 hcm with q | q | q | q | q | q
        · rw [q]; exact hzl
        · rw [q]; exact Heap.lt_size hTI
        · rw [q]; exact Heap.lt_size hTO
        · rw [q]; obtain ⟨_, e1, _⟩ := h1.obj; exact Heap.lt_size e1
        · rw [q]; obtain ⟨_, e1, _⟩ := h2.obj; exact Heap.lt_size e1
        · rw [q]; obtain ⟨_, e1, _⟩ := h3.obj; exact Heap.lt_size e1
      rw [upd_ne (Nat.ne_of_lt hlt)]
      exact (hf c hcm).1
  done := by
    intro X hP hw hK hc i pins s σ H E I hf st hg
    subst hP hw hK
    obtain ⟨hz, hTI, ⟨x0, y0, w0, hTO⟩, h1, h2, h3⟩ := st
    obtain ⟨xs, ys, zs, hqx, hqy, hqz, hle1, hle2, hle3, hend⟩ := hg
    obtain ⟨its, rv, p, _⟩ := inv_seqK I hqx
    obtain ⟨its2, rv2, p2, _⟩ := inv_seqK I hqy
    obtain ⟨its3, rv3, p3, _⟩ := inv_seqK I hqz
    have l1 : its.toArray.size = xs.length := by rw [List.size_toArray]; exact rv.length.symm
    have l2 : its2.toArray.size = ys.length := by rw [List.size_toArray]; exact rv2.length.symm
    have l3 : its3.toArray.size = zs.length := by rw [List.size_toArray]; exact rv3.length.symm
    have D1 := drawsK (prog := X.prog) (w := X.w) (A := X.A.in1) ka (I.ok.hd hc) i1 a ha its.toArray
    have D2 := drawsK (prog := X.prog) (w := X.w) (A := X.A.in1) kb (I.ok.hd hc) i2 b hb its2.toArray
    have D3 := drawsK (prog := X.prog) (w := X.w) (A := X.A.in1) kc (I.ok.hd hc) i3 c hc3 its3.toArray
    exact wpAny_pyNext_zipD3_end D D1 D2 D3 hz hTI hTO ⟨h1, p⟩ ⟨h2, p2⟩ ⟨h3, p3⟩ (by omega) (by omega) (by omega) (by omega) fun h' tk hk => ⟨rfl, I.turnedL (t' := tk) (ch := [z, TI, TO, i1, i2, i3]) (fun c o hb q =>
      hk c o (fun q' => hb (by simp [q'])) (fun q' => hb (by simp [q'])) (fun q' => hb (by simp [q'])) (fun q' => hb (by simp [q'])) (fun q' => hb (by simp [q'])) q) hf⟩
  self := fun A i s Q E st h => wpAny_pyIter_zip st.1 h
theorem sep3_of (n a b c : Nat) (ha : a < n) (hb : b < n) (hc : c < n) : ZipSep3 (n + 5) (n + 3) (n + 4) n (n + 1) (n + 2) [n, a] [n + 1, b] [n + 2, c] := by
  constructor <;> first | exact ne' (by omega) | exact nm2 (by omega) (by omega) | simp
def iZipK3 (K : PySem.W.Frag) (ta : TA) : TI := fun σ H R => ta σ H fun vs H1 => ∃ ka kb kc a b c xs ys zs, vs = [.ref a, .ref b, .ref c] ∧ SqK ka K H1 a xs ∧ SqK kb K H1 b ys ∧ SqK kc K H1 c zs ∧ R (ItzK3 K ka kb kc a b c) H1
theorem pi_zipK3 {X : Cx} {e e2 e3 : Expr} {ta : TA} {p pos tpos : Pos} {elts : List Expr} {kk : Nat} (hg : Gl X "zip") (hm : X.mg "zip" = none) (ha : PA X [e, e2, e3] ta)
    (hs : starEach [e, e2, e3] X.env = (false, eval e X.env) :: starEach [e2, e3] X.env := by rfl) (hpl : (backTo pos (starEach [e2, e3] X.env)).any (·.1) = false := by rfl) :
    PI X (.Tuple elts kk tpos) (.Call (.Name "zip" p) [e, e2, e3] [] pos) (iZipK3 X.K ta) := by
  refine ⟨fun pins s σ H R I h => ?_⟩
  refine Call_ (ld_blt I hg hm PyProof.Rows.boot_zip (PyProof.Rows.callWith_type1 (thn (ha.run pos pins s σ H _ I h) fun us s1 ⟨vs, H1, I1, r1, q1⟩ => ?_) hs hpl))
  obtain ⟨ka, kb, kc, a, b, c, xs, ys, zs, ex, hqx, hqy, hqz, q⟩ := q1
  subst ex
  cases r1 with
  | cons r rr =>
    cases rr with
    | cons r' rr =>
      cases rr with
      | cons r'' rr =>
        cases rr
        cases r
        cases r'
        cases r''
        have fresh5 : ∀ c, c ∈ [s1.heap.objs.size + 5, s1.heap.objs.size + 3, s1.heap.objs.size + 4, s1.heap.objs.size, s1.heap.objs.size + 1, s1.heap.objs.size + 2] → FpOk X pins H1 c := fun c hcm => by
          have hle : s1.heap.objs.size ≤ c := by
            rcases mem6 hcm with z | z | z | z | z | z
            · rw [z]; exact Nat.le_add_right _ _
            · rw [z]; exact Nat.le_add_right _ _
            · rw [z]; exact Nat.le_add_right _ _
            · rw [z]; exact Nat.le_refl _
            · rw [z]; exact Nat.le_add_right _ _
            · rw [z]; exact Nat.le_add_right _ _
          exact I1.fpOk hle (I1.hok.fresh hle)
        obtain ⟨its, rv, p1, _⟩ := inv_seqK I1 hqx
        obtain ⟨its2, rv2, p2, _⟩ := inv_seqK I1 hqy
        obtain ⟨its3, rv3, p3, _⟩ := inv_seqK I1 hqz
        have la := p1.lt
        have lb := p2.lt
        have lc := p3.lt
        refine zip_begins3 (beginsK ka a its.toArray) (beginsK kb b its2.toArray) (beginsK kc c its3.toArray) p1 p2 p3 fun h' hz hTI hTO h1 h2 h3 hsz hk => wpAny_pyIter_zip hz ?_
        have I2 : Inv X pins σ H1 { s1 with heap := h' } := I1.kept (t' := s1.toks) hk
        exact ⟨s1.heap.objs.size + 5, [s1.heap.objs.size + 5, s1.heap.objs.size + 3, s1.heap.objs.size + 4, s1.heap.objs.size, s1.heap.objs.size + 1, s1.heap.objs.size + 2], _, _, H1, rfl, I2, turn_zipK3 (ka := ka) (kb := kb) (kc := kc) (a := a) (b := b) (c := c) (sep3_of s1.heap.objs.size a b c la lb lc) (Nat.ne_of_lt la) (Nat.ne_of_lt (Nat.lt_succ_of_lt lb)) (Nat.ne_of_lt (Nat.lt_succ_of_lt (Nat.lt_succ_of_lt lc))), ⟨hz, hTI, ⟨_, _, _, hTO⟩, .of h1, .of h2, .of h3⟩, fresh5, q⟩
section
variable {X : Cx} {K : PySem.W.Frag} {F R H : Hp} {μ : List Addr} {S : Sto}
/-- the triples of zip -/
def zip3D : List PyData → List PyData → List PyData → List PyData
  | x :: xs, y :: ys, z :: zs => .tuple [x, y, z] :: zip3D xs ys zs
  | _, _, _ => []
theorem zip3D_len : ∀ (xs ys zs : List PyData), (zip3D xs ys zs).length = min (min xs.length ys.length) zs.length
  | x :: xs, y :: ys, z :: zs => by simp only [zip3D, List.length_cons, zip3D_len xs ys zs]; omega
  | [], _, _ => by simp [zip3D]
  | _ :: _, [], _ => by simp [zip3D]
  | _ :: _, _ :: _, [] => by simp [zip3D]
theorem zip3D_at : ∀ {xs ys zs : List PyData} {i : Nat} {x y z : PyData}, xs[i]? = some x → ys[i]? = some y → zs[i]? = some z → (zip3D xs ys zs)[i]? = some (.tuple [x, y, z])
  | x :: xs, y :: ys, z :: zs, 0, _, _, _, h1, h2, h3 => by simp_all [zip3D]
  | x :: xs, y :: ys, z :: zs, i + 1, _, _, _, h1, h2, h3 => by
    simp only [zip3D, List.getElem?_cons_succ] at *
    exact zip3D_at h1 h2 h3
  | [], _, _, _, _, _, _, h1, _, _ => by simp at h1
  | _ :: _, [], _, _, _, _, _, _, h2, _ => by simp at h2
  | _ :: _, _ :: _, [], _, _, _, _, _, _, h3 => by simp at h3
theorem lk_tup3 {F R H : Hp} {μ : List Addr} {S : Sto} {T : Addr} {x y z : V} {d e f : PyData} (l : Lk K F R μ S H) (hT : H T = none) (r1 : RepD K F d x) (r2 : RepD K F e y) (r3 : RepD K F f z) :
    ∃ F', Ext F μ F' μ ∧ Lk K F' R μ S (upd H T (.tup [x, y, z])) ∧ RepD K F' (.tuple [d, e, f]) (.ref T) ∧ ∀ a o, H a = some o → (upd H T (.tup [x, y, z])) a = some o := by
  obtain ⟨l', x'⟩ := lk_newF (o := .tup [x, y, z]) l hT
  refine ⟨_, x', l', ⟨T, [x, y, z], rfl, SqT.of upd_same, by show 3 ≤ sizeLine; decide, _, _, rfl, RepD.mono x'.1 _ _ r1, _, _, rfl, RepD.mono x'.1 _ _ r2, _, _, rfl, RepD.mono x'.1 _ _ r3, rfl⟩, fun a o h => ?_⟩
  rw [upd_ne (by rintro rfl; rw [hT] at h; cases h)]
  exact h
theorem wd_zipK3 {ka kb kc : Bool} {a b c : Addr} {xs ys zs : List PyData} {g1 g2 g3 : Sto → Prop} (hz : xs.length ≤ sizeLine) (s1 : SrcOk K F μ xs g1 (fun H vs => SqK ka K H a vs)) (s2 : SrcOk K F μ ys g2 (fun H vs => SqK kb K H b vs)) (s3 : SrcOk K F μ zs g3 (fun H vs => SqK kc K H c vs)) :
    WalkD K F R μ (ItzK3 K ka kb kc a b c) (zip3D xs ys zs) (fun S => g1 S ∧ g2 S ∧ g3 S) := by
  refine ⟨by rw [zip3D_len]; omega, fun H => ∃ vs us ts, SqK ka K H a vs ∧ vs.length = xs.length ∧ SqK kb K H b us ∧ us.length = ys.length ∧ SqK kc K H c ts ∧ ts.length = zs.length,
    fun i H v H' => ∃ T x y z, v = .ref T ∧ H T = none ∧ H' = upd H T (.tup [x, y, z]) ∧ (∀ vs, SqK ka K H a vs → vs[i]? = some x) ∧ (∀ us, SqK kb K H b us → us[i]? = some y) ∧ ∀ us, SqK kc K H c us → us[i]? = some z, ?_, fun F' R' μ' S H x l hg => ?_, fun F' R' μ' S H i x H' x1 l hg hi y => ?_⟩
  · rw [zip3D_len]
    exact ⟨fun i H hi ⟨vs, us, ts, h, hl, h', hl', h'', hl''⟩ => ⟨vs, us, ts, vs[i]'(by omega), us[i]'(by omega), ts[i]'(by omega), h, h', h'', by simp, by simp, by simp⟩, fun H ⟨vs, us, ts, h, hl, h', hl', h'', hl''⟩ => ⟨vs, us, ts, h, h', h'', by omega, by omega, by omega, by omega⟩, fun i H x H' hi _ y => y⟩
  · obtain ⟨vs, h1, h2, _⟩ := s1 F' R' μ' S H x l hg.1
    obtain ⟨us, h3, h4, _⟩ := s2 F' R' μ' S H x l hg.2.1
    obtain ⟨ts, h5, h6, _⟩ := s3 F' R' μ' S H x l hg.2.2
    exact ⟨vs, us, ts, h1, h2.length, h3, h4.length, h5, h6.length⟩
  · rw [zip3D_len] at hi
    obtain ⟨T, x, z, t, rfl, hT, rfl, y1, y2, y3⟩ := y
    obtain ⟨vs, h1, h2, _⟩ := s1 F' R' μ' S H x1 l hg.1
    obtain ⟨us, h3, h4, _⟩ := s2 F' R' μ' S H x1 l hg.2.1
    obtain ⟨ts, h5, h6, _⟩ := s3 F' R' μ' S H x1 l hg.2.2
    obtain ⟨v, e1, e2⟩ := h2.at (List.getElem?_eq_getElem (show i < xs.length by omega))
    obtain ⟨u, e3, e4⟩ := h4.at (List.getElem?_eq_getElem (show i < ys.length by omega))
    obtain ⟨t', e5, e6⟩ := h6.at (List.getElem?_eq_getElem (show i < zs.length by omega))
    have q1 := y1 vs h1
    have q2 := y2 us h3
    have q3 := y3 ts h5
    rw [e1] at q1
    rw [e3] at q2
    rw [e5] at q3
    cases q1
    cases q2
    cases q3
    obtain ⟨F'', x2, l2, r2, k2⟩ := lk_tup3 l hT e2 e4 e6
    exact ⟨F'', _, x2, l2, zip3D_at (List.getElem?_eq_getElem (by omega)) (List.getElem?_eq_getElem (by omega)) (List.getElem?_eq_getElem (by omega)), r2, k2⟩
def mZip3 (a b c : ME) : MI := fun env S => (a env S).bind fun p => (b env p.2).bind fun q => (c env q.2).bind fun r => (srcW p.1 r.2).bind fun x => (srcW q.1 r.2).bind fun y => (srcW r.1 r.2).map fun z =>
  (zip3D x.1 y.1 z.1, (fun S' => x.2 S' ∧ y.2 S' ∧ z.2 S'), r.2)
theorem si_zip3 {e e2 e3 : Expr} {ma mb mc : ME} {p pos tpos : Pos} {elts : List Expr} {kk : Nat} (hg : Gl X "zip") (hm : X.mg "zip" = none) (h1 : SimE X e ma) (h2 : SimE X e2 mb) (h3 : SimE X e3 mc)
    (hs : starEach [e, e2, e3] X.env = (false, eval e X.env) :: starEach [e2, e3] X.env := by rfl) (hs2 : starEach [e2, e3] X.env = (false, eval e2 X.env) :: starEach [e3] X.env := by rfl) (hs3 : starEach [e3] X.env = (false, eval e3 X.env) :: starEach [] X.env := by rfl)
    (hpl : (backTo pos (starEach [e2, e3] X.env)).any (·.1) = false := by rfl) :
    SimI X (.Tuple elts kk tpos) (.Call (.Name "zip" p) [e, e2, e3] [] pos) (mZip3 ma mb mc) := by
  refine pi_imp (pi_zipK3 hg hm (pa_cons h1 (pa_cons h2 (pa_cons h3 pa_nil hs3) hs2) hs) hs hpl) fun σ H Q q => ?_
  obtain ⟨F, R, μ, env, S, xs, g, S', sl, l, e, k⟩ := q
  simp only [mZip3, Option.bind_eq_some_iff, Option.map_eq_some_iff] at e
  obtain ⟨⟨w1, S1⟩, e1, ⟨w2, S2⟩, e2, ⟨w3, S3⟩, e3, ⟨ys, g1⟩, e4, ⟨zs, g2⟩, e5, ⟨ts, g3⟩, e6, e7⟩ := e
  cases e7
  refine ⟨F, R, μ, env, S, w1, S1, sl, l, e1, fun F1 μ1 v H1 x1 l1 r1 => ?_⟩
  refine ⟨F1, R, μ1, env, S1, w2, S2, sl.mono x1, l1, e2, fun F2 μ2 u H2 x2 l2 r2 => ?_⟩
  refine ⟨F2, R, μ2, env, S2, w3, S3, sl.mono (x1.trans x2), l2, e3, fun F3 μ3 t H3 x3 l3 r3 => ?_⟩
  obtain ⟨hg1, ka, a, rfl, s1⟩ := src_K l3 (r1.mono (x2.trans x3)) e4
  obtain ⟨hg2, kb, b, rfl, s2⟩ := src_K l3 (r2.mono x3) e5
  obtain ⟨hg3, kc, c, rfl, s3⟩ := src_K l3 r3 e6
  obtain ⟨vs, q1, _⟩ := s1 F3 R μ3 S3 H3 (.refl _ _) l3 hg1
  obtain ⟨us, q2, _⟩ := s2 F3 R μ3 S3 H3 (.refl _ _) l3 hg2
  obtain ⟨ts', q3, _⟩ := s3 F3 R μ3 S3 H3 (.refl _ _) l3 hg3
  exact ⟨ka, kb, kc, a, b, c, vs, us, ts', rfl, q1, q2, q3, k F3 μ3 H3 _ ((x1.trans x2).trans x3) l3 (wd_zipK3 (SrcOk.len l3 hg1 s1) s1 s2 s3)⟩
end
/-! Sim, part R: sorted of whole numbers. -/
def insI (x : Int) : List Int → List Int
  | [] => [x]
  | y :: t => if x ≤ y then x :: y :: t else y :: insI x t
def sortI : List Int → List Int
  | [] => []
  | x :: t => insI x (sortI t)
theorem insI_perm (x : Int) : ∀ l : List Int, (insI x l).Perm (x :: l)
  | [] => .refl _
  | y :: t => by
    unfold insI
    split
    · exact .refl _
    · exact ((insI_perm x t).cons y).trans (List.Perm.swap x y t)
theorem sortI_perm : ∀ l : List Int, (sortI l).Perm l
  | [] => .refl _
  | x :: t => (insI_perm x (sortI t)).trans ((sortI_perm t).cons x)
theorem insI_pw (x : Int) : ∀ l : List Int, l.Pairwise (· ≤ ·) → (insI x l).Pairwise (· ≤ ·)
  | [], _ => by simp [insI]
  | y :: t, h => by
    rw [List.pairwise_cons] at h
    unfold insI
    split
    · rename_i c
      rw [List.pairwise_cons, List.pairwise_cons]
      refine ⟨fun z hz => ?_, h⟩
      rcases List.mem_cons.mp hz with e | e
      · omega
      · have := h.1 z e; omega
    · rename_i c
      rw [List.pairwise_cons]
      refine ⟨fun z hz => ?_, insI_pw x t h.2⟩
      rcases List.mem_cons.mp ((insI_perm x t).mem_iff.mp hz) with e | e
      · omega
      · exact h.1 z e
theorem sortI_pw : ∀ l : List Int, (sortI l).Pairwise (· ≤ ·)
  | [] => by simp [sortI]
  | x :: t => insI_pw x _ (sortI_pw t)
theorem sortI_eq {l m : List Int} (h : m.Perm l) (hp : m.Pairwise (· ≤ ·)) : m = sortI l :=
  List.Perm.eq_of_pairwise (le := (· ≤ ·)) (fun a b _ _ h1 h2 => by omega) hp (sortI_pw l) (h.trans (sortI_perm l).symm)
section
variable {X : Cx} {K : PySem.W.Frag}
def sortW (xs : List W) (S : Sto) : Option PyData := match xs with
  | [w] => (lsL S w).bind fun ds => (allInt ds).map fun ns => .list ((sortI ns).map .int)
  | _ => none
theorem cas_sortI : CaS K (rSortedI K) sortW := by
  intro F R μ S H ws vs z Q l rs e k
  unfold sortW at e
  split at e
  · simp only [Option.bind_eq_some_iff, Option.map_eq_some_iff] at e
    obtain ⟨ds, e1, ns, e2, rfl⟩ := e
    obtain ⟨v, rfl, rv⟩ := ca1 rs
    obtain ⟨a, us, rfl, h1, h2, h3⟩ := lk_ls l rv e1
    have eu := allInt_ok h3 e2
    subst eu
    refine ⟨a, ns, rfl, h1, fun ns' p q1 q2 hp => ?_⟩
    have := sortI_eq q1 q2
    subst this
    obtain ⟨l', x'⟩ := lk_newF (o := .lst ((sortI ns).map V.int)) l hp
    exact k _ _ _ x' l' ⟨p, (sortI ns).map V.int, rfl, upd_same, by rw [List.length_map, q1.length_eq]; simpa using h2, RepL.ints _⟩
  · cases e
end
@[simp] theorem sortW_l (S : Sto) (xs : List PyData) : sortW [.d (.list xs)] S = (allInt xs).map fun ns => .list ((sortI ns).map .int) := id rfl
/-! Sim, part S: list(zip(a, b)), of lists and tuples in any mix: what it gives out is kept. -/
open Sem (wp)
theorem zip_no_len : typeLookup (.type "zip") "__len__" = pure none := am_miss_of_fast (by decide +kernel)
theorem zip_no_hint : typeLookup (.type "zip") "__length_hint__" = pure none := am_miss_of_fast (by decide +kernel)
section
variable {prog : Program} {w : World} {A : Around} {E : Value → Shared → Prop} {s : Shared} {z TI TO i1 i2 : Addr} {fp1 fp2 : List Addr} {n1 n2 i : Nat} {P1 P2 : Nat → Value → Prop} {St1 St2 : Nat → Heap → Prop}
theorem zipK_next_item {T : Addr} {f : Bool} {oT : Obj} {Q : Value → Shared → Prop} (S : ZipSep2 z TI TO i1 i2 fp1 fp2) (D1 : Draws prog w A i1 fp1 n1 P1 St1) (D2 : Draws prog w A i2 fp2 n2 P2 St2)
    (hz : IsZipHeld s.heap z TI TO T f) (hT : s.heap.get? T = some oT) (hTI : IsTupOf2 s.heap TI (.ref i1) (.ref i2)) (st1 : St1 i s.heap) (st2 : St2 i s.heap) (hlt1 : i < n1) (hlt2 : i < n2)
    (hQ : ∀ x1 x2 h' tk, P1 i x1 → P2 i x2 → IsZipHeld h' z TI TO T true → St1 (i + 1) h' → St2 (i + 1) h' → IsTupOf2 h' s.heap.objs.size x1 x2 → h'.objs.size = s.heap.objs.size + 1 →
      (∀ c o, c ≠ z → c ≠ i1 → c ≠ i2 → s.heap.get? c = some o → h'.get? c = some o) → Q (.ref s.heap.objs.size) { s with heap := h', toks := tk }) :
    wpAny (model prog w) A (Builtin.«zip.__next__» ⟨[.ref z], []⟩) (fun fin s' => ∃ v, fin = .done (.ret v) ∧ Q v s') E s := by
  obtain ⟨hp, g, d, tk0, os⟩ := s
  show wpAny _ _ (field (.ref z) 2 >>= _) _ _ _
  refine wpAny_bind (wpAny_field hz rfl (x := .bool false) rfl ?_)
  show wpAny _ _ (field (.ref z) 3 >>= _) _ _ _
  refine wpAny_bind (wpAny_field hz rfl (x := .ref TI) rfl ?_)
  refine wpAny_bind (wpAny_seqItems hTI rfl ?_)
  show wpAny _ _ (Builtin.SmallTypes.ownedTupleIsFree (.ref z) >>= _) _ _ _
  refine wpAny_bind (wpAny_tupleHeld_zip (s := ⟨hp, g, d, tk0, os⟩) hz hT fun g0 hz0 hs0 => ?_)
  replace hz0 : IsZipHeld g0 z TI TO T true := hz0
  replace hs0 : Heap.SameBut z hp g0 := hs0
  simp only [Bool.false_eq_true, if_false]
  refine wpAny_bind ?_
  rw [← Array.forIn_toList]
  simp only [List.forIn_cons, List.forIn_nil]
  refine wpAny_bind (wpAny_bind (wpAny_holding ?_))
  show wpAny _ _ (Builtin.SmallTypes.nextOf (.ref i1) >>= _) _ _ ⟨g0, g, d, tk0, os⟩
  refine wpAny_bind (D1.item i _ _ _ hlt1 (D1.over st1 hs0 S.zf1) fun x1 p1 tk1 hx1 sn1 hp1 => wpAny_pure ?_)
  replace hp1 : Heap.SameBut i1 g0 p1 := hp1
  refine wpAny_pure ?_
  refine wpAny_bind (wpAny_bind (wpAny_holding ?_))
  show wpAny _ _ (Builtin.SmallTypes.nextOf (.ref i2) >>= _) _ _ ⟨p1, g, d, tk1, os⟩
  refine wpAny_bind (D2.item i _ _ _ hlt2 (D2.over (D2.over st2 hs0 S.zf2) hp1 S.sep1_2) fun x2 p2 tk2 hx2 sn2 hp2 => wpAny_pure ?_)
  replace hp2 : Heap.SameBut i2 p1 p2 := hp2
  refine wpAny_pure (wpAny_pure ?_)
  show wpAny _ _ (newTuple [x1, x2] >>= _) _ _ ⟨p2, g, d, tk2, os⟩
  refine wpAny_bind (wpAny_newTuple ?_)
  have hsz : p2.objs.size = hp.objs.size := by rw [hp2.1, hp1.1, hs0.1]
  have hz₃ : IsZipHeld p2 z TI TO T true := hp2.extBut _ _ S.zi2 (hp1.extBut _ _ S.zi1 hz0)
  have hk : ∀ c o, c ≠ z → c ≠ i1 → c ≠ i2 → hp.get? c = some o → p2.get? c = some o := fun c o c1 c2 c3 e => hp2.extBut _ _ c3 (hp1.extBut _ _ c2 (hs0.extBut _ _ c1 e))
  have hj1 : St1 (i + 1) p2 := D1.over sn1 hp2 S.sep2_1
  refine wpAny_pure ⟨_, rfl, ?_⟩
  show Q (.ref p2.objs.size) ⟨p2.push { cls := .type "tuple", data := .seq #[x1, x2] }, g, d, tk2, os⟩
  have hpp : IsTupOf2 (p2.push { cls := .type "tuple", data := .seq #[x1, x2] }) p2.objs.size x1 x2 := Heap.get?_push_size _ rfl
  have hz4 : (p2.push { cls := .type "tuple", data := .seq #[x1, x2] }).objs.size = p2.objs.size + 1 := Heap.size_push ..
  rw [hsz] at hpp hz4 ⊢
  exact hQ x1 x2 _ tk2 hx1 hx2 (Heap.get?_push_of_some _ hz₃) (D1.frame _ _ _ hj1 fun b hb o e => Heap.get?_push_of_some _ e) (D2.frame _ _ _ sn2 fun b hb o e => Heap.get?_push_of_some _ e) hpp hz4 fun c o c1 c2 c3 e => Heap.get?_push_of_some _ (hk c o c1 c2 c3 e)
theorem zipK_next_end {T : Addr} {f : Bool} {oT : Obj} {Q : Fin → Shared → Prop} (S : ZipSep2 z TI TO i1 i2 fp1 fp2) (D1 : Draws prog w A i1 fp1 n1 P1 St1) (D2 : Draws prog w A i2 fp2 n2 P2 St2)
    (hz : IsZipHeld s.heap z TI TO T f) (hT : s.heap.get? T = some oT) (hTI : IsTupOf2 s.heap TI (.ref i1) (.ref i2)) (st1 : St1 i s.heap) (st2 : St2 i s.heap) (hle1 : i ≤ n1) (hle2 : i ≤ n2) (hend : i = n1 ∨ i = n2)
    (hE : ∀ h' tk e, (∀ c o, c ≠ z → c ≠ i1 → c ≠ i2 → s.heap.get? c = some o → h'.get? c = some o) → (∃ o, h'.get? e = some o ∧ o.cls = .type "StopIteration") → E (.ref e) { s with heap := h', toks := tk }) :
    wpAny (model prog w) A (Builtin.«zip.__next__» ⟨[.ref z], []⟩) Q E s := by
  obtain ⟨hp, g, d, tk0, os⟩ := s
  show wpAny _ _ (field (.ref z) 2 >>= _) _ _ _
  refine wpAny_bind (wpAny_field hz rfl (x := .bool false) rfl ?_)
  show wpAny _ _ (field (.ref z) 3 >>= _) _ _ _
  refine wpAny_bind (wpAny_field hz rfl (x := .ref TI) rfl ?_)
  refine wpAny_bind (wpAny_seqItems hTI rfl ?_)
  show wpAny _ _ (Builtin.SmallTypes.ownedTupleIsFree (.ref z) >>= _) _ _ _
  refine wpAny_bind (wpAny_tupleHeld_zip (s := ⟨hp, g, d, tk0, os⟩) hz hT fun g0 hz0 hs0 => ?_)
  replace hz0 : IsZipHeld g0 z TI TO T true := hz0
  replace hs0 : Heap.SameBut z hp g0 := hs0
  simp only [Bool.false_eq_true, if_false]
  refine wpAny_bind ?_
  rw [← Array.forIn_toList]
  simp only [List.forIn_cons, List.forIn_nil]
  refine wpAny_bind (wpAny_bind (wpAny_holding ?_))
  show wpAny _ _ (Builtin.SmallTypes.nextOf (.ref i1) >>= _) _ _ ⟨g0, g, d, tk0, os⟩
  by_cases hlt1 : i < n1
  · refine wpAny_bind (D1.item i _ _ _ hlt1 (D1.over st1 hs0 S.zf1) fun x1 p1 tk1 hx1 sn1 hp1 => wpAny_pure ?_)
    replace hp1 : Heap.SameBut i1 g0 p1 := hp1
    refine wpAny_pure ?_
    have hi2 : i = n2 := by omega
    refine wpAny_bind (wpAny_bind (wpAny_holding ?_))
    show wpAny _ _ (Builtin.SmallTypes.nextOf (.ref i2) >>= _) _ _ ⟨p1, g, d, tk1, os⟩
    refine wpAny_bind (D2.done ⟨p1, g, d, tk1, os⟩ _ _ (by rw [← hi2]; exact (D2.over (D2.over st2 hs0 S.zf2) hp1 S.sep1_2)) fun q e hq he => ?_)
    replace hq : Heap.ExtBut i2 p1 q := hq
    exact hE q tk1 e (fun c o cz c1 c2 x => hq _ _ c2 (hp1.extBut _ _ c1 (hs0.extBut _ _ cz x))) he
  · have hi1 : i = n1 := by omega
    refine wpAny_bind (D1.done ⟨g0, g, d, tk0, os⟩ _ _ (by rw [← hi1]; exact (D1.over st1 hs0 S.zf1)) fun q e hq he => ?_)
    replace hq : Heap.ExtBut i1 g0 q := hq
    exact hE q tk0 e (fun c o cz c1 c2 x => hq _ _ c1 (hs0.extBut _ _ cz x)) he
/-- a zip under way, what it gave out being kept (at or behind N) -/
def ZipSt (N z TI TO i1 i2 : Addr) (h : Heap) : Prop := IsTupOf2 h TI (.ref i1) (.ref i2) ∧ ((IsZip h z TI TO .none ∧ ∃ x y, IsTupOf2 h TO x y) ∨ ∃ T f o, IsZipHeld h z TI TO T f ∧ h.get? T = some o ∧ N ≤ T)
theorem ZipSt.typeIs {N : Addr} (Z : ZipSt N z TI TO i1 i2 s.heap) : s.TypeIs (.ref z) "zip" := by
  rcases Z.2 with ⟨h, _⟩ | ⟨T, f, o, h, _⟩ <;> exact ⟨_, h, rfl⟩
theorem ZipSt.frame {N : Addr} {h h' : Heap} (Z : ZipSt N z TI TO i1 i2 h) (k : ∀ c o, c = z ∨ c = TI ∨ c = TO ∨ N ≤ c → h.get? c = some o → h'.get? c = some o) : ZipSt N z TI TO i1 i2 h' := by
  refine ⟨k _ _ (.inr (.inl rfl)) Z.1, ?_⟩
  rcases Z.2 with ⟨hz, x, y, hT⟩ | ⟨T, f, o, hz, hT, hN⟩
  · exact .inl ⟨k _ _ (.inl rfl) hz, x, y, k _ _ (.inr (.inr (.inl rfl))) hT⟩
  · exact .inr ⟨T, f, o, k _ _ (.inl rfl) hz, k _ _ (.inr (.inr (.inr hN))) hT, hN⟩
theorem zipS_item {N : Addr} {Q : Option Value → Shared → Prop} (S : ZipSep2 z TI TO i1 i2 fp1 fp2) (D1 : Draws prog w A.in1 i1 fp1 n1 P1 St1) (D2 : Draws prog w A.in1 i2 fp2 n2 P2 St2)
    (hN : z < N ∧ TI < N ∧ TO < N ∧ i1 < N ∧ i2 < N) (hs : N ≤ s.heap.objs.size) (Z : ZipSt N z TI TO i1 i2 s.heap) (st1 : St1 i s.heap) (st2 : St2 i s.heap) (hlt1 : i < n1) (hlt2 : i < n2)
    (hQ : ∀ x1 x2 h' tk, P1 i x1 → P2 i x2 → ZipSt N z TI TO i1 i2 h' → St1 (i + 1) h' → St2 (i + 1) h' → IsTupOf2 h' s.heap.objs.size x1 x2 → h'.objs.size = s.heap.objs.size + 1 →
      (∀ c o, c ≠ z → c ≠ TO → c ≠ i1 → c ≠ i2 → s.heap.get? c = some o → h'.get? c = some o) → Q (some (.ref s.heap.objs.size)) { s with heap := h', toks := tk }) :
    wpAny (model prog w) A (pyNext (.ref z)) Q E s := by
  obtain ⟨b1, b2, b3, b4, b5⟩ := hN
  have hTI := Z.1
  rcases Z.2 with ⟨hz, x, y, hT⟩ | ⟨T, f, o, hz, hT, hN⟩
  · refine wpAny_pyNext_zipD2_item S D1 D2 hz hTI hT st1 st2 hlt1 hlt2 fun x1 x2 h' tk p1 p2 z' t' s1 s2 tt hsz k => ?_
    exact hQ x1 x2 h' tk p1 p2 ⟨k _ _ S.TIz S.TITO S.TIi1 S.TIi2 hTI, .inr ⟨_, false, _, z', tt, hs⟩⟩ s1 s2 tt hsz k
  · have hTy : s.TypeIs (.ref z) "zip" := ⟨_, hz, rfl⟩
    unfold pyNext
    exact wpAny_bind (wpAny_attempt (wpAny_callSpecial?_slot (name := Str.ofString "__next__") hTy F.slot_zip_next
      (wpAny_call_entry F.slot_zip_next hTy F.entry_zip_next
        (zipK_next_item S D1 D2 hz hT hTI st1 st2 hlt1 hlt2 fun x1 x2 h' tk p1 p2 z' s1 s2 tt hsz k => wpAny_pure (hQ x1 x2 h' tk p1 p2 ⟨k _ _ S.TIz S.TIi1 S.TIi2 hTI, .inr ⟨T, true, o, z', k _ _ (Nat.ne_of_gt (Nat.lt_of_lt_of_le b1 hN)) (Nat.ne_of_gt (Nat.lt_of_lt_of_le b4 hN)) (Nat.ne_of_gt (Nat.lt_of_lt_of_le b5 hN)) hT, hN⟩⟩ s1 s2 tt hsz fun c o c1 _ c3 c4 e => k c o c1 c3 c4 e)) (F.args_zip_next_1 _))))
theorem zipS_end {N : Addr} {Q : Option Value → Shared → Prop} (S : ZipSep2 z TI TO i1 i2 fp1 fp2) (D1 : Draws prog w A.in1 i1 fp1 n1 P1 St1) (D2 : Draws prog w A.in1 i2 fp2 n2 P2 St2)
    (Z : ZipSt N z TI TO i1 i2 s.heap) (st1 : St1 i s.heap) (st2 : St2 i s.heap) (hle1 : i ≤ n1) (hle2 : i ≤ n2) (hend : i = n1 ∨ i = n2)
    (hQ : ∀ h' tk, (∀ c o, c ≠ z → c ≠ TO → c ≠ i1 → c ≠ i2 → s.heap.get? c = some o → h'.get? c = some o) → Q none { s with heap := h', toks := tk }) :
    wpAny (model prog w) A (pyNext (.ref z)) Q E s := by
  have hTI := Z.1
  rcases Z.2 with ⟨hz, x, y, hT⟩ | ⟨T, f, o, hz, hT, hN⟩
  · exact wpAny_pyNext_zipD2_end S D1 D2 hz hTI hT st1 st2 hle1 hle2 hend hQ
  · have hTy : s.TypeIs (.ref z) "zip" := ⟨_, hz, rfl⟩
    unfold pyNext
    refine wpAny_bind (wpAny_attempt (wpAny_callSpecial?_slot (name := Str.ofString "__next__") hTy F.slot_zip_next
      (wpAny_call_entry F.slot_zip_next hTy F.entry_zip_next
        (zipK_next_end S D1 D2 hz hT hTI st1 st2 hle1 hle2 hend fun h' tk e hk he => ?_) (F.args_zip_next_1 _))))
    obtain ⟨o, ho, hc⟩ := he
    refine wpAny_bind (wpAny_isInstance (T := "StopIteration") (b := true) ⟨o, ho, hc⟩ isSubtype_stop ?_)
    exact wpAny_pure (hQ _ _ fun c o c1 _ c3 c4 e => hk c o c1 c3 c4 e)
/-- what has been given out and put down: at place j a tuple of j's two -/
def OutOf (P1 P2 : Nat → Value → Prop) (N : Addr) (h : Heap) (acc : Array Value) (i : Nat) : Prop := acc.size = i ∧ ∀ j, j < i → ∃ T x y, acc[j]? = some (.ref T) ∧ N ≤ T ∧ T < h.objs.size ∧ IsTupOf2 h T x y ∧ P1 j x ∧ P2 j y ∧ ∀ j' T', j' < j → acc[j']? = some (.ref T') → T' < T
theorem OutOf.nil {N : Addr} {h : Heap} : OutOf P1 P2 N h #[] 0 := ⟨rfl, fun j hj => absurd hj (Nat.not_lt_zero j)⟩
theorem OutOf.keep {N : Addr} {h h' : Heap} {acc : Array Value} (o : OutOf P1 P2 N h acc i) (hs : h.objs.size ≤ h'.objs.size) (k : ∀ c o, N ≤ c → h.get? c = some o → h'.get? c = some o) : OutOf P1 P2 N h' acc i :=
  ⟨o.1, fun j hj => let ⟨T, x, y, a, b, c, d, e⟩ := o.2 j hj; ⟨T, x, y, a, b, Nat.lt_of_lt_of_le c hs, k _ _ b d, e⟩⟩
theorem OutOf.push {N : Addr} {h h' : Heap} {acc : Array Value} (o : OutOf P1 P2 N h acc i) {T : Addr} {x y : Value} (eT : T = h.objs.size) (hN : N ≤ T) (hs : h'.objs.size = h.objs.size + 1) (hT : IsTupOf2 h' T x y) (hx : P1 i x) (hy : P2 i y) (k : ∀ c o, N ≤ c → h.get? c = some o → h'.get? c = some o) : OutOf P1 P2 N h' (acc.push (.ref T)) (i + 1) := by
  subst eT
  refine ⟨by rw [Array.size_push, o.1], fun j hj => ?_⟩
  by_cases c : j < i
  · obtain ⟨T, x, y, a, b, c', d, e, f, g⟩ := o.2 j c
    refine ⟨T, x, y, ?_, b, by rw [hs]; exact Nat.lt_succ_of_lt c', k _ _ b d, e, f, fun j' T' hj' h' => g j' T' hj' ?_⟩
    · rw [Array.getElem?_push, if_neg (by rw [o.1]; omega)]; exact a
    · rw [Array.getElem?_push, if_neg (by rw [o.1]; omega)] at h'; exact h'
  · have e : j = i := by omega
    subst e
    refine ⟨h.objs.size, x, y, by rw [Array.getElem?_push, if_pos o.1.symm], hN, by rw [hs]; exact Nat.lt_succ_self _, hT, hx, hy, fun j' T' hj' h' => ?_⟩
    rw [Array.getElem?_push, if_neg (by rw [o.1]; omega)] at h'
    obtain ⟨T, _, _, a, _, c', _⟩ := o.2 j' hj'
    rw [a] at h'
    cases h'
    exact c'
theorem zipS_loop {N : Addr} {R : Result → Shared → Prop} (S : ZipSep2 z TI TO i1 i2 fp1 fp2) (D1 : Draws prog w A.in1.in1 i1 fp1 n1 P1 St1) (D2 : Draws prog w A.in1.in1 i2 fp2 n2 P2 St2)
    (hN : z < N ∧ TI < N ∧ TO < N ∧ i1 < N ∧ i2 < N) (hf1 : ∀ b ∈ fp1, b < N) (hf2 : ∀ b ∈ fp2, b < N) (hn : min n1 n2 ≤ sizeLine) (L : Addr) (hL : L < N) (hLz : L ≠ z) (hLT : L ≠ TI) (hLO : L ≠ TO) (hL1 : L ∉ fp1) (hL2 : L ∉ fp2) (res : Value) :
    ∀ (k i : Nat) (s : Shared) (acc : Array Value) (c : Nat), min n1 n2 - i = k → i ≤ min n1 n2 → N ≤ s.heap.objs.size → ZipSt N z TI TO i1 i2 s.heap → St1 i s.heap → St2 i s.heap →
      s.heap.get? L = some { cls := .type "list", dict := none, data := .seq acc c, slots := #[] } → OutOf P1 P2 N s.heap acc i →
    (∀ h' tk acc' c', (∀ b o, b ≠ L → b ≠ z → b ≠ TO → b ≠ i1 → b ≠ i2 → s.heap.get? b = some o → h'.get? b = some o) → h'.get? L = some { cls := .type "list", dict := none, data := .seq acc' c', slots := #[] } → OutOf P1 P2 N h' acc' (min n1 n2) → R (.ok (.ret res)) { s with heap := h', toks := tk }) →
    codeAny (model prog w) A (.builtin "list.extend.loop" ⟨[.ref L, .ref z, res], []⟩) R s := by
  have li1 : L ≠ i1 := fun e => hL1 (by rw [e]; exact S.mem1)
  have li2 : L ≠ i2 := fun e => hL2 (by rw [e]; exact S.mem2)
  have far : ∀ {c : Addr}, N ≤ c → c ≠ z ∧ c ≠ TO ∧ c ≠ i1 ∧ c ≠ i2 ∧ c ≠ L := fun h => ⟨Nat.ne_of_gt (Nat.lt_of_lt_of_le hN.1 h), Nat.ne_of_gt (Nat.lt_of_lt_of_le hN.2.2.1 h), Nat.ne_of_gt (Nat.lt_of_lt_of_le hN.2.2.2.1 h), Nat.ne_of_gt (Nat.lt_of_lt_of_le hN.2.2.2.2 h), Nat.ne_of_gt (Nat.lt_of_lt_of_le hL h)⟩
  intro k
  induction k with
  | zero =>
    intro i s acc c hk hi hs Z st1 st2 hS ho hR
    have hin : i = min n1 n2 := by omega
    refine codeAny_builtin F.entry_extend_loop ?_
    rw [Around.under_plainId F.plain_extend_loop _]
    show wpAny _ A.in1 (pyNext (.ref z) >>= _) _ _ s
    refine wpAny_bind (zipS_end S D1 D2 Z st1 st2 (by omega) (by omega) (by omega) fun h' tk hk => ?_)
    refine wpAny_pure (hR h' tk acc c (fun b o _ b1 b2 b3 b4 e => hk b o b1 b2 b3 b4 e) (hk L _ hLz hLO li1 li2 hS) ?_)
    rw [← hin]
    refine ⟨ho.1, fun j hj => ?_⟩
    obtain ⟨T, x, y, a, b, c', d, e⟩ := ho.2 j hj
    obtain ⟨q1, q2, q3, q4, _⟩ := far b
    have := hk _ _ q1 q2 q3 q4 d
    exact ⟨T, x, y, a, b, Heap.lt_size this, this, e⟩
  | succ k ih =>
    intro i s acc c hk hi hs Z st1 st2 hS ho hR
    refine codeAny_builtin F.entry_extend_loop ?_
    rw [Around.under_plainId F.plain_extend_loop _]
    show wpAny _ A.in1 (pyNext (.ref z) >>= _) _ _ s
    refine wpAny_bind (zipS_item S D1 D2 hN hs Z st1 st2 (by omega) (by omega) fun x1 x2 h' tk p1 p2 Z' s1 s2 tt hsz hk => ?_)
    have hS' := hk L _ hLz hLO li1 li2 hS
    show wpAny _ A.in1 (updateSeq L (·.push (.ref s.heap.objs.size)) >>= _) _ _ _
    refine wpAny_bind ?_
    have oth : ∀ b o, b ≠ L → h'.get? b = some o → (h'.update L (Obj.mapSeq (·.push (.ref s.heap.objs.size)))).get? b = some o := fun b o hb e => (Heap.get?_update_other _ _ (Ne.symm hb)).trans e
    have hsz2 : (h'.update L (Obj.mapSeq (·.push (.ref s.heap.objs.size)))).objs.size = s.heap.objs.size + 1 := by rw [← hsz]; exact (Heap.SameBut.update ..).1
    refine wpAny_updateSeq hS' rfl (wpAny_pure ⟨plainId_quiet F.plain_extend_loop _, ih (i + 1) _ (acc.push (.ref s.heap.objs.size)) _ (by omega) (by omega) (by show N ≤ (h'.update L _).objs.size; rw [hsz2]; exact Nat.le_succ_of_le hs)
      (Z'.frame fun b o hb e => oth b o ?_ e) (D1.frame _ _ _ s1 fun b hb o e => oth b o (fun q => hL1 (q ▸ hb)) e) (D2.frame _ _ _ s2 fun b hb o e => oth b o (fun q => hL2 (q ▸ hb)) e) (Heap.get?_update_self _ hS' rfl)
      (ho.push rfl hs hsz2 (oth _ _ (far hs).2.2.2.2 tt) p1 p2 fun c o hc e => ?_) fun h'' tk'' acc'' c'' hk'' hS'' ho'' => ?_⟩)
      (by rw [ho.1]; omega) (by show (acc.push _).size ≤ sizeLine + 1; rw [Array.size_push, ho.1]; omega)
    · rcases hb with q | q | q | q
      · rw [q]; exact hLz.symm
      · rw [q]; exact hLT.symm
      · rw [q]; exact hLO.symm
      · exact (far q).2.2.2.2
    · obtain ⟨q1, q2, q3, q4, q5⟩ := far hc
      exact oth _ _ q5 (hk _ _ q1 q2 q3 q4 e)
    · exact hR h'' tk'' acc'' c'' (fun b o b0 b1 b2 b3 b4 e => hk'' b o b0 b1 b2 b3 b4 (oth b o b0 (hk b o b1 b2 b3 b4 e))) hS'' ho''
theorem init_zip {N : Addr} {R : Result → Shared → Prop} (hh : A.handled = none) (S : ZipSep2 z TI TO i1 i2 fp1 fp2) (D1 : Draws prog w A.in1.in1 i1 fp1 n1 P1 St1) (D2 : Draws prog w A.in1.in1 i2 fp2 n2 P2 St2)
    (hN : z < N ∧ TI < N ∧ TO < N ∧ i1 < N ∧ i2 < N) (hf1 : ∀ b ∈ fp1, b < N) (hf2 : ∀ b ∈ fp2, b < N) (hn : min n1 n2 ≤ sizeLine) (L : Addr) (hL : L < N) (hLz : L ≠ z) (hLT : L ≠ TI) (hLO : L ≠ TO) (hL1 : L ∉ fp1) (hL2 : L ∉ fp2)
    (hs : N ≤ s.heap.objs.size) (Z : ZipSt N z TI TO i1 i2 s.heap) (st1 : St1 0 s.heap) (st2 : St2 0 s.heap) (hS : s.heap.get? L = some { cls := .type "list", data := .seq #[] })
    (hR : ∀ h' tk acc' c', (∀ b o, b ≠ L → b ≠ z → b ≠ TO → b ≠ i1 → b ≠ i2 → s.heap.get? b = some o → h'.get? b = some o) → h'.get? L = some { cls := .type "list", dict := none, data := .seq acc' c', slots := #[] } → OutOf P1 P2 N h' acc' (min n1 n2) → R (.ok (.ret .none)) { s with heap := h', toks := tk }) :
    wpAny (model prog w) A.in1 (Builtin.«list.__init__» ⟨[.ref L, .ref z], []⟩)
      (fun fin s' => match fin with | .done f => R (.ok f) s' | .again c' => c'.quiet = true ∧ codeAny (model prog w) A c' R s') (fun e s' => R (.error e) s') s := by
  have far : ∀ {c : Addr}, N ≤ c → c ≠ L := fun h => Nat.ne_of_gt (Nat.lt_of_lt_of_le hL h)
  show wpAny _ A.in1 (do let old ← Builtin.List.listItems (.ref L); Builtin.List.listUpdate (.ref L) (fun _ => #[]); letGo old.toList.reverse; Builtin.List.listExtendWith (.ref L) (.ref z) .none) _ _ s
  refine wpAny_bind ?_
  unfold Builtin.List.listItems
  refine wpAny_bind (wpAny_seqItems hS rfl (wpAny_pure ?_))
  show wpAny _ A.in1 (updateSeq L (fun _ => #[]) >>= fun _ => letGo (#[] : Array Value).toList.reverse >>= fun _ => Builtin.List.listExtendWith (.ref L) (.ref z) .none) _ _ s
  refine wpAny_bind (wpAny_updateSeq hS rfl ?_)
  have hS₂ := Heap.get?_update_self (Obj.mapSeq (fun _ => (#[] : Array Value))) hS rfl
  have oth : ∀ b o, b ≠ L → s.heap.get? b = some o → (s.heap.update L (Obj.mapSeq (fun _ => (#[] : Array Value)))).get? b = some o :=
    fun b o hb e => (Heap.get?_update_other _ _ (Ne.symm hb)).trans e
  have zf : ∀ {h h' : Heap}, ZipSt N z TI TO i1 i2 h → (∀ b o, b ≠ L → h.get? b = some o → h'.get? b = some o) → ZipSt N z TI TO i1 i2 h' := fun Z k => Z.frame fun b o hb e => k b o (by
    rcases hb with q | q | q | q
    · rw [q]; exact hLz.symm
    · rw [q]; exact hLT.symm
    · rw [q]; exact hLO.symm
    · exact far q) e
  have sz1 : (s.heap.update L (Obj.mapSeq (fun _ => (#[] : Array Value)))).objs.size = s.heap.objs.size := (Heap.SameBut.update ..).1
  refine wpAny_bind (wpAny_letGo ?_)
  generalize hg : s.heap.update L (Obj.mapSeq (fun _ => (#[] : Array Value))) = g at hS₂ oth sz1 ⊢
  have Z1 : ZipSt N z TI TO i1 i2 g := zf Z oth
  have hT : ({ s with heap := g } : Shared).TypeIs (.ref z) "zip" := Z1.typeIs (s := { s with heap := g })
  have h1 : Builtin.List.listSameRef (.ref L) (.ref z) = false := by simp [Builtin.List.listSameRef, hLz]
  have h2 : (Value.type "zip" == Value.type "list") = false := by decide
  have h3 : (Value.type "zip" == Value.type "tuple") = false := by decide
  unfold Builtin.List.listExtendWith
  refine wpAny_bind (wpAny_typeOf hT ?_)
  simp only [h1, h2, h3, Bool.or_false, Bool.false_eq_true, if_false]
  have pz : ∀ {A' : Around} {E : Value → Shared → Prop} {Q : Value → Shared → Prop}, Q (.ref z) { s with heap := g } → wpAny (model prog w) A' (pyIter (.ref z)) Q E { s with heap := g } := fun q => by
    rcases Z1.2 with ⟨hz, _⟩ | ⟨T, f, o, hz, _⟩
    · exact wpAny_pyIter_zip (s := { s with heap := g }) hz q
    · refine wpAny_pyIter_slot hT F.slot_zip_iter (wpAny_call_entry F.slot_zip_iter hT F.entry_zip_iter ?_ (F.args_zip_iter_1 _))
      show wpAny _ _ (ret (.ref z)) _ _ _
      exact wpAny_pure ⟨_, rfl, "zip", _, hT, F.slot_zip_next.lookup, q⟩
  refine wpAny_bind (pz ?_)
  refine wpAny_bind (wpAny_holding ?_)
  unfold Builtin.List.listLengthHint
  refine wpAny_bind (wpAny_specialOf hT zip_no_len ?_)
  show wpAny _ A.in1 (specialOf (Value.ref z) (Str.ofString "__length_hint__") >>= _) _ _ _
  refine wpAny_bind (wpAny_specialOf hT zip_no_hint ?_)
  refine wpAny_pure ?_
  show wpAny _ A.in1 (rule "list.extend.makes-room" >>= fun _ => Builtin.List.listTouch (.ref L) >>= fun _ =>
    again (.builtin "list.extend.loop" ⟨[.ref L, .ref z, .none], []⟩)) _ _ _
  refine wpAny_bind (wpAny_rule ?_)
  refine wpAny_bind ?_
  show wpAny _ A.in1 (updateSeq L (·.push .none) >>= fun _ => updateSeq L (·.pop)) _ _ _
  refine wpAny_bind (wpAny_updateSeq hS₂ rfl ?_)
  have hS₃ := Heap.get?_update_self (Obj.mapSeq (·.push Value.none)) hS₂ rfl
  refine wpAny_updateSeq (hz := by seq_fits) hS₃ rfl ?_
  have hS₄ := Heap.get?_update_self (Obj.mapSeq (·.pop)) hS₃ rfl
  have oth2 : ∀ b o, b ≠ L → g.get? b = some o → ((g.update L (Obj.mapSeq (·.push Value.none))).update L (Obj.mapSeq (·.pop))).get? b = some o :=
    fun b o hb e => (Heap.get?_update_other _ _ (Ne.symm hb)).trans ((Heap.get?_update_other _ _ (Ne.symm hb)).trans e)
  have sz2 : ((g.update L (Obj.mapSeq (·.push Value.none))).update L (Obj.mapSeq (·.pop))).objs.size = g.objs.size := (Heap.SameBut.update ..).1.trans (Heap.SameBut.update ..).1
  have all : ∀ b o, b ≠ L → s.heap.get? b = some o → ((g.update L (Obj.mapSeq (·.push Value.none))).update L (Obj.mapSeq (·.pop))).get? b = some o := fun b o hb e => oth2 b o hb (oth b o hb e)
  refine wpAny_pure ⟨plainId_quiet F.plain_extend_loop _, zipS_loop S D1 D2 hN hf1 hf2 hn L hL hLz hLT hLO hL1 hL2 _ (min n1 n2) 0 _ _ _ rfl (Nat.zero_le _) (by show N ≤ Array.size _; rw [sz2, sz1]; exact hs) (zf Z all)
    (D1.frame _ _ _ st1 fun b hb o e => all b o (fun q => hL1 (q ▸ hb)) e) (D2.frame _ _ _ st2 fun b hb o e => all b o (fun q => hL2 (q ▸ hb)) e) hS₄ OutOf.nil fun h' tk acc' c' hk hS' ho => ?_⟩
  exact hR h' tk acc' c' (fun b o b0 b1 b2 b3 b4 e => hk b o b0 b1 b2 b3 b4 (all b o b0 e)) hS' ho
theorem call_list_zip {Q : Value → Shared → Prop} (hh : A.handled = none) (S : ZipSep2 z TI TO i1 i2 fp1 fp2) (D1 : Draws prog w A.in1.in1.in1 i1 fp1 n1 P1 St1) (D2 : Draws prog w A.in1.in1.in1 i2 fp2 n2 P2 St2)
    (hf1 : ∀ b ∈ fp1, b < s.heap.objs.size) (hf2 : ∀ b ∈ fp2, b < s.heap.objs.size) (hn : min n1 n2 ≤ sizeLine) (hz : IsZip s.heap z TI TO .none) (hTI : IsTupOf2 s.heap TI (.ref i1) (.ref i2)) (hTO : ∃ x y, IsTupOf2 s.heap TO x y) (st1 : St1 0 s.heap) (st2 : St2 0 s.heap)
    (hQ : ∀ (h' : Heap) (tk : Nat) (acc : Array Value) (c : Nat), (∀ b o, b ≠ z → b ≠ TO → b ≠ i1 → b ≠ i2 → s.heap.get? b = some o → h'.get? b = some o) → h'.get? s.heap.objs.size = some { cls := .type "list", dict := none, data := .seq acc c, slots := #[] } →
      OutOf P1 P2 (s.heap.objs.size + 1) h' acc (min n1 n2) → Q (.ref s.heap.objs.size) { s with heap := h', toks := tk }) :
    wpAny (model prog w) A (call (.type "list") [.ref z]) Q E s := by
  obtain ⟨x0, y0, hTO⟩ := hTO
  have lz := Heap.lt_size hz
  have lTI := Heap.lt_size hTI
  have lTO := Heap.lt_size hTO
  have l1 := hf1 _ S.mem1
  have l2 := hf2 _ S.mem2
  refine callType_codes (Q₁ := fun obj s₁ => obj = .ref s.heap.objs.size ∧ s₁ = { s with heap := s.heap.push { cls := .type "list", data := .seq #[] } }) F.called_list (F.typeCall_list_1 _) F.entry_list_init
    (code_list_new _ ⟨rfl, rfl⟩) fun obj s₁ h₁ => ?_
  obtain ⟨rfl, rfl⟩ := h₁
  have hS : (s.heap.push { cls := .type "list", data := .seq #[] }).get? s.heap.objs.size = some { cls := .type "list", data := .seq #[] } := Heap.get?_push_size _ rfl
  have kp : ∀ b o, s.heap.get? b = some o → (s.heap.push { cls := .type "list", data := .seq #[] }).get? b = some o := fun b o e => Heap.get?_push_of_some _ e
  refine ⟨⟨_, hS, rfl⟩, F.args_list_init_2 _ _, init_zip (N := s.heap.objs.size + 1) (s := { s with heap := s.heap.push { cls := .type "list", data := .seq #[] } }) (A := A.in1) hh S D1 D2
    ⟨Nat.lt_succ_of_lt lz, Nat.lt_succ_of_lt lTI, Nat.lt_succ_of_lt lTO, Nat.lt_succ_of_lt l1, Nat.lt_succ_of_lt l2⟩ (fun b hb => Nat.lt_succ_of_lt (hf1 b hb)) (fun b hb => Nat.lt_succ_of_lt (hf2 b hb)) hn s.heap.objs.size (Nat.lt_succ_self _)
    (Nat.ne_of_gt lz) (Nat.ne_of_gt lTI) (Nat.ne_of_gt lTO) (fun hm => Nat.lt_irrefl _ (hf1 _ hm)) (fun hm => Nat.lt_irrefl _ (hf2 _ hm)) (by show _ ≤ Array.size _; exact Nat.le_of_eq (Heap.size_push ..).symm) ⟨kp _ _ hTI, .inl ⟨kp _ _ hz, x0, y0, kp _ _ hTO⟩⟩
    (D1.frame _ _ _ st1 fun b _ o e => kp b o e) (D2.frame _ _ _ st2 fun b _ o e => kp b o e) hS fun h' tk acc c hk hS' ho => ?_⟩
  exact ⟨rfl, hQ h' tk acc c (fun b o b1 b2 b3 b4 e => hk b o (Nat.ne_of_lt (Heap.lt_size e)) b1 b2 b3 b4 (kp b o e)) hS' ho⟩
end
/-! ### many new things at once -/
def over (H g : Hp) : Hp := fun b => match g b with
  | some u => some u
  | none => H b
theorem over_in {H g : Hp} {b : Addr} {u : HO} (h : g b = some u) : over H g b = some u := by simp [over, h]
theorem over_out {H g : Hp} {b : Addr} (h : g b = none) : over H g b = H b := by simp [over, h]
theorem over_upd (H g : Hp) (T : Addr) (o : HO) : upd (over H g) T o = over H (upd g T o) := by
  funext b
  by_cases c : b = T
  · subst c; rw [upd_same, over_in upd_same]
  · rw [upd_ne c]; simp [over, upd_ne c]
section
variable {X : Cx} {pins : List (Addr × Obj)} {σ : L2.St} {H : Hp} {s : Shared} {h' : Heap}
theorem turnedNews {t' : Nat} {ch : List Addr} {g : Hp} (I : Inv X pins σ H s) (k : ∀ b o, b ∉ ch → s.heap.get? b = some o → h'.get? b = some o) (hf : ∀ b ∈ ch, FpOk X pins H b) (hT : ∀ T u, g T = some u → s.heap.objs.size ≤ T)
    (new : ∀ T u, g T = some u → ObjOk X.prog X.w (over H g) h' T u) : Inv X pins σ (over H g) { s with heap := h', toks := t' } := by
  have old : ∀ b u, H b = some u → over H g b = some u := fun b u e => by
    cases c : g b with
    | none => rw [over_out c]; exact e
    | some v => rw [I.hok.fresh (hT b v c)] at e; cases e
  have nit : ∀ b u, H b = some u → b ∉ ch := fun b u e z => by
    have q := (hf b z).1
    rw [q] at e; cases e
  refine I.step (g' := s.gens) (d' := s.drawn) (ch := ch) (fun b hb => ⟨(hf b hb).2.2.2.1, (hf b hb).2.1, (hf b hb).2.2.2.2.1, (hf b hb).2.2.2.2.2⟩) (fun b o _ _ hc e _ => k b o hc e) (fun b o _ _ hc e _ => ⟨o.slots, k b o hc e⟩)
    (fun b o _ e n => ?_) (fun b o hc e => ⟨o, k b o hc e⟩) (fun b xs e => ?_) (fun b o u e => ?_) (fun b ps e => ⟨#[], ?_⟩) (fun m hm => ?_) (fun b u e => ?_) I.bare
  · rw [over_out]; exact n
    cases c : g b with
    | none => rfl
    | some v => exact absurd (Heap.lt_size e) (Nat.not_lt.mpr (hT b v c))
  · exact old _ _ e
  · exact old _ _ e
  · rw [old _ _ e]; simp
  · obtain ⟨o, es, ep, ho, r⟩ := hm
    exact ⟨o, es, ep, k _ o (fun z => (hf _ z).2.1 rfl) ho, r⟩
  · cases c : g b with
    | some v =>
      rw [over_in c] at e
      cases e
      exact new b _ c
    | none =>
      rw [over_out c] at e
      refine (I.hok b u e).stay (fun c v hc q => k c v ?_ q) (fun c q => old _ _ q) fun c xs q => old _ _ q
      rcases hc with z | z
      · rw [z]; exact nit b u e
      · exact nit c _ z
end
/-- two by two, as tuples -/
def tups : Hp → List Addr → List V → List V → Hp
  | H, T :: Ts, x :: xs, y :: ys => tups (upd H T (.tup [x, y])) Ts xs ys
  | H, _, _, _ => H
theorem tups_over : ∀ (H g : Hp) (Ts : List Addr) (xs ys : List V), tups (over H g) Ts xs ys = over H (tups g Ts xs ys)
  | H, g, T :: Ts, x :: xs, y :: ys => by simp only [tups]; rw [over_upd, tups_over]
  | H, g, [], _, _ => by simp [tups]
  | H, g, _ :: _, [], _ => by simp [tups]
  | H, g, _ :: _, _ :: _, [] => by simp [tups]
theorem tups_mem : ∀ (g : Hp) (Ts : List Addr) (xs ys : List V) {T : Addr} {u : HO}, tups g Ts xs ys T = some u → g T = some u ∨ ∃ (j : Nat) (x y : V), Ts[j]? = some T ∧ xs[j]? = some x ∧ ys[j]? = some y ∧ u = .tup [x, y]
  | g, T :: Ts, x :: xs, y :: ys, T', u, h => by
    simp only [tups] at h
    rcases tups_mem _ Ts xs ys h with h | ⟨j, x', y', a, b, c, d⟩
    · by_cases e : T' = T
      · subst e
        rw [upd_same] at h
        cases h
        exact .inr ⟨0, x, y, rfl, rfl, rfl, rfl⟩
      · rw [upd_ne e] at h; exact .inl h
    · exact .inr ⟨j + 1, x', y', a, b, c, d⟩
  | g, [], _, _, _, _, h => by simp only [tups] at h; exact .inl h
  | g, _ :: _, [], _, _, _, h => by simp only [tups] at h; exact .inl h
  | g, _ :: _, _ :: _, [], _, _, h => by simp only [tups] at h; exact .inl h
theorem tups_out : ∀ (g : Hp) (Ts : List Addr) (xs ys : List V) {T : Addr}, T ∉ Ts → tups g Ts xs ys T = g T
  | g, T :: Ts, x :: xs, y :: ys, T', h => by
    simp only [List.mem_cons, not_or] at h
    simp only [tups]
    rw [tups_out _ Ts xs ys h.2, upd_ne h.1]
  | g, [], _, _, _, _ => by simp [tups]
  | g, _ :: _, [], _, _, _ => by simp [tups]
  | g, _ :: _, _ :: _, [], _, _ => by simp [tups]
/-- list(zip(a, b)): a new list of new tuples -/
def tLstZip (K : PySem.W.Frag) (ta : TA) : TE := fun σ H Q => ta σ H fun vs H1 => ∃ ka kb a b xs ys, vs = [.ref a, .ref b] ∧ SqK ka K H1 a xs ∧ SqK kb K H1 b ys ∧
  ∀ (q : Addr) (Ts : List Addr), Ts.length = min xs.length ys.length → (∀ T ∈ Ts, H1 T = none) → Ts.Nodup → H1 q = none → q ∉ Ts → Q (.ref q) (upd (tups H1 Ts xs ys) q (.lst (Ts.map V.ref)))
theorem vals_refs : ∀ Ts : List Addr, Vals (Ts.map V.ref) (Ts.map Value.ref)
  | [] => .nil
  | T :: Ts => .cons rfl (vals_refs Ts)
theorem refs_of {P1 P2 : Nat → Value → Prop} {N : Addr} {h : Heap} {acc : Array Value} {n : Nat} (o : OutOf P1 P2 N h acc n) : ∃ Ts : List Addr, acc.toList = Ts.map Value.ref ∧ Ts.length = n ∧ Ts.Nodup ∧ ∀ j (T : Addr), Ts[j]? = some T → N ≤ T ∧ ∃ x y, IsTupOf2 h T x y ∧ P1 j x ∧ P2 j y := by
  refine ⟨acc.toList.map fun v => match v with | .ref a => a | _ => 0, ?_, by simp [o.1], ?_, ?_⟩
  · rw [List.map_map]
    refine (List.map_id _).symm.trans (List.map_congr_left fun v hv => ?_)
    obtain ⟨j, hj, e⟩ := List.getElem_of_mem hv
    obtain ⟨T, x, y, a, _⟩ := o.2 j (by rw [← o.1]; simpa using hj)
    have : acc.toList[j]? = some v := by rw [List.getElem?_eq_getElem hj, e]
    rw [Array.getElem?_toList, a] at this
    cases this
    rfl
  · rw [List.nodup_iff_pairwise_ne, List.pairwise_iff_getElem]
    intro i j hi hj hij
    simp only [List.length_map, Array.length_toList] at hi hj
    obtain ⟨T, _, _, a, _⟩ := o.2 i (by rw [← o.1]; exact hi)
    obtain ⟨T', _, _, a', _, _, _, _, _, lt⟩ := o.2 j (by rw [← o.1]; exact hj)
    have := lt i T hij a
    have e1 : acc.toList[i] = Value.ref T := by
      have := a; rw [← Array.getElem?_toList, List.getElem?_eq_getElem (by simpa using hi)] at this; exact Option.some.inj this
    have e2 : acc.toList[j] = Value.ref T' := by
      have := a'; rw [← Array.getElem?_toList, List.getElem?_eq_getElem (by simpa using hj)] at this; exact Option.some.inj this
    simp only [List.getElem_map, e1, e2]
    exact Nat.ne_of_lt this
  · intro j T hT
    rw [List.getElem?_map, Option.map_eq_some_iff] at hT
    obtain ⟨v, hv, e⟩ := hT
    have hj : j < acc.toList.length := (List.getElem?_eq_some_iff.mp hv).1
    obtain ⟨T', x, y, a, b, c, d, p1, p2, _⟩ := o.2 j (by rw [← o.1]; simpa using hj)
    rw [Array.getElem?_toList, a] at hv
    cases hv
    cases e
    exact ⟨b, x, y, d, p1, p2⟩
theorem pe_lstZip {X : Cx} {e e2 : Expr} {ta : TA} {p p2 pos pos2 : Pos} (hc : X.calm = true) (hg : Gl X "list") (hm : X.mg "list" = none) (hg2 : Gl X "zip") (hm2 : X.mg "zip" = none) (ha : PA X [e, e2] ta)
    (hs : starEach [e, e2] X.env = (false, eval e X.env) :: starEach [e2] X.env := by rfl) (hpl : (backTo pos2 (starEach [e2] X.env)).any (·.1) = false := by rfl)
    (hs2 : starEach [.Call (.Name "zip" p2) [e, e2] [] pos2] X.env = (false, eval (.Call (.Name "zip" p2) [e, e2] [] pos2) X.env) :: starEach [] X.env := by rfl) :
    PE X (.Call (.Name "list" p) [.Call (.Name "zip" p2) [e, e2] [] pos2] [] pos) (tLstZip X.K ta) := by
  refine ⟨fun pins s σ H Q I h => ?_⟩
  refine Call_ (ld_blt I hg hm boot_list (PyProof.Rows.callWith_type1 (args_cons (Call_ (ld_blt I hg2 hm2 PyProof.Rows.boot_zip (PyProof.Rows.callWith_type1 (thn (ha.run pos2 pins s σ H _ I h) fun us s1 ⟨vs, H1, I1, r1, q1⟩ => ?_) hs hpl))) hs2) hs2 rfl))
  obtain ⟨ka, kb, a, b, xs, ys, ex, hqx, hqy, q⟩ := q1
  subst ex
  cases r1 with
  | cons r rr =>
    cases rr with
    | cons r' rr =>
      cases rr
      cases r
      cases r'
      obtain ⟨its, rv, p1, z1⟩ := inv_seqK I1 hqx
      obtain ⟨its2, rv2, p2', z2⟩ := inv_seqK I1 hqy
      have la := p1.lt
      have lb := p2'.lt
      refine zip_begins2 (beginsK ka a its.toArray) (beginsK kb b its2.toArray) p1 p2' fun h1 hz hTI hTO g1 g2 hsz hk => args_nil ?_
      have fresh5 : ∀ c, c ∈ [s1.heap.objs.size + 4, s1.heap.objs.size + 2, s1.heap.objs.size + 3, s1.heap.objs.size, s1.heap.objs.size + 1] → FpOk X pins H1 c := fun c hcm => by
        have hle : s1.heap.objs.size ≤ c := by
          rcases mem5 hcm with z | z | z | z | z
          · rw [z]; exact Nat.le_add_right _ _
          · rw [z]; exact Nat.le_add_right _ _
          · rw [z]; exact Nat.le_add_right _ _
          · rw [z]; exact Nat.le_refl _
          · rw [z]; exact Nat.le_add_right _ _
        exact I1.fpOk hle (I1.hok.fresh hle)
      have I2 : Inv X pins σ H1 { s1 with heap := h1 } := I1.kept (t' := s1.toks) hk
      have l1 : its.toArray.size = xs.length := by rw [List.size_toArray]; exact rv.length.symm
      have l2 : its2.toArray.size = ys.length := by rw [List.size_toArray]; exact rv2.length.symm
      have mn : min its.toArray.size its2.toArray.size = min xs.length ys.length := by rw [l1, l2]
      have big : ∀ {c : Nat}, c < s1.heap.objs.size → c < h1.objs.size := fun {c} hc' => by rw [hsz]; exact Nat.lt_of_lt_of_le hc' (Nat.le_add_right _ _)
      refine call_list_zip (s := { s1 with heap := h1 }) (I1.ok.hd hc) (sep2_of s1.heap.objs.size a b la lb) (drawsK (prog := X.prog) (w := X.w) (A := X.A.in1.in1.in1) ka (show X.A.in1.in1.in1.handled = none from I1.ok.hd hc) s1.heap.objs.size a (Nat.ne_of_lt la) its.toArray) (drawsK (prog := X.prog) (w := X.w) (A := X.A.in1.in1.in1) kb (show X.A.in1.in1.in1.handled = none from I1.ok.hd hc) (s1.heap.objs.size + 1) b (Nat.ne_of_lt (Nat.lt_succ_of_lt lb)) its2.toArray)
        (fun c hcm => ?_) (fun c hcm => ?_) (by rw [mn]; exact Nat.le_trans (Nat.min_le_left _ _) z1) hz hTI ⟨_, _, hTO⟩ ⟨.of g1, p1.at fun o e => hk _ o e⟩ ⟨.of g2, p2'.at fun o e => hk _ o e⟩ fun h' tk acc c hk2 hS ho => ?_
      · show c < h1.objs.size
        rw [hsz]
        simp only [List.mem_cons, List.not_mem_nil, or_false] at hcm
        rcases hcm with e | e
        · rw [e]; exact Nat.lt_add_of_pos_right (by decide)
        · rw [e]; exact Nat.lt_of_lt_of_le la (Nat.le_add_right _ _)
      · show c < h1.objs.size
        rw [hsz]
        simp only [List.mem_cons, List.not_mem_nil, or_false] at hcm
        rcases hcm with e | e
        · rw [e]; exact Nat.add_lt_add_left (by decide) _
        · rw [e]; exact Nat.lt_of_lt_of_le lb (Nat.le_add_right _ _)
      obtain ⟨Ts, eT, lT, nd, hT⟩ := refs_of ho
      rw [mn] at lT
      have fr : ∀ T, h1.objs.size ≤ T → H1 T = none := fun T hT => I2.hok.fresh hT
      have geT : ∀ T ∈ Ts, h1.objs.size + 1 ≤ T := fun T hm => by
        obtain ⟨j, hj⟩ := List.getElem?_of_mem hm
        exact (hT j T hj).1
      have qT : h1.objs.size ∉ Ts := fun hm => absurd (geT _ hm) (Nat.not_succ_le_self _)
      have eo : upd (tups H1 Ts xs ys) h1.objs.size (.lst (Ts.map V.ref)) = over H1 (upd (tups (fun _ => none) Ts xs ys) h1.objs.size (.lst (Ts.map V.ref))) := by
        rw [← over_upd, ← tups_over]
        congr 1
      have mem : ∀ T u, (upd (tups (fun _ => none) Ts xs ys) h1.objs.size (.lst (Ts.map V.ref))) T = some u → (T = h1.objs.size ∧ u = .lst (Ts.map V.ref)) ∨ ∃ (j : Nat) (x y : V), Ts[j]? = some T ∧ xs[j]? = some x ∧ ys[j]? = some y ∧ u = .tup [x, y] := fun T u h => by
        by_cases e : T = h1.objs.size
        · subst e
          rw [upd_same] at h
          cases h
          exact .inl ⟨rfl, rfl⟩
        · rw [upd_ne e] at h
          rcases tups_mem _ _ _ _ h with h | h
          · cases h
          · exact .inr h
      refine ⟨.ref h1.objs.size, _, ?_, rfl, q _ Ts lT (fun T hm => fr T (Nat.le_of_succ_le (geT T hm))) nd (fr _ (Nat.le_refl _)) qT⟩
      rw [eo]
      refine turnedNews (s := { s1 with heap := h1 }) I2 (ch := [s1.heap.objs.size + 4, s1.heap.objs.size + 2, s1.heap.objs.size + 3, s1.heap.objs.size, s1.heap.objs.size + 1]) (fun b o hb e => hk2 b o (fun z => hb (by simp [z])) (fun z => hb (by simp [z])) (fun z => hb (by simp [z])) (fun z => hb (by simp [z])) e) fresh5 (fun T u h => ?_) (fun T u h => ?_)
      · rcases mem T u h with ⟨e, _⟩ | ⟨j, x, y, e, _⟩
        · rw [e]; exact Nat.le_refl _
        · exact Nat.le_of_succ_le (hT j T e).1
      · rcases mem T u h with ⟨rfl, rfl⟩ | ⟨j, x, y, e, ex, ey, rfl⟩
        · refine ⟨by rw [List.length_map, lT]; exact Nat.le_trans (Nat.min_le_left _ _) z1, acc.toList, c, ?_, by rw [Array.toArray_toList]; exact hS⟩
          rw [eT]; exact vals_refs Ts
        · obtain ⟨_, v1, v2, t, p3, p4⟩ := hT j T e
          obtain ⟨u1, hu1, ru1⟩ := rv.get ex
          obtain ⟨u2, hu2, ru2⟩ := rv2.get ey
          have e1 : v1 = u1 := by
            have : its.toArray[j]? = some u1 := by rw [← hu1]; simp
            rw [this] at p3
            exact (Option.some.inj p3).symm
          have e2 : v2 = u2 := by
            have : its2.toArray[j]? = some u2 := by rw [← hu2]; simp
            rw [this] at p4
            exact (Option.some.inj p4).symm
          subst e1 e2
          exact ⟨by show 2 ≤ sizeLine; decide, [v1, v2], .cons ru1 (.cons ru2 .nil), ⟨_, t, rfl, _, rfl⟩⟩
section
variable {K : PySem.W.Frag} {R : Hp} {μ : List Addr} {S : Sto}
theorem lk_tups : ∀ (Ts : List Addr) (xs ys : List V) (ds es : List PyData) {F H : Hp}, Ts.length = min xs.length ys.length → (∀ T ∈ Ts, H T = none) → Ts.Nodup → Lk K F R μ S H → RepL K F ds xs → RepL K F es ys →
    ∃ F', Ext F μ F' μ ∧ Lk K F' R μ S (tups H Ts xs ys) ∧ RepL K F' (zipD ds es) (Ts.map V.ref)
  | T :: Ts, x :: xs, y :: ys, ds, es, F, H, hl, hf, nd, l, r1, r2 => by
    cases ds with
    | nil => simp [RepL] at r1
    | cons d ds =>
    cases es with
    | nil => simp [RepL] at r2
    | cons e es =>
    obtain ⟨x', xs', ex, a1, a2⟩ := r1
    obtain ⟨y', ys', ey, b1, b2⟩ := r2
    cases ex
    cases ey
    obtain ⟨nT, nd'⟩ := List.nodup_cons.mp nd
    obtain ⟨F1, x1, l1, rt, _⟩ := lk_pair l (hf T (by simp)) a1 b1
    obtain ⟨F2, x2, l2, r2⟩ := lk_tups Ts xs ys ds es (by simpa [Nat.succ_min_succ] using hl) (fun T' h' => by
      rw [upd_ne (by rintro rfl; exact nT h')]; exact hf T' (List.mem_cons_of_mem _ h')) nd' l1 (RepL.mono x1.1 _ _ a2) (RepL.mono x1.1 _ _ b2)
    exact ⟨F2, x1.trans x2, l2, .ref T, _, rfl, RepD.mono x2.1 _ _ rt, r2⟩
  | [], xs, ys, ds, es, F, H, hl, hf, nd, l, r1, r2 => by
    refine ⟨F, .refl _ _, by simpa [tups] using l, ?_⟩
    have : xs = [] ∨ ys = [] := by
      cases xs with
      | nil => exact .inl rfl
      | cons x xs => cases ys with
        | nil => exact .inr rfl
        | cons y ys => simp [Nat.succ_min_succ] at hl
    have : ds = [] ∨ es = [] := by
      rcases this with rfl | rfl
      · cases ds with
        | nil => exact .inl rfl
        | cons d ds => obtain ⟨_, _, e, _⟩ := r1; cases e
      · cases es with
        | nil => exact .inr rfl
        | cons d ds => obtain ⟨_, _, e, _⟩ := r2; cases e
    rcases this with rfl | rfl <;> simp [zipD, RepL]
  | _ :: _, [], ys, _, _, _, _, hl, _, _, _, _, _ => by simp at hl
  | _ :: _, _ :: _, [], _, _, _, _, hl, _, _, _, _, _ => by simp at hl
/-- list(zip(a, b)) -/
def mLstZip (a b : ME) : ME := fun env S => (a env S).bind fun p => (b env p.2).bind fun q => (srcW p.1 q.2).bind fun x => (srcW q.1 q.2).map fun y => (.d (.list (zipD x.1 y.1)), q.2)
@[simp] theorem mLstZip_e (a b : ME) (env : Sl) (S : Sto) : mLstZip a b env S = (a env S).bind fun p => (b env p.2).bind fun q => (srcW p.1 q.2).bind fun x => (srcW q.1 q.2).map fun y => (.d (.list (zipD x.1 y.1)), q.2) := id rfl
theorem se_lstZip {X : Cx} {e e2 : Expr} {ma mb : ME} {p p2 pos pos2 : Pos} (hc : X.calm = true) (hg : Gl X "list") (hm : X.mg "list" = none) (hg2 : Gl X "zip") (hm2 : X.mg "zip" = none) (h1 : SimE X e ma) (h2 : SimE X e2 mb)
    (hs : starEach [e, e2] X.env = (false, eval e X.env) :: starEach [e2] X.env := by rfl) (hsb : starEach [e2] X.env = (false, eval e2 X.env) :: starEach [] X.env := by rfl) (hpl : (backTo pos2 (starEach [e2] X.env)).any (·.1) = false := by rfl)
    (hs2 : starEach [.Call (.Name "zip" p2) [e, e2] [] pos2] X.env = (false, eval (.Call (.Name "zip" p2) [e, e2] [] pos2) X.env) :: starEach [] X.env := by rfl) :
    SimE X (.Call (.Name "list" p) [.Call (.Name "zip" p2) [e, e2] [] pos2] [] pos) (mLstZip ma mb) := by
  refine pe_imp (pe_lstZip hc hg hm hg2 hm2 (pa_cons h1 (pa_cons h2 pa_nil hsb) hs) hs hpl hs2) fun σ H Q q => ?_
  obtain ⟨F, R, μ, env, S, w, S', sl, l, e, k⟩ := q
  simp only [mLstZip, Option.bind_eq_some_iff, Option.map_eq_some_iff] at e
  obtain ⟨⟨w1, S1⟩, e1, ⟨w2, S2⟩, e2, ⟨ys, g1⟩, e4, ⟨zs, g2⟩, e5, e6⟩ := e
  cases e6
  refine ⟨F, R, μ, env, S, w1, S1, sl, l, e1, fun F1 μ1 v H1 x1 l1 r1 => ?_⟩
  refine ⟨F1, R, μ1, env, S1, w2, S2, sl.mono x1, l1, e2, fun F2 μ2 u H2 x2 l2 r2 => ?_⟩
  obtain ⟨hg1, ka, a, rfl, s1⟩ := src_K l2 (r1.mono x2) e4
  obtain ⟨hg2, kb, b, rfl, s2⟩ := src_K l2 r2 e5
  obtain ⟨vs, q1, d1, z1⟩ := s1 F2 R μ2 S2 H2 (.refl _ _) l2 hg1
  obtain ⟨us, q2, d2, _⟩ := s2 F2 R μ2 S2 H2 (.refl _ _) l2 hg2
  refine ⟨ka, kb, a, b, vs, us, rfl, q1, q2, fun q Ts hl hf nd hq hqT => ?_⟩
  obtain ⟨F3, x3, l3, r3⟩ := lk_tups Ts vs us ys zs hl hf nd l2 d1 d2
  have hq' : tups H2 Ts vs us q = none := by rw [tups_out _ _ _ _ hqT]; exact hq
  obtain ⟨l', x'⟩ := lk_newF (o := .lst (Ts.map V.ref)) l3 hq'
  exact k _ _ _ _ (((x1.trans x2).trans x3).trans x') l' ⟨q, Ts.map V.ref, rfl, upd_same, by rw [List.length_map, hl]; exact Nat.le_trans (Nat.min_le_left _ _) z1, RepL.mono x'.1 _ _ r3⟩
end
/-! ### for k in reversed(range(n)) -/
def revD (n : Nat) : List PyData := (List.range n).map fun i => .int ((n : Int) - 1 - (i : Nat))
theorem revD_len (n : Nat) : (revD n).length = n := by simp [revD]
section
variable {X : Cx} {K : PySem.W.Frag} {F R : Hp} {μ : List Addr}
theorem wd_rev {n : Nat} (hz : n ≤ sizeLine) : WalkD K F R μ (Itc (0 + (n : Int) - 1) (-1) n) (revD n) (fun _ => True) := by
  refine ⟨by rw [revD_len]; exact hz, fun _ => True, fun i H x H' => H' = H ∧ x = .int (0 + (n : Int) - 1 + (i : Nat) * (-1)), ?_, fun _ _ _ _ _ _ _ _ => trivial, fun F' R' μ' S H i x H' x1 l hg hi y => ?_⟩
  · rw [revD_len]
    exact ⟨fun i H hi _ => hi, fun H _ => Nat.le_refl _, fun i x H H' _ _ y => y⟩
  · obtain ⟨rfl, rfl⟩ := y
    rw [revD_len] at hi
    refine ⟨F', .int ((n : Int) - 1 - (i : Nat)), .refl _ _, l, ?_, ?_, fun _ _ h => h⟩
    · simp [revD, hi]
    · show V.int _ = V.int _
      congr 1
      omega
noncomputable def mRevR (a : ME) : MI := fun env S => (a env S).bind fun p => match p.1 with
  | .d (.int j) => if Ok (-(2 ^ 62) ≤ j ∧ j ≤ 1000000) then some (revD j.toNat, fun _ => True, p.2) else none
  | _ => none
theorem mRevR_e (a : ME) (env : Sl) (S : Sto) {j : Int} {S' : Sto} (e : a env S = some (.d (.int j), S')) (h : -(2 ^ 62) ≤ j) (h' : j ≤ 1000000) : mRevR a env S = some (revD j.toNat, fun _ => True, S') := by
  unfold mRevR
  rw [e]
  exact if_pos ⟨h, h'⟩
theorem si_revR {tg a : Expr} {ma : ME} {p p2 pos pos2 : Pos} (hg : Gl X "reversed") (hm : X.mg "reversed" = none) (hg2 : Gl X "range") (hm2 : X.mg "range" = none) (ha : SimE X a ma) (hs : starEach [a] X.env = (false, eval a X.env) :: starEach [] X.env := by rfl)
    (hs2 : starEach [.Call (.Name "range" p2) [a] [] pos2] X.env = (false, eval (.Call (.Name "range" p2) [a] [] pos2) X.env) :: starEach [] X.env := by rfl) :
    SimI X tg (.Call (.Name "reversed" p) [.Call (.Name "range" p2) [a] [] pos2] [] pos) (mRevR ma) := by
  refine pi_imp (pi_revR hg hm (prg_1 hg2 hm2 ha hs) hs2) fun σ H Q q => ?_
  obtain ⟨F, R, μ, env, S, xs, g, S', sl, l, e, k⟩ := q
  simp only [mRevR, Option.bind_eq_some_iff] at e
  obtain ⟨⟨w, S1⟩, e1, e2⟩ := e
  refine ⟨F, R, μ, env, S, w, S1, sl, l, e1, fun F1 μ1 v H1 x1 l1 r1 => ?_⟩
  split at e2
  · rename_i j hx
    simp only at hx
    subst hx
    split at e2 <;> simp at e2
    rename_i hz
    unfold Ok at hz
    obtain ⟨rfl, rfl, rfl⟩ := e2
    cases r1
    refine ⟨j, rfl, by omega, by omega, by omega, by omega, ?_⟩
    rw [Int.sub_zero]
    exact k F1 μ1 H1 _ x1 l1 (wd_rev (lim_line (by unfold LIM; omega)))
  · cases e2
end
/-! Sim, part T: l.index(x); a display of three texts' values, read at a text. -/
section
variable {K : PySem.W.Frag} {F R H : Hp} {μ : List Addr} {S : Sto}
/-- one thing more that is left alone -/
theorem lk_addR (l : Lk K F R μ S H) {p : Addr} {o : HO} (hp : H p = none) : Lk K F (upd R p o) μ S (upd H p o) ∧ R p = none := by
  have hF : F p = none := by
    cases e : F p with
    | none => rfl
    | some u => rw [l.le p u e] at hp; cases hp
  have hR : R p = none := by
    cases e : R p with
    | none => rfl
    | some u => rw [(l.fr p u e).1] at hp; cases hp
  refine ⟨⟨fun a u e => ?_, l.len, fun n a xs h1 h2 => ?_, fun a u e => ?_, l.dj⟩, hR⟩
  · rw [upd_ne (by rintro rfl; rw [hF] at e; cases e)]; exact l.le a u e
  · obtain ⟨vs, g1, g2, g3, g4⟩ := l.ob n a xs h1 h2
    exact ⟨vs, by rw [upd_ne (by rintro rfl; rw [hp] at g1; cases g1)]; exact g1, g2, g3, g4⟩
  · by_cases h : a = p
    · subst h
      rw [upd_same] at e ⊢
      refine ⟨e, hF, fun n xs h2 h1 => ?_⟩
      obtain ⟨vs, g1, _⟩ := l.ob n _ xs h1 h2
      rw [hp] at g1; cases g1
    · rw [upd_ne h] at e ⊢
      exact l.fr a u e
/-- it is left to itself again, with whatever stands there -/
theorem lk_dropR {p : Addr} {o u : HO} (l : Lk K F (upd R p o) μ S H) (hR : R p = none) : Lk K F R μ S (upd H p u) ∧ H p = some o := by
  obtain ⟨q1, q2, q3⟩ := l.fr p o upd_same
  refine ⟨⟨fun a v e => ?_, l.len, fun n a xs h1 h2 => ?_, fun a v e => ?_, l.dj⟩, q1⟩
  · rw [upd_ne (by rintro rfl; rw [q2] at e; cases e)]; exact l.le a v e
  · obtain ⟨vs, g1, g2, g3, g4⟩ := l.ob n a xs h1 h2
    exact ⟨vs, by rw [upd_ne (by rintro rfl; exact q3 n xs h2 h1)]; exact g1, g2, g3, g4⟩
  · have ne : a ≠ p := by rintro rfl; rw [hR] at e; cases e
    rw [upd_ne ne]
    exact l.fr a v (by rw [upd_ne ne]; exact e)
/-- it is rewritten -/
theorem lk_putR {p : Addr} {o u : HO} (l : Lk K F (upd R p o) μ S H) (hR : R p = none) : Lk K F (upd R p u) μ S (upd H p u) := by
  obtain ⟨q1, q2, q3⟩ := l.fr p o upd_same
  obtain ⟨l', _⟩ := lk_dropR (u := u) l hR
  refine ⟨l'.le, l'.len, l'.ob, fun a v e => ?_, l'.dj⟩
  by_cases h : a = p
  · subst h
    rw [upd_same] at e ⊢
    exact ⟨e, q2, q3⟩
  · rw [upd_ne h] at e
    exact l'.fr a v e
end
/-! ### l.index(x) -/
def mIndex (o x : ME) : ME := fun env S => (o env S).bind fun p => (getL p.2 p.1).bind fun _ => (x env p.2).bind fun q => (getL q.2 p.1).bind fun ds => (datW q.2 q.1).bind fun d =>
  if SeqAt.shaped (.list ds) && SeqAt.shaped d then (ds.findIdx? fun z => PyData.eqv z d).map fun (j : Nat) => ((W.d (.int (j : Int)), q.2) : W × Sto) else none
section
variable {X : Cx}
theorem se_index {o i : Expr} {mo mi : ME} {apos cpos : Pos} (hu : X.A.units + 65 < cLine) (ho : SimE X o mo) (hi : SimE X i mi)
    (hbase : attributeBase o "index" X.env (eval o X.env) = eval o X.env := by rfl)
    (hfew : ((backTo cpos (starEach [i] X.env)).all (fun x => !x.1) && (backToKw cpos (keywordEach [] X.env)).all (fun x => x.1.isSome)
      && decide ([i].length + ([] : List Keyword).length + (if ([] : List Keyword).isEmpty then 0 else 1) < 30)) = true := by rfl)
    (hline : (apos.endLine == cpos.line) = true := by rfl) (hs : starEach [i] X.env = (false, eval i X.env) :: starEach [] X.env := by rfl) (hplain : (backTo cpos (starEach [] X.env)).any (·.1) = false := by rfl) :
    SimE X (.Call (.Attribute o "index" apos) [i] [] cpos) (mIndex mo mi) := by
  refine pe_imp (pe_bm PySem.F.plainAttrs_list PySem.F.slot_list_index PySem.F.type_list_index (mt_indexD hu) ho (pa_cons hi pa_nil hs) hbase hfew hline hs hplain) fun σ H Q q => ?_
  obtain ⟨F, R, μ, env, S, w, S', sl, l, e, k⟩ := q
  simp only [mIndex, Option.bind_eq_some_iff] at e
  obtain ⟨⟨x, S1⟩, e1, xs0, e0, ⟨y, S2⟩, e2, ds, e3, d, e4, e5⟩ := e
  split at e5 <;> simp only [reduceCtorEq] at e5
  rename_i hs
  rw [Bool.and_eq_true] at hs
  obtain ⟨s1, s2⟩ := hs
  simp only [Option.map_eq_some_iff, Prod.mk.injEq] at e5
  obtain ⟨j, e5, rfl, rfl⟩ := e5
  rw [List.findIdx?_eq_some_iff_getElem] at e5
  obtain ⟨hj, hz, hno⟩ := e5
  refine ⟨F, R, μ, env, S, x, S1, sl, l, e1, fun F1 μ1 v H1 x1 l1 r1 => ?_⟩
  obtain ⟨a0, vs0, ea, g0, _⟩ := lk_getL l1 r1 e0
  subst ea
  refine ⟨.inl ⟨rfl, vs0, SqL.of g0⟩, ?_⟩
  refine ⟨F1, R, μ1, env, S1, y, S2, sl.mono x1, l1, e2, fun F2 μ2 u H2 x2 l2 r2 => ?_⟩
  have dx : datW S2 x = some (.list ds) := by
    cases x with
    | d z => cases z <;> simp [getL] at e3; subst e3; rfl
    | r n =>
      simp only [getL] at e3
      simp only [datW]
      split at e3 <;> simp at e3
      rename_i ys hy
      subst e3
      rfl
  have r1' := r1.mono x2
  have cl : (PyData.list ds).canLay0 = true := SeqAt.canLay_of_shaped s1
  refine ⟨a0, u, d, ds, j, ds[j], rfl, rfl, lk_dat l2 cl r1' dx, lk_dat l2 (SeqAt.canLay_of_shaped s2) r2 e4, s1, s2, List.getElem?_eq_getElem hj, hz, fun m z hm he => ?_, ?_⟩
  · obtain ⟨hml, rfl⟩ := List.getElem?_eq_some_iff.mp he
    have := hno m hm
    simpa using this
  · exact k F2 μ2 _ _ (x1.trans x2) l2 rfl
/-! ### {"a": x, "b": y, "c": z}[word] -/
def mDict3 (k1 : Str) (a : ME) (k2 : Str) (b : ME) (k3 : Str) (c : ME) (i : ME) : ME := fun env S => (a env S).bind fun p => (b env p.2).bind fun q => (c env q.2).bind fun r => (i env r.2).bind fun z => match z.1 with
  | .d (.str s) => if s = k1 then some (p.1, z.2) else if s = k2 then some (q.1, z.2) else if s = k3 then some (r.1, z.2) else none
  | _ => none
theorem se_dict3 {k1 k2 k3 : Str} {a b c i : Expr} {ma mb mc mi : ME} {j1 j2 j3 : Nat} {p1 p2 p3 p4 p5 : Pos} (hu : X.A.units + 65 < cLine) (ha : SimE X a ma) (hb : SimE X b mb) (hc : SimE X c mc) (hi : SimE X i mi)
    (hs : NoSl i) (n12 : k1 ≠ k2) (n13 : k1 ≠ k3) (n23 : k2 ≠ k3) :
    SimE X (.Subscript (.Dict [some (.Constant (.str k1) j1 p1), some (.Constant (.str k2) j2 p2), some (.Constant (.str k3) j3 p3)] [a, b, c] p4) i p5) (mDict3 k1 ma k2 mb k3 mc mi) := by
  refine pe_imp (pe_dget (by omega) (pe_disp (pps_cons pe_str ha (pps_cons pe_str hb (pps_cons pe_str hc pps_nil))) rfl rfl (by simp) (by simp)) hi hs) fun σ H Q q => ?_
  obtain ⟨F, R, μ, env, S, w, S', sl, l, e, k⟩ := q
  simp only [mDict3, Option.bind_eq_some_iff] at e
  obtain ⟨⟨x, S1⟩, e1, ⟨y, S2⟩, e2, ⟨z, S3⟩, e3, ⟨u, S4⟩, e4, e5⟩ := e
  intro p hp
  obtain ⟨l0, hR⟩ := lk_addR (o := .dK []) l hp
  refine ⟨F, upd R p (.dK []), μ, env, S, x, S1, sl, l0, e1, fun F1 μ1 v1 H1 x1 l1 r1 => ?_⟩
  refine ⟨F1, upd R p (.dK []), μ1, env, S1, y, S2, sl.mono x1, l1, e2, fun F2 μ2 v2 H2 x2 l2 r2 => ?_⟩
  refine ⟨F2, upd R p (.dK []), μ2, env, S2, z, S3, (sl.mono x1).mono x2, l2, e3, fun F3 μ3 v3 H3 x3 l3 r3 => ?_⟩
  have kv : mergeK [] [((Sum.inr k1 : Key), v1), (Sum.inr k2, v2), (Sum.inr k3, v3)] = [((Sum.inr k1 : Key), v1), (Sum.inr k2, v2), (Sum.inr k3, v3)] := by
    simp [mergeK, putK, n12, n13, n23]
  refine ⟨(lk_dropR (u := .dK []) l3 hR).2, [((Sum.inr k1 : Key), v1), (Sum.inr k2, v2), (Sum.inr k3, v3)], rfl, by simp, ?_⟩
  rw [kv]
  have l4 := lk_putR (u := .dK [((Sum.inr k1 : Key), v1), (Sum.inr k2, v2), (Sum.inr k3, v3)]) l3 hR
  refine ⟨F3, _, μ3, env, S3, u, S4, ((sl.mono x1).mono x2).mono x3, l4, e4, fun F4 μ4 v4 H4 x4 l5 r4 => ?_⟩
  have hH := (lk_dropR (u := .dK []) l5 hR).2
  have lE : Lk X.K F4 R μ4 S4 H4 := by
    have h := (lk_dropR (u := .dK [((Sum.inr k1 : Key), v1), (Sum.inr k2, v2), (Sum.inr k3, v3)]) l5 hR).1
    have he : upd H4 p (.dK [((Sum.inr k1 : Key), v1), (Sum.inr k2, v2), (Sum.inr k3, v3)]) = H4 := by
      funext t; unfold upd; split
      · rename_i h; rw [h, hH]
      · rfl
    rw [he] at h
    exact h
  have xx := ((x1.trans x2).trans x3).trans x4
  split at e5 <;> simp only [reduceCtorEq] at e5
  rename_i s hu4
  simp only at hu4
  subst hu4
  cases r4
  by_cases c1 : s = k1
  · subst c1
    rw [if_pos rfl] at e5
    simp only [Option.some.injEq, Prod.mk.injEq] at e5
    obtain ⟨rfl, rfl⟩ := e5
    refine ⟨p, v1, rfl, ?_, k F4 μ4 _ _ xx lE (((r1.mono x2).mono x3).mono x4)⟩
    have := DGet.k (k := Sum.inr s) hH
    rwa [valV_pos rfl] at this
  · rw [if_neg c1] at e5
    by_cases c2 : s = k2
    · subst c2
      rw [if_pos rfl] at e5
      simp only [Option.some.injEq, Prod.mk.injEq] at e5
      obtain ⟨rfl, rfl⟩ := e5
      refine ⟨p, v2, rfl, ?_, k F4 μ4 _ _ xx lE ((r2.mono x3).mono x4)⟩
      have := DGet.k (k := Sum.inr s) hH
      rwa [valV_neg (by simp [Ne.symm c1]), valV_pos rfl] at this
    · rw [if_neg c2] at e5
      by_cases c3 : s = k3
      · subst c3
        rw [if_pos rfl] at e5
        simp only [Option.some.injEq, Prod.mk.injEq] at e5
        obtain ⟨rfl, rfl⟩ := e5
        refine ⟨p, v3, rfl, ?_, k F4 μ4 _ _ xx lE (r3.mono x4)⟩
        have := DGet.k (k := Sum.inr s) hH
        rwa [valV_neg (by simp [Ne.symm c1]), valV_neg (by simp [Ne.symm c2]), valV_pos rfl] at this
      · rw [if_neg c3] at e5; cases e5
end
noncomputable def sh_L_draw_s1 : MS :=
  (mIfS (mB (mBin eqW (mBin modW (mVar 3) (mC (.int 12))) (mC (.int 0)))) (mSetIx (mVar 0) (mC (.int 2)) (mBin ixW (mVar 2) (mBin addW (mBin fdivW (mVar 3) (mC (.int 12))) (mC (.int 1))))) mSkip)
theorem sh_L_draw_s1_e (env : Sl) (S : Sto) : sh_L_draw_s1 env S = (mIfS (mB (mBin eqW (mBin modW (mVar 3) (mC (.int 12))) (mC (.int 0)))) (mSetIx (mVar 0) (mC (.int 2)) (mBin ixW (mVar 2) (mBin addW (mBin fdivW (mVar 3) (mC (.int 12))) (mC (.int 1))))) mSkip) env S := id rfl
noncomputable def sh_L_draw_s2 : MS :=
  (mAsg 4 (mBin modW (mBin ixW (mVar 0) (mC (.int 2))) (mVar 1)))
theorem sh_L_draw_s2_e (env : Sl) (S : Sto) : sh_L_draw_s2 env S = (mAsg 4 (mBin modW (mBin ixW (mVar 0) (mC (.int 2))) (mVar 1))) env S := id rfl
noncomputable def sh_L_draw_s3 : MS :=
  (mSetIx (mVar 0) (mC (.int 2)) (mBin fdivW (mBin ixW (mVar 0) (mC (.int 2))) (mVar 1)))
theorem sh_L_draw_s3_e (env : Sl) (S : Sto) : sh_L_draw_s3 env S = (mSetIx (mVar 0) (mC (.int 2)) (mBin fdivW (mBin ixW (mVar 0) (mC (.int 2))) (mVar 1))) env S := id rfl
noncomputable def sh_L_draw_s4 : MS :=
  (mRet (mVar 4))
theorem sh_L_draw_s4_e (env : Sl) (S : Sto) : sh_L_draw_s4 env S = (mRet (mVar 4)) env S := id rfl
noncomputable def sh_L_draw_s5 : MS :=
  (mAsgL [2, 3] (mSl (mVar 0) oNone (oSome (mC (.int 2)))))
theorem sh_L_draw_s5_e (env : Sl) (S : Sto) : sh_L_draw_s5 env S = (mAsgL [2, 3] (mSl (mVar 0) oNone (oSome (mC (.int 2))))) env S := id rfl
noncomputable def sh_L_draw_s6 : MS :=
  (mSetIx (mVar 0) (mC (.int 1)) (mBin addW (mVar 3) (mC (.int 1))))
theorem sh_L_draw_s6_e (env : Sl) (S : Sto) : sh_L_draw_s6 env S = (mSetIx (mVar 0) (mC (.int 1)) (mBin addW (mVar 3) (mC (.int 1)))) env S := id rfl
noncomputable def sh_L_draw_s7 : MS :=
  (mIfS (mAnd (mB (mBin ltW (mBin addW (mBin fdivW (mVar 3) (mC (.int 12))) (mC (.int 1))) (mBi lenW (mCons (mVar 2) mNil)))) (mB (mBin eqW (mBin modW (mBin ixW (mVar 2) (mC (.int 0))) (mC (.int 2))) (mC (.int 1))))) (mSeq sh_L_draw_s1
  (mSeq sh_L_draw_s2
  (mSeq sh_L_draw_s3
  sh_L_draw_s4))) mSkip)
theorem sh_L_draw_s7_e (env : Sl) (S : Sto) : sh_L_draw_s7 env S = (mIfS (mAnd (mB (mBin ltW (mBin addW (mBin fdivW (mVar 3) (mC (.int 12))) (mC (.int 1))) (mBi lenW (mCons (mVar 2) mNil)))) (mB (mBin eqW (mBin modW (mBin ixW (mVar 2) (mC (.int 0))) (mC (.int 2))) (mC (.int 1))))) (mSeq sh_L_draw_s1
  (mSeq sh_L_draw_s2
  (mSeq sh_L_draw_s3
  sh_L_draw_s4))) mSkip) env S := id rfl
noncomputable def sh_L_draw_s8 : MS :=
  (mIfS (mB (mBin ltW (mVar 3) (mBi lenW (mCons (mVar 2) mNil)))) (mRet (mBin modW (mBin ixW (mVar 2) (mVar 3)) (mVar 1))) mSkip)
theorem sh_L_draw_s8_e (env : Sl) (S : Sto) : sh_L_draw_s8 env S = (mIfS (mB (mBin ltW (mVar 3) (mBi lenW (mCons (mVar 2) mNil)))) (mRet (mBin modW (mBin ixW (mVar 2) (mVar 3)) (mVar 1))) mSkip) env S := id rfl
noncomputable def sh_L_draw_s9 : MS :=
  (mAsg 5 (mBin addW (mBin mulW (mVar 3) (mC (.int 7919))) (mC (.int 5))))
theorem sh_L_draw_s9_e (env : Sl) (S : Sto) : sh_L_draw_s9 env S = (mAsg 5 (mBin addW (mBin mulW (mVar 3) (mC (.int 7919))) (mC (.int 5)))) env S := id rfl
noncomputable def sh_L_draw_s10 : MS :=
  (mIfS (mB (mBin gtW (mBi lenW (mCons (mBin ixW (mVar 0) (mC (.int 0))) mNil)) (mC (.int 0)))) (mAsg 5 (mBin addW (mVar 5) (mBin mulW (mBin ixW (mBin ixW (mVar 0) (mC (.int 0))) (mBin modW (mBin mulW (mVar 3) (mC (.int 7))) (mBi lenW (mCons (mBin ixW (mVar 0) (mC (.int 0))) mNil)))) (mBin addW (mC (.int 48271)) (mVar 3))))) mSkip)
theorem sh_L_draw_s10_e (env : Sl) (S : Sto) : sh_L_draw_s10 env S = (mIfS (mB (mBin gtW (mBi lenW (mCons (mBin ixW (mVar 0) (mC (.int 0))) mNil)) (mC (.int 0)))) (mAsg 5 (mBin addW (mVar 5) (mBin mulW (mBin ixW (mBin ixW (mVar 0) (mC (.int 0))) (mBin modW (mBin mulW (mVar 3) (mC (.int 7))) (mBi lenW (mCons (mBin ixW (mVar 0) (mC (.int 0))) mNil)))) (mBin addW (mC (.int 48271)) (mVar 3))))) mSkip) env S := id rfl
noncomputable def sh_L_draw_s11 : MS :=
  (mAsg 5 (mBin modW (mBin mulW (mBin modW (mVar 5) (mC (.int 2147483629))) (mBin addW (mVar 3) (mC (.int 3)))) (mC (.int 2147483629))))
theorem sh_L_draw_s11_e (env : Sl) (S : Sto) : sh_L_draw_s11 env S = (mAsg 5 (mBin modW (mBin mulW (mBin modW (mVar 5) (mC (.int 2147483629))) (mBin addW (mVar 3) (mC (.int 3)))) (mC (.int 2147483629)))) env S := id rfl
noncomputable def sh_L_draw_s12 : MS :=
  (mAsg 5 (mBin modW (mBin mulW (mVar 5) (mVar 5)) (mC (.int 2147483587))))
theorem sh_L_draw_s12_e (env : Sl) (S : Sto) : sh_L_draw_s12 env S = (mAsg 5 (mBin modW (mBin mulW (mVar 5) (mVar 5)) (mC (.int 2147483587)))) env S := id rfl
noncomputable def sh_L_draw_s13 : MS :=
  (mRet (mBin modW (mBin modW (mBin mulW (mVar 5) (mVar 5)) (mC (.int 1999999973))) (mVar 1)))
theorem sh_L_draw_s13_e (env : Sl) (S : Sto) : sh_L_draw_s13 env S = (mRet (mBin modW (mBin modW (mBin mulW (mVar 5) (mVar 5)) (mC (.int 1999999973))) (mVar 1))) env S := id rfl
noncomputable def sh_L_draw : MF := mDef 6
  (mSeq sh_L_draw_s5
  (mSeq sh_L_draw_s6
  (mSeq sh_L_draw_s7
  (mSeq sh_L_draw_s8
  (mSeq sh_L_draw_s9
  (mSeq sh_L_draw_s10
  (mSeq sh_L_draw_s11
  (mSeq sh_L_draw_s12
  sh_L_draw_s13))))))))
noncomputable def sh_L_width : MF := mDef 1
  (mRet (mBin ixW (mLst (mCons (mC (.int 1)) (mCons (mC (.int 64)) (mCons (mBin addW (mC (.int 1)) (mCall sh_L_draw (mCons (mVar 0) (mCons (mC (.int 8)) mNil)))) (mCons (mBin addW (mC (.int 1)) (mCall sh_L_draw (mCons (mVar 0) (mCons (mC (.int 64)) mNil)))) mNil))))) (mCall sh_L_draw (mCons (mVar 0) (mCons (mC (.int 4)) mNil)))))
noncomputable def sh_L_number : MF := mDef 2
  (mSeq (mIfS (mB (mBin ltW (mVar 1) (mC (.int 31)))) (mRet (mCall sh_L_draw (mCons (mVar 0) (mCons (mBin shlW (mC (.int 1)) (mVar 1)) mNil)))) mSkip)
  (mRet (mBin addW (mCall sh_L_draw (mCons (mVar 0) (mCons (mBin shlW (mC (.int 1)) (mC (.int 30))) mNil))) (mBin shlW (mCall sh_L_draw (mCons (mVar 0) (mCons (mBin shlW (mC (.int 1)) (mBin subW (mVar 1) (mC (.int 30)))) mNil))) (mC (.int 30))))))
noncomputable def sh_L_num_s1 : MS :=
  (mAsg 2 (mCall sh_L_draw (mCons (mVar 0) (mCons (mC (.int 5)) mNil))))
theorem sh_L_num_s1_e (env : Sl) (S : Sto) : sh_L_num_s1 env S = (mAsg 2 (mCall sh_L_draw (mCons (mVar 0) (mCons (mC (.int 5)) mNil)))) env S := id rfl
noncomputable def sh_L_num_s2 : MS :=
  (mAsg 3 (mLst (mCons (mC (.int 0)) (mCons (mBin subW (mBin shlW (mC (.int 1)) (mVar 1)) (mC (.int 1))) (mCons (mBin shlW (mC (.int 1)) (mCall sh_L_draw (mCons (mVar 0) (mCons (mVar 1) mNil)))) (mCons (mBin subW (mBin shlW (mC (.int 1)) (mCall sh_L_draw (mCons (mVar 0) (mCons (mVar 1) mNil)))) (mC (.int 1))) mNil))))))
theorem sh_L_num_s2_e (env : Sl) (S : Sto) : sh_L_num_s2 env S = (mAsg 3 (mLst (mCons (mC (.int 0)) (mCons (mBin subW (mBin shlW (mC (.int 1)) (mVar 1)) (mC (.int 1))) (mCons (mBin shlW (mC (.int 1)) (mCall sh_L_draw (mCons (mVar 0) (mCons (mVar 1) mNil)))) (mCons (mBin subW (mBin shlW (mC (.int 1)) (mCall sh_L_draw (mCons (mVar 0) (mCons (mVar 1) mNil)))) (mC (.int 1))) mNil)))))) env S := id rfl
noncomputable def sh_L_num_s3 : MS :=
  (mIfS (mB (mBin ltW (mVar 2) (mC (.int 4)))) (mRet (mBin ixW (mVar 3) (mVar 2))) mSkip)
theorem sh_L_num_s3_e (env : Sl) (S : Sto) : sh_L_num_s3 env S = (mIfS (mB (mBin ltW (mVar 2) (mC (.int 4)))) (mRet (mBin ixW (mVar 3) (mVar 2))) mSkip) env S := id rfl
noncomputable def sh_L_num_s4 : MS :=
  (mRet (mCall sh_L_number (mCons (mVar 0) (mCons (mVar 1) mNil))))
theorem sh_L_num_s4_e (env : Sl) (S : Sto) : sh_L_num_s4 env S = (mRet (mCall sh_L_number (mCons (mVar 0) (mCons (mVar 1) mNil)))) env S := id rfl
noncomputable def sh_L_num : MF := mDef 4
  (mSeq sh_L_num_s1
  (mSeq sh_L_num_s2
  (mSeq sh_L_num_s3
  sh_L_num_s4)))
noncomputable def sh_L_top_run_c1 : MT :=
  (mAnd (mB (mBin ltW (mVar 2) (mVar 1))) (mB (mBin eqW (mBin andW (mBin shrW (mVar 0) (mBin subW (mBin subW (mVar 1) (mC (.int 1))) (mVar 2))) (mC (.int 1))) (mC (.int 1)))))
theorem sh_L_top_run_c1_e (env : Sl) (S : Sto) : sh_L_top_run_c1 env S = (mAnd (mB (mBin ltW (mVar 2) (mVar 1))) (mB (mBin eqW (mBin andW (mBin shrW (mVar 0) (mBin subW (mBin subW (mVar 1) (mC (.int 1))) (mVar 2))) (mC (.int 1))) (mC (.int 1))))) env S := id rfl
noncomputable def sh_L_top_run_w1 : MS :=
  (mAsg 2 (mBin addW (mVar 2) (mC (.int 1))))
theorem sh_L_top_run_w1_e (env : Sl) (S : Sto) : sh_L_top_run_w1 env S = (mAsg 2 (mBin addW (mVar 2) (mC (.int 1)))) env S := id rfl
noncomputable def sh_L_top_run : MF := mDef 3
  (mSeq (mAsg 2 (mC (.int 0)))
  (mSeq (mWhile sh_L_top_run_c1 sh_L_top_run_w1)
  (mRet (mVar 2))))
noncomputable def sh_L_alike : MF := mDef 2
  (mRet (mBi maxW (mCons (mCall sh_L_top_run (mCons (mVar 0) (mCons (mVar 1) mNil))) (mCons (mCall sh_L_top_run (mCons (mBin subW (mBin subW (mBin shlW (mC (.int 1)) (mVar 1)) (mC (.int 1))) (mVar 0)) (mCons (mVar 1) mNil))) mNil))))
noncomputable def sh_L_fact_s1 : MS :=
  (mAsg 2 (mCall sh_L_num (mCons (mVar 0) (mCons (mVar 1) mNil))))
theorem sh_L_fact_s1_e (env : Sl) (S : Sto) : sh_L_fact_s1 env S = (mAsg 2 (mCall sh_L_num (mCons (mVar 0) (mCons (mVar 1) mNil)))) env S := id rfl
noncomputable def sh_L_fact_s2 : MS :=
  (mAsg 3 (mCall sh_L_num (mCons (mVar 0) (mCons (mVar 1) mNil))))
theorem sh_L_fact_s2_e (env : Sl) (S : Sto) : sh_L_fact_s2 env S = (mAsg 3 (mCall sh_L_num (mCons (mVar 0) (mCons (mVar 1) mNil)))) env S := id rfl
noncomputable def sh_L_fact_s3 : MS :=
  (mIfS (mB (mBin eqW (mCall sh_L_draw (mCons (mVar 0) (mCons (mC (.int 3)) mNil))) (mC (.int 0)))) (mAsg 3 (mBin xorW (mBin subW (mBin shlW (mC (.int 1)) (mVar 1)) (mC (.int 1))) (mVar 3))) mSkip)
theorem sh_L_fact_s3_e (env : Sl) (S : Sto) : sh_L_fact_s3 env S = (mIfS (mB (mBin eqW (mCall sh_L_draw (mCons (mVar 0) (mCons (mC (.int 3)) mNil))) (mC (.int 0)))) (mAsg 3 (mBin xorW (mBin subW (mBin shlW (mC (.int 1)) (mVar 1)) (mC (.int 1))) (mVar 3))) mSkip) env S := id rfl
noncomputable def sh_L_fact_s4 : MS :=
  (mAsg 4 (mBin addW (mC (.int 1)) (mBin ixW (mLst (mCons (mC (.int 0)) (mCons (mCall sh_L_draw (mCons (mVar 0) (mCons (mCall sh_L_alike (mCons (mVar 2) (mCons (mVar 1) mNil))) mNil))) mNil))) (mCall sh_L_draw (mCons (mVar 0) (mCons (mC (.int 2)) mNil))))))
theorem sh_L_fact_s4_e (env : Sl) (S : Sto) : sh_L_fact_s4 env S = (mAsg 4 (mBin addW (mC (.int 1)) (mBin ixW (mLst (mCons (mC (.int 0)) (mCons (mCall sh_L_draw (mCons (mVar 0) (mCons (mCall sh_L_alike (mCons (mVar 2) (mCons (mVar 1) mNil))) mNil))) mNil))) (mCall sh_L_draw (mCons (mVar 0) (mCons (mC (.int 2)) mNil)))))) env S := id rfl
noncomputable def sh_L_fact_s5 : MS :=
  (mRet (mTup (mCons (mBin subW (mVar 3) (mBin andW (mVar 2) (mVar 3))) (mCons (mBin andW (mVar 2) (mVar 3)) (mCons (mVar 4) (mCons (mVar 2) mNil))))))
theorem sh_L_fact_s5_e (env : Sl) (S : Sto) : sh_L_fact_s5 env S = (mRet (mTup (mCons (mBin subW (mVar 3) (mBin andW (mVar 2) (mVar 3))) (mCons (mBin andW (mVar 2) (mVar 3)) (mCons (mVar 4) (mCons (mVar 2) mNil)))))) env S := id rfl
noncomputable def sh_L_fact : MF := mDef 5
  (mSeq sh_L_fact_s1
  (mSeq sh_L_fact_s2
  (mSeq sh_L_fact_s3
  (mSeq sh_L_fact_s4
  sh_L_fact_s5))))
noncomputable def sh_L_near_s1 : MS :=
  (mAsg 4 (mBin subW (mBin shlW (mC (.int 1)) (mVar 2)) (mC (.int 1))))
theorem sh_L_near_s1_e (env : Sl) (S : Sto) : sh_L_near_s1 env S = (mAsg 4 (mBin subW (mBin shlW (mC (.int 1)) (mVar 2)) (mC (.int 1)))) env S := id rfl
noncomputable def sh_L_near_s2 : MS :=
  (mAsg 5 (mBin subW (mVar 4) (mBin ixW (mVar 3) (mC (.int 0)))))
theorem sh_L_near_s2_e (env : Sl) (S : Sto) : sh_L_near_s2 env S = (mAsg 5 (mBin subW (mVar 4) (mBin ixW (mVar 3) (mC (.int 0))))) env S := id rfl
noncomputable def sh_L_near_s3 : MS :=
  (mAsg 6 (mBin addW (mDict3 "add" (mBin subW (mVar 4) (mVar 5)) "sub" (mBin ixW (mVar 3) (mC (.int 1))) "mul" (mBin fdivW (mVar 4) (mBi maxW (mCons (mC (.int 1)) (mCons (mVar 5) mNil)))) (mVar 1)) (mCall sh_L_draw (mCons (mVar 0) (mCons (mC (.int 2)) mNil)))))
theorem sh_L_near_s3_e (env : Sl) (S : Sto) : sh_L_near_s3 env S = (mAsg 6 (mBin addW (mDict3 "add" (mBin subW (mVar 4) (mVar 5)) "sub" (mBin ixW (mVar 3) (mC (.int 1))) "mul" (mBin fdivW (mVar 4) (mBi maxW (mCons (mC (.int 1)) (mCons (mVar 5) mNil)))) (mVar 1)) (mCall sh_L_draw (mCons (mVar 0) (mCons (mC (.int 2)) mNil))))) env S := id rfl
noncomputable def sh_L_near_s4 : MS :=
  (mAsg 6 (mBi minW (mCons (mVar 4) (mCons (mVar 6) mNil))))
theorem sh_L_near_s4_e (env : Sl) (S : Sto) : sh_L_near_s4 env S = (mAsg 6 (mBi minW (mCons (mVar 4) (mCons (mVar 6) mNil)))) env S := id rfl
noncomputable def sh_L_near_s5 : MS :=
  (mRet (mTup (mCons (mBin subW (mVar 4) (mVar 6)) (mCons (mBin andW (mCall sh_L_num (mCons (mVar 0) (mCons (mVar 2) mNil))) (mVar 6)) (mCons (mC (.int 1)) mNil)))))
theorem sh_L_near_s5_e (env : Sl) (S : Sto) : sh_L_near_s5 env S = (mRet (mTup (mCons (mBin subW (mVar 4) (mVar 6)) (mCons (mBin andW (mCall sh_L_num (mCons (mVar 0) (mCons (mVar 2) mNil))) (mVar 6)) (mCons (mC (.int 1)) mNil))))) env S := id rfl
noncomputable def sh_L_near : MF := mDef 7
  (mSeq sh_L_near_s1
  (mSeq sh_L_near_s2
  (mSeq sh_L_near_s3
  (mSeq sh_L_near_s4
  sh_L_near_s5))))
noncomputable def sh_bits_full : MF := mDef 1
  (mRet (mBin subW (mBin shlW (mC (.int 1)) (mVar 0)) (mC (.int 1))))
noncomputable def sh_bits_top_run_c1 : MT :=
  (mAnd (mB (mBin ltW (mVar 2) (mVar 1))) (mB (mBin eqW (mBin andW (mBin shrW (mVar 0) (mBin subW (mBin subW (mVar 1) (mC (.int 1))) (mVar 2))) (mC (.int 1))) (mC (.int 1)))))
theorem sh_bits_top_run_c1_e (env : Sl) (S : Sto) : sh_bits_top_run_c1 env S = (mAnd (mB (mBin ltW (mVar 2) (mVar 1))) (mB (mBin eqW (mBin andW (mBin shrW (mVar 0) (mBin subW (mBin subW (mVar 1) (mC (.int 1))) (mVar 2))) (mC (.int 1))) (mC (.int 1))))) env S := id rfl
noncomputable def sh_bits_top_run_w1 : MS :=
  (mAug 2 (intOp fun i j => some (i + j)) (mC (.int 1)))
theorem sh_bits_top_run_w1_e (env : Sl) (S : Sto) : sh_bits_top_run_w1 env S = (mAug 2 (intOp fun i j => some (i + j)) (mC (.int 1))) env S := id rfl
noncomputable def sh_bits_top_run : MF := mDef 3
  (mSeq (mAsg 2 (mC (.int 0)))
  (mSeq (mWhile sh_bits_top_run_c1 sh_bits_top_run_w1)
  (mRet (mVar 2))))
noncomputable def sh_facts_closed : MF := mDef 6
  (mSeq (mAsgT [2, 3, 4] (mVar 0))
  (mSeq (mAsg 5 (mBin subW (mCall sh_bits_full (mCons (mVar 1) mNil)) (mCall sh_bits_full (mCons (mBin subW (mVar 1) (mVar 4)) mNil))))
  (mSeq (mIfS (mB (mBin neW (mBin andW (mVar 2) (mVar 5)) (mC (.int 0)))) (mAsg 2 (mBin orW (mVar 2) (mVar 5))) mSkip)
  (mSeq (mIfS (mB (mBin neW (mBin andW (mVar 3) (mVar 5)) (mC (.int 0)))) (mAsg 3 (mBin orW (mVar 3) (mVar 5))) mSkip)
  (mRet (mTup (mCons (mVar 2) (mCons (mVar 3) (mCons (mBi max3W (mCons (mVar 4) (mCons (mCall sh_bits_top_run (mCons (mVar 2) (mCons (mVar 1) mNil))) (mCons (mCall sh_bits_top_run (mCons (mVar 3) (mCons (mVar 1) mNil))) mNil)))) mNil)))))))))
noncomputable def sh_rules_truth : MF := mDef 1
  (mSeq (mIfS (mB (mBin isW (mVar 0) (mC .none))) (mRet (mTup (mCons (mC (.int 0)) (mCons (mC (.int 0)) (mCons (mC (.int 1)) mNil))))) mSkip)
  (mRet (mTup (mCons (mBin subW (mC (.int 1)) (mVar 0)) (mCons (mVar 0) (mCons (mC (.int 1)) mNil))))))
noncomputable def sh_rules_bitwise : MF := mDef 4
  (mSeq (mAsg 3 (mBi minW (mCons (mBin ixW (mVar 1) (mC (.int 2))) (mCons (mBin ixW (mVar 2) (mC (.int 2))) mNil))))
  (mSeq (mIfS (mB (mBin eqW (mVar 0) (mC (.str "and")))) (mRet (mTup (mCons (mBin orW (mBin ixW (mVar 1) (mC (.int 0))) (mBin ixW (mVar 2) (mC (.int 0)))) (mCons (mBin andW (mBin ixW (mVar 1) (mC (.int 1))) (mBin ixW (mVar 2) (mC (.int 1)))) (mCons (mVar 3) mNil))))) mSkip)
  (mSeq (mIfS (mB (mBin eqW (mVar 0) (mC (.str "or")))) (mRet (mTup (mCons (mBin andW (mBin ixW (mVar 1) (mC (.int 0))) (mBin ixW (mVar 2) (mC (.int 0)))) (mCons (mBin orW (mBin ixW (mVar 1) (mC (.int 1))) (mBin ixW (mVar 2) (mC (.int 1)))) (mCons (mVar 3) mNil))))) mSkip)
  (mRet (mTup (mCons (mBin orW (mBin andW (mBin ixW (mVar 1) (mC (.int 0))) (mBin ixW (mVar 2) (mC (.int 0)))) (mBin andW (mBin ixW (mVar 1) (mC (.int 1))) (mBin ixW (mVar 2) (mC (.int 1))))) (mCons (mBin orW (mBin andW (mBin ixW (mVar 1) (mC (.int 0))) (mBin ixW (mVar 2) (mC (.int 1)))) (mBin andW (mBin ixW (mVar 1) (mC (.int 1))) (mBin ixW (mVar 2) (mC (.int 0))))) (mCons (mVar 3) mNil))))))))
noncomputable def sh_bits_low_run_c1 : MT :=
  (mB (mBin eqW (mBin andW (mVar 0) (mC (.int 1))) (mC (.int 1))))
theorem sh_bits_low_run_c1_e (env : Sl) (S : Sto) : sh_bits_low_run_c1 env S = (mB (mBin eqW (mBin andW (mVar 0) (mC (.int 1))) (mC (.int 1)))) env S := id rfl
noncomputable def sh_bits_low_run_w1 : MS :=
  (mSeq (mAug 1 (intOp fun i j => some (i + j)) (mC (.int 1)))
  (mAsg 0 (mBin shrW (mVar 0) (mC (.int 1)))))
theorem sh_bits_low_run_w1_e (env : Sl) (S : Sto) : sh_bits_low_run_w1 env S = (mSeq (mAug 1 (intOp fun i j => some (i + j)) (mC (.int 1)))
  (mAsg 0 (mBin shrW (mVar 0) (mC (.int 1))))) env S := id rfl
noncomputable def sh_bits_low_run : MF := mDef 2
  (mSeq (mAsg 1 (mC (.int 0)))
  (mSeq (mWhile sh_bits_low_run_c1 sh_bits_low_run_w1)
  (mRet (mVar 1))))
noncomputable def sh_sums_reckoned : MF := mDef 3
  (mSeq (mIfS (mB (mBin eqW (mVar 0) (mC (.str "add")))) (mRet (mBin addW (mVar 1) (mVar 2))) mSkip)
  (mSeq (mIfS (mB (mBin eqW (mVar 0) (mC (.str "sub")))) (mRet (mBin subW (mVar 1) (mVar 2))) mSkip)
  (mRet (mBin mulW (mVar 1) (mVar 2)))))
noncomputable def sh_facts_least : MF := mDef 1
  (mRet (mBin ixW (mVar 0) (mC (.int 1))))
noncomputable def sh_sums_low_bits : MF := mDef 5
  (mSeq (mAsg 3 (mCall sh_bits_full (mCons (mCall sh_bits_low_run (mCons (mBin andW (mBin orW (mBin ixW (mVar 1) (mC (.int 0))) (mBin ixW (mVar 1) (mC (.int 1)))) (mBin orW (mBin ixW (mVar 2) (mC (.int 0))) (mBin ixW (mVar 2) (mC (.int 1))))) mNil)) mNil)))
  (mSeq (mAsg 4 (mBin andW (mCall sh_sums_reckoned (mCons (mVar 0) (mCons (mCall sh_facts_least (mCons (mVar 1) mNil)) (mCons (mCall sh_facts_least (mCons (mVar 2) mNil)) mNil)))) (mVar 3)))
  (mRet (mTup (mCons (mBin subW (mVar 3) (mVar 4)) (mCons (mVar 4) mNil))))))
noncomputable def sh_facts_greatest : MF := mDef 2
  (mRet (mBin subW (mCall sh_bits_full (mCons (mVar 1) mNil)) (mBin ixW (mVar 0) (mC (.int 0)))))
noncomputable def sh_sums_ends : MF := mDef 6
  (mSeq (mPar 4 5 (mCall sh_facts_least (mCons (mVar 2) mNil)) (mCall sh_facts_greatest (mCons (mVar 2) (mCons (mVar 3) mNil))))
  (mSeq (mIfS (mB (mBin eqW (mVar 0) (mC (.str "sub")))) (mPar 4 5 (mVar 5) (mVar 4)) mSkip)
  (mRet (mTup (mCons (mCall sh_sums_reckoned (mCons (mVar 0) (mCons (mCall sh_facts_least (mCons (mVar 1) mNil)) (mCons (mVar 4) mNil)))) (mCons (mCall sh_sums_reckoned (mCons (mVar 0) (mCons (mCall sh_facts_greatest (mCons (mVar 1) (mCons (mVar 3) mNil))) (mCons (mVar 5) mNil)))) mNil))))))
noncomputable def sh_bits_reach_c1 : MT :=
  (mB (mBin gtW (mVar 0) (mC (.int 0))))
theorem sh_bits_reach_c1_e (env : Sl) (S : Sto) : sh_bits_reach_c1 env S = (mB (mBin gtW (mVar 0) (mC (.int 0)))) env S := id rfl
noncomputable def sh_bits_reach_w1 : MS :=
  (mSeq (mAug 1 (intOp fun i j => some (i + j)) (mC (.int 1)))
  (mAsg 0 (mBin shrW (mVar 0) (mC (.int 1)))))
theorem sh_bits_reach_w1_e (env : Sl) (S : Sto) : sh_bits_reach_w1 env S = (mSeq (mAug 1 (intOp fun i j => some (i + j)) (mC (.int 1)))
  (mAsg 0 (mBin shrW (mVar 0) (mC (.int 1))))) env S := id rfl
noncomputable def sh_bits_reach : MF := mDef 2
  (mSeq (mAsg 1 (mC (.int 0)))
  (mSeq (mWhile sh_bits_reach_c1 sh_bits_reach_w1)
  (mRet (mVar 1))))
noncomputable def sh_bits_below : MF := mDef 1
  (mRet (mCall sh_bits_full (mCons (mCall sh_bits_reach (mCons (mVar 0) mNil)) mNil)))
noncomputable def sh_bits_shared_top : MF := mDef 5
  (mSeq (mAsg 3 (mBin subW (mCall sh_bits_full (mCons (mVar 2) mNil)) (mCall sh_bits_below (mCons (mBin xorW (mVar 0) (mVar 1)) mNil))))
  (mSeq (mAsg 4 (mBin andW (mVar 3) (mVar 0)))
  (mRet (mTup (mCons (mBin subW (mVar 3) (mVar 4)) (mCons (mVar 4) mNil))))))
noncomputable def sh_sums_top_bits : MF := mDef 6
  (mSeq (mAsgT [4, 5] (mCall sh_sums_ends (mCons (mVar 0) (mCons (mVar 1) (mCons (mVar 2) (mCons (mVar 3) mNil))))))
  (mSeq (mIfS (mOr (mB (mBin ltW (mVar 4) (mC (.int 0)))) (mB (mBin gtW (mVar 5) (mCall sh_bits_full (mCons (mVar 3) mNil))))) (mRet (mTup (mCons (mC (.int 0)) (mCons (mC (.int 0)) mNil)))) mSkip)
  (mRet (mCall sh_bits_shared_top (mCons (mVar 4) (mCons (mVar 5) (mCons (mVar 3) mNil)))))))
noncomputable def sh_sums_low_noughts : MF := mDef 4
  (mSeq (mIfS (mB (mBin neW (mVar 0) (mC (.str "mul")))) (mRet (mC (.int 0))) mSkip)
  (mRet (mCall sh_bits_full (mCons (mBi minW (mCons (mVar 3) (mCons (mBin addW (mCall sh_bits_low_run (mCons (mBin ixW (mVar 1) (mC (.int 0))) mNil)) (mCall sh_bits_low_run (mCons (mBin ixW (mVar 2) (mC (.int 0))) mNil))) mNil))) mNil))))
noncomputable def sh_sums_alike_of_sum : MF := mDef 3
  (mSeq (mIfS (mB (mBin eqW (mVar 0) (mC (.str "mul")))) (mRet (mC (.int 1))) mSkip)
  (mRet (mBi maxW (mCons (mC (.int 1)) (mCons (mBin subW (mBi minW (mCons (mBin ixW (mVar 1) (mC (.int 2))) (mCons (mBin ixW (mVar 2) (mC (.int 2))) mNil))) (mC (.int 1))) mNil)))))
noncomputable def sh_sums_sum_fact : MF := mDef 7
  (mSeq (mAsg 4 (mCall sh_sums_low_bits (mCons (mVar 0) (mCons (mVar 1) (mCons (mVar 2) mNil)))))
  (mSeq (mAsg 5 (mCall sh_sums_top_bits (mCons (mVar 0) (mCons (mVar 1) (mCons (mVar 2) (mCons (mVar 3) mNil))))))
  (mSeq (mAsg 6 (mBin orW (mBin orW (mBin ixW (mVar 4) (mC (.int 0))) (mBin ixW (mVar 5) (mC (.int 0)))) (mCall sh_sums_low_noughts (mCons (mVar 0) (mCons (mVar 1) (mCons (mVar 2) (mCons (mVar 3) mNil)))))))
  (mRet (mTup (mCons (mVar 6) (mCons (mBin orW (mBin ixW (mVar 4) (mC (.int 1))) (mBin ixW (mVar 5) (mC (.int 1)))) (mCons (mCall sh_sums_alike_of_sum (mCons (mVar 0) (mCons (mVar 1) (mCons (mVar 2) mNil)))) mNil))))))))
noncomputable def sh_bits_stretched : MF := mDef 3
  (mSeq (mIfS (mB (mBin eqW (mBin andW (mBin shrW (mVar 0) (mBin subW (mVar 1) (mC (.int 1)))) (mC (.int 1))) (mC (.int 1)))) (mRet (mBin subW (mBin addW (mVar 0) (mCall sh_bits_full (mCons (mVar 2) mNil))) (mCall sh_bits_full (mCons (mVar 1) mNil)))) mSkip)
  (mRet (mVar 0)))
noncomputable def sh_rules_shifted : MF := mDef 8
  (mSeq (mAsgT [3, 4, 5] (mVar 2))
  (mSeq (mAsg 6 (mBin ixW (mVar 0) (mC (.int 3))))
  (mSeq (mIfS (mB (mBin eqW (mBin ixW (mVar 0) (mC (.int 0))) (mC (.str "left")))) (mRet (mTup (mCons (mBin andW (mBin orW (mBin shlW (mVar 3) (mVar 6)) (mCall sh_bits_full (mCons (mVar 6) mNil))) (mCall sh_bits_full (mCons (mVar 1) mNil))) (mCons (mBin andW (mBin shlW (mVar 4) (mVar 6)) (mCall sh_bits_full (mCons (mVar 1) mNil))) (mCons (mBi maxW (mCons (mC (.int 1)) (mCons (mBin subW (mVar 5) (mVar 6)) mNil))) mNil))))) mSkip)
  (mSeq (mIfS (mB (mBin eqW (mBin ixW (mVar 0) (mC (.int 0))) (mC (.str "slide")))) (mSeq (mAsg 7 (mBin addW (mVar 1) (mVar 6)))
  (mRet (mTup (mCons (mBin shrW (mCall sh_bits_stretched (mCons (mVar 3) (mCons (mVar 1) (mCons (mVar 7) mNil)))) (mVar 6)) (mCons (mBin shrW (mCall sh_bits_stretched (mCons (mVar 4) (mCons (mVar 1) (mCons (mVar 7) mNil)))) (mVar 6)) (mCons (mBi minW (mCons (mVar 1) (mCons (mBin addW (mVar 5) (mVar 6)) mNil))) mNil)))))) mSkip)
  (mSeq (mIfS (mB (mBin eqW (mVar 6) (mC (.int 0)))) (mRet (mVar 2)) mSkip)
  (mRet (mTup (mCons (mBin orW (mBin shrW (mVar 3) (mVar 6)) (mBin subW (mCall sh_bits_full (mCons (mVar 1) mNil)) (mCall sh_bits_full (mCons (mBi maxW (mCons (mC (.int 0)) (mCons (mBin subW (mVar 1) (mVar 6)) mNil))) mNil)))) (mCons (mBin shrW (mVar 4) (mVar 6)) (mCons (mC (.int 1)) mNil))))))))))
noncomputable def sh_rules_fitted : MF := mDef 6
  (mSeq (mAsgT [3, 4, 5] (mVar 2))
  (mSeq (mIfS (mB (mBin eqW (mBin ixW (mVar 0) (mC (.int 0))) (mC (.str "cut")))) (mRet (mTup (mCons (mBin andW (mVar 3) (mCall sh_bits_full (mCons (mBin ixW (mVar 0) (mC (.int 1))) mNil))) (mCons (mBin andW (mVar 4) (mCall sh_bits_full (mCons (mBin ixW (mVar 0) (mC (.int 1))) mNil))) (mCons (mBi maxW (mCons (mC (.int 1)) (mCons (mBin subW (mVar 5) (mBin subW (mVar 1) (mBin ixW (mVar 0) (mC (.int 1))))) mNil))) mNil))))) mSkip)
  (mSeq (mIfS (mB (mBin eqW (mBin ixW (mVar 0) (mC (.int 0))) (mC (.str "sign")))) (mRet (mTup (mCons (mCall sh_bits_stretched (mCons (mVar 3) (mCons (mVar 1) (mCons (mBin ixW (mVar 0) (mC (.int 1))) mNil)))) (mCons (mCall sh_bits_stretched (mCons (mVar 4) (mCons (mVar 1) (mCons (mBin ixW (mVar 0) (mC (.int 1))) mNil)))) (mCons (mBin subW (mBin addW (mVar 5) (mBin ixW (mVar 0) (mC (.int 1)))) (mVar 1)) mNil))))) mSkip)
  (mSeq (mIfS (mB (mBin eqW (mBin ixW (mVar 0) (mC (.int 1))) (mVar 1))) (mRet (mVar 2)) mSkip)
  (mRet (mTup (mCons (mBin orW (mVar 3) (mBin subW (mCall sh_bits_full (mCons (mBin ixW (mVar 0) (mC (.int 1))) mNil)) (mCall sh_bits_full (mCons (mVar 1) mNil)))) (mCons (mVar 4) (mCons (mC (.int 1)) mNil)))))))))
noncomputable def sh_rules_picked : MF := mDef 3
  (mSeq (mIfS (mB (mBin eqW (mBin ixW (mVar 0) (mC (.int 1))) (mC (.int 1)))) (mRet (mVar 1)) mSkip)
  (mSeq (mIfS (mB (mBin eqW (mBin ixW (mVar 0) (mC (.int 0))) (mC (.int 1)))) (mRet (mVar 2)) mSkip)
  (mRet (mTup (mCons (mBin andW (mBin ixW (mVar 1) (mC (.int 0))) (mBin ixW (mVar 2) (mC (.int 0)))) (mCons (mBin andW (mBin ixW (mVar 1) (mC (.int 1))) (mBin ixW (mVar 2) (mC (.int 1)))) (mCons (mBi minW (mCons (mBin ixW (mVar 1) (mC (.int 2))) (mCons (mBin ixW (mVar 2) (mC (.int 2))) mNil))) mNil)))))))
noncomputable def sh_rules_less_known : MF := mDef 3
  (mSeq (mIfS (mB (mBin ltW (mCall sh_facts_greatest (mCons (mVar 0) (mCons (mVar 2) mNil))) (mCall sh_facts_least (mCons (mVar 1) mNil)))) (mRet (mC (.int 1))) mSkip)
  (mSeq (mIfS (mB (mBin geW (mCall sh_facts_least (mCons (mVar 0) mNil)) (mCall sh_facts_greatest (mCons (mVar 1) (mCons (mVar 2) mNil))))) (mRet (mC (.int 0))) mSkip)
  (mRet (mC .none))))
noncomputable def sh_rules_top_turned : MF := mDef 7
  (mSeq (mAsgT [2, 3, 4] (mVar 0))
  (mSeq (mAsg 5 (mBin shlW (mC (.int 1)) (mBin subW (mVar 1) (mC (.int 1)))))
  (mSeq (mAsg 6 (mBin andW (mBin orW (mVar 2) (mVar 3)) (mVar 5)))
  (mRet (mTup (mCons (mBin xorW (mVar 2) (mVar 6)) (mCons (mBin xorW (mVar 3) (mVar 6)) (mCons (mVar 4) mNil))))))))
noncomputable def sh_rules_compared : MF := mDef 4
  (mSeq (mIfS (mB (mBin eqW (mVar 0) (mC (.str "under")))) (mRet (mCall sh_rules_less_known (mCons (mCall sh_rules_top_turned (mCons (mVar 1) (mCons (mVar 3) mNil))) (mCons (mCall sh_rules_top_turned (mCons (mVar 2) (mCons (mVar 3) mNil))) (mCons (mVar 3) mNil))))) mSkip)
  (mSeq (mIfS (mB (mBin eqW (mVar 0) (mC (.str "less")))) (mRet (mCall sh_rules_less_known (mCons (mVar 1) (mCons (mVar 2) (mCons (mVar 3) mNil))))) mSkip)
  (mSeq (mIfS (mB (mBin neW (mBin orW (mBin andW (mBin ixW (mVar 1) (mC (.int 0))) (mBin ixW (mVar 2) (mC (.int 1)))) (mBin andW (mBin ixW (mVar 1) (mC (.int 1))) (mBin ixW (mVar 2) (mC (.int 0))))) (mC (.int 0)))) (mRet (mC (.int 0))) mSkip)
  (mSeq (mIfS (mB (mBin eqW (mBin andW (mBin orW (mBin ixW (mVar 1) (mC (.int 0))) (mBin ixW (mVar 1) (mC (.int 1)))) (mBin orW (mBin ixW (mVar 2) (mC (.int 0))) (mBin ixW (mVar 2) (mC (.int 1))))) (mCall sh_bits_full (mCons (mVar 3) mNil)))) (mRet (mC (.int 1))) mSkip)
  (mRet (mC .none))))))
noncomputable def sh_rules_told_by_s1 : MS :=
  (mAsg 3 (mBin ixW (mVar 0) (mC (.int 0))))
theorem sh_rules_told_by_s1_e (env : Sl) (S : Sto) : sh_rules_told_by_s1 env S = (mAsg 3 (mBin ixW (mVar 0) (mC (.int 0)))) env S := id rfl
noncomputable def sh_rules_told_by_s2 : MS :=
  (mIfS (mB (mBin eqW (mVar 3) (mC (.str "in")))) (mRet (mTup (mCons (mC (.int 0)) (mCons (mC (.int 0)) (mCons (mC (.int 1)) mNil))))) mSkip)
theorem sh_rules_told_by_s2_e (env : Sl) (S : Sto) : sh_rules_told_by_s2 env S = (mIfS (mB (mBin eqW (mVar 3) (mC (.str "in")))) (mRet (mTup (mCons (mC (.int 0)) (mCons (mC (.int 0)) (mCons (mC (.int 1)) mNil))))) mSkip) env S := id rfl
noncomputable def sh_rules_told_by_s3 : MS :=
  (mIfS (mB (mBin eqW (mVar 3) (mC (.str "num")))) (mRet (mTup (mCons (mBin subW (mCall sh_bits_full (mCons (mBin ixW (mVar 0) (mC (.int 1))) mNil)) (mBin ixW (mVar 0) (mC (.int 2)))) (mCons (mBin ixW (mVar 0) (mC (.int 2))) (mCons (mC (.int 1)) mNil))))) mSkip)
theorem sh_rules_told_by_s3_e (env : Sl) (S : Sto) : sh_rules_told_by_s3 env S = (mIfS (mB (mBin eqW (mVar 3) (mC (.str "num")))) (mRet (mTup (mCons (mBin subW (mCall sh_bits_full (mCons (mBin ixW (mVar 0) (mC (.int 1))) mNil)) (mBin ixW (mVar 0) (mC (.int 2)))) (mCons (mBin ixW (mVar 0) (mC (.int 2))) (mCons (mC (.int 1)) mNil))))) mSkip) env S := id rfl
noncomputable def sh_rules_told_by_s4 : MS :=
  (mIfS (mB (mBin eqW (mVar 3) (mC (.str "not")))) (mRet (mTup (mCons (mBin ixW (mBin ixW (mVar 2) (mC (.int 0))) (mC (.int 1))) (mCons (mBin ixW (mBin ixW (mVar 2) (mC (.int 0))) (mC (.int 0))) (mCons (mBin ixW (mBin ixW (mVar 2) (mC (.int 0))) (mC (.int 2))) mNil))))) mSkip)
theorem sh_rules_told_by_s4_e (env : Sl) (S : Sto) : sh_rules_told_by_s4 env S = (mIfS (mB (mBin eqW (mVar 3) (mC (.str "not")))) (mRet (mTup (mCons (mBin ixW (mBin ixW (mVar 2) (mC (.int 0))) (mC (.int 1))) (mCons (mBin ixW (mBin ixW (mVar 2) (mC (.int 0))) (mC (.int 0))) (mCons (mBin ixW (mBin ixW (mVar 2) (mC (.int 0))) (mC (.int 2))) mNil))))) mSkip) env S := id rfl
noncomputable def sh_rules_told_by_s5 : MS :=
  (mIfS (mB (mBin inW (mVar 3) (mTup (mCons (mC (.str "and")) (mCons (mC (.str "or")) (mCons (mC (.str "xor")) mNil)))))) (mRet (mCall sh_rules_bitwise (mCons (mVar 3) (mCons (mBin ixW (mVar 2) (mC (.int 0))) (mCons (mBin ixW (mVar 2) (mC (.int 1))) mNil))))) mSkip)
theorem sh_rules_told_by_s5_e (env : Sl) (S : Sto) : sh_rules_told_by_s5 env S = (mIfS (mB (mBin inW (mVar 3) (mTup (mCons (mC (.str "and")) (mCons (mC (.str "or")) (mCons (mC (.str "xor")) mNil)))))) (mRet (mCall sh_rules_bitwise (mCons (mVar 3) (mCons (mBin ixW (mVar 2) (mC (.int 0))) (mCons (mBin ixW (mVar 2) (mC (.int 1))) mNil))))) mSkip) env S := id rfl
noncomputable def sh_rules_told_by_s6 : MS :=
  (mIfS (mB (mBin inW (mVar 3) (mTup (mCons (mC (.str "add")) (mCons (mC (.str "sub")) (mCons (mC (.str "mul")) mNil)))))) (mRet (mCall sh_sums_sum_fact (mCons (mVar 3) (mCons (mBin ixW (mVar 2) (mC (.int 0))) (mCons (mBin ixW (mVar 2) (mC (.int 1))) (mCons (mBin ixW (mVar 0) (mC (.int 1))) mNil)))))) mSkip)
theorem sh_rules_told_by_s6_e (env : Sl) (S : Sto) : sh_rules_told_by_s6 env S = (mIfS (mB (mBin inW (mVar 3) (mTup (mCons (mC (.str "add")) (mCons (mC (.str "sub")) (mCons (mC (.str "mul")) mNil)))))) (mRet (mCall sh_sums_sum_fact (mCons (mVar 3) (mCons (mBin ixW (mVar 2) (mC (.int 0))) (mCons (mBin ixW (mVar 2) (mC (.int 1))) (mCons (mBin ixW (mVar 0) (mC (.int 1))) mNil)))))) mSkip) env S := id rfl
noncomputable def sh_rules_told_by_s7 : MS :=
  (mIfS (mB (mBin inW (mVar 3) (mTup (mCons (mC (.str "left")) (mCons (mC (.str "right")) (mCons (mC (.str "slide")) mNil)))))) (mRet (mCall sh_rules_shifted (mCons (mVar 0) (mCons (mBin ixW (mVar 1) (mC (.int 0))) (mCons (mBin ixW (mVar 2) (mC (.int 0))) mNil))))) mSkip)
theorem sh_rules_told_by_s7_e (env : Sl) (S : Sto) : sh_rules_told_by_s7 env S = (mIfS (mB (mBin inW (mVar 3) (mTup (mCons (mC (.str "left")) (mCons (mC (.str "right")) (mCons (mC (.str "slide")) mNil)))))) (mRet (mCall sh_rules_shifted (mCons (mVar 0) (mCons (mBin ixW (mVar 1) (mC (.int 0))) (mCons (mBin ixW (mVar 2) (mC (.int 0))) mNil))))) mSkip) env S := id rfl
noncomputable def sh_rules_told_by_s8 : MS :=
  (mIfS (mB (mBin inW (mVar 3) (mTup (mCons (mC (.str "cut")) (mCons (mC (.str "wide")) (mCons (mC (.str "sign")) mNil)))))) (mRet (mCall sh_rules_fitted (mCons (mVar 0) (mCons (mBin ixW (mVar 1) (mC (.int 0))) (mCons (mBin ixW (mVar 2) (mC (.int 0))) mNil))))) mSkip)
theorem sh_rules_told_by_s8_e (env : Sl) (S : Sto) : sh_rules_told_by_s8 env S = (mIfS (mB (mBin inW (mVar 3) (mTup (mCons (mC (.str "cut")) (mCons (mC (.str "wide")) (mCons (mC (.str "sign")) mNil)))))) (mRet (mCall sh_rules_fitted (mCons (mVar 0) (mCons (mBin ixW (mVar 1) (mC (.int 0))) (mCons (mBin ixW (mVar 2) (mC (.int 0))) mNil))))) mSkip) env S := id rfl
noncomputable def sh_rules_told_by_s9 : MS :=
  (mIfS (mB (mBin eqW (mVar 3) (mC (.str "pick")))) (mRet (mCall sh_rules_picked (mCons (mBin ixW (mVar 2) (mC (.int 0))) (mCons (mBin ixW (mVar 2) (mC (.int 1))) (mCons (mBin ixW (mVar 2) (mC (.int 2))) mNil))))) mSkip)
theorem sh_rules_told_by_s9_e (env : Sl) (S : Sto) : sh_rules_told_by_s9 env S = (mIfS (mB (mBin eqW (mVar 3) (mC (.str "pick")))) (mRet (mCall sh_rules_picked (mCons (mBin ixW (mVar 2) (mC (.int 0))) (mCons (mBin ixW (mVar 2) (mC (.int 1))) (mCons (mBin ixW (mVar 2) (mC (.int 2))) mNil))))) mSkip) env S := id rfl
noncomputable def sh_rules_told_by_s10 : MS :=
  (mRet (mCall sh_rules_truth (mCons (mCall sh_rules_compared (mCons (mVar 3) (mCons (mBin ixW (mVar 2) (mC (.int 0))) (mCons (mBin ixW (mVar 2) (mC (.int 1))) (mCons (mBin ixW (mVar 1) (mC (.int 0))) mNil))))) mNil)))
theorem sh_rules_told_by_s10_e (env : Sl) (S : Sto) : sh_rules_told_by_s10 env S = (mRet (mCall sh_rules_truth (mCons (mCall sh_rules_compared (mCons (mVar 3) (mCons (mBin ixW (mVar 2) (mC (.int 0))) (mCons (mBin ixW (mVar 2) (mC (.int 1))) (mCons (mBin ixW (mVar 1) (mC (.int 0))) mNil))))) mNil))) env S := id rfl
noncomputable def sh_rules_told_by : MF := mDef 4
  (mSeq sh_rules_told_by_s1
  (mSeq sh_rules_told_by_s2
  (mSeq sh_rules_told_by_s3
  (mSeq sh_rules_told_by_s4
  (mSeq sh_rules_told_by_s5
  (mSeq sh_rules_told_by_s6
  (mSeq sh_rules_told_by_s7
  (mSeq sh_rules_told_by_s8
  (mSeq sh_rules_told_by_s9
  sh_rules_told_by_s10)))))))))
noncomputable def sh_rules_rule : MF := mDef 3
  (mRet (mCall sh_facts_closed (mCons (mCall sh_rules_told_by (mCons (mVar 0) (mCons (mVar 1) (mCons (mVar 2) mNil)))) (mCons (mBin ixW (mVar 0) (mC (.int 1))) mNil))))
noncomputable def sh_L_gapless_c1 : MT :=
  (mAnd (mB (mBin ltW (mVar 2) (mVar 1))) (mB (mBin eqW (mBin andW (mBin shrW (mVar 0) (mVar 2)) (mC (.int 1))) (mC (.int 1)))))
theorem sh_L_gapless_c1_e (env : Sl) (S : Sto) : sh_L_gapless_c1 env S = (mAnd (mB (mBin ltW (mVar 2) (mVar 1))) (mB (mBin eqW (mBin andW (mBin shrW (mVar 0) (mVar 2)) (mC (.int 1))) (mC (.int 1))))) env S := id rfl
noncomputable def sh_L_gapless_w1 : MS :=
  (mAsg 2 (mBin addW (mVar 2) (mC (.int 1))))
theorem sh_L_gapless_w1_e (env : Sl) (S : Sto) : sh_L_gapless_w1 env S = (mAsg 2 (mBin addW (mVar 2) (mC (.int 1)))) env S := id rfl
noncomputable def sh_L_gapless : MF := mDef 3
  (mSeq (mAsg 2 (mC (.int 0)))
  (mSeq (mWhile sh_L_gapless_c1 sh_L_gapless_w1)
  (mRet (mVar 2))))
noncomputable def sh_L_noted_b1 : MS :=
  (mSetIx (mVar 0) (mBin andW (mBin shrW (mVar 1) (mVar 3)) (mC (.int 1))) (mBin orW (mBin ixW (mVar 0) (mBin andW (mBin shrW (mVar 1) (mVar 3)) (mC (.int 1)))) (mBin shlW (mC (.int 1)) (mVar 3))))
theorem sh_L_noted_b1_e (env : Sl) (S : Sto) : sh_L_noted_b1 env S = (mSetIx (mVar 0) (mBin andW (mBin shrW (mVar 1) (mVar 3)) (mC (.int 1))) (mBin orW (mBin ixW (mVar 0) (mBin andW (mBin shrW (mVar 1) (mVar 3)) (mC (.int 1)))) (mBin shlW (mC (.int 1)) (mVar 3)))) env S := id rfl
noncomputable def sh_L_noted : MF := mDef 4
  (mFor (mIt (mVar 2)) (gN 3) sh_L_noted_b1)
noncomputable def sh_L_closed : MF := mDef 6
  (mSeq (mAsgT [2, 3, 4] (mVar 0))
  (mSeq (mAsg 5 (mBin subW (mBin shlW (mC (.int 1)) (mVar 1)) (mBin shlW (mC (.int 1)) (mBin subW (mVar 1) (mVar 4)))))
  (mSeq (mIfS (mB (mBin gtW (mBin andW (mVar 2) (mVar 5)) (mC (.int 0)))) (mAsg 2 (mBin orW (mVar 2) (mVar 5))) mSkip)
  (mSeq (mIfS (mB (mBin gtW (mBin andW (mVar 3) (mVar 5)) (mC (.int 0)))) (mAsg 3 (mBin orW (mVar 3) (mVar 5))) mSkip)
  (mRet (mTup (mCons (mVar 2) (mCons (mVar 3) (mCons (mBi max3W (mCons (mVar 4) (mCons (mCall sh_L_top_run (mCons (mVar 2) (mCons (mVar 1) mNil))) (mCons (mCall sh_L_top_run (mCons (mVar 3) (mCons (mVar 1) mNil))) mNil)))) mNil)))))))))
noncomputable def sh_L_outcome : MF := mDef 3
  (mSeq (mIfS (mB (mBin eqW (mVar 0) (mC (.str "add")))) (mRet (mBin addW (mVar 1) (mVar 2))) mSkip)
  (mSeq (mIfS (mB (mBin eqW (mVar 0) (mC (.str "sub")))) (mRet (mBin subW (mVar 1) (mVar 2))) mSkip)
  (mRet (mBin mulW (mVar 1) (mVar 2)))))
noncomputable def sh_L_due_c1 : MT :=
  (mAnd (mB (mBin gtW (mVar 8) (mC (.int 0)))) (mB (mBin eqW (mBin andW (mBin shrW (mBin ixW (mVar 7) (mC (.int 0))) (mBin subW (mVar 8) (mC (.int 1)))) (mC (.int 1))) (mBin andW (mBin shrW (mBin ixW (mVar 7) (mC (.int 1))) (mBin subW (mVar 8) (mC (.int 1)))) (mC (.int 1))))))
theorem sh_L_due_c1_e (env : Sl) (S : Sto) : sh_L_due_c1 env S = (mAnd (mB (mBin gtW (mVar 8) (mC (.int 0)))) (mB (mBin eqW (mBin andW (mBin shrW (mBin ixW (mVar 7) (mC (.int 0))) (mBin subW (mVar 8) (mC (.int 1)))) (mC (.int 1))) (mBin andW (mBin shrW (mBin ixW (mVar 7) (mC (.int 1))) (mBin subW (mVar 8) (mC (.int 1)))) (mC (.int 1)))))) env S := id rfl
noncomputable def sh_L_due_w1 : MS :=
  (mAsg 8 (mBin subW (mVar 8) (mC (.int 1))))
theorem sh_L_due_w1_e (env : Sl) (S : Sto) : sh_L_due_w1 env S = (mAsg 8 (mBin subW (mVar 8) (mC (.int 1)))) env S := id rfl
noncomputable def sh_L_due_s1 : MS :=
  (mAsg 8 (mVar 1))
theorem sh_L_due_s1_e (env : Sl) (S : Sto) : sh_L_due_s1 env S = (mAsg 8 (mVar 1)) env S := id rfl
noncomputable def sh_L_due_s2 : MS :=
  (mWhile sh_L_due_c1 sh_L_due_w1)
theorem sh_L_due_s2_e (env : Sl) (S : Sto) : sh_L_due_s2 env S = (mWhile sh_L_due_c1 sh_L_due_w1) env S := id rfl
noncomputable def sh_L_due_s3 : MS :=
  (mExpr (mCall sh_L_noted (mCons (mVar 4) (mCons (mBin ixW (mVar 7) (mC (.int 0))) (mCons (mLrg2 (mVar 8) (mVar 1)) mNil)))))
theorem sh_L_due_s3_e (env : Sl) (S : Sto) : sh_L_due_s3 env S = (mExpr (mCall sh_L_noted (mCons (mVar 4) (mCons (mBin ixW (mVar 7) (mC (.int 0))) (mCons (mLrg2 (mVar 8) (mVar 1)) mNil))))) env S := id rfl
noncomputable def sh_L_due_s4 : MS :=
  (mAsg 9 (mC (.int 1)))
theorem sh_L_due_s4_e (env : Sl) (S : Sto) : sh_L_due_s4 env S = (mAsg 9 (mC (.int 1))) env S := id rfl
noncomputable def sh_L_due_s5 : MS :=
  (mAsg 10 (mBi minW (mCons (mVar 1) (mCons (mBin addW (mCall sh_L_gapless (mCons (mBin ixW (mVar 2) (mC (.int 0))) (mCons (mVar 1) mNil))) (mCall sh_L_gapless (mCons (mBin ixW (mVar 3) (mC (.int 0))) (mCons (mVar 1) mNil)))) mNil))))
theorem sh_L_due_s5_e (env : Sl) (S : Sto) : sh_L_due_s5 env S = (mAsg 10 (mBi minW (mCons (mVar 1) (mCons (mBin addW (mCall sh_L_gapless (mCons (mBin ixW (mVar 2) (mC (.int 0))) (mCons (mVar 1) mNil))) (mCall sh_L_gapless (mCons (mBin ixW (mVar 3) (mC (.int 0))) (mCons (mVar 1) mNil)))) mNil)))) env S := id rfl
noncomputable def sh_L_due_s6 : MS :=
  (mExpr (mCall sh_L_noted (mCons (mVar 4) (mCons (mC (.int 0)) (mCons (mLrg1 (mVar 10)) mNil)))))
theorem sh_L_due_s6_e (env : Sl) (S : Sto) : sh_L_due_s6 env S = (mExpr (mCall sh_L_noted (mCons (mVar 4) (mCons (mC (.int 0)) (mCons (mLrg1 (mVar 10)) mNil))))) env S := id rfl
noncomputable def sh_L_due_s7 : MS :=
  (mAsg 4 (mLstM (mCons (mC (.int 0)) (mCons (mC (.int 0)) mNil))))
theorem sh_L_due_s7_e (env : Sl) (S : Sto) : sh_L_due_s7 env S = (mAsg 4 (mLstM (mCons (mC (.int 0)) (mCons (mC (.int 0)) mNil)))) env S := id rfl
noncomputable def sh_L_due_s8 : MS :=
  (mAsg 5 (mCall sh_L_gapless (mCons (mBin andW (mBin orW (mBin ixW (mVar 2) (mC (.int 0))) (mBin ixW (mVar 2) (mC (.int 1)))) (mBin orW (mBin ixW (mVar 3) (mC (.int 0))) (mBin ixW (mVar 3) (mC (.int 1))))) (mCons (mVar 1) mNil))))
theorem sh_L_due_s8_e (env : Sl) (S : Sto) : sh_L_due_s8 env S = (mAsg 5 (mCall sh_L_gapless (mCons (mBin andW (mBin orW (mBin ixW (mVar 2) (mC (.int 0))) (mBin ixW (mVar 2) (mC (.int 1)))) (mBin orW (mBin ixW (mVar 3) (mC (.int 0))) (mBin ixW (mVar 3) (mC (.int 1))))) (mCons (mVar 1) mNil)))) env S := id rfl
noncomputable def sh_L_due_s9 : MS :=
  (mExpr (mCall sh_L_noted (mCons (mVar 4) (mCons (mCall sh_L_outcome (mCons (mVar 0) (mCons (mBin ixW (mVar 2) (mC (.int 1))) (mCons (mBin ixW (mVar 3) (mC (.int 1))) mNil)))) (mCons (mLrg1 (mVar 5)) mNil)))))
theorem sh_L_due_s9_e (env : Sl) (S : Sto) : sh_L_due_s9 env S = (mExpr (mCall sh_L_noted (mCons (mVar 4) (mCons (mCall sh_L_outcome (mCons (mVar 0) (mCons (mBin ixW (mVar 2) (mC (.int 1))) (mCons (mBin ixW (mVar 3) (mC (.int 1))) mNil)))) (mCons (mLrg1 (mVar 5)) mNil))))) env S := id rfl
noncomputable def sh_L_due_s10 : MS :=
  (mAsg 6 (mBin subW (mBin shlW (mC (.int 1)) (mVar 1)) (mC (.int 1))))
theorem sh_L_due_s10_e (env : Sl) (S : Sto) : sh_L_due_s10 env S = (mAsg 6 (mBin subW (mBin shlW (mC (.int 1)) (mVar 1)) (mC (.int 1)))) env S := id rfl
noncomputable def sh_L_due_s11 : MS :=
  (mAsg 7 (mLst (mCons (mCall sh_L_outcome (mCons (mVar 0) (mCons (mBin ixW (mVar 2) (mC (.int 1))) (mCons (mBin ixW (mVar 3) (mC (.int 1))) mNil)))) (mCons (mCall sh_L_outcome (mCons (mVar 0) (mCons (mBin subW (mVar 6) (mBin ixW (mVar 2) (mC (.int 0)))) (mCons (mBin subW (mVar 6) (mBin ixW (mVar 3) (mC (.int 0)))) mNil)))) mNil))))
theorem sh_L_due_s11_e (env : Sl) (S : Sto) : sh_L_due_s11 env S = (mAsg 7 (mLst (mCons (mCall sh_L_outcome (mCons (mVar 0) (mCons (mBin ixW (mVar 2) (mC (.int 1))) (mCons (mBin ixW (mVar 3) (mC (.int 1))) mNil)))) (mCons (mCall sh_L_outcome (mCons (mVar 0) (mCons (mBin subW (mVar 6) (mBin ixW (mVar 2) (mC (.int 0)))) (mCons (mBin subW (mVar 6) (mBin ixW (mVar 3) (mC (.int 0)))) mNil)))) mNil)))) env S := id rfl
noncomputable def sh_L_due_s12 : MS :=
  (mIfS (mB (mBin eqW (mVar 0) (mC (.str "sub")))) (mAsg 7 (mLst (mCons (mBin subW (mBin ixW (mVar 2) (mC (.int 1))) (mBin subW (mVar 6) (mBin ixW (mVar 3) (mC (.int 0))))) (mCons (mBin subW (mBin subW (mVar 6) (mBin ixW (mVar 2) (mC (.int 0)))) (mBin ixW (mVar 3) (mC (.int 1)))) mNil)))) mSkip)
theorem sh_L_due_s12_e (env : Sl) (S : Sto) : sh_L_due_s12 env S = (mIfS (mB (mBin eqW (mVar 0) (mC (.str "sub")))) (mAsg 7 (mLst (mCons (mBin subW (mBin ixW (mVar 2) (mC (.int 1))) (mBin subW (mVar 6) (mBin ixW (mVar 3) (mC (.int 0))))) (mCons (mBin subW (mBin subW (mVar 6) (mBin ixW (mVar 2) (mC (.int 0)))) (mBin ixW (mVar 3) (mC (.int 1)))) mNil)))) mSkip) env S := id rfl
noncomputable def sh_L_due_s13 : MS :=
  (mIfS (mAnd (mB (mBin leW (mC (.int 0)) (mBin ixW (mVar 7) (mC (.int 0))))) (mB (mBin leW (mBin ixW (mVar 7) (mC (.int 1))) (mVar 6)))) (mSeq sh_L_due_s1
  (mSeq sh_L_due_s2
  sh_L_due_s3)) mSkip)
theorem sh_L_due_s13_e (env : Sl) (S : Sto) : sh_L_due_s13 env S = (mIfS (mAnd (mB (mBin leW (mC (.int 0)) (mBin ixW (mVar 7) (mC (.int 0))))) (mB (mBin leW (mBin ixW (mVar 7) (mC (.int 1))) (mVar 6)))) (mSeq sh_L_due_s1
  (mSeq sh_L_due_s2
  sh_L_due_s3)) mSkip) env S := id rfl
noncomputable def sh_L_due_s14 : MS :=
  (mAsg 9 (mBi maxW (mCons (mC (.int 1)) (mCons (mBin subW (mBi minW (mCons (mBin ixW (mVar 2) (mC (.int 2))) (mCons (mBin ixW (mVar 3) (mC (.int 2))) mNil))) (mC (.int 1))) mNil))))
theorem sh_L_due_s14_e (env : Sl) (S : Sto) : sh_L_due_s14 env S = (mAsg 9 (mBi maxW (mCons (mC (.int 1)) (mCons (mBin subW (mBi minW (mCons (mBin ixW (mVar 2) (mC (.int 2))) (mCons (mBin ixW (mVar 3) (mC (.int 2))) mNil))) (mC (.int 1))) mNil)))) env S := id rfl
noncomputable def sh_L_due_s15 : MS :=
  (mIfS (mB (mBin eqW (mVar 0) (mC (.str "mul")))) (mSeq sh_L_due_s4
  (mSeq sh_L_due_s5
  sh_L_due_s6)) mSkip)
theorem sh_L_due_s15_e (env : Sl) (S : Sto) : sh_L_due_s15 env S = (mIfS (mB (mBin eqW (mVar 0) (mC (.str "mul")))) (mSeq sh_L_due_s4
  (mSeq sh_L_due_s5
  sh_L_due_s6)) mSkip) env S := id rfl
noncomputable def sh_L_due_s16 : MS :=
  (mRet (mCall sh_L_closed (mCons (mTup (mCons (mBin ixW (mVar 4) (mC (.int 0))) (mCons (mBin ixW (mVar 4) (mC (.int 1))) (mCons (mVar 9) mNil)))) (mCons (mVar 1) mNil))))
theorem sh_L_due_s16_e (env : Sl) (S : Sto) : sh_L_due_s16 env S = (mRet (mCall sh_L_closed (mCons (mTup (mCons (mBin ixW (mVar 4) (mC (.int 0))) (mCons (mBin ixW (mVar 4) (mC (.int 1))) (mCons (mVar 9) mNil)))) (mCons (mVar 1) mNil)))) env S := id rfl
noncomputable def sh_L_due : MF := mDef 11
  (mSeq sh_L_due_s7
  (mSeq sh_L_due_s8
  (mSeq sh_L_due_s9
  (mSeq sh_L_due_s10
  (mSeq sh_L_due_s11
  (mSeq sh_L_due_s12
  (mSeq sh_L_due_s13
  (mSeq sh_L_due_s14
  (mSeq sh_L_due_s15
  sh_L_due_s16)))))))))
noncomputable def sh_L_law_s1 : MS :=
  (mAsg 3 (mBin ixW (mLst (mCons (mC (.str "add")) (mCons (mC (.str "sub")) (mCons (mC (.str "mul")) mNil)))) (mCall sh_L_draw (mCons (mVar 1) (mCons (mC (.int 3)) mNil)))))
theorem sh_L_law_s1_e (env : Sl) (S : Sto) : sh_L_law_s1 env S = (mAsg 3 (mBin ixW (mLst (mCons (mC (.str "add")) (mCons (mC (.str "sub")) (mCons (mC (.str "mul")) mNil)))) (mCall sh_L_draw (mCons (mVar 1) (mCons (mC (.int 3)) mNil))))) env S := id rfl
noncomputable def sh_L_law_s2 : MS :=
  (mAsg 4 (mCall sh_L_width (mCons (mVar 1) mNil)))
theorem sh_L_law_s2_e (env : Sl) (S : Sto) : sh_L_law_s2 env S = (mAsg 4 (mCall sh_L_width (mCons (mVar 1) mNil))) env S := id rfl
noncomputable def sh_L_law_s3 : MS :=
  (mAsg 5 (mSl (mCall sh_L_fact (mCons (mVar 1) (mCons (mVar 4) mNil))) oNone (oSome (mC (.int 3)))))
theorem sh_L_law_s3_e (env : Sl) (S : Sto) : sh_L_law_s3 env S = (mAsg 5 (mSl (mCall sh_L_fact (mCons (mVar 1) (mCons (mVar 4) mNil))) oNone (oSome (mC (.int 3))))) env S := id rfl
noncomputable def sh_L_law_s4 : MS :=
  (mAsg 6 (mSl (mCall sh_L_fact (mCons (mVar 1) (mCons (mVar 4) mNil))) oNone (oSome (mC (.int 3)))))
theorem sh_L_law_s4_e (env : Sl) (S : Sto) : sh_L_law_s4 env S = (mAsg 6 (mSl (mCall sh_L_fact (mCons (mVar 1) (mCons (mVar 4) mNil))) oNone (oSome (mC (.int 3))))) env S := id rfl
noncomputable def sh_L_law_s5 : MS :=
  (mIfS (mB (mBin eqW (mCall sh_L_draw (mCons (mVar 1) (mCons (mC (.int 6)) mNil))) (mC (.int 0)))) (mAsg 6 (mCall sh_L_near (mCons (mVar 1) (mCons (mVar 3) (mCons (mVar 4) (mCons (mVar 5) mNil)))))) mSkip)
theorem sh_L_law_s5_e (env : Sl) (S : Sto) : sh_L_law_s5 env S = (mIfS (mB (mBin eqW (mCall sh_L_draw (mCons (mVar 1) (mCons (mC (.int 6)) mNil))) (mC (.int 0)))) (mAsg 6 (mCall sh_L_near (mCons (mVar 1) (mCons (mVar 3) (mCons (mVar 4) (mCons (mVar 5) mNil)))))) mSkip) env S := id rfl
noncomputable def sh_L_law_s6 : MS :=
  (mIfS (mB (mBin neW (mCall sh_rules_rule (mCons (mTup (mCons (mVar 3) (mCons (mVar 4) (mCons (mC (.int 0)) (mCons (mC (.int 1)) mNil))))) (mCons (mTup (mCons (mVar 4) (mCons (mVar 4) mNil))) (mCons (mTup (mCons (mVar 5) (mCons (mVar 6) mNil))) mNil)))) (mCall sh_L_due (mCons (mVar 3) (mCons (mVar 4) (mCons (mVar 5) (mCons (mVar 6) mNil))))))) (mRet (mC (.bool false))) mSkip)
theorem sh_L_law_s6_e (env : Sl) (S : Sto) : sh_L_law_s6 env S = (mIfS (mB (mBin neW (mCall sh_rules_rule (mCons (mTup (mCons (mVar 3) (mCons (mVar 4) (mCons (mC (.int 0)) (mCons (mC (.int 1)) mNil))))) (mCons (mTup (mCons (mVar 4) (mCons (mVar 4) mNil))) (mCons (mTup (mCons (mVar 5) (mCons (mVar 6) mNil))) mNil)))) (mCall sh_L_due (mCons (mVar 3) (mCons (mVar 4) (mCons (mVar 5) (mCons (mVar 6) mNil))))))) (mRet (mC (.bool false))) mSkip) env S := id rfl
noncomputable def sh_L_law_b1 : MS :=
  (mSeq sh_L_law_s1
  (mSeq sh_L_law_s2
  (mSeq sh_L_law_s3
  (mSeq sh_L_law_s4
  (mSeq sh_L_law_s5
  sh_L_law_s6)))))
theorem sh_L_law_b1_e (env : Sl) (S : Sto) : sh_L_law_b1 env S = (mSeq sh_L_law_s1
  (mSeq sh_L_law_s2
  (mSeq sh_L_law_s3
  (mSeq sh_L_law_s4
  (mSeq sh_L_law_s5
  sh_L_law_s6))))) env S := id rfl
noncomputable def sh_L_law_s7 : MS :=
  (mAsg 1 (mLstM (mCons (mVar 0) (mCons (mC (.int 0)) (mCons (mC (.int 0)) mNil)))))
theorem sh_L_law_s7_e (env : Sl) (S : Sto) : sh_L_law_s7 env S = (mAsg 1 (mLstM (mCons (mVar 0) (mCons (mC (.int 0)) (mCons (mC (.int 0)) mNil))))) env S := id rfl
noncomputable def sh_L_law_s8 : MS :=
  (mFor (mRng1 (mBin addW (mC (.int 1)) (mBi minW (mCons (mC (.int 5)) (mCons (mBin fdivW (mBi lenW (mCons (mVar 0) mNil)) (mC (.int 8))) mNil))))) (gN 2) sh_L_law_b1)
theorem sh_L_law_s8_e (env : Sl) (S : Sto) : sh_L_law_s8 env S = (mFor (mRng1 (mBin addW (mC (.int 1)) (mBi minW (mCons (mC (.int 5)) (mCons (mBin fdivW (mBi lenW (mCons (mVar 0) mNil)) (mC (.int 8))) mNil))))) (gN 2) sh_L_law_b1) env S := id rfl
noncomputable def sh_L_law_s9 : MS :=
  (mRet (mC (.bool true)))
theorem sh_L_law_s9_e (env : Sl) (S : Sto) : sh_L_law_s9 env S = (mRet (mC (.bool true))) env S := id rfl
noncomputable def sh_L_law : MF := mDef 7
  (mSeq sh_L_law_s7
  (mSeq sh_L_law_s8
  sh_L_law_s9))
/-! Math, part A: whole numbers and bits. -/
theorem and_nat (a b : Nat) : Builtin.bitAnd (a : Int) (b : Int) = ((a &&& b : Nat) : Int) := by
  rw [bitAnd_pp (by omega) (by omega)]; rfl
theorem nat_xor_add (a b : Nat) : (a ^^^ b) + 2 * (a &&& b) = a + b := by
  induction a using Nat.strongRecOn generalizing b with
  | _ a ih =>
    by_cases ha : a = 0
    · subst ha; simp
    · have := ih (a / 2) (by omega) (b / 2)
      have e1 : (a ^^^ b) / 2 = a / 2 ^^^ b / 2 := Nat.xor_div_two
      have e2 : (a &&& b) / 2 = a / 2 &&& b / 2 := Nat.and_div_two
      have e3 : (a ^^^ b) % 2 + 2 * ((a &&& b) % 2) = a % 2 + b % 2 := by
        have f1 : (a ^^^ b) % 2 = a % 2 ^^^ b % 2 := by simpa using Nat.xor_mod_two_pow (n := 1)
        have f2 : (a &&& b) % 2 = a % 2 &&& b % 2 := by simpa using Nat.and_mod_two_pow (n := 1)
        rw [f1, f2]
        rcases Nat.mod_two_eq_zero_or_one a with h | h <;> rcases Nat.mod_two_eq_zero_or_one b with h' | h' <;> rw [h, h'] <;> rfl
      omega
theorem or_nat (a b : Nat) : Builtin.bitOr (a : Int) (b : Int) = ((a ||| b : Nat) : Int) := by
  have := nat_or_add_and a b
  rw [bitOr_and, and_nat]
  omega
theorem xor_nat (a b : Nat) : Builtin.bitXor (a : Int) (b : Int) = ((a ^^^ b : Nat) : Int) := by
  have := nat_xor_add a b
  have h : (a &&& b) ≤ a := Nat.and_le_left
  have h : (a &&& b) ≤ b := Nat.and_le_right
  rw [bitXor_and, and_nat]
  omega
/-- a without the bits of b -/
def andNot (a b : Nat) : Nat := a ^^^ (a &&& b)
theorem andNot_bit (a b i : Nat) : (andNot a b).testBit i = (a.testBit i && !b.testBit i) := by
  simp only [andNot, Nat.testBit_xor, Nat.testBit_and]
  cases a.testBit i <;> cases b.testBit i <;> rfl
theorem andNot_add (a b : Nat) : andNot a b + (a &&& b) = a := by
  have h := nat_xor_add a (a &&& b)
  have e : a &&& (a &&& b) = a &&& b := by rw [← Nat.and_assoc, Nat.and_self]
  rw [e] at h
  unfold andNot
  omega
theorem and_not_nat (a b : Nat) : Builtin.bitAnd (a : Int) (Builtin.bitNot (b : Int)) = (andNot a b : Nat) := by
  have := andNot_add a b
  rw [bitAnd_not, and_nat]
  omega
theorem pow_nat (k : Nat) : ((2 : Int) ^ k) = ((2 ^ k : Nat) : Int) := (PySem.W.kbt_cast k).symm
theorem pow_pos' (k : Nat) : 0 < 2 ^ k := Nat.two_pow_pos k
theorem shl_nat (n k : Nat) : (n : Int) * 2 ^ k = ((n <<< k : Nat) : Int) := by
  rw [pow_nat, Nat.shiftLeft_eq]
  omega
theorem shr_nat (n k : Nat) : (n : Int) / 2 ^ k = ((n >>> k : Nat) : Int) := by
  rw [pow_nat, Nat.shiftRight_eq_div_pow]
  omega
theorem bit_mod (n k : Nat) : n / 2 ^ k % 2 = (n.testBit k).toNat := by
  rw [Nat.testBit_eq_decide_div_mod_eq]
  rcases Nat.mod_two_eq_zero_or_one (n / 2 ^ k) with h | h <;> rw [h] <;> rfl
theorem bit_and1 (n k : Nat) : (n >>> k) &&& 1 = (n.testBit k).toNat := by
  rw [Nat.and_one_is_mod, Nat.shiftRight_eq_div_pow, bit_mod]
theorem bit_and (n k : Nat) : Builtin.bitAnd ((n : Int) / 2 ^ k) 1 = ((n.testBit k).toNat : Int) := by
  rw [shr_nat, show (1 : Int) = ((1 : Nat) : Int) from rfl, and_nat, bit_and1]
theorem bit_modI (n k : Nat) : (n : Int) / 2 ^ k % 2 = ((n.testBit k).toNat : Int) := by
  rw [← bit_mod, pow_nat]; omega
/-! conditions of sizes -/
theorem log2_nat_le {a b : Nat} (h : a ≤ b) : a.log2 ≤ b.log2 := by
  by_cases ha : a = 0
  · subst ha; simp
  · have hb : b ≠ 0 := by omega
    rw [Nat.le_log2 hb]
    exact Nat.le_trans (Nat.log2_self_le ha) h
theorem log2_two_pow (k : Nat) : (2 ^ k).log2 = k := Nat.log2_two_pow
theorem log2_lt_of_lt {i : Nat} {k : Nat} (h : i < 2 ^ k) : i.log2 ≤ k := by
  have := log2_nat_le (Nat.le_of_lt h)
  rwa [log2_two_pow] at this
theorem shlOk_small {i j : Int} {k : Nat} (h : i.natAbs < 2 ^ k) (hk : k ≤ 2000000) (h0 : 0 ≤ j) (h1 : j ≤ 1000000) : ShlOk i j := ⟨h0, h1, by have := log2_lt_of_lt h; omega⟩
theorem shlOk_one {j : Int} (h0 : 0 ≤ j) (h1 : j ≤ 1000000) : ShlOk 1 j := shlOk_small (k := 1) (by decide) (by decide) h0 h1
theorem mulOk_l {i j : Int} (h : -(2 ^ 64) < i) (h' : i < 2 ^ 64) : MulOk i j := .inl ⟨h, h'⟩
theorem mulOk_r {i j : Int} (h : -(2 ^ 64) < j) (h' : j < 2 ^ 64) : MulOk i j := .inr (.inl ⟨h, h'⟩)
theorem log2_pow_int (k : Nat) : ((2 : Int) ^ k).natAbs.log2 = k := by
  rw [pow_nat, Int.natAbs_natCast, log2_two_pow]
/-! bits as a list -/
def b2i (b : Bool) : Int := if b then 1 else 0
theorem b2i_nat (b : Bool) : b2i b = (b.toNat : Int) := by cases b <;> rfl
def bitsL (n w : Nat) : List Bool := (List.range w).map fun k => n.testBit k
def worthL : List Bool → Nat
  | [] => 0
  | b :: r => b.toNat + 2 * worthL r
theorem bitsL_length (n w : Nat) : (bitsL n w).length = w := by simp [bitsL]
theorem bitsL_at (n w i : Nat) : (bitsL n w)[i]? = if i < w then some (n.testBit i) else none := by
  unfold bitsL
  split
  · rename_i h; simp [h]
  · rename_i h; simp; omega
theorem worthL_bit : ∀ (l : List Bool) (i : Nat), (worthL l).testBit i = (l[i]?).getD false
  | [], i => by simp [worthL]
  | b :: r, 0 => by
    simp [worthL, Nat.testBit_zero]
    cases b <;> simp <;> omega
  | b :: r, i + 1 => by
    have : (b.toNat + 2 * worthL r) / 2 = worthL r := by cases b <;> simp <;> omega
    rw [worthL, Nat.testBit_succ, this, worthL_bit r i]
    simp
theorem worthL_lt (l : List Bool) : worthL l < 2 ^ l.length := by
  induction l with
  | nil => decide
  | cons b r ih =>
    rw [worthL, List.length_cons, Nat.pow_succ]
    cases b <;> simp <;> omega
theorem worthL_bits (n w : Nat) : worthL (bitsL n w) = n % 2 ^ w := by
  apply Nat.eq_of_testBit_eq
  intro i
  rw [worthL_bit, bitsL_at, Nat.testBit_mod_two_pow]
  by_cases h : i < w <;> simp [h]
theorem worthL_bits' {n w : Nat} (h : n < 2 ^ w) : worthL (bitsL n w) = n := by rw [worthL_bits, Nat.mod_eq_of_lt h]
theorem worthL_append (a b : List Bool) : worthL (a ++ b) = worthL a + 2 ^ a.length * worthL b := by
  induction a with
  | nil => simp [worthL]
  | cons x r ih =>
    rw [List.cons_append, worthL, worthL, ih, List.length_cons, Nat.pow_succ, Nat.mul_add, Nat.mul_comm (2 ^ r.length) 2, Nat.mul_assoc]
    omega
theorem worthL_ones (k : Nat) : worthL (List.replicate k true) + 1 = 2 ^ k := by
  induction k with
  | zero => rfl
  | succ k ih => rw [List.replicate_succ, worthL, Nat.pow_succ]; simp; omega
theorem worthL_zeros (k : Nat) : worthL (List.replicate k false) = 0 := by
  induction k with
  | zero => rfl
  | succ k ih => rw [List.replicate_succ, worthL, ih]; rfl
/-- the sum of the weighed bits -/
theorem sum_weigh (l : List Bool) (s : Nat) : ((List.range l.length).map fun i => ((l[i]?).getD false).toNat * 2 ^ (s + i)).sum = 2 ^ s * worthL l := by
  induction l generalizing s with
  | nil => rfl
  | cons b r ih =>
    rw [List.length_cons, List.range_succ_eq_map, List.map_cons, List.sum_cons, List.map_map]
    have := ih (s + 1)
    have e : (List.map ((fun i => ((b :: r)[i]?.getD false).toNat * 2 ^ (s + i)) ∘ Nat.succ) (List.range r.length)) = (List.map (fun i => (r[i]?.getD false).toNat * 2 ^ (s + 1 + i)) (List.range r.length)) := by
      apply List.map_congr_left
      intro i _
      simp [Nat.succ_eq_add_one]
      rw [show s + (i + 1) = s + 1 + i by omega]
    rw [e, this, worthL]
    simp [Nat.pow_succ, Nat.mul_add, Nat.mul_comm, Nat.mul_left_comm, Nat.mul_assoc]
/-! Math, part B: operators with their conditions, loops. -/
section
variable (S : Sto)
theorem fdivW_e (i j : Int) (h : 0 < j) (h' : j < 2 ^ 64) : fdivW (.d (.int i)) (.d (.int j)) S = some (.int (i / j)) := by
  have : j.natAbs.log2 < 9000 := by
    have := log2_lt_of_lt (i := j.natAbs) (k := 64) (by omega)
    omega
  simp [intOp_e, fdivW, h, this]
theorem fdivW_p (i : Int) (k : Nat) (h' : k < 9000) : fdivW (.d (.int i)) (.d (.int (2 ^ k))) S = some (.int (i / 2 ^ k)) := by
  have h := PySem.W.kbt_pos k
  have := log2_pow_int k
  simp [intOp_e, fdivW, h, this, h']
theorem modW_e (i j : Int) (h : 0 < j) : modW (.d (.int i)) (.d (.int j)) S = some (.int (i % j)) := by simp [intOp_e, modW, h]
theorem shlW_1 (j : Int) (h : 0 ≤ j) (h' : j ≤ 1000000) : shlW (.d (.int 1)) (.d (.int j)) S = some (.int (2 ^ j.toNat)) := by
  simp [intOp_e, shlW, shlOk_one h h']
theorem shlW_s (i j : Int) (h : 0 ≤ i) (h' : i < 2 ^ 64) (h0 : 0 ≤ j) (h1 : j ≤ 1000000) : shlW (.d (.int i)) (.d (.int j)) S = some (.int (i * 2 ^ j.toNat)) := by
  simp [intOp_e, shlW, shlOk_small (i := i) (k := 64) (by omega) (by decide) h0 h1]
theorem shrW_e (i j : Int) (h : 0 ≤ j) : shrW (.d (.int i)) (.d (.int j)) S = some (.int (i / 2 ^ j.toNat)) := by simp [intOp_e, shrW, h]
theorem mulW_r (i j : Int) (h : -(2 ^ 64) < j) (h' : j < 2 ^ 64) : mulW (.d (.int i)) (.d (.int j)) S = some (.int (i * j)) := by simp [mulW_ii, mulOk_r h h']
theorem mulW_l (i j : Int) (h : -(2 ^ 64) < i) (h' : i < 2 ^ 64) : mulW (.d (.int i)) (.d (.int j)) S = some (.int (i * j)) := by simp [mulW_ii, mulOk_l h h']
theorem mulW_ok {i j : Int} (h : MulOk i j) : mulW (.d (.int i)) (.d (.int j)) S = some (.int (i * j)) := by simp [mulW_ii, h]
theorem addW_l (a b : List PyData) (h : a.length + b.length ≤ 1000000) : addW (.d (.list a)) (.d (.list b)) S = some (.list (a ++ b)) := by simp [addW_ll, LIM, h]
theorem addW_t (a b : List PyData) (h : a.length + b.length ≤ 1000000) : addW (.d (.tuple a)) (.d (.tuple b)) S = some (.tuple (a ++ b)) := by simp [addW_tt, LIM, h]
theorem mulW_l1 (a : PyData) (k : Int) (h : -(2 ^ 63) ≤ k) (h' : k ≤ 1000000) : mulW (.d (.list [a])) (.d (.int k)) S = some (.list (List.replicate k.toNat a)) := by
  have h1 : k < 2 ^ 63 := by omega
  have h2 : k.toNat ≤ 1000000 := by omega
  rw [mulW_li, if_pos ⟨h, h1, by simpa [LIM] using h2⟩]
  simp
theorem powW_e (i j : Int) (h0 : 0 ≤ j) (h1 : j ≤ 1000000) (h2 : -(2 ^ 64) < i) (h3 : i < 2 ^ 64) : powW (.d (.int i)) (.d (.int j)) S = some (.int (i ^ j.toNat)) := by
  have : i.natAbs < 2 ^ 64 := by omega
  simp [intOp_e, powW, h0, h1, this]
end
@[simp] theorem atI_c0 {α : Type} (x : α) (xs : List α) : atI (x :: xs) 0 = some x := by rw [atI_pos (by omega)]; rfl
@[simp] theorem atI_c1 {α : Type} (x y : α) (xs : List α) : atI (x :: y :: xs) 1 = some y := by rw [atI_pos (by omega)]; rfl
@[simp] theorem atI_c2 {α : Type} (x y z : α) (xs : List α) : atI (x :: y :: z :: xs) 2 = some z := by rw [atI_pos (by omega)]; rfl
@[simp] theorem atI_c3 {α : Type} (x y z u : α) (xs : List α) : atI (x :: y :: z :: u :: xs) 3 = some u := by rw [atI_pos (by omega)]; rfl
theorem toD_r {n : Nat} {S : Sto} {xs : List PyData} (h : S[n]? = some (Ob.lst xs)) : toD (.r n) S = some (.list xs, S.set n .dead) := by simp [toD, h]
theorem last_at {α : Type} (S : List α) (a : α) : (S ++ [a])[S.length]? = some a := by simp
theorem last_set {α : Type} (S : List α) (a b : α) : (S ++ [a]).set S.length b = S ++ [b] := by simp
theorem last_take {α : Type} (S : List α) (a : α) : (S ++ [a]).take S.length = S := by simp
/-- a loop that goes through, nothing hanging on the place -/
theorem forL_same {f : PyData → Sl → Option Sl} {b : MS} {P : Sl → Sto → Prop} (xs : List PyData)
    (hs : ∀ d ∈ xs, ∀ env S, P env S → ∃ env1 env2 S2, f d env = some env1 ∧ (b env1 S = some (.nx env2, S2) ∨ b env1 S = some (.ct env2, S2)) ∧ P env2 S2)
    (env : Sl) (S : Sto) (h : P env S) : ∃ env' S', forL (fun _ => True) f b xs env S = some (.nx env', S') ∧ P env' S' :=
  forL_inv xs (fun _ => P) (fun i hi env S h => ⟨trivial, hs _ (List.getElem_mem hi) env S h⟩) (fun _ _ _ => trivial) env S h
theorem mem_cutD {xs : List PyData} {lo hi : Option Int} {d : PyData} (h : d ∈ cutD xs lo hi) : d ∈ xs := List.mem_of_mem_drop (List.mem_of_mem_take h)
/-- the law's bits, as data -/
def intB (l : List Bool) : List PyData := l.map fun b => .int (b.toNat : Int)
theorem intB_len (l : List Bool) : (intB l).length = l.length := by simp [intB]
theorem intB_append (a b : List Bool) : intB (a ++ b) = intB a ++ intB b := by simp [intB]
theorem cutD_last {xs : List PyData} (h : 1 ≤ xs.length) : cutD xs (some (-1)) none = [(xs[xs.length - 1]?).getD .none] := by
  have e1 : HT.sIx xs.length 0 (some (-1)) = xs.length - 1 := by unfold HT.sIx; simp; omega
  have e2 : HT.sIx xs.length xs.length none = xs.length := rfl
  unfold cutD
  rw [e1, e2, show xs.length - (xs.length - 1) = 1 by omega]
  rw [List.drop_eq_getElem_cons (by omega), List.take_succ_cons, List.take_zero, List.getElem?_eq_getElem (by omega)]
  rfl
theorem cutD_len (xs : List PyData) (lo hi : Option Int) : (cutD xs lo hi).length ≤ xs.length := by
  unfold cutD
  simp
  omega
/-- whole numbers from 0 on, as data -/
def natsD (ns : List Nat) : List PyData := ns.map fun n : Nat => PyData.int (n : Int)
theorem sumW_nats (S : Sto) (ns : List Nat) : sumW [.d (.list (natsD ns))] S = some (.int (ns.sum : Nat)) := by
  rw [sumW_l]
  have e : natsD ns = (ns.map fun n : Nat => (n : Int)).map PyData.int := by simp [natsD]
  have e2 : (ns.map fun n : Nat => (n : Int)).sum = ((ns.sum : Nat) : Int) := by
    clear e
    induction ns with
    | nil => rfl
    | cons n ns ih => simp [ih]
  rw [e, allInt_map, ← e2]
  rfl
/-- a comprehension over a range -/
theorem lcL_range {f : PyData → Sl → Option Sl} {c : MT} {e : ME} {env : Sl} {S : Sto} {h : Nat → PyData} (lo : Int) (n : Nat)
    (H : ∀ i, i < n → ∃ env1, f (.int (lo + i)) env = some env1 ∧ c env1 S = some (true, S) ∧ e env1 S = some (.d (h i), S)) : lcL (fun _ => True) f c e env (rangeD lo n) S = some ((List.range n).map h, S) := by
  rw [lcL_map (h := fun x => match x with | .int j => h (j - lo).toNat | _ => .none)]
  · unfold rangeD
    rw [List.map_map]
    congr 2
    apply List.map_congr_left
    intro i _
    simp
    congr 1
    omega
  · intro x hx
    unfold rangeD at hx
    simp only [List.mem_map, List.mem_range] at hx
    obtain ⟨i, hi, rfl⟩ := hx
    obtain ⟨env1, h1, h2, h3⟩ := H i hi
    refine ⟨env1, h1, h2, ?_⟩
    rw [h3]
    simp
    congr 1
    omega
theorem enumD_eq (xs : List PyData) : enumD xs = (List.range xs.length).map fun i => .tuple [.int (i : Nat), (xs[i]?).getD .none] := by
  apply List.ext_getElem?
  intro i
  by_cases h : i < xs.length
  · rw [enumD_at (List.getElem?_eq_getElem h)]
    simp [h]
  · have h1 : (enumD xs)[i]? = none := by rw [List.getElem?_eq_none_iff, enumD_len]; omega
    rw [h1]
    symm
    rw [List.getElem?_eq_none_iff]
    simp
    omega
/-- a comprehension over an enumerate -/
theorem lcL_enum {f : PyData → Sl → Option Sl} {c : MT} {e : ME} {env : Sl} {S : Sto} {h : Nat → PyData} (xs : List PyData)
    (H : ∀ i x, xs[i]? = some x → ∃ env1, f (.tuple [.int (i : Nat), x]) env = some env1 ∧ c env1 S = some (true, S) ∧ e env1 S = some (.d (h i), S)) : lcL (fun _ => True) f c e env (enumD xs) S = some ((List.range xs.length).map h, S) := by
  rw [enumD_eq, lcL_map (h := fun x => match x with | .tuple (.int j :: _) => h j.toNat | _ => .none)]
  · rw [List.map_map]
    congr 2
  · intro x hx
    simp only [List.mem_map, List.mem_range] at hx
    obtain ⟨i, hi, rfl⟩ := hx
    have e1 : xs[i]? = some xs[i] := List.getElem?_eq_getElem hi
    obtain ⟨env1, h1, h2, h3⟩ := H i _ e1
    refine ⟨env1, ?_, h2, ?_⟩
    · rw [e1, Option.getD_some]; exact h1
    · rw [h3]; rfl
/-! Math, part C: the highest bit, runs of bits. -/
def reachN (n : Nat) : Nat := if n = 0 then 0 else n.log2 + 1
theorem reachN_zero : reachN 0 = 0 := rfl
theorem reachN_half {n : Nat} (h : n ≠ 0) : reachN n = reachN (n / 2) + 1 := by
  unfold reachN
  rw [if_neg h, Nat.log2_def]
  by_cases h2 : 2 ≤ n
  · rw [if_pos h2, if_neg (by omega)]
  · rw [if_neg h2, if_pos (by omega)]
theorem reachN_lt (n : Nat) : n < 2 ^ reachN n := by
  unfold reachN
  by_cases h : n = 0
  · subst h; decide
  · rw [if_neg h]
    exact Nat.lt_log2_self
theorem reachN_le {n w : Nat} (h : n < 2 ^ w) : reachN n ≤ w := by
  unfold reachN
  by_cases h0 : n = 0
  · rw [if_pos h0]; omega
  · rw [if_neg h0]
    exact (Nat.log2_lt h0).mpr h
theorem reachN_hi {n i : Nat} (h : reachN n ≤ i) : n.testBit i = false :=
  Nat.testBit_lt_two_pow (Nat.lt_of_lt_of_le (reachN_lt n) (Nat.pow_le_pow_right (by decide) h))
theorem reachN_top {n m : Nat} (h : reachN n = m + 1) : n.testBit m = true := by
  have h0 : n ≠ 0 := by rintro rfl; cases h
  unfold reachN at h
  rw [if_neg h0] at h
  have e : n.log2 = m := by omega
  have h1 := Nat.log2_self_le h0
  have h2 := Nat.lt_log2_self (n := n)
  rw [e] at h1 h2
  rw [Nat.testBit_eq_decide_div_mod_eq]
  have : n / 2 ^ m = 1 := by
    rw [Nat.pow_succ] at h2
    have hp := pow_pos' m
    exact (Nat.div_eq_iff hp).mpr ⟨by omega, by omega⟩
  rw [this]; rfl
theorem reachN_bound {n k : Nat} (h : ∀ i, k ≤ i → n.testBit i = false) : reachN n ≤ k := by
  cases hr : reachN n with
  | zero => omega
  | succ m =>
    have := reachN_top hr
    by_cases hk : k ≤ m
    · rw [h m hk] at this; cases this
    · omega
/-- the first place from j on at which p is not so, of k ones -/
def runF (p : Nat → Bool) : Nat → Nat → Nat
  | 0, j => j
  | k + 1, j => if p j then runF p k (j + 1) else j
theorem runF_congr {p q : Nat → Bool} : ∀ (k j : Nat), (∀ i, j ≤ i → i < j + k → p i = q i) → runF p k j = runF q k j
  | 0, _, _ => rfl
  | k + 1, j, h => by
    rw [runF, runF, h j (by omega) (by omega), runF_congr k (j + 1) fun i h1 h2 => h i (by omega) (by omega)]
theorem runF_le (p : Nat → Bool) : ∀ (k j : Nat), j ≤ runF p k j ∧ runF p k j ≤ j + k
  | 0, j => ⟨by rw [runF]; omega, by rw [runF]; omega⟩
  | k + 1, j => by
    rw [runF]
    have := runF_le p k (j + 1)
    split <;> omega
theorem intB_bits_at {n w i : Nat} (h : i < w) : (intB (bitsL n w))[i]? = some (.int ((n.testBit i).toNat : Nat)) := by
  simp [intB, bitsL, h]
theorem intB_get {l : List Bool} {i : Nat} (h : i < (intB l).length) : (intB l)[i] = .int ((l[i]'(by rw [intB_len] at h; exact h)).toNat : Nat) := by simp [intB]
theorem bool_one (b : Bool) : ((b.toNat : Int) = 1) = (b = true) := by cases b <;> simp
theorem bool_zero (b : Bool) : ((b.toNat : Int) = 0) = (b = false) := by cases b <;> simp
theorem modP (z : Int) (w : Nat) : ∃ n : Nat, n < 2 ^ w ∧ z % 2 ^ w = (n : Int) := by
  have hp := PySem.W.kbt_pos w
  have h1 := Int.emod_nonneg z (b := 2 ^ w) (by omega)
  have h2 := Int.emod_lt_of_pos z hp
  refine ⟨(z % 2 ^ w).toNat, ?_, by omega⟩
  have := pow_nat w
  omega
theorem mulOk_p2 {i j : Nat} (hi : i ≤ 100000) (hj : j ≤ 100000) : MulOk (2 ^ i - 1) (2 ^ j) := by
  refine .inr (.inr ⟨?_, ?_⟩)
  · have := pow_nat i
    have hp := pow_pos' i
    have := log2_lt_of_lt (i := ((2 : Int) ^ i - 1).natAbs) (k := i) (by omega)
    omega
  · rw [log2_pow_int]; omega
theorem log2_bits {z : Int} {k : Nat} (h : Builtin.Int.intBits z ≤ k) : z.natAbs.log2 ≤ k := by
  unfold Builtin.Int.intBits at h
  split at h
  · rename_i h0
    have : z.natAbs = 0 := by simpa using h0
    rw [this]; simp
  · omega
/-- the cells that a law goes through -/
theorem cells_ok (ns : List Int) (k : Int) (hk : 0 ≤ k) (h1 : ns.length ≤ 63) (h2 : ∀ z ∈ ns, Builtin.Int.intBits z ≤ 1048576) :
    ∃ z0 zs, cutD (ns.map PyData.int) none (some k) ++ [PyData.int (7919 * (ns.length : Int))] = (z0 :: zs).map PyData.int ∧ z0.natAbs.log2 < 2000000 := by
  have e : cutD (ns.map PyData.int) none (some k) = (ns.take k.toNat).map PyData.int := by
    obtain ⟨m, rfl⟩ := Int.eq_ofNat_of_zero_le hk
    have e1 : HT.sIx (ns.map PyData.int).length 0 none = 0 := rfl
    unfold cutD
    rw [e1, HT.sIx_nat, List.drop_zero, Nat.sub_zero, List.map_take]
    rw [Int.toNat_natCast]
    by_cases h : m ≤ (ns.map PyData.int).length
    · rw [Nat.min_eq_left h]
    · rw [Nat.min_eq_right (by omega), List.take_of_length_le (Nat.le_refl _), List.take_of_length_le (by omega)]
  rw [e]
  have hs : (7919 * (ns.length : Int)).natAbs.log2 < 2000000 := by
    have := log2_lt_of_lt (i := (7919 * (ns.length : Int)).natAbs) (k := 30) (by omega)
    omega
  cases hm : ns.take k.toNat with
  | nil => exact ⟨_, [], rfl, hs⟩
  | cons a r =>
    refine ⟨a, r ++ [7919 * (ns.length : Int)], by simp, ?_⟩
    have : a ∈ ns := List.mem_of_mem_take (i := k.toNat) (by rw [hm]; simp)
    have := log2_bits (h2 a this)
    omega
/-! Math, part D: masks of the highest bits. -/
/-- the bits r .. w-1 -/
def topM (w r : Nat) : Nat := 2 ^ w - 2 ^ r
theorem topM_bit {w r : Nat} (h : r ≤ w) (i : Nat) : (topM w r).testBit i = (decide (r ≤ i) && decide (i < w)) := by
  have e : topM w r = (2 ^ (w - r) - 1) * 2 ^ r := by
    unfold topM
    rw [Nat.sub_mul, ← Nat.pow_add, show w - r + r = w by omega, Nat.one_mul]
  rw [e, Nat.testBit_mul_two_pow, Nat.testBit_two_pow_sub_one]
  by_cases h1 : r ≤ i
  · have : (i - r < w - r) = (i < w) := by simp; omega
    simp [h1, this]
  · simp [h1]
theorem topM_succ {w m : Nat} (h : m < w) : topM w m = topM w (m + 1) + 2 ^ m := by
  unfold topM
  have := Nat.pow_le_pow_right (n := 2) (by decide) (show m + 1 ≤ w by omega)
  rw [Nat.pow_succ] at this ⊢
  omega
theorem testBit_two_pow_mul' (a m i : Nat) : (2 ^ m * a).testBit i = (decide (m ≤ i) && a.testBit (i - m)) := by
  rw [Nat.mul_comm, Nat.testBit_mul_two_pow]
theorem topM_and {w m a : Nat} (h : m ≤ w) (ha : a < 2 ^ w) : topM w m &&& a = 2 ^ m * (a / 2 ^ m) := by
  apply Nat.eq_of_testBit_eq
  intro i
  rw [Nat.testBit_and, topM_bit h, testBit_two_pow_mul', ← Nat.shiftRight_eq_div_pow, Nat.testBit_shiftRight]
  by_cases h1 : m ≤ i
  · rw [show m + (i - m) = i by omega]
    by_cases h2 : i < w
    · simp [h1, h2]
    · have : a.testBit i = false := Nat.testBit_lt_two_pow (Nat.lt_of_lt_of_le ha (Nat.pow_le_pow_right (by decide) (by omega)))
      simp [h1, h2, this]
  · simp [h1]
theorem topM_and_succ {w m a : Nat} (h : m < w) (ha : a < 2 ^ w) : topM w m &&& a = (topM w (m + 1) &&& a) + (a.testBit m).toNat * 2 ^ m := by
  rw [topM_and (by omega) ha, topM_and (by omega) ha, ← bit_mod, Nat.pow_succ, ← Nat.div_div_eq_div_mul, Nat.mul_assoc, ← Nat.mul_comm (2 ^ m) (a / 2 ^ m % 2), ← Nat.mul_add]
  congr 1
  omega
theorem topM_not_succ {w m a : Nat} (h : m < w) (ha : a < 2 ^ w) : andNot (topM w m) a = andNot (topM w (m + 1)) a + (!a.testBit m).toNat * 2 ^ m := by
  have h1 := andNot_add (topM w m) a
  have h2 := andNot_add (topM w (m + 1)) a
  have h3 := topM_and_succ h ha
  have h4 := topM_succ h
  cases hb : a.testBit m <;> simp [hb] at h3 ⊢ <;> omega
theorem topM_self (w : Nat) : topM w w = 0 := by unfold topM; omega
theorem zero_andNot (a : Nat) : andNot 0 a = 0 := by simp [andNot]
/-- what both ends of a range have alike: above the highest bit at which they are unlike -/
def shR (a b : Nat) : Nat := reachN (a ^^^ b)
theorem shR_le {a b w : Nat} (ha : a < 2 ^ w) (hb : b < 2 ^ w) : shR a b ≤ w := reachN_le (Nat.xor_lt_two_pow ha hb)
theorem shR_eq {a b i : Nat} (h : shR a b ≤ i) : a.testBit i = b.testBit i := by
  have := reachN_hi h
  rw [Nat.testBit_xor] at this
  simpa using this
theorem div_eq_of_bits {a b r : Nat} (h : ∀ i, r ≤ i → a.testBit i = b.testBit i) : a / 2 ^ r = b / 2 ^ r := by
  apply Nat.eq_of_testBit_eq
  intro i
  rw [← Nat.shiftRight_eq_div_pow, ← Nat.shiftRight_eq_div_pow, Nat.testBit_shiftRight, Nat.testBit_shiftRight]
  exact h _ (by omega)
theorem bits_of_div_eq {a b r : Nat} (h : a / 2 ^ r = b / 2 ^ r) (i : Nat) (hi : r ≤ i) : a.testBit i = b.testBit i := by
  have e : ∀ x : Nat, x.testBit i = (x / 2 ^ r).testBit (i - r) := fun x => by
    rw [← Nat.shiftRight_eq_div_pow, Nat.testBit_shiftRight, show r + (i - r) = i by omega]
  rw [e a, e b, h]
/-- between the two all numbers have the shared bits -/
theorem between_bits {a b c i : Nat} (h1 : a ≤ c) (h2 : c ≤ b) (h : shR a b ≤ i) : c.testBit i = a.testBit i := by
  have e := div_eq_of_bits (r := shR a b) fun i hi => shR_eq (a := a) (b := b) hi
  have m1 := Nat.div_le_div_right (c := 2 ^ shR a b) h1
  have m2 := Nat.div_le_div_right (c := 2 ^ shR a b) h2
  exact bits_of_div_eq (by omega) i h
theorem andNot_self_top (w r a : Nat) : (topM w r : Int) - ((topM w r &&& a : Nat) : Int) = (andNot (topM w r) a : Nat) := by
  have := andNot_add (topM w r) a
  omega
theorem topM_int {w r : Nat} (h : r ≤ w) : ((2 ^ w - 1 : Nat) : Int) - ((2 ^ r - 1 : Nat) : Int) = (topM w r : Nat) := by
  have h1 := pow_pos' w
  have h2 := pow_pos' r
  have h3 := Nat.pow_le_pow_right (n := 2) (by decide) h
  unfold topM
  omega
theorem nat_and_eq {a b c : Nat} (h : ∀ i, (a.testBit i && b.testBit i) = c.testBit i) : a &&& b = c := Nat.eq_of_testBit_eq fun i => by rw [Nat.testBit_and, h]
theorem mulOk_nat {a b : Nat} {k : Nat} (hk : k ≤ 100000) (ha : a < 2 ^ k) (hb : b < 2 ^ k) : MulOk (a : Int) (b : Int) := by
  have h1 := log2_lt_of_lt ha
  have h2 := log2_lt_of_lt hb
  exact .inr (.inr ⟨by rw [Int.natAbs_natCast]; omega, by rw [Int.natAbs_natCast]; omega⟩)
/-! Math, part E: words, rows, the law's drawing. -/
inductive Wd where
  | inp | num | not | and | or | xor | add | sub | mul | left | right | slide | cut | wide | sign | same | less | under | pick
  deriving DecidableEq
def Wd.str : Wd → Str
  | .inp => "in" | .num => "num" | .not => "not" | .and => "and" | .or => "or" | .xor => "xor" | .add => "add" | .sub => "sub" | .mul => "mul" | .left => "left"
  | .right => "right" | .slide => "slide" | .cut => "cut" | .wide => "wide" | .sign => "sign" | .same => "same" | .less => "less" | .under => "under" | .pick => "pick"
theorem Wd.str_inj {a b : Wd} : a.str = b.str ↔ a = b := by
  constructor
  · intro h
    cases a <;> cases b <;> first | rfl | exact absurd h (by decide +kernel)
  · rintro rfl; rfl
theorem wd_inp : Str.ofString "in" = Wd.inp.str := rfl
theorem wd_num : Str.ofString "num" = Wd.num.str := rfl
theorem wd_not : Str.ofString "not" = Wd.not.str := rfl
theorem wd_and : Str.ofString "and" = Wd.and.str := rfl
theorem wd_or : Str.ofString "or" = Wd.or.str := rfl
theorem wd_xor : Str.ofString "xor" = Wd.xor.str := rfl
theorem wd_add : Str.ofString "add" = Wd.add.str := rfl
theorem wd_sub : Str.ofString "sub" = Wd.sub.str := rfl
theorem wd_mul : Str.ofString "mul" = Wd.mul.str := rfl
theorem wd_left : Str.ofString "left" = Wd.left.str := rfl
theorem wd_right : Str.ofString "right" = Wd.right.str := rfl
theorem wd_slide : Str.ofString "slide" = Wd.slide.str := rfl
theorem wd_cut : Str.ofString "cut" = Wd.cut.str := rfl
theorem wd_wide : Str.ofString "wide" = Wd.wide.str := rfl
theorem wd_sign : Str.ofString "sign" = Wd.sign.str := rfl
theorem wd_same : Str.ofString "same" = Wd.same.str := rfl
theorem wd_less : Str.ofString "less" = Wd.less.str := rfl
theorem wd_under : Str.ofString "under" = Wd.under.str := rfl
theorem wd_pick : Str.ofString "pick" = Wd.pick.str := rfl
/-- a word by its data -/
def wD (a : Wd) : PyData := .str a.str
theorem wD_eq (a : Wd) : wD a = .str a.str := rfl
@[simp] theorem wc_inp : PyData.str (Str.ofString "in") = wD .inp := rfl
@[simp] theorem wc_num : PyData.str (Str.ofString "num") = wD .num := rfl
@[simp] theorem wc_not : PyData.str (Str.ofString "not") = wD .not := rfl
@[simp] theorem wc_and : PyData.str (Str.ofString "and") = wD .and := rfl
@[simp] theorem wc_or : PyData.str (Str.ofString "or") = wD .or := rfl
@[simp] theorem wc_xor : PyData.str (Str.ofString "xor") = wD .xor := rfl
@[simp] theorem wc_add : PyData.str (Str.ofString "add") = wD .add := rfl
@[simp] theorem wc_sub : PyData.str (Str.ofString "sub") = wD .sub := rfl
@[simp] theorem wc_mul : PyData.str (Str.ofString "mul") = wD .mul := rfl
@[simp] theorem wc_left : PyData.str (Str.ofString "left") = wD .left := rfl
@[simp] theorem wc_right : PyData.str (Str.ofString "right") = wD .right := rfl
@[simp] theorem wc_slide : PyData.str (Str.ofString "slide") = wD .slide := rfl
@[simp] theorem wc_cut : PyData.str (Str.ofString "cut") = wD .cut := rfl
@[simp] theorem wc_wide : PyData.str (Str.ofString "wide") = wD .wide := rfl
@[simp] theorem wc_sign : PyData.str (Str.ofString "sign") = wD .sign := rfl
@[simp] theorem wc_same : PyData.str (Str.ofString "same") = wD .same := rfl
@[simp] theorem wc_less : PyData.str (Str.ofString "less") = wD .less := rfl
@[simp] theorem wc_under : PyData.str (Str.ofString "under") = wD .under := rfl
@[simp] theorem wc_pick : PyData.str (Str.ofString "pick") = wD .pick := rfl
@[simp] theorem eqW_ww (S : Sto) (a b : Wd) : eqW (.d (wD a)) (.d (wD b)) S = some (.bool (decide (a = b))) := by
  rw [wD_eq, wD_eq, eqW_ss]
  simp [Wd.str_inj]
@[simp] theorem neW_ww (S : Sto) (a b : Wd) : neW (.d (wD a)) (.d (wD b)) S = some (.bool (!decide (a = b))) := by
  rw [wD_eq, wD_eq, neW_ss]
  simp [Wd.str_inj]
theorem eqv_ww (a b : Wd) : PyData.eqv (wD a) (wD b) = decide (a = b) := by
  rw [wD_eq, wD_eq, eqv_str]
  simp [Wd.str_inj]
theorem memW_ws (S : Sto) (a : Wd) (ws : List Wd) : memW (.d (wD a)) (.d (.tuple (ws.map wD))) S = some (decide (a ∈ ws)) := by
  have h : (ws.map wD).all flatD = true := by
    rw [List.all_eq_true]
    intro x hx
    obtain ⟨b, _, rfl⟩ := List.mem_map.mp hx
    rfl
  have e : memW (.d (wD a)) (.d (.tuple (ws.map wD))) S = (if flatD (wD a) && (ws.map wD).all flatD then some ((ws.map wD).any fun z => PyData.eqv z (wD a)) else
      (getL S (.d (.tuple (ws.map wD)))).bind fun ys => if SeqAt.shaped (wD a) && SeqAt.shaped (.list ys) then some (ys.any fun z => PyData.eqv z (wD a)) else none) := rfl
  rw [e, h, if_pos (show (flatD (wD a) && true) = true from rfl), List.any_map]
  congr 1
  induction ws with
  | nil => simp
  | cons b ws ih =>
    have ih' := ih (by rw [List.map_cons, List.all_cons, Bool.and_eq_true] at h; exact h.2) rfl
    rw [List.any_cons, ih']
    simp [eqv_ww, eq_comm]
/-- a row of a program -/
structure Rw where
  word : Wd
  w : Nat
  ops : List Nat
def natD (n : Nat) : PyData := .int (n : Int)
def Rw.toD (r : Rw) : PyData := .tuple (wD r.word :: .int (r.w : Int) :: r.ops.map natD)
/-- a row fits behind rows of these widths -/
def Rw.ok (ws : List Nat) (r : Rw) : Prop := 1 ≤ r.w ∧ r.w ≤ 64 ∧ match r.word, r.ops with
  | .inp, [] => True
  | .num, [v] => v < 2 ^ r.w
  | .not, [a] => ws[a]? = some r.w
  | .left, [a, k] => ws[a]? = some r.w ∧ k < 64
  | .right, [a, k] => ws[a]? = some r.w ∧ k < 64
  | .slide, [a, k] => ws[a]? = some r.w ∧ k < 64
  | .cut, [a] => ∃ v, ws[a]? = some v ∧ r.w ≤ v
  | .wide, [a] => ∃ v, ws[a]? = some v ∧ v ≤ r.w
  | .sign, [a] => ∃ v, ws[a]? = some v ∧ v ≤ r.w
  | .and, [a, b] => ws[a]? = some r.w ∧ ws[b]? = some r.w
  | .or, [a, b] => ws[a]? = some r.w ∧ ws[b]? = some r.w
  | .xor, [a, b] => ws[a]? = some r.w ∧ ws[b]? = some r.w
  | .add, [a, b] => ws[a]? = some r.w ∧ ws[b]? = some r.w
  | .sub, [a, b] => ws[a]? = some r.w ∧ ws[b]? = some r.w
  | .mul, [a, b] => ws[a]? = some r.w ∧ ws[b]? = some r.w
  | .same, [a, b] => r.w = 1 ∧ ∃ v, ws[a]? = some v ∧ ws[b]? = some v
  | .less, [a, b] => r.w = 1 ∧ ∃ v, ws[a]? = some v ∧ ws[b]? = some v
  | .under, [a, b] => r.w = 1 ∧ ∃ v, ws[a]? = some v ∧ ws[b]? = some v
  | .pick, [c, a, b] => ws[c]? = some 1 ∧ ws[a]? = some r.w ∧ ws[b]? = some r.w
  | _, _ => False
def wsOf (rs : List Rw) : List Nat := rs.map Rw.w
def okP (rs : List Rw) : Prop := ∀ (i : Nat) (r : Rw), rs[i]? = some r → r.ok (wsOf (rs.take i))
theorem okP_nil : okP [] := fun i r h => by simp at h
theorem okP_snoc {rs : List Rw} {r : Rw} (h : okP rs) (hr : r.ok (wsOf rs)) : okP (rs ++ [r]) := by
  intro i x hx
  by_cases hi : i < rs.length
  · rw [List.getElem?_append_left hi] at hx
    have := h i x hx
    rwa [List.take_append_of_le_length (by omega)]
  · have h1 := (List.getElem?_eq_some_iff.mp hx).1
    simp at h1
    have : i = rs.length := by omega
    subst this
    simp at hx
    subst hx
    simpa using hr
/-! the state of the drawing -/
abbrev stO (ns : List Int) (k : Nat) (m : Int) : Ob := .lst [scr ns, .int (k : Int), .int m]
def Rd (ns : List Int) (n B : Nat) (S : Sto) : Prop := ∃ k m, S[n]? = some (stO ns k m) ∧ k ≤ B
/-- of the store but the n-th object has stayed -/
def Oth (n : Nat) (S S' : Sto) : Prop := S'.length = S.length ∧ ∀ i, i ≠ n → S'[i]? = S[i]?
theorem Oth.refl (n : Nat) (S : Sto) : Oth n S S := ⟨rfl, fun _ _ => rfl⟩
theorem Oth.trans {n : Nat} {S S1 S2 : Sto} (a : Oth n S S1) (b : Oth n S1 S2) : Oth n S S2 := ⟨b.1.trans a.1, fun i h => (b.2 i h).trans (a.2 i h)⟩
theorem Oth.set (n : Nat) (S : Sto) (o : Ob) : Oth n S (S.set n o) := ⟨by simp, fun i h => by rw [List.getElem?_set_ne (Ne.symm h)]⟩
theorem Oth.take {n : Nat} {S S' : Sto} (a : Oth n S S') : S'.take S.length = S' := by rw [← a.1, List.take_length]
theorem Rd.mono {ns : List Int} {n B B' : Nat} {S : Sto} (h : Rd ns n B S) (hb : B ≤ B') : Rd ns n B' S := let ⟨k, m, a, b⟩ := h; ⟨k, m, a, by omega⟩
/-! Math, part F: rows in the store. -/
/-- of the store but the n-th and the q-th object have stayed -/
def Oth2 (n q : Nat) (S S' : Sto) : Prop := S'.length = S.length ∧ ∀ i, i ≠ n → i ≠ q → S'[i]? = S[i]?
theorem Oth2.refl (n q : Nat) (S : Sto) : Oth2 n q S S := ⟨rfl, fun _ _ _ => rfl⟩
theorem Oth2.trans {n q : Nat} {S S1 S2 : Sto} (a : Oth2 n q S S1) (b : Oth2 n q S1 S2) : Oth2 n q S S2 := ⟨b.1.trans a.1, fun i h h' => (b.2 i h h').trans (a.2 i h h')⟩
theorem Oth2.take {n q : Nat} {S S' : Sto} (a : Oth2 n q S S') : S'.take S.length = S' := by rw [← a.1, List.take_length]
theorem Oth.to2 {n : Nat} {S S' : Sto} (q : Nat) (a : Oth n S S') : Oth2 n q S S' := ⟨a.1, fun i h _ => a.2 i h⟩
theorem Oth2.setq (n q : Nat) (S : Sto) (o : Ob) : Oth2 n q S (S.set q o) := ⟨by simp, fun i _ h => by rw [List.getElem?_set_ne (Ne.symm h)]⟩
structure Pg (ns : List Int) (n q B : Nat) (rs : List Rw) (S : Sto) : Prop where
  rd : Rd ns n B S
  ro : S[q]? = some (.lst (rs.map Rw.toD))
  ne : n ≠ q
  ok : okP rs
theorem Pg.mono {ns : List Int} {n q B B' : Nat} {rs : List Rw} {S : Sto} (h : Pg ns n q B rs S) (hb : B ≤ B') : Pg ns n q B' rs S := ⟨h.rd.mono hb, h.ro, h.ne, h.ok⟩
theorem Pg.drawn {ns : List Int} {n q B B' : Nat} {rs : List Rw} {S S' : Sto} (h : Pg ns n q B rs S) (r : Rd ns n B' S') (o : Oth n S S') : Pg ns n q B' rs S' := ⟨r, (o.2 q (Ne.symm h.ne)).trans h.ro, h.ne, h.ok⟩
theorem Pg.app {ns : List Int} {n q B : Nat} {rs : List Rw} {S : Sto} {r : Rw} (h : Pg ns n q B rs S) (hr : r.ok (wsOf rs)) : Pg ns n q B (rs ++ [r]) (S.set q (.lst (rs.map Rw.toD ++ [r.toD]))) := by
  obtain ⟨⟨k, m, h1, h2⟩, h3, h4, h5⟩ := h
  have hq := (List.getElem?_eq_some_iff.mp h3).1
  refine ⟨⟨k, m, ?_, h2⟩, ?_, h4, okP_snoc h5 hr⟩
  · rw [List.getElem?_set_ne (Ne.symm h4)]; exact h1
  · rw [List.getElem?_set_self hq, List.map_append]; rfl
theorem ws_at {rs : List Rw} {i : Nat} {r : Rw} (h : rs[i]? = some r) : (wsOf rs)[i]? = some r.w := by
  unfold wsOf
  rw [List.getElem?_map, h]
  rfl
theorem ws_len (rs : List Rw) : (wsOf rs).length = rs.length := by simp [wsOf]
theorem ok_w {rs : List Rw} (h : okP rs) {i : Nat} {r : Rw} (e : rs[i]? = some r) : 1 ≤ r.w ∧ r.w ≤ 64 := ⟨(h i r e).1, (h i r e).2.1⟩
theorem ws_pre {rs rs' : List Rw} (h : rs <+: rs') {i v : Nat} (e : (wsOf rs)[i]? = some v) : (wsOf rs')[i]? = some v := by
  obtain ⟨t, rfl⟩ := h
  have hi := (List.getElem?_eq_some_iff.mp e).1
  unfold wsOf at e hi ⊢
  rw [List.map_append, List.getElem?_append_left hi]
  exact e
theorem row_at {rs : List Rw} {i : Nat} {r : Rw} (h : rs[i]? = some r) : (rs.map Rw.toD)[i]? = some r.toD := by rw [List.getElem?_map, h]; rfl
@[simp] theorem row_ix1 (S : Sto) (r : Rw) : ixW (.d r.toD) (.d (.int 1)) S = some (.int (r.w : Int)) := by
  unfold Rw.toD
  rw [ixW_t, atI_pos (by omega)]
  rfl
@[simp] theorem row_ix0 (S : Sto) (r : Rw) : ixW (.d r.toD) (.d (.int 0)) S = some (wD r.word) := by
  unfold Rw.toD
  rw [ixW_t, atI_pos (by omega)]
  rfl
theorem rowD (a : Wd) (w : Nat) (ops : List Nat) : PyData.tuple (wD a :: .int (w : Int) :: ops.map natD) = (Rw.mk a w ops).toD := rfl
theorem shaped_flat {xs : List PyData} (h : ∀ x ∈ xs, x.canLay0 = true ∧ x.depth = 0) : SeqAt.shaped (.list xs) = true ∧ SeqAt.shaped (.tuple xs) = true := by
  have h1 : PyData.canLayAll0 xs = true := by
    induction xs with
    | nil => simp [PyData.canLayAll0]
    | cons x xs ih => simp [PyData.canLayAll0, (h x (by simp)).1, ih fun y hy => h y (List.mem_cons_of_mem _ hy)]
  have h2 : PyData.depthAll xs = 0 := by
    clear h1
    induction xs with
    | nil => simp [PyData.depthAll]
    | cons x xs ih => simp [PyData.depthAll, (h x (by simp)).2, ih fun y hy => h y (List.mem_cons_of_mem _ hy)]
  simp [SeqAt.shaped, PyData.canLay0, PyData.depth, h1, h2]
theorem shaped_nats (ns : List Nat) : SeqAt.shaped (.list (natsD ns)) = true := (shaped_flat fun x hx => by
  obtain ⟨n, _, rfl⟩ := List.mem_map.mp hx
  simp [PyData.canLay0, PyData.depth]).1
theorem neW_nats_nil (S : Sto) (ns : List Nat) : neW (.d (.list (natsD ns))) (.d (.list [])) S = some (.bool (!decide (ns = []))) := by
  have h1 := shaped_nats ns
  have h2 := shaped_nats []
  have e : PyData.eqv (.list (natsD ns)) (.list []) = decide (ns = []) := by
    cases ns with
    | nil => simp [natsD, PyData.eqv, PyData.eqvAll]
    | cons a r => simp [natsD, PyData.eqv, PyData.eqvAll]
  have h2' : SeqAt.shaped (.list []) = true := h2
  simp [neW, datW, eqD, scalD, h1, h2', e]
theorem Rw.ok.mono {ws ws' : List Nat} {r : Rw} (p : ∀ i v : Nat, ws[i]? = some v → ws'[i]? = some v) (h : r.ok ws) : r.ok ws' := by
  obtain ⟨wd, w, ops⟩ := r
  obtain ⟨h1, h2, h3⟩ := h
  refine ⟨h1, h2, ?_⟩
  simp only at h3 ⊢
  split at h3
  · trivial
  · exact h3
  · exact p _ _ h3
  · exact ⟨p _ _ h3.1, h3.2⟩
  · exact ⟨p _ _ h3.1, h3.2⟩
  · exact ⟨p _ _ h3.1, h3.2⟩
  · exact let ⟨v, a, b⟩ := h3; ⟨v, p _ _ a, b⟩
  · exact let ⟨v, a, b⟩ := h3; ⟨v, p _ _ a, b⟩
  · exact let ⟨v, a, b⟩ := h3; ⟨v, p _ _ a, b⟩
  · exact ⟨p _ _ h3.1, p _ _ h3.2⟩
  · exact ⟨p _ _ h3.1, p _ _ h3.2⟩
  · exact ⟨p _ _ h3.1, p _ _ h3.2⟩
  · exact ⟨p _ _ h3.1, p _ _ h3.2⟩
  · exact ⟨p _ _ h3.1, p _ _ h3.2⟩
  · exact ⟨p _ _ h3.1, p _ _ h3.2⟩
  · exact let ⟨e, v, a, b⟩ := h3; ⟨e, v, p _ _ a, p _ _ b⟩
  · exact let ⟨e, v, a, b⟩ := h3; ⟨e, v, p _ _ a, p _ _ b⟩
  · exact let ⟨e, v, a, b⟩ := h3; ⟨e, v, p _ _ a, p _ _ b⟩
  · exact ⟨p _ _ h3.1, p _ _ h3.2.1, p _ _ h3.2.2⟩
  · exact h3.elim
def okR (rs : List Rw) : Prop := ∀ r ∈ rs, r.ok (wsOf rs)
theorem okP.take {rs : List Rw} (h : okP rs) (k : Nat) : okP (rs.take k) := by
  intro i r e
  rw [List.getElem?_take] at e
  split at e
  · rename_i hi
    have := h i r e
    rwa [List.take_take, Nat.min_eq_left (by omega)]
  · cases e
theorem okP.okR {rs : List Rw} (h : okP rs) : okR rs := by
  intro r hr
  obtain ⟨i, hi, e⟩ := List.getElem_of_mem hr
  have e' : rs[i]? = some r := by rw [List.getElem?_eq_getElem hi, e]
  exact (h i r e').mono fun j v hj => ws_pre (List.take_prefix i rs) hj
/-! Math, part G: what the words tell. -/
theorem row_ix3 (S : Sto) (r : Rw) (a b : Nat) (t : List Nat) (h : r.ops = a :: b :: t) : ixW (.d r.toD) (.d (.int 3)) S = some (.int (b : Int)) := by
  unfold Rw.toD
  rw [h, ixW_t, atI_pos (by omega)]
  rfl
theorem row_ix2 (S : Sto) (r : Rw) (a : Nat) (t : List Nat) (h : r.ops = a :: t) : ixW (.d r.toD) (.d (.int 2)) S = some (.int (a : Int)) := by
  unfold Rw.toD
  rw [h, ixW_t, atI_pos (by omega)]
  rfl
def subN (w a b : Nat) : Nat := (((a : Int) - b) % 2 ^ w).toNat
theorem mask_nat (w : Nat) (z : Int) : Builtin.bitAnd z ((2 ^ w - 1 : Nat) : Int) = z % 2 ^ w := by
  have : ((2 ^ w - 1 : Nat) : Int) = 2 ^ w - 1 := by have := pow_pos' w; rw [pow_nat]; omega
  rw [this, PySem.W.kbt_mask]
theorem subN_int (w a b : Nat) : ((a : Int) - b) % 2 ^ w = (subN w a b : Nat) := by
  have := Int.emod_nonneg ((a : Int) - b) (b := 2 ^ w) (by have := PySem.W.kbt_pos w; omega)
  unfold subN; omega
theorem subN_eq {w a b : Nat} (hb : b < 2 ^ w) : subN w a b = (a + (2 ^ w - b)) % 2 ^ w := by
  have h := subN_int w a b
  have e : (a : Int) - b = ((a + (2 ^ w - b) : Nat) : Int) - 2 ^ w := by rw [pow_nat]; omega
  rw [e, Int.sub_emod_right, pow_nat] at h
  omega
theorem mod_int (w a : Nat) : (a : Int) % 2 ^ w = ((a % 2 ^ w : Nat) : Int) := by rw [pow_nat]; omega
def strN (n w W : Nat) : Nat := if n.testBit (w - 1) then n + (2 ^ W - 2 ^ w) else n
theorem strN_bits {n w W : Nat} (hw : 1 ≤ w) (hW : w ≤ W) (hn : n < 2 ^ w) : strN n w W = worthL (bitsL n w ++ List.replicate (W - w) (n.testBit (w - 1))) := by
  rw [worthL_append, worthL_bits' hn, bitsL_length]
  unfold strN
  cases n.testBit (w - 1)
  · rw [worthL_zeros]; simp
  · have h1 := worthL_ones (W - w)
    have h2 : 2 ^ W = 2 ^ w * 2 ^ (W - w) := by rw [← Nat.pow_add]; congr 1; omega
    have h3 : worthL (List.replicate (W - w) true) = 2 ^ (W - w) - 1 := by omega
    simp [h3, h2, Nat.mul_sub]
theorem strN_lt {n w W : Nat} (hw : 1 ≤ w) (hW : w ≤ W) (hn : n < 2 ^ w) : strN n w W < 2 ^ W := by
  rw [strN_bits hw hW hn]
  have := worthL_lt (bitsL n w ++ List.replicate (W - w) (n.testBit (w - 1)))
  simp [bitsL_length] at this
  rwa [show w + (W - w) = W by omega] at this
/-- not, shifts, widths -/
def movedN (r : Rw) (vw x : Nat) : Nat := match r.word with
  | .not => 2 ^ vw - 1 - x
  | .left => x * 2 ^ (r.ops.getD 1 0) % 2 ^ vw
  | .right => x / 2 ^ (r.ops.getD 1 0)
  | .slide => strN x vw (vw + r.ops.getD 1 0) / 2 ^ (r.ops.getD 1 0)
  | .cut => x % 2 ^ r.w
  | .sign => strN x vw r.w
  | _ => x
def joinedN (r : Rw) (a b : Nat) : Nat := match r.word with
  | .and => a &&& b | .or => a ||| b | .xor => a ^^^ b
  | .add => (a + b) % 2 ^ r.w | .sub => subN r.w a b | _ => a * b % 2 ^ r.w
def comparedN (wd : Wd) (vw a b : Nat) : Nat := match wd with
  | .same => (decide (a = b)).toNat
  | .under => (decide (a ^^^ 2 ^ (vw - 1) < b ^^^ 2 ^ (vw - 1))).toNat
  | _ => (decide (a < b)).toNat
/-! bits, as lists -/
def addL : List Bool → List Bool → Bool → List Bool
  | x :: xs, y :: ys, c => (x ^^ y ^^ c) :: addL xs ys ((x && y) || (x && c) || (y && c))
  | _, _, _ => []
theorem addL_len : ∀ (xs ys : List Bool) (c : Bool), xs.length = ys.length → (addL xs ys c).length = xs.length
  | [], [], _, _ => rfl
  | x :: xs, y :: ys, c, h => by simp [addL, addL_len xs ys _ (by simpa using h)]
  | [], _ :: _, _, h => by simp at h
  | _ :: _, [], _, h => by simp at h
theorem addL_worth : ∀ (xs ys : List Bool) (c : Bool), xs.length = ys.length → worthL (addL xs ys c) = (worthL xs + worthL ys + c.toNat) % 2 ^ xs.length
  | [], [], c, _ => by simp [addL, worthL, Nat.mod_one]
  | x :: xs, y :: ys, c, h => by
    have ih := addL_worth xs ys ((x && y) || (x && c) || (y && c)) (by simpa using h)
    rw [addL, worthL, ih, worthL, worthL, List.length_cons, Nat.pow_succ]
    have hp := pow_pos' xs.length
    have key : ∀ (A m b : Nat), 0 < m → b < 2 → b + 2 * (A % m) = (b + 2 * A) % (m * 2) := fun A m b hm hb => by
      have h1 := Nat.div_add_mod A m
      have h2 := Nat.mod_lt A hm
      have h3 : b + 2 * A = (b + 2 * (A % m)) + m * 2 * (A / m) := by
        rw [Nat.mul_right_comm]
        generalize A % m = R at *
        generalize hq : m * (A / m) = Q at *
        omega
      rw [h3, Nat.add_mul_mod_self_left, Nat.mod_eq_of_lt (show b + 2 * (A % m) < m * 2 by omega)]
    have hb : (x ^^ y ^^ c).toNat < 2 := by cases x <;> cases y <;> cases c <;> decide
    rw [key _ _ _ hp hb]
    congr 1
    cases x <;> cases y <;> cases c <;> simp <;> omega
  | [], _ :: _, _, h => by simp at h
  | _ :: _, [], _, h => by simp at h
theorem worthL_not (l : List Bool) : worthL (l.map (!·)) + worthL l + 1 = 2 ^ l.length := by
  induction l with
  | nil => rfl
  | cons b r ih =>
    rw [List.map_cons, worthL, worthL, List.length_cons, Nat.pow_succ]
    cases b <;> simp <;> omega
theorem worthL_zipWith (f : Bool → Bool → Bool) (g : Nat → Nat → Nat) (hf : f false false = false) (h : ∀ a b i, (g a b).testBit i = f (a.testBit i) (b.testBit i)) {w : Nat} (a b : Nat) (ha : a < 2 ^ w) (hb : b < 2 ^ w) :
    worthL ((bitsL a w).zipWith f (bitsL b w)) = g a b := by
  apply Nat.eq_of_testBit_eq
  intro i
  rw [worthL_bit, h, List.getElem?_zipWith, bitsL_at, bitsL_at]
  by_cases hi : i < w
  · simp [hi]
  · have e1 : a.testBit i = false := Nat.testBit_lt_two_pow (Nat.lt_of_lt_of_le ha (Nat.pow_le_pow_right (by decide) (by omega)))
    have e2 : b.testBit i = false := Nat.testBit_lt_two_pow (Nat.lt_of_lt_of_le hb (Nat.pow_le_pow_right (by decide) (by omega)))
    simp [hi, e1, e2, hf]
/-- highest sign first -/
def lexB : List Bool → List Bool → Bool
  | x :: xs, y :: ys => if x = y then lexB xs ys else (!x && y)
  | _, _ => false
theorem lexB_worth : ∀ (xs ys : List Bool), xs.length = ys.length → lexB xs ys = decide (worthL xs.reverse < worthL ys.reverse)
  | [], [], _ => by simp [lexB]
  | x :: xs, y :: ys, h => by
    have hl : xs.length = ys.length := by simpa using h
    have ih := lexB_worth xs ys hl
    have h1 := worthL_lt xs.reverse
    have h2 := worthL_lt ys.reverse
    rw [List.length_reverse] at h1 h2
    rw [List.reverse_cons, List.reverse_cons, worthL_append, worthL_append, lexB, List.length_reverse, List.length_reverse, ih]
    rw [← hl] at h2 ⊢
    cases x <;> cases y <;> simp [worthL] <;> first | omega | rfl | exact decide_eq_decide.mpr Iff.rfl
  | [], _ :: _, h => by simp at h
  | _ :: _, [], h => by simp at h
theorem dataLt_bits : ∀ (xs ys : List Bool), xs.length = ys.length → PySem.W.dataLt (.list (intB xs)) (.list (intB ys)) = lexB xs ys ∧ PySem.W.alikeAll (intB xs) (intB ys) = true
  | [], [], _ => by
    rw [PySem.W.dataLt_list]
    refine ⟨?_, rfl⟩
    simp [intB, lexB, PySem.W.keyToksAll]
    rfl
  | x :: xs, y :: ys, h => by
    obtain ⟨ih, ia⟩ := dataLt_bits xs ys (by simpa using h)
    have al : PySem.W.alike (.int (x.toNat : Int)) (.int (y.toNat : Int)) = true := rfl
    rw [PySem.W.dataLt_list] at ih ⊢
    have ex : intB (x :: xs) = .int (x.toNat : Int) :: intB xs := rfl
    have ey : intB (y :: ys) = .int (y.toNat : Int) :: intB ys := rfl
    rw [ex, ey, lexB]
    refine ⟨?_, by simp [PySem.W.alikeAll, al, ia]⟩
    by_cases c : x = y
    · have e : PyData.eqv (.int (x.toNat : Int)) (.int (y.toNat : Int)) = true := by rw [eqv_int, c]; simp
      rw [PySem.W.dataLt_all_yes al e, ih, if_pos c]
    · have e : PyData.eqv (.int (x.toNat : Int)) (.int (y.toNat : Int)) = false := by rw [eqv_int]; cases x <;> cases y <;> simp_all
      rw [PySem.W.dataLt_all_no al e, PySem.W.dataLt_int, if_neg c]
      cases x <;> cases y <;> simp_all
  | [], _ :: _, h => by simp at h
  | _ :: _, [], h => by simp at h
/-! Math, part H: facts of numbers. -/
theorem runF_ge (p : Nat → Bool) : ∀ (k j m : Nat), m ≤ k → (j + m ≤ runF p k j ↔ ∀ i, j ≤ i → i < j + m → p i = true)
  | k, j, 0, _ => by
    have := (runF_le p k j).1
    exact ⟨fun _ i h1 h2 => by omega, fun _ => by omega⟩
  | k + 1, j, m + 1, h => by
    rw [runF]
    cases hp : p j with
    | false =>
      simp only [Bool.false_eq_true, if_false]
      constructor
      · intro h; omega
      · intro h2
        have := h2 j (by omega) (by omega)
        rw [hp] at this; cases this
    | true =>
      simp only [if_true]
      have ih := runF_ge p k (j + 1) m (by omega)
      rw [show j + (m + 1) = j + 1 + m by omega, ih]
      constructor
      · intro h2 i h3 h4
        by_cases e : i = j
        · rw [e]; exact hp
        · exact h2 i (by omega) (by omega)
      · intro h2 i h3 h4
        exact h2 i (by omega) (by omega)
/-- how many highest bits are 1 -/
def runT (n w : Nat) : Nat := runF (fun i => n.testBit (w - 1 - i)) w 0
theorem runT_le (n w : Nat) : runT n w ≤ w := by have := (runF_le (fun i => n.testBit (w - 1 - i)) w 0).2; unfold runT; omega
theorem runT_ge {n w m : Nat} (h : m ≤ w) : m ≤ runT n w ↔ ∀ i, w - m ≤ i → i < w → n.testBit i = true := by
  have := runF_ge (fun i => n.testBit (w - 1 - i)) w 0 m h
  rw [Nat.zero_add] at this
  unfold runT
  rw [this]
  constructor
  · intro q i h1 h2
    have := q (w - 1 - i) (by omega) (by omega)
    rwa [show w - 1 - (w - 1 - i) = i by omega] at this
  · intro q i h1 h2
    exact q _ (by omega) (by omega)
theorem compl_bit {n w i : Nat} (h : n < 2 ^ w) (hi : i < w) : (2 ^ w - 1 - n).testBit i = !n.testBit i := by
  rw [Nat.sub_sub, Nat.add_comm 1 n, Nat.testBit_two_pow_sub_succ h]
  simp [hi]
/-- how many highest bits are alike -/
def alikeN (v w : Nat) : Nat := max (runT v w) (runT (2 ^ w - 1 - v) w)
theorem alikeN_le (v w : Nat) : alikeN v w ≤ w := by
  have := runT_le v w
  have := runT_le (2 ^ w - 1 - v) w
  unfold alikeN; omega
theorem alikeN_ge {v w m : Nat} (h : m ≤ w) (hv : v < 2 ^ w) : m ≤ alikeN v w ↔ (∀ i, w - m ≤ i → i < w → v.testBit i = true) ∨ (∀ i, w - m ≤ i → i < w → v.testBit i = false) := by
  unfold alikeN
  have e : m ≤ max (runT v w) (runT (2 ^ w - 1 - v) w) ↔ m ≤ runT v w ∨ m ≤ runT (2 ^ w - 1 - v) w := by omega
  rw [e, runT_ge h, runT_ge h]
  constructor
  · rintro (q | q)
    · exact .inl q
    · refine .inr fun i h1 h2 => ?_
      have := q i h1 h2
      rw [compl_bit hv h2] at this
      simpa using this
  · rintro (q | q)
    · exact .inl q
    · refine .inr fun i h1 h2 => ?_
      rw [compl_bit hv h2, q i h1 h2]
      rfl
theorem alikeN_pos {v w : Nat} (hw : 1 ≤ w) (hv : v < 2 ^ w) : 1 ≤ alikeN v w := by
  rw [alikeN_ge hw hv]
  cases hb : v.testBit (w - 1) with
  | true => exact .inl fun i h1 h2 => by rw [show i = w - 1 by omega]; exact hb
  | false => exact .inr fun i h1 h2 => by rw [show i = w - 1 by omega]; exact hb
/-- the top of a number -/
theorem top_ones {v w m : Nat} (h : m ≤ w) (hv : v < 2 ^ w) : v / 2 ^ (w - m) = 2 ^ m - 1 ↔ ∀ i, w - m ≤ i → i < w → v.testBit i = true := by
  constructor
  · intro e i h1 h2
    have : (v / 2 ^ (w - m)).testBit (i - (w - m)) = true := by
      rw [e, Nat.testBit_two_pow_sub_one]; simp; omega
    rwa [← Nat.shiftRight_eq_div_pow, Nat.testBit_shiftRight, show w - m + (i - (w - m)) = i by omega] at this
  · intro q
    apply Nat.eq_of_testBit_eq
    intro i
    rw [← Nat.shiftRight_eq_div_pow, Nat.testBit_shiftRight, Nat.testBit_two_pow_sub_one]
    by_cases hi : i < m
    · rw [q _ (by omega) (by omega)]; simp [hi]
    · rw [Nat.testBit_lt_two_pow (Nat.lt_of_lt_of_le hv (Nat.pow_le_pow_right (by decide) (by omega)))]
      simp [hi]
theorem top_noughts {v w m : Nat} (h : m ≤ w) (hv : v < 2 ^ w) : v / 2 ^ (w - m) = 0 ↔ ∀ i, w - m ≤ i → i < w → v.testBit i = false := by
  constructor
  · intro e i h1 h2
    have : (v / 2 ^ (w - m)).testBit (i - (w - m)) = false := by rw [e]; simp
    rwa [← Nat.shiftRight_eq_div_pow, Nat.testBit_shiftRight, show w - m + (i - (w - m)) = i by omega] at this
  · intro q
    apply Nat.eq_of_testBit_eq
    intro i
    rw [← Nat.shiftRight_eq_div_pow, Nat.testBit_shiftRight, Nat.zero_testBit]
    by_cases hi : i < m
    · exact q _ (by omega) (by omega)
    · exact Nat.testBit_lt_two_pow (Nat.lt_of_lt_of_le hv (Nat.pow_le_pow_right (by decide) (by omega)))
/-- a fact: known noughts, known ones, how many highest bits are alike -/
structure Fct where
  z : Nat
  o : Nat
  k : Nat
def Fct.toD (f : Fct) : PyData := .tuple [natD f.z, natD f.o, natD f.k]
/-- a fact of numbers of a width -/
def Fct.wf (f : Fct) (w : Nat) : Prop := f.z < 2 ^ w ∧ f.o < 2 ^ w ∧ 1 ≤ f.k ∧ f.k ≤ w
def Fct.holds (f : Fct) (v w : Nat) : Prop := f.z &&& v = 0 ∧ f.o &&& v = f.o ∧ f.k ≤ alikeN v w
theorem and_zero_bits {a b : Nat} : a &&& b = 0 ↔ ∀ i, a.testBit i = true → b.testBit i = false := by
  constructor
  · intro h i hi
    have : (a &&& b).testBit i = false := by rw [h]; simp
    rw [Nat.testBit_and, hi] at this
    simpa using this
  · intro h
    apply Nat.eq_of_testBit_eq
    intro i
    rw [Nat.testBit_and, Nat.zero_testBit]
    cases ha : a.testBit i with
    | false => simp
    | true => rw [h i ha]; rfl
theorem and_self_bits {a b : Nat} : a &&& b = a ↔ ∀ i, a.testBit i = true → b.testBit i = true := by
  constructor
  · intro h i hi
    have : (a &&& b).testBit i = true := by rw [h]; exact hi
    rw [Nat.testBit_and, hi] at this
    simpa using this
  · intro h
    apply Nat.eq_of_testBit_eq
    intro i
    rw [Nat.testBit_and]
    cases ha : a.testBit i with
    | false => simp
    | true => rw [h i ha]; rfl
theorem or_self_bits {a b : Nat} : a ||| b = b ↔ ∀ i, a.testBit i = true → b.testBit i = true := by
  constructor
  · intro h i hi
    rw [← h, Nat.testBit_or, hi]; rfl
  · intro h
    apply Nat.eq_of_testBit_eq
    intro i
    rw [Nat.testBit_or]
    cases ha : a.testBit i with
    | false => simp
    | true => rw [h i ha]; rfl
theorem lt_bits {a w : Nat} : a < 2 ^ w ↔ ∀ i, w ≤ i → a.testBit i = false :=
  ⟨fun h i hi => Nat.testBit_lt_two_pow (Nat.lt_of_lt_of_le h (Nat.pow_le_pow_right (by decide) hi)), Nat.lt_pow_two_of_testBit a⟩
theorem topM_lt {w r : Nat} : topM w r < 2 ^ w := by
  have := pow_pos' r
  have := pow_pos' w
  unfold topM; omega
/-- the mask, with the alike highest ones if one of them is in it -/
def grow (z w k : Nat) : Nat := if z &&& topM w (w - k) = 0 then z else z ||| topM w (w - k)
def Fct.closed (f : Fct) (w : Nat) : Fct := ⟨grow f.z w f.k, grow f.o w f.k, max f.k (max (runT (grow f.z w f.k) w) (runT (grow f.o w f.k) w))⟩
theorem grow_bit (z w k i : Nat) : (grow z w k).testBit i = true → z.testBit i = true ∨ (w - k ≤ i ∧ i < w ∧ ∃ j, w - k ≤ j ∧ j < w ∧ z.testBit j = true) := by
  unfold grow
  split
  · exact fun h => .inl h
  · rename_i hne
    intro h
    rw [Nat.testBit_or] at h
    cases hz : z.testBit i with
    | true => exact .inl rfl
    | false =>
      rw [hz, Bool.false_or, topM_bit (by omega)] at h
      simp at h
      refine .inr ⟨by omega, h.2, ?_⟩
      refine Classical.byContradiction fun hc => hne (and_zero_bits.mpr fun j hj => ?_)
      rw [topM_bit (by omega)]
      by_cases c1 : w - k ≤ j
      · by_cases c2 : j < w
        · exact absurd ⟨j, c1, c2, hj⟩ hc
        · simp [c2]
      · simp [c1]
theorem grow_sub (z w k i : Nat) (h : z.testBit i = true) : (grow z w k).testBit i = true := by
  unfold grow
  split
  · exact h
  · rw [Nat.testBit_or, h]; rfl
theorem grow_lt {z w k : Nat} (h : z < 2 ^ w) : grow z w k < 2 ^ w := by
  unfold grow
  split
  · exact h
  · exact Nat.or_lt_two_pow h topM_lt
theorem grow_full {z w k : Nat} (h : grow z w k &&& topM w (w - k) ≠ 0) : ∀ i, w - k ≤ i → i < w → (grow z w k).testBit i = true := by
  unfold grow at h ⊢
  split at h
  · rename_i he; exact absurd he h
  · rename_i he
    intro i h1 h2
    rw [if_neg he, Nat.testBit_or, topM_bit (by omega)]
    simp [h1, h2]
/-- closing keeps what a fact holds of -/
theorem closed_holds {f : Fct} {w v : Nat} (hf : f.wf w) (hv : v < 2 ^ w) : (f.closed w).holds v w ↔ f.holds v w := by
  obtain ⟨_, _, hk1, hk2⟩ := hf
  unfold Fct.holds Fct.closed
  simp only
  rw [and_zero_bits, and_zero_bits, and_self_bits, and_self_bits]
  constructor
  · rintro ⟨h1, h2, h3⟩
    exact ⟨fun i hi => h1 i (grow_sub _ _ _ i hi), fun i hi => h2 i (grow_sub _ _ _ i hi), by omega⟩
  · rintro ⟨h1, h2, h3⟩
    have al := (alikeN_ge hk2 hv).mp h3
    have g1 : ∀ i, (grow f.z w f.k).testBit i = true → v.testBit i = false := fun i hi => by
      rcases grow_bit _ _ _ _ hi with q | ⟨q1, q2, j, q3, q4, q5⟩
      · exact h1 i q
      · rcases al with al | al
        · have := h1 j q5
          rw [al j q3 q4] at this; cases this
        · exact al i q1 q2
    have g2 : ∀ i, (grow f.o w f.k).testBit i = true → v.testBit i = true := fun i hi => by
      rcases grow_bit _ _ _ _ hi with q | ⟨q1, q2, j, q3, q4, q5⟩
      · exact h2 i q
      · rcases al with al | al
        · exact al i q1 q2
        · have := h2 j q5
          rw [al j q3 q4] at this; cases this
    refine ⟨g1, g2, ?_⟩
    have r1 : runT (grow f.z w f.k) w ≤ alikeN v w := by
      have := runT_le (grow f.z w f.k) w
      rw [alikeN_ge this hv]
      exact .inr fun i a b => g1 i ((runT_ge this).mp (Nat.le_refl _) i a b)
    have r2 : runT (grow f.o w f.k) w ≤ alikeN v w := by
      have := runT_le (grow f.o w f.k) w
      rw [alikeN_ge this hv]
      exact .inl fun i a b => g2 i ((runT_ge this).mp (Nat.le_refl _) i a b)
    omega
theorem closed_wf {f : Fct} {w : Nat} (hf : f.wf w) : (f.closed w).wf w := by
  obtain ⟨h1, h2, h3, h4⟩ := hf
  have := runT_le (grow f.z w f.k) w
  have := runT_le (grow f.o w f.k) w
  exact ⟨grow_lt h1, grow_lt h2, by unfold Fct.closed; simp only; omega, by unfold Fct.closed; simp only; omega⟩
/-- what holds of a number knows no bit twice -/
theorem holds_disj {f : Fct} {v w : Nat} (h : f.holds v w) : f.z &&& f.o = 0 := by
  obtain ⟨h1, h2, _⟩ := h
  rw [and_zero_bits] at h1 ⊢
  rw [and_self_bits] at h2
  intro i hi
  cases ho : f.o.testBit i with
  | false => rfl
  | true => have := h1 i hi; rw [h2 i ho] at this; cases this
theorem grow_again {z o w k k' : Nat} (hd : grow z w k &&& o = 0) (hk' : k' = max k (max (runT (grow z w k) w) (runT o w))) (hkw : k ≤ w) : grow (grow z w k) w k' = grow z w k := by
  have r1 := runT_le (grow z w k) w
  have r2 := runT_le o w
  have full : (∀ i, w - k' ≤ i → i < w → (grow z w k).testBit i = true) ∨ grow z w k &&& topM w (w - k') = 0 := by
    by_cases c1 : k' = runT (grow z w k) w
    · exact .inl ((runT_ge (by omega)).mp (by omega))
    · by_cases c2 : k' = runT o w
      · right
        have ho := (runT_ge (n := o) (w := w) (m := k') (by omega)).mp (by omega)
        rw [and_zero_bits] at hd ⊢
        intro i hi
        rw [topM_bit (by omega)]
        by_cases c3 : w - k' ≤ i
        · by_cases c4 : i < w
          · have := hd i hi
            rw [ho i c3 c4] at this; cases this
          · simp [c4]
        · simp [c3]
      · have c3 : k' = k := by omega
        subst c3
        by_cases c4 : grow z w k' &&& topM w (w - k') = 0
        · exact .inr c4
        · exact .inl (grow_full c4)
  rcases full with full | full
  · by_cases c4 : grow z w k &&& topM w (w - k') = 0
    · rw [grow, if_pos c4]
    · rw [grow, if_neg c4, Nat.or_comm, or_self_bits]
      intro i hi
      rw [topM_bit (by omega)] at hi
      simp at hi
      exact full i (by omega) hi.2
  · rw [grow, if_pos full]
theorem closed_again {f : Fct} {v w : Nat} (hf : f.wf w) (hv : v < 2 ^ w) (h : f.holds v w) : (f.closed w).closed w = f.closed w := by
  have hd := holds_disj ((closed_holds hf hv).mpr h)
  have hd' : (f.closed w).o &&& (f.closed w).z = 0 := by rw [Nat.and_comm]; exact hd
  have e1 : grow (f.closed w).z w (f.closed w).k = (f.closed w).z := grow_again hd rfl hf.2.2.2
  have e2 : grow (f.closed w).o w (f.closed w).k = (f.closed w).o := grow_again hd' (by unfold Fct.closed; simp only; omega) hf.2.2.2
  have : (f.closed w).closed w = ⟨(f.closed w).z, (f.closed w).o, max (f.closed w).k (max (runT (f.closed w).z w) (runT (f.closed w).o w))⟩ := by
    rw [Fct.closed, e1, e2]
  rw [this]
  have : max (f.closed w).k (max (runT (f.closed w).z w) (runT (f.closed w).o w)) = (f.closed w).k := by unfold Fct.closed; simp only; omega
  rw [this]
/-! Math, part I: a row and its operands' widths; which bits are needed. -/
/-- a row alone, with the widths of its operands -/
def Rw.fit (r : Rw) (ws : List Nat) : Prop := 1 ≤ r.w ∧ r.w ≤ 64 ∧ match r.word with
  | .inp => ws = [] ∧ r.ops = []
  | .num => ws = [] ∧ ∃ v, r.ops = [v] ∧ v < 2 ^ r.w
  | .not => ws = [r.w] ∧ ∃ a, r.ops = [a]
  | .left => ws = [r.w] ∧ ∃ a k, r.ops = [a, k] ∧ k < 64
  | .right => ws = [r.w] ∧ ∃ a k, r.ops = [a, k] ∧ k < 64
  | .slide => ws = [r.w] ∧ ∃ a k, r.ops = [a, k] ∧ k < 64
  | .cut => ∃ v a, ws = [v] ∧ r.ops = [a] ∧ r.w ≤ v ∧ v ≤ 64
  | .wide => ∃ v a, ws = [v] ∧ r.ops = [a] ∧ 1 ≤ v ∧ v ≤ r.w
  | .sign => ∃ v a, ws = [v] ∧ r.ops = [a] ∧ 1 ≤ v ∧ v ≤ r.w
  | .same => ∃ v a b, ws = [v, v] ∧ r.ops = [a, b] ∧ r.w = 1 ∧ 1 ≤ v ∧ v ≤ 64
  | .less => ∃ v a b, ws = [v, v] ∧ r.ops = [a, b] ∧ r.w = 1 ∧ 1 ≤ v ∧ v ≤ 64
  | .under => ∃ v a b, ws = [v, v] ∧ r.ops = [a, b] ∧ r.w = 1 ∧ 1 ≤ v ∧ v ≤ 64
  | .pick => ws = [1, r.w, r.w] ∧ ∃ a b c, r.ops = [a, b, c]
  | _ => ws = [r.w, r.w] ∧ ∃ a b, r.ops = [a, b]
/-- two lists, item by item -/
def Al {α β : Type} (R : α → β → Prop) : List α → List β → Prop
  | [], [] => True
  | a :: as, b :: bs => R a b ∧ Al R as bs
  | _, _ => False
theorem Al.length {α β : Type} {R : α → β → Prop} : ∀ {as : List α} {bs : List β}, Al R as bs → as.length = bs.length
  | [], [], _ => rfl
  | _ :: _, _ :: _, h => by simp [Al.length h.2]
theorem Al.at {α β : Type} {R : α → β → Prop} : ∀ {as : List α} {bs : List β} {i : Nat} {a : α} {b : β}, Al R as bs → as[i]? = some a → bs[i]? = some b → R a b
  | _ :: _, _ :: _, 0, _, _, h, e1, e2 => by simp at e1 e2; subst e1 e2; exact h.1
  | _ :: _, _ :: _, i + 1, _, _, h, e1, e2 => by simp at e1 e2; exact Al.at h.2 e1 e2
  | [], [], _, _, _, _, e1, _ => by simp at e1
theorem Al.mono {α β : Type} {R R' : α → β → Prop} (f : ∀ a b, R a b → R' a b) : ∀ {as : List α} {bs : List β}, Al R as bs → Al R' as bs
  | [], [], _ => trivial
  | _ :: _, _ :: _, h => ⟨f _ _ h.1, Al.mono f h.2⟩
def Fct.two (f : Fct) (w : Nat) : Prop := f.wf w ∧ f.z &&& f.o = 0
theorem fit_widths {r : Rw} {ws : List Nat} (h : r.fit ws) : ∀ w ∈ ws, 1 ≤ w ∧ w ≤ 64 := by
  obtain ⟨h1, h2, h⟩ := h
  intro w hw
  cases hwd : r.word <;> simp only [hwd] at h
  case inp => rw [h.1] at hw; cases hw
  case num => rw [h.1] at hw; cases hw
  case cut => obtain ⟨v, a, rfl, _, q1, q2⟩ := h; simp at hw; omega
  case wide => obtain ⟨v, a, rfl, _, q1, q2⟩ := h; simp at hw; omega
  case sign => obtain ⟨v, a, rfl, _, q1, q2⟩ := h; simp at hw; omega
  case same => obtain ⟨v, a, b, rfl, _, _, q1, q2⟩ := h; simp at hw; omega
  case less => obtain ⟨v, a, b, rfl, _, _, q1, q2⟩ := h; simp at hw; omega
  case under => obtain ⟨v, a, b, rfl, _, _, q1, q2⟩ := h; simp at hw; omega
  all_goals (rw [h.1] at hw; simp at hw; omega)
/-! ### what is needed -/
def capN (m up w : Nat) : Nat := if m * 2 ^ up % 2 ^ w < m * 2 ^ up then m * 2 ^ up % 2 ^ w ||| 2 ^ (w - 1) else m * 2 ^ up % 2 ^ w
def lowR (z : Nat) : Nat := runF z.testBit 64 0
def mulL (l m : Nat) : Nat := 2 ^ (reachN m - min (reachN m) l) - 1
def mulR (l l' m : Nat) : Nat := 2 ^ (reachN m - min (reachN m - min (reachN m) l) l') - 1
def allN (v m : Nat) : Nat := if m = 0 then 0 else 2 ^ v - 1
def needL (r : Rw) (ws : List Nat) (fs : List Fct) : List (Nat → Nat) :=
  match r.word, ws, fs with
  | .left, [_], _ => [fun m => m / 2 ^ (r.ops.getD 1 0)]
  | .right, [v], _ => [fun m => m * 2 ^ (r.ops.getD 1 0) % 2 ^ v]
  | .slide, [v], _ => [fun m => capN m (r.ops.getD 1 0) v]
  | .sign, [v], _ => [fun m => capN m 0 v]
  | .and, _, [f, g] => [fun m => andNot m (andNot g.z f.z), fun m => andNot m f.z]
  | .or, _, [f, g] => [fun m => andNot m (andNot g.o f.o), fun m => andNot m f.o]
  | .xor, _, _ => [fun m => m, fun m => m]
  | .add, _, _ => [fun m => 2 ^ reachN m - 1, fun m => 2 ^ reachN m - 1]
  | .sub, _, _ => [fun m => 2 ^ reachN m - 1, fun m => 2 ^ reachN m - 1]
  | .mul, _, [f, g] => [mulL (lowR g.z), mulR (lowR g.z) (lowR f.z)]
  | .pick, _, f :: _ => [allN 1, fun m => if f.o = 1 then m else if f.z = 1 then 0 else m, fun m => if f.o = 1 then 0 else m]
  | .same, v :: _, _ => [allN v, allN v]
  | .less, v :: _, _ => [allN v, allN v]
  | .under, v :: _, _ => [allN v, allN v]
  | _, [v], _ => [fun m => m % 2 ^ v]
  | _, _, _ => []
def needN (r : Rw) (ws : List Nat) (fs : List Fct) (m : Nat) : List Nat := (needL r ws fs).map fun g => g m
/-- a mask's need is that of its bits together, and stays in its width -/
structure Addi (w v : Nat) (g : Nat → Nat) : Prop where
  zero : g 0 = 0
  or : ∀ a b, a < 2 ^ w → b < 2 ^ w → g (a ||| b) = g a ||| g b
  lt : ∀ a, a < 2 ^ w → g a < 2 ^ v
theorem andNot_or (a b c : Nat) : andNot (a ||| b) c = andNot a c ||| andNot b c := by
  apply Nat.eq_of_testBit_eq
  intro i
  simp only [andNot_bit, Nat.testBit_or]
  cases a.testBit i <;> cases b.testBit i <;> cases c.testBit i <;> rfl
theorem andNot_le (a b : Nat) : andNot a b ≤ a := by have := andNot_add a b; omega
theorem reachN_or (a b : Nat) : reachN (a ||| b) = max (reachN a) (reachN b) := by
  apply Nat.le_antisymm
  · apply reachN_bound
    intro i hi
    rw [Nat.testBit_or, reachN_hi (by omega), reachN_hi (by omega)]
    rfl
  · have g : ∀ a b : Nat, reachN a ≤ reachN (a ||| b) := fun a b => by
      apply reachN_bound
      intro i hi
      have := reachN_hi (n := a ||| b) hi
      rw [Nat.testBit_or] at this
      simp at this
      exact this.1
    have h1 := g a b
    have h2 := g b a
    rw [Nat.or_comm] at h2
    omega
theorem full_or (a b : Nat) : (2 ^ a - 1) ||| (2 ^ b - 1) = 2 ^ (max a b) - 1 := by
  apply Nat.eq_of_testBit_eq
  intro i
  rw [Nat.testBit_or, Nat.testBit_two_pow_sub_one, Nat.testBit_two_pow_sub_one, Nat.testBit_two_pow_sub_one, ← Bool.decide_or]
  congr 1
  exact propext (by omega)
theorem full_lt {a v : Nat} (h : a ≤ v) : 2 ^ a - 1 < 2 ^ v := by
  have := Nat.pow_le_pow_right (n := 2) (by decide) h
  have := pow_pos' a
  omega
theorem or_eq_zero {a b : Nat} : a ||| b = 0 ↔ a = 0 ∧ b = 0 := by
  constructor
  · intro h
    refine ⟨Nat.eq_of_testBit_eq fun i => ?_, Nat.eq_of_testBit_eq fun i => ?_⟩ <;>
    · have := congrArg (fun x => x.testBit i) h
      simp [Nat.testBit_or] at this
      simp [this]
  · rintro ⟨rfl, rfl⟩; rfl
theorem addi_all (w v : Nat) : Addi w v (allN v) := by
  refine ⟨rfl, fun a b _ _ => ?_, fun a _ => ?_⟩
  · unfold allN
    by_cases h1 : a = 0 <;> by_cases h2 : b = 0 <;> simp [h1, h2, or_eq_zero, Nat.or_self]
  · unfold allN
    have := pow_pos' v
    split <;> omega
theorem capN_bit {m up w i : Nat} (hw : 1 ≤ w) : (capN m up w).testBit i = true ↔ ∃ j, m.testBit j = true ∧ min (j + up) (w - 1) = i := by
  have hb : ∀ i, (m * 2 ^ up).testBit i = (decide (up ≤ i) && m.testBit (i - up)) := fun i => by rw [Nat.mul_comm, testBit_two_pow_mul']
  unfold capN
  split
  · rename_i hlt
    rw [Nat.testBit_or, Nat.testBit_mod_two_pow, hb, Nat.testBit_two_pow]
    by_cases c1 : i = w - 1
    · subst c1
      simp only [decide_true, Bool.or_true, true_iff]
      by_cases ex : ∃ j, m.testBit j = true ∧ w - 1 ≤ j + up
      · obtain ⟨j, h1, h2⟩ := ex
        exact ⟨j, h1, by omega⟩
      · exfalso
        have : m * 2 ^ up < 2 ^ w := by
          rw [lt_bits]
          intro i hi
          rw [hb]
          cases hx : m.testBit (i - up) with
          | false => simp
          | true =>
            by_cases hu : up ≤ i
            · exact absurd ⟨i - up, hx, by omega⟩ ex
            · simp [hu]
        rw [Nat.mod_eq_of_lt this] at hlt
        omega
    · have : ¬ w - 1 = i := fun e => c1 e.symm
      simp only [this, decide_false, Bool.or_false, Bool.and_eq_true, decide_eq_true_eq]
      constructor
      · rintro ⟨h1, h2, h3⟩
        exact ⟨i - up, h3, by omega⟩
      · rintro ⟨j, h1, h2⟩
        have : i = j + up := by omega
        subst this
        exact ⟨by omega, by omega, by rwa [Nat.add_sub_cancel]⟩
  · rename_i hlt
    have h2 : m * 2 ^ up < 2 ^ w := by
      have h3 := Nat.mod_le (m * 2 ^ up) (2 ^ w)
      have h4 := Nat.mod_lt (m * 2 ^ up) (pow_pos' w)
      omega
    rw [Nat.mod_eq_of_lt h2, hb]
    simp only [Bool.and_eq_true, decide_eq_true_eq]
    constructor
    · rintro ⟨h1, h3⟩
      refine ⟨i - up, h3, ?_⟩
      have := (lt_bits.mp h2) i
      by_cases c : w ≤ i
      · have := this c
        rw [hb] at this
        simp [h1, h3] at this
      · omega
    · rintro ⟨j, h1, h3⟩
      have : j + up < w := by
        by_cases c : w ≤ j + up
        · have := (lt_bits.mp h2) (j + up) c
          rw [hb] at this
          simp [h1] at this
        · omega
      have e : i = j + up := by omega
      subst e
      exact ⟨by omega, by rwa [Nat.add_sub_cancel]⟩
theorem addi_cap {w v up : Nat} (hv : 1 ≤ v) : Addi w v (fun m => capN m up v) := by
  refine ⟨?_, fun a b _ _ => ?_, fun a _ => ?_⟩
  · simp [capN]
  · apply Nat.eq_of_testBit_eq
    intro i
    rw [Bool.eq_iff_iff, Nat.testBit_or, Bool.or_eq_true, capN_bit hv, capN_bit hv, capN_bit hv]
    constructor
    · rintro ⟨j, h1, h2⟩
      rw [Nat.testBit_or, Bool.or_eq_true] at h1
      rcases h1 with h1 | h1
      · exact .inl ⟨j, h1, h2⟩
      · exact .inr ⟨j, h1, h2⟩
    · rintro (⟨j, h1, h2⟩ | ⟨j, h1, h2⟩)
      · exact ⟨j, by rw [Nat.testBit_or, h1]; rfl, h2⟩
      · exact ⟨j, by rw [Nat.testBit_or, h1]; simp, h2⟩
  · rw [lt_bits]
    intro i hi
    rw [Bool.eq_false_iff]
    intro h
    obtain ⟨j, _, h⟩ := (capN_bit hv).mp h
    omega
theorem addi_div {w k : Nat} : Addi w w (fun m => m / 2 ^ k) := by
  refine ⟨by simp, fun a b _ _ => ?_, fun a h => ?_⟩
  · apply Nat.eq_of_testBit_eq
    intro i
    simp [Nat.testBit_or, Nat.testBit_div_two_pow]
  · exact Nat.lt_of_le_of_lt (Nat.div_le_self _ _) h
theorem addi_mod {w v k : Nat} : Addi w v (fun m => m * 2 ^ k % 2 ^ v) := by
  refine ⟨by simp, fun a b _ _ => ?_, fun a h => Nat.mod_lt _ (pow_pos' v)⟩
  apply Nat.eq_of_testBit_eq
  intro i
  simp only [Nat.testBit_or, Nat.testBit_mod_two_pow, Nat.mul_comm _ (2 ^ k), testBit_two_pow_mul']
  cases decide (i < v) <;> cases decide (k ≤ i) <;> simp
theorem addi_and {w c : Nat} : Addi w w (fun m => andNot m c) := by
  refine ⟨by simp [andNot], fun a b _ _ => andNot_or a b c, fun a h => Nat.lt_of_le_of_lt (andNot_le a c) h⟩
theorem addi_id {w : Nat} : Addi w w (fun m => m) := ⟨rfl, fun _ _ _ _ => rfl, fun _ h => h⟩
theorem addi_zero {w v : Nat} : Addi w v (fun _ => 0) := ⟨rfl, fun _ _ _ _ => rfl, fun _ _ => pow_pos' v⟩
theorem addi_below {w : Nat} : Addi w w (fun m => 2 ^ reachN m - 1) := by
  refine ⟨rfl, fun a b _ _ => ?_, fun a h => full_lt (reachN_le h)⟩
  rw [full_or, reachN_or]
theorem addi_mulL {w l : Nat} : Addi w w (mulL l) := by
  refine ⟨by simp [mulL, reachN], fun a b _ _ => ?_, fun a h => full_lt (by have := reachN_le h; omega)⟩
  unfold mulL
  rw [full_or, reachN_or]
  congr 2
  omega
theorem addi_mulR {w l l' : Nat} : Addi w w (mulR l l') := by
  refine ⟨by simp [mulR, reachN], fun a b _ _ => ?_, fun a h => full_lt (by have := reachN_le h; omega)⟩
  unfold mulR
  rw [full_or, reachN_or]
  congr 2
  omega
theorem needL_addi {r : Rw} {ws : List Nat} {fs : List Fct} (h : r.fit ws) (hf : Al Fct.two fs ws) : Al (fun g v => Addi r.w v g) (needL r ws fs) ws := by
  have hw := fit_widths h
  obtain ⟨h1, h2, h⟩ := h
  cases hwd : r.word <;> simp only [hwd] at h
  case inp => obtain ⟨rfl, _⟩ := h; match fs, hf with | [], _ => simp [needL, hwd, Al]
  case num => obtain ⟨rfl, _⟩ := h; match fs, hf with | [], _ => simp [needL, hwd, Al]
  case not => obtain ⟨rfl, _⟩ := h; match fs, hf with | [f], _ => simp only [needL, hwd, Al, and_true]; simpa using addi_mod (w := r.w) (v := r.w) (k := 0)
  case left => obtain ⟨rfl, _⟩ := h; match fs, hf with | [f], _ => simp only [needL, hwd, Al, and_true]; exact addi_div
  case right => obtain ⟨rfl, _⟩ := h; match fs, hf with | [f], _ => simp only [needL, hwd, Al, and_true]; exact addi_mod
  case slide => obtain ⟨rfl, _⟩ := h; match fs, hf with | [f], _ => simp only [needL, hwd, Al, and_true]; exact addi_cap h1
  case cut => obtain ⟨v, a, rfl, _⟩ := h; match fs, hf with | [f], _ => simp only [needL, hwd, Al, and_true]; simpa using addi_mod (w := r.w) (v := v) (k := 0)
  case wide => obtain ⟨v, a, rfl, _⟩ := h; match fs, hf with | [f], _ => simp only [needL, hwd, Al, and_true]; simpa using addi_mod (w := r.w) (v := v) (k := 0)
  case sign => obtain ⟨v, a, rfl, _, q, _⟩ := h; match fs, hf with | [f], _ => simp only [needL, hwd, Al, and_true]; exact addi_cap q
  case and => obtain ⟨rfl, _⟩ := h; match fs, hf with | [f, g], _ => simp only [needL, hwd, Al, and_true]; exact ⟨addi_and, addi_and⟩
  case or => obtain ⟨rfl, _⟩ := h; match fs, hf with | [f, g], _ => simp only [needL, hwd, Al, and_true]; exact ⟨addi_and, addi_and⟩
  case xor => obtain ⟨rfl, _⟩ := h; match fs, hf with | [f, g], _ => simp only [needL, hwd, Al, and_true]; exact ⟨addi_id, addi_id⟩
  case add => obtain ⟨rfl, _⟩ := h; match fs, hf with | [f, g], _ => simp only [needL, hwd, Al, and_true]; exact ⟨addi_below, addi_below⟩
  case sub => obtain ⟨rfl, _⟩ := h; match fs, hf with | [f, g], _ => simp only [needL, hwd, Al, and_true]; exact ⟨addi_below, addi_below⟩
  case mul => obtain ⟨rfl, _⟩ := h; match fs, hf with | [f, g], _ => simp only [needL, hwd, Al, and_true]; exact ⟨addi_mulL, addi_mulR⟩
  case same => obtain ⟨v, a, b, rfl, _⟩ := h; match fs, hf with | [f, g], _ => simp only [needL, hwd, Al, and_true]; exact ⟨addi_all _ _, addi_all _ _⟩
  case less => obtain ⟨v, a, b, rfl, _⟩ := h; match fs, hf with | [f, g], _ => simp only [needL, hwd, Al, and_true]; exact ⟨addi_all _ _, addi_all _ _⟩
  case under => obtain ⟨v, a, b, rfl, _⟩ := h; match fs, hf with | [f, g], _ => simp only [needL, hwd, Al, and_true]; exact ⟨addi_all _ _, addi_all _ _⟩
  case pick =>
    obtain ⟨rfl, _⟩ := h
    match fs, hf with
    | [f, g, k], _ =>
      simp only [needL, hwd, Al, and_true]
      refine ⟨addi_all _ _, ?_, ?_⟩
      · by_cases c1 : f.o = 1
        · simp only [c1, if_true]; exact addi_id
        · by_cases c2 : f.z = 1
          · simp only [c1, c2, if_true, if_false]; exact addi_zero
          · simp only [c1, c2, if_false]; exact addi_id
      · by_cases c1 : f.o = 1
        · simp only [c1, if_true]; exact addi_zero
        · simp only [c1, if_false]; exact addi_id
theorem needN_len {r : Rw} {ws : List Nat} {fs : List Fct} (h : r.fit ws) (hf : Al Fct.two fs ws) (m : Nat) : (needN r ws fs m).length = ws.length := by
  have := (needL_addi h hf).length
  simp [needN, this]
theorem needN_zero {r : Rw} {ws : List Nat} {fs : List Fct} (h : r.fit ws) (hf : Al Fct.two fs ws) : needN r ws fs 0 = ws.map fun _ => 0 := by
  have g : ∀ {gs : List (Nat → Nat)} {vs : List Nat}, Al (fun g v => Addi r.w v g) gs vs → gs.map (fun g => g 0) = vs.map fun _ => 0 := by
    intro gs
    induction gs with
    | nil => intro vs h; match vs, h with | [], _ => rfl
    | cons a t ih => intro vs h; match vs, h with | v :: vs, h => simp [h.1.zero, ih h.2]
  exact g (needL_addi h hf)
/-! Math, part J: comprehensions over pairs of numbers; lists of numbers compared. -/
theorem lcL_zipN {is : List Nat} {e : ME} {env : Sl} {S : Sto} {h : Nat → Nat → PyData} : ∀ (as bs : List Nat)
    (_ : ∀ a b, a ∈ as → b ∈ bs → ∃ env1, gT is (.tuple [natD a, natD b]) env = some env1 ∧ e env1 S = some (.d (h a b), S)), lcL (fun _ => True) (gT is) mYes e env (zipD (as.map natD) (bs.map natD)) S = some (List.zipWith h as bs, S)
  | [], bs, _ => by simp [zipD, lcL]
  | a :: as, [], _ => by simp [zipD, lcL]
  | a :: as, b :: bs, H => by
    obtain ⟨env1, e1, e2⟩ := H a b (by simp) (by simp)
    have ih := lcL_zipN as bs fun x y hx hy => H x y (by simp [hx]) (by simp [hy])
    have ez : zipD ((a :: as).map natD) ((b :: bs).map natD) = .tuple [natD a, natD b] :: zipD (as.map natD) (bs.map natD) := rfl
    rw [ez, lcL, if_pos trivial, e1]
    simp only [Option.bind_some, mYes, if_true, e2, toD_d, ih, Option.map_some, List.zipWith_cons_cons]
theorem eqv_natsL : ∀ as bs : List Nat, PyData.eqvAll (as.map natD) (bs.map natD) = decide (as = bs)
  | [], [] => by simp [PyData.eqvAll]
  | [], b :: bs => by simp [PyData.eqvAll]
  | a :: as, [] => by simp [PyData.eqvAll]
  | a :: as, b :: bs => by
    have ih := eqv_natsL as bs
    have e : PyData.eqv (natD a) (natD b) = decide (a = b) := by
      unfold natD
      rw [eqv_int]
      exact decide_eq_decide.mpr (by omega)
    simp only [List.map_cons, PyData.eqvAll, e, ih]
    by_cases h1 : a = b <;> by_cases h2 : as = bs <;> simp [h1, h2]
theorem shaped_natsL (as : List Nat) : SeqAt.shaped (.list (as.map natD)) = true := (shaped_flat (xs := as.map natD) fun x hx => by
  obtain ⟨n, _, rfl⟩ := List.mem_map.mp hx
  simp [natD, PyData.canLay0, PyData.depth]).1
theorem shaped_natsT (as : List Nat) : SeqAt.shaped (.tuple (as.map natD)) = true := (shaped_flat (xs := as.map natD) fun x hx => by
  obtain ⟨n, _, rfl⟩ := List.mem_map.mp hx
  simp [natD, PyData.canLay0, PyData.depth]).2
theorem neW_natsL (S : Sto) (as bs : List Nat) : neW (.d (.list (as.map natD))) (.d (.list (bs.map natD))) S = some (.bool (!decide (as = bs))) := by
  simp [neW, datW, eqD, scalD, shaped_natsL, PyData.eqv, eqv_natsL]
theorem neW_natsT (S : Sto) (as bs : List Nat) : neW (.d (.tuple (as.map natD))) (.d (.tuple (bs.map natD))) S = some (.bool (!decide (as = bs))) := by
  simp [neW, datW, eqD, scalD, shaped_natsT, PyData.eqv, eqv_natsL]
theorem eqW_natsT (S : Sto) (as bs : List Nat) : eqW (.d (.tuple (as.map natD))) (.d (.tuple (bs.map natD))) S = some (.bool (decide (as = bs))) := by
  simp [eqW, datW, eqD, scalD, shaped_natsT, PyData.eqv, eqv_natsL]
theorem flat_one {α : Type} (k : Nat) (a : α) : (List.replicate k [a]).flatten = List.replicate k a := by
  induction k with
  | zero => rfl
  | succ k ih => rw [List.replicate_succ, List.flatten_cons, ih, List.replicate_succ]; rfl
theorem mulT_n (S : Sto) (n k : Nat) (h : k ≤ 1000) : mulTW (.d (.tuple [natD n])) (.d (.int (k : Int))) S = some (.tuple ((List.replicate k n).map natD)) := by
  rw [mulTW_ok ⟨by omega, by omega, by simp⟩, flat_one]
  simp
theorem map_zero_rep (ws : List Nat) : (ws.map fun _ => (0 : Nat)) = List.replicate ws.length 0 := by
  induction ws with
  | nil => rfl
  | cons a t ih => rw [List.map_cons, ih]; rfl
/-- lists of bools, none true -/
theorem anyW_none (S : Sto) (bs : List Bool) (h : ∀ b ∈ bs, b = false) : anyW [.d (.list (bs.map PyData.bool))] S = some (.bool false) := by
  rw [anyW_l, allBool_map, Option.map_some]
  congr 2
  rw [List.any_eq_false]
  intro b hb
  simp [h b hb]
theorem bit_step (m i : Nat) : m % 2 ^ (i + 1) = if m.testBit i then m % 2 ^ i ||| 2 ^ i else m % 2 ^ i := by
  apply Nat.eq_of_testBit_eq
  intro j
  cases hb : m.testBit i
  · simp only [Bool.false_eq_true, if_false, Nat.testBit_mod_two_pow]
    by_cases c : j = i
    · subst c; simp [hb]
    · have : decide (j < i + 1) = decide (j < i) := decide_eq_decide.mpr (by omega)
      rw [this]
  · simp only [if_true, Nat.testBit_or, Nat.testBit_mod_two_pow, Nat.testBit_two_pow]
    by_cases c : j = i
    · subst c; simp [hb]
    · have : decide (j < i + 1) = decide (j < i) := decide_eq_decide.mpr (by omega)
      rw [this]
      simp [Ne.symm c]
/-! Math, part K: what a row tells of numbers; the need of a mask is enough. -/
/-- what a row tells of numbers -/
def workN (r : Rw) (vws xs : List Nat) : Nat := match r.word, xs with
  | .num, _ => r.ops.headD 0
  | .pick, [c, a, b] => if c = 1 then a else b
  | _, [x] => movedN r (vws.headD 0) x
  | .same, [a, b] => comparedN .same (vws.headD 0) a b
  | .less, [a, b] => comparedN .less (vws.headD 0) a b
  | .under, [a, b] => comparedN .under (vws.headD 0) a b
  | _, [a, b] => joinedN r a b
  | _, _ => 0
/-- numbers of operands as they fit a row -/
def fitsX (r : Rw) (vws xs : List Nat) : Prop := 1 ≤ r.w ∧ r.w ≤ 64 ∧ match r.word with
  | .inp => False
  | .num => vws = [] ∧ xs = [] ∧ ∃ v, r.ops = [v] ∧ v < 2 ^ r.w
  | .not => ∃ x, vws = [r.w] ∧ xs = [x] ∧ x < 2 ^ r.w
  | .left => ∃ x, vws = [r.w] ∧ xs = [x] ∧ x < 2 ^ r.w ∧ ∃ a k, r.ops = [a, k] ∧ k < 64
  | .right => ∃ x, vws = [r.w] ∧ xs = [x] ∧ x < 2 ^ r.w ∧ ∃ a k, r.ops = [a, k] ∧ k < 64
  | .slide => ∃ x, vws = [r.w] ∧ xs = [x] ∧ x < 2 ^ r.w ∧ ∃ a k, r.ops = [a, k] ∧ k < 64
  | .cut => ∃ v x, vws = [v] ∧ xs = [x] ∧ r.w ≤ v ∧ v ≤ 64 ∧ x < 2 ^ v
  | .wide => ∃ v x, vws = [v] ∧ xs = [x] ∧ 1 ≤ v ∧ v ≤ r.w ∧ x < 2 ^ v
  | .sign => ∃ v x, vws = [v] ∧ xs = [x] ∧ 1 ≤ v ∧ v ≤ r.w ∧ x < 2 ^ v
  | .same => ∃ v a b, vws = [v, v] ∧ xs = [a, b] ∧ r.w = 1 ∧ 1 ≤ v ∧ v ≤ 64 ∧ a < 2 ^ v ∧ b < 2 ^ v
  | .less => ∃ v a b, vws = [v, v] ∧ xs = [a, b] ∧ r.w = 1 ∧ 1 ≤ v ∧ v ≤ 64 ∧ a < 2 ^ v ∧ b < 2 ^ v
  | .under => ∃ v a b, vws = [v, v] ∧ xs = [a, b] ∧ r.w = 1 ∧ 1 ≤ v ∧ v ≤ 64 ∧ a < 2 ^ v ∧ b < 2 ^ v
  | .pick => ∃ c a b, vws = [1, r.w, r.w] ∧ xs = [c, a, b] ∧ c < 2 ∧ a < 2 ^ r.w ∧ b < 2 ^ r.w
  | _ => ∃ a b, vws = [r.w, r.w] ∧ xs = [a, b] ∧ a < 2 ^ r.w ∧ b < 2 ^ r.w
/-- alike on the bits of n -/
def Ag (n x y : Nat) : Prop := ∀ i, n.testBit i = true → x.testBit i = y.testBit i
def Ag3 : List Nat → List Nat → List Nat → Prop
  | n :: ns, x :: xs, y :: ys => Ag n x y ∧ Ag3 ns xs ys
  | _, _, _ => True
theorem Ag.refl (n x : Nat) : Ag n x x := fun _ _ => rfl
theorem Al.of {α β : Type} {R : α → β → Prop} : ∀ {as : List α} {bs : List β}, as.length = bs.length → (∀ (i : Nat) (a : α) (b : β), as[i]? = some a → bs[i]? = some b → R a b) → Al R as bs
  | [], [], _, _ => trivial
  | [], _ :: _, h, _ => by simp at h
  | _ :: _, [], h, _ => by simp at h
  | a :: as, b :: bs, h, H => ⟨H 0 a b rfl rfl, Al.of (by simpa using h) fun i x y h1 h2 => H (i + 1) x y h1 h2⟩
theorem Ag3.of : ∀ {ns xs ys : List Nat}, (∀ (i n x y : Nat), ns[i]? = some n → xs[i]? = some x → ys[i]? = some y → Ag n x y) → Ag3 ns xs ys
  | n :: ns, x :: xs, y :: ys, H => ⟨H 0 n x y rfl rfl rfl, Ag3.of fun i a b c h1 h2 h3 => H (i + 1) a b c h1 h2 h3⟩
  | [], _, _, _ => trivial
  | _ :: _, [], _, _ => trivial
  | _ :: _, _ :: _, [], _ => trivial
theorem strN_at {n w W i : Nat} (hw : 1 ≤ w) (hW : w ≤ W) (hn : n < 2 ^ w) (hi : i < W) : (strN n w W).testBit i = n.testBit (min i (w - 1)) := by
  rw [strN_bits hw hW hn, worthL_bit]
  by_cases c : i < w
  · rw [List.getElem?_append_left (by rw [bitsL_length]; exact c), bitsL_at, if_pos c, show min i (w - 1) = i by omega]
    rfl
  · rw [List.getElem?_append_right (by rw [bitsL_length]; omega), bitsL_length, List.getElem?_replicate, if_pos (by omega), show min i (w - 1) = w - 1 by omega]
    rfl
theorem fitsX_of {r : Rw} {ws xs : List Nat} (h : r.fit ws) (hn : r.word ≠ .inp) (hx : Al (fun x w => x < 2 ^ w) xs ws) : fitsX r ws xs := by
  obtain ⟨h1, h2, h⟩ := h
  refine ⟨h1, h2, ?_⟩
  cases hwd : r.word <;> simp only [hwd] at h ⊢
  case inp => exact absurd hwd hn
  case num => obtain ⟨rfl, q⟩ := h; match xs, hx with | [], _ => exact ⟨rfl, rfl, q⟩
  case not => obtain ⟨rfl, q⟩ := h; match xs, hx with | [x], hx => exact ⟨x, rfl, rfl, hx.1⟩
  case left => obtain ⟨rfl, q⟩ := h; match xs, hx with | [x], hx => exact ⟨x, rfl, rfl, hx.1, q⟩
  case right => obtain ⟨rfl, q⟩ := h; match xs, hx with | [x], hx => exact ⟨x, rfl, rfl, hx.1, q⟩
  case slide => obtain ⟨rfl, q⟩ := h; match xs, hx with | [x], hx => exact ⟨x, rfl, rfl, hx.1, q⟩
  case cut => obtain ⟨v, a, rfl, _, q1, q2⟩ := h; match xs, hx with | [x], hx => exact ⟨v, x, rfl, rfl, q1, q2, hx.1⟩
  case wide => obtain ⟨v, a, rfl, _, q1, q2⟩ := h; match xs, hx with | [x], hx => exact ⟨v, x, rfl, rfl, q1, q2, hx.1⟩
  case sign => obtain ⟨v, a, rfl, _, q1, q2⟩ := h; match xs, hx with | [x], hx => exact ⟨v, x, rfl, rfl, q1, q2, hx.1⟩
  case same => obtain ⟨v, a, b, rfl, _, q0, q1, q2⟩ := h; match xs, hx with | [x, y], hx => exact ⟨v, x, y, rfl, rfl, q0, q1, q2, hx.1, hx.2.1⟩
  case less => obtain ⟨v, a, b, rfl, _, q0, q1, q2⟩ := h; match xs, hx with | [x, y], hx => exact ⟨v, x, y, rfl, rfl, q0, q1, q2, hx.1, hx.2.1⟩
  case under => obtain ⟨v, a, b, rfl, _, q0, q1, q2⟩ := h; match xs, hx with | [x, y], hx => exact ⟨v, x, y, rfl, rfl, q0, q1, q2, hx.1, hx.2.1⟩
  case pick => obtain ⟨rfl, q⟩ := h; match xs, hx with | [c, x, y], hx => exact ⟨c, x, y, rfl, rfl, hx.1, hx.2.1, hx.2.2.1⟩
  all_goals
    obtain ⟨rfl, q⟩ := h
    match xs, hx with
    | [x, y], hx => exact ⟨x, y, rfl, rfl, hx.1, hx.2.1⟩
theorem bit_of_mod {a b h i : Nat} (e : a % 2 ^ h = b % 2 ^ h) (hi : i < h) : a.testBit i = b.testBit i := by
  have := congrArg (fun x => x.testBit i) e
  simpa [Nat.testBit_mod_two_pow, hi] using this
theorem mod_of_ag {k x y : Nat} (h : Ag (2 ^ k - 1) x y) : x % 2 ^ k = y % 2 ^ k := by
  apply Nat.eq_of_testBit_eq
  intro i
  rw [Nat.testBit_mod_two_pow, Nat.testBit_mod_two_pow]
  by_cases c : i < k
  · rw [h i (by rw [Nat.testBit_two_pow_sub_one]; simpa using c)]
  · simp [c]
theorem eq_of_ag {k x y : Nat} (h : Ag (2 ^ k - 1) x y) (hx : x < 2 ^ k) (hy : y < 2 ^ k) : x = y := by
  have := mod_of_ag h
  rwa [Nat.mod_eq_of_lt hx, Nat.mod_eq_of_lt hy] at this
theorem lowR_dvd {z v : Nat} (h : z &&& v = 0) {k : Nat} (hk : k ≤ lowR z) : 2 ^ k ∣ v := by
  have hb := and_zero_bits.mp h
  have h64 : k ≤ 64 := by have := (runF_le z.testBit 64 0).2; unfold lowR at hk; omega
  have g := (runF_ge z.testBit 64 0 k h64).mp (by unfold lowR at hk; omega)
  apply Nat.dvd_of_mod_eq_zero
  apply Nat.eq_of_testBit_eq
  intro i
  rw [Nat.testBit_mod_two_pow, Nat.zero_testBit]
  by_cases c : i < k
  · rw [hb i (g i (by omega) (by omega))]; simp
  · simp [c]
theorem int_dvd_of_mod {a b n : Nat} (h : a % n = b % n) : (n : Int) ∣ (a : Int) - b := by
  apply Int.dvd_of_emod_eq_zero
  apply Int.emod_eq_emod_iff_emod_sub_eq_zero.mp
  omega
theorem mod_of_int_dvd {a b n : Nat} (h : (n : Int) ∣ (a : Int) - b) : a % n = b % n := by
  have := Int.emod_eq_emod_iff_emod_sub_eq_zero.mpr (Int.emod_eq_zero_of_dvd h)
  omega
theorem mul_enough {x1 x2 y1 y2 h l1 l2 : Nat} (d1 : 2 ^ (min (h - min h l2) l1) ∣ x1) (d2 : 2 ^ min h l2 ∣ x2) (e1 : x1 % 2 ^ (h - min h l2) = y1 % 2 ^ (h - min h l2))
    (e2 : x2 % 2 ^ (h - min (h - min h l2) l1) = y2 % 2 ^ (h - min (h - min h l2) l1)) : x1 * x2 % 2 ^ h = y1 * y2 % 2 ^ h := by
  generalize hs1 : min h l2 = s1 at *
  generalize hs2 : min (h - s1) l1 = s2 at *
  apply mod_of_int_dvd
  have i1 := int_dvd_of_mod e1
  have i2 := int_dvd_of_mod e2
  have D1 : ((2 ^ s2 : Nat) : Int) ∣ (x1 : Int) := Int.natCast_dvd_natCast.mpr d1
  have D2 : ((2 ^ s1 : Nat) : Int) ∣ (x2 : Int) := Int.natCast_dvd_natCast.mpr d2
  have D3 : ((2 ^ s1 : Nat) : Int) ∣ (y2 : Int) := by
    have : ((2 ^ s1 : Nat) : Int) ∣ (x2 : Int) - y2 := Int.dvd_trans (Int.natCast_dvd_natCast.mpr (Nat.pow_dvd_pow 2 (by omega))) i2
    have q := Int.dvd_sub D2 this
    rwa [show (x2 : Int) - (x2 - y2) = y2 by omega] at q
  have p1 : ((2 ^ h : Nat) : Int) = ((2 ^ s2 : Nat) : Int) * ((2 ^ (h - s2) : Nat) : Int) := by
    rw [← Int.natCast_mul, ← Nat.pow_add, show s2 + (h - s2) = h by omega]
  have p2 : ((2 ^ h : Nat) : Int) = ((2 ^ (h - s1) : Nat) : Int) * ((2 ^ s1 : Nat) : Int) := by
    rw [← Int.natCast_mul, ← Nat.pow_add, show (h - s1) + s1 = h by omega]
  have q1 : ((2 ^ h : Nat) : Int) ∣ (x1 : Int) * (x2 - y2) := by rw [p1]; exact Int.mul_dvd_mul D1 i2
  have q2 : ((2 ^ h : Nat) : Int) ∣ ((x1 : Int) - y1) * y2 := by rw [p2]; exact Int.mul_dvd_mul i1 D3
  have q3 := Int.dvd_add q1 q2
  have e : ((x1 * x2 : Nat) : Int) - ((y1 * y2 : Nat) : Int) = (x1 : Int) * (x2 - y2) + ((x1 : Int) - y1) * y2 := by
    rw [Int.natCast_mul, Int.natCast_mul, Int.mul_sub, Int.sub_mul]; omega
  rw [e]
  exact q3
theorem subN_mod {w h a b a' b' : Nat} (hh : h ≤ w) (e1 : a % 2 ^ h = a' % 2 ^ h) (e2 : b % 2 ^ h = b' % 2 ^ h) : subN w a b % 2 ^ h = subN w a' b' % 2 ^ h := by
  have g : ∀ a b : Nat, ((subN w a b % 2 ^ h : Nat) : Int) = ((a : Int) - b) % 2 ^ h := fun a b => by
    have := subN_int w a b
    rw [Int.natCast_emod, ← this, ← pow_nat, Int.emod_emod_of_dvd]
    rw [pow_nat, pow_nat]
    exact Int.natCast_dvd_natCast.mpr (Nat.pow_dvd_pow 2 hh)
  have g1 := g a b
  have g2 := g a' b'
  have e3 : ((a : Int) - b) % 2 ^ h = ((a' : Int) - b') % 2 ^ h := by
    rw [Int.sub_emod, Int.sub_emod (a' : Int), mod_int, mod_int, mod_int, mod_int, e1, e2]
  omega
theorem reach_bit {m i : Nat} (h : m.testBit i = true) : i < reachN m := by
  by_cases c : i < reachN m
  · exact c
  · rw [reachN_hi (by omega)] at h; cases h
/-- what is needed is enough -/
theorem need_enough {r : Rw} {ws xs ys : List Nat} {fs : List Fct} {m : Nat} (h : r.fit ws) (hm : m < 2 ^ r.w) (hn : r.word ≠ .inp) (hf : Al Fct.two fs ws) (hx : Al (fun x w => x < 2 ^ w) xs ws) (hy : Al (fun x w => x < 2 ^ w) ys ws)
    (hh : Al (fun (f : Fct) x => f.z &&& x = 0 ∧ f.o &&& x = f.o) fs xs) (ha : Ag3 (needN r ws fs m) xs ys) : Ag m (workN r ws xs) (workN r ws ys) := by
  obtain ⟨h1, h2, h⟩ := h
  intro i hi
  have hiw : i < r.w := by
    by_cases c : i < r.w
    · exact c
    · rw [Nat.testBit_lt_two_pow (Nat.lt_of_lt_of_le hm (Nat.pow_le_pow_right (by decide) (by omega)))] at hi; cases hi
  have hr := reach_bit hi
  have hrw := reachN_le hm
  have m0 : m ≠ 0 := by rintro rfl; simp at hi
  have cmp : ∀ (v a b : Nat), ws = [v, v] → (r.word = .same ∨ r.word = .less ∨ r.word = .under) → (needN r ws fs m = [allN v m, allN v m]) → xs = ys := by
    rintro v a b rfl hw en
    rw [en] at ha
    have ea : allN v m = 2 ^ v - 1 := by simp [allN, m0]
    match xs, ys, hx, hy with
    | [x, x'], [y, y'], hx, hy =>
      rw [ea] at ha
      rw [eq_of_ag ha.1 hx.1 hy.1, eq_of_ag ha.2.1 hx.2.1 hy.2.1]
  cases hwd : r.word <;> simp only [hwd] at h
  case inp => exact absurd hwd hn
  case num => obtain ⟨rfl, q⟩ := h; match xs, ys, hx, hy with | [], [], _, _ => rfl
  case not =>
    obtain ⟨rfl, q⟩ := h
    match xs, ys, hx, hy with
    | [x], [y], hx, hy =>
      simp only [needN, needL, hwd, List.map_cons, List.map_nil, Ag3, and_true] at ha
      simp only [workN, hwd, movedN, List.headD_cons]
      rw [compl_bit hx.1 hiw, compl_bit hy.1 hiw, ha i (by rw [Nat.mod_eq_of_lt hm]; exact hi)]
  case left =>
    obtain ⟨rfl, q⟩ := h
    match xs, ys, hx, hy with
    | [x], [y], hx, hy =>
      simp only [needN, needL, hwd, List.map_cons, List.map_nil, Ag3, and_true] at ha
      simp only [workN, hwd, movedN, List.headD_cons]
      generalize r.ops.getD 1 0 = k at *
      simp only [Nat.testBit_mod_two_pow, Nat.mul_comm _ (2 ^ _), testBit_two_pow_mul']
      by_cases c : k ≤ i
      · rw [ha (i - k) (by rw [Nat.testBit_div_two_pow, Nat.sub_add_cancel c]; exact hi)]
      · simp [c]
  case right =>
    obtain ⟨rfl, q⟩ := h
    match xs, ys, hx, hy with
    | [x], [y], hx, hy =>
      simp only [needN, needL, hwd, List.map_cons, List.map_nil, Ag3, and_true] at ha
      simp only [workN, hwd, movedN, List.headD_cons]
      generalize r.ops.getD 1 0 = k at *
      simp only [Nat.testBit_div_two_pow]
      by_cases c : i + k < r.w
      · rw [ha (i + k) (by
          rw [Nat.testBit_mod_two_pow, Nat.mul_comm, testBit_two_pow_mul', Nat.add_sub_cancel]
          simp [c, hi])]
      · rw [Nat.testBit_lt_two_pow (Nat.lt_of_lt_of_le hx.1 (Nat.pow_le_pow_right (by decide) (by omega))), Nat.testBit_lt_two_pow (Nat.lt_of_lt_of_le hy.1 (Nat.pow_le_pow_right (by decide) (by omega)))]
  case slide =>
    obtain ⟨rfl, q⟩ := h
    match xs, ys, hx, hy with
    | [x], [y], hx, hy =>
      simp only [needN, needL, hwd, List.map_cons, List.map_nil, Ag3, and_true] at ha
      simp only [workN, hwd, movedN, List.headD_cons]
      simp only [Nat.testBit_div_two_pow]
      rw [strN_at h1 (by omega) hx.1 (by omega), strN_at h1 (by omega) hy.1 (by omega)]
      exact ha _ ((capN_bit h1).mpr ⟨i, hi, rfl⟩)
  case cut =>
    obtain ⟨v, a, rfl, _, q1, q2⟩ := h
    match xs, ys, hx, hy with
    | [x], [y], hx, hy =>
      simp only [needN, needL, hwd, List.map_cons, List.map_nil, Ag3, and_true] at ha
      simp only [workN, hwd, movedN]
      rw [Nat.testBit_mod_two_pow, Nat.testBit_mod_two_pow, ha i (by rw [Nat.testBit_mod_two_pow, hi]; simp; omega)]
  case wide =>
    obtain ⟨v, a, rfl, _, q1, q2⟩ := h
    match xs, ys, hx, hy with
    | [x], [y], hx, hy =>
      simp only [needN, needL, hwd, List.map_cons, List.map_nil, Ag3, and_true] at ha
      simp only [workN, hwd, movedN]
      by_cases c : i < v
      · exact ha i (by rw [Nat.testBit_mod_two_pow, hi]; simp [c])
      · rw [Nat.testBit_lt_two_pow (Nat.lt_of_lt_of_le hx.1 (Nat.pow_le_pow_right (by decide) (by omega))), Nat.testBit_lt_two_pow (Nat.lt_of_lt_of_le hy.1 (Nat.pow_le_pow_right (by decide) (by omega)))]
  case sign =>
    obtain ⟨v, a, rfl, _, q1, q2⟩ := h
    match xs, ys, hx, hy with
    | [x], [y], hx, hy =>
      simp only [needN, needL, hwd, List.map_cons, List.map_nil, Ag3, and_true] at ha
      simp only [workN, hwd, movedN, List.headD_cons]
      rw [strN_at q1 q2 hx.1 hiw, strN_at q1 q2 hy.1 hiw]
      exact ha _ ((capN_bit q1).mpr ⟨i, hi, rfl⟩)
  case same => obtain ⟨v, a, b, rfl, _⟩ := h; rw [cmp v a b rfl (by simp [hwd]) (by match fs, hf with | [f, g], _ => simp [needN, needL, hwd])]
  case less => obtain ⟨v, a, b, rfl, _⟩ := h; rw [cmp v a b rfl (by simp [hwd]) (by match fs, hf with | [f, g], _ => simp [needN, needL, hwd])]
  case under => obtain ⟨v, a, b, rfl, _⟩ := h; rw [cmp v a b rfl (by simp [hwd]) (by match fs, hf with | [f, g], _ => simp [needN, needL, hwd])]
  case and =>
    obtain ⟨rfl, q⟩ := h
    match fs, xs, ys, hf, hx, hy, hh with
    | [f, g], [x, x'], [y, y'], hf, hx, hy, hh =>
      simp only [needN, needL, hwd, List.map_cons, List.map_nil, Ag3, and_true] at ha
      simp only [workN, hwd, joinedN, Nat.testBit_and]
      have a1 := ha.1 i
      have a2 := ha.2 i
      simp only [andNot_bit, hi, Bool.true_and] at a1 a2
      have z1 := and_zero_bits.mp hh.1.1 i
      have z2 := and_zero_bits.mp hh.2.1.1 i
      cases hz : f.z.testBit i <;> cases hg : g.z.testBit i <;> simp [hz, hg] at a1 a2 z1 z2
      · rw [a1, a2]
      · rw [← a2, z2]; simp
      · rw [← a1, z1]; simp
      · rw [← a1, z1]; simp
  case or =>
    obtain ⟨rfl, q⟩ := h
    match fs, xs, ys, hf, hx, hy, hh with
    | [f, g], [x, x'], [y, y'], hf, hx, hy, hh =>
      simp only [needN, needL, hwd, List.map_cons, List.map_nil, Ag3, and_true] at ha
      simp only [workN, hwd, joinedN, Nat.testBit_or]
      have a1 := ha.1 i
      have a2 := ha.2 i
      simp only [andNot_bit, hi, Bool.true_and] at a1 a2
      have z1 := and_self_bits.mp hh.1.2 i
      have z2 := and_self_bits.mp hh.2.1.2 i
      cases hz : f.o.testBit i <;> cases hg : g.o.testBit i <;> simp [hz, hg] at a1 a2 z1 z2
      · rw [a1, a2]
      · rw [← a2, z2]; simp
      · rw [← a1, z1]; simp
      · rw [← a1, z1]; simp
  case xor =>
    obtain ⟨rfl, q⟩ := h
    match fs, xs, ys, hf, hx, hy with
    | [f, g], [x, x'], [y, y'], hf, hx, hy =>
      simp only [needN, needL, hwd, List.map_cons, List.map_nil, Ag3, and_true] at ha
      simp only [workN, hwd, joinedN, Nat.testBit_xor]
      rw [ha.1 i hi, ha.2 i hi]
  case add =>
    obtain ⟨rfl, q⟩ := h
    match fs, xs, ys, hf, hx, hy with
    | [f, g], [x, x'], [y, y'], hf, hx, hy =>
      simp only [needN, needL, hwd, List.map_cons, List.map_nil, Ag3, and_true] at ha
      simp only [workN, hwd, joinedN, Nat.testBit_mod_two_pow]
      have e1 := mod_of_ag ha.1
      have e2 := mod_of_ag ha.2
      have e3 : (x + x') % 2 ^ reachN m = (y + y') % 2 ^ reachN m := by rw [Nat.add_mod, e1, e2, ← Nat.add_mod]
      rw [bit_of_mod e3 hr]
  case sub =>
    obtain ⟨rfl, q⟩ := h
    match fs, xs, ys, hf, hx, hy with
    | [f, g], [x, x'], [y, y'], hf, hx, hy =>
      simp only [needN, needL, hwd, List.map_cons, List.map_nil, Ag3, and_true] at ha
      simp only [workN, hwd, joinedN]
      exact bit_of_mod (subN_mod hrw (mod_of_ag ha.1) (mod_of_ag ha.2)) hr
  case mul =>
    obtain ⟨rfl, q⟩ := h
    match fs, xs, ys, hf, hx, hy, hh with
    | [f, g], [x, x'], [y, y'], hf, hx, hy, hh =>
      simp only [needN, needL, hwd, List.map_cons, List.map_nil, Ag3, and_true, mulL, mulR] at ha
      simp only [workN, hwd, joinedN, Nat.testBit_mod_two_pow]
      have e3 := mul_enough (h := reachN m) (l1 := lowR f.z) (l2 := lowR g.z) (lowR_dvd hh.1.1 (by omega)) (lowR_dvd hh.2.1.1 (by omega)) (mod_of_ag ha.1) (mod_of_ag ha.2)
      rw [bit_of_mod e3 hr]
  case pick =>
    obtain ⟨rfl, q⟩ := h
    match fs, xs, ys, hf, hx, hy, hh with
    | [f, g, k], [c, x, x'], [d, y, y'], hf, hx, hy, hh =>
      simp only [needN, needL, hwd, List.map_cons, List.map_nil, Ag3, and_true] at ha
      simp only [workN, hwd]
      have ec : c = d := eq_of_ag (k := 1) (by have := ha.1; simpa [allN, m0] using this) hx.1 hy.1
      subst ec
      have hc : c < 2 := hx.1
      by_cases c1 : f.o = 1
      · have : c = 1 := by
          have := and_self_bits.mp hh.1.2 0 (by rw [c1]; rfl)
          have c2 : c = 0 ∨ c = 1 := by omega
          rcases c2 with rfl | rfl
          · simp at this
          · rfl
        simp only [this, if_true]
        simp only [c1, if_true] at ha
        exact ha.2.1 i hi
      · by_cases c2 : f.z = 1
        · have : c = 0 := by
            have := and_zero_bits.mp hh.1.1 0 (by rw [c2]; rfl)
            have c2 : c = 0 ∨ c = 1 := by omega
            rcases c2 with rfl | rfl
            · rfl
            · simp at this
          simp only [this, show ¬ ((0 : Nat) = 1) by omega, if_false]
          simp only [c1, c2, if_false, if_true] at ha
          exact ha.2.2 i hi
        · simp only [c1, c2, if_false] at ha
          by_cases c3 : c = 1
          · simp only [c3, if_true]; exact ha.2.1 i hi
          · simp only [c3, if_false]; exact ha.2.2 i hi
theorem workN_lt {r : Rw} {ws xs : List Nat} (h : fitsX r ws xs) : workN r ws xs < 2 ^ r.w := by
  obtain ⟨h1, h2, h⟩ := h
  have hp := pow_pos' r.w
  have one : ∀ b : Bool, r.w = 1 → b.toNat < 2 ^ r.w := fun b e => by rw [e]; cases b <;> decide
  cases hwd : r.word <;> simp only [hwd] at h
  case num => obtain ⟨rfl, rfl, v, e, q⟩ := h; simp only [workN, hwd, e, List.headD_cons]; exact q
  case not => obtain ⟨x, rfl, rfl, q⟩ := h; simp only [workN, hwd, movedN, List.headD_cons]; omega
  case left => obtain ⟨x, rfl, rfl, q⟩ := h; simp only [workN, hwd, movedN, List.headD_cons]; exact Nat.mod_lt _ hp
  case right => obtain ⟨x, rfl, rfl, q, _⟩ := h; simp only [workN, hwd, movedN, List.headD_cons]; exact Nat.lt_of_le_of_lt (Nat.div_le_self _ _) q
  case slide =>
    obtain ⟨x, rfl, rfl, q, _⟩ := h
    simp only [workN, hwd, movedN, List.headD_cons]
    have := strN_lt (W := r.w + r.ops.getD 1 0) h1 (by omega) q
    rw [Nat.div_lt_iff_lt_mul (pow_pos' _), ← Nat.pow_add]; exact this
  case cut => obtain ⟨v, x, rfl, rfl, q⟩ := h; simp only [workN, hwd, movedN, List.headD_cons]; exact Nat.mod_lt _ hp
  case wide => obtain ⟨v, x, rfl, rfl, q1, q2, q3⟩ := h; simp only [workN, hwd, movedN, List.headD_cons]; exact Nat.lt_of_lt_of_le q3 (Nat.pow_le_pow_right (by decide) q2)
  case sign => obtain ⟨v, x, rfl, rfl, q1, q2, q3⟩ := h; simp only [workN, hwd, movedN, List.headD_cons]; exact strN_lt q1 q2 q3
  case same => obtain ⟨v, a, b, rfl, rfl, q, _⟩ := h; simp only [workN, hwd, comparedN]; exact one _ q
  case less => obtain ⟨v, a, b, rfl, rfl, q, _⟩ := h; simp only [workN, hwd, comparedN]; exact one _ q
  case under => obtain ⟨v, a, b, rfl, rfl, q, _⟩ := h; simp only [workN, hwd, comparedN]; exact one _ q
  case pick => obtain ⟨c, a, b, rfl, rfl, _, q1, q2⟩ := h; simp only [workN, hwd]; split <;> assumption
  case and => obtain ⟨a, b, rfl, rfl, q1, q2⟩ := h; simp only [workN, hwd, joinedN]; exact Nat.lt_of_le_of_lt Nat.and_le_left q1
  case or => obtain ⟨a, b, rfl, rfl, q1, q2⟩ := h; simp only [workN, hwd, joinedN]; exact Nat.or_lt_two_pow q1 q2
  case xor => obtain ⟨a, b, rfl, rfl, q1, q2⟩ := h; simp only [workN, hwd, joinedN]; exact Nat.xor_lt_two_pow q1 q2
  case add => obtain ⟨a, b, rfl, rfl, q1, q2⟩ := h; simp only [workN, hwd, joinedN]; exact Nat.mod_lt _ hp
  case mul => obtain ⟨a, b, rfl, rfl, q1, q2⟩ := h; simp only [workN, hwd, joinedN]; exact Nat.mod_lt _ hp
  case sub =>
    obtain ⟨a, b, rfl, rfl, q1, q2⟩ := h
    simp only [workN, hwd, joinedN]
    rw [subN_eq q2]
    exact Nat.mod_lt _ hp
theorem Rd.push {ns : List Int} {n B : Nat} {S : Sto} (h : Rd ns n B S) (o : Ob) : Rd ns n B (S ++ [o]) := by
  obtain ⟨k, m, a, b⟩ := h
  refine ⟨k, m, ?_, b⟩
  have : n < S.length := by
    by_cases c : n < S.length
    · exact c
    · rw [List.getElem?_eq_none (by omega)] at a; cases a
  rw [List.getElem?_append_left this, a]
theorem Rd.lt {ns : List Int} {n B : Nat} {S : Sto} (h : Rd ns n B S) : n < S.length := by
  obtain ⟨k, m, a, b⟩ := h
  by_cases c : n < S.length
  · exact c
  · rw [List.getElem?_eq_none (by omega)] at a; cases a
theorem Rd.set {ns : List Int} {n B : Nat} {S : Sto} (h : Rd ns n B S) {k : Nat} (hk : k ≠ n) (o : Ob) : Rd ns n B (S.set k o) := by
  obtain ⟨i, m, a, b⟩ := h
  exact ⟨i, m, by rw [List.getElem?_set_ne hk]; exact a, b⟩
theorem andNot_lt {a b w : Nat} (h : a < 2 ^ w) : andNot a b < 2 ^ w := Nat.lt_of_le_of_lt (andNot_le a b) h
theorem noise_ag (n x t : Nat) : Ag n x (x ^^^ andNot t n) := by
  intro i hi
  rw [Nat.testBit_xor, andNot_bit, hi]
  simp
theorem ag_zero {m x y : Nat} (h : Ag m x y) : (y ^^^ x) &&& m = 0 := by
  apply Nat.eq_of_testBit_eq
  intro i
  rw [Nat.testBit_and, Nat.testBit_xor, Nat.zero_testBit]
  cases hm : m.testBit i
  · simp
  · rw [h i hm]; simp
/-! Math, part L: operands; runs of programs. -/
theorem cutRow (r : Rw) (k : Nat) : cutD (wD r.word :: .int (r.w : Int) :: r.ops.map natD) (some 2) (some ((2 + k : Nat) : Int)) = (r.ops.take k).map natD := by
  have e1 : ∀ n d, HT.sIx n d (some 2) = min 2 n := fun n d => HT.sIx_nat n d 2
  unfold cutD
  rw [e1, HT.sIx_nat]
  simp only [List.length_cons, List.length_map]
  rw [show min 2 (r.ops.length + 1 + 1) = 2 by omega, show min (2 + k) (r.ops.length + 1 + 1) - 2 = min k r.ops.length by omega]
  simp only [List.drop_succ_cons, List.drop_zero]
  rw [List.map_take]
  by_cases h : k ≤ r.ops.length
  · rw [Nat.min_eq_left h]
  · rw [Nat.min_eq_right (by omega), List.take_of_length_le (by simp), List.take_of_length_le (by simp; omega)]
theorem cutRow0 (r : Rw) : cutD (wD r.word :: .int (r.w : Int) :: r.ops.map natD) (some 2) none = r.ops.map natD := by
  have e1 : ∀ n d, HT.sIx n d (some 2) = min 2 n := fun n d => HT.sIx_nat n d 2
  have e2 : ∀ n d, HT.sIx n d none = d := fun n d => rfl
  unfold cutD
  rw [e1, e2]
  simp only [List.length_cons, List.length_map]
  rw [show min 2 (r.ops.length + 1 + 1) = 2 by omega, show r.ops.length + 1 + 1 - 2 = r.ops.length by omega]
  simp only [List.drop_succ_cons, List.drop_zero]
  rw [List.take_of_length_le (by simp)]
/-- the operands of a row -/
def opsOf (r : Rw) : List Nat := match r.word with
  | .inp => [] | .num => []
  | .not => r.ops.take 1 | .left => r.ops.take 1 | .right => r.ops.take 1 | .slide => r.ops.take 1 | .cut => r.ops.take 1 | .wide => r.ops.take 1 | .sign => r.ops.take 1
  | _ => r.ops
theorem slRow (S : Sto) (r : Rw) (k : Nat) : slW (.d r.toD) (some 2) (some ((2 + k : Nat) : Int)) S = some (.tuple ((r.ops.take k).map natD)) := by
  rw [← cutRow]; rfl
theorem slRow0 (S : Sto) (r : Rw) : slW (.d r.toD) (some 2) none S = some (.tuple (r.ops.map natD)) := by
  rw [← cutRow0]; rfl
theorem ok_fit {ws : List Nat} {r : Rw} (hw : ∀ w ∈ ws, w ≤ 64) (hv : ∀ w ∈ ws, 1 ≤ w) (h : r.ok ws) : r.fit ((opsOf r).map fun k => ws.getD k 0) ∧ ∀ k ∈ opsOf r, k < ws.length := by
  obtain ⟨wd, w, ops⟩ := r
  obtain ⟨h1, h2, h3⟩ := h
  have g : ∀ {k v : Nat}, ws[k]? = some v → ws.getD k 0 = v ∧ k < ws.length ∧ v ≤ 64 ∧ 1 ≤ v := fun {k v} e => by
    have hk := (List.getElem?_eq_some_iff.mp e).1
    have hm : v ∈ ws := List.mem_of_getElem? e
    exact ⟨by rw [List.getD_eq_getElem?_getD, e]; rfl, hk, hw v hm, hv v hm⟩
  simp only at h1 h2 h3
  unfold Rw.fit
  split at h3
  · simp [-List.getD_eq_getElem?_getD, opsOf, h1, h2]
  · simp [-List.getD_eq_getElem?_getD, opsOf, h1, h2, h3]
  · have := g h3; simp [-List.getD_eq_getElem?_getD, opsOf, h1, h2, this]
  · have := g h3.1; simp [-List.getD_eq_getElem?_getD, opsOf, h1, h2, this]; exact ⟨_, _, ⟨rfl, rfl⟩, h3.2⟩
  · have := g h3.1; simp [-List.getD_eq_getElem?_getD, opsOf, h1, h2, this]; exact ⟨_, _, ⟨rfl, rfl⟩, h3.2⟩
  · have := g h3.1; simp [-List.getD_eq_getElem?_getD, opsOf, h1, h2, this]; exact ⟨_, _, ⟨rfl, rfl⟩, h3.2⟩
  · obtain ⟨v, e, q⟩ := h3; have := g e; simp [-List.getD_eq_getElem?_getD, opsOf, h1, h2, this, q]
  · obtain ⟨v, e, q⟩ := h3; have := g e; simp [-List.getD_eq_getElem?_getD, opsOf, h1, h2, this, q]
  · obtain ⟨v, e, q⟩ := h3; have := g e; simp [-List.getD_eq_getElem?_getD, opsOf, h1, h2, this, q]
  · have q1 := g h3.1; have q2 := g h3.2; simp [-List.getD_eq_getElem?_getD, opsOf, h1, h2, q1, q2]
  · have q1 := g h3.1; have q2 := g h3.2; simp [-List.getD_eq_getElem?_getD, opsOf, h1, h2, q1, q2]
  · have q1 := g h3.1; have q2 := g h3.2; simp [-List.getD_eq_getElem?_getD, opsOf, h1, h2, q1, q2]
  · have q1 := g h3.1; have q2 := g h3.2; simp [-List.getD_eq_getElem?_getD, opsOf, h1, h2, q1, q2]
  · have q1 := g h3.1; have q2 := g h3.2; simp [-List.getD_eq_getElem?_getD, opsOf, h1, h2, q1, q2]
  · have q1 := g h3.1; have q2 := g h3.2; simp [-List.getD_eq_getElem?_getD, opsOf, h1, h2, q1, q2]
  · obtain ⟨e, v, a, b⟩ := h3; have q1 := g a; have q2 := g b; subst e; simp [-List.getD_eq_getElem?_getD, opsOf, q1, q2]
  · obtain ⟨e, v, a, b⟩ := h3; have q1 := g a; have q2 := g b; subst e; simp [-List.getD_eq_getElem?_getD, opsOf, q1, q2]
  · obtain ⟨e, v, a, b⟩ := h3; have q1 := g a; have q2 := g b; subst e; simp [-List.getD_eq_getElem?_getD, opsOf, q1, q2]
  · have q1 := g h3.1; have q2 := g h3.2.1; have q3 := g h3.2.2; simp [-List.getD_eq_getElem?_getD, opsOf, h1, h2, q1, q2, q3]
  · exact h3.elim
/-- widths of a row's operands -/
def opW (rs : List Rw) (r : Rw) : List Nat := (opsOf r).map fun k => (wsOf rs).getD k 0
def opX (ns : List Nat) (r : Rw) : List Nat := (opsOf r).map fun k => ns.getD k 0
theorem okP_ws {rs : List Rw} (h : okP rs) : (∀ w ∈ wsOf rs, w ≤ 64) ∧ ∀ w ∈ wsOf rs, 1 ≤ w := by
  constructor <;>
  · intro w hw
    obtain ⟨i, hi, rfl⟩ := List.getElem_of_mem hw
    have hi' : i < rs.length := by rw [ws_len] at hi; exact hi
    have := ok_w h (List.getElem?_eq_getElem hi')
    have e : (wsOf rs)[i] = rs[i].w := by simp [wsOf]
    omega
theorem okP_fit {rs : List Rw} (h : okP rs) {i : Nat} {r : Rw} (e : rs[i]? = some r) : r.fit (opW rs r) ∧ ∀ k ∈ opsOf r, k < i := by
  have hw := okP_ws (h.take i)
  have f := ok_fit hw.1 hw.2 (h i r e)
  have hi := (List.getElem?_eq_some_iff.mp e).1
  have hk : ∀ k ∈ opsOf r, k < i := fun k hk => by
    have := f.2 k hk
    rw [ws_len, List.length_take] at this
    omega
  refine ⟨?_, hk⟩
  have : opW rs r = (opsOf r).map fun k => (wsOf (rs.take i)).getD k 0 := by
    unfold opW
    apply List.map_congr_left
    intro k hk'
    have := hk k hk'
    simp only [wsOf, List.getD_eq_getElem?_getD, List.getElem?_map, List.getElem?_take]
    rw [if_pos this]
  rw [this]
  exact f.1
/-- how many rows are ins -/
def inN (rs : List Rw) : Nat := (rs.filter fun r => decide (r.word = .inp)).length
theorem inN_append (a b : List Rw) : inN (a ++ b) = inN a + inN b := by simp [inN]
theorem inN_step {rs : List Rw} {i : Nat} {r : Rw} (e : rs[i]? = some r) : inN (rs.take (i + 1)) = inN (rs.take i) + if r.word = .inp then 1 else 0 := by
  have : rs.take (i + 1) = rs.take i ++ [r] := by rw [List.take_add_one, e]; rfl
  rw [this, inN_append]
  congr 1
  unfold inN
  by_cases c : r.word = .inp <;> simp [c]
theorem inN_le (rs : List Rw) (i : Nat) : inN (rs.take i) ≤ inN rs := by
  have : inN rs = inN (rs.take i) + inN (rs.drop i) := by rw [← inN_append, List.take_append_drop]
  omega
theorem inN_lt {rs : List Rw} {i : Nat} {r : Rw} (e : rs[i]? = some r) (h : r.word = .inp) : inN (rs.take i) < inN rs := by
  have h1 := inN_step e
  rw [if_pos h] at h1
  have := inN_le rs (i + 1)
  omega
/-- numbers for the ins of a program -/
def InsOk (rs : List Rw) (ins : List Nat) : Prop := ins.length = inN rs ∧ ∀ (i : Nat) (r : Rw), rs[i]? = some r → r.word = .inp → ins.getD (inN (rs.take i)) 0 < 2 ^ r.w
def valN (rs : List Rw) (r : Rw) (ins ns : List Nat) (come : Nat) : Nat := if r.word = .inp then ins.getD come 0 else workN r (opW rs r) (opX ns r)
theorem opX_congr {r : Rw} {ns ns' : List Nat} (h : ∀ k ∈ opsOf r, ns.getD k 0 = ns'.getD k 0) : opX ns r = opX ns' r := List.map_congr_left h
theorem valN_congr {rs : List Rw} {r : Rw} {ins ns ns' : List Nat} {c : Nat} (h : ∀ k ∈ opsOf r, ns.getD k 0 = ns'.getD k 0) : valN rs r ins ns c = valN rs r ins ns' c := by
  unfold valN
  rw [opX_congr h]
/-- the run up to a row -/
structure Pre (rs : List Rw) (ins ms : List Nat) (i : Nat) (ns : List Nat) : Prop where
  len : ns.length = i
  lt : ∀ (j : Nat) (r : Rw), j < i → rs[j]? = some r → ns.getD j 0 < 2 ^ r.w
  val : ∀ (j : Nat) (r : Rw), j < i → rs[j]? = some r → ns.getD j 0 = valN rs r ins ns (inN (rs.take j)) ^^^ ms.getD j 0
abbrev Runs (rs : List Rw) (ins ms ns : List Nat) : Prop := Pre rs ins ms rs.length ns
theorem Pre.xs {rs : List Rw} {ins ms ns : List Nat} {i j : Nat} (h : Pre rs ins ms i ns) (hok : okP rs) {r : Rw} (e : rs[j]? = some r) (hj : j ≤ i) : Al (fun x w => x < 2 ^ w) (opX ns r) (opW rs r) := by
  have f := okP_fit hok e
  refine Al.of (by simp [opX, opW]) fun a x w h1 h2 => ?_
  simp only [opX, opW, List.getElem?_map, Option.map_eq_some_iff] at h1 h2
  obtain ⟨k, k1, rfl⟩ := h1
  obtain ⟨k', k2, rfl⟩ := h2
  rw [k1] at k2
  cases k2
  have hk := f.2 k (List.mem_of_getElem? k1)
  have hj' := (List.getElem?_eq_some_iff.mp e).1
  have er : rs[k]? = some rs[k] := List.getElem?_eq_getElem (by omega)
  have := h.lt k _ (by omega) er
  have ew := ws_at er
  rw [List.getD_eq_getElem?_getD (l := wsOf rs), ew]
  exact this
theorem Pre.val_lt {rs : List Rw} {ins ms ns : List Nat} {i j : Nat} (h : Pre rs ins ms i ns) (hok : okP rs) (hin : InsOk rs ins) {r : Rw} (e : rs[j]? = some r) (hj : j ≤ i) : valN rs r ins ns (inN (rs.take j)) < 2 ^ r.w := by
  unfold valN
  split
  · rename_i c
    exact hin.2 j r e c
  · rename_i c
    exact workN_lt (fitsX_of (okP_fit hok e).1 c (h.xs hok e hj))
theorem getD_snoc {ns : List Nat} {x i k : Nat} (hl : ns.length = i) (h : k < i) : (ns ++ [x]).getD k 0 = ns.getD k 0 := by
  rw [List.getD_eq_getElem?_getD, List.getElem?_append_left (by omega), ← List.getD_eq_getElem?_getD]
theorem getD_last {ns : List Nat} {x i : Nat} (hl : ns.length = i) : (ns ++ [x]).getD i 0 = x := by
  rw [List.getD_eq_getElem?_getD, List.getElem?_append_right (by omega), hl]; simp
theorem Pre.step {rs : List Rw} {ins ms ns : List Nat} {i : Nat} (h : Pre rs ins ms i ns) (hok : okP rs) (hin : InsOk rs ins) {r : Rw} (e : rs[i]? = some r) (hm : ms.getD i 0 < 2 ^ r.w) :
    Pre rs ins ms (i + 1) (ns ++ [valN rs r ins ns (inN (rs.take i)) ^^^ ms.getD i 0]) := by
  have hv := h.val_lt hok hin e (Nat.le_refl i)
  have hx := Nat.xor_lt_two_pow hv hm
  refine ⟨by simp [h.len], fun j s hj ej => ?_, fun j s hj ej => ?_⟩
  · by_cases c : j < i
    · rw [getD_snoc h.len c]; exact h.lt j s c ej
    · have : j = i := by omega
      subst this
      rw [e] at ej
      cases ej
      rw [getD_last h.len]; exact hx
  · have vc : valN rs s ins (ns ++ [valN rs r ins ns (inN (rs.take i)) ^^^ ms.getD i 0]) (inN (rs.take j)) = valN rs s ins ns (inN (rs.take j)) :=
      valN_congr fun k hk => getD_snoc h.len (by have := (okP_fit hok ej).2 k hk; omega)
    rw [vc]
    by_cases c : j < i
    · rw [getD_snoc h.len c]; exact h.val j s c ej
    · have : j = i := by omega
      subst this
      rw [e] at ej
      cases ej
      rw [getD_last h.len]
theorem Pre.zero {rs : List Rw} {ins ms : List Nat} : Pre rs ins ms 0 [] := ⟨rfl, fun _ _ h => by omega, fun _ _ h => by omega⟩
/-- runs that have the same masks up to a row have the same numbers up to it -/
theorem Runs.same {rs : List Rw} {ins ms ms' ns ns' : List Nat} (hok : okP rs) (h : Runs rs ins ms ns) (h' : Runs rs ins ms' ns') : ∀ i, i < rs.length → (∀ j, j ≤ i → ms.getD j 0 = ms'.getD j 0) → ns.getD i 0 = ns'.getD i 0 := by
  intro i
  induction i using Nat.strongRecOn with
  | _ i ih =>
    intro hi hm
    have e : rs[i]? = some rs[i] := List.getElem?_eq_getElem hi
    rw [h.val i _ hi e, h'.val i _ hi e, hm i (Nat.le_refl i)]
    congr 1
    exact valN_congr fun k hk => by
      have hk' := (okP_fit hok e).2 k hk
      exact ih k hk' (by omega) fun j hj => hm j (by omega)
theorem nats_ext {a b : List Nat} (hl : a.length = b.length) (h : ∀ i, i < a.length → a.getD i 0 = b.getD i 0) : a = b := by
  apply List.ext_getElem hl
  intro i h1 h2
  have := h i h1
  rw [List.getD_eq_getElem?_getD, List.getD_eq_getElem?_getD, List.getElem?_eq_getElem h1, List.getElem?_eq_getElem h2] at this
  exact this
theorem Runs.unique {rs : List Rw} {ins ms ns ns' : List Nat} (hok : okP rs) (h : Runs rs ins ms ns) (h' : Runs rs ins ms ns') : ns = ns' :=
  nats_ext (h.len.trans h'.len.symm) fun i hi => Runs.same hok h h' i (by rw [← h.len]; exact hi) fun _ _ => rfl
theorem natI {ns : List Nat} {i : Nat} (h : i < ns.length) : (ns.map natD)[i]? = some (natD (ns.getD i 0)) := by
  rw [List.getElem?_map, List.getD_eq_getElem?_getD, List.getElem?_eq_getElem h]; rfl
/-! Math, part M: the rules of facts. -/

def Fct.good (f : Fct) (w : Nat) : Prop := f.wf w ∧ f.z &&& f.o = 0

def truthF : Option Bool → Fct
  | none => ⟨0, 0, 1⟩
  | some b => ⟨(!b).toNat, b.toNat, 1⟩

theorem truth_closed (a : Option Bool) : (truthF a).closed 1 = truthF a ∧ (truthF a).wf 1 := by
  match a with
  | none => exact ⟨by rfl, by decide, by decide, by decide, by decide⟩
  | some true => exact ⟨by rfl, by decide, by decide, by decide, by decide⟩
  | some false => exact ⟨by rfl, by decide, by decide, by decide, by decide⟩

def lessA (l1 h1 l2 h2 : Int) : Option Bool := if h1 < l2 then some true else if h2 ≤ l1 then some false else none

theorem and_top (a w : Nat) (h1 : 1 ≤ w) : a &&& 2 ^ (w - 1) = (a.testBit (w - 1)).toNat * 2 ^ (w - 1) := by
  apply Nat.eq_of_testBit_eq
  intro i
  rw [Nat.testBit_and, Nat.testBit_two_pow]
  by_cases c : w - 1 = i
  · subst c
    cases a.testBit (w - 1) <;> simp
  · cases a.testBit (w - 1) <;> simp [c, Nat.testBit_two_pow]

def turnF (f : Fct) (w : Nat) : Fct := ⟨f.z ^^^ ((f.z ||| f.o) &&& 2 ^ (w - 1)), f.o ^^^ ((f.z ||| f.o) &&& 2 ^ (w - 1)), f.k⟩

theorem xor_top_on {a w : Nat} (h : a.testBit (w - 1) = true) : (a ^^^ 2 ^ (w - 1)) + 2 ^ (w - 1) = a := by
  have h1 := nat_xor_add a (2 ^ (w - 1))
  have h2 : a &&& 2 ^ (w - 1) = 2 ^ (w - 1) := by
    apply Nat.eq_of_testBit_eq
    intro i
    rw [Nat.testBit_and, Nat.testBit_two_pow]
    by_cases c : w - 1 = i
    · rw [← c, h]; simp
    · simp [c]
  omega

theorem xor_top_off {a w : Nat} (h : a.testBit (w - 1) = false) : (a ^^^ 2 ^ (w - 1)) = a + 2 ^ (w - 1) := by
  have h1 := nat_xor_add a (2 ^ (w - 1))
  have h2 : a &&& 2 ^ (w - 1) = 0 := by
    apply Nat.eq_of_testBit_eq
    intro i
    rw [Nat.testBit_and, Nat.testBit_two_pow, Nat.zero_testBit]
    by_cases c : w - 1 = i
    · rw [← c, h]; simp
    · simp [c]
  omega

def endsA (under : Bool) (f : Fct) (w : Nat) : Int × Int := if under then
    (if f.o.testBit (w - 1) then ((f.o : Int) - 2 * 2 ^ (w - 1), ((2 ^ w - 1 : Nat) : Int) - f.z - 2 * 2 ^ (w - 1)) else if f.z.testBit (w - 1) then ((f.o : Int), ((2 ^ w - 1 : Nat) : Int) - f.z) else ((f.o : Int) - 2 ^ (w - 1), ((2 ^ w - 1 : Nat) : Int) - f.z - 2 ^ (w - 1)))
  else ((f.o : Int), ((2 ^ w - 1 : Nat) : Int) - f.z)

theorem ends_turn (f : Fct) (w : Nat) (h1 : 1 ≤ w) (hf : f.good w) : endsA true f w = (((turnF f w).o : Int) - 2 ^ (w - 1), ((2 ^ w - 1 : Nat) : Int) - (turnF f w).z - 2 ^ (w - 1)) := by
  have hd := and_zero_bits.mp hf.2
  have et := and_top (f.z ||| f.o) w h1
  rw [Nat.testBit_or] at et
  have pn := pow_nat (w - 1)
  unfold endsA turnF
  simp only [if_true]
  cases ho : f.o.testBit (w - 1) with
  | true =>
    have hz : f.z.testBit (w - 1) = false := by
      cases hz : f.z.testBit (w - 1) with
      | false => rfl
      | true => have := hd _ hz; rw [ho] at this; cases this
    rw [hz, ho] at et
    simp at et
    rw [et]
    have a1 := xor_top_on ho
    have a2 := xor_top_off hz
    rw [a2]
    simp only [if_true, Prod.mk.injEq]
    constructor <;> omega
  | false =>
    cases hz : f.z.testBit (w - 1) with
    | true =>
      rw [hz, ho] at et
      simp at et
      rw [et]
      have a1 := xor_top_on hz
      have a2 := xor_top_off ho
      rw [a2]
      simp only [Bool.false_eq_true, if_false, if_true, Prod.mk.injEq]
      constructor <;> omega
    | false =>
      rw [hz, ho] at et
      simp at et
      rw [et]
      simp only [Bool.false_eq_true, if_false, Nat.xor_zero]

def cmpA (wd : Wd) (f g : Fct) (w : Nat) : Option Bool := match wd with
  | .same => if (f.z &&& g.o) ||| (f.o &&& g.z) ≠ 0 then some false else if (f.z ||| f.o) &&& (g.z ||| g.o) = 2 ^ w - 1 then some true else none
  | .under => lessA (endsA true f w).1 (endsA true f w).2 (endsA true g w).1 (endsA true g w).2
  | _ => lessA (endsA false f w).1 (endsA false f w).2 (endsA false g w).1 (endsA false g w).2

theorem lessA_shift (a b c d t : Int) : lessA (a - t) (b - t) (c - t) (d - t) = lessA a b c d := by
  unfold lessA
  have e1 : (b - t < c - t) = (b < c) := by simp
  have e2 : (d - t ≤ a - t) = (d ≤ a) := by simp
  simp only [e1, e2]

def pickF (t f g : Fct) : Fct := if t.o = 1 then f else if t.z = 1 then g else ⟨f.z &&& g.z, f.o &&& g.o, min f.k g.k⟩

theorem pickF_wf {t f g : Fct} {w : Nat} (hf : f.wf w) (hg : g.wf w) : (pickF t f g).wf w := by
  unfold pickF
  split
  · exact hf
  · split
    · exact hg
    · have a1 : f.z &&& g.z ≤ f.z := Nat.and_le_left
      have a2 : f.o &&& g.o ≤ f.o := Nat.and_le_left
      obtain ⟨b1, b2, b3, b4⟩ := hf
      obtain ⟨c1, c2, c3, c4⟩ := hg
      exact ⟨by simp only; omega, by simp only; omega, by simp only; omega, by simp only; omega⟩


/-- the k highest bits are alike -/
def Alk (v w k : Nat) : Prop := ∀ i, w - k ≤ i → i < w → v.testBit i = v.testBit (w - 1)
theorem alk_iff {v w k : Nat} (h1 : 1 ≤ k) (hk : k ≤ w) (hv : v < 2 ^ w) : k ≤ alikeN v w ↔ Alk v w k := by
  rw [alikeN_ge hk hv]
  constructor
  · rintro (q | q) i a b
    · rw [q i a b, q (w - 1) (by omega) (by omega)]
    · rw [q i a b, q (w - 1) (by omega) (by omega)]
  · intro q
    cases hb : v.testBit (w - 1)
    · exact .inr fun i a b => by rw [q i a b, hb]
    · exact .inl fun i a b => by rw [q i a b, hb]
theorem alk_one (v w : Nat) : Alk v w 1 := fun i a b => by rw [show i = w - 1 by omega]
theorem Alk.mono {v w k k' : Nat} (h : Alk v w k) (hk : k' ≤ k) : Alk v w k' := fun i a b => h i (by omega) b
/-- a fact holds, bit by bit -/
structure H3 (f : Fct) (v w : Nat) : Prop where
  z : ∀ i, f.z.testBit i = true → v.testBit i = false
  o : ∀ i, f.o.testBit i = true → v.testBit i = true
  k : Alk v w f.k
theorem h3_iff {f : Fct} {v w : Nat} (hf : f.wf w) (hv : v < 2 ^ w) : f.holds v w ↔ H3 f v w := by
  unfold Fct.holds
  rw [and_zero_bits, and_self_bits, alk_iff hf.2.2.1 hf.2.2.2 hv]
  exact ⟨fun ⟨a, b, c⟩ => ⟨a, b, c⟩, fun ⟨a, b, c⟩ => ⟨a, b, c⟩⟩
theorem alk_range {v w k : Nat} (h1 : 1 ≤ k) (hk : k ≤ w) (hv : v < 2 ^ w) : Alk v w k ↔ v < 2 ^ (w - k) ∨ 2 ^ w ≤ v + 2 ^ (w - k) := by
  rw [← alk_iff h1 hk hv, alikeN_ge hk hv, ← top_ones hk hv, ← top_noughts hk hv]
  have hp := pow_pos' (w - k)
  have e : 2 ^ w = 2 ^ k * 2 ^ (w - k) := by rw [← Nat.pow_add]; congr 1; omega
  have hk' := pow_pos' k
  have d := Nat.div_add_mod v (2 ^ (w - k))
  have m := Nat.mod_lt v hp
  have hq : v / 2 ^ (w - k) < 2 ^ k := by rw [Nat.div_lt_iff_lt_mul hp, ← e]; exact hv
  generalize hQ : v / 2 ^ (w - k) = q at *
  generalize hP : 2 ^ (w - k) = p at *
  generalize 2 ^ k = K at *
  constructor
  · rintro (c | c)
    · right
      have : (K - 1) * p = K * p - p := by rw [Nat.sub_mul, Nat.one_mul]
      have h2 : p ≤ K * p := Nat.le_mul_of_pos_left p hk'
      rw [c, Nat.mul_comm] at d
      omega
    · left
      rw [c] at d
      omega
  · rintro (c | c)
    · right
      rw [← hQ]
      exact Nat.div_eq_of_lt c
    · left
      have : K * p ≤ p * q + p + p - 1 := by omega
      have h3 : K ≤ q + 1 := by
        apply Classical.byContradiction
        intro hc
        have h4 : (q + 2) * p ≤ K * p := Nat.mul_le_mul_right p (by omega)
        have h5 : (q + 2) * p = p * q + 2 * p := by rw [Nat.add_mul, Nat.mul_comm q p]
        omega
      omega
/-! ### what is told of a row by what is known of its operands -/
def bitF (wd : Wd) (f g : Fct) : Fct := match wd with
  | .and => ⟨f.z ||| g.z, f.o &&& g.o, min f.k g.k⟩
  | .or => ⟨f.z &&& g.z, f.o ||| g.o, min f.k g.k⟩
  | _ => ⟨(f.z &&& g.z) ||| (f.o &&& g.o), (f.z &&& g.o) ||| (f.o &&& g.z), min f.k g.k⟩
def shiftF (wd : Wd) (k w : Nat) (f : Fct) : Fct := match wd with
  | .left => ⟨(f.z * 2 ^ k ||| (2 ^ k - 1)) % 2 ^ w, f.o * 2 ^ k % 2 ^ w, max 1 (f.k - k)⟩
  | .slide => ⟨strN f.z w (w + k) / 2 ^ k, strN f.o w (w + k) / 2 ^ k, min w (f.k + k)⟩
  | _ => if k = 0 then f else ⟨f.z / 2 ^ k ||| topM w (w - k), f.o / 2 ^ k, 1⟩
def fitF (wd : Wd) (W w : Nat) (f : Fct) : Fct := match wd with
  | .cut => ⟨f.z % 2 ^ W, f.o % 2 ^ W, max 1 (f.k - (w - W))⟩
  | .sign => ⟨strN f.z w W, strN f.o w W, f.k + W - w⟩
  | _ => if W = w then f else ⟨f.z ||| topM W w, f.o, 1⟩
def recI (wd : Wd) (a b : Int) : Int := match wd with
  | .add => a + b | .sub => a - b | _ => a * b
def lowK (f g : Fct) : Nat := lowR ((f.z ||| f.o) &&& (g.z ||| g.o))
def lowO (wd : Wd) (f g : Fct) : Nat := (recI wd f.o g.o % 2 ^ lowK f g).toNat
def endI (wd : Wd) (f g : Fct) (w : Nat) : Int × Int := match wd with
  | .sub => ((f.o : Int) - (((2 ^ w - 1 : Nat) : Int) - g.z), (((2 ^ w - 1 : Nat) : Int) - f.z) - g.o)
  | wd => (recI wd f.o g.o, recI wd (((2 ^ w - 1 : Nat) : Int) - f.z) (((2 ^ w - 1 : Nat) : Int) - g.z))
def topF (wd : Wd) (f g : Fct) (w : Nat) : Nat × Nat :=
  if (endI wd f g w).1 < 0 ∨ ((2 ^ w - 1 : Nat) : Int) < (endI wd f g w).2 then (0, 0) else
    (andNot (topM w (shR (endI wd f g w).1.toNat (endI wd f g w).2.toNat)) (endI wd f g w).1.toNat, topM w (shR (endI wd f g w).1.toNat (endI wd f g w).2.toNat) &&& (endI wd f g w).1.toNat)
def lowZ (wd : Wd) (f g : Fct) (w : Nat) : Nat := match wd with
  | .mul => 2 ^ min w (lowR f.z + lowR g.z) - 1
  | _ => 0
def sumF (wd : Wd) (f g : Fct) (w : Nat) : Fct := ⟨(2 ^ lowK f g - 1 - lowO wd f g) ||| (topF wd f g w).1 ||| lowZ wd f g w, lowO wd f g ||| (topF wd f g w).2, match wd with
  | .mul => 1
  | _ => max 1 (min f.k g.k - 1)⟩
def toldF (r : Rw) (ws : List Nat) (fs : List Fct) : Fct := match r.word, ws, fs with
  | .num, _, _ => ⟨2 ^ r.w - 1 - r.ops.headD 0, r.ops.headD 0, 1⟩
  | .not, _, [f] => ⟨f.o, f.z, f.k⟩
  | .and, _, [f, g] => bitF .and f g
  | .or, _, [f, g] => bitF .or f g
  | .xor, _, [f, g] => bitF .xor f g
  | .add, _, [f, g] => sumF .add f g r.w
  | .sub, _, [f, g] => sumF .sub f g r.w
  | .mul, _, [f, g] => sumF .mul f g r.w
  | .left, _, [f] => shiftF .left (r.ops.getD 1 0) r.w f
  | .right, _, [f] => shiftF .right (r.ops.getD 1 0) r.w f
  | .slide, _, [f] => shiftF .slide (r.ops.getD 1 0) r.w f
  | .cut, [v], [f] => fitF .cut r.w v f
  | .wide, [v], [f] => fitF .wide r.w v f
  | .sign, [v], [f] => fitF .sign r.w v f
  | .pick, _, [t, f, g] => pickF t f g
  | .same, v :: _, [f, g] => truthF (cmpA .same f g v)
  | .less, v :: _, [f, g] => truthF (cmpA .less f g v)
  | .under, v :: _, [f, g] => truthF (cmpA .under f g v)
  | _, _, _ => ⟨0, 0, 1⟩
def ruleF (r : Rw) (ws : List Nat) (fs : List Fct) : Fct := (toldF r ws fs).closed r.w
theorem lowR_ge {z k : Nat} (hk : k ≤ 64) : k ≤ lowR z ↔ ∀ i, i < k → z.testBit i = true := by
  have := runF_ge z.testBit 64 0 k hk
  unfold lowR
  rw [Nat.zero_add] at this
  rw [this]
  exact ⟨fun h i hi => h i (by omega) hi, fun h i _ hi => h i hi⟩
theorem lowR_le64 (z : Nat) : lowR z ≤ 64 := by have := (runF_le z.testBit 64 0).2; unfold lowR; omega
theorem lowR_le {z w : Nat} (h : z < 2 ^ w) (hw : w ≤ 64) : lowR z ≤ w := by
  apply Classical.byContradiction
  intro hc
  have := (lowR_ge (lowR_le64 z)).mp (Nat.le_refl _) w (by omega)
  rw [Nat.testBit_lt_two_pow h] at this
  cases this
theorem known_low {f : Fct} {v w n : Nat} (h : H3 f v w) (hk : ∀ i, i < n → (f.z ||| f.o).testBit i = true) : v % 2 ^ n = f.o % 2 ^ n := by
  apply Nat.eq_of_testBit_eq
  intro i
  rw [Nat.testBit_mod_two_pow, Nat.testBit_mod_two_pow]
  by_cases c : i < n
  · have := hk i c
    rw [Nat.testBit_or, Bool.or_eq_true] at this
    cases ho : f.o.testBit i with
    | true => rw [h.o i ho]
    | false =>
      rw [ho] at this
      rw [h.z i (by simpa using this)]
  · simp [c]
theorem lowK_bits {f g : Fct} : (∀ i, i < lowK f g → (f.z ||| f.o).testBit i = true) ∧ ∀ i, i < lowK f g → (g.z ||| g.o).testBit i = true := by
  have := (lowR_ge (lowR_le64 _)).mp (Nat.le_refl (lowK f g))
  constructor <;> intro i hi <;> have q := this i hi <;> rw [Nat.testBit_and, Bool.and_eq_true] at q
  · exact q.1
  · exact q.2
theorem lowO_int (wd : Wd) (f g : Fct) : ((lowO wd f g : Nat) : Int) = recI wd f.o g.o % 2 ^ lowK f g := by
  have := Int.emod_nonneg (recI wd f.o g.o) (b := 2 ^ lowK f g) (by have := PySem.W.kbt_pos (lowK f g); omega)
  unfold lowO; omega
theorem lowO_lt (wd : Wd) (f g : Fct) : lowO wd f g < 2 ^ lowK f g := by
  have h := lowO_int wd f g
  have := Int.emod_lt_of_pos (recI wd f.o g.o) (PySem.W.kbt_pos (lowK f g))
  have := pow_nat (lowK f g)
  omega
/-- the sum, difference or product of numbers, as a row tells it -/
theorem joined_rec {r : Rw} {x y : Nat} (hw : r.word = .add ∨ r.word = .sub ∨ r.word = .mul) : ((joinedN r x y : Nat) : Int) = recI r.word x y % 2 ^ r.w := by
  unfold joinedN recI
  rcases hw with e | e | e <;> simp only [e]
  · rw [← Int.natCast_add, mod_int]
  · rw [subN_int]
  · rw [← Int.natCast_mul, mod_int]
theorem rec_mod {wd : Wd} (hw : wd = .add ∨ wd = .sub ∨ wd = .mul) {x y a b : Nat} {n : Nat} (h1 : x % 2 ^ n = a % 2 ^ n) (h2 : y % 2 ^ n = b % 2 ^ n) : recI wd x y % 2 ^ n = recI wd a b % 2 ^ n := by
  have e1 : (x : Int) % 2 ^ n = (a : Int) % 2 ^ n := by rw [mod_int, mod_int, h1]
  have e2 : (y : Int) % 2 ^ n = (b : Int) % 2 ^ n := by rw [mod_int, mod_int, h2]
  unfold recI
  rcases hw with e | e | e <;> simp only [e]
  · rw [Int.add_emod, e1, e2, ← Int.add_emod]
  · rw [Int.sub_emod, e1, e2, ← Int.sub_emod]
  · rw [Int.mul_emod, e1, e2, ← Int.mul_emod]
theorem pow_dvd {a b : Nat} (h : a ≤ b) : ((2 : Int) ^ a) ∣ 2 ^ b := by
  rw [pow_nat, pow_nat]
  exact Int.natCast_dvd_natCast.mpr (Nat.pow_dvd_pow 2 h)
theorem low_part {r : Rw} {f g : Fct} {x y : Nat} (hw : r.word = .add ∨ r.word = .sub ∨ r.word = .mul) (hx : H3 f x r.w) (hy : H3 g y r.w) (hl : lowK f g ≤ r.w) : joinedN r x y % 2 ^ lowK f g = lowO r.word f g := by
  have h1 := joined_rec (x := x) (y := y) hw
  have h2 : ((joinedN r x y % 2 ^ lowK f g : Nat) : Int) = recI r.word x y % 2 ^ lowK f g := by
    rw [Int.natCast_emod, h1, ← pow_nat, Int.emod_emod_of_dvd _ (pow_dvd hl)]
  rw [rec_mod hw (known_low hx lowK_bits.1) (known_low hy lowK_bits.2)] at h2
  have := lowO_int r.word f g
  omega
theorem mul_bounds {a b c x y d : Int} (h0 : 0 ≤ a) (h1 : a ≤ x) (h2 : x ≤ b) (h3 : 0 ≤ c) (h4 : c ≤ y) (h5 : y ≤ d) : a * c ≤ x * y ∧ x * y ≤ b * d :=
  ⟨Int.mul_le_mul h1 h4 h3 (by omega), Int.mul_le_mul h2 h5 (by omega) (by omega)⟩
theorem o_le {f : Fct} {v w : Nat} (h : H3 f v w) : f.o ≤ v := by
  have : f.o &&& v = f.o := and_self_bits.mpr h.o
  have h2 : f.o &&& v ≤ v := Nat.and_le_right
  omega
theorem z_le {f : Fct} {v w : Nat} (hf : f.wf w) (hv : v < 2 ^ w) (h : H3 f v w) : v + f.z ≤ 2 ^ w - 1 := by
  have hz : f.z &&& v = 0 := and_zero_bits.mpr h.z
  have h1 := nat_or_add_and f.z v
  have h2 := Nat.or_lt_two_pow hf.1 hv
  omega
theorem ends_part {wd : Wd} (hw : wd = .add ∨ wd = .sub ∨ wd = .mul) {f g : Fct} {x y w : Nat} (hf : f.wf w) (hg : g.wf w) (hx : x < 2 ^ w) (hy : y < 2 ^ w) (h1 : H3 f x w) (h2 : H3 g y w) : (endI wd f g w).1 ≤ recI wd x y ∧ recI wd x y ≤ (endI wd f g w).2 := by
  have a1 := o_le h1
  have a2 := o_le h2
  have b1 := z_le hf hx h1
  have b2 := z_le hg hy h2
  rcases hw with rfl | rfl | rfl
  · simp only [endI, recI]; omega
  · simp only [endI, recI]; omega
  · simp only [endI, recI]
    exact mul_bounds (by omega) (by omega) (by omega) (by omega) (by omega) (by omega)
theorem top_part {r : Rw} {f g : Fct} {x y : Nat} (hw : r.word = .add ∨ r.word = .sub ∨ r.word = .mul) (hf : f.wf r.w) (hg : g.wf r.w) (hx : x < 2 ^ r.w) (hy : y < 2 ^ r.w) (h1 : H3 f x r.w) (h2 : H3 g y r.w) :
    (∀ i, (topF r.word f g r.w).1.testBit i = true → (joinedN r x y).testBit i = false) ∧ (∀ i, (topF r.word f g r.w).2.testBit i = true → (joinedN r x y).testBit i = true) ∧ (topF r.word f g r.w).1 < 2 ^ r.w ∧ (topF r.word f g r.w).2 < 2 ^ r.w := by
  obtain ⟨l1, l2⟩ := ends_part hw hf hg hx hy h1 h2
  have hp := pow_pos' r.w
  have hj := joined_rec (x := x) (y := y) hw
  unfold topF
  split
  · simp [hp]
  · rename_i c
    have c1 : 0 ≤ (endI r.word f g r.w).1 := by omega
    have c2 : (endI r.word f g r.w).2 ≤ ((2 ^ r.w - 1 : Nat) : Int) := by omega
    have pw := pow_nat r.w
    have ej : ((joinedN r x y : Nat) : Int) = recI r.word x y := by
      rw [hj]
      exact Int.emod_eq_of_lt (by omega) (by omega)
    generalize (endI r.word f g r.w).1 = lo at *
    generalize (endI r.word f g r.w).2 = hi at *
    have q1 : lo.toNat ≤ joinedN r x y := by omega
    have q2 : joinedN r x y ≤ hi.toNat := by omega
    have hs : shR lo.toNat hi.toNat ≤ r.w := shR_le (by omega) (by omega)
    refine ⟨fun i hi' => ?_, fun i hi' => ?_, andNot_lt topM_lt, Nat.lt_of_le_of_lt Nat.and_le_left topM_lt⟩
    · simp only [andNot_bit, topM_bit hs, Bool.and_eq_true, decide_eq_true_eq, Bool.not_eq_true'] at hi'
      rw [between_bits q1 q2 hi'.1.1]
      exact hi'.2
    · simp only [Nat.testBit_and, topM_bit hs, Bool.and_eq_true, decide_eq_true_eq] at hi'
      rw [between_bits q1 q2 hi'.1.1]
      exact hi'.2
theorem lowZ_part {r : Rw} {f g : Fct} {x y : Nat} (hw : r.word = .add ∨ r.word = .sub ∨ r.word = .mul) (h1 : H3 f x r.w) (h2 : H3 g y r.w) : (∀ i, (lowZ r.word f g r.w).testBit i = true → (joinedN r x y).testBit i = false) ∧ lowZ r.word f g r.w < 2 ^ r.w := by
  have hp := pow_pos' r.w
  rcases hw with e | e | e
  · simp [lowZ, e, hp]
  · simp [lowZ, e, hp]
  · simp only [lowZ, e]
    refine ⟨fun i hi => ?_, full_lt (Nat.min_le_left _ _)⟩
    rw [Nat.testBit_two_pow_sub_one, decide_eq_true_eq] at hi
    simp only [joinedN, e, Nat.testBit_mod_two_pow]
    have d1 : 2 ^ lowR f.z ∣ x := lowR_dvd (and_zero_bits.mpr h1.z) (Nat.le_refl _)
    have d2 : 2 ^ lowR g.z ∣ y := lowR_dvd (and_zero_bits.mpr h2.z) (Nat.le_refl _)
    have d3 := Nat.mul_dvd_mul d1 d2
    rw [← Nat.pow_add] at d3
    have d4 : x * y % 2 ^ (lowR f.z + lowR g.z) = 0 % 2 ^ (lowR f.z + lowR g.z) := by rw [Nat.mod_eq_zero_of_dvd d3, Nat.zero_mod]
    rw [bit_of_mod d4 (by omega)]
    simp
theorem alike_sum {r : Rw} {x y k : Nat} (hw : r.word = .add ∨ r.word = .sub) (h1 : 1 ≤ r.w) (hk : 2 ≤ k) (hkw : k ≤ r.w) (hx : x < 2 ^ r.w) (hy : y < 2 ^ r.w) (a1 : Alk x r.w k) (a2 : Alk y r.w k) : Alk (joinedN r x y) r.w (k - 1) := by
  rw [alk_range (by omega) hkw hx] at a1
  rw [alk_range (by omega) hkw hy] at a2
  have hl : joinedN r x y < 2 ^ r.w := by
    rcases hw with e | e <;> simp only [joinedN, e]
    · exact Nat.mod_lt _ (pow_pos' _)
    · rw [subN_eq hy]; exact Nat.mod_lt _ (pow_pos' _)
  rw [alk_range (by omega) (by omega) hl]
  have e1 : 2 ^ (r.w - (k - 1)) = 2 * 2 ^ (r.w - k) := by rw [← Nat.pow_succ']; congr 1; omega
  have e2 : 2 ^ (r.w - (k - 1)) ≤ 2 ^ r.w := Nat.pow_le_pow_right (by decide) (by omega)
  have e3 : 2 ^ (r.w - k) * 4 ≤ 2 ^ r.w := by
    rw [show (4 : Nat) = 2 ^ 2 by rfl, ← Nat.pow_add]
    exact Nat.pow_le_pow_right (by decide) (by omega)
  have hp := pow_pos' (r.w - k)
  have md : ∀ s : Nat, s < 2 * 2 ^ r.w → (s < 2 ^ r.w ∧ s % 2 ^ r.w = s) ∨ (2 ^ r.w ≤ s ∧ s % 2 ^ r.w = s - 2 ^ r.w) := fun s hs => by
    by_cases c : s < 2 ^ r.w
    · exact .inl ⟨c, Nat.mod_eq_of_lt c⟩
    · refine .inr ⟨by omega, ?_⟩
      rw [Nat.mod_eq_sub_mod (by omega), Nat.mod_eq_of_lt (by omega)]
  rcases hw with e | e <;> simp only [joinedN, e] at hl ⊢
  · rcases md (x + y) (by omega) with ⟨m1, m2⟩ | ⟨m1, m2⟩ <;> rw [m2] <;> omega
  · rw [subN_eq hy]
    rcases md (x + (2 ^ r.w - y)) (by omega) with ⟨m1, m2⟩ | ⟨m1, m2⟩ <;> rw [m2] <;> omega
theorem sum_h3 {r : Rw} {f g : Fct} {x y : Nat} (hw : r.word = .add ∨ r.word = .sub ∨ r.word = .mul) (h64 : r.w ≤ 64) (hf : f.wf r.w) (hg : g.wf r.w) (hx : x < 2 ^ r.w) (hy : y < 2 ^ r.w) (h1 : H3 f x r.w) (h2 : H3 g y r.w) :
    H3 (sumF r.word f g r.w) (joinedN r x y) r.w ∧ (sumF r.word f g r.w).wf r.w := by
  have hl : lowK f g ≤ r.w := lowR_le (Nat.lt_of_le_of_lt Nat.and_le_left (Nat.or_lt_two_pow hf.1 hf.2.1)) h64
  have lp := low_part hw h1 h2 hl
  have ll := lowO_lt r.word f g
  obtain ⟨t1, t2, t3, t4⟩ := top_part hw hf hg hx hy h1 h2
  obtain ⟨z1, z2⟩ := lowZ_part hw h1 h2
  have hpl : 2 ^ lowK f g ≤ 2 ^ r.w := Nat.pow_le_pow_right (by decide) hl
  have hw1 : 1 ≤ r.w := by have := hf.2.2; omega
  have lb : ∀ i, i < lowK f g → (lowO r.word f g).testBit i = (joinedN r x y).testBit i := fun i hi => by
    rw [← lp, Nat.testBit_mod_two_pow]; simp [hi]
  refine ⟨⟨fun i hi => ?_, fun i hi => ?_, ?_⟩, ?_⟩
  · simp only [sumF, Nat.testBit_or, Bool.or_eq_true] at hi
    rcases hi with (q | q) | q
    · by_cases c : i < lowK f g
      · rw [compl_bit ll c, lb i c] at q
        simpa using q
      · rw [Nat.testBit_lt_two_pow (Nat.lt_of_lt_of_le (show 2 ^ lowK f g - 1 - lowO r.word f g < 2 ^ lowK f g by omega) (Nat.pow_le_pow_right (by decide) (by omega)))] at q
        cases q
    · exact t1 i q
    · exact z1 i q
  · simp only [sumF, Nat.testBit_or, Bool.or_eq_true] at hi
    rcases hi with q | q
    · by_cases c : i < lowK f g
      · rw [← lb i c]; exact q
      · rw [Nat.testBit_lt_two_pow (Nat.lt_of_lt_of_le ll (Nat.pow_le_pow_right (by decide) (by omega)))] at q
        cases q
    · exact t2 i q
  · rcases hw with e | e | e
    · simp only [sumF, e]
      by_cases c : 2 ≤ min f.k g.k
      · rw [show max 1 (min f.k g.k - 1) = min f.k g.k - 1 by omega]
        exact alike_sum (.inl e) hw1 c (by have := hf.2.2; omega) hx hy (h1.k.mono (by omega)) (h2.k.mono (by omega))
      · rw [show max 1 (min f.k g.k - 1) = 1 by omega]; exact alk_one _ _
    · simp only [sumF, e]
      by_cases c : 2 ≤ min f.k g.k
      · rw [show max 1 (min f.k g.k - 1) = min f.k g.k - 1 by omega]
        exact alike_sum (.inr e) hw1 c (by have := hf.2.2; omega) hx hy (h1.k.mono (by omega)) (h2.k.mono (by omega))
      · rw [show max 1 (min f.k g.k - 1) = 1 by omega]; exact alk_one _ _
    · simp only [sumF, e]; exact alk_one _ _
  · refine ⟨Nat.or_lt_two_pow (Nat.or_lt_two_pow (by omega) t3) z2, Nat.or_lt_two_pow (by omega) t4, ?_⟩
    obtain ⟨_, _, a3, a4⟩ := hf
    obtain ⟨_, _, b3, b4⟩ := hg
    rcases hw with e | e | e <;> simp only [sumF, e] <;> omega
/-! ### comparings -/
theorem same_sound {f g : Fct} {x y w : Nat} (hx : x < 2 ^ w) (hy : y < 2 ^ w) (h1 : H3 f x w) (h2 : H3 g y w) {b : Bool} (h : cmpA .same f g w = some b) : decide (x = y) = b := by
  unfold cmpA at h
  simp only at h
  split at h
  · rename_i c
    cases h
    rw [decide_eq_false_iff_not]
    rintro rfl
    apply c
    apply Nat.eq_of_testBit_eq
    intro i
    simp only [Nat.testBit_or, Nat.testBit_and, Nat.zero_testBit]
    cases fz : f.z.testBit i <;> cases fo : f.o.testBit i <;> cases gz : g.z.testBit i <;> cases go : g.o.testBit i <;> first | rfl | skip
    all_goals first
      | (have a := h1.z i fz; have b := h2.o i go; rw [a] at b; cases b)
      | (have a := h1.o i fo; have b := h2.z i gz; rw [a] at b; cases b)
  · split at h
    · rename_i c1 c2
      cases h
      rw [decide_eq_true_eq]
      apply Nat.eq_of_testBit_eq
      intro i
      by_cases c : i < w
      · have c1' : (f.z &&& g.o) ||| (f.o &&& g.z) = 0 := by simpa using c1
        have k1 := congrArg (fun n => n.testBit i) c1'
        have k2 := congrArg (fun n => n.testBit i) c2
        simp only [Nat.testBit_or, Nat.testBit_and, Nat.zero_testBit, Nat.testBit_two_pow_sub_one, c, decide_true] at k1 k2
        cases fz : f.z.testBit i <;> cases fo : f.o.testBit i <;> cases gz : g.z.testBit i <;> cases go : g.o.testBit i <;> simp [fz, fo, gz, go] at k1 k2
        all_goals first
          | rw [h1.z i fz, h2.z i gz]
          | rw [h1.o i fo, h2.o i go]
      · rw [Nat.testBit_lt_two_pow (Nat.lt_of_lt_of_le hx (Nat.pow_le_pow_right (by decide) (by omega))), Nat.testBit_lt_two_pow (Nat.lt_of_lt_of_le hy (Nat.pow_le_pow_right (by decide) (by omega)))]
    · cases h
theorem lessA_sound {l1 h1 l2 h2 x y : Int} (a1 : l1 ≤ x) (a2 : x ≤ h1) (b1 : l2 ≤ y) (b2 : y ≤ h2) {b : Bool} (h : lessA l1 h1 l2 h2 = some b) : decide (x < y) = b := by
  unfold lessA at h
  split at h
  · cases h; rw [decide_eq_true_eq]; omega
  · split at h
    · cases h; rw [decide_eq_false_iff_not]; omega
    · cases h
theorem less_sound {f g : Fct} {x y w : Nat} (hf : f.wf w) (hg : g.wf w) (hx : x < 2 ^ w) (hy : y < 2 ^ w) (h1 : H3 f x w) (h2 : H3 g y w) {b : Bool} (h : cmpA .less f g w = some b) : decide (x < y) = b := by
  have a1 := o_le h1
  have a2 := o_le h2
  have b1 := z_le hf hx h1
  have b2 := z_le hg hy h2
  have := lessA_sound (x := (x : Int)) (y := (y : Int)) (by simp [endsA]; omega) (by simp [endsA]; omega) (by simp [endsA]; omega) (by simp [endsA]; omega) h
  rw [← this]
  exact decide_eq_decide.mpr (by omega)
theorem under_ends {f : Fct} {x w : Nat} (h1 : 1 ≤ w) (hf : f.wf w) (hx : x < 2 ^ w) (h : H3 f x w) : (endsA true f w).1 ≤ ((x ^^^ 2 ^ (w - 1) : Nat) : Int) - 2 ^ (w - 1) ∧ ((x ^^^ 2 ^ (w - 1) : Nat) : Int) - 2 ^ (w - 1) ≤ (endsA true f w).2 := by
  have a1 := o_le h
  have b1 := z_le hf hx h
  have pn := pow_nat (w - 1)
  have e : 2 ^ w = 2 * 2 ^ (w - 1) := by rw [← Nat.pow_succ']; congr 1; omega
  unfold endsA
  simp only [if_true]
  cases ho : f.o.testBit (w - 1) with
  | true =>
    have t := xor_top_on (h.o _ ho)
    simp only [if_true]
    omega
  | false =>
    cases hz : f.z.testBit (w - 1) with
    | true =>
      have t := xor_top_off (h.z _ hz)
      simp only [Bool.false_eq_true, if_false, if_true]
      omega
    | false =>
      simp only [Bool.false_eq_true, if_false]
      -- the top bit is not known: the rest stands as it is
      have g1 : f.o < 2 ^ (w - 1) := by
        rw [lt_bits]
        intro i hi
        by_cases c : i = w - 1
        · rw [c]; exact ho
        · exact Nat.testBit_lt_two_pow (Nat.lt_of_lt_of_le hf.2.1 (Nat.pow_le_pow_right (by decide) (by omega)))
      have g2 : f.z < 2 ^ (w - 1) := by
        rw [lt_bits]
        intro i hi
        by_cases c : i = w - 1
        · rw [c]; exact hz
        · exact Nat.testBit_lt_two_pow (Nat.lt_of_lt_of_le hf.1 (Nat.pow_le_pow_right (by decide) (by omega)))
      have hy : x ^^^ 2 ^ (w - 1) < 2 ^ w := Nat.xor_lt_two_pow hx (Nat.pow_lt_pow_right (by decide) (by omega))
      have hyb : ∀ i, i ≠ w - 1 → (x ^^^ 2 ^ (w - 1)).testBit i = x.testBit i := fun i hi => by
        rw [Nat.testBit_xor, Nat.testBit_two_pow]
        simp [Ne.symm hi]
      have k : H3 f (x ^^^ 2 ^ (w - 1)) w → (f.o : Int) - 2 ^ (w - 1) ≤ ((x ^^^ 2 ^ (w - 1) : Nat) : Int) - 2 ^ (w - 1) ∧ ((x ^^^ 2 ^ (w - 1) : Nat) : Int) - 2 ^ (w - 1) ≤ ((2 ^ w - 1 : Nat) : Int) - f.z - 2 ^ (w - 1) := fun q => by
        have := o_le q
        have := z_le hf hy q
        omega
      have a3 : f.o ≤ x ^^^ 2 ^ (w - 1) := by
        have : f.o &&& (x ^^^ 2 ^ (w - 1)) = f.o := and_self_bits.mpr fun i hi => by
          by_cases c : i = w - 1
          · rw [c, ho] at hi; cases hi
          · rw [hyb i c]; exact h.o i hi
        have h2 : f.o &&& (x ^^^ 2 ^ (w - 1)) ≤ x ^^^ 2 ^ (w - 1) := Nat.and_le_right
        omega
      have b3 : (x ^^^ 2 ^ (w - 1)) + f.z ≤ 2 ^ w - 1 := by
        have hz' : f.z &&& (x ^^^ 2 ^ (w - 1)) = 0 := and_zero_bits.mpr fun i hi => by
          by_cases c : i = w - 1
          · rw [c, hz] at hi; cases hi
          · rw [hyb i c]; exact h.z i hi
        have h1 := nat_or_add_and f.z (x ^^^ 2 ^ (w - 1))
        have h2 := Nat.or_lt_two_pow hf.1 hy
        omega
      omega
theorem under_sound {f g : Fct} {x y w : Nat} (w1 : 1 ≤ w) (hf : f.wf w) (hg : g.wf w) (hx : x < 2 ^ w) (hy : y < 2 ^ w) (h1 : H3 f x w) (h2 : H3 g y w) {b : Bool} (h : cmpA .under f g w = some b) : decide (x ^^^ 2 ^ (w - 1) < y ^^^ 2 ^ (w - 1)) = b := by
  obtain ⟨a1, a2⟩ := under_ends w1 hf hx h1
  obtain ⟨b1, b2⟩ := under_ends w1 hg hy h2
  have := lessA_sound a1 a2 b1 b2 h
  rw [← this]
  exact decide_eq_decide.mpr (by omega)
theorem truth_h3 {a : Option Bool} {c : Bool} (h : ∀ b, a = some b → c = b) : H3 (truthF a) c.toNat 1 ∧ (truthF a).wf 1 := by
  refine ⟨?_, (truth_closed a).2⟩
  match a with
  | none => exact ⟨fun i hi => by simp [truthF] at hi, fun i hi => by simp [truthF] at hi, alk_one _ _⟩
  | some b =>
    have := h b rfl
    subst this
    refine ⟨fun i hi => ?_, fun i hi => ?_, alk_one _ _⟩
    · cases c
      · simp
      · simp [truthF] at hi
    · cases c
      · simp [truthF] at hi
      · exact hi
/-! Math, part N: each rule holds. -/
theorem not_h3 {f : Fct} {x w : Nat} (hf : f.wf w) (hx : x < 2 ^ w) (h : H3 f x w) : H3 ⟨f.o, f.z, f.k⟩ (2 ^ w - 1 - x) w := by
  have lt : ∀ {a i : Nat}, a < 2 ^ w → a.testBit i = true → i < w := fun {a i} ha hi => by
    by_cases c : i < w
    · exact c
    · rw [Nat.testBit_lt_two_pow (Nat.lt_of_lt_of_le ha (Nat.pow_le_pow_right (by decide) (by omega)))] at hi; cases hi
  refine ⟨fun i hi => ?_, fun i hi => ?_, fun i a b => ?_⟩
  · rw [compl_bit hx (lt hf.2.1 hi), h.o i hi]; rfl
  · rw [compl_bit hx (lt hf.1 hi), h.z i hi]; rfl
  · rw [compl_bit hx b, compl_bit hx (by omega), h.k i a b]
theorem bit_lt {a w i : Nat} (ha : a < 2 ^ w) (hi : a.testBit i = true) : i < w := by
  by_cases c : i < w
  · exact c
  · rw [Nat.testBit_lt_two_pow (Nat.lt_of_lt_of_le ha (Nat.pow_le_pow_right (by decide) (by omega)))] at hi; cases hi
theorem bit_h3 {wd : Wd} {f g : Fct} {x y w : Nat} (h1 : H3 f x w) (h2 : H3 g y w) (hk : f.k ≤ w ∧ g.k ≤ w) : H3 (bitF .and f g) (x &&& y) w ∧ H3 (bitF .or f g) (x ||| y) w ∧ H3 (bitF .xor f g) (x ^^^ y) w := by
  refine ⟨⟨fun i hi => ?_, fun i hi => ?_, fun i a b => ?_⟩, ⟨fun i hi => ?_, fun i hi => ?_, fun i a b => ?_⟩, ⟨fun i hi => ?_, fun i hi => ?_, fun i a b => ?_⟩⟩
  · simp only [bitF, Nat.testBit_or, Bool.or_eq_true] at hi
    rw [Nat.testBit_and]
    rcases hi with q | q
    · rw [h1.z i q]; rfl
    · rw [h2.z i q]; simp
  · simp only [bitF, Nat.testBit_and, Bool.and_eq_true] at hi
    rw [Nat.testBit_and, h1.o i hi.1, h2.o i hi.2]; rfl
  · simp only [bitF] at a
    rw [Nat.testBit_and, Nat.testBit_and, h1.k i (by omega) b, h2.k i (by omega) b]
  · simp only [bitF, Nat.testBit_and, Bool.and_eq_true] at hi
    rw [Nat.testBit_or, h1.z i hi.1, h2.z i hi.2]; rfl
  · simp only [bitF, Nat.testBit_or, Bool.or_eq_true] at hi
    rw [Nat.testBit_or]
    rcases hi with q | q
    · rw [h1.o i q]; rfl
    · rw [h2.o i q]; simp
  · simp only [bitF] at a
    rw [Nat.testBit_or, Nat.testBit_or, h1.k i (by omega) b, h2.k i (by omega) b]
  · simp only [bitF, Nat.testBit_or, Nat.testBit_and, Bool.or_eq_true, Bool.and_eq_true] at hi
    rw [Nat.testBit_xor]
    rcases hi with q | q
    · rw [h1.z i q.1, h2.z i q.2]; rfl
    · rw [h1.o i q.1, h2.o i q.2]; rfl
  · simp only [bitF, Nat.testBit_or, Nat.testBit_and, Bool.or_eq_true, Bool.and_eq_true] at hi
    rw [Nat.testBit_xor]
    rcases hi with q | q
    · rw [h1.z i q.1, h2.o i q.2]; rfl
    · rw [h1.o i q.1, h2.z i q.2]; rfl
  · simp only [bitF] at a
    rw [Nat.testBit_xor, Nat.testBit_xor, h1.k i (by omega) b, h2.k i (by omega) b]
theorem bit_wf {f g : Fct} {w : Nat} (hf : f.wf w) (hg : g.wf w) : (bitF .and f g).wf w ∧ (bitF .or f g).wf w ∧ (bitF .xor f g).wf w := by
  obtain ⟨a1, a2, a3, a4⟩ := hf
  obtain ⟨b1, b2, b3, b4⟩ := hg
  have an : ∀ {a b : Nat}, a < 2 ^ w → a &&& b < 2 ^ w := fun {a b} h => Nat.lt_of_le_of_lt Nat.and_le_left h
  refine ⟨⟨Nat.or_lt_two_pow a1 b1, an a2, ?_⟩, ⟨an a1, Nat.or_lt_two_pow a2 b2, ?_⟩, ⟨Nat.or_lt_two_pow (an a1) (an a2), Nat.or_lt_two_pow (an a1) (an a2), ?_⟩⟩ <;> simp only [bitF] <;> omega
theorem left_h3 {f : Fct} {x w k : Nat} (h1 : 1 ≤ w) (hf : f.wf w) (hx : x < 2 ^ w) (h : H3 f x w) : H3 (shiftF .left k w f) (x * 2 ^ k % 2 ^ w) w ∧ (shiftF .left k w f).wf w := by
  have hp := pow_pos' w
  have hb : ∀ {a i : Nat}, (a * 2 ^ k).testBit i = (decide (k ≤ i) && a.testBit (i - k)) := fun {a i} => by rw [Nat.mul_comm, testBit_two_pow_mul']
  refine ⟨⟨fun i hi => ?_, fun i hi => ?_, fun i a b => ?_⟩, ⟨Nat.mod_lt _ hp, Nat.mod_lt _ hp, ?_⟩⟩
  · simp only [shiftF, Nat.testBit_mod_two_pow, Nat.testBit_or, hb, Nat.testBit_two_pow_sub_one, Bool.and_eq_true, Bool.or_eq_true, decide_eq_true_eq] at hi
    rw [Nat.testBit_mod_two_pow, hb]
    rcases hi.2 with q | q
    · rw [h.z _ q.2]; simp
    · simp [show ¬ k ≤ i by omega]
  · simp only [shiftF, Nat.testBit_mod_two_pow, hb, Bool.and_eq_true, decide_eq_true_eq] at hi
    rw [Nat.testBit_mod_two_pow, hb, h.o _ hi.2.2]
    simp [hi.1, hi.2.1]
  · simp only [shiftF] at a
    have hk := hf.2.2
    rw [Nat.testBit_mod_two_pow, hb, Nat.testBit_mod_two_pow, hb]
    by_cases c : i = w - 1
    · rw [c]
    · have a1 : k ≤ i := by omega
      have a2 : k ≤ w - 1 := by omega
      rw [h.k (i - k) (by omega) (by omega), h.k (w - 1 - k) (by omega) (by omega)]
      simp [a1, a2, b, show w - 1 < w by omega]
  · have := hf.2.2
    simp only [shiftF]; omega
theorem str_lt' {a w k : Nat} (h1 : 1 ≤ w) (ha : a < 2 ^ w) : strN a w (w + k) / 2 ^ k < 2 ^ w := by
  have := strN_lt (W := w + k) h1 (by omega) ha
  rw [Nat.div_lt_iff_lt_mul (pow_pos' _), ← Nat.pow_add]; exact this
theorem slide_bit {a w k i : Nat} (h1 : 1 ≤ w) (ha : a < 2 ^ w) (hi : i < w) : (strN a w (w + k) / 2 ^ k).testBit i = a.testBit (min (i + k) (w - 1)) := by
  rw [Nat.testBit_div_two_pow, strN_at h1 (by omega) ha (by omega)]
theorem slide_h3 {f : Fct} {x w k : Nat} (h1 : 1 ≤ w) (hf : f.wf w) (hx : x < 2 ^ w) (h : H3 f x w) : H3 (shiftF .slide k w f) (strN x w (w + k) / 2 ^ k) w ∧ (shiftF .slide k w f).wf w := by
  have l1 := str_lt' (k := k) h1 hf.1
  have l2 := str_lt' (k := k) h1 hf.2.1
  refine ⟨⟨fun i hi => ?_, fun i hi => ?_, fun i a b => ?_⟩, ⟨l1, l2, ?_⟩⟩
  · simp only [shiftF] at hi
    have c := bit_lt l1 hi
    rw [slide_bit h1 hf.1 c] at hi
    rw [slide_bit h1 hx c]
    exact h.z _ hi
  · simp only [shiftF] at hi
    have c := bit_lt l2 hi
    rw [slide_bit h1 hf.2.1 c] at hi
    rw [slide_bit h1 hx c]
    exact h.o _ hi
  · simp only [shiftF] at a
    have hk := hf.2.2
    rw [slide_bit h1 hx b, slide_bit h1 hx (by omega), h.k (min (i + k) (w - 1)) (by omega) (by omega), show min (w - 1 + k) (w - 1) = w - 1 by omega]
  · have := hf.2.2
    simp only [shiftF]; omega
theorem right_h3 {f : Fct} {x w k : Nat} (h1 : 1 ≤ w) (hf : f.wf w) (hx : x < 2 ^ w) (h : H3 f x w) : H3 (shiftF .right k w f) (x / 2 ^ k) w ∧ (shiftF .right k w f).wf w := by
  simp only [shiftF]
  by_cases c : k = 0
  · subst c
    rw [if_pos rfl, Nat.pow_zero, Nat.div_one]
    exact ⟨h, hf⟩
  · rw [if_neg c]
    have dl : ∀ a : Nat, a / 2 ^ k ≤ a := fun a => Nat.div_le_self _ _
    refine ⟨⟨fun i hi => ?_, fun i hi => ?_, alk_one _ _⟩, ⟨Nat.or_lt_two_pow (Nat.lt_of_le_of_lt (dl _) hf.1) topM_lt, Nat.lt_of_le_of_lt (dl _) hf.2.1, ?_⟩⟩
    · simp only [Nat.testBit_or, Nat.testBit_div_two_pow, Bool.or_eq_true] at hi
      rw [Nat.testBit_div_two_pow]
      rcases hi with q | q
      · exact h.z _ q
      · rw [topM_bit (by omega)] at q
        simp only [Bool.and_eq_true, decide_eq_true_eq] at q
        exact Nat.testBit_lt_two_pow (Nat.lt_of_lt_of_le hx (Nat.pow_le_pow_right (by decide) (by omega)))
    · simp only [Nat.testBit_div_two_pow] at hi
      rw [Nat.testBit_div_two_pow]
      exact h.o _ hi
    · simp only; omega
theorem cut_h3 {f : Fct} {x w W : Nat} (h1 : 1 ≤ W) (hW : W ≤ w) (hf : f.wf w) (hx : x < 2 ^ w) (h : H3 f x w) : H3 (fitF .cut W w f) (x % 2 ^ W) W ∧ (fitF .cut W w f).wf W := by
  have hp := pow_pos' W
  refine ⟨⟨fun i hi => ?_, fun i hi => ?_, fun i a b => ?_⟩, ⟨Nat.mod_lt _ hp, Nat.mod_lt _ hp, ?_⟩⟩
  · simp only [fitF, Nat.testBit_mod_two_pow, Bool.and_eq_true] at hi
    rw [Nat.testBit_mod_two_pow, h.z i hi.2]; simp
  · simp only [fitF, Nat.testBit_mod_two_pow, Bool.and_eq_true] at hi
    rw [Nat.testBit_mod_two_pow, h.o i hi.2, hi.1]; rfl
  · simp only [fitF] at a
    have hk := hf.2.2
    rw [Nat.testBit_mod_two_pow, Nat.testBit_mod_two_pow]
    by_cases c : i = W - 1
    · rw [c]
    · rw [h.k i (by omega) (by omega), h.k (W - 1) (by omega) (by omega)]
      simp [b, show W - 1 < W by omega]
  · have := hf.2.2
    simp only [fitF]; omega
theorem sign_h3 {f : Fct} {x w W : Nat} (h1 : 1 ≤ w) (hW : w ≤ W) (hf : f.wf w) (hx : x < 2 ^ w) (h : H3 f x w) : H3 (fitF .sign W w f) (strN x w W) W ∧ (fitF .sign W w f).wf W := by
  have l1 := strN_lt h1 hW hf.1
  have l2 := strN_lt h1 hW hf.2.1
  refine ⟨⟨fun i hi => ?_, fun i hi => ?_, fun i a b => ?_⟩, ⟨l1, l2, ?_⟩⟩
  · simp only [fitF] at hi
    have c := bit_lt l1 hi
    rw [strN_at h1 hW hf.1 c] at hi
    rw [strN_at h1 hW hx c]
    exact h.z _ hi
  · simp only [fitF] at hi
    have c := bit_lt l2 hi
    rw [strN_at h1 hW hf.2.1 c] at hi
    rw [strN_at h1 hW hx c]
    exact h.o _ hi
  · simp only [fitF] at a
    have hk := hf.2.2
    rw [strN_at h1 hW hx b, strN_at h1 hW hx (by omega), h.k (min i (w - 1)) (by omega) (by omega), show min (W - 1) (w - 1) = w - 1 by omega]
  · have := hf.2.2
    simp only [fitF]; omega
theorem wide_h3 {f : Fct} {x w W : Nat} (h1 : 1 ≤ w) (hW : w ≤ W) (hf : f.wf w) (hx : x < 2 ^ w) (h : H3 f x w) : H3 (fitF .wide W w f) x W ∧ (fitF .wide W w f).wf W := by
  simp only [fitF]
  have hp : 2 ^ w ≤ 2 ^ W := Nat.pow_le_pow_right (by decide) hW
  by_cases c : W = w
  · subst c
    rw [if_pos rfl]
    exact ⟨h, hf⟩
  · rw [if_neg c]
    refine ⟨⟨fun i hi => ?_, h.o, alk_one _ _⟩, ⟨Nat.or_lt_two_pow (Nat.lt_of_lt_of_le hf.1 hp) topM_lt, Nat.lt_of_lt_of_le hf.2.1 hp, ?_⟩⟩
    · simp only [Nat.testBit_or, Bool.or_eq_true] at hi
      rcases hi with q | q
      · exact h.z i q
      · rw [topM_bit hW] at q
        simp only [Bool.and_eq_true, decide_eq_true_eq] at q
        exact Nat.testBit_lt_two_pow (Nat.lt_of_lt_of_le hx (Nat.pow_le_pow_right (by decide) q.1))
    · simp only; omega
theorem pick_h3 {t f g : Fct} {c x y w : Nat} (ht : t.wf 1) (hc : c < 2) (h0 : H3 t c 1) (h1 : H3 f x w) (h2 : H3 g y w) : H3 (pickF t f g) (if c = 1 then x else y) w := by
  have c2 : c = 0 ∨ c = 1 := by omega
  have zo : ∀ n : Nat, n < 2 ^ 1 → n = 1 → n.testBit 0 = true := fun n _ e => by rw [e]; rfl
  unfold pickF
  split
  · rename_i e
    have := h0.o 0 (by rw [e]; rfl)
    rcases c2 with rfl | rfl
    · simp at this
    · exact h1
  · split
    · rename_i e
      have := h0.z 0 (by rw [e]; rfl)
      rcases c2 with rfl | rfl
      · exact h2
      · simp at this
    · rcases c2 with rfl | rfl
      · rw [if_neg (by omega)]
        exact ⟨fun i hi => h2.z i (by rw [Nat.testBit_and, Bool.and_eq_true] at hi; exact hi.2), fun i hi => h2.o i (by rw [Nat.testBit_and, Bool.and_eq_true] at hi; exact hi.2), h2.k.mono (by simp only; omega)⟩
      · rw [if_pos rfl]
        exact ⟨fun i hi => h1.z i (by rw [Nat.testBit_and, Bool.and_eq_true] at hi; exact hi.1), fun i hi => h1.o i (by rw [Nat.testBit_and, Bool.and_eq_true] at hi; exact hi.1), h1.k.mono (by simp only; omega)⟩
theorem num_h3 {v w : Nat} (h1 : 1 ≤ w) (hv : v < 2 ^ w) : H3 ⟨2 ^ w - 1 - v, v, 1⟩ v w ∧ (Fct.mk (2 ^ w - 1 - v) v 1).wf w := by
  have hp := pow_pos' w
  refine ⟨⟨fun i hi => ?_, fun i hi => hi, alk_one _ _⟩, ⟨by simp only; omega, hv, by simp only; omega⟩⟩
  have c := bit_lt (show 2 ^ w - 1 - v < 2 ^ w by omega) hi
  simp only at hi
  rw [compl_bit hv c] at hi
  simpa using hi
/-- what a rule tells of facts that hold, holds -/
theorem told_h3 {r : Rw} {ws xs : List Nat} {fs : List Fct} (h : r.fit ws) (hn : r.word ≠ .inp) (hf : Al (fun (f : Fct) w => f.wf w) fs ws) (hx : Al (fun x w => x < 2 ^ w) xs ws) (hh : Al (fun (f : Fct) (p : Nat × Nat) => H3 f p.1 p.2) fs (xs.zip ws)) :
    H3 (toldF r ws fs) (workN r ws xs) r.w ∧ (toldF r ws fs).wf r.w := by
  have fw := fit_widths h
  obtain ⟨h1, h2, h⟩ := h
  cases hwd : r.word <;> simp only [hwd] at h
  case inp => exact absurd hwd hn
  case num =>
    obtain ⟨rfl, v, e, q⟩ := h
    match fs, xs, hf, hx with
    | [], [], _, _ =>
      simp only [toldF, workN, hwd, e, List.headD_cons]
      exact num_h3 h1 q
  case not =>
    obtain ⟨rfl, _⟩ := h
    match fs, xs, hf, hx, hh with
    | [f], [x], hf, hx, hh =>
      simp only [toldF, workN, hwd, movedN, List.headD_cons]
      exact ⟨not_h3 hf.1 hx.1 hh.1, hf.1.2.1, hf.1.1, hf.1.2.2⟩
  case left =>
    obtain ⟨rfl, _⟩ := h
    match fs, xs, hf, hx, hh with
    | [f], [x], hf, hx, hh =>
      simp only [toldF, workN, hwd, movedN, List.headD_cons]
      exact left_h3 h1 hf.1 hx.1 hh.1
  case right =>
    obtain ⟨rfl, _⟩ := h
    match fs, xs, hf, hx, hh with
    | [f], [x], hf, hx, hh =>
      simp only [toldF, workN, hwd, movedN, List.headD_cons]
      exact right_h3 h1 hf.1 hx.1 hh.1
  case slide =>
    obtain ⟨rfl, _⟩ := h
    match fs, xs, hf, hx, hh with
    | [f], [x], hf, hx, hh =>
      simp only [toldF, workN, hwd, movedN, List.headD_cons]
      exact slide_h3 h1 hf.1 hx.1 hh.1
  case cut =>
    obtain ⟨v, a, rfl, _, q1, q2⟩ := h
    match fs, xs, hf, hx, hh with
    | [f], [x], hf, hx, hh =>
      simp only [toldF, workN, hwd, movedN, List.headD_cons]
      exact cut_h3 h1 q1 hf.1 hx.1 hh.1
  case wide =>
    obtain ⟨v, a, rfl, _, q1, q2⟩ := h
    match fs, xs, hf, hx, hh with
    | [f], [x], hf, hx, hh =>
      simp only [toldF, workN, hwd, movedN, List.headD_cons]
      exact wide_h3 q1 q2 hf.1 hx.1 hh.1
  case sign =>
    obtain ⟨v, a, rfl, _, q1, q2⟩ := h
    match fs, xs, hf, hx, hh with
    | [f], [x], hf, hx, hh =>
      simp only [toldF, workN, hwd, movedN, List.headD_cons]
      exact sign_h3 q1 q2 hf.1 hx.1 hh.1
  case same =>
    obtain ⟨v, a, b, rfl, _, e, q1, q2⟩ := h
    match fs, xs, hf, hx, hh with
    | [f, g], [x, y], hf, hx, hh =>
      simp only [toldF, workN, hwd, comparedN, e]
      exact truth_h3 fun b hb => same_sound hx.1 hx.2.1 hh.1 hh.2.1 hb
  case less =>
    obtain ⟨v, a, b, rfl, _, e, q1, q2⟩ := h
    match fs, xs, hf, hx, hh with
    | [f, g], [x, y], hf, hx, hh =>
      simp only [toldF, workN, hwd, comparedN, e]
      exact truth_h3 fun b hb => less_sound hf.1 hf.2.1 hx.1 hx.2.1 hh.1 hh.2.1 hb
  case under =>
    obtain ⟨v, a, b, rfl, _, e, q1, q2⟩ := h
    match fs, xs, hf, hx, hh with
    | [f, g], [x, y], hf, hx, hh =>
      simp only [toldF, workN, hwd, comparedN, e, List.headD_cons]
      exact truth_h3 fun b hb => under_sound q1 hf.1 hf.2.1 hx.1 hx.2.1 hh.1 hh.2.1 hb
  case pick =>
    obtain ⟨rfl, _⟩ := h
    match fs, xs, hf, hx, hh with
    | [t, f, g], [c, x, y], hf, hx, hh =>
      simp only [toldF, workN, hwd]
      exact ⟨pick_h3 hf.1 hx.1 hh.1 hh.2.1 hh.2.2.1, pickF_wf hf.2.1 hf.2.2.1⟩
  case and =>
    obtain ⟨rfl, _⟩ := h
    match fs, xs, hf, hx, hh with
    | [f, g], [x, y], hf, hx, hh =>
      simp only [toldF, workN, hwd, joinedN]
      exact ⟨(bit_h3 (wd := .and) hh.1 hh.2.1 ⟨hf.1.2.2.2, hf.2.1.2.2.2⟩).1, (bit_wf hf.1 hf.2.1).1⟩
  case or =>
    obtain ⟨rfl, _⟩ := h
    match fs, xs, hf, hx, hh with
    | [f, g], [x, y], hf, hx, hh =>
      simp only [toldF, workN, hwd, joinedN]
      exact ⟨(bit_h3 (wd := .and) hh.1 hh.2.1 ⟨hf.1.2.2.2, hf.2.1.2.2.2⟩).2.1, (bit_wf hf.1 hf.2.1).2.1⟩
  case xor =>
    obtain ⟨rfl, _⟩ := h
    match fs, xs, hf, hx, hh with
    | [f, g], [x, y], hf, hx, hh =>
      simp only [toldF, workN, hwd, joinedN]
      exact ⟨(bit_h3 (wd := .and) hh.1 hh.2.1 ⟨hf.1.2.2.2, hf.2.1.2.2.2⟩).2.2, (bit_wf hf.1 hf.2.1).2.2⟩
  case add =>
    obtain ⟨rfl, _⟩ := h
    match fs, xs, hf, hx, hh with
    | [f, g], [x, y], hf, hx, hh =>
      have := sum_h3 (.inl hwd) h2 hf.1 hf.2.1 hx.1 hx.2.1 hh.1 hh.2.1
      rw [hwd] at this
      have ew : workN r [r.w, r.w] [x, y] = joinedN r x y := by simp only [workN, hwd]
      have et : toldF r [r.w, r.w] [f, g] = sumF .add f g r.w := by simp only [toldF, hwd]
      rw [ew, et]; exact this
  case sub =>
    obtain ⟨rfl, _⟩ := h
    match fs, xs, hf, hx, hh with
    | [f, g], [x, y], hf, hx, hh =>
      have := sum_h3 (.inr (.inl hwd)) h2 hf.1 hf.2.1 hx.1 hx.2.1 hh.1 hh.2.1
      rw [hwd] at this
      have ew : workN r [r.w, r.w] [x, y] = joinedN r x y := by simp only [workN, hwd]
      have et : toldF r [r.w, r.w] [f, g] = sumF .sub f g r.w := by simp only [toldF, hwd]
      rw [ew, et]; exact this
  case mul =>
    obtain ⟨rfl, _⟩ := h
    match fs, xs, hf, hx, hh with
    | [f, g], [x, y], hf, hx, hh =>
      have := sum_h3 (.inr (.inr hwd)) h2 hf.1 hf.2.1 hx.1 hx.2.1 hh.1 hh.2.1
      rw [hwd] at this
      have ew : workN r [r.w, r.w] [x, y] = joinedN r x y := by simp only [workN, hwd]
      have et : toldF r [r.w, r.w] [f, g] = sumF .mul f g r.w := by simp only [toldF, hwd]
      rw [ew, et]; exact this
/-- a rule's fact holds of what the word tells -/
theorem rule_holds {r : Rw} {ws xs : List Nat} {fs : List Fct} (h : r.fit ws) (hn : r.word ≠ .inp) (hf : Al (fun (f : Fct) w => f.wf w) fs ws) (hx : Al (fun x w => x < 2 ^ w) xs ws) (hh : Al (fun (f : Fct) (p : Nat × Nat) => f.holds p.1 p.2) fs (xs.zip ws)) :
    (ruleF r ws fs).holds (workN r ws xs) r.w ∧ (ruleF r ws fs).wf r.w := by
  have g : ∀ {fs : List Fct} {xs ws : List Nat}, Al (fun (f : Fct) w => f.wf w) fs ws → Al (fun x w => x < 2 ^ w) xs ws → Al (fun (f : Fct) (p : Nat × Nat) => f.holds p.1 p.2) fs (xs.zip ws) → Al (fun (f : Fct) (p : Nat × Nat) => H3 f p.1 p.2) fs (xs.zip ws) := by
    intro fs
    induction fs with
    | nil => intro xs ws a b c; match ws, xs, a, b with | [], [], _, _ => trivial
    | cons f fs ih =>
      intro xs ws a b c
      match ws, xs, a, b, c with
      | w :: ws, x :: xs, a, b, c => exact ⟨(h3_iff a.1 b.1).mp c.1, ih a.2 b.2 c.2⟩
  obtain ⟨t1, t2⟩ := told_h3 h hn hf hx (g hf hx hh)
  have lt := workN_lt (fitsX_of h hn hx)
  exact ⟨(closed_holds t2 lt).mpr ((h3_iff t2 lt).mpr t1), closed_wf t2⟩
theorem inp_rule {r : Rw} (h : r.word = .inp) : ruleF r [] [] = (Fct.mk 0 0 1).closed r.w := by
  unfold ruleF toldF; rw [h]
theorem atI_mod {α : Type} {xs : List α} {i : Int} (h : 0 < xs.length) : ∃ x, x ∈ xs ∧ atI xs (i % (xs.length : Int)) = some x := by
  have h1 := Int.emod_nonneg i (b := (xs.length : Int)) (by omega)
  have h2 := Int.emod_lt_of_pos i (b := (xs.length : Int)) (by omega)
  rw [atI_pos h1, List.getElem?_eq_getElem (by omega)]
  exact ⟨_, List.getElem_mem _, rfl⟩
theorem ns_at {ns : List Int} {i : Nat} (h : i < ns.length) : (ns.map PyData.int)[i]? = some (.int ns[i]) := by simp [h]
theorem draw_e (S : Sto) (ns : List Int) (n B : Nat) (many : Int) (h : Rd ns n B S) (hB : B ≤ 1000000000) (h1 : 0 < many) (h2 : many < 2 ^ 64) :
    ∃ (r : Nat) (S' : Sto), (r : Int) < many ∧ sh_L_draw [.r n, .d (.int many)] S = some (.int r, S') ∧ Rd ns n (B + 1) S' ∧ Oth n S S' := by
  obtain ⟨k, m, hS, hk⟩ := h
  have hn := (List.getElem?_eq_some_iff.mp hS).1
  have em : ∀ z : Int, ∃ r : Nat, (r : Int) < many ∧ z % many = (r : Int) := fun z => by
    have q1 := Int.emod_nonneg z (b := many) (by omega)
    have q2 := Int.emod_lt_of_pos z h1
    exact ⟨(z % many).toNat, by omega, by omega⟩
  have s5 : sh_L_draw_s5 [some (.r n), some (.d (.int many)), none, none, none, none] S = some (.nx [some (.r n), some (.d (.int many)), some (.d (scr ns)), some (.d (.int k)), none, none], S) := by
    have e1 : cutD [scr ns, .int (k : Int), .int m] none (some 2) = [scr ns, .int (k : Int)] := rfl
    simp [sh_L_draw_s5_e, hS, e1]
  have s6 : sh_L_draw_s6 [some (.r n), some (.d (.int many)), some (.d (scr ns)), some (.d (.int k)), none, none] S = some (.nx [some (.r n), some (.d (.int many)), some (.d (scr ns)), some (.d (.int k)), none, none], S.set n (stO ns (k + 1) m)) := by
    have e1 : ixN 3 1 = some 1 := rfl
    simp [sh_L_draw_s6_e, hS, e1]
    rfl
  have hS1 : (S.set n (stO ns (k + 1) m))[n]? = some (stO ns (k + 1) m) := by rw [List.getElem?_set_self hn]
  have fin : ∀ m' : Int, Rd ns n (B + 1) (S.set n (stO ns (k + 1) m')) ∧ Oth n S (S.set n (stO ns (k + 1) m')) := fun m' => ⟨⟨k + 1, m', by rw [List.getElem?_set_self hn], by omega⟩, Oth.set _ _ _⟩
  obtain ⟨a0, ha0⟩ : ∃ a0 : Int, 0 < ns.length → (ns.map PyData.int)[0]? = some (.int a0) := by
    cases ns with
    | nil => exact ⟨0, fun h => by simp at h⟩
    | cons a r => exact ⟨a, fun _ => rfl⟩
  by_cases c1 : k / 12 + 1 < ns.length ∧ a0 % 2 = 1
  · -- by the digits
    obtain ⟨c2, c3⟩ := c1
    have hd := ha0 (by omega)
    have cc : ((k : Int) / 12 + 1) < ns.length := by omega
    have s1 : ∃ m1 : Int, sh_L_draw_s1 [some (.r n), some (.d (.int many)), some (.d (scr ns)), some (.d (.int k)), none, none] (S.set n (stO ns (k + 1) m)) = some (.nx [some (.r n), some (.d (.int many)), some (.d (scr ns)), some (.d (.int k)), none, none], S.set n (stO ns (k + 1) m1)) := by
      by_cases c4 : (k : Int) % 12 = 0
      · have e2 : ixN 3 2 = some 2 := rfl
        have e3 : atI (ns.map PyData.int) ((k : Int) / 12 + 1) = some (.int ns[k / 12 + 1]) := by
          rw [atI_pos (by omega), show ((k : Int) / 12 + 1).toNat = k / 12 + 1 by omega, ns_at c2]
        refine ⟨ns[k / 12 + 1], ?_⟩
        simp (disch := omega) [sh_L_draw_s1_e, modW_e, fdivW_e, c4, e3, e2, hS1, hn]
        rfl
      · refine ⟨m, ?_⟩
        simp (disch := omega) [sh_L_draw_s1_e, modW_e, c4]
    obtain ⟨m1, s1⟩ := s1
    have hS2 : (S.set n (stO ns (k + 1) m1))[n]? = some (stO ns (k + 1) m1) := by rw [List.getElem?_set_self hn]
    obtain ⟨r, hr, er⟩ := em m1
    have s2 : sh_L_draw_s2 [some (.r n), some (.d (.int many)), some (.d (scr ns)), some (.d (.int k)), none, none] (S.set n (stO ns (k + 1) m1)) = some (.nx [some (.r n), some (.d (.int many)), some (.d (scr ns)), some (.d (.int k)), some (.d (.int r)), none], S.set n (stO ns (k + 1) m1)) := by
      have e2 : atI [scr ns, .int ((k + 1 : Nat) : Int), .int m1] 2 = some (.int m1) := rfl
      simp only [sh_L_draw_s2_e, mAsg_e, mBin_e, mVar_e, mC_e, env_0, env_S, Option.bind_some, Option.map_some, ixW_r, getL_r, hS2, e2, modW_e _ _ _ h1, er, List.set_cons_zero, List.set_cons_succ]
    have s3 : sh_L_draw_s3 [some (.r n), some (.d (.int many)), some (.d (scr ns)), some (.d (.int k)), some (.d (.int r)), none] (S.set n (stO ns (k + 1) m1)) = some (.nx [some (.r n), some (.d (.int many)), some (.d (scr ns)), some (.d (.int k)), some (.d (.int r)), none], S.set n (stO ns (k + 1) (m1 / many))) := by
      have e2 : atI [scr ns, .int ((k + 1 : Nat) : Int), .int m1] 2 = some (.int m1) := rfl
      have e3 : ixN 3 2 = some 2 := rfl
      have e4 : ([scr ns, .int ((k + 1 : Nat) : Int), .int m1] : List PyData).length = 3 := rfl
      simp only [sh_L_draw_s3_e, mSetIx_e, mBin_e, mVar_e, mC_e, env_0, env_S, Option.bind_some, Option.map_some, ixW_r, getL_r, hS2, e2, fdivW_e _ _ _ h1 h2, toD_d, e3, e4, List.set_cons_zero, List.set_cons_succ, List.set_set]
    have s7 : sh_L_draw_s7 [some (.r n), some (.d (.int many)), some (.d (scr ns)), some (.d (.int k)), none, none] (S.set n (stO ns (k + 1) m)) = some (.rt (.d (.int r)), S.set n (stO ns (k + 1) (m1 / many))) := by
      simp (disch := omega) [sh_L_draw_s7_e, modW_e, fdivW_e, cc, atI_pos, hd, c3]
      simp only [s1, s2, s3, Option.bind_some, sh_L_draw_s4_e, mRet_e, mVar_e, env_0, env_S, Option.map_some]
    refine ⟨r, _, hr, ?_, fin (m1 / many)⟩
    simp only [sh_L_draw, mDef, mSeq_e, List.map_cons, List.map_nil, List.length_cons, List.length_nil]
    simp [s5, s6, s7]
    exact (Oth.set _ _ _).take
  · have s7 : sh_L_draw_s7 [some (.r n), some (.d (.int many)), some (.d (scr ns)), some (.d (.int k)), none, none] (S.set n (stO ns (k + 1) m)) = some (.nx [some (.r n), some (.d (.int many)), some (.d (scr ns)), some (.d (.int k)), none, none], S.set n (stO ns (k + 1) m)) := by
      by_cases c2 : k / 12 + 1 < ns.length
      · have cc : ((k : Int) / 12 + 1) < ns.length := by omega
        have hd := ha0 (by omega)
        have c3 : ¬ a0 % 2 = 1 := fun h => c1 ⟨c2, h⟩
        simp (disch := omega) [sh_L_draw_s7_e, modW_e, fdivW_e, cc, atI_pos, hd, c3]
      · have cc : ¬ ((k : Int) / 12 + 1) < ns.length := by omega
        simp (disch := omega) [sh_L_draw_s7_e, modW_e, fdivW_e, cc]
    by_cases c4 : k < ns.length
    · obtain ⟨r, hr, er⟩ := em ns[k]
      have e3 : atI (ns.map PyData.int) (k : Int) = some (.int ns[k]) := by rw [atI_nat', ns_at c4]
      have s8 : sh_L_draw_s8 [some (.r n), some (.d (.int many)), some (.d (scr ns)), some (.d (.int k)), none, none] (S.set n (stO ns (k + 1) m)) = some (.rt (.d (.int r)), S.set n (stO ns (k + 1) m)) := by
        simp [sh_L_draw_s8_e, c4, e3, modW_e _ _ _ h1, er]
      refine ⟨r, _, hr, ?_, fin m⟩
      simp only [sh_L_draw, mDef, mSeq_e, List.map_cons, List.map_nil, List.length_cons, List.length_nil]
      simp [s5, s6, s7, s8]
      exact (Oth.set _ _ _).take
    · have s8 : sh_L_draw_s8 [some (.r n), some (.d (.int many)), some (.d (scr ns)), some (.d (.int k)), none, none] (S.set n (stO ns (k + 1) m)) = some (.nx [some (.r n), some (.d (.int many)), some (.d (scr ns)), some (.d (.int k)), none, none], S.set n (stO ns (k + 1) m)) := by
        simp [sh_L_draw_s8_e, c4]
      have s9 : ∃ z : Int, sh_L_draw_s9 [some (.r n), some (.d (.int many)), some (.d (scr ns)), some (.d (.int k)), none, none] (S.set n (stO ns (k + 1) m)) = some (.nx [some (.r n), some (.d (.int many)), some (.d (scr ns)), some (.d (.int k)), none, some (.d (.int z))], S.set n (stO ns (k + 1) m)) := by
        refine ⟨(k : Int) * 7919 + 5, ?_⟩
        simp (disch := omega) [sh_L_draw_s9_e, mulW_r]
      obtain ⟨z9, s9⟩ := s9
      have s10 : ∃ z : Int, sh_L_draw_s10 [some (.r n), some (.d (.int many)), some (.d (scr ns)), some (.d (.int k)), none, some (.d (.int z9))] (S.set n (stO ns (k + 1) m)) = some (.nx [some (.r n), some (.d (.int many)), some (.d (scr ns)), some (.d (.int k)), none, some (.d (.int z))], S.set n (stO ns (k + 1) m)) := by
        have e2 : atI [scr ns, .int ((k : Int) + 1), .int m] 0 = some (scr ns) := rfl
        by_cases c5 : 0 < ns.length
        · obtain ⟨x, hx, ex⟩ := atI_mod (xs := ns.map PyData.int) (i := (k : Int) * 7) (by simpa using c5)
          obtain ⟨y, _, rfl⟩ := List.mem_map.mp hx
          rw [List.length_map] at ex
          refine ⟨z9 + y * (48271 + (k : Int)), ?_⟩
          have c6 : (0 : Int) < ns.length := by omega
          simp (disch := omega) [sh_L_draw_s10_e, hS1, e2, hn, c5, c6, mulW_r, modW_e, ex]
        · refine ⟨z9, ?_⟩
          have c6 : ¬ (0 : Int) < ns.length := by omega
          simp (disch := omega) [sh_L_draw_s10_e, hS1, e2, hn, c5, c6]
      obtain ⟨z10, s10⟩ := s10
      have s11 : ∃ z : Int, 0 ≤ z ∧ z < 2147483629 ∧ sh_L_draw_s11 [some (.r n), some (.d (.int many)), some (.d (scr ns)), some (.d (.int k)), none, some (.d (.int z10))] (S.set n (stO ns (k + 1) m)) = some (.nx [some (.r n), some (.d (.int many)), some (.d (scr ns)), some (.d (.int k)), none, some (.d (.int z))], S.set n (stO ns (k + 1) m)) := by
        refine ⟨z10 % 2147483629 * ((k : Int) + 3) % 2147483629, by omega, by omega, ?_⟩
        simp (disch := omega) [sh_L_draw_s11_e, mulW_r, modW_e]
      obtain ⟨z11, p1, p2, s11⟩ := s11
      have s12 : ∃ z : Int, 0 ≤ z ∧ z < 2147483587 ∧ sh_L_draw_s12 [some (.r n), some (.d (.int many)), some (.d (scr ns)), some (.d (.int k)), none, some (.d (.int z11))] (S.set n (stO ns (k + 1) m)) = some (.nx [some (.r n), some (.d (.int many)), some (.d (scr ns)), some (.d (.int k)), none, some (.d (.int z))], S.set n (stO ns (k + 1) m)) := by
        refine ⟨z11 * z11 % 2147483587, by omega, by omega, ?_⟩
        simp (disch := omega) [sh_L_draw_s12_e, mulW_r, modW_e]
      obtain ⟨z12, p3, p4, s12⟩ := s12
      obtain ⟨r, hr, er⟩ := em (z12 * z12 % 1999999973)
      have s13 : sh_L_draw_s13 [some (.r n), some (.d (.int many)), some (.d (scr ns)), some (.d (.int k)), none, some (.d (.int z12))] (S.set n (stO ns (k + 1) m)) = some (.rt (.d (.int r)), S.set n (stO ns (k + 1) m)) := by
        simp (disch := omega) [sh_L_draw_s13_e, mulW_r, modW_e, er]
      refine ⟨r, _, hr, ?_, fin m⟩
      simp only [sh_L_draw, mDef, mSeq_e, List.map_cons, List.map_nil, List.length_cons, List.length_nil]
      simp [s5, s6, s7, s8, s9, s10, s11, s12, s13]
      exact (Oth.set _ _ _).take
theorem width_e (S : Sto) (ns : List Int) (n B : Nat) (h : Rd ns n B S) (hB : B + 3 ≤ 1000000000) :
    ∃ (w : Nat) (S' : Sto), 1 ≤ w ∧ w ≤ 64 ∧ sh_L_width [.r n] S = some (.int w, S') ∧ Rd ns n (B + 3) S' ∧ Oth n S S' := by
  obtain ⟨a, S1, ha, e1, r1, o1⟩ := draw_e S ns n B 8 h (by omega) (by omega) (by omega)
  obtain ⟨b, S2, hb, e2, r2, o2⟩ := draw_e S1 ns n (B + 1) 64 r1 (by omega) (by omega) (by omega)
  obtain ⟨c, S3, hc, e3, r3, o3⟩ := draw_e S2 ns n (B + 2) 4 r2 (by omega) (by omega) (by omega)
  have o := (o1.trans o2).trans o3
  have h4 : c = 0 ∨ c = 1 ∨ c = 2 ∨ c = 3 := by omega
  rcases h4 with rfl | rfl | rfl | rfl
  · exact ⟨1, S3, by omega, by omega, by simp (disch := omega) [sh_L_width, mDef, e1, e2, e3, atI_pos, o.take], r3, o⟩
  · exact ⟨64, S3, by omega, by omega, by simp (disch := omega) [sh_L_width, mDef, e1, e2, e3, atI_pos, o.take], r3, o⟩
  · exact ⟨1 + a, S3, by omega, by omega, by simp (disch := omega) [sh_L_width, mDef, e1, e2, e3, atI_pos, o.take], r3, o⟩
  · exact ⟨1 + b, S3, by omega, by omega, by simp (disch := omega) [sh_L_width, mDef, e1, e2, e3, atI_pos, o.take], r3, o⟩
theorem two_le_pow {k m : Nat} (h : k ≤ m) : (2 : Int) ^ k ≤ 2 ^ m := by
  rw [pow_nat, pow_nat]
  have := Nat.pow_le_pow_right (n := 2) (by decide) h
  omega
theorem number_e (S : Sto) (ns : List Int) (n B w : Nat) (h : Rd ns n B S) (hB : B + 2 ≤ 1000000000) (h1 : 1 ≤ w) (h2 : w ≤ 64) :
    ∃ (v : Nat) (S' : Sto), v < 2 ^ w ∧ sh_L_number [.r n, .d (.int w)] S = some (.int v, S') ∧ Rd ns n (B + 2) S' ∧ Oth n S S' := by
  have hp := PySem.W.kbt_pos w
  have ew := pow_nat w
  by_cases hw : w < 31
  · have := two_le_pow (show w ≤ 31 by omega)
    obtain ⟨a, S1, ha, e1, r1, o1⟩ := draw_e S ns n B (2 ^ w) h (by omega) hp (by omega)
    have hw' : (w : Int) < 31 := by omega
    exact ⟨a, S1, by omega, by simp (disch := omega) [sh_L_number, mDef, hw', shlW_1, e1, o1.take], r1.mono (by omega), o1⟩
  · have e0 : ((w : Int) - 30).toNat = w - 30 := by omega
    have hq := PySem.W.kbt_pos (w - 30)
    have := two_le_pow (show w - 30 ≤ 34 by omega)
    have hw' : ¬ (w : Int) < 31 := by omega
    have es : (2 : Int) ^ (w - 30) * 2 ^ 30 = 2 ^ w := by rw [← Int.pow_add]; congr 1; omega
    obtain ⟨a, S1, ha, e1, r1, o1⟩ := draw_e S ns n B (2 ^ 30) h (by omega) (by omega) (by omega)
    obtain ⟨b, S2, hb, e2, r2, o2⟩ := draw_e S1 ns n (B + 1) (2 ^ (w - 30)) r1 (by omega) hq (by omega)
    have o := o1.trans o2
    have e1' : sh_L_draw [.r n, .d (.int 1073741824)] S = some (.int a, S1) := e1
    refine ⟨a + b * 2 ^ 30, S2, ?_, ?_, r2, o⟩
    · generalize (2 : Int) ^ (w - 30) = A at *
      omega
    · simp (disch := omega) [sh_L_number, mDef, hw', shlW_1, shlW_s, e1', e2, e0, o.take]
theorem num_e (S : Sto) (ns : List Int) (n B w : Nat) (h : Rd ns n B S) (hB : B + 5 ≤ 1000000000) (h1 : 1 ≤ w) (h2 : w ≤ 64) :
    ∃ (v : Nat) (S' : Sto), v < 2 ^ w ∧ sh_L_num [.r n, .d (.int w)] S = some (.int v, S') ∧ Rd ns n (B + 5) S' ∧ Oth n S S' := by
  have hp := pow_pos' w
  have ew := pow_nat w
  obtain ⟨a, S1, ha, e1, r1, o1⟩ := draw_e S ns n B 5 h (by omega) (by omega) (by omega)
  obtain ⟨b, S2, hb, e2, r2, o2⟩ := draw_e S1 ns n (B + 1) w r1 (by omega) (by omega) (by omega)
  obtain ⟨c, S3, hc, e3, r3, o3⟩ := draw_e S2 ns n (B + 2) w r2 (by omega) (by omega) (by omega)
  have hb' : 2 ^ b < 2 ^ w := Nat.pow_lt_pow_right (by decide) (by omega)
  have hc' : 2 ^ c < 2 ^ w := Nat.pow_lt_pow_right (by decide) (by omega)
  have pc := pow_pos' c
  have s1 : sh_L_num_s1 [some (.r n), some (.d (.int w)), none, none] S = some (.nx [some (.r n), some (.d (.int w)), some (.d (.int a)), none], S1) := by
    simp [sh_L_num_s1_e, e1]
  have s2 : sh_L_num_s2 [some (.r n), some (.d (.int w)), some (.d (.int a)), none] S1 = some (.nx [some (.r n), some (.d (.int w)), some (.d (.int a)), some (.d (.list [.int ((0 : Nat) : Int), .int ((2 ^ w - 1 : Nat) : Int), .int ((2 ^ b : Nat) : Int), .int ((2 ^ c - 1 : Nat) : Int)]))], S3) := by
    have q1 : (2 : Int) ^ w - 1 = ((2 ^ w - 1 : Nat) : Int) := by omega
    have q2 : (2 : Int) ^ c - 1 = ((2 ^ c - 1 : Nat) : Int) := by rw [pow_nat]; omega
    simp (disch := omega) [sh_L_num_s2_e, shlW_1, e2, e3, q1, q2]
  by_cases h4 : a = 4
  · subst h4
    obtain ⟨v, S4, hv, e4, r4, o4⟩ := number_e S3 ns n (B + 3) w r3 (by omega) h1 h2
    have o := ((o1.trans o2).trans o3).trans o4
    refine ⟨v, S4, hv, ?_, r4, o⟩
    simp only [sh_L_num, mDef, mSeq_e, List.map_cons, List.map_nil, List.length_cons, List.length_nil]
    simp at s1 s2
    simp [s1, s2, sh_L_num_s3_e, sh_L_num_s4_e, e4, o.take]
  · have o := (o1.trans o2).trans o3
    have ex : ∃ v : Nat, v < 2 ^ w ∧ ([.int ((0 : Nat) : Int), .int ((2 ^ w - 1 : Nat) : Int), .int ((2 ^ b : Nat) : Int), .int ((2 ^ c - 1 : Nat) : Int)] : List PyData)[a]? = some (.int (v : Int)) := by
      have h5 : a = 0 ∨ a = 1 ∨ a = 2 ∨ a = 3 := by omega
      rcases h5 with rfl | rfl | rfl | rfl
      · exact ⟨0, hp, rfl⟩
      · exact ⟨2 ^ w - 1, by omega, rfl⟩
      · exact ⟨2 ^ b, hb', rfl⟩
      · exact ⟨2 ^ c - 1, by omega, rfl⟩
    obtain ⟨v, hv, ev⟩ := ex
    have ha4 : (a : Int) < 4 := by omega
    refine ⟨v, S3, hv, ?_, r3.mono (by omega), o⟩
    have s3 : sh_L_num_s3 [some (.r n), some (.d (.int w)), some (.d (.int a)), some (.d (.list [.int ((0 : Nat) : Int), .int ((2 ^ w - 1 : Nat) : Int), .int ((2 ^ b : Nat) : Int), .int ((2 ^ c - 1 : Nat) : Int)]))] S3 = some (.rt (.d (.int v)), S3) := by
      simp only [sh_L_num_s3_e, mIfS_e, mB_e, mBin_e, mVar_e, mC_e, env_0, env_S, Option.bind_some, Option.map_some, cmpOp_e, ha4, decide_true, if_true, mRet_e, ixW_l, atI_nat', ev]
    simp only [sh_L_num, mDef, mSeq_e, List.map_cons, List.map_nil, List.length_cons, List.length_nil]
    simp only [List.replicate, List.cons_append, List.nil_append, Nat.reduceSub, Nat.reduceAdd, s1, s2, s3, Option.bind_some, toD_d, Option.map_some, o.take]
theorem full_e (S : Sto) (w : Nat) (h : w ≤ 1000000) : sh_bits_full [.d (.int (w : Int))] S = some (.int ((2 ^ w - 1 : Nat) : Int), S) := by
  have hp := pow_pos' w
  simp (disch := omega) [sh_bits_full, mDef, shlW_1, subW]
  rw [pow_nat]; omega
theorem reach_loop (S : Sto) : ∀ (n m : Nat), mWhile sh_bits_reach_c1 sh_bits_reach_w1 [some (.d (.int n)), some (.d (.int m))] S = some (.nx [some (.d (.int (0 : Nat))), some (.d (.int ((m + reachN n : Nat) : Int)))], S) := by
  intro n
  induction n using Nat.strongRecOn with
  | _ n ih =>
    intro m
    rw [mWhile_eq]
    by_cases h : n = 0
    · subst h
      simp [sh_bits_reach_c1_e, reachN]
    · have ih' := ih (n / 2) (by omega) (m + 1)
      have e : (n : Int) / 2 = ((n / 2 : Nat) : Int) := by omega
      have h' : 0 < n := by omega
      have e2 : m + 1 + reachN (n / 2) = m + reachN n := by rw [reachN_half h]; omega
      rw [e2] at ih'
      simp (disch := omega) [sh_bits_reach_c1_e, sh_bits_reach_w1_e, h', shrW_e]
      simpa using ih'
theorem reach_e (S : Sto) (n : Nat) : sh_bits_reach [.d (.int n)] S = some (.int (reachN n : Nat), S) := by
  have h := reach_loop S n 0
  simp only [Nat.zero_add] at h
  simp at h
  simp [sh_bits_reach, mDef, h]
theorem below_e (S : Sto) (n : Nat) (h : reachN n ≤ 1000000) : sh_bits_below [.d (.int n)] S = some (.int ((2 ^ reachN n - 1 : Nat) : Int), S) := by
  simp [sh_bits_below, mDef, reach_e, full_e _ _ h]
theorem low_loop (S : Sto) (n w : Nat) (hn : n < 2 ^ w) : ∀ (k j : Nat), j + k = w → ∃ r : Nat, mWhile sh_bits_low_run_c1 sh_bits_low_run_w1 [some (.d (.int ((n / 2 ^ j : Nat) : Int))), some (.d (.int j))] S = some (.nx [some (.d (.int r)), some (.d (.int (runF n.testBit k j : Nat)))], S) := by
  intro k
  induction k with
  | zero =>
    intro j e
    have e0 : n / 2 ^ j = 0 := Nat.div_eq_of_lt (by rw [show j = w by omega]; exact hn)
    refine ⟨0, ?_⟩
    rw [mWhile_eq, e0]
    simp [sh_bits_low_run_c1_e, runF, bitAnd_m1]
  | succ k ih =>
    intro j e
    have e1 : ((n / 2 ^ j : Nat) : Int) % 2 = ((n.testBit j).toNat : Int) := by
      have := bit_mod n j
      omega
    rw [mWhile_eq, runF]
    cases hb : n.testBit j with
    | false =>
      refine ⟨n / 2 ^ j, ?_⟩
      rw [hb] at e1
      simp only [sh_bits_low_run_c1_e, mB_e, mBin_e, mVar_e, mC_e, env_0, Option.bind_some, Option.map_some, andW_ii, bitAnd_m1, e1]
      simp
    | true =>
      obtain ⟨r, hr⟩ := ih (j + 1) (by omega)
      refine ⟨r, ?_⟩
      rw [hb] at e1
      have e2 : ((n / 2 ^ j : Nat) : Int) / 2 = ((n / 2 ^ (j + 1) : Nat) : Int) := by
        rw [Nat.pow_succ, ← Nat.div_div_eq_div_mul]; omega
      have e3 : ((j : Int) + 1) = ((j + 1 : Nat) : Int) := by omega
      simp only [sh_bits_low_run_c1_e, mB_e, mBin_e, mVar_e, mC_e, env_0, Option.bind_some, Option.map_some, andW_ii, bitAnd_m1, e1]
      simp (disch := omega) only [Bool.toNat_true, eqW_ii, decide_true, Int.natCast_one, if_true, sh_bits_low_run_w1_e, mSeq_e, mAug_e, mAsg_e, mBin_e, mVar_e, mC_e, env_0, env_S, Option.bind_some, Option.map_some, augW_ii, List.set_cons_zero, List.set_cons_succ, shrW_e, show (1 : Int).toNat = 1 from rfl, Int.pow_one, e2, e3, hr]
theorem low_e (S : Sto) (n w : Nat) (hn : n < 2 ^ w) : sh_bits_low_run [.d (.int n)] S = some (.int (runF n.testBit w 0 : Nat), S) := by
  obtain ⟨r, h⟩ := low_loop S n w hn w 0 (by omega)
  simp only [Nat.pow_zero, Nat.div_one] at h
  simp at h
  simp [sh_bits_low_run, mDef, h]
theorem fi0 (S : Sto) (f : Fct) : ixW (.d f.toD) (.d (.int 0)) S = some (.int (f.z : Int)) := rfl
theorem fi1 (S : Sto) (f : Fct) : ixW (.d f.toD) (.d (.int 1)) S = some (.int (f.o : Int)) := rfl
theorem fi2 (S : Sto) (f : Fct) : ixW (.d f.toD) (.d (.int 2)) S = some (.int (f.k : Int)) := rfl
theorem fctD (a b c : Nat) : PyData.tuple [.int (a : Int), .int (b : Int), .int (c : Int)] = (Fct.mk a b c).toD := rfl
theorem nix0 (S : Sto) (a : Nat) (t : List Nat) : ixW (.d (.tuple ((a :: t).map natD))) (.d (.int 0)) S = some (.int (a : Int)) := by
  rw [ixW_t, atI_pos (by omega)]; rfl
theorem nix1 (S : Sto) (a b : Nat) (t : List Nat) : ixW (.d (.tuple ((a :: b :: t).map natD))) (.d (.int 1)) S = some (.int (b : Int)) := by
  rw [ixW_t, atI_pos (by omega)]; rfl
theorem fix0 (S : Sto) (a : Fct) (t : List Fct) : ixW (.d (.tuple ((a :: t).map Fct.toD))) (.d (.int 0)) S = some a.toD := by
  rw [ixW_t, atI_pos (by omega)]; rfl
theorem fix1 (S : Sto) (a b : Fct) (t : List Fct) : ixW (.d (.tuple ((a :: b :: t).map Fct.toD))) (.d (.int 1)) S = some b.toD := by
  rw [ixW_t, atI_pos (by omega)]; rfl
theorem memW3 (S : Sto) (a x y z : Wd) : memW (.d (wD a)) (.d (.tuple [wD x, wD y, wD z])) S = some (decide (a = x ∨ a = y ∨ a = z)) := by
  rw [show [wD x, wD y, wD z] = [x, y, z].map wD from rfl, memW_ws]
  simp
theorem stretched_e (S : Sto) (n w W : Nat) (hw : 1 ≤ w) (hW : w ≤ W) (h : W ≤ 1000000) : sh_bits_stretched [.d (.int (n : Int)), .d (.int (w : Int)), .d (.int (W : Int))] S = some (.int (strN n w W : Nat), S) := by
  have e1 : ((w : Int) - 1).toNat = w - 1 := by omega
  have hp := pow_pos' w
  have hq : 2 ^ w ≤ 2 ^ W := Nat.pow_le_pow_right (by decide) hW
  simp (disch := omega) [sh_bits_stretched, mDef, shrW_e, subW, full_e, e1, bit_and]
  unfold strN
  cases n.testBit (w - 1)
  · simp
  · simp
    omega
theorem top_loop (S : Sto) (n w : Nat) (hw : w ≤ 100000) : ∀ (k j : Nat), j + k = w → mWhile sh_bits_top_run_c1 sh_bits_top_run_w1 [some (.d (.int n)), some (.d (.int w)), some (.d (.int j))] S = some (.nx [some (.d (.int n)), some (.d (.int w)), some (.d (.int (runF (fun i => n.testBit (w - 1 - i)) k j : Nat)))], S) := by
  intro k
  induction k with
  | zero =>
    intro j e
    have : ¬ j < w := by omega
    rw [mWhile_eq]
    simp [sh_bits_top_run_c1_e, runF, this]
  | succ k ih =>
    intro j e
    have h1 : j < w := by omega
    have e1 : ((w : Int) - 1 - j).toNat = w - 1 - j := by omega
    have ih' := ih (j + 1) (by omega)
    rw [mWhile_eq, runF]
    simp (disch := omega) [sh_bits_top_run_c1_e, h1, shrW_e, e1, bit_and, bool_one]
    cases hb : n.testBit (w - 1 - j) with
    | false => simp
    | true =>
      simp [sh_bits_top_run_w1_e]
      simpa using ih'
theorem top_e (S : Sto) (n w : Nat) (hw : w ≤ 100000) : sh_bits_top_run [.d (.int n), .d (.int w)] S = some (.int (runT n w : Nat), S) := by
  have h := top_loop S n w hw w 0 (by omega)
  simp at h
  simp [sh_bits_top_run, mDef, h, runT]
theorem topL_loop (S : Sto) (n w : Nat) (hw : w ≤ 100000) : ∀ (k j : Nat), j + k = w → mWhile sh_L_top_run_c1 sh_L_top_run_w1 [some (.d (.int n)), some (.d (.int w)), some (.d (.int j))] S = some (.nx [some (.d (.int n)), some (.d (.int w)), some (.d (.int (runF (fun i => n.testBit (w - 1 - i)) k j : Nat)))], S) := by
  intro k
  induction k with
  | zero =>
    intro j e
    have : ¬ j < w := by omega
    rw [mWhile_eq]
    simp [sh_L_top_run_c1_e, runF, this]
  | succ k ih =>
    intro j e
    have h1 : j < w := by omega
    have e1 : ((w : Int) - 1 - j).toNat = w - 1 - j := by omega
    have ih' := ih (j + 1) (by omega)
    rw [mWhile_eq, runF]
    simp (disch := omega) [sh_L_top_run_c1_e, h1, shrW_e, e1, bit_and, bool_one]
    cases hb : n.testBit (w - 1 - j) with
    | false => simp
    | true =>
      simp [sh_L_top_run_w1_e]
      simpa using ih'
theorem topL_e (S : Sto) (n w : Nat) (hw : w ≤ 100000) : sh_L_top_run [.d (.int n), .d (.int w)] S = some (.int (runT n w : Nat), S) := by
  have h := topL_loop S n w hw w 0 (by omega)
  simp at h
  simp [sh_L_top_run, mDef, h, runT]
theorem pow1_int (w : Nat) : (2 : Int) ^ w - 1 = ((2 ^ w - 1 : Nat) : Int) := by have := pow_pos' w; rw [pow_nat]; omega
theorem maxI (a b : Nat) : (if (a : Int) < (b : Int) then (b : Int) else (a : Int)) = ((max a b : Nat) : Int) := by split <;> omega
theorem alike_e (S : Sto) (v w : Nat) (hw : w ≤ 64) (hv : v < 2 ^ w) : sh_L_alike [.d (.int v), .d (.int w)] S = some (.int (alikeN v w : Nat), S) := by
  have e1 : ((2 ^ w - 1 : Nat) : Int) - (v : Int) = ((2 ^ w - 1 - v : Nat) : Int) := by omega
  have t1 := topL_e S v w (by omega)
  have t2 := topL_e S (2 ^ w - 1 - v) w (by omega)
  simp (disch := omega) [sh_L_alike, mDef, shlW_1, pow1_int, e1, t1, t2, alikeN]
  split <;> omega
/-- a drawn fact that holds of the drawn number -/
theorem fact_e (S : Sto) (ns : List Int) (n B w : Nat) (h : Rd ns n B S) (hB : B + 13 ≤ 1000000000) (h1 : 1 ≤ w) (h2 : w ≤ 64) :
    ∃ (f : Fct) (v : Nat) (S' : Sto), f.wf w ∧ v < 2 ^ w ∧ f.holds v w ∧ sh_L_fact [.r n, .d (.int w)] S = some (.tuple [natD f.z, natD f.o, natD f.k, natD v], S') ∧ Rd ns n (B + 13) S' ∧ Oth n S S' := by
  obtain ⟨v, S1, hv, e1, r1, o1⟩ := num_e S ns n B w h (by omega) h1 h2
  obtain ⟨k0, S2, hk0, e2, r2, o2⟩ := num_e S1 ns n (B + 5) w r1 (by omega) h1 h2
  obtain ⟨t, S3, ht, e3, r3, o3⟩ := draw_e S2 ns n (B + 5 + 5) 3 r2 (by omega) (by omega) (by omega)
  have ap := alikeN_pos h1 hv
  have al := alikeN_le v w
  obtain ⟨c, S4, hc, e4, r4, o4⟩ := draw_e S3 ns n (B + 5 + 5 + 1) (alikeN v w : Nat) r3 (by omega) (by omega) (by omega)
  obtain ⟨d, S5, hd, e5, r5, o5⟩ := draw_e S4 ns n (B + 5 + 5 + 1 + 1) 2 r4 (by omega) (by omega) (by omega)
  have o := (((o1.trans o2).trans o3).trans o4).trans o5
  have eal := alike_e S3 v w h2 hv
  have s1 : sh_L_fact_s1 [some (.r n), some (.d (.int w)), none, none, none] S = some (.nx [some (.r n), some (.d (.int w)), some (.d (.int v)), none, none], S1) := by simp [sh_L_fact_s1_e, e1]
  have s2 : sh_L_fact_s2 [some (.r n), some (.d (.int w)), some (.d (.int v)), none, none] S1 = some (.nx [some (.r n), some (.d (.int w)), some (.d (.int v)), some (.d (.int k0)), none], S2) := by simp [sh_L_fact_s2_e, e2]
  have s3 : ∃ k1 : Nat, k1 < 2 ^ w ∧ sh_L_fact_s3 [some (.r n), some (.d (.int w)), some (.d (.int v)), some (.d (.int k0)), none] S2 = some (.nx [some (.r n), some (.d (.int w)), some (.d (.int v)), some (.d (.int k1)), none], S3) := by
    by_cases c1 : t = 0
    · have hx : (2 ^ w - 1) ^^^ k0 < 2 ^ w := Nat.xor_lt_two_pow (by have := pow_pos' w; omega) hk0
      refine ⟨(2 ^ w - 1) ^^^ k0, hx, ?_⟩
      subst c1
      simp at e3
      have ex := xor_nat (2 ^ w - 1) k0
      simp (disch := omega) [sh_L_fact_s3_e, e3, shlW_1, pow1_int, ex]
    · exact ⟨k0, hk0, by simp [sh_L_fact_s3_e, e3, c1]⟩
  obtain ⟨k1, hk1, s3⟩ := s3
  have s4 : ∃ k : Nat, 1 ≤ k ∧ k ≤ alikeN v w ∧ sh_L_fact_s4 [some (.r n), some (.d (.int w)), some (.d (.int v)), some (.d (.int k1)), none] S3 = some (.nx [some (.r n), some (.d (.int w)), some (.d (.int v)), some (.d (.int k1)), some (.d (.int k))], S5) := by
    have hdd : d = 0 ∨ d = 1 := by omega
    rcases hdd with rfl | rfl
    · exact ⟨1, by omega, ap, by simp at e5; simp [sh_L_fact_s4_e, eal, e4, e5]⟩
    · exact ⟨1 + c, by omega, by omega, by simp at e5; simp [sh_L_fact_s4_e, eal, e4, e5]⟩
  obtain ⟨k, hka, hkb, s4⟩ := s4
  have hle : v &&& k1 ≤ k1 := Nat.and_le_right
  have hz : k1 - (v &&& k1) = andNot k1 v := by
    have := andNot_add k1 v
    rw [Nat.and_comm k1 v] at this
    omega
  have hzl : andNot k1 v < 2 ^ w := by rw [← hz]; omega
  refine ⟨⟨andNot k1 v, v &&& k1, k⟩, v, S5, ⟨hzl, by simp only; omega, hka, by simp only; omega⟩, hv, ⟨?_, ?_, hkb⟩, ?_, r5.mono (by omega), o⟩
  · simp only
    rw [and_zero_bits]
    intro i hi
    rw [andNot_bit] at hi
    simp at hi
    exact hi.2
  · simp only
    rw [and_self_bits]
    intro i hi
    rw [Nat.testBit_and] at hi
    simp at hi
    exact hi.1
  · have e6 : (k1 : Int) - ((v &&& k1 : Nat) : Int) = (andNot k1 v : Nat) := by omega
    have s5 : sh_L_fact_s5 [some (.r n), some (.d (.int w)), some (.d (.int v)), some (.d (.int k1)), some (.d (.int k))] S5 = some (.rt (.d (.tuple [natD (andNot k1 v), natD (v &&& k1), natD k, natD v])), S5) := by
      simp [sh_L_fact_s5_e, and_nat, e6, natD]
    simp only [sh_L_fact, mDef, mSeq_e, List.map_cons, List.map_nil, List.length_cons, List.length_nil]
    simp [s1, s2, s3, s4, s5, o.take]
theorem grow_eq (z w k : Nat) : (if z &&& topM w (w - k) = 0 then z else z ||| topM w (w - k)) = grow z w k := rfl
theorem max3I (a b c : Nat) : max (a : Int) (max (b : Int) (c : Int)) = ((max a (max b c) : Nat) : Int) := by omega
theorem closed_e (S : Sto) (f : Fct) (w : Nat) (hw : w ≤ 64) (hf : f.wf w) : sh_facts_closed [.d f.toD, .d (.int w)] S = some ((f.closed w).toD, S) := by
  obtain ⟨h1, h2, h3, h4⟩ := hf
  have e1 : (w : Int) - (f.k : Int) = ((w - f.k : Nat) : Int) := by omega
  have e2 := topM_int (w := w) (r := w - f.k) (by omega)
  have f1 := full_e S w (by omega)
  have f2 := full_e S (w - f.k) (by omega)
  have s12 : ∀ z o : Nat, (if z &&& topM w (w - f.k) = 0 then z else z ||| topM w (w - f.k)) = grow z w f.k := fun _ _ => rfl
  have t1 := top_e S (grow f.z w f.k) w (by omega)
  have t2 := top_e S (grow f.o w f.k) w (by omega)
  have g : ∀ z : Nat, (z &&& topM w (w - f.k) = 0 ∧ grow z w f.k = z) ∨ (¬ z &&& topM w (w - f.k) = 0 ∧ grow z w f.k = z ||| topM w (w - f.k)) := fun z => by
    by_cases c : z &&& topM w (w - f.k) = 0
    · exact .inl ⟨c, by rw [grow, if_pos c]⟩
    · exact .inr ⟨c, by rw [grow, if_neg c]⟩
  have ct : (f.closed w).toD = .tuple [natD (grow f.z w f.k), natD (grow f.o w f.k), natD (max f.k (max (runT (grow f.z w f.k) w) (runT (grow f.o w f.k) w)))] := rfl
  rw [ct]
  rcases g f.z with ⟨c1, g1⟩ | ⟨c1, g1⟩ <;> rcases g f.o with ⟨c2, g2⟩ | ⟨c2, g2⟩ <;> rw [g1] at t1 ⊢ <;> rw [g2] at t2 ⊢ <;>
    simp [sh_facts_closed, mDef, Fct.toD, natD, e1, f1, f2, e2, and_nat, or_nat, c1, c2, t1, t2, max3I]
theorem closedL_e (S : Sto) (f : Fct) (w : Nat) (hw : w ≤ 64) (hf : f.wf w) : sh_L_closed [.d f.toD, .d (.int w)] S = some ((f.closed w).toD, S) := by
  obtain ⟨h1, h2, h3, h4⟩ := hf
  have e1 : (w : Int) - (f.k : Int) = ((w - f.k : Nat) : Int) := by omega
  have e2 : (2 : Int) ^ w - 2 ^ (w - f.k) = (topM w (w - f.k) : Nat) := by
    have := Nat.pow_le_pow_right (n := 2) (by decide) (show w - f.k ≤ w by omega)
    unfold topM
    rw [pow_nat, pow_nat]
    omega
  have t1 := topL_e S (grow f.z w f.k) w (by omega)
  have t2 := topL_e S (grow f.o w f.k) w (by omega)
  have g : ∀ z : Nat, ((¬ 0 < z &&& topM w (w - f.k)) ∧ grow z w f.k = z) ∨ ((0 < z &&& topM w (w - f.k)) ∧ grow z w f.k = z ||| topM w (w - f.k)) := fun z => by
    by_cases c : z &&& topM w (w - f.k) = 0
    · exact .inl ⟨by omega, by rw [grow, if_pos c]⟩
    · exact .inr ⟨by omega, by rw [grow, if_neg c]⟩
  have ct : (f.closed w).toD = .tuple [natD (grow f.z w f.k), natD (grow f.o w f.k), natD (max f.k (max (runT (grow f.z w f.k) w) (runT (grow f.o w f.k) w)))] := rfl
  rw [ct]
  rcases g f.z with ⟨c1, g1⟩ | ⟨c1, g1⟩ <;> rcases g f.o with ⟨c2, g2⟩ | ⟨c2, g2⟩ <;> rw [g1] at t1 ⊢ <;> rw [g2] at t2 ⊢ <;>
    simp (disch := omega) [sh_L_closed, mDef, Fct.toD, natD, shlW_1, e1, e2, and_nat, or_nat, c1, c2, t1, t2, max3I, -Nat.not_lt]
theorem shared_e (S : Sto) (a b w : Nat) (hw : w ≤ 1000) (ha : a < 2 ^ w) (hb : b < 2 ^ w) : sh_bits_shared_top [.d (.int a), .d (.int b), .d (.int w)] S = some (.tuple [.int (andNot (topM w (shR a b)) a : Nat), .int (topM w (shR a b) &&& a : Nat)], S) := by
  have hr := shR_le ha hb
  have hr' : reachN (a ^^^ b) ≤ 1000000 := Nat.le_trans hr (by omega)
  have e1 : ((2 ^ w - 1 : Nat) : Int) - ((2 ^ reachN (a ^^^ b) - 1 : Nat) : Int) = (topM w (shR a b) : Nat) := topM_int hr
  have e2 := andNot_self_top w (shR a b) a
  simp (disch := omega) [sh_bits_shared_top, mDef, full_e, xor_nat, below_e _ _ hr', e1, and_nat, e2]
theorem least_e (S : Sto) (f : Fct) : sh_facts_least [.d f.toD] S = some (.int (f.o : Int), S) := by simp only [sh_facts_least, mDef, mRet_e, mBin_e, mVar_e, mC_e, List.map_cons, List.map_nil, List.length_cons, List.length_nil, List.cons_append, List.nil_append, env_0, Option.bind_some, Option.map_some, fi1, toD_d, List.take_length]
theorem greatest_e (S : Sto) (f : Fct) (w : Nat) (hw : w ≤ 64) : sh_facts_greatest [.d f.toD, .d (.int w)] S = some (.int (((2 ^ w - 1 : Nat) : Int) - (f.z : Int)), S) := by simp (disch := omega) [sh_facts_greatest, mDef, Fct.toD, natD, full_e]
def ansD : Option Bool → PyData
  | none => .none
  | some b => .int (b.toNat : Int)
theorem truth_e (S : Sto) (a : Option Bool) : sh_rules_truth [.d (ansD a)] S = some ((truthF a).toD, S) := by
  match a with
  | none =>
    have e0 : PyData.tuple [.int 0, .int 0, .int 1] = (Fct.mk 0 0 1).toD := rfl
    simp [sh_rules_truth, mDef, ansD, truthF, e0]
  | some true =>
    have e0 : PyData.tuple [.int 0, .int 1, .int 1] = (Fct.mk 0 1 1).toD := rfl
    simp [sh_rules_truth, mDef, ansD, truthF, e0]
  | some false =>
    have e0 : PyData.tuple [.int 1, .int 0, .int 1] = (Fct.mk 1 0 1).toD := rfl
    simp [sh_rules_truth, mDef, ansD, truthF, e0]
theorem less_known_e (S : Sto) (f g : Fct) (w : Nat) (hw : w ≤ 64) : sh_rules_less_known [.d f.toD, .d g.toD, .d (.int w)] S = some (ansD (lessA (f.o : Int) ((2 ^ w - 1 : Nat) - (f.z : Int)) (g.o : Int) ((2 ^ w - 1 : Nat) - (g.z : Int))), S) := by
  have q1 : ∀ f : Fct, sh_facts_least [.d f.toD] S = some (.int (f.o : Int), S) := fun f => by simp only [sh_facts_least, mDef, mRet_e, mBin_e, mVar_e, mC_e, List.map_cons, List.map_nil, List.length_cons, List.length_nil, List.cons_append, List.nil_append, env_0, Option.bind_some, Option.map_some, fi1, toD_d, List.take_length]
  have q2 : ∀ f : Fct, sh_facts_greatest [.d f.toD, .d (.int w)] S = some (.int ((2 ^ w - 1 : Nat) - (f.z : Int)), S) := fun f => by simp (disch := omega) [sh_facts_greatest, mDef, Fct.toD, natD, full_e]
  unfold lessA
  by_cases c1 : ((2 ^ w - 1 : Nat) : Int) - (f.z : Int) < (g.o : Int)
  · rw [if_pos c1]
    simp only [sh_rules_less_known, mDef, mSeq_e, mIfS_e, mB_e, mBin_e, mCall_e, mCons_e, mNil_e, mVar_e, mC_e, mRet_e, List.map_cons, List.map_nil, List.length_cons, List.length_nil, List.replicate, Nat.reduceSub, List.cons_append, List.nil_append, env_0, env_S, Option.bind_some, Option.map_some, q1, q2, cmpOp_e, c1, decide_true, if_true, toD_d, List.take_length]
    rfl
  · rw [if_neg c1]
    by_cases c2 : ((2 ^ w - 1 : Nat) : Int) - (g.z : Int) ≤ (f.o : Int)
    · rw [if_pos c2]
      simp only [sh_rules_less_known, mDef, mSeq_e, mIfS_e, mB_e, mBin_e, mCall_e, mCons_e, mNil_e, mVar_e, mC_e, mRet_e, mSkip_e, List.map_cons, List.map_nil, List.length_cons, List.length_nil, List.replicate, Nat.reduceSub, List.cons_append, List.nil_append, env_0, env_S, Option.bind_some, Option.map_some, q1, q2, cmpOp_e, c1, c2, decide_true, decide_false, Bool.false_eq_true, if_false, if_true, toD_d, List.take_length]
      rfl
    · rw [if_neg c2]
      simp only [sh_rules_less_known, mDef, mSeq_e, mIfS_e, mB_e, mBin_e, mCall_e, mCons_e, mNil_e, mVar_e, mC_e, mRet_e, mSkip_e, List.map_cons, List.map_nil, List.length_cons, List.length_nil, List.replicate, Nat.reduceSub, List.cons_append, List.nil_append, env_0, env_S, Option.bind_some, Option.map_some, q1, q2, cmpOp_e, c1, c2, decide_false, Bool.false_eq_true, if_false, toD_d, List.take_length]
      rfl
theorem top_turned_e (S : Sto) (f : Fct) (w : Nat) (h1 : 1 ≤ w) (h2 : w ≤ 64) : sh_rules_top_turned [.d f.toD, .d (.int w)] S = some ((turnF f w).toD, S) := by
  have k1 : ((w : Int) - 1).toNat = w - 1 := by omega
  have x0 := and_nat (f.z ||| f.o) (2 ^ (w - 1))
  rw [PySem.W.kbt_cast] at x0
  have x1 := xor_nat f.z ((f.z ||| f.o) &&& 2 ^ (w - 1))
  have x2 := xor_nat f.o ((f.z ||| f.o) &&& 2 ^ (w - 1))
  have e0 : (turnF f w).toD = .tuple [.int ((f.z ^^^ ((f.z ||| f.o) &&& 2 ^ (w - 1)) : Nat) : Int), .int ((f.o ^^^ ((f.z ||| f.o) &&& 2 ^ (w - 1)) : Nat) : Int), .int (f.k : Int)] := rfl
  rw [e0]
  simp (disch := omega) [sh_rules_top_turned, mDef, Fct.toD, natD, shlW_1, k1, or_nat, x0, x1, x2]
theorem rcompared_e (S : Sto) (wd : Wd) (f g : Fct) (w : Nat) (h1 : 1 ≤ w) (h2 : w ≤ 64) (hf : f.good w) (hg : g.good w) (hw : wd = .same ∨ wd = .less ∨ wd = .under) :
    sh_rules_compared [.d (wD wd), .d f.toD, .d g.toD, .d (.int w)] S = some (ansD (cmpA wd f g w), S) := by
  rcases hw with rfl | rfl | rfl
  · have fe := full_e S w (by omega)
    unfold cmpA
    simp only
    by_cases c1 : (f.z &&& g.o) ||| (f.o &&& g.z) = 0
    · by_cases c2 : (f.z ||| f.o) &&& (g.z ||| g.o) = 2 ^ w - 1
      · simp [sh_rules_compared, mDef, Fct.toD, natD, and_nat, or_nat, c1, c2, fe, ansD]
      · have c2' : ¬ (((f.z ||| f.o) &&& (g.z ||| g.o) : Nat) : Int) = ((2 ^ w - 1 : Nat) : Int) := by omega
        simp [sh_rules_compared, mDef, Fct.toD, natD, and_nat, or_nat, c1, c2, c2', fe, ansD]
    · simp [sh_rules_compared, mDef, Fct.toD, natD, and_nat, or_nat, c1, ansD]
  · have l := less_known_e S f g w h2
    have e : cmpA .less f g w = lessA (f.o : Int) ((2 ^ w - 1 : Nat) - (f.z : Int)) (g.o : Int) ((2 ^ w - 1 : Nat) - (g.z : Int)) := rfl
    rw [e]
    simp [sh_rules_compared, mDef, l]
  · have t1 := top_turned_e S f w h1 h2
    have t2 := top_turned_e S g w h1 h2
    have l := less_known_e S (turnF f w) (turnF g w) w h2
    have e : cmpA .under f g w = lessA ((turnF f w).o : Int) ((2 ^ w - 1 : Nat) - ((turnF f w).z : Int)) ((turnF g w).o : Int) ((2 ^ w - 1 : Nat) - ((turnF g w).z : Int)) := by
      unfold cmpA
      simp only
      rw [ends_turn f w h1 hf, ends_turn g w h1 hg, lessA_shift]
    rw [e]
    simp [sh_rules_compared, mDef, t1, t2, l]
theorem picked_e (S : Sto) (t f g : Fct) : sh_rules_picked [.d t.toD, .d f.toD, .d g.toD] S = some ((pickF t f g).toD, S) := by
  have mn : (if (g.k : Int) < (f.k : Int) then (g.k : Int) else (f.k : Int)) = ((min f.k g.k : Nat) : Int) := by split <;> omega
  unfold pickF
  by_cases c1 : t.o = 1
  · rw [if_pos c1]
    simp [sh_rules_picked, mDef, Fct.toD, natD, c1]
  · rw [if_neg c1]
    have c1' : ¬ (t.o : Int) = 1 := by omega
    by_cases c2 : t.z = 1
    · rw [if_pos c2]
      simp [sh_rules_picked, mDef, Fct.toD, natD, c1', c2]
    · rw [if_neg c2]
      have c2' : ¬ (t.z : Int) = 1 := by omega
      simp [sh_rules_picked, mDef, Fct.toD, natD, c1', c2', and_nat]
      split <;> omega
theorem minI (a b : Nat) : (if (b : Int) < (a : Int) then (b : Int) else (a : Int)) = ((min a b : Nat) : Int) := by split <;> omega
theorem reckoned_e (S : Sto) (wd : Wd) (a b : Int) (hw : wd = .add ∨ wd = .sub ∨ wd = .mul) (h1 : -(2 ^ 64) < b) (h2 : b < 2 ^ 64) : sh_sums_reckoned [.d (wD wd), .d (.int a), .d (.int b)] S = some (.int (recI wd a b), S) := by
  have m := mulW_r (S := S) a b h1 h2
  rcases hw with rfl | rfl | rfl <;> simp [sh_sums_reckoned, mDef, recI, m]
theorem low_bits_e (S : Sto) (wd : Wd) (f g : Fct) (w : Nat) (hw : wd = .add ∨ wd = .sub ∨ wd = .mul) (h64 : w ≤ 64) (hf : f.wf w) (hg : g.wf w) :
    sh_sums_low_bits [.d (wD wd), .d f.toD, .d g.toD] S = some (.tuple [natD (2 ^ lowK f g - 1 - lowO wd f g), natD (lowO wd f g)], S) := by
  have lt64 : ∀ {a : Nat}, a < 2 ^ w → a < 2 ^ 64 := fun h => Nat.lt_of_lt_of_le h (Nat.pow_le_pow_right (by decide) h64)
  have o1 := or_nat f.z f.o
  have o2 := or_nat g.z g.o
  have a1 := and_nat (f.z ||| f.o) (g.z ||| g.o)
  have hn : (f.z ||| f.o) &&& (g.z ||| g.o) < 2 ^ 64 := Nat.lt_of_le_of_lt Nat.and_le_left (Nat.or_lt_two_pow (lt64 hf.1) (lt64 hf.2.1))
  have lo := low_e S _ 64 hn
  have ek : runF ((f.z ||| f.o) &&& (g.z ||| g.o)).testBit 64 0 = lowK f g := rfl
  rw [ek] at lo
  have hk : lowK f g ≤ 64 := lowR_le64 _
  have fe := full_e S (lowK f g) (by omega)
  have g64 := lt64 hg.2.1
  have re := reckoned_e S wd (f.o : Int) (g.o : Int) hw (by omega) (by omega)
  have mk := mask_nat (lowK f g) (recI wd f.o g.o)
  rw [← lowO_int] at mk
  have hl := lowO_lt wd f g
  have es : ((2 ^ lowK f g - 1 : Nat) : Int) - ((lowO wd f g : Nat) : Int) = ((2 ^ lowK f g - 1 - lowO wd f g : Nat) : Int) := by omega
  have ll : Ok ((2 : Nat) ≤ LIM) := by show (2 : Nat) ≤ 1000000; omega
  simp only [sh_sums_low_bits, mDef, mSeq_e, mAsg_e, mRet_e, mCall_e, mTup_e, mCons_e, mNil_e, mBin_e, mVar_e, mC_e, List.map_cons (f := some), List.map_nil (f := some), List.length_cons (α := W), List.length_nil (α := W), List.replicate, Nat.reduceSub, Nat.reduceAdd, List.cons_append, List.nil_append, env_0, env_S, Option.bind_some, Option.map_some, fi0, fi1, orW_ii, o1, o2, andW_ii, a1, lo, fe, List.set_cons_zero, List.set_cons_succ, least_e, re, mk, subW_ii, es, toDs_cons, toDs_nil, toD_d, List.length_cons (α := PyData), List.length_nil (α := PyData), ll, if_true, List.take_length, natD]
theorem sends_e (S : Sto) (wd : Wd) (f g : Fct) (w : Nat) (hw : wd = .add ∨ wd = .sub ∨ wd = .mul) (h64 : w ≤ 64) (hf : f.wf w) (hg : g.wf w) :
    sh_sums_ends [.d (wD wd), .d f.toD, .d g.toD, .d (.int (w : Int))] S = some (.tuple [.int (endI wd f g w).1, .int (endI wd f g w).2], S) := by
  have lt64 : ∀ {a : Nat}, a < 2 ^ w → a < 2 ^ 64 := fun h => Nat.lt_of_lt_of_le h (Nat.pow_le_pow_right (by decide) h64)
  have hp : 2 ^ w ≤ 2 ^ 64 := Nat.pow_le_pow_right (by decide) h64
  have q1 := lt64 hg.1
  have q2 := lt64 hg.2.1
  have g1 := greatest_e S f w h64
  have g2 := greatest_e S g w h64
  have r1 := reckoned_e S wd (f.o : Int) (g.o : Int) hw (by omega) (by omega)
  have r2 := reckoned_e S wd (((2 ^ w - 1 : Nat) : Int) - f.z) (((2 ^ w - 1 : Nat) : Int) - g.z) hw (by omega) (by omega)
  have r3 := reckoned_e S wd (f.o : Int) (((2 ^ w - 1 : Nat) : Int) - g.z) hw (by omega) (by omega)
  have r4 := reckoned_e S wd (((2 ^ w - 1 : Nat) : Int) - f.z) (g.o : Int) hw (by omega) (by omega)
  rcases hw with rfl | rfl | rfl
  · simp [sh_sums_ends, mDef, least_e, g1, g2, r1, r2, endI]
  · simp [sh_sums_ends, mDef, least_e, g1, g2, r3, r4, endI, recI]
  · simp [sh_sums_ends, mDef, least_e, g1, g2, r1, r2, endI]
theorem top_bits_e (S : Sto) (wd : Wd) (f g : Fct) (w : Nat) (hw : wd = .add ∨ wd = .sub ∨ wd = .mul) (h64 : w ≤ 64) (hf : f.wf w) (hg : g.wf w) (hlo : (endI wd f g w).1 ≤ (endI wd f g w).2) :
    sh_sums_top_bits [.d (wD wd), .d f.toD, .d g.toD, .d (.int (w : Int))] S = some (.tuple [natD (topF wd f g w).1, natD (topF wd f g w).2], S) := by
  have e1 := sends_e S wd f g w hw h64 hf hg
  have fe := full_e S w (by omega)
  have hp := pow_pos' w
  unfold topF
  generalize (endI wd f g w).1 = lo at *
  generalize (endI wd f g w).2 = hi at *
  by_cases c1 : lo < 0
  · rw [if_pos (.inl c1)]
    simp [sh_sums_top_bits, mDef, e1, c1, natD]
  · by_cases c2 : ((2 ^ w - 1 : Nat) : Int) < hi
    · rw [if_pos (.inr c2)]
      simp [sh_sums_top_bits, mDef, e1, c1, fe, c2, natD]
    · rw [if_neg (by omega)]
      have se := shared_e S lo.toNat hi.toNat w (by omega) (by omega) (by omega)
      have k1 : ((lo.toNat : Nat) : Int) = lo := by omega
      have k2 : ((hi.toNat : Nat) : Int) = hi := by omega
      rw [k1, k2] at se
      simp [sh_sums_top_bits, mDef, e1, c1, fe, c2, natD, se]
theorem low_noughts_e (S : Sto) (wd : Wd) (f g : Fct) (w : Nat) (hw : wd = .add ∨ wd = .sub ∨ wd = .mul) (h64 : w ≤ 64) (hf : f.wf w) (hg : g.wf w) :
    sh_sums_low_noughts [.d (wD wd), .d f.toD, .d g.toD, .d (.int (w : Int))] S = some (.int ((lowZ wd f g w : Nat) : Int), S) := by
  have lt64 : ∀ {a : Nat}, a < 2 ^ w → a < 2 ^ 64 := fun h => Nat.lt_of_lt_of_le h (Nat.pow_le_pow_right (by decide) h64)
  have l1 := low_e S f.z 64 (lt64 hf.1)
  have l2 := low_e S g.z 64 (lt64 hg.1)
  have k1 : runF f.z.testBit 64 0 = lowR f.z := rfl
  have k2 : runF g.z.testBit 64 0 = lowR g.z := rfl
  rw [k1] at l1
  rw [k2] at l2
  have mi := minI w (lowR f.z + lowR g.z)
  rw [Int.natCast_add] at mi
  have fe := full_e S (min w (lowR f.z + lowR g.z)) (by omega)
  rcases hw with rfl | rfl | rfl
  · simp [sh_sums_low_noughts, mDef, lowZ]
  · simp [sh_sums_low_noughts, mDef, lowZ]
  · simp only [sh_sums_low_noughts, mDef, mSeq_e, mIfS_e, mB_e, mBin_e, mVar_e, mC_e, mRet_e, mCall_e, mBi_e, mCons_e, mNil_e, mSkip_e, List.map_cons (f := some), List.map_nil (f := some), List.length_cons (α := W), List.length_nil (α := W), List.replicate, Nat.reduceSub, Nat.reduceAdd, List.cons_append, List.nil_append, env_0, env_S, Option.bind_some, Option.map_some, wc_mul, neW_ww, decide_true, Bool.not_true, Bool.false_eq_true, if_false, fi0, l1, l2, addW_ii, int2_e, mi, fe, toD_d, List.take_length, lowZ]
theorem alike_sum_e (S : Sto) (wd : Wd) (f g : Fct) (w : Nat) (hw : wd = .add ∨ wd = .sub ∨ wd = .mul) (hf : f.wf w) (hg : g.wf w) :
    sh_sums_alike_of_sum [.d (wD wd), .d f.toD, .d g.toD] S = some (.int ((sumF wd f g w).k : Int), S) := by
  have mi := minI f.k g.k
  have mx : (if (1 : Int) < ((min f.k g.k : Nat) : Int) - 1 then ((min f.k g.k : Nat) : Int) - 1 else 1) = ((max 1 (min f.k g.k - 1) : Nat) : Int) := by split <;> omega
  rcases hw with rfl | rfl | rfl
  · simp only [sh_sums_alike_of_sum, mDef, mSeq_e, mIfS_e, mB_e, mBin_e, mVar_e, mC_e, mRet_e, mBi_e, mCons_e, mNil_e, mSkip_e, List.map_cons (f := some), List.map_nil (f := some), List.length_cons (α := W), List.length_nil (α := W), List.replicate, Nat.reduceSub, Nat.reduceAdd, List.cons_append, List.nil_append, env_0, env_S, Option.bind_some, Option.map_some, wc_mul, eqW_ww, reduceCtorEq, decide_false, Bool.false_eq_true, if_false, fi2, int2_e, gt_iff_lt, mi, subW_ii, mx, toD_d, List.take_length, sumF]
  · simp only [sh_sums_alike_of_sum, mDef, mSeq_e, mIfS_e, mB_e, mBin_e, mVar_e, mC_e, mRet_e, mBi_e, mCons_e, mNil_e, mSkip_e, List.map_cons (f := some), List.map_nil (f := some), List.length_cons (α := W), List.length_nil (α := W), List.replicate, Nat.reduceSub, Nat.reduceAdd, List.cons_append, List.nil_append, env_0, env_S, Option.bind_some, Option.map_some, wc_mul, eqW_ww, reduceCtorEq, decide_false, Bool.false_eq_true, if_false, fi2, int2_e, gt_iff_lt, mi, subW_ii, mx, toD_d, List.take_length, sumF]
  · simp [sh_sums_alike_of_sum, mDef, sumF]
theorem sum_fact_e (S : Sto) (wd : Wd) (f g : Fct) (w : Nat) (hw : wd = .add ∨ wd = .sub ∨ wd = .mul) (h64 : w ≤ 64) (hf : f.wf w) (hg : g.wf w) (hlo : (endI wd f g w).1 ≤ (endI wd f g w).2) :
    sh_sums_sum_fact [.d (wD wd), .d f.toD, .d g.toD, .d (.int (w : Int))] S = some ((sumF wd f g w).toD, S) := by
  have e1 := low_bits_e S wd f g w hw h64 hf hg
  have e2 := top_bits_e S wd f g w hw h64 hf hg hlo
  have e3 := low_noughts_e S wd f g w hw h64 hf hg
  have e4 := alike_sum_e S wd f g w hw hf hg
  have n0 : ∀ a b : Nat, ixW (.d (.tuple [natD a, natD b])) (.d (.int 0)) S = some (.int (a : Int)) := fun a b => rfl
  have n1 : ∀ a b : Nat, ixW (.d (.tuple [natD a, natD b])) (.d (.int 1)) S = some (.int (b : Int)) := fun a b => rfl
  have o1 := or_nat (2 ^ lowK f g - 1 - lowO wd f g) (topF wd f g w).1
  have o2 := or_nat (2 ^ lowK f g - 1 - lowO wd f g ||| (topF wd f g w).1) (lowZ wd f g w)
  have o3 := or_nat (lowO wd f g) (topF wd f g w).2
  have ll : Ok ((3 : Nat) ≤ LIM) := by show (3 : Nat) ≤ 1000000; omega
  have fd : PyData.tuple [.int (((2 ^ lowK f g - 1 - lowO wd f g ||| (topF wd f g w).1) ||| lowZ wd f g w : Nat) : Int), .int ((lowO wd f g ||| (topF wd f g w).2 : Nat) : Int), .int ((sumF wd f g w).k : Int)] = (sumF wd f g w).toD := rfl
  simp only [sh_sums_sum_fact, mDef, mSeq_e, mAsg_e, mRet_e, mCall_e, mTup_e, mCons_e, mNil_e, mBin_e, mVar_e, mC_e, List.map_cons (f := some), List.map_nil (f := some), List.length_cons (α := W), List.length_nil (α := W), List.replicate, Nat.reduceSub, Nat.reduceAdd, List.cons_append, List.nil_append, env_0, env_S, Option.bind_some, Option.map_some, e1, e2, e3, e4, List.set_cons_zero, List.set_cons_succ, n0, n1, orW_ii, o1, o2, o3, toDs_cons, toDs_nil, toD_d, List.length_cons (α := PyData), List.length_nil (α := PyData), ll, if_true, fd, List.take_length]
theorem bitwise_e (S : Sto) (wd : Wd) (f g : Fct) : sh_rules_bitwise [.d (wD wd), .d f.toD, .d g.toD] S = some ((bitF wd f g).toD, S) := by
  have mi := minI f.k g.k
  have a1 := and_nat f.z g.z
  have a2 := and_nat f.o g.o
  have a3 := and_nat f.z g.o
  have a4 := and_nat f.o g.z
  have o1 := or_nat f.z g.z
  have o2 := or_nat f.o g.o
  have o3 := or_nat (f.z &&& g.z) (f.o &&& g.o)
  have o4 := or_nat (f.z &&& g.o) (f.o &&& g.z)
  by_cases c1 : wd = .and
  · subst c1
    have fd : PyData.tuple [.int ((f.z ||| g.z : Nat) : Int), .int ((f.o &&& g.o : Nat) : Int), .int ((min f.k g.k : Nat) : Int)] = (bitF .and f g).toD := rfl
    rw [← fd]
    simp [sh_rules_bitwise, mDef, fi0, fi1, fi2, a2, o1]
    split <;> omega
  · by_cases c2 : wd = .or
    · subst c2
      have fd : PyData.tuple [.int ((f.z &&& g.z : Nat) : Int), .int ((f.o ||| g.o : Nat) : Int), .int ((min f.k g.k : Nat) : Int)] = (bitF .or f g).toD := rfl
      rw [← fd]
      simp [sh_rules_bitwise, mDef, fi0, fi1, fi2, a1, o2]
      split <;> omega
    · have fd : PyData.tuple [.int (((f.z &&& g.z) ||| (f.o &&& g.o) : Nat) : Int), .int (((f.z &&& g.o) ||| (f.o &&& g.z) : Nat) : Int), .int ((min f.k g.k : Nat) : Int)] = (bitF wd f g).toD := by
        cases wd <;> first | rfl | exact absurd rfl c1 | exact absurd rfl c2
      rw [← fd]
      simp [sh_rules_bitwise, mDef, fi0, fi1, fi2, a1, a2, a3, a4, o3, o4, c1, c2]
      split <;> omega
theorem mxI (a : Nat) (z : Int) : (if (a : Int) < z then z else (a : Int)) = ((max a z.toNat : Nat) : Int) := by split <;> omega
theorem shifted_e (S : Sto) (r : Rw) (f : Fct) (w a k : Nat) (hw : r.word = .left ∨ r.word = .right ∨ r.word = .slide) (ho : r.ops = [a, k]) (hk : k ≤ 64) (h1 : 1 ≤ w) (h64 : w ≤ 64) (hf : f.wf w) :
    sh_rules_shifted [.d r.toD, .d (.int (w : Int)), .d f.toD] S = some ((shiftF r.word k w f).toD, S) := by
  have lt64 : ∀ {a : Nat}, a < 2 ^ w → a < 2 ^ 64 := fun h => Nat.lt_of_lt_of_le h (Nat.pow_le_pow_right (by decide) h64)
  have z64 := lt64 hf.1
  have o64 := lt64 hf.2.1
  have x3 := row_ix3 S r a k [] ho
  have pk := pow_nat k
  have ll : Ok ((3 : Nat) ≤ LIM) := by show (3 : Nat) ≤ 1000000; omega
  have fk := full_e S k (by omega)
  have fw := full_e S w (by omega)
  have fD : f.toD = .tuple [.int (f.z : Int), .int (f.o : Int), .int (f.k : Int)] := rfl
  have asg : ∀ (x0 x1 x6 x7 : Option W), mAsgT [3, 4, 5] (mVar 2) [x0, x1, some (.d f.toD), none, none, none, x6, x7] S = some (.nx [x0, x1, some (.d f.toD), some (.d (.int (f.z : Int))), some (.d (.int (f.o : Int))), some (.d (.int (f.k : Int))), x6, x7], S) := fun x0 x1 x6 x7 => rfl
  rcases hw with e | e | e
  · have sz : (f.z : Int) * 2 ^ k = ((f.z * 2 ^ k : Nat) : Int) := by rw [pk, Int.natCast_mul]
    have so : (f.o : Int) * 2 ^ k = ((f.o * 2 ^ k : Nat) : Int) := by rw [pk, Int.natCast_mul]
    have o1 := or_nat (f.z * 2 ^ k) (2 ^ k - 1)
    have m1 := mask_nat w ((f.z * 2 ^ k ||| (2 ^ k - 1) : Nat) : Int)
    have m2 := mask_nat w ((f.o * 2 ^ k : Nat) : Int)
    rw [mod_int] at m1 m2
    have mx := mxI 1 ((f.k : Int) - (k : Int))
    have ek : ((f.k : Int) - (k : Int)).toNat = f.k - k := by omega
    rw [ek] at mx
    have fd : PyData.tuple [.int (((f.z * 2 ^ k ||| (2 ^ k - 1)) % 2 ^ w : Nat) : Int), .int ((f.o * 2 ^ k % 2 ^ w : Nat) : Int), .int ((max 1 (f.k - k) : Nat) : Int)] = (shiftF r.word k w f).toD := by rw [e]; rfl
    simp (disch := omega) only [sh_rules_shifted, mDef, mSeq_e, asg, mAsg_e, mIfS_e, mB_e, mRet_e, mCall_e, mTup_e, mBi_e, mCons_e, mNil_e, mBin_e, mVar_e, mC_e, List.map_cons (f := some), List.map_nil (f := some), List.length_cons (α := W), List.length_nil (α := W), List.replicate, Nat.reduceSub, Nat.reduceAdd, List.cons_append, List.nil_append, env_0, env_S, Option.bind_some, Option.map_some, x3, List.set_cons_zero, List.set_cons_succ, row_ix0, wc_left, eqW_ww, e, decide_true, if_true, shlW_s, Int.toNat_natCast, sz, so, fk, orW_ii, o1, fw, andW_ii, m1, m2, subW_ii, int2_e, gt_iff_lt]
    have mx' : (if (1 : Int) < (f.k : Int) - (k : Int) then (f.k : Int) - (k : Int) else 1) = ((max 1 (f.k - k) : Nat) : Int) := mx
    rw [e] at fd
    simp only [mx', toDs_cons, toDs_nil, toD_d, List.length_cons (α := PyData), List.length_nil (α := PyData), Nat.reduceAdd, ll, if_true, fd, Option.bind_some, Option.map_some, List.take_length]
  · by_cases hk0 : k = 0
    · subst hk0
      have fd : shiftF r.word 0 w f = f := by rw [e]; rfl
      rw [fd]
      simp only [sh_rules_shifted, mDef, mSeq_e, asg, mAsg_e, mIfS_e, mB_e, mRet_e, mBin_e, mVar_e, mC_e, List.map_cons (f := some), List.map_nil (f := some), List.length_cons (α := W), List.length_nil (α := W), List.replicate, Nat.reduceSub, Nat.reduceAdd, List.cons_append, List.nil_append, env_0, env_S, Option.bind_some, Option.map_some, x3, List.set_cons_zero, List.set_cons_succ, row_ix0, wc_left, wc_slide, eqW_ww, e, reduceCtorEq, decide_false, Bool.false_eq_true, if_false, mSkip_e, eqW_ii, Int.natCast_zero, decide_true, if_true, toD_d, List.take_length]
    · have dz : (f.z : Int) / 2 ^ k = ((f.z / 2 ^ k : Nat) : Int) := by rw [pk, Int.natCast_ediv]
      have do' : (f.o : Int) / 2 ^ k = ((f.o / 2 ^ k : Nat) : Int) := by rw [pk, Int.natCast_ediv]
      have kn : ¬ ((k : Int) = 0) := by omega
      have mx' : (if (0 : Int) < (w : Int) - (k : Int) then (w : Int) - (k : Int) else 0) = ((w - k : Nat) : Int) := by split <;> omega
      have fwk := full_e S (w - k) (by omega)
      have tt := topM_int (w := w) (r := w - k) (by omega)
      have o1 := or_nat (f.z / 2 ^ k) (topM w (w - k))
      have fd : PyData.tuple [.int ((f.z / 2 ^ k ||| topM w (w - k) : Nat) : Int), .int ((f.o / 2 ^ k : Nat) : Int), .int 1] = (shiftF .right k w f).toD := by simp only [shiftF, if_neg hk0]; rfl
      simp (disch := omega) only [sh_rules_shifted, mDef, mSeq_e, asg, mAsg_e, mIfS_e, mB_e, mRet_e, mCall_e, mTup_e, mBi_e, mCons_e, mNil_e, mBin_e, mVar_e, mC_e, List.map_cons (f := some), List.map_nil (f := some), List.length_cons (α := W), List.length_nil (α := W), List.replicate, Nat.reduceSub, Nat.reduceAdd, List.cons_append, List.nil_append, env_0, env_S, Option.bind_some, Option.map_some, x3, List.set_cons_zero, List.set_cons_succ, row_ix0, wc_left, wc_slide, eqW_ww, e, reduceCtorEq, decide_false, Bool.false_eq_true, if_false, mSkip_e, eqW_ii, kn, shrW_e, Int.toNat_natCast, dz, do', fw, subW_ii, int2_e, gt_iff_lt, mx', fwk, tt, orW_ii, o1, toDs_cons, toDs_nil, toD_d, List.length_cons (α := PyData), List.length_nil (α := PyData), ll, if_true, fd, List.take_length]
  · have s1 := stretched_e S f.z w (w + k) h1 (by omega) (by omega)
    have s2 := stretched_e S f.o w (w + k) h1 (by omega) (by omega)
    rw [Int.natCast_add] at s1 s2
    have dz : ((strN f.z w (w + k) : Nat) : Int) / 2 ^ k = ((strN f.z w (w + k) / 2 ^ k : Nat) : Int) := by rw [pk, Int.natCast_ediv]
    have do' : ((strN f.o w (w + k) : Nat) : Int) / 2 ^ k = ((strN f.o w (w + k) / 2 ^ k : Nat) : Int) := by rw [pk, Int.natCast_ediv]
    have mn : (if (f.k : Int) + (k : Int) < (w : Int) then (f.k : Int) + (k : Int) else (w : Int)) = ((min w (f.k + k) : Nat) : Int) := by split <;> omega
    have fd : PyData.tuple [.int ((strN f.z w (w + k) / 2 ^ k : Nat) : Int), .int ((strN f.o w (w + k) / 2 ^ k : Nat) : Int), .int ((min w (f.k + k) : Nat) : Int)] = (shiftF .slide k w f).toD := rfl
    simp (disch := omega) only [sh_rules_shifted, mDef, mSeq_e, asg, mAsg_e, mIfS_e, mB_e, mRet_e, mCall_e, mTup_e, mBi_e, mCons_e, mNil_e, mBin_e, mVar_e, mC_e, List.map_cons (f := some), List.map_nil (f := some), List.length_cons (α := W), List.length_nil (α := W), List.replicate, Nat.reduceSub, Nat.reduceAdd, List.cons_append, List.nil_append, env_0, env_S, Option.bind_some, Option.map_some, x3, List.set_cons_zero, List.set_cons_succ, row_ix0, wc_left, wc_slide, eqW_ww, e, reduceCtorEq, decide_false, Bool.false_eq_true, if_false, mSkip_e, decide_true, if_true, addW_ii, s1, s2, shrW_e, Int.toNat_natCast, dz, do', int2_e, mn, toDs_cons, toDs_nil, toD_d, List.length_cons (α := PyData), List.length_nil (α := PyData), ll, fd, List.take_length]
theorem fitted_e (S : Sto) (r : Rw) (f : Fct) (v : Nat) (hw : (r.word = .cut ∧ r.w ≤ v) ∨ ((r.word = .wide ∨ r.word = .sign) ∧ v ≤ r.w)) (h1 : 1 ≤ v) (h64 : v ≤ 64) (hr : r.w ≤ 64) (hf : f.wf v) :
    sh_rules_fitted [.d r.toD, .d (.int (v : Int)), .d f.toD] S = some ((fitF r.word r.w v f).toD, S) := by
  have ll : Ok ((3 : Nat) ≤ LIM) := by show (3 : Nat) ≤ 1000000; omega
  have fr := full_e S r.w (by omega)
  have fv := full_e S v (by omega)
  have asg : ∀ (x0 x1 : Option W), mAsgT [3, 4, 5] (mVar 2) [x0, x1, some (.d f.toD), none, none, none] S = some (.nx [x0, x1, some (.d f.toD), some (.d (.int (f.z : Int))), some (.d (.int (f.o : Int))), some (.d (.int (f.k : Int)))], S) := fun x0 x1 => rfl
  rcases hw with ⟨e, hv⟩ | ⟨e | e, hv⟩
  · have m1 := mask_nat r.w (f.z : Int)
    have m2 := mask_nat r.w (f.o : Int)
    rw [mod_int] at m1 m2
    have mx' : (if (1 : Int) < (f.k : Int) - ((v : Int) - (r.w : Int)) then (f.k : Int) - ((v : Int) - (r.w : Int)) else 1) = ((max 1 (f.k - (v - r.w)) : Nat) : Int) := by split <;> omega
    have fd : PyData.tuple [.int ((f.z % 2 ^ r.w : Nat) : Int), .int ((f.o % 2 ^ r.w : Nat) : Int), .int ((max 1 (f.k - (v - r.w)) : Nat) : Int)] = (fitF .cut r.w v f).toD := rfl
    simp (disch := omega) only [sh_rules_fitted, mDef, mSeq_e, asg, mIfS_e, mB_e, mRet_e, mCall_e, mTup_e, mBi_e, mCons_e, mNil_e, mBin_e, mVar_e, mC_e, List.map_cons (f := some), List.map_nil (f := some), List.length_cons (α := W), List.length_nil (α := W), List.replicate, Nat.reduceSub, Nat.reduceAdd, List.cons_append, List.nil_append, env_0, env_S, Option.bind_some, Option.map_some, row_ix0, row_ix1, wc_cut, eqW_ww, e, decide_true, if_true, fr, andW_ii, m1, m2, subW_ii, int2_e, gt_iff_lt, mx', toDs_cons, toDs_nil, toD_d, List.length_cons (α := PyData), List.length_nil (α := PyData), ll, fd, List.take_length]
  · by_cases c : r.w = v
    · have fd : fitF r.word r.w v f = f := by rw [e]; simp only [fitF, if_pos c]
      have c' : (r.w : Int) = (v : Int) := by omega
      rw [fd]
      simp only [sh_rules_fitted, mDef, mSeq_e, asg, mIfS_e, mB_e, mRet_e, mBin_e, mVar_e, mC_e, List.map_cons (f := some), List.map_nil (f := some), List.length_cons (α := W), List.length_nil (α := W), List.replicate, Nat.reduceSub, Nat.reduceAdd, List.cons_append, List.nil_append, env_0, env_S, Option.bind_some, Option.map_some, row_ix0, row_ix1, wc_cut, wc_sign, eqW_ww, e, reduceCtorEq, decide_false, Bool.false_eq_true, if_false, mSkip_e, eqW_ii, c', decide_true, if_true, toD_d, List.take_length]
    · have c' : ¬ ((r.w : Int) = (v : Int)) := by omega
      have tt := topM_int (w := r.w) (r := v) hv
      have o1 := or_nat f.z (topM r.w v)
      have fd : PyData.tuple [.int ((f.z ||| topM r.w v : Nat) : Int), .int (f.o : Int), .int 1] = (fitF .wide r.w v f).toD := by simp only [fitF, if_neg c]; rfl
      simp only [sh_rules_fitted, mDef, mSeq_e, asg, mIfS_e, mB_e, mRet_e, mCall_e, mTup_e, mCons_e, mNil_e, mBin_e, mVar_e, mC_e, List.map_cons (f := some), List.map_nil (f := some), List.length_cons (α := W), List.length_nil (α := W), List.replicate, Nat.reduceSub, Nat.reduceAdd, List.cons_append, List.nil_append, env_0, env_S, Option.bind_some, Option.map_some, row_ix0, row_ix1, wc_cut, wc_sign, eqW_ww, e, reduceCtorEq, decide_false, Bool.false_eq_true, if_false, mSkip_e, eqW_ii, c', fr, fv, subW_ii, tt, orW_ii, o1, toDs_cons, toDs_nil, toD_d, List.length_cons (α := PyData), List.length_nil (α := PyData), ll, if_true, fd, List.take_length]
  · have s1 := stretched_e S f.z v r.w h1 hv (by omega)
    have s2 := stretched_e S f.o v r.w h1 hv (by omega)
    have ek : (f.k : Int) + (r.w : Int) - (v : Int) = ((f.k + r.w - v : Nat) : Int) := by omega
    have fd : PyData.tuple [.int ((strN f.z v r.w : Nat) : Int), .int ((strN f.o v r.w : Nat) : Int), .int ((f.k + r.w - v : Nat) : Int)] = (fitF .sign r.w v f).toD := rfl
    simp only [sh_rules_fitted, mDef, mSeq_e, asg, mIfS_e, mB_e, mRet_e, mCall_e, mTup_e, mCons_e, mNil_e, mBin_e, mVar_e, mC_e, List.map_cons (f := some), List.map_nil (f := some), List.length_cons (α := W), List.length_nil (α := W), List.replicate, Nat.reduceSub, Nat.reduceAdd, List.cons_append, List.nil_append, env_0, env_S, Option.bind_some, Option.map_some, row_ix0, row_ix1, wc_cut, wc_sign, eqW_ww, e, reduceCtorEq, decide_false, Bool.false_eq_true, if_false, mSkip_e, decide_true, if_true, s1, s2, addW_ii, subW_ii, ek, toDs_cons, toDs_nil, toD_d, List.length_cons (α := PyData), List.length_nil (α := PyData), ll, fd, List.take_length]
theorem fix2 (S : Sto) (a b c : Fct) (t : List Fct) : ixW (.d (.tuple ((a :: b :: c :: t).map Fct.toD))) (.d (.int 2)) S = some c.toD := by
  rw [ixW_t, atI_pos (by omega)]; rfl
/-- what is told of sums is told of ends that are in order -/
def endsOk (r : Rw) (fs : List Fct) : Prop := ∀ f g, fs = [f, g] → (r.word = .add ∨ r.word = .sub ∨ r.word = .mul) → (endI r.word f g r.w).1 ≤ (endI r.word f g r.w).2
theorem told_e (S : Sto) (r : Rw) (ws : List Nat) (fs : List Fct) (h : r.fit ws) (hg : Al Fct.good fs ws) (he : endsOk r fs) :
    sh_rules_told_by [.d r.toD, .d (.tuple (ws.map natD)), .d (.tuple (fs.map Fct.toD))] S = some ((toldF r ws fs).toD, S) := by
  have fwd := fit_widths h
  obtain ⟨h1, h2, h⟩ := h
  have hp := pow_pos' r.w
  have ll : ∀ n : Nat, n ≤ 3 → Ok (n ≤ LIM) := fun n hn => by show n ≤ 1000000; omega
  generalize hE : ([some (.d r.toD), some (.d (.tuple (ws.map natD))), some (.d (.tuple (fs.map Fct.toD))), some (.d (wD r.word))] : Sl) = E
  have s1 : sh_rules_told_by_s1 [some (.d r.toD), some (.d (.tuple (ws.map natD))), some (.d (.tuple (fs.map Fct.toD))), none] S = some (.nx E, S) := by
    subst hE
    simp only [sh_rules_told_by_s1_e, mAsg_e, mBin_e, mVar_e, mC_e, env_0, env_S, Option.bind_some, Option.map_some, row_ix0, List.set_cons_zero, List.set_cons_succ]
  have fin : ∀ d : PyData, (mSeq sh_rules_told_by_s2 (mSeq sh_rules_told_by_s3 (mSeq sh_rules_told_by_s4 (mSeq sh_rules_told_by_s5 (mSeq sh_rules_told_by_s6 (mSeq sh_rules_told_by_s7 (mSeq sh_rules_told_by_s8 (mSeq sh_rules_told_by_s9 sh_rules_told_by_s10)))))))) E S = some (.rt (.d d), S) →
      sh_rules_told_by [.d r.toD, .d (.tuple (ws.map natD)), .d (.tuple (fs.map Fct.toD))] S = some (d, S) := fun d e => by
    simp only [mSeq_e] at e
    simp only [sh_rules_told_by, mDef, mSeq_e, List.map_cons (f := some), List.map_nil (f := some), List.length_cons (α := W), List.length_nil (α := W), List.replicate, List.cons_append, List.nil_append, Nat.reduceSub, Nat.reduceAdd, s1, Option.bind_some]
    rw [e]
    simp
  have n2 : r.word ≠ .inp → sh_rules_told_by_s2 E S = some (.nx E, S) := fun q => by
    subst hE
    simp only [sh_rules_told_by_s2_e, mIfS_e, mB_e, mBin_e, mVar_e, mC_e, env_0, env_S, Option.bind_some, Option.map_some, wc_inp, eqW_ww, q, decide_false, Bool.false_eq_true, if_false, mSkip_e]
  have n3 : r.word ≠ .num → sh_rules_told_by_s3 E S = some (.nx E, S) := fun q => by
    subst hE
    simp only [sh_rules_told_by_s3_e, mIfS_e, mB_e, mBin_e, mVar_e, mC_e, env_0, env_S, Option.bind_some, Option.map_some, wc_num, eqW_ww, q, decide_false, Bool.false_eq_true, if_false, mSkip_e]
  have n4 : r.word ≠ .not → sh_rules_told_by_s4 E S = some (.nx E, S) := fun q => by
    subst hE
    simp only [sh_rules_told_by_s4_e, mIfS_e, mB_e, mBin_e, mVar_e, mC_e, env_0, env_S, Option.bind_some, Option.map_some, wc_not, eqW_ww, q, decide_false, Bool.false_eq_true, if_false, mSkip_e]
  have c5 : ∀ x y z : Wd, memW (.d (wD r.word)) (.d (.tuple [wD x, wD y, wD z])) S = some (decide (r.word = x ∨ r.word = y ∨ r.word = z)) := fun x y z => memW3 S r.word x y z
  have n5 : ¬ (r.word = .and ∨ r.word = .or ∨ r.word = .xor) → sh_rules_told_by_s5 E S = some (.nx E, S) := fun q => by
    subst hE
    simp only [sh_rules_told_by_s5_e, mIfS_e, mB_e, mBin_e, mTup_e, mCons_e, mNil_e, mVar_e, mC_e, env_0, env_S, Option.bind_some, Option.map_some, wc_and, wc_or, wc_xor, toDs_cons, toDs_nil, toD_d, List.length_cons, List.length_nil, Nat.reduceAdd, ll 3 (by omega), if_true, inW_e, c5, q, decide_false, Bool.false_eq_true, if_false, mSkip_e]
  have n6 : ¬ (r.word = .add ∨ r.word = .sub ∨ r.word = .mul) → sh_rules_told_by_s6 E S = some (.nx E, S) := fun q => by
    subst hE
    simp only [sh_rules_told_by_s6_e, mIfS_e, mB_e, mBin_e, mTup_e, mCons_e, mNil_e, mVar_e, mC_e, env_0, env_S, Option.bind_some, Option.map_some, wc_add, wc_sub, wc_mul, toDs_cons, toDs_nil, toD_d, List.length_cons, List.length_nil, Nat.reduceAdd, ll 3 (by omega), if_true, inW_e, c5, q, decide_false, Bool.false_eq_true, if_false, mSkip_e]
  have n7 : ¬ (r.word = .left ∨ r.word = .right ∨ r.word = .slide) → sh_rules_told_by_s7 E S = some (.nx E, S) := fun q => by
    subst hE
    simp only [sh_rules_told_by_s7_e, mIfS_e, mB_e, mBin_e, mTup_e, mCons_e, mNil_e, mVar_e, mC_e, env_0, env_S, Option.bind_some, Option.map_some, wc_left, wc_right, wc_slide, toDs_cons, toDs_nil, toD_d, List.length_cons, List.length_nil, Nat.reduceAdd, ll 3 (by omega), if_true, inW_e, c5, q, decide_false, Bool.false_eq_true, if_false, mSkip_e]
  have n8 : ¬ (r.word = .cut ∨ r.word = .wide ∨ r.word = .sign) → sh_rules_told_by_s8 E S = some (.nx E, S) := fun q => by
    subst hE
    simp only [sh_rules_told_by_s8_e, mIfS_e, mB_e, mBin_e, mTup_e, mCons_e, mNil_e, mVar_e, mC_e, env_0, env_S, Option.bind_some, Option.map_some, wc_cut, wc_wide, wc_sign, toDs_cons, toDs_nil, toD_d, List.length_cons, List.length_nil, Nat.reduceAdd, ll 3 (by omega), if_true, inW_e, c5, q, decide_false, Bool.false_eq_true, if_false, mSkip_e]
  have n9 : r.word ≠ .pick → sh_rules_told_by_s9 E S = some (.nx E, S) := fun q => by
    subst hE
    simp only [sh_rules_told_by_s9_e, mIfS_e, mB_e, mBin_e, mVar_e, mC_e, env_0, env_S, Option.bind_some, Option.map_some, wc_pick, eqW_ww, q, decide_false, Bool.false_eq_true, if_false, mSkip_e]
  have y5 : ∀ f g, fs = [f, g] → (r.word = .and ∨ r.word = .or ∨ r.word = .xor) → toldF r ws fs = bitF r.word f g → sh_rules_told_by [.d r.toD, .d (.tuple (ws.map natD)), .d (.tuple (fs.map Fct.toD))] S = some ((toldF r ws fs).toD, S) := by
    rintro f g rfl q et
    refine fin _ ?_
    have b := bitwise_e S r.word f g
    simp only [mSeq_e, n2 (by rcases q with q | q | q <;> rw [q] <;> simp), n3 (by rcases q with q | q | q <;> rw [q] <;> simp), n4 (by rcases q with q | q | q <;> rw [q] <;> simp), Option.bind_some]
    rw [et]
    subst hE
    simp only [sh_rules_told_by_s5_e, mIfS_e, mB_e, mBin_e, mTup_e, mRet_e, mCall_e, mCons_e, mNil_e, mVar_e, mC_e, env_0, env_S, Option.bind_some, Option.map_some, wc_and, wc_or, wc_xor, toDs_cons, toDs_nil, toD_d, List.length_cons, List.length_nil, Nat.reduceAdd, ll 3 (by omega), if_true, inW_e, c5, q, decide_true, fix0, fix1, b]
  have y6 : ∀ f g, fs = [f, g] → f.wf r.w → g.wf r.w → (r.word = .add ∨ r.word = .sub ∨ r.word = .mul) → toldF r ws fs = sumF r.word f g r.w → sh_rules_told_by [.d r.toD, .d (.tuple (ws.map natD)), .d (.tuple (fs.map Fct.toD))] S = some ((toldF r ws fs).toD, S) := by
    rintro f g rfl hf hg q et
    refine fin _ ?_
    have b := sum_fact_e S r.word f g r.w q h2 hf hg (he f g rfl q)
    simp only [mSeq_e, n2 (by rcases q with q | q | q <;> rw [q] <;> simp), n3 (by rcases q with q | q | q <;> rw [q] <;> simp), n4 (by rcases q with q | q | q <;> rw [q] <;> simp), n5 (by rcases q with q | q | q <;> rw [q] <;> simp), Option.bind_some]
    rw [et]
    subst hE
    simp only [sh_rules_told_by_s6_e, mIfS_e, mB_e, mBin_e, mTup_e, mRet_e, mCall_e, mCons_e, mNil_e, mVar_e, mC_e, env_0, env_S, Option.bind_some, Option.map_some, wc_add, wc_sub, wc_mul, toDs_cons, toDs_nil, toD_d, List.length_cons, List.length_nil, Nat.reduceAdd, ll 3 (by omega), if_true, inW_e, c5, q, decide_true, fix0, fix1, row_ix1, b]
  have y7 : ∀ f a k, fs = [f] → ws = [r.w] → f.wf r.w → r.ops = [a, k] → k < 64 → (r.word = .left ∨ r.word = .right ∨ r.word = .slide) → toldF r ws fs = shiftF r.word (r.ops.getD 1 0) r.w f → sh_rules_told_by [.d r.toD, .d (.tuple (ws.map natD)), .d (.tuple (fs.map Fct.toD))] S = some ((toldF r ws fs).toD, S) := by
    rintro f a k rfl rfl hf ho hk q et
    refine fin _ ?_
    have kk : (r.ops.getD 1 0 : Nat) = k := by rw [ho]; rfl
    have b := shifted_e S r f r.w a k q ho (by omega) h1 h2 hf
    simp only [mSeq_e, n2 (by rcases q with q | q | q <;> rw [q] <;> simp), n3 (by rcases q with q | q | q <;> rw [q] <;> simp), n4 (by rcases q with q | q | q <;> rw [q] <;> simp), n5 (by rcases q with q | q | q <;> rw [q] <;> simp), n6 (by rcases q with q | q | q <;> rw [q] <;> simp), Option.bind_some]
    rw [et, kk]
    subst hE
    simp only [sh_rules_told_by_s7_e, mIfS_e, mB_e, mBin_e, mTup_e, mRet_e, mCall_e, mCons_e, mNil_e, mVar_e, mC_e, env_0, env_S, Option.bind_some, Option.map_some, wc_left, wc_right, wc_slide, toDs_cons, toDs_nil, toD_d, List.length_cons, List.length_nil, Nat.reduceAdd, ll 3 (by omega), if_true, inW_e, c5, q, decide_true, nix0, fix0, b]
  have y8 : ∀ f v, fs = [f] → ws = [v] → f.wf v → ((r.word = .cut ∧ r.w ≤ v) ∨ ((r.word = .wide ∨ r.word = .sign) ∧ v ≤ r.w)) → toldF r ws fs = fitF r.word r.w v f → sh_rules_told_by [.d r.toD, .d (.tuple (ws.map natD)), .d (.tuple (fs.map Fct.toD))] S = some ((toldF r ws fs).toD, S) := by
    rintro f v rfl rfl hf q et
    refine fin _ ?_
    have hv := fwd v (by simp)
    have b := fitted_e S r f v q hv.1 hv.2 h2 hf
    have q' : r.word = .cut ∨ r.word = .wide ∨ r.word = .sign := by
      rcases q with ⟨q, _⟩ | ⟨q | q, _⟩
      · exact .inl q
      · exact .inr (.inl q)
      · exact .inr (.inr q)
    simp only [mSeq_e, n2 (by rcases q' with q | q | q <;> rw [q] <;> simp), n3 (by rcases q' with q | q | q <;> rw [q] <;> simp), n4 (by rcases q' with q | q | q <;> rw [q] <;> simp), n5 (by rcases q' with q | q | q <;> rw [q] <;> simp), n6 (by rcases q' with q | q | q <;> rw [q] <;> simp), n7 (by rcases q' with q | q | q <;> rw [q] <;> simp), Option.bind_some]
    rw [et]
    subst hE
    simp only [sh_rules_told_by_s8_e, mIfS_e, mB_e, mBin_e, mTup_e, mRet_e, mCall_e, mCons_e, mNil_e, mVar_e, mC_e, env_0, env_S, Option.bind_some, Option.map_some, wc_cut, wc_wide, wc_sign, toDs_cons, toDs_nil, toD_d, List.length_cons, List.length_nil, Nat.reduceAdd, ll 3 (by omega), if_true, inW_e, c5, q', decide_true, nix0, fix0, b]
  have y10 : ∀ f g v, fs = [f, g] → ws = [v, v] → f.good v → g.good v → (r.word = .same ∨ r.word = .less ∨ r.word = .under) → toldF r ws fs = truthF (cmpA r.word f g v) → sh_rules_told_by [.d r.toD, .d (.tuple (ws.map natD)), .d (.tuple (fs.map Fct.toD))] S = some ((toldF r ws fs).toD, S) := by
    rintro f g v rfl rfl hf hg q et
    refine fin _ ?_
    have hv := fwd v (by simp)
    have b := rcompared_e S r.word f g v hv.1 hv.2 hf hg q
    have t := truth_e S (cmpA r.word f g v)
    simp only [mSeq_e, n2 (by rcases q with q | q | q <;> rw [q] <;> simp), n3 (by rcases q with q | q | q <;> rw [q] <;> simp), n4 (by rcases q with q | q | q <;> rw [q] <;> simp), n5 (by rcases q with q | q | q <;> rw [q] <;> simp), n6 (by rcases q with q | q | q <;> rw [q] <;> simp), n7 (by rcases q with q | q | q <;> rw [q] <;> simp), n8 (by rcases q with q | q | q <;> rw [q] <;> simp), n9 (by rcases q with q | q | q <;> rw [q] <;> simp), Option.bind_some]
    rw [et]
    subst hE
    simp only [sh_rules_told_by_s10_e, mRet_e, mCall_e, mCons_e, mNil_e, mBin_e, mVar_e, mC_e, env_0, env_S, Option.bind_some, Option.map_some, nix0, fix0, fix1, b, t]
  cases hwd : r.word <;> simp only [hwd] at h
  case inp =>
    refine fin _ ?_
    have et : toldF r ws fs = ⟨0, 0, 1⟩ := by unfold toldF; rw [hwd]
    rw [et]
    subst hE
    have fd : PyData.tuple [.int 0, .int 0, .int 1] = (Fct.mk 0 0 1).toD := rfl
    simp only [mSeq_e, sh_rules_told_by_s2_e, mIfS_e, mB_e, mBin_e, mTup_e, mRet_e, mCons_e, mNil_e, mVar_e, mC_e, env_0, env_S, Option.bind_some, Option.map_some, wc_inp, eqW_ww, hwd, decide_true, if_true, toDs_cons, toDs_nil, toD_d, List.length_cons, List.length_nil, Nat.reduceAdd, ll 3 (by omega), fd]
  case num =>
    obtain ⟨rfl, v, ev, q⟩ := h
    have x2 := row_ix2 S r v [] ev
    have fr := full_e S r.w (by omega)
    have et : toldF r [] fs = ⟨2 ^ r.w - 1 - v, v, 1⟩ := by unfold toldF; rw [hwd, ev]; rfl
    have es : ((2 ^ r.w - 1 : Nat) : Int) - (v : Int) = ((2 ^ r.w - 1 - v : Nat) : Int) := by omega
    have fd : PyData.tuple [.int ((2 ^ r.w - 1 - v : Nat) : Int), .int (v : Int), .int 1] = (Fct.mk (2 ^ r.w - 1 - v) v 1).toD := rfl
    refine fin _ ?_
    have hd : decide (r.word = Wd.num) = true := by rw [hwd]; rfl
    rw [et]
    rw [mSeq_e, n2 (by rw [hwd]; simp), Option.bind_some]
    subst hE
    simp only [mSeq_e, sh_rules_told_by_s3_e, mIfS_e, mB_e, mBin_e, mTup_e, mRet_e, mCall_e, mCons_e, mNil_e, mVar_e, mC_e, env_0, env_S, Option.bind_some, Option.map_some, wc_num, eqW_ww, hd, if_true, row_ix1, fr, x2, subW_ii, es, toDs_cons, toDs_nil, toD_d, List.length_cons, List.length_nil, Nat.reduceAdd, ll 3 (by omega), fd]
  case not =>
    obtain ⟨rfl, _⟩ := h
    match fs, hg with
    | [f], hg =>
      have et : toldF r [r.w] [f] = ⟨f.o, f.z, f.k⟩ := by simp only [toldF, hwd]
      have fd : PyData.tuple [.int (f.o : Int), .int (f.z : Int), .int (f.k : Int)] = (Fct.mk f.o f.z f.k).toD := rfl
      refine fin _ ?_
      have hd : decide (r.word = Wd.not) = true := by rw [hwd]; rfl
      rw [et]
      simp only [mSeq_e, n2 (show r.word ≠ .inp by rw [hwd]; simp), n3 (show r.word ≠ .num by rw [hwd]; simp), Option.bind_some]
      subst hE
      simp only [sh_rules_told_by_s4_e, mIfS_e, mB_e, mBin_e, mTup_e, mRet_e, mCons_e, mNil_e, mVar_e, mC_e, env_0, env_S, Option.bind_some, Option.map_some, wc_not, eqW_ww, hd, if_true, fix0, fi0, fi1, fi2, toDs_cons, toDs_nil, toD_d, List.length_cons, List.length_nil, Nat.reduceAdd, ll 3 (by omega), fd]
  case pick =>
    obtain ⟨rfl, _⟩ := h
    match fs, hg with
    | [t, f, g], hg =>
      have et : toldF r [1, r.w, r.w] [t, f, g] = pickF t f g := by simp only [toldF, hwd]
      have p := picked_e S t f g
      refine fin _ ?_
      have hd : decide (r.word = Wd.pick) = true := by rw [hwd]; rfl
      rw [et]
      simp only [mSeq_e, n2 (show r.word ≠ .inp by rw [hwd]; simp), n3 (show r.word ≠ .num by rw [hwd]; simp), n4 (show r.word ≠ .not by rw [hwd]; simp), n5 (show ¬ (r.word = .and ∨ r.word = .or ∨ r.word = .xor) by rw [hwd]; simp), n6 (show ¬ (r.word = .add ∨ r.word = .sub ∨ r.word = .mul) by rw [hwd]; simp), n7 (show ¬ (r.word = .left ∨ r.word = .right ∨ r.word = .slide) by rw [hwd]; simp), n8 (show ¬ (r.word = .cut ∨ r.word = .wide ∨ r.word = .sign) by rw [hwd]; simp), Option.bind_some]
      subst hE
      simp only [sh_rules_told_by_s9_e, mIfS_e, mB_e, mBin_e, mRet_e, mCall_e, mCons_e, mNil_e, mVar_e, mC_e, env_0, env_S, Option.bind_some, Option.map_some, wc_pick, eqW_ww, hd, if_true, fix0, fix1, fix2, p]
  case and => obtain ⟨rfl, _⟩ := h; match fs, hg with | [f, g], hg => exact y5 f g rfl (.inl hwd) (by simp only [toldF, hwd])
  case or => obtain ⟨rfl, _⟩ := h; match fs, hg with | [f, g], hg => exact y5 f g rfl (.inr (.inl hwd)) (by simp only [toldF, hwd])
  case xor => obtain ⟨rfl, _⟩ := h; match fs, hg with | [f, g], hg => exact y5 f g rfl (.inr (.inr hwd)) (by simp only [toldF, hwd])
  case add => obtain ⟨rfl, _⟩ := h; match fs, hg with | [f, g], hg => exact y6 f g rfl hg.1.1 hg.2.1.1 (.inl hwd) (by simp only [toldF, hwd])
  case sub => obtain ⟨rfl, _⟩ := h; match fs, hg with | [f, g], hg => exact y6 f g rfl hg.1.1 hg.2.1.1 (.inr (.inl hwd)) (by simp only [toldF, hwd])
  case mul => obtain ⟨rfl, _⟩ := h; match fs, hg with | [f, g], hg => exact y6 f g rfl hg.1.1 hg.2.1.1 (.inr (.inr hwd)) (by simp only [toldF, hwd])
  case left => obtain ⟨rfl, a, k, q1, q2⟩ := h; match fs, hg with | [f], hg => exact y7 f a k rfl rfl hg.1.1 q1 q2 (.inl hwd) (by simp only [toldF, hwd])
  case right => obtain ⟨rfl, a, k, q1, q2⟩ := h; match fs, hg with | [f], hg => exact y7 f a k rfl rfl hg.1.1 q1 q2 (.inr (.inl hwd)) (by simp only [toldF, hwd])
  case slide => obtain ⟨rfl, a, k, q1, q2⟩ := h; match fs, hg with | [f], hg => exact y7 f a k rfl rfl hg.1.1 q1 q2 (.inr (.inr hwd)) (by simp only [toldF, hwd])
  case cut => obtain ⟨v, a, rfl, _, q1, q2⟩ := h; match fs, hg with | [f], hg => exact y8 f v rfl rfl hg.1.1 (.inl ⟨hwd, q1⟩) (by simp only [toldF, hwd])
  case wide => obtain ⟨v, a, rfl, _, q1, q2⟩ := h; match fs, hg with | [f], hg => exact y8 f v rfl rfl hg.1.1 (.inr ⟨.inl hwd, q2⟩) (by simp only [toldF, hwd])
  case sign => obtain ⟨v, a, rfl, _, q1, q2⟩ := h; match fs, hg with | [f], hg => exact y8 f v rfl rfl hg.1.1 (.inr ⟨.inr hwd, q2⟩) (by simp only [toldF, hwd])
  case same => obtain ⟨v, a, b, rfl, _, _, q1, q2⟩ := h; match fs, hg with | [f, g], hg => exact y10 f g v rfl rfl hg.1 hg.2.1 (.inl hwd) (by simp only [toldF, hwd])
  case less => obtain ⟨v, a, b, rfl, _, _, q1, q2⟩ := h; match fs, hg with | [f, g], hg => exact y10 f g v rfl rfl hg.1 hg.2.1 (.inr (.inl hwd)) (by simp only [toldF, hwd])
  case under => obtain ⟨v, a, b, rfl, _, _, q1, q2⟩ := h; match fs, hg with | [f, g], hg => exact y10 f g v rfl rfl hg.1 hg.2.1 (.inr (.inr hwd)) (by simp only [toldF, hwd])
theorem rule_e (S : Sto) (r : Rw) (ws : List Nat) (fs : List Fct) (h : r.fit ws) (hg : Al Fct.good fs ws) (he : endsOk r fs) (hwf : (toldF r ws fs).wf r.w) :
    sh_rules_rule [.d r.toD, .d (.tuple (ws.map natD)), .d (.tuple (fs.map Fct.toD))] S = some ((ruleF r ws fs).toD, S) := by
  have t := told_e S r ws fs h hg he
  have c := closed_e S (toldF r ws fs) r.w h.2.1 hwf
  simp only [sh_rules_rule, mDef, mRet_e, mCall_e, mCons_e, mNil_e, mBin_e, mVar_e, mC_e, List.map_cons (f := some), List.map_nil (f := some), List.length_cons (α := W), List.length_nil (α := W), List.replicate, Nat.reduceSub, Nat.reduceAdd, List.cons_append, List.nil_append, env_0, env_S, Option.bind_some, Option.map_some, t, row_ix1, c, toD_d, List.take_length, ruleF]
def drD (f : Fct) (v : Nat) : PyData := .tuple [natD f.z, natD f.o, natD f.k, natD v]
def Drn (fs : List Fct) (vs ws : List Nat) : Prop := fs.length = ws.length ∧ vs.length = ws.length ∧ ∀ (i : Nat) (f : Fct) (v w : Nat), fs[i]? = some f → vs[i]? = some v → ws[i]? = some w → f.wf w ∧ v < 2 ^ w ∧ f.holds v w
theorem Drn.one {f : Fct} {v w : Nat} (h1 : f.wf w) (h2 : v < 2 ^ w) (h3 : f.holds v w) : Drn [f] [v] [w] := ⟨rfl, rfl, fun i f' v' w' a b c => by
  match i with
  | 0 => simp at a b c; subst a b c; exact ⟨h1, h2, h3⟩
  | i + 1 => simp at a⟩
theorem Drn.cons {f : Fct} {v w : Nat} {fs : List Fct} {vs ws : List Nat} (h1 : f.wf w) (h2 : v < 2 ^ w) (h3 : f.holds v w) (h : Drn fs vs ws) : Drn (f :: fs) (v :: vs) (w :: ws) := ⟨by simp [h.1], by simp [h.2.1], fun i f' v' w' a b c => by
  match i with
  | 0 => simp at a b c; subst a b c; exact ⟨h1, h2, h3⟩
  | i + 1 => simp at a b c; exact h.2.2 i f' v' w' a b c⟩
theorem Drn.wf {fs : List Fct} {vs ws : List Nat} (h : Drn fs vs ws) : Al (fun (f : Fct) w => f.wf w) fs ws := by
  refine Al.of h.1 fun i f w a b => ?_
  have hi := (List.getElem?_eq_some_iff.mp b).1
  exact (h.2.2 i f _ w a (List.getElem?_eq_getElem (by rw [h.2.1]; exact hi)) b).1
theorem Drn.good {fs : List Fct} {vs ws : List Nat} (h : Drn fs vs ws) : Al Fct.good fs ws := by
  refine Al.of h.1 fun i f w a b => ?_
  have hi := (List.getElem?_eq_some_iff.mp b).1
  have q := h.2.2 i f _ w a (List.getElem?_eq_getElem (by rw [h.2.1]; exact hi)) b
  exact ⟨q.1, holds_disj q.2.2⟩
theorem Drn.lt {fs : List Fct} {vs ws : List Nat} (h : Drn fs vs ws) : Al (fun x w => x < 2 ^ w) vs ws := by
  refine Al.of h.2.1 fun i v w a b => ?_
  have hi := (List.getElem?_eq_some_iff.mp b).1
  exact (h.2.2 i _ v w (List.getElem?_eq_getElem (by rw [h.1]; exact hi)) a b).2.1
theorem Drn.holds {fs : List Fct} {vs ws : List Nat} (h : Drn fs vs ws) : Al (fun (f : Fct) (p : Nat × Nat) => f.holds p.1 p.2) fs (vs.zip ws) := by
  refine Al.of (by simp [h.1, h.2.1]) fun i f p a b => ?_
  rw [List.getElem?_zip_eq_some] at b
  exact (h.2.2 i f p.1 p.2 a b.1 b.2).2.2
theorem Drn.ends {r : Rw} {fs : List Fct} {vs ws : List Nat} (h : Drn fs vs ws) (ft : r.fit ws) : endsOk r fs := by
  rintro f g rfl q
  have hw : ws = [r.w, r.w] := by
    obtain ⟨_, _, ft⟩ := ft
    rcases q with q | q | q <;> (rw [q] at ft; exact ft.1)
  subst hw
  match vs, h with
  | [x, y], h =>
    have q1 := h.2.2 0 f x r.w rfl rfl rfl
    have q2 := h.2.2 1 g y r.w rfl rfl rfl
    have e := ends_part q q1.1 q2.1 q1.2.1 q2.2.1 ((h3_iff q1.1 q1.2.1).mp q1.2.2) ((h3_iff q2.1 q2.2.1).mp q2.2.2)
    omega
def bitZ (v : Int) (k : Nat) : Bool := decide (v / 2 ^ k % 2 = 1)
def orN (p : Nat → Bool) (lo : Nat) : Nat → Nat → Nat
  | 0, a => a
  | n + 1, a => if p (lo + n) = true then orN p lo n a ||| 2 ^ (lo + n) else orN p lo n a
theorem orN_bit (p : Nat → Bool) (lo n a j : Nat) : (orN p lo n a).testBit j = (a.testBit j || (decide (lo ≤ j) && decide (j < lo + n) && p j)) := by
  induction n with
  | zero =>
    have : ¬ (lo ≤ j ∧ j < lo + 0) := by omega
    have : (decide (lo ≤ j) && decide (j < lo + 0)) = false := by simp
    rw [this]; simp [orN]
  | succ n ih =>
    rw [orN]
    have e : (2 ^ (lo + n)).testBit j = decide (lo + n = j) := Nat.testBit_two_pow
    by_cases c : lo + n = j
    · subst c
      have d1 : decide (lo + n < lo + n) = false := by simp
      rw [d1] at ih
      cases hp : p (lo + n) <;> simp [ih, Nat.testBit_or, e, hp]
    · have c3 : decide (j < lo + (n + 1)) = decide (j < lo + n) := by rw [decide_eq_decide]; omega
      rw [c3]
      split <;> simp [ih, Nat.testBit_or, e, c]
theorem bitAnd_one (v : Int) (k : Nat) : Builtin.bitAnd (v / 2 ^ k) 1 = if bitZ v k = true then 1 else 0 := by
  rw [bitAnd_m1]
  unfold bitZ
  by_cases c : v / 2 ^ k % 2 = 1
  · simp [c]
  · simp [c]; omega
theorem pow_natI (k : Nat) : (2 : Int) ^ k = ((2 ^ k : Nat) : Int) := pow_nat k
theorem noted_e (S : Sto) (m z o : Nat) (v : Int) (lo n : Nat) (h : S[m]? = some (.lst [natD z, natD o])) (hn : lo + n ≤ 1000) :
    sh_L_noted [.r m, .d (.int v), .d (.list (rangeD (lo : Int) n))] S = some (.none, S.set m (.lst [natD (orN (fun i => !bitZ v i) lo n z), natD (orN (bitZ v) lo n o)])) := by
  have hm : m < S.length := (List.getElem?_eq_some_iff.mp h).1
  have e0 : S.set m (.lst [natD (orN (fun i => !bitZ v i) lo 0 z), natD (orN (bitZ v) lo 0 o)]) = S := by
    apply List.ext_getElem?
    intro i
    by_cases c : m = i
    · subst c; rw [List.getElem?_set_self hm, h]; rfl
    · rw [List.getElem?_set_ne c]
  have el : (rangeD (lo : Int) n).length = n := by simp [rangeD]
  obtain ⟨env', S', e, y3, rfl, eS⟩ := forL_inv (g := fun _ => True) (f := gN 3) (b := sh_L_noted_b1) (rangeD (lo : Int) n)
    (fun i env S' => ∃ y3 : Option W, env = [some (.r m), some (.d (.int v)), some (.d (.list (rangeD (lo : Int) n))), y3] ∧ S' = S.set m (.lst [natD (orN (fun i => !bitZ v i) lo i z), natD (orN (bitZ v) lo i o)]))
    (fun i hi env S' hI => by
      obtain ⟨y3, rfl, rfl⟩ := hI
      have hi' : i < n := by simpa [rangeD] using hi
      have ed : (rangeD (lo : Int) n)[i] = .int ((lo + i : Nat) : Int) := by simp [rangeD]
      have z1 : orN (fun i => !bitZ v i) lo (i + 1) z = if (!bitZ v (lo + i)) = true then orN (fun i => !bitZ v i) lo i z ||| 2 ^ (lo + i) else orN (fun i => !bitZ v i) lo i z := rfl
      have o1 : orN (bitZ v) lo (i + 1) o = if bitZ v (lo + i) = true then orN (bitZ v) lo i o ||| 2 ^ (lo + i) else orN (bitZ v) lo i o := rfl
      generalize orN (fun i => !bitZ v i) lo i z = za at *
      generalize orN (bitZ v) lo i o = oa at *
      have gm : (S.set m (.lst [natD za, natD oa]))[m]? = some (.lst [natD za, natD oa]) := by rw [List.getElem?_set_self hm]
      have gl : getL (S.set m (.lst [natD za, natD oa])) (.r m) = some [natD za, natD oa] := by simp [getL, gm]
      refine ⟨trivial, [some (.r m), some (.d (.int v)), some (.d (.list (rangeD (lo : Int) n))), some (.d (.int ((lo + i : Nat) : Int)))], [some (.r m), some (.d (.int v)), some (.d (.list (rangeD (lo : Int) n))), some (.d (.int ((lo + i : Nat) : Int)))], S.set m (.lst [natD (orN (fun i => !bitZ v i) lo (i + 1) z), natD (orN (bitZ v) lo (i + 1) o)]), by rw [ed]; rfl, .inl ?_, _, rfl, rfl⟩
      have b1 := bitAnd_one v (lo + i)
      rw [pow_natI] at b1
      have oz := or_nat za (2 ^ (lo + i))
      have oo := or_nat oa (2 ^ (lo + i))
      have x0 : atI [natD za, natD oa] 0 = some (.int (za : Int)) := rfl
      have x1 : atI [natD za, natD oa] 1 = some (.int (oa : Int)) := rfl
      have i0 : ixN 2 0 = some 0 := rfl
      have i1 : ixN 2 1 = some 1 := rfl
      have q0 : ∀ x : PyData, [natD za, natD oa].set 0 x = [x, natD oa] := fun _ => rfl
      have q1 : ∀ x : PyData, [natD za, natD oa].set 1 x = [natD za, x] := fun _ => rfl
      have hl : [natD za, natD oa].length = 2 := rfl
      rw [z1, o1]
      cases c : bitZ v (lo + i) with
      | false =>
        rw [c] at b1
        simp only [Bool.false_eq_true, if_false] at b1
        simp (disch := omega) only [sh_L_noted_b1_e, mSetIx_e, mBin_e, mVar_e, mC_e, env_0, env_S, Option.bind_some, Option.map_some, shrW_e, Int.toNat_natCast, andW_ii, b1, ixW_r, gl, gm, x0, shlW_1, pow_natI, orW_ii, oz, toD_d, hl, i0, q0, List.set_set, Bool.not_false, if_true, Bool.false_eq_true, if_false]
        rfl
      | true =>
        rw [c] at b1
        simp only [if_true] at b1
        simp (disch := omega) only [sh_L_noted_b1_e, mSetIx_e, mBin_e, mVar_e, mC_e, env_0, env_S, Option.bind_some, Option.map_some, shrW_e, Int.toNat_natCast, andW_ii, b1, ixW_r, gl, gm, x1, shlW_1, pow_natI, orW_ii, oo, toD_d, hl, i1, q1, List.set_set, Bool.not_true, if_true, Bool.false_eq_true, if_false]
        rfl)
    (fun _ _ _ => trivial) [some (.r m), some (.d (.int v)), some (.d (.list (rangeD (lo : Int) n))), none] S ⟨none, rfl, e0.symm⟩
  rw [el] at eS
  subst eS
  have tk : (S.set m (.lst [natD (orN (fun i => !bitZ v i) lo n z), natD (orN (bitZ v) lo n o)])).take S.length = S.set m (.lst [natD (orN (fun i => !bitZ v i) lo n z), natD (orN (bitZ v) lo n o)]) := by
    rw [List.take_of_length_le]; simp
  simp only [sh_L_noted, mDef, mSeq_e, List.map_cons (f := some), List.map_nil (f := some), List.length_cons (α := W), List.length_nil (α := W), List.replicate, List.cons_append, List.nil_append, Nat.reduceSub, Nat.reduceAdd, mFor_e, mIt_e, mVar_e, mC_e, env_0, env_S, Option.bind_some, Option.map_some, List.set_cons_zero, List.set_cons_succ, srcW_l, e, tk]
theorem gapless_loop (S : Sto) (n w : Nat) (hw : w ≤ 1000) : ∀ (k j : Nat), j + k = w → mWhile sh_L_gapless_c1 sh_L_gapless_w1 [some (.d (.int n)), some (.d (.int w)), some (.d (.int j))] S = some (.nx [some (.d (.int n)), some (.d (.int w)), some (.d (.int (runF n.testBit k j : Nat)))], S) := by
  intro k
  induction k with
  | zero =>
    intro j e
    have : ¬ j < w := by omega
    rw [mWhile_eq]
    simp [sh_L_gapless_c1_e, runF, this]
  | succ k ih =>
    intro j e
    have h1 : j < w := by omega
    have ih' := ih (j + 1) (by omega)
    rw [mWhile_eq, runF]
    simp (disch := omega) [sh_L_gapless_c1_e, h1, shrW_e, bit_and, bool_one]
    cases hb : n.testBit j with
    | false => simp
    | true =>
      simp [sh_L_gapless_w1_e]
      simpa using ih'
theorem runF_low {z w : Nat} (h : z < 2 ^ w) (hw : w ≤ 64) : runF z.testBit w 0 = lowR z := by
  have a := (runF_le z.testBit w 0).2
  have b := lowR_le h hw
  have l := lowR_le64 z
  apply Nat.le_antisymm
  · exact (lowR_ge (by omega)).mpr fun i hi => (runF_ge z.testBit w 0 (runF z.testBit w 0) (by omega)).mp (by omega) i (by omega) (by omega)
  · have := (runF_ge z.testBit w 0 (lowR z) b).mpr fun i _ hi => (lowR_ge l).mp (Nat.le_refl _) i (by omega)
    omega
theorem gapless_e (S : Sto) (n w : Nat) (h : n < 2 ^ w) (hw : w ≤ 64) : sh_L_gapless [.d (.int n), .d (.int w)] S = some (.int (lowR n : Nat), S) := by
  have h1 := gapless_loop S n w (by omega) w 0 (by omega)
  rw [runF_low h hw] at h1
  simp at h1
  simp [sh_L_gapless, mDef, h1]
theorem outcome_e (S : Sto) (wd : Wd) (a b : Int) (hw : wd = .add ∨ wd = .sub ∨ wd = .mul) (h1 : -(2 ^ 64) < b) (h2 : b < 2 ^ 64) : sh_L_outcome [.d (wD wd), .d (.int a), .d (.int b)] S = some (.int (recI wd a b), S) := by
  have m := mulW_r (S := S) a b h1 h2
  rcases hw with rfl | rfl | rfl <;> simp [sh_L_outcome, mDef, recI, m]
theorem shR_of {a b k : Nat} (h1 : ∀ i, k ≤ i → a.testBit i = b.testBit i) (h2 : k = 0 ∨ a.testBit (k - 1) ≠ b.testBit (k - 1)) : shR a b = k := by
  have l1 : shR a b ≤ k := by
    apply reachN_le
    apply lt_bits.mpr
    intro i hi
    rw [Nat.testBit_xor, h1 i hi]; simp
  by_cases c : shR a b = k
  · exact c
  · have := shR_eq (a := a) (b := b) (i := k - 1) (by omega)
    rcases h2 with h2 | h2
    · omega
    · exact absurd this h2
theorem gtC (S : Sto) (i j : Int) : gtW (.d (.int i)) (.d (.int j)) S = some (.bool (decide (j < i))) := rfl
theorem leC (S : Sto) (i j : Int) : leW (.d (.int i)) (.d (.int j)) S = some (.bool (decide (i ≤ j))) := rfl
theorem dtop_loop (S : Sto) (a b : Nat) (x0 x1 x2 x3 x4 x5 x6 x9 x10 : Option W) : ∀ k : Nat, k ≤ 1000 → (∀ i, k ≤ i → a.testBit i = b.testBit i) →
    mWhile sh_L_due_c1 sh_L_due_w1 [x0, x1, x2, x3, x4, x5, x6, some (.d (.list [.int (a : Int), .int (b : Int)])), some (.d (.int (k : Int))), x9, x10] S = some (.nx [x0, x1, x2, x3, x4, x5, x6, some (.d (.list [.int (a : Int), .int (b : Int)])), some (.d (.int ((shR a b : Nat) : Int))), x9, x10], S) := by
  intro k
  have y0 : atI [PyData.int (a : Int), .int (b : Int)] 0 = some (.int (a : Int)) := rfl
  have y1 : atI [PyData.int (a : Int), .int (b : Int)] 1 = some (.int (b : Int)) := rfl
  induction k with
  | zero =>
    intro hk h
    rw [shR_of h (.inl rfl), mWhile_eq]
    simp [sh_L_due_c1_e]
  | succ k ih =>
    intro hk h
    have e1 : (((k + 1 : Nat) : Int) - 1) = (k : Int) := by omega
    have g1 : 0 < ((k + 1 : Nat) : Int) := by omega
    rw [mWhile_eq]
    by_cases c : a.testBit k = b.testBit k
    · have hc : sh_L_due_c1 [x0, x1, x2, x3, x4, x5, x6, some (.d (.list [.int (a : Int), .int (b : Int)])), some (.d (.int ((k + 1 : Nat) : Int))), x9, x10] S = some (true, S) := by
        simp (disch := omega) only [sh_L_due_c1_e, mAnd_e, mB_e, mBin_e, mVar_e, mC_e, env_0, env_S, Option.bind_some, Option.map_some, List.set_cons_zero, List.set_cons_succ, gtC, g1, decide_true, if_true, ixW_l, y0, y1, subW_ii, e1, shrW_e, Int.toNat_natCast, andW_ii, bit_and, eqW_ii, c]
      have hw : sh_L_due_w1 [x0, x1, x2, x3, x4, x5, x6, some (.d (.list [.int (a : Int), .int (b : Int)])), some (.d (.int ((k + 1 : Nat) : Int))), x9, x10] S = some (.nx [x0, x1, x2, x3, x4, x5, x6, some (.d (.list [.int (a : Int), .int (b : Int)])), some (.d (.int (k : Int))), x9, x10], S) := by
        simp only [sh_L_due_w1_e, mAsg_e, mBin_e, mVar_e, mC_e, env_0, env_S, Option.bind_some, Option.map_some, List.set_cons_zero, List.set_cons_succ, subW_ii, e1]
      have := ih (by omega) fun i hi => by
        by_cases c2 : i = k
        · subst c2; exact c
        · exact h i (by omega)
      simp only [hc, hw, Option.bind_some, if_true, this]
    · have cb : ¬ ((a.testBit k).toNat : Int) = ((b.testBit k).toNat : Int) := by
        revert c; cases a.testBit k <;> cases b.testBit k <;> simp
      have hc : sh_L_due_c1 [x0, x1, x2, x3, x4, x5, x6, some (.d (.list [.int (a : Int), .int (b : Int)])), some (.d (.int ((k + 1 : Nat) : Int))), x9, x10] S = some (false, S) := by
        simp (disch := omega) only [sh_L_due_c1_e, mAnd_e, mB_e, mBin_e, mVar_e, mC_e, env_0, env_S, Option.bind_some, Option.map_some, List.set_cons_zero, List.set_cons_succ, gtC, g1, decide_true, if_true, ixW_l, y0, y1, subW_ii, e1, shrW_e, Int.toNat_natCast, andW_ii, bit_and, eqW_ii, cb, decide_false]
      rw [shR_of h (.inr (by simpa using c))]
      simp only [hc, Option.bind_some, Bool.false_eq_true, if_false]
theorem dict3_e {a b c i : ME} {env : Sl} {S S1 S2 S3 S4 : Sto} {p q r : W} (wd : Wd) (ha : a env S = some (p, S1)) (hb : b env S1 = some (q, S2)) (hc : c env S2 = some (r, S3)) (hi : i env S3 = some (.d (wD wd), S4)) :
    mDict3 (Str.ofString "add") a (Str.ofString "sub") b (Str.ofString "mul") c i env S = if wd = .add then some (p, S4) else if wd = .sub then some (q, S4) else if wd = .mul then some (r, S4) else none := by
  simp only [mDict3, ha, hb, hc, hi, Option.bind_some, wD_eq, wd_add, wd_sub, wd_mul, Wd.str_inj]
theorem near_e (S : Sto) (ns : List Int) (n B : Nat) (wd : Wd) (w : Nat) (g : Fct) (h : Rd ns n B S) (hB : B + 6 ≤ 1000000000) (h1 : 1 ≤ w) (h2 : w ≤ 64) (hw : wd = .add ∨ wd = .sub ∨ wd = .mul) (hg : g.wf w) :
    ∃ (f : Fct) (v : Nat) (S' : Sto), f.wf w ∧ v < 2 ^ w ∧ f.holds v w ∧ sh_L_near [.r n, .d (wD wd), .d (.int w), .d g.toD] S = some (f.toD, S') ∧ Rd ns n (B + 6) S' ∧ Oth n S S' := by
  obtain ⟨d, S1, hd, e1, r1, o1⟩ := draw_e S ns n B 2 h (by omega) (by omega) (by omega)
  obtain ⟨u, S2, hu, e2, r2, o2⟩ := num_e S1 ns n (B + 1) w r1 (by omega) h1 h2
  have o := o1.trans o2
  have hp := pow_pos' w
  have lt : 2 ^ w ≤ 2 ^ 64 := Nat.pow_le_pow_right (by decide) h2
  obtain ⟨z1, z2, _⟩ := hg
  have s1 : sh_L_near_s1 [some (.r n), some (.d (wD wd)), some (.d (.int w)), some (.d g.toD), none, none, none] S = some (.nx [some (.r n), some (.d (wD wd)), some (.d (.int w)), some (.d g.toD), some (.d (.int ((2 ^ w - 1 : Nat) : Int))), none, none], S) := by
    simp (disch := omega) [sh_L_near_s1_e, shlW_1, pow1_int]
  have em : ((2 ^ w - 1 : Nat) : Int) - (g.z : Int) = ((2 ^ w - 1 - g.z : Nat) : Int) := by omega
  have s2 : sh_L_near_s2 [some (.r n), some (.d (wD wd)), some (.d (.int w)), some (.d g.toD), some (.d (.int ((2 ^ w - 1 : Nat) : Int))), none, none] S = some (.nx [some (.r n), some (.d (wD wd)), some (.d (.int w)), some (.d g.toD), some (.d (.int ((2 ^ w - 1 : Nat) : Int))), some (.d (.int ((2 ^ w - 1 - g.z : Nat) : Int))), none], S) := by
    simp only [sh_L_near_s2_e, mAsg_e, mBin_e, mVar_e, mC_e, env_0, env_S, Option.bind_some, Option.map_some, List.set_cons_zero, List.set_cons_succ, fi0, subW_ii, em]
  have s3 : ∃ t : Nat, sh_L_near_s3 [some (.r n), some (.d (wD wd)), some (.d (.int w)), some (.d g.toD), some (.d (.int ((2 ^ w - 1 : Nat) : Int))), some (.d (.int ((2 ^ w - 1 - g.z : Nat) : Int))), none] S = some (.nx [some (.r n), some (.d (wD wd)), some (.d (.int w)), some (.d g.toD), some (.d (.int ((2 ^ w - 1 : Nat) : Int))), some (.d (.int ((2 ^ w - 1 - g.z : Nat) : Int))), some (.d (.int (t : Int)))], S1) := by
    have ed : ((2 ^ w - 1 : Nat) : Int) - ((2 ^ w - 1 - g.z : Nat) : Int) = (g.z : Int) := by omega
    have mx : (if (1 : Int) < ((2 ^ w - 1 - g.z : Nat) : Int) then ((2 ^ w - 1 - g.z : Nat) : Int) else 1) = ((max 1 (2 ^ w - 1 - g.z) : Nat) : Int) := by split <;> omega
    have fd := fdivW_e S ((2 ^ w - 1 : Nat) : Int) ((max 1 (2 ^ w - 1 - g.z) : Nat) : Int) (by omega) (by omega)
    have fe : ((2 ^ w - 1 : Nat) : Int) / ((max 1 (2 ^ w - 1 - g.z) : Nat) : Int) = (((2 ^ w - 1) / max 1 (2 ^ w - 1 - g.z) : Nat) : Int) := by rw [Int.natCast_ediv]
    rw [fe] at fd
    have dk := dict3_e (env := [some (.r n), some (.d (wD wd)), some (.d (.int w)), some (.d g.toD), some (.d (.int ((2 ^ w - 1 : Nat) : Int))), some (.d (.int ((2 ^ w - 1 - g.z : Nat) : Int))), none]) (S := S) (S1 := S) (S2 := S) (S3 := S) (S4 := S)
      (a := mBin subW (mVar 4) (mVar 5)) (b := mBin ixW (mVar 3) (mC (.int 1))) (c := mBin fdivW (mVar 4) (mBi maxW (mCons (mC (.int 1)) (mCons (mVar 5) mNil)))) (i := mVar 1) (p := .d (.int (g.z : Int))) (q := .d (.int (g.o : Int))) (r := .d (.int (((2 ^ w - 1) / max 1 (2 ^ w - 1 - g.z) : Nat) : Int))) wd
      (by simp only [mBin_e, mVar_e, mC_e, env_0, env_S, Option.bind_some, Option.map_some, List.set_cons_zero, List.set_cons_succ, subW_ii, ed]) (by simp only [mBin_e, mVar_e, mC_e, env_0, env_S, Option.bind_some, Option.map_some, List.set_cons_zero, List.set_cons_succ, fi1]) (by simp only [mBin_e, mBi_e, mCons_e, mNil_e, mVar_e, mC_e, env_0, env_S, Option.bind_some, Option.map_some, List.set_cons_zero, List.set_cons_succ, int2_e, mx, fd]) (by simp only [mVar_e, mC_e, env_0, env_S, Option.bind_some, Option.map_some, List.set_cons_zero, List.set_cons_succ])
    have de : ((d : Nat) : Int) = (d : Int) := rfl
    rcases hw with rfl | rfl | rfl
    · exact ⟨g.z + d, by
        simp only [if_true] at dk
        simp only [sh_L_near_s3_e, mAsg_e, mBin_e, mCall_e, mBi_e, mCons_e, mNil_e, mVar_e, mC_e, env_0, env_S, Option.bind_some, Option.map_some, List.set_cons_zero, List.set_cons_succ, dk, e1, addW_ii, Int.natCast_add]⟩
    · exact ⟨g.o + d, by
        simp only [reduceCtorEq, if_false, if_true] at dk
        simp only [sh_L_near_s3_e, mAsg_e, mBin_e, mCall_e, mBi_e, mCons_e, mNil_e, mVar_e, mC_e, env_0, env_S, Option.bind_some, Option.map_some, List.set_cons_zero, List.set_cons_succ, dk, e1, addW_ii, Int.natCast_add]⟩
    · exact ⟨(2 ^ w - 1) / max 1 (2 ^ w - 1 - g.z) + d, by
        simp only [reduceCtorEq, if_false, if_true] at dk
        simp only [sh_L_near_s3_e, mAsg_e, mBin_e, mCall_e, mBi_e, mCons_e, mNil_e, mVar_e, mC_e, env_0, env_S, Option.bind_some, Option.map_some, List.set_cons_zero, List.set_cons_succ, dk, e1, addW_ii, Int.natCast_add]⟩
  obtain ⟨t, s3⟩ := s3
  have mi := minI (2 ^ w - 1) t
  generalize hm : min (2 ^ w - 1) t = y at mi
  have hy : y < 2 ^ w := by omega
  have s4 : sh_L_near_s4 [some (.r n), some (.d (wD wd)), some (.d (.int w)), some (.d g.toD), some (.d (.int ((2 ^ w - 1 : Nat) : Int))), some (.d (.int ((2 ^ w - 1 - g.z : Nat) : Int))), some (.d (.int (t : Int)))] S1 = some (.nx [some (.r n), some (.d (wD wd)), some (.d (.int w)), some (.d g.toD), some (.d (.int ((2 ^ w - 1 : Nat) : Int))), some (.d (.int ((2 ^ w - 1 - g.z : Nat) : Int))), some (.d (.int (y : Int)))], S1) := by
    simp only [sh_L_near_s4_e, mAsg_e, mBi_e, mCons_e, mNil_e, mVar_e, mC_e, env_0, env_S, Option.bind_some, Option.map_some, List.set_cons_zero, List.set_cons_succ, int2_e, mi]
  have ey : ((2 ^ w - 1 : Nat) : Int) - (y : Int) = ((2 ^ w - 1 - y : Nat) : Int) := by omega
  have an := and_nat u y
  have ll : Ok ((3 : Nat) ≤ LIM) := by show (3 : Nat) ≤ 1000000; omega
  have fd : PyData.tuple [.int ((2 ^ w - 1 - y : Nat) : Int), .int ((u &&& y : Nat) : Int), .int 1] = (Fct.mk (2 ^ w - 1 - y) (u &&& y) 1).toD := rfl
  have s5 : sh_L_near_s5 [some (.r n), some (.d (wD wd)), some (.d (.int w)), some (.d g.toD), some (.d (.int ((2 ^ w - 1 : Nat) : Int))), some (.d (.int ((2 ^ w - 1 - g.z : Nat) : Int))), some (.d (.int (y : Int)))] S1 = some (.rt (.d (Fct.mk (2 ^ w - 1 - y) (u &&& y) 1).toD), S2) := by
    simp only [sh_L_near_s5_e, mRet_e, mTup_e, mCons_e, mNil_e, mBin_e, mCall_e, mVar_e, mC_e, env_0, env_S, Option.bind_some, Option.map_some, List.set_cons_zero, List.set_cons_succ, subW_ii, ey, e2, andW_ii, an, toDs_cons, toDs_nil, toD_d, List.length_cons (α := PyData), List.length_nil (α := PyData), Nat.reduceAdd, ll, if_true, fd]
  have ul : u &&& y ≤ y := Nat.and_le_right
  refine ⟨⟨2 ^ w - 1 - y, u &&& y, 1⟩, u &&& y, S2, ⟨by simp only; omega, by simp only; omega, by simp only; omega, by simp only; omega⟩, by omega, ⟨?_, ?_, ?_⟩, ?_, r2, o⟩
  · simp only
    rw [and_zero_bits]
    intro i hi
    by_cases c : i < w
    · rw [compl_bit hy c] at hi
      rw [Nat.testBit_and]
      have : y.testBit i = false := by simpa using hi
      rw [this, Bool.and_false]
    · exact lt_bits.mp (show u &&& y < 2 ^ w by omega) i (by omega)
  · simp only
    rw [and_self_bits]
    intro i hi
    exact hi
  · exact alikeN_pos h1 (show u &&& y < 2 ^ w by omega)
  · simp only [sh_L_near, mDef, mSeq_e, List.map_cons (f := some), List.map_nil (f := some), List.length_cons (α := W), List.length_nil (α := W), List.replicate, List.cons_append, List.nil_append, Nat.reduceSub, Nat.reduceAdd, s1, s2, s3, s4, s5, Option.bind_some, toD_d, Option.map_some, o.take]
theorem lowO_bit {wd : Wd} {f g : Fct} {i : Nat} (h : i < lowK f g) : (lowO wd f g).testBit i = bitZ (recI wd f.o g.o) i := by
  have e := lowO_int wd f g
  generalize recI wd f.o g.o = v at *
  generalize lowK f g = K at *
  have b := bit_modI (lowO wd f g) i
  rw [e] at b
  have hk : (2 : Int) ^ K = 2 ^ i * 2 ^ (K - i) := by rw [← Int.pow_add, show i + (K - i) = K by omega]
  have hk2 : (2 : Int) ^ (K - i) = 2 * 2 ^ (K - i - 1) := by rw [show K - i = (K - i - 1) + 1 by omega, Int.pow_succ, Int.mul_comm, Nat.add_sub_cancel]
  have p1 : (0 : Int) < 2 ^ i := PySem.W.kbt_pos i
  have e2 : v / 2 ^ i = v % 2 ^ K / 2 ^ i + 2 ^ (K - i) * (v / 2 ^ K) := by
    have d := Int.emod_add_mul_ediv v (2 ^ K)
    have : v = v % 2 ^ K + 2 ^ i * (2 ^ (K - i) * (v / 2 ^ K)) := by rw [← Int.mul_assoc, ← hk]; exact d.symm
    have h3 := congrArg (· / (2 : Int) ^ i) this
    rw [Int.add_mul_ediv_left _ _ (by omega)] at h3
    exact h3
  unfold bitZ
  rw [e2, hk2, Int.mul_assoc]
  have e3 : (v % 2 ^ K / 2 ^ i + 2 * (2 ^ (K - i - 1) * (v / 2 ^ K))) % 2 = v % 2 ^ K / 2 ^ i % 2 := by omega
  rw [e3, b]
  cases (lowO wd f g).testBit i <;> rfl
theorem low_o (wd : Wd) (f g : Fct) : orN (bitZ (recI wd f.o g.o)) 0 (lowK f g) 0 = lowO wd f g := by
  apply Nat.eq_of_testBit_eq
  intro i
  rw [orN_bit]
  by_cases c : i < lowK f g
  · simp [c, lowO_bit c]
  · rw [lt_bits.mp (lowO_lt wd f g) i (by omega)]; simp [c]
theorem low_z (wd : Wd) (f g : Fct) : orN (fun i => !bitZ (recI wd f.o g.o) i) 0 (lowK f g) 0 = 2 ^ lowK f g - 1 - lowO wd f g := by
  have hp := pow_pos' (lowK f g)
  apply Nat.eq_of_testBit_eq
  intro i
  rw [orN_bit]
  by_cases c : i < lowK f g
  · rw [compl_bit (lowO_lt wd f g) c, lowO_bit c]; simp [c]
  · rw [lt_bits.mp (show 2 ^ lowK f g - 1 - lowO wd f g < 2 ^ lowK f g by omega) i (by omega)]; simp [c]
theorem bitZ_nat (a i : Nat) : bitZ (a : Int) i = a.testBit i := by
  unfold bitZ
  rw [bit_modI]
  cases a.testBit i <;> rfl
theorem top_o {a k w : Nat} (hk : k ≤ w) (o : Nat) : orN (bitZ (a : Int)) k (w - k) o = o ||| (topM w k &&& a) := by
  apply Nat.eq_of_testBit_eq
  intro i
  rw [orN_bit, Nat.testBit_or, Nat.testBit_and, topM_bit hk, bitZ_nat, show k + (w - k) = w by omega]
theorem top_z {a k w : Nat} (hk : k ≤ w) (z : Nat) : orN (fun i => !bitZ (a : Int) i) k (w - k) z = z ||| andNot (topM w k) a := by
  apply Nat.eq_of_testBit_eq
  intro i
  rw [orN_bit, Nat.testBit_or, andNot_bit, topM_bit hk, bitZ_nat, show k + (w - k) = w by omega]
theorem many_z (n z : Nat) : orN (fun i => !bitZ 0 i) 0 n z = z ||| (2 ^ n - 1) := by
  apply Nat.eq_of_testBit_eq
  intro i
  rw [orN_bit, Nat.testBit_or, Nat.testBit_two_pow_sub_one]
  simp [bitZ]
theorem many_o (n o : Nat) : orN (bitZ 0) 0 n o = o := by
  apply Nat.eq_of_testBit_eq
  intro i
  rw [orN_bit]
  simp [bitZ]
theorem lrg1_n {a : ME} {env : Sl} {S : Sto} {n : Nat} (h : a env S = some (.d (.int (n : Int)), S)) (hn : n ≤ 1000) : mLrg1 a env S = some (.d (.list (rangeD ((0 : Nat) : Int) n)), S) := by
  have : Ok (0 ≤ (n : Int) ∧ (n : Int) ≤ 16777216) := ⟨by omega, by omega⟩
  simp only [mLrg1, h, Option.bind_some, if_pos this, Int.toNat_natCast, Int.natCast_zero]
theorem lrg2_n {a b : ME} {env : Sl} {S : Sto} {k n : Nat} (h : a env S = some (.d (.int (k : Int)), S)) (h2 : b env S = some (.d (.int (n : Int)), S)) (hk : k ≤ n) (hn : n ≤ 1000) : mLrg2 a b env S = some (.d (.list (rangeD (k : Int) (n - k))), S) := by
  have : Ok (0 ≤ (k : Int) ∧ (k : Int) ≤ 16777216 ∧ 0 ≤ (n : Int) ∧ (n : Int) ≤ 16777216) := ⟨by omega, by omega, by omega, by omega⟩
  have e : ((n : Int) - (k : Int)).toNat = n - k := by omega
  simp only [mLrg2, h, h2, Option.bind_some, if_pos this, e]

theorem due_e (S : Sto) (wd : Wd) (f g : Fct) (w : Nat) (hw : wd = .add ∨ wd = .sub ∨ wd = .mul) (h1 : 1 ≤ w) (h64 : w ≤ 64) (hf : f.wf w) (hg : g.wf w) (hs : (sumF wd f g w).wf w) (hlo : (endI wd f g w).1 ≤ (endI wd f g w).2) :
    sh_L_due [.d (wD wd), .d (.int (w : Int)), .d f.toD, .d g.toD] S = some (((sumF wd f g w).closed w).toD, S) := by
  have hp := pow_pos' w
  have lt64 : ∀ {a : Nat}, a < 2 ^ w → a < 2 ^ 64 := fun h => Nat.lt_of_lt_of_le h (Nat.pow_le_pow_right (by decide) h64)
  have hp2 : 2 ^ w ≤ 2 ^ 64 := Nat.pow_le_pow_right (by decide) h64
  have q1 := lt64 hg.1
  have q2 := lt64 hg.2.1
  have hkl : (f.z ||| f.o) &&& (g.z ||| g.o) < 2 ^ w := Nat.lt_of_le_of_lt Nat.and_le_left (Nat.or_lt_two_pow hf.1 hf.2.1)
  have hkw : lowK f g ≤ w := lowR_le hkl h64
  have ge : ∀ T, sh_L_gapless [.d (.int (((f.z ||| f.o) &&& (g.z ||| g.o) : Nat) : Int)), .d (.int (w : Int))] T = some (.int (lowK f g : Nat), T) := fun T => gapless_e T _ w hkl h64
  have r1 : ∀ T, sh_L_outcome [.d (wD wd), .d (.int (f.o : Int)), .d (.int (g.o : Int))] T = _ := fun T => outcome_e T wd (f.o : Int) (g.o : Int) hw (by omega) (by omega)
  have r2 : ∀ T, sh_L_outcome [.d (wD wd), .d (.int (((2 ^ w - 1 : Nat) : Int) - (f.z : Int))), .d (.int (((2 ^ w - 1 : Nat) : Int) - (g.z : Int)))] T = _ := fun T => outcome_e T wd (((2 ^ w - 1 : Nat) : Int) - (f.z : Int)) (((2 ^ w - 1 : Nat) : Int) - (g.z : Int)) hw (by omega) (by omega)
  have ll2 : Ok ((2 : Nat) ≤ LIM) := by show (2 : Nat) ≤ 1000000; omega
  have ll3 : Ok ((3 : Nat) ≤ LIM) := by show (3 : Nat) ≤ 1000000; omega
  have oz := or_nat f.z f.o
  have og := or_nat g.z g.o
  have an := and_nat (f.z ||| f.o) (g.z ||| g.o)
  have z0 : (PyData.int 0) = natD 0 := rfl
  have sget : ∀ o : Ob, (S ++ [o])[S.length]? = some o := fun o => by simp
  have sset : ∀ o o' : Ob, (S ++ [o]).set S.length o' = S ++ [o'] := fun o o' => by simp
  have s7 : sh_L_due_s7 [some (.d (wD wd)), some (.d (.int (w : Int))), some (.d f.toD), some (.d g.toD), none, none, none, none, none, none, none] S = some (.nx [some (.d (wD wd)), some (.d (.int (w : Int))), some (.d f.toD), some (.d g.toD), some (.r S.length), none, none, none, none, none, none], (S ++ [.lst [natD (0), natD (0)]])) := by
    simp only [sh_L_due_s7_e, mAsg_e, mLstM_e, mCons_e, mNil_e, mVar_e, mC_e, env_0, env_S, Option.bind_some, Option.map_some, List.set_cons_zero, List.set_cons_succ, toDs_cons, toDs_nil, toD_d, List.length_cons (α := PyData), List.length_nil (α := PyData), Nat.reduceAdd, ll2, if_true, z0]
  have s8 : sh_L_due_s8 [some (.d (wD wd)), some (.d (.int (w : Int))), some (.d f.toD), some (.d g.toD), some (.r S.length), none, none, none, none, none, none] (S ++ [.lst [natD (0), natD (0)]]) = some (.nx [some (.d (wD wd)), some (.d (.int (w : Int))), some (.d f.toD), some (.d g.toD), some (.r S.length), some (.d (.int (lowK f g : Nat))), none, none, none, none, none], (S ++ [.lst [natD (0), natD (0)]])) := by
    simp only [sh_L_due_s8_e, mAsg_e, mBin_e, mCall_e, mBi_e, mCons_e, mNil_e, mVar_e, mC_e, env_0, env_S, Option.bind_some, Option.map_some, List.set_cons_zero, List.set_cons_succ, fi0, fi1, orW_ii, oz, og, andW_ii, an, ge]
  have s9 : sh_L_due_s9 [some (.d (wD wd)), some (.d (.int (w : Int))), some (.d f.toD), some (.d g.toD), some (.r S.length), some (.d (.int (lowK f g : Nat))), none, none, none, none, none] (S ++ [.lst [natD (0), natD (0)]]) = some (.nx [some (.d (wD wd)), some (.d (.int (w : Int))), some (.d f.toD), some (.d g.toD), some (.r S.length), some (.d (.int (lowK f g : Nat))), none, none, none, none, none], (S ++ [.lst [natD (2 ^ lowK f g - 1 - lowO wd f g), natD (lowO wd f g)]])) := by
    have lr : mLrg1 (mVar 5) [some (.d (wD wd)), some (.d (.int (w : Int))), some (.d f.toD), some (.d g.toD), some (.r S.length), some (.d (.int (lowK f g : Nat))), none, none, none, none, none] (S ++ [.lst [natD (0), natD (0)]]) = _ := lrg1_n (n := lowK f g) (by simp only [mVar_e, mC_e, env_0, env_S, Option.bind_some, Option.map_some, List.set_cons_zero, List.set_cons_succ]) (by omega)
    have nt := noted_e (S ++ [.lst [natD (0), natD (0)]]) S.length 0 0 (recI wd f.o g.o) 0 (lowK f g) (sget _) (by omega)
    rw [sset, low_o, low_z] at nt
    simp only [sh_L_due_s9_e, mExpr_e, mBin_e, mCall_e, mBi_e, mCons_e, mNil_e, mVar_e, mC_e, env_0, env_S, Option.bind_some, Option.map_some, List.set_cons_zero, List.set_cons_succ, fi1, r1, lr, nt]
  have s10 : sh_L_due_s10 [some (.d (wD wd)), some (.d (.int (w : Int))), some (.d f.toD), some (.d g.toD), some (.r S.length), some (.d (.int (lowK f g : Nat))), none, none, none, none, none] (S ++ [.lst [natD (2 ^ lowK f g - 1 - lowO wd f g), natD (lowO wd f g)]]) = some (.nx [some (.d (wD wd)), some (.d (.int (w : Int))), some (.d f.toD), some (.d g.toD), some (.r S.length), some (.d (.int (lowK f g : Nat))), some (.d (.int ((2 ^ w - 1 : Nat) : Int))), none, none, none, none], (S ++ [.lst [natD (2 ^ lowK f g - 1 - lowO wd f g), natD (lowO wd f g)]])) := by
    simp (disch := omega) only [sh_L_due_s10_e, mAsg_e, mBin_e, mVar_e, mC_e, env_0, env_S, Option.bind_some, Option.map_some, List.set_cons_zero, List.set_cons_succ, shlW_1, Int.toNat_natCast, subW_ii, pow1_int]
  generalize hz1 : 2 ^ lowK f g - 1 - lowO wd f g = z1 at *
  generalize ho1 : lowO wd f g = o1 at *
  have s11 : (mSeq sh_L_due_s11 sh_L_due_s12) [some (.d (wD wd)), some (.d (.int (w : Int))), some (.d f.toD), some (.d g.toD), some (.r S.length), some (.d (.int (lowK f g : Nat))), some (.d (.int ((2 ^ w - 1 : Nat) : Int))), none, none, none, none] (S ++ [.lst [natD (z1), natD (o1)]]) = some (.nx [some (.d (wD wd)), some (.d (.int (w : Int))), some (.d f.toD), some (.d g.toD), some (.r S.length), some (.d (.int (lowK f g : Nat))), some (.d (.int ((2 ^ w - 1 : Nat) : Int))), some (.d (.list [.int (endI wd f g w).1, .int (endI wd f g w).2])), none, none, none], (S ++ [.lst [natD (z1), natD (o1)]])) := by
    rcases hw with rfl | rfl | rfl
    · simp only [mSeq_e, sh_L_due_s11_e, sh_L_due_s12_e, mLst_e, mAsg_e, mIfS_e, mB_e, mBin_e, mCall_e, mBi_e, mCons_e, mNil_e, mVar_e, mC_e, env_0, env_S, Option.bind_some, Option.map_some, List.set_cons_zero, List.set_cons_succ, fi0, fi1, subW_ii, r1, r2, toDs_cons, toDs_nil, toD_d, List.length_cons (α := PyData), List.length_nil (α := PyData), Nat.reduceAdd, ll2, if_true, wc_sub, eqW_ww, reduceCtorEq, decide_false, Bool.false_eq_true, if_false, mSkip_e, endI]
    · simp only [mSeq_e, sh_L_due_s11_e, sh_L_due_s12_e, mLst_e, mAsg_e, mIfS_e, mB_e, mBin_e, mCall_e, mBi_e, mCons_e, mNil_e, mVar_e, mC_e, env_0, env_S, Option.bind_some, Option.map_some, List.set_cons_zero, List.set_cons_succ, fi0, fi1, subW_ii, r1, r2, toDs_cons, toDs_nil, toD_d, List.length_cons (α := PyData), List.length_nil (α := PyData), Nat.reduceAdd, ll2, if_true, wc_sub, eqW_ww, decide_true, endI]
    · simp only [mSeq_e, sh_L_due_s11_e, sh_L_due_s12_e, mLst_e, mAsg_e, mIfS_e, mB_e, mBin_e, mCall_e, mBi_e, mCons_e, mNil_e, mVar_e, mC_e, env_0, env_S, Option.bind_some, Option.map_some, List.set_cons_zero, List.set_cons_succ, fi0, fi1, subW_ii, r1, r2, toDs_cons, toDs_nil, toD_d, List.length_cons (α := PyData), List.length_nil (α := PyData), Nat.reduceAdd, ll2, if_true, wc_sub, eqW_ww, reduceCtorEq, decide_false, Bool.false_eq_true, if_false, mSkip_e, endI]
  have i0 : ∀ (a b : Int), atI [PyData.int a, .int b] 0 = some (.int a) := fun _ _ => rfl
  have i1 : ∀ (a b : Int), atI [PyData.int a, .int b] 1 = some (.int b) := fun _ _ => rfl
  have s13 : ∃ x8 : Option W, sh_L_due_s13 [some (.d (wD wd)), some (.d (.int (w : Int))), some (.d f.toD), some (.d g.toD), some (.r S.length), some (.d (.int (lowK f g : Nat))), some (.d (.int ((2 ^ w - 1 : Nat) : Int))), some (.d (.list [.int (endI wd f g w).1, .int (endI wd f g w).2])), none, none, none] (S ++ [.lst [natD (z1), natD (o1)]]) = some (.nx [some (.d (wD wd)), some (.d (.int (w : Int))), some (.d f.toD), some (.d g.toD), some (.r S.length), some (.d (.int (lowK f g : Nat))), some (.d (.int ((2 ^ w - 1 : Nat) : Int))), some (.d (.list [.int (endI wd f g w).1, .int (endI wd f g w).2])), x8, none, none], (S ++ [.lst [natD (z1 ||| (topF wd f g w).1), natD (o1 ||| (topF wd f g w).2)]])) := by
    unfold topF
    generalize (endI wd f g w).1 = lo at *
    generalize (endI wd f g w).2 = hi at *
    by_cases c : lo < 0 ∨ ((2 ^ w - 1 : Nat) : Int) < hi
    · refine ⟨none, ?_⟩
      rw [if_pos c]
      simp only [Nat.or_zero]
      by_cases c1 : lo < 0
      · have : ¬ 0 ≤ lo := by omega
        simp only [sh_L_due_s13_e, mIfS_e, mAnd_e, mB_e, mBin_e, mVar_e, mC_e, env_0, env_S, Option.bind_some, Option.map_some, List.set_cons_zero, List.set_cons_succ, ixW_l, i0, i1, leC, this, decide_false, Bool.false_eq_true, if_false, mSkip_e]
      · have c2 : 0 ≤ lo := by omega
        have c3 : ¬ hi ≤ ((2 ^ w - 1 : Nat) : Int) := by omega
        simp only [sh_L_due_s13_e, mIfS_e, mAnd_e, mB_e, mBin_e, mVar_e, mC_e, env_0, env_S, Option.bind_some, Option.map_some, List.set_cons_zero, List.set_cons_succ, ixW_l, i0, i1, leC, c2, c3, decide_true, decide_false, if_true, Bool.false_eq_true, if_false, mSkip_e]
    · rw [if_neg c]
      obtain ⟨a, ea⟩ : ∃ a : Nat, lo = (a : Int) := ⟨lo.toNat, by omega⟩
      obtain ⟨b, eb⟩ : ∃ b : Nat, hi = (b : Int) := ⟨hi.toNat, by omega⟩
      subst ea eb
      have ha : a < 2 ^ w := by omega
      have hb : b < 2 ^ w := by omega
      have hsr := shR_le ha hb
      have c2 : (0 : Int) ≤ (a : Int) := by omega
      have c3 : (b : Int) ≤ ((2 ^ w - 1 : Nat) : Int) := by omega
      simp only [Int.toNat_natCast]
      refine ⟨some (.d (.int ((shR a b : Nat) : Int))), ?_⟩
      have dl := dtop_loop (S ++ [.lst [natD (z1), natD (o1)]]) a b (some (.d (wD wd))) (some (.d (.int (w : Int)))) (some (.d f.toD)) (some (.d g.toD)) (some (.r S.length)) (some (.d (.int (lowK f g : Nat)))) (some (.d (.int ((2 ^ w - 1 : Nat) : Int)))) none none w (by omega) fun i hi => by
        rw [lt_bits.mp ha i hi, lt_bits.mp hb i hi]
      have lr : mLrg2 (mVar 8) (mVar 1) [some (.d (wD wd)), some (.d (.int (w : Int))), some (.d f.toD), some (.d g.toD), some (.r S.length), some (.d (.int (lowK f g : Nat))), some (.d (.int ((2 ^ w - 1 : Nat) : Int))), some (.d (.list [.int (a : Int), .int (b : Int)])), some (.d (.int ((shR a b : Nat) : Int))), none, none] (S ++ [.lst [natD (z1), natD (o1)]]) = _ := lrg2_n (k := shR a b) (n := w) (by simp only [mVar_e, mC_e, env_0, env_S, Option.bind_some, Option.map_some, List.set_cons_zero, List.set_cons_succ]) (by simp only [mVar_e, mC_e, env_0, env_S, Option.bind_some, Option.map_some, List.set_cons_zero, List.set_cons_succ]) hsr (by omega)
      have nt := noted_e (S ++ [.lst [natD (z1), natD (o1)]]) S.length z1 o1 (a : Int) (shR a b) (w - shR a b) (sget _) (by omega)
      rw [sset, top_o hsr, top_z hsr] at nt
      simp only [sh_L_due_s13_e, mIfS_e, mAnd_e, mB_e, mBin_e, mVar_e, mC_e, env_0, env_S, Option.bind_some, Option.map_some, List.set_cons_zero, List.set_cons_succ, ixW_l, i0, i1, leC, c2, c3, decide_true, if_true, mSeq_e, sh_L_due_s1_e, sh_L_due_s2_e, sh_L_due_s3_e, mAsg_e, dl, mExpr_e, mCall_e, mBi_e, mCons_e, mNil_e, lr, nt]
  obtain ⟨x8, s13⟩ := s13
  generalize hz2 : z1 ||| (topF wd f g w).1 = z2 at *
  generalize ho2 : o1 ||| (topF wd f g w).2 = o2 at *
  have mi := minI f.k g.k
  have mx : (if (1 : Int) < ((min f.k g.k : Nat) : Int) - 1 then ((min f.k g.k : Nat) : Int) - 1 else 1) = ((max 1 (min f.k g.k - 1) : Nat) : Int) := by split <;> omega
  have s14 : sh_L_due_s14 [some (.d (wD wd)), some (.d (.int (w : Int))), some (.d f.toD), some (.d g.toD), some (.r S.length), some (.d (.int (lowK f g : Nat))), some (.d (.int ((2 ^ w - 1 : Nat) : Int))), some (.d (.list [.int (endI wd f g w).1, .int (endI wd f g w).2])), x8, none, none] (S ++ [.lst [natD (z2), natD (o2)]]) = some (.nx [some (.d (wD wd)), some (.d (.int (w : Int))), some (.d f.toD), some (.d g.toD), some (.r S.length), some (.d (.int (lowK f g : Nat))), some (.d (.int ((2 ^ w - 1 : Nat) : Int))), some (.d (.list [.int (endI wd f g w).1, .int (endI wd f g w).2])), x8, some (.d (.int ((max 1 (min f.k g.k - 1) : Nat) : Int))), none], (S ++ [.lst [natD (z2), natD (o2)]])) := by
    simp only [sh_L_due_s14_e, mAsg_e, mBi_e, mBin_e, mCons_e, mNil_e, mVar_e, mC_e, env_0, env_S, Option.bind_some, Option.map_some, List.set_cons_zero, List.set_cons_succ, fi2, int2_e, gt_iff_lt, mi, subW_ii, mx]
  have s15 : ∃ x10 : Option W, sh_L_due_s15 [some (.d (wD wd)), some (.d (.int (w : Int))), some (.d f.toD), some (.d g.toD), some (.r S.length), some (.d (.int (lowK f g : Nat))), some (.d (.int ((2 ^ w - 1 : Nat) : Int))), some (.d (.list [.int (endI wd f g w).1, .int (endI wd f g w).2])), x8, some (.d (.int ((max 1 (min f.k g.k - 1) : Nat) : Int))), none] (S ++ [.lst [natD (z2), natD (o2)]]) = some (.nx [some (.d (wD wd)), some (.d (.int (w : Int))), some (.d f.toD), some (.d g.toD), some (.r S.length), some (.d (.int (lowK f g : Nat))), some (.d (.int ((2 ^ w - 1 : Nat) : Int))), some (.d (.list [.int (endI wd f g w).1, .int (endI wd f g w).2])), x8, some (.d (.int ((sumF wd f g w).k : Int))), x10], (S ++ [.lst [natD (z2 ||| lowZ wd f g w), natD (o2)]])) := by
    by_cases c : wd = .mul
    · subst c
      have g1 : ∀ T, sh_L_gapless [.d (.int (f.z : Int)), .d (.int (w : Int))] T = some (.int (lowR f.z : Nat), T) := fun T => gapless_e T _ w hf.1 h64
      have g2 : ∀ T, sh_L_gapless [.d (.int (g.z : Int)), .d (.int (w : Int))] T = some (.int (lowR g.z : Nat), T) := fun T => gapless_e T _ w hg.1 h64
      have mi2 := minI w (lowR f.z + lowR g.z)
      rw [Int.natCast_add] at mi2
      have ek : (sumF .mul f g w).k = 1 := rfl
      have ez : lowZ .mul f g w = 2 ^ min w (lowR f.z + lowR g.z) - 1 := rfl
      rw [ek, ez]
      refine ⟨some (.d (.int ((min w (lowR f.z + lowR g.z) : Nat) : Int))), ?_⟩
      have lr : mLrg1 (mVar 10) [some (.d (wD .mul)), some (.d (.int (w : Int))), some (.d f.toD), some (.d g.toD), some (.r S.length), some (.d (.int (lowK f g : Nat))), some (.d (.int ((2 ^ w - 1 : Nat) : Int))), some (.d (.list [.int (endI .mul f g w).1, .int (endI .mul f g w).2])), x8, some (.d (.int 1)), some (.d (.int ((min w (lowR f.z + lowR g.z) : Nat) : Int)))] (S ++ [.lst [natD (z2), natD (o2)]]) = _ := lrg1_n (n := min w (lowR f.z + lowR g.z)) (by simp only [mVar_e, mC_e, env_0, env_S, Option.bind_some, Option.map_some, List.set_cons_zero, List.set_cons_succ]) (by omega)
      have nt := noted_e (S ++ [.lst [natD (z2), natD (o2)]]) S.length z2 o2 0 0 (min w (lowR f.z + lowR g.z)) (sget _) (by omega)
      rw [sset, many_z, many_o] at nt
      simp only [sh_L_due_s15_e, mIfS_e, mB_e, mBin_e, mVar_e, mC_e, env_0, env_S, Option.bind_some, Option.map_some, List.set_cons_zero, List.set_cons_succ, wc_mul, eqW_ww, decide_true, if_true, mSeq_e, sh_L_due_s4_e, sh_L_due_s5_e, sh_L_due_s6_e, mAsg_e, mExpr_e, mCall_e, mBi_e, mCons_e, mNil_e, fi0, g1, g2, addW_ii, int2_e, mi2, lr, nt]
      rfl
    · have ek : (sumF wd f g w).k = max 1 (min f.k g.k - 1) := by
        rcases hw with rfl | rfl | rfl
        · rfl
        · rfl
        · exact absurd rfl c
      have ez : lowZ wd f g w = 0 := by
        rcases hw with rfl | rfl | rfl
        · rfl
        · rfl
        · exact absurd rfl c
      rw [ek, ez, Nat.or_zero]
      refine ⟨none, ?_⟩
      simp only [sh_L_due_s15_e, mIfS_e, mB_e, mBin_e, mVar_e, mC_e, env_0, env_S, Option.bind_some, Option.map_some, List.set_cons_zero, List.set_cons_succ, wc_mul, eqW_ww, c, decide_false, Bool.false_eq_true, if_false, mSkip_e]
  obtain ⟨x10, s15⟩ := s15
  have et : sumF wd f g w = ⟨z2 ||| lowZ wd f g w, o2, (sumF wd f g w).k⟩ := by
    rw [← hz2, ← ho2, ← hz1, ← ho1]; rfl
  have ce : ∀ T, sh_L_closed [.d (sumF wd f g w).toD, .d (.int (w : Int))] T = some (((sumF wd f g w).closed w).toD, T) := fun T => closedL_e T _ w h64 hs
  generalize (sumF wd f g w).k = kk at *
  have fd : PyData.tuple [natD (z2 ||| lowZ wd f g w), natD o2, .int (kk : Int)] = (sumF wd f g w).toD := by rw [et]; rfl
  have n0 : ∀ T : Ob → Sto, True := fun _ => trivial
  have gl : getL (S ++ [.lst [natD (z2 ||| lowZ wd f g w), natD (o2)]]) (.r S.length) = some [natD (z2 ||| lowZ wd f g w), natD o2] := by simp [getL]
  have a0 : atI [natD (z2 ||| lowZ wd f g w), natD o2] 0 = some (natD (z2 ||| lowZ wd f g w)) := rfl
  have a1 : atI [natD (z2 ||| lowZ wd f g w), natD o2] 1 = some (natD o2) := rfl
  have s16 : sh_L_due_s16 [some (.d (wD wd)), some (.d (.int (w : Int))), some (.d f.toD), some (.d g.toD), some (.r S.length), some (.d (.int (lowK f g : Nat))), some (.d (.int ((2 ^ w - 1 : Nat) : Int))), some (.d (.list [.int (endI wd f g w).1, .int (endI wd f g w).2])), x8, some (.d (.int (kk : Int))), x10] (S ++ [.lst [natD (z2 ||| lowZ wd f g w), natD (o2)]]) = some (.rt (.d ((sumF wd f g w).closed w).toD), (S ++ [.lst [natD (z2 ||| lowZ wd f g w), natD (o2)]])) := by
    simp only [sh_L_due_s16_e, mRet_e, mTup_e, mBin_e, mCall_e, mBi_e, mCons_e, mNil_e, mVar_e, mC_e, env_0, env_S, Option.bind_some, Option.map_some, List.set_cons_zero, List.set_cons_succ, ixW_r, gl, a0, a1, toDs_cons, toDs_nil, toD_d, List.length_cons (α := PyData), List.length_nil (α := PyData), Nat.reduceAdd, ll3, if_true, fd, ce]
  have tk : (S ++ [Ob.lst [natD (z2 ||| lowZ wd f g w), natD (o2)]]).take S.length = S := by simp
  simp only [mSeq_e] at s11
  cases e11 : sh_L_due_s11 [some (.d (wD wd)), some (.d (.int (w : Int))), some (.d f.toD), some (.d g.toD), some (.r S.length), some (.d (.int (lowK f g : Nat))), some (.d (.int ((2 ^ w - 1 : Nat) : Int))), none, none, none, none] (S ++ [.lst [natD (z1), natD (o1)]]) with
  | none => rw [e11] at s11; simp at s11
  | some p =>
    rw [e11] at s11
    simp only [Option.bind_some] at s11
    simp only [sh_L_due, mDef, mSeq_e, List.map_cons (f := some), List.map_nil (f := some), List.length_cons (α := W), List.length_nil (α := W), List.replicate, List.cons_append, List.nil_append, Nat.reduceSub, Nat.reduceAdd, s7, s8, s9, s10, Option.bind_some, e11]
    obtain ⟨fl, S'⟩ := p
    cases fl with
    | nx E =>
      simp only at s11 ⊢
      simp only [s11, s13, s14, s15, s16, Option.bind_some, toD_d, Option.map_some, tk]
    | rt _ => simp at s11
    | bk _ => simp at s11
    | ct _ => simp at s11

theorem neW_fct (S : Sto) (f : Fct) : neW (.d f.toD) (.d f.toD) S = some (.bool false) := by
  have h1 : SeqAt.shaped f.toD = true := (shaped_flat (xs := [natD f.z, natD f.o, natD f.k]) fun x hx => by
    simp only [List.mem_cons, List.not_mem_nil, or_false] at hx
    rcases hx with rfl | rfl | rfl <;> simp [natD, PyData.canLay0, PyData.depth]).2
  have e : PyData.eqv f.toD f.toD = true := by simp [Fct.toD, natD, PyData.eqv, PyData.eqvAll]
  simp [neW, datW, eqD, h1, e]
theorem body_e (S : Sto) (ns : List Int) (B : Nat) (h : Rd ns 0 B S) (hB : B + 100 ≤ 1000000000) (x0 x2 x3 x4 x5 x6 : Option W) :
    ∃ (S' : Sto) (a3 a4 a5 a6 : Option W), sh_L_law_b1 [x0, some (.r 0), x2, x3, x4, x5, x6] S = some (.nx [x0, some (.r 0), x2, a3, a4, a5, a6], S') ∧ Rd ns 0 (B + 100) S' := by
  obtain ⟨i, S1, hi, e1, r1, o1⟩ := draw_e S ns 0 B 3 h (by omega) (by omega) (by omega)
  obtain ⟨w, S2, w1, w2, e2, r2, o2⟩ := width_e S1 ns 0 (B + 1) r1 (by omega)
  obtain ⟨f, v, S3, fw, hv, fh, e3, r3, o3⟩ := fact_e S2 ns 0 (B + 4) w r2 (by omega) w1 w2
  obtain ⟨g, u, S4, gw, hu, gh, e4, r4, o4⟩ := fact_e S3 ns 0 (B + 4 + 13) w r3 (by omega) w1 w2
  obtain ⟨d, S5, hd, e5, r5, o5⟩ := draw_e S4 ns 0 (B + 4 + 13 + 13) 6 r4 (by omega) (by omega) (by omega)
  have hi' : i < ([.add, .sub, .mul] : List Wd).length := by simp; omega
  have hwd : ([wD .add, wD .sub, wD .mul] : List PyData)[i]? = some (wD ([.add, .sub, .mul] : List Wd)[i]) := by
    rw [show ([wD .add, wD .sub, wD .mul] : List PyData) = ([.add, .sub, .mul] : List Wd).map wD from rfl, List.getElem?_map, List.getElem?_eq_getElem hi']; rfl
  have hm : ([.add, .sub, .mul] : List Wd)[i] = .add ∨ ([.add, .sub, .mul] : List Wd)[i] = .sub ∨ ([.add, .sub, .mul] : List Wd)[i] = .mul := by
    have := List.getElem_mem hi'
    simpa only [List.mem_cons, List.not_mem_nil, or_false] using this
  generalize ([.add, .sub, .mul] : List Wd)[i] = wd at hwd hm
  have cut4 : ∀ (f : Fct) (v : Nat) (S : Sto), slW (.d (.tuple [natD f.z, natD f.o, natD f.k, natD v])) none (some 3) S = some f.toD := fun _ _ _ => rfl
  have s1 : sh_L_law_s1 [x0, some (.r 0), x2, x3, x4, x5, x6] S = some (.nx [x0, some (.r 0), x2, some (.d (wD wd)), x4, x5, x6], S1) := by
    simp only [sh_L_law_s1_e, mAsg_e, mBin_e, mLst_e, mCall_e, mBi_e, mCons_e, mNil_e, mVar_e, mC_e, env_0, env_S, Option.bind_some, Option.map_some, List.set_cons_zero, List.set_cons_succ, toDs_cons, toDs_nil, toD_d, List.length_cons (α := PyData), List.length_nil (α := PyData), ok_le, Nat.reduceAdd, Nat.reduceLeDiff, if_true, e1, ixW_l, atI_nat', wc_add, wc_sub, wc_mul, hwd]
  have s2 : sh_L_law_s2 [x0, some (.r 0), x2, some (.d (wD wd)), x4, x5, x6] S1 = some (.nx [x0, some (.r 0), x2, some (.d (wD wd)), some (.d (.int w)), x5, x6], S2) := by simp [sh_L_law_s2_e, e2]
  have s3 : sh_L_law_s3 [x0, some (.r 0), x2, some (.d (wD wd)), some (.d (.int w)), x5, x6] S2 = some (.nx [x0, some (.r 0), x2, some (.d (wD wd)), some (.d (.int w)), some (.d f.toD), x6], S3) := by
    simp only [sh_L_law_s3_e, mAsg_e, mSl_e, oNone_e, oSome_e, mCall_e, mBi_e, mCons_e, mNil_e, mVar_e, mC_e, env_0, env_S, Option.bind_some, Option.map_some, List.set_cons_zero, List.set_cons_succ, e3, cut4]
  have s4 : sh_L_law_s4 [x0, some (.r 0), x2, some (.d (wD wd)), some (.d (.int w)), some (.d f.toD), x6] S3 = some (.nx [x0, some (.r 0), x2, some (.d (wD wd)), some (.d (.int w)), some (.d f.toD), some (.d g.toD)], S4) := by
    simp only [sh_L_law_s4_e, mAsg_e, mSl_e, oNone_e, oSome_e, mCall_e, mBi_e, mCons_e, mNil_e, mVar_e, mC_e, env_0, env_S, Option.bind_some, Option.map_some, List.set_cons_zero, List.set_cons_succ, e4, cut4]
  have s5 : ∃ (h : Fct) (u : Nat) (S6 : Sto), h.wf w ∧ u < 2 ^ w ∧ h.holds u w ∧ sh_L_law_s5 [x0, some (.r 0), x2, some (.d (wD wd)), some (.d (.int w)), some (.d f.toD), some (.d g.toD)] S4 = some (.nx [x0, some (.r 0), x2, some (.d (wD wd)), some (.d (.int w)), some (.d f.toD), some (.d h.toD)], S6) ∧ Rd ns 0 (B + 60) S6 := by
    by_cases c : d = 0
    · subst c
      simp only [Int.natCast_zero] at e5
      obtain ⟨h, u, S6, a1, a2, a3, e6, r6, o6⟩ := near_e S5 ns 0 (B + 4 + 13 + 13 + 1) wd w f r5 (by omega) w1 w2 hm fw
      refine ⟨h, u, S6, a1, a2, a3, ?_, r6.mono (by omega)⟩
      simp only [sh_L_law_s5_e, mIfS_e, mB_e, mBin_e, mAsg_e, mCall_e, mBi_e, mCons_e, mNil_e, mVar_e, mC_e, env_0, env_S, Option.bind_some, Option.map_some, List.set_cons_zero, List.set_cons_succ, e5, eqW_ii, decide_true, if_true, e6]
    · refine ⟨g, u, S5, gw, hu, gh, ?_, r5.mono (by omega)⟩
      have c' : ¬ ((d : Int) = 0) := by omega
      simp only [sh_L_law_s5_e, mIfS_e, mB_e, mBin_e, mAsg_e, mCall_e, mBi_e, mCons_e, mNil_e, mVar_e, mC_e, env_0, env_S, Option.bind_some, Option.map_some, List.set_cons_zero, List.set_cons_succ, e5, eqW_ii, c', decide_false, Bool.false_eq_true, if_false, mSkip_e]
  obtain ⟨h', u', S6, hw', hu', hh', s5, r6⟩ := s5
  have dn : Drn [f, h'] [v, u'] [w, w] := Drn.cons fw hv fh (Drn.one hw' hu' hh')
  obtain ⟨_, sw⟩ := sum_h3 (r := ⟨wd, w, [0, 1]⟩) hm w2 fw hw' hv hu' ((h3_iff fw hv).mp fh) ((h3_iff hw' hu').mp hh')
  simp only at sw
  have ft : (Rw.mk wd w [0, 1]).fit [w, w] := by
    refine ⟨w1, w2, ?_⟩
    rcases hm with rfl | rfl | rfl <;> exact ⟨rfl, 0, 1, rfl⟩
  have en := dn.ends ft
  have te : toldF ⟨wd, w, [0, 1]⟩ [w, w] [f, h'] = sumF wd f h' w := by
    rcases hm with rfl | rfl | rfl <;> rfl
  have re : ∀ T, sh_rules_rule [.d (Rw.mk wd w [0, 1]).toD, .d (.tuple ([w, w].map natD)), .d (.tuple ([f, h'].map Fct.toD))] T = _ := fun T => rule_e T ⟨wd, w, [0, 1]⟩ [w, w] [f, h'] ft dn.good en (by rw [te]; exact sw)
  have rf : ruleF ⟨wd, w, [0, 1]⟩ [w, w] [f, h'] = (sumF wd f h' w).closed w := by
    unfold ruleF; rw [te]
  simp only [rf] at re
  have rd : (Rw.mk wd w [0, 1]).toD = .tuple [wD wd, .int (w : Int), .int 0, .int 1] := rfl
  have wm : [w, w].map natD = [.int (w : Int), .int (w : Int)] := rfl
  have fm : [f, h'].map Fct.toD = [f.toD, h'.toD] := rfl
  rw [rd, wm, fm] at re
  have du : ∀ T, sh_L_due [.d (wD wd), .d (.int (w : Int)), .d f.toD, .d h'.toD] T = _ := fun T => due_e T wd f h' w hm w1 w2 fw hw' sw (en f h' rfl hm)
  have ll2 : Ok ((2 : Nat) ≤ LIM) := by show (2 : Nat) ≤ 1000000; omega
  have ll4 : Ok ((4 : Nat) ≤ LIM) := by show (4 : Nat) ≤ 1000000; omega
  have s6 : sh_L_law_s6 [x0, some (.r 0), x2, some (.d (wD wd)), some (.d (.int w)), some (.d f.toD), some (.d h'.toD)] S6 = some (.nx [x0, some (.r 0), x2, some (.d (wD wd)), some (.d (.int w)), some (.d f.toD), some (.d h'.toD)], S6) := by
    simp only [sh_L_law_s6_e, mIfS_e, mB_e, mBin_e, mTup_e, mCall_e, mBi_e, mCons_e, mNil_e, mVar_e, mC_e, env_0, env_S, Option.bind_some, Option.map_some, List.set_cons_zero, List.set_cons_succ, toDs_cons, toDs_nil, toD_d, List.length_cons (α := PyData), List.length_nil (α := PyData), Nat.reduceAdd, ll2, ll4, if_true, re, du, neW_fct, Bool.false_eq_true, if_false, mSkip_e]
  refine ⟨S6, some (.d (wD wd)), some (.d (.int w)), some (.d f.toD), some (.d h'.toD), ?_, r6.mono (by omega)⟩
  simp only [sh_L_law_b1_e, mSeq_e, s1, s2, s3, s4, s5, s6, Option.bind_some]
theorem law_true : ∀ ns : List Int, ns.length ≤ 63 → (∀ z ∈ ns, Builtin.Int.intBits z ≤ 1048576) → ∃ S', sh_L_law [.d (scr ns)] [] = some (.bool true, S') := by
  intro ns h1 h2
  have r0 : Rd ns 0 0 [stO ns 0 0] := ⟨0, 0, rfl, by omega⟩
  obtain ⟨m, hm, em⟩ : ∃ m : Nat, m ≤ 8 ∧ 1 + (if (ns.length : Int) / 8 < 5 then (ns.length : Int) / 8 else 5) = (m : Int) := by
    split
    · exact ⟨1 + ns.length / 8, by omega, by omega⟩
    · exact ⟨6, by omega, rfl⟩
  have s7 : sh_L_law_s7 [some (.d (scr ns)), none, none, none, none, none, none] [] = some (.nx [some (.d (scr ns)), some (.r 0), none, none, none, none, none], [stO ns 0 0]) := by
    simp [sh_L_law_s7_e]
  obtain ⟨env', S', e, _⟩ := forL_inv (g := fun _ => True) (f := gN 2) (b := sh_L_law_b1) (rangeD 0 m) (fun i env S => ∃ a2 a3 a4 a5 a6 : Option W, env = [some (.d (scr ns)), some (.r 0), a2, a3, a4, a5, a6] ∧ Rd ns 0 (100 * i) S) (fun i hi env S hI => by
    obtain ⟨a2, a3, a4, a5, a6, rfl, rd⟩ := hI
    have hi' : i < m := by simpa [rangeD] using hi
    obtain ⟨S1, b3, b4, b5, b6, e1, r1⟩ := body_e S ns (100 * i) rd (by omega) (some (.d (scr ns))) (some (.d (rangeD 0 m)[i])) a3 a4 a5 a6
    exact ⟨trivial, _, _, S1, rfl, .inl e1, _, b3, b4, b5, b6, rfl, r1.mono (by omega)⟩) (fun _ _ _ => trivial) [some (.d (scr ns)), some (.r 0), none, none, none, none, none] [stO ns 0 0] ⟨_, _, _, _, _, rfl, r0.mono (by omega)⟩
  have s8 : sh_L_law_s8 [some (.d (scr ns)), some (.r 0), none, none, none, none, none] [stO ns 0 0] = some (.nx env', S') := by
    simp only [sh_L_law_s8_e, mFor_e, mRng1_e, mBi_e, mBin_e, mCons_e, mNil_e, mVar_e, mC_e, env_0, env_S, Option.bind_some, Option.map_some, lenW_d, fdivW_e _ _ 8 (by decide) (by decide), addW_ii, int2_e, List.length_map, em, rng1_e _ (m : Int) (by omega) (by omega), Int.toNat_natCast, e]
  refine ⟨S'.take 0, ?_⟩
  simp only [sh_L_law, mDef, mSeq_e, List.map_cons, List.map_nil, List.length_cons, List.length_nil, List.replicate, Nat.reduceSub, Nat.reduceAdd, List.cons_append, List.nil_append, s7, s8, Option.bind_some, sh_L_law_s9_e, mRet_e, mC_e, Option.map_some, toD_d]
def topS (i : Nat) : Stmt := PySem.Challenge.pw_fewbits_k44_sums_known.main.body.getD i (.Pass ⟨0, 0, 0, 0⟩)
abbrev s_L_draw : Stmt := topS 32
abbrev s_L_width : Stmt := topS 34
abbrev s_L_number : Stmt := topS 33
abbrev s_L_num : Stmt := topS 35
abbrev s_L_top_run : Stmt := topS 36
abbrev s_L_alike : Stmt := topS 37
abbrev s_L_fact : Stmt := topS 38
abbrev s_L_near : Stmt := topS 45
abbrev s_bits_full : Stmt := topS 1
abbrev s_bits_top_run : Stmt := topS 5
abbrev s_facts_closed : Stmt := topS 11
abbrev s_rules_truth : Stmt := topS 25
abbrev s_rules_bitwise : Stmt := topS 21
abbrev s_bits_low_run : Stmt := topS 4
abbrev s_sums_reckoned : Stmt := topS 13
abbrev s_facts_least : Stmt := topS 9
abbrev s_sums_low_bits : Stmt := topS 14
abbrev s_facts_greatest : Stmt := topS 10
abbrev s_sums_ends : Stmt := topS 15
abbrev s_bits_reach : Stmt := topS 2
abbrev s_bits_below : Stmt := topS 3
abbrev s_bits_shared_top : Stmt := topS 7
abbrev s_sums_top_bits : Stmt := topS 16
abbrev s_sums_low_noughts : Stmt := topS 17
abbrev s_sums_alike_of_sum : Stmt := topS 18
abbrev s_sums_sum_fact : Stmt := topS 19
abbrev s_bits_stretched : Stmt := topS 6
abbrev s_rules_shifted : Stmt := topS 22
abbrev s_rules_fitted : Stmt := topS 23
abbrev s_rules_picked : Stmt := topS 28
abbrev s_rules_less_known : Stmt := topS 26
abbrev s_rules_top_turned : Stmt := topS 24
abbrev s_rules_compared : Stmt := topS 27
abbrev s_rules_told_by : Stmt := topS 29
abbrev s_rules_rule : Stmt := topS 30
abbrev s_L_gapless : Stmt := topS 42
abbrev s_L_noted : Stmt := topS 43
abbrev s_L_closed : Stmt := topS 40
abbrev s_L_outcome : Stmt := topS 41
abbrev s_L_due : Stmt := topS 44
abbrev s_L_law : Stmt := topS 46
theorem hu65 {A : Around} {k : Nat} (hr : Room k A) : A.units + 65 < cLine := by have := hr.un; omega
structure Cst (K : PySem.W.Frag) (mg : Str → Option Value) : Prop where
  b_len : mg "len" = none
  b_list : mg "list" = none
  b_max : mg "max" = none
  b_min : mg "min" = none
  b_range : mg "range" = none
  nil : True := trivial
abbrev FnAt (K : PySem.W.Frag) (mg : Str → Option Value) (y x : Str) (st : Stmt) : Prop := ∃ f fd, FunD K x x (defArgs st) (defBody st) (defScope st) [] [] f fd ∧ mg y = some (.ref f)
section
variable {P : Program} {w : World} {K : PySem.W.Frag} {mg : Str → Option Value} {base : Heap}
abbrev N_L_draw : List Str := ["_law_state", "_law_many", "_law_script", "_law_k", "_law_digit", "_law_cell"]
theorem sc_L_draw : FnScope N_L_draw ["_law_state", "_law_many"] (defScope s_L_draw) := ⟨rfl, rfl, rfl, by decide +kernel, rfl, by decide +kernel, by decide +kernel⟩
theorem ok_L_draw (C : Cst K mg) (hD : FnAt K mg "_law_draw" "_law_draw" s_L_draw) : Fn P w K mg base 1 "_law_draw" ["_law_state", "_law_many"] 2 sh_L_draw := by
  obtain ⟨f, fd, hd, hg⟩ := hD
  refine fn_mk (N := N_L_draw) hd hg sc_L_draw rfl (fun _ _ _ _ _ _ us hl => match us, hl with | [_, _], _ => rfl) rfl fun cdv A outer s H E hr => ?_
  have nd := sc_L_draw.nd
  exact (ss_cons (ss_asgL rfl (se_slice (se_var 0) so_none (so_some se_int)) (sgs_cons 2 nd rfl (by first | exact .inl rfl | exact .inr rfl) (sgs_cons 3 nd rfl (by first | exact .inl rfl | exact .inr rfl) sgs_nil)) rfl)
  (ss_cons (ss_setIx (se_var 0) se_int (se_op op_addA ops_add (se_var 3) se_int))
  (ss_cons (ss_if (sw_t (sw_and (st_cmp op_lt ops_cmp (se_op op_addA ops_add (se_op op_fdivW ops_fdiv (se_var 3) se_int) se_int) (se_callB call_len cas_len (by rfl) C.b_len (by decide +kernel) (sa_cons (se_var 2) sa_nil)) (nomark _)) (sw_and1 (st_cmp (op_eqA hr.units) ops_eq (se_op op_mod ops_mod (se_ix ix_seq ops_ix (se_var 2) se_int (fun _ _ => rfl)) se_int) se_int (nomark _))))) (ss_cons (ss_if (st_cmp (op_eqA hr.units) ops_eq (se_op op_mod ops_mod (se_var 3) se_int) se_int (nomark _)) (ss_one (ss_setIx (se_var 0) se_int (se_ix ix_seq ops_ix (se_var 2) (se_op op_addA ops_add (se_op op_fdivW ops_fdiv (se_var 3) se_int) se_int) (fun _ _ => rfl)))) ss_nil)
  (ss_cons (ss_set 4 nd rfl (by first | exact .inl rfl | exact .inr rfl) (se_op op_mod ops_mod (se_ix ix_seq ops_ix (se_var 0) se_int (fun _ _ => rfl)) (se_var 1)))
  (ss_cons (ss_setIx (se_var 0) se_int (se_op op_fdivW ops_fdiv (se_ix ix_seq ops_ix (se_var 0) se_int (fun _ _ => rfl)) (se_var 1)))
  (ss_one (ss_ret (se_var 4)))))) ss_nil)
  (ss_cons (ss_if (st_cmp op_lt ops_cmp (se_var 3) (se_callB call_len cas_len (by rfl) C.b_len (by decide +kernel) (sa_cons (se_var 2) sa_nil)) (nomark _)) (ss_one (ss_ret (se_op op_mod ops_mod (se_ix ix_seq ops_ix (se_var 2) (se_var 3) (fun _ _ => rfl)) (se_var 1)))) ss_nil)
  (ss_cons (ss_set 5 nd rfl (by first | exact .inl rfl | exact .inr rfl) (se_op op_addA ops_add (se_op op_mulL ops_mul (se_var 3) se_int) se_int))
  (ss_cons (ss_if (st_cmp op_gt ops_cmp (se_callB call_len cas_len (by rfl) C.b_len (by decide +kernel) (sa_cons (se_ix ix_seq ops_ix (se_var 0) se_int (fun _ _ => rfl)) sa_nil)) se_int (nomark _)) (ss_one (ss_set 5 nd rfl (by first | exact .inl rfl | exact .inr rfl) (se_op op_addA ops_add (se_var 5) (se_op op_mulL ops_mul (se_ix ix_seq ops_ix (se_ix ix_seq ops_ix (se_var 0) se_int (fun _ _ => rfl)) (se_op op_mod ops_mod (se_op op_mulL ops_mul (se_var 3) se_int) (se_callB call_len cas_len (by rfl) C.b_len (by decide +kernel) (sa_cons (se_ix ix_seq ops_ix (se_var 0) se_int (fun _ _ => rfl)) sa_nil))) (fun _ _ => rfl)) (se_op op_addA ops_add se_int (se_var 3)))))) ss_nil)
  (ss_cons (ss_set 5 nd rfl (by first | exact .inl rfl | exact .inr rfl) (se_op op_mod ops_mod (se_op op_mulL ops_mul (se_op op_mod ops_mod (se_var 5) se_int) (se_op op_addA ops_add (se_var 3) se_int)) se_int))
  (ss_cons (ss_set 5 nd rfl (by first | exact .inl rfl | exact .inr rfl) (se_op op_mod ops_mod (se_op op_mulL ops_mul (se_var 5) (se_var 5)) se_int))
  (ss_one (ss_ret (se_op op_mod ops_mod (se_op op_mod ops_mod (se_op op_mulL ops_mul (se_var 5) (se_var 5)) se_int) (se_var 1))))))))))))
abbrev N_L_width : List Str := ["_law_state"]
theorem sc_L_width : FnScope N_L_width ["_law_state"] (defScope s_L_width) := ⟨rfl, rfl, rfl, by decide +kernel, rfl, by decide +kernel, by decide +kernel⟩
theorem ok_L_width (C : Cst K mg) (hD : FnAt K mg "_law_width" "_law_width" s_L_width) (g_L_draw : Fn P w K mg base 1 "_law_draw" ["_law_state", "_law_many"] 2 sh_L_draw) : Fn P w K mg base 2 "_law_width" ["_law_state"] 1 sh_L_width := by
  obtain ⟨f, fd, hd, hg⟩ := hD
  refine fn_mk (N := N_L_width) hd hg sc_L_width rfl (fun _ _ _ _ _ _ us hl => match us, hl with | [_], _ => rfl) rfl fun cdv A outer s H E hr => ?_
  have nd := sc_L_width.nd
  exact (ss_one (ss_ret (se_ix ix_seq ops_ix (se_lst (sa_cons se_int (sa_cons se_int (sa_cons (se_op op_addA ops_add se_int (se_call (g_L_draw.up (by decide)) hr (by rfl) (sa_cons (se_var 0) (sa_cons se_int sa_nil)) (len_cons (len_cons len_nil)))) (sa_cons (se_op op_addA ops_add se_int (se_call (g_L_draw.up (by decide)) hr (by rfl) (sa_cons (se_var 0) (sa_cons se_int sa_nil)) (len_cons (len_cons len_nil)))) sa_nil))))) (se_call (g_L_draw.up (by decide)) hr (by rfl) (sa_cons (se_var 0) (sa_cons se_int sa_nil)) (len_cons (len_cons len_nil))) (fun _ _ => rfl))))
abbrev N_L_number : List Str := ["_law_state", "_law_width_here"]
theorem sc_L_number : FnScope N_L_number ["_law_state", "_law_width_here"] (defScope s_L_number) := ⟨rfl, rfl, rfl, by decide +kernel, rfl, by decide +kernel, by decide +kernel⟩
theorem ok_L_number (C : Cst K mg) (hD : FnAt K mg "_law_number" "_law_number" s_L_number) (g_L_draw : Fn P w K mg base 1 "_law_draw" ["_law_state", "_law_many"] 2 sh_L_draw) : Fn P w K mg base 2 "_law_number" ["_law_state", "_law_width_here"] 2 sh_L_number := by
  obtain ⟨f, fd, hd, hg⟩ := hD
  refine fn_mk (N := N_L_number) hd hg sc_L_number rfl (fun _ _ _ _ _ _ us hl => match us, hl with | [_, _], _ => rfl) rfl fun cdv A outer s H E hr => ?_
  have nd := sc_L_number.nd
  exact (ss_cons (ss_if (st_cmp op_lt ops_cmp (se_var 1) se_int (nomark _)) (ss_one (ss_ret (se_call (g_L_draw.up (by decide)) hr (by rfl) (sa_cons (se_var 0) (sa_cons (se_op op_shlW ops_shl se_int (se_var 1)) sa_nil)) (len_cons (len_cons len_nil))))) ss_nil)
  (ss_one (ss_ret (se_op op_addA ops_add (se_call (g_L_draw.up (by decide)) hr (by rfl) (sa_cons (se_var 0) (sa_cons (se_op op_shlW ops_shl se_int se_int) sa_nil)) (len_cons (len_cons len_nil))) (se_op op_shlW ops_shl (se_call (g_L_draw.up (by decide)) hr (by rfl) (sa_cons (se_var 0) (sa_cons (se_op op_shlW ops_shl se_int (se_op op_sub ops_sub (se_var 1) se_int)) sa_nil)) (len_cons (len_cons len_nil))) se_int)))))
abbrev N_L_num : List Str := ["_law_state", "_law_width_here", "_law_sort", "_law_some"]
theorem sc_L_num : FnScope N_L_num ["_law_state", "_law_width_here"] (defScope s_L_num) := ⟨rfl, rfl, rfl, by decide +kernel, rfl, by decide +kernel, by decide +kernel⟩
theorem ok_L_num (C : Cst K mg) (hD : FnAt K mg "_law_num" "_law_num" s_L_num) (g_L_draw : Fn P w K mg base 1 "_law_draw" ["_law_state", "_law_many"] 2 sh_L_draw) (g_L_number : Fn P w K mg base 2 "_law_number" ["_law_state", "_law_width_here"] 2 sh_L_number) : Fn P w K mg base 3 "_law_num" ["_law_state", "_law_width_here"] 2 sh_L_num := by
  obtain ⟨f, fd, hd, hg⟩ := hD
  refine fn_mk (N := N_L_num) hd hg sc_L_num rfl (fun _ _ _ _ _ _ us hl => match us, hl with | [_, _], _ => rfl) rfl fun cdv A outer s H E hr => ?_
  have nd := sc_L_num.nd
  exact (ss_cons (ss_set 2 nd rfl (by first | exact .inl rfl | exact .inr rfl) (se_call (g_L_draw.up (by decide)) hr (by rfl) (sa_cons (se_var 0) (sa_cons se_int sa_nil)) (len_cons (len_cons len_nil))))
  (ss_cons (ss_set 3 nd rfl (by first | exact .inl rfl | exact .inr rfl) (se_lst (sa_cons se_int (sa_cons (se_op op_sub ops_sub (se_op op_shlW ops_shl se_int (se_var 1)) se_int) (sa_cons (se_op op_shlW ops_shl se_int (se_call (g_L_draw.up (by decide)) hr (by rfl) (sa_cons (se_var 0) (sa_cons (se_var 1) sa_nil)) (len_cons (len_cons len_nil)))) (sa_cons (se_op op_sub ops_sub (se_op op_shlW ops_shl se_int (se_call (g_L_draw.up (by decide)) hr (by rfl) (sa_cons (se_var 0) (sa_cons (se_var 1) sa_nil)) (len_cons (len_cons len_nil)))) se_int) sa_nil))))))
  (ss_cons (ss_if (st_cmp op_lt ops_cmp (se_var 2) se_int (nomark _)) (ss_one (ss_ret (se_ix ix_seq ops_ix (se_var 3) (se_var 2) (fun _ _ => rfl)))) ss_nil)
  (ss_one (ss_ret (se_call (g_L_number.up (by decide)) hr (by rfl) (sa_cons (se_var 0) (sa_cons (se_var 1) sa_nil)) (len_cons (len_cons len_nil))))))))
abbrev N_L_top_run : List Str := ["_law_mask", "_law_width_here", "_law_k"]
theorem sc_L_top_run : FnScope N_L_top_run ["_law_mask", "_law_width_here"] (defScope s_L_top_run) := ⟨rfl, rfl, rfl, by decide +kernel, rfl, by decide +kernel, by decide +kernel⟩
theorem ok_L_top_run (C : Cst K mg) (hD : FnAt K mg "_law_top_run" "_law_top_run" s_L_top_run) : Fn P w K mg base 1 "_law_top_run" ["_law_mask", "_law_width_here"] 2 sh_L_top_run := by
  obtain ⟨f, fd, hd, hg⟩ := hD
  refine fn_mk (N := N_L_top_run) hd hg sc_L_top_run rfl (fun _ _ _ _ _ _ us hl => match us, hl with | [_, _], _ => rfl) rfl fun cdv A outer s H E hr => ?_
  have nd := sc_L_top_run.nd
  exact (ss_cons (ss_set 2 nd rfl (by first | exact .inl rfl | exact .inr rfl) se_int)
  (ss_cons (ss_while PassesOwn.never (sw_t (sw_and (st_cmp op_lt ops_cmp (se_var 2) (se_var 1) (nomark _)) (sw_and1 (st_cmp (op_eqA hr.units) ops_eq (se_op op_and ops_and (se_op op_shr ops_shr (se_var 0) (se_op op_sub ops_sub (se_op op_sub ops_sub (se_var 1) se_int) (se_var 2))) se_int) se_int (nomark _))))) (ss_one (ss_set 2 nd rfl (by first | exact .inl rfl | exact .inr rfl) (se_op op_addA ops_add (se_var 2) se_int))))
  (ss_one (ss_ret (se_var 2)))))
abbrev N_L_alike : List Str := ["_law_number_here", "_law_width_here"]
theorem sc_L_alike : FnScope N_L_alike ["_law_number_here", "_law_width_here"] (defScope s_L_alike) := ⟨rfl, rfl, rfl, by decide +kernel, rfl, by decide +kernel, by decide +kernel⟩
theorem ok_L_alike (C : Cst K mg) (hD : FnAt K mg "_law_alike" "_law_alike" s_L_alike) (g_L_top_run : Fn P w K mg base 1 "_law_top_run" ["_law_mask", "_law_width_here"] 2 sh_L_top_run) : Fn P w K mg base 2 "_law_alike" ["_law_number_here", "_law_width_here"] 2 sh_L_alike := by
  obtain ⟨f, fd, hd, hg⟩ := hD
  refine fn_mk (N := N_L_alike) hd hg sc_L_alike rfl (fun _ _ _ _ _ _ us hl => match us, hl with | [_, _], _ => rfl) rfl fun cdv A outer s H E hr => ?_
  have nd := sc_L_alike.nd
  exact (ss_one (ss_ret (se_callB (call_max2 rfl) cas_int2 (by rfl) C.b_max (by decide +kernel) (sa_cons (se_call (g_L_top_run.up (by decide)) hr (by rfl) (sa_cons (se_var 0) (sa_cons (se_var 1) sa_nil)) (len_cons (len_cons len_nil))) (sa_cons (se_call (g_L_top_run.up (by decide)) hr (by rfl) (sa_cons (se_op op_sub ops_sub (se_op op_sub ops_sub (se_op op_shlW ops_shl se_int (se_var 1)) se_int) (se_var 0)) (sa_cons (se_var 1) sa_nil)) (len_cons (len_cons len_nil))) sa_nil)))))
abbrev N_L_fact : List Str := ["_law_state", "_law_width_here", "_law_number_here", "_law_known", "_law_alike_here"]
theorem sc_L_fact : FnScope N_L_fact ["_law_state", "_law_width_here"] (defScope s_L_fact) := ⟨rfl, rfl, rfl, by decide +kernel, rfl, by decide +kernel, by decide +kernel⟩
theorem ok_L_fact (C : Cst K mg) (hD : FnAt K mg "_law_fact" "_law_fact" s_L_fact) (g_L_num : Fn P w K mg base 3 "_law_num" ["_law_state", "_law_width_here"] 2 sh_L_num) (g_L_draw : Fn P w K mg base 1 "_law_draw" ["_law_state", "_law_many"] 2 sh_L_draw) (g_L_alike : Fn P w K mg base 2 "_law_alike" ["_law_number_here", "_law_width_here"] 2 sh_L_alike) : Fn P w K mg base 4 "_law_fact" ["_law_state", "_law_width_here"] 2 sh_L_fact := by
  obtain ⟨f, fd, hd, hg⟩ := hD
  refine fn_mk (N := N_L_fact) hd hg sc_L_fact rfl (fun _ _ _ _ _ _ us hl => match us, hl with | [_, _], _ => rfl) rfl fun cdv A outer s H E hr => ?_
  have nd := sc_L_fact.nd
  exact (ss_cons (ss_set 2 nd rfl (by first | exact .inl rfl | exact .inr rfl) (se_call (g_L_num.up (by decide)) hr (by rfl) (sa_cons (se_var 0) (sa_cons (se_var 1) sa_nil)) (len_cons (len_cons len_nil))))
  (ss_cons (ss_set 3 nd rfl (by first | exact .inl rfl | exact .inr rfl) (se_call (g_L_num.up (by decide)) hr (by rfl) (sa_cons (se_var 0) (sa_cons (se_var 1) sa_nil)) (len_cons (len_cons len_nil))))
  (ss_cons (ss_if (st_cmp (op_eqA hr.units) ops_eq (se_call (g_L_draw.up (by decide)) hr (by rfl) (sa_cons (se_var 0) (sa_cons se_int sa_nil)) (len_cons (len_cons len_nil))) se_int (nomark _)) (ss_one (ss_set 3 nd rfl (by first | exact .inl rfl | exact .inr rfl) (se_op op_xor ops_xor (se_op op_sub ops_sub (se_op op_shlW ops_shl se_int (se_var 1)) se_int) (se_var 3)))) ss_nil)
  (ss_cons (ss_set 4 nd rfl (by first | exact .inl rfl | exact .inr rfl) (se_op op_addA ops_add se_int (se_ix ix_seq ops_ix (se_lst (sa_cons se_int (sa_cons (se_call (g_L_draw.up (by decide)) hr (by rfl) (sa_cons (se_var 0) (sa_cons (se_call (g_L_alike.up (by decide)) hr (by rfl) (sa_cons (se_var 2) (sa_cons (se_var 1) sa_nil)) (len_cons (len_cons len_nil))) sa_nil)) (len_cons (len_cons len_nil))) sa_nil))) (se_call (g_L_draw.up (by decide)) hr (by rfl) (sa_cons (se_var 0) (sa_cons se_int sa_nil)) (len_cons (len_cons len_nil))) (fun _ _ => rfl))))
  (ss_one (ss_ret (se_tup (sa_cons (se_op op_sub ops_sub (se_var 3) (se_op op_and ops_and (se_var 2) (se_var 3))) (sa_cons (se_op op_and ops_and (se_var 2) (se_var 3)) (sa_cons (se_var 4) (sa_cons (se_var 2) sa_nil)))))))))))
abbrev N_L_near : List Str := ["_law_state", "_law_word", "_law_width_here", "_law_one", "_law_whole", "_law_most", "_law_high"]
theorem sc_L_near : FnScope N_L_near ["_law_state", "_law_word", "_law_width_here", "_law_one"] (defScope s_L_near) := ⟨rfl, rfl, rfl, by decide +kernel, rfl, by decide +kernel, by decide +kernel⟩
theorem ok_L_near (C : Cst K mg) (hD : FnAt K mg "_law_near" "_law_near" s_L_near) (g_L_draw : Fn P w K mg base 1 "_law_draw" ["_law_state", "_law_many"] 2 sh_L_draw) (g_L_num : Fn P w K mg base 3 "_law_num" ["_law_state", "_law_width_here"] 2 sh_L_num) : Fn P w K mg base 4 "_law_near" ["_law_state", "_law_word", "_law_width_here", "_law_one"] 4 sh_L_near := by
  obtain ⟨f, fd, hd, hg⟩ := hD
  refine fn_mk (N := N_L_near) hd hg sc_L_near rfl (fun _ _ _ _ _ _ us hl => match us, hl with | [_, _, _, _], _ => rfl) rfl fun cdv A outer s H E hr => ?_
  have nd := sc_L_near.nd
  exact (ss_cons (ss_set 4 nd rfl (by first | exact .inl rfl | exact .inr rfl) (se_op op_sub ops_sub (se_op op_shlW ops_shl se_int (se_var 2)) se_int))
  (ss_cons (ss_set 5 nd rfl (by first | exact .inl rfl | exact .inr rfl) (se_op op_sub ops_sub (se_var 4) (se_ix ix_seq ops_ix (se_var 3) se_int (fun _ _ => rfl))))
  (ss_cons (ss_set 6 nd rfl (by first | exact .inl rfl | exact .inr rfl) (se_op op_addA ops_add (se_dict3 (hu65 hr) (se_op op_sub ops_sub (se_var 4) (se_var 5)) (se_ix ix_seq ops_ix (se_var 3) se_int (fun _ _ => rfl)) (se_op op_fdivW ops_fdiv (se_var 4) (se_callB (call_max2 rfl) cas_int2 (by rfl) C.b_max (by decide +kernel) (sa_cons se_int (sa_cons (se_var 5) sa_nil)))) (se_var 1) (fun _ _ => rfl) (by decide +kernel) (by decide +kernel) (by decide +kernel)) (se_call (g_L_draw.up (by decide)) hr (by rfl) (sa_cons (se_var 0) (sa_cons se_int sa_nil)) (len_cons (len_cons len_nil)))))
  (ss_cons (ss_set 6 nd rfl (by first | exact .inl rfl | exact .inr rfl) (se_callB (call_min2 rfl) cas_int2 (by rfl) C.b_min (by decide +kernel) (sa_cons (se_var 4) (sa_cons (se_var 6) sa_nil))))
  (ss_one (ss_ret (se_tup (sa_cons (se_op op_sub ops_sub (se_var 4) (se_var 6)) (sa_cons (se_op op_and ops_and (se_call (g_L_num.up (by decide)) hr (by rfl) (sa_cons (se_var 0) (sa_cons (se_var 2) sa_nil)) (len_cons (len_cons len_nil))) (se_var 6)) (sa_cons se_int sa_nil))))))))))
abbrev N_bits_full : List Str := ["width"]
theorem sc_bits_full : FnScope N_bits_full ["width"] (defScope s_bits_full) := ⟨rfl, rfl, rfl, by decide +kernel, rfl, by decide +kernel, by decide +kernel⟩
theorem ok_bits_full (C : Cst K mg) (hD : FnAt K mg "full" "full" s_bits_full) : Fn P w K mg base 1 "full" ["width"] 1 sh_bits_full := by
  obtain ⟨f, fd, hd, hg⟩ := hD
  refine fn_mk (N := N_bits_full) hd hg sc_bits_full rfl (fun _ _ _ _ _ _ us hl => match us, hl with | [_], _ => rfl) rfl fun cdv A outer s H E hr => ?_
  have nd := sc_bits_full.nd
  exact (ss_one (ss_ret (se_op op_sub ops_sub (se_op op_shlW ops_shl se_int (se_var 0)) se_int)))
abbrev N_bits_top_run : List Str := ["number", "width", "many"]
theorem sc_bits_top_run : FnScope N_bits_top_run ["number", "width"] (defScope s_bits_top_run) := ⟨rfl, rfl, rfl, by decide +kernel, rfl, by decide +kernel, by decide +kernel⟩
theorem ok_bits_top_run (C : Cst K mg) (hD : FnAt K mg "top_run" "top_run" s_bits_top_run) : Fn P w K mg base 1 "top_run" ["number", "width"] 2 sh_bits_top_run := by
  obtain ⟨f, fd, hd, hg⟩ := hD
  refine fn_mk (N := N_bits_top_run) hd hg sc_bits_top_run rfl (fun _ _ _ _ _ _ us hl => match us, hl with | [_, _], _ => rfl) rfl fun cdv A outer s H E hr => ?_
  have nd := sc_bits_top_run.nd
  exact (ss_cons (ss_set 2 nd rfl (by first | exact .inl rfl | exact .inr rfl) se_int)
  (ss_cons (ss_while PassesOwn.never (sw_t (sw_and (st_cmp op_lt ops_cmp (se_var 2) (se_var 1) (nomark _)) (sw_and1 (st_cmp (op_eqA hr.units) ops_eq (se_op op_and ops_and (se_op op_shr ops_shr (se_var 0) (se_op op_sub ops_sub (se_op op_sub ops_sub (se_var 1) se_int) (se_var 2))) se_int) se_int (nomark _))))) (ss_one (ss_augAdd 2 nd rfl (by first | exact .inl rfl | exact .inr rfl) se_int (ps_aug (i := 2) nd rfl (by first | exact .inl rfl | exact .inr rfl) se_int ip_add))))
  (ss_one (ss_ret (se_var 2)))))
abbrev N_facts_closed : List Str := ["fact", "width", "noughts", "ones", "alike", "top"]
theorem sc_facts_closed : FnScope N_facts_closed ["fact", "width"] (defScope s_facts_closed) := ⟨rfl, rfl, rfl, by decide +kernel, rfl, by decide +kernel, by decide +kernel⟩
theorem ok_facts_closed (C : Cst K mg) (hD : FnAt K mg "closed" "closed" s_facts_closed) (g_bits_full : Fn P w K mg base 1 "full" ["width"] 1 sh_bits_full) (g_bits_top_run : Fn P w K mg base 1 "top_run" ["number", "width"] 2 sh_bits_top_run) : Fn P w K mg base 2 "closed" ["fact", "width"] 2 sh_facts_closed := by
  obtain ⟨f, fd, hd, hg⟩ := hD
  refine fn_mk (N := N_facts_closed) hd hg sc_facts_closed rfl (fun _ _ _ _ _ _ us hl => match us, hl with | [_, _], _ => rfl) rfl fun cdv A outer s H E hr => ?_
  have nd := sc_facts_closed.nd
  exact (ss_cons (ss_asgT rfl (se_var 0) (sgs_cons 2 nd rfl (by first | exact .inl rfl | exact .inr rfl) (sgs_cons 3 nd rfl (by first | exact .inl rfl | exact .inr rfl) (sgs_cons 4 nd rfl (by first | exact .inl rfl | exact .inr rfl) sgs_nil))) rfl)
  (ss_cons (ss_set 5 nd rfl (by first | exact .inl rfl | exact .inr rfl) (se_op op_sub ops_sub (se_call (g_bits_full.up (by decide)) hr (by rfl) (sa_cons (se_var 1) sa_nil) (len_cons len_nil)) (se_call (g_bits_full.up (by decide)) hr (by rfl) (sa_cons (se_op op_sub ops_sub (se_var 1) (se_var 4)) sa_nil) (len_cons len_nil))))
  (ss_cons (ss_if (st_cmp (op_neA hr.units) ops_ne (se_op op_and ops_and (se_var 2) (se_var 5)) se_int (nomark _)) (ss_one (ss_set 2 nd rfl (by first | exact .inl rfl | exact .inr rfl) (se_op op_or ops_or (se_var 2) (se_var 5)))) ss_nil)
  (ss_cons (ss_if (st_cmp (op_neA hr.units) ops_ne (se_op op_and ops_and (se_var 3) (se_var 5)) se_int (nomark _)) (ss_one (ss_set 3 nd rfl (by first | exact .inl rfl | exact .inr rfl) (se_op op_or ops_or (se_var 3) (se_var 5)))) ss_nil)
  (ss_one (ss_ret (se_tup (sa_cons (se_var 2) (sa_cons (se_var 3) (sa_cons (se_callB (call_max3Nu rfl) cas_max3 (by rfl) C.b_max (by decide +kernel) (sa_cons (se_var 4) (sa_cons (se_call (g_bits_top_run.up (by decide)) hr (by rfl) (sa_cons (se_var 2) (sa_cons (se_var 1) sa_nil)) (len_cons (len_cons len_nil))) (sa_cons (se_call (g_bits_top_run.up (by decide)) hr (by rfl) (sa_cons (se_var 3) (sa_cons (se_var 1) sa_nil)) (len_cons (len_cons len_nil))) sa_nil)))) sa_nil))))))))))
abbrev N_rules_truth : List Str := ["answer"]
theorem sc_rules_truth : FnScope N_rules_truth ["answer"] (defScope s_rules_truth) := ⟨rfl, rfl, rfl, by decide +kernel, rfl, by decide +kernel, by decide +kernel⟩
theorem ok_rules_truth (C : Cst K mg) (hD : FnAt K mg "truth" "truth" s_rules_truth) : Fn P w K mg base 1 "truth" ["answer"] 1 sh_rules_truth := by
  obtain ⟨f, fd, hd, hg⟩ := hD
  refine fn_mk (N := N_rules_truth) hd hg sc_rules_truth rfl (fun _ _ _ _ _ _ us hl => match us, hl with | [_], _ => rfl) rfl fun cdv A outer s H E hr => ?_
  have nd := sc_rules_truth.nd
  exact (ss_cons (ss_if (st_cmp op_isN ops_is (se_var 0) se_none (nomark _)) (ss_one (ss_ret (se_tup (sa_cons se_int (sa_cons se_int (sa_cons se_int sa_nil)))))) ss_nil)
  (ss_one (ss_ret (se_tup (sa_cons (se_op op_sub ops_sub se_int (se_var 0)) (sa_cons (se_var 0) (sa_cons se_int sa_nil)))))))
abbrev N_rules_bitwise : List Str := ["word", "one", "other", "alike"]
theorem sc_rules_bitwise : FnScope N_rules_bitwise ["word", "one", "other"] (defScope s_rules_bitwise) := ⟨rfl, rfl, rfl, by decide +kernel, rfl, by decide +kernel, by decide +kernel⟩
theorem ok_rules_bitwise (C : Cst K mg) (hD : FnAt K mg "bitwise" "bitwise" s_rules_bitwise) : Fn P w K mg base 1 "bitwise" ["word", "one", "other"] 3 sh_rules_bitwise := by
  obtain ⟨f, fd, hd, hg⟩ := hD
  refine fn_mk (N := N_rules_bitwise) hd hg sc_rules_bitwise rfl (fun _ _ _ _ _ _ us hl => match us, hl with | [_, _, _], _ => rfl) rfl fun cdv A outer s H E hr => ?_
  have nd := sc_rules_bitwise.nd
  exact (ss_cons (ss_set 3 nd rfl (by first | exact .inl rfl | exact .inr rfl) (se_callB (call_min2 rfl) cas_int2 (by rfl) C.b_min (by decide +kernel) (sa_cons (se_ix ix_seq ops_ix (se_var 1) se_int (fun _ _ => rfl)) (sa_cons (se_ix ix_seq ops_ix (se_var 2) se_int (fun _ _ => rfl)) sa_nil))))
  (ss_cons (ss_if (st_cmp (op_eqA hr.units) ops_eq (se_var 0) se_str (nomark _)) (ss_one (ss_ret (se_tup (sa_cons (se_op op_or ops_or (se_ix ix_seq ops_ix (se_var 1) se_int (fun _ _ => rfl)) (se_ix ix_seq ops_ix (se_var 2) se_int (fun _ _ => rfl))) (sa_cons (se_op op_and ops_and (se_ix ix_seq ops_ix (se_var 1) se_int (fun _ _ => rfl)) (se_ix ix_seq ops_ix (se_var 2) se_int (fun _ _ => rfl))) (sa_cons (se_var 3) sa_nil)))))) ss_nil)
  (ss_cons (ss_if (st_cmp (op_eqA hr.units) ops_eq (se_var 0) se_str (nomark _)) (ss_one (ss_ret (se_tup (sa_cons (se_op op_and ops_and (se_ix ix_seq ops_ix (se_var 1) se_int (fun _ _ => rfl)) (se_ix ix_seq ops_ix (se_var 2) se_int (fun _ _ => rfl))) (sa_cons (se_op op_or ops_or (se_ix ix_seq ops_ix (se_var 1) se_int (fun _ _ => rfl)) (se_ix ix_seq ops_ix (se_var 2) se_int (fun _ _ => rfl))) (sa_cons (se_var 3) sa_nil)))))) ss_nil)
  (ss_one (ss_ret (se_tup (sa_cons (se_op op_or ops_or (se_op op_and ops_and (se_ix ix_seq ops_ix (se_var 1) se_int (fun _ _ => rfl)) (se_ix ix_seq ops_ix (se_var 2) se_int (fun _ _ => rfl))) (se_op op_and ops_and (se_ix ix_seq ops_ix (se_var 1) se_int (fun _ _ => rfl)) (se_ix ix_seq ops_ix (se_var 2) se_int (fun _ _ => rfl)))) (sa_cons (se_op op_or ops_or (se_op op_and ops_and (se_ix ix_seq ops_ix (se_var 1) se_int (fun _ _ => rfl)) (se_ix ix_seq ops_ix (se_var 2) se_int (fun _ _ => rfl))) (se_op op_and ops_and (se_ix ix_seq ops_ix (se_var 1) se_int (fun _ _ => rfl)) (se_ix ix_seq ops_ix (se_var 2) se_int (fun _ _ => rfl)))) (sa_cons (se_var 3) sa_nil)))))))))
abbrev N_bits_low_run : List Str := ["number", "many"]
theorem sc_bits_low_run : FnScope N_bits_low_run ["number"] (defScope s_bits_low_run) := ⟨rfl, rfl, rfl, by decide +kernel, rfl, by decide +kernel, by decide +kernel⟩
theorem ok_bits_low_run (C : Cst K mg) (hD : FnAt K mg "low_run" "low_run" s_bits_low_run) : Fn P w K mg base 1 "low_run" ["number"] 1 sh_bits_low_run := by
  obtain ⟨f, fd, hd, hg⟩ := hD
  refine fn_mk (N := N_bits_low_run) hd hg sc_bits_low_run rfl (fun _ _ _ _ _ _ us hl => match us, hl with | [_], _ => rfl) rfl fun cdv A outer s H E hr => ?_
  have nd := sc_bits_low_run.nd
  exact (ss_cons (ss_set 1 nd rfl (by first | exact .inl rfl | exact .inr rfl) se_int)
  (ss_cons (ss_while PassesOwn.never (st_cmp (op_eqA hr.units) ops_eq (se_op op_and ops_and (se_var 0) se_int) se_int (nomark _)) (ss_cons (ss_augAdd 1 nd rfl (by first | exact .inl rfl | exact .inr rfl) se_int (ps_aug (i := 1) nd rfl (by first | exact .inl rfl | exact .inr rfl) se_int ip_add))
  (ss_one (ss_set 0 nd rfl (by first | exact .inl rfl | exact .inr rfl) (se_op op_shr ops_shr (se_var 0) se_int)))))
  (ss_one (ss_ret (se_var 1)))))
abbrev N_sums_reckoned : List Str := ["word", "one", "other"]
theorem sc_sums_reckoned : FnScope N_sums_reckoned ["word", "one", "other"] (defScope s_sums_reckoned) := ⟨rfl, rfl, rfl, by decide +kernel, rfl, by decide +kernel, by decide +kernel⟩
theorem ok_sums_reckoned (C : Cst K mg) (hD : FnAt K mg "reckoned" "reckoned" s_sums_reckoned) : Fn P w K mg base 1 "reckoned" ["word", "one", "other"] 3 sh_sums_reckoned := by
  obtain ⟨f, fd, hd, hg⟩ := hD
  refine fn_mk (N := N_sums_reckoned) hd hg sc_sums_reckoned rfl (fun _ _ _ _ _ _ us hl => match us, hl with | [_, _, _], _ => rfl) rfl fun cdv A outer s H E hr => ?_
  have nd := sc_sums_reckoned.nd
  exact (ss_cons (ss_if (st_cmp (op_eqA hr.units) ops_eq (se_var 0) se_str (nomark _)) (ss_one (ss_ret (se_op op_addA ops_add (se_var 1) (se_var 2)))) ss_nil)
  (ss_cons (ss_if (st_cmp (op_eqA hr.units) ops_eq (se_var 0) se_str (nomark _)) (ss_one (ss_ret (se_op op_sub ops_sub (se_var 1) (se_var 2)))) ss_nil)
  (ss_one (ss_ret (se_op op_mulL ops_mul (se_var 1) (se_var 2))))))
abbrev N_facts_least : List Str := ["fact"]
theorem sc_facts_least : FnScope N_facts_least ["fact"] (defScope s_facts_least) := ⟨rfl, rfl, rfl, by decide +kernel, rfl, by decide +kernel, by decide +kernel⟩
theorem ok_facts_least (C : Cst K mg) (hD : FnAt K mg "least" "least" s_facts_least) : Fn P w K mg base 1 "least" ["fact"] 1 sh_facts_least := by
  obtain ⟨f, fd, hd, hg⟩ := hD
  refine fn_mk (N := N_facts_least) hd hg sc_facts_least rfl (fun _ _ _ _ _ _ us hl => match us, hl with | [_], _ => rfl) rfl fun cdv A outer s H E hr => ?_
  have nd := sc_facts_least.nd
  exact (ss_one (ss_ret (se_ix ix_seq ops_ix (se_var 0) se_int (fun _ _ => rfl))))
abbrev N_sums_low_bits : List Str := ["word", "one", "other", "known", "ones"]
theorem sc_sums_low_bits : FnScope N_sums_low_bits ["word", "one", "other"] (defScope s_sums_low_bits) := ⟨rfl, rfl, rfl, by decide +kernel, rfl, by decide +kernel, by decide +kernel⟩
theorem ok_sums_low_bits (C : Cst K mg) (hD : FnAt K mg "low_bits" "low_bits" s_sums_low_bits) (g_bits_full : Fn P w K mg base 1 "full" ["width"] 1 sh_bits_full) (g_bits_low_run : Fn P w K mg base 1 "low_run" ["number"] 1 sh_bits_low_run) (g_sums_reckoned : Fn P w K mg base 1 "reckoned" ["word", "one", "other"] 3 sh_sums_reckoned) (g_facts_least : Fn P w K mg base 1 "least" ["fact"] 1 sh_facts_least) : Fn P w K mg base 2 "low_bits" ["word", "one", "other"] 3 sh_sums_low_bits := by
  obtain ⟨f, fd, hd, hg⟩ := hD
  refine fn_mk (N := N_sums_low_bits) hd hg sc_sums_low_bits rfl (fun _ _ _ _ _ _ us hl => match us, hl with | [_, _, _], _ => rfl) rfl fun cdv A outer s H E hr => ?_
  have nd := sc_sums_low_bits.nd
  exact (ss_cons (ss_set 3 nd rfl (by first | exact .inl rfl | exact .inr rfl) (se_call (g_bits_full.up (by decide)) hr (by rfl) (sa_cons (se_call (g_bits_low_run.up (by decide)) hr (by rfl) (sa_cons (se_op op_and ops_and (se_op op_or ops_or (se_ix ix_seq ops_ix (se_var 1) se_int (fun _ _ => rfl)) (se_ix ix_seq ops_ix (se_var 1) se_int (fun _ _ => rfl))) (se_op op_or ops_or (se_ix ix_seq ops_ix (se_var 2) se_int (fun _ _ => rfl)) (se_ix ix_seq ops_ix (se_var 2) se_int (fun _ _ => rfl)))) sa_nil) (len_cons len_nil)) sa_nil) (len_cons len_nil)))
  (ss_cons (ss_set 4 nd rfl (by first | exact .inl rfl | exact .inr rfl) (se_op op_and ops_and (se_call (g_sums_reckoned.up (by decide)) hr (by rfl) (sa_cons (se_var 0) (sa_cons (se_call (g_facts_least.up (by decide)) hr (by rfl) (sa_cons (se_var 1) sa_nil) (len_cons len_nil)) (sa_cons (se_call (g_facts_least.up (by decide)) hr (by rfl) (sa_cons (se_var 2) sa_nil) (len_cons len_nil)) sa_nil))) (len_cons (len_cons (len_cons len_nil)))) (se_var 3)))
  (ss_one (ss_ret (se_tup (sa_cons (se_op op_sub ops_sub (se_var 3) (se_var 4)) (sa_cons (se_var 4) sa_nil)))))))
abbrev N_facts_greatest : List Str := ["fact", "width"]
theorem sc_facts_greatest : FnScope N_facts_greatest ["fact", "width"] (defScope s_facts_greatest) := ⟨rfl, rfl, rfl, by decide +kernel, rfl, by decide +kernel, by decide +kernel⟩
theorem ok_facts_greatest (C : Cst K mg) (hD : FnAt K mg "greatest" "greatest" s_facts_greatest) (g_bits_full : Fn P w K mg base 1 "full" ["width"] 1 sh_bits_full) : Fn P w K mg base 2 "greatest" ["fact", "width"] 2 sh_facts_greatest := by
  obtain ⟨f, fd, hd, hg⟩ := hD
  refine fn_mk (N := N_facts_greatest) hd hg sc_facts_greatest rfl (fun _ _ _ _ _ _ us hl => match us, hl with | [_, _], _ => rfl) rfl fun cdv A outer s H E hr => ?_
  have nd := sc_facts_greatest.nd
  exact (ss_one (ss_ret (se_op op_sub ops_sub (se_call (g_bits_full.up (by decide)) hr (by rfl) (sa_cons (se_var 1) sa_nil) (len_cons len_nil)) (se_ix ix_seq ops_ix (se_var 0) se_int (fun _ _ => rfl)))))
abbrev N_sums_ends : List Str := ["word", "one", "other", "width", "low", "high"]
theorem sc_sums_ends : FnScope N_sums_ends ["word", "one", "other", "width"] (defScope s_sums_ends) := ⟨rfl, rfl, rfl, by decide +kernel, rfl, by decide +kernel, by decide +kernel⟩
theorem ok_sums_ends (C : Cst K mg) (hD : FnAt K mg "ends" "ends" s_sums_ends) (g_facts_least : Fn P w K mg base 1 "least" ["fact"] 1 sh_facts_least) (g_facts_greatest : Fn P w K mg base 2 "greatest" ["fact", "width"] 2 sh_facts_greatest) (g_sums_reckoned : Fn P w K mg base 1 "reckoned" ["word", "one", "other"] 3 sh_sums_reckoned) : Fn P w K mg base 3 "ends" ["word", "one", "other", "width"] 4 sh_sums_ends := by
  obtain ⟨f, fd, hd, hg⟩ := hD
  refine fn_mk (N := N_sums_ends) hd hg sc_sums_ends rfl (fun _ _ _ _ _ _ us hl => match us, hl with | [_, _, _, _], _ => rfl) rfl fun cdv A outer s H E hr => ?_
  have nd := sc_sums_ends.nd
  exact (ss_cons (ss_par 4 5 (se_call (g_facts_least.up (by decide)) hr (by rfl) (sa_cons (se_var 2) sa_nil) (len_cons len_nil)) (se_call (g_facts_greatest.up (by decide)) hr (by rfl) (sa_cons (se_var 2) (sa_cons (se_var 3) sa_nil)) (len_cons (len_cons len_nil))) fun ha hb => ps_par rfl nd rfl rfl (by decide) rfl rfl (pa_cons ha (pa_cons hb pa_nil)) (by rfl))
  (ss_cons (ss_if (st_cmp (op_eqA hr.units) ops_eq (se_var 0) se_str (nomark _)) (ss_one (ss_par 4 5 (se_var 5) (se_var 4) fun ha hb => ps_par rfl nd rfl rfl (by decide) rfl rfl (pa_cons ha (pa_cons hb pa_nil)) (by rfl))) ss_nil)
  (ss_one (ss_ret (se_tup (sa_cons (se_call (g_sums_reckoned.up (by decide)) hr (by rfl) (sa_cons (se_var 0) (sa_cons (se_call (g_facts_least.up (by decide)) hr (by rfl) (sa_cons (se_var 1) sa_nil) (len_cons len_nil)) (sa_cons (se_var 4) sa_nil))) (len_cons (len_cons (len_cons len_nil)))) (sa_cons (se_call (g_sums_reckoned.up (by decide)) hr (by rfl) (sa_cons (se_var 0) (sa_cons (se_call (g_facts_greatest.up (by decide)) hr (by rfl) (sa_cons (se_var 1) (sa_cons (se_var 3) sa_nil)) (len_cons (len_cons len_nil))) (sa_cons (se_var 5) sa_nil))) (len_cons (len_cons (len_cons len_nil)))) sa_nil)))))))
abbrev N_bits_reach : List Str := ["number", "many"]
theorem sc_bits_reach : FnScope N_bits_reach ["number"] (defScope s_bits_reach) := ⟨rfl, rfl, rfl, by decide +kernel, rfl, by decide +kernel, by decide +kernel⟩
theorem ok_bits_reach (C : Cst K mg) (hD : FnAt K mg "reach" "reach" s_bits_reach) : Fn P w K mg base 1 "reach" ["number"] 1 sh_bits_reach := by
  obtain ⟨f, fd, hd, hg⟩ := hD
  refine fn_mk (N := N_bits_reach) hd hg sc_bits_reach rfl (fun _ _ _ _ _ _ us hl => match us, hl with | [_], _ => rfl) rfl fun cdv A outer s H E hr => ?_
  have nd := sc_bits_reach.nd
  exact (ss_cons (ss_set 1 nd rfl (by first | exact .inl rfl | exact .inr rfl) se_int)
  (ss_cons (ss_while PassesOwn.never (st_cmp op_gt ops_cmp (se_var 0) se_int (nomark _)) (ss_cons (ss_augAdd 1 nd rfl (by first | exact .inl rfl | exact .inr rfl) se_int (ps_aug (i := 1) nd rfl (by first | exact .inl rfl | exact .inr rfl) se_int ip_add))
  (ss_one (ss_set 0 nd rfl (by first | exact .inl rfl | exact .inr rfl) (se_op op_shr ops_shr (se_var 0) se_int)))))
  (ss_one (ss_ret (se_var 1)))))
abbrev N_bits_below : List Str := ["number"]
theorem sc_bits_below : FnScope N_bits_below ["number"] (defScope s_bits_below) := ⟨rfl, rfl, rfl, by decide +kernel, rfl, by decide +kernel, by decide +kernel⟩
theorem ok_bits_below (C : Cst K mg) (hD : FnAt K mg "below" "below" s_bits_below) (g_bits_full : Fn P w K mg base 1 "full" ["width"] 1 sh_bits_full) (g_bits_reach : Fn P w K mg base 1 "reach" ["number"] 1 sh_bits_reach) : Fn P w K mg base 2 "below" ["number"] 1 sh_bits_below := by
  obtain ⟨f, fd, hd, hg⟩ := hD
  refine fn_mk (N := N_bits_below) hd hg sc_bits_below rfl (fun _ _ _ _ _ _ us hl => match us, hl with | [_], _ => rfl) rfl fun cdv A outer s H E hr => ?_
  have nd := sc_bits_below.nd
  exact (ss_one (ss_ret (se_call (g_bits_full.up (by decide)) hr (by rfl) (sa_cons (se_call (g_bits_reach.up (by decide)) hr (by rfl) (sa_cons (se_var 0) sa_nil) (len_cons len_nil)) sa_nil) (len_cons len_nil))))
abbrev N_bits_shared_top : List Str := ["least", "greatest", "width", "alike", "ones"]
theorem sc_bits_shared_top : FnScope N_bits_shared_top ["least", "greatest", "width"] (defScope s_bits_shared_top) := ⟨rfl, rfl, rfl, by decide +kernel, rfl, by decide +kernel, by decide +kernel⟩
theorem ok_bits_shared_top (C : Cst K mg) (hD : FnAt K mg "shared_top" "shared_top" s_bits_shared_top) (g_bits_full : Fn P w K mg base 1 "full" ["width"] 1 sh_bits_full) (g_bits_below : Fn P w K mg base 2 "below" ["number"] 1 sh_bits_below) : Fn P w K mg base 3 "shared_top" ["least", "greatest", "width"] 3 sh_bits_shared_top := by
  obtain ⟨f, fd, hd, hg⟩ := hD
  refine fn_mk (N := N_bits_shared_top) hd hg sc_bits_shared_top rfl (fun _ _ _ _ _ _ us hl => match us, hl with | [_, _, _], _ => rfl) rfl fun cdv A outer s H E hr => ?_
  have nd := sc_bits_shared_top.nd
  exact (ss_cons (ss_set 3 nd rfl (by first | exact .inl rfl | exact .inr rfl) (se_op op_sub ops_sub (se_call (g_bits_full.up (by decide)) hr (by rfl) (sa_cons (se_var 2) sa_nil) (len_cons len_nil)) (se_call (g_bits_below.up (by decide)) hr (by rfl) (sa_cons (se_op op_xor ops_xor (se_var 0) (se_var 1)) sa_nil) (len_cons len_nil))))
  (ss_cons (ss_set 4 nd rfl (by first | exact .inl rfl | exact .inr rfl) (se_op op_and ops_and (se_var 3) (se_var 0)))
  (ss_one (ss_ret (se_tup (sa_cons (se_op op_sub ops_sub (se_var 3) (se_var 4)) (sa_cons (se_var 4) sa_nil)))))))
abbrev N_sums_top_bits : List Str := ["word", "one", "other", "width", "low", "high"]
theorem sc_sums_top_bits : FnScope N_sums_top_bits ["word", "one", "other", "width"] (defScope s_sums_top_bits) := ⟨rfl, rfl, rfl, by decide +kernel, rfl, by decide +kernel, by decide +kernel⟩
theorem ok_sums_top_bits (C : Cst K mg) (hD : FnAt K mg "top_bits" "top_bits" s_sums_top_bits) (g_sums_ends : Fn P w K mg base 3 "ends" ["word", "one", "other", "width"] 4 sh_sums_ends) (g_bits_shared_top : Fn P w K mg base 3 "shared_top" ["least", "greatest", "width"] 3 sh_bits_shared_top) (g_bits_full : Fn P w K mg base 1 "full" ["width"] 1 sh_bits_full) : Fn P w K mg base 4 "top_bits" ["word", "one", "other", "width"] 4 sh_sums_top_bits := by
  obtain ⟨f, fd, hd, hg⟩ := hD
  refine fn_mk (N := N_sums_top_bits) hd hg sc_sums_top_bits rfl (fun _ _ _ _ _ _ us hl => match us, hl with | [_, _, _, _], _ => rfl) rfl fun cdv A outer s H E hr => ?_
  have nd := sc_sums_top_bits.nd
  exact (ss_cons (ss_asgT rfl (se_call (g_sums_ends.up (by decide)) hr (by rfl) (sa_cons (se_var 0) (sa_cons (se_var 1) (sa_cons (se_var 2) (sa_cons (se_var 3) sa_nil)))) (len_cons (len_cons (len_cons (len_cons len_nil))))) (sgs_cons 4 nd rfl (by first | exact .inl rfl | exact .inr rfl) (sgs_cons 5 nd rfl (by first | exact .inl rfl | exact .inr rfl) sgs_nil)) rfl)
  (ss_cons (ss_if (sw_t (sw_or (st_cmp op_lt ops_cmp (se_var 4) se_int (nomark _)) (sw_or1 (st_cmp op_gt ops_cmp (se_var 5) (se_call (g_bits_full.up (by decide)) hr (by rfl) (sa_cons (se_var 3) sa_nil) (len_cons len_nil)) (nomark _))))) (ss_one (ss_ret (se_tup (sa_cons se_int (sa_cons se_int sa_nil))))) ss_nil)
  (ss_one (ss_ret (se_call (g_bits_shared_top.up (by decide)) hr (by rfl) (sa_cons (se_var 4) (sa_cons (se_var 5) (sa_cons (se_var 3) sa_nil))) (len_cons (len_cons (len_cons len_nil))))))))
abbrev N_sums_low_noughts : List Str := ["word", "one", "other", "width"]
theorem sc_sums_low_noughts : FnScope N_sums_low_noughts ["word", "one", "other", "width"] (defScope s_sums_low_noughts) := ⟨rfl, rfl, rfl, by decide +kernel, rfl, by decide +kernel, by decide +kernel⟩
theorem ok_sums_low_noughts (C : Cst K mg) (hD : FnAt K mg "low_noughts" "low_noughts" s_sums_low_noughts) (g_bits_full : Fn P w K mg base 1 "full" ["width"] 1 sh_bits_full) (g_bits_low_run : Fn P w K mg base 1 "low_run" ["number"] 1 sh_bits_low_run) : Fn P w K mg base 2 "low_noughts" ["word", "one", "other", "width"] 4 sh_sums_low_noughts := by
  obtain ⟨f, fd, hd, hg⟩ := hD
  refine fn_mk (N := N_sums_low_noughts) hd hg sc_sums_low_noughts rfl (fun _ _ _ _ _ _ us hl => match us, hl with | [_, _, _, _], _ => rfl) rfl fun cdv A outer s H E hr => ?_
  have nd := sc_sums_low_noughts.nd
  exact (ss_cons (ss_if (st_cmp (op_neA hr.units) ops_ne (se_var 0) se_str (nomark _)) (ss_one (ss_ret se_int)) ss_nil)
  (ss_one (ss_ret (se_call (g_bits_full.up (by decide)) hr (by rfl) (sa_cons (se_callB (call_min2 rfl) cas_int2 (by rfl) C.b_min (by decide +kernel) (sa_cons (se_var 3) (sa_cons (se_op op_addA ops_add (se_call (g_bits_low_run.up (by decide)) hr (by rfl) (sa_cons (se_ix ix_seq ops_ix (se_var 1) se_int (fun _ _ => rfl)) sa_nil) (len_cons len_nil)) (se_call (g_bits_low_run.up (by decide)) hr (by rfl) (sa_cons (se_ix ix_seq ops_ix (se_var 2) se_int (fun _ _ => rfl)) sa_nil) (len_cons len_nil))) sa_nil))) sa_nil) (len_cons len_nil)))))
abbrev N_sums_alike_of_sum : List Str := ["word", "one", "other"]
theorem sc_sums_alike_of_sum : FnScope N_sums_alike_of_sum ["word", "one", "other"] (defScope s_sums_alike_of_sum) := ⟨rfl, rfl, rfl, by decide +kernel, rfl, by decide +kernel, by decide +kernel⟩
theorem ok_sums_alike_of_sum (C : Cst K mg) (hD : FnAt K mg "alike_of_sum" "alike_of_sum" s_sums_alike_of_sum) : Fn P w K mg base 1 "alike_of_sum" ["word", "one", "other"] 3 sh_sums_alike_of_sum := by
  obtain ⟨f, fd, hd, hg⟩ := hD
  refine fn_mk (N := N_sums_alike_of_sum) hd hg sc_sums_alike_of_sum rfl (fun _ _ _ _ _ _ us hl => match us, hl with | [_, _, _], _ => rfl) rfl fun cdv A outer s H E hr => ?_
  have nd := sc_sums_alike_of_sum.nd
  exact (ss_cons (ss_if (st_cmp (op_eqA hr.units) ops_eq (se_var 0) se_str (nomark _)) (ss_one (ss_ret se_int)) ss_nil)
  (ss_one (ss_ret (se_callB (call_max2 rfl) cas_int2 (by rfl) C.b_max (by decide +kernel) (sa_cons se_int (sa_cons (se_op op_sub ops_sub (se_callB (call_min2 rfl) cas_int2 (by rfl) C.b_min (by decide +kernel) (sa_cons (se_ix ix_seq ops_ix (se_var 1) se_int (fun _ _ => rfl)) (sa_cons (se_ix ix_seq ops_ix (se_var 2) se_int (fun _ _ => rfl)) sa_nil))) se_int) sa_nil))))))
abbrev N_sums_sum_fact : List Str := ["word", "one", "other", "width", "low", "top", "noughts"]
theorem sc_sums_sum_fact : FnScope N_sums_sum_fact ["word", "one", "other", "width"] (defScope s_sums_sum_fact) := ⟨rfl, rfl, rfl, by decide +kernel, rfl, by decide +kernel, by decide +kernel⟩
theorem ok_sums_sum_fact (C : Cst K mg) (hD : FnAt K mg "sum_fact" "sum_fact" s_sums_sum_fact) (g_sums_low_bits : Fn P w K mg base 2 "low_bits" ["word", "one", "other"] 3 sh_sums_low_bits) (g_sums_top_bits : Fn P w K mg base 4 "top_bits" ["word", "one", "other", "width"] 4 sh_sums_top_bits) (g_sums_low_noughts : Fn P w K mg base 2 "low_noughts" ["word", "one", "other", "width"] 4 sh_sums_low_noughts) (g_sums_alike_of_sum : Fn P w K mg base 1 "alike_of_sum" ["word", "one", "other"] 3 sh_sums_alike_of_sum) : Fn P w K mg base 5 "sum_fact" ["word", "one", "other", "width"] 4 sh_sums_sum_fact := by
  obtain ⟨f, fd, hd, hg⟩ := hD
  refine fn_mk (N := N_sums_sum_fact) hd hg sc_sums_sum_fact rfl (fun _ _ _ _ _ _ us hl => match us, hl with | [_, _, _, _], _ => rfl) rfl fun cdv A outer s H E hr => ?_
  have nd := sc_sums_sum_fact.nd
  exact (ss_cons (ss_set 4 nd rfl (by first | exact .inl rfl | exact .inr rfl) (se_call (g_sums_low_bits.up (by decide)) hr (by rfl) (sa_cons (se_var 0) (sa_cons (se_var 1) (sa_cons (se_var 2) sa_nil))) (len_cons (len_cons (len_cons len_nil)))))
  (ss_cons (ss_set 5 nd rfl (by first | exact .inl rfl | exact .inr rfl) (se_call (g_sums_top_bits.up (by decide)) hr (by rfl) (sa_cons (se_var 0) (sa_cons (se_var 1) (sa_cons (se_var 2) (sa_cons (se_var 3) sa_nil)))) (len_cons (len_cons (len_cons (len_cons len_nil))))))
  (ss_cons (ss_set 6 nd rfl (by first | exact .inl rfl | exact .inr rfl) (se_op op_or ops_or (se_op op_or ops_or (se_ix ix_seq ops_ix (se_var 4) se_int (fun _ _ => rfl)) (se_ix ix_seq ops_ix (se_var 5) se_int (fun _ _ => rfl))) (se_call (g_sums_low_noughts.up (by decide)) hr (by rfl) (sa_cons (se_var 0) (sa_cons (se_var 1) (sa_cons (se_var 2) (sa_cons (se_var 3) sa_nil)))) (len_cons (len_cons (len_cons (len_cons len_nil)))))))
  (ss_one (ss_ret (se_tup (sa_cons (se_var 6) (sa_cons (se_op op_or ops_or (se_ix ix_seq ops_ix (se_var 4) se_int (fun _ _ => rfl)) (se_ix ix_seq ops_ix (se_var 5) se_int (fun _ _ => rfl))) (sa_cons (se_call (g_sums_alike_of_sum.up (by decide)) hr (by rfl) (sa_cons (se_var 0) (sa_cons (se_var 1) (sa_cons (se_var 2) sa_nil))) (len_cons (len_cons (len_cons len_nil)))) sa_nil)))))))))
abbrev N_bits_stretched : List Str := ["number", "width", "wider"]
theorem sc_bits_stretched : FnScope N_bits_stretched ["number", "width", "wider"] (defScope s_bits_stretched) := ⟨rfl, rfl, rfl, by decide +kernel, rfl, by decide +kernel, by decide +kernel⟩
theorem ok_bits_stretched (C : Cst K mg) (hD : FnAt K mg "stretched" "stretched" s_bits_stretched) (g_bits_full : Fn P w K mg base 1 "full" ["width"] 1 sh_bits_full) : Fn P w K mg base 2 "stretched" ["number", "width", "wider"] 3 sh_bits_stretched := by
  obtain ⟨f, fd, hd, hg⟩ := hD
  refine fn_mk (N := N_bits_stretched) hd hg sc_bits_stretched rfl (fun _ _ _ _ _ _ us hl => match us, hl with | [_, _, _], _ => rfl) rfl fun cdv A outer s H E hr => ?_
  have nd := sc_bits_stretched.nd
  exact (ss_cons (ss_if (st_cmp (op_eqA hr.units) ops_eq (se_op op_and ops_and (se_op op_shr ops_shr (se_var 0) (se_op op_sub ops_sub (se_var 1) se_int)) se_int) se_int (nomark _)) (ss_one (ss_ret (se_op op_sub ops_sub (se_op op_addA ops_add (se_var 0) (se_call (g_bits_full.up (by decide)) hr (by rfl) (sa_cons (se_var 2) sa_nil) (len_cons len_nil))) (se_call (g_bits_full.up (by decide)) hr (by rfl) (sa_cons (se_var 1) sa_nil) (len_cons len_nil))))) ss_nil)
  (ss_one (ss_ret (se_var 0))))
abbrev N_rules_shifted : List Str := ["row", "width", "fact", "noughts", "ones", "alike", "k", "wider"]
theorem sc_rules_shifted : FnScope N_rules_shifted ["row", "width", "fact"] (defScope s_rules_shifted) := ⟨rfl, rfl, rfl, by decide +kernel, rfl, by decide +kernel, by decide +kernel⟩
theorem ok_rules_shifted (C : Cst K mg) (hD : FnAt K mg "shifted" "shifted" s_rules_shifted) (g_bits_full : Fn P w K mg base 1 "full" ["width"] 1 sh_bits_full) (g_bits_stretched : Fn P w K mg base 2 "stretched" ["number", "width", "wider"] 3 sh_bits_stretched) : Fn P w K mg base 3 "shifted" ["row", "width", "fact"] 3 sh_rules_shifted := by
  obtain ⟨f, fd, hd, hg⟩ := hD
  refine fn_mk (N := N_rules_shifted) hd hg sc_rules_shifted rfl (fun _ _ _ _ _ _ us hl => match us, hl with | [_, _, _], _ => rfl) rfl fun cdv A outer s H E hr => ?_
  have nd := sc_rules_shifted.nd
  exact (ss_cons (ss_asgT rfl (se_var 2) (sgs_cons 3 nd rfl (by first | exact .inl rfl | exact .inr rfl) (sgs_cons 4 nd rfl (by first | exact .inl rfl | exact .inr rfl) (sgs_cons 5 nd rfl (by first | exact .inl rfl | exact .inr rfl) sgs_nil))) rfl)
  (ss_cons (ss_set 6 nd rfl (by first | exact .inl rfl | exact .inr rfl) (se_ix ix_seq ops_ix (se_var 0) se_int (fun _ _ => rfl)))
  (ss_cons (ss_if (st_cmp (op_eqA hr.units) ops_eq (se_ix ix_seq ops_ix (se_var 0) se_int (fun _ _ => rfl)) se_str (nomark _)) (ss_one (ss_ret (se_tup (sa_cons (se_op op_and ops_and (se_op op_or ops_or (se_op op_shlW ops_shl (se_var 3) (se_var 6)) (se_call (g_bits_full.up (by decide)) hr (by rfl) (sa_cons (se_var 6) sa_nil) (len_cons len_nil))) (se_call (g_bits_full.up (by decide)) hr (by rfl) (sa_cons (se_var 1) sa_nil) (len_cons len_nil))) (sa_cons (se_op op_and ops_and (se_op op_shlW ops_shl (se_var 4) (se_var 6)) (se_call (g_bits_full.up (by decide)) hr (by rfl) (sa_cons (se_var 1) sa_nil) (len_cons len_nil))) (sa_cons (se_callB (call_max2 rfl) cas_int2 (by rfl) C.b_max (by decide +kernel) (sa_cons se_int (sa_cons (se_op op_sub ops_sub (se_var 5) (se_var 6)) sa_nil))) sa_nil)))))) ss_nil)
  (ss_cons (ss_if (st_cmp (op_eqA hr.units) ops_eq (se_ix ix_seq ops_ix (se_var 0) se_int (fun _ _ => rfl)) se_str (nomark _)) (ss_cons (ss_set 7 nd rfl (by first | exact .inl rfl | exact .inr rfl) (se_op op_addA ops_add (se_var 1) (se_var 6)))
  (ss_one (ss_ret (se_tup (sa_cons (se_op op_shr ops_shr (se_call (g_bits_stretched.up (by decide)) hr (by rfl) (sa_cons (se_var 3) (sa_cons (se_var 1) (sa_cons (se_var 7) sa_nil))) (len_cons (len_cons (len_cons len_nil)))) (se_var 6)) (sa_cons (se_op op_shr ops_shr (se_call (g_bits_stretched.up (by decide)) hr (by rfl) (sa_cons (se_var 4) (sa_cons (se_var 1) (sa_cons (se_var 7) sa_nil))) (len_cons (len_cons (len_cons len_nil)))) (se_var 6)) (sa_cons (se_callB (call_min2 rfl) cas_int2 (by rfl) C.b_min (by decide +kernel) (sa_cons (se_var 1) (sa_cons (se_op op_addA ops_add (se_var 5) (se_var 6)) sa_nil))) sa_nil))))))) ss_nil)
  (ss_cons (ss_if (st_cmp (op_eqA hr.units) ops_eq (se_var 6) se_int (nomark _)) (ss_one (ss_ret (se_var 2))) ss_nil)
  (ss_one (ss_ret (se_tup (sa_cons (se_op op_or ops_or (se_op op_shr ops_shr (se_var 3) (se_var 6)) (se_op op_sub ops_sub (se_call (g_bits_full.up (by decide)) hr (by rfl) (sa_cons (se_var 1) sa_nil) (len_cons len_nil)) (se_call (g_bits_full.up (by decide)) hr (by rfl) (sa_cons (se_callB (call_max2 rfl) cas_int2 (by rfl) C.b_max (by decide +kernel) (sa_cons se_int (sa_cons (se_op op_sub ops_sub (se_var 1) (se_var 6)) sa_nil))) sa_nil) (len_cons len_nil)))) (sa_cons (se_op op_shr ops_shr (se_var 4) (se_var 6)) (sa_cons se_int sa_nil)))))))))))
abbrev N_rules_fitted : List Str := ["row", "width", "fact", "noughts", "ones", "alike"]
theorem sc_rules_fitted : FnScope N_rules_fitted ["row", "width", "fact"] (defScope s_rules_fitted) := ⟨rfl, rfl, rfl, by decide +kernel, rfl, by decide +kernel, by decide +kernel⟩
theorem ok_rules_fitted (C : Cst K mg) (hD : FnAt K mg "fitted" "fitted" s_rules_fitted) (g_bits_stretched : Fn P w K mg base 2 "stretched" ["number", "width", "wider"] 3 sh_bits_stretched) (g_bits_full : Fn P w K mg base 1 "full" ["width"] 1 sh_bits_full) : Fn P w K mg base 3 "fitted" ["row", "width", "fact"] 3 sh_rules_fitted := by
  obtain ⟨f, fd, hd, hg⟩ := hD
  refine fn_mk (N := N_rules_fitted) hd hg sc_rules_fitted rfl (fun _ _ _ _ _ _ us hl => match us, hl with | [_, _, _], _ => rfl) rfl fun cdv A outer s H E hr => ?_
  have nd := sc_rules_fitted.nd
  exact (ss_cons (ss_asgT rfl (se_var 2) (sgs_cons 3 nd rfl (by first | exact .inl rfl | exact .inr rfl) (sgs_cons 4 nd rfl (by first | exact .inl rfl | exact .inr rfl) (sgs_cons 5 nd rfl (by first | exact .inl rfl | exact .inr rfl) sgs_nil))) rfl)
  (ss_cons (ss_if (st_cmp (op_eqA hr.units) ops_eq (se_ix ix_seq ops_ix (se_var 0) se_int (fun _ _ => rfl)) se_str (nomark _)) (ss_one (ss_ret (se_tup (sa_cons (se_op op_and ops_and (se_var 3) (se_call (g_bits_full.up (by decide)) hr (by rfl) (sa_cons (se_ix ix_seq ops_ix (se_var 0) se_int (fun _ _ => rfl)) sa_nil) (len_cons len_nil))) (sa_cons (se_op op_and ops_and (se_var 4) (se_call (g_bits_full.up (by decide)) hr (by rfl) (sa_cons (se_ix ix_seq ops_ix (se_var 0) se_int (fun _ _ => rfl)) sa_nil) (len_cons len_nil))) (sa_cons (se_callB (call_max2 rfl) cas_int2 (by rfl) C.b_max (by decide +kernel) (sa_cons se_int (sa_cons (se_op op_sub ops_sub (se_var 5) (se_op op_sub ops_sub (se_var 1) (se_ix ix_seq ops_ix (se_var 0) se_int (fun _ _ => rfl)))) sa_nil))) sa_nil)))))) ss_nil)
  (ss_cons (ss_if (st_cmp (op_eqA hr.units) ops_eq (se_ix ix_seq ops_ix (se_var 0) se_int (fun _ _ => rfl)) se_str (nomark _)) (ss_one (ss_ret (se_tup (sa_cons (se_call (g_bits_stretched.up (by decide)) hr (by rfl) (sa_cons (se_var 3) (sa_cons (se_var 1) (sa_cons (se_ix ix_seq ops_ix (se_var 0) se_int (fun _ _ => rfl)) sa_nil))) (len_cons (len_cons (len_cons len_nil)))) (sa_cons (se_call (g_bits_stretched.up (by decide)) hr (by rfl) (sa_cons (se_var 4) (sa_cons (se_var 1) (sa_cons (se_ix ix_seq ops_ix (se_var 0) se_int (fun _ _ => rfl)) sa_nil))) (len_cons (len_cons (len_cons len_nil)))) (sa_cons (se_op op_sub ops_sub (se_op op_addA ops_add (se_var 5) (se_ix ix_seq ops_ix (se_var 0) se_int (fun _ _ => rfl))) (se_var 1)) sa_nil)))))) ss_nil)
  (ss_cons (ss_if (st_cmp (op_eqA hr.units) ops_eq (se_ix ix_seq ops_ix (se_var 0) se_int (fun _ _ => rfl)) (se_var 1) (nomark _)) (ss_one (ss_ret (se_var 2))) ss_nil)
  (ss_one (ss_ret (se_tup (sa_cons (se_op op_or ops_or (se_var 3) (se_op op_sub ops_sub (se_call (g_bits_full.up (by decide)) hr (by rfl) (sa_cons (se_ix ix_seq ops_ix (se_var 0) se_int (fun _ _ => rfl)) sa_nil) (len_cons len_nil)) (se_call (g_bits_full.up (by decide)) hr (by rfl) (sa_cons (se_var 1) sa_nil) (len_cons len_nil)))) (sa_cons (se_var 4) (sa_cons se_int sa_nil))))))))))
abbrev N_rules_picked : List Str := ["test", "one", "other"]
theorem sc_rules_picked : FnScope N_rules_picked ["test", "one", "other"] (defScope s_rules_picked) := ⟨rfl, rfl, rfl, by decide +kernel, rfl, by decide +kernel, by decide +kernel⟩
theorem ok_rules_picked (C : Cst K mg) (hD : FnAt K mg "picked" "picked" s_rules_picked) : Fn P w K mg base 1 "picked" ["test", "one", "other"] 3 sh_rules_picked := by
  obtain ⟨f, fd, hd, hg⟩ := hD
  refine fn_mk (N := N_rules_picked) hd hg sc_rules_picked rfl (fun _ _ _ _ _ _ us hl => match us, hl with | [_, _, _], _ => rfl) rfl fun cdv A outer s H E hr => ?_
  have nd := sc_rules_picked.nd
  exact (ss_cons (ss_if (st_cmp (op_eqA hr.units) ops_eq (se_ix ix_seq ops_ix (se_var 0) se_int (fun _ _ => rfl)) se_int (nomark _)) (ss_one (ss_ret (se_var 1))) ss_nil)
  (ss_cons (ss_if (st_cmp (op_eqA hr.units) ops_eq (se_ix ix_seq ops_ix (se_var 0) se_int (fun _ _ => rfl)) se_int (nomark _)) (ss_one (ss_ret (se_var 2))) ss_nil)
  (ss_one (ss_ret (se_tup (sa_cons (se_op op_and ops_and (se_ix ix_seq ops_ix (se_var 1) se_int (fun _ _ => rfl)) (se_ix ix_seq ops_ix (se_var 2) se_int (fun _ _ => rfl))) (sa_cons (se_op op_and ops_and (se_ix ix_seq ops_ix (se_var 1) se_int (fun _ _ => rfl)) (se_ix ix_seq ops_ix (se_var 2) se_int (fun _ _ => rfl))) (sa_cons (se_callB (call_min2 rfl) cas_int2 (by rfl) C.b_min (by decide +kernel) (sa_cons (se_ix ix_seq ops_ix (se_var 1) se_int (fun _ _ => rfl)) (sa_cons (se_ix ix_seq ops_ix (se_var 2) se_int (fun _ _ => rfl)) sa_nil))) sa_nil))))))))
abbrev N_rules_less_known : List Str := ["one", "other", "width"]
theorem sc_rules_less_known : FnScope N_rules_less_known ["one", "other", "width"] (defScope s_rules_less_known) := ⟨rfl, rfl, rfl, by decide +kernel, rfl, by decide +kernel, by decide +kernel⟩
theorem ok_rules_less_known (C : Cst K mg) (hD : FnAt K mg "less_known" "less_known" s_rules_less_known) (g_facts_greatest : Fn P w K mg base 2 "greatest" ["fact", "width"] 2 sh_facts_greatest) (g_facts_least : Fn P w K mg base 1 "least" ["fact"] 1 sh_facts_least) : Fn P w K mg base 3 "less_known" ["one", "other", "width"] 3 sh_rules_less_known := by
  obtain ⟨f, fd, hd, hg⟩ := hD
  refine fn_mk (N := N_rules_less_known) hd hg sc_rules_less_known rfl (fun _ _ _ _ _ _ us hl => match us, hl with | [_, _, _], _ => rfl) rfl fun cdv A outer s H E hr => ?_
  have nd := sc_rules_less_known.nd
  exact (ss_cons (ss_if (st_cmp op_lt ops_cmp (se_call (g_facts_greatest.up (by decide)) hr (by rfl) (sa_cons (se_var 0) (sa_cons (se_var 2) sa_nil)) (len_cons (len_cons len_nil))) (se_call (g_facts_least.up (by decide)) hr (by rfl) (sa_cons (se_var 1) sa_nil) (len_cons len_nil)) (nomark _)) (ss_one (ss_ret se_int)) ss_nil)
  (ss_cons (ss_if (st_cmp op_ge ops_cmp (se_call (g_facts_least.up (by decide)) hr (by rfl) (sa_cons (se_var 0) sa_nil) (len_cons len_nil)) (se_call (g_facts_greatest.up (by decide)) hr (by rfl) (sa_cons (se_var 1) (sa_cons (se_var 2) sa_nil)) (len_cons (len_cons len_nil))) (nomark _)) (ss_one (ss_ret se_int)) ss_nil)
  (ss_one (ss_ret se_none))))
abbrev N_rules_top_turned : List Str := ["fact", "width", "noughts", "ones", "alike", "top", "turned"]
theorem sc_rules_top_turned : FnScope N_rules_top_turned ["fact", "width"] (defScope s_rules_top_turned) := ⟨rfl, rfl, rfl, by decide +kernel, rfl, by decide +kernel, by decide +kernel⟩
theorem ok_rules_top_turned (C : Cst K mg) (hD : FnAt K mg "top_turned" "top_turned" s_rules_top_turned) : Fn P w K mg base 1 "top_turned" ["fact", "width"] 2 sh_rules_top_turned := by
  obtain ⟨f, fd, hd, hg⟩ := hD
  refine fn_mk (N := N_rules_top_turned) hd hg sc_rules_top_turned rfl (fun _ _ _ _ _ _ us hl => match us, hl with | [_, _], _ => rfl) rfl fun cdv A outer s H E hr => ?_
  have nd := sc_rules_top_turned.nd
  exact (ss_cons (ss_asgT rfl (se_var 0) (sgs_cons 2 nd rfl (by first | exact .inl rfl | exact .inr rfl) (sgs_cons 3 nd rfl (by first | exact .inl rfl | exact .inr rfl) (sgs_cons 4 nd rfl (by first | exact .inl rfl | exact .inr rfl) sgs_nil))) rfl)
  (ss_cons (ss_set 5 nd rfl (by first | exact .inl rfl | exact .inr rfl) (se_op op_shlW ops_shl se_int (se_op op_sub ops_sub (se_var 1) se_int)))
  (ss_cons (ss_set 6 nd rfl (by first | exact .inl rfl | exact .inr rfl) (se_op op_and ops_and (se_op op_or ops_or (se_var 2) (se_var 3)) (se_var 5)))
  (ss_one (ss_ret (se_tup (sa_cons (se_op op_xor ops_xor (se_var 2) (se_var 6)) (sa_cons (se_op op_xor ops_xor (se_var 3) (se_var 6)) (sa_cons (se_var 4) sa_nil)))))))))
abbrev N_rules_compared : List Str := ["word", "one", "other", "width"]
theorem sc_rules_compared : FnScope N_rules_compared ["word", "one", "other", "width"] (defScope s_rules_compared) := ⟨rfl, rfl, rfl, by decide +kernel, rfl, by decide +kernel, by decide +kernel⟩
theorem ok_rules_compared (C : Cst K mg) (hD : FnAt K mg "compared" "compared" s_rules_compared) (g_rules_less_known : Fn P w K mg base 3 "less_known" ["one", "other", "width"] 3 sh_rules_less_known) (g_bits_full : Fn P w K mg base 1 "full" ["width"] 1 sh_bits_full) (g_rules_top_turned : Fn P w K mg base 1 "top_turned" ["fact", "width"] 2 sh_rules_top_turned) : Fn P w K mg base 4 "compared" ["word", "one", "other", "width"] 4 sh_rules_compared := by
  obtain ⟨f, fd, hd, hg⟩ := hD
  refine fn_mk (N := N_rules_compared) hd hg sc_rules_compared rfl (fun _ _ _ _ _ _ us hl => match us, hl with | [_, _, _, _], _ => rfl) rfl fun cdv A outer s H E hr => ?_
  have nd := sc_rules_compared.nd
  exact (ss_cons (ss_if (st_cmp (op_eqA hr.units) ops_eq (se_var 0) se_str (nomark _)) (ss_one (ss_ret (se_call (g_rules_less_known.up (by decide)) hr (by rfl) (sa_cons (se_call (g_rules_top_turned.up (by decide)) hr (by rfl) (sa_cons (se_var 1) (sa_cons (se_var 3) sa_nil)) (len_cons (len_cons len_nil))) (sa_cons (se_call (g_rules_top_turned.up (by decide)) hr (by rfl) (sa_cons (se_var 2) (sa_cons (se_var 3) sa_nil)) (len_cons (len_cons len_nil))) (sa_cons (se_var 3) sa_nil))) (len_cons (len_cons (len_cons len_nil)))))) ss_nil)
  (ss_cons (ss_if (st_cmp (op_eqA hr.units) ops_eq (se_var 0) se_str (nomark _)) (ss_one (ss_ret (se_call (g_rules_less_known.up (by decide)) hr (by rfl) (sa_cons (se_var 1) (sa_cons (se_var 2) (sa_cons (se_var 3) sa_nil))) (len_cons (len_cons (len_cons len_nil)))))) ss_nil)
  (ss_cons (ss_if (st_cmp (op_neA hr.units) ops_ne (se_op op_or ops_or (se_op op_and ops_and (se_ix ix_seq ops_ix (se_var 1) se_int (fun _ _ => rfl)) (se_ix ix_seq ops_ix (se_var 2) se_int (fun _ _ => rfl))) (se_op op_and ops_and (se_ix ix_seq ops_ix (se_var 1) se_int (fun _ _ => rfl)) (se_ix ix_seq ops_ix (se_var 2) se_int (fun _ _ => rfl)))) se_int (nomark _)) (ss_one (ss_ret se_int)) ss_nil)
  (ss_cons (ss_if (st_cmp (op_eqA hr.units) ops_eq (se_op op_and ops_and (se_op op_or ops_or (se_ix ix_seq ops_ix (se_var 1) se_int (fun _ _ => rfl)) (se_ix ix_seq ops_ix (se_var 1) se_int (fun _ _ => rfl))) (se_op op_or ops_or (se_ix ix_seq ops_ix (se_var 2) se_int (fun _ _ => rfl)) (se_ix ix_seq ops_ix (se_var 2) se_int (fun _ _ => rfl)))) (se_call (g_bits_full.up (by decide)) hr (by rfl) (sa_cons (se_var 3) sa_nil) (len_cons len_nil)) (nomark _)) (ss_one (ss_ret se_int)) ss_nil)
  (ss_one (ss_ret se_none))))))
abbrev N_rules_told_by : List Str := ["row", "widths", "facts", "word"]
theorem sc_rules_told_by : FnScope N_rules_told_by ["row", "widths", "facts"] (defScope s_rules_told_by) := ⟨rfl, rfl, rfl, by decide +kernel, rfl, by decide +kernel, by decide +kernel⟩
theorem ok_rules_told_by (C : Cst K mg) (hD : FnAt K mg "told_by" "told_by" s_rules_told_by) (g_rules_truth : Fn P w K mg base 1 "truth" ["answer"] 1 sh_rules_truth) (g_rules_bitwise : Fn P w K mg base 1 "bitwise" ["word", "one", "other"] 3 sh_rules_bitwise) (g_sums_sum_fact : Fn P w K mg base 5 "sum_fact" ["word", "one", "other", "width"] 4 sh_sums_sum_fact) (g_rules_shifted : Fn P w K mg base 3 "shifted" ["row", "width", "fact"] 3 sh_rules_shifted) (g_rules_fitted : Fn P w K mg base 3 "fitted" ["row", "width", "fact"] 3 sh_rules_fitted) (g_rules_picked : Fn P w K mg base 1 "picked" ["test", "one", "other"] 3 sh_rules_picked) (g_rules_compared : Fn P w K mg base 4 "compared" ["word", "one", "other", "width"] 4 sh_rules_compared) (g_bits_full : Fn P w K mg base 1 "full" ["width"] 1 sh_bits_full) : Fn P w K mg base 6 "told_by" ["row", "widths", "facts"] 3 sh_rules_told_by := by
  obtain ⟨f, fd, hd, hg⟩ := hD
  refine fn_mk (N := N_rules_told_by) hd hg sc_rules_told_by rfl (fun _ _ _ _ _ _ us hl => match us, hl with | [_, _, _], _ => rfl) rfl fun cdv A outer s H E hr => ?_
  have nd := sc_rules_told_by.nd
  exact (ss_cons (ss_set 3 nd rfl (by first | exact .inl rfl | exact .inr rfl) (se_ix ix_seq ops_ix (se_var 0) se_int (fun _ _ => rfl)))
  (ss_cons (ss_if (st_cmp (op_eqA hr.units) ops_eq (se_var 3) se_str (nomark _)) (ss_one (ss_ret (se_tup (sa_cons se_int (sa_cons se_int (sa_cons se_int sa_nil)))))) ss_nil)
  (ss_cons (ss_if (st_cmp (op_eqA hr.units) ops_eq (se_var 3) se_str (nomark _)) (ss_one (ss_ret (se_tup (sa_cons (se_op op_sub ops_sub (se_call (g_bits_full.up (by decide)) hr (by rfl) (sa_cons (se_ix ix_seq ops_ix (se_var 0) se_int (fun _ _ => rfl)) sa_nil) (len_cons len_nil)) (se_ix ix_seq ops_ix (se_var 0) se_int (fun _ _ => rfl))) (sa_cons (se_ix ix_seq ops_ix (se_var 0) se_int (fun _ _ => rfl)) (sa_cons se_int sa_nil)))))) ss_nil)
  (ss_cons (ss_if (st_cmp (op_eqA hr.units) ops_eq (se_var 3) se_str (nomark _)) (ss_one (ss_ret (se_tup (sa_cons (se_ix ix_seq ops_ix (se_ix ix_seq ops_ix (se_var 2) se_int (fun _ _ => rfl)) se_int (fun _ _ => rfl)) (sa_cons (se_ix ix_seq ops_ix (se_ix ix_seq ops_ix (se_var 2) se_int (fun _ _ => rfl)) se_int (fun _ _ => rfl)) (sa_cons (se_ix ix_seq ops_ix (se_ix ix_seq ops_ix (se_var 2) se_int (fun _ _ => rfl)) se_int (fun _ _ => rfl)) sa_nil)))))) ss_nil)
  (ss_cons (ss_if (st_cmp (op_inA (hu65 hr)) ops_in (se_var 3) (se_tup (sa_cons se_str (sa_cons se_str (sa_cons se_str sa_nil)))) (by rfl)) (ss_one (ss_ret (se_call (g_rules_bitwise.up (by decide)) hr (by rfl) (sa_cons (se_var 3) (sa_cons (se_ix ix_seq ops_ix (se_var 2) se_int (fun _ _ => rfl)) (sa_cons (se_ix ix_seq ops_ix (se_var 2) se_int (fun _ _ => rfl)) sa_nil))) (len_cons (len_cons (len_cons len_nil)))))) ss_nil)
  (ss_cons (ss_if (st_cmp (op_inA (hu65 hr)) ops_in (se_var 3) (se_tup (sa_cons se_str (sa_cons se_str (sa_cons se_str sa_nil)))) (by rfl)) (ss_one (ss_ret (se_call (g_sums_sum_fact.up (by decide)) hr (by rfl) (sa_cons (se_var 3) (sa_cons (se_ix ix_seq ops_ix (se_var 2) se_int (fun _ _ => rfl)) (sa_cons (se_ix ix_seq ops_ix (se_var 2) se_int (fun _ _ => rfl)) (sa_cons (se_ix ix_seq ops_ix (se_var 0) se_int (fun _ _ => rfl)) sa_nil)))) (len_cons (len_cons (len_cons (len_cons len_nil))))))) ss_nil)
  (ss_cons (ss_if (st_cmp (op_inA (hu65 hr)) ops_in (se_var 3) (se_tup (sa_cons se_str (sa_cons se_str (sa_cons se_str sa_nil)))) (by rfl)) (ss_one (ss_ret (se_call (g_rules_shifted.up (by decide)) hr (by rfl) (sa_cons (se_var 0) (sa_cons (se_ix ix_seq ops_ix (se_var 1) se_int (fun _ _ => rfl)) (sa_cons (se_ix ix_seq ops_ix (se_var 2) se_int (fun _ _ => rfl)) sa_nil))) (len_cons (len_cons (len_cons len_nil)))))) ss_nil)
  (ss_cons (ss_if (st_cmp (op_inA (hu65 hr)) ops_in (se_var 3) (se_tup (sa_cons se_str (sa_cons se_str (sa_cons se_str sa_nil)))) (by rfl)) (ss_one (ss_ret (se_call (g_rules_fitted.up (by decide)) hr (by rfl) (sa_cons (se_var 0) (sa_cons (se_ix ix_seq ops_ix (se_var 1) se_int (fun _ _ => rfl)) (sa_cons (se_ix ix_seq ops_ix (se_var 2) se_int (fun _ _ => rfl)) sa_nil))) (len_cons (len_cons (len_cons len_nil)))))) ss_nil)
  (ss_cons (ss_if (st_cmp (op_eqA hr.units) ops_eq (se_var 3) se_str (nomark _)) (ss_one (ss_ret (se_call (g_rules_picked.up (by decide)) hr (by rfl) (sa_cons (se_ix ix_seq ops_ix (se_var 2) se_int (fun _ _ => rfl)) (sa_cons (se_ix ix_seq ops_ix (se_var 2) se_int (fun _ _ => rfl)) (sa_cons (se_ix ix_seq ops_ix (se_var 2) se_int (fun _ _ => rfl)) sa_nil))) (len_cons (len_cons (len_cons len_nil)))))) ss_nil)
  (ss_one (ss_ret (se_call (g_rules_truth.up (by decide)) hr (by rfl) (sa_cons (se_call (g_rules_compared.up (by decide)) hr (by rfl) (sa_cons (se_var 3) (sa_cons (se_ix ix_seq ops_ix (se_var 2) se_int (fun _ _ => rfl)) (sa_cons (se_ix ix_seq ops_ix (se_var 2) se_int (fun _ _ => rfl)) (sa_cons (se_ix ix_seq ops_ix (se_var 1) se_int (fun _ _ => rfl)) sa_nil)))) (len_cons (len_cons (len_cons (len_cons len_nil))))) sa_nil) (len_cons len_nil)))))))))))))
abbrev N_rules_rule : List Str := ["row", "widths", "facts"]
theorem sc_rules_rule : FnScope N_rules_rule ["row", "widths", "facts"] (defScope s_rules_rule) := ⟨rfl, rfl, rfl, by decide +kernel, rfl, by decide +kernel, by decide +kernel⟩
theorem ok_rules_rule (C : Cst K mg) (hD : FnAt K mg "rule" "rule" s_rules_rule) (g_facts_closed : Fn P w K mg base 2 "closed" ["fact", "width"] 2 sh_facts_closed) (g_rules_told_by : Fn P w K mg base 6 "told_by" ["row", "widths", "facts"] 3 sh_rules_told_by) : Fn P w K mg base 7 "rule" ["row", "widths", "facts"] 3 sh_rules_rule := by
  obtain ⟨f, fd, hd, hg⟩ := hD
  refine fn_mk (N := N_rules_rule) hd hg sc_rules_rule rfl (fun _ _ _ _ _ _ us hl => match us, hl with | [_, _, _], _ => rfl) rfl fun cdv A outer s H E hr => ?_
  have nd := sc_rules_rule.nd
  exact (ss_one (ss_ret (se_call (g_facts_closed.up (by decide)) hr (by rfl) (sa_cons (se_call (g_rules_told_by.up (by decide)) hr (by rfl) (sa_cons (se_var 0) (sa_cons (se_var 1) (sa_cons (se_var 2) sa_nil))) (len_cons (len_cons (len_cons len_nil)))) (sa_cons (se_ix ix_seq ops_ix (se_var 0) se_int (fun _ _ => rfl)) sa_nil)) (len_cons (len_cons len_nil)))))
abbrev N_L_gapless : List Str := ["_law_mask", "_law_width_here", "_law_k"]
theorem sc_L_gapless : FnScope N_L_gapless ["_law_mask", "_law_width_here"] (defScope s_L_gapless) := ⟨rfl, rfl, rfl, by decide +kernel, rfl, by decide +kernel, by decide +kernel⟩
theorem ok_L_gapless (C : Cst K mg) (hD : FnAt K mg "_law_gapless" "_law_gapless" s_L_gapless) : Fn P w K mg base 1 "_law_gapless" ["_law_mask", "_law_width_here"] 2 sh_L_gapless := by
  obtain ⟨f, fd, hd, hg⟩ := hD
  refine fn_mk (N := N_L_gapless) hd hg sc_L_gapless rfl (fun _ _ _ _ _ _ us hl => match us, hl with | [_, _], _ => rfl) rfl fun cdv A outer s H E hr => ?_
  have nd := sc_L_gapless.nd
  exact (ss_cons (ss_set 2 nd rfl (by first | exact .inl rfl | exact .inr rfl) se_int)
  (ss_cons (ss_while PassesOwn.never (sw_t (sw_and (st_cmp op_lt ops_cmp (se_var 2) (se_var 1) (nomark _)) (sw_and1 (st_cmp (op_eqA hr.units) ops_eq (se_op op_and ops_and (se_op op_shr ops_shr (se_var 0) (se_var 2)) se_int) se_int (nomark _))))) (ss_one (ss_set 2 nd rfl (by first | exact .inl rfl | exact .inr rfl) (se_op op_addA ops_add (se_var 2) se_int))))
  (ss_one (ss_ret (se_var 2)))))
abbrev N_L_noted : List Str := ["_law_found", "_law_number_here", "_law_places", "_law_k"]
theorem sc_L_noted : FnScope N_L_noted ["_law_found", "_law_number_here", "_law_places"] (defScope s_L_noted) := ⟨rfl, rfl, rfl, by decide +kernel, rfl, by decide +kernel, by decide +kernel⟩
theorem ok_L_noted (C : Cst K mg) (hD : FnAt K mg "_law_noted" "_law_noted" s_L_noted) : Fn P w K mg base 1 "_law_noted" ["_law_found", "_law_number_here", "_law_places"] 3 sh_L_noted := by
  obtain ⟨f, fd, hd, hg⟩ := hD
  refine fn_mk (N := N_L_noted) hd hg sc_L_noted rfl (fun _ _ _ _ _ _ us hl => match us, hl with | [_, _, _], _ => rfl) rfl fun cdv A outer s H E hr => ?_
  have nd := sc_L_noted.nd
  exact (ss_one (ss_for PassesOwn.never rfl (si_seq (se_var 2)) (sg_name 3 nd rfl (by first | exact .inl rfl | exact .inr rfl)) (ss_one (ss_setIx (se_var 0) (se_op op_and ops_and (se_op op_shr ops_shr (se_var 1) (se_var 3)) se_int) (se_op op_or ops_or (se_ix ix_seq ops_ix (se_var 0) (se_op op_and ops_and (se_op op_shr ops_shr (se_var 1) (se_var 3)) se_int) (fun _ _ => rfl)) (se_op op_shlW ops_shl se_int (se_var 3)))))))
abbrev N_L_closed : List Str := ["_law_fact_here", "_law_width_here", "_law_noughts", "_law_ones", "_law_alike_here", "_law_top"]
theorem sc_L_closed : FnScope N_L_closed ["_law_fact_here", "_law_width_here"] (defScope s_L_closed) := ⟨rfl, rfl, rfl, by decide +kernel, rfl, by decide +kernel, by decide +kernel⟩
theorem ok_L_closed (C : Cst K mg) (hD : FnAt K mg "_law_closed" "_law_closed" s_L_closed) (g_L_top_run : Fn P w K mg base 1 "_law_top_run" ["_law_mask", "_law_width_here"] 2 sh_L_top_run) : Fn P w K mg base 2 "_law_closed" ["_law_fact_here", "_law_width_here"] 2 sh_L_closed := by
  obtain ⟨f, fd, hd, hg⟩ := hD
  refine fn_mk (N := N_L_closed) hd hg sc_L_closed rfl (fun _ _ _ _ _ _ us hl => match us, hl with | [_, _], _ => rfl) rfl fun cdv A outer s H E hr => ?_
  have nd := sc_L_closed.nd
  exact (ss_cons (ss_asgT rfl (se_var 0) (sgs_cons 2 nd rfl (by first | exact .inl rfl | exact .inr rfl) (sgs_cons 3 nd rfl (by first | exact .inl rfl | exact .inr rfl) (sgs_cons 4 nd rfl (by first | exact .inl rfl | exact .inr rfl) sgs_nil))) rfl)
  (ss_cons (ss_set 5 nd rfl (by first | exact .inl rfl | exact .inr rfl) (se_op op_sub ops_sub (se_op op_shlW ops_shl se_int (se_var 1)) (se_op op_shlW ops_shl se_int (se_op op_sub ops_sub (se_var 1) (se_var 4)))))
  (ss_cons (ss_if (st_cmp op_gt ops_cmp (se_op op_and ops_and (se_var 2) (se_var 5)) se_int (nomark _)) (ss_one (ss_set 2 nd rfl (by first | exact .inl rfl | exact .inr rfl) (se_op op_or ops_or (se_var 2) (se_var 5)))) ss_nil)
  (ss_cons (ss_if (st_cmp op_gt ops_cmp (se_op op_and ops_and (se_var 3) (se_var 5)) se_int (nomark _)) (ss_one (ss_set 3 nd rfl (by first | exact .inl rfl | exact .inr rfl) (se_op op_or ops_or (se_var 3) (se_var 5)))) ss_nil)
  (ss_one (ss_ret (se_tup (sa_cons (se_var 2) (sa_cons (se_var 3) (sa_cons (se_callB (call_max3Nu rfl) cas_max3 (by rfl) C.b_max (by decide +kernel) (sa_cons (se_var 4) (sa_cons (se_call (g_L_top_run.up (by decide)) hr (by rfl) (sa_cons (se_var 2) (sa_cons (se_var 1) sa_nil)) (len_cons (len_cons len_nil))) (sa_cons (se_call (g_L_top_run.up (by decide)) hr (by rfl) (sa_cons (se_var 3) (sa_cons (se_var 1) sa_nil)) (len_cons (len_cons len_nil))) sa_nil)))) sa_nil))))))))))
abbrev N_L_outcome : List Str := ["_law_word", "_law_one", "_law_other"]
theorem sc_L_outcome : FnScope N_L_outcome ["_law_word", "_law_one", "_law_other"] (defScope s_L_outcome) := ⟨rfl, rfl, rfl, by decide +kernel, rfl, by decide +kernel, by decide +kernel⟩
theorem ok_L_outcome (C : Cst K mg) (hD : FnAt K mg "_law_outcome" "_law_outcome" s_L_outcome) : Fn P w K mg base 1 "_law_outcome" ["_law_word", "_law_one", "_law_other"] 3 sh_L_outcome := by
  obtain ⟨f, fd, hd, hg⟩ := hD
  refine fn_mk (N := N_L_outcome) hd hg sc_L_outcome rfl (fun _ _ _ _ _ _ us hl => match us, hl with | [_, _, _], _ => rfl) rfl fun cdv A outer s H E hr => ?_
  have nd := sc_L_outcome.nd
  exact (ss_cons (ss_if (st_cmp (op_eqA hr.units) ops_eq (se_var 0) se_str (nomark _)) (ss_one (ss_ret (se_op op_addA ops_add (se_var 1) (se_var 2)))) ss_nil)
  (ss_cons (ss_if (st_cmp (op_eqA hr.units) ops_eq (se_var 0) se_str (nomark _)) (ss_one (ss_ret (se_op op_sub ops_sub (se_var 1) (se_var 2)))) ss_nil)
  (ss_one (ss_ret (se_op op_mulL ops_mul (se_var 1) (se_var 2))))))
abbrev N_L_due : List Str := ["_law_word", "_law_width_here", "_law_one", "_law_other", "_law_found", "_law_low", "_law_whole", "_law_span", "_law_k", "_law_alike_here", "_law_many"]
theorem sc_L_due : FnScope N_L_due ["_law_word", "_law_width_here", "_law_one", "_law_other"] (defScope s_L_due) := ⟨rfl, rfl, rfl, by decide +kernel, rfl, by decide +kernel, by decide +kernel⟩
theorem ok_L_due (C : Cst K mg) (hD : FnAt K mg "_law_due" "_law_due" s_L_due) (g_L_gapless : Fn P w K mg base 1 "_law_gapless" ["_law_mask", "_law_width_here"] 2 sh_L_gapless) (g_L_noted : Fn P w K mg base 1 "_law_noted" ["_law_found", "_law_number_here", "_law_places"] 3 sh_L_noted) (g_L_closed : Fn P w K mg base 2 "_law_closed" ["_law_fact_here", "_law_width_here"] 2 sh_L_closed) (g_L_outcome : Fn P w K mg base 1 "_law_outcome" ["_law_word", "_law_one", "_law_other"] 3 sh_L_outcome) : Fn P w K mg base 3 "_law_due" ["_law_word", "_law_width_here", "_law_one", "_law_other"] 4 sh_L_due := by
  obtain ⟨f, fd, hd, hg⟩ := hD
  refine fn_mk (N := N_L_due) hd hg sc_L_due rfl (fun _ _ _ _ _ _ us hl => match us, hl with | [_, _, _, _], _ => rfl) rfl fun cdv A outer s H E hr => ?_
  have nd := sc_L_due.nd
  exact (ss_cons (ss_set 4 nd rfl (by first | exact .inl rfl | exact .inr rfl) (se_lstM (sa_cons se_int (sa_cons se_int sa_nil))))
  (ss_cons (ss_set 5 nd rfl (by first | exact .inl rfl | exact .inr rfl) (se_call (g_L_gapless.up (by decide)) hr (by rfl) (sa_cons (se_op op_and ops_and (se_op op_or ops_or (se_ix ix_seq ops_ix (se_var 2) se_int (fun _ _ => rfl)) (se_ix ix_seq ops_ix (se_var 2) se_int (fun _ _ => rfl))) (se_op op_or ops_or (se_ix ix_seq ops_ix (se_var 3) se_int (fun _ _ => rfl)) (se_ix ix_seq ops_ix (se_var 3) se_int (fun _ _ => rfl)))) (sa_cons (se_var 1) sa_nil)) (len_cons (len_cons len_nil))))
  (ss_cons (ss_expr (se_call (g_L_noted.up (by decide)) hr (by rfl) (sa_cons (se_var 4) (sa_cons (se_call (g_L_outcome.up (by decide)) hr (by rfl) (sa_cons (se_var 0) (sa_cons (se_ix ix_seq ops_ix (se_var 2) se_int (fun _ _ => rfl)) (sa_cons (se_ix ix_seq ops_ix (se_var 3) se_int (fun _ _ => rfl)) sa_nil))) (len_cons (len_cons (len_cons len_nil)))) (sa_cons (se_lrg1 rfl (by rfl) C.b_list (by rfl) C.b_range (se_var 5)) sa_nil))) (len_cons (len_cons (len_cons len_nil)))))
  (ss_cons (ss_set 6 nd rfl (by first | exact .inl rfl | exact .inr rfl) (se_op op_sub ops_sub (se_op op_shlW ops_shl se_int (se_var 1)) se_int))
  (ss_cons (ss_set 7 nd rfl (by first | exact .inl rfl | exact .inr rfl) (se_lst (sa_cons (se_call (g_L_outcome.up (by decide)) hr (by rfl) (sa_cons (se_var 0) (sa_cons (se_ix ix_seq ops_ix (se_var 2) se_int (fun _ _ => rfl)) (sa_cons (se_ix ix_seq ops_ix (se_var 3) se_int (fun _ _ => rfl)) sa_nil))) (len_cons (len_cons (len_cons len_nil)))) (sa_cons (se_call (g_L_outcome.up (by decide)) hr (by rfl) (sa_cons (se_var 0) (sa_cons (se_op op_sub ops_sub (se_var 6) (se_ix ix_seq ops_ix (se_var 2) se_int (fun _ _ => rfl))) (sa_cons (se_op op_sub ops_sub (se_var 6) (se_ix ix_seq ops_ix (se_var 3) se_int (fun _ _ => rfl))) sa_nil))) (len_cons (len_cons (len_cons len_nil)))) sa_nil))))
  (ss_cons (ss_if (st_cmp (op_eqA hr.units) ops_eq (se_var 0) se_str (nomark _)) (ss_one (ss_set 7 nd rfl (by first | exact .inl rfl | exact .inr rfl) (se_lst (sa_cons (se_op op_sub ops_sub (se_ix ix_seq ops_ix (se_var 2) se_int (fun _ _ => rfl)) (se_op op_sub ops_sub (se_var 6) (se_ix ix_seq ops_ix (se_var 3) se_int (fun _ _ => rfl)))) (sa_cons (se_op op_sub ops_sub (se_op op_sub ops_sub (se_var 6) (se_ix ix_seq ops_ix (se_var 2) se_int (fun _ _ => rfl))) (se_ix ix_seq ops_ix (se_var 3) se_int (fun _ _ => rfl))) sa_nil))))) ss_nil)
  (ss_cons (ss_if (sw_t (sw_and (st_cmp op_le ops_cmp se_int (se_ix ix_seq ops_ix (se_var 7) se_int (fun _ _ => rfl)) (nomark _)) (sw_and1 (st_cmp op_le ops_cmp (se_ix ix_seq ops_ix (se_var 7) se_int (fun _ _ => rfl)) (se_var 6) (nomark _))))) (ss_cons (ss_set 8 nd rfl (by first | exact .inl rfl | exact .inr rfl) (se_var 1))
  (ss_cons (ss_while PassesOwn.never (sw_t (sw_and (st_cmp op_gt ops_cmp (se_var 8) se_int (nomark _)) (sw_and1 (st_cmp (op_eqA hr.units) ops_eq (se_op op_and ops_and (se_op op_shr ops_shr (se_ix ix_seq ops_ix (se_var 7) se_int (fun _ _ => rfl)) (se_op op_sub ops_sub (se_var 8) se_int)) se_int) (se_op op_and ops_and (se_op op_shr ops_shr (se_ix ix_seq ops_ix (se_var 7) se_int (fun _ _ => rfl)) (se_op op_sub ops_sub (se_var 8) se_int)) se_int) (nomark _))))) (ss_one (ss_set 8 nd rfl (by first | exact .inl rfl | exact .inr rfl) (se_op op_sub ops_sub (se_var 8) se_int))))
  (ss_one (ss_expr (se_call (g_L_noted.up (by decide)) hr (by rfl) (sa_cons (se_var 4) (sa_cons (se_ix ix_seq ops_ix (se_var 7) se_int (fun _ _ => rfl)) (sa_cons (se_lrg2 rfl (by rfl) C.b_list (by rfl) C.b_range (se_var 8) (se_var 1)) sa_nil))) (len_cons (len_cons (len_cons len_nil)))))))) ss_nil)
  (ss_cons (ss_set 9 nd rfl (by first | exact .inl rfl | exact .inr rfl) (se_callB (call_max2 rfl) cas_int2 (by rfl) C.b_max (by decide +kernel) (sa_cons se_int (sa_cons (se_op op_sub ops_sub (se_callB (call_min2 rfl) cas_int2 (by rfl) C.b_min (by decide +kernel) (sa_cons (se_ix ix_seq ops_ix (se_var 2) se_int (fun _ _ => rfl)) (sa_cons (se_ix ix_seq ops_ix (se_var 3) se_int (fun _ _ => rfl)) sa_nil))) se_int) sa_nil))))
  (ss_cons (ss_if (st_cmp (op_eqA hr.units) ops_eq (se_var 0) se_str (nomark _)) (ss_cons (ss_set 9 nd rfl (by first | exact .inl rfl | exact .inr rfl) se_int)
  (ss_cons (ss_set 10 nd rfl (by first | exact .inl rfl | exact .inr rfl) (se_callB (call_min2 rfl) cas_int2 (by rfl) C.b_min (by decide +kernel) (sa_cons (se_var 1) (sa_cons (se_op op_addA ops_add (se_call (g_L_gapless.up (by decide)) hr (by rfl) (sa_cons (se_ix ix_seq ops_ix (se_var 2) se_int (fun _ _ => rfl)) (sa_cons (se_var 1) sa_nil)) (len_cons (len_cons len_nil))) (se_call (g_L_gapless.up (by decide)) hr (by rfl) (sa_cons (se_ix ix_seq ops_ix (se_var 3) se_int (fun _ _ => rfl)) (sa_cons (se_var 1) sa_nil)) (len_cons (len_cons len_nil)))) sa_nil))))
  (ss_one (ss_expr (se_call (g_L_noted.up (by decide)) hr (by rfl) (sa_cons (se_var 4) (sa_cons se_int (sa_cons (se_lrg1 rfl (by rfl) C.b_list (by rfl) C.b_range (se_var 10)) sa_nil))) (len_cons (len_cons (len_cons len_nil)))))))) ss_nil)
  (ss_one (ss_ret (se_call (g_L_closed.up (by decide)) hr (by rfl) (sa_cons (se_tup (sa_cons (se_ix ix_seq ops_ix (se_var 4) se_int (fun _ _ => rfl)) (sa_cons (se_ix ix_seq ops_ix (se_var 4) se_int (fun _ _ => rfl)) (sa_cons (se_var 9) sa_nil)))) (sa_cons (se_var 1) sa_nil)) (len_cons (len_cons len_nil))))))))))))))
abbrev N_L_law : List Str := ["_law_script", "_law_state", "_law_turn", "_law_word", "_law_width_here", "_law_one", "_law_other"]
theorem sc_L_law : FnScope N_L_law ["_law_script"] (defScope s_L_law) := ⟨rfl, rfl, rfl, by decide +kernel, rfl, by decide +kernel, by decide +kernel⟩
theorem ok_L_law (C : Cst K mg) {f : Addr} {fd : FuncData} (hd : FunD K "law" "law" (defArgs s_L_law) (defBody s_L_law) (defScope s_L_law) [] [] f fd) (g_L_width : Fn P w K mg base 2 "_law_width" ["_law_state"] 1 sh_L_width) (g_L_draw : Fn P w K mg base 1 "_law_draw" ["_law_state", "_law_many"] 2 sh_L_draw) (g_L_fact : Fn P w K mg base 4 "_law_fact" ["_law_state", "_law_width_here"] 2 sh_L_fact) (g_L_near : Fn P w K mg base 4 "_law_near" ["_law_state", "_law_word", "_law_width_here", "_law_one"] 4 sh_L_near) (g_rules_rule : Fn P w K mg base 7 "rule" ["row", "widths", "facts"] 3 sh_rules_rule) (g_L_due : Fn P w K mg base 3 "_law_due" ["_law_word", "_law_width_here", "_law_one", "_law_other"] 4 sh_L_due) : FnOk P w K mg base CX0 8 f fd ["_law_script"] (spF K 1 sh_L_law) := by
  refine fnok_mk (N := N_L_law) hd sc_L_law rfl rfl fun cdv A outer s H E hr => ?_
  have nd := sc_L_law.nd
  exact (ss_cons (ss_set 1 nd rfl (by first | exact .inl rfl | exact .inr rfl) (se_lstM (sa_cons (se_var 0) (sa_cons se_int (sa_cons se_int sa_nil)))))
  (ss_cons (ss_for PassesOwn.never rfl (si_rng1 (by rfl) C.b_range (se_op op_addA ops_add se_int (se_callB (call_min2 rfl) cas_int2 (by rfl) C.b_min (by decide +kernel) (sa_cons se_int (sa_cons (se_op op_fdivW ops_fdiv (se_callB call_len cas_len (by rfl) C.b_len (by decide +kernel) (sa_cons (se_var 0) sa_nil)) se_int) sa_nil))))) (sg_name 2 nd rfl (by first | exact .inl rfl | exact .inr rfl)) (ss_cons (ss_set 3 nd rfl (by first | exact .inl rfl | exact .inr rfl) (se_ix ix_seq ops_ix (se_lst (sa_cons se_str (sa_cons se_str (sa_cons se_str sa_nil)))) (se_call (g_L_draw.up (by decide)) hr (by rfl) (sa_cons (se_var 1) (sa_cons se_int sa_nil)) (len_cons (len_cons len_nil))) (fun _ _ => rfl)))
  (ss_cons (ss_set 4 nd rfl (by first | exact .inl rfl | exact .inr rfl) (se_call (g_L_width.up (by decide)) hr (by rfl) (sa_cons (se_var 1) sa_nil) (len_cons len_nil)))
  (ss_cons (ss_set 5 nd rfl (by first | exact .inl rfl | exact .inr rfl) (se_slice (se_call (g_L_fact.up (by decide)) hr (by rfl) (sa_cons (se_var 1) (sa_cons (se_var 4) sa_nil)) (len_cons (len_cons len_nil))) so_none (so_some se_int)))
  (ss_cons (ss_set 6 nd rfl (by first | exact .inl rfl | exact .inr rfl) (se_slice (se_call (g_L_fact.up (by decide)) hr (by rfl) (sa_cons (se_var 1) (sa_cons (se_var 4) sa_nil)) (len_cons (len_cons len_nil))) so_none (so_some se_int)))
  (ss_cons (ss_if (st_cmp (op_eqA hr.units) ops_eq (se_call (g_L_draw.up (by decide)) hr (by rfl) (sa_cons (se_var 1) (sa_cons se_int sa_nil)) (len_cons (len_cons len_nil))) se_int (nomark _)) (ss_one (ss_set 6 nd rfl (by first | exact .inl rfl | exact .inr rfl) (se_call (g_L_near.up (by decide)) hr (by rfl) (sa_cons (se_var 1) (sa_cons (se_var 3) (sa_cons (se_var 4) (sa_cons (se_var 5) sa_nil)))) (len_cons (len_cons (len_cons (len_cons len_nil))))))) ss_nil)
  (ss_one (ss_if (st_cmp (op_neA hr.units) ops_ne (se_call (g_rules_rule.up (by decide)) hr (by rfl) (sa_cons (se_tup (sa_cons (se_var 3) (sa_cons (se_var 4) (sa_cons se_int (sa_cons se_int sa_nil))))) (sa_cons (se_tup (sa_cons (se_var 4) (sa_cons (se_var 4) sa_nil))) (sa_cons (se_tup (sa_cons (se_var 5) (sa_cons (se_var 6) sa_nil))) sa_nil))) (len_cons (len_cons (len_cons len_nil)))) (se_call (g_L_due.up (by decide)) hr (by rfl) (sa_cons (se_var 3) (sa_cons (se_var 4) (sa_cons (se_var 5) (sa_cons (se_var 6) sa_nil)))) (len_cons (len_cons (len_cons (len_cons len_nil))))) (nomark _)) (ss_one (ss_ret se_bool)) ss_nil))))))))
  (ss_one (ss_ret se_bool))))
end
def dd_L_draw : He.DefD := ⟨("_law_draw", none), "_law_draw", "_law_draw", defArgs s_L_draw, defBody s_L_draw, defScope s_L_draw, [], []⟩
def dd_L_width : He.DefD := ⟨("_law_width", none), "_law_width", "_law_width", defArgs s_L_width, defBody s_L_width, defScope s_L_width, [], []⟩
def dd_L_number : He.DefD := ⟨("_law_number", none), "_law_number", "_law_number", defArgs s_L_number, defBody s_L_number, defScope s_L_number, [], []⟩
def dd_L_num : He.DefD := ⟨("_law_num", none), "_law_num", "_law_num", defArgs s_L_num, defBody s_L_num, defScope s_L_num, [], []⟩
def dd_L_top_run : He.DefD := ⟨("_law_top_run", none), "_law_top_run", "_law_top_run", defArgs s_L_top_run, defBody s_L_top_run, defScope s_L_top_run, [], []⟩
def dd_L_alike : He.DefD := ⟨("_law_alike", none), "_law_alike", "_law_alike", defArgs s_L_alike, defBody s_L_alike, defScope s_L_alike, [], []⟩
def dd_L_fact : He.DefD := ⟨("_law_fact", none), "_law_fact", "_law_fact", defArgs s_L_fact, defBody s_L_fact, defScope s_L_fact, [], []⟩
def dd_L_near : He.DefD := ⟨("_law_near", none), "_law_near", "_law_near", defArgs s_L_near, defBody s_L_near, defScope s_L_near, [], []⟩
def dd_bits_full : He.DefD := ⟨("full", none), "full", "full", defArgs s_bits_full, defBody s_bits_full, defScope s_bits_full, [], []⟩
def dd_bits_top_run : He.DefD := ⟨("top_run", none), "top_run", "top_run", defArgs s_bits_top_run, defBody s_bits_top_run, defScope s_bits_top_run, [], []⟩
def dd_facts_closed : He.DefD := ⟨("closed", none), "closed", "closed", defArgs s_facts_closed, defBody s_facts_closed, defScope s_facts_closed, [], []⟩
def dd_rules_truth : He.DefD := ⟨("truth", none), "truth", "truth", defArgs s_rules_truth, defBody s_rules_truth, defScope s_rules_truth, [], []⟩
def dd_rules_bitwise : He.DefD := ⟨("bitwise", none), "bitwise", "bitwise", defArgs s_rules_bitwise, defBody s_rules_bitwise, defScope s_rules_bitwise, [], []⟩
def dd_bits_low_run : He.DefD := ⟨("low_run", none), "low_run", "low_run", defArgs s_bits_low_run, defBody s_bits_low_run, defScope s_bits_low_run, [], []⟩
def dd_sums_reckoned : He.DefD := ⟨("reckoned", none), "reckoned", "reckoned", defArgs s_sums_reckoned, defBody s_sums_reckoned, defScope s_sums_reckoned, [], []⟩
def dd_facts_least : He.DefD := ⟨("least", none), "least", "least", defArgs s_facts_least, defBody s_facts_least, defScope s_facts_least, [], []⟩
def dd_sums_low_bits : He.DefD := ⟨("low_bits", none), "low_bits", "low_bits", defArgs s_sums_low_bits, defBody s_sums_low_bits, defScope s_sums_low_bits, [], []⟩
def dd_facts_greatest : He.DefD := ⟨("greatest", none), "greatest", "greatest", defArgs s_facts_greatest, defBody s_facts_greatest, defScope s_facts_greatest, [], []⟩
def dd_sums_ends : He.DefD := ⟨("ends", none), "ends", "ends", defArgs s_sums_ends, defBody s_sums_ends, defScope s_sums_ends, [], []⟩
def dd_bits_reach : He.DefD := ⟨("reach", none), "reach", "reach", defArgs s_bits_reach, defBody s_bits_reach, defScope s_bits_reach, [], []⟩
def dd_bits_below : He.DefD := ⟨("below", none), "below", "below", defArgs s_bits_below, defBody s_bits_below, defScope s_bits_below, [], []⟩
def dd_bits_shared_top : He.DefD := ⟨("shared_top", none), "shared_top", "shared_top", defArgs s_bits_shared_top, defBody s_bits_shared_top, defScope s_bits_shared_top, [], []⟩
def dd_sums_top_bits : He.DefD := ⟨("top_bits", none), "top_bits", "top_bits", defArgs s_sums_top_bits, defBody s_sums_top_bits, defScope s_sums_top_bits, [], []⟩
def dd_sums_low_noughts : He.DefD := ⟨("low_noughts", none), "low_noughts", "low_noughts", defArgs s_sums_low_noughts, defBody s_sums_low_noughts, defScope s_sums_low_noughts, [], []⟩
def dd_sums_alike_of_sum : He.DefD := ⟨("alike_of_sum", none), "alike_of_sum", "alike_of_sum", defArgs s_sums_alike_of_sum, defBody s_sums_alike_of_sum, defScope s_sums_alike_of_sum, [], []⟩
def dd_sums_sum_fact : He.DefD := ⟨("sum_fact", none), "sum_fact", "sum_fact", defArgs s_sums_sum_fact, defBody s_sums_sum_fact, defScope s_sums_sum_fact, [], []⟩
def dd_bits_stretched : He.DefD := ⟨("stretched", none), "stretched", "stretched", defArgs s_bits_stretched, defBody s_bits_stretched, defScope s_bits_stretched, [], []⟩
def dd_rules_shifted : He.DefD := ⟨("shifted", none), "shifted", "shifted", defArgs s_rules_shifted, defBody s_rules_shifted, defScope s_rules_shifted, [], []⟩
def dd_rules_fitted : He.DefD := ⟨("fitted", none), "fitted", "fitted", defArgs s_rules_fitted, defBody s_rules_fitted, defScope s_rules_fitted, [], []⟩
def dd_rules_picked : He.DefD := ⟨("picked", none), "picked", "picked", defArgs s_rules_picked, defBody s_rules_picked, defScope s_rules_picked, [], []⟩
def dd_rules_less_known : He.DefD := ⟨("less_known", none), "less_known", "less_known", defArgs s_rules_less_known, defBody s_rules_less_known, defScope s_rules_less_known, [], []⟩
def dd_rules_top_turned : He.DefD := ⟨("top_turned", none), "top_turned", "top_turned", defArgs s_rules_top_turned, defBody s_rules_top_turned, defScope s_rules_top_turned, [], []⟩
def dd_rules_compared : He.DefD := ⟨("compared", none), "compared", "compared", defArgs s_rules_compared, defBody s_rules_compared, defScope s_rules_compared, [], []⟩
def dd_rules_told_by : He.DefD := ⟨("told_by", none), "told_by", "told_by", defArgs s_rules_told_by, defBody s_rules_told_by, defScope s_rules_told_by, [], []⟩
def dd_rules_rule : He.DefD := ⟨("rule", none), "rule", "rule", defArgs s_rules_rule, defBody s_rules_rule, defScope s_rules_rule, [], []⟩
def dd_L_gapless : He.DefD := ⟨("_law_gapless", none), "_law_gapless", "_law_gapless", defArgs s_L_gapless, defBody s_L_gapless, defScope s_L_gapless, [], []⟩
def dd_L_noted : He.DefD := ⟨("_law_noted", none), "_law_noted", "_law_noted", defArgs s_L_noted, defBody s_L_noted, defScope s_L_noted, [], []⟩
def dd_L_closed : He.DefD := ⟨("_law_closed", none), "_law_closed", "_law_closed", defArgs s_L_closed, defBody s_L_closed, defScope s_L_closed, [], []⟩
def dd_L_outcome : He.DefD := ⟨("_law_outcome", none), "_law_outcome", "_law_outcome", defArgs s_L_outcome, defBody s_L_outcome, defScope s_L_outcome, [], []⟩
def dd_L_due : He.DefD := ⟨("_law_due", none), "_law_due", "_law_due", defArgs s_L_due, defBody s_L_due, defScope s_L_due, [], []⟩
def dd_L_law : He.DefD := ⟨("law", none), "law", "law", defArgs s_L_law, defBody s_L_law, defScope s_L_law, [], []⟩
def fns : List He.DefD := [dd_L_draw, dd_L_width, dd_L_number, dd_L_num, dd_L_top_run, dd_L_alike, dd_L_fact, dd_L_near, dd_bits_full, dd_bits_top_run, dd_facts_closed, dd_rules_truth, dd_rules_bitwise, dd_bits_low_run, dd_sums_reckoned, dd_facts_least, dd_sums_low_bits, dd_facts_greatest, dd_sums_ends, dd_bits_reach, dd_bits_below, dd_bits_shared_top, dd_sums_top_bits, dd_sums_low_noughts, dd_sums_alike_of_sum, dd_sums_sum_fact, dd_bits_stretched, dd_rules_shifted, dd_rules_fitted, dd_rules_picked, dd_rules_less_known, dd_rules_top_turned, dd_rules_compared, dd_rules_told_by, dd_rules_rule, dd_L_gapless, dd_L_noted, dd_L_closed, dd_L_outcome, dd_L_due, dd_L_law]
def fas : List He.Fa := [.glo "_law_draw", .glo "_law_width", .glo "_law_number", .glo "_law_num", .glo "_law_top_run", .glo "_law_alike", .glo "_law_fact", .glo "_law_near", .glo "full", .glo "top_run", .glo "closed", .glo "truth", .glo "bitwise", .glo "low_run", .glo "reckoned", .glo "least", .glo "low_bits", .glo "greatest", .glo "ends", .glo "reach", .glo "below", .glo "shared_top", .glo "top_bits", .glo "low_noughts", .glo "alike_of_sum", .glo "sum_fact", .glo "stretched", .glo "shifted", .glo "fitted", .glo "picked", .glo "less_known", .glo "top_turned", .glo "compared", .glo "told_by", .glo "rule", .glo "_law_gapless", .glo "_law_noted", .glo "_law_closed", .glo "_law_outcome", .glo "_law_due", .glo "law", .free "len", .free "list", .free "max", .free "min", .free "range"]
def exB (K : PySem.W.Frag) : Bool := true
abbrev R : PySem.W.OpenRow := PySem.W.OpenLaw.row PySem.Challenge.rw_fewbits_k44_sums_known
abbrev hk : PySem.W.Hook := He.hookX 4 fas fns [] [] exB
def ob (s : PySem.W.SharedT) : He.AlX := He.obsX 4 fas fns [] [] exB (HandSHeadRun.getT s)
theorem ob_eq (s : PySem.W.SharedT) : ob s = hk.obs s.abs := He.obsX_eq (HandSHeadRun.getT_eq s)
def loose0 : List PySem.Str := ["full", "reach", "below", "low_run", "top_run", "stretched", "shared_top", "least", "greatest", "closed", "reckoned", "low_bits", "ends", "top_bits", "low_noughts", "alike_of_sum", "sum_fact", "bitwise", "shifted", "fitted", "top_turned", "truth", "less_known", "compared", "picked", "told_by", "rule", "_law_draw", "_law_number", "_law_width"]
def loose1 : List PySem.Str := ["_law_num", "_law_top_run", "_law_alike", "_law_fact", "_law_holds", "_law_closed", "_law_outcome", "_law_gapless", "_law_noted", "_law_due", "_law_near"]
def loose : List PySem.Str := loose0 ++ loose1
set_option maxHeartbeats 0 in
theorem run (w : World) : HandSHeadRun.RunEq R (PySem.W.view R.prog [46]) hk ob 20000 loose w := by
  intro os
  kernel_rfl
theorem facts {P : Program} {w : World} {K : PySem.W.Frag} {h : Heap} {mg : Str → Option Value} {fa : Addr} (X : K.In h) (G : h.Ns mainGlobals mg) (hfa : mg ("law" : Str) = some (.ref fa)) (c : He.SaysX fas fns [] [] exB w h K) :
    ∃ fd : FuncData, (∀ (s : Shared) (v : Value), BindsTo s fd ⟨[v], []⟩ [("_law_script", v)]) ∧ ∀ base : Heap, K.In base → base.Ns mainGlobals mg → FnOk P w K mg base CX0 8 fa fd ["_law_script"] (spF K 1 sh_L_law) := by
  have cD := c.t.d
  have D_L_draw : FnAt K mg "_law_draw" "_law_draw" s_L_draw := by
    obtain ⟨fd, F⟩ := cD.def_ 0 (d := dd_L_draw) rfl
    exact ⟨_, fd, F, He.glo_ok X G (cD.fact 0 (f := .glo "_law_draw") rfl)⟩
  have D_L_width : FnAt K mg "_law_width" "_law_width" s_L_width := by
    obtain ⟨fd, F⟩ := cD.def_ 1 (d := dd_L_width) rfl
    exact ⟨_, fd, F, He.glo_ok X G (cD.fact 1 (f := .glo "_law_width") rfl)⟩
  have D_L_number : FnAt K mg "_law_number" "_law_number" s_L_number := by
    obtain ⟨fd, F⟩ := cD.def_ 2 (d := dd_L_number) rfl
    exact ⟨_, fd, F, He.glo_ok X G (cD.fact 2 (f := .glo "_law_number") rfl)⟩
  have D_L_num : FnAt K mg "_law_num" "_law_num" s_L_num := by
    obtain ⟨fd, F⟩ := cD.def_ 3 (d := dd_L_num) rfl
    exact ⟨_, fd, F, He.glo_ok X G (cD.fact 3 (f := .glo "_law_num") rfl)⟩
  have D_L_top_run : FnAt K mg "_law_top_run" "_law_top_run" s_L_top_run := by
    obtain ⟨fd, F⟩ := cD.def_ 4 (d := dd_L_top_run) rfl
    exact ⟨_, fd, F, He.glo_ok X G (cD.fact 4 (f := .glo "_law_top_run") rfl)⟩
  have D_L_alike : FnAt K mg "_law_alike" "_law_alike" s_L_alike := by
    obtain ⟨fd, F⟩ := cD.def_ 5 (d := dd_L_alike) rfl
    exact ⟨_, fd, F, He.glo_ok X G (cD.fact 5 (f := .glo "_law_alike") rfl)⟩
  have D_L_fact : FnAt K mg "_law_fact" "_law_fact" s_L_fact := by
    obtain ⟨fd, F⟩ := cD.def_ 6 (d := dd_L_fact) rfl
    exact ⟨_, fd, F, He.glo_ok X G (cD.fact 6 (f := .glo "_law_fact") rfl)⟩
  have D_L_near : FnAt K mg "_law_near" "_law_near" s_L_near := by
    obtain ⟨fd, F⟩ := cD.def_ 7 (d := dd_L_near) rfl
    exact ⟨_, fd, F, He.glo_ok X G (cD.fact 7 (f := .glo "_law_near") rfl)⟩
  have D_bits_full : FnAt K mg "full" "full" s_bits_full := by
    obtain ⟨fd, F⟩ := cD.def_ 8 (d := dd_bits_full) rfl
    exact ⟨_, fd, F, He.glo_ok X G (cD.fact 8 (f := .glo "full") rfl)⟩
  have D_bits_top_run : FnAt K mg "top_run" "top_run" s_bits_top_run := by
    obtain ⟨fd, F⟩ := cD.def_ 9 (d := dd_bits_top_run) rfl
    exact ⟨_, fd, F, He.glo_ok X G (cD.fact 9 (f := .glo "top_run") rfl)⟩
  have D_facts_closed : FnAt K mg "closed" "closed" s_facts_closed := by
    obtain ⟨fd, F⟩ := cD.def_ 10 (d := dd_facts_closed) rfl
    exact ⟨_, fd, F, He.glo_ok X G (cD.fact 10 (f := .glo "closed") rfl)⟩
  have D_rules_truth : FnAt K mg "truth" "truth" s_rules_truth := by
    obtain ⟨fd, F⟩ := cD.def_ 11 (d := dd_rules_truth) rfl
    exact ⟨_, fd, F, He.glo_ok X G (cD.fact 11 (f := .glo "truth") rfl)⟩
  have D_rules_bitwise : FnAt K mg "bitwise" "bitwise" s_rules_bitwise := by
    obtain ⟨fd, F⟩ := cD.def_ 12 (d := dd_rules_bitwise) rfl
    exact ⟨_, fd, F, He.glo_ok X G (cD.fact 12 (f := .glo "bitwise") rfl)⟩
  have D_bits_low_run : FnAt K mg "low_run" "low_run" s_bits_low_run := by
    obtain ⟨fd, F⟩ := cD.def_ 13 (d := dd_bits_low_run) rfl
    exact ⟨_, fd, F, He.glo_ok X G (cD.fact 13 (f := .glo "low_run") rfl)⟩
  have D_sums_reckoned : FnAt K mg "reckoned" "reckoned" s_sums_reckoned := by
    obtain ⟨fd, F⟩ := cD.def_ 14 (d := dd_sums_reckoned) rfl
    exact ⟨_, fd, F, He.glo_ok X G (cD.fact 14 (f := .glo "reckoned") rfl)⟩
  have D_facts_least : FnAt K mg "least" "least" s_facts_least := by
    obtain ⟨fd, F⟩ := cD.def_ 15 (d := dd_facts_least) rfl
    exact ⟨_, fd, F, He.glo_ok X G (cD.fact 15 (f := .glo "least") rfl)⟩
  have D_sums_low_bits : FnAt K mg "low_bits" "low_bits" s_sums_low_bits := by
    obtain ⟨fd, F⟩ := cD.def_ 16 (d := dd_sums_low_bits) rfl
    exact ⟨_, fd, F, He.glo_ok X G (cD.fact 16 (f := .glo "low_bits") rfl)⟩
  have D_facts_greatest : FnAt K mg "greatest" "greatest" s_facts_greatest := by
    obtain ⟨fd, F⟩ := cD.def_ 17 (d := dd_facts_greatest) rfl
    exact ⟨_, fd, F, He.glo_ok X G (cD.fact 17 (f := .glo "greatest") rfl)⟩
  have D_sums_ends : FnAt K mg "ends" "ends" s_sums_ends := by
    obtain ⟨fd, F⟩ := cD.def_ 18 (d := dd_sums_ends) rfl
    exact ⟨_, fd, F, He.glo_ok X G (cD.fact 18 (f := .glo "ends") rfl)⟩
  have D_bits_reach : FnAt K mg "reach" "reach" s_bits_reach := by
    obtain ⟨fd, F⟩ := cD.def_ 19 (d := dd_bits_reach) rfl
    exact ⟨_, fd, F, He.glo_ok X G (cD.fact 19 (f := .glo "reach") rfl)⟩
  have D_bits_below : FnAt K mg "below" "below" s_bits_below := by
    obtain ⟨fd, F⟩ := cD.def_ 20 (d := dd_bits_below) rfl
    exact ⟨_, fd, F, He.glo_ok X G (cD.fact 20 (f := .glo "below") rfl)⟩
  have D_bits_shared_top : FnAt K mg "shared_top" "shared_top" s_bits_shared_top := by
    obtain ⟨fd, F⟩ := cD.def_ 21 (d := dd_bits_shared_top) rfl
    exact ⟨_, fd, F, He.glo_ok X G (cD.fact 21 (f := .glo "shared_top") rfl)⟩
  have D_sums_top_bits : FnAt K mg "top_bits" "top_bits" s_sums_top_bits := by
    obtain ⟨fd, F⟩ := cD.def_ 22 (d := dd_sums_top_bits) rfl
    exact ⟨_, fd, F, He.glo_ok X G (cD.fact 22 (f := .glo "top_bits") rfl)⟩
  have D_sums_low_noughts : FnAt K mg "low_noughts" "low_noughts" s_sums_low_noughts := by
    obtain ⟨fd, F⟩ := cD.def_ 23 (d := dd_sums_low_noughts) rfl
    exact ⟨_, fd, F, He.glo_ok X G (cD.fact 23 (f := .glo "low_noughts") rfl)⟩
  have D_sums_alike_of_sum : FnAt K mg "alike_of_sum" "alike_of_sum" s_sums_alike_of_sum := by
    obtain ⟨fd, F⟩ := cD.def_ 24 (d := dd_sums_alike_of_sum) rfl
    exact ⟨_, fd, F, He.glo_ok X G (cD.fact 24 (f := .glo "alike_of_sum") rfl)⟩
  have D_sums_sum_fact : FnAt K mg "sum_fact" "sum_fact" s_sums_sum_fact := by
    obtain ⟨fd, F⟩ := cD.def_ 25 (d := dd_sums_sum_fact) rfl
    exact ⟨_, fd, F, He.glo_ok X G (cD.fact 25 (f := .glo "sum_fact") rfl)⟩
  have D_bits_stretched : FnAt K mg "stretched" "stretched" s_bits_stretched := by
    obtain ⟨fd, F⟩ := cD.def_ 26 (d := dd_bits_stretched) rfl
    exact ⟨_, fd, F, He.glo_ok X G (cD.fact 26 (f := .glo "stretched") rfl)⟩
  have D_rules_shifted : FnAt K mg "shifted" "shifted" s_rules_shifted := by
    obtain ⟨fd, F⟩ := cD.def_ 27 (d := dd_rules_shifted) rfl
    exact ⟨_, fd, F, He.glo_ok X G (cD.fact 27 (f := .glo "shifted") rfl)⟩
  have D_rules_fitted : FnAt K mg "fitted" "fitted" s_rules_fitted := by
    obtain ⟨fd, F⟩ := cD.def_ 28 (d := dd_rules_fitted) rfl
    exact ⟨_, fd, F, He.glo_ok X G (cD.fact 28 (f := .glo "fitted") rfl)⟩
  have D_rules_picked : FnAt K mg "picked" "picked" s_rules_picked := by
    obtain ⟨fd, F⟩ := cD.def_ 29 (d := dd_rules_picked) rfl
    exact ⟨_, fd, F, He.glo_ok X G (cD.fact 29 (f := .glo "picked") rfl)⟩
  have D_rules_less_known : FnAt K mg "less_known" "less_known" s_rules_less_known := by
    obtain ⟨fd, F⟩ := cD.def_ 30 (d := dd_rules_less_known) rfl
    exact ⟨_, fd, F, He.glo_ok X G (cD.fact 30 (f := .glo "less_known") rfl)⟩
  have D_rules_top_turned : FnAt K mg "top_turned" "top_turned" s_rules_top_turned := by
    obtain ⟨fd, F⟩ := cD.def_ 31 (d := dd_rules_top_turned) rfl
    exact ⟨_, fd, F, He.glo_ok X G (cD.fact 31 (f := .glo "top_turned") rfl)⟩
  have D_rules_compared : FnAt K mg "compared" "compared" s_rules_compared := by
    obtain ⟨fd, F⟩ := cD.def_ 32 (d := dd_rules_compared) rfl
    exact ⟨_, fd, F, He.glo_ok X G (cD.fact 32 (f := .glo "compared") rfl)⟩
  have D_rules_told_by : FnAt K mg "told_by" "told_by" s_rules_told_by := by
    obtain ⟨fd, F⟩ := cD.def_ 33 (d := dd_rules_told_by) rfl
    exact ⟨_, fd, F, He.glo_ok X G (cD.fact 33 (f := .glo "told_by") rfl)⟩
  have D_rules_rule : FnAt K mg "rule" "rule" s_rules_rule := by
    obtain ⟨fd, F⟩ := cD.def_ 34 (d := dd_rules_rule) rfl
    exact ⟨_, fd, F, He.glo_ok X G (cD.fact 34 (f := .glo "rule") rfl)⟩
  have D_L_gapless : FnAt K mg "_law_gapless" "_law_gapless" s_L_gapless := by
    obtain ⟨fd, F⟩ := cD.def_ 35 (d := dd_L_gapless) rfl
    exact ⟨_, fd, F, He.glo_ok X G (cD.fact 35 (f := .glo "_law_gapless") rfl)⟩
  have D_L_noted : FnAt K mg "_law_noted" "_law_noted" s_L_noted := by
    obtain ⟨fd, F⟩ := cD.def_ 36 (d := dd_L_noted) rfl
    exact ⟨_, fd, F, He.glo_ok X G (cD.fact 36 (f := .glo "_law_noted") rfl)⟩
  have D_L_closed : FnAt K mg "_law_closed" "_law_closed" s_L_closed := by
    obtain ⟨fd, F⟩ := cD.def_ 37 (d := dd_L_closed) rfl
    exact ⟨_, fd, F, He.glo_ok X G (cD.fact 37 (f := .glo "_law_closed") rfl)⟩
  have D_L_outcome : FnAt K mg "_law_outcome" "_law_outcome" s_L_outcome := by
    obtain ⟨fd, F⟩ := cD.def_ 38 (d := dd_L_outcome) rfl
    exact ⟨_, fd, F, He.glo_ok X G (cD.fact 38 (f := .glo "_law_outcome") rfl)⟩
  have D_L_due : FnAt K mg "_law_due" "_law_due" s_L_due := by
    obtain ⟨fd, F⟩ := cD.def_ 39 (d := dd_L_due) rfl
    exact ⟨_, fd, F, He.glo_ok X G (cD.fact 39 (f := .glo "_law_due") rfl)⟩
  have D_L_law : FnAt K mg "law" "law" s_L_law := by
    obtain ⟨fd, F⟩ := cD.def_ 40 (d := dd_L_law) rfl
    exact ⟨_, fd, F, He.glo_ok X G (cD.fact 40 (f := .glo "law") rfl)⟩
  have C : Cst K mg := ⟨He.free_ok X G (cD.fact 41 (f := .free "len") rfl), He.free_ok X G (cD.fact 42 (f := .free "list") rfl), He.free_ok X G (cD.fact 43 (f := .free "max") rfl), He.free_ok X G (cD.fact 44 (f := .free "min") rfl), He.free_ok X G (cD.fact 45 (f := .free "range") rfl), trivial⟩
  obtain ⟨f, fd, F, hg⟩ := D_L_law
  have b := FunD.bindsA (ps := ["_law_script"]) F fun _ _ _ _ _ _ us hl => match us, hl with | [_], _ => rfl
  have ef : f = fa := by
    rw [hg] at hfa
    exact Value.ref.inj (Option.some.inj hfa)
  subst ef
  refine ⟨fd, fun s v => b s [v] rfl, fun base _ _ => ?_⟩
  have g_L_draw := ok_L_draw (P := P) (w := w) (base := base) C D_L_draw
  have g_L_width := ok_L_width (P := P) (w := w) (base := base) C D_L_width g_L_draw
  have g_L_number := ok_L_number (P := P) (w := w) (base := base) C D_L_number g_L_draw
  have g_L_num := ok_L_num (P := P) (w := w) (base := base) C D_L_num g_L_draw g_L_number
  have g_L_top_run := ok_L_top_run (P := P) (w := w) (base := base) C D_L_top_run
  have g_L_alike := ok_L_alike (P := P) (w := w) (base := base) C D_L_alike g_L_top_run
  have g_L_fact := ok_L_fact (P := P) (w := w) (base := base) C D_L_fact g_L_num g_L_draw g_L_alike
  have g_L_near := ok_L_near (P := P) (w := w) (base := base) C D_L_near g_L_draw g_L_num
  have g_bits_full := ok_bits_full (P := P) (w := w) (base := base) C D_bits_full
  have g_bits_top_run := ok_bits_top_run (P := P) (w := w) (base := base) C D_bits_top_run
  have g_facts_closed := ok_facts_closed (P := P) (w := w) (base := base) C D_facts_closed g_bits_full g_bits_top_run
  have g_rules_truth := ok_rules_truth (P := P) (w := w) (base := base) C D_rules_truth
  have g_rules_bitwise := ok_rules_bitwise (P := P) (w := w) (base := base) C D_rules_bitwise
  have g_bits_low_run := ok_bits_low_run (P := P) (w := w) (base := base) C D_bits_low_run
  have g_sums_reckoned := ok_sums_reckoned (P := P) (w := w) (base := base) C D_sums_reckoned
  have g_facts_least := ok_facts_least (P := P) (w := w) (base := base) C D_facts_least
  have g_sums_low_bits := ok_sums_low_bits (P := P) (w := w) (base := base) C D_sums_low_bits g_bits_full g_bits_low_run g_sums_reckoned g_facts_least
  have g_facts_greatest := ok_facts_greatest (P := P) (w := w) (base := base) C D_facts_greatest g_bits_full
  have g_sums_ends := ok_sums_ends (P := P) (w := w) (base := base) C D_sums_ends g_facts_least g_facts_greatest g_sums_reckoned
  have g_bits_reach := ok_bits_reach (P := P) (w := w) (base := base) C D_bits_reach
  have g_bits_below := ok_bits_below (P := P) (w := w) (base := base) C D_bits_below g_bits_full g_bits_reach
  have g_bits_shared_top := ok_bits_shared_top (P := P) (w := w) (base := base) C D_bits_shared_top g_bits_full g_bits_below
  have g_sums_top_bits := ok_sums_top_bits (P := P) (w := w) (base := base) C D_sums_top_bits g_sums_ends g_bits_shared_top g_bits_full
  have g_sums_low_noughts := ok_sums_low_noughts (P := P) (w := w) (base := base) C D_sums_low_noughts g_bits_full g_bits_low_run
  have g_sums_alike_of_sum := ok_sums_alike_of_sum (P := P) (w := w) (base := base) C D_sums_alike_of_sum
  have g_sums_sum_fact := ok_sums_sum_fact (P := P) (w := w) (base := base) C D_sums_sum_fact g_sums_low_bits g_sums_top_bits g_sums_low_noughts g_sums_alike_of_sum
  have g_bits_stretched := ok_bits_stretched (P := P) (w := w) (base := base) C D_bits_stretched g_bits_full
  have g_rules_shifted := ok_rules_shifted (P := P) (w := w) (base := base) C D_rules_shifted g_bits_full g_bits_stretched
  have g_rules_fitted := ok_rules_fitted (P := P) (w := w) (base := base) C D_rules_fitted g_bits_stretched g_bits_full
  have g_rules_picked := ok_rules_picked (P := P) (w := w) (base := base) C D_rules_picked
  have g_rules_less_known := ok_rules_less_known (P := P) (w := w) (base := base) C D_rules_less_known g_facts_greatest g_facts_least
  have g_rules_top_turned := ok_rules_top_turned (P := P) (w := w) (base := base) C D_rules_top_turned
  have g_rules_compared := ok_rules_compared (P := P) (w := w) (base := base) C D_rules_compared g_rules_less_known g_bits_full g_rules_top_turned
  have g_rules_told_by := ok_rules_told_by (P := P) (w := w) (base := base) C D_rules_told_by g_rules_truth g_rules_bitwise g_sums_sum_fact g_rules_shifted g_rules_fitted g_rules_picked g_rules_compared g_bits_full
  have g_rules_rule := ok_rules_rule (P := P) (w := w) (base := base) C D_rules_rule g_facts_closed g_rules_told_by
  have g_L_gapless := ok_L_gapless (P := P) (w := w) (base := base) C D_L_gapless
  have g_L_noted := ok_L_noted (P := P) (w := w) (base := base) C D_L_noted
  have g_L_closed := ok_L_closed (P := P) (w := w) (base := base) C D_L_closed g_L_top_run
  have g_L_outcome := ok_L_outcome (P := P) (w := w) (base := base) C D_L_outcome
  have g_L_due := ok_L_due (P := P) (w := w) (base := base) C D_L_due g_L_gapless g_L_noted g_L_closed g_L_outcome
  exact ok_L_law (P := P) (w := w) (base := base) C F g_L_width g_L_draw g_L_fact g_L_near g_rules_rule g_L_due
end
end Sm
open PySem PySem.W PySem.Calls PyProof.Rows
set_option maxHeartbeats 0 in
theorem PySem.Challenge.cw_fewbits_k44_sums_known_holds : PySem.Challenge.rw_fewbits_k44_sums_known.Holds := by
  w_on; o_law
  refine HandSHeadRun.head_any (r := OpenLaw.row PySem.Challenge.rw_fewbits_k44_sums_known) (q := view (OpenLaw.row PySem.Challenge.rw_fewbits_k44_sums_known).prog [46]) (H := Sm.hk) (ob := Sm.ob) (M := 20000) (loose := Sm.loose) (d := HandSHeadRun.topDef (OpenLaw.row PySem.Challenge.rw_fewbits_k44_sums_known).prog 46) (kwd := []) Sm.ob_eq
    (by kernel_rfl) (fun s => by kernel_rfl) Sm.run (by kernel_rfl) (by kernel_rfl) (by kernel_rfl) (by rfl) (by first | assumption | decide +kernel) (by decide +kernel) ⟨rfl, rfl, rfl, rfl, rfl, by decide +kernel⟩ ?hw ?hc
  case hw => w_witness2
  case hc =>
    refine Sm.walk_sim (l := PySem.Challenge.rw_fewbits_k44_sums_known) (n := 63) (k := 8) (x := "_law_script") (m := Sm.sh_L_law) rfl (by decide) (by kernel_rfl) ⟨rfl, by decide, by decide⟩ ?F Sm.law_true
    intro w mg fa h Y G hmg0
    obtain ⟨K, KX, c⟩ := Y
    have hmg : mg ("law" : PySem.Str) = some (.ref fa) := by
      have e : (HandSHeadRun.topDef (OpenLaw.row PySem.Challenge.rw_fewbits_k44_sums_known).prog 46).name = ("law" : PySem.Str) := by kernel_rfl
      rw [← e]
      exact hmg0
    obtain ⟨fd, hb, hF⟩ := Sm.facts (P := (PySem.Challenge.rw_fewbits_k44_sums_known).prog) (w := w) KX G hmg c
    exact ⟨K, fd, KX, hb, hF⟩
