import PyProof.Rows.All
import Wide.All
import OpenK.AllK
import Wide.FinOn
import HandS.ForMost
import HandS.IsInst
import HandS.FStr
import HandS.Wide
import HandS.Flow
import HandS.TupAny
import HandS.StrMore
import HandS.HeadHook4
import HandS.HeadWalk
import HandS.CallLocal
import Lean
import HandS.Head0
import HandS.Head1
import HandS.Head2
import HandS.HeadEnd
import PySem.Challenge.RW_editreach_k81_states_lines_and_edits_wri
set_option Elab.async false
set_option linter.all false
set_option maxRecDepth 100000
/-! M0: the data, the relation to the abstract heap, results, the readings tM, tS, tMI, tG. -/
namespace MP
open PySem PySem.Spec L2

inductive D where
  | non | bl (b : Bool) | int (i : Int) | str (s : Str) | tup (xs : List D) | rol (xs : List D) | loc (n : Nat) | ty (n : String) | fn (x : Str)
inductive MO where
  | lst (xs : List D)
  | dic (kvs : List (Key × D))
  | dit (kvs : List (List Key × D))
  | ins (C : Str) (fs : List (Str × D))
abbrev MH := List MO
abbrev Env := List (Option D)
inductive R (α : Type) where
  | ok (a : α) (h : MH)
  | er (c : Str) (d : D) (h : MH)
  | no
def R.bind {α β : Type} (r : R α) (k : α → MH → R β) : R β := match r with
  | .ok a h => k a h
  | .er c d h => .er c d h
  | .no => .no
@[simp] theorem R.bind_ok {α β : Type} (a : α) (h : MH) (k : α → MH → R β) : (R.ok a h).bind k = k a h := rfl
@[simp] theorem R.bind_er {α β : Type} (c : Str) (d : D) (h : MH) (k : α → MH → R β) : (R.er c d h).bind k = .er c d h := rfl
@[simp] theorem R.bind_no {α β : Type} (k : α → MH → R β) : (R.no : R α).bind k = .no := rfl
theorem R.bind_assoc {α β γ : Type} (r : R α) (k : α → MH → R β) (l : β → MH → R γ) : (r.bind k).bind l = r.bind fun a h => (k a h).bind l := by cases r <;> rfl
abbrev M := Env → MH → R D
inductive RS where
  | nx (e : Env) (h : MH)
  | rt (d : D) (h : MH)
  | bk (e : Env) (h : MH)
  | ct (e : Env) (h : MH)
  | er (c : Str) (d : D) (e : Env) (h : MH)
  | no
abbrev S := Env → MH → RS
/-- an expression's result, then a statement's -/
def R.st {α : Type} (r : R α) (e : Env) (k : α → MH → RS) : RS := match r with
  | .ok a h => k a h
  | .er c d h => .er c d e h
  | .no => .no
@[simp] theorem R.st_ok {α : Type} (a : α) (h : MH) (e : Env) (k : α → MH → RS) : (R.ok a h).st e k = k a h := rfl
@[simp] theorem R.st_er {α : Type} (c : Str) (d : D) (h : MH) (e : Env) (k : α → MH → RS) : (R.er c d h).st e k = .er c d e h := rfl
@[simp] theorem R.st_no {α : Type} (e : Env) (k : α → MH → RS) : (R.no : R α).st e k = .no := rfl

/-! ### the relation -/
/-- a list that is read only -/
def SqR (K : PySem.W.Frag) (H : Hp) (a : Addr) (xs : List V) : Prop := (∃ o, H a = some (.frz o (.lst xs))) ∨
    ∃ (o : Obj) (its : Array Value) (n : Nat), K.lookup a = some o ∧ o.cls = .type "list" ∧ o.dict = none ∧ o.data = .seq its n ∧ its.size ≤ sizeLine ∧ Vals xs its.toList
theorem SqR.l {K : PySem.W.Frag} {H : Hp} {a : Addr} {xs : List V} (h : SqR K H a xs) : SqL K H a xs := by
  rcases h with h | h
  · exact .inl (.inr h)
  · exact .inr h
mutual
inductive RV (K : PySem.W.Frag) (ρ : List Addr) (H : Hp) : D → V → Prop where
  | non : RV K ρ H .non .non
  | bl (b : Bool) : RV K ρ H (.bl b) (.bl b)
  | int (i : Int) : RV K ρ H (.int i) (.int i)
  | str (s : Str) : RV K ρ H (.str s) (.str s)
  | ty (n : String) : RV K ρ H (.ty n) (.ty n)
  | fn (x : Str) : RV K ρ H (.fn x) (.ref (He.ga K x))
  | loc {n : Nat} {a : Addr} (e : ρ[n]? = some a) : RV K ρ H (.loc n) (.ref a)
  | tup {a : Addr} {ds : List D} {vs : List V} (e : H a = some (.tup vs)) (r : RVs K ρ H ds vs) : RV K ρ H (.tup ds) (.ref a)
  | rol {a : Addr} {ds : List D} {vs : List V} (e : SqR K H a vs) (r : RVs K ρ H ds vs) : RV K ρ H (.rol ds) (.ref a)
inductive RVs (K : PySem.W.Frag) (ρ : List Addr) (H : Hp) : List D → List V → Prop where
  | nil : RVs K ρ H [] []
  | cons {d : D} {v : V} {ds : List D} {vs : List V} (r : RV K ρ H d v) (t : RVs K ρ H ds vs) : RVs K ρ H (d :: ds) (v :: vs)
end
section
variable {K : PySem.W.Frag} {ρ ρ' : List Addr} {H H' : Hp}
theorem RVs.length : ∀ {ds : List D} {vs : List V}, RVs K ρ H ds vs → ds.length = vs.length
  | _, _, .nil => rfl
  | _, _, .cons _ t => by simp [RVs.length t]
theorem RVs.get : ∀ {ds : List D} {vs : List V} {i : Nat} {d : D}, RVs K ρ H ds vs → ds[i]? = some d → ∃ v, vs[i]? = some v ∧ RV K ρ H d v
  | _, _, _, _, .nil, e => by simp at e
  | _, _, 0, _, .cons r _, e => by simp at e; subst e; exact ⟨_, rfl, r⟩
  | _, _, i + 1, d, .cons _ t, e => by
    obtain ⟨v, h1, h2⟩ := RVs.get (i := i) (d := d) t (by simpa using e)
    exact ⟨v, by simpa using h1, h2⟩
theorem RVs.append : ∀ {ds es : List D} {vs ws : List V}, RVs K ρ H ds vs → RVs K ρ H es ws → RVs K ρ H (ds ++ es) (vs ++ ws)
  | _, _, _, _, .nil, s => s
  | _, _, _, _, .cons r t, s => .cons r (RVs.append t s)
theorem RVs.take : ∀ {ds : List D} {vs : List V} (n : Nat), RVs K ρ H ds vs → RVs K ρ H (ds.take n) (vs.take n)
  | _, _, 0, _ => .nil
  | _, _, _ + 1, .nil => .nil
  | _, _, n + 1, .cons r t => .cons r (RVs.take n t)
theorem RVs.drop : ∀ {ds : List D} {vs : List V} (n : Nat), RVs K ρ H ds vs → RVs K ρ H (ds.drop n) (vs.drop n)
  | _, _, 0, r => r
  | _, _, _ + 1, .nil => .nil
  | _, _, n + 1, .cons _ t => RVs.drop n t
theorem RVs.set {d : D} {v : V} (r : RV K ρ H d v) : ∀ {ds : List D} {vs : List V} (i : Nat), RVs K ρ H ds vs → RVs K ρ H (ds.set i d) (vs.set i v)
  | _, _, _, .nil => .nil
  | _, _, 0, .cons _ t => .cons r t
  | _, _, i + 1, .cons q t => .cons q (RVs.set r i t)
/-- pairs of names (keys) and values -/
inductive RKs (K : PySem.W.Frag) (ρ : List Addr) (H : Hp) {κ : Type} : List (κ × D) → List (κ × V) → Prop where
  | nil : RKs K ρ H [] []
  | cons {k : κ} {d : D} {v : V} {ds : List (κ × D)} {vs : List (κ × V)} (r : RV K ρ H d v) (t : RKs K ρ H ds vs) : RKs K ρ H ((k, d) :: ds) ((k, v) :: vs)
/-- a mutable object as it stands -/
def OR (K : PySem.W.Frag) (ρ : List Addr) (H : Hp) (a : Addr) : MO → Prop
  | .lst ds => ∃ vs, H a = some (.lst vs) ∧ RVs K ρ H ds vs
  | .dic kvs => ∃ ws, H a = some (.dK ws) ∧ RKs K ρ H kvs ws
  | .dit kvs => ∃ ws, H a = some (.dT ws) ∧ RKs K ρ H kvs ws
  | .ins C fs => ∃ dx ws, H a = some (.ins (He.ga K C) dx ws) ∧ RKs K ρ H fs ws
structure HR (K : PySem.W.Frag) (ρ : List Addr) (h : MH) (H : Hp) : Prop where
  len : ρ.length = h.length
  nd : ρ.Nodup
  ob : ∀ (n : Nat) (a : Addr) (mo : MO), ρ[n]? = some a → h[n]? = some mo → OR K ρ H a mo
structure Ext (ρ : List Addr) (H : Hp) (ρ' : List Addr) (H' : Hp) : Prop where
  pre : ∃ more, ρ' = ρ ++ more ∧ ∀ a ∈ more, H a = none
  keep : ∀ a o, H a = some o → a ∉ ρ → H' a = some o
  th : ∀ a o, H a = some o → ∃ o', H' a = some o'
theorem Ext.refl : Ext ρ H ρ H := ⟨⟨[], by simp, by simp⟩, fun _ _ e _ => e, fun _ o e => ⟨o, e⟩⟩
theorem Ext.nn (x : Ext ρ H ρ' H') {a : Addr} (e : H' a = none) : H a = none := by
  cases q : H a with
  | none => rfl
  | some o =>
    obtain ⟨o', q'⟩ := x.th a o q
    rw [e] at q'; cases q'
theorem Ext.at (x : Ext ρ H ρ' H') {n : Nat} {a : Addr} (e : ρ[n]? = some a) : ρ'[n]? = some a := by
  obtain ⟨m, rfl, _⟩ := x.pre
  have := (List.getElem?_eq_some_iff.mp e).1
  rw [List.getElem?_append_left this]; exact e
/-- at a location stands a mutable thing -/
theorem HR.mut {h : MH} (R : HR K ρ h H) {a : Addr} (ha : a ∈ ρ) : (∃ vs, H a = some (.lst vs)) ∨ (∃ ws, H a = some (.dK ws)) ∨ (∃ ws, H a = some (.dT ws)) ∨ ∃ C dx ws, H a = some (.ins C dx ws) := by
  obtain ⟨n, hn, e⟩ := List.mem_iff_getElem.mp ha
  have hl : n < h.length := by rw [← R.len]; exact hn
  have q := R.ob n a h[n] (by rw [List.getElem?_eq_getElem hn, e]) (List.getElem?_eq_getElem hl)
  revert q
  cases h[n] with
  | lst ds => rintro ⟨vs, q, _⟩; exact .inl ⟨vs, q⟩
  | dic kvs => rintro ⟨vs, q, _⟩; exact .inr (.inl ⟨vs, q⟩)
  | dit kvs => rintro ⟨vs, q, _⟩; exact .inr (.inr (.inl ⟨vs, q⟩))
  | ins C fs => rintro ⟨dx, vs, q, _⟩; exact .inr (.inr (.inr ⟨_, dx, vs, q⟩))
theorem HR.notin {h : MH} (R : HR K ρ h H) {a : Addr} {o : HO} (e : H a = some o) (h1 : ∀ vs, o ≠ .lst vs) (h2 : ∀ ws, o ≠ .dK ws) (h3 : ∀ ws, o ≠ .dT ws) (h4 : ∀ C dx ws, o ≠ .ins C dx ws) : a ∉ ρ := fun ha => by
  rcases R.mut ha with ⟨_, q⟩ | ⟨_, q⟩ | ⟨_, q⟩ | ⟨_, _, _, q⟩ <;> (rw [e] at q; cases q)
  · exact h1 _ rfl
  · exact h2 _ rfl
  · exact h3 _ rfl
  · exact h4 _ _ _ rfl
/-- what was read stays to be read -/
structure Kp (K : PySem.W.Frag) (ρ : List Addr) (H : Hp) (ρ' : List Addr) (H' : Hp) : Prop where
  pre : ∀ (n : Nat) (a : Addr), ρ[n]? = some a → ρ'[n]? = some a
  tup : ∀ a xs, H a = some (.tup xs) → H' a = some (.tup xs)
  frz : ∀ a o xs, H a = some (.frz o (.lst xs)) → H' a = some (.frz o (.lst xs))
theorem SqR.kp {a : Addr} {xs : List V} (k : Kp K ρ H ρ' H') (e : SqR K H a xs) : SqR K H' a xs := by
  rcases e with ⟨o, e⟩ | e
  · exact .inl ⟨o, k.frz _ _ _ e⟩
  · exact .inr e
mutual
theorem RV.kp (k : Kp K ρ H ρ' H') : ∀ {d : D} {v : V}, RV K ρ H d v → RV K ρ' H' d v
  | _, _, .non => .non
  | _, _, .bl b => .bl b
  | _, _, .int i => .int i
  | _, _, .str s => .str s
  | _, _, .ty n => .ty n
  | _, _, .fn x => .fn x
  | _, _, .loc e => .loc (k.pre _ _ e)
  | _, _, .tup e r => .tup (k.tup _ _ e) (RVs.kp k r)
  | _, _, .rol e r => .rol (e.kp k) (RVs.kp k r)
theorem RVs.kp (k : Kp K ρ H ρ' H') : ∀ {ds : List D} {vs : List V}, RVs K ρ H ds vs → RVs K ρ' H' ds vs
  | _, _, .nil => .nil
  | _, _, .cons r t => .cons (RV.kp k r) (RVs.kp k t)
end
theorem RKs.kp {κ : Type} (k : Kp K ρ H ρ' H') : ∀ {ds : List (κ × D)} {vs : List (κ × V)}, RKs K ρ H ds vs → RKs K ρ' H' ds vs
  | _, _, .nil => .nil
  | _, _, .cons r t => .cons (r.kp k) (RKs.kp k t)
theorem HR.kp {h : MH} (R : HR K ρ h H) (x : Ext ρ H ρ' H') : Kp K ρ H ρ' H' where
  pre := fun n a e => x.at e
  tup := fun a xs e => x.keep _ _ e (R.notin e (by simp) (by simp) (by simp) (by simp))
  frz := fun a o xs e => x.keep _ _ e (R.notin e (by simp) (by simp) (by simp) (by simp))
theorem RV.ext {h : MH} {d : D} {v : V} (r : RV K ρ H d v) (R : HR K ρ h H) (x : Ext ρ H ρ' H') : RV K ρ' H' d v := r.kp (R.kp x)
theorem RVs.ext {h : MH} {d : List D} {v : List V} (r : RVs K ρ H d v) (R : HR K ρ h H) (x : Ext ρ H ρ' H') : RVs K ρ' H' d v := r.kp (R.kp x)
theorem Ext.trans {ρ'' : List Addr} {H'' : Hp} (x : Ext ρ H ρ' H') (y : Ext ρ' H' ρ'' H'') : Ext ρ H ρ'' H'' where
  pre := by
    obtain ⟨m, rfl, hm⟩ := x.pre
    obtain ⟨m', rfl, hm'⟩ := y.pre
    refine ⟨m ++ m', by rw [List.append_assoc], fun a ha => ?_⟩
    rcases List.mem_append.mp ha with ha | ha
    · exact hm a ha
    · exact x.nn (hm' a ha)
  keep := fun a o e hρ => by
    obtain ⟨m, rfl, hm⟩ := x.pre
    refine y.keep a o (x.keep a o e hρ) fun ha => ?_
    rcases List.mem_append.mp ha with ha | ha
    · exact hρ ha
    · rw [hm a ha] at e; cases e
  th := fun a o e => by
    obtain ⟨o', e'⟩ := x.th a o e
    exact y.th a o' e'
/-- a new object that is no location (a tuple, a dict of an instance) -/
theorem Ext.new {p : Addr} {o : HO} (hp : H p = none) : Ext ρ H ρ (upd H p o) :=
  ⟨⟨[], by simp, by simp⟩, fun a u e _ => by rw [upd_ne (ne_of_none e hp)]; exact e, fun a u e => ⟨u, by rw [upd_ne (ne_of_none e hp)]; exact e⟩⟩
theorem OR.kp {a : Addr} {mo : MO} (k : Kp K ρ H ρ' H') (e : H' a = H a) (r : OR K ρ H a mo) : OR K ρ' H' a mo := by
  cases mo with
  | lst ds => obtain ⟨vs, q, r⟩ := r; exact ⟨vs, e.trans q, r.kp k⟩
  | dic kvs => obtain ⟨vs, q, r⟩ := r; exact ⟨vs, e.trans q, r.kp k⟩
  | dit kvs => obtain ⟨vs, q, r⟩ := r; exact ⟨vs, e.trans q, r.kp k⟩
  | ins C fs => obtain ⟨dx, vs, q, r⟩ := r; exact ⟨dx, vs, e.trans q, r.kp k⟩
theorem HR.has {h : MH} (R : HR K ρ h H) {a : Addr} (ha : a ∈ ρ) : ∃ o, H a = some o := by
  rcases R.mut ha with ⟨_, q⟩ | ⟨_, q⟩ | ⟨_, q⟩ | ⟨_, _, _, q⟩ <;> exact ⟨_, q⟩
theorem HR.new {h : MH} (R : HR K ρ h H) {p : Addr} {o : HO} (hp : H p = none) : HR K ρ h (upd H p o) where
  len := R.len
  nd := R.nd
  ob := fun n a mo e e' => by
    refine (R.ob n a mo e e').kp (R.kp (Ext.new hp)) (upd_ne ?_)
    obtain ⟨o', q⟩ := R.has (List.mem_of_getElem? e)
    exact ne_of_none q hp
/-- a new location -/
theorem Ext.newL {p : Addr} {o : HO} (hp : H p = none) : Ext ρ H (ρ ++ [p]) (upd H p o) :=
  ⟨⟨[p], rfl, by simpa using hp⟩, fun a u e _ => by rw [upd_ne (ne_of_none e hp)]; exact e, fun a u e => ⟨u, by rw [upd_ne (ne_of_none e hp)]; exact e⟩⟩
theorem HR.newL {h : MH} (R : HR K ρ h H) {p : Addr} {o : HO} {mo : MO} (hp : H p = none) (r : OR K (ρ ++ [p]) (upd H p o) p mo) : HR K (ρ ++ [p]) (h ++ [mo]) (upd H p o) where
  len := by simp [R.len]
  nd := by
    refine List.nodup_append.mpr ⟨R.nd, by simp, fun a ha b hb => ?_⟩
    have hb' : b = p := by simpa using hb
    subst hb'
    obtain ⟨o', q⟩ := R.has ha
    exact ne_of_none q hp
  ob := fun n a mo' e e' => by
    by_cases hn : n < ρ.length
    · rw [List.getElem?_append_left hn] at e
      rw [List.getElem?_append_left (by rw [← R.len]; exact hn)] at e'
      refine (R.ob n a mo' e e').kp (R.kp (Ext.newL hp)) (upd_ne ?_)
      obtain ⟨o', q⟩ := R.has (List.mem_of_getElem? e)
      exact ne_of_none q hp
    · have hz : n = ρ.length := by
        have := (List.getElem?_eq_some_iff.mp e).1
        simp at this; omega
      subst hz
      rw [List.getElem?_append_right (Nat.le_refl _)] at e
      rw [R.len, List.getElem?_append_right (Nat.le_refl _)] at e'
      simp at e e'
      subst e e'
      exact r
/-- a location's object is another one -/
theorem Ext.chg {n : Nat} {a : Addr} {o : HO} (e : ρ[n]? = some a) : Ext ρ H ρ (upd H a o) :=
  ⟨⟨[], by simp, by simp⟩, fun b u q hb => by rw [upd_ne (fun z => hb (by rw [z]; exact List.mem_of_getElem? e))]; exact q, fun b u q => by
    by_cases hb : b = a
    · exact ⟨o, by rw [hb]; exact upd_same⟩
    · exact ⟨u, by rw [upd_ne hb]; exact q⟩⟩
theorem HR.chg {h : MH} (R : HR K ρ h H) {n : Nat} {a : Addr} {o : HO} {mo : MO} (e : ρ[n]? = some a) (r : OR K ρ (upd H a o) a mo) : HR K ρ (h.set n mo) (upd H a o) where
  len := by simp [R.len]
  nd := R.nd
  ob := fun m b mo' e1 e2 => by
    by_cases hm : n = m
    · subst hm
      rw [e] at e1; cases e1
      have hl : n < h.length := by rw [← R.len]; exact (List.getElem?_eq_some_iff.mp e).1
      rw [List.getElem?_set_self hl] at e2
      cases e2
      exact r
    · rw [List.getElem?_set_ne hm] at e2
      refine (R.ob m b mo' e1 e2).kp (R.kp (Ext.chg e)) (upd_ne fun z => ?_)
      subst z
      have h1 := (List.getElem?_eq_some_iff.mp e)
      have h2 := (List.getElem?_eq_some_iff.mp e1)
      exact hm ((List.getElem_inj R.nd).mp (h1.2.trans h2.2.symm))
/-- the slots -/
structure ER (K : PySem.W.Frag) (ρ : List Addr) (H : Hp) (env : Env) (σ : St) : Prop where
  len : env.length = σ.length
  at_ : ∀ (i : Nat) (d : D), env[i]? = some (some d) → ∃ v, σ[i]? = some (some v) ∧ RV K ρ H d v
theorem ER.ext {h : MH} {env : Env} {σ : St} (r : ER K ρ H env σ) (R : HR K ρ h H) (x : Ext ρ H ρ' H') : ER K ρ' H' env σ :=
  ⟨r.len, fun i d e => by obtain ⟨v, h1, h2⟩ := r.at_ i d e; exact ⟨v, h1, h2.ext R x⟩⟩
theorem ER.set {env : Env} {σ : St} {d : D} {v : V} (r : ER K ρ H env σ) (i : Nat) (q : RV K ρ H d v) : ER K ρ H (env.set i (some d)) (σ.set i (some v)) := by
  refine ⟨by simp [r.len], fun j e hj => ?_⟩
  by_cases hij : i = j
  · subst hij
    have hl : i < (env.set i (some d)).length := (List.getElem?_eq_some_iff.mp hj).1
    rw [List.length_set] at hl
    rw [List.getElem?_set_self hl] at hj
    have := Option.some.inj (Option.some.inj hj)
    subst this
    exact ⟨v, List.getElem?_set_self (by rw [← r.len]; exact hl), q⟩
  · rw [List.getElem?_set_ne hij] at hj
    obtain ⟨w, h1, h2⟩ := r.at_ j e hj
    exact ⟨w, by rw [List.getElem?_set_ne hij]; exact h1, h2⟩
theorem ER.unset {env : Env} {σ : St} (r : ER K ρ H env σ) (i : Nat) : ER K ρ H (env.set i none) (σ.set i none) := by
  refine ⟨by simp [r.len], fun j e hj => ?_⟩
  by_cases hij : i = j
  · subst hij
    have hl : i < (env.set i none).length := (List.getElem?_eq_some_iff.mp hj).1
    rw [List.length_set] at hl
    rw [List.getElem?_set_self hl] at hj
    cases Option.some.inj hj
  · rw [List.getElem?_set_ne hij] at hj
    obtain ⟨w, h1, h2⟩ := r.at_ j e hj
    exact ⟨w, by rw [List.getElem?_set_ne hij]; exact h1, h2⟩
end

/-! ### readings -/
abbrev WB := Value → Option Addr → St → Hp → Prop
abbrev Rel (α β : Type) := List Addr → Hp → α → β → Prop
/-- what stands for what -/
abbrev rD (K : PySem.W.Frag) : Rel D V := fun ρ H d v => RV K ρ H d v
abbrev rDs (K : PySem.W.Frag) : Rel (List D) (List V) := fun ρ H d v => RVs K ρ H d v
abbrev rId (α : Type) : Rel α α := fun _ _ a b => a = b
section
variable (K : PySem.W.Frag) (B : WB)
/-- what is wanted of a result -/
def Good {α β : Type} (rel : Rel α β) (σ : St) (ρ : List Addr) (H : Hp) (Q : β → Hp → Prop) : R α → Prop
  | .ok d h' => ∀ ρ' v H', HR K ρ' h' H' → Ext ρ H ρ' H' → rel ρ' H' d v → Q v H'
  | .er c d h' => ∀ ρ' x dx H', HR K ρ' h' H' → Ext ρ H ρ' H' → RV K ρ' H' d x → H' dx = some (.xd [(("value" : Str), x)]) → B (.ref (He.ga K c)) (some dx) σ H'
  | .no => False
def tR {α β : Type} (rel : Rel α β) (m : Env → MH → R α) (σ : St) (H : Hp) (Q : β → Hp → Prop) : Prop := ∃ ρ h env, HR K ρ h H ∧ ER K ρ H env σ ∧ Good K B rel σ ρ H Q (m env h)
abbrev tM (m : M) : TE := tR K B (rD K) m
abbrev tMs (m : Env → MH → R (List D)) : TA := tR K B (rDs K) m
abbrev tMB (m : Env → MH → R Bool) : TT := tR K B (rId Bool) m
abbrev tMO (m : Env → MH → R (Option Int)) : TO := tR K B (rId (Option Int)) m
def GoodS (D : Ends) (σ : St) (ρ : List Addr) (H : Hp) : RS → Prop
  | .nx e h' => ∀ ρ' σ' H', HR K ρ' h' H' → Ext ρ H ρ' H' → ER K ρ' H' e σ' → D.nx σ' H'
  | .rt d h' => ∀ ρ' v H', HR K ρ' h' H' → Ext ρ H ρ' H' → RV K ρ' H' d v → D.rt v H'
  | .bk e h' => ∀ ρ' σ' H', HR K ρ' h' H' → Ext ρ H ρ' H' → ER K ρ' H' e σ' → D.bk σ' H'
  | .ct e h' => ∀ ρ' σ' H', HR K ρ' h' H' → Ext ρ H ρ' H' → ER K ρ' H' e σ' → D.ct σ' H'
  | .er c d e h' => ∀ ρ' x dx σ' H', HR K ρ' h' H' → Ext ρ H ρ' H' → RV K ρ' H' d x → ER K ρ' H' e σ' → H' dx = some (.xd [(("value" : Str), x)]) → B (.ref (He.ga K c)) (some dx) σ' H'
  | .no => False
def tS (s : S) : TS := fun D σ H => ∃ ρ h env, HR K ρ h H ∧ ER K ρ H env σ ∧ GoodS K B D σ ρ H (s env h)
end
section
variable {K : PySem.W.Frag} {B : WB} {σ : St} {ρ ρ' : List Addr} {H H' : Hp} {h : MH} {env : Env} {α β γ δ : Type} {rel : Rel α β} {rel' : Rel γ δ} {Q : β → Hp → Prop} {P : δ → Hp → Prop}
theorem Good.mv {r : R α} (g : Good K B rel σ ρ H Q r) (x : Ext ρ H ρ' H') : Good K B rel σ ρ' H' Q r := by
  cases r with
  | ok d h' => exact fun ρ2 v H2 a b c => g ρ2 v H2 a (x.trans b) c
  | er c d h' => exact fun ρ2 y dx H2 a b c e => g ρ2 y dx H2 a (x.trans b) c e
  | no => exact g
theorem Good.imp {r : R α} {Q' : β → Hp → Prop} (g : Good K B rel σ ρ H Q r) (f : ∀ v H, Q v H → Q' v H) : Good K B rel σ ρ H Q' r := by
  cases r with
  | ok d h' => exact fun ρ2 v H2 a b c => f _ _ (g ρ2 v H2 a b c)
  | er c d h' => exact g
  | no => exact g
theorem GoodS.mv {D : Ends} {σ' : St} {r : RS} (g : GoodS K B D σ ρ H r) (x : Ext ρ H ρ' H') : GoodS K B D σ' ρ' H' r := by
  cases r with
  | nx e h' => exact fun ρ2 v H2 a b c => g ρ2 v H2 a (x.trans b) c
  | rt e h' => exact fun ρ2 v H2 a b c => g ρ2 v H2 a (x.trans b) c
  | bk e h' => exact fun ρ2 v H2 a b c => g ρ2 v H2 a (x.trans b) c
  | ct e h' => exact fun ρ2 v H2 a b c => g ρ2 v H2 a (x.trans b) c
  | er c d e h' => exact fun ρ2 y dx σ2 H2 a b c e => g ρ2 y dx σ2 H2 a (x.trans b) c e
  | no => exact g
/-- a state that is met: the relation holds -/
structure At (K : PySem.W.Frag) (ρ : List Addr) (h : MH) (H : Hp) (env : Env) (σ : St) : Prop where
  R : HR K ρ h H
  E : ER K ρ H env σ
/-- one part, then the rest -/
theorem tR_bind {m : Env → MH → R α} {k : α → MH → R γ} (A : At K ρ h H env σ) (g : Good K B rel' σ ρ H P ((m env h).bind k)) :
    tR K B rel m σ H (fun v H1 => ∃ ρ1 h1 x, At K ρ1 h1 H1 env σ ∧ Ext ρ H ρ1 H1 ∧ rel ρ1 H1 x v ∧ Good K B rel' σ ρ1 H1 P (k x h1)) := by
  refine ⟨ρ, h, env, A.R, A.E, ?_⟩
  cases e : m env h with
  | ok d h' =>
    rw [e] at g
    exact fun ρ' v H' a b c => ⟨ρ', h', d, ⟨a, A.E.ext A.R b⟩, b, c, Good.mv (show Good K B rel' σ ρ H P (k d h') from g) b⟩
  | er c d h' => rw [e] at g; exact g
  | no => rw [e] at g; exact g
theorem tR_st {m : Env → MH → R α} {k : α → MH → RS} {D : Ends} (A : At K ρ h H env σ) (g : GoodS K B D σ ρ H ((m env h).st env k)) :
    tR K B rel m σ H (fun v H1 => ∃ ρ1 h1 x, At K ρ1 h1 H1 env σ ∧ Ext ρ H ρ1 H1 ∧ rel ρ1 H1 x v ∧ GoodS K B D σ ρ1 H1 (k x h1)) := by
  refine ⟨ρ, h, env, A.R, A.E, ?_⟩
  cases e : m env h with
  | ok d h' =>
    rw [e] at g
    exact fun ρ' v H' a b c => ⟨ρ', h', d, ⟨a, A.E.ext A.R b⟩, b, c, GoodS.mv (show GoodS K B D σ ρ H (k d h') from g) b⟩
  | er c d h' => rw [e] at g; exact fun ρ' x dx H' a b r q => g ρ' x dx σ H' a b r (A.E.ext A.R b) q
  | no => rw [e] at g; exact g
/-- an end: the value stands -/
theorem Good.ok {d : α} {h' : MH} {v : β} (g : Good K B rel σ ρ H Q (.ok d h')) (a : HR K ρ' h' H') (b : Ext ρ H ρ' H') (c : rel ρ' H' d v) : Q v H' := g ρ' v H' a b c
theorem Good.ok0 {d : α} {v : β} (g : Good K B rel σ ρ H Q (.ok d h)) (a : HR K ρ h H) (c : rel ρ H d v) : Q v H := g ρ v H a Ext.refl c
end
theorem PE.imp {X : Cx} {e : Expr} {t t' : TE} (p : PE X e t) (f : ∀ σ H Q, t' σ H Q → t σ H Q) : PE X e t' := ⟨fun pins s σ H Q I g => p.run pins s σ H Q I (f σ H Q g)⟩
theorem PA.imp {X : Cx} {e : List Expr} {t t' : TA} (p : PA X e t) (f : ∀ σ H Q, t' σ H Q → t σ H Q) : PA X e t' := ⟨fun pos pins s σ H Q I g => p.run pos pins s σ H Q I (f σ H Q g)⟩
theorem PS.imp {X : Cx} {e : Stmt} {t t' : TS} (p : PS X e t) (f : ∀ D σ H, t' D σ H → t D σ H) : PS X e t' := ⟨fun pins s σ H D I g => p.run pins s σ H D I (f D σ H g)⟩
theorem PSs.imp {X : Cx} {e : List Stmt} {t t' : TS} (p : PSs X e t) (f : ∀ D σ H, t' D σ H → t D σ H) : PSs X e t' := ⟨fun pins s σ H D I g => p.run pins s σ H D I (f D σ H g)⟩
theorem PT.imp {X : Cx} {e : Expr} {t t' : TT} (p : PT X e t) (f : ∀ σ H Q, t' σ H Q → t σ H Q) : PT X e t' := ⟨fun pins s σ H Q I g => p.run pins s σ H Q I (f σ H Q g)⟩
end MP
set_option Elab.async false
set_option linter.all false
set_option maxRecDepth 100000
set_option maxHeartbeats 1000000
/-! M1: expressions, tests, arguments, operators. -/
namespace MP
open PySem PySem.Spec L2
abbrev MB := Env → MH → R Bool
abbrev MA := Env → MH → R (List D)
section
variable {K : PySem.W.Frag} {B : WB} {σ : St} {ρ ρ' : List Addr} {H H' : Hp} {h : MH} {env : Env} {α β γ δ : Type} {rel : Rel α β}
theorem tR.imp {m : Env → MH → R α} {Q Q' : β → Hp → Prop} (t : tR K B rel m σ H Q) (f : ∀ v H, Q v H → Q' v H) : tR K B rel m σ H Q' := by
  obtain ⟨ρ, h, env, R, E, g⟩ := t
  exact ⟨ρ, h, env, R, E, g.imp f⟩
end
abbrev Den (X : Cx) (B : WB) (e : Expr) (m : M) := PE X e (tM X.K B m)
abbrev DenT (X : Cx) (B : WB) (e : Expr) (m : MB) := PT X e (tMB X.K B m)
abbrev DenW (X : Cx) (B : WB) (e : Expr) (m : MB) := PW X e (tMB X.K B m)
abbrev DenA (X : Cx) (B : WB) (es : List Expr) (m : MA) := PA X es (tMs X.K B m)
abbrev DenO (X : Cx) (B : WB) (e : Option Expr) (m : Env → MH → R (Option Int)) := PO X e (tMO X.K B m)
theorem PW.imp {X : Cx} {e : Expr} {t t' : TT} (p : PW X e t) (f : ∀ σ H Q, t' σ H Q → t σ H Q) : PW X e t' := ⟨fun wh pins s σ H Q I g => p.run wh pins s σ H Q I (f σ H Q g)⟩
theorem PO.imp {X : Cx} {e : Option Expr} {t t' : TO} (p : PO X e t) (f : ∀ σ H Q, t' σ H Q → t σ H Q) : PO X e t' := ⟨fun pins s σ H Q I g => p.run pins s σ H Q I (f σ H Q g)⟩

/-! ### names, constants -/
def mVar (i : Nat) : M := fun env h => match env[i]? with
  | some (some d) => .ok d h
  | _ => .no
def mC (d : D) : M := fun _ h => .ok d h
section
variable {X : Cx} {B : WB} {pos p p2 : Pos}
theorem den_var (i : Nat) {x : Str} (hN : X.N[i]? = some x := by rfl) (hv : Vis X.env.scope x := by first | exact Or.inl rfl | exact Or.inr (Or.inl rfl) | exact Or.inr (Or.inr rfl)) (hd : (x == ("__debug__" : Str)) = false := by decide)
    (hcd : (x == ("__classdict__" : Str)) = false := by decide) : Den X B (.Name x pos) (mVar i) := PE.imp (pe_var hN hv hd hcd) fun σ H Q ⟨ρ, h, env, R, E, g⟩ => by
  unfold mVar at g
  split at g
  · rename_i d e
    obtain ⟨v, h1, h2⟩ := E.at_ i d e
    exact ⟨v, h1, g.ok0 R h2⟩
  · exact g.elim
/-- a value that is the same on both sides -/
def Same0 : D → V → Prop
  | .non, v => v = .non
  | .bl b, v => v = .bl b
  | .int i, v => v = .int i
  | .str s, v => v = .str s
  | .ty n, v => v = .ty n
  | _, _ => False
theorem Same0.rv {K : PySem.W.Frag} {ρ : List Addr} {H : Hp} {d : D} {v : V} (s : Same0 d v) : RV K ρ H d v := by
  cases d <;> first | (cases (show v = _ from s); constructor) | exact False.elim s
theorem den_const {e : Expr} {d : D} {v : V} (p : PE X e (tC v)) (s : Same0 d v) : Den X B e (mC d) := PE.imp p fun σ H Q ⟨ρ, h, env, R, E, g⟩ => g.ok0 R s.rv
theorem den_int {i : Int} {j : Nat} : Den X B (.Constant (.int i) j pos) (mC (.int i)) := den_const pe_int rfl
theorem den_bl {b : Bool} {j : Nat} : Den X B (.Constant (.bool b) j pos) (mC (.bl b)) := den_const pe_bl rfl
theorem den_non {j : Nat} : Den X B (.Constant .none j pos) (mC .non) := den_const pe_non rfl
theorem den_str {x : Str} {j : Nat} : Den X B (.Constant (.str x) j pos) (mC (.str x)) := den_const pe_str rfl
theorem den_glob {x : Str} {d : D} {v : V} {u : Value} (hg : Gl X x) (hm : X.mg x = some u) (r : RelV v u) (s : Same0 d v) (hd : (x == ("__debug__" : Str)) = false := by decide) : Den X B (.Name x pos) (mC d) := den_const (pe_glob hg hm r hd) s
theorem den_gstr {x z : Str} (hg : Gl X x) (hm : ∃ t, X.mg x = some (.str z t)) (hd : (x == ("__debug__" : Str)) = false := by decide) : Den X B (.Name x pos) (mC (.str z)) := by
  obtain ⟨t, hm⟩ := hm
  exact den_glob (v := .str z) hg hm ⟨t, rfl⟩ rfl hd
theorem den_gint {x : Str} {i : Int} (hg : Gl X x) (hm : ∃ t, X.mg x = some (.int i t)) (hd : (x == ("__debug__" : Str)) = false := by decide) : Den X B (.Name x pos) (mC (.int i)) := by
  obtain ⟨t, hm⟩ := hm
  exact den_glob (v := .int i) hg hm ⟨t, rfl⟩ rfl hd
/-- a built-in class as a value -/
theorem den_ty {x : Str} {n : String} (hg : Gl X x) (hm : X.mg x = none) (hv : bootBuiltins x = some (.type n)) (hn : x ≠ "__name__" := by decide) (hd : (x == ("__debug__" : Str)) = false := by decide) : Den X B (.Name x pos) (mC (.ty n)) :=
  den_const (pe_bltn (v := .ty n) hg hm hv rfl hn hd) rfl
/-- a def, a class of the module as a value -/
theorem den_fn {x : Str} (hg : Gl X x) (hm : X.mg x = some (.ref (He.ga X.K x))) (hd : (x == ("__debug__" : Str)) = false := by decide) : Den X B (.Name x pos) (mC (.fn x)) :=
  PE.imp (pe_glob hg hm (v := .ref (He.ga X.K x)) rfl hd) fun σ H Q ⟨ρ, h, env, R, E, g⟩ => g.ok0 R (.fn x)

/-! ### operators -/
def OpM (K : PySem.W.Frag) (B : WB) (r : R2) (f : D → D → MH → R D) : Prop := ∀ {σ : St} {ρ : List Addr} {h : MH} {H : Hp} {Q : VK} {x y : D} {v w : V}, HR K ρ h H → RV K ρ H x v → RV K ρ H y w → Good K B (rD K) σ ρ H Q (f x y h) → r v w H Q
def mBin (f : D → D → MH → R D) (a b : M) : M := fun env h => (a env h).bind fun x h1 => (b env h1).bind fun y h2 => f x y h2
variable {a b c : Expr} {ma mb mc : M}
theorem bin_imp {r : R2} {f : D → D → MH → R D} (hf : OpM X.K B r f) : ∀ σ H Q, tM X.K B (mBin f ma mb) σ H Q → tOp r (tM X.K B ma) (tM X.K B mb) σ H Q := fun σ H Q ⟨ρ, h, env, R, E, g⟩ =>
  (tR_bind ⟨R, E⟩ g).imp fun v H1 ⟨ρ1, h1, x, A1, e1, rx, g1⟩ => (tR_bind A1 g1).imp fun w H2 ⟨ρ2, h2, y, A2, e2, ry, g2⟩ => hf A2.R (rx.ext A1.R e2) ry g2
theorem den_bin {op : Operator} {r : R2} {f : D → D → MH → R D} (hf : OpM X.K B r f) (ho : OpR X (binaryOp op) r) (ha : Den X B a ma) (hb : Den X B b mb) : Den X B (.BinOp a op b pos) (mBin f ma mb) := PE.imp (pe_op ho ha hb) (bin_imp hf)
theorem den_cmp {op : CmpOp} {r : R2} {f : D → D → MH → R D} (hf : OpM X.K B r f) (ho : OpR X (compareOp op) r) (ha : Den X B a ma) (hb : Den X B b mb) (hm : behindInMarks op b = false) : Den X B (.Compare a [op] [b] pos) (mBin f ma mb) :=
  PE.imp (pe_cmpR ho ha hb hm) (bin_imp hf)
/-- a value as a truth value that it is -/
def asB (d : D) (h : MH) : R Bool := match d with
  | .bl b => .ok b h
  | _ => .no
def mTest (a : M) : MB := fun env h => (a env h).bind asB
theorem asB_ok {K : PySem.W.Frag} {B : WB} {σ : St} {ρ : List Addr} {h : MH} {H : Hp} {x : D} {v : V} {Q : Bool → Hp → Prop} (R : HR K ρ h H) (r : RV K ρ H x v) (g : Good K B (rId Bool) σ ρ H Q (asB x h)) : ∃ c, v = .bl c ∧ Q c H := by
  unfold asB at g
  split at g
  · cases r; exact ⟨_, rfl, g.ok0 R rfl⟩
  · exact g.elim
theorem test_imp : ∀ σ H Q, tMB X.K B (mTest ma) σ H Q → tTest (tM X.K B ma) σ H Q := fun σ H Q ⟨ρ, h, env, R, E, g⟩ =>
  (tR_bind ⟨R, E⟩ g).imp fun v H1 ⟨ρ1, h1, x, A1, e1, rx, g1⟩ => asB_ok A1.R rx g1
theorem tM_op {r : R2} {f : D → D → MH → R D} (hf : OpM X.K B r f) {σ : St} {H : Hp} {Q : Bool → Hp → Prop} (t : tMB X.K B (mTest (mBin f ma mb)) σ H Q) : tTest (tOp r (tM X.K B ma) (tM X.K B mb)) σ H Q := by
  have t2 := test_imp σ H Q t
  exact bin_imp hf σ H _ t2
theorem dent_cmp {op : CmpOp} {r : R2} {f : D → D → MH → R D} (hf : OpM X.K B r f) (ho : OpR X (compareOp op) r) (ha : Den X B a ma) (hb : Den X B b mb) (hm : behindInMarks op b = false) : DenT X B (.Compare a [op] [b] pos) (mTest (mBin f ma mb)) :=
  PT.imp (pt_cmpR ho ha hb hm) fun σ H Q t => tM_op hf t
/-- any other expression that gives True or False -/
theorem dent_val (ha : Den X B a ma) (he : ∀ whole, isTrue a X.env whole = (do let v ← whole; standAt a.pos; holding [v] (truthy v)) := by intro _; rfl) : DenT X B a (mTest ma) :=
  PT.imp (pt_val ha he) test_imp
/-- a comparison's chain -/
def mChain (f f' : D → D → MH → R D) (a b c : M) : M := fun env h => (a env h).bind fun x h1 => (b env h1).bind fun y h2 => (f x y h2).bind fun z h3 => (asB z h3).bind fun k h4 =>
  if k = true then (c env h4).bind fun w h5 => f' y w h5 else .ok (.bl false) h4
/-- f gives a value without a trace -/
def PureOp (f : D → D → MH → R D) : Prop := ∀ x y h, f x y h = .no ∨ ∃ b, f x y h = .ok (.bl b) h
theorem chain_imp {r r' : R2} {f f' : D → D → MH → R D} (hp : PureOp f) (hf : OpM X.K B r f) (hf' : OpM X.K B r' f') :
    ∀ σ H Q, tM X.K B (mChain f f' ma mb mc) σ H Q → tChain r r' (tM X.K B ma) (tM X.K B mb) (tM X.K B mc) σ H Q := fun σ H Q ⟨ρ, h, env, R, E, g⟩ =>
  (tR_bind ⟨R, E⟩ g).imp fun v H1 ⟨ρ1, h1, x, A1, e1, rx, g1⟩ => (tR_bind A1 g1).imp fun w H2 ⟨ρ2, h2, y, A2, e2, ry, g2⟩ => by
    rcases hp x y h2 with q | ⟨k, q⟩
    · rw [q] at g2; exact g2.elim
    · rw [q] at g2
      have g3 : Good X.K B (rD X.K) σ ρ2 H2 Q (if k = true then (mc env h2).bind fun w h5 => f' y w h5 else .ok (.bl false) h2) := g2
      refine hf (σ := σ) A2.R (rx.ext A1.R e2) ry (Q := _) ?_
      rw [q]
      intro ρ' v' H' a' b' c'
      cases c'
      refine ⟨k, rfl, ?_⟩
      cases k with
      | true =>
        rw [if_pos rfl]
        have A' : At X.K ρ' h2 H' env σ := ⟨a', A2.E.ext A2.R b'⟩
        exact (tR_bind A' (Good.mv g3 b')).imp fun w' H3 ⟨ρ3, h3, z, A3, e3, rz, g4⟩ => hf' A3.R ((ry.ext A2.R b').ext A'.R e3) rz g4
      | false =>
        rw [if_neg (by decide)]
        exact g3.ok a' b' (.bl false)
theorem den_chain {op op' : CmpOp} {r r' : R2} {f f' : D → D → MH → R D} (hp : PureOp f) (hf : OpM X.K B r f) (hf' : OpM X.K B r' f') (ho : OpR X (compareOp op) r) (ho' : OpR X (compareOp op') r') (ha : Den X B a ma) (hb : Den X B b mb) (hc : Den X B c mc)
    (hm : lastMarks [op, op'] [b, c] = false := by with_unfolding_all rfl) : Den X B (.Compare a [op, op'] [b, c] pos) (mChain f f' ma mb mc) := PE.imp (pe_chain ho ho' ha hb hc hm) (chain_imp hp hf hf')
theorem dent_chain {op op' : CmpOp} {r r' : R2} {f f' : D → D → MH → R D} (hp : PureOp f) (hf : OpM X.K B r f) (hf' : OpM X.K B r' f') (ho : OpR X (compareOp op) r) (ho' : OpR X (compareOp op') r') (ha : Den X B a ma) (hb : Den X B b mb) (hc : Den X B c mc)
    (hm : lastMarks [op, op'] [b, c] = false := by with_unfolding_all rfl) : DenT X B (.Compare a [op, op'] [b, c] pos) (mTest (mChain f f' ma mb mc)) := PT.imp (pt_chain ho ho' ha hb hc hm) fun σ H Q t => chain_imp hp hf hf' σ H _ (test_imp σ H Q t)

/-! ### and, or, not -/
variable {ta tb tc : MB} {rest : List Expr}
def mAnd (a b : MB) : MB := fun env h => (a env h).bind fun x h1 => if x = true then b env h1 else .ok false h1
def mOr (a b : MB) : MB := fun env h => (a env h).bind fun x h1 => if x = true then .ok true h1 else b env h1
def mNot (a : MB) : MB := fun env h => (a env h).bind fun x h1 => .ok (!x) h1
theorem Good.tR {α β : Type} {rel : Rel α β} {K : PySem.W.Frag} {σ : St} {ρ : List Addr} {h : MH} {H : Hp} {env : Env} {m : Env → MH → R α} {Q : β → Hp → Prop} (g : Good K B rel σ ρ H Q (m env h)) (A : At K ρ h H env σ) : tR K B rel m σ H Q := ⟨ρ, h, env, A.R, A.E, g⟩
theorem denw_and (ha : DenT X B a ta) (hb : DenW X B (.BoolOp .And (b :: rest) pos) tb) : DenW X B (.BoolOp .And (a :: b :: rest) pos) (mAnd ta tb) :=
  PW.imp (pw_and ha hb) fun σ H Q ⟨ρ, h, env, R, E, g⟩ => (tR_bind ⟨R, E⟩ g).imp fun v H1 ⟨ρ1, h1, x, A1, e1, rx, g1⟩ => by
    subst rx
    cases x with
    | true => exact iteT (Good.tR g1 A1)
    | false => exact iteF (g1.ok0 A1.R rfl)
theorem denw_or (ha : DenT X B a ta) (hb : DenW X B (.BoolOp .Or (b :: rest) pos) tb) : DenW X B (.BoolOp .Or (a :: b :: rest) pos) (mOr ta tb) :=
  PW.imp (pw_or ha hb) fun σ H Q ⟨ρ, h, env, R, E, g⟩ => (tR_bind ⟨R, E⟩ g).imp fun v H1 ⟨ρ1, h1, x, A1, e1, rx, g1⟩ => by
    subst rx
    cases x with
    | true => exact iteT (g1.ok0 A1.R rfl)
    | false => exact iteF (Good.tR g1 A1)
theorem denw_and1 (ha : DenT X B a ta) : DenW X B (.BoolOp .And [a] pos) ta := pw_and1 ha
theorem denw_or1 (ha : DenT X B a ta) : DenW X B (.BoolOp .Or [a] pos) ta := pw_or1 ha
theorem DenW.t {e : Expr} (h : DenW X B e ta) : DenT X B e ta := PW.pt h
theorem dent_not (ha : DenT X B a ta) : DenT X B (.UnaryOp .Not a pos) (mNot ta) :=
  PT.imp (pt_not ha) fun σ H Q ⟨ρ, h, env, R, E, g⟩ => (tR_bind ⟨R, E⟩ g).imp fun v H1 ⟨ρ1, h1, x, A1, e1, rx, g1⟩ => by
    subst rx
    exact g1.ok0 A1.R rfl
/-- the same as values, all of them truth values -/
def vAnd (a b : M) : M := fun env h => (a env h).bind fun x h1 => (asB x h1).bind fun k h2 => if k = true then b env h2 else .ok (.bl false) h2
def vOr (a b : M) : M := fun env h => (a env h).bind fun x h1 => (asB x h1).bind fun k h2 => if k = true then .ok (.bl true) h2 else b env h2
def vNot (a : M) : M := fun env h => (a env h).bind fun x h1 => (asB x h1).bind fun k h2 => .ok (.bl (!k)) h2
theorem asB_cases {x : D} {v : V} {K : PySem.W.Frag} {ρ : List Addr} {H : Hp} {h : MH} {α : Type} {k : Bool → MH → R α} {σ : St} {β : Type} {rel : Rel α β} {Q : β → Hp → Prop} (r : RV K ρ H x v) (g : Good K B rel σ ρ H Q ((asB x h).bind k)) : ∃ c, x = .bl c ∧ v = .bl c ∧ Good K B rel σ ρ H Q (k c h) := by
  unfold asB at g
  split at g
  · cases r; exact ⟨_, rfl, rfl, g⟩
  · exact g.elim
theorem den_and (ha : Den X B a ma) (hb : Den X B (.BoolOp .And (b :: rest) pos) mb) : Den X B (.BoolOp .And (a :: b :: rest) pos) (vAnd ma mb) :=
  PE.imp (pe_and ha hb) fun σ H Q ⟨ρ, h, env, R, E, g⟩ => (tR_bind ⟨R, E⟩ g).imp fun v H1 ⟨ρ1, h1, x, A1, e1, rx, g1⟩ => by
    obtain ⟨c, rfl, rfl, g2⟩ := asB_cases rx g1
    refine ⟨c, rfl, ?_⟩
    cases c with
    | true => exact iteT (Good.tR g2 A1)
    | false => exact iteF (g2.ok0 A1.R (.bl false))
theorem den_or (ha : Den X B a ma) (hb : Den X B (.BoolOp .Or (b :: rest) pos) mb) : Den X B (.BoolOp .Or (a :: b :: rest) pos) (vOr ma mb) :=
  PE.imp (pe_or ha hb) fun σ H Q ⟨ρ, h, env, R, E, g⟩ => (tR_bind ⟨R, E⟩ g).imp fun v H1 ⟨ρ1, h1, x, A1, e1, rx, g1⟩ => by
    obtain ⟨c, rfl, rfl, g2⟩ := asB_cases rx g1
    refine ⟨c, rfl, ?_⟩
    cases c with
    | true => exact iteT (g2.ok0 A1.R (.bl true))
    | false => exact iteF (Good.tR g2 A1)
theorem den_one {op} (h : Den X B a ma) : Den X B (.BoolOp op [a] pos) ma := pe_one h
theorem den_not (ha : Den X B a ma) : Den X B (.UnaryOp .Not a pos) (vNot ma) :=
  PE.imp (pe_not ha) fun σ H Q ⟨ρ, h, env, R, E, g⟩ => (tR_bind ⟨R, E⟩ g).imp fun v H1 ⟨ρ1, h1, x, A1, e1, rx, g1⟩ => by
    obtain ⟨c, rfl, rfl, g2⟩ := asB_cases rx g1
    exact ⟨c, rfl, g2.ok0 A1.R (.bl _)⟩
def mIf (t : MB) (a b : M) : M := fun env h => (t env h).bind fun x h1 => if x = true then a env h1 else b env h1
theorem den_if (ht : DenT X B c tc) (ha : Den X B a ma) (hb : Den X B b mb) : Den X B (.IfExp c a b pos) (mIf tc ma mb) :=
  PE.imp (pe_ifExp ht ha hb) fun σ H Q ⟨ρ, h, env, R, E, g⟩ => (tR_bind ⟨R, E⟩ g).imp fun v H1 ⟨ρ1, h1, x, A1, e1, rx, g1⟩ => by
    subst rx
    cases x with
    | true => exact iteT (Good.tR g1 A1)
    | false => exact iteF (Good.tR g1 A1)

/-! ### arguments, tuples, lists -/
variable {es : List Expr} {ms : MA}
def aNil : MA := fun _ h => .ok [] h
def aCons (a : M) (r : MA) : MA := fun env h => (a env h).bind fun x h1 => (r env h1).bind fun xs h2 => .ok (x :: xs) h2
theorem dena_nil : DenA X B [] aNil := PA.imp pa_nil fun σ H Q ⟨ρ, h, env, R, E, g⟩ => g.ok0 R .nil
theorem dena_cons (ha : Den X B a ma) (hr : DenA X B es ms) (hs : starEach (a :: es) X.env = (false, eval a X.env) :: starEach es X.env := by rfl) : DenA X B (a :: es) (aCons ma ms) :=
  PA.imp (pa_cons ha hr hs) fun σ H Q ⟨ρ, h, env, R, E, g⟩ => (tR_bind ⟨R, E⟩ g).imp fun v H1 ⟨ρ1, h1, x, A1, e1, rx, g1⟩ => (tR_bind A1 g1).imp fun w H2 ⟨ρ2, h2, y, A2, e2, ry, g2⟩ =>
    g2.ok0 A2.R (.cons (rx.ext A1.R e2) ry)
def mTup (a : MA) : M := fun env h => (a env h).bind fun xs h1 => if xs.length ≤ sizeLine then .ok (.tup xs) h1 else .no
def newL (xs : List D) (h : MH) : R D := .ok (.loc h.length) (h ++ [.lst xs])
def mLst (a : MA) : M := fun env h => (a env h).bind fun xs h1 => if xs.length ≤ sizeLine then newL xs h1 else .no
theorem rv_newT {K : PySem.W.Frag} {ρ : List Addr} {H : Hp} {h : MH} {ds : List D} {vs : List V} {p : Addr} (R : HR K ρ h H) (r : RVs K ρ H ds vs) (hp : H p = none) : RV K ρ (upd H p (.tup vs)) (.tup ds) (.ref p) :=
    .tup upd_same (r.ext R (Ext.new hp))
/-- a new tuple, as a result -/
theorem good_newT {K : PySem.W.Frag} {ρ : List Addr} {H : Hp} {h : MH} {σ : St} {Q : VK} {ds : List D} {vs : List V} {p : Addr} (g : Good K B (rD K) σ ρ H Q (.ok (.tup ds) h)) (R : HR K ρ h H) (r : RVs K ρ H ds vs) (hp : H p = none) : Q (.ref p) (upd H p (.tup vs)) :=
  g.ok (R.new hp) (Ext.new hp) (rv_newT R r hp)
theorem hr_newL {K : PySem.W.Frag} {ρ : List Addr} {H : Hp} {h : MH} {ds : List D} {vs : List V} {p : Addr} (R : HR K ρ h H) (r : RVs K ρ H ds vs) (hp : H p = none) : HR K (ρ ++ [p]) (h ++ [.lst ds]) (upd H p (.lst vs)) :=
  R.newL hp ⟨vs, upd_same, r.ext R (Ext.newL hp)⟩
theorem rv_newL {K : PySem.W.Frag} {ρ : List Addr} {H H' : Hp} {h : MH} {p : Addr} (R : HR K ρ h H) : RV K (ρ ++ [p]) H' (.loc h.length) (.ref p) := .loc (by rw [← R.len]; simp)
theorem good_newL {K : PySem.W.Frag} {ρ : List Addr} {H : Hp} {h : MH} {σ : St} {Q : VK} {ds : List D} {vs : List V} {p : Addr} (g : Good K B (rD K) σ ρ H Q (newL ds h)) (R : HR K ρ h H) (r : RVs K ρ H ds vs) (hp : H p = none) : Q (.ref p) (upd H p (.lst vs)) :=
  Good.ok g (hr_newL R r hp) (Ext.newL hp) (rv_newL R)
theorem good_if {K : PySem.W.Frag} {ρ : List Addr} {H : Hp} {σ : St} {α β : Type} {rel : Rel α β} {Q : β → Hp → Prop} {p : Prop} [Decidable p] {r : R α} (g : Good K B rel σ ρ H Q (if p then r else .no)) : p ∧ Good K B rel σ ρ H Q r := by
  split at g
  · exact ⟨‹_›, g⟩
  · exact g.elim
theorem good_if' {K : PySem.W.Frag} {ρ : List Addr} {H : Hp} {σ : St} {α β : Type} {rel : Rel α β} {Q : β → Hp → Prop} {p : Prop} [Decidable p] {r : R α} (g : Good K B rel σ ρ H Q (if p then r else .no)) : p ∧ Good K B rel σ ρ H Q r := good_if g
theorem den_tup {x1} (ha : DenA X B es ms) : Den X B (.Tuple es x1 pos) (mTup ms) :=
  PE.imp (pe_tup ha) fun σ H Q ⟨ρ, h, env, R, E, g⟩ => (tR_bind ⟨R, E⟩ g).imp fun vs H1 ⟨ρ1, h1, xs, A1, e1, rx, g1⟩ => by
    obtain ⟨hl, g2⟩ := good_if g1
    exact ⟨by rw [← rx.length]; exact hl, fun p hp => good_newT g2 A1.R rx hp⟩
theorem den_lst (ha : DenA X B es ms) : Den X B (.List es pos) (mLst ms) :=
  PE.imp (pe_lst ha) fun σ H Q ⟨ρ, h, env, R, E, g⟩ => (tR_bind ⟨R, E⟩ g).imp fun vs H1 ⟨ρ1, h1, xs, A1, e1, rx, g1⟩ => by
    obtain ⟨hl, g2⟩ := good_if g1
    exact ⟨by rw [← rx.length]; exact hl, fun p hp => good_newL g2 A1.R rx hp⟩
end
end MP
set_option Elab.async false
set_option linter.all false
set_option maxRecDepth 100000
set_option maxHeartbeats 2000000
/-! M2: operators on data, subscripts, slices, built-ins, methods. -/
namespace MP
open PySem PySem.Spec L2
section
variable {K : PySem.W.Frag} {B : WB} {σ : St} {ρ ρ' : List Addr} {H H' : Hp} {h : MH} {env : Env} {α β : Type} {rel : Rel α β}
/-- a location that holds a list -/
theorem HR.lst {n : Nat} {a : Addr} {ds : List D} (R : HR K ρ h H) (e : ρ[n]? = some a) (e' : h[n]? = some (.lst ds)) : ∃ vs, H a = some (.lst vs) ∧ RVs K ρ H ds vs := R.ob n a _ e e'
theorem HR.dic {n : Nat} {a : Addr} {ds : List (Key × D)} (R : HR K ρ h H) (e : ρ[n]? = some a) (e' : h[n]? = some (.dic ds)) : ∃ vs, H a = some (.dK vs) ∧ RKs K ρ H ds vs := R.ob n a _ e e'
theorem HR.dit {n : Nat} {a : Addr} {ds : List (List Key × D)} (R : HR K ρ h H) (e : ρ[n]? = some a) (e' : h[n]? = some (.dit ds)) : ∃ vs, H a = some (.dT vs) ∧ RKs K ρ H ds vs := R.ob n a _ e e'
theorem HR.ins {n : Nat} {a : Addr} {C : Str} {ds : List (Str × D)} (R : HR K ρ h H) (e : ρ[n]? = some a) (e' : h[n]? = some (.ins C ds)) : ∃ dx vs, H a = some (.ins (He.ga K C) dx vs) ∧ RKs K ρ H ds vs := R.ob n a _ e e'
/-- the items of what may be read as a list -/
def lstOf (h : MH) : D → Option (List D)
  | .rol ds => some ds
  | .loc n => match h[n]? with
    | some (.lst ds) => some ds
    | _ => none
  | _ => none
theorem lstOf_ok {d : D} {v : V} {ds : List D} (R : HR K ρ h H) (r : RV K ρ H d v) (e : lstOf h d = some ds) : ∃ a vs, v = .ref a ∧ SqL K H a vs ∧ RVs K ρ H ds vs := by
  cases r with
  | @rol a es vs q rs => cases e; exact ⟨a, vs, rfl, q.l, rs⟩
  | @loc n a q =>
    unfold lstOf at e
    dsimp only at e
    split at e
    · rename_i xs he
      cases e
      obtain ⟨vs, hv, rs⟩ := R.lst q he
      exact ⟨a, vs, rfl, .inl (.inl hv), rs⟩
    · cases e
  | _ => cases e
/-- .. or as a tuple -/
def tupOf : D → Option (List D)
  | .tup ds => some ds
  | _ => none
theorem tupOf_ok {d : D} {v : V} {ds : List D} (r : RV K ρ H d v) (e : tupOf d = some ds) : ∃ a vs, v = .ref a ∧ H a = some (.tup vs) ∧ RVs K ρ H ds vs := by
  cases r with
  | @tup a es vs q rs => cases e; exact ⟨a, vs, rfl, q, rs⟩
  | _ => cases e
theorem SqT.tup {a : Addr} {vs : List V} (e : H a = some (.tup vs)) : SqT K H a vs := .inl (.inl e)
theorem SqL.lst {a : Addr} {vs : List V} (e : H a = some (.lst vs)) : SqL K H a vs := .inl (.inl e)
end

/-! ### whole numbers and texts -/
def fAdd : D → D → MH → R D
  | .int i, .int j, h => .ok (.int (i + j)) h
  | .str a, .str b, h => if a.length + b.length ≤ sizeLine then .ok (.str (a ++ b)) h else .no
  | .tup a, .tup b, h => if a.length + b.length ≤ sizeLine then .ok (.tup (a ++ b)) h else .no
  | .loc m, .loc n, h => match h[m]?, h[n]? with
    | some (.lst a), some (.lst b) => if a.length + b.length ≤ sizeLine then newL (a ++ b) h else .no
    | _, _ => .no
  | _, _, _ => .no
abbrev rAddS : R2 := fun x y H Q => ∃ i j, x = .str i ∧ y = .str j ∧ i.length + j.length ≤ sizeLine ∧ Q (.str (i ++ j)) H
abbrev rAddAll (K : PySem.W.Frag) : R2 := fun x y H Q => rI0 (fun i j => .int (i + j)) x y H Q ∨ (rAddS x y H Q ∨ (rCatA K x y H Q ∨ rCat x y H Q))
theorem op_addAll {X : Cx} : OpR X (binaryOp .Add) (rAddAll X.K) := OpR.or op_add (OpR.or op_add_str (OpR.or op_catA op_cat))
theorem add_ok {K : PySem.W.Frag} {B : WB} : OpM K B (rAddAll K) fAdd := by
  intro σ ρ h H Q x y v w R rx ry g
  unfold fAdd at g
  split at g
  · cases rx; cases ry; exact .inl ⟨_, _, rfl, rfl, g.ok0 R (.int _)⟩
  · cases rx; cases ry
    obtain ⟨hl, g⟩ := good_if g
    exact .inr (.inl ⟨_, _, rfl, rfl, hl, g.ok0 R (.str _)⟩)
  · obtain ⟨hl, g⟩ := good_if g
    cases rx with
    | @tup a _ vs e r =>
      cases ry with
      | @tup b _ ws e' r' =>
        refine .inr (.inr (.inl ⟨a, b, vs, ws, rfl, rfl, SqT.tup e, SqT.tup e', by rw [← r.length, ← r'.length]; exact hl, ?_, ?_, ?_⟩))
        · rintro rfl
          cases r
          exact g.ok0 R (.tup e' r')
        · rintro _ rfl
          cases r'
          rw [List.append_nil] at g
          exact g.ok0 R (.tup e r)
        · exact fun _ _ p hp => good_newT g R (r.append r') hp
  · rename_i m n _
    split at g
    · rename_i xs ys e1 e2
      obtain ⟨hl, g⟩ := good_if g
      cases rx with
      | @loc _ a e =>
        cases ry with
        | @loc _ b e' =>
          obtain ⟨vs, q, r⟩ := R.lst e e1
          obtain ⟨ws, q', r'⟩ := R.lst e' e2
          exact .inr (.inr (.inr ⟨a, b, vs, ws, rfl, rfl, q, q', by rw [← r.length, ← r'.length]; exact hl, fun p hp => good_newL g R (r.append r') hp⟩))
    · exact g.elim
  · exact g.elim
def fSub : D → D → MH → R D
  | .int i, .int j, h => .ok (.int (i - j)) h
  | _, _, _ => .no
theorem sub_ok {K : PySem.W.Frag} {B : WB} : OpM K B (rI0 fun i j => .int (i - j)) fSub := by
  intro σ ρ h H Q x y v w R rx ry g
  unfold fSub at g
  split at g
  · cases rx; cases ry; exact ⟨_, _, rfl, rfl, g.ok0 R (.int _)⟩
  · exact g.elim
instance (i j : Int) : Decidable (CMul i j) := by unfold CMul; infer_instance
instance (i j : Int) : Decidable (CPow i j) := by unfold CPow; infer_instance
instance (i j : Int) : Decidable (CDiv i j) := by unfold CDiv; infer_instance
def fMul : D → D → MH → R D
  | .int i, .int j, h => if CMul i j then .ok (.int (i * j)) h else .no
  | .loc n, .int k, h => match h[n]? with
    | some (.lst a) => if -(2 ^ 63) ≤ k ∧ k < 2 ^ 63 ∧ a.length * k.toNat ≤ sizeLine then newL (List.replicate k.toNat a).flatten h else .no
    | _ => .no
  | _, _, _ => .no
abbrev rMulAll : R2 := fun x y H Q => rI CMul (fun i j => .int (i * j)) x y H Q ∨ rRep x y H Q
theorem op_mulAll {X : Cx} : OpR X (binaryOp .Mult) rMulAll := OpR.or op_mul op_rep
theorem RVs.rep {K : PySem.W.Frag} {ρ : List Addr} {H : Hp} {ds : List D} {vs : List V} (r : RVs K ρ H ds vs) : ∀ n : Nat, RVs K ρ H (List.replicate n ds).flatten (List.replicate n vs).flatten
  | 0 => .nil
  | n + 1 => by
    rw [List.replicate_succ, List.replicate_succ, List.flatten_cons, List.flatten_cons]
    exact r.append (RVs.rep r n)
theorem mul_ok {K : PySem.W.Frag} {B : WB} : OpM K B rMulAll fMul := by
  intro σ ρ h H Q x y v w R rx ry g
  unfold fMul at g
  split at g
  · obtain ⟨hl, g⟩ := good_if g
    cases rx; cases ry; exact .inl ⟨_, _, rfl, rfl, hl, g.ok0 R (.int _)⟩
  · split at g
    · rename_i a e1
      obtain ⟨⟨h1, h2, h3⟩, g⟩ := good_if g
      cases ry
      cases rx with
      | @loc _ l e =>
        obtain ⟨vs, q, r⟩ := R.lst e e1
        exact .inr ⟨l, _, vs, rfl, rfl, q, h1, h2, by rw [← r.length]; exact h3, fun p hp => good_newL g R (r.rep _) hp⟩
    · exact g.elim
  · exact g.elim
def fMod : D → D → MH → R D
  | .int i, .int j, h => if 0 < j then .ok (.int (i % j)) h else .no
  | _, _, _ => .no
theorem mod_ok {K : PySem.W.Frag} {B : WB} : OpM K B (rI (fun _ j => 0 < j) fun i j => .int (i % j)) fMod := by
  intro σ ρ h H Q x y v w R rx ry g
  unfold fMod at g
  split at g
  · obtain ⟨hl, g⟩ := good_if g
    cases rx; cases ry; exact ⟨_, _, rfl, rfl, hl, g.ok0 R (.int _)⟩
  · exact g.elim
def fDiv : D → D → MH → R D
  | .int i, .int j, h => if CDiv i j then .ok (.int (i / j)) h else .no
  | _, _, _ => .no
theorem div_ok {K : PySem.W.Frag} {B : WB} : OpM K B (rI CDiv fun i j => .int (i / j)) fDiv := by
  intro σ ρ h H Q x y v w R rx ry g
  unfold fDiv at g
  split at g
  · obtain ⟨hl, g⟩ := good_if g
    cases rx; cases ry; exact ⟨_, _, rfl, rfl, hl, g.ok0 R (.int _)⟩
  · exact g.elim
def CPowW (i j : Int) : Prop := CPow i j ∨ (0 ≤ j ∧ ((Builtin.Int.intBits i : Nat) : Int) * j ≤ 2 ^ 27)
instance (i j : Int) : Decidable (CPowW i j) := by unfold CPowW; infer_instance
theorem op_powW {X : Cx} : OpR X (binaryOp .Pow) (rI CPowW fun i j => .int (i ^ j.toNat)) := by
  refine opI fun i j t u s Q E hc q => ?_
  rcases hc with hc | ⟨h1, h2⟩
  · exact PyProof.Rows.pow_int_small hc.1 hc.2.1 hc.2.2 q
  · exact PyProof.Rows.pow_int h1 h2 q
def fPow : D → D → MH → R D
  | .int i, .int j, h => if CPowW i j then .ok (.int (i ^ j.toNat)) h else .no
  | _, _, _ => .no
theorem pow_ok {K : PySem.W.Frag} {B : WB} : OpM K B (rI CPowW fun i j => .int (i ^ j.toNat)) fPow := by
  intro σ ρ h H Q x y v w R rx ry g
  unfold fPow at g
  split at g
  · obtain ⟨hl, g⟩ := good_if g
    cases rx; cases ry; exact ⟨_, _, rfl, rfl, hl, g.ok0 R (.int _)⟩
  · exact g.elim

/-! ### comparisons -/
def eqS : D → D → Option Bool
  | .non, .non => some true
  | .non, .int _ | .int _, .non | .non, .bl _ | .bl _, .non | .non, .str _ | .str _, .non => some false
  | .int i, .int j => some (decide (i = j))
  | .bl a, .bl b => some (decide (a = b))
  | .str a, .str b => some (decide (a = b))
  | .int _, .str _ | .str _, .int _ | .bl _, .str _ | .str _, .bl _ => some false
  | _, _ => none
theorem eqS_ok {K : PySem.W.Frag} {ρ : List Addr} {H : Hp} {x y : D} {v w : V} {b : Bool} (rx : RV K ρ H x v) (ry : RV K ρ H y w) (e : eqS x y = some b) : scal v w = true ∧ decide (v = w) = b := by
  cases rx <;> cases ry <;> first | (cases e; done) | (simp only [eqS, Option.some.injEq] at e; subst e; refine ⟨rfl, ?_⟩; first | rfl | (simp; done))
mutual
def toT : D → Option PyData
  | .non => some .none
  | .bl b => some (.bool b)
  | .int i => some (.int i)
  | .str s => some (.str s)
  | .tup ds => (toTs ds).map PyData.tuple
  | .rol _ | .loc _ | .ty _ | .fn _ => none
def toTs : List D → Option (List PyData)
  | [] => some []
  | d :: ds => match toT d, toTs ds with
    | some p, some ps => some (p :: ps)
    | _, _ => none
end
def toP (h : MH) (d : D) : Option PyData := match lstOf h d with
  | some ds => (toTs ds).map PyData.list
  | none => toT d
section
variable {K : PySem.W.Frag} {ρ : List Addr} {H : Hp} {h : MH}
mutual
theorem toT_dp : ∀ {d : D} {v : V} {p : PyData}, RV K ρ H d v → toT d = some p → Dp K H v p
  | _, _, _, .non, e => by simp only [toT, Option.some.injEq] at e; subst e; exact .non
  | _, _, _, .bl b, e => by simp only [toT, Option.some.injEq] at e; subst e; exact .bl b
  | _, _, _, .int i, e => by simp only [toT, Option.some.injEq] at e; subst e; exact .int i
  | _, _, _, .str s, e => by simp only [toT, Option.some.injEq] at e; subst e; exact .str s
  | _, _, _, .ty n, e => by simp [toT] at e
  | _, _, _, .fn n, e => by simp [toT] at e
  | _, _, _, .loc n, e => by simp [toT] at e
  | _, _, _, .rol _ _, e => by simp [toT] at e
  | .tup ds, _, _, .tup q r, e => by
    simp only [toT] at e
    cases h1 : toTs ds with
    | none => rw [h1] at e; cases e
    | some ps => rw [h1] at e; cases e; exact .tup (SqT.tup q) (toTs_dp r h1)
theorem toTs_dp : ∀ {ds : List D} {vs : List V} {ps : List PyData}, RVs K ρ H ds vs → toTs ds = some ps → DpAll K H vs ps
  | _, _, _, .nil, e => by simp only [toTs, Option.some.injEq] at e; subst e; exact .nil
  | d :: ds, _, _, .cons r t, e => by
    simp only [toTs] at e
    cases h1 : toT d with
    | none => rw [h1] at e; simp at e
    | some p =>
      cases h2 : toTs ds with
      | none => rw [h1, h2] at e; simp at e
      | some ps => rw [h1, h2] at e; simp at e; subst e; exact .cons (toT_dp r h1) (toTs_dp t h2)
end
theorem toP_dp {d : D} {v : V} {p : PyData} (R : HR K ρ h H) (r : RV K ρ H d v) (e : toP h d = some p) : Dp K H v p := by
  unfold toP at e
  split at e
  · rename_i ds e1
    obtain ⟨a, vs, rfl, q, rs⟩ := lstOf_ok R r e1
    cases h1 : toTs ds with
    | none => rw [h1] at e; cases e
    | some ps => rw [h1] at e; cases e; exact .lst q (toTs_dp rs h1)
  · exact toT_dp r e
end
/-- data compared by value; none: not data -/
def eqP (h : MH) (x y : D) : Option Bool := match toP h x, toP h y with
  | some d, some e => if SeqAt.shaped d = true ∧ SeqAt.shaped e = true then some (PyData.eqv d e) else none
  | _, _ => none
def eqD (h : MH) (x y : D) : Option Bool := match eqS x y with
  | some b => some b
  | none => eqP h x y
def fEq (x y : D) (h : MH) : R D := match eqD h x y with
  | some b => .ok (.bl b) h
  | none => .no
def fNe (x y : D) (h : MH) : R D := match eqD h x y with
  | some b => .ok (.bl (!b)) h
  | none => .no
abbrev rEqAll (K : PySem.W.Frag) : R2 := fun x y H Q => rEq x y H Q ∨ rEqD K x y H Q
abbrev rNeAll (K : PySem.W.Frag) : R2 := fun x y H Q => rNe x y H Q ∨ rNeD K x y H Q
theorem op_eqAll {X : Cx} (hu : X.A.units + 64 < cLine) : OpR X (compareOp .Eq) (rEqAll X.K) := OpR.or op_eq (op_eqD hu)
theorem op_neAll {X : Cx} (hu : X.A.units + 64 < cLine) : OpR X (compareOp .NotEq) (rNeAll X.K) := OpR.or op_ne (op_neD hu)
theorem eqP_ok {K : PySem.W.Frag} {ρ : List Addr} {H : Hp} {h : MH} {x y : D} {v w : V} {b : Bool} (R : HR K ρ h H) (rx : RV K ρ H x v) (ry : RV K ρ H y w) (e : eqP h x y = some b) :
    ∃ d f, Dp K H v d ∧ Dp K H w f ∧ SeqAt.shaped d = true ∧ SeqAt.shaped f = true ∧ PyData.eqv d f = b := by
  unfold eqP at e
  split at e
  · rename_i d f e1 e2
    split at e
    · rename_i hs
      cases e
      exact ⟨d, f, toP_dp R rx e1, toP_dp R ry e2, hs.1, hs.2, rfl⟩
    · cases e
  · cases e
theorem eq_ok {K : PySem.W.Frag} {B : WB} : OpM K B (rEqAll K) fEq := by
  intro σ ρ h H Q x y v w R rx ry g
  unfold fEq eqD at g
  split at g
  · rename_i b e
    split at e
    · rename_i b' e'
      cases e
      obtain ⟨h1, h2⟩ := eqS_ok rx ry e'
      exact .inl ⟨h1, by rw [h2]; exact g.ok0 R (.bl _)⟩
    · obtain ⟨d, f, h1, h2, h3, h4, h5⟩ := eqP_ok R rx ry e
      exact .inr ⟨d, f, h1, h2, h3, h4, by rw [h5]; exact g.ok0 R (.bl _)⟩
  · exact g.elim
theorem ne_ok {K : PySem.W.Frag} {B : WB} : OpM K B (rNeAll K) fNe := by
  intro σ ρ h H Q x y v w R rx ry g
  unfold fNe eqD at g
  split at g
  · rename_i b e
    split at e
    · rename_i b' e'
      cases e
      obtain ⟨h1, h2⟩ := eqS_ok rx ry e'
      exact .inl ⟨h1, by rw [h2]; exact g.ok0 R (.bl _)⟩
    · obtain ⟨d, f, h1, h2, h3, h4, h5⟩ := eqP_ok R rx ry e
      exact .inr ⟨d, f, h1, h2, h3, h4, by rw [h5]; exact g.ok0 R (.bl _)⟩
  · exact g.elim
def fLt : D → D → MH → R D
  | .int i, .int j, h => .ok (.bl (decide (i < j))) h
  | _, _, _ => .no
def fLe : D → D → MH → R D
  | .int i, .int j, h => .ok (.bl (decide (i ≤ j))) h
  | _, _, _ => .no
def fGt : D → D → MH → R D
  | .int i, .int j, h => .ok (.bl (decide (j < i))) h
  | _, _, _ => .no
def fGe : D → D → MH → R D
  | .int i, .int j, h => .ok (.bl (decide (j ≤ i))) h
  | _, _, _ => .no
section
variable {K : PySem.W.Frag} {B : WB}
theorem lt_ok : OpM K B (rI0 fun i j => .bl (decide (i < j))) fLt := by
  intro σ ρ h H Q x y v w R rx ry g
  unfold fLt at g
  split at g
  · cases rx; cases ry; exact ⟨_, _, rfl, rfl, g.ok0 R (.bl _)⟩
  · exact g.elim
theorem le_ok : OpM K B (rI0 fun i j => .bl (decide (i ≤ j))) fLe := by
  intro σ ρ h H Q x y v w R rx ry g
  unfold fLe at g
  split at g
  · cases rx; cases ry; exact ⟨_, _, rfl, rfl, g.ok0 R (.bl _)⟩
  · exact g.elim
theorem gt_ok : OpM K B (rI0 fun i j => .bl (decide (j < i))) fGt := by
  intro σ ρ h H Q x y v w R rx ry g
  unfold fGt at g
  split at g
  · cases rx; cases ry; exact ⟨_, _, rfl, rfl, g.ok0 R (.bl _)⟩
  · exact g.elim
theorem ge_ok : OpM K B (rI0 fun i j => .bl (decide (j ≤ i))) fGe := by
  intro σ ρ h H Q x y v w R rx ry g
  unfold fGe at g
  split at g
  · cases rx; cases ry; exact ⟨_, _, rfl, rfl, g.ok0 R (.bl _)⟩
  · exact g.elim
end
theorem pure_of {f : D → D → MH → R D} (h : ∀ x y h, f x y h = .no ∨ ∃ b, f x y h = .ok (.bl b) h) : PureOp f := h
theorem pure_lt : PureOp fLt := fun x y h => by unfold fLt; split <;> simp
theorem pure_le : PureOp fLe := fun x y h => by unfold fLe; split <;> simp
theorem pure_gt : PureOp fGt := fun x y h => by unfold fGt; split <;> simp
theorem pure_ge : PureOp fGe := fun x y h => by unfold fGe; split <;> simp
theorem pure_eq : PureOp fEq := fun x y h => by unfold fEq; split <;> simp
theorem pure_ne : PureOp fNe := fun x y h => by unfold fNe; split <;> simp
/-- is None -/
def fIsN (x y : D) (h : MH) : R D := match y with
  | .non => .ok (.bl (match x with | .non => true | _ => false)) h
  | _ => .no
def fNotN (x y : D) (h : MH) : R D := match y with
  | .non => .ok (.bl (match x with | .non => false | _ => true)) h
  | _ => .no
theorem isN_ok {K : PySem.W.Frag} {B : WB} : OpM K B (fun x y H Q => y = .non ∧ Q (.bl (decide (x = .non))) H) fIsN := by
  intro σ ρ h H Q x y v w R rx ry g
  unfold fIsN at g
  cases ry with
  | non => refine ⟨rfl, ?_⟩; cases rx <;> exact g.ok0 R (by first | exact .bl _ | (simp; exact .bl _))
  | _ => exact g.elim
theorem notN_ok {K : PySem.W.Frag} {B : WB} : OpM K B (fun x y H Q => y = .non ∧ Q (.bl (!decide (x = .non))) H) fNotN := by
  intro σ ρ h H Q x y v w R rx ry g
  unfold fNotN at g
  cases ry with
  | non => refine ⟨rfl, ?_⟩; cases rx <;> exact g.ok0 R (by first | exact .bl _ | (simp; exact .bl _))
  | _ => exact g.elim
/-! ### in -/
def flatD : D → Bool
  | .non | .bl _ | .int _ | .str _ => true
  | _ => false
def eqF : D → D → Bool
  | .non, .non => true
  | .bl a, .bl b => a == b
  | .bl a, .int b => (if a then 1 else 0) == b
  | .int a, .bl b => a == (if b then 1 else 0)
  | .int a, .int b => a == b
  | .str a, .str b => a == b
  | _, _ => false
def seqOf (h : MH) (d : D) : Option (List D) := match lstOf h d with
  | some ds => some ds
  | none => tupOf d
def inS (x : D) (ds : List D) : Bool := ds.any fun y => eqF y x
def inD (h : MH) (x y : D) : Option Bool := match x, y with
  | .str a, .str z => match a.cps.toList with
    | [c] => some (decide (c ∈ z.cps.toList))
    | _ => some (!(Builtin.Str.occurrences z a 0 z.length 1).isEmpty)
  | x, y => match seqOf h y with
    | some ds => if flatD x = true ∧ ds.all flatD = true then some (inS x ds) else none
    | none => none
def fIn (x y : D) (h : MH) : R D := match inD h x y with
  | some b => .ok (.bl b) h
  | none => .no
def fNotIn (x y : D) (h : MH) : R D := match inD h x y with
  | some b => .ok (.bl (!b)) h
  | none => .no
abbrev rInStr : R2 := fun x y H Q => ∃ i j, x = .str i ∧ y = .str j ∧ Q (.bl (!(Builtin.Str.occurrences j i 0 j.length 1).isEmpty)) H
abbrev rNotInStr : R2 := fun x y H Q => ∃ i j, x = .str i ∧ y = .str j ∧ Q (.bl (!(!(Builtin.Str.occurrences j i 0 j.length 1).isEmpty))) H
abbrev rInSg : R2 := fun x y H Q => ∃ (c : Nat) (z : Str), x = .str ⟨#[c]⟩ ∧ y = .str z ∧ Q (.bl (decide (c ∈ z.cps.toList))) H
abbrev rNotInSg : R2 := fun x y H Q => ∃ (c : Nat) (z : Str), x = .str ⟨#[c]⟩ ∧ y = .str z ∧ Q (.bl (!decide (c ∈ z.cps.toList))) H
abbrev rInAll (K : PySem.W.Frag) : R2 := fun x y H Q => rInSg x y H Q ∨ (rInStr x y H Q ∨ rIn K false x y H Q)
abbrev rNotInAll (K : PySem.W.Frag) : R2 := fun x y H Q => rNotInSg x y H Q ∨ (rNotInStr x y H Q ∨ rIn K true x y H Q)
theorem op_inAll {X : Cx} : OpR X (compareOp .In) (rInAll X.K) := OpR.or op_in_sign (OpR.or op_in_str op_in_seq)
theorem op_notInAll {X : Cx} : OpR X (compareOp .NotIn) (rNotInAll X.K) := OpR.or op_notIn_sign (OpR.or op_notin_str op_notIn_seq)
section
variable {K : PySem.W.Frag} {ρ : List Addr} {H : Hp} {h : MH}
theorem seqOf_ok {d : D} {v : V} {ds : List D} (R : HR K ρ h H) (r : RV K ρ H d v) (e : seqOf h d = some ds) : ∃ a vs, v = .ref a ∧ (SqL K H a vs ∨ SqT K H a vs) ∧ RVs K ρ H ds vs := by
  unfold seqOf at e
  split at e
  · rename_i es e1
    cases e
    obtain ⟨a, vs, h1, h2, h3⟩ := lstOf_ok R r e1
    exact ⟨a, vs, h1, .inl h2, h3⟩
  · obtain ⟨a, vs, h1, h2, h3⟩ := tupOf_ok r e
    exact ⟨a, vs, h1, .inr (SqT.tup h2), h3⟩
theorem flatD_ok {d : D} {v : V} (r : RV K ρ H d v) : flatV v = flatD d := by cases r <;> rfl
theorem flatDs_ok : ∀ {ds : List D} {vs : List V}, RVs K ρ H ds vs → vs.all flatV = ds.all flatD
  | _, _, .nil => rfl
  | _, _, .cons r t => by simp only [List.all_cons, flatD_ok r, flatDs_ok t]
theorem eqF_ok {x y : D} {v w : V} (rx : RV K ρ H x v) (ry : RV K ρ H y w) : eqV v w = eqF x y := by cases rx <;> cases ry <;> rfl
theorem inS_ok {x : D} {v : V} (rx : RV K ρ H x v) : ∀ {ds : List D} {vs : List V}, RVs K ρ H ds vs → inV v vs = inS x ds
  | _, _, .nil => rfl
  | _, _, .cons r t => by
    have := inS_ok rx t
    unfold inV inS at *
    simp only [List.any_cons, eqF_ok r rx, this]
theorem one_sign {a : Str} {c : Nat} (e : a.cps.toList = [c]) : a = ⟨#[c]⟩ := by
  obtain ⟨cs⟩ := a
  have : cs = #[c] := by apply Array.toList_inj.mp; exact e
  rw [this]
end
theorem in_ok {K : PySem.W.Frag} {B : WB} : OpM K B (rInAll K) fIn := by
  intro σ ρ h H Q x y v w R rx ry g
  unfold fIn at g
  split at g
  · rename_i b e
    unfold inD at e
    split at e
    · cases rx; cases ry
      split at e
      · rename_i c ec
        cases e
        exact .inl ⟨c, _, by rw [one_sign ec], rfl, g.ok0 R (.bl _)⟩
      · cases e
        exact .inr (.inl ⟨_, _, rfl, rfl, g.ok0 R (.bl _)⟩)
    · split at e
      · rename_i ds e1
        split at e
        · rename_i hf
          cases e
          obtain ⟨a, vs, rfl, h2, h3⟩ := seqOf_ok R ry e1
          exact .inr (.inr ⟨a, vs, rfl, h2, by rw [flatD_ok rx]; exact hf.1, by rw [flatDs_ok h3]; exact hf.2, by
            show Q (.bl (inV _ vs)) H
            rw [inS_ok rx h3]; exact g.ok0 R (.bl _)⟩)
        · cases e
      · cases e
  · exact g.elim
theorem notIn_ok {K : PySem.W.Frag} {B : WB} : OpM K B (rNotInAll K) fNotIn := by
  intro σ ρ h H Q x y v w R rx ry g
  unfold fNotIn at g
  split at g
  · rename_i b e
    unfold inD at e
    split at e
    · cases rx; cases ry
      split at e
      · rename_i c ec
        cases e
        exact .inl ⟨c, _, by rw [one_sign ec], rfl, g.ok0 R (.bl _)⟩
      · cases e
        exact .inr (.inl ⟨_, _, rfl, rfl, g.ok0 R (.bl _)⟩)
    · split at e
      · rename_i ds e1
        split at e
        · rename_i hf
          cases e
          obtain ⟨a, vs, rfl, h2, h3⟩ := seqOf_ok R ry e1
          exact .inr (.inr ⟨a, vs, rfl, h2, by rw [flatD_ok rx]; exact hf.1, by rw [flatDs_ok h3]; exact hf.2, by
            show Q (.bl (!inV _ vs)) H
            rw [inS_ok rx h3]; exact g.ok0 R (.bl _)⟩)
        · cases e
      · cases e
  · exact g.elim
end MP
set_option Elab.async false
set_option linter.all false
set_option maxRecDepth 100000
set_option maxHeartbeats 2000000
/-! M3: targets, what is walked, comprehensions, statements. -/
namespace MP
open PySem PySem.Spec L2
theorem PI.imp {X : Cx} {tg e : Expr} {t t' : TI} (p : PI X tg e t) (f : ∀ σ H Q, t' σ H Q → t σ H Q) : PI X tg e t' := ⟨fun pins s σ H Q I g => p.run pins s σ H Q I (f σ H Q g)⟩
/-! ### a target: a name, or a flat tuple of names -/
inductive Tg where
  | nm (j : Nat) | tp (js : List Nat)
def sets : List Nat → List D → Env → Env
  | j :: js, d :: ds, e => sets js ds (e.set j (some d))
  | _, _, e => e
def Tg.put : Tg → D → Env → Option Env
  | .nm j, d, e => some (e.set j (some d))
  | .tp js, .tup ds, e => if ds.length = js.length then some (sets js ds e) else none
  | _, _, _ => none
def Tg.slots : Tg → List Nat
  | .nm j => [j]
  | .tp js => js
def setsV : List Nat → List V → St → St
  | j :: js, d :: ds, e => setsV js ds (e.set j (some d))
  | _, _, e => e
def gNames : List Nat → TGs
  | [] => gNil
  | j :: js => gCons (gName j) (gNames js)
def Tg.g (K : PySem.W.Frag) : Tg → TG
  | .nm j => gName j
  | .tp js => gTup K js.length (gNames js)
section
variable {K : PySem.W.Frag} {ρ : List Addr} {H : Hp} {h : MH}
theorem gNames_ok : ∀ {js : List Nat} {vs : List V} {σ : St} {Q : St → Hp → Prop}, vs.length = js.length → Q (setsV js vs σ) H → gNames js vs σ H Q
  | [], [], σ, Q, _, q => ⟨rfl, q⟩
  | j :: js, v :: vs, σ, Q, e, q => ⟨v, vs, rfl, gNames_ok (by simpa using e) q⟩
  | [], _ :: _, _, _, e, _ => by simp at e
  | _ :: _, [], _, _, e, _ => by simp at e
theorem ER.sets : ∀ {js : List Nat} {ds : List D} {vs : List V} {env : Env} {σ : St}, ER K ρ H env σ → RVs K ρ H ds vs → ER K ρ H (sets js ds env) (setsV js vs σ)
  | [], _, _, _, _, r, _ => by unfold MP.sets setsV; exact r
  | j :: js, _, _, _, _, r, .nil => by unfold MP.sets setsV; exact r
  | j :: js, _, _, _, _, r, .cons q t => by unfold MP.sets setsV; exact ER.sets (r.set j q) t
theorem setsV_len : ∀ (js : List Nat) (vs : List V) (σ : St), (setsV js vs σ).length = σ.length
  | [], _, _ => by unfold setsV; rfl
  | j :: js, [], _ => by unfold setsV; rfl
  | j :: js, v :: vs, σ => by unfold setsV; rw [setsV_len, List.length_set]
theorem wipe_get (σ : St) (i : Nat) : ∀ vs : List Nat, (wipe σ vs)[i]? = if i ∈ vs then (if i < σ.length then some none else none) else σ[i]?
  | [] => by simp [wipe]
  | v :: vs => by
    unfold wipe
    rw [List.getElem?_set, wipe_length, wipe_get σ i vs]
    by_cases h : v = i
    · subst h; simp
    · have h' : ¬ i = v := fun e => h e.symm
      simp [h, h']
theorem wipe_of {σ τ : St} {vs : List Nat} (hl : σ.length = τ.length) (h : ∀ i, i ∉ vs → σ[i]? = τ[i]?) : wipe σ vs = wipe τ vs := by
  apply List.ext_getElem?
  intro i
  rw [wipe_get, wipe_get, hl]
  split
  · rfl
  · exact h i ‹_›
theorem setsV_get {i : Nat} : ∀ {js : List Nat} {vs : List V} {σ : St}, i ∉ js → (setsV js vs σ)[i]? = σ[i]?
  | [], _, _, _ => by unfold setsV; rfl
  | j :: js, [], _, _ => by unfold setsV; rfl
  | j :: js, v :: vs, σ, h => by
    unfold setsV
    rw [setsV_get (fun q => h (List.mem_cons_of_mem _ q)), List.getElem?_set_ne (fun q => h (by rw [q]; exact List.mem_cons_self))]
theorem wipe_wipe (σ : St) (vs : List Nat) : wipe (wipe σ vs) vs = wipe σ vs := wipe_of (wipe_length _ _) fun i hi => by rw [wipe_get, if_neg hi]
/-- a store, and what it changes -/
theorem Tg.put_ok {t : Tg} {d : D} {v : V} {env env' : Env} {σ : St} {Q : St → Hp → Prop} (E : ER K ρ H env σ) (r : RV K ρ H d v) (e : t.put d env = some env')
    (k : ∀ σ', ER K ρ H env' σ' → σ'.length = σ.length → (∀ i, i ∉ t.slots → σ'[i]? = σ[i]?) → Q σ' H) : t.g K v σ H Q := by
  cases t with
  | nm j =>
    cases e
    exact k _ (E.set j r) (by simp) fun i hi => List.getElem?_set_ne (fun q => hi (by rw [← q]; exact List.mem_singleton.mpr rfl))
  | tp js =>
    cases r with
    | @tup a ds vs ea rs =>
      have e' : (if ds.length = js.length then some (MP.sets js ds env) else none) = some env' := e
      by_cases hl : ds.length = js.length
      · rw [if_pos hl] at e'
        cases e'
        exact ⟨a, vs, rfl, SqT.tup ea, by rw [← rs.length]; exact hl, gNames_ok (by rw [← rs.length]; exact hl) (k _ (E.sets rs) (setsV_len _ _ _) fun i hi => setsV_get hi)⟩
      · rw [if_neg hl] at e'; cases e'
    | _ => cases e
end
/-- the judgement -/
abbrev DenG (X : Cx) (tg : Expr) (t : Tg) := PG X tg (t.g X.K)
section
variable {X : Cx}
theorem deng_name (i : Nat) {x : Str} {pos : Pos} (hN : X.N.Nodup) (hi : X.N[i]? = some x) (hx : Loc X.env.scope x) (hf : X.fn x = true ∨ X.env.scope.names.lookup x = some .local := by first | exact .inl rfl | exact .inr rfl | assumption) : DenG X (.Name x pos) (.nm i) := pg_name hN hi hx hf
theorem deng_tup {es : List Expr} {k : Nat} {js : List Nat} {pos : Pos} (hc : X.calm = true) (h : PGs X es (gNames js))
    (hn : (assignEach es X.env).length = js.length := by rfl) (hst : (assignEach es X.env).findIdx? (·.1) = none := by rfl) : DenG X (.Tuple es k pos) (.tp js) := pg_tup hc h hn hst
theorem deng_nil : PGs X [] (gNames []) := pgs_nil
theorem deng_cons {e : Expr} {es : List Expr} {j : Nat} {js : List Nat} (h1 : DenG X e (.nm j)) (h2 : PGs X es (gNames js)) (hs : (assignEach (e :: es) X.env).map (·.2) = assign e X.env :: (assignEach es X.env).map (·.2) := by rfl) : PGs X (e :: es) (gNames (j :: js)) := pgs_cons h1 h2 hs
end

/-! ### what is walked -/
inductive Src where
  | lst (d : D) | tup (ds : List D) | str (s : Str) | rng (lo : Int) (n : Nat) | enm (d : D) | zip (d e : D)
def Src.get (h : MH) (i : Nat) : Src → Option (Option D)
  | .lst d => (lstOf h d).map fun ds => ds[i]?
  | .tup ds => some ds[i]?
  | .str s => some (s.cps[i]?.map fun c => .str ⟨#[c]⟩)
  | .rng lo n => some (if i < n then some (.int (lo + (i : Nat))) else none)
  | .enm d => (lstOf h d).map fun ds => ds[i]?.map fun x => .tup [.int (i : Nat), x]
  | .zip d e => match lstOf h d, lstOf h e with
    | some xs, some ys => some (match xs[i]?, ys[i]? with | some x, some y => some (.tup [x, y]) | _, _ => none)
    | _, _ => none
def Src.fuel (h : MH) : Src → Nat
  | .lst d => ((lstOf h d).getD []).length + 1
  | .tup ds => ds.length + 1
  | .str s => s.cps.size + 1
  | .rng _ n => n + 1
  | .enm d => ((lstOf h d).getD []).length + 1
  | .zip d _ => ((lstOf h d).getD []).length + 1
structure ItG (K : PySem.W.Frag) (ρ0 : List Addr) (H0 : Hp) (src : Src) (J : It) : Prop where
  stop : ∀ ρ h H i, HR K ρ h H → Kp K ρ0 H0 ρ H → src.get h i = some none → J.stop i H
  go : ∀ ρ h H i d, HR K ρ h H → Kp K ρ0 H0 ρ H → src.get h i = some (some d) → J.go i H ∧ ∀ x H', J.yld i H x H' → HR K ρ h H' ∧ Ext ρ H ρ H' ∧ RV K ρ H' d x
abbrev rSrc (K : PySem.W.Frag) : Rel Src It := fun ρ H s J => ItG K ρ H s J
abbrev MI := Env → MH → R Src
abbrev DenI (X : Cx) (B : WB) (tg e : Expr) (m : MI) := PI X tg e (tR X.K B (rSrc X.K) m)
section
variable {K : PySem.W.Frag} {ρ0 : List Addr} {H0 : Hp}
theorem itg_lst {d : D} {a : Addr} (r : RV K ρ0 H0 d (.ref a)) : ItG K ρ0 H0 (.lst d) (Itl K a) where
  stop := fun ρ h H i R k e => by
    cases q : lstOf h d with
    | none => simp [Src.get, q] at e
    | some ds =>
      simp [Src.get, q] at e
      obtain ⟨b, vs, eb, s, rs⟩ := lstOf_ok R (r.kp k) q
      cases eb
      exact ⟨vs, s, by rw [← rs.length]; exact e⟩
  go := fun ρ h H i d' R k e => by
    cases q : lstOf h d with
    | none => simp [Src.get, q] at e
    | some ds =>
      have e' : ds[i]? = some d' := by simpa [Src.get, q] using e
      obtain ⟨b, vs, eb, s, rs⟩ := lstOf_ok R (r.kp k) q
      cases eb
      obtain ⟨v, h1, h2⟩ := rs.get e'
      refine ⟨⟨vs, v, s, h1⟩, ?_⟩
      rintro x H' ⟨rfl, hx⟩
      have := hx vs s
      rw [h1] at this; cases this
      exact ⟨R, Ext.refl, h2⟩
theorem itg_tup {ds : List D} {a : Addr} (r : RV K ρ0 H0 (.tup ds) (.ref a)) : ItG K ρ0 H0 (.tup ds) (Itt K a) where
  stop := fun ρ h H i R k e => by
    simp [Src.get] at e
    cases r.kp k with
    | tup ea rs => exact ⟨_, SqT.tup ea, by rw [← rs.length]; exact e⟩
  go := fun ρ h H i d' R k e => by
    have e' : ds[i]? = some d' := by simpa [Src.get] using e
    cases r.kp k with
    | @tup _ _ vs ea rs =>
      obtain ⟨v, h1, h2⟩ := rs.get e'
      refine ⟨⟨vs, v, SqT.tup ea, h1⟩, ?_⟩
      rintro x H' ⟨rfl, hx⟩
      have := hx vs (SqT.tup ea)
      rw [h1] at this; cases this
      exact ⟨R, Ext.refl, h2⟩
theorem itg_rng {lo : Int} {n : Nat} : ItG K ρ0 H0 (.rng lo n) (Itr lo n) where
  stop := fun ρ h H i R k e => by
    by_cases q : i < n
    · simp [Src.get, q] at e
    · exact Nat.le_of_not_lt q
  go := fun ρ h H i d' R k e => by
    by_cases q : i < n
    · simp [Src.get, q] at e
      subst e
      refine ⟨q, ?_⟩
      rintro x H' ⟨rfl, rfl⟩
      exact ⟨R, Ext.refl, .int _⟩
    · simp [Src.get, q] at e
theorem itg_str {s : Str} : ItG K ρ0 H0 (.str s) (Its s) where
  stop := fun ρ h H i R k e => by
    simp [Src.get] at e
    exact e
  go := fun ρ h H i d' R k e => by
    simp only [Src.get, Option.some.injEq, Option.map_eq_some_iff] at e
    obtain ⟨c, h1, rfl⟩ := e
    refine ⟨(Array.getElem?_eq_some_iff.mp h1).1, ?_⟩
    rintro x H' ⟨rfl, c', h2, rfl⟩
    rw [h1] at h2; cases h2
    exact ⟨R, Ext.refl, .str _⟩
theorem itg_enm {d : D} {a : Addr} (r : RV K ρ0 H0 d (.ref a)) : ItG K ρ0 H0 (.enm d) (Ite K a) where
  stop := fun ρ h H i R k e => by
    cases q : lstOf h d with
    | none => simp [Src.get, q] at e
    | some ds =>
      simp [Src.get, q] at e
      obtain ⟨b, vs, eb, s, rs⟩ := lstOf_ok R (r.kp k) q
      cases eb
      exact ⟨vs, s, by rw [← rs.length]; exact e⟩
  go := fun ρ h H i d' R k e => by
    cases q : lstOf h d with
    | none => simp [Src.get, q] at e
    | some ds =>
      simp only [Src.get, q, Option.map_some, Option.some.injEq, Option.map_eq_some_iff] at e
      obtain ⟨y, h0, rfl⟩ := e
      obtain ⟨b, vs, eb, s, rs⟩ := lstOf_ok R (r.kp k) q
      cases eb
      obtain ⟨v, h1, h2⟩ := rs.get h0
      refine ⟨⟨vs, v, s, h1⟩, ?_⟩
      rintro x H' ⟨T, x', rfl, hT, rfl, hx⟩
      have := hx vs s
      rw [h1] at this; cases this
      exact ⟨R.new hT, Ext.new hT, rv_newT R (.cons (.int _) (.cons h2 .nil)) hT⟩
theorem itg_zip {d e : D} {a b : Addr} (r : RV K ρ0 H0 d (.ref a)) (r' : RV K ρ0 H0 e (.ref b)) : ItG K ρ0 H0 (.zip d e) (Itz K a b) where
  stop := fun ρ h H i R k g => by
    simp only [Src.get] at g
    split at g
    · rename_i xs ys q1 q2
      obtain ⟨a', vs, eb, s, rs⟩ := lstOf_ok R (r.kp k) q1
      cases eb
      obtain ⟨b', ws, eb, s', rs'⟩ := lstOf_ok R (r'.kp k) q2
      cases eb
      refine ⟨vs, ws, s, s', ?_⟩
      rw [← rs.length, ← rs'.length]
      split at g
      · cases g
      · rename_i hh
        by_cases h1 : xs.length ≤ i
        · exact .inl h1
        · by_cases h2 : ys.length ≤ i
          · exact .inr h2
          · exact absurd (List.getElem?_eq_getElem (Nat.lt_of_not_le h2)) (hh _ _ (List.getElem?_eq_getElem (Nat.lt_of_not_le h1)))
    · cases g
  go := fun ρ h H i d' R k g => by
    simp only [Src.get] at g
    split at g
    · rename_i xs ys q1 q2
      obtain ⟨a', vs, eb, s, rs⟩ := lstOf_ok R (r.kp k) q1
      cases eb
      obtain ⟨b', ws, eb, s', rs'⟩ := lstOf_ok R (r'.kp k) q2
      cases eb
      split at g
      · rename_i x y hx hy
        cases g
        obtain ⟨v, h1, h2⟩ := rs.get hx
        obtain ⟨w, h3, h4⟩ := rs'.get hy
        refine ⟨⟨vs, ws, v, w, s, s', h1, h3⟩, ?_⟩
        rintro x H' ⟨T, x', y', rfl, hT, rfl, hx', hy'⟩
        have z1 := hx' vs s
        have z2 := hy' ws s'
        rw [h1] at z1; cases z1
        rw [h3] at z2; cases z2
        exact ⟨R.new hT, Ext.new hT, rv_newT R (.cons h2 (.cons h4 .nil)) hT⟩
      · cases g
    · cases g
end
section
variable {X : Cx} {B : WB} {tg e e2 : Expr} {me me2 : M} {ms : MA} {p pos tpos : Pos}
/-- for x in a list -/
def iL (m : M) : MI := fun env h => (m env h).bind fun x h1 => match lstOf h1 x with
  | some _ => .ok (.lst x) h1
  | none => .no
theorem good_src {K : PySem.W.Frag} {σ : St} {ρ : List Addr} {H : Hp} {h : MH} {s : Src} {J : It} {Q : It → Hp → Prop} (g : Good K B (rSrc K) σ ρ H Q (.ok s h)) (R : HR K ρ h H) (i : ItG K ρ H s J) : Q J H := g.ok0 R i
theorem deni_lst (he : Den X B e me) : DenI X B tg e (iL me) :=
  PI.imp (pi_list he) fun σ H Q ⟨ρ, h, env, R, E, g⟩ => (tR_bind ⟨R, E⟩ g).imp fun v H1 ⟨ρ1, h1, x, A1, e1, rx, g1⟩ => by
    split at g1
    · rename_i ds q
      obtain ⟨a, vs, rfl, s, rs⟩ := lstOf_ok A1.R rx q
      exact ⟨a, rfl, ⟨vs, s⟩, good_src g1 A1.R (itg_lst rx)⟩
    · exact g1.elim
def iT (m : M) : MI := fun env h => (m env h).bind fun x h1 => match x with
  | .tup ds => .ok (.tup ds) h1
  | _ => .no
theorem deni_tup (he : Den X B e me) : DenI X B tg e (iT me) :=
  PI.imp (pi_tup he) fun σ H Q ⟨ρ, h, env, R, E, g⟩ => (tR_bind ⟨R, E⟩ g).imp fun v H1 ⟨ρ1, h1, x, A1, e1, rx, g1⟩ => by
    split at g1
    · cases rx with
      | tup q r => exact ⟨_, rfl, ⟨_, SqT.tup q⟩, good_src g1 A1.R (itg_tup (.tup q r))⟩
    · exact g1.elim
def iS (m : M) : MI := fun env h => (m env h).bind fun x h1 => match x with
  | .str s => .ok (.str s) h1
  | _ => .no
theorem deni_str (he : Den X B e me) : DenI X B tg e (iS me) :=
  PI.imp (pi_str he) fun σ H Q ⟨ρ, h, env, R, E, g⟩ => (tR_bind ⟨R, E⟩ g).imp fun v H1 ⟨ρ1, h1, x, A1, e1, rx, g1⟩ => by
    split at g1
    · cases rx; exact ⟨_, rfl, good_src g1 A1.R itg_str⟩
    · exact g1.elim
def CRng (j : Int) : Prop := j.natAbs ≤ 1000000
instance (j : Int) : Decidable (CRng j) := inferInstanceAs (Decidable (_ ≤ _))
theorem CRng.lo {j : Int} (h : CRng j) : -(2 ^ 62) ≤ j := by unfold CRng at h; omega
theorem CRng.hi {j : Int} (h : CRng j) : j < 2 ^ 62 := by unfold CRng at h; omega
theorem CRng.ok {j : Int} (h0 : -1000000 ≤ j) (h1 : j ≤ 1000000) : CRng j := by unfold CRng; omega
def iR1 (m : M) : MI := fun env h => (m env h).bind fun x h1 => match x with
  | .int j => if CRng j then .ok (.rng 0 j.toNat) h1 else .no
  | _ => .no
/-- one argument, alone -/
theorem args1 (he : DenA X B [e] (aCons me aNil)) : PA X [e] (fun σ H Q => tM X.K B me σ H fun v H1 => Q [v] H1) := PA.imp he fun σ H Q ⟨ρ, h, env, R, E, g⟩ => by
  refine ⟨ρ, h, env, R, E, ?_⟩
  unfold aCons aNil
  cases q : me env h with
  | ok d h' =>
    rw [q] at g
    exact fun ρ' vs H' a b c => by
      cases c with
      | cons r t => cases t; exact g ρ' _ H' a b r
  | er c d h' => rw [q] at g; exact g
  | no => rw [q] at g; exact g
theorem deni_rng1 (hg : Gl X "range") (hm : X.mg "range" = none) (he : DenA X B [e] (aCons me aNil)) (hs : starEach [e] X.env = [(false, eval e X.env)] := by rfl) : DenI X B tg (.Call (.Name "range" p) [e] [] pos) (iR1 me) :=
  PI.imp (pi_range1 hg hm (args1 he) hs) fun σ H Q ⟨ρ, h, env, R, E, g⟩ => (tR_bind ⟨R, E⟩ g).imp fun v H1 ⟨ρ1, h1, x, A1, e1, rx, g1⟩ => by
    split at g1
    · obtain ⟨hl, g2⟩ := good_if' g1
      cases rx; exact ⟨_, rfl, hl.lo, hl.hi, good_src g2 A1.R itg_rng⟩
    · exact g1.elim
def iR2 (m m2 : M) : MI := fun env h => (m env h).bind fun x h1 => (m2 env h1).bind fun y h2 => match x, y with
  | .int i, .int j => if CRng i ∧ CRng j then .ok (.rng i (j - i).toNat) h2 else .no
  | _, _ => .no
theorem args2 {B : WB} (he : DenA X B [e, e2] (aCons me (aCons me2 aNil))) : PA X [e, e2] (fun σ H Q => tMs X.K B (aCons me (aCons me2 aNil)) σ H fun vs H1 => Q vs H1) := PA.imp he fun σ H Q g => g
theorem deni_rng2 (hg : Gl X "range") (hm : X.mg "range" = none) (he : DenA X B [e, e2] (aCons me (aCons me2 aNil))) (hs : starEach [e, e2] X.env = [(false, eval e X.env), (false, eval e2 X.env)] := by rfl) (hs2 : starEach [e2] X.env = [(false, eval e2 X.env)] := by rfl) :
    DenI X B tg (.Call (.Name "range" p) [e, e2] [] pos) (iR2 me me2) :=
  PI.imp (pi_range2 hg hm he hs hs2) fun σ H Q ⟨ρ, h, env, R, E, g⟩ => by
    have g' : Good X.K B (rSrc X.K) σ ρ H Q ((aCons me (aCons me2 aNil) env h).bind fun xs h2 => match xs with
      | [.int i, .int j] => if CRng i ∧ CRng j then .ok (.rng i (j - i).toNat) h2 else .no
      | _ => .no) := by
      cases q1 : me env h with
      | ok x h1 =>
        cases q2 : me2 env h1 with
        | ok y h2 =>
          simp only [iR2, aCons, aNil, q1, q2, MP.R.bind_ok] at g ⊢
          cases x <;> cases y <;> exact g
        | er c d h' => simp only [iR2, aCons, aNil, q1, q2, MP.R.bind_ok, MP.R.bind_er] at g ⊢; exact g
        | no => simp only [iR2, aCons, aNil, q1, q2, MP.R.bind_ok, MP.R.bind_no] at g ⊢; exact g
      | er c d h' => simp only [iR2, aCons, aNil, q1, MP.R.bind_er] at g ⊢; exact g
      | no => simp only [iR2, aCons, aNil, q1, MP.R.bind_no] at g ⊢; exact g
    exact (tR_bind ⟨R, E⟩ g').imp fun vs H1 ⟨ρ1, h1, xs, A1, e1, rx, g1⟩ => by
      split at g1
      · obtain ⟨hl, g2⟩ := good_if' g1
        cases rx with
        | cons r t =>
          cases t with
          | cons r' t' =>
            cases t'; cases r; cases r'
            exact ⟨_, _, rfl, ⟨hl.1.lo, hl.1.hi, hl.2.lo, hl.2.hi⟩, good_src g2 A1.R itg_rng⟩
      · exact g1.elim
def iEn (m : M) : MI := fun env h => (m env h).bind fun x h1 => match lstOf h1 x with
  | some _ => .ok (.enm x) h1
  | none => .no
theorem deni_enum {elts : List Expr} {kk : Nat} (hg : Gl X "enumerate") (hm : X.mg "enumerate" = none) (he : DenA X B [e] (aCons me aNil)) (hs : starEach [e] X.env = [(false, eval e X.env)] := by rfl) :
    DenI X B (.Tuple elts kk tpos) (.Call (.Name "enumerate" p) [e] [] pos) (iEn me) :=
  PI.imp (pi_enum hg hm (args1 he) hs) fun σ H Q ⟨ρ, h, env, R, E, g⟩ => (tR_bind ⟨R, E⟩ g).imp fun v H1 ⟨ρ1, h1, x, A1, e1, rx, g1⟩ => by
    split at g1
    · rename_i ds q
      obtain ⟨a, vs, rfl, s, rs⟩ := lstOf_ok A1.R rx q
      exact ⟨a, vs, rfl, s, good_src g1 A1.R (itg_enm rx)⟩
    · exact g1.elim
def iZp (m : MA) : MI := fun env h => (m env h).bind fun xs h1 => match xs with
  | [x, y] => (match lstOf h1 x, lstOf h1 y with
    | some _, some _ => .ok (.zip x y) h1
    | _, _ => .no)
  | _ => .no
theorem deni_zip {elts : List Expr} {kk : Nat} (hg : Gl X "zip") (hm : X.mg "zip" = none) (he : DenA X B [e, e2] ms) (hs : starEach [e, e2] X.env = (false, eval e X.env) :: starEach [e2] X.env := by rfl) (hpl : (backTo pos (starEach [e2] X.env)).any (·.1) = false := by rfl) :
    DenI X B (.Tuple elts kk tpos) (.Call (.Name "zip" p) [e, e2] [] pos) (iZp ms) :=
  PI.imp (pi_zip hg hm he hs hpl) fun σ H Q ⟨ρ, h, env, R, E, g⟩ => (tR_bind ⟨R, E⟩ g).imp fun v H1 ⟨ρ1, h1, x, A1, e1, rx, g1⟩ => by
    split at g1
    · split at g1
      · rename_i q1 q2
        cases rx with
        | cons r t =>
          cases t with
          | cons r' t' =>
            cases t'
            obtain ⟨a, vs, rfl, s, rs⟩ := lstOf_ok A1.R r q1
            obtain ⟨b, ws, rfl, s', rs'⟩ := lstOf_ok A1.R r' q2
            exact ⟨a, b, vs, ws, rfl, s, s', good_src g1 A1.R (itg_zip r r')⟩
      · exact g1.elim
    · exact g1.elim
end

/-! ### comprehensions -/
section
variable {K : PySem.W.Frag} {ρ ρ' : List Addr} {H H' : Hp} {h : MH}
/-- an object that was made on the way, not yet a location, is one now -/
theorem kp_adopt {p : Addr} {o : HO} (ht : ∀ xs, H p ≠ some (.tup xs)) (hf : ∀ ob xs, H p ≠ some (.frz ob (.lst xs))) : Kp K ρ H (ρ ++ [p]) (upd H p o) where
  pre := fun n a e => by
    have := (List.getElem?_eq_some_iff.mp e).1
    rw [List.getElem?_append_left this]; exact e
  tup := fun a xs e => by rw [upd_ne (fun z => ht xs (by rw [← z]; exact e))]; exact e
  frz := fun a ob xs e => by rw [upd_ne (fun z => hf ob xs (by rw [← z]; exact e))]; exact e
theorem HR.adopt {p : Addr} {o : HO} {mo : MO} (R : HR K ρ h H) (hp : p ∉ ρ) (ht : ∀ xs, H p ≠ some (.tup xs)) (hf : ∀ ob xs, H p ≠ some (.frz ob (.lst xs))) (r : OR K (ρ ++ [p]) (upd H p o) p mo) :
    HR K (ρ ++ [p]) (h ++ [mo]) (upd H p o) where
  len := by simp [R.len]
  nd := by
    refine List.nodup_append.mpr ⟨R.nd, by simp, fun a ha b hb => ?_⟩
    have hb' : b = p := by simpa using hb
    subst hb'
    exact fun z => hp (by rw [← z]; exact ha)
  ob := fun n a mo' e e' => by
    by_cases hn : n < ρ.length
    · rw [List.getElem?_append_left hn] at e
      rw [List.getElem?_append_left (by rw [← R.len]; exact hn)] at e'
      exact (R.ob n a mo' e e').kp (kp_adopt ht hf) (upd_ne fun z => hp (by rw [← z]; exact List.mem_of_getElem? e))
    · have hz : n = ρ.length := by
        have := (List.getElem?_eq_some_iff.mp e).1
        simp at this; omega
      subst hz
      rw [List.getElem?_append_right (Nat.le_refl _)] at e
      rw [R.len, List.getElem?_append_right (Nat.le_refl _)] at e'
      simp at e e'
      subst e e'
      exact r
/-- a thing beside the locations changes -/
theorem HR.beside {p : Addr} {o : HO} (R : HR K ρ h H) (hp : p ∉ ρ) (ht : ∀ xs, H p ≠ some (.tup xs)) (hf : ∀ ob xs, H p ≠ some (.frz ob (.lst xs))) : HR K ρ h (upd H p o) where
  len := R.len
  nd := R.nd
  ob := fun n a mo e e' => (R.ob n a mo e e').kp ⟨fun _ _ q => q, (kp_adopt (K := K) (ρ := ρ) (o := o) ht hf).tup, (kp_adopt (K := K) (ρ := ρ) (o := o) ht hf).frz⟩ (upd_ne fun z => hp (by rw [← z]; exact List.mem_of_getElem? e))
theorem Ext.beside {ρ0 : List Addr} {H0 : Hp} {p : Addr} {o : HO} (x : Ext ρ0 H0 ρ H) (hp : H0 p = none) : Ext ρ0 H0 ρ (upd H p o) where
  pre := x.pre
  keep := fun a u e ha => by rw [upd_ne (ne_of_none e hp)]; exact x.keep a u e ha
  th := fun a u e => by rw [upd_ne (ne_of_none e hp)]; exact x.th a u e
theorem Ext.adopt {ρ0 : List Addr} {H0 : Hp} {p : Addr} {o : HO} (x : Ext ρ0 H0 ρ H) (hp : H0 p = none) : Ext ρ0 H0 (ρ ++ [p]) (upd H p o) where
  pre := by
    obtain ⟨m, rfl, hm⟩ := x.pre
    refine ⟨m ++ [p], by simp, fun a ha => ?_⟩
    rcases List.mem_append.mp ha with ha | ha
    · exact hm a ha
    · have : a = p := by simpa using ha
      subst this; exact hp
  keep := fun a u e ha => by rw [upd_ne (ne_of_none e hp)]; exact x.keep a u e ha
  th := fun a u e => by rw [upd_ne (ne_of_none e hp)]; exact x.th a u e
theorem Ext.notin {ρ0 : List Addr} {H0 : Hp} {p : Addr} {u : HO} (x : Ext ρ0 H0 ρ H) (e : H0 p = some u) (hp : p ∉ ρ0) : p ∉ ρ := fun ha => by
  obtain ⟨m, rfl, hm⟩ := x.pre
  rcases List.mem_append.mp ha with ha | ha
  · exact hp ha
  · rw [hm p ha] at e; cases e
end
def wipeE (env : Env) : List Nat → Env
  | [] => env
  | v :: vs => (wipeE env vs).set v none
theorem ER.wipe {K : PySem.W.Frag} {ρ : List Addr} {H : Hp} {env : Env} {σ : St} (r : ER K ρ H env σ) : ∀ vs : List Nat, ER K ρ H (wipeE env vs) (wipe σ vs)
  | [] => r
  | v :: vs => (ER.wipe r vs).unset v
/-- the loop of a comprehension: fuel, the turn's number, what is made so far -/
def loopC (src : Src) (tg : Tg) (cond : MB) (elt : M) (e0 : Env) : Nat → Nat → List D → MH → R (List D)
  | 0, _, _, _ => .no
  | f + 1, i, acc, h => match src.get h i with
    | none => .no
    | some none => .ok acc h
    | some (some d) => match tg.put d e0 with
      | none => .no
      | some e1 => (cond e1 h).bind fun b h2 => if b = true then (elt e1 h2).bind fun y h3 => if acc.length < sizeLine then loopC src tg cond elt e0 f (i + 1) (acc ++ [y]) h3 else .no
        else loopC src tg cond elt e0 f (i + 1) acc h2
def mLc (it : MI) (tg : Tg) (cond : MB) (elt : M) (vs : List Nat) : M := fun env h => (it env h).bind fun src h1 => (loopC src tg cond elt (wipeE env vs) (src.fuel h1) 0 [] h1).bind fun acc h2 => newL acc h2
def bYes : MB := fun _ h => .ok true h
section
variable {K : PySem.W.Frag} {B : WB}
theorem Good.bindOk {α β γ : Type} {rel : Rel α β} {σ : St} {ρ : List Addr} {H : Hp} {Q : β → Hp → Prop} {r : R γ} {k : γ → MH → R α} {a : γ} {h : MH} (g : Good K B rel σ ρ H Q (r.bind k)) (e : r = .ok a h) : Good K B rel σ ρ H Q (k a h) := by
  rw [e] at g; exact g
/-- the turn's invariant -/
structure WC (K : PySem.W.Frag) (B : WB) (σ : St) (ρ1 : List Addr) (H1 : Hp) (p : Addr) (src : Src) (tg : Tg) (cond : MB) (elt : M) (e0 : Env) (Q : VK) (i m : Nat) (H : Hp) : Prop where
  ex : ∃ ρ h acc vacc, HR K ρ h H ∧ Ext ρ1 H1 ρ H ∧ p ∉ ρ ∧ H p = some (.lst vacc) ∧ RVs K ρ H acc vacc ∧
    Good K B (rD K) σ ρ1 H1 Q ((loopC src tg cond elt e0 m i acc h).bind fun acc h2 => newL acc h2)
end
section
variable {X : Cx} {B : WB} {K : PySem.W.Frag}
theorem lc_imp {it : MI} {tg : Tg} {cond : MB} {elt : M} {vs : List Nat} (hs : ∀ i ∈ tg.slots, i ∈ vs) (nb : ∀ c d σ H, ¬ B c d σ H) :
    ∀ σ H Q, tM K B (mLc it tg cond elt vs) σ H Q → tLc (tR K B (rSrc K) it) (tg.g K) (tMB K B cond) (tM K B elt) vs σ H Q := fun σ H Q ⟨ρ, h, env, R, E, g⟩ =>
  (tR_bind ⟨R, E⟩ g).imp fun J H1 ⟨ρ1, h1, src, A1, e1, I, g1⟩ => by
    intro p hp
    have hnt : ∀ xs, (some (.lst xs) : Option HO) ≠ none := by simp
    refine ⟨fun i m H => WC K B σ ρ1 H1 p src tg cond elt (wipeE env vs) Q i m H, ⟨src.fuel h1, ⟨ρ1, h1, [], [], A1.R.new hp, Ext.new hp, ?_, upd_same, .nil, g1⟩⟩, ?_⟩
    · intro ha
      obtain ⟨o, q⟩ := A1.R.has ha
      rw [hp] at q; cases q
    · rintro i m H2 ⟨ρ2, h2, acc, vacc, R2, x2, hn, hv, rv, g2⟩
      have k2 : Kp K ρ1 H1 ρ2 H2 := A1.R.kp x2
      have E2 : ER K ρ2 H2 (wipeE env vs) (wipe σ vs) := (A1.E.ext A1.R x2).wipe vs
      have t1 : ∀ {H3 : Hp} {va : List V}, H3 p = some (.lst va) → ∀ xs, H3 p ≠ some (.tup xs) := fun e xs z => by rw [e] at z; cases z
      have t2 : ∀ {H3 : Hp} {va : List V}, H3 p = some (.lst va) → ∀ ob xs, H3 p ≠ some (.frz ob (.lst xs)) := fun e ob xs z => by rw [e] at z; cases z
      cases m with
      | zero => exact g2.elim
      | succ m =>
        unfold loopC at g2
        cases q : src.get h2 i with
        | none => rw [q] at g2; exact g2.elim
        | some od =>
          cases od with
          | none =>
            rw [q] at g2
            refine .inl ⟨I.stop _ _ _ _ R2 k2 q, ?_⟩
            have e' : upd H2 p (.lst vacc) = H2 := by
              funext b
              by_cases hb : b = p
              · rw [hb, upd_same, hv]
              · rw [upd_ne hb]
            have k3 := kp_adopt (K := K) (ρ := ρ2) (p := p) (o := .lst vacc) (t1 hv) (t2 hv)
            have R3 : HR K (ρ2 ++ [p]) (h2 ++ [.lst acc]) H2 := by
              have := R2.adopt (o := .lst vacc) (mo := .lst acc) hn (t1 hv) (t2 hv) ⟨vacc, upd_same, rv.kp k3⟩
              rw [e'] at this; exact this
            have x3 : Ext ρ1 H1 (ρ2 ++ [p]) H2 := by
              have := Ext.adopt (o := .lst vacc) x2 hp
              rw [e'] at this; exact this
            exact Good.ok g2 R3 x3 (rv_newL R2)
          | some d =>
            rw [q] at g2
            obtain ⟨go, yld⟩ := I.go _ _ _ _ _ R2 k2 q
            refine .inr ⟨go, fun H' => ∃ m', m' < m + 1 ∧ WC K B σ ρ1 H1 p src tg cond elt (wipeE env vs) Q (i + 1) m' H', fun H' z => z, ?_⟩
            intro x H3 hy
            obtain ⟨R3, x3, rx⟩ := yld x H3 hy
            have hv3 : H3 p = some (.lst vacc) := x3.keep p _ hv hn
            have E3 := E2.ext R2 x3
            have rv3 := rv.ext R2 x3
            have x13 : Ext ρ1 H1 ρ2 H3 := x2.trans x3
            dsimp only at g2
            cases qp : tg.put d (wipeE env vs) with
            | none => rw [qp] at g2; exact g2.elim
            | some env1 =>
              rw [qp] at g2
              dsimp only at g2
              refine Tg.put_ok E3 rx qp fun σ' E4 hl hk => ⟨?_, ?_⟩
              · rw [wipe_of (hl.trans rfl) (fun j hj => hk j fun z => hj (hs j z)), wipe_wipe]
              · -- the test
                -- from here on results are asked from (ρ1, H1)
                have g4 : Good K B (rD K) σ ρ1 H1 Q ((cond env1 h2).bind fun b h4 => (if b = true then (elt env1 h4).bind fun y h5 => if acc.length < sizeLine then loopC src tg cond elt (wipeE env vs) m (i + 1) (acc ++ [y]) h5 else .no
                    else loopC src tg cond elt (wipeE env vs) m (i + 1) acc h4).bind fun acc h2 => newL acc h2) := by
                  rw [MP.R.bind_assoc] at g2; exact g2
                refine ⟨ρ2, h2, env1, R3, E4, ?_⟩
                cases qc : cond env1 h2 with
                | no => rw [qc] at g4; exact g4
                | er c d e => rw [qc] at g4; exact fun ρ' y dx H' a b c e => absurd (g4 ρ' y dx H' a (x13.trans b) c e) (nb _ _ _ _)
                | ok b h4 =>
                  rw [qc] at g4
                  rintro ρ4 b' H4 R4 x4 rfl
                  have hn3 : p ∉ ρ4 := x4.notin hv3 hn
                  have hv4 : H4 p = some (.lst vacc) := x4.keep p _ hv3 hn
                  have x14 := x13.trans x4
                  have rv4 := rv3.ext R3 x4
                  cases b with
                  | false =>
                    refine iteF ?_
                    exact ⟨m, Nat.lt_succ_self m, ⟨ρ4, h4, acc, vacc, R4, x14, hn3, hv4, rv4, g4⟩⟩
                  | true =>
                    refine iteT ?_
                    refine ⟨ρ4, h4, env1, R4, E4.ext R3 x4, ?_⟩
                    have g5 : Good K B (rD K) σ ρ1 H1 Q (((elt env1 h4).bind fun y h5 => if acc.length < sizeLine then loopC src tg cond elt (wipeE env vs) m (i + 1) (acc ++ [y]) h5 else .no).bind fun acc h2 => newL acc h2) := g4
                    rw [MP.R.bind_assoc] at g5
                    cases qe : elt env1 h4 with
                    | no => rw [qe] at g5; exact g5
                    | er c d e => rw [qe] at g5; exact fun ρ' y dx H' a b c e => absurd (g5 ρ' y dx H' a (x14.trans b) c e) (nb _ _ _ _)
                    | ok y h5 =>
                      rw [qe] at g5
                      intro ρ5 v5 H5 R5 x5 r5
                      have hn5 : p ∉ ρ5 := x5.notin hv4 hn3
                      have hv5 : H5 p = some (.lst vacc) := x5.keep p _ hv4 hn3
                      have rv5 := rv4.ext R4 x5
                      have g6 : Good K B (rD K) σ ρ1 H1 Q ((if acc.length < sizeLine then loopC src tg cond elt (wipeE env vs) m (i + 1) (acc ++ [y]) h5 else .no).bind fun acc h2 => newL acc h2) := g5
                      by_cases hz : acc.length < sizeLine
                      · rw [if_pos hz] at g6
                        have kb : Kp K ρ5 H5 ρ5 (upd H5 p (.lst (vacc ++ [v5]))) := ⟨fun _ _ q => q, (kp_adopt (K := K) (ρ := ρ5) (t1 hv5) (t2 hv5)).tup, (kp_adopt (K := K) (ρ := ρ5) (t1 hv5) (t2 hv5)).frz⟩
                        refine ⟨vacc, hv5, by rw [← rv.length]; exact hz, m, Nat.lt_succ_self m, ⟨ρ5, h5, acc ++ [y], vacc ++ [v5], R5.beside hn5 (t1 hv5) (t2 hv5), (x14.trans x5).beside hp, hn5, upd_same, (rv5.append (.cons r5 .nil)).kp kb, g6⟩⟩
                      · rw [if_neg hz] at g6; exact g6.elim
end

section
variable {X : Cx} {B : WB} {elt iter tge : Expr} {ifs : List Expr} {scope : Scope} {own : List (Str × Nat)} {pos spos : Pos} {it : MI} {tg : Tg} {cond : MB} {me : M}
abbrev DenTs (X : Cx) (B : WB) (es : List Expr) (m : MB) := PTs X es (tMB X.K B m)
theorem PTs.imp {X : Cx} {e : List Expr} {t t' : TT} (p : PTs X e t) (f : ∀ σ H Q, t' σ H Q → t σ H Q) : PTs X e t' := ⟨fun pins s σ H Q I g => p.run pins s σ H Q I (f σ H Q g)⟩
theorem dents_nil : DenTs X B [] bYes := PTs.imp pts_nil fun σ H Q ⟨ρ, h, env, R, E, g⟩ => g.ok0 R rfl
theorem dents_one {c : Expr} {m : MB} (h : DenT X B c m) : DenTs X B [c] m := pts_one h
theorem den_lc (nb : ∀ c d σ H, ¬ B c d σ H) (hs : ∀ i ∈ tg.slots, i ∈ own.map (·.2)) (hc : X.calm = true) (hN : X.N.Nodup) (hi : DenI X B tge iter it) (ok : BlkOk X.N X.env.scope scope own)
    (hg : ∀ (s : Shared) (H : Hp) (C : Addr) (cl : List (Str × Addr)) (fp : List Addr), DenG (X.blk s H scope (compEnvC scope cl C X.env) fp) tge tg) (ht : ∀ (s : Shared) (H : Hp) (C : Addr) (cl : List (Str × Addr)) (fp : List Addr), DenTs (X.blk s H scope (compEnvC scope cl C X.env) fp) B ifs cond)
    (he : ∀ (s : Shared) (H : Hp) (C : Addr) (cl : List (Str × Addr)) (fp : List Addr), Den (X.blk s H scope (compEnvC scope cl C X.env) fp) B elt me) (hf : ∀ x, foldedSetIterable iter X.env x = pure x := by intro _; rfl) :
    Den X B (.ListComp elt [⟨tge, iter, ifs, 0⟩] scope pos) (mLc it tg cond me (own.map (·.2))) :=
  PE.imp (pe_lc hc hN hi ok hg ht he hf) (lc_imp hs nb)
end

/-! ### statements -/
abbrev DenS (X : Cx) (B : WB) (st : Stmt) (s : S) := PS X st (tS X.K B s)
abbrev DenSs (X : Cx) (B : WB) (st : List Stmt) (s : S) := PSs X st (tS X.K B s)
def sNop : S := fun env h => .nx env h
def sSeq (s t : S) : S := fun env h => match s env h with
  | .nx e h => t e h
  | r => r
def sSet (i : Nat) (m : M) : S := fun env h => (m env h).st env fun d h1 => .nx (env.set i (some d)) h1
def sTg (t : Tg) (m : M) : S := fun env h => (m env h).st env fun d h1 => match t.put d env with
  | some e => .nx e h1
  | none => .no
def sDrop (m : M) : S := fun env h => (m env h).st env fun _ h1 => .nx env h1
def sRet (m : M) : S := fun env h => (m env h).st env fun d h1 => .rt d h1
def sRetN : S := fun _ h => .rt .non h
def sIf (c : MB) (a b : S) : S := fun env h => (c env h).st env fun x h1 => if x = true then a env h1 else b env h1
def sBrk : S := fun env h => .bk env h
def sCont : S := fun env h => .ct env h
def sNo : S := fun _ _ => .no
def loopF (src : Src) (tg : Tg) (body : S) : Nat → Nat → Env → MH → RS
  | 0, _, _, _ => .no
  | f + 1, i, env, h => match src.get h i with
    | none => .no
    | some none => .nx env h
    | some (some d) => match tg.put d env with
      | none => .no
      | some e1 => match body e1 h with
        | .nx e h2 => loopF src tg body f (i + 1) e h2
        | .ct e h2 => loopF src tg body f (i + 1) e h2
        | .bk e h2 => .nx e h2
        | r => r
def sFor (it : MI) (tg : Tg) (body : S) : S := fun env h => (it env h).st env fun src h1 => loopF src tg body (src.fuel h1) 0 env h1
def loopW (c : MB) (body : S) : Nat → Env → MH → RS
  | 0, _, _ => .no
  | f + 1, env, h => (c env h).st env fun x h1 => if x = true then (match body env h1 with
        | .nx e h2 => loopW c body f e h2
        | .ct e h2 => loopW c body f e h2
        | .bk e h2 => .nx e h2
        | r => r) else .nx env h1
/-- a while with a bound on its turns -/
def sWhile (n : Env → MH → Nat) (c : MB) (body : S) : S := fun env h => loopW c body (n env h) env h
section
variable {X : Cx} {B : WB} {a b c e : Expr} {st : Stmt} {rest p q : List Stmt} {m me : M} {tc : MB} {s t : S} {pos pos' : Pos}
theorem denss_nil : DenSs X B [] sNop := PSs.imp pss_nil fun D σ H ⟨ρ, h, env, R, E, g⟩ => g ρ σ H R Ext.refl E
theorem denss_cons (h1 : DenS X B st s) (h2 : DenSs X B rest t) : DenSs X B (st :: rest) (sSeq s t) :=
  PSs.imp (pss_cons h1 h2) fun D σ H ⟨ρ, h, env, R, E, g⟩ => by
    refine ⟨ρ, h, env, R, E, ?_⟩
    unfold sSeq at g
    cases q : s env h with
    | nx e h' => rw [q] at g; exact fun ρ' σ' H' a b c => ⟨ρ', h', e, a, c, GoodS.mv (show GoodS X.K B D σ ρ H (t e h') from g) b⟩
    | rt d h' => rw [q] at g; exact g
    | bk e h' => rw [q] at g; exact g
    | ct e h' => rw [q] at g; exact g
    | er c d e h' => rw [q] at g; exact g
    | no => rw [q] at g; exact g
theorem denss_one (h1 : DenS X B st s) : DenSs X B [st] s := pss_one h1
theorem dens_set {i : Nat} {x : Str} (hN : X.N.Nodup) (hi : X.N[i]? = some x) (hx : Loc X.env.scope x) (he : Den X B e me) (hs : swapsWith e (some (.Name x pos')) pos.line X.env = pure false := by rfl) (hf : X.fn x = true ∨ X.env.scope.names.lookup x = some .local := by first | exact .inl rfl | exact .inr rfl | assumption) :
    DenS X B (.Assign [.Name x pos'] e pos) (sSet i me) :=
  PS.imp (ps_set hN hi hx he hs hf) fun D σ H ⟨ρ, h, env, R, E, g⟩ => (tR_st ⟨R, E⟩ g).imp fun v H1 ⟨ρ1, h1, x, A1, e1, rx, g1⟩ => g1 ρ1 _ H1 A1.R Ext.refl (A1.E.set _ rx)
/-- a store whose target's reading is known -/
theorem dens_setLc {i : Nat} {y : Str} {py : Pos} {elt iter tge : Expr} {ifs : List Expr} {scope : Scope} {own : List (Str × Nat)} {spos : Pos} {it : MI} {tg : Tg} {cond : MB} {me : M}
    (nb : ∀ c d σ H, ¬ B c d σ H) (hs : ∀ i ∈ tg.slots, i ∈ own.map (·.2)) (hc : X.calm = true) (hN : X.N.Nodup) (hy : X.N[i]? = some y) (hyl : X.env.scope.names.lookup y = some .local)
    (hsw : swapsWith (.ListComp elt [⟨tge, iter, ifs, 0⟩] scope pos) (some (.Name y py)) spos.line X.env = pure true) (hi : DenI X B tge iter it) (ok : BlkOk X.N X.env.scope scope own)
    (hg : ∀ (s : Shared) (H : Hp) (C : Addr) (cl : List (Str × Addr)) (fp : List Addr), DenG (X.blk s H scope (compEnvC scope cl C X.env) fp) tge tg) (ht : ∀ (s : Shared) (H : Hp) (C : Addr) (cl : List (Str × Addr)) (fp : List Addr), DenTs (X.blk s H scope (compEnvC scope cl C X.env) fp) B ifs cond)
    (he : ∀ (s : Shared) (H : Hp) (C : Addr) (cl : List (Str × Addr)) (fp : List Addr), Den (X.blk s H scope (compEnvC scope cl C X.env) fp) B elt me) (hf : ∀ x, foldedSetIterable iter X.env x = pure x := by intro _; rfl) :
    DenS X B (.Assign [.Name y py] (.ListComp elt [⟨tge, iter, ifs, 0⟩] scope pos) spos) (sSet i (mLc it tg cond me (own.map (·.2)))) :=
  PS.imp (ps_setLc hc hN hy hyl hsw hi ok hg ht he hf) fun D σ H ⟨ρ, h, env, R, E, g⟩ => by
    have t := (tR_st (rel := rD X.K) (m := mLc it tg cond me (own.map (·.2))) ⟨R, E⟩ g)
    exact lc_imp hs nb σ H _ (t.imp fun v H1 ⟨ρ1, h1, x, A1, e1, rx, g1⟩ => g1 ρ1 _ H1 A1.R Ext.refl (A1.E.set _ rx))
theorem dens_tg {tg : Expr} {t : Tg} (he : Den X B e me) (hg : DenG X tg t) (hs : swapsWithSole [tg] e pos.line X.env = pure false := by rfl) (hw : swappedStores [tg] e X.env = pure none := by rfl) (h1 : (assignEach [tg] X.env).map (·.2) = [assign tg X.env] := by rfl) : DenS X B (.Assign [tg] e pos) (sTg t me) :=
  PS.imp (ps_asg he hg hs hw h1) fun D σ H ⟨ρ, h, env, R, E, g⟩ => (tR_st ⟨R, E⟩ g).imp fun v H1 ⟨ρ1, h1, x, A1, e1, rx, g1⟩ => by
    split at g1
    · rename_i e' q
      exact Tg.put_ok A1.E rx q fun σ' E' _ _ => g1 ρ1 _ H1 A1.R Ext.refl E'
    · exact g1.elim
theorem dens_drop (he : Den X B e me) (hs : swapsWith e none pos.line X.env = pure false := by rfl) : DenS X B (.Expr e pos) (sDrop me) :=
  PS.imp (ps_expr he hs) fun D σ H ⟨ρ, h, env, R, E, g⟩ => (tR_st ⟨R, E⟩ g).imp fun v H1 ⟨ρ1, h1, x, A1, e1, rx, g1⟩ => g1 ρ1 _ H1 A1.R Ext.refl A1.E
theorem dens_ret (he : Den X B e me) : DenS X B (.Return (some e) pos) (sRet me) :=
  PS.imp (ps_ret he) fun D σ H ⟨ρ, h, env, R, E, g⟩ => (tR_st ⟨R, E⟩ g).imp fun v H1 ⟨ρ1, h1, x, A1, e1, rx, g1⟩ => g1 ρ1 _ H1 A1.R Ext.refl rx
theorem dens_retN : DenS X B (.Return none pos) sRetN := PS.imp ps_retN fun D σ H ⟨ρ, h, env, R, E, g⟩ => g ρ _ H R Ext.refl .non
theorem dens_if (hc : DenT X B c tc) (ha : DenSs X B p s) (hb : DenSs X B q t) : DenS X B (.If c p q pos) (sIf tc s t) :=
  PS.imp (ps_if hc ha hb) fun D σ H ⟨ρ, h, env, R, E, g⟩ => (tR_st ⟨R, E⟩ g).imp fun v H1 ⟨ρ1, h1, x, A1, e1, rx, g1⟩ => by
    subst rx
    cases x with
    | true => exact iteT ⟨ρ1, h1, env, A1.R, A1.E, g1⟩
    | false => exact iteF ⟨ρ1, h1, env, A1.R, A1.E, g1⟩
theorem dens_never : DenS X B st sNo := PS.imp ps_never fun D σ H ⟨ρ, h, env, R, E, g⟩ => g
theorem dens_pass : DenS X B (.Pass pos) sNop := PS.imp ps_pass fun D σ H ⟨ρ, h, env, R, E, g⟩ => g ρ σ H R Ext.refl E
theorem dens_brk : DenS X B (.Break pos) sBrk := PS.imp ps_break fun D σ H ⟨ρ, h, env, R, E, g⟩ => g ρ σ H R Ext.refl E
theorem dens_cont : DenS X B (.Continue pos) sCont := PS.imp ps_continue fun D σ H ⟨ρ, h, env, R, E, g⟩ => g ρ σ H R Ext.refl E
theorem GoodS.er_nx {K : PySem.W.Frag} {D D' : Ends} {σ : St} {ρ : List Addr} {H : Hp} {r : RS} (g : GoodS K B D σ ρ H r) (h1 : ∀ σ H, D.nx σ H → D'.nx σ H) (h2 : ∀ v H, D.rt v H → D'.rt v H) (h3 : ∀ σ H, D.bk σ H → D'.bk σ H) (h4 : ∀ σ H, D.ct σ H → D'.ct σ H) : GoodS K B D' σ ρ H r := by
  cases r with
  | nx e h' => exact fun ρ' σ' H' a b c => h1 _ _ (g ρ' σ' H' a b c)
  | rt d h' => exact fun ρ' σ' H' a b c => h2 _ _ (g ρ' σ' H' a b c)
  | bk e h' => exact fun ρ' σ' H' a b c => h3 _ _ (g ρ' σ' H' a b c)
  | ct e h' => exact fun ρ' σ' H' a b c => h4 _ _ (g ρ' σ' H' a b c)
  | er c d e h' => exact g
  | no => exact g
theorem dens_for {tg iter : Expr} {body : List Stmt} {it : MI} {tt : Tg} {s : S} (hp : PassesOwn (model X.prog X.w) X.A X.env X.xe) (hc : X.calm = true) (hi : DenI X B tg iter it) (hg : DenG X tg tt) (hb : DenSs X B body s)
    (hs : ∀ x, foldedSetIterable iter X.env x = pure x := by intro _; rfl) : DenS X B (.For tg iter body [] pos) (sFor it tt s) :=
  PS.imp (ps_for hp hc hi hg hb hs) fun D σ H ⟨ρ, h, env, R, E, g⟩ => (tR_st ⟨R, E⟩ g).imp fun J H1 ⟨ρ1, h1, src, A1, e1, I, g1⟩ => by
    refine ⟨fun i m σ H => ∃ ρ2 h2 env2, HR X.K ρ2 h2 H ∧ Ext ρ1 H1 ρ2 H ∧ ER X.K ρ2 H env2 σ ∧ GoodS X.K B D σ ρ2 H (loopF src tt s m i env2 h2), ⟨src.fuel h1, ρ1, h1, env, A1.R, Ext.refl, A1.E, g1⟩, ?_⟩
    rintro i m σ2 H2 ⟨ρ2, h2, env2, R2, x2, E2, g2⟩
    have k2 : Kp X.K ρ1 H1 ρ2 H2 := A1.R.kp x2
    cases m with
    | zero => exact g2.elim
    | succ m =>
      unfold loopF at g2
      cases q : src.get h2 i with
      | none => rw [q] at g2; exact g2.elim
      | some od =>
        cases od with
        | none => rw [q] at g2; exact .inl ⟨I.stop _ _ _ _ R2 k2 q, g2 ρ2 σ2 H2 R2 Ext.refl E2⟩
        | some d =>
          rw [q] at g2
          obtain ⟨go, yld⟩ := I.go _ _ _ _ _ R2 k2 q
          refine .inr ⟨go, fun σ H => ∃ m', m' < m + 1 ∧ ∃ ρ2 h2 env2, HR X.K ρ2 h2 H ∧ Ext ρ1 H1 ρ2 H ∧ ER X.K ρ2 H env2 σ ∧ GoodS X.K B D σ ρ2 H (loopF src tt s m' (i + 1) env2 h2), fun σ' H' z => z, ?_⟩
          intro x H3 hy
          obtain ⟨R3, x3, rx⟩ := yld x H3 hy
          dsimp only at g2
          cases qp : tt.put d env2 with
          | none => rw [qp] at g2; exact g2.elim
          | some env3 =>
            rw [qp] at g2
            dsimp only at g2
            refine Tg.put_ok (E2.ext R2 x3) rx qp fun σ' E4 hl hk => ?_
            refine ⟨ρ2, h2, env3, R3, E4, ?_⟩
            cases qb : s env3 h2 with
            | nx e h' => rw [qb] at g2; exact fun ρ' σ'' H' a b c => ⟨m, Nat.lt_succ_self m, ρ', h', e, a, (x2.trans x3).trans b, c, GoodS.mv (show GoodS X.K B D σ2 ρ2 H2 (loopF src tt s m (i + 1) e h') from g2) (x3.trans b)⟩
            | ct e h' => rw [qb] at g2; exact fun ρ' σ'' H' a b c => ⟨m, Nat.lt_succ_self m, ρ', h', e, a, (x2.trans x3).trans b, c, GoodS.mv (show GoodS X.K B D σ2 ρ2 H2 (loopF src tt s m (i + 1) e h') from g2) (x3.trans b)⟩
            | bk e h' => rw [qb] at g2; exact fun ρ' σ'' H' a b c => g2 ρ' σ'' H' a (x3.trans b) c
            | rt d h' => rw [qb] at g2; exact fun ρ' v H' a b c => g2 ρ' v H' a (x3.trans b) c
            | er c d e h' => rw [qb] at g2; exact fun ρ' y dx σ'' H' a b c e => g2 ρ' y dx σ'' H' a (x3.trans b) c e
            | no => rw [qb] at g2; exact g2
theorem dens_while {c : Expr} {body : List Stmt} {tc : MB} {s : S} (n : Env → MH → Nat) (hp : PassesOwn (model X.prog X.w) X.A X.env X.xe) (hc : DenT X B c tc) (hb : DenSs X B body s) : DenS X B (.While c body [] pos) (sWhile n tc s) :=
  PS.imp (ps_while hp hc hb) fun D σ H ⟨ρ, h, env, R, E, g⟩ => by
    refine ⟨fun m σ H => ∃ ρ2 h2 env2, HR X.K ρ2 h2 H ∧ ER X.K ρ2 H env2 σ ∧ GoodS X.K B D σ ρ2 H (loopW tc s m env2 h2), ⟨n env h, ρ, h, env, R, E, g⟩, ?_⟩
    rintro m σ2 H2 ⟨ρ2, h2, env2, R2, E2, g2⟩
    cases m with
    | zero => exact g2.elim
    | succ m =>
      unfold loopW at g2
      exact (tR_st ⟨R2, E2⟩ g2).imp fun v H1 ⟨ρ1, h1, x, A1, e1, rx, g1⟩ => by
        subst rx
        cases x with
        | false => exact iteF (g1 ρ1 σ2 H1 A1.R Ext.refl A1.E)
        | true =>
          refine iteT ?_
          refine ⟨fun σ H => ∃ m', m' < m + 1 ∧ ∃ ρ2 h2 env2, HR X.K ρ2 h2 H ∧ ER X.K ρ2 H env2 σ ∧ GoodS X.K B D σ ρ2 H (loopW tc s m' env2 h2), fun σ' H' z => z, ρ1, h1, env2, A1.R, A1.E, ?_⟩
          rw [if_pos rfl] at g1
          cases qb : s env2 h1 with
          | nx e h' => rw [qb] at g1; exact fun ρ' σ'' H' a b c => ⟨m, Nat.lt_succ_self m, ρ', h', e, a, c, GoodS.mv (show GoodS X.K B D σ2 ρ1 H1 (loopW tc s m e h') from g1) b⟩
          | ct e h' => rw [qb] at g1; exact fun ρ' σ'' H' a b c => ⟨m, Nat.lt_succ_self m, ρ', h', e, a, c, GoodS.mv (show GoodS X.K B D σ2 ρ1 H1 (loopW tc s m e h') from g1) b⟩
          | bk e h' => rw [qb] at g1; exact fun ρ' σ'' H' a b c => g1 ρ' σ'' H' a b c
          | rt d h' => rw [qb] at g1; exact g1
          | er c d e h' => rw [qb] at g1; exact g1
          | no => rw [qb] at g1; exact g1
end
end MP
set_option Elab.async false
set_option linter.all false
set_option maxRecDepth 100000
set_option maxHeartbeats 2000000
/-! M4: calls of defs, built-ins, methods, subscripts, slices, dicts. -/
namespace MP
open PySem PySem.Spec L2
open PyProof.Rows (envOfC)
abbrev B0 : WB := fun _ _ _ _ => False
theorem nb0 : ∀ (c : Value) (d : Option Addr) (σ : St) (H : Hp), ¬ B0 c d σ H := fun _ _ _ _ h => h
/-! ### a def's promise -/
def spF (K : PySem.W.Frag) (n : Nat) (F : List D → MH → R D) : Sp := fun vs H Q E => vs.length = n ∧ ∃ ρ h ds, HR K ρ h H ∧ RVs K ρ H ds vs ∧ Good K B0 (rD K) [] ρ H Q (F ds h)
def startE (n : Nat) (ds : List D) : Env := ds.map some ++ List.replicate (n - ds.length) none
def denF (n : Nat) (s : S) : List D → MH → R D := fun ds h => match s (startE n ds) h with
  | .rt d h => .ok d h
  | .nx _ h => .ok .non h
  | .er c d _ h => .er c d h
  | _ => .no
theorem er_start {K : PySem.W.Frag} {ρ : List Addr} {H : Hp} {N : List Str} {ds : List D} {vs : List V} (r : RVs K ρ H ds vs) : ER K ρ H (startE N.length ds) (L2.start N vs) := by
  refine ⟨?_, fun i d e => ?_⟩
  · unfold startE L2.start; simp [r.length]
  · unfold startE at e
    unfold L2.start
    by_cases hi : i < ds.length
    · rw [List.getElem?_append_left (by simpa using hi), List.getElem?_map] at e
      cases q : ds[i]? with
      | none => rw [q] at e; cases e
      | some d' =>
        rw [q] at e
        cases e
        obtain ⟨v, h1, h2⟩ := r.get q
        exact ⟨v, by rw [List.getElem?_append_left (by simpa [← r.length] using hi), List.getElem?_map, h1]; rfl, h2⟩
    · rw [List.getElem?_append_right (by simpa using hi)] at e
      have := List.mem_of_getElem? e
      rw [List.mem_replicate] at this
      cases this.2
section
variable {P : Program} {w : World} {K : PySem.W.Frag} {mg : Str → Option Value} {base : Heap} {x qual : Str} {params : Arguments} {body : List Stmt} {scope : Scope} {dvs : List V} {kws : List (Str × V)} {f : Addr} {fd : FuncData}
/-- a def whose body is derived -/
theorem fn_ok {N ps : List Str} {k : Nat} {s : S} (F : FunD K x qual params body scope dvs kws f fd) (S : FnScope N ps scope)
    (hb : ∀ (cdv : Value) (A : Around) (outer : List PySem.Env) (s' : Shared) (H : Hp) (E : XK), Room k (A.deeper (envOfC qual scope s'.heap.objs.size f cdv)) → DenSs (cxOf CX0 P w K mg base N qual scope f cdv A outer s' H E).nox B0 body s) :
    FnOk P w K mg base CX0 (k + 1) f fd ps (spF K ps.length (denF N.length s)) := by
  refine F.ok S (fun vs H Q E h => h.1) (fun cdv A outer s' H vs Q E hr h => ?_)
  obtain ⟨hl, ρ, h, ds, R, r, g⟩ := h
  refine ⟨tS K B0 s, PSs.nox (hb cdv A outer s' H E hr), ρ, h, startE N.length ds, R, er_start r, ?_⟩
  unfold denF at g
  cases q : s (startE N.length ds) h with
  | nx e h' => rw [q] at g; exact fun ρ' σ' H' a b c => g ρ' .non H' a b .non
  | rt d h' => rw [q] at g; exact g
  | bk e h' => rw [q] at g; exact g.elim
  | ct e h' => rw [q] at g; exact g.elim
  | er c d e h' => rw [q] at g; exact fun ρ' y dx σ'' H' a b c _ e => g ρ' y dx H' a b c e
  | no => rw [q] at g; exact g
end

section
variable {X : Cx} {B : WB} {e : Expr} {es : List Expr} {ms : MA} {p pos : Pos}
def mCall (n : Nat) (F : List D → MH → R D) (a : MA) : M := fun env h => (a env h).bind fun ds h1 => if ds.length = n then F ds h1 else .no
theorem spF_ok {K : PySem.W.Frag} {n : Nat} {F : List D → MH → R D} {σ : St} {ρ : List Addr} {h : MH} {H : Hp} {Q : VK} {ds : List D} {vs : List V} (nb : ∀ c d σ H, ¬ B c d σ H) (R : HR K ρ h H) (r : RVs K ρ H ds vs) (hn : ds.length = n) (g : Good K B (rD K) σ ρ H Q (F ds h)) : spF K n F vs H Q E0 := by
  refine ⟨by rw [← r.length]; exact hn, ρ, h, ds, R, r, ?_⟩
  cases q : F ds h with
  | ok d h' => rw [q] at g; exact g
  | er c d h' => rw [q] at g; exact fun ρ' x dx H' a b c e => nb _ _ _ _ (g ρ' x dx H' a b c e)
  | no => rw [q] at g; exact g
theorem den_call {k n : Nat} {f : Addr} {fd : FuncData} {ps : List Str} {x : Str} {F : List D → MH → R D} (nb : ∀ c d σ H, ¬ B c d σ H) (G : FnOk X.prog X.w X.K X.mg X.base CX0 k f fd ps (spF X.K n F)) (hr : Room k X.A) (hg : Gl X x) (hm : X.mg x = some (.ref f)) (hk : PySem.W.keepIn X.K (.ref f) = true) (hb : Binds X.K fd ps [])
    (ha : DenA X B (e :: es) ms) (hdb : (x == ("__debug__" : Str)) = false := by decide) (he : starEach (e :: es) X.env = (false, eval e X.env) :: starEach es X.env := by rfl) (hpl : (backTo pos (starEach es X.env)).any (·.1) = false := by rfl) :
    Den X B (.Call (.Name x p) (e :: es) [] pos) (mCall n F ms) :=
  PE.imp (pe_call G hr hg hm hk hb .nil pass0 ha hdb he hpl) fun σ H Q ⟨ρ, h, env, R, E, g⟩ => (tR_bind ⟨R, E⟩ g).imp fun vs H1 ⟨ρ1, h1, xs, A1, e1, rx, g1⟩ => by
    obtain ⟨hn, g2⟩ := good_if g1
    show spF X.K n F (vs ++ []) H1 Q E0
    rw [List.append_nil]
    exact spF_ok nb A1.R rx hn g2
/-! ### built-ins by values -/
def CallM (K : PySem.W.Frag) (B : WB) (r : List V → Hp → VK → Prop) (f : List D → MH → R D) : Prop := ∀ {σ : St} {ρ : List Addr} {h : MH} {H : Hp} {Q : VK} {xs : List D} {vs : List V}, HR K ρ h H → RVs K ρ H xs vs → Good K B (rD K) σ ρ H Q (f xs h) → r vs H Q
def mB (f : List D → MH → R D) (a : MA) : M := fun env h => (a env h).bind f
theorem den_callB {id : String} {x : Str} {r : List V → Hp → VK → Prop} {f : List D → MH → R D} (hf : CallM X.K B r f) (hc : CallR X (.builtin id) r) (hg : Gl X x) (hm : X.mg x = none) (hv : bootBuiltins x = some (.builtin id)) (ha : DenA X B (e :: es) ms) (hn : x ≠ "__name__" := by decide) (hdb : (x == ("__debug__" : Str)) = false := by decide)
    (he : starEach (e :: es) X.env = (false, eval e X.env) :: starEach es X.env := by rfl) (hpl : (backTo pos (starEach es X.env)).any (·.1) = false := by rfl) : Den X B (.Call (.Name x p) (e :: es) [] pos) (mB f ms) :=
  PE.imp (pe_callB hc hg hm hv ha hn hdb he hpl) fun σ H Q ⟨ρ, h, env, R, E, g⟩ => (tR_bind ⟨R, E⟩ g).imp fun vs H1 ⟨ρ1, h1, xs, A1, e1, rx, g1⟩ => hf A1.R rx g1
theorem den_callTy {T : String} {x : Str} {r : List V → Hp → VK → Prop} {f : List D → MH → R D} (hf : CallM X.K B r f) (hc : CallR X (.type T) r) (hg : Gl X x) (hm : X.mg x = none) (hv : bootBuiltins x = some (.type T)) (ha : DenA X B (e :: es) ms) (hn : x ≠ "__name__" := by decide) (hdb : (x == ("__debug__" : Str)) = false := by decide)
    (he : starEach (e :: es) X.env = (false, eval e X.env) :: starEach es X.env := by rfl) (hpl : (backTo pos (starEach es X.env)).any (·.1) = false := by rfl) : Den X B (.Call (.Name x p) (e :: es) [] pos) (mB f ms) :=
  PE.imp (pe_callTy hc hg hm hv ha hn hdb he hpl) fun σ H Q ⟨ρ, h, env, R, E, g⟩ => (tR_bind ⟨R, E⟩ g).imp fun vs H1 ⟨ρ1, h1, xs, A1, e1, rx, g1⟩ => hf A1.R rx g1
end

/-! ### the built-ins -/
section
variable {K : PySem.W.Frag} {B : WB} {ρ : List Addr} {H : Hp} {h : MH}
def lenD (h : MH) (d : D) : Option Nat := match d with
  | .str s => if s.length ≤ sizeLine then some s.length else none
  | d => (seqOf h d).map List.length
def bLen : List D → MH → R D
  | [d], h => match lenD h d with
    | some n => .ok (.int (n : Int)) h
    | none => .no
  | _, _ => .no
theorem RVs.one {d : D} {vs : List V} (r : RVs K ρ H [d] vs) : ∃ v, vs = [v] ∧ RV K ρ H d v := by cases r with | cons a b => cases b; exact ⟨_, rfl, a⟩
theorem RVs.two {d e : D} {vs : List V} (r : RVs K ρ H [d, e] vs) : ∃ v w, vs = [v, w] ∧ RV K ρ H d v ∧ RV K ρ H e w := by
  cases r with | cons a b => obtain ⟨w, rfl, c⟩ := b.one; exact ⟨_, _, rfl, a, c⟩
theorem len_ok : CallM K B (fun xs H Q => ∃ x n, xs = [x] ∧ LenV K x H n ∧ Q (.int n) H) bLen := by
  intro σ ρ h H Q xs vs R r g
  unfold bLen at g
  split at g
  · rename_i d
    obtain ⟨v, rfl, rv⟩ := r.one
    split at g
    · rename_i n e
      refine ⟨v, n, rfl, ?_, g.ok0 R (.int _)⟩
      unfold lenD at e
      split at e
      · split at e
        · cases e; cases rv; exact ⟨‹_›, rfl⟩
        · cases e
      · cases q : seqOf h d with
        | none => rw [q] at e; cases e
        | some ds =>
          rw [q] at e; cases e
          obtain ⟨a, ws, rfl, s, rs⟩ := seqOf_ok R rv q
          rcases s with s | s
          · exact .inl ⟨ws, s, rs.length⟩
          · exact .inr ⟨ws, s, rs.length⟩
    · exact g.elim
  · exact g.elim
def boolsOf : List D → Option (List Bool)
  | [] => some []
  | .bl b :: r => (boolsOf r).map (b :: ·)
  | _ => none
theorem boolsOf_ok : ∀ {ds : List D} {vs : List V} {bs : List Bool}, RVs K ρ H ds vs → boolsOf ds = some bs → vs = bs.map V.bl
  | _, _, _, .nil, e => by cases e; rfl
  | d :: ds, _, bs, .cons r t, e => by
    cases r with
    | bl b =>
      simp only [boolsOf] at e
      cases q : boolsOf ds with
      | none => rw [q] at e; cases e
      | some cs => rw [q] at e; cases e; rw [boolsOf_ok t q]; rfl
    | _ => cases e
def bAll : List D → MH → R D
  | [d], h => match (lstOf h d).bind boolsOf with
    | some bs => .ok (.bl (bs.all id)) h
    | none => .no
  | _, _ => .no
def bAny : List D → MH → R D
  | [d], h => match (lstOf h d).bind boolsOf with
    | some bs => .ok (.bl (bs.any id)) h
    | none => .no
  | _, _ => .no
theorem bools_ok {d : D} {v : V} {bs : List Bool} (R : HR K ρ h H) (r : RV K ρ H d v) (e : (lstOf h d).bind boolsOf = some bs) : ∃ a, v = .ref a ∧ SqL K H a (bs.map V.bl) := by
  cases q : lstOf h d with
  | none => rw [q] at e; cases e
  | some ds =>
    rw [q] at e
    obtain ⟨a, ws, rfl, s, rs⟩ := lstOf_ok R r q
    exact ⟨a, rfl, by rw [← boolsOf_ok rs e]; exact s⟩
theorem all_ok : CallM K B (rAll K) bAll := by
  intro σ ρ h H Q xs vs R r g
  unfold bAll at g
  split at g
  · obtain ⟨v, rfl, rv⟩ := r.one
    split at g
    · rename_i bs e
      obtain ⟨a, rfl, s⟩ := bools_ok R rv e
      exact ⟨a, bs, rfl, s, g.ok0 R (.bl _)⟩
    · exact g.elim
  · exact g.elim
theorem any_ok : CallM K B (rAny K) bAny := by
  intro σ ρ h H Q xs vs R r g
  unfold bAny at g
  split at g
  · obtain ⟨v, rfl, rv⟩ := r.one
    split at g
    · rename_i bs e
      obtain ⟨a, rfl, s⟩ := bools_ok R rv e
      exact ⟨a, bs, rfl, s, g.ok0 R (.bl _)⟩
    · exact g.elim
  · exact g.elim
def bAbs : List D → MH → R D
  | [.int i], h => .ok (.int (if i < 0 then -i else i)) h
  | _, _ => .no
theorem abs_ok : CallM K B (fun xs H Q => ∃ i, xs = [.int i] ∧ Q (.int (if i < 0 then -i else i)) H) bAbs := by
  intro σ ρ h H Q xs vs R r g
  unfold bAbs at g
  split at g
  · obtain ⟨v, rfl, rv⟩ := r.one
    cases rv; exact ⟨_, rfl, g.ok0 R (.int _)⟩
  · exact g.elim
def bMin2 : List D → MH → R D
  | [.int i, .int j], h => .ok (.int (if j < i then j else i)) h
  | _, _ => .no
theorem min2_ok : CallM K B (fun xs H Q => ∃ i j, xs = [.int i, .int j] ∧ Q (.int (if j < i then j else i)) H) bMin2 := by
  intro σ ρ h H Q xs vs R r g
  unfold bMin2 at g
  split at g
  · obtain ⟨v, w, rfl, rv, rw'⟩ := r.two
    cases rv; cases rw'; exact ⟨_, _, rfl, g.ok0 R (.int _)⟩
  · exact g.elim
def bMax2 : List D → MH → R D
  | [.int i, .int j], h => .ok (.int (if j > i then j else i)) h
  | _, _ => .no
theorem max2_ok : CallM K B (fun xs H Q => ∃ i j, xs = [.int i, .int j] ∧ Q (.int (if j > i then j else i)) H) bMax2 := by
  intro σ ρ h H Q xs vs R r g
  unfold bMax2 at g
  split at g
  · obtain ⟨v, w, rfl, rv, rw'⟩ := r.two
    cases rv; cases rw'; exact ⟨_, _, rfl, g.ok0 R (.int _)⟩
  · exact g.elim
def bInt : List D → MH → R D
  | [.int i], h => .ok (.int i) h
  | [.bl k], h => .ok (.int (if k = true then 1 else 0)) h
  | [.str a], h => match PySem.intText? a with
    | some n => if a.length ≤ 640 then .ok (.int n) h else .no
    | none => .no
  | _, _ => .no
abbrev rIntAll : List V → Hp → VK → Prop := fun xs H Q => ((∃ i, xs = [.int i] ∧ Q (.int i) H) ∨ ∃ k, xs = [.bl k] ∧ Q (.int (if k then 1 else 0)) H) ∨ ∃ a n, xs = [.str a] ∧ PySem.intText? a = some n ∧ a.length ≤ 640 ∧ Q (.int n) H
theorem call_intAll {X : Cx} : CallR X (.type "int") rIntAll := CallR.or call_int1 call_int_str
theorem int_ok : CallM K B rIntAll bInt := by
  intro σ ρ h H Q xs vs R r g
  unfold bInt at g
  split at g
  · obtain ⟨v, rfl, rv⟩ := r.one
    cases rv; exact .inl (.inl ⟨_, rfl, g.ok0 R (.int _)⟩)
  · obtain ⟨v, rfl, rv⟩ := r.one
    cases rv; exact .inl (.inr ⟨_, rfl, g.ok0 R (.int _)⟩)
  · obtain ⟨v, rfl, rv⟩ := r.one
    cases rv
    split at g
    · rename_i n e
      obtain ⟨hl, g⟩ := good_if g
      exact .inr ⟨_, n, rfl, e, hl, g.ok0 R (.int _)⟩
    · exact g.elim
  · exact g.elim
def bStr : List D → MH → R D
  | [.int i], h => if i.natAbs.log2 < 1920 then .ok (.str (toString i)) h else .no
  | _, _ => .no
theorem str_ok : CallM K B (fun xs H Q => ∃ i : Int, xs = [.int i] ∧ i.natAbs.log2 < 1920 ∧ Q (.str (toString i)) H) bStr := by
  intro σ ρ h H Q xs vs R r g
  unfold bStr at g
  split at g
  · obtain ⟨v, rfl, rv⟩ := r.one
    obtain ⟨hl, g⟩ := good_if g
    cases rv; exact ⟨_, rfl, hl, g.ok0 R (.str _)⟩
  · exact g.elim
def bTuple : List D → MH → R D
  | [d], h => match lstOf h d with
    | some ds => .ok (.tup ds) h
    | none => match tupOf d with
      | some ds => .ok (.tup ds) h
      | none => .no
  | _, _ => .no
theorem tuple_ok : CallM K B (fun xs H Q => ∃ p ys, xs = [.ref p] ∧ ((SqL K H p ys ∧ ∀ l, H l = none → Q (.ref l) (upd H l (.tup ys))) ∨ (SqT K H p ys ∧ Q (.ref p) H))) bTuple := by
  intro σ ρ h H Q xs vs R r g
  unfold bTuple at g
  split at g
  · obtain ⟨v, rfl, rv⟩ := r.one
    split at g
    · rename_i ds e
      obtain ⟨a, ws, rfl, s, rs⟩ := lstOf_ok R rv e
      exact ⟨a, ws, rfl, .inl ⟨s, fun l hl => good_newT g R rs hl⟩⟩
    · split at g
      · rename_i ds e
        obtain ⟨a, ws, rfl, s, rs⟩ := tupOf_ok rv e
        exact ⟨a, ws, rfl, .inr ⟨SqT.tup s, g.ok0 R (.tup s rs)⟩⟩
      · exact g.elim
  · exact g.elim
def bList : List D → MH → R D
  | [d], h => match seqOf h d with
    | some ds => newL ds h
    | none => match d with
      | .loc n => (match h[n]? with
        | some (.dic kvs) => newL (kvs.map fun kv => match kv.1 with | .inl i => D.int i | .inr s => D.str s) h
        | _ => .no)
      | _ => .no
  | _, _ => .no
abbrev rListAll (K : PySem.W.Frag) : List V → Hp → VK → Prop := fun xs H Q => (∃ p ys, xs = [.ref p] ∧ (SqL K H p ys ∨ SqT K H p ys) ∧ ∀ l, H l = none → Q (.ref l) (upd H l (.lst ys))) ∨
  (∃ (a : Addr) (kvs : List (Key × V)), xs = [.ref a] ∧ Rd H a (.dK kvs) ∧ ∀ p, H p = none → Q (.ref p) (upd H p (.lst (kvs.map fun kv => kV kv.1))))
theorem call_listAll {X : Cx} (hc : X.calm = true) : CallR X (.type "list") (rListAll X.K) := CallR.or call_list_of (call_listD hc)
theorem RKs.keys : ∀ {ds : List (Key × D)} {vs : List (Key × V)}, RKs K ρ H ds vs → RVs K ρ H (ds.map fun kv => match kv.1 with | .inl i => D.int i | .inr s => D.str s) (vs.map fun kv => kV kv.1)
  | _, _, .nil => .nil
  | _, _, @RKs.cons _ _ _ _ k _ _ _ _ r t => .cons (by cases k with | inl i => exact .int i | inr s => exact .str s) (RKs.keys t)
theorem list_ok : CallM K B (rListAll K) bList := by
  intro σ ρ h H Q xs vs R r g
  unfold bList at g
  split at g
  · obtain ⟨v, rfl, rv⟩ := r.one
    split at g
    · rename_i ds e
      obtain ⟨a, ws, rfl, s, rs⟩ := seqOf_ok R rv e
      exact .inl ⟨a, ws, rfl, s, fun l hl => good_newL g R rs hl⟩
    · split at g
      · split at g
        · rename_i n _ kvs e
          cases rv with
          | @loc _ a q =>
            obtain ⟨ws, hw, rk⟩ := R.dic q e
            exact .inr ⟨a, ws, rfl, .inl hw, fun l hl => good_newL g R rk.keys hl⟩
        · exact g.elim
      · exact g.elim
  · exact g.elim
/-! isinstance -/
def tyName (h : MH) : D → Option String
  | .non => some "NoneType"
  | .bl _ => some "bool"
  | .int _ => some "int"
  | .str _ => some "str"
  | .tup _ => some "tuple"
  | .rol _ => none
  | .loc n => match h[n]? with
    | some (.lst _) => some "list"
    | some (.dic _) => some "dict"
    | some (.dit _) => some "dict"
    | _ => none
  | _ => none
def bIsi : List D → MH → R D
  | [d, .ty n], h => match tyName h d with
    | some t => (match kitB t n with
      | some b => .ok (.bl b) h
      | none => .no)
    | none => .no
  | _, _ => .no
theorem tyName_ok {d : D} {v : V} {t : String} (R : HR K ρ h H) (r : RV K ρ H d v) (e : tyName h d = some t) : TyX K H v (.type t) := by
  cases r with
  | non => cases e; exact .base .non
  | bl b => cases e; exact .base (.bl b)
  | int i => cases e; exact .base (.int i)
  | str s => cases e; exact .base (.str s)
  | tup q _ => cases e; exact .base (.tup q)
  | @loc n a q =>
    unfold tyName at e
    dsimp only at e
    split at e
    · cases e; obtain ⟨_, hv, _⟩ := R.lst q ‹_›; exact .base (.lst hv)
    · cases e; obtain ⟨_, hv, _⟩ := R.dic q ‹_›; exact .base (.dK hv)
    · cases e; obtain ⟨_, hv, _⟩ := R.dit q ‹_›; exact .base (.dT hv)
    · cases e
  | _ => cases e
theorem isi_ok : CallM K B (rIsi K) bIsi := by
  intro σ ρ h H Q xs vs R r g
  unfold bIsi at g
  split at g
  · obtain ⟨v, w, rfl, rv, rw'⟩ := r.two
    cases rw'
    split at g
    · rename_i t et
      split at g
      · rename_i b eb
        exact ⟨v, _, _, _, b, rfl, .ty _, tyName_ok R rv et, kit_ty eb, g.ok0 R (.bl _)⟩
      · exact g.elim
    · exact g.elim
  · exact g.elim
/-! sorted of texts: a list of them, a dict's keys -/
def strsOf : List D → Option (List Str)
  | [] => some []
  | .str s :: r => (strsOf r).map (s :: ·)
  | _ => none
theorem strsOf_ok : ∀ {ds : List D} {vs : List V} {bs : List Str}, RVs K ρ H ds vs → strsOf ds = some bs → vs = bs.map V.str
  | _, _, _, .nil, e => by cases e; rfl
  | d :: ds, _, bs, .cons r t, e => by
    cases r with
    | str b =>
      simp only [strsOf] at e
      cases q : strsOf ds with
      | none => rw [q] at e; cases e
      | some cs => rw [q] at e; cases e; rw [strsOf_ok t q]; rfl
    | _ => cases e
theorem rvs_strs : ∀ (bs : List Str), RVs K ρ H (bs.map D.str) (bs.map V.str)
  | [] => .nil
  | b :: bs => .cons (.str b) (rvs_strs bs)
end
end MP
set_option Elab.async false
set_option linter.all false
set_option maxRecDepth 100000
set_option maxHeartbeats 2000000
/-! M5: sorted texts. -/
namespace MP
open PySem PySem.Spec L2
open PyProof.Rows (sortedS risingS)
def leC (x y : List Nat) : Bool := !ltCps y x
theorem ltCps_irr : ∀ x, ltCps x x = false
  | [] => rfl
  | a :: r => by simp [ltCps, ltCps_irr r]
theorem leC_total : ∀ x y, (leC x y || leC y x) = true
  | [], [] => rfl
  | [], _ :: _ => rfl
  | _ :: _, [] => rfl
  | a :: r, b :: t => by
    have := leC_total r t
    unfold leC at *
    simp only [ltCps]
    by_cases h1 : a < b
    · have h2 : ¬ b < a := by omega
      have h3 : ¬ b = a := by omega
      simp [h1, h2, h3]
    · by_cases h2 : a = b
      · subst h2; simpa using this
      · have h3 : b < a := by omega
        simp [h1, h2, h3]
theorem leC_trans : ∀ x y z, leC x y = true → leC y z = true → leC x z = true
  | [], _, [], _, _ => rfl
  | [], _, _ :: _, _, _ => rfl
  | _ :: _, [], _, h, _ => by simp [leC, ltCps] at h
  | _ :: _, _ :: _, [], _, h => by simp [leC, ltCps] at h
  | a :: r, b :: t, c :: u, h, h' => by
    have ih := leC_trans r t u
    unfold leC at *
    simp only [ltCps, Bool.not_eq_true', Bool.or_eq_false_iff, Bool.and_eq_false_iff, decide_eq_false_iff_not, beq_eq_false_iff_ne] at *
    obtain ⟨h1, h2⟩ := h
    obtain ⟨h3, h4⟩ := h'
    refine ⟨by omega, ?_⟩
    by_cases e : c = a
    · right
      have e1 : b = a := by omega
      have e2 : c = b := by omega
      exact ih (h2.resolve_left (fun q => q e1)) (h4.resolve_left (fun q => q e2))
    · exact .inl e
theorem leC_anti : ∀ x y, leC x y = true → leC y x = true → x = y
  | [], [], _, _ => rfl
  | [], _ :: _, _, h => by simp [leC, ltCps] at h
  | _ :: _, [], h, _ => by simp [leC, ltCps] at h
  | a :: r, b :: t, h, h' => by
    have ih := leC_anti r t
    unfold leC at *
    simp only [ltCps, Bool.not_eq_true', Bool.or_eq_false_iff, Bool.and_eq_false_iff, decide_eq_false_iff_not, beq_eq_false_iff_ne] at *
    obtain ⟨h1, h2⟩ := h
    obtain ⟨h3, h4⟩ := h'
    have e : a = b := by omega
    subst e
    rw [ih (h2.resolve_left (fun q => q rfl)) (h4.resolve_left (fun q => q rfl))]
def leS (a b : Str) : Bool := leC a.cps.toList b.cps.toList
theorem str_ext {a b : Str} (h : a.cps.toList = b.cps.toList) : a = b := by
  obtain ⟨x⟩ := a
  obtain ⟨y⟩ := b
  have : x = y := Array.toList_inj.mp h
  rw [this]
def srt (xs : List Str) : List Str := xs.mergeSort leS
theorem srt_perm (xs : List Str) : (srt xs).Perm xs := List.mergeSort_perm _ _
theorem srt_pw (xs : List Str) : (srt xs).Pairwise fun a b => leS a b = true := List.pairwise_mergeSort (le := leS) (fun a b c => leC_trans a.cps.toList b.cps.toList c.cps.toList) (fun a b => leC_total a.cps.toList b.cps.toList) xs
theorem pw_rising : ∀ (p : Str) (l : List Str), risingS p l = true → (p :: l).Pairwise fun a b => leS a b = true
  | p, [], _ => by simp
  | p, x :: r, h => by
    have h' : (!ltCps x.cps.toList p.cps.toList && risingS x r) = true := h
    rw [Bool.and_eq_true] at h'
    have ih := pw_rising x r h'.2
    refine List.pairwise_cons.mpr ⟨fun b hb => ?_, ih⟩
    rcases List.mem_cons.mp hb with rfl | hb
    · exact h'.1
    · exact leC_trans _ _ _ h'.1 ((List.pairwise_cons.mp ih).1 b hb)
theorem sorted_pw : ∀ {l : List Str}, sortedS l = true → l.Pairwise fun a b => leS a b = true
  | [], _ => .nil
  | x :: r, h => pw_rising x r h
theorem srt_unique {ys xs : List Str} (p : ys.Perm xs) (h : sortedS ys = true) : ys = srt xs :=
  List.Perm.eq_of_pairwise (le := fun a b => leS a b = true) (fun a b _ _ h1 h2 => str_ext (leC_anti _ _ h1 h2)) (sorted_pw h) (srt_pw xs) (p.trans (srt_perm xs).symm)
section
variable {K : PySem.W.Frag} {B : WB} {ρ : List Addr} {H : Hp} {h : MH}
def keyStrs : List (Key × D) → Option (List Str)
  | [] => some []
  | (.inr s, _) :: r => (keyStrs r).map (s :: ·)
  | _ => none
def bSorted : List D → MH → R D
  | [d], h => match (lstOf h d).bind strsOf with
    | some ss => if ss.length < 64 then newL ((srt ss).map D.str) h else .no
    | none => match d with
      | .loc n => (match h[n]? with
        | some (.dic kvs) => (match keyStrs kvs with
          | some ss => if ss.length < 64 then newL ((srt ss).map D.str) h else .no
          | none => .no)
        | _ => .no)
      | _ => .no
  | _, _ => .no
abbrev rSortedAll (K : PySem.W.Frag) : List V → Hp → VK → Prop := fun xs H Q => rSortedS K xs H Q ∨ (∃ (a : Addr) (kvs : List (Key × V)) (ks : List Str), xs = [.ref a] ∧ Rd H a (.dK kvs) ∧ kvs.map (·.1) = ks.map Sum.inr ∧ ks.length < 64 ∧
    ∀ ys p, ys.Perm ks → sortedS ys = true → H p = none → Q (.ref p) (upd H p (.lst (ys.map V.str))))
theorem call_sortedAll {X : Cx} (hc : X.calm = true) : CallR X (.builtin "sorted") (rSortedAll X.K) := CallR.or cr_sortedS (call_sortedD hc)
theorem keyStrs_ok : ∀ {ds : List (Key × D)} {vs : List (Key × V)} {ss : List Str}, RKs K ρ H ds vs → keyStrs ds = some ss → vs.map (·.1) = ss.map Sum.inr
  | _, _, _, .nil, e => by cases e; rfl
  | _, _, ss, @RKs.cons _ _ _ _ k d v ds vs r t, e => by
    cases k with
    | inl i => cases e
    | inr s =>
      simp only [keyStrs] at e
      cases q : keyStrs ds with
      | none => rw [q] at e; cases e
      | some cs => rw [q] at e; cases e; rw [List.map_cons, keyStrs_ok t q]; rfl
theorem sorted_ok : CallM K B (rSortedAll K) bSorted := by
  intro σ ρ h H Q xs vs R r g
  unfold bSorted at g
  split at g
  · obtain ⟨v, rfl, rv⟩ := r.one
    split at g
    · rename_i ss e
      obtain ⟨hl, g⟩ := good_if g
      rename_i d _ _
      cases q : lstOf h d with
      | none => rw [q] at e; cases e
      | some ds =>
        rw [q] at e
        obtain ⟨a, ws, rfl, s, rs⟩ := lstOf_ok R rv q
        have ew := strsOf_ok rs e
        subst ew
        refine .inl ⟨a, ss, rfl, s, hl, fun ys p hp hs hn => ?_⟩
        rw [srt_unique hp hs]
        exact good_newL g R (rvs_strs _) hn
    · split at g
      · split at g
        · split at g
          · rename_i es
            rename_i ss
            obtain ⟨hl, g⟩ := good_if g
            cases rv with
            | @loc _ a q =>
              obtain ⟨ws, hw, rk⟩ := R.dic q ‹_›
              refine .inr ⟨a, ws, _, rfl, .inl hw, keyStrs_ok rk ‹_›, hl, fun ys p hp hs hn => ?_⟩
              rw [srt_unique hp hs]
              exact good_newL g R (rvs_strs _) hn
          · exact g.elim
        · exact g.elim
      · exact g.elim
  · exact g.elim
end
end MP
set_option Elab.async false
set_option linter.all false
set_option maxRecDepth 100000
set_option maxHeartbeats 2000000
/-! M6: subscripts, slices, methods, dicts, f-strings. -/
namespace MP
open PySem PySem.Spec L2
section
variable {K : PySem.W.Frag} {B : WB} {σ : St} {ρ ρ' : List Addr} {H H' : Hp} {h : MH} {env : Env}
/-! ### subscripts -/
def fIx (x y : D) (h : MH) : R D := match y with
  | .int i => match x with
    | .str s => if s.length ≤ sizeLine then (match atI s.cps.toList i with
      | some c => .ok (.str ⟨#[c]⟩) h
      | none => .no) else .no
    | x => match seqOf h x with
      | some ds => (match atI ds i with
        | some d => .ok d h
        | none => .no)
      | none => .no
  | _ => .no
theorem atI_rv {ds : List D} {vs : List V} {i : Int} {d : D} (r : RVs K ρ H ds vs) (e : atI ds i = some d) : ∃ v, atI vs i = some v ∧ RV K ρ H d v := by
  unfold atI at *
  rw [← r.length]
  cases q : ixN ds.length i with
  | none => rw [q] at e; cases e
  | some j => rw [q] at e; exact r.get e
theorem ix_ok : OpM K B (rIx K) fIx := by
  intro σ ρ h H Q x y v w R rx ry g
  unfold fIx at g
  split at g
  · cases ry
    split at g
    · obtain ⟨hl, g⟩ := good_if g
      cases rx
      split at g
      · rename_i c e
        exact .inr (.inr ⟨_, _, c, rfl, rfl, hl, e, g.ok0 R (.str _)⟩)
      · exact g.elim
    · split at g
      · rename_i ds e
        split at g
        · rename_i d e'
          obtain ⟨a, vs, rfl, s, rs⟩ := seqOf_ok R rx e
          obtain ⟨v, h1, h2⟩ := atI_rv rs e'
          rcases s with s | s
          · exact .inl ⟨a, vs, _, v, rfl, rfl, s, h1, g.ok0 R h2⟩
          · exact .inr (.inl ⟨a, vs, _, v, rfl, rfl, s, h1, g.ok0 R h2⟩)
        · exact g.elim
      · exact g.elim
  · exact g.elim
/-! ### slices -/
def cutD (xs : List D) (lo hi : Option Int) : List D := (xs.drop (HT.sIx xs.length 0 lo)).take (HT.sIx xs.length xs.length hi - HT.sIx xs.length 0 lo)
theorem cut_rv {ds : List D} {vs : List V} (r : RVs K ρ H ds vs) (lo hi : Option Int) : RVs K ρ H (cutD ds lo hi) (cutV vs lo hi) := by
  unfold cutD cutV
  rw [r.length]
  exact (r.drop _).take _
def fSl (x : D) (lo hi : Option Int) (h : MH) : R D := match x with
  | .str s => if s.length ≤ sizeLine then .ok (.str (cutS s lo hi)) h else .no
  | .tup ds => .ok (.tup (cutD ds lo hi)) h
  | x => match lstOf h x with
    | some ds => newL (cutD ds lo hi) h
    | none => .no
abbrev rSlAll (K : PySem.W.Frag) : V → Option Int → Option Int → Hp → VK → Prop := fun x lo hi H Q => rSlS x lo hi H Q ∨ (rSlA K x lo hi H Q ∨ rSlL K x lo hi H Q)
theorem sl_all {X : Cx} : SlR X (rSlAll X.K) := SlR.or sl_str (SlR.or sl_tupA sl_list)
theorem cut_all {ds : List D} {lo hi : Option Int} (h : HT.sIx ds.length 0 lo = 0 ∧ HT.sIx ds.length ds.length hi = ds.length) : cutD ds lo hi = ds := by
  unfold cutD; rw [h.1, h.2]; simp
theorem sl_ok {Q : VK} {x : D} {v : V} {lo hi : Option Int} (R : HR K ρ h H) (rx : RV K ρ H x v) (g : Good K B (rD K) σ ρ H Q (fSl x lo hi h)) : rSlAll K v lo hi H Q := by
  unfold fSl at g
  split at g
  · obtain ⟨hl, g⟩ := good_if g
    cases rx; exact .inl ⟨_, rfl, hl, g.ok0 R (.str _)⟩
  · cases rx with
    | @tup a ds vs e r =>
      refine .inr (.inl ⟨a, vs, rfl, SqT.tup e, fun q => ?_, fun _ p hp => good_newT g R (cut_rv r lo hi) hp⟩)
      rw [← r.length] at q
      rw [cut_all q] at g
      exact g.ok0 R (.tup e r)
  · split at g
    · rename_i ds e
      obtain ⟨a, vs, rfl, s, rs⟩ := lstOf_ok R rx e
      exact .inr (.inr ⟨a, vs, rfl, s, fun p hp => good_newL g R (cut_rv rs lo hi) hp⟩)
    · exact g.elim
end
section
variable {X : Cx} {B : WB} {a b e lo hi : Expr} {es : List Expr} {ma mb me : M} {ms : MA} {pos p2 : Pos}
theorem den_ix (ha : Den X B a ma) (hb : Den X B b mb) (hs : PlainIx b := by intro _ _; rfl) : Den X B (.Subscript a b pos) (mBin fIx ma mb) := PE.imp (pe_ix ix_seq ha hb hs) (bin_imp ix_ok)
abbrev MO' := PySem.Env → Nat
def oNone : Env → MH → R (Option Int) := fun _ h => .ok none h
def oSome (m : M) : Env → MH → R (Option Int) := fun env h => (m env h).bind fun x h1 => match x with
  | .int i => .ok (some i) h1
  | _ => .no
theorem deno_none : DenO X B none oNone := PO.imp po_none fun σ H Q ⟨ρ, h, env, R, E, g⟩ => g.ok0 R rfl
theorem deno_some (he : Den X B e me) : DenO X B (some e) (oSome me) := PO.imp (po_some he) fun σ H Q ⟨ρ, h, env, R, E, g⟩ => (tR_bind ⟨R, E⟩ g).imp fun v H1 ⟨ρ1, h1, x, A1, e1, rx, g1⟩ => by
  split at g1
  · cases rx; exact ⟨_, rfl, g1.ok0 A1.R rfl⟩
  · exact g1.elim
def mSl (m : M) (l u : Env → MH → R (Option Int)) : M := fun env h => (m env h).bind fun x h1 => (l env h1).bind fun i h2 => (u env h2).bind fun j h3 => fSl x i j h3
theorem den_sl {ol oh : Option Expr} {l u : Env → MH → R (Option Int)} (ha : Den X B a ma) (hl : DenO X B ol l) (hu : DenO X B oh u) : Den X B (.Subscript a (.Slice ol oh none p2) pos) (mSl ma l u) :=
  PE.imp (pe_slice sl_all ha hl hu) fun σ H Q ⟨ρ, h, env, R, E, g⟩ => (tR_bind ⟨R, E⟩ g).imp fun v H1 ⟨ρ1, h1, x, A1, e1, rx, g1⟩ => (tR_bind A1 g1).imp fun i H2 ⟨ρ2, h2, i', A2, e2, ri, g2⟩ => (tR_bind A2 g2).imp fun j H3 ⟨ρ3, h3, j', A3, e3, rj, g3⟩ => by
    subst ri rj
    exact sl_ok A3.R ((rx.ext A1.R e2).ext A2.R e3) g3
/-! ### xs[i] = v -/
def sSetIx (mv mo mi : M) : S := fun env h => (mv env h).st env fun v h1 => (mo env h1).st env fun o h2 => (mi env h2).st env fun i h3 => match o, i with
  | .loc n, .int k => (match h3[n]? with
    | some (.lst ds) => (match ixN ds.length k with
      | some j => .nx env (h3.set n (.lst (ds.set j v)))
      | none => .no)
    | _ => .no)
  | _, _ => .no
theorem dens_setIx {o i : Expr} {mo mi : M} {pos' : Pos} (he : Den X B e me) (ho : Den X B o mo) (hi : Den X B i mi)
    (ha : ∀ v, assign (.Subscript o i pos') X.env v = (do
      let ov ← holding [v] (eval o X.env)
      let iv ← holding [v, ov] (eval i X.env)
      standAt pos'
      holding [v, ov, iv] (setItem ov iv v)
      release [v, ov, iv] []) := by intro _; rfl)
    (hs : swapsWithSole [.Subscript o i pos'] e pos.line X.env = pure false := by rfl) (hw : swappedStores [.Subscript o i pos'] e X.env = pure none := by rfl) (h1 : (assignEach [.Subscript o i pos'] X.env).map (·.2) = [assign (.Subscript o i pos') X.env] := by rfl) :
    DenS X B (.Assign [.Subscript o i pos'] e pos) (sSetIx me mo mi) :=
  PS.imp (ps_asg he (pg_sub ho hi set_list ha) hs hw h1) fun D σ H ⟨ρ, h, env, R, E, g⟩ => (tR_st ⟨R, E⟩ g).imp fun v H1 ⟨ρ1, h1, x, A1, e1, rx, g1⟩ => (tR_st A1 g1).imp fun ov H2 ⟨ρ2, h2, o', A2, e2, ro, g2⟩ => (tR_st A2 g2).imp fun iv H3 ⟨ρ3, h3, i', A3, e3, ri, g3⟩ => by
    split at g3
    · split at g3
      · rename_i ds q
        split at g3
        · rename_i j qj
          cases ri
          cases (ro.ext A2.R e3) with
          | @loc _ l ql =>
            obtain ⟨vs, hv, rs⟩ := A3.R.lst ql q
            have rx3 := (rx.ext A1.R e2).ext A2.R e3
            refine ⟨l, vs, _, j, rfl, rfl, hv, by rw [← rs.length]; exact qj, ?_⟩
            have x4 : Ext ρ3 H3 ρ3 (upd H3 l (.lst (vs.set j v))) := Ext.chg ql
            exact g3 ρ3 σ _ (A3.R.chg ql ⟨_, upd_same, (rs.set rx3 j).ext A3.R x4⟩) x4 (A3.E.ext A3.R x4)
        · exact g3.elim
      · exact g3.elim
    · exact g3.elim
end
/-! ### methods -/
section
variable {K : PySem.W.Frag} {B : WB} {σ : St} {ρ ρ' : List Addr} {H H' : Hp} {h : MH} {env : Env}
def tyM (T : String) (h : MH) (d : D) : Bool := match d with
  | .str _ => T == "str"
  | .rol _ => T == "list"
  | .loc n => match h[n]? with
    | some (.lst _) => T == "list"
    | some (.dic _) => T == "dict"
    | some (.dit _) => T == "dict"
    | _ => false
  | _ => false
theorem tyM_ok {T : String} {d : D} {v : V} (R : HR K ρ h H) (r : RV K ρ H d v) (e : tyM T h d = true) : tyV K T v H := by
  cases r with
  | str s => exact eq_of_beq e
  | @rol a ds vs q rs => exact .inl ⟨eq_of_beq e, vs, q.l⟩
  | @loc n a q =>
    unfold tyM at e
    dsimp only at e
    split at e
    · obtain ⟨vs, hv, _⟩ := R.lst q ‹_›; exact .inl ⟨eq_of_beq e, vs, SqL.lst hv⟩
    · obtain ⟨vs, hv, _⟩ := R.dic q ‹_›; exact .inr (.inr (.inl ⟨eq_of_beq e, .inl ⟨vs, hv⟩⟩))
    · obtain ⟨vs, hv, _⟩ := R.dit q ‹_›; exact .inr (.inr (.inl ⟨eq_of_beq e, .inr ⟨vs, hv⟩⟩))
    · cases e
  | _ => cases e
def MethM (K : PySem.W.Frag) (B : WB) (r : V → List V → Hp → VK → Prop) (f : D → List D → MH → R D) : Prop := ∀ {σ : St} {ρ : List Addr} {h : MH} {H : Hp} {Q : VK} {x : D} {v : V} {xs : List D} {vs : List V}, HR K ρ h H → RV K ρ H x v → RVs K ρ H xs vs → Good K B (rD K) σ ρ H Q (f x xs h) → r v vs H Q
def mMeth (T : String) (f : D → List D → MH → R D) (o : M) (a : MA) : M := fun env h => (o env h).bind fun x h1 => if tyM T h1 x = true then (a env h1).bind fun xs h2 => f x xs h2 else .no
end
section
variable {X : Cx} {B : WB} {o e : Expr} {es : List Expr} {mo me : M} {ms : MA} {pos apos cpos : Pos}
theorem den_bm {T id : String} {name : Str} {r : V → List V → Hp → VK → Prop} {f : D → List D → MH → R D} (hf : MethM X.K B r f) (pa : PlainAttrs T) (slot : Slot T name id) (hty : typeOf (.builtin id) = pure (.type "method_descriptor")) (hm : MtR X id r) (ho : Den X B o mo) (ha : DenA X B (e :: es) ms)
    (p : PE X (.Call (.Attribute o name apos) (e :: es) [] cpos) (tBM X.K T r (tM X.K B mo) (tMs X.K B ms))) : Den X B (.Call (.Attribute o name apos) (e :: es) [] cpos) (mMeth T f mo ms) :=
  PE.imp p fun σ H Q ⟨ρ, h, env, R, E, g⟩ => (tR_bind ⟨R, E⟩ g).imp fun v H1 ⟨ρ1, h1, x, A1, e1, rx, g1⟩ => by
    obtain ⟨ht, g2⟩ := good_if g1
    exact ⟨tyM_ok A1.R rx ht, (tR_bind A1 g2).imp fun vs H2 ⟨ρ2, h2, xs, A2, e2, rs, g3⟩ => hf A2.R (rx.ext A1.R e2) rs g3⟩
theorem den_bm0 {T id : String} {name : Str} {r : V → List V → Hp → VK → Prop} {f : D → List D → MH → R D} (hf : MethM X.K B r f) (p : PE X (.Call (.Attribute o name apos) [] [] cpos) (tBM0 X.K T r (tM X.K B mo))) : Den X B (.Call (.Attribute o name apos) [] [] cpos) (mMeth T f mo aNil) :=
  PE.imp p fun σ H Q ⟨ρ, h, env, R, E, g⟩ => (tR_bind ⟨R, E⟩ g).imp fun v H1 ⟨ρ1, h1, x, A1, e1, rx, g1⟩ => by
    obtain ⟨ht, g2⟩ := good_if g1
    exact ⟨tyM_ok A1.R rx ht, hf A1.R rx .nil g2⟩
end
section
variable {K : PySem.W.Frag} {B : WB} {ρ : List Addr} {H : Hp} {h : MH}
def fAppend (x : D) (xs : List D) (h : MH) : R D := match x, xs with
  | .loc n, [d] => match h[n]? with
    | some (.lst ds) => if ds.length < sizeLine then .ok .non (h.set n (.lst (ds ++ [d]))) else .no
    | _ => .no
  | _, _ => .no
theorem append_ok : MethM K B rAppend fAppend := by
  intro σ ρ h H Q x v xs vs R rx rs g
  unfold fAppend at g
  split at g
  · split at g
    · rename_i ds q
      obtain ⟨hl, g⟩ := good_if g
      obtain ⟨w, rfl, rw'⟩ := rs.one
      cases rx with
      | @loc _ l ql =>
        obtain ⟨ws, hv, r⟩ := R.lst ql q
        have x4 : Ext ρ H ρ (upd H l (.lst (ws ++ [w]))) := Ext.chg ql
        exact ⟨l, ws, w, rfl, rfl, hv, by rw [← r.length]; exact hl, g.ok (R.chg ql ⟨_, upd_same, (r.append (.cons rw' .nil)).ext R x4⟩) x4 .non⟩
    · exact g.elim
  · exact g.elim
def fExtend (x : D) (xs : List D) (h : MH) : R D := match x, xs with
  | .loc n, [.loc m] => match h[n]?, h[m]? with
    | some (.lst ds), some (.lst es) => if ds.length + es.length ≤ sizeLine then .ok .non (h.set n (.lst (ds ++ es))) else .no
    | _, _ => .no
  | _, _ => .no
theorem extend_ok : MethM K B rExtend fExtend := by
  intro σ ρ h H Q x v xs vs R rx rs g
  unfold fExtend at g
  split at g
  · split at g
    · rename_i ds es q q'
      obtain ⟨hl, g⟩ := good_if g
      obtain ⟨w, rfl, rw'⟩ := rs.one
      cases rx with
      | @loc _ l ql =>
        cases rw' with
        | @loc _ l' ql' =>
          obtain ⟨ws, hv, r⟩ := R.lst ql q
          obtain ⟨ws', hv', r'⟩ := R.lst ql' q'
          have x4 : Ext ρ H ρ (upd H l (.lst (ws ++ ws'))) := Ext.chg ql
          exact ⟨l, l', ws, ws', rfl, rfl, hv, hv', by rw [← r.length, ← r'.length]; exact hl, g.ok (R.chg ql ⟨_, upd_same, (r.append r').ext R x4⟩) x4 .non⟩
    · exact g.elim
  · exact g.elim
def fPop (x : D) (xs : List D) (h : MH) : R D := match x, xs with
  | .loc n, [] => match h[n]? with
    | some (.lst ds) => (match ds[ds.length - 1]? with
      | some d => .ok d (h.set n (.lst ds.dropLast))
      | none => .no)
    | _ => .no
  | .loc n, [.int i] => match h[n]? with
    | some (.lst ds) => if -(2 ^ 63) ≤ i ∧ i < 2 ^ 63 then (match seqIndex? i ds.length with
      | some k => (match ds[k]? with
        | some d => .ok d (h.set n (.lst (ds.eraseIdx k)))
        | none => .no)
      | none => .no) else .no
    | _ => .no
  | _, _ => .no
abbrev rPopAll : V → List V → Hp → VK → Prop := fun x vs H Q => rPop x vs H Q ∨ rPopAt x vs H Q
theorem mt_popAll {X : Cx} : MtR X "list.pop" rPopAll := MtR.or mt_pop mt_popAt
theorem RVs.eraseIdx : ∀ {ds : List D} {vs : List V} (i : Nat), RVs K ρ H ds vs → RVs K ρ H (ds.eraseIdx i) (vs.eraseIdx i)
  | _, _, _, .nil => .nil
  | _, _, 0, .cons _ t => t
  | _, _, i + 1, .cons r t => .cons r (RVs.eraseIdx i t)
theorem RVs.dropLast {ds : List D} {vs : List V} (r : RVs K ρ H ds vs) : RVs K ρ H ds.dropLast vs.dropLast := by
  rw [List.dropLast_eq_take, List.dropLast_eq_take, r.length]
  exact r.take _
theorem pop_ok : MethM K B rPopAll fPop := by
  intro σ ρ h H Q x v xs vs R rx rs g
  unfold fPop at g
  split at g
  · split at g
    · rename_i ds q
      split at g
      · rename_i d qd
        cases rs
        cases rx with
        | @loc _ l ql =>
          obtain ⟨ws, hv, r⟩ := R.lst ql q
          obtain ⟨w, h1, h2⟩ := r.get qd
          have x4 : Ext ρ H ρ (upd H l (.lst ws.dropLast)) := Ext.chg ql
          exact .inl ⟨l, ws, w, rfl, rfl, hv, by rw [← r.length]; exact h1, g.ok (R.chg ql ⟨_, upd_same, r.dropLast.ext R x4⟩) x4 (h2.ext R x4)⟩
      · exact g.elim
    · exact g.elim
  · split at g
    · rename_i ds q
      obtain ⟨hl, g⟩ := good_if g
      split at g
      · rename_i k qk
        split at g
        · rename_i d qd
          obtain ⟨w', rfl, rw'⟩ := rs.one
          cases rw'
          cases rx with
          | @loc _ l ql =>
            obtain ⟨ws, hv, r⟩ := R.lst ql q
            obtain ⟨w, h1, h2⟩ := r.get qd
            have x4 : Ext ρ H ρ (upd H l (.lst (ws.eraseIdx k))) := Ext.chg ql
            exact .inr ⟨l, ws, _, k, w, rfl, rfl, hv, hl.1, hl.2, by rw [← r.length]; exact qk, h1, g.ok (R.chg ql ⟨_, upd_same, (r.eraseIdx k).ext R x4⟩) x4 (h2.ext R x4)⟩
        · exact g.elim
      · exact g.elim
    · exact g.elim
  · exact g.elim
/-! texts -/
def fSplit (x : D) (xs : List D) (h : MH) : R D := match x, xs with
  | .str a, [.str b] => if (b.length == 0) = false ∧ a.length + 2 ≤ sizeLine then newL ((Txt.split a b).map D.str) h else .no
  | _, _ => .no
theorem split_ok : MethM K B (fun x xs H Q => ∃ a b, x = .str a ∧ xs = [.str b] ∧ (b.length == 0) = false ∧ a.length + 2 ≤ sizeLine ∧ rNewStrs (Txt.split a b) H Q) fSplit := by
  intro σ ρ h H Q x v xs vs R rx rs g
  unfold fSplit at g
  split at g
  · obtain ⟨hl, g⟩ := good_if g
    obtain ⟨w, rfl, rw'⟩ := rs.one
    cases rx; cases rw'
    exact ⟨_, _, rfl, rfl, hl.1, hl.2, fun p hp => good_newL g R (rvs_strs _) hp⟩
  · exact g.elim
def fPartition (x : D) (xs : List D) (h : MH) : R D := match x, xs with
  | .str a, [.str b] => if (b.length == 0) = false ∧ a.length ≤ sizeLine then .ok (.tup [.str (Txt.partition a b).1, .str (Txt.partition a b).2.1, .str (Txt.partition a b).2.2]) h else .no
  | _, _ => .no
theorem partition_ok : MethM K B (fun x xs H Q => ∃ a b, x = .str a ∧ xs = [.str b] ∧ (b.length == 0) = false ∧ a.length ≤ sizeLine ∧
    ∀ p, H p = none → Q (.ref p) (upd H p (.tup [.str (Txt.partition a b).1, .str (Txt.partition a b).2.1, .str (Txt.partition a b).2.2]))) fPartition := by
  intro σ ρ h H Q x v xs vs R rx rs g
  unfold fPartition at g
  split at g
  · obtain ⟨hl, g⟩ := good_if g
    obtain ⟨w, rfl, rw'⟩ := rs.one
    cases rx; cases rw'
    exact ⟨_, _, rfl, rfl, hl.1, hl.2, fun p hp => good_newT g R (.cons (.str _) (.cons (.str _) (.cons (.str _) .nil))) hp⟩
  · exact g.elim
def fStarts (x : D) (xs : List D) (h : MH) : R D := match x, xs with
  | .str a, [.str b] => .ok (.bl (Txt.startswith a b)) h
  | _, _ => .no
theorem starts_ok : MethM K B (fun x xs H Q => ∃ a b, x = .str a ∧ xs = [.str b] ∧ Q (.bl (Txt.startswith a b)) H) fStarts := by
  intro σ ρ h H Q x v xs vs R rx rs g
  unfold fStarts at g
  split at g
  · obtain ⟨w, rfl, rw'⟩ := rs.one
    cases rx; cases rw'
    exact ⟨_, _, rfl, rfl, g.ok0 R (.bl _)⟩
  · exact g.elim
def fJoin (x : D) (xs : List D) (h : MH) : R D := match x, xs with
  | .str a, [d] => match (seqOf h d).bind strsOf with
    | some ys => if (ys.map (·.length)).sum + ys.length * a.length ≤ 16777216 then .ok (.str (Txt.join a ys)) h else .no
    | none => .no
  | _, _ => .no
theorem join_ok : MethM K B (fun x xs H Q => ∃ a p, ∃ ys : List Str, x = .str a ∧ xs = [.ref p] ∧ (SqL K H p (ys.map V.str) ∨ SqT K H p (ys.map V.str)) ∧
    (ys.map (·.length)).sum + ys.length * a.length ≤ 16777216 ∧ Q (.str (Txt.join a ys)) H) fJoin := by
  intro σ ρ h H Q x v xs vs R rx rs g
  unfold fJoin at g
  split at g
  · split at g
    · rename_i d _ ys e
      obtain ⟨hl, g⟩ := good_if g
      obtain ⟨w, rfl, rw'⟩ := rs.one
      cases rx
      cases q : seqOf h d with
      | none => rw [q] at e; cases e
      | some ds =>
        rw [q] at e
        obtain ⟨p, ws, rfl, s, rs'⟩ := seqOf_ok R rw' q
        have ew := strsOf_ok rs' e
        subst ew
        exact ⟨_, p, ys, rfl, rfl, s, hl, g.ok0 R (.str _)⟩
    · exact g.elim
  · exact g.elim
end
end MP
set_option Elab.async false
set_option linter.all false
set_option maxRecDepth 100000
set_option maxHeartbeats 2000000
/-! M7: dicts, f-strings, parallel stores. -/
namespace MP
open PySem PySem.Spec L2
section
variable {κ : Type} [DecidableEq κ]
def dGet (kvs : List (κ × D)) (k : κ) : Option D := (kvs.find? fun kv => decide (kv.1 = k)).map (·.2)
def dPut (kvs : List (κ × D)) (k : κ) (v : D) : List (κ × D) :=
  if (kvs.any fun kv => decide (kv.1 = k)) = true then kvs.map (fun kv => if kv.1 = k then (kv.1, v) else kv) else kvs ++ [(k, v)]
def dMerge (kvs more : List (κ × D)) : List (κ × D) := more.foldl (fun acc kv => dPut acc kv.1 kv.2) kvs
variable {K : PySem.W.Frag} {ρ : List Addr} {H : Hp}
theorem RKs.get (k : κ) : ∀ {ds : List (κ × D)} {vs : List (κ × V)} , RKs K ρ H ds vs → (dGet ds k = none ∧ valV vs k = none) ∨ ∃ d v, dGet ds k = some d ∧ valV vs k = some v ∧ RV K ρ H d v
  | _, _, .nil => .inl ⟨rfl, rfl⟩
  | _, _, @RKs.cons _ _ _ _ k' d v ds vs r t => by
    unfold dGet valV
    by_cases h : k' = k
    · right; exact ⟨d, v, by simp [List.find?_cons, h], by simp [List.find?_cons, h], r⟩
    · have := RKs.get k t
      unfold dGet valV at this
      simpa [List.find?_cons, h] using this
theorem RKs.any (k : κ) : ∀ {ds : List (κ × D)} {vs : List (κ × V)} , RKs K ρ H ds vs → (vs.any fun kv => decide (kv.1 = k)) = ds.any fun kv => decide (kv.1 = k)
  | _, _, .nil => rfl
  | _, _, .cons r t => by simp only [List.any_cons, RKs.any k t]
theorem RKs.app {ds es : List (κ × D)} {vs ws : List (κ × V)} (r : RKs K ρ H ds vs) (s : RKs K ρ H es ws) : RKs K ρ H (ds ++ es) (vs ++ ws) := by
  induction r with
  | nil => exact s
  | cons a b ih => exact .cons a ih
theorem RKs.upd (k : κ) {d : D} {v : V} (q : RV K ρ H d v) : ∀ {ds : List (κ × D)} {vs : List (κ × V)} , RKs K ρ H ds vs → RKs K ρ H (ds.map fun kv => if kv.1 = k then (kv.1, d) else kv) (vs.map fun kv => if kv.1 = k then (kv.1, v) else kv)
  | _, _, .nil => .nil
  | _, _, @RKs.cons _ _ _ _ k' d' v' ds vs r t => by
    rw [List.map_cons, List.map_cons]
    by_cases h : k' = k
    · simp only [h, if_true]; exact .cons q (RKs.upd k q t)
    · simp only [h, if_false]; exact .cons r (RKs.upd k q t)
theorem RKs.put (k : κ) {d : D} {v : V} (q : RV K ρ H d v) {ds : List (κ × D)} {vs : List (κ × V)} (r : RKs K ρ H ds vs) : RKs K ρ H (dPut ds k d) (putK vs k v) := by
  unfold dPut putK
  rw [r.any k]
  split
  · exact r.upd k q
  · exact r.app (.cons q .nil)
theorem RKs.length {ds : List (κ × D)} {vs : List (κ × V)} (r : RKs K ρ H ds vs) : ds.length = vs.length := by
  induction r with
  | nil => rfl
  | cons a b ih => simp [ih]
theorem dPut_len (kvs : List (κ × D)) (k : κ) (v : D) : (dPut kvs k v).length ≤ kvs.length + 1 := by
  unfold dPut; split <;> simp
end
theorem RKs.merge {K : PySem.W.Frag} {ρ : List Addr} {H : Hp} {ds : List (Key × D)} {vs : List (Key × V)} (r : RKs K ρ H ds vs) : ∀ {es : List (Key × D)} {ws : List (Key × V)}, RKs K ρ H es ws → RKs K ρ H (dMerge ds es) (mergeK vs ws) := by
  intro es ws s
  induction s generalizing ds vs with
  | nil => exact r
  | cons a b ih => exact ih (r.put _ a)
/-- a key -/
def kD : D → Option Key
  | .int i => some (.inl i)
  | .str s => some (.inr s)
  | _ => none
def kDs : List D → Option (List Key)
  | [] => some []
  | d :: ds => match kD d, kDs ds with
    | some k, some ks => some (k :: ks)
    | _, _ => none
def dK : Key → D
  | .inl i => .int i
  | .inr s => .str s
section
variable {K : PySem.W.Frag} {ρ : List Addr} {H : Hp}
theorem kD_ok {d : D} {v : V} {k : Key} (r : RV K ρ H d v) (e : kD d = some k) : v = kV k := by
  cases r <;> first | (cases e; rfl) | cases e
theorem kDs_ok : ∀ {ds : List D} {vs : List V} {ks : List Key}, RVs K ρ H ds vs → kDs ds = some ks → vs = ks.map kV
  | _, _, _, .nil, e => by cases e; rfl
  | d :: ds, _, ks, .cons r t, e => by
    simp only [kDs] at e
    cases h1 : kD d with
    | none => rw [h1] at e; simp at e
    | some k =>
      cases h2 : kDs ds with
      | none => rw [h1, h2] at e; simp at e
      | some ks' => rw [h1, h2] at e; simp at e; subst e; rw [kD_ok r h1, kDs_ok t h2]; rfl
end
/-- what stands under a key, if any; none: no such dict, no such key -/
def dLook (h : MH) (d k : D) : Option (Option D) := match d with
  | .loc n => match h[n]? with
    | some (.dic kvs) => (kD k).map fun k => dGet kvs k
    | some (.dit kvs) => (match k with
      | .tup ds => (kDs ds).map fun k => dGet kvs k
      | _ => none)
    | _ => none
  | _ => none
section
variable {K : PySem.W.Frag} {B : WB} {ρ : List Addr} {H : Hp} {h : MH}
theorem dLook_ok {d k : D} {v w : V} {o : Option D} (R : HR K ρ h H) (r : RV K ρ H d v) (rk : RV K ρ H k w) (e : dLook h d k = some o) : ∃ a, v = .ref a ∧ IsD H a ∧ ∃ u, DGet H a w u ∧ ((o = none ∧ u = none) ∨ ∃ x y, o = some x ∧ u = some y ∧ RV K ρ H x y) := by
  cases r with
  | @loc n a q =>
    unfold dLook at e
    dsimp only at e
    split at e
    · rename_i kvs qk
      obtain ⟨vs, hv, rv⟩ := R.dic q qk
      cases q1 : kD k with
      | none => rw [q1] at e; cases e
      | some key =>
        rw [q1] at e
        simp only [Option.map_some, Option.some.injEq] at e
        subst e
        refine ⟨a, rfl, .inl ⟨vs, .inl hv⟩, valV vs key, .inl ⟨vs, key, .inl hv, kD_ok rk q1, rfl⟩, ?_⟩
        rcases rv.get key with ⟨h1, h2⟩ | ⟨x, y, h1, h2, h3⟩
        · exact .inl ⟨h1, h2⟩
        · exact .inr ⟨x, y, h1, h2, h3⟩
    · rename_i kvs qk
      obtain ⟨vs, hv, rv⟩ := R.dit q qk
      split at e
      · rename_i ds
        cases q1 : kDs ds with
        | none => rw [q1] at e; cases e
        | some key =>
          rw [q1] at e
          simp only [Option.map_some, Option.some.injEq] at e
          subst e
          cases rk with
          | @tup b _ ws eb rs =>
            have := kDs_ok rs q1
            subst this
            refine ⟨a, rfl, .inr ⟨vs, .inl hv⟩, valV vs key, .inr ⟨vs, key, b, .inl hv, rfl, eb, rfl⟩, ?_⟩
            rcases rv.get key with ⟨h1, h2⟩ | ⟨x, y, h1, h2, h3⟩
            · exact .inl ⟨h1, h2⟩
            · exact .inr ⟨x, y, h1, h2, h3⟩
      · cases e
    · cases e
  | _ => cases e
end
def fDGet (d k : D) (h : MH) : R D := match dLook h d k with
  | some (some x) => .ok x h
  | _ => .no
def fDIn (k d : D) (h : MH) : R D := match dLook h d k with
  | some o => .ok (.bl o.isSome) h
  | _ => .no
def fDNotIn (k d : D) (h : MH) : R D := match dLook h d k with
  | some o => .ok (.bl (!o.isSome)) h
  | _ => .no
section
variable {X : Cx} {B : WB} {a b e o i : Expr} {ma mb me mo mi : M} {ms : MA} {pos p2 apos cpos : Pos}
theorem den_dget (hu : X.A.units + 1 < cLine) (ha : Den X B a ma) (hb : Den X B b mb) (hs : NoSl b := by intro _ _; rfl) : Den X B (.Subscript a b pos) (mBin fDGet ma mb) :=
  PE.imp (pe_dget hu ha hb hs) fun σ H Q ⟨ρ, h, env, R, E, g⟩ => (tR_bind ⟨R, E⟩ g).imp fun v H1 ⟨ρ1, h1, x, A1, e1, rx, g1⟩ => (tR_bind A1 g1).imp fun w H2 ⟨ρ2, h2, y, A2, e2, ry, g2⟩ => by
    unfold fDGet at g2
    split at g2
    · rename_i d q
      obtain ⟨a, rfl, _, u, hu, hh⟩ := dLook_ok A2.R (rx.ext A1.R e2) ry q
      rcases hh with ⟨h1, _⟩ | ⟨x', y', h1, h2, h3⟩
      · cases h1
      · cases h1; subst h2
        exact ⟨a, y', rfl, hu, g2.ok0 A2.R h3⟩
    · exact g2.elim
theorem den_din (hu : X.A.units + 1 < cLine) (ha : Den X B a ma) (hb : Den X B b mb) (h1 : behindInMarks .In b = false := by first | exact nobehind _ (by decide) (by decide) | rfl) : Den X B (.Compare a [.In] [b] pos) (mBin fDIn ma mb) :=
  PE.imp (pe_cmp (pc_din hu ha hb) h1) fun σ H Q ⟨ρ, h, env, R, E, g⟩ => (tR_bind ⟨R, E⟩ g).imp fun v H1 ⟨ρ1, h1, x, A1, e1, rx, g1⟩ => (tR_bind A1 g1).imp fun w H2 ⟨ρ2, h2, y, A2, e2, ry, g2⟩ => by
    unfold fDIn at g2
    split at g2
    · rename_i d q
      obtain ⟨a, rfl, _, u, hu, hh⟩ := dLook_ok A2.R ry (rx.ext A1.R e2) q
      refine ⟨a, u, rfl, hu, ?_⟩
      have : u.isSome = d.isSome := by
        rcases hh with ⟨h1, h2⟩ | ⟨x', y', h1, h2, h3⟩ <;> rw [h1, h2] <;> rfl
      rw [this]
      exact g2.ok0 A2.R (.bl _)
    · exact g2.elim
theorem dent_din (hu : X.A.units + 1 < cLine) (ha : Den X B a ma) (hb : Den X B b mb) (h1 : behindInMarks .In b = false := by first | exact nobehind _ (by decide) (by decide) | rfl) : DenT X B (.Compare a [.In] [b] pos) (mTest (mBin fDIn ma mb)) :=
  PT.imp (pt_cmp (pc_din hu ha hb) h1) fun σ H Q t => by
    have t2 := test_imp σ H Q t
    obtain ⟨ρ, h, env, R, E, g⟩ := t2
    exact (tR_bind ⟨R, E⟩ g).imp fun v H1 ⟨ρ1, h1, x, A1, e1, rx, g1⟩ => (tR_bind A1 g1).imp fun w H2 ⟨ρ2, h2, y, A2, e2, ry, g2⟩ => by
      unfold fDIn at g2
      split at g2
      · rename_i d q
        obtain ⟨a, rfl, _, u, hu, hh⟩ := dLook_ok A2.R ry (rx.ext A1.R e2) q
        refine ⟨a, u, rfl, hu, ?_⟩
        have : u.isSome = d.isSome := by
          rcases hh with ⟨h1, h2⟩ | ⟨x', y', h1, h2, h3⟩ <;> rw [h1, h2] <;> rfl
        rw [this]
        exact g2.ok0 A2.R (.bl _)
      · exact g2.elim
/-! ### d[k] = v -/
def sDPutM (mv mo mi : M) : S := fun env h => (mv env h).st env fun v h1 => (mo env h1).st env fun o h2 => (mi env h2).st env fun k h3 => match o with
  | .loc n => (match h3[n]? with
    | some (.dic kvs) => (match kD k with
      | some key => if kvs.length < sizeLine then .nx env (h3.set n (.dic (dPut kvs key v))) else .no
      | none => .no)
    | some (.dit kvs) => (match k with
      | .tup ds => (match kDs ds with
        | some key => if kvs.length < sizeLine then .nx env (h3.set n (.dit (dPut kvs key v))) else .no
        | none => .no)
      | _ => .no)
    | _ => .no)
  | _ => .no
theorem good_ifS {K : PySem.W.Frag} {ρ : List Addr} {H : Hp} {σ : St} {D : Ends} {p : Prop} [Decidable p] {r : RS} (g : GoodS K B D σ ρ H (if p then r else .no)) : p ∧ GoodS K B D σ ρ H r := by
  split at g
  · exact ⟨‹_›, g⟩
  · exact g.elim
theorem dens_dput {pos' : Pos} (hu : X.A.units + 1 < cLine) (ho : Den X B o mo) (hi : Den X B i mi) (hv : Den X B e me) (hs : swapsWith e (some (.Subscript o i pos')) pos.line X.env = pure false := by rfl) : DenS X B (.Assign [.Subscript o i pos'] e pos) (sDPutM me mo mi) :=
  PS.imp (ps_dput hu ho hi hv hs) fun D σ H ⟨ρ, h, env, R, E, g⟩ => (tR_st ⟨R, E⟩ g).imp fun v H1 ⟨ρ1, h1, x, A1, e1, rx, g1⟩ => (tR_st A1 g1).imp fun ov H2 ⟨ρ2, h2, o', A2, e2, ro, g2⟩ => (tR_st A2 g2).imp fun kv H3 ⟨ρ3, h3, k', A3, e3, rk, g3⟩ => by
    have rx3 := (rx.ext A1.R e2).ext A2.R e3
    have ro3 := ro.ext A2.R e3
    split at g3
    · split at g3
      · rename_i kvs q
        split at g3
        · rename_i key qk
          obtain ⟨hl, g3⟩ := good_ifS g3
          cases ro3 with
          | @loc _ l ql =>
            obtain ⟨vs, hv, rs⟩ := A3.R.dic ql q
            have x4 : Ext ρ3 H3 ρ3 (upd H3 l (.dK (putK vs key v))) := Ext.chg ql
            refine ⟨l, _, rfl, .inl ⟨vs, key, hv, kD_ok rk qk, by rw [← rs.length]; exact hl, rfl⟩, ?_⟩
            exact g3 ρ3 σ _ (A3.R.chg ql ⟨_, upd_same, (rs.put key rx3).kp (A3.R.kp x4)⟩) x4 (A3.E.ext A3.R x4)
        · exact g3.elim
      · rename_i kvs q
        split at g3
        · split at g3
          · rename_i ds key qk
            obtain ⟨hl, g3⟩ := good_ifS g3
            cases ro3 with
            | @loc _ l ql =>
              cases rk with
              | @tup b _ ws eb rks =>
                have := kDs_ok rks qk
                subst this
                obtain ⟨vs, hv, rs⟩ := A3.R.dit ql q
                have x4 : Ext ρ3 H3 ρ3 (upd H3 l (.dT (putK vs key v))) := Ext.chg ql
                refine ⟨l, _, rfl, .inr ⟨vs, key, b, hv, rfl, eb, by rw [← rs.length]; exact hl, rfl⟩, ?_⟩
                exact g3 ρ3 σ _ (A3.R.chg ql ⟨_, upd_same, (rs.put key rx3).kp (A3.R.kp x4)⟩) x4 (A3.E.ext A3.R x4)
          · exact g3.elim
        · exact g3.elim
      · exact g3.elim
    · exact g3.elim
/-! ### {} and {k: v, ..} -/
def mDNew : M := fun _ h => .ok (.loc h.length) (h ++ [.dic []])
def mTNew : M := fun _ h => .ok (.loc h.length) (h ++ [.dit []])
theorem den_dnew : Den X B (.Dict [] [] pos) mDNew := PE.imp pe_dnewK fun σ H Q ⟨ρ, h, env, R, E, g⟩ => fun p hp => g.ok (R.newL hp ⟨_, upd_same, .nil⟩) (Ext.newL hp) (rv_newL R)
theorem den_tnew : Den X B (.Dict [] [] pos) mTNew := PE.imp pe_dnewT fun σ H Q ⟨ρ, h, env, R, E, g⟩ => fun p hp => g.ok (R.newL hp ⟨_, upd_same, .nil⟩) (Ext.newL hp) (rv_newL R)
def dPairs : List (M × M) → Env → MH → R (List (D × D))
  | [], _, h => .ok [] h
  | p :: ps, env, h => (p.1 env h).bind fun x h1 => (p.2 env h1).bind fun y h2 => (dPairs ps env h2).bind fun r h3 => .ok ((x, y) :: r) h3
def keysOf : List (D × D) → Option (List (Key × D))
  | [] => some []
  | p :: r => match kD p.1, keysOf r with
    | some k, some ks => some ((k, p.2) :: ks)
    | _, _ => none
def mDisp (mps : List (M × M)) : M := fun env h => (dPairs mps env h).bind fun ps h1 => match keysOf ps with
  | some kvs => if kvs.length ≤ 15 then .ok (.loc h1.length) (h1 ++ [.dic (dMerge [] kvs)]) else .no
  | none => .no
abbrev trP (K : PySem.W.Frag) (B : WB) (mps : List (M × M)) : List (TE × TE) := mps.map fun p => (tM K B p.1, tM K B p.2)
abbrev DenPs (X : Cx) (B : WB) (pos : Pos) (ks : List (Option Expr)) (vs : List Expr) (mps : List (M × M)) := PPs X pos ks vs (trP X.K B mps)
theorem denps_nil : DenPs X B pos [] [] [] := pps_nil
theorem denps_cons {k v : Expr} {ks : List (Option Expr)} {vs : List Expr} {mk mv : M} {mps : List (M × M)} (hk : Den X B k mk) (hv : Den X B v mv) (hr : DenPs X B pos ks vs mps) : DenPs X B pos (some k :: ks) (v :: vs) ((mk, mv) :: mps) := pps_cons hk hv hr
inductive RPs (K : PySem.W.Frag) (ρ : List Addr) (H : Hp) : List (D × D) → List (V × V) → Prop where
  | nil : RPs K ρ H [] []
  | cons {a b : D} {v w : V} {ds : List (D × D)} {vs : List (V × V)} (r : RV K ρ H a v) (s : RV K ρ H b w) (t : RPs K ρ H ds vs) : RPs K ρ H ((a, b) :: ds) ((v, w) :: vs)
theorem RPs.keys {K : PySem.W.Frag} {ρ : List Addr} {H : Hp} : ∀ {ds : List (D × D)} {vs : List (V × V)} {kvs : List (Key × D)}, RPs K ρ H ds vs → keysOf ds = some kvs → ∃ ws, vs = ws.map (fun kv => (kV kv.1, kv.2)) ∧ RKs K ρ H kvs ws
  | _, _, _, .nil, e => by cases e; exact ⟨[], rfl, .nil⟩
  | _, _, kvs, @RPs.cons _ _ _ a b v w ds vs r s t, e => by
    simp only [keysOf] at e
    cases h1 : kD a with
    | none => rw [h1] at e; simp at e
    | some k =>
      cases h2 : keysOf ds with
      | none => rw [h1, h2] at e; simp at e
      | some ks =>
        rw [h1, h2] at e; simp at e; subst e
        obtain ⟨ws, rfl, q⟩ := RPs.keys t h2
        exact ⟨(k, w) :: ws, by rw [kD_ok r h1]; rfl, .cons s q⟩
theorem tR_bindA {K : PySem.W.Frag} {σ : St} {α β γ δ : Type} {rel : Rel α β} {rel' : Rel γ δ} {P : δ → Hp → Prop} {ρ0 ρ : List Addr} {h : MH} {H0 H : Hp} {env : Env} {m : Env → MH → R α} {k : α → MH → R γ} (A : At K ρ h H env σ) (x0 : Ext ρ0 H0 ρ H) (g : Good K B rel' σ ρ0 H0 P ((m env h).bind k)) :
    tR K B rel m σ H (fun v H1 => ∃ ρ1 h1 x, At K ρ1 h1 H1 env σ ∧ Ext ρ H ρ1 H1 ∧ rel ρ1 H1 x v ∧ Good K B rel' σ ρ0 H0 P (k x h1)) := by
  refine ⟨ρ, h, env, A.R, A.E, ?_⟩
  cases e : m env h with
  | ok d h' => rw [e] at g; exact fun ρ' v H' a b c => ⟨ρ', h', d, ⟨a, A.E.ext A.R b⟩, b, c, g⟩
  | er c d h' => rw [e] at g; exact fun ρ' y dx H' a b c e => g ρ' y dx H' a (x0.trans b) c e
  | no => rw [e] at g; exact g
theorem pairs_imp {K : PySem.W.Frag} {σ : St} {γ δ : Type} {rel' : Rel γ δ} {P : δ → Hp → Prop} {ρ0 : List Addr} {H0 : Hp} : ∀ (mps : List (M × M)) {ρ : List Addr} {h : MH} {H : Hp} {env : Env} {k : List (D × D) → MH → R γ}, At K ρ h H env σ → Ext ρ0 H0 ρ H → Good K B rel' σ ρ0 H0 P ((dPairs mps env h).bind k) →
    tPairs (trP K B mps) σ H fun ps H1 => ∃ ρ1 h1 xs, At K ρ1 h1 H1 env σ ∧ Ext ρ H ρ1 H1 ∧ RPs K ρ1 H1 xs ps ∧ Good K B rel' σ ρ0 H0 P (k xs h1)
  | [], ρ, h, H, env, k, A, _, g => ⟨ρ, h, [], A, Ext.refl, .nil, g⟩
  | p :: ps, ρ, h, H, env, k, A, x0, g => by
    unfold dPairs at g
    rw [MP.R.bind_assoc] at g
    refine (tR_bindA A x0 g).imp fun v H1 ⟨ρ1, h1, x, A1, e1, rx, g1⟩ => ?_
    rw [MP.R.bind_assoc] at g1
    refine (tR_bindA A1 (x0.trans e1) g1).imp fun w H2 ⟨ρ2, h2, y, A2, e2, ry, g2⟩ => ?_
    rw [MP.R.bind_assoc] at g2
    have := pairs_imp ps (k := fun r h3 => (MP.R.ok ((x, y) :: r) h3).bind k) A2 ((x0.trans e1).trans e2) g2
    refine tPairs_mono this fun qs H3 ⟨ρ3, h3, xs, A3, e3, rs, g3⟩ => ⟨ρ3, h3, (x, y) :: xs, A3, (e1.trans e2).trans e3, .cons ((rx.ext A1.R e2).ext A2.R e3) (ry.ext A2.R e3) rs, g3⟩
where
  tPairs_mono : ∀ {trs : List (M × M)} {σ : St} {H : Hp} {Q Q' : List (V × V) → Hp → Prop}, tPairs (trP K B trs) σ H Q → (∀ ps H, Q ps H → Q' ps H) → tPairs (trP K B trs) σ H Q'
    | [], _, _, _, _, t, f => f _ _ t
    | p :: ps, _, _, _, _, t, f => tR.imp t fun v H1 t1 => tR.imp t1 fun w H2 t2 => tPairs_mono t2 fun qs H3 => f _ _
theorem den_disp {keys : List (Option Expr)} {values : List Expr} {mps : List (M × M)} (h : DenPs X B pos keys values mps) (hall : keys.all (·.isSome) = true := by rfl) (hl : keys.length = values.length := by rfl) (h0 : keys ≠ [] := by intro z; cases z) (h15 : keys.length ≤ 15 := by decide) : Den X B (.Dict keys values pos) (mDisp mps) :=
  PE.imp (pe_disp h hall hl h0 h15) fun σ H Q ⟨ρ, h, env, R, E, g⟩ => fun p hp => by
    have R1 := R.new (o := .dK []) hp
    have x1 : Ext ρ H ρ (upd H p (.dK [])) := Ext.new hp
    have hn : p ∉ ρ := fun ha => by
      obtain ⟨o, q⟩ := R.has ha
      rw [hp] at q; cases q
    have t := pairs_imp mps ⟨R1, E.ext R x1⟩ x1 g
    refine pairs_imp.tPairs_mono t fun ps H2 ⟨ρ2, h2, xs, A2, e2, rs, g2⟩ => ?_
    split at g2
    · rename_i kvs q
      obtain ⟨hl', g3⟩ := good_if g2
      obtain ⟨ws, rfl, rk⟩ := rs.keys q
      have hp2 : H2 p = some (.dK []) := e2.keep p _ upd_same hn
      have hn2 : p ∉ ρ2 := e2.notin upd_same hn
      have t1 : ∀ xs, H2 p ≠ some (.tup xs) := fun xs z => by rw [hp2] at z; cases z
      have t2 : ∀ ob xs, H2 p ≠ some (.frz ob (.lst xs)) := fun ob xs z => by rw [hp2] at z; cases z
      refine ⟨hp2, ws, rfl, by rw [← rk.length]; exact hl', ?_⟩
      have kp3 := kp_adopt (K := X.K) (ρ := ρ2) (p := p) (o := .dK (mergeK [] ws)) t1 t2
      have R3 := A2.R.adopt (o := .dK (mergeK [] ws)) (mo := .dic (dMerge [] kvs)) hn2 t1 t2 ⟨_, upd_same, (RKs.merge .nil rk).kp kp3⟩
      exact Good.ok g3 R3 ((x1.trans e2).adopt hp) (rv_newL A2.R)
    · exact g2.elim
end

/-! ### dict(list of pairs), d.update(e), d.get(k) -/
section
variable {K : PySem.W.Frag} {B : WB} {ρ : List Addr} {H : Hp} {h : MH}
def pairsOf : List D → Option (List (Key × D))
  | [] => some []
  | .tup [k, v] :: r => (match kD k, pairsOf r with
    | some k, some ks => some ((k, v) :: ks)
    | _, _ => none)
  | _ => none
theorem pairsOf_ok : ∀ {ds : List D} {vs : List V} {kvs : List (Key × D)}, RVs K ρ H ds vs → pairsOf ds = some kvs → ∃ (ps : List Addr) (ws : List (Key × V)), vs = ps.map V.ref ∧ Paired (fun p kv => SqT K H p [kV kv.1, kv.2]) ps ws ∧ RKs K ρ H kvs ws
  | _, _, _, .nil, e => by cases e; exact ⟨[], [], rfl, .nil, .nil⟩
  | d :: ds, _, kvs, .cons r t, e => by
    cases r with
    | @tup a es vs ea rs =>
      match es, rs, e with
      | [k, v], rs, e =>
        simp only [pairsOf] at e
        cases h1 : kD k with
        | none => rw [h1] at e; simp at e
        | some key =>
          cases h2 : pairsOf ds with
          | none => rw [h1, h2] at e; simp at e
          | some ks =>
            rw [h1, h2] at e; simp at e; subst e
            obtain ⟨ps, ws, rfl, q, rk⟩ := pairsOf_ok t h2
            obtain ⟨kv, vv, rfl, rkv, rvv⟩ := rs.two
            have := kD_ok rkv h1
            subst this
            exact ⟨a :: ps, (key, vv) :: ws, rfl, .cons (SqT.tup ea) q, .cons rvv rk⟩
      | [], _, e => cases e
      | [_], _, e => cases e
      | _ :: _ :: _ :: _, _, e => cases e
    | _ => cases e
def bDict : List D → MH → R D
  | [d], h => match (lstOf h d).bind pairsOf with
    | some kvs => .ok (.loc h.length) (h ++ [.dic (dMerge [] kvs)])
    | none => match d with
      | .loc n => (match h[n]? with
        | some (.dic kvs) => .ok (.loc h.length) (h ++ [.dic kvs])
        | _ => .no)
      | _ => .no
  | _, _ => .no
abbrev rDictAll (K : PySem.W.Frag) : List V → Hp → VK → Prop := fun xs H Q => (∃ (a : Addr) (ps : List Addr) (kvs : List (Key × V)), xs = [.ref a] ∧ SqL K H a (ps.map V.ref) ∧ Paired (fun p kv => SqT K H p [kV kv.1, kv.2]) ps kvs ∧ ∀ p, H p = none → Q (.ref p) (upd H p (.dK (mergeK [] kvs)))) ∨
  (∃ (a : Addr) (kvs : List (Key × V)), xs = [.ref a] ∧ Rd H a (.dK kvs) ∧ ∀ p, H p = none → Q (.ref p) (upd H p (.dK kvs)))
theorem call_dictAll {X : Cx} (hc : X.calm = true) : CallR X (.type "dict") (rDictAll X.K) := CallR.or (call_dictP hc) call_dictD
theorem dict_ok : CallM K B (rDictAll K) bDict := by
  intro σ ρ h H Q xs vs R r g
  unfold bDict at g
  split at g
  · rename_i d
    obtain ⟨v, rfl, rv⟩ := r.one
    split at g
    · rename_i kvs e
      cases q : lstOf h d with
      | none => rw [q] at e; cases e
      | some ds =>
        rw [q] at e
        obtain ⟨a, us, rfl, s, rs⟩ := lstOf_ok R rv q
        obtain ⟨ps, ws, rfl, hp, rk⟩ := pairsOf_ok rs e
        exact .inl ⟨a, ps, ws, rfl, s, hp, fun p hn => g.ok (R.newL hn ⟨_, upd_same, (RKs.merge .nil rk).kp (R.kp (Ext.newL hn))⟩) (Ext.newL hn) (rv_newL R)⟩
    · split at g
      · split at g
        · rename_i n _ kvs e
          cases rv with
          | @loc _ a q =>
            obtain ⟨ws, hw, rk⟩ := R.dic q ‹_›
            exact .inr ⟨a, ws, rfl, .inl hw, fun p hn => g.ok (R.newL hn ⟨_, upd_same, rk.kp (R.kp (Ext.newL hn))⟩) (Ext.newL hn) (rv_newL R)⟩
        · exact g.elim
      · exact g.elim
  · exact g.elim
def fUpdate (x : D) (xs : List D) (h : MH) : R D := match x, xs with
  | .loc n, [.loc m] => match h[n]?, h[m]? with
    | some (.dic ks), some (.dic ls) => if n ≠ m ∧ ks.length + ls.length ≤ sizeLine then .ok .non (h.set n (.dic (dMerge ks ls))) else .no
    | _, _ => .no
  | _, _ => .no
def rDUpd : V → List V → Hp → VK → Prop := fun x xs H Q => ∃ a b kvs more, x = .ref a ∧ xs = [.ref b] ∧ a ≠ b ∧ H a = some (.dK kvs) ∧ H b = some (.dK more) ∧ kvs.length + more.length ≤ sizeLine ∧ Q .non (upd H a (.dK (mergeK kvs more)))
theorem mt_dupd {X : Cx} : MtR X "dict.update" rDUpd := by
  intro pins s σ H x xs v us Q I rx rs h
  obtain ⟨a, b, kvs, more, rfl, rfl, hne, ha, hb, hl, q⟩ := h
  obtain ⟨u, rfl, ru⟩ := vals1 rs
  obtain rfl : v = Value.ref a := rx
  obtain rfl : u = Value.ref b := ru
  obtain ⟨z, hd, vs, rel, dd⟩ := dk_of I.hok ha
  obtain ⟨z', hd', vs', rel', dd'⟩ := dk_of I.hok hb
  refine call_meetsIn PySem.F.slot_dict_update dd.typeIs PySem.F.entry_dict_update (PySem.F.args_dict_update_2 _ _) (meets_dict_update (mixKind X.prog X.w) a b hne hd') ⟨vs, vs', dd, dd', by rw [← rel.length, ← rel'.length]; exact hl, fun h' d1 d2 hs => ?_⟩
  have he : ∃ q, h'.get? a = some q := let ⟨q, _, _, hq, _⟩ := d1; ⟨q, hq⟩
  exact ⟨.non, _, d_write (t' := s.toks) I (by rw [ha]; exact True.intro) hs he (dk_new (Nat.le_trans (length_mergeK _ _) hl) hd (KV.merge rel' rel) d1), rfl, q⟩
theorem update_ok : MethM K B rDUpd fUpdate := by
  intro σ ρ h H Q x v xs vs R rx rs g
  unfold fUpdate at g
  split at g
  · split at g
    · rename_i n m _ ks ls q q'
      obtain ⟨⟨hne, hl⟩, g⟩ := good_if g
      obtain ⟨w, rfl, rw'⟩ := rs.one
      cases rx with
      | @loc _ l ql =>
        cases rw' with
        | @loc _ l' ql' =>
          obtain ⟨ws, hv, r⟩ := R.dic ql q
          obtain ⟨ws', hv', r'⟩ := R.dic ql' q'
          have x4 : Ext ρ H ρ (upd H l (.dK (mergeK ws ws'))) := Ext.chg ql
          refine ⟨l, l', ws, ws', rfl, rfl, fun z => ?_, hv, hv', by rw [← r.length, ← r'.length]; exact hl, g.ok (R.chg ql ⟨_, upd_same, (r.merge r').kp (R.kp x4)⟩) x4 .non⟩
          subst z
          have h1 := (List.getElem?_eq_some_iff.mp ql)
          have h2 := (List.getElem?_eq_some_iff.mp ql')
          exact hne ((List.getElem_inj R.nd).mp (h1.2.trans h2.2.symm))
    · exact g.elim
  · exact g.elim
end
/-! ### f-strings -/
def fFmt (d : D) (h : MH) : R D := match d with
  | .str y => if y.length ≤ sizeLine then .ok (.str y) h else .no
  | .int i => if i.natAbs.log2 < 1920 then .ok (.str (toString i)) h else .no
  | _ => .no
def mFmt (m : M) : M := fun env h => (m env h).bind fFmt
def mJs : List M → Str → M
  | [], acc => fun _ h => .ok (.str acc) h
  | m :: ms, acc => fun env h => (m env h).bind fun x h1 => match x with
    | .str y => if (acc ++ y).length ≤ sizeLine then mJs ms (acc ++ y) env h1 else .no
    | _ => .no
section
variable {X : Cx} {B : WB} {e : Expr} {es : List Expr} {me : M} {mes : List M} {pos : Pos}
theorem den_fmt (he : Den X B e me) : Den X B (.FormattedValue e (-1) none pos) (mFmt me) := PE.imp (pe_fmt he) fun σ H Q ⟨ρ, h, env, R, E, g⟩ => (tR_bind ⟨R, E⟩ g).imp fun v H1 ⟨ρ1, h1, x, A1, e1, rx, g1⟩ => by
  unfold fFmt at g1
  split at g1
  · obtain ⟨hl, g2⟩ := good_if g1
    cases rx; exact .inl ⟨_, rfl, hl, g2.ok0 A1.R (.str _)⟩
  · obtain ⟨hl, g2⟩ := good_if g1
    cases rx; exact .inr ⟨_, rfl, hl, g2.ok0 A1.R (.str _)⟩
  · exact g1.elim
abbrev DenJ (X : Cx) (B : WB) (es : List Expr) (ms : List M) := PJ X es (ms.map (tM X.K B))
theorem denj_nil : DenJ X B [] [] := .nil
theorem denj_cons (h : Den X B e me) (r : DenJ X B es mes) : DenJ X B (e :: es) (me :: mes) := .cons h r
theorem js_imp {K : PySem.W.Frag} {σ : St} {Q : VK} : ∀ (ms : List M) {acc : Str} {ρ : List Addr} {h : MH} {H : Hp} {env : Env}, At K ρ h H env σ → Good K B (rD K) σ ρ H Q (mJs ms acc env h) → tJs (ms.map (tM K B)) acc σ H fun out H1 => Q (.str out) H1
  | [], acc, ρ, h, H, env, A, g => g.ok0 A.R (.str _)
  | m :: ms, acc, ρ, h, H, env, A, g => (tR_bind A g).imp fun v H1 ⟨ρ1, h1, x, A1, e1, rx, g1⟩ => by
    split at g1
    · obtain ⟨hl, g2⟩ := good_if g1
      cases rx; exact ⟨_, rfl, hl, js_imp ms A1 g2⟩
    · exact g1.elim
theorem den_js {v1 v2 : Expr} {rest : List Expr} (h : DenJ X B (v1 :: v2 :: rest) mes) : Den X B (.JoinedStr (v1 :: v2 :: rest) pos) (mJs mes Str.empty) := PE.imp (pe_joined h) fun σ H Q ⟨ρ, h, env, R, E, g⟩ => js_imp mes ⟨R, E⟩ g
theorem den_js1 (h : Den X B e me) : Den X B (.JoinedStr [e] pos) me := pe_joined1 h
/-! ### a, b = e1, e2 -/
def sPar (i j : Nat) (a b : M) : S := fun env h => (a env h).st env fun x h1 => (b env h1).st env fun y h2 => .nx ((env.set i (some x)).set j (some y)) h2
theorem dens_par {i j : Nat} {x y : Str} {a b : Expr} {ma mb : M} {px py pt : Pos} {kt k2 pt2} (hc : X.calm = true) (hN : X.N.Nodup) (hi : X.N[i]? = some x) (hj : X.N[j]? = some y) (hij : i ≠ j)
    (hx : X.env.scope.names.lookup x = some .local) (hy : X.env.scope.names.lookup y = some .local) (ha : DenA X B [a, b] (aCons ma (aCons mb aNil)))
    (hw : swappedStores [.Tuple [.Name x px, .Name y py] kt pt] (.Tuple [a, b] k2 pt2) X.env = pure (some [x, y]))
    (p : PS X (.Assign [.Tuple [.Name x px, .Name y py] kt pt] (.Tuple [a, b] k2 pt2) pos) (tPar i j (tMs X.K B (aCons ma (aCons mb aNil))))) :
    DenS X B (.Assign [.Tuple [.Name x px, .Name y py] kt pt] (.Tuple [a, b] k2 pt2) pos) (sPar i j ma mb) :=
  PS.imp p fun D σ H ⟨ρ, h, env, R, E, g⟩ => by
    have g' : GoodS X.K B D σ ρ H ((aCons ma (aCons mb aNil) env h).st env fun xs h2 => match xs with
      | [x, y] => .nx ((env.set i (some x)).set j (some y)) h2
      | _ => .no) := by
      cases q1 : ma env h with
      | ok x h1 =>
        cases q2 : mb env h1 with
        | ok y h2 => simp only [sPar, aCons, aNil, q1, q2, MP.R.bind_ok, MP.R.st_ok] at g ⊢; exact g
        | er c d h' => simp only [sPar, aCons, aNil, q1, q2, MP.R.bind_ok, MP.R.bind_er, MP.R.st_ok, MP.R.st_er] at g ⊢; exact g
        | no => simp only [sPar, aCons, aNil, q1, q2, MP.R.bind_ok, MP.R.bind_no, MP.R.st_ok, MP.R.st_no] at g ⊢; exact g
      | er c d h' => simp only [sPar, aCons, aNil, q1, MP.R.bind_er, MP.R.st_er] at g ⊢; exact g
      | no => simp only [sPar, aCons, aNil, q1, MP.R.bind_no, MP.R.st_no] at g ⊢; exact g
    exact (tR_st ⟨R, E⟩ g').imp fun vs H1 ⟨ρ1, h1, xs, A1, e1, rs, g1⟩ => by
      split at g1
      · obtain ⟨v, w, rfl, rv, rw'⟩ := rs.two
        exact ⟨v, w, rfl, g1 ρ1 _ H1 A1.R Ext.refl ((A1.E.set i rv).set j rw')⟩
      · exact g1.elim
end
end MP
set_option Elab.async false
set_option linter.all false
set_option maxRecDepth 100000
set_option maxHeartbeats 2000000
/-! M8: the promise of a def by its name; calls by name, by a slot. -/
namespace MP
open PySem PySem.Spec L2
open PyProof.Rows (envOfC)
/-- the module's def x keeps the promise F -/
structure Ok (P : Program) (w : World) (K : PySem.W.Frag) (mg : Str → Option Value) (base : Heap) (k : Nat) (x : Str) (n : Nat) (F : List D → MH → R D) : Prop where
  ex : ∃ fd ps, FnOk P w K mg base CX0 k (He.ga K x) fd ps (spF K n F) ∧ Binds K fd ps []
  kp : PySem.W.keepIn K (.ref (He.ga K x)) = true
  gl : mg x = some (.ref (He.ga K x))
theorem Ok.mono {P : Program} {w : World} {K : PySem.W.Frag} {mg : Str → Option Value} {base : Heap} {j k : Nat} {x : Str} {n : Nat} {F : List D → MH → R D} (o : Ok P w K mg base j x n F) (h : j ≤ k) : Ok P w K mg base k x n F := by
  obtain ⟨⟨fd, ps, G, b⟩, kp, gl⟩ := o
  exact ⟨⟨fd, ps, G.mono h, b⟩, kp, gl⟩
section
variable {P : Program} {w : World} {K : PySem.W.Frag} {mg : Str → Option Value} {base h : Heap}
theorem ok_mk {x : Str} {st : Stmt} {N ps : List Str} {k n : Nat} {s : S} (KX : K.In h) (G : h.Ns mainGlobals mg) (g : (He.Fa.glo x).ok K = true) (Fd : ∃ fd, FunD K x x (defArgs st) (defBody st) (defScope st) [] [] (He.ga K x) fd)
    (Sc : FnScope N ps (defScope st)) (hn : ps.length = n)
    (hbind : ∀ (kV doc pm : Value) (an : Option Addr) (cdv ct : Value) (us : List Value), us.length = ps.length → bindArgs (PySem.W.fnOf x x (defArgs st) (defBody st) (defScope st) .none kV doc pm an cdv ct) ⟨us, []⟩ = pure (ps.zip us))
    (hb : ∀ (cdv : Value) (A : Around) (outer : List PySem.Env) (s' : Shared) (H : Hp) (E : XK), Room k (A.deeper (envOfC x (defScope st) s'.heap.objs.size (He.ga K x) cdv)) → DenSs (cxOf CX0 P w K mg base N x (defScope st) (He.ga K x) cdv A outer s' H E).nox B0 (defBody st) s) :
    Ok P w K mg base (k + 1) x n (denF N.length s) := by
  obtain ⟨fd, F⟩ := Fd
  subst hn
  exact ⟨⟨fd, ps, fn_ok F Sc hb, F.bindsN hbind⟩, F.kp, He.glo_ok KX G g⟩
end
section
variable {X : Cx} {e : Expr} {es : List Expr} {ms : MA} {p pos : Pos}
theorem den_callO {k j n : Nat} {x : Str} {F : List D → MH → R D} (o : Ok X.prog X.w X.K X.mg X.base k x n F) (hr : Room j X.A) (hk : k ≤ j) (hg : Gl X x)
    (ha : DenA X B0 (e :: es) ms) (hdb : (x == ("__debug__" : Str)) = false := by decide) (he : starEach (e :: es) X.env = (false, eval e X.env) :: starEach es X.env := by rfl) (hpl : (backTo pos (starEach es X.env)).any (·.1) = false := by rfl) :
    Den X B0 (.Call (.Name x p) (e :: es) [] pos) (mCall n F ms) := by
  obtain ⟨fd, ps, G, b⟩ := o.ex
  exact den_call nb0 G (hr.mono hk) hg o.gl o.kp b ha hdb he hpl
/-- a call of the def that a local name holds -/
def mCallV (i : Nat) (T : List (Str × Nat × (List D → MH → R D))) (a : MA) : M := fun env h => match env[i]? with
  | some (some (.fn x)) => (match T.lookup x with
    | some nf => (a env h).bind fun ds h1 => if ds.length = nf.1 then nf.2 ds h1 else .no
    | none => .no)
  | _ => .no
theorem den_callV {k j i : Nat} {T : List (Str × Nat × (List D → MH → R D))} {x : Str} (o : ∀ y nf, T.lookup y = some nf → Ok X.prog X.w X.K X.mg X.base k y nf.1 nf.2) (hr : Room j X.A) (hk : k ≤ j) (ha : DenA X B0 (e :: es) ms) (hN : X.N[i]? = some x := by rfl) (hv : Vis X.env.scope x := by first | exact Or.inl rfl | exact Or.inr (Or.inl rfl) | exact Or.inr (Or.inr rfl))
    (hdb : (x == ("__debug__" : Str)) = false := by decide) (hcd : (x == ("__classdict__" : Str)) = false := by decide) (he : starEach (e :: es) X.env = (false, eval e X.env) :: starEach es X.env := by rfl) (hpl : (backTo pos (starEach es X.env)).any (·.1) = false := by rfl) :
    Den X B0 (.Call (.Name x p) (e :: es) [] pos) (mCallV i T ms) := by
  refine ⟨fun pins s σ H Q I h => ?_⟩
  obtain ⟨ρ, hh, env, R, E, g⟩ := h
  unfold mCallV at g
  split at g
  · rename_i y ey
    split at g
    · rename_i nf eT
      obtain ⟨v, hs, rv⟩ := E.at_ i _ ey
      cases rv
      obtain ⟨fd, ps, G, b⟩ := (o y nf eT).ex
      refine (pe_callL (i := i) (f := He.ga X.K y) (dvs := []) (E := E0) G (hr.mono hk) hN hv (o y nf eT).kp b .nil pass0 ha hdb hcd he hpl).run pins s σ H Q I ⟨hs, ?_⟩
      refine (tR_bind ⟨R, E⟩ g).imp fun vs H1 ⟨ρ1, h1, xs, A1, e1, rx, g1⟩ => ?_
      obtain ⟨hn, g2⟩ := good_if g1
      show spF X.K nf.1 nf.2 (vs ++ []) H1 Q E0
      rw [List.append_nil]
      exact spF_ok nb0 A1.R rx hn g2
    · exact g.elim
  · exact g.elim
end
end MP
set_option Elab.async false
set_option linter.all false
set_option maxRecDepth 100000
set_option maxHeartbeats 2000000
/-! M9: the readings, evaluated. -/
namespace MP
open PySem PySem.Spec L2
section
variable (env : Env) (h : MH)
@[simp] theorem e_mVar (i : Nat) : mVar i env h = (match env[i]? with | some (some d) => R.ok d h | _ => .no) := rfl
@[simp] theorem e_mC (d : D) : mC d env h = .ok d h := rfl
@[simp] theorem e_mBin (f : D → D → MH → R D) (a b : M) : mBin f a b env h = (a env h).bind fun x h1 => (b env h1).bind fun y h2 => f x y h2 := rfl
@[simp] theorem e_mTest (a : M) : mTest a env h = (a env h).bind asB := rfl
@[simp] theorem e_asB (b : Bool) : asB (.bl b) h = .ok b h := rfl
@[simp] theorem e_mChain (f f' : D → D → MH → R D) (a b c : M) : mChain f f' a b c env h = (a env h).bind fun x h1 => (b env h1).bind fun y h2 => (f x y h2).bind fun z h3 => (asB z h3).bind fun k h4 =>
  if k = true then (c env h4).bind fun w h5 => f' y w h5 else .ok (.bl false) h4 := rfl
@[simp] theorem e_mAnd (a b : MB) : mAnd a b env h = (a env h).bind fun x h1 => if x = true then b env h1 else .ok false h1 := rfl
@[simp] theorem e_mOr (a b : MB) : mOr a b env h = (a env h).bind fun x h1 => if x = true then .ok true h1 else b env h1 := rfl
@[simp] theorem e_mNot (a : MB) : mNot a env h = (a env h).bind fun x h1 => .ok (!x) h1 := rfl
@[simp] theorem e_vAnd (a b : M) : vAnd a b env h = (a env h).bind fun x h1 => (asB x h1).bind fun k h2 => if k = true then b env h2 else .ok (.bl false) h2 := rfl
@[simp] theorem e_vOr (a b : M) : vOr a b env h = (a env h).bind fun x h1 => (asB x h1).bind fun k h2 => if k = true then .ok (.bl true) h2 else b env h2 := rfl
@[simp] theorem e_vNot (a : M) : vNot a env h = (a env h).bind fun x h1 => (asB x h1).bind fun k h2 => .ok (.bl (!k)) h2 := rfl
@[simp] theorem e_mIf (t : MB) (a b : M) : mIf t a b env h = (t env h).bind fun x h1 => if x = true then a env h1 else b env h1 := rfl
@[simp] theorem e_aNil : aNil env h = .ok [] h := rfl
@[simp] theorem e_aCons (a : M) (r : MA) : aCons a r env h = (a env h).bind fun x h1 => (r env h1).bind fun xs h2 => .ok (x :: xs) h2 := rfl
@[simp] theorem e_mTup (a : MA) : mTup a env h = (a env h).bind fun xs h1 => if xs.length ≤ sizeLine then .ok (.tup xs) h1 else .no := rfl
@[simp] theorem e_mLst (a : MA) : mLst a env h = (a env h).bind fun xs h1 => if xs.length ≤ sizeLine then newL xs h1 else .no := rfl
@[simp] theorem e_newL (xs : List D) : newL xs h = .ok (.loc h.length) (h ++ [.lst xs]) := rfl
@[simp] theorem e_mCall (n : Nat) (F : List D → MH → R D) (a : MA) : mCall n F a env h = (a env h).bind fun ds h1 => if ds.length = n then F ds h1 else .no := rfl
@[simp] theorem e_mB (f : List D → MH → R D) (a : MA) : mB f a env h = (a env h).bind f := rfl
@[simp] theorem e_mMeth (T : String) (f : D → List D → MH → R D) (o : M) (a : MA) : mMeth T f o a env h = (o env h).bind fun x h1 => if tyM T h1 x = true then (a env h1).bind fun xs h2 => f x xs h2 else .no := rfl
@[simp] theorem e_mSl (m : M) (l u : Env → MH → R (Option Int)) : mSl m l u env h = (m env h).bind fun x h1 => (l env h1).bind fun i h2 => (u env h2).bind fun j h3 => fSl x i j h3 := rfl
@[simp] theorem e_oNone : oNone env h = .ok none h := rfl
@[simp] theorem e_oSome (m : M) : oSome m env h = (m env h).bind fun x h1 => match x with | .int i => .ok (some i) h1 | _ => .no := rfl
@[simp] theorem e_mDNew : mDNew env h = .ok (.loc h.length) (h ++ [.dic []]) := rfl
@[simp] theorem e_mTNew : mTNew env h = .ok (.loc h.length) (h ++ [.dit []]) := rfl
@[simp] theorem e_mLc (it : MI) (tg : Tg) (cond : MB) (elt : M) (vs : List Nat) : mLc it tg cond elt vs env h = (it env h).bind fun src h1 => (loopC src tg cond elt (wipeE env vs) (src.fuel h1) 0 [] h1).bind fun acc h2 => newL acc h2 := rfl
@[simp] theorem e_bYes : bYes env h = .ok true h := rfl
@[simp] theorem e_mFmt (m : M) : mFmt m env h = (m env h).bind fFmt := rfl
@[simp] theorem e_mJs0 (acc : Str) : mJs [] acc env h = .ok (.str acc) h := rfl
@[simp] theorem e_mJs1 (m : M) (ms : List M) (acc : Str) : mJs (m :: ms) acc env h = (m env h).bind fun x h1 => match x with | .str y => if (acc ++ y).length ≤ sizeLine then mJs ms (acc ++ y) env h1 else .no | _ => .no := rfl
@[simp] theorem e_iL (m : M) : iL m env h = (m env h).bind fun x h1 => match lstOf h1 x with | some _ => .ok (.lst x) h1 | none => .no := rfl
@[simp] theorem e_iT (m : M) : iT m env h = (m env h).bind fun x h1 => match x with | .tup ds => .ok (.tup ds) h1 | _ => .no := rfl
@[simp] theorem e_iS (m : M) : iS m env h = (m env h).bind fun x h1 => match x with | .str s => .ok (.str s) h1 | _ => .no := rfl
@[simp] theorem e_iR1 (m : M) : iR1 m env h = (m env h).bind fun x h1 => match x with | .int j => if CRng j then .ok (.rng 0 j.toNat) h1 else .no | _ => .no := rfl
@[simp] theorem e_sNop : sNop env h = .nx env h := rfl
@[simp] theorem e_sSeq (s t : S) : sSeq s t env h = (match s env h with | .nx e h => t e h | r => r) := rfl
@[simp] theorem e_sSet (i : Nat) (m : M) : sSet i m env h = (m env h).st env fun d h1 => .nx (env.set i (some d)) h1 := rfl
@[simp] theorem e_sTg (t : Tg) (m : M) : sTg t m env h = (m env h).st env fun d h1 => match t.put d env with | some e => .nx e h1 | none => .no := rfl
@[simp] theorem e_sDrop (m : M) : sDrop m env h = (m env h).st env fun _ h1 => .nx env h1 := rfl
@[simp] theorem e_sRet (m : M) : sRet m env h = (m env h).st env fun d h1 => .rt d h1 := rfl
@[simp] theorem e_sRetN : sRetN env h = .rt .non h := rfl
@[simp] theorem e_sIf (c : MB) (a b : S) : sIf c a b env h = (c env h).st env fun x h1 => if x = true then a env h1 else b env h1 := rfl
@[simp] theorem e_sBrk : sBrk env h = .bk env h := rfl
@[simp] theorem e_sCont : sCont env h = .ct env h := rfl
@[simp] theorem e_sPar (i j : Nat) (a b : M) : sPar i j a b env h = (a env h).st env fun x h1 => (b env h1).st env fun y h2 => .nx ((env.set i (some x)).set j (some y)) h2 := rfl
@[simp] theorem e_sFor (it : MI) (tg : Tg) (body : S) : sFor it tg body env h = (it env h).st env fun src h1 => loopF src tg body (src.fuel h1) 0 env h1 := rfl
@[simp] theorem e_sSetIx (mv mo mi : M) : sSetIx mv mo mi env h = (mv env h).st env fun v h1 => (mo env h1).st env fun o h2 => (mi env h2).st env fun i h3 => match o, i with
  | .loc n, .int k => (match h3[n]? with
    | some (.lst ds) => (match ixN ds.length k with
      | some j => .nx env (h3.set n (.lst (ds.set j v)))
      | none => .no)
    | _ => .no)
  | _, _ => .no := rfl
@[simp] theorem e_denF (n : Nat) (s : S) (ds : List D) : denF n s ds h = (match s (startE n ds) h with
  | .rt d h => R.ok d h
  | .nx _ h => .ok .non h
  | .er c d _ h => .er c d h
  | _ => .no) := rfl
@[simp] theorem e_startE (n : Nat) (ds : List D) : startE n ds = ds.map some ++ List.replicate (n - ds.length) none := rfl
@[simp] theorem e_nm (j : Nat) (d : D) (e : Env) : (Tg.nm j).put d e = some (e.set j (some d)) := rfl
@[simp] theorem e_tp (js : List Nat) (ds : List D) (e : Env) : (Tg.tp js).put (.tup ds) e = if ds.length = js.length then some (sets js ds e) else none := rfl
end
section
variable (h : MH)
@[simp] theorem f_addI (i j : Int) : fAdd (.int i) (.int j) h = .ok (.int (i + j)) h := rfl
@[simp] theorem f_addS (a b : Str) : fAdd (.str a) (.str b) h = if a.length + b.length ≤ sizeLine then .ok (.str (a ++ b)) h else .no := rfl
@[simp] theorem f_addT (a b : List D) : fAdd (.tup a) (.tup b) h = if a.length + b.length ≤ sizeLine then .ok (.tup (a ++ b)) h else .no := rfl
@[simp] theorem f_addL (m n : Nat) : fAdd (.loc m) (.loc n) h = (match h[m]?, h[n]? with
    | some (.lst a), some (.lst b) => if a.length + b.length ≤ sizeLine then newL (a ++ b) h else .no
    | _, _ => .no) := rfl
@[simp] theorem f_subI (i j : Int) : fSub (.int i) (.int j) h = .ok (.int (i - j)) h := rfl
@[simp] theorem f_mulI (i j : Int) : fMul (.int i) (.int j) h = if CMul i j then .ok (.int (i * j)) h else .no := rfl
@[simp] theorem f_modI (i j : Int) : fMod (.int i) (.int j) h = if 0 < j then .ok (.int (i % j)) h else .no := rfl
@[simp] theorem f_divI (i j : Int) : fDiv (.int i) (.int j) h = if CDiv i j then .ok (.int (i / j)) h else .no := rfl
@[simp] theorem f_powI (i j : Int) : fPow (.int i) (.int j) h = if CPowW i j then .ok (.int (i ^ j.toNat)) h else .no := rfl
@[simp] theorem f_lt (i j : Int) : fLt (.int i) (.int j) h = .ok (.bl (decide (i < j))) h := rfl
@[simp] theorem f_le (i j : Int) : fLe (.int i) (.int j) h = .ok (.bl (decide (i ≤ j))) h := rfl
@[simp] theorem f_gt (i j : Int) : fGt (.int i) (.int j) h = .ok (.bl (decide (j < i))) h := rfl
@[simp] theorem f_ge (i j : Int) : fGe (.int i) (.int j) h = .ok (.bl (decide (j ≤ i))) h := rfl
@[simp] theorem f_eq (x y : D) : fEq x y h = (match eqD h x y with | some b => .ok (.bl b) h | none => .no) := rfl
@[simp] theorem f_ne (x y : D) : fNe x y h = (match eqD h x y with | some b => .ok (.bl (!b)) h | none => .no) := rfl
@[simp] theorem eqD_SS (a b : Str) : eqD h (.str a) (.str b) = some (decide (a = b)) := rfl
@[simp] theorem eqD_II (a b : Int) : eqD h (.int a) (.int b) = some (decide (a = b)) := rfl
@[simp] theorem eqD_BB (a b : Bool) : eqD h (.bl a) (.bl b) = some (decide (a = b)) := rfl
@[simp] theorem bInt_I (i : Int) : bInt [.int i] h = .ok (.int i) h := rfl
@[simp] theorem bInt_B (k : Bool) : bInt [.bl k] h = .ok (.int (if k = true then 1 else 0)) h := rfl
@[simp] theorem bAbs_I (i : Int) : bAbs [.int i] h = .ok (.int (if i < 0 then -i else i)) h := rfl
@[simp] theorem bMin2_I (i j : Int) : bMin2 [.int i, .int j] h = .ok (.int (if j < i then j else i)) h := rfl
@[simp] theorem bMax2_I (i j : Int) : bMax2 [.int i, .int j] h = .ok (.int (if j > i then j else i)) h := rfl
@[simp] theorem bStr_I (i : Int) : bStr [.int i] h = if i.natAbs.log2 < 1920 then .ok (.str (toString i)) h else .no := rfl
@[simp] theorem e_bLen (d : D) : bLen [d] h = (match lenD h d with | some n => .ok (.int (n : Int)) h | none => .no) := rfl
@[simp] theorem lenD_S (s : Str) : lenD h (.str s) = if s.length ≤ sizeLine then some s.length else none := rfl
@[simp] theorem lenD_T (s : List D) : lenD h (.tup s) = some s.length := rfl
@[simp] theorem lenD_R (s : List D) : lenD h (.rol s) = some s.length := rfl
@[simp] theorem lenD_L (n : Nat) : lenD h (.loc n) = (match h[n]? with | some (.lst ds) => some ds | _ => none).map List.length := by
  show (match lstOf h (.loc n) with | some ds => some ds | none => tupOf (.loc n)).map List.length = _
  show (match (match h[n]? with | some (.lst ds) => some ds | _ => none) with | some ds => some ds | none => none).map List.length = _
  cases h[n]? with
  | none => rfl
  | some o => cases o <;> rfl
@[simp] theorem ix_T (ds : List D) (i : Int) : fIx (.tup ds) (.int i) h = (match atI ds i with | some d => .ok d h | none => .no) := rfl
@[simp] theorem ix_R (ds : List D) (i : Int) : fIx (.rol ds) (.int i) h = (match atI ds i with | some d => .ok d h | none => .no) := rfl
theorem ix_L {n : Nat} {ds : List D} (e : h[n]? = some (.lst ds)) (i : Int) : fIx (.loc n) (.int i) h = (match atI ds i with | some d => .ok d h | none => .no) := by
  show (match (match lstOf h (.loc n) with | some ds => some ds | none => tupOf (.loc n)) with | some ds => (match atI ds i with | some d => R.ok d h | none => .no) | none => .no) = _
  have : lstOf h (.loc n) = some ds := by unfold lstOf; simp only [e]
  rw [this]
@[simp] theorem ix_S (s : Str) (i : Int) : fIx (.str s) (.int i) h = if s.length ≤ sizeLine then (match atI s.cps.toList i with | some c => .ok (.str ⟨#[c]⟩) h | none => .no) else .no := rfl
@[simp] theorem lstOf_L (n : Nat) : lstOf h (.loc n) = (match h[n]? with | some (.lst ds) => some ds | _ => none) := rfl
@[simp] theorem lstOf_R (ds : List D) : lstOf h (.rol ds) = some ds := rfl
end
/-! ### heaps -/
theorem get_app {h l : MH} {n : Nat} {v : MO} (e : h[n]? = some v) : (h ++ l)[n]? = some v := by
  rw [List.getElem?_append_left (List.getElem?_eq_some_iff.mp e).1]; exact e
theorem get_set {h : MH} {n : Nat} {v w : MO} (e : h[n]? = some v) : (h.set n w)[n]? = some w := by
  rw [List.getElem?_set_self (List.getElem?_eq_some_iff.mp e).1]
theorem get_new (h : MH) (v : MO) : (h ++ [v])[h.length]? = some v := by simp
end MP
set_option Elab.async false
set_option linter.all false
set_option maxRecDepth 100000
set_option maxHeartbeats 2000000
/-! M10: the laws' draws: pot, take, of. -/
namespace MP
open PySem PySem.Spec L2
/-- only the location p changes; new ones come -/
structure Fr (p : Nat) (h h' : MH) : Prop where
  le : h.length ≤ h'.length
  keep : ∀ i mo, i ≠ p → h[i]? = some mo → h'[i]? = some mo
theorem Fr.refl {p : Nat} {h : MH} : Fr p h h := ⟨Nat.le_refl _, fun _ _ _ e => e⟩
theorem Fr.trans {p : Nat} {h h1 h2 : MH} (a : Fr p h h1) (b : Fr p h1 h2) : Fr p h h2 := ⟨Nat.le_trans a.le b.le, fun i mo hi e => b.keep i mo hi (a.keep i mo hi e)⟩
theorem Fr.app {p : Nat} {h l : MH} : Fr p h (h ++ l) := ⟨by simp, fun _ _ _ e => get_app e⟩
theorem Fr.set {p : Nat} {h : MH} {v : MO} : Fr p h (h.set p v) := ⟨by simp, fun i mo hi e => by rw [List.getElem?_set_ne (Ne.symm hi)]; exact e⟩
structure Pot (h : MH) (p : Nat) (T : Int) : Prop where
  ex : ∃ o m t : Int, h[p]? = some (.lst [.int o, .int m, .int t]) ∧ 0 ≤ o ∧ 0 ≤ m ∧ m < 2305843009213693921 ∧ 0 ≤ t ∧ t ≤ T
theorem Pot.app {h l : MH} {p : Nat} {T : Int} (P : Pot h p T) : Pot (h ++ l) p T := by
  obtain ⟨o, m, t, e, r⟩ := P.ex
  exact ⟨o, m, t, get_app e, r⟩
theorem Pot.mono {h : MH} {p : Nat} {T T' : Int} (P : Pot h p T) (hT : T ≤ T') : Pot h p T' := by
  obtain ⟨o, m, t, e, a, b, c, d, f⟩ := P.ex
  exact ⟨o, m, t, e, a, b, c, d, by omega⟩
theorem Pot.lt {h : MH} {p : Nat} {T : Int} (P : Pot h p T) : p < h.length := by
  obtain ⟨o, m, t, e, r⟩ := P.ex
  exact (List.getElem?_eq_some_iff.mp e).1
theorem Pot.ne {h : MH} {p l : Nat} {T : Int} {xs : List D} (P : Pot h p T) (e : h[l]? = some (.lst xs)) (hx : xs.length ≠ 3) : l ≠ p := by
  rintro rfl
  obtain ⟨o, m, t, e', r⟩ := P.ex
  rw [e] at e'; cases e'
  exact hx rfl
def takeB : S :=
  (sSeq (sIf (mTest (mBin fGt (mBin fIx (mVar 0) (mC (.int 0))) (mC (.int 0)))) (sSeq (sSet 2 (mBin fMod (mB bInt (aCons (mBin fIx (mVar 0) (mC (.int 0))) aNil)) (mVar 1)))
  (sSeq (sSetIx (mBin fDiv (mBin fIx (mVar 0) (mC (.int 0))) (mVar 1)) (mVar 0) (mC (.int 0)))
  (sRet (mVar 2)))) sNop)
  (sSeq (sSetIx (mBin fAdd (mBin fIx (mVar 0) (mC (.int 2))) (mC (.int 1))) (mVar 0) (mC (.int 2)))
  (sSeq (sSet 3 (mBin fIx (mLst (aCons (mC (.int 2147483647)) (aCons (mC (.int 2147483629)) (aCons (mC (.int 2147483587)) (aCons (mC (.int 2147483579)) (aCons (mC (.int 2147483563)) aNil)))))) (mBin fMod (mB bInt (aCons (mBin fIx (mVar 0) (mC (.int 2))) aNil)) (mC (.int 5)))))
  (sSeq (sSet 4 (mBin fMod (mB bInt (aCons (mBin fPow (mB bInt (aCons (mBin fAdd (mBin fAdd (mBin fIx (mVar 0) (mC (.int 1))) (mBin fMul (mBin fMul (mC (.int 99871)) (mBin fIx (mVar 0) (mC (.int 2)))) (mBin fIx (mVar 0) (mC (.int 2))))) (mC (.int 47))) aNil)) (mC (.int 3))) aNil)) (mVar 3)))
  (sSeq (sSet 4 (mBin fMod (mB bInt (aCons (mBin fMul (mVar 4) (mBin fAdd (mBin fMod (mB bInt (aCons (mVar 4) aNil)) (mC (.int 10009))) (mBin fMul (mC (.int 83)) (mBin fIx (mVar 0) (mC (.int 2)))))) aNil)) (mC (.int 2305843009213693907))))
  (sRet (mBin fMod (mB bInt (aCons (mBin fDiv (mVar 4) (mC (.int 101))) aNil)) (mVar 1))))))))
def takeF : List D → MH → R D := denF 5 takeB
def ofB : S :=
  (sRet (mBin fIx (mVar 1) (mCall 2 takeF (aCons (mVar 0) (aCons (mB bLen (aCons (mVar 1) aNil)) aNil)))))
def ofF : List D → MH → R D := denF 2 ofB
def bigM : M := mBin fPow (mBin fPow (mC (.int 10)) (mC (.int 60))) (mC (.int 5))
def potR : S :=
  (sSeq (sSet 3 (mBin fMul (mBin fMod (mB bInt (aCons (mB bAbs (aCons (mVar 2) aNil)) aNil)) bigM) (mB bInt (aCons (mBin fGe (mB bAbs (aCons (mVar 2) aNil)) (mBin fPow (mC (.int 10)) (mC (.int 18)))) aNil))))
  (sSeq (sSet 4 (mBin fAdd (mBin fAdd (mBin fMul (mBin fMod (mB bInt (aCons (mVar 2) aNil)) (mC (.int 2305843009213693951))) (mC (.int 70241))) (mBin fMul (mBin fMul (mC (.int 6197)) (mVar 1)) (mVar 1))) (mC (.int 61))))
  (sRet (mLst (aCons (mVar 3) (aCons (mBin fMod (mB bInt (aCons (mVar 4) aNil)) (mC (.int 2305843009213693921))) (aCons (mC (.int 0)) aNil)))))))
def potB : S :=
  (sSeq (sSet 2 (mIf (mTest (mBin fLt (mVar 1) (mB bLen (aCons (mVar 0) aNil)))) (mBin fIx (mVar 0) (mVar 1)) (mBin fAdd (mBin fMul (mC (.int 37)) (mVar 1)) (mC (.int 17))))) potR)
def potF : List D → MH → R D := denF 5 potB
theorem cmul_l {i j : Int} (h1 : -(2 ^ 64) < i) (h2 : i < 2 ^ 64) : CMul i j := .inl ⟨h1, h2⟩
theorem cmul_r {i j : Int} (h1 : -(2 ^ 64) < j) (h2 : j < 2 ^ 64) : CMul i j := .inr ⟨h1, h2⟩
theorem five {k : Int} : atI [D.int 2147483647, D.int 2147483629, D.int 2147483587, D.int 2147483579, D.int 2147483563] (k % 5) = some (.int 2147483647) ∨ atI [D.int 2147483647, D.int 2147483629, D.int 2147483587, D.int 2147483579, D.int 2147483563] (k % 5) = some (.int 2147483629) ∨
    atI [D.int 2147483647, D.int 2147483629, D.int 2147483587, D.int 2147483579, D.int 2147483563] (k % 5) = some (.int 2147483587) ∨ atI [D.int 2147483647, D.int 2147483629, D.int 2147483587, D.int 2147483579, D.int 2147483563] (k % 5) = some (.int 2147483579) ∨
    atI [D.int 2147483647, D.int 2147483629, D.int 2147483587, D.int 2147483579, D.int 2147483563] (k % 5) = some (.int 2147483563) := by
  have h1 : 0 ≤ k % 5 := Int.emod_nonneg _ (by decide)
  have h2 : k % 5 < 5 := Int.emod_lt_of_pos _ (by decide)
  have h3 : k % 5 = 0 ∨ k % 5 = 1 ∨ k % 5 = 2 ∨ k % 5 = 3 ∨ k % 5 = 4 := by omega
  rcases h3 with h | h | h | h | h <;> rw [h]
  · exact .inl rfl
  · exact .inr (.inl rfl)
  · exact .inr (.inr (.inl rfl))
  · exact .inr (.inr (.inr (.inl rfl)))
  · exact .inr (.inr (.inr (.inr rfl)))
theorem five' {k : Int} : ∃ q : Int, 0 < q ∧ q < 2147483648 ∧ atI [D.int 2147483647, D.int 2147483629, D.int 2147483587, D.int 2147483579, D.int 2147483563] (k % 5) = some (.int q) := by
  rcases five (k := k) with h | h | h | h | h
  all_goals exact ⟨_, by decide, by decide, h⟩
theorem atI_nat {α : Type} (l : List α) (i : Nat) : atI l (i : Int) = l[i]? := by
  unfold atI ixN
  rw [if_pos (by omega)]
  by_cases h : i < l.length
  · rw [if_pos (by omega)]; simp
  · rw [if_neg (by omega)]; simp; omega
@[simp] theorem atI0 {α : Type} (a : α) (l : List α) : atI (a :: l) 0 = some a := atI_nat _ 0
@[simp] theorem atI1 {α : Type} (a b : α) (l : List α) : atI (a :: b :: l) 1 = some b := atI_nat _ 1
@[simp] theorem atI2 {α : Type} (a b c : α) (l : List α) : atI (a :: b :: c :: l) 2 = some c := atI_nat _ 2
@[simp] theorem atI3 {α : Type} (a b c d : α) (l : List α) : atI (a :: b :: c :: d :: l) 3 = some d := atI_nat _ 3
theorem take_ok {h : MH} {p : Nat} {T n : Int} (P : Pot h p T) (hT : T < 1000000) (hn : 0 < n) (hn2 : n < 1073741824) :
    ∃ d h', takeF [.loc p, .int n] h = .ok (.int d) h' ∧ 0 ≤ d ∧ d < n ∧ Pot h' p (T + 1) ∧ Fr p h h' := by
  obtain ⟨o, m, t, e, ho, hm, hm2, ht, htT⟩ := P.ex
  by_cases ho' : 0 < o
  · refine ⟨o % n, h.set p (.lst [.int (o / n), .int m, .int t]), ?_, Int.emod_nonneg _ (by omega), Int.emod_lt_of_pos _ hn, ⟨o / n, m, t, get_set e, Int.ediv_nonneg ho (by omega), hm, hm2, ht, by omega⟩, Fr.set⟩
    simp [takeF, takeB, ix_L h e, ho', hn, CDiv, hn2, e, ixN]
  · have e1 : (h.set p (.lst [.int o, .int m, .int (t + 1)]))[p]? = some (.lst [.int o, .int m, .int (t + 1)]) := get_set e
    have tt : (t + 1) * (t + 1) ≤ 1000000 * 1000000 := Int.mul_le_mul (by omega) (by omega) (by omega) (by omega)
    have tt0 : 0 ≤ (t + 1) * (t + 1) := Int.mul_nonneg (by omega) (by omega)
    have ea : 99871 * (t + 1) * (t + 1) = 99871 * ((t + 1) * (t + 1)) := by rw [Int.mul_assoc]
    have c1 : CMul 99871 (t + 1) := cmul_l (by decide) (by decide)
    have c2 : CMul (99871 * (t + 1)) (t + 1) := cmul_r (by omega) (by omega)
    have c3 : CPowW (m + 99871 * (t + 1) * (t + 1) + 47) 3 := .inl ⟨by decide, by decide, by rw [ea]; omega⟩
    obtain ⟨q, hq, hq2, h5⟩ := five' (k := t + 1)
    have e2 : ((h.set p (.lst [.int o, .int m, .int (t + 1)])) ++ [.lst [D.int 2147483647, D.int 2147483629, D.int 2147483587, D.int 2147483579, D.int 2147483563]])[p]? = some (.lst [.int o, .int m, .int (t + 1)]) := get_app e1
    have e3 := get_new (h.set p (.lst [.int o, .int m, .int (t + 1)])) (.lst [D.int 2147483647, D.int 2147483629, D.int 2147483587, D.int 2147483579, D.int 2147483563])
    rw [List.length_set] at e3
    have z0 := Int.emod_nonneg ((m + 99871 * (t + 1) * (t + 1) + 47) ^ 3) (show q ≠ 0 by omega)
    have z1 := Int.emod_lt_of_pos ((m + 99871 * (t + 1) * (t + 1) + 47) ^ 3) hq
    have c4 : CMul ((m + 99871 * (t + 1) * (t + 1) + 47) ^ 3 % q) ((m + 99871 * (t + 1) * (t + 1) + 47) ^ 3 % q % 10009 + 83 * (t + 1)) := cmul_l (by omega) (by omega)
    have c5 : CMul 83 (t + 1) := cmul_l (by decide) (by decide)
    have s5 : 5 ≤ sizeLine := by decide
    refine ⟨(m + 99871 * (t + 1) * (t + 1) + 47) ^ 3 % q * ((m + 99871 * (t + 1) * (t + 1) + 47) ^ 3 % q % 10009 + 83 * (t + 1)) % 2305843009213693907 / 101 % n, (h.set p (.lst [.int o, .int m, .int (t + 1)])) ++ [.lst [D.int 2147483647, D.int 2147483629, D.int 2147483587, D.int 2147483579, D.int 2147483563]], ?_, ?_, ?_, ⟨o, m, t + 1, e2, ho, hm, hm2, by omega, by omega⟩, Fr.set.trans Fr.app⟩
    · simp only [takeF, takeB]
      simp [ix_L h e, ho', ix_L _ e1, e, ixN, s5, ix_L _ e2, c1, c2, c3, c4, c5, hq, hn, CDiv, ix_L _ e3, h5]
    · exact Int.emod_nonneg _ (by omega)
    · exact Int.emod_lt_of_pos _ hn

theorem of_ok {h : MH} {p l : Nat} {T : Int} {xs : List D} (P : Pot h p T) (hT : T < 1000000) (e : h[l]? = some (.lst xs)) (hl : l ≠ p) (h0 : 0 < xs.length) (h1 : xs.length < 1000000) :
    ∃ x h', ofF [.loc p, .loc l] h = .ok x h' ∧ x ∈ xs ∧ Pot h' p (T + 1) ∧ Fr p h h' := by
  obtain ⟨d, h', e1, d0, d1, P', F⟩ := take_ok (n := (xs.length : Int)) P hT (by omega) (by omega)
  have e2 := F.keep l _ hl e
  obtain ⟨i, rfl⟩ : ∃ i : Nat, d = (i : Int) := ⟨d.toNat, by omega⟩
  have hi : i < xs.length := by omega
  refine ⟨xs[i], h', ?_, List.getElem_mem hi, P', F⟩
  simp only [ofF, ofB]
  simp [e, e1, ix_L _ e2, atI_nat, hi]
@[irreducible] def BIG : Int := (10 ^ 60) ^ 5
theorem BIG_pos : 0 < BIG := by
  unfold BIG
  exact Int.pow_pos (Int.pow_pos (by decide))
theorem ite01 (p : Prop) [Decidable p] : (if p then (1 : Int) else 0) = 0 ∨ (if p then (1 : Int) else 0) = 1 := by split <;> simp
theorem e_big (env : Env) (h : MH) : bigM env h = .ok (.int BIG) h := by
  have c1 : CPowW 10 60 := by decide
  have c2 : CPowW (10 ^ 60) 5 := by decide
  show (fPow (.int 10) (.int 60) h).bind (fun x h1 => fPow x (.int 5) h1) = _
  rw [f_powI, if_pos c1]
  show fPow (.int (10 ^ 60)) (.int 5) h = _
  rw [f_powI, if_pos c2]
  unfold BIG
  rfl
def potM1 : M := mBin fMul (mBin fMod (mB bInt (aCons (mB bAbs (aCons (mVar 2) aNil)) aNil)) bigM) (mB bInt (aCons (mBin fGe (mB bAbs (aCons (mVar 2) aNil)) (mBin fPow (mC (.int 10)) (mC (.int 18)))) aNil))
def potM2 : M := mBin fAdd (mBin fAdd (mBin fMul (mBin fMod (mB bInt (aCons (mVar 2) aNil)) (mC (.int 2305843009213693951))) (mC (.int 70241))) (mBin fMul (mBin fMul (mC (.int 6197)) (mVar 1)) (mVar 1))) (mC (.int 61))
theorem potM1_ok (a b : Option D) (c d : Option D) (cell : Int) (h : MH) : ∃ o, potM1 [a, b, some (.int cell), c, d] h = .ok (.int o) h ∧ 0 ≤ o := by
  have c3 : CPowW 10 18 := .inl ⟨by decide, by decide, by decide⟩
  have b0 := BIG_pos
  obtain ⟨A, hA⟩ : ∃ A, A = (if cell < 0 then -cell else cell) := ⟨_, rfl⟩
  have e1 : mB bAbs (aCons (mVar 2) aNil) [a, b, some (.int cell), c, d] h = .ok (.int A) h := by rw [hA]; simp
  have e2 : mB bInt (aCons (mB bAbs (aCons (mVar 2) aNil)) aNil) [a, b, some (.int cell), c, d] h = .ok (.int A) h := by
    rw [e_mB, e_aCons, e1]; rfl
  have e3 : mBin fPow (mC (.int 10)) (mC (.int 18)) [a, b, some (.int cell), c, d] h = .ok (.int 1000000000000000000) h := by simp [c3]
  have e4 : ∃ k : Int, mB bInt (aCons (mBin fGe (mB bAbs (aCons (mVar 2) aNil)) (mBin fPow (mC (.int 10)) (mC (.int 18)))) aNil) [a, b, some (.int cell), c, d] h = .ok (.int k) h ∧ (k = 0 ∨ k = 1) := by
    refine ⟨_, ?_, ite01 (decide (1000000000000000000 ≤ A) = true)⟩
    rw [e_mB, e_aCons, e_mBin, e1]
    simp only [R.bind_ok]
    rw [e3]
    rfl
  obtain ⟨k, e4, hk⟩ := e4
  have m0 : 0 ≤ A % BIG := Int.emod_nonneg _ (by omega)
  have c8 : CMul (A % BIG) k := cmul_r (by rcases hk with rfl | rfl <;> decide) (by rcases hk with rfl | rfl <;> decide)
  refine ⟨A % BIG * k, ?_, Int.mul_nonneg m0 (by omega)⟩
  unfold potM1
  rw [e_mBin, e_mBin, e2]
  simp only [R.bind_ok, e_big, f_modI, if_pos b0]
  rw [e4]
  simp only [R.bind_ok, f_mulI, if_pos c8]
theorem potM2_ok (a c d : Option D) (k cell : Int) (hk : 0 ≤ k) (hk2 : k < 1000) (h : MH) : ∃ o, potM2 [a, some (.int k), some (.int cell), c, d] h = .ok (.int o) h := by
  have c5 : CMul 6197 k := cmul_l (by decide) (by decide)
  have c6 : CMul (6197 * k) k := cmul_r (by omega) (by omega)
  have c7 : CMul (cell % 2305843009213693951) 70241 := cmul_r (by decide) (by decide)
  refine ⟨cell % 2305843009213693951 * 70241 + 6197 * k * k + 61, ?_⟩
  unfold potM2
  simp [c5, c6, c7]
theorem potR_ok {h : MH} {ns : List Int} {k : Nat} (hk : k < 1000) (cell : Int) : ∃ h', potR [some (.rol (ns.map D.int)), some (.int (k : Int)), some (.int cell), none, none] h = .rt (.loc h.length) h' ∧ Pot h' h.length 0 ∧ ∀ p, Fr p h h' := by
  have s3 : 3 ≤ sizeLine := by decide
  obtain ⟨o, e1, o0⟩ := potM1_ok (some (.rol (ns.map D.int))) (some (.int (k : Int))) none none cell h
  obtain ⟨m, e2⟩ := potM2_ok (some (.rol (ns.map D.int))) (some (.int o)) none (k : Int) cell (by omega) (by omega) h
  refine ⟨h ++ [.lst [.int o, .int (m % 2305843009213693921), .int 0]], ?_, ⟨_, _, _, get_new _ _, o0, Int.emod_nonneg _ (by decide), Int.emod_lt_of_pos _ (by decide), by decide, by decide⟩, fun p => Fr.app⟩
  show sSeq (sSet 3 potM1) (sSeq (sSet 4 potM2) (sRet (mLst (aCons (mVar 3) (aCons (mBin fMod (mB bInt (aCons (mVar 4) aNil)) (mC (.int 2305843009213693921))) (aCons (mC (.int 0)) aNil)))))) _ _ = _
  rw [e_sSeq, e_sSet, e1]
  simp only [R.st_ok]
  rw [e_sSeq, e_sSet]
  simp only [List.set]
  rw [e2]
  simp [s3]
theorem pot_ok {h : MH} {ns : List Int} {k : Nat} (hk : k < 1000) : ∃ h', potF [.rol (ns.map D.int), .int (k : Int)] h = .ok (.loc h.length) h' ∧ Pot h' h.length 0 ∧ ∀ p, Fr p h h' := by
  have c4 : CMul 37 (k : Int) := cmul_l (by decide) (by decide)
  by_cases hlt : k < ns.length
  · obtain ⟨h', e, r⟩ := potR_ok (h := h) (ns := ns) hk ns[k]
    refine ⟨h', ?_, r⟩
    simp only [potF, potB]
    simp [hlt, atI_nat, e]
  · obtain ⟨h', e, r⟩ := potR_ok (h := h) (ns := ns) hk (37 * k + 17)
    refine ⟨h', ?_, r⟩
    simp only [potF, potB]
    simp [hlt, c4, e]
end MP
set_option Elab.async false
set_option linter.all false
set_option maxRecDepth 100000
set_option maxHeartbeats 2000000
/-! M11: loops, run. -/
namespace MP
open PySem PySem.Spec L2
/-- nothing that was there changes -/
structure Gr (h h' : MH) : Prop where
  le : h.length ≤ h'.length
  keep : ∀ (i : Nat) (mo : MO), h[i]? = some mo → h'[i]? = some mo
theorem Gr.refl {h : MH} : Gr h h := ⟨Nat.le_refl _, fun _ _ e => e⟩
theorem Gr.trans {h h1 h2 : MH} (a : Gr h h1) (b : Gr h1 h2) : Gr h h2 := ⟨Nat.le_trans a.le b.le, fun i mo e => b.keep i mo (a.keep i mo e)⟩
theorem Gr.app {h l : MH} : Gr h (h ++ l) := ⟨by simp, fun _ _ e => get_app e⟩
theorem Gr.fr {h h' : MH} (g : Gr h h') (p : Nat) : Fr p h h' := ⟨g.le, fun i mo _ e => g.keep i mo e⟩
theorem Gr.pot {h h' : MH} {p : Nat} {T : Int} (g : Gr h h') (P : Pot h p T) : Pot h' p T := by
  obtain ⟨o, m, t, e, r⟩ := P.ex
  exact ⟨o, m, t, g.keep _ _ e, r⟩
theorem Gr.set {h h' : MH} {n : Nat} {v : MO} (g : Gr h h') (hn : h.length ≤ n) : Gr h (h'.set n v) := ⟨by simpa using g.le, fun i mo e => by
  have : i < h.length := (List.getElem?_eq_some_iff.mp e).1
  rw [List.getElem?_set_ne (by omega)]; exact g.keep i mo e⟩
theorem Fr.set2 {p : Nat} {h h' : MH} {n : Nat} {v : MO} (g : Fr p h h') (hn : h.length ≤ n) : Fr p h (h'.set n v) := ⟨by simpa using g.le, fun i mo hi e => by
  have : i < h.length := (List.getElem?_eq_some_iff.mp e).1
  rw [List.getElem?_set_ne (by omega)]; exact g.keep i mo hi e⟩
theorem Pot.set {h : MH} {p n : Nat} {T : Int} {v : MO} (P : Pot h p T) (hn : n ≠ p) : Pot (h.set n v) p T := by
  obtain ⟨o, m, t, e, r⟩ := P.ex
  exact ⟨o, m, t, by rw [List.getElem?_set_ne hn]; exact e, r⟩
theorem loopC_run {src : Src} {tg : Tg} {cond : MB} {elt : M} {e0 : Env} {ds : List D} {Pv : Nat → List D → MH → Prop}
    (hget : ∀ i acc h, Pv i acc h → src.get h i = some ds[i]?)
    (hstep : ∀ i acc h d, Pv i acc h → ds[i]? = some d → ∃ e1, tg.put d e0 = some e1 ∧ ∃ b h2, cond e1 h = .ok b h2 ∧ (b = true → ∃ y h3, elt e1 h2 = .ok y h3 ∧ acc.length < sizeLine ∧ Pv (i + 1) (acc ++ [y]) h3) ∧ (b = false → Pv (i + 1) acc h2)) :
    ∀ (k f i : Nat) (acc : List D) (h : MH), k + i = ds.length → k < f → Pv i acc h → ∃ acc' h', loopC src tg cond elt e0 f i acc h = .ok acc' h' ∧ Pv ds.length acc' h' := by
  intro k
  induction k with
  | zero =>
    intro f i acc h hk hf hp
    obtain ⟨f, rfl⟩ : ∃ g, f = g + 1 := ⟨f - 1, by omega⟩
    have hi : i = ds.length := by omega
    refine ⟨acc, h, ?_, hi ▸ hp⟩
    unfold loopC
    rw [hget i acc h hp, hi]
    simp
  | succ k ih =>
    intro f i acc h hk hf hp
    obtain ⟨f, rfl⟩ : ∃ g, f = g + 1 := ⟨f - 1, by omega⟩
    have hi : i < ds.length := by omega
    have hd : ds[i]? = some ds[i] := List.getElem?_eq_getElem hi
    obtain ⟨e1, q1, b, h2, q2, ht, hf'⟩ := hstep i acc h _ hp hd
    unfold loopC
    rw [hget i acc h hp, hd]
    dsimp only
    rw [q1]
    dsimp only
    rw [q2]
    cases b with
    | true =>
      obtain ⟨y, h3, q3, hl, hp'⟩ := ht rfl
      obtain ⟨acc', h', q4, hz⟩ := ih f (i + 1) (acc ++ [y]) h3 (by omega) (by omega) hp'
      refine ⟨acc', h', ?_, hz⟩
      simp only [R.bind_ok, q3, if_true, if_pos hl]
      exact q4
    | false =>
      obtain ⟨acc', h', q4, hz⟩ := ih f (i + 1) acc h2 (by omega) (by omega) (hf' rfl)
      refine ⟨acc', h', ?_, hz⟩
      simp only [R.bind_ok]
      exact q4
/-- a comprehension without a test whose element leaves the heap alone -/
theorem loopC_map {src : Src} {tg : Tg} {elt : M} {e0 : Env} {ds : List D} {h : MH} (g : D → D) (hget : ∀ i, src.get h i = some ds[i]?)
    (hstep : ∀ d ∈ ds, ∃ e1, tg.put d e0 = some e1 ∧ elt e1 h = .ok (g d) h) (hl : ds.length ≤ sizeLine) (f : Nat) (hf : ds.length < f) :
    loopC src tg bYes elt e0 f 0 [] h = .ok (ds.map g) h := by
  obtain ⟨acc, h', e, q⟩ := loopC_run (src := src) (tg := tg) (cond := bYes) (elt := elt) (e0 := e0) (ds := ds) (Pv := fun i acc h' => h' = h ∧ acc = (ds.take i).map g)
    (fun i acc h' z => by rw [z.1]; exact hget i)
    (fun i acc h' d z hd => by
      obtain ⟨rfl, rfl⟩ := z
      obtain ⟨hi, rfl⟩ := List.getElem?_eq_some_iff.mp hd
      obtain ⟨e1, q1, q2⟩ := hstep _ (List.getElem_mem hi)
      refine ⟨e1, q1, true, h', rfl, fun _ => ⟨_, h', q2, by simp; omega, rfl, ?_⟩, fun z => by cases z⟩
      rw [List.take_add_one, List.map_append, List.getElem?_eq_getElem hi]
      rfl)
    ds.length f 0 [] h (by simp) hf ⟨rfl, by simp⟩
  rw [e, q.1, q.2]; simp
theorem loopF_run {src : Src} {tg : Tg} {body : S} {ds : List D} {Pv : Nat → Env → MH → Prop}
    (hget : ∀ i e h, Pv i e h → src.get h i = some ds[i]?)
    (hstep : ∀ i e h d, Pv i e h → ds[i]? = some d → ∃ e1, tg.put d e = some e1 ∧ ∃ e2 h2, (body e1 h = .nx e2 h2 ∨ body e1 h = .ct e2 h2) ∧ Pv (i + 1) e2 h2) :
    ∀ (k f i : Nat) (e : Env) (h : MH), k + i = ds.length → k < f → Pv i e h → ∃ e' h', loopF src tg body f i e h = .nx e' h' ∧ Pv ds.length e' h' := by
  intro k
  induction k with
  | zero =>
    intro f i e h hk hf hp
    obtain ⟨f, rfl⟩ : ∃ g, f = g + 1 := ⟨f - 1, by omega⟩
    have hi : i = ds.length := by omega
    refine ⟨e, h, ?_, hi ▸ hp⟩
    unfold loopF
    rw [hget i e h hp, hi]
    simp
  | succ k ih =>
    intro f i e h hk hf hp
    obtain ⟨f, rfl⟩ : ∃ g, f = g + 1 := ⟨f - 1, by omega⟩
    have hi : i < ds.length := by omega
    have hd : ds[i]? = some ds[i] := List.getElem?_eq_getElem hi
    obtain ⟨e1, q1, e2, h2, q2, hp'⟩ := hstep i e h _ hp hd
    obtain ⟨e', h', q4, hz⟩ := ih f (i + 1) e2 h2 (by omega) (by omega) hp'
    refine ⟨e', h', ?_, hz⟩
    unfold loopF
    rw [hget i e h hp, hd]
    dsimp only
    rw [q1]
    dsimp only
    rcases q2 with q2 | q2 <;> rw [q2] <;> exact q4
theorem get_lst {h : MH} {n : Nat} {ds : List D} (e : h[n]? = some (.lst ds)) (i : Nat) : (Src.lst (.loc n)).get h i = some ds[i]? := by
  show (lstOf h (.loc n)).map _ = _
  rw [lstOf_L, e]; rfl
theorem fuel_lst {h : MH} {n : Nat} {ds : List D} (e : h[n]? = some (.lst ds)) : (Src.lst (.loc n)).fuel h = ds.length + 1 := by
  show ((lstOf h (.loc n)).getD []).length + 1 = _
  rw [lstOf_L, e]; rfl
theorem get_rng (lo : Int) (n : Nat) (h : MH) (i : Nat) : (Src.rng lo n).get h i = some (((List.range n).map fun (j : Nat) => D.int (lo + (j : Int)))[i]?) := by
  show some (if i < n then some (D.int (lo + (i : Nat))) else none) = _
  by_cases h : i < n
  · rw [if_pos h, List.getElem?_map, List.getElem?_range h]; rfl
  · rw [if_neg h, List.getElem?_map, List.getElem?_eq_none (by simpa using h)]; rfl
theorem get_str (s : Str) (h : MH) (i : Nat) : (Src.str s).get h i = some ((s.cps.toList.map fun c => D.str ⟨#[c]⟩)[i]?) := by
  show some (s.cps[i]?.map fun c => D.str ⟨#[c]⟩) = _
  rw [List.getElem?_map]
  simp
theorem dMerge_len {κ : Type} [DecidableEq κ] : ∀ (more kvs : List (κ × D)), (dMerge kvs more).length ≤ kvs.length + more.length
  | [], _ => by simp [dMerge]
  | kv :: r, kvs => by
    have := dMerge_len r (dPut kvs kv.1 kv.2)
    have h2 := dPut_len kvs kv.1 kv.2
    unfold dMerge at *
    simp only [List.foldl_cons, List.length_cons]
    omega
theorem dPut_key {κ : Type} [DecidableEq κ] {Pk : κ → Prop} (kvs : List (κ × D)) (k : κ) (v : D) (h : ∀ kv ∈ kvs, Pk kv.1) (hk : Pk k) : ∀ kv ∈ dPut kvs k v, Pk kv.1 := by
  unfold dPut
  split
  · intro kv hm
    obtain ⟨kv', hm', rfl⟩ := List.mem_map.mp hm
    by_cases q : kv'.1 = k
    · rw [if_pos q]; exact h kv' hm'
    · rw [if_neg q]; exact h _ hm'
  · intro kv hm
    rcases List.mem_append.mp hm with hm | hm
    · exact h _ hm
    · rw [List.mem_singleton.mp hm]; exact hk
theorem dMerge_key {κ : Type} [DecidableEq κ] {Pk : κ → Prop} : ∀ (more kvs : List (κ × D)), (∀ kv ∈ kvs, Pk kv.1) → (∀ kv ∈ more, Pk kv.1) → ∀ kv ∈ dMerge kvs more, Pk kv.1
  | [], _, h, _ => h
  | kv :: r, kvs, h, h' => by
    have := dMerge_key r (dPut kvs kv.1 kv.2) (dPut_key kvs _ _ h (h' kv (by simp))) (fun x hx => h' x (by simp [hx]))
    unfold dMerge at *
    simpa only [List.foldl_cons] using this
theorem keyStrs_all {Pk : Str → Prop} : ∀ {kvs : List (Key × D)}, (∀ kv ∈ kvs, ∃ s, kv.1 = Sum.inr s ∧ Pk s) → ∃ ss, keyStrs kvs = some ss ∧ ss.length = kvs.length ∧ ∀ s ∈ ss, Pk s
  | [], _ => ⟨[], rfl, rfl, by simp⟩
  | (k, v) :: r, h => by
    obtain ⟨s, e, hs⟩ := h (k, v) (by simp)
    obtain ⟨ss, e', hl, ha⟩ := keyStrs_all (Pk := Pk) (kvs := r) (fun kv hkv => h kv (by simp [hkv]))
    dsimp only at e
    subst e
    refine ⟨s :: ss, by simp [keyStrs, e'], by simp [hl], fun t ht => ?_⟩
    rcases List.mem_cons.mp ht with rfl | ht
    · exact hs
    · exact ha t ht
theorem mem_srt {x : Str} {xs : List Str} : x ∈ srt xs ↔ x ∈ xs := (srt_perm xs).mem_iff
theorem strsOf_map (ss : List Str) : strsOf (ss.map D.str) = some ss := by
  induction ss with
  | nil => rfl
  | cons s r ih => simp [strsOf, ih]
theorem boolsOf_map (ss : List Bool) : boolsOf (ss.map D.bl) = some ss := by
  induction ss with
  | nil => rfl
  | cons s r ih => simp [boolsOf, ih]
end MP
set_option Elab.async false
set_option linter.all false
set_option maxRecDepth 100000
set_option maxHeartbeats 4000000
namespace MP
namespace Pg
open PySem PySem.Spec L2
open He (Fa)
def top (i : Nat) : Stmt := PySem.Challenge.pw_editreach_k81_states_lines_and_edits_wri.main.body.getD i (.Pass ⟨0, 0, 0, 0⟩)
def c_LETTERS : Str := "abcdefghijklmnopqrstuvwxyz"
def c_DIGITS : Str := "0123456789"
def c_SIGNS : Str := " !\"#$&'()*+,-./0123456789:;<=>?@ABCDEFGHIJKLMNOPQRSTUVWXYZ[\\]^_`abcdefghijklmnopqrstuvwxyz{|}~"
def c_BLANK : Str := " "
def c_FEED : Str := "\n"
def c_BAR : Str := "|"
def c_NONE : Str := "-"
abbrev st_law_take : Stmt := top 30
abbrev N_law_take : List Str := ["_law_pot_here", "_law_upto", "_law_digit", "_law_prime", "_law_mixed"]
def b_law_take_1 : S :=
  (sRet (mBin fMod (mB bInt (aCons (mBin fDiv (mVar 4) (mC (.int 101))) aNil)) (mVar 1)))
def b_law_take_2 : S :=
  (sSet 4 (mBin fMod (mB bInt (aCons (mBin fMul (mVar 4) (mBin fAdd (mBin fMod (mB bInt (aCons (mVar 4) aNil)) (mC (.int 10009))) (mBin fMul (mC (.int 83)) (mBin fIx (mVar 0) (mC (.int 2)))))) aNil)) (mC (.int 2305843009213693907))))
def b_law_take_3 : S :=
  (sSet 4 (mBin fMod (mB bInt (aCons (mBin fPow (mB bInt (aCons (mBin fAdd (mBin fAdd (mBin fIx (mVar 0) (mC (.int 1))) (mBin fMul (mBin fMul (mC (.int 99871)) (mBin fIx (mVar 0) (mC (.int 2)))) (mBin fIx (mVar 0) (mC (.int 2))))) (mC (.int 47))) aNil)) (mC (.int 3))) aNil)) (mVar 3)))
def b_law_take_4 : S :=
  (sSet 3 (mBin fIx (mLst (aCons (mC (.int 2147483647)) (aCons (mC (.int 2147483629)) (aCons (mC (.int 2147483587)) (aCons (mC (.int 2147483579)) (aCons (mC (.int 2147483563)) aNil)))))) (mBin fMod (mB bInt (aCons (mBin fIx (mVar 0) (mC (.int 2))) aNil)) (mC (.int 5)))))
def b_law_take_5 : S :=
  (sSetIx (mBin fAdd (mBin fIx (mVar 0) (mC (.int 2))) (mC (.int 1))) (mVar 0) (mC (.int 2)))
def b_law_take_6 : S :=
  (sIf (mTest (mBin fGt (mBin fIx (mVar 0) (mC (.int 0))) (mC (.int 0)))) (sSeq (sSet 2 (mBin fMod (mB bInt (aCons (mBin fIx (mVar 0) (mC (.int 0))) aNil)) (mVar 1)))
  (sSeq (sSetIx (mBin fDiv (mBin fIx (mVar 0) (mC (.int 0))) (mVar 1)) (mVar 0) (mC (.int 0)))
  (sRet (mVar 2)))) sNop)
def b_law_take : S :=
  (sSeq b_law_take_6
  (sSeq b_law_take_5
  (sSeq b_law_take_4
  (sSeq b_law_take_3
  (sSeq b_law_take_2
  b_law_take_1)))))
def F_law_take : List D → MH → R D := denF 5 b_law_take
abbrev st_law_of : Stmt := top 31
abbrev N_law_of : List Str := ["_law_pot_here", "_law_some"]
def b_law_of : S :=
  (sRet (mBin fIx (mVar 1) (mCall 2 F_law_take (aCons (mVar 0) (aCons (mB bLen (aCons (mVar 1) aNil)) aNil)))))
def F_law_of : List D → MH → R D := denF 2 b_law_of
abbrev st_law_deed : Stmt := top 34
abbrev N_law_deed : List Str := ["_law_pot_here", "_law_names", "_law_some", "_law_word"]
def b_law_deed : S :=
  (sSeq (sSet 3 (mCall 2 F_law_of (aCons (mVar 0) (aCons (mVar 2) aNil))))
  (sRet (mIf (mTest (mBin fIn (mVar 3) (mTup (aCons (mC (.str "open")) (aCons (mC (.str "turn")) aNil))))) (mTup (aCons (mVar 3) (aCons (mCall 2 F_law_of (aCons (mVar 0) (aCons (mVar 1) aNil))) aNil))) (mIf (mTest (mBin fNe (mVar 3) (mC (.str "")))) (mTup (aCons (mVar 3) aNil)) (mTup aNil)))))
def F_law_deed : List D → MH → R D := denF 4 b_law_deed
abbrev st_law_book : Stmt := top 35
abbrev N_law_book : List Str := ["_law_pot_here", "_law_names", "_law_modes", "_law_depth", "_law_signs_here", "_law_name", "_law_colour", "_law_own", "_law_ending", "_law_sign", "_law_shade"]
def b_law_book_1 : S :=
  (sIf (mTest (mBin fEq (mCall 2 F_law_take (aCons (mVar 0) (aCons (mIf (mTest (mBin fEq (mVar 9) (mC (.str "any")))) (mC (.int 5)) (mC (.int 2))) aNil))) (mC (.int 0)))) (sSeq (sSet 10 (mCall 2 F_law_of (aCons (mVar 0) (aCons (mLst (aCons (mC (.str "red")) (aCons (mC (.str "blue")) (aCons (mC (.str "green")) aNil)))) aNil))))
  (sDrop (mMeth "list" fAppend (mVar 7) (aCons (mTup (aCons (mVar 9) (aCons (mVar 10) (aCons (mCall 3 F_law_deed (aCons (mVar 0) (aCons (mVar 1) (aCons (mLst (aCons (mC (.str "open")) (aCons (mC (.str "open")) (aCons (mC (.str "turn")) (aCons (mC (.str "close")) (aCons (mC (.str "")) aNil)))))) aNil)))) aNil)))) aNil)))) sNop)
def b_law_book_2 : S :=
  (sSeq (sPar 6 7 (mCall 2 F_law_of (aCons (mVar 0) (aCons (mLst (aCons (mC (.str "red")) (aCons (mC (.str "red")) (aCons (mC (.str "blue")) aNil)))) aNil))) (mLst aNil))
  (sSeq (sSet 8 (mCall 3 F_law_deed (aCons (mVar 0) (aCons (mVar 1) (aCons (mLst (aCons (mC (.str "")) (aCons (mC (.str "")) (aCons (mC (.str "close")) (aCons (mC (.str "end")) (aCons (mC (.str "turn")) aNil)))))) aNil)))))
  (sSeq (sFor (iL (mBin fAdd (mVar 4) (mLst (aCons (mC (.str "any")) aNil)))) (.nm 9) b_law_book_1)
  (sDrop (mMeth "list" fAppend (mVar 2) (aCons (mTup (aCons (mVar 5) (aCons (mVar 6) (aCons (mVar 8) (aCons (mVar 7) aNil))))) aNil))))))
def b_law_book : S :=
  (sSeq (sPar 1 2 (mSl (mLst (aCons (mC (.str "a")) (aCons (mC (.str "b")) (aCons (mC (.str "c")) aNil)))) oNone (oSome (mBin fAdd (mC (.int 1)) (mCall 2 F_law_take (aCons (mVar 0) (aCons (mC (.int 3)) aNil)))))) (mLst aNil))
  (sSeq (sPar 3 4 (mCall 2 F_law_of (aCons (mVar 0) (aCons (mLst (aCons (mC (.int 2)) (aCons (mC (.int 2)) (aCons (mC (.int 1)) aNil)))) aNil))) (mSl (mLst (aCons (mC (.str "!")) (aCons (mC (.str "a")) (aCons (mC (.str " ")) aNil)))) oNone (oSome (mBin fAdd (mC (.int 1)) (mCall 2 F_law_take (aCons (mVar 0) (aCons (mC (.int 3)) aNil)))))))
  (sSeq (sFor (iL (mVar 1)) (.nm 5) b_law_book_2)
  (sRet (mDisp [((mC (.str "depth")), (mVar 3)), ((mC (.str "modes")), (mVar 2))])))))
def F_law_book : List D → MH → R D := denF 11 b_law_book
abbrev st_law_pot : Stmt := top 29
abbrev N_law_pot : List Str := ["_law_script", "_law_k", "_law_cell", "_law_own", "_law_mixed"]
def b_law_pot : S :=
  (sSeq (sSet 2 (mIf (mTest (mBin fLt (mVar 1) (mB bLen (aCons (mVar 0) aNil)))) (mBin fIx (mVar 0) (mVar 1)) (mBin fAdd (mBin fMul (mC (.int 37)) (mVar 1)) (mC (.int 17)))))
  (sSeq (sSet 3 (mBin fMul (mBin fMod (mB bInt (aCons (mB bAbs (aCons (mVar 2) aNil)) aNil)) (mBin fPow (mBin fPow (mC (.int 10)) (mC (.int 60))) (mC (.int 5)))) (mB bInt (aCons (mBin fGe (mB bAbs (aCons (mVar 2) aNil)) (mBin fPow (mC (.int 10)) (mC (.int 18)))) aNil))))
  (sSeq (sSet 4 (mBin fAdd (mBin fAdd (mBin fMul (mBin fMod (mB bInt (aCons (mVar 2) aNil)) (mC (.int 2305843009213693951))) (mC (.int 70241))) (mBin fMul (mBin fMul (mC (.int 6197)) (mVar 1)) (mVar 1))) (mC (.int 61))))
  (sRet (mLst (aCons (mVar 3) (aCons (mBin fMod (mB bInt (aCons (mVar 4) aNil)) (mC (.int 2305843009213693921))) (aCons (mC (.int 0)) aNil))))))))
def F_law_pot : List D → MH → R D := denF 5 b_law_pot
abbrev st_law_signs : Stmt := top 33
abbrev N_law_signs : List Str := ["_law_book_here", "_law_found", "_law_name", "_law_colour", "_law_ending", "_law_own", "_law_row"]
def m_law_signs_1 : M :=
  (mTup (aCons (mBin fIx (mVar 6) (mC (.int 0))) (aCons (mC (.bl true)) aNil)))
def c_law_signs_2 : MB :=
  (mTest (mBin fNe (mBin fIx (mVar 6) (mC (.int 0))) (mC (.str "any"))))
def b_law_signs_3 : S :=
  (sDrop (mMeth "dict" fUpdate (mVar 1) (aCons (mB bDict (aCons (mLc (iL (mVar 5)) (.nm 6) c_law_signs_2 m_law_signs_1 [6]) aNil)) aNil)))
def b_law_signs : S :=
  (sSeq (sSet 1 mDNew)
  (sSeq (sFor (iL (mBin fDGet (mVar 0) (mC (.str "modes")))) (.tp [2, 3, 4, 5]) b_law_signs_3)
  (sRet (mBin fAdd (mB bSorted (aCons (mVar 1) aNil)) (mLst (aCons (mC (.str "z")) aNil))))))
def F_law_signs : List D → MH → R D := denF 7 b_law_signs
abbrev st_law_line : Stmt := top 36
abbrev N_law_line : List Str := ["_law_pot_here", "_law_book_here", "_law_most", "_law_turn"]
def m_law_line_1 : M :=
  (mCall 2 F_law_of (aCons (mVar 0) (aCons (mCall 1 F_law_signs (aCons (mVar 1) aNil)) aNil)))
def b_law_line : S :=
  (sRet (mMeth "str" fJoin (mC (.str "")) (aCons (mLc (iR1 (mCall 2 F_law_take (aCons (mVar 0) (aCons (mBin fAdd (mVar 2) (mC (.int 1))) aNil)))) (.nm 3) bYes m_law_line_1 [3]) aNil)))
def F_law_line : List D → MH → R D := denF 4 b_law_line
abbrev st_law_lines_text : Stmt := top 37
abbrev N_law_lines_text : List Str := ["_law_lines", "_law_line_here"]
def m_law_lines_text_1 : M :=
  (mBin fAdd (mC (.str "|")) (mVar 1))
def b_law_lines_text : S :=
  (sRet (mIf (mTest (mBin fNe (mVar 0) (mTup aNil))) (mMeth "str" fJoin (mC (.str "\n")) (aCons (mLc (iT (mVar 0)) (.nm 1) bYes m_law_lines_text_1 [1]) aNil)) (mC (.str "-"))))
def F_law_lines_text : List D → MH → R D := denF 2 b_law_lines_text
abbrev st_is_line : Stmt := top 10
abbrev N_is_line : List Str := ["value", "sign"]
def m_is_line_1 : M :=
  (mBin fIn (mVar 1) (mC (.str c_SIGNS)))
def b_is_line : S :=
  (sRet (vAnd (mB bIsi (aCons (mVar 0) (aCons (mC (.ty "str")) aNil))) (mB bAll (aCons (mLc (iS (mVar 0)) (.nm 1) bYes m_is_line_1 [1]) aNil))))
def F_is_line : List D → MH → R D := denF 2 b_is_line
abbrev st_lines_in : Stmt := top 22
abbrev N_lines_in : List Str := ["text", "rows", "row"]
def m_lines_in_1 : M :=
  (mSl (mVar 2) (oSome (mC (.int 1))) oNone)
def m_lines_in_2 : M :=
  (vAnd (mMeth "str" fStarts (mVar 2) (aCons (mC (.str c_BAR)) aNil)) (mCall 1 F_is_line (aCons (mSl (mVar 2) (oSome (mC (.int 1))) oNone) aNil)))
def b_lines_in : S :=
  (sSeq (sIf (mTest (mBin fEq (mVar 0) (mC (.str c_NONE)))) (sRet (mTup aNil)) sNop)
  (sSeq (sSet 1 (mMeth "str" fSplit (mVar 0) (aCons (mC (.str c_FEED)) aNil)))
  (sSeq (sIf (mNot (mTest (mB bAll (aCons (mLc (iL (mVar 1)) (.nm 2) bYes m_lines_in_2 [2]) aNil)))) (sRet (mC .non)) sNop)
  (sRet (mB bTuple (aCons (mLc (iL (mVar 1)) (.nm 2) bYes m_lines_in_1 [2]) aNil))))))
def F_lines_in : List D → MH → R D := denF 3 b_lines_in
abbrev st_number_in : Stmt := top 11
abbrev N_number_in : List Str := ["word", "digit"]
def m_number_in_1 : M :=
  (mBin fIn (mVar 1) (mC (.str c_DIGITS)))
def b_number_in : S :=
  (sSeq (sIf (mOr (mNot (mTest (mChain fLe fLe (mC (.int 1)) (mB bLen (aCons (mVar 0) aNil)) (mC (.int 9))))) (mNot (mTest (mB bAll (aCons (mLc (iS (mVar 0)) (.nm 1) bYes m_number_in_1 [1]) aNil))))) (sRet (mC .non)) sNop)
  (sRet (mIf (mOr (mTest (mBin fEq (mVar 0) (mC (.str "0")))) (mTest (mBin fNe (mBin fIx (mVar 0) (mC (.int 0))) (mC (.str "0"))))) (mB bInt (aCons (mVar 0) aNil)) (mC .non))))
def F_number_in : List D → MH → R D := denF 2 b_number_in
abbrev st_edit_in : Stmt := top 23
abbrev N_edit_in : List Str := ["text", "head", "feed", "rest", "numbers", "new", "word"]
def m_edit_in_1 : M :=
  (mCall 1 F_number_in (aCons (mVar 6) aNil))
def b_edit_in : S :=
  (sSeq (sTg (.tp [1, 2, 3]) (mMeth "str" fPartition (mVar 0) (aCons (mC (.str c_FEED)) aNil)))
  (sSeq (sPar 4 5 (mLc (iL (mMeth "str" fSplit (mVar 1) (aCons (mC (.str c_BLANK)) aNil))) (.nm 6) bYes m_edit_in_1 [6]) (mCall 1 F_lines_in (aCons (mVar 3) aNil)))
  (sSeq (sIf (mOr (mTest (mBin fNe (mB bLen (aCons (mVar 4) aNil)) (mC (.int 2)))) (mOr (mTest (mBin fIn (mC .non) (mVar 4))) (mOr (mTest (mBin fEq (mVar 2) (mC (.str "")))) (mOr (mTest (mBin fIsN (mVar 5) (mC .non))) (mTest (mBin fGt (mBin fIx (mVar 4) (mC (.int 0))) (mBin fIx (mVar 4) (mC (.int 1))))))))) (sRet (mC .non)) sNop)
  (sRet (mTup (aCons (mBin fIx (mVar 4) (mC (.int 0))) (aCons (mBin fIx (mVar 4) (mC (.int 1))) (aCons (mVar 5) aNil))))))))
def F_edit_in : List D → MH → R D := denF 7 b_edit_in
abbrev st_is_name : Stmt := top 9
abbrev N_is_name : List Str := ["value", "letter"]
def m_is_name_1 : M :=
  (mBin fIn (mVar 1) (mC (.str c_LETTERS)))
def b_is_name : S :=
  (sSeq (sIf (mOr (mNot (mTest (mB bIsi (aCons (mVar 0) (aCons (mC (.ty "str")) aNil))))) (mNot (mTest (mChain fLe fLe (mC (.int 1)) (mB bLen (aCons (mVar 0) aNil)) (mC (.int 8)))))) (sRet (mC (.bl false))) sNop)
  (sRet (mB bAll (aCons (mLc (iS (mVar 0)) (.nm 1) bYes m_is_name_1 [1]) aNil))))
def F_is_name : List D → MH → R D := denF 2 b_is_name
abbrev st_state_in : Stmt := top 21
abbrev N_state_in : List Str := ["text", "names", "name"]
def m_state_in_1 : M :=
  (mCall 1 F_is_name (aCons (mVar 2) aNil))
def b_state_in : S :=
  (sSeq (sSet 1 (mB bTuple (aCons (mMeth "str" fSplit (mVar 0) (aCons (mC (.str c_BLANK)) aNil)) aNil)))
  (sRet (mIf (mAnd (mTest (mBin fLe (mB bLen (aCons (mVar 1) aNil)) (mC (.int 3)))) (mTest (mB bAll (aCons (mLc (iT (mVar 1)) (.nm 2) bYes m_state_in_1 [2]) aNil)))) (mVar 1) (mC .non))))
def F_state_in : List D → MH → R D := denF 3 b_state_in
abbrev st_shown_value : Stmt := top 24
abbrev N_shown_value : List Str := ["text", "reader", "value"]
def tab_shown_value_reader : List (Str × Nat × (List D → MH → R D)) := [("state_in", 1, F_state_in), ("lines_in", 1, F_lines_in), ("edit_in", 1, F_edit_in)]
def b_shown_value : S :=
  (sSeq (sSet 2 (mIf (mTest (mB bIsi (aCons (mVar 0) (aCons (mC (.ty "str")) aNil)))) (mCallV 1 tab_shown_value_reader (aCons (mVar 0) aNil)) (mC .non)))
  (sSeq (sIf (mTest (mBin fIsN (mVar 2) (mC .non))) sNo sNop)
  (sRet (mVar 2))))
def F_shown_value : List D → MH → R D := denF 3 b_shown_value
abbrev st_read_edit : Stmt := top 27
abbrev N_read_edit : List Str := ["text"]
def b_read_edit : S :=
  (sRet (mCall 2 F_shown_value (aCons (mVar 0) (aCons (mC (.fn "edit_in")) aNil))))
def F_read_edit : List D → MH → R D := denF 1 b_read_edit
abbrev st_read_lines : Stmt := top 26
abbrev N_read_lines : List Str := ["text"]
def b_read_lines : S :=
  (sRet (mCall 2 F_shown_value (aCons (mVar 0) (aCons (mC (.fn "lines_in")) aNil))))
def F_read_lines : List D → MH → R D := denF 1 b_read_lines
abbrev st_read_state : Stmt := top 25
abbrev N_read_state : List Str := ["text"]
def b_read_state : S :=
  (sRet (mCall 2 F_shown_value (aCons (mVar 0) (aCons (mC (.fn "state_in")) aNil))))
def F_read_state : List D → MH → R D := denF 1 b_read_state
abbrev st_show_lines : Stmt := top 19
abbrev N_show_lines : List Str := ["lines", "line"]
def m_show_lines_1 : M :=
  (mJs [(mFmt (mC (.str c_BAR))), (mFmt (mVar 1))] Str.empty)
def b_show_lines : S :=
  (sRet (mIf (mTest (mBin fNe (mVar 0) (mTup aNil))) (mMeth "str" fJoin (mC (.str c_FEED)) (aCons (mLc (iT (mVar 0)) (.nm 1) bYes m_show_lines_1 [1]) aNil)) (mC (.str c_NONE))))
def F_show_lines : List D → MH → R D := denF 2 b_show_lines
abbrev st_show_edit : Stmt := top 20
abbrev N_show_edit : List Str := ["edit", "first", "last", "new"]
def b_show_edit : S :=
  (sSeq (sTg (.tp [1, 2, 3]) (mVar 0))
  (sRet (mJs [(mFmt (mVar 1)), (mFmt (mC (.str c_BLANK))), (mFmt (mVar 2)), (mFmt (mC (.str c_FEED))), (mFmt (mCall 1 F_show_lines (aCons (mVar 3) aNil)))] Str.empty)))
def F_show_edit : List D → MH → R D := denF 4 b_show_edit
abbrev st_show_state : Stmt := top 18
abbrev N_show_state : List Str := ["state"]
def b_show_state : S :=
  (sRet (mMeth "str" fJoin (mC (.str c_BLANK)) (aCons (mVar 0) aNil)))
def F_show_state : List D → MH → R D := denF 1 b_show_state
abbrev st_law_right : Stmt := top 38
abbrev N_law_right : List Str := ["_law_pot_here", "_law_book_here", "_law_names", "_law_state", "_law_lines", "_law_said", "_law_first", "_law_edit", "_law_row", "_law_turn"]
def b_law_right_1 : S :=
  (sRet (vAnd (mBin fEq (mCall 1 F_show_edit (aCons (mVar 7) aNil)) (mVar 5)) (mBin fEq (mCall 1 F_read_edit (aCons (mVar 5) aNil)) (mVar 7))))
def b_law_right_2 : S :=
  (sSet 5 (mBin fAdd (mBin fAdd (mBin fAdd (mBin fAdd (mB bStr (aCons (mBin fIx (mVar 7) (mC (.int 0))) aNil)) (mC (.str " "))) (mB bStr (aCons (mBin fIx (mVar 7) (mC (.int 1))) aNil))) (mC (.str "\n"))) (mVar 5)))
def b_law_right_3 : S :=
  (sSet 7 (mTup (aCons (mVar 6) (aCons (mB bMin2 (aCons (mC (.int 999999999)) (aCons (mBin fAdd (mVar 6) (mCall 2 F_law_of (aCons (mVar 0) (aCons (mLst (aCons (mC (.int 0)) (aCons (mC (.int 1)) (aCons (mC (.int 5)) aNil)))) aNil)))) aNil))) (aCons (mVar 4) aNil)))))
def b_law_right_4 : S :=
  (sSet 6 (mCall 2 F_law_of (aCons (mVar 0) (aCons (mLst (aCons (mC (.int 0)) (aCons (mC (.int 1)) (aCons (mC (.int 7)) (aCons (mC (.int 10)) (aCons (mC (.int 199)) (aCons (mC (.int 999999999)) aNil))))))) aNil))))
def b_law_right_5 : S :=
  (sIf (mOr (mTest (mBin fNe (mCall 1 F_show_lines (aCons (mVar 4) aNil)) (mVar 5))) (mTest (mBin fNe (mCall 1 F_read_lines (aCons (mVar 5) aNil)) (mVar 4)))) (sRet (mC (.bl false))) sNop)
def b_law_right_6 : S :=
  (sSet 5 (mCall 1 F_law_lines_text (aCons (mVar 4) aNil)))
def b_law_right_7 : S :=
  (sSet 4 (mCall 2 F_law_of (aCons (mVar 0) (aCons (mLst (aCons (mVar 4) (aCons (mVar 4) (aCons (mTup (aCons (mC (.str "")) (aCons (mC (.str " |")) (aCons (mC (.str "-")) aNil)))) (aCons (mTup (aCons (mC (.str "a  b ")) aNil)) (aCons (mTup aNil) aNil)))))) aNil))))
def m_law_right_8 : M :=
  (mCall 3 F_law_line (aCons (mVar 0) (aCons (mVar 1) (aCons (mC (.int 5)) aNil))))
def b_law_right_9 : S :=
  (sSet 4 (mB bTuple (aCons (mLc (iR1 (mCall 2 F_law_take (aCons (mVar 0) (aCons (mC (.int 4)) aNil)))) (.nm 9) bYes m_law_right_8 [9]) aNil)))
def b_law_right_10 : S :=
  (sIf (mOr (mTest (mBin fNe (mCall 1 F_show_state (aCons (mVar 3) aNil)) (mMeth "str" fJoin (mC (.str " ")) (aCons (mVar 2) aNil)))) (mTest (mBin fNe (mCall 1 F_read_state (aCons (mMeth "str" fJoin (mC (.str " ")) (aCons (mVar 2) aNil)) aNil)) (mVar 3)))) (sRet (mC (.bl false))) sNop)
def b_law_right_11 : S :=
  (sSet 3 (mB bTuple (aCons (mVar 2) aNil)))
def m_law_right_12 : M :=
  (mBin fIx (mVar 8) (mC (.int 0)))
def b_law_right_13 : S :=
  (sSet 2 (mCall 2 F_law_of (aCons (mVar 0) (aCons (mLst (aCons (mLst (aCons (mC (.str "a")) aNil)) (aCons (mLst (aCons (mC (.str "code")) (aCons (mC (.str "warm")) aNil))) (aCons (mLst (aCons (mC (.str "a")) (aCons (mC (.str "zzzzzzzz")) (aCons (mC (.str "mode")) aNil)))) (aCons (mLc (iL (mBin fDGet (mVar 1) (mC (.str "modes")))) (.nm 8) bYes m_law_right_12 [8]) aNil))))) aNil))))
def b_law_right : S :=
  (sSeq b_law_right_13
  (sSeq b_law_right_11
  (sSeq b_law_right_10
  (sSeq b_law_right_9
  (sSeq b_law_right_7
  (sSeq b_law_right_6
  (sSeq b_law_right_5
  (sSeq b_law_right_4
  (sSeq b_law_right_3
  (sSeq b_law_right_2
  b_law_right_1))))))))))
def F_law_right : List D → MH → R D := denF 10 b_law_right
abbrev st_law : Stmt := top 39
abbrev N_law : List Str := ["_law_script", "_law_k", "_law_pot_here", "_law_book_here", "_law_turn"]
def m_law_1 : M :=
  (mCall 2 F_law_right (aCons (mVar 2) (aCons (mVar 3) aNil)))
def b_law_2 : S :=
  (sSeq (sSet 2 (mCall 2 F_law_pot (aCons (mVar 0) (aCons (mVar 1) aNil))))
  (sSeq (sSet 3 (mCall 1 F_law_book (aCons (mVar 2) aNil)))
  (sIf (mNot (mTest (mB bAll (aCons (mLc (iR1 (mC (.int 16))) (.nm 4) bYes m_law_1 [4]) aNil)))) (sRet (mC (.bl false))) sNop)))
def b_law : S :=
  (sSeq (sFor (iR1 (mB bMax2 (aCons (mC (.int 1)) (aCons (mB bMin2 (aCons (mC (.int 3)) (aCons (mB bLen (aCons (mVar 0) aNil)) aNil))) aNil)))) (.nm 1) b_law_2)
  (sRet (mC (.bl true))))
def F_law : List D → MH → R D := denF 5 b_law
abbrev fa : List Fa := [Fa.free "range",
  Fa.free "len",
  Fa.free "min",
  Fa.free "max",
  Fa.free "all",
  Fa.free "int",
  Fa.free "abs",
  Fa.free "str",
  Fa.free "tuple",
  Fa.free "sorted",
  Fa.free "dict",
  Fa.glo "edit_in",
  Fa.free "isinstance",
  Fa.str "BLANK" c_BLANK,
  Fa.str "FEED" c_FEED,
  Fa.str "BAR" c_BAR,
  Fa.str "NONE" c_NONE,
  Fa.str "SIGNS" c_SIGNS,
  Fa.str "DIGITS" c_DIGITS,
  Fa.int "MOST_DIGITS" 9,
  Fa.int "MOST_DEPTH" 3,
  Fa.str "LETTERS" c_LETTERS,
  Fa.int "MOST_LETTERS" 8,
  Fa.glo "lines_in",
  Fa.glo "state_in",
  Fa.glo "_law_take",
  Fa.glo "_law_of",
  Fa.glo "_law_deed",
  Fa.glo "_law_book",
  Fa.glo "_law_pot",
  Fa.glo "_law_signs",
  Fa.glo "_law_line",
  Fa.glo "_law_lines_text",
  Fa.glo "is_line",
  Fa.glo "number_in",
  Fa.glo "is_name",
  Fa.glo "shown_value",
  Fa.glo "read_edit",
  Fa.glo "read_lines",
  Fa.glo "read_state",
  Fa.glo "show_lines",
  Fa.glo "show_edit",
  Fa.glo "show_state",
  Fa.glo "_law_right",
  Fa.glo "law"]
abbrev dD (x : Str) (st : Stmt) : He.DefD := ⟨(x, none), x, x, defArgs st, defBody st, defScope st, [], []⟩
abbrev fn : List He.DefD := [dD "_law_take" st_law_take,
  dD "_law_of" st_law_of,
  dD "_law_deed" st_law_deed,
  dD "_law_book" st_law_book,
  dD "_law_pot" st_law_pot,
  dD "_law_signs" st_law_signs,
  dD "_law_line" st_law_line,
  dD "_law_lines_text" st_law_lines_text,
  dD "is_line" st_is_line,
  dD "lines_in" st_lines_in,
  dD "number_in" st_number_in,
  dD "edit_in" st_edit_in,
  dD "is_name" st_is_name,
  dD "state_in" st_state_in,
  dD "shown_value" st_shown_value,
  dD "read_edit" st_read_edit,
  dD "read_lines" st_read_lines,
  dD "read_state" st_read_state,
  dD "show_lines" st_show_lines,
  dD "show_edit" st_show_edit,
  dD "show_state" st_show_state,
  dD "_law_right" st_law_right,
  dD "law" st_law]
abbrev topIx : Nat := 39
abbrev lawLevel : Nat := 7
abbrev loose : List Str := (["ReachError", "BadShown", "LETTERS", "DIGITS", "SIGNS", "MOST_LETTERS", "MOST_DIGITS", "is_name", "is_line", "number_in", "BLANK", "FEED", "BAR", "NONE", "MOST_DEPTH", "show_state", "show_lines", "show_edit", "state_in", "lines_in", "edit_in", "shown_value", "read_state", "read_lines", "read_edit"] : List Str) ++ (["_law_pot", "_law_take", "_law_of", "_law_end", "_law_signs", "_law_deed", "_law_book", "_law_line", "_law_lines_text", "_law_right"] : List Str)
theorem sc_law_take : FnScope N_law_take ["_law_pot_here", "_law_upto"] (defScope st_law_take) := ⟨rfl, rfl, rfl, by decide +kernel, rfl, by decide +kernel, by decide +kernel⟩
theorem sc_law_of : FnScope N_law_of ["_law_pot_here", "_law_some"] (defScope st_law_of) := ⟨rfl, rfl, rfl, by decide +kernel, rfl, by decide +kernel, by decide +kernel⟩
theorem sc_law_deed : FnScope N_law_deed ["_law_pot_here", "_law_names", "_law_some"] (defScope st_law_deed) := ⟨rfl, rfl, rfl, by decide +kernel, rfl, by decide +kernel, by decide +kernel⟩
theorem sc_law_book : FnScope N_law_book ["_law_pot_here"] (defScope st_law_book) := ⟨rfl, rfl, rfl, by decide +kernel, rfl, by decide +kernel, by decide +kernel⟩
theorem sc_law_pot : FnScope N_law_pot ["_law_script", "_law_k"] (defScope st_law_pot) := ⟨rfl, rfl, rfl, by decide +kernel, rfl, by decide +kernel, by decide +kernel⟩
theorem sc_law_signs : FnScope N_law_signs ["_law_book_here"] (defScope st_law_signs) := ⟨rfl, rfl, rfl, by decide +kernel, rfl, by decide +kernel, by decide +kernel⟩
theorem sc_law_line : FnScope N_law_line ["_law_pot_here", "_law_book_here", "_law_most"] (defScope st_law_line) := ⟨rfl, rfl, rfl, by decide +kernel, rfl, by decide +kernel, by decide +kernel⟩
theorem sc_law_lines_text : FnScope N_law_lines_text ["_law_lines"] (defScope st_law_lines_text) := ⟨rfl, rfl, rfl, by decide +kernel, rfl, by decide +kernel, by decide +kernel⟩
theorem sc_is_line : FnScope N_is_line ["value"] (defScope st_is_line) := ⟨rfl, rfl, rfl, by decide +kernel, rfl, by decide +kernel, by decide +kernel⟩
theorem sc_lines_in : FnScope N_lines_in ["text"] (defScope st_lines_in) := ⟨rfl, rfl, rfl, by decide +kernel, rfl, by decide +kernel, by decide +kernel⟩
theorem sc_number_in : FnScope N_number_in ["word"] (defScope st_number_in) := ⟨rfl, rfl, rfl, by decide +kernel, rfl, by decide +kernel, by decide +kernel⟩
theorem sc_edit_in : FnScope N_edit_in ["text"] (defScope st_edit_in) := ⟨rfl, rfl, rfl, by decide +kernel, rfl, by decide +kernel, by decide +kernel⟩
theorem sc_is_name : FnScope N_is_name ["value"] (defScope st_is_name) := ⟨rfl, rfl, rfl, by decide +kernel, rfl, by decide +kernel, by decide +kernel⟩
theorem sc_state_in : FnScope N_state_in ["text"] (defScope st_state_in) := ⟨rfl, rfl, rfl, by decide +kernel, rfl, by decide +kernel, by decide +kernel⟩
theorem sc_shown_value : FnScope N_shown_value ["text", "reader"] (defScope st_shown_value) := ⟨rfl, rfl, rfl, by decide +kernel, rfl, by decide +kernel, by decide +kernel⟩
theorem sc_read_edit : FnScope N_read_edit ["text"] (defScope st_read_edit) := ⟨rfl, rfl, rfl, by decide +kernel, rfl, by decide +kernel, by decide +kernel⟩
theorem sc_read_lines : FnScope N_read_lines ["text"] (defScope st_read_lines) := ⟨rfl, rfl, rfl, by decide +kernel, rfl, by decide +kernel, by decide +kernel⟩
theorem sc_read_state : FnScope N_read_state ["text"] (defScope st_read_state) := ⟨rfl, rfl, rfl, by decide +kernel, rfl, by decide +kernel, by decide +kernel⟩
theorem sc_show_lines : FnScope N_show_lines ["lines"] (defScope st_show_lines) := ⟨rfl, rfl, rfl, by decide +kernel, rfl, by decide +kernel, by decide +kernel⟩
theorem sc_show_edit : FnScope N_show_edit ["edit"] (defScope st_show_edit) := ⟨rfl, rfl, rfl, by decide +kernel, rfl, by decide +kernel, by decide +kernel⟩
theorem sc_show_state : FnScope N_show_state ["state"] (defScope st_show_state) := ⟨rfl, rfl, rfl, by decide +kernel, rfl, by decide +kernel, by decide +kernel⟩
theorem sc_law_right : FnScope N_law_right ["_law_pot_here", "_law_book_here"] (defScope st_law_right) := ⟨rfl, rfl, rfl, by decide +kernel, rfl, by decide +kernel, by decide +kernel⟩
theorem sc_law : FnScope N_law ["_law_script"] (defScope st_law) := ⟨rfl, rfl, rfl, by decide +kernel, rfl, by decide +kernel, by decide +kernel⟩
section
variable {P : Program} {w : World} {K : PySem.W.Frag} {mg : Str → Option Value} {base h : Heap}
set_option maxHeartbeats 4000000 in
theorem dn_law_take (KX : K.In h) (G : h.Ns mainGlobals mg) (c : He.SaysD fa fn K)  : ∀ (cdv : Value) (A : Around) (outer : List PySem.Env) (s' : Shared) (H : Hp) (E : XK), Room 0 (A.deeper (PyProof.Rows.envOfC "_law_take" (defScope st_law_take) s'.heap.objs.size (He.ga K "_law_take") cdv)) → DenSs (cxOf CX0 P w K mg base N_law_take "_law_take" (defScope st_law_take) (He.ga K "_law_take") cdv A outer s' H E).nox B0 (defBody st_law_take) b_law_take := by
  intro cdv A outer s' H E hr
  exact (denss_cons (dens_if (dent_cmp gt_ok op_gt (den_ix (den_var 0) den_int) den_int (nomark _)) (denss_cons (dens_set (i := 2) sc_law_take.nd rfl (by first | exact Or.inl rfl | exact Or.inr rfl) (den_bin mod_ok op_mod (den_callTy int_ok call_intAll rfl (He.free_ok KX G (c.fact 5 rfl)) (by decide +kernel) (dena_cons (den_ix (den_var 0) den_int) dena_nil)) (den_var 1)))
    (denss_cons (dens_setIx (den_bin div_ok op_fdiv (den_ix (den_var 0) den_int) (den_var 1)) (den_var 0) den_int)
    (denss_one (dens_ret (den_var 2))))) denss_nil)
    (denss_cons (dens_setIx (den_bin add_ok op_addAll (den_ix (den_var 0) den_int) den_int) (den_var 0) den_int)
    (denss_cons (dens_set (i := 3) sc_law_take.nd rfl (by first | exact Or.inl rfl | exact Or.inr rfl) (den_ix (den_lst (dena_cons den_int (dena_cons den_int (dena_cons den_int (dena_cons den_int (dena_cons den_int dena_nil)))))) (den_bin mod_ok op_mod (den_callTy int_ok call_intAll rfl (He.free_ok KX G (c.fact 5 rfl)) (by decide +kernel) (dena_cons (den_ix (den_var 0) den_int) dena_nil)) den_int)))
    (denss_cons (dens_set (i := 4) sc_law_take.nd rfl (by first | exact Or.inl rfl | exact Or.inr rfl) (den_bin mod_ok op_mod (den_callTy int_ok call_intAll rfl (He.free_ok KX G (c.fact 5 rfl)) (by decide +kernel) (dena_cons (den_bin pow_ok op_powW (den_callTy int_ok call_intAll rfl (He.free_ok KX G (c.fact 5 rfl)) (by decide +kernel) (dena_cons (den_bin add_ok op_addAll (den_bin add_ok op_addAll (den_ix (den_var 0) den_int) (den_bin mul_ok op_mulAll (den_bin mul_ok op_mulAll den_int (den_ix (den_var 0) den_int)) (den_ix (den_var 0) den_int))) den_int) dena_nil)) den_int) dena_nil)) (den_var 3)))
    (denss_cons (dens_set (i := 4) sc_law_take.nd rfl (by first | exact Or.inl rfl | exact Or.inr rfl) (den_bin mod_ok op_mod (den_callTy int_ok call_intAll rfl (He.free_ok KX G (c.fact 5 rfl)) (by decide +kernel) (dena_cons (den_bin mul_ok op_mulAll (den_var 4) (den_bin add_ok op_addAll (den_bin mod_ok op_mod (den_callTy int_ok call_intAll rfl (He.free_ok KX G (c.fact 5 rfl)) (by decide +kernel) (dena_cons (den_var 4) dena_nil)) den_int) (den_bin mul_ok op_mulAll den_int (den_ix (den_var 0) den_int)))) dena_nil)) den_int))
    (denss_one (dens_ret (den_bin mod_ok op_mod (den_callTy int_ok call_intAll rfl (He.free_ok KX G (c.fact 5 rfl)) (by decide +kernel) (dena_cons (den_bin div_ok op_fdiv (den_var 4) den_int) dena_nil)) (den_var 1)))))))))
theorem ok_law_take (KX : K.In h) (G : h.Ns mainGlobals mg) (c : He.SaysD fa fn K)  : Ok P w K mg base 1 "_law_take" 2 F_law_take :=
  ok_mk (N := N_law_take) KX G (c.fact 25 rfl) (c.def_ 0 (d := dD "_law_take" st_law_take) rfl) sc_law_take rfl (fun _ _ _ _ _ _ us hl => match us, hl with | [_, _], _ => rfl) (dn_law_take KX G c )
set_option maxHeartbeats 4000000 in
theorem dn_law_of (KX : K.In h) (G : h.Ns mainGlobals mg) (c : He.SaysD fa fn K) (ho_law_take : Ok P w K mg base 1 "_law_take" 2 F_law_take) : ∀ (cdv : Value) (A : Around) (outer : List PySem.Env) (s' : Shared) (H : Hp) (E : XK), Room 1 (A.deeper (PyProof.Rows.envOfC "_law_of" (defScope st_law_of) s'.heap.objs.size (He.ga K "_law_of") cdv)) → DenSs (cxOf CX0 P w K mg base N_law_of "_law_of" (defScope st_law_of) (He.ga K "_law_of") cdv A outer s' H E).nox B0 (defBody st_law_of) b_law_of := by
  intro cdv A outer s' H E hr
  exact (denss_one (dens_ret (den_ix (den_var 1) (den_callO ho_law_take hr (by decide) rfl (dena_cons (den_var 0) (dena_cons (den_callB len_ok call_len rfl (He.free_ok KX G (c.fact 1 rfl)) (by decide +kernel) (dena_cons (den_var 1) dena_nil)) dena_nil))))))
theorem ok_law_of (KX : K.In h) (G : h.Ns mainGlobals mg) (c : He.SaysD fa fn K) (ho_law_take : Ok P w K mg base 1 "_law_take" 2 F_law_take) : Ok P w K mg base 2 "_law_of" 2 F_law_of :=
  ok_mk (N := N_law_of) KX G (c.fact 26 rfl) (c.def_ 1 (d := dD "_law_of" st_law_of) rfl) sc_law_of rfl (fun _ _ _ _ _ _ us hl => match us, hl with | [_, _], _ => rfl) (dn_law_of KX G c ho_law_take)
set_option maxHeartbeats 4000000 in
theorem dn_law_deed (KX : K.In h) (G : h.Ns mainGlobals mg) (c : He.SaysD fa fn K) (ho_law_of : Ok P w K mg base 2 "_law_of" 2 F_law_of) : ∀ (cdv : Value) (A : Around) (outer : List PySem.Env) (s' : Shared) (H : Hp) (E : XK), Room 2 (A.deeper (PyProof.Rows.envOfC "_law_deed" (defScope st_law_deed) s'.heap.objs.size (He.ga K "_law_deed") cdv)) → DenSs (cxOf CX0 P w K mg base N_law_deed "_law_deed" (defScope st_law_deed) (He.ga K "_law_deed") cdv A outer s' H E).nox B0 (defBody st_law_deed) b_law_deed := by
  intro cdv A outer s' H E hr
  exact (denss_cons (dens_set (i := 3) sc_law_deed.nd rfl (by first | exact Or.inl rfl | exact Or.inr rfl) (den_callO ho_law_of hr (by decide) rfl (dena_cons (den_var 0) (dena_cons (den_var 2) dena_nil))))
    (denss_one (dens_ret (den_if (dent_cmp in_ok op_inAll (den_var 3) (den_tup (dena_cons den_str (dena_cons den_str dena_nil))) (by first | rfl | with_unfolding_all rfl)) (den_tup (dena_cons (den_var 3) (dena_cons (den_callO ho_law_of hr (by decide) rfl (dena_cons (den_var 0) (dena_cons (den_var 1) dena_nil))) dena_nil))) (den_if (dent_cmp ne_ok (op_neAll hr.units) (den_var 3) den_str (nomark _)) (den_tup (dena_cons (den_var 3) dena_nil)) (den_tup dena_nil))))))
theorem ok_law_deed (KX : K.In h) (G : h.Ns mainGlobals mg) (c : He.SaysD fa fn K) (ho_law_of : Ok P w K mg base 2 "_law_of" 2 F_law_of) : Ok P w K mg base 3 "_law_deed" 3 F_law_deed :=
  ok_mk (N := N_law_deed) KX G (c.fact 27 rfl) (c.def_ 2 (d := dD "_law_deed" st_law_deed) rfl) sc_law_deed rfl (fun _ _ _ _ _ _ us hl => match us, hl with | [_, _, _], _ => rfl) (dn_law_deed KX G c ho_law_of)
set_option maxHeartbeats 4000000 in
theorem dn_law_book (KX : K.In h) (G : h.Ns mainGlobals mg) (c : He.SaysD fa fn K) (ho_law_deed : Ok P w K mg base 3 "_law_deed" 3 F_law_deed) (ho_law_of : Ok P w K mg base 2 "_law_of" 2 F_law_of) (ho_law_take : Ok P w K mg base 1 "_law_take" 2 F_law_take) : ∀ (cdv : Value) (A : Around) (outer : List PySem.Env) (s' : Shared) (H : Hp) (E : XK), Room 3 (A.deeper (PyProof.Rows.envOfC "_law_book" (defScope st_law_book) s'.heap.objs.size (He.ga K "_law_book") cdv)) → DenSs (cxOf CX0 P w K mg base N_law_book "_law_book" (defScope st_law_book) (He.ga K "_law_book") cdv A outer s' H E).nox B0 (defBody st_law_book) b_law_book := by
  intro cdv A outer s' H E hr
  exact (denss_cons (dens_par rfl sc_law_book.nd rfl rfl (by decide) rfl rfl (dena_cons (den_sl (den_lst (dena_cons den_str (dena_cons den_str (dena_cons den_str dena_nil)))) deno_none (deno_some (den_bin add_ok op_addAll den_int (den_callO ho_law_take hr (by decide) rfl (dena_cons (den_var 0) (dena_cons den_int dena_nil)))))) (dena_cons (den_lst dena_nil) dena_nil)) (by rfl) (ps_par rfl sc_law_book.nd rfl rfl (by decide) rfl rfl (dena_cons (den_sl (den_lst (dena_cons den_str (dena_cons den_str (dena_cons den_str dena_nil)))) deno_none (deno_some (den_bin add_ok op_addAll den_int (den_callO ho_law_take hr (by decide) rfl (dena_cons (den_var 0) (dena_cons den_int dena_nil)))))) (dena_cons (den_lst dena_nil) dena_nil)) (by rfl)))
    (denss_cons (dens_par rfl sc_law_book.nd rfl rfl (by decide) rfl rfl (dena_cons (den_callO ho_law_of hr (by decide) rfl (dena_cons (den_var 0) (dena_cons (den_lst (dena_cons den_int (dena_cons den_int (dena_cons den_int dena_nil)))) dena_nil))) (dena_cons (den_sl (den_lst (dena_cons den_str (dena_cons den_str (dena_cons den_str dena_nil)))) deno_none (deno_some (den_bin add_ok op_addAll den_int (den_callO ho_law_take hr (by decide) rfl (dena_cons (den_var 0) (dena_cons den_int dena_nil)))))) dena_nil)) (by rfl) (ps_par rfl sc_law_book.nd rfl rfl (by decide) rfl rfl (dena_cons (den_callO ho_law_of hr (by decide) rfl (dena_cons (den_var 0) (dena_cons (den_lst (dena_cons den_int (dena_cons den_int (dena_cons den_int dena_nil)))) dena_nil))) (dena_cons (den_sl (den_lst (dena_cons den_str (dena_cons den_str (dena_cons den_str dena_nil)))) deno_none (deno_some (den_bin add_ok op_addAll den_int (den_callO ho_law_take hr (by decide) rfl (dena_cons (den_var 0) (dena_cons den_int dena_nil)))))) dena_nil)) (by rfl)))
    (denss_cons (dens_for PassesOwn.never rfl (deni_lst (den_var 1)) (deng_name 5 sc_law_book.nd rfl (by first | exact Or.inl rfl | exact Or.inr rfl)) (denss_cons (dens_par rfl sc_law_book.nd rfl rfl (by decide) rfl rfl (dena_cons (den_callO ho_law_of hr (by decide) rfl (dena_cons (den_var 0) (dena_cons (den_lst (dena_cons den_str (dena_cons den_str (dena_cons den_str dena_nil)))) dena_nil))) (dena_cons (den_lst dena_nil) dena_nil)) (by rfl) (ps_par rfl sc_law_book.nd rfl rfl (by decide) rfl rfl (dena_cons (den_callO ho_law_of hr (by decide) rfl (dena_cons (den_var 0) (dena_cons (den_lst (dena_cons den_str (dena_cons den_str (dena_cons den_str dena_nil)))) dena_nil))) (dena_cons (den_lst dena_nil) dena_nil)) (by rfl)))
    (denss_cons (dens_set (i := 8) sc_law_book.nd rfl (by first | exact Or.inl rfl | exact Or.inr rfl) (den_callO ho_law_deed hr (by decide) rfl (dena_cons (den_var 0) (dena_cons (den_var 1) (dena_cons (den_lst (dena_cons den_str (dena_cons den_str (dena_cons den_str (dena_cons den_str (dena_cons den_str dena_nil)))))) dena_nil)))))
    (denss_cons (dens_for PassesOwn.never rfl (deni_lst (den_bin add_ok op_addAll (den_var 4) (den_lst (dena_cons den_str dena_nil)))) (deng_name 9 sc_law_book.nd rfl (by first | exact Or.inl rfl | exact Or.inr rfl)) (denss_one (dens_if (dent_cmp eq_ok (op_eqAll hr.units) (den_callO ho_law_take hr (by decide) rfl (dena_cons (den_var 0) (dena_cons (den_if (dent_cmp eq_ok (op_eqAll hr.units) (den_var 9) den_str (nomark _)) den_int den_int) dena_nil))) den_int (nomark _)) (denss_cons (dens_set (i := 10) sc_law_book.nd rfl (by first | exact Or.inl rfl | exact Or.inr rfl) (den_callO ho_law_of hr (by decide) rfl (dena_cons (den_var 0) (dena_cons (den_lst (dena_cons den_str (dena_cons den_str (dena_cons den_str dena_nil)))) dena_nil))))
    (denss_one (dens_drop (den_bm append_ok PySem.F.plainAttrs_list PySem.F.slot_list_append PySem.F.type_list_append mt_append (den_var 7) (dena_cons (den_tup (dena_cons (den_var 9) (dena_cons (den_var 10) (dena_cons (den_callO ho_law_deed hr (by decide) rfl (dena_cons (den_var 0) (dena_cons (den_var 1) (dena_cons (den_lst (dena_cons den_str (dena_cons den_str (dena_cons den_str (dena_cons den_str (dena_cons den_str dena_nil)))))) dena_nil)))) dena_nil)))) dena_nil) (pe_bm PySem.F.plainAttrs_list PySem.F.slot_list_append PySem.F.type_list_append mt_append (den_var 7) (dena_cons (den_tup (dena_cons (den_var 9) (dena_cons (den_var 10) (dena_cons (den_callO ho_law_deed hr (by decide) rfl (dena_cons (den_var 0) (dena_cons (den_var 1) (dena_cons (den_lst (dena_cons den_str (dena_cons den_str (dena_cons den_str (dena_cons den_str (dena_cons den_str dena_nil)))))) dena_nil)))) dena_nil)))) dena_nil)))))) denss_nil)))
    (denss_one (dens_drop (den_bm append_ok PySem.F.plainAttrs_list PySem.F.slot_list_append PySem.F.type_list_append mt_append (den_var 2) (dena_cons (den_tup (dena_cons (den_var 5) (dena_cons (den_var 6) (dena_cons (den_var 8) (dena_cons (den_var 7) dena_nil))))) dena_nil) (pe_bm PySem.F.plainAttrs_list PySem.F.slot_list_append PySem.F.type_list_append mt_append (den_var 2) (dena_cons (den_tup (dena_cons (den_var 5) (dena_cons (den_var 6) (dena_cons (den_var 8) (dena_cons (den_var 7) dena_nil))))) dena_nil)))))))))
    (denss_one (dens_ret (den_disp (denps_cons den_str (den_var 3) (denps_cons den_str (den_var 2) denps_nil))))))))
theorem ok_law_book (KX : K.In h) (G : h.Ns mainGlobals mg) (c : He.SaysD fa fn K) (ho_law_deed : Ok P w K mg base 3 "_law_deed" 3 F_law_deed) (ho_law_of : Ok P w K mg base 2 "_law_of" 2 F_law_of) (ho_law_take : Ok P w K mg base 1 "_law_take" 2 F_law_take) : Ok P w K mg base 4 "_law_book" 1 F_law_book :=
  ok_mk (N := N_law_book) KX G (c.fact 28 rfl) (c.def_ 3 (d := dD "_law_book" st_law_book) rfl) sc_law_book rfl (fun _ _ _ _ _ _ us hl => match us, hl with | [_], _ => rfl) (dn_law_book KX G c ho_law_deed ho_law_of ho_law_take)
set_option maxHeartbeats 4000000 in
theorem dn_law_pot (KX : K.In h) (G : h.Ns mainGlobals mg) (c : He.SaysD fa fn K)  : ∀ (cdv : Value) (A : Around) (outer : List PySem.Env) (s' : Shared) (H : Hp) (E : XK), Room 0 (A.deeper (PyProof.Rows.envOfC "_law_pot" (defScope st_law_pot) s'.heap.objs.size (He.ga K "_law_pot") cdv)) → DenSs (cxOf CX0 P w K mg base N_law_pot "_law_pot" (defScope st_law_pot) (He.ga K "_law_pot") cdv A outer s' H E).nox B0 (defBody st_law_pot) b_law_pot := by
  intro cdv A outer s' H E hr
  exact (denss_cons (dens_set (i := 2) sc_law_pot.nd rfl (by first | exact Or.inl rfl | exact Or.inr rfl) (den_if (dent_cmp lt_ok op_lt (den_var 1) (den_callB len_ok call_len rfl (He.free_ok KX G (c.fact 1 rfl)) (by decide +kernel) (dena_cons (den_var 0) dena_nil)) (nomark _)) (den_ix (den_var 0) (den_var 1)) (den_bin add_ok op_addAll (den_bin mul_ok op_mulAll den_int (den_var 1)) den_int)))
    (denss_cons (dens_set (i := 3) sc_law_pot.nd rfl (by first | exact Or.inl rfl | exact Or.inr rfl) (den_bin mul_ok op_mulAll (den_bin mod_ok op_mod (den_callTy int_ok call_intAll rfl (He.free_ok KX G (c.fact 5 rfl)) (by decide +kernel) (dena_cons (den_callB abs_ok call_abs rfl (He.free_ok KX G (c.fact 6 rfl)) (by decide +kernel) (dena_cons (den_var 2) dena_nil)) dena_nil)) (den_bin pow_ok op_powW (den_bin pow_ok op_powW den_int den_int) den_int)) (den_callTy int_ok call_intAll rfl (He.free_ok KX G (c.fact 5 rfl)) (by decide +kernel) (dena_cons (den_cmp ge_ok op_ge (den_callB abs_ok call_abs rfl (He.free_ok KX G (c.fact 6 rfl)) (by decide +kernel) (dena_cons (den_var 2) dena_nil)) (den_bin pow_ok op_powW den_int den_int) (nomark _)) dena_nil))))
    (denss_cons (dens_set (i := 4) sc_law_pot.nd rfl (by first | exact Or.inl rfl | exact Or.inr rfl) (den_bin add_ok op_addAll (den_bin add_ok op_addAll (den_bin mul_ok op_mulAll (den_bin mod_ok op_mod (den_callTy int_ok call_intAll rfl (He.free_ok KX G (c.fact 5 rfl)) (by decide +kernel) (dena_cons (den_var 2) dena_nil)) den_int) den_int) (den_bin mul_ok op_mulAll (den_bin mul_ok op_mulAll den_int (den_var 1)) (den_var 1))) den_int))
    (denss_one (dens_ret (den_lst (dena_cons (den_var 3) (dena_cons (den_bin mod_ok op_mod (den_callTy int_ok call_intAll rfl (He.free_ok KX G (c.fact 5 rfl)) (by decide +kernel) (dena_cons (den_var 4) dena_nil)) den_int) (dena_cons den_int dena_nil)))))))))
theorem ok_law_pot (KX : K.In h) (G : h.Ns mainGlobals mg) (c : He.SaysD fa fn K)  : Ok P w K mg base 1 "_law_pot" 2 F_law_pot :=
  ok_mk (N := N_law_pot) KX G (c.fact 29 rfl) (c.def_ 4 (d := dD "_law_pot" st_law_pot) rfl) sc_law_pot rfl (fun _ _ _ _ _ _ us hl => match us, hl with | [_, _], _ => rfl) (dn_law_pot KX G c )
set_option maxHeartbeats 4000000 in
theorem dn_law_signs (KX : K.In h) (G : h.Ns mainGlobals mg) (c : He.SaysD fa fn K)  : ∀ (cdv : Value) (A : Around) (outer : List PySem.Env) (s' : Shared) (H : Hp) (E : XK), Room 0 (A.deeper (PyProof.Rows.envOfC "_law_signs" (defScope st_law_signs) s'.heap.objs.size (He.ga K "_law_signs") cdv)) → DenSs (cxOf CX0 P w K mg base N_law_signs "_law_signs" (defScope st_law_signs) (He.ga K "_law_signs") cdv A outer s' H E).nox B0 (defBody st_law_signs) b_law_signs := by
  intro cdv A outer s' H E hr
  exact (denss_cons (dens_set (i := 1) sc_law_signs.nd rfl (by first | exact Or.inl rfl | exact Or.inr rfl) den_dnew)
    (denss_cons (dens_for PassesOwn.never rfl (deni_lst (den_dget (hu_of hr) (den_var 0) den_str)) (deng_tup rfl (deng_cons (deng_name 2 sc_law_signs.nd rfl (by first | exact Or.inl rfl | exact Or.inr rfl)) (deng_cons (deng_name 3 sc_law_signs.nd rfl (by first | exact Or.inl rfl | exact Or.inr rfl)) (deng_cons (deng_name 4 sc_law_signs.nd rfl (by first | exact Or.inl rfl | exact Or.inr rfl)) (deng_cons (deng_name 5 sc_law_signs.nd rfl (by first | exact Or.inl rfl | exact Or.inr rfl)) deng_nil))))) (denss_one (dens_drop (den_bm update_ok PySem.F.plainAttrs_dict PySem.F.slot_dict_update PySem.F.type_dict_update mt_dupd (den_var 1) (dena_cons (den_callTy dict_ok (call_dictAll rfl) rfl (He.free_ok KX G (c.fact 10 rfl)) (by decide +kernel) (dena_cons (den_lc (own := [("_law_row", 6)]) nb0 (by decide) rfl sc_law_signs.nd (deni_lst (den_var 5)) (blkOk_by (N := N_law_signs) (sc := defScope st_law_signs) (by decide +kernel)) (fun _ _ _ _ _ => (deng_name 6 sc_law_signs.nd rfl (by first | exact Or.inl rfl | exact Or.inr rfl))) (fun _ _ _ _ _ => (dents_one (dent_cmp ne_ok (op_neAll hr.units) (den_ix (den_var 6) den_int) den_str (nomark _)))) (fun _ _ _ _ _ => (den_tup (dena_cons (den_ix (den_var 6) den_int) (dena_cons den_bl dena_nil))))) dena_nil)) dena_nil) (pe_bm PySem.F.plainAttrs_dict PySem.F.slot_dict_update PySem.F.type_dict_update mt_dupd (den_var 1) (dena_cons (den_callTy dict_ok (call_dictAll rfl) rfl (He.free_ok KX G (c.fact 10 rfl)) (by decide +kernel) (dena_cons (den_lc (own := [("_law_row", 6)]) nb0 (by decide) rfl sc_law_signs.nd (deni_lst (den_var 5)) (blkOk_by (N := N_law_signs) (sc := defScope st_law_signs) (by decide +kernel)) (fun _ _ _ _ _ => (deng_name 6 sc_law_signs.nd rfl (by first | exact Or.inl rfl | exact Or.inr rfl))) (fun _ _ _ _ _ => (dents_one (dent_cmp ne_ok (op_neAll hr.units) (den_ix (den_var 6) den_int) den_str (nomark _)))) (fun _ _ _ _ _ => (den_tup (dena_cons (den_ix (den_var 6) den_int) (dena_cons den_bl dena_nil))))) dena_nil)) dena_nil))))))
    (denss_one (dens_ret (den_bin add_ok op_addAll (den_callB sorted_ok (call_sortedAll rfl) rfl (He.free_ok KX G (c.fact 9 rfl)) (by decide +kernel) (dena_cons (den_var 1) dena_nil)) (den_lst (dena_cons den_str dena_nil)))))))
theorem ok_law_signs (KX : K.In h) (G : h.Ns mainGlobals mg) (c : He.SaysD fa fn K)  : Ok P w K mg base 1 "_law_signs" 1 F_law_signs :=
  ok_mk (N := N_law_signs) KX G (c.fact 30 rfl) (c.def_ 5 (d := dD "_law_signs" st_law_signs) rfl) sc_law_signs rfl (fun _ _ _ _ _ _ us hl => match us, hl with | [_], _ => rfl) (dn_law_signs KX G c )
set_option maxHeartbeats 4000000 in
theorem dn_law_line (KX : K.In h) (G : h.Ns mainGlobals mg) (c : He.SaysD fa fn K) (ho_law_of : Ok P w K mg base 2 "_law_of" 2 F_law_of) (ho_law_signs : Ok P w K mg base 1 "_law_signs" 1 F_law_signs) (ho_law_take : Ok P w K mg base 1 "_law_take" 2 F_law_take) : ∀ (cdv : Value) (A : Around) (outer : List PySem.Env) (s' : Shared) (H : Hp) (E : XK), Room 2 (A.deeper (PyProof.Rows.envOfC "_law_line" (defScope st_law_line) s'.heap.objs.size (He.ga K "_law_line") cdv)) → DenSs (cxOf CX0 P w K mg base N_law_line "_law_line" (defScope st_law_line) (He.ga K "_law_line") cdv A outer s' H E).nox B0 (defBody st_law_line) b_law_line := by
  intro cdv A outer s' H E hr
  exact (denss_one (dens_ret (den_bm join_ok PySem.F.plainAttrs_str PySem.F.slot_str_join PySem.F.type_str_join mt_join den_str (dena_cons (den_lc (own := [("_law_turn", 3)]) nb0 (by decide) rfl sc_law_line.nd (deni_rng1 rfl (He.free_ok KX G (c.fact 0 rfl)) (dena_cons (den_callO ho_law_take hr (by decide) rfl (dena_cons (den_var 0) (dena_cons (den_bin add_ok op_addAll (den_var 2) den_int) dena_nil))) dena_nil)) (blkOk_by (N := N_law_line) (sc := defScope st_law_line) (by decide +kernel)) (fun _ _ _ _ _ => (deng_name 3 sc_law_line.nd rfl (by first | exact Or.inl rfl | exact Or.inr rfl))) (fun _ _ _ _ _ => dents_nil) (fun _ _ _ _ _ => (den_callO ho_law_of hr (by decide) rfl (dena_cons (den_var 0) (dena_cons (den_callO ho_law_signs hr (by decide) rfl (dena_cons (den_var 1) dena_nil)) dena_nil))))) dena_nil) (pe_bm PySem.F.plainAttrs_str PySem.F.slot_str_join PySem.F.type_str_join mt_join den_str (dena_cons (den_lc (own := [("_law_turn", 3)]) nb0 (by decide) rfl sc_law_line.nd (deni_rng1 rfl (He.free_ok KX G (c.fact 0 rfl)) (dena_cons (den_callO ho_law_take hr (by decide) rfl (dena_cons (den_var 0) (dena_cons (den_bin add_ok op_addAll (den_var 2) den_int) dena_nil))) dena_nil)) (blkOk_by (N := N_law_line) (sc := defScope st_law_line) (by decide +kernel)) (fun _ _ _ _ _ => (deng_name 3 sc_law_line.nd rfl (by first | exact Or.inl rfl | exact Or.inr rfl))) (fun _ _ _ _ _ => dents_nil) (fun _ _ _ _ _ => (den_callO ho_law_of hr (by decide) rfl (dena_cons (den_var 0) (dena_cons (den_callO ho_law_signs hr (by decide) rfl (dena_cons (den_var 1) dena_nil)) dena_nil))))) dena_nil)))))
theorem ok_law_line (KX : K.In h) (G : h.Ns mainGlobals mg) (c : He.SaysD fa fn K) (ho_law_of : Ok P w K mg base 2 "_law_of" 2 F_law_of) (ho_law_signs : Ok P w K mg base 1 "_law_signs" 1 F_law_signs) (ho_law_take : Ok P w K mg base 1 "_law_take" 2 F_law_take) : Ok P w K mg base 3 "_law_line" 3 F_law_line :=
  ok_mk (N := N_law_line) KX G (c.fact 31 rfl) (c.def_ 6 (d := dD "_law_line" st_law_line) rfl) sc_law_line rfl (fun _ _ _ _ _ _ us hl => match us, hl with | [_, _, _], _ => rfl) (dn_law_line KX G c ho_law_of ho_law_signs ho_law_take)
set_option maxHeartbeats 4000000 in
theorem dn_law_lines_text (KX : K.In h) (G : h.Ns mainGlobals mg) (c : He.SaysD fa fn K)  : ∀ (cdv : Value) (A : Around) (outer : List PySem.Env) (s' : Shared) (H : Hp) (E : XK), Room 0 (A.deeper (PyProof.Rows.envOfC "_law_lines_text" (defScope st_law_lines_text) s'.heap.objs.size (He.ga K "_law_lines_text") cdv)) → DenSs (cxOf CX0 P w K mg base N_law_lines_text "_law_lines_text" (defScope st_law_lines_text) (He.ga K "_law_lines_text") cdv A outer s' H E).nox B0 (defBody st_law_lines_text) b_law_lines_text := by
  intro cdv A outer s' H E hr
  exact (denss_one (dens_ret (den_if (dent_cmp ne_ok (op_neAll hr.units) (den_var 0) (den_tup dena_nil) (nomark _)) (den_bm join_ok PySem.F.plainAttrs_str PySem.F.slot_str_join PySem.F.type_str_join mt_join den_str (dena_cons (den_lc (own := [("_law_line_here", 1)]) nb0 (by decide) rfl sc_law_lines_text.nd (deni_tup (den_var 0)) (blkOk_by (N := N_law_lines_text) (sc := defScope st_law_lines_text) (by decide +kernel)) (fun _ _ _ _ _ => (deng_name 1 sc_law_lines_text.nd rfl (by first | exact Or.inl rfl | exact Or.inr rfl))) (fun _ _ _ _ _ => dents_nil) (fun _ _ _ _ _ => (den_bin add_ok op_addAll den_str (den_var 1)))) dena_nil) (pe_bm PySem.F.plainAttrs_str PySem.F.slot_str_join PySem.F.type_str_join mt_join den_str (dena_cons (den_lc (own := [("_law_line_here", 1)]) nb0 (by decide) rfl sc_law_lines_text.nd (deni_tup (den_var 0)) (blkOk_by (N := N_law_lines_text) (sc := defScope st_law_lines_text) (by decide +kernel)) (fun _ _ _ _ _ => (deng_name 1 sc_law_lines_text.nd rfl (by first | exact Or.inl rfl | exact Or.inr rfl))) (fun _ _ _ _ _ => dents_nil) (fun _ _ _ _ _ => (den_bin add_ok op_addAll den_str (den_var 1)))) dena_nil))) den_str)))
theorem ok_law_lines_text (KX : K.In h) (G : h.Ns mainGlobals mg) (c : He.SaysD fa fn K)  : Ok P w K mg base 1 "_law_lines_text" 1 F_law_lines_text :=
  ok_mk (N := N_law_lines_text) KX G (c.fact 32 rfl) (c.def_ 7 (d := dD "_law_lines_text" st_law_lines_text) rfl) sc_law_lines_text rfl (fun _ _ _ _ _ _ us hl => match us, hl with | [_], _ => rfl) (dn_law_lines_text KX G c )
set_option maxHeartbeats 4000000 in
theorem dn_is_line (KX : K.In h) (G : h.Ns mainGlobals mg) (c : He.SaysD fa fn K)  : ∀ (cdv : Value) (A : Around) (outer : List PySem.Env) (s' : Shared) (H : Hp) (E : XK), Room 0 (A.deeper (PyProof.Rows.envOfC "is_line" (defScope st_is_line) s'.heap.objs.size (He.ga K "is_line") cdv)) → DenSs (cxOf CX0 P w K mg base N_is_line "is_line" (defScope st_is_line) (He.ga K "is_line") cdv A outer s' H E).nox B0 (defBody st_is_line) b_is_line := by
  intro cdv A outer s' H E hr
  exact (denss_one (dens_ret (den_and (den_callB isi_ok call_isi rfl (He.free_ok KX G (c.fact 12 rfl)) (by decide +kernel) (dena_cons (den_var 0) (dena_cons (den_ty rfl (He.free_ok KX G (c.fact 7 rfl)) (by decide +kernel)) dena_nil))) (den_one (den_callB all_ok (cr_all rfl) rfl (He.free_ok KX G (c.fact 4 rfl)) (by decide +kernel) (dena_cons (den_lc (own := [("sign", 1)]) nb0 (by decide) rfl sc_is_line.nd (deni_str (den_var 0)) (blkOk_by (N := N_is_line) (sc := defScope st_is_line) (by decide +kernel)) (fun _ _ _ _ _ => (deng_name 1 sc_is_line.nd rfl (by first | exact Or.inl rfl | exact Or.inr rfl))) (fun _ _ _ _ _ => dents_nil) (fun _ _ _ _ _ => (den_cmp in_ok op_inAll (den_var 1) (den_gstr (z := c_SIGNS) rfl (He.str_ok KX G (c.fact 17 rfl))) (by first | rfl | with_unfolding_all rfl)))) dena_nil))))))
theorem ok_is_line (KX : K.In h) (G : h.Ns mainGlobals mg) (c : He.SaysD fa fn K)  : Ok P w K mg base 1 "is_line" 1 F_is_line :=
  ok_mk (N := N_is_line) KX G (c.fact 33 rfl) (c.def_ 8 (d := dD "is_line" st_is_line) rfl) sc_is_line rfl (fun _ _ _ _ _ _ us hl => match us, hl with | [_], _ => rfl) (dn_is_line KX G c )
set_option maxHeartbeats 4000000 in
theorem dn_lines_in (KX : K.In h) (G : h.Ns mainGlobals mg) (c : He.SaysD fa fn K) (ho_is_line : Ok P w K mg base 1 "is_line" 1 F_is_line) : ∀ (cdv : Value) (A : Around) (outer : List PySem.Env) (s' : Shared) (H : Hp) (E : XK), Room 1 (A.deeper (PyProof.Rows.envOfC "lines_in" (defScope st_lines_in) s'.heap.objs.size (He.ga K "lines_in") cdv)) → DenSs (cxOf CX0 P w K mg base N_lines_in "lines_in" (defScope st_lines_in) (He.ga K "lines_in") cdv A outer s' H E).nox B0 (defBody st_lines_in) b_lines_in := by
  intro cdv A outer s' H E hr
  exact (denss_cons (dens_if (dent_cmp eq_ok (op_eqAll hr.units) (den_var 0) (den_gstr (z := c_NONE) rfl (He.str_ok KX G (c.fact 16 rfl))) (nomark _)) (denss_one (dens_ret (den_tup dena_nil))) denss_nil)
    (denss_cons (dens_set (i := 1) sc_lines_in.nd rfl (by first | exact Or.inl rfl | exact Or.inr rfl) (den_bm split_ok PySem.F.plainAttrs_str PySem.F.slot_str_split PySem.F.type_str_split mt_split (den_var 0) (dena_cons (den_gstr (z := c_FEED) rfl (He.str_ok KX G (c.fact 14 rfl))) dena_nil) (pe_bm PySem.F.plainAttrs_str PySem.F.slot_str_split PySem.F.type_str_split mt_split (den_var 0) (dena_cons (den_gstr (z := c_FEED) rfl (He.str_ok KX G (c.fact 14 rfl))) dena_nil))))
    (denss_cons (dens_if (dent_not (dent_val (den_callB all_ok (cr_all rfl) rfl (He.free_ok KX G (c.fact 4 rfl)) (by decide +kernel) (dena_cons (den_lc (own := [("row", 2)]) nb0 (by decide) rfl sc_lines_in.nd (deni_lst (den_var 1)) (blkOk_by (N := N_lines_in) (sc := defScope st_lines_in) (by decide +kernel)) (fun _ _ _ _ _ => (deng_name 2 sc_lines_in.nd rfl (by first | exact Or.inl rfl | exact Or.inr rfl))) (fun _ _ _ _ _ => dents_nil) (fun _ _ _ _ _ => (den_and (den_bm starts_ok PySem.F.plainAttrs_str PySem.F.slot_str_startswith PySem.F.type_str_startswith mt_startswith (den_var 2) (dena_cons (den_gstr (z := c_BAR) rfl (He.str_ok KX G (c.fact 15 rfl))) dena_nil) (pe_bm PySem.F.plainAttrs_str PySem.F.slot_str_startswith PySem.F.type_str_startswith mt_startswith (den_var 2) (dena_cons (den_gstr (z := c_BAR) rfl (He.str_ok KX G (c.fact 15 rfl))) dena_nil))) (den_one (den_callO ho_is_line hr (by decide) rfl (dena_cons (den_sl (den_var 2) (deno_some den_int) deno_none) dena_nil)))))) dena_nil)))) (denss_one (dens_ret den_non)) denss_nil)
    (denss_one (dens_ret (den_callTy tuple_ok call_tuple_of rfl (He.free_ok KX G (c.fact 8 rfl)) (by decide +kernel) (dena_cons (den_lc (own := [("row", 2)]) nb0 (by decide) rfl sc_lines_in.nd (deni_lst (den_var 1)) (blkOk_by (N := N_lines_in) (sc := defScope st_lines_in) (by decide +kernel)) (fun _ _ _ _ _ => (deng_name 2 sc_lines_in.nd rfl (by first | exact Or.inl rfl | exact Or.inr rfl))) (fun _ _ _ _ _ => dents_nil) (fun _ _ _ _ _ => (den_sl (den_var 2) (deno_some den_int) deno_none))) dena_nil)))))))
theorem ok_lines_in (KX : K.In h) (G : h.Ns mainGlobals mg) (c : He.SaysD fa fn K) (ho_is_line : Ok P w K mg base 1 "is_line" 1 F_is_line) : Ok P w K mg base 2 "lines_in" 1 F_lines_in :=
  ok_mk (N := N_lines_in) KX G (c.fact 23 rfl) (c.def_ 9 (d := dD "lines_in" st_lines_in) rfl) sc_lines_in rfl (fun _ _ _ _ _ _ us hl => match us, hl with | [_], _ => rfl) (dn_lines_in KX G c ho_is_line)
set_option maxHeartbeats 4000000 in
theorem dn_number_in (KX : K.In h) (G : h.Ns mainGlobals mg) (c : He.SaysD fa fn K)  : ∀ (cdv : Value) (A : Around) (outer : List PySem.Env) (s' : Shared) (H : Hp) (E : XK), Room 0 (A.deeper (PyProof.Rows.envOfC "number_in" (defScope st_number_in) s'.heap.objs.size (He.ga K "number_in") cdv)) → DenSs (cxOf CX0 P w K mg base N_number_in "number_in" (defScope st_number_in) (He.ga K "number_in") cdv A outer s' H E).nox B0 (defBody st_number_in) b_number_in := by
  intro cdv A outer s' H E hr
  exact (denss_cons (dens_if (DenW.t (denw_or (dent_not (dent_chain pure_le le_ok le_ok op_le op_le den_int (den_callB len_ok call_len rfl (He.free_ok KX G (c.fact 1 rfl)) (by decide +kernel) (dena_cons (den_var 0) dena_nil)) (den_gint rfl (He.int_ok KX G (c.fact 19 rfl))))) (denw_or1 (dent_not (dent_val (den_callB all_ok (cr_all rfl) rfl (He.free_ok KX G (c.fact 4 rfl)) (by decide +kernel) (dena_cons (den_lc (own := [("digit", 1)]) nb0 (by decide) rfl sc_number_in.nd (deni_str (den_var 0)) (blkOk_by (N := N_number_in) (sc := defScope st_number_in) (by decide +kernel)) (fun _ _ _ _ _ => (deng_name 1 sc_number_in.nd rfl (by first | exact Or.inl rfl | exact Or.inr rfl))) (fun _ _ _ _ _ => dents_nil) (fun _ _ _ _ _ => (den_cmp in_ok op_inAll (den_var 1) (den_gstr (z := c_DIGITS) rfl (He.str_ok KX G (c.fact 18 rfl))) (by first | rfl | with_unfolding_all rfl)))) dena_nil))))))) (denss_one (dens_ret den_non)) denss_nil)
    (denss_one (dens_ret (den_if (DenW.t (denw_or (dent_cmp eq_ok (op_eqAll hr.units) (den_var 0) den_str (nomark _)) (denw_or1 (dent_cmp ne_ok (op_neAll hr.units) (den_ix (den_var 0) den_int) den_str (nomark _))))) (den_callTy int_ok call_intAll rfl (He.free_ok KX G (c.fact 5 rfl)) (by decide +kernel) (dena_cons (den_var 0) dena_nil)) den_non))))
theorem ok_number_in (KX : K.In h) (G : h.Ns mainGlobals mg) (c : He.SaysD fa fn K)  : Ok P w K mg base 1 "number_in" 1 F_number_in :=
  ok_mk (N := N_number_in) KX G (c.fact 34 rfl) (c.def_ 10 (d := dD "number_in" st_number_in) rfl) sc_number_in rfl (fun _ _ _ _ _ _ us hl => match us, hl with | [_], _ => rfl) (dn_number_in KX G c )
set_option maxHeartbeats 4000000 in
theorem dn_edit_in (KX : K.In h) (G : h.Ns mainGlobals mg) (c : He.SaysD fa fn K) (ho_lines_in : Ok P w K mg base 2 "lines_in" 1 F_lines_in) (ho_number_in : Ok P w K mg base 1 "number_in" 1 F_number_in) : ∀ (cdv : Value) (A : Around) (outer : List PySem.Env) (s' : Shared) (H : Hp) (E : XK), Room 2 (A.deeper (PyProof.Rows.envOfC "edit_in" (defScope st_edit_in) s'.heap.objs.size (He.ga K "edit_in") cdv)) → DenSs (cxOf CX0 P w K mg base N_edit_in "edit_in" (defScope st_edit_in) (He.ga K "edit_in") cdv A outer s' H E).nox B0 (defBody st_edit_in) b_edit_in := by
  intro cdv A outer s' H E hr
  exact (denss_cons (dens_tg (den_bm partition_ok PySem.F.plainAttrs_str PySem.F.slot_str_partition PySem.F.type_str_partition mt_partition (den_var 0) (dena_cons (den_gstr (z := c_FEED) rfl (He.str_ok KX G (c.fact 14 rfl))) dena_nil) (pe_bm PySem.F.plainAttrs_str PySem.F.slot_str_partition PySem.F.type_str_partition mt_partition (den_var 0) (dena_cons (den_gstr (z := c_FEED) rfl (He.str_ok KX G (c.fact 14 rfl))) dena_nil))) (deng_tup rfl (deng_cons (deng_name 1 sc_edit_in.nd rfl (by first | exact Or.inl rfl | exact Or.inr rfl)) (deng_cons (deng_name 2 sc_edit_in.nd rfl (by first | exact Or.inl rfl | exact Or.inr rfl)) (deng_cons (deng_name 3 sc_edit_in.nd rfl (by first | exact Or.inl rfl | exact Or.inr rfl)) deng_nil)))))
    (denss_cons (dens_par rfl sc_edit_in.nd rfl rfl (by decide) rfl rfl (dena_cons (den_lc (own := [("word", 6)]) nb0 (by decide) rfl sc_edit_in.nd (deni_lst (den_bm split_ok PySem.F.plainAttrs_str PySem.F.slot_str_split PySem.F.type_str_split mt_split (den_var 1) (dena_cons (den_gstr (z := c_BLANK) rfl (He.str_ok KX G (c.fact 13 rfl))) dena_nil) (pe_bm PySem.F.plainAttrs_str PySem.F.slot_str_split PySem.F.type_str_split mt_split (den_var 1) (dena_cons (den_gstr (z := c_BLANK) rfl (He.str_ok KX G (c.fact 13 rfl))) dena_nil)))) (blkOk_by (N := N_edit_in) (sc := defScope st_edit_in) (by decide +kernel)) (fun _ _ _ _ _ => (deng_name 6 sc_edit_in.nd rfl (by first | exact Or.inl rfl | exact Or.inr rfl))) (fun _ _ _ _ _ => dents_nil) (fun _ _ _ _ _ => (den_callO ho_number_in hr (by decide) rfl (dena_cons (den_var 6) dena_nil)))) (dena_cons (den_callO ho_lines_in hr (by decide) rfl (dena_cons (den_var 3) dena_nil)) dena_nil)) (by rfl) (ps_par rfl sc_edit_in.nd rfl rfl (by decide) rfl rfl (dena_cons (den_lc (own := [("word", 6)]) nb0 (by decide) rfl sc_edit_in.nd (deni_lst (den_bm split_ok PySem.F.plainAttrs_str PySem.F.slot_str_split PySem.F.type_str_split mt_split (den_var 1) (dena_cons (den_gstr (z := c_BLANK) rfl (He.str_ok KX G (c.fact 13 rfl))) dena_nil) (pe_bm PySem.F.plainAttrs_str PySem.F.slot_str_split PySem.F.type_str_split mt_split (den_var 1) (dena_cons (den_gstr (z := c_BLANK) rfl (He.str_ok KX G (c.fact 13 rfl))) dena_nil)))) (blkOk_by (N := N_edit_in) (sc := defScope st_edit_in) (by decide +kernel)) (fun _ _ _ _ _ => (deng_name 6 sc_edit_in.nd rfl (by first | exact Or.inl rfl | exact Or.inr rfl))) (fun _ _ _ _ _ => dents_nil) (fun _ _ _ _ _ => (den_callO ho_number_in hr (by decide) rfl (dena_cons (den_var 6) dena_nil)))) (dena_cons (den_callO ho_lines_in hr (by decide) rfl (dena_cons (den_var 3) dena_nil)) dena_nil)) (by rfl)))
    (denss_cons (dens_if (DenW.t (denw_or (dent_cmp ne_ok (op_neAll hr.units) (den_callB len_ok call_len rfl (He.free_ok KX G (c.fact 1 rfl)) (by decide +kernel) (dena_cons (den_var 4) dena_nil)) den_int (nomark _)) (denw_or (dent_cmp in_ok op_inAll den_non (den_var 4) (by first | rfl | with_unfolding_all rfl)) (denw_or (dent_cmp eq_ok (op_eqAll hr.units) (den_var 2) den_str (nomark _)) (denw_or (dent_cmp isN_ok op_isN (den_var 5) den_non (nomark _)) (denw_or1 (dent_cmp gt_ok op_gt (den_ix (den_var 4) den_int) (den_ix (den_var 4) den_int) (nomark _)))))))) (denss_one (dens_ret den_non)) denss_nil)
    (denss_one (dens_ret (den_tup (dena_cons (den_ix (den_var 4) den_int) (dena_cons (den_ix (den_var 4) den_int) (dena_cons (den_var 5) dena_nil)))))))))
theorem ok_edit_in (KX : K.In h) (G : h.Ns mainGlobals mg) (c : He.SaysD fa fn K) (ho_lines_in : Ok P w K mg base 2 "lines_in" 1 F_lines_in) (ho_number_in : Ok P w K mg base 1 "number_in" 1 F_number_in) : Ok P w K mg base 3 "edit_in" 1 F_edit_in :=
  ok_mk (N := N_edit_in) KX G (c.fact 11 rfl) (c.def_ 11 (d := dD "edit_in" st_edit_in) rfl) sc_edit_in rfl (fun _ _ _ _ _ _ us hl => match us, hl with | [_], _ => rfl) (dn_edit_in KX G c ho_lines_in ho_number_in)
set_option maxHeartbeats 4000000 in
theorem dn_is_name (KX : K.In h) (G : h.Ns mainGlobals mg) (c : He.SaysD fa fn K)  : ∀ (cdv : Value) (A : Around) (outer : List PySem.Env) (s' : Shared) (H : Hp) (E : XK), Room 0 (A.deeper (PyProof.Rows.envOfC "is_name" (defScope st_is_name) s'.heap.objs.size (He.ga K "is_name") cdv)) → DenSs (cxOf CX0 P w K mg base N_is_name "is_name" (defScope st_is_name) (He.ga K "is_name") cdv A outer s' H E).nox B0 (defBody st_is_name) b_is_name := by
  intro cdv A outer s' H E hr
  exact (denss_cons (dens_if (DenW.t (denw_or (dent_not (dent_val (den_callB isi_ok call_isi rfl (He.free_ok KX G (c.fact 12 rfl)) (by decide +kernel) (dena_cons (den_var 0) (dena_cons (den_ty rfl (He.free_ok KX G (c.fact 7 rfl)) (by decide +kernel)) dena_nil))))) (denw_or1 (dent_not (dent_chain pure_le le_ok le_ok op_le op_le den_int (den_callB len_ok call_len rfl (He.free_ok KX G (c.fact 1 rfl)) (by decide +kernel) (dena_cons (den_var 0) dena_nil)) (den_gint rfl (He.int_ok KX G (c.fact 22 rfl)))))))) (denss_one (dens_ret den_bl)) denss_nil)
    (denss_one (dens_ret (den_callB all_ok (cr_all rfl) rfl (He.free_ok KX G (c.fact 4 rfl)) (by decide +kernel) (dena_cons (den_lc (own := [("letter", 1)]) nb0 (by decide) rfl sc_is_name.nd (deni_str (den_var 0)) (blkOk_by (N := N_is_name) (sc := defScope st_is_name) (by decide +kernel)) (fun _ _ _ _ _ => (deng_name 1 sc_is_name.nd rfl (by first | exact Or.inl rfl | exact Or.inr rfl))) (fun _ _ _ _ _ => dents_nil) (fun _ _ _ _ _ => (den_cmp in_ok op_inAll (den_var 1) (den_gstr (z := c_LETTERS) rfl (He.str_ok KX G (c.fact 21 rfl))) (by first | rfl | with_unfolding_all rfl)))) dena_nil)))))
theorem ok_is_name (KX : K.In h) (G : h.Ns mainGlobals mg) (c : He.SaysD fa fn K)  : Ok P w K mg base 1 "is_name" 1 F_is_name :=
  ok_mk (N := N_is_name) KX G (c.fact 35 rfl) (c.def_ 12 (d := dD "is_name" st_is_name) rfl) sc_is_name rfl (fun _ _ _ _ _ _ us hl => match us, hl with | [_], _ => rfl) (dn_is_name KX G c )
set_option maxHeartbeats 4000000 in
theorem dn_state_in (KX : K.In h) (G : h.Ns mainGlobals mg) (c : He.SaysD fa fn K) (ho_is_name : Ok P w K mg base 1 "is_name" 1 F_is_name) : ∀ (cdv : Value) (A : Around) (outer : List PySem.Env) (s' : Shared) (H : Hp) (E : XK), Room 1 (A.deeper (PyProof.Rows.envOfC "state_in" (defScope st_state_in) s'.heap.objs.size (He.ga K "state_in") cdv)) → DenSs (cxOf CX0 P w K mg base N_state_in "state_in" (defScope st_state_in) (He.ga K "state_in") cdv A outer s' H E).nox B0 (defBody st_state_in) b_state_in := by
  intro cdv A outer s' H E hr
  exact (denss_cons (dens_set (i := 1) sc_state_in.nd rfl (by first | exact Or.inl rfl | exact Or.inr rfl) (den_callTy tuple_ok call_tuple_of rfl (He.free_ok KX G (c.fact 8 rfl)) (by decide +kernel) (dena_cons (den_bm split_ok PySem.F.plainAttrs_str PySem.F.slot_str_split PySem.F.type_str_split mt_split (den_var 0) (dena_cons (den_gstr (z := c_BLANK) rfl (He.str_ok KX G (c.fact 13 rfl))) dena_nil) (pe_bm PySem.F.plainAttrs_str PySem.F.slot_str_split PySem.F.type_str_split mt_split (den_var 0) (dena_cons (den_gstr (z := c_BLANK) rfl (He.str_ok KX G (c.fact 13 rfl))) dena_nil))) dena_nil)))
    (denss_one (dens_ret (den_if (DenW.t (denw_and (dent_cmp le_ok op_le (den_callB len_ok call_len rfl (He.free_ok KX G (c.fact 1 rfl)) (by decide +kernel) (dena_cons (den_var 1) dena_nil)) (den_gint rfl (He.int_ok KX G (c.fact 20 rfl))) (nomark _)) (denw_and1 (dent_val (den_callB all_ok (cr_all rfl) rfl (He.free_ok KX G (c.fact 4 rfl)) (by decide +kernel) (dena_cons (den_lc (own := [("name", 2)]) nb0 (by decide) rfl sc_state_in.nd (deni_tup (den_var 1)) (blkOk_by (N := N_state_in) (sc := defScope st_state_in) (by decide +kernel)) (fun _ _ _ _ _ => (deng_name 2 sc_state_in.nd rfl (by first | exact Or.inl rfl | exact Or.inr rfl))) (fun _ _ _ _ _ => dents_nil) (fun _ _ _ _ _ => (den_callO ho_is_name hr (by decide) rfl (dena_cons (den_var 2) dena_nil)))) dena_nil)))))) (den_var 1) den_non))))
theorem ok_state_in (KX : K.In h) (G : h.Ns mainGlobals mg) (c : He.SaysD fa fn K) (ho_is_name : Ok P w K mg base 1 "is_name" 1 F_is_name) : Ok P w K mg base 2 "state_in" 1 F_state_in :=
  ok_mk (N := N_state_in) KX G (c.fact 24 rfl) (c.def_ 13 (d := dD "state_in" st_state_in) rfl) sc_state_in rfl (fun _ _ _ _ _ _ us hl => match us, hl with | [_], _ => rfl) (dn_state_in KX G c ho_is_name)
set_option maxHeartbeats 4000000 in
theorem dn_shown_value (KX : K.In h) (G : h.Ns mainGlobals mg) (c : He.SaysD fa fn K) (ho_edit_in : Ok P w K mg base 3 "edit_in" 1 F_edit_in) (ho_lines_in : Ok P w K mg base 2 "lines_in" 1 F_lines_in) (ho_state_in : Ok P w K mg base 2 "state_in" 1 F_state_in) : ∀ (cdv : Value) (A : Around) (outer : List PySem.Env) (s' : Shared) (H : Hp) (E : XK), Room 3 (A.deeper (PyProof.Rows.envOfC "shown_value" (defScope st_shown_value) s'.heap.objs.size (He.ga K "shown_value") cdv)) → DenSs (cxOf CX0 P w K mg base N_shown_value "shown_value" (defScope st_shown_value) (He.ga K "shown_value") cdv A outer s' H E).nox B0 (defBody st_shown_value) b_shown_value := by
  have hTab_shown_value_reader : ∀ y nf, tab_shown_value_reader.lookup y = some nf → Ok P w K mg base 3 y nf.1 nf.2 := fun y nf e => by
    unfold tab_shown_value_reader at e
    rw [List.lookup_cons] at e
    split at e
    · rename_i q; cases e; rw [eq_of_beq q]; exact ho_state_in.mono (by decide)
    rw [List.lookup_cons] at e
    split at e
    · rename_i q; cases e; rw [eq_of_beq q]; exact ho_lines_in.mono (by decide)
    rw [List.lookup_cons] at e
    split at e
    · rename_i q; cases e; rw [eq_of_beq q]; exact ho_edit_in.mono (by decide)
    all_goals (first | (cases e; done) | skip)
  intro cdv A outer s' H E hr
  exact (denss_cons (dens_set (i := 2) sc_shown_value.nd rfl (by first | exact Or.inl rfl | exact Or.inr rfl) (den_if (dent_val (den_callB isi_ok call_isi rfl (He.free_ok KX G (c.fact 12 rfl)) (by decide +kernel) (dena_cons (den_var 0) (dena_cons (den_ty rfl (He.free_ok KX G (c.fact 7 rfl)) (by decide +kernel)) dena_nil)))) (den_callV (hTab_shown_value_reader) hr (by decide) (dena_cons (den_var 0) dena_nil)) den_non))
    (denss_cons (dens_if (dent_cmp isN_ok op_isN (den_var 2) den_non (nomark _)) (denss_one dens_never) denss_nil)
    (denss_one (dens_ret (den_var 2)))))
theorem ok_shown_value (KX : K.In h) (G : h.Ns mainGlobals mg) (c : He.SaysD fa fn K) (ho_edit_in : Ok P w K mg base 3 "edit_in" 1 F_edit_in) (ho_lines_in : Ok P w K mg base 2 "lines_in" 1 F_lines_in) (ho_state_in : Ok P w K mg base 2 "state_in" 1 F_state_in) : Ok P w K mg base 4 "shown_value" 2 F_shown_value :=
  ok_mk (N := N_shown_value) KX G (c.fact 36 rfl) (c.def_ 14 (d := dD "shown_value" st_shown_value) rfl) sc_shown_value rfl (fun _ _ _ _ _ _ us hl => match us, hl with | [_, _], _ => rfl) (dn_shown_value KX G c ho_edit_in ho_lines_in ho_state_in)
set_option maxHeartbeats 4000000 in
theorem dn_read_edit (KX : K.In h) (G : h.Ns mainGlobals mg) (c : He.SaysD fa fn K) (ho_shown_value : Ok P w K mg base 4 "shown_value" 2 F_shown_value) : ∀ (cdv : Value) (A : Around) (outer : List PySem.Env) (s' : Shared) (H : Hp) (E : XK), Room 4 (A.deeper (PyProof.Rows.envOfC "read_edit" (defScope st_read_edit) s'.heap.objs.size (He.ga K "read_edit") cdv)) → DenSs (cxOf CX0 P w K mg base N_read_edit "read_edit" (defScope st_read_edit) (He.ga K "read_edit") cdv A outer s' H E).nox B0 (defBody st_read_edit) b_read_edit := by
  intro cdv A outer s' H E hr
  exact (denss_one (dens_ret (den_callO ho_shown_value hr (by decide) rfl (dena_cons (den_var 0) (dena_cons (den_fn rfl (He.glo_ok KX G (c.fact 11 rfl))) dena_nil)))))
theorem ok_read_edit (KX : K.In h) (G : h.Ns mainGlobals mg) (c : He.SaysD fa fn K) (ho_shown_value : Ok P w K mg base 4 "shown_value" 2 F_shown_value) : Ok P w K mg base 5 "read_edit" 1 F_read_edit :=
  ok_mk (N := N_read_edit) KX G (c.fact 37 rfl) (c.def_ 15 (d := dD "read_edit" st_read_edit) rfl) sc_read_edit rfl (fun _ _ _ _ _ _ us hl => match us, hl with | [_], _ => rfl) (dn_read_edit KX G c ho_shown_value)
set_option maxHeartbeats 4000000 in
theorem dn_read_lines (KX : K.In h) (G : h.Ns mainGlobals mg) (c : He.SaysD fa fn K) (ho_shown_value : Ok P w K mg base 4 "shown_value" 2 F_shown_value) : ∀ (cdv : Value) (A : Around) (outer : List PySem.Env) (s' : Shared) (H : Hp) (E : XK), Room 4 (A.deeper (PyProof.Rows.envOfC "read_lines" (defScope st_read_lines) s'.heap.objs.size (He.ga K "read_lines") cdv)) → DenSs (cxOf CX0 P w K mg base N_read_lines "read_lines" (defScope st_read_lines) (He.ga K "read_lines") cdv A outer s' H E).nox B0 (defBody st_read_lines) b_read_lines := by
  intro cdv A outer s' H E hr
  exact (denss_one (dens_ret (den_callO ho_shown_value hr (by decide) rfl (dena_cons (den_var 0) (dena_cons (den_fn rfl (He.glo_ok KX G (c.fact 23 rfl))) dena_nil)))))
theorem ok_read_lines (KX : K.In h) (G : h.Ns mainGlobals mg) (c : He.SaysD fa fn K) (ho_shown_value : Ok P w K mg base 4 "shown_value" 2 F_shown_value) : Ok P w K mg base 5 "read_lines" 1 F_read_lines :=
  ok_mk (N := N_read_lines) KX G (c.fact 38 rfl) (c.def_ 16 (d := dD "read_lines" st_read_lines) rfl) sc_read_lines rfl (fun _ _ _ _ _ _ us hl => match us, hl with | [_], _ => rfl) (dn_read_lines KX G c ho_shown_value)
set_option maxHeartbeats 4000000 in
theorem dn_read_state (KX : K.In h) (G : h.Ns mainGlobals mg) (c : He.SaysD fa fn K) (ho_shown_value : Ok P w K mg base 4 "shown_value" 2 F_shown_value) : ∀ (cdv : Value) (A : Around) (outer : List PySem.Env) (s' : Shared) (H : Hp) (E : XK), Room 4 (A.deeper (PyProof.Rows.envOfC "read_state" (defScope st_read_state) s'.heap.objs.size (He.ga K "read_state") cdv)) → DenSs (cxOf CX0 P w K mg base N_read_state "read_state" (defScope st_read_state) (He.ga K "read_state") cdv A outer s' H E).nox B0 (defBody st_read_state) b_read_state := by
  intro cdv A outer s' H E hr
  exact (denss_one (dens_ret (den_callO ho_shown_value hr (by decide) rfl (dena_cons (den_var 0) (dena_cons (den_fn rfl (He.glo_ok KX G (c.fact 24 rfl))) dena_nil)))))
theorem ok_read_state (KX : K.In h) (G : h.Ns mainGlobals mg) (c : He.SaysD fa fn K) (ho_shown_value : Ok P w K mg base 4 "shown_value" 2 F_shown_value) : Ok P w K mg base 5 "read_state" 1 F_read_state :=
  ok_mk (N := N_read_state) KX G (c.fact 39 rfl) (c.def_ 17 (d := dD "read_state" st_read_state) rfl) sc_read_state rfl (fun _ _ _ _ _ _ us hl => match us, hl with | [_], _ => rfl) (dn_read_state KX G c ho_shown_value)
set_option maxHeartbeats 4000000 in
theorem dn_show_lines (KX : K.In h) (G : h.Ns mainGlobals mg) (c : He.SaysD fa fn K)  : ∀ (cdv : Value) (A : Around) (outer : List PySem.Env) (s' : Shared) (H : Hp) (E : XK), Room 0 (A.deeper (PyProof.Rows.envOfC "show_lines" (defScope st_show_lines) s'.heap.objs.size (He.ga K "show_lines") cdv)) → DenSs (cxOf CX0 P w K mg base N_show_lines "show_lines" (defScope st_show_lines) (He.ga K "show_lines") cdv A outer s' H E).nox B0 (defBody st_show_lines) b_show_lines := by
  intro cdv A outer s' H E hr
  exact (denss_one (dens_ret (den_if (dent_cmp ne_ok (op_neAll hr.units) (den_var 0) (den_tup dena_nil) (nomark _)) (den_bm join_ok PySem.F.plainAttrs_str PySem.F.slot_str_join PySem.F.type_str_join mt_join (den_gstr (z := c_FEED) rfl (He.str_ok KX G (c.fact 14 rfl))) (dena_cons (den_lc (own := [("line", 1)]) nb0 (by decide) rfl sc_show_lines.nd (deni_tup (den_var 0)) (blkOk_by (N := N_show_lines) (sc := defScope st_show_lines) (by decide +kernel)) (fun _ _ _ _ _ => (deng_name 1 sc_show_lines.nd rfl (by first | exact Or.inl rfl | exact Or.inr rfl))) (fun _ _ _ _ _ => dents_nil) (fun _ _ _ _ _ => (den_js (denj_cons (den_fmt (den_gstr (z := c_BAR) rfl (He.str_ok KX G (c.fact 15 rfl)))) (denj_cons (den_fmt (den_var 1)) denj_nil))))) dena_nil) (pe_bm PySem.F.plainAttrs_str PySem.F.slot_str_join PySem.F.type_str_join mt_join (den_gstr (z := c_FEED) rfl (He.str_ok KX G (c.fact 14 rfl))) (dena_cons (den_lc (own := [("line", 1)]) nb0 (by decide) rfl sc_show_lines.nd (deni_tup (den_var 0)) (blkOk_by (N := N_show_lines) (sc := defScope st_show_lines) (by decide +kernel)) (fun _ _ _ _ _ => (deng_name 1 sc_show_lines.nd rfl (by first | exact Or.inl rfl | exact Or.inr rfl))) (fun _ _ _ _ _ => dents_nil) (fun _ _ _ _ _ => (den_js (denj_cons (den_fmt (den_gstr (z := c_BAR) rfl (He.str_ok KX G (c.fact 15 rfl)))) (denj_cons (den_fmt (den_var 1)) denj_nil))))) dena_nil))) (den_gstr (z := c_NONE) rfl (He.str_ok KX G (c.fact 16 rfl))))))
theorem ok_show_lines (KX : K.In h) (G : h.Ns mainGlobals mg) (c : He.SaysD fa fn K)  : Ok P w K mg base 1 "show_lines" 1 F_show_lines :=
  ok_mk (N := N_show_lines) KX G (c.fact 40 rfl) (c.def_ 18 (d := dD "show_lines" st_show_lines) rfl) sc_show_lines rfl (fun _ _ _ _ _ _ us hl => match us, hl with | [_], _ => rfl) (dn_show_lines KX G c )
set_option maxHeartbeats 4000000 in
theorem dn_show_edit (KX : K.In h) (G : h.Ns mainGlobals mg) (c : He.SaysD fa fn K) (ho_show_lines : Ok P w K mg base 1 "show_lines" 1 F_show_lines) : ∀ (cdv : Value) (A : Around) (outer : List PySem.Env) (s' : Shared) (H : Hp) (E : XK), Room 1 (A.deeper (PyProof.Rows.envOfC "show_edit" (defScope st_show_edit) s'.heap.objs.size (He.ga K "show_edit") cdv)) → DenSs (cxOf CX0 P w K mg base N_show_edit "show_edit" (defScope st_show_edit) (He.ga K "show_edit") cdv A outer s' H E).nox B0 (defBody st_show_edit) b_show_edit := by
  intro cdv A outer s' H E hr
  exact (denss_cons (dens_tg (den_var 0) (deng_tup rfl (deng_cons (deng_name 1 sc_show_edit.nd rfl (by first | exact Or.inl rfl | exact Or.inr rfl)) (deng_cons (deng_name 2 sc_show_edit.nd rfl (by first | exact Or.inl rfl | exact Or.inr rfl)) (deng_cons (deng_name 3 sc_show_edit.nd rfl (by first | exact Or.inl rfl | exact Or.inr rfl)) deng_nil)))))
    (denss_one (dens_ret (den_js (denj_cons (den_fmt (den_var 1)) (denj_cons (den_fmt (den_gstr (z := c_BLANK) rfl (He.str_ok KX G (c.fact 13 rfl)))) (denj_cons (den_fmt (den_var 2)) (denj_cons (den_fmt (den_gstr (z := c_FEED) rfl (He.str_ok KX G (c.fact 14 rfl)))) (denj_cons (den_fmt (den_callO ho_show_lines hr (by decide) rfl (dena_cons (den_var 3) dena_nil))) denj_nil)))))))))
theorem ok_show_edit (KX : K.In h) (G : h.Ns mainGlobals mg) (c : He.SaysD fa fn K) (ho_show_lines : Ok P w K mg base 1 "show_lines" 1 F_show_lines) : Ok P w K mg base 2 "show_edit" 1 F_show_edit :=
  ok_mk (N := N_show_edit) KX G (c.fact 41 rfl) (c.def_ 19 (d := dD "show_edit" st_show_edit) rfl) sc_show_edit rfl (fun _ _ _ _ _ _ us hl => match us, hl with | [_], _ => rfl) (dn_show_edit KX G c ho_show_lines)
set_option maxHeartbeats 4000000 in
theorem dn_show_state (KX : K.In h) (G : h.Ns mainGlobals mg) (c : He.SaysD fa fn K)  : ∀ (cdv : Value) (A : Around) (outer : List PySem.Env) (s' : Shared) (H : Hp) (E : XK), Room 0 (A.deeper (PyProof.Rows.envOfC "show_state" (defScope st_show_state) s'.heap.objs.size (He.ga K "show_state") cdv)) → DenSs (cxOf CX0 P w K mg base N_show_state "show_state" (defScope st_show_state) (He.ga K "show_state") cdv A outer s' H E).nox B0 (defBody st_show_state) b_show_state := by
  intro cdv A outer s' H E hr
  exact (denss_one (dens_ret (den_bm join_ok PySem.F.plainAttrs_str PySem.F.slot_str_join PySem.F.type_str_join mt_join (den_gstr (z := c_BLANK) rfl (He.str_ok KX G (c.fact 13 rfl))) (dena_cons (den_var 0) dena_nil) (pe_bm PySem.F.plainAttrs_str PySem.F.slot_str_join PySem.F.type_str_join mt_join (den_gstr (z := c_BLANK) rfl (He.str_ok KX G (c.fact 13 rfl))) (dena_cons (den_var 0) dena_nil)))))
theorem ok_show_state (KX : K.In h) (G : h.Ns mainGlobals mg) (c : He.SaysD fa fn K)  : Ok P w K mg base 1 "show_state" 1 F_show_state :=
  ok_mk (N := N_show_state) KX G (c.fact 42 rfl) (c.def_ 20 (d := dD "show_state" st_show_state) rfl) sc_show_state rfl (fun _ _ _ _ _ _ us hl => match us, hl with | [_], _ => rfl) (dn_show_state KX G c )
set_option maxHeartbeats 4000000 in
theorem dn_law_right (KX : K.In h) (G : h.Ns mainGlobals mg) (c : He.SaysD fa fn K) (ho_law_line : Ok P w K mg base 3 "_law_line" 3 F_law_line) (ho_law_lines_text : Ok P w K mg base 1 "_law_lines_text" 1 F_law_lines_text) (ho_law_of : Ok P w K mg base 2 "_law_of" 2 F_law_of) (ho_law_take : Ok P w K mg base 1 "_law_take" 2 F_law_take) (ho_read_edit : Ok P w K mg base 5 "read_edit" 1 F_read_edit) (ho_read_lines : Ok P w K mg base 5 "read_lines" 1 F_read_lines) (ho_read_state : Ok P w K mg base 5 "read_state" 1 F_read_state) (ho_show_edit : Ok P w K mg base 2 "show_edit" 1 F_show_edit) (ho_show_lines : Ok P w K mg base 1 "show_lines" 1 F_show_lines) (ho_show_state : Ok P w K mg base 1 "show_state" 1 F_show_state) : ∀ (cdv : Value) (A : Around) (outer : List PySem.Env) (s' : Shared) (H : Hp) (E : XK), Room 5 (A.deeper (PyProof.Rows.envOfC "_law_right" (defScope st_law_right) s'.heap.objs.size (He.ga K "_law_right") cdv)) → DenSs (cxOf CX0 P w K mg base N_law_right "_law_right" (defScope st_law_right) (He.ga K "_law_right") cdv A outer s' H E).nox B0 (defBody st_law_right) b_law_right := by
  intro cdv A outer s' H E hr
  exact (denss_cons (dens_set (i := 2) sc_law_right.nd rfl (by first | exact Or.inl rfl | exact Or.inr rfl) (den_callO ho_law_of hr (by decide) rfl (dena_cons (den_var 0) (dena_cons (den_lst (dena_cons (den_lst (dena_cons den_str dena_nil)) (dena_cons (den_lst (dena_cons den_str (dena_cons den_str dena_nil))) (dena_cons (den_lst (dena_cons den_str (dena_cons den_str (dena_cons den_str dena_nil)))) (dena_cons (den_lc (own := [("_law_row", 8)]) nb0 (by decide) rfl sc_law_right.nd (deni_lst (den_dget (hu_of hr) (den_var 1) den_str)) (blkOk_by (N := N_law_right) (sc := defScope st_law_right) (by decide +kernel)) (fun _ _ _ _ _ => (deng_name 8 sc_law_right.nd rfl (by first | exact Or.inl rfl | exact Or.inr rfl))) (fun _ _ _ _ _ => dents_nil) (fun _ _ _ _ _ => (den_ix (den_var 8) den_int))) dena_nil))))) dena_nil))))
    (denss_cons (dens_set (i := 3) sc_law_right.nd rfl (by first | exact Or.inl rfl | exact Or.inr rfl) (den_callTy tuple_ok call_tuple_of rfl (He.free_ok KX G (c.fact 8 rfl)) (by decide +kernel) (dena_cons (den_var 2) dena_nil)))
    (denss_cons (dens_if (DenW.t (denw_or (dent_cmp ne_ok (op_neAll hr.units) (den_callO ho_show_state hr (by decide) rfl (dena_cons (den_var 3) dena_nil)) (den_bm join_ok PySem.F.plainAttrs_str PySem.F.slot_str_join PySem.F.type_str_join mt_join den_str (dena_cons (den_var 2) dena_nil) (pe_bm PySem.F.plainAttrs_str PySem.F.slot_str_join PySem.F.type_str_join mt_join den_str (dena_cons (den_var 2) dena_nil))) (nomark _)) (denw_or1 (dent_cmp ne_ok (op_neAll hr.units) (den_callO ho_read_state hr (by decide) rfl (dena_cons (den_bm join_ok PySem.F.plainAttrs_str PySem.F.slot_str_join PySem.F.type_str_join mt_join den_str (dena_cons (den_var 2) dena_nil) (pe_bm PySem.F.plainAttrs_str PySem.F.slot_str_join PySem.F.type_str_join mt_join den_str (dena_cons (den_var 2) dena_nil))) dena_nil)) (den_var 3) (nomark _))))) (denss_one (dens_ret den_bl)) denss_nil)
    (denss_cons (dens_set (i := 4) sc_law_right.nd rfl (by first | exact Or.inl rfl | exact Or.inr rfl) (den_callTy tuple_ok call_tuple_of rfl (He.free_ok KX G (c.fact 8 rfl)) (by decide +kernel) (dena_cons (den_lc (own := [("_law_turn", 9)]) nb0 (by decide) rfl sc_law_right.nd (deni_rng1 rfl (He.free_ok KX G (c.fact 0 rfl)) (dena_cons (den_callO ho_law_take hr (by decide) rfl (dena_cons (den_var 0) (dena_cons den_int dena_nil))) dena_nil)) (blkOk_by (N := N_law_right) (sc := defScope st_law_right) (by decide +kernel)) (fun _ _ _ _ _ => (deng_name 9 sc_law_right.nd rfl (by first | exact Or.inl rfl | exact Or.inr rfl))) (fun _ _ _ _ _ => dents_nil) (fun _ _ _ _ _ => (den_callO ho_law_line hr (by decide) rfl (dena_cons (den_var 0) (dena_cons (den_var 1) (dena_cons den_int dena_nil)))))) dena_nil)))
    (denss_cons (dens_set (i := 4) sc_law_right.nd rfl (by first | exact Or.inl rfl | exact Or.inr rfl) (den_callO ho_law_of hr (by decide) rfl (dena_cons (den_var 0) (dena_cons (den_lst (dena_cons (den_var 4) (dena_cons (den_var 4) (dena_cons (den_tup (dena_cons den_str (dena_cons den_str (dena_cons den_str dena_nil)))) (dena_cons (den_tup (dena_cons den_str dena_nil)) (dena_cons (den_tup dena_nil) dena_nil)))))) dena_nil))))
    (denss_cons (dens_set (i := 5) sc_law_right.nd rfl (by first | exact Or.inl rfl | exact Or.inr rfl) (den_callO ho_law_lines_text hr (by decide) rfl (dena_cons (den_var 4) dena_nil)))
    (denss_cons (dens_if (DenW.t (denw_or (dent_cmp ne_ok (op_neAll hr.units) (den_callO ho_show_lines hr (by decide) rfl (dena_cons (den_var 4) dena_nil)) (den_var 5) (nomark _)) (denw_or1 (dent_cmp ne_ok (op_neAll hr.units) (den_callO ho_read_lines hr (by decide) rfl (dena_cons (den_var 5) dena_nil)) (den_var 4) (nomark _))))) (denss_one (dens_ret den_bl)) denss_nil)
    (denss_cons (dens_set (i := 6) sc_law_right.nd rfl (by first | exact Or.inl rfl | exact Or.inr rfl) (den_callO ho_law_of hr (by decide) rfl (dena_cons (den_var 0) (dena_cons (den_lst (dena_cons den_int (dena_cons den_int (dena_cons den_int (dena_cons den_int (dena_cons den_int (dena_cons den_int dena_nil))))))) dena_nil))))
    (denss_cons (dens_set (i := 7) sc_law_right.nd rfl (by first | exact Or.inl rfl | exact Or.inr rfl) (den_tup (dena_cons (den_var 6) (dena_cons (den_callB min2_ok (call_min2 rfl) rfl (He.free_ok KX G (c.fact 2 rfl)) (by decide +kernel) (dena_cons den_int (dena_cons (den_bin add_ok op_addAll (den_var 6) (den_callO ho_law_of hr (by decide) rfl (dena_cons (den_var 0) (dena_cons (den_lst (dena_cons den_int (dena_cons den_int (dena_cons den_int dena_nil)))) dena_nil)))) dena_nil))) (dena_cons (den_var 4) dena_nil)))))
    (denss_cons (dens_set (i := 5) sc_law_right.nd rfl (by first | exact Or.inl rfl | exact Or.inr rfl) (den_bin add_ok op_addAll (den_bin add_ok op_addAll (den_bin add_ok op_addAll (den_bin add_ok op_addAll (den_callTy str_ok call_str_int rfl (He.free_ok KX G (c.fact 7 rfl)) (by decide +kernel) (dena_cons (den_ix (den_var 7) den_int) dena_nil)) den_str) (den_callTy str_ok call_str_int rfl (He.free_ok KX G (c.fact 7 rfl)) (by decide +kernel) (dena_cons (den_ix (den_var 7) den_int) dena_nil))) den_str) (den_var 5)))
    (denss_one (dens_ret (den_and (den_cmp eq_ok (op_eqAll hr.units) (den_callO ho_show_edit hr (by decide) rfl (dena_cons (den_var 7) dena_nil)) (den_var 5) (nomark _)) (den_one (den_cmp eq_ok (op_eqAll hr.units) (den_callO ho_read_edit hr (by decide) rfl (dena_cons (den_var 5) dena_nil)) (den_var 7) (nomark _))))))))))))))))
theorem ok_law_right (KX : K.In h) (G : h.Ns mainGlobals mg) (c : He.SaysD fa fn K) (ho_law_line : Ok P w K mg base 3 "_law_line" 3 F_law_line) (ho_law_lines_text : Ok P w K mg base 1 "_law_lines_text" 1 F_law_lines_text) (ho_law_of : Ok P w K mg base 2 "_law_of" 2 F_law_of) (ho_law_take : Ok P w K mg base 1 "_law_take" 2 F_law_take) (ho_read_edit : Ok P w K mg base 5 "read_edit" 1 F_read_edit) (ho_read_lines : Ok P w K mg base 5 "read_lines" 1 F_read_lines) (ho_read_state : Ok P w K mg base 5 "read_state" 1 F_read_state) (ho_show_edit : Ok P w K mg base 2 "show_edit" 1 F_show_edit) (ho_show_lines : Ok P w K mg base 1 "show_lines" 1 F_show_lines) (ho_show_state : Ok P w K mg base 1 "show_state" 1 F_show_state) : Ok P w K mg base 6 "_law_right" 2 F_law_right :=
  ok_mk (N := N_law_right) KX G (c.fact 43 rfl) (c.def_ 21 (d := dD "_law_right" st_law_right) rfl) sc_law_right rfl (fun _ _ _ _ _ _ us hl => match us, hl with | [_, _], _ => rfl) (dn_law_right KX G c ho_law_line ho_law_lines_text ho_law_of ho_law_take ho_read_edit ho_read_lines ho_read_state ho_show_edit ho_show_lines ho_show_state)
set_option maxHeartbeats 4000000 in
theorem dn_law (KX : K.In h) (G : h.Ns mainGlobals mg) (c : He.SaysD fa fn K) (ho_law_book : Ok P w K mg base 4 "_law_book" 1 F_law_book) (ho_law_pot : Ok P w K mg base 1 "_law_pot" 2 F_law_pot) (ho_law_right : Ok P w K mg base 6 "_law_right" 2 F_law_right) : ∀ (cdv : Value) (A : Around) (outer : List PySem.Env) (s' : Shared) (H : Hp) (E : XK), Room 6 (A.deeper (PyProof.Rows.envOfC "law" (defScope st_law) s'.heap.objs.size (He.ga K "law") cdv)) → DenSs (cxOf CX0 P w K mg base N_law "law" (defScope st_law) (He.ga K "law") cdv A outer s' H E).nox B0 (defBody st_law) b_law := by
  intro cdv A outer s' H E hr
  exact (denss_cons (dens_for PassesOwn.never rfl (deni_rng1 rfl (He.free_ok KX G (c.fact 0 rfl)) (dena_cons (den_callB max2_ok (call_max2 rfl) rfl (He.free_ok KX G (c.fact 3 rfl)) (by decide +kernel) (dena_cons den_int (dena_cons (den_callB min2_ok (call_min2 rfl) rfl (He.free_ok KX G (c.fact 2 rfl)) (by decide +kernel) (dena_cons den_int (dena_cons (den_callB len_ok call_len rfl (He.free_ok KX G (c.fact 1 rfl)) (by decide +kernel) (dena_cons (den_var 0) dena_nil)) dena_nil))) dena_nil))) dena_nil)) (deng_name 1 sc_law.nd rfl (by first | exact Or.inl rfl | exact Or.inr rfl)) (denss_cons (dens_set (i := 2) sc_law.nd rfl (by first | exact Or.inl rfl | exact Or.inr rfl) (den_callO ho_law_pot hr (by decide) rfl (dena_cons (den_var 0) (dena_cons (den_var 1) dena_nil))))
    (denss_cons (dens_set (i := 3) sc_law.nd rfl (by first | exact Or.inl rfl | exact Or.inr rfl) (den_callO ho_law_book hr (by decide) rfl (dena_cons (den_var 2) dena_nil)))
    (denss_one (dens_if (dent_not (dent_val (den_callB all_ok (cr_all rfl) rfl (He.free_ok KX G (c.fact 4 rfl)) (by decide +kernel) (dena_cons (den_lc (own := [("_law_turn", 4)]) nb0 (by decide) rfl sc_law.nd (deni_rng1 rfl (He.free_ok KX G (c.fact 0 rfl)) (dena_cons den_int dena_nil)) (blkOk_by (N := N_law) (sc := defScope st_law) (by decide +kernel)) (fun _ _ _ _ _ => (deng_name 4 sc_law.nd rfl (by first | exact Or.inl rfl | exact Or.inr rfl))) (fun _ _ _ _ _ => dents_nil) (fun _ _ _ _ _ => (den_callO ho_law_right hr (by decide) rfl (dena_cons (den_var 2) (dena_cons (den_var 3) dena_nil))))) dena_nil)))) (denss_one (dens_ret den_bl)) denss_nil)))))
    (denss_one (dens_ret den_bl)))
theorem ok_law (KX : K.In h) (G : h.Ns mainGlobals mg) (c : He.SaysD fa fn K) (ho_law_book : Ok P w K mg base 4 "_law_book" 1 F_law_book) (ho_law_pot : Ok P w K mg base 1 "_law_pot" 2 F_law_pot) (ho_law_right : Ok P w K mg base 6 "_law_right" 2 F_law_right) : Ok P w K mg base 7 "law" 1 F_law :=
  ok_mk (N := N_law) KX G (c.fact 44 rfl) (c.def_ 22 (d := dD "law" st_law) rfl) sc_law rfl (fun _ _ _ _ _ _ us hl => match us, hl with | [_], _ => rfl) (dn_law KX G c ho_law_book ho_law_pot ho_law_right)
theorem law_fn (KX : K.In h) (G : h.Ns mainGlobals mg) (c : He.SaysD fa fn K) {fd : FuncData} (F : FunD K "law" "law" (defArgs st_law) (defBody st_law) (defScope st_law) [] [] (He.ga K "law") fd) : FnOk P w K mg base CX0 lawLevel (He.ga K "law") fd ["_law_script"] (spF K 1 F_law) := by
  have o_law_take := ok_law_take (P := P) (w := w) (base := base) KX G c 
  have o_law_of := ok_law_of (P := P) (w := w) (base := base) KX G c o_law_take
  have o_law_deed := ok_law_deed (P := P) (w := w) (base := base) KX G c o_law_of
  have o_law_book := ok_law_book (P := P) (w := w) (base := base) KX G c o_law_deed o_law_of o_law_take
  have o_law_pot := ok_law_pot (P := P) (w := w) (base := base) KX G c 
  have o_law_signs := ok_law_signs (P := P) (w := w) (base := base) KX G c 
  have o_law_line := ok_law_line (P := P) (w := w) (base := base) KX G c o_law_of o_law_signs o_law_take
  have o_law_lines_text := ok_law_lines_text (P := P) (w := w) (base := base) KX G c 
  have o_is_line := ok_is_line (P := P) (w := w) (base := base) KX G c 
  have o_lines_in := ok_lines_in (P := P) (w := w) (base := base) KX G c o_is_line
  have o_number_in := ok_number_in (P := P) (w := w) (base := base) KX G c 
  have o_edit_in := ok_edit_in (P := P) (w := w) (base := base) KX G c o_lines_in o_number_in
  have o_is_name := ok_is_name (P := P) (w := w) (base := base) KX G c 
  have o_state_in := ok_state_in (P := P) (w := w) (base := base) KX G c o_is_name
  have o_shown_value := ok_shown_value (P := P) (w := w) (base := base) KX G c o_edit_in o_lines_in o_state_in
  have o_read_edit := ok_read_edit (P := P) (w := w) (base := base) KX G c o_shown_value
  have o_read_lines := ok_read_lines (P := P) (w := w) (base := base) KX G c o_shown_value
  have o_read_state := ok_read_state (P := P) (w := w) (base := base) KX G c o_shown_value
  have o_show_lines := ok_show_lines (P := P) (w := w) (base := base) KX G c 
  have o_show_edit := ok_show_edit (P := P) (w := w) (base := base) KX G c o_show_lines
  have o_show_state := ok_show_state (P := P) (w := w) (base := base) KX G c 
  have o_law_right := ok_law_right (P := P) (w := w) (base := base) KX G c o_law_line o_law_lines_text o_law_of o_law_take o_read_edit o_read_lines o_read_state o_show_edit o_show_lines o_show_state
  exact fn_ok F sc_law (dn_law KX G c o_law_book o_law_pot o_law_right)
abbrev lawFact : Nat := 44
abbrev lawDef : Nat := 22
end
end Pg
end MP
set_option Elab.async false
set_option linter.all false
set_option maxRecDepth 100000
set_option maxHeartbeats 2000000
namespace MP
open PySem PySem.Spec L2
theorem take_e : Pg.F_law_take = takeF := rfl
theorem of_e : Pg.F_law_of = ofF := rfl
theorem pot_e : Pg.F_law_pot = potF := rfl
structure StL (k : Nat) (h : MH) (l : Nat) (S : Str → Prop) : Prop where
  ex : ∃ ss : List Str, h[l]? = some (.lst (ss.map D.str)) ∧ 0 < ss.length ∧ ss.length ≤ k ∧ ∀ s ∈ ss, S s
theorem StL.fr {k : Nat} {h h' : MH} {l p : Nat} {S : Str → Prop} (q : StL k h l S) (f : Fr p h h') (hl : l ≠ p) : StL k h' l S := by
  obtain ⟨ss, e, r⟩ := q.ex
  exact ⟨ss, f.keep _ _ hl e, r⟩
theorem StL.app {k : Nat} {h l' : MH} {l : Nat} {S : Str → Prop} (q : StL k h l S) : StL k (h ++ l') l S := by
  obtain ⟨ss, e, r⟩ := q.ex
  exact ⟨ss, get_app e, r⟩
theorem StL.new {k : Nat} (h : MH) (ss : List Str) {S : Str → Prop} (h0 : 0 < ss.length) (h1 : ss.length ≤ k) (hs : ∀ s ∈ ss, S s) : StL k (h ++ [.lst (ss.map D.str)]) h.length S := ⟨ss, get_new _ _, h0, h1, hs⟩
theorem of_str {k : Nat} {h : MH} {p l : Nat} {T : Int} {S : Str → Prop} (P : Pot h p T) (hT : T < 1000000) (Q : StL k h l S) (hl : l ≠ p) (hk : k < 100000) :
    ∃ s h', ofF [.loc p, .loc l] h = .ok (.str s) h' ∧ S s ∧ Pot h' p (T + 1) ∧ Fr p h h' := by
  obtain ⟨ss, e, h0, h1, hs⟩ := Q.ex
  obtain ⟨x, h', e1, hx, P', F⟩ := of_ok P hT e hl (by simpa using h0) (by simp; omega)
  obtain ⟨s, hm, rfl⟩ := List.mem_map.mp hx
  exact ⟨s, h', e1, hs s hm, P', F⟩
theorem f_inT (s : Str) (ds : List D) (h : MH) : fIn (.str s) (.tup ds) h = if ds.all flatD = true then .ok (.bl (inS (.str s) ds)) h else .no := by
  show (match (if flatD (.str s) = true ∧ ds.all flatD = true then some (inS (.str s) ds) else none) with | some b => R.ok (D.bl b) h | none => .no) = _
  have : flatD (.str s) = true := rfl
  by_cases q : ds.all flatD = true
  · rw [if_pos q, if_pos ⟨this, q⟩]
  · rw [if_neg q, if_neg (fun z => q z.2)]
theorem deed_ok {h : MH} {p n m : Nat} {T : Int} {S S' : Str → Prop} (P : Pot h p T) (hT : T < 900000) (N : StL 100 h n S) (hn : n ≠ p) (M : StL 100 h m S') (hm : m ≠ p) :
    ∃ ds h', Pg.F_law_deed [.loc p, .loc n, .loc m] h = .ok (.tup ds) h' ∧ Pot h' p (T + 2) ∧ Fr p h h' := by
  obtain ⟨s, h1, e1, -, P1, F1⟩ := of_str P (by omega) M hm (by decide)
  obtain ⟨t, h2, e2, -, P2, F2⟩ := of_str P1 (by omega) (N.fr F1 hn) hn (by decide)
  have s1 : 1 ≤ sizeLine := by decide
  have s2 : 2 ≤ sizeLine := by decide
  have s0 : 0 ≤ sizeLine := by decide
  have ht : [D.str "open", D.str "turn"].all flatD = true := rfl
  cases b : inS (.str s) [.str "open", .str "turn"] with
  | true =>
    refine ⟨[.str s, .str t], h2, ?_, P2.mono (by omega), F1.trans F2⟩
    simp [Pg.F_law_deed, Pg.b_law_deed, of_e, e1, e2, f_inT, ht, b, s2]
  | false =>
    by_cases hs : s = ("" : Str)
    · refine ⟨[], h1, ?_, P1.mono (by omega), F1⟩
      simp [Pg.F_law_deed, Pg.b_law_deed, of_e, e1, e2, f_inT, ht, b, s2, hs]
      simp [← hs, b]
    · refine ⟨[.str s], h1, ?_, P1.mono (by omega), F1⟩
      simp [Pg.F_law_deed, Pg.b_law_deed, of_e, e1, e2, f_inT, ht, b, s2, hs, s1]

theorem StL.up {k k' : Nat} {h : MH} {l : Nat} {S : Str → Prop} (q : StL k h l S) (hk : k ≤ k') : StL k' h l S := by
  obtain ⟨ss, e, a, b, c⟩ := q.ex
  exact ⟨ss, e, a, by omega, c⟩
/-- only the locations of c change; new ones come -/
structure Ch (c : List Nat) (h h' : MH) : Prop where
  le : h.length ≤ h'.length
  keep : ∀ (i : Nat) (mo : MO), i ∉ c → h[i]? = some mo → h'[i]? = some mo
theorem Ch.refl {c : List Nat} {h : MH} : Ch c h h := ⟨Nat.le_refl _, fun _ _ _ e => e⟩
theorem Ch.trans {c : List Nat} {h h1 h2 : MH} (a : Ch c h h1) (b : Ch c h1 h2) : Ch c h h2 := ⟨Nat.le_trans a.le b.le, fun i mo hi e => b.keep i mo hi (a.keep i mo hi e)⟩
theorem Ch.app {c : List Nat} {h l : MH} : Ch c h (h ++ l) := ⟨by simp, fun _ _ _ e => get_app e⟩
theorem Ch.set {c : List Nat} {h : MH} {n : Nat} {v : MO} (hn : n ∈ c) : Ch c h (h.set n v) := ⟨by simp, fun i mo hi e => by rw [List.getElem?_set_ne (fun (z : n = i) => hi (by rw [← z]; exact hn))]; exact e⟩
theorem Fr.ch {c : List Nat} {p : Nat} {h h' : MH} (f : Fr p h h') (hp : p ∈ c) : Ch c h h' := ⟨f.le, fun i mo hi e => f.keep i mo (fun z => hi (z ▸ hp)) e⟩
theorem Gr.ch {c : List Nat} {h h' : MH} (f : Gr h h') : Ch c h h' := ⟨f.le, fun i mo _ e => f.keep i mo e⟩
theorem Ch.fr {c : List Nat} {p : Nat} {h h' : MH} (f : Ch c h h') (hc : ∀ i ∈ c, i = p ∨ h.length ≤ i) : Fr p h h' := ⟨f.le, fun i mo hi e => f.keep i mo (fun z => by
  have : i < h.length := (List.getElem?_eq_some_iff.mp e).1
  rcases hc i z with q | q
  · exact hi q
  · omega) e⟩
theorem Ch.gr {c : List Nat} {h h' : MH} (f : Ch c h h') (hc : ∀ i ∈ c, h.length ≤ i) : Gr h h' := ⟨f.le, fun i mo e => f.keep i mo (fun z => by
  have : i < h.length := (List.getElem?_eq_some_iff.mp e).1
  have := hc i z
  omega) e⟩
theorem Ch.more {c c' : List Nat} {h h' : MH} (f : Ch c h h') (hc : ∀ i ∈ c, i ∈ c' ∨ h.length ≤ i) : Ch c' h h' := ⟨f.le, fun i mo hi e => f.keep i mo (fun z => by
  have : i < h.length := (List.getElem?_eq_some_iff.mp e).1
  rcases hc i z with q | q
  · exact hi q
  · omega) e⟩
theorem StL.ch {k : Nat} {c : List Nat} {h h' : MH} {l : Nat} {S : Str → Prop} (q : StL k h l S) (f : Ch c h h') (hl : l ∉ c) : StL k h' l S := by
  obtain ⟨ss, e, r⟩ := q.ex
  exact ⟨ss, f.keep _ _ hl e, r⟩
def anyS (_ : Str) : Prop := True
theorem inner_step {h : MH} {p l1 ow : Nat} {T : Int} {S : Str → Prop} {rows : List D} {sg : Str} {d2 d3 d4 d5 d6 d8 d10 : Option D} (P : Pot h p T) (hT : T < 800000) (N : StL 100 h l1 S) (hl : l1 ≠ p)
    (hr : h[ow]? = some (.lst rows)) (ho : ow ≠ p) (hr2 : rows.length < 100) :
    ∃ d10' h', Pg.b_law_book_1 [some (.loc p), some (.loc l1), d2, d3, d4, d5, d6, some (.loc ow), d8, some (.str sg), d10] h = .nx [some (.loc p), some (.loc l1), d2, d3, d4, d5, d6, some (.loc ow), d8, some (.str sg), d10'] h' ∧
      Pot h' p (T + 4) ∧ Ch [p, ow] h h' ∧ ∃ rows', h'[ow]? = some (.lst rows') ∧ (rows' = rows ∨ ∃ sh dd, rows' = rows ++ [.tup [.str sg, sh, .tup dd]]) := by
  obtain ⟨n, hn0, hn1, en⟩ : ∃ n : Int, 0 < n ∧ n < 10 ∧ (if sg = ("any" : Str) then R.ok (D.int 5) h else R.ok (D.int 2) h) = R.ok (.int n) h := by
    by_cases q : sg = ("any" : Str)
    · exact ⟨5, by decide, by decide, by simp [q]⟩
    · exact ⟨2, by decide, by decide, by simp [q]⟩
  obtain ⟨d, h1, e1, d0, d1, P1, F1⟩ := take_ok P (by omega) hn0 (by omega)
  by_cases hd : d = 0
  · subst hd
    have s3 : 3 ≤ sizeLine := by decide
    have s5 : 5 ≤ sizeLine := by decide
    have sl : rows.length < sizeLine := Nat.lt_trans hr2 (by decide)
    have P1' : Pot (h1 ++ [.lst ([("red" : Str), "blue", "green"].map D.str)]) p (T + 1) := P1.app
    obtain ⟨c, h2, e2, -, P2, F2⟩ := of_str P1' (by omega) (StL.new (k := 100) h1 ["red", "blue", "green"] (S := anyS) (by decide) (by decide) (fun _ _ => trivial)) (Nat.ne_of_gt P1.lt) (by decide)
    have N2 : StL 100 h2 l1 S := ((N.fr F1 hl).app).fr F2 hl
    have r2 : h2[ow]? = some (.lst rows) := F2.keep _ _ ho (get_app (F1.keep _ _ ho hr))
    have P2' : Pot (h2 ++ [.lst ([("open" : Str), "open", "turn", "close", ""].map D.str)]) p (T + 1 + 1) := P2.app
    obtain ⟨dd, h3, e3, P3, F3⟩ := deed_ok P2' (by omega) (N2.app) hl (StL.new (k := 100) h2 ["open", "open", "turn", "close", ""] (S := anyS) (by decide) (by decide) (fun _ _ => trivial)) (Nat.ne_of_gt P2.lt)
    have r3 : h3[ow]? = some (.lst rows) := F3.keep _ _ ho (get_app r2)
    refine ⟨some (.str c), h3.set ow (.lst (rows ++ [.tup [.str sg, .str c, .tup dd]])), ?_, (P3.set ho).mono (by omega),
      (((F1.ch (by simp)).trans Ch.app).trans ((F2.ch (by simp)).trans Ch.app)).trans ((F3.ch (by simp)).trans (Ch.set (by simp))), _, get_set r3, .inr ⟨_, _, rfl⟩⟩
    simp only [List.map_cons, List.map_nil] at e2 e3
    simp [Pg.b_law_book_1, take_e, of_e, en, e1, s3, s5, e2, e3, r2, r3, fAppend, tyM, sl]
  · refine ⟨d10, h1, ?_, P1.mono (by omega), F1.ch (by simp), rows, F1.keep _ _ ho hr, .inl rfl⟩
    simp [Pg.b_law_book_1, take_e, en, e1, hd]

def NMs : List Str := ["a", "b", "c"]
def SGs : List Str := ["!", "a", " "]
def RowOk (r : D) : Prop := ∃ sg sh dd, r = .tup [.str sg, sh, dd] ∧ (sg ∈ SGs ∨ sg = ("any" : Str))
def MdOk (c : List Nat) (h : MH) (md : D) : Prop := ∃ nm col en o rows, md = .tup [.str nm, col, en, .loc o] ∧ nm ∈ NMs ∧ o ∉ c ∧ h[o]? = some (.lst rows) ∧ rows.length ≤ 4 ∧ ∀ r ∈ rows, RowOk r
theorem MdOk.ch {c : List Nat} {h h' : MH} {md : D} (q : MdOk c h md) (f : Ch c h h') : MdOk c h' md := by
  obtain ⟨nm, col, en, o, rows, a, b, d, e, r⟩ := q
  exact ⟨nm, col, en, o, rows, a, b, d, f.keep _ _ d e, r⟩
theorem lt_of_get {h : MH} {n : Nat} {v : MO} (e : h[n]? = some v) : n < h.length := (List.getElem?_eq_some_iff.mp e).1
theorem StL.lt {k : Nat} {h : MH} {l : Nat} {S : Str → Prop} (q : StL k h l S) : l < h.length := by
  obtain ⟨ss, e, r⟩ := q.ex
  exact lt_of_get e
theorem outer_step {h : MH} {p l1 m s4 : Nat} {T : Int} {ms : List D} {nm : Str} {d3 d6 d7 d8 d9 d10 : Option D} (P : Pot h p T) (hT : T < 700000) (N : StL 100 h l1 (· ∈ NMs)) (hl : l1 ≠ p) (hlm : l1 ≠ m)
    (hm : h[m]? = some (.lst ms)) (hmp : m ≠ p) (hm2 : ms.length < 100) (G : StL 3 h s4 (· ∈ SGs)) (h4 : s4 ≠ p) (h4m : s4 ≠ m) (hnm : nm ∈ NMs) :
    ∃ d6' d7' d8' d9' d10' h', Pg.b_law_book_2 [some (.loc p), some (.loc l1), some (.loc m), d3, some (.loc s4), some (.str nm), d6, d7, d8, d9, d10] h = .nx [some (.loc p), some (.loc l1), some (.loc m), d3, some (.loc s4), some (.str nm), d6', d7', d8', d9', d10'] h' ∧
      Pot h' p (T + 20) ∧ Ch [p, m] h h' ∧ ∃ md, h'[m]? = some (.lst (ms ++ [md])) ∧ MdOk [p, m] h' md := by
  have s0 : 0 ≤ sizeLine := by decide
  have s1 : 1 ≤ sizeLine := by decide
  have s3 : 3 ≤ sizeLine := by decide
  have s4' : 4 ≤ sizeLine := by decide
  have s5 : 5 ≤ sizeLine := by decide
  have P0 : Pot (h ++ [.lst ([("red" : Str), "red", "blue"].map D.str)]) p T := P.app
  obtain ⟨col, h1, e1, -, P1, F1⟩ := of_str P0 (by omega) (StL.new (k := 100) h ["red", "red", "blue"] (S := anyS) (by decide) (by decide) (fun _ _ => trivial)) (Nat.ne_of_gt P.lt) (by decide)
  have C1 : Ch [p] h h1 := Ch.app.trans (F1.ch (by simp))
  have pl1 : p < h1.length := P1.lt
  have ml1 : m < h1.length := Nat.lt_of_lt_of_le (lt_of_get hm) C1.le
  have P1a : Pot (h1 ++ [.lst []]) p (T + 1) := P1.app
  have P1b : Pot ((h1 ++ [.lst []]) ++ [.lst ([("" : Str), "", "close", "end", "turn"].map D.str)]) p (T + 1) := P1a.app
  have N1 : StL 100 ((h1 ++ [.lst []]) ++ [.lst ([("" : Str), "", "close", "end", "turn"].map D.str)]) l1 (· ∈ NMs) := ((N.ch C1 (by simpa using hl)).app).app
  obtain ⟨en, h2, e2, P2, F2⟩ := deed_ok P1b (by omega) N1 hl (StL.new (k := 100) (h1 ++ [.lst []]) ["", "", "close", "end", "turn"] (S := anyS) (by decide) (by decide) (fun _ _ => trivial)) (Nat.ne_of_gt P1a.lt)
  have C2 : Ch [p] h h2 := C1.trans ((Ch.app.trans Ch.app).trans (F2.ch (by simp)))
  have C12 : Ch [p] (h1 ++ [.lst []]) h2 := Ch.app.trans (F2.ch (by simp))
  obtain ⟨ss, eG, G0, G1, GS⟩ := (G.ch C2 (by simpa using h4)).ex
  have o2 : h2[h1.length]? = some (.lst []) := C12.keep _ _ (by simp; omega) (get_new _ _)
  have N2 : StL 100 h2 l1 (· ∈ NMs) := N.ch C2 (by simpa using hl)
  have m2 : h2[m]? = some (.lst ms) := C2.keep _ _ (by simpa using hmp) hm
  -- the signs and "any"
  have h2a : ((h2 ++ [.lst [D.str "any"]]) ++ [.lst (ss.map D.str ++ [D.str "any"])]) = h2 ++ [.lst [D.str "any"]] ++ [.lst ((ss ++ [("any" : Str)]).map D.str)] := by simp
  have el : ((h2 ++ [MO.lst [D.str "any"]]) ++ [MO.lst ((ss ++ [("any" : Str)]).map D.str)])[(h2 ++ [MO.lst [D.str "any"]]).length]? = some (.lst ((ss ++ [("any" : Str)]).map D.str)) := get_new _ _
  have hpl : p < h2.length := P2.lt
  obtain ⟨e', h3, e3, d9', d10', rfl, P3, C3, rows, r3, rl, ro⟩ := loopF_run (src := .lst (.loc (h2 ++ [MO.lst [D.str "any"]]).length)) (tg := .nm 9) (body := Pg.b_law_book_1) (ds := (ss ++ [("any" : Str)]).map D.str)
    (Pv := fun i e h' => ∃ d9 d10, e = [some (.loc p), some (.loc l1), some (.loc m), d3, some (.loc s4), some (.str nm), some (.str col), some (.loc h1.length), some (.tup en), d9, d10] ∧ Pot h' p (T + 3 + 4 * i) ∧
      Ch [p, h1.length] ((h2 ++ [.lst [D.str "any"]]) ++ [.lst ((ss ++ [("any" : Str)]).map D.str)]) h' ∧ ∃ rows, h'[h1.length]? = some (.lst rows) ∧ rows.length ≤ i ∧ ∀ r ∈ rows, RowOk r)
    (fun i e h' ⟨_, _, _, _, C, _⟩ => get_lst (C.keep _ _ (by
      have := lt_of_get o2
      simp
      omega) el) i)
    (fun i e h' d ⟨d9, d10, ee, Pq, C, rows, r, rl, ro⟩ hd => by
      subst ee
      obtain ⟨hi, rfl⟩ := List.getElem?_eq_some_iff.mp hd
      have hi2 : i < ss.length + 1 := by simpa using hi
      have hsg := List.getElem_mem (l := ss ++ [("any" : Str)]) (n := i) (by simpa using hi)
      obtain ⟨d10', h'', e, Pn, Cn, rows', r', hr'⟩ := inner_step (sg := (ss ++ [("any" : Str)])[i]'(by simpa using hi)) (d2 := some (.loc m)) (d3 := d3) (d4 := some (.loc s4)) (d5 := some (.str nm)) (d6 := some (.str col)) (d8 := some (.tup en)) (d10 := d10) Pq (by omega)
        ((N2.app (l' := [MO.lst [D.str "any"]])).app.ch C (by
          have := N.lt
          have := C1.le
          simp
          omega)) hl r (by omega) (by omega)
      refine ⟨_, rfl, _, h'', .inl ?_, some (.str ((ss ++ [("any" : Str)])[i]'(by simpa using hi))), d10', rfl, Pn.mono (by omega), C.trans Cn, rows', r', ?_, ?_⟩
      · simp only [List.getElem_map, List.set]; exact e
      · rcases hr' with rfl | ⟨_, _, rfl⟩
        · omega
        · simp; omega
      · rcases hr' with rfl | ⟨sh, dd, rfl⟩
        · exact ro
        · intro x hx
          rcases List.mem_append.mp hx with hx | hx
          · exact ro x hx
          · rw [List.mem_singleton.mp hx]
            refine ⟨_, _, _, rfl, ?_⟩
            rcases List.mem_append.mp hsg with q | q
            · exact .inl (GS _ q)
            · exact .inr (List.mem_singleton.mp q))
    ((ss ++ [("any" : Str)]).map D.str).length (((ss ++ [("any" : Str)]).map D.str).length + 1) 0 [some (.loc p), some (.loc l1), some (.loc m), d3, some (.loc s4), some (.str nm), some (.str col), some (.loc h1.length), some (.tup en), d9, d10]
    _ (by simp) (by omega) ⟨d9, d10, rfl, P2.app.app.mono (by omega), Ch.refl, [], get_app (get_app o2), by simp, by simp⟩
  have m3 : h3[m]? = some (.lst ms) := C3.keep _ _ (by simp; omega) (get_app (get_app m2))
  have sl : ms.length < sizeLine := Nat.lt_trans hm2 (by decide)
  have sg4 : ss.length + 1 ≤ sizeLine := Nat.le_trans (show ss.length + 1 ≤ 4 by omega) (by decide)
  have rl4 : rows.length ≤ 4 := by simp at rl; omega
  refine ⟨some (.str col), some (.loc h1.length), some (.tup en), d9', d10', h3.set m (.lst (ms ++ [.tup [.str nm, .str col, .tup en, .loc h1.length]])), ?_, ?_, ?_, _, get_set m3, nm, _, _, _, rows, rfl, hnm, by simp; omega, ?_, rl4, ro⟩
  · simp only [List.map_append, List.map_cons, List.map_nil, List.append_assoc, List.cons_append, List.nil_append, List.length_append, List.length_map, List.length_cons, List.length_nil, Nat.zero_add] at e1 e2 e3
    have gG : (h2 ++ [MO.lst [D.str "any"]])[s4]? = some (.lst (ss.map D.str)) := get_app eG
    have ga : (h2 ++ [MO.lst [D.str "any"]])[h2.length]? = some (.lst [D.str "any"]) := get_new _ _
    have gb : (h2 ++ [MO.lst [D.str "any"], MO.lst (ss.map D.str ++ [D.str "any"])])[h2.length + 1]? = some (.lst (ss.map D.str ++ [D.str "any"])) := by simp
    have fu := fuel_lst gb
    simp only [List.length_append, List.length_map, List.length_cons, List.length_nil, Nat.zero_add] at fu
    simp [Pg.b_law_book_2, of_e, s0, s1, s3, s4', s5, e1, e2, e3, gG, ga, sg4, m3, fAppend, tyM, sl, gb, fu]
  · refine (P3.set hmp).mono ?_
    simp
    omega
  · have C4 : Ch [p, h1.length] h h3 := ((C2.more (fun i hi => by simp at hi; simp [hi])).trans (Ch.app.trans Ch.app)).trans C3
    have C5 : Ch [p, m] h h3 := C4.more (fun i hi => by
      simp at hi
      rcases hi with rfl | rfl
      · simp
      · exact .inr C1.le)
    exact C5.trans (Ch.set (by simp))
  · rw [List.getElem?_set_ne (by omega)]; exact r3
end MP
set_option Elab.async false
set_option linter.all false
set_option maxRecDepth 100000
set_option maxHeartbeats 2000000
namespace MP
open PySem PySem.Spec L2
theorem sl3 {h : MH} {p : Nat} {T : Int} (P : Pot h p T) (hT : T < 800000) (a b c : Str) (env : Env) (he : env[0]? = some (some (.loc p))) :
    ∃ l h', mSl (mLst (aCons (mC (.str a)) (aCons (mC (.str b)) (aCons (mC (.str c)) aNil)))) oNone (oSome (mBin fAdd (mC (.int 1)) (mCall 2 Pg.F_law_take (aCons (mVar 0) (aCons (mC (.int 3)) aNil))))) env h = .ok (.loc l) h' ∧
      StL 3 h' l (· ∈ [a, b, c]) ∧ h.length ≤ l ∧ Pot h' p (T + 1) ∧ Fr p h h' := by
  have s3 : 3 ≤ sizeLine := by decide
  have P0 : Pot (h ++ [.lst [.str a, .str b, .str c]]) p T := P.app
  obtain ⟨d, h1, e1, d0, d1, P1, F1⟩ := take_ok P0 (by omega) (by decide : (0 : Int) < 3) (by decide)
  have g1 : h1[h.length]? = some (.lst [.str a, .str b, .str c]) := F1.keep _ _ (Nat.ne_of_gt P.lt) (get_new _ _)
  have gl : lstOf h1 (.loc h.length) = some [.str a, .str b, .str c] := by rw [lstOf_L, g1]
  have hd : d = 0 ∨ d = 1 ∨ d = 2 := by omega
  have L : h.length ≤ h1.length := Nat.le_trans (by simp) F1.le
  have C : Fr p h h1 := Fr.app.trans F1
  rcases hd with rfl | rfl | rfl
  · refine ⟨h1.length, h1 ++ [.lst [.str a]], ?_, ⟨[a], get_new _ _, by simp, by simp, by simp⟩, L, P1.app, C.trans Fr.app⟩
    simp [s3, he, take_e, e1, fSl, g1]
    rfl
  · refine ⟨h1.length, h1 ++ [.lst [.str a, .str b]], ?_, ⟨[a, b], get_new _ _, by simp, by simp, by simp⟩, L, P1.app, C.trans Fr.app⟩
    simp [s3, he, take_e, e1, fSl, g1]
    rfl
  · refine ⟨h1.length, h1 ++ [.lst [.str a, .str b, .str c]], ?_, ⟨[a, b, c], get_new _ _, by simp, by simp, by simp⟩, L, P1.app, C.trans Fr.app⟩
    simp [s3, he, take_e, e1, fSl, g1]
    rfl
def Bk (h : MH) (p b : Nat) : Prop := ∃ m dep ms, b ≠ p ∧ m ≠ p ∧ h[b]? = some (.dic [(.inr "depth", dep), (.inr "modes", .loc m)]) ∧ h[m]? = some (.lst ms) ∧ 0 < ms.length ∧ ms.length ≤ 3 ∧ ∀ md ∈ ms, MdOk [p] h md
theorem Bk.fr {h h' : MH} {p b : Nat} (q : Bk h p b) (f : Fr p h h') : Bk h' p b := by
  obtain ⟨m, dep, ms, a, c, d, e, r, s, t⟩ := q
  exact ⟨m, dep, ms, a, c, f.keep _ _ a d, f.keep _ _ c e, r, s, fun md hm => (t md hm).ch (f.ch (by simp))⟩
theorem book_ok {h : MH} {p : Nat} {T : Int} (P : Pot h p T) (hT : T < 600000) :
    ∃ b h', Pg.F_law_book [.loc p] h = .ok (.loc b) h' ∧ Bk h' p b ∧ Pot h' p (T + 70) ∧ Fr p h h' := by
  have s0 : 0 ≤ sizeLine := by decide
  have s3 : 3 ≤ sizeLine := by decide
  obtain ⟨l1, h1, e1, N1, L1, P1, F1⟩ := sl3 P (by omega) "a" "b" "c" [some (.loc p), none, none, none, none, none, none, none, none, none, none] rfl
  have P1a : Pot ((h1 ++ [.lst []]) ++ [.lst [D.int 2, .int 2, .int 1]]) p (T + 1) := P1.app.app
  obtain ⟨dep, h2, e2, -, P2, F2⟩ := of_ok P1a (by omega) (get_new _ _) (by have := P1.lt; simp; omega) (by simp) (by simp)
  obtain ⟨l4, h3, e3, N3, L3, P3, F3⟩ := sl3 P2 (by omega) "!" "a" " " [some (.loc p), some (.loc l1), some (.loc h1.length), none, none, none, none, none, none, none, none] rfl
  have F2' : Fr p h1 h3 := ((Fr.app.trans Fr.app).trans F2).trans F3
  have hp := P.lt
  have hp1 := P1.lt
  have l1p : l1 ≠ p := by omega
  have N3' : StL 3 h3 l1 (· ∈ NMs) := N1.fr F2' l1p
  have m3 : h3[h1.length]? = some (.lst []) := F3.keep _ _ (by omega) (F2.keep _ _ (by omega) (get_app (get_new _ _)))
  have l1l := N1.lt
  have l2 := F2.le
  simp at l2
  obtain ⟨nn, en, n0, n1, nS⟩ := N3'.ex
  obtain ⟨e', h4, e4, d5, d6, d7, d8, d9, d10, rfl, P4, C4, ms, m4, ml, mo⟩ := loopF_run (src := .lst (.loc l1)) (tg := .nm 5) (body := Pg.b_law_book_2) (ds := nn.map D.str)
    (Pv := fun i e h' => ∃ d5 d6 d7 d8 d9 d10, e = [some (.loc p), some (.loc l1), some (.loc h1.length), some dep, some (.loc l4), d5, d6, d7, d8, d9, d10] ∧ Pot h' p (T + 3 + 20 * i) ∧
      Ch [p, h1.length] h3 h' ∧ ∃ ms, h'[h1.length]? = some (.lst ms) ∧ ms.length = i ∧ ∀ md ∈ ms, MdOk [p, h1.length] h' md)
    (fun i e h' ⟨_, _, _, _, _, _, _, _, C, _⟩ => get_lst (C.keep _ _ (by simp; omega) en) i)
    (fun i e h' d ⟨d5, d6, d7, d8, d9, d10, ee, Pq, C, ms, m, ml, mo⟩ hd => by
      subst ee
      obtain ⟨hi, rfl⟩ := List.getElem?_eq_some_iff.mp hd
      have hi2 : i < nn.length := by simpa using hi
      obtain ⟨d6', d7', d8', d9', d10', h'', e, Pn, Cn, md, m', mo'⟩ := outer_step (nm := nn[i]) (d3 := some dep) (d6 := d6) (d7 := d7) (d8 := d8) (d9 := d9) (d10 := d10) Pq (by omega) ((N3'.up (by decide)).ch C (by simp; omega)) l1p (by omega) m (by omega) (by omega) (N3.ch C (by simp; omega)) (by omega) (by omega) (nS _ (List.getElem_mem hi2))
      refine ⟨_, rfl, _, h'', .inl ?_, some (.str nn[i]), d6', d7', d8', d9', d10', rfl, Pn.mono (by omega), C.trans Cn, _, m', by simp [ml], ?_⟩
      · simp only [List.getElem_map, List.set]; exact e
      · intro x hx
        rcases List.mem_append.mp hx with hx | hx
        · exact (mo x hx).ch Cn
        · rw [List.mem_singleton.mp hx]; exact mo')
    (nn.map D.str).length ((nn.map D.str).length + 1) 0 [some (.loc p), some (.loc l1), some (.loc h1.length), some dep, some (.loc l4), none, none, none, none, none, none]
    h3 (by simp) (by omega) ⟨_, _, _, _, _, _, rfl, P3.mono (by omega), Ch.refl, [], m3, rfl, by simp⟩
  have fu := fuel_lst en
  have C5 : Fr p h1 h4 := (F2'.ch (c := [p, h1.length]) (by simp)).trans C4 |>.fr (by simp)
  refine ⟨h4.length, h4 ++ [.dic [(.inr "depth", dep), (.inr "modes", .loc h1.length)]], ?_, ⟨h1.length, dep, ms, ?_, ?_, get_new _ _, get_app m4, by simp at ml; omega, by simp at ml; omega, ?_⟩, (P4.app).mono (by simp; omega), (F1.trans C5).trans Fr.app⟩
  · simp only [List.length_map] at e4 fu
    simp only [List.append_assoc, List.cons_append, List.nil_append, List.length_append, List.length_cons, List.length_nil, Nat.zero_add] at e2
    have dm : dMerge [] [((.inr "depth" : Key), dep), (.inr "modes", .loc h1.length)] = [(.inr "depth", dep), (.inr "modes", .loc h1.length)] := by
      simp [dMerge, dPut]
      decide
    simp only [Pg.F_law_book, Pg.b_law_book, e_denF, e_startE, List.map_cons, List.map_nil, List.length_cons, List.length_nil]
    rw [show [some (D.loc p)] ++ List.replicate (11 - (0 + 1)) none = [some (D.loc p), none, none, none, none, none, none, none, none, none, none] from rfl]
    rw [e_sSeq, e_sPar, e1]
    simp [s0, s3, of_e, e2, -e_mSl]
    rw [e3]
    simp [en, fu, e4, mDisp, dPairs, keysOf, kD, dm]
  · have := P4.lt; omega
  · omega
  · intro md hm
    obtain ⟨nm, col, e, o, rows, a, b, d, r⟩ := (mo md hm).ch (Ch.app (l := [.dic [(.inr "depth", dep), (.inr "modes", .loc h1.length)]]))
    exact ⟨nm, col, e, o, rows, a, b, fun z => d (by simp at z; simp [z]), r⟩
end MP
set_option Elab.async false
set_option linter.all false
set_option maxRecDepth 100000
set_option maxHeartbeats 2000000
namespace MP
open PySem PySem.Spec L2
theorem pairsOf_map (ss : List Str) : pairsOf (ss.map fun s => D.tup [.str s, .bl true]) = some (ss.map fun s => ((.inr s : Key), D.bl true)) := by
  induction ss with
  | nil => rfl
  | cons s r ih => simp [pairsOf, ih, kD]
theorem strsOf_tups (ss : List Str) (h0 : 0 < ss.length) : strsOf (ss.map fun s => D.tup [.str s, .bl true]) = none := by
  cases ss with
  | nil => simp at h0
  | cons s r => rfl
theorem SG_any {sg : Str} (h : sg ∈ SGs ∨ sg = ("any" : Str)) : (sg = ("any" : Str) ∧ sg ∉ SGs) ∨ (sg ≠ ("any" : Str) ∧ sg ∈ SGs) := by
  rcases h with h | h
  · right
    refine ⟨?_, h⟩
    rintro rfl
    exact absurd h (by decide)
  · left
    subst h
    exact ⟨rfl, by decide⟩
theorem signs_step {h : MH} {b f o : Nat} {d2 d3 d4 d6 : Option D} {rows : List D} {ks : List (Key × D)} (ho : h[o]? = some (.lst rows)) (hf : h[f]? = some (.dic ks)) (hr : rows.length ≤ 4) (hrow : ∀ r ∈ rows, RowOk r)
    (hk : ks.length ≤ 100) (hks : ∀ kv ∈ ks, ∃ s, kv.1 = .inr s ∧ s ∈ SGs) :
    ∃ h' ks', Pg.b_law_signs_3 [some (.loc b), some (.loc f), d2, d3, d4, some (.loc o), d6] h = .nx [some (.loc b), some (.loc f), d2, d3, d4, some (.loc o), d6] h' ∧ Ch [f] h h' ∧ h'[f]? = some (.dic ks') ∧ ks'.length ≤ ks.length + 4 ∧ ∀ kv ∈ ks', ∃ s, kv.1 = .inr s ∧ s ∈ SGs := by
  have s2 : 2 ≤ sizeLine := by decide
  obtain ⟨acc, h1, e1, rfl, ss, rfl, sl, sS⟩ := loopC_run (src := .lst (.loc o)) (tg := .nm 6) (cond := Pg.c_law_signs_2) (elt := Pg.m_law_signs_1) (e0 := [some (.loc b), some (.loc f), d2, d3, d4, some (.loc o), none]) (ds := rows)
    (Pv := fun i acc h' => h' = h ∧ ∃ ss : List Str, acc = (ss.map fun s => D.tup [.str s, .bl true]) ∧ ss.length ≤ i ∧ ∀ s ∈ ss, s ∈ SGs)
    (fun i acc h' z => by rw [z.1]; exact get_lst ho i)
    (fun i acc h' d ⟨eh, ss, ea, sl, sS⟩ hd => by
      subst eh ea
      obtain ⟨hi, rfl⟩ := List.getElem?_eq_some_iff.mp hd
      obtain ⟨sg, sh, dd, er, hs⟩ := hrow _ (List.getElem_mem hi)
      refine ⟨_, rfl, !decide (sg = ("any" : Str)), h', ?_, fun hb => ?_, fun hb => ⟨rfl, ss, rfl, by omega, sS⟩⟩
      · rw [er]; simp [Pg.c_law_signs_2]
      · have hs' : sg ∈ SGs := by
          rcases SG_any hs with ⟨q, _⟩ | ⟨_, q⟩
          · simp [q] at hb
          · exact q
        refine ⟨.tup [.str sg, .bl true], h', ?_, ?_, rfl, ss ++ [sg], by simp, by simp; omega, ?_⟩
        · rw [er]; simp [Pg.m_law_signs_1, s2]
        · have : (4 : Nat) < sizeLine := by decide
          simp; omega
        · intro x hx
          rcases List.mem_append.mp hx with hx | hx
          · exact sS x hx
          · rw [List.mem_singleton.mp hx]; exact hs')
    rows.length (rows.length + 1) 0 [] h (by simp) (by omega) ⟨rfl, [], rfl, by simp, by simp⟩
  have fl := lt_of_get hf
  have fu := fuel_lst ho
  obtain ⟨ts, ets⟩ : ∃ ts, ts = (ss.map fun s => D.tup [.str s, .bl true]) := ⟨_, rfl⟩
  have ep := pairsOf_map ss
  rw [← ets] at e1 ep
  have ml := dMerge_len (ss.map fun s => ((.inr s : Key), D.bl true)) []
  have mk := dMerge_key (Pk := fun k => ∃ s, k = .inr s ∧ s ∈ SGs) (ss.map fun s => ((.inr s : Key), D.bl true)) [] (by simp) (by simp; exact sS)
  obtain ⟨ls, els⟩ : ∃ ls, ls = dMerge [] (ss.map fun s => ((.inr s : Key), D.bl true)) := ⟨_, rfl⟩
  rw [← els] at ml mk
  simp at ml
  have m2 := dMerge_len ls ks
  have m3 := dMerge_key (Pk := fun k => ∃ s, k = .inr s ∧ s ∈ SGs) ls ks hks mk
  have gs : (h1 ++ [MO.lst ts])[h1.length]? = some (.lst ts) := get_new _ _
  have gd : (h1 ++ [MO.lst ts, MO.dic ls])[h1.length + 1]? = some (.dic ls) := by simp
  have gf : (h1 ++ [MO.lst ts, MO.dic ls])[f]? = some (.dic ks) := get_app hf
  have nf : ¬ f = h1.length + 1 := by omega
  have szl : ks.length + ls.length ≤ sizeLine := Nat.le_trans (show _ ≤ 200 by omega) (by decide)
  refine ⟨(h1 ++ [MO.lst ts, MO.dic ls]).set f (.dic (dMerge ks ls)), dMerge ks ls, ?_, Ch.app.trans (Ch.set (by simp)), get_set gf, by omega, m3⟩
  simp [Pg.b_law_signs_3, ho, fu, wipeE, e1, bDict, gs, ep, ← els, fUpdate, gf, nf, szl, tyM, hf]
def LNs : List Str := ["!", "a", " ", "z"]
theorem signs_ok {h : MH} {p b : Nat} (B : Bk h p b) : ∃ l h', Pg.F_law_signs [.loc b] h = .ok (.loc l) h' ∧ Gr h h' ∧ StL 100 h' l (· ∈ LNs) ∧ h.length ≤ l := by
  obtain ⟨m, dep, ms, hb, hm, eb, em, m0, m1, mo⟩ := B
  have s1 : 1 ≤ sizeLine := by decide
  obtain ⟨e', h2, e2, d2, d3, d4, d5, rfl, G2, ks, kf, kl, kS⟩ := loopF_run (src := .lst (.loc m)) (tg := .tp [2, 3, 4, 5]) (body := Pg.b_law_signs_3) (ds := ms)
    (Pv := fun i e h' => ∃ d2 d3 d4 d5, e = [some (.loc b), some (.loc h.length), d2, d3, d4, d5, none] ∧ Gr h h' ∧ ∃ ks, h'[h.length]? = some (.dic ks) ∧ ks.length ≤ 4 * i ∧ ∀ kv ∈ ks, ∃ s, kv.1 = .inr s ∧ s ∈ SGs)
    (fun i e h' ⟨_, _, _, _, _, G, _⟩ => get_lst (G.keep _ _ em) i)
    (fun i e h' d ⟨d2, d3, d4, d5, ee, G, ks, kf, kl, kS⟩ hd => by
      subst ee
      obtain ⟨hi, rfl⟩ := List.getElem?_eq_some_iff.mp hd
      obtain ⟨nm, col, en, o, rows, er, _, _, eo, rl, ro⟩ := mo _ (List.getElem_mem hi)
      obtain ⟨h'', ks', e1, C1, k1, k2, k3⟩ := signs_step (b := b) (d2 := some (.str nm)) (d3 := some col) (d4 := some en) (d6 := none) (G.keep _ _ eo) kf rl ro (by omega) kS
      refine ⟨_, by rw [er]; rfl, _, h'', .inl e1, _, _, _, _, rfl, ((G.ch (c := [h.length])).trans C1).gr (by simp), ks', k1, by omega, k3⟩)
    ms.length (ms.length + 1) 0 [some (.loc b), some (.loc h.length), none, none, none, none, none] (h ++ [.dic []]) (by simp) (by omega) ⟨_, _, _, _, rfl, Gr.app, [], get_new _ _, by simp, by simp⟩
  have fu := fuel_lst (get_app (l := [.dic []]) em)
  obtain ⟨ss, es, sl, sS⟩ := keyStrs_all kS
  have s64 : ss.length < 64 := by omega
  have lst0 : lstOf h2 (.loc h.length) = none := by rw [lstOf_L, kf]
  have em' : (h ++ [MO.dic []])[m]? = some (.lst ms) := get_app em
  have eb' : (h ++ [MO.dic []])[b]? = some (.dic [(.inr "depth", dep), (.inr "modes", .loc m)]) := get_app eb
  have dg : dGet [((.inr "depth" : Key), dep), (.inr "modes", .loc m)] (.inr "modes") = some (.loc m) := rfl
  have ga : (h2 ++ [MO.lst ((srt ss).map D.str), MO.lst [D.str "z"]])[h2.length]? = some (.lst ((srt ss).map D.str)) := by simp
  have gb : (h2 ++ [MO.lst ((srt ss).map D.str), MO.lst [D.str "z"]])[h2.length + 1]? = some (.lst [D.str "z"]) := by simp
  have lsr : (srt ss).length = ss.length := (srt_perm ss).length_eq
  have szz : ss.length + 1 ≤ sizeLine := Nat.le_trans (show _ ≤ 64 by omega) (by decide)
  refine ⟨h2.length + 2, ((h2 ++ [.lst ((srt ss).map D.str)]) ++ [.lst [.str "z"]]) ++ [.lst ((srt ss ++ [("z" : Str)]).map D.str)], ?_, ((G2.trans Gr.app).trans Gr.app).trans Gr.app, ⟨srt ss ++ [("z" : Str)], by simp, by simp, by simp [lsr]; omega, ?_⟩, by have := G2.le; omega⟩
  · simp [Pg.F_law_signs, Pg.b_law_signs, fDGet, dLook, eb', kD, dg, em', fu, e2, bSorted, kf, es, s64, s1, ga, gb, lsr, szz]
  · intro x hx
    rcases List.mem_append.mp hx with hx | hx
    · have := sS x (mem_srt.mp hx)
      revert this; clear hx
      unfold SGs LNs
      simp
      rintro (rfl | rfl | rfl) <;> simp
    · rw [List.mem_singleton.mp hx]; decide

theorem f_join {h : MH} {d : D} {ss : List Str} (a : Str) (g : seqOf h d = some (ss.map D.str)) (hl : (ss.map Str.length).sum + ss.length * a.length ≤ 16777216) : fJoin (.str a) [d] h = .ok (.str (Txt.join a ss)) h := by
  show (match (seqOf h d).bind strsOf with
    | some ys => if (ys.map Str.length).sum + ys.length * a.length ≤ 16777216 then R.ok (D.str (Txt.join a ys)) h else .no
    | none => .no) = _
  rw [g]
  show (match strsOf (ss.map D.str) with
    | some ys => if (ys.map Str.length).sum + ys.length * a.length ≤ 16777216 then R.ok (D.str (Txt.join a ys)) h else .no
    | none => .no) = _
  rw [strsOf_map]
  exact if_pos hl
theorem seq_lst {h : MH} {n : Nat} {ds : List D} (e : h[n]? = some (.lst ds)) : seqOf h (.loc n) = some ds := by
  unfold seqOf; rw [lstOf_L, e]
theorem tl_joinL {S : List Nat} {c : Nat} : ∀ {parts : List (List Nat)}, c ∈ TL.joinL S parts → c ∈ S ∨ ∃ p ∈ parts, c ∈ p
  | [], h => by simp [TL.joinL] at h
  | [p], h => .inr ⟨p, by simp, h⟩
  | p :: q :: r, h => by
    have h' : c ∈ p ++ (S ++ TL.joinL S (q :: r)) := h
    rcases List.mem_append.mp h' with h | h
    · exact .inr ⟨p, by simp, h⟩
    · rcases List.mem_append.mp h with h | h
      · exact .inl h
      · rcases tl_joinL h with h | ⟨x, hx, h⟩
        · exact .inl h
        · exact .inr ⟨x, by simp at hx ⊢; right; exact hx, h⟩
theorem len_joinL : ∀ (parts : List (List Nat)), (TL.joinL [] parts).length = (parts.map List.length).sum
  | [] => rfl
  | [p] => by simp [TL.joinL]
  | p :: q :: r => by
    have := len_joinL (q :: r)
    show (p ++ ([] ++ TL.joinL [] (q :: r))).length = _
    rw [List.nil_append, List.length_append, this]
    simp
def LCs : List Nat := [33, 97, 32, 122]
def LineOk (s : Str) : Prop := s.cps.size ≤ 5 ∧ ∀ c ∈ s.cps.toList, c ∈ LCs
theorem LN_one {s : Str} (h : s ∈ LNs) : s.cps.toList.length = 1 ∧ ∀ c ∈ s.cps.toList, c ∈ LCs := by
  unfold LNs at h
  simp at h
  rcases h with rfl | rfl | rfl | rfl <;> decide
theorem line_ok {h : MH} {p b : Nat} {T : Int} (P : Pot h p T) (hT : T < 700000) (B : Bk h p b) :
    ∃ s h', Pg.F_law_line [.loc p, .loc b, .int 5] h = .ok (.str s) h' ∧ LineOk s ∧ Pot h' p (T + 6) ∧ Fr p h h' := by
  obtain ⟨d, h1, e1, d0, d1, P1, F1⟩ := take_ok P (by omega) (by decide : (0 : Int) < 6) (by decide)
  obtain ⟨n, rfl⟩ : ∃ n : Nat, d = (n : Int) := ⟨d.toNat, by omega⟩
  have hn : n < 6 := by omega
  obtain ⟨acc, h2, e2, ss, rfl, sl, sS, P2, F2⟩ := loopC_run (src := .rng 0 n) (tg := .nm 3) (cond := bYes) (elt := Pg.m_law_line_1) (e0 := [some (.loc p), some (.loc b), some (.int 5), none]) (ds := (List.range n).map fun (j : Nat) => D.int (0 + (j : Int)))
    (Pv := fun i acc h' => ∃ ss : List Str, acc = ss.map D.str ∧ ss.length = i ∧ (∀ s ∈ ss, s ∈ LNs) ∧ Pot h' p (T + 1 + i) ∧ Fr p h1 h')
    (fun i acc h' _ => get_rng 0 n h' i)
    (fun i acc h' d ⟨ss, ea, sl, sS, Pq, F⟩ hd => by
      subst ea
      have hi : i < n := by simpa using (List.getElem?_eq_some_iff.mp hd).1
      obtain ⟨l, h3, e3, G3, S3, L3⟩ := signs_ok ((B.fr F1).fr F)
      obtain ⟨s, h4, e4, hs, P4, F4⟩ := of_str (G3.pot Pq) (by omega) S3 (by have := Pq.lt; omega) (by decide)
      refine ⟨_, rfl, true, h', rfl, fun _ => ⟨.str s, h4, ?_, ?_, ss ++ [s], by simp, by simp [sl], ?_, P4.mono (by omega), F.trans ((G3.fr p).trans F4)⟩, fun z => by cases z⟩
      · simp [Pg.m_law_line_1, of_e, e3, e4]
      · have : (10 : Nat) < sizeLine := by decide
        simp; omega
      · intro x hx
        rcases List.mem_append.mp hx with hx | hx
        · exact sS x hx
        · rw [List.mem_singleton.mp hx]; exact hs)
    ((List.range n).map fun (j : Nat) => D.int (0 + (j : Int))).length (n + 1) 0 [] h1 (by simp) (by simp) ⟨[], rfl, rfl, by simp, by simpa using P1, Fr.refl⟩
  simp at sl
  have tls : TL.tl (Txt.join ("" : Str) ss) = TL.joinL [] (ss.map TL.tl) := by rw [TL.join_eq, TL.tl_join]; rfl
  have l1 : ∀ x ∈ ss.map TL.tl, x.length = 1 := by
    intro x hx
    obtain ⟨s, hs, rfl⟩ := List.mem_map.mp hx
    exact (LN_one (sS s hs)).1
  have lsum : ∀ l : List (List Nat), (∀ x ∈ l, x.length = 1) → (l.map List.length).sum = l.length := by
    intro l
    induction l with
    | nil => intro _; rfl
    | cons a r ih => intro hh; simp only [List.map_cons, List.sum_cons, hh a (by simp), ih (fun x hx => hh x (by simp [hx]))]; simp; omega
  refine ⟨Txt.join "" ss, h2 ++ [.lst (ss.map D.str)], ?_, ⟨?_, ?_⟩, P2.app.mono (by simp; omega), (F1.trans F2).trans Fr.app⟩
  · skip
    have g : (h2 ++ [MO.lst (ss.map D.str)])[h2.length]? = some (.lst (ss.map D.str)) := get_new _ _
    have sm : (ss.map Str.length).sum + ss.length * ("" : Str).length ≤ 16777216 := by
      have : (ss.map Str.length).sum = ss.length := by
        have := lsum (ss.map TL.tl) l1
        rw [List.length_map, List.map_map] at this
        rw [← this]
        congr 1
      rw [this]
      have : ("" : Str).length = 0 := rfl
      rw [this]
      omega
    have r2 : CRng (n : Int) := CRng.ok (by omega) (by omega)
    have fr : Src.fuel h1 (Src.rng 0 n) = n + 1 := rfl
    have fj := f_join ("" : Str) (seq_lst g) sm
    simp [Pg.F_law_line, Pg.b_law_line, take_e, e1, tyM, wipeE, r2, fr, e2, fj]
  · have : (TL.tl (Txt.join ("" : Str) ss)).length ≤ 5 := by
      rw [tls, len_joinL, lsum _ l1]; simp; omega
    simpa using this
  · intro c hc
    have hc' : c ∈ TL.tl (Txt.join ("" : Str) ss) := hc
    rw [tls] at hc'
    rcases tl_joinL hc' with q | ⟨x, hx, hcx⟩
    · cases q
    · obtain ⟨s, hs, rfl⟩ := List.mem_map.mp hx
      exact (LN_one (sS s hs)).2 c hcx
end MP
set_option Elab.async false
set_option linter.all false
set_option maxRecDepth 100000
set_option maxHeartbeats 2000000
namespace MP
open PySem PySem.Spec L2
theorem loopC_gr {src : Src} {tg : Tg} {elt : M} {e0 : Env} {ds : List D} {h : MH} (g : D → D) (hget : ∀ h', Gr h h' → ∀ i, src.get h' i = some ds[i]?)
    (hstep : ∀ d ∈ ds, ∀ h', Gr h h' → ∃ e1, tg.put d e0 = some e1 ∧ ∃ h2, elt e1 h' = .ok (g d) h2 ∧ Gr h' h2) (hl : ds.length ≤ sizeLine) :
    ∃ h2, loopC src tg bYes elt e0 (ds.length + 1) 0 [] h = .ok (ds.map g) h2 ∧ Gr h h2 := by
  obtain ⟨acc, h', e, q1, q2⟩ := loopC_run (src := src) (tg := tg) (cond := bYes) (elt := elt) (e0 := e0) (ds := ds) (Pv := fun i acc h' => Gr h h' ∧ acc = (ds.take i).map g)
    (fun i acc h' z => hget h' z.1 i)
    (fun i acc h' d z hd => by
      obtain ⟨G, rfl⟩ := z
      obtain ⟨hi, rfl⟩ := List.getElem?_eq_some_iff.mp hd
      obtain ⟨e1, q1, h2, q2, G2⟩ := hstep _ (List.getElem_mem hi) h' G
      refine ⟨e1, q1, true, h', rfl, fun _ => ⟨_, h2, q2, by simp; omega, G.trans G2, ?_⟩, fun z => by cases z⟩
      rw [List.take_add_one, List.map_append, List.getElem?_eq_getElem hi]
      rfl)
    ds.length (ds.length + 1) 0 [] h (by simp) (by omega) ⟨Gr.refl, by simp⟩
  exact ⟨h', by rw [e, q2]; simp, q1⟩
theorem f_all {h : MH} {n : Nat} {ds : List D} (e : h[n]? = some (.lst (ds.map fun _ => D.bl true))) : bAll [.loc n] h = .ok (.bl true) h := by
  show (match (lstOf h (.loc n)).bind boolsOf with
    | some bs => R.ok (D.bl (bs.all id)) h
    | none => .no) = _
  rw [lstOf_L, e]
  show (match boolsOf (ds.map fun _ => D.bl true) with
    | some bs => R.ok (D.bl (bs.all id)) h
    | none => .no) = _
  rw [show (ds.map fun _ => D.bl true) = (ds.map fun _ => true).map D.bl from by simp, boolsOf_map]
  simp
theorem isi_str (s : Str) (h : MH) : bIsi [.str s, .ty "str"] h = .ok (.bl true) h := rfl
theorem isn_non (h : MH) : fIsN .non .non h = .ok (.bl true) h := rfl
theorem isn_tup (ds : List D) (h : MH) : fIsN (.tup ds) .non h = .ok (.bl false) h := rfl
theorem f_inSg (c : Nat) (z : Str) (h : MH) : fIn (.str ⟨#[c]⟩) (.str z) h = .ok (.bl (decide (c ∈ z.cps.toList))) h := rfl
theorem get_tup (ds : List D) (h : MH) (i : Nat) : (Src.tup ds).get h i = some ds[i]? := rfl
/-! ### names -/
def NameOk (s : Str) : Prop := 1 ≤ s.length ∧ s.length ≤ 8 ∧ ∀ c ∈ s.cps.toList, c ∈ Pg.c_LETTERS.cps.toList
theorem is_name_ok {s : Str} (hs : NameOk s) (h : MH) : ∃ h', Pg.F_is_name [.str s] h = .ok (.bl true) h' ∧ Gr h h' := by
  obtain ⟨h1, h8, hc⟩ := hs
  have sl : s.length ≤ sizeLine := Nat.le_trans h8 (by decide)
  have hcs : s.cps.toList.length = s.length := by simp [Str.length]
  obtain ⟨h2, e2, G2⟩ := loopC_gr (src := .str s) (tg := .nm 1) (elt := Pg.m_is_name_1) (e0 := [some (.str s), none]) (ds := s.cps.toList.map fun c => D.str ⟨#[c]⟩) (h := h) (fun _ => .bl true)
    (fun h' _ i => get_str s h' i)
    (fun d hd h' _ => by
      obtain ⟨c, hm, rfl⟩ := List.mem_map.mp hd
      refine ⟨_, rfl, h', ?_, Gr.refl⟩
      simp [Pg.m_is_name_1, f_inSg]
      exact by simpa using hc c hm)
    (by simp only [List.length_map, hcs]; exact sl)
  have fu : Src.fuel h (.str s) = (s.cps.toList.map fun c => D.str ⟨#[c]⟩).length + 1 := by simp [Src.fuel]
  rw [← fu] at e2
  have c1 : (1 : Int) ≤ s.length := by omega
  have c2 : (s.length : Int) ≤ 8 := by omega
  have fa := f_all (get_new h2 (.lst ((s.cps.toList.map fun c => D.str ⟨#[c]⟩).map fun _ => D.bl true)))
  refine ⟨_, ?_, G2.trans (Gr.app (l := [.lst ((s.cps.toList.map fun c => D.str ⟨#[c]⟩).map fun _ => D.bl true)]))⟩
  · simp only [Pg.F_is_name, Pg.b_is_name]
    simp [isi_str, sl, c1, c2, wipeE, e2]
    simp at fa
    rw [fa]
    rfl
/-! ### joined texts -/
theorem len_joinL2 (S : List Nat) : ∀ (parts : List (List Nat)), (TL.joinL S parts).length ≤ (parts.map List.length).sum + parts.length * S.length
  | [] => by simp [TL.joinL]
  | [p] => by simp [TL.joinL]
  | p :: q :: r => by
    have := len_joinL2 S (q :: r)
    show (p ++ (S ++ TL.joinL S (q :: r))).length ≤ _
    simp only [List.length_append, List.map_cons, List.sum_cons, List.length_cons] at this ⊢
    rw [Nat.add_mul, Nat.one_mul]
    omega
theorem join_len (y : Str) (ss : List Str) : (Txt.join y ss).length ≤ (ss.map Str.length).sum + ss.length * y.length := by
  have := len_joinL2 (TL.tl y) (ss.map TL.tl)
  rw [← TL.tl_join, ← TL.join_eq, ← TL.len_tl, List.length_map, List.map_map, ← TL.len_tl] at this
  rw [show (ss.map Str.length) = (ss.map (List.length ∘ TL.tl)) from List.map_congr_left fun x _ => TL.len_tl x]
  exact this
theorem sum_le {ss : List Str} {k : Nat} (h : ∀ s ∈ ss, s.length ≤ k) : (ss.map Str.length).sum ≤ ss.length * k := by
  induction ss with
  | nil => simp
  | cons a r ih =>
    have := ih (fun s hs => h s (by simp [hs]))
    have h2 := h a (by simp)
    simp only [List.map_cons, List.sum_cons, List.length_cons, Nat.add_mul, Nat.one_mul]
    omega
theorem lst_map_get {h : MH} {n : Nat} {ds : List D} (e : h[n]? = some (.lst ds)) : bTuple [.loc n] h = .ok (.tup ds) h := by
  show (match lstOf h (.loc n) with
    | some ds => R.ok (D.tup ds) h
    | none => _) = _
  rw [lstOf_L, e]
theorem state_in_ok {ss : List Str} (h0 : ss ≠ []) (h3 : ss.length ≤ 3) (hs : ∀ s ∈ ss, NameOk s) (h : MH) :
    ∃ h', Pg.F_state_in [.str (Txt.join " " ss)] h = .ok (.tup (ss.map D.str)) h' ∧ Gr h h' := by
  have spl : Txt.split (Txt.join (" " : Str) ss) " " = ss := TL.split_join (y := " ") (s := 32) (S := []) rfl (by decide +kernel) h0 (fun p hp hc => absurd ((hs p hp).2.2 32 hc) (by decide))
  have jl := join_len " " ss
  have sl := sum_le (ss := ss) (k := 8) (fun s h => (hs s h).2.1)
  have y1 : (" " : Str).length = 1 := rfl
  have szz : (Txt.join (" " : Str) ss).length + 2 ≤ sizeLine := Nat.le_trans (show _ ≤ 100 by rw [y1] at jl; omega) (by decide)
  have y0 : ((" " : Str).length == 0) = false := rfl
  obtain ⟨h2, e2, G2⟩ := loopC_gr (src := .tup (ss.map D.str)) (tg := .nm 2) (elt := Pg.m_state_in_1) (e0 := [some (.str (Txt.join " " ss)), some (.tup (ss.map D.str)), none]) (ds := ss.map D.str) (h := h ++ [MO.lst (ss.map D.str)]) (fun _ => .bl true)
    (fun h' _ i => rfl)
    (fun d hd h' _ => by
      obtain ⟨s, hm, rfl⟩ := List.mem_map.mp hd
      obtain ⟨h2, e2, G2⟩ := is_name_ok (hs s hm) h'
      refine ⟨_, rfl, h2, ?_, G2⟩
      simp [Pg.m_state_in_1, e2])
    (by simp only [List.length_map]; exact Nat.le_trans h3 (by decide))
  have fu : Src.fuel (h ++ [.lst (ss.map D.str)]) (Src.tup (ss.map D.str)) = (ss.map D.str).length + 1 := rfl
  rw [← fu] at e2
  have fa := f_all (get_new h2 (.lst ((ss.map D.str).map fun _ => D.bl true)))
  have bt := lst_map_get (get_new h (.lst (ss.map D.str)))
  have h3' : (ss.length : Int) ≤ 3 := by omega
  have ct : fSplit (.str (Txt.join " " ss)) [.str Pg.c_BLANK] h = .ok (.loc h.length) (h ++ [.lst (ss.map D.str)]) := by
    show (if ((" " : Str).length == 0) = false ∧ (Txt.join " " ss).length + 2 ≤ sizeLine then newL ((Txt.split (Txt.join " " ss) " ").map D.str) h else .no) = _
    rw [if_pos ⟨y0, szz⟩, spl]; rfl
  refine ⟨_, ?_, (Gr.app.trans G2).trans (Gr.app (l := [.lst ((ss.map D.str).map fun _ => D.bl true)]))⟩
  · simp only [Pg.F_state_in, Pg.b_state_in]
    simp [tyM, ct, bt, h3', wipeE, e2]
    simp at fa
    rw [fa]
    rfl
theorem seq_tup (ds : List D) (h : MH) : seqOf h (.tup ds) = some ds := rfl
theorem show_state_ok {ss : List Str} (h3 : ss.length ≤ 3) (hs : ∀ s ∈ ss, NameOk s) (h : MH) : Pg.F_show_state [.tup (ss.map D.str)] h = .ok (.str (Txt.join " " ss)) h := by
  have sl := sum_le (ss := ss) (k := 8) (fun s h => (hs s h).2.1)
  have y1 : (" " : Str).length = 1 := rfl
  have fj := f_join (ss := ss) (" " : Str) (seq_tup (ss.map D.str) h) (by rw [y1]; omega)
  simp [Pg.F_show_state, Pg.b_show_state, tyM]
  have : Pg.c_BLANK = (" " : Str) := rfl
  rw [this, fj]
  rfl
theorem read_state_ok {ss : List Str} (h0 : ss ≠ []) (h3 : ss.length ≤ 3) (hs : ∀ s ∈ ss, NameOk s) (h : MH) :
    ∃ h', Pg.F_read_state [.str (Txt.join " " ss)] h = .ok (.tup (ss.map D.str)) h' ∧ Gr h h' := by
  obtain ⟨h', e, G⟩ := state_in_ok h0 h3 hs h
  refine ⟨h', ?_, G⟩
  have lk : Pg.tab_shown_value_reader.lookup ("state_in" : Str) = some (1, Pg.F_state_in) := rfl
  simp [Pg.F_read_state, Pg.b_read_state, Pg.F_shown_value, Pg.b_shown_value, isi_str, mCallV, lk, e, isn_tup]
end MP
set_option Elab.async false
set_option linter.all false
set_option maxRecDepth 100000
set_option maxHeartbeats 2000000
namespace MP
open PySem PySem.Spec L2
/-! ### equality of tuples -/
theorem toTs_strs (ls : List Str) : toTs (ls.map D.str) = some (ls.map PyData.str) := by
  induction ls with
  | nil => rfl
  | cons a r ih => simp [toTs, toT, ih]
theorem canLay_strs {ls : List Str} (h : ∀ s ∈ ls, PyData.strOk s = true) : PyData.canLayAll0 (ls.map PyData.str) = true := by
  induction ls with
  | nil => rfl
  | cons a r ih => simp [PyData.canLayAll0, PyData.canLay0, h a (by simp), ih (fun s hs => h s (by simp [hs]))]
theorem depth_strs (ls : List Str) : PyData.depthAll (ls.map PyData.str) = 0 := by
  induction ls with
  | nil => rfl
  | cons a r ih => simp [PyData.depthAll, PyData.depth, ih]
theorem eqD_tup {a b : List D} {p q : List PyData} (h : MH) (ea : toTs a = some p) (eb : toTs b = some q) (ca : PyData.canLayAll0 p = true) (cb : PyData.canLayAll0 q = true) (da : PyData.depthAll p ≤ 10) (db : PyData.depthAll q ≤ 10) :
    eqD h (.tup a) (.tup b) = some (PyData.eqv (.tuple p) (.tuple q)) := by
  have s1 : SeqAt.shaped (.tuple p) = true := by
    unfold SeqAt.shaped
    rw [Bool.and_eq_true]
    exact ⟨by simpa [PyData.canLay0] using ca, by simp [PyData.depth]; omega⟩
  have s2 : SeqAt.shaped (.tuple q) = true := by
    unfold SeqAt.shaped
    rw [Bool.and_eq_true]
    exact ⟨by simpa [PyData.canLay0] using cb, by simp [PyData.depth]; omega⟩
  show (match toP h (.tup a), toP h (.tup b) with
    | some d, some e => if SeqAt.shaped d = true ∧ SeqAt.shaped e = true then some (PyData.eqv d e) else none
    | _, _ => none) = _
  have e1 : toP h (.tup a) = some (.tuple p) := by
    show toT (.tup a) = _
    simp [toT, ea]
  have e2 : toP h (.tup b) = some (.tuple q) := by
    show toT (.tup b) = _
    simp [toT, eb]
  rw [e1, e2]
  exact if_pos ⟨s1, s2⟩
theorem eqD_self {a : List D} {p : List PyData} (h : MH) (ea : toTs a = some p) (ca : PyData.canLayAll0 p = true) (da : PyData.depthAll p ≤ 10) : eqD h (.tup a) (.tup a) = some true := by
  rw [eqD_tup h ea ea ca ca da da, SeqAt.eqv_refl _ (by simpa [PyData.canLay0] using ca)]
theorem eqD_nil {ls : List Str} (h : MH) (hs : ∀ s ∈ ls, PyData.strOk s = true) : eqD h (.tup (ls.map D.str)) (.tup []) = some (decide (ls = [])) := by
  rw [eqD_tup h (toTs_strs ls) (q := []) rfl (canLay_strs hs) rfl (by rw [depth_strs]; omega) (by decide)]
  cases ls with
  | nil => rfl
  | cons a r => simp [PyData.eqv, PyData.eqvAll]
theorem strOk_of {s : Str} (h : ∀ c ∈ s.cps.toList, c < 256) : PyData.strOk s = true := by
  unfold PyData.strOk
  rw [Array.all_eq_true']
  intro x hx
  have := h x (by simpa using hx)
  simp; omega
/-! ### lines -/
def LnCs : List Nat := [33, 97, 32, 122, 124, 45, 98]
def LnOk (s : Str) : Prop := s.length ≤ 5 ∧ ∀ c ∈ s.cps.toList, c ∈ LnCs
theorem LnOk.ok {s : Str} (h : LnOk s) : PyData.strOk s = true := strOk_of fun c hc => by
  have := h.2 c hc
  revert this
  unfold LnCs
  simp
  omega
def barS (s : Str) : Str := ("|" : Str) ++ s
theorem tl_bar (s : Str) : TL.tl (barS s) = 124 :: TL.tl s := by
  unfold barS
  rw [TL.tl_append]
  rfl
def linesText (ls : List Str) : Str := if ls = [] then "-" else Txt.join "\n" (ls.map barS)
def barD : D → D
  | .str s => .str (barS s)
  | d => d
theorem barD_map (ls : List Str) : (ls.map D.str).map barD = (ls.map barS).map D.str := by
  rw [List.map_map, List.map_map]; rfl
theorem bar_len (s : Str) : (barS s).length = s.length + 1 := by rw [TL.len_tl, tl_bar, TL.len_tl]; rfl
theorem sum_bar {ls : List Str} (h3 : ls.length ≤ 3) (hs : ∀ s ∈ ls, LnOk s) : ((ls.map barS).map Str.length).sum + (ls.map barS).length * ("\n" : Str).length ≤ 21 := by
  have := sum_le (ss := ls.map barS) (k := 6) (fun s h => by
    obtain ⟨t, ht, rfl⟩ := List.mem_map.mp h
    have := (hs t ht).1
    rw [bar_len]; omega)
  have y1 : ("\n" : Str).length = 1 := rfl
  rw [y1]
  simp only [List.length_map] at this ⊢
  omega
theorem lines_len {ls : List Str} (h3 : ls.length ≤ 3) (hs : ∀ s ∈ ls, LnOk s) : (linesText ls).length ≤ 21 := by
  unfold linesText
  by_cases h : ls = []
  · rw [if_pos h]; decide
  · rw [if_neg h]
    exact Nat.le_trans (join_len _ _) (sum_bar h3 hs)
theorem get_one (l : List D) (h : MH) (i : Nat) : (Src.tup l).get h i = some l[i]? := rfl
theorem empty_app (s : Str) : Str.empty ++ s = s := TL.ext_tl (by rw [TL.tl_append]; rfl)
theorem lines_loop {ls : List Str} (h3 : ls.length ≤ 3) (elt : M) (e0 : Env) (h : MH) (he : ∀ s ∈ ls, ∀ h', elt (e0.set 1 (some (.str s))) h' = .ok (.str (barS s)) h') :
    ∃ h2, loopC (.tup (ls.map D.str)) (.nm 1) bYes elt e0 (Src.fuel h (Src.tup (ls.map D.str))) 0 [] h = .ok ((ls.map barS).map D.str) h2 ∧ Gr h h2 := by
  have := loopC_gr (src := .tup (ls.map D.str)) (tg := .nm 1) (elt := elt) (e0 := e0) (ds := ls.map D.str) (h := h) barD (fun _ _ _ => rfl)
    (fun d hd h' _ => by
      obtain ⟨s, hm, rfl⟩ := List.mem_map.mp hd
      exact ⟨_, rfl, h', he s hm h', Gr.refl⟩)
    (by simp only [List.length_map]; exact Nat.le_trans h3 (by decide))
  rw [barD_map] at this
  exact this
theorem show_lines_ok {ls : List Str} (h3 : ls.length ≤ 3) (hs : ∀ s ∈ ls, LnOk s) (h : MH) : ∃ h', Pg.F_show_lines [.tup (ls.map D.str)] h = .ok (.str (linesText ls)) h' ∧ Gr h h' := by
  have eq := eqD_nil h (fun s hm => (hs s hm).ok)
  have s0 : 0 ≤ sizeLine := by decide
  have s1 : (1 : Nat) ≤ sizeLine := by decide
  by_cases hl : ls = []
  · refine ⟨h, ?_, Gr.refl⟩
    subst hl
    simp at eq
    simp [Pg.F_show_lines, Pg.b_show_lines, eq, s0, linesText]
    rfl
  · obtain ⟨h2, e2, G2⟩ := lines_loop h3 Pg.m_show_lines_1 [some (.tup (ls.map D.str)), none] h (fun s hm h' => by
      have l1 : (Str.empty ++ ("|" : Str)).length ≤ sizeLine := by decide
      have l2 : (Str.empty ++ ("|" : Str) ++ s).length ≤ sizeLine := by
        rw [empty_app]
        exact Nat.le_trans (Nat.le_of_eq (bar_len s)) (Nat.le_trans (show _ ≤ 6 by have := (hs s hm).1; omega) (by decide))
      have l3 : s.length ≤ sizeLine := Nat.le_trans (hs s hm).1 (by decide)
      have l0 : ("|" : Str).length ≤ sizeLine := by decide
      have cb : Pg.c_BAR = ("|" : Str) := rfl
      have l4 : (("|" : Str) ++ s).length ≤ sizeLine := by rw [empty_app] at l2; exact l2
      simp [Pg.m_show_lines_1, fFmt, cb, l0, l1, l2, l3, empty_app]
      rw [if_pos l4]; rfl)
    have fj := f_join (ss := ls.map barS) ("\n" : Str) (seq_lst (get_new h2 (.lst ((ls.map barS).map D.str)))) (Nat.le_trans (sum_bar h3 hs) (by decide))
    refine ⟨_, ?_, G2.trans (Gr.app (l := [.lst ((ls.map barS).map D.str)]))⟩
    have cf : Pg.c_FEED = ("\n" : Str) := rfl
    simp [Pg.F_show_lines, Pg.b_show_lines, eq, s0, linesText, hl, tyM, wipeE, cf]
    rw [e2]; simp only [R.bind_ok, fj, R.st_ok]; simp
theorem law_lines_ok {ls : List Str} (h3 : ls.length ≤ 3) (hs : ∀ s ∈ ls, LnOk s) (h : MH) : ∃ h', Pg.F_law_lines_text [.tup (ls.map D.str)] h = .ok (.str (linesText ls)) h' ∧ Gr h h' := by
  have eq := eqD_nil h (fun s hm => (hs s hm).ok)
  have s0 : 0 ≤ sizeLine := by decide
  by_cases hl : ls = []
  · refine ⟨h, ?_, Gr.refl⟩
    subst hl
    simp at eq
    simp [Pg.F_law_lines_text, Pg.b_law_lines_text, eq, s0, linesText]
  · obtain ⟨h2, e2, G2⟩ := lines_loop h3 Pg.m_law_lines_text_1 [some (.tup (ls.map D.str)), none] h (fun s hm h' => by
      have l1 : ("|" : Str).length + s.length ≤ sizeLine := Nat.le_trans (show _ ≤ 6 by have := (hs s hm).1; have : ("|" : Str).length = 1 := rfl; omega) (by decide)
      simp [Pg.m_law_lines_text_1]
      rw [if_pos l1]; rfl)
    have fj := f_join (ss := ls.map barS) ("\n" : Str) (seq_lst (get_new h2 (.lst ((ls.map barS).map D.str)))) (Nat.le_trans (sum_bar h3 hs) (by decide))
    refine ⟨_, ?_, G2.trans (Gr.app (l := [.lst ((ls.map barS).map D.str)]))⟩
    simp [Pg.F_law_lines_text, Pg.b_law_lines_text, eq, s0, linesText, hl, tyM, wipeE]
    rw [e2]; simp only [R.bind_ok, fj, R.st_ok]; simp
/-! ### lines read -/
theorem is_line_ok {s : Str} (hs : LnOk s) (h : MH) : ∃ h', Pg.F_is_line [.str s] h = .ok (.bl true) h' ∧ Gr h h' := by
  have hcs : s.cps.toList.length = s.length := by simp [Str.length]
  obtain ⟨h2, e2, G2⟩ := loopC_gr (src := .str s) (tg := .nm 1) (elt := Pg.m_is_line_1) (e0 := [some (.str s), none]) (ds := s.cps.toList.map fun c => D.str ⟨#[c]⟩) (h := h) (fun _ => .bl true)
    (fun h' _ i => get_str s h' i)
    (fun d hd h' _ => by
      obtain ⟨c, hm, rfl⟩ := List.mem_map.mp hd
      refine ⟨_, rfl, h', ?_, Gr.refl⟩
      simp [Pg.m_is_line_1, f_inSg]
      have hc : c ∈ Pg.c_SIGNS.cps.toList := by
        have := hs.2 c hm
        revert this
        unfold LnCs
        simp only [List.mem_cons, List.not_mem_nil, or_false]
        rintro (rfl | rfl | rfl | rfl | rfl | rfl | rfl) <;> decide +kernel
      exact by simpa using hc)
    (by simp only [List.length_map, hcs]; exact Nat.le_trans hs.1 (by decide))
  have fu : Src.fuel h (.str s) = (s.cps.toList.map fun c => D.str ⟨#[c]⟩).length + 1 := by simp [Src.fuel]
  rw [← fu] at e2
  have fa := f_all (get_new h2 (.lst ((s.cps.toList.map fun c => D.str ⟨#[c]⟩).map fun _ => D.bl true)))
  refine ⟨_, ?_, G2.trans (Gr.app (l := [.lst ((s.cps.toList.map fun c => D.str ⟨#[c]⟩).map fun _ => D.bl true)]))⟩
  simp only [Pg.F_is_line, Pg.b_is_line]
  simp [isi_str, wipeE, e2]
  simp at fa
  rw [fa]
  rfl
theorem cut_bar (s : Str) : cutS (barS s) (some 1) none = s := by
  refine TL.ext_tl ?_
  have e1 : HT.sIx (barS s).length 0 (some 1) = 1 := by
    have := HT.sIx_nat (barS s).length 0 1
    rw [bar_len] at this ⊢
    rw [show ((1 : Nat) : Int) = 1 from rfl] at this
    rw [this]; omega
  have e2 : HT.sIx (barS s).length (barS s).length none = (barS s).length := rfl
  show (((barS s).cps.toList.drop (HT.sIx (barS s).length 0 (some 1))).take (HT.sIx (barS s).length (barS s).length none - HT.sIx (barS s).length 0 (some 1))).toArray.toList = _
  rw [e1, e2]
  have : (barS s).cps.toList = 124 :: s.cps.toList := tl_bar s
  rw [this, bar_len]
  show (List.take (s.length + 1 - 1) s.cps.toList) = s.cps.toList
  rw [List.take_of_length_le]
  simp [Str.length]
theorem starts_bar (s : Str) : Txt.startswith (barS s) ("|" : Str) = true := by
  unfold Txt.startswith Builtin.Str.subAt
  have l1 : ("|" : Str).length = 1 := rfl
  rw [bar_len, l1]
  have : (barS s).cps = #[124] ++ s.cps := rfl
  rw [this]
  have : ((#[124] ++ s.cps).extract 0 (0 + 1)) = #[124] := by simp
  rw [this]
  simp
  rfl
theorem lines_ne {ls : List Str} (h0 : ls ≠ []) : linesText ls ≠ ("-" : Str) := by
  unfold linesText
  rw [if_neg h0]
  cases ls with
  | nil => exact absurd rfl h0
  | cons a r =>
    intro e
    have e' := congrArg TL.tl e
    rw [TL.join_eq, TL.tl_join] at e'
    have t1 : TL.tl ("-" : Str) = [45] := rfl
    rw [t1] at e'
    cases r with
    | nil =>
      have : TL.joinL (TL.tl ("\n" : Str)) (List.map TL.tl (List.map barS [a])) = TL.tl (barS a) := rfl
      rw [this, tl_bar] at e'
      simp at e'
    | cons b r =>
      have : TL.joinL (TL.tl ("\n" : Str)) (List.map TL.tl (List.map barS (a :: b :: r))) = TL.tl (barS a) ++ (TL.tl ("\n" : Str) ++ TL.joinL (TL.tl ("\n" : Str)) (List.map TL.tl (List.map barS (b :: r)))) := rfl
      rw [this, tl_bar] at e'
      simp at e'
theorem lines_in_ok {ls : List Str} (h3 : ls.length ≤ 3) (hs : ∀ s ∈ ls, LnOk s) (h : MH) : ∃ h', Pg.F_lines_in [.str (linesText ls)] h = .ok (.tup (ls.map D.str)) h' ∧ Gr h h' := by
  have cN : Pg.c_NONE = ("-" : Str) := rfl
  have s0 : 0 ≤ sizeLine := by decide
  by_cases hl : ls = []
  · subst hl
    refine ⟨h, ?_, Gr.refl⟩
    simp [Pg.F_lines_in, Pg.b_lines_in, linesText, cN, s0]
  · have ne := lines_ne hl
    have ll := lines_len h3 hs
    have el : linesText ls = Txt.join "\n" (ls.map barS) := if_neg hl
    have spl : Txt.split (linesText ls) ("\n" : Str) = ls.map barS := by
      rw [el]
      refine TL.split_join (y := "\n") (s := 10) (S := []) rfl (by decide +kernel) (by simpa using hl) (fun p hp hc => ?_)
      obtain ⟨t, ht, rfl⟩ := List.mem_map.mp hp
      rw [tl_bar] at hc
      simp at hc
      exact absurd ((hs t ht).2 10 (by simpa using hc)) (by decide)
    have szz : (linesText ls).length + 2 ≤ sizeLine := Nat.le_trans (show _ ≤ 23 by omega) (by decide)
    obtain ⟨bs, ebs⟩ : ∃ bs, bs = (ls.map barS).map D.str := ⟨_, rfl⟩
    have ct : fSplit (.str (linesText ls)) [.str Pg.c_FEED] h = .ok (.loc h.length) (h ++ [.lst bs]) := by
      show (if (("\n" : Str).length == 0) = false ∧ (linesText ls).length + 2 ≤ sizeLine then newL ((Txt.split (linesText ls) "\n").map D.str) h else .no) = _
      rw [if_pos ⟨rfl, szz⟩, spl, ebs]; rfl
    have g0 : (h ++ [MO.lst bs])[h.length]? = some (.lst bs) := get_new _ _
    have lb : bs.length = ls.length := by rw [ebs]; simp
    have lsz : bs.length ≤ sizeLine := by rw [lb]; exact Nat.le_trans h3 (by decide)
    have memb : ∀ d ∈ bs, ∃ s ∈ ls, d = .str (barS s) := by
      intro d hd
      rw [ebs] at hd
      obtain ⟨t, ht, rfl⟩ := List.mem_map.mp hd
      obtain ⟨s, hs', rfl⟩ := List.mem_map.mp ht
      exact ⟨s, hs', rfl⟩
    have bsz : ∀ s ∈ ls, (barS s).length ≤ sizeLine := fun s hm => Nat.le_trans (show _ ≤ 6 by rw [bar_len]; have := (hs s hm).1; omega) (by decide)
    have cB : Pg.c_BAR = ("|" : Str) := rfl
    obtain ⟨h2, e2, G2⟩ := loopC_gr (src := .lst (.loc h.length)) (tg := .nm 2) (elt := Pg.m_lines_in_2) (e0 := [some (.str (linesText ls)), some (.loc h.length), none]) (ds := bs) (h := h ++ [MO.lst bs]) (fun _ => .bl true)
      (fun h' G i => get_lst (G.keep _ _ g0) i)
      (fun d hd h' _ => by
        obtain ⟨s, hm, rfl⟩ := memb d hd
        obtain ⟨h2, e2, G2⟩ := is_line_ok (hs s hm) h'
        refine ⟨_, rfl, h2, ?_, G2⟩
        have st : fStarts (.str (barS s)) [.str Pg.c_BAR] h' = .ok (.bl true) h' := by
          show R.ok (D.bl (Txt.startswith (barS s) "|")) h' = _
          rw [starts_bar]
        have sl : fSl (.str (barS s)) (some 1) none h' = .ok (.str s) h' := by
          show (if (barS s).length ≤ sizeLine then R.ok (D.str (cutS (barS s) (some 1) none)) h' else .no) = _
          rw [if_pos (bsz s hm), cut_bar]
        simp [Pg.m_lines_in_2, tyM, st, sl, e2])
      lsz
    rw [← fuel_lst g0] at e2
    have fa := f_all (get_new h2 (.lst (bs.map fun _ => D.bl true)))
    have g2 : (h2 ++ [MO.lst (bs.map fun _ => D.bl true)])[h.length]? = some (.lst bs) := get_app (G2.keep _ _ g0)
    obtain ⟨h4, e4, G4⟩ := loopC_gr (src := .lst (.loc h.length)) (tg := .nm 2) (elt := Pg.m_lines_in_1) (e0 := [some (.str (linesText ls)), some (.loc h.length), none]) (ds := bs) (h := h2 ++ [MO.lst (bs.map fun _ => D.bl true)])
      (fun d => match d with | .str s => .str (cutS s (some 1) none) | d => d)
      (fun h' G i => get_lst (G.keep _ _ g2) i)
      (fun d hd h' _ => by
        obtain ⟨s, hm, rfl⟩ := memb d hd
        refine ⟨_, rfl, h', ?_, Gr.refl⟩
        have sl : fSl (.str (barS s)) (some 1) none h' = .ok (.str s) h' := by
          show (if (barS s).length ≤ sizeLine then R.ok (D.str (cutS (barS s) (some 1) none)) h' else .no) = _
          rw [if_pos (bsz s hm), cut_bar]
        simp [Pg.m_lines_in_1, sl, cut_bar])
      lsz
    rw [← fuel_lst g2] at e4
    have em : (bs.map fun d => match d with | .str s => D.str (cutS s (some 1) none) | d => d) = ls.map D.str := by
      rw [ebs, List.map_map, List.map_map]
      refine List.map_congr_left fun s _ => ?_
      show D.str (cutS (barS s) (some 1) none) = _
      rw [cut_bar]
    rw [em] at e4
    have bt := lst_map_get (get_new h4 (.lst (ls.map D.str)))
    have lo0 : lstOf (h ++ [MO.lst bs]) (.loc h.length) = some bs := by rw [lstOf_L, g0]
    have lo2 : lstOf (h2 ++ [MO.lst (bs.map fun _ => D.bl true)]) (.loc h.length) = some bs := by rw [lstOf_L, g2]
    refine ⟨_, ?_, (((Gr.app.trans G2).trans Gr.app).trans G4).trans (Gr.app (l := [.lst (ls.map D.str)]))⟩
    simp [Pg.F_lines_in, Pg.b_lines_in, ne, cN, tyM, ct, g0, wipeE, e2, fa]
    rw [g2]
    simp [e4, bt]
theorem read_lines_ok {ls : List Str} (h3 : ls.length ≤ 3) (hs : ∀ s ∈ ls, LnOk s) (h : MH) : ∃ h', Pg.F_read_lines [.str (linesText ls)] h = .ok (.tup (ls.map D.str)) h' ∧ Gr h h' := by
  obtain ⟨h', e, G⟩ := lines_in_ok h3 hs h
  refine ⟨h', ?_, G⟩
  have lk : Pg.tab_shown_value_reader.lookup ("lines_in" : Str) = some (1, Pg.F_lines_in) := rfl
  simp [Pg.F_read_lines, Pg.b_read_lines, Pg.F_shown_value, Pg.b_shown_value, isi_str, mCallV, lk, e, isn_tup]
end MP
set_option Elab.async false
set_option linter.all false
set_option maxRecDepth 100000
set_option maxHeartbeats 2000000
namespace MP
open PySem PySem.Spec L2
def numS (n : Nat) : Str := Str.ofString (toString ((n : Nat) : Int))
theorem tl_numS (n : Nat) : TL.tl (numS n) = TL.numL n := TL.tl_num n
theorem num_head : ∀ (n : Nat) (d : Nat) (r : List Nat), TL.numL n = d :: r → d = 48 → n = 0 := by
  intro n
  induction n using Nat.strongRecOn with
  | ind n ih =>
    intro d r e hd
    by_cases h : n < 10
    · rw [TL.numL_lt h] at e
      cases e
      omega
    · rw [TL.numL_step (by omega)] at e
      cases q : TL.numL (n / 10) with
      | nil => exact absurd q (TL.numL_ne _)
      | cons a t =>
        rw [q] at e
        cases e
        have := ih (n / 10) (by omega) _ _ q hd
        omega
theorem numS_len {n : Nat} (h : n < 1000000000) : (numS n).length ≤ 9 := by
  rw [TL.len_tl, tl_numS]
  exact TL.numL_len (by decide) (by simpa using h)
theorem numS_pos (n : Nat) : 1 ≤ (numS n).length := by
  rw [TL.len_tl, tl_numS]
  cases q : TL.numL n with
  | nil => exact absurd q (TL.numL_ne _)
  | cons a t => simp
theorem bStr_num {n : Nat} (h : n < 1000000000) (H : MH) : bStr [.int (n : Int)] H = .ok (.str (numS n)) H := by
  rw [bStr_I, if_pos]
  · rfl
  · have : (n : Int).natAbs = n := Int.natAbs_natCast n
    rw [this]
    have h2 : n.log2 < 30 := by
      by_cases hn : n = 0
      · subst hn; decide
      · rw [Nat.log2_lt hn]; exact Nat.lt_of_lt_of_le h (by decide)
    omega
theorem fFmt_num {n : Nat} (h : n < 1000000000) (H : MH) : fFmt (.int (n : Int)) H = .ok (.str (numS n)) H := bStr_num h H
theorem number_in_ok {n : Nat} (hn : n < 1000000000) (h : MH) : ∃ h', Pg.F_number_in [.str (numS n)] h = .ok (.int (n : Int)) h' ∧ Gr h h' := by
  have hcs : (numS n).cps.toList.length = (numS n).length := by simp [Str.length]
  have l9 := numS_len hn
  have l1 := numS_pos n
  have sl : (numS n).length ≤ sizeLine := Nat.le_trans l9 (by decide)
  have dg := TL.numL_digits n
  rw [← tl_numS] at dg
  obtain ⟨h2, e2, G2⟩ := loopC_gr (src := .str (numS n)) (tg := .nm 1) (elt := Pg.m_number_in_1) (e0 := [some (.str (numS n)), none]) (ds := (numS n).cps.toList.map fun c => D.str ⟨#[c]⟩) (h := h) (fun _ => .bl true)
    (fun h' _ i => get_str (numS n) h' i)
    (fun d hd h' _ => by
      obtain ⟨c, hm, rfl⟩ := List.mem_map.mp hd
      refine ⟨_, rfl, h', ?_, Gr.refl⟩
      simp [Pg.m_number_in_1, f_inSg]
      have hc : c ∈ Pg.c_DIGITS.cps.toList := by
        have := dg c hm
        have e : Pg.c_DIGITS.cps.toList = [48, 49, 50, 51, 52, 53, 54, 55, 56, 57] := by decide +kernel
        rw [e]
        simp
        omega
      exact by simpa using hc)
    (by simp only [List.length_map, hcs]; exact sl)
  have fu : Src.fuel h (.str (numS n)) = ((numS n).cps.toList.map fun c => D.str ⟨#[c]⟩).length + 1 := by simp [Src.fuel]
  rw [← fu] at e2
  have fa := f_all (get_new h2 (.lst (((numS n).cps.toList.map fun c => D.str ⟨#[c]⟩).map fun _ => D.bl true)))
  refine ⟨_, ?_, G2.trans (Gr.app (l := [.lst (((numS n).cps.toList.map fun c => D.str ⟨#[c]⟩).map fun _ => D.bl true)]))⟩
  have c1 : (1 : Int) ≤ (numS n).length := by omega
  have c2 : ((numS n).length : Int) ≤ 9 := by omega
  have it : intText? (numS n) = some (n : Int) := TL.int_num (by rw [← tl_numS, ← TL.len_tl]; omega)
  have l640 : (numS n).length ≤ 640 := by omega
  have bi : ∀ H, bInt [.str (numS n)] H = .ok (.int (n : Int)) H := fun H => by
    show (match intText? (numS n) with
      | some n' => if (numS n).length ≤ 640 then R.ok (D.int n') H else .no
      | none => .no) = _
    rw [it]
    exact if_pos l640
  obtain ⟨a, t, hat⟩ : ∃ a t, (numS n).cps.toList = a :: t := by
    cases q : (numS n).cps.toList with
    | nil => rw [q] at hcs; simp at hcs; omega
    | cons a t => exact ⟨a, t, rfl⟩
  have ix0 : ∀ H, fIx (.str (numS n)) (.int 0) H = .ok (.str ⟨#[a]⟩) H := fun H => by
    rw [ix_S, if_pos sl, hat]
    simp
  simp only [Pg.F_number_in, Pg.b_number_in]
  simp [sl, c1, c2, wipeE, e2]
  simp at fa
  rw [fa]
  simp only [R.bind_ok]
  by_cases h0 : numS n = ("0" : Str)
  · rw [h0] at bi
    simp [h0, bi]
  · have ha : ¬ (⟨#[a]⟩ : Str) = ("0" : Str) := by
      intro e
      have e' := congrArg TL.tl e
      have : a = 48 := by
        have t : TL.tl ("0" : Str) = [48] := rfl
        rw [t] at e'
        simpa [TL.tl] using e'
      have n0 : n = 0 := num_head n a t (by rw [← tl_numS]; exact hat) this
      subst n0
      exact h0 rfl
    simp [h0, ix0, ha, bi]
/-! ### edits -/
def editS (a b : Nat) (ls : List Str) : Str := numS a ++ (" " : Str) ++ numS b ++ ("\n" : Str) ++ linesText ls
theorem app_len (a b : Str) : (a ++ b).length = a.length + b.length := by rw [TL.len_tl, TL.tl_append, List.length_append, ← TL.len_tl, ← TL.len_tl]
theorem fFmt_str {s : Str} (h : s.length ≤ sizeLine) (H : MH) : fFmt (.str s) H = .ok (.str s) H := if_pos h
theorem small_le {n : Nat} (h : n ≤ 1000) : n ≤ sizeLine := Nat.le_trans h (by decide)
theorem show_edit_ok {a b : Nat} (ha : a < 1000000000) (hb : b < 1000000000) {ls : List Str} (h3 : ls.length ≤ 3) (hs : ∀ s ∈ ls, LnOk s) (h : MH) :
    ∃ h', Pg.F_show_edit [.tup [.int (a : Int), .int (b : Int), .tup (ls.map D.str)]] h = .ok (.str (editS a b ls)) h' ∧ Gr h h' := by
  obtain ⟨h', e, G⟩ := show_lines_ok h3 hs h
  refine ⟨h', ?_, G⟩
  have ll := lines_len h3 hs
  have la := numS_len ha
  have lb := numS_len hb
  have s1 : (" " : Str).length = 1 := rfl
  have s2 : ("\n" : Str).length = 1 := rfl
  have cB : Pg.c_BLANK = (" " : Str) := rfl
  have cF : Pg.c_FEED = ("\n" : Str) := rfl
  have k1 : (numS a).length ≤ sizeLine := small_le (by omega)
  have k2 : (numS a ++ (" " : Str)).length ≤ sizeLine := small_le (by simp only [app_len]; omega)
  have k3 : (numS a ++ (" " : Str) ++ numS b).length ≤ sizeLine := small_le (by simp only [app_len]; omega)
  have k4 : (numS a ++ (" " : Str) ++ numS b ++ ("\n" : Str)).length ≤ sizeLine := small_le (by simp only [app_len]; omega)
  have k5 : (numS a ++ (" " : Str) ++ numS b ++ ("\n" : Str) ++ linesText ls).length ≤ sizeLine := small_le (by simp only [app_len]; omega)
  have f1 := fFmt_num ha h
  have f2 := fFmt_num hb h
  have f3 := fFmt_str (s := (" " : Str)) (small_le (by omega)) h
  have f4 := fFmt_str (s := ("\n" : Str)) (small_le (by omega)) h
  have f5 := fFmt_str (s := linesText ls) (small_le (by omega)) h'
  simp [Pg.F_show_edit, Pg.b_show_edit, sets, f1, f2, f3, f4, f5, e, cB, cF, empty_app, k1, k2, k3, k4, k5, editS]
theorem f_in_non {h : MH} {n : Nat} {a b : Int} (e : h[n]? = some (.lst [.int a, .int b])) : fIn .non (.loc n) h = .ok (.bl false) h := by
  show (match (match seqOf h (.loc n) with
    | some ds => if flatD .non = true ∧ ds.all flatD = true then some (inS .non ds) else none
    | none => none) with | some b => R.ok (D.bl b) h | none => .no) = _
  rw [seq_lst e]
  rfl
theorem edit_in_ok {a b : Nat} (hab : a ≤ b) (hb : b < 1000000000) {ls : List Str} (hl3 : ls.length ≤ 3) (hs : ∀ s ∈ ls, LnOk s) (h : MH) :
    ∃ h', Pg.F_edit_in [.str (editS a b ls)] h = .ok (.tup [.int (a : Int), .int (b : Int), .tup (ls.map D.str)]) h' ∧ Gr h h' := by
  have ha : a < 1000000000 := by omega
  have ll := lines_len hl3 hs
  have la := numS_len ha
  have lb := numS_len hb
  have s1 : (" " : Str).length = 1 := rfl
  have s2 : ("\n" : Str).length = 1 := rfl
  have cB : Pg.c_BLANK = (" " : Str) := rfl
  have cF : Pg.c_FEED = ("\n" : Str) := rfl
  have z2 : 2 ≤ sizeLine := by decide
  have z3 : 3 ≤ sizeLine := by decide
  have fa : ∀ n, ∀ c, c < 48 → c ∉ TL.tl (numS n) := fun n c hc hm => by
    rw [tl_numS] at hm
    exact TL.numL_free (.inl hc) hm
  obtain ⟨hd, ehd⟩ : ∃ hd, hd = numS a ++ (" " : Str) ++ numS b := ⟨_, rfl⟩
  have par : Txt.partition (editS a b ls) ("\n" : Str) = (hd, ("\n" : Str), linesText ls) := by
    unfold editS
    rw [ehd]
    refine TL.partition_app (y := "\n") (s := 10) (S := []) rfl (fun hm => ?_)
    rw [TL.tl_append, TL.tl_append] at hm
    have t : TL.tl (" " : Str) = [32] := rfl
    rw [t] at hm
    simp only [List.mem_append, List.mem_singleton] at hm
    rcases hm with (hm | hm) | hm
    · exact fa a 10 (by decide) hm
    · exact absurd hm (by decide)
    · exact fa b 10 (by decide) hm
  have jn : hd = Txt.join " " [numS a, numS b] := by rw [TL.join_eq, ehd]; rfl
  have spl : Txt.split hd (" " : Str) = [numS a, numS b] := by
    rw [jn]
    refine TL.split_join (y := " ") (s := 32) (S := []) rfl (by decide +kernel) (by simp) (fun p hp => ?_)
    simp only [List.mem_cons, List.not_mem_nil, or_false] at hp
    rcases hp with rfl | rfl <;> exact fa _ 32 (by decide)
  have le : (editS a b ls).length ≤ sizeLine := small_le (by unfold editS; simp only [app_len]; omega)
  have lh : hd.length + 2 ≤ sizeLine := small_le (by rw [ehd]; simp only [app_len]; omega)
  have e0 : fPartition (.str (editS a b ls)) [.str Pg.c_FEED] h = .ok (.tup [.str hd, .str "\n", .str (linesText ls)]) h := by
    show (if (("\n" : Str).length == 0) = false ∧ (editS a b ls).length ≤ sizeLine then R.ok (D.tup [.str (Txt.partition (editS a b ls) "\n").1, .str (Txt.partition (editS a b ls) "\n").2.1, .str (Txt.partition (editS a b ls) "\n").2.2]) h else .no) = _
    rw [if_pos ⟨rfl, le⟩, par]
  have e1 : fSplit (.str hd) [.str Pg.c_BLANK] h = .ok (.loc h.length) (h ++ [.lst [.str (numS a), .str (numS b)]]) := by
    show (if ((" " : Str).length == 0) = false ∧ hd.length + 2 ≤ sizeLine then newL ((Txt.split hd " ").map D.str) h else .no) = _
    rw [if_pos ⟨rfl, lh⟩, spl]; rfl
  have g0 : (h ++ [MO.lst [.str (numS a), .str (numS b)]])[h.length]? = some (.lst [.str (numS a), .str (numS b)]) := get_new _ _
  obtain ⟨h2, e2, G2⟩ := number_in_ok ha (h ++ [MO.lst [.str (numS a), .str (numS b)]])
  obtain ⟨h3, e3, G3⟩ := number_in_ok hb h2
  have g2 := G2.keep _ _ g0
  have g3 := G3.keep _ _ g2
  have p0 : 0 < sizeLine := by decide
  have p1 : 1 < sizeLine := by decide
  have lc : loopC (.lst (.loc h.length)) (.nm 6) bYes Pg.m_edit_in_1 [some (.str (editS a b ls)), some (.str hd), some (.str "\n"), some (.str (linesText ls)), none, none, none] 3 0 [] (h ++ [MO.lst [.str (numS a), .str (numS b)]]) = .ok [.int (a : Int), .int (b : Int)] h3 := by
    simp [loopC, get_lst g0, get_lst g2, get_lst g3, Pg.m_edit_in_1, e2, e3, p0, p1]
  have fu := fuel_lst g0
  have fu' : Src.fuel (h ++ [MO.lst [.str (numS a), .str (numS b)]]) (Src.lst (.loc h.length)) = 3 := fu
  obtain ⟨h4, e4, G4⟩ := lines_in_ok hl3 hs (h3 ++ [MO.lst [.int (a : Int), .int (b : Int)]])
  have g4 := G4.keep _ _ (get_new h3 (.lst [.int (a : Int), .int (b : Int)]))
  have fn := f_in_non g4
  refine ⟨h4, ?_, (((Gr.app.trans G2).trans G3).trans Gr.app).trans G4⟩
  have nn : ¬ ("\n" : Str) = ("" : Str) := by decide
  have nab : ¬ (b : Int) < (a : Int) := by omega
  simp [Pg.F_edit_in, Pg.b_edit_in, tyM, e0, sets, e1, g0, wipeE, fu', lc, e4, g4, fn, isn_tup, ix_L _ g4, nab, z3, nn]
theorem read_edit_ok {a b : Nat} (hab : a ≤ b) (hb : b < 1000000000) {ls : List Str} (h3 : ls.length ≤ 3) (hs : ∀ s ∈ ls, LnOk s) (h : MH) :
    ∃ h', Pg.F_read_edit [.str (editS a b ls)] h = .ok (.tup [.int (a : Int), .int (b : Int), .tup (ls.map D.str)]) h' ∧ Gr h h' := by
  obtain ⟨h', e, G⟩ := edit_in_ok hab hb h3 hs h
  refine ⟨h', ?_, G⟩
  have lk : Pg.tab_shown_value_reader.lookup ("edit_in" : Str) = some (1, Pg.F_edit_in) := rfl
  simp [Pg.F_read_edit, Pg.b_read_edit, Pg.F_shown_value, Pg.b_shown_value, isi_str, mCallV, lk, e, isn_tup]
end MP
set_option Elab.async false
set_option linter.all false
set_option maxRecDepth 100000
set_option maxHeartbeats 2000000
namespace MP
open PySem PySem.Spec L2
instance (s : Str) : Decidable (NameOk s) := inferInstanceAs (Decidable (_ ∧ _ ∧ _))
instance (s : Str) : Decidable (LnOk s) := inferInstanceAs (Decidable (_ ∧ _))
def fst0 : D → D
  | .tup (x :: _) => x
  | d => d
theorem ms_names {c : List Nat} {h : MH} : ∀ {ms : List D}, (∀ md ∈ ms, MdOk c h md) → ∃ ns : List Str, ms.map fst0 = ns.map D.str ∧ ns.length = ms.length ∧ ∀ n ∈ ns, n ∈ NMs
  | [], _ => ⟨[], rfl, rfl, by simp⟩
  | md :: r, hm => by
    obtain ⟨ns, e, l, hn⟩ := ms_names (c := c) (h := h) (ms := r) (fun x hx => hm x (by simp [hx]))
    obtain ⟨nm, col, en, o, rows, er, h1, _⟩ := hm md (by simp)
    subst er
    refine ⟨nm :: ns, by simp [e, fst0], by simp [l], fun x hx => ?_⟩
    rcases List.mem_cons.mp hx with rfl | hx
    · exact h1
    · exact hn x hx
theorem NMs_ok {s : Str} (h : s ∈ NMs) : NameOk s := by
  unfold NMs at h
  simp only [List.mem_cons, List.not_mem_nil, or_false] at h
  rcases h with rfl | rfl | rfl <;> decide +kernel
theorem right13 {h : MH} {p b : Nat} {T : Int} (P : Pot h p T) (hT : T < 500000) (B : Bk h p b) :
    ∃ l h' ss, Pg.b_law_right_13 [some (.loc p), some (.loc b), none, none, none, none, none, none, none, none] h = .nx [some (.loc p), some (.loc b), some (.loc l), none, none, none, none, none, none, none] h' ∧
      h'[l]? = some (.lst (ss.map D.str)) ∧ ss ≠ [] ∧ ss.length ≤ 3 ∧ (∀ s ∈ ss, NameOk s) ∧ Pot h' p (T + 1) ∧ Fr p h h' := by
  obtain ⟨m, dep, ms, hb, hm, eb, em, m0, m1, mo⟩ := B
  obtain ⟨ns, en, nl, nN⟩ := ms_names mo
  have s1 : 1 ≤ sizeLine := by decide
  have s2 : 2 ≤ sizeLine := by decide
  have s3 : 3 ≤ sizeLine := by decide
  have s4 : 4 ≤ sizeLine := by decide
  obtain ⟨l1, hl1⟩ : ∃ l1, l1 = [("a" : Str)].map D.str := ⟨_, rfl⟩
  obtain ⟨l2, hl2⟩ : ∃ l2, l2 = [("code" : Str), "warm"].map D.str := ⟨_, rfl⟩
  obtain ⟨l3, hl3⟩ : ∃ l3, l3 = [("a" : Str), "zzzzzzzz", "mode"].map D.str := ⟨_, rfl⟩
  obtain ⟨H3, hH3⟩ : ∃ H3, H3 = h ++ [MO.lst l1, MO.lst l2, MO.lst l3] := ⟨_, rfl⟩
  have em3 : H3[m]? = some (.lst ms) := by rw [hH3]; exact get_app em
  have eb3 : H3[b]? = some (.dic [(.inr "depth", dep), (.inr "modes", .loc m)]) := by rw [hH3]; exact get_app eb
  have dg : dGet [((.inr "depth" : Key), dep), (.inr "modes", .loc m)] (.inr "modes") = some (.loc m) := rfl
  have lc := loopC_map (src := .lst (.loc m)) (tg := .nm 8) (elt := Pg.m_law_right_12) (e0 := [some (.loc p), some (.loc b), none, none, none, none, none, none, none, none]) (ds := ms) (h := H3) fst0 (get_lst em3)
    (fun md hmd => by
      obtain ⟨nm, col, en, o, rows, er, _⟩ := mo md hmd
      refine ⟨_, rfl, ?_⟩
      rw [er]
      simp [Pg.m_law_right_12, fst0]) (Nat.le_trans m1 s3) (ms.length + 1) (by omega)
  rw [en, ← fuel_lst em3] at lc
  have H3l : H3.length = h.length + 3 := by rw [hH3]; simp
  have P5 : Pot (H3 ++ [MO.lst (ns.map D.str), MO.lst [.loc h.length, .loc (h.length + 1), .loc (h.length + 2), .loc (h.length + 3)]]) p T := by rw [hH3]; exact P.app.app
  have g5 : (H3 ++ [MO.lst (ns.map D.str), MO.lst [.loc h.length, .loc (h.length + 1), .loc (h.length + 2), .loc (h.length + 3)]])[h.length + 4]? = some (.lst [.loc h.length, .loc (h.length + 1), .loc (h.length + 2), .loc (h.length + 3)]) := by rw [hH3]; simp
  have pl := P.lt
  obtain ⟨x, h', e1, hx, P', F'⟩ := of_ok P5 (by omega) g5 (by omega) (by simp) (by simp)
  have F : Fr p h h' := ((Fr.app (h := h) (l := [MO.lst l1, MO.lst l2, MO.lst l3])).trans (by rw [← hH3]; exact Fr.app)).trans F'
  have q : ∃ k ss, x = .loc (h.length + k) ∧ (H3 ++ [MO.lst (ns.map D.str), MO.lst [.loc h.length, .loc (h.length + 1), .loc (h.length + 2), .loc (h.length + 3)]])[h.length + k]? = some (.lst (ss.map D.str)) ∧ ss ≠ [] ∧ ss.length ≤ 3 ∧ (∀ s ∈ ss, NameOk s) := by
    simp only [List.mem_cons, List.not_mem_nil, or_false] at hx
    rcases hx with rfl | rfl | rfl | rfl
    · exact ⟨0, ["a"], rfl, by rw [hH3, hl1]; simp, by simp, by simp, by decide +kernel⟩
    · exact ⟨1, ["code", "warm"], rfl, by rw [hH3, hl2]; simp, by simp, by simp, by decide +kernel⟩
    · exact ⟨2, ["a", "zzzzzzzz", "mode"], rfl, by rw [hH3, hl3]; simp, by simp, by simp, by decide +kernel⟩
    · exact ⟨3, ns, rfl, by rw [hH3]; simp, by intro z; rw [z] at nl; simp at nl; omega, by omega, fun s hs => NMs_ok (nN s hs)⟩
  obtain ⟨k, ss, rfl, g, a1, a2, a3⟩ := q
  refine ⟨h.length + k, h', ss, ?_, F'.keep _ _ (by omega) g, a1, a2, a3, P', F⟩
  simp [hl1] at hH3
  simp only [hl1, hl2, hl3, List.map_cons, List.map_nil] at hH3
  simp [Pg.b_law_right_13, of_e, s1, s2, s3, s4, ← hH3, fDGet, dLook, eb3, kD, dg, em3, wipeE, lc, H3l, e1]
theorem right11 {h : MH} {p b l : Nat} {ss : List Str} (g : h[l]? = some (.lst (ss.map D.str))) :
    Pg.b_law_right_11 [some (.loc p), some (.loc b), some (.loc l), none, none, none, none, none, none, none] h = .nx [some (.loc p), some (.loc b), some (.loc l), some (.tup (ss.map D.str)), none, none, none, none, none, none] h := by
  simp [Pg.b_law_right_11, lst_map_get g]
theorem NameOk.ok {s : Str} (h : NameOk s) : PyData.strOk s = true := strOk_of fun c hc => by
  have := h.2.2 c hc
  have e : ∀ c ∈ Pg.c_LETTERS.cps.toList, c < 256 := by decide +kernel
  exact e c this
theorem right10 {h : MH} {p b l : Nat} {ss : List Str} (g : h[l]? = some (.lst (ss.map D.str))) (h0 : ss ≠ []) (h3 : ss.length ≤ 3) (hs : ∀ s ∈ ss, NameOk s) :
    ∃ h', Pg.b_law_right_10 [some (.loc p), some (.loc b), some (.loc l), some (.tup (ss.map D.str)), none, none, none, none, none, none] h = .nx [some (.loc p), some (.loc b), some (.loc l), some (.tup (ss.map D.str)), none, none, none, none, none, none] h' ∧ Gr h h' := by
  obtain ⟨h', e, G⟩ := read_state_ok h0 h3 hs h
  have e2 := show_state_ok h3 hs h
  have sl := sum_le (ss := ss) (k := 8) (fun s h => (hs s h).2.1)
  have y1 : (" " : Str).length = 1 := rfl
  have fj := f_join (ss := ss) (" " : Str) (seq_lst g) (by rw [y1]; omega)
  have es := eqD_self h' (toTs_strs ss) (canLay_strs fun s hm => (hs s hm).ok) (by rw [depth_strs]; omega)
  refine ⟨h', ?_, G⟩
  simp [Pg.b_law_right_10, e2, tyM, fj, e, es]
theorem LineOk.ln {s : Str} (h : LineOk s) : LnOk s := ⟨h.1, fun c hc => by
  have := h.2 c hc
  revert this
  unfold LCs LnCs
  simp
  omega⟩
theorem right9 {h : MH} {p b : Nat} {T : Int} {d2 d3 : Option D} (P : Pot h p T) (hT : T < 500000) (B : Bk h p b) :
    ∃ (h' : MH) (ls : List Str), Pg.b_law_right_9 [some (.loc p), some (.loc b), d2, d3, none, none, none, none, none, none] h = .nx [some (.loc p), some (.loc b), d2, d3, some (.tup (ls.map D.str)), none, none, none, none, none] h' ∧
      ls.length ≤ 3 ∧ (∀ s ∈ ls, LnOk s) ∧ Pot h' p (T + 20) ∧ Fr p h h' := by
  obtain ⟨d, h1, e1, d0, d1, P1, F1⟩ := take_ok P (by omega) (by decide : (0 : Int) < 4) (by decide)
  obtain ⟨n, rfl⟩ : ∃ n : Nat, d = (n : Int) := ⟨d.toNat, by omega⟩
  have hn : n < 4 := by omega
  obtain ⟨acc, h2, e2, ss, rfl, sl, sS, P2, F2⟩ := loopC_run (src := .rng 0 n) (tg := .nm 9) (cond := bYes) (elt := Pg.m_law_right_8) (e0 := [some (.loc p), some (.loc b), d2, d3, none, none, none, none, none, none]) (ds := (List.range n).map fun (j : Nat) => D.int (0 + (j : Int)))
    (Pv := fun i acc h' => ∃ ss : List Str, acc = ss.map D.str ∧ ss.length = i ∧ (∀ s ∈ ss, LnOk s) ∧ Pot h' p (T + 1 + 6 * i) ∧ Fr p h1 h')
    (fun i acc h' _ => get_rng 0 n h' i)
    (fun i acc h' d ⟨ss, ea, sl, sS, Pq, F⟩ hd => by
      subst ea
      have hi : i < n := by simpa using (List.getElem?_eq_some_iff.mp hd).1
      obtain ⟨s, h4, e4, hs, P4, F4⟩ := line_ok Pq (by omega) ((B.fr F1).fr F)
      refine ⟨_, rfl, true, h', rfl, fun _ => ⟨.str s, h4, ?_, ?_, ss ++ [s], by simp, by simp [sl], ?_, P4.mono (by omega), F.trans F4⟩, fun z => by cases z⟩
      · simp [Pg.m_law_right_8, e4]
      · have : (10 : Nat) < sizeLine := by decide
        simp; omega
      · intro x hx
        rcases List.mem_append.mp hx with hx | hx
        · exact sS x hx
        · rw [List.mem_singleton.mp hx]; exact hs.ln)
    ((List.range n).map fun (j : Nat) => D.int (0 + (j : Int))).length (n + 1) 0 [] h1 (by simp) (by simp) ⟨[], rfl, rfl, by simp, by simpa using P1, Fr.refl⟩
  simp at sl
  refine ⟨h2 ++ [.lst (ss.map D.str)], ss, ?_, by omega, sS, P2.app.mono (by simp; omega), (F1.trans F2).trans Fr.app⟩
  have r2 : CRng (n : Int) := CRng.ok (by omega) (by omega)
  have fr : Src.fuel h1 (Src.rng 0 n) = n + 1 := rfl
  have bt := lst_map_get (get_new h2 (.lst (ss.map D.str)))
  simp [Pg.b_law_right_9, take_e, e1, wipeE, r2, fr, e2, bt]
theorem right7 {h : MH} {p b : Nat} {T : Int} {d2 d3 : Option D} {ls : List Str} (P : Pot h p T) (hT : T < 500000) (h3 : ls.length ≤ 3) (hs : ∀ s ∈ ls, LnOk s) :
    ∃ (h' : MH) (ls' : List Str), Pg.b_law_right_7 [some (.loc p), some (.loc b), d2, d3, some (.tup (ls.map D.str)), none, none, none, none, none] h = .nx [some (.loc p), some (.loc b), d2, d3, some (.tup (ls'.map D.str)), none, none, none, none, none] h' ∧
      ls'.length ≤ 3 ∧ (∀ s ∈ ls', LnOk s) ∧ Pot h' p (T + 1) ∧ Fr p h h' := by
  have s0 : 0 ≤ sizeLine := by decide
  have s1 : 1 ≤ sizeLine := by decide
  have s3 : 3 ≤ sizeLine := by decide
  have s5 : 5 ≤ sizeLine := by decide
  have pl := P.lt
  have P0 : Pot (h ++ [.lst [.tup (ls.map D.str), .tup (ls.map D.str), .tup [.str "", .str " |", .str "-"], .tup [.str "a  b "], .tup []]]) p T := P.app
  obtain ⟨x, h', e1, hx, P', F'⟩ := of_ok P0 (by omega) (get_new _ _) (by omega) (by simp) (by simp)
  have q : ∃ ls' : List Str, x = .tup (ls'.map D.str) ∧ ls'.length ≤ 3 ∧ ∀ s ∈ ls', LnOk s := by
    simp only [List.mem_cons, List.not_mem_nil, or_false] at hx
    rcases hx with rfl | rfl | rfl | rfl | rfl
    · exact ⟨ls, rfl, h3, hs⟩
    · exact ⟨ls, rfl, h3, hs⟩
    · exact ⟨["", " |", "-"], rfl, by decide, by decide +kernel⟩
    · exact ⟨["a  b "], rfl, by decide, by decide +kernel⟩
    · exact ⟨[], rfl, by decide, by simp⟩
  obtain ⟨ls', rfl, a, c⟩ := q
  refine ⟨h', ls', ?_, a, c, P', Fr.app.trans F'⟩
  simp [Pg.b_law_right_7, of_e, s0, s1, s3, s5, e1]
theorem right65 {h : MH} {p b : Nat} {d2 d3 : Option D} {ls : List Str} (h3 : ls.length ≤ 3) (hs : ∀ s ∈ ls, LnOk s) :
    ∃ h' h'', Pg.b_law_right_6 [some (.loc p), some (.loc b), d2, d3, some (.tup (ls.map D.str)), none, none, none, none, none] h = .nx [some (.loc p), some (.loc b), d2, d3, some (.tup (ls.map D.str)), some (.str (linesText ls)), none, none, none, none] h' ∧ 
     Pg.b_law_right_5 [some (.loc p), some (.loc b), d2, d3, some (.tup (ls.map D.str)), some (.str (linesText ls)), none, none, none, none] h' = .nx [some (.loc p), some (.loc b), d2, d3, some (.tup (ls.map D.str)), some (.str (linesText ls)), none, none, none, none] h'' ∧ Gr h h'' := by
  obtain ⟨h1, e1, G1⟩ := law_lines_ok h3 hs h
  obtain ⟨h2, e2, G2⟩ := show_lines_ok h3 hs h1
  obtain ⟨hx, e3, G3⟩ := read_lines_ok h3 hs h2
  have es := eqD_self hx (toTs_strs ls) (canLay_strs fun s hm => (hs s hm).ok) (by rw [depth_strs]; omega)
  refine ⟨h1, hx, ?_, ?_, (G1.trans G2).trans G3⟩
  · simp [Pg.b_law_right_6, e1]
  · simp [Pg.b_law_right_5, e2, e3, es]
theorem of_ints {h : MH} {p : Nat} {T : Int} (P : Pot h p T) (hT : T < 500000) (ns : List Nat) (h0 : 0 < ns.length) (h1 : ns.length < 100) :
    ∃ (n : Nat) (h' : MH), ofF [.loc p, .loc h.length] (h ++ [.lst (ns.map fun (n : Nat) => D.int (n : Int))]) = .ok (.int (n : Int)) h' ∧ n ∈ ns ∧ Pot h' p (T + 1) ∧ Fr p h h' := by
  have pl := P.lt
  have P0 : Pot (h ++ [.lst (ns.map fun (n : Nat) => D.int (n : Int))]) p T := P.app
  obtain ⟨x, h', e1, hx, P', F'⟩ := of_ok P0 (by omega) (get_new _ _) (by omega) (by simpa using h0) (by simp; omega)
  obtain ⟨n, hm, rfl⟩ := List.mem_map.mp hx
  exact ⟨n, h', e1, hm, P', Fr.app.trans F'⟩
theorem right4 {h : MH} {p b : Nat} {T : Int} {d2 d3 d4 d5 : Option D} (P : Pot h p T) (hT : T < 500000) :
    ∃ (a : Nat) (h' : MH), Pg.b_law_right_4 [some (.loc p), some (.loc b), d2, d3, d4, d5, none, none, none, none] h = .nx [some (.loc p), some (.loc b), d2, d3, d4, d5, some (.int (a : Int)), none, none, none] h' ∧ a < 1000000000 ∧ Pot h' p (T + 1) ∧ Fr p h h' := by
  have s6 : 6 ≤ sizeLine := by decide
  obtain ⟨n, h', e, hn, P', F⟩ := of_ints P hT [0, 1, 7, 10, 199, 999999999] (by simp) (by simp)
  refine ⟨n, h', ?_, ?_, P', F⟩
  · simp at e
    simp [Pg.b_law_right_4, of_e, s6, e]
  · simp at hn; omega
theorem right3 {h : MH} {p b a : Nat} {T : Int} {d2 d3 d5 : Option D} {d4 : D} (ha : a < 1000000000) (P : Pot h p T) (hT : T < 500000) :
    ∃ (a2 : Nat) (h' : MH), Pg.b_law_right_3 [some (.loc p), some (.loc b), d2, d3, some d4, d5, some (.int (a : Int)), none, none, none] h = .nx [some (.loc p), some (.loc b), d2, d3, some d4, d5, some (.int (a : Int)), some (.tup [.int (a : Int), .int (a2 : Int), d4]), none, none] h' ∧ a ≤ a2 ∧ a2 < 1000000000 ∧ Pot h' p (T + 1) ∧ Fr p h h' := by
  have s3 : 3 ≤ sizeLine := by decide
  obtain ⟨n, h', e, hn, P', F⟩ := of_ints P hT [0, 1, 5] (by simp) (by simp)
  have hn5 : n ≤ 5 := by simp at hn; omega
  obtain ⟨c, hc⟩ : ∃ c : Nat, (if (a : Int) + (n : Int) < 999999999 then (a : Int) + (n : Int) else 999999999) = (c : Int) ∧ a ≤ c ∧ c < 1000000000 := by
    by_cases q : (a : Int) + (n : Int) < 999999999
    · exact ⟨a + n, by rw [if_pos q]; simp, by omega, by omega⟩
    · exact ⟨999999999, by rw [if_neg q]; rfl, by omega, by omega⟩
  refine ⟨c, h', ?_, hc.2.1, hc.2.2, P', F⟩
  simp at e
  simp [Pg.b_law_right_3, of_e, s3, e, hc.1]
theorem right2 {h : MH} {p b a a2 : Nat} {d2 d3 d4 d6 : Option D} {ls : List Str} (ha : a < 1000000000) (ha2 : a2 < 1000000000) (h3 : ls.length ≤ 3) (hs : ∀ s ∈ ls, LnOk s) :
    Pg.b_law_right_2 [some (.loc p), some (.loc b), d2, d3, d4, some (.str (linesText ls)), d6, some (.tup [.int (a : Int), .int (a2 : Int), .tup (ls.map D.str)]), none, none] h =
      .nx [some (.loc p), some (.loc b), d2, d3, d4, some (.str (editS a a2 ls)), d6, some (.tup [.int (a : Int), .int (a2 : Int), .tup (ls.map D.str)]), none, none] h := by
  have ll := lines_len h3 hs
  have la := numS_len ha
  have lb := numS_len ha2
  have s1 : (" " : Str).length = 1 := rfl
  have s2 : ("\n" : Str).length = 1 := rfl
  have k2 : (numS a).length + (" " : Str).length ≤ sizeLine := small_le (by omega)
  have k3 : (numS a ++ (" " : Str)).length + (numS a2).length ≤ sizeLine := small_le (by simp only [app_len]; omega)
  have k4 : (numS a ++ (" " : Str) ++ numS a2).length + ("\n" : Str).length ≤ sizeLine := small_le (by simp only [app_len]; omega)
  have k5 : (numS a ++ (" " : Str) ++ numS a2 ++ ("\n" : Str)).length + (linesText ls).length ≤ sizeLine := small_le (by simp only [app_len]; omega)
  have f1 := bStr_num ha h
  have f2 := bStr_num ha2 h
  simp only [Pg.b_law_right_2]
  simp [-bStr_I, f1, f2, k2, k3, k4, k5, editS]
theorem toT_edit (a a2 : Nat) (ls : List Str) : toTs [.int (a : Int), .int (a2 : Int), .tup (ls.map D.str)] = some [.int (a : Int), .int (a2 : Int), .tuple (ls.map PyData.str)] := by
  simp [toTs, toT, toTs_strs]
theorem right1 {h : MH} {p b a a2 : Nat} {d2 d3 d4 d6 : Option D} {ls : List Str} (hab : a ≤ a2) (ha2 : a2 < 1000000000) (h3 : ls.length ≤ 3) (hs : ∀ s ∈ ls, LnOk s) :
    ∃ h', Pg.b_law_right_1 [some (.loc p), some (.loc b), d2, d3, d4, some (.str (editS a a2 ls)), d6, some (.tup [.int (a : Int), .int (a2 : Int), .tup (ls.map D.str)]), none, none] h = .rt (.bl true) h' ∧ Gr h h' := by
  obtain ⟨h1, e1, G1⟩ := show_edit_ok (show a < 1000000000 by omega) ha2 h3 hs h
  obtain ⟨h2, e2, G2⟩ := read_edit_ok hab ha2 h3 hs h1
  have es := eqD_self h2 (toT_edit a a2 ls) (by simp [PyData.canLayAll0, PyData.canLay0, canLay_strs fun s hm => (hs s hm).ok]) (by simp [PyData.depthAll, PyData.depth, depth_strs])
  refine ⟨h2, ?_, G1.trans G2⟩
  simp [Pg.b_law_right_1, e1, e2, es]
theorem right_ok {h : MH} {p b : Nat} {T : Int} (P : Pot h p T) (hT : T < 400000) (B : Bk h p b) :
    ∃ h', Pg.F_law_right [.loc p, .loc b] h = .ok (.bl true) h' ∧ Pot h' p (T + 40) ∧ Fr p h h' := by
  obtain ⟨l, h1, ss, e1, g1, n0, n3, nN, P1, F1⟩ := right13 P (by omega) B
  have e2 := right11 (p := p) (b := b) g1
  obtain ⟨h2, e3, G2⟩ := right10 (p := p) (b := b) g1 n0 n3 nN
  obtain ⟨h3, ls, e4, l3, lS, P3, F3⟩ := right9 (d2 := some (.loc l)) (d3 := some (.tup (ss.map D.str))) (G2.pot P1) (by omega) ((B.fr F1).fr (G2.fr p))
  obtain ⟨h4, ls', e5, l3', lS', P4, F4⟩ := right7 (b := b) (d2 := some (.loc l)) (d3 := some (.tup (ss.map D.str))) P3 (by omega) l3 lS
  obtain ⟨h5, h6, e6, e7, G6⟩ := right65 (p := p) (b := b) (d2 := some (.loc l)) (d3 := some (.tup (ss.map D.str))) (h := h4) l3' lS'
  obtain ⟨a, h7, e8, a9, P7, F7⟩ := right4 (b := b) (d2 := some (.loc l)) (d3 := some (.tup (ss.map D.str))) (d4 := some (.tup (ls'.map D.str))) (d5 := some (.str (linesText ls'))) (G6.pot P4) (by omega)
  obtain ⟨a2, h8, e9, aa, a29, P8, F8⟩ := right3 (b := b) (d2 := some (.loc l)) (d3 := some (.tup (ss.map D.str))) (d4 := .tup (ls'.map D.str)) (d5 := some (.str (linesText ls'))) a9 P7 (by omega)
  have e10 := right2 (h := h8) (p := p) (b := b) (d2 := some (.loc l)) (d3 := some (.tup (ss.map D.str))) (d4 := some (.tup (ls'.map D.str))) (d6 := some (.int (a : Int))) a9 a29 l3' lS'
  obtain ⟨h9, e11, G9⟩ := right1 (h := h8) (p := p) (b := b) (d2 := some (.loc l)) (d3 := some (.tup (ss.map D.str))) (d4 := some (.tup (ls'.map D.str))) (d6 := some (.int (a : Int))) aa a29 l3' lS'
  refine ⟨h9, ?_, (G9.pot P8).mono (by omega), ((((((F1.trans (G2.fr p)).trans F3).trans F4).trans (G6.fr p)).trans F7).trans F8).trans (G9.fr p)⟩
  simp only [Pg.F_law_right, Pg.b_law_right, e_denF]
  rw [show startE 10 [D.loc p, D.loc b] = [some (.loc p), some (.loc b), none, none, none, none, none, none, none, none] from rfl]
  simp only [e_sSeq, e1, e2, e3, e4, e5, e6, e7, e8, e9, e10, e11]
theorem law_true (ns : List Int) (hl : ns.length ≤ 63) : ∃ h', Pg.F_law [.rol (ns.map D.int)] [] = .ok (.bl true) h' := by
  obtain ⟨t, ht, t0, t3⟩ : ∃ t : Nat, (if 1 < (if (ns.length : Int) < 3 then (ns.length : Int) else 3) then (if (ns.length : Int) < 3 then (ns.length : Int) else 3) else 1) = (t : Int) ∧ 0 ≤ t ∧ t ≤ 3 := by
    refine ⟨(if 1 < (if (ns.length : Int) < 3 then (ns.length : Int) else 3) then (if (ns.length : Int) < 3 then (ns.length : Int) else 3) else 1).toNat, ?_, ?_, ?_⟩ <;> split <;> (try split) <;> omega
  obtain ⟨e', h2, e2, d1, d2, d3, rfl⟩ := loopF_run (src := .rng 0 t) (tg := .nm 1) (body := Pg.b_law_2) (ds := (List.range t).map fun (j : Nat) => D.int (0 + (j : Int)))
    (Pv := fun i e h' => ∃ d1 d2 d3, e = [some (.rol (ns.map D.int)), d1, d2, d3, none])
    (fun i acc h' _ => get_rng 0 t h' i)
    (fun i e h d ⟨d1, d2, d3, ee⟩ hd => by
      subst ee
      obtain ⟨hi, rfl⟩ := List.getElem?_eq_some_iff.mp hd
      have hi' : i < t := by simpa using hi
      obtain ⟨h1, e1, P1, -⟩ := pot_ok (h := h) (ns := ns) (k := i) (by omega)
      obtain ⟨b, h2, e2, B2, P2, F2⟩ := book_ok P1 (by omega)
      obtain ⟨acc, h3, e3, ea, P3, B3⟩ := loopC_run (src := .rng 0 16) (tg := .nm 4) (cond := bYes) (elt := Pg.m_law_1) (e0 := [some (.rol (ns.map D.int)), some (.int (i : Int)), some (.loc h.length), some (.loc b), none]) (ds := (List.range 16).map fun (j : Nat) => D.int (0 + (j : Int))) (h := h2)
        (Pv := fun i acc h' => acc = (List.replicate i (D.bl true)) ∧ Pot h' h.length (0 + 70 + 40 * i) ∧ Bk h' h.length b)
        (fun i acc h' _ => get_rng 0 16 h' i)
        (fun i acc h' d ⟨ea, Pq, Bq⟩ hd => by
          subst ea
          have hi : i < 16 := by simpa using (List.getElem?_eq_some_iff.mp hd).1
          obtain ⟨h4, e4, P4, F4⟩ := right_ok Pq (by omega) Bq
          refine ⟨_, rfl, true, h', rfl, fun _ => ⟨.bl true, h4, ?_, ?_, by rw [List.replicate_succ'], P4.mono (by omega), Bq.fr F4⟩, fun z => by cases z⟩
          · simp [Pg.m_law_1, e4]
          · have : (16 : Nat) < sizeLine := by decide
            simp; omega)
        ((List.range 16).map fun (j : Nat) => D.int (0 + (j : Int))).length 17 0 [] (by simp) (by simp) ⟨rfl, P2.mono (by omega), B2⟩
      have fa := f_all (ds := List.replicate 16 .non) (get_new h3 (.lst (List.map (fun _ => D.bl true) (List.replicate 16 D.non))))
      have ra : acc = List.map (fun _ => D.bl true) (List.replicate 16 D.non) := by rw [ea]; simp
      rw [ra] at e3
      refine ⟨_, rfl, _, h3 ++ [.lst (List.map (fun _ => D.bl true) (List.replicate 16 D.non))], .inl ?_, some (.int (i : Int)), some (.loc h.length), some (.loc b), rfl⟩
      have r2 : CRng 16 := by decide
      have fr : Src.fuel h2 (Src.rng 0 16) = 17 := rfl
      have zi : ((List.range t).map fun (j : Nat) => D.int (0 + (j : Int)))[i] = .int (i : Int) := by simp
      simp only [zi, List.set]
      simp [Pg.b_law_2, pot_e, e1, e2, wipeE, r2, fr]
      rw [show List.map (fun _ => D.bl true) (List.replicate 16 D.non) = List.replicate 16 (D.bl true) from by simp] at e3 fa
      rw [e3]
      simp only [R.bind_ok, fa]
      rfl)
    ((List.range t).map fun (j : Nat) => D.int (0 + (j : Int))).length (t + 1) 0 [some (.rol (ns.map D.int)), none, none, none, none] [] (by simp) (by simp) ⟨none, none, none, rfl⟩
  refine ⟨h2, ?_⟩
  have r2 : CRng (t : Int) := CRng.ok (by omega) (by omega)
  have fr : Src.fuel [] (Src.rng 0 t) = t + 1 := rfl
  simp [Pg.F_law, Pg.b_law, ht, r2, fr, e2]
end MP
set_option Elab.async false
set_option linter.all false
set_option maxRecDepth 100000
set_option maxHeartbeats 0
namespace MP
open PySem PySem.Spec L2
theorem good_law {K : PySem.W.Frag} {mg : Str → Option Value} {P : Program} {w : World} {base : Heap} (H : Hp) (a : Addr) (ns : List Int) (hO : Only H) (hS : SqL K H a (ns.map V.int)) {F : List D → MH → R D} {h' : MH} (e : F [.rol (ns.map D.int)] [] = .ok (.bl true) h') :
    spF K 1 F [.ref a] H (fun v _ => v = .bl true) fun _ _ _ => False := by
  refine ⟨rfl, [], [], [.rol (ns.map D.int)], ⟨rfl, by simp, fun n a mo e => by simp at e⟩, ?_, ?_⟩
  · refine .cons (.rol ?_ (rints ns)) .nil
    rcases hS with (h | ⟨o, h⟩) | h
    · rcases hO a with z | ⟨o, xs, z⟩
      · rw [h] at z; cases z
      · rw [h] at z; cases z
    · exact .inl ⟨o, h⟩
    · exact .inr h
  · rw [e]
    intro ρ' v H' _ _ r
    cases r; rfl
where rints : ∀ {K : PySem.W.Frag} {ρ : List Addr} {H : Hp} (ns : List Int), RVs K ρ H (ns.map D.int) (ns.map V.int)
  | _, _, _, [] => .nil
  | _, _, _, n :: ns => .cons (.int n) (rints ns)
abbrev Rw : PySem.W.OpenRow := PySem.W.OpenLaw.row PySem.Challenge.rw_editreach_k81_states_lines_and_edits_wri
abbrev hk : PySem.W.Hook := He.hookD 4 Pg.fa Pg.fn
def ob (s : PySem.W.SharedT) : He.AlD := He.obsDG 4 Pg.fa Pg.fn (HandSHeadRun.getT s)
theorem ob_eq (s : PySem.W.SharedT) : ob s = hk.obs s.abs := He.obsDG_eq (HandSHeadRun.getT_eq s)
theorem run (w : World) : HandSHeadRun.RunEq Rw (PySem.W.view Rw.prog [Pg.topIx]) hk ob 4000 Pg.loose w := by
  intro os
  kernel_rfl
theorem facts {P : Program} {w : World} {K : PySem.W.Frag} {h : Heap} {mg : Str → Option Value} {f : Addr} (X : K.In h) (G : h.Ns mainGlobals mg) (hfa : mg ("law" : Str) = some (.ref f)) (c : He.SaysD Pg.fa Pg.fn K) :
    ∃ fd : FuncData, (∀ (s : Shared) (v : Value), BindsTo s fd ⟨[v], []⟩ [("_law_script", v)]) ∧ ∀ base : Heap, K.In base → base.Ns mainGlobals mg → FnOk P w K mg base CX0 Pg.lawLevel f fd ["_law_script"] (spF K 1 Pg.F_law) := by
  obtain ⟨fd, F⟩ := c.def_ Pg.lawDef (d := Pg.dD "law" Pg.st_law) rfl
  have e := hfa.symm.trans (He.glo_ok X G (c.fact Pg.lawFact (f := .glo "law") rfl))
  cases e
  have b := FunD.bindsA (ps := ["_law_script"]) F fun _ _ _ _ _ _ us hl => match us, hl with | [_], _ => rfl
  exact ⟨fd, fun s v => b s [v] rfl, fun base _ _ => Pg.law_fn X G c F⟩
end MP
open PySem PySem.W PySem.Calls PyProof.Rows
theorem PySem.Challenge.cw_editreach_k81_states_lines_and_edits_wri_holds : PySem.Challenge.rw_editreach_k81_states_lines_and_edits_wri.Holds := by
  w_on; o_law
  refine HandSHeadRun.head_any (r := OpenLaw.row PySem.Challenge.rw_editreach_k81_states_lines_and_edits_wri) (q := view (OpenLaw.row PySem.Challenge.rw_editreach_k81_states_lines_and_edits_wri).prog [MP.Pg.topIx]) (H := MP.hk) (ob := MP.ob) (M := 4000) (loose := MP.Pg.loose) (d := HandSHeadRun.topDef (OpenLaw.row PySem.Challenge.rw_editreach_k81_states_lines_and_edits_wri).prog MP.Pg.topIx) (kwd := []) MP.ob_eq
    (by kernel_rfl) (fun s => by kernel_rfl) MP.run (by kernel_rfl) (by kernel_rfl) (by kernel_rfl) (by rfl) (by first | assumption | decide +kernel) (by decide +kernel) ⟨rfl, rfl, rfl, rfl, rfl, by decide +kernel⟩ ?hw ?hc
  case hw => w_witness2
  case hc =>
    refine L2.walk_ofE (l := PySem.Challenge.rw_editreach_k81_states_lines_and_edits_wri) (n := 63) (k := MP.Pg.lawLevel) (x := "_law_script") (CX := L2.CX0) rfl (by decide) (by kernel_rfl) ⟨rfl, by decide, by decide⟩ ?F (fun _ _ _ _ z => z)
    intro w mg fa h Y G hmg0
    obtain ⟨K, KX, c⟩ := Y
    have hmg : mg ("law" : PySem.Str) = some (.ref fa) := by
      have e : (HandSHeadRun.topDef (OpenLaw.row PySem.Challenge.rw_editreach_k81_states_lines_and_edits_wri).prog MP.Pg.topIx).name = ("law" : PySem.Str) := by kernel_rfl
      rw [← e]
      exact hmg0
    obtain ⟨fd, hb, hF⟩ := MP.facts (P := (PySem.Challenge.rw_editreach_k81_states_lines_and_edits_wri).prog) (w := w) KX G hmg c
    refine ⟨K, fd, MP.spF K 1 MP.Pg.F_law, KX, hb, fun H a ns hl hO hS => ?_, hF⟩
    obtain ⟨h', e⟩ := MP.law_true ns hl
    exact MP.good_law (mg := mg) (P := (PySem.Challenge.rw_editreach_k81_states_lines_and_edits_wri).prog) (w := w) (base := h) H a ns hO hS e
