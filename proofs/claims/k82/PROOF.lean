import PyProof.Rows.All
import Wide.All
import OpenK.AllK
import Wide.FinOn
import HandS.ForMost
import HandS.IsInst
import HandS.FStr
import HandS.Wide
import HandS.Flow
import HandS.TupAny
import HandS.StrMore
import HandS.ExcInit
import HandS.HeadHook4
import HandS.HeadWalk
import HandS.Replace
import HandS.CallLocal
import HandS.HeadEnd
import KE.KExcSuper
import HandS.ExcField
import HandS.ExcIs
import KE.KTryMore
import HandS.Exc
import HandS.ExcValue
import Lean
import HandS.Head0
import HandS.Head1
import HandS.Head2
import PySem.Challenge.RW_editreach_k82_texts_that_are_none
set_option Elab.async false
set_option linter.all false
set_option maxRecDepth 100000
/-! M0: the data, the relation to the abstract heap, results, the readings tM, tS, tMI, tG. -/
namespace MP
open PySem PySem.Spec L2

inductive D where
  | non | bl (b : Bool) | int (i : Int) | str (s : Str) | tup (xs : List D) | rol (xs : List D) | loc (n : Nat) | ty (n : String) | fn (x : Str)
inductive MO where
  | lst (xs : List D)
  | dic (kvs : List (Key × D))
  | dit (kvs : List (List Key × D))
  | ins (C : Str) (fs : List (Str × D))
  | err (C : Str) (d : D)
abbrev MH := List MO
abbrev Env := List (Option D)
inductive R (α : Type) where
  | ok (a : α) (h : MH)
  | er (c : Str) (d : D) (h : MH)
  | no
def R.bind {α β : Type} (r : R α) (k : α → MH → R β) : R β := match r with
  | .ok a h => k a h
  | .er c d h => .er c d h
  | .no => .no
@[simp] theorem R.bind_ok {α β : Type} (a : α) (h : MH) (k : α → MH → R β) : (R.ok a h).bind k = k a h := rfl
@[simp] theorem R.bind_er {α β : Type} (c : Str) (d : D) (h : MH) (k : α → MH → R β) : (R.er c d h).bind k = .er c d h := rfl
@[simp] theorem R.bind_no {α β : Type} (k : α → MH → R β) : (R.no : R α).bind k = .no := rfl
theorem R.bind_assoc {α β γ : Type} (r : R α) (k : α → MH → R β) (l : β → MH → R γ) : (r.bind k).bind l = r.bind fun a h => (k a h).bind l := by cases r <;> rfl
abbrev M := Env → MH → R D
inductive RS where
  | nx (e : Env) (h : MH)
  | rt (d : D) (h : MH)
  | bk (e : Env) (h : MH)
  | ct (e : Env) (h : MH)
  | er (c : Str) (d : D) (e : Env) (h : MH)
  | no
abbrev S := Env → MH → RS
/-- an expression's result, then a statement's -/
def R.st {α : Type} (r : R α) (e : Env) (k : α → MH → RS) : RS := match r with
  | .ok a h => k a h
  | .er c d h => .er c d e h
  | .no => .no
@[simp] theorem R.st_ok {α : Type} (a : α) (h : MH) (e : Env) (k : α → MH → RS) : (R.ok a h).st e k = k a h := rfl
@[simp] theorem R.st_er {α : Type} (c : Str) (d : D) (h : MH) (e : Env) (k : α → MH → RS) : (R.er c d h).st e k = .er c d e h := rfl
@[simp] theorem R.st_no {α : Type} (e : Env) (k : α → MH → RS) : (R.no : R α).st e k = .no := rfl

/-! ### the relation -/
/-- a list that is read only -/
def SqR (K : PySem.W.Frag) (H : Hp) (a : Addr) (xs : List V) : Prop := (∃ o, H a = some (.frz o (.lst xs))) ∨
    ∃ (o : Obj) (its : Array Value) (n : Nat), K.lookup a = some o ∧ o.cls = .type "list" ∧ o.dict = none ∧ o.data = .seq its n ∧ its.size ≤ sizeLine ∧ Vals xs its.toList
theorem SqR.l {K : PySem.W.Frag} {H : Hp} {a : Addr} {xs : List V} (h : SqR K H a xs) : SqL K H a xs := by
  rcases h with h | h
  · exact .inl (.inr h)
  · exact .inr h
mutual
inductive RV (K : PySem.W.Frag) (ρ : List Addr) (H : Hp) : D → V → Prop where
  | non : RV K ρ H .non .non
  | bl (b : Bool) : RV K ρ H (.bl b) (.bl b)
  | int (i : Int) : RV K ρ H (.int i) (.int i)
  | str (s : Str) : RV K ρ H (.str s) (.str s)
  | ty (n : String) : RV K ρ H (.ty n) (.ty n)
  | fn (x : Str) : RV K ρ H (.fn x) (.ref (He.ga K x))
  | loc {n : Nat} {a : Addr} (e : ρ[n]? = some a) : RV K ρ H (.loc n) (.ref a)
  | tup {a : Addr} {ds : List D} {vs : List V} (e : H a = some (.tup vs)) (r : RVs K ρ H ds vs) : RV K ρ H (.tup ds) (.ref a)
  | rol {a : Addr} {ds : List D} {vs : List V} (e : SqR K H a vs) (r : RVs K ρ H ds vs) : RV K ρ H (.rol ds) (.ref a)
inductive RVs (K : PySem.W.Frag) (ρ : List Addr) (H : Hp) : List D → List V → Prop where
  | nil : RVs K ρ H [] []
  | cons {d : D} {v : V} {ds : List D} {vs : List V} (r : RV K ρ H d v) (t : RVs K ρ H ds vs) : RVs K ρ H (d :: ds) (v :: vs)
end
section
variable {K : PySem.W.Frag} {ρ ρ' : List Addr} {H H' : Hp}
theorem RVs.length : ∀ {ds : List D} {vs : List V}, RVs K ρ H ds vs → ds.length = vs.length
  | _, _, .nil => rfl
  | _, _, .cons _ t => by simp [RVs.length t]
theorem RVs.get : ∀ {ds : List D} {vs : List V} {i : Nat} {d : D}, RVs K ρ H ds vs → ds[i]? = some d → ∃ v, vs[i]? = some v ∧ RV K ρ H d v
  | _, _, _, _, .nil, e => by simp at e
  | _, _, 0, _, .cons r _, e => by simp at e; subst e; exact ⟨_, rfl, r⟩
  | _, _, i + 1, d, .cons _ t, e => by
    obtain ⟨v, h1, h2⟩ := RVs.get (i := i) (d := d) t (by simpa using e)
    exact ⟨v, by simpa using h1, h2⟩
theorem RVs.append : ∀ {ds es : List D} {vs ws : List V}, RVs K ρ H ds vs → RVs K ρ H es ws → RVs K ρ H (ds ++ es) (vs ++ ws)
  | _, _, _, _, .nil, s => s
  | _, _, _, _, .cons r t, s => .cons r (RVs.append t s)
theorem RVs.take : ∀ {ds : List D} {vs : List V} (n : Nat), RVs K ρ H ds vs → RVs K ρ H (ds.take n) (vs.take n)
  | _, _, 0, _ => .nil
  | _, _, _ + 1, .nil => .nil
  | _, _, n + 1, .cons r t => .cons r (RVs.take n t)
theorem RVs.drop : ∀ {ds : List D} {vs : List V} (n : Nat), RVs K ρ H ds vs → RVs K ρ H (ds.drop n) (vs.drop n)
  | _, _, 0, r => r
  | _, _, _ + 1, .nil => .nil
  | _, _, n + 1, .cons _ t => RVs.drop n t
theorem RVs.set {d : D} {v : V} (r : RV K ρ H d v) : ∀ {ds : List D} {vs : List V} (i : Nat), RVs K ρ H ds vs → RVs K ρ H (ds.set i d) (vs.set i v)
  | _, _, _, .nil => .nil
  | _, _, 0, .cons _ t => .cons r t
  | _, _, i + 1, .cons q t => .cons q (RVs.set r i t)
/-- the dict of an error as it stands -/
inductive XO (d : Addr) (fs : List (Str × V)) : HO → Prop where
  | ex : XO d fs (exd d fs)
  | xd : XO d fs (.xd fs)
/-- an error as it stands: its class, its dict -/
def EO (a C dx : Addr) (o : HO) : Prop := ∃ φ : Heap → Prop, o = .ext φ ∧ ∀ h, φ h → ∃ (ob : Obj) (vs : Array Value), h.get? a = some ob ∧ ob.cls = .ref C ∧ ob.dict = some dx ∧ ob.data = .fields vs
theorem EO.exo {a C dx : Addr} : EO a C dx (exo a C (some dx)) := ⟨_, rfl, fun h ⟨t1, e⟩ => ⟨_, _, e, rfl, rfl, rfl⟩⟩
/-- pairs of names (keys) and values -/
inductive RKs (K : PySem.W.Frag) (ρ : List Addr) (H : Hp) {κ : Type} : List (κ × D) → List (κ × V) → Prop where
  | nil : RKs K ρ H [] []
  | cons {k : κ} {d : D} {v : V} {ds : List (κ × D)} {vs : List (κ × V)} (r : RV K ρ H d v) (t : RKs K ρ H ds vs) : RKs K ρ H ((k, d) :: ds) ((k, v) :: vs)
/-- a mutable object as it stands -/
def OR (K : PySem.W.Frag) (ρ : List Addr) (H : Hp) (a : Addr) : MO → Prop
  | .lst ds => ∃ vs, H a = some (.lst vs) ∧ RVs K ρ H ds vs
  | .dic kvs => ∃ ws, H a = some (.dK ws) ∧ RKs K ρ H kvs ws
  | .dit kvs => ∃ ws, H a = some (.dT ws) ∧ RKs K ρ H kvs ws
  | .ins C fs => ∃ dx ws, H a = some (.ins (He.ga K C) dx ws) ∧ RKs K ρ H fs ws
  | .err C d => ∃ dx v o od, H a = some o ∧ EO a (He.ga K C) dx o ∧ H dx = some od ∧ XO dx [(("value" : Str), v)] od ∧ dx ∉ ρ ∧ RV K ρ H d v
structure HR (K : PySem.W.Frag) (ρ : List Addr) (h : MH) (H : Hp) : Prop where
  len : ρ.length = h.length
  nd : ρ.Nodup
  ob : ∀ (n : Nat) (a : Addr) (mo : MO), ρ[n]? = some a → h[n]? = some mo → OR K ρ H a mo
structure Ext (ρ : List Addr) (H : Hp) (ρ' : List Addr) (H' : Hp) : Prop where
  pre : ∃ more, ρ' = ρ ++ more ∧ ∀ a ∈ more, H a = none
  keep : ∀ a o, H a = some o → a ∉ ρ → H' a = some o
  th : ∀ a o, H a = some o → ∃ o', H' a = some o'
theorem Ext.refl : Ext ρ H ρ H := ⟨⟨[], by simp, by simp⟩, fun _ _ e _ => e, fun _ o e => ⟨o, e⟩⟩
theorem Ext.nn (x : Ext ρ H ρ' H') {a : Addr} (e : H' a = none) : H a = none := by
  cases q : H a with
  | none => rfl
  | some o =>
    obtain ⟨o', q'⟩ := x.th a o q
    rw [e] at q'; cases q'
theorem Ext.at (x : Ext ρ H ρ' H') {n : Nat} {a : Addr} (e : ρ[n]? = some a) : ρ'[n]? = some a := by
  obtain ⟨m, rfl, _⟩ := x.pre
  have := (List.getElem?_eq_some_iff.mp e).1
  rw [List.getElem?_append_left this]; exact e
/-- at a location stands a mutable thing -/
theorem HR.mut {h : MH} (R : HR K ρ h H) {a : Addr} (ha : a ∈ ρ) : (∃ vs, H a = some (.lst vs)) ∨ (∃ ws, H a = some (.dK ws)) ∨ (∃ ws, H a = some (.dT ws)) ∨ (∃ C dx ws, H a = some (.ins C dx ws)) ∨ ∃ φ, H a = some (.ext φ) := by
  obtain ⟨n, hn, e⟩ := List.mem_iff_getElem.mp ha
  have hl : n < h.length := by rw [← R.len]; exact hn
  have q := R.ob n a h[n] (by rw [List.getElem?_eq_getElem hn, e]) (List.getElem?_eq_getElem hl)
  revert q
  cases h[n] with
  | lst ds => rintro ⟨vs, q, _⟩; exact .inl ⟨vs, q⟩
  | dic kvs => rintro ⟨vs, q, _⟩; exact .inr (.inl ⟨vs, q⟩)
  | dit kvs => rintro ⟨vs, q, _⟩; exact .inr (.inr (.inl ⟨vs, q⟩))
  | ins C fs => rintro ⟨dx, vs, q, _⟩; exact .inr (.inr (.inr (.inl ⟨_, dx, vs, q⟩)))
  | err C d => rintro ⟨dx, v, o, od, q, ⟨φ, rfl, _⟩, _⟩; exact .inr (.inr (.inr (.inr ⟨φ, q⟩)))
theorem HR.notin {h : MH} (R : HR K ρ h H) {a : Addr} {o : HO} (e : H a = some o) (h1 : ∀ vs, o ≠ .lst vs) (h2 : ∀ ws, o ≠ .dK ws) (h3 : ∀ ws, o ≠ .dT ws) (h4 : ∀ C dx ws, o ≠ .ins C dx ws) (h5 : ∀ φ, o ≠ .ext φ) : a ∉ ρ := fun ha => by
  rcases R.mut ha with ⟨_, q⟩ | ⟨_, q⟩ | ⟨_, q⟩ | ⟨_, _, _, q⟩ | ⟨_, q⟩ <;> (rw [e] at q; have q := Option.some.inj q)
  · exact h1 _ q
  · exact h2 _ q
  · exact h3 _ q
  · exact h4 _ _ _ q
  · exact h5 _ q
/-- what was read stays to be read -/
structure Kp (K : PySem.W.Frag) (ρ : List Addr) (H : Hp) (ρ' : List Addr) (H' : Hp) : Prop where
  pre : ∀ (n : Nat) (a : Addr), ρ[n]? = some a → ρ'[n]? = some a
  tup : ∀ a xs, H a = some (.tup xs) → H' a = some (.tup xs)
  frz : ∀ a o xs, H a = some (.frz o (.lst xs)) → H' a = some (.frz o (.lst xs))
  xd : ∀ d x fs o, H d = some o → XO x fs o → d ∉ ρ → d ∉ ρ' ∧ H' d = some o
theorem SqR.kp {a : Addr} {xs : List V} (k : Kp K ρ H ρ' H') (e : SqR K H a xs) : SqR K H' a xs := by
  rcases e with ⟨o, e⟩ | e
  · exact .inl ⟨o, k.frz _ _ _ e⟩
  · exact .inr e
mutual
theorem RV.kp (k : Kp K ρ H ρ' H') : ∀ {d : D} {v : V}, RV K ρ H d v → RV K ρ' H' d v
  | _, _, .non => .non
  | _, _, .bl b => .bl b
  | _, _, .int i => .int i
  | _, _, .str s => .str s
  | _, _, .ty n => .ty n
  | _, _, .fn x => .fn x
  | _, _, .loc e => .loc (k.pre _ _ e)
  | _, _, .tup e r => .tup (k.tup _ _ e) (RVs.kp k r)
  | _, _, .rol e r => .rol (e.kp k) (RVs.kp k r)
theorem RVs.kp (k : Kp K ρ H ρ' H') : ∀ {ds : List D} {vs : List V}, RVs K ρ H ds vs → RVs K ρ' H' ds vs
  | _, _, .nil => .nil
  | _, _, .cons r t => .cons (RV.kp k r) (RVs.kp k t)
end
theorem RKs.kp {κ : Type} (k : Kp K ρ H ρ' H') : ∀ {ds : List (κ × D)} {vs : List (κ × V)}, RKs K ρ H ds vs → RKs K ρ' H' ds vs
  | _, _, .nil => .nil
  | _, _, .cons r t => .cons (r.kp k) (RKs.kp k t)
theorem HR.kp {h : MH} (R : HR K ρ h H) (x : Ext ρ H ρ' H') : Kp K ρ H ρ' H' where
  pre := fun n a e => x.at e
  tup := fun a xs e => x.keep _ _ e (R.notin e (by simp) (by simp) (by simp) (by simp) (by simp))
  frz := fun a o xs e => x.keep _ _ e (R.notin e (by simp) (by simp) (by simp) (by simp) (by simp))
  xd := fun d y fs o e _ hd => by
    refine ⟨fun ha => ?_, x.keep _ _ e hd⟩
    obtain ⟨m, rfl, hm⟩ := x.pre
    rcases List.mem_append.mp ha with ha | ha
    · exact hd ha
    · rw [hm d ha] at e; cases e
theorem RV.ext {h : MH} {d : D} {v : V} (r : RV K ρ H d v) (R : HR K ρ h H) (x : Ext ρ H ρ' H') : RV K ρ' H' d v := r.kp (R.kp x)
theorem RVs.ext {h : MH} {d : List D} {v : List V} (r : RVs K ρ H d v) (R : HR K ρ h H) (x : Ext ρ H ρ' H') : RVs K ρ' H' d v := r.kp (R.kp x)
theorem Ext.trans {ρ'' : List Addr} {H'' : Hp} (x : Ext ρ H ρ' H') (y : Ext ρ' H' ρ'' H'') : Ext ρ H ρ'' H'' where
  pre := by
    obtain ⟨m, rfl, hm⟩ := x.pre
    obtain ⟨m', rfl, hm'⟩ := y.pre
    refine ⟨m ++ m', by rw [List.append_assoc], fun a ha => ?_⟩
    rcases List.mem_append.mp ha with ha | ha
    · exact hm a ha
    · exact x.nn (hm' a ha)
  keep := fun a o e hρ => by
    obtain ⟨m, rfl, hm⟩ := x.pre
    refine y.keep a o (x.keep a o e hρ) fun ha => ?_
    rcases List.mem_append.mp ha with ha | ha
    · exact hρ ha
    · rw [hm a ha] at e; cases e
  th := fun a o e => by
    obtain ⟨o', e'⟩ := x.th a o e
    exact y.th a o' e'
/-- a new object that is no location (a tuple, a dict of an instance) -/
theorem Ext.new {p : Addr} {o : HO} (hp : H p = none) : Ext ρ H ρ (upd H p o) :=
  ⟨⟨[], by simp, by simp⟩, fun a u e _ => by rw [upd_ne (ne_of_none e hp)]; exact e, fun a u e => ⟨u, by rw [upd_ne (ne_of_none e hp)]; exact e⟩⟩
theorem OR.kp {a : Addr} {mo : MO} (k : Kp K ρ H ρ' H') (e : H' a = H a) (r : OR K ρ H a mo) : OR K ρ' H' a mo := by
  cases mo with
  | lst ds => obtain ⟨vs, q, r⟩ := r; exact ⟨vs, e.trans q, r.kp k⟩
  | dic kvs => obtain ⟨vs, q, r⟩ := r; exact ⟨vs, e.trans q, r.kp k⟩
  | dit kvs => obtain ⟨vs, q, r⟩ := r; exact ⟨vs, e.trans q, r.kp k⟩
  | ins C fs => obtain ⟨dx, vs, q, r⟩ := r; exact ⟨dx, vs, e.trans q, r.kp k⟩
  | err C d =>
    obtain ⟨dx, v, o, od, q, eo, qd, xo, hd, r⟩ := r
    obtain ⟨hd', qd'⟩ := k.xd _ _ _ _ qd xo hd
    exact ⟨dx, v, o, od, e.trans q, eo, qd', xo, hd', r.kp k⟩
theorem HR.has {h : MH} (R : HR K ρ h H) {a : Addr} (ha : a ∈ ρ) : ∃ o, H a = some o := by
  rcases R.mut ha with ⟨_, q⟩ | ⟨_, q⟩ | ⟨_, q⟩ | ⟨_, _, _, q⟩ | ⟨_, q⟩ <;> exact ⟨_, q⟩
theorem HR.new {h : MH} (R : HR K ρ h H) {p : Addr} {o : HO} (hp : H p = none) : HR K ρ h (upd H p o) where
  len := R.len
  nd := R.nd
  ob := fun n a mo e e' => by
    refine (R.ob n a mo e e').kp (R.kp (Ext.new hp)) (upd_ne ?_)
    obtain ⟨o', q⟩ := R.has (List.mem_of_getElem? e)
    exact ne_of_none q hp
/-- a new location -/
theorem Ext.newL {p : Addr} {o : HO} (hp : H p = none) : Ext ρ H (ρ ++ [p]) (upd H p o) :=
  ⟨⟨[p], rfl, by simpa using hp⟩, fun a u e _ => by rw [upd_ne (ne_of_none e hp)]; exact e, fun a u e => ⟨u, by rw [upd_ne (ne_of_none e hp)]; exact e⟩⟩
theorem HR.newL {h : MH} (R : HR K ρ h H) {p : Addr} {o : HO} {mo : MO} (hp : H p = none) (r : OR K (ρ ++ [p]) (upd H p o) p mo) : HR K (ρ ++ [p]) (h ++ [mo]) (upd H p o) where
  len := by simp [R.len]
  nd := by
    refine List.nodup_append.mpr ⟨R.nd, by simp, fun a ha b hb => ?_⟩
    have hb' : b = p := by simpa using hb
    subst hb'
    obtain ⟨o', q⟩ := R.has ha
    exact ne_of_none q hp
  ob := fun n a mo' e e' => by
    by_cases hn : n < ρ.length
    · rw [List.getElem?_append_left hn] at e
      rw [List.getElem?_append_left (by rw [← R.len]; exact hn)] at e'
      refine (R.ob n a mo' e e').kp (R.kp (Ext.newL hp)) (upd_ne ?_)
      obtain ⟨o', q⟩ := R.has (List.mem_of_getElem? e)
      exact ne_of_none q hp
    · have hz : n = ρ.length := by
        have := (List.getElem?_eq_some_iff.mp e).1
        simp at this; omega
      subst hz
      rw [List.getElem?_append_right (Nat.le_refl _)] at e
      rw [R.len, List.getElem?_append_right (Nat.le_refl _)] at e'
      simp at e e'
      subst e e'
      exact r
/-- a location's object is another one -/
theorem Ext.chg {n : Nat} {a : Addr} {o : HO} (e : ρ[n]? = some a) : Ext ρ H ρ (upd H a o) :=
  ⟨⟨[], by simp, by simp⟩, fun b u q hb => by rw [upd_ne (fun z => hb (by rw [z]; exact List.mem_of_getElem? e))]; exact q, fun b u q => by
    by_cases hb : b = a
    · exact ⟨o, by rw [hb]; exact upd_same⟩
    · exact ⟨u, by rw [upd_ne hb]; exact q⟩⟩
theorem HR.chg {h : MH} (R : HR K ρ h H) {n : Nat} {a : Addr} {o : HO} {mo : MO} (e : ρ[n]? = some a) (r : OR K ρ (upd H a o) a mo) : HR K ρ (h.set n mo) (upd H a o) where
  len := by simp [R.len]
  nd := R.nd
  ob := fun m b mo' e1 e2 => by
    by_cases hm : n = m
    · subst hm
      rw [e] at e1; cases e1
      have hl : n < h.length := by rw [← R.len]; exact (List.getElem?_eq_some_iff.mp e).1
      rw [List.getElem?_set_self hl] at e2
      cases e2
      exact r
    · rw [List.getElem?_set_ne hm] at e2
      refine (R.ob m b mo' e1 e2).kp (R.kp (Ext.chg e)) (upd_ne fun z => ?_)
      subst z
      have h1 := (List.getElem?_eq_some_iff.mp e)
      have h2 := (List.getElem?_eq_some_iff.mp e1)
      exact hm ((List.getElem_inj R.nd).mp (h1.2.trans h2.2.symm))
/-- the slots -/
structure ER (K : PySem.W.Frag) (ρ : List Addr) (H : Hp) (env : Env) (σ : St) : Prop where
  len : env.length = σ.length
  at_ : ∀ (i : Nat) (d : D), env[i]? = some (some d) → ∃ v, σ[i]? = some (some v) ∧ RV K ρ H d v
theorem ER.ext {h : MH} {env : Env} {σ : St} (r : ER K ρ H env σ) (R : HR K ρ h H) (x : Ext ρ H ρ' H') : ER K ρ' H' env σ :=
  ⟨r.len, fun i d e => by obtain ⟨v, h1, h2⟩ := r.at_ i d e; exact ⟨v, h1, h2.ext R x⟩⟩
theorem ER.set {env : Env} {σ : St} {d : D} {v : V} (r : ER K ρ H env σ) (i : Nat) (q : RV K ρ H d v) : ER K ρ H (env.set i (some d)) (σ.set i (some v)) := by
  refine ⟨by simp [r.len], fun j e hj => ?_⟩
  by_cases hij : i = j
  · subst hij
    have hl : i < (env.set i (some d)).length := (List.getElem?_eq_some_iff.mp hj).1
    rw [List.length_set] at hl
    rw [List.getElem?_set_self hl] at hj
    have := Option.some.inj (Option.some.inj hj)
    subst this
    exact ⟨v, List.getElem?_set_self (by rw [← r.len]; exact hl), q⟩
  · rw [List.getElem?_set_ne hij] at hj
    obtain ⟨w, h1, h2⟩ := r.at_ j e hj
    exact ⟨w, by rw [List.getElem?_set_ne hij]; exact h1, h2⟩
theorem ER.unset {env : Env} {σ : St} (r : ER K ρ H env σ) (i : Nat) : ER K ρ H (env.set i none) (σ.set i none) := by
  refine ⟨by simp [r.len], fun j e hj => ?_⟩
  by_cases hij : i = j
  · subst hij
    have hl : i < (env.set i none).length := (List.getElem?_eq_some_iff.mp hj).1
    rw [List.length_set] at hl
    rw [List.getElem?_set_self hl] at hj
    cases Option.some.inj hj
  · rw [List.getElem?_set_ne hij] at hj
    obtain ⟨w, h1, h2⟩ := r.at_ j e hj
    exact ⟨w, by rw [List.getElem?_set_ne hij]; exact h1, h2⟩
end

/-! ### readings -/
abbrev WB := Value → Option Addr → St → Hp → Prop
abbrev Rel (α β : Type) := List Addr → Hp → α → β → Prop
/-- what stands for what -/
abbrev rD (K : PySem.W.Frag) : Rel D V := fun ρ H d v => RV K ρ H d v
abbrev rDs (K : PySem.W.Frag) : Rel (List D) (List V) := fun ρ H d v => RVs K ρ H d v
abbrev rId (α : Type) : Rel α α := fun _ _ a b => a = b
section
variable (K : PySem.W.Frag) (B : WB)
/-- what is wanted of a result -/
def Good {α β : Type} (rel : Rel α β) (σ : St) (ρ : List Addr) (H : Hp) (Q : β → Hp → Prop) : R α → Prop
  | .ok d h' => ∀ ρ' v H', HR K ρ' h' H' → Ext ρ H ρ' H' → rel ρ' H' d v → Q v H'
  | .er c d h' => ∀ ρ' x dx H', HR K ρ' h' H' → Ext ρ H ρ' H' → RV K ρ' H' d x → H' dx = some (.xd [(("value" : Str), x)]) → B (.ref (He.ga K c)) (some dx) σ H'
  | .no => False
def tR {α β : Type} (rel : Rel α β) (m : Env → MH → R α) (σ : St) (H : Hp) (Q : β → Hp → Prop) : Prop := ∃ ρ h env, HR K ρ h H ∧ ER K ρ H env σ ∧ Good K B rel σ ρ H Q (m env h)
abbrev tM (m : M) : TE := tR K B (rD K) m
abbrev tMs (m : Env → MH → R (List D)) : TA := tR K B (rDs K) m
abbrev tMB (m : Env → MH → R Bool) : TT := tR K B (rId Bool) m
abbrev tMO (m : Env → MH → R (Option Int)) : TO := tR K B (rId (Option Int)) m
def GoodS (D : Ends) (σ : St) (ρ : List Addr) (H : Hp) : RS → Prop
  | .nx e h' => ∀ ρ' σ' H', HR K ρ' h' H' → Ext ρ H ρ' H' → ER K ρ' H' e σ' → D.nx σ' H'
  | .rt d h' => ∀ ρ' v H', HR K ρ' h' H' → Ext ρ H ρ' H' → RV K ρ' H' d v → D.rt v H'
  | .bk e h' => ∀ ρ' σ' H', HR K ρ' h' H' → Ext ρ H ρ' H' → ER K ρ' H' e σ' → D.bk σ' H'
  | .ct e h' => ∀ ρ' σ' H', HR K ρ' h' H' → Ext ρ H ρ' H' → ER K ρ' H' e σ' → D.ct σ' H'
  | .er c d e h' => ∀ ρ' x dx σ' H', HR K ρ' h' H' → Ext ρ H ρ' H' → RV K ρ' H' d x → ER K ρ' H' e σ' → H' dx = some (.xd [(("value" : Str), x)]) → B (.ref (He.ga K c)) (some dx) σ' H'
  | .no => False
def tS (s : S) : TS := fun D σ H => ∃ ρ h env, HR K ρ h H ∧ ER K ρ H env σ ∧ GoodS K B D σ ρ H (s env h)
end
section
variable {K : PySem.W.Frag} {B : WB} {σ : St} {ρ ρ' : List Addr} {H H' : Hp} {h : MH} {env : Env} {α β γ δ : Type} {rel : Rel α β} {rel' : Rel γ δ} {Q : β → Hp → Prop} {P : δ → Hp → Prop}
theorem Good.mv {r : R α} (g : Good K B rel σ ρ H Q r) (x : Ext ρ H ρ' H') : Good K B rel σ ρ' H' Q r := by
  cases r with
  | ok d h' => exact fun ρ2 v H2 a b c => g ρ2 v H2 a (x.trans b) c
  | er c d h' => exact fun ρ2 y dx H2 a b c e => g ρ2 y dx H2 a (x.trans b) c e
  | no => exact g
theorem Good.imp {r : R α} {Q' : β → Hp → Prop} (g : Good K B rel σ ρ H Q r) (f : ∀ v H, Q v H → Q' v H) : Good K B rel σ ρ H Q' r := by
  cases r with
  | ok d h' => exact fun ρ2 v H2 a b c => f _ _ (g ρ2 v H2 a b c)
  | er c d h' => exact g
  | no => exact g
theorem GoodS.mv {D : Ends} {σ' : St} {r : RS} (g : GoodS K B D σ ρ H r) (x : Ext ρ H ρ' H') : GoodS K B D σ' ρ' H' r := by
  cases r with
  | nx e h' => exact fun ρ2 v H2 a b c => g ρ2 v H2 a (x.trans b) c
  | rt e h' => exact fun ρ2 v H2 a b c => g ρ2 v H2 a (x.trans b) c
  | bk e h' => exact fun ρ2 v H2 a b c => g ρ2 v H2 a (x.trans b) c
  | ct e h' => exact fun ρ2 v H2 a b c => g ρ2 v H2 a (x.trans b) c
  | er c d e h' => exact fun ρ2 y dx σ2 H2 a b c e => g ρ2 y dx σ2 H2 a (x.trans b) c e
  | no => exact g
/-- a state that is met: the relation holds -/
structure At (K : PySem.W.Frag) (ρ : List Addr) (h : MH) (H : Hp) (env : Env) (σ : St) : Prop where
  R : HR K ρ h H
  E : ER K ρ H env σ
/-- one part, then the rest -/
theorem tR_bind {m : Env → MH → R α} {k : α → MH → R γ} (A : At K ρ h H env σ) (g : Good K B rel' σ ρ H P ((m env h).bind k)) :
    tR K B rel m σ H (fun v H1 => ∃ ρ1 h1 x, At K ρ1 h1 H1 env σ ∧ Ext ρ H ρ1 H1 ∧ rel ρ1 H1 x v ∧ Good K B rel' σ ρ1 H1 P (k x h1)) := by
  refine ⟨ρ, h, env, A.R, A.E, ?_⟩
  cases e : m env h with
  | ok d h' =>
    rw [e] at g
    exact fun ρ' v H' a b c => ⟨ρ', h', d, ⟨a, A.E.ext A.R b⟩, b, c, Good.mv (show Good K B rel' σ ρ H P (k d h') from g) b⟩
  | er c d h' => rw [e] at g; exact g
  | no => rw [e] at g; exact g
theorem tR_st {m : Env → MH → R α} {k : α → MH → RS} {D : Ends} (A : At K ρ h H env σ) (g : GoodS K B D σ ρ H ((m env h).st env k)) :
    tR K B rel m σ H (fun v H1 => ∃ ρ1 h1 x, At K ρ1 h1 H1 env σ ∧ Ext ρ H ρ1 H1 ∧ rel ρ1 H1 x v ∧ GoodS K B D σ ρ1 H1 (k x h1)) := by
  refine ⟨ρ, h, env, A.R, A.E, ?_⟩
  cases e : m env h with
  | ok d h' =>
    rw [e] at g
    exact fun ρ' v H' a b c => ⟨ρ', h', d, ⟨a, A.E.ext A.R b⟩, b, c, GoodS.mv (show GoodS K B D σ ρ H (k d h') from g) b⟩
  | er c d h' => rw [e] at g; exact fun ρ' x dx H' a b r q => g ρ' x dx σ H' a b r (A.E.ext A.R b) q
  | no => rw [e] at g; exact g
/-- an end: the value stands -/
theorem Good.ok {d : α} {h' : MH} {v : β} (g : Good K B rel σ ρ H Q (.ok d h')) (a : HR K ρ' h' H') (b : Ext ρ H ρ' H') (c : rel ρ' H' d v) : Q v H' := g ρ' v H' a b c
theorem Good.ok0 {d : α} {v : β} (g : Good K B rel σ ρ H Q (.ok d h)) (a : HR K ρ h H) (c : rel ρ H d v) : Q v H := g ρ v H a Ext.refl c
end
theorem PE.imp {X : Cx} {e : Expr} {t t' : TE} (p : PE X e t) (f : ∀ σ H Q, t' σ H Q → t σ H Q) : PE X e t' := ⟨fun pins s σ H Q I g => p.run pins s σ H Q I (f σ H Q g)⟩
theorem PA.imp {X : Cx} {e : List Expr} {t t' : TA} (p : PA X e t) (f : ∀ σ H Q, t' σ H Q → t σ H Q) : PA X e t' := ⟨fun pos pins s σ H Q I g => p.run pos pins s σ H Q I (f σ H Q g)⟩
theorem PS.imp {X : Cx} {e : Stmt} {t t' : TS} (p : PS X e t) (f : ∀ D σ H, t' D σ H → t D σ H) : PS X e t' := ⟨fun pins s σ H D I g => p.run pins s σ H D I (f D σ H g)⟩
theorem PSs.imp {X : Cx} {e : List Stmt} {t t' : TS} (p : PSs X e t) (f : ∀ D σ H, t' D σ H → t D σ H) : PSs X e t' := ⟨fun pins s σ H D I g => p.run pins s σ H D I (f D σ H g)⟩
theorem PT.imp {X : Cx} {e : Expr} {t t' : TT} (p : PT X e t) (f : ∀ σ H Q, t' σ H Q → t σ H Q) : PT X e t' := ⟨fun pins s σ H Q I g => p.run pins s σ H Q I (f σ H Q g)⟩
end MP
set_option Elab.async false
set_option linter.all false
set_option maxRecDepth 100000
set_option maxHeartbeats 1000000
/-! M1: expressions, tests, arguments, operators. -/
namespace MP
open PySem PySem.Spec L2
abbrev MB := Env → MH → R Bool
abbrev MA := Env → MH → R (List D)
section
variable {K : PySem.W.Frag} {B : WB} {σ : St} {ρ ρ' : List Addr} {H H' : Hp} {h : MH} {env : Env} {α β γ δ : Type} {rel : Rel α β}
theorem tR.imp {m : Env → MH → R α} {Q Q' : β → Hp → Prop} (t : tR K B rel m σ H Q) (f : ∀ v H, Q v H → Q' v H) : tR K B rel m σ H Q' := by
  obtain ⟨ρ, h, env, R, E, g⟩ := t
  exact ⟨ρ, h, env, R, E, g.imp f⟩
end
abbrev Den (X : Cx) (B : WB) (e : Expr) (m : M) := PE X e (tM X.K B m)
abbrev DenT (X : Cx) (B : WB) (e : Expr) (m : MB) := PT X e (tMB X.K B m)
abbrev DenW (X : Cx) (B : WB) (e : Expr) (m : MB) := PW X e (tMB X.K B m)
abbrev DenA (X : Cx) (B : WB) (es : List Expr) (m : MA) := PA X es (tMs X.K B m)
abbrev DenO (X : Cx) (B : WB) (e : Option Expr) (m : Env → MH → R (Option Int)) := PO X e (tMO X.K B m)
theorem PW.imp {X : Cx} {e : Expr} {t t' : TT} (p : PW X e t) (f : ∀ σ H Q, t' σ H Q → t σ H Q) : PW X e t' := ⟨fun wh pins s σ H Q I g => p.run wh pins s σ H Q I (f σ H Q g)⟩
theorem PO.imp {X : Cx} {e : Option Expr} {t t' : TO} (p : PO X e t) (f : ∀ σ H Q, t' σ H Q → t σ H Q) : PO X e t' := ⟨fun pins s σ H Q I g => p.run pins s σ H Q I (f σ H Q g)⟩

/-! ### names, constants -/
def mVar (i : Nat) : M := fun env h => match env[i]? with
  | some (some d) => .ok d h
  | _ => .no
def mC (d : D) : M := fun _ h => .ok d h
section
variable {X : Cx} {B : WB} {pos p p2 : Pos}
theorem den_var (i : Nat) {x : Str} (hN : X.N[i]? = some x := by rfl) (hv : Vis X.env.scope x := by first | exact Or.inl rfl | exact Or.inr (Or.inl rfl) | exact Or.inr (Or.inr rfl)) (hd : (x == ("__debug__" : Str)) = false := by decide)
    (hcd : (x == ("__classdict__" : Str)) = false := by decide) : Den X B (.Name x pos) (mVar i) := PE.imp (pe_var hN hv hd hcd) fun σ H Q ⟨ρ, h, env, R, E, g⟩ => by
  unfold mVar at g
  split at g
  · rename_i d e
    obtain ⟨v, h1, h2⟩ := E.at_ i d e
    exact ⟨v, h1, g.ok0 R h2⟩
  · exact g.elim
/-- a value that is the same on both sides -/
def Same0 : D → V → Prop
  | .non, v => v = .non
  | .bl b, v => v = .bl b
  | .int i, v => v = .int i
  | .str s, v => v = .str s
  | .ty n, v => v = .ty n
  | _, _ => False
theorem Same0.rv {K : PySem.W.Frag} {ρ : List Addr} {H : Hp} {d : D} {v : V} (s : Same0 d v) : RV K ρ H d v := by
  cases d <;> first | (cases (show v = _ from s); constructor) | exact False.elim s
theorem den_const {e : Expr} {d : D} {v : V} (p : PE X e (tC v)) (s : Same0 d v) : Den X B e (mC d) := PE.imp p fun σ H Q ⟨ρ, h, env, R, E, g⟩ => g.ok0 R s.rv
theorem den_int {i : Int} {j : Nat} : Den X B (.Constant (.int i) j pos) (mC (.int i)) := den_const pe_int rfl
theorem den_bl {b : Bool} {j : Nat} : Den X B (.Constant (.bool b) j pos) (mC (.bl b)) := den_const pe_bl rfl
theorem den_non {j : Nat} : Den X B (.Constant .none j pos) (mC .non) := den_const pe_non rfl
theorem den_str {x : Str} {j : Nat} : Den X B (.Constant (.str x) j pos) (mC (.str x)) := den_const pe_str rfl
theorem den_glob {x : Str} {d : D} {v : V} {u : Value} (hg : Gl X x) (hm : X.mg x = some u) (r : RelV v u) (s : Same0 d v) (hd : (x == ("__debug__" : Str)) = false := by decide) : Den X B (.Name x pos) (mC d) := den_const (pe_glob hg hm r hd) s
theorem den_gstr {x z : Str} (hg : Gl X x) (hm : ∃ t, X.mg x = some (.str z t)) (hd : (x == ("__debug__" : Str)) = false := by decide) : Den X B (.Name x pos) (mC (.str z)) := by
  obtain ⟨t, hm⟩ := hm
  exact den_glob (v := .str z) hg hm ⟨t, rfl⟩ rfl hd
theorem den_gint {x : Str} {i : Int} (hg : Gl X x) (hm : ∃ t, X.mg x = some (.int i t)) (hd : (x == ("__debug__" : Str)) = false := by decide) : Den X B (.Name x pos) (mC (.int i)) := by
  obtain ⟨t, hm⟩ := hm
  exact den_glob (v := .int i) hg hm ⟨t, rfl⟩ rfl hd
/-- a built-in class as a value -/
theorem den_ty {x : Str} {n : String} (hg : Gl X x) (hm : X.mg x = none) (hv : bootBuiltins x = some (.type n)) (hn : x ≠ "__name__" := by decide) (hd : (x == ("__debug__" : Str)) = false := by decide) : Den X B (.Name x pos) (mC (.ty n)) :=
  den_const (pe_bltn (v := .ty n) hg hm hv rfl hn hd) rfl
/-- a def, a class of the module as a value -/
theorem den_fn {x : Str} (hg : Gl X x) (hm : X.mg x = some (.ref (He.ga X.K x))) (hd : (x == ("__debug__" : Str)) = false := by decide) : Den X B (.Name x pos) (mC (.fn x)) :=
  PE.imp (pe_glob hg hm (v := .ref (He.ga X.K x)) rfl hd) fun σ H Q ⟨ρ, h, env, R, E, g⟩ => g.ok0 R (.fn x)

/-! ### operators -/
def OpM (K : PySem.W.Frag) (B : WB) (r : R2) (f : D → D → MH → R D) : Prop := ∀ {σ : St} {ρ : List Addr} {h : MH} {H : Hp} {Q : VK} {x y : D} {v w : V}, HR K ρ h H → RV K ρ H x v → RV K ρ H y w → Good K B (rD K) σ ρ H Q (f x y h) → r v w H Q
def mBin (f : D → D → MH → R D) (a b : M) : M := fun env h => (a env h).bind fun x h1 => (b env h1).bind fun y h2 => f x y h2
variable {a b c : Expr} {ma mb mc : M}
theorem bin_imp {r : R2} {f : D → D → MH → R D} (hf : OpM X.K B r f) : ∀ σ H Q, tM X.K B (mBin f ma mb) σ H Q → tOp r (tM X.K B ma) (tM X.K B mb) σ H Q := fun σ H Q ⟨ρ, h, env, R, E, g⟩ =>
  (tR_bind ⟨R, E⟩ g).imp fun v H1 ⟨ρ1, h1, x, A1, e1, rx, g1⟩ => (tR_bind A1 g1).imp fun w H2 ⟨ρ2, h2, y, A2, e2, ry, g2⟩ => hf A2.R (rx.ext A1.R e2) ry g2
theorem den_bin {op : Operator} {r : R2} {f : D → D → MH → R D} (hf : OpM X.K B r f) (ho : OpR X (binaryOp op) r) (ha : Den X B a ma) (hb : Den X B b mb) : Den X B (.BinOp a op b pos) (mBin f ma mb) := PE.imp (pe_op ho ha hb) (bin_imp hf)
theorem den_cmp {op : CmpOp} {r : R2} {f : D → D → MH → R D} (hf : OpM X.K B r f) (ho : OpR X (compareOp op) r) (ha : Den X B a ma) (hb : Den X B b mb) (hm : behindInMarks op b = false) : Den X B (.Compare a [op] [b] pos) (mBin f ma mb) :=
  PE.imp (pe_cmpR ho ha hb hm) (bin_imp hf)
/-- a value as a truth value that it is -/
def asB (d : D) (h : MH) : R Bool := match d with
  | .bl b => .ok b h
  | _ => .no
def mTest (a : M) : MB := fun env h => (a env h).bind asB
theorem asB_ok {K : PySem.W.Frag} {B : WB} {σ : St} {ρ : List Addr} {h : MH} {H : Hp} {x : D} {v : V} {Q : Bool → Hp → Prop} (R : HR K ρ h H) (r : RV K ρ H x v) (g : Good K B (rId Bool) σ ρ H Q (asB x h)) : ∃ c, v = .bl c ∧ Q c H := by
  unfold asB at g
  split at g
  · cases r; exact ⟨_, rfl, g.ok0 R rfl⟩
  · exact g.elim
theorem test_imp : ∀ σ H Q, tMB X.K B (mTest ma) σ H Q → tTest (tM X.K B ma) σ H Q := fun σ H Q ⟨ρ, h, env, R, E, g⟩ =>
  (tR_bind ⟨R, E⟩ g).imp fun v H1 ⟨ρ1, h1, x, A1, e1, rx, g1⟩ => asB_ok A1.R rx g1
theorem tM_op {r : R2} {f : D → D → MH → R D} (hf : OpM X.K B r f) {σ : St} {H : Hp} {Q : Bool → Hp → Prop} (t : tMB X.K B (mTest (mBin f ma mb)) σ H Q) : tTest (tOp r (tM X.K B ma) (tM X.K B mb)) σ H Q := by
  have t2 := test_imp σ H Q t
  exact bin_imp hf σ H _ t2
theorem dent_cmp {op : CmpOp} {r : R2} {f : D → D → MH → R D} (hf : OpM X.K B r f) (ho : OpR X (compareOp op) r) (ha : Den X B a ma) (hb : Den X B b mb) (hm : behindInMarks op b = false) : DenT X B (.Compare a [op] [b] pos) (mTest (mBin f ma mb)) :=
  PT.imp (pt_cmpR ho ha hb hm) fun σ H Q t => tM_op hf t
/-- any other expression that gives True or False -/
theorem dent_val (ha : Den X B a ma) (he : ∀ whole, isTrue a X.env whole = (do let v ← whole; standAt a.pos; holding [v] (truthy v)) := by intro _; rfl) : DenT X B a (mTest ma) :=
  PT.imp (pt_val ha he) test_imp
/-- a comparison's chain -/
def mChain (f f' : D → D → MH → R D) (a b c : M) : M := fun env h => (a env h).bind fun x h1 => (b env h1).bind fun y h2 => (f x y h2).bind fun z h3 => (asB z h3).bind fun k h4 =>
  if k = true then (c env h4).bind fun w h5 => f' y w h5 else .ok (.bl false) h4
/-- f gives a value without a trace -/
def PureOp (f : D → D → MH → R D) : Prop := ∀ x y h, f x y h = .no ∨ ∃ b, f x y h = .ok (.bl b) h
theorem chain_imp {r r' : R2} {f f' : D → D → MH → R D} (hp : PureOp f) (hf : OpM X.K B r f) (hf' : OpM X.K B r' f') :
    ∀ σ H Q, tM X.K B (mChain f f' ma mb mc) σ H Q → tChain r r' (tM X.K B ma) (tM X.K B mb) (tM X.K B mc) σ H Q := fun σ H Q ⟨ρ, h, env, R, E, g⟩ =>
  (tR_bind ⟨R, E⟩ g).imp fun v H1 ⟨ρ1, h1, x, A1, e1, rx, g1⟩ => (tR_bind A1 g1).imp fun w H2 ⟨ρ2, h2, y, A2, e2, ry, g2⟩ => by
    rcases hp x y h2 with q | ⟨k, q⟩
    · rw [q] at g2; exact g2.elim
    · rw [q] at g2
      have g3 : Good X.K B (rD X.K) σ ρ2 H2 Q (if k = true then (mc env h2).bind fun w h5 => f' y w h5 else .ok (.bl false) h2) := g2
      refine hf (σ := σ) A2.R (rx.ext A1.R e2) ry (Q := _) ?_
      rw [q]
      intro ρ' v' H' a' b' c'
      cases c'
      refine ⟨k, rfl, ?_⟩
      cases k with
      | true =>
        rw [if_pos rfl]
        have A' : At X.K ρ' h2 H' env σ := ⟨a', A2.E.ext A2.R b'⟩
        exact (tR_bind A' (Good.mv g3 b')).imp fun w' H3 ⟨ρ3, h3, z, A3, e3, rz, g4⟩ => hf' A3.R ((ry.ext A2.R b').ext A'.R e3) rz g4
      | false =>
        rw [if_neg (by decide)]
        exact g3.ok a' b' (.bl false)
theorem den_chain {op op' : CmpOp} {r r' : R2} {f f' : D → D → MH → R D} (hp : PureOp f) (hf : OpM X.K B r f) (hf' : OpM X.K B r' f') (ho : OpR X (compareOp op) r) (ho' : OpR X (compareOp op') r') (ha : Den X B a ma) (hb : Den X B b mb) (hc : Den X B c mc)
    (hm : lastMarks [op, op'] [b, c] = false := by with_unfolding_all rfl) : Den X B (.Compare a [op, op'] [b, c] pos) (mChain f f' ma mb mc) := PE.imp (pe_chain ho ho' ha hb hc hm) (chain_imp hp hf hf')
theorem dent_chain {op op' : CmpOp} {r r' : R2} {f f' : D → D → MH → R D} (hp : PureOp f) (hf : OpM X.K B r f) (hf' : OpM X.K B r' f') (ho : OpR X (compareOp op) r) (ho' : OpR X (compareOp op') r') (ha : Den X B a ma) (hb : Den X B b mb) (hc : Den X B c mc)
    (hm : lastMarks [op, op'] [b, c] = false := by with_unfolding_all rfl) : DenT X B (.Compare a [op, op'] [b, c] pos) (mTest (mChain f f' ma mb mc)) := PT.imp (pt_chain ho ho' ha hb hc hm) fun σ H Q t => chain_imp hp hf hf' σ H _ (test_imp σ H Q t)

/-! ### and, or, not -/
variable {ta tb tc : MB} {rest : List Expr}
def mAnd (a b : MB) : MB := fun env h => (a env h).bind fun x h1 => if x = true then b env h1 else .ok false h1
def mOr (a b : MB) : MB := fun env h => (a env h).bind fun x h1 => if x = true then .ok true h1 else b env h1
def mNot (a : MB) : MB := fun env h => (a env h).bind fun x h1 => .ok (!x) h1
theorem Good.tR {α β : Type} {rel : Rel α β} {K : PySem.W.Frag} {σ : St} {ρ : List Addr} {h : MH} {H : Hp} {env : Env} {m : Env → MH → R α} {Q : β → Hp → Prop} (g : Good K B rel σ ρ H Q (m env h)) (A : At K ρ h H env σ) : tR K B rel m σ H Q := ⟨ρ, h, env, A.R, A.E, g⟩
theorem denw_and (ha : DenT X B a ta) (hb : DenW X B (.BoolOp .And (b :: rest) pos) tb) : DenW X B (.BoolOp .And (a :: b :: rest) pos) (mAnd ta tb) :=
  PW.imp (pw_and ha hb) fun σ H Q ⟨ρ, h, env, R, E, g⟩ => (tR_bind ⟨R, E⟩ g).imp fun v H1 ⟨ρ1, h1, x, A1, e1, rx, g1⟩ => by
    subst rx
    cases x with
    | true => exact iteT (Good.tR g1 A1)
    | false => exact iteF (g1.ok0 A1.R rfl)
theorem denw_or (ha : DenT X B a ta) (hb : DenW X B (.BoolOp .Or (b :: rest) pos) tb) : DenW X B (.BoolOp .Or (a :: b :: rest) pos) (mOr ta tb) :=
  PW.imp (pw_or ha hb) fun σ H Q ⟨ρ, h, env, R, E, g⟩ => (tR_bind ⟨R, E⟩ g).imp fun v H1 ⟨ρ1, h1, x, A1, e1, rx, g1⟩ => by
    subst rx
    cases x with
    | true => exact iteT (g1.ok0 A1.R rfl)
    | false => exact iteF (Good.tR g1 A1)
theorem denw_and1 (ha : DenT X B a ta) : DenW X B (.BoolOp .And [a] pos) ta := pw_and1 ha
theorem denw_or1 (ha : DenT X B a ta) : DenW X B (.BoolOp .Or [a] pos) ta := pw_or1 ha
theorem DenW.t {e : Expr} (h : DenW X B e ta) : DenT X B e ta := PW.pt h
theorem dent_not (ha : DenT X B a ta) : DenT X B (.UnaryOp .Not a pos) (mNot ta) :=
  PT.imp (pt_not ha) fun σ H Q ⟨ρ, h, env, R, E, g⟩ => (tR_bind ⟨R, E⟩ g).imp fun v H1 ⟨ρ1, h1, x, A1, e1, rx, g1⟩ => by
    subst rx
    exact g1.ok0 A1.R rfl
/-- the same as values, all of them truth values -/
def vAnd (a b : M) : M := fun env h => (a env h).bind fun x h1 => (asB x h1).bind fun k h2 => if k = true then b env h2 else .ok (.bl false) h2
def vOr (a b : M) : M := fun env h => (a env h).bind fun x h1 => (asB x h1).bind fun k h2 => if k = true then .ok (.bl true) h2 else b env h2
def vNot (a : M) : M := fun env h => (a env h).bind fun x h1 => (asB x h1).bind fun k h2 => .ok (.bl (!k)) h2
theorem asB_cases {x : D} {v : V} {K : PySem.W.Frag} {ρ : List Addr} {H : Hp} {h : MH} {α : Type} {k : Bool → MH → R α} {σ : St} {β : Type} {rel : Rel α β} {Q : β → Hp → Prop} (r : RV K ρ H x v) (g : Good K B rel σ ρ H Q ((asB x h).bind k)) : ∃ c, x = .bl c ∧ v = .bl c ∧ Good K B rel σ ρ H Q (k c h) := by
  unfold asB at g
  split at g
  · cases r; exact ⟨_, rfl, rfl, g⟩
  · exact g.elim
theorem den_and (ha : Den X B a ma) (hb : Den X B (.BoolOp .And (b :: rest) pos) mb) : Den X B (.BoolOp .And (a :: b :: rest) pos) (vAnd ma mb) :=
  PE.imp (pe_and ha hb) fun σ H Q ⟨ρ, h, env, R, E, g⟩ => (tR_bind ⟨R, E⟩ g).imp fun v H1 ⟨ρ1, h1, x, A1, e1, rx, g1⟩ => by
    obtain ⟨c, rfl, rfl, g2⟩ := asB_cases rx g1
    refine ⟨c, rfl, ?_⟩
    cases c with
    | true => exact iteT (Good.tR g2 A1)
    | false => exact iteF (g2.ok0 A1.R (.bl false))
theorem den_or (ha : Den X B a ma) (hb : Den X B (.BoolOp .Or (b :: rest) pos) mb) : Den X B (.BoolOp .Or (a :: b :: rest) pos) (vOr ma mb) :=
  PE.imp (pe_or ha hb) fun σ H Q ⟨ρ, h, env, R, E, g⟩ => (tR_bind ⟨R, E⟩ g).imp fun v H1 ⟨ρ1, h1, x, A1, e1, rx, g1⟩ => by
    obtain ⟨c, rfl, rfl, g2⟩ := asB_cases rx g1
    refine ⟨c, rfl, ?_⟩
    cases c with
    | true => exact iteT (g2.ok0 A1.R (.bl true))
    | false => exact iteF (Good.tR g2 A1)
theorem den_one {op} (h : Den X B a ma) : Den X B (.BoolOp op [a] pos) ma := pe_one h
theorem den_not (ha : Den X B a ma) : Den X B (.UnaryOp .Not a pos) (vNot ma) :=
  PE.imp (pe_not ha) fun σ H Q ⟨ρ, h, env, R, E, g⟩ => (tR_bind ⟨R, E⟩ g).imp fun v H1 ⟨ρ1, h1, x, A1, e1, rx, g1⟩ => by
    obtain ⟨c, rfl, rfl, g2⟩ := asB_cases rx g1
    exact ⟨c, rfl, g2.ok0 A1.R (.bl _)⟩
def mIf (t : MB) (a b : M) : M := fun env h => (t env h).bind fun x h1 => if x = true then a env h1 else b env h1
theorem den_if (ht : DenT X B c tc) (ha : Den X B a ma) (hb : Den X B b mb) : Den X B (.IfExp c a b pos) (mIf tc ma mb) :=
  PE.imp (pe_ifExp ht ha hb) fun σ H Q ⟨ρ, h, env, R, E, g⟩ => (tR_bind ⟨R, E⟩ g).imp fun v H1 ⟨ρ1, h1, x, A1, e1, rx, g1⟩ => by
    subst rx
    cases x with
    | true => exact iteT (Good.tR g1 A1)
    | false => exact iteF (Good.tR g1 A1)

/-! ### arguments, tuples, lists -/
variable {es : List Expr} {ms : MA}
def aNil : MA := fun _ h => .ok [] h
def aCons (a : M) (r : MA) : MA := fun env h => (a env h).bind fun x h1 => (r env h1).bind fun xs h2 => .ok (x :: xs) h2
theorem dena_nil : DenA X B [] aNil := PA.imp pa_nil fun σ H Q ⟨ρ, h, env, R, E, g⟩ => g.ok0 R .nil
theorem dena_cons (ha : Den X B a ma) (hr : DenA X B es ms) (hs : starEach (a :: es) X.env = (false, eval a X.env) :: starEach es X.env := by rfl) : DenA X B (a :: es) (aCons ma ms) :=
  PA.imp (pa_cons ha hr hs) fun σ H Q ⟨ρ, h, env, R, E, g⟩ => (tR_bind ⟨R, E⟩ g).imp fun v H1 ⟨ρ1, h1, x, A1, e1, rx, g1⟩ => (tR_bind A1 g1).imp fun w H2 ⟨ρ2, h2, y, A2, e2, ry, g2⟩ =>
    g2.ok0 A2.R (.cons (rx.ext A1.R e2) ry)
def mTup (a : MA) : M := fun env h => (a env h).bind fun xs h1 => if xs.length ≤ sizeLine then .ok (.tup xs) h1 else .no
def newL (xs : List D) (h : MH) : R D := .ok (.loc h.length) (h ++ [.lst xs])
def mLst (a : MA) : M := fun env h => (a env h).bind fun xs h1 => if xs.length ≤ sizeLine then newL xs h1 else .no
theorem rv_newT {K : PySem.W.Frag} {ρ : List Addr} {H : Hp} {h : MH} {ds : List D} {vs : List V} {p : Addr} (R : HR K ρ h H) (r : RVs K ρ H ds vs) (hp : H p = none) : RV K ρ (upd H p (.tup vs)) (.tup ds) (.ref p) :=
    .tup upd_same (r.ext R (Ext.new hp))
/-- a new tuple, as a result -/
theorem good_newT {K : PySem.W.Frag} {ρ : List Addr} {H : Hp} {h : MH} {σ : St} {Q : VK} {ds : List D} {vs : List V} {p : Addr} (g : Good K B (rD K) σ ρ H Q (.ok (.tup ds) h)) (R : HR K ρ h H) (r : RVs K ρ H ds vs) (hp : H p = none) : Q (.ref p) (upd H p (.tup vs)) :=
  g.ok (R.new hp) (Ext.new hp) (rv_newT R r hp)
theorem hr_newL {K : PySem.W.Frag} {ρ : List Addr} {H : Hp} {h : MH} {ds : List D} {vs : List V} {p : Addr} (R : HR K ρ h H) (r : RVs K ρ H ds vs) (hp : H p = none) : HR K (ρ ++ [p]) (h ++ [.lst ds]) (upd H p (.lst vs)) :=
  R.newL hp ⟨vs, upd_same, r.ext R (Ext.newL hp)⟩
theorem rv_newL {K : PySem.W.Frag} {ρ : List Addr} {H H' : Hp} {h : MH} {p : Addr} (R : HR K ρ h H) : RV K (ρ ++ [p]) H' (.loc h.length) (.ref p) := .loc (by rw [← R.len]; simp)
theorem good_newL {K : PySem.W.Frag} {ρ : List Addr} {H : Hp} {h : MH} {σ : St} {Q : VK} {ds : List D} {vs : List V} {p : Addr} (g : Good K B (rD K) σ ρ H Q (newL ds h)) (R : HR K ρ h H) (r : RVs K ρ H ds vs) (hp : H p = none) : Q (.ref p) (upd H p (.lst vs)) :=
  Good.ok g (hr_newL R r hp) (Ext.newL hp) (rv_newL R)
theorem good_if {K : PySem.W.Frag} {ρ : List Addr} {H : Hp} {σ : St} {α β : Type} {rel : Rel α β} {Q : β → Hp → Prop} {p : Prop} [Decidable p] {r : R α} (g : Good K B rel σ ρ H Q (if p then r else .no)) : p ∧ Good K B rel σ ρ H Q r := by
  split at g
  · exact ⟨‹_›, g⟩
  · exact g.elim
theorem good_if' {K : PySem.W.Frag} {ρ : List Addr} {H : Hp} {σ : St} {α β : Type} {rel : Rel α β} {Q : β → Hp → Prop} {p : Prop} [Decidable p] {r : R α} (g : Good K B rel σ ρ H Q (if p then r else .no)) : p ∧ Good K B rel σ ρ H Q r := good_if g
theorem den_tup {x1} (ha : DenA X B es ms) : Den X B (.Tuple es x1 pos) (mTup ms) :=
  PE.imp (pe_tup ha) fun σ H Q ⟨ρ, h, env, R, E, g⟩ => (tR_bind ⟨R, E⟩ g).imp fun vs H1 ⟨ρ1, h1, xs, A1, e1, rx, g1⟩ => by
    obtain ⟨hl, g2⟩ := good_if g1
    exact ⟨by rw [← rx.length]; exact hl, fun p hp => good_newT g2 A1.R rx hp⟩
theorem den_lst (ha : DenA X B es ms) : Den X B (.List es pos) (mLst ms) :=
  PE.imp (pe_lst ha) fun σ H Q ⟨ρ, h, env, R, E, g⟩ => (tR_bind ⟨R, E⟩ g).imp fun vs H1 ⟨ρ1, h1, xs, A1, e1, rx, g1⟩ => by
    obtain ⟨hl, g2⟩ := good_if g1
    exact ⟨by rw [← rx.length]; exact hl, fun p hp => good_newL g2 A1.R rx hp⟩
end
end MP
set_option Elab.async false
set_option linter.all false
set_option maxRecDepth 100000
set_option maxHeartbeats 2000000
/-! M2: operators on data, subscripts, slices, built-ins, methods. -/
namespace MP
open PySem PySem.Spec L2
section
variable {K : PySem.W.Frag} {B : WB} {σ : St} {ρ ρ' : List Addr} {H H' : Hp} {h : MH} {env : Env} {α β : Type} {rel : Rel α β}
/-- a location that holds a list -/
theorem HR.lst {n : Nat} {a : Addr} {ds : List D} (R : HR K ρ h H) (e : ρ[n]? = some a) (e' : h[n]? = some (.lst ds)) : ∃ vs, H a = some (.lst vs) ∧ RVs K ρ H ds vs := R.ob n a _ e e'
theorem HR.dic {n : Nat} {a : Addr} {ds : List (Key × D)} (R : HR K ρ h H) (e : ρ[n]? = some a) (e' : h[n]? = some (.dic ds)) : ∃ vs, H a = some (.dK vs) ∧ RKs K ρ H ds vs := R.ob n a _ e e'
theorem HR.dit {n : Nat} {a : Addr} {ds : List (List Key × D)} (R : HR K ρ h H) (e : ρ[n]? = some a) (e' : h[n]? = some (.dit ds)) : ∃ vs, H a = some (.dT vs) ∧ RKs K ρ H ds vs := R.ob n a _ e e'
theorem HR.ins {n : Nat} {a : Addr} {C : Str} {ds : List (Str × D)} (R : HR K ρ h H) (e : ρ[n]? = some a) (e' : h[n]? = some (.ins C ds)) : ∃ dx vs, H a = some (.ins (He.ga K C) dx vs) ∧ RKs K ρ H ds vs := R.ob n a _ e e'
/-- the items of what may be read as a list -/
def lstOf (h : MH) : D → Option (List D)
  | .rol ds => some ds
  | .loc n => match h[n]? with
    | some (.lst ds) => some ds
    | _ => none
  | _ => none
theorem lstOf_ok {d : D} {v : V} {ds : List D} (R : HR K ρ h H) (r : RV K ρ H d v) (e : lstOf h d = some ds) : ∃ a vs, v = .ref a ∧ SqL K H a vs ∧ RVs K ρ H ds vs := by
  cases r with
  | @rol a es vs q rs => cases e; exact ⟨a, vs, rfl, q.l, rs⟩
  | @loc n a q =>
    unfold lstOf at e
    dsimp only at e
    split at e
    · rename_i xs he
      cases e
      obtain ⟨vs, hv, rs⟩ := R.lst q he
      exact ⟨a, vs, rfl, .inl (.inl hv), rs⟩
    · cases e
  | _ => cases e
/-- .. or as a tuple -/
def tupOf : D → Option (List D)
  | .tup ds => some ds
  | _ => none
theorem tupOf_ok {d : D} {v : V} {ds : List D} (r : RV K ρ H d v) (e : tupOf d = some ds) : ∃ a vs, v = .ref a ∧ H a = some (.tup vs) ∧ RVs K ρ H ds vs := by
  cases r with
  | @tup a es vs q rs => cases e; exact ⟨a, vs, rfl, q, rs⟩
  | _ => cases e
theorem SqT.tup {a : Addr} {vs : List V} (e : H a = some (.tup vs)) : SqT K H a vs := .inl (.inl e)
theorem SqL.lst {a : Addr} {vs : List V} (e : H a = some (.lst vs)) : SqL K H a vs := .inl (.inl e)
end

/-! ### whole numbers and texts -/
def fAdd : D → D → MH → R D
  | .int i, .int j, h => .ok (.int (i + j)) h
  | .str a, .str b, h => if a.length + b.length ≤ sizeLine then .ok (.str (a ++ b)) h else .no
  | .tup a, .tup b, h => if a.length + b.length ≤ sizeLine then .ok (.tup (a ++ b)) h else .no
  | .loc m, .loc n, h => match h[m]?, h[n]? with
    | some (.lst a), some (.lst b) => if a.length + b.length ≤ sizeLine then newL (a ++ b) h else .no
    | _, _ => .no
  | _, _, _ => .no
abbrev rAddS : R2 := fun x y H Q => ∃ i j, x = .str i ∧ y = .str j ∧ i.length + j.length ≤ sizeLine ∧ Q (.str (i ++ j)) H
abbrev rAddAll (K : PySem.W.Frag) : R2 := fun x y H Q => rI0 (fun i j => .int (i + j)) x y H Q ∨ (rAddS x y H Q ∨ (rCatA K x y H Q ∨ rCat x y H Q))
theorem op_addAll {X : Cx} : OpR X (binaryOp .Add) (rAddAll X.K) := OpR.or op_add (OpR.or op_add_str (OpR.or op_catA op_cat))
theorem add_ok {K : PySem.W.Frag} {B : WB} : OpM K B (rAddAll K) fAdd := by
  intro σ ρ h H Q x y v w R rx ry g
  unfold fAdd at g
  split at g
  · cases rx; cases ry; exact .inl ⟨_, _, rfl, rfl, g.ok0 R (.int _)⟩
  · cases rx; cases ry
    obtain ⟨hl, g⟩ := good_if g
    exact .inr (.inl ⟨_, _, rfl, rfl, hl, g.ok0 R (.str _)⟩)
  · obtain ⟨hl, g⟩ := good_if g
    cases rx with
    | @tup a _ vs e r =>
      cases ry with
      | @tup b _ ws e' r' =>
        refine .inr (.inr (.inl ⟨a, b, vs, ws, rfl, rfl, SqT.tup e, SqT.tup e', by rw [← r.length, ← r'.length]; exact hl, ?_, ?_, ?_⟩))
        · rintro rfl
          cases r
          exact g.ok0 R (.tup e' r')
        · rintro _ rfl
          cases r'
          rw [List.append_nil] at g
          exact g.ok0 R (.tup e r)
        · exact fun _ _ p hp => good_newT g R (r.append r') hp
  · rename_i m n _
    split at g
    · rename_i xs ys e1 e2
      obtain ⟨hl, g⟩ := good_if g
      cases rx with
      | @loc _ a e =>
        cases ry with
        | @loc _ b e' =>
          obtain ⟨vs, q, r⟩ := R.lst e e1
          obtain ⟨ws, q', r'⟩ := R.lst e' e2
          exact .inr (.inr (.inr ⟨a, b, vs, ws, rfl, rfl, q, q', by rw [← r.length, ← r'.length]; exact hl, fun p hp => good_newL g R (r.append r') hp⟩))
    · exact g.elim
  · exact g.elim
def fSub : D → D → MH → R D
  | .int i, .int j, h => .ok (.int (i - j)) h
  | _, _, _ => .no
theorem sub_ok {K : PySem.W.Frag} {B : WB} : OpM K B (rI0 fun i j => .int (i - j)) fSub := by
  intro σ ρ h H Q x y v w R rx ry g
  unfold fSub at g
  split at g
  · cases rx; cases ry; exact ⟨_, _, rfl, rfl, g.ok0 R (.int _)⟩
  · exact g.elim
instance (i j : Int) : Decidable (CMul i j) := by unfold CMul; infer_instance
instance (i j : Int) : Decidable (CPow i j) := by unfold CPow; infer_instance
instance (i j : Int) : Decidable (CDiv i j) := by unfold CDiv; infer_instance
/-- a text said again -/
def CRep (a : Str) (k : Int) : Prop := k.natAbs ≤ 1000000 ∧ a.length * k.toNat ≤ 1000000
instance (a : Str) (k : Int) : Decidable (CRep a k) := by unfold CRep; infer_instance
theorem CRep.ok {a : Str} {k : Int} (h : CRep a k) : MulOk a k := by
  obtain ⟨h1, h2⟩ := h
  refine ⟨?_, fun hk _ => ?_, fun hk _ => ?_⟩
  · exact Bool.or_eq_false_iff.mpr ⟨decide_eq_false (by omega), decide_eq_false (by omega)⟩
  · obtain ⟨n, rfl⟩ := Int.eq_ofNat_of_zero_le (show 0 ≤ k by omega)
    have h3 : a.length * n ≤ 1000000 := by simpa using h2
    have hn : 0 < (n : Int) := by omega
    have h4 : (a.length : Int) * (n : Int) ≤ 2 ^ 63 - 1 := by
      have q : ((a.length * n : Nat) : Int) ≤ ((1000000 : Nat) : Int) := Int.ofNat_le.mpr h3
      rw [Int.natCast_mul] at q
      generalize (a.length : Int) * (n : Int) = z at q ⊢
      omega
    exact Int.not_lt.mpr ((Int.le_ediv_iff_mul_le hn).mpr h4)
  · exact decide_eq_false (Nat.not_lt.mpr (Nat.le_trans h2 (by decide)))
def fMul : D → D → MH → R D
  | .int i, .int j, h => if CMul i j then .ok (.int (i * j)) h else .no
  | .loc n, .int k, h => match h[n]? with
    | some (.lst a) => if -(2 ^ 63) ≤ k ∧ k < 2 ^ 63 ∧ a.length * k.toNat ≤ sizeLine then newL (List.replicate k.toNat a).flatten h else .no
    | _ => .no
  | .str a, .int k, h => if CRep a k then .ok (.str (Txt.mul a k)) h else .no
  | _, _, _ => .no
abbrev rMulS : R2 := fun x y H Q => ∃ a k, x = .str a ∧ y = .int k ∧ MulOk a k ∧ Q (.str (Txt.mul a k)) H
abbrev rMulAll : R2 := fun x y H Q => rI CMul (fun i j => .int (i * j)) x y H Q ∨ (rRep x y H Q ∨ rMulS x y H Q)
theorem op_mulS {X : Cx} : OpR X (binaryOp .Mult) rMulS := by
  intro pins s σ H x y v u Q I rx ry h
  obtain ⟨a, k, rfl, rfl, ok, q⟩ := h
  obtain ⟨t, rfl⟩ := rx
  obtain ⟨t2, rfl⟩ := ry
  exact SB.mul ok fun t' n => ⟨.str (Txt.mul a k), H, I.tok _, ⟨_, rfl⟩, q⟩
theorem op_mulAll {X : Cx} : OpR X (binaryOp .Mult) rMulAll := OpR.or op_mul (OpR.or op_rep op_mulS)
theorem RVs.rep {K : PySem.W.Frag} {ρ : List Addr} {H : Hp} {ds : List D} {vs : List V} (r : RVs K ρ H ds vs) : ∀ n : Nat, RVs K ρ H (List.replicate n ds).flatten (List.replicate n vs).flatten
  | 0 => .nil
  | n + 1 => by
    rw [List.replicate_succ, List.replicate_succ, List.flatten_cons, List.flatten_cons]
    exact r.append (RVs.rep r n)
theorem mul_ok {K : PySem.W.Frag} {B : WB} : OpM K B rMulAll fMul := by
  intro σ ρ h H Q x y v w R rx ry g
  unfold fMul at g
  split at g
  · obtain ⟨hl, g⟩ := good_if g
    cases rx; cases ry; exact .inl ⟨_, _, rfl, rfl, hl, g.ok0 R (.int _)⟩
  · split at g
    · rename_i a e1
      obtain ⟨⟨h1, h2, h3⟩, g⟩ := good_if g
      cases ry
      cases rx with
      | @loc _ l e =>
        obtain ⟨vs, q, r⟩ := R.lst e e1
        exact .inr (.inl ⟨l, _, vs, rfl, rfl, q, h1, h2, by rw [← r.length]; exact h3, fun p hp => good_newL g R (r.rep _) hp⟩)
    · exact g.elim
  · obtain ⟨hl, g⟩ := good_if g
    cases rx; cases ry; exact .inr (.inr ⟨_, _, rfl, rfl, hl.ok, g.ok0 R (.str _)⟩)
  · exact g.elim
def fMod : D → D → MH → R D
  | .int i, .int j, h => if 0 < j then .ok (.int (i % j)) h else .no
  | _, _, _ => .no
theorem mod_ok {K : PySem.W.Frag} {B : WB} : OpM K B (rI (fun _ j => 0 < j) fun i j => .int (i % j)) fMod := by
  intro σ ρ h H Q x y v w R rx ry g
  unfold fMod at g
  split at g
  · obtain ⟨hl, g⟩ := good_if g
    cases rx; cases ry; exact ⟨_, _, rfl, rfl, hl, g.ok0 R (.int _)⟩
  · exact g.elim
def fDiv : D → D → MH → R D
  | .int i, .int j, h => if CDiv i j then .ok (.int (i / j)) h else .no
  | _, _, _ => .no
theorem div_ok {K : PySem.W.Frag} {B : WB} : OpM K B (rI CDiv fun i j => .int (i / j)) fDiv := by
  intro σ ρ h H Q x y v w R rx ry g
  unfold fDiv at g
  split at g
  · obtain ⟨hl, g⟩ := good_if g
    cases rx; cases ry; exact ⟨_, _, rfl, rfl, hl, g.ok0 R (.int _)⟩
  · exact g.elim
def CPowW (i j : Int) : Prop := CPow i j ∨ (0 ≤ j ∧ ((Builtin.Int.intBits i : Nat) : Int) * j ≤ 2 ^ 27)
instance (i j : Int) : Decidable (CPowW i j) := by unfold CPowW; infer_instance
theorem op_powW {X : Cx} : OpR X (binaryOp .Pow) (rI CPowW fun i j => .int (i ^ j.toNat)) := by
  refine opI fun i j t u s Q E hc q => ?_
  rcases hc with hc | ⟨h1, h2⟩
  · exact PyProof.Rows.pow_int_small hc.1 hc.2.1 hc.2.2 q
  · exact PyProof.Rows.pow_int h1 h2 q
def fPow : D → D → MH → R D
  | .int i, .int j, h => if CPowW i j then .ok (.int (i ^ j.toNat)) h else .no
  | _, _, _ => .no
theorem pow_ok {K : PySem.W.Frag} {B : WB} : OpM K B (rI CPowW fun i j => .int (i ^ j.toNat)) fPow := by
  intro σ ρ h H Q x y v w R rx ry g
  unfold fPow at g
  split at g
  · obtain ⟨hl, g⟩ := good_if g
    cases rx; cases ry; exact ⟨_, _, rfl, rfl, hl, g.ok0 R (.int _)⟩
  · exact g.elim

/-! ### comparisons -/
def eqS : D → D → Option Bool
  | .non, .non => some true
  | .non, .int _ | .int _, .non | .non, .bl _ | .bl _, .non | .non, .str _ | .str _, .non => some false
  | .int i, .int j => some (decide (i = j))
  | .bl a, .bl b => some (decide (a = b))
  | .str a, .str b => some (decide (a = b))
  | .int _, .str _ | .str _, .int _ | .bl _, .str _ | .str _, .bl _ => some false
  | _, _ => none
theorem eqS_ok {K : PySem.W.Frag} {ρ : List Addr} {H : Hp} {x y : D} {v w : V} {b : Bool} (rx : RV K ρ H x v) (ry : RV K ρ H y w) (e : eqS x y = some b) : scal v w = true ∧ decide (v = w) = b := by
  cases rx <;> cases ry <;> first | (cases e; done) | (simp only [eqS, Option.some.injEq] at e; subst e; refine ⟨rfl, ?_⟩; first | rfl | (simp; done))
mutual
def toT : D → Option PyData
  | .non => some .none
  | .bl b => some (.bool b)
  | .int i => some (.int i)
  | .str s => some (.str s)
  | .tup ds => (toTs ds).map PyData.tuple
  | .rol _ | .loc _ | .ty _ | .fn _ => none
def toTs : List D → Option (List PyData)
  | [] => some []
  | d :: ds => match toT d, toTs ds with
    | some p, some ps => some (p :: ps)
    | _, _ => none
end
def toP (h : MH) (d : D) : Option PyData := match lstOf h d with
  | some ds => (toTs ds).map PyData.list
  | none => toT d
section
variable {K : PySem.W.Frag} {ρ : List Addr} {H : Hp} {h : MH}
mutual
theorem toT_dp : ∀ {d : D} {v : V} {p : PyData}, RV K ρ H d v → toT d = some p → Dp K H v p
  | _, _, _, .non, e => by simp only [toT, Option.some.injEq] at e; subst e; exact .non
  | _, _, _, .bl b, e => by simp only [toT, Option.some.injEq] at e; subst e; exact .bl b
  | _, _, _, .int i, e => by simp only [toT, Option.some.injEq] at e; subst e; exact .int i
  | _, _, _, .str s, e => by simp only [toT, Option.some.injEq] at e; subst e; exact .str s
  | _, _, _, .ty n, e => by simp [toT] at e
  | _, _, _, .fn n, e => by simp [toT] at e
  | _, _, _, .loc n, e => by simp [toT] at e
  | _, _, _, .rol _ _, e => by simp [toT] at e
  | .tup ds, _, _, .tup q r, e => by
    simp only [toT] at e
    cases h1 : toTs ds with
    | none => rw [h1] at e; cases e
    | some ps => rw [h1] at e; cases e; exact .tup (SqT.tup q) (toTs_dp r h1)
theorem toTs_dp : ∀ {ds : List D} {vs : List V} {ps : List PyData}, RVs K ρ H ds vs → toTs ds = some ps → DpAll K H vs ps
  | _, _, _, .nil, e => by simp only [toTs, Option.some.injEq] at e; subst e; exact .nil
  | d :: ds, _, _, .cons r t, e => by
    simp only [toTs] at e
    cases h1 : toT d with
    | none => rw [h1] at e; simp at e
    | some p =>
      cases h2 : toTs ds with
      | none => rw [h1, h2] at e; simp at e
      | some ps => rw [h1, h2] at e; simp at e; subst e; exact .cons (toT_dp r h1) (toTs_dp t h2)
end
theorem toP_dp {d : D} {v : V} {p : PyData} (R : HR K ρ h H) (r : RV K ρ H d v) (e : toP h d = some p) : Dp K H v p := by
  unfold toP at e
  split at e
  · rename_i ds e1
    obtain ⟨a, vs, rfl, q, rs⟩ := lstOf_ok R r e1
    cases h1 : toTs ds with
    | none => rw [h1] at e; cases e
    | some ps => rw [h1] at e; cases e; exact .lst q (toTs_dp rs h1)
  · exact toT_dp r e
end
/-- data compared by value; none: not data -/
def eqP (h : MH) (x y : D) : Option Bool := match toP h x, toP h y with
  | some d, some e => if SeqAt.shaped d = true ∧ SeqAt.shaped e = true then some (PyData.eqv d e) else none
  | _, _ => none
def eqD (h : MH) (x y : D) : Option Bool := match eqS x y with
  | some b => some b
  | none => eqP h x y
def fEq (x y : D) (h : MH) : R D := match eqD h x y with
  | some b => .ok (.bl b) h
  | none => .no
def fNe (x y : D) (h : MH) : R D := match eqD h x y with
  | some b => .ok (.bl (!b)) h
  | none => .no
abbrev rEqAll (K : PySem.W.Frag) : R2 := fun x y H Q => rEq x y H Q ∨ rEqD K x y H Q
abbrev rNeAll (K : PySem.W.Frag) : R2 := fun x y H Q => rNe x y H Q ∨ rNeD K x y H Q
theorem op_eqAll {X : Cx} (hu : X.A.units + 64 < cLine) : OpR X (compareOp .Eq) (rEqAll X.K) := OpR.or op_eq (op_eqD hu)
theorem op_neAll {X : Cx} (hu : X.A.units + 64 < cLine) : OpR X (compareOp .NotEq) (rNeAll X.K) := OpR.or op_ne (op_neD hu)
theorem eqP_ok {K : PySem.W.Frag} {ρ : List Addr} {H : Hp} {h : MH} {x y : D} {v w : V} {b : Bool} (R : HR K ρ h H) (rx : RV K ρ H x v) (ry : RV K ρ H y w) (e : eqP h x y = some b) :
    ∃ d f, Dp K H v d ∧ Dp K H w f ∧ SeqAt.shaped d = true ∧ SeqAt.shaped f = true ∧ PyData.eqv d f = b := by
  unfold eqP at e
  split at e
  · rename_i d f e1 e2
    split at e
    · rename_i hs
      cases e
      exact ⟨d, f, toP_dp R rx e1, toP_dp R ry e2, hs.1, hs.2, rfl⟩
    · cases e
  · cases e
theorem eq_ok {K : PySem.W.Frag} {B : WB} : OpM K B (rEqAll K) fEq := by
  intro σ ρ h H Q x y v w R rx ry g
  unfold fEq eqD at g
  split at g
  · rename_i b e
    split at e
    · rename_i b' e'
      cases e
      obtain ⟨h1, h2⟩ := eqS_ok rx ry e'
      exact .inl ⟨h1, by rw [h2]; exact g.ok0 R (.bl _)⟩
    · obtain ⟨d, f, h1, h2, h3, h4, h5⟩ := eqP_ok R rx ry e
      exact .inr ⟨d, f, h1, h2, h3, h4, by rw [h5]; exact g.ok0 R (.bl _)⟩
  · exact g.elim
theorem ne_ok {K : PySem.W.Frag} {B : WB} : OpM K B (rNeAll K) fNe := by
  intro σ ρ h H Q x y v w R rx ry g
  unfold fNe eqD at g
  split at g
  · rename_i b e
    split at e
    · rename_i b' e'
      cases e
      obtain ⟨h1, h2⟩ := eqS_ok rx ry e'
      exact .inl ⟨h1, by rw [h2]; exact g.ok0 R (.bl _)⟩
    · obtain ⟨d, f, h1, h2, h3, h4, h5⟩ := eqP_ok R rx ry e
      exact .inr ⟨d, f, h1, h2, h3, h4, by rw [h5]; exact g.ok0 R (.bl _)⟩
  · exact g.elim
def fLt : D → D → MH → R D
  | .int i, .int j, h => .ok (.bl (decide (i < j))) h
  | _, _, _ => .no
def fLe : D → D → MH → R D
  | .int i, .int j, h => .ok (.bl (decide (i ≤ j))) h
  | _, _, _ => .no
def fGt : D → D → MH → R D
  | .int i, .int j, h => .ok (.bl (decide (j < i))) h
  | _, _, _ => .no
def fGe : D → D → MH → R D
  | .int i, .int j, h => .ok (.bl (decide (j ≤ i))) h
  | _, _, _ => .no
section
variable {K : PySem.W.Frag} {B : WB}
theorem lt_ok : OpM K B (rI0 fun i j => .bl (decide (i < j))) fLt := by
  intro σ ρ h H Q x y v w R rx ry g
  unfold fLt at g
  split at g
  · cases rx; cases ry; exact ⟨_, _, rfl, rfl, g.ok0 R (.bl _)⟩
  · exact g.elim
theorem le_ok : OpM K B (rI0 fun i j => .bl (decide (i ≤ j))) fLe := by
  intro σ ρ h H Q x y v w R rx ry g
  unfold fLe at g
  split at g
  · cases rx; cases ry; exact ⟨_, _, rfl, rfl, g.ok0 R (.bl _)⟩
  · exact g.elim
theorem gt_ok : OpM K B (rI0 fun i j => .bl (decide (j < i))) fGt := by
  intro σ ρ h H Q x y v w R rx ry g
  unfold fGt at g
  split at g
  · cases rx; cases ry; exact ⟨_, _, rfl, rfl, g.ok0 R (.bl _)⟩
  · exact g.elim
theorem ge_ok : OpM K B (rI0 fun i j => .bl (decide (j ≤ i))) fGe := by
  intro σ ρ h H Q x y v w R rx ry g
  unfold fGe at g
  split at g
  · cases rx; cases ry; exact ⟨_, _, rfl, rfl, g.ok0 R (.bl _)⟩
  · exact g.elim
end
theorem pure_of {f : D → D → MH → R D} (h : ∀ x y h, f x y h = .no ∨ ∃ b, f x y h = .ok (.bl b) h) : PureOp f := h
theorem pure_lt : PureOp fLt := fun x y h => by unfold fLt; split <;> simp
theorem pure_le : PureOp fLe := fun x y h => by unfold fLe; split <;> simp
theorem pure_gt : PureOp fGt := fun x y h => by unfold fGt; split <;> simp
theorem pure_ge : PureOp fGe := fun x y h => by unfold fGe; split <;> simp
theorem pure_eq : PureOp fEq := fun x y h => by unfold fEq; split <;> simp
theorem pure_ne : PureOp fNe := fun x y h => by unfold fNe; split <;> simp
/-- is None -/
def fIsN (x y : D) (h : MH) : R D := match y with
  | .non => .ok (.bl (match x with | .non => true | _ => false)) h
  | _ => .no
def fNotN (x y : D) (h : MH) : R D := match y with
  | .non => .ok (.bl (match x with | .non => false | _ => true)) h
  | _ => .no
theorem isN_ok {K : PySem.W.Frag} {B : WB} : OpM K B (fun x y H Q => y = .non ∧ Q (.bl (decide (x = .non))) H) fIsN := by
  intro σ ρ h H Q x y v w R rx ry g
  unfold fIsN at g
  cases ry with
  | non => refine ⟨rfl, ?_⟩; cases rx <;> exact g.ok0 R (by first | exact .bl _ | (simp; exact .bl _))
  | _ => exact g.elim
theorem notN_ok {K : PySem.W.Frag} {B : WB} : OpM K B (fun x y H Q => y = .non ∧ Q (.bl (!decide (x = .non))) H) fNotN := by
  intro σ ρ h H Q x y v w R rx ry g
  unfold fNotN at g
  cases ry with
  | non => refine ⟨rfl, ?_⟩; cases rx <;> exact g.ok0 R (by first | exact .bl _ | (simp; exact .bl _))
  | _ => exact g.elim
/-! ### in -/
def flatD : D → Bool
  | .non | .bl _ | .int _ | .str _ => true
  | _ => false
def eqF : D → D → Bool
  | .non, .non => true
  | .bl a, .bl b => a == b
  | .bl a, .int b => (if a then 1 else 0) == b
  | .int a, .bl b => a == (if b then 1 else 0)
  | .int a, .int b => a == b
  | .str a, .str b => a == b
  | _, _ => false
def seqOf (h : MH) (d : D) : Option (List D) := match lstOf h d with
  | some ds => some ds
  | none => tupOf d
def inS (x : D) (ds : List D) : Bool := ds.any fun y => eqF y x
def inD (h : MH) (x y : D) : Option Bool := match x, y with
  | .str a, .str z => match a.cps.toList with
    | [c] => some (decide (c ∈ z.cps.toList))
    | _ => some (!(Builtin.Str.occurrences z a 0 z.length 1).isEmpty)
  | x, y => match seqOf h y with
    | some ds => if flatD x = true ∧ ds.all flatD = true then some (inS x ds) else none
    | none => none
def fIn (x y : D) (h : MH) : R D := match inD h x y with
  | some b => .ok (.bl b) h
  | none => .no
def fNotIn (x y : D) (h : MH) : R D := match inD h x y with
  | some b => .ok (.bl (!b)) h
  | none => .no
abbrev rInStr : R2 := fun x y H Q => ∃ i j, x = .str i ∧ y = .str j ∧ Q (.bl (!(Builtin.Str.occurrences j i 0 j.length 1).isEmpty)) H
abbrev rNotInStr : R2 := fun x y H Q => ∃ i j, x = .str i ∧ y = .str j ∧ Q (.bl (!(!(Builtin.Str.occurrences j i 0 j.length 1).isEmpty))) H
abbrev rInSg : R2 := fun x y H Q => ∃ (c : Nat) (z : Str), x = .str ⟨#[c]⟩ ∧ y = .str z ∧ Q (.bl (decide (c ∈ z.cps.toList))) H
abbrev rNotInSg : R2 := fun x y H Q => ∃ (c : Nat) (z : Str), x = .str ⟨#[c]⟩ ∧ y = .str z ∧ Q (.bl (!decide (c ∈ z.cps.toList))) H
abbrev rInAll (K : PySem.W.Frag) : R2 := fun x y H Q => rInSg x y H Q ∨ (rInStr x y H Q ∨ rIn K false x y H Q)
abbrev rNotInAll (K : PySem.W.Frag) : R2 := fun x y H Q => rNotInSg x y H Q ∨ (rNotInStr x y H Q ∨ rIn K true x y H Q)
theorem op_inAll {X : Cx} : OpR X (compareOp .In) (rInAll X.K) := OpR.or op_in_sign (OpR.or op_in_str op_in_seq)
theorem op_notInAll {X : Cx} : OpR X (compareOp .NotIn) (rNotInAll X.K) := OpR.or op_notIn_sign (OpR.or op_notin_str op_notIn_seq)
section
variable {K : PySem.W.Frag} {ρ : List Addr} {H : Hp} {h : MH}
theorem seqOf_ok {d : D} {v : V} {ds : List D} (R : HR K ρ h H) (r : RV K ρ H d v) (e : seqOf h d = some ds) : ∃ a vs, v = .ref a ∧ (SqL K H a vs ∨ SqT K H a vs) ∧ RVs K ρ H ds vs := by
  unfold seqOf at e
  split at e
  · rename_i es e1
    cases e
    obtain ⟨a, vs, h1, h2, h3⟩ := lstOf_ok R r e1
    exact ⟨a, vs, h1, .inl h2, h3⟩
  · obtain ⟨a, vs, h1, h2, h3⟩ := tupOf_ok r e
    exact ⟨a, vs, h1, .inr (SqT.tup h2), h3⟩
theorem flatD_ok {d : D} {v : V} (r : RV K ρ H d v) : flatV v = flatD d := by cases r <;> rfl
theorem flatDs_ok : ∀ {ds : List D} {vs : List V}, RVs K ρ H ds vs → vs.all flatV = ds.all flatD
  | _, _, .nil => rfl
  | _, _, .cons r t => by simp only [List.all_cons, flatD_ok r, flatDs_ok t]
theorem eqF_ok {x y : D} {v w : V} (rx : RV K ρ H x v) (ry : RV K ρ H y w) : eqV v w = eqF x y := by cases rx <;> cases ry <;> rfl
theorem inS_ok {x : D} {v : V} (rx : RV K ρ H x v) : ∀ {ds : List D} {vs : List V}, RVs K ρ H ds vs → inV v vs = inS x ds
  | _, _, .nil => rfl
  | _, _, .cons r t => by
    have := inS_ok rx t
    unfold inV inS at *
    simp only [List.any_cons, eqF_ok r rx, this]
theorem one_sign {a : Str} {c : Nat} (e : a.cps.toList = [c]) : a = ⟨#[c]⟩ := by
  obtain ⟨cs⟩ := a
  have : cs = #[c] := by apply Array.toList_inj.mp; exact e
  rw [this]
end
theorem in_ok {K : PySem.W.Frag} {B : WB} : OpM K B (rInAll K) fIn := by
  intro σ ρ h H Q x y v w R rx ry g
  unfold fIn at g
  split at g
  · rename_i b e
    unfold inD at e
    split at e
    · cases rx; cases ry
      split at e
      · rename_i c ec
        cases e
        exact .inl ⟨c, _, by rw [one_sign ec], rfl, g.ok0 R (.bl _)⟩
      · cases e
        exact .inr (.inl ⟨_, _, rfl, rfl, g.ok0 R (.bl _)⟩)
    · split at e
      · rename_i ds e1
        split at e
        · rename_i hf
          cases e
          obtain ⟨a, vs, rfl, h2, h3⟩ := seqOf_ok R ry e1
          exact .inr (.inr ⟨a, vs, rfl, h2, by rw [flatD_ok rx]; exact hf.1, by rw [flatDs_ok h3]; exact hf.2, by
            show Q (.bl (inV _ vs)) H
            rw [inS_ok rx h3]; exact g.ok0 R (.bl _)⟩)
        · cases e
      · cases e
  · exact g.elim
theorem notIn_ok {K : PySem.W.Frag} {B : WB} : OpM K B (rNotInAll K) fNotIn := by
  intro σ ρ h H Q x y v w R rx ry g
  unfold fNotIn at g
  split at g
  · rename_i b e
    unfold inD at e
    split at e
    · cases rx; cases ry
      split at e
      · rename_i c ec
        cases e
        exact .inl ⟨c, _, by rw [one_sign ec], rfl, g.ok0 R (.bl _)⟩
      · cases e
        exact .inr (.inl ⟨_, _, rfl, rfl, g.ok0 R (.bl _)⟩)
    · split at e
      · rename_i ds e1
        split at e
        · rename_i hf
          cases e
          obtain ⟨a, vs, rfl, h2, h3⟩ := seqOf_ok R ry e1
          exact .inr (.inr ⟨a, vs, rfl, h2, by rw [flatD_ok rx]; exact hf.1, by rw [flatDs_ok h3]; exact hf.2, by
            show Q (.bl (!inV _ vs)) H
            rw [inS_ok rx h3]; exact g.ok0 R (.bl _)⟩)
        · cases e
      · cases e
  · exact g.elim
end MP
set_option Elab.async false
set_option linter.all false
set_option maxRecDepth 100000
set_option maxHeartbeats 2000000
/-! M3: targets, what is walked, comprehensions, statements. -/
namespace MP
open PySem PySem.Spec L2
theorem PI.imp {X : Cx} {tg e : Expr} {t t' : TI} (p : PI X tg e t) (f : ∀ σ H Q, t' σ H Q → t σ H Q) : PI X tg e t' := ⟨fun pins s σ H Q I g => p.run pins s σ H Q I (f σ H Q g)⟩
/-! ### a target: a name, or a flat tuple of names -/
inductive Tg where
  | nm (j : Nat) | tp (js : List Nat)
def sets : List Nat → List D → Env → Env
  | j :: js, d :: ds, e => sets js ds (e.set j (some d))
  | _, _, e => e
def Tg.put : Tg → D → Env → Option Env
  | .nm j, d, e => some (e.set j (some d))
  | .tp js, .tup ds, e => if ds.length = js.length then some (sets js ds e) else none
  | _, _, _ => none
def Tg.slots : Tg → List Nat
  | .nm j => [j]
  | .tp js => js
def setsV : List Nat → List V → St → St
  | j :: js, d :: ds, e => setsV js ds (e.set j (some d))
  | _, _, e => e
def gNames : List Nat → TGs
  | [] => gNil
  | j :: js => gCons (gName j) (gNames js)
def Tg.g (K : PySem.W.Frag) : Tg → TG
  | .nm j => gName j
  | .tp js => gTup K js.length (gNames js)
section
variable {K : PySem.W.Frag} {ρ : List Addr} {H : Hp} {h : MH}
theorem gNames_ok : ∀ {js : List Nat} {vs : List V} {σ : St} {Q : St → Hp → Prop}, vs.length = js.length → Q (setsV js vs σ) H → gNames js vs σ H Q
  | [], [], σ, Q, _, q => ⟨rfl, q⟩
  | j :: js, v :: vs, σ, Q, e, q => ⟨v, vs, rfl, gNames_ok (by simpa using e) q⟩
  | [], _ :: _, _, _, e, _ => by simp at e
  | _ :: _, [], _, _, e, _ => by simp at e
theorem ER.sets : ∀ {js : List Nat} {ds : List D} {vs : List V} {env : Env} {σ : St}, ER K ρ H env σ → RVs K ρ H ds vs → ER K ρ H (sets js ds env) (setsV js vs σ)
  | [], _, _, _, _, r, _ => by unfold MP.sets setsV; exact r
  | j :: js, _, _, _, _, r, .nil => by unfold MP.sets setsV; exact r
  | j :: js, _, _, _, _, r, .cons q t => by unfold MP.sets setsV; exact ER.sets (r.set j q) t
theorem setsV_len : ∀ (js : List Nat) (vs : List V) (σ : St), (setsV js vs σ).length = σ.length
  | [], _, _ => by unfold setsV; rfl
  | j :: js, [], _ => by unfold setsV; rfl
  | j :: js, v :: vs, σ => by unfold setsV; rw [setsV_len, List.length_set]
theorem wipe_get (σ : St) (i : Nat) : ∀ vs : List Nat, (wipe σ vs)[i]? = if i ∈ vs then (if i < σ.length then some none else none) else σ[i]?
  | [] => by simp [wipe]
  | v :: vs => by
    unfold wipe
    rw [List.getElem?_set, wipe_length, wipe_get σ i vs]
    by_cases h : v = i
    · subst h; simp
    · have h' : ¬ i = v := fun e => h e.symm
      simp [h, h']
theorem wipe_of {σ τ : St} {vs : List Nat} (hl : σ.length = τ.length) (h : ∀ i, i ∉ vs → σ[i]? = τ[i]?) : wipe σ vs = wipe τ vs := by
  apply List.ext_getElem?
  intro i
  rw [wipe_get, wipe_get, hl]
  split
  · rfl
  · exact h i ‹_›
theorem setsV_get {i : Nat} : ∀ {js : List Nat} {vs : List V} {σ : St}, i ∉ js → (setsV js vs σ)[i]? = σ[i]?
  | [], _, _, _ => by unfold setsV; rfl
  | j :: js, [], _, _ => by unfold setsV; rfl
  | j :: js, v :: vs, σ, h => by
    unfold setsV
    rw [setsV_get (fun q => h (List.mem_cons_of_mem _ q)), List.getElem?_set_ne (fun q => h (by rw [q]; exact List.mem_cons_self))]
theorem wipe_wipe (σ : St) (vs : List Nat) : wipe (wipe σ vs) vs = wipe σ vs := wipe_of (wipe_length _ _) fun i hi => by rw [wipe_get, if_neg hi]
/-- a store, and what it changes -/
theorem Tg.put_ok {t : Tg} {d : D} {v : V} {env env' : Env} {σ : St} {Q : St → Hp → Prop} (E : ER K ρ H env σ) (r : RV K ρ H d v) (e : t.put d env = some env')
    (k : ∀ σ', ER K ρ H env' σ' → σ'.length = σ.length → (∀ i, i ∉ t.slots → σ'[i]? = σ[i]?) → Q σ' H) : t.g K v σ H Q := by
  cases t with
  | nm j =>
    cases e
    exact k _ (E.set j r) (by simp) fun i hi => List.getElem?_set_ne (fun q => hi (by rw [← q]; exact List.mem_singleton.mpr rfl))
  | tp js =>
    cases r with
    | @tup a ds vs ea rs =>
      have e' : (if ds.length = js.length then some (MP.sets js ds env) else none) = some env' := e
      by_cases hl : ds.length = js.length
      · rw [if_pos hl] at e'
        cases e'
        exact ⟨a, vs, rfl, SqT.tup ea, by rw [← rs.length]; exact hl, gNames_ok (by rw [← rs.length]; exact hl) (k _ (E.sets rs) (setsV_len _ _ _) fun i hi => setsV_get hi)⟩
      · rw [if_neg hl] at e'; cases e'
    | _ => cases e
end
/-- the judgement -/
abbrev DenG (X : Cx) (tg : Expr) (t : Tg) := PG X tg (t.g X.K)
section
variable {X : Cx}
theorem deng_name (i : Nat) {x : Str} {pos : Pos} (hN : X.N.Nodup) (hi : X.N[i]? = some x) (hx : Loc X.env.scope x) (hf : X.fn x = true ∨ X.env.scope.names.lookup x = some .local := by first | exact .inl rfl | exact .inr rfl | assumption) : DenG X (.Name x pos) (.nm i) := pg_name hN hi hx hf
theorem deng_tup {es : List Expr} {k : Nat} {js : List Nat} {pos : Pos} (hc : X.calm = true) (h : PGs X es (gNames js))
    (hn : (assignEach es X.env).length = js.length := by rfl) (hst : (assignEach es X.env).findIdx? (·.1) = none := by rfl) : DenG X (.Tuple es k pos) (.tp js) := pg_tup hc h hn hst
theorem deng_nil : PGs X [] (gNames []) := pgs_nil
theorem deng_cons {e : Expr} {es : List Expr} {j : Nat} {js : List Nat} (h1 : DenG X e (.nm j)) (h2 : PGs X es (gNames js)) (hs : (assignEach (e :: es) X.env).map (·.2) = assign e X.env :: (assignEach es X.env).map (·.2) := by rfl) : PGs X (e :: es) (gNames (j :: js)) := pgs_cons h1 h2 hs
end

/-! ### what is walked -/
inductive Src where
  | lst (d : D) | tup (ds : List D) | str (s : Str) | rng (lo : Int) (n : Nat) | enm (d : D) | zip (d e : D)
def Src.get (h : MH) (i : Nat) : Src → Option (Option D)
  | .lst d => (lstOf h d).map fun ds => ds[i]?
  | .tup ds => some ds[i]?
  | .str s => some (s.cps[i]?.map fun c => .str ⟨#[c]⟩)
  | .rng lo n => some (if i < n then some (.int (lo + (i : Nat))) else none)
  | .enm d => (lstOf h d).map fun ds => ds[i]?.map fun x => .tup [.int (i : Nat), x]
  | .zip d e => match lstOf h d, lstOf h e with
    | some xs, some ys => some (match xs[i]?, ys[i]? with | some x, some y => some (.tup [x, y]) | _, _ => none)
    | _, _ => none
def Src.fuel (h : MH) : Src → Nat
  | .lst d => ((lstOf h d).getD []).length + 1
  | .tup ds => ds.length + 1
  | .str s => s.cps.size + 1
  | .rng _ n => n + 1
  | .enm d => ((lstOf h d).getD []).length + 1
  | .zip d _ => ((lstOf h d).getD []).length + 1
structure ItG (K : PySem.W.Frag) (ρ0 : List Addr) (H0 : Hp) (src : Src) (J : It) : Prop where
  stop : ∀ ρ h H i, HR K ρ h H → Kp K ρ0 H0 ρ H → src.get h i = some none → J.stop i H
  go : ∀ ρ h H i d, HR K ρ h H → Kp K ρ0 H0 ρ H → src.get h i = some (some d) → J.go i H ∧ ∀ x H', J.yld i H x H' → HR K ρ h H' ∧ Ext ρ H ρ H' ∧ RV K ρ H' d x
abbrev rSrc (K : PySem.W.Frag) : Rel Src It := fun ρ H s J => ItG K ρ H s J
abbrev MI := Env → MH → R Src
abbrev DenI (X : Cx) (B : WB) (tg e : Expr) (m : MI) := PI X tg e (tR X.K B (rSrc X.K) m)
section
variable {K : PySem.W.Frag} {ρ0 : List Addr} {H0 : Hp}
theorem itg_lst {d : D} {a : Addr} (r : RV K ρ0 H0 d (.ref a)) : ItG K ρ0 H0 (.lst d) (Itl K a) where
  stop := fun ρ h H i R k e => by
    cases q : lstOf h d with
    | none => simp [Src.get, q] at e
    | some ds =>
      simp [Src.get, q] at e
      obtain ⟨b, vs, eb, s, rs⟩ := lstOf_ok R (r.kp k) q
      cases eb
      exact ⟨vs, s, by rw [← rs.length]; exact e⟩
  go := fun ρ h H i d' R k e => by
    cases q : lstOf h d with
    | none => simp [Src.get, q] at e
    | some ds =>
      have e' : ds[i]? = some d' := by simpa [Src.get, q] using e
      obtain ⟨b, vs, eb, s, rs⟩ := lstOf_ok R (r.kp k) q
      cases eb
      obtain ⟨v, h1, h2⟩ := rs.get e'
      refine ⟨⟨vs, v, s, h1⟩, ?_⟩
      rintro x H' ⟨rfl, hx⟩
      have := hx vs s
      rw [h1] at this; cases this
      exact ⟨R, Ext.refl, h2⟩
theorem itg_tup {ds : List D} {a : Addr} (r : RV K ρ0 H0 (.tup ds) (.ref a)) : ItG K ρ0 H0 (.tup ds) (Itt K a) where
  stop := fun ρ h H i R k e => by
    simp [Src.get] at e
    cases r.kp k with
    | tup ea rs => exact ⟨_, SqT.tup ea, by rw [← rs.length]; exact e⟩
  go := fun ρ h H i d' R k e => by
    have e' : ds[i]? = some d' := by simpa [Src.get] using e
    cases r.kp k with
    | @tup _ _ vs ea rs =>
      obtain ⟨v, h1, h2⟩ := rs.get e'
      refine ⟨⟨vs, v, SqT.tup ea, h1⟩, ?_⟩
      rintro x H' ⟨rfl, hx⟩
      have := hx vs (SqT.tup ea)
      rw [h1] at this; cases this
      exact ⟨R, Ext.refl, h2⟩
theorem itg_rng {lo : Int} {n : Nat} : ItG K ρ0 H0 (.rng lo n) (Itr lo n) where
  stop := fun ρ h H i R k e => by
    by_cases q : i < n
    · simp [Src.get, q] at e
    · exact Nat.le_of_not_lt q
  go := fun ρ h H i d' R k e => by
    by_cases q : i < n
    · simp [Src.get, q] at e
      subst e
      refine ⟨q, ?_⟩
      rintro x H' ⟨rfl, rfl⟩
      exact ⟨R, Ext.refl, .int _⟩
    · simp [Src.get, q] at e
theorem itg_str {s : Str} : ItG K ρ0 H0 (.str s) (Its s) where
  stop := fun ρ h H i R k e => by
    simp [Src.get] at e
    exact e
  go := fun ρ h H i d' R k e => by
    simp only [Src.get, Option.some.injEq, Option.map_eq_some_iff] at e
    obtain ⟨c, h1, rfl⟩ := e
    refine ⟨(Array.getElem?_eq_some_iff.mp h1).1, ?_⟩
    rintro x H' ⟨rfl, c', h2, rfl⟩
    rw [h1] at h2; cases h2
    exact ⟨R, Ext.refl, .str _⟩
theorem itg_enm {d : D} {a : Addr} (r : RV K ρ0 H0 d (.ref a)) : ItG K ρ0 H0 (.enm d) (Ite K a) where
  stop := fun ρ h H i R k e => by
    cases q : lstOf h d with
    | none => simp [Src.get, q] at e
    | some ds =>
      simp [Src.get, q] at e
      obtain ⟨b, vs, eb, s, rs⟩ := lstOf_ok R (r.kp k) q
      cases eb
      exact ⟨vs, s, by rw [← rs.length]; exact e⟩
  go := fun ρ h H i d' R k e => by
    cases q : lstOf h d with
    | none => simp [Src.get, q] at e
    | some ds =>
      simp only [Src.get, q, Option.map_some, Option.some.injEq, Option.map_eq_some_iff] at e
      obtain ⟨y, h0, rfl⟩ := e
      obtain ⟨b, vs, eb, s, rs⟩ := lstOf_ok R (r.kp k) q
      cases eb
      obtain ⟨v, h1, h2⟩ := rs.get h0
      refine ⟨⟨vs, v, s, h1⟩, ?_⟩
      rintro x H' ⟨T, x', rfl, hT, rfl, hx⟩
      have := hx vs s
      rw [h1] at this; cases this
      exact ⟨R.new hT, Ext.new hT, rv_newT R (.cons (.int _) (.cons h2 .nil)) hT⟩
theorem itg_zip {d e : D} {a b : Addr} (r : RV K ρ0 H0 d (.ref a)) (r' : RV K ρ0 H0 e (.ref b)) : ItG K ρ0 H0 (.zip d e) (Itz K a b) where
  stop := fun ρ h H i R k g => by
    simp only [Src.get] at g
    split at g
    · rename_i xs ys q1 q2
      obtain ⟨a', vs, eb, s, rs⟩ := lstOf_ok R (r.kp k) q1
      cases eb
      obtain ⟨b', ws, eb, s', rs'⟩ := lstOf_ok R (r'.kp k) q2
      cases eb
      refine ⟨vs, ws, s, s', ?_⟩
      rw [← rs.length, ← rs'.length]
      split at g
      · cases g
      · rename_i hh
        by_cases h1 : xs.length ≤ i
        · exact .inl h1
        · by_cases h2 : ys.length ≤ i
          · exact .inr h2
          · exact absurd (List.getElem?_eq_getElem (Nat.lt_of_not_le h2)) (hh _ _ (List.getElem?_eq_getElem (Nat.lt_of_not_le h1)))
    · cases g
  go := fun ρ h H i d' R k g => by
    simp only [Src.get] at g
    split at g
    · rename_i xs ys q1 q2
      obtain ⟨a', vs, eb, s, rs⟩ := lstOf_ok R (r.kp k) q1
      cases eb
      obtain ⟨b', ws, eb, s', rs'⟩ := lstOf_ok R (r'.kp k) q2
      cases eb
      split at g
      · rename_i x y hx hy
        cases g
        obtain ⟨v, h1, h2⟩ := rs.get hx
        obtain ⟨w, h3, h4⟩ := rs'.get hy
        refine ⟨⟨vs, ws, v, w, s, s', h1, h3⟩, ?_⟩
        rintro x H' ⟨T, x', y', rfl, hT, rfl, hx', hy'⟩
        have z1 := hx' vs s
        have z2 := hy' ws s'
        rw [h1] at z1; cases z1
        rw [h3] at z2; cases z2
        exact ⟨R.new hT, Ext.new hT, rv_newT R (.cons h2 (.cons h4 .nil)) hT⟩
      · cases g
    · cases g
end
section
variable {X : Cx} {B : WB} {tg e e2 : Expr} {me me2 : M} {ms : MA} {p pos tpos : Pos}
/-- for x in a list -/
def iL (m : M) : MI := fun env h => (m env h).bind fun x h1 => match lstOf h1 x with
  | some _ => .ok (.lst x) h1
  | none => .no
theorem good_src {K : PySem.W.Frag} {σ : St} {ρ : List Addr} {H : Hp} {h : MH} {s : Src} {J : It} {Q : It → Hp → Prop} (g : Good K B (rSrc K) σ ρ H Q (.ok s h)) (R : HR K ρ h H) (i : ItG K ρ H s J) : Q J H := g.ok0 R i
theorem deni_lst (he : Den X B e me) : DenI X B tg e (iL me) :=
  PI.imp (pi_list he) fun σ H Q ⟨ρ, h, env, R, E, g⟩ => (tR_bind ⟨R, E⟩ g).imp fun v H1 ⟨ρ1, h1, x, A1, e1, rx, g1⟩ => by
    split at g1
    · rename_i ds q
      obtain ⟨a, vs, rfl, s, rs⟩ := lstOf_ok A1.R rx q
      exact ⟨a, rfl, ⟨vs, s⟩, good_src g1 A1.R (itg_lst rx)⟩
    · exact g1.elim
def iT (m : M) : MI := fun env h => (m env h).bind fun x h1 => match x with
  | .tup ds => .ok (.tup ds) h1
  | _ => .no
theorem deni_tup (he : Den X B e me) : DenI X B tg e (iT me) :=
  PI.imp (pi_tup he) fun σ H Q ⟨ρ, h, env, R, E, g⟩ => (tR_bind ⟨R, E⟩ g).imp fun v H1 ⟨ρ1, h1, x, A1, e1, rx, g1⟩ => by
    split at g1
    · cases rx with
      | tup q r => exact ⟨_, rfl, ⟨_, SqT.tup q⟩, good_src g1 A1.R (itg_tup (.tup q r))⟩
    · exact g1.elim
def iS (m : M) : MI := fun env h => (m env h).bind fun x h1 => match x with
  | .str s => .ok (.str s) h1
  | _ => .no
theorem deni_str (he : Den X B e me) : DenI X B tg e (iS me) :=
  PI.imp (pi_str he) fun σ H Q ⟨ρ, h, env, R, E, g⟩ => (tR_bind ⟨R, E⟩ g).imp fun v H1 ⟨ρ1, h1, x, A1, e1, rx, g1⟩ => by
    split at g1
    · cases rx; exact ⟨_, rfl, good_src g1 A1.R itg_str⟩
    · exact g1.elim
def CRng (j : Int) : Prop := j.natAbs ≤ 1000000
instance (j : Int) : Decidable (CRng j) := inferInstanceAs (Decidable (_ ≤ _))
theorem CRng.lo {j : Int} (h : CRng j) : -(2 ^ 62) ≤ j := by unfold CRng at h; omega
theorem CRng.hi {j : Int} (h : CRng j) : j < 2 ^ 62 := by unfold CRng at h; omega
theorem CRng.ok {j : Int} (h0 : -1000000 ≤ j) (h1 : j ≤ 1000000) : CRng j := by unfold CRng; omega
def iR1 (m : M) : MI := fun env h => (m env h).bind fun x h1 => match x with
  | .int j => if CRng j then .ok (.rng 0 j.toNat) h1 else .no
  | _ => .no
/-- one argument, alone -/
theorem args1 (he : DenA X B [e] (aCons me aNil)) : PA X [e] (fun σ H Q => tM X.K B me σ H fun v H1 => Q [v] H1) := PA.imp he fun σ H Q ⟨ρ, h, env, R, E, g⟩ => by
  refine ⟨ρ, h, env, R, E, ?_⟩
  unfold aCons aNil
  cases q : me env h with
  | ok d h' =>
    rw [q] at g
    exact fun ρ' vs H' a b c => by
      cases c with
      | cons r t => cases t; exact g ρ' _ H' a b r
  | er c d h' => rw [q] at g; exact g
  | no => rw [q] at g; exact g
theorem deni_rng1 (hg : Gl X "range") (hm : X.mg "range" = none) (he : DenA X B [e] (aCons me aNil)) (hs : starEach [e] X.env = [(false, eval e X.env)] := by rfl) : DenI X B tg (.Call (.Name "range" p) [e] [] pos) (iR1 me) :=
  PI.imp (pi_range1 hg hm (args1 he) hs) fun σ H Q ⟨ρ, h, env, R, E, g⟩ => (tR_bind ⟨R, E⟩ g).imp fun v H1 ⟨ρ1, h1, x, A1, e1, rx, g1⟩ => by
    split at g1
    · obtain ⟨hl, g2⟩ := good_if' g1
      cases rx; exact ⟨_, rfl, hl.lo, hl.hi, good_src g2 A1.R itg_rng⟩
    · exact g1.elim
def iR2 (m m2 : M) : MI := fun env h => (m env h).bind fun x h1 => (m2 env h1).bind fun y h2 => match x, y with
  | .int i, .int j => if CRng i ∧ CRng j then .ok (.rng i (j - i).toNat) h2 else .no
  | _, _ => .no
theorem args2 {B : WB} (he : DenA X B [e, e2] (aCons me (aCons me2 aNil))) : PA X [e, e2] (fun σ H Q => tMs X.K B (aCons me (aCons me2 aNil)) σ H fun vs H1 => Q vs H1) := PA.imp he fun σ H Q g => g
theorem deni_rng2 (hg : Gl X "range") (hm : X.mg "range" = none) (he : DenA X B [e, e2] (aCons me (aCons me2 aNil))) (hs : starEach [e, e2] X.env = [(false, eval e X.env), (false, eval e2 X.env)] := by rfl) (hs2 : starEach [e2] X.env = [(false, eval e2 X.env)] := by rfl) :
    DenI X B tg (.Call (.Name "range" p) [e, e2] [] pos) (iR2 me me2) :=
  PI.imp (pi_range2 hg hm he hs hs2) fun σ H Q ⟨ρ, h, env, R, E, g⟩ => by
    have g' : Good X.K B (rSrc X.K) σ ρ H Q ((aCons me (aCons me2 aNil) env h).bind fun xs h2 => match xs with
      | [.int i, .int j] => if CRng i ∧ CRng j then .ok (.rng i (j - i).toNat) h2 else .no
      | _ => .no) := by
      cases q1 : me env h with
      | ok x h1 =>
        cases q2 : me2 env h1 with
        | ok y h2 =>
          simp only [iR2, aCons, aNil, q1, q2, MP.R.bind_ok] at g ⊢
          cases x <;> cases y <;> exact g
        | er c d h' => simp only [iR2, aCons, aNil, q1, q2, MP.R.bind_ok, MP.R.bind_er] at g ⊢; exact g
        | no => simp only [iR2, aCons, aNil, q1, q2, MP.R.bind_ok, MP.R.bind_no] at g ⊢; exact g
      | er c d h' => simp only [iR2, aCons, aNil, q1, MP.R.bind_er] at g ⊢; exact g
      | no => simp only [iR2, aCons, aNil, q1, MP.R.bind_no] at g ⊢; exact g
    exact (tR_bind ⟨R, E⟩ g').imp fun vs H1 ⟨ρ1, h1, xs, A1, e1, rx, g1⟩ => by
      split at g1
      · obtain ⟨hl, g2⟩ := good_if' g1
        cases rx with
        | cons r t =>
          cases t with
          | cons r' t' =>
            cases t'; cases r; cases r'
            exact ⟨_, _, rfl, ⟨hl.1.lo, hl.1.hi, hl.2.lo, hl.2.hi⟩, good_src g2 A1.R itg_rng⟩
      · exact g1.elim
def iEn (m : M) : MI := fun env h => (m env h).bind fun x h1 => match lstOf h1 x with
  | some _ => .ok (.enm x) h1
  | none => .no
theorem deni_enum {elts : List Expr} {kk : Nat} (hg : Gl X "enumerate") (hm : X.mg "enumerate" = none) (he : DenA X B [e] (aCons me aNil)) (hs : starEach [e] X.env = [(false, eval e X.env)] := by rfl) :
    DenI X B (.Tuple elts kk tpos) (.Call (.Name "enumerate" p) [e] [] pos) (iEn me) :=
  PI.imp (pi_enum hg hm (args1 he) hs) fun σ H Q ⟨ρ, h, env, R, E, g⟩ => (tR_bind ⟨R, E⟩ g).imp fun v H1 ⟨ρ1, h1, x, A1, e1, rx, g1⟩ => by
    split at g1
    · rename_i ds q
      obtain ⟨a, vs, rfl, s, rs⟩ := lstOf_ok A1.R rx q
      exact ⟨a, vs, rfl, s, good_src g1 A1.R (itg_enm rx)⟩
    · exact g1.elim
def iZp (m : MA) : MI := fun env h => (m env h).bind fun xs h1 => match xs with
  | [x, y] => (match lstOf h1 x, lstOf h1 y with
    | some _, some _ => .ok (.zip x y) h1
    | _, _ => .no)
  | _ => .no
theorem deni_zip {elts : List Expr} {kk : Nat} (hg : Gl X "zip") (hm : X.mg "zip" = none) (he : DenA X B [e, e2] ms) (hs : starEach [e, e2] X.env = (false, eval e X.env) :: starEach [e2] X.env := by rfl) (hpl : (backTo pos (starEach [e2] X.env)).any (·.1) = false := by rfl) :
    DenI X B (.Tuple elts kk tpos) (.Call (.Name "zip" p) [e, e2] [] pos) (iZp ms) :=
  PI.imp (pi_zip hg hm he hs hpl) fun σ H Q ⟨ρ, h, env, R, E, g⟩ => (tR_bind ⟨R, E⟩ g).imp fun v H1 ⟨ρ1, h1, x, A1, e1, rx, g1⟩ => by
    split at g1
    · split at g1
      · rename_i q1 q2
        cases rx with
        | cons r t =>
          cases t with
          | cons r' t' =>
            cases t'
            obtain ⟨a, vs, rfl, s, rs⟩ := lstOf_ok A1.R r q1
            obtain ⟨b, ws, rfl, s', rs'⟩ := lstOf_ok A1.R r' q2
            exact ⟨a, b, vs, ws, rfl, s, s', good_src g1 A1.R (itg_zip r r')⟩
      · exact g1.elim
    · exact g1.elim
end

/-! ### comprehensions -/
section
variable {K : PySem.W.Frag} {ρ ρ' : List Addr} {H H' : Hp} {h : MH}
theorem xo_lst {e : Addr} {fs : List (Str × V)} {xs : List V} {o : HO} (x : XO e fs o) : o ≠ .lst xs := fun z => by
  cases x with
  | ex =>
    have z' : HO.ext _ = HO.lst xs := z
    cases z'
  | xd => cases z
theorem xo_dK {e : Addr} {fs : List (Str × V)} {xs : List (Key × V)} {o : HO} (x : XO e fs o) : o ≠ .dK xs := fun z => by
  cases x with
  | ex =>
    have z' : HO.ext _ = HO.dK xs := z
    cases z'
  | xd => cases z
/-- an object that was made on the way, not yet a location, is one now -/
theorem kp_adopt {p : Addr} {o : HO} (ht : ∀ xs, H p ≠ some (.tup xs)) (hf : (∀ ob xs, H p ≠ some (.frz ob (.lst xs))) ∧ ∀ x fs o, XO x fs o → H p ≠ some o) : Kp K ρ H (ρ ++ [p]) (upd H p o) where
  pre := fun n a e => by
    have := (List.getElem?_eq_some_iff.mp e).1
    rw [List.getElem?_append_left this]; exact e
  tup := fun a xs e => by rw [upd_ne (fun z => ht xs (by rw [← z]; exact e))]; exact e
  frz := fun a ob xs e => by rw [upd_ne (fun z => hf.1 ob xs (by rw [← z]; exact e))]; exact e
  xd := fun d y fs o' e xo hd => by
    refine ⟨fun ha => ?_, by rw [upd_ne (fun z => hf.2 y fs _ xo (by rw [← z]; exact e))]; exact e⟩
    rcases List.mem_append.mp ha with ha | ha
    · exact hd ha
    · exact hf.2 y fs _ xo (by rw [← List.mem_singleton.mp ha]; exact e)
theorem HR.adopt {p : Addr} {o : HO} {mo : MO} (R : HR K ρ h H) (hp : p ∉ ρ) (ht : ∀ xs, H p ≠ some (.tup xs)) (hf : (∀ ob xs, H p ≠ some (.frz ob (.lst xs))) ∧ ∀ x fs o, XO x fs o → H p ≠ some o) (r : OR K (ρ ++ [p]) (upd H p o) p mo) :
    HR K (ρ ++ [p]) (h ++ [mo]) (upd H p o) where
  len := by simp [R.len]
  nd := by
    refine List.nodup_append.mpr ⟨R.nd, by simp, fun a ha b hb => ?_⟩
    have hb' : b = p := by simpa using hb
    subst hb'
    exact fun z => hp (by rw [← z]; exact ha)
  ob := fun n a mo' e e' => by
    by_cases hn : n < ρ.length
    · rw [List.getElem?_append_left hn] at e
      rw [List.getElem?_append_left (by rw [← R.len]; exact hn)] at e'
      exact (R.ob n a mo' e e').kp (kp_adopt ht hf) (upd_ne fun z => hp (by rw [← z]; exact List.mem_of_getElem? e))
    · have hz : n = ρ.length := by
        have := (List.getElem?_eq_some_iff.mp e).1
        simp at this; omega
      subst hz
      rw [List.getElem?_append_right (Nat.le_refl _)] at e
      rw [R.len, List.getElem?_append_right (Nat.le_refl _)] at e'
      simp at e e'
      subst e e'
      exact r
/-- a thing beside the locations changes -/
theorem HR.beside {p : Addr} {o : HO} (R : HR K ρ h H) (hp : p ∉ ρ) (ht : ∀ xs, H p ≠ some (.tup xs)) (hf : (∀ ob xs, H p ≠ some (.frz ob (.lst xs))) ∧ ∀ x fs o, XO x fs o → H p ≠ some o) : HR K ρ h (upd H p o) where
  len := R.len
  nd := R.nd
  ob := fun n a mo e e' => (R.ob n a mo e e').kp ⟨fun _ _ q => q, (kp_adopt (K := K) (ρ := ρ) (o := o) ht hf).tup, (kp_adopt (K := K) (ρ := ρ) (o := o) ht hf).frz, fun d x fs o' e xo hd => ⟨hd, ((kp_adopt (K := K) (ρ := ρ) (o := o) ht hf).xd d x fs o' e xo hd).2⟩⟩ (upd_ne fun z => hp (by rw [← z]; exact List.mem_of_getElem? e))
theorem Ext.beside {ρ0 : List Addr} {H0 : Hp} {p : Addr} {o : HO} (x : Ext ρ0 H0 ρ H) (hp : H0 p = none) : Ext ρ0 H0 ρ (upd H p o) where
  pre := x.pre
  keep := fun a u e ha => by rw [upd_ne (ne_of_none e hp)]; exact x.keep a u e ha
  th := fun a u e => by rw [upd_ne (ne_of_none e hp)]; exact x.th a u e
theorem Ext.adopt {ρ0 : List Addr} {H0 : Hp} {p : Addr} {o : HO} (x : Ext ρ0 H0 ρ H) (hp : H0 p = none) : Ext ρ0 H0 (ρ ++ [p]) (upd H p o) where
  pre := by
    obtain ⟨m, rfl, hm⟩ := x.pre
    refine ⟨m ++ [p], by simp, fun a ha => ?_⟩
    rcases List.mem_append.mp ha with ha | ha
    · exact hm a ha
    · have : a = p := by simpa using ha
      subst this; exact hp
  keep := fun a u e ha => by rw [upd_ne (ne_of_none e hp)]; exact x.keep a u e ha
  th := fun a u e => by rw [upd_ne (ne_of_none e hp)]; exact x.th a u e
theorem Ext.notin {ρ0 : List Addr} {H0 : Hp} {p : Addr} {u : HO} (x : Ext ρ0 H0 ρ H) (e : H0 p = some u) (hp : p ∉ ρ0) : p ∉ ρ := fun ha => by
  obtain ⟨m, rfl, hm⟩ := x.pre
  rcases List.mem_append.mp ha with ha | ha
  · exact hp ha
  · rw [hm p ha] at e; cases e
end
def wipeE (env : Env) : List Nat → Env
  | [] => env
  | v :: vs => (wipeE env vs).set v none
theorem ER.wipe {K : PySem.W.Frag} {ρ : List Addr} {H : Hp} {env : Env} {σ : St} (r : ER K ρ H env σ) : ∀ vs : List Nat, ER K ρ H (wipeE env vs) (wipe σ vs)
  | [] => r
  | v :: vs => (ER.wipe r vs).unset v
/-- the loop of a comprehension: fuel, the turn's number, what is made so far -/
def loopC (src : Src) (tg : Tg) (cond : MB) (elt : M) (e0 : Env) : Nat → Nat → List D → MH → R (List D)
  | 0, _, _, _ => .no
  | f + 1, i, acc, h => match src.get h i with
    | none => .no
    | some none => .ok acc h
    | some (some d) => match tg.put d e0 with
      | none => .no
      | some e1 => (cond e1 h).bind fun b h2 => if b = true then (elt e1 h2).bind fun y h3 => if acc.length < sizeLine then loopC src tg cond elt e0 f (i + 1) (acc ++ [y]) h3 else .no
        else loopC src tg cond elt e0 f (i + 1) acc h2
def mLc (it : MI) (tg : Tg) (cond : MB) (elt : M) (vs : List Nat) : M := fun env h => (it env h).bind fun src h1 => (loopC src tg cond elt (wipeE env vs) (src.fuel h1) 0 [] h1).bind fun acc h2 => newL acc h2
def bYes : MB := fun _ h => .ok true h
section
variable {K : PySem.W.Frag} {B : WB}
theorem Good.bindOk {α β γ : Type} {rel : Rel α β} {σ : St} {ρ : List Addr} {H : Hp} {Q : β → Hp → Prop} {r : R γ} {k : γ → MH → R α} {a : γ} {h : MH} (g : Good K B rel σ ρ H Q (r.bind k)) (e : r = .ok a h) : Good K B rel σ ρ H Q (k a h) := by
  rw [e] at g; exact g
/-- the turn's invariant -/
structure WC (K : PySem.W.Frag) (B : WB) (σ : St) (ρ1 : List Addr) (H1 : Hp) (p : Addr) (src : Src) (tg : Tg) (cond : MB) (elt : M) (e0 : Env) (Q : VK) (i m : Nat) (H : Hp) : Prop where
  ex : ∃ ρ h acc vacc, HR K ρ h H ∧ Ext ρ1 H1 ρ H ∧ p ∉ ρ ∧ H p = some (.lst vacc) ∧ RVs K ρ H acc vacc ∧
    Good K B (rD K) σ ρ1 H1 Q ((loopC src tg cond elt e0 m i acc h).bind fun acc h2 => newL acc h2)
end
section
variable {X : Cx} {B : WB} {K : PySem.W.Frag}
theorem lc_imp {it : MI} {tg : Tg} {cond : MB} {elt : M} {vs : List Nat} (hs : ∀ i ∈ tg.slots, i ∈ vs) (nb : ∀ c d σ H, ¬ B c d σ H) :
    ∀ σ H Q, tM K B (mLc it tg cond elt vs) σ H Q → tLc (tR K B (rSrc K) it) (tg.g K) (tMB K B cond) (tM K B elt) vs σ H Q := fun σ H Q ⟨ρ, h, env, R, E, g⟩ =>
  (tR_bind ⟨R, E⟩ g).imp fun J H1 ⟨ρ1, h1, src, A1, e1, I, g1⟩ => by
    intro p hp
    have hnt : ∀ xs, (some (.lst xs) : Option HO) ≠ none := by simp
    refine ⟨fun i m H => WC K B σ ρ1 H1 p src tg cond elt (wipeE env vs) Q i m H, ⟨src.fuel h1, ⟨ρ1, h1, [], [], A1.R.new hp, Ext.new hp, ?_, upd_same, .nil, g1⟩⟩, ?_⟩
    · intro ha
      obtain ⟨o, q⟩ := A1.R.has ha
      rw [hp] at q; cases q
    · rintro i m H2 ⟨ρ2, h2, acc, vacc, R2, x2, hn, hv, rv, g2⟩
      have k2 : Kp K ρ1 H1 ρ2 H2 := A1.R.kp x2
      have E2 : ER K ρ2 H2 (wipeE env vs) (wipe σ vs) := (A1.E.ext A1.R x2).wipe vs
      have t1 : ∀ {H3 : Hp} {va : List V}, H3 p = some (.lst va) → ∀ xs, H3 p ≠ some (.tup xs) := fun e xs z => by rw [e] at z; cases z
      have t2 : ∀ {H3 : Hp} {va : List V}, H3 p = some (.lst va) → (∀ ob xs, H3 p ≠ some (.frz ob (.lst xs))) ∧ ∀ x fs o, XO x fs o → H3 p ≠ some o := fun e => ⟨fun ob xs z => (by rw [e] at z; cases z), fun x fs o xo z => by rw [e] at z; exact xo_lst xo (Option.some.inj z).symm⟩
      cases m with
      | zero => exact g2.elim
      | succ m =>
        unfold loopC at g2
        cases q : src.get h2 i with
        | none => rw [q] at g2; exact g2.elim
        | some od =>
          cases od with
          | none =>
            rw [q] at g2
            refine .inl ⟨I.stop _ _ _ _ R2 k2 q, ?_⟩
            have e' : upd H2 p (.lst vacc) = H2 := by
              funext b
              by_cases hb : b = p
              · rw [hb, upd_same, hv]
              · rw [upd_ne hb]
            have k3 := kp_adopt (K := K) (ρ := ρ2) (p := p) (o := .lst vacc) (t1 hv) (t2 hv)
            have R3 : HR K (ρ2 ++ [p]) (h2 ++ [.lst acc]) H2 := by
              have := R2.adopt (o := .lst vacc) (mo := .lst acc) hn (t1 hv) (t2 hv) ⟨vacc, upd_same, rv.kp k3⟩
              rw [e'] at this; exact this
            have x3 : Ext ρ1 H1 (ρ2 ++ [p]) H2 := by
              have := Ext.adopt (o := .lst vacc) x2 hp
              rw [e'] at this; exact this
            exact Good.ok g2 R3 x3 (rv_newL R2)
          | some d =>
            rw [q] at g2
            obtain ⟨go, yld⟩ := I.go _ _ _ _ _ R2 k2 q
            refine .inr ⟨go, fun H' => ∃ m', m' < m + 1 ∧ WC K B σ ρ1 H1 p src tg cond elt (wipeE env vs) Q (i + 1) m' H', fun H' z => z, ?_⟩
            intro x H3 hy
            obtain ⟨R3, x3, rx⟩ := yld x H3 hy
            have hv3 : H3 p = some (.lst vacc) := x3.keep p _ hv hn
            have E3 := E2.ext R2 x3
            have rv3 := rv.ext R2 x3
            have x13 : Ext ρ1 H1 ρ2 H3 := x2.trans x3
            dsimp only at g2
            cases qp : tg.put d (wipeE env vs) with
            | none => rw [qp] at g2; exact g2.elim
            | some env1 =>
              rw [qp] at g2
              dsimp only at g2
              refine Tg.put_ok E3 rx qp fun σ' E4 hl hk => ⟨?_, ?_⟩
              · rw [wipe_of (hl.trans rfl) (fun j hj => hk j fun z => hj (hs j z)), wipe_wipe]
              · -- the test
                -- from here on results are asked from (ρ1, H1)
                have g4 : Good K B (rD K) σ ρ1 H1 Q ((cond env1 h2).bind fun b h4 => (if b = true then (elt env1 h4).bind fun y h5 => if acc.length < sizeLine then loopC src tg cond elt (wipeE env vs) m (i + 1) (acc ++ [y]) h5 else .no
                    else loopC src tg cond elt (wipeE env vs) m (i + 1) acc h4).bind fun acc h2 => newL acc h2) := by
                  rw [MP.R.bind_assoc] at g2; exact g2
                refine ⟨ρ2, h2, env1, R3, E4, ?_⟩
                cases qc : cond env1 h2 with
                | no => rw [qc] at g4; exact g4
                | er c d e => rw [qc] at g4; exact fun ρ' y dx H' a b c e => absurd (g4 ρ' y dx H' a (x13.trans b) c e) (nb _ _ _ _)
                | ok b h4 =>
                  rw [qc] at g4
                  rintro ρ4 b' H4 R4 x4 rfl
                  have hn3 : p ∉ ρ4 := x4.notin hv3 hn
                  have hv4 : H4 p = some (.lst vacc) := x4.keep p _ hv3 hn
                  have x14 := x13.trans x4
                  have rv4 := rv3.ext R3 x4
                  cases b with
                  | false =>
                    refine iteF ?_
                    exact ⟨m, Nat.lt_succ_self m, ⟨ρ4, h4, acc, vacc, R4, x14, hn3, hv4, rv4, g4⟩⟩
                  | true =>
                    refine iteT ?_
                    refine ⟨ρ4, h4, env1, R4, E4.ext R3 x4, ?_⟩
                    have g5 : Good K B (rD K) σ ρ1 H1 Q (((elt env1 h4).bind fun y h5 => if acc.length < sizeLine then loopC src tg cond elt (wipeE env vs) m (i + 1) (acc ++ [y]) h5 else .no).bind fun acc h2 => newL acc h2) := g4
                    rw [MP.R.bind_assoc] at g5
                    cases qe : elt env1 h4 with
                    | no => rw [qe] at g5; exact g5
                    | er c d e => rw [qe] at g5; exact fun ρ' y dx H' a b c e => absurd (g5 ρ' y dx H' a (x14.trans b) c e) (nb _ _ _ _)
                    | ok y h5 =>
                      rw [qe] at g5
                      intro ρ5 v5 H5 R5 x5 r5
                      have hn5 : p ∉ ρ5 := x5.notin hv4 hn3
                      have hv5 : H5 p = some (.lst vacc) := x5.keep p _ hv4 hn3
                      have rv5 := rv4.ext R4 x5
                      have g6 : Good K B (rD K) σ ρ1 H1 Q ((if acc.length < sizeLine then loopC src tg cond elt (wipeE env vs) m (i + 1) (acc ++ [y]) h5 else .no).bind fun acc h2 => newL acc h2) := g5
                      by_cases hz : acc.length < sizeLine
                      · rw [if_pos hz] at g6
                        have kb : Kp K ρ5 H5 ρ5 (upd H5 p (.lst (vacc ++ [v5]))) := ⟨fun _ _ q => q, (kp_adopt (K := K) (ρ := ρ5) (t1 hv5) (t2 hv5)).tup, (kp_adopt (K := K) (ρ := ρ5) (t1 hv5) (t2 hv5)).frz, fun d x fs o' e xo hd => ⟨hd, ((kp_adopt (K := K) (ρ := ρ5) (t1 hv5) (t2 hv5)).xd d x fs o' e xo hd).2⟩⟩
                        refine ⟨vacc, hv5, by rw [← rv.length]; exact hz, m, Nat.lt_succ_self m, ⟨ρ5, h5, acc ++ [y], vacc ++ [v5], R5.beside hn5 (t1 hv5) (t2 hv5), (x14.trans x5).beside hp, hn5, upd_same, (rv5.append (.cons r5 .nil)).kp kb, g6⟩⟩
                      · rw [if_neg hz] at g6; exact g6.elim
end

section
variable {X : Cx} {B : WB} {elt iter tge : Expr} {ifs : List Expr} {scope : Scope} {own : List (Str × Nat)} {pos spos : Pos} {it : MI} {tg : Tg} {cond : MB} {me : M}
abbrev DenTs (X : Cx) (B : WB) (es : List Expr) (m : MB) := PTs X es (tMB X.K B m)
theorem PTs.imp {X : Cx} {e : List Expr} {t t' : TT} (p : PTs X e t) (f : ∀ σ H Q, t' σ H Q → t σ H Q) : PTs X e t' := ⟨fun pins s σ H Q I g => p.run pins s σ H Q I (f σ H Q g)⟩
theorem dents_nil : DenTs X B [] bYes := PTs.imp pts_nil fun σ H Q ⟨ρ, h, env, R, E, g⟩ => g.ok0 R rfl
theorem dents_one {c : Expr} {m : MB} (h : DenT X B c m) : DenTs X B [c] m := pts_one h
theorem den_lc (nb : ∀ c d σ H, ¬ B c d σ H) (hs : ∀ i ∈ tg.slots, i ∈ own.map (·.2)) (hc : X.calm = true) (hN : X.N.Nodup) (hi : DenI X B tge iter it) (ok : BlkOk X.N X.env.scope scope own)
    (hg : ∀ (s : Shared) (H : Hp) (C : Addr) (cl : List (Str × Addr)) (fp : List Addr), DenG (X.blk s H scope (compEnvC scope cl C X.env) fp) tge tg) (ht : ∀ (s : Shared) (H : Hp) (C : Addr) (cl : List (Str × Addr)) (fp : List Addr), DenTs (X.blk s H scope (compEnvC scope cl C X.env) fp) B ifs cond)
    (he : ∀ (s : Shared) (H : Hp) (C : Addr) (cl : List (Str × Addr)) (fp : List Addr), Den (X.blk s H scope (compEnvC scope cl C X.env) fp) B elt me) (hf : ∀ x, foldedSetIterable iter X.env x = pure x := by intro _; rfl) :
    Den X B (.ListComp elt [⟨tge, iter, ifs, 0⟩] scope pos) (mLc it tg cond me (own.map (·.2))) :=
  PE.imp (pe_lc hc hN hi ok hg ht he hf) (lc_imp hs nb)
end

/-! ### statements -/
abbrev DenS (X : Cx) (B : WB) (st : Stmt) (s : S) := PS X st (tS X.K B s)
abbrev DenSs (X : Cx) (B : WB) (st : List Stmt) (s : S) := PSs X st (tS X.K B s)
def sNop : S := fun env h => .nx env h
def sSeq (s t : S) : S := fun env h => match s env h with
  | .nx e h => t e h
  | r => r
def sSet (i : Nat) (m : M) : S := fun env h => (m env h).st env fun d h1 => .nx (env.set i (some d)) h1
def sTg (t : Tg) (m : M) : S := fun env h => (m env h).st env fun d h1 => match t.put d env with
  | some e => .nx e h1
  | none => .no
def sDrop (m : M) : S := fun env h => (m env h).st env fun _ h1 => .nx env h1
def sRet (m : M) : S := fun env h => (m env h).st env fun d h1 => .rt d h1
def sRetN : S := fun _ h => .rt .non h
def sIf (c : MB) (a b : S) : S := fun env h => (c env h).st env fun x h1 => if x = true then a env h1 else b env h1
def sBrk : S := fun env h => .bk env h
def sCont : S := fun env h => .ct env h
def sNo : S := fun _ _ => .no
def loopF (src : Src) (tg : Tg) (body : S) : Nat → Nat → Env → MH → RS
  | 0, _, _, _ => .no
  | f + 1, i, env, h => match src.get h i with
    | none => .no
    | some none => .nx env h
    | some (some d) => match tg.put d env with
      | none => .no
      | some e1 => match body e1 h with
        | .nx e h2 => loopF src tg body f (i + 1) e h2
        | .ct e h2 => loopF src tg body f (i + 1) e h2
        | .bk e h2 => .nx e h2
        | r => r
def sFor (it : MI) (tg : Tg) (body : S) : S := fun env h => (it env h).st env fun src h1 => loopF src tg body (src.fuel h1) 0 env h1
def loopW (c : MB) (body : S) : Nat → Env → MH → RS
  | 0, _, _ => .no
  | f + 1, env, h => (c env h).st env fun x h1 => if x = true then (match body env h1 with
        | .nx e h2 => loopW c body f e h2
        | .ct e h2 => loopW c body f e h2
        | .bk e h2 => .nx e h2
        | r => r) else .nx env h1
/-- a while with a bound on its turns -/
def sWhile (n : Env → MH → Nat) (c : MB) (body : S) : S := fun env h => loopW c body (n env h) env h
section
variable {X : Cx} {B : WB} {a b c e : Expr} {st : Stmt} {rest p q : List Stmt} {m me : M} {tc : MB} {s t : S} {pos pos' : Pos}
theorem denss_nil : DenSs X B [] sNop := PSs.imp pss_nil fun D σ H ⟨ρ, h, env, R, E, g⟩ => g ρ σ H R Ext.refl E
theorem denss_cons (h1 : DenS X B st s) (h2 : DenSs X B rest t) : DenSs X B (st :: rest) (sSeq s t) :=
  PSs.imp (pss_cons h1 h2) fun D σ H ⟨ρ, h, env, R, E, g⟩ => by
    refine ⟨ρ, h, env, R, E, ?_⟩
    unfold sSeq at g
    cases q : s env h with
    | nx e h' => rw [q] at g; exact fun ρ' σ' H' a b c => ⟨ρ', h', e, a, c, GoodS.mv (show GoodS X.K B D σ ρ H (t e h') from g) b⟩
    | rt d h' => rw [q] at g; exact g
    | bk e h' => rw [q] at g; exact g
    | ct e h' => rw [q] at g; exact g
    | er c d e h' => rw [q] at g; exact g
    | no => rw [q] at g; exact g
theorem denss_one (h1 : DenS X B st s) : DenSs X B [st] s := pss_one h1
theorem dens_set {i : Nat} {x : Str} (hN : X.N.Nodup) (hi : X.N[i]? = some x) (hx : Loc X.env.scope x) (he : Den X B e me) (hs : swapsWith e (some (.Name x pos')) pos.line X.env = pure false := by rfl) (hf : X.fn x = true ∨ X.env.scope.names.lookup x = some .local := by first | exact .inl rfl | exact .inr rfl | assumption) :
    DenS X B (.Assign [.Name x pos'] e pos) (sSet i me) :=
  PS.imp (ps_set hN hi hx he hs hf) fun D σ H ⟨ρ, h, env, R, E, g⟩ => (tR_st ⟨R, E⟩ g).imp fun v H1 ⟨ρ1, h1, x, A1, e1, rx, g1⟩ => g1 ρ1 _ H1 A1.R Ext.refl (A1.E.set _ rx)
/-- a store whose target's reading is known -/
theorem dens_setLc {i : Nat} {y : Str} {py : Pos} {elt iter tge : Expr} {ifs : List Expr} {scope : Scope} {own : List (Str × Nat)} {spos : Pos} {it : MI} {tg : Tg} {cond : MB} {me : M}
    (nb : ∀ c d σ H, ¬ B c d σ H) (hs : ∀ i ∈ tg.slots, i ∈ own.map (·.2)) (hc : X.calm = true) (hN : X.N.Nodup) (hy : X.N[i]? = some y) (hyl : X.env.scope.names.lookup y = some .local)
    (hsw : swapsWith (.ListComp elt [⟨tge, iter, ifs, 0⟩] scope pos) (some (.Name y py)) spos.line X.env = pure true) (hi : DenI X B tge iter it) (ok : BlkOk X.N X.env.scope scope own)
    (hg : ∀ (s : Shared) (H : Hp) (C : Addr) (cl : List (Str × Addr)) (fp : List Addr), DenG (X.blk s H scope (compEnvC scope cl C X.env) fp) tge tg) (ht : ∀ (s : Shared) (H : Hp) (C : Addr) (cl : List (Str × Addr)) (fp : List Addr), DenTs (X.blk s H scope (compEnvC scope cl C X.env) fp) B ifs cond)
    (he : ∀ (s : Shared) (H : Hp) (C : Addr) (cl : List (Str × Addr)) (fp : List Addr), Den (X.blk s H scope (compEnvC scope cl C X.env) fp) B elt me) (hf : ∀ x, foldedSetIterable iter X.env x = pure x := by intro _; rfl) :
    DenS X B (.Assign [.Name y py] (.ListComp elt [⟨tge, iter, ifs, 0⟩] scope pos) spos) (sSet i (mLc it tg cond me (own.map (·.2)))) :=
  PS.imp (ps_setLc hc hN hy hyl hsw hi ok hg ht he hf) fun D σ H ⟨ρ, h, env, R, E, g⟩ => by
    have t := (tR_st (rel := rD X.K) (m := mLc it tg cond me (own.map (·.2))) ⟨R, E⟩ g)
    exact lc_imp hs nb σ H _ (t.imp fun v H1 ⟨ρ1, h1, x, A1, e1, rx, g1⟩ => g1 ρ1 _ H1 A1.R Ext.refl (A1.E.set _ rx))
theorem dens_tg {tg : Expr} {t : Tg} (he : Den X B e me) (hg : DenG X tg t) (hs : swapsWithSole [tg] e pos.line X.env = pure false := by rfl) (hw : swappedStores [tg] e X.env = pure none := by rfl) (h1 : (assignEach [tg] X.env).map (·.2) = [assign tg X.env] := by rfl) : DenS X B (.Assign [tg] e pos) (sTg t me) :=
  PS.imp (ps_asg he hg hs hw h1) fun D σ H ⟨ρ, h, env, R, E, g⟩ => (tR_st ⟨R, E⟩ g).imp fun v H1 ⟨ρ1, h1, x, A1, e1, rx, g1⟩ => by
    split at g1
    · rename_i e' q
      exact Tg.put_ok A1.E rx q fun σ' E' _ _ => g1 ρ1 _ H1 A1.R Ext.refl E'
    · exact g1.elim
theorem dens_drop (he : Den X B e me) (hs : swapsWith e none pos.line X.env = pure false := by rfl) : DenS X B (.Expr e pos) (sDrop me) :=
  PS.imp (ps_expr he hs) fun D σ H ⟨ρ, h, env, R, E, g⟩ => (tR_st ⟨R, E⟩ g).imp fun v H1 ⟨ρ1, h1, x, A1, e1, rx, g1⟩ => g1 ρ1 _ H1 A1.R Ext.refl A1.E
theorem dens_ret (he : Den X B e me) : DenS X B (.Return (some e) pos) (sRet me) :=
  PS.imp (ps_ret he) fun D σ H ⟨ρ, h, env, R, E, g⟩ => (tR_st ⟨R, E⟩ g).imp fun v H1 ⟨ρ1, h1, x, A1, e1, rx, g1⟩ => g1 ρ1 _ H1 A1.R Ext.refl rx
theorem dens_retN : DenS X B (.Return none pos) sRetN := PS.imp ps_retN fun D σ H ⟨ρ, h, env, R, E, g⟩ => g ρ _ H R Ext.refl .non
theorem dens_if (hc : DenT X B c tc) (ha : DenSs X B p s) (hb : DenSs X B q t) : DenS X B (.If c p q pos) (sIf tc s t) :=
  PS.imp (ps_if hc ha hb) fun D σ H ⟨ρ, h, env, R, E, g⟩ => (tR_st ⟨R, E⟩ g).imp fun v H1 ⟨ρ1, h1, x, A1, e1, rx, g1⟩ => by
    subst rx
    cases x with
    | true => exact iteT ⟨ρ1, h1, env, A1.R, A1.E, g1⟩
    | false => exact iteF ⟨ρ1, h1, env, A1.R, A1.E, g1⟩
theorem dens_never : DenS X B st sNo := PS.imp ps_never fun D σ H ⟨ρ, h, env, R, E, g⟩ => g
theorem dens_pass : DenS X B (.Pass pos) sNop := PS.imp ps_pass fun D σ H ⟨ρ, h, env, R, E, g⟩ => g ρ σ H R Ext.refl E
theorem dens_brk : DenS X B (.Break pos) sBrk := PS.imp ps_break fun D σ H ⟨ρ, h, env, R, E, g⟩ => g ρ σ H R Ext.refl E
theorem dens_cont : DenS X B (.Continue pos) sCont := PS.imp ps_continue fun D σ H ⟨ρ, h, env, R, E, g⟩ => g ρ σ H R Ext.refl E
theorem GoodS.er_nx {K : PySem.W.Frag} {D D' : Ends} {σ : St} {ρ : List Addr} {H : Hp} {r : RS} (g : GoodS K B D σ ρ H r) (h1 : ∀ σ H, D.nx σ H → D'.nx σ H) (h2 : ∀ v H, D.rt v H → D'.rt v H) (h3 : ∀ σ H, D.bk σ H → D'.bk σ H) (h4 : ∀ σ H, D.ct σ H → D'.ct σ H) : GoodS K B D' σ ρ H r := by
  cases r with
  | nx e h' => exact fun ρ' σ' H' a b c => h1 _ _ (g ρ' σ' H' a b c)
  | rt d h' => exact fun ρ' σ' H' a b c => h2 _ _ (g ρ' σ' H' a b c)
  | bk e h' => exact fun ρ' σ' H' a b c => h3 _ _ (g ρ' σ' H' a b c)
  | ct e h' => exact fun ρ' σ' H' a b c => h4 _ _ (g ρ' σ' H' a b c)
  | er c d e h' => exact g
  | no => exact g
theorem dens_for {tg iter : Expr} {body : List Stmt} {it : MI} {tt : Tg} {s : S} (hp : PassesOwn (model X.prog X.w) X.A X.env X.xe) (hc : X.calm = true) (hi : DenI X B tg iter it) (hg : DenG X tg tt) (hb : DenSs X B body s)
    (hs : ∀ x, foldedSetIterable iter X.env x = pure x := by intro _; rfl) : DenS X B (.For tg iter body [] pos) (sFor it tt s) :=
  PS.imp (ps_for hp hc hi hg hb hs) fun D σ H ⟨ρ, h, env, R, E, g⟩ => (tR_st ⟨R, E⟩ g).imp fun J H1 ⟨ρ1, h1, src, A1, e1, I, g1⟩ => by
    refine ⟨fun i m σ H => ∃ ρ2 h2 env2, HR X.K ρ2 h2 H ∧ Ext ρ1 H1 ρ2 H ∧ ER X.K ρ2 H env2 σ ∧ GoodS X.K B D σ ρ2 H (loopF src tt s m i env2 h2), ⟨src.fuel h1, ρ1, h1, env, A1.R, Ext.refl, A1.E, g1⟩, ?_⟩
    rintro i m σ2 H2 ⟨ρ2, h2, env2, R2, x2, E2, g2⟩
    have k2 : Kp X.K ρ1 H1 ρ2 H2 := A1.R.kp x2
    cases m with
    | zero => exact g2.elim
    | succ m =>
      unfold loopF at g2
      cases q : src.get h2 i with
      | none => rw [q] at g2; exact g2.elim
      | some od =>
        cases od with
        | none => rw [q] at g2; exact .inl ⟨I.stop _ _ _ _ R2 k2 q, g2 ρ2 σ2 H2 R2 Ext.refl E2⟩
        | some d =>
          rw [q] at g2
          obtain ⟨go, yld⟩ := I.go _ _ _ _ _ R2 k2 q
          refine .inr ⟨go, fun σ H => ∃ m', m' < m + 1 ∧ ∃ ρ2 h2 env2, HR X.K ρ2 h2 H ∧ Ext ρ1 H1 ρ2 H ∧ ER X.K ρ2 H env2 σ ∧ GoodS X.K B D σ ρ2 H (loopF src tt s m' (i + 1) env2 h2), fun σ' H' z => z, ?_⟩
          intro x H3 hy
          obtain ⟨R3, x3, rx⟩ := yld x H3 hy
          dsimp only at g2
          cases qp : tt.put d env2 with
          | none => rw [qp] at g2; exact g2.elim
          | some env3 =>
            rw [qp] at g2
            dsimp only at g2
            refine Tg.put_ok (E2.ext R2 x3) rx qp fun σ' E4 hl hk => ?_
            refine ⟨ρ2, h2, env3, R3, E4, ?_⟩
            cases qb : s env3 h2 with
            | nx e h' => rw [qb] at g2; exact fun ρ' σ'' H' a b c => ⟨m, Nat.lt_succ_self m, ρ', h', e, a, (x2.trans x3).trans b, c, GoodS.mv (show GoodS X.K B D σ2 ρ2 H2 (loopF src tt s m (i + 1) e h') from g2) (x3.trans b)⟩
            | ct e h' => rw [qb] at g2; exact fun ρ' σ'' H' a b c => ⟨m, Nat.lt_succ_self m, ρ', h', e, a, (x2.trans x3).trans b, c, GoodS.mv (show GoodS X.K B D σ2 ρ2 H2 (loopF src tt s m (i + 1) e h') from g2) (x3.trans b)⟩
            | bk e h' => rw [qb] at g2; exact fun ρ' σ'' H' a b c => g2 ρ' σ'' H' a (x3.trans b) c
            | rt d h' => rw [qb] at g2; exact fun ρ' v H' a b c => g2 ρ' v H' a (x3.trans b) c
            | er c d e h' => rw [qb] at g2; exact fun ρ' y dx σ'' H' a b c e => g2 ρ' y dx σ'' H' a (x3.trans b) c e
            | no => rw [qb] at g2; exact g2
theorem dens_while {c : Expr} {body : List Stmt} {tc : MB} {s : S} (n : Env → MH → Nat) (hp : PassesOwn (model X.prog X.w) X.A X.env X.xe) (hc : DenT X B c tc) (hb : DenSs X B body s) : DenS X B (.While c body [] pos) (sWhile n tc s) :=
  PS.imp (ps_while hp hc hb) fun D σ H ⟨ρ, h, env, R, E, g⟩ => by
    refine ⟨fun m σ H => ∃ ρ2 h2 env2, HR X.K ρ2 h2 H ∧ ER X.K ρ2 H env2 σ ∧ GoodS X.K B D σ ρ2 H (loopW tc s m env2 h2), ⟨n env h, ρ, h, env, R, E, g⟩, ?_⟩
    rintro m σ2 H2 ⟨ρ2, h2, env2, R2, E2, g2⟩
    cases m with
    | zero => exact g2.elim
    | succ m =>
      unfold loopW at g2
      exact (tR_st ⟨R2, E2⟩ g2).imp fun v H1 ⟨ρ1, h1, x, A1, e1, rx, g1⟩ => by
        subst rx
        cases x with
        | false => exact iteF (g1 ρ1 σ2 H1 A1.R Ext.refl A1.E)
        | true =>
          refine iteT ?_
          refine ⟨fun σ H => ∃ m', m' < m + 1 ∧ ∃ ρ2 h2 env2, HR X.K ρ2 h2 H ∧ ER X.K ρ2 H env2 σ ∧ GoodS X.K B D σ ρ2 H (loopW tc s m' env2 h2), fun σ' H' z => z, ρ1, h1, env2, A1.R, A1.E, ?_⟩
          rw [if_pos rfl] at g1
          cases qb : s env2 h1 with
          | nx e h' => rw [qb] at g1; exact fun ρ' σ'' H' a b c => ⟨m, Nat.lt_succ_self m, ρ', h', e, a, c, GoodS.mv (show GoodS X.K B D σ2 ρ1 H1 (loopW tc s m e h') from g1) b⟩
          | ct e h' => rw [qb] at g1; exact fun ρ' σ'' H' a b c => ⟨m, Nat.lt_succ_self m, ρ', h', e, a, c, GoodS.mv (show GoodS X.K B D σ2 ρ1 H1 (loopW tc s m e h') from g1) b⟩
          | bk e h' => rw [qb] at g1; exact fun ρ' σ'' H' a b c => g1 ρ' σ'' H' a b c
          | rt d h' => rw [qb] at g1; exact g1
          | er c d e h' => rw [qb] at g1; exact g1
          | no => rw [qb] at g1; exact g1
end
end MP
set_option Elab.async false
set_option linter.all false
set_option maxRecDepth 100000
set_option maxHeartbeats 2000000
/-! G0: promises of defs that are called where no repr is under way. -/
namespace MP
open PySem PySem.Spec L2
open PyProof.Rows (envOfC)
structure RoomG (k : Nat) (A : Around) : Prop where
  rm : Room k A
  gd : A.guards = some []
theorem RoomG.mono {j k : Nat} {A : Around} (r : RoomG k A) (h : j ≤ k) : RoomG j A := ⟨r.rm.mono h, r.gd⟩
theorem RoomG.deeper {k : Nat} {A : Around} (r : RoomG (k + 1) A) (env : PySem.Env) : RoomG k (A.deeper env) := ⟨r.rm.deeper env, r.gd⟩
theorem RoomG.units {k : Nat} {A : Around} (r : RoomG k A) : A.units + 64 < cLine := r.rm.units
structure FnG (P : Program) (w : World) (K : PySem.W.Frag) (mg : Str → Option Value) (base : Heap) (k : Nat) (f : Addr) (fd : FuncData) (ps : List Str) (sp : Sp) : Prop where
  len : ∀ vs H Q E, sp vs H Q E → vs.length = ps.length
  run : ∀ (A : Around) (outer : List PySem.Env) (s : Shared) (H : Hp) (args : Args) (us : List Value) (vs : List V) (Q : VK) (E : XK), RoomG k A → Env0 P w K mg base A outer s H → BindsTo s fd args (ps.zip us) → Vals vs us → sp vs H Q E →
    codeAny (model P w) A (.call (.ref f) args) (CR CX0 outer P w H s Q E) s
section
variable {P : Program} {w : World} {K : PySem.W.Frag} {mg : Str → Option Value} {base : Heap} {k : Nat} {f : Addr} {fd : FuncData} {ps : List Str} {sp : Sp}
theorem FnG.mono {j : Nat} (F : FnG P w K mg base j f fd ps sp) (h : j ≤ k) : FnG P w K mg base k f fd ps sp :=
  ⟨F.len, fun A outer s H args us vs Q E hr => F.run A outer s H args us vs Q E (hr.mono h)⟩
theorem fnG_of_ok (F : FnOk P w K mg base CX0 k f fd ps sp) : FnG P w K mg base k f fd ps sp := ⟨F.len, fun A outer s H args us vs Q E hr => F.run A outer s H args us vs Q E hr.rm⟩
/-- a def by its body -/
theorem fnG_of {x qual : Str} {params : Arguments} {body : List Stmt} {scope : Scope} {dvs : List V} {kws : List (Str × V)} {N : List Str} (F : FunD K x qual params body scope dvs kws f fd) (S : FnScope N ps scope)
    (len : ∀ vs H Q E, sp vs H Q E → vs.length = ps.length)
    (hbody : ∀ (cdv : Value) (A : Around) (outer : List PySem.Env) (s : Shared) (H : Hp) (vs : List V) (Q : VK) (E : XK), RoomG k (A.deeper (envOfC qual scope s.heap.objs.size f cdv)) → sp vs H Q E →
      ∃ t, PSs (cxOf CX0 P w K mg base N qual scope f cdv A outer s H E) body t ∧ t { nx := fun _ H' => Q .non H', rt := Q } (L2.start N vs) H) :
    FnG P w K mg base (k + 1) f fd ps sp := by
  obtain ⟨oc, od, dV, kV, doc, pm, an, cdv, ct, osl, rfl, lk, hcd, _, _⟩ := F.ex
  refine ⟨len, fun A outer s H args us vs Q E room env0 bd rel want => ?_⟩
  have nv := len _ _ _ _ want
  have inK : K.In s.heap := env0.mod.kin.keeps fun b o e => (env0.bs b o e).1
  have noLim : s.heap.NoLimit := env0.mod.nolimit.keeps fun b o e => (env0.bs b o e).1
  have kinds : ∀ y ∈ ps.zip us, scope.names.lookup y.1 = some .local ∨ (scope.names.lookup y.1 = some .cell ∧ ((cellsFrom (s.heap.objs.size + 1) scope.names []).lookup y.1).isSome = true) := by
    rintro ⟨n, v⟩ hy
    rcases S.par n (List.of_mem_zip hy).1 with z | z
    · exact .inl z
    · exact .inr ⟨z, PySem.W.cellsFrom_some _ _ _ (.inl z)⟩
  refine codeAny_call_function room.rm.depth (inK _ _ lk) rfl S.co S.gen rfl (PySem.W.codeRec_of inK hcd) (bd _ _ _ _ ?_)
  refine wpAny_newFunctionEnv_cells S.kind kinds fun env he s1 ic => ?_
  subst he
  refine ⟨noLim.keeps ic.toInCall.keep, codeAny_func ?_⟩
  obtain ⟨t, ht, hq⟩ := hbody cdv A outer s H vs Q E (room.deeper _) want
  have J : Inv (cxOf CX0 P w K mg base N qual scope f cdv A outer s H E) [] (L2.start N vs) H s1 := inv_start S room.rm.hd env0 nv rel ic
  refine wpAny_mono (ht.run [] s1 (L2.start N vs) H _ J hq) (fun fl s' z => ?_) fun e s' z => z
  cases fl with
  | ret u =>
    obtain ⟨v, σ', H', J', rv, q⟩ := z
    exact ⟨v, H', J'.os, J'.bare, J'.base, J'.hok, rv, q⟩
  | next =>
    obtain ⟨σ', H', J', q⟩ := z
    exact ⟨.non, H', J'.os, J'.bare, J'.base, J'.hok, rfl, q⟩
  | brk =>
    obtain ⟨_, _, _, q⟩ := z
    exact q.elim
  | cont =>
    obtain ⟨_, _, _, q⟩ := z
    exact q.elim
end
section
variable {X : Cx} {k i : Nat} {f : Addr} {fd : FuncData} {ps : List Str} {sp : Sp} {x : Str} {p pos : Pos} {e : Expr} {es : List Expr} {t : TA}
theorem pass0' : Passes CX0 X E0 := pass0
theorem run_fnG {pins : List (Addr × Obj)} {σ : St} {H : Hp} {s : Shared} {Q : VK} {us : List Value} {vs : List V} (F : FnG X.prog X.w X.K X.mg X.base k f fd ps sp) (hr : RoomG k X.A) (hb : Binds X.K fd ps [])
    (I : Inv X pins σ H s) (r : Vals vs us) (h : sp vs H Q E0) : wpAny (model X.prog X.w) X.A (call (.ref f) us) (EP X pins σ Q) X.xe s := by
  have n : us.length = ps.length := by
    rw [← r.length]; exact F.len _ _ _ _ h
  have bd := hb s us I.kIn (by simpa using n)
  rw [List.append_nil] at bd
  refine wpAny_call (codeAny_mono (F.run X.A X.stack s H ⟨us, []⟩ us vs Q E0 hr I.env0 bd r h) fun res s' z => ?_)
  cases res with
  | error er => exact pass0 pins σ H s er s' I z
  | ok fl =>
    cases fl with
    | ret u => exact I.after z
    | next => exact z.elim
    | brk => exact z.elim
    | cont => exact z.elim
theorem pe_callG (F : FnG X.prog X.w X.K X.mg X.base k f fd ps sp) (hr : RoomG k X.A) (hg : Gl X x) (hm : X.mg x = some (.ref f)) (hk : PySem.W.keepIn X.K (.ref f) = true) (hb : Binds X.K fd ps [])
    (ha : PA X (e :: es) t) (hdb : (x == ("__debug__" : Str)) = false := by decide) (he : starEach (e :: es) X.env = (false, eval e X.env) :: starEach es X.env := by rfl) (hpl : (backTo pos (starEach es X.env)).any (·.1) = false := by rfl) :
    PE X (.Call (.Name x p) (e :: es) [] pos) (fun σ H Q => t σ H fun vs H1 => sp vs H1 Q E0) := by
  refine ⟨fun pins s σ H Q I z => ?_⟩
  refine wpAny_Call_Name_kw (ld_glob I hg hm ?_ hdb)
  refine PySem.W.callWith_K (h₀ := X.base) I.ok.mod.kin hk (thn (ha.run pos pins s σ H _ I z) fun us s1 ⟨vs, H1, I1, r, q⟩ => ⟨I1.kIn, ?_⟩) he hpl
  exact run_fnG F hr hb I1 r q
theorem pe_callLG (F : FnG X.prog X.w X.K X.mg X.base k f fd ps sp) (hr : RoomG k X.A) (hN : X.N[i]? = some x) (hv : Vis X.env.scope x) (hk : PySem.W.keepIn X.K (.ref f) = true) (hb : Binds X.K fd ps []) (ha : PA X (e :: es) t)
    (hdb : (x == ("__debug__" : Str)) = false := by decide) (hcd : (x == ("__classdict__" : Str)) = false := by decide)
    (he : starEach (e :: es) X.env = (false, eval e X.env) :: starEach es X.env := by rfl) (hpl : (backTo pos (starEach es X.env)).any (·.1) = false := by rfl) :
    PE X (.Call (.Name x p) (e :: es) [] pos) (fun σ H Q => σ[i]? = some (some (.ref f)) ∧ t σ H fun vs H1 => sp vs H1 Q E0) := by
  refine ⟨fun pins s σ H Q I z => ?_⟩
  obtain ⟨hs, ht⟩ := z
  refine wpAny_Call_Name_kw (thn ((pe_var (pos := p) hN hv hdb hcd).run pins s σ H (fun v H1 => v = .ref f ∧ H1 = H) I ⟨.ref f, hs, rfl, rfl⟩) fun u s1 ⟨v, H1, I1, r1, q1⟩ => ?_)
  obtain ⟨rfl, rfl⟩ := q1
  cases r1
  refine PySem.W.callWith_K (h₀ := X.base) I.ok.mod.kin hk (thn (ha.run pos pins s1 σ _ _ I1 ht) fun us s2 ⟨vs, H2, I2, r, q⟩ => ⟨I2.kIn, ?_⟩) he hpl
  exact run_fnG F hr hb I2 r q
end
end MP
set_option Elab.async false
set_option linter.all false
set_option maxRecDepth 100000
set_option maxHeartbeats 2000000
/-! M4: calls of defs, built-ins, methods, subscripts, slices, dicts. -/
namespace MP
open PySem PySem.Spec L2
open PyProof.Rows (envOfC)
abbrev B0 : WB := fun _ _ _ _ => False
theorem nb0 : ∀ (c : Value) (d : Option Addr) (σ : St) (H : Hp), ¬ B0 c d σ H := fun _ _ _ _ h => h
/-! ### a def's promise -/
def spF (K : PySem.W.Frag) (n : Nat) (F : List D → MH → R D) : Sp := fun vs H Q E => vs.length = n ∧ ∃ ρ h ds, HR K ρ h H ∧ RVs K ρ H ds vs ∧ Good K B0 (rD K) [] ρ H Q (F ds h)
def startE (n : Nat) (ds : List D) : Env := ds.map some ++ List.replicate (n - ds.length) none
def denF (n : Nat) (s : S) : List D → MH → R D := fun ds h => match s (startE n ds) h with
  | .rt d h => .ok d h
  | .nx _ h => .ok .non h
  | .er c d _ h => .er c d h
  | _ => .no
theorem er_start {K : PySem.W.Frag} {ρ : List Addr} {H : Hp} {N : List Str} {ds : List D} {vs : List V} (r : RVs K ρ H ds vs) : ER K ρ H (startE N.length ds) (L2.start N vs) := by
  refine ⟨?_, fun i d e => ?_⟩
  · unfold startE L2.start; simp [r.length]
  · unfold startE at e
    unfold L2.start
    by_cases hi : i < ds.length
    · rw [List.getElem?_append_left (by simpa using hi), List.getElem?_map] at e
      cases q : ds[i]? with
      | none => rw [q] at e; cases e
      | some d' =>
        rw [q] at e
        cases e
        obtain ⟨v, h1, h2⟩ := r.get q
        exact ⟨v, by rw [List.getElem?_append_left (by simpa [← r.length] using hi), List.getElem?_map, h1]; rfl, h2⟩
    · rw [List.getElem?_append_right (by simpa using hi)] at e
      have := List.mem_of_getElem? e
      rw [List.mem_replicate] at this
      cases this.2
section
variable {P : Program} {w : World} {K : PySem.W.Frag} {mg : Str → Option Value} {base : Heap} {x qual : Str} {params : Arguments} {body : List Stmt} {scope : Scope} {dvs : List V} {kws : List (Str × V)} {f : Addr} {fd : FuncData}
/-- a def whose body is derived -/
theorem fn_ok {N ps : List Str} {k : Nat} {s : S} (F : FunD K x qual params body scope dvs kws f fd) (S : FnScope N ps scope)
    (hb : ∀ (cdv : Value) (A : Around) (outer : List PySem.Env) (s' : Shared) (H : Hp) (E : XK), RoomG k (A.deeper (envOfC qual scope s'.heap.objs.size f cdv)) → DenSs (cxOf CX0 P w K mg base N qual scope f cdv A outer s' H E).nox B0 body s) :
    FnG P w K mg base (k + 1) f fd ps (spF K ps.length (denF N.length s)) := by
  refine fnG_of F S (fun vs H Q E h => h.1) (fun cdv A outer s' H vs Q E hr h => ?_)
  obtain ⟨hl, ρ, h, ds, R, r, g⟩ := h
  refine ⟨tS K B0 s, PSs.nox (hb cdv A outer s' H E hr), ρ, h, startE N.length ds, R, er_start r, ?_⟩
  unfold denF at g
  cases q : s (startE N.length ds) h with
  | nx e h' => rw [q] at g; exact fun ρ' σ' H' a b c => g ρ' .non H' a b .non
  | rt d h' => rw [q] at g; exact g
  | bk e h' => rw [q] at g; exact g.elim
  | ct e h' => rw [q] at g; exact g.elim
  | er c d e h' => rw [q] at g; exact fun ρ' y dx σ'' H' a b c _ e => g ρ' y dx H' a b c e
  | no => rw [q] at g; exact g
end

section
variable {X : Cx} {B : WB} {e : Expr} {es : List Expr} {ms : MA} {p pos : Pos}
def mCall (n : Nat) (F : List D → MH → R D) (a : MA) : M := fun env h => (a env h).bind fun ds h1 => if ds.length = n then F ds h1 else .no
theorem spF_ok {K : PySem.W.Frag} {n : Nat} {F : List D → MH → R D} {σ : St} {ρ : List Addr} {h : MH} {H : Hp} {Q : VK} {ds : List D} {vs : List V} (nb : ∀ c d σ H, ¬ B c d σ H) (R : HR K ρ h H) (r : RVs K ρ H ds vs) (hn : ds.length = n) (g : Good K B (rD K) σ ρ H Q (F ds h)) : spF K n F vs H Q E0 := by
  refine ⟨by rw [← r.length]; exact hn, ρ, h, ds, R, r, ?_⟩
  cases q : F ds h with
  | ok d h' => rw [q] at g; exact g
  | er c d h' => rw [q] at g; exact fun ρ' x dx H' a b c e => nb _ _ _ _ (g ρ' x dx H' a b c e)
  | no => rw [q] at g; exact g
theorem den_call {k n : Nat} {f : Addr} {fd : FuncData} {ps : List Str} {x : Str} {F : List D → MH → R D} (nb : ∀ c d σ H, ¬ B c d σ H) (G : FnG X.prog X.w X.K X.mg X.base k f fd ps (spF X.K n F)) (hr : RoomG k X.A) (hg : Gl X x) (hm : X.mg x = some (.ref f)) (hk : PySem.W.keepIn X.K (.ref f) = true) (hb : Binds X.K fd ps [])
    (ha : DenA X B (e :: es) ms) (hdb : (x == ("__debug__" : Str)) = false := by decide) (he : starEach (e :: es) X.env = (false, eval e X.env) :: starEach es X.env := by rfl) (hpl : (backTo pos (starEach es X.env)).any (·.1) = false := by rfl) :
    Den X B (.Call (.Name x p) (e :: es) [] pos) (mCall n F ms) :=
  PE.imp (pe_callG G hr hg hm hk hb ha hdb he hpl) fun σ H Q ⟨ρ, h, env, R, E, g⟩ => (tR_bind ⟨R, E⟩ g).imp fun vs H1 ⟨ρ1, h1, xs, A1, e1, rx, g1⟩ => by
    obtain ⟨hn, g2⟩ := good_if g1
    exact spF_ok nb A1.R rx hn g2
/-! ### built-ins by values -/
def CallM (K : PySem.W.Frag) (B : WB) (r : List V → Hp → VK → Prop) (f : List D → MH → R D) : Prop := ∀ {σ : St} {ρ : List Addr} {h : MH} {H : Hp} {Q : VK} {xs : List D} {vs : List V}, HR K ρ h H → RVs K ρ H xs vs → Good K B (rD K) σ ρ H Q (f xs h) → r vs H Q
def mB (f : List D → MH → R D) (a : MA) : M := fun env h => (a env h).bind f
theorem den_callB {id : String} {x : Str} {r : List V → Hp → VK → Prop} {f : List D → MH → R D} (hf : CallM X.K B r f) (hc : CallR X (.builtin id) r) (hg : Gl X x) (hm : X.mg x = none) (hv : bootBuiltins x = some (.builtin id)) (ha : DenA X B (e :: es) ms) (hn : x ≠ "__name__" := by decide) (hdb : (x == ("__debug__" : Str)) = false := by decide)
    (he : starEach (e :: es) X.env = (false, eval e X.env) :: starEach es X.env := by rfl) (hpl : (backTo pos (starEach es X.env)).any (·.1) = false := by rfl) : Den X B (.Call (.Name x p) (e :: es) [] pos) (mB f ms) :=
  PE.imp (pe_callB hc hg hm hv ha hn hdb he hpl) fun σ H Q ⟨ρ, h, env, R, E, g⟩ => (tR_bind ⟨R, E⟩ g).imp fun vs H1 ⟨ρ1, h1, xs, A1, e1, rx, g1⟩ => hf A1.R rx g1
theorem den_callTy {T : String} {x : Str} {r : List V → Hp → VK → Prop} {f : List D → MH → R D} (hf : CallM X.K B r f) (hc : CallR X (.type T) r) (hg : Gl X x) (hm : X.mg x = none) (hv : bootBuiltins x = some (.type T)) (ha : DenA X B (e :: es) ms) (hn : x ≠ "__name__" := by decide) (hdb : (x == ("__debug__" : Str)) = false := by decide)
    (he : starEach (e :: es) X.env = (false, eval e X.env) :: starEach es X.env := by rfl) (hpl : (backTo pos (starEach es X.env)).any (·.1) = false := by rfl) : Den X B (.Call (.Name x p) (e :: es) [] pos) (mB f ms) :=
  PE.imp (pe_callTy hc hg hm hv ha hn hdb he hpl) fun σ H Q ⟨ρ, h, env, R, E, g⟩ => (tR_bind ⟨R, E⟩ g).imp fun vs H1 ⟨ρ1, h1, xs, A1, e1, rx, g1⟩ => hf A1.R rx g1
end

/-! ### the built-ins -/
section
variable {K : PySem.W.Frag} {B : WB} {ρ : List Addr} {H : Hp} {h : MH}
def lenD (h : MH) (d : D) : Option Nat := match d with
  | .str s => if s.length ≤ sizeLine then some s.length else none
  | d => (seqOf h d).map List.length
def bLen : List D → MH → R D
  | [d], h => match lenD h d with
    | some n => .ok (.int (n : Int)) h
    | none => .no
  | _, _ => .no
theorem RVs.one {d : D} {vs : List V} (r : RVs K ρ H [d] vs) : ∃ v, vs = [v] ∧ RV K ρ H d v := by cases r with | cons a b => cases b; exact ⟨_, rfl, a⟩
theorem RVs.two {d e : D} {vs : List V} (r : RVs K ρ H [d, e] vs) : ∃ v w, vs = [v, w] ∧ RV K ρ H d v ∧ RV K ρ H e w := by
  cases r with | cons a b => obtain ⟨w, rfl, c⟩ := b.one; exact ⟨_, _, rfl, a, c⟩
theorem len_ok : CallM K B (fun xs H Q => ∃ x n, xs = [x] ∧ LenV K x H n ∧ Q (.int n) H) bLen := by
  intro σ ρ h H Q xs vs R r g
  unfold bLen at g
  split at g
  · rename_i d
    obtain ⟨v, rfl, rv⟩ := r.one
    split at g
    · rename_i n e
      refine ⟨v, n, rfl, ?_, g.ok0 R (.int _)⟩
      unfold lenD at e
      split at e
      · split at e
        · cases e; cases rv; exact ⟨‹_›, rfl⟩
        · cases e
      · cases q : seqOf h d with
        | none => rw [q] at e; cases e
        | some ds =>
          rw [q] at e; cases e
          obtain ⟨a, ws, rfl, s, rs⟩ := seqOf_ok R rv q
          rcases s with s | s
          · exact .inl ⟨ws, s, rs.length⟩
          · exact .inr ⟨ws, s, rs.length⟩
    · exact g.elim
  · exact g.elim
def boolsOf : List D → Option (List Bool)
  | [] => some []
  | .bl b :: r => (boolsOf r).map (b :: ·)
  | _ => none
theorem boolsOf_ok : ∀ {ds : List D} {vs : List V} {bs : List Bool}, RVs K ρ H ds vs → boolsOf ds = some bs → vs = bs.map V.bl
  | _, _, _, .nil, e => by cases e; rfl
  | d :: ds, _, bs, .cons r t, e => by
    cases r with
    | bl b =>
      simp only [boolsOf] at e
      cases q : boolsOf ds with
      | none => rw [q] at e; cases e
      | some cs => rw [q] at e; cases e; rw [boolsOf_ok t q]; rfl
    | _ => cases e
def bAll : List D → MH → R D
  | [d], h => match (lstOf h d).bind boolsOf with
    | some bs => .ok (.bl (bs.all id)) h
    | none => .no
  | _, _ => .no
def bAny : List D → MH → R D
  | [d], h => match (lstOf h d).bind boolsOf with
    | some bs => .ok (.bl (bs.any id)) h
    | none => .no
  | _, _ => .no
theorem bools_ok {d : D} {v : V} {bs : List Bool} (R : HR K ρ h H) (r : RV K ρ H d v) (e : (lstOf h d).bind boolsOf = some bs) : ∃ a, v = .ref a ∧ SqL K H a (bs.map V.bl) := by
  cases q : lstOf h d with
  | none => rw [q] at e; cases e
  | some ds =>
    rw [q] at e
    obtain ⟨a, ws, rfl, s, rs⟩ := lstOf_ok R r q
    exact ⟨a, rfl, by rw [← boolsOf_ok rs e]; exact s⟩
theorem all_ok : CallM K B (rAll K) bAll := by
  intro σ ρ h H Q xs vs R r g
  unfold bAll at g
  split at g
  · obtain ⟨v, rfl, rv⟩ := r.one
    split at g
    · rename_i bs e
      obtain ⟨a, rfl, s⟩ := bools_ok R rv e
      exact ⟨a, bs, rfl, s, g.ok0 R (.bl _)⟩
    · exact g.elim
  · exact g.elim
theorem any_ok : CallM K B (rAny K) bAny := by
  intro σ ρ h H Q xs vs R r g
  unfold bAny at g
  split at g
  · obtain ⟨v, rfl, rv⟩ := r.one
    split at g
    · rename_i bs e
      obtain ⟨a, rfl, s⟩ := bools_ok R rv e
      exact ⟨a, bs, rfl, s, g.ok0 R (.bl _)⟩
    · exact g.elim
  · exact g.elim
def bAbs : List D → MH → R D
  | [.int i], h => .ok (.int (if i < 0 then -i else i)) h
  | _, _ => .no
theorem abs_ok : CallM K B (fun xs H Q => ∃ i, xs = [.int i] ∧ Q (.int (if i < 0 then -i else i)) H) bAbs := by
  intro σ ρ h H Q xs vs R r g
  unfold bAbs at g
  split at g
  · obtain ⟨v, rfl, rv⟩ := r.one
    cases rv; exact ⟨_, rfl, g.ok0 R (.int _)⟩
  · exact g.elim
def bMin2 : List D → MH → R D
  | [.int i, .int j], h => .ok (.int (if j < i then j else i)) h
  | _, _ => .no
theorem min2_ok : CallM K B (fun xs H Q => ∃ i j, xs = [.int i, .int j] ∧ Q (.int (if j < i then j else i)) H) bMin2 := by
  intro σ ρ h H Q xs vs R r g
  unfold bMin2 at g
  split at g
  · obtain ⟨v, w, rfl, rv, rw'⟩ := r.two
    cases rv; cases rw'; exact ⟨_, _, rfl, g.ok0 R (.int _)⟩
  · exact g.elim
def bMax2 : List D → MH → R D
  | [.int i, .int j], h => .ok (.int (if j > i then j else i)) h
  | _, _ => .no
theorem max2_ok : CallM K B (fun xs H Q => ∃ i j, xs = [.int i, .int j] ∧ Q (.int (if j > i then j else i)) H) bMax2 := by
  intro σ ρ h H Q xs vs R r g
  unfold bMax2 at g
  split at g
  · obtain ⟨v, w, rfl, rv, rw'⟩ := r.two
    cases rv; cases rw'; exact ⟨_, _, rfl, g.ok0 R (.int _)⟩
  · exact g.elim
def bInt : List D → MH → R D
  | [.int i], h => .ok (.int i) h
  | [.bl k], h => .ok (.int (if k = true then 1 else 0)) h
  | [.str a], h => match PySem.intText? a with
    | some n => if a.length ≤ 640 then .ok (.int n) h else .no
    | none => .no
  | _, _ => .no
abbrev rIntAll : List V → Hp → VK → Prop := fun xs H Q => ((∃ i, xs = [.int i] ∧ Q (.int i) H) ∨ ∃ k, xs = [.bl k] ∧ Q (.int (if k then 1 else 0)) H) ∨ ∃ a n, xs = [.str a] ∧ PySem.intText? a = some n ∧ a.length ≤ 640 ∧ Q (.int n) H
theorem call_intAll {X : Cx} : CallR X (.type "int") rIntAll := CallR.or call_int1 call_int_str
theorem int_ok : CallM K B rIntAll bInt := by
  intro σ ρ h H Q xs vs R r g
  unfold bInt at g
  split at g
  · obtain ⟨v, rfl, rv⟩ := r.one
    cases rv; exact .inl (.inl ⟨_, rfl, g.ok0 R (.int _)⟩)
  · obtain ⟨v, rfl, rv⟩ := r.one
    cases rv; exact .inl (.inr ⟨_, rfl, g.ok0 R (.int _)⟩)
  · obtain ⟨v, rfl, rv⟩ := r.one
    cases rv
    split at g
    · rename_i n e
      obtain ⟨hl, g⟩ := good_if g
      exact .inr ⟨_, n, rfl, e, hl, g.ok0 R (.int _)⟩
    · exact g.elim
  · exact g.elim
def bStr : List D → MH → R D
  | [.int i], h => if i.natAbs.log2 < 1920 then .ok (.str (toString i)) h else .no
  | _, _ => .no
theorem str_ok : CallM K B (fun xs H Q => ∃ i : Int, xs = [.int i] ∧ i.natAbs.log2 < 1920 ∧ Q (.str (toString i)) H) bStr := by
  intro σ ρ h H Q xs vs R r g
  unfold bStr at g
  split at g
  · obtain ⟨v, rfl, rv⟩ := r.one
    obtain ⟨hl, g⟩ := good_if g
    cases rv; exact ⟨_, rfl, hl, g.ok0 R (.str _)⟩
  · exact g.elim
def bTuple : List D → MH → R D
  | [d], h => match lstOf h d with
    | some ds => .ok (.tup ds) h
    | none => match tupOf d with
      | some ds => .ok (.tup ds) h
      | none => .no
  | _, _ => .no
theorem tuple_ok : CallM K B (fun xs H Q => ∃ p ys, xs = [.ref p] ∧ ((SqL K H p ys ∧ ∀ l, H l = none → Q (.ref l) (upd H l (.tup ys))) ∨ (SqT K H p ys ∧ Q (.ref p) H))) bTuple := by
  intro σ ρ h H Q xs vs R r g
  unfold bTuple at g
  split at g
  · obtain ⟨v, rfl, rv⟩ := r.one
    split at g
    · rename_i ds e
      obtain ⟨a, ws, rfl, s, rs⟩ := lstOf_ok R rv e
      exact ⟨a, ws, rfl, .inl ⟨s, fun l hl => good_newT g R rs hl⟩⟩
    · split at g
      · rename_i ds e
        obtain ⟨a, ws, rfl, s, rs⟩ := tupOf_ok rv e
        exact ⟨a, ws, rfl, .inr ⟨SqT.tup s, g.ok0 R (.tup s rs)⟩⟩
      · exact g.elim
  · exact g.elim
def bList : List D → MH → R D
  | [d], h => match seqOf h d with
    | some ds => newL ds h
    | none => match d with
      | .loc n => (match h[n]? with
        | some (.dic kvs) => newL (kvs.map fun kv => match kv.1 with | .inl i => D.int i | .inr s => D.str s) h
        | _ => .no)
      | _ => .no
  | _, _ => .no
abbrev rListAll (K : PySem.W.Frag) : List V → Hp → VK → Prop := fun xs H Q => (∃ p ys, xs = [.ref p] ∧ (SqL K H p ys ∨ SqT K H p ys) ∧ ∀ l, H l = none → Q (.ref l) (upd H l (.lst ys))) ∨
  (∃ (a : Addr) (kvs : List (Key × V)), xs = [.ref a] ∧ Rd H a (.dK kvs) ∧ ∀ p, H p = none → Q (.ref p) (upd H p (.lst (kvs.map fun kv => kV kv.1))))
theorem call_listAll {X : Cx} (hc : X.calm = true) : CallR X (.type "list") (rListAll X.K) := CallR.or call_list_of (call_listD hc)
theorem RKs.keys : ∀ {ds : List (Key × D)} {vs : List (Key × V)}, RKs K ρ H ds vs → RVs K ρ H (ds.map fun kv => match kv.1 with | .inl i => D.int i | .inr s => D.str s) (vs.map fun kv => kV kv.1)
  | _, _, .nil => .nil
  | _, _, @RKs.cons _ _ _ _ k _ _ _ _ r t => .cons (by cases k with | inl i => exact .int i | inr s => exact .str s) (RKs.keys t)
theorem list_ok : CallM K B (rListAll K) bList := by
  intro σ ρ h H Q xs vs R r g
  unfold bList at g
  split at g
  · obtain ⟨v, rfl, rv⟩ := r.one
    split at g
    · rename_i ds e
      obtain ⟨a, ws, rfl, s, rs⟩ := seqOf_ok R rv e
      exact .inl ⟨a, ws, rfl, s, fun l hl => good_newL g R rs hl⟩
    · split at g
      · split at g
        · rename_i n _ kvs e
          cases rv with
          | @loc _ a q =>
            obtain ⟨ws, hw, rk⟩ := R.dic q e
            exact .inr ⟨a, ws, rfl, .inl hw, fun l hl => good_newL g R rk.keys hl⟩
        · exact g.elim
      · exact g.elim
  · exact g.elim
/-! isinstance -/
def tyName (h : MH) : D → Option String
  | .non => some "NoneType"
  | .bl _ => some "bool"
  | .int _ => some "int"
  | .str _ => some "str"
  | .tup _ => some "tuple"
  | .rol _ => none
  | .loc n => match h[n]? with
    | some (.lst _) => some "list"
    | some (.dic _) => some "dict"
    | some (.dit _) => some "dict"
    | _ => none
  | _ => none
def bIsi : List D → MH → R D
  | [d, .ty n], h => match tyName h d with
    | some t => (match kitB t n with
      | some b => .ok (.bl b) h
      | none => .no)
    | none => .no
  | _, _ => .no
theorem tyName_ok {d : D} {v : V} {t : String} (R : HR K ρ h H) (r : RV K ρ H d v) (e : tyName h d = some t) : TyX K H v (.type t) := by
  cases r with
  | non => cases e; exact .base .non
  | bl b => cases e; exact .base (.bl b)
  | int i => cases e; exact .base (.int i)
  | str s => cases e; exact .base (.str s)
  | tup q _ => cases e; exact .base (.tup q)
  | @loc n a q =>
    unfold tyName at e
    dsimp only at e
    split at e
    · cases e; obtain ⟨_, hv, _⟩ := R.lst q ‹_›; exact .base (.lst hv)
    · cases e; obtain ⟨_, hv, _⟩ := R.dic q ‹_›; exact .base (.dK hv)
    · cases e; obtain ⟨_, hv, _⟩ := R.dit q ‹_›; exact .base (.dT hv)
    · cases e
  | _ => cases e
theorem isi_ok : CallM K B (rIsi K) bIsi := by
  intro σ ρ h H Q xs vs R r g
  unfold bIsi at g
  split at g
  · obtain ⟨v, w, rfl, rv, rw'⟩ := r.two
    cases rw'
    split at g
    · rename_i t et
      split at g
      · rename_i b eb
        exact ⟨v, _, _, _, b, rfl, .ty _, tyName_ok R rv et, kit_ty eb, g.ok0 R (.bl _)⟩
      · exact g.elim
    · exact g.elim
  · exact g.elim
/-! sorted of texts: a list of them, a dict's keys -/
def strsOf : List D → Option (List Str)
  | [] => some []
  | .str s :: r => (strsOf r).map (s :: ·)
  | _ => none
theorem strsOf_ok : ∀ {ds : List D} {vs : List V} {bs : List Str}, RVs K ρ H ds vs → strsOf ds = some bs → vs = bs.map V.str
  | _, _, _, .nil, e => by cases e; rfl
  | d :: ds, _, bs, .cons r t, e => by
    cases r with
    | str b =>
      simp only [strsOf] at e
      cases q : strsOf ds with
      | none => rw [q] at e; cases e
      | some cs => rw [q] at e; cases e; rw [strsOf_ok t q]; rfl
    | _ => cases e
theorem rvs_strs : ∀ (bs : List Str), RVs K ρ H (bs.map D.str) (bs.map V.str)
  | [] => .nil
  | b :: bs => .cons (.str b) (rvs_strs bs)
end
end MP
set_option Elab.async false
set_option linter.all false
set_option maxRecDepth 100000
set_option maxHeartbeats 2000000
/-! M5: sorted texts. -/
namespace MP
open PySem PySem.Spec L2
open PyProof.Rows (sortedS risingS)
def leC (x y : List Nat) : Bool := !ltCps y x
theorem ltCps_irr : ∀ x, ltCps x x = false
  | [] => rfl
  | a :: r => by simp [ltCps, ltCps_irr r]
theorem leC_total : ∀ x y, (leC x y || leC y x) = true
  | [], [] => rfl
  | [], _ :: _ => rfl
  | _ :: _, [] => rfl
  | a :: r, b :: t => by
    have := leC_total r t
    unfold leC at *
    simp only [ltCps]
    by_cases h1 : a < b
    · have h2 : ¬ b < a := by omega
      have h3 : ¬ b = a := by omega
      simp [h1, h2, h3]
    · by_cases h2 : a = b
      · subst h2; simpa using this
      · have h3 : b < a := by omega
        simp [h1, h2, h3]
theorem leC_trans : ∀ x y z, leC x y = true → leC y z = true → leC x z = true
  | [], _, [], _, _ => rfl
  | [], _, _ :: _, _, _ => rfl
  | _ :: _, [], _, h, _ => by simp [leC, ltCps] at h
  | _ :: _, _ :: _, [], _, h => by simp [leC, ltCps] at h
  | a :: r, b :: t, c :: u, h, h' => by
    have ih := leC_trans r t u
    unfold leC at *
    simp only [ltCps, Bool.not_eq_true', Bool.or_eq_false_iff, Bool.and_eq_false_iff, decide_eq_false_iff_not, beq_eq_false_iff_ne] at *
    obtain ⟨h1, h2⟩ := h
    obtain ⟨h3, h4⟩ := h'
    refine ⟨by omega, ?_⟩
    by_cases e : c = a
    · right
      have e1 : b = a := by omega
      have e2 : c = b := by omega
      exact ih (h2.resolve_left (fun q => q e1)) (h4.resolve_left (fun q => q e2))
    · exact .inl e
theorem leC_anti : ∀ x y, leC x y = true → leC y x = true → x = y
  | [], [], _, _ => rfl
  | [], _ :: _, _, h => by simp [leC, ltCps] at h
  | _ :: _, [], h, _ => by simp [leC, ltCps] at h
  | a :: r, b :: t, h, h' => by
    have ih := leC_anti r t
    unfold leC at *
    simp only [ltCps, Bool.not_eq_true', Bool.or_eq_false_iff, Bool.and_eq_false_iff, decide_eq_false_iff_not, beq_eq_false_iff_ne] at *
    obtain ⟨h1, h2⟩ := h
    obtain ⟨h3, h4⟩ := h'
    have e : a = b := by omega
    subst e
    rw [ih (h2.resolve_left (fun q => q rfl)) (h4.resolve_left (fun q => q rfl))]
def leS (a b : Str) : Bool := leC a.cps.toList b.cps.toList
theorem str_ext {a b : Str} (h : a.cps.toList = b.cps.toList) : a = b := by
  obtain ⟨x⟩ := a
  obtain ⟨y⟩ := b
  have : x = y := Array.toList_inj.mp h
  rw [this]
def srt (xs : List Str) : List Str := xs.mergeSort leS
theorem srt_perm (xs : List Str) : (srt xs).Perm xs := List.mergeSort_perm _ _
theorem srt_pw (xs : List Str) : (srt xs).Pairwise fun a b => leS a b = true := List.pairwise_mergeSort (le := leS) (fun a b c => leC_trans a.cps.toList b.cps.toList c.cps.toList) (fun a b => leC_total a.cps.toList b.cps.toList) xs
theorem pw_rising : ∀ (p : Str) (l : List Str), risingS p l = true → (p :: l).Pairwise fun a b => leS a b = true
  | p, [], _ => by simp
  | p, x :: r, h => by
    have h' : (!ltCps x.cps.toList p.cps.toList && risingS x r) = true := h
    rw [Bool.and_eq_true] at h'
    have ih := pw_rising x r h'.2
    refine List.pairwise_cons.mpr ⟨fun b hb => ?_, ih⟩
    rcases List.mem_cons.mp hb with rfl | hb
    · exact h'.1
    · exact leC_trans _ _ _ h'.1 ((List.pairwise_cons.mp ih).1 b hb)
theorem sorted_pw : ∀ {l : List Str}, sortedS l = true → l.Pairwise fun a b => leS a b = true
  | [], _ => .nil
  | x :: r, h => pw_rising x r h
theorem srt_unique {ys xs : List Str} (p : ys.Perm xs) (h : sortedS ys = true) : ys = srt xs :=
  List.Perm.eq_of_pairwise (le := fun a b => leS a b = true) (fun a b _ _ h1 h2 => str_ext (leC_anti _ _ h1 h2)) (sorted_pw h) (srt_pw xs) (p.trans (srt_perm xs).symm)
section
variable {K : PySem.W.Frag} {B : WB} {ρ : List Addr} {H : Hp} {h : MH}
def keyStrs : List (Key × D) → Option (List Str)
  | [] => some []
  | (.inr s, _) :: r => (keyStrs r).map (s :: ·)
  | _ => none
def bSorted : List D → MH → R D
  | [d], h => match (lstOf h d).bind strsOf with
    | some ss => if ss.length < 64 then newL ((srt ss).map D.str) h else .no
    | none => match d with
      | .loc n => (match h[n]? with
        | some (.dic kvs) => (match keyStrs kvs with
          | some ss => if ss.length < 64 then newL ((srt ss).map D.str) h else .no
          | none => .no)
        | _ => .no)
      | _ => .no
  | _, _ => .no
abbrev rSortedAll (K : PySem.W.Frag) : List V → Hp → VK → Prop := fun xs H Q => rSortedS K xs H Q ∨ (∃ (a : Addr) (kvs : List (Key × V)) (ks : List Str), xs = [.ref a] ∧ Rd H a (.dK kvs) ∧ kvs.map (·.1) = ks.map Sum.inr ∧ ks.length < 64 ∧
    ∀ ys p, ys.Perm ks → sortedS ys = true → H p = none → Q (.ref p) (upd H p (.lst (ys.map V.str))))
theorem call_sortedAll {X : Cx} (hc : X.calm = true) : CallR X (.builtin "sorted") (rSortedAll X.K) := CallR.or cr_sortedS (call_sortedD hc)
theorem keyStrs_ok : ∀ {ds : List (Key × D)} {vs : List (Key × V)} {ss : List Str}, RKs K ρ H ds vs → keyStrs ds = some ss → vs.map (·.1) = ss.map Sum.inr
  | _, _, _, .nil, e => by cases e; rfl
  | _, _, ss, @RKs.cons _ _ _ _ k d v ds vs r t, e => by
    cases k with
    | inl i => cases e
    | inr s =>
      simp only [keyStrs] at e
      cases q : keyStrs ds with
      | none => rw [q] at e; cases e
      | some cs => rw [q] at e; cases e; rw [List.map_cons, keyStrs_ok t q]; rfl
theorem sorted_ok : CallM K B (rSortedAll K) bSorted := by
  intro σ ρ h H Q xs vs R r g
  unfold bSorted at g
  split at g
  · obtain ⟨v, rfl, rv⟩ := r.one
    split at g
    · rename_i ss e
      obtain ⟨hl, g⟩ := good_if g
      rename_i d _ _
      cases q : lstOf h d with
      | none => rw [q] at e; cases e
      | some ds =>
        rw [q] at e
        obtain ⟨a, ws, rfl, s, rs⟩ := lstOf_ok R rv q
        have ew := strsOf_ok rs e
        subst ew
        refine .inl ⟨a, ss, rfl, s, hl, fun ys p hp hs hn => ?_⟩
        rw [srt_unique hp hs]
        exact good_newL g R (rvs_strs _) hn
    · split at g
      · split at g
        · split at g
          · rename_i es
            rename_i ss
            obtain ⟨hl, g⟩ := good_if g
            cases rv with
            | @loc _ a q =>
              obtain ⟨ws, hw, rk⟩ := R.dic q ‹_›
              refine .inr ⟨a, ws, _, rfl, .inl hw, keyStrs_ok rk ‹_›, hl, fun ys p hp hs hn => ?_⟩
              rw [srt_unique hp hs]
              exact good_newL g R (rvs_strs _) hn
          · exact g.elim
        · exact g.elim
      · exact g.elim
  · exact g.elim
end
end MP
set_option Elab.async false
set_option linter.all false
set_option maxRecDepth 100000
set_option maxHeartbeats 2000000
/-! M6: subscripts, slices, methods, dicts, f-strings. -/
namespace MP
open PySem PySem.Spec L2
section
variable {K : PySem.W.Frag} {B : WB} {σ : St} {ρ ρ' : List Addr} {H H' : Hp} {h : MH} {env : Env}
/-! ### subscripts -/
def fIx (x y : D) (h : MH) : R D := match y with
  | .int i => match x with
    | .str s => if s.length ≤ sizeLine then (match atI s.cps.toList i with
      | some c => .ok (.str ⟨#[c]⟩) h
      | none => .no) else .no
    | x => match seqOf h x with
      | some ds => (match atI ds i with
        | some d => .ok d h
        | none => .no)
      | none => .no
  | _ => .no
theorem atI_rv {ds : List D} {vs : List V} {i : Int} {d : D} (r : RVs K ρ H ds vs) (e : atI ds i = some d) : ∃ v, atI vs i = some v ∧ RV K ρ H d v := by
  unfold atI at *
  rw [← r.length]
  cases q : ixN ds.length i with
  | none => rw [q] at e; cases e
  | some j => rw [q] at e; exact r.get e
theorem ix_ok : OpM K B (rIx K) fIx := by
  intro σ ρ h H Q x y v w R rx ry g
  unfold fIx at g
  split at g
  · cases ry
    split at g
    · obtain ⟨hl, g⟩ := good_if g
      cases rx
      split at g
      · rename_i c e
        exact .inr (.inr ⟨_, _, c, rfl, rfl, hl, e, g.ok0 R (.str _)⟩)
      · exact g.elim
    · split at g
      · rename_i ds e
        split at g
        · rename_i d e'
          obtain ⟨a, vs, rfl, s, rs⟩ := seqOf_ok R rx e
          obtain ⟨v, h1, h2⟩ := atI_rv rs e'
          rcases s with s | s
          · exact .inl ⟨a, vs, _, v, rfl, rfl, s, h1, g.ok0 R h2⟩
          · exact .inr (.inl ⟨a, vs, _, v, rfl, rfl, s, h1, g.ok0 R h2⟩)
        · exact g.elim
      · exact g.elim
  · exact g.elim
/-! ### slices -/
def cutD (xs : List D) (lo hi : Option Int) : List D := (xs.drop (HT.sIx xs.length 0 lo)).take (HT.sIx xs.length xs.length hi - HT.sIx xs.length 0 lo)
theorem cut_rv {ds : List D} {vs : List V} (r : RVs K ρ H ds vs) (lo hi : Option Int) : RVs K ρ H (cutD ds lo hi) (cutV vs lo hi) := by
  unfold cutD cutV
  rw [r.length]
  exact (r.drop _).take _
def fSl (x : D) (lo hi : Option Int) (h : MH) : R D := match x with
  | .str s => if s.length ≤ sizeLine then .ok (.str (cutS s lo hi)) h else .no
  | .tup ds => .ok (.tup (cutD ds lo hi)) h
  | x => match lstOf h x with
    | some ds => newL (cutD ds lo hi) h
    | none => .no
abbrev rSlAll (K : PySem.W.Frag) : V → Option Int → Option Int → Hp → VK → Prop := fun x lo hi H Q => rSlS x lo hi H Q ∨ (rSlA K x lo hi H Q ∨ rSlL K x lo hi H Q)
theorem sl_all {X : Cx} : SlR X (rSlAll X.K) := SlR.or sl_str (SlR.or sl_tupA sl_list)
theorem cut_all {ds : List D} {lo hi : Option Int} (h : HT.sIx ds.length 0 lo = 0 ∧ HT.sIx ds.length ds.length hi = ds.length) : cutD ds lo hi = ds := by
  unfold cutD; rw [h.1, h.2]; simp
theorem sl_ok {Q : VK} {x : D} {v : V} {lo hi : Option Int} (R : HR K ρ h H) (rx : RV K ρ H x v) (g : Good K B (rD K) σ ρ H Q (fSl x lo hi h)) : rSlAll K v lo hi H Q := by
  unfold fSl at g
  split at g
  · obtain ⟨hl, g⟩ := good_if g
    cases rx; exact .inl ⟨_, rfl, hl, g.ok0 R (.str _)⟩
  · cases rx with
    | @tup a ds vs e r =>
      refine .inr (.inl ⟨a, vs, rfl, SqT.tup e, fun q => ?_, fun _ p hp => good_newT g R (cut_rv r lo hi) hp⟩)
      rw [← r.length] at q
      rw [cut_all q] at g
      exact g.ok0 R (.tup e r)
  · split at g
    · rename_i ds e
      obtain ⟨a, vs, rfl, s, rs⟩ := lstOf_ok R rx e
      exact .inr (.inr ⟨a, vs, rfl, s, fun p hp => good_newL g R (cut_rv rs lo hi) hp⟩)
    · exact g.elim
end
section
variable {X : Cx} {B : WB} {a b e lo hi : Expr} {es : List Expr} {ma mb me : M} {ms : MA} {pos p2 : Pos}
theorem den_ix (ha : Den X B a ma) (hb : Den X B b mb) (hs : PlainIx b := by intro _ _; rfl) : Den X B (.Subscript a b pos) (mBin fIx ma mb) := PE.imp (pe_ix ix_seq ha hb hs) (bin_imp ix_ok)
abbrev MO' := PySem.Env → Nat
def oNone : Env → MH → R (Option Int) := fun _ h => .ok none h
def oSome (m : M) : Env → MH → R (Option Int) := fun env h => (m env h).bind fun x h1 => match x with
  | .int i => .ok (some i) h1
  | _ => .no
theorem deno_none : DenO X B none oNone := PO.imp po_none fun σ H Q ⟨ρ, h, env, R, E, g⟩ => g.ok0 R rfl
theorem deno_some (he : Den X B e me) : DenO X B (some e) (oSome me) := PO.imp (po_some he) fun σ H Q ⟨ρ, h, env, R, E, g⟩ => (tR_bind ⟨R, E⟩ g).imp fun v H1 ⟨ρ1, h1, x, A1, e1, rx, g1⟩ => by
  split at g1
  · cases rx; exact ⟨_, rfl, g1.ok0 A1.R rfl⟩
  · exact g1.elim
def mSl (m : M) (l u : Env → MH → R (Option Int)) : M := fun env h => (m env h).bind fun x h1 => (l env h1).bind fun i h2 => (u env h2).bind fun j h3 => fSl x i j h3
theorem den_sl {ol oh : Option Expr} {l u : Env → MH → R (Option Int)} (ha : Den X B a ma) (hl : DenO X B ol l) (hu : DenO X B oh u) : Den X B (.Subscript a (.Slice ol oh none p2) pos) (mSl ma l u) :=
  PE.imp (pe_slice sl_all ha hl hu) fun σ H Q ⟨ρ, h, env, R, E, g⟩ => (tR_bind ⟨R, E⟩ g).imp fun v H1 ⟨ρ1, h1, x, A1, e1, rx, g1⟩ => (tR_bind A1 g1).imp fun i H2 ⟨ρ2, h2, i', A2, e2, ri, g2⟩ => (tR_bind A2 g2).imp fun j H3 ⟨ρ3, h3, j', A3, e3, rj, g3⟩ => by
    subst ri rj
    exact sl_ok A3.R ((rx.ext A1.R e2).ext A2.R e3) g3
/-! ### xs[i] = v -/
def sSetIx (mv mo mi : M) : S := fun env h => (mv env h).st env fun v h1 => (mo env h1).st env fun o h2 => (mi env h2).st env fun i h3 => match o, i with
  | .loc n, .int k => (match h3[n]? with
    | some (.lst ds) => (match ixN ds.length k with
      | some j => .nx env (h3.set n (.lst (ds.set j v)))
      | none => .no)
    | _ => .no)
  | _, _ => .no
theorem dens_setIx {o i : Expr} {mo mi : M} {pos' : Pos} (he : Den X B e me) (ho : Den X B o mo) (hi : Den X B i mi)
    (ha : ∀ v, assign (.Subscript o i pos') X.env v = (do
      let ov ← holding [v] (eval o X.env)
      let iv ← holding [v, ov] (eval i X.env)
      standAt pos'
      holding [v, ov, iv] (setItem ov iv v)
      release [v, ov, iv] []) := by intro _; rfl)
    (hs : swapsWithSole [.Subscript o i pos'] e pos.line X.env = pure false := by rfl) (hw : swappedStores [.Subscript o i pos'] e X.env = pure none := by rfl) (h1 : (assignEach [.Subscript o i pos'] X.env).map (·.2) = [assign (.Subscript o i pos') X.env] := by rfl) :
    DenS X B (.Assign [.Subscript o i pos'] e pos) (sSetIx me mo mi) :=
  PS.imp (ps_asg he (pg_sub ho hi set_list ha) hs hw h1) fun D σ H ⟨ρ, h, env, R, E, g⟩ => (tR_st ⟨R, E⟩ g).imp fun v H1 ⟨ρ1, h1, x, A1, e1, rx, g1⟩ => (tR_st A1 g1).imp fun ov H2 ⟨ρ2, h2, o', A2, e2, ro, g2⟩ => (tR_st A2 g2).imp fun iv H3 ⟨ρ3, h3, i', A3, e3, ri, g3⟩ => by
    split at g3
    · split at g3
      · rename_i ds q
        split at g3
        · rename_i j qj
          cases ri
          cases (ro.ext A2.R e3) with
          | @loc _ l ql =>
            obtain ⟨vs, hv, rs⟩ := A3.R.lst ql q
            have rx3 := (rx.ext A1.R e2).ext A2.R e3
            refine ⟨l, vs, _, j, rfl, rfl, hv, by rw [← rs.length]; exact qj, ?_⟩
            have x4 : Ext ρ3 H3 ρ3 (upd H3 l (.lst (vs.set j v))) := Ext.chg ql
            exact g3 ρ3 σ _ (A3.R.chg ql ⟨_, upd_same, (rs.set rx3 j).ext A3.R x4⟩) x4 (A3.E.ext A3.R x4)
        · exact g3.elim
      · exact g3.elim
    · exact g3.elim
end
/-! ### methods -/
section
variable {K : PySem.W.Frag} {B : WB} {σ : St} {ρ ρ' : List Addr} {H H' : Hp} {h : MH} {env : Env}
def tyM (T : String) (h : MH) (d : D) : Bool := match d with
  | .str _ => T == "str"
  | .rol _ => T == "list"
  | .loc n => match h[n]? with
    | some (.lst _) => T == "list"
    | some (.dic _) => T == "dict"
    | some (.dit _) => T == "dict"
    | _ => false
  | _ => false
theorem tyM_ok {T : String} {d : D} {v : V} (R : HR K ρ h H) (r : RV K ρ H d v) (e : tyM T h d = true) : tyV K T v H := by
  cases r with
  | str s => exact eq_of_beq e
  | @rol a ds vs q rs => exact .inl ⟨eq_of_beq e, vs, q.l⟩
  | @loc n a q =>
    unfold tyM at e
    dsimp only at e
    split at e
    · obtain ⟨vs, hv, _⟩ := R.lst q ‹_›; exact .inl ⟨eq_of_beq e, vs, SqL.lst hv⟩
    · obtain ⟨vs, hv, _⟩ := R.dic q ‹_›; exact .inr (.inr (.inl ⟨eq_of_beq e, .inl ⟨vs, hv⟩⟩))
    · obtain ⟨vs, hv, _⟩ := R.dit q ‹_›; exact .inr (.inr (.inl ⟨eq_of_beq e, .inr ⟨vs, hv⟩⟩))
    · cases e
  | _ => cases e
def MethM (K : PySem.W.Frag) (B : WB) (r : V → List V → Hp → VK → Prop) (f : D → List D → MH → R D) : Prop := ∀ {σ : St} {ρ : List Addr} {h : MH} {H : Hp} {Q : VK} {x : D} {v : V} {xs : List D} {vs : List V}, HR K ρ h H → RV K ρ H x v → RVs K ρ H xs vs → Good K B (rD K) σ ρ H Q (f x xs h) → r v vs H Q
def mMeth (T : String) (f : D → List D → MH → R D) (o : M) (a : MA) : M := fun env h => (o env h).bind fun x h1 => if tyM T h1 x = true then (a env h1).bind fun xs h2 => f x xs h2 else .no
end
section
variable {X : Cx} {B : WB} {o e : Expr} {es : List Expr} {mo me : M} {ms : MA} {pos apos cpos : Pos}
theorem den_bm {T id : String} {name : Str} {r : V → List V → Hp → VK → Prop} {f : D → List D → MH → R D} (hf : MethM X.K B r f) (pa : PlainAttrs T) (slot : Slot T name id) (hty : typeOf (.builtin id) = pure (.type "method_descriptor")) (hm : MtR X id r) (ho : Den X B o mo) (ha : DenA X B (e :: es) ms)
    (p : PE X (.Call (.Attribute o name apos) (e :: es) [] cpos) (tBM X.K T r (tM X.K B mo) (tMs X.K B ms))) : Den X B (.Call (.Attribute o name apos) (e :: es) [] cpos) (mMeth T f mo ms) :=
  PE.imp p fun σ H Q ⟨ρ, h, env, R, E, g⟩ => (tR_bind ⟨R, E⟩ g).imp fun v H1 ⟨ρ1, h1, x, A1, e1, rx, g1⟩ => by
    obtain ⟨ht, g2⟩ := good_if g1
    exact ⟨tyM_ok A1.R rx ht, (tR_bind A1 g2).imp fun vs H2 ⟨ρ2, h2, xs, A2, e2, rs, g3⟩ => hf A2.R (rx.ext A1.R e2) rs g3⟩
theorem den_bm0 {T id : String} {name : Str} {r : V → List V → Hp → VK → Prop} {f : D → List D → MH → R D} (hf : MethM X.K B r f) (p : PE X (.Call (.Attribute o name apos) [] [] cpos) (tBM0 X.K T r (tM X.K B mo))) : Den X B (.Call (.Attribute o name apos) [] [] cpos) (mMeth T f mo aNil) :=
  PE.imp p fun σ H Q ⟨ρ, h, env, R, E, g⟩ => (tR_bind ⟨R, E⟩ g).imp fun v H1 ⟨ρ1, h1, x, A1, e1, rx, g1⟩ => by
    obtain ⟨ht, g2⟩ := good_if g1
    exact ⟨tyM_ok A1.R rx ht, hf A1.R rx .nil g2⟩
end
section
variable {K : PySem.W.Frag} {B : WB} {ρ : List Addr} {H : Hp} {h : MH}
def fAppend (x : D) (xs : List D) (h : MH) : R D := match x, xs with
  | .loc n, [d] => match h[n]? with
    | some (.lst ds) => if ds.length < sizeLine then .ok .non (h.set n (.lst (ds ++ [d]))) else .no
    | _ => .no
  | _, _ => .no
theorem append_ok : MethM K B rAppend fAppend := by
  intro σ ρ h H Q x v xs vs R rx rs g
  unfold fAppend at g
  split at g
  · split at g
    · rename_i ds q
      obtain ⟨hl, g⟩ := good_if g
      obtain ⟨w, rfl, rw'⟩ := rs.one
      cases rx with
      | @loc _ l ql =>
        obtain ⟨ws, hv, r⟩ := R.lst ql q
        have x4 : Ext ρ H ρ (upd H l (.lst (ws ++ [w]))) := Ext.chg ql
        exact ⟨l, ws, w, rfl, rfl, hv, by rw [← r.length]; exact hl, g.ok (R.chg ql ⟨_, upd_same, (r.append (.cons rw' .nil)).ext R x4⟩) x4 .non⟩
    · exact g.elim
  · exact g.elim
def fExtend (x : D) (xs : List D) (h : MH) : R D := match x, xs with
  | .loc n, [.loc m] => match h[n]?, h[m]? with
    | some (.lst ds), some (.lst es) => if ds.length + es.length ≤ sizeLine then .ok .non (h.set n (.lst (ds ++ es))) else .no
    | _, _ => .no
  | _, _ => .no
theorem extend_ok : MethM K B rExtend fExtend := by
  intro σ ρ h H Q x v xs vs R rx rs g
  unfold fExtend at g
  split at g
  · split at g
    · rename_i ds es q q'
      obtain ⟨hl, g⟩ := good_if g
      obtain ⟨w, rfl, rw'⟩ := rs.one
      cases rx with
      | @loc _ l ql =>
        cases rw' with
        | @loc _ l' ql' =>
          obtain ⟨ws, hv, r⟩ := R.lst ql q
          obtain ⟨ws', hv', r'⟩ := R.lst ql' q'
          have x4 : Ext ρ H ρ (upd H l (.lst (ws ++ ws'))) := Ext.chg ql
          exact ⟨l, l', ws, ws', rfl, rfl, hv, hv', by rw [← r.length, ← r'.length]; exact hl, g.ok (R.chg ql ⟨_, upd_same, (r.append r').ext R x4⟩) x4 .non⟩
    · exact g.elim
  · exact g.elim
def fPop (x : D) (xs : List D) (h : MH) : R D := match x, xs with
  | .loc n, [] => match h[n]? with
    | some (.lst ds) => (match ds[ds.length - 1]? with
      | some d => .ok d (h.set n (.lst ds.dropLast))
      | none => .no)
    | _ => .no
  | .loc n, [.int i] => match h[n]? with
    | some (.lst ds) => if -(2 ^ 63) ≤ i ∧ i < 2 ^ 63 then (match seqIndex? i ds.length with
      | some k => (match ds[k]? with
        | some d => .ok d (h.set n (.lst (ds.eraseIdx k)))
        | none => .no)
      | none => .no) else .no
    | _ => .no
  | _, _ => .no
abbrev rPopAll : V → List V → Hp → VK → Prop := fun x vs H Q => rPop x vs H Q ∨ rPopAt x vs H Q
theorem mt_popAll {X : Cx} : MtR X "list.pop" rPopAll := MtR.or mt_pop mt_popAt
theorem RVs.eraseIdx : ∀ {ds : List D} {vs : List V} (i : Nat), RVs K ρ H ds vs → RVs K ρ H (ds.eraseIdx i) (vs.eraseIdx i)
  | _, _, _, .nil => .nil
  | _, _, 0, .cons _ t => t
  | _, _, i + 1, .cons r t => .cons r (RVs.eraseIdx i t)
theorem RVs.dropLast {ds : List D} {vs : List V} (r : RVs K ρ H ds vs) : RVs K ρ H ds.dropLast vs.dropLast := by
  rw [List.dropLast_eq_take, List.dropLast_eq_take, r.length]
  exact r.take _
theorem pop_ok : MethM K B rPopAll fPop := by
  intro σ ρ h H Q x v xs vs R rx rs g
  unfold fPop at g
  split at g
  · split at g
    · rename_i ds q
      split at g
      · rename_i d qd
        cases rs
        cases rx with
        | @loc _ l ql =>
          obtain ⟨ws, hv, r⟩ := R.lst ql q
          obtain ⟨w, h1, h2⟩ := r.get qd
          have x4 : Ext ρ H ρ (upd H l (.lst ws.dropLast)) := Ext.chg ql
          exact .inl ⟨l, ws, w, rfl, rfl, hv, by rw [← r.length]; exact h1, g.ok (R.chg ql ⟨_, upd_same, r.dropLast.ext R x4⟩) x4 (h2.ext R x4)⟩
      · exact g.elim
    · exact g.elim
  · split at g
    · rename_i ds q
      obtain ⟨hl, g⟩ := good_if g
      split at g
      · rename_i k qk
        split at g
        · rename_i d qd
          obtain ⟨w', rfl, rw'⟩ := rs.one
          cases rw'
          cases rx with
          | @loc _ l ql =>
            obtain ⟨ws, hv, r⟩ := R.lst ql q
            obtain ⟨w, h1, h2⟩ := r.get qd
            have x4 : Ext ρ H ρ (upd H l (.lst (ws.eraseIdx k))) := Ext.chg ql
            exact .inr ⟨l, ws, _, k, w, rfl, rfl, hv, hl.1, hl.2, by rw [← r.length]; exact qk, h1, g.ok (R.chg ql ⟨_, upd_same, (r.eraseIdx k).ext R x4⟩) x4 (h2.ext R x4)⟩
        · exact g.elim
      · exact g.elim
    · exact g.elim
  · exact g.elim
/-! texts -/
def fSplit (x : D) (xs : List D) (h : MH) : R D := match x, xs with
  | .str a, [.str b] => if (b.length == 0) = false ∧ a.length + 2 ≤ sizeLine then newL ((Txt.split a b).map D.str) h else .no
  | _, _ => .no
theorem split_ok : MethM K B (fun x xs H Q => ∃ a b, x = .str a ∧ xs = [.str b] ∧ (b.length == 0) = false ∧ a.length + 2 ≤ sizeLine ∧ rNewStrs (Txt.split a b) H Q) fSplit := by
  intro σ ρ h H Q x v xs vs R rx rs g
  unfold fSplit at g
  split at g
  · obtain ⟨hl, g⟩ := good_if g
    obtain ⟨w, rfl, rw'⟩ := rs.one
    cases rx; cases rw'
    exact ⟨_, _, rfl, rfl, hl.1, hl.2, fun p hp => good_newL g R (rvs_strs _) hp⟩
  · exact g.elim
def fPartition (x : D) (xs : List D) (h : MH) : R D := match x, xs with
  | .str a, [.str b] => if (b.length == 0) = false ∧ a.length ≤ sizeLine then .ok (.tup [.str (Txt.partition a b).1, .str (Txt.partition a b).2.1, .str (Txt.partition a b).2.2]) h else .no
  | _, _ => .no
theorem partition_ok : MethM K B (fun x xs H Q => ∃ a b, x = .str a ∧ xs = [.str b] ∧ (b.length == 0) = false ∧ a.length ≤ sizeLine ∧
    ∀ p, H p = none → Q (.ref p) (upd H p (.tup [.str (Txt.partition a b).1, .str (Txt.partition a b).2.1, .str (Txt.partition a b).2.2]))) fPartition := by
  intro σ ρ h H Q x v xs vs R rx rs g
  unfold fPartition at g
  split at g
  · obtain ⟨hl, g⟩ := good_if g
    obtain ⟨w, rfl, rw'⟩ := rs.one
    cases rx; cases rw'
    exact ⟨_, _, rfl, rfl, hl.1, hl.2, fun p hp => good_newT g R (.cons (.str _) (.cons (.str _) (.cons (.str _) .nil))) hp⟩
  · exact g.elim
def fIndex (x : D) (xs : List D) (h : MH) : R D := match x, xs with
  | .str a, [.str b] => match Builtin.Str.occurrences a b 0 a.length 1 with
    | i :: _ => .ok (.int (i : Nat)) h
    | [] => .no
  | _, _ => .no
theorem index_ok : MethM K B (fun x xs H Q => ∃ a b i rest, x = .str a ∧ xs = [.str b] ∧ Builtin.Str.occurrences a b 0 a.length 1 = i :: rest ∧ Q (.int (i : Nat)) H) fIndex := by
  intro σ ρ h H Q x v xs vs R rx rs g
  unfold fIndex at g
  split at g
  · split at g
    · obtain ⟨w, rfl, rv⟩ := rs.one
      cases rx; cases rv
      exact ⟨_, _, _, _, rfl, rfl, ‹_›, g.ok0 R (.int _)⟩
    · exact g.elim
  · exact g.elim
def fStarts (x : D) (xs : List D) (h : MH) : R D := match x, xs with
  | .str a, [.str b] => .ok (.bl (Txt.startswith a b)) h
  | _, _ => .no
theorem starts_ok : MethM K B (fun x xs H Q => ∃ a b, x = .str a ∧ xs = [.str b] ∧ Q (.bl (Txt.startswith a b)) H) fStarts := by
  intro σ ρ h H Q x v xs vs R rx rs g
  unfold fStarts at g
  split at g
  · obtain ⟨w, rfl, rw'⟩ := rs.one
    cases rx; cases rw'
    exact ⟨_, _, rfl, rfl, g.ok0 R (.bl _)⟩
  · exact g.elim
def fJoin (x : D) (xs : List D) (h : MH) : R D := match x, xs with
  | .str a, [d] => match (seqOf h d).bind strsOf with
    | some ys => if (ys.map (·.length)).sum + ys.length * a.length ≤ 16777216 then .ok (.str (Txt.join a ys)) h else .no
    | none => .no
  | _, _ => .no
theorem join_ok : MethM K B (fun x xs H Q => ∃ a p, ∃ ys : List Str, x = .str a ∧ xs = [.ref p] ∧ (SqL K H p (ys.map V.str) ∨ SqT K H p (ys.map V.str)) ∧
    (ys.map (·.length)).sum + ys.length * a.length ≤ 16777216 ∧ Q (.str (Txt.join a ys)) H) fJoin := by
  intro σ ρ h H Q x v xs vs R rx rs g
  unfold fJoin at g
  split at g
  · split at g
    · rename_i d _ ys e
      obtain ⟨hl, g⟩ := good_if g
      obtain ⟨w, rfl, rw'⟩ := rs.one
      cases rx
      cases q : seqOf h d with
      | none => rw [q] at e; cases e
      | some ds =>
        rw [q] at e
        obtain ⟨p, ws, rfl, s, rs'⟩ := seqOf_ok R rw' q
        have ew := strsOf_ok rs' e
        subst ew
        exact ⟨_, p, ys, rfl, rfl, s, hl, g.ok0 R (.str _)⟩
    · exact g.elim
  · exact g.elim
end
end MP
set_option Elab.async false
set_option linter.all false
set_option maxRecDepth 100000
set_option maxHeartbeats 2000000
/-! M7: dicts, f-strings, parallel stores. -/
namespace MP
open PySem PySem.Spec L2
section
variable {κ : Type} [DecidableEq κ]
def dGet (kvs : List (κ × D)) (k : κ) : Option D := (kvs.find? fun kv => decide (kv.1 = k)).map (·.2)
def dPut (kvs : List (κ × D)) (k : κ) (v : D) : List (κ × D) :=
  if (kvs.any fun kv => decide (kv.1 = k)) = true then kvs.map (fun kv => if kv.1 = k then (kv.1, v) else kv) else kvs ++ [(k, v)]
def dMerge (kvs more : List (κ × D)) : List (κ × D) := more.foldl (fun acc kv => dPut acc kv.1 kv.2) kvs
variable {K : PySem.W.Frag} {ρ : List Addr} {H : Hp}
theorem RKs.get (k : κ) : ∀ {ds : List (κ × D)} {vs : List (κ × V)} , RKs K ρ H ds vs → (dGet ds k = none ∧ valV vs k = none) ∨ ∃ d v, dGet ds k = some d ∧ valV vs k = some v ∧ RV K ρ H d v
  | _, _, .nil => .inl ⟨rfl, rfl⟩
  | _, _, @RKs.cons _ _ _ _ k' d v ds vs r t => by
    unfold dGet valV
    by_cases h : k' = k
    · right; exact ⟨d, v, by simp [List.find?_cons, h], by simp [List.find?_cons, h], r⟩
    · have := RKs.get k t
      unfold dGet valV at this
      simpa [List.find?_cons, h] using this
theorem RKs.any (k : κ) : ∀ {ds : List (κ × D)} {vs : List (κ × V)} , RKs K ρ H ds vs → (vs.any fun kv => decide (kv.1 = k)) = ds.any fun kv => decide (kv.1 = k)
  | _, _, .nil => rfl
  | _, _, .cons r t => by simp only [List.any_cons, RKs.any k t]
theorem RKs.app {ds es : List (κ × D)} {vs ws : List (κ × V)} (r : RKs K ρ H ds vs) (s : RKs K ρ H es ws) : RKs K ρ H (ds ++ es) (vs ++ ws) := by
  induction r with
  | nil => exact s
  | cons a b ih => exact .cons a ih
theorem RKs.upd (k : κ) {d : D} {v : V} (q : RV K ρ H d v) : ∀ {ds : List (κ × D)} {vs : List (κ × V)} , RKs K ρ H ds vs → RKs K ρ H (ds.map fun kv => if kv.1 = k then (kv.1, d) else kv) (vs.map fun kv => if kv.1 = k then (kv.1, v) else kv)
  | _, _, .nil => .nil
  | _, _, @RKs.cons _ _ _ _ k' d' v' ds vs r t => by
    rw [List.map_cons, List.map_cons]
    by_cases h : k' = k
    · simp only [h, if_true]; exact .cons q (RKs.upd k q t)
    · simp only [h, if_false]; exact .cons r (RKs.upd k q t)
theorem RKs.put (k : κ) {d : D} {v : V} (q : RV K ρ H d v) {ds : List (κ × D)} {vs : List (κ × V)} (r : RKs K ρ H ds vs) : RKs K ρ H (dPut ds k d) (putK vs k v) := by
  unfold dPut putK
  rw [r.any k]
  split
  · exact r.upd k q
  · exact r.app (.cons q .nil)
theorem RKs.length {ds : List (κ × D)} {vs : List (κ × V)} (r : RKs K ρ H ds vs) : ds.length = vs.length := by
  induction r with
  | nil => rfl
  | cons a b ih => simp [ih]
theorem dPut_len (kvs : List (κ × D)) (k : κ) (v : D) : (dPut kvs k v).length ≤ kvs.length + 1 := by
  unfold dPut; split <;> simp
end
theorem RKs.merge {K : PySem.W.Frag} {ρ : List Addr} {H : Hp} {ds : List (Key × D)} {vs : List (Key × V)} (r : RKs K ρ H ds vs) : ∀ {es : List (Key × D)} {ws : List (Key × V)}, RKs K ρ H es ws → RKs K ρ H (dMerge ds es) (mergeK vs ws) := by
  intro es ws s
  induction s generalizing ds vs with
  | nil => exact r
  | cons a b ih => exact ih (r.put _ a)
/-- a key -/
def kD : D → Option Key
  | .int i => some (.inl i)
  | .str s => some (.inr s)
  | _ => none
def kDs : List D → Option (List Key)
  | [] => some []
  | d :: ds => match kD d, kDs ds with
    | some k, some ks => some (k :: ks)
    | _, _ => none
def dK : Key → D
  | .inl i => .int i
  | .inr s => .str s
section
variable {K : PySem.W.Frag} {ρ : List Addr} {H : Hp}
theorem kD_ok {d : D} {v : V} {k : Key} (r : RV K ρ H d v) (e : kD d = some k) : v = kV k := by
  cases r <;> first | (cases e; rfl) | cases e
theorem kDs_ok : ∀ {ds : List D} {vs : List V} {ks : List Key}, RVs K ρ H ds vs → kDs ds = some ks → vs = ks.map kV
  | _, _, _, .nil, e => by cases e; rfl
  | d :: ds, _, ks, .cons r t, e => by
    simp only [kDs] at e
    cases h1 : kD d with
    | none => rw [h1] at e; simp at e
    | some k =>
      cases h2 : kDs ds with
      | none => rw [h1, h2] at e; simp at e
      | some ks' => rw [h1, h2] at e; simp at e; subst e; rw [kD_ok r h1, kDs_ok t h2]; rfl
end
/-- what stands under a key, if any; none: no such dict, no such key -/
def dLook (h : MH) (d k : D) : Option (Option D) := match d with
  | .loc n => match h[n]? with
    | some (.dic kvs) => (kD k).map fun k => dGet kvs k
    | some (.dit kvs) => (match k with
      | .tup ds => (kDs ds).map fun k => dGet kvs k
      | _ => none)
    | _ => none
  | _ => none
section
variable {K : PySem.W.Frag} {B : WB} {ρ : List Addr} {H : Hp} {h : MH}
theorem dLook_ok {d k : D} {v w : V} {o : Option D} (R : HR K ρ h H) (r : RV K ρ H d v) (rk : RV K ρ H k w) (e : dLook h d k = some o) : ∃ a, v = .ref a ∧ IsD H a ∧ ∃ u, DGet H a w u ∧ ((o = none ∧ u = none) ∨ ∃ x y, o = some x ∧ u = some y ∧ RV K ρ H x y) := by
  cases r with
  | @loc n a q =>
    unfold dLook at e
    dsimp only at e
    split at e
    · rename_i kvs qk
      obtain ⟨vs, hv, rv⟩ := R.dic q qk
      cases q1 : kD k with
      | none => rw [q1] at e; cases e
      | some key =>
        rw [q1] at e
        simp only [Option.map_some, Option.some.injEq] at e
        subst e
        refine ⟨a, rfl, .inl ⟨vs, .inl hv⟩, valV vs key, .inl ⟨vs, key, .inl hv, kD_ok rk q1, rfl⟩, ?_⟩
        rcases rv.get key with ⟨h1, h2⟩ | ⟨x, y, h1, h2, h3⟩
        · exact .inl ⟨h1, h2⟩
        · exact .inr ⟨x, y, h1, h2, h3⟩
    · rename_i kvs qk
      obtain ⟨vs, hv, rv⟩ := R.dit q qk
      split at e
      · rename_i ds
        cases q1 : kDs ds with
        | none => rw [q1] at e; cases e
        | some key =>
          rw [q1] at e
          simp only [Option.map_some, Option.some.injEq] at e
          subst e
          cases rk with
          | @tup b _ ws eb rs =>
            have := kDs_ok rs q1
            subst this
            refine ⟨a, rfl, .inr ⟨vs, .inl hv⟩, valV vs key, .inr ⟨vs, key, b, .inl hv, rfl, eb, rfl⟩, ?_⟩
            rcases rv.get key with ⟨h1, h2⟩ | ⟨x, y, h1, h2, h3⟩
            · exact .inl ⟨h1, h2⟩
            · exact .inr ⟨x, y, h1, h2, h3⟩
      · cases e
    · cases e
  | _ => cases e
end
def fDGet (d k : D) (h : MH) : R D := match dLook h d k with
  | some (some x) => .ok x h
  | _ => .no
def fDIn (k d : D) (h : MH) : R D := match dLook h d k with
  | some o => .ok (.bl o.isSome) h
  | _ => .no
def fDNotIn (k d : D) (h : MH) : R D := match dLook h d k with
  | some o => .ok (.bl (!o.isSome)) h
  | _ => .no
section
variable {X : Cx} {B : WB} {a b e o i : Expr} {ma mb me mo mi : M} {ms : MA} {pos p2 apos cpos : Pos}
theorem den_dget (hu : X.A.units + 1 < cLine) (ha : Den X B a ma) (hb : Den X B b mb) (hs : NoSl b := by intro _ _; rfl) : Den X B (.Subscript a b pos) (mBin fDGet ma mb) :=
  PE.imp (pe_dget hu ha hb hs) fun σ H Q ⟨ρ, h, env, R, E, g⟩ => (tR_bind ⟨R, E⟩ g).imp fun v H1 ⟨ρ1, h1, x, A1, e1, rx, g1⟩ => (tR_bind A1 g1).imp fun w H2 ⟨ρ2, h2, y, A2, e2, ry, g2⟩ => by
    unfold fDGet at g2
    split at g2
    · rename_i d q
      obtain ⟨a, rfl, _, u, hu, hh⟩ := dLook_ok A2.R (rx.ext A1.R e2) ry q
      rcases hh with ⟨h1, _⟩ | ⟨x', y', h1, h2, h3⟩
      · cases h1
      · cases h1; subst h2
        exact ⟨a, y', rfl, hu, g2.ok0 A2.R h3⟩
    · exact g2.elim
theorem den_din (hu : X.A.units + 1 < cLine) (ha : Den X B a ma) (hb : Den X B b mb) (h1 : behindInMarks .In b = false := by first | exact nobehind _ (by decide) (by decide) | rfl) : Den X B (.Compare a [.In] [b] pos) (mBin fDIn ma mb) :=
  PE.imp (pe_cmp (pc_din hu ha hb) h1) fun σ H Q ⟨ρ, h, env, R, E, g⟩ => (tR_bind ⟨R, E⟩ g).imp fun v H1 ⟨ρ1, h1, x, A1, e1, rx, g1⟩ => (tR_bind A1 g1).imp fun w H2 ⟨ρ2, h2, y, A2, e2, ry, g2⟩ => by
    unfold fDIn at g2
    split at g2
    · rename_i d q
      obtain ⟨a, rfl, _, u, hu, hh⟩ := dLook_ok A2.R ry (rx.ext A1.R e2) q
      refine ⟨a, u, rfl, hu, ?_⟩
      have : u.isSome = d.isSome := by
        rcases hh with ⟨h1, h2⟩ | ⟨x', y', h1, h2, h3⟩ <;> rw [h1, h2] <;> rfl
      rw [this]
      exact g2.ok0 A2.R (.bl _)
    · exact g2.elim
theorem dent_din (hu : X.A.units + 1 < cLine) (ha : Den X B a ma) (hb : Den X B b mb) (h1 : behindInMarks .In b = false := by first | exact nobehind _ (by decide) (by decide) | rfl) : DenT X B (.Compare a [.In] [b] pos) (mTest (mBin fDIn ma mb)) :=
  PT.imp (pt_cmp (pc_din hu ha hb) h1) fun σ H Q t => by
    have t2 := test_imp σ H Q t
    obtain ⟨ρ, h, env, R, E, g⟩ := t2
    exact (tR_bind ⟨R, E⟩ g).imp fun v H1 ⟨ρ1, h1, x, A1, e1, rx, g1⟩ => (tR_bind A1 g1).imp fun w H2 ⟨ρ2, h2, y, A2, e2, ry, g2⟩ => by
      unfold fDIn at g2
      split at g2
      · rename_i d q
        obtain ⟨a, rfl, _, u, hu, hh⟩ := dLook_ok A2.R ry (rx.ext A1.R e2) q
        refine ⟨a, u, rfl, hu, ?_⟩
        have : u.isSome = d.isSome := by
          rcases hh with ⟨h1, h2⟩ | ⟨x', y', h1, h2, h3⟩ <;> rw [h1, h2] <;> rfl
        rw [this]
        exact g2.ok0 A2.R (.bl _)
      · exact g2.elim
/-! ### d[k] = v -/
def sDPutM (mv mo mi : M) : S := fun env h => (mv env h).st env fun v h1 => (mo env h1).st env fun o h2 => (mi env h2).st env fun k h3 => match o with
  | .loc n => (match h3[n]? with
    | some (.dic kvs) => (match kD k with
      | some key => if kvs.length < sizeLine then .nx env (h3.set n (.dic (dPut kvs key v))) else .no
      | none => .no)
    | some (.dit kvs) => (match k with
      | .tup ds => (match kDs ds with
        | some key => if kvs.length < sizeLine then .nx env (h3.set n (.dit (dPut kvs key v))) else .no
        | none => .no)
      | _ => .no)
    | _ => .no)
  | _ => .no
theorem good_ifS {K : PySem.W.Frag} {ρ : List Addr} {H : Hp} {σ : St} {D : Ends} {p : Prop} [Decidable p] {r : RS} (g : GoodS K B D σ ρ H (if p then r else .no)) : p ∧ GoodS K B D σ ρ H r := by
  split at g
  · exact ⟨‹_›, g⟩
  · exact g.elim
theorem dens_dput {pos' : Pos} (hu : X.A.units + 1 < cLine) (ho : Den X B o mo) (hi : Den X B i mi) (hv : Den X B e me) (hs : swapsWith e (some (.Subscript o i pos')) pos.line X.env = pure false := by rfl) : DenS X B (.Assign [.Subscript o i pos'] e pos) (sDPutM me mo mi) :=
  PS.imp (ps_dput hu ho hi hv hs) fun D σ H ⟨ρ, h, env, R, E, g⟩ => (tR_st ⟨R, E⟩ g).imp fun v H1 ⟨ρ1, h1, x, A1, e1, rx, g1⟩ => (tR_st A1 g1).imp fun ov H2 ⟨ρ2, h2, o', A2, e2, ro, g2⟩ => (tR_st A2 g2).imp fun kv H3 ⟨ρ3, h3, k', A3, e3, rk, g3⟩ => by
    have rx3 := (rx.ext A1.R e2).ext A2.R e3
    have ro3 := ro.ext A2.R e3
    split at g3
    · split at g3
      · rename_i kvs q
        split at g3
        · rename_i key qk
          obtain ⟨hl, g3⟩ := good_ifS g3
          cases ro3 with
          | @loc _ l ql =>
            obtain ⟨vs, hv, rs⟩ := A3.R.dic ql q
            have x4 : Ext ρ3 H3 ρ3 (upd H3 l (.dK (putK vs key v))) := Ext.chg ql
            refine ⟨l, _, rfl, .inl ⟨vs, key, hv, kD_ok rk qk, by rw [← rs.length]; exact hl, rfl⟩, ?_⟩
            exact g3 ρ3 σ _ (A3.R.chg ql ⟨_, upd_same, (rs.put key rx3).kp (A3.R.kp x4)⟩) x4 (A3.E.ext A3.R x4)
        · exact g3.elim
      · rename_i kvs q
        split at g3
        · split at g3
          · rename_i ds key qk
            obtain ⟨hl, g3⟩ := good_ifS g3
            cases ro3 with
            | @loc _ l ql =>
              cases rk with
              | @tup b _ ws eb rks =>
                have := kDs_ok rks qk
                subst this
                obtain ⟨vs, hv, rs⟩ := A3.R.dit ql q
                have x4 : Ext ρ3 H3 ρ3 (upd H3 l (.dT (putK vs key v))) := Ext.chg ql
                refine ⟨l, _, rfl, .inr ⟨vs, key, b, hv, rfl, eb, by rw [← rs.length]; exact hl, rfl⟩, ?_⟩
                exact g3 ρ3 σ _ (A3.R.chg ql ⟨_, upd_same, (rs.put key rx3).kp (A3.R.kp x4)⟩) x4 (A3.E.ext A3.R x4)
          · exact g3.elim
        · exact g3.elim
      · exact g3.elim
    · exact g3.elim
/-! ### {} and {k: v, ..} -/
def mDNew : M := fun _ h => .ok (.loc h.length) (h ++ [.dic []])
def mTNew : M := fun _ h => .ok (.loc h.length) (h ++ [.dit []])
theorem den_dnew : Den X B (.Dict [] [] pos) mDNew := PE.imp pe_dnewK fun σ H Q ⟨ρ, h, env, R, E, g⟩ => fun p hp => g.ok (R.newL hp ⟨_, upd_same, .nil⟩) (Ext.newL hp) (rv_newL R)
theorem den_tnew : Den X B (.Dict [] [] pos) mTNew := PE.imp pe_dnewT fun σ H Q ⟨ρ, h, env, R, E, g⟩ => fun p hp => g.ok (R.newL hp ⟨_, upd_same, .nil⟩) (Ext.newL hp) (rv_newL R)
def dPairs : List (M × M) → Env → MH → R (List (D × D))
  | [], _, h => .ok [] h
  | p :: ps, env, h => (p.1 env h).bind fun x h1 => (p.2 env h1).bind fun y h2 => (dPairs ps env h2).bind fun r h3 => .ok ((x, y) :: r) h3
def keysOf : List (D × D) → Option (List (Key × D))
  | [] => some []
  | p :: r => match kD p.1, keysOf r with
    | some k, some ks => some ((k, p.2) :: ks)
    | _, _ => none
def mDisp (mps : List (M × M)) : M := fun env h => (dPairs mps env h).bind fun ps h1 => match keysOf ps with
  | some kvs => if kvs.length ≤ 15 then .ok (.loc h1.length) (h1 ++ [.dic (dMerge [] kvs)]) else .no
  | none => .no
abbrev trP (K : PySem.W.Frag) (B : WB) (mps : List (M × M)) : List (TE × TE) := mps.map fun p => (tM K B p.1, tM K B p.2)
abbrev DenPs (X : Cx) (B : WB) (pos : Pos) (ks : List (Option Expr)) (vs : List Expr) (mps : List (M × M)) := PPs X pos ks vs (trP X.K B mps)
theorem denps_nil : DenPs X B pos [] [] [] := pps_nil
theorem denps_cons {k v : Expr} {ks : List (Option Expr)} {vs : List Expr} {mk mv : M} {mps : List (M × M)} (hk : Den X B k mk) (hv : Den X B v mv) (hr : DenPs X B pos ks vs mps) : DenPs X B pos (some k :: ks) (v :: vs) ((mk, mv) :: mps) := pps_cons hk hv hr
inductive RPs (K : PySem.W.Frag) (ρ : List Addr) (H : Hp) : List (D × D) → List (V × V) → Prop where
  | nil : RPs K ρ H [] []
  | cons {a b : D} {v w : V} {ds : List (D × D)} {vs : List (V × V)} (r : RV K ρ H a v) (s : RV K ρ H b w) (t : RPs K ρ H ds vs) : RPs K ρ H ((a, b) :: ds) ((v, w) :: vs)
theorem RPs.keys {K : PySem.W.Frag} {ρ : List Addr} {H : Hp} : ∀ {ds : List (D × D)} {vs : List (V × V)} {kvs : List (Key × D)}, RPs K ρ H ds vs → keysOf ds = some kvs → ∃ ws, vs = ws.map (fun kv => (kV kv.1, kv.2)) ∧ RKs K ρ H kvs ws
  | _, _, _, .nil, e => by cases e; exact ⟨[], rfl, .nil⟩
  | _, _, kvs, @RPs.cons _ _ _ a b v w ds vs r s t, e => by
    simp only [keysOf] at e
    cases h1 : kD a with
    | none => rw [h1] at e; simp at e
    | some k =>
      cases h2 : keysOf ds with
      | none => rw [h1, h2] at e; simp at e
      | some ks =>
        rw [h1, h2] at e; simp at e; subst e
        obtain ⟨ws, rfl, q⟩ := RPs.keys t h2
        exact ⟨(k, w) :: ws, by rw [kD_ok r h1]; rfl, .cons s q⟩
theorem tR_bindA {K : PySem.W.Frag} {σ : St} {α β γ δ : Type} {rel : Rel α β} {rel' : Rel γ δ} {P : δ → Hp → Prop} {ρ0 ρ : List Addr} {h : MH} {H0 H : Hp} {env : Env} {m : Env → MH → R α} {k : α → MH → R γ} (A : At K ρ h H env σ) (x0 : Ext ρ0 H0 ρ H) (g : Good K B rel' σ ρ0 H0 P ((m env h).bind k)) :
    tR K B rel m σ H (fun v H1 => ∃ ρ1 h1 x, At K ρ1 h1 H1 env σ ∧ Ext ρ H ρ1 H1 ∧ rel ρ1 H1 x v ∧ Good K B rel' σ ρ0 H0 P (k x h1)) := by
  refine ⟨ρ, h, env, A.R, A.E, ?_⟩
  cases e : m env h with
  | ok d h' => rw [e] at g; exact fun ρ' v H' a b c => ⟨ρ', h', d, ⟨a, A.E.ext A.R b⟩, b, c, g⟩
  | er c d h' => rw [e] at g; exact fun ρ' y dx H' a b c e => g ρ' y dx H' a (x0.trans b) c e
  | no => rw [e] at g; exact g
theorem pairs_imp {K : PySem.W.Frag} {σ : St} {γ δ : Type} {rel' : Rel γ δ} {P : δ → Hp → Prop} {ρ0 : List Addr} {H0 : Hp} : ∀ (mps : List (M × M)) {ρ : List Addr} {h : MH} {H : Hp} {env : Env} {k : List (D × D) → MH → R γ}, At K ρ h H env σ → Ext ρ0 H0 ρ H → Good K B rel' σ ρ0 H0 P ((dPairs mps env h).bind k) →
    tPairs (trP K B mps) σ H fun ps H1 => ∃ ρ1 h1 xs, At K ρ1 h1 H1 env σ ∧ Ext ρ H ρ1 H1 ∧ RPs K ρ1 H1 xs ps ∧ Good K B rel' σ ρ0 H0 P (k xs h1)
  | [], ρ, h, H, env, k, A, _, g => ⟨ρ, h, [], A, Ext.refl, .nil, g⟩
  | p :: ps, ρ, h, H, env, k, A, x0, g => by
    unfold dPairs at g
    rw [MP.R.bind_assoc] at g
    refine (tR_bindA A x0 g).imp fun v H1 ⟨ρ1, h1, x, A1, e1, rx, g1⟩ => ?_
    rw [MP.R.bind_assoc] at g1
    refine (tR_bindA A1 (x0.trans e1) g1).imp fun w H2 ⟨ρ2, h2, y, A2, e2, ry, g2⟩ => ?_
    rw [MP.R.bind_assoc] at g2
    have := pairs_imp ps (k := fun r h3 => (MP.R.ok ((x, y) :: r) h3).bind k) A2 ((x0.trans e1).trans e2) g2
    refine tPairs_mono this fun qs H3 ⟨ρ3, h3, xs, A3, e3, rs, g3⟩ => ⟨ρ3, h3, (x, y) :: xs, A3, (e1.trans e2).trans e3, .cons ((rx.ext A1.R e2).ext A2.R e3) (ry.ext A2.R e3) rs, g3⟩
where
  tPairs_mono : ∀ {trs : List (M × M)} {σ : St} {H : Hp} {Q Q' : List (V × V) → Hp → Prop}, tPairs (trP K B trs) σ H Q → (∀ ps H, Q ps H → Q' ps H) → tPairs (trP K B trs) σ H Q'
    | [], _, _, _, _, t, f => f _ _ t
    | p :: ps, _, _, _, _, t, f => tR.imp t fun v H1 t1 => tR.imp t1 fun w H2 t2 => tPairs_mono t2 fun qs H3 => f _ _
theorem den_disp {keys : List (Option Expr)} {values : List Expr} {mps : List (M × M)} (h : DenPs X B pos keys values mps) (hall : keys.all (·.isSome) = true := by rfl) (hl : keys.length = values.length := by rfl) (h0 : keys ≠ [] := by intro z; cases z) (h15 : keys.length ≤ 15 := by decide) : Den X B (.Dict keys values pos) (mDisp mps) :=
  PE.imp (pe_disp h hall hl h0 h15) fun σ H Q ⟨ρ, h, env, R, E, g⟩ => fun p hp => by
    have R1 := R.new (o := .dK []) hp
    have x1 : Ext ρ H ρ (upd H p (.dK [])) := Ext.new hp
    have hn : p ∉ ρ := fun ha => by
      obtain ⟨o, q⟩ := R.has ha
      rw [hp] at q; cases q
    have t := pairs_imp mps ⟨R1, E.ext R x1⟩ x1 g
    refine pairs_imp.tPairs_mono t fun ps H2 ⟨ρ2, h2, xs, A2, e2, rs, g2⟩ => ?_
    split at g2
    · rename_i kvs q
      obtain ⟨hl', g3⟩ := good_if g2
      obtain ⟨ws, rfl, rk⟩ := rs.keys q
      have hp2 : H2 p = some (.dK []) := e2.keep p _ upd_same hn
      have hn2 : p ∉ ρ2 := e2.notin upd_same hn
      have t1 : ∀ xs, H2 p ≠ some (.tup xs) := fun xs z => by rw [hp2] at z; cases z
      have t2 : (∀ ob xs, H2 p ≠ some (.frz ob (.lst xs))) ∧ ∀ x fs o, XO x fs o → H2 p ≠ some o := ⟨fun ob xs z => (by rw [hp2] at z; cases z), fun x fs o xo z => by rw [hp2] at z; exact xo_dK xo (Option.some.inj z).symm⟩
      refine ⟨hp2, ws, rfl, by rw [← rk.length]; exact hl', ?_⟩
      have kp3 := kp_adopt (K := X.K) (ρ := ρ2) (p := p) (o := .dK (mergeK [] ws)) t1 t2
      have R3 := A2.R.adopt (o := .dK (mergeK [] ws)) (mo := .dic (dMerge [] kvs)) hn2 t1 t2 ⟨_, upd_same, (RKs.merge .nil rk).kp kp3⟩
      exact Good.ok g3 R3 ((x1.trans e2).adopt hp) (rv_newL A2.R)
    · exact g2.elim
end

/-! ### dict(list of pairs), d.update(e), d.get(k) -/
section
variable {K : PySem.W.Frag} {B : WB} {ρ : List Addr} {H : Hp} {h : MH}
def pairsOf : List D → Option (List (Key × D))
  | [] => some []
  | .tup [k, v] :: r => (match kD k, pairsOf r with
    | some k, some ks => some ((k, v) :: ks)
    | _, _ => none)
  | _ => none
theorem pairsOf_ok : ∀ {ds : List D} {vs : List V} {kvs : List (Key × D)}, RVs K ρ H ds vs → pairsOf ds = some kvs → ∃ (ps : List Addr) (ws : List (Key × V)), vs = ps.map V.ref ∧ Paired (fun p kv => SqT K H p [kV kv.1, kv.2]) ps ws ∧ RKs K ρ H kvs ws
  | _, _, _, .nil, e => by cases e; exact ⟨[], [], rfl, .nil, .nil⟩
  | d :: ds, _, kvs, .cons r t, e => by
    cases r with
    | @tup a es vs ea rs =>
      match es, rs, e with
      | [k, v], rs, e =>
        simp only [pairsOf] at e
        cases h1 : kD k with
        | none => rw [h1] at e; simp at e
        | some key =>
          cases h2 : pairsOf ds with
          | none => rw [h1, h2] at e; simp at e
          | some ks =>
            rw [h1, h2] at e; simp at e; subst e
            obtain ⟨ps, ws, rfl, q, rk⟩ := pairsOf_ok t h2
            obtain ⟨kv, vv, rfl, rkv, rvv⟩ := rs.two
            have := kD_ok rkv h1
            subst this
            exact ⟨a :: ps, (key, vv) :: ws, rfl, .cons (SqT.tup ea) q, .cons rvv rk⟩
      | [], _, e => cases e
      | [_], _, e => cases e
      | _ :: _ :: _ :: _, _, e => cases e
    | _ => cases e
def bDict : List D → MH → R D
  | [d], h => match (lstOf h d).bind pairsOf with
    | some kvs => .ok (.loc h.length) (h ++ [.dic (dMerge [] kvs)])
    | none => match d with
      | .loc n => (match h[n]? with
        | some (.dic kvs) => .ok (.loc h.length) (h ++ [.dic kvs])
        | _ => .no)
      | _ => .no
  | _, _ => .no
abbrev rDictAll (K : PySem.W.Frag) : List V → Hp → VK → Prop := fun xs H Q => (∃ (a : Addr) (ps : List Addr) (kvs : List (Key × V)), xs = [.ref a] ∧ SqL K H a (ps.map V.ref) ∧ Paired (fun p kv => SqT K H p [kV kv.1, kv.2]) ps kvs ∧ ∀ p, H p = none → Q (.ref p) (upd H p (.dK (mergeK [] kvs)))) ∨
  (∃ (a : Addr) (kvs : List (Key × V)), xs = [.ref a] ∧ Rd H a (.dK kvs) ∧ ∀ p, H p = none → Q (.ref p) (upd H p (.dK kvs)))
theorem call_dictAll {X : Cx} (hc : X.calm = true) : CallR X (.type "dict") (rDictAll X.K) := CallR.or (call_dictP hc) call_dictD
theorem dict_ok : CallM K B (rDictAll K) bDict := by
  intro σ ρ h H Q xs vs R r g
  unfold bDict at g
  split at g
  · rename_i d
    obtain ⟨v, rfl, rv⟩ := r.one
    split at g
    · rename_i kvs e
      cases q : lstOf h d with
      | none => rw [q] at e; cases e
      | some ds =>
        rw [q] at e
        obtain ⟨a, us, rfl, s, rs⟩ := lstOf_ok R rv q
        obtain ⟨ps, ws, rfl, hp, rk⟩ := pairsOf_ok rs e
        exact .inl ⟨a, ps, ws, rfl, s, hp, fun p hn => g.ok (R.newL hn ⟨_, upd_same, (RKs.merge .nil rk).kp (R.kp (Ext.newL hn))⟩) (Ext.newL hn) (rv_newL R)⟩
    · split at g
      · split at g
        · rename_i n _ kvs e
          cases rv with
          | @loc _ a q =>
            obtain ⟨ws, hw, rk⟩ := R.dic q ‹_›
            exact .inr ⟨a, ws, rfl, .inl hw, fun p hn => g.ok (R.newL hn ⟨_, upd_same, rk.kp (R.kp (Ext.newL hn))⟩) (Ext.newL hn) (rv_newL R)⟩
        · exact g.elim
      · exact g.elim
  · exact g.elim
def fUpdate (x : D) (xs : List D) (h : MH) : R D := match x, xs with
  | .loc n, [.loc m] => match h[n]?, h[m]? with
    | some (.dic ks), some (.dic ls) => if n ≠ m ∧ ks.length + ls.length ≤ sizeLine then .ok .non (h.set n (.dic (dMerge ks ls))) else .no
    | _, _ => .no
  | _, _ => .no
def rDUpd : V → List V → Hp → VK → Prop := fun x xs H Q => ∃ a b kvs more, x = .ref a ∧ xs = [.ref b] ∧ a ≠ b ∧ H a = some (.dK kvs) ∧ H b = some (.dK more) ∧ kvs.length + more.length ≤ sizeLine ∧ Q .non (upd H a (.dK (mergeK kvs more)))
theorem mt_dupd {X : Cx} : MtR X "dict.update" rDUpd := by
  intro pins s σ H x xs v us Q I rx rs h
  obtain ⟨a, b, kvs, more, rfl, rfl, hne, ha, hb, hl, q⟩ := h
  obtain ⟨u, rfl, ru⟩ := vals1 rs
  obtain rfl : v = Value.ref a := rx
  obtain rfl : u = Value.ref b := ru
  obtain ⟨z, hd, vs, rel, dd⟩ := dk_of I.hok ha
  obtain ⟨z', hd', vs', rel', dd'⟩ := dk_of I.hok hb
  refine call_meetsIn PySem.F.slot_dict_update dd.typeIs PySem.F.entry_dict_update (PySem.F.args_dict_update_2 _ _) (meets_dict_update (mixKind X.prog X.w) a b hne hd') ⟨vs, vs', dd, dd', by rw [← rel.length, ← rel'.length]; exact hl, fun h' d1 d2 hs => ?_⟩
  have he : ∃ q, h'.get? a = some q := let ⟨q, _, _, hq, _⟩ := d1; ⟨q, hq⟩
  exact ⟨.non, _, d_write (t' := s.toks) I (by rw [ha]; exact True.intro) hs he (dk_new (Nat.le_trans (length_mergeK _ _) hl) hd (KV.merge rel' rel) d1), rfl, q⟩
theorem update_ok : MethM K B rDUpd fUpdate := by
  intro σ ρ h H Q x v xs vs R rx rs g
  unfold fUpdate at g
  split at g
  · split at g
    · rename_i n m _ ks ls q q'
      obtain ⟨⟨hne, hl⟩, g⟩ := good_if g
      obtain ⟨w, rfl, rw'⟩ := rs.one
      cases rx with
      | @loc _ l ql =>
        cases rw' with
        | @loc _ l' ql' =>
          obtain ⟨ws, hv, r⟩ := R.dic ql q
          obtain ⟨ws', hv', r'⟩ := R.dic ql' q'
          have x4 : Ext ρ H ρ (upd H l (.dK (mergeK ws ws'))) := Ext.chg ql
          refine ⟨l, l', ws, ws', rfl, rfl, fun z => ?_, hv, hv', by rw [← r.length, ← r'.length]; exact hl, g.ok (R.chg ql ⟨_, upd_same, (r.merge r').kp (R.kp x4)⟩) x4 .non⟩
          subst z
          have h1 := (List.getElem?_eq_some_iff.mp ql)
          have h2 := (List.getElem?_eq_some_iff.mp ql')
          exact hne ((List.getElem_inj R.nd).mp (h1.2.trans h2.2.symm))
    · exact g.elim
  · exact g.elim
end
/-! ### f-strings -/
def fFmt (d : D) (h : MH) : R D := match d with
  | .str y => if y.length ≤ sizeLine then .ok (.str y) h else .no
  | .int i => if i.natAbs.log2 < 1920 then .ok (.str (toString i)) h else .no
  | _ => .no
def mFmt (m : M) : M := fun env h => (m env h).bind fFmt
def mJs : List M → Str → M
  | [], acc => fun _ h => .ok (.str acc) h
  | m :: ms, acc => fun env h => (m env h).bind fun x h1 => match x with
    | .str y => if (acc ++ y).length ≤ sizeLine then mJs ms (acc ++ y) env h1 else .no
    | _ => .no
section
variable {X : Cx} {B : WB} {e : Expr} {es : List Expr} {me : M} {mes : List M} {pos : Pos}
theorem den_fmt (he : Den X B e me) : Den X B (.FormattedValue e (-1) none pos) (mFmt me) := PE.imp (pe_fmt he) fun σ H Q ⟨ρ, h, env, R, E, g⟩ => (tR_bind ⟨R, E⟩ g).imp fun v H1 ⟨ρ1, h1, x, A1, e1, rx, g1⟩ => by
  unfold fFmt at g1
  split at g1
  · obtain ⟨hl, g2⟩ := good_if g1
    cases rx; exact .inl ⟨_, rfl, hl, g2.ok0 A1.R (.str _)⟩
  · obtain ⟨hl, g2⟩ := good_if g1
    cases rx; exact .inr ⟨_, rfl, hl, g2.ok0 A1.R (.str _)⟩
  · exact g1.elim
abbrev DenJ (X : Cx) (B : WB) (es : List Expr) (ms : List M) := PJ X es (ms.map (tM X.K B))
theorem denj_nil : DenJ X B [] [] := .nil
theorem denj_cons (h : Den X B e me) (r : DenJ X B es mes) : DenJ X B (e :: es) (me :: mes) := .cons h r
theorem js_imp {K : PySem.W.Frag} {σ : St} {Q : VK} : ∀ (ms : List M) {acc : Str} {ρ : List Addr} {h : MH} {H : Hp} {env : Env}, At K ρ h H env σ → Good K B (rD K) σ ρ H Q (mJs ms acc env h) → tJs (ms.map (tM K B)) acc σ H fun out H1 => Q (.str out) H1
  | [], acc, ρ, h, H, env, A, g => g.ok0 A.R (.str _)
  | m :: ms, acc, ρ, h, H, env, A, g => (tR_bind A g).imp fun v H1 ⟨ρ1, h1, x, A1, e1, rx, g1⟩ => by
    split at g1
    · obtain ⟨hl, g2⟩ := good_if g1
      cases rx; exact ⟨_, rfl, hl, js_imp ms A1 g2⟩
    · exact g1.elim
theorem den_js {v1 v2 : Expr} {rest : List Expr} (h : DenJ X B (v1 :: v2 :: rest) mes) : Den X B (.JoinedStr (v1 :: v2 :: rest) pos) (mJs mes Str.empty) := PE.imp (pe_joined h) fun σ H Q ⟨ρ, h, env, R, E, g⟩ => js_imp mes ⟨R, E⟩ g
theorem den_js1 (h : Den X B e me) : Den X B (.JoinedStr [e] pos) me := pe_joined1 h
/-! ### a, b = e1, e2 -/
def sPar (i j : Nat) (a b : M) : S := fun env h => (a env h).st env fun x h1 => (b env h1).st env fun y h2 => .nx ((env.set i (some x)).set j (some y)) h2
theorem dens_par {i j : Nat} {x y : Str} {a b : Expr} {ma mb : M} {px py pt : Pos} {kt k2 pt2} (hc : X.calm = true) (hN : X.N.Nodup) (hi : X.N[i]? = some x) (hj : X.N[j]? = some y) (hij : i ≠ j)
    (hx : X.env.scope.names.lookup x = some .local) (hy : X.env.scope.names.lookup y = some .local) (ha : DenA X B [a, b] (aCons ma (aCons mb aNil)))
    (hw : swappedStores [.Tuple [.Name x px, .Name y py] kt pt] (.Tuple [a, b] k2 pt2) X.env = pure (some [x, y]))
    (p : PS X (.Assign [.Tuple [.Name x px, .Name y py] kt pt] (.Tuple [a, b] k2 pt2) pos) (tPar i j (tMs X.K B (aCons ma (aCons mb aNil))))) :
    DenS X B (.Assign [.Tuple [.Name x px, .Name y py] kt pt] (.Tuple [a, b] k2 pt2) pos) (sPar i j ma mb) :=
  PS.imp p fun D σ H ⟨ρ, h, env, R, E, g⟩ => by
    have g' : GoodS X.K B D σ ρ H ((aCons ma (aCons mb aNil) env h).st env fun xs h2 => match xs with
      | [x, y] => .nx ((env.set i (some x)).set j (some y)) h2
      | _ => .no) := by
      cases q1 : ma env h with
      | ok x h1 =>
        cases q2 : mb env h1 with
        | ok y h2 => simp only [sPar, aCons, aNil, q1, q2, MP.R.bind_ok, MP.R.st_ok] at g ⊢; exact g
        | er c d h' => simp only [sPar, aCons, aNil, q1, q2, MP.R.bind_ok, MP.R.bind_er, MP.R.st_ok, MP.R.st_er] at g ⊢; exact g
        | no => simp only [sPar, aCons, aNil, q1, q2, MP.R.bind_ok, MP.R.bind_no, MP.R.st_ok, MP.R.st_no] at g ⊢; exact g
      | er c d h' => simp only [sPar, aCons, aNil, q1, MP.R.bind_er, MP.R.st_er] at g ⊢; exact g
      | no => simp only [sPar, aCons, aNil, q1, MP.R.bind_no, MP.R.st_no] at g ⊢; exact g
    exact (tR_st ⟨R, E⟩ g').imp fun vs H1 ⟨ρ1, h1, xs, A1, e1, rs, g1⟩ => by
      split at g1
      · obtain ⟨v, w, rfl, rv, rw'⟩ := rs.two
        exact ⟨v, w, rfl, g1 ρ1 _ H1 A1.R Ext.refl ((A1.E.set i rv).set j rw')⟩
      · exact g1.elim
end
end MP
set_option Elab.async false
set_option linter.all false
set_option maxRecDepth 100000
set_option maxHeartbeats 2000000
/-! M8: the promise of a def by its name; calls by name, by a slot. -/
namespace MP
open PySem PySem.Spec L2
open PyProof.Rows (envOfC)
/-- the module's def x keeps the promise F -/
structure Ok (P : Program) (w : World) (K : PySem.W.Frag) (mg : Str → Option Value) (base : Heap) (k : Nat) (x : Str) (n : Nat) (F : List D → MH → R D) : Prop where
  ex : ∃ fd ps, FnG P w K mg base k (He.ga K x) fd ps (spF K n F) ∧ Binds K fd ps []
  kp : PySem.W.keepIn K (.ref (He.ga K x)) = true
  gl : mg x = some (.ref (He.ga K x))
theorem Ok.mono {P : Program} {w : World} {K : PySem.W.Frag} {mg : Str → Option Value} {base : Heap} {j k : Nat} {x : Str} {n : Nat} {F : List D → MH → R D} (o : Ok P w K mg base j x n F) (h : j ≤ k) : Ok P w K mg base k x n F := by
  obtain ⟨⟨fd, ps, G, b⟩, kp, gl⟩ := o
  exact ⟨⟨fd, ps, G.mono h, b⟩, kp, gl⟩
section
variable {P : Program} {w : World} {K : PySem.W.Frag} {mg : Str → Option Value} {base h : Heap}
theorem ok_mk {x : Str} {st : Stmt} {N ps : List Str} {k n : Nat} {s : S} (KX : K.In h) (G : h.Ns mainGlobals mg) (g : (He.Fa.glo x).ok K = true) (Fd : ∃ fd, FunD K x x (defArgs st) (defBody st) (defScope st) [] [] (He.ga K x) fd)
    (Sc : FnScope N ps (defScope st)) (hn : ps.length = n)
    (hbind : ∀ (kV doc pm : Value) (an : Option Addr) (cdv ct : Value) (us : List Value), us.length = ps.length → bindArgs (PySem.W.fnOf x x (defArgs st) (defBody st) (defScope st) .none kV doc pm an cdv ct) ⟨us, []⟩ = pure (ps.zip us))
    (hb : ∀ (cdv : Value) (A : Around) (outer : List PySem.Env) (s' : Shared) (H : Hp) (E : XK), RoomG k (A.deeper (envOfC x (defScope st) s'.heap.objs.size (He.ga K x) cdv)) → DenSs (cxOf CX0 P w K mg base N x (defScope st) (He.ga K x) cdv A outer s' H E).nox B0 (defBody st) s) :
    Ok P w K mg base (k + 1) x n (denF N.length s) := by
  obtain ⟨fd, F⟩ := Fd
  subst hn
  exact ⟨⟨fd, ps, fn_ok F Sc hb, F.bindsN hbind⟩, F.kp, He.glo_ok KX G g⟩
end
section
variable {X : Cx} {e : Expr} {es : List Expr} {ms : MA} {p pos : Pos}
theorem den_callO {k j n : Nat} {x : Str} {F : List D → MH → R D} (o : Ok X.prog X.w X.K X.mg X.base k x n F) (hr : RoomG j X.A) (hk : k ≤ j) (hg : Gl X x)
    (ha : DenA X B0 (e :: es) ms) (hdb : (x == ("__debug__" : Str)) = false := by decide) (he : starEach (e :: es) X.env = (false, eval e X.env) :: starEach es X.env := by rfl) (hpl : (backTo pos (starEach es X.env)).any (·.1) = false := by rfl) :
    Den X B0 (.Call (.Name x p) (e :: es) [] pos) (mCall n F ms) := by
  obtain ⟨fd, ps, G, b⟩ := o.ex
  exact den_call nb0 G (hr.mono hk) hg o.gl o.kp b ha hdb he hpl
/-- a call of the def that a local name holds -/
def mCallV (i : Nat) (T : List (Str × Nat × (List D → MH → R D))) (a : MA) : M := fun env h => match env[i]? with
  | some (some (.fn x)) => (match T.lookup x with
    | some nf => (a env h).bind fun ds h1 => if ds.length = nf.1 then nf.2 ds h1 else .no
    | none => .no)
  | _ => .no
theorem den_callV {k j i : Nat} {T : List (Str × Nat × (List D → MH → R D))} {x : Str} (o : ∀ y nf, T.lookup y = some nf → Ok X.prog X.w X.K X.mg X.base k y nf.1 nf.2) (hr : RoomG j X.A) (hk : k ≤ j) (ha : DenA X B0 (e :: es) ms) (hN : X.N[i]? = some x := by rfl) (hv : Vis X.env.scope x := by first | exact Or.inl rfl | exact Or.inr (Or.inl rfl) | exact Or.inr (Or.inr rfl))
    (hdb : (x == ("__debug__" : Str)) = false := by decide) (hcd : (x == ("__classdict__" : Str)) = false := by decide) (he : starEach (e :: es) X.env = (false, eval e X.env) :: starEach es X.env := by rfl) (hpl : (backTo pos (starEach es X.env)).any (·.1) = false := by rfl) :
    Den X B0 (.Call (.Name x p) (e :: es) [] pos) (mCallV i T ms) := by
  refine ⟨fun pins s σ H Q I h => ?_⟩
  obtain ⟨ρ, hh, env, R, E, g⟩ := h
  unfold mCallV at g
  split at g
  · rename_i y ey
    split at g
    · rename_i nf eT
      obtain ⟨v, hs, rv⟩ := E.at_ i _ ey
      cases rv
      obtain ⟨fd, ps, G, b⟩ := (o y nf eT).ex
      refine (pe_callLG (i := i) (f := He.ga X.K y) G (hr.mono hk) hN hv (o y nf eT).kp b ha hdb hcd he hpl).run pins s σ H Q I ⟨hs, ?_⟩
      refine (tR_bind ⟨R, E⟩ g).imp fun vs H1 ⟨ρ1, h1, xs, A1, e1, rx, g1⟩ => ?_
      obtain ⟨hn, g2⟩ := good_if g1
      exact spF_ok nb0 A1.R rx hn g2
    · exact g.elim
  · exact g.elim
end
end MP
set_option Elab.async false
set_option linter.all false
set_option maxRecDepth 100000
set_option maxHeartbeats 2000000
/-! M9: the readings, evaluated. -/
namespace MP
open PySem PySem.Spec L2
section
variable (env : Env) (h : MH)
@[simp] theorem e_mVar (i : Nat) : mVar i env h = (match env[i]? with | some (some d) => R.ok d h | _ => .no) := rfl
@[simp] theorem e_mC (d : D) : mC d env h = .ok d h := rfl
@[simp] theorem e_mBin (f : D → D → MH → R D) (a b : M) : mBin f a b env h = (a env h).bind fun x h1 => (b env h1).bind fun y h2 => f x y h2 := rfl
@[simp] theorem e_mTest (a : M) : mTest a env h = (a env h).bind asB := rfl
@[simp] theorem e_asB (b : Bool) : asB (.bl b) h = .ok b h := rfl
@[simp] theorem e_mChain (f f' : D → D → MH → R D) (a b c : M) : mChain f f' a b c env h = (a env h).bind fun x h1 => (b env h1).bind fun y h2 => (f x y h2).bind fun z h3 => (asB z h3).bind fun k h4 =>
  if k = true then (c env h4).bind fun w h5 => f' y w h5 else .ok (.bl false) h4 := rfl
@[simp] theorem e_mAnd (a b : MB) : mAnd a b env h = (a env h).bind fun x h1 => if x = true then b env h1 else .ok false h1 := rfl
@[simp] theorem e_mOr (a b : MB) : mOr a b env h = (a env h).bind fun x h1 => if x = true then .ok true h1 else b env h1 := rfl
@[simp] theorem e_mNot (a : MB) : mNot a env h = (a env h).bind fun x h1 => .ok (!x) h1 := rfl
@[simp] theorem e_vAnd (a b : M) : vAnd a b env h = (a env h).bind fun x h1 => (asB x h1).bind fun k h2 => if k = true then b env h2 else .ok (.bl false) h2 := rfl
@[simp] theorem e_vOr (a b : M) : vOr a b env h = (a env h).bind fun x h1 => (asB x h1).bind fun k h2 => if k = true then .ok (.bl true) h2 else b env h2 := rfl
@[simp] theorem e_vNot (a : M) : vNot a env h = (a env h).bind fun x h1 => (asB x h1).bind fun k h2 => .ok (.bl (!k)) h2 := rfl
@[simp] theorem e_mIf (t : MB) (a b : M) : mIf t a b env h = (t env h).bind fun x h1 => if x = true then a env h1 else b env h1 := rfl
@[simp] theorem e_aNil : aNil env h = .ok [] h := rfl
@[simp] theorem e_aCons (a : M) (r : MA) : aCons a r env h = (a env h).bind fun x h1 => (r env h1).bind fun xs h2 => .ok (x :: xs) h2 := rfl
@[simp] theorem e_mTup (a : MA) : mTup a env h = (a env h).bind fun xs h1 => if xs.length ≤ sizeLine then .ok (.tup xs) h1 else .no := rfl
@[simp] theorem e_mLst (a : MA) : mLst a env h = (a env h).bind fun xs h1 => if xs.length ≤ sizeLine then newL xs h1 else .no := rfl
@[simp] theorem e_newL (xs : List D) : newL xs h = .ok (.loc h.length) (h ++ [.lst xs]) := rfl
@[simp] theorem e_mCall (n : Nat) (F : List D → MH → R D) (a : MA) : mCall n F a env h = (a env h).bind fun ds h1 => if ds.length = n then F ds h1 else .no := rfl
@[simp] theorem e_mB (f : List D → MH → R D) (a : MA) : mB f a env h = (a env h).bind f := rfl
@[simp] theorem e_mMeth (T : String) (f : D → List D → MH → R D) (o : M) (a : MA) : mMeth T f o a env h = (o env h).bind fun x h1 => if tyM T h1 x = true then (a env h1).bind fun xs h2 => f x xs h2 else .no := rfl
@[simp] theorem e_mSl (m : M) (l u : Env → MH → R (Option Int)) : mSl m l u env h = (m env h).bind fun x h1 => (l env h1).bind fun i h2 => (u env h2).bind fun j h3 => fSl x i j h3 := rfl
@[simp] theorem e_oNone : oNone env h = .ok none h := rfl
@[simp] theorem e_oSome (m : M) : oSome m env h = (m env h).bind fun x h1 => match x with | .int i => .ok (some i) h1 | _ => .no := rfl
@[simp] theorem e_mDNew : mDNew env h = .ok (.loc h.length) (h ++ [.dic []]) := rfl
@[simp] theorem e_mTNew : mTNew env h = .ok (.loc h.length) (h ++ [.dit []]) := rfl
@[simp] theorem e_mLc (it : MI) (tg : Tg) (cond : MB) (elt : M) (vs : List Nat) : mLc it tg cond elt vs env h = (it env h).bind fun src h1 => (loopC src tg cond elt (wipeE env vs) (src.fuel h1) 0 [] h1).bind fun acc h2 => newL acc h2 := rfl
@[simp] theorem e_bYes : bYes env h = .ok true h := rfl
@[simp] theorem e_mFmt (m : M) : mFmt m env h = (m env h).bind fFmt := rfl
@[simp] theorem e_mJs0 (acc : Str) : mJs [] acc env h = .ok (.str acc) h := rfl
@[simp] theorem e_mJs1 (m : M) (ms : List M) (acc : Str) : mJs (m :: ms) acc env h = (m env h).bind fun x h1 => match x with | .str y => if (acc ++ y).length ≤ sizeLine then mJs ms (acc ++ y) env h1 else .no | _ => .no := rfl
@[simp] theorem e_iL (m : M) : iL m env h = (m env h).bind fun x h1 => match lstOf h1 x with | some _ => .ok (.lst x) h1 | none => .no := rfl
@[simp] theorem e_iT (m : M) : iT m env h = (m env h).bind fun x h1 => match x with | .tup ds => .ok (.tup ds) h1 | _ => .no := rfl
@[simp] theorem e_iS (m : M) : iS m env h = (m env h).bind fun x h1 => match x with | .str s => .ok (.str s) h1 | _ => .no := rfl
@[simp] theorem e_iR1 (m : M) : iR1 m env h = (m env h).bind fun x h1 => match x with | .int j => if CRng j then .ok (.rng 0 j.toNat) h1 else .no | _ => .no := rfl
@[simp] theorem e_sNop : sNop env h = .nx env h := rfl
@[simp] theorem e_sSeq (s t : S) : sSeq s t env h = (match s env h with | .nx e h => t e h | r => r) := rfl
@[simp] theorem e_sSet (i : Nat) (m : M) : sSet i m env h = (m env h).st env fun d h1 => .nx (env.set i (some d)) h1 := rfl
@[simp] theorem e_sTg (t : Tg) (m : M) : sTg t m env h = (m env h).st env fun d h1 => match t.put d env with | some e => .nx e h1 | none => .no := rfl
@[simp] theorem e_sDrop (m : M) : sDrop m env h = (m env h).st env fun _ h1 => .nx env h1 := rfl
@[simp] theorem e_sRet (m : M) : sRet m env h = (m env h).st env fun d h1 => .rt d h1 := rfl
@[simp] theorem e_sRetN : sRetN env h = .rt .non h := rfl
@[simp] theorem e_sIf (c : MB) (a b : S) : sIf c a b env h = (c env h).st env fun x h1 => if x = true then a env h1 else b env h1 := rfl
@[simp] theorem e_sBrk : sBrk env h = .bk env h := rfl
@[simp] theorem e_sCont : sCont env h = .ct env h := rfl
@[simp] theorem e_sPar (i j : Nat) (a b : M) : sPar i j a b env h = (a env h).st env fun x h1 => (b env h1).st env fun y h2 => .nx ((env.set i (some x)).set j (some y)) h2 := rfl
@[simp] theorem e_sFor (it : MI) (tg : Tg) (body : S) : sFor it tg body env h = (it env h).st env fun src h1 => loopF src tg body (src.fuel h1) 0 env h1 := rfl
@[simp] theorem e_sSetIx (mv mo mi : M) : sSetIx mv mo mi env h = (mv env h).st env fun v h1 => (mo env h1).st env fun o h2 => (mi env h2).st env fun i h3 => match o, i with
  | .loc n, .int k => (match h3[n]? with
    | some (.lst ds) => (match ixN ds.length k with
      | some j => .nx env (h3.set n (.lst (ds.set j v)))
      | none => .no)
    | _ => .no)
  | _, _ => .no := rfl
@[simp] theorem e_denF (n : Nat) (s : S) (ds : List D) : denF n s ds h = (match s (startE n ds) h with
  | .rt d h => R.ok d h
  | .nx _ h => .ok .non h
  | .er c d _ h => .er c d h
  | _ => .no) := rfl
@[simp] theorem e_startE (n : Nat) (ds : List D) : startE n ds = ds.map some ++ List.replicate (n - ds.length) none := rfl
@[simp] theorem e_nm (j : Nat) (d : D) (e : Env) : (Tg.nm j).put d e = some (e.set j (some d)) := rfl
@[simp] theorem e_tp (js : List Nat) (ds : List D) (e : Env) : (Tg.tp js).put (.tup ds) e = if ds.length = js.length then some (sets js ds e) else none := rfl
end
section
variable (h : MH)
@[simp] theorem f_addI (i j : Int) : fAdd (.int i) (.int j) h = .ok (.int (i + j)) h := rfl
@[simp] theorem f_addS (a b : Str) : fAdd (.str a) (.str b) h = if a.length + b.length ≤ sizeLine then .ok (.str (a ++ b)) h else .no := rfl
@[simp] theorem f_addT (a b : List D) : fAdd (.tup a) (.tup b) h = if a.length + b.length ≤ sizeLine then .ok (.tup (a ++ b)) h else .no := rfl
@[simp] theorem f_addL (m n : Nat) : fAdd (.loc m) (.loc n) h = (match h[m]?, h[n]? with
    | some (.lst a), some (.lst b) => if a.length + b.length ≤ sizeLine then newL (a ++ b) h else .no
    | _, _ => .no) := rfl
@[simp] theorem f_subI (i j : Int) : fSub (.int i) (.int j) h = .ok (.int (i - j)) h := rfl
@[simp] theorem f_mulI (i j : Int) : fMul (.int i) (.int j) h = if CMul i j then .ok (.int (i * j)) h else .no := rfl
@[simp] theorem f_mulS (a : Str) (k : Int) : fMul (.str a) (.int k) h = if CRep a k then .ok (.str (Txt.mul a k)) h else .no := rfl
@[simp] theorem f_modI (i j : Int) : fMod (.int i) (.int j) h = if 0 < j then .ok (.int (i % j)) h else .no := rfl
@[simp] theorem f_divI (i j : Int) : fDiv (.int i) (.int j) h = if CDiv i j then .ok (.int (i / j)) h else .no := rfl
@[simp] theorem f_powI (i j : Int) : fPow (.int i) (.int j) h = if CPowW i j then .ok (.int (i ^ j.toNat)) h else .no := rfl
@[simp] theorem f_lt (i j : Int) : fLt (.int i) (.int j) h = .ok (.bl (decide (i < j))) h := rfl
@[simp] theorem f_le (i j : Int) : fLe (.int i) (.int j) h = .ok (.bl (decide (i ≤ j))) h := rfl
@[simp] theorem f_gt (i j : Int) : fGt (.int i) (.int j) h = .ok (.bl (decide (j < i))) h := rfl
@[simp] theorem f_ge (i j : Int) : fGe (.int i) (.int j) h = .ok (.bl (decide (j ≤ i))) h := rfl
@[simp] theorem f_eq (x y : D) : fEq x y h = (match eqD h x y with | some b => .ok (.bl b) h | none => .no) := rfl
@[simp] theorem f_ne (x y : D) : fNe x y h = (match eqD h x y with | some b => .ok (.bl (!b)) h | none => .no) := rfl
@[simp] theorem eqD_SS (a b : Str) : eqD h (.str a) (.str b) = some (decide (a = b)) := rfl
@[simp] theorem eqD_II (a b : Int) : eqD h (.int a) (.int b) = some (decide (a = b)) := rfl
@[simp] theorem eqD_BB (a b : Bool) : eqD h (.bl a) (.bl b) = some (decide (a = b)) := rfl
@[simp] theorem bInt_I (i : Int) : bInt [.int i] h = .ok (.int i) h := rfl
@[simp] theorem bInt_B (k : Bool) : bInt [.bl k] h = .ok (.int (if k = true then 1 else 0)) h := rfl
@[simp] theorem bAbs_I (i : Int) : bAbs [.int i] h = .ok (.int (if i < 0 then -i else i)) h := rfl
@[simp] theorem bMin2_I (i j : Int) : bMin2 [.int i, .int j] h = .ok (.int (if j < i then j else i)) h := rfl
@[simp] theorem bMax2_I (i j : Int) : bMax2 [.int i, .int j] h = .ok (.int (if j > i then j else i)) h := rfl
@[simp] theorem bStr_I (i : Int) : bStr [.int i] h = if i.natAbs.log2 < 1920 then .ok (.str (toString i)) h else .no := rfl
@[simp] theorem e_bLen (d : D) : bLen [d] h = (match lenD h d with | some n => .ok (.int (n : Int)) h | none => .no) := rfl
@[simp] theorem lenD_S (s : Str) : lenD h (.str s) = if s.length ≤ sizeLine then some s.length else none := rfl
@[simp] theorem lenD_T (s : List D) : lenD h (.tup s) = some s.length := rfl
@[simp] theorem lenD_R (s : List D) : lenD h (.rol s) = some s.length := rfl
@[simp] theorem lenD_L (n : Nat) : lenD h (.loc n) = (match h[n]? with | some (.lst ds) => some ds | _ => none).map List.length := by
  show (match lstOf h (.loc n) with | some ds => some ds | none => tupOf (.loc n)).map List.length = _
  show (match (match h[n]? with | some (.lst ds) => some ds | _ => none) with | some ds => some ds | none => none).map List.length = _
  cases h[n]? with
  | none => rfl
  | some o => cases o <;> rfl
@[simp] theorem ix_T (ds : List D) (i : Int) : fIx (.tup ds) (.int i) h = (match atI ds i with | some d => .ok d h | none => .no) := rfl
@[simp] theorem ix_R (ds : List D) (i : Int) : fIx (.rol ds) (.int i) h = (match atI ds i with | some d => .ok d h | none => .no) := rfl
theorem ix_L {n : Nat} {ds : List D} (e : h[n]? = some (.lst ds)) (i : Int) : fIx (.loc n) (.int i) h = (match atI ds i with | some d => .ok d h | none => .no) := by
  show (match (match lstOf h (.loc n) with | some ds => some ds | none => tupOf (.loc n)) with | some ds => (match atI ds i with | some d => R.ok d h | none => .no) | none => .no) = _
  have : lstOf h (.loc n) = some ds := by unfold lstOf; simp only [e]
  rw [this]
@[simp] theorem ix_S (s : Str) (i : Int) : fIx (.str s) (.int i) h = if s.length ≤ sizeLine then (match atI s.cps.toList i with | some c => .ok (.str ⟨#[c]⟩) h | none => .no) else .no := rfl
@[simp] theorem lstOf_L (n : Nat) : lstOf h (.loc n) = (match h[n]? with | some (.lst ds) => some ds | _ => none) := rfl
@[simp] theorem lstOf_R (ds : List D) : lstOf h (.rol ds) = some ds := rfl
end
/-! ### heaps -/
theorem get_app {h l : MH} {n : Nat} {v : MO} (e : h[n]? = some v) : (h ++ l)[n]? = some v := by
  rw [List.getElem?_append_left (List.getElem?_eq_some_iff.mp e).1]; exact e
theorem get_set {h : MH} {n : Nat} {v w : MO} (e : h[n]? = some v) : (h.set n w)[n]? = some w := by
  rw [List.getElem?_set_self (List.getElem?_eq_some_iff.mp e).1]
theorem get_new (h : MH) (v : MO) : (h ++ [v])[h.length]? = some v := by simp
end MP
set_option Elab.async false
set_option linter.all false
set_option maxRecDepth 100000
set_option maxHeartbeats 2000000
/-! M10: the laws' draws: pot, take, of. -/
namespace MP
open PySem PySem.Spec L2
/-- only the location p changes; new ones come -/
structure Fr (p : Nat) (h h' : MH) : Prop where
  le : h.length ≤ h'.length
  keep : ∀ i mo, i ≠ p → h[i]? = some mo → h'[i]? = some mo
theorem Fr.refl {p : Nat} {h : MH} : Fr p h h := ⟨Nat.le_refl _, fun _ _ _ e => e⟩
theorem Fr.trans {p : Nat} {h h1 h2 : MH} (a : Fr p h h1) (b : Fr p h1 h2) : Fr p h h2 := ⟨Nat.le_trans a.le b.le, fun i mo hi e => b.keep i mo hi (a.keep i mo hi e)⟩
theorem Fr.app {p : Nat} {h l : MH} : Fr p h (h ++ l) := ⟨by simp, fun _ _ _ e => get_app e⟩
theorem Fr.set {p : Nat} {h : MH} {v : MO} : Fr p h (h.set p v) := ⟨by simp, fun i mo hi e => by rw [List.getElem?_set_ne (Ne.symm hi)]; exact e⟩
structure Pot (h : MH) (p : Nat) (T : Int) : Prop where
  ex : ∃ o m t : Int, h[p]? = some (.lst [.int o, .int m, .int t]) ∧ 0 ≤ o ∧ 0 ≤ m ∧ m < 2305843009213693921 ∧ 0 ≤ t ∧ t ≤ T
theorem Pot.app {h l : MH} {p : Nat} {T : Int} (P : Pot h p T) : Pot (h ++ l) p T := by
  obtain ⟨o, m, t, e, r⟩ := P.ex
  exact ⟨o, m, t, get_app e, r⟩
theorem Pot.mono {h : MH} {p : Nat} {T T' : Int} (P : Pot h p T) (hT : T ≤ T') : Pot h p T' := by
  obtain ⟨o, m, t, e, a, b, c, d, f⟩ := P.ex
  exact ⟨o, m, t, e, a, b, c, d, by omega⟩
theorem Pot.lt {h : MH} {p : Nat} {T : Int} (P : Pot h p T) : p < h.length := by
  obtain ⟨o, m, t, e, r⟩ := P.ex
  exact (List.getElem?_eq_some_iff.mp e).1
theorem Pot.ne {h : MH} {p l : Nat} {T : Int} {xs : List D} (P : Pot h p T) (e : h[l]? = some (.lst xs)) (hx : xs.length ≠ 3) : l ≠ p := by
  rintro rfl
  obtain ⟨o, m, t, e', r⟩ := P.ex
  rw [e] at e'; cases e'
  exact hx rfl
def takeB : S :=
  (sSeq (sIf (mTest (mBin fGt (mBin fIx (mVar 0) (mC (.int 0))) (mC (.int 0)))) (sSeq (sSet 2 (mBin fMod (mB bInt (aCons (mBin fIx (mVar 0) (mC (.int 0))) aNil)) (mVar 1)))
  (sSeq (sSetIx (mBin fDiv (mBin fIx (mVar 0) (mC (.int 0))) (mVar 1)) (mVar 0) (mC (.int 0)))
  (sRet (mVar 2)))) sNop)
  (sSeq (sSetIx (mBin fAdd (mBin fIx (mVar 0) (mC (.int 2))) (mC (.int 1))) (mVar 0) (mC (.int 2)))
  (sSeq (sSet 3 (mBin fIx (mLst (aCons (mC (.int 2147483647)) (aCons (mC (.int 2147483629)) (aCons (mC (.int 2147483587)) (aCons (mC (.int 2147483579)) (aCons (mC (.int 2147483563)) aNil)))))) (mBin fMod (mB bInt (aCons (mBin fIx (mVar 0) (mC (.int 2))) aNil)) (mC (.int 5)))))
  (sSeq (sSet 4 (mBin fMod (mB bInt (aCons (mBin fPow (mB bInt (aCons (mBin fAdd (mBin fAdd (mBin fIx (mVar 0) (mC (.int 1))) (mBin fMul (mBin fMul (mC (.int 99871)) (mBin fIx (mVar 0) (mC (.int 2)))) (mBin fIx (mVar 0) (mC (.int 2))))) (mC (.int 47))) aNil)) (mC (.int 3))) aNil)) (mVar 3)))
  (sSeq (sSet 4 (mBin fMod (mB bInt (aCons (mBin fMul (mVar 4) (mBin fAdd (mBin fMod (mB bInt (aCons (mVar 4) aNil)) (mC (.int 10009))) (mBin fMul (mC (.int 83)) (mBin fIx (mVar 0) (mC (.int 2)))))) aNil)) (mC (.int 2305843009213693907))))
  (sRet (mBin fMod (mB bInt (aCons (mBin fDiv (mVar 4) (mC (.int 101))) aNil)) (mVar 1))))))))
def takeF : List D → MH → R D := denF 5 takeB
def ofB : S :=
  (sRet (mBin fIx (mVar 1) (mCall 2 takeF (aCons (mVar 0) (aCons (mB bLen (aCons (mVar 1) aNil)) aNil)))))
def ofF : List D → MH → R D := denF 2 ofB
def bigM : M := mBin fPow (mBin fPow (mC (.int 10)) (mC (.int 60))) (mC (.int 5))
def potR : S :=
  (sSeq (sSet 3 (mBin fMul (mBin fMod (mB bInt (aCons (mB bAbs (aCons (mVar 2) aNil)) aNil)) bigM) (mB bInt (aCons (mBin fGe (mB bAbs (aCons (mVar 2) aNil)) (mBin fPow (mC (.int 10)) (mC (.int 18)))) aNil))))
  (sSeq (sSet 4 (mBin fAdd (mBin fAdd (mBin fMul (mBin fMod (mB bInt (aCons (mVar 2) aNil)) (mC (.int 2305843009213693951))) (mC (.int 70241))) (mBin fMul (mBin fMul (mC (.int 6197)) (mVar 1)) (mVar 1))) (mC (.int 61))))
  (sRet (mLst (aCons (mVar 3) (aCons (mBin fMod (mB bInt (aCons (mVar 4) aNil)) (mC (.int 2305843009213693921))) (aCons (mC (.int 0)) aNil)))))))
def potB : S :=
  (sSeq (sSet 2 (mIf (mTest (mBin fLt (mVar 1) (mB bLen (aCons (mVar 0) aNil)))) (mBin fIx (mVar 0) (mVar 1)) (mBin fAdd (mBin fMul (mC (.int 37)) (mVar 1)) (mC (.int 17))))) potR)
def potF : List D → MH → R D := denF 5 potB
theorem cmul_l {i j : Int} (h1 : -(2 ^ 64) < i) (h2 : i < 2 ^ 64) : CMul i j := .inl ⟨h1, h2⟩
theorem cmul_r {i j : Int} (h1 : -(2 ^ 64) < j) (h2 : j < 2 ^ 64) : CMul i j := .inr ⟨h1, h2⟩
theorem five {k : Int} : atI [D.int 2147483647, D.int 2147483629, D.int 2147483587, D.int 2147483579, D.int 2147483563] (k % 5) = some (.int 2147483647) ∨ atI [D.int 2147483647, D.int 2147483629, D.int 2147483587, D.int 2147483579, D.int 2147483563] (k % 5) = some (.int 2147483629) ∨
    atI [D.int 2147483647, D.int 2147483629, D.int 2147483587, D.int 2147483579, D.int 2147483563] (k % 5) = some (.int 2147483587) ∨ atI [D.int 2147483647, D.int 2147483629, D.int 2147483587, D.int 2147483579, D.int 2147483563] (k % 5) = some (.int 2147483579) ∨
    atI [D.int 2147483647, D.int 2147483629, D.int 2147483587, D.int 2147483579, D.int 2147483563] (k % 5) = some (.int 2147483563) := by
  have h1 : 0 ≤ k % 5 := Int.emod_nonneg _ (by decide)
  have h2 : k % 5 < 5 := Int.emod_lt_of_pos _ (by decide)
  have h3 : k % 5 = 0 ∨ k % 5 = 1 ∨ k % 5 = 2 ∨ k % 5 = 3 ∨ k % 5 = 4 := by omega
  rcases h3 with h | h | h | h | h <;> rw [h]
  · exact .inl rfl
  · exact .inr (.inl rfl)
  · exact .inr (.inr (.inl rfl))
  · exact .inr (.inr (.inr (.inl rfl)))
  · exact .inr (.inr (.inr (.inr rfl)))
theorem five' {k : Int} : ∃ q : Int, 0 < q ∧ q < 2147483648 ∧ atI [D.int 2147483647, D.int 2147483629, D.int 2147483587, D.int 2147483579, D.int 2147483563] (k % 5) = some (.int q) := by
  rcases five (k := k) with h | h | h | h | h
  all_goals exact ⟨_, by decide, by decide, h⟩
theorem atI_nat {α : Type} (l : List α) (i : Nat) : atI l (i : Int) = l[i]? := by
  unfold atI ixN
  rw [if_pos (by omega)]
  by_cases h : i < l.length
  · rw [if_pos (by omega)]; simp
  · rw [if_neg (by omega)]; simp; omega
@[simp] theorem atI0 {α : Type} (a : α) (l : List α) : atI (a :: l) 0 = some a := atI_nat _ 0
@[simp] theorem atI1 {α : Type} (a b : α) (l : List α) : atI (a :: b :: l) 1 = some b := atI_nat _ 1
@[simp] theorem atI2 {α : Type} (a b c : α) (l : List α) : atI (a :: b :: c :: l) 2 = some c := atI_nat _ 2
@[simp] theorem atI3 {α : Type} (a b c d : α) (l : List α) : atI (a :: b :: c :: d :: l) 3 = some d := atI_nat _ 3
theorem take_ok {h : MH} {p : Nat} {T n : Int} (P : Pot h p T) (hT : T < 1000000) (hn : 0 < n) (hn2 : n < 1073741824) :
    ∃ d h', takeF [.loc p, .int n] h = .ok (.int d) h' ∧ 0 ≤ d ∧ d < n ∧ Pot h' p (T + 1) ∧ Fr p h h' := by
  obtain ⟨o, m, t, e, ho, hm, hm2, ht, htT⟩ := P.ex
  by_cases ho' : 0 < o
  · refine ⟨o % n, h.set p (.lst [.int (o / n), .int m, .int t]), ?_, Int.emod_nonneg _ (by omega), Int.emod_lt_of_pos _ hn, ⟨o / n, m, t, get_set e, Int.ediv_nonneg ho (by omega), hm, hm2, ht, by omega⟩, Fr.set⟩
    simp [takeF, takeB, ix_L h e, ho', hn, CDiv, hn2, e, ixN]
  · have e1 : (h.set p (.lst [.int o, .int m, .int (t + 1)]))[p]? = some (.lst [.int o, .int m, .int (t + 1)]) := get_set e
    have tt : (t + 1) * (t + 1) ≤ 1000000 * 1000000 := Int.mul_le_mul (by omega) (by omega) (by omega) (by omega)
    have tt0 : 0 ≤ (t + 1) * (t + 1) := Int.mul_nonneg (by omega) (by omega)
    have ea : 99871 * (t + 1) * (t + 1) = 99871 * ((t + 1) * (t + 1)) := by rw [Int.mul_assoc]
    have c1 : CMul 99871 (t + 1) := cmul_l (by decide) (by decide)
    have c2 : CMul (99871 * (t + 1)) (t + 1) := cmul_r (by omega) (by omega)
    have c3 : CPowW (m + 99871 * (t + 1) * (t + 1) + 47) 3 := .inl ⟨by decide, by decide, by rw [ea]; omega⟩
    obtain ⟨q, hq, hq2, h5⟩ := five' (k := t + 1)
    have e2 : ((h.set p (.lst [.int o, .int m, .int (t + 1)])) ++ [.lst [D.int 2147483647, D.int 2147483629, D.int 2147483587, D.int 2147483579, D.int 2147483563]])[p]? = some (.lst [.int o, .int m, .int (t + 1)]) := get_app e1
    have e3 := get_new (h.set p (.lst [.int o, .int m, .int (t + 1)])) (.lst [D.int 2147483647, D.int 2147483629, D.int 2147483587, D.int 2147483579, D.int 2147483563])
    rw [List.length_set] at e3
    have z0 := Int.emod_nonneg ((m + 99871 * (t + 1) * (t + 1) + 47) ^ 3) (show q ≠ 0 by omega)
    have z1 := Int.emod_lt_of_pos ((m + 99871 * (t + 1) * (t + 1) + 47) ^ 3) hq
    have c4 : CMul ((m + 99871 * (t + 1) * (t + 1) + 47) ^ 3 % q) ((m + 99871 * (t + 1) * (t + 1) + 47) ^ 3 % q % 10009 + 83 * (t + 1)) := cmul_l (by omega) (by omega)
    have c5 : CMul 83 (t + 1) := cmul_l (by decide) (by decide)
    have s5 : 5 ≤ sizeLine := by decide
    refine ⟨(m + 99871 * (t + 1) * (t + 1) + 47) ^ 3 % q * ((m + 99871 * (t + 1) * (t + 1) + 47) ^ 3 % q % 10009 + 83 * (t + 1)) % 2305843009213693907 / 101 % n, (h.set p (.lst [.int o, .int m, .int (t + 1)])) ++ [.lst [D.int 2147483647, D.int 2147483629, D.int 2147483587, D.int 2147483579, D.int 2147483563]], ?_, ?_, ?_, ⟨o, m, t + 1, e2, ho, hm, hm2, by omega, by omega⟩, Fr.set.trans Fr.app⟩
    · simp only [takeF, takeB]
      simp [ix_L h e, ho', ix_L _ e1, e, ixN, s5, ix_L _ e2, c1, c2, c3, c4, c5, hq, hn, CDiv, ix_L _ e3, h5]
    · exact Int.emod_nonneg _ (by omega)
    · exact Int.emod_lt_of_pos _ hn

theorem of_ok {h : MH} {p l : Nat} {T : Int} {xs : List D} (P : Pot h p T) (hT : T < 1000000) (e : h[l]? = some (.lst xs)) (hl : l ≠ p) (h0 : 0 < xs.length) (h1 : xs.length < 1000000) :
    ∃ x h', ofF [.loc p, .loc l] h = .ok x h' ∧ x ∈ xs ∧ Pot h' p (T + 1) ∧ Fr p h h' := by
  obtain ⟨d, h', e1, d0, d1, P', F⟩ := take_ok (n := (xs.length : Int)) P hT (by omega) (by omega)
  have e2 := F.keep l _ hl e
  obtain ⟨i, rfl⟩ : ∃ i : Nat, d = (i : Int) := ⟨d.toNat, by omega⟩
  have hi : i < xs.length := by omega
  refine ⟨xs[i], h', ?_, List.getElem_mem hi, P', F⟩
  simp only [ofF, ofB]
  simp [e, e1, ix_L _ e2, atI_nat, hi]
@[irreducible] def BIG : Int := (10 ^ 60) ^ 5
theorem BIG_pos : 0 < BIG := by
  unfold BIG
  exact Int.pow_pos (Int.pow_pos (by decide))
theorem ite01 (p : Prop) [Decidable p] : (if p then (1 : Int) else 0) = 0 ∨ (if p then (1 : Int) else 0) = 1 := by split <;> simp
theorem e_big (env : Env) (h : MH) : bigM env h = .ok (.int BIG) h := by
  have c1 : CPowW 10 60 := by decide
  have c2 : CPowW (10 ^ 60) 5 := by decide
  show (fPow (.int 10) (.int 60) h).bind (fun x h1 => fPow x (.int 5) h1) = _
  rw [f_powI, if_pos c1]
  show fPow (.int (10 ^ 60)) (.int 5) h = _
  rw [f_powI, if_pos c2]
  unfold BIG
  rfl
def potM1 : M := mBin fMul (mBin fMod (mB bInt (aCons (mB bAbs (aCons (mVar 2) aNil)) aNil)) bigM) (mB bInt (aCons (mBin fGe (mB bAbs (aCons (mVar 2) aNil)) (mBin fPow (mC (.int 10)) (mC (.int 18)))) aNil))
def potM2 : M := mBin fAdd (mBin fAdd (mBin fMul (mBin fMod (mB bInt (aCons (mVar 2) aNil)) (mC (.int 2305843009213693951))) (mC (.int 70241))) (mBin fMul (mBin fMul (mC (.int 6197)) (mVar 1)) (mVar 1))) (mC (.int 61))
theorem potM1_ok (a b : Option D) (c d : Option D) (cell : Int) (h : MH) : ∃ o, potM1 [a, b, some (.int cell), c, d] h = .ok (.int o) h ∧ 0 ≤ o := by
  have c3 : CPowW 10 18 := .inl ⟨by decide, by decide, by decide⟩
  have b0 := BIG_pos
  obtain ⟨A, hA⟩ : ∃ A, A = (if cell < 0 then -cell else cell) := ⟨_, rfl⟩
  have e1 : mB bAbs (aCons (mVar 2) aNil) [a, b, some (.int cell), c, d] h = .ok (.int A) h := by rw [hA]; simp
  have e2 : mB bInt (aCons (mB bAbs (aCons (mVar 2) aNil)) aNil) [a, b, some (.int cell), c, d] h = .ok (.int A) h := by
    rw [e_mB, e_aCons, e1]; rfl
  have e3 : mBin fPow (mC (.int 10)) (mC (.int 18)) [a, b, some (.int cell), c, d] h = .ok (.int 1000000000000000000) h := by simp [c3]
  have e4 : ∃ k : Int, mB bInt (aCons (mBin fGe (mB bAbs (aCons (mVar 2) aNil)) (mBin fPow (mC (.int 10)) (mC (.int 18)))) aNil) [a, b, some (.int cell), c, d] h = .ok (.int k) h ∧ (k = 0 ∨ k = 1) := by
    refine ⟨_, ?_, ite01 (decide (1000000000000000000 ≤ A) = true)⟩
    rw [e_mB, e_aCons, e_mBin, e1]
    simp only [R.bind_ok]
    rw [e3]
    rfl
  obtain ⟨k, e4, hk⟩ := e4
  have m0 : 0 ≤ A % BIG := Int.emod_nonneg _ (by omega)
  have c8 : CMul (A % BIG) k := cmul_r (by rcases hk with rfl | rfl <;> decide) (by rcases hk with rfl | rfl <;> decide)
  refine ⟨A % BIG * k, ?_, Int.mul_nonneg m0 (by omega)⟩
  unfold potM1
  rw [e_mBin, e_mBin, e2]
  simp only [R.bind_ok, e_big, f_modI, if_pos b0]
  rw [e4]
  simp only [R.bind_ok, f_mulI, if_pos c8]
theorem potM2_ok (a c d : Option D) (k cell : Int) (hk : 0 ≤ k) (hk2 : k < 1000) (h : MH) : ∃ o, potM2 [a, some (.int k), some (.int cell), c, d] h = .ok (.int o) h := by
  have c5 : CMul 6197 k := cmul_l (by decide) (by decide)
  have c6 : CMul (6197 * k) k := cmul_r (by omega) (by omega)
  have c7 : CMul (cell % 2305843009213693951) 70241 := cmul_r (by decide) (by decide)
  refine ⟨cell % 2305843009213693951 * 70241 + 6197 * k * k + 61, ?_⟩
  unfold potM2
  simp [c5, c6, c7]
theorem potR_ok {h : MH} {ns : List Int} {k : Nat} (hk : k < 1000) (cell : Int) : ∃ h', potR [some (.rol (ns.map D.int)), some (.int (k : Int)), some (.int cell), none, none] h = .rt (.loc h.length) h' ∧ Pot h' h.length 0 ∧ ∀ p, Fr p h h' := by
  have s3 : 3 ≤ sizeLine := by decide
  obtain ⟨o, e1, o0⟩ := potM1_ok (some (.rol (ns.map D.int))) (some (.int (k : Int))) none none cell h
  obtain ⟨m, e2⟩ := potM2_ok (some (.rol (ns.map D.int))) (some (.int o)) none (k : Int) cell (by omega) (by omega) h
  refine ⟨h ++ [.lst [.int o, .int (m % 2305843009213693921), .int 0]], ?_, ⟨_, _, _, get_new _ _, o0, Int.emod_nonneg _ (by decide), Int.emod_lt_of_pos _ (by decide), by decide, by decide⟩, fun p => Fr.app⟩
  show sSeq (sSet 3 potM1) (sSeq (sSet 4 potM2) (sRet (mLst (aCons (mVar 3) (aCons (mBin fMod (mB bInt (aCons (mVar 4) aNil)) (mC (.int 2305843009213693921))) (aCons (mC (.int 0)) aNil)))))) _ _ = _
  rw [e_sSeq, e_sSet, e1]
  simp only [R.st_ok]
  rw [e_sSeq, e_sSet]
  simp only [List.set]
  rw [e2]
  simp [s3]
theorem pot_ok {h : MH} {ns : List Int} {k : Nat} (hk : k < 1000) : ∃ h', potF [.rol (ns.map D.int), .int (k : Int)] h = .ok (.loc h.length) h' ∧ Pot h' h.length 0 ∧ ∀ p, Fr p h h' := by
  have c4 : CMul 37 (k : Int) := cmul_l (by decide) (by decide)
  by_cases hlt : k < ns.length
  · obtain ⟨h', e, r⟩ := potR_ok (h := h) (ns := ns) hk ns[k]
    refine ⟨h', ?_, r⟩
    simp only [potF, potB]
    simp [hlt, atI_nat, e]
  · obtain ⟨h', e, r⟩ := potR_ok (h := h) (ns := ns) hk (37 * k + 17)
    refine ⟨h', ?_, r⟩
    simp only [potF, potB]
    simp [hlt, c4, e]
end MP
set_option Elab.async false
set_option linter.all false
set_option maxRecDepth 100000
set_option maxHeartbeats 2000000
/-! M11: loops, run. -/
namespace MP
open PySem PySem.Spec L2
/-- nothing that was there changes -/
structure Gr (h h' : MH) : Prop where
  le : h.length ≤ h'.length
  keep : ∀ (i : Nat) (mo : MO), h[i]? = some mo → h'[i]? = some mo
theorem Gr.refl {h : MH} : Gr h h := ⟨Nat.le_refl _, fun _ _ e => e⟩
theorem Gr.trans {h h1 h2 : MH} (a : Gr h h1) (b : Gr h1 h2) : Gr h h2 := ⟨Nat.le_trans a.le b.le, fun i mo e => b.keep i mo (a.keep i mo e)⟩
theorem Gr.app {h l : MH} : Gr h (h ++ l) := ⟨by simp, fun _ _ e => get_app e⟩
theorem Gr.fr {h h' : MH} (g : Gr h h') (p : Nat) : Fr p h h' := ⟨g.le, fun i mo _ e => g.keep i mo e⟩
theorem Gr.pot {h h' : MH} {p : Nat} {T : Int} (g : Gr h h') (P : Pot h p T) : Pot h' p T := by
  obtain ⟨o, m, t, e, r⟩ := P.ex
  exact ⟨o, m, t, g.keep _ _ e, r⟩
theorem Gr.set {h h' : MH} {n : Nat} {v : MO} (g : Gr h h') (hn : h.length ≤ n) : Gr h (h'.set n v) := ⟨by simpa using g.le, fun i mo e => by
  have : i < h.length := (List.getElem?_eq_some_iff.mp e).1
  rw [List.getElem?_set_ne (by omega)]; exact g.keep i mo e⟩
theorem Fr.set2 {p : Nat} {h h' : MH} {n : Nat} {v : MO} (g : Fr p h h') (hn : h.length ≤ n) : Fr p h (h'.set n v) := ⟨by simpa using g.le, fun i mo hi e => by
  have : i < h.length := (List.getElem?_eq_some_iff.mp e).1
  rw [List.getElem?_set_ne (by omega)]; exact g.keep i mo hi e⟩
theorem Pot.set {h : MH} {p n : Nat} {T : Int} {v : MO} (P : Pot h p T) (hn : n ≠ p) : Pot (h.set n v) p T := by
  obtain ⟨o, m, t, e, r⟩ := P.ex
  exact ⟨o, m, t, by rw [List.getElem?_set_ne hn]; exact e, r⟩
theorem loopC_run {src : Src} {tg : Tg} {cond : MB} {elt : M} {e0 : Env} {ds : List D} {Pv : Nat → List D → MH → Prop}
    (hget : ∀ i acc h, Pv i acc h → src.get h i = some ds[i]?)
    (hstep : ∀ i acc h d, Pv i acc h → ds[i]? = some d → ∃ e1, tg.put d e0 = some e1 ∧ ∃ b h2, cond e1 h = .ok b h2 ∧ (b = true → ∃ y h3, elt e1 h2 = .ok y h3 ∧ acc.length < sizeLine ∧ Pv (i + 1) (acc ++ [y]) h3) ∧ (b = false → Pv (i + 1) acc h2)) :
    ∀ (k f i : Nat) (acc : List D) (h : MH), k + i = ds.length → k < f → Pv i acc h → ∃ acc' h', loopC src tg cond elt e0 f i acc h = .ok acc' h' ∧ Pv ds.length acc' h' := by
  intro k
  induction k with
  | zero =>
    intro f i acc h hk hf hp
    obtain ⟨f, rfl⟩ : ∃ g, f = g + 1 := ⟨f - 1, by omega⟩
    have hi : i = ds.length := by omega
    refine ⟨acc, h, ?_, hi ▸ hp⟩
    unfold loopC
    rw [hget i acc h hp, hi]
    simp
  | succ k ih =>
    intro f i acc h hk hf hp
    obtain ⟨f, rfl⟩ : ∃ g, f = g + 1 := ⟨f - 1, by omega⟩
    have hi : i < ds.length := by omega
    have hd : ds[i]? = some ds[i] := List.getElem?_eq_getElem hi
    obtain ⟨e1, q1, b, h2, q2, ht, hf'⟩ := hstep i acc h _ hp hd
    unfold loopC
    rw [hget i acc h hp, hd]
    dsimp only
    rw [q1]
    dsimp only
    rw [q2]
    cases b with
    | true =>
      obtain ⟨y, h3, q3, hl, hp'⟩ := ht rfl
      obtain ⟨acc', h', q4, hz⟩ := ih f (i + 1) (acc ++ [y]) h3 (by omega) (by omega) hp'
      refine ⟨acc', h', ?_, hz⟩
      simp only [R.bind_ok, q3, if_true, if_pos hl]
      exact q4
    | false =>
      obtain ⟨acc', h', q4, hz⟩ := ih f (i + 1) acc h2 (by omega) (by omega) (hf' rfl)
      refine ⟨acc', h', ?_, hz⟩
      simp only [R.bind_ok]
      exact q4
/-- a comprehension without a test whose element leaves the heap alone -/
theorem loopC_map {src : Src} {tg : Tg} {elt : M} {e0 : Env} {ds : List D} {h : MH} (g : D → D) (hget : ∀ i, src.get h i = some ds[i]?)
    (hstep : ∀ d ∈ ds, ∃ e1, tg.put d e0 = some e1 ∧ elt e1 h = .ok (g d) h) (hl : ds.length ≤ sizeLine) (f : Nat) (hf : ds.length < f) :
    loopC src tg bYes elt e0 f 0 [] h = .ok (ds.map g) h := by
  obtain ⟨acc, h', e, q⟩ := loopC_run (src := src) (tg := tg) (cond := bYes) (elt := elt) (e0 := e0) (ds := ds) (Pv := fun i acc h' => h' = h ∧ acc = (ds.take i).map g)
    (fun i acc h' z => by rw [z.1]; exact hget i)
    (fun i acc h' d z hd => by
      obtain ⟨rfl, rfl⟩ := z
      obtain ⟨hi, rfl⟩ := List.getElem?_eq_some_iff.mp hd
      obtain ⟨e1, q1, q2⟩ := hstep _ (List.getElem_mem hi)
      refine ⟨e1, q1, true, h', rfl, fun _ => ⟨_, h', q2, by simp; omega, rfl, ?_⟩, fun z => by cases z⟩
      rw [List.take_add_one, List.map_append, List.getElem?_eq_getElem hi]
      rfl)
    ds.length f 0 [] h (by simp) hf ⟨rfl, by simp⟩
  rw [e, q.1, q.2]; simp
theorem loopF_run {src : Src} {tg : Tg} {body : S} {ds : List D} {Pv : Nat → Env → MH → Prop}
    (hget : ∀ i e h, Pv i e h → src.get h i = some ds[i]?)
    (hstep : ∀ i e h d, Pv i e h → ds[i]? = some d → ∃ e1, tg.put d e = some e1 ∧ ∃ e2 h2, (body e1 h = .nx e2 h2 ∨ body e1 h = .ct e2 h2) ∧ Pv (i + 1) e2 h2) :
    ∀ (k f i : Nat) (e : Env) (h : MH), k + i = ds.length → k < f → Pv i e h → ∃ e' h', loopF src tg body f i e h = .nx e' h' ∧ Pv ds.length e' h' := by
  intro k
  induction k with
  | zero =>
    intro f i e h hk hf hp
    obtain ⟨f, rfl⟩ : ∃ g, f = g + 1 := ⟨f - 1, by omega⟩
    have hi : i = ds.length := by omega
    refine ⟨e, h, ?_, hi ▸ hp⟩
    unfold loopF
    rw [hget i e h hp, hi]
    simp
  | succ k ih =>
    intro f i e h hk hf hp
    obtain ⟨f, rfl⟩ : ∃ g, f = g + 1 := ⟨f - 1, by omega⟩
    have hi : i < ds.length := by omega
    have hd : ds[i]? = some ds[i] := List.getElem?_eq_getElem hi
    obtain ⟨e1, q1, e2, h2, q2, hp'⟩ := hstep i e h _ hp hd
    obtain ⟨e', h', q4, hz⟩ := ih f (i + 1) e2 h2 (by omega) (by omega) hp'
    refine ⟨e', h', ?_, hz⟩
    unfold loopF
    rw [hget i e h hp, hd]
    dsimp only
    rw [q1]
    dsimp only
    rcases q2 with q2 | q2 <;> rw [q2] <;> exact q4
theorem get_lst {h : MH} {n : Nat} {ds : List D} (e : h[n]? = some (.lst ds)) (i : Nat) : (Src.lst (.loc n)).get h i = some ds[i]? := by
  show (lstOf h (.loc n)).map _ = _
  rw [lstOf_L, e]; rfl
theorem fuel_lst {h : MH} {n : Nat} {ds : List D} (e : h[n]? = some (.lst ds)) : (Src.lst (.loc n)).fuel h = ds.length + 1 := by
  show ((lstOf h (.loc n)).getD []).length + 1 = _
  rw [lstOf_L, e]; rfl
theorem get_rng (lo : Int) (n : Nat) (h : MH) (i : Nat) : (Src.rng lo n).get h i = some (((List.range n).map fun (j : Nat) => D.int (lo + (j : Int)))[i]?) := by
  show some (if i < n then some (D.int (lo + (i : Nat))) else none) = _
  by_cases h : i < n
  · rw [if_pos h, List.getElem?_map, List.getElem?_range h]; rfl
  · rw [if_neg h, List.getElem?_map, List.getElem?_eq_none (by simpa using h)]; rfl
theorem get_str (s : Str) (h : MH) (i : Nat) : (Src.str s).get h i = some ((s.cps.toList.map fun c => D.str ⟨#[c]⟩)[i]?) := by
  show some (s.cps[i]?.map fun c => D.str ⟨#[c]⟩) = _
  rw [List.getElem?_map]
  simp
theorem dMerge_len {κ : Type} [DecidableEq κ] : ∀ (more kvs : List (κ × D)), (dMerge kvs more).length ≤ kvs.length + more.length
  | [], _ => by simp [dMerge]
  | kv :: r, kvs => by
    have := dMerge_len r (dPut kvs kv.1 kv.2)
    have h2 := dPut_len kvs kv.1 kv.2
    unfold dMerge at *
    simp only [List.foldl_cons, List.length_cons]
    omega
theorem dPut_key {κ : Type} [DecidableEq κ] {Pk : κ → Prop} (kvs : List (κ × D)) (k : κ) (v : D) (h : ∀ kv ∈ kvs, Pk kv.1) (hk : Pk k) : ∀ kv ∈ dPut kvs k v, Pk kv.1 := by
  unfold dPut
  split
  · intro kv hm
    obtain ⟨kv', hm', rfl⟩ := List.mem_map.mp hm
    by_cases q : kv'.1 = k
    · rw [if_pos q]; exact h kv' hm'
    · rw [if_neg q]; exact h _ hm'
  · intro kv hm
    rcases List.mem_append.mp hm with hm | hm
    · exact h _ hm
    · rw [List.mem_singleton.mp hm]; exact hk
theorem dMerge_key {κ : Type} [DecidableEq κ] {Pk : κ → Prop} : ∀ (more kvs : List (κ × D)), (∀ kv ∈ kvs, Pk kv.1) → (∀ kv ∈ more, Pk kv.1) → ∀ kv ∈ dMerge kvs more, Pk kv.1
  | [], _, h, _ => h
  | kv :: r, kvs, h, h' => by
    have := dMerge_key r (dPut kvs kv.1 kv.2) (dPut_key kvs _ _ h (h' kv (by simp))) (fun x hx => h' x (by simp [hx]))
    unfold dMerge at *
    simpa only [List.foldl_cons] using this
theorem keyStrs_all {Pk : Str → Prop} : ∀ {kvs : List (Key × D)}, (∀ kv ∈ kvs, ∃ s, kv.1 = Sum.inr s ∧ Pk s) → ∃ ss, keyStrs kvs = some ss ∧ ss.length = kvs.length ∧ ∀ s ∈ ss, Pk s
  | [], _ => ⟨[], rfl, rfl, by simp⟩
  | (k, v) :: r, h => by
    obtain ⟨s, e, hs⟩ := h (k, v) (by simp)
    obtain ⟨ss, e', hl, ha⟩ := keyStrs_all (Pk := Pk) (kvs := r) (fun kv hkv => h kv (by simp [hkv]))
    dsimp only at e
    subst e
    refine ⟨s :: ss, by simp [keyStrs, e'], by simp [hl], fun t ht => ?_⟩
    rcases List.mem_cons.mp ht with rfl | ht
    · exact hs
    · exact ha t ht
theorem mem_srt {x : Str} {xs : List Str} : x ∈ srt xs ↔ x ∈ xs := (srt_perm xs).mem_iff
theorem strsOf_map (ss : List Str) : strsOf (ss.map D.str) = some ss := by
  induction ss with
  | nil => rfl
  | cons s r ih => simp [strsOf, ih]
theorem boolsOf_map (ss : List Bool) : boolsOf (ss.map D.bl) = some ss := by
  induction ss with
  | nil => rfl
  | cons s r ih => simp [boolsOf, ih]
end MP
set_option Elab.async false
set_option linter.all false
set_option maxRecDepth 100000
set_option maxHeartbeats 2000000
/-! GEnd: a law's end for promises where no repr is under way. -/
namespace MP
open PySem PySem.Spec L2 PyProof.Rows
section
variable {P : Program} {w : World} {K : PySem.W.Frag} {mg mb : Str → Option Value} {k : Nat} {fa a : Addr} {fd : FuncData} {x : Str} {sp : Sp} {s₁ : Shared} {vs : List Value} {ns : List Int}
/-- from one abstract heap in which at most the script is told -/
theorem lawG_core (KX : K.In s₁.heap) (hns : s₁.heap.Ns mainGlobals mg) (hb : s₁.heap.Ns builtinsNs mb) (hbb : ∀ x : Str, x ≠ "__name__" → mb x = bootBuiltins x) (hlim : s₁.heap.NoLimit) (hg : s₁.gens = #[])
    (ha : s₁.heap.get? a = some { cls := .type "list", data := .seq vs.toArray }) (hr : RoomG k callerA) (F : ∀ base : Heap, K.In base → base.Ns mainGlobals mg → FnG P w K mg base k fa fd [x] sp)
    (hbind : ∀ (s : Shared) (u : Value), BindsTo s fd ⟨[u], []⟩ [(x, u)]) (H : Hp) (want : sp [.ref a] H (fun v _ => v = .bl true) fun _ _ _ => False) (hO : Only H) (ok : HOk P w H s₁.heap)
    (only : ∀ b, H b ≠ none → b = a) (out : H a ≠ none → K.lookup a = none) :
    codeAny (model P w) callerA (.call (.ref fa) ⟨[.ref a], []⟩) (fun r s' => r = .ok (.ret (.bool true)) ∧ OldK s₁.heap s'.heap ∧ s'.os = s₁.os ∧ AllBare s'.gens) s₁ := by
  have below : ∀ {b : Addr} {o : Obj}, s₁.heap.get? b = some o → H b = none → (hidT s₁.heap H).get? b = some o := fun e n => hidT_get e n
  have free : ∀ {b : Addr}, b ≠ a → H b = none := fun {b} hb => by
    cases q : H b with
    | none => rfl
    | some u => exact absurd (only b (by rw [q]; simp)) hb
  have space : ∀ {b : Addr} {m : Str → Option Value}, s₁.heap.Ns b m → (hidT s₁.heap H).Ns b m := by
    rintro b m ⟨o, es, ep, e, d, r⟩
    refine ⟨o, es, ep, below e (free ?_), d, r⟩
    rintro rfl
    rw [ha] at e
    cases e
    cases d
  have inB : K.In (hidT s₁.heap H) := fun b o e => below (KX b o e) (by
    cases q : H b with
    | none => rfl
    | some u =>
      obtain rfl := only b (by rw [q]; simp)
      rw [out (by rw [q]; simp)] at e
      cases e)
  obtain ⟨mc, l1, l2⟩ := hlim
  have md : Mod K mg (hidT s₁.heap H) := ⟨inB, space hns, ⟨mb, space hb, hbb⟩, ⟨mc, space l1, l2⟩⟩
  have env0 : Env0 P w K mg (hidT s₁.heap H) callerA [] s₁ H := by
    refine ⟨rfl, md, fun b o e => of_hidT e, Nat.le_of_eq (hidT_size _ _), trivial, fun b hb => ?_, ok, .of_eq hg⟩
    cases (show b ∈ ([] : List Addr) from hb)
  have one : Vals [V.ref a] [Value.ref a] := .cons rfl .nil
  refine codeAny_mono ((F _ inB (space hns)).run callerA [] s₁ H ⟨[.ref a], []⟩ [.ref a] [.ref a] _ _ hr env0 (hbind s₁ (.ref a)) one want) fun r s' z => ?_
  cases r with
  | error e => exact (show False from z).elim
  | ok fl =>
    cases fl with
    | next => exact z.elim
    | brk => exact z.elim
    | cont => exact z.elim
    | ret u =>
      obtain ⟨v, H', os, bare, un, ok', rv, q⟩ := z
      obtain rfl : v = .bl true := q
      obtain rfl : u = Value.bool true := rv
      refine ⟨rfl, OldK.of_keep fun b o e => ?_, os, bare⟩
      cases q : H b with
      | none => exact un.keep b o e q (fun z => by cases (show b ∈ ([] : List Addr) from z)) (by simp)
      | some u =>
        rcases hO b with z | ⟨ob, xs, z⟩
        · rw [q] at z; cases z
        · obtain ⟨e1, _⟩ := ok b _ z
          obtain ⟨e2, _⟩ := ok' b _ (un.frzs b ob _ z)
          rw [e] at e1
          cases e1
          exact e2
theorem lawG_call (KX : K.In s₁.heap) (hns : s₁.heap.Ns mainGlobals mg) (hb : s₁.heap.Ns builtinsNs mb) (hbb : ∀ x : Str, x ≠ "__name__" → mb x = bootBuiltins x) (hlim : s₁.heap.NoLimit) (hg : s₁.gens = #[])
    (ha : s₁.heap.get? a = some { cls := .type "list", data := .seq vs.toArray }) (hi : IntsAre vs ns) (hl : ns.length ≤ sizeLine) (hr : RoomG k callerA)
    (F : ∀ base : Heap, K.In base → base.Ns mainGlobals mg → FnG P w K mg base k fa fd [x] sp) (hbind : ∀ (s : Shared) (u : Value), BindsTo s fd ⟨[u], []⟩ [(x, u)])
    (hsp : ∀ H : Hp, Only H → SqL K H a (ns.map V.int) → sp [.ref a] H (fun v _ => v = .bl true) fun _ _ _ => False) :
    codeAny (model P w) callerA (.call (.ref fa) ⟨[.ref a], []⟩) (fun r s' => r = .ok (.ret (.bool true)) ∧ OldK s₁.heap s'.heap ∧ s'.os = s₁.os ∧ AllBare s'.gens) s₁ := by
  have nums := vals_ints hi
  have many := hi.length
  cases hk : K.lookup a with
  | some o =>
    have e := KX a o hk
    rw [ha] at e
    cases e
    have none_only : Only (fun _ => none) := fun _ => .inl rfl
    have told : SqL K (fun _ => none) a (ns.map V.int) := .inr ⟨_, vs.toArray, _, hk, rfl, rfl, rfl, by rw [List.size_toArray, many]; exact hl, by simpa using nums⟩
    exact lawG_core KX hns hb hbb hlim hg ha hr F hbind _ (hsp _ none_only told) none_only (fun b u z => by cases (show (none : Option HO) = some u from z)) (fun b z => absurd rfl z) fun z => absurd rfl z
  | none =>
    obtain ⟨H, hH⟩ : ∃ H : Hp, H = fun b => if b = a then some (.frz { cls := .type "list", data := .seq vs.toArray } (.lst (ns.map V.int))) else none := ⟨_, rfl⟩
    have at_a : H a = some (.frz { cls := .type "list", data := .seq vs.toArray } (.lst (ns.map V.int))) := by rw [hH]; exact if_pos rfl
    have off : ∀ b, b ≠ a → H b = none := fun b hb => by rw [hH]; exact if_neg hb
    have just : Only H := fun b => by
      by_cases hb : b = a
      · subst hb; exact .inr ⟨_, _, at_a⟩
      · exact .inl (off b hb)
    refine lawG_core KX hns hb hbb hlim hg ha hr F hbind H (hsp H just (.inl (.inr ⟨_, at_a⟩))) just (fun b u z => ?_) (fun b z => ?_) fun _ => hk
    · by_cases hb : b = a
      · subst hb
        rw [at_a] at z
        cases z
        exact ⟨ha, by rw [List.length_map]; exact hl, vs, _, nums, ha⟩
      · rw [off b hb] at z
        cases z
    · exact Classical.byContradiction fun hb => z (off b hb)
end
theorem walkG {l : PySem.W.OpenLaw} {n k : Nat} {q : Program} {loose : List Str} {XP : (Str → Option Value) → Heap → Prop} {YP : World → Heap → Prop} {d : DefRec} {x : Str}
    (hn : l.most = some n) (hn2 : n ≤ sizeLine) (hdf : d.params.defaults = []) (hr : RoomG k callerA)
    (F : ∀ (w : World) (mg : Str → Option Value) (fa : Addr) (h : Heap), YP w h → h.Ns mainGlobals mg → mg d.name = some (.ref fa) →
      ∃ (K : PySem.W.Frag) (fd : FuncData) (sp : Sp), K.In h ∧ (∀ (s : Shared) (u : Value), BindsTo s fd ⟨[u], []⟩ [(x, u)]) ∧
        (∀ (H : Hp) (a : Addr) (ns : List Int), ns.length ≤ n → Only H → SqL K H a (ns.map V.int) → sp [.ref a] H (fun v _ => v = .bl true) fun _ _ _ => False) ∧
        ∀ base : Heap, K.In base → base.Ns mainGlobals mg → FnG l.prog w K mg base k fa fd [x] sp) :
    PySem.W.WalkO q loose XP YP l.row.toRowW d [] (fun f vs => PySem.call f vs) := by
  refine Att.attach_call hn hdf fun w s₀ s₁ mg mb fa o pm cd doc a vs ns G Y ho hd hcd hmg hobj hints hlen hg => ?_
  obtain ⟨K, fd, sp, inK, bd, want, run⟩ := F w mg fa _ Y G.T.g hmg
  exact lawG_call inK G.T.g G.T.b G.T.builtins G.T.nolimit hg hobj hints (Nat.le_trans hlen hn2) hr run bd fun H hO hS => want H a ns hlen hO hS
end MP
set_option Elab.async false
set_option linter.all false
set_option maxRecDepth 100000
set_option maxHeartbeats 2000000
/-! X0: an own error's __init__ that says super().__init__() and self.value = value. -/
namespace MP
open PySem PySem.Spec L2
/-- what the written part says of the class C; D: the class whose def is __init__, f -/
structure ErrC (K : PySem.W.Frag) (C D f : Addr) : Prop where
  oex : OexC K C
  ini : PySem.W.findIn K (.ref C) "__init__" = some (some (.ref f))
  fty : PySem.W.typeIn K (.ref f) = some (.type "function")
  sub : PySem.W.mroIn K C (.ref D) = some true
  sup : PySem.W.ks_superIn K C D "__init__" = some (some (.builtin "ValueError.__init__"))
  ve : PySem.W.subIn K (.ref C) (.type "ValueError") = some true
  val : PySem.W.findIn K (.ref C) "value" = some none
structure InitF (P : Program) (K : PySem.W.Frag) (D f : Addr) (fd : FuncData) (qual : Str) (params : Arguments) (body : List Stmt) (scope : Scope) : Prop where
  ex : ∃ (oc ccl cl : Value) (od cdd cld : Option Addr) (dV kV doc pm ct : Value) (an : Option Addr) (cda cc : Addr) (osl ccs csl : Array (Option Value)) (vs : Array Value) (file : Str) (tf : Tok) (cdD : ClassData),
    fd = PySem.W.fnX "__init__" qual params body scope [("__class__", cc)] dV kV doc pm an (.ref cda) ct ∧ K.lookup f = some ⟨oc, od, .func fd, osl⟩ ∧ PySem.W.codeIn K (.ref cda) qual = true ∧
    K.lookup cda = some ⟨ccl, cdd, .fields vs, ccs⟩ ∧ vs[2]? = some (.str file tf) ∧ ((P.main.file : Str) == file) = true ∧ K.lookup cc = some ⟨cl, cld, .cell (some (.ref D)), csl⟩ ∧ PySem.W.clsIn K D = some cdD
  sup : PySem.W.nsIn K mainGlobals "super" = some none
  opq : PySem.W.nsIn K cStatics "thirdparty.any" = some none
def spI (K : PySem.W.Frag) (D f : Addr) : Sp := fun vs H Q E => ∃ (a C : Addr) (v : V), vs = [.ref a, v] ∧ ErrC K C D f ∧ H a = some (exo a C none) ∧ ∀ dx, H dx = none → dx ≠ a → Q .non (upd (upd H dx (exd dx [("value", v)])) a (exo a C (some dx)))
def cxI (P : Program) (w : World) (K : PySem.W.Frag) (mg : Str → Option Value) (base : Heap) (N : List Str) (fd : FuncData) (f : Addr) (A : Around) (outer : List PySem.Env) (s : Shared) (H : Hp) (E : XK) : Cx where
  prog := P
  w := w
  K := K
  mg := mg
  base := base
  A := A.deeper (callEnv fd s.heap.objs.size f)
  N := N
  s_0 := s
  H_0 := H
  env := callEnv fd s.heap.objs.size f
  outer := outer
  stack := callEnv fd s.heap.objs.size f :: outer
  ex := []
  calm := true
  fn := fun _ => false
  pn := []
  xe := fun e s' => wpAny (model P w) (A.deeper (callEnv fd s.heap.objs.size f)) (leaving (callEnv fd s.heap.objs.size f) e) (fun _ s'' => CX0 outer H s E e s'') (fun e' s'' => CX0 outer H s E e' s'') s'
section
variable {P : Program} {w : World} {K : PySem.W.Frag} {mg : Str → Option Value} {base : Heap} {D f : Addr} {fd : FuncData} {qual : Str} {params : Arguments} {body : List Stmt} {scope : Scope}
theorem init_inv {A : Around} {outer : List PySem.Env} {s : Shared} {H : Hp} {E : XK} {cl : Value} {cld : Option Addr} {dV kV doc pm ct : Value} {an : Option Addr} {cda cc : Addr} {csl : Array (Option Value)} {a : Addr} {v : V} {u : Value} {h₁ : Heap} {t : Nat}
    (efd : fd = PySem.W.fnX "__init__" qual params body scope [("__class__", cc)] dV kV doc pm an (.ref cda) ct) (hcell : K.lookup cc = some ⟨cl, cld, .cell (some (.ref D)), csl⟩)
    (hkind : scope.kind = .function) (hks : scope.names.lookup ("self" : Str) = some .local) (hkv : scope.names.lookup ("value" : Str) = some .local) (hfree : ∀ y ∈ scope.names, y.2 = .free → y.1 = ("__class__" : Str)) (hncell : ∀ y ∈ scope.names, y.2 ≠ .cell)
    (hd : A.handled = none) (e0 : Env0 P w K mg base A outer s H) (r : RelV v u) (hns : h₁.Ns s.heap.objs.size (fun x => [(("self" : Str), Value.ref a), (("value" : Str), u)].reverse.lookup x)) (hk : ∀ b o, s.heap.get? b = some o → h₁.get? b = some o) :
    Inv (cxI P w K mg base ["self", "value"] fd f A outer s H E) [] [some (.ref a), some v] H { s with heap := h₁, toks := t } := by
  subst efd
  have noA : ∀ b : Addr, b ∉ ([] : List Addr) := fun b z => by cases z
  have inBase := e0.mod.kin _ _ hcell
  have hcc := e0.bs _ _ inBase
  have cl1 : ∀ {y : Str} {c : Addr}, List.lookup y [(("__class__" : Str), cc)] = some c → y = "__class__" ∧ c = cc := by
    intro y c h
    rw [List.lookup_cons] at h
    by_cases q : (y == ("__class__" : Str)) = true
    · rw [q] at h; cases h; exact ⟨eq_of_beq q, rfl⟩
    · rw [Bool.not_eq_true] at q; rw [q] at h; cases h
  refine ⟨⟨e0.mod, hkind, rfl, rfl, Nat.le_refl _, fun y z c h1 h2 => ?_, fun y hy => ?_, fun y c h => (by cases h), fun _ => hd, Around.frames_deeper e0.frames, .inr ⟨rfl, rfl⟩, fun b z => absurd z (noA b), e0.bs, e0.bsz, fun b _ _ => noA b, fun b z => absurd z (noA b), e0.funs, e0.frf⟩,
    rfl, e0.bare, Un.kept hk, ⟨_, hns, fun i y v' h1 h2 h3 => ?_⟩, fun y c h => ?_, e0.hok.fresh (Nat.le_refl _), fun y c h => ?_, fun p hp => absurd (show p ∈ ([] : List (Addr × Obj)) from hp) (by simp), e0.hok.kept hk, rfl⟩
  · exact (cl1 h1).1.trans (cl1 h2).1.symm
  · have hy : scope.names.lookup y = some .cell ∨ scope.names.lookup y = some .free := hy
    rcases hy with hy | hy
    · exact absurd rfl (hncell _ (PySem.mem_of_lookup hy))
    · have := hfree _ (PySem.mem_of_lookup hy) rfl
      dsimp only at this
      subst this
      exact ⟨cc, rfl⟩
  · match i, h1, h2 with
    | 0, h1, h2 =>
      cases h1; cases h2
      exact ⟨.ref a, rfl, .inl ⟨hks, rfl⟩⟩
    | 1, h1, h2 =>
      cases h1; cases h2
      exact ⟨u, r, .inl ⟨hkv, rfl⟩⟩
    | n + 2, h1, h2 => simp at h2
  · obtain ⟨rfl, rfl⟩ := cl1 h
    exact ⟨_, _, hk _ _ hcc.1, rfl⟩
  · obtain ⟨rfl, rfl⟩ := cl1 h
    exact hcc.2

/-- super() bound: the built-in __init__ called, nothing of it told -/
theorem call_mw {X : Cx} {pins : List (Addr × Obj)} {σ : St} {H : Hp} {s : Shared} {a C u : Addr} {Q : Value → Shared → Prop} {E : Value → Shared → Prop} {A : Around} (T : OexC X.K C) (I : Inv X pins σ H s) (e : H a = some (exo a C none)) (hu : s.heap.get? u = some (PySem.W.kxs_mw "ValueError.__init__" a))
    (h : ∀ s', Inv X pins σ H s' → Q .none s') : wpAny (model X.prog X.w) A (call (.ref u) []) Q E s := by
  obtain ⟨nm, q, N, bs, bm, sn, sub, ab, col, dd, k0, k1, k2, k3, k5, hC, hbm⟩ := T.cls
  obtain ⟨t1, ho⟩ := exo_at I.hok e
  have FB := F.excBase_ValueError
  obtain ⟨hp, g, d, t, os⟩ := s
  refine wpAny_call (codeAny_of_tree ?_)
  show wpAny _ A.in1 (callAny (.ref u) ⟨[], []⟩) _ _ _
  simp only [callAny]
  refine wpAny_bind (wpAny_load hu ?_)
  simp only [PySem.W.kxs_mw, show (Value.type "method-wrapper" == Value.type "method" || Value.type "method-wrapper" == Value.type "builtin_function_or_method" || Value.type "method-wrapper" == Value.type "method-wrapper") = true by decide, if_true]
  refine PySem.W.KFB.if_so (by decide) ?_
  refine wpAny_bind (PySem.W.check_bound_init FB.toExcCallFacts (I.kIn _ _ hC) ho rfl ?_)
  refine wpAny_bind (wpAny_pure (wpAny_pure ?_))
  refine ⟨plainId_quiet FB.init.plain _, codeAny_builtin FB.initEntry ?_⟩
  refine PySem.W.exc_init_tree (cls := .ref C) (t0 := t1) (dv := none) (c2 := .none) (c3 := .none) (b4 := .bool false) ho (Nat.zero_le _) fun h' k hx ht => ?_
  have J := I.write (t' := t) (x := a) (e := a) (o := exo a C none) (by rw [e]; exact True.intro) (.inl rfl) k ⟨_, hx⟩ (exo_ok hx)
  have eu : upd H a (exo a C none) = H := by
    funext b
    by_cases hb : b = a
    · rw [hb, upd_same, e]
    · rw [upd_ne hb]
  rw [eu] at J
  exact h _ J

theorem fn_init {k : Nat} {p0 p1 p2 p3 p4 p5 p6 p7 p8 : Pos} {ar : Arg} (F : InitF P K D f fd qual params body scope)
    (hb : body = [.Expr (.Call (.Attribute (.Call (.Name "super" p0) [] [] p1) "__init__" p2) [] [] p3) p4, .Assign [.Attribute (.Name "self" p5) "value" p6] (.Name "value" p7) p8])
    (hpar : (params.posonlyargs ++ params.args).head? = some ar) (har : ar.arg = ("self" : Str)) (hkind : scope.kind = .function) (hco : scope.isCoroutine = false) (hgen : scope.isGenerator = false)
    (hks : scope.names.lookup ("self" : Str) = some .local) (hkv : scope.names.lookup ("value" : Str) = some .local) (hsu : scope.names.lookup ("super" : Str) = some .globalImplicit) (hkc : scope.names.lookup ("__class__" : Str) = some .free)
    (hfree : ∀ y ∈ scope.names, y.2 = .free → y.1 = ("__class__" : Str)) (hncell : ∀ y ∈ scope.names, y.2 ≠ .cell) (htop : (P.main.scope.names.lookup ("super" : Str)).isSome = false)
    (hev : ∀ env : PySem.Env, env.scope = scope → ∃ pl : Sem Bool, eval (.Call (.Attribute (.Call (.Name "super" p0) [] [] p1) "__init__" p2) [] [] p3) env = (do
      let ov ← attributeBase (.Call (.Name "super" p0) [] [] p1) "__init__" env (eval (.Call (.Name "super" p0) [] [] p1) env)
      standAt p2.atName
      let (f, first) ← holding [ov] (getMethod ov "__init__" pl)
      callWith p3 f first (backTo p3 (starEach [] env)) []))
    (hsw : ∀ env : PySem.Env, env.scope = scope → swapsWith (.Name "value" p7) (some (.Attribute (.Name "self" p5) "value" p6)) p8.line env = pure false) :
    FnOk P w K mg base CX0 (k + 1) f fd ["self", "value"] (spI K D f) := by
  obtain ⟨oc, ccl, cl, od, cdd, cld, dV, kV, doc, pm, ct, an, cda, cc, osl, ccs, csl, vs, file, tf, cdD, efd, lk, hcd, lcode, hvs, hfile, lcell, hD⟩ := F.ex
  refine ⟨fun vs H Q E h => ?_, fun A outer s H args us vs' Q E hr e0 hbd r hsp => ?_⟩
  · obtain ⟨a, C, v, e, _⟩ := h
    rw [e]; rfl
  obtain ⟨a, C, v, rfl, EC, eH, q⟩ := hsp
  cases r with
  | @cons _ u0 _ us' ra r' =>
    obtain rfl : u0 = Value.ref a := ra
    cases r' with
    | @cons _ u _ us'' rv r'' =>
      cases r''
      have KX : K.In s.heap := e0.mod.kin.keeps fun b o e => (e0.bs b o e).1
      have lim : s.heap.NoLimit := e0.mod.nolimit.keeps fun b o e => (e0.bs b o e).1
      refine ks_codeAny_call_defAt (body := body) (binds := [(("self" : Str), Value.ref a), (("value" : Str), u)]) hr.depth (KX _ _ lk) rfl lim (by rw [efd]; exact PySem.W.codeRec_of KX hcd) (by rw [efd]) hbd (by rw [efd]; exact hncell) ?_ (fun h₁ hns hk₁ => ?_) (by rw [efd]; exact hco) (by rw [efd]; exact hgen) (by rw [efd]; exact hkind)
      · intro y hy
        rw [efd]
        simp only [List.mem_cons, List.not_mem_nil, or_false] at hy
        rcases hy with rfl | rfl
        · exact hks
        · exact hkv
      · have I := init_inv (f := f) (H := H) (P := P) (w := w) (mg := mg) (base := base) (E := E) (A := A) (outer := outer) (t := s.toks + 2) efd lcell hkind hks hkv hfree hncell hr.hd e0 rv hns hk₁
        subst hb
        subst efd
        obtain ⟨pl, hev⟩ := hev (callEnv (PySem.W.fnX "__init__" qual params _ scope [("__class__", cc)] dV kV doc pm an (.ref cda) ct) s.heap.objs.size f) rfl
        refine ks_wpAt_execs_cons (ks_wpAt_Expr_any (ks_wpAt_MethodCall (pl := pl) ?_ hev) (hi := by show ((scope.kind == .module) && _) = false; rw [hkind]; rfl))
        refine ks_wpAt_super_base (f := f) (cc := cda) (ar := ar) (vs := vs) (file := file) (tf := tf) (by exact hsu) (by exact hkc) (by decide) rfl (hk₁ _ _ (KX _ _ lk)) rfl (by exact hpar) (by rfl) (hk₁ _ _ (KX _ _ lcode)) rfl hvs hfile htop ?_
        obtain ⟨mb, hm1, hm2⟩ := I.mod.blt
        refine PySem.W.ks_loadName_global (by exact hkind) (by exact hsu) (Calls.loadGlobal_builtin (show h₁.Ns mainGlobals mg from I.mod.glob.keeps I.bk) (PySem.W.mg_none_of I.ok.mod.kin I.mod.glob F.sup) (show h₁.Ns builtinsNs mb from hm1.keeps I.bk) ((hm2 _ (by decide)).trans PyProof.Rows.Boot.«super») ⟨rfl, ?_⟩)
        refine wpAny_loadName_free (by exact hkind) (by exact hkc) (c := cc) (by rfl) ⟨_, hk₁ _ _ (KX _ _ lcell), rfl⟩ ?_
        refine wpAny_loadName_local (by exact hkind) (by rw [har]; exact hks) hns (v := .ref a) (by rw [har]; rfl) ?_
        obtain ⟨oD, hD1, hD2⟩ : ∃ oD, h₁.get? D = some oD ∧ oD.data = .cls cdD := by
          unfold PySem.W.clsIn at hD
          split at hD
          · rename_i c d cd' sl ho
            cases hD
            exact ⟨_, hk₁ _ _ (KX _ _ ho), rfl⟩
          · cases hD
        refine ks_wpAny_isType_cls hD1 hD2 ⟨rfl, ?_⟩
        obtain ⟨t1, ho⟩ := exo_at I.hok eH
        have IA : PySem.W.InstAt h₁ a ({ cls := .ref C, dict := none, data := .fields #[.ref t1, .none, .none, .none, .bool false, .none] } : Obj) C none := ⟨ho, rfl, rfl, trivial⟩
        refine ks_wpAny_call_super hD1 hD2 ho rfl (fun c e => by cases e) (PySem.W.looks_mroIn I.kIn EC.sub) (fun h2 e2 k2 => ?_)
        have I2 := I.kept (t' := s.toks + 2) k2
        obtain ⟨cd, hcC⟩ : ∃ cd, PySem.W.clsIn K C = some cd := by
          cases hc : PySem.W.clsIn K C with
          | none => have := EC.sup; unfold PySem.W.ks_superIn at this; rw [hc] at this; cases this
          | some cd => exact ⟨cd, rfl⟩
        have hsup := EC.sup
        unfold PySem.W.ks_superIn at hsup
        rw [hcC] at hsup
        have IA2 : PySem.W.InstAt h2 a ({ cls := .ref C, dict := none, data := .fields #[.ref t1, .none, .none, .none, .bool false, .none] } : Obj) C none := ⟨k2 _ _ ho, rfl, rfl, trivial⟩
        refine PySem.W.kxs_getMethod PySem.W.kxs_ValueError e2 (PySem.W.looks_opaque I2.kIn F.opq) (l₀ := cd.mro) (fun A Q E s k q => wpAny_bind ((PySem.W.looks_clsIn I2.kIn hcC) A _ E s k (wpAny_pure q))) rfl I2.kIn hsup (IA2.type.andThen (PySem.W.looks_subIn I2.kIn EC.ve)) (PySem.W.ks_ne I2.kIn IA2 hcC) (by decide) ?_
        have hu3 : (h2.push (PySem.W.kxs_mw "ValueError.__init__" a)).get? h2.objs.size = some (PySem.W.kxs_mw "ValueError.__init__" a) := Heap.get?_push_at rfl rfl
        have I3 := I2.kept (h' := h2.push (PySem.W.kxs_mw "ValueError.__init__" a)) (t' := s.toks + 2 + 1) (fun b u e => Heap.get?_push_of_some _ e)
        refine PySem.W.kxs_callWith (i := "ValueError.__init__") (x := a) rfl (PyProof.Rows.evalArgs_empty ⟨hu3, ?_⟩)
        show wpAny _ _ (call (.ref h2.objs.size) []) _ _ _
        refine call_mw EC.oex I3 eH hu3 (fun s' I4 => ?_)
        refine wpAt_of_wpAny ?_
        have PP : ∀ X : Cx, X.N = [("self" : Str), "value"] → X.env.scope = scope → PSs X [.Assign [.Attribute (.Name "self" p5) "value" p6] (.Name "value" p7) p8] (tOst X.K "value" (tVar 0) (tVar 1)) := fun X hN hs =>
          pss_one (ps_ost (f := "value") (pe_var (i := 0) (by rw [hN]; rfl) (by rw [hs]; exact .inl hks)) (pe_var (i := 1) (by rw [hN]; rfl) (by rw [hs]; exact .inl hkv)) (hsw _ hs))
        refine wpAny_mono ((PP _ rfl rfl).run [] s' _ H { nx := fun _ H' => Q .non H', rt := Q } I4 ?_) (fun fl s' hs => ?_) fun e s' hs => hs
        · exact ⟨v, rfl, .ref a, rfl, a, C, rfl, EC.oex, EC.val, .inl ⟨eH, q⟩⟩
        · cases fl with
          | ret u =>
            obtain ⟨v, σ', H', J, rv, q⟩ := hs
            exact ⟨v, H', J.os, J.bare, J.base, J.hok, rv, q⟩
          | next =>
            obtain ⟨σ', H', J, q⟩ := hs
            exact ⟨.non, H', J.os, J.bare, J.base, J.hok, rfl, q⟩
          | brk =>
            obtain ⟨_, _, _, q⟩ := hs
            exact False.elim q
          | cont =>
            obtain ⟨_, _, _, q⟩ := hs
            exact False.elim q
end
end MP
set_option Elab.async false
set_option linter.all false
set_option maxRecDepth 100000
set_option maxHeartbeats 2000000
/-! X1: an own error made as a value. -/
namespace MP
open PySem PySem.Spec L2
section
variable {X : Cx} {e : Expr} {es : List Expr} {ms : MA} {p pos : Pos} {C : Str} {D0 f : Addr} {fd : FuncData}
theorem run_err {k : Nat} {C : Addr} {pins : List (Addr × Obj)} {σ : St} {H : Hp} {s : Shared} {Q : VK} {u : Value} {v : V} (EC : ErrC X.K C D0 f) (F1 : FnOk X.prog X.w X.K X.mg X.base CX0 k f fd ["self", "value"] (spI X.K D0 f)) (hr : Room (k + 1) X.A) (hb : Binds X.K fd ["self", "value"] [])
    (I : Inv X pins σ H s) (r : RelV v u)
    (h : ∀ a dx, H a = none → H dx = none → dx ≠ a → Q (.ref a) (upd (upd (upd H a (exo a C none)) dx (exd dx [("value", v)])) a (exo a C (some dx)))) :
    wpAny (model X.prog X.w) X.A (call (.ref C) [u]) (EP X pins σ Q) X.xe s := by
  obtain ⟨nm, q, N, bs, bm, sn, sub, ab, col, dd, k0, k1, k2, k3, k5, hC, hbm⟩ := EC.oex.cls
  obtain ⟨hp, g, dr, tk, os⟩ := s
  have hsz : hp.objs.size ≤ hp.objs.size + 1 := Nat.le_succ _
  have hn : H (hp.objs.size + 1) = none := I.hok.fresh hsz
  have kk : ∀ b o, hp.get? b = some o → ((hp.push (PySem.W.kdv_tup [u])).push (PySem.HandSPX.excO C hp.objs.size)).get? b = some o := fun b o e => Heap.get?_push_of_some _ (Heap.get?_push_of_some _ e)
  have hget : ((hp.push (PySem.W.kdv_tup [u])).push (PySem.HandSPX.excO C hp.objs.size)).get? (hp.objs.size + 1) = some (PySem.HandSPX.excO C hp.objs.size) := by heap_get
  have I2 : Inv X pins σ (upd H (hp.objs.size + 1) (exo (hp.objs.size + 1) C none)) ⟨(hp.push (PySem.W.kdv_tup [u])).push (PySem.HandSPX.excO C hp.objs.size), g, dr, tk, os⟩ :=
    I.laid (t' := tk) (a := hp.objs.size + 1) (o := exo (hp.objs.size + 1) C none) (h' := (hp.push (PySem.W.kdv_tup [u])).push (PySem.HandSPX.excO C hp.objs.size)) kk hsz (exo_ok hget)
  have r2 : Vals [V.ref (hp.objs.size + 1), v] [Value.ref (hp.objs.size + 1), u] := .cons rfl (.cons r .nil)
  refine wpAny_call (PySem.HandSPX.call_own F.excBase_ValueError (fun Y => PySem.HandSPX.refsVE_contains Y bm hbm) (I.kIn _ _ hC) (PySem.W.looks_findIn I.kIn EC.ini) (fun self => PySem.W.bind_fn I.kIn self EC.fty) (Nat.le_trans (show 1 ≤ 1000 by decide) (by decide))
    (codeAny_mono (F1.run _ X.stack _ _ ⟨[Value.ref (hp.objs.size + 1), u], []⟩ [Value.ref (hp.objs.size + 1), u] _ (fun v H2 => v = .non ∧ Q (.ref (hp.objs.size + 1)) H2) (fun _ _ _ => False) (hr.make C [u] []) (I2.env0.make C [u] []) (hb _ [Value.ref (hp.objs.size + 1), u] I2.kIn rfl) r2 ⟨_, C, v, rfl, EC, upd_same, fun dx hdx hne => ⟨rfl, ?_⟩⟩) fun r s' hq' => ?_))
  · have hdx' : H dx = none := by rw [upd_ne hne] at hdx; exact hdx
    exact h _ dx hn hdx' hne
  · cases r with
    | error er => exact pass0 pins σ _ _ er s' I2 hq'
    | ok fl =>
      cases fl with
      | ret u =>
        obtain ⟨v, H', I3, rv, ev, q3⟩ := I2.after hq'
        subst ev
        exact ⟨rv, ⟨V.ref _, H', I3, rfl, q3⟩⟩
      | next => exact False.elim hq'
      | brk => exact False.elim hq'
      | cont => exact False.elim hq'
/-- the own error C, made -/
def mErr (C : Str) (a : MA) : M := fun env h => (a env h).bind fun ds h1 => match ds with
  | [d] => .ok (.loc h1.length) (h1 ++ [.err C d])
  | _ => .no
theorem err_ok {σ : St} {ρ : List Addr} {h : MH} {H : Hp} {Q : VK} {d : D} {v : V} {a dx : Addr} (R : HR X.K ρ h H) (r : RV X.K ρ H d v) (ha : H a = none) (hdx : H dx = none) (hne : dx ≠ a) (g : Good X.K B0 (rD X.K) σ ρ H Q (.ok (.loc h.length) (h ++ [.err C d]))) :
    Q (.ref a) (upd (upd (upd H a (exo a (He.ga X.K C) none)) dx (exd dx [("value", v)])) a (exo a (He.ga X.K C) (some dx))) := by
  have eq : upd (upd (upd H a (exo a (He.ga X.K C) none)) dx (exd dx [(("value" : Str), v)])) a (exo a (He.ga X.K C) (some dx)) = upd (upd H dx (exd dx [(("value" : Str), v)])) a (exo a (He.ga X.K C) (some dx)) := by
    funext b
    by_cases hb : b = a
    · subst hb; rw [upd_same, upd_same]
    · rw [upd_ne hb, upd_ne hb]
      by_cases hb2 : b = dx
      · subst hb2; rw [upd_same, upd_same]
      · rw [upd_ne hb2, upd_ne hb2, upd_ne hb]
  rw [eq]
  have R1 := R.new (o := exd dx [(("value" : Str), v)]) hdx
  have x1 : Ext ρ H ρ (upd H dx (exd dx [(("value" : Str), v)])) := Ext.new hdx
  have ha1 : upd H dx (exd dx [(("value" : Str), v)]) a = none := by rw [upd_ne (Ne.symm hne)]; exact ha
  have x2 : Ext ρ (upd H dx (exd dx [(("value" : Str), v)])) (ρ ++ [a]) (upd (upd H dx (exd dx [(("value" : Str), v)])) a (exo a (He.ga X.K C) (some dx))) := Ext.newL ha1
  have hd : dx ∉ ρ ++ [a] := fun z => by
    rcases List.mem_append.mp z with z | z
    · obtain ⟨o, q⟩ := R.has z
      rw [hdx] at q; cases q
    · exact hne (List.mem_singleton.mp z)
  have R2 := R1.newL (o := exo a (He.ga X.K C) (some dx)) (mo := .err C d) ha1 ⟨dx, v, _, _, upd_same, EO.exo, by rw [upd_ne hne]; exact upd_same, .ex, hd, r.ext R (x1.trans x2)⟩
  exact g (ρ ++ [a]) _ _ R2 (x1.trans x2) (.loc (by rw [← R.len]; simp))
theorem den_err {k j : Nat} (EC : ErrC X.K (He.ga X.K C) D0 f) (F1 : FnOk X.prog X.w X.K X.mg X.base CX0 k f fd ["self", "value"] (spI X.K D0 f)) (hr : Room j X.A) (hk : k + 1 ≤ j) (hb : Binds X.K fd ["self", "value"] []) (hg : Gl X C) (hm : X.mg C = some (.ref (He.ga X.K C)))
    (ha : DenA X B0 (e :: es) ms) (hdb : (C == ("__debug__" : Str)) = false := by decide) (he : starEach (e :: es) X.env = (false, eval e X.env) :: starEach es X.env := by rfl) (hpl : (backTo pos (starEach es X.env)).any (·.1) = false := by rfl) :
    Den X B0 (.Call (.Name C p) (e :: es) [] pos) (mErr C ms) := by
  refine ⟨fun pins s σ H Q I h => ?_⟩
  obtain ⟨ρ, hh, env, R, E, g⟩ := h
  refine wpAny_Call_Name_kw (ld_glob I hg hm ?_ hdb)
  refine PySem.W.callWith_K (h₀ := X.base) I.ok.mod.kin EC.oex.kC (thn (ha.run pos pins s σ H _ I (tR_bind ⟨R, E⟩ g)) fun us s1 ⟨vs, H1, I1, r1, ρ1, h1, ds, A1, e1, rs, g1⟩ => ⟨I1.kIn, ?_⟩) he hpl
  split at g1
  · obtain ⟨v, rfl, rv⟩ := rs.one
    cases r1 with
    | @cons _ u _ us' ru r' =>
      cases r'
      exact run_err EC F1 (hr.mono hk) hb I1 ru fun a dx h1 h2 h3 => err_ok A1.R rv h1 h2 h3 g1
  · exact g1.elim
end
end MP
set_option Elab.async false
set_option linter.all false
set_option maxRecDepth 100000
set_option maxHeartbeats 2000000
/-! X2: an own error made by a keyword. -/
namespace MP
open PySem PySem.Spec L2
section
variable {prog : Program} {w : World} {A : Around} {E : Value → Shared → Prop} {R : Result → Shared → Prop} {h : Heap} {g : Array GenState} {d : Drawn} {t : Nat} {os : OsState}
variable {nm q : Str} {C N : Addr} {bs bm bmB : List Value} {hdct : Bool} {sn : List Str} {sub : List Value} {ab : Bool} {col : Option Bool} {dd : Option Addr} {k0 k1 k2 k3 k5 : Option Value} {B newId initId : String} {kw : List (Str × Value)}
theorem kw_check_new {M : Model} {Q : Unit → Shared → Prop} (FB : ExcBaseFacts B newId initId bmB) (hT : ∀ X : String, bm.contains (.type X) = bmB.contains (.type X)) {u0 : Value} (hkw : kw = [(("value" : Str), u0)])
    (cC : h.get? C = some (excClassObj nm q C N bs bm hdct sn sub ab col dd k0 k1 k2 k3 k5 newId)) (z : Q () ⟨h, g, d, t, os⟩) : wpAny M A (checkBuiltinCall newId ⟨[.ref C], kw⟩) Q E ⟨h, g, d, t, os⟩ := by
  have cont : (Value.ref C :: bm).contains (.type B) = true := by
    rw [List.contains_cons, hT, FB.hasB]; simp
  have star := FB.noStar
  subst hkw
  simp only [checkBuiltinCall, FB.newKind, FB.newSplit, FB.newRow]
  repeat (first
    | refine wpAny_loadPart_at cC ?_
    | (refine wpAny_isSubtype_exc cC ?_; rw [cont])
    | refine wpAny_staticBase_exc cC ?_
    | refine wpAny_madeBy_exc cC ?_
    | simp only [bne_self_eq_false, Bool.false_eq_true, if_false]
    | wp_step)
  exact z

theorem kw_new {u0 : Value} (FB : ExcBaseFacts B newId initId bmB) (hT : ∀ X : String, bm.contains (.type X) = bmB.contains (.type X)) (hkw : kw = [(("value" : Str), u0)])
    (cC : h.get? C = some (excClassObj nm q C N bs bm hdct sn sub ab col dd k0 k1 k2 k3 k5 newId))
    (z : R (.ok (.ret (.ref (h.objs.size + 1)))) ⟨(h.push (PySem.W.kdv_tup [])).push (PySem.HandSPX.excO C h.objs.size), g, d, t, os⟩) :
    codeAny (model prog w) A (.builtin newId ⟨[.ref C], kw⟩) R ⟨h, g, d, t, os⟩ := by
  have ends := FB.ends
  have cB : (Value.ref C :: bm).contains (.type B) = true := by
    rw [List.contains_cons, hT, FB.hasB]; simp
  have cA : (Value.ref C :: bm).contains (.type "AttributeError") = false := by
    rw [List.contains_cons, hT, FB.noAttr]; rfl
  have cN : (Value.ref C :: bm).contains (.type "NameError") = false := by
    rw [List.contains_cons, hT, FB.noName]; rfl
  subst hkw
  refine codeAny_builtinAt FB.entry ?_
  unfold Builtin.«BaseException.__new__»
  refine wpAt_bind ?_
  show wpAt _ _ _ (stack >>= _) _ _ _
  refine wpAt_bind (wpAt_stack fun p below => wpAt_of_wpAny ?_)
  wp_walk
  refine wpAt_of_wpAny ?_
  rw [FB.owner]
  repeat (first
    | with_reducible refine wpAny_madeHere_exc FB.canon cC ?_
    | with_reducible refine wpAny_loadPart_at cC ?_
    | (with_reducible refine wpAny_isSubtype_exc cC ?_; first | rw [cB] | rw [cA] | rw [cN])
    | wp_step)
  show R _ _
  rw [Heap.size_push]
  exact z
theorem kw_type_call {u0 : Value} {fI : Addr} {Q : Fin → Shared → Prop} (FB : ExcBaseFacts B newId initId bmB) (hT : ∀ X : String, bm.contains (.type X) = bmB.contains (.type X)) (hkw : kw = [(("value" : Str), u0)])
    (cC : h.get? C = some (excClassObj nm q C N bs bm hdct sn sub ab col dd k0 k1 k2 k3 k5 newId))
    (hi : PySem.W.Looks (model prog w) h (typeLookup (.ref C) "__init__") (some (.ref fI)))
    (hb : ∀ self, PySem.W.Looks (model prog w) h (bindSpecial (.ref fI) self) (.ref fI, [self]))
    (z : codeAny (model prog w) A (.call (.ref fI) ⟨[.ref (h.objs.size + 1)], kw⟩)
      (fun r s' => match r with
        | .ok (.ret v) => v = .none ∧ Q (.done (.ret (.ref (h.objs.size + 1)))) s'
        | .ok _ => False
        | .error e => E e s') ⟨(h.push (PySem.W.kdv_tup [])).push (PySem.HandSPX.excO C h.objs.size), g, d, t, os⟩) :
    wpAny (model prog w) A (Builtin.«type.__call__» ⟨[.ref C], kw⟩) Q E ⟨h, g, d, t, os⟩ := by
  repeat (first
    | with_reducible refine wpAny_loadPart_at cC ?_
    | with_reducible refine wpAny_madeBy_exc cC ?_
    | wp_step)
  refine codeAny_call_builtin_code (Code.quiet_builtin _ FB.quiet) (kw_check_new FB hT hkw cC ?_)
  refine kw_new FB hT hkw cC ?_
  show wpAny _ _ _ _ _ _
  have up : ∀ b o, h.get? b = some o → ((h.push (PySem.W.kdv_tup [])).push (PySem.HandSPX.excO C h.objs.size)).get? b = some o :=
    fun b o e => Heap.get?_push_of_some _ (Heap.get?_push_of_some _ e)
  have cC1 := up _ _ cC
  have get1 : ((h.push (PySem.W.kdv_tup [])).push (PySem.HandSPX.excO C h.objs.size)).get? (h.objs.size + 1) = some (PySem.HandSPX.excO C h.objs.size) := by heap_get
  have cCC : (Value.ref C :: bm).contains (.ref C) = true := by simp
  have i1 := hi.keeps up
  have b1 := (hb (.ref (h.objs.size + 1))).keeps up
  unfold isInstance
  repeat (first
    | with_reducible refine wpAny_loadPart_at get1 ?_
    | (with_reducible refine wpAny_isSubtype_exc cC1 ?_; rw [cCC])
    | wp_step)
  show wpAny _ _ (typeLookup (.ref C) _) _ _ _
  refine i1.at ?_
  refine wpAny_holding (wpAny_bind (b1.at ?_))
  refine wpAny_bind (wpAny_call (codeAny_mono z fun r s' y => ?_))
  rcases r with e | (v | _ | _ | _) <;> first | exact y | exact y.elim | skip
  obtain ⟨rfl, y⟩ := y
  first
    | exact wpAny_pure (wpAny_pure y)
    | (wp_walk; exact y)

theorem kw_check_type {M : Model} {u0 : Value} {Q : Unit → Shared → Prop} (hkw : kw = [(("value" : Str), u0)]) (cC : h.get? C = some (excClassObj nm q C N bs bm hdct sn sub ab col dd k0 k1 k2 k3 k5 newId))
    (z : Q () ⟨h, g, d, t, os⟩) : wpAny M A (checkBuiltinCall "type.__call__" ⟨[.ref C], kw⟩) Q E ⟨h, g, d, t, os⟩ := by
  have f3 := tc_sub
  subst hkw
  have hT : (⟨h, g, d, t, os⟩ : Shared).TypeIs (.ref C) "type" := ⟨_, cC, rfl⟩
  simp only [checkBuiltinCall, tc_kind, tc_split]
  repeat (any_goals (first
    | assumption
    | with_reducible refine wpAny_loadPart_at cC ?_
    | with_reducible refine wpAny_onRaise ?_
    | with_reducible refine wpAny_map ?_
    | wp_step))
theorem kw_call {u0 : Value} {fI : Addr} (FB : ExcBaseFacts B newId initId bmB) (hT : ∀ X : String, bm.contains (.type X) = bmB.contains (.type X)) (hkw : kw = [(("value" : Str), u0)])
    (cC : h.get? C = some (excClassObj nm q C N bs bm hdct sn sub ab col dd k0 k1 k2 k3 k5 newId))
    (hi : PySem.W.Looks (model prog w) h (typeLookup (.ref C) "__init__") (some (.ref fI)))
    (hb : ∀ self, PySem.W.Looks (model prog w) h (bindSpecial (.ref fI) self) (.ref fI, [self]))
    (z : codeAny (model prog w) (A.under (.builtin "type.__call__" ⟨[.ref C], kw⟩)) (.call (.ref fI) ⟨[.ref (h.objs.size + 1)], kw⟩) (PySem.W.InitBack (h.objs.size + 1) R)
      ⟨(h.push (PySem.W.kdv_tup [])).push (PySem.HandSPX.excO C h.objs.size), g, d, t, os⟩) :
    codeAny (model prog w) A (.call (.ref C) ⟨[], kw⟩) R ⟨h, g, d, t, os⟩ := by
  have f1 := tc_lookup
  have f2 := tc_bind (.ref C)
  have hTy : (⟨h, g, d, t, os⟩ : Shared).TypeIs (.ref C) "type" := ⟨_, cC, rfl⟩
  refine codeAny_of_tree ?_
  show wpAny _ _ (callAny (.ref C) _) _ _ _
  repeat (any_goals (first
    | assumption
    | with_reducible refine wpAny_loadPart_at cC ?_
    | wp_step))
  refine ⟨rfl, ?_⟩
  refine codeAny_call_builtin_at (Code.quiet_builtin _ (by decide +kernel)) entry_typeCall (kw_check_type hkw cC (kw_type_call FB hT hkw cC hi hb ?_))
  refine codeAny_mono z fun r s' y => ?_
  rcases r with e | (v | _ | _ | _) <;> exact y
end
end MP
set_option Elab.async false
set_option linter.all false
set_option maxRecDepth 100000
set_option maxHeartbeats 2000000
/-! X3: an own error made by a keyword, as a value; its class, its value. -/
namespace MP
open PySem PySem.Spec L2
section
variable {X : Cx} {e : Expr} {es : List Expr} {me : M} {p pos kpos : Pos} {C : Str} {D0 f : Addr} {fd : FuncData}
theorem run_errK {k : Nat} {C : Addr} {pins : List (Addr × Obj)} {σ : St} {H : Hp} {s : Shared} {Q : VK} {u : Value} {v : V} (EC : ErrC X.K C D0 f) (F1 : FnOk X.prog X.w X.K X.mg X.base CX0 k f fd ["self", "value"] (spI X.K D0 f)) (hr : Room (k + 1) X.A)
    (hb : ∀ (s : Shared) (a u : Value), BindsTo s fd ⟨[a], [(("value" : Str), u)]⟩ [(("self" : Str), a), ("value", u)])
    (I : Inv X pins σ H s) (r : RelV v u)
    (h : ∀ a dx, H a = none → H dx = none → dx ≠ a → Q (.ref a) (upd (upd (upd H a (exo a C none)) dx (exd dx [("value", v)])) a (exo a C (some dx)))) :
    wpAny (model X.prog X.w) X.A (call (.ref C) [] [(("value" : Str), u)]) (EP X pins σ Q) X.xe s := by
  obtain ⟨nm, q, N, bs, bm, sn, sub, ab, col, dd, k0, k1, k2, k3, k5, hC, hbm⟩ := EC.oex.cls
  obtain ⟨hp, g, dr, tk, os⟩ := s
  have hn : H (hp.objs.size + 1) = none := I.hok.fresh (Nat.le_succ _)
  have up : ∀ b o, hp.get? b = some o → ((hp.push (PySem.W.kdv_tup [])).push (PySem.HandSPX.excO C hp.objs.size)).get? b = some o := fun b o e => Heap.get?_push_of_some _ (Heap.get?_push_of_some _ e)
  have get1 : ((hp.push (PySem.W.kdv_tup [])).push (PySem.HandSPX.excO C hp.objs.size)).get? (hp.objs.size + 1) = some (PySem.HandSPX.excO C hp.objs.size) := by heap_get
  have I2 : Inv X pins σ (upd H (hp.objs.size + 1) (exo (hp.objs.size + 1) C none)) ⟨(hp.push (PySem.W.kdv_tup [])).push (PySem.HandSPX.excO C hp.objs.size), g, dr, tk, os⟩ :=
    I.laid (t' := tk) (a := hp.objs.size + 1) (o := exo (hp.objs.size + 1) C none) (h' := (hp.push (PySem.W.kdv_tup [])).push (PySem.HandSPX.excO C hp.objs.size)) up (Nat.le_succ _) (exo_ok get1)
  have r2 : Vals [V.ref (hp.objs.size + 1), v] [Value.ref (hp.objs.size + 1), u] := .cons rfl (.cons r .nil)
  refine wpAny_call (kw_call F.excBase_ValueError (fun Y => PySem.HandSPX.refsVE_contains Y bm hbm) rfl (I.kIn _ _ hC) (PySem.W.looks_findIn I.kIn EC.ini) (fun self => PySem.W.bind_fn I.kIn self EC.fty)
    (codeAny_mono (F1.run _ X.stack _ _ ⟨[Value.ref (hp.objs.size + 1)], [(("value" : Str), u)]⟩ [Value.ref (hp.objs.size + 1), u] _ (fun v H2 => v = .non ∧ Q (.ref (hp.objs.size + 1)) H2) (fun _ _ _ => False) (hr.make C [] [(("value" : Str), u)]) (I2.env0.make C [] [(("value" : Str), u)]) (hb _ _ u) r2
      ⟨_, C, v, rfl, EC, upd_same, fun dx hdx hne => ⟨rfl, ?_⟩⟩) fun r s' hq' => ?_))
  · have hdx' : H dx = none := by rw [upd_ne hne] at hdx; exact hdx
    exact h _ dx hn hdx' hne
  · cases r with
    | error er => exact pass0 pins σ _ _ er s' I2 hq'
    | ok fl =>
      cases fl with
      | ret u =>
        obtain ⟨v, H', I3, rv, ev, q3⟩ := I2.after hq'
        subst ev
        exact ⟨rv, ⟨V.ref _, H', I3, rfl, q3⟩⟩
      | next => exact False.elim hq'
      | brk => exact False.elim hq'
      | cont => exact False.elim hq'
theorem den_errK {k j : Nat} (EC : ErrC X.K (He.ga X.K C) D0 f) (F1 : FnOk X.prog X.w X.K X.mg X.base CX0 k f fd ["self", "value"] (spI X.K D0 f)) (hr : Room j X.A) (hk : k + 1 ≤ j)
    (hb : ∀ (s : Shared) (a u : Value), BindsTo s fd ⟨[a], [(("value" : Str), u)]⟩ [(("self" : Str), a), ("value", u)]) (hg : Gl X C) (hm : X.mg C = some (.ref (He.ga X.K C)))
    (he : Den X B0 e me) (hdb : (C == ("__debug__" : Str)) = false := by decide)
    (hall : (backToKw pos (keywordEach [⟨some ("value" : Str), e, kpos⟩] X.env)).all (·.1.isSome) = true := by rfl) (hks : (backToKw pos (keywordEach [⟨some ("value" : Str), e, kpos⟩] X.env)).filterMap (·.1) = [("value" : Str)] := by rfl)
    (hpl : ((backTo pos (starEach [] X.env)).any (·.1) || (backToKw pos (keywordEach [⟨some ("value" : Str), e, kpos⟩] X.env)).any (·.1.isNone)) = false := by rfl) :
    Den X B0 (.Call (.Name C p) [] [⟨some ("value" : Str), e, kpos⟩] pos) (mErr C (aCons me aNil)) := by
  refine ⟨fun pins s σ H Q I h => ?_⟩
  obtain ⟨ρ, hh, env, R, E, g⟩ := h
  refine wpAny_Call_Name_kw (ld_glob I hg hm ?_ hdb)
  refine PySem.W.callWith_KW0 (h₀ := X.base) I.ok.mod.kin EC.oex.kC hall ?_ hpl
  have g' : Good X.K B0 (rD X.K) σ ρ H Q ((me env hh).bind fun d h1 => .ok (.loc h1.length) (h1 ++ [.err C d])) := by
    unfold mErr aCons aNil at g
    cases q : me env hh with
    | ok d h1 => rw [q] at g; exact g
    | er c d h1 => rw [q] at g; exact g
    | no => rw [q] at g; exact g
  refine thn ((pk_cons he pk_nil).run pos pins s σ H (fun vs H1 => ∃ v, vs = [v] ∧ ∃ ρ1 h1 x, At X.K ρ1 h1 H1 env σ ∧ RV X.K ρ1 H1 x v ∧ Good X.K B0 (rD X.K) σ ρ1 H1 Q (.ok (.loc h1.length) (h1 ++ [.err C x]))) I ?_) fun ws s2 ⟨zs, H2, I2, rz, v, ez, ρ1, h1, x, A1, rx, g1⟩ => ⟨I2.kIn, ?_⟩
  · exact (tR_bind (rel := rD X.K) (rel' := rD X.K) ⟨R, E⟩ g').imp fun v H1 ⟨ρ1, h1, x, A1, e1, rx, g1⟩ => ⟨v, rfl, ρ1, h1, x, A1, rx, g1⟩
  · subst ez
    rw [hks]
    cases rz with
    | @cons _ u _ us' ru r' =>
      cases r'
      exact run_errK EC F1 (hr.mono hk) hb I2 ru fun a dx q1 q2 q3 => err_ok A1.R rx q1 q2 q3 g1
end
end MP
set_option Elab.async false
set_option linter.all false
set_option maxRecDepth 100000
set_option maxHeartbeats 2000000
/-! X4: an own error's value; isinstance of it. -/
namespace MP
open PySem PySem.Spec L2
section
variable {X : Cx} {e : Expr} {me : M} {pos : Pos}
theorem loc_err {K : PySem.W.Frag} {ρ : List Addr} {H : Hp} {h : MH} {n : Nat} {v : V} {C : Str} {d : D} (R : HR K ρ h H) (r : RV K ρ H (.loc n) v) (q : h[n]? = some (.err C d)) :
    ∃ a dx x o od, v = .ref a ∧ H a = some o ∧ EO a (He.ga K C) dx o ∧ H dx = some od ∧ XO dx [(("value" : Str), x)] od ∧ RV K ρ H d x := by
  cases r with
  | loc ea =>
    obtain ⟨dx, x, o, od, e1, e2, e3, e4, _, rx⟩ := R.ob _ _ _ ea q
    exact ⟨_, dx, x, o, od, rfl, e1, e2, e3, e4, rx⟩
/-- the instance as the fragment's deciders take it -/
theorem err_inst {pins : List (Addr × Obj)} {σ : St} {H : Hp} {s : Shared} {a C dx : Addr} {x : V} {o od : HO} (I : Inv X pins σ H s) (e1 : H a = some o) (eo : EO a C dx o) (e2 : H dx = some od) (xo : XO dx [(("value" : Str), x)] od) :
    ∃ oe od, PySem.W.InstAt s.heap a oe C (some od) ∧ ∃ u, RelV x u ∧ PySem.W.lookIn ("value" : Str) od = some (some u) := by
  obtain ⟨φ, rfl, hφ⟩ := eo
  have h1 : ObjOk X.prog X.w H s.heap a (.ext φ) := I.hok a _ e1
  obtain ⟨ob, vs, ho, hz1, hz2, hd⟩ := hφ _ h1.1
  have h2 : ∃ mA, s.heap.Ns1 dx mA ∧ ∀ f, RelO (([(("value" : Str), x)] : List (Str × V)).lookup f) (mA f) := by
    cases xo with
    | ex => exact exd_at I.hok e2
    | xd => exact I.hok dx _ e2
  obtain ⟨mA, hns, rel⟩ := h2
  obtain ⟨od, hod, hl⟩ := lookIn_ns hns
  obtain ⟨u, hu, ru⟩ := RelO.some_of (v := x) (o := mA "value") (by have := rel "value"; exact this)
  exact ⟨ob, od, ⟨ho, hz1, by unfold PySem.W.notCls; rw [hd] <;> rfl, by rw [hz2]; exact hod⟩, u, ru, by rw [hl, hu]⟩

def fErrV (Cs : List Str) (x : D) (h : MH) : R D := match x with
  | .loc n => match h[n]? with
    | some (.err C d) => if C ∈ Cs then .ok d h else .no
    | _ => .no
  | _ => .no
def mErrV (Cs : List Str) (m : M) : M := fun env h => (m env h).bind (fErrV Cs)
theorem den_errV {Cs : List Str} (hc : ∀ C ∈ Cs, XfC X.K (He.ga X.K C) ∧ PySem.W.findIn X.K (.ref (He.ga X.K C)) "value" = some none) (he : Den X B0 e me) (hb : attributeBase e "value" X.env (eval e X.env) = eval e X.env := by rfl) : Den X B0 (.Attribute e "value" pos) (mErrV Cs me) := by
  refine ⟨fun pins s σ H Q I h => ?_⟩
  obtain ⟨ρ, hh, env, R, E, g⟩ := h
  refine attr_of hb (thn (he.run pins s σ H _ I (tR_bind ⟨R, E⟩ g)) fun u s1 ⟨w, H1, I1, r1, ρ1, h1, x, A1, e1, rx, g1⟩ => ?_)
  unfold fErrV at g1
  split at g1
  · split at g1
    · rename_i n C d eh
      obtain ⟨hC, g2⟩ := good_if g1
      obtain ⟨a, dx, y, o1, od1, rfl, q1, q1', q2, q2', ry⟩ := loc_err A1.R rx eh
      obtain ⟨oe, od, J, u', ru, hl⟩ := err_inst I1 q1 q1' q2 q2'
      obtain rfl : u = Value.ref a := r1
      have T := (hc C hC).1
      exact PySem.HandSPX.exc_get I1.kIn J T.ga T.gg T.exC (PySem.W.findObj_own T.hdC (hc C hC).2 rfl hl) (handed_of ru) ⟨y, H1, I1.tok _, ru, g2.ok0 A1.R ry⟩
    · exact g1.elim
  · exact g1.elim
/-! isinstance -/
def bIsE (T : Str → Str → Option Bool) (Tb : Str → String → Option Bool) : List D → MH → R D
  | [.loc n, .fn Y], h => (match h[n]? with
    | some (.err C _) => (match T C Y with
      | some b => .ok (.bl b) h
      | none => .no)
    | _ => .no)
  | [.loc n, .ty Y], h => (match h[n]? with
    | some (.err C _) => (match Tb C Y with
      | some b => .ok (.bl b) h
      | none => .no)
    | _ => .no)
  | _, _ => .no
def rIsX (K : PySem.W.Frag) : List V → Hp → VK → Prop := fun xs H Q => ∃ (a C dx : Addr) (x c : V) (cv : Value) (b : Bool) (o od : HO), xs = [.ref a, c] ∧ H a = some o ∧ EO a C dx o ∧ H dx = some od ∧ XO dx [(("value" : Str), x)] od ∧ ExcC K C ∧ (∀ u, RelV c u → u = cv) ∧ PySem.W.kitOne K (.ref C) cv = some b ∧ Q (.bl b) H
/-- e.__class__ of an error, whatever its dict -/
theorem kin_class_err {prog : Program} {w : World} {A : Around} {E : Value → Shared → Prop} {s : Shared} {K : PySem.W.Frag} {x D0 : Addr} {ox od : Obj} {Q : Option Value → Shared → Prop} (EC : ExcC K D0) (X : K.In s.heap) (J : PySem.W.InstAt s.heap x ox D0 (some od))
    (h : Q (some (.ref D0)) { s with toks := s.toks + 1 }) : wpAny (model prog w) A (getAttr? (.ref x) "__class__") Q E s := by
  have hc : (PySem.W.clsIn K D0).isSome = true := by
    obtain ⟨cd, hc, _⟩ := PySem.W.any_some EC.hd
    rw [hc]; rfl
  have hf := PySem.W.findObj_data (od := od) hc EC.ha EC.hn EC.ht
  obtain ⟨hp, g, d, t, os⟩ := s
  have l0 := J.type (M := model prog w)
  have l1 := PySem.W.looks_findIn (M := model prog w) X EC.hg
  have l2 := PySem.W.looks_findIn (M := model prog w) X EC.hk
  have l3 := PySem.W.looks_find (M := model prog w) X J hf
  have sub : PySem.W.Looks (model prog w) hp (isInstance (.ref x) (.type "BaseException")) true := l0.andThen (PySem.W.looks_subIn X EC.hs)
  have n0 : (false && onTheHeap (Value.builtin "BaseException.__getattribute__")) = false := rfl
  have n2 : (Value.builtin "BaseException.__getattribute__" == Value.builtin "object.__getattribute__") = false := by decide +kernel
  have n1 : (onTheHeap (Value.ref D0) && Value.builtin "BaseException.__getattribute__" == Value.builtin "object.__getattribute__") = false := by
    rw [n2]; rfl
  unfold getAttr? getAttrBy? getAttrBy
  refine wpAny_bind (wpAny_mkText (wpAny_bind (wpAny_attempt (wpAny_holding (wpAny_bind (l0.at (wpAny_bind (l1.at ?_))))))))
  show wpAny _ _ (if (onTheHeap (Value.ref D0) && Value.builtin "BaseException.__getattribute__" == Value.builtin "object.__getattribute__") = true then _ else _) _ _ _
  rw [n1, if_neg Bool.false_ne_true]
  unfold getAttrByItsOwn hookBefore
  refine wpAny_bind ?_
  rw [if_pos (show onTheHeap (Value.ref D0) = true from rfl)]
  refine l2.at ?_
  refine wpAny_bind (wpAny_attempt (wpAny_holding ?_))
  unfold callGetattribute
  rw [n0, if_neg Bool.false_ne_true]
  unfold boundAndCalled
  rw [PySem.F.excAttr_ValueError.ga.bind (.ref x)]
  refine wpAny_bind (wpAny_pure ?_)
  show wpAny _ _ (call (.builtin "BaseException.__getattribute__") [.ref x, .str "__class__" t]) _ _ _
  refine wpAny_call (codeAny_call_builtin PySem.F.excAttr_ValueError.ga.plain PySem.F.entry_bexc_ga ?_)
  refine @PySem.W.check_slot (model prog w) _ _ ⟨hp, g, d, t + 1, os⟩ "BaseException.__getattribute__" "BaseException" "__getattribute__" (.ref x) [.str "__class__" t] [] _ (by decide +kernel) (by decide +kernel) sub (PySem.F.args_bexc_ga (.ref x) (.str "__class__" t)) ?_
  unfold Builtin.«object.__getattribute__»
  refine wpAny_bind (wpAny_of_eq (a := ((Value.ref x : Value), [Value.str "__class__" t])) (by first | rfl | (simp only [slotArgs]; rfl)) ?_)
  refine wpAny_bind (wpAny_pure (wpAny_bind (l0.at (wpAny_bind (l3.at ?_)))))
  show wpAny _ _ (holding [Value.builtin "object.__class__"] (call (.builtin "getset_descriptor.__get__") [.builtin "object.__class__", .ref x, .ref D0]) >>= ret) _ _ _
  refine wpAny_bind (wpAny_holding (wpAny_call (PySem.W.class_get (s := ⟨hp, g, d, t + 1, os⟩) (ox := ox) (od := some od) X J EC.hm ?_)))
  refine wpAny_pure ?_
  show wpAny _ _ (handedOut (.ref D0)) _ _ _
  rw [PySem.W.handedOut_of (v := .ref D0) rfl]
  first
    | exact wpAny_pure (wpAny_pure h)
    | exact wpAny_pure h
    | exact wpAny_pure (wpAny_bind (wpAny_pure (wpAny_pure h)))
theorem kitx_err {K : PySem.W.Frag} {x D0 : Addr} {ox od : Obj} (EC : ExcC K D0) : PySem.W.KitX K (.ref x) (.ref D0) (fun h => PySem.W.InstAt h x ox D0 (some od)) where
  ty := fun _ _ _ J => J.type
  it := fun _ _ X _ => by
    obtain ⟨cdD, hcD, _⟩ := PySem.W.any_some EC.hd
    unfold PySem.W.clsIn at hcD
    split at hcD
    · rename_i c1 d1 cd1 sl1 ho
      intro A' Q' E' s' k q
      unfold isType loadHead
      exact wpAny_bind (wpAny_loadPart (k _ _ (X _ _ ho)) (wpAny_pure q))
    · cases hcD
  ne := fun h tp dd its n sl X htp => by
    obtain ⟨cdD, hcD, _⟩ := PySem.W.any_some EC.hd
    refine Bool.eq_false_iff.mpr fun q => ?_
    have e : D0 = tp := Value.ref.inj (beq_iff_eq.mp q)
    subst e
    unfold PySem.W.clsIn at hcD
    split at hcD
    · rename_i c1 d1 cd1 sl1 ho
      have z := (X _ _ ho).symm.trans htp
      cases z
    · cases hcD
  ca := fun X J k => kin_class_err EC X J k
theorem call_isX : CallR X (.builtin "isinstance") (rIsX X.K) := by
  intro pins s σ H xs us Q I r h
  obtain ⟨a, C, dx, x, c, cv, b, o1, od1, rfl, q1, q1', q2, q2', EC, hcv, e, q⟩ := h
  cases r with
  | @cons _ u0 _ us' ra rr =>
    cases rr with
    | @cons _ u1 _ us'' rt rr =>
      cases rr
      obtain rfl : u0 = Value.ref a := ra
      have ec := hcv _ rt
      subst ec
      obtain ⟨oe, od, J, _⟩ := err_inst I q1 q1' q2 q2'
      exact PySem.W.kia_one (kitx_err EC) I.kIn J e (fun z => nomatch z) fun tk => ⟨.bl b, H, I.kept (t' := tk) fun _ _ z => z, rfl, q⟩
theorem isE_ok {K : PySem.W.Frag} {T : Str → Str → Option Bool} {Tb : Str → String → Option Bool} (hT : ∀ C Y b, T C Y = some b → ExcC K (He.ga K C) ∧ PySem.W.kitOne K (.ref (He.ga K C)) (.ref (He.ga K Y)) = some b) (hTb : ∀ C Y b, Tb C Y = some b → ExcC K (He.ga K C) ∧ PySem.W.kitOne K (.ref (He.ga K C)) (.type Y) = some b) :
    CallM K B0 (rIsX K) (bIsE T Tb) := by
  intro σ ρ h H Q xs vs R r g
  unfold bIsE at g
  split at g
  · rename_i n Y
    split at g
    · rename_i C d eh
      split at g
      · rename_i b eb
        cases r with
        | @cons _ v1 _ vs1 r1 r2 =>
          cases r2 with
          | @cons _ v2 _ vs2 r3 r4 =>
            cases r4
            obtain ⟨a, dx, x, o1, od1, rfl, q1, q1', q2, q2', rx⟩ := loc_err R r1 eh
            cases r3
            exact ⟨a, _, dx, x, _, .ref (He.ga K Y), b, o1, od1, rfl, q1, q1', q2, q2', (hT C Y b eb).1, fun u ru => ru, (hT C Y b eb).2, g.ok0 R (.bl b)⟩
      · exact g.elim
    · exact g.elim
  · rename_i n Y
    split at g
    · rename_i C d eh
      split at g
      · rename_i b eb
        cases r with
        | @cons _ v1 _ vs1 r1 r2 =>
          cases r2 with
          | @cons _ v2 _ vs2 r3 r4 =>
            cases r4
            obtain ⟨a, dx, x, o1, od1, rfl, q1, q1', q2, q2', rx⟩ := loc_err R r1 eh
            cases r3
            exact ⟨a, _, dx, x, _, .type Y, b, o1, od1, rfl, q1, q1', q2, q2', (hTb C Y b eb).1, fun u ru => ru, (hTb C Y b eb).2, g.ok0 R (.bl b)⟩
      · exact g.elim
    · exact g.elim
  · exact g.elim
end
end MP
set_option Elab.async false
set_option linter.all false
set_option maxRecDepth 100000
set_option maxHeartbeats 2000000
/-! X5: repr of data at any depth. -/
namespace MP
open PySem PySem.Spec L2
def keyP : Key → PyData
  | .inl i => .int i
  | .inr s => .str s
mutual
/-- d as data, n steps deep -/
def deepD (h : MH) : Nat → D → Option PyData
  | 0, _ => none
  | _ + 1, .non => some .none
  | _ + 1, .bl b => some (.bool b)
  | _ + 1, .int i => some (.int i)
  | _ + 1, .str s => some (.str s)
  | n + 1, .tup ds => (deepL h n ds).map .tuple
  | n + 1, .loc m => match h[m]? with
    | some (.lst ds) => (deepL h n ds).map .list
    | some (.dic kvs) => (deepK h n kvs).map .dict
    | _ => none
  | _ + 1, _ => none
def deepL (h : MH) : Nat → List D → Option (List PyData)
  | _, [] => some []
  | 0, _ => none
  | n + 1, d :: ds => match deepD h n d, deepL h n ds with
    | some p, some ps => some (p :: ps)
    | _, _ => none
def deepK (h : MH) : Nat → List (Key × D) → Option (List (PyData × PyData))
  | _, [] => some []
  | 0, _ => none
  | n + 1, (k, d) :: ds => match deepD h n d, deepK h n ds with
    | some p, some ps => some ((keyP k, p) :: ps)
    | _, _ => none
end
section
variable {X : Cx} {pins : List (Addr × Obj)} {σ : St} {H : Hp} {s : Shared} {ρ : List Addr} {h : MH}
/-- what stands at sys.modules is no list -/
structure SysK (K : PySem.W.Frag) : Prop where
  at_ : ∃ o, K.lookup sysModules = some o ∧ o.cls ≠ .type "list"
theorem key_reads {k : Key} {u : Value} (r : keyIs k u = true) : Reads s.heap u (keyP k) [] := by
  rcases keyIs_shape r with ⟨i, t, rfl, rfl⟩ | ⟨x, t, rfl, rfl⟩
  · exact .int i t
  · exact .str x t
theorem pairs_reads {P : Program} {w : World} : ∀ {es : List DictEntry} {vs : List (Key × Value)}, Pairs (mixKind P w) es vs → ReadsAll s.heap (es.map (·.key)) (vs.map fun q => keyP q.1) [] ∧ es.map (·.val) = vs.map (·.2)
  | _, _, .nil => ⟨.nil, rfl⟩
  | _, _, .cons h1 h2 t => by
    obtain ⟨a, b⟩ := pairs_reads t
    exact ⟨.cons (as := []) (key_reads h1) a, by simp [h2, b]⟩
theorem deep_reads (I : Inv X pins σ H s) (R : HR X.K ρ h H) (S : SysK X.K) : ∀ n,
    (∀ (d : D) (v : V) (u : Value) (p : PyData), deepD h n d = some p → RV X.K ρ H d v → RelV v u → ∃ as, Reads s.heap u p as ∧ sysModules ∉ as) ∧
    (∀ (ds : List D) (vs : List V) (us : List Value) (ps : List PyData), deepL h n ds = some ps → RVs X.K ρ H ds vs → Vals vs us → ∃ as, ReadsAll s.heap us ps as ∧ sysModules ∉ as) ∧
    (∀ (ds : List (Key × D)) (vs : List (Key × V)) (us : List (Key × Value)) (ps : List (PyData × PyData)), deepK h n ds = some ps → RKs X.K ρ H ds vs → KV vs us → us.map (·.1) = ds.map (·.1) ∧ ps.map (·.1) = ds.map (fun k => keyP k.1) ∧ ∃ as, ReadsAll s.heap (us.map (·.2)) (ps.map (·.2)) as ∧ sysModules ∉ as) := by
  intro n
  induction n with
  | zero =>
    refine ⟨fun d v u p e => (by cases e), fun ds vs us ps e r rv => ?_, fun ds vs us ps e r rv => ?_⟩
    · cases ds with
      | nil => cases e; cases r; cases rv; exact ⟨[], .nil, by simp⟩
      | cons a b => simp [deepL] at e
    · cases ds with
      | nil => cases e; cases r; cases rv; exact ⟨rfl, rfl, [], .nil, by simp⟩
      | cons a b => simp [deepK] at e
  | succ n ih =>
    obtain ⟨i1, i2, i3⟩ := ih
    refine ⟨fun d v u p e r rv => ?_, fun ds vs us ps e r rv => ?_, fun ds vs us ps e r rv => ?_⟩
    · cases d with
      | non => cases e; cases r; cases rv; exact ⟨_, .none, by simp⟩
      | bl b => cases e; cases r; cases rv; exact ⟨_, .bool b, by simp⟩
      | int i => cases e; cases r; obtain ⟨t, rfl⟩ := rv; exact ⟨_, .int i t, by simp⟩
      | str i => cases e; cases r; obtain ⟨t, rfl⟩ := rv; exact ⟨_, .str i t, by simp⟩
      | tup ds =>
        simp only [deepD] at e
        cases q : deepL h n ds with
        | none => rw [q] at e; cases e
        | some ps =>
          rw [q] at e; cases e
          cases r with
          | tup ea rs =>
            cases rv
            obtain ⟨its, rv', ⟨o, ho, hc, m, hd⟩, _⟩ := I.tuple (SqT.tup ea)
            obtain ⟨as, hr, hn⟩ := i2 ds _ its ps q rs rv'
            exact ⟨as, .tuple ho hc hd hr, hn⟩
      | loc m =>
        simp only [deepD] at e
        cases r with
        | loc ea =>
          cases rv
          split at e
          · rename_i ds eh
            cases q : deepL h n ds with
            | none => rw [q] at e; cases e
            | some ps =>
              rw [q] at e; cases e
              obtain ⟨ws, eH, rs⟩ := R.ob _ _ _ ea eh
              obtain ⟨_, its, k, rv', hg⟩ : ObjOk X.prog X.w H s.heap _ (.lst ws) := I.hok _ _ eH
              obtain ⟨as, hr, hn⟩ := i2 ds _ its ps q rs rv'
              refine ⟨_, .list hg rfl rfl (by simpa using hr), ?_⟩
              intro z
              rcases List.mem_cons.mp z with z | z
              · obtain ⟨o, lo, hc⟩ := S.at_
                have := I.kIn _ _ lo
                rw [z, hg] at this
                cases this
                exact hc rfl
              · exact hn z
          · rename_i kvs eh
            cases q : deepK h n kvs with
            | none => rw [q] at e; cases e
            | some ps =>
              rw [q] at e; cases e
              obtain ⟨ws, eH, rs⟩ := R.ob _ _ _ ea eh
              obtain ⟨hz, hsys, vs, rel, dd⟩ := dk_of I.hok eH
              obtain ⟨a1, a2, as, hr, hn⟩ := i3 kvs _ vs ps q rs rel
              obtain ⟨o, es, ep, ho, hx, hd, _, pr, _⟩ := dd
              obtain ⟨pk, pv⟩ := pairs_reads (s := s) pr
              have ek : (vs.map fun q => keyP q.1) = ps.map (·.1) := by
                rw [a2]
                have := congrArg (List.map keyP) a1
                rw [List.map_map, List.map_map] at this
                exact this
              rw [ek] at pk
              rw [← pv] at hr
              refine ⟨_, .dict ho hx.1 hd pk hr, ?_⟩
              intro z
              rcases List.mem_append.mp z with z | z
              · rcases List.mem_cons.mp z with z | z
                · rw [← z] at hsys; simp at hsys
                · cases z
              · exact hn z
          · cases e
      | _ => simp [deepD] at e
    · cases ds with
      | nil => cases e; cases r; cases rv; exact ⟨[], .nil, by simp⟩
      | cons d ds =>
        simp only [deepL] at e
        cases q1 : deepD h n d with
        | none => rw [q1] at e; simp at e
        | some p =>
          cases q2 : deepL h n ds with
          | none => rw [q1, q2] at e; simp at e
          | some pr =>
            rw [q1, q2] at e; simp at e; subst e
            cases r with
            | cons r1 r2 =>
              cases rv with
              | cons v1 v2 =>
                obtain ⟨as, x1, n1⟩ := i1 d _ _ p q1 r1 v1
                obtain ⟨bs, x2, n2⟩ := i2 ds _ _ pr q2 r2 v2
                exact ⟨as ++ bs, .cons x1 x2, by simp [n1, n2]⟩
    · cases ds with
      | nil => cases e; cases r; cases rv; exact ⟨rfl, rfl, [], .nil, by simp⟩
      | cons kd ds =>
        obtain ⟨k, d⟩ := kd
        simp only [deepK] at e
        cases q1 : deepD h n d with
        | none => rw [q1] at e; simp at e
        | some p =>
          cases q2 : deepK h n ds with
          | none => rw [q1, q2] at e; simp at e
          | some pr =>
            rw [q1, q2] at e; simp at e; subst e
            cases r with
            | cons r1 r2 =>
              cases rv with
              | cons v1 v2 =>
                obtain ⟨v1a, v1b⟩ := v1
                obtain ⟨as, x1, n1⟩ := i1 d _ _ p q1 r1 v1b
                obtain ⟨a1, a2, bs, x2, n2⟩ := i3 ds _ _ pr q2 r2 v2
                refine ⟨by simp [a1]; exact v1a.symm, by simp [a2], as ++ bs, .cons x1 x2, by simp [n1, n2]⟩

def bRepr : List D → MH → R D
  | [d], h => match deepD h 200 d with
    | some p => if p.showable = true ∧ p.depth ≤ 60 ∧ p.shown.length ≤ sizeLine then .ok (.str p.shown) h else .no
    | none => .no
  | _, _ => .no
def rRepr (X : Cx) : List V → Hp → VK → Prop := fun xs H Q => ∃ (x : V) (p : PyData), xs = [x] ∧ (∀ (pins : List (Addr × Obj)) (σ : St) (s : Shared) (u : Value), Inv X pins σ H s → RelV x u → ∃ as, Reads s.heap u p as ∧ sysModules ∉ as) ∧
  p.showable = true ∧ p.depth ≤ 60 ∧ p.shown.length ≤ sizeLine ∧ Q (.str p.shown) H
theorem call_repr (hg : X.A.guards = some []) (hu : X.A.units + 64 < cLine) : CallR X (.builtin "repr") (rRepr X) := by
  intro pins s σ H xs us Q I r z
  obtain ⟨x, p, rfl, hp, sh, dp, sz, q⟩ := z
  cases r with
  | @cons _ u _ us' ru rr =>
    cases rr
    obtain ⟨as, rd, hn⟩ := hp pins σ s u I ru
    have fin : ∀ (h' : Heap) (tk t : Nat), (∀ b o, s.heap.get? b = some o → h'.get? b = some o) → EP X pins σ Q (.str p.shown t) { s with heap := h', toks := tk } := fun h' tk t k => ⟨.str p.shown, H, I.kept k, ⟨_, rfl⟩, q⟩
    have fin0 : ∀ (tk t : Nat), EP X pins σ Q (.str p.shown t) { s with toks := tk } := fun tk t => ⟨.str p.shown, H, I.tok _, ⟨_, rfl⟩, q⟩
    cases p with
    | none => cases rd; exact PySem.P.repr_of_none (fin0 _ _)
    | bool b => cases rd; exact PySem.P.repr_of_bool (by cases b <;> exact fin0 _ _)
    | int i => cases rd; exact PySem.P.repr_of_int (by simpa [PyData.showable] using sh) (fin0 _ _)
    | str y => cases rd; exact PySem.P.repr_of_str (fin0 _ _) sz
    | list ps =>
      cases rd with
      | list a b c d => exact repr_of_reads' (.list a b c d) sh (fun _ => hn) hg (by omega) (fun _ _ e => e) (fun h' u tk k => fin h' tk u k) sz
    | tuple ps =>
      cases rd with
      | tuple a b c d => exact repr_of_reads' (.tuple a b c d) sh (fun _ => hn) hg (by omega) (fun _ _ e => e) (fun h' u tk k => fin h' tk u k) sz
    | dict ps =>
      cases rd with
      | dict a b c d e => exact repr_of_reads' (.dict a b c d e) sh (fun _ => hn) hg (by omega) (fun _ _ e => e) (fun h' u tk k => fin h' tk u k) sz
theorem repr_ok (S : SysK X.K) : CallM X.K B0 (rRepr X) bRepr := by
  intro σ ρ h H Q xs vs R r g
  unfold bRepr at g
  split at g
  · split at g
    · rename_i p e
      obtain ⟨v, rfl, rv⟩ := r.one
      obtain ⟨⟨a, b, c⟩, g2⟩ := good_if g
      exact ⟨v, p, rfl, fun pins σ s u I ru => (deep_reads I R S 200).1 _ v u p e rv ru, a, b, c, g2.ok0 R (.str _)⟩
    · exact g.elim
  · exact g.elim
end
end MP
set_option Elab.async false
set_option linter.all false
set_option maxRecDepth 100000
/-! HookX: the head's facts and one more question to the written part. -/
namespace MP
open PySem PySem.Spec L2
abbrev AlX : Type := He.AlD × Bool
def frX (n : Nat) (g : Addr → Option Obj) : PySem.W.Frag := He.frG g (He.asD g n ++ [cStatics, sysModules])
def obsX (n : Nat) (fa : List He.Fa) (fn : List He.DefD) (ex : PySem.W.Frag → Bool) (g : Addr → Option Obj) : AlX := (He.obsD fa fn (frX n g), ex (frX n g))
def hookX (n : Nat) (fa : List He.Fa) (fn : List He.DefD) (ex : PySem.W.Frag → Bool) : PySem.W.Hook where
  α := AlX
  obs := fun s => obsX n fa fn ex s.heap.get?
  val := fun _ => (He.valD fn, true)
  says := fun _ h => ∃ K : PySem.W.Frag, K.In h ∧ He.SaysD fa fn K ∧ ex K = true
  of := fun _ _ e => ⟨_, He.frG_in, congrArg Prod.fst e, congrArg Prod.snd e⟩
  keeps := fun _ _ _ ⟨K, hK, c, x⟩ k => ⟨K, PySem.W.Frag.In.keeps hK k, c, x⟩
theorem obsX_eq {n : Nat} {fa : List He.Fa} {fn : List He.DefD} {ex : PySem.W.Frag → Bool} {g : Addr → Option Obj} {s : Shared} (h : ∀ a, g a = s.heap.get? a) : obsX n fa fn ex g = (hookX n fa fn ex).obs s := by
  obtain rfl : g = s.heap.get? := funext h
  rfl
end MP
set_option Elab.async false
set_option linter.all false
set_option maxRecDepth 100000
set_option maxHeartbeats 2000000
/-! HookE: what the written part is asked about the program's own errors. -/
namespace MP
open PySem PySem.Spec L2
def deq {α : Type} [DecidableEq α] (a b : α) : Bool := decide (a = b)
theorem deq_ok {α : Type} [DecidableEq α] {a b : α} (h : deq a b = true) : a = b := of_decide_eq_true h
theorem and2 {a b : Bool} (h : (a && b) = true) : a = true ∧ b = true := Bool.and_eq_true_iff.mp h
def clsB (K : PySem.W.Frag) (C : Addr) : Bool := match K.lookup C with
  | some ⟨.type "type", _, .cls cd, sl⟩ => (match cd.mro, sl.toList with
    | .ref C' :: bm, [_, _, _, _, some (.builtin n), _] => deq C' C && (deq n "ValueError.__new__" && (!cd.hasDel && (cd.hasDict && PySem.HandSPX.refsVE bm)))
    | _, _ => false)
  | _ => false
theorem clsB_ok {K : PySem.W.Frag} {C : Addr} (q : clsB K C = true) : ∃ nm q N bs bm sn sub ab col dd k0 k1 k2 k3 k5, K.lookup C = some (excClassObj nm q C N bs bm true sn sub ab col dd k0 k1 k2 k3 k5 "ValueError.__new__") ∧ PySem.HandSPX.refsVE bm = true := by
  unfold clsB at q
  split at q
  · rename_i dd cd sl ho
    split at q
    · rename_i C' bm k0 k1 k2 k3 n k5 hm hs
      obtain ⟨q1, q⟩ := and2 q
      obtain ⟨q2, q⟩ := and2 q
      obtain ⟨q3, q⟩ := and2 q
      obtain ⟨q4, q5⟩ := and2 q
      have q1 := deq_ok q1
      have q2 := deq_ok q2
      subst q1 q2
      obtain ⟨nm, bs, mro, ns, qn, hd, sn, sub, ab, col, del⟩ := cd
      dsimp only at hm q3 q4
      subst hm q4
      have q3 : del = false := by simpa using q3
      subst q3
      have hsl : sl = #[k0, k1, k2, k3, some (.builtin "ValueError.__new__"), k5] := by
        obtain ⟨l⟩ := sl
        simp only at hs
        rw [hs]
      subst hsl
      exact ⟨nm, qn, ns, bs, bm, sn, sub, ab, col, dd, k0, k1, k2, k3, k5, ho, q5⟩
    · cases q
  · cases q
def errB (K : PySem.W.Frag) (C D0 f : Addr) : Bool := clsB K C && (deq (PySem.W.findIn K (.ref C) "__setattr__") (some (some (.builtin "object.__setattr__"))) && (deq (PySem.W.subIn K (.ref C) (.type "BaseException")) (some true) &&
  (deq (PySem.W.typeIn K (.ref C)) (some (.type "type")) && (PySem.W.keepIn K (.ref C) && (deq (PySem.W.findIn K (.ref C) "__init__") (some (some (.ref f))) && (deq (PySem.W.typeIn K (.ref f)) (some (.type "function")) &&
  (deq (PySem.W.mroIn K C (.ref D0)) (some true) && (deq (PySem.W.ks_superIn K C D0 "__init__") (some (some (.builtin "ValueError.__init__"))) && (deq (PySem.W.subIn K (.ref C) (.type "ValueError")) (some true) && deq (PySem.W.findIn K (.ref C) "value") (some none))))))))))
theorem errB_ok {K : PySem.W.Frag} {C D0 f : Addr} (h : errB K C D0 f = true) : ErrC K C D0 f := by
  obtain ⟨h1, h⟩ := and2 h
  obtain ⟨h2, h⟩ := and2 h
  obtain ⟨h3, h⟩ := and2 h
  obtain ⟨h4, h⟩ := and2 h
  obtain ⟨h5, h⟩ := and2 h
  obtain ⟨h6, h⟩ := and2 h
  obtain ⟨h7, h⟩ := and2 h
  obtain ⟨h8, h⟩ := and2 h
  obtain ⟨h9, h⟩ := and2 h
  obtain ⟨h10, h11⟩ := and2 h
  exact ⟨⟨clsB_ok h1, deq_ok h2, deq_ok h3, deq_ok h4, h5⟩, deq_ok h6, deq_ok h7, deq_ok h8, deq_ok h9, deq_ok h10, deq_ok h11⟩
/-- of instances: fields read, isinstance -/
def excB (K : PySem.W.Frag) (C : Addr) : Bool := xfB K C && (deq (PySem.W.findIn K (.ref C) "__class__") (some (some (.builtin "object.__class__"))) && (deq (PySem.W.specialIn K (.builtin "object.__class__") "__get__") (some (some (.builtin "getset_descriptor.__get__"))) &&
  (deq (PySem.W.takesIn K (.builtin "object.__class__")) (some true) && deq (PySem.W.mroIn K C (.type "object")) (some true))))
theorem excB_ok {K : PySem.W.Frag} {C : Addr} (h : excB K C = true) : XfC K C ∧ ExcC K C := by
  obtain ⟨h1, h⟩ := and2 h
  obtain ⟨h2, h⟩ := and2 h
  obtain ⟨h3, h⟩ := and2 h
  obtain ⟨h4, h5⟩ := and2 h
  have x := xfB_ok h1
  exact ⟨x, x.ga, x.gg, x.exC, x.hdC, deq_ok h2, deq_ok h3, deq_ok h4, deq_ok h5⟩
def sysB (K : PySem.W.Frag) : Bool := match K.lookup sysModules with
  | some o => !deq o.cls (.type "list")
  | none => false
theorem sysB_ok {K : PySem.W.Frag} (h : sysB K = true) : SysK K := by
  unfold sysB at h
  split at h
  · rename_i o e
    refine ⟨o, e, fun z => ?_⟩
    rw [z] at h
    simp [deq] at h
  · cases h
abbrev FnV := Option (Str × Str × Arguments × FuncBody × Scope × Addr × List Str × Addr)
def fnV (K : PySem.W.Frag) (f : Addr) : FnV := match K.lookup f with
  | some ⟨_, _, .func fd, _⟩ => some (fd.name, fd.qualname, fd.params, fd.body, fd.scope, fd.globals, fd.closure.map (·.1), fd.builtins)
  | _ => none
def fileB (P : Program) (K : PySem.W.Frag) (cd : Value) : Bool := match cd with
  | .ref cda => (match K.lookup cda with
    | some o => (match o.data with
      | .fields vs => (match (vs[2]? : Option Value) with
        | some (.str file _) => (P.main.file : Str) == file
        | _ => false)
      | _ => false)
    | none => false)
  | _ => false
theorem fileB_ok {P : Program} {K : PySem.W.Frag} {cd : Value} (h : fileB P K cd = true) : ∃ (cda : Addr) (ccl : Value) (cdd : Option Addr) (vs : Array Value) (ccs : Array (Option Value)) (file : Str) (tf : Tok),
    cd = .ref cda ∧ K.lookup cda = some ⟨ccl, cdd, .fields vs, ccs⟩ ∧ vs[2]? = some (.str file tf) ∧ ((P.main.file : Str) == file) = true := by
  unfold fileB at h
  split at h
  · rename_i cda
    split at h
    · rename_i o e
      split at h
      · rename_i vs ed
        split at h
        · rename_i file tf ef
          obtain ⟨c1, d1, dt, sl⟩ := o
          dsimp only at ed
          subst ed
          exact ⟨cda, c1, d1, vs, sl, file, tf, rfl, e, ef, h⟩
        · cases h
      · cases h
    · cases h
  · cases h
def cellB (K : PySem.W.Frag) (D0 : Addr) (cl : List (Str × Addr)) : Bool := match cl with
  | [(_, cc)] => (match K.lookup cc with
    | some o => (match o.data with
      | .cell (some (.ref D1)) => deq D1 D0 && (PySem.W.clsIn K D0).isSome
      | _ => false)
    | none => false)
  | _ => false
theorem cellB_ok {K : PySem.W.Frag} {D0 : Addr} {cl : List (Str × Addr)} (h : cellB K D0 cl = true) : ∃ (y : Str) (cc : Addr) (c1 : Value) (d1 : Option Addr) (sl : Array (Option Value)) (cdD : ClassData),
    cl = [(y, cc)] ∧ K.lookup cc = some ⟨c1, d1, .cell (some (.ref D0)), sl⟩ ∧ PySem.W.clsIn K D0 = some cdD := by
  unfold cellB at h
  split at h
  · rename_i y cc
    split at h
    · rename_i o e
      split at h
      · rename_i D1 ed
        obtain ⟨h1, h2⟩ := and2 h
        obtain rfl := deq_ok h1
        obtain ⟨cdD, h2⟩ := Option.isSome_iff_exists.mp h2
        obtain ⟨c1, d1, dt, sl⟩ := o
        dsimp only at ed
        subst ed
        exact ⟨y, cc, c1, d1, sl, cdD, rfl, e, h2⟩
      · cases h
    · cases h
  · cases h
def initB (P : Program) (K : PySem.W.Frag) (D0 f : Addr) : Bool := deq (PySem.W.nsIn K mainGlobals "super") (some none) && (deq (PySem.W.nsIn K cStatics "thirdparty.any") (some none) && (match K.lookup f with
  | some o => (match o.data with
    | .func fd => deq fd.defaults .none && (deq fd.kwdefaults .none && (PySem.W.codeIn K fd.code fd.qualname && (fileB P K fd.code && cellB K D0 fd.closure)))
    | _ => false)
  | none => false))
theorem initB_ok {P : Program} {K : PySem.W.Frag} {D0 f : Addr} {qual : Str} {params : Arguments} {body : List Stmt} {scope : Scope} (h : initB P K D0 f = true) (hv : fnV K f = some (("__init__" : Str), qual, params, FuncBody.stmts body, scope, mainGlobals, [("__class__" : Str)], builtinsNs)) :
    ∃ fd, InitF P K D0 f fd qual params body scope ∧ ∃ (cc cda : Addr) (doc pm ct : Value) (an : Option Addr), fd = PySem.W.fnX "__init__" qual params body scope [("__class__", cc)] .none .none doc pm an (.ref cda) ct := by
  obtain ⟨h1, h⟩ := and2 h
  obtain ⟨h2, h⟩ := and2 h
  split at h
  · rename_i o e
    split at h
    · rename_i fd ed
      obtain ⟨h3, h⟩ := and2 h
      obtain ⟨h4, h⟩ := and2 h
      obtain ⟨h5, h⟩ := and2 h
      obtain ⟨h6, h7⟩ := and2 h
      obtain ⟨cda, ccl, cdd, vs, ccs, file, tf, q1, q2, q3, q4⟩ := fileB_ok h6
      obtain ⟨y, cc, c1, d1, sl1, cdD, q5, q6, q7⟩ := cellB_ok h7
      obtain ⟨c0, d0, dt, sl0⟩ := o
      dsimp only at ed
      subst ed
      have ev : fnV K f = some (fd.name, fd.qualname, fd.params, fd.body, fd.scope, fd.globals, fd.closure.map (·.1), fd.builtins) := by
        unfold fnV; rw [e]
      rw [ev] at hv
      have d3 := deq_ok h3
      have d4 := deq_ok h4
      obtain ⟨a1, a2, a3, a4, a5, a6, a7, a8, a9, a10, a11, a12, a13, a14, a15⟩ := fd
      simp only [Option.some.injEq, Prod.mk.injEq] at hv
      dsimp only at h5 q1 q5 d3 d4
      obtain ⟨e1, e2, e3, e4, e5, e6, e7, e8⟩ := hv
      subst e1 e2 e3 e4 e5 e6 e8 q1 q5 d3 d4
      have ey : y = ("__class__" : Str) := by simpa using e7
      subst ey
      exact ⟨_, ⟨⟨c0, ccl, c1, d0, cdd, d1, .none, .none, _, _, _, _, cda, cc, sl0, ccs, sl1, vs, file, tf, cdD, rfl, e, h5, q2, q3, q4, q6, q7⟩, deq_ok h1, deq_ok h2⟩, cc, cda, _, _, _, _, rfl⟩
    · cases h
  · cases h
end MP
set_option Elab.async false
set_option linter.all false
set_option maxRecDepth 100000
/-! HookY: facts, a def's fields without the addresses of its closure, one more question. -/
namespace MP
open PySem PySem.Spec L2
abbrev AlY : Type := He.AlD × FnV × Bool
def obsY (n : Nat) (fa : List He.Fa) (fn : List He.DefD) (fv : PySem.W.Frag → FnV) (ex : PySem.W.Frag → Bool) (g : Addr → Option Obj) : AlY := (He.obsD fa fn (frX n g), fv (frX n g), ex (frX n g))
def hookY (n : Nat) (fa : List He.Fa) (fn : List He.DefD) (fv : PySem.W.Frag → FnV) (v : FnV) (ex : PySem.W.Frag → Bool) : PySem.W.Hook where
  α := AlY
  obs := fun s => obsY n fa fn fv ex s.heap.get?
  val := fun _ => (He.valD fn, v, true)
  says := fun _ h => ∃ K : PySem.W.Frag, K.In h ∧ He.SaysD fa fn K ∧ fv K = v ∧ ex K = true
  of := fun _ _ e => ⟨_, He.frG_in, congrArg (fun z : AlY => z.1) e, congrArg (fun z : AlY => z.2.1) e, congrArg (fun z : AlY => z.2.2) e⟩
  keeps := fun _ _ _ ⟨K, hK, c, y, x⟩ k => ⟨K, PySem.W.Frag.In.keeps hK k, c, y, x⟩
theorem obsY_eq {n : Nat} {fa : List He.Fa} {fn : List He.DefD} {fv : PySem.W.Frag → FnV} {v : FnV} {ex : PySem.W.Frag → Bool} {g : Addr → Option Obj} {s : Shared} (h : ∀ a, g a = s.heap.get? a) : obsY n fa fn fv ex g = (hookY n fa fn fv v ex).obs s := by
  obtain rfl : g = s.heap.get? := funext h
  rfl
end MP
set_option Elab.async false
set_option linter.all false
set_option maxRecDepth 100000
set_option maxHeartbeats 2000000
/-! X6: the program's own errors, all together. -/
namespace MP
open PySem PySem.Spec L2
def fNeg (x : D) (h : MH) : R D := match x with
  | .int i => .ok (.int (-i)) h
  | _ => .no
def mNeg (m : M) : M := fun env h => (m env h).bind fNeg
theorem den_neg {X : Cx} {B : WB} {e : Expr} {m : M} {pos : Pos} (he : Den X B e m) : Den X B (.UnaryOp .USub e pos) (mNeg m) :=
  PE.imp (pe_un un_neg he) fun σ H Q ⟨ρ, h, env, R, E, g⟩ => (tR_bind ⟨R, E⟩ g).imp fun v H1 ⟨ρ1, h1, x, A1, e1, rx, g1⟩ => by
    unfold fNeg at g1
    split at g1
    · cases rx; exact ⟨_, rfl, g1.ok0 A1.R (.int _)⟩
    · exact g1.elim
structure Errs (P : Program) (w : World) (K : PySem.W.Frag) (mg : Str → Option Value) (base : Heap) (Cs : List Str) : Prop where
  sys : SysK K
  ex : ∃ D0 f fd, (∀ C ∈ Cs, ErrC K (He.ga K C) D0 f) ∧ FnOk P w K mg base CX0 1 f fd ["self", "value"] (spI K D0 f) ∧ Binds K fd ["self", "value"] [] ∧ ∀ (s : Shared) (a u : Value), BindsTo s fd ⟨[a], [(("value" : Str), u)]⟩ [(("self" : Str), a), ("value", u)]
  inst : ∀ C ∈ Cs, (XfC K (He.ga K C) ∧ ExcC K (He.ga K C)) ∧ PySem.W.findIn K (.ref (He.ga K C)) "value" = some none
  gl : ∀ C ∈ Cs, mg C = some (.ref (He.ga K C))
  isT : ∀ C ∈ Cs, ∀ Y ∈ ("ReachError" : Str) :: Cs, PySem.W.kitOne K (.ref (He.ga K C)) (.ref (He.ga K Y)) = some (decide (C = Y) || decide (Y = ("ReachError" : Str)))
  isV : ∀ C ∈ Cs, PySem.W.kitOne K (.ref (He.ga K C)) (.type "ValueError") = some true
  exm : ∀ C ∈ Cs, ∀ Y ∈ ("ReachError" : Str) :: Cs, PySem.W.exmOne K (.ref (He.ga K C)) (.ref (He.ga K Y)) = some (decide (C = Y) || decide (Y = ("ReachError" : Str)))
  glR : mg "ReachError" = some (.ref (He.ga K "ReachError"))
def tIs (Cs : List Str) (C Y : Str) : Option Bool := if C ∈ Cs ∧ Y ∈ ("ReachError" : Str) :: Cs then some (decide (C = Y) || decide (Y = ("ReachError" : Str))) else none
def tIv (Cs : List Str) (C : Str) (n : String) : Option Bool := if C ∈ Cs ∧ n = "ValueError" then some true else none
section
variable {X : Cx} {e : Expr} {es : List Expr} {ms : MA} {me : M} {p pos kpos : Pos} {C : Str} {Cs : List Str} {j : Nat}
theorem den_errO (er : Errs X.prog X.w X.K X.mg X.base Cs) (hC : C ∈ Cs) (hr : RoomG j X.A) (hk : 2 ≤ j) (hg : Gl X C) (ha : DenA X B0 (e :: es) ms) (hdb : (C == ("__debug__" : Str)) = false := by decide)
    (he : starEach (e :: es) X.env = (false, eval e X.env) :: starEach es X.env := by rfl) (hpl : (backTo pos (starEach es X.env)).any (·.1) = false := by rfl) : Den X B0 (.Call (.Name C p) (e :: es) [] pos) (mErr C ms) := by
  obtain ⟨D0, f, fd, h1, h2, h3, h4⟩ := er.ex
  exact den_err (h1 C hC) h2 hr.rm hk h3 hg (er.gl C hC) ha hdb he hpl
theorem den_errKO (er : Errs X.prog X.w X.K X.mg X.base Cs) (hC : C ∈ Cs) (hr : RoomG j X.A) (hk : 2 ≤ j) (hg : Gl X C) (he : Den X B0 e me) (hdb : (C == ("__debug__" : Str)) = false := by decide)
    (hall : (backToKw pos (keywordEach [⟨some ("value" : Str), e, kpos⟩] X.env)).all (·.1.isSome) = true := by rfl) (hks : (backToKw pos (keywordEach [⟨some ("value" : Str), e, kpos⟩] X.env)).filterMap (·.1) = [("value" : Str)] := by rfl)
    (hpl : ((backTo pos (starEach [] X.env)).any (·.1) || (backToKw pos (keywordEach [⟨some ("value" : Str), e, kpos⟩] X.env)).any (·.1.isNone)) = false := by rfl) : Den X B0 (.Call (.Name C p) [] [⟨some ("value" : Str), e, kpos⟩] pos) (mErr C (aCons me aNil)) := by
  obtain ⟨D0, f, fd, h1, h2, h3, h4⟩ := er.ex
  exact den_errK (h1 C hC) h2 hr.rm hk h4 hg (er.gl C hC) he hdb hall hks hpl
theorem den_errVO (er : Errs X.prog X.w X.K X.mg X.base Cs) (he : Den X B0 e me) (hb : attributeBase e "value" X.env (eval e X.env) = eval e X.env := by rfl) : Den X B0 (.Attribute e "value" pos) (mErrV Cs me) :=
  den_errV (fun C hC => ⟨(er.inst C hC).1.1, (er.inst C hC).2⟩) he hb
theorem isE_okO {P : Program} {w : World} {K : PySem.W.Frag} {mg : Str → Option Value} {base : Heap} (er : Errs P w K mg base Cs) : CallM K B0 (rIsX K) (bIsE (tIs Cs) (tIv Cs)) := by
  refine isE_ok (fun C Y b h => ?_) (fun C Y b h => ?_)
  · unfold tIs at h
    split at h
    · rename_i q
      cases h
      exact ⟨(er.inst C q.1).1.2, er.isT C q.1 Y q.2⟩
    · cases h
  · unfold tIv at h
    split at h
    · rename_i q
      cases h
      rw [q.2]
      exact ⟨(er.inst C q.1).1.2, er.isV C q.1⟩
    · cases h
end
def exB (P : Program) (Cs : List Str) (K : PySem.W.Frag) : Bool :=
  (deq (PySem.W.nsIn K mainGlobals "ReachError") (some (some (.ref (He.ga K "ReachError")))) && Cs.all fun C => (("ReachError" : Str) :: Cs).all fun Y => deq (PySem.W.exmOne K (.ref (He.ga K C)) (.ref (He.ga K Y))) (some (decide (C = Y) || decide (Y = ("ReachError" : Str))))) && (sysB K && (initB P K (He.ga K "ReachError") (He.ma K (He.ga K "ReachError") "__init__") && (PySem.W.keepIn K (.ref (He.ma K (He.ga K "ReachError") "__init__")) && Cs.all fun C =>
    errB K (He.ga K C) (He.ga K "ReachError") (He.ma K (He.ga K "ReachError") "__init__") && (excB K (He.ga K C) && (deq (PySem.W.nsIn K mainGlobals C) (some (some (.ref (He.ga K C)))) &&
      (deq (PySem.W.kitOne K (.ref (He.ga K C)) (.type "ValueError")) (some true) && (("ReachError" : Str) :: Cs).all fun Y => deq (PySem.W.kitOne K (.ref (He.ga K C)) (.ref (He.ga K Y))) (some (decide (C = Y) || decide (Y = ("ReachError" : Str))))))))))
theorem errs_of {P : Program} {w : World} {K : PySem.W.Frag} {mg : Str → Option Value} {h base : Heap} {Cs : List Str} {qual : Str} {params : Arguments} {body : List Stmt} {scope : Scope} {p0 p1 p2 p3 p4 p5 p6 p7 p8 : Pos} {ar : Arg}
    (X : K.In h) (G : h.Ns mainGlobals mg) (ex : exB P Cs K = true) (hv : fnV K (He.ma K (He.ga K "ReachError") "__init__") = some (("__init__" : Str), qual, params, FuncBody.stmts body, scope, mainGlobals, [("__class__" : Str)], builtinsNs))
    (hb : body = [.Expr (.Call (.Attribute (.Call (.Name "super" p0) [] [] p1) "__init__" p2) [] [] p3) p4, .Assign [.Attribute (.Name "self" p5) "value" p6] (.Name "value" p7) p8])
    (hpar : (params.posonlyargs ++ params.args).head? = some ar) (har : ar.arg = ("self" : Str)) (hkind : scope.kind = .function) (hco : scope.isCoroutine = false) (hgen : scope.isGenerator = false)
    (hks : scope.names.lookup ("self" : Str) = some .local) (hkv : scope.names.lookup ("value" : Str) = some .local) (hsu : scope.names.lookup ("super" : Str) = some .globalImplicit) (hkc : scope.names.lookup ("__class__" : Str) = some .free)
    (hfree : ∀ y ∈ scope.names, y.2 = .free → y.1 = ("__class__" : Str)) (hncell : ∀ y ∈ scope.names, y.2 ≠ .cell) (htop : (P.main.scope.names.lookup ("super" : Str)).isSome = false)
    (hev : ∀ env : PySem.Env, env.scope = scope → ∃ pl : Sem Bool, eval (.Call (.Attribute (.Call (.Name "super" p0) [] [] p1) "__init__" p2) [] [] p3) env = (do
      let ov ← attributeBase (.Call (.Name "super" p0) [] [] p1) "__init__" env (eval (.Call (.Name "super" p0) [] [] p1) env)
      standAt p2.atName
      let (f, first) ← holding [ov] (getMethod ov "__init__" pl)
      callWith p3 f first (backTo p3 (starEach [] env)) []))
    (hsw : ∀ env : PySem.Env, env.scope = scope → swapsWith (.Name "value" p7) (some (.Attribute (.Name "self" p5) "value" p6)) p8.line env = pure false)
    (hbind : ∀ (cl : List (Str × Addr)) (doc pm ct : Value) (an : Option Addr) (cd a u : Value), bindArgs (PySem.W.fnX "__init__" qual params body scope cl .none .none doc pm an cd ct) ⟨[a, u], []⟩ = pure [(("self" : Str), a), ("value", u)])
    (hbindk : ∀ (cl : List (Str × Addr)) (doc pm ct : Value) (an : Option Addr) (cd a u : Value), bindArgs (PySem.W.fnX "__init__" qual params body scope cl .none .none doc pm an cd ct) ⟨[a], [(("value" : Str), u)]⟩ = pure [(("self" : Str), a), ("value", u)]) :
    Errs P w K mg base Cs := by
  obtain ⟨h0, ex⟩ := and2 ex
  obtain ⟨h01, h02⟩ := and2 h0
  obtain ⟨h1, ex⟩ := and2 ex
  obtain ⟨h2, ex⟩ := and2 ex
  obtain ⟨h3, h4⟩ := and2 ex
  obtain ⟨fd, IF, cc, cda, doc, pm, ct, an, efd⟩ := initB_ok h2 hv
  have all := fun C hC => and2 (List.all_eq_true.mp h4 C hC)
  have all2 := fun C hC => and2 (all C hC).2
  have all3 := fun C hC => and2 (all2 C hC).2
  have all4 := fun C hC => and2 (all3 C hC).2
  refine ⟨sysB_ok h1, ⟨_, _, fd, fun C hC => errB_ok (all C hC).1, fn_init (k := 0) IF hb hpar har hkind hco hgen hks hkv hsu hkc hfree hncell htop hev hsw, ?_, ?_⟩, fun C hC => ⟨excB_ok (all2 C hC).1, (errB_ok (all C hC).1).val⟩, fun C hC => PySem.W.mg_of X G (deq_ok (all3 C hC).1), fun C hC Y hY => deq_ok (List.all_eq_true.mp (all4 C hC).2 Y hY), fun C hC => deq_ok (all4 C hC).1, fun C hC Y hY => deq_ok (List.all_eq_true.mp (List.all_eq_true.mp h02 C hC) Y hY), PySem.W.mg_of X G (deq_ok h01)⟩
  · refine Binds.all fun us hl => ?_
    match us, hl with
    | [a, u], _ => rw [efd]; exact hbind _ _ _ _ _ _ _ _
  · intro s a u
    rw [efd]
    exact .of_eq (hbindk _ _ _ _ _ _ _ _)
end MP
set_option Elab.async false
set_option linter.all false
set_option maxRecDepth 100000
set_option maxHeartbeats 2000000
/-! X7: promises of defs that may raise: FnE, spE; calls of them; masked calls of defs that raise nothing. -/
namespace MP
open PySem PySem.Spec L2
open PyProof.Rows (envOfC)
structure FnE (P : Program) (w : World) (K : PySem.W.Frag) (mg : Str → Option Value) (base : Heap) (k : Nat) (f : Addr) (fd : FuncData) (ps : List Str) (sp : Sp) : Prop where
  len : ∀ vs H Q E, sp vs H Q E → vs.length = ps.length
  run : ∀ (A : Around) (outer : List PySem.Env) (s : Shared) (H : Hp) (args : Args) (us : List Value) (vs : List V) (Q : VK) (E : XK), RoomG k A → Env0 P w K mg base A outer s H → BindsTo s fd args (ps.zip us) → Vals vs us → sp vs H Q E →
    codeAny (model P w) A (.call (.ref f) args) (CR (CX P w) outer P w H s Q E) s
section
variable {P : Program} {w : World} {K : PySem.W.Frag} {mg : Str → Option Value} {base : Heap} {k : Nat} {f : Addr} {fd : FuncData} {ps : List Str} {sp : Sp}
theorem FnE.mono {j : Nat} (F : FnE P w K mg base j f fd ps sp) (h : j ≤ k) : FnE P w K mg base k f fd ps sp :=
  ⟨F.len, fun A outer s H args us vs Q E hr => F.run A outer s H args us vs Q E (hr.mono h)⟩
theorem fnE_of {x qual : Str} {params : Arguments} {body : List Stmt} {scope : Scope} {dvs : List V} {kws : List (Str × V)} {N : List Str} (F : FunD K x qual params body scope dvs kws f fd) (S : FnScope N ps scope)
    (len : ∀ vs H Q E, sp vs H Q E → vs.length = ps.length)
    (hbody : ∀ (cdv : Value) (A : Around) (outer : List PySem.Env) (s : Shared) (H : Hp) (vs : List V) (Q : VK) (E : XK), RoomG k (A.deeper (envOfC qual scope s.heap.objs.size f cdv)) → sp vs H Q E →
      ∃ t, PSs (cxOf (CX P w) P w K mg base N qual scope f cdv A outer s H E) body t ∧ t { nx := fun _ H' => Q .non H', rt := Q } (L2.start N vs) H) :
    FnE P w K mg base (k + 1) f fd ps sp := by
  obtain ⟨oc, od, dV, kV, doc, pm, an, cdv, ct, osl, rfl, lk, hcd, _, _⟩ := F.ex
  refine ⟨len, fun A outer s H args us vs Q E room env0 bd rel want => ?_⟩
  have nv := len _ _ _ _ want
  have inK : K.In s.heap := env0.mod.kin.keeps fun b o e => (env0.bs b o e).1
  have noLim : s.heap.NoLimit := env0.mod.nolimit.keeps fun b o e => (env0.bs b o e).1
  have kinds : ∀ y ∈ ps.zip us, scope.names.lookup y.1 = some .local ∨ (scope.names.lookup y.1 = some .cell ∧ ((cellsFrom (s.heap.objs.size + 1) scope.names []).lookup y.1).isSome = true) := by
    rintro ⟨n, v⟩ hy
    rcases S.par n (List.of_mem_zip hy).1 with z | z
    · exact .inl z
    · exact .inr ⟨z, PySem.W.cellsFrom_some _ _ _ (.inl z)⟩
  refine codeAny_call_function room.rm.depth (inK _ _ lk) rfl S.co S.gen rfl (PySem.W.codeRec_of inK hcd) (bd _ _ _ _ ?_)
  refine wpAny_newFunctionEnv_cells S.kind kinds fun env he s1 ic => ?_
  subst he
  refine ⟨noLim.keeps ic.toInCall.keep, codeAny_func ?_⟩
  obtain ⟨t, ht, hq⟩ := hbody cdv A outer s H vs Q E (room.deeper _) want
  have J : Inv (cxOf (CX P w) P w K mg base N qual scope f cdv A outer s H E) [] (L2.start N vs) H s1 := inv_start S room.rm.hd env0 nv rel ic
  refine wpAny_mono (ht.run [] s1 (L2.start N vs) H _ J hq) (fun fl s' z => ?_) fun e s' z => z
  cases fl with
  | ret u =>
    obtain ⟨v, σ', H', J', rv, q⟩ := z
    exact ⟨v, H', J'.os, J'.bare, J'.base, J'.hok, rv, q⟩
  | next =>
    obtain ⟨σ', H', J', q⟩ := z
    exact ⟨.non, H', J'.os, J'.bare, J'.base, J'.hok, rfl, q⟩
  | brk =>
    obtain ⟨_, _, _, q⟩ := z
    exact q.elim
  | cont =>
    obtain ⟨_, _, _, q⟩ := z
    exact q.elim
end
/-- what leaves a def, as a wish of its body -/
abbrev BE (E : XK) : WB := fun c d _ H => E c d H
def spE (K : PySem.W.Frag) (n : Nat) (F : List D → MH → R D) : Sp := fun vs H Q E => vs.length = n ∧ ∃ ρ h ds, HR K ρ h H ∧ RVs K ρ H ds vs ∧ Good K (BE E) (rD K) [] ρ H Q (F ds h)
section
variable {P : Program} {w : World} {K : PySem.W.Frag} {mg : Str → Option Value} {base : Heap} {x qual : Str} {params : Arguments} {body : List Stmt} {scope : Scope} {dvs : List V} {kws : List (Str × V)} {f : Addr} {fd : FuncData}
theorem fnE_ok {N ps : List Str} {k : Nat} {s : S} (F : FunD K x qual params body scope dvs kws f fd) (S : FnScope N ps scope)
    (hb : ∀ (cdv : Value) (A : Around) (outer : List PySem.Env) (s' : Shared) (H : Hp) (E : XK), RoomG k (A.deeper (envOfC qual scope s'.heap.objs.size f cdv)) → Takes (cxOf (CX P w) P w K mg base N qual scope f cdv A outer s' H E) (BE E) → DenSs (cxOf (CX P w) P w K mg base N qual scope f cdv A outer s' H E) (BE E) body s) :
    FnE P w K mg base (k + 1) f fd ps (spE K ps.length (denF N.length s)) := by
  refine fnE_of F S (fun vs H Q E h => h.1) (fun cdv A outer s' H vs Q E hr h => ?_)
  obtain ⟨hl, ρ, h, ds, R, r, g⟩ := h
  have tk : Takes (cxOf (CX P w) P w K mg base N qual scope f cdv A outer s' H E) (BE E) := takes_of rfl rfl rfl rfl
  refine ⟨tS K (BE E) s, hb cdv A outer s' H E hr tk, ρ, h, startE N.length ds, R, er_start r, ?_⟩
  unfold denF at g
  cases q : s (startE N.length ds) h with
  | nx e h' => rw [q] at g; exact fun ρ' σ' H' a b c => g ρ' .non H' a b .non
  | rt d h' => rw [q] at g; exact g
  | bk e h' => rw [q] at g; exact g.elim
  | ct e h' => rw [q] at g; exact g.elim
  | er c d e h' => rw [q] at g; exact fun ρ' y dx σ'' H' a b c _ e => g ρ' y dx H' a b c e
  | no => rw [q] at g; exact g
end
section
variable {X : Cx} {B : WB} {k n : Nat} {f : Addr} {fd : FuncData} {ps : List Str} {sp : Sp} {x : Str} {p pos : Pos} {e : Expr} {es : List Expr} {t : TA} {ms : MA} {F : List D → MH → R D}
theorem pe_callE (tk : Takes X B) (G : FnE X.prog X.w X.K X.mg X.base k f fd ps sp) (hr : RoomG k X.A) (hg : Gl X x) (hm : X.mg x = some (.ref f)) (hk : PySem.W.keepIn X.K (.ref f) = true) (hb : Binds X.K fd ps [])
    (ha : PA X (e :: es) t) (hdb : (x == ("__debug__" : Str)) = false) (he : starEach (e :: es) X.env = (false, eval e X.env) :: starEach es X.env) (hpl : (backTo pos (starEach es X.env)).any (·.1) = false) :
    PE X (.Call (.Name x p) (e :: es) [] pos) (fun σ H Q => t σ H fun vs H1 => sp vs H1 Q fun c d H2 => B c d σ H2) := by
  refine ⟨fun pins s0 σ H0 Q I0 z => ?_⟩
  refine wpAny_Call_Name_kw (ld_glob I0 hg hm ?_ hdb)
  refine PySem.W.callWith_K (h₀ := X.base) I0.ok.mod.kin hk (thn (ha.run pos pins s0 σ H0 _ I0 z) fun us s2 ⟨vs, H2, I2, r, z2⟩ => ⟨I2.kIn, ?_⟩) he hpl
  have nn : us.length = ps.length := by rw [← r.length]; exact G.len _ _ _ _ z2
  have bd := hb s2 us I2.kIn (by simpa using nn)
  rw [List.append_nil] at bd
  refine wpAny_call (codeAny_mono (G.run X.A X.stack s2 H2 ⟨us, []⟩ us vs Q _ hr I2.env0 bd r z2) fun res s9 z9 => ?_)
  cases res with
  | error er => exact tk _ _ (XE.of_call I2 (fun cls d H' q => q) z9)
  | ok fw =>
    cases fw with
    | ret u => exact I2.after z9
    | next => exact z9.elim
    | brk => exact z9.elim
    | cont => exact z9.elim
theorem spE_ok {K : PySem.W.Frag} {σ : St} {ρ : List Addr} {h : MH} {H : Hp} {Q : VK} {ds : List D} {vs : List V} (R : HR K ρ h H) (r : RVs K ρ H ds vs) (hn : ds.length = n) (g : Good K B (rD K) σ ρ H Q (F ds h)) : spE K n F vs H Q (fun c d H2 => B c d σ H2) := by
  refine ⟨by rw [← r.length]; exact hn, ρ, h, ds, R, r, ?_⟩
  cases q : F ds h with
  | ok d h' => rw [q] at g; exact g
  | er c d h' => rw [q] at g; exact g
  | no => rw [q] at g; exact g
theorem den_callE (tk : Takes X B) (G : FnE X.prog X.w X.K X.mg X.base k f fd ps (spE X.K n F)) (hr : RoomG k X.A) (hg : Gl X x) (hm : X.mg x = some (.ref f)) (hk : PySem.W.keepIn X.K (.ref f) = true) (hb : Binds X.K fd ps [])
    (ha : DenA X B (e :: es) ms) (hdb : (x == ("__debug__" : Str)) = false := by decide) (he : starEach (e :: es) X.env = (false, eval e X.env) :: starEach es X.env := by rfl) (hpl : (backTo pos (starEach es X.env)).any (·.1) = false := by rfl) :
    Den X B (.Call (.Name x p) (e :: es) [] pos) (mCall n F ms) :=
  PE.imp (pe_callE tk G hr hg hm hk hb ha hdb he hpl) fun σ H Q ⟨ρ, h, env, R, E, g⟩ => (tR_bind ⟨R, E⟩ g).imp fun vs H1 ⟨ρ1, h1, xs, A1, e1, rx, g1⟩ => by
    obtain ⟨hn, g2⟩ := good_if g1
    exact spE_ok A1.R rx hn g2
/-- a call of a def that raises nothing, in a def that may raise -/
def calmF (F : List D → MH → R D) : List D → MH → R D := fun ds h => match F ds h with
  | .ok d h' => .ok d h'
  | _ => .no
theorem spF_calm {K : PySem.W.Frag} {σ : St} {ρ : List Addr} {h : MH} {H : Hp} {Q : VK} {ds : List D} {vs : List V} (R : HR K ρ h H) (r : RVs K ρ H ds vs) (hn : ds.length = n) (g : Good K B (rD K) σ ρ H Q (calmF F ds h)) : spF K n F vs H Q E0 := by
  refine ⟨by rw [← r.length]; exact hn, ρ, h, ds, R, r, ?_⟩
  unfold calmF at g
  cases q : F ds h with
  | ok d h' => rw [q] at g; exact g
  | er c d h' => rw [q] at g; exact g.elim
  | no => rw [q] at g; exact g.elim
theorem den_callC (G : FnG X.prog X.w X.K X.mg X.base k f fd ps (spF X.K n F)) (hr : RoomG k X.A) (hg : Gl X x) (hm : X.mg x = some (.ref f)) (hk : PySem.W.keepIn X.K (.ref f) = true) (hb : Binds X.K fd ps [])
    (ha : DenA X B (e :: es) ms) (hdb : (x == ("__debug__" : Str)) = false := by decide) (he : starEach (e :: es) X.env = (false, eval e X.env) :: starEach es X.env := by rfl) (hpl : (backTo pos (starEach es X.env)).any (·.1) = false := by rfl) :
    Den X B (.Call (.Name x p) (e :: es) [] pos) (mCall n (calmF F) ms) :=
  PE.imp (pe_callG G hr hg hm hk hb ha hdb he hpl) fun σ H Q ⟨ρ, h, env, R, E, g⟩ => (tR_bind ⟨R, E⟩ g).imp fun vs H1 ⟨ρ1, h1, xs, A1, e1, rx, g1⟩ => by
    obtain ⟨hn, g2⟩ := good_if g1
    exact spF_calm A1.R rx hn g2
end
end MP
set_option Elab.async false
set_option linter.all false
set_option maxRecDepth 100000
set_option maxHeartbeats 2000000
/-! X8: raise C(e) of an own error. -/
namespace MP
open PySem PySem.Spec L2
def sRaise (C : Str) (a : MA) : S := fun env h => (a env h).st env fun ds h1 => match ds with
  | [d] => .er C d env h1
  | _ => .no
section
variable {X : Cx} {B : WB} {e : Expr} {es : List Expr} {ms : MA} {p pos pos2 : Pos} {C : Str} {Cs : List Str} {j : Nat}
theorem dens_raise (tk : Takes X B) (er : Errs X.prog X.w X.K X.mg X.base Cs) (hC : C ∈ Cs) (hr : RoomG j X.A) (hk : 2 ≤ j) (hg : Gl X C) (ha : DenA X B (e :: es) ms) (hc : X.calm = true := by rfl) (hdb : (C == ("__debug__" : Str)) = false := by decide)
    (he : starEach (e :: es) X.env = (false, eval e X.env) :: starEach es X.env := by rfl) (hpl : (backTo pos (starEach es X.env)).any (·.1) = false := by rfl) : DenS X B (.Raise (some (.Call (.Name C p) (e :: es) [] pos)) none pos2) (sRaise C ms) := by
  obtain ⟨D0, f, fd, h1, h2, h3, h4⟩ := er.ex
  have EC := h1 C hC
  refine PS.imp (ps_raise hc tk (pmk_oex EC.oex EC.ini EC.fty h2 (hr.rm.mono hk) h3 .nil pass0 hg (er.gl C hC) ha hdb he hpl)) fun D σ H ⟨ρ, h, env, R, E, g⟩ => (tR_st ⟨R, E⟩ g).imp fun vs H1 ⟨ρ1, h1, ds, A1, e1, rs, g1⟩ => ?_
  split at g1
  · rename_i d
    obtain ⟨v, rfl, rv⟩ := rs.one
    refine ⟨by simp, fun a ha => ⟨a, He.ga X.K C, v, rfl, EC, upd_same, fun dx hdx hne => ⟨rfl, dx, [(("value" : Str), v)], upd_same, by rw [upd_ne hne]; exact upd_same, ?_, ?_⟩⟩⟩
    · rw [upd_ne hne] at hdx; exact hdx
    · have hdx1 : H1 dx = none := by rw [upd_ne hne] at hdx; exact hdx
      have eq : upd (del (upd (upd (upd H1 a (exo a (He.ga X.K C) none)) dx (exd dx [(("value" : Str), v)])) a (exo a (He.ga X.K C) (some dx))) a) dx (.xd [(("value" : Str), v)]) = upd H1 dx (.xd [(("value" : Str), v)]) := by
        funext b
        by_cases hb : b = dx
        · subst hb; rw [upd_same, upd_same]
        · rw [upd_ne hb, upd_ne hb]
          by_cases hb2 : b = a
          · subst hb2; simp [del, ha]
          · simp [del, upd, hb2, hb]
      rw [eq]
      have R1 := A1.R.new (o := .xd [(("value" : Str), v)]) hdx1
      have x1 : Ext ρ1 H1 ρ1 (upd H1 dx (.xd [(("value" : Str), v)])) := Ext.new hdx1
      exact g1 ρ1 v dx σ _ R1 x1 (rv.ext A1.R x1) (A1.E.ext A1.R x1) upd_same
  · exact g1.elim
end
end MP
set_option Elab.async false
set_option linter.all false
set_option maxRecDepth 100000
set_option maxHeartbeats 2000000
/-! X9: an object that stands in the heap is taken into the tracked ones. -/
namespace MP
open PySem PySem.Spec L2
theorem inv_track {X : Cx} {pins : List (Addr × Obj)} {σ : St} {H : Hp} {s : Shared} {a : Addr} {o : HO} (I : L2.Inv X pins σ H s) (na : H a = none) (n0 : X.s_0.heap.get? a = none) (nL : X.env.locals ≠ a)
    (nC : ∀ x c, X.env.cells.lookup x = some c → c ≠ a) (nP : ∀ p ∈ X.pn ++ pins, p.1 ≠ a) (new : ObjOk X.prog X.w (upd H a o) s.heap a o) : L2.Inv X pins σ (upd H a o) s := by
  have ne0 : ∀ b u, X.s_0.heap.get? b = some u → b ≠ a := fun b u e z => by rw [z, n0] at e; cases e
  refine ⟨I.ok, I.os, I.bare, ⟨I.base.keep, I.base.slot, fun b u e n hx => ?_, I.base.there, fun b xs e => ?_, fun b u v e => ?_, fun b ps e => ?_⟩, I.loc, I.cell, ?_, fun x c e => ?_, fun p hp => ?_, HOk.laidN I.hok (fun _ _ q => q) na new, I.len⟩
  · rw [upd_ne (ne0 b u e)]; exact I.base.free b u e n hx
  · have q := I.base.tups b xs e
    rw [upd_ne (ne_of_none q na)]; exact q
  · have q := I.base.frzs b u v e
    rw [upd_ne (ne_of_none q na)]; exact q
  · obtain ⟨m, q⟩ := I.base.tbls b ps e
    exact ⟨m, by rw [upd_ne (ne_of_none q na)]; exact q⟩
  · rw [upd_ne nL]; exact I.free
  · rw [upd_ne (nC x c e)]; exact I.freeC x c e
  · obtain ⟨e, n, q1, q2, q3⟩ := I.pin p hp
    exact ⟨e, by rw [upd_ne (nP p hp)]; exact n, q1, q2, q3⟩
end MP
set_option Elab.async false
set_option linter.all false
set_option maxRecDepth 100000
set_option maxHeartbeats 2000000
/-! X10: try .. except x as n, where the caught error is tracked in the suite and behind it. -/
namespace MP
open PySem PySem.Spec L2 PyProof.Rows
/-- a caught error: its class, its dict -/
def exq (a : Addr) (cls : Value) (d : Option Addr) : HO := .ext fun h => ∃ (o : Obj) (vs : Array Value), h.get? a = some o ∧ Zc cls d o ∧ o.data = .fields vs
theorem exq_ok {P : Program} {w : World} {H : Hp} {h : Heap} {a : Addr} {cls : Value} {d : Option Addr} {o : Obj} {vs : Array Value} (e : h.get? a = some o) (z : Zc cls d o) (q : o.data = .fields vs) : ObjOk P w H h a (exq a cls d) :=
  ⟨⟨o, vs, e, z, q⟩, ⟨o, e⟩, fun _ _ ⟨o', v', e', z', q'⟩ k => ⟨o', v', k o' e', z', q'⟩⟩
def wTr (K : PySem.W.Frag) (c : Value) (i : Nat) (ts : Addr → Value → Option Addr → TS) (D : Ends) : WX := fun cls d σ H =>
  PySem.W.exmOne K cls c = some true ∧ ∀ a, H a = none → ts a cls d { nx := fun σ' H' => D.nx (σ'.set i none) H', rt := D.rt, bk := fun σ' H' => D.bk (σ'.set i none) H', ct := fun σ' H' => D.ct (σ'.set i none) H' } (σ.set i (some (.ref a))) (upd H a (exq a cls d))
section
variable {X : Cx} {pins : List (Addr × Obj)} {σ : L2.St} {H : Hp} {s : Shared} {x n : Str} {c : Value} {i : Nat} {body suite : List Stmt} {b₀ : Stmt} {np pos pos' : Pos} {tb : WX → TS} {ts : Addr → Value → Option Addr → TS} {rest : List ExceptHandler}
theorem inv_suite (I : L2.Inv X pins σ H s) (a : Addr) : L2.Inv (X.suite a (X.pn ++ pins)) [] σ H s :=
  ⟨I.ok.suite _ _, I.os, I.bare, I.base, I.loc, I.cell, I.free, I.freeC, fun p hp => I.pin p (by rw [List.append_nil] at hp; exact hp), I.hok, I.len⟩
theorem inv_unsuite {a : Addr} (I : L2.Inv (X.suite a (X.pn ++ pins)) [] σ H s) (ok : X.Ok) : L2.Inv X pins σ H s :=
  ⟨ok, I.os, I.bare, I.base, I.loc, I.cell, I.free, I.freeC, fun p hp => I.pin p (by rw [List.append_nil]; exact hp), I.hok, I.len⟩
theorem ps_tryT (hs : X.stack = X.env :: X.outer) (hf : X.env.frame = some X.env.locals) (hN : X.N.Nodup) (hi : X.N[i]? = some n) (hln : X.env.kindOf n = some .local) (hc : Names X x c) (hex : X.ex = [])
    (hb : ∀ (W : WX) (pn : List (Addr × Obj)) (xe : Value → Shared → Prop), Takes (X.tr pn xe) W → PassesOwn (model X.prog X.w) X.A X.env xe → PSs (X.tr pn xe) body (tb W))
    (hsu : ∀ (a : Addr) (cls : Value) (d : Option Addr) (pn : List (Addr × Obj)), PSs (X.suite a pn) (b₀ :: suite) (ts a cls d)) :
    PS X (.Try body (.ExceptHandler (some (.Name x np)) (some n) (b₀ :: suite) pos' :: rest) [] [] pos) (fun D σ H => tb (wTr X.K c i ts D) D σ H) := by
  refine ⟨fun pins s σ H D I0 z0 => ?_⟩
  have ok := I0.ok
  have frm : X.A.frames = some (X.env :: X.outer) := by rw [ok.frames, hs]
  have lcl : Loc X.env.scope n := .inl hln
  refine wpAny_Try_except ?_
  refine wpAny_mono ((hb (wTr X.K c i ts D) (X.pn ++ pins) (fun e s₁ => wpAny (model X.prog X.w) X.A (noteFrame e X.env) (fun _ s₂ => wpAny (model X.prog X.w) X.A (setFlight e none) (fun _ s₃ =>
    wpAny (model X.prog X.w) X.A (handleBy e X.env (.ExceptHandler (some (.Name x np)) (some n) (b₀ :: suite) pos' :: rest)) (SP X pins D) X.xe s₃) X.xe s₂) X.xe s₁) (fun u s' xx => ?_) PassesOwn.looking).run [] s σ H D (I0.toTry _) z0) (fun f s1 hsp => ?_) (fun e s1 he => he)
  · obtain ⟨a, G, sI, pins', σ1, H1, cls, d, rfl, J', nb, up, sky, na, os, ag, hb1, hyes⟩ := xx
    have J : L2.Inv X pins σ1 H1 sI := J'.ofTry ok
    have sky1 : Sky G (X.env :: X.outer) a (Zc cls d) X.env.locals s'.heap := by rw [← hs]; exact sky
    show wpAny (model X.prog X.w) X.A (noteFrame (.ref a) X.env) _ _ _
    refine Sky.land Zc.steady frm hf sky1 fun h3 fl3 up3 => ?_
    have J3 : L2.Inv X pins σ1 H1 { s' with heap := h3 } := J.landed nb fl3.1 (up.trans up3) os ag
    obtain ⟨oe3, vs3, he3, hz3, hd3⟩ := fl3.there
    have noFr : a ∉ frs (X.env :: X.outer) := fun hm => by
      obtain ⟨_, o', e', hnf⟩ := fl3.2.2.1.mem hm
      rw [he3] at e'; cases e'
      exact hnf _ hd3
    have gI : sI.heap.get? a = none := by
      cases q : sI.heap.get? a with
      | none => rfl
      | some o =>
        have z := nb a o q (by rw [hs]; exact noFr)
        rw [fl3.2.1] at z; cases z
    have S3 := inv_suite J3 a
    refine wpAny_handleBy_cons (codeAny_handlers_test ?_) (by intro q; cases q)
    have LT : PySem.W.Looks (model X.prog X.w) h3 (typeOf (.ref a)) cls := fun A Q E s k q => wpAny_typeOf_ref (k _ _ he3) (by rw [hz3.1]; exact q)
    have LM := PySem.W.exm_one (M := model X.prog X.w) (J3.kIn) LT hb1
    have test : ∀ {Q : Value → Shared → Prop} {E : Value → Shared → Prop}, Q c { s' with heap := h3 } → wpAny (model X.prog X.w) (X.A.mark (some (.ref a))) (eval (.Name x np) X.env) Q E { s' with heap := h3 } := fun {Q E} q => by
      obtain ⟨g1, g2, g3 | ⟨g3, g4, g5⟩⟩ := hc
      · exact ld_glob (X := X.suite a (X.pn ++ pins)) S3 g1 g3 q g2
      · exact ld_blt (X := X.suite a (X.pn ++ pins)) S3 g1 g3 g4 q g5 g2
    refine test (LM.here ?_)
    refine codeAny_handlers_suite_as ?_
    refine HandSPX.lands_againZ fl3 fun h4 fl4 up4 => ?_
    have J4 : L2.Inv X pins σ1 H1 { s' with heap := h4 } := J.landed nb fl4.1 ((up.trans up3).trans up4) os ag
    obtain ⟨oe4, vs4, he4, hz4, hd4⟩ := fl4.there
    have n0 : X.s_0.heap.get? a = none := by
      cases q : X.s_0.heap.get? a with
      | none => rfl
      | some o =>
        obtain ⟨o', q'⟩ := J.base.there a o q (by rw [hex]; exact fun z => nomatch z)
        rw [gI] at q'; cases q'
    have T4 : L2.Inv X pins σ1 (upd H1 a (exq a cls d)) { s' with heap := h4 } := inv_track J4 na n0
      (fun z => noFr (List.mem_filterMap.mpr ⟨X.env, List.mem_cons_self, by rw [hf, z]⟩))
      (fun y c' e z => by
        obtain ⟨v, o, e1, e2⟩ := J.cell y c' e
        rw [z, gI] at e1; cases e1)
      (fun p hp z => by
        have e1 := (J.pin p hp).1
        rw [z, gI] at e1; cases e1) (exq_ok he4 hz4 hd4)
    have S4 := inv_suite T4 a
    refine store_ok (X := X.suite a (X.pn ++ pins)) (v := .ref a) S4 hN hi lcl rfl (fun s5 S5 => ?_) (.inr hln)
    refine wpAny_mono ((hsu a cls d (X.pn ++ pins)).run [] s5 _ _ _ S5 (hyes a na)) (fun f s6 hsp => ?_) (fun _ _ z => False.elim z)
    have ends : ∀ {σ6 : L2.St} {H6 : Hp} {Q : Shared → Prop}, L2.Inv (X.suite a (X.pn ++ pins)) [] σ6 H6 s6 → (∀ s7, L2.Inv X pins (σ6.set i none) H6 s7 → Q s7) →
        wpAny (model X.prog X.w) X.A (do bindName X.env n .none; unbindBehindTheSuite X.env n pos') (fun _ s7 => Q s7) X.xe s6 := fun {σ6 H6 Q} S6 hq => gone_ok (inv_unsuite S6 ok) hN hi hln hq
    cases f with
    | next =>
      obtain ⟨σ6, H6, S6, q6⟩ := hsp
      exact ends S6 fun s7 J7 => ⟨_, _, J7, q6⟩
    | brk =>
      obtain ⟨σ6, H6, S6, q6⟩ := hsp
      exact ends S6 fun s7 J7 => ⟨_, _, J7, q6⟩
    | cont =>
      obtain ⟨σ6, H6, S6, q6⟩ := hsp
      exact ends S6 fun s7 J7 => ⟨_, _, J7, q6⟩
    | ret u =>
      obtain ⟨v6, σ6, H6, S6, r6, q6⟩ := hsp
      exact ends S6 fun s7 J7 => ⟨_, _, _, J7, r6, q6⟩
  · cases f with
    | next =>
      obtain ⟨σ', H', J', q⟩ := hsp
      exact wpAny_execs_nil ⟨σ', H', J'.ofTry ok, q⟩
    | brk =>
      obtain ⟨σ', H', J', q⟩ := hsp
      exact ⟨σ', H', J'.ofTry ok, q⟩
    | cont =>
      obtain ⟨σ', H', J', q⟩ := hsp
      exact ⟨σ', H', J'.ofTry ok, q⟩
    | ret u =>
      obtain ⟨v, σ', H', J', r, q⟩ := hsp
      exact ⟨v, σ', H', J'.ofTry ok, r, q⟩
end
end MP
set_option Elab.async false
set_option linter.all false
set_option maxRecDepth 100000
set_option maxHeartbeats 2000000
/-! X11: readings without errors in any context; try as a statement of the layer; defs that may raise by their names. -/
namespace MP
open PySem PySem.Spec L2
open PyProof.Rows (envOfC)
/-- what raises nothing -/
def calmR {α : Type} : R α → R α
  | .ok d h => .ok d h
  | _ => .no
@[simp] theorem calmR_ok {α : Type} (d : α) (h : MH) : calmR (R.ok d h) = .ok d h := rfl
def mCalm {α : Type} (m : Env → MH → R α) : Env → MH → R α := fun env h => calmR (m env h)
def calmS : RS → RS
  | .er _ _ _ _ => .no
  | r => r
@[simp] theorem calmS_nx (e : Env) (h : MH) : calmS (.nx e h) = .nx e h := rfl
@[simp] theorem calmS_rt (d : D) (h : MH) : calmS (.rt d h) = .rt d h := rfl
def sCalm (s : S) : S := fun env h => calmS (s env h)
section
variable {X : Cx} {B : WB} {e tg : Expr} {es : List Expr} {st : Stmt} {sts : List Stmt} {m : M} {t : MB} {ms : MA} {mi : MI} {s : S}
theorem tR_calm {K : PySem.W.Frag} {α β : Type} {rel : Rel α β} {m : Env → MH → R α} {σ : St} {H : Hp} {Q : β → Hp → Prop} (t : tR K B rel (mCalm m) σ H Q) : tR K B0 rel m σ H Q := by
  obtain ⟨ρ, h, env, R, E, g⟩ := t
  refine ⟨ρ, h, env, R, E, ?_⟩
  unfold mCalm at g
  cases q : m env h with
  | ok d h' => rw [q] at g; exact g
  | er c d h' => rw [q] at g; exact g.elim
  | no => rw [q] at g; exact g.elim
theorem den_calm (h : Den X B0 e m) : Den X B e (mCalm m) := PE.imp h fun σ H Q t => tR_calm t
theorem dent_calm (h : DenT X B0 e t) : DenT X B e (mCalm t) := PT.imp h fun σ H Q t => tR_calm t
theorem dena_calm (h : DenA X B0 es ms) : DenA X B es (mCalm ms) := PA.imp h fun σ H Q t => tR_calm t
theorem deni_calm (h : DenI X B0 tg e mi) : DenI X B tg e (mCalm mi) := PI.imp h fun σ H Q t => tR_calm t
theorem dens_calm (h : DenS X B0 st s) : DenS X B st (sCalm s) := PS.imp h fun D σ H ⟨ρ, h, env, R, E, g⟩ => by
  refine ⟨ρ, h, env, R, E, ?_⟩
  unfold sCalm at g
  cases q : s env h with
  | nx e h' => rw [q] at g; exact g
  | rt d h' => rw [q] at g; exact g
  | bk e h' => rw [q] at g; exact g
  | ct e h' => rw [q] at g; exact g
  | er c d e h' => rw [q] at g; exact g.elim
  | no => rw [q] at g; exact g
theorem takes0 : Takes X B0 := fun u s' ⟨a, B, sI, pins, σ, H, cls, d, e, I, nb, up, sky, na, os, ag, w⟩ => w.elim
end
/-! ### try -/
def postS (i : Nat) : RS → RS
  | .nx e h => .nx (e.set i none) h
  | .bk e h => .bk (e.set i none) h
  | .ct e h => .ct (e.set i none) h
  | .rt d h => .rt d h
  | _ => .no
@[simp] theorem postS_nx (i : Nat) (e : Env) (h : MH) : postS i (.nx e h) = .nx (e.set i none) h := rfl
@[simp] theorem postS_rt (i : Nat) (d : D) (h : MH) : postS i (.rt d h) = .rt d h := rfl
/-- try: body / except Y as (slot i): suite -/
def sTry (Cs : List Str) (Y : Str) (i : Nat) (body suite : S) : S := fun env h => match body env h with
  | .er c d e h1 => if c ∈ Cs ∧ (c = Y ∨ Y = ("ReachError" : Str)) then postS i (suite (e.set i (some (.loc h1.length))) (h1 ++ [.err c d])) else .no
  | r => r
section
variable {X : Cx} {B : WB} {x n Y : Str} {i : Nat} {Cs : List Str} {body suite : List Stmt} {b₀ : Stmt} {np pos pos' : Pos} {sb ss : S} {rest : List ExceptHandler}
theorem good_try {K : PySem.W.Frag} {D : Ends} {σ : St} {ρ : List Addr} {H : Hp} {env : Env} {h : MH} {c : Value} (hx : ∀ C ∈ Cs, (C = Y ∨ Y = ("ReachError" : Str)) → PySem.W.exmOne K (.ref (He.ga K C)) c = some true)
    (g : GoodS K B D σ ρ H (sTry Cs Y i sb ss env h)) : GoodS K (wTr K c i (fun _ _ _ => tS K B0 ss) D) D σ ρ H (sb env h) := by
  unfold sTry at g
  cases q : sb env h with
  | nx e h' => rw [q] at g; exact g
  | rt d h' => rw [q] at g; exact g
  | bk e h' => rw [q] at g; exact g
  | ct e h' => rw [q] at g; exact g
  | no => rw [q] at g; exact g
  | er C d e h1 =>
    rw [q] at g
    obtain ⟨⟨hC, hY⟩, g1⟩ := good_ifS g
    intro ρ' v dx σ' H' R1 x1 rv E1 hd
    refine ⟨hx C hC hY, fun a ha => ?_⟩
    have ndx : dx ∉ ρ' := R1.notin hd (by simp) (by simp) (by simp) (by simp) (by simp)
    have hne : dx ≠ a := fun z => by rw [z, ha] at hd; cases hd
    have x2 : Ext ρ' H' (ρ' ++ [a]) (upd H' a (exq a (.ref (He.ga K C)) (some dx))) := Ext.newL ha
    have R2 : HR K (ρ' ++ [a]) (h1 ++ [.err C d]) (upd H' a (exq a (.ref (He.ga K C)) (some dx))) := by
      refine R1.newL ha ⟨dx, v, _, _, upd_same, ⟨_, rfl, fun h ⟨o, vs, e1, z, e2⟩ => ⟨o, vs, e1, z.1, z.2, e2⟩⟩, by rw [upd_ne hne]; exact hd, .xd, fun z => ?_, rv.ext R1 x2⟩
      rcases List.mem_append.mp z with z | z
      · exact ndx z
      · exact hne (List.mem_singleton.mp z)
    refine ⟨ρ' ++ [a], h1 ++ [.err C d], e.set i (some (.loc h1.length)), R2, (E1.ext R1 x2).set i (.loc (by rw [← R1.len]; simp)), ?_⟩
    have x12 := x1.trans x2
    cases qs : ss (e.set i (some (.loc h1.length))) (h1 ++ [.err C d]) with
    | nx e2 h2 => rw [qs] at g1; exact fun ρ2 σ2 H2 a b c => g1 ρ2 _ H2 a (x12.trans b) (c.unset i)
    | bk e2 h2 => rw [qs] at g1; exact fun ρ2 σ2 H2 a b c => g1 ρ2 _ H2 a (x12.trans b) (c.unset i)
    | ct e2 h2 => rw [qs] at g1; exact fun ρ2 σ2 H2 a b c => g1 ρ2 _ H2 a (x12.trans b) (c.unset i)
    | rt d2 h2 => rw [qs] at g1; exact fun ρ2 σ2 H2 a b c => g1 ρ2 _ H2 a (x12.trans b) c
    | er c2 d2 e2 h2 => rw [qs] at g1; exact g1.elim
    | no => rw [qs] at g1; exact g1.elim
theorem dens_try (er : Errs X.prog X.w X.K X.mg X.base Cs) (hY : Y ∈ ("ReachError" : Str) :: Cs) (hg : Gl X Y) (hs : X.stack = X.env :: X.outer) (hf : X.env.frame = some X.env.locals) (hN : X.N.Nodup) (hi : X.N[i]? = some n) (hln : X.env.kindOf n = some .local) (hex : X.ex = [])
    (hb : ∀ (W : WB) (pn : List (Addr × Obj)) (xe : Value → Shared → Prop), Takes (X.tr pn xe) W → PassesOwn (model X.prog X.w) X.A X.env xe → DenSs (X.tr pn xe) W body sb)
    (hsu : ∀ (a : Addr) (pn : List (Addr × Obj)), DenSs (X.suite a pn) B0 (b₀ :: suite) ss) (hdb : (Y == ("__debug__" : Str)) = false := by decide) :
    DenS X B (.Try body (.ExceptHandler (some (.Name Y np)) (some n) (b₀ :: suite) pos' :: rest) [] [] pos) (sTry Cs Y i sb ss) := by
  have hm : X.mg Y = some (.ref (He.ga X.K Y)) := by
    rcases List.mem_cons.mp hY with rfl | h
    · exact er.glR
    · exact er.gl _ h
  have hx : ∀ C ∈ Cs, (C = Y ∨ Y = ("ReachError" : Str)) → PySem.W.exmOne X.K (.ref (He.ga X.K C)) (.ref (He.ga X.K Y)) = some true := fun C hC h => by
    rw [er.exm C hC Y hY]
    rcases h with h | h <;> simp [h]
  exact PS.imp (ps_tryT (c := .ref (He.ga X.K Y)) (tb := fun W => tS X.K W sb) (ts := fun _ _ _ => tS X.K B0 ss) hs hf hN hi hln ⟨hg, hdb, .inl hm⟩ hex (fun W pn xe t p => hb W pn xe t p) (fun a cls d pn => hsu a pn)) fun D σ H ⟨ρ, h, env, R, E, g⟩ =>
    ⟨ρ, h, env, R, E, good_try hx g⟩
end
/-! ### defs that may raise, by their names -/
structure OkE (P : Program) (w : World) (K : PySem.W.Frag) (mg : Str → Option Value) (base : Heap) (k : Nat) (x : Str) (n : Nat) (F : List D → MH → R D) : Prop where
  ex : ∃ fd ps, FnE P w K mg base k (He.ga K x) fd ps (spE K n F) ∧ Binds K fd ps []
  kp : PySem.W.keepIn K (.ref (He.ga K x)) = true
  gl : mg x = some (.ref (He.ga K x))
theorem OkE.mono {P : Program} {w : World} {K : PySem.W.Frag} {mg : Str → Option Value} {base : Heap} {j k : Nat} {x : Str} {n : Nat} {F : List D → MH → R D} (o : OkE P w K mg base j x n F) (h : j ≤ k) : OkE P w K mg base k x n F := by
  obtain ⟨⟨fd, ps, G, b⟩, kp, gl⟩ := o
  exact ⟨⟨fd, ps, G.mono h, b⟩, kp, gl⟩
section
variable {P : Program} {w : World} {K : PySem.W.Frag} {mg : Str → Option Value} {base h : Heap}
theorem okE_mk {x : Str} {st : Stmt} {N ps : List Str} {k n : Nat} {s : S} (KX : K.In h) (G : h.Ns mainGlobals mg) (g : (He.Fa.glo x).ok K = true) (Fd : ∃ fd, FunD K x x (defArgs st) (defBody st) (defScope st) [] [] (He.ga K x) fd)
    (Sc : FnScope N ps (defScope st)) (hn : ps.length = n)
    (hbind : ∀ (kV doc pm : Value) (an : Option Addr) (cdv ct : Value) (us : List Value), us.length = ps.length → bindArgs (PySem.W.fnOf x x (defArgs st) (defBody st) (defScope st) .none kV doc pm an cdv ct) ⟨us, []⟩ = pure (ps.zip us))
    (hb : ∀ (cdv : Value) (A : Around) (outer : List PySem.Env) (s' : Shared) (H : Hp) (E : XK), RoomG k (A.deeper (envOfC x (defScope st) s'.heap.objs.size (He.ga K x) cdv)) → Takes (cxOf (CX P w) P w K mg base N x (defScope st) (He.ga K x) cdv A outer s' H E) (BE E) →
      PassesOwn (model P w) (cxOf (CX P w) P w K mg base N x (defScope st) (He.ga K x) cdv A outer s' H E).A (cxOf (CX P w) P w K mg base N x (defScope st) (He.ga K x) cdv A outer s' H E).env (cxOf (CX P w) P w K mg base N x (defScope st) (He.ga K x) cdv A outer s' H E).xe →
      DenSs (cxOf (CX P w) P w K mg base N x (defScope st) (He.ga K x) cdv A outer s' H E) (BE E) (defBody st) s) :
    OkE P w K mg base (k + 1) x n (denF N.length s) := by
  obtain ⟨fd, F⟩ := Fd
  subst hn
  exact ⟨⟨fd, ps, fnE_ok F Sc fun cdv A outer s' H E hr tk => hb cdv A outer s' H E hr tk (passes_of (K := fun e s'' => CX P w outer H s' E e s'') rfl), F.bindsN hbind⟩, F.kp, He.glo_ok KX G g⟩
end
section
variable {X : Cx} {B : WB} {e : Expr} {es : List Expr} {ms : MA} {p pos : Pos}
theorem den_callOE {k j n : Nat} {x : Str} {F : List D → MH → R D} (tk : Takes X B) (o : OkE X.prog X.w X.K X.mg X.base k x n F) (hr : RoomG j X.A) (hk : k ≤ j) (hg : Gl X x)
    (ha : DenA X B (e :: es) ms) (hdb : (x == ("__debug__" : Str)) = false := by decide) (he : starEach (e :: es) X.env = (false, eval e X.env) :: starEach es X.env := by rfl) (hpl : (backTo pos (starEach es X.env)).any (·.1) = false := by rfl) :
    Den X B (.Call (.Name x p) (e :: es) [] pos) (mCall n F ms) := by
  obtain ⟨fd, ps, G, b⟩ := o.ex
  exact den_callE tk G (hr.mono hk) hg o.gl o.kp b ha hdb he hpl
end
end MP
set_option Elab.async false
set_option linter.all false
set_option maxRecDepth 100000
set_option maxHeartbeats 2000000
/-! M13: comprehensions over a growing heap, by what they make. -/
namespace MP
open PySem PySem.Spec L2
theorem take_succ_filter {α β : Type} (c : α → Bool) (g : α → β) {ds : List α} {i : Nat} {d : α} (hd : ds[i]? = some d) :
    (((ds.take (i + 1)).filter c).map g) = ((ds.take i).filter c).map g ++ (if c d = true then [g d] else []) := by
  rw [List.take_add_one, hd]
  by_cases h : c d = true
  · simp [List.filter_append, h]
  · simp [List.filter_append, h]
theorem lc_ok {it : MI} {tg : Tg} {cond : MB} {elt : M} {vs : List Nat} {env : Env} {h h1 : MH} {src : Src} {ds : List D} (c : D → Bool) (g : D → D)
    (e : it env h = .ok src h1) (hget : ∀ h', Gr h1 h' → ∀ i, src.get h' i = some ds[i]?) (hfuel : ds.length < src.fuel h1) (hl : ds.length ≤ sizeLine)
    (hs : ∀ d ∈ ds, ∀ h', Gr h1 h' → ∃ e1, tg.put d (wipeE env vs) = some e1 ∧ ∃ h2, cond e1 h' = .ok (c d) h2 ∧ Gr h' h2 ∧ (c d = true → ∃ h3, elt e1 h2 = .ok (g d) h3 ∧ Gr h2 h3)) :
    ∃ n h', mLc it tg cond elt vs env h = .ok (.loc n) h' ∧ h'[n]? = some (.lst ((ds.filter c).map g)) ∧ Gr h1 h' ∧ h1.length ≤ n := by
  obtain ⟨acc, h2, e2, G2, q⟩ := loopC_run (src := src) (tg := tg) (cond := cond) (elt := elt) (e0 := wipeE env vs) (ds := ds) (Pv := fun i acc h' => Gr h1 h' ∧ acc = ((ds.take i).filter c).map g)
    (fun i acc h' z => hget h' z.1 i)
    (fun i acc h' d z hd => by
      obtain ⟨G, rfl⟩ := z
      obtain ⟨hi, hdi⟩ := List.getElem?_eq_some_iff.mp hd
      obtain ⟨e1, q1, h2, q2, G2, q3⟩ := hs d (hdi ▸ List.getElem_mem hi) h' G
      refine ⟨e1, q1, c d, h2, q2, fun hc => ?_, fun hc => ?_⟩
      · obtain ⟨h3, q4, G3⟩ := q3 hc
        refine ⟨_, h3, q4, ?_, (G.trans G2).trans G3, ?_⟩
        · have a1 := List.length_filter_le c (ds.take i)
          simp only [List.length_map, List.length_take] at a1 ⊢
          omega
        · rw [take_succ_filter c g hd, if_pos hc]
      · exact ⟨G.trans G2, by rw [take_succ_filter c g hd, if_neg (by rw [hc]; simp)]; simp⟩)
    ds.length (src.fuel h1) 0 [] h1 (by simp) hfuel ⟨Gr.refl, by simp⟩
  refine ⟨h2.length, h2 ++ [.lst acc], ?_, ?_, G2.trans Gr.app, G2.le⟩
  · rw [e_mLc, e, R.bind_ok, e2]; rfl
  · rw [get_new, q, List.take_length]
section
variable {tg : Tg} {cond : MB} {elt m : M} {vs : List Nat} {env : Env} {h h1 : MH} {ds : List D} {n : Nat} {s : Str}
theorem lc_lst (c : D → Bool) (g : D → D) (e : m env h = .ok (.loc n) h1) (q : h1[n]? = some (.lst ds)) (hl : ds.length ≤ sizeLine)
    (hs : ∀ d ∈ ds, ∀ h', Gr h1 h' → ∃ e1, tg.put d (wipeE env vs) = some e1 ∧ ∃ h2, cond e1 h' = .ok (c d) h2 ∧ Gr h' h2 ∧ (c d = true → ∃ h3, elt e1 h2 = .ok (g d) h3 ∧ Gr h2 h3)) :
    ∃ n h', mLc (iL m) tg cond elt vs env h = .ok (.loc n) h' ∧ h'[n]? = some (.lst ((ds.filter c).map g)) ∧ Gr h1 h' ∧ h1.length ≤ n :=
  lc_ok (src := .lst (.loc n)) c g (by simp [iL, e, q]) (fun h' G i => get_lst (G.keep _ _ q) i) (by rw [fuel_lst q]; omega) hl hs
theorem lc_tup (c : D → Bool) (g : D → D) (e : m env h = .ok (.tup ds) h1) (hl : ds.length ≤ sizeLine)
    (hs : ∀ d ∈ ds, ∀ h', Gr h1 h' → ∃ e1, tg.put d (wipeE env vs) = some e1 ∧ ∃ h2, cond e1 h' = .ok (c d) h2 ∧ Gr h' h2 ∧ (c d = true → ∃ h3, elt e1 h2 = .ok (g d) h3 ∧ Gr h2 h3)) :
    ∃ n h', mLc (iT m) tg cond elt vs env h = .ok (.loc n) h' ∧ h'[n]? = some (.lst ((ds.filter c).map g)) ∧ Gr h1 h' ∧ h1.length ≤ n :=
  lc_ok (src := .tup ds) c g (by simp [e]) (fun h' G i => rfl) (by simp [Src.fuel]) hl hs
theorem lc_str (c : D → Bool) (g : D → D) (e : m env h = .ok (.str s) h1) (hl : s.length ≤ sizeLine)
    (hs : ∀ x ∈ s.cps.toList, ∀ h', Gr h1 h' → ∃ e1, tg.put (.str ⟨#[x]⟩) (wipeE env vs) = some e1 ∧ ∃ h2, cond e1 h' = .ok (c (.str ⟨#[x]⟩)) h2 ∧ Gr h' h2 ∧ (c (.str ⟨#[x]⟩) = true → ∃ h3, elt e1 h2 = .ok (g (.str ⟨#[x]⟩)) h3 ∧ Gr h2 h3)) :
    ∃ n h', mLc (iS m) tg cond elt vs env h = .ok (.loc n) h' ∧ h'[n]? = some (.lst (((s.cps.toList.map fun x => D.str ⟨#[x]⟩).filter c).map g)) ∧ Gr h1 h' ∧ h1.length ≤ n := by
  refine lc_ok (src := .str s) c g (by simp [e]) (fun h' G i => get_str s h' i) (by simp [Src.fuel]) (by simpa [Str.length] using hl) fun d hd h' G => ?_
  obtain ⟨x, hx, rfl⟩ := List.mem_map.mp hd
  exact hs x hx h' G
theorem lc_rng {j : Int} (c : D → Bool) (g : D → D) (e : m env h = .ok (.int j) h1) (hj : CRng j) (hl : j.toNat ≤ sizeLine)
    (hs : ∀ i : Nat, i < j.toNat → ∀ h', Gr h1 h' → ∃ e1, tg.put (.int (i : Int)) (wipeE env vs) = some e1 ∧ ∃ h2, cond e1 h' = .ok (c (.int (i : Int))) h2 ∧ Gr h' h2 ∧ (c (.int (i : Int)) = true → ∃ h3, elt e1 h2 = .ok (g (.int (i : Int))) h3 ∧ Gr h2 h3)) :
    ∃ n h', mLc (iR1 m) tg cond elt vs env h = .ok (.loc n) h' ∧ h'[n]? = some (.lst ((((List.range j.toNat).map fun (i : Nat) => D.int (i : Int)).filter c).map g)) ∧ Gr h1 h' ∧ h1.length ≤ n := by
  refine lc_ok (src := .rng 0 j.toNat) c g (by simp [e, hj]) (fun h' G i => ?_) (by simp [Src.fuel]) (by simpa using hl) fun d hd h' G => ?_
  · rw [get_rng]; simp
  · obtain ⟨i, hi, rfl⟩ := List.mem_map.mp hd
    exact hs i (List.mem_range.mp hi) h' G
theorem filter_yes {α : Type} (l : List α) : l.filter (fun _ => true) = l := by simp
/-- all, any of such -/
theorem all_lst {ds : List D} {bs : List Bool} (q : h[n]? = some (.lst ds)) (e : ds = bs.map D.bl) : bAll [.loc n] h = .ok (.bl (bs.all id)) h := by
  subst e; simp [bAll, q, boolsOf_map]
theorem any_lst {ds : List D} {bs : List Bool} (q : h[n]? = some (.lst ds)) (e : ds = bs.map D.bl) : bAny [.loc n] h = .ok (.bl (bs.any id)) h := by
  subst e; simp [bAny, q, boolsOf_map]
theorem len_lst {ds : List D} (q : h[n]? = some (.lst ds)) : bLen [.loc n] h = .ok (.int (ds.length : Int)) h := by simp [q]
theorem tup_lst {ds : List D} (q : h[n]? = some (.lst ds)) : bTuple [.loc n] h = .ok (.tup ds) h := by simp [bTuple, q]
end
@[simp] theorem f_inC (c : Nat) (z : Str) (h : MH) : fIn (.str ⟨#[c]⟩) (.str z) h = .ok (.bl (decide (c ∈ z.cps.toList))) h := rfl
@[simp] theorem f_notInC (c : Nat) (z : Str) (h : MH) : fNotIn (.str ⟨#[c]⟩) (.str z) h = .ok (.bl (!decide (c ∈ z.cps.toList))) h := rfl
@[simp] theorem isi_str (s : Str) (h : MH) : bIsi [.str s, .ty "str"] h = .ok (.bl true) h := rfl
@[simp] theorem isn_non (h : MH) : fIsN .non .non h = .ok (.bl true) h := rfl
@[simp] theorem isn_tup (ds : List D) (h : MH) : fIsN (.tup ds) .non h = .ok (.bl false) h := rfl
@[simp] theorem isn_int (i : Int) (h : MH) : fIsN (.int i) .non h = .ok (.bl false) h := rfl
@[simp] theorem isn_str (i : Str) (h : MH) : fIsN (.str i) .non h = .ok (.bl false) h := rfl
@[simp] theorem notn_non (h : MH) : fNotN .non .non h = .ok (.bl false) h := rfl
@[simp] theorem notn_tup (ds : List D) (h : MH) : fNotN (.tup ds) .non h = .ok (.bl true) h := rfl
@[simp] theorem notn_str (i : Str) (h : MH) : fNotN (.str i) .non h = .ok (.bl true) h := rfl
end MP
set_option Elab.async false
set_option linter.all false
set_option maxRecDepth 100000
set_option maxHeartbeats 4000000
namespace MP
namespace Pg
open PySem PySem.Spec L2
open He (Fa)
def top (i : Nat) : Stmt := PySem.Challenge.pw_editreach_k82_texts_that_are_none.main.body.getD i (.Pass ⟨0, 0, 0, 0⟩)
def c_LETTERS : Str := "abcdefghijklmnopqrstuvwxyz"
def c_DIGITS : Str := "0123456789"
def c_SIGNS : Str := " !\"#$&'()*+,-./0123456789:;<=>?@ABCDEFGHIJKLMNOPQRSTUVWXYZ[\\]^_`abcdefghijklmnopqrstuvwxyz{|}~"
def c_BLANK : Str := " "
def c_FEED : Str := "\n"
def c_BAR : Str := "|"
def c_NONE : Str := "-"
abbrev errCs : List Str := ["BadShown"]
abbrev st_law_take : Stmt := top 30
abbrev N_law_take : List Str := ["_law_pot_here", "_law_upto", "_law_digit", "_law_prime", "_law_mixed"]
def b_law_take_1 : S :=
  (sRet (mBin fMod (mB bInt (aCons (mBin fDiv (mVar 4) (mC (.int 101))) aNil)) (mVar 1)))
def b_law_take_2 : S :=
  (sSet 4 (mBin fMod (mB bInt (aCons (mBin fMul (mVar 4) (mBin fAdd (mBin fMod (mB bInt (aCons (mVar 4) aNil)) (mC (.int 10009))) (mBin fMul (mC (.int 83)) (mBin fIx (mVar 0) (mC (.int 2)))))) aNil)) (mC (.int 2305843009213693907))))
def b_law_take_3 : S :=
  (sSet 4 (mBin fMod (mB bInt (aCons (mBin fPow (mB bInt (aCons (mBin fAdd (mBin fAdd (mBin fIx (mVar 0) (mC (.int 1))) (mBin fMul (mBin fMul (mC (.int 99871)) (mBin fIx (mVar 0) (mC (.int 2)))) (mBin fIx (mVar 0) (mC (.int 2))))) (mC (.int 47))) aNil)) (mC (.int 3))) aNil)) (mVar 3)))
def b_law_take_4 : S :=
  (sSet 3 (mBin fIx (mLst (aCons (mC (.int 2147483647)) (aCons (mC (.int 2147483629)) (aCons (mC (.int 2147483587)) (aCons (mC (.int 2147483579)) (aCons (mC (.int 2147483563)) aNil)))))) (mBin fMod (mB bInt (aCons (mBin fIx (mVar 0) (mC (.int 2))) aNil)) (mC (.int 5)))))
def b_law_take_5 : S :=
  (sSetIx (mBin fAdd (mBin fIx (mVar 0) (mC (.int 2))) (mC (.int 1))) (mVar 0) (mC (.int 2)))
def b_law_take_6 : S :=
  (sIf (mTest (mBin fGt (mBin fIx (mVar 0) (mC (.int 0))) (mC (.int 0)))) (sSeq (sSet 2 (mBin fMod (mB bInt (aCons (mBin fIx (mVar 0) (mC (.int 0))) aNil)) (mVar 1)))
  (sSeq (sSetIx (mBin fDiv (mBin fIx (mVar 0) (mC (.int 0))) (mVar 1)) (mVar 0) (mC (.int 0)))
  (sRet (mVar 2)))) sNop)
def b_law_take : S :=
  (sSeq b_law_take_6
  (sSeq b_law_take_5
  (sSeq b_law_take_4
  (sSeq b_law_take_3
  (sSeq b_law_take_2
  b_law_take_1)))))
def F_law_take : List D → MH → R D := denF 5 b_law_take
abbrev st_law_of : Stmt := top 31
abbrev N_law_of : List Str := ["_law_pot_here", "_law_some"]
def b_law_of : S :=
  (sRet (mBin fIx (mVar 1) (mCall 2 F_law_take (aCons (mVar 0) (aCons (mB bLen (aCons (mVar 1) aNil)) aNil)))))
def F_law_of : List D → MH → R D := denF 2 b_law_of
abbrev st_law_bent : Stmt := top 43
abbrev N_law_bent : List Str := ["_law_pot_here", "_law_text", "_law_at", "_law_way", "_law_sign"]
def b_law_bent : S :=
  (sSeq (sPar 2 3 (mCall 2 F_law_take (aCons (mVar 0) (aCons (mBin fAdd (mB bLen (aCons (mVar 1) aNil)) (mC (.int 1))) aNil))) (mCall 2 F_law_take (aCons (mVar 0) (aCons (mC (.int 4)) aNil))))
  (sSeq (sSet 4 (mCall 2 F_law_of (aCons (mVar 0) (aCons (mLst (aCons (mC (.str "0")) (aCons (mC (.str "1")) (aCons (mC (.str "-")) (aCons (mC (.str "|")) (aCons (mC (.str "\n")) (aCons (mC (.str " ")) (aCons (mC (.str "a")) (aCons (mC (.str "A")) (aCons (mC (.str "\t")) (aCons (mC (.str "z")) aNil))))))))))) aNil))))
  (sSeq (sIf (mTest (mBin fEq (mVar 3) (mC (.int 0)))) (sRet (mBin fAdd (mSl (mVar 1) oNone (oSome (mVar 2))) (mSl (mVar 1) (oSome (mBin fAdd (mVar 2) (mC (.int 1)))) oNone))) sNop)
  (sRet (mBin fAdd (mBin fAdd (mSl (mVar 1) oNone (oSome (mVar 2))) (mVar 4)) (mSl (mVar 1) (oSome (mBin fAdd (mVar 2) (mB bInt (aCons (mBin fGt (mVar 3) (mC (.int 1))) aNil)))) oNone))))))
def F_law_bent : List D → MH → R D := denF 5 b_law_bent
abbrev st_law_deed : Stmt := top 34
abbrev N_law_deed : List Str := ["_law_pot_here", "_law_names", "_law_some", "_law_word"]
def b_law_deed : S :=
  (sSeq (sSet 3 (mCall 2 F_law_of (aCons (mVar 0) (aCons (mVar 2) aNil))))
  (sRet (mIf (mTest (mBin fIn (mVar 3) (mTup (aCons (mC (.str "open")) (aCons (mC (.str "turn")) aNil))))) (mTup (aCons (mVar 3) (aCons (mCall 2 F_law_of (aCons (mVar 0) (aCons (mVar 1) aNil))) aNil))) (mIf (mTest (mBin fNe (mVar 3) (mC (.str "")))) (mTup (aCons (mVar 3) aNil)) (mTup aNil)))))
def F_law_deed : List D → MH → R D := denF 4 b_law_deed
abbrev st_law_book : Stmt := top 35
abbrev N_law_book : List Str := ["_law_pot_here", "_law_names", "_law_modes", "_law_depth", "_law_signs_here", "_law_name", "_law_colour", "_law_own", "_law_ending", "_law_sign", "_law_shade"]
def b_law_book_1 : S :=
  (sIf (mTest (mBin fEq (mCall 2 F_law_take (aCons (mVar 0) (aCons (mIf (mTest (mBin fEq (mVar 9) (mC (.str "any")))) (mC (.int 5)) (mC (.int 2))) aNil))) (mC (.int 0)))) (sSeq (sSet 10 (mCall 2 F_law_of (aCons (mVar 0) (aCons (mLst (aCons (mC (.str "red")) (aCons (mC (.str "blue")) (aCons (mC (.str "green")) aNil)))) aNil))))
  (sDrop (mMeth "list" fAppend (mVar 7) (aCons (mTup (aCons (mVar 9) (aCons (mVar 10) (aCons (mCall 3 F_law_deed (aCons (mVar 0) (aCons (mVar 1) (aCons (mLst (aCons (mC (.str "open")) (aCons (mC (.str "open")) (aCons (mC (.str "turn")) (aCons (mC (.str "close")) (aCons (mC (.str "")) aNil)))))) aNil)))) aNil)))) aNil)))) sNop)
def b_law_book_2 : S :=
  (sSeq (sPar 6 7 (mCall 2 F_law_of (aCons (mVar 0) (aCons (mLst (aCons (mC (.str "red")) (aCons (mC (.str "red")) (aCons (mC (.str "blue")) aNil)))) aNil))) (mLst aNil))
  (sSeq (sSet 8 (mCall 3 F_law_deed (aCons (mVar 0) (aCons (mVar 1) (aCons (mLst (aCons (mC (.str "")) (aCons (mC (.str "")) (aCons (mC (.str "close")) (aCons (mC (.str "end")) (aCons (mC (.str "turn")) aNil)))))) aNil)))))
  (sSeq (sFor (iL (mBin fAdd (mVar 4) (mLst (aCons (mC (.str "any")) aNil)))) (.nm 9) b_law_book_1)
  (sDrop (mMeth "list" fAppend (mVar 2) (aCons (mTup (aCons (mVar 5) (aCons (mVar 6) (aCons (mVar 8) (aCons (mVar 7) aNil))))) aNil))))))
def b_law_book : S :=
  (sSeq (sPar 1 2 (mSl (mLst (aCons (mC (.str "a")) (aCons (mC (.str "b")) (aCons (mC (.str "c")) aNil)))) oNone (oSome (mBin fAdd (mC (.int 1)) (mCall 2 F_law_take (aCons (mVar 0) (aCons (mC (.int 3)) aNil)))))) (mLst aNil))
  (sSeq (sPar 3 4 (mCall 2 F_law_of (aCons (mVar 0) (aCons (mLst (aCons (mC (.int 2)) (aCons (mC (.int 2)) (aCons (mC (.int 1)) aNil)))) aNil))) (mSl (mLst (aCons (mC (.str "!")) (aCons (mC (.str "a")) (aCons (mC (.str " ")) aNil)))) oNone (oSome (mBin fAdd (mC (.int 1)) (mCall 2 F_law_take (aCons (mVar 0) (aCons (mC (.int 3)) aNil)))))))
  (sSeq (sFor (iL (mVar 1)) (.nm 5) b_law_book_2)
  (sRet (mDisp [((mC (.str "depth")), (mVar 3)), ((mC (.str "modes")), (mVar 2))])))))
def F_law_book : List D → MH → R D := denF 11 b_law_book
abbrev st_law_signs : Stmt := top 33
abbrev N_law_signs : List Str := ["_law_book_here", "_law_found", "_law_name", "_law_colour", "_law_ending", "_law_own", "_law_row"]
def m_law_signs_1 : M :=
  (mTup (aCons (mBin fIx (mVar 6) (mC (.int 0))) (aCons (mC (.bl true)) aNil)))
def c_law_signs_2 : MB :=
  (mTest (mBin fNe (mBin fIx (mVar 6) (mC (.int 0))) (mC (.str "any"))))
def b_law_signs_3 : S :=
  (sDrop (mMeth "dict" fUpdate (mVar 1) (aCons (mB bDict (aCons (mLc (iL (mVar 5)) (.nm 6) c_law_signs_2 m_law_signs_1 [6]) aNil)) aNil)))
def b_law_signs : S :=
  (sSeq (sSet 1 mDNew)
  (sSeq (sFor (iL (mBin fDGet (mVar 0) (mC (.str "modes")))) (.tp [2, 3, 4, 5]) b_law_signs_3)
  (sRet (mBin fAdd (mB bSorted (aCons (mVar 1) aNil)) (mLst (aCons (mC (.str "z")) aNil))))))
def F_law_signs : List D → MH → R D := denF 7 b_law_signs
abbrev st_law_line : Stmt := top 36
abbrev N_law_line : List Str := ["_law_pot_here", "_law_book_here", "_law_most", "_law_turn"]
def m_law_line_1 : M :=
  (mCall 2 F_law_of (aCons (mVar 0) (aCons (mCall 1 F_law_signs (aCons (mVar 1) aNil)) aNil)))
def b_law_line : S :=
  (sRet (mMeth "str" fJoin (mC (.str "")) (aCons (mLc (iR1 (mCall 2 F_law_take (aCons (mVar 0) (aCons (mBin fAdd (mVar 2) (mC (.int 1))) aNil)))) (.nm 3) bYes m_law_line_1 [3]) aNil)))
def F_law_line : List D → MH → R D := denF 4 b_law_line
abbrev st_law_drawn : Stmt := top 44
abbrev N_law_drawn : List Str := ["_law_pot_here", "_law_book_here", "_law_way", "_law_lines", "_law_turn"]
def m_law_drawn_1 : M :=
  (mBin fAdd (mC (.str "|")) (mCall 3 F_law_line (aCons (mVar 0) (aCons (mVar 1) (aCons (mC (.int 3)) aNil)))))
def b_law_drawn : S :=
  (sSeq (sSet 3 (mMeth "str" fJoin (mC (.str "\n")) (aCons (mLc (iR1 (mBin fAdd (mC (.int 1)) (mCall 2 F_law_take (aCons (mVar 0) (aCons (mC (.int 2)) aNil))))) (.nm 4) bYes m_law_drawn_1 [4]) aNil)))
  (sSeq (sIf (mTest (mBin fEq (mVar 2) (mC (.int 0)))) (sRet (mMeth "str" fJoin (mC (.str " ")) (aCons (mCall 2 F_law_of (aCons (mVar 0) (aCons (mLst (aCons (mLst (aCons (mC (.str "a")) aNil)) (aCons (mLst (aCons (mC (.str "code")) (aCons (mC (.str "warm")) aNil))) (aCons (mLst (aCons (mC (.str "a")) (aCons (mC (.str "b")) (aCons (mC (.str "zzzzzzzz")) aNil)))) aNil)))) aNil))) aNil))) sNop)
  (sRet (mIf (mTest (mBin fEq (mVar 2) (mC (.int 1)))) (mVar 3) (mBin fAdd (mBin fAdd (mCall 2 F_law_of (aCons (mVar 0) (aCons (mLst (aCons (mC (.str "0 0")) (aCons (mC (.str "1 12")) (aCons (mC (.str "10 10")) (aCons (mC (.str "3 999999999")) aNil))))) aNil))) (mC (.str "\n"))) (mVar 3))))))
def F_law_drawn : List D → MH → R D := denF 5 b_law_drawn
abbrev st_law_is_lines : Stmt := top 39
abbrev N_law_is_lines : List Str := ["_law_text", "_law_rows", "_law_row"]
def m_law_is_lines_1 : M :=
  (vOr (mBin fNe (mSl (mVar 2) oNone (oSome (mC (.int 1)))) (mC (.str "|"))) (mBin fIn (mC (.str "\t")) (mVar 2)))
def b_law_is_lines : S :=
  (sSeq (sIf (mTest (mBin fEq (mVar 0) (mC (.str "-")))) (sRet (mC (.bl true))) sNop)
  (sSeq (sSet 1 (mMeth "str" fSplit (mVar 0) (aCons (mC (.str "\n")) aNil)))
  (sSeq (sIf (mTest (mB bAny (aCons (mLc (iL (mVar 1)) (.nm 2) bYes m_law_is_lines_1 [2]) aNil))) (sRet (mC (.bl false))) sNop)
  (sRet (mC (.bl true))))))
def F_law_is_lines : List D → MH → R D := denF 3 b_law_is_lines
abbrev st_law_is_name : Stmt := top 37
abbrev N_law_is_name : List Str := ["_law_word", "_law_letters", "_law_sign"]
def m_law_is_name_1 : M :=
  (mVar 2)
def c_law_is_name_2 : MB :=
  (mTest (mBin fIn (mVar 2) (mC (.str "abcdefghijklmnopqrstuvwxyz"))))
def b_law_is_name : S :=
  (sSeq (sSet 1 (mLc (iS (mVar 0)) (.nm 2) c_law_is_name_2 m_law_is_name_1 [2]))
  (sRet (vAnd (mChain fLe fLe (mC (.int 1)) (mB bLen (aCons (mVar 0) aNil)) (mC (.int 8))) (mBin fEq (mB bLen (aCons (mVar 1) aNil)) (mB bLen (aCons (mVar 0) aNil))))))
def F_law_is_name : List D → MH → R D := denF 3 b_law_is_name
abbrev st_law_is_number : Stmt := top 38
abbrev N_law_is_number : List Str := ["_law_word", "_law_figures", "_law_sign"]
def m_law_is_number_1 : M :=
  (mVar 2)
def c_law_is_number_2 : MB :=
  (mTest (mBin fIn (mVar 2) (mC (.str "0123456789"))))
def b_law_is_number : S :=
  (sSeq (sSet 1 (mLc (iS (mVar 0)) (.nm 2) c_law_is_number_2 m_law_is_number_1 [2]))
  (sRet (vAnd (mChain fLe fLe (mC (.int 1)) (mB bLen (aCons (mVar 0) aNil)) (mC (.int 9))) (vAnd (mBin fEq (mB bLen (aCons (mVar 1) aNil)) (mB bLen (aCons (mVar 0) aNil))) (vOr (mBin fEq (mVar 0) (mC (.str "0"))) (mBin fNe (mBin fIx (mVar 0) (mC (.int 0))) (mC (.str "0"))))))))
def F_law_is_number : List D → MH → R D := denF 3 b_law_is_number
abbrev st_law_due : Stmt := top 40
abbrev N_law_due : List Str := ["_law_way", "_law_value", "_law_words", "_law_word"]
def b_law_due_1 : S :=
  (sRet (vAnd (mBin fLe (mB bInt (aCons (mBin fIx (mVar 2) (mC (.int 0))) aNil)) (mB bInt (aCons (mBin fIx (mVar 2) (mC (.int 1))) aNil))) (mCall 1 F_law_is_lines (aCons (mSl (mVar 1) (oSome (mBin fAdd (mMeth "str" fIndex (mVar 1) (aCons (mC (.str "\n")) aNil)) (mC (.int 1)))) oNone) aNil))))
def m_law_due_2 : M :=
  (mCall 1 F_law_is_number (aCons (mVar 3) aNil))
def b_law_due_3 : S :=
  (sIf (mOr (mTest (mBin fNotIn (mC (.str "\n")) (mVar 1))) (mOr (mTest (mBin fNe (mB bLen (aCons (mVar 2) aNil)) (mC (.int 2)))) (mNot (mTest (mB bAll (aCons (mLc (iL (mVar 2)) (.nm 3) bYes m_law_due_2 [3]) aNil)))))) (sRet (mC (.bl false))) sNop)
def b_law_due_4 : S :=
  (sSet 2 (mMeth "str" fSplit (mBin fIx (mMeth "str" fSplit (mVar 1) (aCons (mC (.str "\n")) aNil)) (mC (.int 0))) (aCons (mC (.str " ")) aNil)))
def b_law_due_5 : S :=
  (sIf (mTest (mBin fEq (mVar 0) (mC (.int 1)))) (sRet (mCall 1 F_law_is_lines (aCons (mVar 1) aNil))) sNop)
def m_law_due_6 : M :=
  (mCall 1 F_law_is_name (aCons (mVar 3) aNil))
def b_law_due_7 : S :=
  (sIf (mTest (mBin fEq (mVar 0) (mC (.int 0)))) (sSeq (sSet 2 (mMeth "str" fSplit (mVar 1) (aCons (mC (.str " ")) aNil)))
  (sRet (vAnd (mBin fLe (mB bLen (aCons (mVar 2) aNil)) (mC (.int 3))) (mB bAll (aCons (mLc (iL (mVar 2)) (.nm 3) bYes m_law_due_6 [3]) aNil))))) sNop)
def b_law_due_8 : S :=
  (sIf (mNot (mTest (mB bIsi (aCons (mVar 1) (aCons (mC (.ty "str")) aNil))))) (sRet (mC (.bl false))) sNop)
def b_law_due : S :=
  (sSeq b_law_due_8
  (sSeq b_law_due_7
  (sSeq b_law_due_5
  (sSeq b_law_due_4
  (sSeq b_law_due_3
  b_law_due_1)))))
def F_law_due : List D → MH → R D := denF 4 b_law_due
abbrev st_is_line : Stmt := top 10
abbrev N_is_line : List Str := ["value", "sign"]
def m_is_line_1 : M :=
  (mBin fIn (mVar 1) (mC (.str c_SIGNS)))
def b_is_line : S :=
  (sRet (vAnd (mB bIsi (aCons (mVar 0) (aCons (mC (.ty "str")) aNil))) (mB bAll (aCons (mLc (iS (mVar 0)) (.nm 1) bYes m_is_line_1 [1]) aNil))))
def F_is_line : List D → MH → R D := denF 2 b_is_line
abbrev st_lines_in : Stmt := top 22
abbrev N_lines_in : List Str := ["text", "rows", "row"]
def m_lines_in_1 : M :=
  (mSl (mVar 2) (oSome (mC (.int 1))) oNone)
def m_lines_in_2 : M :=
  (vAnd (mMeth "str" fStarts (mVar 2) (aCons (mC (.str c_BAR)) aNil)) (mCall 1 F_is_line (aCons (mSl (mVar 2) (oSome (mC (.int 1))) oNone) aNil)))
def b_lines_in : S :=
  (sSeq (sIf (mTest (mBin fEq (mVar 0) (mC (.str c_NONE)))) (sRet (mTup aNil)) sNop)
  (sSeq (sSet 1 (mMeth "str" fSplit (mVar 0) (aCons (mC (.str c_FEED)) aNil)))
  (sSeq (sIf (mNot (mTest (mB bAll (aCons (mLc (iL (mVar 1)) (.nm 2) bYes m_lines_in_2 [2]) aNil)))) (sRet (mC .non)) sNop)
  (sRet (mB bTuple (aCons (mLc (iL (mVar 1)) (.nm 2) bYes m_lines_in_1 [2]) aNil))))))
def F_lines_in : List D → MH → R D := denF 3 b_lines_in
abbrev st_number_in : Stmt := top 11
abbrev N_number_in : List Str := ["word", "digit"]
def m_number_in_1 : M :=
  (mBin fIn (mVar 1) (mC (.str c_DIGITS)))
def b_number_in : S :=
  (sSeq (sIf (mOr (mNot (mTest (mChain fLe fLe (mC (.int 1)) (mB bLen (aCons (mVar 0) aNil)) (mC (.int 9))))) (mNot (mTest (mB bAll (aCons (mLc (iS (mVar 0)) (.nm 1) bYes m_number_in_1 [1]) aNil))))) (sRet (mC .non)) sNop)
  (sRet (mIf (mOr (mTest (mBin fEq (mVar 0) (mC (.str "0")))) (mTest (mBin fNe (mBin fIx (mVar 0) (mC (.int 0))) (mC (.str "0"))))) (mB bInt (aCons (mVar 0) aNil)) (mC .non))))
def F_number_in : List D → MH → R D := denF 2 b_number_in
abbrev st_edit_in : Stmt := top 23
abbrev N_edit_in : List Str := ["text", "head", "feed", "rest", "numbers", "new", "word"]
def m_edit_in_1 : M :=
  (mCall 1 F_number_in (aCons (mVar 6) aNil))
def b_edit_in : S :=
  (sSeq (sTg (.tp [1, 2, 3]) (mMeth "str" fPartition (mVar 0) (aCons (mC (.str c_FEED)) aNil)))
  (sSeq (sPar 4 5 (mLc (iL (mMeth "str" fSplit (mVar 1) (aCons (mC (.str c_BLANK)) aNil))) (.nm 6) bYes m_edit_in_1 [6]) (mCall 1 F_lines_in (aCons (mVar 3) aNil)))
  (sSeq (sIf (mOr (mTest (mBin fNe (mB bLen (aCons (mVar 4) aNil)) (mC (.int 2)))) (mOr (mTest (mBin fIn (mC .non) (mVar 4))) (mOr (mTest (mBin fEq (mVar 2) (mC (.str "")))) (mOr (mTest (mBin fIsN (mVar 5) (mC .non))) (mTest (mBin fGt (mBin fIx (mVar 4) (mC (.int 0))) (mBin fIx (mVar 4) (mC (.int 1))))))))) (sRet (mC .non)) sNop)
  (sRet (mTup (aCons (mBin fIx (mVar 4) (mC (.int 0))) (aCons (mBin fIx (mVar 4) (mC (.int 1))) (aCons (mVar 5) aNil))))))))
def F_edit_in : List D → MH → R D := denF 7 b_edit_in
abbrev st_is_name : Stmt := top 9
abbrev N_is_name : List Str := ["value", "letter"]
def m_is_name_1 : M :=
  (mBin fIn (mVar 1) (mC (.str c_LETTERS)))
def b_is_name : S :=
  (sSeq (sIf (mOr (mNot (mTest (mB bIsi (aCons (mVar 0) (aCons (mC (.ty "str")) aNil))))) (mNot (mTest (mChain fLe fLe (mC (.int 1)) (mB bLen (aCons (mVar 0) aNil)) (mC (.int 8)))))) (sRet (mC (.bl false))) sNop)
  (sRet (mB bAll (aCons (mLc (iS (mVar 0)) (.nm 1) bYes m_is_name_1 [1]) aNil))))
def F_is_name : List D → MH → R D := denF 2 b_is_name
abbrev st_state_in : Stmt := top 21
abbrev N_state_in : List Str := ["text", "names", "name"]
def m_state_in_1 : M :=
  (mCall 1 F_is_name (aCons (mVar 2) aNil))
def b_state_in : S :=
  (sSeq (sSet 1 (mB bTuple (aCons (mMeth "str" fSplit (mVar 0) (aCons (mC (.str c_BLANK)) aNil)) aNil)))
  (sRet (mIf (mAnd (mTest (mBin fLe (mB bLen (aCons (mVar 1) aNil)) (mC (.int 3)))) (mTest (mB bAll (aCons (mLc (iT (mVar 1)) (.nm 2) bYes m_state_in_1 [2]) aNil)))) (mVar 1) (mC .non))))
def F_state_in : List D → MH → R D := denF 3 b_state_in
abbrev st_shown_value : Stmt := top 24
abbrev N_shown_value : List Str := ["text", "reader", "value"]
def tab_shown_value_reader : List (Str × Nat × (List D → MH → R D)) := [("state_in", 1, F_state_in), ("lines_in", 1, F_lines_in), ("edit_in", 1, F_edit_in)]
def b_shown_value : S :=
  (sSeq (sCalm (sSet 2 (mIf (mTest (mB bIsi (aCons (mVar 0) (aCons (mC (.ty "str")) aNil)))) (mCallV 1 tab_shown_value_reader (aCons (mVar 0) aNil)) (mC .non))))
  (sSeq (sIf (mCalm (mTest (mBin fIsN (mVar 2) (mC .non)))) (sRaise "BadShown" (mCalm (aCons (mVar 0) aNil))) sNop)
  (sCalm (sRet (mVar 2)))))
def F_shown_value : List D → MH → R D := denF 3 b_shown_value
abbrev st_read_edit : Stmt := top 27
abbrev N_read_edit : List Str := ["text"]
def b_read_edit : S :=
  (sRet (mCall 2 F_shown_value (mCalm (aCons (mVar 0) (aCons (mC (.fn "edit_in")) aNil)))))
def F_read_edit : List D → MH → R D := denF 1 b_read_edit
abbrev st_read_lines : Stmt := top 26
abbrev N_read_lines : List Str := ["text"]
def b_read_lines : S :=
  (sRet (mCall 2 F_shown_value (mCalm (aCons (mVar 0) (aCons (mC (.fn "lines_in")) aNil)))))
def F_read_lines : List D → MH → R D := denF 1 b_read_lines
abbrev st_read_state : Stmt := top 25
abbrev N_read_state : List Str := ["text"]
def b_read_state : S :=
  (sRet (mCall 2 F_shown_value (mCalm (aCons (mVar 0) (aCons (mC (.fn "state_in")) aNil)))))
def F_read_state : List D → MH → R D := denF 1 b_read_state
abbrev st_law_told : Stmt := top 41
abbrev N_law_told : List Str := ["_law_way", "_law_value", "_law_found", "e"]
def b_law_told : S :=
  (sSeq (sTry errCs "ReachError" 3 (sSet 2 (mIf (mCalm (mTest (mBin fEq (mVar 0) (mC (.int 0))))) (mCall 1 F_read_state (mCalm (aCons (mVar 1) aNil))) (mIf (mCalm (mTest (mBin fEq (mVar 0) (mC (.int 1))))) (mCall 1 F_read_lines (mCalm (aCons (mVar 1) aNil))) (mCall 1 F_read_edit (mCalm (aCons (mVar 1) aNil)))))) (sSet 2 (mVar 3)))
  (sRet (mVar 2)))
def F_law_told : List D → MH → R D := denF 4 b_law_told
abbrev st_show_lines : Stmt := top 19
abbrev N_show_lines : List Str := ["lines", "line"]
def m_show_lines_1 : M :=
  (mJs [(mFmt (mC (.str c_BAR))), (mFmt (mVar 1))] Str.empty)
def b_show_lines : S :=
  (sRet (mIf (mTest (mBin fNe (mVar 0) (mTup aNil))) (mMeth "str" fJoin (mC (.str c_FEED)) (aCons (mLc (iT (mVar 0)) (.nm 1) bYes m_show_lines_1 [1]) aNil)) (mC (.str c_NONE))))
def F_show_lines : List D → MH → R D := denF 2 b_show_lines
abbrev st_show_edit : Stmt := top 20
abbrev N_show_edit : List Str := ["edit", "first", "last", "new"]
def b_show_edit : S :=
  (sSeq (sTg (.tp [1, 2, 3]) (mVar 0))
  (sRet (mJs [(mFmt (mVar 1)), (mFmt (mC (.str c_BLANK))), (mFmt (mVar 2)), (mFmt (mC (.str c_FEED))), (mFmt (mCall 1 F_show_lines (aCons (mVar 3) aNil)))] Str.empty)))
def F_show_edit : List D → MH → R D := denF 4 b_show_edit
abbrev st_show_state : Stmt := top 18
abbrev N_show_state : List Str := ["state"]
def b_show_state : S :=
  (sRet (mMeth "str" fJoin (mC (.str c_BLANK)) (aCons (mVar 0) aNil)))
def F_show_state : List D → MH → R D := denF 1 b_show_state
abbrev st_law_is_right : Stmt := top 42
abbrev N_law_is_right : List Str := ["_law_way", "_law_value", "_law_found", "_law_shown"]
def b_law_is_right : S :=
  (sSeq (sSet 2 (mCall 2 F_law_told (aCons (mVar 0) (aCons (mVar 1) aNil))))
  (sSeq (sIf (mNot (mTest (mCall 2 F_law_due (aCons (mVar 0) (aCons (mVar 1) aNil))))) (sRet (vAnd (mB (bIsE (tIs errCs) (tIv errCs)) (aCons (mVar 2) (aCons (mC (.fn "BadShown")) aNil))) (mBin fEq (mB bRepr (aCons (mErrV errCs (mVar 2)) aNil)) (mB bRepr (aCons (mVar 1) aNil))))) sNop)
  (sSeq (sIf (mNot (mTest (mB bIsi (aCons (mVar 2) (aCons (mC (.ty "tuple")) aNil))))) (sRet (mC (.bl false))) sNop)
  (sSeq (sSet 3 (mIf (mTest (mBin fEq (mVar 0) (mC (.int 0)))) (mCall 1 F_show_state (aCons (mVar 2) aNil)) (mIf (mTest (mBin fEq (mVar 0) (mC (.int 1)))) (mCall 1 F_show_lines (aCons (mVar 2) aNil)) (mCall 1 F_show_edit (aCons (mVar 2) aNil)))))
  (sRet (mBin fEq (mVar 3) (mVar 1)))))))
def F_law_is_right : List D → MH → R D := denF 4 b_law_is_right
abbrev st_law_pot : Stmt := top 29
abbrev N_law_pot : List Str := ["_law_script", "_law_k", "_law_cell", "_law_own", "_law_mixed"]
def b_law_pot : S :=
  (sSeq (sSet 2 (mIf (mTest (mBin fLt (mVar 1) (mB bLen (aCons (mVar 0) aNil)))) (mBin fIx (mVar 0) (mVar 1)) (mBin fAdd (mBin fMul (mC (.int 37)) (mVar 1)) (mC (.int 17)))))
  (sSeq (sSet 3 (mBin fMul (mBin fMod (mB bInt (aCons (mB bAbs (aCons (mVar 2) aNil)) aNil)) (mBin fPow (mBin fPow (mC (.int 10)) (mC (.int 60))) (mC (.int 5)))) (mB bInt (aCons (mBin fGe (mB bAbs (aCons (mVar 2) aNil)) (mBin fPow (mC (.int 10)) (mC (.int 18)))) aNil))))
  (sSeq (sSet 4 (mBin fAdd (mBin fAdd (mBin fMul (mBin fMod (mB bInt (aCons (mVar 2) aNil)) (mC (.int 2305843009213693951))) (mC (.int 70241))) (mBin fMul (mBin fMul (mC (.int 6197)) (mVar 1)) (mVar 1))) (mC (.int 61))))
  (sRet (mLst (aCons (mVar 3) (aCons (mBin fMod (mB bInt (aCons (mVar 4) aNil)) (mC (.int 2305843009213693921))) (aCons (mC (.int 0)) aNil))))))))
def F_law_pot : List D → MH → R D := denF 5 b_law_pot
abbrev st_law : Stmt := top 45
abbrev N_law : List Str := ["_law_script", "_law_odd", "_law_wide", "_law_value", "_law_k", "_law_pot_here", "_law_book_here", "_law_turn", "_law_way", "_law_text"]
def b_law_1 : S :=
  (sRet (mC (.bl true)))
def b_law_2 : S :=
  (sSeq (sSet 8 (mCall 2 F_law_take (aCons (mVar 5) (aCons (mC (.int 3)) aNil))))
  (sSeq (sSet 9 (mCall 2 F_law_bent (aCons (mVar 5) (aCons (mCall 3 F_law_drawn (aCons (mVar 5) (aCons (mVar 6) (aCons (mVar 8) aNil)))) aNil))))
  (sSeq (sSet 9 (mIf (mTest (mBin fEq (mCall 2 F_law_take (aCons (mVar 5) (aCons (mC (.int 3)) aNil))) (mC (.int 0)))) (mCall 2 F_law_bent (aCons (mVar 5) (aCons (mVar 9) aNil))) (mVar 9)))
  (sIf (mNot (mTest (mCall 2 F_law_is_right (aCons (mVar 8) (aCons (mVar 9) aNil))))) (sRet (mC (.bl false))) sNop))))
def b_law_3 : S :=
  (sSeq (sSet 5 (mCall 2 F_law_pot (aCons (mVar 0) (aCons (mVar 4) aNil))))
  (sSeq (sSet 6 (mCall 1 F_law_book (aCons (mVar 5) aNil)))
  (sFor (iR1 (mC (.int 20))) (.nm 7) b_law_2)))
def b_law_4 : S :=
  (sFor (iR1 (mB bMax2 (aCons (mC (.int 1)) (aCons (mB bMin2 (aCons (mC (.int 3)) (aCons (mB bLen (aCons (mVar 0) aNil)) aNil))) aNil)))) (.nm 4) b_law_3)
def m_law_5 : M :=
  (mCall 2 F_law_is_right (aCons (mVar 8) (aCons (mVar 3) aNil)))
def b_law_6 : S :=
  (sIf (mNot (mTest (mB bAll (aCons (mLc (iR1 (mC (.int 3))) (.nm 8) bYes m_law_5 [8]) aNil)))) (sRet (mC (.bl false))) sNop)
def b_law_7 : S :=
  (sFor (iL (mBin fAdd (mVar 1) (mLst (aCons (mTup aNil) (aCons (mLst aNil) (aCons mDNew (aCons (mTup (aCons (mC (.str "a")) aNil)) (aCons (mLst (aCons (mC (.str "a")) aNil)) (aCons (mTup (aCons (mC (.str "|a")) aNil)) aNil))))))))) (.nm 3) b_law_6)
def b_law_8 : S :=
  (sSet 1 (mBin fAdd (mVar 1) (mLst (aCons (mBin fAdd (mVar 2) (mC (.str " 1\n-"))) (aCons (mBin fAdd (mBin fAdd (mC (.str "0 ")) (mVar 2)) (mC (.str "\n-"))) (aCons (mVar 2) (aCons (mBin fAdd (mC (.str "0 0\n")) (mVar 2)) (aCons (mBin fMul (mC (.str "a")) (mC (.int 5000))) aNil))))))))
def b_law_9 : S :=
  (sSet 2 (mBin fMul (mC (.str "1")) (mC (.int 5000))))
def b_law_10 : S :=
  (sSet 1 (mBin fAdd (mVar 1) (mLst (aCons (mC (.str "0 1\n-")) (aCons (mC (.str "00 1\n-")) (aCons (mC (.str "0 1 2\n-")) (aCons (mC (.str "-0 1\n-")) (aCons (mC (.str "0 1234567890\n-")) (aCons (mC (.str "|\t")) (aCons (mC (.str "Code")) (aCons (mC .non) (aCons (mC (.bl true)) (aCons (mC (.int 0)) aNil)))))))))))))
def b_law_11 : S :=
  (sSet 1 (mLst (aCons (mC (.str "")) (aCons (mC (.str "-")) (aCons (mC (.str "|")) (aCons (mC (.str "a")) (aCons (mC (.str "a b c d")) (aCons (mC (.str "a  b")) (aCons (mC (.str " a")) (aCons (mC (.str "a ")) (aCons (mC (.str "zzzzzzzzz")) (aCons (mC (.str "|a\n")) (aCons (mC (.str "|a\n-")) (aCons (mC (.str "0 1")) (aCons (mC (.str "0 1\n")) (aCons (mC (.str "1 0\n-")) aNil))))))))))))))))
def b_law : S :=
  (sSeq b_law_11
  (sSeq b_law_10
  (sSeq b_law_9
  (sSeq b_law_8
  (sSeq b_law_7
  (sSeq b_law_4
  b_law_1))))))
def F_law : List D → MH → R D := denF 10 b_law
abbrev fa : List Fa := [Fa.free "range",
  Fa.free "len",
  Fa.free "min",
  Fa.free "max",
  Fa.free "all",
  Fa.free "int",
  Fa.free "sorted",
  Fa.free "dict",
  Fa.free "tuple",
  Fa.free "isinstance",
  Fa.free "repr",
  Fa.glo "BadShown",
  Fa.free "str",
  Fa.free "any",
  Fa.glo "edit_in",
  Fa.str "BLANK" c_BLANK,
  Fa.str "FEED" c_FEED,
  Fa.str "BAR" c_BAR,
  Fa.str "NONE" c_NONE,
  Fa.str "SIGNS" c_SIGNS,
  Fa.str "DIGITS" c_DIGITS,
  Fa.int "MOST_DIGITS" 9,
  Fa.int "MOST_DEPTH" 3,
  Fa.str "LETTERS" c_LETTERS,
  Fa.int "MOST_LETTERS" 8,
  Fa.glo "lines_in",
  Fa.glo "state_in",
  Fa.free "abs",
  Fa.glo "_law_take",
  Fa.glo "_law_of",
  Fa.glo "_law_bent",
  Fa.glo "_law_deed",
  Fa.glo "_law_book",
  Fa.glo "_law_signs",
  Fa.glo "_law_line",
  Fa.glo "_law_drawn",
  Fa.glo "_law_is_lines",
  Fa.glo "_law_is_name",
  Fa.glo "_law_is_number",
  Fa.glo "_law_due",
  Fa.glo "is_line",
  Fa.glo "number_in",
  Fa.glo "is_name",
  Fa.glo "shown_value",
  Fa.glo "read_edit",
  Fa.glo "read_lines",
  Fa.glo "read_state",
  Fa.glo "_law_told",
  Fa.glo "show_lines",
  Fa.glo "show_edit",
  Fa.glo "show_state",
  Fa.glo "_law_is_right",
  Fa.glo "_law_pot",
  Fa.glo "law"]
abbrev dD (x : Str) (st : Stmt) : He.DefD := ⟨(x, none), x, x, defArgs st, defBody st, defScope st, [], []⟩
abbrev fn : List He.DefD := [dD "_law_take" st_law_take,
  dD "_law_of" st_law_of,
  dD "_law_bent" st_law_bent,
  dD "_law_deed" st_law_deed,
  dD "_law_book" st_law_book,
  dD "_law_signs" st_law_signs,
  dD "_law_line" st_law_line,
  dD "_law_drawn" st_law_drawn,
  dD "_law_is_lines" st_law_is_lines,
  dD "_law_is_name" st_law_is_name,
  dD "_law_is_number" st_law_is_number,
  dD "_law_due" st_law_due,
  dD "is_line" st_is_line,
  dD "lines_in" st_lines_in,
  dD "number_in" st_number_in,
  dD "edit_in" st_edit_in,
  dD "is_name" st_is_name,
  dD "state_in" st_state_in,
  dD "shown_value" st_shown_value,
  dD "read_edit" st_read_edit,
  dD "read_lines" st_read_lines,
  dD "read_state" st_read_state,
  dD "_law_told" st_law_told,
  dD "show_lines" st_show_lines,
  dD "show_edit" st_show_edit,
  dD "show_state" st_show_state,
  dD "_law_is_right" st_law_is_right,
  dD "_law_pot" st_law_pot,
  dD "law" st_law]
abbrev topIx : Nat := 45
abbrev lawLevel : Nat := 8
abbrev loose : List Str := (["ReachError", "BadShown", "LETTERS", "DIGITS", "SIGNS", "MOST_LETTERS", "MOST_DIGITS", "is_name", "is_line", "number_in", "BLANK", "FEED", "BAR", "NONE", "MOST_DEPTH", "show_state", "show_lines", "show_edit", "state_in", "lines_in", "edit_in", "shown_value", "read_state", "read_lines", "read_edit"] : List Str) ++ (["_law_pot", "_law_take", "_law_of", "_law_end", "_law_signs", "_law_deed", "_law_book", "_law_line", "_law_is_name", "_law_is_number", "_law_is_lines", "_law_due", "_law_told", "_law_is_right", "_law_bent", "_law_drawn"] : List Str)
theorem sc_law_take : FnScope N_law_take ["_law_pot_here", "_law_upto"] (defScope st_law_take) := ⟨rfl, rfl, rfl, by decide +kernel, rfl, by decide +kernel, by decide +kernel⟩
theorem sc_law_of : FnScope N_law_of ["_law_pot_here", "_law_some"] (defScope st_law_of) := ⟨rfl, rfl, rfl, by decide +kernel, rfl, by decide +kernel, by decide +kernel⟩
theorem sc_law_bent : FnScope N_law_bent ["_law_pot_here", "_law_text"] (defScope st_law_bent) := ⟨rfl, rfl, rfl, by decide +kernel, rfl, by decide +kernel, by decide +kernel⟩
theorem sc_law_deed : FnScope N_law_deed ["_law_pot_here", "_law_names", "_law_some"] (defScope st_law_deed) := ⟨rfl, rfl, rfl, by decide +kernel, rfl, by decide +kernel, by decide +kernel⟩
theorem sc_law_book : FnScope N_law_book ["_law_pot_here"] (defScope st_law_book) := ⟨rfl, rfl, rfl, by decide +kernel, rfl, by decide +kernel, by decide +kernel⟩
theorem sc_law_signs : FnScope N_law_signs ["_law_book_here"] (defScope st_law_signs) := ⟨rfl, rfl, rfl, by decide +kernel, rfl, by decide +kernel, by decide +kernel⟩
theorem sc_law_line : FnScope N_law_line ["_law_pot_here", "_law_book_here", "_law_most"] (defScope st_law_line) := ⟨rfl, rfl, rfl, by decide +kernel, rfl, by decide +kernel, by decide +kernel⟩
theorem sc_law_drawn : FnScope N_law_drawn ["_law_pot_here", "_law_book_here", "_law_way"] (defScope st_law_drawn) := ⟨rfl, rfl, rfl, by decide +kernel, rfl, by decide +kernel, by decide +kernel⟩
theorem sc_law_is_lines : FnScope N_law_is_lines ["_law_text"] (defScope st_law_is_lines) := ⟨rfl, rfl, rfl, by decide +kernel, rfl, by decide +kernel, by decide +kernel⟩
theorem sc_law_is_name : FnScope N_law_is_name ["_law_word"] (defScope st_law_is_name) := ⟨rfl, rfl, rfl, by decide +kernel, rfl, by decide +kernel, by decide +kernel⟩
theorem sc_law_is_number : FnScope N_law_is_number ["_law_word"] (defScope st_law_is_number) := ⟨rfl, rfl, rfl, by decide +kernel, rfl, by decide +kernel, by decide +kernel⟩
theorem sc_law_due : FnScope N_law_due ["_law_way", "_law_value"] (defScope st_law_due) := ⟨rfl, rfl, rfl, by decide +kernel, rfl, by decide +kernel, by decide +kernel⟩
theorem sc_is_line : FnScope N_is_line ["value"] (defScope st_is_line) := ⟨rfl, rfl, rfl, by decide +kernel, rfl, by decide +kernel, by decide +kernel⟩
theorem sc_lines_in : FnScope N_lines_in ["text"] (defScope st_lines_in) := ⟨rfl, rfl, rfl, by decide +kernel, rfl, by decide +kernel, by decide +kernel⟩
theorem sc_number_in : FnScope N_number_in ["word"] (defScope st_number_in) := ⟨rfl, rfl, rfl, by decide +kernel, rfl, by decide +kernel, by decide +kernel⟩
theorem sc_edit_in : FnScope N_edit_in ["text"] (defScope st_edit_in) := ⟨rfl, rfl, rfl, by decide +kernel, rfl, by decide +kernel, by decide +kernel⟩
theorem sc_is_name : FnScope N_is_name ["value"] (defScope st_is_name) := ⟨rfl, rfl, rfl, by decide +kernel, rfl, by decide +kernel, by decide +kernel⟩
theorem sc_state_in : FnScope N_state_in ["text"] (defScope st_state_in) := ⟨rfl, rfl, rfl, by decide +kernel, rfl, by decide +kernel, by decide +kernel⟩
theorem sc_shown_value : FnScope N_shown_value ["text", "reader"] (defScope st_shown_value) := ⟨rfl, rfl, rfl, by decide +kernel, rfl, by decide +kernel, by decide +kernel⟩
theorem sc_read_edit : FnScope N_read_edit ["text"] (defScope st_read_edit) := ⟨rfl, rfl, rfl, by decide +kernel, rfl, by decide +kernel, by decide +kernel⟩
theorem sc_read_lines : FnScope N_read_lines ["text"] (defScope st_read_lines) := ⟨rfl, rfl, rfl, by decide +kernel, rfl, by decide +kernel, by decide +kernel⟩
theorem sc_read_state : FnScope N_read_state ["text"] (defScope st_read_state) := ⟨rfl, rfl, rfl, by decide +kernel, rfl, by decide +kernel, by decide +kernel⟩
theorem sc_law_told : FnScope N_law_told ["_law_way", "_law_value"] (defScope st_law_told) := ⟨rfl, rfl, rfl, by decide +kernel, rfl, by decide +kernel, by decide +kernel⟩
theorem sc_show_lines : FnScope N_show_lines ["lines"] (defScope st_show_lines) := ⟨rfl, rfl, rfl, by decide +kernel, rfl, by decide +kernel, by decide +kernel⟩
theorem sc_show_edit : FnScope N_show_edit ["edit"] (defScope st_show_edit) := ⟨rfl, rfl, rfl, by decide +kernel, rfl, by decide +kernel, by decide +kernel⟩
theorem sc_show_state : FnScope N_show_state ["state"] (defScope st_show_state) := ⟨rfl, rfl, rfl, by decide +kernel, rfl, by decide +kernel, by decide +kernel⟩
theorem sc_law_is_right : FnScope N_law_is_right ["_law_way", "_law_value"] (defScope st_law_is_right) := ⟨rfl, rfl, rfl, by decide +kernel, rfl, by decide +kernel, by decide +kernel⟩
theorem sc_law_pot : FnScope N_law_pot ["_law_script", "_law_k"] (defScope st_law_pot) := ⟨rfl, rfl, rfl, by decide +kernel, rfl, by decide +kernel, by decide +kernel⟩
theorem sc_law : FnScope N_law ["_law_script"] (defScope st_law) := ⟨rfl, rfl, rfl, by decide +kernel, rfl, by decide +kernel, by decide +kernel⟩
section
variable {P : Program} {w : World} {K : PySem.W.Frag} {mg : Str → Option Value} {base h : Heap}
set_option maxHeartbeats 4000000 in
theorem dn_law_take (KX : K.In h) (G : h.Ns mainGlobals mg) (c : He.SaysD fa fn K) (er : Errs P w K mg base errCs) : ∀ (cdv : Value) (A : Around) (outer : List PySem.Env) (s' : Shared) (H : Hp) (E : XK), RoomG 0 (A.deeper (PyProof.Rows.envOfC "_law_take" (defScope st_law_take) s'.heap.objs.size (He.ga K "_law_take") cdv)) → DenSs (cxOf CX0 P w K mg base N_law_take "_law_take" (defScope st_law_take) (He.ga K "_law_take") cdv A outer s' H E).nox B0 (defBody st_law_take) b_law_take := by
  intro cdv A outer s' H E hr
  exact (denss_cons (dens_if (dent_cmp gt_ok op_gt (den_ix (den_var 0) den_int) den_int (nomark _)) (denss_cons (dens_set (i := 2) sc_law_take.nd rfl (by first | exact Or.inl rfl | exact Or.inr rfl) (den_bin mod_ok op_mod (den_callTy int_ok call_intAll rfl (He.free_ok KX G (c.fact 5 rfl)) (by decide +kernel) (dena_cons (den_ix (den_var 0) den_int) dena_nil)) (den_var 1)))
    (denss_cons (dens_setIx (den_bin div_ok op_fdiv (den_ix (den_var 0) den_int) (den_var 1)) (den_var 0) den_int)
    (denss_one (dens_ret (den_var 2))))) denss_nil)
    (denss_cons (dens_setIx (den_bin add_ok op_addAll (den_ix (den_var 0) den_int) den_int) (den_var 0) den_int)
    (denss_cons (dens_set (i := 3) sc_law_take.nd rfl (by first | exact Or.inl rfl | exact Or.inr rfl) (den_ix (den_lst (dena_cons den_int (dena_cons den_int (dena_cons den_int (dena_cons den_int (dena_cons den_int dena_nil)))))) (den_bin mod_ok op_mod (den_callTy int_ok call_intAll rfl (He.free_ok KX G (c.fact 5 rfl)) (by decide +kernel) (dena_cons (den_ix (den_var 0) den_int) dena_nil)) den_int)))
    (denss_cons (dens_set (i := 4) sc_law_take.nd rfl (by first | exact Or.inl rfl | exact Or.inr rfl) (den_bin mod_ok op_mod (den_callTy int_ok call_intAll rfl (He.free_ok KX G (c.fact 5 rfl)) (by decide +kernel) (dena_cons (den_bin pow_ok op_powW (den_callTy int_ok call_intAll rfl (He.free_ok KX G (c.fact 5 rfl)) (by decide +kernel) (dena_cons (den_bin add_ok op_addAll (den_bin add_ok op_addAll (den_ix (den_var 0) den_int) (den_bin mul_ok op_mulAll (den_bin mul_ok op_mulAll den_int (den_ix (den_var 0) den_int)) (den_ix (den_var 0) den_int))) den_int) dena_nil)) den_int) dena_nil)) (den_var 3)))
    (denss_cons (dens_set (i := 4) sc_law_take.nd rfl (by first | exact Or.inl rfl | exact Or.inr rfl) (den_bin mod_ok op_mod (den_callTy int_ok call_intAll rfl (He.free_ok KX G (c.fact 5 rfl)) (by decide +kernel) (dena_cons (den_bin mul_ok op_mulAll (den_var 4) (den_bin add_ok op_addAll (den_bin mod_ok op_mod (den_callTy int_ok call_intAll rfl (He.free_ok KX G (c.fact 5 rfl)) (by decide +kernel) (dena_cons (den_var 4) dena_nil)) den_int) (den_bin mul_ok op_mulAll den_int (den_ix (den_var 0) den_int)))) dena_nil)) den_int))
    (denss_one (dens_ret (den_bin mod_ok op_mod (den_callTy int_ok call_intAll rfl (He.free_ok KX G (c.fact 5 rfl)) (by decide +kernel) (dena_cons (den_bin div_ok op_fdiv (den_var 4) den_int) dena_nil)) (den_var 1)))))))))
theorem ok_law_take (KX : K.In h) (G : h.Ns mainGlobals mg) (c : He.SaysD fa fn K) (er : Errs P w K mg base errCs) : Ok P w K mg base 1 "_law_take" 2 F_law_take :=
  ok_mk (N := N_law_take) KX G (c.fact 28 rfl) (c.def_ 0 (d := dD "_law_take" st_law_take) rfl) sc_law_take rfl (fun _ _ _ _ _ _ us hl => match us, hl with | [_, _], _ => rfl) (dn_law_take KX G c er)
set_option maxHeartbeats 4000000 in
theorem dn_law_of (KX : K.In h) (G : h.Ns mainGlobals mg) (c : He.SaysD fa fn K) (er : Errs P w K mg base errCs) (ho_law_take : Ok P w K mg base 1 "_law_take" 2 F_law_take) : ∀ (cdv : Value) (A : Around) (outer : List PySem.Env) (s' : Shared) (H : Hp) (E : XK), RoomG 1 (A.deeper (PyProof.Rows.envOfC "_law_of" (defScope st_law_of) s'.heap.objs.size (He.ga K "_law_of") cdv)) → DenSs (cxOf CX0 P w K mg base N_law_of "_law_of" (defScope st_law_of) (He.ga K "_law_of") cdv A outer s' H E).nox B0 (defBody st_law_of) b_law_of := by
  intro cdv A outer s' H E hr
  exact (denss_one (dens_ret (den_ix (den_var 1) (den_callO ho_law_take hr (by decide) rfl (dena_cons (den_var 0) (dena_cons (den_callB len_ok call_len rfl (He.free_ok KX G (c.fact 1 rfl)) (by decide +kernel) (dena_cons (den_var 1) dena_nil)) dena_nil))))))
theorem ok_law_of (KX : K.In h) (G : h.Ns mainGlobals mg) (c : He.SaysD fa fn K) (er : Errs P w K mg base errCs) (ho_law_take : Ok P w K mg base 1 "_law_take" 2 F_law_take) : Ok P w K mg base 2 "_law_of" 2 F_law_of :=
  ok_mk (N := N_law_of) KX G (c.fact 29 rfl) (c.def_ 1 (d := dD "_law_of" st_law_of) rfl) sc_law_of rfl (fun _ _ _ _ _ _ us hl => match us, hl with | [_, _], _ => rfl) (dn_law_of KX G c er ho_law_take)
set_option maxHeartbeats 4000000 in
theorem dn_law_bent (KX : K.In h) (G : h.Ns mainGlobals mg) (c : He.SaysD fa fn K) (er : Errs P w K mg base errCs) (ho_law_of : Ok P w K mg base 2 "_law_of" 2 F_law_of) (ho_law_take : Ok P w K mg base 1 "_law_take" 2 F_law_take) : ∀ (cdv : Value) (A : Around) (outer : List PySem.Env) (s' : Shared) (H : Hp) (E : XK), RoomG 2 (A.deeper (PyProof.Rows.envOfC "_law_bent" (defScope st_law_bent) s'.heap.objs.size (He.ga K "_law_bent") cdv)) → DenSs (cxOf CX0 P w K mg base N_law_bent "_law_bent" (defScope st_law_bent) (He.ga K "_law_bent") cdv A outer s' H E).nox B0 (defBody st_law_bent) b_law_bent := by
  intro cdv A outer s' H E hr
  exact (denss_cons (dens_par rfl sc_law_bent.nd rfl rfl (by decide) rfl rfl (dena_cons (den_callO ho_law_take hr (by decide) rfl (dena_cons (den_var 0) (dena_cons (den_bin add_ok op_addAll (den_callB len_ok call_len rfl (He.free_ok KX G (c.fact 1 rfl)) (by decide +kernel) (dena_cons (den_var 1) dena_nil)) den_int) dena_nil))) (dena_cons (den_callO ho_law_take hr (by decide) rfl (dena_cons (den_var 0) (dena_cons den_int dena_nil))) dena_nil)) (by rfl) (ps_par rfl sc_law_bent.nd rfl rfl (by decide) rfl rfl (dena_cons (den_callO ho_law_take hr (by decide) rfl (dena_cons (den_var 0) (dena_cons (den_bin add_ok op_addAll (den_callB len_ok call_len rfl (He.free_ok KX G (c.fact 1 rfl)) (by decide +kernel) (dena_cons (den_var 1) dena_nil)) den_int) dena_nil))) (dena_cons (den_callO ho_law_take hr (by decide) rfl (dena_cons (den_var 0) (dena_cons den_int dena_nil))) dena_nil)) (by rfl)))
    (denss_cons (dens_set (i := 4) sc_law_bent.nd rfl (by first | exact Or.inl rfl | exact Or.inr rfl) (den_callO ho_law_of hr (by decide) rfl (dena_cons (den_var 0) (dena_cons (den_lst (dena_cons den_str (dena_cons den_str (dena_cons den_str (dena_cons den_str (dena_cons den_str (dena_cons den_str (dena_cons den_str (dena_cons den_str (dena_cons den_str (dena_cons den_str dena_nil))))))))))) dena_nil))))
    (denss_cons (dens_if (dent_cmp eq_ok (op_eqAll hr.units) (den_var 3) den_int (nomark _)) (denss_one (dens_ret (den_bin add_ok op_addAll (den_sl (den_var 1) deno_none (deno_some (den_var 2))) (den_sl (den_var 1) (deno_some (den_bin add_ok op_addAll (den_var 2) den_int)) deno_none)))) denss_nil)
    (denss_one (dens_ret (den_bin add_ok op_addAll (den_bin add_ok op_addAll (den_sl (den_var 1) deno_none (deno_some (den_var 2))) (den_var 4)) (den_sl (den_var 1) (deno_some (den_bin add_ok op_addAll (den_var 2) (den_callTy int_ok call_intAll rfl (He.free_ok KX G (c.fact 5 rfl)) (by decide +kernel) (dena_cons (den_cmp gt_ok op_gt (den_var 3) den_int (nomark _)) dena_nil)))) deno_none)))))))
theorem ok_law_bent (KX : K.In h) (G : h.Ns mainGlobals mg) (c : He.SaysD fa fn K) (er : Errs P w K mg base errCs) (ho_law_of : Ok P w K mg base 2 "_law_of" 2 F_law_of) (ho_law_take : Ok P w K mg base 1 "_law_take" 2 F_law_take) : Ok P w K mg base 3 "_law_bent" 2 F_law_bent :=
  ok_mk (N := N_law_bent) KX G (c.fact 30 rfl) (c.def_ 2 (d := dD "_law_bent" st_law_bent) rfl) sc_law_bent rfl (fun _ _ _ _ _ _ us hl => match us, hl with | [_, _], _ => rfl) (dn_law_bent KX G c er ho_law_of ho_law_take)
set_option maxHeartbeats 4000000 in
theorem dn_law_deed (KX : K.In h) (G : h.Ns mainGlobals mg) (c : He.SaysD fa fn K) (er : Errs P w K mg base errCs) (ho_law_of : Ok P w K mg base 2 "_law_of" 2 F_law_of) : ∀ (cdv : Value) (A : Around) (outer : List PySem.Env) (s' : Shared) (H : Hp) (E : XK), RoomG 2 (A.deeper (PyProof.Rows.envOfC "_law_deed" (defScope st_law_deed) s'.heap.objs.size (He.ga K "_law_deed") cdv)) → DenSs (cxOf CX0 P w K mg base N_law_deed "_law_deed" (defScope st_law_deed) (He.ga K "_law_deed") cdv A outer s' H E).nox B0 (defBody st_law_deed) b_law_deed := by
  intro cdv A outer s' H E hr
  exact (denss_cons (dens_set (i := 3) sc_law_deed.nd rfl (by first | exact Or.inl rfl | exact Or.inr rfl) (den_callO ho_law_of hr (by decide) rfl (dena_cons (den_var 0) (dena_cons (den_var 2) dena_nil))))
    (denss_one (dens_ret (den_if (dent_cmp in_ok op_inAll (den_var 3) (den_tup (dena_cons den_str (dena_cons den_str dena_nil))) (by first | rfl | with_unfolding_all rfl)) (den_tup (dena_cons (den_var 3) (dena_cons (den_callO ho_law_of hr (by decide) rfl (dena_cons (den_var 0) (dena_cons (den_var 1) dena_nil))) dena_nil))) (den_if (dent_cmp ne_ok (op_neAll hr.units) (den_var 3) den_str (nomark _)) (den_tup (dena_cons (den_var 3) dena_nil)) (den_tup dena_nil))))))
theorem ok_law_deed (KX : K.In h) (G : h.Ns mainGlobals mg) (c : He.SaysD fa fn K) (er : Errs P w K mg base errCs) (ho_law_of : Ok P w K mg base 2 "_law_of" 2 F_law_of) : Ok P w K mg base 3 "_law_deed" 3 F_law_deed :=
  ok_mk (N := N_law_deed) KX G (c.fact 31 rfl) (c.def_ 3 (d := dD "_law_deed" st_law_deed) rfl) sc_law_deed rfl (fun _ _ _ _ _ _ us hl => match us, hl with | [_, _, _], _ => rfl) (dn_law_deed KX G c er ho_law_of)
set_option maxHeartbeats 4000000 in
theorem dn_law_book (KX : K.In h) (G : h.Ns mainGlobals mg) (c : He.SaysD fa fn K) (er : Errs P w K mg base errCs) (ho_law_deed : Ok P w K mg base 3 "_law_deed" 3 F_law_deed) (ho_law_of : Ok P w K mg base 2 "_law_of" 2 F_law_of) (ho_law_take : Ok P w K mg base 1 "_law_take" 2 F_law_take) : ∀ (cdv : Value) (A : Around) (outer : List PySem.Env) (s' : Shared) (H : Hp) (E : XK), RoomG 3 (A.deeper (PyProof.Rows.envOfC "_law_book" (defScope st_law_book) s'.heap.objs.size (He.ga K "_law_book") cdv)) → DenSs (cxOf CX0 P w K mg base N_law_book "_law_book" (defScope st_law_book) (He.ga K "_law_book") cdv A outer s' H E).nox B0 (defBody st_law_book) b_law_book := by
  intro cdv A outer s' H E hr
  exact (denss_cons (dens_par rfl sc_law_book.nd rfl rfl (by decide) rfl rfl (dena_cons (den_sl (den_lst (dena_cons den_str (dena_cons den_str (dena_cons den_str dena_nil)))) deno_none (deno_some (den_bin add_ok op_addAll den_int (den_callO ho_law_take hr (by decide) rfl (dena_cons (den_var 0) (dena_cons den_int dena_nil)))))) (dena_cons (den_lst dena_nil) dena_nil)) (by rfl) (ps_par rfl sc_law_book.nd rfl rfl (by decide) rfl rfl (dena_cons (den_sl (den_lst (dena_cons den_str (dena_cons den_str (dena_cons den_str dena_nil)))) deno_none (deno_some (den_bin add_ok op_addAll den_int (den_callO ho_law_take hr (by decide) rfl (dena_cons (den_var 0) (dena_cons den_int dena_nil)))))) (dena_cons (den_lst dena_nil) dena_nil)) (by rfl)))
    (denss_cons (dens_par rfl sc_law_book.nd rfl rfl (by decide) rfl rfl (dena_cons (den_callO ho_law_of hr (by decide) rfl (dena_cons (den_var 0) (dena_cons (den_lst (dena_cons den_int (dena_cons den_int (dena_cons den_int dena_nil)))) dena_nil))) (dena_cons (den_sl (den_lst (dena_cons den_str (dena_cons den_str (dena_cons den_str dena_nil)))) deno_none (deno_some (den_bin add_ok op_addAll den_int (den_callO ho_law_take hr (by decide) rfl (dena_cons (den_var 0) (dena_cons den_int dena_nil)))))) dena_nil)) (by rfl) (ps_par rfl sc_law_book.nd rfl rfl (by decide) rfl rfl (dena_cons (den_callO ho_law_of hr (by decide) rfl (dena_cons (den_var 0) (dena_cons (den_lst (dena_cons den_int (dena_cons den_int (dena_cons den_int dena_nil)))) dena_nil))) (dena_cons (den_sl (den_lst (dena_cons den_str (dena_cons den_str (dena_cons den_str dena_nil)))) deno_none (deno_some (den_bin add_ok op_addAll den_int (den_callO ho_law_take hr (by decide) rfl (dena_cons (den_var 0) (dena_cons den_int dena_nil)))))) dena_nil)) (by rfl)))
    (denss_cons (dens_for PassesOwn.never rfl (deni_lst (den_var 1)) (deng_name 5 sc_law_book.nd rfl (by first | exact Or.inl rfl | exact Or.inr rfl)) (denss_cons (dens_par rfl sc_law_book.nd rfl rfl (by decide) rfl rfl (dena_cons (den_callO ho_law_of hr (by decide) rfl (dena_cons (den_var 0) (dena_cons (den_lst (dena_cons den_str (dena_cons den_str (dena_cons den_str dena_nil)))) dena_nil))) (dena_cons (den_lst dena_nil) dena_nil)) (by rfl) (ps_par rfl sc_law_book.nd rfl rfl (by decide) rfl rfl (dena_cons (den_callO ho_law_of hr (by decide) rfl (dena_cons (den_var 0) (dena_cons (den_lst (dena_cons den_str (dena_cons den_str (dena_cons den_str dena_nil)))) dena_nil))) (dena_cons (den_lst dena_nil) dena_nil)) (by rfl)))
    (denss_cons (dens_set (i := 8) sc_law_book.nd rfl (by first | exact Or.inl rfl | exact Or.inr rfl) (den_callO ho_law_deed hr (by decide) rfl (dena_cons (den_var 0) (dena_cons (den_var 1) (dena_cons (den_lst (dena_cons den_str (dena_cons den_str (dena_cons den_str (dena_cons den_str (dena_cons den_str dena_nil)))))) dena_nil)))))
    (denss_cons (dens_for PassesOwn.never rfl (deni_lst (den_bin add_ok op_addAll (den_var 4) (den_lst (dena_cons den_str dena_nil)))) (deng_name 9 sc_law_book.nd rfl (by first | exact Or.inl rfl | exact Or.inr rfl)) (denss_one (dens_if (dent_cmp eq_ok (op_eqAll hr.units) (den_callO ho_law_take hr (by decide) rfl (dena_cons (den_var 0) (dena_cons (den_if (dent_cmp eq_ok (op_eqAll hr.units) (den_var 9) den_str (nomark _)) den_int den_int) dena_nil))) den_int (nomark _)) (denss_cons (dens_set (i := 10) sc_law_book.nd rfl (by first | exact Or.inl rfl | exact Or.inr rfl) (den_callO ho_law_of hr (by decide) rfl (dena_cons (den_var 0) (dena_cons (den_lst (dena_cons den_str (dena_cons den_str (dena_cons den_str dena_nil)))) dena_nil))))
    (denss_one (dens_drop (den_bm append_ok PySem.F.plainAttrs_list PySem.F.slot_list_append PySem.F.type_list_append mt_append (den_var 7) (dena_cons (den_tup (dena_cons (den_var 9) (dena_cons (den_var 10) (dena_cons (den_callO ho_law_deed hr (by decide) rfl (dena_cons (den_var 0) (dena_cons (den_var 1) (dena_cons (den_lst (dena_cons den_str (dena_cons den_str (dena_cons den_str (dena_cons den_str (dena_cons den_str dena_nil)))))) dena_nil)))) dena_nil)))) dena_nil) (pe_bm PySem.F.plainAttrs_list PySem.F.slot_list_append PySem.F.type_list_append mt_append (den_var 7) (dena_cons (den_tup (dena_cons (den_var 9) (dena_cons (den_var 10) (dena_cons (den_callO ho_law_deed hr (by decide) rfl (dena_cons (den_var 0) (dena_cons (den_var 1) (dena_cons (den_lst (dena_cons den_str (dena_cons den_str (dena_cons den_str (dena_cons den_str (dena_cons den_str dena_nil)))))) dena_nil)))) dena_nil)))) dena_nil)))))) denss_nil)))
    (denss_one (dens_drop (den_bm append_ok PySem.F.plainAttrs_list PySem.F.slot_list_append PySem.F.type_list_append mt_append (den_var 2) (dena_cons (den_tup (dena_cons (den_var 5) (dena_cons (den_var 6) (dena_cons (den_var 8) (dena_cons (den_var 7) dena_nil))))) dena_nil) (pe_bm PySem.F.plainAttrs_list PySem.F.slot_list_append PySem.F.type_list_append mt_append (den_var 2) (dena_cons (den_tup (dena_cons (den_var 5) (dena_cons (den_var 6) (dena_cons (den_var 8) (dena_cons (den_var 7) dena_nil))))) dena_nil)))))))))
    (denss_one (dens_ret (den_disp (denps_cons den_str (den_var 3) (denps_cons den_str (den_var 2) denps_nil))))))))
theorem ok_law_book (KX : K.In h) (G : h.Ns mainGlobals mg) (c : He.SaysD fa fn K) (er : Errs P w K mg base errCs) (ho_law_deed : Ok P w K mg base 3 "_law_deed" 3 F_law_deed) (ho_law_of : Ok P w K mg base 2 "_law_of" 2 F_law_of) (ho_law_take : Ok P w K mg base 1 "_law_take" 2 F_law_take) : Ok P w K mg base 4 "_law_book" 1 F_law_book :=
  ok_mk (N := N_law_book) KX G (c.fact 32 rfl) (c.def_ 4 (d := dD "_law_book" st_law_book) rfl) sc_law_book rfl (fun _ _ _ _ _ _ us hl => match us, hl with | [_], _ => rfl) (dn_law_book KX G c er ho_law_deed ho_law_of ho_law_take)
set_option maxHeartbeats 4000000 in
theorem dn_law_signs (KX : K.In h) (G : h.Ns mainGlobals mg) (c : He.SaysD fa fn K) (er : Errs P w K mg base errCs) : ∀ (cdv : Value) (A : Around) (outer : List PySem.Env) (s' : Shared) (H : Hp) (E : XK), RoomG 0 (A.deeper (PyProof.Rows.envOfC "_law_signs" (defScope st_law_signs) s'.heap.objs.size (He.ga K "_law_signs") cdv)) → DenSs (cxOf CX0 P w K mg base N_law_signs "_law_signs" (defScope st_law_signs) (He.ga K "_law_signs") cdv A outer s' H E).nox B0 (defBody st_law_signs) b_law_signs := by
  intro cdv A outer s' H E hr
  exact (denss_cons (dens_set (i := 1) sc_law_signs.nd rfl (by first | exact Or.inl rfl | exact Or.inr rfl) den_dnew)
    (denss_cons (dens_for PassesOwn.never rfl (deni_lst (den_dget (hu_of hr.rm) (den_var 0) den_str)) (deng_tup rfl (deng_cons (deng_name 2 sc_law_signs.nd rfl (by first | exact Or.inl rfl | exact Or.inr rfl)) (deng_cons (deng_name 3 sc_law_signs.nd rfl (by first | exact Or.inl rfl | exact Or.inr rfl)) (deng_cons (deng_name 4 sc_law_signs.nd rfl (by first | exact Or.inl rfl | exact Or.inr rfl)) (deng_cons (deng_name 5 sc_law_signs.nd rfl (by first | exact Or.inl rfl | exact Or.inr rfl)) deng_nil))))) (denss_one (dens_drop (den_bm update_ok PySem.F.plainAttrs_dict PySem.F.slot_dict_update PySem.F.type_dict_update mt_dupd (den_var 1) (dena_cons (den_callTy dict_ok (call_dictAll rfl) rfl (He.free_ok KX G (c.fact 7 rfl)) (by decide +kernel) (dena_cons (den_lc (own := [("_law_row", 6)]) nb0 (by decide) rfl sc_law_signs.nd (deni_lst (den_var 5)) (blkOk_by (N := N_law_signs) (sc := defScope st_law_signs) (by decide +kernel)) (fun _ _ _ _ _ => (deng_name 6 sc_law_signs.nd rfl (by first | exact Or.inl rfl | exact Or.inr rfl))) (fun _ _ _ _ _ => (dents_one (dent_cmp ne_ok (op_neAll hr.units) (den_ix (den_var 6) den_int) den_str (nomark _)))) (fun _ _ _ _ _ => (den_tup (dena_cons (den_ix (den_var 6) den_int) (dena_cons den_bl dena_nil))))) dena_nil)) dena_nil) (pe_bm PySem.F.plainAttrs_dict PySem.F.slot_dict_update PySem.F.type_dict_update mt_dupd (den_var 1) (dena_cons (den_callTy dict_ok (call_dictAll rfl) rfl (He.free_ok KX G (c.fact 7 rfl)) (by decide +kernel) (dena_cons (den_lc (own := [("_law_row", 6)]) nb0 (by decide) rfl sc_law_signs.nd (deni_lst (den_var 5)) (blkOk_by (N := N_law_signs) (sc := defScope st_law_signs) (by decide +kernel)) (fun _ _ _ _ _ => (deng_name 6 sc_law_signs.nd rfl (by first | exact Or.inl rfl | exact Or.inr rfl))) (fun _ _ _ _ _ => (dents_one (dent_cmp ne_ok (op_neAll hr.units) (den_ix (den_var 6) den_int) den_str (nomark _)))) (fun _ _ _ _ _ => (den_tup (dena_cons (den_ix (den_var 6) den_int) (dena_cons den_bl dena_nil))))) dena_nil)) dena_nil))))))
    (denss_one (dens_ret (den_bin add_ok op_addAll (den_callB sorted_ok (call_sortedAll rfl) rfl (He.free_ok KX G (c.fact 6 rfl)) (by decide +kernel) (dena_cons (den_var 1) dena_nil)) (den_lst (dena_cons den_str dena_nil)))))))
theorem ok_law_signs (KX : K.In h) (G : h.Ns mainGlobals mg) (c : He.SaysD fa fn K) (er : Errs P w K mg base errCs) : Ok P w K mg base 1 "_law_signs" 1 F_law_signs :=
  ok_mk (N := N_law_signs) KX G (c.fact 33 rfl) (c.def_ 5 (d := dD "_law_signs" st_law_signs) rfl) sc_law_signs rfl (fun _ _ _ _ _ _ us hl => match us, hl with | [_], _ => rfl) (dn_law_signs KX G c er)
set_option maxHeartbeats 4000000 in
theorem dn_law_line (KX : K.In h) (G : h.Ns mainGlobals mg) (c : He.SaysD fa fn K) (er : Errs P w K mg base errCs) (ho_law_of : Ok P w K mg base 2 "_law_of" 2 F_law_of) (ho_law_signs : Ok P w K mg base 1 "_law_signs" 1 F_law_signs) (ho_law_take : Ok P w K mg base 1 "_law_take" 2 F_law_take) : ∀ (cdv : Value) (A : Around) (outer : List PySem.Env) (s' : Shared) (H : Hp) (E : XK), RoomG 2 (A.deeper (PyProof.Rows.envOfC "_law_line" (defScope st_law_line) s'.heap.objs.size (He.ga K "_law_line") cdv)) → DenSs (cxOf CX0 P w K mg base N_law_line "_law_line" (defScope st_law_line) (He.ga K "_law_line") cdv A outer s' H E).nox B0 (defBody st_law_line) b_law_line := by
  intro cdv A outer s' H E hr
  exact (denss_one (dens_ret (den_bm join_ok PySem.F.plainAttrs_str PySem.F.slot_str_join PySem.F.type_str_join mt_join den_str (dena_cons (den_lc (own := [("_law_turn", 3)]) nb0 (by decide) rfl sc_law_line.nd (deni_rng1 rfl (He.free_ok KX G (c.fact 0 rfl)) (dena_cons (den_callO ho_law_take hr (by decide) rfl (dena_cons (den_var 0) (dena_cons (den_bin add_ok op_addAll (den_var 2) den_int) dena_nil))) dena_nil)) (blkOk_by (N := N_law_line) (sc := defScope st_law_line) (by decide +kernel)) (fun _ _ _ _ _ => (deng_name 3 sc_law_line.nd rfl (by first | exact Or.inl rfl | exact Or.inr rfl))) (fun _ _ _ _ _ => dents_nil) (fun _ _ _ _ _ => (den_callO ho_law_of hr (by decide) rfl (dena_cons (den_var 0) (dena_cons (den_callO ho_law_signs hr (by decide) rfl (dena_cons (den_var 1) dena_nil)) dena_nil))))) dena_nil) (pe_bm PySem.F.plainAttrs_str PySem.F.slot_str_join PySem.F.type_str_join mt_join den_str (dena_cons (den_lc (own := [("_law_turn", 3)]) nb0 (by decide) rfl sc_law_line.nd (deni_rng1 rfl (He.free_ok KX G (c.fact 0 rfl)) (dena_cons (den_callO ho_law_take hr (by decide) rfl (dena_cons (den_var 0) (dena_cons (den_bin add_ok op_addAll (den_var 2) den_int) dena_nil))) dena_nil)) (blkOk_by (N := N_law_line) (sc := defScope st_law_line) (by decide +kernel)) (fun _ _ _ _ _ => (deng_name 3 sc_law_line.nd rfl (by first | exact Or.inl rfl | exact Or.inr rfl))) (fun _ _ _ _ _ => dents_nil) (fun _ _ _ _ _ => (den_callO ho_law_of hr (by decide) rfl (dena_cons (den_var 0) (dena_cons (den_callO ho_law_signs hr (by decide) rfl (dena_cons (den_var 1) dena_nil)) dena_nil))))) dena_nil)))))
theorem ok_law_line (KX : K.In h) (G : h.Ns mainGlobals mg) (c : He.SaysD fa fn K) (er : Errs P w K mg base errCs) (ho_law_of : Ok P w K mg base 2 "_law_of" 2 F_law_of) (ho_law_signs : Ok P w K mg base 1 "_law_signs" 1 F_law_signs) (ho_law_take : Ok P w K mg base 1 "_law_take" 2 F_law_take) : Ok P w K mg base 3 "_law_line" 3 F_law_line :=
  ok_mk (N := N_law_line) KX G (c.fact 34 rfl) (c.def_ 6 (d := dD "_law_line" st_law_line) rfl) sc_law_line rfl (fun _ _ _ _ _ _ us hl => match us, hl with | [_, _, _], _ => rfl) (dn_law_line KX G c er ho_law_of ho_law_signs ho_law_take)
set_option maxHeartbeats 4000000 in
theorem dn_law_drawn (KX : K.In h) (G : h.Ns mainGlobals mg) (c : He.SaysD fa fn K) (er : Errs P w K mg base errCs) (ho_law_line : Ok P w K mg base 3 "_law_line" 3 F_law_line) (ho_law_of : Ok P w K mg base 2 "_law_of" 2 F_law_of) (ho_law_take : Ok P w K mg base 1 "_law_take" 2 F_law_take) : ∀ (cdv : Value) (A : Around) (outer : List PySem.Env) (s' : Shared) (H : Hp) (E : XK), RoomG 3 (A.deeper (PyProof.Rows.envOfC "_law_drawn" (defScope st_law_drawn) s'.heap.objs.size (He.ga K "_law_drawn") cdv)) → DenSs (cxOf CX0 P w K mg base N_law_drawn "_law_drawn" (defScope st_law_drawn) (He.ga K "_law_drawn") cdv A outer s' H E).nox B0 (defBody st_law_drawn) b_law_drawn := by
  intro cdv A outer s' H E hr
  exact (denss_cons (dens_set (i := 3) sc_law_drawn.nd rfl (by first | exact Or.inl rfl | exact Or.inr rfl) (den_bm join_ok PySem.F.plainAttrs_str PySem.F.slot_str_join PySem.F.type_str_join mt_join den_str (dena_cons (den_lc (own := [("_law_turn", 4)]) nb0 (by decide) rfl sc_law_drawn.nd (deni_rng1 rfl (He.free_ok KX G (c.fact 0 rfl)) (dena_cons (den_bin add_ok op_addAll den_int (den_callO ho_law_take hr (by decide) rfl (dena_cons (den_var 0) (dena_cons den_int dena_nil)))) dena_nil)) (blkOk_by (N := N_law_drawn) (sc := defScope st_law_drawn) (by decide +kernel)) (fun _ _ _ _ _ => (deng_name 4 sc_law_drawn.nd rfl (by first | exact Or.inl rfl | exact Or.inr rfl))) (fun _ _ _ _ _ => dents_nil) (fun _ _ _ _ _ => (den_bin add_ok op_addAll den_str (den_callO ho_law_line hr (by decide) rfl (dena_cons (den_var 0) (dena_cons (den_var 1) (dena_cons den_int dena_nil))))))) dena_nil) (pe_bm PySem.F.plainAttrs_str PySem.F.slot_str_join PySem.F.type_str_join mt_join den_str (dena_cons (den_lc (own := [("_law_turn", 4)]) nb0 (by decide) rfl sc_law_drawn.nd (deni_rng1 rfl (He.free_ok KX G (c.fact 0 rfl)) (dena_cons (den_bin add_ok op_addAll den_int (den_callO ho_law_take hr (by decide) rfl (dena_cons (den_var 0) (dena_cons den_int dena_nil)))) dena_nil)) (blkOk_by (N := N_law_drawn) (sc := defScope st_law_drawn) (by decide +kernel)) (fun _ _ _ _ _ => (deng_name 4 sc_law_drawn.nd rfl (by first | exact Or.inl rfl | exact Or.inr rfl))) (fun _ _ _ _ _ => dents_nil) (fun _ _ _ _ _ => (den_bin add_ok op_addAll den_str (den_callO ho_law_line hr (by decide) rfl (dena_cons (den_var 0) (dena_cons (den_var 1) (dena_cons den_int dena_nil))))))) dena_nil))))
    (denss_cons (dens_if (dent_cmp eq_ok (op_eqAll hr.units) (den_var 2) den_int (nomark _)) (denss_one (dens_ret (den_bm join_ok PySem.F.plainAttrs_str PySem.F.slot_str_join PySem.F.type_str_join mt_join den_str (dena_cons (den_callO ho_law_of hr (by decide) rfl (dena_cons (den_var 0) (dena_cons (den_lst (dena_cons (den_lst (dena_cons den_str dena_nil)) (dena_cons (den_lst (dena_cons den_str (dena_cons den_str dena_nil))) (dena_cons (den_lst (dena_cons den_str (dena_cons den_str (dena_cons den_str dena_nil)))) dena_nil)))) dena_nil))) dena_nil) (pe_bm PySem.F.plainAttrs_str PySem.F.slot_str_join PySem.F.type_str_join mt_join den_str (dena_cons (den_callO ho_law_of hr (by decide) rfl (dena_cons (den_var 0) (dena_cons (den_lst (dena_cons (den_lst (dena_cons den_str dena_nil)) (dena_cons (den_lst (dena_cons den_str (dena_cons den_str dena_nil))) (dena_cons (den_lst (dena_cons den_str (dena_cons den_str (dena_cons den_str dena_nil)))) dena_nil)))) dena_nil))) dena_nil))))) denss_nil)
    (denss_one (dens_ret (den_if (dent_cmp eq_ok (op_eqAll hr.units) (den_var 2) den_int (nomark _)) (den_var 3) (den_bin add_ok op_addAll (den_bin add_ok op_addAll (den_callO ho_law_of hr (by decide) rfl (dena_cons (den_var 0) (dena_cons (den_lst (dena_cons den_str (dena_cons den_str (dena_cons den_str (dena_cons den_str dena_nil))))) dena_nil))) den_str) (den_var 3)))))))
theorem ok_law_drawn (KX : K.In h) (G : h.Ns mainGlobals mg) (c : He.SaysD fa fn K) (er : Errs P w K mg base errCs) (ho_law_line : Ok P w K mg base 3 "_law_line" 3 F_law_line) (ho_law_of : Ok P w K mg base 2 "_law_of" 2 F_law_of) (ho_law_take : Ok P w K mg base 1 "_law_take" 2 F_law_take) : Ok P w K mg base 4 "_law_drawn" 3 F_law_drawn :=
  ok_mk (N := N_law_drawn) KX G (c.fact 35 rfl) (c.def_ 7 (d := dD "_law_drawn" st_law_drawn) rfl) sc_law_drawn rfl (fun _ _ _ _ _ _ us hl => match us, hl with | [_, _, _], _ => rfl) (dn_law_drawn KX G c er ho_law_line ho_law_of ho_law_take)
set_option maxHeartbeats 4000000 in
theorem dn_law_is_lines (KX : K.In h) (G : h.Ns mainGlobals mg) (c : He.SaysD fa fn K) (er : Errs P w K mg base errCs) : ∀ (cdv : Value) (A : Around) (outer : List PySem.Env) (s' : Shared) (H : Hp) (E : XK), RoomG 0 (A.deeper (PyProof.Rows.envOfC "_law_is_lines" (defScope st_law_is_lines) s'.heap.objs.size (He.ga K "_law_is_lines") cdv)) → DenSs (cxOf CX0 P w K mg base N_law_is_lines "_law_is_lines" (defScope st_law_is_lines) (He.ga K "_law_is_lines") cdv A outer s' H E).nox B0 (defBody st_law_is_lines) b_law_is_lines := by
  intro cdv A outer s' H E hr
  exact (denss_cons (dens_if (dent_cmp eq_ok (op_eqAll hr.units) (den_var 0) den_str (nomark _)) (denss_one (dens_ret den_bl)) denss_nil)
    (denss_cons (dens_set (i := 1) sc_law_is_lines.nd rfl (by first | exact Or.inl rfl | exact Or.inr rfl) (den_bm split_ok PySem.F.plainAttrs_str PySem.F.slot_str_split PySem.F.type_str_split mt_split (den_var 0) (dena_cons den_str dena_nil) (pe_bm PySem.F.plainAttrs_str PySem.F.slot_str_split PySem.F.type_str_split mt_split (den_var 0) (dena_cons den_str dena_nil))))
    (denss_cons (dens_if (dent_val (den_callB any_ok (cr_any rfl) rfl (He.free_ok KX G (c.fact 13 rfl)) (by decide +kernel) (dena_cons (den_lc (own := [("_law_row", 2)]) nb0 (by decide) rfl sc_law_is_lines.nd (deni_lst (den_var 1)) (blkOk_by (N := N_law_is_lines) (sc := defScope st_law_is_lines) (by decide +kernel)) (fun _ _ _ _ _ => (deng_name 2 sc_law_is_lines.nd rfl (by first | exact Or.inl rfl | exact Or.inr rfl))) (fun _ _ _ _ _ => dents_nil) (fun _ _ _ _ _ => (den_or (den_cmp ne_ok (op_neAll hr.units) (den_sl (den_var 2) deno_none (deno_some den_int)) den_str (nomark _)) (den_one (den_cmp in_ok op_inAll den_str (den_var 2) (by first | rfl | with_unfolding_all rfl)))))) dena_nil))) (denss_one (dens_ret den_bl)) denss_nil)
    (denss_one (dens_ret den_bl)))))
theorem ok_law_is_lines (KX : K.In h) (G : h.Ns mainGlobals mg) (c : He.SaysD fa fn K) (er : Errs P w K mg base errCs) : Ok P w K mg base 1 "_law_is_lines" 1 F_law_is_lines :=
  ok_mk (N := N_law_is_lines) KX G (c.fact 36 rfl) (c.def_ 8 (d := dD "_law_is_lines" st_law_is_lines) rfl) sc_law_is_lines rfl (fun _ _ _ _ _ _ us hl => match us, hl with | [_], _ => rfl) (dn_law_is_lines KX G c er)
set_option maxHeartbeats 4000000 in
theorem dn_law_is_name (KX : K.In h) (G : h.Ns mainGlobals mg) (c : He.SaysD fa fn K) (er : Errs P w K mg base errCs) : ∀ (cdv : Value) (A : Around) (outer : List PySem.Env) (s' : Shared) (H : Hp) (E : XK), RoomG 0 (A.deeper (PyProof.Rows.envOfC "_law_is_name" (defScope st_law_is_name) s'.heap.objs.size (He.ga K "_law_is_name") cdv)) → DenSs (cxOf CX0 P w K mg base N_law_is_name "_law_is_name" (defScope st_law_is_name) (He.ga K "_law_is_name") cdv A outer s' H E).nox B0 (defBody st_law_is_name) b_law_is_name := by
  intro cdv A outer s' H E hr
  exact (denss_cons (dens_setLc (i := 1) (own := [("_law_sign", 2)]) nb0 (by decide) rfl sc_law_is_name.nd rfl rfl (sw_true rfl rfl rfl (by decide +kernel)) (deni_str (den_var 0)) (blkOk_by (N := N_law_is_name) (sc := defScope st_law_is_name) (by decide +kernel)) (fun _ _ _ _ _ => (deng_name 2 sc_law_is_name.nd rfl (by first | exact Or.inl rfl | exact Or.inr rfl))) (fun _ _ _ _ _ => (dents_one (dent_cmp in_ok op_inAll (den_var 2) den_str (by first | rfl | with_unfolding_all rfl)))) (fun _ _ _ _ _ => (den_var 2)))
    (denss_one (dens_ret (den_and (den_chain pure_le le_ok le_ok op_le op_le den_int (den_callB len_ok call_len rfl (He.free_ok KX G (c.fact 1 rfl)) (by decide +kernel) (dena_cons (den_var 0) dena_nil)) den_int) (den_one (den_cmp eq_ok (op_eqAll hr.units) (den_callB len_ok call_len rfl (He.free_ok KX G (c.fact 1 rfl)) (by decide +kernel) (dena_cons (den_var 1) dena_nil)) (den_callB len_ok call_len rfl (He.free_ok KX G (c.fact 1 rfl)) (by decide +kernel) (dena_cons (den_var 0) dena_nil)) (nomark _)))))))
theorem ok_law_is_name (KX : K.In h) (G : h.Ns mainGlobals mg) (c : He.SaysD fa fn K) (er : Errs P w K mg base errCs) : Ok P w K mg base 1 "_law_is_name" 1 F_law_is_name :=
  ok_mk (N := N_law_is_name) KX G (c.fact 37 rfl) (c.def_ 9 (d := dD "_law_is_name" st_law_is_name) rfl) sc_law_is_name rfl (fun _ _ _ _ _ _ us hl => match us, hl with | [_], _ => rfl) (dn_law_is_name KX G c er)
set_option maxHeartbeats 4000000 in
theorem dn_law_is_number (KX : K.In h) (G : h.Ns mainGlobals mg) (c : He.SaysD fa fn K) (er : Errs P w K mg base errCs) : ∀ (cdv : Value) (A : Around) (outer : List PySem.Env) (s' : Shared) (H : Hp) (E : XK), RoomG 0 (A.deeper (PyProof.Rows.envOfC "_law_is_number" (defScope st_law_is_number) s'.heap.objs.size (He.ga K "_law_is_number") cdv)) → DenSs (cxOf CX0 P w K mg base N_law_is_number "_law_is_number" (defScope st_law_is_number) (He.ga K "_law_is_number") cdv A outer s' H E).nox B0 (defBody st_law_is_number) b_law_is_number := by
  intro cdv A outer s' H E hr
  exact (denss_cons (dens_setLc (i := 1) (own := [("_law_sign", 2)]) nb0 (by decide) rfl sc_law_is_number.nd rfl rfl (sw_true rfl rfl rfl (by decide +kernel)) (deni_str (den_var 0)) (blkOk_by (N := N_law_is_number) (sc := defScope st_law_is_number) (by decide +kernel)) (fun _ _ _ _ _ => (deng_name 2 sc_law_is_number.nd rfl (by first | exact Or.inl rfl | exact Or.inr rfl))) (fun _ _ _ _ _ => (dents_one (dent_cmp in_ok op_inAll (den_var 2) den_str (by first | rfl | with_unfolding_all rfl)))) (fun _ _ _ _ _ => (den_var 2)))
    (denss_one (dens_ret (den_and (den_chain pure_le le_ok le_ok op_le op_le den_int (den_callB len_ok call_len rfl (He.free_ok KX G (c.fact 1 rfl)) (by decide +kernel) (dena_cons (den_var 0) dena_nil)) den_int) (den_and (den_cmp eq_ok (op_eqAll hr.units) (den_callB len_ok call_len rfl (He.free_ok KX G (c.fact 1 rfl)) (by decide +kernel) (dena_cons (den_var 1) dena_nil)) (den_callB len_ok call_len rfl (He.free_ok KX G (c.fact 1 rfl)) (by decide +kernel) (dena_cons (den_var 0) dena_nil)) (nomark _)) (den_one (den_or (den_cmp eq_ok (op_eqAll hr.units) (den_var 0) den_str (nomark _)) (den_one (den_cmp ne_ok (op_neAll hr.units) (den_ix (den_var 0) den_int) den_str (nomark _))))))))))
theorem ok_law_is_number (KX : K.In h) (G : h.Ns mainGlobals mg) (c : He.SaysD fa fn K) (er : Errs P w K mg base errCs) : Ok P w K mg base 1 "_law_is_number" 1 F_law_is_number :=
  ok_mk (N := N_law_is_number) KX G (c.fact 38 rfl) (c.def_ 10 (d := dD "_law_is_number" st_law_is_number) rfl) sc_law_is_number rfl (fun _ _ _ _ _ _ us hl => match us, hl with | [_], _ => rfl) (dn_law_is_number KX G c er)
set_option maxHeartbeats 4000000 in
theorem dn_law_due (KX : K.In h) (G : h.Ns mainGlobals mg) (c : He.SaysD fa fn K) (er : Errs P w K mg base errCs) (ho_law_is_lines : Ok P w K mg base 1 "_law_is_lines" 1 F_law_is_lines) (ho_law_is_name : Ok P w K mg base 1 "_law_is_name" 1 F_law_is_name) (ho_law_is_number : Ok P w K mg base 1 "_law_is_number" 1 F_law_is_number) : ∀ (cdv : Value) (A : Around) (outer : List PySem.Env) (s' : Shared) (H : Hp) (E : XK), RoomG 1 (A.deeper (PyProof.Rows.envOfC "_law_due" (defScope st_law_due) s'.heap.objs.size (He.ga K "_law_due") cdv)) → DenSs (cxOf CX0 P w K mg base N_law_due "_law_due" (defScope st_law_due) (He.ga K "_law_due") cdv A outer s' H E).nox B0 (defBody st_law_due) b_law_due := by
  intro cdv A outer s' H E hr
  exact (denss_cons (dens_if (dent_not (dent_val (den_callB isi_ok call_isi rfl (He.free_ok KX G (c.fact 9 rfl)) (by decide +kernel) (dena_cons (den_var 1) (dena_cons (den_ty rfl (He.free_ok KX G (c.fact 12 rfl)) (by decide +kernel)) dena_nil))))) (denss_one (dens_ret den_bl)) denss_nil)
    (denss_cons (dens_if (dent_cmp eq_ok (op_eqAll hr.units) (den_var 0) den_int (nomark _)) (denss_cons (dens_set (i := 2) sc_law_due.nd rfl (by first | exact Or.inl rfl | exact Or.inr rfl) (den_bm split_ok PySem.F.plainAttrs_str PySem.F.slot_str_split PySem.F.type_str_split mt_split (den_var 1) (dena_cons den_str dena_nil) (pe_bm PySem.F.plainAttrs_str PySem.F.slot_str_split PySem.F.type_str_split mt_split (den_var 1) (dena_cons den_str dena_nil))))
    (denss_one (dens_ret (den_and (den_cmp le_ok op_le (den_callB len_ok call_len rfl (He.free_ok KX G (c.fact 1 rfl)) (by decide +kernel) (dena_cons (den_var 2) dena_nil)) den_int (nomark _)) (den_one (den_callB all_ok (cr_all rfl) rfl (He.free_ok KX G (c.fact 4 rfl)) (by decide +kernel) (dena_cons (den_lc (own := [("_law_word", 3)]) nb0 (by decide) rfl sc_law_due.nd (deni_lst (den_var 2)) (blkOk_by (N := N_law_due) (sc := defScope st_law_due) (by decide +kernel)) (fun _ _ _ _ _ => (deng_name 3 sc_law_due.nd rfl (by first | exact Or.inl rfl | exact Or.inr rfl))) (fun _ _ _ _ _ => dents_nil) (fun _ _ _ _ _ => (den_callO ho_law_is_name hr (by decide) rfl (dena_cons (den_var 3) dena_nil)))) dena_nil))))))) denss_nil)
    (denss_cons (dens_if (dent_cmp eq_ok (op_eqAll hr.units) (den_var 0) den_int (nomark _)) (denss_one (dens_ret (den_callO ho_law_is_lines hr (by decide) rfl (dena_cons (den_var 1) dena_nil)))) denss_nil)
    (denss_cons (dens_set (i := 2) sc_law_due.nd rfl (by first | exact Or.inl rfl | exact Or.inr rfl) (den_bm split_ok PySem.F.plainAttrs_str PySem.F.slot_str_split PySem.F.type_str_split mt_split (den_ix (den_bm split_ok PySem.F.plainAttrs_str PySem.F.slot_str_split PySem.F.type_str_split mt_split (den_var 1) (dena_cons den_str dena_nil) (pe_bm PySem.F.plainAttrs_str PySem.F.slot_str_split PySem.F.type_str_split mt_split (den_var 1) (dena_cons den_str dena_nil))) den_int) (dena_cons den_str dena_nil) (pe_bm PySem.F.plainAttrs_str PySem.F.slot_str_split PySem.F.type_str_split mt_split (den_ix (den_bm split_ok PySem.F.plainAttrs_str PySem.F.slot_str_split PySem.F.type_str_split mt_split (den_var 1) (dena_cons den_str dena_nil) (pe_bm PySem.F.plainAttrs_str PySem.F.slot_str_split PySem.F.type_str_split mt_split (den_var 1) (dena_cons den_str dena_nil))) den_int) (dena_cons den_str dena_nil))))
    (denss_cons (dens_if (DenW.t (denw_or (dent_cmp notIn_ok op_notInAll den_str (den_var 1) (by first | rfl | with_unfolding_all rfl)) (denw_or (dent_cmp ne_ok (op_neAll hr.units) (den_callB len_ok call_len rfl (He.free_ok KX G (c.fact 1 rfl)) (by decide +kernel) (dena_cons (den_var 2) dena_nil)) den_int (nomark _)) (denw_or1 (dent_not (dent_val (den_callB all_ok (cr_all rfl) rfl (He.free_ok KX G (c.fact 4 rfl)) (by decide +kernel) (dena_cons (den_lc (own := [("_law_word", 3)]) nb0 (by decide) rfl sc_law_due.nd (deni_lst (den_var 2)) (blkOk_by (N := N_law_due) (sc := defScope st_law_due) (by decide +kernel)) (fun _ _ _ _ _ => (deng_name 3 sc_law_due.nd rfl (by first | exact Or.inl rfl | exact Or.inr rfl))) (fun _ _ _ _ _ => dents_nil) (fun _ _ _ _ _ => (den_callO ho_law_is_number hr (by decide) rfl (dena_cons (den_var 3) dena_nil)))) dena_nil)))))))) (denss_one (dens_ret den_bl)) denss_nil)
    (denss_one (dens_ret (den_and (den_cmp le_ok op_le (den_callTy int_ok call_intAll rfl (He.free_ok KX G (c.fact 5 rfl)) (by decide +kernel) (dena_cons (den_ix (den_var 2) den_int) dena_nil)) (den_callTy int_ok call_intAll rfl (He.free_ok KX G (c.fact 5 rfl)) (by decide +kernel) (dena_cons (den_ix (den_var 2) den_int) dena_nil)) (nomark _)) (den_one (den_callO ho_law_is_lines hr (by decide) rfl (dena_cons (den_sl (den_var 1) (deno_some (den_bin add_ok op_addAll (den_bm index_ok PySem.F.plainAttrs_str PySem.F.slot_str_index PySem.F.type_str_index mt_sindex (den_var 1) (dena_cons den_str dena_nil) (pe_bm PySem.F.plainAttrs_str PySem.F.slot_str_index PySem.F.type_str_index mt_sindex (den_var 1) (dena_cons den_str dena_nil))) den_int)) deno_none) dena_nil)))))))))))
theorem ok_law_due (KX : K.In h) (G : h.Ns mainGlobals mg) (c : He.SaysD fa fn K) (er : Errs P w K mg base errCs) (ho_law_is_lines : Ok P w K mg base 1 "_law_is_lines" 1 F_law_is_lines) (ho_law_is_name : Ok P w K mg base 1 "_law_is_name" 1 F_law_is_name) (ho_law_is_number : Ok P w K mg base 1 "_law_is_number" 1 F_law_is_number) : Ok P w K mg base 2 "_law_due" 2 F_law_due :=
  ok_mk (N := N_law_due) KX G (c.fact 39 rfl) (c.def_ 11 (d := dD "_law_due" st_law_due) rfl) sc_law_due rfl (fun _ _ _ _ _ _ us hl => match us, hl with | [_, _], _ => rfl) (dn_law_due KX G c er ho_law_is_lines ho_law_is_name ho_law_is_number)
set_option maxHeartbeats 4000000 in
theorem dn_is_line (KX : K.In h) (G : h.Ns mainGlobals mg) (c : He.SaysD fa fn K) (er : Errs P w K mg base errCs) : ∀ (cdv : Value) (A : Around) (outer : List PySem.Env) (s' : Shared) (H : Hp) (E : XK), RoomG 0 (A.deeper (PyProof.Rows.envOfC "is_line" (defScope st_is_line) s'.heap.objs.size (He.ga K "is_line") cdv)) → DenSs (cxOf CX0 P w K mg base N_is_line "is_line" (defScope st_is_line) (He.ga K "is_line") cdv A outer s' H E).nox B0 (defBody st_is_line) b_is_line := by
  intro cdv A outer s' H E hr
  exact (denss_one (dens_ret (den_and (den_callB isi_ok call_isi rfl (He.free_ok KX G (c.fact 9 rfl)) (by decide +kernel) (dena_cons (den_var 0) (dena_cons (den_ty rfl (He.free_ok KX G (c.fact 12 rfl)) (by decide +kernel)) dena_nil))) (den_one (den_callB all_ok (cr_all rfl) rfl (He.free_ok KX G (c.fact 4 rfl)) (by decide +kernel) (dena_cons (den_lc (own := [("sign", 1)]) nb0 (by decide) rfl sc_is_line.nd (deni_str (den_var 0)) (blkOk_by (N := N_is_line) (sc := defScope st_is_line) (by decide +kernel)) (fun _ _ _ _ _ => (deng_name 1 sc_is_line.nd rfl (by first | exact Or.inl rfl | exact Or.inr rfl))) (fun _ _ _ _ _ => dents_nil) (fun _ _ _ _ _ => (den_cmp in_ok op_inAll (den_var 1) (den_gstr (z := c_SIGNS) rfl (He.str_ok KX G (c.fact 19 rfl))) (by first | rfl | with_unfolding_all rfl)))) dena_nil))))))
theorem ok_is_line (KX : K.In h) (G : h.Ns mainGlobals mg) (c : He.SaysD fa fn K) (er : Errs P w K mg base errCs) : Ok P w K mg base 1 "is_line" 1 F_is_line :=
  ok_mk (N := N_is_line) KX G (c.fact 40 rfl) (c.def_ 12 (d := dD "is_line" st_is_line) rfl) sc_is_line rfl (fun _ _ _ _ _ _ us hl => match us, hl with | [_], _ => rfl) (dn_is_line KX G c er)
set_option maxHeartbeats 4000000 in
theorem dn_lines_in (KX : K.In h) (G : h.Ns mainGlobals mg) (c : He.SaysD fa fn K) (er : Errs P w K mg base errCs) (ho_is_line : Ok P w K mg base 1 "is_line" 1 F_is_line) : ∀ (cdv : Value) (A : Around) (outer : List PySem.Env) (s' : Shared) (H : Hp) (E : XK), RoomG 1 (A.deeper (PyProof.Rows.envOfC "lines_in" (defScope st_lines_in) s'.heap.objs.size (He.ga K "lines_in") cdv)) → DenSs (cxOf CX0 P w K mg base N_lines_in "lines_in" (defScope st_lines_in) (He.ga K "lines_in") cdv A outer s' H E).nox B0 (defBody st_lines_in) b_lines_in := by
  intro cdv A outer s' H E hr
  exact (denss_cons (dens_if (dent_cmp eq_ok (op_eqAll hr.units) (den_var 0) (den_gstr (z := c_NONE) rfl (He.str_ok KX G (c.fact 18 rfl))) (nomark _)) (denss_one (dens_ret (den_tup dena_nil))) denss_nil)
    (denss_cons (dens_set (i := 1) sc_lines_in.nd rfl (by first | exact Or.inl rfl | exact Or.inr rfl) (den_bm split_ok PySem.F.plainAttrs_str PySem.F.slot_str_split PySem.F.type_str_split mt_split (den_var 0) (dena_cons (den_gstr (z := c_FEED) rfl (He.str_ok KX G (c.fact 16 rfl))) dena_nil) (pe_bm PySem.F.plainAttrs_str PySem.F.slot_str_split PySem.F.type_str_split mt_split (den_var 0) (dena_cons (den_gstr (z := c_FEED) rfl (He.str_ok KX G (c.fact 16 rfl))) dena_nil))))
    (denss_cons (dens_if (dent_not (dent_val (den_callB all_ok (cr_all rfl) rfl (He.free_ok KX G (c.fact 4 rfl)) (by decide +kernel) (dena_cons (den_lc (own := [("row", 2)]) nb0 (by decide) rfl sc_lines_in.nd (deni_lst (den_var 1)) (blkOk_by (N := N_lines_in) (sc := defScope st_lines_in) (by decide +kernel)) (fun _ _ _ _ _ => (deng_name 2 sc_lines_in.nd rfl (by first | exact Or.inl rfl | exact Or.inr rfl))) (fun _ _ _ _ _ => dents_nil) (fun _ _ _ _ _ => (den_and (den_bm starts_ok PySem.F.plainAttrs_str PySem.F.slot_str_startswith PySem.F.type_str_startswith mt_startswith (den_var 2) (dena_cons (den_gstr (z := c_BAR) rfl (He.str_ok KX G (c.fact 17 rfl))) dena_nil) (pe_bm PySem.F.plainAttrs_str PySem.F.slot_str_startswith PySem.F.type_str_startswith mt_startswith (den_var 2) (dena_cons (den_gstr (z := c_BAR) rfl (He.str_ok KX G (c.fact 17 rfl))) dena_nil))) (den_one (den_callO ho_is_line hr (by decide) rfl (dena_cons (den_sl (den_var 2) (deno_some den_int) deno_none) dena_nil)))))) dena_nil)))) (denss_one (dens_ret den_non)) denss_nil)
    (denss_one (dens_ret (den_callTy tuple_ok call_tuple_of rfl (He.free_ok KX G (c.fact 8 rfl)) (by decide +kernel) (dena_cons (den_lc (own := [("row", 2)]) nb0 (by decide) rfl sc_lines_in.nd (deni_lst (den_var 1)) (blkOk_by (N := N_lines_in) (sc := defScope st_lines_in) (by decide +kernel)) (fun _ _ _ _ _ => (deng_name 2 sc_lines_in.nd rfl (by first | exact Or.inl rfl | exact Or.inr rfl))) (fun _ _ _ _ _ => dents_nil) (fun _ _ _ _ _ => (den_sl (den_var 2) (deno_some den_int) deno_none))) dena_nil)))))))
theorem ok_lines_in (KX : K.In h) (G : h.Ns mainGlobals mg) (c : He.SaysD fa fn K) (er : Errs P w K mg base errCs) (ho_is_line : Ok P w K mg base 1 "is_line" 1 F_is_line) : Ok P w K mg base 2 "lines_in" 1 F_lines_in :=
  ok_mk (N := N_lines_in) KX G (c.fact 25 rfl) (c.def_ 13 (d := dD "lines_in" st_lines_in) rfl) sc_lines_in rfl (fun _ _ _ _ _ _ us hl => match us, hl with | [_], _ => rfl) (dn_lines_in KX G c er ho_is_line)
set_option maxHeartbeats 4000000 in
theorem dn_number_in (KX : K.In h) (G : h.Ns mainGlobals mg) (c : He.SaysD fa fn K) (er : Errs P w K mg base errCs) : ∀ (cdv : Value) (A : Around) (outer : List PySem.Env) (s' : Shared) (H : Hp) (E : XK), RoomG 0 (A.deeper (PyProof.Rows.envOfC "number_in" (defScope st_number_in) s'.heap.objs.size (He.ga K "number_in") cdv)) → DenSs (cxOf CX0 P w K mg base N_number_in "number_in" (defScope st_number_in) (He.ga K "number_in") cdv A outer s' H E).nox B0 (defBody st_number_in) b_number_in := by
  intro cdv A outer s' H E hr
  exact (denss_cons (dens_if (DenW.t (denw_or (dent_not (dent_chain pure_le le_ok le_ok op_le op_le den_int (den_callB len_ok call_len rfl (He.free_ok KX G (c.fact 1 rfl)) (by decide +kernel) (dena_cons (den_var 0) dena_nil)) (den_gint rfl (He.int_ok KX G (c.fact 21 rfl))))) (denw_or1 (dent_not (dent_val (den_callB all_ok (cr_all rfl) rfl (He.free_ok KX G (c.fact 4 rfl)) (by decide +kernel) (dena_cons (den_lc (own := [("digit", 1)]) nb0 (by decide) rfl sc_number_in.nd (deni_str (den_var 0)) (blkOk_by (N := N_number_in) (sc := defScope st_number_in) (by decide +kernel)) (fun _ _ _ _ _ => (deng_name 1 sc_number_in.nd rfl (by first | exact Or.inl rfl | exact Or.inr rfl))) (fun _ _ _ _ _ => dents_nil) (fun _ _ _ _ _ => (den_cmp in_ok op_inAll (den_var 1) (den_gstr (z := c_DIGITS) rfl (He.str_ok KX G (c.fact 20 rfl))) (by first | rfl | with_unfolding_all rfl)))) dena_nil))))))) (denss_one (dens_ret den_non)) denss_nil)
    (denss_one (dens_ret (den_if (DenW.t (denw_or (dent_cmp eq_ok (op_eqAll hr.units) (den_var 0) den_str (nomark _)) (denw_or1 (dent_cmp ne_ok (op_neAll hr.units) (den_ix (den_var 0) den_int) den_str (nomark _))))) (den_callTy int_ok call_intAll rfl (He.free_ok KX G (c.fact 5 rfl)) (by decide +kernel) (dena_cons (den_var 0) dena_nil)) den_non))))
theorem ok_number_in (KX : K.In h) (G : h.Ns mainGlobals mg) (c : He.SaysD fa fn K) (er : Errs P w K mg base errCs) : Ok P w K mg base 1 "number_in" 1 F_number_in :=
  ok_mk (N := N_number_in) KX G (c.fact 41 rfl) (c.def_ 14 (d := dD "number_in" st_number_in) rfl) sc_number_in rfl (fun _ _ _ _ _ _ us hl => match us, hl with | [_], _ => rfl) (dn_number_in KX G c er)
set_option maxHeartbeats 4000000 in
theorem dn_edit_in (KX : K.In h) (G : h.Ns mainGlobals mg) (c : He.SaysD fa fn K) (er : Errs P w K mg base errCs) (ho_lines_in : Ok P w K mg base 2 "lines_in" 1 F_lines_in) (ho_number_in : Ok P w K mg base 1 "number_in" 1 F_number_in) : ∀ (cdv : Value) (A : Around) (outer : List PySem.Env) (s' : Shared) (H : Hp) (E : XK), RoomG 2 (A.deeper (PyProof.Rows.envOfC "edit_in" (defScope st_edit_in) s'.heap.objs.size (He.ga K "edit_in") cdv)) → DenSs (cxOf CX0 P w K mg base N_edit_in "edit_in" (defScope st_edit_in) (He.ga K "edit_in") cdv A outer s' H E).nox B0 (defBody st_edit_in) b_edit_in := by
  intro cdv A outer s' H E hr
  exact (denss_cons (dens_tg (den_bm partition_ok PySem.F.plainAttrs_str PySem.F.slot_str_partition PySem.F.type_str_partition mt_partition (den_var 0) (dena_cons (den_gstr (z := c_FEED) rfl (He.str_ok KX G (c.fact 16 rfl))) dena_nil) (pe_bm PySem.F.plainAttrs_str PySem.F.slot_str_partition PySem.F.type_str_partition mt_partition (den_var 0) (dena_cons (den_gstr (z := c_FEED) rfl (He.str_ok KX G (c.fact 16 rfl))) dena_nil))) (deng_tup rfl (deng_cons (deng_name 1 sc_edit_in.nd rfl (by first | exact Or.inl rfl | exact Or.inr rfl)) (deng_cons (deng_name 2 sc_edit_in.nd rfl (by first | exact Or.inl rfl | exact Or.inr rfl)) (deng_cons (deng_name 3 sc_edit_in.nd rfl (by first | exact Or.inl rfl | exact Or.inr rfl)) deng_nil)))))
    (denss_cons (dens_par rfl sc_edit_in.nd rfl rfl (by decide) rfl rfl (dena_cons (den_lc (own := [("word", 6)]) nb0 (by decide) rfl sc_edit_in.nd (deni_lst (den_bm split_ok PySem.F.plainAttrs_str PySem.F.slot_str_split PySem.F.type_str_split mt_split (den_var 1) (dena_cons (den_gstr (z := c_BLANK) rfl (He.str_ok KX G (c.fact 15 rfl))) dena_nil) (pe_bm PySem.F.plainAttrs_str PySem.F.slot_str_split PySem.F.type_str_split mt_split (den_var 1) (dena_cons (den_gstr (z := c_BLANK) rfl (He.str_ok KX G (c.fact 15 rfl))) dena_nil)))) (blkOk_by (N := N_edit_in) (sc := defScope st_edit_in) (by decide +kernel)) (fun _ _ _ _ _ => (deng_name 6 sc_edit_in.nd rfl (by first | exact Or.inl rfl | exact Or.inr rfl))) (fun _ _ _ _ _ => dents_nil) (fun _ _ _ _ _ => (den_callO ho_number_in hr (by decide) rfl (dena_cons (den_var 6) dena_nil)))) (dena_cons (den_callO ho_lines_in hr (by decide) rfl (dena_cons (den_var 3) dena_nil)) dena_nil)) (by rfl) (ps_par rfl sc_edit_in.nd rfl rfl (by decide) rfl rfl (dena_cons (den_lc (own := [("word", 6)]) nb0 (by decide) rfl sc_edit_in.nd (deni_lst (den_bm split_ok PySem.F.plainAttrs_str PySem.F.slot_str_split PySem.F.type_str_split mt_split (den_var 1) (dena_cons (den_gstr (z := c_BLANK) rfl (He.str_ok KX G (c.fact 15 rfl))) dena_nil) (pe_bm PySem.F.plainAttrs_str PySem.F.slot_str_split PySem.F.type_str_split mt_split (den_var 1) (dena_cons (den_gstr (z := c_BLANK) rfl (He.str_ok KX G (c.fact 15 rfl))) dena_nil)))) (blkOk_by (N := N_edit_in) (sc := defScope st_edit_in) (by decide +kernel)) (fun _ _ _ _ _ => (deng_name 6 sc_edit_in.nd rfl (by first | exact Or.inl rfl | exact Or.inr rfl))) (fun _ _ _ _ _ => dents_nil) (fun _ _ _ _ _ => (den_callO ho_number_in hr (by decide) rfl (dena_cons (den_var 6) dena_nil)))) (dena_cons (den_callO ho_lines_in hr (by decide) rfl (dena_cons (den_var 3) dena_nil)) dena_nil)) (by rfl)))
    (denss_cons (dens_if (DenW.t (denw_or (dent_cmp ne_ok (op_neAll hr.units) (den_callB len_ok call_len rfl (He.free_ok KX G (c.fact 1 rfl)) (by decide +kernel) (dena_cons (den_var 4) dena_nil)) den_int (nomark _)) (denw_or (dent_cmp in_ok op_inAll den_non (den_var 4) (by first | rfl | with_unfolding_all rfl)) (denw_or (dent_cmp eq_ok (op_eqAll hr.units) (den_var 2) den_str (nomark _)) (denw_or (dent_cmp isN_ok op_isN (den_var 5) den_non (nomark _)) (denw_or1 (dent_cmp gt_ok op_gt (den_ix (den_var 4) den_int) (den_ix (den_var 4) den_int) (nomark _)))))))) (denss_one (dens_ret den_non)) denss_nil)
    (denss_one (dens_ret (den_tup (dena_cons (den_ix (den_var 4) den_int) (dena_cons (den_ix (den_var 4) den_int) (dena_cons (den_var 5) dena_nil)))))))))
theorem ok_edit_in (KX : K.In h) (G : h.Ns mainGlobals mg) (c : He.SaysD fa fn K) (er : Errs P w K mg base errCs) (ho_lines_in : Ok P w K mg base 2 "lines_in" 1 F_lines_in) (ho_number_in : Ok P w K mg base 1 "number_in" 1 F_number_in) : Ok P w K mg base 3 "edit_in" 1 F_edit_in :=
  ok_mk (N := N_edit_in) KX G (c.fact 14 rfl) (c.def_ 15 (d := dD "edit_in" st_edit_in) rfl) sc_edit_in rfl (fun _ _ _ _ _ _ us hl => match us, hl with | [_], _ => rfl) (dn_edit_in KX G c er ho_lines_in ho_number_in)
set_option maxHeartbeats 4000000 in
theorem dn_is_name (KX : K.In h) (G : h.Ns mainGlobals mg) (c : He.SaysD fa fn K) (er : Errs P w K mg base errCs) : ∀ (cdv : Value) (A : Around) (outer : List PySem.Env) (s' : Shared) (H : Hp) (E : XK), RoomG 0 (A.deeper (PyProof.Rows.envOfC "is_name" (defScope st_is_name) s'.heap.objs.size (He.ga K "is_name") cdv)) → DenSs (cxOf CX0 P w K mg base N_is_name "is_name" (defScope st_is_name) (He.ga K "is_name") cdv A outer s' H E).nox B0 (defBody st_is_name) b_is_name := by
  intro cdv A outer s' H E hr
  exact (denss_cons (dens_if (DenW.t (denw_or (dent_not (dent_val (den_callB isi_ok call_isi rfl (He.free_ok KX G (c.fact 9 rfl)) (by decide +kernel) (dena_cons (den_var 0) (dena_cons (den_ty rfl (He.free_ok KX G (c.fact 12 rfl)) (by decide +kernel)) dena_nil))))) (denw_or1 (dent_not (dent_chain pure_le le_ok le_ok op_le op_le den_int (den_callB len_ok call_len rfl (He.free_ok KX G (c.fact 1 rfl)) (by decide +kernel) (dena_cons (den_var 0) dena_nil)) (den_gint rfl (He.int_ok KX G (c.fact 24 rfl)))))))) (denss_one (dens_ret den_bl)) denss_nil)
    (denss_one (dens_ret (den_callB all_ok (cr_all rfl) rfl (He.free_ok KX G (c.fact 4 rfl)) (by decide +kernel) (dena_cons (den_lc (own := [("letter", 1)]) nb0 (by decide) rfl sc_is_name.nd (deni_str (den_var 0)) (blkOk_by (N := N_is_name) (sc := defScope st_is_name) (by decide +kernel)) (fun _ _ _ _ _ => (deng_name 1 sc_is_name.nd rfl (by first | exact Or.inl rfl | exact Or.inr rfl))) (fun _ _ _ _ _ => dents_nil) (fun _ _ _ _ _ => (den_cmp in_ok op_inAll (den_var 1) (den_gstr (z := c_LETTERS) rfl (He.str_ok KX G (c.fact 23 rfl))) (by first | rfl | with_unfolding_all rfl)))) dena_nil)))))
theorem ok_is_name (KX : K.In h) (G : h.Ns mainGlobals mg) (c : He.SaysD fa fn K) (er : Errs P w K mg base errCs) : Ok P w K mg base 1 "is_name" 1 F_is_name :=
  ok_mk (N := N_is_name) KX G (c.fact 42 rfl) (c.def_ 16 (d := dD "is_name" st_is_name) rfl) sc_is_name rfl (fun _ _ _ _ _ _ us hl => match us, hl with | [_], _ => rfl) (dn_is_name KX G c er)
set_option maxHeartbeats 4000000 in
theorem dn_state_in (KX : K.In h) (G : h.Ns mainGlobals mg) (c : He.SaysD fa fn K) (er : Errs P w K mg base errCs) (ho_is_name : Ok P w K mg base 1 "is_name" 1 F_is_name) : ∀ (cdv : Value) (A : Around) (outer : List PySem.Env) (s' : Shared) (H : Hp) (E : XK), RoomG 1 (A.deeper (PyProof.Rows.envOfC "state_in" (defScope st_state_in) s'.heap.objs.size (He.ga K "state_in") cdv)) → DenSs (cxOf CX0 P w K mg base N_state_in "state_in" (defScope st_state_in) (He.ga K "state_in") cdv A outer s' H E).nox B0 (defBody st_state_in) b_state_in := by
  intro cdv A outer s' H E hr
  exact (denss_cons (dens_set (i := 1) sc_state_in.nd rfl (by first | exact Or.inl rfl | exact Or.inr rfl) (den_callTy tuple_ok call_tuple_of rfl (He.free_ok KX G (c.fact 8 rfl)) (by decide +kernel) (dena_cons (den_bm split_ok PySem.F.plainAttrs_str PySem.F.slot_str_split PySem.F.type_str_split mt_split (den_var 0) (dena_cons (den_gstr (z := c_BLANK) rfl (He.str_ok KX G (c.fact 15 rfl))) dena_nil) (pe_bm PySem.F.plainAttrs_str PySem.F.slot_str_split PySem.F.type_str_split mt_split (den_var 0) (dena_cons (den_gstr (z := c_BLANK) rfl (He.str_ok KX G (c.fact 15 rfl))) dena_nil))) dena_nil)))
    (denss_one (dens_ret (den_if (DenW.t (denw_and (dent_cmp le_ok op_le (den_callB len_ok call_len rfl (He.free_ok KX G (c.fact 1 rfl)) (by decide +kernel) (dena_cons (den_var 1) dena_nil)) (den_gint rfl (He.int_ok KX G (c.fact 22 rfl))) (nomark _)) (denw_and1 (dent_val (den_callB all_ok (cr_all rfl) rfl (He.free_ok KX G (c.fact 4 rfl)) (by decide +kernel) (dena_cons (den_lc (own := [("name", 2)]) nb0 (by decide) rfl sc_state_in.nd (deni_tup (den_var 1)) (blkOk_by (N := N_state_in) (sc := defScope st_state_in) (by decide +kernel)) (fun _ _ _ _ _ => (deng_name 2 sc_state_in.nd rfl (by first | exact Or.inl rfl | exact Or.inr rfl))) (fun _ _ _ _ _ => dents_nil) (fun _ _ _ _ _ => (den_callO ho_is_name hr (by decide) rfl (dena_cons (den_var 2) dena_nil)))) dena_nil)))))) (den_var 1) den_non))))
theorem ok_state_in (KX : K.In h) (G : h.Ns mainGlobals mg) (c : He.SaysD fa fn K) (er : Errs P w K mg base errCs) (ho_is_name : Ok P w K mg base 1 "is_name" 1 F_is_name) : Ok P w K mg base 2 "state_in" 1 F_state_in :=
  ok_mk (N := N_state_in) KX G (c.fact 26 rfl) (c.def_ 17 (d := dD "state_in" st_state_in) rfl) sc_state_in rfl (fun _ _ _ _ _ _ us hl => match us, hl with | [_], _ => rfl) (dn_state_in KX G c er ho_is_name)
set_option maxHeartbeats 4000000 in
theorem dn_shown_value (KX : K.In h) (G : h.Ns mainGlobals mg) (c : He.SaysD fa fn K) (er : Errs P w K mg base errCs) (ho_edit_in : Ok P w K mg base 3 "edit_in" 1 F_edit_in) (ho_lines_in : Ok P w K mg base 2 "lines_in" 1 F_lines_in) (ho_state_in : Ok P w K mg base 2 "state_in" 1 F_state_in) : ∀ (cdv : Value) (A : Around) (outer : List PySem.Env) (s' : Shared) (H : Hp) (E : XK), RoomG 3 (A.deeper (PyProof.Rows.envOfC "shown_value" (defScope st_shown_value) s'.heap.objs.size (He.ga K "shown_value") cdv)) → Takes (cxOf (CX P w) P w K mg base N_shown_value "shown_value" (defScope st_shown_value) (He.ga K "shown_value") cdv A outer s' H E) (BE E) → PassesOwn (model P w) (cxOf (CX P w) P w K mg base N_shown_value "shown_value" (defScope st_shown_value) (He.ga K "shown_value") cdv A outer s' H E).A (cxOf (CX P w) P w K mg base N_shown_value "shown_value" (defScope st_shown_value) (He.ga K "shown_value") cdv A outer s' H E).env (cxOf (CX P w) P w K mg base N_shown_value "shown_value" (defScope st_shown_value) (He.ga K "shown_value") cdv A outer s' H E).xe → DenSs (cxOf (CX P w) P w K mg base N_shown_value "shown_value" (defScope st_shown_value) (He.ga K "shown_value") cdv A outer s' H E) (BE E) (defBody st_shown_value) b_shown_value := by
  have hTab_shown_value_reader : ∀ y nf, tab_shown_value_reader.lookup y = some nf → Ok P w K mg base 3 y nf.1 nf.2 := fun y nf e => by
    unfold tab_shown_value_reader at e
    rw [List.lookup_cons] at e
    split at e
    · rename_i q; cases e; rw [eq_of_beq q]; exact ho_state_in.mono (by decide)
    rw [List.lookup_cons] at e
    split at e
    · rename_i q; cases e; rw [eq_of_beq q]; exact ho_lines_in.mono (by decide)
    rw [List.lookup_cons] at e
    split at e
    · rename_i q; cases e; rw [eq_of_beq q]; exact ho_edit_in.mono (by decide)
    all_goals (first | (cases e; done) | skip)
  intro cdv A outer s' H E hr tk pas
  exact (denss_cons (dens_calm (dens_set (i := 2) sc_shown_value.nd rfl (by first | exact Or.inl rfl | exact Or.inr rfl) (den_if (dent_val (den_callB isi_ok call_isi rfl (He.free_ok KX G (c.fact 9 rfl)) (by decide +kernel) (dena_cons (den_var 0) (dena_cons (den_ty rfl (He.free_ok KX G (c.fact 12 rfl)) (by decide +kernel)) dena_nil)))) (den_callV (hTab_shown_value_reader) hr (by decide) (dena_cons (den_var 0) dena_nil)) den_non)))
    (denss_cons (dens_if (dent_calm (dent_cmp isN_ok op_isN (den_var 2) den_non (nomark _))) (denss_one (dens_raise tk er (by decide +kernel) hr (by decide) rfl (dena_calm (dena_cons (den_var 0) dena_nil)))) denss_nil)
    (denss_one (dens_calm (dens_ret (den_var 2))))))
theorem ok_shown_value (KX : K.In h) (G : h.Ns mainGlobals mg) (c : He.SaysD fa fn K) (er : Errs P w K mg base errCs) (ho_edit_in : Ok P w K mg base 3 "edit_in" 1 F_edit_in) (ho_lines_in : Ok P w K mg base 2 "lines_in" 1 F_lines_in) (ho_state_in : Ok P w K mg base 2 "state_in" 1 F_state_in) : OkE P w K mg base 4 "shown_value" 2 F_shown_value :=
  okE_mk (N := N_shown_value) KX G (c.fact 43 rfl) (c.def_ 18 (d := dD "shown_value" st_shown_value) rfl) sc_shown_value rfl (fun _ _ _ _ _ _ us hl => match us, hl with | [_, _], _ => rfl) (dn_shown_value KX G c er ho_edit_in ho_lines_in ho_state_in)
set_option maxHeartbeats 4000000 in
theorem dn_read_edit (KX : K.In h) (G : h.Ns mainGlobals mg) (c : He.SaysD fa fn K) (er : Errs P w K mg base errCs) (ho_shown_value : OkE P w K mg base 4 "shown_value" 2 F_shown_value) : ∀ (cdv : Value) (A : Around) (outer : List PySem.Env) (s' : Shared) (H : Hp) (E : XK), RoomG 4 (A.deeper (PyProof.Rows.envOfC "read_edit" (defScope st_read_edit) s'.heap.objs.size (He.ga K "read_edit") cdv)) → Takes (cxOf (CX P w) P w K mg base N_read_edit "read_edit" (defScope st_read_edit) (He.ga K "read_edit") cdv A outer s' H E) (BE E) → PassesOwn (model P w) (cxOf (CX P w) P w K mg base N_read_edit "read_edit" (defScope st_read_edit) (He.ga K "read_edit") cdv A outer s' H E).A (cxOf (CX P w) P w K mg base N_read_edit "read_edit" (defScope st_read_edit) (He.ga K "read_edit") cdv A outer s' H E).env (cxOf (CX P w) P w K mg base N_read_edit "read_edit" (defScope st_read_edit) (He.ga K "read_edit") cdv A outer s' H E).xe → DenSs (cxOf (CX P w) P w K mg base N_read_edit "read_edit" (defScope st_read_edit) (He.ga K "read_edit") cdv A outer s' H E) (BE E) (defBody st_read_edit) b_read_edit := by
  intro cdv A outer s' H E hr tk pas
  exact (denss_one (dens_ret (den_callOE tk ho_shown_value hr (by decide) rfl (dena_calm (dena_cons (den_var 0) (dena_cons (den_fn rfl (He.glo_ok KX G (c.fact 14 rfl))) dena_nil))))))
theorem ok_read_edit (KX : K.In h) (G : h.Ns mainGlobals mg) (c : He.SaysD fa fn K) (er : Errs P w K mg base errCs) (ho_shown_value : OkE P w K mg base 4 "shown_value" 2 F_shown_value) : OkE P w K mg base 5 "read_edit" 1 F_read_edit :=
  okE_mk (N := N_read_edit) KX G (c.fact 44 rfl) (c.def_ 19 (d := dD "read_edit" st_read_edit) rfl) sc_read_edit rfl (fun _ _ _ _ _ _ us hl => match us, hl with | [_], _ => rfl) (dn_read_edit KX G c er ho_shown_value)
set_option maxHeartbeats 4000000 in
theorem dn_read_lines (KX : K.In h) (G : h.Ns mainGlobals mg) (c : He.SaysD fa fn K) (er : Errs P w K mg base errCs) (ho_shown_value : OkE P w K mg base 4 "shown_value" 2 F_shown_value) : ∀ (cdv : Value) (A : Around) (outer : List PySem.Env) (s' : Shared) (H : Hp) (E : XK), RoomG 4 (A.deeper (PyProof.Rows.envOfC "read_lines" (defScope st_read_lines) s'.heap.objs.size (He.ga K "read_lines") cdv)) → Takes (cxOf (CX P w) P w K mg base N_read_lines "read_lines" (defScope st_read_lines) (He.ga K "read_lines") cdv A outer s' H E) (BE E) → PassesOwn (model P w) (cxOf (CX P w) P w K mg base N_read_lines "read_lines" (defScope st_read_lines) (He.ga K "read_lines") cdv A outer s' H E).A (cxOf (CX P w) P w K mg base N_read_lines "read_lines" (defScope st_read_lines) (He.ga K "read_lines") cdv A outer s' H E).env (cxOf (CX P w) P w K mg base N_read_lines "read_lines" (defScope st_read_lines) (He.ga K "read_lines") cdv A outer s' H E).xe → DenSs (cxOf (CX P w) P w K mg base N_read_lines "read_lines" (defScope st_read_lines) (He.ga K "read_lines") cdv A outer s' H E) (BE E) (defBody st_read_lines) b_read_lines := by
  intro cdv A outer s' H E hr tk pas
  exact (denss_one (dens_ret (den_callOE tk ho_shown_value hr (by decide) rfl (dena_calm (dena_cons (den_var 0) (dena_cons (den_fn rfl (He.glo_ok KX G (c.fact 25 rfl))) dena_nil))))))
theorem ok_read_lines (KX : K.In h) (G : h.Ns mainGlobals mg) (c : He.SaysD fa fn K) (er : Errs P w K mg base errCs) (ho_shown_value : OkE P w K mg base 4 "shown_value" 2 F_shown_value) : OkE P w K mg base 5 "read_lines" 1 F_read_lines :=
  okE_mk (N := N_read_lines) KX G (c.fact 45 rfl) (c.def_ 20 (d := dD "read_lines" st_read_lines) rfl) sc_read_lines rfl (fun _ _ _ _ _ _ us hl => match us, hl with | [_], _ => rfl) (dn_read_lines KX G c er ho_shown_value)
set_option maxHeartbeats 4000000 in
theorem dn_read_state (KX : K.In h) (G : h.Ns mainGlobals mg) (c : He.SaysD fa fn K) (er : Errs P w K mg base errCs) (ho_shown_value : OkE P w K mg base 4 "shown_value" 2 F_shown_value) : ∀ (cdv : Value) (A : Around) (outer : List PySem.Env) (s' : Shared) (H : Hp) (E : XK), RoomG 4 (A.deeper (PyProof.Rows.envOfC "read_state" (defScope st_read_state) s'.heap.objs.size (He.ga K "read_state") cdv)) → Takes (cxOf (CX P w) P w K mg base N_read_state "read_state" (defScope st_read_state) (He.ga K "read_state") cdv A outer s' H E) (BE E) → PassesOwn (model P w) (cxOf (CX P w) P w K mg base N_read_state "read_state" (defScope st_read_state) (He.ga K "read_state") cdv A outer s' H E).A (cxOf (CX P w) P w K mg base N_read_state "read_state" (defScope st_read_state) (He.ga K "read_state") cdv A outer s' H E).env (cxOf (CX P w) P w K mg base N_read_state "read_state" (defScope st_read_state) (He.ga K "read_state") cdv A outer s' H E).xe → DenSs (cxOf (CX P w) P w K mg base N_read_state "read_state" (defScope st_read_state) (He.ga K "read_state") cdv A outer s' H E) (BE E) (defBody st_read_state) b_read_state := by
  intro cdv A outer s' H E hr tk pas
  exact (denss_one (dens_ret (den_callOE tk ho_shown_value hr (by decide) rfl (dena_calm (dena_cons (den_var 0) (dena_cons (den_fn rfl (He.glo_ok KX G (c.fact 26 rfl))) dena_nil))))))
theorem ok_read_state (KX : K.In h) (G : h.Ns mainGlobals mg) (c : He.SaysD fa fn K) (er : Errs P w K mg base errCs) (ho_shown_value : OkE P w K mg base 4 "shown_value" 2 F_shown_value) : OkE P w K mg base 5 "read_state" 1 F_read_state :=
  okE_mk (N := N_read_state) KX G (c.fact 46 rfl) (c.def_ 21 (d := dD "read_state" st_read_state) rfl) sc_read_state rfl (fun _ _ _ _ _ _ us hl => match us, hl with | [_], _ => rfl) (dn_read_state KX G c er ho_shown_value)
set_option maxHeartbeats 4000000 in
theorem dn_law_told (KX : K.In h) (G : h.Ns mainGlobals mg) (c : He.SaysD fa fn K) (er : Errs P w K mg base errCs) (ho_read_edit : OkE P w K mg base 5 "read_edit" 1 F_read_edit) (ho_read_lines : OkE P w K mg base 5 "read_lines" 1 F_read_lines) (ho_read_state : OkE P w K mg base 5 "read_state" 1 F_read_state) : ∀ (cdv : Value) (A : Around) (outer : List PySem.Env) (s' : Shared) (H : Hp) (E : XK), RoomG 5 (A.deeper (PyProof.Rows.envOfC "_law_told" (defScope st_law_told) s'.heap.objs.size (He.ga K "_law_told") cdv)) → DenSs (cxOf CX0 P w K mg base N_law_told "_law_told" (defScope st_law_told) (He.ga K "_law_told") cdv A outer s' H E).nox B0 (defBody st_law_told) b_law_told := by
  intro cdv A outer s' H E hr
  exact (denss_cons (dens_try er (by decide +kernel) rfl rfl rfl sc_law_told.nd (i := 3) rfl rfl rfl (fun W pn xe tk pas => (denss_one (dens_set (i := 2) sc_law_told.nd rfl (by first | exact Or.inl rfl | exact Or.inr rfl) (den_if (dent_calm (dent_cmp eq_ok (op_eqAll hr.units) (den_var 0) den_int (nomark _))) (den_callOE tk ho_read_state hr (by decide) rfl (dena_calm (dena_cons (den_var 1) dena_nil))) (den_if (dent_calm (dent_cmp eq_ok (op_eqAll hr.units) (den_var 0) den_int (nomark _))) (den_callOE tk ho_read_lines hr (by decide) rfl (dena_calm (dena_cons (den_var 1) dena_nil))) (den_callOE tk ho_read_edit hr (by decide) rfl (dena_calm (dena_cons (den_var 1) dena_nil)))))))) (fun a pn => (denss_one (dens_set (i := 2) sc_law_told.nd rfl (by first | exact Or.inl rfl | exact Or.inr rfl) (den_var 3)))))
    (denss_one (dens_ret (den_var 2))))
theorem ok_law_told (KX : K.In h) (G : h.Ns mainGlobals mg) (c : He.SaysD fa fn K) (er : Errs P w K mg base errCs) (ho_read_edit : OkE P w K mg base 5 "read_edit" 1 F_read_edit) (ho_read_lines : OkE P w K mg base 5 "read_lines" 1 F_read_lines) (ho_read_state : OkE P w K mg base 5 "read_state" 1 F_read_state) : Ok P w K mg base 6 "_law_told" 2 F_law_told :=
  ok_mk (N := N_law_told) KX G (c.fact 47 rfl) (c.def_ 22 (d := dD "_law_told" st_law_told) rfl) sc_law_told rfl (fun _ _ _ _ _ _ us hl => match us, hl with | [_, _], _ => rfl) (dn_law_told KX G c er ho_read_edit ho_read_lines ho_read_state)
set_option maxHeartbeats 4000000 in
theorem dn_show_lines (KX : K.In h) (G : h.Ns mainGlobals mg) (c : He.SaysD fa fn K) (er : Errs P w K mg base errCs) : ∀ (cdv : Value) (A : Around) (outer : List PySem.Env) (s' : Shared) (H : Hp) (E : XK), RoomG 0 (A.deeper (PyProof.Rows.envOfC "show_lines" (defScope st_show_lines) s'.heap.objs.size (He.ga K "show_lines") cdv)) → DenSs (cxOf CX0 P w K mg base N_show_lines "show_lines" (defScope st_show_lines) (He.ga K "show_lines") cdv A outer s' H E).nox B0 (defBody st_show_lines) b_show_lines := by
  intro cdv A outer s' H E hr
  exact (denss_one (dens_ret (den_if (dent_cmp ne_ok (op_neAll hr.units) (den_var 0) (den_tup dena_nil) (nomark _)) (den_bm join_ok PySem.F.plainAttrs_str PySem.F.slot_str_join PySem.F.type_str_join mt_join (den_gstr (z := c_FEED) rfl (He.str_ok KX G (c.fact 16 rfl))) (dena_cons (den_lc (own := [("line", 1)]) nb0 (by decide) rfl sc_show_lines.nd (deni_tup (den_var 0)) (blkOk_by (N := N_show_lines) (sc := defScope st_show_lines) (by decide +kernel)) (fun _ _ _ _ _ => (deng_name 1 sc_show_lines.nd rfl (by first | exact Or.inl rfl | exact Or.inr rfl))) (fun _ _ _ _ _ => dents_nil) (fun _ _ _ _ _ => (den_js (denj_cons (den_fmt (den_gstr (z := c_BAR) rfl (He.str_ok KX G (c.fact 17 rfl)))) (denj_cons (den_fmt (den_var 1)) denj_nil))))) dena_nil) (pe_bm PySem.F.plainAttrs_str PySem.F.slot_str_join PySem.F.type_str_join mt_join (den_gstr (z := c_FEED) rfl (He.str_ok KX G (c.fact 16 rfl))) (dena_cons (den_lc (own := [("line", 1)]) nb0 (by decide) rfl sc_show_lines.nd (deni_tup (den_var 0)) (blkOk_by (N := N_show_lines) (sc := defScope st_show_lines) (by decide +kernel)) (fun _ _ _ _ _ => (deng_name 1 sc_show_lines.nd rfl (by first | exact Or.inl rfl | exact Or.inr rfl))) (fun _ _ _ _ _ => dents_nil) (fun _ _ _ _ _ => (den_js (denj_cons (den_fmt (den_gstr (z := c_BAR) rfl (He.str_ok KX G (c.fact 17 rfl)))) (denj_cons (den_fmt (den_var 1)) denj_nil))))) dena_nil))) (den_gstr (z := c_NONE) rfl (He.str_ok KX G (c.fact 18 rfl))))))
theorem ok_show_lines (KX : K.In h) (G : h.Ns mainGlobals mg) (c : He.SaysD fa fn K) (er : Errs P w K mg base errCs) : Ok P w K mg base 1 "show_lines" 1 F_show_lines :=
  ok_mk (N := N_show_lines) KX G (c.fact 48 rfl) (c.def_ 23 (d := dD "show_lines" st_show_lines) rfl) sc_show_lines rfl (fun _ _ _ _ _ _ us hl => match us, hl with | [_], _ => rfl) (dn_show_lines KX G c er)
set_option maxHeartbeats 4000000 in
theorem dn_show_edit (KX : K.In h) (G : h.Ns mainGlobals mg) (c : He.SaysD fa fn K) (er : Errs P w K mg base errCs) (ho_show_lines : Ok P w K mg base 1 "show_lines" 1 F_show_lines) : ∀ (cdv : Value) (A : Around) (outer : List PySem.Env) (s' : Shared) (H : Hp) (E : XK), RoomG 1 (A.deeper (PyProof.Rows.envOfC "show_edit" (defScope st_show_edit) s'.heap.objs.size (He.ga K "show_edit") cdv)) → DenSs (cxOf CX0 P w K mg base N_show_edit "show_edit" (defScope st_show_edit) (He.ga K "show_edit") cdv A outer s' H E).nox B0 (defBody st_show_edit) b_show_edit := by
  intro cdv A outer s' H E hr
  exact (denss_cons (dens_tg (den_var 0) (deng_tup rfl (deng_cons (deng_name 1 sc_show_edit.nd rfl (by first | exact Or.inl rfl | exact Or.inr rfl)) (deng_cons (deng_name 2 sc_show_edit.nd rfl (by first | exact Or.inl rfl | exact Or.inr rfl)) (deng_cons (deng_name 3 sc_show_edit.nd rfl (by first | exact Or.inl rfl | exact Or.inr rfl)) deng_nil)))))
    (denss_one (dens_ret (den_js (denj_cons (den_fmt (den_var 1)) (denj_cons (den_fmt (den_gstr (z := c_BLANK) rfl (He.str_ok KX G (c.fact 15 rfl)))) (denj_cons (den_fmt (den_var 2)) (denj_cons (den_fmt (den_gstr (z := c_FEED) rfl (He.str_ok KX G (c.fact 16 rfl)))) (denj_cons (den_fmt (den_callO ho_show_lines hr (by decide) rfl (dena_cons (den_var 3) dena_nil))) denj_nil)))))))))
theorem ok_show_edit (KX : K.In h) (G : h.Ns mainGlobals mg) (c : He.SaysD fa fn K) (er : Errs P w K mg base errCs) (ho_show_lines : Ok P w K mg base 1 "show_lines" 1 F_show_lines) : Ok P w K mg base 2 "show_edit" 1 F_show_edit :=
  ok_mk (N := N_show_edit) KX G (c.fact 49 rfl) (c.def_ 24 (d := dD "show_edit" st_show_edit) rfl) sc_show_edit rfl (fun _ _ _ _ _ _ us hl => match us, hl with | [_], _ => rfl) (dn_show_edit KX G c er ho_show_lines)
set_option maxHeartbeats 4000000 in
theorem dn_show_state (KX : K.In h) (G : h.Ns mainGlobals mg) (c : He.SaysD fa fn K) (er : Errs P w K mg base errCs) : ∀ (cdv : Value) (A : Around) (outer : List PySem.Env) (s' : Shared) (H : Hp) (E : XK), RoomG 0 (A.deeper (PyProof.Rows.envOfC "show_state" (defScope st_show_state) s'.heap.objs.size (He.ga K "show_state") cdv)) → DenSs (cxOf CX0 P w K mg base N_show_state "show_state" (defScope st_show_state) (He.ga K "show_state") cdv A outer s' H E).nox B0 (defBody st_show_state) b_show_state := by
  intro cdv A outer s' H E hr
  exact (denss_one (dens_ret (den_bm join_ok PySem.F.plainAttrs_str PySem.F.slot_str_join PySem.F.type_str_join mt_join (den_gstr (z := c_BLANK) rfl (He.str_ok KX G (c.fact 15 rfl))) (dena_cons (den_var 0) dena_nil) (pe_bm PySem.F.plainAttrs_str PySem.F.slot_str_join PySem.F.type_str_join mt_join (den_gstr (z := c_BLANK) rfl (He.str_ok KX G (c.fact 15 rfl))) (dena_cons (den_var 0) dena_nil)))))
theorem ok_show_state (KX : K.In h) (G : h.Ns mainGlobals mg) (c : He.SaysD fa fn K) (er : Errs P w K mg base errCs) : Ok P w K mg base 1 "show_state" 1 F_show_state :=
  ok_mk (N := N_show_state) KX G (c.fact 50 rfl) (c.def_ 25 (d := dD "show_state" st_show_state) rfl) sc_show_state rfl (fun _ _ _ _ _ _ us hl => match us, hl with | [_], _ => rfl) (dn_show_state KX G c er)
set_option maxHeartbeats 4000000 in
theorem dn_law_is_right (KX : K.In h) (G : h.Ns mainGlobals mg) (c : He.SaysD fa fn K) (er : Errs P w K mg base errCs) (ho_law_due : Ok P w K mg base 2 "_law_due" 2 F_law_due) (ho_law_told : Ok P w K mg base 6 "_law_told" 2 F_law_told) (ho_show_edit : Ok P w K mg base 2 "show_edit" 1 F_show_edit) (ho_show_lines : Ok P w K mg base 1 "show_lines" 1 F_show_lines) (ho_show_state : Ok P w K mg base 1 "show_state" 1 F_show_state) : ∀ (cdv : Value) (A : Around) (outer : List PySem.Env) (s' : Shared) (H : Hp) (E : XK), RoomG 6 (A.deeper (PyProof.Rows.envOfC "_law_is_right" (defScope st_law_is_right) s'.heap.objs.size (He.ga K "_law_is_right") cdv)) → DenSs (cxOf CX0 P w K mg base N_law_is_right "_law_is_right" (defScope st_law_is_right) (He.ga K "_law_is_right") cdv A outer s' H E).nox B0 (defBody st_law_is_right) b_law_is_right := by
  intro cdv A outer s' H E hr
  exact (denss_cons (dens_set (i := 2) sc_law_is_right.nd rfl (by first | exact Or.inl rfl | exact Or.inr rfl) (den_callO ho_law_told hr (by decide) rfl (dena_cons (den_var 0) (dena_cons (den_var 1) dena_nil))))
    (denss_cons (dens_if (dent_not (dent_val (den_callO ho_law_due hr (by decide) rfl (dena_cons (den_var 0) (dena_cons (den_var 1) dena_nil))))) (denss_one (dens_ret (den_and (den_callB (isE_okO er) call_isX rfl (He.free_ok KX G (c.fact 9 rfl)) (by decide +kernel) (dena_cons (den_var 2) (dena_cons (den_fn rfl (He.glo_ok KX G (c.fact 11 rfl))) dena_nil))) (den_one (den_cmp eq_ok (op_eqAll hr.units) (den_callB (repr_ok er.sys) (call_repr hr.gd hr.units) rfl (He.free_ok KX G (c.fact 10 rfl)) (by decide +kernel) (dena_cons (den_errVO er (den_var 2)) dena_nil)) (den_callB (repr_ok er.sys) (call_repr hr.gd hr.units) rfl (He.free_ok KX G (c.fact 10 rfl)) (by decide +kernel) (dena_cons (den_var 1) dena_nil)) (nomark _)))))) denss_nil)
    (denss_cons (dens_if (dent_not (dent_val (den_callB isi_ok call_isi rfl (He.free_ok KX G (c.fact 9 rfl)) (by decide +kernel) (dena_cons (den_var 2) (dena_cons (den_ty rfl (He.free_ok KX G (c.fact 8 rfl)) (by decide +kernel)) dena_nil))))) (denss_one (dens_ret den_bl)) denss_nil)
    (denss_cons (dens_set (i := 3) sc_law_is_right.nd rfl (by first | exact Or.inl rfl | exact Or.inr rfl) (den_if (dent_cmp eq_ok (op_eqAll hr.units) (den_var 0) den_int (nomark _)) (den_callO ho_show_state hr (by decide) rfl (dena_cons (den_var 2) dena_nil)) (den_if (dent_cmp eq_ok (op_eqAll hr.units) (den_var 0) den_int (nomark _)) (den_callO ho_show_lines hr (by decide) rfl (dena_cons (den_var 2) dena_nil)) (den_callO ho_show_edit hr (by decide) rfl (dena_cons (den_var 2) dena_nil)))))
    (denss_one (dens_ret (den_cmp eq_ok (op_eqAll hr.units) (den_var 3) (den_var 1) (nomark _))))))))
theorem ok_law_is_right (KX : K.In h) (G : h.Ns mainGlobals mg) (c : He.SaysD fa fn K) (er : Errs P w K mg base errCs) (ho_law_due : Ok P w K mg base 2 "_law_due" 2 F_law_due) (ho_law_told : Ok P w K mg base 6 "_law_told" 2 F_law_told) (ho_show_edit : Ok P w K mg base 2 "show_edit" 1 F_show_edit) (ho_show_lines : Ok P w K mg base 1 "show_lines" 1 F_show_lines) (ho_show_state : Ok P w K mg base 1 "show_state" 1 F_show_state) : Ok P w K mg base 7 "_law_is_right" 2 F_law_is_right :=
  ok_mk (N := N_law_is_right) KX G (c.fact 51 rfl) (c.def_ 26 (d := dD "_law_is_right" st_law_is_right) rfl) sc_law_is_right rfl (fun _ _ _ _ _ _ us hl => match us, hl with | [_, _], _ => rfl) (dn_law_is_right KX G c er ho_law_due ho_law_told ho_show_edit ho_show_lines ho_show_state)
set_option maxHeartbeats 4000000 in
theorem dn_law_pot (KX : K.In h) (G : h.Ns mainGlobals mg) (c : He.SaysD fa fn K) (er : Errs P w K mg base errCs) : ∀ (cdv : Value) (A : Around) (outer : List PySem.Env) (s' : Shared) (H : Hp) (E : XK), RoomG 0 (A.deeper (PyProof.Rows.envOfC "_law_pot" (defScope st_law_pot) s'.heap.objs.size (He.ga K "_law_pot") cdv)) → DenSs (cxOf CX0 P w K mg base N_law_pot "_law_pot" (defScope st_law_pot) (He.ga K "_law_pot") cdv A outer s' H E).nox B0 (defBody st_law_pot) b_law_pot := by
  intro cdv A outer s' H E hr
  exact (denss_cons (dens_set (i := 2) sc_law_pot.nd rfl (by first | exact Or.inl rfl | exact Or.inr rfl) (den_if (dent_cmp lt_ok op_lt (den_var 1) (den_callB len_ok call_len rfl (He.free_ok KX G (c.fact 1 rfl)) (by decide +kernel) (dena_cons (den_var 0) dena_nil)) (nomark _)) (den_ix (den_var 0) (den_var 1)) (den_bin add_ok op_addAll (den_bin mul_ok op_mulAll den_int (den_var 1)) den_int)))
    (denss_cons (dens_set (i := 3) sc_law_pot.nd rfl (by first | exact Or.inl rfl | exact Or.inr rfl) (den_bin mul_ok op_mulAll (den_bin mod_ok op_mod (den_callTy int_ok call_intAll rfl (He.free_ok KX G (c.fact 5 rfl)) (by decide +kernel) (dena_cons (den_callB abs_ok call_abs rfl (He.free_ok KX G (c.fact 27 rfl)) (by decide +kernel) (dena_cons (den_var 2) dena_nil)) dena_nil)) (den_bin pow_ok op_powW (den_bin pow_ok op_powW den_int den_int) den_int)) (den_callTy int_ok call_intAll rfl (He.free_ok KX G (c.fact 5 rfl)) (by decide +kernel) (dena_cons (den_cmp ge_ok op_ge (den_callB abs_ok call_abs rfl (He.free_ok KX G (c.fact 27 rfl)) (by decide +kernel) (dena_cons (den_var 2) dena_nil)) (den_bin pow_ok op_powW den_int den_int) (nomark _)) dena_nil))))
    (denss_cons (dens_set (i := 4) sc_law_pot.nd rfl (by first | exact Or.inl rfl | exact Or.inr rfl) (den_bin add_ok op_addAll (den_bin add_ok op_addAll (den_bin mul_ok op_mulAll (den_bin mod_ok op_mod (den_callTy int_ok call_intAll rfl (He.free_ok KX G (c.fact 5 rfl)) (by decide +kernel) (dena_cons (den_var 2) dena_nil)) den_int) den_int) (den_bin mul_ok op_mulAll (den_bin mul_ok op_mulAll den_int (den_var 1)) (den_var 1))) den_int))
    (denss_one (dens_ret (den_lst (dena_cons (den_var 3) (dena_cons (den_bin mod_ok op_mod (den_callTy int_ok call_intAll rfl (He.free_ok KX G (c.fact 5 rfl)) (by decide +kernel) (dena_cons (den_var 4) dena_nil)) den_int) (dena_cons den_int dena_nil)))))))))
theorem ok_law_pot (KX : K.In h) (G : h.Ns mainGlobals mg) (c : He.SaysD fa fn K) (er : Errs P w K mg base errCs) : Ok P w K mg base 1 "_law_pot" 2 F_law_pot :=
  ok_mk (N := N_law_pot) KX G (c.fact 52 rfl) (c.def_ 27 (d := dD "_law_pot" st_law_pot) rfl) sc_law_pot rfl (fun _ _ _ _ _ _ us hl => match us, hl with | [_, _], _ => rfl) (dn_law_pot KX G c er)
set_option maxHeartbeats 4000000 in
theorem dn_law (KX : K.In h) (G : h.Ns mainGlobals mg) (c : He.SaysD fa fn K) (er : Errs P w K mg base errCs) (ho_law_bent : Ok P w K mg base 3 "_law_bent" 2 F_law_bent) (ho_law_book : Ok P w K mg base 4 "_law_book" 1 F_law_book) (ho_law_drawn : Ok P w K mg base 4 "_law_drawn" 3 F_law_drawn) (ho_law_is_right : Ok P w K mg base 7 "_law_is_right" 2 F_law_is_right) (ho_law_pot : Ok P w K mg base 1 "_law_pot" 2 F_law_pot) (ho_law_take : Ok P w K mg base 1 "_law_take" 2 F_law_take) : ∀ (cdv : Value) (A : Around) (outer : List PySem.Env) (s' : Shared) (H : Hp) (E : XK), RoomG 7 (A.deeper (PyProof.Rows.envOfC "law" (defScope st_law) s'.heap.objs.size (He.ga K "law") cdv)) → DenSs (cxOf CX0 P w K mg base N_law "law" (defScope st_law) (He.ga K "law") cdv A outer s' H E).nox B0 (defBody st_law) b_law := by
  intro cdv A outer s' H E hr
  exact (denss_cons (dens_set (i := 1) sc_law.nd rfl (by first | exact Or.inl rfl | exact Or.inr rfl) (den_lst (dena_cons den_str (dena_cons den_str (dena_cons den_str (dena_cons den_str (dena_cons den_str (dena_cons den_str (dena_cons den_str (dena_cons den_str (dena_cons den_str (dena_cons den_str (dena_cons den_str (dena_cons den_str (dena_cons den_str (dena_cons den_str dena_nil))))))))))))))))
    (denss_cons (dens_set (i := 1) sc_law.nd rfl (by first | exact Or.inl rfl | exact Or.inr rfl) (den_bin add_ok op_addAll (den_var 1) (den_lst (dena_cons den_str (dena_cons den_str (dena_cons den_str (dena_cons den_str (dena_cons den_str (dena_cons den_str (dena_cons den_str (dena_cons den_non (dena_cons den_bl (dena_cons den_int dena_nil)))))))))))))
    (denss_cons (dens_set (i := 2) sc_law.nd rfl (by first | exact Or.inl rfl | exact Or.inr rfl) (den_bin mul_ok op_mulAll den_str den_int))
    (denss_cons (dens_set (i := 1) sc_law.nd rfl (by first | exact Or.inl rfl | exact Or.inr rfl) (den_bin add_ok op_addAll (den_var 1) (den_lst (dena_cons (den_bin add_ok op_addAll (den_var 2) den_str) (dena_cons (den_bin add_ok op_addAll (den_bin add_ok op_addAll den_str (den_var 2)) den_str) (dena_cons (den_var 2) (dena_cons (den_bin add_ok op_addAll den_str (den_var 2)) (dena_cons (den_bin mul_ok op_mulAll den_str den_int) dena_nil))))))))
    (denss_cons (dens_for PassesOwn.never rfl (deni_lst (den_bin add_ok op_addAll (den_var 1) (den_lst (dena_cons (den_tup dena_nil) (dena_cons (den_lst dena_nil) (dena_cons den_dnew (dena_cons (den_tup (dena_cons den_str dena_nil)) (dena_cons (den_lst (dena_cons den_str dena_nil)) (dena_cons (den_tup (dena_cons den_str dena_nil)) dena_nil))))))))) (deng_name 3 sc_law.nd rfl (by first | exact Or.inl rfl | exact Or.inr rfl)) (denss_one (dens_if (dent_not (dent_val (den_callB all_ok (cr_all rfl) rfl (He.free_ok KX G (c.fact 4 rfl)) (by decide +kernel) (dena_cons (den_lc (own := [("_law_way", 8)]) nb0 (by decide) rfl sc_law.nd (deni_rng1 rfl (He.free_ok KX G (c.fact 0 rfl)) (dena_cons den_int dena_nil)) (blkOk_by (N := N_law) (sc := defScope st_law) (by decide +kernel)) (fun _ _ _ _ _ => (deng_name 8 sc_law.nd rfl (by first | exact Or.inl rfl | exact Or.inr rfl))) (fun _ _ _ _ _ => dents_nil) (fun _ _ _ _ _ => (den_callO ho_law_is_right hr (by decide) rfl (dena_cons (den_var 8) (dena_cons (den_var 3) dena_nil))))) dena_nil)))) (denss_one (dens_ret den_bl)) denss_nil)))
    (denss_cons (dens_for PassesOwn.never rfl (deni_rng1 rfl (He.free_ok KX G (c.fact 0 rfl)) (dena_cons (den_callB max2_ok (call_max2 rfl) rfl (He.free_ok KX G (c.fact 3 rfl)) (by decide +kernel) (dena_cons den_int (dena_cons (den_callB min2_ok (call_min2 rfl) rfl (He.free_ok KX G (c.fact 2 rfl)) (by decide +kernel) (dena_cons den_int (dena_cons (den_callB len_ok call_len rfl (He.free_ok KX G (c.fact 1 rfl)) (by decide +kernel) (dena_cons (den_var 0) dena_nil)) dena_nil))) dena_nil))) dena_nil)) (deng_name 4 sc_law.nd rfl (by first | exact Or.inl rfl | exact Or.inr rfl)) (denss_cons (dens_set (i := 5) sc_law.nd rfl (by first | exact Or.inl rfl | exact Or.inr rfl) (den_callO ho_law_pot hr (by decide) rfl (dena_cons (den_var 0) (dena_cons (den_var 4) dena_nil))))
    (denss_cons (dens_set (i := 6) sc_law.nd rfl (by first | exact Or.inl rfl | exact Or.inr rfl) (den_callO ho_law_book hr (by decide) rfl (dena_cons (den_var 5) dena_nil)))
    (denss_one (dens_for PassesOwn.never rfl (deni_rng1 rfl (He.free_ok KX G (c.fact 0 rfl)) (dena_cons den_int dena_nil)) (deng_name 7 sc_law.nd rfl (by first | exact Or.inl rfl | exact Or.inr rfl)) (denss_cons (dens_set (i := 8) sc_law.nd rfl (by first | exact Or.inl rfl | exact Or.inr rfl) (den_callO ho_law_take hr (by decide) rfl (dena_cons (den_var 5) (dena_cons den_int dena_nil))))
    (denss_cons (dens_set (i := 9) sc_law.nd rfl (by first | exact Or.inl rfl | exact Or.inr rfl) (den_callO ho_law_bent hr (by decide) rfl (dena_cons (den_var 5) (dena_cons (den_callO ho_law_drawn hr (by decide) rfl (dena_cons (den_var 5) (dena_cons (den_var 6) (dena_cons (den_var 8) dena_nil)))) dena_nil))))
    (denss_cons (dens_set (i := 9) sc_law.nd rfl (by first | exact Or.inl rfl | exact Or.inr rfl) (den_if (dent_cmp eq_ok (op_eqAll hr.units) (den_callO ho_law_take hr (by decide) rfl (dena_cons (den_var 5) (dena_cons den_int dena_nil))) den_int (nomark _)) (den_callO ho_law_bent hr (by decide) rfl (dena_cons (den_var 5) (dena_cons (den_var 9) dena_nil))) (den_var 9)))
    (denss_one (dens_if (dent_not (dent_val (den_callO ho_law_is_right hr (by decide) rfl (dena_cons (den_var 8) (dena_cons (den_var 9) dena_nil))))) (denss_one (dens_ret den_bl)) denss_nil))))))))))
    (denss_one (dens_ret den_bl))))))))
theorem ok_law (KX : K.In h) (G : h.Ns mainGlobals mg) (c : He.SaysD fa fn K) (er : Errs P w K mg base errCs) (ho_law_bent : Ok P w K mg base 3 "_law_bent" 2 F_law_bent) (ho_law_book : Ok P w K mg base 4 "_law_book" 1 F_law_book) (ho_law_drawn : Ok P w K mg base 4 "_law_drawn" 3 F_law_drawn) (ho_law_is_right : Ok P w K mg base 7 "_law_is_right" 2 F_law_is_right) (ho_law_pot : Ok P w K mg base 1 "_law_pot" 2 F_law_pot) (ho_law_take : Ok P w K mg base 1 "_law_take" 2 F_law_take) : Ok P w K mg base 8 "law" 1 F_law :=
  ok_mk (N := N_law) KX G (c.fact 53 rfl) (c.def_ 28 (d := dD "law" st_law) rfl) sc_law rfl (fun _ _ _ _ _ _ us hl => match us, hl with | [_], _ => rfl) (dn_law KX G c er ho_law_bent ho_law_book ho_law_drawn ho_law_is_right ho_law_pot ho_law_take)
theorem law_fn (er : Errs P w K mg base errCs) (KX : K.In h) (G : h.Ns mainGlobals mg) (c : He.SaysD fa fn K) {fd : FuncData} (F : FunD K "law" "law" (defArgs st_law) (defBody st_law) (defScope st_law) [] [] (He.ga K "law") fd) : FnG P w K mg base lawLevel (He.ga K "law") fd ["_law_script"] (spF K 1 F_law) := by
  have o_law_take := ok_law_take (P := P) (w := w) (base := base) KX G c er 
  have o_law_of := ok_law_of (P := P) (w := w) (base := base) KX G c er o_law_take
  have o_law_bent := ok_law_bent (P := P) (w := w) (base := base) KX G c er o_law_of o_law_take
  have o_law_deed := ok_law_deed (P := P) (w := w) (base := base) KX G c er o_law_of
  have o_law_book := ok_law_book (P := P) (w := w) (base := base) KX G c er o_law_deed o_law_of o_law_take
  have o_law_signs := ok_law_signs (P := P) (w := w) (base := base) KX G c er 
  have o_law_line := ok_law_line (P := P) (w := w) (base := base) KX G c er o_law_of o_law_signs o_law_take
  have o_law_drawn := ok_law_drawn (P := P) (w := w) (base := base) KX G c er o_law_line o_law_of o_law_take
  have o_law_is_lines := ok_law_is_lines (P := P) (w := w) (base := base) KX G c er 
  have o_law_is_name := ok_law_is_name (P := P) (w := w) (base := base) KX G c er 
  have o_law_is_number := ok_law_is_number (P := P) (w := w) (base := base) KX G c er 
  have o_law_due := ok_law_due (P := P) (w := w) (base := base) KX G c er o_law_is_lines o_law_is_name o_law_is_number
  have o_is_line := ok_is_line (P := P) (w := w) (base := base) KX G c er 
  have o_lines_in := ok_lines_in (P := P) (w := w) (base := base) KX G c er o_is_line
  have o_number_in := ok_number_in (P := P) (w := w) (base := base) KX G c er 
  have o_edit_in := ok_edit_in (P := P) (w := w) (base := base) KX G c er o_lines_in o_number_in
  have o_is_name := ok_is_name (P := P) (w := w) (base := base) KX G c er 
  have o_state_in := ok_state_in (P := P) (w := w) (base := base) KX G c er o_is_name
  have o_shown_value := ok_shown_value (P := P) (w := w) (base := base) KX G c er o_edit_in o_lines_in o_state_in
  have o_read_edit := ok_read_edit (P := P) (w := w) (base := base) KX G c er o_shown_value
  have o_read_lines := ok_read_lines (P := P) (w := w) (base := base) KX G c er o_shown_value
  have o_read_state := ok_read_state (P := P) (w := w) (base := base) KX G c er o_shown_value
  have o_law_told := ok_law_told (P := P) (w := w) (base := base) KX G c er o_read_edit o_read_lines o_read_state
  have o_show_lines := ok_show_lines (P := P) (w := w) (base := base) KX G c er 
  have o_show_edit := ok_show_edit (P := P) (w := w) (base := base) KX G c er o_show_lines
  have o_show_state := ok_show_state (P := P) (w := w) (base := base) KX G c er 
  have o_law_is_right := ok_law_is_right (P := P) (w := w) (base := base) KX G c er o_law_due o_law_told o_show_edit o_show_lines o_show_state
  have o_law_pot := ok_law_pot (P := P) (w := w) (base := base) KX G c er 
  exact fn_ok F sc_law (dn_law KX G c er o_law_bent o_law_book o_law_drawn o_law_is_right o_law_pot o_law_take)
abbrev lawFact : Nat := 53
abbrev lawDef : Nat := 28
end
end Pg
end MP
set_option Elab.async false
set_option linter.all false
set_option maxRecDepth 100000
set_option maxHeartbeats 2000000
namespace MP
open PySem PySem.Spec L2
def inC (z s : Str) : Bool := (s.cps.toList.map fun c => decide (c ∈ z.cps.toList)).all id
def gIn (z : Str) : D → D
  | .str a => .bl (decide (a.cps.toList.headD 0 ∈ z.cps.toList))
  | d => d
theorem gIn_map (z : Str) (cs : List Nat) : (((cs.map fun x => D.str ⟨#[x]⟩).filter fun _ => true).map (gIn z)) = (cs.map fun c => decide (c ∈ z.cps.toList)).map D.bl := by
  rw [filter_yes, List.map_map, List.map_map]; rfl
/-- all signs of s are of z, as the program asks -/
theorem all_in {elt : M} {env : Env} {j i : Nat} {s z : Str} {h : MH} (e : mVar i env h = .ok (.str s) h) (hj : j < env.length) (he : ∀ x h', elt ((env.set j none).set j (some (.str ⟨#[x]⟩))) h' = .ok (.bl (decide (x ∈ z.cps.toList))) h') (hl : s.length ≤ sizeLine) :
    ∃ n h', mLc (iS (mVar i)) (.nm j) bYes elt [j] env h = .ok (.loc n) h' ∧ bAll [.loc n] h' = .ok (.bl (inC z s)) h' ∧ Gr h h' := by
  obtain ⟨n, h2, e2, q, G, _⟩ := lc_str (tg := .nm j) (vs := [j]) (cond := bYes) (elt := elt) (fun _ => true) (gIn z) e hl
    (fun x _ h' _ => ⟨_, rfl, h', rfl, Gr.refl, fun _ => ⟨h', he x h', Gr.refl⟩⟩)
  exact ⟨n, h2, e2, all_lst q (gIn_map z _), G⟩
def nameB (s : Str) : Bool := decide (1 ≤ s.length) && (decide (s.length ≤ 8) && inC Pg.c_LETTERS s)
theorem is_name_g (s : Str) (hl : s.length ≤ sizeLine) (h : MH) : ∃ h', Pg.F_is_name [.str s] h = .ok (.bl (nameB s)) h' ∧ Gr h h' := by
  obtain ⟨n, h2, e, q, G⟩ := all_in (elt := Pg.m_is_name_1) (env := [some (.str s), none]) (j := 1) (i := 0) (s := s) (z := Pg.c_LETTERS) (h := h) rfl (by simp) (fun x h' => by simp [Pg.m_is_name_1]) hl
  by_cases h1 : 1 ≤ s.length
  · have c1 : (1 : Int) ≤ s.length := by omega
    by_cases h8 : s.length ≤ 8
    · have c2 : (s.length : Int) ≤ 8 := by omega
      refine ⟨h2, ?_, G⟩
      simp only [Pg.F_is_name, Pg.b_is_name]
      simp [-e_mLc, hl, c1, c2, e, q, nameB, h1, h8]
    · have c2 : ¬ (s.length : Int) ≤ 8 := by omega
      refine ⟨h, ?_, Gr.refl⟩
      simp only [Pg.F_is_name, Pg.b_is_name]
      simp [-e_mLc, hl, c1, c2, nameB, h1, h8]
  · have c1 : ¬ (1 : Int) ≤ s.length := by omega
    refine ⟨h, ?_, Gr.refl⟩
    simp only [Pg.F_is_name, Pg.b_is_name]
    simp [-e_mLc, hl, c1, nameB, h1]
def lineB (s : Str) : Bool := inC Pg.c_SIGNS s
theorem is_line_g (s : Str) (hl : s.length ≤ sizeLine) (h : MH) : ∃ h', Pg.F_is_line [.str s] h = .ok (.bl (lineB s)) h' ∧ Gr h h' := by
  obtain ⟨n, h2, e, q, G⟩ := all_in (elt := Pg.m_is_line_1) (env := [some (.str s), none]) (j := 1) (i := 0) (s := s) (z := Pg.c_SIGNS) (h := h) rfl (by simp) (fun x h' => by simp [Pg.m_is_line_1]) hl
  refine ⟨h2, ?_, G⟩
  simp only [Pg.F_is_line, Pg.b_is_line]
  simp [-e_mLc, e, q, lineB]
/-- a number's text: what it is read as -/
def numB (s : Str) : Bool := decide (1 ≤ s.length) && (decide (s.length ≤ 9) && (inC Pg.c_DIGITS s && (decide (s = "0") || decide (s.cps.toList.headD 0 ≠ 48))))
theorem head_eq {s : Str} (h1 : 1 ≤ s.length) : atI s.cps.toList 0 = some (s.cps.toList.headD 0) := by
  cases q : s.cps.toList with
  | nil => simp [Str.length, ← Array.length_toList, q] at h1
  | cons a r => rw [atI0]; rfl
theorem dv_snoc (r : List Nat) (d : Nat) : NumText.digitsVal (r ++ [d]) = NumText.digitsVal r * 10 + (d - 48) := by simp [NumText.digitsVal, List.foldl_append]
theorem num_back : ∀ (k : Nat) (l : List Nat), l.length = k → NumText.AllDigits l → l ≠ [] → l.headD 0 ≠ 48 → TL.numL (NumText.digitsVal l) = l ∧ 1 ≤ NumText.digitsVal l
  | 0, l, e, _, hn, _ => by simp at e; exact absurd e hn
  | k + 1, l, e, hd, hn, hh => by
    obtain ⟨r, d, rfl⟩ : ∃ r d, l = r ++ [d] := ⟨l.dropLast, l.getLast hn, (List.dropLast_concat_getLast hn).symm⟩
    have d1 := hd d (by simp)
    rw [dv_snoc]
    by_cases hr : r = []
    · subst hr
      simp at hh
      have e0 : NumText.digitsVal [] = 0 := rfl
      rw [e0, TL.numL_lt (by omega)]
      exact ⟨by simp; omega, by omega⟩
    · have ih := num_back k r (by simpa using e) (fun c hc => hd c (by simp [hc])) hr (by cases r with | nil => exact absurd rfl hr | cons a t => simpa using hh)
      have v1 := ih.2
      rw [TL.numL_step (by omega)]
      have q1 : (NumText.digitsVal r * 10 + (d - 48)) / 10 = NumText.digitsVal r := by omega
      have q2 : 48 + (NumText.digitsVal r * 10 + (d - 48)) % 10 = d := by omega
      rw [q1, q2, ih.1]
      exact ⟨rfl, by omega⟩
theorem dg_iff (c : Nat) : c ∈ Pg.c_DIGITS.cps.toList ↔ 48 ≤ c ∧ c ≤ 57 := by
  have e : Pg.c_DIGITS.cps.toList = [48, 49, 50, 51, 52, 53, 54, 55, 56, 57] := by decide +kernel
  rw [e]; simp; omega
theorem inC_iff {z s : Str} : inC z s = true ↔ ∀ c ∈ s.cps.toList, c ∈ z.cps.toList := by
  unfold inC; rw [List.all_eq_true]; simp
theorem numB_iff {s : Str} : numB s = true ↔ (1 ≤ s.length ∧ s.length ≤ 9) ∧ NumText.AllDigits s.cps.toList ∧ (s = "0" ∨ s.cps.toList.headD 0 ≠ 48) := by
  unfold numB
  simp only [Bool.and_eq_true, Bool.or_eq_true, decide_eq_true_eq, inC_iff, NumText.AllDigits, dg_iff]
  constructor
  · rintro ⟨a, b, c, d⟩; exact ⟨⟨a, b⟩, c, d⟩
  · rintro ⟨⟨a, b⟩, c, d⟩; exact ⟨a, b, c, d⟩
theorem digits_val {s : Str} (h : numB s = true) : ∃ n : Nat, PySem.intText? s = some (n : Int) ∧ TL.numL n = s.cps.toList := by
  obtain ⟨⟨h1, h9⟩, hd, hz⟩ := numB_iff.mp h
  have ne : s.cps.toList ≠ [] := fun e => by simp [Str.length, ← Array.length_toList, e] at h1
  refine ⟨_, PySem.intText_digits hd ne (by omega), ?_⟩
  rcases hz with rfl | hz
  · decide +kernel
  · exact (num_back _ _ rfl hd ne hz).1
theorem sg_eq {c d : Nat} : ((⟨#[c]⟩ : Str) = ⟨#[d]⟩) ↔ c = d := by
  constructor
  · intro h; injection h with h; simpa using h
  · rintro rfl; rfl
theorem zero_sg : ("0" : Str) = ⟨#[48]⟩ := rfl
theorem bInt_num {s : Str} {n : Nat} (hn : PySem.intText? s = some (n : Int)) (hl : s.length ≤ 640) (h : MH) : bInt [.str s] h = .ok (.int n) h := by
  show (match intText? s with
      | some n' => if s.length ≤ 640 then R.ok (D.int n') h else .no
      | none => .no) = _
  rw [hn]
  exact if_pos hl
theorem number_in_g (s : Str) (hl : s.length ≤ sizeLine) (h : MH) : (numB s = false ∧ ∃ h', Pg.F_number_in [.str s] h = .ok .non h' ∧ Gr h h') ∨ (numB s = true ∧ ∃ n : Nat, PySem.intText? s = some (n : Int) ∧ TL.numL n = s.cps.toList ∧ ∃ h', Pg.F_number_in [.str s] h = .ok (.int n) h' ∧ Gr h h') := by
  obtain ⟨n, h2, e, q, G⟩ := all_in (elt := Pg.m_number_in_1) (env := [some (.str s), none]) (j := 1) (i := 0) (s := s) (z := Pg.c_DIGITS) (h := h) rfl (by simp) (fun x h' => by simp [Pg.m_number_in_1]) hl
  by_cases h1 : 1 ≤ s.length
  · have c1 : (1 : Int) ≤ s.length := by omega
    by_cases h8 : s.length ≤ 9
    · have c2 : (s.length : Int) ≤ 9 := by omega
      by_cases hd : inC Pg.c_DIGITS s = true
      · have h0 := head_eq h1
        have c3 : s.length ≤ 640 := by omega
        by_cases hz : s = "0" ∨ s.cps.toList.headD 0 ≠ 48
        · right
          have nb : numB s = true := numB_iff.mpr ⟨⟨h1, h8⟩, fun c hc => (dg_iff c).mp (inC_iff.mp hd c hc), hz⟩
          obtain ⟨m, hm, hm2⟩ := digits_val nb
          refine ⟨nb, m, hm, hm2, h2, ?_, G⟩
          have bi := bInt_num hm c3 h2
          by_cases hz1 : s = "0"
          · simp only [Pg.F_number_in, Pg.b_number_in]
            simp [-e_mLc, hl, c1, c2, e, q, hd]
            simp [hz1]
            rw [← hz1, bi]
            rfl
          · have hz2 := hz.resolve_left hz1
            have hz3 : ¬ ((⟨#[s.cps.toList.headD 0]⟩ : Str) = "0") := by rw [zero_sg, sg_eq]; exact hz2
            simp only [Pg.F_number_in, Pg.b_number_in]
            simp [-e_mLc, -List.headD_eq_head?_getD, hl, c1, c2, e, q, hd, hz1, h0, hz3, bi]
        · left
          have hz1 : ¬ s = "0" := fun z => hz (.inl z)
          have hz2 : s.cps.toList.headD 0 = 48 := Classical.not_not.mp fun z => hz (.inr z)
          have hz3 : (⟨#[s.cps.toList.headD 0]⟩ : Str) = "0" := by rw [hz2]; rfl
          refine ⟨Bool.eq_false_iff.mpr fun z => hz (numB_iff.mp z).2.2, h2, ?_, G⟩
          simp only [Pg.F_number_in, Pg.b_number_in]
          simp [-e_mLc, -List.headD_eq_head?_getD, hl, c1, c2, e, q, hd, hz1, h0, hz3]
      · left
        have hd' : inC Pg.c_DIGITS s = false := by simpa using hd
        refine ⟨by simp [numB, hd'], h2, ?_, G⟩
        simp only [Pg.F_number_in, Pg.b_number_in]
        simp [-e_mLc, hl, c1, c2, e, q, hd']
    · left
      have c2 : ¬ (s.length : Int) ≤ 9 := by omega
      refine ⟨by simp [numB, h8], h, ?_, Gr.refl⟩
      simp only [Pg.F_number_in, Pg.b_number_in]
      simp [-e_mLc, hl, c1, c2]
  · left
    have c1 : ¬ (1 : Int) ≤ s.length := by omega
    refine ⟨by simp [numB, h1], h, ?_, Gr.refl⟩
    simp only [Pg.F_number_in, Pg.b_number_in]
    simp [-e_mLc, hl, c1]
end MP
set_option Elab.async false
set_option linter.all false
set_option maxRecDepth 100000
set_option maxHeartbeats 2000000
/-! T1: texts split at one sign, joined, cut. -/
namespace MP
open PySem PySem.Spec L2
theorem pre1 (c x : Nat) (r : List Nat) : TL.pre [c] (x :: r) = decide (x = c) := by
  unfold TL.pre
  by_cases h : x = c
  · simp [h]
  · simp [h]
theorem spl1_cons (c x : Nat) (acc r : List Nat) : TL.spl [c] 0 acc (x :: r) = if x = c then acc :: TL.spl [c] 0 [] r else TL.spl [c] 0 (acc ++ [x]) r := by
  by_cases h : x = c
  · rw [TL.spl_hit (by rw [pre1]; simpa using h), if_pos h]; rfl
  · rw [TL.spl_miss (by rw [pre1]; simpa using h), if_neg h]
theorem spl1_ne (c : Nat) : ∀ (l acc : List Nat), TL.spl [c] 0 acc l ≠ []
  | [], acc => by rw [TL.spl_nil]; simp
  | x :: r, acc => by
    rw [spl1_cons]
    split
    · simp
    · exact spl1_ne c r _
theorem spl1_join (c : Nat) : ∀ (l acc : List Nat), TL.joinL [c] (TL.spl [c] 0 acc l) = acc ++ l
  | [], acc => by rw [TL.spl_nil]; simp [TL.joinL]
  | x :: r, acc => by
    rw [spl1_cons]
    split
    · rename_i h
      have ih := spl1_join c r []
      cases q : TL.spl [c] 0 [] r with
      | nil => exact absurd q (spl1_ne c r [])
      | cons p t =>
        rw [q] at ih
        show acc ++ ([c] ++ TL.joinL [c] (p :: t)) = _
        rw [ih, h]; rfl
    · rw [spl1_join c r _]; simp
theorem spl1_mem (c : Nat) : ∀ (l acc p : List Nat), c ∉ acc → p ∈ TL.spl [c] 0 acc l → p.length ≤ acc.length + l.length ∧ ∀ x ∈ p, x ≠ c ∧ (x ∈ acc ∨ x ∈ l)
  | [], acc, p, ha, hp => by
    rw [TL.spl_nil] at hp
    obtain rfl := List.mem_singleton.mp hp
    exact ⟨by simp, fun x hx => ⟨fun e => ha (e ▸ hx), .inl hx⟩⟩
  | x :: r, acc, p, ha, hp => by
    rw [spl1_cons] at hp
    split at hp
    · rcases List.mem_cons.mp hp with rfl | hp
      · exact ⟨by simp, fun x hx => ⟨fun e => ha (e ▸ hx), .inl hx⟩⟩
      · obtain ⟨h1, h2⟩ := spl1_mem c r [] p (by simp) hp
        refine ⟨by simp at h1 ⊢; omega, fun y hy => ⟨(h2 y hy).1, .inr ?_⟩⟩
        rcases (h2 y hy).2 with z | z
        · simp at z
        · simp [z]
    · rename_i hx
      obtain ⟨h1, h2⟩ := spl1_mem c r (acc ++ [x]) p (by simp [ha]; exact fun e => hx e.symm) hp
      refine ⟨by simp at h1 ⊢; omega, fun y hy => ⟨(h2 y hy).1, ?_⟩⟩
      rcases (h2 y hy).2 with z | z
      · rcases List.mem_append.mp z with z | z
        · exact .inl z
        · exact .inr (by simp at z; simp [z])
      · exact .inr (by simp [z])
theorem spl1_len (c : Nat) : ∀ (l acc : List Nat), (TL.spl [c] 0 acc l).length ≤ l.length + 1
  | [], acc => by rw [TL.spl_nil]; simp
  | x :: r, acc => by
    rw [spl1_cons]
    split
    · have := spl1_len c r []; simp; omega
    · have := spl1_len c r (acc ++ [x]); simp; omega
/-- a text of one sign -/
structure Sep (y : Str) (c : Nat) : Prop where
  tl : TL.tl y = [c]
  k : y.cps.all (· < 256) = true
theorem sep_sp : Sep " " 32 := ⟨rfl, by decide +kernel⟩
theorem sep_nl : Sep "\n" 10 := ⟨rfl, by decide +kernel⟩
section
variable {y s : Str} {c : Nat}
theorem split_tl (S : Sep y c) (s : Str) : (Txt.split s y).map TL.tl = TL.spl [c] 0 [] (TL.tl s) := by
  rw [TL.split_spl s y (by rw [S.tl]; simp) (TL.kind_ok S.k), S.tl]
theorem split_ne (S : Sep y c) (s : Str) : Txt.split s y ≠ [] := fun e => by
  have := split_tl S s
  rw [e] at this
  exact spl1_ne c _ _ this.symm
theorem join_split (S : Sep y c) (s : Str) : Txt.join y (Txt.split s y) = s := by
  refine TL.ext_tl ?_
  rw [TL.join_eq, TL.tl_join, split_tl S, S.tl, spl1_join]; simp
theorem split_mem (S : Sep y c) {p : Str} (h : p ∈ Txt.split s y) : p.length ≤ s.length ∧ ∀ x ∈ TL.tl p, x ≠ c ∧ x ∈ TL.tl s := by
  have hm : TL.tl p ∈ TL.spl [c] 0 [] (TL.tl s) := by rw [← split_tl S]; exact List.mem_map_of_mem h
  obtain ⟨h1, h2⟩ := spl1_mem c _ _ _ (by simp) hm
  refine ⟨by rw [TL.len_tl, TL.len_tl]; simpa using h1, fun x hx => ⟨(h2 x hx).1, ?_⟩⟩
  rcases (h2 x hx).2 with z | z
  · simp at z
  · exact z
theorem split_len (S : Sep y c) (s : Str) : (Txt.split s y).length ≤ s.length + 1 := by
  have := spl1_len c (TL.tl s) []
  rw [← split_tl S, List.length_map] at this
  rw [TL.len_tl]; exact this
theorem fSplit_ok (S : Sep y c) (hl : s.length + 2 ≤ sizeLine) (h : MH) : fSplit (.str s) [.str y] h = .ok (.loc h.length) (h ++ [.lst ((Txt.split s y).map D.str)]) := by
  show (if (y.length == 0) = false ∧ s.length + 2 ≤ sizeLine then newL ((Txt.split s y).map D.str) h else .no) = _
  rw [if_pos ⟨by rw [TL.len_tl, S.tl]; rfl, hl⟩]; rfl
end
theorem split_ex {y s : Str} {c : Nat} (S : Sep y c) (hl : s.length + 2 ≤ sizeLine) (h : MH) : ∃ n h', fSplit (.str s) [.str y] h = .ok (.loc n) h' ∧ h'[n]? = some (.lst ((Txt.split s y).map D.str)) ∧ Gr h h' :=
  ⟨_, _, fSplit_ok S hl h, get_new _ _, Gr.app⟩
/-! ### cuts -/
theorem tl_from (s : Str) (n : Nat) : TL.tl (cutS s (some (n : Int)) none) = (TL.tl s).drop n := by
  show (((s.cps.toList.drop (HT.sIx s.length 0 (some (n : Int)))).take (HT.sIx s.length s.length none - HT.sIx s.length 0 (some (n : Int)))).toArray.toList) = _
  rw [HT.sIx_nat, HT.sIx_none, TL.len_tl]
  by_cases h : n ≤ (TL.tl s).length
  · rw [Nat.min_eq_left h]
    simp only
    rw [List.take_of_length_le (by simp)]
  · have h' : (TL.tl s).length ≤ n := by omega
    rw [Nat.min_eq_right h']
    simp
    simpa [TL.tl] using h'
theorem tl_to (s : Str) (n : Nat) : TL.tl (cutS s none (some (n : Int))) = (TL.tl s).take n := by
  show (((s.cps.toList.drop (HT.sIx s.length 0 none)).take (HT.sIx s.length s.length (some (n : Int)) - HT.sIx s.length 0 none)).toArray.toList) = _
  rw [HT.sIx_nat, HT.sIx_none, TL.len_tl]
  simp only [List.drop_zero, Nat.sub_zero]
  exact (List.take_eq_take_iff.mpr (by simp))
theorem cutD_from (ds : List D) (n : Nat) : cutD ds (some (n : Int)) none = ds.drop n := by
  unfold cutD
  rw [HT.sIx_nat, HT.sIx_none]
  by_cases h : n ≤ ds.length
  · rw [Nat.min_eq_left h, List.take_of_length_le (by simp)]
  · have h' : ds.length ≤ n := by omega
    rw [Nat.min_eq_right h']
    simp [h']
theorem cutD_to (ds : List D) (n : Nat) : cutD ds none (some (n : Int)) = ds.take n := by
  unfold cutD
  rw [HT.sIx_nat, HT.sIx_none]
  simp only [List.drop_zero, Nat.sub_zero]
  exact (List.take_eq_take_iff.mpr (by simp))
theorem starts_pre (s y : Str) : Txt.startswith s y = TL.pre (TL.tl y) (TL.tl s) := by
  unfold Txt.startswith TL.pre
  rw [StrLaws.subAt_eq, List.drop_zero, TL.len_tl y, TL.len_tl s]
  by_cases h : (TL.tl y).length ≤ (TL.tl s).length
  · simp only [Nat.zero_add, h, decide_true, Bool.true_and]
  · have h1 : ((TL.tl s).take (TL.tl y).length == TL.tl y) = false := by
      refine Bool.eq_false_iff.mpr fun z => h ?_
      have e := congrArg List.length (eq_of_beq z)
      rw [List.length_take] at e; omega
    rw [h1]; simp
theorem starts1 (s : Str) {y : Str} {c : Nat} (S : Sep y c) : Txt.startswith s y = decide ((TL.tl s).head? = some c) := by
  rw [starts_pre, S.tl]
  cases TL.tl s with
  | nil => rfl
  | cons x r => rw [pre1]; simp
theorem fSl_str {s : Str} (hl : s.length ≤ sizeLine) (lo hi : Option Int) (h : MH) : fSl (.str s) lo hi h = .ok (.str (cutS s lo hi)) h := if_pos hl
theorem cut_len (s : Str) (n : Nat) : (cutS s (some (n : Int)) none).length ≤ s.length := by
  rw [TL.len_tl, TL.len_tl, tl_from]; simp
/-! ### a text cut at its first sign c -/
theorem cut_cases {y : Str} {c : Nat} (S : Sep y c) (s : Str) : c ∉ TL.tl s ∨ ∃ a b : Str, s = a ++ y ++ b ∧ c ∉ TL.tl a := by
  by_cases h : c ∈ TL.tl s
  · right
    obtain ⟨l, m, e, hn⟩ := List.append_of_mem_not h
    refine ⟨⟨l.toArray⟩, ⟨m.toArray⟩, TL.ext_tl ?_, hn⟩
    rw [TL.tl_append, TL.tl_append, S.tl, e]
    simp
  · exact .inl h
where List.append_of_mem_not : ∀ {l : List Nat}, c ∈ l → ∃ a b, l = a ++ c :: b ∧ c ∉ a
  | [], h => by simp at h
  | x :: r, h => by
    by_cases hx : x = c
    · exact ⟨[], r, by simp [hx], by simp⟩
    · obtain ⟨a, b, e, hn⟩ := List.append_of_mem_not (l := r) (by simpa [Ne.symm hx] using h)
      exact ⟨x :: a, b, by rw [e]; rfl, by simp [hn]; exact fun z => hx z.symm⟩
theorem split_cut {y : Str} {c : Nat} (S : Sep y c) {a : Str} (b : Str) (h : c ∉ TL.tl a) : Txt.split (a ++ y ++ b) y = a :: Txt.split b y := by
  refine TL.map_tl_inj ?_
  rw [split_tl S, TL.tl_append, TL.tl_append, S.tl, List.append_assoc, TL.spl_part1 (S := []) h, List.map_cons, split_tl S]; rfl
theorem split_no {y : Str} {c : Nat} (S : Sep y c) {a : Str} (h : c ∉ TL.tl a) : Txt.split a y = [a] := by
  refine TL.map_tl_inj ?_
  rw [split_tl S, TL.spl_last1 (S := []) h]; rfl
theorem part_cut {y : Str} {c : Nat} (S : Sep y c) {a : Str} (b : Str) (h : c ∉ TL.tl a) : Txt.partition (a ++ y ++ b) y = (a, y, b) := TL.partition_app (S := []) S.tl h
theorem part_no {y : Str} {c : Nat} (S : Sep y c) {a : Str} (h : c ∉ TL.tl a) : Txt.partition a y = (a, Str.empty, Str.empty) := TL.partition_none (S := []) S.tl h
theorem at_one {y s : Str} {c : Nat} (S : Sep y c) (i : Nat) : StrLaws.At s y s.length i ↔ (TL.tl s)[i]? = some c := by
  rw [TL.at_iff (by rw [S.tl]; simp), S.tl]
  cases q : (TL.tl s).drop i with
  | nil =>
    have : (TL.tl s)[i]? = none := by rw [← List.head?_drop, q]; rfl
    rw [this]; simp [TL.pre]
  | cons x r =>
    have : (TL.tl s)[i]? = some x := by rw [← List.head?_drop, q]; rfl
    rw [this, pre1]; simp
theorem occ_cut {y : Str} {c : Nat} (S : Sep y c) {a : Str} (b : Str) (h : c ∉ TL.tl a) : ∃ r, Builtin.Str.occurrences (a ++ y ++ b) y 0 (a ++ y ++ b).length 1 = a.length :: r := by
  have et : TL.tl (a ++ y ++ b) = TL.tl a ++ c :: TL.tl b := by rw [TL.tl_append, TL.tl_append, S.tl]; simp
  have ha : (TL.tl (a ++ y ++ b))[a.length]? = some c := by rw [et, TL.len_tl, List.getElem?_append_right (Nat.le_refl _)]; simp
  rcases StrLaws.occ_head (a ++ y ++ b) y 1 (Nat.le_refl 1) with ⟨h0, hn⟩ | ⟨i, r, h0, hi, hn⟩
  · exact absurd ((at_one S _).mpr ha) (hn _)
  · refine ⟨r, ?_⟩
    rw [h0]
    have hle : i ≤ a.length := Nat.le_of_not_lt fun z => hn _ z ((at_one S _).mpr ha)
    have hi' := (at_one S _).mp hi
    by_cases hlt : i < a.length
    · rw [et, List.getElem?_append_left (by rw [← TL.len_tl]; exact hlt)] at hi'
      exact absurd (List.mem_of_getElem? hi') h
    · rw [Nat.le_antisymm hle (Nat.le_of_not_lt hlt)]
theorem cut_from_cut {y : Str} {c : Nat} (S : Sep y c) (a b : Str) : cutS (a ++ y ++ b) (some ((a.length : Int) + 1)) none = b := by
  refine TL.ext_tl ?_
  have := tl_from (a ++ y ++ b) (a.length + 1)
  rw [show (((a.length + 1 : Nat)) : Int) = (a.length : Int) + 1 from rfl] at this
  rw [this, TL.tl_append, TL.tl_append, S.tl, TL.len_tl, List.append_assoc]
  generalize TL.tl a = u
  generalize TL.tl b = v
  have e : u ++ ([c] ++ v) = (u ++ [c]) ++ v := by simp
  rw [e]
  exact List.drop_left' (by simp)
end MP
set_option Elab.async false
set_option linter.all false
set_option maxRecDepth 100000
set_option maxHeartbeats 2000000
namespace MP
open PySem PySem.Spec L2
@[simp] theorem cBlank : Pg.c_BLANK = (" " : Str) := rfl
@[simp] theorem cFeed : Pg.c_FEED = ("\n" : Str) := rfl
@[simp] theorem cBar : Pg.c_BAR = ("|" : Str) := rfl
@[simp] theorem cNone : Pg.c_NONE = ("-" : Str) := rfl
@[simp] theorem tyM_str (s : Str) (h : MH) : tyM "str" h (.str s) = true := rfl
theorem sep_bar : Sep "|" 124 := ⟨rfl, by decide +kernel⟩
def gB (f : Str → Bool) : D → D
  | .str a => .bl (f a)
  | d => d
theorem gB_map (f : Str → Bool) (ws : List Str) : (((ws.map D.str).filter fun _ => true).map (gB f)) = (ws.map f).map D.bl := by
  rw [filter_yes, List.map_map, List.map_map]; rfl
theorem all_id (f : Str → Bool) (ws : List Str) : (ws.map f).all id = ws.all f := by simp
theorem any_id (f : Str → Bool) (ws : List Str) : (ws.map f).any id = ws.any f := by simp
theorem all_strsT {m elt : M} {env : Env} {j : Nat} {ws : List Str} {h h1 : MH} (f : Str → Bool) (e : m env h = .ok (.tup (ws.map D.str)) h1) (hl : ws.length ≤ sizeLine)
    (he : ∀ w ∈ ws, ∀ h', ∃ h2, elt ((wipeE env [j]).set j (some (.str w))) h' = .ok (.bl (f w)) h2 ∧ Gr h' h2) :
    ∃ n h', mLc (iT m) (.nm j) bYes elt [j] env h = .ok (.loc n) h' ∧ bAll [.loc n] h' = .ok (.bl (ws.all f)) h' ∧ bAny [.loc n] h' = .ok (.bl (ws.any f)) h' ∧ Gr h1 h' := by
  obtain ⟨n, h2, e2, q, G, _⟩ := lc_tup (tg := .nm j) (vs := [j]) (cond := bYes) (elt := elt) (fun _ => true) (gB f) e (by simpa using hl)
    (fun d hd h' _ => by
      obtain ⟨w, hw, rfl⟩ := List.mem_map.mp hd
      obtain ⟨h2, q1, q2⟩ := he w hw h'
      exact ⟨_, rfl, h', rfl, Gr.refl, fun _ => ⟨h2, q1, q2⟩⟩)
  exact ⟨n, h2, e2, by rw [all_lst q (gB_map f _), all_id], by rw [any_lst q (gB_map f _), any_id], G⟩
theorem all_strsL {m elt : M} {env : Env} {j n0 : Nat} {ws : List Str} {h h1 : MH} (f : Str → Bool) (e : m env h = .ok (.loc n0) h1) (q0 : h1[n0]? = some (.lst (ws.map D.str))) (hl : ws.length ≤ sizeLine)
    (he : ∀ w ∈ ws, ∀ h', ∃ h2, elt ((wipeE env [j]).set j (some (.str w))) h' = .ok (.bl (f w)) h2 ∧ Gr h' h2) :
    ∃ n h', mLc (iL m) (.nm j) bYes elt [j] env h = .ok (.loc n) h' ∧ bAll [.loc n] h' = .ok (.bl (ws.all f)) h' ∧ bAny [.loc n] h' = .ok (.bl (ws.any f)) h' ∧ Gr h1 h' := by
  obtain ⟨n, h2, e2, q, G, _⟩ := lc_lst (tg := .nm j) (vs := [j]) (cond := bYes) (elt := elt) (fun _ => true) (gB f) e q0 (by simpa using hl)
    (fun d hd h' _ => by
      obtain ⟨w, hw, rfl⟩ := List.mem_map.mp hd
      obtain ⟨h2, q1, q2⟩ := he w hw h'
      exact ⟨_, rfl, h', rfl, Gr.refl, fun _ => ⟨h2, q1, q2⟩⟩)
  exact ⟨n, h2, e2, by rw [all_lst q (gB_map f _), all_id], by rw [any_lst q (gB_map f _), any_id], G⟩
theorem szs {s : Str} (hl : s.length ≤ 100000) : s.length + 2 ≤ sizeLine ∧ s.length ≤ sizeLine ∧ s.length + 1 ≤ sizeLine := by
  have : 100002 ≤ sizeLine := by decide
  omega
/-! ### the program -/
def words (s : Str) : List Str := Txt.split s " "
def rows (s : Str) : List Str := Txt.split s "\n"
def stateB (s : Str) : Bool := decide ((words s).length ≤ 3) && (words s).all nameB
theorem state_in_g (s : Str) (hl : s.length ≤ 100000) (h : MH) : ∃ h', Pg.F_state_in [.str s] h = .ok (if stateB s = true then .tup ((words s).map D.str) else .non) h' ∧ Gr h h' := by
  obtain ⟨l1, l2, l3⟩ := szs hl
  have ct := fSplit_ok sep_sp l1 h
  have g0 := get_new h (.lst ((words s).map D.str))
  have bt : bTuple [.loc h.length] (h ++ [.lst ((words s).map D.str)]) = .ok (.tup ((words s).map D.str)) (h ++ [.lst ((words s).map D.str)]) := tup_lst g0
  have wl : (words s).length ≤ sizeLine := Nat.le_trans (split_len sep_sp s) l3
  obtain ⟨n, h2, e, q, _, G⟩ := all_strsT (m := mVar 1) (elt := Pg.m_state_in_1) (env := [some (.str s), some (.tup ((words s).map D.str)), none]) (j := 2) (h := h ++ [.lst ((words s).map D.str)]) nameB rfl wl
    (fun w hw h' => by
      obtain ⟨h2, q1, q2⟩ := is_name_g w (Nat.le_trans (split_mem sep_sp hw).1 l2) h'
      exact ⟨h2, by simp [Pg.m_state_in_1, wipeE, q1], q2⟩)
  have ew : Txt.split s (" " : Str) = words s := rfl
  rw [ew] at ct
  by_cases h3 : (words s).length ≤ 3
  · have c1 : ((words s).length : Int) ≤ 3 := by omega
    refine ⟨h2, ?_, Gr.app.trans G⟩
    simp only [Pg.F_state_in, Pg.b_state_in]
    by_cases hb : (words s).all nameB = true
    · simp [-e_mLc, ct, bt, c1, e, q, stateB, h3, hb]
    · rw [Bool.not_eq_true] at hb
      simp [-e_mLc, ct, bt, c1, e, q, stateB, h3, hb]
  · have c1 : ¬ ((words s).length : Int) ≤ 3 := by omega
    refine ⟨h ++ [.lst ((words s).map D.str)], ?_, Gr.app⟩
    simp only [Pg.F_state_in, Pg.b_state_in]
    simp [-e_mLc, ct, bt, c1, stateB, h3]
def cut1 (s : Str) : Str := cutS s (some 1) none
def rowB (s : Str) : Bool := Txt.startswith s "|" && lineB (cut1 s)
def linesB (s : Str) : Bool := decide (s = "-") || (rows s).all rowB
def linesOf (s : Str) : List Str := if s = "-" then [] else (rows s).map cut1
theorem lines_in_g (s : Str) (hl : s.length ≤ 100000) (h : MH) : ∃ h', Pg.F_lines_in [.str s] h = .ok (if linesB s = true then .tup ((linesOf s).map D.str) else .non) h' ∧ Gr h h' := by
  obtain ⟨l1, l2, l3⟩ := szs hl
  have s0 : 0 ≤ sizeLine := by decide
  by_cases hd : s = "-"
  · refine ⟨h, ?_, Gr.refl⟩
    simp only [Pg.F_lines_in, Pg.b_lines_in]
    simp [hd, linesB, linesOf, s0]
  · have ct := fSplit_ok sep_nl l1 h
    have ew : Txt.split s ("\n" : Str) = rows s := rfl
    rw [ew] at ct
    have g0 := get_new h (.lst ((rows s).map D.str))
    have wl : (rows s).length ≤ sizeLine := Nat.le_trans (split_len sep_nl s) l3
    have ws : ∀ w ∈ rows s, w.length ≤ sizeLine := fun w hw => Nat.le_trans (split_mem sep_nl hw).1 l2
    obtain ⟨n, h2, e, q, _, G⟩ := all_strsL (m := mVar 1) (elt := Pg.m_lines_in_2) (env := [some (.str s), some (.loc h.length), none]) (j := 2) (h := h ++ [.lst ((rows s).map D.str)]) rowB rfl g0 wl
      (fun w hw h' => by
        obtain ⟨h2, q1, q2⟩ := is_line_g (cut1 w) (Nat.le_trans (cut_len w 1) (ws w hw)) h'
        have sl := fSl_str (ws w hw) (some 1) none h'
        by_cases hb : Txt.startswith w "|" = true
        · exact ⟨h2, by simp [Pg.m_lines_in_2, wipeE, fStarts, hb, sl, rowB]; exact q1, q2⟩
        · rw [Bool.not_eq_true] at hb
          exact ⟨h', by simp [Pg.m_lines_in_2, wipeE, fStarts, hb, rowB], Gr.refl⟩)
    obtain ⟨n2, h3, e3, q3, G3, _⟩ := lc_lst (m := mVar 1) (env := [some (.str s), some (.loc h.length), none]) (h := h2) (tg := .nm 2) (vs := [2]) (cond := bYes) (elt := Pg.m_lines_in_1) (fun _ => true) (fun d => match d with | .str a => .str (cut1 a) | d => d) rfl (G.keep _ _ g0) (by simpa using wl)
      (fun d hd h' _ => by
        obtain ⟨w, hw, rfl⟩ := List.mem_map.mp hd
        have sl := fSl_str (ws w hw) (some 1) none h'
        exact ⟨_, rfl, h', rfl, Gr.refl, fun _ => ⟨h', by simp [Pg.m_lines_in_1, wipeE, sl]; rfl, Gr.refl⟩⟩)
    have bt := tup_lst q3
    have em : ((((rows s).map D.str).filter fun _ => true).map fun d => match d with | .str a => D.str (cut1 a) | d => d) = ((rows s).map cut1).map D.str := by
      rw [filter_yes, List.map_map, List.map_map]; rfl
    rw [em] at bt
    by_cases hb : (rows s).all rowB = true
    · refine ⟨h3, ?_, (Gr.app.trans G).trans G3⟩
      simp only [Pg.F_lines_in, Pg.b_lines_in]
      simp [-e_mLc, hd, ct, e, q, hb, e3, bt, linesB, linesOf, -List.map_map]
    · rw [Bool.not_eq_true] at hb
      refine ⟨h2, ?_, Gr.app.trans G⟩
      simp only [Pg.F_lines_in, Pg.b_lines_in]
      simp [-e_mLc, hd, ct, e, q, hb, linesB]
end MP
set_option Elab.async false
set_option linter.all false
set_option maxRecDepth 100000
set_option maxHeartbeats 2000000
namespace MP
open PySem PySem.Spec L2
def numV (s : Str) : Nat := NumText.digitsVal s.cps.toList
theorem num_val {s : Str} (h : numB s = true) : PySem.intText? s = some (numV s : Int) ∧ TL.numL (numV s) = s.cps.toList := by
  obtain ⟨n, h1, h2⟩ := digits_val h
  have : n = numV s := by unfold numV; rw [← h2, TL.numL_val]
  subst this
  exact ⟨h1, h2⟩
def numD (s : Str) : D := if numB s = true then .int (numV s : Int) else .non
theorem number_in_d (s : Str) (hl : s.length ≤ sizeLine) (h : MH) : ∃ h', Pg.F_number_in [.str s] h = .ok (numD s) h' ∧ Gr h h' := by
  rcases number_in_g s hl h with ⟨hn, h', e, G⟩ | ⟨hn, n, e1, e2, h', e, G⟩
  · exact ⟨h', by rw [e, numD, hn]; rfl, G⟩
  · refine ⟨h', ?_, G⟩
    obtain ⟨h1, _⟩ := num_val hn
    rw [e1] at h1
    have : (n : Int) = (numV s : Int) := Option.some.inj h1
    rw [e, numD, if_pos hn, this]
def editD (a f b : Str) : D := match words a with
  | [w0, w1] => if (numB w0 = true ∧ numB w1 = true) ∧ (f ≠ "" ∧ linesB b = true) ∧ numV w0 ≤ numV w1 then .tup [.int (numV w0 : Int), .int (numV w1 : Int), .tup ((linesOf b).map D.str)] else .non
  | _ => .non
theorem in_non {h : MH} {n : Nat} {ws : List Str} (q : h[n]? = some (.lst (ws.map numD))) : fIn .non (.loc n) h = .ok (.bl (ws.any fun w => !numB w)) h := by
  have e1 : seqOf h (.loc n) = some (ws.map numD) := by simp [seqOf, q]
  have e2 : (ws.map numD).all flatD = true := by
    rw [List.all_eq_true]; intro d hd
    obtain ⟨w, _, rfl⟩ := List.mem_map.mp hd
    unfold numD; split <;> rfl
  have e3 : inS .non (ws.map numD) = ws.any fun w => !numB w := by
    unfold inS
    rw [List.any_map]
    congr 1
    funext w
    show eqF (numD w) .non = _
    unfold numD
    by_cases hw : numB w = true
    · rw [if_pos hw, hw]; rfl
    · rw [if_neg hw]; rw [Bool.not_eq_true] at hw; rw [hw]; rfl
  show (match (match seqOf h (.loc n) with
    | some ds => if flatD .non = true ∧ ds.all flatD = true then some (inS .non ds) else none
    | none => none) with | some b => R.ok (D.bl b) h | none => .no) = _
  rw [e1]
  dsimp only
  rw [if_pos ⟨rfl, e2⟩, e3]
theorem edit_in_g (s a f b : Str) (hp : Txt.partition s "\n" = (a, f, b)) (hs : s.length ≤ 100000) (ha : a.length ≤ 100000) (hb : b.length ≤ 100000) (h : MH) : ∃ h', Pg.F_edit_in [.str s] h = .ok (editD a f b) h' ∧ Gr h h' := by
  obtain ⟨l1, l2, l3⟩ := szs hs
  obtain ⟨a1, a2, a3⟩ := szs ha
  have e0 : fPartition (.str s) [.str "\n"] h = .ok (.tup [.str a, .str f, .str b]) h := by
    show (if (("\n" : Str).length == 0) = false ∧ s.length ≤ sizeLine then R.ok (D.tup [.str (Txt.partition s "\n").1, .str (Txt.partition s "\n").2.1, .str (Txt.partition s "\n").2.2]) h else .no) = _
    rw [if_pos ⟨rfl, l2⟩, hp]
  have ct := fSplit_ok sep_sp a1 h
  have ew : Txt.split a (" " : Str) = words a := rfl
  rw [ew] at ct
  have g0 := get_new h (.lst ((words a).map D.str))
  have wl : (words a).length ≤ sizeLine := Nat.le_trans (split_len sep_sp a) a3
  obtain ⟨n, h2, e2, q2, G2, _⟩ := lc_lst (m := mMeth "str" fSplit (mVar 1) (aCons (mC (.str " ")) aNil)) (env := [some (.str s), some (.str a), some (.str f), some (.str b), none, none, none]) (h := h) (h1 := h ++ [.lst ((words a).map D.str)]) (tg := .nm 6) (vs := [6]) (cond := bYes) (elt := Pg.m_edit_in_1) (ds := (words a).map D.str) (fun _ => true) (fun d => match d with | .str a => numD a | d => d) (by simp [ct]) g0 (by simpa using wl)
    (fun d hd h' _ => by
      obtain ⟨w, hw, rfl⟩ := List.mem_map.mp hd
      obtain ⟨h3, e3, G3⟩ := number_in_d w (Nat.le_trans (split_mem sep_sp hw).1 a2) h'
      exact ⟨_, rfl, h', rfl, Gr.refl, fun _ => ⟨h3, by simp [Pg.m_edit_in_1, wipeE, e3], G3⟩⟩)
  have em : ((((words a).map D.str).filter fun _ => true).map fun d => match d with | .str a => numD a | d => d) = (words a).map numD := by
    rw [filter_yes, List.map_map]; rfl
  rw [em] at q2
  obtain ⟨h4, e4, G4⟩ := lines_in_g b hb h2
  have q4 := G4.keep _ _ q2
  have fn := in_non q4
  refine ⟨h4, ?_, (Gr.app.trans G2).trans G4⟩
  simp only [Pg.F_edit_in, Pg.b_edit_in]
  unfold editD
  by_cases h2' : (words a).length = 2
  · obtain ⟨w0, w1, ewa⟩ : ∃ w0 w1, words a = [w0, w1] := by
      match q : words a, h2' with
      | [x, y], _ => exact ⟨x, y, rfl⟩
    rw [ewa] at q4 fn
    have z3 : 3 ≤ sizeLine := by decide
    by_cases hw0 : numB w0 = true
    · by_cases hw1 : numB w1 = true
      · have n0 : numD w0 = .int (numV w0 : Int) := if_pos hw0
        have n1 : numD w1 = .int (numV w1 : Int) := if_pos hw1
        have ix0 := ix_L h4 q4 0
        have ix1 := ix_L h4 q4 1
        simp [n0, n1] at ix0 ix1
        simp [hw0, hw1] at fn
        by_cases hf : f = ""
        · subst hf
          simp [-e_mLc, e0, sets, e2, e4, q4, ewa, fn]
        · by_cases hb' : linesB b = true
          · by_cases hle : numV w0 ≤ numV w1
            · have c1 : ¬ (numV w1 : Int) < (numV w0 : Int) := by omega
              simp [-e_mLc, e0, sets, e2, e4, q4, ewa, fn, hf, hb', ix0, ix1, c1, hw0, hw1, hle, z3]
            · have c1 : (numV w1 : Int) < (numV w0 : Int) := by omega
              simp [-e_mLc, e0, sets, e2, e4, q4, ewa, fn, hf, hb', ix0, ix1, c1, hw0, hw1, hle]
          · rw [Bool.not_eq_true] at hb'
            simp [-e_mLc, e0, sets, e2, e4, q4, ewa, fn, hf, hb', hw0, hw1]
      · rw [Bool.not_eq_true] at hw1
        simp [hw0, hw1] at fn
        simp [-e_mLc, e0, sets, e2, e4, q4, ewa, fn, hw0, hw1]
    · rw [Bool.not_eq_true] at hw0
      simp [hw0] at fn
      simp [-e_mLc, e0, sets, e2, e4, q4, ewa, fn, hw0]
  · have c2 : ¬ ((words a).length : Int) = 2 := by omega
    have em : (match words a with
      | [w0, w1] => if (numB w0 = true ∧ numB w1 = true) ∧ (f ≠ "" ∧ linesB b = true) ∧ numV w0 ≤ numV w1 then D.tup [.int (numV w0 : Int), .int (numV w1 : Int), .tup ((linesOf b).map D.str)] else .non
      | _ => .non) = .non := by
      split
      · rename_i w0 w1 q; rw [q] at h2'; exact absurd rfl h2'
      · rfl
    rw [em]
    simp [-e_mLc, e0, sets, e2, e4, q4, c2]
end MP
set_option Elab.async false
set_option linter.all false
set_option maxRecDepth 100000
set_option maxHeartbeats 2000000
namespace MP
open PySem PySem.Spec L2
def cIn (z : Str) : D → Bool
  | .str a => decide (a.cps.toList.headD 0 ∈ z.cps.toList)
  | _ => false
theorem cnt_in {elt : M} {cond : MB} {env : Env} {j i : Nat} {s z : Str} {h : MH} (e : mVar i env h = .ok (.str s) h) (hc : ∀ x h', cond ((env.set j none).set j (some (.str ⟨#[x]⟩))) h' = .ok (decide (x ∈ z.cps.toList)) h')
    (he : ∀ x h', elt ((env.set j none).set j (some (.str ⟨#[x]⟩))) h' = .ok (.str ⟨#[x]⟩) h') (hl : s.length ≤ sizeLine) :
    ∃ n h' k, mLc (iS (mVar i)) (.nm j) cond elt [j] env h = .ok (.loc n) h' ∧ bLen [.loc n] h' = .ok (.int (k : Nat)) h' ∧ (k = s.length ↔ inC z s = true) ∧ Gr h h' := by
  obtain ⟨n, h2, e2, q, G, _⟩ := lc_str (tg := .nm j) (vs := [j]) (cond := cond) (elt := elt) (cIn z) id e hl
    (fun x _ h' _ => ⟨_, rfl, h', hc x h', Gr.refl, fun _ => ⟨h', he x h', Gr.refl⟩⟩)
  refine ⟨n, h2, _, e2, len_lst q, ?_, G⟩
  rw [List.map_id, List.filter_map, List.length_map]
  have e3 : ((cIn z) ∘ fun x => D.str ⟨#[x]⟩) = fun x => decide (x ∈ z.cps.toList) := rfl
  rw [e3, inC_iff]
  have e4 : s.length = s.cps.toList.length := TL.len_tl s
  rw [e4, List.length_filter_eq_length_iff]
  simp
theorem len_str {s : Str} (hl : s.length ≤ sizeLine) (h : MH) : bLen [.str s] h = .ok (.int (s.length : Int)) h := by simp [hl]
theorem law_is_name_g (s : Str) (hl : s.length ≤ sizeLine) (h : MH) : ∃ h', Pg.F_law_is_name [.str s] h = .ok (.bl (nameB s)) h' ∧ Gr h h' := by
  obtain ⟨n, h2, k, e, q, hk, G⟩ := cnt_in (elt := Pg.m_law_is_name_1) (cond := Pg.c_law_is_name_2) (env := [some (.str s), none, none]) (j := 2) (i := 0) (s := s) (z := Pg.c_LETTERS) (h := h) rfl (fun x h' => by simp [Pg.c_law_is_name_2, Pg.c_LETTERS]) (fun x h' => by simp [Pg.m_law_is_name_1]) hl
  refine ⟨h2, ?_, G⟩
  simp only [Pg.F_law_is_name, Pg.b_law_is_name]
  have kk : decide ((k : Int) = (s.length : Int)) = inC Pg.c_LETTERS s := by
    rw [Bool.eq_iff_iff, ← hk, decide_eq_true_eq]; omega
  have ls := len_str hl
  by_cases h1 : 1 ≤ s.length
  · have c1 : (1 : Int) ≤ s.length := by omega
    by_cases h8 : s.length ≤ 8
    · have c2 : (s.length : Int) ≤ 8 := by omega
      simp [-e_mLc, -e_bLen, ls, q, c1, c2, e, nameB, h1, h8, -decide_eq_true_eq, kk]
    · have c2 : ¬ (s.length : Int) ≤ 8 := by omega
      simp [-e_mLc, -e_bLen, ls, c1, c2, e, nameB, h1, h8]
  · have c1 : ¬ (1 : Int) ≤ s.length := by omega
    simp [-e_mLc, -e_bLen, ls, c1, e, nameB, h1]
theorem law_is_number_g (s : Str) (hl : s.length ≤ sizeLine) (h : MH) : ∃ h', Pg.F_law_is_number [.str s] h = .ok (.bl (numB s)) h' ∧ Gr h h' := by
  obtain ⟨n, h2, k, e, q, hk, G⟩ := cnt_in (elt := Pg.m_law_is_number_1) (cond := Pg.c_law_is_number_2) (env := [some (.str s), none, none]) (j := 2) (i := 0) (s := s) (z := Pg.c_DIGITS) (h := h) rfl (fun x h' => by simp [Pg.c_law_is_number_2, Pg.c_DIGITS]) (fun x h' => by simp [Pg.m_law_is_number_1]) hl
  refine ⟨h2, ?_, G⟩
  simp only [Pg.F_law_is_number, Pg.b_law_is_number]
  have kk : decide ((k : Int) = (s.length : Int)) = inC Pg.c_DIGITS s := by
    rw [Bool.eq_iff_iff, ← hk, decide_eq_true_eq]; omega
  have ls := len_str hl
  by_cases h1 : 1 ≤ s.length
  · have c1 : (1 : Int) ≤ s.length := by omega
    have h0 := head_eq h1
    by_cases h8 : s.length ≤ 9
    · have c2 : (s.length : Int) ≤ 9 := by omega
      by_cases hd : inC Pg.c_DIGITS s = true
      · rw [hd] at kk
        have kk' : (k : Int) = (s.length : Int) := by simpa using kk
        by_cases hz1 : s = "0"
        · have nb : numB s = true := by rw [numB]; simp [h1, h8, hd]; exact .inl hz1
          rw [nb]
          subst hz1
          simp [-e_mLc, -e_bLen, ls, q, c1, c2, e, kk']
        · by_cases hz2 : s.cps.toList.headD 0 = 48
          · have hz3 : (⟨#[s.cps.toList.headD 0]⟩ : Str) = "0" := by rw [hz2]; rfl
            have nb : numB s = false := Bool.eq_false_iff.mpr fun z => by
              rcases (numB_iff.mp z).2.2 with z | z
              · exact hz1 z
              · exact z hz2
            rw [nb]
            simp [-e_mLc, -e_bLen, -List.headD_eq_head?_getD, hl, ls, q, c1, c2, e, kk', hz1, h0, hz3]
          · have hz3 : ¬ ((⟨#[s.cps.toList.headD 0]⟩ : Str) = "0") := by rw [zero_sg, sg_eq]; exact hz2
            have nb : numB s = true := numB_iff.mpr ⟨⟨h1, h8⟩, fun c hc => (dg_iff c).mp (inC_iff.mp hd c hc), .inr hz2⟩
            rw [nb]
            simp [-e_mLc, -e_bLen, -List.headD_eq_head?_getD, hl, ls, q, c1, c2, e, kk', hz1, h0, hz3]
      · rw [Bool.not_eq_true] at hd
        rw [hd] at kk
        have kk' : ¬ (k : Int) = (s.length : Int) := by simpa using kk
        simp [-e_mLc, -e_bLen, ls, q, c1, c2, e, kk', numB, hd]
    · have c2 : ¬ (s.length : Int) ≤ 9 := by omega
      simp [-e_mLc, -e_bLen, ls, c1, c2, e, numB, h1, h8]
  · have c1 : ¬ (1 : Int) ≤ s.length := by omega
    simp [-e_mLc, -e_bLen, ls, c1, e, numB, h1]
def rowL (s : Str) : Bool := decide (cutS s none (some 1) ≠ "|") || decide (9 ∈ TL.tl s)
def lawLinesB (s : Str) : Bool := decide (s = "-") || !((rows s).any rowL)
theorem tab_sg : ("\t" : Str) = ⟨#[9]⟩ := rfl
theorem law_is_lines_g (s : Str) (hl : s.length ≤ 100000) (h : MH) : ∃ h', Pg.F_law_is_lines [.str s] h = .ok (.bl (lawLinesB s)) h' ∧ Gr h h' := by
  obtain ⟨l1, l2, l3⟩ := szs hl
  by_cases hd : s = "-"
  · refine ⟨h, ?_, Gr.refl⟩
    simp only [Pg.F_law_is_lines, Pg.b_law_is_lines]
    simp [hd, lawLinesB]
  · have ct := fSplit_ok sep_nl l1 h
    have ew : Txt.split s ("\n" : Str) = rows s := rfl
    rw [ew] at ct
    have g0 := get_new h (.lst ((rows s).map D.str))
    have wl : (rows s).length ≤ sizeLine := Nat.le_trans (split_len sep_nl s) l3
    have ws : ∀ w ∈ rows s, w.length ≤ sizeLine := fun w hw => Nat.le_trans (split_mem sep_nl hw).1 l2
    obtain ⟨n, h2, e, _, q, G⟩ := all_strsL (m := mVar 1) (elt := Pg.m_law_is_lines_1) (env := [some (.str s), some (.loc h.length), none]) (j := 2) (h := h ++ [.lst ((rows s).map D.str)]) rowL rfl g0 wl
      (fun w hw h' => by
        have sl := fSl_str (ws w hw) none (some 1) h'
        have ft : fIn (.str "\t") (.str w) h' = .ok (.bl (decide (9 ∈ TL.tl w))) h' := by rw [tab_sg]; exact f_inC 9 w h'
        refine ⟨h', ?_, Gr.refl⟩
        by_cases hb : cutS w none (some 1) = "|"
        · simp [Pg.m_law_is_lines_1, wipeE, sl, hb, ft, rowL]
        · simp [Pg.m_law_is_lines_1, wipeE, sl, hb, rowL])
    refine ⟨h2, ?_, Gr.app.trans G⟩
    simp only [Pg.F_law_is_lines, Pg.b_law_is_lines]
    by_cases hb : (rows s).any rowL = true
    · simp [-e_mLc, hd, ct, e, q, hb, lawLinesB]
    · rw [Bool.not_eq_true] at hb
      simp [-e_mLc, hd, ct, e, q, hb, lawLinesB]
end MP
set_option Elab.async false
set_option linter.all false
set_option maxRecDepth 100000
set_option maxHeartbeats 2000000
/-! T3: == of tuples of texts; joined texts; repr of texts. -/
namespace MP
open PySem PySem.Spec L2
theorem toTs_strs (ls : List Str) : toTs (ls.map D.str) = some (ls.map PyData.str) := by
  induction ls with
  | nil => rfl
  | cons a r ih => simp [toTs, toT, ih]
theorem canLay_strs {ls : List Str} (h : ∀ s ∈ ls, PyData.strOk s = true) : PyData.canLayAll0 (ls.map PyData.str) = true := by
  induction ls with
  | nil => rfl
  | cons a r ih => simp [PyData.canLayAll0, PyData.canLay0, h a (by simp), ih (fun s hs => h s (by simp [hs]))]
theorem depth_strs (ls : List Str) : PyData.depthAll (ls.map PyData.str) = 0 := by
  induction ls with
  | nil => rfl
  | cons a r ih => simp [PyData.depthAll, PyData.depth, ih]
theorem eqD_tup {a b : List D} {p q : List PyData} (h : MH) (ea : toTs a = some p) (eb : toTs b = some q) (ca : PyData.canLayAll0 p = true) (cb : PyData.canLayAll0 q = true) (da : PyData.depthAll p ≤ 10) (db : PyData.depthAll q ≤ 10) :
    eqD h (.tup a) (.tup b) = some (PyData.eqv (.tuple p) (.tuple q)) := by
  have s1 : SeqAt.shaped (.tuple p) = true := by
    unfold SeqAt.shaped
    rw [Bool.and_eq_true]
    exact ⟨by simpa [PyData.canLay0] using ca, by simp [PyData.depth]; omega⟩
  have s2 : SeqAt.shaped (.tuple q) = true := by
    unfold SeqAt.shaped
    rw [Bool.and_eq_true]
    exact ⟨by simpa [PyData.canLay0] using cb, by simp [PyData.depth]; omega⟩
  show (match toP h (.tup a), toP h (.tup b) with
    | some d, some e => if SeqAt.shaped d = true ∧ SeqAt.shaped e = true then some (PyData.eqv d e) else none
    | _, _ => none) = _
  have e1 : toP h (.tup a) = some (.tuple p) := by
    show toT (.tup a) = _
    simp [toT, ea]
  have e2 : toP h (.tup b) = some (.tuple q) := by
    show toT (.tup b) = _
    simp [toT, eb]
  rw [e1, e2]
  exact if_pos ⟨s1, s2⟩
theorem eqD_self {a : List D} {p : List PyData} (h : MH) (ea : toTs a = some p) (ca : PyData.canLayAll0 p = true) (da : PyData.depthAll p ≤ 10) : eqD h (.tup a) (.tup a) = some true := by
  rw [eqD_tup h ea ea ca ca da da, SeqAt.eqv_refl _ (by simpa [PyData.canLay0] using ca)]
theorem eqD_nil {ls : List Str} (h : MH) (hs : ∀ s ∈ ls, PyData.strOk s = true) : eqD h (.tup (ls.map D.str)) (.tup []) = some (decide (ls = [])) := by
  rw [eqD_tup h (toTs_strs ls) (q := []) rfl (canLay_strs hs) rfl (by rw [depth_strs]; omega) (by decide)]
  cases ls with
  | nil => rfl
  | cons a r => simp [PyData.eqv, PyData.eqvAll]
theorem strOk_of {s : Str} (h : ∀ c ∈ s.cps.toList, c < 256) : PyData.strOk s = true := by
  unfold PyData.strOk
  rw [Array.all_eq_true']
  intro x hx
  have := h x (by simpa using hx)
  simp; omega
theorem f_join {h : MH} {d : D} {ss : List Str} (a : Str) (g : seqOf h d = some (ss.map D.str)) (hl : (ss.map Str.length).sum + ss.length * a.length ≤ 16777216) : fJoin (.str a) [d] h = .ok (.str (Txt.join a ss)) h := by
  show (match (seqOf h d).bind strsOf with
    | some ys => if (ys.map Str.length).sum + ys.length * a.length ≤ 16777216 then R.ok (D.str (Txt.join a ys)) h else .no
    | none => .no) = _
  rw [g]
  show (match strsOf (ss.map D.str) with
    | some ys => if (ys.map Str.length).sum + ys.length * a.length ≤ 16777216 then R.ok (D.str (Txt.join a ys)) h else .no
    | none => .no) = _
  rw [strsOf_map]
  exact if_pos hl
theorem spl1_sum (c : Nat) : ∀ (l acc : List Nat), ((TL.spl [c] 0 acc l).map List.length).sum + (TL.spl [c] 0 acc l).length ≤ acc.length + l.length + 1
  | [], acc => by rw [TL.spl_nil]; simp
  | x :: r, acc => by
    rw [spl1_cons]
    split
    · have := spl1_sum c r []; simp at this ⊢; omega
    · have := spl1_sum c r (acc ++ [x]); simp at this ⊢; omega
theorem split_sum {y : Str} {c : Nat} (S : Sep y c) (s : Str) : ((Txt.split s y).map Str.length).sum + (Txt.split s y).length ≤ s.length + 1 := by
  have := spl1_sum c (TL.tl s) []
  rw [← split_tl S, List.map_map, List.length_map] at this
  have e : (List.length ∘ TL.tl) = Str.length := funext fun x => (TL.len_tl x).symm
  rw [e] at this
  rw [TL.len_tl s]; simpa using this
theorem sep_len {y : Str} {c : Nat} (S : Sep y c) : y.length = 1 := by rw [TL.len_tl, S.tl]; rfl
theorem app_len (a b : Str) : (a ++ b).length = a.length + b.length := by rw [TL.len_tl, TL.tl_append, List.length_append, ← TL.len_tl, ← TL.len_tl]
theorem bRepr_str {s : Str} (hc : ∀ c ∈ s.cps.toList, c < 256) (hl : s.length ≤ 100000) (h : MH) : bRepr [.str s] h = .ok (.str (reprText s)) h := by
  have l1 : (reprText s).length ≤ sizeLine := by
    have := StrLaws.reprText_len s (fun c h => Nat.lt_of_lt_of_le (hc c h) (by decide))
    have : 1000002 ≤ sizeLine := by decide
    omega
  have e : deepD h 200 (.str s) = some (.str s) := rfl
  show (match deepD h 200 (.str s) with
    | some p => if p.showable = true ∧ p.depth ≤ 60 ∧ p.shown.length ≤ sizeLine then R.ok (D.str p.shown) h else .no
    | none => .no) = _
  rw [e]
  dsimp only
  rw [PyData.shown_str, if_pos ⟨by simp [PyData.showable], by simp [PyData.depth], l1⟩]
end MP
set_option Elab.async false
set_option linter.all false
set_option maxRecDepth 100000
set_option maxHeartbeats 2000000
namespace MP
open PySem PySem.Spec L2
def OkC (c : Nat) : Prop := 32 ≤ c ∧ c ≤ 126 ∧ c ≠ 37
def OkS (s : Str) : Prop := ∀ c ∈ TL.tl s, c = 9 ∨ c = 10 ∨ OkC c
theorem sg_iff (c : Nat) : c ∈ Pg.c_SIGNS.cps.toList ↔ OkC c := by
  have e : Pg.c_SIGNS.cps.toList = List.range' 32 5 ++ List.range' 38 89 := by decide +kernel
  rw [e, List.mem_append, List.mem_range'_1, List.mem_range'_1]; unfold OkC; omega
theorem row_eq {w : Str} (h : ∀ c ∈ TL.tl w, c = 9 ∨ OkC c) : rowB w = !(rowL w) := by
  unfold rowB rowL
  rw [starts1 w sep_bar]
  have e1 : (cutS w none (some 1) = "|") ↔ (TL.tl w).head? = some 124 := by
    constructor
    · intro z
      have e := tl_to w 1
      rw [show ((1 : Nat) : Int) = 1 from rfl, z] at e
      have t : TL.tl ("|" : Str) = [124] := rfl
      rw [t] at e
      cases q : TL.tl w with
      | nil => rw [q] at e; cases e
      | cons a r => rw [q] at e; simp at e; simp [e]
    · intro z
      refine TL.ext_tl ?_
      have e := tl_to w 1
      rw [show ((1 : Nat) : Int) = 1 from rfl] at e
      rw [e]
      cases q : TL.tl w with
      | nil => rw [q] at z; cases z
      | cons a r => rw [q] at z; simp at z; subst z; rfl
  by_cases h1 : (TL.tl w).head? = some 124
  · have h2 := e1.mpr h1
    have e2 : lineB (cut1 w) = !decide (9 ∈ TL.tl w) := by
      rw [Bool.eq_iff_iff]
      unfold lineB cut1
      rw [inC_iff]
      have e3 : (cutS w (some 1) none).cps.toList = (TL.tl w).drop 1 := tl_from w 1
      rw [e3]
      simp only [sg_iff, Bool.not_eq_true', decide_eq_false_iff_not]
      cases q : TL.tl w with
      | nil => simp
      | cons a r =>
        rw [q] at h1 h
        simp at h1
        subst h1
        simp only [List.drop_succ_cons, List.drop_zero, List.mem_cons]
        constructor
        · rintro z (z1 | z1)
          · cases z1
          · have := z 9 z1; unfold OkC at this; omega
        · intro z c hc
          rcases h c (by simp [hc]) with z1 | z1
          · subst z1; exact absurd (.inr hc) z
          · exact z1
    simp [h1, h2, e2]
  · have h2 : ¬ cutS w none (some 1) = "|" := fun z => h1 (e1.mp z)
    simp [h1, h2]
theorem rows_ok {s w : Str} (h : OkS s) (hw : w ∈ rows s) : ∀ c ∈ TL.tl w, c = 9 ∨ OkC c := fun c hc => by
  obtain ⟨h1, h2⟩ := (split_mem sep_nl hw).2 c hc
  rcases h c h2 with z | z | z
  · exact .inl z
  · exact absurd z h1
  · exact .inr z
theorem lines_eq {s : Str} (h : OkS s) : lawLinesB s = linesB s := by
  unfold lawLinesB linesB
  congr 1
  rw [List.not_any_eq_all_not]
  rw [Bool.eq_iff_iff, List.all_eq_true, List.all_eq_true]
  constructor
  · intro z w hw; rw [row_eq (rows_ok h hw)]; exact z w hw
  · intro z w hw; rw [← row_eq (rows_ok h hw)]; exact z w hw
def editOk (a f b : Str) : Bool := match words a with
  | [w0, w1] => (numB w0 && numB w1) && ((decide (f ≠ "") && linesB b) && decide (numV w0 ≤ numV w1))
  | _ => false
def editV (a b : Str) : D := match words a with
  | [w0, w1] => .tup [.int (numV w0 : Int), .int (numV w1 : Int), .tup ((linesOf b).map D.str)]
  | _ => .non
theorem edit_d (a f b : Str) : editD a f b = if editOk a f b = true then editV a b else .non := by
  unfold editD editOk editV
  generalize words a = l
  rcases l with _ | ⟨w0, _ | ⟨w1, _ | ⟨x, r⟩⟩⟩
  · rfl
  · rfl
  · simp only [Bool.and_eq_true, decide_eq_true_eq]
  · rfl
def okB (way : Nat) (s : Str) : Bool := match way with
  | 0 => stateB s
  | 1 => linesB s
  | _ => editOk (Txt.partition s "\n").1 (Txt.partition s "\n").2.1 (Txt.partition s "\n").2.2
theorem of_lt (k : Nat) : (k : Int) < 1000000 → True := fun _ => trivial
theorem law_due_g (way : Nat) (hw : way < 3) (s : Str) (hs : OkS s) (hl : s.length ≤ 100000) (h : MH) : ∃ h', Pg.F_law_due [.int (way : Int), .str s] h = .ok (.bl (okB way s)) h' ∧ Gr h h' := by
  obtain ⟨l1, l2, l3⟩ := szs hl
  have ew : ∀ t, Txt.split t (" " : Str) = words t := fun _ => rfl
  have er : ∀ t, Txt.split t ("\n" : Str) = rows t := fun _ => rfl
  have sub : ∀ t : Str, t.length ≤ s.length → t.length ≤ sizeLine := fun t ht => by omega
  match way, hw with
  | 0, _ =>
    have ct := fSplit_ok sep_sp l1 h
    rw [ew] at ct
    have g0 := get_new h (.lst ((words s).map D.str))
    have wl : (words s).length ≤ sizeLine := Nat.le_trans (split_len sep_sp s) l3
    obtain ⟨n, h2, e, q, _, G⟩ := all_strsL (m := mVar 2) (elt := Pg.m_law_due_6) (env := [some (.int 0), some (.str s), some (.loc h.length), none]) (j := 3) (h := h ++ [.lst ((words s).map D.str)]) nameB rfl g0 wl
      (fun w hw h' => by
        obtain ⟨h2, q1, q2⟩ := law_is_name_g w (sub _ (split_mem sep_sp hw).1) h'
        exact ⟨h2, by simp [Pg.m_law_due_6, wipeE, q1], q2⟩)
    simp only [Pg.F_law_due, Pg.b_law_due, okB]
    by_cases h3 : (words s).length ≤ 3
    · have c1 : ((words s).length : Int) ≤ 3 := by omega
      refine ⟨h2, ?_, Gr.app.trans G⟩
      simp [-e_mLc, Pg.b_law_due_8, Pg.b_law_due_7, ct, c1, e, q, stateB, h3]
    · have c1 : ¬ ((words s).length : Int) ≤ 3 := by omega
      refine ⟨h ++ [.lst ((words s).map D.str)], ?_, Gr.app⟩
      simp [-e_mLc, Pg.b_law_due_8, Pg.b_law_due_7, ct, c1, stateB, h3]
  | 1, _ =>
    obtain ⟨h2, e, G⟩ := law_is_lines_g s hl h
    refine ⟨h2, ?_, G⟩
    simp only [Pg.F_law_due, Pg.b_law_due, okB]
    rw [lines_eq hs] at e
    simp [Pg.b_law_due_8, Pg.b_law_due_7, Pg.b_law_due_5, e]
  | 2, _ =>
    obtain ⟨n1, H1, ct, g0, G1⟩ := split_ex sep_nl l1 h
    rw [er] at g0
    simp only [Pg.F_law_due, Pg.b_law_due, okB]
    have nl : ("\n" : Str) = ⟨#[10]⟩ := rfl
    have fn : ∀ h', fNotIn (.str "\n") (.str s) h' = .ok (.bl (!decide (10 ∈ TL.tl s))) h' := fun h' => by rw [nl]; exact f_notInC 10 s h'
    rcases cut_cases sep_nl s with hn | ⟨a, b, es, ha⟩
    · have es : rows s = [s] := split_no sep_nl hn
      have ix : fIx (.loc n1) (.int 0) H1 = .ok (.str s) H1 := by rw [ix_L _ g0, es]; simp
      obtain ⟨n2, H2, ct2, g1, G2⟩ := split_ex sep_sp l1 H1
      have pn := part_no sep_nl hn
      have hn' : decide (10 ∈ TL.tl s) = false := decide_eq_false hn
      refine ⟨H2, ?_, G1.trans G2⟩
      rw [pn]
      have ee : editOk s Str.empty Str.empty = false := by
        unfold editOk; split
        · have : decide (Str.empty ≠ ("" : Str)) = false := by decide
          simp [this]
        · rfl
      simp only
      rw [ee]
      have fn2 := fn H2
      rw [hn'] at fn2
      simp [-e_mLc, Pg.b_law_due_8, Pg.b_law_due_7, Pg.b_law_due_5, Pg.b_law_due_4, Pg.b_law_due_3, ct, ix, ct2, fn2]
    · have es' : rows s = a :: rows b := by rw [es]; exact split_cut sep_nl b ha
      have al : a.length + b.length ≤ s.length := by rw [es, app_len, app_len]; omega
      have ix : fIx (.loc n1) (.int 0) H1 = .ok (.str a) H1 := by rw [ix_L _ g0, es']; simp
      obtain ⟨n2, H2, ct2, g1, G2⟩ := split_ex (s := a) sep_sp (by omega) H1
      rw [ew] at g1
      have pn := part_cut sep_nl b ha
      rw [← es] at pn
      have hn' : decide (10 ∈ TL.tl s) = true := decide_eq_true (by rw [es, TL.tl_append, TL.tl_append, sep_nl.tl]; simp)
      have fn2 := fn H2
      rw [hn'] at fn2
      have wl : (words a).length ≤ sizeLine := by have := split_len sep_sp a; have : (words a).length ≤ a.length + 1 := this; omega
      obtain ⟨n, h2, e, q, _, G⟩ := all_strsL (m := mVar 2) (elt := Pg.m_law_due_2) (env := [some (.int 2), some (.str s), some (.loc n2), none]) (j := 3) (h := H2) numB rfl g1 wl
        (fun w hw h' => by
          obtain ⟨h2, q1, q2⟩ := law_is_number_g w (sub _ (by have := (split_mem sep_sp hw).1; omega)) h'
          exact ⟨h2, by simp [Pg.m_law_due_2, wipeE, q1], q2⟩)
      have g2 := G.keep _ _ g1
      have G02 := G1.trans G2
      rw [pn]
      simp only
      by_cases hw2 : (words a).length = 2
      · obtain ⟨w0, w1, ewa⟩ : ∃ w0 w1, words a = [w0, w1] := by
          match q : words a, hw2 with
          | [x, y], _ => exact ⟨x, y, rfl⟩
        rw [ewa] at q g2 g1
        by_cases hb0 : (numB w0 && numB w1) = true
        · have hb0' := Bool.and_eq_true_iff.mp hb0
          have qq : ([w0, w1].all numB) = true := by simp [hb0'.1, hb0'.2]
          rw [qq] at q
          have ix0 := ix_L h2 g2 0
          have ix1 := ix_L h2 g2 1
          simp at ix0 ix1
          have l0 : w0.length ≤ 640 := by have := (numB_iff.mp hb0'.1).1; omega
          have l1' : w1.length ≤ 640 := by have := (numB_iff.mp hb0'.2).1; omega
          have bi0 := bInt_num (num_val hb0'.1).1 l0 h2
          have bi1 := bInt_num (num_val hb0'.2).1 l1' h2
          obtain ⟨r, oc⟩ := occ_cut sep_nl b ha
          rw [← es] at oc
          have fx : fIndex (.str s) [.str "\n"] h2 = .ok (.int (a.length : Nat)) h2 := by
            show (match Builtin.Str.occurrences s "\n" 0 s.length 1 with
              | i :: _ => R.ok (D.int (i : Nat)) h2
              | [] => .no) = _
            rw [oc]
          have fs : fSl (.str s) (some ((a.length : Int) + 1)) none h2 = .ok (.str b) h2 := by
            rw [fSl_str l2]
            have := cut_from_cut sep_nl a b
            rw [← es] at this
            rw [this]
          have hsb : OkS b := fun c hc => hs c (by rw [es, TL.tl_append]; exact List.mem_append_right _ hc)
          obtain ⟨h3, e3, G3⟩ := law_is_lines_g b (by omega) h2
          rw [lines_eq hsb] at e3
          have ne : decide (("\n" : Str) ≠ "") = true := by decide
          by_cases hle : numV w0 ≤ numV w1
          · have c1 : (numV w0 : Int) ≤ (numV w1 : Int) := by omega
            refine ⟨h3, ?_, (G02.trans G).trans G3⟩
            have ee : editOk a "\n" b = linesB b := by
              unfold editOk; rw [ewa]
              show ((numB w0 && numB w1) && ((decide (("\n" : Str) ≠ "") && linesB b) && decide (numV w0 ≤ numV w1))) = _
              rw [hb0, ne, decide_eq_true hle]; simp
            rw [ee]
            simp [-e_mLc, Pg.b_law_due_8, Pg.b_law_due_7, Pg.b_law_due_5, Pg.b_law_due_4, Pg.b_law_due_3, Pg.b_law_due_1, ct, ix, ct2, fn2, e, q, g1, ix0, ix1, bi0, bi1, c1, fx, fs, e3]
          · have c1 : ¬ (numV w0 : Int) ≤ (numV w1 : Int) := by omega
            refine ⟨h2, ?_, G02.trans G⟩
            have ee : editOk a "\n" b = false := by
              unfold editOk; rw [ewa]
              show ((numB w0 && numB w1) && ((decide (("\n" : Str) ≠ "") && linesB b) && decide (numV w0 ≤ numV w1))) = _
              rw [decide_eq_false hle]; simp
            rw [ee]
            simp [-e_mLc, Pg.b_law_due_8, Pg.b_law_due_7, Pg.b_law_due_5, Pg.b_law_due_4, Pg.b_law_due_3, Pg.b_law_due_1, ct, ix, ct2, fn2, e, q, g1, ix0, ix1, bi0, bi1, c1]
        · rw [Bool.not_eq_true] at hb0
          have qq : ([w0, w1].all numB) = false := by simpa using hb0
          rw [qq] at q
          refine ⟨h2, ?_, G02.trans G⟩
          have ee : editOk a "\n" b = false := by
            unfold editOk; rw [ewa]
            show ((numB w0 && numB w1) && ((decide (("\n" : Str) ≠ "") && linesB b) && decide (numV w0 ≤ numV w1))) = _
            rw [hb0]; simp
          rw [ee]
          simp [-e_mLc, Pg.b_law_due_8, Pg.b_law_due_7, Pg.b_law_due_5, Pg.b_law_due_4, Pg.b_law_due_3, Pg.b_law_due_1, ct, ix, ct2, fn2, e, q, g1]
      · have c2 : ¬ ((words a).length : Int) = 2 := by omega
        refine ⟨H2, ?_, G02⟩
        have ee : editOk a "\n" b = false := by
          unfold editOk; split
          · rename_i w0 w1 q; rw [q] at hw2; exact absurd rfl hw2
          · rfl
        rw [ee]
        simp [-e_mLc, Pg.b_law_due_8, Pg.b_law_due_7, Pg.b_law_due_5, Pg.b_law_due_4, Pg.b_law_due_3, Pg.b_law_due_1, ct, ix, ct2, fn2, g1, c2]
end MP
set_option Elab.async false
set_option linter.all false
set_option maxRecDepth 100000
set_option maxHeartbeats 2000000
namespace MP
open PySem PySem.Spec L2
section
variable {env : Env} {h : MH}
@[simp] theorem e_mCalm {α : Type} (m : Env → MH → R α) : mCalm m env h = calmR (m env h) := rfl
@[simp] theorem e_sCalm (s : S) : sCalm s env h = calmS (s env h) := rfl
@[simp] theorem calmR_bl (p : Prop) [Decidable p] {α : Type} (a b : R α) : calmR (if p then a else b) = if p then calmR a else calmR b := by split <;> rfl
@[simp] theorem e_sRaise (C : Str) (a : MA) : sRaise C a env h = (a env h).st env fun ds h1 => match ds with | [d] => .er C d env h1 | _ => .no := rfl
end
/-! ### what is read -/
def valD (way : Nat) (s : Str) : D := match way with
  | 0 => .tup ((words s).map D.str)
  | 1 => .tup ((linesOf s).map D.str)
  | _ => editV (Txt.partition s "\n").1 (Txt.partition s "\n").2.2
theorem val_tup {way : Nat} {s : Str} (h : okB way s = true) : ∃ ds, valD way s = .tup ds := by
  match way with
  | 0 => exact ⟨_, rfl⟩
  | 1 => exact ⟨_, rfl⟩
  | n + 2 =>
    have h' : editOk (Txt.partition s "\n").1 (Txt.partition s "\n").2.1 (Txt.partition s "\n").2.2 = true := h
    show ∃ ds, editV _ _ = _
    unfold editOk at h'
    unfold editV
    split at h'
    · exact ⟨_, rfl⟩
    · cases h'
def rdF (way : Nat) : List D → MH → R D := match way with
  | 0 => Pg.F_state_in
  | 1 => Pg.F_lines_in
  | _ => Pg.F_edit_in
def rdN (way : Nat) : Str := match way with
  | 0 => "state_in"
  | 1 => "lines_in"
  | _ => "edit_in"
theorem rd_ok (way : Nat) (s : Str) (hl : s.length ≤ 100000) (h : MH) : ∃ h', rdF way [.str s] h = .ok (if okB way s = true then valD way s else .non) h' ∧ Gr h h' := by
  match way with
  | 0 => exact state_in_g s hl h
  | 1 => exact lines_in_g s hl h
  | n + 2 =>
    have bd : (Txt.partition s "\n").1.length ≤ 100000 ∧ (Txt.partition s "\n").2.2.length ≤ 100000 := by
      rcases cut_cases sep_nl s with hn | ⟨a, b, es, ha⟩
      · rw [part_no sep_nl hn]; exact ⟨hl, by show Str.empty.length ≤ _; decide⟩
      · have pn := part_cut sep_nl b ha
        rw [← es] at pn
        rw [pn]
        have : a.length + b.length ≤ s.length := by rw [es, app_len, app_len]; omega
        exact ⟨by show a.length ≤ _; omega, by show b.length ≤ _; omega⟩
    obtain ⟨h', e, G⟩ := edit_in_g s _ _ _ rfl hl bd.1 bd.2 h
    refine ⟨h', ?_, G⟩
    rw [edit_d] at e
    exact e
theorem tab_ok (way : Nat) : Pg.tab_shown_value_reader.lookup (rdN way) = some (1, rdF way) := by
  match way with
  | 0 => rfl
  | 1 => rfl
  | n + 2 => rfl
theorem shown_str (way : Nat) (s : Str) (hl : s.length ≤ 100000) (h : MH) : ∃ h', Pg.F_shown_value [.str s, .fn (rdN way)] h = (if okB way s = true then .ok (valD way s) h' else .er "BadShown" (.str s) h') ∧ Gr h h' := by
  obtain ⟨h', e, G⟩ := rd_ok way s hl h
  refine ⟨h', ?_, G⟩
  have lk := tab_ok way
  simp only [Pg.F_shown_value, Pg.b_shown_value]
  by_cases hb : okB way s = true
  · rw [if_pos hb] at e ⊢
    obtain ⟨ds, ed⟩ := val_tup hb
    rw [ed] at e ⊢
    simp [mCallV, lk, e]
  · rw [if_neg hb] at e ⊢
    simp [mCallV, lk, e]
theorem shown_odd (way : Nat) {x : D} {h : MH} (hx : bIsi [x, .ty "str"] h = .ok (.bl false) h) : Pg.F_shown_value [x, .fn (rdN way)] h = .er "BadShown" x h := by
  simp only [Pg.F_shown_value, Pg.b_shown_value]
  simp [hx]
def readF (way : Nat) : List D → MH → R D := match way with
  | 0 => Pg.F_read_state
  | 1 => Pg.F_read_lines
  | _ => Pg.F_read_edit
theorem read_sv (way : Nat) (x : D) (h : MH) : readF way [x] h = (match Pg.F_shown_value [x, .fn (rdN way)] h with
    | .ok d h => .ok d h
    | .er c d h => .er c d h
    | .no => .no) := by
  match way with
  | 0 =>
    simp only [readF, rdN, Pg.F_read_state, Pg.b_read_state]
    simp
    cases Pg.F_shown_value [x, .fn "state_in"] h <;> rfl
  | 1 =>
    simp only [readF, rdN, Pg.F_read_lines, Pg.b_read_lines]
    simp
    cases Pg.F_shown_value [x, .fn "lines_in"] h <;> rfl
  | n + 2 =>
    simp only [readF, rdN, Pg.F_read_edit, Pg.b_read_edit]
    simp
    cases Pg.F_shown_value [x, .fn "edit_in"] h <;> rfl
theorem told_ok {way : Nat} (hw : way < 3) {x d : D} {h h' : MH} (e : readF way [x] h = .ok d h') : Pg.F_law_told [.int (way : Int), x] h = .ok d h' := by
  simp only [Pg.F_law_told, Pg.b_law_told, e_denF, e_sSeq, sTry]
  match way, hw with
  | 0, _ => have e' : Pg.F_read_state [x] h = .ok d h' := e; simp [e']
  | 1, _ => have e' : Pg.F_read_lines [x] h = .ok d h' := e; simp [e']
  | 2, _ => have e' : Pg.F_read_edit [x] h = .ok d h' := e; simp [e']
theorem told_er {way : Nat} (hw : way < 3) {x d : D} {h h' : MH} (e : readF way [x] h = .er "BadShown" d h') : Pg.F_law_told [.int (way : Int), x] h = .ok (.loc h'.length) (h' ++ [.err "BadShown" d]) := by
  simp only [Pg.F_law_told, Pg.b_law_told, e_denF, e_sSeq, sTry]
  match way, hw with
  | 0, _ => have e' : Pg.F_read_state [x] h = .er "BadShown" d h' := e; simp [e']
  | 1, _ => have e' : Pg.F_read_lines [x] h = .er "BadShown" d h' := e; simp [e']
  | 2, _ => have e' : Pg.F_read_edit [x] h = .er "BadShown" d h' := e; simp [e']
/-! ### what is written -/
theorem app_assoc (a b c : Str) : a ++ b ++ c = a ++ (b ++ c) := TL.ext_tl (by simp only [TL.tl_append, List.append_assoc])
theorem emp_app (s : Str) : Str.empty ++ s = s := TL.ext_tl (by rw [TL.tl_append]; rfl)
theorem show_state_g {s : Str} (hl : s.length ≤ 100000) (h : MH) : Pg.F_show_state [.tup ((words s).map D.str)] h = .ok (.str s) h := by
  have sm := split_sum sep_sp s
  have e1 : seqOf h (.tup ((words s).map D.str)) = some ((words s).map D.str) := rfl
  have fj := f_join (ss := words s) (" " : Str) e1 (by rw [sep_len sep_sp]; have : ((words s).map Str.length).sum + (words s).length ≤ s.length + 1 := sm; omega)
  have js : Txt.join " " (words s) = s := join_split sep_sp s
  rw [js] at fj
  simp only [Pg.F_show_state, Pg.b_show_state]
  simp [fj]
def barS (s : Str) : Str := ("|" : Str) ++ s
def shownL (ls : List Str) : Str := if ls = [] then "-" else Txt.join "\n" (ls.map barS)
theorem bar_len (s : Str) : (barS s).length = s.length + 1 := by unfold barS; rw [app_len]; have : ("|" : Str).length = 1 := rfl; omega
theorem sum_bar (ls : List Str) : ((ls.map barS).map Str.length).sum = (ls.map Str.length).sum + ls.length := by
  induction ls with
  | nil => rfl
  | cons a r ih => simp only [List.map_cons, List.sum_cons, List.length_cons, ih, bar_len]; omega
theorem mem_sum {ls : List Str} {w : Str} (h : w ∈ ls) : w.length ≤ (ls.map Str.length).sum := by
  induction ls with
  | nil => cases h
  | cons a r ih =>
    simp only [List.map_cons, List.sum_cons]
    rcases List.mem_cons.mp h with rfl | h
    · omega
    · have := ih h; omega
theorem show_lines_g (ls : List Str) (hc : ∀ w ∈ ls, ∀ c ∈ w.cps.toList, c < 256) (hl : (ls.map Str.length).sum + ls.length ≤ 200001) (h : MH) : ∃ h', Pg.F_show_lines [.tup (ls.map D.str)] h = .ok (.str (shownL ls)) h' ∧ Gr h h' := by
  have s0 : 0 ≤ sizeLine := by decide
  have sz : 1000000 ≤ sizeLine := by decide
  have en := eqD_nil h (ls := ls) (fun w hw => strOk_of (hc w hw))
  by_cases h0 : ls = []
  · subst h0
    refine ⟨h, ?_, Gr.refl⟩
    simp only [Pg.F_show_lines, Pg.b_show_lines]
    simp at en
    simp [s0, en, shownL]
  · obtain ⟨n, h2, e, q, G, _⟩ := lc_tup (m := mVar 0) (tg := .nm 1) (vs := [1]) (cond := bYes) (elt := Pg.m_show_lines_1) (env := [some (.tup (ls.map D.str)), none]) (h := h) (ds := ls.map D.str) (fun _ => true) (fun d => match d with | .str a => .str (barS a) | d => d) rfl (by simp; omega)
      (fun d hd h' _ => by
        obtain ⟨w, hw, rfl⟩ := List.mem_map.mp hd
        have wl := mem_sum hw
        have w1 : w.length ≤ sizeLine := by omega
        have w2 : (("|" : Str) ++ w).length ≤ sizeLine := by have := bar_len w; unfold barS at this; omega
        have w3 : ("|" : Str).length ≤ sizeLine := by decide
        exact ⟨_, rfl, h', rfl, Gr.refl, fun _ => ⟨h', by simp [Pg.m_show_lines_1, wipeE, fFmt, w1, w2, w3, emp_app, barS], Gr.refl⟩⟩)
    have em : ((((ls.map D.str).filter fun _ => true).map fun d => match d with | .str a => D.str (barS a) | d => d)) = (ls.map barS).map D.str := by
      rw [filter_yes, List.map_map, List.map_map]; rfl
    rw [em] at q
    have e1 : seqOf h2 (.loc n) = some ((ls.map barS).map D.str) := by simp [seqOf, q]
    have fj := f_join (ss := ls.map barS) ("\n" : Str) e1 (by rw [sep_len sep_nl, sum_bar, List.length_map]; omega)
    refine ⟨h2, ?_, G⟩
    simp only [Pg.F_show_lines, Pg.b_show_lines]
    have hd : decide (ls = []) = false := decide_eq_false h0
    rw [hd] at en
    simp [-e_mLc, s0, en, e, fj, shownL, h0]
theorem cut1_bar {w : Str} (h : Txt.startswith w "|" = true) : barS (cut1 w) = w := by
  rw [starts1 w sep_bar] at h
  have h' : (TL.tl w).head? = some 124 := by simpa using h
  refine TL.ext_tl ?_
  unfold barS cut1
  have e1 := tl_from w 1
  rw [show ((1 : Nat) : Int) = 1 from rfl] at e1
  rw [TL.tl_append, sep_bar.tl, e1]
  cases q : TL.tl w with
  | nil => rw [q] at h'; cases h'
  | cons a r => rw [q] at h'; simp at h'; subst h'; rfl
theorem lines_back {s : Str} (h : linesB s = true) : shownL (linesOf s) = s := by
  unfold linesB at h
  unfold shownL linesOf
  by_cases hd : s = "-"
  · simp [hd]
  · have h' : (rows s).all rowB = true := by simpa [hd] using h
    rw [if_neg hd]
    have ne : (rows s).map cut1 ≠ [] := by
      intro z
      have z' : rows s = [] := by simpa using z
      exact split_ne sep_nl s z'
    rw [if_neg ne, List.map_map]
    have : (rows s).map (barS ∘ cut1) = rows s := by
      rw [List.map_congr_left (g := id)]
      · simp
      · intro w hw
        have := List.all_eq_true.mp h' w hw
        unfold rowB at this
        exact cut1_bar (Bool.and_eq_true_iff.mp this).1
    rw [this]
    exact join_split sep_nl s
theorem cut1_len (w : Str) : (cut1 w).length ≤ w.length := cut_len w 1
theorem lines_sum (s : Str) : ((linesOf s).map Str.length).sum + (linesOf s).length ≤ s.length + 1 := by
  unfold linesOf
  split
  · simp
  · have sm := split_sum sep_nl s
    have sm' : ((rows s).map Str.length).sum + (rows s).length ≤ s.length + 1 := sm
    have : ∀ l : List Str, ((l.map cut1).map Str.length).sum ≤ (l.map Str.length).sum := fun l => by
      induction l with
      | nil => simp
      | cons a r ih => simp only [List.map_cons, List.sum_cons]; have := cut1_len a; omega
    have := this (rows s)
    rw [List.length_map]; omega
theorem lines_chars {s : Str} (hs : OkS s) : ∀ w ∈ linesOf s, ∀ c ∈ w.cps.toList, c < 256 := by
  intro w hw c hc
  unfold linesOf at hw
  split at hw
  · cases hw
  · obtain ⟨v, hv, rfl⟩ := List.mem_map.mp hw
    have : c ∈ TL.tl v := by
      have e := tl_from v 1
      have hc' : c ∈ TL.tl (cutS v (some 1) none) := hc
      rw [show ((1 : Nat) : Int) = 1 from rfl] at e
      rw [e] at hc'
      exact List.mem_of_mem_drop hc'
    rcases rows_ok hs hv c this with z | z
    · omega
    · unfold OkC at z; omega
theorem num_back2 {w : Str} (h : numB w = true) : Str.ofString (toString ((numV w : Nat) : Int)) = w := TL.ext_tl (by rw [TL.tl_num]; exact (num_val h).2)
theorem dv_lt : ∀ (k : Nat) (l : List Nat), l.length = k → NumText.AllDigits l → NumText.digitsVal l < 10 ^ k
  | 0, l, e, _ => by
    have : l = [] := List.length_eq_zero_iff.mp e
    subst this; decide
  | k + 1, l, e, hd => by
    have hn : l ≠ [] := fun z => by subst z; simp at e
    obtain ⟨r, d, rfl⟩ : ∃ r d, l = r ++ [d] := ⟨l.dropLast, l.getLast hn, (List.dropLast_concat_getLast hn).symm⟩
    have d1 := hd d (by simp)
    have ih := dv_lt k r (by simpa using e) (fun c hc => hd c (by simp [hc]))
    rw [dv_snoc, Nat.pow_succ]
    omega
theorem num_lt {w : Str} (h : numB w = true) : numV w < 1000000000 := by
  have h9 := (numB_iff.mp h).1.2
  have hd := (numB_iff.mp h).2.1
  have := dv_lt _ _ rfl hd
  have hl : w.cps.toList.length ≤ 9 := by rw [← TL.len_tl]; exact h9
  exact Nat.lt_of_lt_of_le this (Nat.le_trans (Nat.pow_le_pow_right (by decide) hl) (by decide))
theorem fmt_num {w : Str} (h : numB w = true) (H : MH) : fFmt (.int (numV w : Int)) H = .ok (.str w) H := by
  have hb := num_lt h
  show bStr [.int (numV w : Int)] H = _
  rw [bStr_I, if_pos]
  · exact congrArg (fun z => R.ok (D.str z) H) (num_back2 h)
  · have : (numV w : Int).natAbs = numV w := Int.natAbs_natCast _
    rw [this]
    have h2 : (numV w).log2 < 30 := by
      by_cases hn : numV w = 0
      · rw [hn]; decide
      · rw [Nat.log2_lt hn]; exact Nat.lt_of_lt_of_le hb (by decide)
    omega
theorem show_edit_g {w0 w1 b : Str} (h0 : numB w0 = true) (h1 : numB w1 = true) (hl : b.length ≤ 100000) (hs : OkS b) (hb : linesB b = true) (h : MH) :
    ∃ h', Pg.F_show_edit [.tup [.int (numV w0 : Int), .int (numV w1 : Int), .tup ((linesOf b).map D.str)]] h = .ok (.str (w0 ++ (" " : Str) ++ w1 ++ ("\n" : Str) ++ b)) h' ∧ Gr h h' := by
  have sz : 1000000 ≤ sizeLine := by decide
  obtain ⟨h2, e, G⟩ := show_lines_g (linesOf b) (lines_chars hs) (by have := lines_sum b; omega) h
  rw [lines_back hb] at e
  have l0 := (numB_iff.mp h0).1
  have l1 := (numB_iff.mp h1).1
  have s1 : (" " : Str).length = 1 := rfl
  have s2 : ("\n" : Str).length = 1 := rfl
  have f0 := fmt_num h0
  have f1 := fmt_num h1
  have fs : ∀ t : Str, t.length ≤ 100000 → ∀ H, fFmt (.str t) H = .ok (.str t) H := fun t ht H => if_pos (by omega)
  have fb := fs b hl
  have f2 := fs " " (by decide)
  have f3 := fs "\n" (by decide)
  have g0 : w0.length ≤ sizeLine := by omega
  have g1 : (w0 ++ (" " : Str)).length ≤ sizeLine := by rw [app_len]; omega
  have g2 : (w0 ++ (" " : Str) ++ w1).length ≤ sizeLine := by rw [app_len, app_len]; omega
  have g3 : (w0 ++ (" " : Str) ++ w1 ++ ("\n" : Str)).length ≤ sizeLine := by rw [app_len, app_len, app_len]; omega
  have g4 : (w0 ++ (" " : Str) ++ w1 ++ ("\n" : Str) ++ b).length ≤ sizeLine := by rw [app_len, app_len, app_len, app_len]; omega
  refine ⟨h2, ?_, G⟩
  simp only [Pg.F_show_edit, Pg.b_show_edit]
  simp [sets, f0, f1, f2, f3, e, fb, emp_app, g0, g1, g2, g3, g4]
def shF (way : Nat) : List D → MH → R D := match way with
  | 0 => Pg.F_show_state
  | 1 => Pg.F_show_lines
  | _ => Pg.F_show_edit
theorem sh_ok {way : Nat} (hw : way < 3) {s : Str} (hl : s.length ≤ 100000) (hs : OkS s) (ho : okB way s = true) (h : MH) : ∃ h', shF way [valD way s] h = .ok (.str s) h' ∧ Gr h h' := by
  match way, hw with
  | 0, _ => exact ⟨h, show_state_g hl h, Gr.refl⟩
  | 1, _ =>
    obtain ⟨h2, e, G⟩ := show_lines_g (linesOf s) (lines_chars hs) (by have := lines_sum s; omega) h
    have hb : linesB s = true := ho
    rw [lines_back hb] at e
    exact ⟨h2, e, G⟩
  | 2, _ =>
    have ho' : editOk (Txt.partition s "\n").1 (Txt.partition s "\n").2.1 (Txt.partition s "\n").2.2 = true := ho
    show ∃ h', Pg.F_show_edit [editV (Txt.partition s "\n").1 (Txt.partition s "\n").2.2] h = _ ∧ _
    rcases cut_cases sep_nl s with hn | ⟨a, b, es, ha⟩
    · rw [part_no sep_nl hn] at ho'
      exfalso
      unfold editOk at ho'
      split at ho'
      · have : decide (Str.empty ≠ ("" : Str)) = false := by decide
        simp [this] at ho'
      · cases ho'
    · have pn := part_cut sep_nl b ha
      rw [← es] at pn
      rw [pn] at ho' ⊢
      have al : b.length ≤ s.length := by rw [es, app_len, app_len]; omega
      simp only at ho' ⊢
      unfold editOk at ho'
      unfold editV
      split at ho'
      · rename_i w0 w1 q
        simp only [Bool.and_eq_true] at ho'
        have hsb : OkS b := fun c hc => hs c (by rw [es, TL.tl_append]; exact List.mem_append_right _ hc)
        obtain ⟨h2, e, G⟩ := show_edit_g ho'.1.1 ho'.1.2 (by omega) hsb ho'.2.1.2 h
        have ea : a = w0 ++ (" " : Str) ++ w1 := by
          have := join_split sep_sp a
          have q' : Txt.split a " " = [w0, w1] := q
          rw [q'] at this
          rw [← this, TL.join_eq]; rfl
        rw [← ea, ← es] at e
        exact ⟨h2, e, G⟩
      · cases ho'
end MP
set_option Elab.async false
set_option linter.all false
set_option maxRecDepth 100000
set_option maxHeartbeats 2000000
namespace MP
open PySem PySem.Spec L2
theorem isE_bs {n : Nat} {d : D} {H : MH} (q : H[n]? = some (.err "BadShown" d)) : bIsE (tIs Pg.errCs) (tIv Pg.errCs) [.loc n, .fn "BadShown"] H = .ok (.bl true) H := by
  have t : tIs Pg.errCs ("BadShown" : Str) "BadShown" = some true := by decide +kernel
  simp [bIsE, q, t]
theorem errV_bs {n : Nat} {d : D} {H : MH} (q : H[n]? = some (.err "BadShown" d)) : fErrV Pg.errCs (.loc n) H = .ok d H := by
  have t : ("BadShown" : Str) ∈ Pg.errCs := by decide +kernel
  simp [fErrV, q, t]
theorem e_mErrV (Cs : List Str) (m : M) (env : Env) (h : MH) : mErrV Cs m env h = (m env h).bind (fErrV Cs) := rfl
theorem isi_tup (ds : List D) (h : MH) : bIsi [.tup ds, .ty "tuple"] h = .ok (.bl true) h := rfl
theorem right_str {way : Nat} (hw : way < 3) {s : Str} (hl : s.length ≤ 100000) (hs : OkS s) (h : MH) : ∃ h', Pg.F_law_is_right [.int (way : Int), .str s] h = .ok (.bl true) h' ∧ Gr h h' := by
  obtain ⟨h1, e1, G1⟩ := shown_str way s hl h
  have rs := read_sv way (.str s) h
  rw [e1] at rs
  simp only [Pg.F_law_is_right, Pg.b_law_is_right]
  by_cases ho : okB way s = true
  · rw [if_pos ho] at rs
    have tl := told_ok hw rs
    obtain ⟨h2, e2, G2⟩ := law_due_g way hw s hs hl h1
    rw [ho] at e2
    obtain ⟨h3, e3, G3⟩ := sh_ok hw hl hs ho h2
    obtain ⟨ds, ed⟩ := val_tup ho
    rw [ed] at tl e3
    have it := isi_tup ds h2
    refine ⟨h3, ?_, (G1.trans G2).trans G3⟩
    match way, hw with
    | 0, _ => have e' : Pg.F_show_state [.tup ds] h2 = .ok (.str s) h3 := e3; simp at tl e2; simp [tl, e2, it, e']
    | 1, _ => have e' : Pg.F_show_lines [.tup ds] h2 = .ok (.str s) h3 := e3; simp at tl e2; simp [tl, e2, it, e']
    | 2, _ => have e' : Pg.F_show_edit [.tup ds] h2 = .ok (.str s) h3 := e3; simp at tl e2; simp [tl, e2, it, e']
  · rw [if_neg ho] at rs
    have tl := told_er hw rs
    have q := get_new h1 (.err "BadShown" (.str s))
    obtain ⟨h2, e2, G2⟩ := law_due_g way hw s hs hl (h1 ++ [.err "BadShown" (.str s)])
    rw [Bool.not_eq_true] at ho
    rw [ho] at e2
    have q2 := G2.keep _ _ q
    have i2 := isE_bs q2
    have v2 := errV_bs q2
    have hc : ∀ c ∈ s.cps.toList, c < 256 := fun c hc => by
      rcases hs c hc with z | z | z
      · omega
      · omega
      · unfold OkC at z; omega
    have rp := bRepr_str hc hl h2
    refine ⟨h2, ?_, (G1.trans Gr.app).trans G2⟩
    simp [tl, e2, i2, e_mErrV, v2, rp]
theorem right_odd {way : Nat} (hw : way < 3) {x : D} {h : MH} (hx : ∀ h', Gr h h' → bIsi [x, .ty "str"] h' = .ok (.bl false) h') (hr : ∀ h', Gr h h' → ∃ t, bRepr [x] h' = .ok (.str t) h') :
    ∃ h', Pg.F_law_is_right [.int (way : Int), x] h = .ok (.bl true) h' ∧ Gr h h' := by
  have rs := read_sv way x h
  rw [shown_odd way (hx h Gr.refl)] at rs
  have tl := told_er hw rs
  have q2 := get_new h (.err "BadShown" x)
  have i2 := isE_bs q2
  have v2 := errV_bs q2
  have e2 : Pg.F_law_due [.int (way : Int), x] (h ++ [.err "BadShown" x]) = .ok (.bl false) (h ++ [.err "BadShown" x]) := by
    simp only [Pg.F_law_due, Pg.b_law_due]
    simp [Pg.b_law_due_8, hx _ Gr.app]
  obtain ⟨t, rp⟩ := hr (h ++ [.err "BadShown" x]) Gr.app
  refine ⟨_, ?_, Gr.app (l := [.err "BadShown" x])⟩
  simp only [Pg.F_law_is_right, Pg.b_law_is_right]
  simp [tl, e2, i2, e_mErrV, v2, rp]
end MP
set_option Elab.async false
set_option linter.all false
set_option maxRecDepth 100000
set_option maxHeartbeats 2000000
namespace MP
open PySem PySem.Spec L2
theorem take_e : Pg.F_law_take = takeF := rfl
theorem of_e : Pg.F_law_of = ofF := rfl
theorem pot_e : Pg.F_law_pot = potF := rfl
structure StL (k : Nat) (h : MH) (l : Nat) (S : Str → Prop) : Prop where
  ex : ∃ ss : List Str, h[l]? = some (.lst (ss.map D.str)) ∧ 0 < ss.length ∧ ss.length ≤ k ∧ ∀ s ∈ ss, S s
theorem StL.fr {k : Nat} {h h' : MH} {l p : Nat} {S : Str → Prop} (q : StL k h l S) (f : Fr p h h') (hl : l ≠ p) : StL k h' l S := by
  obtain ⟨ss, e, r⟩ := q.ex
  exact ⟨ss, f.keep _ _ hl e, r⟩
theorem StL.app {k : Nat} {h l' : MH} {l : Nat} {S : Str → Prop} (q : StL k h l S) : StL k (h ++ l') l S := by
  obtain ⟨ss, e, r⟩ := q.ex
  exact ⟨ss, get_app e, r⟩
theorem StL.new {k : Nat} (h : MH) (ss : List Str) {S : Str → Prop} (h0 : 0 < ss.length) (h1 : ss.length ≤ k) (hs : ∀ s ∈ ss, S s) : StL k (h ++ [.lst (ss.map D.str)]) h.length S := ⟨ss, get_new _ _, h0, h1, hs⟩
theorem of_str {k : Nat} {h : MH} {p l : Nat} {T : Int} {S : Str → Prop} (P : Pot h p T) (hT : T < 1000000) (Q : StL k h l S) (hl : l ≠ p) (hk : k < 100000) :
    ∃ s h', ofF [.loc p, .loc l] h = .ok (.str s) h' ∧ S s ∧ Pot h' p (T + 1) ∧ Fr p h h' := by
  obtain ⟨ss, e, h0, h1, hs⟩ := Q.ex
  obtain ⟨x, h', e1, hx, P', F⟩ := of_ok P hT e hl (by simpa using h0) (by simp; omega)
  obtain ⟨s, hm, rfl⟩ := List.mem_map.mp hx
  exact ⟨s, h', e1, hs s hm, P', F⟩
theorem f_inT (s : Str) (ds : List D) (h : MH) : fIn (.str s) (.tup ds) h = if ds.all flatD = true then .ok (.bl (inS (.str s) ds)) h else .no := by
  show (match (if flatD (.str s) = true ∧ ds.all flatD = true then some (inS (.str s) ds) else none) with | some b => R.ok (D.bl b) h | none => .no) = _
  have : flatD (.str s) = true := rfl
  by_cases q : ds.all flatD = true
  · rw [if_pos q, if_pos ⟨this, q⟩]
  · rw [if_neg q, if_neg (fun z => q z.2)]
theorem deed_ok {h : MH} {p n m : Nat} {T : Int} {S S' : Str → Prop} (P : Pot h p T) (hT : T < 900000) (N : StL 100 h n S) (hn : n ≠ p) (M : StL 100 h m S') (hm : m ≠ p) :
    ∃ ds h', Pg.F_law_deed [.loc p, .loc n, .loc m] h = .ok (.tup ds) h' ∧ Pot h' p (T + 2) ∧ Fr p h h' := by
  obtain ⟨s, h1, e1, -, P1, F1⟩ := of_str P (by omega) M hm (by decide)
  obtain ⟨t, h2, e2, -, P2, F2⟩ := of_str P1 (by omega) (N.fr F1 hn) hn (by decide)
  have s1 : 1 ≤ sizeLine := by decide
  have s2 : 2 ≤ sizeLine := by decide
  have s0 : 0 ≤ sizeLine := by decide
  have ht : [D.str "open", D.str "turn"].all flatD = true := rfl
  cases b : inS (.str s) [.str "open", .str "turn"] with
  | true =>
    refine ⟨[.str s, .str t], h2, ?_, P2.mono (by omega), F1.trans F2⟩
    simp [Pg.F_law_deed, Pg.b_law_deed, of_e, e1, e2, f_inT, ht, b, s2]
  | false =>
    by_cases hs : s = ("" : Str)
    · refine ⟨[], h1, ?_, P1.mono (by omega), F1⟩
      simp [Pg.F_law_deed, Pg.b_law_deed, of_e, e1, e2, f_inT, ht, b, s2, hs]
      simp [← hs, b]
    · refine ⟨[.str s], h1, ?_, P1.mono (by omega), F1⟩
      simp [Pg.F_law_deed, Pg.b_law_deed, of_e, e1, e2, f_inT, ht, b, s2, hs, s1]

theorem StL.up {k k' : Nat} {h : MH} {l : Nat} {S : Str → Prop} (q : StL k h l S) (hk : k ≤ k') : StL k' h l S := by
  obtain ⟨ss, e, a, b, c⟩ := q.ex
  exact ⟨ss, e, a, by omega, c⟩
/-- only the locations of c change; new ones come -/
structure Ch (c : List Nat) (h h' : MH) : Prop where
  le : h.length ≤ h'.length
  keep : ∀ (i : Nat) (mo : MO), i ∉ c → h[i]? = some mo → h'[i]? = some mo
theorem Ch.refl {c : List Nat} {h : MH} : Ch c h h := ⟨Nat.le_refl _, fun _ _ _ e => e⟩
theorem Ch.trans {c : List Nat} {h h1 h2 : MH} (a : Ch c h h1) (b : Ch c h1 h2) : Ch c h h2 := ⟨Nat.le_trans a.le b.le, fun i mo hi e => b.keep i mo hi (a.keep i mo hi e)⟩
theorem Ch.app {c : List Nat} {h l : MH} : Ch c h (h ++ l) := ⟨by simp, fun _ _ _ e => get_app e⟩
theorem Ch.set {c : List Nat} {h : MH} {n : Nat} {v : MO} (hn : n ∈ c) : Ch c h (h.set n v) := ⟨by simp, fun i mo hi e => by rw [List.getElem?_set_ne (fun (z : n = i) => hi (by rw [← z]; exact hn))]; exact e⟩
theorem Fr.ch {c : List Nat} {p : Nat} {h h' : MH} (f : Fr p h h') (hp : p ∈ c) : Ch c h h' := ⟨f.le, fun i mo hi e => f.keep i mo (fun z => hi (z ▸ hp)) e⟩
theorem Gr.ch {c : List Nat} {h h' : MH} (f : Gr h h') : Ch c h h' := ⟨f.le, fun i mo _ e => f.keep i mo e⟩
theorem Ch.fr {c : List Nat} {p : Nat} {h h' : MH} (f : Ch c h h') (hc : ∀ i ∈ c, i = p ∨ h.length ≤ i) : Fr p h h' := ⟨f.le, fun i mo hi e => f.keep i mo (fun z => by
  have : i < h.length := (List.getElem?_eq_some_iff.mp e).1
  rcases hc i z with q | q
  · exact hi q
  · omega) e⟩
theorem Ch.gr {c : List Nat} {h h' : MH} (f : Ch c h h') (hc : ∀ i ∈ c, h.length ≤ i) : Gr h h' := ⟨f.le, fun i mo e => f.keep i mo (fun z => by
  have : i < h.length := (List.getElem?_eq_some_iff.mp e).1
  have := hc i z
  omega) e⟩
theorem Ch.more {c c' : List Nat} {h h' : MH} (f : Ch c h h') (hc : ∀ i ∈ c, i ∈ c' ∨ h.length ≤ i) : Ch c' h h' := ⟨f.le, fun i mo hi e => f.keep i mo (fun z => by
  have : i < h.length := (List.getElem?_eq_some_iff.mp e).1
  rcases hc i z with q | q
  · exact hi q
  · omega) e⟩
theorem StL.ch {k : Nat} {c : List Nat} {h h' : MH} {l : Nat} {S : Str → Prop} (q : StL k h l S) (f : Ch c h h') (hl : l ∉ c) : StL k h' l S := by
  obtain ⟨ss, e, r⟩ := q.ex
  exact ⟨ss, f.keep _ _ hl e, r⟩
def anyS (_ : Str) : Prop := True
theorem inner_step {h : MH} {p l1 ow : Nat} {T : Int} {S : Str → Prop} {rows : List D} {sg : Str} {d2 d3 d4 d5 d6 d8 d10 : Option D} (P : Pot h p T) (hT : T < 800000) (N : StL 100 h l1 S) (hl : l1 ≠ p)
    (hr : h[ow]? = some (.lst rows)) (ho : ow ≠ p) (hr2 : rows.length < 100) :
    ∃ d10' h', Pg.b_law_book_1 [some (.loc p), some (.loc l1), d2, d3, d4, d5, d6, some (.loc ow), d8, some (.str sg), d10] h = .nx [some (.loc p), some (.loc l1), d2, d3, d4, d5, d6, some (.loc ow), d8, some (.str sg), d10'] h' ∧
      Pot h' p (T + 4) ∧ Ch [p, ow] h h' ∧ ∃ rows', h'[ow]? = some (.lst rows') ∧ (rows' = rows ∨ ∃ sh dd, rows' = rows ++ [.tup [.str sg, sh, .tup dd]]) := by
  obtain ⟨n, hn0, hn1, en⟩ : ∃ n : Int, 0 < n ∧ n < 10 ∧ (if sg = ("any" : Str) then R.ok (D.int 5) h else R.ok (D.int 2) h) = R.ok (.int n) h := by
    by_cases q : sg = ("any" : Str)
    · exact ⟨5, by decide, by decide, by simp [q]⟩
    · exact ⟨2, by decide, by decide, by simp [q]⟩
  obtain ⟨d, h1, e1, d0, d1, P1, F1⟩ := take_ok P (by omega) hn0 (by omega)
  by_cases hd : d = 0
  · subst hd
    have s3 : 3 ≤ sizeLine := by decide
    have s5 : 5 ≤ sizeLine := by decide
    have sl : rows.length < sizeLine := Nat.lt_trans hr2 (by decide)
    have P1' : Pot (h1 ++ [.lst ([("red" : Str), "blue", "green"].map D.str)]) p (T + 1) := P1.app
    obtain ⟨c, h2, e2, -, P2, F2⟩ := of_str P1' (by omega) (StL.new (k := 100) h1 ["red", "blue", "green"] (S := anyS) (by decide) (by decide) (fun _ _ => trivial)) (Nat.ne_of_gt P1.lt) (by decide)
    have N2 : StL 100 h2 l1 S := ((N.fr F1 hl).app).fr F2 hl
    have r2 : h2[ow]? = some (.lst rows) := F2.keep _ _ ho (get_app (F1.keep _ _ ho hr))
    have P2' : Pot (h2 ++ [.lst ([("open" : Str), "open", "turn", "close", ""].map D.str)]) p (T + 1 + 1) := P2.app
    obtain ⟨dd, h3, e3, P3, F3⟩ := deed_ok P2' (by omega) (N2.app) hl (StL.new (k := 100) h2 ["open", "open", "turn", "close", ""] (S := anyS) (by decide) (by decide) (fun _ _ => trivial)) (Nat.ne_of_gt P2.lt)
    have r3 : h3[ow]? = some (.lst rows) := F3.keep _ _ ho (get_app r2)
    refine ⟨some (.str c), h3.set ow (.lst (rows ++ [.tup [.str sg, .str c, .tup dd]])), ?_, (P3.set ho).mono (by omega),
      (((F1.ch (by simp)).trans Ch.app).trans ((F2.ch (by simp)).trans Ch.app)).trans ((F3.ch (by simp)).trans (Ch.set (by simp))), _, get_set r3, .inr ⟨_, _, rfl⟩⟩
    simp only [List.map_cons, List.map_nil] at e2 e3
    simp [Pg.b_law_book_1, take_e, of_e, en, e1, s3, s5, e2, e3, r2, r3, fAppend, tyM, sl]
  · refine ⟨d10, h1, ?_, P1.mono (by omega), F1.ch (by simp), rows, F1.keep _ _ ho hr, .inl rfl⟩
    simp [Pg.b_law_book_1, take_e, en, e1, hd]

def NMs : List Str := ["a", "b", "c"]
def SGs : List Str := ["!", "a", " "]
def RowOk (r : D) : Prop := ∃ sg sh dd, r = .tup [.str sg, sh, dd] ∧ (sg ∈ SGs ∨ sg = ("any" : Str))
def MdOk (c : List Nat) (h : MH) (md : D) : Prop := ∃ nm col en o rows, md = .tup [.str nm, col, en, .loc o] ∧ nm ∈ NMs ∧ o ∉ c ∧ h[o]? = some (.lst rows) ∧ rows.length ≤ 4 ∧ ∀ r ∈ rows, RowOk r
theorem MdOk.ch {c : List Nat} {h h' : MH} {md : D} (q : MdOk c h md) (f : Ch c h h') : MdOk c h' md := by
  obtain ⟨nm, col, en, o, rows, a, b, d, e, r⟩ := q
  exact ⟨nm, col, en, o, rows, a, b, d, f.keep _ _ d e, r⟩
theorem lt_of_get {h : MH} {n : Nat} {v : MO} (e : h[n]? = some v) : n < h.length := (List.getElem?_eq_some_iff.mp e).1
theorem StL.lt {k : Nat} {h : MH} {l : Nat} {S : Str → Prop} (q : StL k h l S) : l < h.length := by
  obtain ⟨ss, e, r⟩ := q.ex
  exact lt_of_get e
theorem outer_step {h : MH} {p l1 m s4 : Nat} {T : Int} {ms : List D} {nm : Str} {d3 d6 d7 d8 d9 d10 : Option D} (P : Pot h p T) (hT : T < 700000) (N : StL 100 h l1 (· ∈ NMs)) (hl : l1 ≠ p) (hlm : l1 ≠ m)
    (hm : h[m]? = some (.lst ms)) (hmp : m ≠ p) (hm2 : ms.length < 100) (G : StL 3 h s4 (· ∈ SGs)) (h4 : s4 ≠ p) (h4m : s4 ≠ m) (hnm : nm ∈ NMs) :
    ∃ d6' d7' d8' d9' d10' h', Pg.b_law_book_2 [some (.loc p), some (.loc l1), some (.loc m), d3, some (.loc s4), some (.str nm), d6, d7, d8, d9, d10] h = .nx [some (.loc p), some (.loc l1), some (.loc m), d3, some (.loc s4), some (.str nm), d6', d7', d8', d9', d10'] h' ∧
      Pot h' p (T + 20) ∧ Ch [p, m] h h' ∧ ∃ md, h'[m]? = some (.lst (ms ++ [md])) ∧ MdOk [p, m] h' md := by
  have s0 : 0 ≤ sizeLine := by decide
  have s1 : 1 ≤ sizeLine := by decide
  have s3 : 3 ≤ sizeLine := by decide
  have s4' : 4 ≤ sizeLine := by decide
  have s5 : 5 ≤ sizeLine := by decide
  have P0 : Pot (h ++ [.lst ([("red" : Str), "red", "blue"].map D.str)]) p T := P.app
  obtain ⟨col, h1, e1, -, P1, F1⟩ := of_str P0 (by omega) (StL.new (k := 100) h ["red", "red", "blue"] (S := anyS) (by decide) (by decide) (fun _ _ => trivial)) (Nat.ne_of_gt P.lt) (by decide)
  have C1 : Ch [p] h h1 := Ch.app.trans (F1.ch (by simp))
  have pl1 : p < h1.length := P1.lt
  have ml1 : m < h1.length := Nat.lt_of_lt_of_le (lt_of_get hm) C1.le
  have P1a : Pot (h1 ++ [.lst []]) p (T + 1) := P1.app
  have P1b : Pot ((h1 ++ [.lst []]) ++ [.lst ([("" : Str), "", "close", "end", "turn"].map D.str)]) p (T + 1) := P1a.app
  have N1 : StL 100 ((h1 ++ [.lst []]) ++ [.lst ([("" : Str), "", "close", "end", "turn"].map D.str)]) l1 (· ∈ NMs) := ((N.ch C1 (by simpa using hl)).app).app
  obtain ⟨en, h2, e2, P2, F2⟩ := deed_ok P1b (by omega) N1 hl (StL.new (k := 100) (h1 ++ [.lst []]) ["", "", "close", "end", "turn"] (S := anyS) (by decide) (by decide) (fun _ _ => trivial)) (Nat.ne_of_gt P1a.lt)
  have C2 : Ch [p] h h2 := C1.trans ((Ch.app.trans Ch.app).trans (F2.ch (by simp)))
  have C12 : Ch [p] (h1 ++ [.lst []]) h2 := Ch.app.trans (F2.ch (by simp))
  obtain ⟨ss, eG, G0, G1, GS⟩ := (G.ch C2 (by simpa using h4)).ex
  have o2 : h2[h1.length]? = some (.lst []) := C12.keep _ _ (by simp; omega) (get_new _ _)
  have N2 : StL 100 h2 l1 (· ∈ NMs) := N.ch C2 (by simpa using hl)
  have m2 : h2[m]? = some (.lst ms) := C2.keep _ _ (by simpa using hmp) hm
  -- the signs and "any"
  have h2a : ((h2 ++ [.lst [D.str "any"]]) ++ [.lst (ss.map D.str ++ [D.str "any"])]) = h2 ++ [.lst [D.str "any"]] ++ [.lst ((ss ++ [("any" : Str)]).map D.str)] := by simp
  have el : ((h2 ++ [MO.lst [D.str "any"]]) ++ [MO.lst ((ss ++ [("any" : Str)]).map D.str)])[(h2 ++ [MO.lst [D.str "any"]]).length]? = some (.lst ((ss ++ [("any" : Str)]).map D.str)) := get_new _ _
  have hpl : p < h2.length := P2.lt
  obtain ⟨e', h3, e3, d9', d10', rfl, P3, C3, rows, r3, rl, ro⟩ := loopF_run (src := .lst (.loc (h2 ++ [MO.lst [D.str "any"]]).length)) (tg := .nm 9) (body := Pg.b_law_book_1) (ds := (ss ++ [("any" : Str)]).map D.str)
    (Pv := fun i e h' => ∃ d9 d10, e = [some (.loc p), some (.loc l1), some (.loc m), d3, some (.loc s4), some (.str nm), some (.str col), some (.loc h1.length), some (.tup en), d9, d10] ∧ Pot h' p (T + 3 + 4 * i) ∧
      Ch [p, h1.length] ((h2 ++ [.lst [D.str "any"]]) ++ [.lst ((ss ++ [("any" : Str)]).map D.str)]) h' ∧ ∃ rows, h'[h1.length]? = some (.lst rows) ∧ rows.length ≤ i ∧ ∀ r ∈ rows, RowOk r)
    (fun i e h' ⟨_, _, _, _, C, _⟩ => get_lst (C.keep _ _ (by
      have := lt_of_get o2
      simp
      omega) el) i)
    (fun i e h' d ⟨d9, d10, ee, Pq, C, rows, r, rl, ro⟩ hd => by
      subst ee
      obtain ⟨hi, rfl⟩ := List.getElem?_eq_some_iff.mp hd
      have hi2 : i < ss.length + 1 := by simpa using hi
      have hsg := List.getElem_mem (l := ss ++ [("any" : Str)]) (n := i) (by simpa using hi)
      obtain ⟨d10', h'', e, Pn, Cn, rows', r', hr'⟩ := inner_step (sg := (ss ++ [("any" : Str)])[i]'(by simpa using hi)) (d2 := some (.loc m)) (d3 := d3) (d4 := some (.loc s4)) (d5 := some (.str nm)) (d6 := some (.str col)) (d8 := some (.tup en)) (d10 := d10) Pq (by omega)
        ((N2.app (l' := [MO.lst [D.str "any"]])).app.ch C (by
          have := N.lt
          have := C1.le
          simp
          omega)) hl r (by omega) (by omega)
      refine ⟨_, rfl, _, h'', .inl ?_, some (.str ((ss ++ [("any" : Str)])[i]'(by simpa using hi))), d10', rfl, Pn.mono (by omega), C.trans Cn, rows', r', ?_, ?_⟩
      · simp only [List.getElem_map, List.set]; exact e
      · rcases hr' with rfl | ⟨_, _, rfl⟩
        · omega
        · simp; omega
      · rcases hr' with rfl | ⟨sh, dd, rfl⟩
        · exact ro
        · intro x hx
          rcases List.mem_append.mp hx with hx | hx
          · exact ro x hx
          · rw [List.mem_singleton.mp hx]
            refine ⟨_, _, _, rfl, ?_⟩
            rcases List.mem_append.mp hsg with q | q
            · exact .inl (GS _ q)
            · exact .inr (List.mem_singleton.mp q))
    ((ss ++ [("any" : Str)]).map D.str).length (((ss ++ [("any" : Str)]).map D.str).length + 1) 0 [some (.loc p), some (.loc l1), some (.loc m), d3, some (.loc s4), some (.str nm), some (.str col), some (.loc h1.length), some (.tup en), d9, d10]
    _ (by simp) (by omega) ⟨d9, d10, rfl, P2.app.app.mono (by omega), Ch.refl, [], get_app (get_app o2), by simp, by simp⟩
  have m3 : h3[m]? = some (.lst ms) := C3.keep _ _ (by simp; omega) (get_app (get_app m2))
  have sl : ms.length < sizeLine := Nat.lt_trans hm2 (by decide)
  have sg4 : ss.length + 1 ≤ sizeLine := Nat.le_trans (show ss.length + 1 ≤ 4 by omega) (by decide)
  have rl4 : rows.length ≤ 4 := by simp at rl; omega
  refine ⟨some (.str col), some (.loc h1.length), some (.tup en), d9', d10', h3.set m (.lst (ms ++ [.tup [.str nm, .str col, .tup en, .loc h1.length]])), ?_, ?_, ?_, _, get_set m3, nm, _, _, _, rows, rfl, hnm, by simp; omega, ?_, rl4, ro⟩
  · simp only [List.map_append, List.map_cons, List.map_nil, List.append_assoc, List.cons_append, List.nil_append, List.length_append, List.length_map, List.length_cons, List.length_nil, Nat.zero_add] at e1 e2 e3
    have gG : (h2 ++ [MO.lst [D.str "any"]])[s4]? = some (.lst (ss.map D.str)) := get_app eG
    have ga : (h2 ++ [MO.lst [D.str "any"]])[h2.length]? = some (.lst [D.str "any"]) := get_new _ _
    have gb : (h2 ++ [MO.lst [D.str "any"], MO.lst (ss.map D.str ++ [D.str "any"])])[h2.length + 1]? = some (.lst (ss.map D.str ++ [D.str "any"])) := by simp
    have fu := fuel_lst gb
    simp only [List.length_append, List.length_map, List.length_cons, List.length_nil, Nat.zero_add] at fu
    simp [Pg.b_law_book_2, of_e, s0, s1, s3, s4', s5, e1, e2, e3, gG, ga, sg4, m3, fAppend, tyM, sl, gb, fu]
  · refine (P3.set hmp).mono ?_
    simp
    omega
  · have C4 : Ch [p, h1.length] h h3 := ((C2.more (fun i hi => by simp at hi; simp [hi])).trans (Ch.app.trans Ch.app)).trans C3
    have C5 : Ch [p, m] h h3 := C4.more (fun i hi => by
      simp at hi
      rcases hi with rfl | rfl
      · simp
      · exact .inr C1.le)
    exact C5.trans (Ch.set (by simp))
  · rw [List.getElem?_set_ne (by omega)]; exact r3
end MP
set_option Elab.async false
set_option linter.all false
set_option maxRecDepth 100000
set_option maxHeartbeats 2000000
namespace MP
open PySem PySem.Spec L2
theorem sl3 {h : MH} {p : Nat} {T : Int} (P : Pot h p T) (hT : T < 800000) (a b c : Str) (env : Env) (he : env[0]? = some (some (.loc p))) :
    ∃ l h', mSl (mLst (aCons (mC (.str a)) (aCons (mC (.str b)) (aCons (mC (.str c)) aNil)))) oNone (oSome (mBin fAdd (mC (.int 1)) (mCall 2 Pg.F_law_take (aCons (mVar 0) (aCons (mC (.int 3)) aNil))))) env h = .ok (.loc l) h' ∧
      StL 3 h' l (· ∈ [a, b, c]) ∧ h.length ≤ l ∧ Pot h' p (T + 1) ∧ Fr p h h' := by
  have s3 : 3 ≤ sizeLine := by decide
  have P0 : Pot (h ++ [.lst [.str a, .str b, .str c]]) p T := P.app
  obtain ⟨d, h1, e1, d0, d1, P1, F1⟩ := take_ok P0 (by omega) (by decide : (0 : Int) < 3) (by decide)
  have g1 : h1[h.length]? = some (.lst [.str a, .str b, .str c]) := F1.keep _ _ (Nat.ne_of_gt P.lt) (get_new _ _)
  have gl : lstOf h1 (.loc h.length) = some [.str a, .str b, .str c] := by rw [lstOf_L, g1]
  have hd : d = 0 ∨ d = 1 ∨ d = 2 := by omega
  have L : h.length ≤ h1.length := Nat.le_trans (by simp) F1.le
  have C : Fr p h h1 := Fr.app.trans F1
  rcases hd with rfl | rfl | rfl
  · refine ⟨h1.length, h1 ++ [.lst [.str a]], ?_, ⟨[a], get_new _ _, by simp, by simp, by simp⟩, L, P1.app, C.trans Fr.app⟩
    simp [s3, he, take_e, e1, fSl, g1]
    rfl
  · refine ⟨h1.length, h1 ++ [.lst [.str a, .str b]], ?_, ⟨[a, b], get_new _ _, by simp, by simp, by simp⟩, L, P1.app, C.trans Fr.app⟩
    simp [s3, he, take_e, e1, fSl, g1]
    rfl
  · refine ⟨h1.length, h1 ++ [.lst [.str a, .str b, .str c]], ?_, ⟨[a, b, c], get_new _ _, by simp, by simp, by simp⟩, L, P1.app, C.trans Fr.app⟩
    simp [s3, he, take_e, e1, fSl, g1]
    rfl
def Bk (h : MH) (p b : Nat) : Prop := ∃ m dep ms, b ≠ p ∧ m ≠ p ∧ h[b]? = some (.dic [(.inr "depth", dep), (.inr "modes", .loc m)]) ∧ h[m]? = some (.lst ms) ∧ 0 < ms.length ∧ ms.length ≤ 3 ∧ ∀ md ∈ ms, MdOk [p] h md
theorem Bk.fr {h h' : MH} {p b : Nat} (q : Bk h p b) (f : Fr p h h') : Bk h' p b := by
  obtain ⟨m, dep, ms, a, c, d, e, r, s, t⟩ := q
  exact ⟨m, dep, ms, a, c, f.keep _ _ a d, f.keep _ _ c e, r, s, fun md hm => (t md hm).ch (f.ch (by simp))⟩
theorem book_ok {h : MH} {p : Nat} {T : Int} (P : Pot h p T) (hT : T < 600000) :
    ∃ b h', Pg.F_law_book [.loc p] h = .ok (.loc b) h' ∧ Bk h' p b ∧ Pot h' p (T + 70) ∧ Fr p h h' := by
  have s0 : 0 ≤ sizeLine := by decide
  have s3 : 3 ≤ sizeLine := by decide
  obtain ⟨l1, h1, e1, N1, L1, P1, F1⟩ := sl3 P (by omega) "a" "b" "c" [some (.loc p), none, none, none, none, none, none, none, none, none, none] rfl
  have P1a : Pot ((h1 ++ [.lst []]) ++ [.lst [D.int 2, .int 2, .int 1]]) p (T + 1) := P1.app.app
  obtain ⟨dep, h2, e2, -, P2, F2⟩ := of_ok P1a (by omega) (get_new _ _) (by have := P1.lt; simp; omega) (by simp) (by simp)
  obtain ⟨l4, h3, e3, N3, L3, P3, F3⟩ := sl3 P2 (by omega) "!" "a" " " [some (.loc p), some (.loc l1), some (.loc h1.length), none, none, none, none, none, none, none, none] rfl
  have F2' : Fr p h1 h3 := ((Fr.app.trans Fr.app).trans F2).trans F3
  have hp := P.lt
  have hp1 := P1.lt
  have l1p : l1 ≠ p := by omega
  have N3' : StL 3 h3 l1 (· ∈ NMs) := N1.fr F2' l1p
  have m3 : h3[h1.length]? = some (.lst []) := F3.keep _ _ (by omega) (F2.keep _ _ (by omega) (get_app (get_new _ _)))
  have l1l := N1.lt
  have l2 := F2.le
  simp at l2
  obtain ⟨nn, en, n0, n1, nS⟩ := N3'.ex
  obtain ⟨e', h4, e4, d5, d6, d7, d8, d9, d10, rfl, P4, C4, ms, m4, ml, mo⟩ := loopF_run (src := .lst (.loc l1)) (tg := .nm 5) (body := Pg.b_law_book_2) (ds := nn.map D.str)
    (Pv := fun i e h' => ∃ d5 d6 d7 d8 d9 d10, e = [some (.loc p), some (.loc l1), some (.loc h1.length), some dep, some (.loc l4), d5, d6, d7, d8, d9, d10] ∧ Pot h' p (T + 3 + 20 * i) ∧
      Ch [p, h1.length] h3 h' ∧ ∃ ms, h'[h1.length]? = some (.lst ms) ∧ ms.length = i ∧ ∀ md ∈ ms, MdOk [p, h1.length] h' md)
    (fun i e h' ⟨_, _, _, _, _, _, _, _, C, _⟩ => get_lst (C.keep _ _ (by simp; omega) en) i)
    (fun i e h' d ⟨d5, d6, d7, d8, d9, d10, ee, Pq, C, ms, m, ml, mo⟩ hd => by
      subst ee
      obtain ⟨hi, rfl⟩ := List.getElem?_eq_some_iff.mp hd
      have hi2 : i < nn.length := by simpa using hi
      obtain ⟨d6', d7', d8', d9', d10', h'', e, Pn, Cn, md, m', mo'⟩ := outer_step (nm := nn[i]) (d3 := some dep) (d6 := d6) (d7 := d7) (d8 := d8) (d9 := d9) (d10 := d10) Pq (by omega) ((N3'.up (by decide)).ch C (by simp; omega)) l1p (by omega) m (by omega) (by omega) (N3.ch C (by simp; omega)) (by omega) (by omega) (nS _ (List.getElem_mem hi2))
      refine ⟨_, rfl, _, h'', .inl ?_, some (.str nn[i]), d6', d7', d8', d9', d10', rfl, Pn.mono (by omega), C.trans Cn, _, m', by simp [ml], ?_⟩
      · simp only [List.getElem_map, List.set]; exact e
      · intro x hx
        rcases List.mem_append.mp hx with hx | hx
        · exact (mo x hx).ch Cn
        · rw [List.mem_singleton.mp hx]; exact mo')
    (nn.map D.str).length ((nn.map D.str).length + 1) 0 [some (.loc p), some (.loc l1), some (.loc h1.length), some dep, some (.loc l4), none, none, none, none, none, none]
    h3 (by simp) (by omega) ⟨_, _, _, _, _, _, rfl, P3.mono (by omega), Ch.refl, [], m3, rfl, by simp⟩
  have fu := fuel_lst en
  have C5 : Fr p h1 h4 := (F2'.ch (c := [p, h1.length]) (by simp)).trans C4 |>.fr (by simp)
  refine ⟨h4.length, h4 ++ [.dic [(.inr "depth", dep), (.inr "modes", .loc h1.length)]], ?_, ⟨h1.length, dep, ms, ?_, ?_, get_new _ _, get_app m4, by simp at ml; omega, by simp at ml; omega, ?_⟩, (P4.app).mono (by simp; omega), (F1.trans C5).trans Fr.app⟩
  · simp only [List.length_map] at e4 fu
    simp only [List.append_assoc, List.cons_append, List.nil_append, List.length_append, List.length_cons, List.length_nil, Nat.zero_add] at e2
    have dm : dMerge [] [((.inr "depth" : Key), dep), (.inr "modes", .loc h1.length)] = [(.inr "depth", dep), (.inr "modes", .loc h1.length)] := by
      simp [dMerge, dPut]
      decide
    simp only [Pg.F_law_book, Pg.b_law_book, e_denF, e_startE, List.map_cons, List.map_nil, List.length_cons, List.length_nil]
    rw [show [some (D.loc p)] ++ List.replicate (11 - (0 + 1)) none = [some (D.loc p), none, none, none, none, none, none, none, none, none, none] from rfl]
    rw [e_sSeq, e_sPar, e1]
    simp [s0, s3, of_e, e2, -e_mSl]
    rw [e3]
    simp [en, fu, e4, mDisp, dPairs, keysOf, kD, dm]
  · have := P4.lt; omega
  · omega
  · intro md hm
    obtain ⟨nm, col, e, o, rows, a, b, d, r⟩ := (mo md hm).ch (Ch.app (l := [.dic [(.inr "depth", dep), (.inr "modes", .loc h1.length)]]))
    exact ⟨nm, col, e, o, rows, a, b, fun z => d (by simp at z; simp [z]), r⟩
end MP
set_option Elab.async false
set_option linter.all false
set_option maxRecDepth 100000
set_option maxHeartbeats 2000000
namespace MP
open PySem PySem.Spec L2
theorem pairsOf_map (ss : List Str) : pairsOf (ss.map fun s => D.tup [.str s, .bl true]) = some (ss.map fun s => ((.inr s : Key), D.bl true)) := by
  induction ss with
  | nil => rfl
  | cons s r ih => simp [pairsOf, ih, kD]
theorem strsOf_tups (ss : List Str) (h0 : 0 < ss.length) : strsOf (ss.map fun s => D.tup [.str s, .bl true]) = none := by
  cases ss with
  | nil => simp at h0
  | cons s r => rfl
theorem SG_any {sg : Str} (h : sg ∈ SGs ∨ sg = ("any" : Str)) : (sg = ("any" : Str) ∧ sg ∉ SGs) ∨ (sg ≠ ("any" : Str) ∧ sg ∈ SGs) := by
  rcases h with h | h
  · right
    refine ⟨?_, h⟩
    rintro rfl
    exact absurd h (by decide)
  · left
    subst h
    exact ⟨rfl, by decide⟩
theorem signs_step {h : MH} {b f o : Nat} {d2 d3 d4 d6 : Option D} {rows : List D} {ks : List (Key × D)} (ho : h[o]? = some (.lst rows)) (hf : h[f]? = some (.dic ks)) (hr : rows.length ≤ 4) (hrow : ∀ r ∈ rows, RowOk r)
    (hk : ks.length ≤ 100) (hks : ∀ kv ∈ ks, ∃ s, kv.1 = .inr s ∧ s ∈ SGs) :
    ∃ h' ks', Pg.b_law_signs_3 [some (.loc b), some (.loc f), d2, d3, d4, some (.loc o), d6] h = .nx [some (.loc b), some (.loc f), d2, d3, d4, some (.loc o), d6] h' ∧ Ch [f] h h' ∧ h'[f]? = some (.dic ks') ∧ ks'.length ≤ ks.length + 4 ∧ ∀ kv ∈ ks', ∃ s, kv.1 = .inr s ∧ s ∈ SGs := by
  have s2 : 2 ≤ sizeLine := by decide
  obtain ⟨acc, h1, e1, rfl, ss, rfl, sl, sS⟩ := loopC_run (src := .lst (.loc o)) (tg := .nm 6) (cond := Pg.c_law_signs_2) (elt := Pg.m_law_signs_1) (e0 := [some (.loc b), some (.loc f), d2, d3, d4, some (.loc o), none]) (ds := rows)
    (Pv := fun i acc h' => h' = h ∧ ∃ ss : List Str, acc = (ss.map fun s => D.tup [.str s, .bl true]) ∧ ss.length ≤ i ∧ ∀ s ∈ ss, s ∈ SGs)
    (fun i acc h' z => by rw [z.1]; exact get_lst ho i)
    (fun i acc h' d ⟨eh, ss, ea, sl, sS⟩ hd => by
      subst eh ea
      obtain ⟨hi, rfl⟩ := List.getElem?_eq_some_iff.mp hd
      obtain ⟨sg, sh, dd, er, hs⟩ := hrow _ (List.getElem_mem hi)
      refine ⟨_, rfl, !decide (sg = ("any" : Str)), h', ?_, fun hb => ?_, fun hb => ⟨rfl, ss, rfl, by omega, sS⟩⟩
      · rw [er]; simp [Pg.c_law_signs_2]
      · have hs' : sg ∈ SGs := by
          rcases SG_any hs with ⟨q, _⟩ | ⟨_, q⟩
          · simp [q] at hb
          · exact q
        refine ⟨.tup [.str sg, .bl true], h', ?_, ?_, rfl, ss ++ [sg], by simp, by simp; omega, ?_⟩
        · rw [er]; simp [Pg.m_law_signs_1, s2]
        · have : (4 : Nat) < sizeLine := by decide
          simp; omega
        · intro x hx
          rcases List.mem_append.mp hx with hx | hx
          · exact sS x hx
          · rw [List.mem_singleton.mp hx]; exact hs')
    rows.length (rows.length + 1) 0 [] h (by simp) (by omega) ⟨rfl, [], rfl, by simp, by simp⟩
  have fl := lt_of_get hf
  have fu := fuel_lst ho
  obtain ⟨ts, ets⟩ : ∃ ts, ts = (ss.map fun s => D.tup [.str s, .bl true]) := ⟨_, rfl⟩
  have ep := pairsOf_map ss
  rw [← ets] at e1 ep
  have ml := dMerge_len (ss.map fun s => ((.inr s : Key), D.bl true)) []
  have mk := dMerge_key (Pk := fun k => ∃ s, k = .inr s ∧ s ∈ SGs) (ss.map fun s => ((.inr s : Key), D.bl true)) [] (by simp) (by simp; exact sS)
  obtain ⟨ls, els⟩ : ∃ ls, ls = dMerge [] (ss.map fun s => ((.inr s : Key), D.bl true)) := ⟨_, rfl⟩
  rw [← els] at ml mk
  simp at ml
  have m2 := dMerge_len ls ks
  have m3 := dMerge_key (Pk := fun k => ∃ s, k = .inr s ∧ s ∈ SGs) ls ks hks mk
  have gs : (h1 ++ [MO.lst ts])[h1.length]? = some (.lst ts) := get_new _ _
  have gd : (h1 ++ [MO.lst ts, MO.dic ls])[h1.length + 1]? = some (.dic ls) := by simp
  have gf : (h1 ++ [MO.lst ts, MO.dic ls])[f]? = some (.dic ks) := get_app hf
  have nf : ¬ f = h1.length + 1 := by omega
  have szl : ks.length + ls.length ≤ sizeLine := Nat.le_trans (show _ ≤ 200 by omega) (by decide)
  refine ⟨(h1 ++ [MO.lst ts, MO.dic ls]).set f (.dic (dMerge ks ls)), dMerge ks ls, ?_, Ch.app.trans (Ch.set (by simp)), get_set gf, by omega, m3⟩
  simp [Pg.b_law_signs_3, ho, fu, wipeE, e1, bDict, gs, ep, ← els, fUpdate, gf, nf, szl, tyM, hf]
def LNs : List Str := ["!", "a", " ", "z"]
theorem signs_ok {h : MH} {p b : Nat} (B : Bk h p b) : ∃ l h', Pg.F_law_signs [.loc b] h = .ok (.loc l) h' ∧ Gr h h' ∧ StL 100 h' l (· ∈ LNs) ∧ h.length ≤ l := by
  obtain ⟨m, dep, ms, hb, hm, eb, em, m0, m1, mo⟩ := B
  have s1 : 1 ≤ sizeLine := by decide
  obtain ⟨e', h2, e2, d2, d3, d4, d5, rfl, G2, ks, kf, kl, kS⟩ := loopF_run (src := .lst (.loc m)) (tg := .tp [2, 3, 4, 5]) (body := Pg.b_law_signs_3) (ds := ms)
    (Pv := fun i e h' => ∃ d2 d3 d4 d5, e = [some (.loc b), some (.loc h.length), d2, d3, d4, d5, none] ∧ Gr h h' ∧ ∃ ks, h'[h.length]? = some (.dic ks) ∧ ks.length ≤ 4 * i ∧ ∀ kv ∈ ks, ∃ s, kv.1 = .inr s ∧ s ∈ SGs)
    (fun i e h' ⟨_, _, _, _, _, G, _⟩ => get_lst (G.keep _ _ em) i)
    (fun i e h' d ⟨d2, d3, d4, d5, ee, G, ks, kf, kl, kS⟩ hd => by
      subst ee
      obtain ⟨hi, rfl⟩ := List.getElem?_eq_some_iff.mp hd
      obtain ⟨nm, col, en, o, rows, er, _, _, eo, rl, ro⟩ := mo _ (List.getElem_mem hi)
      obtain ⟨h'', ks', e1, C1, k1, k2, k3⟩ := signs_step (b := b) (d2 := some (.str nm)) (d3 := some col) (d4 := some en) (d6 := none) (G.keep _ _ eo) kf rl ro (by omega) kS
      refine ⟨_, by rw [er]; rfl, _, h'', .inl e1, _, _, _, _, rfl, ((G.ch (c := [h.length])).trans C1).gr (by simp), ks', k1, by omega, k3⟩)
    ms.length (ms.length + 1) 0 [some (.loc b), some (.loc h.length), none, none, none, none, none] (h ++ [.dic []]) (by simp) (by omega) ⟨_, _, _, _, rfl, Gr.app, [], get_new _ _, by simp, by simp⟩
  have fu := fuel_lst (get_app (l := [.dic []]) em)
  obtain ⟨ss, es, sl, sS⟩ := keyStrs_all kS
  have s64 : ss.length < 64 := by omega
  have lst0 : lstOf h2 (.loc h.length) = none := by rw [lstOf_L, kf]
  have em' : (h ++ [MO.dic []])[m]? = some (.lst ms) := get_app em
  have eb' : (h ++ [MO.dic []])[b]? = some (.dic [(.inr "depth", dep), (.inr "modes", .loc m)]) := get_app eb
  have dg : dGet [((.inr "depth" : Key), dep), (.inr "modes", .loc m)] (.inr "modes") = some (.loc m) := rfl
  have ga : (h2 ++ [MO.lst ((srt ss).map D.str), MO.lst [D.str "z"]])[h2.length]? = some (.lst ((srt ss).map D.str)) := by simp
  have gb : (h2 ++ [MO.lst ((srt ss).map D.str), MO.lst [D.str "z"]])[h2.length + 1]? = some (.lst [D.str "z"]) := by simp
  have lsr : (srt ss).length = ss.length := (srt_perm ss).length_eq
  have szz : ss.length + 1 ≤ sizeLine := Nat.le_trans (show _ ≤ 64 by omega) (by decide)
  refine ⟨h2.length + 2, ((h2 ++ [.lst ((srt ss).map D.str)]) ++ [.lst [.str "z"]]) ++ [.lst ((srt ss ++ [("z" : Str)]).map D.str)], ?_, ((G2.trans Gr.app).trans Gr.app).trans Gr.app, ⟨srt ss ++ [("z" : Str)], by simp, by simp, by simp [lsr]; omega, ?_⟩, by have := G2.le; omega⟩
  · simp [Pg.F_law_signs, Pg.b_law_signs, fDGet, dLook, eb', kD, dg, em', fu, e2, bSorted, kf, es, s64, s1, ga, gb, lsr, szz]
  · intro x hx
    rcases List.mem_append.mp hx with hx | hx
    · have := sS x (mem_srt.mp hx)
      revert this; clear hx
      unfold SGs LNs
      simp
      rintro (rfl | rfl | rfl) <;> simp
    · rw [List.mem_singleton.mp hx]; decide

theorem seq_lst {h : MH} {n : Nat} {ds : List D} (e : h[n]? = some (.lst ds)) : seqOf h (.loc n) = some ds := by
  unfold seqOf; rw [lstOf_L, e]
theorem tl_joinL {S : List Nat} {c : Nat} : ∀ {parts : List (List Nat)}, c ∈ TL.joinL S parts → c ∈ S ∨ ∃ p ∈ parts, c ∈ p
  | [], h => by simp [TL.joinL] at h
  | [p], h => .inr ⟨p, by simp, h⟩
  | p :: q :: r, h => by
    have h' : c ∈ p ++ (S ++ TL.joinL S (q :: r)) := h
    rcases List.mem_append.mp h' with h | h
    · exact .inr ⟨p, by simp, h⟩
    · rcases List.mem_append.mp h with h | h
      · exact .inl h
      · rcases tl_joinL h with h | ⟨x, hx, h⟩
        · exact .inl h
        · exact .inr ⟨x, by simp at hx ⊢; right; exact hx, h⟩
theorem len_joinL : ∀ (parts : List (List Nat)), (TL.joinL [] parts).length = (parts.map List.length).sum
  | [] => rfl
  | [p] => by simp [TL.joinL]
  | p :: q :: r => by
    have := len_joinL (q :: r)
    show (p ++ ([] ++ TL.joinL [] (q :: r))).length = _
    rw [List.nil_append, List.length_append, this]
    simp
def LCs : List Nat := [33, 97, 32, 122]
def LineOk (s : Str) : Prop := s.cps.size ≤ 5 ∧ ∀ c ∈ s.cps.toList, c ∈ LCs
theorem LN_one {s : Str} (h : s ∈ LNs) : s.cps.toList.length = 1 ∧ ∀ c ∈ s.cps.toList, c ∈ LCs := by
  unfold LNs at h
  simp at h
  rcases h with rfl | rfl | rfl | rfl <;> decide
theorem line_ok {h : MH} {p b : Nat} {T : Int} (P : Pot h p T) (hT : T < 700000) (B : Bk h p b) :
    ∃ s h', Pg.F_law_line [.loc p, .loc b, .int 3] h = .ok (.str s) h' ∧ LineOk s ∧ Pot h' p (T + 6) ∧ Fr p h h' := by
  obtain ⟨d, h1, e1, d0, d1, P1, F1⟩ := take_ok P (by omega) (by decide : (0 : Int) < 4) (by decide)
  obtain ⟨n, rfl⟩ : ∃ n : Nat, d = (n : Int) := ⟨d.toNat, by omega⟩
  have hn : n < 4 := by omega
  obtain ⟨acc, h2, e2, ss, rfl, sl, sS, P2, F2⟩ := loopC_run (src := .rng 0 n) (tg := .nm 3) (cond := bYes) (elt := Pg.m_law_line_1) (e0 := [some (.loc p), some (.loc b), some (.int 3), none]) (ds := (List.range n).map fun (j : Nat) => D.int (0 + (j : Int)))
    (Pv := fun i acc h' => ∃ ss : List Str, acc = ss.map D.str ∧ ss.length = i ∧ (∀ s ∈ ss, s ∈ LNs) ∧ Pot h' p (T + 1 + i) ∧ Fr p h1 h')
    (fun i acc h' _ => get_rng 0 n h' i)
    (fun i acc h' d ⟨ss, ea, sl, sS, Pq, F⟩ hd => by
      subst ea
      have hi : i < n := by simpa using (List.getElem?_eq_some_iff.mp hd).1
      obtain ⟨l, h3, e3, G3, S3, L3⟩ := signs_ok ((B.fr F1).fr F)
      obtain ⟨s, h4, e4, hs, P4, F4⟩ := of_str (G3.pot Pq) (by omega) S3 (by have := Pq.lt; omega) (by decide)
      refine ⟨_, rfl, true, h', rfl, fun _ => ⟨.str s, h4, ?_, ?_, ss ++ [s], by simp, by simp [sl], ?_, P4.mono (by omega), F.trans ((G3.fr p).trans F4)⟩, fun z => by cases z⟩
      · simp [Pg.m_law_line_1, of_e, e3, e4]
      · have : (10 : Nat) < sizeLine := by decide
        simp; omega
      · intro x hx
        rcases List.mem_append.mp hx with hx | hx
        · exact sS x hx
        · rw [List.mem_singleton.mp hx]; exact hs)
    ((List.range n).map fun (j : Nat) => D.int (0 + (j : Int))).length (n + 1) 0 [] h1 (by simp) (by simp) ⟨[], rfl, rfl, by simp, by simpa using P1, Fr.refl⟩
  simp at sl
  have tls : TL.tl (Txt.join ("" : Str) ss) = TL.joinL [] (ss.map TL.tl) := by rw [TL.join_eq, TL.tl_join]; rfl
  have l1 : ∀ x ∈ ss.map TL.tl, x.length = 1 := by
    intro x hx
    obtain ⟨s, hs, rfl⟩ := List.mem_map.mp hx
    exact (LN_one (sS s hs)).1
  have lsum : ∀ l : List (List Nat), (∀ x ∈ l, x.length = 1) → (l.map List.length).sum = l.length := by
    intro l
    induction l with
    | nil => intro _; rfl
    | cons a r ih => intro hh; simp only [List.map_cons, List.sum_cons, hh a (by simp), ih (fun x hx => hh x (by simp [hx]))]; simp; omega
  refine ⟨Txt.join "" ss, h2 ++ [.lst (ss.map D.str)], ?_, ⟨?_, ?_⟩, P2.app.mono (by simp; omega), (F1.trans F2).trans Fr.app⟩
  · skip
    have g : (h2 ++ [MO.lst (ss.map D.str)])[h2.length]? = some (.lst (ss.map D.str)) := get_new _ _
    have sm : (ss.map Str.length).sum + ss.length * ("" : Str).length ≤ 16777216 := by
      have : (ss.map Str.length).sum = ss.length := by
        have := lsum (ss.map TL.tl) l1
        rw [List.length_map, List.map_map] at this
        rw [← this]
        congr 1
      rw [this]
      have : ("" : Str).length = 0 := rfl
      rw [this]
      omega
    have r2 : CRng (n : Int) := CRng.ok (by omega) (by omega)
    have fr : Src.fuel h1 (Src.rng 0 n) = n + 1 := rfl
    have fj := f_join ("" : Str) (seq_lst g) sm
    simp [Pg.F_law_line, Pg.b_law_line, take_e, e1, tyM, wipeE, r2, fr, e2, fj]
  · have : (TL.tl (Txt.join ("" : Str) ss)).length ≤ 5 := by
      rw [tls, len_joinL, lsum _ l1]; simp; omega
    simpa using this
  · intro c hc
    have hc' : c ∈ TL.tl (Txt.join ("" : Str) ss) := hc
    rw [tls] at hc'
    rcases tl_joinL hc' with q | ⟨x, hx, hcx⟩
    · cases q
    · obtain ⟨s, hs, rfl⟩ := List.mem_map.mp hx
      exact (LN_one (sS s hs)).2 c hcx
end MP
set_option Elab.async false
set_option linter.all false
set_option maxRecDepth 100000
set_option maxHeartbeats 2000000
namespace MP
open PySem PySem.Spec L2
theorem OkS.app {a b : Str} (ha : OkS a) (hb : OkS b) : OkS (a ++ b) := fun c hc => by
  rw [TL.tl_append] at hc
  rcases List.mem_append.mp hc with z | z
  · exact ha c z
  · exact hb c z
theorem OkS.from {a : Str} (ha : OkS a) (n : Nat) : OkS (cutS a (some (n : Int)) none) := fun c hc => by
  rw [tl_from] at hc; exact ha c (List.mem_of_mem_drop hc)
theorem OkS.to {a : Str} (ha : OkS a) (n : Nat) : OkS (cutS a none (some (n : Int))) := fun c hc => by
  rw [tl_to] at hc; exact ha c (List.mem_of_mem_take hc)
theorem okS_join {y : Str} (hy : OkS y) {ss : List Str} (h : ∀ s ∈ ss, OkS s) : OkS (Txt.join y ss) := fun c hc => by
  rw [TL.join_eq, TL.tl_join] at hc
  rcases tl_joinL hc with z | ⟨x, hx, hcx⟩
  · exact hy c z
  · obtain ⟨s, hs, rfl⟩ := List.mem_map.mp hx
    exact h s hs c hcx
theorem okS_of {s : Str} (h : (TL.tl s).all (fun c => decide (c = 9) || (decide (c = 10) || (decide (32 ≤ c) && (decide (c ≤ 126) && decide (c ≠ 37))))) = true) : OkS s := fun c hc => by
  have := List.all_eq_true.mp h c hc
  simp only [Bool.or_eq_true, Bool.and_eq_true, decide_eq_true_eq] at this
  unfold OkC; omega
/-- a text that may be handed in: n signs at most -/
structure TxtOk (n : Nat) (s : Str) : Prop where
  ok : OkS s
  le : s.length ≤ n
def bentSg : List Str := ["0", "1", "-", "|", "\n", " ", "a", "A", "\t", "z"]
theorem bent_sg {s : Str} (h : s ∈ bentSg) : TxtOk 1 s := by
  unfold bentSg at h
  simp only [List.mem_cons, List.not_mem_nil, or_false] at h
  rcases h with rfl | rfl | rfl | rfl | rfl | rfl | rfl | rfl | rfl | rfl <;> exact ⟨okS_of (by decide +kernel), by decide⟩
theorem to_len (s : Str) (n : Nat) : (cutS s none (some (n : Int))).length = min n s.length := by
  rw [TL.len_tl, tl_to, List.length_take, TL.len_tl]
theorem from_len (s : Str) (n : Nat) : (cutS s (some (n : Int)) none).length = s.length - n := by
  rw [TL.len_tl, tl_from, List.length_drop, TL.len_tl]
theorem bent_ok {h : MH} {p n : Nat} {T : Int} {s : Str} (P : Pot h p T) (hT : T < 900000) (hs : TxtOk n s) (hn : n ≤ 50000) :
    ∃ t h', Pg.F_law_bent [.loc p, .str s] h = .ok (.str t) h' ∧ TxtOk (n + 1) t ∧ Pot h' p (T + 3) ∧ Fr p h h' := by
  have sl : s.length ≤ sizeLine := by have := hs.le; have : 1000000 ≤ sizeLine := by decide
                                      omega
  have sz : 1000000 ≤ sizeLine := by decide
  have hle := hs.le
  obtain ⟨a, h1, e1, a0, a1, P1, F1⟩ := take_ok (n := (s.length : Int) + 1) P (by omega) (by omega) (by omega)
  obtain ⟨a, rfl⟩ : ∃ m : Nat, a = (m : Int) := ⟨a.toNat, by omega⟩
  obtain ⟨w, h2, e2, w0, w1, P2, F2⟩ := take_ok (n := 4) P1 (by omega) (by decide) (by decide)
  have P2' : Pot (h2 ++ [.lst (bentSg.map D.str)]) p (T + 1 + 1) := P2.app
  obtain ⟨sg, h3, e3, hsg, P3, F3⟩ := of_str (k := 10) (S := (· ∈ bentSg)) P2' (by omega) (StL.new h2 bentSg (by decide) (by decide) (fun s hs => hs)) (by have := P2.lt; omega) (by decide)
  have fr := ((F1.trans F2).trans Fr.app).trans F3
  have okg := bent_sg hsg
  have s10 : 10 ≤ sizeLine := by omega
  have c1 := fSl_str sl none (some (a : Int)) h3
  have la := to_len s a
  have em : (bentSg.map D.str) = [.str "0", .str "1", .str "-", .str "|", .str "\n", .str " ", .str "a", .str "A", .str "\t", .str "z"] := rfl
  rw [em] at e3
  simp only [Pg.F_law_bent, Pg.b_law_bent]
  by_cases hw0 : w = 0
  · subst hw0
    have c2 := fSl_str sl (some ((a : Int) + 1)) none h3
    have lb := from_len s (a + 1)
    rw [show (((a + 1 : Nat)) : Int) = (a : Int) + 1 from rfl] at lb
    refine ⟨cutS s none (some (a : Int)) ++ cutS s (some ((a : Int) + 1)) none, h3, ?_, ⟨(hs.ok.to a).app (by have := hs.ok.from (a + 1); exact this), by rw [app_len]; omega⟩, P3.mono (by omega), fr⟩
    have c3 : (cutS s none (some (a : Int))).length + (cutS s (some ((a : Int) + 1)) none).length ≤ sizeLine := by omega
    simp [take_e, of_e, sl, e1, e2, s10, e3, c1, c2, c3]
  · by_cases hw1 : 1 < w
    · have c2 := fSl_str sl (some ((a : Int) + 1)) none h3
      have lb := from_len s (a + 1)
      rw [show (((a + 1 : Nat)) : Int) = (a : Int) + 1 from rfl] at lb
      have lg := okg.le
      refine ⟨cutS s none (some (a : Int)) ++ sg ++ cutS s (some ((a : Int) + 1)) none, h3, ?_, ⟨((hs.ok.to a).app okg.ok).app (by have := hs.ok.from (a + 1); exact this), by rw [app_len, app_len]; omega⟩, P3.mono (by omega), fr⟩
      have c3 : (cutS s none (some (a : Int))).length + sg.length ≤ sizeLine := by omega
      have c4 : (cutS s none (some (a : Int)) ++ sg).length + (cutS s (some ((a : Int) + 1)) none).length ≤ sizeLine := by rw [app_len]; omega
      simp [take_e, of_e, sl, e1, e2, s10, e3, hw0, hw1, c1, c2, c3, c4]
    · have c2 := fSl_str sl (some (a : Int)) none h3
      have lb := from_len s a
      have lg := okg.le
      refine ⟨cutS s none (some (a : Int)) ++ sg ++ cutS s (some (a : Int)) none, h3, ?_, ⟨((hs.ok.to a).app okg.ok).app (hs.ok.from a), by rw [app_len, app_len]; omega⟩, P3.mono (by omega), fr⟩
      have c3 : (cutS s none (some (a : Int))).length + sg.length ≤ sizeLine := by omega
      have c4 : (cutS s none (some (a : Int)) ++ sg).length + (cutS s (some (a : Int)) none).length ≤ sizeLine := by rw [app_len]; omega
      simp [take_e, of_e, sl, e1, e2, s10, e3, hw0, hw1, c1, c2, c3, c4]
end MP
set_option Elab.async false
set_option linter.all false
set_option maxRecDepth 100000
set_option maxHeartbeats 2000000
namespace MP
open PySem PySem.Spec L2
theorem LineOk.okS {s : Str} (h : LineOk s) : TxtOk 5 s := ⟨fun c hc => by
  have := h.2 c hc
  unfold LCs at this
  simp at this
  unfold OkC; omega, h.1⟩
theorem okS_bar : OkS "|" := okS_of (by decide +kernel)
theorem okS_nl : OkS "\n" := okS_of (by decide +kernel)
theorem okS_sp : OkS " " := okS_of (by decide +kernel)
theorem sum_le {ss : List Str} {k : Nat} (h : ∀ s ∈ ss, s.length ≤ k) : (ss.map Str.length).sum ≤ ss.length * k := by
  induction ss with
  | nil => simp
  | cons a r ih =>
    have := ih (fun s hs => h s (by simp [hs]))
    have h2 := h a (by simp)
    simp only [List.map_cons, List.sum_cons, List.length_cons, Nat.add_mul, Nat.one_mul]
    omega
theorem len_joinL2 (S : List Nat) : ∀ (parts : List (List Nat)), (TL.joinL S parts).length ≤ (parts.map List.length).sum + parts.length * S.length
  | [] => by simp [TL.joinL]
  | [p] => by simp [TL.joinL]
  | p :: q :: r => by
    have := len_joinL2 S (q :: r)
    show (p ++ (S ++ TL.joinL S (q :: r))).length ≤ _
    simp only [List.length_append, List.map_cons, List.sum_cons, List.length_cons] at this ⊢
    rw [Nat.add_mul, Nat.one_mul]
    omega
theorem join_len (y : Str) (ss : List Str) : (Txt.join y ss).length ≤ (ss.map Str.length).sum + ss.length * y.length := by
  have := len_joinL2 (TL.tl y) (ss.map TL.tl)
  rw [← TL.tl_join, ← TL.join_eq, ← TL.len_tl, List.length_map, List.map_map, ← TL.len_tl] at this
  rw [show (ss.map Str.length) = (ss.map (List.length ∘ TL.tl)) from List.map_congr_left fun x _ => TL.len_tl x]
  exact this
theorem drawn_lines {h : MH} {p b : Nat} {T : Int} {way : D} (P : Pot h p T) (hT : T < 600000) (B : Bk h p b) :
    ∃ s n h', mLc (iR1 (mBin fAdd (mC (.int 1)) (mCall 2 Pg.F_law_take (aCons (mVar 0) (aCons (mC (.int 2)) aNil))))) (.nm 4) bYes Pg.m_law_drawn_1 [4] [some (.loc p), some (.loc b), some way, none, none] h = .ok (.loc n) h' ∧
      fJoin (.str "\n") [.loc n] h' = .ok (.str s) h' ∧ TxtOk 40 s ∧ Pot h' p (T + 20) ∧ Fr p h h' := by
  obtain ⟨d, h1, e1, d0, d1, P1, F1⟩ := take_ok P (by omega) (by decide : (0 : Int) < 2) (by decide)
  obtain ⟨n, rfl⟩ : ∃ n : Nat, d = (n : Int) := ⟨d.toNat, by omega⟩
  have hn : n < 2 := by omega
  obtain ⟨m, hm⟩ : ∃ m, m = n + 1 := ⟨_, rfl⟩
  have em : (1 + (n : Int)) = (m : Int) := by omega
  have sz : 1000000 ≤ sizeLine := by decide
  obtain ⟨acc, h2, e2, ss, rfl, sl, sS, P2, F2⟩ := loopC_run (src := .rng 0 m) (tg := .nm 4) (cond := bYes) (elt := Pg.m_law_drawn_1) (e0 := [some (.loc p), some (.loc b), some way, none, none]) (ds := (List.range m).map fun (j : Nat) => D.int (0 + (j : Int)))
    (Pv := fun i acc h' => ∃ ss : List Str, acc = ss.map D.str ∧ ss.length = i ∧ (∀ s ∈ ss, TxtOk 6 s) ∧ Pot h' p (T + 1 + 6 * i) ∧ Fr p h1 h')
    (fun i acc h' _ => get_rng 0 m h' i)
    (fun i acc h' d ⟨ss, ea, sl, sS, Pq, F⟩ hd => by
      subst ea
      have hi : i < m := by simpa using (List.getElem?_eq_some_iff.mp hd).1
      obtain ⟨s, h4, e4, hs, P4, F4⟩ := line_ok Pq (by omega) ((B.fr F1).fr F)
      have hs' := hs.okS
      have lb : ("|" : Str).length = 1 := rfl
      have ln : ("|" : Str).length + s.length ≤ sizeLine := by have := hs'.le; omega
      refine ⟨_, rfl, true, h', rfl, fun _ => ⟨.str ("|" ++ s), h4, ?_, ?_, ss ++ ["|" ++ s], by simp, by simp [sl], ?_, P4.mono (by omega), F.trans F4⟩, fun z => by cases z⟩
      · simp [Pg.m_law_drawn_1, e4, ln]
      · simp; omega
      · intro x hx
        rcases List.mem_append.mp hx with hx | hx
        · exact sS x hx
        · rw [List.mem_singleton.mp hx]; exact ⟨okS_bar.app hs'.ok, by rw [app_len]; have := hs'.le; omega⟩)
    ((List.range m).map fun (j : Nat) => D.int (0 + (j : Int))).length (m + 1) 0 [] h1 (by simp) (by simp) ⟨[], rfl, rfl, by simp, by simpa using P1, Fr.refl⟩
  simp at sl
  have sm := sum_le (fun s hs => (sS s hs).le)
  have ly : ("\n" : Str).length = 1 := rfl
  have jl := join_len "\n" ss
  rw [ly] at jl
  refine ⟨Txt.join "\n" ss, h2.length, h2 ++ [.lst (ss.map D.str)], ?_, ?_, ⟨okS_join okS_nl fun s hs => (sS s hs).ok, by omega⟩, P2.app.mono (by simp; omega), (F1.trans F2).trans Fr.app⟩
  · have r2 : CRng (m : Int) := CRng.ok (by omega) (by omega)
    have fr : Src.fuel h1 (Src.rng 0 m) = m + 1 := rfl
    simp [take_e, e1, em, r2, wipeE, fr, e2]
  · exact f_join ("\n" : Str) (seq_lst (get_new _ _)) (by rw [ly]; omega)
def stSg : List (List Str) := [["a"], ["code", "warm"], ["a", "b", "zzzzzzzz"]]
theorem st_sg {ss : List Str} (h : ss ∈ stSg) : TxtOk 40 (Txt.join " " ss) ∧ (ss.map Str.length).sum + ss.length * (" " : Str).length ≤ 16777216 := by
  unfold stSg at h
  simp only [List.mem_cons, List.not_mem_nil, or_false] at h
  rcases h with rfl | rfl | rfl <;> exact ⟨⟨okS_of (by decide +kernel), by decide +kernel⟩, by decide +kernel⟩
def edSg : List Str := ["0 0", "1 12", "10 10", "3 999999999"]
theorem ed_sg {s : Str} (h : s ∈ edSg) : TxtOk 11 s := by
  unfold edSg at h
  simp only [List.mem_cons, List.not_mem_nil, or_false] at h
  rcases h with rfl | rfl | rfl | rfl <;> exact ⟨okS_of (by decide +kernel), by decide +kernel⟩
theorem drawn_ok {h : MH} {p b way : Nat} {T : Int} (hw : way < 3) (P : Pot h p T) (hT : T < 600000) (B : Bk h p b) :
    ∃ s h', Pg.F_law_drawn [.loc p, .loc b, .int (way : Int)] h = .ok (.str s) h' ∧ TxtOk 60 s ∧ Pot h' p (T + 30) ∧ Fr p h h' := by
  obtain ⟨s, n, h2, e, ej, hs, P2, F2⟩ := drawn_lines (way := .int (way : Int)) P hT B
  have sz : 1000000 ≤ sizeLine := by decide
  have pl := P2.lt
  simp only [Pg.F_law_drawn, Pg.b_law_drawn]
  match way, hw with
  | 0, _ =>
    obtain ⟨k, hk⟩ : ∃ k, k = h2.length := ⟨_, rfl⟩
    obtain ⟨H3, hH⟩ : ∃ H3, H3 = h2 ++ [MO.lst [.str "a"], MO.lst [.str "code", .str "warm"], MO.lst [.str "a", .str "b", .str "zzzzzzzz"], MO.lst [.loc k, .loc (k + 1), .loc (k + 2)]] := ⟨_, rfl⟩
    have q0 : H3[k]? = some (.lst [.str "a"]) := by rw [hH, hk]; simp
    have q1 : H3[k + 1]? = some (.lst [.str "code", .str "warm"]) := by rw [hH, hk]; simp
    have q2 : H3[k + 2]? = some (.lst [.str "a", .str "b", .str "zzzzzzzz"]) := by rw [hH, hk]; simp
    have q3 : H3[k + 3]? = some (.lst [.loc k, .loc (k + 1), .loc (k + 2)]) := by rw [hH, hk]; simp
    have P3 : Pot H3 p (T + 20) := by rw [hH]; exact P2.app
    have F3 : Fr p h2 H3 := by rw [hH]; exact Fr.app
    obtain ⟨x, h4, e4, hx, P4, F4⟩ := of_ok P3 (by omega) q3 (by omega) (by simp) (by simp)
    obtain ⟨ss, hss, ex⟩ : ∃ ss ∈ stSg, ∃ m, x = .loc m ∧ h4[m]? = some (.lst (ss.map D.str)) := by
      simp only [List.mem_cons, List.not_mem_nil, or_false] at hx
      rcases hx with rfl | rfl | rfl
      · exact ⟨["a"], by simp [stSg], k, rfl, F4.keep _ _ (by omega) q0⟩
      · exact ⟨["code", "warm"], by simp [stSg], k + 1, rfl, F4.keep _ _ (by omega) q1⟩
      · exact ⟨["a", "b", "zzzzzzzz"], by simp [stSg], k + 2, rfl, F4.keep _ _ (by omega) q2⟩
    obtain ⟨m, rfl, qm⟩ := ex
    obtain ⟨okj, smj⟩ := st_sg hss
    have fj := f_join (" " : Str) (seq_lst qm) smj
    refine ⟨Txt.join " " ss, h4, ?_, ⟨okj.ok, by have := okj.le; omega⟩, P4.mono (by omega), (F2.trans F3).trans F4⟩
    have el : (mLst (aCons (mLst (aCons (mC (.str "a")) aNil)) (aCons (mLst (aCons (mC (.str "code")) (aCons (mC (.str "warm")) aNil))) (aCons (mLst (aCons (mC (.str "a")) (aCons (mC (.str "b")) (aCons (mC (.str "zzzzzzzz")) aNil)))) aNil)))) [some (.loc p), some (.loc b), some (.int 0), some (.str s), none] h2 = .ok (.loc (k + 3)) H3 := by
      have z1 : 1 ≤ sizeLine := by omega
      have z2 : 2 ≤ sizeLine := by omega
      have z3 : 3 ≤ sizeLine := by omega
      rw [hH, hk]
      simp [z1, z2, z3]
    simp [-e_mLc] at e
    simp [-e_mLc, -e_mLst, e, ej, el, of_e, e4, fj]
  | 1, _ =>
    refine ⟨s, h2, ?_, ⟨hs.ok, by have := hs.le; omega⟩, P2.mono (by omega), F2⟩
    simp [-e_mLc] at e
    simp [-e_mLc, e, ej]
  | 2, _ =>
    have P2' : Pot (h2 ++ [.lst (edSg.map D.str)]) p (T + 20) := P2.app
    obtain ⟨sg, h3, e3, hsg, P3, F3⟩ := of_str (k := 10) (S := (· ∈ edSg)) P2' (by omega) (StL.new h2 edSg (by decide) (by decide) (fun s hs => hs)) (by omega) (by decide)
    have okg := ed_sg hsg
    have em : (edSg.map D.str) = [.str "0 0", .str "1 12", .str "10 10", .str "3 999999999"] := rfl
    rw [em] at e3
    have ly : ("\n" : Str).length = 1 := rfl
    have l1 := okg.le
    have l2 := hs.le
    have c1 : sg.length + ("\n" : Str).length ≤ sizeLine := by omega
    have c2 : (sg ++ ("\n" : Str)).length + s.length ≤ sizeLine := by rw [app_len]; omega
    have z4 : 4 ≤ sizeLine := by omega
    refine ⟨sg ++ "\n" ++ s, h3, ?_, ⟨(okg.ok.app okS_nl).app hs.ok, by rw [app_len, app_len]; omega⟩, P3.mono (by omega), (F2.trans Fr.app).trans F3⟩
    simp [-e_mLc] at e
    simp [-e_mLc, e, ej, z4, of_e, e3, c1, c2]
end MP
set_option Elab.async false
set_option linter.all false
set_option maxRecDepth 100000
set_option maxHeartbeats 2000000
namespace MP
open PySem PySem.Spec L2
theorem foldl_app (l : List (Array Nat)) : ∀ a : Array Nat, (l.foldl (· ++ ·) a).toList = a.toList ++ (l.map Array.toList).flatten := by
  induction l with
  | nil => intro a; simp
  | cons x r ih => intro a; rw [List.foldl_cons, ih]; simp
theorem tl_mul (s : Str) (n : Nat) : TL.tl (Txt.mul s (n : Int)) = (List.replicate n (TL.tl s)).flatten := by
  unfold Txt.mul
  by_cases h1 : (n : Int) < 1
  · have : n = 0 := by omega
    subst this
    rw [if_pos h1]; rfl
  · rw [if_neg h1]
    by_cases h2 : ((n : Int) == 1 || s.length == 0) = true
    · rw [if_pos h2]
      rw [Bool.or_eq_true, beq_iff_eq, beq_iff_eq] at h2
      rcases h2 with h2 | h2
      · have : n = 1 := by omega
        subst this; simp
      · have : TL.tl s = [] := by rw [TL.len_tl] at h2; exact List.length_eq_zero_iff.mp h2
        rw [this]; simp
    · rw [if_neg h2]
      show (List.foldl (· ++ ·) #[] (List.replicate (n : Int).toNat s.cps)).toList = _
      rw [foldl_app, Int.toNat_natCast, List.map_replicate]; rfl
theorem mul_ok2 {s : Str} (n : Nat) (h : OkS s) : TxtOk (n * s.length) (Txt.mul s (n : Int)) := by
  refine ⟨fun c hc => ?_, ?_⟩
  · rw [tl_mul] at hc
    obtain ⟨l, hl, hc⟩ := List.mem_flatten.mp hc
    rw [List.mem_replicate] at hl
    rw [hl.2] at hc
    exact h c hc
  · rw [TL.len_tl, tl_mul, TL.len_tl]; simp
theorem bRepr_of {h : MH} {d : D} {p : PyData} (h1 : deepD h 200 d = some p) (h2 : p.showable = true) (h3 : p.depth ≤ 60) (h4 : p.shown.length ≤ 1000) : ∃ t, bRepr [d] h = .ok (.str t) h := by
  refine ⟨p.shown, ?_⟩
  have sz : 1000 ≤ sizeLine := by decide
  show (match deepD h 200 d with
    | some p => if p.showable = true ∧ p.depth ≤ 60 ∧ p.shown.length ≤ sizeLine then R.ok (D.str p.shown) h else .no
    | none => .no) = _
  rw [h1]
  exact if_pos ⟨h2, h3, by omega⟩
/-- a value that may be asked of -/
def AskOk (h : MH) (d : D) : Prop := (∃ s, d = .str s ∧ TxtOk 20000 s) ∨ ((∀ h', Gr h h' → bIsi [d, .ty "str"] h' = .ok (.bl false) h') ∧ ∀ h', Gr h h' → ∃ t, bRepr [d] h' = .ok (.str t) h')
theorem AskOk.gr {h h1 : MH} {d : D} (a : AskOk h d) (G : Gr h h1) : AskOk h1 d := by
  rcases a with a | ⟨a, b⟩
  · exact .inl a
  · exact .inr ⟨fun h' G' => a h' (G.trans G'), fun h' G' => b h' (G.trans G')⟩
theorem ask_ok {h : MH} {d : D} (a : AskOk h d) {way : Nat} (hw : way < 3) : ∃ h', Pg.F_law_is_right [.int (way : Int), d] h = .ok (.bl true) h' ∧ Gr h h' := by
  rcases a with ⟨s, rfl, hs⟩ | ⟨a, b⟩
  · exact right_str hw (by have := hs.le; omega) hs.ok h
  · exact right_odd hw a b
theorem ask_flat {h : MH} {d : D} {p : PyData} (hi : ∀ h', bIsi [d, .ty "str"] h' = .ok (.bl false) h') (h1 : ∀ h', deepD h' 200 d = some p) (h2 : p.showable = true) (h3 : p.depth ≤ 60) (h4 : p.shown.length ≤ 1000) : AskOk h d :=
  .inr ⟨fun h' _ => hi h', fun h' _ => bRepr_of (h1 h') h2 h3 h4⟩
theorem askTxt {h : MH} {s : Str} (h1 : (TL.tl s).all (fun c => decide (c = 9) || (decide (c = 10) || (decide (32 ≤ c) && (decide (c ≤ 126) && decide (c ≠ 37))))) = true) (h2 : s.length ≤ 20000) : AskOk h (.str s) := .inl ⟨s, rfl, okS_of h1, h2⟩
theorem ones_ok : TxtOk 5000 (Txt.mul "1" 5000) := mul_ok2 (s := "1") 5000 (okS_of (by decide +kernel))
theorem aaaa_ok : TxtOk 5000 (Txt.mul "a" 5000) := mul_ok2 (s := "a") 5000 (okS_of (by decide +kernel))
def o1 : List D := [.str "", .str "-", .str "|", .str "a", .str "a b c d", .str "a  b", .str " a", .str "a ", .str "zzzzzzzzz", .str "|a\n", .str "|a\n-", .str "0 1", .str "0 1\n", .str "1 0\n-"]
def o2 : List D := [.str "0 1\n-", .str "00 1\n-", .str "0 1 2\n-", .str "-0 1\n-", .str "0 1234567890\n-", .str "|\t", .str "Code", .non, .bl true, .int 0]
def o3 (ones aaaa : Str) : List D := [.str (ones ++ " 1\n-"), .str ("0 " ++ ones ++ "\n-"), .str ones, .str ("0 0\n" ++ ones), .str aaaa]
def o4 (k : Nat) : List D := [.tup [], .loc k, .loc (k + 1), .tup [.str "a"], .loc (k + 2), .tup [.str "|a"]]
theorem o1_ok (h : MH) : ∀ d ∈ o1, AskOk h d := by
  intro d hd
  unfold o1 at hd
  simp only [List.mem_cons, List.not_mem_nil, or_false] at hd
  rcases hd with rfl | rfl | rfl | rfl | rfl | rfl | rfl | rfl | rfl | rfl | rfl | rfl | rfl | rfl <;> exact askTxt (by decide +kernel) (by decide +kernel)
theorem o2_ok (h : MH) : ∀ d ∈ o2, AskOk h d := by
  intro d hd
  unfold o2 at hd
  simp only [List.mem_cons, List.not_mem_nil, or_false] at hd
  rcases hd with rfl | rfl | rfl | rfl | rfl | rfl | rfl | rfl | rfl | rfl
  iterate 7 exact askTxt (by decide +kernel) (by decide +kernel)
  · exact ask_flat (p := .none) (fun h' => rfl) (fun h' => rfl) rfl (by decide) (by decide +kernel)
  · exact ask_flat (p := .bool true) (fun h' => rfl) (fun h' => rfl) rfl (by decide) (by decide +kernel)
  · exact ask_flat (p := .int 0) (fun h' => rfl) (fun h' => rfl) (by decide +kernel) (by decide) (by decide +kernel)
theorem tok_app {a b : Str} {m n k : Nat} (ha : TxtOk m a) (hb : TxtOk n b) (h : m + n ≤ k) : TxtOk k (a ++ b) := ⟨ha.ok.app hb.ok, by rw [app_len]; have := ha.le; have := hb.le; omega⟩
theorem tok_lit {s : Str} (h1 : (TL.tl s).all (fun c => decide (c = 9) || (decide (c = 10) || (decide (32 ≤ c) && (decide (c ≤ 126) && decide (c ≠ 37))))) = true) (h2 : s.length ≤ 10) : TxtOk 10 s := ⟨okS_of h1, h2⟩
theorem o3_ok {ones aaaa : Str} (ones_ok : TxtOk 5000 ones) (aaaa_ok : TxtOk 5000 aaaa) (h : MH) : ∀ d ∈ o3 ones aaaa, AskOk h d := by
  intro d hd
  unfold o3 at hd
  simp only [List.mem_cons, List.not_mem_nil, or_false] at hd
  rcases hd with rfl | rfl | rfl | rfl | rfl
  · exact .inl ⟨_, rfl, tok_app ones_ok (tok_lit (by decide +kernel) (by decide +kernel)) (by omega)⟩
  · exact .inl ⟨_, rfl, tok_app (tok_app (k := 5010) (tok_lit (by decide +kernel) (by decide +kernel)) ones_ok (by omega)) (tok_lit (by decide +kernel) (by decide +kernel)) (by omega)⟩
  · exact .inl ⟨_, rfl, ones_ok.ok, by have := ones_ok.le; omega⟩
  · exact .inl ⟨_, rfl, tok_app (tok_lit (by decide +kernel) (by decide +kernel)) ones_ok (by omega)⟩
  · exact .inl ⟨_, rfl, aaaa_ok.ok, by have := aaaa_ok.le; omega⟩
theorem o4_ok {h : MH} {k : Nat} (q0 : h[k]? = some (.lst [])) (q1 : h[k + 1]? = some (.dic [])) (q2 : h[k + 2]? = some (.lst [.str "a"])) : ∀ d ∈ o4 k, AskOk h d := by
  intro d hd
  unfold o4 at hd
  simp only [List.mem_cons, List.not_mem_nil, or_false] at hd
  have kl : kitB "list" "str" = some false := by decide +kernel
  have kd : kitB "dict" "str" = some false := by decide +kernel
  rcases hd with rfl | rfl | rfl | rfl | rfl | rfl
  · exact ask_flat (p := .tuple []) (fun h' => rfl) (fun h' => rfl) rfl (by decide) (by decide +kernel)
  · refine .inr ⟨fun h' G => ?_, fun h' G => bRepr_of (p := .list []) (by simp [deepD, deepL, G.keep _ _ q0]) rfl (by decide) (by decide +kernel)⟩
    simp [bIsi, tyName, G.keep _ _ q0, kl]
  · refine .inr ⟨fun h' G => ?_, fun h' G => bRepr_of (p := .dict []) (by simp [deepD, deepK, G.keep _ _ q1]) rfl (by decide) (by decide +kernel)⟩
    simp [bIsi, tyName, G.keep _ _ q1, kd]
  · exact ask_flat (p := .tuple [.str "a"]) (fun h' => rfl) (fun h' => rfl) (by decide +kernel) (by decide) (by decide +kernel)
  · refine .inr ⟨fun h' G => ?_, fun h' G => bRepr_of (p := .list [.str "a"]) (by simp [deepD, deepL, G.keep _ _ q2]) rfl (by decide) (by decide +kernel)⟩
    simp [bIsi, tyName, G.keep _ _ q2, kl]
  · exact ask_flat (p := .tuple [.str "|a"]) (fun h' => rfl) (fun h' => rfl) (by decide +kernel) (by decide) (by decide +kernel)
end MP
set_option Elab.async false
set_option linter.all false
set_option maxRecDepth 100000
set_option maxHeartbeats 4000000
namespace MP
open PySem PySem.Spec L2
theorem zz (n : Nat) (hn : n ≤ 1000) : n ≤ sizeLine := Nat.le_trans hn (by decide)
theorem s11_ok (r : D) : Pg.b_law_11 (startE 10 [r]) [] = .nx [some r, some (.loc 0), none, none, none, none, none, none, none, none] [.lst o1] := by
  have z14 := zz 14 (by decide)
  simp [Pg.b_law_11, z14, o1]
theorem s10_ok (r : D) : Pg.b_law_10 [some r, some (.loc 0), none, none, none, none, none, none, none, none] [.lst o1] = .nx [some r, some (.loc 2), none, none, none, none, none, none, none, none] [.lst o1, .lst o2, .lst (o1 ++ o2)] := by
  have z10 := zz 10 (by decide)
  have z24 := zz 24 (by decide)
  simp [Pg.b_law_10, z10, z24, o1, o2]
theorem cr1 : CRep "1" 5000 := ⟨by decide, by decide⟩
theorem cr2 : CRep "a" 5000 := ⟨by decide, by decide⟩
end MP
set_option Elab.async false
set_option linter.all false
set_option maxRecDepth 100000
set_option maxHeartbeats 4000000
namespace MP
open PySem PySem.Spec L2
theorem s9_ok {ones : Str} (hon : Txt.mul "1" 5000 = ones) (a b : Option D) (h : MH) : Pg.b_law_9 [a, b, none, none, none, none, none, none, none, none] h = .nx [a, b, some (.str ones), none, none, none, none, none, none, none] h := by
  have cr := cr1
  subst hon
  simp only [Pg.b_law_9, e_sSet, e_mBin, e_mC, R.bind_ok, f_mulS, if_pos cr, R.st_ok]
  rfl
end MP
set_option Elab.async false
set_option linter.all false
set_option maxRecDepth 100000
set_option maxHeartbeats 4000000
namespace MP
open PySem PySem.Spec L2
theorem s8_ok {ones aaaa : Str} (haa : Txt.mul "a" 5000 = aaaa) (ok1 : TxtOk 5000 ones) (p : List D) (pl : p.length = 24) (r : D) : Pg.b_law_8 [some r, some (.loc 2), some (.str ones), none, none, none, none, none, none, none] [.lst o1, .lst o2, .lst p] = .nx [some r, some (.loc 4), some (.str ones), none, none, none, none, none, none, none] [.lst o1, .lst o2, .lst p, .lst (o3 ones aaaa), .lst (p ++ o3 ones aaaa)] := by
  have z5 := zz 5 (by decide)
  have z29 := zz 29 (by decide)
  have sz : 1000000 ≤ sizeLine := by decide
  have l1 := ok1.le
  have c1 : ones.length + (" 1\n-" : Str).length ≤ sizeLine := by have : (" 1\n-" : Str).length = 4 := rfl; omega
  have c2 : ("0 " : Str).length + ones.length ≤ sizeLine := by have : ("0 " : Str).length = 2 := rfl; omega
  have c3 : (("0 " : Str) ++ ones).length + ("\n-" : Str).length ≤ sizeLine := by have : ("0 " : Str).length = 2 := rfl; have : ("\n-" : Str).length = 2 := rfl; rw [app_len]; omega
  have c4 : ("0 0\n" : Str).length + ones.length ≤ sizeLine := by have : ("0 0\n" : Str).length = 4 := rfl; omega
  have q2 : ([.lst o1, .lst o2, .lst p] : MH)[2]? = some (.lst p) := rfl
  obtain ⟨h0, hh⟩ : ∃ h0 : MH, h0 = [.lst o1, .lst o2, .lst p] := ⟨_, rfl⟩
  have hl : h0.length = 3 := by rw [hh]; rfl
  rw [← hh] at q2 ⊢
  have q2' : (h0 ++ [MO.lst (o3 ones aaaa)])[2]? = some (.lst p) := get_app q2
  have q3 : (h0 ++ [MO.lst (o3 ones aaaa)])[3]? = some (.lst (o3 ones aaaa)) := by rw [← hl]; exact get_new _ _
  have ol : (o3 ones aaaa).length = 5 := rfl
  have cm : fMul (.str "a") (.int 5000) h0 = .ok (.str aaaa) h0 := by rw [f_mulS, if_pos cr2, haa]
  have el : (mLst (aCons (mBin fAdd (mVar 2) (mC (.str " 1\n-"))) (aCons (mBin fAdd (mBin fAdd (mC (.str "0 ")) (mVar 2)) (mC (.str "\n-"))) (aCons (mVar 2) (aCons (mBin fAdd (mC (.str "0 0\n")) (mVar 2)) (aCons (mBin fMul (mC (.str "a")) (mC (.int 5000))) aNil)))))) [some r, some (.loc 2), some (.str ones), none, none, none, none, none, none, none] h0 = .ok (.loc 3) (h0 ++ [.lst (o3 ones aaaa)]) := by
    have v2 : mVar 2 [some r, some (.loc 2), some (.str ones), none, none, none, none, none, none, none] h0 = .ok (.str ones) h0 := rfl
    simp only [e_mLst, e_aCons, e_mBin, v2, e_mC, R.bind_ok, f_addS, if_pos c1, if_pos c2, if_pos c3, if_pos c4, cm, e_aNil, List.length_cons, List.length_nil]
    rw [if_pos z5, e_newL, hl]
    rfl
  have v1 : mVar 1 [some r, some (.loc 2), some (.str ones), none, none, none, none, none, none, none] h0 = .ok (.loc 2) h0 := rfl
  have ad : fAdd (.loc 2) (.loc 3) (h0 ++ [.lst (o3 ones aaaa)]) = .ok (.loc 4) (h0 ++ [.lst (o3 ones aaaa)] ++ [.lst (p ++ o3 ones aaaa)]) := by
    rw [f_addL, q2', q3]
    dsimp only
    rw [if_pos (by rw [pl, ol]; exact z29), e_newL]
    simp [hl]
  have fin : Pg.b_law_8 [some r, some (.loc 2), some (.str ones), none, none, none, none, none, none, none] h0 = .nx [some r, some (.loc 4), some (.str ones), none, none, none, none, none, none, none] (h0 ++ [.lst (o3 ones aaaa)] ++ [.lst (p ++ o3 ones aaaa)]) := by
    simp only [Pg.b_law_8, e_sSet, e_mBin, v1, R.bind_ok, el, ad, R.st_ok]
    rfl
  rw [fin, hh]
  rfl
end MP
set_option Elab.async false
set_option linter.all false
set_option maxRecDepth 100000
set_option maxHeartbeats 4000000
namespace MP
open PySem PySem.Spec L2
theorem range_int (t : Nat) : (List.range t).map (fun (j : Nat) => D.int (0 + (j : Int))) = (List.range t).map fun (j : Nat) => D.int (j : Int) := by simp
/-- one value, asked in all three ways -/
theorem three_ok {e : Env} {h : MH} {d : D} (a : AskOk h d) (h3 : e[3]? = some (some d)) (hl : e.length = 10) : ∃ h', Pg.b_law_6 e h = .nx e h' ∧ Gr h h' := by
  obtain ⟨n, h2, e2, q2, G2, _⟩ := lc_rng (m := mC (.int 3)) (env := e) (h := h) (h1 := h) (j := 3) (tg := .nm 8) (vs := [8]) (cond := bYes) (elt := Pg.m_law_5) (fun _ => true) (fun _ => .bl true) rfl (by decide) (by decide)
    (fun i hi h' G => by
      obtain ⟨h3', e3, G3⟩ := ask_ok (a.gr G) (way := i) (by simpa using hi)
      have ge : ((wipeE e [8]).set 8 (some (D.int (i : Int))))[3]? = some (some d) := by
        simp only [wipeE]
        rw [List.getElem?_set_ne (by decide), List.getElem?_set_ne (by decide), h3]
      have g8 : ((wipeE e [8]).set 8 (some (D.int (i : Int))))[8]? = some (some (.int (i : Int))) := by
        simp only [wipeE]
        rw [List.getElem?_set_self (by simp; omega)]
      exact ⟨_, rfl, h', rfl, Gr.refl, fun _ => ⟨h3', by simp [Pg.m_law_5, ge, g8, e3, -List.getElem?_set], G3⟩⟩)
  have em : ((((List.range (3 : Int).toNat).map fun (i : Nat) => D.int (i : Int)).filter fun _ => true).map fun _ => D.bl true) = [true, true, true].map D.bl := rfl
  have fa := all_lst q2 em
  refine ⟨h2, ?_, G2⟩
  simp only [Pg.b_law_6]
  simp [-e_mLc, e2, fa]
theorem seq_nx {s t : S} {e e1 : Env} {h h1 : MH} (q : s e h = .nx e1 h1) : sSeq s t e h = t e1 h1 := by rw [e_sSeq, q]
theorem den_rt {s : S} {n : Nat} {ds : List D} {d : D} {h h1 : MH} (q : s (startE n ds) h = .rt d h1) : denF n s ds h = .ok d h1 := by unfold denF; rw [q]
theorem el4_ok (r : D) (ones : Str) (p q : List D) (pl : p.length = 24) (ql : q.length = 5) :
    (mBin fAdd (mVar 1) (mLst (aCons (mTup aNil) (aCons (mLst aNil) (aCons mDNew (aCons (mTup (aCons (mC (.str "a")) aNil)) (aCons (mLst (aCons (mC (.str "a")) aNil)) (aCons (mTup (aCons (mC (.str "|a")) aNil)) aNil)))))))) [some r, some (.loc 4), some (.str ones), none, none, none, none, none, none, none] [.lst o1, .lst o2, .lst p, .lst q, .lst (p ++ q)] =
      .ok (.loc 9) [.lst o1, .lst o2, .lst p, .lst q, .lst (p ++ q), .lst [], .dic [], .lst [.str "a"], .lst (o4 5), .lst (p ++ q ++ o4 5)] := by
  have z6 := zz 6 (by decide)
  have z1 := zz 1 (by decide)
  have z0 := zz 0 (by decide)
  have z35 := zz 35 (by decide)
  simp [z0, z1, z6, o4, pl, ql, z35]
theorem odd_loop {r : D} {ones : Str} {L : List D} {H : MH} (q9 : H[9]? = some (.lst L)) (all : ∀ d ∈ L, AskOk H d) : ∃ d3 h2, Gr H h2 ∧
    loopF (.lst (.loc 9)) (.nm 3) Pg.b_law_6 (Src.fuel H (.lst (.loc 9))) 0 [some r, some (.loc 4), some (.str ones), none, none, none, none, none, none, none] H = .nx [some r, some (.loc 4), some (.str ones), d3, none, none, none, none, none, none] h2 := by
  obtain ⟨e', h2, e2, ⟨d3, rfl⟩, G2⟩ := loopF_run (src := .lst (.loc 9)) (tg := .nm 3) (body := Pg.b_law_6) (ds := L)
    (Pv := fun i e h' => (∃ d3, e = [some r, some (.loc 4), some (.str ones), d3, none, none, none, none, none, none]) ∧ Gr H h')
    (fun i e h' z => get_lst (z.2.keep _ _ q9) i)
    (fun i e h' d ⟨⟨d3, ee⟩, G⟩ hd => by
      subst ee
      obtain ⟨h2, e2, G2⟩ := three_ok (e := [some r, some (.loc 4), some (.str ones), some d, none, none, none, none, none, none]) ((all d (List.mem_of_getElem? hd)).gr G) rfl rfl
      exact ⟨_, rfl, _, h2, .inl e2, ⟨some d, rfl⟩, G.trans G2⟩)
    L.length (L.length + 1) 0 [some r, some (.loc 4), some (.str ones), none, none, none, none, none, none, none] H (by simp) (by omega) ⟨⟨none, rfl⟩, Gr.refl⟩
  exact ⟨d3, h2, G2, by rw [fuel_lst q9]; exact e2⟩
theorem law_odd_ok {ones aaaa : Str} (hon : Txt.mul "1" 5000 = ones) (haa : Txt.mul "a" 5000 = aaaa) (ones_ok : TxtOk 5000 ones) (aaaa_ok : TxtOk 5000 aaaa) (r : D) : ∃ e h', (∃ d3 d8, e = [some r, some (.loc 4), some (.str ones), d3, none, none, none, none, d8, none]) ∧
    ∀ t : S, sSeq Pg.b_law_11 (sSeq Pg.b_law_10 (sSeq Pg.b_law_9 (sSeq Pg.b_law_8 (sSeq Pg.b_law_7 t)))) (startE 10 [r]) [] = t e h' := by
  have s11 := s11_ok r
  have s10 := s10_ok r
  have s9 := s9_ok hon (some r) (some (.loc 2))
  have al : ∀ H d, d ∈ o1 ++ o2 → AskOk H d := fun H d hd => by
    rcases List.mem_append.mp hd with hd | hd
    · exact o1_ok H d hd
    · exact o2_ok H d hd
  have pl' : (o1 ++ o2).length = 24 := rfl
  obtain ⟨p, hp⟩ : ∃ p, p = o1 ++ o2 := ⟨_, rfl⟩
  rw [← hp] at s10 al pl'
  have s8 := s8_ok haa ones_ok p pl' r
  have al3 := fun H => o3_ok ones_ok aaaa_ok H
  have ql : (o3 ones aaaa).length = 5 := rfl
  obtain ⟨q, hq⟩ : ∃ q, q = o3 ones aaaa := ⟨_, rfl⟩
  rw [← hq] at s8 al3 ql
  have el := el4_ok r ones p q pl' ql
  obtain ⟨H, hH⟩ : ∃ H : MH, H = [.lst o1, .lst o2, .lst p, .lst q, .lst (p ++ q), .lst [], .dic [], .lst [.str "a"], .lst (o4 5), .lst (p ++ q ++ o4 5)] := ⟨_, rfl⟩
  rw [← hH] at el
  have q9 : H[9]? = some (.lst (p ++ q ++ o4 5)) := by rw [hH]; rfl
  have all : ∀ d ∈ p ++ q ++ o4 5, AskOk H d := by
    intro d hd
    rcases List.mem_append.mp hd with hd | hd
    · rcases List.mem_append.mp hd with hd | hd
      · exact al H d hd
      · exact al3 H d hd
    · exact o4_ok (by rw [hH]; rfl) (by rw [hH]; rfl) (by rw [hH]; rfl) d hd
  obtain ⟨d3, h2, G2, e2⟩ := odd_loop (r := r) (ones := ones) q9 all
  refine ⟨_, h2, ⟨d3, none, rfl⟩, ?_⟩
  have s7 : Pg.b_law_7 [some r, some (.loc 4), some (.str ones), none, none, none, none, none, none, none] [.lst o1, .lst o2, .lst p, .lst q, .lst (p ++ q)] = .nx [some r, some (.loc 4), some (.str ones), d3, none, none, none, none, none, none] h2 := by
    simp only [Pg.b_law_7, e_sFor, iL, el, R.bind_ok, lstOf_L, q9, R.st_ok, e2]
  exact fun t => (seq_nx s11).trans ((seq_nx s10).trans ((seq_nx (s9 _)).trans ((seq_nx s8).trans (seq_nx s7))))
theorem turn_ok {h : MH} {p b : Nat} {T : Int} {d0 d1 d2 d3 d4 d7 d8 d9 : Option D} (P : Pot h p T) (hT : T < 500000) (B : Bk h p b) :
    ∃ h' d8' d9', Pg.b_law_2 [d0, d1, d2, d3, d4, some (.loc p), some (.loc b), d7, d8, d9] h = .nx [d0, d1, d2, d3, d4, some (.loc p), some (.loc b), d7, d8', d9'] h' ∧ Pot h' p (T + 50) ∧ Fr p h h' := by
  obtain ⟨w, h1, e1, w0, w1, P1, F1⟩ := take_ok (n := 3) P (by omega) (by decide) (by decide)
  obtain ⟨w, rfl⟩ : ∃ m : Nat, w = (m : Int) := ⟨w.toNat, by omega⟩
  have hw : w < 3 := by omega
  obtain ⟨s, h2, e2, S2, P2, F2⟩ := drawn_ok hw P1 (by omega) (B.fr F1)
  obtain ⟨t, h3, e3, S3, P3, F3⟩ := bent_ok P2 (by omega) S2 (by omega)
  obtain ⟨x, h4, e4, x0, x1, P4, F4⟩ := take_ok (n := 3) P3 (by omega) (by decide) (by decide)
  have fr := ((F1.trans F2).trans F3).trans F4
  by_cases hx : x = 0
  · obtain ⟨u, h5, e5, S5, P5, F5⟩ := bent_ok P4 (by omega) S3 (by omega)
    obtain ⟨h6, e6, G6⟩ := right_str hw (by have := S5.le; omega) S5.ok h5
    refine ⟨h6, some (.int (w : Int)), some (.str u), ?_, (G6.pot P5).mono (by omega), (fr.trans F5).trans (G6.fr p)⟩
    simp [Pg.b_law_2, take_e, e1, e2, e3, e4, hx, e5, e6]
  · obtain ⟨h6, e6, G6⟩ := right_str hw (by have := S3.le; omega) S3.ok h4
    refine ⟨h6, some (.int (w : Int)), some (.str t), ?_, (G6.pot P4).mono (by omega), fr.trans (G6.fr p)⟩
    simp [Pg.b_law_2, take_e, e1, e2, e3, e4, hx, e6]
theorem law_true (ns : List Int) (hl : ns.length ≤ 63) : ∃ h', Pg.F_law [.rol (ns.map D.int)] [] = .ok (.bl true) h' := by
  obtain ⟨t, ht, t0, t3⟩ : ∃ t : Nat, (if 1 < (if (ns.length : Int) < 3 then (ns.length : Int) else 3) then (if (ns.length : Int) < 3 then (ns.length : Int) else 3) else 1) = (t : Int) ∧ 0 ≤ t ∧ t ≤ 3 := by
    refine ⟨(if 1 < (if (ns.length : Int) < 3 then (ns.length : Int) else 3) then (if (ns.length : Int) < 3 then (ns.length : Int) else 3) else 1).toNat, ?_, ?_, ?_⟩ <;> split <;> (try split) <;> omega
  obtain ⟨ones, hon⟩ : ∃ z, Txt.mul "1" 5000 = z := ⟨_, rfl⟩
  obtain ⟨aaaa, haa⟩ : ∃ z, Txt.mul "a" 5000 = z := ⟨_, rfl⟩
  obtain ⟨e0, h0, ⟨d3, d8, rfl⟩, eo⟩ := law_odd_ok hon haa (hon ▸ ones_ok) (haa ▸ aaaa_ok) (.rol (ns.map D.int))
  obtain ⟨e', h2, e2, _⟩ := loopF_run (src := .rng 0 t) (tg := .nm 4) (body := Pg.b_law_3) (ds := (List.range t).map fun (j : Nat) => D.int (0 + (j : Int)))
    (Pv := fun i e h' => ∃ d4 d5 d6 d7 d8 d9, e = [some (.rol (ns.map D.int)), some (.loc 4), some (.str ones), d3, d4, d5, d6, d7, d8, d9])
    (fun i acc h' _ => get_rng 0 t h' i)
    (fun i e h d ⟨d4, d5, d6, d7, d8, d9, ee⟩ hd => by
      subst ee
      obtain ⟨hi, rfl⟩ := List.getElem?_eq_some_iff.mp hd
      have hi' : i < t := by simpa using hi
      obtain ⟨h1, e1, P1, -⟩ := pot_ok (h := h) (ns := ns) (k := i) (by omega)
      obtain ⟨b, h2, e2, B2, P2, F2⟩ := book_ok P1 (by omega)
      have zi : ((List.range t).map fun (j : Nat) => D.int (0 + (j : Int)))[i] = .int (i : Int) := by simp
      obtain ⟨e3, h3, q3, ⟨d7', d8', d9', rfl⟩, _⟩ := loopF_run (src := .rng 0 20) (tg := .nm 7) (body := Pg.b_law_2) (ds := (List.range 20).map fun (j : Nat) => D.int (0 + (j : Int)))
        (Pv := fun i' e h' => (∃ d7 d8 d9, e = [some (.rol (ns.map D.int)), some (.loc 4), some (.str ones), d3, some (.int (i : Int)), some (.loc h.length), some (.loc b), d7, d8, d9]) ∧ Pot h' h.length (0 + 70 + 50 * i') ∧ Bk h' h.length b)
        (fun i acc h' _ => get_rng 0 20 h' i)
        (fun i' e h' d ⟨⟨d7, d8, d9, ee⟩, Pq, Bq⟩ hd => by
          subst ee
          have hi2 : i' < 20 := by simpa using (List.getElem?_eq_some_iff.mp hd).1
          obtain ⟨h4, d8', d9', e4, P4, F4⟩ := turn_ok (d0 := some (.rol (ns.map D.int))) (d1 := some (.loc 4)) (d2 := some (.str ones)) (d3 := d3) (d4 := some (.int (i : Int))) (d7 := some d) (d8 := d8) (d9 := d9) Pq (by omega) Bq
          exact ⟨_, rfl, _, h4, .inl e4, ⟨some d, d8', d9', rfl⟩, P4.mono (by omega), Bq.fr F4⟩)
        ((List.range 20).map fun (j : Nat) => D.int (0 + (j : Int))).length 21 0 [some (.rol (ns.map D.int)), some (.loc 4), some (.str ones), d3, some (.int (i : Int)), some (.loc h.length), some (.loc b), d7, d8, d9] h2 (by simp) (by simp) ⟨⟨d7, d8, d9, rfl⟩, P2.mono (by omega), B2⟩
      refine ⟨_, rfl, _, h3, .inl ?_, some (.int (i : Int)), some (.loc h.length), some (.loc b), d7', d8', d9', rfl⟩
      have r2 : CRng 20 := by decide
      have fr : Src.fuel h2 (Src.rng 0 20) = 21 := rfl
      simp only [zi, List.set]
      simp [Pg.b_law_3, pot_e, e1, e2, r2, fr, q3])
    ((List.range t).map fun (j : Nat) => D.int (0 + (j : Int))).length (t + 1) 0 [some (.rol (ns.map D.int)), some (.loc 4), some (.str ones), d3, none, none, none, none, d8, none] h0 (by simp) (by simp) ⟨none, none, none, none, d8, none, rfl⟩
  refine ⟨h2, ?_⟩
  have r2 : CRng (t : Int) := CRng.ok (by omega) (by omega)
  have fr : Src.fuel h0 (Src.rng 0 t) = t + 1 := rfl
  have e4 : Pg.b_law_4 [some (.rol (ns.map D.int)), some (.loc 4), some (.str ones), d3, none, none, none, none, d8, none] h0 = .nx e' h2 := by
    simp [Pg.b_law_4, ht, r2, fr, e2]
  have e1 : Pg.b_law_1 e' h2 = .rt (.bl true) h2 := by simp [Pg.b_law_1]
  have key : Pg.b_law (startE 10 [.rol (ns.map D.int)]) [] = .rt (.bl true) h2 := by
    unfold Pg.b_law
    exact (eo _).trans ((seq_nx e4).trans e1)
  exact den_rt key
end MP
set_option Elab.async false
set_option linter.all false
set_option maxRecDepth 100000
set_option maxHeartbeats 0
namespace MP
open PySem PySem.Spec L2
theorem good_law {K : PySem.W.Frag} {mg : Str → Option Value} {P : Program} {w : World} {base : Heap} (H : Hp) (a : Addr) (ns : List Int) (hO : Only H) (hS : SqL K H a (ns.map V.int)) {F : List D → MH → R D} {h' : MH} (e : F [.rol (ns.map D.int)] [] = .ok (.bl true) h') :
    spF K 1 F [.ref a] H (fun v _ => v = .bl true) fun _ _ _ => False := by
  refine ⟨rfl, [], [], [.rol (ns.map D.int)], ⟨rfl, by simp, fun n a mo e => by simp at e⟩, ?_, ?_⟩
  · refine .cons (.rol ?_ (rints ns)) .nil
    rcases hS with (h | ⟨o, h⟩) | h
    · rcases hO a with z | ⟨o, xs, z⟩
      · rw [h] at z; cases z
      · rw [h] at z; cases z
    · exact .inl ⟨o, h⟩
    · exact .inr h
  · rw [e]
    intro ρ' v H' _ _ r
    cases r; rfl
where rints : ∀ {K : PySem.W.Frag} {ρ : List Addr} {H : Hp} (ns : List Int), RVs K ρ H (ns.map D.int) (ns.map V.int)
  | _, _, _, [] => .nil
  | _, _, _, n :: ns => .cons (.int n) (rints ns)
abbrev Rw : PySem.W.OpenRow := PySem.W.OpenLaw.row PySem.Challenge.rw_editreach_k82_texts_that_are_none
def firstOf : Stmt → Stmt
  | .ClassDef _ _ _ body _ _ _ _ _ _ _ => body.headD (.Pass ⟨0, 0, 0, 0⟩)
  | s => s
abbrev stInit : Stmt := firstOf (Pg.top 1)
abbrev fvI (K : PySem.W.Frag) : FnV := fnV K (He.ma K (He.ga K "ReachError") "__init__")
abbrev valI : FnV := some (("__init__" : Str), ("ReachError.__init__" : Str), defArgs stInit, FuncBody.stmts (defBody stInit), defScope stInit, mainGlobals, [("__class__" : Str)], builtinsNs)
abbrev exI : PySem.W.Frag → Bool := exB (PySem.Challenge.rw_editreach_k82_texts_that_are_none).prog Pg.errCs
abbrev hk : PySem.W.Hook := hookY 4 Pg.fa Pg.fn fvI valI exI
def ob (s : PySem.W.SharedT) : AlY := obsY 4 Pg.fa Pg.fn fvI exI (HandSHeadRun.getT s)
theorem ob_eq (s : PySem.W.SharedT) : ob s = hk.obs s.abs := obsY_eq (HandSHeadRun.getT_eq s)
theorem errs_here {w : World} {K : PySem.W.Frag} {mg : Str → Option Value} {h base : Heap} (X : K.In h) (G : h.Ns mainGlobals mg) (ex : exI K = true) (hv : fvI K = valI) : Errs (PySem.Challenge.rw_editreach_k82_texts_that_are_none).prog w K mg base Pg.errCs :=
  errs_of X G ex hv rfl rfl rfl rfl rfl rfl rfl rfl rfl rfl (by decide +kernel) (by decide +kernel) (by decide +kernel)
    (fun env h => by
      obtain ⟨sc, a1, a2, a3, a4, a5, a6, a7, a8⟩ := env
      dsimp only at h
      subst h
      exact ⟨_, rfl⟩)
    (fun env h => by
      obtain ⟨sc, a1, a2, a3, a4, a5, a6, a7, a8⟩ := env
      dsimp only at h
      subst h
      rfl) (fun _ _ _ _ _ _ _ _ => rfl) (fun _ _ _ _ _ _ _ _ => rfl)
theorem run (w : World) : HandSHeadRun.RunEq Rw (PySem.W.view Rw.prog [Pg.topIx]) hk ob 12000 Pg.loose w := by
  intro os
  kernel_rfl
theorem facts {w : World} {K : PySem.W.Frag} {h : Heap} {mg : Str → Option Value} {f : Addr} (X : K.In h) (G : h.Ns mainGlobals mg) (hfa : mg ("law" : Str) = some (.ref f)) (c : He.SaysD Pg.fa Pg.fn K) (hv : fvI K = valI) (ex : exI K = true) :
    ∃ fd : FuncData, (∀ (s : Shared) (v : Value), BindsTo s fd ⟨[v], []⟩ [("_law_script", v)]) ∧ ∀ base : Heap, K.In base → base.Ns mainGlobals mg → FnG (PySem.Challenge.rw_editreach_k82_texts_that_are_none).prog w K mg base Pg.lawLevel f fd ["_law_script"] (spF K 1 Pg.F_law) := by
  obtain ⟨fd, F⟩ := c.def_ Pg.lawDef (d := Pg.dD "law" Pg.st_law) rfl
  have e := hfa.symm.trans (He.glo_ok X G (c.fact Pg.lawFact (f := .glo "law") rfl))
  cases e
  have b := FunD.bindsA (ps := ["_law_script"]) F fun _ _ _ _ _ _ us hl => match us, hl with | [_], _ => rfl
  exact ⟨fd, fun s v => b s [v] rfl, fun base _ _ => Pg.law_fn (errs_here X G ex hv) X G c F⟩
end MP
open PySem PySem.W PySem.Calls PyProof.Rows
theorem PySem.Challenge.cw_editreach_k82_texts_that_are_none_holds : PySem.Challenge.rw_editreach_k82_texts_that_are_none.Holds := by
  w_on; o_law
  refine HandSHeadRun.head_any (r := OpenLaw.row PySem.Challenge.rw_editreach_k82_texts_that_are_none) (q := view (OpenLaw.row PySem.Challenge.rw_editreach_k82_texts_that_are_none).prog [MP.Pg.topIx]) (H := MP.hk) (ob := MP.ob) (M := 12000) (loose := MP.Pg.loose) (d := HandSHeadRun.topDef (OpenLaw.row PySem.Challenge.rw_editreach_k82_texts_that_are_none).prog MP.Pg.topIx) (kwd := []) MP.ob_eq
    (by kernel_rfl) (fun s => by kernel_rfl) MP.run (by kernel_rfl) (by kernel_rfl) (by kernel_rfl) (by rfl) (by first | assumption | decide +kernel) (by decide +kernel) ⟨rfl, rfl, rfl, rfl, rfl, by decide +kernel⟩ ?hw ?hc
  case hw => w_witness2
  case hc =>
    refine MP.walkG (l := PySem.Challenge.rw_editreach_k82_texts_that_are_none) (n := 63) (k := MP.Pg.lawLevel) (x := "_law_script") rfl (by decide) (by kernel_rfl) ⟨⟨rfl, by decide, by decide⟩, rfl⟩ ?F
    intro w mg fa h Y G hmg0
    obtain ⟨K, KX, c, hv, ex⟩ := Y
    have hmg : mg ("law" : PySem.Str) = some (.ref fa) := by
      have e : (HandSHeadRun.topDef (OpenLaw.row PySem.Challenge.rw_editreach_k82_texts_that_are_none).prog MP.Pg.topIx).name = ("law" : PySem.Str) := by kernel_rfl
      rw [← e]
      exact hmg0
    obtain ⟨fd, hb, hF⟩ := MP.facts (w := w) KX G hmg c hv ex
    refine ⟨K, fd, MP.spF K 1 MP.Pg.F_law, KX, hb, fun H a ns hl hO hS => ?_, hF⟩
    obtain ⟨h', e⟩ := MP.law_true ns hl
    exact MP.good_law (mg := mg) (P := (PySem.Challenge.rw_editreach_k82_texts_that_are_none).prog) (w := w) (base := h) H a ns hO hS e
