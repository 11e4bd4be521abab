import PyProof.Rows.All
import Wide.All
import OpenK.AllK
import Wide.FinOn
import HandS.ForMost
import HandS.ForExc
import HandS.Flow
import HandS.Wide
import HandS.Deep
import HandS.IsInst
import HandS.Style
import HandS.TupAny
import HandS.TupMul
import HandS.Conv
import HandS.CallSlots
import HandS.TryMany
import KE.KExcPX
import HandS.More
import HandS.Defaults
import HandS.ExcField
import HandS.Ends
import HandS.RaiseMore
import HandS.HeadHook1
import HandS.Words
import HandS.HeadEnd
import HandS.HeadHook2
import HandS.HeadHook4
import HandS.Head0
import HandS.Head1
import HandS.Head2
import PySem.Challenge.RW_twoandabell_k00_words_and_entries
import Lean
set_option Elab.async false
set_option linter.all false
set_option maxRecDepth 100000
set_option maxHeartbeats 2000000
/-! Fe 1: own values, own store, what they stand for. -/
namespace Fe
open PySem PySem.Spec PyProof.Rows L2

/-- a value: tuples are trees, what can change is a place of the store -/
inductive D where
  | non | bl (b : Bool) | int (i : Int) | str (cs : List Nat) | tup (ds : List D) | ref (i : Nat)
  deriving Inhabited
mutual
def D.beq : D → D → Bool
  | .non, .non => true
  | .bl a, .bl b => a == b
  | .int a, .int b => a == b
  | .str a, .str b => a == b
  | .tup a, .tup b => D.beqs a b
  | .ref a, .ref b => a == b
  | _, _ => false
def D.beqs : List D → List D → Bool
  | [], [] => true
  | a :: as, b :: bs => D.beq a b && D.beqs as bs
  | _, _ => false
end
mutual
theorem D.beq_refl : ∀ a : D, D.beq a a = true
  | .non => rfl
  | .bl a => by simp [D.beq]
  | .int a => by simp [D.beq]
  | .str a => by simp [D.beq]
  | .tup a => by simp [D.beq, D.beqs_refl a]
  | .ref a => by simp [D.beq]
theorem D.beqs_refl : ∀ a : List D, D.beqs a a = true
  | [] => rfl
  | a :: as => by simp [D.beqs, D.beq_refl a, D.beqs_refl as]
end
mutual
theorem D.beq_eq : ∀ a b : D, D.beq a b = true → a = b
  | .non, b, h => by cases b <;> simp_all [D.beq]
  | .bl a, b, h => by cases b <;> simp_all [D.beq]
  | .int a, b, h => by cases b <;> simp_all [D.beq]
  | .str a, b, h => by cases b <;> simp_all [D.beq]
  | .tup a, b, h => by
    cases b with
    | tup c => rw [D.beqs_eq a c (by simpa [D.beq] using h)]
    | _ => simp [D.beq] at h
  | .ref a, b, h => by cases b <;> simp_all [D.beq]
theorem D.beqs_eq : ∀ a b : List D, D.beqs a b = true → a = b
  | [], b, h => by cases b <;> simp_all [D.beqs]
  | a :: as, b, h => by
    cases b with
    | nil => simp [D.beqs] at h
    | cons c cs =>
      have h' : D.beq a c = true ∧ D.beqs as cs = true := by simpa [D.beqs] using h
      rw [D.beq_eq a c h'.1, D.beqs_eq as cs h'.2]
end
instance : DecidableEq D := fun a b => decidable_of_iff (D.beq a b = true) ⟨D.beq_eq a b, fun h => h ▸ D.beq_refl a⟩

/-! no place of the store in it -/
mutual
def D.flat : D → Bool
  | .tup ds => D.flats ds
  | .ref _ => false
  | _ => true
def D.flats : List D → Bool
  | [] => true
  | d :: ds => d.flat && D.flats ds
end

/-- what stands at a place of the store -/
inductive O where
  | lst (ds : List D)
  | rl (ds : List D)
  | dct (kvs : List (D × D))
  deriving Inhabited, DecidableEq
abbrev S := List O
def O.flat : O → Bool
  | .lst ds => D.flats ds
  | .rl ds => D.flats ds
  | .dct kvs => D.flats (kvs.map (·.1)) && D.flats (kvs.map (·.2))

/-- an exception: its class's number, its fields -/
structure Xc where
  c : Nat
  ds : List D
inductive Out (α : Type) where
  | ok (a : α) (s : S)
  | exc (x : Xc) (s : S)
  | bad
def Out.bind {α β : Type} (o : Out α) (f : α → S → Out β) : Out β := match o with
  | .ok a s => f a s
  | .exc x s => .exc x s
  | .bad => .bad
abbrev Env := List (Option D)

/-! ### what values stand for -/
/-- a text's codes -/
def okS (cs : List Nat) : Bool := cs.all fun c => decide (c < 1114112)
theorem okS_append {a b : List Nat} (ha : okS a = true) (hb : okS b = true) : okS (a ++ b) = true := by
  unfold okS at *; rw [List.all_append, ha, hb]; rfl
theorem okS_sub {a b : List Nat} (h : ∀ c ∈ b, c ∈ a) (ha : okS a = true) : okS b = true := by
  unfold okS at *; rw [List.all_eq_true] at *; exact fun c hc => ha c (h c hc)
section
variable (K : PySem.W.Frag) (μ : List Addr) (H : Hp)
mutual
def RelD : D → V → Prop
  | .non, v => v = .non
  | .bl b, v => v = .bl b
  | .int i, v => v = .int i
  | .str cs, v => v = .str ⟨cs.toArray⟩ ∧ okS cs = true
  | .tup ds, v => ∃ a vs, v = .ref a ∧ SqT K H a vs ∧ RelDs ds vs
  | .ref i, v => ∃ a, v = .ref a ∧ μ[i]? = some a
def RelDs : List D → List V → Prop
  | [], vs => vs = []
  | d :: ds, vs => ∃ v ws, vs = v :: ws ∧ RelD d v ∧ RelDs ds ws
end
/-- a key -/
def keyOf : D → Option Key
  | .int i => some (.inl i)
  | .str cs => some (.inr ⟨cs.toArray⟩)
  | _ => none
def RelKV : List (D × D) → List (Key × V) → Prop
  | [], kvs => kvs = []
  | p :: ps, kvs => ∃ k v r, kvs = (k, v) :: r ∧ keyOf p.1 = some k ∧ RelD K μ H p.2 v ∧ RelKV ps r
def RelO' : O → Addr → Prop
  | .lst ds, a => ∃ vs, H a = some (.lst vs) ∧ RelDs K μ H ds vs
  | .rl ds, a => ∃ vs o, H a = some (.frz o (.lst vs)) ∧ RelDs K μ H ds vs
  | .dct kvs, a => ∃ ws, H a = some (.dK ws) ∧ RelKV K μ H kvs ws
structure Rel (s : S) : Prop where
  len : μ.length = s.length
  nd : μ.Nodup
  obj : ∀ (i : Nat) (a : Addr) (o : O), μ[i]? = some a → s[i]? = some o → RelO' K μ H o a
def RelEnv (ρ : Env) (σ : L2.St) : Prop := ρ.length = σ.length ∧ ∀ (i : Nat) (d : D), ρ[i]? = some (some d) → ∃ v, σ[i]? = some (some v) ∧ RelD K μ H d v
end
/-- tuples and what is locked are kept -/
structure Keep (H H' : Hp) : Prop where
  tup : ∀ a xs, H a = some (.tup xs) → H' a = some (.tup xs)
  frz : ∀ a o u, H a = some (.frz o u) → H' a = some (.frz o u)
  xd : ∀ a fs, H a = some (.xd fs) → H' a = some (.xd fs)
structure Ext (μ : List Addr) (H : Hp) (μ' : List Addr) (H' : Hp) : Prop where
  pre : μ <+: μ'
  keep : Keep H H'
theorem Keep.refl (H : Hp) : Keep H H := ⟨fun _ _ h => h, fun _ _ _ h => h, fun _ _ h => h⟩
theorem Keep.trans {H H1 H2 : Hp} (a : Keep H H1) (b : Keep H1 H2) : Keep H H2 := ⟨fun x y h => b.tup x y (a.tup x y h), fun x y z h => b.frz x y z (a.frz x y z h), fun x y h => b.xd x y (a.xd x y h)⟩
theorem Ext.refl (μ : List Addr) (H : Hp) : Ext μ H μ H := ⟨List.prefix_rfl, .refl H⟩
theorem Ext.trans {μ μ1 μ2 : List Addr} {H H1 H2 : Hp} (a : Ext μ H μ1 H1) (b : Ext μ1 H1 μ2 H2) : Ext μ H μ2 H2 := ⟨a.pre.trans b.pre, a.keep.trans b.keep⟩
theorem Keep.sqT {K : PySem.W.Frag} {H H' : Hp} {a : Addr} {xs : List V} (k : Keep H H') (h : SqT K H a xs) : SqT K H' a xs := by
  rcases h with (h | ⟨o, h⟩) | h
  · exact .inl (.inl (k.tup _ _ h))
  · exact .inl (.inr ⟨o, k.frz _ _ _ h⟩)
  · exact .inr h
theorem Keep.new {H : Hp} {p : Addr} {o : HO} (n : H p = none) : Keep H (upd H p o) :=
  ⟨fun a xs h => by rw [upd_ne (ne_of_none h n)]; exact h, fun a x u h => by rw [upd_ne (ne_of_none h n)]; exact h, fun a x h => by rw [upd_ne (ne_of_none h n)]; exact h⟩
theorem Keep.lst {H : Hp} {p : Addr} {o : HO} {xs : List V} (n : H p = some (.lst xs)) : Keep H (upd H p o) :=
  ⟨fun a ys h => by rw [upd_ne (ne_of h n (by intro q; cases q))]; exact h, fun a x u h => by rw [upd_ne (ne_of h n (by intro q; cases q))]; exact h, fun a x h => by rw [upd_ne (ne_of h n (by intro q; cases q))]; exact h⟩
theorem Keep.dK {H : Hp} {p : Addr} {o : HO} {xs : List (Key × V)} (n : H p = some (.dK xs)) : Keep H (upd H p o) :=
  ⟨fun a ys h => by rw [upd_ne (ne_of h n (by intro q; cases q))]; exact h, fun a x u h => by rw [upd_ne (ne_of h n (by intro q; cases q))]; exact h, fun a x h => by rw [upd_ne (ne_of h n (by intro q; cases q))]; exact h⟩
section
variable {K : PySem.W.Frag} {μ μ' : List Addr} {H H' : Hp}
theorem pre_get {α : Type} {l l' : List α} {i : Nat} {a : α} (p : l <+: l') (h : l[i]? = some a) : l'[i]? = some a := by
  obtain ⟨t, rfl⟩ := p
  have := (List.getElem?_eq_some_iff.mp h).1
  rw [List.getElem?_append_left this]; exact h
mutual
theorem RelD.mono (x : Ext μ H μ' H') : ∀ {d : D} {v : V}, RelD K μ H d v → RelD K μ' H' d v
  | .non, _, h => by rw [RelD] at h ⊢; exact h
  | .bl _, _, h => by rw [RelD] at h ⊢; exact h
  | .int _, _, h => by rw [RelD] at h ⊢; exact h
  | .str _, _, h => by rw [RelD] at h ⊢; exact h
  | .tup ds, v, h => by
    rw [RelD] at h ⊢
    obtain ⟨a, vs, e, q, r⟩ := h
    exact ⟨a, vs, e, x.keep.sqT q, RelDs.mono x r⟩
  | .ref i, v, h => by
    rw [RelD] at h ⊢
    obtain ⟨a, e, q⟩ := h
    exact ⟨a, e, pre_get x.pre q⟩
theorem RelDs.mono (x : Ext μ H μ' H') : ∀ {ds : List D} {vs : List V}, RelDs K μ H ds vs → RelDs K μ' H' ds vs
  | [], _, h => by rw [RelDs] at h ⊢; exact h
  | d :: ds, vs, h => by
    rw [RelDs] at h ⊢
    obtain ⟨v, ws, e, r, t⟩ := h
    exact ⟨v, ws, e, RelD.mono x r, RelDs.mono x t⟩
end
theorem RelKV.mono (x : Ext μ H μ' H') : ∀ {ps : List (D × D)} {kvs : List (Key × V)}, RelKV K μ H ps kvs → RelKV K μ' H' ps kvs
  | [], _, h => h
  | p :: ps, kvs, h => by
    obtain ⟨k, v, r, e, q, t, u⟩ := h
    exact ⟨k, v, r, e, q, t.mono x, RelKV.mono x u⟩
theorem RelEnv.mono {ρ : Env} {σ : L2.St} (x : Ext μ H μ' H') (h : RelEnv K μ H ρ σ) : RelEnv K μ' H' ρ σ :=
  ⟨h.1, fun i d e => let ⟨v, a, r⟩ := h.2 i d e; ⟨v, a, r.mono x⟩⟩
/-- the readings of RelD, one by one -/
theorem RelD.non_ (h : RelD K μ H .non v) : v = .non := by rw [RelD] at h; exact h
theorem RelD.bl_ {b : Bool} (h : RelD K μ H (.bl b) v) : v = .bl b := by rw [RelD] at h; exact h
theorem RelD.int_ {i : Int} (h : RelD K μ H (.int i) v) : v = .int i := by rw [RelD] at h; exact h
theorem RelD.str_ {cs : List Nat} (h : RelD K μ H (.str cs) v) : v = .str ⟨cs.toArray⟩ := by rw [RelD] at h; exact h.1
theorem RelD.okS {cs : List Nat} (h : RelD K μ H (.str cs) v) : Fe.okS cs = true := by rw [RelD] at h; exact h.2
theorem RelD.tup_ {ds : List D} (h : RelD K μ H (.tup ds) v) : ∃ a vs, v = .ref a ∧ SqT K H a vs ∧ RelDs K μ H ds vs := by rw [RelD] at h; exact h
theorem RelD.ref_ {i : Nat} (h : RelD K μ H (.ref i) v) : ∃ a, v = .ref a ∧ μ[i]? = some a := by rw [RelD] at h; exact h
theorem relNon : RelD K μ H .non .non := by rw [RelD]
theorem relBl {b : Bool} : RelD K μ H (.bl b) (.bl b) := by rw [RelD]
theorem relInt {i : Int} : RelD K μ H (.int i) (.int i) := by rw [RelD]
theorem relStr {cs : List Nat} (h : okS cs = true) : RelD K μ H (.str cs) (.str ⟨cs.toArray⟩) := by rw [RelD]; exact ⟨rfl, h⟩
theorem relTup {ds : List D} {a : Addr} {vs : List V} (q : SqT K H a vs) (r : RelDs K μ H ds vs) : RelD K μ H (.tup ds) (.ref a) := by rw [RelD]; exact ⟨a, vs, rfl, q, r⟩
theorem relRef {i : Nat} {a : Addr} (q : μ[i]? = some a) : RelD K μ H (.ref i) (.ref a) := by rw [RelD]; exact ⟨a, rfl, q⟩
theorem relNil : RelDs K μ H [] [] := by rw [RelDs]
theorem relCons {d : D} {ds : List D} {v : V} {vs : List V} (r : RelD K μ H d v) (t : RelDs K μ H ds vs) : RelDs K μ H (d :: ds) (v :: vs) := by rw [RelDs]; exact ⟨v, vs, rfl, r, t⟩
theorem RelDs.nil_ {vs : List V} (h : RelDs K μ H [] vs) : vs = [] := by rw [RelDs] at h; exact h
theorem RelDs.cons_ {d : D} {ds : List D} {vs : List V} (h : RelDs K μ H (d :: ds) vs) : ∃ v ws, vs = v :: ws ∧ RelD K μ H d v ∧ RelDs K μ H ds ws := by rw [RelDs] at h; exact h
theorem RelDs.length : ∀ {ds : List D} {vs : List V}, RelDs K μ H ds vs → vs.length = ds.length
  | [], vs, h => by rw [h.nil_]; rfl
  | d :: ds, vs, h => by
    obtain ⟨v, ws, rfl, _, t⟩ := h.cons_
    simp [RelDs.length t]
theorem RelDs.get : ∀ {ds : List D} {vs : List V} {i : Nat} {d : D}, RelDs K μ H ds vs → ds[i]? = some d → ∃ v, vs[i]? = some v ∧ RelD K μ H d v
  | [], vs, i, d, h, e => by simp at e
  | d :: ds, vs, 0, d', h, e => by
    obtain ⟨v, ws, rfl, r, t⟩ := h.cons_
    simp at e; subst e
    exact ⟨v, by simp, r⟩
  | d :: ds, vs, i + 1, d', h, e => by
    obtain ⟨v, ws, rfl, r, t⟩ := h.cons_
    obtain ⟨v', e', r'⟩ := RelDs.get (i := i) t (by simpa using e)
    exact ⟨v', by simpa using e', r'⟩
theorem RelDs.append : ∀ {ds es : List D} {vs ws : List V}, RelDs K μ H ds vs → RelDs K μ H es ws → RelDs K μ H (ds ++ es) (vs ++ ws)
  | [], es, vs, ws, h, t => by rw [h.nil_]; exact t
  | d :: ds, es, vs, ws, h, t => by
    obtain ⟨v, us, rfl, r, q⟩ := h.cons_
    exact relCons r (RelDs.append q t)
theorem RelDs.take : ∀ {ds : List D} {vs : List V} (n : Nat), RelDs K μ H ds vs → RelDs K μ H (ds.take n) (vs.take n)
  | ds, vs, 0, h => by simpa using relNil
  | [], vs, n + 1, h => by rw [h.nil_]; simpa using relNil
  | d :: ds, vs, n + 1, h => by
    obtain ⟨v, us, rfl, r, q⟩ := h.cons_
    simpa using relCons r (RelDs.take n q)
theorem RelDs.drop : ∀ {ds : List D} {vs : List V} (n : Nat), RelDs K μ H ds vs → RelDs K μ H (ds.drop n) (vs.drop n)
  | ds, vs, 0, h => by simpa using h
  | [], vs, n + 1, h => by rw [h.nil_]; simpa using relNil
  | d :: ds, vs, n + 1, h => by
    obtain ⟨v, us, rfl, r, q⟩ := h.cons_
    simpa using RelDs.drop n q
theorem RelDs.set : ∀ {ds : List D} {vs : List V} {d : D} {v : V} (i : Nat), RelD K μ H d v → RelDs K μ H ds vs → RelDs K μ H (ds.set i d) (vs.set i v)
  | [], vs, d, v, i, r, h => by rw [h.nil_]; simpa using relNil
  | e :: ds, vs, d, v, 0, r, h => by
    obtain ⟨u, us, rfl, r', q⟩ := h.cons_
    simpa using relCons r q
  | e :: ds, vs, d, v, i + 1, r, h => by
    obtain ⟨u, us, rfl, r', q⟩ := h.cons_
    simpa using relCons r' (RelDs.set i r q)
theorem RelDs.reverse : ∀ {ds : List D} {vs : List V}, RelDs K μ H ds vs → RelDs K μ H ds.reverse vs.reverse
  | [], vs, h => by rw [h.nil_]; simpa using relNil
  | d :: ds, vs, h => by
    obtain ⟨v, us, rfl, r, q⟩ := h.cons_
    rw [List.reverse_cons, List.reverse_cons]
    exact (RelDs.reverse q).append (relCons r relNil)
theorem RelDs.eraseIdx : ∀ {ds : List D} {vs : List V} (i : Nat), RelDs K μ H ds vs → RelDs K μ H (ds.eraseIdx i) (vs.eraseIdx i)
  | [], vs, i, h => by rw [h.nil_]; simpa using relNil
  | d :: ds, vs, 0, h => by
    obtain ⟨v, us, rfl, r, q⟩ := h.cons_
    simpa using q
  | d :: ds, vs, i + 1, h => by
    obtain ⟨v, us, rfl, r, q⟩ := h.cons_
    simpa using relCons r (RelDs.eraseIdx i q)

/-! ### the store grows and changes -/
theorem RelO'.mono {o : O} {a : Addr} (x : Ext μ H μ' H') (e : H' a = H a) (h : RelO' K μ H o a) : RelO' K μ' H' o a := by
  cases o with
  | lst ds =>
    obtain ⟨vs, q, r⟩ := h
    exact ⟨vs, e.trans q, r.mono x⟩
  | rl ds =>
    obtain ⟨vs, o, q, r⟩ := h
    exact ⟨vs, o, e.trans q, r.mono x⟩
  | dct kvs =>
    obtain ⟨ws, q, r⟩ := h
    exact ⟨ws, e.trans q, r.mono x⟩
theorem RelO'.there {o : O} {a : Addr} (h : RelO' K μ H o a) : ∃ u, H a = some u := by
  cases o with
  | lst ds => obtain ⟨vs, q, r⟩ := h; exact ⟨_, q⟩
  | rl ds => obtain ⟨vs, o, q, r⟩ := h; exact ⟨_, q⟩
  | dct kvs => obtain ⟨ws, q, r⟩ := h; exact ⟨_, q⟩
theorem Rel.at {s : S} {i : Nat} {o : O} (r : Rel K μ H s) (e : s[i]? = some o) : ∃ a, μ[i]? = some a ∧ RelO' K μ H o a := by
  have h : i < μ.length := by rw [r.len]; exact (List.getElem?_eq_some_iff.mp e).1
  exact ⟨μ[i], List.getElem?_eq_getElem h, r.obj i _ o (List.getElem?_eq_getElem h) e⟩
theorem Rel.tracked {s : S} {i : Nat} {a : Addr} (r : Rel K μ H s) (e : μ[i]? = some a) : ∃ u, H a = some u := by
  have h : i < s.length := by rw [← r.len]; exact (List.getElem?_eq_some_iff.mp e).1
  exact (r.obj i a s[i] e (List.getElem?_eq_getElem h)).there
/-- a new object that no other thing stands on -/
theorem Rel.new {s : S} {p : Addr} {u : HO} (r : Rel K μ H s) (n : H p = none) : Rel K μ (upd H p u) s ∧ Ext μ H μ (upd H p u) := by
  have x : Ext μ H μ (upd H p u) := ⟨List.prefix_rfl, .new n⟩
  refine ⟨⟨r.len, r.nd, fun i a o h1 h2 => ?_⟩, x⟩
  obtain ⟨w, hw⟩ := r.tracked h1
  exact (r.obj i a o h1 h2).mono x (upd_ne (ne_of_none hw n))
/-- a new object at a new place of the store -/
theorem Rel.push {s : S} {p : Addr} {u : HO} {o : O} (r : Rel K μ H s) (n : H p = none) (h : Ext μ H (μ ++ [p]) (upd H p u) → RelO' K (μ ++ [p]) (upd H p u) o p) :
    Rel K (μ ++ [p]) (upd H p u) (s ++ [o]) ∧ Ext μ H (μ ++ [p]) (upd H p u) ∧ (μ ++ [p])[s.length]? = some p := by
  have x : Ext μ H (μ ++ [p]) (upd H p u) := ⟨List.prefix_append _ _, .new n⟩
  have e : (μ ++ [p])[s.length]? = some p := by rw [← r.len]; simp
  refine ⟨⟨by simp [r.len], ?_, fun i a o' h1 h2 => ?_⟩, x, e⟩
  · refine List.nodup_append.mpr ⟨r.nd, by simp, fun a ha b hb => ?_⟩
    obtain ⟨i, hi, e'⟩ := List.getElem_of_mem ha
    obtain ⟨w, hw⟩ := r.tracked (show μ[i]? = some a by rw [← e']; exact List.getElem?_eq_getElem hi)
    rw [List.mem_singleton.mp hb]
    exact ne_of_none hw n
  · by_cases hi : i < s.length
    · rw [List.getElem?_append_left hi] at h2
      rw [List.getElem?_append_left (by rw [r.len]; exact hi)] at h1
      obtain ⟨w, hw⟩ := r.tracked h1
      exact (r.obj i a o' h1 h2).mono x (upd_ne (ne_of_none hw n))
    · have hl := (List.getElem?_eq_some_iff.mp h2).1
      rw [List.length_append, List.length_singleton] at hl
      have hi' : i = s.length := by omega
      subst hi'
      rw [e] at h1
      have h1' := Option.some.inj h1
      subst h1'
      have h2' : o = o' := by simpa using h2
      subst h2'
      exact h x
/-- an object changes -/
theorem Rel.put {s : S} {p : Addr} {u : HO} {i : Nat} {o : O} (r : Rel K μ H s) (e : μ[i]? = some p) (k : Keep H (upd H p u)) (h : Ext μ H μ (upd H p u) → RelO' K μ (upd H p u) o p) :
    Rel K μ (upd H p u) (s.set i o) ∧ Ext μ H μ (upd H p u) := by
  have x : Ext μ H μ (upd H p u) := ⟨List.prefix_rfl, k⟩
  refine ⟨⟨by simp [r.len], r.nd, fun j a o' h1 h2 => ?_⟩, x⟩
  by_cases hj : j = i
  · subst hj
    rw [e] at h1
    have h1' := Option.some.inj h1
    subst h1'
    have hl : j < s.length := by
      have := (List.getElem?_eq_some_iff.mp h2).1
      simpa using this
    rw [List.getElem?_set_self hl] at h2
    have h2' := Option.some.inj h2
    subst h2'
    exact h x
  · rw [List.getElem?_set_ne (Ne.symm hj)] at h2
    have ne : a ≠ p := fun q => by
      subst q
      exact hj ((List.getElem?_inj (List.getElem?_eq_some_iff.mp h1).1 r.nd).mp (h1.trans e.symm))
    exact (r.obj j a o' h1 h2).mono x (upd_ne ne)
end
end Fe

set_option maxHeartbeats 2000000
/-! Fe B: a tuple times 0, times 1; the empty tuple times anything. -/
namespace Fe
open PySem PySem.Spec PyProof.Rows L2
theorem tupTimes_same (l : Addr) (items : Array Value) (n : Nat) (dd : Option Addr) (sl : Array (Option Value)) (x : Int) (u : Tok) (c0 : (decide (x < -(2 ^ 63)) || decide (x ≥ 2 ^ 63)) = false) (c1 : (items.isEmpty || x == 1) = true) :
    Meets (Builtin.«tuple.__mul__» ⟨[.ref l, .int x u], []⟩) (fun _ R s => s.heap.get? l = some { cls := .type "tuple", dict := dd, data := .seq items n, slots := sl } ∧ R (.ok (.ret (Value.ref l))) s) :=
  .of_wp fun prog w A R s h => by
    obtain ⟨hp, g, d, tk, os⟩ := s
    obtain ⟨hl, h⟩ := h
    have f1 := AutoSeq1.idx_int
    wp_walk using wpAny_loadPart' hl
    repeat (first
      | (refine wpAny_ite_false (decide_eq_false (by rw [c0]; exact Bool.false_ne_true)) ?_; wp_walk using wpAny_loadPart' hl)
      | (refine wpAny_ite_true (decide_eq_true c1) ?_; wp_walk using wpAny_loadPart' hl))
    all_goals exact ⟨_, rfl, h⟩
theorem tupTimes_none (l : Addr) (items : Array Value) (n : Nat) (dd : Option Addr) (sl : Array (Option Value)) (x : Int) (u : Tok) (c0 : (decide (x < -(2 ^ 63)) || decide (x ≥ 2 ^ 63)) = false) (c1 : (items.isEmpty || x == 1) = false) (c2 : (decide (x ≤ 0) || items.isEmpty) = true) :
    Meets (Builtin.«tuple.__mul__» ⟨[.ref l, .int x u], []⟩) (fun _ R s => s.heap.get? l = some { cls := .type "tuple", dict := dd, data := .seq items n, slots := sl } ∧
      R (.ok (.ret (Value.ref s.heap.objs.size))) { s with heap := s.heap.push { cls := Value.type "tuple", data := Data.seq #[] }, toks := s.toks }) :=
  .of_wp fun prog w A R s h => by
    obtain ⟨hp, g, d, tk, os⟩ := s
    obtain ⟨hl, h⟩ := h
    have f1 := AutoSeq1.idx_int
    wp_walk using wpAny_loadPart' hl
    repeat (first
      | (refine wpAny_ite_false (decide_eq_false (by rw [c0]; exact Bool.false_ne_true)) ?_; wp_walk using wpAny_loadPart' hl)
      | (refine wpAny_ite_false (decide_eq_false (by rw [c1]; exact Bool.false_ne_true)) ?_; wp_walk using wpAny_loadPart' hl)
      | (refine wpAny_ite_true (decide_eq_true c2) ?_; wp_walk using wpAny_loadPart' hl))
    all_goals exact ⟨_, rfl, h⟩
def rTimes1 (K : PySem.W.Frag) : R2 := fun x y H Q => ∃ l k xs, x = .ref l ∧ y = .int k ∧ SqT K H l xs ∧ (xs.isEmpty || k == 1) = true ∧ -(2 ^ 63) ≤ k ∧ k < 2 ^ 63 ∧ Q (.ref l) H
def rTimes0 (K : PySem.W.Frag) : R2 := fun x y H Q => ∃ l k xs, x = .ref l ∧ y = .int k ∧ SqT K H l xs ∧ xs ≠ [] ∧ -(2 ^ 63) ≤ k ∧ k ≤ 0 ∧ ∀ p, H p = none → Q (.ref p) (upd H p (.tup []))
section
variable {X : Cx}
theorem op_times1 : OpR X (binaryOp .Mult) (rTimes1 X.K) := by
  intro pins s σ H x y v u Q I rx ry h
  obtain ⟨l, k, xs, rfl, rfl, hT, hk, h1, h2, q⟩ := h
  cases rx
  obtain ⟨t, rfl⟩ := ry
  obtain ⟨its, r, ⟨⟨cls, dd, data, sl⟩, ho, hc, n, hd⟩, hs⟩ := I.tuple hT
  simp only at hc hd
  subst hc hd
  have c0 : (decide (k < -(2 ^ 63)) || decide (k ≥ 2 ^ 63)) = false := by
    rw [decide_eq_false (by omega), decide_eq_false (by omega)] <;> rfl
  have c1 : (its.toArray.isEmpty || k == 1) = true := by
    cases xs with
    | nil =>
      have : its = [] := List.eq_nil_of_length_eq_zero r.length.symm
      rw [this]; rfl
    | cons a b =>
      have : (k == 1) = true := hk
      rw [this, Bool.or_true]
  refine wpAny_binaryOp_repeat_ref (T := "tuple") (U := "int") (by decide) ⟨_, ho, rfl⟩ (fun s' => typeIs_int s' k t) noFill_tuple_mul F.fills_int_mul F.slot_int_rmul repeat_tuple F.slot_int_index.lookup
    (call_meets F.slot_int_rmul (typeIs_int s k t) F.entry_int_rmul (F.args_int_rmul_2 _ _) (int_rmul_tuple k t l its.toArray n dd sl)
      ⟨ho, rfl, ⟨_, ho, rfl⟩, call_meets F.slot_tuple_mul ⟨_, ho, rfl⟩ F.entry_tuple_mul (F.args_tuple_mul_2 _ _) (tupTimes_same l its.toArray n dd sl k t c0 c1) ⟨ho, ?_⟩⟩)
  exact ⟨.ref l, H, I, rfl, q⟩
theorem op_times0 : OpR X (binaryOp .Mult) (rTimes0 X.K) := by
  intro pins s σ H x y v u Q I rx ry h
  obtain ⟨l, k, xs, rfl, rfl, hT, hne, h1, h2, q⟩ := h
  cases rx
  obtain ⟨t, rfl⟩ := ry
  obtain ⟨its, r, ⟨⟨cls, dd, data, sl⟩, ho, hc, n, hd⟩, hs⟩ := I.tuple hT
  simp only at hc hd
  subst hc hd
  have c0 : (decide (k < -(2 ^ 63)) || decide (k ≥ 2 ^ 63)) = false := by
    rw [decide_eq_false (by omega), decide_eq_false (by omega)] <;> rfl
  have c1 : (its.toArray.isEmpty || k == 1) = false := by
    cases its with
    | nil => exact absurd (List.eq_nil_of_length_eq_zero r.length) hne
    | cons a b => exact beq_eq_false_iff_ne.mpr (by omega)
  have c2 : (decide (k ≤ 0) || its.toArray.isEmpty) = true := by
    rw [decide_eq_true h2]; rfl
  refine wpAny_binaryOp_repeat_ref (T := "tuple") (U := "int") (by decide) ⟨_, ho, rfl⟩ (fun s' => typeIs_int s' k t) noFill_tuple_mul F.fills_int_mul F.slot_int_rmul repeat_tuple F.slot_int_index.lookup
    (call_meets F.slot_int_rmul (typeIs_int s k t) F.entry_int_rmul (F.args_int_rmul_2 _ _) (int_rmul_tuple k t l its.toArray n dd sl)
      ⟨ho, rfl, ⟨_, ho, rfl⟩, call_meets F.slot_tuple_mul ⟨_, ho, rfl⟩ F.entry_tuple_mul (F.args_tuple_mul_2 _ _) (tupTimes_none l its.toArray n dd sl k t c0 c1 c2) ⟨ho, ?_⟩⟩)
  exact ⟨.ref s.heap.objs.size, _, I.laid (t' := s.toks) (o := .tup []) (fun b ob q => Heap.get?_push_of_some _ q) (Nat.le_refl _) ⟨Nat.zero_le _, _, .nil, IsTup.new _ _⟩, rfl, q _ (I.hok.fresh (Nat.le_refl _))⟩
end
end Fe

set_option maxHeartbeats 2000000
/-! Fe 2: what expressions are worth, by the rules of the hand layer. -/
namespace Fe
open PySem PySem.Spec PyProof.Rows L2

/-! ### judgements weakened -/
theorem pe_imp {X : Cx} {e : Expr} {t t' : TE} (h : PE X e t) (i : ∀ σ H Q, t' σ H Q → t σ H Q) : PE X e t' := ⟨fun pins s σ H Q I w => h.run pins s σ H Q I (i σ H Q w)⟩
theorem pt_imp {X : Cx} {e : Expr} {t t' : TT} (h : PT X e t) (i : ∀ σ H Q, t' σ H Q → t σ H Q) : PT X e t' := ⟨fun pins s σ H Q I w => h.run pins s σ H Q I (i σ H Q w)⟩
theorem pw_imp {X : Cx} {e : Expr} {t t' : TT} (h : PW X e t) (i : ∀ σ H Q, t' σ H Q → t σ H Q) : PW X e t' := ⟨fun wh pins s σ H Q I w => h.run wh pins s σ H Q I (i σ H Q w)⟩
theorem pa_imp {X : Cx} {e : List Expr} {t t' : TA} (h : PA X e t) (i : ∀ σ H Q, t' σ H Q → t σ H Q) : PA X e t' := ⟨fun p pins s σ H Q I w => h.run p pins s σ H Q I (i σ H Q w)⟩
theorem po_imp {X : Cx} {e : Option Expr} {t t' : TO} (h : PO X e t) (i : ∀ σ H Q, t' σ H Q → t σ H Q) : PO X e t' := ⟨fun pins s σ H Q I w => h.run pins s σ H Q I (i σ H Q w)⟩

/-- where classes of exceptions stand, what their fields are called -/
structure Gc where
  cls : Nat → Addr
  flds : Nat → List Str
/-- an exception in the air -/
def RelX (K : PySem.W.Frag) (G : Gc) (μ : List Addr) (H : Hp) (x : Xc) (cls : Value) (dd : Option Addr) : Prop :=
  cls = .ref (G.cls x.c) ∧ ((x.ds = [] ∧ dd = none) ∨ ∃ d fs, dd = some d ∧ H d = some (.xd fs) ∧ fs.map (·.1) = G.flds x.c ∧ RelDs K μ H x.ds (fs.map (·.2)))

/-- an outcome's wish -/
def Fin {α : Type} (K : PySem.W.Frag) (G : Gc) (μ : List Addr) (H : Hp) (W : XK) (o : Out α) (q : α → S → List Addr → Hp → Prop) : Prop := match o with
  | .ok a s => ∀ μ' H', Ext μ H μ' H' → Rel K μ' H' s → q a s μ' H'
  | .exc x s => ∀ cls dd μ' H', Ext μ H μ' H' → Rel K μ' H' s → RelX K G μ' H' x cls dd → W cls dd H'
  | .bad => False
section
variable {K : PySem.W.Frag} {G : Gc} {μ : List Addr} {H : Hp} {W : XK} {α β : Type}
theorem Fin.imp {o : Out α} {q q' : α → S → List Addr → Hp → Prop} (h : Fin K G μ H W o q) (i : ∀ a s μ' H', Ext μ H μ' H' → Rel K μ' H' s → q a s μ' H' → q' a s μ' H') : Fin K G μ H W o q' := by
  cases o with
  | ok a s => exact fun μ' H' x r => i a s μ' H' x r (h μ' H' x r)
  | exc x s => exact h
  | bad => exact h
theorem Fin.ext {o : Out α} {q : α → S → List Addr → Hp → Prop} {μ' : List Addr} {H' : Hp} (x : Ext μ H μ' H') (h : Fin K G μ H W o q) : Fin K G μ' H' W o q := by
  cases o with
  | ok a s => exact fun μ2 H2 y r => h μ2 H2 (x.trans y) r
  | exc c s => exact fun cls dd μ2 H2 y r z => h cls dd μ2 H2 (x.trans y) r z
  | bad => exact h
theorem Fin.bind {o : Out α} {f : α → S → Out β} {q : β → S → List Addr → Hp → Prop} (h : Fin K G μ H W (o.bind f) q) : Fin K G μ H W o (fun a s μ' H' => Fin K G μ' H' W (f a s) q) := by
  cases o with
  | ok a s => exact fun μ' H' x r => Fin.ext (o := f a s) x h
  | exc c s => exact h
  | bad => exact h
theorem Fin.ok_ {a : α} {s : S} {q : α → S → List Addr → Hp → Prop} (r : Rel K μ H s) (h : Fin K G μ H W (.ok a s) q) : q a s μ H := h μ H (.refl μ H) r
end
/-- a value's wish -/
abbrev qD (K : PySem.W.Frag) (Q : VK) : D → S → List Addr → Hp → Prop := fun d _ μ H => ∀ v, RelD K μ H d v → Q v H
abbrev qB (Q : Bool → Hp → Prop) : Bool → S → List Addr → Hp → Prop := fun b _ _ H => Q b H
abbrev qA (K : PySem.W.Frag) (Q : List V → Hp → Prop) : List D → S → List Addr → Hp → Prop := fun ds _ μ H => ∀ vs, RelDs K μ H ds vs → Q vs H
abbrev qO (Q : Option Int → Hp → Prop) : Option Int → S → List Addr → Hp → Prop := fun o _ _ H => Q o H

def tD (K : PySem.W.Frag) (G : Gc) (W : WX) (f : Env → S → Out D) : TE := fun σ H Q => ∃ μ ρ s, Rel K μ H s ∧ RelEnv K μ H ρ σ ∧ Fin K G μ H (fun c d H' => W c d σ H') (f ρ s) (qD K Q)
def tB' (K : PySem.W.Frag) (G : Gc) (W : WX) (f : Env → S → Out Bool) : TT := fun σ H Q => ∃ μ ρ s, Rel K μ H s ∧ RelEnv K μ H ρ σ ∧ Fin K G μ H (fun c d H' => W c d σ H') (f ρ s) (qB Q)
def tA (K : PySem.W.Frag) (G : Gc) (W : WX) (f : Env → S → Out (List D)) : TA := fun σ H Q => ∃ μ ρ s, Rel K μ H s ∧ RelEnv K μ H ρ σ ∧ Fin K G μ H (fun c d H' => W c d σ H') (f ρ s) (qA K Q)
def tO' (K : PySem.W.Frag) (G : Gc) (W : WX) (f : Env → S → Out (Option Int)) : TO := fun σ H Q => ∃ μ ρ s, Rel K μ H s ∧ RelEnv K μ H ρ σ ∧ Fin K G μ H (fun c d H' => W c d σ H') (f ρ s) (qO Q)
/-- an expression's worth, a test's, arguments', a slice's part's -/
abbrev DE (X : Cx) (G : Gc) (W : WX) (e : Expr) (f : Env → S → Out D) : Prop := PE X e (tD X.K G W f)
abbrev DT (X : Cx) (G : Gc) (W : WX) (e : Expr) (f : Env → S → Out Bool) : Prop := PT X e (tB' X.K G W f)
abbrev DW (X : Cx) (G : Gc) (W : WX) (e : Expr) (f : Env → S → Out Bool) : Prop := PW X e (tB' X.K G W f)
abbrev DA (X : Cx) (G : Gc) (W : WX) (e : List Expr) (f : Env → S → Out (List D)) : Prop := PA X e (tA X.K G W f)
abbrev DO (X : Cx) (G : Gc) (W : WX) (e : Option Expr) (f : Env → S → Out (Option Int)) : Prop := PO X e (tO' X.K G W f)

section
variable {X : Cx} {G : Gc} {W : WX} {a b c e : Expr} {f g h : Env → S → Out D} {pos : Pos}
/-- one expression, then a reading by values -/
theorem d1 {σ : L2.St} {H : Hp} {μ : List Addr} {ρ : Env} {s : S} {f : Env → S → Out D} {k : D → S → Out D} {Q Q1 : VK} (r : Rel X.K μ H s) (re : RelEnv X.K μ H ρ σ) (h : Fin X.K G μ H (fun c d H' => W c d σ H') ((f ρ s).bind k) (qD X.K Q))
    (hk : ∀ d s1 μ1 H1 v, Ext μ H μ1 H1 → Rel X.K μ1 H1 s1 → RelEnv X.K μ1 H1 ρ σ → RelD X.K μ1 H1 d v → Fin X.K G μ1 H1 (fun c d H' => W c d σ H') (k d s1) (qD X.K Q) → Q1 v H1) : tD X.K G W f σ H Q1 :=
  ⟨μ, ρ, s, r, re, h.bind.imp fun d s1 μ1 H1 x r1 h1 v rv => hk d s1 μ1 H1 v x r1 (re.mono x) rv h1⟩
theorem d1B {σ : L2.St} {H : Hp} {μ : List Addr} {ρ : Env} {s : S} {f : Env → S → Out D} {k : D → S → Out Bool} {Q : Bool → Hp → Prop} {Q1 : VK} (r : Rel X.K μ H s) (re : RelEnv X.K μ H ρ σ) (h : Fin X.K G μ H (fun c d H' => W c d σ H') ((f ρ s).bind k) (qB Q))
    (hk : ∀ d s1 μ1 H1 v, Ext μ H μ1 H1 → Rel X.K μ1 H1 s1 → RelEnv X.K μ1 H1 ρ σ → RelD X.K μ1 H1 d v → Fin X.K G μ1 H1 (fun c d H' => W c d σ H') (k d s1) (qB Q) → Q1 v H1) : tD X.K G W f σ H Q1 :=
  ⟨μ, ρ, s, r, re, h.bind.imp fun d s1 μ1 H1 x r1 h1 v rv => hk d s1 μ1 H1 v x r1 (re.mono x) rv h1⟩

/-! ### constants, names -/
theorem de_non {j : Nat} : DE X G W (.Constant .none j pos) (fun _ s => .ok .non s) := pe_imp pe_non fun σ H Q ⟨μ, ρ, s, r, re, h⟩ => h.ok_ r _ relNon
theorem de_bl {j : Nat} {k : Bool} : DE X G W (.Constant (.bool k) j pos) (fun _ s => .ok (.bl k) s) := pe_imp pe_bl fun σ H Q ⟨μ, ρ, s, r, re, h⟩ => h.ok_ r _ relBl
theorem de_int {j : Nat} {k : Int} : DE X G W (.Constant (.int k) j pos) (fun _ s => .ok (.int k) s) := pe_imp pe_int fun σ H Q ⟨μ, ρ, s, r, re, h⟩ => h.ok_ r _ relInt
theorem de_str {j : Nat} {cs : List Nat} (ok : okS cs = true) : DE X G W (.Constant (.str ⟨cs.toArray⟩) j pos) (fun _ s => .ok (.str cs) s) := pe_imp pe_str fun σ H Q ⟨μ, ρ, s, r, re, h⟩ => h.ok_ r _ (relStr ok)
/-- a name's value -/
def lk (ρ : Env) (i : Nat) (s : S) : Out D := match ρ[i]? with
  | some (some d) => .ok d s
  | _ => .bad
theorem de_var {i : Nat} {x : Str} (hN : X.N[i]? = some x) (hv : Vis X.env.scope x) (hd : (x == ("__debug__" : Str)) = false) (hcd : (x == ("__classdict__" : Str)) = false) : DE X G W (.Name x pos) (fun ρ s => lk ρ i s) :=
  pe_imp (pe_var hN hv hd hcd) fun σ H Q ⟨μ, ρ, s, r, re, h⟩ => by
    dsimp only [lk] at h
    split at h
    · rename_i d e
      obtain ⟨v, q, rv⟩ := re.2 i d e
      exact ⟨v, q, h.ok_ r _ rv⟩
    · exact h.elim
/-- a name of the module that stands for a constant -/
theorem de_glo {x : Str} {v : V} {u : Value} {d : D} (hg : Gl X x) (hm : X.mg x = some u) (r : RelV v u) (hd : (x == ("__debug__" : Str)) = false) (hv : ∀ μ H, RelD X.K μ H d v) : DE X G W (.Name x pos) (fun _ s => .ok d s) :=
  pe_imp (pe_glob hg hm r hd) fun σ H Q ⟨μ, ρ, s, rr, re, h⟩ => h.ok_ rr _ (hv μ H)

/-! ### operators -/
theorem de_bin {op : Operator} {r : R2} {k : D → D → S → Out D} (ho : OpR X (binaryOp op) r) (ha : DE X G W a f) (hb : DE X G W b g)
    (hk : ∀ d1 d2 s μ H v1 v2 W Q, Rel X.K μ H s → RelD X.K μ H d1 v1 → RelD X.K μ H d2 v2 → Fin X.K G μ H W (k d1 d2 s) (qD X.K Q) → r v1 v2 H Q) :
    DE X G W (.BinOp a op b pos) (fun ρ s => (f ρ s).bind fun x s => (g ρ s).bind fun y s => k x y s) :=
  pe_imp (pe_op ho ha hb) fun σ H Q ⟨μ, ρ, s, rr, re, h⟩ => d1 rr re h fun x s1 μ1 H1 v1 x1 r1 re1 rv1 h1 => d1 r1 re1 h1 fun y s2 μ2 H2 v2 x2 r2 re2 rv2 h2 =>
    hk x y s2 μ2 H2 v1 v2 _ Q r2 (rv1.mono x2) rv2 h2
theorem de_un {op : UnaryOp} {r : V → Hp → VK → Prop} {k : D → S → Out D} (ho : UnR X (unaryOp op) r) (ha : DE X G W a f)
    (hk : ∀ d1 s μ H v1 W Q, Rel X.K μ H s → RelD X.K μ H d1 v1 → Fin X.K G μ H W (k d1 s) (qD X.K Q) → r v1 H Q) :
    DE X G W (.UnaryOp op a pos) (fun ρ s => (f ρ s).bind fun x s => k x s) :=
  pe_imp (pe_un ho ha) fun σ H Q ⟨μ, ρ, s, rr, re, h⟩ => d1 rr re h fun x s1 μ1 H1 v1 x1 r1 re1 rv1 h1 => hk x s1 μ1 H1 v1 _ Q r1 rv1 h1
theorem de_cmp {op : CmpOp} {r : R2} {k : D → D → S → Out D} (ho : OpR X (compareOp op) r) (ha : DE X G W a f) (hb : DE X G W b g) (hm : behindInMarks op b = false)
    (hk : ∀ d1 d2 s μ H v1 v2 W Q, Rel X.K μ H s → RelD X.K μ H d1 v1 → RelD X.K μ H d2 v2 → Fin X.K G μ H W (k d1 d2 s) (qD X.K Q) → r v1 v2 H Q) :
    DE X G W (.Compare a [op] [b] pos) (fun ρ s => (f ρ s).bind fun x s => (g ρ s).bind fun y s => k x y s) :=
  pe_imp (pe_cmpR ho ha hb hm) fun σ H Q ⟨μ, ρ, s, rr, re, h⟩ => d1 rr re h fun x s1 μ1 H1 v1 x1 r1 re1 rv1 h1 => d1 r1 re1 h1 fun y s2 μ2 H2 v2 x2 r2 re2 rv2 h2 =>
    hk x y s2 μ2 H2 v1 v2 _ Q r2 (rv1.mono x2) rv2 h2
/-- the same as a test: the answer is True or False -/
def asB (o : Out D) : Out Bool := o.bind fun d s => match d with
  | .bl b => .ok b s
  | _ => .bad
theorem fin_asB {K : PySem.W.Frag} {μ : List Addr} {H : Hp} {W : XK} {o : Out D} {Q : Bool → Hp → Prop} (h : Fin K G μ H W (asB o) (qB Q)) : Fin K G μ H W o (qD K fun x H' => ∃ k, x = .bl k ∧ Q k H') := by
  refine h.bind.imp fun d s μ' H' x r h1 v rv => ?_
  cases d with
  | bl b => exact ⟨b, rv.bl_, h1.ok_ r⟩
  | _ => exact h1.elim
theorem dt_cmp {op : CmpOp} {r : R2} {k : D → D → S → Out D} (ho : OpR X (compareOp op) r) (ha : DE X G W a f) (hb : DE X G W b g) (hm : behindInMarks op b = false)
    (hk : ∀ d1 d2 s μ H v1 v2 W Q, Rel X.K μ H s → RelD X.K μ H d1 v1 → RelD X.K μ H d2 v2 → Fin X.K G μ H W (k d1 d2 s) (qD X.K Q) → r v1 v2 H Q) :
    DT X G W (.Compare a [op] [b] pos) (fun ρ s => (f ρ s).bind fun x s => (g ρ s).bind fun y s => asB (k x y s)) :=
  pt_imp (pt_cmpR ho ha hb hm) fun σ H Q ⟨μ, ρ, s, rr, re, h⟩ => d1B rr re h fun x s1 μ1 H1 v1 x1 r1 re1 rv1 h1 => d1B r1 re1 h1 fun y s2 μ2 H2 v2 x2 r2 re2 rv2 h2 =>
    hk x y s2 μ2 H2 v1 v2 _ _ r2 (rv1.mono x2) rv2 (fin_asB h2)

/-! ### truth -/
def truth (s : S) : D → Option Bool
  | .non => some false
  | .bl b => some b
  | .int i => some (i != 0)
  | .str cs => if cs.length ≤ 16777216 then some (!cs.isEmpty) else none
  | .tup ds => some (!ds.isEmpty)
  | .ref i => match s[i]? with
    | some (.lst ds) => some (!ds.isEmpty)
    | some (.rl ds) => some (!ds.isEmpty)
    | some (.dct kvs) => some (!kvs.isEmpty)
    | none => none
def tru (d : D) (s : S) : Out Bool := match truth s d with
  | some b => .ok b s
  | none => .bad
theorem RelDs.isEmpty {K : PySem.W.Frag} {μ : List Addr} {H : Hp} : ∀ {ds : List D} {vs : List V}, RelDs K μ H ds vs → vs.isEmpty = ds.isEmpty
  | [], vs, h => by rw [h.nil_]; rfl
  | d :: ds, vs, h => by obtain ⟨v, ws, rfl, _, _⟩ := h.cons_; rfl
theorem RelKV.isEmpty {K : PySem.W.Frag} {μ : List Addr} {H : Hp} : ∀ {ds : List (D × D)} {vs : List (Key × V)}, RelKV K μ H ds vs → vs.isEmpty = ds.isEmpty
  | [], vs, h => by cases h; rfl
  | d :: ds, vs, h => by obtain ⟨_, _, _, rfl, _⟩ := h; rfl
theorem truth_ok {K : PySem.W.Frag} {μ : List Addr} {H : Hp} {s : S} {d : D} {v : V} {k : Bool} (r : Rel K μ H s) (rv : RelD K μ H d v) (e : truth s d = some k) : TruV K v H k := by
  cases d with
  | non => rw [rv.non_]; exact (Option.some.inj e).symm
  | bl b => rw [rv.bl_]; exact (Option.some.inj e).symm
  | int i => rw [rv.int_]; exact (Option.some.inj e).symm
  | str cs =>
    rw [rv.str_]
    dsimp only [truth] at e
    split at e
    · rename_i hl
      refine ⟨by rw [sizeLine_eq]; simpa [Str.length] using hl, ?_⟩
      rw [← Option.some.inj e]
      cases cs with
      | nil => rfl
      | cons c cs =>
        have : (((Str.mk (c :: cs).toArray).length : Int) != 0) = true := by simp [Str.length]; omega
        rw [this]; rfl
    · cases e
  | tup ds =>
    obtain ⟨a, vs, rfl, q, t⟩ := rv.tup_
    exact .inr (.inl ⟨vs, q, by rw [t.isEmpty]; exact (Option.some.inj e).symm⟩)
  | ref i =>
    obtain ⟨a, rfl, ha⟩ := rv.ref_
    dsimp only [truth] at e
    split at e
    · rename_i ds hs
      obtain ⟨vs, q, t⟩ := r.obj i a _ ha hs
      exact .inl ⟨vs, .of q, by rw [t.isEmpty]; exact (Option.some.inj e).symm⟩
    · rename_i ds hs
      obtain ⟨vs, o, q, t⟩ := r.obj i a _ ha hs
      exact .inl ⟨vs, .inl (.inr ⟨o, q⟩), by rw [t.isEmpty]; exact (Option.some.inj e).symm⟩
    · rename_i kvs hs
      obtain ⟨ws, q, t⟩ := r.obj i a _ ha hs
      exact .inr (.inr ⟨ws, q, by rw [t.isEmpty]; exact (Option.some.inj e).symm⟩)
    · cases e
theorem tru_fin {K : PySem.W.Frag} {μ : List Addr} {H : Hp} {s : S} {d : D} {v : V} {W : XK} {Q : Bool → Hp → Prop} (r : Rel K μ H s) (rv : RelD K μ H d v) (h : Fin K G μ H W (tru d s) (qB Q)) : ∃ k, TruV K v H k ∧ Q k H := by
  unfold tru at h
  split at h
  · rename_i k e
    exact ⟨k, truth_ok r rv e, h.ok_ r⟩
  · exact h.elim
theorem dt_truth (ha : DE X G W a f) (he : ∀ whole, isTrue a X.env whole = (do let v ← whole; standAt a.pos; holding [v] (truthy v))) : DT X G W a (fun ρ s => (f ρ s).bind tru) :=
  pt_imp (pt_truth ha he) fun σ H Q ⟨μ, ρ, s, rr, re, h⟩ => d1B rr re h fun x s1 μ1 H1 v1 x1 r1 re1 rv1 h1 => tru_fin r1 rv1 h1

/-! ### and, or, not, if -/
section
variable {p q : Env → S → Out Bool} {rest : List Expr}
theorem tB_bind {σ : L2.St} {H : Hp} {μ : List Addr} {ρ : Env} {s : S} {k : Bool → S → Out Bool} {Q : Bool → Hp → Prop} {Q1 : Bool → Hp → Prop} (r : Rel X.K μ H s) (re : RelEnv X.K μ H ρ σ) (h : Fin X.K G μ H (fun c d H' => W c d σ H') ((p ρ s).bind k) (qB Q))
    (hk : ∀ d s1 μ1 H1, Rel X.K μ1 H1 s1 → RelEnv X.K μ1 H1 ρ σ → Fin X.K G μ1 H1 (fun c d H' => W c d σ H') (k d s1) (qB Q) → Q1 d H1) : tB' X.K G W p σ H Q1 :=
  ⟨μ, ρ, s, r, re, h.bind.imp fun d s1 μ1 H1 x r1 h1 => hk d s1 μ1 H1 r1 (re.mono x) h1⟩
theorem tB_bindD {σ : L2.St} {H : Hp} {μ : List Addr} {ρ : Env} {s : S} {k : Bool → S → Out D} {Q : VK} {Q1 : Bool → Hp → Prop} (r : Rel X.K μ H s) (re : RelEnv X.K μ H ρ σ) (h : Fin X.K G μ H (fun c d H' => W c d σ H') ((p ρ s).bind k) (qD X.K Q))
    (hk : ∀ d s1 μ1 H1, Rel X.K μ1 H1 s1 → RelEnv X.K μ1 H1 ρ σ → Fin X.K G μ1 H1 (fun c d H' => W c d σ H') (k d s1) (qD X.K Q) → Q1 d H1) : tB' X.K G W p σ H Q1 :=
  ⟨μ, ρ, s, r, re, h.bind.imp fun d s1 μ1 H1 x r1 h1 => hk d s1 μ1 H1 r1 (re.mono x) h1⟩
theorem dw_and1 (ha : DT X G W a p) : DW X G W (.BoolOp .And [a] pos) p := pw_and1 ha
theorem dw_or1 (ha : DT X G W a p) : DW X G W (.BoolOp .Or [a] pos) p := pw_or1 ha
theorem dw_and (ha : DT X G W a p) (hb : DW X G W (.BoolOp .And (b :: rest) pos) q) : DW X G W (.BoolOp .And (a :: b :: rest) pos) (fun ρ s => (p ρ s).bind fun k s => if k = true then q ρ s else .ok false s) :=
  pw_imp (pw_and ha hb) fun σ H Q ⟨μ, ρ, s, rr, re, h⟩ => tB_bind rr re h fun k s1 μ1 H1 r1 re1 h1 => by
    cases k with
    | true => exact ⟨μ1, ρ, s1, r1, re1, h1⟩
    | false => exact Fin.ok_ r1 h1
theorem dw_or (ha : DT X G W a p) (hb : DW X G W (.BoolOp .Or (b :: rest) pos) q) : DW X G W (.BoolOp .Or (a :: b :: rest) pos) (fun ρ s => (p ρ s).bind fun k s => if k = true then .ok true s else q ρ s) :=
  pw_imp (pw_or ha hb) fun σ H Q ⟨μ, ρ, s, rr, re, h⟩ => tB_bind rr re h fun k s1 μ1 H1 r1 re1 h1 => by
    cases k with
    | true => exact Fin.ok_ r1 h1
    | false => exact ⟨μ1, ρ, s1, r1, re1, h1⟩
theorem dt_not (ha : DT X G W a p) : DT X G W (.UnaryOp .Not a pos) (fun ρ s => (p ρ s).bind fun k s => .ok (!k) s) :=
  pt_imp (pt_not ha) fun σ H Q ⟨μ, ρ, s, rr, re, h⟩ => tB_bind rr re h fun k s1 μ1 H1 r1 re1 h1 => h1.ok_ r1
theorem de_one {op : BoolOp} (ha : DE X G W a f) : DE X G W (.BoolOp op [a] pos) f := pe_one ha
theorem de_and (ha : DE X G W a f) (hb : DE X G W (.BoolOp .And (b :: rest) pos) g) : DE X G W (.BoolOp .And (a :: b :: rest) pos) (fun ρ s => (f ρ s).bind fun x s => (tru x s).bind fun k s => if k = true then g ρ s else .ok x s) :=
  pe_imp (pe_andT ha hb) fun σ H Q ⟨μ, ρ, s, rr, re, h⟩ => d1 rr re h fun x s1 μ1 H1 v1 x1 r1 re1 rv1 h1 => by
    unfold tru at h1
    split at h1
    · rename_i k e
      refine ⟨k, truth_ok r1 rv1 e, ?_⟩
      cases k with
      | true => exact ⟨μ1, ρ, s1, r1, re1, h1⟩
      | false => exact Fin.ok_ r1 h1 _ rv1
    · exact h1.elim
theorem de_or (ha : DE X G W a f) (hb : DE X G W (.BoolOp .Or (b :: rest) pos) g) : DE X G W (.BoolOp .Or (a :: b :: rest) pos) (fun ρ s => (f ρ s).bind fun x s => (tru x s).bind fun k s => if k = true then .ok x s else g ρ s) :=
  pe_imp (pe_orT ha hb) fun σ H Q ⟨μ, ρ, s, rr, re, h⟩ => d1 rr re h fun x s1 μ1 H1 v1 x1 r1 re1 rv1 h1 => by
    unfold tru at h1
    split at h1
    · rename_i k e
      refine ⟨k, truth_ok r1 rv1 e, ?_⟩
      cases k with
      | true => exact Fin.ok_ r1 h1 _ rv1
      | false => exact ⟨μ1, ρ, s1, r1, re1, h1⟩
    · exact h1.elim
theorem de_not (ha : DE X G W a f) : DE X G W (.UnaryOp .Not a pos) (fun ρ s => (f ρ s).bind fun x s => (tru x s).bind fun k s => .ok (.bl (!k)) s) :=
  pe_imp (pe_notT ha) fun σ H Q ⟨μ, ρ, s, rr, re, h⟩ => d1 rr re h fun x s1 μ1 H1 v1 x1 r1 re1 rv1 h1 => by
    unfold tru at h1
    split at h1
    · rename_i k e
      exact ⟨k, truth_ok r1 rv1 e, Fin.ok_ (α := D) r1 h1 _ relBl⟩
    · exact h1.elim
theorem de_if (hc : DT X G W c p) (ha : DE X G W a f) (hb : DE X G W b g) : DE X G W (.IfExp c a b pos) (fun ρ s => (p ρ s).bind fun k s => if k = true then f ρ s else g ρ s) :=
  pe_imp (pe_ifExp hc ha hb) fun σ H Q ⟨μ, ρ, s, rr, re, h⟩ => tB_bindD rr re h fun k s1 μ1 H1 r1 re1 h1 => by
    cases k with
    | true => exact ⟨μ1, ρ, s1, r1, re1, h1⟩
    | false => exact ⟨μ1, ρ, s1, r1, re1, h1⟩
end

/-! ### arguments, tuples, lists -/
def notStar : Expr → Bool
  | .Starred _ _ => false
  | _ => true
theorem star_ns {es : List Expr} {env : PySem.Env} : ∀ {e : Expr}, notStar e = true → starEach (e :: es) env = (false, eval e env) :: starEach es env
  | .Starred _ _, h => by cases h
  | .BoolOp .., _ => rfl
  | .NamedExpr .., _ => rfl
  | .BinOp .., _ => rfl
  | .UnaryOp .., _ => rfl
  | .Lambda .., _ => rfl
  | .IfExp .., _ => rfl
  | .Dict .., _ => rfl
  | .Set .., _ => rfl
  | .ListComp .., _ => rfl
  | .SetComp .., _ => rfl
  | .DictComp .., _ => rfl
  | .GeneratorExp .., _ => rfl
  | .Await .., _ => rfl
  | .Yield .., _ => rfl
  | .YieldFrom .., _ => rfl
  | .Compare .., _ => rfl
  | .Call .., _ => rfl
  | .FormattedValue .., _ => rfl
  | .JoinedStr .., _ => rfl
  | .Constant .., _ => rfl
  | .Attribute .., _ => rfl
  | .Subscript .., _ => rfl
  | .Name .., _ => rfl
  | .List .., _ => rfl
  | .Tuple .., _ => rfl
  | .Slice .., _ => rfl
theorem star_any {env : PySem.Env} {pos : Pos} : ∀ {es : List Expr}, es.all notStar = true → (backTo pos (starEach es env)).any (·.1) = false
  | [], _ => rfl
  | [e], h => by
    have h1 : notStar e = true := by simpa using h
    rw [star_ns h1]; rfl
  | e :: e' :: es, h => by
    have h1 : notStar e = true ∧ (e' :: es).all notStar = true := by simpa using h
    have ih := star_any (env := env) (pos := pos) (es := e' :: es) h1.2
    rw [star_ns h1.1]
    have h2 : notStar e' = true := by simpa using (by simpa using h1.2 : notStar e' = true ∧ _).1
    rw [star_ns h2] at ih ⊢
    simpa [backTo] using ih
theorem da_nil : DA X G W [] (fun _ s => .ok [] s) := pa_imp pa_nil fun σ H Q ⟨μ, ρ, s, r, re, h⟩ => h.ok_ r _ relNil
theorem da_cons {es : List Expr} {fs : Env → S → Out (List D)} (hs : notStar e = true) (he : DE X G W e f) (hr : DA X G W es fs) : DA X G W (e :: es) (fun ρ s => (f ρ s).bind fun x s => (fs ρ s).bind fun xs s => .ok (x :: xs) s) :=
  pa_imp (pa_cons he hr (star_ns hs)) fun σ H Q ⟨μ, ρ, s, r, re, h⟩ => ⟨μ, ρ, s, r, re, h.bind.imp fun d s1 μ1 H1 x1 r1 h1 v rv => ⟨μ1, ρ, s1, r1, re.mono x1, h1.bind.imp fun ds s2 μ2 H2 x2 r2 h2 vs rvs => Fin.ok_ r2 h2 _ (relCons (rv.mono x2) rvs)⟩⟩
theorem dA1 {σ : L2.St} {H : Hp} {μ : List Addr} {ρ : Env} {s : S} {fs : Env → S → Out (List D)} {k : List D → S → Out D} {Q : VK} {Q1 : List V → Hp → Prop} (r : Rel X.K μ H s) (re : RelEnv X.K μ H ρ σ) (h : Fin X.K G μ H (fun c d H' => W c d σ H') ((fs ρ s).bind k) (qD X.K Q))
    (hk : ∀ d s1 μ1 H1 v, Ext μ H μ1 H1 → Rel X.K μ1 H1 s1 → RelEnv X.K μ1 H1 ρ σ → RelDs X.K μ1 H1 d v → Fin X.K G μ1 H1 (fun c d H' => W c d σ H') (k d s1) (qD X.K Q) → Q1 v H1) : tA X.K G W fs σ H Q1 :=
  ⟨μ, ρ, s, r, re, h.bind.imp fun d s1 μ1 H1 x r1 h1 v rv => hk d s1 μ1 H1 v x r1 (re.mono x) rv h1⟩
def mkTup (ds : List D) (s : S) : Out D := if ds.length ≤ 16777216 then .ok (.tup ds) s else .bad
def mkLst (ds : List D) (s : S) : Out D := if ds.length ≤ 16777216 then .ok (.ref s.length) (s ++ [.lst ds]) else .bad
/-- a new tuple answers -/
theorem tup_fin {K : PySem.W.Frag} {μ : List Addr} {H : Hp} {s : S} {ds : List D} {vs : List V} {W : XK} {Q : VK} (r : Rel K μ H s) (rv : RelDs K μ H ds vs) (h : Fin K G μ H W (.ok (.tup ds) s) (qD K Q)) {p : Addr} (n : H p = none) : Q (.ref p) (upd H p (.tup vs)) := by
  obtain ⟨r', x⟩ := r.new (u := .tup vs) n
  exact h μ _ x r' _ (relTup (.of upd_same) (rv.mono x))
theorem lst_fin {K : PySem.W.Frag} {μ : List Addr} {H : Hp} {s : S} {ds : List D} {vs : List V} {W : XK} {Q : VK} (r : Rel K μ H s) (rv : RelDs K μ H ds vs) (h : Fin K G μ H W (.ok (.ref s.length) (s ++ [.lst ds])) (qD K Q)) {p : Addr} (n : H p = none) : Q (.ref p) (upd H p (.lst vs)) := by
  obtain ⟨r', x, e⟩ := r.push (u := .lst vs) (o := .lst ds) n fun x => ⟨vs, upd_same, rv.mono x⟩
  exact h _ _ x r' _ (relRef e)
theorem de_tup {es : List Expr} {fs : Env → S → Out (List D)} {x1 : Nat} (hr : DA X G W es fs) : DE X G W (.Tuple es x1 pos) (fun ρ s => (fs ρ s).bind mkTup) :=
  pe_imp (pe_tup hr) fun σ H Q ⟨μ, ρ, s, r, re, h⟩ => dA1 r re h fun ds s1 μ1 H1 vs x1 r1 re1 rv1 h1 => by
    unfold mkTup at h1
    split at h1
    · rename_i hl
      exact ⟨by rw [rv1.length, sizeLine_eq]; exact hl, fun p n => tup_fin r1 rv1 h1 n⟩
    · exact h1.elim
theorem de_lst {es : List Expr} {fs : Env → S → Out (List D)} (hr : DA X G W es fs) : DE X G W (.List es pos) (fun ρ s => (fs ρ s).bind mkLst) :=
  pe_imp (pe_lst hr) fun σ H Q ⟨μ, ρ, s, r, re, h⟩ => dA1 r re h fun ds s1 μ1 H1 vs x1 r1 re1 rv1 h1 => by
    unfold mkLst at h1
    split at h1
    · rename_i hl
      exact ⟨by rw [rv1.length, sizeLine_eq]; exact hl, fun p n => lst_fin r1 rv1 h1 n⟩
    · exact h1.elim
end
end Fe

set_option maxHeartbeats 2000000
/-! Fe 3: operators, comparisons, places, slices. -/
namespace Fe
open PySem PySem.Spec PyProof.Rows L2

def getL (s : S) (i : Nat) : Option (List D) := match s[i]? with
  | some (.lst ds) => some ds
  | some (.rl ds) => some ds
  | _ => none
def line : Nat := 16777216
theorem line_eq : line = sizeLine := by rw [sizeLine_eq]; rfl
section
variable {K : PySem.W.Frag} {G : Gc} {μ : List Addr} {H : Hp} {W : XK} {s : S} {Q : VK}
theorem getL_ok {i : Nat} {ds : List D} {v : V} (r : Rel K μ H s) (rv : RelD K μ H (.ref i) v) (e : getL s i = some ds) : ∃ a vs, v = .ref a ∧ μ[i]? = some a ∧ SqL K H a vs ∧ RelDs K μ H ds vs := by
  obtain ⟨a, rfl, ha⟩ := rv.ref_
  unfold getL at e
  split at e
  · rename_i ds' hs
    cases e
    obtain ⟨vs, q, t⟩ := r.obj i a _ ha hs
    exact ⟨a, vs, rfl, ha, .of q, t⟩
  · rename_i ds' hs
    cases e
    obtain ⟨vs, o, q, t⟩ := r.obj i a _ ha hs
    exact ⟨a, vs, rfl, ha, .inl (.inr ⟨o, q⟩), t⟩
  · cases e
theorem lst_ok {i : Nat} {ds : List D} {v : V} (r : Rel K μ H s) (rv : RelD K μ H (.ref i) v) (e : s[i]? = some (.lst ds)) : ∃ a vs, v = .ref a ∧ μ[i]? = some a ∧ H a = some (.lst vs) ∧ RelDs K μ H ds vs := by
  obtain ⟨a, rfl, ha⟩ := rv.ref_
  obtain ⟨vs, q, t⟩ := r.obj i a _ ha e
  exact ⟨a, vs, rfl, ha, q, t⟩
theorem fin_ok {d : D} {v : V} (r : Rel K μ H s) (rv : RelD K μ H d v) (h : Fin K G μ H W (.ok d s) (qD K Q)) : Q v H := h.ok_ r v rv
theorem RelDs.sized {ds : List D} {vs : List V} (h : RelDs K μ H ds vs) (e : ds.length ≤ line) : vs.length ≤ sizeLine := by rw [h.length, ← line_eq]; exact e
end

/-! ### + -/
def opAdd : D → D → S → Out D
  | .int i, .int j, s => .ok (.int (i + j)) s
  | .str a, .str b, s => if a.length + b.length ≤ line then .ok (.str (a ++ b)) s else .bad
  | .tup a, .tup b, s => if a.length + b.length ≤ line then .ok (.tup (a ++ b)) s else .bad
  | .ref i, .ref j, s => match s[i]?, s[j]? with
    | some (.lst a), some (.lst b) => if a.length + b.length ≤ line then .ok (.ref s.length) (s ++ [.lst (a ++ b)]) else .bad
    | _, _ => .bad
  | _, _, _ => .bad
section
variable {X : Cx} {G : Gc}
abbrev rAddA (X : Cx) : R2 := fun x y H Q => (rI0 (fun i j => .int (i + j)) x y H Q ∨ ∃ i j, x = .str i ∧ y = .str j ∧ i.length + j.length ≤ sizeLine ∧ Q (.str (i ++ j)) H) ∨ (rCatA X.K x y H Q ∨ rCat x y H Q)
theorem op_addA : OpR X (binaryOp .Add) (rAddA X) := (op_add.or op_add_str).or (op_catA.or op_cat)
theorem str_app (a b : List Nat) : (Str.mk a.toArray) ++ (Str.mk b.toArray) = Str.mk (a ++ b).toArray := by
  show Str.append _ _ = _
  simp [Str.append]
theorem add_ok : ∀ d1 d2 s μ H v1 v2 W Q, Rel X.K μ H s → RelD X.K μ H d1 v1 → RelD X.K μ H d2 v2 → Fin X.K G μ H W (opAdd d1 d2 s) (qD X.K Q) → rAddA X v1 v2 H Q := by
  intro d1 d2 s μ H v1 v2 W Q r r1 r2 h
  cases d1 with
  | int i =>
    cases d2 with
    | int j => rw [r1.int_, r2.int_]; exact .inl (.inl ⟨i, j, rfl, rfl, fin_ok r relInt h⟩)
    | _ => exact h.elim
  | str a =>
    cases d2 with
    | str b =>
      dsimp only [opAdd] at h
      split at h
      · rename_i hl
        rw [r1.str_, r2.str_]
        exact .inl (.inr ⟨_, _, rfl, rfl, by rw [← line_eq]; simpa [Str.length] using hl, by rw [str_app]; exact fin_ok r (relStr (okS_append r1.okS r2.okS)) h⟩)
      · exact h.elim
    | _ => exact h.elim
  | tup a =>
    cases d2 with
    | tup b =>
      dsimp only [opAdd] at h
      split at h
      · rename_i hl
        obtain ⟨p, vs, rfl, q1, t1⟩ := r1.tup_
        obtain ⟨p', ws, rfl, q2, t2⟩ := r2.tup_
        refine .inr (.inl ⟨p, p', vs, ws, rfl, rfl, q1, q2, by rw [t1.length, t2.length, ← line_eq]; exact hl, fun e => ?_, fun _ e => ?_, fun _ _ n hn => ?_⟩)
        · have e' : a = [] := List.eq_nil_of_length_eq_zero (by rw [← t1.length, e]; rfl)
          subst e'
          exact fin_ok r r2 h
        · have e' : b = [] := List.eq_nil_of_length_eq_zero (by rw [← t2.length, e]; rfl)
          subst e'
          rw [List.append_nil] at h
          exact fin_ok r r1 h
        · exact tup_fin r (t1.append t2) h hn
      · exact h.elim
    | _ => exact h.elim
  | ref i =>
    cases d2 with
    | ref j =>
      dsimp only [opAdd] at h
      split at h
      · rename_i a b ha hb
        split at h
        · rename_i hl
          obtain ⟨p, vs, rfl, _, q1, t1⟩ := lst_ok r r1 ha
          obtain ⟨p', ws, rfl, _, q2, t2⟩ := lst_ok r r2 hb
          exact .inr (.inr ⟨p, p', vs, ws, rfl, rfl, q1, q2, by rw [t1.length, t2.length, ← line_eq]; exact hl, fun n hn => lst_fin r (t1.append t2) h hn⟩)
        · exact h.elim
      · exact h.elim
    | _ => exact h.elim
  | _ => exact h.elim

/-! ### -, *, //, %, ** of numbers; a list, a tuple, a text some times -/
def opSub : D → D → S → Out D
  | .int i, .int j, s => .ok (.int (i - j)) s
  | _, _, _ => .bad
theorem sub_ok : ∀ d1 d2 s μ H v1 v2 W Q, Rel X.K μ H s → RelD X.K μ H d1 v1 → RelD X.K μ H d2 v2 → Fin X.K G μ H W (opSub d1 d2 s) (qD X.K Q) → rI0 (fun i j => .int (i - j)) v1 v2 H Q := by
  intro d1 d2 s μ H v1 v2 W Q r r1 r2 h
  cases d1 with
  | int i =>
    cases d2 with
    | int j => rw [r1.int_, r2.int_]; exact ⟨i, j, rfl, rfl, fin_ok r relInt h⟩
    | _ => exact h.elim
  | _ => exact h.elim
def mulOk (i j : Int) : Bool := decide (i.natAbs < 2 ^ 64) || decide (j.natAbs < 2 ^ 64) || decide (i.natAbs.log2 + j.natAbs.log2 < 1000000)
theorem mulOk_ok {i j : Int} (h : mulOk i j = true) : IntMulOk i j := by
  unfold mulOk at h
  rw [Bool.or_eq_true, Bool.or_eq_true] at h
  rcases h with (h | h) | h
  · have h' := of_decide_eq_true h
    exact CMul.ok (.inl (by omega))
  · have h' := of_decide_eq_true h
    exact CMul.ok (.inr (by omega))
  · have h' : i.natAbs.log2 + j.natAbs.log2 < 1000000 := of_decide_eq_true h
    exact CMulW.ok h'
def opMul : D → D → S → Out D
  | .int i, .int j, s => if mulOk i j = true then .ok (.int (i * j)) s else .bad
  | .ref i, .int k, s => match s[i]? with
    | some (.lst a) => if -(2 ^ 63) ≤ k ∧ k < 2 ^ 63 ∧ a.length * k.toNat ≤ line then .ok (.ref s.length) (s ++ [.lst (List.replicate k.toNat a).flatten]) else .bad
    | _ => .bad
  | .tup a, .int k, s => if -(2 ^ 63) ≤ k ∧ k < 2 ^ 63 ∧ (a = [] ∨ k ≤ 1 ∨ (k ≤ 1000 ∧ a.length ≤ 1000)) then .ok (.tup (List.replicate k.toNat a).flatten) s else .bad
  | _, _, _ => .bad
theorem op_mulA : OpR X (binaryOp .Mult) (rI (fun i j => mulOk i j = true) fun i j => .int (i * j)) := opI fun _ _ _ _ _ _ _ hc q => mul_int q (mulOk_ok hc)
theorem RelDs.flatten {K : PySem.W.Frag} {μ : List Addr} {H : Hp} {ds : List D} {vs : List V} (h : RelDs K μ H ds vs) : ∀ n : Nat, RelDs K μ H (List.replicate n ds).flatten (List.replicate n vs).flatten
  | 0 => relNil
  | n + 1 => by
    rw [List.replicate_succ, List.replicate_succ, List.flatten_cons, List.flatten_cons]
    exact h.append (RelDs.flatten h n)
abbrev rMulA (X : Cx) : R2 := fun x y H Q => rI (fun i j => mulOk i j = true) (fun i j => .int (i * j)) x y H Q ∨ (rRep x y H Q ∨ (rRepT X.K x y H Q ∨ (rTimes1 X.K x y H Q ∨ rTimes0 X.K x y H Q)))
theorem op_mulAll : OpR X (binaryOp .Mult) (rMulA X) := op_mulA.or (op_rep.or (op_repT.or (op_times1.or op_times0)))
theorem mul_ok : ∀ d1 d2 s μ H v1 v2 W Q, Rel X.K μ H s → RelD X.K μ H d1 v1 → RelD X.K μ H d2 v2 → Fin X.K G μ H W (opMul d1 d2 s) (qD X.K Q) → rMulA X v1 v2 H Q := by
  intro d1 d2 s μ H v1 v2 W Q r r1 r2 h
  cases d1 with
  | int i =>
    cases d2 with
    | int j =>
      dsimp only [opMul] at h
      split at h
      · rename_i hc
        rw [r1.int_, r2.int_]; exact .inl ⟨i, j, rfl, rfl, hc, fin_ok r relInt h⟩
      · exact h.elim
    | _ => exact h.elim
  | tup a =>
    cases d2 with
    | int k =>
      dsimp only [opMul] at h
      split at h
      · rename_i hc
        obtain ⟨p, vs, rfl, q1, t1⟩ := r1.tup_
        rw [r2.int_]
        obtain ⟨b1, b2, b3⟩ := hc
        have same : (List.replicate k.toNat a).flatten = a → Q (.ref p) H := fun e => by
          rw [e] at h
          exact fin_ok r (relTup q1 t1) h
        by_cases ha : a = []
        · subst ha
          cases t1.nil_
          refine .inr (.inr (.inr (.inl ⟨p, k, [], rfl, rfl, q1, rfl, b1, b2, same (by simp)⟩)))
        · have hv : vs ≠ [] := fun e => ha (List.eq_nil_of_length_eq_zero (by rw [← t1.length, e]; rfl))
          by_cases h1 : k = 1
          · subst h1
            exact .inr (.inr (.inr (.inl ⟨p, 1, vs, rfl, rfl, q1, by simp, b1, b2, same (by simp)⟩)))
          · by_cases h0 : k ≤ 0
            · have e0 : k.toNat = 0 := by omega
              rw [e0] at h
              exact .inr (.inr (.inr (.inr ⟨p, k, vs, rfl, rfl, q1, hv, b1, h0, fun n hn => tup_fin r relNil h hn⟩)))
            · have b4 : k ≤ 1000 ∧ a.length ≤ 1000 := by
                rcases b3 with b | b | b
                · exact absurd b ha
                · omega
                · exact b
              exact .inr (.inr (.inl ⟨p, k, vs, rfl, rfl, q1, hv, by omega, b4.1, by rw [t1.length]; exact b4.2, fun n hn => tup_fin r (t1.flatten _) h hn⟩))
      · exact h.elim
    | _ => exact h.elim
  | ref i =>
    cases d2 with
    | int k =>
      dsimp only [opMul] at h
      split at h
      · rename_i a ha
        split at h
        · rename_i hc
          obtain ⟨p, vs, rfl, _, q1, t1⟩ := lst_ok r r1 ha
          rw [r2.int_]
          exact .inr (.inl ⟨p, k, vs, rfl, rfl, q1, hc.1, hc.2.1, by rw [t1.length, ← line_eq]; exact hc.2.2, fun n hn => lst_fin r (t1.flatten _) h hn⟩)
        · exact h.elim
      · exact h.elim
    | _ => exact h.elim
  | _ => exact h.elim
def divOk (j : Int) : Bool := decide (0 < j) && decide (j.natAbs.log2 < 9000)
def opDiv : D → D → S → Out D
  | .int i, .int j, s => if divOk j = true then .ok (.int (i / j)) s else .bad
  | _, _, _ => .bad
theorem div_ok : ∀ d1 d2 s μ H v1 v2 W Q, Rel X.K μ H s → RelD X.K μ H d1 v1 → RelD X.K μ H d2 v2 → Fin X.K G μ H W (opDiv d1 d2 s) (qD X.K Q) → rI CDivW (fun i j => .int (i / j)) v1 v2 H Q := by
  intro d1 d2 s μ H v1 v2 W Q r r1 r2 h
  cases d1 with
  | int i =>
    cases d2 with
    | int j =>
      dsimp only [opDiv] at h
      split at h
      · rename_i hc
        unfold divOk at hc
        rw [Bool.and_eq_true] at hc
        rw [r1.int_, r2.int_]; exact ⟨i, j, rfl, rfl, ⟨of_decide_eq_true hc.1, of_decide_eq_true hc.2⟩, fin_ok r relInt h⟩
      · exact h.elim
    | _ => exact h.elim
  | _ => exact h.elim
def opMod : D → D → S → Out D
  | .int i, .int j, s => if 0 < j then .ok (.int (i % j)) s else .bad
  | _, _, _ => .bad
theorem mod_ok : ∀ d1 d2 s μ H v1 v2 W Q, Rel X.K μ H s → RelD X.K μ H d1 v1 → RelD X.K μ H d2 v2 → Fin X.K G μ H W (opMod d1 d2 s) (qD X.K Q) → rI (fun _ j => 0 < j) (fun i j => .int (i % j)) v1 v2 H Q := by
  intro d1 d2 s μ H v1 v2 W Q r r1 r2 h
  cases d1 with
  | int i =>
    cases d2 with
    | int j =>
      dsimp only [opMod] at h
      split at h
      · rename_i hc
        rw [r1.int_, r2.int_]; exact ⟨i, j, rfl, rfl, hc, fin_ok r relInt h⟩
      · exact h.elim
    | _ => exact h.elim
  | _ => exact h.elim
def powOk (i j : Int) : Bool := decide (0 ≤ j) && decide ((i.natAbs.log2 + 1) * j.toNat ≤ 2 ^ 27)
theorem op_powA : OpR X (binaryOp .Pow) (rI (fun i j => powOk i j = true) fun i j => .int (i ^ j.toNat)) := opI fun i j _ _ _ _ _ hc q => by
  unfold powOk at hc
  rw [Bool.and_eq_true] at hc
  have h0 := of_decide_eq_true hc.1
  have h1 := of_decide_eq_true hc.2
  refine pow_int h0 ?_ q
  have b : Builtin.Int.intBits i ≤ i.natAbs.log2 + 1 := by unfold Builtin.Int.intBits; split <;> omega
  have e : j = (j.toNat : Int) := by omega
  have h2 : Builtin.Int.intBits i * j.toNat ≤ 2 ^ 27 := Nat.le_trans (Nat.mul_le_mul_right _ b) h1
  rw [e]
  exact_mod_cast h2
def opPow : D → D → S → Out D
  | .int i, .int j, s => if powOk i j = true then .ok (.int (i ^ j.toNat)) s else .bad
  | _, _, _ => .bad
theorem pow_ok : ∀ d1 d2 s μ H v1 v2 W Q, Rel X.K μ H s → RelD X.K μ H d1 v1 → RelD X.K μ H d2 v2 → Fin X.K G μ H W (opPow d1 d2 s) (qD X.K Q) → rI (fun i j => powOk i j = true) (fun i j => .int (i ^ j.toNat)) v1 v2 H Q := by
  intro d1 d2 s μ H v1 v2 W Q r r1 r2 h
  cases d1 with
  | int i =>
    cases d2 with
    | int j =>
      dsimp only [opPow] at h
      split at h
      · rename_i hc
        rw [r1.int_, r2.int_]; exact ⟨i, j, rfl, rfl, hc, fin_ok r relInt h⟩
      · exact h.elim
    | _ => exact h.elim
  | _ => exact h.elim
def opNeg : D → S → Out D
  | .int i, s => .ok (.int (-i)) s
  | _, _ => .bad
theorem neg_ok : ∀ d1 s μ H v1 W Q, Rel X.K μ H s → RelD X.K μ H d1 v1 → Fin X.K G μ H W (opNeg d1 s) (qD X.K Q) → rU (fun i => .int (-i)) v1 H Q := by
  intro d1 s μ H v1 W Q r r1 h
  cases d1 with
  | int i => rw [r1.int_]; exact ⟨i, rfl, fin_ok r relInt h⟩
  | _ => exact h.elim

/-! ### == and != of data -/
def mapO {α β : Type} (f : α → Option β) : List α → Option (List β)
  | [] => some []
  | a :: as => match f a, mapO f as with
    | some b, some bs => some (b :: bs)
    | _, _ => none
/-- a value written out, to a depth -/
def pd (s : S) : Nat → D → Option PyData
  | _, .non => some .none
  | _, .bl b => some (.bool b)
  | _, .int i => some (.int i)
  | _, .str cs => some (.str ⟨cs.toArray⟩)
  | 0, .tup _ => none
  | 0, .ref _ => none
  | n + 1, .tup ds => (mapO (pd s n) ds).map .tuple
  | n + 1, .ref i => match getL s i with
    | some ds => (mapO (pd s n) ds).map .list
    | none => none
def PdOk (K : PySem.W.Frag) (H : Hp) (n : Nat) (v : V) (p : PyData) : Prop := Dp K H v p ∧ p.canLay0 = true ∧ p.depth ≤ n
theorem pds_ok {K : PySem.W.Frag} {μ : List Addr} {H : Hp} {s : S} {n : Nat} (ih : ∀ d v p, RelD K μ H d v → pd s n d = some p → PdOk K H n v p) :
    ∀ ds vs ps, RelDs K μ H ds vs → mapO (pd s n) ds = some ps → DpAll K H vs ps ∧ PyData.canLayAll0 ps = true ∧ PyData.depthAll ps ≤ n
  | [], vs, ps, r, e => by
    rw [r.nil_]; cases e
    exact ⟨.nil, rfl, Nat.zero_le _⟩
  | d :: ds, vs, ps, r, e => by
    obtain ⟨v, ws, rfl, r1, t⟩ := r.cons_
    unfold mapO at e
    split at e
    · rename_i p qs e1 e2
      cases e
      obtain ⟨a1, a2, a3⟩ := ih d v p r1 e1
      obtain ⟨b1, b2, b3⟩ := pds_ok ih ds ws qs t e2
      exact ⟨.cons a1 b1, by simp [PyData.canLayAll0, a2, b2], by simp only [PyData.depthAll]; omega⟩
    · cases e
theorem strOk_of {cs : List Nat} (h : okS cs = true) : PyData.strOk ⟨cs.toArray⟩ = true := by
  unfold PyData.strOk
  rw [Array.all_eq_true']
  intro c hc
  unfold okS at h
  rw [List.all_eq_true] at h
  exact h c (by simpa using hc)
theorem pd_ok {K : PySem.W.Frag} {μ : List Addr} {H : Hp} {s : S} (r : Rel K μ H s) : ∀ n d v p, RelD K μ H d v → pd s n d = some p → PdOk K H n v p := by
  have flat : ∀ n d v p, RelD K μ H d v → (∀ ds, d ≠ .tup ds) → (∀ i, d ≠ .ref i) → pd s n d = some p → PdOk K H n v p := by
    intro n d v p rv h1 h2 e
    cases d with
    | non => rw [rv.non_]; unfold pd at e; cases e; exact ⟨.non, rfl, Nat.zero_le _⟩
    | bl b => rw [rv.bl_]; unfold pd at e; cases e; exact ⟨.bl b, rfl, Nat.zero_le _⟩
    | int b => rw [rv.int_]; unfold pd at e; cases e; exact ⟨.int b, rfl, Nat.zero_le _⟩
    | str cs => rw [rv.str_]; unfold pd at e; cases e; exact ⟨.str _, by simp only [PyData.canLay0]; exact strOk_of rv.okS, Nat.zero_le _⟩
    | tup ds => exact absurd rfl (h1 ds)
    | ref i => exact absurd rfl (h2 i)
  intro n
  induction n with
  | zero =>
    intro d v p rv e
    cases d with
    | tup ds => cases e
    | ref i => cases e
    | _ => exact flat _ _ v p rv (by intro _ q; cases q) (by intro _ q; cases q) e
  | succ n ih =>
    intro d v p rv e
    cases d with
    | tup ds =>
      unfold pd at e
      obtain ⟨a, vs, rfl, q, t⟩ := rv.tup_
      cases h : mapO (pd s n) ds with
      | none => rw [h] at e; cases e
      | some ps =>
        rw [h] at e
        cases e
        obtain ⟨b1, b2, b3⟩ := pds_ok ih ds vs ps t h
        exact ⟨.tup q b1, by simpa [PyData.canLay0] using b2, by simp only [PyData.depth]; omega⟩
    | ref i =>
      unfold pd at e
      split at e
      · rename_i ds hg
        obtain ⟨a, vs, rfl, _, q, t⟩ := getL_ok r rv hg
        cases h : mapO (pd s n) ds with
        | none => rw [h] at e; cases e
        | some ps =>
          rw [h] at e
          cases e
          obtain ⟨b1, b2, b3⟩ := pds_ok ih ds vs ps t h
          exact ⟨.lst q b1, by simpa [PyData.canLay0] using b2, by simp only [PyData.depth]; omega⟩
      · cases e
    | _ => exact flat _ _ v p rv (by intro _ q; cases q) (by intro _ q; cases q) e
def eqD (s : S) (a b : D) : Option Bool := match pd s 60 a, pd s 60 b with
  | some x, some y => some (PyData.eqv x y)
  | _, _ => none
def opEq (a b : D) (s : S) : Out D := match eqD s a b with
  | some k => .ok (.bl k) s
  | none => .bad
def opNe (a b : D) (s : S) : Out D := match eqD s a b with
  | some k => .ok (.bl (!k)) s
  | none => .bad
theorem shaped_of {p : PyData} (h : p.canLay0 = true) (hd : p.depth ≤ 60) : SeqAt.shaped p = true := by
  unfold SeqAt.shaped
  rw [h, decide_eq_true (by omega)]; rfl
theorem eqD_ok {K : PySem.W.Frag} {μ : List Addr} {H : Hp} {s : S} {a b : D} {v1 v2 : V} {k : Bool} (r : Rel K μ H s) (r1 : RelD K μ H a v1) (r2 : RelD K μ H b v2) (e : eqD s a b = some k) :
    ∃ x y, Dp K H v1 x ∧ Dp K H v2 y ∧ SeqAt.shaped x = true ∧ SeqAt.shaped y = true ∧ k = PyData.eqv x y := by
  unfold eqD at e
  split at e
  · rename_i x y e1 e2
    cases e
    obtain ⟨a1, a2, a3⟩ := pd_ok r 60 a v1 x r1 e1
    obtain ⟨b1, b2, b3⟩ := pd_ok r 60 b v2 y r2 e2
    exact ⟨x, y, a1, b1, shaped_of a2 a3, shaped_of b2 b3, rfl⟩
  · cases e
theorem eq_ok : ∀ d1 d2 s μ H v1 v2 W Q, Rel X.K μ H s → RelD X.K μ H d1 v1 → RelD X.K μ H d2 v2 → Fin X.K G μ H W (opEq d1 d2 s) (qD X.K Q) → rEqD X.K v1 v2 H Q := by
  intro d1 d2 s μ H v1 v2 W Q r r1 r2 h
  unfold opEq at h
  split at h
  · rename_i k e
    obtain ⟨x, y, a, b, c, d, e'⟩ := eqD_ok r r1 r2 e
    exact ⟨x, y, a, b, c, d, by rw [← e']; exact fin_ok r relBl h⟩
  · exact h.elim
theorem ne_ok : ∀ d1 d2 s μ H v1 v2 W Q, Rel X.K μ H s → RelD X.K μ H d1 v1 → RelD X.K μ H d2 v2 → Fin X.K G μ H W (opNe d1 d2 s) (qD X.K Q) → rNeD X.K v1 v2 H Q := by
  intro d1 d2 s μ H v1 v2 W Q r r1 r2 h
  unfold opNe at h
  split at h
  · rename_i k e
    obtain ⟨x, y, a, b, c, d, e'⟩ := eqD_ok r r1 r2 e
    exact ⟨x, y, a, b, c, d, by rw [← e']; exact fin_ok r relBl h⟩
  · exact h.elim

/-! ### order of numbers, is None -/
def opI2 (p : Int → Int → Bool) : D → D → S → Out D
  | .int i, .int j, s => .ok (.bl (p i j)) s
  | _, _, _ => .bad
theorem i2_ok (p : Int → Int → Bool) : ∀ d1 d2 s μ H v1 v2 W Q, Rel X.K μ H s → RelD X.K μ H d1 v1 → RelD X.K μ H d2 v2 → Fin X.K G μ H W (opI2 p d1 d2 s) (qD X.K Q) → rI0 (fun i j => .bl (p i j)) v1 v2 H Q := by
  intro d1 d2 s μ H v1 v2 W Q r r1 r2 h
  cases d1 with
  | int i =>
    cases d2 with
    | int j => rw [r1.int_, r2.int_]; exact ⟨i, j, rfl, rfl, fin_ok r relBl h⟩
    | _ => exact h.elim
  | _ => exact h.elim
def isNon : D → Bool
  | .non => true
  | _ => false
theorem isNon_ok {K : PySem.W.Frag} {μ : List Addr} {H : Hp} {d : D} {v : V} (r : RelD K μ H d v) : decide (v = .non) = isNon d := by
  cases d with
  | non => rw [r.non_]; rfl
  | bl b => rw [r.bl_]; rfl
  | int b => rw [r.int_]; rfl
  | str b => rw [r.str_]; rfl
  | tup b => obtain ⟨_, _, rfl, _⟩ := r.tup_; rfl
  | ref b => obtain ⟨_, rfl, _⟩ := r.ref_; rfl
def opIs : D → D → S → Out D
  | d, .non, s => .ok (.bl (isNon d)) s
  | _, _, _ => .bad
def opIsNot : D → D → S → Out D
  | d, .non, s => .ok (.bl (!isNon d)) s
  | _, _, _ => .bad
theorem is_ok : ∀ d1 d2 s μ H v1 v2 W Q, Rel X.K μ H s → RelD X.K μ H d1 v1 → RelD X.K μ H d2 v2 → Fin X.K G μ H W (opIs d1 d2 s) (qD X.K Q) → (v2 = .non ∧ Q (.bl (decide (v1 = .non))) H) := by
  intro d1 d2 s μ H v1 v2 W Q r r1 r2 h
  cases d2 with
  | non => exact ⟨r2.non_, by rw [isNon_ok r1]; exact fin_ok r relBl h⟩
  | _ => exact h.elim
theorem isNot_ok : ∀ d1 d2 s μ H v1 v2 W Q, Rel X.K μ H s → RelD X.K μ H d1 v1 → RelD X.K μ H d2 v2 → Fin X.K G μ H W (opIsNot d1 d2 s) (qD X.K Q) → (v2 = .non ∧ Q (.bl (!decide (v1 = .non))) H) := by
  intro d1 d2 s μ H v1 v2 W Q r r1 r2 h
  cases d2 with
  | non => exact ⟨r2.non_, by rw [isNon_ok r1]; exact fin_ok r relBl h⟩
  | _ => exact h.elim

/-! ### in, not in -/
/-- == of flat values -/
def eqF : D → D → Bool
  | .non, .non => true
  | .bl a, .bl b => a == b
  | .bl a, .int b => (if a then 1 else 0) == b
  | .int a, .bl b => a == (if b then 1 else 0)
  | .int a, .int b => a == b
  | .str a, .str b => a == b
  | _, _ => false
def flatD : D → Bool
  | .non => true
  | .bl _ => true
  | .int _ => true
  | .str _ => true
  | _ => false
theorem str_eq (a b : List Nat) : ((Str.mk a.toArray) == (Str.mk b.toArray)) = (a == b) := by
  rw [Bool.eq_iff_iff]
  simp
theorem flat_ok {K : PySem.W.Frag} {μ : List Addr} {H : Hp} {d : D} {v : V} (r : RelD K μ H d v) (h : flatD d = true) : flatV v = true := by
  cases d with
  | non => rw [r.non_]; rfl
  | bl b => rw [r.bl_]; rfl
  | int b => rw [r.int_]; rfl
  | str b => rw [r.str_]; rfl
  | tup b => cases h
  | ref b => cases h
theorem eqF_ok {K : PySem.W.Frag} {μ : List Addr} {H : Hp} {d e : D} {v u : V} (r : RelD K μ H d v) (q : RelD K μ H e u) (h : flatD d = true) (h' : flatD e = true) : eqV v u = eqF d e := by
  cases d with
  | non =>
    rw [r.non_]
    cases e with
    | non => rw [q.non_]; rfl
    | bl b => rw [q.bl_]; rfl
    | int b => rw [q.int_]; rfl
    | str b => rw [q.str_]; rfl
    | tup b => cases h'
    | ref b => cases h'
  | bl a =>
    rw [r.bl_]
    cases e with
    | non => rw [q.non_]; rfl
    | bl b => rw [q.bl_]; rfl
    | int b => rw [q.int_]; rfl
    | str b => rw [q.str_]; rfl
    | tup b => cases h'
    | ref b => cases h'
  | int a =>
    rw [r.int_]
    cases e with
    | non => rw [q.non_]; rfl
    | bl b => rw [q.bl_]; rfl
    | int b => rw [q.int_]; rfl
    | str b => rw [q.str_]; rfl
    | tup b => cases h'
    | ref b => cases h'
  | str a =>
    rw [r.str_]
    cases e with
    | non => rw [q.non_]; rfl
    | bl b => rw [q.bl_]; rfl
    | int b => rw [q.int_]; rfl
    | str b => rw [q.str_]; exact str_eq a b
    | tup b => cases h'
    | ref b => cases h'
  | tup b => cases h
  | ref b => cases h
def inF (d : D) (ds : List D) : Bool := ds.any fun e => eqF e d
theorem inF_ok {K : PySem.W.Frag} {μ : List Addr} {H : Hp} {d : D} {v : V} (r : RelD K μ H d v) (h : flatD d = true) : ∀ {ds : List D} {vs : List V}, RelDs K μ H ds vs → ds.all flatD = true → inV v vs = inF d ds ∧ vs.all flatV = true
  | [], vs, q, _ => by rw [q.nil_]; exact ⟨rfl, rfl⟩
  | e :: ds, vs, q, f => by
    obtain ⟨u, us, rfl, q1, t⟩ := q.cons_
    rw [List.all_cons, Bool.and_eq_true] at f
    obtain ⟨a, b⟩ := inF_ok r h t f.2
    refine ⟨?_, ?_⟩
    · unfold inV inF at *
      rw [List.any_cons, List.any_cons, a, eqF_ok q1 r f.1 h]
    · rw [List.all_cons, flat_ok q1 f.1, b]; rfl
def strIn (a b : List Nat) : Bool := !(Builtin.Str.occurrences ⟨b.toArray⟩ ⟨a.toArray⟩ 0 (Str.mk b.toArray).length 1).isEmpty
/-- the items of a list or a tuple -/
def itemsOf (s : S) : D → Option (List D)
  | .tup ds => some ds
  | .ref i => getL s i
  | _ => none
def inD (s : S) (a b : D) : Option Bool := match b with
  | .str y => match a with
    | .str x => some (strIn x y)
    | _ => none
  | _ => match itemsOf s b with
    | some ds => if flatD a = true ∧ ds.all flatD = true then some (inF a ds) else match b, pd s 60 a, pd s 60 b with
      | .ref _, some x, some (.list ys) => some (ys.any fun z => PyData.eqv z x)
      | _, _, _ => none
    | none => none
def opIn (a b : D) (s : S) : Out D := match inD s a b with
  | some k => .ok (.bl k) s
  | none => .bad
def opNotIn (a b : D) (s : S) : Out D := match inD s a b with
  | some k => .ok (.bl (!k)) s
  | none => .bad
abbrev rInA (X : Cx) : R2 := fun x y H Q => (∃ i j, x = .str i ∧ y = .str j ∧ Q (.bl (!(Builtin.Str.occurrences j i 0 j.length 1).isEmpty)) H) ∨ (rIn X.K false x y H Q ∨ rInD X.K x y H Q)
abbrev rNotInA (X : Cx) : R2 := fun x y H Q => (∃ i j, x = .str i ∧ y = .str j ∧ Q (.bl (!(!(Builtin.Str.occurrences j i 0 j.length 1).isEmpty))) H) ∨ (rIn X.K true x y H Q ∨ rNotInD X.K x y H Q)
theorem op_inA (hu : X.A.units + 65 < cLine) : OpR X (compareOp .In) (rInA X) := op_in_str.or (op_in_seq.or (op_inD hu))
theorem op_notInA (hu : X.A.units + 65 < cLine) : OpR X (compareOp .NotIn) (rNotInA X) := op_notIn_str.or (op_notIn_seq.or (op_notInD hu))
/-- what an answer of in rests on -/
theorem inD_ok {K : PySem.W.Frag} {μ : List Addr} {H : Hp} {s : S} {a b : D} {v1 v2 : V} {k : Bool} (r : Rel K μ H s) (r1 : RelD K μ H a v1) (r2 : RelD K μ H b v2) (e : inD s a b = some k) :
    (∃ i j, v1 = .str i ∧ v2 = .str j ∧ k = !(Builtin.Str.occurrences j i 0 j.length 1).isEmpty) ∨
    (∃ p xs, v2 = .ref p ∧ (SqL K H p xs ∨ SqT K H p xs) ∧ flatV v1 = true ∧ xs.all flatV = true ∧ k = inV v1 xs) ∨
    (∃ d ds, Dp K H v1 d ∧ Dp K H v2 (.list ds) ∧ SeqAt.shaped d = true ∧ SeqAt.shaped (.list ds) = true ∧ k = ds.any fun z => PyData.eqv z d) := by
  unfold inD at e
  split at e
  · rename_i y
    split at e
    · rename_i x
      exact .inl ⟨_, _, r1.str_, r2.str_, (Option.some.inj e).symm⟩
    · cases e
  · split at e
    · rename_i ds hi
      split at e
      · rename_i hf
        refine .inr (.inl ?_)
        cases b with
        | tup es =>
          cases hi
          obtain ⟨p, xs, rfl, q, t⟩ := r2.tup_
          obtain ⟨h1, h2⟩ := inF_ok r1 hf.1 t hf.2
          exact ⟨p, xs, rfl, .inr q, flat_ok r1 hf.1, h2, by rw [h1]; exact (Option.some.inj e).symm⟩
        | ref i =>
          obtain ⟨p, xs, rfl, _, q, t⟩ := getL_ok r r2 hi
          obtain ⟨h1, h2⟩ := inF_ok r1 hf.1 t hf.2
          exact ⟨p, xs, rfl, .inl q, flat_ok r1 hf.1, h2, by rw [h1]; exact (Option.some.inj e).symm⟩
        | _ => cases hi
      · split at e
        · rename_i i x ys e1 _ e2
          refine .inr (.inr ?_)
          obtain ⟨a1, a2, a3⟩ := pd_ok r 60 a v1 _ r1 e1
          obtain ⟨b1, b2, b3⟩ := pd_ok r 60 _ v2 _ r2 e2
          exact ⟨_, _, a1, b1, shaped_of a2 a3, shaped_of b2 b3, (Option.some.inj e).symm⟩
        · cases e
    · cases e
theorem in_ok : ∀ d1 d2 s μ H v1 v2 W Q, Rel X.K μ H s → RelD X.K μ H d1 v1 → RelD X.K μ H d2 v2 → Fin X.K G μ H W (opIn d1 d2 s) (qD X.K Q) → rInA X v1 v2 H Q := by
  intro d1 d2 s μ H v1 v2 W Q r r1 r2 h
  unfold opIn at h
  split at h
  · rename_i k e
    have q := fin_ok r relBl h
    rcases inD_ok r r1 r2 e with ⟨i, j, a, b, rfl⟩ | ⟨p, xs, a, b, c, d, rfl⟩ | ⟨x, ys, a, b, c, d, rfl⟩
    · exact .inl ⟨i, j, a, b, q⟩
    · exact .inr (.inl ⟨p, xs, a, b, c, d, q⟩)
    · exact .inr (.inr ⟨x, ys, a, b, c, d, q⟩)
  · exact h.elim
theorem notIn_ok : ∀ d1 d2 s μ H v1 v2 W Q, Rel X.K μ H s → RelD X.K μ H d1 v1 → RelD X.K μ H d2 v2 → Fin X.K G μ H W (opNotIn d1 d2 s) (qD X.K Q) → rNotInA X v1 v2 H Q := by
  intro d1 d2 s μ H v1 v2 W Q r r1 r2 h
  unfold opNotIn at h
  split at h
  · rename_i k e
    have q := fin_ok r relBl h
    rcases inD_ok r r1 r2 e with ⟨i, j, a, b, rfl⟩ | ⟨p, xs, a, b, c, d, rfl⟩ | ⟨x, ys, a, b, c, d, rfl⟩
    · exact .inl ⟨i, j, a, b, q⟩
    · exact .inr (.inl ⟨p, xs, a, b, c, d, q⟩)
    · exact .inr (.inr ⟨x, ys, a, b, c, d, q⟩)
  · exact h.elim
end
end Fe

set_option maxHeartbeats 2000000
/-! Fe 4: chains, places, slices, calls of builtins and of their methods. -/
namespace Fe
open PySem PySem.Spec PyProof.Rows L2

section
variable {X : Cx} {G : Gc} {W : WX} {a b c e : Expr} {f g h : Env → S → Out D} {pos : Pos}
/-- an operation by values -/
def Hk (X : Cx) (G : Gc) (r : R2) (k : D → D → S → Out D) : Prop := ∀ d1 d2 s μ H v1 v2 W Q, Rel X.K μ H s → RelD X.K μ H d1 v1 → RelD X.K μ H d2 v2 → Fin X.K G μ H W (k d1 d2 s) (qD X.K Q) → r v1 v2 H Q
theorem de_chain {op op' : CmpOp} {r r' : R2} {k k' : D → D → S → Out D} (ho : OpR X (compareOp op) r) (ho' : OpR X (compareOp op') r') (ha : DE X G W a f) (hb : DE X G W b g) (hc : DE X G W c h) (hm : lastMarks [op, op'] [b, c] = false)
    (hk : Hk X G r k) (hk' : Hk X G r' k') : DE X G W (.Compare a [op, op'] [b, c] pos) (fun ρ s => (f ρ s).bind fun x s => (g ρ s).bind fun y s => (asB (k x y s)).bind fun q s => if q = true then (h ρ s).bind fun z s => k' y z s else .ok (.bl false) s) :=
  pe_imp (pe_chain ho ho' ha hb hc hm) fun σ H Q ⟨μ, ρ, s, rr, re, hh⟩ => d1 rr re hh fun x s1 μ1 H1 v1 x1 r1 re1 rv1 h1 => d1 r1 re1 h1 fun y s2 μ2 H2 v2 x2 r2 re2 rv2 h2 => by
    refine hk x y s2 μ2 H2 v1 v2 (fun c d H' => W c d σ H') _ r2 (rv1.mono x2) rv2 ?_
    unfold asB at h2
    refine h2.bind.bind.imp fun d s3 μ3 H3 x3 r3 h3 v rv => ?_
    cases d with
    | bl q =>
      refine ⟨q, rv.bl_, ?_⟩
      have h4 := h3.ok_ r3
      cases q with
      | true => exact d1 r3 (re2.mono x3) h4 fun z s5 μ5 H5 v5 x5 r5 re5 rv5 h5 => hk' y z s5 μ5 H5 v2 v5 _ Q r5 ((rv2.mono x3).mono x5) rv5 h5
      | false => exact fin_ok r3 relBl h4
    | _ => exact h3.elim
theorem dt_chain {op op' : CmpOp} {r r' : R2} {k k' : D → D → S → Out D} (ho : OpR X (compareOp op) r) (ho' : OpR X (compareOp op') r') (ha : DE X G W a f) (hb : DE X G W b g) (hc : DE X G W c h) (hm : lastMarks [op, op'] [b, c] = false)
    (hk : Hk X G r k) (hk' : Hk X G r' k') : DT X G W (.Compare a [op, op'] [b, c] pos) (fun ρ s => (f ρ s).bind fun x s => (g ρ s).bind fun y s => (asB (k x y s)).bind fun q s => if q = true then (h ρ s).bind fun z s => asB (k' y z s) else .ok false s) :=
  pt_imp (pt_chain ho ho' ha hb hc hm) fun σ H Q ⟨μ, ρ, s, rr, re, hh⟩ => d1B rr re hh fun x s1 μ1 H1 v1 x1 r1 re1 rv1 h1 => d1B r1 re1 h1 fun y s2 μ2 H2 v2 x2 r2 re2 rv2 h2 => by
    refine hk x y s2 μ2 H2 v1 v2 (fun c d H' => W c d σ H') _ r2 (rv1.mono x2) rv2 ?_
    unfold asB at h2
    refine h2.bind.bind.imp fun d s3 μ3 H3 x3 r3 h3 v rv => ?_
    cases d with
    | bl q =>
      refine ⟨q, rv.bl_, ?_⟩
      have h4 := h3.ok_ r3
      cases q with
      | true => exact d1B r3 (re2.mono x3) h4 fun z s5 μ5 H5 v5 x5 r5 re5 rv5 h5 => hk' y z s5 μ5 H5 v2 v5 _ _ r5 ((rv2.mono x3).mono x5) rv5 (fin_asB h5)
      | false => exact ⟨false, rfl, Fin.ok_ r3 h4⟩
    | _ => exact h3.elim

/-! ### places -/
def notSlice : Expr → Bool
  | .Slice _ _ _ _ => false
  | _ => true
theorem plain_ix : ∀ {b : Expr}, notSlice b = true → PlainIx b
  | .Slice .., h => by cases h
  | .BoolOp .., _ => fun _ _ => rfl
  | .NamedExpr .., _ => fun _ _ => rfl
  | .BinOp .., _ => fun _ _ => rfl
  | .UnaryOp .., _ => fun _ _ => rfl
  | .Lambda .., _ => fun _ _ => rfl
  | .IfExp .., _ => fun _ _ => rfl
  | .Dict .., _ => fun _ _ => rfl
  | .Set .., _ => fun _ _ => rfl
  | .ListComp .., _ => fun _ _ => rfl
  | .SetComp .., _ => fun _ _ => rfl
  | .DictComp .., _ => fun _ _ => rfl
  | .GeneratorExp .., _ => fun _ _ => rfl
  | .Await .., _ => fun _ _ => rfl
  | .Yield .., _ => fun _ _ => rfl
  | .YieldFrom .., _ => fun _ _ => rfl
  | .Compare .., _ => fun _ _ => rfl
  | .Call .., _ => fun _ _ => rfl
  | .FormattedValue .., _ => fun _ _ => rfl
  | .JoinedStr .., _ => fun _ _ => rfl
  | .Constant .., _ => fun _ _ => rfl
  | .Attribute .., _ => fun _ _ => rfl
  | .Subscript .., _ => fun _ _ => rfl
  | .Starred .., _ => fun _ _ => rfl
  | .Name .., _ => fun _ _ => rfl
  | .List .., _ => fun _ _ => rfl
  | .Tuple .., _ => fun _ _ => rfl
def opIx : D → D → S → Out D
  | .tup ds, .int i, s => match atI ds i with
    | some d => .ok d s
    | none => .bad
  | .str cs, .int i, s => match atI cs i with
    | some c => if cs.length ≤ line then .ok (.str [c]) s else .bad
    | none => .bad
  | .ref r, .int i, s => match getL s r with
    | some ds => match atI ds i with
      | some d => .ok d s
      | none => .bad
    | none => .bad
  | _, _, _ => .bad
theorem atI_rel {K : PySem.W.Frag} {μ : List Addr} {H : Hp} {ds : List D} {vs : List V} {i : Int} {d : D} (r : RelDs K μ H ds vs) (e : atI ds i = some d) : ∃ v, atI vs i = some v ∧ RelD K μ H d v := by
  unfold atI at e ⊢
  rw [r.length]
  cases h : ixN ds.length i with
  | none => rw [h] at e; cases e
  | some j =>
    rw [h] at e
    obtain ⟨v, h1, h2⟩ := r.get e
    exact ⟨v, h1, h2⟩
theorem ix_ok : Hk X G (rIx X.K) opIx := by
  intro d1 d2 s μ H v1 v2 W Q r r1 r2 h
  cases d1 with
  | tup ds =>
    cases d2 with
    | int i =>
      dsimp only [opIx] at h
      split at h
      · rename_i d e
        obtain ⟨p, vs, rfl, q, t⟩ := r1.tup_
        obtain ⟨v, e', rv⟩ := atI_rel t e
        exact .inr (.inl ⟨p, vs, i, v, rfl, r2.int_, q, e', fin_ok r rv h⟩)
      · exact h.elim
    | _ => exact h.elim
  | str cs =>
    cases d2 with
    | int i =>
      dsimp only [opIx] at h
      split at h
      · rename_i ch e
        split at h
        · rename_i hl
          have hc : ch ∈ cs := by
            obtain ⟨j, _, e2, _⟩ := atI_get e
            exact List.mem_of_getElem? e2
          refine .inr (.inr ⟨_, i, ch, r1.str_, r2.int_, by rw [← line_eq]; simpa [Str.length] using hl, by simpa using e, ?_⟩)
          exact fin_ok r (relStr (okS_sub (fun x hx => by rw [List.mem_singleton.mp hx]; exact hc) r1.okS)) h
        · exact h.elim
      · exact h.elim
    | _ => exact h.elim
  | ref i =>
    cases d2 with
    | int j =>
      dsimp only [opIx] at h
      split at h
      · rename_i ds e0
        split at h
        · rename_i d e
          obtain ⟨p, vs, rfl, _, q, t⟩ := getL_ok r r1 e0
          obtain ⟨v, e', rv⟩ := atI_rel t e
          exact .inl ⟨p, vs, j, v, rfl, r2.int_, q, e', fin_ok r rv h⟩
        · exact h.elim
      · exact h.elim
    | _ => exact h.elim
  | _ => exact h.elim
theorem de_ix (ha : DE X G W a f) (hb : DE X G W b g) (hs : notSlice b = true) : DE X G W (.Subscript a b pos) (fun ρ s => (f ρ s).bind fun x s => (g ρ s).bind fun y s => opIx x y s) :=
  pe_imp (pe_ix ix_seq ha hb (plain_ix hs)) fun σ H Q ⟨μ, ρ, s, rr, re, h⟩ => d1 rr re h fun x s1 μ1 H1 v1 x1 r1 re1 rv1 h1 => d1 r1 re1 h1 fun y s2 μ2 H2 v2 x2 r2 re2 rv2 h2 =>
    ix_ok x y s2 μ2 H2 v1 v2 _ Q r2 (rv1.mono x2) rv2 h2

/-! ### slices -/
def asI (o : Out D) : Out (Option Int) := o.bind fun d s => match d with
  | .int i => .ok (some i) s
  | _ => .bad
theorem do_none : DO X G W none (fun _ s => .ok none s) := po_imp po_none fun σ H Q ⟨μ, ρ, s, r, re, h⟩ => h.ok_ r
theorem do_some (he : DE X G W e f) : DO X G W (some e) (fun ρ s => asI (f ρ s)) := po_imp (po_some he) fun σ H Q ⟨μ, ρ, s, r, re, h⟩ => by
  unfold asI at h
  refine ⟨μ, ρ, s, r, re, h.bind.imp fun d s1 μ1 H1 x1 r1 h1 v rv => ?_⟩
  cases d with
  | int i => exact ⟨i, rv.int_, Fin.ok_ r1 h1⟩
  | _ => exact h1.elim
/-- a part of a list -/
def cut {α : Type} (xs : List α) (lo hi : Option Int) : List α := (xs.drop (HT.sIx xs.length 0 lo)).take (HT.sIx xs.length xs.length hi - HT.sIx xs.length 0 lo)
def opSl (d : D) (lo hi : Option Int) (s : S) : Out D := match d with
  | .tup ds => .ok (.tup (cut ds lo hi)) s
  | .str cs => if cs.length ≤ line then .ok (.str (cut cs lo hi)) s else .bad
  | .ref i => match getL s i with
    | some ds => .ok (.ref s.length) (s ++ [.lst (cut ds lo hi)])
    | none => .bad
  | _ => .bad
theorem cut_rel {K : PySem.W.Frag} {μ : List Addr} {H : Hp} {ds : List D} {vs : List V} {lo hi : Option Int} (r : RelDs K μ H ds vs) : RelDs K μ H (cut ds lo hi) (cutV vs lo hi) := by
  unfold cut cutV
  rw [r.length]
  exact (r.drop _).take _
theorem cut_str (cs : List Nat) (lo hi : Option Int) : cutS ⟨cs.toArray⟩ lo hi = ⟨(cut cs lo hi).toArray⟩ := by
  unfold cutS cut
  simp [Str.length]
theorem cut_mem {α : Type} {xs : List α} {lo hi : Option Int} {x : α} (h : x ∈ cut xs lo hi) : x ∈ xs := List.mem_of_mem_drop (List.mem_of_mem_take h)
abbrev rSlAll (X : Cx) : V → Option Int → Option Int → Hp → VK → Prop := fun x lo hi H Q => rSlL X.K x lo hi H Q ∨ (rSlA X.K x lo hi H Q ∨ rSlS x lo hi H Q)
theorem sl_all : SlR X (rSlAll X) := sl_list.or (sl_tupA.or sl_str)
theorem cut_whole {α : Type} {xs : List α} {lo hi : Option Int} (h : HT.sIx xs.length 0 lo = 0 ∧ HT.sIx xs.length xs.length hi = xs.length) : cut xs lo hi = xs := by
  unfold cut
  rw [h.1, h.2]; simp
theorem sl_ok : ∀ d lo hi s μ H v W Q, Rel X.K μ H s → RelD X.K μ H d v → Fin X.K G μ H W (opSl d lo hi s) (qD X.K Q) → rSlAll X v lo hi H Q := by
  intro d lo hi s μ H v W Q r rv h
  cases d with
  | tup ds =>
    obtain ⟨p, vs, rfl, q, t⟩ := rv.tup_
    refine .inr (.inl ⟨p, vs, rfl, q, fun hw => ?_, fun hw n hn => tup_fin r (cut_rel t) h hn⟩)
    rw [t.length] at hw
    have h' : Fin X.K G μ H W (.ok (.tup (cut ds lo hi)) s) (qD X.K Q) := h
    rw [cut_whole hw] at h'
    exact fin_ok r rv h'
  | str cs =>
    dsimp only [opSl] at h
    split at h
    · rename_i hl
      refine .inr (.inr ⟨_, rv.str_, by rw [← line_eq]; simpa [Str.length] using hl, ?_⟩)
      rw [cut_str]
      exact fin_ok r (relStr (okS_sub (fun x hx => cut_mem hx) rv.okS)) h
    · exact h.elim
  | ref i =>
    dsimp only [opSl] at h
    split at h
    · rename_i ds e
      obtain ⟨p, vs, rfl, _, q, t⟩ := getL_ok r rv e
      exact .inl ⟨p, vs, rfl, q, fun n hn => lst_fin r (cut_rel t) h hn⟩
    · exact h.elim
  | _ => exact h.elim
theorem de_sl {lo hi : Option Expr} {l u : Env → S → Out (Option Int)} {p2 : Pos} (ha : DE X G W a f) (hl : DO X G W lo l) (hu : DO X G W hi u) :
    DE X G W (.Subscript a (.Slice lo hi none p2) pos) (fun ρ s => (f ρ s).bind fun x s => (l ρ s).bind fun i s => (u ρ s).bind fun j s => opSl x i j s) :=
  pe_imp (pe_slice sl_all ha hl hu) fun σ H Q ⟨μ, ρ, s, rr, re, h⟩ => d1 rr re h fun x s1 μ1 H1 v1 x1 r1 re1 rv1 h1 =>
    ⟨μ1, ρ, s1, r1, re1, h1.bind.imp fun i s2 μ2 H2 x2 r2 h2 => ⟨μ2, ρ, s2, r2, re1.mono x2, h2.bind.imp fun j s3 μ3 H3 x3 r3 h3 => sl_ok x i j s3 μ3 H3 v1 _ Q r3 ((rv1.mono x2).mono x3) h3⟩⟩
/-- a[::-1] of a list -/
def opRev : D → S → Out D
  | .ref i, s => match getL s i with
    | some ds => .ok (.ref s.length) (s ++ [.lst ds.reverse])
    | none => .bad
  | _, _ => .bad

/-! ### builtins called -/
def HkC (X : Cx) (G : Gc) (r : List V → Hp → VK → Prop) (k : List D → S → Out D) : Prop := ∀ ds s μ H vs W Q, Rel X.K μ H s → RelDs X.K μ H ds vs → Fin X.K G μ H W (k ds s) (qD X.K Q) → r vs H Q
section
variable {es : List Expr} {fs : Env → S → Out (List D)} {x : Str} {p : Pos} {id T : String} {r : List V → Hp → VK → Prop} {k : List D → S → Out D}
theorem de_bi (hc : CallR X (.builtin id) r) (hk : HkC X G r k) (hg : Gl X x) (hm : X.mg x = none) (hv : bootBuiltins x = some (.builtin id)) (ha : DA X G W (e :: es) fs) (hn : x ≠ "__name__") (hdb : (x == ("__debug__" : Str)) = false)
    (hs : notStar e = true) (hss : es.all notStar = true) : DE X G W (.Call (.Name x p) (e :: es) [] pos) (fun ρ s => (fs ρ s).bind k) :=
  pe_imp (pe_callB hc hg hm hv ha hn hdb (star_ns hs) (star_any hss)) fun σ H Q ⟨μ, ρ, s, rr, re, h⟩ => dA1 rr re h fun ds s1 μ1 H1 vs x1 r1 re1 rv1 h1 => hk ds s1 μ1 H1 vs _ Q r1 rv1 h1
theorem de_ty (hc : CallR X (.type T) r) (hk : HkC X G r k) (hg : Gl X x) (hm : X.mg x = none) (hv : bootBuiltins x = some (.type T)) (ha : DA X G W (e :: es) fs) (hn : x ≠ "__name__") (hdb : (x == ("__debug__" : Str)) = false)
    (hs : notStar e = true) (hss : es.all notStar = true) : DE X G W (.Call (.Name x p) (e :: es) [] pos) (fun ρ s => (fs ρ s).bind k) :=
  pe_imp (pe_callTy hc hg hm hv ha hn hdb (star_ns hs) (star_any hss)) fun σ H Q ⟨μ, ρ, s, rr, re, h⟩ => dA1 rr re h fun ds s1 μ1 H1 vs x1 r1 re1 rv1 h1 => hk ds s1 μ1 H1 vs _ Q r1 rv1 h1
end
end
end Fe

set_option maxHeartbeats 2000000
/-! Fe 5: own defs: what they promise, how they are called. -/
namespace Fe
open PySem PySem.Spec PyProof.Rows L2

/-- a def at f does what F does, on every stack with room for k calls and no text being written -/
def spF (K : PySem.W.Frag) (G : Gc) (n : Nat) (F : List D → S → Out D) : Sp := fun vs H Q E => vs.length = n ∧ ∃ μ s ds, Rel K μ H s ∧ RelDs K μ H ds vs ∧ Fin K G μ H E (F ds s) (qD K Q)
structure FnG (P : Program) (w : World) (K : PySem.W.Frag) (mg : Str → Option Value) (base : Heap) (G : Gc) (k : Nat) (f : Addr) (fd : FuncData) (ps : List Str) (F : List D → S → Out D) : Prop where
  run : ∀ (A : Around) (outer : List PySem.Env) (s : Shared) (H : Hp) (args : Args) (us : List Value) (vs : List V) (Q : VK) (E : XK), Room k A → A.guards = some [] → Env0 P w K mg base A outer s H → BindsTo s fd args (ps.zip us) → Vals vs us →
    spF K G ps.length F vs H Q E → codeAny (model P w) A (.call (.ref f) args) (CR (L2.CX P w) outer P w H s Q E) s
theorem FnG.mono {P : Program} {w : World} {K : PySem.W.Frag} {mg : Str → Option Value} {base : Heap} {G : Gc} {j k : Nat} {f : Addr} {fd : FuncData} {ps : List Str} {F : List D → S → Out D} (h : FnG P w K mg base G j f fd ps F) (hk : j ≤ k) : FnG P w K mg base G k f fd ps F :=
  ⟨fun A outer s H args us vs Q E hr => h.run A outer s H args us vs Q E (hr.mono hk)⟩
/-- a weaker promise -/
def Le {α : Type} (F F' : List D → S → Out α) : Prop := ∀ ds s, F ds s ≠ .bad → F' ds s = F ds s
theorem spF_le {K : PySem.W.Frag} {G : Gc} {n : Nat} {F F' : List D → S → Out D} (h : Le F F') {vs : List V} {H : Hp} {Q : VK} {E : XK} (q : spF K G n F vs H Q E) : spF K G n F' vs H Q E := by
  obtain ⟨l, μ, s, ds, r, rv, x⟩ := q
  refine ⟨l, μ, s, ds, r, rv, ?_⟩
  rw [h ds s (fun e => by rw [e] at x; exact x)]
  exact x
theorem FnG.le {P : Program} {w : World} {K : PySem.W.Frag} {mg : Str → Option Value} {base : Heap} {G : Gc} {k : Nat} {f : Addr} {fd : FuncData} {ps : List Str} {F F' : List D → S → Out D} (h : FnG P w K mg base G k f fd ps F') (l : Le F F') : FnG P w K mg base G k f fd ps F :=
  ⟨fun A outer s H args us vs Q E hr hg e0 hb r q => h.run A outer s H args us vs Q E hr hg e0 hb r (spF_le l q)⟩

section
variable {X : Cx} {G : Gc} {W : WX} {k : Nat} {f : Addr} {fd : FuncData} {ps : List Str} {x : Str} {p pos : Pos} {e : Expr} {es : List Expr} {F : List D → S → Out D} {fs : Env → S → Out (List D)}
theorem run_fnG {pins : List (Addr × Obj)} {σ : L2.St} {H : Hp} {s : Shared} {Q : VK} {us : List Value} {vs : List V} (hF : FnG X.prog X.w X.K X.mg X.base G k f fd ps F) (hr : Room k X.A) (hg : X.A.guards = some []) (hb : Binds X.K fd ps []) (tk : Takes X W)
    (I : Inv X pins σ H s) (r : Vals vs us) (h : spF X.K G ps.length F vs H Q (fun c d H' => W c d σ H')) : wpAny (model X.prog X.w) X.A (call (.ref f) us) (EP X pins σ Q) X.xe s := by
  have hl : us.length = ps.length := by rw [← r.length]; exact h.1
  have b := hb s us I.kIn (by rw [List.append_nil]; exact hl)
  rw [List.append_nil] at b
  refine wpAny_call (codeAny_mono (hF.run X.A X.stack s H ⟨us, []⟩ us vs Q _ hr hg I.env0 b r h) fun r s' hq => ?_)
  cases r with
  | error e => exact passAt tk σ pins H s e s' I hq
  | ok fl =>
    cases fl with
    | ret u => exact I.after hq
    | next => exact False.elim hq
    | brk => exact False.elim hq
    | cont => exact False.elim hq
theorem spF_of {K : PySem.W.Frag} {μ : List Addr} {H : Hp} {s : S} {ds : List D} {vs : List V} {E : XK} {Q : VK} {n : Nat} (r : Rel K μ H s) (rv : RelDs K μ H ds vs) (hn : ∀ ds s, F ds s ≠ .bad → ds.length = n) (h : Fin K G μ H E (F ds s) (qD K Q)) : spF K G n F vs H Q E :=
  ⟨by rw [rv.length]; exact hn ds s (fun q => by rw [q] at h; exact h), μ, s, ds, r, rv, h⟩
/-- f(e, ..) -/
theorem de_call (hF : FnG X.prog X.w X.K X.mg X.base G k f fd ps F) (hn : ∀ ds s, F ds s ≠ .bad → ds.length = ps.length) (hr : Room k X.A) (hgd : X.A.guards = some []) (hg : Gl X x) (hm : X.mg x = some (.ref f)) (hk : PySem.W.keepIn X.K (.ref f) = true) (hb : Binds X.K fd ps []) (tk : Takes X W)
    (ha : DA X G W (e :: es) fs) (hdb : (x == ("__debug__" : Str)) = false) (hs : notStar e = true) (hss : es.all notStar = true) : DE X G W (.Call (.Name x p) (e :: es) [] pos) (fun ρ s => (fs ρ s).bind F) := by
  refine ⟨fun pins s0 σ H Q I hh => ?_⟩
  obtain ⟨μ, ρ, s, r, re, h⟩ := hh
  refine wpAny_Call_Name_kw (ld_glob I hg hm ?_ hdb)
  have ta : tA X.K G W fs σ H (fun vs H1 => spF X.K G ps.length F vs H1 Q (fun c d H' => W c d σ H')) := dA1 r re h fun ds s1 μ1 H1 vs x1 r1 re1 rv1 h1 => spF_of r1 rv1 hn h1
  refine PySem.W.callWith_K (h₀ := X.base) I.ok.mod.kin hk (thn (ha.run pos pins s0 σ H _ I ta) fun us s1 ⟨vs, H1, I1, r1, q⟩ => ⟨I1.kIn, ?_⟩) (star_ns hs) (star_any hss)
  exact run_fnG hF hr hgd hb tk I1 r1 q
/-- f() -/
theorem de_call0 (hF : FnG X.prog X.w X.K X.mg X.base G k f fd ps F) (hn : ∀ ds s, F ds s ≠ .bad → ds.length = ps.length) (hr : Room k X.A) (hgd : X.A.guards = some []) (hg : Gl X x) (hm : X.mg x = some (.ref f)) (hk : PySem.W.keepIn X.K (.ref f) = true) (hb : Binds X.K fd ps []) (tk : Takes X W)
    (hdb : (x == ("__debug__" : Str)) = false) : DE X G W (.Call (.Name x p) [] [] pos) (fun _ s => F [] s) := by
  refine ⟨fun pins s0 σ H Q I hh => ?_⟩
  obtain ⟨μ, ρ, s, r, re, h⟩ := hh
  refine wpAny_Call_Name_kw (ld_glob I hg hm ?_ hdb)
  exact PySem.W.callWith_K0 I.kIn hk (run_fnG (us := []) hF hr hgd hb tk I .nil (spF_of r relNil hn h))
end

/-! ### what a def hands back: its own litter is forgotten -/
/-- the store behind a call: where the answer and what changed hold no place, all that is new is let go -/
def sameOr (s s' : S) : Bool := (List.range s.length).all fun i => decide (s'[i]? = s[i]?) || (match s'[i]? with | some o => o.flat | none => false)
def trim (s : S) (d : D) (s' : S) : D × S :=
  if d.flat && (decide (s.length ≤ s'.length) && sameOr s s') then (d, s'.take s.length)
  else match d with
    | .ref j => if decide (s.length ≤ j) && (decide (s.length ≤ s'.length) && sameOr s s') then (match s'[j]? with
        | some o => if o.flat then (.ref s.length, s'.take s.length ++ [o]) else (d, s')
        | none => (d, s'))
      else (d, s')
    | _ => (d, s')
def trimO (s : S) : Out D → Out D
  | .ok d s' => .ok (trim s d s').1 (trim s d s').2
  | .exc x s' => if D.flats x.ds && (decide (s.length ≤ s'.length) && sameOr s s') then .exc x (s'.take s.length) else .exc x s'
  | .bad => .bad
section
variable {K : PySem.W.Frag} {G : Gc} {μ μ' : List Addr} {H H' : Hp} {s s' : S}
/-! a value without places leans on tuples alone -/
mutual
theorem RelD.flat_ : ∀ {d : D} {v : V}, RelD K μ H d v → d.flat = true → RelD K μ' H d v
  | .non, _, h, _ => by rw [RelD] at h ⊢; exact h
  | .bl _, _, h, _ => by rw [RelD] at h ⊢; exact h
  | .int _, _, h, _ => by rw [RelD] at h ⊢; exact h
  | .str _, _, h, _ => by rw [RelD] at h ⊢; exact h
  | .tup ds, v, h, f => by
    rw [RelD] at h ⊢
    obtain ⟨a, vs, e, q, r⟩ := h
    exact ⟨a, vs, e, q, RelDs.flat_ r (by simpa [D.flat] using f)⟩
  | .ref i, v, h, f => by simp [D.flat] at f
theorem RelDs.flat_ : ∀ {ds : List D} {vs : List V}, RelDs K μ H ds vs → D.flats ds = true → RelDs K μ' H ds vs
  | [], _, h, _ => by rw [RelDs] at h ⊢; exact h
  | d :: ds, vs, h, f => by
    rw [RelDs] at h ⊢
    have f' : d.flat = true ∧ D.flats ds = true := by simpa [D.flats] using f
    obtain ⟨v, ws, e, r, t⟩ := h
    exact ⟨v, ws, e, RelD.flat_ r f'.1, RelDs.flat_ t f'.2⟩
end
theorem RelKV.flat_ : ∀ {ps : List (D × D)} {kvs : List (Key × V)}, RelKV K μ H ps kvs → D.flats (ps.map (·.2)) = true → RelKV K μ' H ps kvs
  | [], _, h, _ => h
  | p :: ps, kvs, h, f => by
    obtain ⟨k, v, r, e, q, t, u⟩ := h
    have f' : p.2.flat = true ∧ D.flats (ps.map (·.2)) = true := by simpa [D.flats] using f
    exact ⟨k, v, r, e, q, t.flat_ f'.1, RelKV.flat_ u f'.2⟩
theorem RelO'.flat_ {o : O} {a : Addr} (h : RelO' K μ H o a) (f : o.flat = true) : RelO' K μ' H o a := by
  cases o with
  | lst ds => obtain ⟨vs, q, r⟩ := h; exact ⟨vs, q, r.flat_ f⟩
  | rl ds => obtain ⟨vs, ob, q, r⟩ := h; exact ⟨vs, ob, q, r.flat_ f⟩
  | dct kvs =>
    obtain ⟨ws, q, r⟩ := h
    have f' : D.flats (kvs.map (·.1)) = true ∧ D.flats (kvs.map (·.2)) = true := by simpa [O.flat] using f
    exact ⟨ws, q, r.flat_ f'.2⟩
/-! a value that was there is told by the old places -/
mutual
theorem RelD.back (p : μ <+: μ') : ∀ {d : D} {v0 v : V}, RelD K μ H d v0 → RelD K μ' H' d v → RelD K μ H' d v
  | .non, _, _, _, h => by rw [RelD] at h ⊢; exact h
  | .bl _, _, _, _, h => by rw [RelD] at h ⊢; exact h
  | .int _, _, _, _, h => by rw [RelD] at h ⊢; exact h
  | .str _, _, _, _, h => by rw [RelD] at h ⊢; exact h
  | .tup ds, v0, v, h0, h => by
    rw [RelD] at h h0 ⊢
    obtain ⟨a, vs, e, q, r⟩ := h
    obtain ⟨a0, vs0, e0, q0, r0⟩ := h0
    exact ⟨a, vs, e, q, RelDs.back p r0 r⟩
  | .ref i, v0, v, h0, h => by
    rw [RelD] at h h0 ⊢
    obtain ⟨a, e, q⟩ := h
    obtain ⟨a0, e0, q0⟩ := h0
    have q1 := pre_get p q0
    rw [q] at q1
    cases q1
    exact ⟨a, e, q0⟩
theorem RelDs.back (p : μ <+: μ') : ∀ {ds : List D} {vs0 vs : List V}, RelDs K μ H ds vs0 → RelDs K μ' H' ds vs → RelDs K μ H' ds vs
  | [], _, _, _, h => by rw [RelDs] at h ⊢; exact h
  | d :: ds, vs0, vs, h0, h => by
    rw [RelDs] at h h0 ⊢
    obtain ⟨v, ws, e, r, t⟩ := h
    obtain ⟨v0, ws0, e0, r0, t0⟩ := h0
    exact ⟨v, ws, e, RelD.back p r0 r, RelDs.back p t0 t⟩
end
theorem RelKV.back (p : μ <+: μ') : ∀ {ps : List (D × D)} {k0 kvs : List (Key × V)}, RelKV K μ H ps k0 → RelKV K μ' H' ps kvs → RelKV K μ H' ps kvs
  | [], _, _, _, h => h
  | q :: ps, k0, kvs, h0, h => by
    obtain ⟨k, v, r, e, q1, t, u⟩ := h
    obtain ⟨_, v0, _, _, _, t0, u0⟩ := h0
    exact ⟨k, v, r, e, q1, RelD.back p t0 t, RelKV.back p u0 u⟩
theorem RelO'.back {o : O} {a : Addr} (p : μ <+: μ') (h0 : RelO' K μ H o a) (h : RelO' K μ' H' o a) : RelO' K μ H' o a := by
  cases o with
  | lst ds =>
    obtain ⟨vs, q, r⟩ := h
    obtain ⟨_, _, r0⟩ := h0
    exact ⟨vs, q, RelDs.back p r0 r⟩
  | rl ds =>
    obtain ⟨vs, ob, q, r⟩ := h
    obtain ⟨_, _, _, r0⟩ := h0
    exact ⟨vs, ob, q, RelDs.back p r0 r⟩
  | dct kvs =>
    obtain ⟨ws, q, r⟩ := h
    obtain ⟨_, _, r0⟩ := h0
    exact ⟨ws, q, RelKV.back p r0 r⟩
theorem sameOr_at {i : Nat} {o : O} (h : sameOr s s' = true) (hi : i < s.length) (e : s'[i]? = some o) : s[i]? = some o ∨ o.flat = true := by
  unfold sameOr at h
  rw [List.all_eq_true] at h
  have h1 := h i (List.mem_range.mpr hi)
  rw [Bool.or_eq_true] at h1
  rcases h1 with h1 | h1
  · left
    rw [← of_decide_eq_true h1]
    exact e
  · right
    rw [e] at h1
    exact h1
/-- the old places alone -/
theorem Rel.trim (r : Rel K μ H s) (x : Ext μ H μ' H') (r' : Rel K μ' H' s') (hl : s.length ≤ s'.length) (h : sameOr s s' = true) : Rel K μ H' (s'.take s.length) ∧ Ext μ H μ H' := by
  refine ⟨⟨by rw [List.length_take, r.len]; omega, r.nd, fun i a o h1 h2 => ?_⟩, List.prefix_rfl, x.keep⟩
  have hi : i < s.length := by rw [← r.len]; exact (List.getElem?_eq_some_iff.mp h1).1
  rw [List.getElem?_take_of_lt hi] at h2
  have q := r'.obj i a o (pre_get x.pre h1) h2
  rcases sameOr_at h hi h2 with e | e
  · exact RelO'.back x.pre (r.obj i a o h1 e) q
  · exact q.flat_ e
theorem Rel.trim1 {j : Nat} {o : O} {a : Addr} (r : Rel K μ H s) (x : Ext μ H μ' H') (r' : Rel K μ' H' s') (hl : s.length ≤ s'.length) (h : sameOr s s' = true) (hj : s.length ≤ j) (ha : μ'[j]? = some a) (e : s'[j]? = some o) (hf : o.flat = true) :
    Rel K (μ ++ [a]) H' (s'.take s.length ++ [o]) ∧ Ext μ H (μ ++ [a]) H' ∧ (μ ++ [a])[s.length]? = some a := by
  obtain ⟨t, tx⟩ := r.trim x r' hl h
  have lt : (s'.take s.length).length = s.length := by rw [List.length_take]; omega
  have e0 : (μ ++ [a])[s.length]? = some a := by rw [← r.len]; simp
  refine ⟨⟨by simp [r.len, lt], ?_, fun i b u h1 h2 => ?_⟩, ⟨List.prefix_append _ _, x.keep⟩, e0⟩
  · refine List.nodup_append.mpr ⟨r.nd, by simp, fun b hb c hc => ?_⟩
    rw [List.mem_singleton.mp hc]
    obtain ⟨i, hi, e'⟩ := List.getElem_of_mem hb
    intro z
    have h3 : μ'[i]? = some a := pre_get x.pre (by rw [← z, ← e']; exact List.getElem?_eq_getElem hi)
    have h4 : i = j := (List.getElem?_inj (List.getElem?_eq_some_iff.mp h3).1 r'.nd).mp (h3.trans ha.symm)
    rw [r.len] at hi
    omega
  · by_cases hi : i < s.length
    · rw [List.getElem?_append_left (by rw [lt]; exact hi)] at h2
      rw [List.getElem?_append_left (by rw [r.len]; exact hi)] at h1
      have q := t.obj i b u h1 h2
      exact q.mono ⟨List.prefix_append _ _, .refl _⟩ rfl
    · have hl2 := (List.getElem?_eq_some_iff.mp h2).1
      rw [List.length_append, List.length_singleton, lt] at hl2
      have hi' : i = s.length := by omega
      subst hi'
      rw [e0] at h1
      cases h1
      rw [List.getElem?_append_right (by rw [lt]; exact Nat.le_refl _), lt] at h2
      have h2' : o = u := by simpa using h2
      subst h2'
      exact (r'.obj j a o ha e).flat_ hf
theorem trim_fin {W : XK} {o : Out D} {Q : VK} (r : Rel K μ H s) (h : Fin K G μ H W (trimO s o) (qD K Q)) : Fin K G μ H W o (qD K Q) := by
  cases o with
  | bad => exact h
  | exc x s' =>
    intro cls dd μ' H' e r' rx
    unfold trimO at h
    dsimp only at h
    split at h
    · rename_i hc
      rw [Bool.and_eq_true, Bool.and_eq_true] at hc
      obtain ⟨t, tx⟩ := r.trim e r' (of_decide_eq_true hc.2.1) hc.2.2
      refine h cls dd μ H' tx t ?_
      obtain ⟨a, b⟩ := rx
      refine ⟨a, ?_⟩
      rcases b with b | ⟨d, fs, b1, b2, b3, b4⟩
      · exact .inl b
      · exact .inr ⟨d, fs, b1, b2, b3, RelDs.flat_ b4 hc.1⟩
    · exact h cls dd μ' H' e r' rx
  | ok d s' =>
    intro μ' H' e r' v rv
    unfold trimO trim at h
    dsimp only at h
    split at h
    · rename_i hc
      rw [Bool.and_eq_true, Bool.and_eq_true] at hc
      obtain ⟨t, tx⟩ := r.trim e r' (of_decide_eq_true hc.2.1) hc.2.2
      exact h μ H' tx t v (rv.flat_ hc.1)
    · split at h
      · rename_i j
        split at h
        · rename_i hc
          rw [Bool.and_eq_true, Bool.and_eq_true] at hc
          split at h
          · rename_i o ho
            split at h
            · rename_i hf
              obtain ⟨a, rfl, ha⟩ := rv.ref_
              obtain ⟨t, tx, e0⟩ := r.trim1 e r' (of_decide_eq_true hc.2.1) hc.2.2 (of_decide_eq_true hc.1) ha ho hf
              exact h _ H' tx t _ (relRef e0)
            · exact h μ' H' e r' v rv
          · exact h μ' H' e r' v rv
        · exact h μ' H' e r' v rv
      · exact h μ' H' e r' v rv
end
end Fe

set_option maxHeartbeats 2000000
/-! Fe 6: builtins and builtin types called, their methods. -/
namespace Fe
open PySem PySem.Spec PyProof.Rows L2

section
variable {X : Cx} {G : Gc}
/-! ### len, abs, min and max of two, int, tuple, list -/
def biLen : List D → S → Out D
  | [.tup ds], s => .ok (.int ds.length) s
  | [.str cs], s => if cs.length ≤ line then .ok (.int cs.length) s else .bad
  | [.ref i], s => match getL s i with
    | some ds => .ok (.int ds.length) s
    | none => .bad
  | _, _ => .bad
theorem rel1 {K : PySem.W.Frag} {μ : List Addr} {H : Hp} {d : D} {vs : List V} (h : RelDs K μ H [d] vs) : ∃ v, vs = [v] ∧ RelD K μ H d v := by
  obtain ⟨v, ws, rfl, r, t⟩ := h.cons_
  rw [t.nil_]
  exact ⟨v, rfl, r⟩
theorem rel2 {K : PySem.W.Frag} {μ : List Addr} {H : Hp} {d e : D} {vs : List V} (h : RelDs K μ H [d, e] vs) : ∃ v u, vs = [v, u] ∧ RelD K μ H d v ∧ RelD K μ H e u := by
  obtain ⟨v, ws, rfl, r, t⟩ := h.cons_
  obtain ⟨u, rfl, q⟩ := rel1 t
  exact ⟨v, u, rfl, r, q⟩
theorem len_ok : HkC X G (fun xs H Q => ∃ x n, xs = [x] ∧ LenV X.K x H n ∧ Q (.int n) H) biLen := by
  intro ds s μ H vs W Q r rv h
  unfold biLen at h
  split at h
  · rename_i ds
    obtain ⟨v, rfl, r1⟩ := rel1 rv
    obtain ⟨a, us, rfl, q, t⟩ := r1.tup_
    exact ⟨_, ds.length, rfl, .inr ⟨us, q, t.length.symm⟩, fin_ok r relInt h⟩
  · rename_i cs
    obtain ⟨v, rfl, r1⟩ := rel1 rv
    split at h
    · rename_i hl
      rw [r1.str_]
      exact ⟨_, cs.length, rfl, ⟨by rw [← line_eq]; simpa [Str.length] using hl, by simp [Str.length]⟩, fin_ok r relInt h⟩
    · exact h.elim
  · obtain ⟨v, rfl, r1⟩ := rel1 rv
    split at h
    · rename_i ds e
      obtain ⟨a, us, rfl, _, q, t⟩ := getL_ok r r1 e
      exact ⟨_, ds.length, rfl, .inl ⟨us, q, t.length.symm⟩, fin_ok r relInt h⟩
    · exact h.elim
  · exact h.elim
def biAbs : List D → S → Out D
  | [.int i], s => .ok (.int (if i < 0 then -i else i)) s
  | _, _ => .bad
theorem abs_ok : HkC X G (fun xs H Q => ∃ i, xs = [.int i] ∧ Q (.int (if i < 0 then -i else i)) H) biAbs := by
  intro ds s μ H vs W Q r rv h
  unfold biAbs at h
  split at h
  · obtain ⟨v, rfl, r1⟩ := rel1 rv
    rw [r1.int_]
    exact ⟨_, rfl, fin_ok r relInt h⟩
  · exact h.elim
def asInts : List D → Option (List Int)
  | [] => some []
  | .int i :: ds => (asInts ds).map (i :: ·)
  | _ => none
theorem asInts_ok {K : PySem.W.Frag} {μ : List Addr} {H : Hp} : ∀ {ds : List D} {vs : List V} {ns : List Int}, RelDs K μ H ds vs → asInts ds = some ns → vs = ns.map V.int
  | [], vs, ns, r, e => by rw [r.nil_]; cases e; rfl
  | .int i :: ds, vs, ns, r, e => by
    obtain ⟨v, ws, rfl, r1, t⟩ := r.cons_
    unfold asInts at e
    cases h : asInts ds with
    | none => rw [h] at e; cases e
    | some ms =>
      rw [h] at e; cases e
      rw [r1.int_, asInts_ok t h]; rfl
  | .non :: ds, vs, ns, r, e => by cases e
  | .bl _ :: ds, vs, ns, r, e => by cases e
  | .str _ :: ds, vs, ns, r, e => by cases e
  | .tup _ :: ds, vs, ns, r, e => by cases e
  | .ref _ :: ds, vs, ns, r, e => by cases e
def minI : List Int → Int
  | [] => 0
  | [a] => a
  | a :: b :: r => if minI (b :: r) < a then minI (b :: r) else a
def maxI : List Int → Int
  | [] => 0
  | [a] => a
  | a :: b :: r => if a < maxI (b :: r) then maxI (b :: r) else a
theorem maxI_mem : ∀ {l : List Int}, l ≠ [] → maxI l ∈ l ∧ ∀ x ∈ l, x ≤ maxI l
  | [], h => absurd rfl h
  | [a], _ => ⟨by simp [maxI], by simp [maxI]⟩
  | a :: b :: r, _ => by
    obtain ⟨h1, h2⟩ := maxI_mem (l := b :: r) (by simp)
    unfold maxI
    split
    · rename_i hlt
      refine ⟨List.mem_cons_of_mem _ h1, fun x hx => ?_⟩
      rcases List.mem_cons.mp hx with e | hx
      · omega
      · exact h2 x hx
    · rename_i hlt
      refine ⟨List.mem_cons_self .., fun x hx => ?_⟩
      rcases List.mem_cons.mp hx with e | hx
      · omega
      · have := h2 x hx; omega
theorem minI_mem : ∀ {l : List Int}, l ≠ [] → minI l ∈ l ∧ ∀ x ∈ l, minI l ≤ x
  | [], h => absurd rfl h
  | [a], _ => ⟨by simp [minI], by simp [minI]⟩
  | a :: b :: r, _ => by
    obtain ⟨h1, h2⟩ := minI_mem (l := b :: r) (by simp)
    unfold minI
    split
    · rename_i hlt
      refine ⟨List.mem_cons_of_mem _ h1, fun x hx => ?_⟩
      rcases List.mem_cons.mp hx with e | hx
      · omega
      · exact h2 x hx
    · rename_i hlt
      refine ⟨List.mem_cons_self .., fun x hx => ?_⟩
      rcases List.mem_cons.mp hx with e | hx
      · omega
      · have := h2 x hx; omega
def biMin : List D → S → Out D
  | [.int i, .int j], s => .ok (.int (if j < i then j else i)) s
  | [.ref i], s => match getL s i with
    | some ds => match asInts ds with
      | some ns => if ns ≠ [] then .ok (.int (minI ns)) s else .bad
      | none => .bad
    | none => .bad
  | _, _ => .bad
def biMax : List D → S → Out D
  | [.int i, .int j], s => .ok (.int (if j > i then j else i)) s
  | [.ref i], s => match getL s i with
    | some ds => match asInts ds with
      | some ns => if ns ≠ [] then .ok (.int (maxI ns)) s else .bad
      | none => .bad
    | none => .bad
  | _, _ => .bad
theorem min_ok : HkC X G (fun xs H Q => (∃ i j, xs = [.int i, .int j] ∧ Q (.int (if j < i then j else i)) H) ∨ rMin X.K xs H Q) biMin := by
  intro ds s μ H vs W Q r rv h
  unfold biMin at h
  split at h
  · obtain ⟨v, u, rfl, r1, r2⟩ := rel2 rv
    rw [r1.int_, r2.int_]
    exact .inl ⟨_, _, rfl, fin_ok r relInt h⟩
  · obtain ⟨v, rfl, r1⟩ := rel1 rv
    split at h
    · rename_i ds e
      split at h
      · rename_i ns en
        split at h
        · rename_i hne
          obtain ⟨a, us, rfl, _, q, t⟩ := getL_ok r r1 e
          rw [asInts_ok t en] at q
          have hlen : 0 < ns.length := by cases ns with | nil => exact absurd rfl hne | cons => simp
          refine .inr ⟨a, ns, rfl, q, hlen, fun m hm hle => ?_⟩
          have e2 : m = minI ns := by
            have := minI_mem hne
            have h1 := this.2 m hm
            have h2 := hle _ this.1
            omega
          rw [e2]
          exact fin_ok r relInt h
        · exact h.elim
      · exact h.elim
    · exact h.elim
  · exact h.elim
theorem max_ok : HkC X G (fun xs H Q => (∃ i j, xs = [.int i, .int j] ∧ Q (.int (if j > i then j else i)) H) ∨ rMax X.K xs H Q) biMax := by
  intro ds s μ H vs W Q r rv h
  unfold biMax at h
  split at h
  · obtain ⟨v, u, rfl, r1, r2⟩ := rel2 rv
    rw [r1.int_, r2.int_]
    exact .inl ⟨_, _, rfl, fin_ok r relInt h⟩
  · obtain ⟨v, rfl, r1⟩ := rel1 rv
    split at h
    · rename_i ds e
      split at h
      · rename_i ns en
        split at h
        · rename_i hne
          obtain ⟨a, us, rfl, _, q, t⟩ := getL_ok r r1 e
          rw [asInts_ok t en] at q
          have hlen : 0 < ns.length := by cases ns with | nil => exact absurd rfl hne | cons => simp
          refine .inr ⟨a, ns, rfl, q, hlen, fun m hm hle => ?_⟩
          have e2 : m = maxI ns := by
            have := maxI_mem hne
            have h1 := this.2 m hm
            have h2 := hle _ this.1
            omega
          rw [e2]
          exact fin_ok r relInt h
        · exact h.elim
      · exact h.elim
    · exact h.elim
  · exact h.elim
/-- a number's text -/
def itext (i : Int) : List Nat := (toString i : String).toList.map Char.toNat
theorem itext_eq (i : Int) : ((toString i : String) : Str) = ⟨(itext i).toArray⟩ := by
  rw [Str.ofString_eq_toList]; rfl
theorem okS_chars (cs : List Char) : okS (cs.map Char.toNat) = true := by
  unfold okS
  rw [List.all_eq_true]
  intro c hc
  obtain ⟨x, _, rfl⟩ := List.mem_map.mp hc
  refine decide_eq_true ?_
  have h := x.valid
  have e : x.toNat = x.val.toNat := rfl
  rw [e]
  simp only [UInt32.isValidChar, Nat.isValidChar] at h
  omega
theorem okS_itext (i : Int) : okS (itext i) = true := okS_chars _
def biInt : List D → S → Out D
  | [.int i], s => .ok (.int i) s
  | [.bl b], s => .ok (.int (if b then 1 else 0)) s
  | [.str cs], s => match PySem.intText? ⟨cs.toArray⟩ with
    | some n => if cs.length ≤ 640 then .ok (.int n) s else .bad
    | none => .bad
  | _, _ => .bad
theorem int_ok : HkC X G (fun xs H Q => ((∃ i, xs = [.int i] ∧ Q (.int i) H) ∨ ∃ k, xs = [.bl k] ∧ Q (.int (if k then 1 else 0)) H) ∨ ∃ a n, xs = [.str a] ∧ PySem.intText? a = some n ∧ a.length ≤ 640 ∧ Q (.int n) H) biInt := by
  intro ds s μ H vs W Q r rv h
  unfold biInt at h
  split at h
  · obtain ⟨v, rfl, r1⟩ := rel1 rv
    rw [r1.int_]
    exact .inl (.inl ⟨_, rfl, fin_ok r relInt h⟩)
  · obtain ⟨v, rfl, r1⟩ := rel1 rv
    rw [r1.bl_]
    exact .inl (.inr ⟨_, rfl, fin_ok r relInt h⟩)
  · obtain ⟨v, rfl, r1⟩ := rel1 rv
    split at h
    · rename_i n e
      split at h
      · rename_i hl
        rw [r1.str_]
        exact .inr ⟨_, n, rfl, e, by simpa [Str.length] using hl, fin_ok r relInt h⟩
      · exact h.elim
    · exact h.elim
  · exact h.elim
def biStr : List D → S → Out D
  | [.int i], s => if i.natAbs.log2 < 1920 then .ok (.str (itext i)) s else .bad
  | _, _ => .bad
theorem str_ok : HkC X G (fun xs H Q => ∃ i, xs = [.int i] ∧ i.natAbs.log2 < 1920 ∧ Q (.str (toString i)) H) biStr := by
  intro ds s μ H vs W Q r rv h
  unfold biStr at h
  split at h
  · obtain ⟨v, rfl, r1⟩ := rel1 rv
    split at h
    · rename_i i hl
      rw [r1.int_]
      exact ⟨i, rfl, hl, by rw [itext_eq]; exact fin_ok r (relStr (okS_itext i)) h⟩
    · exact h.elim
  · exact h.elim
def biTup : List D → S → Out D
  | [.tup ds], s => .ok (.tup ds) s
  | [.ref i], s => match getL s i with
    | some ds => .ok (.tup ds) s
    | none => .bad
  | _, _ => .bad
theorem tupl_ok : HkC X G (fun xs H Q => ∃ p ys, xs = [.ref p] ∧ ((SqL X.K H p ys ∧ ∀ l, H l = none → Q (.ref l) (upd H l (.tup ys))) ∨ (SqT X.K H p ys ∧ Q (.ref p) H))) biTup := by
  intro ds s μ H vs W Q r rv h
  unfold biTup at h
  split at h
  · obtain ⟨v, rfl, r1⟩ := rel1 rv
    obtain ⟨a, us, rfl, q, t⟩ := r1.tup_
    exact ⟨a, us, rfl, .inr ⟨q, fin_ok r r1 h⟩⟩
  · obtain ⟨v, rfl, r1⟩ := rel1 rv
    split at h
    · rename_i ds e
      obtain ⟨a, us, rfl, _, q, t⟩ := getL_ok r r1 e
      exact ⟨a, us, rfl, .inl ⟨q, fun l n => tup_fin r t h n⟩⟩
    · exact h.elim
  · exact h.elim
def biLst : List D → S → Out D
  | [d], s => match itemsOf s d with
    | some ds => .ok (.ref s.length) (s ++ [.lst ds])
    | none => .bad
  | _, _ => .bad
theorem items_ok {K : PySem.W.Frag} {μ : List Addr} {H : Hp} {s : S} {d : D} {v : V} {ds : List D} (r : Rel K μ H s) (rv : RelD K μ H d v) (e : itemsOf s d = some ds) : ∃ a vs, v = .ref a ∧ (SqL K H a vs ∨ SqT K H a vs) ∧ RelDs K μ H ds vs := by
  cases d with
  | tup es =>
    cases e
    obtain ⟨a, vs, rfl, q, t⟩ := rv.tup_
    exact ⟨a, vs, rfl, .inr q, t⟩
  | ref i =>
    obtain ⟨a, vs, rfl, _, q, t⟩ := getL_ok r rv e
    exact ⟨a, vs, rfl, .inl q, t⟩
  | _ => cases e
theorem list_ok : HkC X G (fun xs H Q => ∃ p ys, xs = [.ref p] ∧ (SqL X.K H p ys ∨ SqT X.K H p ys) ∧ ∀ l, H l = none → Q (.ref l) (upd H l (.lst ys))) biLst := by
  intro ds s μ H vs W Q r rv h
  unfold biLst at h
  split at h
  · obtain ⟨v, rfl, r1⟩ := rel1 rv
    split at h
    · rename_i ds e
      obtain ⟨a, us, rfl, q, t⟩ := items_ok r r1 e
      exact ⟨a, us, rfl, q, fun l n => lst_fin r t h n⟩
    · exact h.elim
  · exact h.elim
/-- sum, all, any of a list -/
def biSum : List D → S → Out D
  | [.ref i], s => match getL s i with
    | some ds => match asInts ds with
      | some ns => .ok (.int ns.sum) s
      | none => .bad
    | none => .bad
  | _, _ => .bad
theorem sum_ok : HkC X G (rSum X.K) biSum := by
  intro ds s μ H vs W Q r rv h
  unfold biSum at h
  split at h
  · obtain ⟨v, rfl, r1⟩ := rel1 rv
    split at h
    · rename_i ds e
      split at h
      · rename_i ns en
        obtain ⟨a, us, rfl, _, q, t⟩ := getL_ok r r1 e
        rw [asInts_ok t en] at q
        exact ⟨a, ns, rfl, q, fin_ok r relInt h⟩
      · exact h.elim
    · exact h.elim
  · exact h.elim
def asBls : List D → Option (List Bool)
  | [] => some []
  | .bl i :: ds => (asBls ds).map (i :: ·)
  | _ => none
theorem asBls_ok {K : PySem.W.Frag} {μ : List Addr} {H : Hp} : ∀ {ds : List D} {vs : List V} {ns : List Bool}, RelDs K μ H ds vs → asBls ds = some ns → vs = ns.map V.bl
  | [], vs, ns, r, e => by rw [r.nil_]; cases e; rfl
  | .bl i :: ds, vs, ns, r, e => by
    obtain ⟨v, ws, rfl, r1, t⟩ := r.cons_
    unfold asBls at e
    cases h : asBls ds with
    | none => rw [h] at e; cases e
    | some ms =>
      rw [h] at e; cases e
      rw [r1.bl_, asBls_ok t h]; rfl
  | .non :: ds, vs, ns, r, e => by cases e
  | .int _ :: ds, vs, ns, r, e => by cases e
  | .str _ :: ds, vs, ns, r, e => by cases e
  | .tup _ :: ds, vs, ns, r, e => by cases e
  | .ref _ :: ds, vs, ns, r, e => by cases e
def biAll : List D → S → Out D
  | [.ref i], s => match getL s i with
    | some ds => match asBls ds with
      | some ns => .ok (.bl (ns.all id)) s
      | none => .bad
    | none => .bad
  | _, _ => .bad
def biAny : List D → S → Out D
  | [.ref i], s => match getL s i with
    | some ds => match asBls ds with
      | some ns => .ok (.bl (ns.any id)) s
      | none => .bad
    | none => .bad
  | _, _ => .bad
theorem all_ok : HkC X G (rAll X.K) biAll := by
  intro ds s μ H vs W Q r rv h
  unfold biAll at h
  split at h
  · obtain ⟨v, rfl, r1⟩ := rel1 rv
    split at h
    · rename_i ds e
      split at h
      · rename_i ns en
        obtain ⟨a, us, rfl, _, q, t⟩ := getL_ok r r1 e
        rw [asBls_ok t en] at q
        exact ⟨a, ns, rfl, q, fin_ok r relBl h⟩
      · exact h.elim
    · exact h.elim
  · exact h.elim
theorem any_ok : HkC X G (rAny X.K) biAny := by
  intro ds s μ H vs W Q r rv h
  unfold biAny at h
  split at h
  · obtain ⟨v, rfl, r1⟩ := rel1 rv
    split at h
    · rename_i ds e
      split at h
      · rename_i ns en
        obtain ⟨a, us, rfl, _, q, t⟩ := getL_ok r r1 e
        rw [asBls_ok t en] at q
        exact ⟨a, ns, rfl, q, fin_ok r relBl h⟩
      · exact h.elim
    · exact h.elim
  · exact h.elim

/-! ### isinstance -/
inductive Ty where
  | non | bl | int | str | tup | lst | dct
  deriving DecidableEq, Inhabited
def Ty.name : Ty → String
  | .non => "NoneType"
  | .bl => "bool"
  | .int => "int"
  | .str => "str"
  | .tup => "tuple"
  | .lst => "list"
  | .dct => "dict"
def tyOf (s : S) : D → Option Ty
  | .non => some .non
  | .bl _ => some .bl
  | .int _ => some .int
  | .str _ => some .str
  | .tup _ => some .tup
  | .ref i => match s[i]? with
    | some (.lst _) => some .lst
    | some (.rl _) => some .lst
    | some (.dct _) => some .dct
    | none => none
def isTy (a b : Ty) : Bool := decide (a = b) || (decide (a = .bl) && decide (b = .int))
theorem kit_all : ∀ a b : Ty, b ≠ .non → kitB a.name b.name = some (isTy a b) := by
  intro a b h
  cases b with
  | non => exact absurd rfl h
  | bl => cases a <;> decide +kernel
  | int => cases a <;> decide +kernel
  | str => cases a <;> decide +kernel
  | tup => cases a <;> decide +kernel
  | lst => cases a <;> decide +kernel
  | dct => cases a <;> decide +kernel
theorem ty_ok {K : PySem.W.Frag} {μ : List Addr} {H : Hp} {s : S} {d : D} {v : V} {t : Ty} (r : Rel K μ H s) (rv : RelD K μ H d v) (e : tyOf s d = some t) : TyX K H v (.type t.name) := by
  cases d with
  | non => rw [rv.non_]; cases e; exact .base .non
  | bl b => rw [rv.bl_]; cases e; exact .base (.bl b)
  | int b => rw [rv.int_]; cases e; exact .base (.int b)
  | str b => rw [rv.str_]; cases e; exact .base (.str _)
  | tup ds =>
    cases e
    obtain ⟨a, vs, rfl, q, t⟩ := rv.tup_
    rcases q with (q | ⟨o, q⟩) | ⟨o, its, n, q, c, _⟩
    · exact .base (.tup q)
    · exact .fTuple q
    · exact .kTuple q c
  | ref i =>
    obtain ⟨a, rfl, ha⟩ := rv.ref_
    unfold tyOf at e
    dsimp only at e
    split at e
    · rename_i ds hs
      cases e
      obtain ⟨vs, q, _⟩ := r.obj i a _ ha hs
      exact .base (.lst q)
    · rename_i ds hs
      cases e
      obtain ⟨vs, o, q, _⟩ := r.obj i a _ ha hs
      exact .base (.frz q)
    · rename_i ds hs
      cases e
      obtain ⟨vs, q, _⟩ := r.obj i a _ ha hs
      exact .base (.dK q)
    · cases e
def opIsi (t : Ty) (d : D) (s : S) : Out D := match tyOf s d with
  | some u => .ok (.bl (isTy u t)) s
  | none => .bad
theorem de_isi {W : WX} {e : Expr} {f : Env → S → Out D} {p p2 pos : Pos} {t : Ty} {x : Str} (ht : t ≠ .non) (he : DE X G W e f) (hs : notStar e = true) (hg : Gl X "isinstance") (hm : X.mg "isinstance" = none) (hgt : Gl X x) (hmt : X.mg x = none) (hv : bootBuiltins x = some (.type t.name)) (hn : x ≠ "__name__") (hdb : (x == ("__debug__" : Str)) = false) :
    DE X G W (.Call (.Name "isinstance" p) [e, .Name x p2] [] pos) (fun ρ s => (f ρ s).bind (opIsi t)) := by
  have h2 : PE X (.Name x p2) (tC (.ty t.name)) := pe_bltn hgt hmt hv rfl hn hdb
  refine pe_imp (pe_callB call_isi hg hm (by decide +kernel) (pa_cons he (pa_cons h2 pa_nil rfl) (star_ns hs)) (he := star_ns hs)) fun σ H Q hh => ?_
  obtain ⟨μ, ρ, s, r, re, h⟩ := hh
  refine d1 r re h fun d s1 μ1 H1 v x1 r1 re1 rv h1 => ?_
  unfold opIsi at h1
  split at h1
  · rename_i u e
    exact ⟨v, _, _, _, _, rfl, .ty _, ty_ok r1 rv e, kit_ty (kit_all u t ht), fin_ok r1 relBl h1⟩
  · exact h1.elim

/-! ### methods of lists -/
def HkM (X : Cx) (G : Gc) (r : V → List V → Hp → VK → Prop) (k : D → List D → S → Out D) : Prop := ∀ d ds s μ H v vs W Q, Rel X.K μ H s → RelD X.K μ H d v → RelDs X.K μ H ds vs → Fin X.K G μ H W (k d ds s) (qD X.K Q) → r v vs H Q
def plainBase : Expr → Bool
  | .Call (.Name id _) [] [] _ => id != "super"
  | _ => true
theorem base_ok {o : Expr} {name : Str} {env : PySem.Env} {whole : Sem Value} (h : plainBase o = true) : attributeBase o name env whole = whole := by
  unfold attributeBase
  split
  · rename_i id p pos
    have h1 : (id != "super") = true := h
    rw [h1]
    rfl
  · rfl
theorem few_ok {es : List Expr} {env : PySem.Env} {pos : Pos} (h : es.all notStar = true) (hl : es.length < 30) :
    ((backTo pos (starEach es env)).all (fun x => !x.1) && (backToKw pos (keywordEach [] env)).all (fun x => x.1.isSome)
      && decide (es.length + ([] : List Keyword).length + (if ([] : List Keyword).isEmpty then 0 else 1) < 30)) = true := by
  have h1 : (backTo pos (starEach es env)).all (fun x => !x.1) = true := by
    have := star_any (env := env) (pos := pos) h
    rw [List.any_eq_false] at this
    rw [List.all_eq_true]
    intro x hx
    have := this x hx
    simpa using this
  rw [h1]
  simp [backToKw, keywordEach]
  omega
def tyIs (T : String) (s : S) (d : D) : Bool := match d with
  | .str _ => decide (T = "str")
  | .ref i => match s[i]? with
    | some (.lst _) => decide (T = "list")
    | some (.rl _) => decide (T = "list")
    | some (.dct _) => decide (T = "dict")
    | none => false
  | _ => false
theorem tyIs_ok {K : PySem.W.Frag} {μ : List Addr} {H : Hp} {s : S} {d : D} {v : V} {T : String} (r : Rel K μ H s) (rv : RelD K μ H d v) (e : tyIs T s d = true) : tyV K T v H := by
  cases d with
  | str cs =>
    have e' : decide (T = "str") = true := e
    have e2 := of_decide_eq_true e'
    rw [rv.str_]; exact e2
  | ref i =>
    obtain ⟨a, rfl, ha⟩ := rv.ref_
    unfold tyIs at e
    dsimp only at e
    split at e
    · rename_i ds hs
      obtain ⟨vs, q, _⟩ := r.obj i a _ ha hs
      exact .inl ⟨of_decide_eq_true e, vs, .of q⟩
    · rename_i ds hs
      obtain ⟨vs, o, q, _⟩ := r.obj i a _ ha hs
      exact .inl ⟨of_decide_eq_true e, vs, .inl (.inr ⟨o, q⟩)⟩
    · rename_i ds hs
      obtain ⟨vs, q, _⟩ := r.obj i a _ ha hs
      exact .inr (.inr (.inl ⟨of_decide_eq_true e, .inl ⟨vs, q⟩⟩))
    · cases e
  | _ => cases e
theorem de_me {W : WX} {o e : Expr} {es : List Expr} {f : Env → S → Out D} {fs : Env → S → Out (List D)} {name : Str} {apos cpos : Pos} {T id : String} {r : V → List V → Hp → VK → Prop} {k : D → List D → S → Out D}
    (pa : PlainAttrs T) (slot : Slot T name id) (hty : typeOf (.builtin id) = pure (.type "method_descriptor")) (hm : MtR X id r) (hk : HkM X G r k) (ho : DE X G W o f) (ha : DA X G W (e :: es) fs)
    (hb : plainBase o = true) (hl : (apos.endLine == cpos.line) = true) (hs : notStar e = true) (hss : es.all notStar = true) (hlen : (e :: es).length < 30) :
    DE X G W (.Call (.Attribute o name apos) (e :: es) [] cpos) (fun ρ s => (f ρ s).bind fun d s => if tyIs T s d = true then (fs ρ s).bind fun ds s => k d ds s else .bad) :=
  pe_imp (pe_bm pa slot hty hm ho ha (base_ok hb) (few_ok (by rw [List.all_cons, hs, hss]; rfl) hlen) hl (star_ns hs) (star_any hss)) fun σ H Q ⟨μ, ρ, s, rr, re, h⟩ => d1 rr re h fun d s1 μ1 H1 v x1 r1 re1 rv h1 => by
    split at h1
    · rename_i ht
      exact ⟨tyIs_ok r1 rv ht, dA1 r1 re1 h1 fun ds s2 μ2 H2 vs x2 r2 re2 rvs h2 => hk d ds s2 μ2 H2 v vs _ Q r2 (rv.mono x2) rvs h2⟩
    · exact h1.elim
theorem de_me0 {W : WX} {o : Expr} {f : Env → S → Out D} {name : Str} {apos cpos : Pos} {T id : String} {r : V → List V → Hp → VK → Prop} {k : D → List D → S → Out D}
    (pa : PlainAttrs T) (slot : Slot T name id) (hty : typeOf (.builtin id) = pure (.type "method_descriptor")) (hm : MtR X id r) (hk : HkM X G r k) (ho : DE X G W o f) (hb : plainBase o = true) (hl : (apos.endLine == cpos.line) = true) :
    DE X G W (.Call (.Attribute o name apos) [] [] cpos) (fun ρ s => (f ρ s).bind fun d s => if tyIs T s d = true then k d [] s else .bad) :=
  pe_imp (pe_bm0 pa slot hty hm ho (base_ok hb) hl) fun σ H Q ⟨μ, ρ, s, rr, re, h⟩ => d1 rr re h fun d s1 μ1 H1 v x1 r1 re1 rv h1 => by
    split at h1
    · rename_i ht
      exact ⟨tyIs_ok r1 rv ht, hk d [] s1 μ1 H1 v [] _ Q r1 rv relNil h1⟩
    · exact h1.elim
/-- a list that changes, with an answer -/
theorem set_fin {K : PySem.W.Frag} {μ : List Addr} {H : Hp} {s : S} {i : Nat} {a : Addr} {xs ys : List V} {ds : List D} {d : D} {v : V} {W : XK} {Q : VK} (r : Rel K μ H s) (ha : μ[i]? = some a) (hH : H a = some (.lst xs)) (rv : RelDs K μ H ds ys) (rd : RelD K μ H d v)
    (h : Fin K G μ H W (.ok d (s.set i (.lst ds))) (qD K Q)) : Q v (upd H a (.lst ys)) := by
  obtain ⟨r', x⟩ := r.put (u := .lst ys) (o := .lst ds) ha (.lst hH) fun x => ⟨ys, upd_same, rv.mono x⟩
  exact h μ _ x r' v (rd.mono x)
def meAppend : D → List D → S → Out D
  | .ref i, [d], s => match s[i]? with
    | some (.lst ds) => if ds.length < line then .ok .non (s.set i (.lst (ds ++ [d]))) else .bad
    | _ => .bad
  | _, _, _ => .bad
theorem append_ok : HkM X G rAppend meAppend := by
  intro d ds s μ H v vs W Q r rv rvs h
  unfold meAppend at h
  split at h
  · rename_i i d
    split at h
    · rename_i xs e
      split at h
      · rename_i hl
        obtain ⟨u, rfl, r1⟩ := rel1 rvs
        obtain ⟨a, us, rfl, ha, q, t⟩ := lst_ok r rv e
        exact ⟨a, us, u, rfl, rfl, q, by rw [t.length, ← line_eq]; exact hl, set_fin r ha q (t.append (relCons r1 relNil)) relNon h⟩
      · exact h.elim
    · exact h.elim
  · exact h.elim
def meExtend : D → List D → S → Out D
  | .ref i, [.ref j], s => match s[i]?, s[j]? with
    | some (.lst ds), some (.lst es) => if ds.length + es.length ≤ line then .ok .non (s.set i (.lst (ds ++ es))) else .bad
    | _, _ => .bad
  | _, _, _ => .bad
theorem extend_ok : HkM X G rExtend meExtend := by
  intro d ds s μ H v vs W Q r rv rvs h
  unfold meExtend at h
  split at h
  · rename_i i j
    split at h
    · rename_i xs ys e1 e2
      split at h
      · rename_i hl
        obtain ⟨u, rfl, r1⟩ := rel1 rvs
        obtain ⟨a, us, rfl, ha, q, t⟩ := lst_ok r rv e1
        obtain ⟨b, ws, rfl, hb, q2, t2⟩ := lst_ok r r1 e2
        exact ⟨a, b, us, ws, rfl, rfl, q, q2, by rw [t.length, t2.length, ← line_eq]; exact hl, set_fin r ha q (t.append t2) relNon h⟩
      · exact h.elim
    · exact h.elim
  · exact h.elim
/-- xs.pop(i) -/
def mePopAt : D → List D → S → Out D
  | .ref i, [.int j], s => match s[i]? with
    | some (.lst ds) => if -(2 ^ 63) ≤ j ∧ j < 2 ^ 63 then (match seqIndex? j ds.length with
        | some k => match ds[k]? with
          | some d => .ok d (s.set i (.lst (ds.eraseIdx k)))
          | none => .bad
        | none => .bad) else .bad
    | _ => .bad
  | _, _, _ => .bad
theorem popAt_ok : HkM X G rPopAt mePopAt := by
  intro d ds s μ H v vs W Q r rv rvs h
  unfold mePopAt at h
  split at h
  · rename_i i j
    split at h
    · rename_i xs e
      split at h
      · rename_i hj
        split at h
        · rename_i k hk
          split at h
          · rename_i d hd
            obtain ⟨u, rfl, r1⟩ := rel1 rvs
            obtain ⟨a, us, rfl, ha, q, t⟩ := lst_ok r rv e
            obtain ⟨y, hy, ry⟩ := t.get hd
            rw [r1.int_]
            exact ⟨a, us, j, k, y, rfl, rfl, q, hj.1, hj.2, by rw [t.length]; exact hk, hy, set_fin r ha q (t.eraseIdx k) ry h⟩
          · exact h.elim
        · exact h.elim
      · exact h.elim
    · exact h.elim
  · exact h.elim
/-- xs.pop() -/
def mePop : D → List D → S → Out D
  | .ref i, [], s => match s[i]? with
    | some (.lst ds) => match ds[ds.length - 1]? with
      | some d => .ok d (s.set i (.lst ds.dropLast))
      | none => .bad
    | _ => .bad
  | _, _, _ => .bad
theorem RelDs.dropLast {K : PySem.W.Frag} {μ : List Addr} {H : Hp} {ds : List D} {vs : List V} (h : RelDs K μ H ds vs) : RelDs K μ H ds.dropLast vs.dropLast := by
  rw [List.dropLast_eq_take, List.dropLast_eq_take, h.length]
  exact h.take _
theorem pop_ok : HkM X G rPop mePop := by
  intro d ds s μ H v vs W Q r rv rvs h
  unfold mePop at h
  split at h
  · rename_i i
    split at h
    · rename_i xs e
      split at h
      · rename_i d hd
        rw [rvs.nil_]
        obtain ⟨a, us, rfl, ha, q, t⟩ := lst_ok r rv e
        obtain ⟨y, hy, ry⟩ := t.get hd
        exact ⟨a, us, y, rfl, rfl, q, by rw [t.length]; exact hy, set_fin r ha q t.dropLast ry h⟩
      · exact h.elim
    · exact h.elim
  · exact h.elim
def meInsert : D → List D → S → Out D
  | .ref i, [.int j, d], s => match s[i]? with
    | some (.lst ds) => if ds.length < line ∧ 0 ≤ j ∧ j < 2 ^ 63 then .ok .non (s.set i (.lst (ds.take j.toNat ++ [d] ++ ds.drop j.toNat))) else .bad
    | _ => .bad
  | _, _, _ => .bad
theorem insert_ok : HkM X G (fun x vs H Q => ∃ (l : Addr) (xs : List V) (i : Int) (y : V), x = .ref l ∧ vs = [.int i, y] ∧ H l = some (.lst xs) ∧ xs.length < sizeLine ∧ 0 ≤ i ∧ i < 2 ^ 63 ∧
    Q .non (upd H l (.lst (xs.take i.toNat ++ [y] ++ xs.drop i.toNat)))) meInsert := by
  intro d ds s μ H v vs W Q r rv rvs h
  unfold meInsert at h
  split at h
  · rename_i i j d
    split at h
    · rename_i xs e
      split at h
      · rename_i hj
        obtain ⟨u, y, rfl, r1, r2⟩ := rel2 rvs
        obtain ⟨a, us, rfl, ha, q, t⟩ := lst_ok r rv e
        rw [r1.int_]
        exact ⟨a, us, j, y, rfl, rfl, q, by rw [t.length, ← line_eq]; exact hj.1, hj.2.1, hj.2.2, set_fin r ha q (((t.take _).append (relCons r2 relNil)).append (t.drop _)) relNon h⟩
      · exact h.elim
    · exact h.elim
  · exact h.elim
end
end Fe

set_option maxHeartbeats 2000000
/-! Fe 7: statements. -/
namespace Fe
open PySem PySem.Spec PyProof.Rows L2

/-- where a statement ends -/
inductive SOut where
  | nx (ρ : Env) (s : S)
  | rt (d : D) (s : S)
  | bk (ρ : Env) (s : S)
  | ct (ρ : Env) (s : S)
  | exc (x : Xc) (ρ : Env) (s : S)
  | bad
def SOut.seq (o : SOut) (g : Env → S → SOut) : SOut := match o with
  | .nx ρ s => g ρ s
  | .rt d s => .rt d s
  | .bk ρ s => .bk ρ s
  | .ct ρ s => .ct ρ s
  | .exc x ρ s => .exc x ρ s
  | .bad => .bad
/-- an expression within a statement -/
def lift {α : Type} (o : Out α) (ρ : Env) (k : α → S → SOut) : SOut := match o with
  | .ok a s => k a s
  | .exc x s => .exc x ρ s
  | .bad => .bad
def SFin (K : PySem.W.Frag) (G : Gc) (μ : List Addr) (H : Hp) (W : WX) (o : SOut) (D : Ends) : Prop := match o with
  | .nx ρ s => ∀ μ' H' σ', Ext μ H μ' H' → Rel K μ' H' s → RelEnv K μ' H' ρ σ' → D.nx σ' H'
  | .rt d s => ∀ μ' H' v, Ext μ H μ' H' → Rel K μ' H' s → RelD K μ' H' d v → D.rt v H'
  | .bk ρ s => ∀ μ' H' σ', Ext μ H μ' H' → Rel K μ' H' s → RelEnv K μ' H' ρ σ' → D.bk σ' H'
  | .ct ρ s => ∀ μ' H' σ', Ext μ H μ' H' → Rel K μ' H' s → RelEnv K μ' H' ρ σ' → D.ct σ' H'
  | .exc x ρ s => ∀ cls dd μ' H' σ', Ext μ H μ' H' → Rel K μ' H' s → RelEnv K μ' H' ρ σ' → RelX K G μ' H' x cls dd → W cls dd σ' H'
  | .bad => False
section
variable {K : PySem.W.Frag} {G : Gc} {μ μ' : List Addr} {H H' : Hp} {W : WX} {D : Ends}
theorem SFin.ext {o : SOut} (x : Ext μ H μ' H') (h : SFin K G μ H W o D) : SFin K G μ' H' W o D := by
  cases o with
  | nx ρ s => exact fun μ2 H2 σ2 y => h μ2 H2 σ2 (x.trans y)
  | rt d s => exact fun μ2 H2 v y => h μ2 H2 v (x.trans y)
  | bk ρ s => exact fun μ2 H2 σ2 y => h μ2 H2 σ2 (x.trans y)
  | ct ρ s => exact fun μ2 H2 σ2 y => h μ2 H2 σ2 (x.trans y)
  | exc c ρ s => exact fun cls dd μ2 H2 σ2 y => h cls dd μ2 H2 σ2 (x.trans y)
  | bad => exact h
/-- an expression's part of a statement's wish -/
theorem SFin.lift {α : Type} {o : Out α} {ρ : Env} {σ : L2.St} {k : α → S → SOut} (re : RelEnv K μ H ρ σ) (h : SFin K G μ H W (lift o ρ k) D) : Fin K G μ H (fun c d H' => W c d σ H') o (fun a s μ' H' => SFin K G μ' H' W (k a s) D) := by
  cases o with
  | ok a s => exact fun μ' H' x r => SFin.ext (o := k a s) x h
  | exc c s => exact fun cls dd μ' H' x r rx => h cls dd μ' H' σ x r (re.mono x) rx
  | bad => exact h
end
def tS (K : PySem.W.Frag) (G : Gc) (W : WX) (f : Env → S → SOut) : TS := fun D σ H => ∃ μ ρ s, Rel K μ H s ∧ RelEnv K μ H ρ σ ∧ SFin K G μ H W (f ρ s) D
abbrev DS (X : Cx) (G : Gc) (W : WX) (st : Stmt) (f : Env → S → SOut) : Prop := PS X st (tS X.K G W f)
abbrev DSs (X : Cx) (G : Gc) (W : WX) (sts : List Stmt) (f : Env → S → SOut) : Prop := PSs X sts (tS X.K G W f)
theorem ps_imp {X : Cx} {e : Stmt} {t t' : TS} (h : PS X e t) (i : ∀ D σ H, t' D σ H → t D σ H) : PS X e t' := ⟨fun pins s σ H D I w => h.run pins s σ H D I (i D σ H w)⟩
theorem pss_imp {X : Cx} {e : List Stmt} {t t' : TS} (h : PSs X e t) (i : ∀ D σ H, t' D σ H → t D σ H) : PSs X e t' := ⟨fun pins s σ H D I w => h.run pins s σ H D I (i D σ H w)⟩
theorem pg_imp {X : Cx} {e : Expr} {t t' : TG} (h : PG X e t) (i : ∀ v σ H Q, t' v σ H Q → t v σ H Q) : PG X e t' := ⟨fun pins s σ H v u Q I r w => h.run pins s σ H v u Q I r (i v σ H Q w)⟩
theorem pg_or {X : Cx} {e : Expr} {t t' : TG} (h : PG X e t) (h' : PG X e t') : PG X e (fun v σ H Q => t v σ H Q ∨ t' v σ H Q) := ⟨fun pins s σ H v u Q I r w => by
  rcases w with w | w
  · exact h.run pins s σ H v u Q I r w
  · exact h'.run pins s σ H v u Q I r w⟩
theorem pgs_imp {X : Cx} {e : List Expr} {t t' : TGs} (h : PGs X e t) (i : ∀ v σ H Q, t' v σ H Q → t v σ H Q) : PGs X e t' := ⟨fun pins s σ H v u Q I r w => h.run pins s σ H v u Q I r (i v σ H Q w)⟩
theorem pi_imp {X : Cx} {tg e : Expr} {t t' : TI} (h : PI X tg e t) (i : ∀ σ H R, t' σ H R → t σ H R) : PI X tg e t' := ⟨fun pins s σ H R I w => h.run pins s σ H R I (i σ H R w)⟩
theorem pi_or {X : Cx} {tg e : Expr} {t t' : TI} (h : PI X tg e t) (h' : PI X tg e t') : PI X tg e (fun σ H R => t σ H R ∨ t' σ H R) := ⟨fun pins s σ H R I w => by
  rcases w with w | w
  · exact h.run pins s σ H R I w
  · exact h'.run pins s σ H R I w⟩

section
variable {X : Cx} {G : Gc} {W : WX} {pos : Pos}
/-! ### blocks -/
theorem ds_nil : DSs X G W [] (fun ρ s => .nx ρ s) := pss_imp pss_nil fun D σ H ⟨μ, ρ, s, r, re, h⟩ => h μ H σ (.refl μ H) r re
theorem ds_cons {st : Stmt} {sts : List Stmt} {f g : Env → S → SOut} (h1 : DS X G W st f) (h2 : DSs X G W sts g) : DSs X G W (st :: sts) (fun ρ s => (f ρ s).seq g) :=
  pss_imp (pss_cons h1 h2) fun D σ H ⟨μ, ρ, s, r, re, h⟩ => ⟨μ, ρ, s, r, re, by
    have h : SFin X.K G μ H W ((f ρ s).seq g) D := h
    cases e : f ρ s with
    | nx ρ1 s1 =>
      rw [e] at h
      exact fun μ' H' σ' x r' re' => ⟨μ', ρ1, s1, r', re', SFin.ext (o := g ρ1 s1) x h⟩
    | _ => rw [e] at h; exact h⟩
theorem ds_pass : DS X G W (.Pass pos) (fun ρ s => .nx ρ s) := ps_imp ps_pass fun D σ H ⟨μ, ρ, s, r, re, h⟩ => h μ H σ (.refl μ H) r re
theorem ds_break : DS X G W (.Break pos) (fun ρ s => .bk ρ s) := ps_imp ps_break fun D σ H ⟨μ, ρ, s, r, re, h⟩ => h μ H σ (.refl μ H) r re
theorem ds_cont : DS X G W (.Continue pos) (fun ρ s => .ct ρ s) := ps_imp ps_continue fun D σ H ⟨μ, ρ, s, r, re, h⟩ => h μ H σ (.refl μ H) r re
def notComp : Expr → Bool
  | .ListComp .. => false
  | .SetComp .. => false
  | .DictComp .. => false
  | _ => true
theorem sw_plain {t : Option Expr} {line : Nat} {env : PySem.Env} : ∀ {e : Expr}, notComp e = true → swapsWith e t line env = pure false
  | .ListComp .., h => by cases h
  | .SetComp .., h => by cases h
  | .DictComp .., h => by cases h
  | .BoolOp .., _ => rfl
  | .NamedExpr .., _ => rfl
  | .BinOp .., _ => rfl
  | .UnaryOp .., _ => rfl
  | .Lambda .., _ => rfl
  | .IfExp .., _ => rfl
  | .Dict .., _ => rfl
  | .Set .., _ => rfl
  | .GeneratorExp .., _ => rfl
  | .Await .., _ => rfl
  | .Yield .., _ => rfl
  | .YieldFrom .., _ => rfl
  | .Compare .., _ => rfl
  | .Call .., _ => rfl
  | .FormattedValue .., _ => rfl
  | .JoinedStr .., _ => rfl
  | .Constant .., _ => rfl
  | .Attribute .., _ => rfl
  | .Subscript .., _ => rfl
  | .Starred .., _ => rfl
  | .Name .., _ => rfl
  | .List .., _ => rfl
  | .Tuple .., _ => rfl
  | .Slice .., _ => rfl
theorem dS1 {e : Expr} {f : Env → S → Out D} {k : D → S → SOut} {D : Ends} {σ : L2.St} {H : Hp} {μ : List Addr} {ρ : Env} {s : S} {Q1 : VK} (r : Rel X.K μ H s) (re : RelEnv X.K μ H ρ σ) (h : SFin X.K G μ H W (lift (f ρ s) ρ k) D)
    (hk : ∀ d s1 μ1 H1 v, Ext μ H μ1 H1 → Rel X.K μ1 H1 s1 → RelEnv X.K μ1 H1 ρ σ → RelD X.K μ1 H1 d v → SFin X.K G μ1 H1 W (k d s1) D → Q1 v H1) : tD X.K G W f σ H Q1 :=
  ⟨μ, ρ, s, r, re, (h.lift re).imp fun d s1 μ1 H1 x r1 h1 v rv => hk d s1 μ1 H1 v x r1 (re.mono x) rv h1⟩
theorem ds_expr {e : Expr} {f : Env → S → Out D} (he : DE X G W e f) (hs : notComp e = true) : DS X G W (.Expr e pos) (fun ρ s => lift (f ρ s) ρ fun _ s => .nx ρ s) :=
  ps_imp (ps_expr he (sw_plain hs)) fun D σ H ⟨μ, ρ, s, r, re, h⟩ => dS1 (e := e) r re h fun d s1 μ1 H1 v x1 r1 re1 rv h1 => h1 μ1 H1 σ (.refl _ _) r1 re1
theorem ds_ret {e : Expr} {f : Env → S → Out D} (he : DE X G W e f) : DS X G W (.Return (some e) pos) (fun ρ s => lift (f ρ s) ρ fun d s => .rt d s) :=
  ps_imp (ps_ret he) fun D σ H ⟨μ, ρ, s, r, re, h⟩ => dS1 (e := e) r re h fun d s1 μ1 H1 v x1 r1 re1 rv h1 => h1 μ1 H1 v (.refl _ _) r1 rv
theorem ds_retN : DS X G W (.Return none pos) (fun ρ s => .rt .non s) := ps_imp ps_retN fun D σ H ⟨μ, ρ, s, r, re, h⟩ => h μ H _ (.refl μ H) r relNon
theorem ds_doc {x : Str} {j : Nat} {p : Pos} : DS X G W (.Expr (.Constant (.str x) j p) pos) (fun ρ s => .nx ρ s) := ps_imp ps_doc fun D σ H ⟨μ, ρ, s, r, re, h⟩ => h μ H σ (.refl μ H) r re
theorem ds_if {c : Expr} {a b : List Stmt} {p : Env → S → Out Bool} {f g : Env → S → SOut} (hc : DT X G W c p) (ha : DSs X G W a f) (hb : DSs X G W b g) : DS X G W (.If c a b pos) (fun ρ s => lift (p ρ s) ρ fun k s => if k = true then f ρ s else g ρ s) :=
  ps_imp (ps_if hc ha hb) fun D σ H ⟨μ, ρ, s, r, re, h⟩ => ⟨μ, ρ, s, r, re, (h.lift re).imp fun k s1 μ1 H1 x r1 h1 => by
    cases k with
    | true => exact ⟨μ1, ρ, s1, r1, re.mono x, h1⟩
    | false => exact ⟨μ1, ρ, s1, r1, re.mono x, h1⟩⟩

/-! ### targets -/
abbrev TOut := Option (Env × S)
def TFin (K : PySem.W.Frag) (μ : List Addr) (H : Hp) (o : TOut) (Q : L2.St → Hp → Prop) : Prop := match o with
  | some (ρ, s) => ∀ μ' H' σ', Ext μ H μ' H' → Rel K μ' H' s → RelEnv K μ' H' ρ σ' → Q σ' H'
  | none => False
def tT (K : PySem.W.Frag) (g : D → Env → S → TOut) : TG := fun v σ H Q => ∃ μ ρ s d, Rel K μ H s ∧ RelEnv K μ H ρ σ ∧ RelD K μ H d v ∧ TFin K μ H (g d ρ s) Q
def tTs (K : PySem.W.Frag) (g : List D → Env → S → TOut) : TGs := fun v σ H Q => ∃ μ ρ s d, Rel K μ H s ∧ RelEnv K μ H ρ σ ∧ RelDs K μ H d v ∧ TFin K μ H (g d ρ s) Q
abbrev DG (X : Cx) (e : Expr) (g : D → Env → S → TOut) : Prop := PG X e (tT X.K g)
abbrev DGs (X : Cx) (e : List Expr) (g : List D → Env → S → TOut) : Prop := PGs X e (tTs X.K g)
theorem TFin.ext {K : PySem.W.Frag} {μ μ' : List Addr} {H H' : Hp} {o : TOut} {Q : L2.St → Hp → Prop} (x : Ext μ H μ' H') (h : TFin K μ H o Q) : TFin K μ' H' o Q := by
  cases o with
  | some p => exact fun μ2 H2 σ2 y => h μ2 H2 σ2 (x.trans y)
  | none => exact h
theorem RelEnv.set {K : PySem.W.Frag} {μ : List Addr} {H : Hp} {ρ : Env} {σ : L2.St} {i : Nat} {d : D} {v : V} (re : RelEnv K μ H ρ σ) (rv : RelD K μ H d v) : RelEnv K μ H (ρ.set i (some d)) (σ.set i (some v)) := by
  refine ⟨by simp [re.1], fun j e h => ?_⟩
  by_cases hj : j = i
  · subst hj
    have hl : j < ρ.length := by
      have := (List.getElem?_eq_some_iff.mp h).1
      simpa using this
    rw [List.getElem?_set_self hl] at h
    cases h
    exact ⟨v, List.getElem?_set_self (by rw [← re.1]; exact hl), rv⟩
  · rw [List.getElem?_set_ne (Ne.symm hj)] at h
    obtain ⟨u, e1, r1⟩ := re.2 j e h
    exact ⟨u, by rw [List.getElem?_set_ne (Ne.symm hj)]; exact e1, r1⟩
theorem dg_name {i : Nat} {x : Str} (hN : X.N.Nodup) (hi : X.N[i]? = some x) (hx : Loc X.env.scope x) (hf : X.fn x = true ∨ X.env.scope.names.lookup x = some .local) : DG X (.Name x pos) (fun d ρ s => some (ρ.set i (some d), s)) :=
  pg_imp (pg_name hN hi hx hf) fun v σ H Q ⟨μ, ρ, s, d, r, re, rv, h⟩ => h μ H _ (.refl _ _) r (re.set rv)
theorem dgs_nil : DGs X [] (fun ds ρ s => match ds with | [] => some (ρ, s) | _ :: _ => none) :=
  pgs_imp pgs_nil fun v σ H Q ⟨μ, ρ, s, d, r, re, rv, h⟩ => by
    cases d with
    | nil => exact ⟨rv.nil_, h μ H σ (.refl _ _) r re⟩
    | cons => exact h.elim
def consT (g : D → Env → S → TOut) (gs : List D → Env → S → TOut) (ds : List D) (ρ : Env) (s : S) : TOut := match ds with
  | [] => none
  | d :: ds => match g d ρ s with
    | some (ρ, s) => gs ds ρ s
    | none => none
theorem asg_ns {es : List Expr} {env : PySem.Env} : ∀ {e : Expr}, notStar e = true → assignEach (e :: es) env = (false, assign e env) :: assignEach es env
  | .Starred _ _, h => by cases h
  | .BoolOp .., _ => rfl
  | .NamedExpr .., _ => rfl
  | .BinOp .., _ => rfl
  | .UnaryOp .., _ => rfl
  | .Lambda .., _ => rfl
  | .IfExp .., _ => rfl
  | .Dict .., _ => rfl
  | .Set .., _ => rfl
  | .ListComp .., _ => rfl
  | .SetComp .., _ => rfl
  | .DictComp .., _ => rfl
  | .GeneratorExp .., _ => rfl
  | .Await .., _ => rfl
  | .Yield .., _ => rfl
  | .YieldFrom .., _ => rfl
  | .Compare .., _ => rfl
  | .Call .., _ => rfl
  | .FormattedValue .., _ => rfl
  | .JoinedStr .., _ => rfl
  | .Constant .., _ => rfl
  | .Attribute .., _ => rfl
  | .Subscript .., _ => rfl
  | .Name .., _ => rfl
  | .List .., _ => rfl
  | .Tuple .., _ => rfl
  | .Slice .., _ => rfl
theorem asg_len {env : PySem.Env} : ∀ {es : List Expr}, es.all notStar = true → (assignEach es env).length = es.length ∧ (assignEach es env).findIdx? (·.1) = none
  | [], _ => ⟨rfl, rfl⟩
  | e :: es, h => by
    have h' : notStar e = true ∧ es.all notStar = true := by simpa using h
    obtain ⟨a, b⟩ := asg_len (env := env) h'.2
    rw [asg_ns h'.1]
    exact ⟨by simp [a], by rw [List.findIdx?_cons]; simp [b]⟩
theorem dgs_cons {e : Expr} {es : List Expr} {g : D → Env → S → TOut} {gs : List D → Env → S → TOut} (hs : notStar e = true) (h1 : DG X e g) (h2 : DGs X es gs) : DGs X (e :: es) (consT g gs) :=
  pgs_imp (pgs_cons h1 h2 (by rw [asg_ns hs]; rfl)) fun v σ H Q ⟨μ, ρ, s, ds, r, re, rv, h⟩ => by
    cases ds with
    | nil => exact h.elim
    | cons d ds =>
      obtain ⟨u, us, rfl, r1, t⟩ := rv.cons_
      refine ⟨u, us, rfl, μ, ρ, s, d, r, re, r1, ?_⟩
      dsimp only [consT] at h
      cases e : g d ρ s with
      | none => rw [e] at h; exact h
      | some p =>
        obtain ⟨ρ1, s1⟩ := p
        rw [e] at h
        exact fun μ' H' σ' x r' re' => ⟨μ', ρ1, s1, ds, r', re', t.mono x, TFin.ext x h⟩
/-- a, b, .. = a tuple or a list of that length -/
def unpackT (n : Nat) (gs : List D → Env → S → TOut) (d : D) (ρ : Env) (s : S) : TOut := match itemsOf s d with
  | some ds => if ds.length = n then gs ds ρ s else none
  | none => none
theorem dg_tup {es : List Expr} {k : Nat} {gs : List D → Env → S → TOut} (hc : X.calm = true) (hs : es.all notStar = true) (h : DGs X es gs) : DG X (.Tuple es k pos) (unpackT es.length gs) := by
  obtain ⟨a, b⟩ := asg_len (env := X.env) hs
  refine pg_imp (pg_or (pg_tup hc h a b) (pg_lst hc h a b)) fun v σ H Q ⟨μ, ρ, s, d, r, re, rv, hh⟩ => ?_
  unfold unpackT at hh
  split at hh
  · rename_i ds e
    split at hh
    · rename_i hl
      obtain ⟨p, vs, rfl, q, t⟩ := items_ok r rv e
      rcases q with q | q
      · exact .inr ⟨p, vs, rfl, q, by rw [t.length]; exact hl, μ, ρ, s, ds, r, re, t, hh⟩
      · exact .inl ⟨p, vs, rfl, q, by rw [t.length]; exact hl, μ, ρ, s, ds, r, re, t, hh⟩
    · exact hh.elim
  · exact hh.elim
/-- target = value -/
def liftT (o : TOut) : SOut := match o with
  | some (ρ, s) => .nx ρ s
  | none => .bad
theorem SFin.ofT {K : PySem.W.Frag} {μ : List Addr} {H : Hp} {o : TOut} {D : Ends} (h : SFin K G μ H W (liftT o) D) : TFin K μ H o D.nx := by
  cases o with
  | some p => exact h
  | none => exact h
theorem ds_asg {tg e : Expr} {f : Env → S → Out D} {g : D → Env → S → TOut} (he : DE X G W e f) (hg : DG X tg g) (hs : notStar tg = true) (hw : swappedStores [tg] e X.env = pure none) (hc : notComp e = true) : DS X G W (.Assign [tg] e pos) (fun ρ s => lift (f ρ s) ρ fun d s => liftT (g d ρ s)) :=
  ps_imp (ps_asg he hg (sw_plain hc) hw (by rw [asg_ns hs]; rfl)) fun D σ H ⟨μ, ρ, s, r, re, h⟩ => dS1 (e := e) r re h fun d s1 μ1 H1 v x1 r1 re1 rv h1 => ⟨μ1, ρ, s1, d, r1, re1, rv, h1.ofT⟩
/-- x = e, x a name -/
theorem ds_set {i : Nat} {x : Str} {e : Expr} {p : Pos} {f : Env → S → Out D} (hN : X.N.Nodup) (hi : X.N[i]? = some x) (hx : Loc X.env.scope x) (hf : X.fn x = true ∨ X.env.scope.names.lookup x = some .local) (he : DE X G W e f) (hc : notComp e = true) : DS X G W (.Assign [.Name x p] e pos) (fun ρ s => lift (f ρ s) ρ fun d s => .nx (ρ.set i (some d)) s) :=
  ps_imp (ps_set hN hi hx he (sw_plain hc) hf) fun D σ H ⟨μ, ρ, s, r, re, h⟩ => dS1 (e := e) r re h fun d s1 μ1 H1 v x1 r1 re1 rv h1 => h1 μ1 H1 _ (.refl _ _) r1 (re1.set rv)
/-- two, three names = so many values -/
theorem dS_A {fs : Env → S → Out (List D)} {k : List D → S → SOut} {D : Ends} {σ : L2.St} {H : Hp} {μ : List Addr} {ρ : Env} {s : S} {Q1 : List V → Hp → Prop} (r : Rel X.K μ H s) (re : RelEnv X.K μ H ρ σ) (h : SFin X.K G μ H W (lift (fs ρ s) ρ k) D)
    (hk : ∀ ds s1 μ1 H1 vs, Ext μ H μ1 H1 → Rel X.K μ1 H1 s1 → RelEnv X.K μ1 H1 ρ σ → RelDs X.K μ1 H1 ds vs → SFin X.K G μ1 H1 W (k ds s1) D → Q1 vs H1) : tA X.K G W fs σ H Q1 :=
  ⟨μ, ρ, s, r, re, (h.lift re).imp fun d s1 μ1 H1 x r1 h1 v rv => hk d s1 μ1 H1 v x r1 (re.mono x) rv h1⟩
theorem ds_par2 {i j : Nat} {x y : Str} {a b : Expr} {fs : Env → S → Out (List D)} {px py pt : Pos} {kt k2 : Nat} {pt2 : Pos} (hc : X.calm = true) (hN : X.N.Nodup) (hi : X.N[i]? = some x) (hj : X.N[j]? = some y) (hij : i ≠ j)
    (hx : X.env.scope.names.lookup x = some .local) (hy : X.env.scope.names.lookup y = some .local) (ha : DA X G W [a, b] fs) (hw : swappedStores [.Tuple [.Name x px, .Name y py] kt pt] (.Tuple [a, b] k2 pt2) X.env = pure (some [x, y])) :
    DS X G W (.Assign [.Tuple [.Name x px, .Name y py] kt pt] (.Tuple [a, b] k2 pt2) pos) (fun ρ s => lift (fs ρ s) ρ fun ds s => match ds with | [d, e] => .nx ((ρ.set i (some d)).set j (some e)) s | _ => .bad) :=
  ps_imp (ps_par hc hN hi hj hij hx hy ha hw rfl) fun D σ H ⟨μ, ρ, s, r, re, h⟩ => dS_A r re h fun ds s1 μ1 H1 vs x1 r1 re1 rv h1 => by
    split at h1
    · obtain ⟨v, u, rfl, a1, a2⟩ := rel2 rv
      exact ⟨v, u, rfl, h1 μ1 H1 _ (.refl _ _) r1 ((re1.set a1).set a2)⟩
    · exact h1.elim
theorem rel3 {K : PySem.W.Frag} {μ : List Addr} {H : Hp} {a b c : D} {vs : List V} (h : RelDs K μ H [a, b, c] vs) : ∃ v u w, vs = [v, u, w] ∧ RelD K μ H a v ∧ RelD K μ H b u ∧ RelD K μ H c w := by
  obtain ⟨v, ws, rfl, r, t⟩ := h.cons_
  obtain ⟨u, w, rfl, q1, q2⟩ := rel2 t
  exact ⟨v, u, w, rfl, r, q1, q2⟩
theorem ds_par3 {i j l : Nat} {x y z : Str} {a b c : Expr} {fs : Env → S → Out (List D)} {px py pz pt : Pos} {kt k2 : Nat} {pt2 : Pos} (hc : X.calm = true) (hN : X.N.Nodup) (hi : X.N[i]? = some x) (hj : X.N[j]? = some y) (hl : X.N[l]? = some z) (hij : i ≠ j) (hil : i ≠ l) (hjl : j ≠ l)
    (hx : X.env.scope.names.lookup x = some .local) (hy : X.env.scope.names.lookup y = some .local) (hz : X.env.scope.names.lookup z = some .local) (ha : DA X G W [a, b, c] fs) (hw : swappedStores [.Tuple [.Name x px, .Name y py, .Name z pz] kt pt] (.Tuple [a, b, c] k2 pt2) X.env = pure (some [x, y, z])) :
    DS X G W (.Assign [.Tuple [.Name x px, .Name y py, .Name z pz] kt pt] (.Tuple [a, b, c] k2 pt2) pos) (fun ρ s => lift (fs ρ s) ρ fun ds s => match ds with | [d, e, f] => .nx (((ρ.set i (some d)).set j (some e)).set l (some f)) s | _ => .bad) :=
  ps_imp (ps_par3 hc hN hi hj hl hij hil hjl hx hy hz ha hw rfl) fun D σ H ⟨μ, ρ, s, r, re, h⟩ => dS_A r re h fun ds s1 μ1 H1 vs x1 r1 re1 rv h1 => by
    split at h1
    · obtain ⟨v, u, t, rfl, a1, a2, a3⟩ := rel3 rv
      exact ⟨v, u, t, rfl, h1 μ1 H1 _ (.refl _ _) r1 (((re1.set a1).set a2).set a3)⟩
    · exact h1.elim
end
end Fe

set_option maxHeartbeats 2000000
/-! Fe 8: what is walked; for, while, comprehensions. -/
namespace Fe
open PySem PySem.Spec PyProof.Rows L2

/-- an iterator gives the items ds while live holds -/
def ItOk (K : PySem.W.Frag) (μ0 : List Addr) (H0 : Hp) (J : It) (ds : List D) (live : S → Bool) : Prop :=
  ∀ μ H s, Ext μ0 H0 μ H → Rel K μ H s → live s = true →
    (∀ i, i < ds.length → J.go i H ∧ ∀ x H', J.yld i H x H' → Rel K μ H' s ∧ Ext μ H μ H' ∧ ∃ d, ds[i]? = some d ∧ RelD K μ H' d x) ∧ J.stop ds.length H
/-- the items, and the list that is to stand as it is -/
structure Src where
  ds : List D
  r : Option Nat
def Src.live (c : Src) (s : S) : Bool := match c.r with
  | none => true
  | some i => decide (getL s i = some c.ds)
abbrev qI (K : PySem.W.Frag) (R : It → Hp → Prop) : Src → S → List Addr → Hp → Prop := fun c _ μ H => ∀ J, ItOk K μ H J c.ds c.live → R J H
def tI (K : PySem.W.Frag) (G : Gc) (W : WX) (f : Env → S → Out Src) : TI := fun σ H R => ∃ μ ρ s, Rel K μ H s ∧ RelEnv K μ H ρ σ ∧ Fin K G μ H (fun c d H' => W c d σ H') (f ρ s) (qI K R)
abbrev DI (X : Cx) (G : Gc) (W : WX) (tg e : Expr) (f : Env → S → Out Src) : Prop := PI X tg e (tI X.K G W f)

section
variable {K : PySem.W.Frag} {μ0 : List Addr} {H0 : Hp}
theorem it_list {a : Addr} {i : Nat} {ds : List D} {vs : List V} (ha : μ0[i]? = some a) : ItOk K μ0 H0 (Itl K a) ds (fun s => decide (getL s i = some ds)) := by
  intro μ H s x r hl
  obtain ⟨a', us, e, ha', q, t⟩ := getL_ok (v := .ref a) r (relRef (pre_get x.pre ha)) (of_decide_eq_true hl)
  cases e
  refine ⟨fun j hj => ?_, us, q, by rw [t.length]; exact Nat.le_refl _⟩
  obtain ⟨v, e, rv⟩ := t.get (List.getElem?_eq_getElem hj)
  exact ⟨⟨us, v, q, e⟩, fun y H' h => by
    obtain ⟨rfl, h⟩ := h
    have e2 := h us q
    rw [e] at e2; cases e2
    exact ⟨r, .refl _ _, _, List.getElem?_eq_getElem hj, rv⟩⟩
theorem it_tup {a : Addr} {ds : List D} {vs : List V} (q : SqT K H0 a vs) (t : RelDs K μ0 H0 ds vs) : ItOk K μ0 H0 (Itt K a) ds (fun _ => true) := by
  intro μ H s x r _
  have q' := x.keep.sqT q
  have t' := t.mono x
  refine ⟨fun j hj => ?_, vs, q', by rw [t.length]; exact Nat.le_refl _⟩
  obtain ⟨v, e, rv⟩ := t'.get (List.getElem?_eq_getElem hj)
  exact ⟨⟨vs, v, q', e⟩, fun y H' h => by
    obtain ⟨rfl, h⟩ := h
    have e2 := h vs q'
    rw [e] at e2; cases e2
    exact ⟨r, .refl _ _, _, List.getElem?_eq_getElem hj, rv⟩⟩
def rangeD (lo : Int) (n : Nat) : List D := (List.range n).map fun (i : Nat) => .int (lo + (i : Int))
theorem rangeD_get {lo : Int} {n i : Nat} (h : i < n) : (rangeD lo n)[i]? = some (.int (lo + (i : Int))) := by
  unfold rangeD
  rw [List.getElem?_map, List.getElem?_range h]; rfl
theorem it_range {lo : Int} {n : Nat} : ItOk K μ0 H0 (Itr lo n) (rangeD lo n) (fun _ => true) := by
  intro μ H s x r _
  have hl : (rangeD lo n).length = n := by unfold rangeD; simp
  refine ⟨fun j hj => ⟨by rw [hl] at hj; exact hj, fun y H' h => ?_⟩, by rw [hl]; exact Nat.le_refl _⟩
  obtain ⟨rfl, rfl⟩ := h
  rw [hl] at hj
  exact ⟨r, .refl _ _, _, rangeD_get hj, relInt⟩
theorem it_str {cs : List Nat} (ok : okS cs = true) : ItOk K μ0 H0 (Its ⟨cs.toArray⟩) (cs.map fun c => .str [c]) (fun _ => true) := by
  intro μ H s x r _
  refine ⟨fun j hj => ?_, by simp [Its]⟩
  rw [List.length_map] at hj
  refine ⟨by simpa [Its] using hj, fun y H' h => ?_⟩
  obtain ⟨rfl, c, e, rfl⟩ := h
  have e' : cs[j]? = some c := by simpa using e
  exact ⟨r, .refl _ _, .str [c], by rw [List.getElem?_map, e']; rfl, relStr (okS_sub (fun z hz => by rw [List.mem_singleton.mp hz]; exact List.mem_of_getElem? e') ok)⟩
/-- pairs of numbers and items -/
def enumD : Nat → List D → List D
  | _, [] => []
  | n, d :: ds => .tup [.int n, d] :: enumD (n + 1) ds
theorem enumD_len : ∀ (ds : List D) (n : Nat), (enumD n ds).length = ds.length
  | [], _ => rfl
  | d :: ds, n => by simp [enumD, enumD_len ds]
theorem enumD_get : ∀ (ds : List D) (n i : Nat) (d : D), ds[i]? = some d → (enumD n ds)[i]? = some (.tup [.int ((n + i : Nat) : Int), d])
  | [], _, _, _, h => by simp at h
  | e :: ds, n, 0, d, h => by simp at h; subst h; simp [enumD]
  | e :: ds, n, i + 1, d, h => by
    have := enumD_get ds (n + 1) i d (by simpa using h)
    simp only [enumD, List.getElem?_cons_succ, this]
    congr 4
    omega
theorem it_enum {a : Addr} {i : Nat} {ds : List D} (ha : μ0[i]? = some a) : ItOk K μ0 H0 (Ite K a) (enumD 0 ds) (fun s => decide (getL s i = some ds)) := by
  intro μ H s x r hl
  obtain ⟨a', us, e, ha', q, t⟩ := getL_ok (v := .ref a) r (relRef (pre_get x.pre ha)) (of_decide_eq_true hl)
  cases e
  refine ⟨fun j hj => ?_, us, q, by rw [t.length, enumD_len]; exact Nat.le_refl _⟩
  rw [enumD_len] at hj
  obtain ⟨v, e, rv⟩ := t.get (List.getElem?_eq_getElem hj)
  exact ⟨⟨us, v, q, e⟩, fun y H' h => by
    obtain ⟨T, z, rfl, hT, rfl, h⟩ := h
    have e2 := h us q
    rw [e] at e2; cases e2
    obtain ⟨r', x'⟩ := r.new (u := .tup [.int (j : Nat), v]) hT
    refine ⟨r', x', _, enumD_get ds 0 j _ (List.getElem?_eq_getElem hj), relTup (.of upd_same) ?_⟩
    rw [Nat.zero_add]
    exact relCons relInt (relCons (rv.mono x') relNil)⟩
end

section
variable {X : Cx} {G : Gc} {W : WX} {tg e : Expr} {f g : Env → S → Out D} {pos p : Pos}
/-- the items of a list, a tuple, a text -/
def srcOf (d : D) (s : S) : Out Src := match d with
  | .tup ds => .ok ⟨ds, none⟩ s
  | .str cs => .ok ⟨cs.map fun c => .str [c], none⟩ s
  | .ref i => match getL s i with
    | some ds => .ok ⟨ds, some i⟩ s
    | none => .bad
  | _ => .bad
theorem d1I {σ : L2.St} {H : Hp} {μ : List Addr} {ρ : Env} {s : S} {f : Env → S → Out D} {k : D → S → Out Src} {R : It → Hp → Prop} {Q1 : VK} (r : Rel X.K μ H s) (re : RelEnv X.K μ H ρ σ) (h : Fin X.K G μ H (fun c d H' => W c d σ H') ((f ρ s).bind k) (qI X.K R))
    (hk : ∀ d s1 μ1 H1 v, Ext μ H μ1 H1 → Rel X.K μ1 H1 s1 → RelEnv X.K μ1 H1 ρ σ → RelD X.K μ1 H1 d v → Fin X.K G μ1 H1 (fun c d H' => W c d σ H') (k d s1) (qI X.K R) → Q1 v H1) : tD X.K G W f σ H Q1 :=
  ⟨μ, ρ, s, r, re, h.bind.imp fun d s1 μ1 H1 x r1 h1 v rv => hk d s1 μ1 H1 v x r1 (re.mono x) rv h1⟩
theorem dAI {σ : L2.St} {H : Hp} {μ : List Addr} {ρ : Env} {s : S} {fs : Env → S → Out (List D)} {k : List D → S → Out Src} {R : It → Hp → Prop} {Q1 : List V → Hp → Prop} (r : Rel X.K μ H s) (re : RelEnv X.K μ H ρ σ) (h : Fin X.K G μ H (fun c d H' => W c d σ H') ((fs ρ s).bind k) (qI X.K R))
    (hk : ∀ d s1 μ1 H1 v, Ext μ H μ1 H1 → Rel X.K μ1 H1 s1 → RelEnv X.K μ1 H1 ρ σ → RelDs X.K μ1 H1 d v → Fin X.K G μ1 H1 (fun c d H' => W c d σ H') (k d s1) (qI X.K R) → Q1 v H1) : tA X.K G W fs σ H Q1 :=
  ⟨μ, ρ, s, r, re, h.bind.imp fun d s1 μ1 H1 x r1 h1 v rv => hk d s1 μ1 H1 v x r1 (re.mono x) rv h1⟩
/-- a list by what it is now: the reading is chosen when its value is known -/
inductive Kd where
  | l | t | s
theorem di_exp (he : DE X G W e f) : DI X G W tg e (fun ρ s => (f ρ s).bind srcOf) := by
  refine pi_imp (pi_or (pi_or (pi_list he) (pi_tup he)) (pi_str he)) fun σ H R hh => ?_
  obtain ⟨μ, ρ, s, r, re, h⟩ := hh
  have key : ∀ (d : D) (s1 : S), f ρ s = .ok d s1 → (∀ (Q : VK), (∀ μ1 H1 v, Ext μ H μ1 H1 → Rel X.K μ1 H1 s1 → RelD X.K μ1 H1 d v → Q v H1) → tD X.K G W f σ H Q) := fun d s1 e Q k =>
    ⟨μ, ρ, s, r, re, by rw [e]; exact fun μ1 H1 x1 r1 v rv => k μ1 H1 v x1 r1 rv⟩
  cases hf : f ρ s with
  | bad =>
    have h' : Fin X.K G μ H (fun c d H' => W c d σ H') ((f ρ s).bind srcOf) (qI X.K R) := h
    rw [hf] at h'; exact h'.elim
  | exc c s1 =>
    have h' : Fin X.K G μ H (fun c d H' => W c d σ H') ((f ρ s).bind srcOf) (qI X.K R) := h
    rw [hf] at h'
    exact .inl (.inl ⟨μ, ρ, s, r, re, by rw [hf]; exact h'⟩)
  | ok d s1 =>
    have h' : Fin X.K G μ H (fun c d H' => W c d σ H') ((f ρ s).bind srcOf) (qI X.K R) := h
    rw [hf] at h'
    have h2 : Fin X.K G μ H (fun c d H' => W c d σ H') (srcOf d s1) (qI X.K R) := h'
    cases d with
    | tup ds =>
      refine .inl (.inr (key _ _ hf _ fun μ1 H1 v x1 r1 rv => ?_))
      obtain ⟨a, vs, rfl, q, t⟩ := rv.tup_
      exact ⟨a, rfl, ⟨vs, q⟩, h2 μ1 H1 x1 r1 _ (it_tup q t)⟩
    | str cs =>
      refine .inr (key _ _ hf _ fun μ1 H1 v x1 r1 rv => ?_)
      exact ⟨_, rv.str_, h2 μ1 H1 x1 r1 _ (it_str rv.okS)⟩
    | ref i =>
      refine .inl (.inl (key _ _ hf _ fun μ1 H1 v x1 r1 rv => ?_))
      unfold srcOf at h2
      dsimp only at h2
      split at h2
      · rename_i ds hg
        obtain ⟨a, vs, rfl, ha, q, t⟩ := getL_ok r1 rv hg
        exact ⟨a, rfl, ⟨vs, q⟩, h2 μ1 H1 x1 r1 _ (it_list (vs := vs) ha)⟩
      · exact h2.elim
    | _ => exact h2.elim
def rngOk (i : Int) : Bool := decide (-(2 ^ 62) ≤ i) && decide (i < 2 ^ 62)
def src1 : List D → S → Out Src
  | [.int j], s => if rngOk j = true then .ok ⟨rangeD 0 j.toNat, none⟩ s else .bad
  | _, _ => .bad
def src2 : List D → S → Out Src
  | [.int i, .int j], s => if (rngOk i && rngOk j) = true then .ok ⟨rangeD i (j - i).toNat, none⟩ s else .bad
  | _, _ => .bad
theorem rngOk_ok {i : Int} (h : rngOk i = true) : -(2 ^ 62) ≤ i ∧ i < 2 ^ 62 := by
  unfold rngOk at h
  rw [Bool.and_eq_true] at h
  exact ⟨of_decide_eq_true h.1, of_decide_eq_true h.2⟩
theorem di_range1 {fs : Env → S → Out (List D)} (hg : Gl X "range") (hm : X.mg "range" = none) (hs : notStar e = true) (ha : DA X G W [e] fs) : DI X G W tg (.Call (.Name "range" p) [e] [] pos) (fun ρ s => (fs ρ s).bind src1) :=
  pi_imp (pi_range1 hg hm ha (star_ns hs)) fun σ H R ⟨μ, ρ, s, r, re, h⟩ => dAI r re h fun ds s1 μ1 H1 vs x1 r1 re1 rv h1 => by
    unfold src1 at h1
    split at h1
    · rename_i j
      split at h1
      · rename_i hj
        obtain ⟨v, rfl, q⟩ := rel1 rv
        obtain ⟨a, b⟩ := rngOk_ok hj
        exact ⟨j, by rw [q.int_], a, b, Fin.ok_ r1 h1 _ it_range⟩
      · exact h1.elim
    · exact h1.elim
theorem di_range2 {e2 : Expr} {fs : Env → S → Out (List D)} (hg : Gl X "range") (hm : X.mg "range" = none) (hs : notStar e = true) (hs2 : notStar e2 = true) (ha : DA X G W [e, e2] fs) : DI X G W tg (.Call (.Name "range" p) [e, e2] [] pos) (fun ρ s => (fs ρ s).bind src2) :=
  pi_imp (pi_range2 hg hm ha (by rw [star_ns hs, star_ns hs2]; rfl) (by rw [star_ns hs2]; rfl)) fun σ H R ⟨μ, ρ, s, r, re, h⟩ => dAI r re h fun ds s1 μ1 H1 vs x1 r1 re1 rv h1 => by
    unfold src2 at h1
    split at h1
    · rename_i i j
      split at h1
      · rename_i hj
        rw [Bool.and_eq_true] at hj
        obtain ⟨v, u, rfl, q, q2⟩ := rel2 rv
        obtain ⟨a, b⟩ := rngOk_ok hj.1
        obtain ⟨a', b'⟩ := rngOk_ok hj.2
        exact ⟨i, j, by rw [q.int_, q2.int_], ⟨a, b, a', b'⟩, Fin.ok_ r1 h1 _ it_range⟩
      · exact h1.elim
    · exact h1.elim

/-! ### for -/
def forW (live : S → Bool) (bind : D → Env → S → TOut) (body : Env → S → SOut) : List D → Env → S → SOut
  | [], ρ, s => if live s = true then .nx ρ s else .bad
  | d :: ds, ρ, s => if live s = true then (match bind d ρ s with
    | some (ρ1, s1) => match body ρ1 s1 with
      | .nx ρ2 s2 => forW live bind body ds ρ2 s2
      | .ct ρ2 s2 => forW live bind body ds ρ2 s2
      | .bk ρ2 s2 => .nx ρ2 s2
      | .rt d s2 => .rt d s2
      | .exc x ρ2 s2 => .exc x ρ2 s2
      | .bad => .bad
    | none => .bad) else .bad
theorem drop_cons {ds : List D} {i : Nat} (h : i < ds.length) : ds.drop i = ds[i] :: ds.drop (i + 1) := List.drop_eq_getElem_cons h
def notSet : Expr → Bool
  | .Set .. => false
  | _ => true
theorem folded_ok {env : PySem.Env} : ∀ {e : Expr}, notSet e = true → ∀ x, foldedSetIterable e env x = pure x
  | .Set .., h => by cases h
  | .ListComp .., _ => fun _ => rfl
  | .SetComp .., _ => fun _ => rfl
  | .DictComp .., _ => fun _ => rfl
  | .BoolOp .., _ => fun _ => rfl
  | .NamedExpr .., _ => fun _ => rfl
  | .BinOp .., _ => fun _ => rfl
  | .UnaryOp .., _ => fun _ => rfl
  | .Lambda .., _ => fun _ => rfl
  | .IfExp .., _ => fun _ => rfl
  | .Dict .., _ => fun _ => rfl
  | .GeneratorExp .., _ => fun _ => rfl
  | .Await .., _ => fun _ => rfl
  | .Yield .., _ => fun _ => rfl
  | .YieldFrom .., _ => fun _ => rfl
  | .Compare .., _ => fun _ => rfl
  | .Call .., _ => fun _ => rfl
  | .FormattedValue .., _ => fun _ => rfl
  | .JoinedStr .., _ => fun _ => rfl
  | .Constant .., _ => fun _ => rfl
  | .Attribute .., _ => fun _ => rfl
  | .Subscript .., _ => fun _ => rfl
  | .Starred .., _ => fun _ => rfl
  | .Name .., _ => fun _ => rfl
  | .List .., _ => fun _ => rfl
  | .Tuple .., _ => fun _ => rfl
  | .Slice .., _ => fun _ => rfl
/-- one turn's end -/
theorem SFin.turn {K : PySem.W.Frag} {μ : List Addr} {H : Hp} {D : Ends} {o : SOut} {g : Env → S → SOut} {N : L2.St → Hp → Prop} (hN : ∀ ρ s μ' H' σ', Ext μ H μ' H' → Rel K μ' H' s → RelEnv K μ' H' ρ σ' → SFin K G μ' H' W (g ρ s) D → N σ' H')
    (h : SFin K G μ H W (match o with | .nx ρ2 s2 => g ρ2 s2 | .ct ρ2 s2 => g ρ2 s2 | .bk ρ2 s2 => .nx ρ2 s2 | .rt d s2 => .rt d s2 | .exc x ρ2 s2 => .exc x ρ2 s2 | .bad => .bad) D) : SFin K G μ H W o { D with nx := N, ct := N, bk := D.nx } := by
  cases o with
  | nx ρ s => exact fun μ' H' σ' x r re => hN ρ s μ' H' σ' x r re (SFin.ext (o := g ρ s) x h)
  | ct ρ s => exact fun μ' H' σ' x r re => hN ρ s μ' H' σ' x r re (SFin.ext (o := g ρ s) x h)
  | bk ρ s => exact h
  | rt d s => exact h
  | exc x ρ s => exact h
  | bad => exact h
theorem ds_for {body : List Stmt} {fi : Env → S → Out Src} {bind : D → Env → S → TOut} {fb : Env → S → SOut} (hp : PassesOwn (model X.prog X.w) X.A X.env X.xe) (hc : X.calm = true) (hi : DI X G W tg e fi) (hg : DG X tg bind) (hb : DSs X G W body fb) (hs : notSet e = true) :
    DS X G W (.For tg e body [] pos) (fun ρ s => lift (fi ρ s) ρ fun c s => forW c.live bind fb c.ds ρ s) :=
  ps_imp (ps_for hp hc hi hg hb (folded_ok hs)) fun D σ H ⟨μ, ρ, s, r, re, h⟩ => ⟨μ, ρ, s, r, re, (h.lift re).imp fun c s0 μ0 H0 x0 r0 h0 J hJ => by
    refine ⟨fun i m σ H => m = c.ds.length - i ∧ i ≤ c.ds.length ∧ ∃ μ ρ s, Ext μ0 H0 μ H ∧ Rel X.K μ H s ∧ RelEnv X.K μ H ρ σ ∧ SFin X.K G μ H W (forW c.live bind fb (c.ds.drop i) ρ s) D,
      ⟨c.ds.length, by simp, Nat.zero_le _, μ0, ρ, s0, .refl _ _, r0, re.mono x0, by simpa using h0⟩, ?_⟩
    rintro i m σ H ⟨rfl, hi, μ, ρ, s, x, r, re, h⟩
    by_cases hlt : i < c.ds.length
    · rw [drop_cons hlt] at h
      unfold forW at h
      split at h
      · rename_i hl
        obtain ⟨h1, h2⟩ := hJ μ H s x r hl
        obtain ⟨g1, g2⟩ := h1 i hlt
        refine .inr ⟨g1, fun σ' H' => i + 1 ≤ c.ds.length ∧ ∃ μ ρ s, Ext μ0 H0 μ H' ∧ Rel X.K μ H' s ∧ RelEnv X.K μ H' ρ σ' ∧ SFin X.K G μ H' W (forW c.live bind fb (c.ds.drop (i + 1)) ρ s) D, fun σ' H' ⟨a, b⟩ => ⟨_, by omega, rfl, a, b⟩, fun y H' hy => ?_⟩
        obtain ⟨r', x', d, hd, rv⟩ := g2 y H' hy
        rw [List.getElem?_eq_getElem hlt] at hd
        cases hd
        refine ⟨μ, ρ, s, _, r', re.mono x', rv, ?_⟩
        cases hbd : bind c.ds[i] ρ s with
        | none => rw [hbd] at h; exact h.elim
        | some p =>
          obtain ⟨ρ1, s1⟩ := p
          rw [hbd] at h
          intro μ2 H2 σ2 x2 r2 re2
          refine ⟨μ2, ρ1, s1, r2, re2, ?_⟩
          have h3 := SFin.ext (x'.trans x2) h
          exact SFin.turn (fun ρ3 s3 μ3 H3 σ3 x3 r3 re3 h4 => ⟨hlt, μ3, ρ3, s3, ((x.trans x').trans x2).trans x3, r3, re3, h4⟩) h3
      · exact h.elim
    · have e : i = c.ds.length := by omega
      subst e
      rw [List.drop_length] at h
      unfold forW at h
      split at h
      · rename_i hl
        obtain ⟨h1, h2⟩ := hJ μ H s x r hl
        exact .inl ⟨h2, h μ H σ (.refl _ _) r re⟩
      · exact h.elim⟩

/-! ### while -/
def whW (c : Env → S → Out Bool) (body : Env → S → SOut) : Nat → Env → S → SOut
  | 0, _, _ => .bad
  | n + 1, ρ, s => lift (c ρ s) ρ fun k s => if k = true then (match body ρ s with
      | .nx ρ2 s2 => whW c body n ρ2 s2
      | .ct ρ2 s2 => whW c body n ρ2 s2
      | .bk ρ2 s2 => .nx ρ2 s2
      | .rt d s2 => .rt d s2
      | .exc x ρ2 s2 => .exc x ρ2 s2
      | .bad => .bad) else .nx ρ s
theorem ds_while {n : Nat} {c : Expr} {body : List Stmt} {fc : Env → S → Out Bool} {fb : Env → S → SOut} (hp : PassesOwn (model X.prog X.w) X.A X.env X.xe) (hc : DT X G W c fc) (hb : DSs X G W body fb) : DS X G W (.While c body [] pos) (fun ρ s => whW fc fb n ρ s) :=
  ps_imp (ps_while hp hc hb) fun D σ H ⟨μ, ρ, s, r, re, h⟩ => by
    refine ⟨fun m σ H => ∃ μ ρ s, Rel X.K μ H s ∧ RelEnv X.K μ H ρ σ ∧ SFin X.K G μ H W (whW fc fb m ρ s) D, ⟨n, μ, ρ, s, r, re, h⟩, ?_⟩
    rintro m σ H ⟨μ, ρ, s, r, re, h⟩
    cases m with
    | zero => exact h.elim
    | succ m =>
      unfold whW at h
      refine ⟨μ, ρ, s, r, re, (h.lift re).imp fun k s1 μ1 H1 x1 r1 h1 => ?_⟩
      cases k with
      | false => exact h1 μ1 H1 σ (.refl _ _) r1 (re.mono x1)
      | true =>
        refine ⟨fun σ' H' => ∃ μ ρ s, Rel X.K μ H' s ∧ RelEnv X.K μ H' ρ σ' ∧ SFin X.K G μ H' W (whW fc fb m ρ s) D, fun σ' H' q => ⟨m, Nat.lt_succ_self _, q⟩, μ1, ρ, s1, r1, re.mono x1, ?_⟩
        exact SFin.turn (fun ρ3 s3 μ3 H3 σ3 x3 r3 re3 h4 => ⟨μ3, ρ3, s3, r3, re3, h4⟩) h1
end
end Fe

set_option maxHeartbeats 2000000
/-! Fe 9: comprehensions, stores to places. -/
namespace Fe
open PySem PySem.Spec PyProof.Rows L2

/-! ### names that are a block's own -/
def wipeE (ρ : Env) : List Nat → Env
  | [] => ρ
  | v :: vs => (wipeE ρ vs).set v none
theorem wipe_get {σ : L2.St} {j : Nat} : ∀ {vs : List Nat}, (wipe σ vs)[j]? = if j ∈ vs then (if j < σ.length then some none else none) else σ[j]?
  | [] => by simp [wipe]
  | v :: vs => by
    unfold wipe
    by_cases hj : v = j
    · subst hj
      rw [if_pos List.mem_cons_self]
      by_cases hl : v < σ.length
      · rw [if_pos hl, List.getElem?_set_self (by rw [wipe_length]; exact hl)]
      · rw [if_neg hl, List.getElem?_eq_none (by rw [List.length_set, wipe_length]; omega)]
    · rw [List.getElem?_set_ne hj, wipe_get]
      by_cases hm : j ∈ vs
      · rw [if_pos hm, if_pos (List.mem_cons_of_mem _ hm)]
      · rw [if_neg hm, if_neg (by intro h; rcases List.mem_cons.mp h with e | e; exact hj e.symm; exact hm e)]
theorem wipe_set {σ : L2.St} {i : Nat} {o : Option V} {vs : List Nat} (h : i ∈ vs) : wipe (σ.set i o) vs = wipe σ vs := by
  apply List.ext_getElem?
  intro j
  rw [wipe_get, wipe_get, List.length_set]
  by_cases hm : j ∈ vs
  · rw [if_pos hm, if_pos hm]
  · rw [if_neg hm, if_neg hm, List.getElem?_set_ne (fun e => hm (by rw [← e]; exact h))]
theorem wipe_idem {σ : L2.St} {vs : List Nat} : wipe (wipe σ vs) vs = wipe σ vs := by
  apply List.ext_getElem?
  intro j
  rw [wipe_get, wipe_length, wipe_get]
  by_cases hm : j ∈ vs
  · rw [if_pos hm, if_pos hm]
  · rw [if_neg hm, if_neg hm]
theorem wipeE_length (ρ : Env) : ∀ vs : List Nat, (wipeE ρ vs).length = ρ.length
  | [] => rfl
  | v :: vs => by unfold wipeE; rw [List.length_set, wipeE_length ρ vs]
theorem wipeE_some {ρ : Env} {i : Nat} {x : D} : ∀ {vs : List Nat}, (wipeE ρ vs)[i]? = some (some x) → ρ[i]? = some (some x) ∧ i ∉ vs
  | [], h => ⟨h, by simp⟩
  | v :: vs, h => by
    unfold wipeE at h
    by_cases hi : v = i
    · subst hi
      by_cases hv : v < (wipeE ρ vs).length
      · rw [List.getElem?_set_self hv] at h; cases h
      · rw [List.getElem?_eq_none (by simpa using hv)] at h; cases h
    · rw [List.getElem?_set_ne hi] at h
      obtain ⟨h1, h2⟩ := wipeE_some h
      exact ⟨h1, by simp only [List.mem_cons, not_or]; exact ⟨fun e => hi e.symm, h2⟩⟩
theorem RelEnv.wipe {K : PySem.W.Frag} {μ : List Addr} {H : Hp} {ρ : Env} {σ : L2.St} {vs : List Nat} (h : RelEnv K μ H ρ σ) : RelEnv K μ H (wipeE ρ vs) (L2.wipe σ vs) := by
  refine ⟨by rw [wipeE_length, wipe_length]; exact h.1, fun i d e => ?_⟩
  obtain ⟨e1, e2⟩ := wipeE_some e
  obtain ⟨v, a, r⟩ := h.2 i d e1
  exact ⟨v, by rw [wipe_get, if_neg e2]; exact a, r⟩

/-! ### targets that store own names alone -/
def TFinW (K : PySem.W.Frag) (own : List Nat) (σ : L2.St) (μ : List Addr) (H : Hp) (o : TOut) (Q : L2.St → Hp → Prop) : Prop := match o with
  | some (ρ, s) => ∀ μ' H' σ', Ext μ H μ' H' → Rel K μ' H' s → RelEnv K μ' H' ρ σ' → wipe σ' own = wipe σ own → Q σ' H'
  | none => False
def tTw (K : PySem.W.Frag) (own : List Nat) (g : D → Env → S → TOut) : TG := fun v σ H Q => ∃ μ ρ s d, Rel K μ H s ∧ RelEnv K μ H ρ σ ∧ RelD K μ H d v ∧ TFinW K own σ μ H (g d ρ s) Q
def tTws (K : PySem.W.Frag) (own : List Nat) (g : List D → Env → S → TOut) : TGs := fun v σ H Q => ∃ μ ρ s d, Rel K μ H s ∧ RelEnv K μ H ρ σ ∧ RelDs K μ H d v ∧ TFinW K own σ μ H (g d ρ s) Q
abbrev DGw (X : Cx) (own : List Nat) (e : Expr) (g : D → Env → S → TOut) : Prop := PG X e (tTw X.K own g)
abbrev DGws (X : Cx) (own : List Nat) (e : List Expr) (g : List D → Env → S → TOut) : Prop := PGs X e (tTws X.K own g)
theorem TFinW.ext {K : PySem.W.Frag} {own : List Nat} {σ σ' : L2.St} {μ μ' : List Addr} {H H' : Hp} {o : TOut} {Q : L2.St → Hp → Prop} (x : Ext μ H μ' H') (hw : wipe σ' own = wipe σ own) (h : TFinW K own σ μ H o Q) : TFinW K own σ' μ' H' o Q := by
  cases o with
  | some p => exact fun μ2 H2 σ2 y r re w => h μ2 H2 σ2 (x.trans y) r re (w.trans hw)
  | none => exact h
section
variable {X : Cx} {G : Gc} {W : WX} {own : List Nat} {pos : Pos}
theorem dgw_name {i : Nat} {x : Str} (hN : X.N.Nodup) (hi : X.N[i]? = some x) (hx : Loc X.env.scope x) (hf : X.fn x = true ∨ X.env.scope.names.lookup x = some .local) (ho : i ∈ own) : DGw X own (.Name x pos) (fun d ρ s => some (ρ.set i (some d), s)) :=
  pg_imp (pg_name hN hi hx hf) fun v σ H Q ⟨μ, ρ, s, d, r, re, rv, h⟩ => h μ H _ (.refl _ _) r (re.set rv) (wipe_set ho)
theorem dgws_nil : DGws X own [] (fun ds ρ s => match ds with | [] => some (ρ, s) | _ :: _ => none) :=
  pgs_imp pgs_nil fun v σ H Q ⟨μ, ρ, s, d, r, re, rv, h⟩ => by
    cases d with
    | nil => exact ⟨rv.nil_, h μ H σ (.refl _ _) r re rfl⟩
    | cons => exact h.elim
theorem dgws_cons {e : Expr} {es : List Expr} {g : D → Env → S → TOut} {gs : List D → Env → S → TOut} (hs : notStar e = true) (h1 : DGw X own e g) (h2 : DGws X own es gs) : DGws X own (e :: es) (consT g gs) :=
  pgs_imp (pgs_cons h1 h2 (by rw [asg_ns hs]; rfl)) fun v σ H Q ⟨μ, ρ, s, ds, r, re, rv, h⟩ => by
    cases ds with
    | nil => exact h.elim
    | cons d ds =>
      obtain ⟨u, us, rfl, r1, t⟩ := rv.cons_
      refine ⟨u, us, rfl, μ, ρ, s, d, r, re, r1, ?_⟩
      dsimp only [consT] at h
      cases e : g d ρ s with
      | none => rw [e] at h; exact h
      | some p =>
        obtain ⟨ρ1, s1⟩ := p
        rw [e] at h
        exact fun μ' H' σ' x r' re' w => ⟨μ', ρ1, s1, ds, r', re', t.mono x, TFinW.ext x w h⟩
theorem dgw_tup {es : List Expr} {k : Nat} {gs : List D → Env → S → TOut} (hc : X.calm = true) (hs : es.all notStar = true) (h : DGws X own es gs) : DGw X own (.Tuple es k pos) (unpackT es.length gs) := by
  obtain ⟨a, b⟩ := asg_len (env := X.env) hs
  refine pg_imp (pg_or (pg_tup hc h a b) (pg_lst hc h a b)) fun v σ H Q ⟨μ, ρ, s, d, r, re, rv, hh⟩ => ?_
  unfold unpackT at hh
  split at hh
  · rename_i ds e
    split at hh
    · rename_i hl
      obtain ⟨p, vs, rfl, q, t⟩ := items_ok r rv e
      rcases q with q | q
      · exact .inr ⟨p, vs, rfl, q, by rw [t.length]; exact hl, μ, ρ, s, ds, r, re, t, hh⟩
      · exact .inl ⟨p, vs, rfl, q, by rw [t.length]; exact hl, μ, ρ, s, ds, r, re, t, hh⟩
    · exact hh.elim
  · exact hh.elim

/-! ### [e for t in xs if c] -/
def pushAt (j : Nat) (d : D) (s : S) : Option S := match s[j]? with
  | some (.lst ds) => if ds.length < line then some (s.set j (.lst (ds ++ [d]))) else none
  | _ => none
def lcW (live : S → Bool) (bind : D → Env → S → TOut) (t : Env → S → Out Bool) (e : Env → S → Out D) (ρ : Env) (j : Nat) : List D → S → Out Unit
  | [], s => if live s = true then .ok () s else .bad
  | d :: ds, s => if live s = true then (match bind d ρ s with
    | some (ρ1, s1) => match t ρ1 s1 with
      | .ok true s2 => match e ρ1 s2 with
        | .ok y s3 => match pushAt j y s3 with
          | some s4 => lcW live bind t e ρ j ds s4
          | none => .bad
        | _ => .bad
      | .ok false s2 => lcW live bind t e ρ j ds s2
      | _ => .bad
    | none => .bad) else .bad
def noX : WX := fun _ _ _ _ => False
theorem push_ok {K : PySem.W.Frag} {μ : List Addr} {H : Hp} {s s' : S} {j : Nat} {d : D} {v : V} {L : Addr} (r : Rel K μ H s) (ha : μ[j]? = some L) (rv : RelD K μ H d v) (e : pushAt j d s = some s') :
    ∃ acc, H L = some (.lst acc) ∧ acc.length < sizeLine ∧ Rel K μ (upd H L (.lst (acc ++ [v]))) s' ∧ Ext μ H μ (upd H L (.lst (acc ++ [v]))) := by
  unfold pushAt at e
  split at e
  · rename_i ds hs
    split at e
    · rename_i hl
      cases e
      obtain ⟨vs, q, t⟩ := r.obj j L _ ha hs
      obtain ⟨r', x⟩ := r.put (u := .lst (vs ++ [v])) (o := .lst (ds ++ [d])) ha (.lst q) fun x => ⟨_, upd_same, (t.mono x).append (relCons (rv.mono x) relNil)⟩
      exact ⟨vs, q, by rw [t.length, ← line_eq]; exact hl, r', x⟩
    · cases e
  · cases e
theorem fin_noX {α : Type} {K : PySem.W.Frag} {μ : List Addr} {H : Hp} {W : XK} {o : Out α} {q : α → S → List Addr → Hp → Prop} (h : match o with | .ok a s => ∀ μ' H', Ext μ H μ' H' → Rel K μ' H' s → q a s μ' H' | _ => False) : Fin K G μ H W o q := by
  cases o with
  | ok a s => exact h
  | exc c s => exact h.elim
  | bad => exact h
/-- the turns, from a list at L -/
theorem lc_turns {J : It} {c : Src} {μ0 : List Addr} {H0 : Hp} {σ : L2.St} {ρ : Env} {own : List Nat} {L : Addr} {j : Nat} {bind : D → Env → S → TOut} {ft : Env → S → Out Bool} {fe : Env → S → Out D} {Q : Hp → Prop} {μ1 : List Addr} {H1 : Hp} {s1 : S} {W0 : XK}
    {K : PySem.W.Frag} {Wb : WX} (hJ : ItOk K μ0 H0 J c.ds c.live) (hL : μ1[j]? = some L) (x1 : Ext μ0 H0 μ1 H1) (r1 : Rel K μ1 H1 s1) (re : RelEnv K μ0 H0 (wipeE ρ own) (wipe σ own))
    (h : match lcW c.live bind ft fe (wipeE ρ own) j c.ds s1 with | .ok _ s => ∀ μ' H', Ext μ1 H1 μ' H' → Rel K μ' H' s → Q H' | _ => False) :
    ∃ W : Nat → Nat → Hp → Prop, (∃ m, W 0 m H1) ∧ ∀ i m H, W i m H → (J.stop i H ∧ Q H) ∨ (J.go i H ∧ ∃ Nx : Hp → Prop, (∀ H', Nx H' → ∃ m', m' < m ∧ W (i + 1) m' H') ∧ ∀ x H', J.yld i H x H' → tTw K own bind x (wipe σ own) H' fun σ2 H2 => wipe σ2 own = wipe σ own ∧
      tB' K G Wb ft σ2 H2 fun b H3 => if b = true then tD K G Wb fe σ2 H3 fun y H4 => ∃ acc, H4 L = some (.lst acc) ∧ acc.length < sizeLine ∧ Nx (upd H4 L (.lst (acc ++ [y]))) else Nx H3) := by
  refine ⟨fun i m H => m = c.ds.length - i ∧ i ≤ c.ds.length ∧ ∃ μ s, Ext μ1 H1 μ H ∧ Rel K μ H s ∧ (match lcW c.live bind ft fe (wipeE ρ own) j (c.ds.drop i) s with | .ok _ s => ∀ μ' H', Ext μ H μ' H' → Rel K μ' H' s → Q H' | _ => False),
    ⟨c.ds.length, by simp, Nat.zero_le _, μ1, s1, .refl _ _, r1, by simpa using h⟩, ?_⟩
  rintro i m H ⟨rfl, hi, μ, s, x, r, h⟩
  by_cases hlt : i < c.ds.length
  · rw [drop_cons hlt] at h
    unfold lcW at h
    by_cases hl : c.live s = true
    · rw [if_pos hl] at h
      obtain ⟨h1, h2⟩ := hJ μ H s (x1.trans x) r hl
      obtain ⟨g1, g2⟩ := h1 i hlt
      refine .inr ⟨g1, fun H' => i + 1 ≤ c.ds.length ∧ ∃ μ s, Ext μ1 H1 μ H' ∧ Rel K μ H' s ∧ (match lcW c.live bind ft fe (wipeE ρ own) j (c.ds.drop (i + 1)) s with | .ok _ s => ∀ μ2 H2, Ext μ H' μ2 H2 → Rel K μ2 H2 s → Q H2 | _ => False), fun H' ⟨a, b⟩ => ⟨_, by omega, rfl, a, b⟩, fun y H' hy => ?_⟩
      obtain ⟨r', x', d, hd, rv⟩ := g2 y H' hy
      rw [List.getElem?_eq_getElem hlt] at hd
      cases hd
      refine ⟨μ, wipeE ρ own, s, _, r', (re.mono ((x1.trans x).trans x')), rv, ?_⟩
      cases hbd : bind c.ds[i] (wipeE ρ own) s with
      | none => rw [hbd] at h; exact h.elim
      | some p =>
        obtain ⟨ρ2, s2⟩ := p
        rw [hbd] at h
        intro μ2 H2 σ2 x2 r2 re2 hw
        have hw' : wipe σ2 own = wipe σ own := by rw [hw, wipe_idem]
        refine ⟨hw', μ2, ρ2, s2, r2, re2, fin_noX ?_⟩
        cases ht : ft ρ2 s2 with
        | bad => dsimp only at h; rw [ht] at h; exact h.elim
        | exc c s => dsimp only at h; rw [ht] at h; exact h.elim
        | ok k s3 =>
          dsimp only at h
          rw [ht] at h
          intro μ3 H3 x3 r3
          have X3 : Ext μ H μ3 H3 := (x'.trans x2).trans x3
          cases k with
          | false =>
            refine ⟨hlt, μ3, s3, x.trans X3, r3, ?_⟩
            dsimp only at h
            cases hr : lcW c.live bind ft fe (wipeE ρ own) j (c.ds.drop (i + 1)) s3 with
            | ok a s4 => rw [hr] at h; exact fun μ4 H4 x4 r4 => h μ4 H4 (X3.trans x4) r4
            | exc c s4 => rw [hr] at h; exact h
            | bad => rw [hr] at h; exact h
          | true =>
            refine ⟨μ3, ρ2, s3, r3, re2.mono x3, fin_noX ?_⟩
            dsimp only at h
            cases hfe : fe ρ2 s3 with
            | bad => rw [hfe] at h; exact h.elim
            | exc c s => rw [hfe] at h; exact h.elim
            | ok z s4 =>
              rw [hfe] at h
              intro μ4 H4 x4 r4 v rv4
              dsimp only at h
              cases hp : pushAt j z s4 with
              | none => rw [hp] at h; exact h.elim
              | some s5 =>
                rw [hp] at h
                obtain ⟨acc, e1, e2, r5, x5⟩ := push_ok r4 (pre_get ((x.trans X3).trans x4).pre hL) rv4 hp
                have X5 := (X3.trans x4).trans x5
                refine ⟨acc, e1, e2, hlt, μ4, s5, x.trans X5, r5, ?_⟩
                dsimp only at h
                cases hr : lcW c.live bind ft fe (wipeE ρ own) j (c.ds.drop (i + 1)) s5 with
                | ok a s6 => rw [hr] at h; exact fun μ6 H6 x6 r6 => h μ6 H6 (X5.trans x6) r6
                | exc c s6 => rw [hr] at h; exact h
                | bad => rw [hr] at h; exact h
    · rw [if_neg hl] at h
      exact h.elim
  · have e : i = c.ds.length := by omega
    subst e
    rw [List.drop_length] at h
    unfold lcW at h
    by_cases hl : c.live s = true
    · rw [if_pos hl] at h
      obtain ⟨h1, h2⟩ := hJ μ H s (x1.trans x) r hl
      exact .inl ⟨h2, h μ H (.refl _ _) r⟩
    · rw [if_neg hl] at h
      exact h.elim
/-- the list that a comprehension makes -/
def lcV (fi : Env → S → Out Src) (bind : D → Env → S → TOut) (ft : Env → S → Out Bool) (fe : Env → S → Out D) (own : List Nat) (ρ : Env) (s : S) : Out D :=
  (fi ρ s).bind fun c s => match lcW c.live bind ft fe (wipeE ρ own) s.length c.ds (s ++ [.lst []]) with
    | .ok _ s' => .ok (.ref s.length) s'
    | _ => .bad
theorem lc_red {σ : L2.St} {H : Hp} {Q : VK} {fi : Env → S → Out Src} {bind : D → Env → S → TOut} {ft : Env → S → Out Bool} {fe : Env → S → Out D} {ow : List Nat} {Wb : WX} (hh : tD X.K G W (lcV fi bind ft fe ow) σ H Q) :
    tLc (tI X.K G W fi) (tTw X.K ow bind) (tB' X.K G Wb ft) (tD X.K G Wb fe) ow σ H Q := by
  obtain ⟨μ, ρ, s, r, re, h⟩ := hh
  unfold lcV at h
  refine ⟨μ, ρ, s, r, re, h.bind.imp fun c s0 μ0 H0 x0 r0 h0 J hJ L hL => ?_⟩
  obtain ⟨r1, x1, e1⟩ := r0.push (u := .lst []) (o := .lst []) hL fun _ => ⟨[], upd_same, relNil⟩
  refine lc_turns (ρ := ρ) (own := ow) (W0 := fun _ _ _ => False) hJ e1 x1 r1 (re.mono x0).wipe ?_
  split at h0
  · rename_i a s' e
    exact fun μ' H' x' r' => h0 μ' H' (x1.trans x') r' _ (relRef (pre_get x'.pre e1))
  · exact h0.elim
theorem de_lc {elt tg iter : Expr} {ifs : List Expr} {scope : Scope} {ow : List (Str × Nat)} {fi : Env → S → Out Src} {bind : D → Env → S → TOut} {ft : Env → S → Out Bool} {fe : Env → S → Out D} (hc : X.calm = true) (hN : X.N.Nodup) (hi : DI X G W tg iter fi) (ok : BlkOk X.N X.env.scope scope ow)
    (hg : ∀ (s : Shared) (H : Hp) (C : Addr) (cl : List (Str × Addr)) (fp : List Addr), DGw (X.blk s H scope (compEnvC scope cl C X.env) fp) (ow.map (·.2)) tg bind)
    (ht : ∀ (s : Shared) (H : Hp) (C : Addr) (cl : List (Str × Addr)) (fp : List Addr), PTs (X.blk s H scope (compEnvC scope cl C X.env) fp) ifs (tB' X.K G noX ft))
    (he : ∀ (s : Shared) (H : Hp) (C : Addr) (cl : List (Str × Addr)) (fp : List Addr), DE (X.blk s H scope (compEnvC scope cl C X.env) fp) G noX elt fe) (hs : notSet iter = true) :
    DE X G W (.ListComp elt [⟨tg, iter, ifs, 0⟩] scope pos) (lcV fi bind ft fe (ow.map (·.2))) :=
  pe_imp (pe_lc hc hN hi ok hg ht he (folded_ok hs)) fun σ H Q hh => lc_red hh
/-- x = [..], the name a local on the same line -/
theorem ds_setLc {i : Nat} {y : Str} {py spos : Pos} {elt tg iter : Expr} {ifs : List Expr} {scope : Scope} {ow : List (Str × Nat)} {fi : Env → S → Out Src} {bind : D → Env → S → TOut} {ft : Env → S → Out Bool} {fe : Env → S → Out D} (hc : X.calm = true) (hN : X.N.Nodup) (hy : X.N[i]? = some y) (hyl : X.env.scope.names.lookup y = some .local)
    (hsw : swapsWith (.ListComp elt [⟨tg, iter, ifs, 0⟩] scope pos) (some (.Name y py)) spos.line X.env = pure true) (hi : DI X G W tg iter fi) (ok : BlkOk X.N X.env.scope scope ow)
    (hg : ∀ (s : Shared) (H : Hp) (C : Addr) (cl : List (Str × Addr)) (fp : List Addr), DGw (X.blk s H scope (compEnvC scope cl C X.env) fp) (ow.map (·.2)) tg bind)
    (ht : ∀ (s : Shared) (H : Hp) (C : Addr) (cl : List (Str × Addr)) (fp : List Addr), PTs (X.blk s H scope (compEnvC scope cl C X.env) fp) ifs (tB' X.K G noX ft))
    (he : ∀ (s : Shared) (H : Hp) (C : Addr) (cl : List (Str × Addr)) (fp : List Addr), DE (X.blk s H scope (compEnvC scope cl C X.env) fp) G noX elt fe) (hs : notSet iter = true) :
    DS X G W (.Assign [.Name y py] (.ListComp elt [⟨tg, iter, ifs, 0⟩] scope pos) spos) (fun ρ s => lift (lcV fi bind ft fe (ow.map (·.2)) ρ s) ρ fun d s => .nx (ρ.set i (some d)) s) :=
  ps_imp (ps_setLc hc hN hy hyl hsw hi ok hg ht he (folded_ok hs)) fun D σ H hh => lc_red (by
    obtain ⟨μ, ρ, s, r, re, h⟩ := hh
    exact dS1 (e := elt) r re h fun d s1 μ1 H1 v x1 r1 re1 rv h1 => h1 μ1 H1 _ (.refl _ _) r1 (re1.set rv))
/-- no condition -/
theorem dts_nil : PTs X [] (tB' X.K G W fun _ s => .ok true s) := ⟨fun pins s σ H Q I ⟨μ, ρ, st, r, re, h⟩ => pts_nil.run pins s σ H Q I (h.ok_ r)⟩
theorem dts_one {c : Expr} {f : Env → S → Out Bool} (h : DT X G W c f) : PTs X [c] (tB' X.K G W f) := pts_one h

/-! ### xs[i] = e -/
def okO {α β : Type} (o : Out α) (k : α → S → Option β) : Option β := match o with
  | .ok a s => k a s
  | _ => none
def setIx (o i v : D) (s : S) : Option S := match o, i with
  | .ref r, .int j => match s[r]? with
    | some (.lst ds) => match ixN ds.length j with
      | some k => some (s.set r (.lst (ds.set k v)))
      | none => none
    | _ => none
  | _, _ => none
theorem asg_sub {o : Expr} {env : PySem.Env} {v : Value} : ∀ {i : Expr}, notSlice i = true → assign (.Subscript o i pos) env v = (do
      let ov ← holding [v] (eval o env)
      let iv ← holding [v, ov] (eval i env)
      standAt pos
      holding [v, ov, iv] (setItem ov iv v)
      release [v, ov, iv] [])
  | .Slice .., h => by cases h
  | .BoolOp .., _ => rfl
  | .NamedExpr .., _ => rfl
  | .BinOp .., _ => rfl
  | .UnaryOp .., _ => rfl
  | .Lambda .., _ => rfl
  | .IfExp .., _ => rfl
  | .Dict .., _ => rfl
  | .Set .., _ => rfl
  | .ListComp .., _ => rfl
  | .SetComp .., _ => rfl
  | .DictComp .., _ => rfl
  | .GeneratorExp .., _ => rfl
  | .Await .., _ => rfl
  | .Yield .., _ => rfl
  | .YieldFrom .., _ => rfl
  | .Compare .., _ => rfl
  | .Call .., _ => rfl
  | .FormattedValue .., _ => rfl
  | .JoinedStr .., _ => rfl
  | .Constant .., _ => rfl
  | .Attribute .., _ => rfl
  | .Subscript .., _ => rfl
  | .Starred .., _ => rfl
  | .Name .., _ => rfl
  | .List .., _ => rfl
  | .Tuple .., _ => rfl
theorem dg_sub {o i : Expr} {f g : Env → S → Out D} (ho : DE X G W o f) (hi : DE X G W i g) (hs : notSlice i = true) : DG X (.Subscript o i pos) (fun d ρ s => okO (f ρ s) fun x s => okO (g ρ s) fun y s => match setIx x y d s with | some s => some (ρ, s) | none => none) :=
  pg_imp (pg_sub ho hi set_list (fun v => asg_sub hs)) fun v σ H Q ⟨μ, ρ, s, d, r, re, rv, h⟩ => by
    dsimp only at h
    cases e1 : f ρ s with
    | bad => rw [e1] at h; exact h.elim
    | exc _ _ => rw [e1] at h; exact h.elim
    | ok x s1 =>
      rw [e1] at h
      refine ⟨μ, ρ, s, r, re, ?_⟩
      rw [e1]
      intro μ1 H1 x1 r1 v1 rv1
      refine ⟨μ1, ρ, s1, r1, re.mono x1, ?_⟩
      dsimp only [okO] at h
      cases e2 : g ρ s1 with
      | bad => rw [e2] at h; exact h.elim
      | exc _ _ => rw [e2] at h; exact h.elim
      | ok y s2 =>
        rw [e2] at h
        intro μ2 H2 x2 r2 v2 rv2
        dsimp only at h
        cases e3 : setIx x y d s2 with
        | none => rw [e3] at h; exact h.elim
        | some s3 =>
          rw [e3] at h
          unfold setIx at e3
          split at e3
          · rename_i ri j
            split at e3
            · rename_i ds hs
              split at e3
              · rename_i k hk
                cases e3
                obtain ⟨a, us, rfl, ha, q, t⟩ := lst_ok r2 (rv1.mono x2) hs
                obtain ⟨r3, x3⟩ := r2.put (u := .lst (us.set k v)) (o := .lst (ds.set k d)) ha (.lst q) fun x => ⟨_, upd_same, RelDs.set k (((rv.mono x1).mono x2).mono x) (t.mono x)⟩
                exact ⟨a, us, j, k, rfl, rv2.int_, q, by rw [t.length]; exact hk, h μ2 _ σ ((x1.trans x2).trans x3) r3 (re.mono ((x1.trans x2).trans x3))⟩
              · cases e3
            · cases e3
          · cases e3
end
end Fe

set_option maxHeartbeats 2000000
/-! Fe A: comprehensions of two clauses, dict displays. -/
namespace Fe
open PySem PySem.Spec PyProof.Rows L2

def lcW2 (live : S → Bool) (bind : D → Env → S → TOut) (t : Env → S → Out Bool) (fi : Env → S → Out Src) (bind1 : D → Env → S → TOut) (t1 : Env → S → Out Bool) (e : Env → S → Out D) (vs1 : List Nat) (ρ : Env) (j : Nat) : List D → S → Out Unit
  | [], s => if live s = true then .ok () s else .bad
  | d :: ds, s => if live s = true then (match bind d ρ s with
    | some (ρ1, s1) => match t ρ1 s1 with
      | .ok true s2 => match fi ρ1 s2 with
        | .ok c s3 => match lcW c.live bind1 t1 e (wipeE ρ1 vs1) j c.ds s3 with
          | .ok _ s4 => lcW2 live bind t fi bind1 t1 e vs1 ρ j ds s4
          | _ => .bad
        | _ => .bad
      | .ok false s2 => lcW2 live bind t fi bind1 t1 e vs1 ρ j ds s2
      | _ => .bad
    | none => .bad) else .bad
section
variable {X : Cx} {G : Gc} {W : WX} {own vs1 : List Nat} {pos : Pos}
theorem lc2_turns {J : It} {c : Src} {μ0 : List Addr} {H0 : Hp} {σ : L2.St} {ρ : Env} {own vs1 : List Nat} {L : Addr} {j : Nat} {bind bind1 : D → Env → S → TOut} {ft ft1 : Env → S → Out Bool} {fi : Env → S → Out Src} {fe : Env → S → Out D} {Q : Hp → Prop} {μ1 : List Addr} {H1 : Hp} {s1 : S}
    {K : PySem.W.Frag} {Wb : WX} (hJ : ItOk K μ0 H0 J c.ds c.live) (hL : μ1[j]? = some L) (x1 : Ext μ0 H0 μ1 H1) (r1 : Rel K μ1 H1 s1) (re : RelEnv K μ0 H0 (wipeE ρ own) (wipe σ own))
    (h : match lcW2 c.live bind ft fi bind1 ft1 fe vs1 (wipeE ρ own) j c.ds s1 with | .ok _ s => ∀ μ' H', Ext μ1 H1 μ' H' → Rel K μ' H' s → Q H' | _ => False) :
    ∃ W : Nat → Nat → Hp → Prop, (∃ m, W 0 m H1) ∧ ∀ i m H, W i m H → (J.stop i H ∧ Q H) ∨ (J.go i H ∧ ∃ Nx : Hp → Prop, (∀ H', Nx H' → ∃ m', m' < m ∧ W (i + 1) m' H') ∧ ∀ x H', J.yld i H x H' → tTw K own bind x (wipe σ own) H' fun σ2 H2 => wipe σ2 own = wipe σ own ∧
      tB' K G Wb ft σ2 H2 fun b H3 => if b = true then tI K G Wb fi σ2 H3 fun J1 H4 => ∃ W1 : Nat → Nat → Hp → Prop, (∃ m, W1 0 m H4) ∧ ∀ j k H, W1 j k H →
        (J1.stop j H ∧ Nx H) ∨ (J1.go j H ∧ ∃ Nx1 : Hp → Prop, (∀ H', Nx1 H' → ∃ k', k' < k ∧ W1 (j + 1) k' H') ∧ ∀ x H', J1.yld j H x H' → tTw K vs1 bind1 x (wipe σ2 vs1) H' fun σ3 H5 => wipe σ3 vs1 = wipe σ2 vs1 ∧ tB' K G Wb ft1 σ3 H5 fun b H6 =>
          if b = true then tD K G Wb fe σ3 H6 fun y H7 => ∃ acc, H7 L = some (.lst acc) ∧ acc.length < sizeLine ∧ Nx1 (upd H7 L (.lst (acc ++ [y]))) else Nx1 H6)
        else Nx H3) := by
  refine ⟨fun i m H => m = c.ds.length - i ∧ i ≤ c.ds.length ∧ ∃ μ s, Ext μ1 H1 μ H ∧ Rel K μ H s ∧ (match lcW2 c.live bind ft fi bind1 ft1 fe vs1 (wipeE ρ own) j (c.ds.drop i) s with | .ok _ s => ∀ μ' H', Ext μ H μ' H' → Rel K μ' H' s → Q H' | _ => False),
    ⟨c.ds.length, by simp, Nat.zero_le _, μ1, s1, .refl _ _, r1, by simpa using h⟩, ?_⟩
  rintro i m H ⟨rfl, hi, μ, s, x, r, h⟩
  by_cases hlt : i < c.ds.length
  · rw [drop_cons hlt] at h
    unfold lcW2 at h
    by_cases hl : c.live s = true
    · rw [if_pos hl] at h
      obtain ⟨h1, h2⟩ := hJ μ H s (x1.trans x) r hl
      obtain ⟨g1, g2⟩ := h1 i hlt
      refine .inr ⟨g1, fun H' => i + 1 ≤ c.ds.length ∧ ∃ μ s, Ext μ1 H1 μ H' ∧ Rel K μ H' s ∧ (match lcW2 c.live bind ft fi bind1 ft1 fe vs1 (wipeE ρ own) j (c.ds.drop (i + 1)) s with | .ok _ s => ∀ μ2 H2, Ext μ H' μ2 H2 → Rel K μ2 H2 s → Q H2 | _ => False), fun H' ⟨a, b⟩ => ⟨_, by omega, rfl, a, b⟩, fun y H' hy => ?_⟩
      obtain ⟨r', x', d, hd, rv⟩ := g2 y H' hy
      rw [List.getElem?_eq_getElem hlt] at hd
      cases hd
      refine ⟨μ, wipeE ρ own, s, _, r', (re.mono ((x1.trans x).trans x')), rv, ?_⟩
      cases hbd : bind c.ds[i] (wipeE ρ own) s with
      | none => rw [hbd] at h; exact h.elim
      | some p =>
        obtain ⟨ρ2, s2⟩ := p
        rw [hbd] at h
        intro μ2 H2 σ2 x2 r2 re2 hw
        have hw' : wipe σ2 own = wipe σ own := by rw [hw, wipe_idem]
        refine ⟨hw', μ2, ρ2, s2, r2, re2, fin_noX ?_⟩
        cases ht : ft ρ2 s2 with
        | bad => dsimp only at h; rw [ht] at h; exact h.elim
        | exc c s => dsimp only at h; rw [ht] at h; exact h.elim
        | ok k s3 =>
          dsimp only at h
          rw [ht] at h
          intro μ3 H3 x3 r3
          have X3 : Ext μ H μ3 H3 := (x'.trans x2).trans x3
          cases k with
          | false =>
            refine ⟨hlt, μ3, s3, x.trans X3, r3, ?_⟩
            dsimp only at h
            cases hr : lcW2 c.live bind ft fi bind1 ft1 fe vs1 (wipeE ρ own) j (c.ds.drop (i + 1)) s3 with
            | ok a s4 => rw [hr] at h; exact fun μ4 H4 x4 r4 => h μ4 H4 (X3.trans x4) r4
            | exc c s4 => rw [hr] at h; exact h
            | bad => rw [hr] at h; exact h
          | true =>
            refine ⟨μ3, ρ2, s3, r3, re2.mono x3, fin_noX ?_⟩
            dsimp only at h
            cases hfi : fi ρ2 s3 with
            | bad => rw [hfi] at h; exact h.elim
            | exc c s => rw [hfi] at h; exact h.elim
            | ok c1 s4 =>
              rw [hfi] at h
              intro μ4 H4 x4 r4 J1 hJ1
              dsimp only at h
              have X4 : Ext μ H μ4 H4 := X3.trans x4
              refine lc_turns (μ0 := μ4) (H0 := H4) (μ1 := μ4) (ρ := ρ2) (own := vs1) (W0 := fun _ _ _ => False) hJ1 (pre_get (x.trans X4).pre hL) (.refl _ _) r4 ((re2.mono x3).mono x4).wipe ?_
              cases hin : lcW c1.live bind1 ft1 fe (wipeE ρ2 vs1) j c1.ds s4 with
              | bad => rw [hin] at h; exact h.elim
              | exc c s => rw [hin] at h; exact h.elim
              | ok a s5 =>
                rw [hin] at h
                dsimp only at h ⊢
                intro μ5 H5 x5 r5
                have X5 := X4.trans x5
                refine ⟨hlt, μ5, s5, x.trans X5, r5, ?_⟩
                cases hr : lcW2 c.live bind ft fi bind1 ft1 fe vs1 (wipeE ρ own) j (c.ds.drop (i + 1)) s5 with
                | ok a s6 => rw [hr] at h; exact fun μ6 H6 x6 r6 => h μ6 H6 (X5.trans x6) r6
                | exc c s6 => rw [hr] at h; exact h
                | bad => rw [hr] at h; exact h
    · rw [if_neg hl] at h
      exact h.elim
  · have e : i = c.ds.length := by omega
    subst e
    rw [List.drop_length] at h
    unfold lcW2 at h
    by_cases hl : c.live s = true
    · rw [if_pos hl] at h
      obtain ⟨h1, h2⟩ := hJ μ H s (x1.trans x) r hl
      exact .inl ⟨h2, h μ H (.refl _ _) r⟩
    · rw [if_neg hl] at h
      exact h.elim
def lcV2 (fi : Env → S → Out Src) (bind : D → Env → S → TOut) (ft : Env → S → Out Bool) (fi1 : Env → S → Out Src) (bind1 : D → Env → S → TOut) (ft1 : Env → S → Out Bool) (fe : Env → S → Out D) (own vs1 : List Nat) (ρ : Env) (s : S) : Out D :=
  (fi ρ s).bind fun c s => match lcW2 c.live bind ft fi1 bind1 ft1 fe vs1 (wipeE ρ own) s.length c.ds (s ++ [.lst []]) with
    | .ok _ s' => .ok (.ref s.length) s'
    | _ => .bad
theorem lc2_red {σ : L2.St} {H : Hp} {Q : VK} {fi fi1 : Env → S → Out Src} {bind bind1 : D → Env → S → TOut} {ft ft1 : Env → S → Out Bool} {fe : Env → S → Out D} {ow vs1 : List Nat} {Wb : WX} (hh : tD X.K G W (lcV2 fi bind ft fi1 bind1 ft1 fe ow vs1) σ H Q) :
    tLc2 (tI X.K G W fi) (tTw X.K ow bind) (tB' X.K G Wb ft) (tI X.K G Wb fi1) (tTw X.K vs1 bind1) (tB' X.K G Wb ft1) (tD X.K G Wb fe) ow vs1 σ H Q := by
  obtain ⟨μ, ρ, s, r, re, h⟩ := hh
  unfold lcV2 at h
  refine ⟨μ, ρ, s, r, re, h.bind.imp fun c s0 μ0 H0 x0 r0 h0 J hJ L hL => ?_⟩
  obtain ⟨r1, x1, e1⟩ := r0.push (u := .lst []) (o := .lst []) hL fun _ => ⟨[], upd_same, relNil⟩
  refine lc2_turns (ρ := ρ) (own := ow) hJ e1 x1 r1 (re.mono x0).wipe ?_
  split at h0
  · rename_i a s' e
    exact fun μ' H' x' r' => h0 μ' H' (x1.trans x') r' _ (relRef (pre_get x'.pre e1))
  · exact h0.elim
theorem de_lc2 {elt tg iter tg1 iter1 : Expr} {ifs ifs1 : List Expr} {scope : Scope} {ow : List (Str × Nat)} {vs1 : List Nat} {fi fi1 : Env → S → Out Src} {bind bind1 : D → Env → S → TOut} {ft ft1 : Env → S → Out Bool} {fe : Env → S → Out D} (hc : X.calm = true) (hN : X.N.Nodup) (hi : DI X G W tg iter fi) (ok : BlkOk X.N X.env.scope scope ow) (hv : ∀ i ∈ vs1, i ∈ ow.map (·.2))
    (hg : ∀ (s : Shared) (H : Hp) (C : Addr) (cl : List (Str × Addr)) (fp : List Addr), DGw (X.blk s H scope (compEnvC scope cl C X.env) fp) (ow.map (·.2)) tg bind)
    (ht : ∀ (s : Shared) (H : Hp) (C : Addr) (cl : List (Str × Addr)) (fp : List Addr), PTs (X.blk s H scope (compEnvC scope cl C X.env) fp) ifs (tB' X.K G noX ft))
    (hi1 : ∀ (s : Shared) (H : Hp) (C : Addr) (cl : List (Str × Addr)) (fp : List Addr), DI (X.blk s H scope (compEnvC scope cl C X.env) fp) G noX tg1 iter1 fi1)
    (hg1 : ∀ (s : Shared) (H : Hp) (C : Addr) (cl : List (Str × Addr)) (fp : List Addr), DGw (X.blk s H scope (compEnvC scope cl C X.env) fp) vs1 tg1 bind1)
    (ht1 : ∀ (s : Shared) (H : Hp) (C : Addr) (cl : List (Str × Addr)) (fp : List Addr), PTs (X.blk s H scope (compEnvC scope cl C X.env) fp) ifs1 (tB' X.K G noX ft1))
    (he : ∀ (s : Shared) (H : Hp) (C : Addr) (cl : List (Str × Addr)) (fp : List Addr), DE (X.blk s H scope (compEnvC scope cl C X.env) fp) G noX elt fe) (hs : notSet iter = true) (hs1 : notSet iter1 = true) :
    DE X G W (.ListComp elt [⟨tg, iter, ifs, 0⟩, ⟨tg1, iter1, ifs1, 0⟩] scope pos) (lcV2 fi bind ft fi1 bind1 ft1 fe (ow.map (·.2)) vs1) :=
  pe_imp (pe_lc2 hc hN hi ok hv hg ht hi1 hg1 ht1 he (folded_ok hs) (fun _ => folded_ok hs1)) fun σ H Q hh => lc2_red hh

/-- x = [.. for .. for ..], the name a local on the same line -/
theorem ds_setLc2 {i : Nat} {y : Str} {py spos : Pos} {elt tg iter tg1 iter1 : Expr} {ifs ifs1 : List Expr} {scope : Scope} {ow : List (Str × Nat)} {vs1 : List Nat} {fi fi1 : Env → S → Out Src} {bind bind1 : D → Env → S → TOut} {ft ft1 : Env → S → Out Bool} {fe : Env → S → Out D} (hc : X.calm = true) (hN : X.N.Nodup) (hy : X.N[i]? = some y) (hyl : X.env.scope.names.lookup y = some .local)
    (hsw : swapsWith (.ListComp elt [⟨tg, iter, ifs, 0⟩, ⟨tg1, iter1, ifs1, 0⟩] scope pos) (some (.Name y py)) spos.line X.env = pure true) (hi : DI X G W tg iter fi) (ok : BlkOk X.N X.env.scope scope ow) (hv : ∀ i ∈ vs1, i ∈ ow.map (·.2))
    (hg : ∀ (s : Shared) (H : Hp) (C : Addr) (cl : List (Str × Addr)) (fp : List Addr), DGw (X.blk s H scope (compEnvC scope cl C X.env) fp) (ow.map (·.2)) tg bind)
    (ht : ∀ (s : Shared) (H : Hp) (C : Addr) (cl : List (Str × Addr)) (fp : List Addr), PTs (X.blk s H scope (compEnvC scope cl C X.env) fp) ifs (tB' X.K G noX ft))
    (hi1 : ∀ (s : Shared) (H : Hp) (C : Addr) (cl : List (Str × Addr)) (fp : List Addr), DI (X.blk s H scope (compEnvC scope cl C X.env) fp) G noX tg1 iter1 fi1)
    (hg1 : ∀ (s : Shared) (H : Hp) (C : Addr) (cl : List (Str × Addr)) (fp : List Addr), DGw (X.blk s H scope (compEnvC scope cl C X.env) fp) vs1 tg1 bind1)
    (ht1 : ∀ (s : Shared) (H : Hp) (C : Addr) (cl : List (Str × Addr)) (fp : List Addr), PTs (X.blk s H scope (compEnvC scope cl C X.env) fp) ifs1 (tB' X.K G noX ft1))
    (he : ∀ (s : Shared) (H : Hp) (C : Addr) (cl : List (Str × Addr)) (fp : List Addr), DE (X.blk s H scope (compEnvC scope cl C X.env) fp) G noX elt fe) (hs : notSet iter = true) (hs1 : notSet iter1 = true) :
    DS X G W (.Assign [.Name y py] (.ListComp elt [⟨tg, iter, ifs, 0⟩, ⟨tg1, iter1, ifs1, 0⟩] scope pos) spos) (fun ρ s => lift (lcV2 fi bind ft fi1 bind1 ft1 fe (ow.map (·.2)) vs1 ρ s) ρ fun d s => .nx (ρ.set i (some d)) s) :=
  ps_imp (ps_setLc2 hc hN hy hyl hsw hi ok hv hg ht hi1 hg1 ht1 he (folded_ok hs) (fun _ => folded_ok hs1)) fun D σ H hh => lc2_red (by
    obtain ⟨μ, ρ, s, r, re, h⟩ := hh
    exact dS1 (e := elt) r re h fun d s1 μ1 H1 v x1 r1 re1 rv h1 => h1 μ1 H1 _ (.refl _ _) r1 (re1.set rv))

/-! ### {k: v, ..} -/
def pairsV : List ((Env → S → Out D) × (Env → S → Out D)) → Env → S → Out (List (D × D))
  | [], _, s => .ok [] s
  | p :: ps, ρ, s => (p.1 ρ s).bind fun x s => (p.2 ρ s).bind fun y s => (pairsV ps ρ s).bind fun xs s => .ok ((x, y) :: xs) s
/-- keys that differ -/
def keysOk : List (D × D) → Bool
  | [] => true
  | p :: ps => (keyOf p.1).isSome && ((ps.all fun q => !decide (keyOf q.1 = keyOf p.1)) && keysOk ps)
def dctV (ps : List ((Env → S → Out D) × (Env → S → Out D))) (ρ : Env) (s : S) : Out D :=
  (pairsV ps ρ (s ++ [.dct []])).bind fun kvs s' => if (decide (s'[s.length]? = some (.dct [])) && (keysOk kvs && decide (kvs.length ≤ 15))) = true then .ok (.ref s.length) (s'.set s.length (.dct kvs)) else .bad
abbrev RelPs (K : PySem.W.Frag) (μ : List Addr) (H : Hp) : List (D × D) → List (V × V) → Prop
  | [], vs => vs = []
  | p :: ps, vs => ∃ v w r, vs = (v, w) :: r ∧ RelD K μ H p.1 v ∧ RelD K μ H p.2 w ∧ RelPs K μ H ps r
theorem relPs_mono {K : PySem.W.Frag} {μ μ' : List Addr} {H H' : Hp} (x : Ext μ H μ' H') : ∀ {ps : List (D × D)} {vs : List (V × V)}, RelPs K μ H ps vs → RelPs K μ' H' ps vs
  | [], _, h => h
  | p :: ps, _, ⟨v, w, r, e, a, b, c⟩ => ⟨v, w, r, e, a.mono x, b.mono x, relPs_mono x c⟩
theorem keyOf_val {K : PySem.W.Frag} {μ : List Addr} {H : Hp} {d : D} {v : V} {k : Key} (r : RelD K μ H d v) (e : keyOf d = some k) : v = kV k := by
  cases d with
  | int i => cases e; rw [r.int_]; rfl
  | str cs => cases e; rw [r.str_]; rfl
  | _ => cases e
theorem relPs_kv {K : PySem.W.Frag} {μ : List Addr} {H : Hp} : ∀ {ps : List (D × D)} {vs : List (V × V)}, RelPs K μ H ps vs → keysOk ps = true → ∃ kvs, vs = kvs.map (fun kv => (kV kv.1, kv.2)) ∧ RelKV K μ H ps kvs
  | [], _, h, _ => ⟨[], h, rfl⟩
  | p :: ps, _, ⟨v, w, r, e, a, b, c⟩, h => by
    unfold keysOk at h
    simp only [Bool.and_eq_true] at h
    obtain ⟨kvs, e2, q⟩ := relPs_kv c h.2.2
    obtain ⟨k, ek⟩ := Option.isSome_iff_exists.mp h.1
    refine ⟨(k, w) :: kvs, ?_, ⟨k, w, kvs, rfl, ek, b, q⟩⟩
    rw [e, e2, keyOf_val a ek]; rfl
theorem relKV_keys {K : PySem.W.Frag} {μ : List Addr} {H : Hp} : ∀ {ps : List (D × D)} {kvs : List (Key × V)}, RelKV K μ H ps kvs → kvs.map (fun q => some q.1) = ps.map fun p => keyOf p.1
  | [], _, h => by cases h; rfl
  | p :: ps, _, ⟨k, v, r, e, q, t, u⟩ => by rw [e, List.map_cons, List.map_cons, relKV_keys u, q]
theorem merge_app : ∀ {kvs acc : List (Key × V)}, (acc ++ kvs).Pairwise (fun p q => p.1 ≠ q.1) → mergeK acc kvs = acc ++ kvs
  | [], acc, _ => by simp [mergeK]
  | p :: kvs, acc, h => by
    have h1 : (acc.any fun kv => decide (kv.1 = p.1)) = false := by
      rw [List.any_eq_false]
      intro q hq e
      exact (List.pairwise_append.mp h).2.2 q hq p List.mem_cons_self (of_decide_eq_true e)
    have h2 : mergeK acc (p :: kvs) = mergeK (acc ++ [p]) kvs := by
      show mergeK (putK acc p.1 p.2) kvs = _
      unfold putK
      rw [if_neg (by rw [h1]; decide)]
    rw [h2, merge_app (by simpa using h)]
    simp
theorem keysOk_pw {K : PySem.W.Frag} {μ : List Addr} {H : Hp} : ∀ {ps : List (D × D)} {kvs : List (Key × V)}, RelKV K μ H ps kvs → keysOk ps = true → kvs.Pairwise fun p q => p.1 ≠ q.1
  | [], _, h, _ => by cases h; exact .nil
  | p :: ps, _, ⟨k, v, r, e, q, t, u⟩, h => by
    unfold keysOk at h
    simp only [Bool.and_eq_true] at h
    subst e
    refine .cons (fun z hz e => ?_) (keysOk_pw u h.2.2)
    have h3 : some z.1 ∈ r.map (fun q => some q.1) := List.mem_map.mpr ⟨z, hz, rfl⟩
    rw [relKV_keys u] at h3
    obtain ⟨y, hy, ey⟩ := List.mem_map.mp h3
    have h4 := List.all_eq_true.mp h.2.1 y hy
    rw [ey, q, ← e] at h4
    simp at h4
inductive DPs (X : Cx) (G : Gc) (W : WX) : List Expr → List Expr → List ((Env → S → Out D) × (Env → S → Out D)) → Prop
  | nil : DPs X G W [] [] []
  | cons {k v : Expr} {ks vs : List Expr} {f g : Env → S → Out D} {ps} : DE X G W k f → DE X G W v g → DPs X G W ks vs ps → DPs X G W (k :: ks) (v :: vs) ((f, g) :: ps)
theorem dps_run {ks vs : List Expr} {ps : List ((Env → S → Out D) × (Env → S → Out D))} (h : DPs X G W ks vs ps) : PPs X pos (ks.map some) vs (ps.map fun p => (tD X.K G W p.1, tD X.K G W p.2)) := by
  induction h with
  | nil => exact pps_nil
  | cons a b c ih => exact pps_cons a b ih
theorem pairs_fin {σ : L2.St} {ρ : Env} {K : PySem.W.Frag} : ∀ (ps : List ((Env → S → Out D) × (Env → S → Out D))) {μ : List Addr} {H : Hp} {s : S} {Q : List (V × V) → Hp → Prop}, Rel K μ H s → RelEnv K μ H ρ σ →
    Fin K G μ H (fun c d H' => W c d σ H') (pairsV ps ρ s) (fun kvs _ μ' H' => ∀ vs, RelPs K μ' H' kvs vs → Q vs H') → tPairs (ps.map fun p => (tD K G W p.1, tD K G W p.2)) σ H Q
  | [], μ, H, s, Q, r, re, h => h.ok_ r [] rfl
  | p :: ps, μ, H, s, Q, r, re, h => by
    refine ⟨μ, ρ, s, r, re, h.bind.imp fun x s1 μ1 H1 x1 r1 h1 v rv => ⟨μ1, ρ, s1, r1, re.mono x1, h1.bind.imp fun y s2 μ2 H2 x2 r2 h2 w rw_ => ?_⟩⟩
    refine pairs_fin ps r2 ((re.mono x1).mono x2) (h2.bind.imp fun kvs s3 μ3 H3 x3 r3 h3 vs rvs => ?_)
    exact h3.ok_ r3 ((v, w) :: vs) ⟨v, w, vs, rfl, (rv.mono x2).mono x3, rw_.mono x3, rvs⟩
theorem de_dct0 : DE X G W (.Dict [] [] pos) (dctV []) :=
  pe_imp pe_dnewK fun σ H Q ⟨μ, ρ, s, r, re, h⟩ p hp => by
    obtain ⟨r1, x1, e1⟩ := r.push (u := .dK []) (o := .dct []) hp fun _ => ⟨[], upd_same, rfl⟩
    unfold dctV pairsV at h
    have e2 : (s ++ [O.dct []])[s.length]? = some (.dct []) := by simp
    have e3 : (s ++ [O.dct []]).set s.length (.dct []) = s ++ [O.dct []] := by simp
    have h' : Fin X.K G μ H (fun c d H' => W c d σ H') (if (decide ((s ++ [O.dct []])[s.length]? = some (O.dct [])) && (keysOk [] && decide ((([] : List (D × D))).length ≤ 15))) = true then .ok (.ref s.length) ((s ++ [O.dct []]).set s.length (.dct [])) else .bad) (qD X.K Q) := h
    rw [if_pos (by rw [e2]; rfl), e3] at h'
    exact h' _ _ x1 r1 _ (relRef e1)
theorem de_dct {k v : Expr} {ks vs : List Expr} {ps : List ((Env → S → Out D) × (Env → S → Out D))} (h : DPs X G W (k :: ks) (v :: vs) ps) (hl : ks.length = vs.length) (h15 : (k :: ks).length ≤ 15) :
    DE X G W (.Dict ((k :: ks).map some) (v :: vs) pos) (dctV ps) :=
  pe_imp (pe_disp (dps_run h) (by simp) (by simp [hl]) (by simp) (by simpa using h15)) fun σ H Q ⟨μ, ρ, s, r, re, hh⟩ p hp => by
    obtain ⟨r1, x1, e1⟩ := r.push (u := .dK []) (o := .dct []) hp fun _ => ⟨[], upd_same, rfl⟩
    unfold dctV at hh
    refine pairs_fin ps r1 (re.mono x1) ((Fin.ext x1 hh).bind.imp fun kvs s2 μ2 H2 x2 r2 h2 vs rvs => ?_)
    split at h2
    · rename_i hc
      simp only [Bool.and_eq_true] at hc
      obtain ⟨c1, c2, c3⟩ := hc
      have ha : μ2[s.length]? = some p := pre_get x2.pre e1
      obtain ⟨ws, q, t⟩ := r2.obj _ p _ ha (of_decide_eq_true c1)
      cases t
      obtain ⟨kk, ek, rk⟩ := relPs_kv rvs c2
      refine ⟨q, kk, ek, ?_, ?_⟩
      · have := relKV_keys rk
        have := congrArg List.length this
        rw [List.length_map, List.length_map] at this
        rw [this]; exact of_decide_eq_true c3
      · rw [merge_app (acc := []) (by simpa using keysOk_pw rk c2)]
        obtain ⟨r3, x3⟩ := r2.put (u := .dK ([] ++ kk)) (o := .dct kvs) ha (.dK q) fun x => ⟨kk, upd_same, rk.mono x⟩
        exact h2 _ _ x3 r3 _ (relRef ha)
    · exact h2.elim
end
end Fe

set_option maxHeartbeats 4000000
/-! Fe 10: own exceptions: made, raised, caught. -/
namespace Fe
open PySem PySem.Spec PyProof.Rows L2
open PySem.W (Frag)

/-! ### the built-in class that an own one rests on -/
inductive Bs where
  | ve | le | oe
  deriving DecidableEq
def Bs.name : Bs → String
  | .ve => "ValueError"
  | .le => "LookupError"
  | .oe => "OverflowError"
def Bs.newId : Bs → String
  | .ve => "ValueError.__new__"
  | .le => "LookupError.__new__"
  | .oe => "OverflowError.__new__"
def Bs.initId : Bs → String
  | .ve => "ValueError.__init__"
  | .le => "LookupError.__init__"
  | .oe => "OverflowError.__init__"
def Bs.tail : Bs → List Value
  | .ve => [.type "ValueError", .type "Exception", .type "BaseException", .type "object"]
  | .le => [.type "LookupError", .type "Exception", .type "BaseException", .type "object"]
  | .oe => [.type "OverflowError", .type "ArithmeticError", .type "Exception", .type "BaseException", .type "object"]
theorem Bs.facts : ∀ b : Bs, ExcBaseFacts b.name b.newId b.initId b.tail
  | .ve => F.excBase_ValueError
  | .le => F.excBase_LookupError
  | .oe => F.excBase_OverflowError
theorem Bs.pass (self : Value) : ∀ b : Bs, refuseLoop self "__setattr__" b.tail = pure ()
  | .ve => by kernel_rfl
  | .le => by kernel_rfl
  | .oe => by kernel_rfl
/-- own classes, then the built-in one's order -/
def mroB (b : Bs) : List Value → Bool
  | .ref _ :: r => mroB b r
  | l => l == b.tail
theorem mroB_cases (b : Bs) : ∀ l : List Value, mroB b l = true → (∃ c r, l = .ref c :: r ∧ mroB b r = true) ∨ l = b.tail := by
  intro l e
  unfold mroB at e
  split at e
  · rename_i c r
    exact .inl ⟨c, r, rfl, e⟩
  · exact .inr (beq_iff_eq.mp e)
theorem mroB_pass {b : Bs} (self : Value) : ∀ l : List Value, mroB b l = true → refuseLoop self "__setattr__" l = pure ()
  | [], e => by
    rcases mroB_cases b [] e with ⟨c, r', q, h⟩ | q
    · cases q
    · rw [q]; exact b.pass self
  | a :: r, e => by
    rcases mroB_cases b (a :: r) e with ⟨c, r', q, h⟩ | q
    · obtain ⟨rfl, rfl⟩ := List.cons.inj q
      rw [refuseLoop_ref]; exact mroB_pass self r h
    · rw [q]; exact b.pass self
theorem mroB_contains {b : Bs} (Y : String) : ∀ l : List Value, mroB b l = true → l.contains (.type Y) = b.tail.contains (.type Y)
  | [], e => by
    rcases mroB_cases b [] e with ⟨c, r', q, h⟩ | q
    · cases q
    · rw [q]
  | a :: r, e => by
    rcases mroB_cases b (a :: r) e with ⟨c, r', q, h⟩ | q
    · obtain ⟨rfl, rfl⟩ := List.cons.inj q
      rw [List.contains_cons, mroB_contains Y r h]; rfl
    · rw [q]
theorem mroB_obj {b : Bs} {l : List Value} (e : mroB b l = true) : l.contains (.type "object") = true := by
  rw [mroB_contains "object" l e]
  cases b <;> decide +kernel
theorem mroB_ne {b : Bs} {l : List Value} (e : mroB b l = true) : l.isEmpty = false := by
  cases l with
  | nil =>
    have := mroB_obj e
    cases this
  | cons _ _ => rfl

/-! ### self.f = v on an exception that has no dict yet -/
section
open PySem.W PySem.Calls PyProof.Rows Builtin.ObjectAttr
variable {prog : Program} {w : World} {A : Around} {E : Value → Shared → Prop} {R : Result → Shared → Prop} {hp : Heap} {g : Array GenState} {d : Drawn} {t : Nat} {os : OsState}
theorem osaX {K : Frag} {b : Bs} {name : Str} {tk : Tok} {v : Value} {x C : Addr} {fv : Array Value} {cd : ClassData} (X : K.In hp) (hx : hp.get? x = some { cls := .ref C, data := .fields fv }) (hcd : clsIn K C = some cd)
    (hm : mroB b cd.mro = true) (hh : cd.hasDict = true) (ha : findIn K (.ref C) name = some none)
    (hq : ∀ h' tk' dx, (∀ a o, a ≠ x → hp.get? a = some o → h'.get? a = some o) → hp.objs.size ≤ dx → dx ≠ x → h'.get? x = some { cls := .ref C, dict := some dx, data := .fields fv } →
      h'.Ns1 dx (fun y => if y = name then some v else none) → R (.ok (.ret .none)) ⟨h', g, d, tk', os⟩) :
    codeAny (model prog w) A (.call (.builtin "object.__setattr__") ⟨[.ref x, .str name tk, v], []⟩) R ⟨hp, g, d, t, os⟩ := by
  have J : InstAt hp x { cls := .ref C, data := .fields fv } C none := ⟨hx, rfl, rfl, trivial⟩
  have ne := mroB_ne hm
  have ob := mroB_obj hm
  have apart : x ≠ hp.objs.size := Nat.ne_of_lt (Heap.lt_size hx)
  have isObj : Looks (model prog w) hp (isInstance (.ref x) (.type "object")) true := by
    refine J.type.andThen (looks_mroIn X ?_)
    unfold mroIn
    rw [hcd, Option.bind_some, if_neg (by rw [ne]; decide), ob]
  have order : Looks (model prog w) hp (mroOf (.ref C)) cd.mro := (looks_clsIn X hcd).andThen .now
  have noTaker : Looks (model prog w) hp (storeTaker? none) none := .now
  have its : Looks (model prog w) hp (classData C) cd := looks_clsIn X hcd
  refine codeAny_call_builtin F.store_object.slot.plain F.store_object.entry ?_
  refine @check_slot (model prog w) _ _ ⟨hp, g, d, t, os⟩ "object.__setattr__" "object" "__setattr__" (.ref x) [.str name tk, v] [] _ F.store_object.kind F.store_object.split isObj (F.store_object.args (.ref x) (.str name tk) v) ?_
  rw [osa_eq, refuse_eq]
  refine wpAny_bind (wpAny_bind (J.type.at (wpAny_bind (order.at ?_))))
  rw [mroB_pass _ _ hm]
  refine wpAny_pure (wpAny_bind (J.type.at (wpAny_bind ((looks_findIn X ha).at (wpAny_bind (noTaker.at ?_))))))
  show wpAny _ _ (storeInOwnDict (.ref x) (.ref C) (.str name tk) name v false) _ _ _
  obtain ⟨nm, bs, mro, ns, qn, hd, sn, sb, ab, col, del⟩ := cd
  dsimp only at hh
  subst hh
  unfold storeInOwnDict ownDictForStores
  repeat (first
    | with_reducible refine PySem.PX.store_in_new ?_ ?_
    | with_reducible refine wpAny_loadPart_at hx ?_
    | with_reducible refine its.at ?_
    | wp_step)
  · exact ⟨_, #[], _, (Heap.get?_update_ne _ _ _ _ apart.symm).trans (Heap.get?_push_at rfl rfl), rfl, fun e he => absurd he (by simp), fun _ => rfl⟩
  · intro h' tk' hn' same
    have old : (hp.push { cls := .type "dict", data := .dict #[] }).get? x = some { cls := .ref C, data := .fields fv } := Heap.get?_push_of_some _ hx
    refine hq h' tk' hp.objs.size (fun a o ha' ho => ?_) (Nat.le_refl _) apart.symm ((same.2 x apart).trans (Heap.get?_update_self _ old rfl)) hn'
    have z1 := same.2 a (Nat.ne_of_lt (Heap.lt_size ho))
    exact z1.trans ((Heap.get?_update_ne _ _ _ _ ha').trans (Heap.get?_push_of_some _ ho))
end
end Fe

set_option maxHeartbeats 2000000
/-! Fe 11: the operations by name. -/
namespace Fe
open PySem PySem.Spec PyProof.Rows L2

/-! ### operators -/
inductive Ar where
  | add | sub | mul | div | mod | pow
def Ar.op : Ar → Operator
  | .add => .Add
  | .sub => .Sub
  | .mul => .Mult
  | .div => .FloorDiv
  | .mod => .Mod
  | .pow => .Pow
def Ar.f : Ar → D → D → S → Out D
  | .add => opAdd
  | .sub => opSub
  | .mul => opMul
  | .div => opDiv
  | .mod => opMod
  | .pow => opPow
inductive Cm where
  | eq | ne | lt | le | gt | ge | is | isn | in_ | nin
def Cm.op : Cm → CmpOp
  | .eq => .Eq
  | .ne => .NotEq
  | .lt => .Lt
  | .le => .LtE
  | .gt => .Gt
  | .ge => .GtE
  | .is => .Is
  | .isn => .IsNot
  | .in_ => .In
  | .nin => .NotIn
def Cm.f : Cm → D → D → S → Out D
  | .eq => opEq
  | .ne => opNe
  | .lt => opI2 fun i j => decide (i < j)
  | .le => opI2 fun i j => decide (i ≤ j)
  | .gt => opI2 fun i j => decide (j < i)
  | .ge => opI2 fun i j => decide (j ≤ i)
  | .is => opIs
  | .isn => opIsNot
  | .in_ => opIn
  | .nin => opNotIn
section
variable {X : Cx} {G : Gc}
theorem ar_all (o : Ar) : ∃ r, OpR X (binaryOp o.op) r ∧ Hk X G r o.f := by
  cases o with
  | add => exact ⟨_, op_addA, add_ok⟩
  | sub => exact ⟨_, op_sub, sub_ok⟩
  | mul => exact ⟨_, op_mulAll, mul_ok⟩
  | div => exact ⟨_, op_fdivW, div_ok⟩
  | mod => exact ⟨_, op_mod, mod_ok⟩
  | pow => exact ⟨_, op_powA, pow_ok⟩
theorem cm_all (hu : X.A.units + 65 < cLine) (o : Cm) : ∃ r, OpR X (compareOp o.op) r ∧ Hk X G r o.f := by
  cases o with
  | eq => exact ⟨_, op_eqD (Nat.lt_of_succ_lt hu), eq_ok⟩
  | ne => exact ⟨_, op_neD (Nat.lt_of_succ_lt hu), ne_ok⟩
  | lt => exact ⟨_, op_lt, i2_ok _⟩
  | le => exact ⟨_, op_le, i2_ok _⟩
  | gt => exact ⟨_, op_gt, i2_ok _⟩
  | ge => exact ⟨_, op_ge, i2_ok _⟩
  | is => exact ⟨_, op_isN, is_ok⟩
  | isn => exact ⟨_, op_notN, isNot_ok⟩
  | in_ => exact ⟨_, op_inA hu, in_ok⟩
  | nin => exact ⟨_, op_notInA hu, notIn_ok⟩
end

/-! ### repr -/
/-- a text's codes -/
def codes (x : Str) : List Nat := x.cps.toList
theorem codes_mk (x : Str) : (⟨(codes x).toArray⟩ : Str) = x := by cases x; simp [codes]
/-- a flat value written out -/
def pdF : D → Option PyData
  | .non => some .none
  | .bl b => some (.bool b)
  | .int i => some (.int i)
  | .str cs => some (.str ⟨cs.toArray⟩)
  | _ => none
def pdKv (kvs : List (D × D)) : Option (List (PyData × PyData)) := mapO (fun p => match pdF p.1, pdF p.2 with
  | some a, some b => some (a, b)
  | _, _ => none) kvs
/-- a value written out, a dict of flat values too -/
def pdR (s : S) (d : D) : Option PyData := match d with
  | .ref i => match s[i]? with
    | some (.dct kvs) => (pdKv kvs).map .dict
    | _ => pd s 60 d
  | _ => pd s 60 d
def biRepr : List D → S → Out D
  | [d], s => match pdR s d with
    | some p => if (p.showable && (decide (p.depth ≤ 60) && (decide (p.shown.length ≤ 16777216) && okS (codes p.shown)))) = true then .ok (.str (codes p.shown)) s else .bad
    | none => .bad
  | _, _ => .bad
/-- flat -/
inductive Fp : V → PyData → Prop
  | non : Fp .non .none
  | bl (b : Bool) : Fp (.bl b) (.bool b)
  | int (i : Int) : Fp (.int i) (.int i)
  | str (x : Str) : Fp (.str x) (.str x)
theorem Fp.reads {h : Heap} {v : V} {u : Value} {p : PyData} (f : Fp v p) (r : RelV v u) : Reads h u p [] := by
  cases f with
  | non => cases r; exact .none
  | bl b => cases r; exact .bool b
  | int i => obtain ⟨t, rfl⟩ := r; exact .int i t
  | str x => obtain ⟨t, rfl⟩ := r; exact .str x t
inductive FpKv : List (Key × V) → List (PyData × PyData) → Prop
  | nil : FpKv [] []
  | cons {k v kvs p q ps} : Fp (kV k) p → Fp v q → FpKv kvs ps → FpKv ((k, v) :: kvs) ((p, q) :: ps)
theorem pdF_ok {K : PySem.W.Frag} {μ : List Addr} {H : Hp} {d : D} {v : V} {p : PyData} (r : RelD K μ H d v) (e : pdF d = some p) : Fp v p := by
  cases d with
  | non => cases e; rw [r.non_]; exact .non
  | bl b => cases e; rw [r.bl_]; exact .bl b
  | int i => cases e; rw [r.int_]; exact .int i
  | str cs => cases e; rw [r.str_]; exact .str _
  | _ => cases e
theorem pdKv_ok {K : PySem.W.Frag} {μ : List Addr} {H : Hp} : ∀ {kvs : List (D × D)} {ws : List (Key × V)} {ps : List (PyData × PyData)}, RelKV K μ H kvs ws → pdKv kvs = some ps → FpKv ws ps
  | [], ws, ps, r, e => by
    cases r
    cases e
    exact .nil
  | x :: xs, ws, ps, r, e => by
    obtain ⟨k, v, t, rfl, ek, rv, rt⟩ := r
    unfold pdKv mapO at e
    cases e1 : pdF x.1 with
    | none => rw [e1] at e; cases e
    | some a =>
      cases e2 : pdF x.2 with
      | none => rw [e1, e2] at e; cases e
      | some b =>
        rw [e1, e2] at e
        dsimp only at e
        cases e3 : pdKv xs with
        | none => unfold pdKv at e3; rw [e3] at e; cases e
        | some l =>
          have ih := pdKv_ok rt e3
          unfold pdKv at e3
          rw [e3] at e
          cases e
          refine .cons ?_ (pdF_ok rv e2) ih
          cases hx : x.1 with
          | int i => rw [hx] at ek e1; cases ek; cases e1; exact .int i
          | str cs => rw [hx] at ek e1; cases ek; cases e1; exact .str _
          | _ => rw [hx] at ek; cases ek
theorem key_rel {k : Key} {u : Value} (h : keyIs k u = true) : RelV (kV k) u := by
  rcases keyIs_shape h with ⟨i, t, rfl, rfl⟩ | ⟨x, t, rfl, rfl⟩
  · exact ⟨t, rfl⟩
  · exact ⟨t, rfl⟩
theorem reads_pairs {P : Program} {w : World} {h : Heap} : ∀ {es : List DictEntry} {vs : List (Key × Value)} {ws : List (Key × V)} {ps : List (PyData × PyData)}, Pairs (mixKind P w) es vs → KV ws vs → FpKv ws ps → ReadsAll h (es.map (·.key)) (ps.map (·.1)) [] ∧ ReadsAll h (es.map (·.val)) (ps.map (·.2)) []
  | _, _, _, _, .nil, r, f => by
    cases r
    cases f
    exact ⟨.nil, .nil⟩
  | _, _, _, _, .cons a b c, r, f => by
    cases r with
    | cons r1 r2 =>
      cases f with
      | cons f1 f2 f3 =>
        obtain ⟨q1, q2⟩ := reads_pairs (h := h) c r2 f3
        have rk := key_rel (r1.1 ▸ a)
        exact ⟨.cons (as := []) (bs := []) (f1.reads rk) q1, .cons (as := []) (bs := []) (by show Reads h _ _ []; dsimp only; rw [b]; exact f2.reads r1.2) q2⟩
def Rp (K : PySem.W.Frag) (H : Hp) (x : V) (p : PyData) : Prop := (Dp K H x p ∧ p.hasDict = false) ∨ ∃ a ws ps, x = .ref a ∧ H a = some (.dK ws) ∧ p = .dict ps ∧ FpKv ws ps
def rRepr (K : PySem.W.Frag) : List V → Hp → VK → Prop := fun xs H Q => ∃ x p, xs = [x] ∧ Rp K H x p ∧ p.depth ≤ 60 ∧ p.showable = true ∧ p.shown.length ≤ sizeLine ∧ Q (.str p.shown) H
section
variable {X : Cx} {G : Gc}
mutual
theorem dp_noDict {K : PySem.W.Frag} {H : Hp} : ∀ (p : PyData) (v : V), Dp K H v p → p.hasDict = false
  | .none, _, _ => rfl
  | .bool _, _, _ => rfl
  | .int _, _, _ => rfl
  | .str _, _, _ => rfl
  | .list ds, v, h => by cases h with | lst q t => exact dps_noDict ds _ t
  | .tuple ds, v, h => by cases h with | tup q t => exact dps_noDict ds _ t
  | .dict _, v, h => by cases h
theorem dps_noDict {K : PySem.W.Frag} {H : Hp} : ∀ (p : List PyData) (v : List V), DpAll K H v p → PyData.hasDictAll p = false
  | [], _, _ => rfl
  | d :: ds, _, h => by
    cases h with
    | cons a b =>
      unfold PyData.hasDictAll
      rw [dp_noDict d _ a, dps_noDict ds _ b]; rfl
end
theorem call_repr (hg : X.A.guards = some []) (hu : X.A.units + 65 < cLine) : CallR X (.builtin "repr") (rRepr X.K) := by
  intro pins s σ H xs us Q I r h
  obtain ⟨x, p, rfl, hd, hdep, hs, hl, q⟩ := h
  obtain ⟨u, rfl, rv⟩ := Vals.one r
  rcases hd with ⟨hd, hn⟩ | ⟨a, ws, ps, rfl, ha, rfl, f⟩
  · cases hd with
    | non => cases rv; exact PySem.P.repr_of_none ⟨.str _, H, I.tok _, ⟨_, rfl⟩, q⟩
    | bl b => cases rv; exact PySem.P.repr_of_bool ⟨.str _, H, I.tok _, ⟨_, rfl⟩, q⟩
    | int i => obtain ⟨t, rfl⟩ := rv; exact PySem.P.repr_of_int (of_decide_eq_true hs) ⟨.str _, H, I.tok _, ⟨_, rfl⟩, q⟩
    | str z => obtain ⟨t, rfl⟩ := rv; exact PySem.P.repr_of_str ⟨.str _, H, I.tok _, ⟨_, rfl⟩, q⟩ hl
    | lst a b =>
      have hd := Dp.lst a b
      obtain ⟨as, R⟩ := Dp.reads I _ _ _ hd rv
      cases (show u = Value.ref _ from rv)
      exact repr_of_reads' R hs (fun z => by rw [hn] at z; cases z) hg (by omega) (fun _ _ e => e) (fun h' u tk hk => ⟨.str _, H, I.kept hk, ⟨_, rfl⟩, q⟩) hl
    | tup a b =>
      have hd := Dp.tup a b
      obtain ⟨as, R⟩ := Dp.reads I _ _ _ hd rv
      cases (show u = Value.ref _ from rv)
      exact repr_of_reads' R hs (fun z => by rw [hn] at z; cases z) hg (by omega) (fun _ _ e => e) (fun h' u tk hk => ⟨.str _, H, I.kept hk, ⟨_, rfl⟩, q⟩) hl
  · cases (show u = Value.ref a from rv)
    obtain ⟨hz, hsy, vs, kv, o, es, ep, ho, he, hd, hk, hp, hnd⟩ := dk_of I.hok ha
    obtain ⟨q1, q2⟩ := reads_pairs (h := s.heap) hp kv f
    have R : Reads s.heap (.ref a) (.dict ps) (a :: [] ++ []) := .dict ho he.1 hd q1 q2
    refine repr_of_reads' R hs (fun _ z => ?_) hg (by omega) (fun _ _ e => e) (fun h' u tk hk => ⟨.str _, H, I.kept hk, ⟨_, rfl⟩, q⟩) hl
    have e : sysModules = a := by simpa using z
    rw [e] at hsy
    simp at hsy
theorem repr_ok : HkC X G (rRepr X.K) biRepr := by
  intro ds s μ H vs W Q r rv h
  unfold biRepr at h
  split at h
  · rename_i d
    split at h
    · rename_i p e
      split at h
      · rename_i hc
        simp only [Bool.and_eq_true] at hc
        obtain ⟨c1, c2, c3, c4⟩ := hc
        obtain ⟨v, rfl, r1⟩ := rel1 rv
        have rp : Rp X.K H v p := by
          have plain : pd s 60 d = some p → Rp X.K H v p := fun e => by
            obtain ⟨a, b, c⟩ := pd_ok r 60 d v p r1 e
            exact .inl ⟨a, dp_noDict p v a⟩
          unfold pdR at e
          split at e
          · rename_i i
            split at e
            · rename_i kvs hs
              obtain ⟨ps, e1, e2⟩ := Option.map_eq_some_iff.mp e
              subst e2
              obtain ⟨a, rfl, ha⟩ := r1.ref_
              obtain ⟨ws, q, t⟩ := r.obj i a _ ha hs
              exact .inr ⟨a, ws, ps, rfl, q, rfl, pdKv_ok t e1⟩
            · exact plain e
          · exact plain e
        refine ⟨v, p, rfl, rp, of_decide_eq_true c2, c1, by rw [sizeLine_eq]; exact of_decide_eq_true c3, ?_⟩
        have := fin_ok r (relStr (μ := μ) (H := H) (K := X.K) c4) h
        rw [codes_mk] at this
        exact this
      · exact h.elim
    · exact h.elim
  · exact h.elim
end

/-! ### builtins -/
inductive Bi where
  | len | abs | min | max | int | str | tup | lst | sum | all | any | repr
def Bi.nm : Bi → Str
  | .len => "len"
  | .abs => "abs"
  | .min => "min"
  | .max => "max"
  | .int => "int"
  | .str => "str"
  | .tup => "tuple"
  | .lst => "list"
  | .sum => "sum"
  | .all => "all"
  | .any => "any"
  | .repr => "repr"
def Bi.f : Bi → List D → S → Out D
  | .len => biLen
  | .abs => biAbs
  | .min => biMin
  | .max => biMax
  | .int => biInt
  | .str => biStr
  | .tup => biTup
  | .lst => biLst
  | .sum => biSum
  | .all => biAll
  | .any => biAny
  | .repr => biRepr
def Bi.v : Bi → Value
  | .len => .builtin "len"
  | .abs => .builtin "abs"
  | .min => .builtin "min"
  | .max => .builtin "max"
  | .int => .type "int"
  | .str => .type "str"
  | .tup => .type "tuple"
  | .lst => .type "list"
  | .sum => .builtin "sum"
  | .all => .builtin "all"
  | .any => .builtin "any"
  | .repr => .builtin "repr"
def Bi.calm : Bi → Bool
  | .min => true
  | .max => true
  | .sum => true
  | .all => true
  | .any => true
  | _ => false
theorem bi_boot (b : Bi) : bootBuiltins b.nm = some b.v := by cases b <;> decide +kernel
theorem bi_nm (b : Bi) : b.nm ≠ "__name__" ∧ (b.nm == ("__debug__" : Str)) = false := by cases b <;> decide +kernel
theorem bi_v (b : Bi) : (∃ id, b.v = .builtin id) ∨ ∃ T, b.v = .type T := by
  cases b
  all_goals first
    | exact .inl ⟨_, rfl⟩
    | exact .inr ⟨_, rfl⟩
section
variable {X : Cx} {G : Gc}
/-- those that want no except suite around -/
theorem bi_all (b : Bi) (hc : b.calm = true → X.calm = true) (hg : X.A.guards = some []) (hu : X.A.units + 65 < cLine) : ∃ r, CallR X b.v r ∧ HkC X G r b.f := by
  cases b with
  | len => exact ⟨_, call_len, len_ok⟩
  | abs => exact ⟨_, call_abs, abs_ok⟩
  | min => exact ⟨_, (call_min2 (hc rfl)).or (cr_min (hc rfl)), min_ok⟩
  | max => exact ⟨_, (call_max2 (hc rfl)).or (cr_max (hc rfl)), max_ok⟩
  | int => exact ⟨_, call_int1.or call_int_str, int_ok⟩
  | str => exact ⟨_, call_str_int, str_ok⟩
  | tup => exact ⟨_, call_tuple_of, tupl_ok⟩
  | lst => exact ⟨_, call_list_of, list_ok⟩
  | sum => exact ⟨_, cr_sum (hc rfl), sum_ok⟩
  | all => exact ⟨_, cr_all (hc rfl), all_ok⟩
  | any => exact ⟨_, cr_any (hc rfl), any_ok⟩
  | repr => exact ⟨_, call_repr hg hu, repr_ok⟩
end

/-! ### methods -/
inductive Me where
  | append | extend | popAt | pop | insert
def Me.nm : Me → Str
  | .append => "append"
  | .extend => "extend"
  | .popAt => "pop"
  | .pop => "pop"
  | .insert => "insert"
def Me.f : Me → D → List D → S → Out D
  | .append => meAppend
  | .extend => meExtend
  | .popAt => mePopAt
  | .pop => mePop
  | .insert => meInsert
def Me.T : Me → String := fun _ => "list"
def Me.id : Me → String
  | .append => "list.append"
  | .extend => "list.extend"
  | .popAt => "list.pop"
  | .pop => "list.pop"
  | .insert => "list.insert"
section
variable {X : Cx} {G : Gc}
theorem me_all (hu : X.A.units + 65 < cLine) (m : Me) : PlainAttrs m.T ∧ Slot m.T m.nm m.id ∧ typeOf (.builtin m.id) = pure (.type "method_descriptor") ∧ ∃ r, MtR X m.id r ∧ HkM X G r m.f := by
  cases m with
  | append => exact ⟨PySem.F.plainAttrs_list, PySem.F.slot_list_append, PySem.F.type_list_append, _, mt_append, append_ok⟩
  | extend => exact ⟨PySem.F.plainAttrs_list, PySem.F.slot_list_extend, PySem.F.type_list_extend, _, mt_extend, extend_ok⟩
  | popAt => exact ⟨PySem.F.plainAttrs_list, PySem.F.slot_list_pop, PySem.F.type_list_pop, _, mt_popAt, popAt_ok⟩
  | pop => exact ⟨PySem.F.plainAttrs_list, PySem.F.slot_list_pop, PySem.F.type_list_pop, _, mt_pop, pop_ok⟩
  | insert => exact ⟨PySem.F.plainAttrs_list, PySem.F.slot_list_insert, PySem.F.type_list_insert, _, mt_insert, insert_ok⟩
end
end Fe

set_option maxHeartbeats 2000000
/-! Fe 12: own trees of expressions, what they are worth, how they are checked against the text. -/
namespace Fe
open PySem PySem.Spec PyProof.Rows L2

/-! ### patterns -/
inductive Tp where
  | nm (i : Nat)
  | tp (ts : List Tp)
mutual
def bnd : Tp → D → Env → S → TOut
  | .nm i => fun d ρ s => some (ρ.set i (some d), s)
  | .tp ts => unpackT ts.length (bnds ts)
def bnds : List Tp → List D → Env → S → TOut
  | [] => fun ds ρ s => match ds with
    | [] => some (ρ, s)
    | _ :: _ => none
  | t :: ts => consT (bnd t) (bnds ts)
end
def locB (sc : Scope) (fb : Str → Bool) (x : Str) : Bool := match sc.names.lookup x with
  | some .local => true
  | some .cell => fb x
  | _ => false
theorem locB_ok {sc : Scope} {fb : Str → Bool} {x : Str} (h : locB sc fb x = true) : Loc sc x ∧ (fb x = true ∨ sc.names.lookup x = some .local) := by
  unfold locB at h
  split at h
  · rename_i e
    exact ⟨.inl e, .inr e⟩
  · rename_i e
    exact ⟨.inr e, .inl h⟩
  · cases h
mutual
def chkP (N : List Str) (sc : Scope) (fb : Str → Bool) (own : Option (List Nat)) : Tp → Expr → Bool
  | .nm i, x => match x with
    | .Name y _ => decide (N[i]? = some y) && (locB sc fb y && (match own with | some l => l.contains i | none => true))
    | _ => false
  | .tp ts, x => match x with
    | .Tuple es _ _ => decide (ts.length = es.length) && (es.all notStar && chkPs N sc fb own ts es)
    | _ => false
def chkPs (N : List Str) (sc : Scope) (fb : Str → Bool) (own : Option (List Nat)) : List Tp → List Expr → Bool
  | [], xs => match xs with
    | [] => true
    | _ => false
  | t :: ts, xs => match xs with
    | y :: ys => notStar y && (chkP N sc fb own t y && chkPs N sc fb own ts ys)
    | _ => false
end
theorem band {a b : Bool} (h : (a && b) = true) : a = true ∧ b = true := Bool.and_eq_true_iff.mp h
section
variable {X : Cx} {N : List Str} {sc : Scope} {fb : Str → Bool}
mutual
theorem bnd_ok (hN : X.N = N) (hs : X.env.scope = sc) (hf : ∀ x, fb x = true → X.fn x = true) (nd : N.Nodup) (hc : X.calm = true) {own : Option (List Nat)} : ∀ (t : Tp) (x : Expr), chkP N sc fb own t x = true → DG X x (bnd t) ∧ notStar x = true
  | .nm i, x, h => by
    unfold chkP at h
    split at h
    · obtain ⟨h1, h2⟩ := band h
      obtain ⟨h2, _⟩ := band h2
      obtain ⟨a, b⟩ := locB_ok h2
      refine ⟨?_, rfl⟩
      unfold bnd
      exact dg_name (hN ▸ nd) (hN ▸ of_decide_eq_true h1) (hs ▸ a) (b.imp (hf _) fun z => hs ▸ z)
    · cases h
  | .tp ts, x, h => by
    unfold chkP at h
    split at h
    · obtain ⟨h1, h2⟩ := band h
      obtain ⟨h2, h3⟩ := band h2
      refine ⟨?_, rfl⟩
      unfold bnd
      rw [of_decide_eq_true h1]
      exact dg_tup hc h2 (bnds_ok hN hs hf nd hc ts _ h3)
    · cases h
theorem bnds_ok (hN : X.N = N) (hs : X.env.scope = sc) (hf : ∀ x, fb x = true → X.fn x = true) (nd : N.Nodup) (hc : X.calm = true) {own : Option (List Nat)} : ∀ (ts : List Tp) (xs : List Expr), chkPs N sc fb own ts xs = true → DGs X xs (bnds ts)
  | [], xs, h => by
    unfold chkPs at h
    split at h
    · unfold bnds; exact dgs_nil
    · cases h
  | t :: ts, xs, h => by
    unfold chkPs at h
    split at h
    · obtain ⟨h1, h2⟩ := band h
      obtain ⟨h2, h3⟩ := band h2
      unfold bnds
      exact dgs_cons h1 (bnd_ok hN hs hf nd hc t _ h2).1 (bnds_ok hN hs hf nd hc ts _ h3)
    · cases h
end
mutual
theorem bndw_ok (hN : X.N = N) (hs : X.env.scope = sc) (hf : ∀ x, fb x = true → X.fn x = true) (nd : N.Nodup) (hc : X.calm = true) {own : List Nat} : ∀ (t : Tp) (x : Expr), chkP N sc fb (some own) t x = true → DGw X own x (bnd t)
  | .nm i, x, h => by
    unfold chkP at h
    split at h
    · obtain ⟨h1, h2⟩ := band h
      obtain ⟨h2, h3⟩ := band h2
      obtain ⟨a, b⟩ := locB_ok h2
      unfold bnd
      exact dgw_name (hN ▸ nd) (hN ▸ of_decide_eq_true h1) (hs ▸ a) (b.imp (hf _) fun z => hs ▸ z) (List.contains_iff_mem.mp h3)
    · cases h
  | .tp ts, x, h => by
    unfold chkP at h
    split at h
    · obtain ⟨h1, h2⟩ := band h
      obtain ⟨h2, h3⟩ := band h2
      unfold bnd
      rw [of_decide_eq_true h1]
      exact dgw_tup hc h2 (bndws_ok hN hs hf nd hc ts _ h3)
    · cases h
theorem bndws_ok (hN : X.N = N) (hs : X.env.scope = sc) (hf : ∀ x, fb x = true → X.fn x = true) (nd : N.Nodup) (hc : X.calm = true) {own : List Nat} : ∀ (ts : List Tp) (xs : List Expr), chkPs N sc fb (some own) ts xs = true → DGws X own xs (bnds ts)
  | [], xs, h => by
    unfold chkPs at h
    split at h
    · unfold bnds; exact dgws_nil
    · cases h
  | t :: ts, xs, h => by
    unfold chkPs at h
    split at h
    · obtain ⟨h1, h2⟩ := band h
      obtain ⟨h2, h3⟩ := band h2
      unfold bnds
      exact dgws_cons h1 (bndw_ok hN hs hf nd hc t _ h2) (bndws_ok hN hs hf nd hc ts _ h3)
    · cases h
end
end

/-! ### trees -/
inductive E where
  | no
  | non
  | bl (b : Bool)
  | int (i : Int)
  | str (cs : List Nat)
  | var (i : Nat)
  | con (g : Nat) (d : D)
  | bin (o : Ar) (a b : E)
  | neg (a : E)
  | cmp (o : Cm) (a b : E)
  | chn (o o' : Cm) (a b c : E)
  | and (es : List E)
  | or (es : List E)
  | not (a : E)
  | ite (c a b : E)
  | tup (es : List E)
  | lst (es : List E)
  | ix (a b : E)
  | sl (a lo hi : E)
  | call (f : Nat) (es : List E)
  | bi (b : Bi) (es : List E)
  | isi (t : Ty) (a : E)
  | me (m : Me) (o : E) (es : List E)
  | lc (e : E) (t : Tp) (it c : E) (own : List Nat)
  | rng (es : List E)
  | lc2 (e : E) (t : Tp) (it c : E) (t1 : Tp) (it1 c1 : E) (own vs1 : List Nat)
  | dct (ks vs : List E)
  | rev (a : E)

/-- what a tree is worth: as a value, as a test, as what is walked, as a slice's bound -/
structure Sm where
  v : Env → S → Out D
  t : Env → S → Out Bool
  i : Env → S → Out Src
  o : Env → S → Out (Option Int)
def Sm.of (v : Env → S → Out D) : Sm := ⟨v, fun ρ s => (v ρ s).bind tru, fun ρ s => (v ρ s).bind srcOf, fun ρ s => asI (v ρ s)⟩
def Sm.ofT (v : Env → S → Out D) (t : Env → S → Out Bool) : Sm := ⟨v, t, fun ρ s => (v ρ s).bind srcOf, fun ρ s => asI (v ρ s)⟩
def argsV : List Sm → Env → S → Out (List D)
  | [], _, s => .ok [] s
  | m :: ms, ρ, s => (m.v ρ s).bind fun x s => (argsV ms ρ s).bind fun xs s => .ok (x :: xs) s
def andV : List Sm → Env → S → Out D
  | [], _, _ => .bad
  | [m], ρ, s => m.v ρ s
  | m :: m' :: ms, ρ, s => (m.v ρ s).bind fun x s => (tru x s).bind fun k s => if k = true then andV (m' :: ms) ρ s else .ok x s
def orV : List Sm → Env → S → Out D
  | [], _, _ => .bad
  | [m], ρ, s => m.v ρ s
  | m :: m' :: ms, ρ, s => (m.v ρ s).bind fun x s => (tru x s).bind fun k s => if k = true then .ok x s else orV (m' :: ms) ρ s
def andT : List Sm → Env → S → Out Bool
  | [], _, _ => .bad
  | [m], ρ, s => m.t ρ s
  | m :: m' :: ms, ρ, s => (m.t ρ s).bind fun k s => if k = true then andT (m' :: ms) ρ s else .ok false s
def orT : List Sm → Env → S → Out Bool
  | [], _, _ => .bad
  | [m], ρ, s => m.t ρ s
  | m :: m' :: ms, ρ, s => (m.t ρ s).bind fun k s => if k = true then .ok true s else orT (m' :: ms) ρ s
def pairsOf : List Sm → List Sm → List ((Env → S → Out D) × (Env → S → Out D))
  | k :: ks, v :: vs => (k.v, v.v) :: pairsOf ks vs
  | _, _ => []
def srcR : List D → S → Out Src
  | [a], s => src1 [a] s
  | [a, b], s => src2 [a, b] s
  | _, _ => .bad
mutual
def sem (Γ : Nat → List D → S → Out D) : E → Sm
  | .no => ⟨fun _ _ => .bad, fun _ s => .ok true s, fun _ _ => .bad, fun _ s => .ok none s⟩
  | .non => .of fun _ s => .ok .non s
  | .bl b => .of fun _ s => .ok (.bl b) s
  | .int i => .of fun _ s => .ok (.int i) s
  | .str cs => .of fun _ s => .ok (.str cs) s
  | .var i => .of fun ρ s => lk ρ i s
  | .con _ d => .of fun _ s => .ok d s
  | .bin o a b => .of fun ρ s => ((sem Γ a).v ρ s).bind fun x s => ((sem Γ b).v ρ s).bind fun y s => o.f x y s
  | .neg a => .of fun ρ s => ((sem Γ a).v ρ s).bind fun x s => opNeg x s
  | .cmp o a b => .ofT (fun ρ s => ((sem Γ a).v ρ s).bind fun x s => ((sem Γ b).v ρ s).bind fun y s => o.f x y s)
      (fun ρ s => ((sem Γ a).v ρ s).bind fun x s => ((sem Γ b).v ρ s).bind fun y s => asB (o.f x y s))
  | .chn o o' a b c => .ofT (fun ρ s => ((sem Γ a).v ρ s).bind fun x s => ((sem Γ b).v ρ s).bind fun y s => (asB (o.f x y s)).bind fun q s => if q = true then ((sem Γ c).v ρ s).bind fun z s => o'.f y z s else .ok (.bl false) s)
      (fun ρ s => ((sem Γ a).v ρ s).bind fun x s => ((sem Γ b).v ρ s).bind fun y s => (asB (o.f x y s)).bind fun q s => if q = true then ((sem Γ c).v ρ s).bind fun z s => asB (o'.f y z s) else .ok false s)
  | .and es => .ofT (andV (sems Γ es)) (andT (sems Γ es))
  | .or es => .ofT (orV (sems Γ es)) (orT (sems Γ es))
  | .not a => .ofT (fun ρ s => ((sem Γ a).v ρ s).bind fun x s => (tru x s).bind fun k s => .ok (.bl (!k)) s) (fun ρ s => ((sem Γ a).t ρ s).bind fun k s => .ok (!k) s)
  | .ite c a b => .ofT (fun ρ s => ((sem Γ c).t ρ s).bind fun k s => if k = true then (sem Γ a).v ρ s else (sem Γ b).v ρ s) (fun _ _ => .bad)
  | .tup es => .of fun ρ s => (argsV (sems Γ es) ρ s).bind mkTup
  | .lst es => .of fun ρ s => (argsV (sems Γ es) ρ s).bind mkLst
  | .ix a b => .of fun ρ s => ((sem Γ a).v ρ s).bind fun x s => ((sem Γ b).v ρ s).bind fun y s => opIx x y s
  | .sl a lo hi => .of fun ρ s => ((sem Γ a).v ρ s).bind fun x s => ((sem Γ lo).o ρ s).bind fun i s => ((sem Γ hi).o ρ s).bind fun j s => opSl x i j s
  | .call f es => .of fun ρ s => (argsV (sems Γ es) ρ s).bind (Γ f)
  | .bi b es => .of fun ρ s => (argsV (sems Γ es) ρ s).bind b.f
  | .isi t a => .of fun ρ s => ((sem Γ a).v ρ s).bind (opIsi t)
  | .me m o es => .of fun ρ s => ((sem Γ o).v ρ s).bind fun d s => if tyIs m.T s d = true then (argsV (sems Γ es) ρ s).bind fun ds s => m.f d ds s else .bad
  | .lc e t it c own => .of (lcV (sem Γ it).i (bnd t) (sem Γ c).t (sem Γ e).v own)
  | .rng es => ⟨fun _ _ => .bad, fun _ _ => .bad, fun ρ s => (argsV (sems Γ es) ρ s).bind srcR, fun _ _ => .bad⟩
  | .lc2 e t it c t1 it1 c1 own vs1 => .of (lcV2 (sem Γ it).i (bnd t) (sem Γ c).t (sem Γ it1).i (bnd t1) (sem Γ c1).t (sem Γ e).v own vs1)
  | .dct ks vs => .of (dctV (pairsOf (sems Γ ks) (sems Γ vs)))
  | .rev a => .of fun ρ s => ((sem Γ a).v ρ s).bind opRev
def sems (Γ : Nat → List D → S → Out D) : List E → List Sm
  | [] => []
  | e :: es => sem Γ e :: sems Γ es
end
/-- shorter: as values, tests -/
abbrev ev (Γ : Nat → List D → S → Out D) (e : E) : Env → S → Out D := (sem Γ e).v
abbrev evT (Γ : Nat → List D → S → Out D) (e : E) : Env → S → Out Bool := (sem Γ e).t

/-! ### the check -/
/-- what a program's text is told by: its defs' names and how many parameters they take; its constants; names that the module leaves to the builtins -/
structure Ck where
  fns : List (Str × Nat)
  cons : List (Str × D)
  free : List Str
  /-- own exceptions: the class, its field -/
  exc : List (Str × Option Str) := []
  /-- what except clauses name; which own exceptions it takes -/
  hds : List (Str × List Nat) := []
  /-- not within an except suite -/
  calm : Bool := true
def visB (sc : Scope) (x : Str) : Bool := match sc.names.lookup x with
  | some .local => true
  | some .cell => true
  | some .free => true
  | _ => false
theorem visB_ok {sc : Scope} {x : Str} (h : visB sc x = true) : Vis sc x := by
  unfold visB at h
  split at h
  · exact .inl ‹_›
  · exact .inr (.inl ‹_›)
  · exact .inr (.inr ‹_›)
  · cases h
def gloB (sc : Scope) (x : Str) : Bool := decide (sc.names.lookup x = some .globalImplicit)
def plainN (x : Str) : Bool := !(x == ("__debug__" : Str)) && !(x == ("__classdict__" : Str))
theorem plainN_ok {x : Str} (h : plainN x = true) : (x == ("__debug__" : Str)) = false ∧ (x == ("__classdict__" : Str)) = false := by
  obtain ⟨a, b⟩ := band h
  exact ⟨by simpa using a, by simpa using b⟩
def nolookB (op : CmpOp) (y : Expr) : Bool := !behindInMarks op y
/-- own names of a block -/
def ownOf (N : List Str) (own : List Nat) : List (Str × Nat) := own.map fun i => (N.getD i "", i)
theorem ownOf_snd (N : List Str) (own : List Nat) : (ownOf N own).map (·.2) = own := by
  unfold ownOf; rw [List.map_map]
  exact List.map_id'' (fun _ => rfl) own
def blkB (N : List Str) (sc scope : Scope) (own : List Nat) : Bool :=
  decide (scope.kind = .function) && ((scope.names.all fun y => decide (scope.names.lookup y.1 = some y.2)) && ((own.all fun i => decide (i < N.length)) &&
    ((scope.names.all fun y => match y.2 with
      | .free => (match sc.names.lookup y.1 with | some .cell => true | some .free => true | _ => false)
      | .local => ((ownOf N own).map (·.1)).contains y.1 || !N.contains y.1
      | .cell => ((ownOf N own).map (·.1)).contains y.1 || !N.contains y.1
      | _ => true))))
theorem blkB_ok {N : List Str} {sc scope : Scope} {own : List Nat} (h : blkB N sc scope own = true) : BlkOk N sc scope (ownOf N own) := by
  obtain ⟨h1, h2⟩ := band h
  obtain ⟨h2, h3⟩ := band h2
  obtain ⟨h3, h4⟩ := band h3
  rw [List.all_eq_true] at h2 h3 h4
  refine ⟨of_decide_eq_true h1, fun y hy => of_decide_eq_true (h2 y hy), fun p hp => ?_, fun y hy e => ?_, fun y hy e => ?_⟩
  · unfold ownOf at hp
    obtain ⟨i, hi, rfl⟩ := List.mem_map.mp hp
    have := of_decide_eq_true (h3 i hi)
    show N[i]? = some (N.getD i "")
    rw [List.getD_eq_getElem?_getD, List.getElem?_eq_getElem this]
    rfl
  · have := h4 y hy
    rw [e] at this
    dsimp only at this
    split at this
    · exact .inl ‹_›
    · exact .inr ‹_›
    · cases this
  · have := h4 y hy
    have k : (((ownOf N own).map (·.1)).contains y.1 || !N.contains y.1) = true := by
      rcases e with e | e <;> rw [e] at this <;> exact this
    rw [Bool.or_eq_true] at k
    rcases k with k | k
    · exact .inl (List.contains_iff_mem.mp k)
    · right
      intro z
      rw [List.contains_iff_mem.mpr z] at k
      cases k
def isTupX : Expr → Bool
  | .Tuple .. => true
  | _ => false
def bfB (b : Bi) : Str → Bool := fun y => decide (y = b.nm)
mutual
def chkE (C : Ck) (N : List Str) (sc : Scope) (fb : Str → Bool) : E → Expr → Bool
  | .no, _ => false
  | .non, x => match x with
    | .Constant .none _ _ => true
    | _ => false
  | .bl b, x => match x with
    | .Constant (.bool c) _ _ => decide (c = b)
    | _ => false
  | .int i, x => match x with
    | .Constant (.int j) _ _ => decide (j = i)
    | _ => false
  | .str cs, x => match x with
    | .Constant (.str y) _ _ => decide (y = ⟨cs.toArray⟩) && okS cs
    | _ => false
  | .var i, x => match x with
    | .Name y _ => decide (N[i]? = some y) && (visB sc y && plainN y)
    | _ => false
  | .con g d, x => match x with
    | .Name y _ => decide (C.cons[g]? = some (y, d)) && (gloB sc y && plainN y)
    | _ => false
  | .bin o a b, x => match x with
    | .BinOp y op z _ => decide (op = o.op) && (chkE C N sc fb a y && chkE C N sc fb b z)
    | _ => false
  | .neg a, x => match x with
    | .UnaryOp op y _ => decide (op = .USub) && chkE C N sc fb a y
    | _ => false
  | .cmp o a b, x => match x with
    | .Compare y [op] [z] _ => decide (op = o.op) && (nolookB op z && (chkE C N sc fb a y && chkE C N sc fb b z))
    | _ => false
  | .chn o o' a b c, x => match x with
    | .Compare y [op, op'] [z, u] _ => decide (op = o.op) && (decide (op' = o'.op) && (!lastMarks [op, op'] [z, u] && (chkE C N sc fb a y && (chkE C N sc fb b z && chkE C N sc fb c u))))
    | _ => false
  | .and es, x => match x with
    | .BoolOp op ys _ => decide (op = .And) && chkEs C N sc fb es ys
    | _ => false
  | .or es, x => match x with
    | .BoolOp op ys _ => decide (op = .Or) && chkEs C N sc fb es ys
    | _ => false
  | .not a, x => match x with
    | .UnaryOp op y _ => decide (op = .Not) && chkE C N sc fb a y
    | _ => false
  | .ite c a b, x => match x with
    | .IfExp u y z _ => chkE C N sc fb c u && (chkE C N sc fb a y && chkE C N sc fb b z)
    | _ => false
  | .tup es, x => match x with
    | .Tuple ys _ _ => chkEs C N sc fb es ys
    | _ => false
  | .lst es, x => match x with
    | .List ys _ => chkEs C N sc fb es ys
    | _ => false
  | .ix a b, x => match x with
    | .Subscript y z _ => notSlice z && (chkE C N sc fb a y && chkE C N sc fb b z)
    | _ => false
  | .sl a lo hi, x => match x with
    | .Subscript y (.Slice l h none _) _ => chkE C N sc fb a y && ((match l with | none => (match lo with | .no => true | _ => false) | some l => chkE C N sc fb lo l) && (match h with | none => (match hi with | .no => true | _ => false) | some h => chkE C N sc fb hi h))
    | _ => false
  | .call f es, x => match x with
    | .Call (.Name y _) ys [] _ => decide (C.fns[f]? = some (y, es.length)) && (gloB sc y && (plainN y && chkEs C N sc fb es ys))
    | _ => false
  | .bi b es, x => match x with
    | .Call (.Name y _) ys [] _ => decide (y = b.nm) && ((!b.calm || C.calm) && (C.free.contains y && (gloB sc y && (!ys.isEmpty && chkEs C N sc fb es ys))))
    | _ => false
  | .isi t a, x => match x with
    | .Call (.Name f _) [y, .Name u _] [] _ => decide (f = "isinstance") && (C.free.contains f && (gloB sc f && (decide (t ≠ .non) && (C.free.contains u && (gloB sc u && (decide (u = Str.ofString t.name) && chkE C N sc fb a y))))))
    | _ => false
  | .me m o es, x => match x with
    | .Call (.Attribute y n apos) ys [] cpos => decide (n = m.nm) && (plainBase y && ((apos.endLine == cpos.line) && (decide (ys.length < 30) && (chkE C N sc fb o y && chkEs C N sc fb es ys))))
    | _ => false
  | .lc e t it c own, x => match x with
    | .ListComp elt [⟨tg, iter, ifs, as⟩] scope _ => decide (as = 0 ∧ C.calm = true) && (chkE C N sc fb it iter && (notSet iter && (blkB N sc scope own && (chkP N (relS scope sc) (fun x => scope.names.lookup x == some .cell) (some own) t tg &&
        (chkE C N (relS scope sc) (fun x => scope.names.lookup x == some .cell) e elt && (match ifs with
          | [] => (match c with | .no => true | _ => false)
          | [z] => chkE C N (relS scope sc) (fun x => scope.names.lookup x == some .cell) c z
          | _ => false))))))
    | _ => false
  | .rng es, x => match x with
    | .Call (.Name y _) ys [] _ => decide (y = "range") && (C.free.contains y && (gloB sc y && (!ys.isEmpty && (decide (ys.length ≤ 2) && chkEs C N sc fb es ys))))
    | _ => false
  | .lc2 e t it c t1 it1 c1 own vs1, x => match x with
    | .ListComp elt [⟨tg, iter, ifs, as⟩, ⟨tg1, iter1, ifs1, as1⟩] scope _ => decide (as = 0 ∧ C.calm = true) && (decide (as1 = 0) && (chkE C N sc fb it iter && (notSet iter && (notSet iter1 && (blkB N sc scope own && (vs1.all own.contains && (chkP N (relS scope sc) (fun x => scope.names.lookup x == some .cell) (some own) t tg &&
        (chkP N (relS scope sc) (fun x => scope.names.lookup x == some .cell) (some vs1) t1 tg1 && (chkE C N (relS scope sc) (fun x => scope.names.lookup x == some .cell) it1 iter1 &&
        (chkE C N (relS scope sc) (fun x => scope.names.lookup x == some .cell) e elt && ((match ifs with
          | [] => (match c with | .no => true | _ => false)
          | [z] => chkE C N (relS scope sc) (fun x => scope.names.lookup x == some .cell) c z
          | _ => false) && (match ifs1 with
          | [] => (match c1 with | .no => true | _ => false)
          | [z] => chkE C N (relS scope sc) (fun x => scope.names.lookup x == some .cell) c1 z
          | _ => false))))))))))))
    | _ => false
  | .dct ks vs, x => match x with
    | .Dict us ws _ => decide (us.length ≤ 15) && (decide (us.length = ws.length) && (chkOs C N sc fb ks us && chkEs C N sc fb vs ws))
    | _ => false
  | .rev a, x => match x with
    | .Subscript y (.Slice none none (some (.UnaryOp .USub (.Constant (.int 1) _ _) _)) _) _ => chkE C N sc fb a y
    | _ => false
def chkOs (C : Ck) (N : List Str) (sc : Scope) (fb : Str → Bool) : List E → List (Option Expr) → Bool
  | [], xs => match xs with
    | [] => true
    | _ => false
  | e :: es, xs => match xs with
    | some y :: ys => chkE C N sc fb e y && chkOs C N sc fb es ys
    | _ => false
def chkEs (C : Ck) (N : List Str) (sc : Scope) (fb : Str → Bool) : List E → List Expr → Bool
  | [], xs => match xs with
    | [] => true
    | _ => false
  | e :: es, xs => match xs with
    | y :: ys => chkE C N sc fb e y && chkEs C N sc fb es ys
    | _ => false
end
end Fe

set_option maxHeartbeats 2000000
/-! Fe 13: checked expressions are worth what their trees are worth. -/
namespace Fe
open PySem PySem.Spec PyProof.Rows L2
example : (sem (fun _ _ _ => .bad) (.bin .add (.int 1) (.int 2))).v [] [] = .ok (.int 3) [] := rfl

/-- a def that can be called here -/
def FnUse (X : Cx) (G : Gc) (F : List D → S → Out D) (x : Str) (n : Nat) : Prop :=
  ∃ (k : Nat) (f : Addr) (fd : FuncData) (ps : List Str), ps.length = n ∧ FnG X.prog X.w X.K X.mg X.base G k f fd ps F ∧ Room k X.A ∧ X.mg x = some (.ref f) ∧ PySem.W.keepIn X.K (.ref f) = true ∧ Binds X.K fd ps [] ∧ ∀ ds s, F ds s ≠ .bad → ds.length = n
structure Okx (C : Ck) (Γ : Nat → List D → S → Out D) (N : List Str) (sc : Scope) (fb : Str → Bool) (X : Cx) (G : Gc) (W : WX) : Prop where
  eN : X.N = N
  eS : X.env.scope = sc
  eF : ∀ x, fb x = true → X.fn x = true
  nd : N.Nodup
  calm : C.calm = true → X.calm = true
  tk : Takes X W
  hu : X.A.units + 65 < cLine
  gd : X.A.guards = some []
  fns : ∀ (f : Nat) (x : Str) (n : Nat), C.fns[f]? = some (x, n) → FnUse X G (Γ f) x n
  cons : ∀ (g : Nat) (x : Str) (d : D), C.cons[g]? = some (x, d) → ∃ v u, X.mg x = some u ∧ RelV v u ∧ ∀ μ H, RelD X.K μ H d v
  free : ∀ x ∈ C.free, X.mg x = none
theorem Okx.blk {C : Ck} {Γ : Nat → List D → S → Out D} {N : List Str} {sc : Scope} {fb : Str → Bool} {X : Cx} {G : Gc} {W : WX} (h : Okx C Γ N sc fb X G W) (s : Shared) (H : Hp) (scope : Scope) (A : Addr) (cl : List (Str × Addr)) (fp : List Addr) :
    Okx C Γ N (relS scope sc) (fun x => scope.names.lookup x == some .cell) (X.blk s H scope (compEnvC scope cl A X.env) fp) G noX :=
  ⟨h.eN, by show relS scope X.env.scope = _; rw [h.eS], fun x e => e, h.nd, h.calm, fun u s' ⟨_, _, _, _, _, _, _, _, _, _, _, _, _, _, _, _, w⟩ => w.elim, h.hu, h.gd, h.fns, h.cons, h.free⟩

/-- an expression is worth m -/
structure Snd (X : Cx) (G : Gc) (W : WX) (x : Expr) (m : Sm) : Prop where
  v : DE X G W x m.v
  t : DT X G W x m.t
  i : ∀ tg, DI X G W tg x m.i
  o : DO X G W (some x) m.o
  ns : notStar x = true
inductive Snds (X : Cx) (G : Gc) (W : WX) : List Expr → List Sm → Prop
  | nil : Snds X G W [] []
  | cons {x m xs ms} : Snd X G W x m → Snds X G W xs ms → Snds X G W (x :: xs) (m :: ms)
section
variable {X : Cx} {G : Gc} {W : WX} {C : Ck} {Γ : Nat → List D → S → Out D} {N : List Str} {sc : Scope} {fb : Str → Bool}
theorem Snd.of {x : Expr} {v : Env → S → Out D} (h : DE X G W x v) (he : ∀ whole, isTrue x X.env whole = (do let v ← whole; standAt x.pos; holding [v] (truthy v))) (ns : notStar x = true) : Snd X G W x (.of v) :=
  ⟨h, dt_truth h he, fun tg => di_exp h, do_some h, ns⟩
theorem Snd.ofT {x : Expr} {v : Env → S → Out D} {t : Env → S → Out Bool} (h : DE X G W x v) (ht : DT X G W x t) (ns : notStar x = true) : Snd X G W x (.ofT v t) :=
  ⟨h, ht, fun tg => di_exp h, do_some h, ns⟩
theorem Snds.args {xs : List Expr} {ms : List Sm} (h : Snds X G W xs ms) : DA X G W xs (argsV ms) := by
  induction h with
  | nil => exact da_nil
  | cons a b ih => exact da_cons a.ns a.v ih
theorem Snds.ns {xs : List Expr} {ms : List Sm} (h : Snds X G W xs ms) : xs.all notStar = true := by
  induction h with
  | nil => rfl
  | cons a b ih => rw [List.all_cons, a.ns, ih]; rfl
theorem dt_bad {x : Expr} : DT X G W x fun _ _ => .bad := ⟨fun _ _ _ _ _ _ ⟨_, _, _, _, _, h⟩ => h.elim⟩
theorem de_bad {x : Expr} : DE X G W x fun _ _ => .bad := ⟨fun _ _ _ _ _ _ ⟨_, _, _, _, _, h⟩ => h.elim⟩
theorem do_bad {x : Option Expr} : DO X G W x fun _ _ => .bad := ⟨fun _ _ _ _ _ _ ⟨_, _, _, _, _, h⟩ => h.elim⟩
theorem di_bad {tg x : Expr} : DI X G W tg x fun _ _ => .bad := ⟨fun _ _ _ _ _ _ ⟨_, _, _, _, _, h⟩ => h.elim⟩
theorem snd_and {pos : Pos} : ∀ {xs : List Expr} {ms : List Sm}, Snds X G W xs ms → DE X G W (.BoolOp .And xs pos) (andV ms) ∧ DW X G W (.BoolOp .And xs pos) (andT ms)
  | _, _, .nil => ⟨de_bad, ⟨fun _ _ _ _ _ _ _ ⟨_, _, _, _, _, h⟩ => h.elim⟩⟩
  | _, _, .cons a .nil => ⟨de_one a.v, dw_and1 a.t⟩
  | _, _, .cons a (.cons b c) => ⟨de_and a.v (snd_and (.cons b c)).1, dw_and a.t (snd_and (.cons b c)).2⟩
theorem snd_or {pos : Pos} : ∀ {xs : List Expr} {ms : List Sm}, Snds X G W xs ms → DE X G W (.BoolOp .Or xs pos) (orV ms) ∧ DW X G W (.BoolOp .Or xs pos) (orT ms)
  | _, _, .nil => ⟨de_bad, ⟨fun _ _ _ _ _ _ _ ⟨_, _, _, _, _, h⟩ => h.elim⟩⟩
  | _, _, .cons a .nil => ⟨de_one a.v, dw_or1 a.t⟩
  | _, _, .cons a (.cons b c) => ⟨de_or a.v (snd_or (.cons b c)).1, dw_or a.t (snd_or (.cons b c)).2⟩
theorem gl_of (ok : Okx C Γ N sc fb X G W) {x : Str} (h : gloB sc x = true) : Gl X x := by
  unfold Gl PySem.Env.kindOf
  rw [ok.eS]
  exact of_decide_eq_true h
theorem free_of (ok : Okx C Γ N sc fb X G W) {x : Str} (h : C.free.contains x = true) : X.mg x = none := ok.free x (List.contains_iff_mem.mp h)
theorem ty_boot (t : Ty) (h : t ≠ .non) : bootBuiltins (Str.ofString t.name) = some (.type t.name) ∧ Str.ofString t.name ≠ "__name__" ∧ (Str.ofString t.name == ("__debug__" : Str)) = false := by
  cases t with
  | non => exact absurd rfl h
  | _ => decide +kernel
theorem snd_call (ok : Okx C Γ N sc fb X G W) {f : Nat} {y : Str} {xs : List Expr} {ms : List Sm} {n : Nat} {p pos : Pos} (hf : C.fns[f]? = some (y, n)) (hg : gloB sc y = true) (hp : plainN y = true) (hs : Snds X G W xs ms) :
    DE X G W (.Call (.Name y p) xs [] pos) (fun ρ s => (argsV ms ρ s).bind (Γ f)) := by
  obtain ⟨k, fa, fd, ps, hl, F, hr, hm, hk, hb, hn⟩ := ok.fns f y n hf
  subst hl
  cases hs with
  | nil => exact de_call0 F hn hr ok.gd (gl_of ok hg) hm hk hb ok.tk (plainN_ok hp).1
  | cons a b => exact de_call F hn hr ok.gd (gl_of ok hg) hm hk hb ok.tk (Snds.cons a b).args (plainN_ok hp).1 a.ns b.ns
theorem snd_bi (ok : Okx C Γ N sc fb X G W) {b : Bi} {xs : List Expr} {ms : List Sm} {p pos : Pos} (hcm : (!b.calm || C.calm) = true) (hf : C.free.contains b.nm = true) (hg : gloB sc b.nm = true) (h0 : xs.isEmpty = false) (hs : Snds X G W xs ms) :
    DE X G W (.Call (.Name b.nm p) xs [] pos) (fun ρ s => (argsV ms ρ s).bind b.f) := by
  obtain ⟨r, hc, hk⟩ := bi_all (X := X) (G := G) b (fun hb => ok.calm (by
    rw [hb] at hcm
    exact hcm)) ok.gd ok.hu
  have hv := bi_boot b
  cases hs with
  | nil => cases h0
  | cons a c =>
    rcases bi_v b with ⟨id, e⟩ | ⟨T, e⟩
    · rw [e] at hc hv
      exact de_bi hc hk (gl_of ok hg) (free_of ok hf) hv (Snds.cons a c).args (bi_nm b).1 (bi_nm b).2 a.ns c.ns
    · rw [e] at hc hv
      exact de_ty hc hk (gl_of ok hg) (free_of ok hf) hv (Snds.cons a c).args (bi_nm b).1 (bi_nm b).2 a.ns c.ns
theorem snd_me (ok : Okx C Γ N sc fb X G W) {m : Me} {y : Expr} {xs : List Expr} {mo : Sm} {ms : List Sm} {apos cpos : Pos} (hb : plainBase y = true) (hl : (apos.endLine == cpos.line) = true) (h30 : xs.length < 30) (ho : Snd X G W y mo) (hs : Snds X G W xs ms) :
    DE X G W (.Call (.Attribute y m.nm apos) xs [] cpos) (fun ρ s => (mo.v ρ s).bind fun d s => if tyIs m.T s d = true then (argsV ms ρ s).bind fun ds s => m.f d ds s else .bad) := by
  obtain ⟨pa, sl, ty, r, hm, hk⟩ := me_all (X := X) (G := G) ok.hu m
  cases hs with
  | nil => exact de_me0 pa sl ty hm hk ho.v hb hl
  | cons a b => exact de_me pa sl ty hm hk ho.v (Snds.cons a b).args hb hl a.ns b.ns h30
theorem snd_rng (ok : Okx C Γ N sc fb X G W) {xs : List Expr} {ms : List Sm} {p pos : Pos} (hf : C.free.contains "range" = true) (hg : gloB sc "range" = true) (h0 : xs.isEmpty = false) (h2 : xs.length ≤ 2) (hs : Snds X G W xs ms) (tg : Expr) :
    DI X G W tg (.Call (.Name "range" p) xs [] pos) (fun ρ s => (argsV ms ρ s).bind srcR) := by
  have key : ∀ (k : List D → S → Out Src), (∀ ds s, srcR ds s ≠ .bad → ds.length = xs.length) → True := fun _ _ => trivial
  cases hs with
  | nil => cases h0
  | cons a c =>
    cases c with
    | nil =>
      refine pi_imp (di_range1 (gl_of ok hg) (free_of ok hf) a.ns (Snds.cons a .nil).args) fun σ H R ⟨μ, ρ, s, r, re, h⟩ => ⟨μ, ρ, s, r, re, ?_⟩
      refine Eq.mp (congrArg (fun o => Fin X.K G μ H (fun c d H' => W c d σ H') o (qI X.K R)) ?_) h
      show ((argsV [_] ρ s).bind srcR) = ((argsV [_] ρ s).bind src1)
      unfold argsV
      cases e : (Sm.v _ ρ s) with
      | ok d s1 => rfl
      | exc c s1 => rfl
      | bad => rfl
    | cons b d =>
      cases d with
      | nil =>
        refine pi_imp (di_range2 (gl_of ok hg) (free_of ok hf) a.ns b.ns (Snds.cons a (.cons b .nil)).args) fun σ H R ⟨μ, ρ, s, r, re, h⟩ => ⟨μ, ρ, s, r, re, ?_⟩
        refine Eq.mp (congrArg (fun o => Fin X.K G μ H (fun c d H' => W c d σ H') o (qI X.K R)) ?_) h
        show ((argsV [_, _] ρ s).bind srcR) = ((argsV [_, _] ρ s).bind src2)
        unfold argsV argsV
        cases e : (Sm.v _ ρ s) with
        | ok d s1 =>
          show ((((Sm.v _ ρ s1).bind _).bind _).bind srcR) = ((((Sm.v _ ρ s1).bind _).bind _).bind src2)
          cases e2 : (Sm.v _ ρ s1) with
          | ok d2 s2 => rfl
          | exc c s1 => rfl
          | bad => rfl
        | exc c s1 => rfl
        | bad => rfl
      | cons d e => simp at h2
end
end Fe

set_option maxHeartbeats 4000000
/-! Fe 14: checked expressions are worth what their trees are worth. -/
namespace Fe
open PySem PySem.Spec PyProof.Rows L2
section
variable {G : Gc} {C : Ck} {Γ : Nat → List D → S → Out D} {N : List Str}
theorem sl_bound {X : Cx} {W : WX} {l : Option Expr} {lo : E} {sc : Scope} {fb : Str → Bool} (h : (match l with | none => (match lo with | .no => true | _ => false) | some l => chkE C N sc fb lo l) = true) (ih : ∀ x, chkE C N sc fb lo x = true → Snd X G W x (sem Γ lo)) : DO X G W l (sem Γ lo).o := by
  cases l with
  | none =>
    cases lo with
    | no => unfold sem; exact do_none
    | _ => cases h
  | some l => exact (ih l h).o
theorem dps_of {X : Cx} {W : WX} : ∀ {ks vs : List Expr} {ms ns : List Sm}, Snds X G W ks ms → Snds X G W vs ns → ks.length = vs.length → DPs X G W ks vs (pairsOf ms ns)
  | _, _, _, _, .nil, .nil, _ => .nil
  | _, _, _, _, .cons a b, .cons c d, h => .cons a.v c.v (dps_of b d (by simpa using h))
  | _, _, _, _, .nil, .cons _ _, h => by simp at h
  | _, _, _, _, .cons _ _, .nil, h => by simp at h
theorem snd_dct {X : Cx} {W : WX} {ks vs : List Expr} {ms ns : List Sm} {pos : Pos} (a : Snds X G W ks ms) (b : Snds X G W vs ns) (hl : ks.length = vs.length) (h15 : ks.length ≤ 15) : DE X G W (.Dict (ks.map some) vs pos) (dctV (pairsOf ms ns)) := by
  cases a with
  | nil =>
    cases b with
    | nil => exact de_dct0
    | cons _ _ => simp at hl
  | cons x y =>
    cases b with
    | nil => simp at hl
    | cons z u => exact de_dct (dps_of (.cons x y) (.cons z u) hl) (by simpa using hl) h15
theorem de_rev {X : Cx} {W : WX} {e : Expr} {f : Env → S → Out D} {k : Nat} {p1 p2 p3 pos : Pos} (he : DE X G W e f) : DE X G W (.Subscript e (.Slice none none (some (.UnaryOp .USub (.Constant (.int 1) k p1) p2)) p3) pos) (fun ρ s => (f ρ s).bind opRev) :=
  pe_imp (pe_revL he) fun σ H Q ⟨μ, ρ, s, rr, re, h⟩ => d1 rr re h fun d s1 μ1 H1 v x1 r1 re1 rv h1 => by
    cases d with
    | ref i =>
      have h1' : Fin X.K G μ1 H1 (fun c d H' => W c d σ H') (match getL s1 i with | some ds => .ok (.ref s1.length) (s1 ++ [.lst ds.reverse]) | none => .bad) (qD X.K Q) := h1
      split at h1'
      · rename_i ds e
        obtain ⟨a, vs, rfl, ha, q, t⟩ := getL_ok r1 rv e
        exact ⟨a, vs, rfl, q, fun p hp => lst_fin r1 t.reverse h1' hp⟩
      · exact h1'.elim
    | _ => exact h1.elim
mutual
theorem snd_ok : ∀ (e : E) {X : Cx} {sc : Scope} {fb : Str → Bool} {W : WX} (_ : Okx C Γ N sc fb X G W) (x : Expr), chkE C N sc fb e x = true → Snd X G W x (sem Γ e)
  | .no, _, _, _, _, ok, x, h => by unfold chkE at h; cases h
  | .non, _, _, _, _, ok, x, h => by
    unfold chkE at h; unfold sem
    split at h
    · exact .of de_non (fun _ => rfl) rfl
    · cases h
  | .bl b, _, _, _, _, ok, x, h => by
    unfold chkE at h; unfold sem
    split at h
    · rw [of_decide_eq_true h]; exact .of de_bl (fun _ => rfl) rfl
    · cases h
  | .int b, _, _, _, _, ok, x, h => by
    unfold chkE at h; unfold sem
    split at h
    · rw [of_decide_eq_true h]; exact .of de_int (fun _ => rfl) rfl
    · cases h
  | .str b, _, _, _, _, ok, x, h => by
    unfold chkE at h; unfold sem
    split at h
    · simp only [Bool.and_eq_true] at h
      obtain ⟨h1, h2⟩ := h
      rw [of_decide_eq_true h1]; exact .of (de_str h2) (fun _ => rfl) rfl
    · cases h
  | .var i, _, _, _, _, ok, x, h => by
    unfold chkE at h; unfold sem
    split at h
    · simp only [Bool.and_eq_true] at h
      obtain ⟨h1, h2, h3⟩ := h
      have q := visB_ok h2
      rw [← ok.eS] at q
      exact .of (de_var (ok.eN ▸ of_decide_eq_true h1) q (plainN_ok h3).1 (plainN_ok h3).2) (fun _ => rfl) rfl
    · cases h
  | .con g d, _, _, _, _, ok, x, h => by
    unfold chkE at h; unfold sem
    split at h
    · simp only [Bool.and_eq_true] at h
      obtain ⟨h1, h2, h3⟩ := h
      obtain ⟨v, u, hm, rv, hd⟩ := ok.cons g _ d (of_decide_eq_true h1)
      exact .of (de_glo (gl_of ok h2) hm rv (plainN_ok h3).1 hd) (fun _ => rfl) rfl
    · cases h
  | .bin o a b, _, _, _, _, ok, x, h => by
    unfold chkE at h; unfold sem
    split at h
    · simp only [Bool.and_eq_true] at h
      obtain ⟨h1, h2, h3⟩ := h
      obtain ⟨r, ho, hk⟩ := ar_all (X := _) (G := G) o
      rw [of_decide_eq_true h1]
      exact .of (de_bin ho (snd_ok a ok _ h2).v (snd_ok b ok _ h3).v hk) (fun _ => rfl) rfl
    · cases h
  | .neg a, _, _, _, _, ok, x, h => by
    unfold chkE at h; unfold sem
    split at h
    · simp only [Bool.and_eq_true] at h
      obtain ⟨h1, h2⟩ := h
      rw [of_decide_eq_true h1]
      exact .of (de_un un_neg (snd_ok a ok _ h2).v neg_ok) (fun _ => rfl) rfl
    · cases h
  | .cmp o a b, _, _, _, _, ok, x, h => by
    unfold chkE at h; unfold sem
    split at h
    · simp only [Bool.and_eq_true] at h
      obtain ⟨h1, h2, h3, h4⟩ := h
      obtain ⟨r, ho, hk⟩ := cm_all (G := G) ok.hu o
      have h5 := of_decide_eq_true h1
      subst h5
      have m : ∀ z, nolookB o.op z = true → behindInMarks o.op z = false := fun z h => by unfold nolookB at h; simpa using h
      exact .ofT (de_cmp ho (snd_ok a ok _ h3).v (snd_ok b ok _ h4).v (m _ h2) hk) (dt_cmp ho (snd_ok a ok _ h3).v (snd_ok b ok _ h4).v (m _ h2) hk) rfl
    · cases h
  | .chn o o' a b c, _, _, _, _, ok, x, h => by
    unfold chkE at h; unfold sem
    split at h
    · simp only [Bool.and_eq_true] at h
      obtain ⟨h1, h2, h3, h4, h5, h6⟩ := h
      obtain ⟨r, ho, hk⟩ := cm_all (G := G) ok.hu o
      obtain ⟨r', ho', hk'⟩ := cm_all (G := G) ok.hu o'
      have h7 := of_decide_eq_true h1
      have h8 := of_decide_eq_true h2
      subst h7 h8
      have m : ∀ z u, (!lastMarks [o.op, o'.op] [z, u]) = true → lastMarks [o.op, o'.op] [z, u] = false := fun z u h => by simpa using h
      exact .ofT (de_chain ho ho' (snd_ok a ok _ h4).v (snd_ok b ok _ h5).v (snd_ok c ok _ h6).v (m _ _ h3) hk hk') (dt_chain ho ho' (snd_ok a ok _ h4).v (snd_ok b ok _ h5).v (snd_ok c ok _ h6).v (m _ _ h3) hk hk') rfl
    · cases h
  | .and es, _, _, _, _, ok, x, h => by
    unfold chkE at h; unfold sem
    split at h
    · simp only [Bool.and_eq_true] at h
      obtain ⟨h1, h2⟩ := h
      rw [of_decide_eq_true h1]
      have q := snds_ok es ok _ h2
      exact .ofT (snd_and q).1 (snd_and q).2.pt rfl
    · cases h
  | .or es, _, _, _, _, ok, x, h => by
    unfold chkE at h; unfold sem
    split at h
    · simp only [Bool.and_eq_true] at h
      obtain ⟨h1, h2⟩ := h
      rw [of_decide_eq_true h1]
      have q := snds_ok es ok _ h2
      exact .ofT (snd_or q).1 (snd_or q).2.pt rfl
    · cases h
  | .not a, _, _, _, _, ok, x, h => by
    unfold chkE at h; unfold sem
    split at h
    · simp only [Bool.and_eq_true] at h
      obtain ⟨h1, h2⟩ := h
      rw [of_decide_eq_true h1]
      exact .ofT (de_not (snd_ok a ok _ h2).v) (dt_not (snd_ok a ok _ h2).t) rfl
    · cases h
  | .ite c a b, _, _, _, _, ok, x, h => by
    unfold chkE at h; unfold sem
    split at h
    · simp only [Bool.and_eq_true] at h
      obtain ⟨h1, h2, h3⟩ := h
      exact .ofT (de_if (snd_ok c ok _ h1).t (snd_ok a ok _ h2).v (snd_ok b ok _ h3).v) dt_bad rfl
    · cases h
  | .tup es, _, _, _, _, ok, x, h => by
    unfold chkE at h; unfold sem
    split at h
    · exact .of (de_tup (snds_ok es ok _ h).args) (fun _ => rfl) rfl
    · cases h
  | .lst es, _, _, _, _, ok, x, h => by
    unfold chkE at h; unfold sem
    split at h
    · exact .of (de_lst (snds_ok es ok _ h).args) (fun _ => rfl) rfl
    · cases h
  | .ix a b, _, _, _, _, ok, x, h => by
    unfold chkE at h; unfold sem
    split at h
    · simp only [Bool.and_eq_true] at h
      obtain ⟨h1, h2, h3⟩ := h
      exact .of (de_ix (snd_ok a ok _ h2).v (snd_ok b ok _ h3).v h1) (fun _ => rfl) rfl
    · cases h
  | .sl a lo hi, _, _, _, _, ok, x, h => by
    unfold chkE at h; unfold sem
    split at h
    · simp only [Bool.and_eq_true] at h
      obtain ⟨h1, h2, h3⟩ := h
      exact .of (de_sl (snd_ok a ok _ h1).v (sl_bound h2 (snd_ok lo ok)) (sl_bound h3 (snd_ok hi ok))) (fun _ => rfl) rfl
    · cases h
  | .call f es, _, _, _, _, ok, x, h => by
    unfold chkE at h; unfold sem
    split at h
    · simp only [Bool.and_eq_true] at h
      obtain ⟨h1, h2, h3, h4⟩ := h
      exact .of (snd_call ok (of_decide_eq_true h1) h2 h3 (snds_ok es ok _ h4)) (fun _ => rfl) rfl
    · cases h
  | .bi b es, _, _, _, _, ok, x, h => by
    unfold chkE at h; unfold sem
    split at h
    · simp only [Bool.and_eq_true] at h
      obtain ⟨h1, h0, h2, h3, h4, h5⟩ := h
      have h6 := of_decide_eq_true h1
      subst h6
      exact .of (snd_bi ok h0 h2 h3 (by simpa using h4) (snds_ok es ok _ h5)) (fun _ => rfl) rfl
    · cases h
  | .isi t a, _, _, _, _, ok, x, h => by
    unfold chkE at h; unfold sem
    split at h
    · simp only [Bool.and_eq_true] at h
      obtain ⟨h1, h2, h3, h4, h5, h6, h7, h8⟩ := h
      have e1 := of_decide_eq_true h1
      have e2 := of_decide_eq_true h7
      subst e1 e2
      have q := snd_ok a ok _ h8
      obtain ⟨b1, b2, b3⟩ := ty_boot t (of_decide_eq_true h4)
      exact .of (de_isi (of_decide_eq_true h4) q.v q.ns (gl_of ok h3) (free_of ok h2) (gl_of ok h6) (free_of ok h5) b1 b2 b3) (fun _ => rfl) rfl
    · cases h
  | .me m o es, _, _, _, _, ok, x, h => by
    unfold chkE at h; unfold sem
    split at h
    · simp only [Bool.and_eq_true] at h
      obtain ⟨h1, h2, h3, h4, h5, h6⟩ := h
      have e1 := of_decide_eq_true h1
      subst e1
      exact .of (snd_me ok h2 h3 (of_decide_eq_true h4) (snd_ok o ok _ h5) (snds_ok es ok _ h6)) (fun _ => rfl) rfl
    · cases h
  | .lc e t it c own, _, _, _, _, ok, x, h => by
    unfold chkE at h; unfold sem
    split at h
    · rename_i elt tg iter ifs as scope pos
      simp only [Bool.and_eq_true] at h
      obtain ⟨h1, h2, h3, h4, h5, h6, h7⟩ := h
      obtain ⟨e1, hcm⟩ := of_decide_eq_true h1
      have calm := ok.calm hcm
      subst e1
      refine .of ?_ (fun _ => rfl) rfl
      have bk := blkB_ok h4
      rw [← ok.eN, ← ok.eS] at bk
      have q := de_lc (X := _) (G := G) (W := _) (pos := pos) (elt := elt) (ifs := ifs) (ow := ownOf _ own) (bind := bnd t) (ft := (sem Γ c).t) (fe := (sem Γ e).v) calm (ok.eN ▸ ok.nd) ((snd_ok it ok _ h2).i tg) bk
        (fun s H A cl fp => by
          have okb := ok.blk s H scope A cl fp
          rw [ownOf_snd]
          exact bndw_ok okb.eN okb.eS okb.eF okb.nd (okb.calm hcm) t tg h5)
        (fun s H A cl fp => by
          have okb := ok.blk s H scope A cl fp
          cases ifs with
          | nil =>
            cases c with
            | no => unfold sem; exact dts_nil
            | _ => cases h7
          | cons z zs =>
            cases zs with
            | nil => exact dts_one (snd_ok c okb z h7).t
            | cons _ _ => cases h7)
        (fun s H A cl fp => (snd_ok e (ok.blk s H scope A cl fp) elt h6).v) h3
      rw [ownOf_snd] at q
      exact q
    · cases h
  | .rng es, _, _, _, _, ok, x, h => by
    unfold chkE at h; unfold sem
    split at h
    · simp only [Bool.and_eq_true] at h
      obtain ⟨h1, h2, h3, h4, h5, h6⟩ := h
      have e1 := of_decide_eq_true h1
      subst e1
      exact ⟨de_bad, dt_bad, fun tg => snd_rng ok h2 h3 (by simpa using h4) (of_decide_eq_true h5) (snds_ok es ok _ h6) tg, do_bad, rfl⟩
    · cases h
  | .lc2 e t it c t1 it1 c1 own vs1, _, _, _, _, ok, x, h => by
    unfold chkE at h; unfold sem
    split at h
    · rename_i elt tg iter ifs as tg1 iter1 ifs1 as1 scope pos
      simp only [Bool.and_eq_true] at h
      obtain ⟨h1, h2, h3, h4, h5, h6, h7, h8, h9, h10, h11, h12, h13⟩ := h
      obtain ⟨e1, hcm⟩ := of_decide_eq_true h1
      have calm := ok.calm hcm
      have e2 := of_decide_eq_true h2
      subst e1 e2
      refine .of ?_ (fun _ => rfl) rfl
      have bk := blkB_ok h6
      rw [← ok.eN, ← ok.eS] at bk
      have q := de_lc2 (X := _) (G := G) (W := _) (pos := pos) (elt := elt) (ifs := ifs) (ifs1 := ifs1) (ow := ownOf _ own) (vs1 := vs1) (bind := bnd t) (bind1 := bnd t1) (ft := (sem Γ c).t) (ft1 := (sem Γ c1).t) (fe := (sem Γ e).v) (fi1 := (sem Γ it1).i) calm (ok.eN ▸ ok.nd) ((snd_ok it ok _ h3).i tg) bk
        (fun i hi => by rw [ownOf_snd]; exact List.contains_iff_mem.mp (List.all_eq_true.mp h7 i hi))
        (fun s H A cl fp => by
          have okb := ok.blk s H scope A cl fp
          rw [ownOf_snd]
          exact bndw_ok okb.eN okb.eS okb.eF okb.nd (okb.calm hcm) t tg h8)
        (fun s H A cl fp => by
          have okb := ok.blk s H scope A cl fp
          cases ifs with
          | nil =>
            cases c with
            | no => unfold sem; exact dts_nil
            | _ => cases h12
          | cons z zs =>
            cases zs with
            | nil => exact dts_one (snd_ok c okb z h12).t
            | cons _ _ => cases h12)
        (fun s H A cl fp => (snd_ok it1 (ok.blk s H scope A cl fp) iter1 h10).i tg1)
        (fun s H A cl fp => by
          have okb := ok.blk s H scope A cl fp
          exact bndw_ok okb.eN okb.eS okb.eF okb.nd (okb.calm hcm) t1 tg1 h9)
        (fun s H A cl fp => by
          have okb := ok.blk s H scope A cl fp
          cases ifs1 with
          | nil =>
            cases c1 with
            | no => unfold sem; exact dts_nil
            | _ => cases h13
          | cons z zs =>
            cases zs with
            | nil => exact dts_one (snd_ok c1 okb z h13).t
            | cons _ _ => cases h13)
        (fun s H A cl fp => (snd_ok e (ok.blk s H scope A cl fp) elt h11).v) h4 h5
      rw [ownOf_snd] at q
      exact q
    · cases h
  | .dct ks vs, _, _, _, _, ok, x, h => by
    unfold chkE at h; unfold sem
    split at h
    · simp only [Bool.and_eq_true] at h
      obtain ⟨h1, h2, h3, h4⟩ := h
      obtain ⟨ys, e, q⟩ := sndo_ok ks ok _ h3
      subst e
      have r := snds_ok vs ok _ h4
      refine .of (snd_dct q r ?_ ?_) (fun _ => rfl) rfl
      · have := of_decide_eq_true h2
        simpa using this
      · have := of_decide_eq_true h1
        simpa using this
    · cases h
  | .rev a, _, _, _, _, ok, x, h => by
    unfold chkE at h; unfold sem
    split at h
    · exact .of (de_rev (snd_ok a ok _ h).v) (fun _ => rfl) rfl
    · cases h
theorem sndo_ok : ∀ (es : List E) {X : Cx} {sc : Scope} {fb : Str → Bool} {W : WX} (_ : Okx C Γ N sc fb X G W) (xs : List (Option Expr)), chkOs C N sc fb es xs = true → ∃ ys, xs = ys.map some ∧ Snds X G W ys (sems Γ es)
  | [], _, _, _, _, ok, x, h => by
    unfold chkOs at h; unfold sems
    split at h
    · exact ⟨[], rfl, .nil⟩
    · cases h
  | e :: es, _, _, _, _, ok, x, h => by
    unfold chkOs at h; unfold sems
    split at h
    · rename_i y ys
      simp only [Bool.and_eq_true] at h
      obtain ⟨zs, e1, q⟩ := sndo_ok es ok _ h.2
      exact ⟨y :: zs, by rw [e1]; rfl, .cons (snd_ok e ok _ h.1) q⟩
    · cases h
theorem snds_ok : ∀ (es : List E) {X : Cx} {sc : Scope} {fb : Str → Bool} {W : WX} (_ : Okx C Γ N sc fb X G W) (xs : List Expr), chkEs C N sc fb es xs = true → Snds X G W xs (sems Γ es)
  | [], _, _, _, _, ok, x, h => by
    unfold chkEs at h; unfold sems
    split at h
    · exact .nil
    · cases h
  | e :: es, _, _, _, _, ok, x, h => by
    unfold chkEs at h; unfold sems
    split at h
    · simp only [Bool.and_eq_true] at h
      obtain ⟨h1, h2⟩ := h
      exact .cons (snd_ok e ok _ h1) (snds_ok es ok _ h2)
    · cases h
end
end
end Fe

set_option maxHeartbeats 4000000
/-! Fe C: own exceptions with a field, with a message alone. -/
namespace Fe
open PySem PySem.Spec PyProof.Rows L2
open PySem.W (Frag)
/-- the body of __init__(self, f): self.f = f -/
def initB (sf f : Str) : List Stmt → Bool
  | [.Assign [.Attribute (.Name a _) g _] (.Name b _) _] => decide (a = sf) && (decide (g = f) && decide (b = f))
  | _ => false
theorem initB_ok {sf f : Str} {b : List Stmt} (h : initB sf f b = true) : ∃ q1 q2 q3 q4, b = [.Assign [.Attribute (.Name sf q1) f q2] (.Name f q3) q4] := by
  unfold initB at h
  split at h
  · simp only [Bool.and_eq_true] at h
    obtain ⟨h1, h2, h3⟩ := h
    have e1 := of_decide_eq_true h1
    have e2 := of_decide_eq_true h2
    have e3 := of_decide_eq_true h3
    subst e1 e2 e3
    exact ⟨_, _, _, _, rfl⟩
  · cases h
/-- what is known of an own exception of one field -/
structure ExTxt (K : Frag) (mg : Str → Option Value) (b : Bs) (x f sf : Str) (C fI : Addr) : Prop where
  gC : mg x = some (.ref C)
  cls : ∃ nm q N bs bm sn sub ab col dd k0 k1 k2 k3 k5, K.lookup C = some (excClassObj nm q C N bs bm true sn sub ab col dd k0 k1 k2 k3 k5 b.newId) ∧ mroB b bm = true
  sa : W.findIn K (.ref C) "__setattr__" = some (some (.builtin "object.__setattr__"))
  noN : W.findIn K (.ref C) f = some none
  iC : W.findIn K (.ref C) "__init__" = some (some (.ref fI))
  tC : W.typeIn K (.ref fI) = some (.type "function")
  kC : W.keepIn K (.ref C) = true
  xf : XfC K C
  tyC : W.typeIn K (.ref C) = some (.type "type")
  fn : ∃ (oc : Value) (od : Option Addr) (nm qual : Str) (params : Arguments) (body : List Stmt) (scope : Scope) (dV kV doc pm : Value) (an : Option Addr) (cdv ct : Value) (osl : Array (Option Value)),
    K.lookup fI = some ⟨oc, od, .func (W.fnOf nm qual params body scope dV kV doc pm an cdv ct), osl⟩ ∧ W.codeIn K cdv qual = true ∧ initB sf f body = true ∧ scope.kind = .function ∧ scope.isCoroutine = false ∧ scope.isGenerator = false ∧
    scope.names.lookup sf = some .local ∧ scope.names.lookup f = some .local ∧ sf ≠ f ∧ (sf == ("__debug__" : Str)) = false ∧ (f == ("__debug__" : Str)) = false ∧
    ∀ (s : Shared) (u v : Value), BindsTo s (W.fnOf nm qual params body scope dV kV doc pm an cdv ct) ⟨[u, v], []⟩ [(sf, u), (f, v)]
theorem one_fits (v : Value) : [v].length ≤ sizeLine := by
  rw [sizeLine_eq]
  exact (by decide : 1 ≤ 16777216)
/-- behind __init__ -/
structure InitEnd (f : Str) (h h' : Heap) (x C dx t1 : Addr) (v : Value) : Prop where
  keep : ∀ a o, a ≠ x → h.get? a = some o → h'.get? a = some o
  obj : h'.get? x = some { cls := .ref C, dict := some dx, data := .fields #[.ref t1, .none, .none, .none, .bool false, .none] }
  dbig : h.objs.size ≤ dx
  dne : dx ≠ x
  ns : h'.Ns1 dx (fun y => if y = f then some v else none)
/-- the exception is made -/
structure OwnMade (f : Str) (h h' : Heap) (e C d : Addr) (v : Value) : Prop where
  keep : ∀ a o, h.get? a = some o → h'.get? a = some o
  new : h.objs.size ≤ e
  obj : ∃ oe vs, h'.get? e = some oe ∧ oe.cls = .ref C ∧ oe.dict = some d ∧ oe.data = .fields vs ∧ vs[1]? = some .none
  dbig : h.objs.size ≤ d
  dne : d ≠ e
  ns : h'.Ns1 d (fun y => if y = f then some v else none)
theorem ldE {M : Model} {s : Shared} {env : PySem.Env} {L : Addr} {m : Str → Option Value} {x : Str} {pos : Pos} {v : Value} {Q : Value → Shared → Prop} {A : Around} {E : Value → Shared → Prop} (hn : s.heap.Ns L m) (hL : env.locals = L) (hv : m x = some v) (h : Q v s)
    (hk : env.scope.kind = .function) (hl : env.kindOf x = some .local) (hd : (x == ("__debug__" : Str)) = false) : wpAny M A (eval (.Name x pos) env) Q E s := by
  subst hL
  exact wpAny_Name (wpAny_loadName_local hk hl hn hv h) hd
section
variable {prog : Program} {w : World} {A : Around} {E : Value → Shared → Prop} {R : Result → Shared → Prop} {s : Shared} {K : Frag} {mg : Str → Option Value} {b : Bs} {x f sf : Str} {C fI : Addr}
theorem ex_init (T : ExTxt K mg b x f sf C fI) {e t0 : Addr} {v : Value} (X : K.In s.heap) (hlim : s.heap.NoLimit) (hx : s.heap.get? e = some (HandSPX.excO C t0)) (hroom : A.depth < recursionLimit)
    (hq : ∀ h' tk dx, InitEnd f s.heap h' e C dx t0 v → R (.ok (.ret .none)) { s with heap := h', toks := tk }) :
    codeAny (model prog w) A (.call (.ref fI) ⟨[.ref e, v], []⟩) R s := by
  obtain ⟨oc, od, fnm, qual, params, body, scope, dV, kV, doc, pm, an, cdv, ct, osl, ho, hcd, hb, s1, s2, s3, l1, l2, ne, nd1, nd2, bd⟩ := T.fn
  obtain ⟨q1, q2, q3, q4, rfl⟩ := initB_ok hb
  obtain ⟨nm, q, N, bs, bm, sn, sub, ab, col, dd, k0, k1, k2, k3, k5, hC, hbm⟩ := T.cls
  have hcl : W.clsIn K C = some { name := nm, bases := bs, mro := .ref C :: bm, ns := N, qualname := q, hasDict := true, slotNames := sn, subclasses := sub, abstract := ab, collection := col, hasDel := false } := by unfold W.clsIn; rw [hC] <;> rfl
  refine Att.call_fn (binds := [(sf, .ref e), (f, v)]) X hlim ho hcd hroom (bd _ _ _) (by simp [l1, l2]) (fun s₁ IC => ?_) s2 s3 s1
  obtain ⟨h₁, tk₁, rfl⟩ := IC.toInCall.same
  have k : ∀ a o, s.heap.get? a = some o → h₁.get? a = some o := IC.toInCall.keep
  have hn := IC.toInCall.ns
  have X₁ : K.In h₁ := X.keeps k
  have hx₁ := k _ _ hx
  have kS : (envOfC qual scope s.heap.objs.size fI cdv).kindOf sf = some .local := l1
  have kF : (envOfC qual scope s.heap.objs.size fI cdv).kindOf f = some .local := l2
  have mS : bindL (envOfC qual scope s.heap.objs.size fI cdv).kindOf [(sf, .ref e), (f, v)] (fun _ => none) sf = some (.ref e) := by
    have q := bindL_get (kindOf := (envOfC qual scope s.heap.objs.size fI cdv).kindOf) (m := fun _ => none) (P := [sf, f]) (vs := [.ref e, v]) (i := 0) (x := sf) (v := .ref e) (by simp [ne]) rfl rfl kS
    exact q
  have mF : bindL (envOfC qual scope s.heap.objs.size fI cdv).kindOf [(sf, .ref e), (f, v)] (fun _ => none) f = some v := by
    have q := bindL_get (kindOf := (envOfC qual scope s.heap.objs.size fI cdv).kindOf) (m := fun _ => none) (P := [sf, f]) (vs := [.ref e, v]) (i := 1) (x := f) (v := v) (by simp [ne]) rfl rfl kF
    exact q
  show wpAny _ _ (execs _ _) _ _ _
  refine wpAny_execs_cons (plainObj_wpAny_Assign_Attribute ?_)
  refine ldE (v := v) hn rfl mF (ldE (v := .ref e) hn rfl mS ?_ s1 kS nd1) s1 kF nd2
  refine W.set_plain X₁ (ox := HandSPX.excO C t0) (od := none) ⟨hx₁, rfl, rfl, trivial⟩ T.sa ?_
  refine osaX X₁ (b := b) hx₁ hcl (show mroB b (.ref C :: bm) = true from hbm) rfl T.noN (fun h₃ tk₃ dx k₃ dn dne hx₃ hn₃ => ?_)
  show wpAny _ _ (execs _ _) _ _ _
  have z : s.heap.objs.size < h₁.objs.size := hn.lt
  exact wpAny_execs_nil (hq h₃ tk₃ dx ⟨fun a o hb e => k₃ a o hb (k a o e), hx₃, Nat.le_of_lt (Nat.lt_of_lt_of_le z dn), dne, hn₃⟩)
theorem ex_made (T : ExTxt K mg b x f sf C fI) {v : Value} (X : K.In s.heap) (hlim : s.heap.NoLimit) (hroom : A.depth + 1 < recursionLimit)
    (hq : ∀ h' tk e d, OwnMade f s.heap h' e C d v → R (.ok (.ret (.ref e))) { s with heap := h', toks := tk }) :
    codeAny (model prog w) A (.call (.ref C) ⟨[v], []⟩) R s := by
  obtain ⟨nm, q, N, bs, bm, sn, sub, ab, col, dd, k0, k1, k2, k3, k5, hC, hbm⟩ := T.cls
  obtain ⟨hp, g, dr, tk, os⟩ := s
  have k : ∀ a o, hp.get? a = some o → ((hp.push (W.kdv_tup [v])).push (HandSPX.excO C hp.objs.size)).get? a = some o := fun a o e => Heap.get?_push_of_some _ (Heap.get?_push_of_some _ e)
  have hget : ((hp.push (W.kdv_tup [v])).push (HandSPX.excO C hp.objs.size)).get? (hp.objs.size + 1) = some (HandSPX.excO C hp.objs.size) := by heap_get
  refine HandSPX.call_own b.facts (fun Y => mroB_contains Y bm hbm) (X _ _ hC) (W.looks_findIn X T.iC) (fun self => W.bind_fn X self T.tC) (one_fits v) ?_
  refine ex_init (s := ⟨(hp.push (W.kdv_tup [v])).push (HandSPX.excO C hp.objs.size), g, dr, tk, os⟩) T (X.keeps k) (hlim.keeps k) hget hroom fun h' tk' dx ⟨k', hx, dn, dne, hns⟩ => ?_
  have old : ∀ a o, hp.get? a = some o → h'.get? a = some o := fun a o e => k' a o (Nat.ne_of_lt (Nat.lt_succ_of_lt (Heap.lt_size e))) (k a o e)
  have z : hp.objs.size + 1 + 1 ≤ dx := by
    first
      | (simpa only [Heap.size_push] using dn)
      | exact dn
      | (have q := dn; rw [Heap.size_push, Heap.size_push] at q; exact q)
  exact ⟨rfl, hq h' tk' (hp.objs.size + 1) dx ⟨old, Nat.le_succ _, ⟨_, _, hx, rfl, rfl, rfl, rfl⟩, Nat.le_trans (Nat.le_trans (Nat.le_succ _) (Nat.le_succ _)) z, dne, hns⟩⟩
end
theorem relO_one {v : V} {v' : Value} {f : Str} (r : RelV v v') (g : Str) : RelO (List.lookup g [(f, v)]) (if g = f then some v' else none) := by
  by_cases hw : g = f
  · subst hw
    rw [if_pos rfl]
    have q : List.lookup g [(g, v)] = some v := by simp [List.lookup]
    rw [q]
    exact r
  · rw [if_neg hw]
    have qw : (g == f) = false := by simpa using hw
    have q2 : List.lookup g [(f, v)] = none := by simp [List.lookup, qw]
    rw [q2]
    trivial
section
variable {X : Cx} {G : Gc} {W0 : WX} {b : Bs} {x f sf : Str} {C fI : Addr}
/-- C(e) -/
theorem pmk_own {a : Expr} {ta : TA} {p pos : Pos} {k : Nat} (T : ExTxt X.K X.mg b x f sf C fI) (hr : Room k X.A) (ha : PA X [a] ta) (hg : Gl X x) (hns : notStar a = true) (hdb : (x == ("__debug__" : Str)) = false) :
    PMk X (.Call (.Name x p) [a] [] pos) (fun σ H Q => ta σ H fun vs H1 => ∃ v, vs = [v] ∧ ∀ d, H1 d = none → Q (.ref C) (some d) (upd H1 d (.xd [(f, v)]))) := by
  intro pins s σ H Q I h
  refine wpAny_Call_Name_kw (ld_glob I hg T.gC ?_ hdb)
  refine PySem.W.callWith_K (h₀ := X.base) I.ok.mod.kin T.kC (thn (ha.run pos pins s σ H _ I h) fun us s1 hh => ?_) (star_ns hns) (star_any (es := []) rfl)
  obtain ⟨vs, H1, I1, r1, v, ev, q1⟩ := hh
  subst ev
  refine ⟨I1.kIn, ?_⟩
  cases r1 with
  | cons rv rn =>
    rename_i v' us'
    cases rn
    show wpAny _ _ (call (.ref C) [v']) _ _ _
    have hlim := I1.nolimit
    obtain ⟨hp, g, dr, tk, os⟩ := s1
    refine wpAny_call (ex_made T I1.kIn hlim (by have := hr.dp; omega) fun h' tk' e d M => ?_)
    show MkP X pins σ Q (.ref e) ⟨h', g, dr, tk', os⟩
    obtain ⟨oe, fv, hoe, hc, hd, hdat, h1⟩ := M.obj
    have hns := M.ns
    obtain ⟨G', g1, g2⟩ := restrict h' fun a => decide (a ≠ e)
    have gk : ∀ a, a ≠ e → G'.get? a = h'.get? a := fun a hb => g1 a (decide_eq_true hb)
    have ge : G'.get? e = none := g2 e (by simp)
    have old : ∀ a o, hp.get? a = some o → G'.get? a = some o := fun a o q => (gk a (Nat.ne_of_lt (Nat.lt_of_lt_of_le (Heap.lt_size q) M.new))).trans (M.keep a o q)
    have ob : ObjOk X.prog X.w (upd H1 d (.xd [(f, v)])) G' d (.xd [(f, v)]) :=
      ⟨_, hns.at (fun o q => (gk d M.dne).trans q), fun g => relO_one rv g⟩
    have J : Inv X pins σ (upd H1 d (.xd [(f, v)])) ⟨G', g, dr, tk', os⟩ := I1.laid (t' := tk') old M.dbig ob
    refine ⟨e, oe, fv, ⟨G', g, dr, tk', os⟩, _, .ref C, some d, rfl, J, fun a o q => ?_, ge, hoe, ⟨hc, hd⟩, hdat, h1, ?_, rfl, I1.bare, raises_own T.xf.exC T.tyC, q1 d (I1.hok.fresh M.dbig)⟩
    · by_cases hb : a = e
      · have q' : G'.get? a = some o := q
        rw [hb, ge] at q'; cases q'
      · exact (gk a hb).symm.trans q
    · rw [upd_ne (Ne.symm M.dne)]
      exact I1.hok.fresh M.new
/-- raise C(e): the value is its field -/
theorem ds_raise1 {a : Expr} {g : Env → S → Out D} {c : Nat} {p pos pos2 : Pos} {k : Nat} (hc : X.calm = true) (T : ExTxt X.K X.mg b x f sf C fI) (hC : G.cls c = C) (hf : G.flds c = [f]) (hr : Room k X.A) (tk : Takes X W0) (ha : DE X G W0 a g) (hg : Gl X x) (hns : notStar a = true) (hdb : (x == ("__debug__" : Str)) = false) :
    DS X G W0 (.Raise (some (.Call (.Name x p) [a] [] pos)) none pos2) (fun ρ s => lift (g ρ s) ρ fun d s => .exc ⟨c, [d]⟩ ρ s) :=
  ps_imp (ps_raise hc tk (pmk_own T hr (da_cons hns ha da_nil) hg hns hdb)) fun D σ H ⟨μ, ρ, s, r, re, h⟩ => by
    refine ⟨μ, ρ, s, r, re, ?_⟩
    show Fin X.K G μ H (fun c d H' => W0 c d σ H') ((g ρ s).bind fun x s => (Out.ok [] s).bind fun xs s => Out.ok (x :: xs) s) _
    have h' : SFin X.K G μ H W0 (lift (g ρ s) ρ fun d s => .exc ⟨c, [d]⟩ ρ s) D := h
    cases e : g ρ s with
    | bad => rw [e] at h'; exact h'.elim
    | exc y s1 =>
      rw [e] at h'
      exact fun cls dd μ1 H1 x1 r1 rx => h' cls dd μ1 H1 σ x1 r1 (re.mono x1) rx
    | ok d s1 =>
      rw [e] at h'
      intro μ1 H1 x1 r1 vs rvs
      obtain ⟨v, rfl, rv⟩ := rel1 rvs
      refine ⟨v, rfl, fun dx hd => ?_⟩
      obtain ⟨r2, x2⟩ := r1.new (u := .xd [(f, v)]) hd
      exact h' (.ref C) (some dx) μ1 _ σ (x1.trans x2) r2 ((re.mono x1).mono x2) ⟨by rw [hC], .inr ⟨dx, [(f, v)], rfl, upd_same, by rw [hf]; rfl, relCons (rv.mono x2) relNil⟩⟩
/-- raise C(e), C without a field -/
theorem ds_raise0 {a : Expr} {g : Env → S → Out D} {c : Nat} {p pos pos2 : Pos} (hc : X.calm = true) (q : PySem.W.excIn X.K C b.tail b.newId = true) (gC : X.mg x = some (.ref C)) (kC : PySem.W.keepIn X.K (.ref C) = true) (rs : Raises X (.ref C)) (hC : G.cls c = C) (tk : Takes X W0) (ha : DE X G W0 a g) (hg : Gl X x) (hns : notStar a = true) (hdb : (x == ("__debug__" : Str)) = false) :
    DS X G W0 (.Raise (some (.Call (.Name x p) [a] [] pos)) none pos2) (fun ρ s => lift (g ρ s) ρ fun d s => .exc ⟨c, []⟩ ρ s) :=
  ps_imp (ps_raise hc tk (SkE.pmk_own1 b.facts q gC kC rs hg ha (star_ns hns) hdb)) fun D σ H ⟨μ, ρ, s, r, re, h⟩ => by
    refine ⟨μ, ρ, s, r, re, ?_⟩
    show Fin X.K G μ H (fun c d H' => W0 c d σ H') (g ρ s) _
    have h' : SFin X.K G μ H W0 (lift (g ρ s) ρ fun d s => .exc ⟨c, []⟩ ρ s) D := h
    cases e : g ρ s with
    | bad => rw [e] at h'; exact h'.elim
    | exc y s1 =>
      rw [e] at h'
      exact fun cls dd μ1 H1 x1 r1 rx => h' cls dd μ1 H1 σ x1 r1 (re.mono x1) rx
    | ok d s1 =>
      rw [e] at h'
      exact fun μ1 H1 x1 r1 v rv => h' (.ref C) none μ1 H1 σ x1 r1 (re.mono x1) ⟨by rw [hC], .inl ⟨rfl, rfl⟩⟩
end
end Fe

set_option maxHeartbeats 4000000
/-! Fe D: except suites that look at their exception. -/
namespace Fe
open PySem PySem.Spec PyProof.Rows L2
theorem RelX.mono {K : PySem.W.Frag} {G : Gc} {μ μ' : List Addr} {H H' : Hp} {x : Xc} {cls : Value} {d : Option Addr} (e : Ext μ H μ' H') (h : RelX K G μ H x cls d) : RelX K G μ' H' x cls d := by
  obtain ⟨a, b⟩ := h
  refine ⟨a, b.imp id fun ⟨dd, fs, h1, h2, h3, h4⟩ => ⟨dd, fs, h1, e.keep.xd _ _ h2, h3, h4.mono e⟩⟩
/-- an expression of a suite that holds an exception in slot i -/
theorem pe_impL {X : Cx} {e : Expr} {t t' : TE} (h : PE X e t) (i : ∀ σ H Q, σ.length = X.N.length → t' σ H Q → t σ H Q) : PE X e t' := ⟨fun pins s σ H Q I w => h.run pins s σ H Q I (i σ H Q I.len w)⟩
def tDj (K : PySem.W.Frag) (G : Gc) (i : Nat) (a : Addr) (cls : Value) (d : Option Addr) (f : Xc → Env → S → Out D) : TE := fun σ H Q => ∃ μ ρ s x, Rel K μ H s ∧ RelEnv K μ H ρ σ ∧ (i < σ.length → σ[i]? = some (some (.ref a))) ∧ RelX K G μ H x cls d ∧ Fin K G μ H (fun _ _ _ => False) (f x ρ s) (qD K Q)
section
variable {Y : Cx} {G : Gc} {i : Nat} {a : Addr} {cls : Value} {d : Option Addr} {e e1 e2 : Expr} {f g : Xc → Env → S → Out D} {pos : Pos}
abbrev DJ (Y : Cx) (G : Gc) (i : Nat) (a : Addr) (cls : Value) (d : Option Addr) (e : Expr) (f : Xc → Env → S → Out D) : Prop := PE Y e (tDj Y.K G i a cls d f)
theorem dj_of {v : Env → S → Out D} (h : DE Y G noX e v) : DJ Y G i a cls d e (fun _ => v) := pe_imp h fun σ H Q ⟨μ, ρ, s, x, r, re, _, _, h⟩ => ⟨μ, ρ, s, r, re, h⟩
theorem j1 {σ : L2.St} {H : Hp} {μ : List Addr} {ρ : Env} {s : S} {x : Xc} {k : D → S → Out D} {Q Q1 : VK} (r : Rel Y.K μ H s) (re : RelEnv Y.K μ H ρ σ) (hi : i < σ.length → σ[i]? = some (some (.ref a))) (rx : RelX Y.K G μ H x cls d)
    (h : Fin Y.K G μ H (fun _ _ _ => False) ((f x ρ s).bind k) (qD Y.K Q))
    (hk : ∀ d' s1 μ1 H1 v, Ext μ H μ1 H1 → Rel Y.K μ1 H1 s1 → RelEnv Y.K μ1 H1 ρ σ → RelX Y.K G μ1 H1 x cls d → RelD Y.K μ1 H1 d' v → Fin Y.K G μ1 H1 (fun _ _ _ => False) (k d' s1) (qD Y.K Q) → Q1 v H1) : tDj Y.K G i a cls d f σ H Q1 :=
  ⟨μ, ρ, s, x, r, re, hi, rx, h.bind.imp fun d' s1 μ1 H1 x1 r1 h1 v rv => hk d' s1 μ1 H1 v x1 r1 (re.mono x1) (rx.mono x1) rv h1⟩
theorem dj_bin {op : Operator} {r : R2} {k : D → D → S → Out D} (ho : OpR Y (binaryOp op) r) (ha : DJ Y G i a cls d e1 f) (hb : DJ Y G i a cls d e2 g) (hk : Hk Y G r k) :
    DJ Y G i a cls d (.BinOp e1 op e2 pos) (fun x ρ s => (f x ρ s).bind fun u s => (g x ρ s).bind fun v s => k u v s) :=
  pe_imp (pe_op ho ha hb) fun σ H Q ⟨μ, ρ, s, x, rr, re, hi, rx, h⟩ => j1 rr re hi rx h fun u s1 μ1 H1 v1 x1 r1 re1 rx1 rv1 h1 => j1 r1 re1 hi rx1 h1 fun y s2 μ2 H2 v2 x2 r2 re2 rx2 rv2 h2 =>
    hk u y s2 μ2 H2 v1 v2 _ Q r2 (rv1.mono x2) rv2 h2
theorem dj_cmp {op : CmpOp} {r : R2} {k : D → D → S → Out D} (ho : OpR Y (compareOp op) r) (ha : DJ Y G i a cls d e1 f) (hb : DJ Y G i a cls d e2 g) (hm : behindInMarks op e2 = false) (hk : Hk Y G r k) :
    DJ Y G i a cls d (.Compare e1 [op] [e2] pos) (fun x ρ s => (f x ρ s).bind fun u s => (g x ρ s).bind fun v s => k u v s) :=
  pe_imp (pe_cmpR ho ha hb hm) fun σ H Q ⟨μ, ρ, s, x, rr, re, hi, rx, h⟩ => j1 rr re hi rx h fun u s1 μ1 H1 v1 x1 r1 re1 rx1 rv1 h1 => j1 r1 re1 hi rx1 h1 fun y s2 μ2 H2 v2 x2 r2 re2 rx2 rv2 h2 =>
    hk u y s2 μ2 H2 v1 v2 _ Q r2 (rv1.mono x2) rv2 h2
theorem dj_tup2 {k : Nat} (ha : DJ Y G i a cls d e1 f) (hb : DJ Y G i a cls d e2 g) (n1 : notStar e1 = true) (n2 : notStar e2 = true) :
    DJ Y G i a cls d (.Tuple [e1, e2] k pos) (fun x ρ s => (f x ρ s).bind fun u s => (g x ρ s).bind fun v s => .ok (.tup [u, v]) s) :=
  pe_imp (pe_tup (pa_cons ha (pa_cons hb pa_nil (star_ns n2)) (star_ns n1))) fun σ H Q ⟨μ, ρ, s, x, rr, re, hi, rx, h⟩ => j1 rr re hi rx h fun u s1 μ1 H1 v1 x1 r1 re1 rx1 rv1 h1 => j1 r1 re1 hi rx1 h1 fun y s2 μ2 H2 v2 x2 r2 re2 rx2 rv2 h2 =>
    ⟨by rw [sizeLine_eq]; exact (by decide : 2 ≤ 16777216), fun p hp => tup_fin r2 (relCons (rv1.mono x2) (relCons rv2 relNil)) h2 hp⟩
theorem dj_call {x : Str} {p : Pos} {u : Value} {r : List V → Hp → VK → Prop} {k : List D → S → Out D} (hv : (∃ id, u = .builtin id) ∨ ∃ T, u = .type T) (hc : CallR Y u r) (hk : HkC Y G r k) (hg : Gl Y x) (hm : Y.mg x = none) (hb : bootBuiltins x = some u) (hn : x ≠ "__name__") (hdb : (x == ("__debug__" : Str)) = false)
    (ha : DJ Y G i a cls d e1 f) (n1 : notStar e1 = true) : DJ Y G i a cls d (.Call (.Name x p) [e1] [] pos) (fun x ρ s => (f x ρ s).bind fun u s => k [u] s) := by
  have red : ∀ (σ : L2.St) (H : Hp) (Q : VK), tDj Y.K G i a cls d (fun x ρ s => (f x ρ s).bind fun u s => k [u] s) σ H Q → tDj Y.K G i a cls d f σ H fun v H1 => r [v] H1 Q := fun σ H Q ⟨μ, ρ, s, x, rr, re, hi, rx, h⟩ =>
    j1 rr re hi rx h fun u s1 μ1 H1 v1 x1 r1 re1 rx1 rv1 h1 => hk [u] s1 μ1 H1 [v1] _ Q r1 (relCons rv1 relNil) h1
  rcases hv with ⟨id, rfl⟩ | ⟨T, rfl⟩
  · exact pe_imp (pe_callB hc hg hm hb (pa_cons ha pa_nil (star_ns n1)) hn hdb (star_ns n1) (star_any (es := []) rfl)) red
  · exact pe_imp (pe_callTy hc hg hm hb (pa_cons ha pa_nil (star_ns n1)) hn hdb (star_ns n1) (star_any (es := []) rfl)) red
end
/-- the field of an exception of class c -/
def fldX (c : Nat) (x : Xc) (s : S) : Out D := if x.c = c then (match x.ds with
  | [d] => .ok d s
  | _ => .bad) else .bad
theorem dj_fld {X : Cx} {G : Gc} {i : Nat} {a : Addr} {oe : Obj} {cls : Value} {d : Option Addr} {pn : List (Addr × Obj)} {n f : Str} {c : Nat} {p pos : Pos} (T : XfC X.K (G.cls c)) (hno : PySem.W.findIn X.K (.ref (G.cls c)) f = some none) (hf : G.flds c = [f])
    (hN : X.N[i]? = some n) (hv : Vis X.env.scope n) (h1 : (n == ("__debug__" : Str)) = false) (h2 : (n == ("__classdict__" : Str)) = false) (hz : Zc cls d oe) (hd : ∃ vs, oe.data = .fields vs) :
    DJ (X.suite a ((a, oe) :: pn)) G i a cls d (.Attribute (.Name n p) f pos) (fun x _ s => fldX c x s) :=
  pe_impL (pe_xf T hno hz hd (pe_var (X := X.suite a ((a, oe) :: pn)) hN hv h1 h2) (base_ok rfl)) fun σ H Q hlen ⟨μ, ρ, s, x, rr, re, hi, rx, h⟩ => by
    have hlt : i < σ.length := by
      rw [hlen]
      exact (List.getElem?_eq_some_iff.mp hN).1
    unfold fldX at h
    dsimp only at h
    split at h
    · rename_i ec
      subst ec
      split at h
      · rename_i y ey
        obtain ⟨q1, q2⟩ := rx
        rcases q2 with ⟨q2, _⟩ | ⟨dd, fs, e1, e2, e3, e4⟩
        · rw [ey] at q2; cases q2
        · rw [ey] at e4
          rw [hf] at e3
          cases fs with
          | nil => cases e3
          | cons z zs =>
            cases zs with
            | cons _ _ => cases e3
            | nil =>
              obtain ⟨g, v⟩ := z
              have eg : g = f := by simpa using e3
              subst eg
              obtain ⟨w, ew, rw_⟩ := rel1 e4
              cases ew
              exact ⟨_, hi hlt, rfl, q1, dd, _, v, e1, e2, by simp [List.lookup], h.ok_ rr v rw_⟩
      · exact h.elim
    · exact h.elim
/-! ### trees of such expressions -/
inductive Xe where
  | of (e : E)
  | fld (c : Nat)
  | bin (o : Ar) (a b : Xe)
  | cmp (o : Cm) (a b : Xe)
  | tup2 (a b : Xe)
  | bi (b : Bi) (a : Xe)
def semX (Γ : Nat → List D → S → Out D) : Xe → Xc → Env → S → Out D
  | .of e => fun _ => (sem Γ e).v
  | .fld c => fun x _ s => fldX c x s
  | .bin o a b => fun x ρ s => (semX Γ a x ρ s).bind fun u s => (semX Γ b x ρ s).bind fun v s => o.f u v s
  | .cmp o a b => fun x ρ s => (semX Γ a x ρ s).bind fun u s => (semX Γ b x ρ s).bind fun v s => o.f u v s
  | .tup2 a b => fun x ρ s => (semX Γ a x ρ s).bind fun u s => (semX Γ b x ρ s).bind fun v s => .ok (.tup [u, v]) s
  | .bi b a => fun x ρ s => (semX Γ a x ρ s).bind fun u s => b.f [u] s
/-- within a suite: no calls of defs, nothing that wants to be calm -/
def Ck.quiet (C : Ck) : Ck := { C with fns := [], calm := false }
def chkX (C : Ck) (N : List Str) (sc : Scope) (fb : Str → Bool) (i : Nat) : Xe → Expr → Bool
  | .of e, x => chkE C.quiet N sc fb e x
  | .fld c, x => match x with
    | .Attribute (.Name n _) f _ => decide (N[i]? = some n) && (visB sc n && (plainN n && (match C.exc[c]? with | some (_, some g) => decide (f = g) | _ => false)))
    | _ => false
  | .bin o a b, x => match x with
    | .BinOp y op z _ => decide (op = o.op) && (chkX C N sc fb i a y && chkX C N sc fb i b z)
    | _ => false
  | .cmp o a b, x => match x with
    | .Compare y [op] [z] _ => decide (op = o.op) && (nolookB op z && (chkX C N sc fb i a y && chkX C N sc fb i b z))
    | _ => false
  | .tup2 a b, x => match x with
    | .Tuple [y, z] _ _ => chkX C N sc fb i a y && chkX C N sc fb i b z
    | _ => false
  | .bi b a, x => match x with
    | .Call (.Name y _) [z] [] _ => decide (y = b.nm) && (!b.calm && (C.free.contains y && (gloB sc y && chkX C N sc fb i a z)))
    | _ => false
/-- what is known of an own exception here -/
def ExUse (X : Cx) (G : Gc) (c : Nat) (x : Str) (fo : Option Str) : Prop := match fo with
  | some f => ∃ b sf fI, ExTxt X.K X.mg b x f sf (G.cls c) fI ∧ G.flds c = [f]
  | none => ∃ b : Bs, PySem.W.excIn X.K (G.cls c) b.tail b.newId = true ∧ X.mg x = some (.ref (G.cls c)) ∧ PySem.W.keepIn X.K (.ref (G.cls c)) = true ∧ Raises X (.ref (G.cls c))
theorem ns_chkX {C : Ck} {Γ : Nat → List D → S → Out D} {N : List Str} {sc : Scope} {fb : Str → Bool} {i : Nat} {Y : Cx} {G : Gc} (ok : Okx C.quiet Γ N sc fb Y G noX) : ∀ (t : Xe) (x : Expr), chkX C N sc fb i t x = true → notStar x = true
  | .of e, x, h => (snd_ok e ok x h).ns
  | .fld c, x, h => by
    unfold chkX at h
    split at h
    · rfl
    · cases h
  | .bin o a b, x, h => by
    unfold chkX at h
    split at h
    · rfl
    · cases h
  | .cmp o a b, x, h => by
    unfold chkX at h
    split at h
    · rfl
    · cases h
  | .tup2 a b, x, h => by
    unfold chkX at h
    split at h
    · rfl
    · cases h
  | .bi b a, x, h => by
    unfold chkX at h
    split at h
    · rfl
    · cases h
theorem dj_ok {C : Ck} {Γ : Nat → List D → S → Out D} {N : List Str} {sc : Scope} {fb : Str → Bool} {i : Nat} {X : Cx} {G : Gc} {a : Addr} {oe : Obj} {cls : Value} {d : Option Addr} {pn : List (Addr × Obj)} (ok : Okx C.quiet Γ N sc fb (X.suite a ((a, oe) :: pn)) G noX)
    (hx : ∀ (c : Nat) (x : Str) (fo : Option Str), C.exc[c]? = some (x, fo) → ExUse X G c x fo) (hz : Zc cls d oe) (hd : ∃ vs, oe.data = .fields vs) : ∀ (t : Xe) (x : Expr), chkX C N sc fb i t x = true → DJ (X.suite a ((a, oe) :: pn)) G i a cls d x (semX Γ t)
  | .of e, x, h => dj_of (snd_ok e ok x h).v
  | .fld c, x, h => by
    unfold chkX at h; unfold semX
    split at h
    · simp only [Bool.and_eq_true] at h
      obtain ⟨h1, h2, h3, h4⟩ := h
      split at h4
      · rename_i nm g e
        have q := of_decide_eq_true h4
        subst q
        obtain ⟨b, sf, fI, T, hf⟩ := hx c nm (some _) e
        have vis := visB_ok h2
        rw [← ok.eS] at vis
        exact dj_fld T.xf T.noN hf (ok.eN ▸ of_decide_eq_true h1) vis (plainN_ok h3).1 (plainN_ok h3).2 hz hd
      · cases h4
    · cases h
  | .bin o u v, x, h => by
    unfold chkX at h; unfold semX
    split at h
    · simp only [Bool.and_eq_true] at h
      obtain ⟨h1, h2, h3⟩ := h
      obtain ⟨r, ho, hk⟩ := ar_all (X := X.suite a ((a, oe) :: pn)) (G := G) o
      rw [of_decide_eq_true h1]
      exact dj_bin ho (dj_ok ok hx hz hd u _ h2) (dj_ok ok hx hz hd v _ h3) hk
    · cases h
  | .cmp o u v, x, h => by
    unfold chkX at h; unfold semX
    split at h
    · simp only [Bool.and_eq_true] at h
      obtain ⟨h1, h2, h3, h4⟩ := h
      obtain ⟨r, ho, hk⟩ := cm_all (G := G) ok.hu o
      have h5 := of_decide_eq_true h1
      subst h5
      have m : ∀ z, nolookB o.op z = true → behindInMarks o.op z = false := fun z h => by unfold nolookB at h; simpa using h
      exact dj_cmp ho (dj_ok ok hx hz hd u _ h3) (dj_ok ok hx hz hd v _ h4) (m _ h2) hk
    · cases h
  | .tup2 u v, x, h => by
    unfold chkX at h; unfold semX
    split at h
    · simp only [Bool.and_eq_true] at h
      exact dj_tup2 (dj_ok ok hx hz hd u _ h.1) (dj_ok ok hx hz hd v _ h.2) (ns_chkX ok u _ h.1) (ns_chkX ok v _ h.2)
    · cases h
  | .bi b u, x, h => by
    unfold chkX at h; unfold semX
    split at h
    · simp only [Bool.and_eq_true] at h
      obtain ⟨h1, h2, h3, h4, h5⟩ := h
      have e1 := of_decide_eq_true h1
      subst e1
      obtain ⟨r, hc, hk⟩ := bi_all (X := X.suite a ((a, oe) :: pn)) (G := G) b (fun hb => by rw [hb] at h2; cases h2) ok.gd ok.hu
      exact dj_call (bi_v b) hc hk (gl_of ok h4) (free_of ok h3) (bi_boot b) (bi_nm b).1 (bi_nm b).2 (dj_ok ok hx hz hd u _ h5) (ns_chkX ok u _ h5)
    · cases h
end Fe

set_option maxHeartbeats 4000000
/-! Fe 15: own trees of statements. -/
namespace Fe
open PySem PySem.Spec PyProof.Rows L2
inductive St where
  | pass
  | brk
  | cnt
  | doc
  | expr (e : E)
  | ret (e : E)
  | retN
  | set (i : Nat) (e : E)
  | asg (t : Tp) (e : E)
  | sub (o i e : E)
  | par (is : List Nat) (es : List E)
  | ite (c : E) (a b : List St)
  | for_ (t : Tp) (it : E) (b : List St)
  | whl (n : Nat) (c : E) (b : List St)
  | rais (c : Nat) (fl : Bool) (e : E)
  | tryA (b : List St) (i h n : Nat) (ms : List Nat) (x : Xe)
  | tryN (b : List St) (n : Nat) (hs : List (Nat × List Nat)) (ss : List (List St))
def parS (is : List Nat) (ds : List D) (ρ : Env) (s : S) : SOut := match is, ds with
  | [i, j], [d, e] => .nx ((ρ.set i (some d)).set j (some e)) s
  | [i, j, l], [d, e, f] => .nx (((ρ.set i (some d)).set j (some e)).set l (some f)) s
  | _, _ => .bad
def subS (f g : Env → S → Out D) (d : D) (ρ : Env) (s : S) : TOut := okO (f ρ s) fun x s => okO (g ρ s) fun y s => match setIx x y d s with
  | some s => some (ρ, s)
  | none => none
def noExc : SOut → SOut
  | .exc _ _ _ => .bad
  | o => o
/-- the first clause that takes class c -/
def pickH : List (Nat × List Nat) → List (Env → S → SOut) → Nat → Option (Env → S → SOut)
  | h :: hs, f :: fs, c => if h.2.contains c = true then some f else pickH hs fs c
  | _, _, _ => none
mutual
def exec (Γ : Nat → List D → S → Out D) : St → Env → S → SOut
  | .pass => fun ρ s => .nx ρ s
  | .brk => fun ρ s => .bk ρ s
  | .cnt => fun ρ s => .ct ρ s
  | .doc => fun ρ s => .nx ρ s
  | .expr e => fun ρ s => lift ((sem Γ e).v ρ s) ρ fun _ s => .nx ρ s
  | .ret e => fun ρ s => lift ((sem Γ e).v ρ s) ρ fun d s => .rt d s
  | .retN => fun ρ s => .rt .non s
  | .set i e => fun ρ s => lift ((sem Γ e).v ρ s) ρ fun d s => .nx (ρ.set i (some d)) s
  | .asg t e => fun ρ s => lift ((sem Γ e).v ρ s) ρ fun d s => liftT (bnd t d ρ s)
  | .sub o i e => fun ρ s => lift ((sem Γ e).v ρ s) ρ fun d s => liftT (subS (sem Γ o).v (sem Γ i).v d ρ s)
  | .par is es => fun ρ s => lift (argsV (sems Γ es) ρ s) ρ fun ds s => parS is ds ρ s
  | .ite c a b => fun ρ s => lift ((sem Γ c).t ρ s) ρ fun k s => if k = true then execs Γ a ρ s else execs Γ b ρ s
  | .for_ t it b => fun ρ s => lift ((sem Γ it).i ρ s) ρ fun c s => forW c.live (bnd t) (execs Γ b) c.ds ρ s
  | .whl n c b => whW (sem Γ c).t (execs Γ b) n
  | .rais c fl e => fun ρ s => lift ((sem Γ e).v ρ s) ρ fun d s => .exc ⟨c, if fl = true then [d] else []⟩ ρ s
  | .tryA b i _ n ms x => fun ρ s => match execs Γ b ρ s with
    | .exc y ρ' s' => if y.c < n then (if ms.contains y.c = true then (match semX Γ x y (ρ'.set i none) s' with | .ok d s => .rt d s | _ => .bad) else .exc y ρ' s') else .bad
    | o => o
  | .tryN b n hs ss => fun ρ s => match execs Γ b ρ s with
    | .exc y ρ' s' => if y.c < n then (match pickH hs (execss Γ ss) y.c with | some f => noExc (f ρ' s') | none => .exc y ρ' s') else .bad
    | o => o
def execss (Γ : Nat → List D → S → Out D) : List (List St) → List (Env → S → SOut)
  | [] => []
  | b :: bs => execs Γ b :: execss Γ bs
def execs (Γ : Nat → List D → S → Out D) : List St → Env → S → SOut
  | [] => fun ρ s => .nx ρ s
  | st :: sts => fun ρ s => (exec Γ st ρ s).seq (execs Γ sts)
end

/-! ### the check -/
def swF (sc : Scope) (ts vs : List Expr) : Option (Option (List Str)) :=
  if !(ts.length == 2 || ts.length == 3) || vs.length != ts.length then some none
  else if vs.any fun | .Starred .. => true | _ => false then some none
  else
    let line := (ts.head?.map (·.pos.line)).getD 0
    let names := ts.filterMap fun
      | .Name id pos => if sc.names.lookup id == some .local && pos.line == line then some id else none
      | _ => none
    if names.length != ts.length || names.eraseDups.length != names.length then some none
    else if vs.all (foldedForSure 8) then some none
    else if vs.all (constantsAlone 8) then none
    else some (some names)
theorem swF_ok {sc : Scope} {ts vs : List Expr} {k k2 : Nat} {p p2 : Pos} {env : PySem.Env} {r : Option (List Str)} (e : env.scope = sc) (hb : env.blockKind = .function) (h : swF sc ts vs = some r) : swappedStores [.Tuple ts k p] (.Tuple vs k2 p2) env = pure r := by
  subst e
  unfold swappedStores
  dsimp only
  unfold swF at h
  have hk : (env.blockKind != ScopeKind.function) = false := by rw [hb]; rfl
  rw [hk, Bool.or_false]
  split at h
  · rename_i c
    cases h
    exact if_pos (show _ from c)
  · rename_i c
    refine (if_neg (show ¬ _ from c)).trans ?_
    split at h
    · rename_i c
      cases h
      exact if_pos (show _ from c)
    · rename_i c
      refine (if_neg (show ¬ _ from c)).trans ?_
      dsimp only at h
      split at h
      · rename_i c
        cases h
        exact if_pos (show _ from c)
      · rename_i c
        refine (if_neg (show ¬ _ from c)).trans ?_
        split at h
        · rename_i c
          cases h
          exact if_pos (show _ from c)
        · rename_i c
          refine (if_neg (show ¬ _ from c)).trans ?_
          split at h
          · cases h
          · rename_i c
            cases h
            exact if_neg (show ¬ _ from c)
theorem sw_none {tg e : Expr} {env : PySem.Env} (h : (match tg, e with | .Tuple .., .Tuple .. => false | .List .., .Tuple .. => false | _, _ => true) = true) : swappedStores [tg] e env = pure none := by
  unfold swappedStores
  split
  · rename_i ts vs hh
    split at hh
    · rename_i q1
      simp only [List.cons.injEq, and_true] at q1
      subst q1
      cases h
    · rename_i q1
      simp only [List.cons.injEq, and_true] at q1
      subst q1
      cases h
    · cases hh
  · rfl
def swNone (sc : Scope) (tg e : Expr) : Bool := match tg, e with
  | .Tuple ts _ _, .Tuple vs _ _ => decide (swF sc ts vs = some none)
  | .List .., .Tuple .. => false
  | _, _ => true
theorem swNone_ok {sc : Scope} {tg e : Expr} {env : PySem.Env} (es : env.scope = sc) (hb : env.blockKind = .function) (h : swNone sc tg e = true) : swappedStores [tg] e env = pure none := by
  unfold swNone at h
  split at h
  · exact swF_ok es hb (of_decide_eq_true h)
  · cases h
  · rename_i a b
    apply sw_none
    split
    · exact (a _ _ _ _ _ _ rfl rfl).elim
    · exact (b _ _ _ _ _ rfl rfl).elim
    · rfl
/-- the comprehension that a local name on its line takes -/
def lcLine (sc : Scope) (y : Str) (py : Pos) : Expr → Bool
  | .ListComp _ _ scope pos => (decide (sc.names.lookup y = some .local) && (py.line == pos.line)) && !(scope.names.any fun (n, k) => n == y && (k == .local || k == .cell))
  | _ => false
mutual
def chkS (C : Ck) (N : List Str) (sc : Scope) (fb : Str → Bool) : St → Stmt → Bool
  | .pass, x => match x with
    | .Pass _ => true
    | _ => false
  | .brk, x => match x with
    | .Break _ => true
    | _ => false
  | .cnt, x => match x with
    | .Continue _ => true
    | _ => false
  | .doc, x => match x with
    | .Expr (.Constant (.str _) _ _) _ => true
    | _ => false
  | .expr e, x => match x with
    | .Expr y _ => notComp y && chkE C N sc fb e y
    | _ => false
  | .ret e, x => match x with
    | .Return (some y) _ => chkE C N sc fb e y
    | _ => false
  | .retN, x => match x with
    | .Return none _ => true
    | _ => false
  | .set i e, x => match x with
    | .Assign [.Name y py] z _ => decide (N[i]? = some y) && (locB sc fb y && ((notComp z || lcLine sc y py z) && chkE C N sc fb e z))
    | _ => false
  | .asg t e, x => match x with
    | .Assign [tg] z _ => (C.calm && chkP N sc fb none t tg) && (notComp z && (swNone sc tg z && chkE C N sc fb e z))
    | _ => false
  | .sub o i e, x => match x with
    | .Assign [.Subscript u v _] z _ => notSlice v && (notComp z && (chkE C N sc fb o u && (chkE C N sc fb i v && chkE C N sc fb e z)))
    | _ => false
  | .par is es, x => match x with
    | .Assign [.Tuple [.Name a _, .Name b _] _ _] (.Tuple [u, v] _ _) _ => (match is with
      | [i, j] => decide (N[i]? = some a ∧ C.calm = true) && (decide (N[j]? = some b) && (decide (i ≠ j) && (decide (sc.names.lookup a = some .local) && (decide (sc.names.lookup b = some .local) && chkEs C N sc fb es [u, v]))))
      | _ => false) && (match x with | .Assign [.Tuple ts _ _] (.Tuple vs _ _) _ => decide (swF sc ts vs = some (some [a, b])) | _ => false)
    | .Assign [.Tuple [.Name a _, .Name b _, .Name c _] _ _] (.Tuple [u, v, w] _ _) _ => (match is with
      | [i, j, l] => decide (N[i]? = some a ∧ C.calm = true) && (decide (N[j]? = some b) && (decide (N[l]? = some c) && (decide (i ≠ j) && (decide (i ≠ l) && (decide (j ≠ l) && (decide (sc.names.lookup a = some .local) && (decide (sc.names.lookup b = some .local) && (decide (sc.names.lookup c = some .local) && chkEs C N sc fb es [u, v, w]))))))))
      | _ => false) && (match x with | .Assign [.Tuple ts _ _] (.Tuple vs _ _) _ => decide (swF sc ts vs = some (some [a, b, c])) | _ => false)
    | _ => false
  | .ite c a b, x => match x with
    | .If y u v _ => chkE C N sc fb c y && (chkSs C N sc fb a u && chkSs C N sc fb b v)
    | _ => false
  | .for_ t it b, x => match x with
    | .For tg iter u [] _ => (C.calm && chkP N sc fb none t tg) && (notSet iter && (chkE C N sc fb it iter && chkSs C N sc fb b u))
    | _ => false
  | .whl n c b, x => match x with
    | .While y u [] _ => chkE C N sc fb c y && chkSs C N sc fb b u
    | _ => false
  | .rais c fl e, x => match x with
    | .Raise (some (.Call (.Name y _) [z] [] _)) none _ => C.calm && (gloB sc y && (plainN y && ((match C.exc[c]? with | some (u, fo) => decide (u = y ∧ fo.isSome = fl) | none => false) && chkE C N sc fb e z)))
    | _ => false
  | .tryA b i h n ms t, x => match x with
    | .Try body [.ExceptHandler (some (.Name y _)) (some u) [.Return (some z) _] _] [] [] _ => decide (n = C.exc.length ∧ C.hds[h]? = some (y, ms)) && (gloB sc y && (plainN y && (decide (N[i]? = some u ∧ sc.names.lookup u = some .local) && (chkSs C N sc fb b body && chkX C N sc fb i t z))))
    | _ => false
  | .tryN b n hs ss, x => match x with
    | .Try body (hd :: hds) [] [] _ => decide (n = C.exc.length) && (chkSs C N sc fb b body && chkHs C N sc fb hs ss (hd :: hds))
    | _ => false
def chkHs (C : Ck) (N : List Str) (sc : Scope) (fb : Str → Bool) : List (Nat × List Nat) → List (List St) → List ExceptHandler → Bool
  | hs, [], xs => match hs, xs with
    | [], [] => true
    | _, _ => false
  | hs, b :: bs, xs => match hs, xs with
    | h :: hs, (.ExceptHandler (some (.Name y _)) none (z :: zs) _) :: ys => decide (C.hds[h.1]? = some (y, h.2)) && (gloB sc y && (plainN y && (chkSs C.quiet N sc fb b (z :: zs) && chkHs C N sc fb hs bs ys)))
    | _, _ => false
def chkSs (C : Ck) (N : List Str) (sc : Scope) (fb : Str → Bool) : List St → List Stmt → Bool
  | [], xs => match xs with
    | [] => true
    | _ => false
  | st :: sts, xs => match xs with
    | y :: ys => chkS C N sc fb st y && chkSs C N sc fb sts ys
    | _ => false
end

section
variable {G : Gc} {C : Ck} {Γ : Nat → List D → S → Out D} {N : List Str} {X : Cx} {sc : Scope} {fb : Str → Bool} {W : WX}
/-- what statements need besides -/
structure Oks (C : Ck) (Γ : Nat → List D → S → Out D) (N : List Str) (sc : Scope) (fb : Str → Bool) (X : Cx) (G : Gc) (W : WX) : Prop extends Okx C Γ N sc fb X G W where
  bk : X.env.blockKind = .function
  po : PassesOwn (model X.prog X.w) X.A X.env X.xe
  stk : X.stack = X.env :: X.outer
  frm : X.env.frame = some X.env.locals
  exs : ∀ (c : Nat) (x : Str) (fo : Option Str), C.exc[c]? = some (x, fo) → ExUse X G c x fo
  hdl : ∀ (h : Nat) (x : Str) (ms : List Nat), C.hds[h]? = some (x, ms) → ∃ cv, (X.mg x = some cv ∨ (X.mg x = none ∧ bootBuiltins x = some cv ∧ x ≠ "__name__")) ∧ ∀ k, k < C.exc.length → PySem.W.exmOne X.K (.ref (G.cls k)) cv = some (ms.contains k)
  rm : C.calm = true → ∃ k, Room k X.A
theorem Oks.tr (ok : Oks C Γ N sc fb X G W) {W' : WX} {pn : List (Addr × Obj)} {xe : Value → Shared → Prop} (tk : Takes (X.tr pn xe) W') (po : PassesOwn (model X.prog X.w) X.A X.env xe) : Oks C Γ N sc fb (X.tr pn xe) G W' :=
  ⟨⟨ok.eN, ok.eS, ok.eF, ok.nd, ok.calm, tk, ok.hu, ok.gd, ok.fns, ok.cons, ok.free⟩, ok.bk, po, ok.stk, ok.frm, ok.exs, ok.hdl, ok.rm⟩
theorem Oks.quiet (ok : Oks C Γ N sc fb X G W) {a : Addr} {pn : List (Addr × Obj)} : Oks C.quiet Γ N sc fb (X.suite a pn) G noX :=
  ⟨⟨ok.eN, ok.eS, ok.eF, ok.nd, fun h => (nomatch (show false = true from h)), fun u s' ⟨_, _, _, _, _, _, _, _, _, _, _, _, _, _, _, _, w⟩ => w.elim, ok.hu, ok.gd, fun f x n h => by simp [Ck.quiet] at h, ok.cons, ok.free⟩, ok.bk, PassesOwn.never, ok.stk, ok.frm, ok.exs, ok.hdl, fun h => (nomatch (show false = true from h))⟩
theorem Oks.names (ok : Oks C Γ N sc fb X G W) {h : Nat} {y : Str} {ms : List Nat} (e : C.hds[h]? = some (y, ms)) (g : gloB sc y = true) (p : plainN y = true) : ∃ cv, Names X y cv ∧ ∀ k, k < C.exc.length → PySem.W.exmOne X.K (.ref (G.cls k)) cv = some (ms.contains k) := by
  obtain ⟨cv, h1, h2⟩ := ok.hdl h y ms e
  exact ⟨cv, ⟨gl_of ok.toOkx g, (plainN_ok p).1, h1⟩, h2⟩
theorem RelEnv.forget {K : PySem.W.Frag} {μ : List Addr} {H : Hp} {ρ : Env} {σ : L2.St} {i : Nat} {o : Option V} (re : RelEnv K μ H ρ σ) : RelEnv K μ H (ρ.set i none) (σ.set i o) := by
  refine ⟨by simp [re.1], fun j e h => ?_⟩
  by_cases hj : j = i
  · subst hj
    by_cases hl : j < ρ.length
    · rw [List.getElem?_set_self hl] at h; cases h
    · rw [List.getElem?_eq_none (by simpa using hl)] at h; cases h
  · rw [List.getElem?_set_ne (Ne.symm hj)] at h
    obtain ⟨u, e1, r1⟩ := re.2 j e h
    exact ⟨u, by rw [List.getElem?_set_ne (Ne.symm hj)]; exact e1, r1⟩
theorem snds_two {u v : Expr} {ms : List Sm} (h : Snds X G W [u, v] ms) : DA X G W [u, v] (argsV ms) := h.args
theorem lc_swap {sc : Scope} {y : Str} {py spos : Pos} {elt : Expr} {gs : List Comprehension} {scope : Scope} {pos : Pos} {env : PySem.Env} (es : env.scope = sc) (hb : env.blockKind = .function) (h : lcLine sc y py (.ListComp elt gs scope pos) = true) :
    swapsWith (.ListComp elt gs scope pos) (some (.Name y py)) spos.line env = pure true := by
  unfold lcLine at h
  unfold swapsWith
  simp only [Bool.and_eq_true] at h
  obtain ⟨⟨h1, h2⟩, h3⟩ := h
  dsimp only
  have e1 : (env.kindOf y == some NameKind.local) = true := by
    unfold PySem.Env.kindOf
    rw [es, of_decide_eq_true h1]; rfl
  have e2 : (py.line == (Expr.ListComp elt gs scope pos).pos.line) = true := h2
  rw [hb, e1, e2, h3]
  rfl
end
end Fe

set_option maxHeartbeats 4000000
/-! Fe 16: checked statements do what their trees do. -/
namespace Fe
open PySem PySem.Spec PyProof.Rows L2
section
variable {G : Gc} {C : Ck} {Γ : Nat → List D → S → Out D} {N : List Str}
theorem set_lc {X : Cx} {sc : Scope} {fb : Str → Bool} {W : WX} (ok : Oks C Γ N sc fb X G W) {i : Nat} {y : Str} {py spos : Pos} {e : E} {z : Expr} (hi : N[i]? = some y) (hl : lcLine sc y py z = true) (h : chkE C N sc fb e z = true) :
    DS X G W (.Assign [.Name y py] z spos) (fun ρ s => lift ((sem Γ e).v ρ s) ρ fun d s => .nx (ρ.set i (some d)) s) := by
  have hl0 := hl
  cases z with
  | ListComp elt gs scope pos =>
    cases e with
    | lc e t it c own =>
      unfold chkE at h; unfold sem
      split at h
      · rename_i elt' tg iter ifs as scope' pos' q
        cases q
        simp only [Bool.and_eq_true] at h
        obtain ⟨h1, h2, h3, h4, h5, h6, h7⟩ := h
        obtain ⟨e1, hcm⟩ := of_decide_eq_true h1
        have calm := ok.calm hcm
        subst e1
        have bk := blkB_ok h4
        rw [← ok.eN, ← ok.eS] at bk
        unfold lcLine at hl
        simp only [Bool.and_eq_true] at hl
        have loc := of_decide_eq_true hl.1.1
        rw [← ok.eS] at loc
        have q := ds_setLc (X := X) (G := G) (W := W) (pos := pos) (spos := spos) (elt := elt) (ifs := ifs) (ow := ownOf _ own) (bind := bnd t) (ft := (sem Γ c).t) (fe := (sem Γ e).v) calm (ok.eN ▸ ok.nd) (ok.eN ▸ hi) loc (lc_swap ok.eS ok.bk hl0) ((snd_ok it ok.toOkx _ h2).i tg) bk
          (fun s H A cl fp => by
            have okb := ok.toOkx.blk s H scope A cl fp
            rw [ownOf_snd]
            exact bndw_ok okb.eN okb.eS okb.eF okb.nd (okb.calm hcm) t tg h5)
          (fun s H A cl fp => by
            have okb := ok.toOkx.blk s H scope A cl fp
            cases ifs with
            | nil =>
              cases c with
              | no => unfold sem; exact dts_nil
              | _ => cases h7
            | cons z zs =>
              cases zs with
              | nil => exact dts_one (snd_ok c okb z h7).t
              | cons _ _ => cases h7)
          (fun s H A cl fp => (snd_ok e (ok.toOkx.blk s H scope A cl fp) elt h6).v) h3
        rw [ownOf_snd] at q
        exact q
      · cases h
    | lc2 e t it c t1 it1 c1 own vs1 =>
      unfold chkE at h; unfold sem
      split at h
      · rename_i elt' tg iter ifs as tg1 iter1 ifs1 as1 scope' pos' q
        cases q
        simp only [Bool.and_eq_true] at h
        obtain ⟨h1, h2, h3, h4, h5, h6, h7, h8, h9, h10, h11, h12, h13⟩ := h
        obtain ⟨e1, hcm⟩ := of_decide_eq_true h1
        have calm := ok.calm hcm
        have e2 := of_decide_eq_true h2
        subst e1 e2
        have bk := blkB_ok h6
        rw [← ok.eN, ← ok.eS] at bk
        unfold lcLine at hl
        simp only [Bool.and_eq_true] at hl
        have loc := of_decide_eq_true hl.1.1
        rw [← ok.eS] at loc
        have q := ds_setLc2 (X := X) (G := G) (W := W) (pos := pos) (spos := spos) (elt := elt) (ifs := ifs) (ifs1 := ifs1) (ow := ownOf _ own) (vs1 := vs1) (bind := bnd t) (bind1 := bnd t1) (ft := (sem Γ c).t) (ft1 := (sem Γ c1).t) (fe := (sem Γ e).v) (fi1 := (sem Γ it1).i) calm (ok.eN ▸ ok.nd) (ok.eN ▸ hi) loc (lc_swap ok.eS ok.bk hl0) ((snd_ok it ok.toOkx _ h3).i tg) bk
          (fun i hi => by rw [ownOf_snd]; exact List.contains_iff_mem.mp (List.all_eq_true.mp h7 i hi))
          (fun s H A cl fp => by
            have okb := ok.toOkx.blk s H scope A cl fp
            rw [ownOf_snd]
            exact bndw_ok okb.eN okb.eS okb.eF okb.nd (okb.calm hcm) t tg h8)
          (fun s H A cl fp => by
            have okb := ok.toOkx.blk s H scope A cl fp
            cases ifs with
            | nil =>
              cases c with
              | no => unfold sem; exact dts_nil
              | _ => cases h12
            | cons z zs =>
              cases zs with
              | nil => exact dts_one (snd_ok c okb z h12).t
              | cons _ _ => cases h12)
          (fun s H A cl fp => (snd_ok it1 (ok.toOkx.blk s H scope A cl fp) iter1 h10).i tg1)
          (fun s H A cl fp => by
            have okb := ok.toOkx.blk s H scope A cl fp
            exact bndw_ok okb.eN okb.eS okb.eF okb.nd (okb.calm hcm) t1 tg1 h9)
          (fun s H A cl fp => by
            have okb := ok.toOkx.blk s H scope A cl fp
            cases ifs1 with
            | nil =>
              cases c1 with
              | no => unfold sem; exact dts_nil
              | _ => cases h13
            | cons z zs =>
              cases zs with
              | nil => exact dts_one (snd_ok c1 okb z h13).t
              | cons _ _ => cases h13)
          (fun s H A cl fp => (snd_ok e (ok.toOkx.blk s H scope A cl fp) elt h11).v) h4 h5
        rw [ownOf_snd] at q
        exact q
      · cases h
    | _ => unfold chkE at h; cases h
  | _ => cases hl
theorem sfin_noExc {K : PySem.W.Frag} {μ : List Addr} {H : Hp} {W W' : WX} {o : SOut} {D : Ends} (h : SFin K G μ H W (noExc o) D) : SFin K G μ H W' o D := by
  cases o with
  | exc c ρ s => exact h.elim
  | bad => exact h.elim
  | _ => exact h
/-- what the clauses wish: ready lists -/
def tsOf (K : PySem.W.Frag) (G : Gc) (f : Env → S → SOut) : Addr → Value → Option Addr → TS := fun _ _ _ => tS K G noX f
inductive HsOk (X : Cx) (G : Gc) (n : Nat) : List (Nat × List Nat) → List (Env → S → SOut) → List (Value × (Addr → Value → Option Addr → TS)) → Prop
  | nil : HsOk X G n [] [] []
  | cons {h hs f fs cv l} : (∀ k, k < n → PySem.W.exmOne X.K (.ref (G.cls k)) cv = some (h.2.contains k)) → HsOk X G n hs fs l → HsOk X G n (h :: hs) (f :: fs) ((cv, tsOf X.K G f) :: l)
theorem many_red {X : Cx} {W : WX} {n : Nat} {D : Ends} {y : Xc} {cls : Value} {dd : Option Addr} {μ : List Addr} {H : Hp} {σ : L2.St} {ρ : Env} {s : S} (hn : y.c < n) (r : Rel X.K μ H s) (re : RelEnv X.K μ H ρ σ) (rx : RelX X.K G μ H y cls dd) :
    ∀ {hs : List (Nat × List Nat)} {fs : List (Env → S → SOut)} {l : List (Value × (Addr → Value → Option Addr → TS))}, HsOk X G n hs fs l →
      SFin X.K G μ H W (match pickH hs fs y.c with | some f => noExc (f ρ s) | none => .exc y ρ s) D → wMany X.K W D l cls dd σ H
  | _, _, _, .nil, h => h cls dd μ H σ (.refl _ _) r re rx
  | _, _, _, .cons (h := hh) (f := f) e t, h => by
    refine ⟨hh.2.contains y.c, by rw [rx.1]; exact e y.c hn, fun hb a na => ?_, fun hb => ?_⟩
    · unfold pickH at h
      rw [if_pos hb] at h
      exact ⟨μ, ρ, s, r, re, sfin_noExc h⟩
    · unfold pickH at h
      rw [if_neg (by rw [hb]; decide)] at h
      exact many_red hn r re rx t h
mutual
theorem exec_ok : ∀ (st : St) {C : Ck} {X : Cx} {sc : Scope} {fb : Str → Bool} {W : WX} (_ : Oks C Γ N sc fb X G W) (x : Stmt), chkS C N sc fb st x = true → DS X G W x (exec Γ st)
  | .pass, _, _, _, _, _, ok, x, h => by
    unfold chkS at h; unfold exec
    split at h
    · exact ds_pass
    · cases h
  | .brk, _, _, _, _, _, ok, x, h => by
    unfold chkS at h; unfold exec
    split at h
    · exact ds_break
    · cases h
  | .cnt, _, _, _, _, _, ok, x, h => by
    unfold chkS at h; unfold exec
    split at h
    · exact ds_cont
    · cases h
  | .doc, _, _, _, _, _, ok, x, h => by
    unfold chkS at h; unfold exec
    split at h
    · exact ds_doc
    · cases h
  | .expr e, _, _, _, _, _, ok, x, h => by
    unfold chkS at h; unfold exec
    split at h
    · simp only [Bool.and_eq_true] at h
      exact ds_expr (snd_ok e ok.toOkx _ h.2).v h.1
    · cases h
  | .ret e, _, _, _, _, _, ok, x, h => by
    unfold chkS at h; unfold exec
    split at h
    · exact ds_ret (snd_ok e ok.toOkx _ h).v
    · cases h
  | .retN, _, _, _, _, _, ok, x, h => by
    unfold chkS at h; unfold exec
    split at h
    · exact ds_retN
    · cases h
  | .set i e, _, _, _, _, _, ok, x, h => by
    unfold chkS at h; unfold exec
    split at h
    · simp only [Bool.and_eq_true, Bool.or_eq_true] at h
      obtain ⟨h1, h2, h3, h4⟩ := h
      have hi := of_decide_eq_true h1
      rcases h3 with h3 | h3
      · obtain ⟨a, b⟩ := locB_ok h2
        rw [← ok.eS] at a b
        exact ds_set (ok.eN ▸ ok.nd) (ok.eN ▸ hi) a (b.imp (ok.eF _) id) (snd_ok e ok.toOkx _ h4).v h3
      · exact set_lc ok hi h3 h4
    · cases h
  | .asg t e, _, _, _, _, _, ok, x, h => by
    unfold chkS at h; unfold exec
    split at h
    · obtain ⟨h1, h⟩ := band h
      simp only [Bool.and_eq_true] at h
      obtain ⟨h2, h3, h4⟩ := h
      have q := bnd_ok ok.eN ok.eS ok.eF ok.nd (ok.calm (band h1).1) t _ (band h1).2
      exact ds_asg (snd_ok e ok.toOkx _ h4).v q.1 q.2 (swNone_ok ok.eS ok.bk h3) h2
    · cases h
  | .sub o i e, _, _, _, _, _, ok, x, h => by
    unfold chkS at h; unfold exec
    split at h
    · simp only [Bool.and_eq_true] at h
      obtain ⟨h1, h2, h3, h4, h5⟩ := h
      exact ds_asg (snd_ok e ok.toOkx _ h5).v (dg_sub (snd_ok o ok.toOkx _ h3).v (snd_ok i ok.toOkx _ h4).v h1) rfl (sw_none rfl) h2
    · cases h
  | .par is es, _, _, _, _, _, ok, x, h => by
    unfold chkS at h; unfold exec
    split at h
    · rw [Bool.and_eq_true] at h
      obtain ⟨h, hsw⟩ := h
      dsimp only at hsw
      split at h
      · simp only [Bool.and_eq_true] at h
        obtain ⟨h1, h2, h3, h4, h5, h6⟩ := h
        have q4 := of_decide_eq_true h4
        have q5 := of_decide_eq_true h5
        rw [← ok.eS] at q4 q5
        refine ps_imp (ds_par2 (ok.calm (of_decide_eq_true h1).2) (ok.eN ▸ ok.nd) (ok.eN ▸ (of_decide_eq_true h1).1) (ok.eN ▸ of_decide_eq_true h2) (of_decide_eq_true h3) q4 q5 (snds_ok es ok.toOkx _ h6).args (swF_ok ok.eS ok.bk (of_decide_eq_true hsw))) fun D σ H ⟨μ, ρ, s, r, re, hh⟩ => ⟨μ, ρ, s, r, re, ?_⟩
        refine Eq.mp (congrArg (fun o => SFin _ G μ H _ o D) ?_) hh
        refine congrArg (lift (argsV (sems Γ es) ρ s) ρ) (funext fun ds => funext fun s => ?_)
        rcases ds with _ | ⟨d, _ | ⟨e, _ | ⟨f, t⟩⟩⟩ <;> rfl
      · cases h
    · rw [Bool.and_eq_true] at h
      obtain ⟨h, hsw⟩ := h
      dsimp only at hsw
      split at h
      · simp only [Bool.and_eq_true] at h
        obtain ⟨h1, h2, h3, h4, h5, h6, h7, h8, h9, h10⟩ := h
        have q7 := of_decide_eq_true h7
        have q8 := of_decide_eq_true h8
        have q9 := of_decide_eq_true h9
        rw [← ok.eS] at q7 q8 q9
        refine ps_imp (ds_par3 (ok.calm (of_decide_eq_true h1).2) (ok.eN ▸ ok.nd) (ok.eN ▸ (of_decide_eq_true h1).1) (ok.eN ▸ of_decide_eq_true h2) (ok.eN ▸ of_decide_eq_true h3) (of_decide_eq_true h4) (of_decide_eq_true h5) (of_decide_eq_true h6) q7 q8 q9 (snds_ok es ok.toOkx _ h10).args (swF_ok ok.eS ok.bk (of_decide_eq_true hsw))) fun D σ H ⟨μ, ρ, s, r, re, hh⟩ => ⟨μ, ρ, s, r, re, ?_⟩
        refine Eq.mp (congrArg (fun o => SFin _ G μ H _ o D) ?_) hh
        refine congrArg (lift (argsV (sems Γ es) ρ s) ρ) (funext fun ds => funext fun s => ?_)
        rcases ds with _ | ⟨d, _ | ⟨e, _ | ⟨f, _ | ⟨g, t⟩⟩⟩⟩ <;> rfl
      · cases h
    · cases h
  | .ite c a b, _, _, _, _, _, ok, x, h => by
    unfold chkS at h; unfold exec
    split at h
    · simp only [Bool.and_eq_true] at h
      obtain ⟨h1, h2, h3⟩ := h
      exact ds_if (snd_ok c ok.toOkx _ h1).t (execs_ok a ok _ h2) (execs_ok b ok _ h3)
    · cases h
  | .for_ t it b, _, _, _, _, _, ok, x, h => by
    unfold chkS at h; unfold exec
    split at h
    · obtain ⟨h1, h⟩ := band h
      simp only [Bool.and_eq_true] at h
      obtain ⟨h2, h3, h4⟩ := h
      exact ds_for ok.po (ok.calm (band h1).1) ((snd_ok it ok.toOkx _ h3).i _) (bnd_ok ok.eN ok.eS ok.eF ok.nd (ok.calm (band h1).1) t _ (band h1).2).1 (execs_ok b ok _ h4) h2
    · cases h
  | .whl n c b, _, _, _, _, _, ok, x, h => by
    unfold chkS at h; unfold exec
    split at h
    · simp only [Bool.and_eq_true] at h
      exact ds_while ok.po (snd_ok c ok.toOkx _ h.1).t (execs_ok b ok _ h.2)
    · cases h
  | .rais c fl e, C, X, _, _, _, ok, x, h => by
    unfold chkS at h; unfold exec
    split at h
    · simp only [Bool.and_eq_true] at h
      obtain ⟨h1, h2, h3, h4, h5⟩ := h
      obtain ⟨k, room⟩ := ok.rm h1
      split at h4
      · rename_i u fo ec
        obtain ⟨e1, e2⟩ := of_decide_eq_true h4
        subst e1
        have use := ok.exs c _ fo ec
        have q := snd_ok e ok.toOkx _ h5
        cases fo with
        | some f =>
          obtain ⟨b, sf, fI, T, hf⟩ := use
          have e3 : fl = true := e2.symm
          subst e3
          exact ds_raise1 (ok.calm h1) T rfl hf room ok.tk q.v (gl_of ok.toOkx h2) q.ns (plainN_ok h3).1
        | none =>
          obtain ⟨b, q1, q2, q3, q4⟩ := use
          have e3 : fl = false := e2.symm
          subst e3
          exact ds_raise0 (ok.calm h1) q1 q2 q3 q4 rfl ok.tk q.v (gl_of ok.toOkx h2) q.ns (plainN_ok h3).1
      · cases h4
    · cases h
  | .tryA b i hh n ms t, C, X, sc, fb, W, ok, x, h => by
    unfold chkS at h; unfold exec
    split at h
    · simp only [Bool.and_eq_true] at h
      obtain ⟨h1, h2, h3, h4, h5, h6⟩ := h
      obtain ⟨e1, e2⟩ := of_decide_eq_true h1
      obtain ⟨e3, e4⟩ := of_decide_eq_true h4
      obtain ⟨cv, nm, ex⟩ := ok.names e2 h2 h3
      have hln : ∀ u, sc.names.lookup u = some .local → X.env.kindOf u = some .local := fun u e => by unfold PySem.Env.kindOf; rw [ok.eS]; exact e
      refine ps_imp (ps_try_as (tb := fun W => tS X.K G W (execs Γ b)) (ts := fun a cls d => fun D σ H => tDj X.K G i a cls d (semX Γ t) σ H D.rt) ok.stk ok.frm (ok.eN ▸ ok.nd) (ok.eN ▸ e3) (hln _ e4) nm ok.tk
        (fun W pn xe tk po => execs_ok b (ok.tr tk po) _ h5) (fun a oe cls d pn hz hd => pss_one (ps_ret (dj_ok ok.quiet.toOkx ok.exs hz hd t _ h6)))) fun D σ H ⟨μ, ρ, s, r, re, hh⟩ => ⟨μ, ρ, s, r, re, ?_⟩
      dsimp only at hh
      cases eb : execs Γ b ρ s with
      | exc y ρ' s' =>
        rw [eb] at hh
        dsimp only at hh
        intro cls dd μ1 H1 σ1 x1 r1 re1 rx1
        split at hh
        · rename_i hc
          refine ⟨ms.contains y.c, by rw [rx1.1]; exact ex y.c (e1 ▸ hc), fun hb a na => ?_, fun hb => ?_⟩
          · rw [if_pos hb] at hh
            refine ⟨μ1, ρ'.set i none, s', y, r1, re1.forget, fun hl => List.getElem?_set_self (by rw [List.length_set] at hl; exact hl), rx1, ?_⟩
            split at hh
            · rename_i d s2 e5
              rw [e5]
              exact fun μ2 H2 x2 r2 v rv => hh μ2 H2 v (x1.trans x2) r2 rv
            · exact hh.elim
          · rw [if_neg (by rw [hb]; decide)] at hh
            exact hh cls dd μ1 H1 σ1 x1 r1 re1 rx1
        · exact hh.elim
      | _ => rw [eb] at hh; exact hh
    · cases h
  | .tryN b n hs ss, C, X, sc, fb, W, ok, x, h => by
    unfold chkS at h; unfold exec
    split at h
    · simp only [Bool.and_eq_true] at h
      obtain ⟨h1, h2, h3⟩ := h
      have e1 := of_decide_eq_true h1
      obtain ⟨l, k1, k2⟩ := handlers_ok ss ok hs _ h3
      refine ps_imp (ps_try_many (tb := fun W => tS X.K G W (execs Γ b)) ok.stk ok.frm ok.tk (fun W pn xe tk po => execs_ok b (ok.tr tk po) _ h2) k1) fun D σ H ⟨μ, ρ, s, r, re, hh⟩ => ⟨μ, ρ, s, r, re, ?_⟩
      dsimp only at hh
      cases eb : execs Γ b ρ s with
      | exc y ρ' s' =>
        rw [eb] at hh
        dsimp only at hh
        intro cls dd μ1 H1 σ1 x1 r1 re1 rx1
        split at hh
        · rename_i hc
          exact many_red (e1 ▸ hc) r1 re1 rx1 k2 (SFin.ext x1 hh)
        · exact hh.elim
      | _ => rw [eb] at hh; exact hh
    · cases h
theorem handlers_ok : ∀ (ss : List (List St)) {C : Ck} {X : Cx} {sc : Scope} {fb : Str → Bool} {W : WX} (_ : Oks C Γ N sc fb X G W) (hs : List (Nat × List Nat)) (xs : List ExceptHandler), chkHs C N sc fb hs ss xs = true → ∃ l, HdsOk X xs l ∧ HsOk X G C.exc.length hs (execss Γ ss) l
  | [], C, X, sc, fb, W, ok, hs, xs, h => by
    unfold chkHs at h; unfold execss
    split at h
    · exact ⟨[], .nil, .nil⟩
    · cases h
  | b :: bs, C, X, sc, fb, W, ok, hs, xs, h => by
    unfold chkHs at h; unfold execss
    split at h
    · simp only [Bool.and_eq_true] at h
      obtain ⟨h1, h2, h3, h4, h5⟩ := h
      obtain ⟨cv, nm, ex⟩ := ok.names (of_decide_eq_true h1) h2 h3
      obtain ⟨l, k1, k2⟩ := handlers_ok bs ok _ _ h5
      exact ⟨(cv, tsOf X.K G (execs Γ b)) :: l, .cons nm (fun a oe cls d pn hz hd => execs_ok b ok.quiet _ h4) k1, .cons ex k2⟩
    · cases h
theorem execs_ok : ∀ (sts : List St) {C : Ck} {X : Cx} {sc : Scope} {fb : Str → Bool} {W : WX} (_ : Oks C Γ N sc fb X G W) (xs : List Stmt), chkSs C N sc fb sts xs = true → DSs X G W xs (execs Γ sts)
  | [], _, _, _, _, _, ok, x, h => by
    unfold chkSs at h; unfold execs
    split at h
    · exact ds_nil
    · cases h
  | st :: sts, _, _, _, _, _, ok, x, h => by
    unfold chkSs at h; unfold execs
    split at h
    · simp only [Bool.and_eq_true] at h
      exact ds_cons (exec_ok st ok _ h.1) (execs_ok sts ok _ h.2)
    · cases h
end
end
end Fe

set_option maxHeartbeats 4000000
/-! Fe 17: programs. -/
namespace Fe
open PySem PySem.Spec PyProof.Rows L2
/-- a def: its name, its parameters, all its locals, its body -/
structure Fd where
  name : Str
  ps : List Str
  N : List Str
  body : List St
def start' (n : Nat) (ds : List D) : Env := ds.map some ++ List.replicate (n - ds.length) none
def retO : SOut → Out D
  | .nx _ s => .ok .non s
  | .rt d s => .ok d s
  | .exc x _ s => .exc x s
  | _ => .bad
def callF (T : List Fd) : Nat → Nat → List D → S → Out D
  | 0 => fun _ _ _ => .bad
  | k + 1 => fun f ds s => match T[f]? with
    | some d => if ds.length = d.ps.length then trimO s (retO (execs (callF T k) d.body (start' d.N.length ds) s)) else .bad
    | none => .bad
def scB (N ps : List Str) (sc : Scope) : Bool :=
  decide (sc.kind = .function) && (!sc.isCoroutine && (!sc.isGenerator && (decide N.Nodup && (decide (N.take ps.length = ps) && ((ps.all fun x => decide (sc.names.lookup x = some .local) || decide (sc.names.lookup x = some .cell)) && sc.names.all fun y => !decide (y.2 = .free))))))
theorem scB_ok {N ps : List Str} {sc : Scope} (h : scB N ps sc = true) : FnScope N ps sc := by
  unfold scB at h
  simp only [Bool.and_eq_true] at h
  obtain ⟨h1, h2, h3, h4, h5, h6, h7⟩ := h
  rw [List.all_eq_true] at h6 h7
  refine ⟨of_decide_eq_true h1, by simpa using h2, by simpa using h3, of_decide_eq_true h4, of_decide_eq_true h5, fun x hx => ?_, fun y hy => ?_⟩
  · have := h6 x hx
    rw [Bool.or_eq_true] at this
    exact this.imp of_decide_eq_true of_decide_eq_true
  · simpa using h7 y hy
/-- what is known of a def of the text -/
structure DefOk (C : Ck) (K : PySem.W.Frag) (mg : Str → Option Value) (d : Fd) (fa : Addr) (fd : FuncData) : Prop where
  ex : ∃ qual params body scope, FunD K d.name qual params body scope [] [] fa fd ∧ scB d.N d.ps scope = true ∧ chkSs C d.N scope (fun _ => true) d.body body = true
  glo : mg d.name = some (.ref fa)
  bd : Binds K fd d.ps []
structure ProgOk (C : Ck) (T : List Fd) (K : PySem.W.Frag) (mg : Str → Option Value) (G : Gc) : Prop where
  fns : C.fns = T.map fun d => (d.name, d.ps.length)
  defs : ∀ d ∈ T, ∃ fa fd, DefOk C K mg d fa fd
  cons : ∀ (g : Nat) (x : Str) (d : D), C.cons[g]? = some (x, d) → ∃ v u, mg x = some u ∧ RelV v u ∧ ∀ μ H, RelD K μ H d v
  free : ∀ x ∈ C.free, mg x = none
  exs : ∀ X : Cx, X.K = K → X.mg = mg → ∀ (c : Nat) (x : Str) (fo : Option Str), C.exc[c]? = some (x, fo) → ExUse X G c x fo
  hdl : ∀ (h : Nat) (x : Str) (ms : List Nat), C.hds[h]? = some (x, ms) → ∃ cv, (mg x = some cv ∨ (mg x = none ∧ bootBuiltins x = some cv ∧ x ≠ "__name__")) ∧ ∀ k, k < C.exc.length → PySem.W.exmOne K (.ref (G.cls k)) cv = some (ms.contains k)
theorem RelDs.opt {K : PySem.W.Frag} {μ : List Addr} {H : Hp} {n : Nat} {ds : List D} {vs : List V} (h : RelDs K μ H ds vs) : RelEnv K μ H (start' n ds) (vs.map some ++ List.replicate (n - vs.length) none) := by
  unfold start'
  rw [h.length]
  refine ⟨by simp [h.length], fun i d e => ?_⟩
  by_cases hi : i < ds.length
  · rw [List.getElem?_append_left (by simpa using hi), List.getElem?_map] at e
    rw [List.getElem?_append_left (by rw [List.length_map, h.length]; exact hi), List.getElem?_map]
    cases e2 : ds[i]? with
    | none => rw [e2] at e; cases e
    | some d' =>
      rw [e2] at e
      cases e
      obtain ⟨v, e3, r⟩ := h.get e2
      exact ⟨v, by rw [e3]; rfl, r⟩
  · rw [List.getElem?_append_right (by simpa using Nat.le_of_not_lt hi), List.getElem?_replicate] at e
    split at e <;> cases e
theorem fnG_bad {P : Program} {w : World} {K : PySem.W.Frag} {mg : Str → Option Value} {base : Heap} {G : Gc} {k : Nat} {f : Addr} {fd : FuncData} {ps : List Str} : FnG P w K mg base G k f fd ps (fun _ _ => .bad) :=
  ⟨fun A outer s H args us vs Q E hr hg e0 hb r ⟨_, _, _, _, _, _, h⟩ => h.elim⟩
/-- a def by its body -/
theorem fnG_of {P : Program} {w : World} {K : PySem.W.Frag} {mg : Str → Option Value} {base : Heap} {G : Gc} {k : Nat} {x qual : Str} {params : Arguments} {body : List Stmt} {scope : Scope} {dvs : List V} {kws : List (Str × V)} {fa : Addr} {fd : FuncData} {N ps : List Str} {fb : Env → S → SOut}
    (F : FunD K x qual params body scope dvs kws fa fd) (S : FnScope N ps scope)
    (hb : ∀ (cdv : Value) (A : Around) (outer : List PySem.Env) (s : Shared) (H : Hp) (E : XK), Room k (A.deeper (envOfC qual scope s.heap.objs.size fa cdv)) → A.guards = some [] →
      DSs (cxOf (L2.CX P w) P w K mg base N qual scope fa cdv A outer s H E) G (fun c d _ H' => E c d H') body fb) :
    FnG P w K mg base G (k + 1) fa fd ps (fun ds s => if ds.length = ps.length then trimO s (retO (fb (start' N.length ds) s)) else .bad) := by
  obtain ⟨oc, od, dV, kV, doc, pm, an, cdv, ct, osl, rfl, lk, hcd, _, _⟩ := F.ex
  refine ⟨fun A outer s H args us vs Q E room gd e0 bnd rv ⟨hl, μ, st, ds, rel, rds, fin⟩ => ?_⟩
  have old : ∀ b o, base.get? b = some o → s.heap.get? b = some o := fun b o e => (e0.bs b o e).1
  have inK : K.In s.heap := e0.mod.kin.keeps old
  have kinds : ∀ y ∈ ps.zip us, scope.names.lookup y.1 = some .local ∨ (scope.names.lookup y.1 = some .cell ∧ ((cellsFrom (s.heap.objs.size + 1) scope.names []).lookup y.1).isSome = true) := fun y hy =>
    (S.par y.1 (List.of_mem_zip (a := y.1) (b := y.2) hy).1).imp id fun q => ⟨q, PySem.W.cellsFrom_some _ _ _ (.inl q)⟩
  have start : codeAny (model P w) A (.call (.ref fa) args) (CR (L2.CX P w) outer P w H s Q E) s := by
    refine codeAny_call_function room.depth (inK _ _ lk) rfl S.co S.gen rfl (PySem.W.codeRec_of inK hcd) (bnd _ _ _ _ (wpAny_newFunctionEnv_cells S.kind kinds fun env he s1 x => ?_))
    cases he
    refine ⟨(e0.mod.nolimit.keeps old).keeps x.toInCall.keep, codeAny_func ?_⟩
    have I := inv_start (CX := L2.CX P w) (P := P) (w := w) (K := K) (mg := mg) (base := base) (E := E) S room.hd e0 hl rv x
    have wish : tS K G (fun c d _ H' => E c d H') fb { nx := fun _ H' => Q .non H', rt := Q } (L2.start N vs) H := by
      refine ⟨μ, start' N.length ds, st, rel, rds.opt, ?_⟩
      dsimp only at fin
      split at fin
      · have fin' := trim_fin rel fin
        cases e : fb (start' N.length ds) st with
        | nx ρ s2 =>
          rw [e] at fin'
          exact fun μ' H' σ' x r re => fin' μ' H' x r _ relNon
        | rt d s2 =>
          rw [e] at fin'
          exact fun μ' H' v x r rv => fin' μ' H' x r v rv
        | exc c ρ s2 =>
          rw [e] at fin'
          exact fun cls dd μ' H' σ' x r re rx => fin' cls dd μ' H' x r rx
        | bk ρ s2 => rw [e] at fin'; exact fin'.elim
        | ct ρ s2 => rw [e] at fin'; exact fin'.elim
        | bad => rw [e] at fin'; exact fin'.elim
      · exact fin.elim
    refine wpAny_mono ((hb cdv A outer s H E (room.deeper _) gd).run [] s1 _ H _ I wish) (fun fl s' z => ?_) fun e s' z => z
    cases fl with
    | ret u =>
      obtain ⟨v, σ', H', J, r, q⟩ := z
      exact ⟨v, H', J.os, J.bare, J.base, J.hok, r, q⟩
    | next =>
      obtain ⟨σ', H', J, q⟩ := z
      exact ⟨V.non, H', J.os, J.bare, J.base, J.hok, rfl, q⟩
    | brk => obtain ⟨_, _, _, q⟩ := z; cases q
    | cont => obtain ⟨_, _, _, q⟩ := z; cases q
  exact start
theorem deeper_guards {A : Around} {env : PySem.Env} : (A.deeper env).guards = A.guards := by first | rfl | simp [Around.deeper]
theorem prog_ok {P : Program} {w : World} {K : PySem.W.Frag} {mg : Str → Option Value} {base : Heap} {G : Gc} {C : Ck} {T : List Fd} (H0 : ProgOk C T K mg G) : ∀ (k f : Nat) (d : Fd) (fa : Addr) (fd : FuncData), T[f]? = some d → DefOk C K mg d fa fd → FnG P w K mg base G k fa fd d.ps (callF T k f)
  | 0, f, d, fa, fd, e, h => fnG_bad
  | k + 1, f, d, fa, fd, e, h => by
    obtain ⟨qual, params, body, scope, F, hsc, hch⟩ := h.ex
    have S := scB_ok hsc
    have eq : callF T (k + 1) f = fun ds s => if ds.length = d.ps.length then trimO s (retO (execs (callF T k) d.body (start' d.N.length ds) s)) else .bad := by
      funext ds s
      show (match T[f]? with | some d => _ | none => _) = _
      rw [e]
    rw [eq]
    refine fnG_of F S fun cdv A outer s H E room gd => ?_
    refine execs_ok (C := C) (Γ := callF T k) (N := d.N) (sc := scope) (fb := fun _ => true) d.body ⟨⟨rfl, rfl, fun _ _ => rfl, S.nd, fun _ => rfl, L2.takes_of rfl rfl rfl rfl, ?_, by show (A.deeper _).guards = _; rw [deeper_guards]; exact gd, fun g x n hg => ?_, H0.cons, H0.free⟩, ?_, L2.passes_of rfl, rfl, rfl, H0.exs _ rfl rfl, H0.hdl, fun _ => ⟨k, room⟩⟩ body hch
    · have := room.un; show (A.deeper _).units + 65 < _; omega
    · rw [H0.fns, List.getElem?_map] at hg
      cases e2 : T[g]? with
      | none => rw [e2] at hg; cases hg
      | some d2 =>
        rw [e2] at hg
        cases hg
        obtain ⟨fa2, fd2, h2⟩ := H0.defs d2 (List.mem_of_getElem? e2)
        refine ⟨k, fa2, fd2, d2.ps, rfl, prog_ok H0 k g d2 fa2 fd2 e2 h2, room, h2.glo, ?_, h2.bd, fun ds s hn => ?_⟩
        · obtain ⟨_, _, _, _, F2, _⟩ := h2.ex
          exact F2.kp
        · cases k with
          | zero => exact absurd rfl hn
          | succ k =>
            have : callF T (k + 1) g ds s = if ds.length = d2.ps.length then trimO s (retO (execs (callF T k) d2.body (start' d2.N.length ds) s)) else .bad := by
              show (match T[g]? with | some d => _ | none => _) = _
              rw [e2]
            rw [this] at hn
            by_cases hl : ds.length = d2.ps.length
            · exact hl
            · rw [if_neg hl] at hn
              exact absurd rfl hn
    · show PySem.Env.blockKind _ = _
      unfold PySem.Env.blockKind
      have : (envOfC qual scope s.heap.objs.size fa cdv).scope.kind = .function := S.kind
      show (if (envOfC qual scope s.heap.objs.size fa cdv).scope.kind.isAnnotationScope then _ else (envOfC qual scope s.heap.objs.size fa cdv).scope.kind) = _
      rw [this]
      rfl
end Fe

set_option maxHeartbeats 4000000
/-! Fe 18: a law's end. -/
namespace Fe
open PySem PySem.Spec PyProof.Rows L2
/-- the script as an object -/
abbrev scO (vs : List Value) : Obj := { cls := .type "list", data := .seq vs.toArray }
def scH (a : Addr) (vs : List Value) (ns : List Int) : Hp := fun b => if b = a then some (.frz (scO vs) (.lst (ns.map V.int))) else none
theorem relInts {K : PySem.W.Frag} {μ : List Addr} {H : Hp} : ∀ ns : List Int, RelDs K μ H (ns.map D.int) (ns.map V.int)
  | [] => relNil
  | _ :: ns => relCons relInt (relInts ns)
theorem law_callG {P : Program} {w : World} {K : PySem.W.Frag} {mg mb : Str → Option Value} {G : Gc} {k : Nat} {fa a : Addr} {fd : FuncData} {x : Str} {F : List D → S → Out D} {s₁ : Shared} {vs : List Value} {ns : List Int}
    (inK : K.In s₁.heap) (nsM : s₁.heap.Ns mainGlobals mg) (nsB : s₁.heap.Ns builtinsNs mb) (isB : ∀ x : Str, x ≠ "__name__" → mb x = bootBuiltins x) (lim : s₁.heap.NoLimit) (gens : s₁.gens = #[])
    (at_ : s₁.heap.get? a = some (scO vs)) (hns : IntsAre vs ns) (fits : ns.length ≤ sizeLine) (room : Room k callerA) (out : K.lookup a = none)
    (fn : ∀ base : Heap, K.In base → base.Ns mainGlobals mg → FnG P w K mg base G k fa fd [x] F) (bind : ∀ (s : Shared) (u : Value), BindsTo s fd ⟨[u], []⟩ [(x, u)])
    (law : ∃ s', F [.ref 0] [.rl (ns.map .int)] = .ok (.bl true) s') :
    codeAny (model P w) callerA (.call (.ref fa) ⟨[.ref a], []⟩) (fun r s' => r = .ok (.ret (.bool true)) ∧ OldK s₁.heap s'.heap ∧ s'.os = s₁.os ∧ AllBare s'.gens) s₁ := by
  have rvs := vals_ints hns
  have free : ∀ b, b ≠ a → scH a vs ns b = none := fun b hb => if_neg hb
  have mine : scH a vs ns a = some (.frz (scO vs) (.lst (ns.map V.int))) := if_pos rfl
  have hok : HOk P w (scH a vs ns) s₁.heap := fun b u e => by
    by_cases hb : b = a
    · subst hb
      rw [mine] at e
      cases e
      exact ⟨at_, by rw [List.length_map]; exact fits, vs, _, rvs, at_⟩
    · rw [free b hb] at e; cases e
  have stays : ∀ {b : Addr} {o : Obj}, s₁.heap.get? b = some o → b ≠ a → (hidT s₁.heap (scH a vs ns)).get? b = some o := fun e hb => hidT_get e (free _ hb)
  have names : ∀ {b : Addr} {m : Str → Option Value}, s₁.heap.Ns b m → (hidT s₁.heap (scH a vs ns)).Ns b m := fun {b m} ⟨o, es, ep, e, d, r⟩ => by
    refine ⟨o, es, ep, stays e fun q => ?_, d, r⟩
    subst q
    rw [at_] at e
    cases e
    cases (show Data.seq vs.toArray _ = Data.dict es ep from d)
  have inB : K.In (hidT s₁.heap (scH a vs ns)) := fun b o e => stays (inK b o e) fun q => by
    subst q
    rw [out] at e; cases e
  have e0 : Env0 P w K mg (hidT s₁.heap (scH a vs ns)) callerA [] s₁ (scH a vs ns) :=
    ⟨rfl, ⟨inB, names nsM, ⟨mb, names nsB, isB⟩, let ⟨mc, h1, h2⟩ := lim; ⟨mc, names h1, h2⟩⟩, fun b o e => of_hidT e, Nat.le_of_eq (hidT_size _ _), trivial, fun b hb => (nomatch (show b ∈ ([] : List Addr) from hb)), hok, .of_eq gens⟩
  obtain ⟨s', eF⟩ := law
  have rel : Rel K [a] (scH a vs ns) [.rl (ns.map .int)] := ⟨rfl, by simp, fun i b o h1 h2 => by
    cases i with
    | succ i => simp at h1
    | zero =>
      have h1' : a = b := by simpa using h1
      have h2' : O.rl (ns.map .int) = o := by simpa using h2
      subst h1' h2'
      exact ⟨_, _, mine, relInts ns⟩⟩
  have sp : spF K G 1 F [.ref a] (scH a vs ns) (fun v _ => v = .bl true) (fun _ _ _ => False) := by
    refine ⟨rfl, [a], [.rl (ns.map .int)], [.ref 0], rel, relCons (relRef rfl) relNil, ?_⟩
    rw [eF]
    exact fun μ' H' _ _ v rv => rv.bl_
  refine codeAny_mono ((fn _ inB (names nsM)).run callerA [] s₁ _ ⟨[.ref a], []⟩ [.ref a] [.ref a] _ _ room rfl e0 (bind s₁ (.ref a)) (.cons rfl .nil) sp) fun r s' h => ?_
  cases r with
  | error e =>
    obtain ⟨_, _, _, _, _, _, _, _, _, _, _, _, z⟩ := h
    cases z
  | ok fl =>
    cases fl with
    | next => cases h
    | brk => cases h
    | cont => cases h
    | ret u =>
      obtain ⟨v, H', os, bare, un, hok', rv, q⟩ := h
      have q' : v = .bl true := q
      subst q'
      cases (show u = Value.bool true from rv)
      refine ⟨rfl, OldK.of_keep fun b o e => ?_, os, bare⟩
      by_cases hb : b = a
      · subst hb
        rw [at_] at e
        cases e
        exact (hok' b _ (un.frzs b _ _ mine)).1
      · exact un.keep b o e (free b hb) (fun z => (nomatch (show b ∈ ([] : List Addr) from z))) fun z => (nomatch (show b ∈ ([] : List Addr) from z))

/-! ### constants, names: seen in K -/
mutual
def conV (K : PySem.W.Frag) : D → Value → Bool
  | .non, v => match v with
    | .none => true
    | _ => false
  | .bl b, v => match v with
    | .bool c => decide (b = c)
    | _ => false
  | .int i, v => match v with
    | .int j _ => decide (i = j)
    | _ => false
  | .str cs, v => match v with
    | .str y _ => decide ((⟨cs.toArray⟩ : Str) = y) && okS cs
    | _ => false
  | .tup ds, v => match v with
    | .ref a => (match K.lookup a with
      | some ⟨.type c, _, .seq its _, _⟩ => decide (c = "tuple") && (decide (its.size ≤ sizeLine) && conVs K ds its.toList)
      | _ => false)
    | _ => false
  | .ref _, _ => false
def conVs (K : PySem.W.Frag) : List D → List Value → Bool
  | [], vs => match vs with
    | [] => true
    | _ => false
  | d :: ds, vs => match vs with
    | v :: vs => conV K d v && conVs K ds vs
    | _ => false
end
mutual
theorem conV_ok {K : PySem.W.Frag} : ∀ (d : D) (u : Value), conV K d u = true → ∃ v, RelV v u ∧ ∀ μ H, RelD K μ H d v
  | .non, u, h => by
    unfold conV at h
    split at h
    · exact ⟨.non, rfl, fun _ _ => relNon⟩
    · cases h
  | .bl b, u, h => by
    unfold conV at h
    split at h
    · rw [of_decide_eq_true h]; exact ⟨.bl _, rfl, fun _ _ => relBl⟩
    · cases h
  | .int i, u, h => by
    unfold conV at h
    split at h
    · rw [of_decide_eq_true h]; exact ⟨.int _, ⟨_, rfl⟩, fun _ _ => relInt⟩
    · cases h
  | .str cs, u, h => by
    unfold conV at h
    split at h
    · simp only [Bool.and_eq_true] at h
      exact ⟨.str ⟨cs.toArray⟩, by rw [of_decide_eq_true h.1]; exact ⟨_, rfl⟩, fun _ _ => relStr h.2⟩
    · cases h
  | .tup ds, u, h => by
    unfold conV at h
    split at h
    · split at h
      · rename_i q
        simp only [Bool.and_eq_true] at h
        obtain ⟨h1, h2, h3⟩ := h
        obtain ⟨vs, rv, rd⟩ := conVs_ok ds _ h3
        exact ⟨.ref _, rfl, fun μ H => relTup (.inr ⟨_, _, _, q, congrArg Value.type (of_decide_eq_true h1), rfl, of_decide_eq_true h2, rv⟩) (rd μ H)⟩
      · cases h
    · cases h
  | .ref _, u, h => by unfold conV at h; cases h
theorem conVs_ok {K : PySem.W.Frag} : ∀ (ds : List D) (us : List Value), conVs K ds us = true → ∃ vs, Vals vs us ∧ ∀ μ H, RelDs K μ H ds vs
  | [], us, h => by
    unfold conVs at h
    split at h
    · exact ⟨[], .nil, fun _ _ => relNil⟩
    · cases h
  | d :: ds, us, h => by
    unfold conVs at h
    split at h
    · simp only [Bool.and_eq_true] at h
      obtain ⟨v, r, q⟩ := conV_ok d _ h.1
      obtain ⟨vs, rs, qs⟩ := conVs_ok ds _ h.2
      exact ⟨v :: vs, .cons r rs, fun μ H => relCons (q μ H) (qs μ H)⟩
    · cases h
end
/-- no list of numbers in K -/
def isInt : Value → Bool
  | .int _ _ => true
  | _ => false
def noInts (K : PySem.W.Frag) : Bool := K.all fun q => match q.2 with
  | ⟨.type c, none, .seq its _, _⟩ => !(decide (c = "list") && its.toList.all isInt)
  | _ => true
theorem ints_all {vs : List Value} {ns : List Int} (h : IntsAre vs ns) : vs.all isInt = true := by
  induction h with
  | nil => rfl
  | cons _ _ _ ih => rw [List.all_cons, ih]; rfl
theorem noInts_ok {K : PySem.W.Frag} {h : Heap} {a : Addr} {vs : List Value} {ns : List Int} (inK : K.In h) (c : noInts K = true) (at_ : h.get? a = some (scO vs)) (hns : IntsAre vs ns) : K.lookup a = none := by
  cases e : K.lookup a with
  | none => rfl
  | some o =>
    have e2 := inK a o e
    rw [at_] at e2
    cases e2
    have := List.all_eq_true.mp c _ (He.lookup_mem e)
    simp [ints_all hns] at this
def conB (K : PySem.W.Frag) (p : Str × D) : Bool := match PySem.W.nsIn K mainGlobals p.1 with
  | some (some u) => conV K p.2 u
  | _ => false
/-! ### own exceptions, seen in K -/
/-- an own exception: its class, its field, what it rests on, the first parameter's name, its __init__ in the text -/
structure ExD where
  x : Str
  f : Option Str
  b : Bs
  sf : Str
  st : Stmt
def exShape (K : PySem.W.Frag) (b : Bs) (C : Addr) : Bool := match K.lookup C with
  | some ⟨.type t, _, .cls cd, sl⟩ => decide (t = "type") && (match cd.mro, sl.toList with
    | .ref c' :: bm, [_, _, _, _, some (.builtin n), _] => decide (c' = C) && (decide (n = b.newId) && (!cd.hasDel && (cd.hasDict && mroB b bm)))
    | _, _ => false)
  | _ => false
theorem exShape_ok {K : PySem.W.Frag} {b : Bs} {C : Addr} (h : exShape K b C = true) : ∃ nm q N bs bm sn sub ab col dd k0 k1 k2 k3 k5, K.lookup C = some (excClassObj nm q C N bs bm true sn sub ab col dd k0 k1 k2 k3 k5 b.newId) ∧ mroB b bm = true := by
  unfold exShape at h
  split at h
  · rename_i t dd cd sl ho
    obtain ⟨h0, h⟩ := band h
    split at h
    · rename_i c' bm k0 k1 k2 k3 n k5 hm hs
      simp only [Bool.and_eq_true] at h
      obtain ⟨h1, h2, h3, h4, h5⟩ := h
      have e0 := of_decide_eq_true h0
      have e1 := of_decide_eq_true h1
      have e2 := of_decide_eq_true h2
      obtain ⟨nm, bs, mro, ns, qn, hd, sn, sub, ab, col, del⟩ := cd
      dsimp only at hm h3 h4
      have e3 : del = false := by simpa using h3
      subst e0 e1 e2 e3 hm h4
      have hsl : sl = #[k0, k1, k2, k3, some (.builtin b.newId), k5] := by
        obtain ⟨l⟩ := sl
        simp only at hs
        rw [hs]
      subst hsl
      exact ⟨nm, qn, ns, bs, bm, sn, sub, ab, col, dd, k0, k1, k2, k3, k5, ho, h5⟩
    · cases h
  · cases h
def exB (K : PySem.W.Frag) (d : ExD) : Bool := He.Fa.ok K (.glo d.x) && (PySem.W.keepIn K (.ref (He.ga K d.x)) && (decide (PySem.W.typeIn K (.ref (He.ga K d.x)) = some (.type "type")) && (decide (PySem.W.subIn K (.ref (He.ga K d.x)) (.type "BaseException") = some true) && (match d.f with
  | none => PySem.W.excIn K (He.ga K d.x) d.b.tail d.b.newId
  | some f => exShape K d.b (He.ga K d.x) && (He.eqO (PySem.W.findIn K (.ref (He.ga K d.x)) "__setattr__") (some (some (.builtin "object.__setattr__"))) && (He.eqO (PySem.W.findIn K (.ref (He.ga K d.x)) f) (some none) &&
      (He.eqO (PySem.W.findIn K (.ref (He.ga K d.x)) "__init__") (some (some (.ref (He.ma K (He.ga K d.x) "__init__")))) && (decide (PySem.W.typeIn K (.ref (He.ma K (He.ga K d.x) "__init__")) = some (.type "function")) && xfB K (He.ga K d.x)))))))))
/-- of the text alone: __init__'s form -/
def exT (d : ExD) : Bool := match d.f with
  | none => true
  | some f => initB d.sf f (defBody d.st) && (decide ((defScope d.st).kind = .function) && (!(defScope d.st).isCoroutine && (!(defScope d.st).isGenerator && (decide ((defScope d.st).names.lookup d.sf = some .local) && (decide ((defScope d.st).names.lookup f = some .local) &&
      (decide (d.sf ≠ f) && (!(d.sf == ("__debug__" : Str)) && !(f == ("__debug__" : Str)))))))))
/-- an except clause's name; own class or not -/
structure HdD where
  x : Str
  own : Bool
  ms : List Nat
def hdV (K : PySem.W.Frag) (d : HdD) : Value := if d.own = true then .ref (He.ga K d.x) else .type (String.ofList (d.x.cps.toList.map Char.ofNat))
def hdB (K : PySem.W.Frag) (es : List ExD) (d : HdD) : Bool := (if d.own = true then He.Fa.ok K (.glo d.x) else He.Fa.ok K (.free d.x)) && (List.range es.length).all fun k => decide (PySem.W.exmOne K (.ref (He.ga K ((es.map ExD.x).getD k ""))) (hdV K d) = some (d.ms.contains k))
def hdT (d : HdD) : Bool := d.own || (decide (bootBuiltins d.x = some (.type (String.ofList (d.x.cps.toList.map Char.ofNat)))) && decide (d.x ≠ "__name__"))
def ckK (cons : List (Str × D)) (es : List ExD) (hds : List HdD) (K : PySem.W.Frag) : Bool := noInts K && (cons.all (conB K) && (es.all (exB K) && hds.all (hdB K es)))
def gcOf (es : List ExD) (K : PySem.W.Frag) : Gc := ⟨fun c => He.ga K ((es.map ExD.x).getD c ""), fun c => match (es.map ExD.f).getD c none with | some f => [f] | none => []⟩
theorem exTxt_of {K : PySem.W.Frag} {h : Heap} {mg : Str → Option Value} {d : ExD} {f : Str} {fd : FuncData} (inK : K.In h) (nsM : h.Ns mainGlobals mg) (c : exB K d = true) (t : exT d = true) (hf : d.f = some f)
    (F : ∃ nm qual, FunD K nm qual (defArgs d.st) (defBody d.st) (defScope d.st) [] [] (He.ma K (He.ga K d.x) "__init__") fd) (bd : ∀ (s : Shared) (u v : Value), BindsTo s fd ⟨[u, v], []⟩ [(d.sf, u), (f, v)]) : ExTxt K mg d.b d.x f d.sf (He.ga K d.x) (He.ma K (He.ga K d.x) "__init__") := by
  unfold exB at c
  unfold exT at t
  rw [hf] at c t
  dsimp only at c t
  simp only [Bool.and_eq_true] at c t
  obtain ⟨c1, c2, c3, c4, c5, c6, c7, c8, c9, c10⟩ := c
  obtain ⟨t1, t2, t3, t4, t5, t6, t7, t8, t9⟩ := t
  obtain ⟨nm, qual, F⟩ := F
  obtain ⟨oc, od, dV, kV, doc, pm, an, cdv, ct, osl, rfl, lk, hcd, hD, hK⟩ := F.ex
  exact ⟨He.glo_ok inK nsM c1, exShape_ok c5, He.eqO_ok c6, He.eqO_ok c7, He.eqO_ok c8, of_decide_eq_true c9, c2, xfB_ok c10, of_decide_eq_true c3,
    ⟨oc, od, nm, qual, defArgs d.st, defBody d.st, defScope d.st, dV, kV, doc, pm, an, cdv, ct, osl, lk, hcd, t1, of_decide_eq_true t2, by simpa using t3, by simpa using t4, of_decide_eq_true t5, of_decide_eq_true t6, of_decide_eq_true t7, by simpa using t8, by simpa using t9, bd⟩⟩
theorem cons_ok {K : PySem.W.Frag} {h : Heap} {mg : Str → Option Value} {cons : List (Str × D)} (inK : K.In h) (nsM : h.Ns mainGlobals mg) (c : cons.all (conB K) = true) (g : Nat) (x : Str) (d : D) (e : cons[g]? = some (x, d)) : ∃ v u, mg x = some u ∧ RelV v u ∧ ∀ μ H, RelD K μ H d v := by
  have := List.all_eq_true.mp c _ (List.mem_of_getElem? e)
  unfold conB at this
  split at this
  · rename_i u q
    obtain ⟨v, r, z⟩ := conV_ok d u this
    exact ⟨v, u, PySem.W.mg_of inK nsM q, r, z⟩
  · cases this
end Fe

set_option maxHeartbeats 4000000
/-! Fe 19: a law from its trees. -/
namespace Fe
open PySem PySem.Spec PyProof.Rows L2
def dfOf (d : Fd) (st : Stmt) : He.DefD := ⟨(d.name, none), d.name, d.name, defArgs st, defBody st, defScope st, [], []⟩
abbrev fasOf (T : List Fd) (free : List Str) : List He.Fa := T.map (fun d => He.Fa.glo d.name) ++ free.map He.Fa.free
def okDef (C : Ck) (d : Fd) (st : Stmt) : Bool := scB d.N d.ps (defScope st) && chkSs C d.N (defScope st) (fun _ => true) d.body (defBody st)
abbrev Bd (d : Fd) (st : Stmt) : Prop := ∀ (kV doc pm : Value) (an : Option Addr) (cdv ct : Value) (us : List Value), us.length = d.ps.length → bindArgs (PySem.W.fnOf d.name d.name (defArgs st) (defBody st) (defScope st) .none kV doc pm an cdv ct) ⟨us, []⟩ = pure (d.ps.zip us)
/-- all defs, each with its text -/
inductive AllOk (C : Ck) : List Fd → List Stmt → Prop
  | nil : AllOk C [] []
  | cons {d st T tops} : okDef C d st = true → Bd d st → AllOk C T tops → AllOk C (d :: T) (st :: tops)
abbrev ckOf (T : List Fd) (cons : List (Str × D)) (free : List Str) (es : List ExD) (hds : List HdD) : Ck := { fns := T.map fun d => (d.name, d.ps.length), cons := cons, free := free, exc := es.map fun d => (d.x, d.f), hds := hds.map fun d => (d.x, d.ms) }
def exDf (d : ExD) : Option He.DefD := match d.f with
  | some _ => some ⟨(d.x, some "__init__"), "__init__", d.x ++ ".__init__", defArgs d.st, defBody d.st, defScope d.st, [], []⟩
  | none => none
abbrev dfsOf (T : List Fd) (tops : List Stmt) (es : List ExD) : List He.DefD := List.zipWith dfOf T tops ++ es.filterMap exDf
abbrev ExBd (d : ExD) : Prop := ∀ f, d.f = some f → ∀ (kV doc pm : Value) (an : Option Addr) (cdv ct u v : Value), bindArgs (PySem.W.fnOf "__init__" (d.x ++ ".__init__") (defArgs d.st) (defBody d.st) (defScope d.st) .none kV doc pm an cdv ct) ⟨[u, v], []⟩ = pure [(d.sf, u), (f, v)]
inductive AllEx : List ExD → Prop
  | nil : AllEx []
  | cons {d es} : exT d = true → ExBd d → AllEx es → AllEx (d :: es)
theorem allEx_get : ∀ {es : List ExD}, AllEx es → ∀ d ∈ es, exT d = true ∧ ExBd d
  | _, .nil, d, h => by cases h
  | _, .cons a b c, d, h => by
    rcases List.mem_cons.mp h with e | h
    · subst e; exact ⟨a, b⟩
    · exact allEx_get c d h
abbrev hkOf (T : List Fd) (tops : List Stmt) (cons : List (Str × D)) (free : List Str) (es : List ExD) (hds : List HdD) : PySem.W.Hook := He.hookX 4 (fasOf T free) (dfsOf T tops es) [] [] (ckK cons es hds)
theorem allOk_get {C : Ck} : ∀ {T : List Fd} {tops : List Stmt}, AllOk C T tops → ∀ d ∈ T, ∃ st, dfOf d st ∈ List.zipWith dfOf T tops ∧ okDef C d st = true ∧ Bd d st
  | _, _, .nil, d, h => by cases h
  | _, _, .cons a b c, d, h => by
    rcases List.mem_cons.mp h with e | h
    · subst e
      exact ⟨_, List.mem_cons_self, a, b⟩
    · obtain ⟨st, h1, h2, h3⟩ := allOk_get c d h
      exact ⟨st, List.mem_cons_of_mem _ h1, h2, h3⟩
theorem exs_of {K : PySem.W.Frag} {h : Heap} {mg : Str → Option Value} {T : List Fd} {tops : List Stmt} {fa : List He.Fa} {es : List ExD} (inK : K.In h) (nsM : h.Ns mainGlobals mg) (cd : He.SaysD fa (dfsOf T tops es) K) (c : es.all (exB K) = true) (al : AllEx es)
    (X : Cx) (eK : X.K = K) (eM : X.mg = mg) (k : Nat) (x : Str) (fo : Option Str) (e : (es.map fun d => (d.x, d.f))[k]? = some (x, fo)) : ExUse X (gcOf es K) k x fo := by
  subst eK eM
  rw [List.getElem?_map] at e
  cases q : es[k]? with
  | none => rw [q] at e; cases e
  | some d =>
    rw [q] at e
    cases e
    have hm := List.mem_of_getElem? q
    obtain ⟨t1, t2⟩ := allEx_get al d hm
    have cB := List.all_eq_true.mp c d hm
    have eC : (gcOf es X.K).cls k = He.ga X.K d.x := by
      show He.ga X.K ((es.map ExD.x).getD k "") = _
      rw [List.getD_eq_getElem?_getD, List.getElem?_map, q]; rfl
    have eF : (gcOf es X.K).flds k = match d.f with | some f => [f] | none => [] := by
      show (match (es.map ExD.f).getD k none with | some f => [f] | none => []) = _
      rw [List.getD_eq_getElem?_getD, List.getElem?_map, q]; rfl
    cases hf : d.f with
    | some f =>
      rw [hf] at eF
      have hd : (⟨(d.x, some "__init__"), "__init__", d.x ++ ".__init__", defArgs d.st, defBody d.st, defScope d.st, [], []⟩ : He.DefD) ∈ dfsOf T tops es := by
        refine List.mem_append_right _ (List.mem_filterMap.mpr ⟨d, hm, ?_⟩)
        unfold exDf
        rw [hf]
      obtain ⟨fd, F⟩ := cd.defs hd
      have F' : FunD X.K "__init__" (d.x ++ ".__init__") (defArgs d.st) (defBody d.st) (defScope d.st) [] [] (He.ma X.K (He.ga X.K d.x) "__init__") fd := F
      have bd : ∀ (s : Shared) (u v : Value), BindsTo s fd ⟨[u, v], []⟩ [(d.sf, u), (f, v)] := fun s u v => by
        obtain ⟨oc, od, dV, kV, doc, pm, an, cdv, ct, osl, rfl, lk, hcd, hD, hK⟩ := F'.ex
        rcases hD with ⟨_, rfl⟩ | ⟨e, _⟩
        · exact .of_eq (t2 f hf kV doc pm an cdv ct u v)
        · exact absurd rfl e
      refine ⟨d.b, d.sf, He.ma X.K (He.ga X.K d.x) "__init__", ?_, eF⟩
      rw [eC]
      exact exTxt_of inK nsM cB t1 hf ⟨_, _, F'⟩ bd
    | none =>
      unfold exB at cB
      rw [hf] at cB
      dsimp only at cB
      simp only [Bool.and_eq_true] at cB
      obtain ⟨c1, c2, c3, c4, c5⟩ := cB
      refine ⟨d.b, ?_, ?_, ?_, ?_⟩ <;> rw [eC]
      · exact c5
      · exact He.glo_ok inK nsM c1
      · exact c2
      · exact raises_own (of_decide_eq_true c4) (of_decide_eq_true c3)
theorem hdl_of {K : PySem.W.Frag} {h : Heap} {mg : Str → Option Value} {es : List ExD} {hds : List HdD} (inK : K.In h) (nsM : h.Ns mainGlobals mg) (c : hds.all (hdB K es) = true) (t : hds.all hdT = true)
    (k : Nat) (x : Str) (ms : List Nat) (e : (hds.map fun d => (d.x, d.ms))[k]? = some (x, ms)) : ∃ cv, (mg x = some cv ∨ (mg x = none ∧ bootBuiltins x = some cv ∧ x ≠ "__name__")) ∧ ∀ j, j < (es.map fun d => (d.x, d.f)).length → PySem.W.exmOne K (.ref ((gcOf es K).cls j)) cv = some (ms.contains j) := by
  rw [List.getElem?_map] at e
  cases q : hds[k]? with
  | none => rw [q] at e; cases e
  | some d =>
    rw [q] at e
    cases e
    have hm := List.mem_of_getElem? q
    have cB := List.all_eq_true.mp c d hm
    have tB := List.all_eq_true.mp t d hm
    unfold hdB at cB
    obtain ⟨c1, c2⟩ := band cB
    refine ⟨hdV K d, ?_, fun j hj => ?_⟩
    · unfold hdV
      by_cases ho : d.own = true
      · rw [if_pos ho] at c1 ⊢
        exact .inl (He.glo_ok inK nsM c1)
      · rw [if_neg ho] at c1 ⊢
        unfold hdT at tB
        rw [Bool.or_eq_true] at tB
        rcases tB with tB | tB
        · exact absurd tB ho
        · obtain ⟨b1, b2⟩ := band tB
          exact .inr ⟨He.free_ok inK nsM c1, of_decide_eq_true b1, of_decide_eq_true b2⟩
    · rw [List.length_map] at hj
      exact of_decide_eq_true (List.all_eq_true.mp c2 j (List.mem_range.mpr hj))
theorem progOk_of {K : PySem.W.Frag} {w : World} {h : Heap} {mg : Str → Option Value} {T : List Fd} {tops : List Stmt} {cons : List (Str × D)} {free : List Str} {es : List ExD} {hds : List HdD} (inK : K.In h) (nsM : h.Ns mainGlobals mg)
    (c : He.SaysX (fasOf T free) (dfsOf T tops es) [] [] (ckK cons es hds) w h K) (ok : AllOk (ckOf T cons free es hds) T tops) (al : AllEx es) (th : hds.all hdT = true) :
    ProgOk (ckOf T cons free es hds) T K mg (gcOf es K) ∧ noInts K = true ∧ ∀ d ∈ T, ∃ fd, DefOk (ckOf T cons free es hds) K mg d (He.ga K d.name) fd ∧ ∀ (s : Shared) (us : List Value), us.length = d.ps.length → BindsTo s fd ⟨us, []⟩ (d.ps.zip us) := by
  have cd : He.SaysD (fasOf T free) (dfsOf T tops es) K := c.t.d
  obtain ⟨n1, n2⟩ := band c.more
  obtain ⟨n2, n3⟩ := band n2
  obtain ⟨n3, n4⟩ := band n3
  have key : ∀ d ∈ T, ∃ fd, DefOk (ckOf T cons free es hds) K mg d (He.ga K d.name) fd ∧ ∀ (s : Shared) (us : List Value), us.length = d.ps.length → BindsTo s fd ⟨us, []⟩ (d.ps.zip us) := fun d hd => by
    obtain ⟨st, h1, h2, h3⟩ := allOk_get ok d hd
    obtain ⟨k1, k2⟩ := band h2
    obtain ⟨fd, F⟩ := cd.defs (List.mem_append_left _ h1)
    have F' : FunD K d.name d.name (defArgs st) (defBody st) (defScope st) [] [] (He.ga K d.name) fd := F
    exact ⟨fd, ⟨⟨_, _, _, _, F', k1, k2⟩, He.glo_ok inK nsM (cd.facts (List.mem_append_left _ (List.mem_map.mpr ⟨d, hd, rfl⟩))), F'.bindsN h3⟩, F'.bindsA h3⟩
  refine ⟨⟨rfl, fun d hd => ?_, cons_ok inK nsM n2, fun x hx => He.free_ok inK nsM (cd.facts (List.mem_append_right _ (List.mem_map.mpr ⟨x, hx, rfl⟩))), fun X e1 e2 => exs_of inK nsM cd n3 al X e1 e2, hdl_of inK nsM n4 th⟩, n1, key⟩
  obtain ⟨fd, h1, _⟩ := key d hd
  exact ⟨_, fd, h1⟩
theorem walk_G {l : PySem.W.OpenLaw} {n k : Nat} {q : Program} {loose : List Str} {XP : (Str → Option Value) → Heap → Prop} {d : DefRec} {x nm : Str} {N : List Str} {body : List St} {T : List Fd} {tops : List Stmt} {cons : List (Str × D)} {free : List Str} {es : List ExD} {hds : List HdD}
    (hn : l.most = some n) (hn2 : n ≤ sizeLine) (hdf : d.params.defaults = []) (hnm : d.name = nm) (hr : Room k callerA) (ok : AllOk (ckOf (⟨nm, [x], N, body⟩ :: T) cons free es hds) (⟨nm, [x], N, body⟩ :: T) tops) (al : AllEx es) (th : hds.all hdT = true)
    (law : ∀ ns : List Int, ns.length ≤ n → ∃ s', callF (⟨nm, [x], N, body⟩ :: T) k 0 [.ref 0] [.rl (ns.map .int)] = .ok (.bl true) s') :
    PySem.W.WalkO q loose XP (hkOf (⟨nm, [x], N, body⟩ :: T) tops cons free es hds).says l.row.toRowW d [] (fun f vs => PySem.call f vs) := by
  refine Att.attach_call hn hdf fun w s₀ s₁ mg mb fa o pm cd doc a vs ns G Y ho hd hcd hmg hobj hints hlen hg => ?_
  obtain ⟨K, inK, c⟩ := Y
  obtain ⟨P, ni, key⟩ := progOk_of inK G.T.g c ok al th
  obtain ⟨fd, h1, h2⟩ := key _ List.mem_cons_self
  have e : fa = He.ga K nm := by
    have q := h1.glo
    rw [hnm] at hmg
    have := hmg.symm.trans q
    simpa using this
  subst e
  exact law_callG (G := gcOf es K) inK G.T.g G.T.b G.T.builtins G.T.nolimit hg hobj hints (Nat.le_trans hlen hn2) hr (noInts_ok inK ni hobj hints) (fun base _ _ => prog_ok P k 0 _ _ _ rfl h1) (fun s u => h2 s [u] rfl) (law ns hlen)
end Fe

set_option maxHeartbeats 4000000
/-! Fe 20: what trees are worth, step by step. -/
namespace Fe
open PySem PySem.Spec PyProof.Rows
section
variable {Γ : Nat → List D → S → Out D} {ρ : Env} {s : S} {α β : Type}
theorem bind_ok {a : α} {f : α → S → Out β} : (Out.ok a s).bind f = f a s := rfl
theorem bind_exc {x : Xc} {f : α → S → Out β} : (Out.exc x s : Out α).bind f = .exc x s := rfl
theorem lift_ok {a : α} {k : α → S → SOut} : lift (Out.ok a s) ρ k = k a s := rfl
theorem lift_exc {x : Xc} {k : α → S → SOut} : lift (Out.exc x s : Out α) ρ k = .exc x ρ s := rfl
theorem seq_nx {g : Env → S → SOut} : (SOut.nx ρ s).seq g = g ρ s := rfl
theorem seq_rt {d : D} {g : Env → S → SOut} : (SOut.rt d s).seq g = .rt d s := rfl
theorem seq_exc {x : Xc} {g : Env → S → SOut} : (SOut.exc x ρ s).seq g = .exc x ρ s := rfl
/-! values -/
theorem v_non : (sem Γ .non).v ρ s = .ok .non s := rfl
theorem v_bl {b : Bool} : (sem Γ (.bl b)).v ρ s = .ok (.bl b) s := rfl
theorem v_int {i : Int} : (sem Γ (.int i)).v ρ s = .ok (.int i) s := rfl
theorem v_str {c : List Nat} : (sem Γ (.str c)).v ρ s = .ok (.str c) s := rfl
theorem v_var {i : Nat} : (sem Γ (.var i)).v ρ s = lk ρ i s := rfl
theorem v_con {g : Nat} {d : D} : (sem Γ (.con g d)).v ρ s = .ok d s := rfl
theorem v_bin {o : Ar} {a b : E} : (sem Γ (.bin o a b)).v ρ s = ((sem Γ a).v ρ s).bind fun x s => ((sem Γ b).v ρ s).bind fun y s => o.f x y s := rfl
theorem v_neg {a : E} : (sem Γ (.neg a)).v ρ s = ((sem Γ a).v ρ s).bind fun x s => opNeg x s := rfl
theorem v_cmp {o : Cm} {a b : E} : (sem Γ (.cmp o a b)).v ρ s = ((sem Γ a).v ρ s).bind fun x s => ((sem Γ b).v ρ s).bind fun y s => o.f x y s := rfl
theorem v_chn {o o' : Cm} {a b c : E} : (sem Γ (.chn o o' a b c)).v ρ s = ((sem Γ a).v ρ s).bind fun x s => ((sem Γ b).v ρ s).bind fun y s => (asB (o.f x y s)).bind fun q s => if q = true then ((sem Γ c).v ρ s).bind fun z s => o'.f y z s else .ok (.bl false) s := rfl
theorem v_and {es : List E} : (sem Γ (.and es)).v ρ s = andV (sems Γ es) ρ s := rfl
theorem v_or {es : List E} : (sem Γ (.or es)).v ρ s = orV (sems Γ es) ρ s := rfl
theorem v_not {a : E} : (sem Γ (.not a)).v ρ s = ((sem Γ a).v ρ s).bind fun x s => (tru x s).bind fun k s => .ok (.bl (!k)) s := rfl
theorem v_ite {c a b : E} : (sem Γ (.ite c a b)).v ρ s = ((sem Γ c).t ρ s).bind fun k s => if k = true then (sem Γ a).v ρ s else (sem Γ b).v ρ s := rfl
theorem v_tup {es : List E} : (sem Γ (.tup es)).v ρ s = (argsV (sems Γ es) ρ s).bind mkTup := rfl
theorem v_lst {es : List E} : (sem Γ (.lst es)).v ρ s = (argsV (sems Γ es) ρ s).bind mkLst := rfl
theorem v_ix {a b : E} : (sem Γ (.ix a b)).v ρ s = ((sem Γ a).v ρ s).bind fun x s => ((sem Γ b).v ρ s).bind fun y s => opIx x y s := rfl
theorem v_sl {a l h : E} : (sem Γ (.sl a l h)).v ρ s = ((sem Γ a).v ρ s).bind fun x s => ((sem Γ l).o ρ s).bind fun i s => ((sem Γ h).o ρ s).bind fun j s => opSl x i j s := rfl
theorem v_call {f : Nat} {es : List E} : (sem Γ (.call f es)).v ρ s = (argsV (sems Γ es) ρ s).bind (Γ f) := rfl
theorem v_bi {b : Bi} {es : List E} : (sem Γ (.bi b es)).v ρ s = (argsV (sems Γ es) ρ s).bind b.f := rfl
theorem v_isi {t : Ty} {a : E} : (sem Γ (.isi t a)).v ρ s = ((sem Γ a).v ρ s).bind (opIsi t) := rfl
theorem v_me {m : Me} {o : E} {es : List E} : (sem Γ (.me m o es)).v ρ s = ((sem Γ o).v ρ s).bind fun d s => if tyIs m.T s d = true then (argsV (sems Γ es) ρ s).bind fun ds s => m.f d ds s else .bad := rfl
theorem v_lc {e : E} {t : Tp} {it c : E} {own : List Nat} : (sem Γ (.lc e t it c own)).v ρ s = lcV (sem Γ it).i (bnd t) (sem Γ c).t (sem Γ e).v own ρ s := rfl
theorem v_dct {ks vs : List E} : (sem Γ (.dct ks vs)).v ρ s = dctV (pairsOf (sems Γ ks) (sems Γ vs)) ρ s := rfl
theorem v_rev {a : E} : (sem Γ (.rev a)).v ρ s = ((sem Γ a).v ρ s).bind opRev := rfl
/-! bounds of slices -/
theorem o_no : (sem Γ .no).o ρ s = .ok none s := rfl
theorem o_int {i : Int} : (sem Γ (.int i)).o ρ s = .ok (some i) s := rfl
theorem o_var {i : Nat} : (sem Γ (.var i)).o ρ s = asI (lk ρ i s) := rfl
theorem o_bin {o : Ar} {a b : E} : (sem Γ (.bin o a b)).o ρ s = asI ((sem Γ (.bin o a b)).v ρ s) := rfl
theorem o_neg {a : E} : (sem Γ (.neg a)).o ρ s = asI ((sem Γ (.neg a)).v ρ s) := rfl
theorem o_ite {a b c : E} : (sem Γ (.ite a b c)).o ρ s = asI ((sem Γ (.ite a b c)).v ρ s) := rfl
theorem asI_int {i : Int} : asI (.ok (.int i) s) = .ok (some i) s := rfl
/-! tests -/
theorem t_no : (sem Γ .no).t ρ s = .ok true s := rfl
theorem t_cmp {o : Cm} {a b : E} : (sem Γ (.cmp o a b)).t ρ s = ((sem Γ a).v ρ s).bind fun x s => ((sem Γ b).v ρ s).bind fun y s => asB (o.f x y s) := rfl
theorem t_chn {o o' : Cm} {a b c : E} : (sem Γ (.chn o o' a b c)).t ρ s = ((sem Γ a).v ρ s).bind fun x s => ((sem Γ b).v ρ s).bind fun y s => (asB (o.f x y s)).bind fun q s => if q = true then ((sem Γ c).v ρ s).bind fun z s => asB (o'.f y z s) else .ok false s := rfl
theorem t_and {es : List E} : (sem Γ (.and es)).t ρ s = andT (sems Γ es) ρ s := rfl
theorem t_or {es : List E} : (sem Γ (.or es)).t ρ s = orT (sems Γ es) ρ s := rfl
theorem t_not {a : E} : (sem Γ (.not a)).t ρ s = ((sem Γ a).t ρ s).bind fun k s => .ok (!k) s := rfl
theorem t_call {f : Nat} {es : List E} : (sem Γ (.call f es)).t ρ s = ((sem Γ (.call f es)).v ρ s).bind tru := rfl
theorem t_var {i : Nat} : (sem Γ (.var i)).t ρ s = (lk ρ i s).bind tru := rfl
theorem t_isi {t : Ty} {a : E} : (sem Γ (.isi t a)).t ρ s = ((sem Γ (.isi t a)).v ρ s).bind tru := rfl
theorem t_bi {b : Bi} {es : List E} : (sem Γ (.bi b es)).t ρ s = ((sem Γ (.bi b es)).v ρ s).bind tru := rfl
/-! lists of trees -/
theorem sems_nil : sems Γ [] = [] := rfl
theorem sems_cons {e : E} {es : List E} : sems Γ (e :: es) = sem Γ e :: sems Γ es := rfl
theorem args_nil : argsV [] ρ s = .ok [] s := rfl
theorem args_cons {m : Sm} {ms : List Sm} : argsV (m :: ms) ρ s = (m.v ρ s).bind fun x s => (argsV ms ρ s).bind fun xs s => .ok (x :: xs) s := rfl
theorem andV_1 {m : Sm} : andV [m] ρ s = m.v ρ s := rfl
theorem andV_2 {m m' : Sm} {ms : List Sm} : andV (m :: m' :: ms) ρ s = (m.v ρ s).bind fun x s => (tru x s).bind fun k s => if k = true then andV (m' :: ms) ρ s else .ok x s := rfl
theorem orV_1 {m : Sm} : orV [m] ρ s = m.v ρ s := rfl
theorem orV_2 {m m' : Sm} {ms : List Sm} : orV (m :: m' :: ms) ρ s = (m.v ρ s).bind fun x s => (tru x s).bind fun k s => if k = true then .ok x s else orV (m' :: ms) ρ s := rfl
theorem andT_1 {m : Sm} : andT [m] ρ s = m.t ρ s := rfl
theorem andT_2 {m m' : Sm} {ms : List Sm} : andT (m :: m' :: ms) ρ s = (m.t ρ s).bind fun k s => if k = true then andT (m' :: ms) ρ s else .ok false s := rfl
theorem orT_1 {m : Sm} : orT [m] ρ s = m.t ρ s := rfl
theorem orT_2 {m m' : Sm} {ms : List Sm} : orT (m :: m' :: ms) ρ s = (m.t ρ s).bind fun k s => if k = true then .ok true s else orT (m' :: ms) ρ s := rfl
/-! iteration -/
theorem i_rng {es : List E} : (sem Γ (.rng es)).i ρ s = (argsV (sems Γ es) ρ s).bind srcR := rfl
theorem i_tup {es : List E} : (sem Γ (.tup es)).i ρ s = ((sem Γ (.tup es)).v ρ s).bind srcOf := rfl
theorem i_var {i : Nat} : (sem Γ (.var i)).i ρ s = (lk ρ i s).bind srcOf := rfl
/-! statements -/
theorem x_nil : execs Γ [] ρ s = .nx ρ s := rfl
theorem x_cons {a : St} {as : List St} : execs Γ (a :: as) ρ s = (exec Γ a ρ s).seq (execs Γ as) := rfl
theorem x_set {i : Nat} {e : E} : exec Γ (.set i e) ρ s = lift ((sem Γ e).v ρ s) ρ fun d s => .nx (ρ.set i (some d)) s := rfl
theorem x_ret {e : E} : exec Γ (.ret e) ρ s = lift ((sem Γ e).v ρ s) ρ fun d s => .rt d s := rfl
theorem x_expr {e : E} : exec Γ (.expr e) ρ s = lift ((sem Γ e).v ρ s) ρ fun _ s => .nx ρ s := rfl
theorem x_ite {c : E} {a b : List St} : exec Γ (.ite c a b) ρ s = lift ((sem Γ c).t ρ s) ρ fun k s => if k = true then execs Γ a ρ s else execs Γ b ρ s := rfl
theorem x_sub {o i e : E} : exec Γ (.sub o i e) ρ s = lift ((sem Γ e).v ρ s) ρ fun d s => liftT (subS (sem Γ o).v (sem Γ i).v d ρ s) := rfl
theorem x_par {is : List Nat} {es : List E} : exec Γ (.par is es) ρ s = lift (argsV (sems Γ es) ρ s) ρ fun ds s => parS is ds ρ s := rfl
theorem x_asg {t : Tp} {e : E} : exec Γ (.asg t e) ρ s = lift ((sem Γ e).v ρ s) ρ fun d s => liftT (bnd t d ρ s) := rfl
theorem x_for {t : Tp} {it : E} {b : List St} : exec Γ (.for_ t it b) ρ s = lift ((sem Γ it).i ρ s) ρ fun c s => forW c.live (bnd t) (execs Γ b) c.ds ρ s := rfl
theorem x_rais {c : Nat} {fl : Bool} {e : E} : exec Γ (.rais c fl e) ρ s = lift ((sem Γ e).v ρ s) ρ fun d s => .exc ⟨c, if fl = true then [d] else []⟩ ρ s := rfl
end
/-! calls -/
theorem call_at {T : List Fd} {k f : Nat} {d : Fd} {ds : List D} {s : S} (e : T[f]? = some d) (hl : ds.length = d.ps.length) : callF T (k + 1) f ds s = trimO s (retO (execs (callF T k) d.body (start' d.N.length ds) s)) := by
  show (match T[f]? with | some d => _ | none => _) = _
  rw [e]
  show (if ds.length = d.ps.length then _ else _) = _
  rw [if_pos hl]
theorem trim_same {s s' : S} {d : D} (hl : s'.length = s.length) (hd : ∀ j, d = .ref j → j < s.length) : trimO s (.ok d s') = .ok d s' := by
  unfold trimO trim
  dsimp only
  split
  · rw [← hl, List.take_length]
  · split
    · rename_i j _
      have := hd j rfl
      rw [if_neg]
      rw [Bool.and_eq_true]
      rintro ⟨h, _⟩
      exact absurd (of_decide_eq_true h) (by omega)
    · rfl
theorem trim_self {s : S} {d : D} (hd : ∀ j, d = .ref j → j < s.length) : trimO s (.ok d s) = .ok d s := trim_same rfl hd
/-! for -/
theorem forW_inv {live : S → Bool} {bind : D → Env → S → TOut} {body : Env → S → SOut} {P : Env → S → Prop} : ∀ {ds : List D} {ρ : Env} {s : S}, P ρ s → (∀ ρ s, P ρ s → live s = true) →
    (∀ d ∈ ds, ∀ ρ s, P ρ s → ∃ ρ1 s1, bind d ρ s = some (ρ1, s1) ∧ ∃ ρ2 s2, body ρ1 s1 = .nx ρ2 s2 ∧ P ρ2 s2) → ∃ ρ' s', forW live bind body ds ρ s = .nx ρ' s' ∧ P ρ' s'
  | [], ρ, s, h, hl, _ => ⟨ρ, s, by unfold forW; rw [if_pos (hl ρ s h)], h⟩
  | d :: ds, ρ, s, h, hl, hb => by
    obtain ⟨ρ1, s1, e1, ρ2, s2, e2, h2⟩ := hb d List.mem_cons_self ρ s h
    obtain ⟨ρ3, s3, e3, h3⟩ := forW_inv (body := body) (bind := bind) h2 hl fun d hd => hb d (List.mem_cons_of_mem _ hd)
    refine ⟨ρ3, s3, ?_, h3⟩
    unfold forW
    rw [if_pos (hl ρ s h), e1]
    dsimp only
    rw [e2]
    exact e3
end Fe

set_option maxHeartbeats 4000000
/-! Fe 21: the laws' dice. -/
namespace Fe
open PySem PySem.Spec PyProof.Rows
open L2 (atI ixN)
def rollB : List St := [(.ite (.cmp .gt (.ix (.var 0) (.int 0)) (.int 0)) [(.set 4 (.bin .mod (.bi .int [(.ix (.var 0) (.int 0))]) (.var 1))), (.sub (.var 0) (.int 0) (.bin .div (.ix (.var 0) (.int 0)) (.var 1))), (.ret (.var 4))] []),
    (.sub (.var 0) (.int 2) (.bin .add (.ix (.var 0) (.int 2)) (.int 1))),
    (.set 2 (.bin .mod (.bi .int [(.bin .add (.ix (.var 0) (.int 1)) (.bin .mul (.int 941083987) (.ix (.var 0) (.int 2))))]) (.int 67280421310693))),
    (.set 3 (.bin .add (.bin .mul (.bin .mod (.bi .int [(.bin .mul (.var 2) (.var 2))]) (.int 576460752303423433)) (.var 2)) (.bin .mul (.int 7907) (.ix (.var 0) (.int 2))))),
    (.ret (.bin .mod (.bi .int [(.bin .div (.bin .mod (.bi .int [(.bin .add (.var 3) (.ix (.var 0) (.int 1)))]) (.int 2199023255531)) (.int 64))]) (.var 1)))]
def diceB : List St := [(.set 2 (.ite (.cmp .lt (.var 1) (.bi .len [(.var 0)])) (.ix (.var 0) (.var 1)) (.bin .add (.bin .mul (.int 47) (.var 1)) (.int 13)))),
    (.set 3 (.bin .mod (.bi .int [(.bi .abs [(.var 2)])]) (.bin .pow (.bin .pow (.int 10) (.int 61)) (.int 10)))),
    (.set 4 (.bin .add (.bin .add (.bin .add (.bin .mul (.var 3) (.int 3935559000370003845)) (.bin .mul (.int 89) (.var 1))) (.bin .mul (.int 17) (.bi .int [(.cmp .lt (.var 2) (.int 0))]))) (.int 3))),
    (.ret (.lst [(.bi .max [(.int 0), (.bin .sub (.var 3) (.bin .pow (.int 10) (.int 18)))]), (.bin .mod (.bi .int [(.var 4)]) (.int 2305843009213693967)), (.int 0)]))]
/-- dice at place i -/
def Dice (s : S) (i : Nat) : Prop := ∃ a b c, s[i]? = some (.lst [.int a, .int b, .int c])
theorem lk_some {ρ : Env} {i : Nat} {d : D} {s : S} (h : ρ[i]? = some (some d)) : lk ρ i s = .ok d s := by unfold lk; rw [h]
theorem lk_0 {ρ : Env} {d : D} {s : S} : lk (some d :: ρ) 0 s = .ok d s := rfl
theorem lk_s {ρ : Env} {o : Option D} {i : Nat} {s : S} : lk (o :: ρ) (i + 1) s = lk ρ i s := rfl
theorem int_int {i : Int} {s : S} : biInt [.int i] s = .ok (.int i) s := rfl
theorem add_int {i j : Int} {s : S} : opAdd (.int i) (.int j) s = .ok (.int (i + j)) s := rfl
theorem ix_at {s : S} {i : Nat} {j : Int} {ds : List D} {d : D} (h : s[i]? = some (.lst ds)) (e : atI ds j = some d) : opIx (.ref i) (.int j) s = .ok d s := by
  have hg : getL s i = some ds := by unfold getL; rw [h]
  show (match getL s i with | some ds => _ | none => _) = _
  rw [hg]
  show (match atI ds j with | some d => _ | none => _) = _
  rw [e]
theorem mul_small {i j : Int} {s : S} (h : i.natAbs < 2 ^ 64) : opMul (.int i) (.int j) s = .ok (.int (i * j)) s := by
  show (if mulOk i j = true then _ else _) = _
  rw [if_pos]
  unfold mulOk
  rw [decide_eq_true h]; rfl
theorem mul_smallR {i j : Int} {s : S} (h : j.natAbs < 2 ^ 64) : opMul (.int i) (.int j) s = .ok (.int (i * j)) s := by
  show (if mulOk i j = true then _ else _) = _
  rw [if_pos]
  unfold mulOk
  rw [decide_eq_true h, Bool.or_true]; rfl
theorem mod_pos {i j : Int} {s : S} (h : 0 < j) : opMod (.int i) (.int j) s = .ok (.int (i % j)) s := by
  show (if 0 < j then _ else _) = _
  rw [if_pos h]
theorem div_pos {i j : Int} {s : S} (h : 0 < j) (h2 : j.natAbs.log2 < 9000) : opDiv (.int i) (.int j) s = .ok (.int (i / j)) s := by
  show (if divOk j = true then _ else _) = _
  rw [if_pos]
  unfold divOk
  rw [decide_eq_true h, decide_eq_true h2]; rfl
theorem set_at {s : S} {i k : Nat} {j : Int} {ds : List D} {d : D} (h : s[i]? = some (.lst ds)) (e : ixN ds.length j = some k) : setIx (.ref i) (.int j) d s = some (s.set i (.lst (ds.set k d))) := by
  show (match s[i]? with | some (.lst ds) => _ | _ => none) = _
  rw [h]
  show (match ixN ds.length j with | some k => _ | none => none) = _
  rw [e]
theorem log2_small {u : Int} (h0 : 0 < u) (h : u < 2 ^ 64) : u.natAbs.log2 < 9000 := by
  have h1 : u.natAbs < 2 ^ 64 := by omega
  have := (Nat.log2_lt (by omega)).mpr h1
  omega
theorem roll_spec {T : List Fd} {k f : Nat} {nm : Str} {ps N : List Str} {s : S} {i : Nat} {u : Int} (e : T[f]? = some ⟨nm, ps, N, rollB⟩) (hp : ps.length = 2) (hn : N.length = 5) (hs : Dice s i) (h0 : 0 < u) (h1 : u < 2 ^ 64) :
    ∃ (r : Int) (o : O), 0 ≤ r ∧ r < u ∧ Dice (s.set i o) i ∧ callF T (k + 1) f [.ref i, .int u] s = .ok (.int r) (s.set i o) := by
  obtain ⟨a, b, c, hi⟩ := hs
  have hl : i < s.length := (List.getElem?_eq_some_iff.mp hi).1
  rw [call_at e (by simp [hp])]
  have e0 : start' N.length [.ref i, .int u] = [some (.ref i), some (.int u), none, none, none] := by rw [hn]; rfl
  show ∃ r o, _ ∧ _ ∧ _ ∧ trimO s (retO (execs (callF T k) rollB (start' N.length [.ref i, .int u]) s)) = _
  rw [e0]
  by_cases ha : 0 < a
  · refine ⟨a % u, .lst [.int (a / u), .int b, .int c], Int.emod_nonneg _ (by omega), Int.emod_lt_of_pos _ h0, ⟨_, _, _, List.getElem?_set_self hl⟩, ?_⟩
    have : execs (callF T k) rollB [some (.ref i), some (.int u), none, none, none] s = .rt (.int (a % u)) (s.set i (.lst [.int (a / u), .int b, .int c])) := by
      unfold rollB
      simp only [x_cons, x_ite, t_cmp, v_ix, v_var, v_int, bind_ok, lk_0, lk_s, lk_0, lk_s, ix_at hi (j := 0) rfl, Cm.f, opI2, ha, decide_true, asB, lift_ok, if_true, x_set, v_bin, v_bi, sems_cons, sems_nil, args_cons, args_nil, Bi.f, biInt, Ar.f, mod_pos h0, seq_nx, List.set_cons_succ, List.set_cons_zero,
        x_sub, div_pos h0 (log2_small h0 h1), subS, okO, set_at hi (j := 0) (k := 0) rfl, liftT, x_ret, lk_0, lk_s, seq_rt]
    rw [this]
    exact trim_same (by simp) (fun j h => by cases h)
  · have ha' : ¬ (0 < a) := ha
    have hs1 : (s.set i (.lst [.int a, .int b, .int (c + 1)]))[i]? = some (.lst [.int a, .int b, .int (c + 1)]) := List.getElem?_set_self hl
    have lo1 : ∀ x : Int, 0 ≤ x % 67280421310693 ∧ x % 67280421310693 < 67280421310693 := fun x => ⟨Int.emod_nonneg _ (by omega), Int.emod_lt_of_pos _ (by omega)⟩
    have lo2 : ∀ x : Int, 0 ≤ x % 576460752303423433 ∧ x % 576460752303423433 < 576460752303423433 := fun x => ⟨Int.emod_nonneg _ (by omega), Int.emod_lt_of_pos _ (by omega)⟩
    have go : ∃ z : Int, execs (callF T k) rollB [some (.ref i), some (.int u), none, none, none] s = .rt (.int (z % u)) (s.set i (.lst [.int a, .int b, .int (c + 1)])) := by
      refine ⟨((((b + 941083987 * (c + 1)) % 67280421310693) * ((b + 941083987 * (c + 1)) % 67280421310693)) % 576460752303423433 * ((b + 941083987 * (c + 1)) % 67280421310693) + 7907 * (c + 1) + b) % 2199023255531 / 64, ?_⟩
      have m1 : ∀ (z : Int) (s : S), opMul (.int 941083987) (.int z) s = .ok (.int (941083987 * z)) s := fun z s => mul_small (by decide)
      have m2 : ∀ (z : Int) (s : S), opMul (.int 7907) (.int z) s = .ok (.int (7907 * z)) s := fun z s => mul_small (by decide)
      have d1 : ∀ (z : Int) (s : S), opMod (.int z) (.int 67280421310693) s = .ok (.int (z % 67280421310693)) s := fun z s => mod_pos (by decide)
      have d2 : ∀ (z : Int) (s : S), opMod (.int z) (.int 576460752303423433) s = .ok (.int (z % 576460752303423433)) s := fun z s => mod_pos (by decide)
      have d3 : ∀ (z : Int) (s : S), opMod (.int z) (.int 2199023255531) s = .ok (.int (z % 2199023255531)) s := fun z s => mod_pos (by decide)
      have d4 : ∀ (z : Int) (s : S), opDiv (.int z) (.int 64) s = .ok (.int (z / 64)) s := fun z s => div_pos (by decide) (by decide)
      have hxb := lo1 (b + 941083987 * (c + 1))
      generalize hx : (b + 941083987 * (c + 1)) % 67280421310693 = x at hxb
      have m3 : ∀ (s : S), opMul (.int x) (.int x) s = .ok (.int (x * x)) s := fun s => mul_small (by omega)
      have m4 : ∀ (s : S), opMul (.int (x * x % 576460752303423433)) (.int x) s = .ok (.int (x * x % 576460752303423433 * x)) s := fun s => mul_small (by have := lo2 (x * x); omega)
      have w : ∀ d (s : S), setIx (.ref i) (.int 2) d s = (match s[i]? with | some (.lst ds) => (match ixN ds.length 2 with | some k => some (s.set i (.lst (ds.set k d))) | none => none) | _ => none) := fun d s => rfl
      unfold rollB
      simp only [bind_ok, bind_exc, lift_ok, lift_exc, seq_nx, seq_rt, seq_exc, v_non, v_bl, v_int, v_str, v_var, v_con, v_bin, v_neg, v_cmp, v_chn, v_and, v_or, v_not, v_ite, v_tup, v_lst, v_ix, v_sl, v_call, v_bi, v_isi, v_me, v_lc, v_dct, v_rev, o_no, o_int, o_var, o_bin, o_neg, o_ite, asI_int, t_no, t_cmp, t_chn, t_and, t_or, t_not, t_call, t_var, t_isi, t_bi, sems_nil, sems_cons, args_nil, args_cons, andV_1, andV_2, orV_1, orV_2, andT_1, andT_2, orT_1, orT_2, i_rng, i_tup, i_var, x_nil, x_cons, x_set, x_ret, x_expr, x_ite, x_sub, x_par, x_asg, x_for, x_rais, lk_0, lk_s, int_int, add_int, Cm.f, Ar.f, Bi.f, Me.f, Me.T, liftT, List.set_cons_succ, List.set_cons_zero, ix_at hi (j := 0) rfl, ix_at hi (j := 2) rfl, opI2, ha', decide_false, asB, Bool.false_eq_true, if_false, subS, okO, set_at hi (j := 2) (k := 2) rfl, ix_at hs1 (j := 1) rfl, ix_at hs1 (j := 2) rfl, m1, m2, d1, d2, d3, d4, hx, m3, m4, mod_pos h0]
    obtain ⟨z, go⟩ := go
    refine ⟨z % u, .lst [.int a, .int b, .int (c + 1)], Int.emod_nonneg _ (by omega), Int.emod_lt_of_pos _ h0, ⟨_, _, _, hs1⟩, ?_⟩
    rw [go]
    exact trim_same (by simp) (fun j h => by cases h)

/-! what a call hands back -/
theorem sameOr_of {s s' : S} (h : ∀ i, i < s.length → s'[i]? = s[i]? ∨ ∃ o, s'[i]? = some o ∧ o.flat = true) : sameOr s s' = true := by
  unfold sameOr
  rw [List.all_eq_true]
  intro i hi
  rcases h i (List.mem_range.mp hi) with e | ⟨o, e, f⟩
  · rw [e, decide_eq_true rfl]; rfl
  · rw [e]
    dsimp only
    rw [f, Bool.or_true]
theorem trim_flat {s s' : S} {d : D} (hd : d.flat = true) (hl : s.length ≤ s'.length) (h : sameOr s s' = true) : trimO s (.ok d s') = .ok d (s'.take s.length) := by
  show Out.ok (trim s d s').1 (trim s d s').2 = _
  unfold trim
  rw [if_pos (by rw [hd, decide_eq_true hl, h]; rfl)]
theorem trim_new {s s' : S} {j : Nat} {o : O} (hj : s.length ≤ j) (e : s'[j]? = some o) (f : o.flat = true) (hl : s.length ≤ s'.length) (h : sameOr s s' = true) : trimO s (.ok (.ref j) s') = .ok (.ref s.length) (s'.take s.length ++ [o]) := by
  show Out.ok (trim s (.ref j) s').1 (trim s (.ref j) s').2 = _
  unfold trim
  rw [if_neg (by simp [D.flat])]
  dsimp only
  rw [if_pos (by rw [decide_eq_true hj, decide_eq_true hl, h]; rfl), e]
  dsimp only
  rw [if_pos f]
theorem trim_push {s : S} {o : O} : trimO s (.ok (.ref s.length) (s ++ [o])) = .ok (.ref s.length) (s ++ [o]) := by
  show Out.ok (trim s (.ref s.length) (s ++ [o])).1 (trim s (.ref s.length) (s ++ [o])).2 = _
  have e : (s ++ [o])[s.length]? = some o := by simp
  unfold trim
  rw [if_neg (by simp [D.flat])]
  dsimp only
  split
  · rw [e]
    dsimp only
    split
    · simp
    · rfl
  · rfl
theorem Dice.lt {s : S} {i : Nat} (h : Dice s i) : i < s.length := by
  obtain ⟨a, b, c, h⟩ := h
  exact (List.getElem?_eq_some_iff.mp h).1
theorem Dice.flat {s : S} {i : Nat} (h : Dice s i) : ∃ o, s[i]? = some o ∧ o.flat = true := by
  obtain ⟨a, b, c, h⟩ := h
  exact ⟨_, h, rfl⟩
theorem Dice.app {s g : S} {i : Nat} (h : Dice s i) : Dice (s ++ g) i := by
  have := h.lt
  obtain ⟨a, b, c, h⟩ := h
  exact ⟨a, b, c, by rw [List.getElem?_append_left this]; exact h⟩
theorem Dice.of_set {s : S} {i : Nat} {o : O} (h : Dice (s.set i o) i) : ∃ a b c, o = .lst [.int a, .int b, .int c] := by
  have := h.lt
  obtain ⟨a, b, c, h⟩ := h
  rw [List.getElem?_set_self (by simpa using this)] at h
  cases h
  exact ⟨a, b, c, rfl⟩
theorem dice_set {s : S} {i : Nat} {o : O} (hl : i < s.length) (h : ∃ a b c, o = .lst [.int a, .int b, .int c]) : Dice (s.set i o) i := by
  obtain ⟨a, b, c, rfl⟩ := h
  exact ⟨a, b, c, List.getElem?_set_self hl⟩
/-! pick -/
def pickB (f : Nat) : List St := [(.ret (.ix (.var 1) (.call f [(.var 0), (.bi .len [(.var 1)])])))]
theorem atI_nat {ds : List D} {r : Int} (h0 : 0 ≤ r) (h : r < (ds.length : Int)) : ∃ n, ∃ hn : n < ds.length, r = (n : Int) ∧ atI ds r = some ds[n] := by
  have hn : r.toNat < ds.length := by omega
  refine ⟨r.toNat, hn, by omega, ?_⟩
  unfold atI ixN
  rw [if_pos h0, if_pos h]
  show ds[r.toNat]? = _
  exact List.getElem?_eq_getElem hn
theorem getL_at {s : S} {i : Nat} {ds : List D} (h : s[i]? = some (.lst ds)) : getL s i = some ds := by unfold getL; rw [h]
theorem len_at {s : S} {i : Nat} {ds : List D} (h : s[i]? = some (.lst ds)) : biLen [.ref i] s = .ok (.int ds.length) s := by
  show (match getL s i with | some ds => _ | none => _) = _
  rw [getL_at h]
theorem pick_spec {T : List Fd} {k f g : Nat} {nm nm' : Str} {ps N ps' N' : List Str} {s : S} {i j : Nat} {ds : List D} (e : T[f]? = some ⟨nm, ps, N, pickB g⟩) (hp : ps.length = 2) (hn : N.length = 2) (e' : T[g]? = some ⟨nm', ps', N', rollB⟩) (hp' : ps'.length = 2) (hn' : N'.length = 5)
    (hs : Dice s i) (hj : s[j]? = some (.lst ds)) (hij : i ≠ j) (h0 : ds ≠ []) (h1 : ds.length < 2 ^ 60) (hr : ∀ d ∈ ds, ∀ m, d = .ref m → m < s.length) :
    ∃ n, ∃ h : n < ds.length, ∃ o, Dice (s.set i o) i ∧ callF T (k + 2) f [.ref i, .ref j] s = .ok ds[n] (s.set i o) := by
  have hpos : 0 < ds.length := List.length_pos_iff.mpr h0
  obtain ⟨r, o, r0, r1, hd, er⟩ := roll_spec (k := k) (u := (ds.length : Int)) e' hp' hn' hs (by omega) (by omega)
  obtain ⟨n, hlt, rfl, ea⟩ := atI_nat r0 r1
  refine ⟨n, hlt, o, hd, ?_⟩
  rw [call_at e (by simp [hp])]
  have e0 : start' N.length [.ref i, .ref j] = [some (.ref i), some (.ref j)] := by rw [hn]; rfl
  show trimO s (retO (execs (callF T (k + 1)) (pickB g) (start' N.length [.ref i, .ref j]) s)) = _
  rw [e0]
  unfold pickB
  have hj2 : (s.set i o)[j]? = some (.lst ds) := by rw [List.getElem?_set_ne hij]; exact hj
  simp only [bind_ok, bind_exc, lift_ok, lift_exc, seq_nx, seq_rt, seq_exc, v_non, v_bl, v_int, v_str, v_var, v_con, v_bin, v_neg, v_cmp, v_chn, v_and, v_or, v_not, v_ite, v_tup, v_lst, v_ix, v_sl, v_call, v_bi, v_isi, v_me, v_lc, v_dct, v_rev, o_no, o_int, o_var, o_bin, o_neg, o_ite, asI_int, t_no, t_cmp, t_chn, t_and, t_or, t_not, t_call, t_var, t_isi, t_bi, sems_nil, sems_cons, args_nil, args_cons, andV_1, andV_2, orV_1, orV_2, andT_1, andT_2, orT_1, orT_2, i_rng, i_tup, i_var, x_nil, x_cons, x_set, x_ret, x_expr, x_ite, x_sub, x_par, x_asg, x_for, x_rais, lk_0, lk_s, int_int, add_int, Cm.f, Ar.f, Bi.f, Me.f, Me.T, liftT, List.set_cons_succ, List.set_cons_zero, len_at hj, er, ix_at hj2 ea, retO]
  exact trim_same (by simp) fun m hm => hr _ (List.getElem_mem hlt) m hm
/-! dice -/
theorem pow_ok' {i j : Int} {s : S} (h : powOk i j = true) : opPow (.int i) (.int j) s = .ok (.int (i ^ j.toNat)) s := by
  show (if powOk i j = true then _ else _) = _
  rw [if_pos h]
theorem dice_spec {T : List Fd} {k f : Nat} {nm : Str} {ps N : List Str} {s : S} {i : Nat} {n : Int} {ns : List Int} (e : T[f]? = some ⟨nm, ps, N, diceB⟩) (hp : ps.length = 2) (hn : N.length = 5) (hs : s[i]? = some (.rl (ns.map .int))) (h0 : 0 ≤ n) :
    ∃ a b : Int, callF T (k + 1) f [.ref i, .int n] s = .ok (.ref s.length) (s ++ [.lst [.int a, .int b, .int 0]]) := by
  have hg : getL s i = some (ns.map .int) := by unfold getL; rw [hs]
  have hlen : biLen [.ref i] s = .ok (.int ns.length) s := by
    show (match getL s i with | some ds => _ | none => _) = _
    rw [hg]
    simp
  have key : ∀ c : Int, ∃ a b : Int, execs (callF T k) diceB.tail [some (.ref i), some (.int n), some (.int c), none, none] s = .rt (.ref s.length) (s ++ [.lst [.int a, .int b, .int 0]]) := by
    intro c
    have p1 : ∀ s : S, opPow (.int 10) (.int 61) s = .ok (.int (10 ^ 61)) s := fun s => pow_ok' (by decide +kernel)
    have p2 : ∀ s : S, opPow (.int (10 ^ 61)) (.int 10) s = .ok (.int ((10 ^ 61) ^ 10)) s := fun s => pow_ok' (by decide +kernel)
    have p3 : ∀ s : S, opPow (.int 10) (.int 18) s = .ok (.int (10 ^ 18)) s := fun s => pow_ok' (by decide +kernel)
    have d1 : ∀ (z : Int) (s : S), opMod (.int z) (.int ((10 ^ 61) ^ 10)) s = .ok (.int (z % ((10 ^ 61) ^ 10))) s := fun z s => mod_pos (by decide +kernel)
    have d2 : ∀ (z : Int) (s : S), opMod (.int z) (.int 2305843009213693967) s = .ok (.int (z % 2305843009213693967)) s := fun z s => mod_pos (by decide)
    have m1 : ∀ (z : Int) (s : S), opMul (.int z) (.int 3935559000370003845) s = .ok (.int (z * 3935559000370003845)) s := fun z s => mul_smallR (by decide)
    have m2 : ∀ (z : Int) (s : S), opMul (.int 89) (.int z) s = .ok (.int (89 * z)) s := fun z s => mul_small (by decide)
    have m3 : ∀ (z : Int) (s : S), opMul (.int 17) (.int z) s = .ok (.int (17 * z)) s := fun z s => mul_small (by decide)
    have ab : ∀ (z : Int) (s : S), biAbs [.int z] s = .ok (.int (if z < 0 then -z else z)) s := fun z s => rfl
    have ib : ∀ (z : Bool) (s : S), biInt [.bl z] s = .ok (.int (if z then 1 else 0)) s := fun z s => rfl
    have mx : ∀ (x y : Int) (s : S), biMax [.int x, .int y] s = .ok (.int (if y > x then y else x)) s := fun x y s => rfl
    have sb : ∀ (x y : Int) (s : S), opSub (.int x) (.int y) s = .ok (.int (x - y)) s := fun x y s => rfl
    have ml : ∀ (x y z : Int) (s : S), mkLst [.int x, .int y, .int z] s = .ok (.ref s.length) (s ++ [.lst [.int x, .int y, .int z]]) := fun x y z s => rfl
    have lt : ∀ (x y : Int) (s : S), opI2 (fun i j => decide (i < j)) (.int x) (.int y) s = .ok (.bl (decide (x < y))) s := fun x y s => rfl
    generalize hB : ((10 : Int) ^ 61) ^ 10 = B at p2 d1
    apply Exists.intro
    apply Exists.intro
    unfold diceB
    simp only [List.tail_cons, bind_ok, bind_exc, lift_ok, lift_exc, seq_nx, seq_rt, seq_exc, v_non, v_bl, v_int, v_str, v_var, v_con, v_bin, v_neg, v_cmp, v_chn, v_and, v_or, v_not, v_ite, v_tup, v_lst, v_ix, v_sl, v_call, v_bi, v_isi, v_me, v_lc, v_dct, v_rev, o_no, o_int, o_var, o_bin, o_neg, o_ite, asI_int, t_no, t_cmp, t_chn, t_and, t_or, t_not, t_call, t_var, t_isi, t_bi, sems_nil, sems_cons, args_nil, args_cons, andV_1, andV_2, orV_1, orV_2, andT_1, andT_2, orT_1, orT_2, i_rng, i_tup, i_var, x_nil, x_cons, x_set, x_ret, x_expr, x_ite, x_sub, x_par, x_asg, x_for, x_rais, lk_0, lk_s, int_int, add_int, Cm.f, Ar.f, Bi.f, Me.f, Me.T, liftT, List.set_cons_succ, List.set_cons_zero, p1, p2, p3, d1, d2, m1, m2, m3, ab, ib, mx, sb, lt, ml]
    rfl
  rw [call_at e (by simp [hp])]
  have e0 : start' N.length [.ref i, .int n] = [some (.ref i), some (.int n), none, none, none] := by rw [hn]; rfl
  have e1 : diceB = diceB.head (by decide) :: diceB.tail := rfl
  show ∃ a b, trimO s (retO (execs (callF T k) diceB (start' N.length [.ref i, .int n]) s)) = _
  rw [e0, e1, x_cons]
  have first : ∃ c : Int, exec (callF T k) (diceB.head (by decide)) [some (.ref i), some (.int n), none, none, none] s = .nx [some (.ref i), some (.int n), some (.int c), none, none] s := by
    have lt : ∀ (x y : Int) (s : S), opI2 (fun i j => decide (i < j)) (.int x) (.int y) s = .ok (.bl (decide (x < y))) s := fun x y s => rfl
    have m1 : ∀ (z : Int) (s : S), opMul (.int 47) (.int z) s = .ok (.int (47 * z)) s := fun z s => mul_small (by decide)
    unfold diceB
    by_cases hc : n < (ns.length : Int)
    · obtain ⟨j, hj, rfl, ea⟩ := atI_nat (ds := ns.map D.int) h0 (by simpa using hc)
      have ix : opIx (.ref i) (.int (j : Int)) s = .ok (ns.map D.int)[j] s := by
        show (match getL s i with | some ds => (match atI ds (j : Int) with | some d => _ | none => _) | none => _) = _
        rw [hg]
        show (match atI (ns.map D.int) (j : Int) with | some d => _ | none => _) = _
        rw [ea]
      refine ⟨ns[j]'(by simpa using hj), ?_⟩
      simp only [List.head_cons, bind_ok, bind_exc, lift_ok, lift_exc, seq_nx, seq_rt, seq_exc, v_non, v_bl, v_int, v_str, v_var, v_con, v_bin, v_neg, v_cmp, v_chn, v_and, v_or, v_not, v_ite, v_tup, v_lst, v_ix, v_sl, v_call, v_bi, v_isi, v_me, v_lc, v_dct, v_rev, o_no, o_int, o_var, o_bin, o_neg, o_ite, asI_int, t_no, t_cmp, t_chn, t_and, t_or, t_not, t_call, t_var, t_isi, t_bi, sems_nil, sems_cons, args_nil, args_cons, andV_1, andV_2, orV_1, orV_2, andT_1, andT_2, orT_1, orT_2, i_rng, i_tup, i_var, x_nil, x_cons, x_set, x_ret, x_expr, x_ite, x_sub, x_par, x_asg, x_for, x_rais, lk_0, lk_s, int_int, add_int, Cm.f, Ar.f, Bi.f, Me.f, Me.T, liftT, List.set_cons_succ, List.set_cons_zero, hlen, lt, hc, decide_true, asB, if_true, ix, List.getElem_map]
    · refine ⟨47 * n + 13, ?_⟩
      simp only [List.head_cons, bind_ok, bind_exc, lift_ok, lift_exc, seq_nx, seq_rt, seq_exc, v_non, v_bl, v_int, v_str, v_var, v_con, v_bin, v_neg, v_cmp, v_chn, v_and, v_or, v_not, v_ite, v_tup, v_lst, v_ix, v_sl, v_call, v_bi, v_isi, v_me, v_lc, v_dct, v_rev, o_no, o_int, o_var, o_bin, o_neg, o_ite, asI_int, t_no, t_cmp, t_chn, t_and, t_or, t_not, t_call, t_var, t_isi, t_bi, sems_nil, sems_cons, args_nil, args_cons, andV_1, andV_2, orV_1, orV_2, andT_1, andT_2, orT_1, orT_2, i_rng, i_tup, i_var, x_nil, x_cons, x_set, x_ret, x_expr, x_ite, x_sub, x_par, x_asg, x_for, x_rais, lk_0, lk_s, int_int, add_int, Cm.f, Ar.f, Bi.f, Me.f, Me.T, liftT, List.set_cons_succ, List.set_cons_zero, hlen, lt, hc, decide_false, asB, Bool.false_eq_true, if_false, m1]
  obtain ⟨c, first⟩ := first
  obtain ⟨a, b, go⟩ := key c
  refine ⟨a, b, ?_⟩
  rw [first, seq_nx, go]
  exact trim_push
end Fe

set_option maxHeartbeats 0
namespace K00
open PySem PySem.Spec PyProof.Rows L2 Fe
abbrev Rw : PySem.W.OpenLaw := PySem.Challenge.rw_twoandabell_k00_words_and_entries
def top (i : Nat) : Stmt := PySem.Challenge.pw_twoandabell_k00_words_and_entries.main.body.getD i (.Pass ⟨0, 0, 0, 0⟩)
/-- law: 0 _law_script, 1 _law_words, 2 _law_spot, 3 _law_told, 4 _law_dice_here, 5 _law_turn, 6 _law_due, 7 _law_value, 8 _law_odd_here, 9 _law_word -/
def b0 : List Fe.St := [(.set 1 (.lst [(.str [116, 105, 99, 107, 115]), (.str [117, 115, 101, 100]), (.str [119, 97, 107, 101]), (.str [119, 97, 121]), (.str [108, 111, 115, 116]), (.str [116, 97, 107, 101, 115]), (.str [99, 111, 109, 101])])),
    (.for_ (.nm 2) (.rng [(.bi .max [(.int 1), (.bi .min [(.int 12), (.bi .len [(.var 0)])])])]) [(.set 4 (.call 1 [(.var 0), (.var 2)])), (.for_ (.nm 5) (.rng [(.int 20)]) [(.par [8, 9] [(.call 2 [(.var 4)]), (.call 3 [(.var 4), (.var 1)])]), (.set 3 (.lst [(.call 4 [(.var 8)]), (.call 5 [(.var 8)]), (.call 6 [(.var 8)]), (.call 7 [(.var 8)])])), (.set 6 (.lst [(.call 8 [(.var 8), (.int 0), (.bin .sub (.bin .pow (.int 10) (.int 40)) (.int 1))]), (.call 9 [(.var 8), (.lst [(.str [98, 97, 99, 107]), (.str [102, 114, 111, 110, 116])])])])), (.expr (.me .append (.var 6) [(.call 9 [(.var 8), (.lst [(.str [107, 101, 112, 116]), (.str [110, 101, 119])])])])), (.expr (.me .append (.var 6) [(.call 9 [(.var 8), (.lst [(.str [111, 110]), (.str [115, 108, 101, 101, 112]), (.str [119, 97, 121]), (.str [101, 110, 100]), (.str [98, 101, 108, 108])])])])), (.for_ (.nm 7) (.tup [(.var 8), (.call 10 [(.var 4), (.var 9)])]) [(.expr (.me .append (.var 3) [(.call 11 [(.var 9), (.var 7)])])), (.expr (.me .append (.var 6) [(.call 12 [(.var 9), (.var 7)])]))]), (.ite (.cmp .ne (.bi .repr [(.var 3)]) (.bi .repr [(.var 6)])) [(.ret (.bl false))] []), (.ite (.and [(.not (.call 9 [(.var 8), (.var 1)])), (.not (.call 13 [(.var 8), (.int 1)]))]) [(.ret (.bl false))] [])])]),
    (.ite (.or [(.cmp .ne (.lst [(.con 0 (.int 3)), (.con 1 (.int 3)), (.con 2 (.int 3))]) (.lst [(.int 3), (.int 3), (.int 3)])), (.not (.call 13 [(.str [115, 108, 105, 99, 101]), .non]))]) [(.ret (.bl false))] []),
    (.set 3 (.lst [(.call 11 [(.str [116, 105, 99, 107, 115]), .non]), (.call 11 [(.str [116, 97, 107, 101, 115]), .non]), (.call 11 [(.str [117, 115, 101, 100]), (.tup [(.int 2), (.str [102, 114, 111, 110, 116]), (.str [110, 101, 119])])])])),
    (.ret (.cmp .eq (.bin .add (.var 3) (.lst [(.call 4 [(.bin .sub (.bin .pow (.int 10) (.int 40)) (.int 1))])])) (.lst [(.bl true), (.bl false), (.bl false), (.bl true)])))]
def t0 : Fd := ⟨"law", ["_law_script"], ["_law_script", "_law_words", "_law_spot", "_law_told", "_law_dice_here", "_law_turn", "_law_due", "_law_value", "_law_odd_here", "_law_word"], b0⟩
/-- _law_dice: 0 _law_script, 1 _law_spot, 2 _law_cell, 3 _law_great, 4 _law_blend -/
def b1 : List Fe.St := [(.set 2 (.ite (.cmp .lt (.var 1) (.bi .len [(.var 0)])) (.ix (.var 0) (.var 1)) (.bin .add (.bin .mul (.int 47) (.var 1)) (.int 13)))),
    (.set 3 (.bin .mod (.bi .int [(.bi .abs [(.var 2)])]) (.bin .pow (.bin .pow (.int 10) (.int 61)) (.int 10)))),
    (.set 4 (.bin .add (.bin .add (.bin .add (.bin .mul (.var 3) (.int 3935559000370003845)) (.bin .mul (.int 89) (.var 1))) (.bin .mul (.int 17) (.bi .int [(.cmp .lt (.var 2) (.int 0))]))) (.int 3))),
    (.ret (.lst [(.bi .max [(.int 0), (.bin .sub (.var 3) (.bin .pow (.int 10) (.int 18)))]), (.bin .mod (.bi .int [(.var 4)]) (.int 2305843009213693967)), (.int 0)]))]
def t1 : Fd := ⟨"_law_dice", ["_law_script", "_law_spot"], ["_law_script", "_law_spot", "_law_cell", "_law_great", "_law_blend"], b1⟩
/-- _law_odd: 0 _law_dice_here, 1 _law_number, 2 _law_text, 3 _law_some -/
def b2 : List Fe.St := [(.set 1 (.call 3 [(.var 0), (.lst [(.int 0), (.int 1), (.int 2), (.int 3), (.int 4), (.neg (.int 1)), (.bin .sub (.bin .pow (.int 10) (.int 40)) (.int 1)), (.bin .pow (.int 10) (.int 40)), (.bin .pow (.int 10) (.int 60)), (.neg (.bin .pow (.int 10) (.int 40)))])])),
    (.set 2 (.call 3 [(.var 0), (.lst [(.str [98, 97, 99, 107]), (.str [102, 114, 111, 110, 116]), (.str [107, 101, 112, 116]), (.str [110, 101, 119]), (.str [111, 110]), (.str [115, 108, 101, 101, 112]), (.str [119, 97, 121]), (.str [101, 110, 100]), (.str [98, 101, 108, 108]), (.str []), (.str [66, 97, 99, 107]), (.str [116, 105, 99, 107, 115])])])),
    (.set 3 (.lst [(.var 1), (.var 2), .non, (.bl true), (.bl false), (.lst []), (.dct [] []), (.tup []), (.tup [(.var 1)]), (.lst [(.var 2)]), (.tup [(.var 2)]), (.dct [(.var 2)] [(.var 1)]), (.tup [(.tup [])])])),
    (.ret (.call 3 [(.var 0), (.var 3)]))]
def t2 : Fd := ⟨"_law_odd", ["_law_dice_here"], ["_law_dice_here", "_law_number", "_law_text", "_law_some"], b2⟩
/-- _law_pick: 0 _law_dice_here, 1 _law_items -/
def b3 : List Fe.St := [(.ret (.ix (.var 1) (.call 14 [(.var 0), (.bi .len [(.var 1)])])))]
def t3 : Fd := ⟨"_law_pick", ["_law_dice_here", "_law_items"], ["_law_dice_here", "_law_items"], b3⟩
/-- is_number: 0 value -/
def b4 : List Fe.St := [(.ret (.and [(.call 15 [(.var 0)]), (.cmp .ge (.var 0) (.int 0))]))]
def t4 : Fd := ⟨"is_number", ["value"], ["value"], b4⟩
/-- is_place: 0 value -/
def b5 : List Fe.St := [(.ret (.and [(.isi .str (.var 0)), (.cmp .in_ (.var 0) (.tup [(.con 3 (.str [98, 97, 99, 107])), (.con 4 (.str [102, 114, 111, 110, 116]))]))]))]
def t5 : Fd := ⟨"is_place", ["value"], ["value"], b5⟩
/-- is_rest: 0 value -/
def b6 : List Fe.St := [(.ret (.and [(.isi .str (.var 0)), (.cmp .in_ (.var 0) (.tup [(.con 5 (.str [107, 101, 112, 116])), (.con 6 (.str [110, 101, 119]))]))]))]
def t6 : Fd := ⟨"is_rest", ["value"], ["value"], b6⟩
/-- is_word: 0 value -/
def b7 : List Fe.St := [(.ret (.and [(.isi .str (.var 0)), (.or [(.cmp .in_ (.var 0) (.con 7 (.tup [(.str [111, 110]), (.str [115, 108, 101, 101, 112]), (.str [119, 97, 121]), (.str [101, 110, 100])]))), (.cmp .eq (.var 0) (.con 8 (.str [98, 101, 108, 108])))])]))]
def t7 : Fd := ⟨"is_word", ["value"], ["value"], b7⟩
/-- _law_is_whole: 0 _law_value, 1 _law_least, 2 _law_most -/
def b8 : List Fe.St := [(.ret (.and [(.isi .int (.var 0)), (.not (.isi .bl (.var 0))), (.chn .le .le (.var 1) (.var 0) (.var 2))]))]
def t8 : Fd := ⟨"_law_is_whole", ["_law_value", "_law_least", "_law_most"], ["_law_value", "_law_least", "_law_most"], b8⟩
/-- _law_is_text: 0 _law_value, 1 _law_some -/
def b9 : List Fe.St := [(.ret (.and [(.isi .str (.var 0)), (.cmp .in_ (.var 0) (.var 1))]))]
def t9 : Fd := ⟨"_law_is_text", ["_law_value", "_law_some"], ["_law_value", "_law_some"], b9⟩
/-- _law_drawn: 0 _law_dice_here, 1 _law_word, 2 _law_found, 3 _law_way, 4 _law_at -/
def b10 : List Fe.St := [(.ite (.cmp .in_ (.var 1) (.tup [(.str [116, 105, 99, 107, 115]), (.str [116, 97, 107, 101, 115]), (.str [99, 111, 109, 101])])) [(.ret (.call 3 [(.var 0), (.lst [.non, (.int 0), (.int 1), (.int 2), (.int 3), (.int 4), (.neg (.int 1)), (.bl true), (.bl false), (.tup [(.int 1)]), (.str [49]), (.bin .pow (.int 10) (.int 41))])]))] []),
    (.set 2 (.bin .add (.lst [(.call 14 [(.var 0), (.int 3)]), (.call 3 [(.var 0), (.lst [(.str [98, 97, 99, 107]), (.str [102, 114, 111, 110, 116])])])]) (.lst [(.call 3 [(.var 0), (.lst [(.str [107, 101, 112, 116]), (.str [110, 101, 119])])])]))),
    (.set 2 (.sl (.var 2) .no (.ite (.cmp .eq (.var 1) (.str [117, 115, 101, 100])) (.int 2) (.int 3)))),
    (.set 3 (.call 14 [(.var 0), (.int 6)])),
    (.ite (.cmp .eq (.var 3) (.int 0)) [(.ret (.bi .lst [(.var 2)]))] []),
    (.ite (.cmp .eq (.var 3) (.int 1)) [(.ret (.bi .tup [(.bin .add (.var 2) (.lst [(.call 2 [(.var 0)])]))]))] []),
    (.ite (.cmp .eq (.var 3) (.int 2)) [(.ret (.bi .tup [(.sl (.var 2) .no (.neg (.int 1)))]))] []),
    (.ite (.cmp .eq (.var 3) (.int 3)) [(.set 4 (.call 14 [(.var 0), (.bi .len [(.var 2)])])), (.ret (.bi .tup [(.bin .add (.bin .add (.sl (.var 2) .no (.var 4)) (.lst [(.call 2 [(.var 0)])])) (.sl (.var 2) (.bin .add (.var 4) (.int 1)) .no))]))] []),
    (.ret (.ite (.and [(.cmp .eq (.var 3) (.int 4)), (.cmp .eq (.call 14 [(.var 0), (.int 3)]) (.int 0))]) (.bi .tup [(.rev (.var 2))]) (.bi .tup [(.var 2)])))]
def t10 : Fd := ⟨"_law_drawn", ["_law_dice_here", "_law_word"], ["_law_dice_here", "_law_word", "_law_found", "_law_way", "_law_at"], b10⟩
/-- is_entry: 0 word, 1 value -/
def b11 : List Fe.St := [(.ite (.and [(.not (.call 16 [(.var 0)])), (.not (.and [(.isi .str (.var 0)), (.cmp .eq (.var 0) (.con 9 (.str [99, 111, 109, 101])))]))]) [(.rais 0 true (.var 0))] []),
    (.ite (.cmp .eq (.var 0) (.con 10 (.str [116, 105, 99, 107, 115]))) [(.ret (.or [(.cmp .is (.var 1) .non), (.and [(.call 15 [(.var 1)]), (.chn .le .le (.int 1) (.var 1) (.con 2 (.int 3)))])]))] []),
    (.ite (.cmp .eq (.var 0) (.con 11 (.str [117, 115, 101, 100]))) [(.ret (.call 17 [(.var 1)]))] []),
    (.ret (.ite (.cmp .in_ (.var 0) (.con 12 (.tup [(.str [119, 97, 107, 101]), (.str [119, 97, 121]), (.str [108, 111, 115, 116])]))) (.call 18 [(.var 1)]) (.call 19 [(.var 1), (.con 0 (.int 3))])))]
def t11 : Fd := ⟨"is_entry", ["word", "value"], ["word", "value"], b11⟩
/-- _law_is_form: 0 _law_word, 1 _law_value -/
def b12 : List Fe.St := [(.ite (.cmp .eq (.var 0) (.str [116, 105, 99, 107, 115])) [(.ret (.or [(.cmp .is (.var 1) .non), (.call 8 [(.var 1), (.int 1), (.int 3)])]))] []),
    (.ite (.cmp .in_ (.var 0) (.tup [(.str [116, 97, 107, 101, 115]), (.str [99, 111, 109, 101])])) [(.ret (.call 8 [(.var 1), (.int 0), (.int 2)]))] []),
    (.ite (.or [(.not (.isi .tup (.var 1))), (.cmp .ne (.bi .len [(.var 1)]) (.ite (.cmp .eq (.var 0) (.str [117, 115, 101, 100])) (.int 2) (.int 3)))]) [(.ret (.bl false))] []),
    (.ite (.or [(.not (.call 8 [(.ix (.var 1) (.int 0)), (.int 0), (.int 2)])), (.not (.call 9 [(.ix (.var 1) (.int 1)), (.lst [(.str [98, 97, 99, 107]), (.str [102, 114, 111, 110, 116])])]))]) [(.ret (.bl false))] []),
    (.ret (.or [(.cmp .eq (.var 0) (.str [117, 115, 101, 100])), (.call 9 [(.ix (.var 1) (.int 2)), (.lst [(.str [107, 101, 112, 116]), (.str [110, 101, 119])])])]))]
def t12 : Fd := ⟨"_law_is_form", ["_law_word", "_law_value"], ["_law_word", "_law_value"], b12⟩
/-- _law_refuses: 0 _law_word, 1 _law_value, 2 e -/
def b13 : List Fe.St := [(.tryA [(.expr (.call 11 [(.var 0), (.var 1)]))] 2 0 1 [0] (.cmp .eq (.bi .repr (.fld 0)) (.of (.bi .repr [(.var 0)])))),
    (.ret (.bl false))]
def t13 : Fd := ⟨"_law_refuses", ["_law_word", "_law_value"], ["_law_word", "_law_value", "e"], b13⟩
/-- _law_roll: 0 _law_dice_here, 1 _law_upto, 2 _law_one, 3 _law_two, 4 _law_found -/
def b14 : List Fe.St := [(.ite (.cmp .gt (.ix (.var 0) (.int 0)) (.int 0)) [(.set 4 (.bin .mod (.bi .int [(.ix (.var 0) (.int 0))]) (.var 1))), (.sub (.var 0) (.int 0) (.bin .div (.ix (.var 0) (.int 0)) (.var 1))), (.ret (.var 4))] []),
    (.sub (.var 0) (.int 2) (.bin .add (.ix (.var 0) (.int 2)) (.int 1))),
    (.set 2 (.bin .mod (.bi .int [(.bin .add (.ix (.var 0) (.int 1)) (.bin .mul (.int 941083987) (.ix (.var 0) (.int 2))))]) (.int 67280421310693))),
    (.set 3 (.bin .add (.bin .mul (.bin .mod (.bi .int [(.bin .mul (.var 2) (.var 2))]) (.int 576460752303423433)) (.var 2)) (.bin .mul (.int 7907) (.ix (.var 0) (.int 2))))),
    (.ret (.bin .mod (.bi .int [(.bin .div (.bin .mod (.bi .int [(.bin .add (.var 3) (.ix (.var 0) (.int 1)))]) (.int 2199023255531)) (.int 64))]) (.var 1)))]
def t14 : Fd := ⟨"_law_roll", ["_law_dice_here", "_law_upto"], ["_law_dice_here", "_law_upto", "_law_one", "_law_two", "_law_found"], b14⟩
/-- is_integer: 0 value -/
def b15 : List Fe.St := [(.ret (.and [(.isi .int (.var 0)), (.not (.isi .bl (.var 0))), (.chn .lt .lt (.neg (.con 13 (.int 10000000000000000000000000000000000000000))) (.var 0) (.con 13 (.int 10000000000000000000000000000000000000000)))]))]
def t15 : Fd := ⟨"is_integer", ["value"], ["value"], b15⟩
/-- is_level_word: 0 value -/
def b16 : List Fe.St := [(.ret (.and [(.isi .str (.var 0)), (.cmp .in_ (.var 0) (.con 14 (.tup [(.str [116, 105, 99, 107, 115]), (.str [117, 115, 101, 100]), (.str [119, 97, 107, 101]), (.str [119, 97, 121]), (.str [108, 111, 115, 116]), (.str [116, 97, 107, 101, 115])])))]))]
def t16 : Fd := ⟨"is_level_word", ["value"], ["value"], b16⟩
/-- is_pair: 0 value -/
def b17 : List Fe.St := [(.ret (.and [(.isi .tup (.var 0)), (.cmp .eq (.bi .len [(.var 0)]) (.int 2)), (.call 19 [(.ix (.var 0) (.int 0)), (.con 0 (.int 3))]), (.call 5 [(.ix (.var 0) (.int 1))])]))]
def t17 : Fd := ⟨"is_pair", ["value"], ["value"], b17⟩
/-- is_triple: 0 value -/
def b18 : List Fe.St := [(.ret (.and [(.isi .tup (.var 0)), (.cmp .eq (.bi .len [(.var 0)]) (.int 3)), (.call 17 [(.sl (.var 0) .no (.int 2))]), (.call 6 [(.ix (.var 0) (.int 2))])]))]
def t18 : Fd := ⟨"is_triple", ["value"], ["value"], b18⟩
/-- is_below: 0 value, 1 many -/
def b19 : List Fe.St := [(.ret (.and [(.call 15 [(.var 0)]), (.chn .le .lt (.int 0) (.var 0) (.var 1))]))]
def t19 : Fd := ⟨"is_below", ["value", "many"], ["value", "many"], b19⟩
def T1 : List Fd := [t1, t2, t3, t4, t5, t6, t7, t8, t9, t10, t11, t12, t13, t14, t15, t16, t17, t18, t19]
abbrev T : List Fd := t0 :: T1
def tops : List Stmt := [top 45, top 36, top 42, top 38, top 27, top 28, top 29, top 30, top 39, top 40, top 43, top 34, top 41, top 44, top 37, top 25, top 31, top 32, top 33, top 26]
def cons : List (Str × Fe.D) := [("MAX_LEVELS", (.int 3)), ("MAX_RANKS", (.int 3)), ("MAX_SLICE", (.int 3)), ("BACK", (.str [98, 97, 99, 107])), ("FRONT", (.str [102, 114, 111, 110, 116])), ("KEPT", (.str [107, 101, 112, 116])), ("NEW", (.str [110, 101, 119])), ("WORDS", (.tup [(.str [111, 110]), (.str [115, 108, 101, 101, 112]), (.str [119, 97, 121]), (.str [101, 110, 100])])), ("BELL", (.str [98, 101, 108, 108])), ("COME", (.str [99, 111, 109, 101])), ("TICKS", (.str [116, 105, 99, 107, 115])), ("USED", (.str [117, 115, 101, 100])), ("MOVING", (.tup [(.str [119, 97, 107, 101]), (.str [119, 97, 121]), (.str [108, 111, 115, 116])])), ("BEYOND", (.int 10000000000000000000000000000000000000000)), ("LEVEL_WORDS", (.tup [(.str [116, 105, 99, 107, 115]), (.str [117, 115, 101, 100]), (.str [119, 97, 107, 101]), (.str [119, 97, 121]), (.str [108, 111, 115, 116]), (.str [116, 97, 107, 101, 115])]))]
def free : List Str := ["range", "max", "min", "len", "repr", "int", "abs", "isinstance", "str", "bool", "list", "tuple"]
def e0 : ExD := ⟨"UnknownName", some "word", .le, "self", match top 1 with | .ClassDef _ _ _ b _ _ _ _ _ _ _ => b.getD 0 (.Pass ⟨0, 0, 0, 0⟩) | _ => .Pass ⟨0, 0, 0, 0⟩⟩
def es : List ExD := [e0]
def hds : List HdD := [⟨"UnknownName", true, [0]⟩]
def loose : List Str := (["UnknownName", "MAX_LEVELS", "MAX_RANKS", "MAX_SLICE", "BACK", "FRONT", "KEPT", "NEW", "ON", "SLEEP", "WAY", "END", "BELL", "WORDS", "TICKS", "USED", "WAKE", "LOST", "TAKES", "COME", "LEVEL_WORDS", "MOVING", "BEYOND", "is_integer", "is_below", "is_number", "is_place", "is_rest", "is_word", "is_level_word"] : List PySem.Str) ++ (["is_pair", "is_triple", "is_entry", "_law_dice", "_law_roll", "_law_pick", "_law_is_whole", "_law_is_text", "_law_is_form", "_law_odd", "_law_drawn", "_law_refuses"] : List PySem.Str)
theorem o0 : okDef (ckOf T cons free es hds) t0 (top 45) = true := by kernel_rfl
theorem d0 : Bd t0 (top 45) := fun _ _ _ _ _ _ us h => match us, h with
  | [_], _ => rfl
theorem o1 : okDef (ckOf T cons free es hds) t1 (top 36) = true := by kernel_rfl
theorem d1 : Bd t1 (top 36) := fun _ _ _ _ _ _ us h => match us, h with
  | [_, _], _ => rfl
theorem o2 : okDef (ckOf T cons free es hds) t2 (top 42) = true := by kernel_rfl
theorem d2 : Bd t2 (top 42) := fun _ _ _ _ _ _ us h => match us, h with
  | [_], _ => rfl
theorem o3 : okDef (ckOf T cons free es hds) t3 (top 38) = true := by kernel_rfl
theorem d3 : Bd t3 (top 38) := fun _ _ _ _ _ _ us h => match us, h with
  | [_, _], _ => rfl
theorem o4 : okDef (ckOf T cons free es hds) t4 (top 27) = true := by kernel_rfl
theorem d4 : Bd t4 (top 27) := fun _ _ _ _ _ _ us h => match us, h with
  | [_], _ => rfl
theorem o5 : okDef (ckOf T cons free es hds) t5 (top 28) = true := by kernel_rfl
theorem d5 : Bd t5 (top 28) := fun _ _ _ _ _ _ us h => match us, h with
  | [_], _ => rfl
theorem o6 : okDef (ckOf T cons free es hds) t6 (top 29) = true := by kernel_rfl
theorem d6 : Bd t6 (top 29) := fun _ _ _ _ _ _ us h => match us, h with
  | [_], _ => rfl
theorem o7 : okDef (ckOf T cons free es hds) t7 (top 30) = true := by kernel_rfl
theorem d7 : Bd t7 (top 30) := fun _ _ _ _ _ _ us h => match us, h with
  | [_], _ => rfl
theorem o8 : okDef (ckOf T cons free es hds) t8 (top 39) = true := by kernel_rfl
theorem d8 : Bd t8 (top 39) := fun _ _ _ _ _ _ us h => match us, h with
  | [_, _, _], _ => rfl
theorem o9 : okDef (ckOf T cons free es hds) t9 (top 40) = true := by kernel_rfl
theorem d9 : Bd t9 (top 40) := fun _ _ _ _ _ _ us h => match us, h with
  | [_, _], _ => rfl
theorem o10 : okDef (ckOf T cons free es hds) t10 (top 43) = true := by kernel_rfl
theorem d10 : Bd t10 (top 43) := fun _ _ _ _ _ _ us h => match us, h with
  | [_, _], _ => rfl
theorem o11 : okDef (ckOf T cons free es hds) t11 (top 34) = true := by kernel_rfl
theorem d11 : Bd t11 (top 34) := fun _ _ _ _ _ _ us h => match us, h with
  | [_, _], _ => rfl
theorem o12 : okDef (ckOf T cons free es hds) t12 (top 41) = true := by kernel_rfl
theorem d12 : Bd t12 (top 41) := fun _ _ _ _ _ _ us h => match us, h with
  | [_, _], _ => rfl
theorem o13 : okDef (ckOf T cons free es hds) t13 (top 44) = true := by kernel_rfl
theorem d13 : Bd t13 (top 44) := fun _ _ _ _ _ _ us h => match us, h with
  | [_, _], _ => rfl
theorem o14 : okDef (ckOf T cons free es hds) t14 (top 37) = true := by kernel_rfl
theorem d14 : Bd t14 (top 37) := fun _ _ _ _ _ _ us h => match us, h with
  | [_, _], _ => rfl
theorem o15 : okDef (ckOf T cons free es hds) t15 (top 25) = true := by kernel_rfl
theorem d15 : Bd t15 (top 25) := fun _ _ _ _ _ _ us h => match us, h with
  | [_], _ => rfl
theorem o16 : okDef (ckOf T cons free es hds) t16 (top 31) = true := by kernel_rfl
theorem d16 : Bd t16 (top 31) := fun _ _ _ _ _ _ us h => match us, h with
  | [_], _ => rfl
theorem o17 : okDef (ckOf T cons free es hds) t17 (top 32) = true := by kernel_rfl
theorem d17 : Bd t17 (top 32) := fun _ _ _ _ _ _ us h => match us, h with
  | [_], _ => rfl
theorem o18 : okDef (ckOf T cons free es hds) t18 (top 33) = true := by kernel_rfl
theorem d18 : Bd t18 (top 33) := fun _ _ _ _ _ _ us h => match us, h with
  | [_], _ => rfl
theorem o19 : okDef (ckOf T cons free es hds) t19 (top 26) = true := by kernel_rfl
theorem d19 : Bd t19 (top 26) := fun _ _ _ _ _ _ us h => match us, h with
  | [_, _], _ => rfl
theorem all : AllOk (ckOf T cons free es hds) T tops := .cons o0 d0 <| .cons o1 d1 <| .cons o2 d2 <| .cons o3 d3 <| .cons o4 d4 <| .cons o5 d5 <| .cons o6 d6 <| .cons o7 d7 <| .cons o8 d8 <| .cons o9 d9 <| .cons o10 d10 <| .cons o11 d11 <| .cons o12 d12 <| .cons o13 d13 <| .cons o14 d14 <| .cons o15 d15 <| .cons o16 d16 <| .cons o17 d17 <| .cons o18 d18 <| .cons o19 d19 <| .nil
theorem eb0 : ExBd e0 := fun f h _ _ _ _ _ _ _ _ => by
  cases h
  rfl
theorem allE : AllEx es := .cons (by kernel_rfl) eb0 <| .nil
theorem hdsT : hds.all hdT = true := by kernel_rfl
abbrev hk : PySem.W.Hook := hkOf T tops cons free es hds
abbrev R : PySem.W.OpenRow := PySem.W.OpenLaw.row Rw
def ob (s : PySem.W.SharedT) : He.AlX := He.obsX 4 (fasOf T free) (dfsOf T tops es) [] [] (ckK cons es hds) (HandSHeadRun.getT s)
theorem ob_eq (s : PySem.W.SharedT) : ob s = hk.obs s.abs := He.obsX_eq (HandSHeadRun.getT_eq s)
theorem run (w : World) : HandSHeadRun.RunEq R (PySem.W.view R.prog [45]) hk ob 4000 loose w := by
  intro os
  kernel_rfl
end K00
set_option maxHeartbeats 4000000
namespace K00
open Fe
open L2 (atI ixN)
/-! ### plain law -/
def Good (s : Fe.S) (v : D) : Prop := ∃ t, tyOf s v = some t
def isI (v : D) (lo hi : Int) : Bool := match v with
  | .int i => decide (lo ≤ i) && decide (i ≤ hi)
  | _ => false
def isT (v : D) (l : List (List Nat)) : Bool := match v with
  | .str c => l.contains c
  | _ => false
def isT? (v : D) : Bool := match v with
  | .str c => true
  | _ => false
section
variable {k : Nat} {s : Fe.S} {v w : D}
theorem isi_at {t u : Ty} (h : tyOf s v = some u) : opIsi t v s = .ok (.bl (isTy u t)) s := by
  unfold opIsi; rw [h]
theorem tru_bl {b : Bool} : tru (.bl b) s = .ok b s := rfl
theorem asB_bl {b : Bool} : asB (.ok (.bl b) s) = .ok b s := rfl
theorem ret_bl {b : Bool} : trimO s (retO (.rt (.bl b) s)) = .ok (.bl b) s := trim_self fun j h => by cases h
theorem Good.int {i : Int} : Good s (.int i) := ⟨_, rfl⟩
theorem Good.str {c : List Nat} : Good s (.str c) := ⟨_, rfl⟩
theorem Good.tup {c : List D} : Good s (.tup c) := ⟨_, rfl⟩
/-- what kind of thing a value is -/
inductive Kind (s : Fe.S) : D → Ty → Prop
  | non : Kind s .non .non
  | bl (b : Bool) : Kind s (.bl b) .bl
  | int (i : Int) : Kind s (.int i) .int
  | str (c : List Nat) : Kind s (.str c) .str
  | tup (l : List D) : Kind s (.tup l) .tup
  | lst (j : Nat) : tyOf s (.ref j) = some .lst → Kind s (.ref j) .lst
  | dct (j : Nat) : tyOf s (.ref j) = some .dct → Kind s (.ref j) .dct
theorem Kind.of {t : Ty} (h : tyOf s v = some t) : Kind s v t := by
  cases v with
  | non => cases h; exact .non
  | bl b => cases h; exact .bl b
  | int b => cases h; exact .int b
  | str b => cases h; exact .str b
  | tup b => cases h; exact .tup b
  | ref j =>
    have h' := h
    unfold tyOf at h'
    dsimp only at h'
    split at h'
    · cases h'; exact .lst j h
    · cases h'; exact .lst j h
    · cases h'; exact .dct j h
    · cases h'
theorem Kind.ty {t : Ty} (h : Kind s v t) : tyOf s v = some t := by
  cases h with
  | lst j h => exact h
  | dct j h => exact h
  | _ => rfl
theorem ty_tab : isTy .non .int = false ∧ isTy .bl .int = true ∧ isTy .int .int = true ∧ isTy .str .int = false ∧ isTy .tup .int = false ∧ isTy .lst .int = false ∧ isTy .dct .int = false ∧
  isTy .bl .bl = true ∧ isTy .int .bl = false ∧ isTy .non .str = false ∧ isTy .bl .str = false ∧ isTy .int .str = false ∧ isTy .str .str = true ∧ isTy .tup .str = false ∧ isTy .lst .str = false ∧ isTy .dct .str = false ∧
  isTy .non .tup = false ∧ isTy .bl .tup = false ∧ isTy .int .tup = false ∧ isTy .str .tup = false ∧ isTy .tup .tup = true ∧ isTy .lst .tup = false ∧ isTy .dct .tup = false := by decide
theorem lt_ {x y : Int} : opI2 (fun i j => decide (i < j)) (.int x) (.int y) s = .ok (.bl (decide (x < y))) s := rfl
theorem le_ {x y : Int} : opI2 (fun i j => decide (i ≤ j)) (.int x) (.int y) s = .ok (.bl (decide (x ≤ y))) s := rfl
theorem ge_ {x y : Int} : opI2 (fun i j => decide (j ≤ i)) (.int x) (.int y) s = .ok (.bl (decide (y ≤ x))) s := rfl
theorem neg_ {x : Int} : opNeg (.int x) s = .ok (.int (-x)) s := rfl
theorem bfalse : (false = true) = False := by simp
theorem dec_and {p q : Prop} [Decidable p] [Decidable q] : (if decide p = true then (Out.ok (D.bl (decide q)) s) else .ok (.bl false) s) = .ok (.bl (decide p && decide q)) s := by
  by_cases h : p <;> simp [h]
theorem and_bl {p q : Bool} : (if p = true then Out.ok (D.bl q) s else .ok (.bl p) s) = .ok (.bl (p && q)) s := by cases p <;> rfl
theorem or_bl {p q : Bool} : (if p = true then Out.ok (D.bl p) s else .ok (.bl q) s) = .ok (.bl (p || q)) s := by cases p <;> rfl
def B : Int := 10000000000000000000000000000000000000000
theorem f15 (g : Good s v) : callF T (k + 1) 15 [v] s = .ok (.bl (isI v (1 - B) (B - 1))) s := by
  obtain ⟨t, ht⟩ := g
  have K := Kind.of ht
  obtain ⟨a1, a2, a3, a4, a5, a6, a7, a8, a9, _⟩ := ty_tab
  rw [call_at (d := t15) rfl rfl]
  show trimO s (retO (execs (callF T k) b15 [some v] s)) = _
  have e : execs (callF T k) b15 [some v] s = .rt (.bl (isI v (1 - B) (B - 1))) s := by
    unfold b15
    cases K with
    | int i =>
      simp only [Fe.bind_ok, Fe.bind_exc, Fe.lift_ok, Fe.lift_exc, Fe.seq_nx, Fe.seq_rt, Fe.seq_exc, Fe.v_non, Fe.v_bl, Fe.v_int, Fe.v_str, Fe.v_var, Fe.v_con, Fe.v_bin, Fe.v_neg, Fe.v_cmp, Fe.v_chn, Fe.v_and, Fe.v_or, Fe.v_not, Fe.v_ite, Fe.v_tup, Fe.v_lst, Fe.v_ix, Fe.v_sl, Fe.v_call, Fe.v_bi, Fe.v_isi, Fe.v_me, Fe.v_lc, Fe.v_dct, Fe.v_rev, Fe.o_no, Fe.o_int, Fe.o_var, Fe.o_bin, Fe.o_neg, Fe.o_ite, Fe.asI_int, Fe.t_no, Fe.t_cmp, Fe.t_chn, Fe.t_and, Fe.t_or, Fe.t_not, Fe.t_call, Fe.t_var, Fe.t_isi, Fe.t_bi, Fe.sems_nil, Fe.sems_cons, Fe.args_nil, Fe.args_cons, Fe.andV_1, Fe.andV_2, Fe.orV_1, Fe.orV_2, Fe.andT_1, Fe.andT_2, Fe.orT_1, Fe.orT_2, Fe.i_rng, Fe.i_tup, Fe.i_var, Fe.x_nil, Fe.x_cons, Fe.x_set, Fe.x_ret, Fe.x_expr, Fe.x_ite, Fe.x_sub, Fe.x_par, Fe.x_asg, Fe.x_for, Fe.x_rais, lk_0, lk_s, int_int, add_int, Cm.f, Ar.f, Bi.f, Me.f, Me.T, liftT, List.set_cons_succ, List.set_cons_zero, isi_at ht, a3, a9, tru_bl, if_true, Bool.not_false, neg_, lt_, asB_bl, dec_and]
      unfold isI B
      have e1 : (-10000000000000000000000000000000000000000 < i) ↔ (1 - 10000000000000000000000000000000000000000 ≤ i) := by omega
      have e2 : (i < 10000000000000000000000000000000000000000) ↔ (i ≤ 10000000000000000000000000000000000000000 - 1) := by omega
      simp only [e1, e2]
    | bl b => simp only [Fe.bind_ok, Fe.bind_exc, Fe.lift_ok, Fe.lift_exc, Fe.seq_nx, Fe.seq_rt, Fe.seq_exc, Fe.v_non, Fe.v_bl, Fe.v_int, Fe.v_str, Fe.v_var, Fe.v_con, Fe.v_bin, Fe.v_neg, Fe.v_cmp, Fe.v_chn, Fe.v_and, Fe.v_or, Fe.v_not, Fe.v_ite, Fe.v_tup, Fe.v_lst, Fe.v_ix, Fe.v_sl, Fe.v_call, Fe.v_bi, Fe.v_isi, Fe.v_me, Fe.v_lc, Fe.v_dct, Fe.v_rev, Fe.o_no, Fe.o_int, Fe.o_var, Fe.o_bin, Fe.o_neg, Fe.o_ite, Fe.asI_int, Fe.t_no, Fe.t_cmp, Fe.t_chn, Fe.t_and, Fe.t_or, Fe.t_not, Fe.t_call, Fe.t_var, Fe.t_isi, Fe.t_bi, Fe.sems_nil, Fe.sems_cons, Fe.args_nil, Fe.args_cons, Fe.andV_1, Fe.andV_2, Fe.orV_1, Fe.orV_2, Fe.andT_1, Fe.andT_2, Fe.orT_1, Fe.orT_2, Fe.i_rng, Fe.i_tup, Fe.i_var, Fe.x_nil, Fe.x_cons, Fe.x_set, Fe.x_ret, Fe.x_expr, Fe.x_ite, Fe.x_sub, Fe.x_par, Fe.x_asg, Fe.x_for, Fe.x_rais, lk_0, lk_s, int_int, add_int, Cm.f, Ar.f, Bi.f, Me.f, Me.T, liftT, List.set_cons_succ, List.set_cons_zero, isi_at ht, a2, a8, tru_bl, if_true, Bool.not_true, bfalse, if_false]; rfl
    | _ => simp only [Fe.bind_ok, Fe.bind_exc, Fe.lift_ok, Fe.lift_exc, Fe.seq_nx, Fe.seq_rt, Fe.seq_exc, Fe.v_non, Fe.v_bl, Fe.v_int, Fe.v_str, Fe.v_var, Fe.v_con, Fe.v_bin, Fe.v_neg, Fe.v_cmp, Fe.v_chn, Fe.v_and, Fe.v_or, Fe.v_not, Fe.v_ite, Fe.v_tup, Fe.v_lst, Fe.v_ix, Fe.v_sl, Fe.v_call, Fe.v_bi, Fe.v_isi, Fe.v_me, Fe.v_lc, Fe.v_dct, Fe.v_rev, Fe.o_no, Fe.o_int, Fe.o_var, Fe.o_bin, Fe.o_neg, Fe.o_ite, Fe.asI_int, Fe.t_no, Fe.t_cmp, Fe.t_chn, Fe.t_and, Fe.t_or, Fe.t_not, Fe.t_call, Fe.t_var, Fe.t_isi, Fe.t_bi, Fe.sems_nil, Fe.sems_cons, Fe.args_nil, Fe.args_cons, Fe.andV_1, Fe.andV_2, Fe.orV_1, Fe.orV_2, Fe.andT_1, Fe.andT_2, Fe.orT_1, Fe.orT_2, Fe.i_rng, Fe.i_tup, Fe.i_var, Fe.x_nil, Fe.x_cons, Fe.x_set, Fe.x_ret, Fe.x_expr, Fe.x_ite, Fe.x_sub, Fe.x_par, Fe.x_asg, Fe.x_for, Fe.x_rais, lk_0, lk_s, int_int, add_int, Cm.f, Ar.f, Bi.f, Me.f, Me.T, liftT, List.set_cons_succ, List.set_cons_zero, isi_at ht, a1, a4, a5, a6, a7, tru_bl, bfalse, if_false]; rfl
  rw [e]; exact ret_bl

theorem strs_flat (l : List (List Nat)) : (l.map D.str).all flatD = true := by
  rw [List.all_eq_true]
  intro x hx
  obtain ⟨c, _, rfl⟩ := List.mem_map.mp hx
  rfl
theorem inF_strs (c : List Nat) : ∀ l : List (List Nat), inF (.str c) (l.map D.str) = l.contains c
  | [] => rfl
  | a :: l => by
    unfold inF
    rw [List.map_cons, List.any_cons, List.contains_cons]
    have ih := inF_strs c l
    unfold inF at ih
    rw [ih]
    congr 1
    show (a == c) = (c == a)
    rw [Bool.eq_iff_iff, beq_iff_eq, beq_iff_eq]
    exact eq_comm
theorem in_tup {c : List Nat} (l : List (List Nat)) : opIn (.str c) (.tup (l.map D.str)) s = .ok (.bl (l.contains c)) s := by
  unfold opIn
  have : inD s (.str c) (.tup (l.map D.str)) = some (l.contains c) := by
    unfold inD
    dsimp only [itemsOf]
    rw [if_pos ⟨rfl, strs_flat l⟩, inF_strs]
  rw [this]
theorem in_lst {c : List Nat} {j : Nat} (l : List (List Nat)) (h : s[j]? = some (.lst (l.map D.str))) : opIn (.str c) (.ref j) s = .ok (.bl (l.contains c)) s := by
  unfold opIn
  have : inD s (.str c) (.ref j) = some (l.contains c) := by
    unfold inD
    dsimp only [itemsOf]
    rw [getL_at h]
    dsimp only
    rw [if_pos ⟨rfl, strs_flat l⟩, inF_strs]
  rw [this]
theorem eq_str {a b : List Nat} : opEq (.str a) (.str b) s = .ok (.bl (a == b)) s := by
  unfold opEq eqD pd
  dsimp only
  show Out.ok (D.bl (PySem.PyData.eqv (.str ⟨a.toArray⟩) (.str ⟨b.toArray⟩))) s = _
  congr 2
  rw [← str_eq]
  rfl
/-! each def once -/
theorem f4 (g : Good s v) : callF T (k + 2) 4 [v] s = .ok (.bl (isI v 0 (B - 1))) s := by
  have K := g
  obtain ⟨t, ht⟩ := K
  have K := Kind.of ht
  rw [call_at (d := t4) rfl rfl]
  show trimO s (retO (execs (callF T (k + 1)) b4 [some v] s)) = _
  have e : execs (callF T (k + 1)) b4 [some v] s = .rt (.bl (isI v 0 (B - 1))) s := by
    unfold b4
    simp only [Fe.bind_ok, Fe.bind_exc, Fe.lift_ok, Fe.lift_exc, Fe.seq_nx, Fe.seq_rt, Fe.seq_exc, Fe.v_non, Fe.v_bl, Fe.v_int, Fe.v_str, Fe.v_var, Fe.v_con, Fe.v_bin, Fe.v_neg, Fe.v_cmp, Fe.v_chn, Fe.v_and, Fe.v_or, Fe.v_not, Fe.v_ite, Fe.v_tup, Fe.v_lst, Fe.v_ix, Fe.v_sl, Fe.v_call, Fe.v_bi, Fe.v_isi, Fe.v_me, Fe.v_lc, Fe.v_dct, Fe.v_rev, Fe.o_no, Fe.o_int, Fe.o_var, Fe.o_bin, Fe.o_neg, Fe.o_ite, Fe.asI_int, Fe.t_no, Fe.t_cmp, Fe.t_chn, Fe.t_and, Fe.t_or, Fe.t_not, Fe.t_call, Fe.t_var, Fe.t_isi, Fe.t_bi, Fe.sems_nil, Fe.sems_cons, Fe.args_nil, Fe.args_cons, Fe.andV_1, Fe.andV_2, Fe.orV_1, Fe.orV_2, Fe.andT_1, Fe.andT_2, Fe.orT_1, Fe.orT_2, Fe.i_rng, Fe.i_tup, Fe.i_var, Fe.x_nil, Fe.x_cons, Fe.x_set, Fe.x_ret, Fe.x_expr, Fe.x_ite, Fe.x_sub, Fe.x_par, Fe.x_asg, Fe.x_for, Fe.x_rais, lk_0, lk_s, int_int, add_int, Cm.f, Ar.f, Bi.f, Me.f, Me.T, liftT, List.set_cons_succ, List.set_cons_zero, f15 g, tru_bl]
    cases K with
    | int i =>
      simp only [ge_, and_bl, Fe.bind_ok, Fe.bind_exc, Fe.lift_ok, Fe.lift_exc, Fe.seq_nx, Fe.seq_rt, Fe.seq_exc, Fe.v_non, Fe.v_bl, Fe.v_int, Fe.v_str, Fe.v_var, Fe.v_con, Fe.v_bin, Fe.v_neg, Fe.v_cmp, Fe.v_chn, Fe.v_and, Fe.v_or, Fe.v_not, Fe.v_ite, Fe.v_tup, Fe.v_lst, Fe.v_ix, Fe.v_sl, Fe.v_call, Fe.v_bi, Fe.v_isi, Fe.v_me, Fe.v_lc, Fe.v_dct, Fe.v_rev, Fe.o_no, Fe.o_int, Fe.o_var, Fe.o_bin, Fe.o_neg, Fe.o_ite, Fe.asI_int, Fe.t_no, Fe.t_cmp, Fe.t_chn, Fe.t_and, Fe.t_or, Fe.t_not, Fe.t_call, Fe.t_var, Fe.t_isi, Fe.t_bi, Fe.sems_nil, Fe.sems_cons, Fe.args_nil, Fe.args_cons, Fe.andV_1, Fe.andV_2, Fe.orV_1, Fe.orV_2, Fe.andT_1, Fe.andT_2, Fe.orT_1, Fe.orT_2, Fe.i_rng, Fe.i_tup, Fe.i_var, Fe.x_nil, Fe.x_cons, Fe.x_set, Fe.x_ret, Fe.x_expr, Fe.x_ite, Fe.x_sub, Fe.x_par, Fe.x_asg, Fe.x_for, Fe.x_rais, lk_0, lk_s, int_int, add_int, Cm.f, Ar.f, Bi.f, Me.f, Me.T, liftT, List.set_cons_succ, List.set_cons_zero]
      congr 2
      unfold isI B
      rw [Bool.eq_iff_iff]
      simp
      omega
    | _ => rfl
  rw [e]; exact ret_bl
theorem f19 (g : Good s v) : callF T (k + 2) 19 [v, .int 3] s = .ok (.bl (isI v 0 2)) s := by
  have K := g
  obtain ⟨t, ht⟩ := K
  have K := Kind.of ht
  rw [call_at (d := t19) rfl rfl]
  show trimO s (retO (execs (callF T (k + 1)) b19 [some v, some (.int 3)] s)) = _
  have e : execs (callF T (k + 1)) b19 [some v, some (.int 3)] s = .rt (.bl (isI v 0 2)) s := by
    unfold b19
    simp only [Fe.bind_ok, Fe.bind_exc, Fe.lift_ok, Fe.lift_exc, Fe.seq_nx, Fe.seq_rt, Fe.seq_exc, Fe.v_non, Fe.v_bl, Fe.v_int, Fe.v_str, Fe.v_var, Fe.v_con, Fe.v_bin, Fe.v_neg, Fe.v_cmp, Fe.v_chn, Fe.v_and, Fe.v_or, Fe.v_not, Fe.v_ite, Fe.v_tup, Fe.v_lst, Fe.v_ix, Fe.v_sl, Fe.v_call, Fe.v_bi, Fe.v_isi, Fe.v_me, Fe.v_lc, Fe.v_dct, Fe.v_rev, Fe.o_no, Fe.o_int, Fe.o_var, Fe.o_bin, Fe.o_neg, Fe.o_ite, Fe.asI_int, Fe.t_no, Fe.t_cmp, Fe.t_chn, Fe.t_and, Fe.t_or, Fe.t_not, Fe.t_call, Fe.t_var, Fe.t_isi, Fe.t_bi, Fe.sems_nil, Fe.sems_cons, Fe.args_nil, Fe.args_cons, Fe.andV_1, Fe.andV_2, Fe.orV_1, Fe.orV_2, Fe.andT_1, Fe.andT_2, Fe.orT_1, Fe.orT_2, Fe.i_rng, Fe.i_tup, Fe.i_var, Fe.x_nil, Fe.x_cons, Fe.x_set, Fe.x_ret, Fe.x_expr, Fe.x_ite, Fe.x_sub, Fe.x_par, Fe.x_asg, Fe.x_for, Fe.x_rais, lk_0, lk_s, int_int, add_int, Cm.f, Ar.f, Bi.f, Me.f, Me.T, liftT, List.set_cons_succ, List.set_cons_zero, f15 g, tru_bl]
    cases K with
    | int i =>
      simp only [le_, lt_, asB_bl, dec_and, and_bl, Fe.bind_ok, Fe.bind_exc, Fe.lift_ok, Fe.lift_exc, Fe.seq_nx, Fe.seq_rt, Fe.seq_exc, Fe.v_non, Fe.v_bl, Fe.v_int, Fe.v_str, Fe.v_var, Fe.v_con, Fe.v_bin, Fe.v_neg, Fe.v_cmp, Fe.v_chn, Fe.v_and, Fe.v_or, Fe.v_not, Fe.v_ite, Fe.v_tup, Fe.v_lst, Fe.v_ix, Fe.v_sl, Fe.v_call, Fe.v_bi, Fe.v_isi, Fe.v_me, Fe.v_lc, Fe.v_dct, Fe.v_rev, Fe.o_no, Fe.o_int, Fe.o_var, Fe.o_bin, Fe.o_neg, Fe.o_ite, Fe.asI_int, Fe.t_no, Fe.t_cmp, Fe.t_chn, Fe.t_and, Fe.t_or, Fe.t_not, Fe.t_call, Fe.t_var, Fe.t_isi, Fe.t_bi, Fe.sems_nil, Fe.sems_cons, Fe.args_nil, Fe.args_cons, Fe.andV_1, Fe.andV_2, Fe.orV_1, Fe.orV_2, Fe.andT_1, Fe.andT_2, Fe.orT_1, Fe.orT_2, Fe.i_rng, Fe.i_tup, Fe.i_var, Fe.x_nil, Fe.x_cons, Fe.x_set, Fe.x_ret, Fe.x_expr, Fe.x_ite, Fe.x_sub, Fe.x_par, Fe.x_asg, Fe.x_for, Fe.x_rais, lk_0, lk_s, int_int, add_int, Cm.f, Ar.f, Bi.f, Me.f, Me.T, liftT, List.set_cons_succ, List.set_cons_zero]
      congr 2
      unfold isI B
      rw [Bool.eq_iff_iff]
      simp
      omega
    | _ => rfl
  rw [e]; exact ret_bl
theorem mkT2 {a b : D} : mkTup [a, b] s = .ok (.tup [a, b]) s := rfl
abbrev wB : List Nat := [98, 97, 99, 107]
abbrev wF : List Nat := [102, 114, 111, 110, 116]
abbrev wK : List Nat := [107, 101, 112, 116]
abbrev wN : List Nat := [110, 101, 119]
theorem f5 (g : Good s v) : callF T (k + 1) 5 [v] s = .ok (.bl (isT v [wB, wF])) s := by
  obtain ⟨t, ht⟩ := g
  have K := Kind.of ht
  obtain ⟨_, _, _, _, _, _, _, _, _, a1, a2, a3, a4, a5, a6, a7, _⟩ := ty_tab
  rw [call_at (d := t5) rfl rfl]
  show trimO s (retO (execs (callF T k) b5 [some v] s)) = _
  have e : execs (callF T k) b5 [some v] s = .rt (.bl (isT v [wB, wF])) s := by
    unfold b5
    cases K with
    | str c =>
      have h1 : opIn (.str c) (.tup [.str wB, .str wF]) s = .ok (.bl ([wB, wF].contains c)) s := in_tup [wB, wF]
      simp only [Fe.bind_ok, Fe.bind_exc, Fe.lift_ok, Fe.lift_exc, Fe.seq_nx, Fe.seq_rt, Fe.seq_exc, Fe.v_non, Fe.v_bl, Fe.v_int, Fe.v_str, Fe.v_var, Fe.v_con, Fe.v_bin, Fe.v_neg, Fe.v_cmp, Fe.v_chn, Fe.v_and, Fe.v_or, Fe.v_not, Fe.v_ite, Fe.v_tup, Fe.v_lst, Fe.v_ix, Fe.v_sl, Fe.v_call, Fe.v_bi, Fe.v_isi, Fe.v_me, Fe.v_lc, Fe.v_dct, Fe.v_rev, Fe.o_no, Fe.o_int, Fe.o_var, Fe.o_bin, Fe.o_neg, Fe.o_ite, Fe.asI_int, Fe.t_no, Fe.t_cmp, Fe.t_chn, Fe.t_and, Fe.t_or, Fe.t_not, Fe.t_call, Fe.t_var, Fe.t_isi, Fe.t_bi, Fe.sems_nil, Fe.sems_cons, Fe.args_nil, Fe.args_cons, Fe.andV_1, Fe.andV_2, Fe.orV_1, Fe.orV_2, Fe.andT_1, Fe.andT_2, Fe.orT_1, Fe.orT_2, Fe.i_rng, Fe.i_tup, Fe.i_var, Fe.x_nil, Fe.x_cons, Fe.x_set, Fe.x_ret, Fe.x_expr, Fe.x_ite, Fe.x_sub, Fe.x_par, Fe.x_asg, Fe.x_for, Fe.x_rais, lk_0, lk_s, int_int, add_int, Cm.f, Ar.f, Bi.f, Me.f, Me.T, liftT, List.set_cons_succ, List.set_cons_zero, isi_at ht, a4, tru_bl, if_true, mkT2, h1, isT]
    | _ => simp only [Fe.bind_ok, Fe.bind_exc, Fe.lift_ok, Fe.lift_exc, Fe.seq_nx, Fe.seq_rt, Fe.seq_exc, Fe.v_non, Fe.v_bl, Fe.v_int, Fe.v_str, Fe.v_var, Fe.v_con, Fe.v_bin, Fe.v_neg, Fe.v_cmp, Fe.v_chn, Fe.v_and, Fe.v_or, Fe.v_not, Fe.v_ite, Fe.v_tup, Fe.v_lst, Fe.v_ix, Fe.v_sl, Fe.v_call, Fe.v_bi, Fe.v_isi, Fe.v_me, Fe.v_lc, Fe.v_dct, Fe.v_rev, Fe.o_no, Fe.o_int, Fe.o_var, Fe.o_bin, Fe.o_neg, Fe.o_ite, Fe.asI_int, Fe.t_no, Fe.t_cmp, Fe.t_chn, Fe.t_and, Fe.t_or, Fe.t_not, Fe.t_call, Fe.t_var, Fe.t_isi, Fe.t_bi, Fe.sems_nil, Fe.sems_cons, Fe.args_nil, Fe.args_cons, Fe.andV_1, Fe.andV_2, Fe.orV_1, Fe.orV_2, Fe.andT_1, Fe.andT_2, Fe.orT_1, Fe.orT_2, Fe.i_rng, Fe.i_tup, Fe.i_var, Fe.x_nil, Fe.x_cons, Fe.x_set, Fe.x_ret, Fe.x_expr, Fe.x_ite, Fe.x_sub, Fe.x_par, Fe.x_asg, Fe.x_for, Fe.x_rais, lk_0, lk_s, int_int, add_int, Cm.f, Ar.f, Bi.f, Me.f, Me.T, liftT, List.set_cons_succ, List.set_cons_zero, isi_at ht, a1, a2, a3, a5, a6, a7, tru_bl, bfalse, if_false]; rfl
  rw [e]; exact ret_bl
theorem f6 (g : Good s v) : callF T (k + 1) 6 [v] s = .ok (.bl (isT v [wK, wN])) s := by
  obtain ⟨t, ht⟩ := g
  have K := Kind.of ht
  obtain ⟨_, _, _, _, _, _, _, _, _, a1, a2, a3, a4, a5, a6, a7, _⟩ := ty_tab
  rw [call_at (d := t6) rfl rfl]
  show trimO s (retO (execs (callF T k) b6 [some v] s)) = _
  have e : execs (callF T k) b6 [some v] s = .rt (.bl (isT v [wK, wN])) s := by
    unfold b6
    cases K with
    | str c =>
      have h1 : opIn (.str c) (.tup [.str wK, .str wN]) s = .ok (.bl ([wK, wN].contains c)) s := in_tup [wK, wN]
      simp only [Fe.bind_ok, Fe.bind_exc, Fe.lift_ok, Fe.lift_exc, Fe.seq_nx, Fe.seq_rt, Fe.seq_exc, Fe.v_non, Fe.v_bl, Fe.v_int, Fe.v_str, Fe.v_var, Fe.v_con, Fe.v_bin, Fe.v_neg, Fe.v_cmp, Fe.v_chn, Fe.v_and, Fe.v_or, Fe.v_not, Fe.v_ite, Fe.v_tup, Fe.v_lst, Fe.v_ix, Fe.v_sl, Fe.v_call, Fe.v_bi, Fe.v_isi, Fe.v_me, Fe.v_lc, Fe.v_dct, Fe.v_rev, Fe.o_no, Fe.o_int, Fe.o_var, Fe.o_bin, Fe.o_neg, Fe.o_ite, Fe.asI_int, Fe.t_no, Fe.t_cmp, Fe.t_chn, Fe.t_and, Fe.t_or, Fe.t_not, Fe.t_call, Fe.t_var, Fe.t_isi, Fe.t_bi, Fe.sems_nil, Fe.sems_cons, Fe.args_nil, Fe.args_cons, Fe.andV_1, Fe.andV_2, Fe.orV_1, Fe.orV_2, Fe.andT_1, Fe.andT_2, Fe.orT_1, Fe.orT_2, Fe.i_rng, Fe.i_tup, Fe.i_var, Fe.x_nil, Fe.x_cons, Fe.x_set, Fe.x_ret, Fe.x_expr, Fe.x_ite, Fe.x_sub, Fe.x_par, Fe.x_asg, Fe.x_for, Fe.x_rais, lk_0, lk_s, int_int, add_int, Cm.f, Ar.f, Bi.f, Me.f, Me.T, liftT, List.set_cons_succ, List.set_cons_zero, isi_at ht, a4, tru_bl, if_true, mkT2, h1, isT]
    | _ => simp only [Fe.bind_ok, Fe.bind_exc, Fe.lift_ok, Fe.lift_exc, Fe.seq_nx, Fe.seq_rt, Fe.seq_exc, Fe.v_non, Fe.v_bl, Fe.v_int, Fe.v_str, Fe.v_var, Fe.v_con, Fe.v_bin, Fe.v_neg, Fe.v_cmp, Fe.v_chn, Fe.v_and, Fe.v_or, Fe.v_not, Fe.v_ite, Fe.v_tup, Fe.v_lst, Fe.v_ix, Fe.v_sl, Fe.v_call, Fe.v_bi, Fe.v_isi, Fe.v_me, Fe.v_lc, Fe.v_dct, Fe.v_rev, Fe.o_no, Fe.o_int, Fe.o_var, Fe.o_bin, Fe.o_neg, Fe.o_ite, Fe.asI_int, Fe.t_no, Fe.t_cmp, Fe.t_chn, Fe.t_and, Fe.t_or, Fe.t_not, Fe.t_call, Fe.t_var, Fe.t_isi, Fe.t_bi, Fe.sems_nil, Fe.sems_cons, Fe.args_nil, Fe.args_cons, Fe.andV_1, Fe.andV_2, Fe.orV_1, Fe.orV_2, Fe.andT_1, Fe.andT_2, Fe.orT_1, Fe.orT_2, Fe.i_rng, Fe.i_tup, Fe.i_var, Fe.x_nil, Fe.x_cons, Fe.x_set, Fe.x_ret, Fe.x_expr, Fe.x_ite, Fe.x_sub, Fe.x_par, Fe.x_asg, Fe.x_for, Fe.x_rais, lk_0, lk_s, int_int, add_int, Cm.f, Ar.f, Bi.f, Me.f, Me.T, liftT, List.set_cons_succ, List.set_cons_zero, isi_at ht, a1, a2, a3, a5, a6, a7, tru_bl, bfalse, if_false]; rfl
  rw [e]; exact ret_bl

abbrev wOn : List Nat := [111, 110]
abbrev wSl : List Nat := [115, 108, 101, 101, 112]
abbrev wWay : List Nat := [119, 97, 121]
abbrev wEnd : List Nat := [101, 110, 100]
abbrev wBell : List Nat := [98, 101, 108, 108]
abbrev wTi : List Nat := [116, 105, 99, 107, 115]
abbrev wUs : List Nat := [117, 115, 101, 100]
abbrev wWa : List Nat := [119, 97, 107, 101]
abbrev wLo : List Nat := [108, 111, 115, 116]
abbrev wTa : List Nat := [116, 97, 107, 101, 115]
abbrev wCo : List Nat := [99, 111, 109, 101]
theorem f7 (g : Good s v) : callF T (k + 1) 7 [v] s = .ok (.bl (isT v [wOn, wSl, wWay, wEnd, wBell])) s := by
  obtain ⟨t, ht⟩ := g
  have K := Kind.of ht
  obtain ⟨_, _, _, _, _, _, _, _, _, a1, a2, a3, a4, a5, a6, a7, _⟩ := ty_tab
  rw [call_at (d := t7) rfl rfl]
  show trimO s (retO (execs (callF T k) b7 [some v] s)) = _
  have e : execs (callF T k) b7 [some v] s = .rt (.bl (isT v [wOn, wSl, wWay, wEnd, wBell])) s := by
    unfold b7
    cases K with
    | str c =>
      have h1 : opIn (.str c) (.tup [.str wOn, .str wSl, .str wWay, .str wEnd]) s = .ok (.bl ([wOn, wSl, wWay, wEnd].contains c)) s := in_tup [wOn, wSl, wWay, wEnd]
      simp only [Fe.bind_ok, Fe.bind_exc, Fe.lift_ok, Fe.lift_exc, Fe.seq_nx, Fe.seq_rt, Fe.seq_exc, Fe.v_non, Fe.v_bl, Fe.v_int, Fe.v_str, Fe.v_var, Fe.v_con, Fe.v_bin, Fe.v_neg, Fe.v_cmp, Fe.v_chn, Fe.v_and, Fe.v_or, Fe.v_not, Fe.v_ite, Fe.v_tup, Fe.v_lst, Fe.v_ix, Fe.v_sl, Fe.v_call, Fe.v_bi, Fe.v_isi, Fe.v_me, Fe.v_lc, Fe.v_dct, Fe.v_rev, Fe.o_no, Fe.o_int, Fe.o_var, Fe.o_bin, Fe.o_neg, Fe.o_ite, Fe.asI_int, Fe.t_no, Fe.t_cmp, Fe.t_chn, Fe.t_and, Fe.t_or, Fe.t_not, Fe.t_call, Fe.t_var, Fe.t_isi, Fe.t_bi, Fe.sems_nil, Fe.sems_cons, Fe.args_nil, Fe.args_cons, Fe.andV_1, Fe.andV_2, Fe.orV_1, Fe.orV_2, Fe.andT_1, Fe.andT_2, Fe.orT_1, Fe.orT_2, Fe.i_rng, Fe.i_tup, Fe.i_var, Fe.x_nil, Fe.x_cons, Fe.x_set, Fe.x_ret, Fe.x_expr, Fe.x_ite, Fe.x_sub, Fe.x_par, Fe.x_asg, Fe.x_for, Fe.x_rais, lk_0, lk_s, int_int, add_int, Cm.f, Ar.f, Bi.f, Me.f, Me.T, liftT, List.set_cons_succ, List.set_cons_zero, isi_at ht, a4, tru_bl, if_true, h1, eq_str, or_bl, isT]
      congr 2
      simp only [List.contains_cons, List.contains_nil, Bool.or_false, Bool.or_assoc]
    | _ => simp only [Fe.bind_ok, Fe.bind_exc, Fe.lift_ok, Fe.lift_exc, Fe.seq_nx, Fe.seq_rt, Fe.seq_exc, Fe.v_non, Fe.v_bl, Fe.v_int, Fe.v_str, Fe.v_var, Fe.v_con, Fe.v_bin, Fe.v_neg, Fe.v_cmp, Fe.v_chn, Fe.v_and, Fe.v_or, Fe.v_not, Fe.v_ite, Fe.v_tup, Fe.v_lst, Fe.v_ix, Fe.v_sl, Fe.v_call, Fe.v_bi, Fe.v_isi, Fe.v_me, Fe.v_lc, Fe.v_dct, Fe.v_rev, Fe.o_no, Fe.o_int, Fe.o_var, Fe.o_bin, Fe.o_neg, Fe.o_ite, Fe.asI_int, Fe.t_no, Fe.t_cmp, Fe.t_chn, Fe.t_and, Fe.t_or, Fe.t_not, Fe.t_call, Fe.t_var, Fe.t_isi, Fe.t_bi, Fe.sems_nil, Fe.sems_cons, Fe.args_nil, Fe.args_cons, Fe.andV_1, Fe.andV_2, Fe.orV_1, Fe.orV_2, Fe.andT_1, Fe.andT_2, Fe.orT_1, Fe.orT_2, Fe.i_rng, Fe.i_tup, Fe.i_var, Fe.x_nil, Fe.x_cons, Fe.x_set, Fe.x_ret, Fe.x_expr, Fe.x_ite, Fe.x_sub, Fe.x_par, Fe.x_asg, Fe.x_for, Fe.x_rais, lk_0, lk_s, int_int, add_int, Cm.f, Ar.f, Bi.f, Me.f, Me.T, liftT, List.set_cons_succ, List.set_cons_zero, isi_at ht, a1, a2, a3, a5, a6, a7, tru_bl, bfalse, if_false]; rfl
  rw [e]; exact ret_bl
theorem f16 (g : Good s v) : callF T (k + 1) 16 [v] s = .ok (.bl (isT v [wTi, wUs, wWa, wWay, wLo, wTa])) s := by
  obtain ⟨t, ht⟩ := g
  have K := Kind.of ht
  obtain ⟨_, _, _, _, _, _, _, _, _, a1, a2, a3, a4, a5, a6, a7, _⟩ := ty_tab
  rw [call_at (d := t16) rfl rfl]
  show trimO s (retO (execs (callF T k) b16 [some v] s)) = _
  have e : execs (callF T k) b16 [some v] s = .rt (.bl (isT v [wTi, wUs, wWa, wWay, wLo, wTa])) s := by
    unfold b16
    cases K with
    | str c =>
      have h1 : opIn (.str c) (.tup [.str wTi, .str wUs, .str wWa, .str wWay, .str wLo, .str wTa]) s = .ok (.bl ([wTi, wUs, wWa, wWay, wLo, wTa].contains c)) s := in_tup [wTi, wUs, wWa, wWay, wLo, wTa]
      simp only [Fe.bind_ok, Fe.bind_exc, Fe.lift_ok, Fe.lift_exc, Fe.seq_nx, Fe.seq_rt, Fe.seq_exc, Fe.v_non, Fe.v_bl, Fe.v_int, Fe.v_str, Fe.v_var, Fe.v_con, Fe.v_bin, Fe.v_neg, Fe.v_cmp, Fe.v_chn, Fe.v_and, Fe.v_or, Fe.v_not, Fe.v_ite, Fe.v_tup, Fe.v_lst, Fe.v_ix, Fe.v_sl, Fe.v_call, Fe.v_bi, Fe.v_isi, Fe.v_me, Fe.v_lc, Fe.v_dct, Fe.v_rev, Fe.o_no, Fe.o_int, Fe.o_var, Fe.o_bin, Fe.o_neg, Fe.o_ite, Fe.asI_int, Fe.t_no, Fe.t_cmp, Fe.t_chn, Fe.t_and, Fe.t_or, Fe.t_not, Fe.t_call, Fe.t_var, Fe.t_isi, Fe.t_bi, Fe.sems_nil, Fe.sems_cons, Fe.args_nil, Fe.args_cons, Fe.andV_1, Fe.andV_2, Fe.orV_1, Fe.orV_2, Fe.andT_1, Fe.andT_2, Fe.orT_1, Fe.orT_2, Fe.i_rng, Fe.i_tup, Fe.i_var, Fe.x_nil, Fe.x_cons, Fe.x_set, Fe.x_ret, Fe.x_expr, Fe.x_ite, Fe.x_sub, Fe.x_par, Fe.x_asg, Fe.x_for, Fe.x_rais, lk_0, lk_s, int_int, add_int, Cm.f, Ar.f, Bi.f, Me.f, Me.T, liftT, List.set_cons_succ, List.set_cons_zero, isi_at ht, a4, tru_bl, if_true, h1, isT]
    | _ => simp only [Fe.bind_ok, Fe.bind_exc, Fe.lift_ok, Fe.lift_exc, Fe.seq_nx, Fe.seq_rt, Fe.seq_exc, Fe.v_non, Fe.v_bl, Fe.v_int, Fe.v_str, Fe.v_var, Fe.v_con, Fe.v_bin, Fe.v_neg, Fe.v_cmp, Fe.v_chn, Fe.v_and, Fe.v_or, Fe.v_not, Fe.v_ite, Fe.v_tup, Fe.v_lst, Fe.v_ix, Fe.v_sl, Fe.v_call, Fe.v_bi, Fe.v_isi, Fe.v_me, Fe.v_lc, Fe.v_dct, Fe.v_rev, Fe.o_no, Fe.o_int, Fe.o_var, Fe.o_bin, Fe.o_neg, Fe.o_ite, Fe.asI_int, Fe.t_no, Fe.t_cmp, Fe.t_chn, Fe.t_and, Fe.t_or, Fe.t_not, Fe.t_call, Fe.t_var, Fe.t_isi, Fe.t_bi, Fe.sems_nil, Fe.sems_cons, Fe.args_nil, Fe.args_cons, Fe.andV_1, Fe.andV_2, Fe.orV_1, Fe.orV_2, Fe.andT_1, Fe.andT_2, Fe.orT_1, Fe.orT_2, Fe.i_rng, Fe.i_tup, Fe.i_var, Fe.x_nil, Fe.x_cons, Fe.x_set, Fe.x_ret, Fe.x_expr, Fe.x_ite, Fe.x_sub, Fe.x_par, Fe.x_asg, Fe.x_for, Fe.x_rais, lk_0, lk_s, int_int, add_int, Cm.f, Ar.f, Bi.f, Me.f, Me.T, liftT, List.set_cons_succ, List.set_cons_zero, isi_at ht, a1, a2, a3, a5, a6, a7, tru_bl, bfalse, if_false]; rfl
  rw [e]; exact ret_bl
/-- whole, text: the law's own words for it -/
theorem f8 (g : Good s v) {lo hi : Int} : callF T (k + 1) 8 [v, .int lo, .int hi] s = .ok (.bl (isI v lo hi)) s := by
  obtain ⟨t, ht⟩ := g
  have K := Kind.of ht
  obtain ⟨a1, a2, a3, a4, a5, a6, a7, a8, a9, _⟩ := ty_tab
  rw [call_at (d := t8) rfl rfl]
  show trimO s (retO (execs (callF T k) b8 [some v, some (.int lo), some (.int hi)] s)) = _
  have e : execs (callF T k) b8 [some v, some (.int lo), some (.int hi)] s = .rt (.bl (isI v lo hi)) s := by
    unfold b8
    cases K with
    | int i => simp only [Fe.bind_ok, Fe.bind_exc, Fe.lift_ok, Fe.lift_exc, Fe.seq_nx, Fe.seq_rt, Fe.seq_exc, Fe.v_non, Fe.v_bl, Fe.v_int, Fe.v_str, Fe.v_var, Fe.v_con, Fe.v_bin, Fe.v_neg, Fe.v_cmp, Fe.v_chn, Fe.v_and, Fe.v_or, Fe.v_not, Fe.v_ite, Fe.v_tup, Fe.v_lst, Fe.v_ix, Fe.v_sl, Fe.v_call, Fe.v_bi, Fe.v_isi, Fe.v_me, Fe.v_lc, Fe.v_dct, Fe.v_rev, Fe.o_no, Fe.o_int, Fe.o_var, Fe.o_bin, Fe.o_neg, Fe.o_ite, Fe.asI_int, Fe.t_no, Fe.t_cmp, Fe.t_chn, Fe.t_and, Fe.t_or, Fe.t_not, Fe.t_call, Fe.t_var, Fe.t_isi, Fe.t_bi, Fe.sems_nil, Fe.sems_cons, Fe.args_nil, Fe.args_cons, Fe.andV_1, Fe.andV_2, Fe.orV_1, Fe.orV_2, Fe.andT_1, Fe.andT_2, Fe.orT_1, Fe.orT_2, Fe.i_rng, Fe.i_tup, Fe.i_var, Fe.x_nil, Fe.x_cons, Fe.x_set, Fe.x_ret, Fe.x_expr, Fe.x_ite, Fe.x_sub, Fe.x_par, Fe.x_asg, Fe.x_for, Fe.x_rais, lk_0, lk_s, int_int, add_int, Cm.f, Ar.f, Bi.f, Me.f, Me.T, liftT, List.set_cons_succ, List.set_cons_zero, isi_at ht, a3, a9, tru_bl, if_true, Bool.not_false, le_, asB_bl, dec_and, isI]
    | bl b => simp only [Fe.bind_ok, Fe.bind_exc, Fe.lift_ok, Fe.lift_exc, Fe.seq_nx, Fe.seq_rt, Fe.seq_exc, Fe.v_non, Fe.v_bl, Fe.v_int, Fe.v_str, Fe.v_var, Fe.v_con, Fe.v_bin, Fe.v_neg, Fe.v_cmp, Fe.v_chn, Fe.v_and, Fe.v_or, Fe.v_not, Fe.v_ite, Fe.v_tup, Fe.v_lst, Fe.v_ix, Fe.v_sl, Fe.v_call, Fe.v_bi, Fe.v_isi, Fe.v_me, Fe.v_lc, Fe.v_dct, Fe.v_rev, Fe.o_no, Fe.o_int, Fe.o_var, Fe.o_bin, Fe.o_neg, Fe.o_ite, Fe.asI_int, Fe.t_no, Fe.t_cmp, Fe.t_chn, Fe.t_and, Fe.t_or, Fe.t_not, Fe.t_call, Fe.t_var, Fe.t_isi, Fe.t_bi, Fe.sems_nil, Fe.sems_cons, Fe.args_nil, Fe.args_cons, Fe.andV_1, Fe.andV_2, Fe.orV_1, Fe.orV_2, Fe.andT_1, Fe.andT_2, Fe.orT_1, Fe.orT_2, Fe.i_rng, Fe.i_tup, Fe.i_var, Fe.x_nil, Fe.x_cons, Fe.x_set, Fe.x_ret, Fe.x_expr, Fe.x_ite, Fe.x_sub, Fe.x_par, Fe.x_asg, Fe.x_for, Fe.x_rais, lk_0, lk_s, int_int, add_int, Cm.f, Ar.f, Bi.f, Me.f, Me.T, liftT, List.set_cons_succ, List.set_cons_zero, isi_at ht, a2, a8, tru_bl, if_true, Bool.not_true, bfalse, if_false]; rfl
    | _ => simp only [Fe.bind_ok, Fe.bind_exc, Fe.lift_ok, Fe.lift_exc, Fe.seq_nx, Fe.seq_rt, Fe.seq_exc, Fe.v_non, Fe.v_bl, Fe.v_int, Fe.v_str, Fe.v_var, Fe.v_con, Fe.v_bin, Fe.v_neg, Fe.v_cmp, Fe.v_chn, Fe.v_and, Fe.v_or, Fe.v_not, Fe.v_ite, Fe.v_tup, Fe.v_lst, Fe.v_ix, Fe.v_sl, Fe.v_call, Fe.v_bi, Fe.v_isi, Fe.v_me, Fe.v_lc, Fe.v_dct, Fe.v_rev, Fe.o_no, Fe.o_int, Fe.o_var, Fe.o_bin, Fe.o_neg, Fe.o_ite, Fe.asI_int, Fe.t_no, Fe.t_cmp, Fe.t_chn, Fe.t_and, Fe.t_or, Fe.t_not, Fe.t_call, Fe.t_var, Fe.t_isi, Fe.t_bi, Fe.sems_nil, Fe.sems_cons, Fe.args_nil, Fe.args_cons, Fe.andV_1, Fe.andV_2, Fe.orV_1, Fe.orV_2, Fe.andT_1, Fe.andT_2, Fe.orT_1, Fe.orT_2, Fe.i_rng, Fe.i_tup, Fe.i_var, Fe.x_nil, Fe.x_cons, Fe.x_set, Fe.x_ret, Fe.x_expr, Fe.x_ite, Fe.x_sub, Fe.x_par, Fe.x_asg, Fe.x_for, Fe.x_rais, lk_0, lk_s, int_int, add_int, Cm.f, Ar.f, Bi.f, Me.f, Me.T, liftT, List.set_cons_succ, List.set_cons_zero, isi_at ht, a1, a4, a5, a6, a7, tru_bl, bfalse, if_false]; rfl
  rw [e]; exact ret_bl
theorem f9 (g : Good s v) {j : Nat} (l : List (List Nat)) (h : s[j]? = some (.lst (l.map D.str))) : callF T (k + 1) 9 [v, .ref j] s = .ok (.bl (isT v l)) s := by
  obtain ⟨t, ht⟩ := g
  have K := Kind.of ht
  obtain ⟨_, _, _, _, _, _, _, _, _, a1, a2, a3, a4, a5, a6, a7, _⟩ := ty_tab
  rw [call_at (d := t9) rfl rfl]
  show trimO s (retO (execs (callF T k) b9 [some v, some (.ref j)] s)) = _
  have e : execs (callF T k) b9 [some v, some (.ref j)] s = .rt (.bl (isT v l)) s := by
    unfold b9
    cases K with
    | str c => simp only [Fe.bind_ok, Fe.bind_exc, Fe.lift_ok, Fe.lift_exc, Fe.seq_nx, Fe.seq_rt, Fe.seq_exc, Fe.v_non, Fe.v_bl, Fe.v_int, Fe.v_str, Fe.v_var, Fe.v_con, Fe.v_bin, Fe.v_neg, Fe.v_cmp, Fe.v_chn, Fe.v_and, Fe.v_or, Fe.v_not, Fe.v_ite, Fe.v_tup, Fe.v_lst, Fe.v_ix, Fe.v_sl, Fe.v_call, Fe.v_bi, Fe.v_isi, Fe.v_me, Fe.v_lc, Fe.v_dct, Fe.v_rev, Fe.o_no, Fe.o_int, Fe.o_var, Fe.o_bin, Fe.o_neg, Fe.o_ite, Fe.asI_int, Fe.t_no, Fe.t_cmp, Fe.t_chn, Fe.t_and, Fe.t_or, Fe.t_not, Fe.t_call, Fe.t_var, Fe.t_isi, Fe.t_bi, Fe.sems_nil, Fe.sems_cons, Fe.args_nil, Fe.args_cons, Fe.andV_1, Fe.andV_2, Fe.orV_1, Fe.orV_2, Fe.andT_1, Fe.andT_2, Fe.orT_1, Fe.orT_2, Fe.i_rng, Fe.i_tup, Fe.i_var, Fe.x_nil, Fe.x_cons, Fe.x_set, Fe.x_ret, Fe.x_expr, Fe.x_ite, Fe.x_sub, Fe.x_par, Fe.x_asg, Fe.x_for, Fe.x_rais, lk_0, lk_s, int_int, add_int, Cm.f, Ar.f, Bi.f, Me.f, Me.T, liftT, List.set_cons_succ, List.set_cons_zero, isi_at ht, a4, tru_bl, if_true, in_lst l h, isT]
    | _ => simp only [Fe.bind_ok, Fe.bind_exc, Fe.lift_ok, Fe.lift_exc, Fe.seq_nx, Fe.seq_rt, Fe.seq_exc, Fe.v_non, Fe.v_bl, Fe.v_int, Fe.v_str, Fe.v_var, Fe.v_con, Fe.v_bin, Fe.v_neg, Fe.v_cmp, Fe.v_chn, Fe.v_and, Fe.v_or, Fe.v_not, Fe.v_ite, Fe.v_tup, Fe.v_lst, Fe.v_ix, Fe.v_sl, Fe.v_call, Fe.v_bi, Fe.v_isi, Fe.v_me, Fe.v_lc, Fe.v_dct, Fe.v_rev, Fe.o_no, Fe.o_int, Fe.o_var, Fe.o_bin, Fe.o_neg, Fe.o_ite, Fe.asI_int, Fe.t_no, Fe.t_cmp, Fe.t_chn, Fe.t_and, Fe.t_or, Fe.t_not, Fe.t_call, Fe.t_var, Fe.t_isi, Fe.t_bi, Fe.sems_nil, Fe.sems_cons, Fe.args_nil, Fe.args_cons, Fe.andV_1, Fe.andV_2, Fe.orV_1, Fe.orV_2, Fe.andT_1, Fe.andT_2, Fe.orT_1, Fe.orT_2, Fe.i_rng, Fe.i_tup, Fe.i_var, Fe.x_nil, Fe.x_cons, Fe.x_set, Fe.x_ret, Fe.x_expr, Fe.x_ite, Fe.x_sub, Fe.x_par, Fe.x_asg, Fe.x_for, Fe.x_rais, lk_0, lk_s, int_int, add_int, Cm.f, Ar.f, Bi.f, Me.f, Me.T, liftT, List.set_cons_succ, List.set_cons_zero, isi_at ht, a1, a2, a3, a5, a6, a7, tru_bl, bfalse, if_false]; rfl
  rw [e]; exact ret_bl

theorem Good.app (g : Good s v) {h : Fe.S} : Good (s ++ h) v := by
  obtain ⟨t, ht⟩ := g
  refine ⟨t, ?_⟩
  cases v with
  | ref j =>
    unfold tyOf at ht ⊢
    dsimp only at ht ⊢
    have hl : j < s.length := by
      cases e : s[j]? with
      | none => rw [e] at ht; cases ht
      | some o => exact (List.getElem?_eq_some_iff.mp e).1
    rw [List.getElem?_append_left hl]
    exact ht
  | _ => exact ht
def Deep (s : Fe.S) (v : D) : Prop := Good s v ∧ ∀ l, v = .tup l → ∀ a ∈ l, Good s a
theorem eq_int {a b : Int} : opEq (.int a) (.int b) s = .ok (.bl (decide (a = b))) s := rfl
theorem ne_int {a b : Int} : opNe (.int a) (.int b) s = .ok (.bl (!decide (a = b))) s := rfl
theorem len_tup {l : List D} : biLen [.tup l] s = .ok (.int l.length) s := rfl
def isP (v : D) : Bool := match v with
  | .tup [a, b] => isI a 0 2 && isT b [wB, wF]
  | _ => false
def isTr (v : D) : Bool := match v with
  | .tup [a, b, c] => isI a 0 2 && (isT b [wB, wF] && isT c [wK, wN])
  | _ => false
theorem ix0 {a : D} {l : List D} : opIx (.tup (a :: l)) (.int 0) s = .ok a s := by
  show (match atI (a :: l) 0 with | some d => Out.ok d s | none => .bad) = _
  have : atI (a :: l) 0 = some a := by
    unfold atI ixN
    rw [if_pos (by decide), if_pos (by first | (simp; done) | (simp; omega))]
    rfl
  rw [this]
theorem ix1 {a b : D} {l : List D} : opIx (.tup (a :: b :: l)) (.int 1) s = .ok b s := by
  show (match atI (a :: b :: l) 1 with | some d => Out.ok d s | none => .bad) = _
  have : atI (a :: b :: l) 1 = some b := by
    unfold atI ixN
    rw [if_pos (by decide), if_pos (by first | (simp; done) | (simp; omega))]
    rfl
  rw [this]
theorem ix2 {a b c : D} {l : List D} : opIx (.tup (a :: b :: c :: l)) (.int 2) s = .ok c s := by
  show (match atI (a :: b :: c :: l) 2 with | some d => Out.ok d s | none => .bad) = _
  have : atI (a :: b :: c :: l) 2 = some c := by
    unfold atI ixN
    rw [if_pos (by decide), if_pos (by first | (simp; done) | (simp; omega))]
    rfl
  rw [this]
theorem f17 (g : Deep s v) : callF T (k + 3) 17 [v] s = .ok (.bl (isP v)) s := by
  obtain ⟨⟨t, ht⟩, gd⟩ := g
  have K := Kind.of ht
  obtain ⟨_, _, _, _, _, _, _, _, _, _, _, _, _, _, _, _, a1, a2, a3, a4, a5, a6, a7⟩ := ty_tab
  rw [call_at (d := t17) rfl rfl]
  show trimO s (retO (execs (callF T (k + 2)) b17 [some v] s)) = _
  have e : execs (callF T (k + 2)) b17 [some v] s = .rt (.bl (isP v)) s := by
    unfold b17
    cases K with
    | tup l =>
      simp only [Fe.bind_ok, Fe.bind_exc, Fe.lift_ok, Fe.lift_exc, Fe.seq_nx, Fe.seq_rt, Fe.seq_exc, Fe.v_non, Fe.v_bl, Fe.v_int, Fe.v_str, Fe.v_var, Fe.v_con, Fe.v_bin, Fe.v_neg, Fe.v_cmp, Fe.v_chn, Fe.v_and, Fe.v_or, Fe.v_not, Fe.v_ite, Fe.v_tup, Fe.v_lst, Fe.v_ix, Fe.v_sl, Fe.v_call, Fe.v_bi, Fe.v_isi, Fe.v_me, Fe.v_lc, Fe.v_dct, Fe.v_rev, Fe.o_no, Fe.o_int, Fe.o_var, Fe.o_bin, Fe.o_neg, Fe.o_ite, Fe.asI_int, Fe.t_no, Fe.t_cmp, Fe.t_chn, Fe.t_and, Fe.t_or, Fe.t_not, Fe.t_call, Fe.t_var, Fe.t_isi, Fe.t_bi, Fe.sems_nil, Fe.sems_cons, Fe.args_nil, Fe.args_cons, Fe.andV_1, Fe.andV_2, Fe.orV_1, Fe.orV_2, Fe.andT_1, Fe.andT_2, Fe.orT_1, Fe.orT_2, Fe.i_rng, Fe.i_tup, Fe.i_var, Fe.x_nil, Fe.x_cons, Fe.x_set, Fe.x_ret, Fe.x_expr, Fe.x_ite, Fe.x_sub, Fe.x_par, Fe.x_asg, Fe.x_for, Fe.x_rais, lk_0, lk_s, int_int, add_int, Cm.f, Ar.f, Bi.f, Me.f, Me.T, liftT, List.set_cons_succ, List.set_cons_zero, isi_at ht, a5, tru_bl, if_true, len_tup, eq_int]
      rcases l with _ | ⟨a, _ | ⟨b, _ | ⟨c, l⟩⟩⟩
      · rfl
      · rfl
      · have ga := gd _ rfl a (by simp)
        have gb := gd _ rfl b (by simp)
        have e2 : decide (((([a, b] : List D).length : Nat) : Int) = 2) = true := rfl
        simp only [e2, if_true, ix0, Fe.bind_ok, Fe.bind_exc, Fe.lift_ok, Fe.lift_exc, Fe.seq_nx, Fe.seq_rt, Fe.seq_exc, Fe.v_non, Fe.v_bl, Fe.v_int, Fe.v_str, Fe.v_var, Fe.v_con, Fe.v_bin, Fe.v_neg, Fe.v_cmp, Fe.v_chn, Fe.v_and, Fe.v_or, Fe.v_not, Fe.v_ite, Fe.v_tup, Fe.v_lst, Fe.v_ix, Fe.v_sl, Fe.v_call, Fe.v_bi, Fe.v_isi, Fe.v_me, Fe.v_lc, Fe.v_dct, Fe.v_rev, Fe.o_no, Fe.o_int, Fe.o_var, Fe.o_bin, Fe.o_neg, Fe.o_ite, Fe.asI_int, Fe.t_no, Fe.t_cmp, Fe.t_chn, Fe.t_and, Fe.t_or, Fe.t_not, Fe.t_call, Fe.t_var, Fe.t_isi, Fe.t_bi, Fe.sems_nil, Fe.sems_cons, Fe.args_nil, Fe.args_cons, Fe.andV_1, Fe.andV_2, Fe.orV_1, Fe.orV_2, Fe.andT_1, Fe.andT_2, Fe.orT_1, Fe.orT_2, Fe.i_rng, Fe.i_tup, Fe.i_var, Fe.x_nil, Fe.x_cons, Fe.x_set, Fe.x_ret, Fe.x_expr, Fe.x_ite, Fe.x_sub, Fe.x_par, Fe.x_asg, Fe.x_for, Fe.x_rais, lk_0, lk_s, int_int, add_int, Cm.f, Ar.f, Bi.f, Me.f, Me.T, liftT, List.set_cons_succ, List.set_cons_zero, f19 (k := k) ga, tru_bl]
        by_cases h : isI a 0 2 = true
        · simp only [h, if_true, ix1, Fe.bind_ok, Fe.bind_exc, Fe.lift_ok, Fe.lift_exc, Fe.seq_nx, Fe.seq_rt, Fe.seq_exc, Fe.v_non, Fe.v_bl, Fe.v_int, Fe.v_str, Fe.v_var, Fe.v_con, Fe.v_bin, Fe.v_neg, Fe.v_cmp, Fe.v_chn, Fe.v_and, Fe.v_or, Fe.v_not, Fe.v_ite, Fe.v_tup, Fe.v_lst, Fe.v_ix, Fe.v_sl, Fe.v_call, Fe.v_bi, Fe.v_isi, Fe.v_me, Fe.v_lc, Fe.v_dct, Fe.v_rev, Fe.o_no, Fe.o_int, Fe.o_var, Fe.o_bin, Fe.o_neg, Fe.o_ite, Fe.asI_int, Fe.t_no, Fe.t_cmp, Fe.t_chn, Fe.t_and, Fe.t_or, Fe.t_not, Fe.t_call, Fe.t_var, Fe.t_isi, Fe.t_bi, Fe.sems_nil, Fe.sems_cons, Fe.args_nil, Fe.args_cons, Fe.andV_1, Fe.andV_2, Fe.orV_1, Fe.orV_2, Fe.andT_1, Fe.andT_2, Fe.orT_1, Fe.orT_2, Fe.i_rng, Fe.i_tup, Fe.i_var, Fe.x_nil, Fe.x_cons, Fe.x_set, Fe.x_ret, Fe.x_expr, Fe.x_ite, Fe.x_sub, Fe.x_par, Fe.x_asg, Fe.x_for, Fe.x_rais, lk_0, lk_s, int_int, add_int, Cm.f, Ar.f, Bi.f, Me.f, Me.T, liftT, List.set_cons_succ, List.set_cons_zero, f5 (k := k + 1) gb, isP, Bool.true_and]
        · have h' : isI a 0 2 = false := by simpa using h
          simp only [h', bfalse, if_false, Fe.bind_ok, Fe.bind_exc, Fe.lift_ok, Fe.lift_exc, Fe.seq_nx, Fe.seq_rt, Fe.seq_exc, Fe.v_non, Fe.v_bl, Fe.v_int, Fe.v_str, Fe.v_var, Fe.v_con, Fe.v_bin, Fe.v_neg, Fe.v_cmp, Fe.v_chn, Fe.v_and, Fe.v_or, Fe.v_not, Fe.v_ite, Fe.v_tup, Fe.v_lst, Fe.v_ix, Fe.v_sl, Fe.v_call, Fe.v_bi, Fe.v_isi, Fe.v_me, Fe.v_lc, Fe.v_dct, Fe.v_rev, Fe.o_no, Fe.o_int, Fe.o_var, Fe.o_bin, Fe.o_neg, Fe.o_ite, Fe.asI_int, Fe.t_no, Fe.t_cmp, Fe.t_chn, Fe.t_and, Fe.t_or, Fe.t_not, Fe.t_call, Fe.t_var, Fe.t_isi, Fe.t_bi, Fe.sems_nil, Fe.sems_cons, Fe.args_nil, Fe.args_cons, Fe.andV_1, Fe.andV_2, Fe.orV_1, Fe.orV_2, Fe.andT_1, Fe.andT_2, Fe.orT_1, Fe.orT_2, Fe.i_rng, Fe.i_tup, Fe.i_var, Fe.x_nil, Fe.x_cons, Fe.x_set, Fe.x_ret, Fe.x_expr, Fe.x_ite, Fe.x_sub, Fe.x_par, Fe.x_asg, Fe.x_for, Fe.x_rais, lk_0, lk_s, int_int, add_int, Cm.f, Ar.f, Bi.f, Me.f, Me.T, liftT, List.set_cons_succ, List.set_cons_zero, isP, Bool.false_and]
      · have e2 : decide ((((a :: b :: c :: l : List D).length : Nat) : Int) = 2) = false := by
          rw [decide_eq_false_iff_not]
          simp
          omega
        simp only [e2, bfalse, if_false, Fe.bind_ok, Fe.bind_exc, Fe.lift_ok, Fe.lift_exc, Fe.seq_nx, Fe.seq_rt, Fe.seq_exc, Fe.v_non, Fe.v_bl, Fe.v_int, Fe.v_str, Fe.v_var, Fe.v_con, Fe.v_bin, Fe.v_neg, Fe.v_cmp, Fe.v_chn, Fe.v_and, Fe.v_or, Fe.v_not, Fe.v_ite, Fe.v_tup, Fe.v_lst, Fe.v_ix, Fe.v_sl, Fe.v_call, Fe.v_bi, Fe.v_isi, Fe.v_me, Fe.v_lc, Fe.v_dct, Fe.v_rev, Fe.o_no, Fe.o_int, Fe.o_var, Fe.o_bin, Fe.o_neg, Fe.o_ite, Fe.asI_int, Fe.t_no, Fe.t_cmp, Fe.t_chn, Fe.t_and, Fe.t_or, Fe.t_not, Fe.t_call, Fe.t_var, Fe.t_isi, Fe.t_bi, Fe.sems_nil, Fe.sems_cons, Fe.args_nil, Fe.args_cons, Fe.andV_1, Fe.andV_2, Fe.orV_1, Fe.orV_2, Fe.andT_1, Fe.andT_2, Fe.orT_1, Fe.orT_2, Fe.i_rng, Fe.i_tup, Fe.i_var, Fe.x_nil, Fe.x_cons, Fe.x_set, Fe.x_ret, Fe.x_expr, Fe.x_ite, Fe.x_sub, Fe.x_par, Fe.x_asg, Fe.x_for, Fe.x_rais, lk_0, lk_s, int_int, add_int, Cm.f, Ar.f, Bi.f, Me.f, Me.T, liftT, List.set_cons_succ, List.set_cons_zero]
        rfl
    | _ => simp only [Fe.bind_ok, Fe.bind_exc, Fe.lift_ok, Fe.lift_exc, Fe.seq_nx, Fe.seq_rt, Fe.seq_exc, Fe.v_non, Fe.v_bl, Fe.v_int, Fe.v_str, Fe.v_var, Fe.v_con, Fe.v_bin, Fe.v_neg, Fe.v_cmp, Fe.v_chn, Fe.v_and, Fe.v_or, Fe.v_not, Fe.v_ite, Fe.v_tup, Fe.v_lst, Fe.v_ix, Fe.v_sl, Fe.v_call, Fe.v_bi, Fe.v_isi, Fe.v_me, Fe.v_lc, Fe.v_dct, Fe.v_rev, Fe.o_no, Fe.o_int, Fe.o_var, Fe.o_bin, Fe.o_neg, Fe.o_ite, Fe.asI_int, Fe.t_no, Fe.t_cmp, Fe.t_chn, Fe.t_and, Fe.t_or, Fe.t_not, Fe.t_call, Fe.t_var, Fe.t_isi, Fe.t_bi, Fe.sems_nil, Fe.sems_cons, Fe.args_nil, Fe.args_cons, Fe.andV_1, Fe.andV_2, Fe.orV_1, Fe.orV_2, Fe.andT_1, Fe.andT_2, Fe.orT_1, Fe.orT_2, Fe.i_rng, Fe.i_tup, Fe.i_var, Fe.x_nil, Fe.x_cons, Fe.x_set, Fe.x_ret, Fe.x_expr, Fe.x_ite, Fe.x_sub, Fe.x_par, Fe.x_asg, Fe.x_for, Fe.x_rais, lk_0, lk_s, int_int, add_int, Cm.f, Ar.f, Bi.f, Me.f, Me.T, liftT, List.set_cons_succ, List.set_cons_zero, isi_at ht, a1, a2, a3, a4, a6, a7, tru_bl, bfalse, if_false]; rfl
  rw [e]; exact ret_bl
theorem f18 (g : Deep s v) : callF T (k + 4) 18 [v] s = .ok (.bl (isTr v)) s := by
  obtain ⟨⟨t, ht⟩, gd⟩ := g
  have K := Kind.of ht
  obtain ⟨_, _, _, _, _, _, _, _, _, _, _, _, _, _, _, _, a1, a2, a3, a4, a5, a6, a7⟩ := ty_tab
  rw [call_at (d := t18) rfl rfl]
  show trimO s (retO (execs (callF T (k + 3)) b18 [some v] s)) = _
  have e : execs (callF T (k + 3)) b18 [some v] s = .rt (.bl (isTr v)) s := by
    unfold b18
    cases K with
    | tup l =>
      simp only [Fe.bind_ok, Fe.bind_exc, Fe.lift_ok, Fe.lift_exc, Fe.seq_nx, Fe.seq_rt, Fe.seq_exc, Fe.v_non, Fe.v_bl, Fe.v_int, Fe.v_str, Fe.v_var, Fe.v_con, Fe.v_bin, Fe.v_neg, Fe.v_cmp, Fe.v_chn, Fe.v_and, Fe.v_or, Fe.v_not, Fe.v_ite, Fe.v_tup, Fe.v_lst, Fe.v_ix, Fe.v_sl, Fe.v_call, Fe.v_bi, Fe.v_isi, Fe.v_me, Fe.v_lc, Fe.v_dct, Fe.v_rev, Fe.o_no, Fe.o_int, Fe.o_var, Fe.o_bin, Fe.o_neg, Fe.o_ite, Fe.asI_int, Fe.t_no, Fe.t_cmp, Fe.t_chn, Fe.t_and, Fe.t_or, Fe.t_not, Fe.t_call, Fe.t_var, Fe.t_isi, Fe.t_bi, Fe.sems_nil, Fe.sems_cons, Fe.args_nil, Fe.args_cons, Fe.andV_1, Fe.andV_2, Fe.orV_1, Fe.orV_2, Fe.andT_1, Fe.andT_2, Fe.orT_1, Fe.orT_2, Fe.i_rng, Fe.i_tup, Fe.i_var, Fe.x_nil, Fe.x_cons, Fe.x_set, Fe.x_ret, Fe.x_expr, Fe.x_ite, Fe.x_sub, Fe.x_par, Fe.x_asg, Fe.x_for, Fe.x_rais, lk_0, lk_s, int_int, add_int, Cm.f, Ar.f, Bi.f, Me.f, Me.T, liftT, List.set_cons_succ, List.set_cons_zero, isi_at ht, a5, tru_bl, if_true, len_tup, eq_int]
      rcases l with _ | ⟨a, _ | ⟨b, _ | ⟨c, _ | ⟨d, l⟩⟩⟩⟩
      · rfl
      · rfl
      · rfl
      · have ga := gd _ rfl a (by simp)
        have gb := gd _ rfl b (by simp)
        have gc := gd _ rfl c (by simp)
        have e2 : decide (((([a, b, c] : List D).length : Nat) : Int) = 3) = true := rfl
        have e3 : opSl (.tup [a, b, c]) none (some 2) s = .ok (.tup [a, b]) s := rfl
        have dp : Deep s (.tup [a, b]) := ⟨.tup, fun l h x hx => by
          cases h
          rcases List.mem_cons.mp hx with h | h
          · rw [h]; exact ga
          · rw [List.mem_singleton.mp h]; exact gb⟩
        simp only [e2, if_true, e3, Fe.bind_ok, Fe.bind_exc, Fe.lift_ok, Fe.lift_exc, Fe.seq_nx, Fe.seq_rt, Fe.seq_exc, Fe.v_non, Fe.v_bl, Fe.v_int, Fe.v_str, Fe.v_var, Fe.v_con, Fe.v_bin, Fe.v_neg, Fe.v_cmp, Fe.v_chn, Fe.v_and, Fe.v_or, Fe.v_not, Fe.v_ite, Fe.v_tup, Fe.v_lst, Fe.v_ix, Fe.v_sl, Fe.v_call, Fe.v_bi, Fe.v_isi, Fe.v_me, Fe.v_lc, Fe.v_dct, Fe.v_rev, Fe.o_no, Fe.o_int, Fe.o_var, Fe.o_bin, Fe.o_neg, Fe.o_ite, Fe.asI_int, Fe.t_no, Fe.t_cmp, Fe.t_chn, Fe.t_and, Fe.t_or, Fe.t_not, Fe.t_call, Fe.t_var, Fe.t_isi, Fe.t_bi, Fe.sems_nil, Fe.sems_cons, Fe.args_nil, Fe.args_cons, Fe.andV_1, Fe.andV_2, Fe.orV_1, Fe.orV_2, Fe.andT_1, Fe.andT_2, Fe.orT_1, Fe.orT_2, Fe.i_rng, Fe.i_tup, Fe.i_var, Fe.x_nil, Fe.x_cons, Fe.x_set, Fe.x_ret, Fe.x_expr, Fe.x_ite, Fe.x_sub, Fe.x_par, Fe.x_asg, Fe.x_for, Fe.x_rais, lk_0, lk_s, int_int, add_int, Cm.f, Ar.f, Bi.f, Me.f, Me.T, liftT, List.set_cons_succ, List.set_cons_zero, f17 (k := k) dp, tru_bl]
        by_cases h : isP (.tup [a, b]) = true
        · have h2 : (isI a 0 2 && isT b [wB, wF]) = true := h
          simp only [h, if_true, ix2, Fe.bind_ok, Fe.bind_exc, Fe.lift_ok, Fe.lift_exc, Fe.seq_nx, Fe.seq_rt, Fe.seq_exc, Fe.v_non, Fe.v_bl, Fe.v_int, Fe.v_str, Fe.v_var, Fe.v_con, Fe.v_bin, Fe.v_neg, Fe.v_cmp, Fe.v_chn, Fe.v_and, Fe.v_or, Fe.v_not, Fe.v_ite, Fe.v_tup, Fe.v_lst, Fe.v_ix, Fe.v_sl, Fe.v_call, Fe.v_bi, Fe.v_isi, Fe.v_me, Fe.v_lc, Fe.v_dct, Fe.v_rev, Fe.o_no, Fe.o_int, Fe.o_var, Fe.o_bin, Fe.o_neg, Fe.o_ite, Fe.asI_int, Fe.t_no, Fe.t_cmp, Fe.t_chn, Fe.t_and, Fe.t_or, Fe.t_not, Fe.t_call, Fe.t_var, Fe.t_isi, Fe.t_bi, Fe.sems_nil, Fe.sems_cons, Fe.args_nil, Fe.args_cons, Fe.andV_1, Fe.andV_2, Fe.orV_1, Fe.orV_2, Fe.andT_1, Fe.andT_2, Fe.orT_1, Fe.orT_2, Fe.i_rng, Fe.i_tup, Fe.i_var, Fe.x_nil, Fe.x_cons, Fe.x_set, Fe.x_ret, Fe.x_expr, Fe.x_ite, Fe.x_sub, Fe.x_par, Fe.x_asg, Fe.x_for, Fe.x_rais, lk_0, lk_s, int_int, add_int, Cm.f, Ar.f, Bi.f, Me.f, Me.T, liftT, List.set_cons_succ, List.set_cons_zero, f6 (k := k + 2) gc, isTr]
          rw [← Bool.and_assoc, h2, Bool.true_and]
        · have h' : isP (.tup [a, b]) = false := by simpa using h
          have h2 : (isI a 0 2 && isT b [wB, wF]) = false := h'
          simp only [h', bfalse, if_false, Fe.bind_ok, Fe.bind_exc, Fe.lift_ok, Fe.lift_exc, Fe.seq_nx, Fe.seq_rt, Fe.seq_exc, Fe.v_non, Fe.v_bl, Fe.v_int, Fe.v_str, Fe.v_var, Fe.v_con, Fe.v_bin, Fe.v_neg, Fe.v_cmp, Fe.v_chn, Fe.v_and, Fe.v_or, Fe.v_not, Fe.v_ite, Fe.v_tup, Fe.v_lst, Fe.v_ix, Fe.v_sl, Fe.v_call, Fe.v_bi, Fe.v_isi, Fe.v_me, Fe.v_lc, Fe.v_dct, Fe.v_rev, Fe.o_no, Fe.o_int, Fe.o_var, Fe.o_bin, Fe.o_neg, Fe.o_ite, Fe.asI_int, Fe.t_no, Fe.t_cmp, Fe.t_chn, Fe.t_and, Fe.t_or, Fe.t_not, Fe.t_call, Fe.t_var, Fe.t_isi, Fe.t_bi, Fe.sems_nil, Fe.sems_cons, Fe.args_nil, Fe.args_cons, Fe.andV_1, Fe.andV_2, Fe.orV_1, Fe.orV_2, Fe.andT_1, Fe.andT_2, Fe.orT_1, Fe.orT_2, Fe.i_rng, Fe.i_tup, Fe.i_var, Fe.x_nil, Fe.x_cons, Fe.x_set, Fe.x_ret, Fe.x_expr, Fe.x_ite, Fe.x_sub, Fe.x_par, Fe.x_asg, Fe.x_for, Fe.x_rais, lk_0, lk_s, int_int, add_int, Cm.f, Ar.f, Bi.f, Me.f, Me.T, liftT, List.set_cons_succ, List.set_cons_zero, isTr]
          rw [← Bool.and_assoc, h2, Bool.false_and]
      · have e2 : decide ((((a :: b :: c :: d :: l : List D).length : Nat) : Int) = 3) = false := by
          rw [decide_eq_false_iff_not]
          simp
          omega
        simp only [e2, bfalse, if_false, Fe.bind_ok, Fe.bind_exc, Fe.lift_ok, Fe.lift_exc, Fe.seq_nx, Fe.seq_rt, Fe.seq_exc, Fe.v_non, Fe.v_bl, Fe.v_int, Fe.v_str, Fe.v_var, Fe.v_con, Fe.v_bin, Fe.v_neg, Fe.v_cmp, Fe.v_chn, Fe.v_and, Fe.v_or, Fe.v_not, Fe.v_ite, Fe.v_tup, Fe.v_lst, Fe.v_ix, Fe.v_sl, Fe.v_call, Fe.v_bi, Fe.v_isi, Fe.v_me, Fe.v_lc, Fe.v_dct, Fe.v_rev, Fe.o_no, Fe.o_int, Fe.o_var, Fe.o_bin, Fe.o_neg, Fe.o_ite, Fe.asI_int, Fe.t_no, Fe.t_cmp, Fe.t_chn, Fe.t_and, Fe.t_or, Fe.t_not, Fe.t_call, Fe.t_var, Fe.t_isi, Fe.t_bi, Fe.sems_nil, Fe.sems_cons, Fe.args_nil, Fe.args_cons, Fe.andV_1, Fe.andV_2, Fe.orV_1, Fe.orV_2, Fe.andT_1, Fe.andT_2, Fe.orT_1, Fe.orT_2, Fe.i_rng, Fe.i_tup, Fe.i_var, Fe.x_nil, Fe.x_cons, Fe.x_set, Fe.x_ret, Fe.x_expr, Fe.x_ite, Fe.x_sub, Fe.x_par, Fe.x_asg, Fe.x_for, Fe.x_rais, lk_0, lk_s, int_int, add_int, Cm.f, Ar.f, Bi.f, Me.f, Me.T, liftT, List.set_cons_succ, List.set_cons_zero]
        rfl
    | _ => simp only [Fe.bind_ok, Fe.bind_exc, Fe.lift_ok, Fe.lift_exc, Fe.seq_nx, Fe.seq_rt, Fe.seq_exc, Fe.v_non, Fe.v_bl, Fe.v_int, Fe.v_str, Fe.v_var, Fe.v_con, Fe.v_bin, Fe.v_neg, Fe.v_cmp, Fe.v_chn, Fe.v_and, Fe.v_or, Fe.v_not, Fe.v_ite, Fe.v_tup, Fe.v_lst, Fe.v_ix, Fe.v_sl, Fe.v_call, Fe.v_bi, Fe.v_isi, Fe.v_me, Fe.v_lc, Fe.v_dct, Fe.v_rev, Fe.o_no, Fe.o_int, Fe.o_var, Fe.o_bin, Fe.o_neg, Fe.o_ite, Fe.asI_int, Fe.t_no, Fe.t_cmp, Fe.t_chn, Fe.t_and, Fe.t_or, Fe.t_not, Fe.t_call, Fe.t_var, Fe.t_isi, Fe.t_bi, Fe.sems_nil, Fe.sems_cons, Fe.args_nil, Fe.args_cons, Fe.andV_1, Fe.andV_2, Fe.orV_1, Fe.orV_2, Fe.andT_1, Fe.andT_2, Fe.orT_1, Fe.orT_2, Fe.i_rng, Fe.i_tup, Fe.i_var, Fe.x_nil, Fe.x_cons, Fe.x_set, Fe.x_ret, Fe.x_expr, Fe.x_ite, Fe.x_sub, Fe.x_par, Fe.x_asg, Fe.x_for, Fe.x_rais, lk_0, lk_s, int_int, add_int, Cm.f, Ar.f, Bi.f, Me.f, Me.T, liftT, List.set_cons_succ, List.set_cons_zero, isi_at ht, a1, a2, a3, a4, a6, a7, tru_bl, bfalse, if_false]; rfl
  rw [e]; exact ret_bl

/-- what an entry's value must be -/
def entry (c : List Nat) (v : D) : Bool :=
  if c = wTi then isNon v || isI v 1 3 else if c = wUs then isP v else if c = wWa ∨ c = wWay ∨ c = wLo then isTr v else isI v 0 2
abbrev words : List (List Nat) := [wTi, wUs, wWa, wWay, wLo, wTa, wCo]
theorem is_non {v : D} : opIs v .non s = .ok (.bl (isNon v)) s := by cases v <;> rfl
theorem in_words {c : List Nat} (hc : c ∈ words) : isT (.str c) [wTi, wUs, wWa, wWay, wLo, wTa] = false → (c == wCo) = true := by
  rcases List.mem_cons.mp hc with rfl | hc
  · decide
  rcases List.mem_cons.mp hc with rfl | hc
  · decide
  rcases List.mem_cons.mp hc with rfl | hc
  · decide
  rcases List.mem_cons.mp hc with rfl | hc
  · decide
  rcases List.mem_cons.mp hc with rfl | hc
  · decide
  rcases List.mem_cons.mp hc with rfl | hc
  · decide
  · rw [List.mem_singleton.mp hc]; decide
/-- the rest of an entry's judgement -/
theorem f11v (g : Deep s v) {c : List Nat} (hc : c ∈ words) : callF T (k + 5) 11 [.str c, v] s = .ok (.bl (entry c v)) s := by
  rw [call_at (d := t11) rfl rfl]
  show trimO s (retO (execs (callF T (k + 4)) b11 [some (.str c), some v] s)) = _
  have lv := f16 (k := k + 3) (s := s) (Good.str (c := c))
  have mv : opIn (.str c) (.tup [.str wWa, .str wWay, .str wLo]) s = .ok (.bl ([wWa, wWay, wLo].contains c)) s := in_tup [wWa, wWay, wLo]
  have ci : opIsi .str (.str c) s = .ok (.bl true) s := rfl
  have ic := f15 (k := k + 3) g.1
  have iw := in_words hc
  have e : execs (callF T (k + 4)) b11 [some (.str c), some v] s = .rt (.bl (entry c v)) s := by
    unfold b11
    have st1 : ∀ (ρ : Fe.Env) (a : Fe.St) (as : List Fe.St), execs (callF T (k + 4)) (.ite (.and [(.not (.call 16 [(.var 0)])), (.not (.and [(.isi .str (.var 0)), (.cmp .eq (.var 0) (.con 9 (.str [99, 111, 109, 101])))]))]) [(.rais 0 true (.var 0))] [] :: a :: as) (some (.str c) :: ρ) s = execs (callF T (k + 4)) (a :: as) (some (.str c) :: ρ) s := fun ρ a as => by
      rw [x_cons]
      simp only [Fe.bind_ok, Fe.bind_exc, Fe.lift_ok, Fe.lift_exc, Fe.seq_nx, Fe.seq_rt, Fe.seq_exc, Fe.v_non, Fe.v_bl, Fe.v_int, Fe.v_str, Fe.v_var, Fe.v_con, Fe.v_bin, Fe.v_neg, Fe.v_cmp, Fe.v_chn, Fe.v_and, Fe.v_or, Fe.v_not, Fe.v_ite, Fe.v_tup, Fe.v_lst, Fe.v_ix, Fe.v_sl, Fe.v_call, Fe.v_bi, Fe.v_isi, Fe.v_me, Fe.v_lc, Fe.v_dct, Fe.v_rev, Fe.o_no, Fe.o_int, Fe.o_var, Fe.o_bin, Fe.o_neg, Fe.o_ite, Fe.asI_int, Fe.t_no, Fe.t_cmp, Fe.t_chn, Fe.t_and, Fe.t_or, Fe.t_not, Fe.t_call, Fe.t_var, Fe.t_isi, Fe.t_bi, Fe.sems_nil, Fe.sems_cons, Fe.args_nil, Fe.args_cons, Fe.andV_1, Fe.andV_2, Fe.orV_1, Fe.orV_2, Fe.andT_1, Fe.andT_2, Fe.orT_1, Fe.orT_2, Fe.i_rng, Fe.i_tup, Fe.i_var, Fe.x_nil, Fe.x_cons, Fe.x_set, Fe.x_ret, Fe.x_expr, Fe.x_ite, Fe.x_sub, Fe.x_par, Fe.x_asg, Fe.x_for, Fe.x_rais, lk_0, lk_s, int_int, add_int, Cm.f, Ar.f, Bi.f, Me.f, Me.T, liftT, List.set_cons_succ, List.set_cons_zero, lv, tru_bl, ci, if_true, eq_str, asB_bl]
      by_cases h : isT (.str c) [wTi, wUs, wWa, wWay, wLo, wTa] = true
      · simp only [h, Bool.not_true, bfalse, if_false, Fe.bind_ok, Fe.bind_exc, Fe.lift_ok, Fe.lift_exc, Fe.seq_nx, Fe.seq_rt, Fe.seq_exc, Fe.v_non, Fe.v_bl, Fe.v_int, Fe.v_str, Fe.v_var, Fe.v_con, Fe.v_bin, Fe.v_neg, Fe.v_cmp, Fe.v_chn, Fe.v_and, Fe.v_or, Fe.v_not, Fe.v_ite, Fe.v_tup, Fe.v_lst, Fe.v_ix, Fe.v_sl, Fe.v_call, Fe.v_bi, Fe.v_isi, Fe.v_me, Fe.v_lc, Fe.v_dct, Fe.v_rev, Fe.o_no, Fe.o_int, Fe.o_var, Fe.o_bin, Fe.o_neg, Fe.o_ite, Fe.asI_int, Fe.t_no, Fe.t_cmp, Fe.t_chn, Fe.t_and, Fe.t_or, Fe.t_not, Fe.t_call, Fe.t_var, Fe.t_isi, Fe.t_bi, Fe.sems_nil, Fe.sems_cons, Fe.args_nil, Fe.args_cons, Fe.andV_1, Fe.andV_2, Fe.orV_1, Fe.orV_2, Fe.andT_1, Fe.andT_2, Fe.orT_1, Fe.orT_2, Fe.i_rng, Fe.i_tup, Fe.i_var, Fe.x_nil, Fe.x_cons, Fe.x_set, Fe.x_ret, Fe.x_expr, Fe.x_ite, Fe.x_sub, Fe.x_par, Fe.x_asg, Fe.x_for, Fe.x_rais, lk_0, lk_s, int_int, add_int, Cm.f, Ar.f, Bi.f, Me.f, Me.T, liftT, List.set_cons_succ, List.set_cons_zero]
      · have h' : isT (.str c) [wTi, wUs, wWa, wWay, wLo, wTa] = false := by simpa using h
        simp only [h', Bool.not_false, if_true, Fe.bind_ok, Fe.bind_exc, Fe.lift_ok, Fe.lift_exc, Fe.seq_nx, Fe.seq_rt, Fe.seq_exc, Fe.v_non, Fe.v_bl, Fe.v_int, Fe.v_str, Fe.v_var, Fe.v_con, Fe.v_bin, Fe.v_neg, Fe.v_cmp, Fe.v_chn, Fe.v_and, Fe.v_or, Fe.v_not, Fe.v_ite, Fe.v_tup, Fe.v_lst, Fe.v_ix, Fe.v_sl, Fe.v_call, Fe.v_bi, Fe.v_isi, Fe.v_me, Fe.v_lc, Fe.v_dct, Fe.v_rev, Fe.o_no, Fe.o_int, Fe.o_var, Fe.o_bin, Fe.o_neg, Fe.o_ite, Fe.asI_int, Fe.t_no, Fe.t_cmp, Fe.t_chn, Fe.t_and, Fe.t_or, Fe.t_not, Fe.t_call, Fe.t_var, Fe.t_isi, Fe.t_bi, Fe.sems_nil, Fe.sems_cons, Fe.args_nil, Fe.args_cons, Fe.andV_1, Fe.andV_2, Fe.orV_1, Fe.orV_2, Fe.andT_1, Fe.andT_2, Fe.orT_1, Fe.orT_2, Fe.i_rng, Fe.i_tup, Fe.i_var, Fe.x_nil, Fe.x_cons, Fe.x_set, Fe.x_ret, Fe.x_expr, Fe.x_ite, Fe.x_sub, Fe.x_par, Fe.x_asg, Fe.x_for, Fe.x_rais, lk_0, lk_s, int_int, add_int, Cm.f, Ar.f, Bi.f, Me.f, Me.T, liftT, List.set_cons_succ, List.set_cons_zero, iw h', bfalse, if_false, Bool.not_true]
    rw [st1]
    simp only [Fe.bind_ok, Fe.bind_exc, Fe.lift_ok, Fe.lift_exc, Fe.seq_nx, Fe.seq_rt, Fe.seq_exc, Fe.v_non, Fe.v_bl, Fe.v_int, Fe.v_str, Fe.v_var, Fe.v_con, Fe.v_bin, Fe.v_neg, Fe.v_cmp, Fe.v_chn, Fe.v_and, Fe.v_or, Fe.v_not, Fe.v_ite, Fe.v_tup, Fe.v_lst, Fe.v_ix, Fe.v_sl, Fe.v_call, Fe.v_bi, Fe.v_isi, Fe.v_me, Fe.v_lc, Fe.v_dct, Fe.v_rev, Fe.o_no, Fe.o_int, Fe.o_var, Fe.o_bin, Fe.o_neg, Fe.o_ite, Fe.asI_int, Fe.t_no, Fe.t_cmp, Fe.t_chn, Fe.t_and, Fe.t_or, Fe.t_not, Fe.t_call, Fe.t_var, Fe.t_isi, Fe.t_bi, Fe.sems_nil, Fe.sems_cons, Fe.args_nil, Fe.args_cons, Fe.andV_1, Fe.andV_2, Fe.orV_1, Fe.orV_2, Fe.andT_1, Fe.andT_2, Fe.orT_1, Fe.orT_2, Fe.i_rng, Fe.i_tup, Fe.i_var, Fe.x_nil, Fe.x_cons, Fe.x_set, Fe.x_ret, Fe.x_expr, Fe.x_ite, Fe.x_sub, Fe.x_par, Fe.x_asg, Fe.x_for, Fe.x_rais, lk_0, lk_s, int_int, add_int, Cm.f, Ar.f, Bi.f, Me.f, Me.T, liftT, List.set_cons_succ, List.set_cons_zero, eq_str, asB_bl]
    by_cases h1 : c = wTi
    · have h1' : (c == wTi) = true := by simpa using h1
      simp only [h1', if_true, Fe.bind_ok, Fe.bind_exc, Fe.lift_ok, Fe.lift_exc, Fe.seq_nx, Fe.seq_rt, Fe.seq_exc, Fe.v_non, Fe.v_bl, Fe.v_int, Fe.v_str, Fe.v_var, Fe.v_con, Fe.v_bin, Fe.v_neg, Fe.v_cmp, Fe.v_chn, Fe.v_and, Fe.v_or, Fe.v_not, Fe.v_ite, Fe.v_tup, Fe.v_lst, Fe.v_ix, Fe.v_sl, Fe.v_call, Fe.v_bi, Fe.v_isi, Fe.v_me, Fe.v_lc, Fe.v_dct, Fe.v_rev, Fe.o_no, Fe.o_int, Fe.o_var, Fe.o_bin, Fe.o_neg, Fe.o_ite, Fe.asI_int, Fe.t_no, Fe.t_cmp, Fe.t_chn, Fe.t_and, Fe.t_or, Fe.t_not, Fe.t_call, Fe.t_var, Fe.t_isi, Fe.t_bi, Fe.sems_nil, Fe.sems_cons, Fe.args_nil, Fe.args_cons, Fe.andV_1, Fe.andV_2, Fe.orV_1, Fe.orV_2, Fe.andT_1, Fe.andT_2, Fe.orT_1, Fe.orT_2, Fe.i_rng, Fe.i_tup, Fe.i_var, Fe.x_nil, Fe.x_cons, Fe.x_set, Fe.x_ret, Fe.x_expr, Fe.x_ite, Fe.x_sub, Fe.x_par, Fe.x_asg, Fe.x_for, Fe.x_rais, lk_0, lk_s, int_int, add_int, Cm.f, Ar.f, Bi.f, Me.f, Me.T, liftT, List.set_cons_succ, List.set_cons_zero, is_non, tru_bl, entry, if_pos h1]
      by_cases hn : isNon v = true
      · simp only [hn, if_true, Fe.bind_ok, Fe.bind_exc, Fe.lift_ok, Fe.lift_exc, Fe.seq_nx, Fe.seq_rt, Fe.seq_exc, Fe.v_non, Fe.v_bl, Fe.v_int, Fe.v_str, Fe.v_var, Fe.v_con, Fe.v_bin, Fe.v_neg, Fe.v_cmp, Fe.v_chn, Fe.v_and, Fe.v_or, Fe.v_not, Fe.v_ite, Fe.v_tup, Fe.v_lst, Fe.v_ix, Fe.v_sl, Fe.v_call, Fe.v_bi, Fe.v_isi, Fe.v_me, Fe.v_lc, Fe.v_dct, Fe.v_rev, Fe.o_no, Fe.o_int, Fe.o_var, Fe.o_bin, Fe.o_neg, Fe.o_ite, Fe.asI_int, Fe.t_no, Fe.t_cmp, Fe.t_chn, Fe.t_and, Fe.t_or, Fe.t_not, Fe.t_call, Fe.t_var, Fe.t_isi, Fe.t_bi, Fe.sems_nil, Fe.sems_cons, Fe.args_nil, Fe.args_cons, Fe.andV_1, Fe.andV_2, Fe.orV_1, Fe.orV_2, Fe.andT_1, Fe.andT_2, Fe.orT_1, Fe.orT_2, Fe.i_rng, Fe.i_tup, Fe.i_var, Fe.x_nil, Fe.x_cons, Fe.x_set, Fe.x_ret, Fe.x_expr, Fe.x_ite, Fe.x_sub, Fe.x_par, Fe.x_asg, Fe.x_for, Fe.x_rais, lk_0, lk_s, int_int, add_int, Cm.f, Ar.f, Bi.f, Me.f, Me.T, liftT, List.set_cons_succ, List.set_cons_zero, Bool.true_or]
      · have hn' : isNon v = false := by simpa using hn
        simp only [hn', bfalse, if_false, Fe.bind_ok, Fe.bind_exc, Fe.lift_ok, Fe.lift_exc, Fe.seq_nx, Fe.seq_rt, Fe.seq_exc, Fe.v_non, Fe.v_bl, Fe.v_int, Fe.v_str, Fe.v_var, Fe.v_con, Fe.v_bin, Fe.v_neg, Fe.v_cmp, Fe.v_chn, Fe.v_and, Fe.v_or, Fe.v_not, Fe.v_ite, Fe.v_tup, Fe.v_lst, Fe.v_ix, Fe.v_sl, Fe.v_call, Fe.v_bi, Fe.v_isi, Fe.v_me, Fe.v_lc, Fe.v_dct, Fe.v_rev, Fe.o_no, Fe.o_int, Fe.o_var, Fe.o_bin, Fe.o_neg, Fe.o_ite, Fe.asI_int, Fe.t_no, Fe.t_cmp, Fe.t_chn, Fe.t_and, Fe.t_or, Fe.t_not, Fe.t_call, Fe.t_var, Fe.t_isi, Fe.t_bi, Fe.sems_nil, Fe.sems_cons, Fe.args_nil, Fe.args_cons, Fe.andV_1, Fe.andV_2, Fe.orV_1, Fe.orV_2, Fe.andT_1, Fe.andT_2, Fe.orT_1, Fe.orT_2, Fe.i_rng, Fe.i_tup, Fe.i_var, Fe.x_nil, Fe.x_cons, Fe.x_set, Fe.x_ret, Fe.x_expr, Fe.x_ite, Fe.x_sub, Fe.x_par, Fe.x_asg, Fe.x_for, Fe.x_rais, lk_0, lk_s, int_int, add_int, Cm.f, Ar.f, Bi.f, Me.f, Me.T, liftT, List.set_cons_succ, List.set_cons_zero, ic, tru_bl, Bool.false_or]
        cases v with
        | int i =>
          simp only [le_, asB_bl, dec_and, and_bl, Fe.bind_ok, Fe.bind_exc, Fe.lift_ok, Fe.lift_exc, Fe.seq_nx, Fe.seq_rt, Fe.seq_exc, Fe.v_non, Fe.v_bl, Fe.v_int, Fe.v_str, Fe.v_var, Fe.v_con, Fe.v_bin, Fe.v_neg, Fe.v_cmp, Fe.v_chn, Fe.v_and, Fe.v_or, Fe.v_not, Fe.v_ite, Fe.v_tup, Fe.v_lst, Fe.v_ix, Fe.v_sl, Fe.v_call, Fe.v_bi, Fe.v_isi, Fe.v_me, Fe.v_lc, Fe.v_dct, Fe.v_rev, Fe.o_no, Fe.o_int, Fe.o_var, Fe.o_bin, Fe.o_neg, Fe.o_ite, Fe.asI_int, Fe.t_no, Fe.t_cmp, Fe.t_chn, Fe.t_and, Fe.t_or, Fe.t_not, Fe.t_call, Fe.t_var, Fe.t_isi, Fe.t_bi, Fe.sems_nil, Fe.sems_cons, Fe.args_nil, Fe.args_cons, Fe.andV_1, Fe.andV_2, Fe.orV_1, Fe.orV_2, Fe.andT_1, Fe.andT_2, Fe.orT_1, Fe.orT_2, Fe.i_rng, Fe.i_tup, Fe.i_var, Fe.x_nil, Fe.x_cons, Fe.x_set, Fe.x_ret, Fe.x_expr, Fe.x_ite, Fe.x_sub, Fe.x_par, Fe.x_asg, Fe.x_for, Fe.x_rais, lk_0, lk_s, int_int, add_int, Cm.f, Ar.f, Bi.f, Me.f, Me.T, liftT, List.set_cons_succ, List.set_cons_zero]
          congr 2
          unfold isI B
          rw [Bool.eq_iff_iff]
          simp
          omega
        | _ => rfl
    · have h1' : (c == wTi) = false := by simpa using h1
      simp only [h1', bfalse, if_false, Fe.bind_ok, Fe.bind_exc, Fe.lift_ok, Fe.lift_exc, Fe.seq_nx, Fe.seq_rt, Fe.seq_exc, Fe.v_non, Fe.v_bl, Fe.v_int, Fe.v_str, Fe.v_var, Fe.v_con, Fe.v_bin, Fe.v_neg, Fe.v_cmp, Fe.v_chn, Fe.v_and, Fe.v_or, Fe.v_not, Fe.v_ite, Fe.v_tup, Fe.v_lst, Fe.v_ix, Fe.v_sl, Fe.v_call, Fe.v_bi, Fe.v_isi, Fe.v_me, Fe.v_lc, Fe.v_dct, Fe.v_rev, Fe.o_no, Fe.o_int, Fe.o_var, Fe.o_bin, Fe.o_neg, Fe.o_ite, Fe.asI_int, Fe.t_no, Fe.t_cmp, Fe.t_chn, Fe.t_and, Fe.t_or, Fe.t_not, Fe.t_call, Fe.t_var, Fe.t_isi, Fe.t_bi, Fe.sems_nil, Fe.sems_cons, Fe.args_nil, Fe.args_cons, Fe.andV_1, Fe.andV_2, Fe.orV_1, Fe.orV_2, Fe.andT_1, Fe.andT_2, Fe.orT_1, Fe.orT_2, Fe.i_rng, Fe.i_tup, Fe.i_var, Fe.x_nil, Fe.x_cons, Fe.x_set, Fe.x_ret, Fe.x_expr, Fe.x_ite, Fe.x_sub, Fe.x_par, Fe.x_asg, Fe.x_for, Fe.x_rais, lk_0, lk_s, int_int, add_int, Cm.f, Ar.f, Bi.f, Me.f, Me.T, liftT, List.set_cons_succ, List.set_cons_zero, eq_str, asB_bl, mv, entry, if_neg h1]
      by_cases h2 : c = wUs
      · have h2' : (c == wUs) = true := by simpa using h2
        simp only [h2', if_true, Fe.bind_ok, Fe.bind_exc, Fe.lift_ok, Fe.lift_exc, Fe.seq_nx, Fe.seq_rt, Fe.seq_exc, Fe.v_non, Fe.v_bl, Fe.v_int, Fe.v_str, Fe.v_var, Fe.v_con, Fe.v_bin, Fe.v_neg, Fe.v_cmp, Fe.v_chn, Fe.v_and, Fe.v_or, Fe.v_not, Fe.v_ite, Fe.v_tup, Fe.v_lst, Fe.v_ix, Fe.v_sl, Fe.v_call, Fe.v_bi, Fe.v_isi, Fe.v_me, Fe.v_lc, Fe.v_dct, Fe.v_rev, Fe.o_no, Fe.o_int, Fe.o_var, Fe.o_bin, Fe.o_neg, Fe.o_ite, Fe.asI_int, Fe.t_no, Fe.t_cmp, Fe.t_chn, Fe.t_and, Fe.t_or, Fe.t_not, Fe.t_call, Fe.t_var, Fe.t_isi, Fe.t_bi, Fe.sems_nil, Fe.sems_cons, Fe.args_nil, Fe.args_cons, Fe.andV_1, Fe.andV_2, Fe.orV_1, Fe.orV_2, Fe.andT_1, Fe.andT_2, Fe.orT_1, Fe.orT_2, Fe.i_rng, Fe.i_tup, Fe.i_var, Fe.x_nil, Fe.x_cons, Fe.x_set, Fe.x_ret, Fe.x_expr, Fe.x_ite, Fe.x_sub, Fe.x_par, Fe.x_asg, Fe.x_for, Fe.x_rais, lk_0, lk_s, int_int, add_int, Cm.f, Ar.f, Bi.f, Me.f, Me.T, liftT, List.set_cons_succ, List.set_cons_zero, eq_str, asB_bl, mv, if_pos h2, f17 (k := k + 1) g]
      · have h2' : (c == wUs) = false := by simpa using h2
        simp only [h2', bfalse, if_false, Fe.bind_ok, Fe.bind_exc, Fe.lift_ok, Fe.lift_exc, Fe.seq_nx, Fe.seq_rt, Fe.seq_exc, Fe.v_non, Fe.v_bl, Fe.v_int, Fe.v_str, Fe.v_var, Fe.v_con, Fe.v_bin, Fe.v_neg, Fe.v_cmp, Fe.v_chn, Fe.v_and, Fe.v_or, Fe.v_not, Fe.v_ite, Fe.v_tup, Fe.v_lst, Fe.v_ix, Fe.v_sl, Fe.v_call, Fe.v_bi, Fe.v_isi, Fe.v_me, Fe.v_lc, Fe.v_dct, Fe.v_rev, Fe.o_no, Fe.o_int, Fe.o_var, Fe.o_bin, Fe.o_neg, Fe.o_ite, Fe.asI_int, Fe.t_no, Fe.t_cmp, Fe.t_chn, Fe.t_and, Fe.t_or, Fe.t_not, Fe.t_call, Fe.t_var, Fe.t_isi, Fe.t_bi, Fe.sems_nil, Fe.sems_cons, Fe.args_nil, Fe.args_cons, Fe.andV_1, Fe.andV_2, Fe.orV_1, Fe.orV_2, Fe.andT_1, Fe.andT_2, Fe.orT_1, Fe.orT_2, Fe.i_rng, Fe.i_tup, Fe.i_var, Fe.x_nil, Fe.x_cons, Fe.x_set, Fe.x_ret, Fe.x_expr, Fe.x_ite, Fe.x_sub, Fe.x_par, Fe.x_asg, Fe.x_for, Fe.x_rais, lk_0, lk_s, int_int, add_int, Cm.f, Ar.f, Bi.f, Me.f, Me.T, liftT, List.set_cons_succ, List.set_cons_zero, eq_str, asB_bl, mv, if_neg h2]
        by_cases h3 : c = wWa ∨ c = wWay ∨ c = wLo
        · have h3' : [wWa, wWay, wLo].contains c = true := by
            rw [List.contains_iff_mem]
            simpa using h3
          simp only [h3', if_true, Fe.bind_ok, Fe.bind_exc, Fe.lift_ok, Fe.lift_exc, Fe.seq_nx, Fe.seq_rt, Fe.seq_exc, Fe.v_non, Fe.v_bl, Fe.v_int, Fe.v_str, Fe.v_var, Fe.v_con, Fe.v_bin, Fe.v_neg, Fe.v_cmp, Fe.v_chn, Fe.v_and, Fe.v_or, Fe.v_not, Fe.v_ite, Fe.v_tup, Fe.v_lst, Fe.v_ix, Fe.v_sl, Fe.v_call, Fe.v_bi, Fe.v_isi, Fe.v_me, Fe.v_lc, Fe.v_dct, Fe.v_rev, Fe.o_no, Fe.o_int, Fe.o_var, Fe.o_bin, Fe.o_neg, Fe.o_ite, Fe.asI_int, Fe.t_no, Fe.t_cmp, Fe.t_chn, Fe.t_and, Fe.t_or, Fe.t_not, Fe.t_call, Fe.t_var, Fe.t_isi, Fe.t_bi, Fe.sems_nil, Fe.sems_cons, Fe.args_nil, Fe.args_cons, Fe.andV_1, Fe.andV_2, Fe.orV_1, Fe.orV_2, Fe.andT_1, Fe.andT_2, Fe.orT_1, Fe.orT_2, Fe.i_rng, Fe.i_tup, Fe.i_var, Fe.x_nil, Fe.x_cons, Fe.x_set, Fe.x_ret, Fe.x_expr, Fe.x_ite, Fe.x_sub, Fe.x_par, Fe.x_asg, Fe.x_for, Fe.x_rais, lk_0, lk_s, int_int, add_int, Cm.f, Ar.f, Bi.f, Me.f, Me.T, liftT, List.set_cons_succ, List.set_cons_zero, eq_str, asB_bl, mv, if_pos h3, f18 (k := k) g]
        · have h3' : [wWa, wWay, wLo].contains c = false := by
            rw [Bool.eq_false_iff]
            intro z
            rw [List.contains_iff_mem] at z
            exact h3 (by simpa using z)
          simp only [h3', bfalse, if_false, Fe.bind_ok, Fe.bind_exc, Fe.lift_ok, Fe.lift_exc, Fe.seq_nx, Fe.seq_rt, Fe.seq_exc, Fe.v_non, Fe.v_bl, Fe.v_int, Fe.v_str, Fe.v_var, Fe.v_con, Fe.v_bin, Fe.v_neg, Fe.v_cmp, Fe.v_chn, Fe.v_and, Fe.v_or, Fe.v_not, Fe.v_ite, Fe.v_tup, Fe.v_lst, Fe.v_ix, Fe.v_sl, Fe.v_call, Fe.v_bi, Fe.v_isi, Fe.v_me, Fe.v_lc, Fe.v_dct, Fe.v_rev, Fe.o_no, Fe.o_int, Fe.o_var, Fe.o_bin, Fe.o_neg, Fe.o_ite, Fe.asI_int, Fe.t_no, Fe.t_cmp, Fe.t_chn, Fe.t_and, Fe.t_or, Fe.t_not, Fe.t_call, Fe.t_var, Fe.t_isi, Fe.t_bi, Fe.sems_nil, Fe.sems_cons, Fe.args_nil, Fe.args_cons, Fe.andV_1, Fe.andV_2, Fe.orV_1, Fe.orV_2, Fe.andT_1, Fe.andT_2, Fe.orT_1, Fe.orT_2, Fe.i_rng, Fe.i_tup, Fe.i_var, Fe.x_nil, Fe.x_cons, Fe.x_set, Fe.x_ret, Fe.x_expr, Fe.x_ite, Fe.x_sub, Fe.x_par, Fe.x_asg, Fe.x_for, Fe.x_rais, lk_0, lk_s, int_int, add_int, Cm.f, Ar.f, Bi.f, Me.f, Me.T, liftT, List.set_cons_succ, List.set_cons_zero, eq_str, asB_bl, mv, if_neg h3, f19 (k := k + 2) g.1]
  rw [e]; exact ret_bl
theorem f11x (g : Good s w) (hw : isT w words = false) : callF T (k + 5) 11 [w, v] s = .exc ⟨0, [w]⟩ s := by
  rw [call_at (d := t11) rfl rfl]
  show trimO s (retO (execs (callF T (k + 4)) b11 [some w, some v] s)) = _
  have lv := f16 (k := k + 3) (s := s) g
  have h0 : isT w [wTi, wUs, wWa, wWay, wLo, wTa] = false := by
    cases w with
    | str c =>
      have hw' : words.contains c = false := hw
      show [wTi, wUs, wWa, wWay, wLo, wTa].contains c = false
      simp only [List.contains_cons, Bool.or_eq_false_iff] at hw' ⊢
      obtain ⟨q1, q2, q3, q4, q5, q6, q7, q8⟩ := hw'
      exact ⟨q1, q2, q3, q4, q5, q6, rfl⟩
    | _ => rfl
  have e : execs (callF T (k + 4)) b11 [some w, some v] s = .exc ⟨0, [w]⟩ [some w, some v] s := by
    obtain ⟨t, ht⟩ := g
    have K := Kind.of ht
    obtain ⟨_, _, _, _, _, _, _, _, _, a1, a2, a3, a4, a5, a6, a7, _⟩ := ty_tab
    unfold b11
    cases K with
    | str c =>
      have hw' : words.contains c = false := hw
      have hc : (c == wCo) = false := by
        simp only [List.contains_cons, Bool.or_eq_false_iff] at hw'
        exact hw'.2.2.2.2.2.2.1
      simp only [Fe.bind_ok, Fe.bind_exc, Fe.lift_ok, Fe.lift_exc, Fe.seq_nx, Fe.seq_rt, Fe.seq_exc, Fe.v_non, Fe.v_bl, Fe.v_int, Fe.v_str, Fe.v_var, Fe.v_con, Fe.v_bin, Fe.v_neg, Fe.v_cmp, Fe.v_chn, Fe.v_and, Fe.v_or, Fe.v_not, Fe.v_ite, Fe.v_tup, Fe.v_lst, Fe.v_ix, Fe.v_sl, Fe.v_call, Fe.v_bi, Fe.v_isi, Fe.v_me, Fe.v_lc, Fe.v_dct, Fe.v_rev, Fe.o_no, Fe.o_int, Fe.o_var, Fe.o_bin, Fe.o_neg, Fe.o_ite, Fe.asI_int, Fe.t_no, Fe.t_cmp, Fe.t_chn, Fe.t_and, Fe.t_or, Fe.t_not, Fe.t_call, Fe.t_var, Fe.t_isi, Fe.t_bi, Fe.sems_nil, Fe.sems_cons, Fe.args_nil, Fe.args_cons, Fe.andV_1, Fe.andV_2, Fe.orV_1, Fe.orV_2, Fe.andT_1, Fe.andT_2, Fe.orT_1, Fe.orT_2, Fe.i_rng, Fe.i_tup, Fe.i_var, Fe.x_nil, Fe.x_cons, Fe.x_set, Fe.x_ret, Fe.x_expr, Fe.x_ite, Fe.x_sub, Fe.x_par, Fe.x_asg, Fe.x_for, Fe.x_rais, lk_0, lk_s, int_int, add_int, Cm.f, Ar.f, Bi.f, Me.f, Me.T, liftT, List.set_cons_succ, List.set_cons_zero, lv, h0, tru_bl, Bool.not_false, if_true, isi_at ht, a4, eq_str, asB_bl, hc]
    | _ => simp only [Fe.bind_ok, Fe.bind_exc, Fe.lift_ok, Fe.lift_exc, Fe.seq_nx, Fe.seq_rt, Fe.seq_exc, Fe.v_non, Fe.v_bl, Fe.v_int, Fe.v_str, Fe.v_var, Fe.v_con, Fe.v_bin, Fe.v_neg, Fe.v_cmp, Fe.v_chn, Fe.v_and, Fe.v_or, Fe.v_not, Fe.v_ite, Fe.v_tup, Fe.v_lst, Fe.v_ix, Fe.v_sl, Fe.v_call, Fe.v_bi, Fe.v_isi, Fe.v_me, Fe.v_lc, Fe.v_dct, Fe.v_rev, Fe.o_no, Fe.o_int, Fe.o_var, Fe.o_bin, Fe.o_neg, Fe.o_ite, Fe.asI_int, Fe.t_no, Fe.t_cmp, Fe.t_chn, Fe.t_and, Fe.t_or, Fe.t_not, Fe.t_call, Fe.t_var, Fe.t_isi, Fe.t_bi, Fe.sems_nil, Fe.sems_cons, Fe.args_nil, Fe.args_cons, Fe.andV_1, Fe.andV_2, Fe.orV_1, Fe.orV_2, Fe.andT_1, Fe.andT_2, Fe.orT_1, Fe.orT_2, Fe.i_rng, Fe.i_tup, Fe.i_var, Fe.x_nil, Fe.x_cons, Fe.x_set, Fe.x_ret, Fe.x_expr, Fe.x_ite, Fe.x_sub, Fe.x_par, Fe.x_asg, Fe.x_for, Fe.x_rais, lk_0, lk_s, int_int, add_int, Cm.f, Ar.f, Bi.f, Me.f, Me.T, liftT, List.set_cons_succ, List.set_cons_zero, lv, h0, tru_bl, Bool.not_false, if_true, isi_at ht, a1, a2, a3, a5, a6, a7, bfalse, if_false]
  rw [e]
  show trimO s (.exc ⟨0, [w]⟩ s) = _
  unfold trimO
  dsimp only
  split
  · rw [List.take_length]
  · rfl

theorem trim_garb {b : Bool} {h : Fe.S} : trimO s (.ok (.bl b) (s ++ h)) = .ok (.bl b) s := by
  rw [trim_flat rfl (by simp) (sameOr_of fun i hi => .inl (List.getElem?_append_left hi))]
  simp
theorem mkL2 {a b : D} : mkLst [a, b] s = .ok (.ref s.length) (s ++ [.lst [a, b]]) := rfl
theorem at_end {o : O} : (s ++ [o])[s.length]? = some o := by simp
theorem text2 (g : Good s v) {a b : List Nat} : callF T (k + 1) 9 [v, .ref s.length] (s ++ [.lst [.str a, .str b]]) = .ok (.bl (isT v [a, b])) (s ++ [.lst [.str a, .str b]]) := f9 g.app [a, b] at_end
theorem ret_garb {b : Bool} {h : Fe.S} : trimO s (retO (.rt (.bl b) (s ++ h))) = .ok (.bl b) s := trim_garb
theorem f12 (g : Deep s v) {c : List Nat} (hc : c ∈ words) : callF T (k + 2) 12 [.str c, v] s = .ok (.bl (entry c v)) s := by
  rw [call_at (d := t12) rfl rfl]
  show trimO s (retO (execs (callF T (k + 1)) b12 [some (.str c), some v] s)) = _
  have gd := g.2
  obtain ⟨t, ht⟩ := g.1
  have K := Kind.of ht
  obtain ⟨_, _, _, _, _, _, _, _, _, _, _, _, _, _, _, _, a1, a2, a3, a4, a5, a6, a7⟩ := ty_tab
  have mv : opIn (.str c) (.tup [.str wTa, .str wCo]) s = .ok (.bl ([wTa, wCo].contains c)) s := in_tup [wTa, wCo]
  have e : ∃ h, execs (callF T (k + 1)) b12 [some (.str c), some v] s = .rt (.bl (entry c v)) (s ++ h) := by
    unfold b12
    by_cases h1 : c = wTi
    · have h1' : (c == wTi) = true := by simpa using h1
      refine ⟨[], ?_⟩
      rw [List.append_nil]
      simp only [Fe.bind_ok, Fe.bind_exc, Fe.lift_ok, Fe.lift_exc, Fe.seq_nx, Fe.seq_rt, Fe.seq_exc, Fe.v_non, Fe.v_bl, Fe.v_int, Fe.v_str, Fe.v_var, Fe.v_con, Fe.v_bin, Fe.v_neg, Fe.v_cmp, Fe.v_chn, Fe.v_and, Fe.v_or, Fe.v_not, Fe.v_ite, Fe.v_tup, Fe.v_lst, Fe.v_ix, Fe.v_sl, Fe.v_call, Fe.v_bi, Fe.v_isi, Fe.v_me, Fe.v_lc, Fe.v_dct, Fe.v_rev, Fe.o_no, Fe.o_int, Fe.o_var, Fe.o_bin, Fe.o_neg, Fe.o_ite, Fe.asI_int, Fe.t_no, Fe.t_cmp, Fe.t_chn, Fe.t_and, Fe.t_or, Fe.t_not, Fe.t_call, Fe.t_var, Fe.t_isi, Fe.t_bi, Fe.sems_nil, Fe.sems_cons, Fe.args_nil, Fe.args_cons, Fe.andV_1, Fe.andV_2, Fe.orV_1, Fe.orV_2, Fe.andT_1, Fe.andT_2, Fe.orT_1, Fe.orT_2, Fe.i_rng, Fe.i_tup, Fe.i_var, Fe.x_nil, Fe.x_cons, Fe.x_set, Fe.x_ret, Fe.x_expr, Fe.x_ite, Fe.x_sub, Fe.x_par, Fe.x_asg, Fe.x_for, Fe.x_rais, lk_0, lk_s, int_int, add_int, Cm.f, Ar.f, Bi.f, Me.f, Me.T, liftT, List.set_cons_succ, List.set_cons_zero, eq_str, asB_bl, h1', if_true, is_non, tru_bl, entry, if_pos h1, f8 g.1]
      by_cases hn : isNon v = true
      · simp only [hn, if_true, Fe.bind_ok, Fe.bind_exc, Fe.lift_ok, Fe.lift_exc, Fe.seq_nx, Fe.seq_rt, Fe.seq_exc, Fe.v_non, Fe.v_bl, Fe.v_int, Fe.v_str, Fe.v_var, Fe.v_con, Fe.v_bin, Fe.v_neg, Fe.v_cmp, Fe.v_chn, Fe.v_and, Fe.v_or, Fe.v_not, Fe.v_ite, Fe.v_tup, Fe.v_lst, Fe.v_ix, Fe.v_sl, Fe.v_call, Fe.v_bi, Fe.v_isi, Fe.v_me, Fe.v_lc, Fe.v_dct, Fe.v_rev, Fe.o_no, Fe.o_int, Fe.o_var, Fe.o_bin, Fe.o_neg, Fe.o_ite, Fe.asI_int, Fe.t_no, Fe.t_cmp, Fe.t_chn, Fe.t_and, Fe.t_or, Fe.t_not, Fe.t_call, Fe.t_var, Fe.t_isi, Fe.t_bi, Fe.sems_nil, Fe.sems_cons, Fe.args_nil, Fe.args_cons, Fe.andV_1, Fe.andV_2, Fe.orV_1, Fe.orV_2, Fe.andT_1, Fe.andT_2, Fe.orT_1, Fe.orT_2, Fe.i_rng, Fe.i_tup, Fe.i_var, Fe.x_nil, Fe.x_cons, Fe.x_set, Fe.x_ret, Fe.x_expr, Fe.x_ite, Fe.x_sub, Fe.x_par, Fe.x_asg, Fe.x_for, Fe.x_rais, lk_0, lk_s, int_int, add_int, Cm.f, Ar.f, Bi.f, Me.f, Me.T, liftT, List.set_cons_succ, List.set_cons_zero, Bool.true_or]
      · have hn' : isNon v = false := by simpa using hn
        simp only [hn', bfalse, if_false, Fe.bind_ok, Fe.bind_exc, Fe.lift_ok, Fe.lift_exc, Fe.seq_nx, Fe.seq_rt, Fe.seq_exc, Fe.v_non, Fe.v_bl, Fe.v_int, Fe.v_str, Fe.v_var, Fe.v_con, Fe.v_bin, Fe.v_neg, Fe.v_cmp, Fe.v_chn, Fe.v_and, Fe.v_or, Fe.v_not, Fe.v_ite, Fe.v_tup, Fe.v_lst, Fe.v_ix, Fe.v_sl, Fe.v_call, Fe.v_bi, Fe.v_isi, Fe.v_me, Fe.v_lc, Fe.v_dct, Fe.v_rev, Fe.o_no, Fe.o_int, Fe.o_var, Fe.o_bin, Fe.o_neg, Fe.o_ite, Fe.asI_int, Fe.t_no, Fe.t_cmp, Fe.t_chn, Fe.t_and, Fe.t_or, Fe.t_not, Fe.t_call, Fe.t_var, Fe.t_isi, Fe.t_bi, Fe.sems_nil, Fe.sems_cons, Fe.args_nil, Fe.args_cons, Fe.andV_1, Fe.andV_2, Fe.orV_1, Fe.orV_2, Fe.andT_1, Fe.andT_2, Fe.orT_1, Fe.orT_2, Fe.i_rng, Fe.i_tup, Fe.i_var, Fe.x_nil, Fe.x_cons, Fe.x_set, Fe.x_ret, Fe.x_expr, Fe.x_ite, Fe.x_sub, Fe.x_par, Fe.x_asg, Fe.x_for, Fe.x_rais, lk_0, lk_s, int_int, add_int, Cm.f, Ar.f, Bi.f, Me.f, Me.T, liftT, List.set_cons_succ, List.set_cons_zero, f8 g.1, Bool.false_or]
    · have h1' : (c == wTi) = false := by simpa using h1
      simp only [Fe.bind_ok, Fe.bind_exc, Fe.lift_ok, Fe.lift_exc, Fe.seq_nx, Fe.seq_rt, Fe.seq_exc, Fe.v_non, Fe.v_bl, Fe.v_int, Fe.v_str, Fe.v_var, Fe.v_con, Fe.v_bin, Fe.v_neg, Fe.v_cmp, Fe.v_chn, Fe.v_and, Fe.v_or, Fe.v_not, Fe.v_ite, Fe.v_tup, Fe.v_lst, Fe.v_ix, Fe.v_sl, Fe.v_call, Fe.v_bi, Fe.v_isi, Fe.v_me, Fe.v_lc, Fe.v_dct, Fe.v_rev, Fe.o_no, Fe.o_int, Fe.o_var, Fe.o_bin, Fe.o_neg, Fe.o_ite, Fe.asI_int, Fe.t_no, Fe.t_cmp, Fe.t_chn, Fe.t_and, Fe.t_or, Fe.t_not, Fe.t_call, Fe.t_var, Fe.t_isi, Fe.t_bi, Fe.sems_nil, Fe.sems_cons, Fe.args_nil, Fe.args_cons, Fe.andV_1, Fe.andV_2, Fe.orV_1, Fe.orV_2, Fe.andT_1, Fe.andT_2, Fe.orT_1, Fe.orT_2, Fe.i_rng, Fe.i_tup, Fe.i_var, Fe.x_nil, Fe.x_cons, Fe.x_set, Fe.x_ret, Fe.x_expr, Fe.x_ite, Fe.x_sub, Fe.x_par, Fe.x_asg, Fe.x_for, Fe.x_rais, lk_0, lk_s, int_int, add_int, Cm.f, Ar.f, Bi.f, Me.f, Me.T, liftT, List.set_cons_succ, List.set_cons_zero, eq_str, asB_bl, h1', bfalse, if_false, mkT2, mv]
      by_cases h2 : c = wTa ∨ c = wCo
      · have h2' : [wTa, wCo].contains c = true := by
          rw [List.contains_iff_mem]
          simpa using h2
        refine ⟨[], ?_⟩
        rw [List.append_nil]
        have n1 : c ≠ wUs := by rcases h2 with rfl | rfl <;> decide
        have n2 : ¬ (c = wWa ∨ c = wWay ∨ c = wLo) := by rcases h2 with rfl | rfl <;> decide
        simp only [h2', if_true, Fe.bind_ok, Fe.bind_exc, Fe.lift_ok, Fe.lift_exc, Fe.seq_nx, Fe.seq_rt, Fe.seq_exc, Fe.v_non, Fe.v_bl, Fe.v_int, Fe.v_str, Fe.v_var, Fe.v_con, Fe.v_bin, Fe.v_neg, Fe.v_cmp, Fe.v_chn, Fe.v_and, Fe.v_or, Fe.v_not, Fe.v_ite, Fe.v_tup, Fe.v_lst, Fe.v_ix, Fe.v_sl, Fe.v_call, Fe.v_bi, Fe.v_isi, Fe.v_me, Fe.v_lc, Fe.v_dct, Fe.v_rev, Fe.o_no, Fe.o_int, Fe.o_var, Fe.o_bin, Fe.o_neg, Fe.o_ite, Fe.asI_int, Fe.t_no, Fe.t_cmp, Fe.t_chn, Fe.t_and, Fe.t_or, Fe.t_not, Fe.t_call, Fe.t_var, Fe.t_isi, Fe.t_bi, Fe.sems_nil, Fe.sems_cons, Fe.args_nil, Fe.args_cons, Fe.andV_1, Fe.andV_2, Fe.orV_1, Fe.orV_2, Fe.andT_1, Fe.andT_2, Fe.orT_1, Fe.orT_2, Fe.i_rng, Fe.i_tup, Fe.i_var, Fe.x_nil, Fe.x_cons, Fe.x_set, Fe.x_ret, Fe.x_expr, Fe.x_ite, Fe.x_sub, Fe.x_par, Fe.x_asg, Fe.x_for, Fe.x_rais, lk_0, lk_s, int_int, add_int, Cm.f, Ar.f, Bi.f, Me.f, Me.T, liftT, List.set_cons_succ, List.set_cons_zero, f8 g.1, entry, if_neg h1, if_neg n1, if_neg n2]
      · have h2' : [wTa, wCo].contains c = false := by
          rw [Bool.eq_false_iff]
          intro z
          rw [List.contains_iff_mem] at z
          exact h2 (by simpa using z)
        simp only [h2', bfalse, if_false, Fe.bind_ok, Fe.bind_exc, Fe.lift_ok, Fe.lift_exc, Fe.seq_nx, Fe.seq_rt, Fe.seq_exc, Fe.v_non, Fe.v_bl, Fe.v_int, Fe.v_str, Fe.v_var, Fe.v_con, Fe.v_bin, Fe.v_neg, Fe.v_cmp, Fe.v_chn, Fe.v_and, Fe.v_or, Fe.v_not, Fe.v_ite, Fe.v_tup, Fe.v_lst, Fe.v_ix, Fe.v_sl, Fe.v_call, Fe.v_bi, Fe.v_isi, Fe.v_me, Fe.v_lc, Fe.v_dct, Fe.v_rev, Fe.o_no, Fe.o_int, Fe.o_var, Fe.o_bin, Fe.o_neg, Fe.o_ite, Fe.asI_int, Fe.t_no, Fe.t_cmp, Fe.t_chn, Fe.t_and, Fe.t_or, Fe.t_not, Fe.t_call, Fe.t_var, Fe.t_isi, Fe.t_bi, Fe.sems_nil, Fe.sems_cons, Fe.args_nil, Fe.args_cons, Fe.andV_1, Fe.andV_2, Fe.orV_1, Fe.orV_2, Fe.andT_1, Fe.andT_2, Fe.orT_1, Fe.orT_2, Fe.i_rng, Fe.i_tup, Fe.i_var, Fe.x_nil, Fe.x_cons, Fe.x_set, Fe.x_ret, Fe.x_expr, Fe.x_ite, Fe.x_sub, Fe.x_par, Fe.x_asg, Fe.x_for, Fe.x_rais, lk_0, lk_s, int_int, add_int, Cm.f, Ar.f, Bi.f, Me.f, Me.T, liftT, List.set_cons_succ, List.set_cons_zero]
        have h3 : c = wUs ∨ (c ≠ wUs ∧ (c = wWa ∨ c = wWay ∨ c = wLo)) := by
          simp only [List.mem_cons, List.not_mem_nil, or_false] at hc
          rcases hc with h | h | h | h | h | h | h
          · exact absurd h h1
          · exact .inl h
          · exact .inr ⟨by rw [h]; decide, .inl h⟩
          · exact .inr ⟨by rw [h]; decide, .inr (.inl h)⟩
          · exact .inr ⟨by rw [h]; decide, .inr (.inr h)⟩
          · exact absurd (.inl h) h2
          · exact absurd (.inr h) h2
        cases K with
        | tup l =>
          simp only [isi_at ht, a5, tru_bl, Bool.not_true, bfalse, if_false, Fe.bind_ok, Fe.bind_exc, Fe.lift_ok, Fe.lift_exc, Fe.seq_nx, Fe.seq_rt, Fe.seq_exc, Fe.v_non, Fe.v_bl, Fe.v_int, Fe.v_str, Fe.v_var, Fe.v_con, Fe.v_bin, Fe.v_neg, Fe.v_cmp, Fe.v_chn, Fe.v_and, Fe.v_or, Fe.v_not, Fe.v_ite, Fe.v_tup, Fe.v_lst, Fe.v_ix, Fe.v_sl, Fe.v_call, Fe.v_bi, Fe.v_isi, Fe.v_me, Fe.v_lc, Fe.v_dct, Fe.v_rev, Fe.o_no, Fe.o_int, Fe.o_var, Fe.o_bin, Fe.o_neg, Fe.o_ite, Fe.asI_int, Fe.t_no, Fe.t_cmp, Fe.t_chn, Fe.t_and, Fe.t_or, Fe.t_not, Fe.t_call, Fe.t_var, Fe.t_isi, Fe.t_bi, Fe.sems_nil, Fe.sems_cons, Fe.args_nil, Fe.args_cons, Fe.andV_1, Fe.andV_2, Fe.orV_1, Fe.orV_2, Fe.andT_1, Fe.andT_2, Fe.orT_1, Fe.orT_2, Fe.i_rng, Fe.i_tup, Fe.i_var, Fe.x_nil, Fe.x_cons, Fe.x_set, Fe.x_ret, Fe.x_expr, Fe.x_ite, Fe.x_sub, Fe.x_par, Fe.x_asg, Fe.x_for, Fe.x_rais, lk_0, lk_s, int_int, add_int, Cm.f, Ar.f, Bi.f, Me.f, Me.T, liftT, List.set_cons_succ, List.set_cons_zero, len_tup, eq_str, asB_bl]
          rcases h3 with h3 | ⟨h3, h4⟩
          · have h3' : (c == wUs) = true := by simpa using h3
            simp only [h3', if_true, Fe.bind_ok, Fe.bind_exc, Fe.lift_ok, Fe.lift_exc, Fe.seq_nx, Fe.seq_rt, Fe.seq_exc, Fe.v_non, Fe.v_bl, Fe.v_int, Fe.v_str, Fe.v_var, Fe.v_con, Fe.v_bin, Fe.v_neg, Fe.v_cmp, Fe.v_chn, Fe.v_and, Fe.v_or, Fe.v_not, Fe.v_ite, Fe.v_tup, Fe.v_lst, Fe.v_ix, Fe.v_sl, Fe.v_call, Fe.v_bi, Fe.v_isi, Fe.v_me, Fe.v_lc, Fe.v_dct, Fe.v_rev, Fe.o_no, Fe.o_int, Fe.o_var, Fe.o_bin, Fe.o_neg, Fe.o_ite, Fe.asI_int, Fe.t_no, Fe.t_cmp, Fe.t_chn, Fe.t_and, Fe.t_or, Fe.t_not, Fe.t_call, Fe.t_var, Fe.t_isi, Fe.t_bi, Fe.sems_nil, Fe.sems_cons, Fe.args_nil, Fe.args_cons, Fe.andV_1, Fe.andV_2, Fe.orV_1, Fe.orV_2, Fe.andT_1, Fe.andT_2, Fe.orT_1, Fe.orT_2, Fe.i_rng, Fe.i_tup, Fe.i_var, Fe.x_nil, Fe.x_cons, Fe.x_set, Fe.x_ret, Fe.x_expr, Fe.x_ite, Fe.x_sub, Fe.x_par, Fe.x_asg, Fe.x_for, Fe.x_rais, lk_0, lk_s, int_int, add_int, Cm.f, Ar.f, Bi.f, Me.f, Me.T, liftT, List.set_cons_succ, List.set_cons_zero, ne_int, asB_bl, entry, if_neg h1, if_pos h3]
            rcases l with _ | ⟨a, _ | ⟨b, _ | ⟨d, l⟩⟩⟩
            · exact ⟨[], by rw [List.append_nil]; rfl⟩
            · exact ⟨[], by rw [List.append_nil]; rfl⟩
            · have ga := gd _ rfl a (by simp)
              have gb := gd _ rfl b (by simp)
              have e2 : (!decide (((([a, b] : List D).length : Nat) : Int) = 2)) = false := rfl
              simp only [e2, bfalse, if_false, Fe.bind_ok, Fe.bind_exc, Fe.lift_ok, Fe.lift_exc, Fe.seq_nx, Fe.seq_rt, Fe.seq_exc, Fe.v_non, Fe.v_bl, Fe.v_int, Fe.v_str, Fe.v_var, Fe.v_con, Fe.v_bin, Fe.v_neg, Fe.v_cmp, Fe.v_chn, Fe.v_and, Fe.v_or, Fe.v_not, Fe.v_ite, Fe.v_tup, Fe.v_lst, Fe.v_ix, Fe.v_sl, Fe.v_call, Fe.v_bi, Fe.v_isi, Fe.v_me, Fe.v_lc, Fe.v_dct, Fe.v_rev, Fe.o_no, Fe.o_int, Fe.o_var, Fe.o_bin, Fe.o_neg, Fe.o_ite, Fe.asI_int, Fe.t_no, Fe.t_cmp, Fe.t_chn, Fe.t_and, Fe.t_or, Fe.t_not, Fe.t_call, Fe.t_var, Fe.t_isi, Fe.t_bi, Fe.sems_nil, Fe.sems_cons, Fe.args_nil, Fe.args_cons, Fe.andV_1, Fe.andV_2, Fe.orV_1, Fe.orV_2, Fe.andT_1, Fe.andT_2, Fe.orT_1, Fe.orT_2, Fe.i_rng, Fe.i_tup, Fe.i_var, Fe.x_nil, Fe.x_cons, Fe.x_set, Fe.x_ret, Fe.x_expr, Fe.x_ite, Fe.x_sub, Fe.x_par, Fe.x_asg, Fe.x_for, Fe.x_rais, lk_0, lk_s, int_int, add_int, Cm.f, Ar.f, Bi.f, Me.f, Me.T, liftT, List.set_cons_succ, List.set_cons_zero, ix0, f8 ga, tru_bl]
              by_cases h : isI a 0 2 = true
              · simp only [h, Bool.not_true, bfalse, if_false, Fe.bind_ok, Fe.bind_exc, Fe.lift_ok, Fe.lift_exc, Fe.seq_nx, Fe.seq_rt, Fe.seq_exc, Fe.v_non, Fe.v_bl, Fe.v_int, Fe.v_str, Fe.v_var, Fe.v_con, Fe.v_bin, Fe.v_neg, Fe.v_cmp, Fe.v_chn, Fe.v_and, Fe.v_or, Fe.v_not, Fe.v_ite, Fe.v_tup, Fe.v_lst, Fe.v_ix, Fe.v_sl, Fe.v_call, Fe.v_bi, Fe.v_isi, Fe.v_me, Fe.v_lc, Fe.v_dct, Fe.v_rev, Fe.o_no, Fe.o_int, Fe.o_var, Fe.o_bin, Fe.o_neg, Fe.o_ite, Fe.asI_int, Fe.t_no, Fe.t_cmp, Fe.t_chn, Fe.t_and, Fe.t_or, Fe.t_not, Fe.t_call, Fe.t_var, Fe.t_isi, Fe.t_bi, Fe.sems_nil, Fe.sems_cons, Fe.args_nil, Fe.args_cons, Fe.andV_1, Fe.andV_2, Fe.orV_1, Fe.orV_2, Fe.andT_1, Fe.andT_2, Fe.orT_1, Fe.orT_2, Fe.i_rng, Fe.i_tup, Fe.i_var, Fe.x_nil, Fe.x_cons, Fe.x_set, Fe.x_ret, Fe.x_expr, Fe.x_ite, Fe.x_sub, Fe.x_par, Fe.x_asg, Fe.x_for, Fe.x_rais, lk_0, lk_s, int_int, add_int, Cm.f, Ar.f, Bi.f, Me.f, Me.T, liftT, List.set_cons_succ, List.set_cons_zero, ix1, mkL2, text2 gb, tru_bl]
                by_cases h' : isT b [wB, wF] = true
                · refine ⟨[.lst [.str wB, .str wF]], ?_⟩
                  simp only [h', Bool.not_true, bfalse, if_false, Fe.bind_ok, Fe.bind_exc, Fe.lift_ok, Fe.lift_exc, Fe.seq_nx, Fe.seq_rt, Fe.seq_exc, Fe.v_non, Fe.v_bl, Fe.v_int, Fe.v_str, Fe.v_var, Fe.v_con, Fe.v_bin, Fe.v_neg, Fe.v_cmp, Fe.v_chn, Fe.v_and, Fe.v_or, Fe.v_not, Fe.v_ite, Fe.v_tup, Fe.v_lst, Fe.v_ix, Fe.v_sl, Fe.v_call, Fe.v_bi, Fe.v_isi, Fe.v_me, Fe.v_lc, Fe.v_dct, Fe.v_rev, Fe.o_no, Fe.o_int, Fe.o_var, Fe.o_bin, Fe.o_neg, Fe.o_ite, Fe.asI_int, Fe.t_no, Fe.t_cmp, Fe.t_chn, Fe.t_and, Fe.t_or, Fe.t_not, Fe.t_call, Fe.t_var, Fe.t_isi, Fe.t_bi, Fe.sems_nil, Fe.sems_cons, Fe.args_nil, Fe.args_cons, Fe.andV_1, Fe.andV_2, Fe.orV_1, Fe.orV_2, Fe.andT_1, Fe.andT_2, Fe.orT_1, Fe.orT_2, Fe.i_rng, Fe.i_tup, Fe.i_var, Fe.x_nil, Fe.x_cons, Fe.x_set, Fe.x_ret, Fe.x_expr, Fe.x_ite, Fe.x_sub, Fe.x_par, Fe.x_asg, Fe.x_for, Fe.x_rais, lk_0, lk_s, int_int, add_int, Cm.f, Ar.f, Bi.f, Me.f, Me.T, liftT, List.set_cons_succ, List.set_cons_zero, eq_str, h3', tru_bl, if_true, isP, h, Bool.and_self]
                · have h'' : isT b [wB, wF] = false := by simpa using h'
                  refine ⟨[.lst [.str wB, .str wF]], ?_⟩
                  simp only [h'', Bool.not_false, if_true, Fe.bind_ok, Fe.bind_exc, Fe.lift_ok, Fe.lift_exc, Fe.seq_nx, Fe.seq_rt, Fe.seq_exc, Fe.v_non, Fe.v_bl, Fe.v_int, Fe.v_str, Fe.v_var, Fe.v_con, Fe.v_bin, Fe.v_neg, Fe.v_cmp, Fe.v_chn, Fe.v_and, Fe.v_or, Fe.v_not, Fe.v_ite, Fe.v_tup, Fe.v_lst, Fe.v_ix, Fe.v_sl, Fe.v_call, Fe.v_bi, Fe.v_isi, Fe.v_me, Fe.v_lc, Fe.v_dct, Fe.v_rev, Fe.o_no, Fe.o_int, Fe.o_var, Fe.o_bin, Fe.o_neg, Fe.o_ite, Fe.asI_int, Fe.t_no, Fe.t_cmp, Fe.t_chn, Fe.t_and, Fe.t_or, Fe.t_not, Fe.t_call, Fe.t_var, Fe.t_isi, Fe.t_bi, Fe.sems_nil, Fe.sems_cons, Fe.args_nil, Fe.args_cons, Fe.andV_1, Fe.andV_2, Fe.orV_1, Fe.orV_2, Fe.andT_1, Fe.andT_2, Fe.orT_1, Fe.orT_2, Fe.i_rng, Fe.i_tup, Fe.i_var, Fe.x_nil, Fe.x_cons, Fe.x_set, Fe.x_ret, Fe.x_expr, Fe.x_ite, Fe.x_sub, Fe.x_par, Fe.x_asg, Fe.x_for, Fe.x_rais, lk_0, lk_s, int_int, add_int, Cm.f, Ar.f, Bi.f, Me.f, Me.T, liftT, List.set_cons_succ, List.set_cons_zero, isP, h, Bool.and_false]
              · have h' : isI a 0 2 = false := by simpa using h
                refine ⟨[], ?_⟩
                rw [List.append_nil]
                simp only [h', Bool.not_false, if_true, Fe.bind_ok, Fe.bind_exc, Fe.lift_ok, Fe.lift_exc, Fe.seq_nx, Fe.seq_rt, Fe.seq_exc, Fe.v_non, Fe.v_bl, Fe.v_int, Fe.v_str, Fe.v_var, Fe.v_con, Fe.v_bin, Fe.v_neg, Fe.v_cmp, Fe.v_chn, Fe.v_and, Fe.v_or, Fe.v_not, Fe.v_ite, Fe.v_tup, Fe.v_lst, Fe.v_ix, Fe.v_sl, Fe.v_call, Fe.v_bi, Fe.v_isi, Fe.v_me, Fe.v_lc, Fe.v_dct, Fe.v_rev, Fe.o_no, Fe.o_int, Fe.o_var, Fe.o_bin, Fe.o_neg, Fe.o_ite, Fe.asI_int, Fe.t_no, Fe.t_cmp, Fe.t_chn, Fe.t_and, Fe.t_or, Fe.t_not, Fe.t_call, Fe.t_var, Fe.t_isi, Fe.t_bi, Fe.sems_nil, Fe.sems_cons, Fe.args_nil, Fe.args_cons, Fe.andV_1, Fe.andV_2, Fe.orV_1, Fe.orV_2, Fe.andT_1, Fe.andT_2, Fe.orT_1, Fe.orT_2, Fe.i_rng, Fe.i_tup, Fe.i_var, Fe.x_nil, Fe.x_cons, Fe.x_set, Fe.x_ret, Fe.x_expr, Fe.x_ite, Fe.x_sub, Fe.x_par, Fe.x_asg, Fe.x_for, Fe.x_rais, lk_0, lk_s, int_int, add_int, Cm.f, Ar.f, Bi.f, Me.f, Me.T, liftT, List.set_cons_succ, List.set_cons_zero, isP, Bool.false_and]
            · have e2 : (!decide ((((a :: b :: d :: l : List D).length : Nat) : Int) = 2)) = true := by
                rw [Bool.not_eq_true', decide_eq_false_iff_not]
                simp
                omega
              refine ⟨[], ?_⟩
              rw [List.append_nil]
              simp only [e2, if_true, Fe.bind_ok, Fe.bind_exc, Fe.lift_ok, Fe.lift_exc, Fe.seq_nx, Fe.seq_rt, Fe.seq_exc, Fe.v_non, Fe.v_bl, Fe.v_int, Fe.v_str, Fe.v_var, Fe.v_con, Fe.v_bin, Fe.v_neg, Fe.v_cmp, Fe.v_chn, Fe.v_and, Fe.v_or, Fe.v_not, Fe.v_ite, Fe.v_tup, Fe.v_lst, Fe.v_ix, Fe.v_sl, Fe.v_call, Fe.v_bi, Fe.v_isi, Fe.v_me, Fe.v_lc, Fe.v_dct, Fe.v_rev, Fe.o_no, Fe.o_int, Fe.o_var, Fe.o_bin, Fe.o_neg, Fe.o_ite, Fe.asI_int, Fe.t_no, Fe.t_cmp, Fe.t_chn, Fe.t_and, Fe.t_or, Fe.t_not, Fe.t_call, Fe.t_var, Fe.t_isi, Fe.t_bi, Fe.sems_nil, Fe.sems_cons, Fe.args_nil, Fe.args_cons, Fe.andV_1, Fe.andV_2, Fe.orV_1, Fe.orV_2, Fe.andT_1, Fe.andT_2, Fe.orT_1, Fe.orT_2, Fe.i_rng, Fe.i_tup, Fe.i_var, Fe.x_nil, Fe.x_cons, Fe.x_set, Fe.x_ret, Fe.x_expr, Fe.x_ite, Fe.x_sub, Fe.x_par, Fe.x_asg, Fe.x_for, Fe.x_rais, lk_0, lk_s, int_int, add_int, Cm.f, Ar.f, Bi.f, Me.f, Me.T, liftT, List.set_cons_succ, List.set_cons_zero]
              rfl
          · have h3' : (c == wUs) = false := by simpa using h3
            simp only [h3', bfalse, if_false, Fe.bind_ok, Fe.bind_exc, Fe.lift_ok, Fe.lift_exc, Fe.seq_nx, Fe.seq_rt, Fe.seq_exc, Fe.v_non, Fe.v_bl, Fe.v_int, Fe.v_str, Fe.v_var, Fe.v_con, Fe.v_bin, Fe.v_neg, Fe.v_cmp, Fe.v_chn, Fe.v_and, Fe.v_or, Fe.v_not, Fe.v_ite, Fe.v_tup, Fe.v_lst, Fe.v_ix, Fe.v_sl, Fe.v_call, Fe.v_bi, Fe.v_isi, Fe.v_me, Fe.v_lc, Fe.v_dct, Fe.v_rev, Fe.o_no, Fe.o_int, Fe.o_var, Fe.o_bin, Fe.o_neg, Fe.o_ite, Fe.asI_int, Fe.t_no, Fe.t_cmp, Fe.t_chn, Fe.t_and, Fe.t_or, Fe.t_not, Fe.t_call, Fe.t_var, Fe.t_isi, Fe.t_bi, Fe.sems_nil, Fe.sems_cons, Fe.args_nil, Fe.args_cons, Fe.andV_1, Fe.andV_2, Fe.orV_1, Fe.orV_2, Fe.andT_1, Fe.andT_2, Fe.orT_1, Fe.orT_2, Fe.i_rng, Fe.i_tup, Fe.i_var, Fe.x_nil, Fe.x_cons, Fe.x_set, Fe.x_ret, Fe.x_expr, Fe.x_ite, Fe.x_sub, Fe.x_par, Fe.x_asg, Fe.x_for, Fe.x_rais, lk_0, lk_s, int_int, add_int, Cm.f, Ar.f, Bi.f, Me.f, Me.T, liftT, List.set_cons_succ, List.set_cons_zero, ne_int, asB_bl, entry, if_neg h1, if_neg h3, if_pos h4]
            rcases l with _ | ⟨a, _ | ⟨b, _ | ⟨d, _ | ⟨f, l⟩⟩⟩⟩
            · exact ⟨[], by rw [List.append_nil]; rfl⟩
            · exact ⟨[], by rw [List.append_nil]; rfl⟩
            · exact ⟨[], by rw [List.append_nil]; rfl⟩
            · have ga := gd _ rfl a (by simp)
              have gb := gd _ rfl b (by simp)
              have gc := gd _ rfl d (by simp)
              have e2 : (!decide (((([a, b, d] : List D).length : Nat) : Int) = 3)) = false := rfl
              simp only [e2, bfalse, if_false, Fe.bind_ok, Fe.bind_exc, Fe.lift_ok, Fe.lift_exc, Fe.seq_nx, Fe.seq_rt, Fe.seq_exc, Fe.v_non, Fe.v_bl, Fe.v_int, Fe.v_str, Fe.v_var, Fe.v_con, Fe.v_bin, Fe.v_neg, Fe.v_cmp, Fe.v_chn, Fe.v_and, Fe.v_or, Fe.v_not, Fe.v_ite, Fe.v_tup, Fe.v_lst, Fe.v_ix, Fe.v_sl, Fe.v_call, Fe.v_bi, Fe.v_isi, Fe.v_me, Fe.v_lc, Fe.v_dct, Fe.v_rev, Fe.o_no, Fe.o_int, Fe.o_var, Fe.o_bin, Fe.o_neg, Fe.o_ite, Fe.asI_int, Fe.t_no, Fe.t_cmp, Fe.t_chn, Fe.t_and, Fe.t_or, Fe.t_not, Fe.t_call, Fe.t_var, Fe.t_isi, Fe.t_bi, Fe.sems_nil, Fe.sems_cons, Fe.args_nil, Fe.args_cons, Fe.andV_1, Fe.andV_2, Fe.orV_1, Fe.orV_2, Fe.andT_1, Fe.andT_2, Fe.orT_1, Fe.orT_2, Fe.i_rng, Fe.i_tup, Fe.i_var, Fe.x_nil, Fe.x_cons, Fe.x_set, Fe.x_ret, Fe.x_expr, Fe.x_ite, Fe.x_sub, Fe.x_par, Fe.x_asg, Fe.x_for, Fe.x_rais, lk_0, lk_s, int_int, add_int, Cm.f, Ar.f, Bi.f, Me.f, Me.T, liftT, List.set_cons_succ, List.set_cons_zero, ix0, f8 ga, tru_bl]
              by_cases h : isI a 0 2 = true
              · simp only [h, Bool.not_true, bfalse, if_false, Fe.bind_ok, Fe.bind_exc, Fe.lift_ok, Fe.lift_exc, Fe.seq_nx, Fe.seq_rt, Fe.seq_exc, Fe.v_non, Fe.v_bl, Fe.v_int, Fe.v_str, Fe.v_var, Fe.v_con, Fe.v_bin, Fe.v_neg, Fe.v_cmp, Fe.v_chn, Fe.v_and, Fe.v_or, Fe.v_not, Fe.v_ite, Fe.v_tup, Fe.v_lst, Fe.v_ix, Fe.v_sl, Fe.v_call, Fe.v_bi, Fe.v_isi, Fe.v_me, Fe.v_lc, Fe.v_dct, Fe.v_rev, Fe.o_no, Fe.o_int, Fe.o_var, Fe.o_bin, Fe.o_neg, Fe.o_ite, Fe.asI_int, Fe.t_no, Fe.t_cmp, Fe.t_chn, Fe.t_and, Fe.t_or, Fe.t_not, Fe.t_call, Fe.t_var, Fe.t_isi, Fe.t_bi, Fe.sems_nil, Fe.sems_cons, Fe.args_nil, Fe.args_cons, Fe.andV_1, Fe.andV_2, Fe.orV_1, Fe.orV_2, Fe.andT_1, Fe.andT_2, Fe.orT_1, Fe.orT_2, Fe.i_rng, Fe.i_tup, Fe.i_var, Fe.x_nil, Fe.x_cons, Fe.x_set, Fe.x_ret, Fe.x_expr, Fe.x_ite, Fe.x_sub, Fe.x_par, Fe.x_asg, Fe.x_for, Fe.x_rais, lk_0, lk_s, int_int, add_int, Cm.f, Ar.f, Bi.f, Me.f, Me.T, liftT, List.set_cons_succ, List.set_cons_zero, ix1, mkL2, text2 gb, tru_bl]
                by_cases h' : isT b [wB, wF] = true
                · refine ⟨[.lst [.str wB, .str wF]] ++ [.lst [.str wK, .str wN]], ?_⟩
                  rw [← List.append_assoc]
                  simp only [h', Bool.not_true, bfalse, if_false, Fe.bind_ok, Fe.bind_exc, Fe.lift_ok, Fe.lift_exc, Fe.seq_nx, Fe.seq_rt, Fe.seq_exc, Fe.v_non, Fe.v_bl, Fe.v_int, Fe.v_str, Fe.v_var, Fe.v_con, Fe.v_bin, Fe.v_neg, Fe.v_cmp, Fe.v_chn, Fe.v_and, Fe.v_or, Fe.v_not, Fe.v_ite, Fe.v_tup, Fe.v_lst, Fe.v_ix, Fe.v_sl, Fe.v_call, Fe.v_bi, Fe.v_isi, Fe.v_me, Fe.v_lc, Fe.v_dct, Fe.v_rev, Fe.o_no, Fe.o_int, Fe.o_var, Fe.o_bin, Fe.o_neg, Fe.o_ite, Fe.asI_int, Fe.t_no, Fe.t_cmp, Fe.t_chn, Fe.t_and, Fe.t_or, Fe.t_not, Fe.t_call, Fe.t_var, Fe.t_isi, Fe.t_bi, Fe.sems_nil, Fe.sems_cons, Fe.args_nil, Fe.args_cons, Fe.andV_1, Fe.andV_2, Fe.orV_1, Fe.orV_2, Fe.andT_1, Fe.andT_2, Fe.orT_1, Fe.orT_2, Fe.i_rng, Fe.i_tup, Fe.i_var, Fe.x_nil, Fe.x_cons, Fe.x_set, Fe.x_ret, Fe.x_expr, Fe.x_ite, Fe.x_sub, Fe.x_par, Fe.x_asg, Fe.x_for, Fe.x_rais, lk_0, lk_s, int_int, add_int, Cm.f, Ar.f, Bi.f, Me.f, Me.T, liftT, List.set_cons_succ, List.set_cons_zero, eq_str, h3', tru_bl, ix2, mkL2, text2 gc.app, isTr, h, Bool.true_and]
                · have h'' : isT b [wB, wF] = false := by simpa using h'
                  refine ⟨[.lst [.str wB, .str wF]], ?_⟩
                  simp only [h'', Bool.not_false, if_true, Fe.bind_ok, Fe.bind_exc, Fe.lift_ok, Fe.lift_exc, Fe.seq_nx, Fe.seq_rt, Fe.seq_exc, Fe.v_non, Fe.v_bl, Fe.v_int, Fe.v_str, Fe.v_var, Fe.v_con, Fe.v_bin, Fe.v_neg, Fe.v_cmp, Fe.v_chn, Fe.v_and, Fe.v_or, Fe.v_not, Fe.v_ite, Fe.v_tup, Fe.v_lst, Fe.v_ix, Fe.v_sl, Fe.v_call, Fe.v_bi, Fe.v_isi, Fe.v_me, Fe.v_lc, Fe.v_dct, Fe.v_rev, Fe.o_no, Fe.o_int, Fe.o_var, Fe.o_bin, Fe.o_neg, Fe.o_ite, Fe.asI_int, Fe.t_no, Fe.t_cmp, Fe.t_chn, Fe.t_and, Fe.t_or, Fe.t_not, Fe.t_call, Fe.t_var, Fe.t_isi, Fe.t_bi, Fe.sems_nil, Fe.sems_cons, Fe.args_nil, Fe.args_cons, Fe.andV_1, Fe.andV_2, Fe.orV_1, Fe.orV_2, Fe.andT_1, Fe.andT_2, Fe.orT_1, Fe.orT_2, Fe.i_rng, Fe.i_tup, Fe.i_var, Fe.x_nil, Fe.x_cons, Fe.x_set, Fe.x_ret, Fe.x_expr, Fe.x_ite, Fe.x_sub, Fe.x_par, Fe.x_asg, Fe.x_for, Fe.x_rais, lk_0, lk_s, int_int, add_int, Cm.f, Ar.f, Bi.f, Me.f, Me.T, liftT, List.set_cons_succ, List.set_cons_zero, isTr, h, Bool.false_and, Bool.and_false]
              · have h' : isI a 0 2 = false := by simpa using h
                refine ⟨[], ?_⟩
                rw [List.append_nil]
                simp only [h', Bool.not_false, if_true, Fe.bind_ok, Fe.bind_exc, Fe.lift_ok, Fe.lift_exc, Fe.seq_nx, Fe.seq_rt, Fe.seq_exc, Fe.v_non, Fe.v_bl, Fe.v_int, Fe.v_str, Fe.v_var, Fe.v_con, Fe.v_bin, Fe.v_neg, Fe.v_cmp, Fe.v_chn, Fe.v_and, Fe.v_or, Fe.v_not, Fe.v_ite, Fe.v_tup, Fe.v_lst, Fe.v_ix, Fe.v_sl, Fe.v_call, Fe.v_bi, Fe.v_isi, Fe.v_me, Fe.v_lc, Fe.v_dct, Fe.v_rev, Fe.o_no, Fe.o_int, Fe.o_var, Fe.o_bin, Fe.o_neg, Fe.o_ite, Fe.asI_int, Fe.t_no, Fe.t_cmp, Fe.t_chn, Fe.t_and, Fe.t_or, Fe.t_not, Fe.t_call, Fe.t_var, Fe.t_isi, Fe.t_bi, Fe.sems_nil, Fe.sems_cons, Fe.args_nil, Fe.args_cons, Fe.andV_1, Fe.andV_2, Fe.orV_1, Fe.orV_2, Fe.andT_1, Fe.andT_2, Fe.orT_1, Fe.orT_2, Fe.i_rng, Fe.i_tup, Fe.i_var, Fe.x_nil, Fe.x_cons, Fe.x_set, Fe.x_ret, Fe.x_expr, Fe.x_ite, Fe.x_sub, Fe.x_par, Fe.x_asg, Fe.x_for, Fe.x_rais, lk_0, lk_s, int_int, add_int, Cm.f, Ar.f, Bi.f, Me.f, Me.T, liftT, List.set_cons_succ, List.set_cons_zero, isTr, Bool.false_and]
            · have e2 : (!decide ((((a :: b :: d :: f :: l : List D).length : Nat) : Int) = 3)) = true := by
                rw [Bool.not_eq_true', decide_eq_false_iff_not]
                simp
                omega
              refine ⟨[], ?_⟩
              rw [List.append_nil]
              simp only [e2, if_true, Fe.bind_ok, Fe.bind_exc, Fe.lift_ok, Fe.lift_exc, Fe.seq_nx, Fe.seq_rt, Fe.seq_exc, Fe.v_non, Fe.v_bl, Fe.v_int, Fe.v_str, Fe.v_var, Fe.v_con, Fe.v_bin, Fe.v_neg, Fe.v_cmp, Fe.v_chn, Fe.v_and, Fe.v_or, Fe.v_not, Fe.v_ite, Fe.v_tup, Fe.v_lst, Fe.v_ix, Fe.v_sl, Fe.v_call, Fe.v_bi, Fe.v_isi, Fe.v_me, Fe.v_lc, Fe.v_dct, Fe.v_rev, Fe.o_no, Fe.o_int, Fe.o_var, Fe.o_bin, Fe.o_neg, Fe.o_ite, Fe.asI_int, Fe.t_no, Fe.t_cmp, Fe.t_chn, Fe.t_and, Fe.t_or, Fe.t_not, Fe.t_call, Fe.t_var, Fe.t_isi, Fe.t_bi, Fe.sems_nil, Fe.sems_cons, Fe.args_nil, Fe.args_cons, Fe.andV_1, Fe.andV_2, Fe.orV_1, Fe.orV_2, Fe.andT_1, Fe.andT_2, Fe.orT_1, Fe.orT_2, Fe.i_rng, Fe.i_tup, Fe.i_var, Fe.x_nil, Fe.x_cons, Fe.x_set, Fe.x_ret, Fe.x_expr, Fe.x_ite, Fe.x_sub, Fe.x_par, Fe.x_asg, Fe.x_for, Fe.x_rais, lk_0, lk_s, int_int, add_int, Cm.f, Ar.f, Bi.f, Me.f, Me.T, liftT, List.set_cons_succ, List.set_cons_zero]
              rfl
        | _ =>
          refine ⟨[], ?_⟩
          rw [List.append_nil]
          simp only [isi_at ht, a1, a2, a3, a4, a6, a7, tru_bl, Bool.not_false, if_true, Fe.bind_ok, Fe.bind_exc, Fe.lift_ok, Fe.lift_exc, Fe.seq_nx, Fe.seq_rt, Fe.seq_exc, Fe.v_non, Fe.v_bl, Fe.v_int, Fe.v_str, Fe.v_var, Fe.v_con, Fe.v_bin, Fe.v_neg, Fe.v_cmp, Fe.v_chn, Fe.v_and, Fe.v_or, Fe.v_not, Fe.v_ite, Fe.v_tup, Fe.v_lst, Fe.v_ix, Fe.v_sl, Fe.v_call, Fe.v_bi, Fe.v_isi, Fe.v_me, Fe.v_lc, Fe.v_dct, Fe.v_rev, Fe.o_no, Fe.o_int, Fe.o_var, Fe.o_bin, Fe.o_neg, Fe.o_ite, Fe.asI_int, Fe.t_no, Fe.t_cmp, Fe.t_chn, Fe.t_and, Fe.t_or, Fe.t_not, Fe.t_call, Fe.t_var, Fe.t_isi, Fe.t_bi, Fe.sems_nil, Fe.sems_cons, Fe.args_nil, Fe.args_cons, Fe.andV_1, Fe.andV_2, Fe.orV_1, Fe.orV_2, Fe.andT_1, Fe.andT_2, Fe.orT_1, Fe.orT_2, Fe.i_rng, Fe.i_tup, Fe.i_var, Fe.x_nil, Fe.x_cons, Fe.x_set, Fe.x_ret, Fe.x_expr, Fe.x_ite, Fe.x_sub, Fe.x_par, Fe.x_asg, Fe.x_for, Fe.x_rais, lk_0, lk_s, int_int, add_int, Cm.f, Ar.f, Bi.f, Me.f, Me.T, liftT, List.set_cons_succ, List.set_cons_zero, entry, if_neg h1]
          rcases h3 with h3 | ⟨h3, h4⟩
          · simp only [if_pos h3]; rfl
          · simp only [if_neg h3, if_pos h4]; rfl
  obtain ⟨h, e⟩ := e
  rw [e]; exact ret_garb

/-! ### what is drawn -/
abbrev nums : List Int := [0, 1, 2, 3, 4, -1, 10 ^ 40 - 1, 10 ^ 40, 10 ^ 60, -10 ^ 40]
abbrev texts : List (List Nat) := [wB, wF, wK, wN, wOn, wSl, wWay, wEnd, wBell, [], [66, 97, 99, 107], wTi]
abbrev numsE : List E := [(.int 0), (.int 1), (.int 2), (.int 3), (.int 4), (.neg (.int 1)), (.bin .sub (.bin .pow (.int 10) (.int 40)) (.int 1)), (.bin .pow (.int 10) (.int 40)), (.bin .pow (.int 10) (.int 60)), (.neg (.bin .pow (.int 10) (.int 40)))]
abbrev textsE : List E := [(.str [98, 97, 99, 107]), (.str [102, 114, 111, 110, 116]), (.str [107, 101, 112, 116]), (.str [110, 101, 119]), (.str [111, 110]), (.str [115, 108, 101, 101, 112]), (.str [119, 97, 121]), (.str [101, 110, 100]), (.str [98, 101, 108, 108]), (.str []), (.str [66, 97, 99, 107]), (.str [116, 105, 99, 107, 115])]
variable {Γ : Nat → List D → Fe.S → Out D} {ρ : Fe.Env}
theorem numsE_v : (sem Γ (.lst numsE)).v ρ s = .ok (.ref s.length) (s ++ [.lst (nums.map D.int)]) := by kernel_rfl
theorem textsE_v : (sem Γ (.lst textsE)).v ρ s = .ok (.ref s.length) (s ++ [.lst (texts.map D.str)]) := by rfl
/-- odd values -/
inductive Odd (s : Fe.S) : D → Prop
  | int {n : Int} : n ∈ nums → Odd s (.int n)
  | str {c : List Nat} : c ∈ texts → Odd s (.str c)
  | non : Odd s .non
  | bl (b : Bool) : Odd s (.bl b)
  | tup0 : Odd s (.tup [])
  | tupi {n : Int} : n ∈ nums → Odd s (.tup [.int n])
  | tups {c : List Nat} : c ∈ texts → Odd s (.tup [.str c])
  | tupt : Odd s (.tup [.tup []])
  | lst0 {j : Nat} : s[j]? = some (.lst []) → Odd s (.ref j)
  | dct0 {j : Nat} : s[j]? = some (.dct []) → Odd s (.ref j)
  | lst1 {j : Nat} {c : List Nat} : c ∈ texts → s[j]? = some (.lst [.str c]) → Odd s (.ref j)
  | dct1 {j : Nat} {c : List Nat} {n : Int} : c ∈ texts → n ∈ nums → s[j]? = some (.dct [(.str c, .int n)]) → Odd s (.ref j)
theorem get_app {h : Fe.S} {j : Nat} {o : O} (e : s[j]? = some o) : (s ++ h)[j]? = some o := by
  rw [List.getElem?_append_left (List.getElem?_eq_some_iff.mp e).1]; exact e
theorem Odd.app {h : Fe.S} (o : Odd s v) : Odd (s ++ h) v := by
  cases o with
  | int a => exact .int a
  | str a => exact .str a
  | non => exact .non
  | bl b => exact .bl b
  | tup0 => exact .tup0
  | tupi a => exact .tupi a
  | tups a => exact .tups a
  | tupt => exact .tupt
  | lst0 e => exact .lst0 (get_app e)
  | dct0 e => exact .dct0 (get_app e)
  | lst1 a e => exact .lst1 a (get_app e)
  | dct1 a b e => exact .dct1 a b (get_app e)
theorem ty_ref {j : Nat} {o : O} (e : s[j]? = some o) : Good s (.ref j) := by
  cases o with
  | lst ds => exact ⟨.lst, by unfold tyOf; dsimp only; rw [e]⟩
  | rl ds => exact ⟨.lst, by unfold tyOf; dsimp only; rw [e]⟩
  | dct ds => exact ⟨.dct, by unfold tyOf; dsimp only; rw [e]⟩
theorem Odd.deep (o : Odd s v) : Deep s v := by
  cases o with
  | int a => exact ⟨.int, fun l h => by cases h⟩
  | str a => exact ⟨.str, fun l h => by cases h⟩
  | non => exact ⟨⟨_, rfl⟩, fun l h => by cases h⟩
  | bl b => exact ⟨⟨_, rfl⟩, fun l h => by cases h⟩
  | tup0 => exact ⟨.tup, fun l h a ha => by cases h; cases ha⟩
  | tupi a => exact ⟨.tup, fun l h a ha => by cases h; rw [List.mem_singleton.mp ha]; exact .int⟩
  | tups a => exact ⟨.tup, fun l h a ha => by cases h; rw [List.mem_singleton.mp ha]; exact .str⟩
  | tupt => exact ⟨.tup, fun l h a ha => by cases h; rw [List.mem_singleton.mp ha]; exact .tup⟩
  | lst0 e => exact ⟨ty_ref e, fun l h => by cases h⟩
  | dct0 e => exact ⟨ty_ref e, fun l h => by cases h⟩
  | lst1 a e => exact ⟨ty_ref e, fun l h => by cases h⟩
  | dct1 a b e => exact ⟨ty_ref e, fun l h => by cases h⟩
def shB (p : PySem.PyData) : Bool := p.showable && (decide (p.depth ≤ 60) && (decide (p.shown.length ≤ 16777216) && okS (codes p.shown)))
theorem sh_of {p : PySem.PyData} (e : pdR s v = some p) (h : shB p = true) : biRepr [v] s = .ok (.str (codes p.shown)) s := by
  show (match pdR s v with | some p => _ | none => _) = _
  rw [e]
  show (if shB p = true then _ else _) = _
  rw [if_pos h]
theorem pdR_lst {j : Nat} {ds : List D} (e : s[j]? = some (.lst ds)) : pdR s (.ref j) = pd s 60 (.ref j) := by
  show (match s[j]? with | some (.dct kvs) => _ | _ => _) = _
  rw [e]
theorem pd_lst {j : Nat} {ds : List D} (e : s[j]? = some (.lst ds)) : pd s 60 (.ref j) = (mapO (pd s 59) ds).map .list := by
  show (match getL s j with | some ds => _ | none => _) = _
  rw [getL_at e]
theorem pdR_dct {j : Nat} {kvs : List (D × D)} (e : s[j]? = some (.dct kvs)) : pdR s (.ref j) = (pdKv kvs).map .dict := by
  show (match s[j]? with | some (.dct kvs) => _ | _ => _) = _
  rw [e]
theorem sh_nums : ∀ n ∈ nums, shB (.int n) = true := by decide +kernel
theorem sh_texts : ∀ c ∈ texts, shB (.str ⟨c.toArray⟩) = true := by decide +kernel
theorem sh_numsT : ∀ n ∈ nums, shB (.tuple [.int n]) = true := by decide +kernel
theorem sh_textsT : ∀ c ∈ texts, shB (.tuple [.str ⟨c.toArray⟩]) = true := by decide +kernel
theorem sh_textsL : ∀ c ∈ texts, shB (.list [.str ⟨c.toArray⟩]) = true := by decide +kernel
theorem sh_dct : ∀ c ∈ texts, ∀ n ∈ nums, shB (.dict [(.str ⟨c.toArray⟩, .int n)]) = true := by decide +kernel
theorem Odd.shown (o : Odd s v) : ∃ c, biRepr [v] s = .ok (.str c) s := by
  cases o with
  | int a => exact ⟨_, sh_of rfl (sh_nums _ a)⟩
  | str a => exact ⟨_, sh_of rfl (sh_texts _ a)⟩
  | non => exact ⟨_, sh_of rfl (by decide +kernel)⟩
  | bl b => exact ⟨_, sh_of (p := .bool b) rfl (by cases b <;> decide +kernel)⟩
  | tup0 => exact ⟨_, sh_of (p := .tuple []) rfl (by decide +kernel)⟩
  | tupi a => exact ⟨_, sh_of (p := .tuple [.int _]) rfl (sh_numsT _ a)⟩
  | tups a => exact ⟨_, sh_of (p := .tuple [.str _]) rfl (sh_textsT _ a)⟩
  | tupt => exact ⟨_, sh_of (p := .tuple [.tuple []]) rfl (by decide +kernel)⟩
  | lst0 e => exact ⟨_, sh_of (p := .list []) ((pdR_lst e).trans (pd_lst e)) (by decide +kernel)⟩
  | dct0 e => exact ⟨_, sh_of (p := .dict []) (pdR_dct e) (by decide +kernel)⟩
  | lst1 a e => exact ⟨_, sh_of (p := .list [.str _]) ((pdR_lst e).trans (pd_lst e)) (sh_textsL _ a)⟩
  | dct1 a b e => exact ⟨_, sh_of (p := .dict [(.str _, .int _)]) (pdR_dct e) (sh_dct _ a _ b)⟩
/-- a word that is none is refused with its value -/
theorem f13 (g : Good s w) (hs : ∃ c, biRepr [w] s = .ok (.str c) s) (hw : isT w words = false) : callF T (k + 6) 13 [w, v] s = .ok (.bl true) s := by
  obtain ⟨c, hc⟩ := hs
  rw [call_at (d := t13) rfl rfl]
  show trimO s (retO (execs (callF T (k + 5)) b13 [some w, some v, none] s)) = _
  have e : execs (callF T (k + 5)) b13 [some w, some v, none] s = .rt (.bl true) s := by
    unfold b13
    rw [x_cons]
    have body : execs (callF T (k + 5)) [.expr (.call 11 [(.var 0), (.var 1)])] [some w, some v, none] s = .exc ⟨0, [w]⟩ [some w, some v, none] s := by
      simp only [Fe.bind_ok, Fe.bind_exc, Fe.lift_ok, Fe.lift_exc, Fe.seq_nx, Fe.seq_rt, Fe.seq_exc, Fe.v_non, Fe.v_bl, Fe.v_int, Fe.v_str, Fe.v_var, Fe.v_con, Fe.v_bin, Fe.v_neg, Fe.v_cmp, Fe.v_chn, Fe.v_and, Fe.v_or, Fe.v_not, Fe.v_ite, Fe.v_tup, Fe.v_lst, Fe.v_ix, Fe.v_sl, Fe.v_call, Fe.v_bi, Fe.v_isi, Fe.v_me, Fe.v_lc, Fe.v_dct, Fe.v_rev, Fe.o_no, Fe.o_int, Fe.o_var, Fe.o_bin, Fe.o_neg, Fe.o_ite, Fe.asI_int, Fe.t_no, Fe.t_cmp, Fe.t_chn, Fe.t_and, Fe.t_or, Fe.t_not, Fe.t_call, Fe.t_var, Fe.t_isi, Fe.t_bi, Fe.sems_nil, Fe.sems_cons, Fe.args_nil, Fe.args_cons, Fe.andV_1, Fe.andV_2, Fe.orV_1, Fe.orV_2, Fe.andT_1, Fe.andT_2, Fe.orT_1, Fe.orT_2, Fe.i_rng, Fe.i_tup, Fe.i_var, Fe.x_nil, Fe.x_cons, Fe.x_set, Fe.x_ret, Fe.x_expr, Fe.x_ite, Fe.x_sub, Fe.x_par, Fe.x_asg, Fe.x_for, Fe.x_rais, lk_0, lk_s, int_int, add_int, Cm.f, Ar.f, Bi.f, Me.f, Me.T, liftT, List.set_cons_succ, List.set_cons_zero, f11x g hw]
    have suite : semX (callF T (k + 5)) (.cmp .eq (.bi .repr (.fld 0)) (.of (.bi .repr [(.var 0)]))) ⟨0, [w]⟩ [some w, some v, none] s = .ok (.bl true) s := by
      unfold semX semX
      show ((fldX 0 ⟨0, [w]⟩ s).bind fun u s => biRepr [u] s).bind _ = _
      have h1 : fldX 0 ⟨0, [w]⟩ s = .ok w s := rfl
      rw [h1, bind_ok, hc, bind_ok]
      simp only [semX, Fe.bind_ok, Fe.bind_exc, Fe.lift_ok, Fe.lift_exc, Fe.seq_nx, Fe.seq_rt, Fe.seq_exc, Fe.v_non, Fe.v_bl, Fe.v_int, Fe.v_str, Fe.v_var, Fe.v_con, Fe.v_bin, Fe.v_neg, Fe.v_cmp, Fe.v_chn, Fe.v_and, Fe.v_or, Fe.v_not, Fe.v_ite, Fe.v_tup, Fe.v_lst, Fe.v_ix, Fe.v_sl, Fe.v_call, Fe.v_bi, Fe.v_isi, Fe.v_me, Fe.v_lc, Fe.v_dct, Fe.v_rev, Fe.o_no, Fe.o_int, Fe.o_var, Fe.o_bin, Fe.o_neg, Fe.o_ite, Fe.asI_int, Fe.t_no, Fe.t_cmp, Fe.t_chn, Fe.t_and, Fe.t_or, Fe.t_not, Fe.t_call, Fe.t_var, Fe.t_isi, Fe.t_bi, Fe.sems_nil, Fe.sems_cons, Fe.args_nil, Fe.args_cons, Fe.andV_1, Fe.andV_2, Fe.orV_1, Fe.orV_2, Fe.andT_1, Fe.andT_2, Fe.orT_1, Fe.orT_2, Fe.i_rng, Fe.i_tup, Fe.i_var, Fe.x_nil, Fe.x_cons, Fe.x_set, Fe.x_ret, Fe.x_expr, Fe.x_ite, Fe.x_sub, Fe.x_par, Fe.x_asg, Fe.x_for, Fe.x_rais, lk_0, lk_s, int_int, add_int, Cm.f, Ar.f, Bi.f, Me.f, Me.T, liftT, List.set_cons_succ, List.set_cons_zero, hc, eq_str, beq_self_eq_true]
    have st : exec (callF T (k + 5)) (.tryA [.expr (.call 11 [(.var 0), (.var 1)])] 2 0 1 [0] (.cmp .eq (.bi .repr (.fld 0)) (.of (.bi .repr [(.var 0)])))) [some w, some v, none] s = .rt (.bl true) s := by
      show (match execs (callF T (k + 5)) [.expr (.call 11 [(.var 0), (.var 1)])] [some w, some v, none] s with | .exc y ρ' s' => _ | o => o) = _
      rw [body]
      show (match semX (callF T (k + 5)) (.cmp .eq (.bi .repr (.fld 0)) (.of (.bi .repr [(.var 0)]))) ⟨0, [w]⟩ [some w, some v, none] s with | .ok d s => SOut.rt d s | _ => .bad) = _
      rw [suite]
    rw [st]
    rfl
  rw [e]; exact ret_bl
end
end K00

set_option maxHeartbeats 4000000
namespace K00
open Fe
open L2 (atI ixN)
section
variable {k : Nat} {s : Fe.S} {v w : D} {Γ : Nat → List D → Fe.S → Out D} {ρ : Fe.Env}
theorem set_app {s h : Fe.S} {i : Nat} {o : O} (hi : i < s.length) : (s ++ h).set i o = s.set i o ++ h := List.set_append_left _ _ hi
/-- one drawn of a new list -/
theorem pick_new {i : Nat} {ds : List D} (hs : Dice s i) (h0 : ds ≠ []) (h1 : ds.length < 2 ^ 60) (hr : ∀ d ∈ ds, ∀ m, d = .ref m → m < s.length) :
    ∃ d ∈ ds, ∃ o, Dice (s.set i o) i ∧ callF T (k + 2) 3 [.ref i, .ref s.length] (s ++ [O.lst ds]) = .ok d (s.set i o ++ [O.lst ds]) := by
  have hl := hs.lt
  obtain ⟨n, hn, o, hd, e⟩ := pick_spec (k := k) (T := T) (f := 3) (g := 14) (s := s ++ [O.lst ds]) (i := i) (j := s.length) (ds := ds) (e := rfl) rfl rfl (e' := rfl) rfl rfl hs.app at_end (Nat.ne_of_lt hl) h0 h1 (fun d hd m hm => by
    have := hr d hd m hm
    rw [List.length_append]; omega)
  rw [set_app hl] at hd e
  obtain ⟨a, b, c, ho⟩ := Dice.of_set (s := s ++ [O.lst ds]) (i := i) (o := o) (by rw [set_app hl]; exact hd)
  exact ⟨ds[n], List.getElem_mem hn, o, dice_set hl ⟨a, b, c, ho⟩, e⟩
theorem roll_at {i : Nat} {u : Int} (hs : Dice s i) (h0 : 0 < u) (h1 : u < 2 ^ 64) : ∃ (r : Int) (o : O), 0 ≤ r ∧ r < u ∧ Dice (s.set i o) i ∧ callF T (k + 1) 14 [.ref i, .int u] s = .ok (.int r) (s.set i o) :=
  roll_spec (T := T) (f := 14) (e := rfl) rfl rfl hs h0 h1
theorem pick_num {i : Nat} (hs : Dice s i) : ∃ n ∈ nums, ∃ o, Dice (s.set i o) i ∧ callF T (k + 2) 3 [.ref i, .ref s.length] (s ++ [O.lst (nums.map D.int)]) = .ok (.int n) (s.set i o ++ [O.lst (nums.map D.int)]) := by
  obtain ⟨d, hd, o, h1, h2⟩ := pick_new (k := k) (ds := nums.map D.int) hs (by simp) (by simp) (fun d hd m hm => by
    obtain ⟨x, _, rfl⟩ := List.mem_map.mp hd
    cases hm)
  obtain ⟨n, hn, rfl⟩ := List.mem_map.mp hd
  exact ⟨n, hn, o, h1, h2⟩
theorem pick_text {i : Nat} (l : List (List Nat)) (h0 : l ≠ []) (hl : l.length < 100) (hs : Dice s i) : ∃ n ∈ l, ∃ o, Dice (s.set i o) i ∧ callF T (k + 2) 3 [.ref i, .ref s.length] (s ++ [O.lst (l.map D.str)]) = .ok (.str n) (s.set i o ++ [O.lst (l.map D.str)]) := by
  obtain ⟨d, hd, o, h1, h2⟩ := pick_new (k := k) (ds := l.map D.str) hs (by simpa using h0) (by rw [List.length_map]; omega) (fun d hd m hm => by
    obtain ⟨x, _, rfl⟩ := List.mem_map.mp hd
    cases hm)
  obtain ⟨n, hn, rfl⟩ := List.mem_map.mp hd
  exact ⟨n, hn, o, h1, h2⟩
theorem dct0_v : dctV (pairsOf [] []) ρ s = .ok (.ref s.length) (s ++ [.dct []]) := by
  unfold dctV
  show (if (decide ((s ++ [O.dct []])[s.length]? = some (.dct [])) && _) = true then Out.ok (D.ref s.length) ((s ++ [O.dct []]).set s.length (.dct [])) else .bad) = _
  rw [at_end]
  simp [keysOk]

theorem dct1_v {x0 x3 : Option D} {n : Int} {c : List Nat} : dctV (pairsOf [sem Γ (.var 2)] [sem Γ (.var 1)]) [x0, some (.int n), some (.str c), x3] s = .ok (.ref s.length) (s ++ [.dct [(.str c, .int n)]]) := by
  unfold dctV
  show (if (decide ((s ++ [O.dct []])[s.length]? = some (.dct [])) && _) = true then Out.ok (D.ref s.length) ((s ++ [O.dct []]).set s.length (.dct [(.str c, .int n)])) else .bad) = _
  rw [at_end]
  simp [keysOk, keyOf]
theorem tup0_v : mkTup [] s = .ok (.tup []) s := rfl
theorem mkT1 {a : D} : mkTup [a] s = .ok (.tup [a]) s := rfl
theorem mkL0 : mkLst [] s = .ok (.ref s.length) (s ++ [O.lst []]) := rfl
theorem mkL1 {a : D} : mkLst [a] s = .ok (.ref s.length) (s ++ [O.lst [a]]) := rfl
abbrev someE : List E := [(.var 1), (.var 2), .non, (.bl true), (.bl false), (.lst []), (.dct [] []), (.tup []), (.tup [(.var 1)]), (.lst [(.var 2)]), (.tup [(.var 2)]), (.dct [(.var 2)] [(.var 1)]), (.tup [(.tup [])])]
def items (n : Int) (c : List Nat) (m : Nat) : List D := [.int n, .str c, .non, .bl true, .bl false, .ref m, .ref (m + 1), .tup [], .tup [.int n], .ref (m + 2), .tup [.str c], .ref (m + 3), .tup [.tup []]]
def news (n : Int) (c : List Nat) : Fe.S := [.lst [], .dct [], .lst [.str c], .dct [(.str c, .int n)]]
theorem mkL13 {n : Int} {c : List Nat} {m : Nat} : mkLst (items n c m) s = .ok (.ref s.length) (s ++ [O.lst (items n c m)]) := rfl
theorem some_v {x0 x3 : Option D} {n : Int} {c : List Nat} : (sem Γ (.lst someE)).v [x0, some (.int n), some (.str c), x3] s = .ok (.ref (s.length + 4)) (s ++ news n c ++ [O.lst (items n c s.length)]) := by
  rw [v_lst]
  simp only [sems_cons, sems_nil, args_cons, args_nil, Fe.bind_ok, Fe.bind_exc, Fe.lift_ok, Fe.lift_exc, Fe.seq_nx, Fe.seq_rt, Fe.seq_exc, Fe.v_non, Fe.v_bl, Fe.v_int, Fe.v_str, Fe.v_var, Fe.v_con, Fe.v_bin, Fe.v_neg, Fe.v_cmp, Fe.v_chn, Fe.v_and, Fe.v_or, Fe.v_not, Fe.v_ite, Fe.v_tup, Fe.v_lst, Fe.v_ix, Fe.v_sl, Fe.v_call, Fe.v_bi, Fe.v_isi, Fe.v_me, Fe.v_lc, Fe.v_dct, Fe.v_rev, Fe.o_no, Fe.o_int, Fe.o_var, Fe.o_bin, Fe.o_neg, Fe.o_ite, Fe.asI_int, Fe.t_no, Fe.t_cmp, Fe.t_chn, Fe.t_and, Fe.t_or, Fe.t_not, Fe.t_call, Fe.t_var, Fe.t_isi, Fe.t_bi, Fe.sems_nil, Fe.sems_cons, Fe.args_nil, Fe.args_cons, Fe.andV_1, Fe.andV_2, Fe.orV_1, Fe.orV_2, Fe.andT_1, Fe.andT_2, Fe.orT_1, Fe.orT_2, Fe.i_rng, Fe.i_tup, Fe.i_var, Fe.x_nil, Fe.x_cons, Fe.x_set, Fe.x_ret, Fe.x_expr, Fe.x_ite, Fe.x_sub, Fe.x_par, Fe.x_asg, Fe.x_for, Fe.x_rais, lk_0, lk_s, int_int, add_int, Cm.f, Ar.f, Bi.f, Me.f, Me.T, liftT, List.set_cons_succ, List.set_cons_zero, dct0_v, dct1_v, mkT1, mkL0, mkL1, tup0_v]
  simp only [List.length_append, List.length_cons, List.length_nil, Nat.zero_add, List.append_assoc, List.cons_append, List.nil_append, Nat.add_assoc, Nat.reduceAdd]
  have h := mkL13 (s := s ++ news n c) (n := n) (c := c) (m := s.length)
  unfold items news at h
  simp only [List.length_append, List.length_cons, List.length_nil, Nat.zero_add, List.append_assoc, List.cons_append, List.nil_append, Nat.add_assoc, Nat.reduceAdd] at h
  rw [h]
  rfl
theorem args_two {m1 m2 : Sm} : argsV [m1, m2] ρ s = (m1.v ρ s).bind fun x s => (m2.v ρ s).bind fun y s => .ok [x, y] s := by
  show (m1.v ρ s).bind (fun x s => ((m2.v ρ s).bind fun y s => (Out.ok [] s).bind fun xs s => .ok (y :: xs) s).bind fun xs s => .ok (x :: xs) s) = _
  refine congrArg (fun f => (m1.v ρ s).bind f) (funext fun x => funext fun s => ?_)
  cases m2.v ρ s <;> rfl
theorem f2 {i : Nat} (hs : Dice s i) : ∃ o v g, Dice (s.set i o) i ∧ Odd (s.set i o ++ g) v ∧ callF T (k + 3) 2 [.ref i] s = .ok v (s.set i o ++ g) := by
  have hl := hs.lt
  rw [call_at (d := t2) rfl rfl]
  show ∃ o v g, _ ∧ _ ∧ trimO s (retO (execs (callF T (k + 2)) b2 [some (.ref i), none, none, none] s)) = _
  obtain ⟨n, hn, o1, d1, e1⟩ := pick_num (k := k) hs
  have d1' : Dice (s.set i o1 ++ [O.lst (nums.map D.int)]) i := d1.app
  obtain ⟨c, hc, o2, d2, e2⟩ := pick_text (k := k) texts (by simp) (by decide) d1'
  have q1 : (s.set i o1 ++ [O.lst (nums.map D.int)]).set i o2 = s.set i o2 ++ [O.lst (nums.map D.int)] := by rw [set_app (by simpa using hl), List.set_set]
  rw [q1] at e2 d2
  have hd2 : Dice (s.set i o2) i := by
    obtain ⟨a, b, c, ho⟩ := Dice.of_set (s := s ++ [O.lst (nums.map D.int)]) (i := i) (o := o2) (by rw [set_app hl]; exact d2)
    exact dice_set hl ⟨a, b, c, ho⟩
  generalize hS : s.set i o2 ++ [O.lst (nums.map D.int)] ++ [O.lst (texts.map D.str)] = S2 at e2
  have dS : Dice S2 i := by rw [← hS]; exact d2.app
  -- the list of all
  have hlS : i < S2.length := dS.lt
  have dS3 : Dice (S2 ++ news n c ++ [O.lst (items n c S2.length)]) i := dS.app.app
  have at4 : (S2 ++ news n c ++ [O.lst (items n c S2.length)])[S2.length + 4]? = some (.lst (items n c S2.length)) := by
    have : S2.length + 4 = (S2 ++ news n c).length := by rw [List.length_append]; rfl
    rw [this]; exact at_end
  obtain ⟨m, hm, o3, d3, e3⟩ := pick_spec (k := k) (T := T) (f := 3) (g := 14) (s := S2 ++ news n c ++ [O.lst (items n c S2.length)]) (i := i) (j := S2.length + 4) (ds := items n c S2.length) (e := rfl) rfl rfl (e' := rfl) rfl rfl dS3 at4 (by omega) (by unfold items; simp) (by unfold items; simp) (fun d hd m hm => by
    subst hm
    have : m < S2.length + 4 := by
      unfold items at hd
      simp only [List.mem_cons, List.not_mem_nil, or_false] at hd
      simp at hd
      omega
    simp only [List.length_append, List.length_singleton]
    have : (news n c).length = 4 := rfl
    omega)
  have run : execs (callF T (k + 2)) b2 [some (.ref i), none, none, none] s = .rt (items n c S2.length)[m] ((S2 ++ news n c ++ [O.lst (items n c S2.length)]).set i o3) := by
    unfold b2
    have n1 : ∀ (Γ : Nat → List D → Fe.S → Out D) (ρ : Fe.Env) (s : Fe.S), (sem Γ (.lst numsE)).v ρ s = .ok (.ref s.length) (s ++ [O.lst (nums.map D.int)]) := fun _ _ _ => numsE_v
    have n2 : ∀ (Γ : Nat → List D → Fe.S → Out D) (ρ : Fe.Env) (s : Fe.S), (sem Γ (.lst textsE)).v ρ s = .ok (.ref s.length) (s ++ [O.lst (texts.map D.str)]) := fun _ _ _ => textsE_v
    rw [x_cons]
    have s1 : exec (callF T (k + 2)) (.set 1 (.call 3 [(.var 0), (.lst numsE)])) [some (.ref i), none, none, none] s = .nx [some (.ref i), some (.int n), none, none] (s.set i o1 ++ [O.lst (nums.map D.int)]) := by
      rw [x_set, v_call, sems_cons, sems_cons, sems_nil, args_two, v_var, lk_0, bind_ok, n1]
      simp only [Fe.bind_ok, Fe.bind_exc, Fe.lift_ok, Fe.lift_exc, Fe.seq_nx, Fe.seq_rt, Fe.seq_exc, Fe.v_non, Fe.v_bl, Fe.v_int, Fe.v_str, Fe.v_var, Fe.v_con, Fe.v_bin, Fe.v_neg, Fe.v_cmp, Fe.v_chn, Fe.v_and, Fe.v_or, Fe.v_not, Fe.v_ite, Fe.v_tup, Fe.v_lst, Fe.v_ix, Fe.v_sl, Fe.v_call, Fe.v_bi, Fe.v_isi, Fe.v_me, Fe.v_lc, Fe.v_dct, Fe.v_rev, Fe.o_no, Fe.o_int, Fe.o_var, Fe.o_bin, Fe.o_neg, Fe.o_ite, Fe.asI_int, Fe.t_no, Fe.t_cmp, Fe.t_chn, Fe.t_and, Fe.t_or, Fe.t_not, Fe.t_call, Fe.t_var, Fe.t_isi, Fe.t_bi, Fe.sems_nil, Fe.sems_cons, Fe.args_nil, Fe.args_cons, Fe.andV_1, Fe.andV_2, Fe.orV_1, Fe.orV_2, Fe.andT_1, Fe.andT_2, Fe.orT_1, Fe.orT_2, Fe.i_rng, Fe.i_tup, Fe.i_var, Fe.x_nil, Fe.x_cons, Fe.x_set, Fe.x_ret, Fe.x_expr, Fe.x_ite, Fe.x_sub, Fe.x_par, Fe.x_asg, Fe.x_for, Fe.x_rais, lk_0, lk_s, int_int, add_int, Cm.f, Ar.f, Bi.f, Me.f, Me.T, liftT, List.set_cons_succ, List.set_cons_zero, e1]
    rw [s1, seq_nx, x_cons]
    have s2 : exec (callF T (k + 2)) (.set 2 (.call 3 [(.var 0), (.lst textsE)])) [some (.ref i), some (.int n), none, none] (s.set i o1 ++ [O.lst (nums.map D.int)]) = .nx [some (.ref i), some (.int n), some (.str c), none] S2 := by
      rw [x_set, v_call, sems_cons, sems_cons, sems_nil, args_two, v_var, lk_0, bind_ok, n2]
      simp only [Fe.bind_ok, Fe.bind_exc, Fe.lift_ok, Fe.lift_exc, Fe.seq_nx, Fe.seq_rt, Fe.seq_exc, Fe.v_non, Fe.v_bl, Fe.v_int, Fe.v_str, Fe.v_var, Fe.v_con, Fe.v_bin, Fe.v_neg, Fe.v_cmp, Fe.v_chn, Fe.v_and, Fe.v_or, Fe.v_not, Fe.v_ite, Fe.v_tup, Fe.v_lst, Fe.v_ix, Fe.v_sl, Fe.v_call, Fe.v_bi, Fe.v_isi, Fe.v_me, Fe.v_lc, Fe.v_dct, Fe.v_rev, Fe.o_no, Fe.o_int, Fe.o_var, Fe.o_bin, Fe.o_neg, Fe.o_ite, Fe.asI_int, Fe.t_no, Fe.t_cmp, Fe.t_chn, Fe.t_and, Fe.t_or, Fe.t_not, Fe.t_call, Fe.t_var, Fe.t_isi, Fe.t_bi, Fe.sems_nil, Fe.sems_cons, Fe.args_nil, Fe.args_cons, Fe.andV_1, Fe.andV_2, Fe.orV_1, Fe.orV_2, Fe.andT_1, Fe.andT_2, Fe.orT_1, Fe.orT_2, Fe.i_rng, Fe.i_tup, Fe.i_var, Fe.x_nil, Fe.x_cons, Fe.x_set, Fe.x_ret, Fe.x_expr, Fe.x_ite, Fe.x_sub, Fe.x_par, Fe.x_asg, Fe.x_for, Fe.x_rais, lk_0, lk_s, int_int, add_int, Cm.f, Ar.f, Bi.f, Me.f, Me.T, liftT, List.set_cons_succ, List.set_cons_zero, e2]
    rw [s2, seq_nx, x_cons]
    have s3 : exec (callF T (k + 2)) (.set 3 (.lst someE)) [some (.ref i), some (.int n), some (.str c), none] S2 = .nx [some (.ref i), some (.int n), some (.str c), some (.ref (S2.length + 4))] (S2 ++ news n c ++ [O.lst (items n c S2.length)]) := by
      rw [x_set, some_v]
      simp only [Fe.bind_ok, Fe.bind_exc, Fe.lift_ok, Fe.lift_exc, Fe.seq_nx, Fe.seq_rt, Fe.seq_exc, Fe.v_non, Fe.v_bl, Fe.v_int, Fe.v_str, Fe.v_var, Fe.v_con, Fe.v_bin, Fe.v_neg, Fe.v_cmp, Fe.v_chn, Fe.v_and, Fe.v_or, Fe.v_not, Fe.v_ite, Fe.v_tup, Fe.v_lst, Fe.v_ix, Fe.v_sl, Fe.v_call, Fe.v_bi, Fe.v_isi, Fe.v_me, Fe.v_lc, Fe.v_dct, Fe.v_rev, Fe.o_no, Fe.o_int, Fe.o_var, Fe.o_bin, Fe.o_neg, Fe.o_ite, Fe.asI_int, Fe.t_no, Fe.t_cmp, Fe.t_chn, Fe.t_and, Fe.t_or, Fe.t_not, Fe.t_call, Fe.t_var, Fe.t_isi, Fe.t_bi, Fe.sems_nil, Fe.sems_cons, Fe.args_nil, Fe.args_cons, Fe.andV_1, Fe.andV_2, Fe.orV_1, Fe.orV_2, Fe.andT_1, Fe.andT_2, Fe.orT_1, Fe.orT_2, Fe.i_rng, Fe.i_tup, Fe.i_var, Fe.x_nil, Fe.x_cons, Fe.x_set, Fe.x_ret, Fe.x_expr, Fe.x_ite, Fe.x_sub, Fe.x_par, Fe.x_asg, Fe.x_for, Fe.x_rais, lk_0, lk_s, int_int, add_int, Cm.f, Ar.f, Bi.f, Me.f, Me.T, liftT, List.set_cons_succ, List.set_cons_zero]
    rw [s3, seq_nx]
    simp only [Fe.bind_ok, Fe.bind_exc, Fe.lift_ok, Fe.lift_exc, Fe.seq_nx, Fe.seq_rt, Fe.seq_exc, Fe.v_non, Fe.v_bl, Fe.v_int, Fe.v_str, Fe.v_var, Fe.v_con, Fe.v_bin, Fe.v_neg, Fe.v_cmp, Fe.v_chn, Fe.v_and, Fe.v_or, Fe.v_not, Fe.v_ite, Fe.v_tup, Fe.v_lst, Fe.v_ix, Fe.v_sl, Fe.v_call, Fe.v_bi, Fe.v_isi, Fe.v_me, Fe.v_lc, Fe.v_dct, Fe.v_rev, Fe.o_no, Fe.o_int, Fe.o_var, Fe.o_bin, Fe.o_neg, Fe.o_ite, Fe.asI_int, Fe.t_no, Fe.t_cmp, Fe.t_chn, Fe.t_and, Fe.t_or, Fe.t_not, Fe.t_call, Fe.t_var, Fe.t_isi, Fe.t_bi, Fe.sems_nil, Fe.sems_cons, Fe.args_nil, Fe.args_cons, Fe.andV_1, Fe.andV_2, Fe.orV_1, Fe.orV_2, Fe.andT_1, Fe.andT_2, Fe.orT_1, Fe.orT_2, Fe.i_rng, Fe.i_tup, Fe.i_var, Fe.x_nil, Fe.x_cons, Fe.x_set, Fe.x_ret, Fe.x_expr, Fe.x_ite, Fe.x_sub, Fe.x_par, Fe.x_asg, Fe.x_for, Fe.x_rais, lk_0, lk_s, int_int, add_int, Cm.f, Ar.f, Bi.f, Me.f, Me.T, liftT, List.set_cons_succ, List.set_cons_zero, e3]
  rw [run]
  have hv : (items n c S2.length)[m] ∈ items n c S2.length := List.getElem_mem hm
  generalize (items n c S2.length)[m] = v at hv
  have hl2 : S2.length = s.length + 2 := by rw [← hS]; simp
  have hS' : (S2 ++ news n c ++ [O.lst (items n c S2.length)]).set i o3 = s.set i o3 ++ ([O.lst (nums.map D.int)] ++ [O.lst (texts.map D.str)] ++ news n c ++ [O.lst (items n c S2.length)]) := by
    have : S2.set i o3 = s.set i o3 ++ ([O.lst (nums.map D.int)] ++ [O.lst (texts.map D.str)]) := by
      rw [← hS, List.append_assoc, set_app (by simpa using hl), List.set_set]
    rw [List.append_assoc, set_app hlS, this]
    simp only [List.append_assoc]
  rw [hS'] at d3 ⊢
  have hd3 : Dice (s.set i o3) i := by
    obtain ⟨a, b, c, ho⟩ := Dice.of_set (s := s ++ ([O.lst (nums.map D.int)] ++ [O.lst (texts.map D.str)] ++ news n c ++ [O.lst (items n c S2.length)])) (i := i) (o := o3) (by rw [set_app hl]; exact d3)
    exact dice_set hl ⟨a, b, c, ho⟩
  generalize hG : ([O.lst (nums.map D.int)] ++ [O.lst (texts.map D.str)] ++ news n c ++ [O.lst (items n c S2.length)] : Fe.S) = G at *
  have hlen : (s.set i o3).length = s.length := by simp
  have tk : (s.set i o3 ++ G).take s.length = s.set i o3 := by rw [← hlen, List.take_left']; rfl
  have le : s.length ≤ (s.set i o3 ++ G).length := by rw [List.length_append, hlen]; omega
  have so : sameOr s (s.set i o3 ++ G) = true := sameOr_of fun j hj => by
    by_cases hij : j = i
    · subst hij
      obtain ⟨o, e, f⟩ := hd3.app (g := G) |>.flat
      exact .inr ⟨o, e, f⟩
    · left
      rw [List.getElem?_append_left (by rw [hlen]; exact hj), List.getElem?_set_ne (Ne.symm hij)]
  have flat : ∀ v, v.flat = true → trimO s (retO (.rt v (s.set i o3 ++ G))) = .ok v (s.set i o3 ++ []) := fun v hv => by
    show trimO s (.ok v _) = _
    rw [trim_flat hv le so, tk, List.append_nil]
  have fresh : ∀ (j : Nat) (o : O), j < 4 → (news n c)[j]? = some o → o.flat = true → trimO s (retO (.rt (.ref (S2.length + j)) (s.set i o3 ++ G))) = .ok (.ref s.length) (s.set i o3 ++ [o]) := fun j o hj ho hf => by
    show trimO s (.ok (.ref (S2.length + j)) _) = _
    have e : (s.set i o3 ++ G)[S2.length + j]? = some o := by
      rw [List.getElem?_append_right (by rw [hlen, hl2]; omega), hlen, hl2, ← hG]
      have : s.length + 2 + j - s.length = j + 2 := by omega
      rw [this]
      show (news n c ++ _)[j]? = _
      rw [List.getElem?_append_left (by show j < 4; exact hj)]
      exact ho
    rw [trim_new (by omega) e hf le so, tk]
  have here : ∀ o : O, (s.set i o3 ++ [o])[s.length]? = some o := fun o => by rw [← hlen]; exact at_end
  unfold items at hv
  simp only [List.mem_cons, List.not_mem_nil, or_false] at hv
  rcases hv with h | h | h | h | h | h | h | h | h | h | h | h | h <;> subst h
  · exact ⟨o3, _, [], hd3, .int hn, flat _ rfl⟩
  · exact ⟨o3, _, [], hd3, .str hc, flat _ rfl⟩
  · exact ⟨o3, _, [], hd3, .non, flat _ rfl⟩
  · exact ⟨o3, _, [], hd3, .bl _, flat _ rfl⟩
  · exact ⟨o3, _, [], hd3, .bl _, flat _ rfl⟩
  · exact ⟨o3, _, _, hd3, .lst0 (here _), fresh 0 _ (by decide) rfl rfl⟩
  · exact ⟨o3, _, _, hd3, .dct0 (here _), fresh 1 _ (by decide) rfl rfl⟩
  · exact ⟨o3, _, [], hd3, .tup0, flat _ rfl⟩
  · exact ⟨o3, _, [], hd3, .tupi hn, flat _ rfl⟩
  · exact ⟨o3, _, _, hd3, .lst1 hc (here _), fresh 2 _ (by decide) rfl rfl⟩
  · exact ⟨o3, _, [], hd3, .tups hc, flat _ rfl⟩
  · exact ⟨o3, _, _, hd3, .dct1 hc hn (here _), fresh 3 _ (by decide) rfl rfl⟩
  · exact ⟨o3, _, [], hd3, .tupt, flat _ rfl⟩
end
end K00

set_option maxHeartbeats 4000000
namespace K00
open Fe
open L2 (atI ixN)
section
variable {k : Nat} {s s' s2 : Fe.S} {v w : D} {Γ : Nat → List D → Fe.S → Out D} {ρ : Fe.Env} {i : Nat}
/-- the store grew; the dice may have changed -/
structure Gr (i : Nat) (s s' : Fe.S) : Prop where
  dice : Dice s' i
  len : s.length ≤ s'.length
  same : ∀ j o, j ≠ i → s[j]? = some o → s'[j]? = some o
theorem Gr.refl (h : Dice s i) : Gr i s s := ⟨h, Nat.le_refl _, fun _ _ _ e => e⟩
theorem Gr.trans (a : Gr i s s') (b : Gr i s' s2) : Gr i s s2 := ⟨b.dice, Nat.le_trans a.len b.len, fun j o h e => b.same j o h (a.same j o h e)⟩
theorem Gr.app (a : Gr i s s') {h : Fe.S} : Gr i s (s' ++ h) := ⟨a.dice.app, Nat.le_trans a.len (by simp), fun j o hj e => get_app (a.same j o hj e)⟩
theorem gr_set {o : O} {g : Fe.S} (hi : i < s.length) (h : Dice (s.set i o) i) : Gr i s (s.set i o ++ g) :=
  ⟨h.app, by simp, fun j u hj e => get_app (by rw [List.getElem?_set_ne (Ne.symm hj)]; exact e)⟩
theorem Good.gr (g : Good s v) (hd : Dice s i) (h : Gr i s s') : Good s' v := by
  obtain ⟨t, ht⟩ := g
  cases v with
  | ref j =>
    by_cases hj : j = i
    · subst hj
      obtain ⟨a, b, c, e⟩ := h.dice
      exact ty_ref e
    · unfold tyOf at ht
      dsimp only at ht
      cases e : s[j]? with
      | none => rw [e] at ht; cases ht
      | some o => exact ty_ref (h.same j o hj e)
  | _ => exact ⟨t, ht⟩
theorem Deep.gr (g : Deep s v) (hd : Dice s i) (h : Gr i s s') : Deep s' v := ⟨g.1.gr hd h, fun l e a ha => (g.2 l e a ha).gr hd h⟩
theorem not_dice {j : Nat} {o : O} (hd : Dice s i) (e : s[j]? = some o) (h : ∀ a b c, o ≠ .lst [.int a, .int b, .int c]) : j ≠ i := fun q => by
  subst q
  obtain ⟨a, b, c, e2⟩ := hd
  rw [e] at e2
  exact h a b c (Option.some.inj e2)
theorem Odd.gr (o : Odd s v) (hd : Dice s i) (h : Gr i s s') : Odd s' v := by
  cases o with
  | int a => exact .int a
  | str a => exact .str a
  | non => exact .non
  | bl b => exact .bl b
  | tup0 => exact .tup0
  | tupi a => exact .tupi a
  | tups a => exact .tups a
  | tupt => exact .tupt
  | lst0 e => exact .lst0 (h.same _ _ (not_dice hd e (fun _ _ _ => by simp)) e)
  | dct0 e => exact .dct0 (h.same _ _ (not_dice hd e (fun _ _ _ => by simp)) e)
  | lst1 a e => exact .lst1 a (h.same _ _ (not_dice hd e (fun _ _ _ => by simp)) e)
  | dct1 a b e => exact .dct1 a b (h.same _ _ (not_dice hd e (fun _ _ _ => by simp)) e)
theorem roll_g {u : Int} (hs : Dice s i) (h0 : 0 < u) (h1 : u < 2 ^ 64) : ∃ (r : Int) (s' : Fe.S), 0 ≤ r ∧ r < u ∧ Gr i s s' ∧ callF T (k + 1) 14 [.ref i, .int u] s = .ok (.int r) s' := by
  obtain ⟨r, o, a, b, c, e⟩ := roll_at (k := k) hs h0 h1
  refine ⟨r, _, a, b, ?_, e⟩
  have := gr_set (g := []) hs.lt c
  rwa [List.append_nil] at this
theorem pick_g {ds : List D} (hs : Dice s i) (h0 : ds ≠ []) (h1 : ds.length < 2 ^ 60) (hr : ∀ d ∈ ds, ∀ m, d = .ref m → m < s.length) :
    ∃ d ∈ ds, ∃ s', Gr i s s' ∧ callF T (k + 2) 3 [.ref i, .ref s.length] (s ++ [O.lst ds]) = .ok d s' := by
  obtain ⟨d, hd, o, a, e⟩ := pick_new (k := k) hs h0 h1 hr
  exact ⟨d, hd, _, gr_set hs.lt a, e⟩
theorem pick_s (l : List (List Nat)) (h0 : l ≠ []) (hl : l.length < 100) (hs : Dice s i) : ∃ n ∈ l, ∃ s', Gr i s s' ∧ callF T (k + 2) 3 [.ref i, .ref s.length] (s ++ [O.lst (l.map D.str)]) = .ok (.str n) s' := by
  obtain ⟨n, hn, o, a, e⟩ := pick_text (k := k) l h0 hl hs
  exact ⟨n, hn, _, gr_set hs.lt a, e⟩
theorem odd_g (hs : Dice s i) : ∃ v s', Gr i s s' ∧ Odd s' v ∧ callF T (k + 3) 2 [.ref i] s = .ok v s' := by
  obtain ⟨o, v, g, a, b, e⟩ := f2 (k := k) hs
  exact ⟨v, _, gr_set hs.lt a, b, e⟩

mutual
theorem flat_deep : ∀ v : D, v.flat = true → ∀ s : Fe.S, Good s v
  | .non, _, s => ⟨_, rfl⟩
  | .bl _, _, s => ⟨_, rfl⟩
  | .int _, _, s => ⟨_, rfl⟩
  | .str _, _, s => ⟨_, rfl⟩
  | .tup _, _, s => ⟨_, rfl⟩
  | .ref _, h, s => by cases h
theorem flats_mem : ∀ l : List D, D.flats l = true → ∀ a ∈ l, a.flat = true
  | [], _, a, ha => by cases ha
  | d :: l, h, a, ha => by
    have h' : d.flat = true ∧ D.flats l = true := by simpa [D.flats] using h
    rcases List.mem_cons.mp ha with e | ha
    · rw [e]; exact h'.1
    · exact flats_mem l h'.2 a ha
end
theorem deep_flat (h : v.flat = true) : Deep s v := ⟨flat_deep v h s, fun l e a ha => by
  subst e
  exact flat_deep a (flats_mem l (by simpa [D.flat] using h) a ha) s⟩
/-- what a call hands back stays deep -/
theorem trim_deep (h : Gr i s s') (g : Deep s' v) (hi : i < s.length) : ∃ v' t, trimO s (.ok v s') = .ok v' t ∧ Gr i s t ∧ Deep t v' := by
  have grt : ∀ u : Fe.S, Gr i s (s'.take s.length ++ u) := fun u => by
    have hl : (s'.take s.length).length = s.length := by rw [List.length_take]; have := h.len; omega
    refine ⟨?_, by rw [List.length_append, hl]; omega, fun j o hj e => ?_⟩
    · obtain ⟨a, b, c, e⟩ := h.dice
      exact ⟨a, b, c, get_app (by rw [List.getElem?_take_of_lt hi]; exact e)⟩
    · exact get_app (by rw [List.getElem?_take_of_lt (List.getElem?_eq_some_iff.mp e).1]; exact h.same j o hj e)
  show ∃ v' t, Out.ok (trim s v s').1 (trim s v s').2 = .ok v' t ∧ _
  unfold trim
  split
  · rename_i hc
    rw [Bool.and_eq_true] at hc
    refine ⟨v, _, rfl, ?_, deep_flat hc.1⟩
    have := grt []
    rwa [List.append_nil] at this
  · split
    · rename_i j _
      split
      · rename_i hc
        split
        · rename_i o ho
          split
          · refine ⟨_, _, rfl, grt [o], ?_, fun l e => by cases e⟩
            have hl : (s'.take s.length).length = s.length := by rw [List.length_take]; have := h.len; omega
            refine ty_ref (o := o) ?_
            have := at_end (s := s'.take s.length) (o := o)
            rw [hl] at this
            exact this
          · exact ⟨_, _, rfl, h, g⟩
        · exact ⟨_, _, rfl, h, g⟩
      · exact ⟨_, _, rfl, h, g⟩
    · exact ⟨_, _, rfl, h, g⟩
end
end K00

set_option maxHeartbeats 4000000
namespace K00
open Fe
open L2 (atI ixN)
section
variable {k : Nat} {s s' s2 : Fe.S} {v w : D} {Γ : Nat → List D → Fe.S → Out D} {ρ : Fe.Env} {i : Nat}
theorem add_lst {p q : Nat} {a b : List D} (h1 : s[p]? = some (.lst a)) (h2 : s[q]? = some (.lst b)) (h : a.length + b.length ≤ line) : opAdd (.ref p) (.ref q) s = .ok (.ref s.length) (s ++ [O.lst (a ++ b)]) := by
  show (match s[p]?, s[q]? with | some (.lst a), some (.lst b) => _ | _, _ => _) = _
  rw [h1, h2]
  show (if a.length + b.length ≤ line then _ else _) = _
  rw [if_pos h]
theorem sl_lst {p : Nat} {a : List D} {lo hi : Option Int} (h : s[p]? = some (.lst a)) : opSl (.ref p) lo hi s = .ok (.ref s.length) (s ++ [O.lst (cut a lo hi)]) := by
  show (match getL s p with | some ds => _ | none => _) = _
  rw [getL_at h]
theorem tup_lst {p : Nat} {a : List D} (h : s[p]? = some (.lst a)) : biTup [.ref p] s = .ok (.tup a) s := by
  show (match getL s p with | some ds => _ | none => _) = _
  rw [getL_at h]
theorem lst_lst {p : Nat} {a : List D} (h : s[p]? = some (.lst a)) : biLst [.ref p] s = .ok (.ref s.length) (s ++ [O.lst a]) := by
  show (match itemsOf s (.ref p) with | some ds => _ | none => _) = _
  have : itemsOf s (.ref p) = some a := getL_at h
  rw [this]
theorem rev_lst {p : Nat} {a : List D} (h : s[p]? = some (.lst a)) : opRev (.ref p) s = .ok (.ref s.length) (s ++ [O.lst a.reverse]) := by
  show (match getL s p with | some ds => _ | none => _) = _
  rw [getL_at h]
theorem dice_ne {j : Nat} (h : Dice s i) (hj : s.length ≤ j) : j ≠ i := by have := h.lt; omega
theorem gr_end {o : O} (h : Dice s i) : Gr i s (s ++ [o]) := (Gr.refl h).app
abbrev foundE : E := (.bin .add (.lst [(.call 14 [(.var 0), (.int 3)]), (.call 3 [(.var 0), (.lst [(.str [98, 97, 99, 107]), (.str [102, 114, 111, 110, 116])])])]) (.lst [(.call 3 [(.var 0), (.lst [(.str [107, 101, 112, 116]), (.str [110, 101, 119])])])]))
theorem found_spec (hs : Dice s i) {x1 : Option D} {ρ : Fe.Env} : ∃ (r : Int) (t1 t2 : List Nat) (s' : Fe.S) (m : Nat), Gr i s s' ∧ m ≠ i ∧ s'[m]? = some (.lst [.int r, .str t1, .str t2]) ∧ (sem (callF T (k + 3)) foundE).v (some (.ref i) :: x1 :: ρ) s = .ok (.ref m) s' := by
  obtain ⟨r, s1, _, _, g1, e1⟩ := roll_g (k := k + 2) (u := 3) hs (by decide) (by decide)
  obtain ⟨t1, _, s2, g2, e2⟩ := pick_s (k := k + 1) [wB, wF] (by simp) (by decide) g1.dice
  have g3 : Gr i s2 (s2 ++ [O.lst [.int r, .str t1]]) := gr_end g2.dice
  obtain ⟨t2, _, s4, g4, e4⟩ := pick_s (k := k + 1) [wK, wN] (by simp) (by decide) g3.dice
  have g5 : Gr i s4 (s4 ++ [O.lst [.str t2]]) := gr_end g4.dice
  have q1 : (s4 ++ [O.lst [.str t2]])[s2.length]? = some (.lst [.int r, .str t1]) := get_app (g4.same _ _ (dice_ne g2.dice (Nat.le_refl _)) at_end)
  have ad := add_lst q1 (at_end (s := s4) (o := O.lst [.str t2])) (by show 3 ≤ line; decide)
  have g6 : Gr i (s4 ++ [O.lst [.str t2]]) (s4 ++ [O.lst [.str t2]] ++ [O.lst ([.int r, .str t1] ++ [.str t2])]) := gr_end g5.dice
  have all : Gr i s (s4 ++ [O.lst [.str t2]] ++ [O.lst ([.int r, .str t1] ++ [.str t2])]) := g1.trans (g2.trans (g3.trans (g4.trans (g5.trans g6))))
  refine ⟨r, t1, t2, _, _, all, dice_ne g5.dice (Nat.le_refl _), at_end, ?_⟩
  unfold foundE
  have ml : ∀ (a b : D) (s : Fe.S), mkLst [a, b] s = .ok (.ref s.length) (s ++ [O.lst [a, b]]) := fun _ _ _ => rfl
  have e2' : callF T (k + 3) 3 [.ref i, .ref s1.length] (s1 ++ [O.lst [.str wB, .str wF]]) = .ok (.str t1) s2 := e2
  have e4' : callF T (k + 3) 3 [.ref i, .ref (s2 ++ [O.lst [.int r, .str t1]]).length] (s2 ++ [O.lst [.int r, .str t1]] ++ [O.lst [.str wK, .str wN]]) = .ok (.str t2) s4 := e4
  simp only [Fe.bind_ok, Fe.bind_exc, Fe.lift_ok, Fe.lift_exc, Fe.seq_nx, Fe.seq_rt, Fe.seq_exc, Fe.v_non, Fe.v_bl, Fe.v_int, Fe.v_str, Fe.v_var, Fe.v_con, Fe.v_bin, Fe.v_neg, Fe.v_cmp, Fe.v_chn, Fe.v_and, Fe.v_or, Fe.v_not, Fe.v_ite, Fe.v_tup, Fe.v_lst, Fe.v_ix, Fe.v_sl, Fe.v_call, Fe.v_bi, Fe.v_isi, Fe.v_me, Fe.v_lc, Fe.v_dct, Fe.v_rev, Fe.o_no, Fe.o_int, Fe.o_var, Fe.o_bin, Fe.o_neg, Fe.o_ite, Fe.asI_int, Fe.t_no, Fe.t_cmp, Fe.t_chn, Fe.t_and, Fe.t_or, Fe.t_not, Fe.t_call, Fe.t_var, Fe.t_isi, Fe.t_bi, Fe.sems_nil, Fe.sems_cons, Fe.args_nil, Fe.args_cons, Fe.andV_1, Fe.andV_2, Fe.orV_1, Fe.orV_2, Fe.andT_1, Fe.andT_2, Fe.orT_1, Fe.orT_2, Fe.i_rng, Fe.i_tup, Fe.i_var, Fe.x_nil, Fe.x_cons, Fe.x_set, Fe.x_ret, Fe.x_expr, Fe.x_ite, Fe.x_sub, Fe.x_par, Fe.x_asg, Fe.x_for, Fe.x_rais, lk_0, lk_s, int_int, add_int, Cm.f, Ar.f, Bi.f, Me.f, Me.T, liftT, List.set_cons_succ, List.set_cons_zero, e1, ml, e2', mkL1, e4', ad]
theorem simple_pick {ds : List D} (hs : Dice s i) (h0 : ds ≠ []) (h1 : ds.length < 2 ^ 60) (hf : D.flats ds = true) : ∃ d s', Gr i s s' ∧ Deep s' d ∧ callF T (k + 2) 3 [.ref i, .ref s.length] (s ++ [O.lst ds]) = .ok d s' := by
  obtain ⟨d, hd, s', g, e⟩ := pick_g (k := k) hs h0 h1 (fun d hd m hm => by
    have := flats_mem ds hf d hd
    rw [hm] at this
    cases this)
  exact ⟨d, s', g, deep_flat (flats_mem ds hf d hd), e⟩
abbrev listE : List E := [.non, (.int 0), (.int 1), (.int 2), (.int 3), (.int 4), (.neg (.int 1)), (.bl true), (.bl false), (.tup [(.int 1)]), (.str [49]), (.bin .pow (.int 10) (.int 41))]
def listD : List D := [.non, .int 0, .int 1, .int 2, .int 3, .int 4, .int (-1), .bl true, .bl false, .tup [.int 1], .str [49], .int (10 ^ 41)]
theorem listE_v : (sem Γ (.lst listE)).v ρ s = .ok (.ref s.length) (s ++ [O.lst listD]) := by kernel_rfl
/-- the rest of drawn: found stands at m -/
theorem drawn_tail (hs : Dice s i) {m : Nat} {x1 x3 x4 : Option D} {fl : List D} (hm : m ≠ i) (e : s[m]? = some (.lst fl)) (hf : D.flats fl = true) (h0 : fl ≠ []) (hl : fl.length ≤ 3) :
    ∃ v s', Gr i s s' ∧ Deep s' v ∧ execs (callF T (k + 3)) (b10.drop 3) [some (.ref i), x1, some (.ref m), x3, x4] s = .rt v s' := by
  have el : ∀ (s' : Fe.S), Gr i s s' → ∀ x ∈ fl, Good s' x := fun s' g x hx => flat_deep x (flats_mem fl hf x hx) s'
  have cutm : ∀ (lo hi : Option Int), ∀ x ∈ cut fl lo hi, x ∈ fl := fun lo hi x hx => cut_mem hx
  obtain ⟨r, s1, r0, r1, g1, e1⟩ := roll_g (k := k + 2) (u := 6) hs (by decide) (by decide)
  have em := g1.same m _ hm e
  unfold b10
  simp only [List.drop_succ_cons, List.drop_zero, Fe.bind_ok, Fe.bind_exc, Fe.lift_ok, Fe.lift_exc, Fe.seq_nx, Fe.seq_rt, Fe.seq_exc, Fe.v_non, Fe.v_bl, Fe.v_int, Fe.v_str, Fe.v_var, Fe.v_con, Fe.v_bin, Fe.v_neg, Fe.v_cmp, Fe.v_chn, Fe.v_and, Fe.v_or, Fe.v_not, Fe.v_ite, Fe.v_tup, Fe.v_lst, Fe.v_ix, Fe.v_sl, Fe.v_call, Fe.v_bi, Fe.v_isi, Fe.v_me, Fe.v_lc, Fe.v_dct, Fe.v_rev, Fe.o_no, Fe.o_int, Fe.o_var, Fe.o_bin, Fe.o_neg, Fe.o_ite, Fe.asI_int, Fe.t_no, Fe.t_cmp, Fe.t_chn, Fe.t_and, Fe.t_or, Fe.t_not, Fe.t_call, Fe.t_var, Fe.t_isi, Fe.t_bi, Fe.sems_nil, Fe.sems_cons, Fe.args_nil, Fe.args_cons, Fe.andV_1, Fe.andV_2, Fe.orV_1, Fe.orV_2, Fe.andT_1, Fe.andT_2, Fe.orT_1, Fe.orT_2, Fe.i_rng, Fe.i_tup, Fe.i_var, Fe.x_nil, Fe.x_cons, Fe.x_set, Fe.x_ret, Fe.x_expr, Fe.x_ite, Fe.x_sub, Fe.x_par, Fe.x_asg, Fe.x_for, Fe.x_rais, lk_0, lk_s, int_int, add_int, Cm.f, Ar.f, Bi.f, Me.f, Me.T, liftT, List.set_cons_succ, List.set_cons_zero, e1, eq_int, asB_bl]
  by_cases h0r : r = 0
  · simp only [h0r, decide_true, if_true, Fe.bind_ok, Fe.bind_exc, Fe.lift_ok, Fe.lift_exc, Fe.seq_nx, Fe.seq_rt, Fe.seq_exc, Fe.v_non, Fe.v_bl, Fe.v_int, Fe.v_str, Fe.v_var, Fe.v_con, Fe.v_bin, Fe.v_neg, Fe.v_cmp, Fe.v_chn, Fe.v_and, Fe.v_or, Fe.v_not, Fe.v_ite, Fe.v_tup, Fe.v_lst, Fe.v_ix, Fe.v_sl, Fe.v_call, Fe.v_bi, Fe.v_isi, Fe.v_me, Fe.v_lc, Fe.v_dct, Fe.v_rev, Fe.o_no, Fe.o_int, Fe.o_var, Fe.o_bin, Fe.o_neg, Fe.o_ite, Fe.asI_int, Fe.t_no, Fe.t_cmp, Fe.t_chn, Fe.t_and, Fe.t_or, Fe.t_not, Fe.t_call, Fe.t_var, Fe.t_isi, Fe.t_bi, Fe.sems_nil, Fe.sems_cons, Fe.args_nil, Fe.args_cons, Fe.andV_1, Fe.andV_2, Fe.orV_1, Fe.orV_2, Fe.andT_1, Fe.andT_2, Fe.orT_1, Fe.orT_2, Fe.i_rng, Fe.i_tup, Fe.i_var, Fe.x_nil, Fe.x_cons, Fe.x_set, Fe.x_ret, Fe.x_expr, Fe.x_ite, Fe.x_sub, Fe.x_par, Fe.x_asg, Fe.x_for, Fe.x_rais, lk_0, lk_s, int_int, add_int, Cm.f, Ar.f, Bi.f, Me.f, Me.T, liftT, List.set_cons_succ, List.set_cons_zero, lst_lst em]
    exact ⟨_, _, g1.app, ⟨ty_ref at_end, fun l z => by cases z⟩, rfl⟩
  simp only [h0r, decide_false, bfalse, if_false, Fe.bind_ok, Fe.bind_exc, Fe.lift_ok, Fe.lift_exc, Fe.seq_nx, Fe.seq_rt, Fe.seq_exc, Fe.v_non, Fe.v_bl, Fe.v_int, Fe.v_str, Fe.v_var, Fe.v_con, Fe.v_bin, Fe.v_neg, Fe.v_cmp, Fe.v_chn, Fe.v_and, Fe.v_or, Fe.v_not, Fe.v_ite, Fe.v_tup, Fe.v_lst, Fe.v_ix, Fe.v_sl, Fe.v_call, Fe.v_bi, Fe.v_isi, Fe.v_me, Fe.v_lc, Fe.v_dct, Fe.v_rev, Fe.o_no, Fe.o_int, Fe.o_var, Fe.o_bin, Fe.o_neg, Fe.o_ite, Fe.asI_int, Fe.t_no, Fe.t_cmp, Fe.t_chn, Fe.t_and, Fe.t_or, Fe.t_not, Fe.t_call, Fe.t_var, Fe.t_isi, Fe.t_bi, Fe.sems_nil, Fe.sems_cons, Fe.args_nil, Fe.args_cons, Fe.andV_1, Fe.andV_2, Fe.orV_1, Fe.orV_2, Fe.andT_1, Fe.andT_2, Fe.orT_1, Fe.orT_2, Fe.i_rng, Fe.i_tup, Fe.i_var, Fe.x_nil, Fe.x_cons, Fe.x_set, Fe.x_ret, Fe.x_expr, Fe.x_ite, Fe.x_sub, Fe.x_par, Fe.x_asg, Fe.x_for, Fe.x_rais, lk_0, lk_s, int_int, add_int, Cm.f, Ar.f, Bi.f, Me.f, Me.T, liftT, List.set_cons_succ, List.set_cons_zero, eq_int, asB_bl]
  by_cases h1r : r = 1
  · obtain ⟨ov, s2, g2, od, e2⟩ := odd_g (k := k) g1.dice
    have em2 : (s2 ++ [O.lst [ov]])[m]? = some (.lst fl) := get_app (g2.same m _ hm em)
    have ad := add_lst em2 (at_end (s := s2) (o := O.lst [ov])) (by
      have h4 : (4 : Nat) ≤ line := by decide
      show fl.length + 1 ≤ line
      omega)
    simp only [h1r, decide_true, if_true, Fe.bind_ok, Fe.bind_exc, Fe.lift_ok, Fe.lift_exc, Fe.seq_nx, Fe.seq_rt, Fe.seq_exc, Fe.v_non, Fe.v_bl, Fe.v_int, Fe.v_str, Fe.v_var, Fe.v_con, Fe.v_bin, Fe.v_neg, Fe.v_cmp, Fe.v_chn, Fe.v_and, Fe.v_or, Fe.v_not, Fe.v_ite, Fe.v_tup, Fe.v_lst, Fe.v_ix, Fe.v_sl, Fe.v_call, Fe.v_bi, Fe.v_isi, Fe.v_me, Fe.v_lc, Fe.v_dct, Fe.v_rev, Fe.o_no, Fe.o_int, Fe.o_var, Fe.o_bin, Fe.o_neg, Fe.o_ite, Fe.asI_int, Fe.t_no, Fe.t_cmp, Fe.t_chn, Fe.t_and, Fe.t_or, Fe.t_not, Fe.t_call, Fe.t_var, Fe.t_isi, Fe.t_bi, Fe.sems_nil, Fe.sems_cons, Fe.args_nil, Fe.args_cons, Fe.andV_1, Fe.andV_2, Fe.orV_1, Fe.orV_2, Fe.andT_1, Fe.andT_2, Fe.orT_1, Fe.orT_2, Fe.i_rng, Fe.i_tup, Fe.i_var, Fe.x_nil, Fe.x_cons, Fe.x_set, Fe.x_ret, Fe.x_expr, Fe.x_ite, Fe.x_sub, Fe.x_par, Fe.x_asg, Fe.x_for, Fe.x_rais, lk_0, lk_s, int_int, add_int, Cm.f, Ar.f, Bi.f, Me.f, Me.T, liftT, List.set_cons_succ, List.set_cons_zero, e2, mkL1, ad, tup_lst at_end]
    have gg : Gr i s (s2 ++ [O.lst [ov]] ++ [O.lst (fl ++ [ov])]) := (g1.trans g2).app.app
    refine ⟨_, _, gg, ⟨.tup, fun l z x hx => ?_⟩, rfl⟩
    cases z
    rcases List.mem_append.mp hx with hx | hx
    · exact el _ gg x hx
    · rw [List.mem_singleton.mp hx]
      exact od.deep.1.app.app
  simp only [h1r, decide_false, bfalse, if_false, Fe.bind_ok, Fe.bind_exc, Fe.lift_ok, Fe.lift_exc, Fe.seq_nx, Fe.seq_rt, Fe.seq_exc, Fe.v_non, Fe.v_bl, Fe.v_int, Fe.v_str, Fe.v_var, Fe.v_con, Fe.v_bin, Fe.v_neg, Fe.v_cmp, Fe.v_chn, Fe.v_and, Fe.v_or, Fe.v_not, Fe.v_ite, Fe.v_tup, Fe.v_lst, Fe.v_ix, Fe.v_sl, Fe.v_call, Fe.v_bi, Fe.v_isi, Fe.v_me, Fe.v_lc, Fe.v_dct, Fe.v_rev, Fe.o_no, Fe.o_int, Fe.o_var, Fe.o_bin, Fe.o_neg, Fe.o_ite, Fe.asI_int, Fe.t_no, Fe.t_cmp, Fe.t_chn, Fe.t_and, Fe.t_or, Fe.t_not, Fe.t_call, Fe.t_var, Fe.t_isi, Fe.t_bi, Fe.sems_nil, Fe.sems_cons, Fe.args_nil, Fe.args_cons, Fe.andV_1, Fe.andV_2, Fe.orV_1, Fe.orV_2, Fe.andT_1, Fe.andT_2, Fe.orT_1, Fe.orT_2, Fe.i_rng, Fe.i_tup, Fe.i_var, Fe.x_nil, Fe.x_cons, Fe.x_set, Fe.x_ret, Fe.x_expr, Fe.x_ite, Fe.x_sub, Fe.x_par, Fe.x_asg, Fe.x_for, Fe.x_rais, lk_0, lk_s, int_int, add_int, Cm.f, Ar.f, Bi.f, Me.f, Me.T, liftT, List.set_cons_succ, List.set_cons_zero, eq_int, asB_bl]
  by_cases h2r : r = 2
  · simp only [h2r, decide_true, if_true, Fe.bind_ok, Fe.bind_exc, Fe.lift_ok, Fe.lift_exc, Fe.seq_nx, Fe.seq_rt, Fe.seq_exc, Fe.v_non, Fe.v_bl, Fe.v_int, Fe.v_str, Fe.v_var, Fe.v_con, Fe.v_bin, Fe.v_neg, Fe.v_cmp, Fe.v_chn, Fe.v_and, Fe.v_or, Fe.v_not, Fe.v_ite, Fe.v_tup, Fe.v_lst, Fe.v_ix, Fe.v_sl, Fe.v_call, Fe.v_bi, Fe.v_isi, Fe.v_me, Fe.v_lc, Fe.v_dct, Fe.v_rev, Fe.o_no, Fe.o_int, Fe.o_var, Fe.o_bin, Fe.o_neg, Fe.o_ite, Fe.asI_int, Fe.t_no, Fe.t_cmp, Fe.t_chn, Fe.t_and, Fe.t_or, Fe.t_not, Fe.t_call, Fe.t_var, Fe.t_isi, Fe.t_bi, Fe.sems_nil, Fe.sems_cons, Fe.args_nil, Fe.args_cons, Fe.andV_1, Fe.andV_2, Fe.orV_1, Fe.orV_2, Fe.andT_1, Fe.andT_2, Fe.orT_1, Fe.orT_2, Fe.i_rng, Fe.i_tup, Fe.i_var, Fe.x_nil, Fe.x_cons, Fe.x_set, Fe.x_ret, Fe.x_expr, Fe.x_ite, Fe.x_sub, Fe.x_par, Fe.x_asg, Fe.x_for, Fe.x_rais, lk_0, lk_s, int_int, add_int, Cm.f, Ar.f, Bi.f, Me.f, Me.T, liftT, List.set_cons_succ, List.set_cons_zero, neg_, asI_int, sl_lst em, tup_lst at_end]
    exact ⟨_, _, g1.app, ⟨.tup, fun l z x hx => by cases z; exact el _ g1.app x (cutm _ _ x hx)⟩, rfl⟩
  simp only [h2r, decide_false, bfalse, if_false, Fe.bind_ok, Fe.bind_exc, Fe.lift_ok, Fe.lift_exc, Fe.seq_nx, Fe.seq_rt, Fe.seq_exc, Fe.v_non, Fe.v_bl, Fe.v_int, Fe.v_str, Fe.v_var, Fe.v_con, Fe.v_bin, Fe.v_neg, Fe.v_cmp, Fe.v_chn, Fe.v_and, Fe.v_or, Fe.v_not, Fe.v_ite, Fe.v_tup, Fe.v_lst, Fe.v_ix, Fe.v_sl, Fe.v_call, Fe.v_bi, Fe.v_isi, Fe.v_me, Fe.v_lc, Fe.v_dct, Fe.v_rev, Fe.o_no, Fe.o_int, Fe.o_var, Fe.o_bin, Fe.o_neg, Fe.o_ite, Fe.asI_int, Fe.t_no, Fe.t_cmp, Fe.t_chn, Fe.t_and, Fe.t_or, Fe.t_not, Fe.t_call, Fe.t_var, Fe.t_isi, Fe.t_bi, Fe.sems_nil, Fe.sems_cons, Fe.args_nil, Fe.args_cons, Fe.andV_1, Fe.andV_2, Fe.orV_1, Fe.orV_2, Fe.andT_1, Fe.andT_2, Fe.orT_1, Fe.orT_2, Fe.i_rng, Fe.i_tup, Fe.i_var, Fe.x_nil, Fe.x_cons, Fe.x_set, Fe.x_ret, Fe.x_expr, Fe.x_ite, Fe.x_sub, Fe.x_par, Fe.x_asg, Fe.x_for, Fe.x_rais, lk_0, lk_s, int_int, add_int, Cm.f, Ar.f, Bi.f, Me.f, Me.T, liftT, List.set_cons_succ, List.set_cons_zero, eq_int, asB_bl]
  by_cases h3r : r = 3
  · have hpos : 0 < fl.length := List.length_pos_iff.mpr h0
    obtain ⟨q, s2, q0, q1, g2, e2⟩ := roll_g (k := k + 2) (u := (fl.length : Int)) g1.dice (by omega) (by omega)
    have em2 := g2.same m _ hm em
    have g3 : Gr i s2 (s2 ++ [O.lst (cut fl none (some q))]) := gr_end g2.dice
    obtain ⟨ov, s4, g4, od, e4⟩ := odd_g (k := k) g3.dice
    have p1 : (s4 ++ [O.lst [ov]])[s2.length]? = some (.lst (cut fl none (some q))) := get_app (g4.same _ _ (dice_ne g2.dice (Nat.le_refl _)) at_end)
    have cl : (cut fl none (some q)).length ≤ 3 := by
      unfold cut
      simp only [List.length_take, List.length_drop]
      omega
    have cl2 : (cut fl (some (q + 1)) none).length ≤ 3 := by
      unfold cut
      simp only [List.length_take, List.length_drop]
      omega
    have big : (10 : Nat) ≤ line := by decide
    have ad := add_lst p1 (at_end (s := s4) (o := O.lst [ov])) (by show _ + 1 ≤ line; omega)
    have em5 : (s4 ++ [O.lst [ov]] ++ [O.lst (cut fl none (some q) ++ [ov])])[m]? = some (.lst fl) := get_app (get_app (g4.same m _ hm (get_app em2)))
    have p2 : (s4 ++ [O.lst [ov]] ++ [O.lst (cut fl none (some q) ++ [ov])] ++ [O.lst (cut fl (some (q + 1)) none)])[(s4 ++ [O.lst [ov]]).length]? = some (.lst (cut fl none (some q) ++ [ov])) := get_app at_end
    have ad2 := add_lst p2 (at_end (s := s4 ++ [O.lst [ov]] ++ [O.lst (cut fl none (some q) ++ [ov])]) (o := O.lst (cut fl (some (q + 1)) none))) (by rw [List.length_append, List.length_singleton]; omega)
    simp only [h3r, decide_true, if_true, Fe.bind_ok, Fe.bind_exc, Fe.lift_ok, Fe.lift_exc, Fe.seq_nx, Fe.seq_rt, Fe.seq_exc, Fe.v_non, Fe.v_bl, Fe.v_int, Fe.v_str, Fe.v_var, Fe.v_con, Fe.v_bin, Fe.v_neg, Fe.v_cmp, Fe.v_chn, Fe.v_and, Fe.v_or, Fe.v_not, Fe.v_ite, Fe.v_tup, Fe.v_lst, Fe.v_ix, Fe.v_sl, Fe.v_call, Fe.v_bi, Fe.v_isi, Fe.v_me, Fe.v_lc, Fe.v_dct, Fe.v_rev, Fe.o_no, Fe.o_int, Fe.o_var, Fe.o_bin, Fe.o_neg, Fe.o_ite, Fe.asI_int, Fe.t_no, Fe.t_cmp, Fe.t_chn, Fe.t_and, Fe.t_or, Fe.t_not, Fe.t_call, Fe.t_var, Fe.t_isi, Fe.t_bi, Fe.sems_nil, Fe.sems_cons, Fe.args_nil, Fe.args_cons, Fe.andV_1, Fe.andV_2, Fe.orV_1, Fe.orV_2, Fe.andT_1, Fe.andT_2, Fe.orT_1, Fe.orT_2, Fe.i_rng, Fe.i_tup, Fe.i_var, Fe.x_nil, Fe.x_cons, Fe.x_set, Fe.x_ret, Fe.x_expr, Fe.x_ite, Fe.x_sub, Fe.x_par, Fe.x_asg, Fe.x_for, Fe.x_rais, lk_0, lk_s, int_int, add_int, Cm.f, Ar.f, Bi.f, Me.f, Me.T, liftT, List.set_cons_succ, List.set_cons_zero, len_at em, e2, sl_lst em2, e4, mkL1, ad, asI_int, sl_lst em5, ad2, tup_lst at_end]
    have gg : Gr i s (s4 ++ [O.lst [ov]] ++ [O.lst (cut fl none (some q) ++ [ov])] ++ [O.lst (cut fl (some (q + 1)) none)] ++ [O.lst (cut fl none (some q) ++ [ov] ++ cut fl (some (q + 1)) none)]) := (g1.trans (g2.trans (g3.trans g4))).app.app.app.app
    refine ⟨_, _, gg, ⟨.tup, fun l z x hx => ?_⟩, rfl⟩
    cases z
    rcases List.mem_append.mp hx with hx | hx
    · rcases List.mem_append.mp hx with hx | hx
      · exact el _ gg x (cutm _ _ x hx)
      · rw [List.mem_singleton.mp hx]
        exact od.deep.1.app.app.app.app
    · exact el _ gg x (cutm _ _ x hx)
  simp only [h3r, decide_false, bfalse, if_false, Fe.bind_ok, Fe.bind_exc, Fe.lift_ok, Fe.lift_exc, Fe.seq_nx, Fe.seq_rt, Fe.seq_exc, Fe.v_non, Fe.v_bl, Fe.v_int, Fe.v_str, Fe.v_var, Fe.v_con, Fe.v_bin, Fe.v_neg, Fe.v_cmp, Fe.v_chn, Fe.v_and, Fe.v_or, Fe.v_not, Fe.v_ite, Fe.v_tup, Fe.v_lst, Fe.v_ix, Fe.v_sl, Fe.v_call, Fe.v_bi, Fe.v_isi, Fe.v_me, Fe.v_lc, Fe.v_dct, Fe.v_rev, Fe.o_no, Fe.o_int, Fe.o_var, Fe.o_bin, Fe.o_neg, Fe.o_ite, Fe.asI_int, Fe.t_no, Fe.t_cmp, Fe.t_chn, Fe.t_and, Fe.t_or, Fe.t_not, Fe.t_call, Fe.t_var, Fe.t_isi, Fe.t_bi, Fe.sems_nil, Fe.sems_cons, Fe.args_nil, Fe.args_cons, Fe.andV_1, Fe.andV_2, Fe.orV_1, Fe.orV_2, Fe.andT_1, Fe.andT_2, Fe.orT_1, Fe.orT_2, Fe.i_rng, Fe.i_tup, Fe.i_var, Fe.x_nil, Fe.x_cons, Fe.x_set, Fe.x_ret, Fe.x_expr, Fe.x_ite, Fe.x_sub, Fe.x_par, Fe.x_asg, Fe.x_for, Fe.x_rais, lk_0, lk_s, int_int, add_int, Cm.f, Ar.f, Bi.f, Me.f, Me.T, liftT, List.set_cons_succ, List.set_cons_zero, eq_int, asB_bl]
  have last : ∀ s', Gr i s1 s' → ∃ v t, Gr i s t ∧ Deep t v ∧ biTup [.ref m] s' = .ok v t := fun s' g => ⟨.tup fl, s', g1.trans g, ⟨.tup, fun l z x hx => by cases z; exact el _ (g1.trans g) x hx⟩, tup_lst (g.same m _ hm em)⟩
  by_cases h4r : r = 4
  · obtain ⟨q, s2, q0, q1, g2, e2⟩ := roll_g (k := k + 2) (u := 3) g1.dice (by decide) (by decide)
    simp only [h4r, decide_true, if_true, Fe.bind_ok, Fe.bind_exc, Fe.lift_ok, Fe.lift_exc, Fe.seq_nx, Fe.seq_rt, Fe.seq_exc, Fe.v_non, Fe.v_bl, Fe.v_int, Fe.v_str, Fe.v_var, Fe.v_con, Fe.v_bin, Fe.v_neg, Fe.v_cmp, Fe.v_chn, Fe.v_and, Fe.v_or, Fe.v_not, Fe.v_ite, Fe.v_tup, Fe.v_lst, Fe.v_ix, Fe.v_sl, Fe.v_call, Fe.v_bi, Fe.v_isi, Fe.v_me, Fe.v_lc, Fe.v_dct, Fe.v_rev, Fe.o_no, Fe.o_int, Fe.o_var, Fe.o_bin, Fe.o_neg, Fe.o_ite, Fe.asI_int, Fe.t_no, Fe.t_cmp, Fe.t_chn, Fe.t_and, Fe.t_or, Fe.t_not, Fe.t_call, Fe.t_var, Fe.t_isi, Fe.t_bi, Fe.sems_nil, Fe.sems_cons, Fe.args_nil, Fe.args_cons, Fe.andV_1, Fe.andV_2, Fe.orV_1, Fe.orV_2, Fe.andT_1, Fe.andT_2, Fe.orT_1, Fe.orT_2, Fe.i_rng, Fe.i_tup, Fe.i_var, Fe.x_nil, Fe.x_cons, Fe.x_set, Fe.x_ret, Fe.x_expr, Fe.x_ite, Fe.x_sub, Fe.x_par, Fe.x_asg, Fe.x_for, Fe.x_rais, lk_0, lk_s, int_int, add_int, Cm.f, Ar.f, Bi.f, Me.f, Me.T, liftT, List.set_cons_succ, List.set_cons_zero, e2, eq_int, asB_bl]
    have em2 := g2.same m _ hm em
    by_cases hq : q = 0
    · simp only [hq, decide_true, if_true, Fe.bind_ok, Fe.bind_exc, Fe.lift_ok, Fe.lift_exc, Fe.seq_nx, Fe.seq_rt, Fe.seq_exc, Fe.v_non, Fe.v_bl, Fe.v_int, Fe.v_str, Fe.v_var, Fe.v_con, Fe.v_bin, Fe.v_neg, Fe.v_cmp, Fe.v_chn, Fe.v_and, Fe.v_or, Fe.v_not, Fe.v_ite, Fe.v_tup, Fe.v_lst, Fe.v_ix, Fe.v_sl, Fe.v_call, Fe.v_bi, Fe.v_isi, Fe.v_me, Fe.v_lc, Fe.v_dct, Fe.v_rev, Fe.o_no, Fe.o_int, Fe.o_var, Fe.o_bin, Fe.o_neg, Fe.o_ite, Fe.asI_int, Fe.t_no, Fe.t_cmp, Fe.t_chn, Fe.t_and, Fe.t_or, Fe.t_not, Fe.t_call, Fe.t_var, Fe.t_isi, Fe.t_bi, Fe.sems_nil, Fe.sems_cons, Fe.args_nil, Fe.args_cons, Fe.andV_1, Fe.andV_2, Fe.orV_1, Fe.orV_2, Fe.andT_1, Fe.andT_2, Fe.orT_1, Fe.orT_2, Fe.i_rng, Fe.i_tup, Fe.i_var, Fe.x_nil, Fe.x_cons, Fe.x_set, Fe.x_ret, Fe.x_expr, Fe.x_ite, Fe.x_sub, Fe.x_par, Fe.x_asg, Fe.x_for, Fe.x_rais, lk_0, lk_s, int_int, add_int, Cm.f, Ar.f, Bi.f, Me.f, Me.T, liftT, List.set_cons_succ, List.set_cons_zero, rev_lst em2, tup_lst at_end]
      have gg : Gr i s (s2 ++ [O.lst fl.reverse]) := (g1.trans g2).app
      exact ⟨_, _, gg, ⟨.tup, fun l z x hx => by cases z; exact el _ gg x (by simpa using hx)⟩, rfl⟩
    · simp only [hq, decide_false, bfalse, if_false, Fe.bind_ok, Fe.bind_exc, Fe.lift_ok, Fe.lift_exc, Fe.seq_nx, Fe.seq_rt, Fe.seq_exc, Fe.v_non, Fe.v_bl, Fe.v_int, Fe.v_str, Fe.v_var, Fe.v_con, Fe.v_bin, Fe.v_neg, Fe.v_cmp, Fe.v_chn, Fe.v_and, Fe.v_or, Fe.v_not, Fe.v_ite, Fe.v_tup, Fe.v_lst, Fe.v_ix, Fe.v_sl, Fe.v_call, Fe.v_bi, Fe.v_isi, Fe.v_me, Fe.v_lc, Fe.v_dct, Fe.v_rev, Fe.o_no, Fe.o_int, Fe.o_var, Fe.o_bin, Fe.o_neg, Fe.o_ite, Fe.asI_int, Fe.t_no, Fe.t_cmp, Fe.t_chn, Fe.t_and, Fe.t_or, Fe.t_not, Fe.t_call, Fe.t_var, Fe.t_isi, Fe.t_bi, Fe.sems_nil, Fe.sems_cons, Fe.args_nil, Fe.args_cons, Fe.andV_1, Fe.andV_2, Fe.orV_1, Fe.orV_2, Fe.andT_1, Fe.andT_2, Fe.orT_1, Fe.orT_2, Fe.i_rng, Fe.i_tup, Fe.i_var, Fe.x_nil, Fe.x_cons, Fe.x_set, Fe.x_ret, Fe.x_expr, Fe.x_ite, Fe.x_sub, Fe.x_par, Fe.x_asg, Fe.x_for, Fe.x_rais, lk_0, lk_s, int_int, add_int, Cm.f, Ar.f, Bi.f, Me.f, Me.T, liftT, List.set_cons_succ, List.set_cons_zero]
      obtain ⟨v, t, a, b, c⟩ := last s2 g2
      exact ⟨v, t, a, b, by rw [c]; rfl⟩
  · simp only [h4r, decide_false, bfalse, if_false, Fe.bind_ok, Fe.bind_exc, Fe.lift_ok, Fe.lift_exc, Fe.seq_nx, Fe.seq_rt, Fe.seq_exc, Fe.v_non, Fe.v_bl, Fe.v_int, Fe.v_str, Fe.v_var, Fe.v_con, Fe.v_bin, Fe.v_neg, Fe.v_cmp, Fe.v_chn, Fe.v_and, Fe.v_or, Fe.v_not, Fe.v_ite, Fe.v_tup, Fe.v_lst, Fe.v_ix, Fe.v_sl, Fe.v_call, Fe.v_bi, Fe.v_isi, Fe.v_me, Fe.v_lc, Fe.v_dct, Fe.v_rev, Fe.o_no, Fe.o_int, Fe.o_var, Fe.o_bin, Fe.o_neg, Fe.o_ite, Fe.asI_int, Fe.t_no, Fe.t_cmp, Fe.t_chn, Fe.t_and, Fe.t_or, Fe.t_not, Fe.t_call, Fe.t_var, Fe.t_isi, Fe.t_bi, Fe.sems_nil, Fe.sems_cons, Fe.args_nil, Fe.args_cons, Fe.andV_1, Fe.andV_2, Fe.orV_1, Fe.orV_2, Fe.andT_1, Fe.andT_2, Fe.orT_1, Fe.orT_2, Fe.i_rng, Fe.i_tup, Fe.i_var, Fe.x_nil, Fe.x_cons, Fe.x_set, Fe.x_ret, Fe.x_expr, Fe.x_ite, Fe.x_sub, Fe.x_par, Fe.x_asg, Fe.x_for, Fe.x_rais, lk_0, lk_s, int_int, add_int, Cm.f, Ar.f, Bi.f, Me.f, Me.T, liftT, List.set_cons_succ, List.set_cons_zero]
    obtain ⟨v, t, a, b, c⟩ := last s1 (Gr.refl g1.dice)
    exact ⟨v, t, a, b, by rw [c]; rfl⟩
end
end K00

set_option maxHeartbeats 4000000
namespace K00
open Fe
open L2 (atI ixN)
section
variable {k : Nat} {s s' s2 : Fe.S} {v w : D} {Γ : Nat → List D → Fe.S → Out D} {ρ : Fe.Env} {i : Nat}
theorem f10 (hs : Dice s i) {c : List Nat} : ∃ v s', Gr i s s' ∧ Deep s' v ∧ callF T (k + 4) 10 [.ref i, .str c] s = .ok v s' := by
  rw [call_at (d := t10) rfl rfl]
  show ∃ v s', _ ∧ _ ∧ trimO s (retO (execs (callF T (k + 3)) b10 [some (.ref i), some (.str c), none, none, none] s)) = _
  have mv : opIn (.str c) (.tup [.str wTi, .str wTa, .str wCo]) s = .ok (.bl ([wTi, wTa, wCo].contains c)) s := in_tup [wTi, wTa, wCo]
  have mt : ∀ (a b d : D) (s : Fe.S), mkTup [a, b, d] s = .ok (.tup [a, b, d]) s := fun _ _ _ _ => rfl
  have run : ∃ v s', Gr i s s' ∧ Deep s' v ∧ execs (callF T (k + 3)) b10 [some (.ref i), some (.str c), none, none, none] s = .rt v s' := by
    have e0 : b10 = .ite (.cmp .in_ (.var 1) (.tup [(.str [116, 105, 99, 107, 115]), (.str [116, 97, 107, 101, 115]), (.str [99, 111, 109, 101])])) [(.ret (.call 3 [(.var 0), .lst listE]))] [] :: .set 2 foundE :: .set 2 (.sl (.var 2) .no (.ite (.cmp .eq (.var 1) (.str [117, 115, 101, 100])) (.int 2) (.int 3))) :: b10.drop 3 := rfl
    rw [e0, x_cons]
    by_cases hc : [wTi, wTa, wCo].contains c = true
    · obtain ⟨d, s', g, dd, e⟩ := simple_pick (k := k + 1) (ds := listD) hs (by unfold listD; simp) (by unfold listD; decide) rfl
      refine ⟨d, s', g, dd, ?_⟩
      have a2 : argsV [sem (callF T (k + 3)) (.var 0), sem (callF T (k + 3)) (.lst listE)] [some (.ref i), some (.str c), none, none, none] s = .ok [.ref i, .ref s.length] (s ++ [O.lst listD]) := by
        rw [args_two, v_var, lk_0, bind_ok, listE_v]; rfl
      have rt : execs (callF T (k + 3)) [(.ret (.call 3 [(.var 0), .lst listE]))] [some (.ref i), some (.str c), none, none, none] s = .rt d s' := by
        rw [x_cons, x_ret, v_call, sems_cons, sems_cons, sems_nil, a2, bind_ok, e]; rfl
      have st : exec (callF T (k + 3)) (.ite (.cmp .in_ (.var 1) (.tup [(.str [116, 105, 99, 107, 115]), (.str [116, 97, 107, 101, 115]), (.str [99, 111, 109, 101])])) [(.ret (.call 3 [(.var 0), .lst listE]))] []) [some (.ref i), some (.str c), none, none, none] s = .rt d s' := by
        rw [x_ite]
        simp only [t_cmp, v_var, v_tup, v_str, sems_cons, sems_nil, args_cons, args_nil, bind_ok, lk_s, lk_0, mt, Cm.f, mv, asB_bl, hc, lift_ok, if_true]
        exact rt
      rw [st]; rfl
    · have hc' : [wTi, wTa, wCo].contains c = false := by simpa using hc
      have st : exec (callF T (k + 3)) (.ite (.cmp .in_ (.var 1) (.tup [(.str [116, 105, 99, 107, 115]), (.str [116, 97, 107, 101, 115]), (.str [99, 111, 109, 101])])) [(.ret (.call 3 [(.var 0), .lst listE]))] []) [some (.ref i), some (.str c), none, none, none] s = .nx [some (.ref i), some (.str c), none, none, none] s := by
        rw [x_ite]
        simp only [t_cmp, v_var, v_tup, v_str, sems_cons, sems_nil, args_cons, args_nil, bind_ok, lk_s, lk_0, mt, Cm.f, mv, asB_bl, hc', lift_ok, bfalse, if_false, x_nil]
      rw [st, seq_nx, x_cons]
      obtain ⟨r, t1, t2, s1, m, g1, hm, em, e1⟩ := found_spec (k := k) hs (x1 := some (.str c)) (ρ := [none, none, none])
      rw [x_set, e1, lift_ok, seq_nx, x_cons]
      by_cases hu : c = wUs
      · have hu' : (c == wUs) = true := by simpa using hu
        have sl : exec (callF T (k + 3)) (.set 2 (.sl (.var 2) .no (.ite (.cmp .eq (.var 1) (.str [117, 115, 101, 100])) (.int 2) (.int 3)))) [some (.ref i), some (.str c), some (.ref m), none, none] s1 = .nx [some (.ref i), some (.str c), some (.ref s1.length), none, none] (s1 ++ [O.lst [.int r, .str t1]]) := by
          simp only [Fe.bind_ok, Fe.bind_exc, Fe.lift_ok, Fe.lift_exc, Fe.seq_nx, Fe.seq_rt, Fe.seq_exc, Fe.v_non, Fe.v_bl, Fe.v_int, Fe.v_str, Fe.v_var, Fe.v_con, Fe.v_bin, Fe.v_neg, Fe.v_cmp, Fe.v_chn, Fe.v_and, Fe.v_or, Fe.v_not, Fe.v_ite, Fe.v_tup, Fe.v_lst, Fe.v_ix, Fe.v_sl, Fe.v_call, Fe.v_bi, Fe.v_isi, Fe.v_me, Fe.v_lc, Fe.v_dct, Fe.v_rev, Fe.o_no, Fe.o_int, Fe.o_var, Fe.o_bin, Fe.o_neg, Fe.o_ite, Fe.asI_int, Fe.t_no, Fe.t_cmp, Fe.t_chn, Fe.t_and, Fe.t_or, Fe.t_not, Fe.t_call, Fe.t_var, Fe.t_isi, Fe.t_bi, Fe.sems_nil, Fe.sems_cons, Fe.args_nil, Fe.args_cons, Fe.andV_1, Fe.andV_2, Fe.orV_1, Fe.orV_2, Fe.andT_1, Fe.andT_2, Fe.orT_1, Fe.orT_2, Fe.i_rng, Fe.i_tup, Fe.i_var, Fe.x_nil, Fe.x_cons, Fe.x_set, Fe.x_ret, Fe.x_expr, Fe.x_ite, Fe.x_sub, Fe.x_par, Fe.x_asg, Fe.x_for, Fe.x_rais, lk_0, lk_s, int_int, add_int, Cm.f, Ar.f, Bi.f, Me.f, Me.T, liftT, List.set_cons_succ, List.set_cons_zero, eq_str, asB_bl, hu', if_true, asI_int, sl_lst em]
          rfl
        simp only [List.set_cons_succ, List.set_cons_zero]
        rw [sl, seq_nx]
        have g2 : Gr i s (s1 ++ [O.lst [.int r, .str t1]]) := g1.app
        obtain ⟨v, s', g, d, e⟩ := drawn_tail (k := k) (s := s1 ++ [O.lst [.int r, .str t1]]) g2.dice (x1 := some (.str c)) (x3 := none) (x4 := none) (dice_ne g1.dice (Nat.le_refl _)) at_end rfl (by simp) (by simp)
        exact ⟨v, s', g2.trans g, d, e⟩
      · have hu' : (c == wUs) = false := by simpa using hu
        have sl : exec (callF T (k + 3)) (.set 2 (.sl (.var 2) .no (.ite (.cmp .eq (.var 1) (.str [117, 115, 101, 100])) (.int 2) (.int 3)))) [some (.ref i), some (.str c), some (.ref m), none, none] s1 = .nx [some (.ref i), some (.str c), some (.ref s1.length), none, none] (s1 ++ [O.lst [.int r, .str t1, .str t2]]) := by
          simp only [Fe.bind_ok, Fe.bind_exc, Fe.lift_ok, Fe.lift_exc, Fe.seq_nx, Fe.seq_rt, Fe.seq_exc, Fe.v_non, Fe.v_bl, Fe.v_int, Fe.v_str, Fe.v_var, Fe.v_con, Fe.v_bin, Fe.v_neg, Fe.v_cmp, Fe.v_chn, Fe.v_and, Fe.v_or, Fe.v_not, Fe.v_ite, Fe.v_tup, Fe.v_lst, Fe.v_ix, Fe.v_sl, Fe.v_call, Fe.v_bi, Fe.v_isi, Fe.v_me, Fe.v_lc, Fe.v_dct, Fe.v_rev, Fe.o_no, Fe.o_int, Fe.o_var, Fe.o_bin, Fe.o_neg, Fe.o_ite, Fe.asI_int, Fe.t_no, Fe.t_cmp, Fe.t_chn, Fe.t_and, Fe.t_or, Fe.t_not, Fe.t_call, Fe.t_var, Fe.t_isi, Fe.t_bi, Fe.sems_nil, Fe.sems_cons, Fe.args_nil, Fe.args_cons, Fe.andV_1, Fe.andV_2, Fe.orV_1, Fe.orV_2, Fe.andT_1, Fe.andT_2, Fe.orT_1, Fe.orT_2, Fe.i_rng, Fe.i_tup, Fe.i_var, Fe.x_nil, Fe.x_cons, Fe.x_set, Fe.x_ret, Fe.x_expr, Fe.x_ite, Fe.x_sub, Fe.x_par, Fe.x_asg, Fe.x_for, Fe.x_rais, lk_0, lk_s, int_int, add_int, Cm.f, Ar.f, Bi.f, Me.f, Me.T, liftT, List.set_cons_succ, List.set_cons_zero, eq_str, asB_bl, hu', bfalse, if_false, asI_int, sl_lst em]
          rfl
        simp only [List.set_cons_succ, List.set_cons_zero]
        rw [sl, seq_nx]
        have g2 : Gr i s (s1 ++ [O.lst [.int r, .str t1, .str t2]]) := g1.app
        obtain ⟨v, s', g, d, e⟩ := drawn_tail (k := k) (s := s1 ++ [O.lst [.int r, .str t1, .str t2]]) g2.dice (x1 := some (.str c)) (x3 := none) (x4 := none) (dice_ne g1.dice (Nat.le_refl _)) at_end rfl (by simp) (by simp)
        exact ⟨v, s', g2.trans g, d, e⟩
  obtain ⟨v, s', g, d, e⟩ := run
  rw [e]
  obtain ⟨v', t, e2, g2, d2⟩ := trim_deep g d hs.lt
  exact ⟨v', t, g2, d2, e2⟩
end
end K00

set_option maxHeartbeats 4000000
namespace K00
open Fe
open L2 (atI ixN)
abbrev tA : Fe.St := (.par [8, 9] [(.call 2 [(.var 4)]), (.call 3 [(.var 4), (.var 1)])])
abbrev tB : Fe.St := (.set 3 (.lst [(.call 4 [(.var 8)]), (.call 5 [(.var 8)]), (.call 6 [(.var 8)]), (.call 7 [(.var 8)])]))
abbrev tC : Fe.St := (.set 6 (.lst [(.call 8 [(.var 8), (.int 0), (.bin .sub (.bin .pow (.int 10) (.int 40)) (.int 1))]), (.call 9 [(.var 8), (.lst [(.str [98, 97, 99, 107]), (.str [102, 114, 111, 110, 116])])])]))
abbrev tD : Fe.St := (.expr (.me .append (.var 6) [(.call 9 [(.var 8), (.lst [(.str [107, 101, 112, 116]), (.str [110, 101, 119])])])]))
abbrev tE : Fe.St := (.expr (.me .append (.var 6) [(.call 9 [(.var 8), (.lst [(.str [111, 110]), (.str [115, 108, 101, 101, 112]), (.str [119, 97, 121]), (.str [101, 110, 100]), (.str [98, 101, 108, 108])])])]))
abbrev tF : Fe.St := (.for_ (.nm 7) (.tup [(.var 8), (.call 10 [(.var 4), (.var 9)])]) [(.expr (.me .append (.var 3) [(.call 11 [(.var 9), (.var 7)])])), (.expr (.me .append (.var 6) [(.call 12 [(.var 9), (.var 7)])]))])
abbrev tG : Fe.St := (.ite (.cmp .ne (.bi .repr [(.var 3)]) (.bi .repr [(.var 6)])) [(.ret (.bl false))] [])
abbrev tH : Fe.St := (.ite (.and [(.not (.call 9 [(.var 8), (.var 1)])), (.not (.call 13 [(.var 8), (.int 1)]))]) [(.ret (.bl false))] [])
abbrev turnB : List Fe.St := [tA, tB, tC, tD, tE, tF, tG, tH]

section
variable {k : Nat} {s s' s2 : Fe.S} {v w : D} {Γ : Nat → List D → Fe.S → Out D} {ρ : Fe.Env} {i : Nat}
theorem app_at {p : Nat} {ds : List D} {d : D} (h : s[p]? = some (.lst ds)) (hl : ds.length < line) : meAppend (.ref p) [d] s = .ok .non (s.set p (.lst (ds ++ [d]))) := by
  show (match s[p]? with | some (.lst ds) => _ | _ => _) = _
  rw [h]
  show (if ds.length < line then _ else _) = _
  rw [if_pos hl]
theorem tyIs_lst {p : Nat} {ds : List D} (h : s[p]? = some (.lst ds)) : tyIs "list" s (.ref p) = true := by
  unfold tyIs
  dsimp only
  rw [h]
  rfl
theorem gr_put {p : Nat} {o : O} (h : Gr i s s') (hp : s.length ≤ p) (hi : i < s.length) : Gr i s (s'.set p o) := by
  refine ⟨?_, by rw [List.length_set]; exact h.len, fun j u hj e => ?_⟩
  · obtain ⟨a, b, c, e⟩ := h.dice
    exact ⟨a, b, c, by rw [List.getElem?_set_ne (by omega)]; exact e⟩
  · have := (List.getElem?_eq_some_iff.mp e).1
    rw [List.getElem?_set_ne (by omega)]
    exact h.same j u hj e
theorem rep_bools : ∀ a b c d e f : Bool, shB (.list [.bool a, .bool b, .bool c, .bool d, .bool e, .bool f]) = true := by decide +kernel
theorem repr_bools {p : Nat} {a b c d e f : Bool} (h : s[p]? = some (.lst [.bl a, .bl b, .bl c, .bl d, .bl e, .bl f])) : biRepr [.ref p] s = .ok (.str (codes (PySem.PyData.shown (.list [.bool a, .bool b, .bool c, .bool d, .bool e, .bool f])))) s :=
  sh_of ((pdR_lst h).trans (pd_lst h)) (rep_bools a b c d e f)
theorem ne_str {a b : List Nat} : opNe (.str a) (.str b) s = .ok (.bl (!(a == b))) s := by
  have h := eq_str (s := s) (a := a) (b := b)
  unfold opEq at h
  unfold opNe
  cases e : eqD s (.str a) (.str b) with
  | none => rw [e] at h; cases h
  | some k =>
    rw [e] at h
    have : k = (a == b) := by injection h with h1 _; injection h1
    rw [this]

theorem p40 : opPow (.int 10) (.int 40) s = .ok (.int (10 ^ 40)) s := pow_ok' (by decide +kernel)
theorem sub_int {a b : Int} : opSub (.int a) (.int b) s = .ok (.int (a - b)) s := rfl
theorem mkL4 {a b c d : D} : mkLst [a, b, c, d] s = .ok (.ref s.length) (s ++ [O.lst [a, b, c, d]]) := rfl
theorem mkL5 {a b c d e : D} : mkLst [a, b, c, d, e] s = .ok (.ref s.length) (s ++ [O.lst [a, b, c, d, e]]) := rfl
theorem text5 (g : Good s v) {a b c d e : List Nat} : callF T (k + 1) 9 [v, .ref s.length] (s ++ [O.lst [.str a, .str b, .str c, .str d, .str e]]) = .ok (.bl (isT v [a, b, c, d, e])) (s ++ [O.lst [.str a, .str b, .str c, .str d, .str e]]) := f9 g.app [a, b, c, d, e] at_end
theorem gr_trans_put {p : Nat} {o : O} (h : Gr i s s') (hp : p ≠ i) (h1 : s.length ≤ p) : Gr i s (s'.set p o) := by
  refine ⟨?_, by rw [List.length_set]; exact h.len, fun j u hj e => ?_⟩
  · obtain ⟨a, b, c, e⟩ := h.dice
    exact ⟨a, b, c, by rw [List.getElem?_set_ne hp]; exact e⟩
  · have := (List.getElem?_eq_some_iff.mp e).1
    rw [List.getElem?_set_ne (by omega)]
    exact h.same j u hj e
theorem good_put {p : Nat} {ds ds' : List D} (g : Good s v) (h : s[p]? = some (.lst ds)) : Good (s.set p (.lst ds')) v := by
  obtain ⟨t, ht⟩ := g
  cases v with
  | ref j =>
    by_cases hj : j = p
    · subst hj
      exact ty_ref (List.getElem?_set_self (List.getElem?_eq_some_iff.mp h).1)
    · unfold tyOf at ht
      dsimp only at ht
      cases e : s[j]? with
      | none => rw [e] at ht; cases ht
      | some o => exact ty_ref (o := o) (by rw [List.getElem?_set_ne (Ne.symm hj)]; exact e)
  | _ => exact ⟨t, ht⟩
theorem deep_put {p : Nat} {ds ds' : List D} (g : Deep s v) (h : s[p]? = some (.lst ds)) : Deep (s.set p (.lst ds')) v := ⟨good_put g.1 h, fun l e a ha => good_put (g.2 l e a ha) h⟩
/-- the loop over the two values -/
abbrev pairB : List Fe.St := [(.expr (.me .append (.var 3) [(.call 11 [(.var 9), (.var 7)])])), (.expr (.me .append (.var 6) [(.call 12 [(.var 9), (.var 7)])]))]
theorem pair_turn {p q : Nat} {a b : List D} {c : List Nat} {x0 x1 x2 x4 x5 x8 : Option D} (hc : c ∈ words) (g : Deep s v) (hp : s[p]? = some (.lst a)) (hq : s[q]? = some (.lst b)) (hpq : p ≠ q) (ha : a.length < 9) (hb : b.length < 9) :
    execs (callF T (k + 6)) pairB [x0, x1, x2, some (.ref p), x4, x5, some (.ref q), some v, x8, some (.str c)] s = .nx [x0, x1, x2, some (.ref p), x4, x5, some (.ref q), some v, x8, some (.str c)] ((s.set p (.lst (a ++ [.bl (entry c v)]))).set q (.lst (b ++ [.bl (entry c v)]))) := by
  have big : (9 : Nat) ≤ line := by decide
  have hq2 : (s.set p (.lst (a ++ [.bl (entry c v)])))[q]? = some (.lst b) := by rw [List.getElem?_set_ne hpq]; exact hq
  have g2 : Deep (s.set p (.lst (a ++ [.bl (entry c v)]))) v := deep_put g hp
  simp only [Fe.bind_ok, Fe.bind_exc, Fe.lift_ok, Fe.lift_exc, Fe.seq_nx, Fe.seq_rt, Fe.seq_exc, Fe.v_non, Fe.v_bl, Fe.v_int, Fe.v_str, Fe.v_var, Fe.v_con, Fe.v_bin, Fe.v_neg, Fe.v_cmp, Fe.v_chn, Fe.v_and, Fe.v_or, Fe.v_not, Fe.v_ite, Fe.v_tup, Fe.v_lst, Fe.v_ix, Fe.v_sl, Fe.v_call, Fe.v_bi, Fe.v_isi, Fe.v_me, Fe.v_lc, Fe.v_dct, Fe.v_rev, Fe.o_no, Fe.o_int, Fe.o_var, Fe.o_bin, Fe.o_neg, Fe.o_ite, Fe.asI_int, Fe.t_no, Fe.t_cmp, Fe.t_chn, Fe.t_and, Fe.t_or, Fe.t_not, Fe.t_call, Fe.t_var, Fe.t_isi, Fe.t_bi, Fe.sems_nil, Fe.sems_cons, Fe.args_nil, Fe.args_cons, Fe.andV_1, Fe.andV_2, Fe.orV_1, Fe.orV_2, Fe.andT_1, Fe.andT_2, Fe.orT_1, Fe.orT_2, Fe.i_rng, Fe.i_tup, Fe.i_var, Fe.x_nil, Fe.x_cons, Fe.x_set, Fe.x_ret, Fe.x_expr, Fe.x_ite, Fe.x_sub, Fe.x_par, Fe.x_asg, Fe.x_for, Fe.x_rais, lk_0, lk_s, int_int, add_int, Cm.f, Ar.f, Bi.f, Me.f, Me.T, liftT, List.set_cons_succ, List.set_cons_zero, tyIs_lst hp, if_true, f11v (k := k + 1) g hc, app_at hp (by omega), tyIs_lst hq2, f12 (k := k + 4) g2 hc, app_at hq2 (by omega)]
theorem turn_spec (hs : Dice s i) (hi : 1 < i) (h1 : s[1]? = some (.lst (words.map D.str))) {x0 x2 x3 x5 x6 x7 x8 x9 : Option D} :
    ∃ y3 y6 y7 y8 y9 s', Gr i s s' ∧ execs (callF T (k + 6)) turnB [x0, some (.ref 1), x2, x3, some (.ref i), x5, x6, x7, x8, x9] s = .nx [x0, some (.ref 1), x2, y3, some (.ref i), x5, y6, y7, y8, y9] s' := by
  -- the odd value, the word
  obtain ⟨v, s1, g1, od1, e1⟩ := odd_g (k := k + 3) hs
  have w1 := g1.same 1 _ (by omega) h1
  obtain ⟨n, hn, o, d2, e2⟩ := pick_spec (k := k + 4) (T := T) (f := 3) (g := 14) (s := s1) (i := i) (j := 1) (ds := words.map D.str) (e := rfl) rfl rfl (e' := rfl) rfl rfl g1.dice w1 (by omega) (by simp) (by simp) (fun d hd m hm => by
    obtain ⟨x, _, rfl⟩ := List.mem_map.mp hd
    cases hm)
  have hn' : n < words.length := by simpa using hn
  have hc : words[n] ∈ words := List.getElem_mem hn'
  have ec : (words.map D.str)[n] = .str words[n] := List.getElem_map _
  rw [ec] at e2
  generalize words[n] = c at hc e2
  have g2 : Gr i s1 (s1.set i o) := by
    have := gr_set (g := []) g1.dice.lt d2
    rwa [List.append_nil] at this
  have od2 := od1.gr g1.dice g2
  have w2 := g2.same 1 _ (by omega) w1
  generalize s1.set i o = s2 at e2 g2 od2 w2
  have stA : exec (callF T (k + 6)) tA [x0, some (.ref 1), x2, x3, some (.ref i), x5, x6, x7, x8, x9] s = .nx [x0, some (.ref 1), x2, x3, some (.ref i), x5, x6, x7, some v, some (.str c)] s2 := by
    unfold tA
    rw [x_par, sems_cons, sems_cons, sems_nil, args_two]
    simp only [Fe.bind_ok, Fe.bind_exc, Fe.lift_ok, Fe.lift_exc, Fe.seq_nx, Fe.seq_rt, Fe.seq_exc, Fe.v_non, Fe.v_bl, Fe.v_int, Fe.v_str, Fe.v_var, Fe.v_con, Fe.v_bin, Fe.v_neg, Fe.v_cmp, Fe.v_chn, Fe.v_and, Fe.v_or, Fe.v_not, Fe.v_ite, Fe.v_tup, Fe.v_lst, Fe.v_ix, Fe.v_sl, Fe.v_call, Fe.v_bi, Fe.v_isi, Fe.v_me, Fe.v_lc, Fe.v_dct, Fe.v_rev, Fe.o_no, Fe.o_int, Fe.o_var, Fe.o_bin, Fe.o_neg, Fe.o_ite, Fe.asI_int, Fe.t_no, Fe.t_cmp, Fe.t_chn, Fe.t_and, Fe.t_or, Fe.t_not, Fe.t_call, Fe.t_var, Fe.t_isi, Fe.t_bi, Fe.sems_nil, Fe.sems_cons, Fe.args_nil, Fe.args_cons, Fe.andV_1, Fe.andV_2, Fe.orV_1, Fe.orV_2, Fe.andT_1, Fe.andT_2, Fe.orT_1, Fe.orT_2, Fe.i_rng, Fe.i_tup, Fe.i_var, Fe.x_nil, Fe.x_cons, Fe.x_set, Fe.x_ret, Fe.x_expr, Fe.x_ite, Fe.x_sub, Fe.x_par, Fe.x_asg, Fe.x_for, Fe.x_rais, lk_0, lk_s, int_int, add_int, Cm.f, Ar.f, Bi.f, Me.f, Me.T, liftT, List.set_cons_succ, List.set_cons_zero, e1, e2, parS]
  -- told
  have dp := od2.deep
  have p_i : s2.length ≠ i := dice_ne g2.dice (Nat.le_refl _)
  have g3 : Gr i s2 (s2 ++ [O.lst [.bl (isI v 0 (B - 1)), .bl (isT v [wB, wF]), .bl (isT v [wK, wN]), .bl (isT v [wOn, wSl, wWay, wEnd, wBell])]]) := gr_end g2.dice
  have stB : exec (callF T (k + 6)) tB [x0, some (.ref 1), x2, x3, some (.ref i), x5, x6, x7, some v, some (.str c)] s2 = .nx [x0, some (.ref 1), x2, some (.ref s2.length), some (.ref i), x5, x6, x7, some v, some (.str c)] (s2 ++ [O.lst [.bl (isI v 0 (B - 1)), .bl (isT v [wB, wF]), .bl (isT v [wK, wN]), .bl (isT v [wOn, wSl, wWay, wEnd, wBell])]]) := by
    unfold tB
    simp only [Fe.bind_ok, Fe.bind_exc, Fe.lift_ok, Fe.lift_exc, Fe.seq_nx, Fe.seq_rt, Fe.seq_exc, Fe.v_non, Fe.v_bl, Fe.v_int, Fe.v_str, Fe.v_var, Fe.v_con, Fe.v_bin, Fe.v_neg, Fe.v_cmp, Fe.v_chn, Fe.v_and, Fe.v_or, Fe.v_not, Fe.v_ite, Fe.v_tup, Fe.v_lst, Fe.v_ix, Fe.v_sl, Fe.v_call, Fe.v_bi, Fe.v_isi, Fe.v_me, Fe.v_lc, Fe.v_dct, Fe.v_rev, Fe.o_no, Fe.o_int, Fe.o_var, Fe.o_bin, Fe.o_neg, Fe.o_ite, Fe.asI_int, Fe.t_no, Fe.t_cmp, Fe.t_chn, Fe.t_and, Fe.t_or, Fe.t_not, Fe.t_call, Fe.t_var, Fe.t_isi, Fe.t_bi, Fe.sems_nil, Fe.sems_cons, Fe.args_nil, Fe.args_cons, Fe.andV_1, Fe.andV_2, Fe.orV_1, Fe.orV_2, Fe.andT_1, Fe.andT_2, Fe.orT_1, Fe.orT_2, Fe.i_rng, Fe.i_tup, Fe.i_var, Fe.x_nil, Fe.x_cons, Fe.x_set, Fe.x_ret, Fe.x_expr, Fe.x_ite, Fe.x_sub, Fe.x_par, Fe.x_asg, Fe.x_for, Fe.x_rais, lk_0, lk_s, int_int, add_int, Cm.f, Ar.f, Bi.f, Me.f, Me.T, liftT, List.set_cons_succ, List.set_cons_zero, f4 (k := k + 4) dp.1, f5 (k := k + 5) dp.1, f6 (k := k + 5) dp.1, f7 (k := k + 5) dp.1, mkL4]
  generalize hp0 : s2.length = p at p_i stB
  have ep : (s2 ++ [O.lst [.bl (isI v 0 (B - 1)), .bl (isT v [wB, wF]), .bl (isT v [wK, wN]), .bl (isT v [wOn, wSl, wWay, wEnd, wBell])]])[p]? = some (.lst [.bl (isI v 0 (B - 1)), .bl (isT v [wB, wF]), .bl (isT v [wK, wN]), .bl (isT v [wOn, wSl, wWay, wEnd, wBell])]) := by rw [← hp0]; exact at_end
  have od3 := od2.gr g2.dice g3
  have w3 := g3.same 1 _ (by omega) w2
  generalize s2 ++ [O.lst [.bl (isI v 0 (B - 1)), .bl (isT v [wB, wF]), .bl (isT v [wK, wN]), .bl (isT v [wOn, wSl, wWay, wEnd, wBell])]] = s3 at g3 stB ep od3 w3
  have dp3 := od3.deep
  -- due
  have lp3 : p < s3.length := (List.getElem?_eq_some_iff.mp ep).1
  have stC : exec (callF T (k + 6)) tC [x0, some (.ref 1), x2, some (.ref p), some (.ref i), x5, x6, x7, some v, some (.str c)] s3 = .nx [x0, some (.ref 1), x2, some (.ref p), some (.ref i), x5, some (.ref (s3 ++ [O.lst [.str wB, .str wF]]).length), x7, some v, some (.str c)] (s3 ++ [O.lst [.str wB, .str wF]] ++ [O.lst [.bl (isI v 0 (10 ^ 40 - 1)), .bl (isT v [wB, wF])]]) := by
    unfold tC
    simp only [Fe.bind_ok, Fe.bind_exc, Fe.lift_ok, Fe.lift_exc, Fe.seq_nx, Fe.seq_rt, Fe.seq_exc, Fe.v_non, Fe.v_bl, Fe.v_int, Fe.v_str, Fe.v_var, Fe.v_con, Fe.v_bin, Fe.v_neg, Fe.v_cmp, Fe.v_chn, Fe.v_and, Fe.v_or, Fe.v_not, Fe.v_ite, Fe.v_tup, Fe.v_lst, Fe.v_ix, Fe.v_sl, Fe.v_call, Fe.v_bi, Fe.v_isi, Fe.v_me, Fe.v_lc, Fe.v_dct, Fe.v_rev, Fe.o_no, Fe.o_int, Fe.o_var, Fe.o_bin, Fe.o_neg, Fe.o_ite, Fe.asI_int, Fe.t_no, Fe.t_cmp, Fe.t_chn, Fe.t_and, Fe.t_or, Fe.t_not, Fe.t_call, Fe.t_var, Fe.t_isi, Fe.t_bi, Fe.sems_nil, Fe.sems_cons, Fe.args_nil, Fe.args_cons, Fe.andV_1, Fe.andV_2, Fe.orV_1, Fe.orV_2, Fe.andT_1, Fe.andT_2, Fe.orT_1, Fe.orT_2, Fe.i_rng, Fe.i_tup, Fe.i_var, Fe.x_nil, Fe.x_cons, Fe.x_set, Fe.x_ret, Fe.x_expr, Fe.x_ite, Fe.x_sub, Fe.x_par, Fe.x_asg, Fe.x_for, Fe.x_rais, lk_0, lk_s, int_int, add_int, Cm.f, Ar.f, Bi.f, Me.f, Me.T, liftT, List.set_cons_succ, List.set_cons_zero, p40, sub_int, f8 (k := k + 5) dp3.1, mkL2, text2 (k := k + 5) dp3.1]
  have g4 : Gr i s3 (s3 ++ [O.lst [.str wB, .str wF]] ++ [O.lst [.bl (isI v 0 (10 ^ 40 - 1)), .bl (isT v [wB, wF])]]) := (gr_end g3.dice).app
  have eq4 : (s3 ++ [O.lst [.str wB, .str wF]] ++ [O.lst [.bl (isI v 0 (10 ^ 40 - 1)), .bl (isT v [wB, wF])]])[(s3 ++ [O.lst [.str wB, .str wF]]).length]? = some (.lst [.bl (isI v 0 (10 ^ 40 - 1)), .bl (isT v [wB, wF])]) := at_end
  have ep4 := get_app (h := [O.lst [.bl (isI v 0 (10 ^ 40 - 1)), .bl (isT v [wB, wF])]]) (get_app (h := [O.lst [.str wB, .str wF]]) ep)
  have od4 := od3.gr g3.dice g4
  have w4 := g4.same 1 _ (by omega) w3
  have pq : p ≠ (s3 ++ [O.lst [.str wB, .str wF]]).length := by rw [List.length_append]; omega
  have q_ge : s2.length ≤ (s3 ++ [O.lst [.str wB, .str wF]]).length := by rw [List.length_append]; omega
  have q_i : (s3 ++ [O.lst [.str wB, .str wF]]).length ≠ i := by
    have := g3.dice.lt
    rw [List.length_append]; omega
  generalize (s3 ++ [O.lst [.str wB, .str wF]]).length = q at stC eq4 pq q_i q_ge
  generalize s3 ++ [O.lst [.str wB, .str wF]] ++ [O.lst [.bl (isI v 0 (10 ^ 40 - 1)), .bl (isT v [wB, wF])]] = s4 at stC g4 eq4 ep4 od4 w4
  have dp4 := od4.deep
  have big : (9 : Nat) ≤ line := by decide
  -- two more
  have G4 : Gr i s2 s4 := g3.trans g4
  have q5 : (s4 ++ [O.lst [.str wK, .str wN]])[q]? = some (.lst [.bl (isI v 0 (10 ^ 40 - 1)), .bl (isT v [wB, wF])]) := get_app eq4
  have stD : exec (callF T (k + 6)) tD [x0, some (.ref 1), x2, some (.ref p), some (.ref i), x5, some (.ref q), x7, some v, some (.str c)] s4 = .nx [x0, some (.ref 1), x2, some (.ref p), some (.ref i), x5, some (.ref q), x7, some v, some (.str c)] ((s4 ++ [O.lst [.str wK, .str wN]]).set q (.lst ([.bl (isI v 0 (10 ^ 40 - 1)), .bl (isT v [wB, wF])] ++ [.bl (isT v [wK, wN])]))) := by
    unfold tD
    simp only [Fe.bind_ok, Fe.bind_exc, Fe.lift_ok, Fe.lift_exc, Fe.seq_nx, Fe.seq_rt, Fe.seq_exc, Fe.v_non, Fe.v_bl, Fe.v_int, Fe.v_str, Fe.v_var, Fe.v_con, Fe.v_bin, Fe.v_neg, Fe.v_cmp, Fe.v_chn, Fe.v_and, Fe.v_or, Fe.v_not, Fe.v_ite, Fe.v_tup, Fe.v_lst, Fe.v_ix, Fe.v_sl, Fe.v_call, Fe.v_bi, Fe.v_isi, Fe.v_me, Fe.v_lc, Fe.v_dct, Fe.v_rev, Fe.o_no, Fe.o_int, Fe.o_var, Fe.o_bin, Fe.o_neg, Fe.o_ite, Fe.asI_int, Fe.t_no, Fe.t_cmp, Fe.t_chn, Fe.t_and, Fe.t_or, Fe.t_not, Fe.t_call, Fe.t_var, Fe.t_isi, Fe.t_bi, Fe.sems_nil, Fe.sems_cons, Fe.args_nil, Fe.args_cons, Fe.andV_1, Fe.andV_2, Fe.orV_1, Fe.orV_2, Fe.andT_1, Fe.andT_2, Fe.orT_1, Fe.orT_2, Fe.i_rng, Fe.i_tup, Fe.i_var, Fe.x_nil, Fe.x_cons, Fe.x_set, Fe.x_ret, Fe.x_expr, Fe.x_ite, Fe.x_sub, Fe.x_par, Fe.x_asg, Fe.x_for, Fe.x_rais, lk_0, lk_s, int_int, add_int, Cm.f, Ar.f, Bi.f, Me.f, Me.T, liftT, List.set_cons_succ, List.set_cons_zero, tyIs_lst eq4, if_true, mkL2, text2 (k := k + 5) dp4.1, app_at q5 (by show 2 < line; omega)]
  have G5 : Gr i s2 ((s4 ++ [O.lst [.str wK, .str wN]]).set q (.lst ([.bl (isI v 0 (10 ^ 40 - 1)), .bl (isT v [wB, wF])] ++ [.bl (isT v [wK, wN])]))) := gr_trans_put G4.app q_i q_ge
  have eq5 : ((s4 ++ [O.lst [.str wK, .str wN]]).set q (.lst ([.bl (isI v 0 (10 ^ 40 - 1)), .bl (isT v [wB, wF])] ++ [.bl (isT v [wK, wN])])))[q]? = some (.lst ([.bl (isI v 0 (10 ^ 40 - 1)), .bl (isT v [wB, wF])] ++ [.bl (isT v [wK, wN])])) := List.getElem?_set_self (List.getElem?_eq_some_iff.mp q5).1
  have ep5 : ((s4 ++ [O.lst [.str wK, .str wN]]).set q (.lst ([.bl (isI v 0 (10 ^ 40 - 1)), .bl (isT v [wB, wF])] ++ [.bl (isT v [wK, wN])])))[p]? = _ := (List.getElem?_set_ne (Ne.symm pq)).trans (get_app (h := [O.lst [.str wK, .str wN]]) ep4)
  generalize (s4 ++ [O.lst [.str wK, .str wN]]).set q (.lst ([.bl (isI v 0 (10 ^ 40 - 1)), .bl (isT v [wB, wF])] ++ [.bl (isT v [wK, wN])])) = s5 at stD G5 eq5 ep5
  have dp5 := (od2.gr g2.dice G5).deep
  have q6 : (s5 ++ [O.lst [.str wOn, .str wSl, .str wWay, .str wEnd, .str wBell]])[q]? = some (.lst ([.bl (isI v 0 (10 ^ 40 - 1)), .bl (isT v [wB, wF])] ++ [.bl (isT v [wK, wN])])) := get_app eq5
  have stE : exec (callF T (k + 6)) tE [x0, some (.ref 1), x2, some (.ref p), some (.ref i), x5, some (.ref q), x7, some v, some (.str c)] s5 = .nx [x0, some (.ref 1), x2, some (.ref p), some (.ref i), x5, some (.ref q), x7, some v, some (.str c)] ((s5 ++ [O.lst [.str wOn, .str wSl, .str wWay, .str wEnd, .str wBell]]).set q (.lst ([.bl (isI v 0 (10 ^ 40 - 1)), .bl (isT v [wB, wF])] ++ [.bl (isT v [wK, wN])] ++ [.bl (isT v [wOn, wSl, wWay, wEnd, wBell])]))) := by
    unfold tE
    simp only [Fe.bind_ok, Fe.bind_exc, Fe.lift_ok, Fe.lift_exc, Fe.seq_nx, Fe.seq_rt, Fe.seq_exc, Fe.v_non, Fe.v_bl, Fe.v_int, Fe.v_str, Fe.v_var, Fe.v_con, Fe.v_bin, Fe.v_neg, Fe.v_cmp, Fe.v_chn, Fe.v_and, Fe.v_or, Fe.v_not, Fe.v_ite, Fe.v_tup, Fe.v_lst, Fe.v_ix, Fe.v_sl, Fe.v_call, Fe.v_bi, Fe.v_isi, Fe.v_me, Fe.v_lc, Fe.v_dct, Fe.v_rev, Fe.o_no, Fe.o_int, Fe.o_var, Fe.o_bin, Fe.o_neg, Fe.o_ite, Fe.asI_int, Fe.t_no, Fe.t_cmp, Fe.t_chn, Fe.t_and, Fe.t_or, Fe.t_not, Fe.t_call, Fe.t_var, Fe.t_isi, Fe.t_bi, Fe.sems_nil, Fe.sems_cons, Fe.args_nil, Fe.args_cons, Fe.andV_1, Fe.andV_2, Fe.orV_1, Fe.orV_2, Fe.andT_1, Fe.andT_2, Fe.orT_1, Fe.orT_2, Fe.i_rng, Fe.i_tup, Fe.i_var, Fe.x_nil, Fe.x_cons, Fe.x_set, Fe.x_ret, Fe.x_expr, Fe.x_ite, Fe.x_sub, Fe.x_par, Fe.x_asg, Fe.x_for, Fe.x_rais, lk_0, lk_s, int_int, add_int, Cm.f, Ar.f, Bi.f, Me.f, Me.T, liftT, List.set_cons_succ, List.set_cons_zero, tyIs_lst eq5, if_true, mkL5, text5 (k := k + 5) dp5.1, app_at q6 (by show 3 < line; omega)]
  have G6 : Gr i s2 ((s5 ++ [O.lst [.str wOn, .str wSl, .str wWay, .str wEnd, .str wBell]]).set q (.lst ([.bl (isI v 0 (10 ^ 40 - 1)), .bl (isT v [wB, wF])] ++ [.bl (isT v [wK, wN])] ++ [.bl (isT v [wOn, wSl, wWay, wEnd, wBell])]))) := gr_trans_put G5.app q_i q_ge
  have eq6 : ((s5 ++ [O.lst [.str wOn, .str wSl, .str wWay, .str wEnd, .str wBell]]).set q (.lst ([.bl (isI v 0 (10 ^ 40 - 1)), .bl (isT v [wB, wF])] ++ [.bl (isT v [wK, wN])] ++ [.bl (isT v [wOn, wSl, wWay, wEnd, wBell])])))[q]? = some (.lst ([.bl (isI v 0 (10 ^ 40 - 1)), .bl (isT v [wB, wF])] ++ [.bl (isT v [wK, wN])] ++ [.bl (isT v [wOn, wSl, wWay, wEnd, wBell])])) := List.getElem?_set_self (List.getElem?_eq_some_iff.mp q6).1
  have ep6 : ((s5 ++ [O.lst [.str wOn, .str wSl, .str wWay, .str wEnd, .str wBell]]).set q (.lst ([.bl (isI v 0 (10 ^ 40 - 1)), .bl (isT v [wB, wF])] ++ [.bl (isT v [wK, wN])] ++ [.bl (isT v [wOn, wSl, wWay, wEnd, wBell])])))[p]? = _ := (List.getElem?_set_ne (Ne.symm pq)).trans (get_app (h := [O.lst [.str wOn, .str wSl, .str wWay, .str wEnd, .str wBell]]) ep5)
  generalize (s5 ++ [O.lst [.str wOn, .str wSl, .str wWay, .str wEnd, .str wBell]]).set q (.lst ([.bl (isI v 0 (10 ^ 40 - 1)), .bl (isT v [wB, wF])] ++ [.bl (isT v [wK, wN])] ++ [.bl (isT v [wOn, wSl, wWay, wEnd, wBell])])) = s6 at stE G6 eq6 ep6
  -- the two values
  obtain ⟨d, s7, g7, dd7, e7⟩ := f10 (k := k + 2) G6.dice (c := c)
  have G7 : Gr i s2 s7 := G6.trans g7
  have ep7 := g7.same p _ p_i ep6
  have eq7 := g7.same q _ q_i eq6
  have dv7 := (od2.gr g2.dice G7).deep
  have t1 := pair_turn (k := k) (x0 := x0) (x1 := some (.ref 1)) (x2 := x2) (x4 := some (.ref i)) (x5 := x5) (x8 := some v) hc dv7 ep7 eq7 pq (show 4 < 9 by decide) (show 4 < 9 by decide)
  have G8 : Gr i s2 ((s7.set p (.lst ([.bl (isI v 0 (B - 1)), .bl (isT v [wB, wF]), .bl (isT v [wK, wN]), .bl (isT v [wOn, wSl, wWay, wEnd, wBell])] ++ [.bl (entry c v)]))).set q (.lst ([.bl (isI v 0 (10 ^ 40 - 1)), .bl (isT v [wB, wF])] ++ [.bl (isT v [wK, wN])] ++ [.bl (isT v [wOn, wSl, wWay, wEnd, wBell])] ++ [.bl (entry c v)]))) := gr_trans_put (gr_trans_put G7 p_i (by omega)) q_i q_ge
  have ep8 : ((s7.set p (.lst ([.bl (isI v 0 (B - 1)), .bl (isT v [wB, wF]), .bl (isT v [wK, wN]), .bl (isT v [wOn, wSl, wWay, wEnd, wBell])] ++ [.bl (entry c v)]))).set q (.lst ([.bl (isI v 0 (10 ^ 40 - 1)), .bl (isT v [wB, wF])] ++ [.bl (isT v [wK, wN])] ++ [.bl (isT v [wOn, wSl, wWay, wEnd, wBell])] ++ [.bl (entry c v)])))[p]? = some (.lst ([.bl (isI v 0 (B - 1)), .bl (isT v [wB, wF]), .bl (isT v [wK, wN]), .bl (isT v [wOn, wSl, wWay, wEnd, wBell])] ++ [.bl (entry c v)])) := (List.getElem?_set_ne (Ne.symm pq)).trans (List.getElem?_set_self (List.getElem?_eq_some_iff.mp ep7).1)
  have eq8 : ((s7.set p (.lst ([.bl (isI v 0 (B - 1)), .bl (isT v [wB, wF]), .bl (isT v [wK, wN]), .bl (isT v [wOn, wSl, wWay, wEnd, wBell])] ++ [.bl (entry c v)]))).set q (.lst ([.bl (isI v 0 (10 ^ 40 - 1)), .bl (isT v [wB, wF])] ++ [.bl (isT v [wK, wN])] ++ [.bl (isT v [wOn, wSl, wWay, wEnd, wBell])] ++ [.bl (entry c v)])))[q]? = some (.lst ([.bl (isI v 0 (10 ^ 40 - 1)), .bl (isT v [wB, wF])] ++ [.bl (isT v [wK, wN])] ++ [.bl (isT v [wOn, wSl, wWay, wEnd, wBell])] ++ [.bl (entry c v)])) := List.getElem?_set_self (by rw [List.length_set]; exact (List.getElem?_eq_some_iff.mp eq7).1)
  have dd8 : Deep ((s7.set p (.lst ([.bl (isI v 0 (B - 1)), .bl (isT v [wB, wF]), .bl (isT v [wK, wN]), .bl (isT v [wOn, wSl, wWay, wEnd, wBell])] ++ [.bl (entry c v)]))).set q (.lst ([.bl (isI v 0 (10 ^ 40 - 1)), .bl (isT v [wB, wF])] ++ [.bl (isT v [wK, wN])] ++ [.bl (isT v [wOn, wSl, wWay, wEnd, wBell])] ++ [.bl (entry c v)]))) d := deep_put (deep_put dd7 ep7) ((List.getElem?_set_ne pq).trans eq7)
  generalize (s7.set p (.lst ([.bl (isI v 0 (B - 1)), .bl (isT v [wB, wF]), .bl (isT v [wK, wN]), .bl (isT v [wOn, wSl, wWay, wEnd, wBell])] ++ [.bl (entry c v)]))).set q (.lst ([.bl (isI v 0 (10 ^ 40 - 1)), .bl (isT v [wB, wF])] ++ [.bl (isT v [wK, wN])] ++ [.bl (isT v [wOn, wSl, wWay, wEnd, wBell])] ++ [.bl (entry c v)])) = s8 at t1 G8 ep8 eq8 dd8
  have t2 := pair_turn (k := k) (x0 := x0) (x1 := some (.ref 1)) (x2 := x2) (x4 := some (.ref i)) (x5 := x5) (x8 := some v) hc dd8 ep8 eq8 pq (show 5 < 9 by decide) (show 5 < 9 by decide)
  have G9 : Gr i s2 ((s8.set p (.lst ([.bl (isI v 0 (B - 1)), .bl (isT v [wB, wF]), .bl (isT v [wK, wN]), .bl (isT v [wOn, wSl, wWay, wEnd, wBell])] ++ [.bl (entry c v)] ++ [.bl (entry c d)]))).set q (.lst ([.bl (isI v 0 (10 ^ 40 - 1)), .bl (isT v [wB, wF])] ++ [.bl (isT v [wK, wN])] ++ [.bl (isT v [wOn, wSl, wWay, wEnd, wBell])] ++ [.bl (entry c v)] ++ [.bl (entry c d)]))) := gr_trans_put (gr_trans_put G8 p_i (by omega)) q_i q_ge
  have ep9 : ((s8.set p (.lst ([.bl (isI v 0 (B - 1)), .bl (isT v [wB, wF]), .bl (isT v [wK, wN]), .bl (isT v [wOn, wSl, wWay, wEnd, wBell])] ++ [.bl (entry c v)] ++ [.bl (entry c d)]))).set q (.lst ([.bl (isI v 0 (10 ^ 40 - 1)), .bl (isT v [wB, wF])] ++ [.bl (isT v [wK, wN])] ++ [.bl (isT v [wOn, wSl, wWay, wEnd, wBell])] ++ [.bl (entry c v)] ++ [.bl (entry c d)])))[p]? = some (.lst ([.bl (isI v 0 (B - 1)), .bl (isT v [wB, wF]), .bl (isT v [wK, wN]), .bl (isT v [wOn, wSl, wWay, wEnd, wBell])] ++ [.bl (entry c v)] ++ [.bl (entry c d)])) := (List.getElem?_set_ne (Ne.symm pq)).trans (List.getElem?_set_self (List.getElem?_eq_some_iff.mp ep8).1)
  have eq9 : ((s8.set p (.lst ([.bl (isI v 0 (B - 1)), .bl (isT v [wB, wF]), .bl (isT v [wK, wN]), .bl (isT v [wOn, wSl, wWay, wEnd, wBell])] ++ [.bl (entry c v)] ++ [.bl (entry c d)]))).set q (.lst ([.bl (isI v 0 (10 ^ 40 - 1)), .bl (isT v [wB, wF])] ++ [.bl (isT v [wK, wN])] ++ [.bl (isT v [wOn, wSl, wWay, wEnd, wBell])] ++ [.bl (entry c v)] ++ [.bl (entry c d)])))[q]? = some (.lst ([.bl (isI v 0 (10 ^ 40 - 1)), .bl (isT v [wB, wF])] ++ [.bl (isT v [wK, wN])] ++ [.bl (isT v [wOn, wSl, wWay, wEnd, wBell])] ++ [.bl (entry c v)] ++ [.bl (entry c d)])) := List.getElem?_set_self (by rw [List.length_set]; exact (List.getElem?_eq_some_iff.mp eq8).1)
  generalize (s8.set p (.lst ([.bl (isI v 0 (B - 1)), .bl (isT v [wB, wF]), .bl (isT v [wK, wN]), .bl (isT v [wOn, wSl, wWay, wEnd, wBell])] ++ [.bl (entry c v)] ++ [.bl (entry c d)]))).set q (.lst ([.bl (isI v 0 (10 ^ 40 - 1)), .bl (isT v [wB, wF])] ++ [.bl (isT v [wK, wN])] ++ [.bl (isT v [wOn, wSl, wWay, wEnd, wBell])] ++ [.bl (entry c v)] ++ [.bl (entry c d)])) = s9 at t2 G9 ep9 eq9
  have stF : exec (callF T (k + 6)) tF [x0, some (.ref 1), x2, some (.ref p), some (.ref i), x5, some (.ref q), x7, some v, some (.str c)] s6 = .nx [x0, some (.ref 1), x2, some (.ref p), some (.ref i), x5, some (.ref q), some d, some v, some (.str c)] s9 := by
    unfold tF
    simp only [Fe.bind_ok, Fe.bind_exc, Fe.lift_ok, Fe.lift_exc, Fe.seq_nx, Fe.seq_rt, Fe.seq_exc, Fe.v_non, Fe.v_bl, Fe.v_int, Fe.v_str, Fe.v_var, Fe.v_con, Fe.v_bin, Fe.v_neg, Fe.v_cmp, Fe.v_chn, Fe.v_and, Fe.v_or, Fe.v_not, Fe.v_ite, Fe.v_tup, Fe.v_lst, Fe.v_ix, Fe.v_sl, Fe.v_call, Fe.v_bi, Fe.v_isi, Fe.v_me, Fe.v_lc, Fe.v_dct, Fe.v_rev, Fe.o_no, Fe.o_int, Fe.o_var, Fe.o_bin, Fe.o_neg, Fe.o_ite, Fe.asI_int, Fe.t_no, Fe.t_cmp, Fe.t_chn, Fe.t_and, Fe.t_or, Fe.t_not, Fe.t_call, Fe.t_var, Fe.t_isi, Fe.t_bi, Fe.sems_nil, Fe.sems_cons, Fe.args_nil, Fe.args_cons, Fe.andV_1, Fe.andV_2, Fe.orV_1, Fe.orV_2, Fe.andT_1, Fe.andT_2, Fe.orT_1, Fe.orT_2, Fe.i_rng, Fe.i_tup, Fe.i_var, Fe.x_nil, Fe.x_cons, Fe.x_set, Fe.x_ret, Fe.x_expr, Fe.x_ite, Fe.x_sub, Fe.x_par, Fe.x_asg, Fe.x_for, Fe.x_rais, lk_0, lk_s, int_int, add_int, Cm.f, Ar.f, Bi.f, Me.f, Me.T, liftT, List.set_cons_succ, List.set_cons_zero, e7, mkT2, srcOf]
    unfold forW forW forW
    simp only [Src.live, if_true, bnd, Fe.bind_ok, Fe.bind_exc, Fe.lift_ok, Fe.lift_exc, Fe.seq_nx, Fe.seq_rt, Fe.seq_exc, Fe.v_non, Fe.v_bl, Fe.v_int, Fe.v_str, Fe.v_var, Fe.v_con, Fe.v_bin, Fe.v_neg, Fe.v_cmp, Fe.v_chn, Fe.v_and, Fe.v_or, Fe.v_not, Fe.v_ite, Fe.v_tup, Fe.v_lst, Fe.v_ix, Fe.v_sl, Fe.v_call, Fe.v_bi, Fe.v_isi, Fe.v_me, Fe.v_lc, Fe.v_dct, Fe.v_rev, Fe.o_no, Fe.o_int, Fe.o_var, Fe.o_bin, Fe.o_neg, Fe.o_ite, Fe.asI_int, Fe.t_no, Fe.t_cmp, Fe.t_chn, Fe.t_and, Fe.t_or, Fe.t_not, Fe.t_call, Fe.t_var, Fe.t_isi, Fe.t_bi, Fe.sems_nil, Fe.sems_cons, Fe.args_nil, Fe.args_cons, Fe.andV_1, Fe.andV_2, Fe.orV_1, Fe.orV_2, Fe.andT_1, Fe.andT_2, Fe.orT_1, Fe.orT_2, Fe.i_rng, Fe.i_tup, Fe.i_var, Fe.x_nil, Fe.x_cons, Fe.x_set, Fe.x_ret, Fe.x_expr, Fe.x_ite, Fe.x_sub, Fe.x_par, Fe.x_asg, Fe.x_for, Fe.x_rais, lk_0, lk_s, int_int, add_int, Cm.f, Ar.f, Bi.f, Me.f, Me.T, liftT, List.set_cons_succ, List.set_cons_zero]
    have t1' : execs (callF T (k + 6)) pairB [x0, some (.ref 1), x2, some (.ref p), some (.ref i), x5, some (.ref q), some v, some v, some (.str c)] s7 = _ := t1
    have t2' : execs (callF T (k + 6)) pairB [x0, some (.ref 1), x2, some (.ref p), some (.ref i), x5, some (.ref q), some d, some v, some (.str c)] s8 = _ := t2
    show (match execs (callF T (k + 6)) pairB [x0, some (.ref 1), x2, some (.ref p), some (.ref i), x5, some (.ref q), some v, some v, some (.str c)] s7 with | .nx ρ2 s2 => _ | .ct ρ2 s2 => _ | .bk ρ2 s2 => _ | .rt d s2 => _ | .exc x ρ2 s2 => _ | .bad => _) = _
    rw [t1']
    show (match execs (callF T (k + 6)) pairB [x0, some (.ref 1), x2, some (.ref p), some (.ref i), x5, some (.ref q), some d, some v, some (.str c)] s8 with | .nx ρ2 s2 => _ | .ct ρ2 s2 => _ | .bk ρ2 s2 => _ | .rt d s2 => _ | .exc x ρ2 s2 => _ | .bad => _) = _
    rw [t2']
  -- the same told as due
  have BB : B - 1 = 10 ^ 40 - 1 := by unfold B; decide +kernel
  rw [BB] at ep9
  have rp := repr_bools ep9
  have rq := repr_bools eq9
  have stG : exec (callF T (k + 6)) tG [x0, some (.ref 1), x2, some (.ref p), some (.ref i), x5, some (.ref q), some d, some v, some (.str c)] s9 = .nx [x0, some (.ref 1), x2, some (.ref p), some (.ref i), x5, some (.ref q), some d, some v, some (.str c)] s9 := by
    unfold tG
    simp only [Fe.bind_ok, Fe.bind_exc, Fe.lift_ok, Fe.lift_exc, Fe.seq_nx, Fe.seq_rt, Fe.seq_exc, Fe.v_non, Fe.v_bl, Fe.v_int, Fe.v_str, Fe.v_var, Fe.v_con, Fe.v_bin, Fe.v_neg, Fe.v_cmp, Fe.v_chn, Fe.v_and, Fe.v_or, Fe.v_not, Fe.v_ite, Fe.v_tup, Fe.v_lst, Fe.v_ix, Fe.v_sl, Fe.v_call, Fe.v_bi, Fe.v_isi, Fe.v_me, Fe.v_lc, Fe.v_dct, Fe.v_rev, Fe.o_no, Fe.o_int, Fe.o_var, Fe.o_bin, Fe.o_neg, Fe.o_ite, Fe.asI_int, Fe.t_no, Fe.t_cmp, Fe.t_chn, Fe.t_and, Fe.t_or, Fe.t_not, Fe.t_call, Fe.t_var, Fe.t_isi, Fe.t_bi, Fe.sems_nil, Fe.sems_cons, Fe.args_nil, Fe.args_cons, Fe.andV_1, Fe.andV_2, Fe.orV_1, Fe.orV_2, Fe.andT_1, Fe.andT_2, Fe.orT_1, Fe.orT_2, Fe.i_rng, Fe.i_tup, Fe.i_var, Fe.x_nil, Fe.x_cons, Fe.x_set, Fe.x_ret, Fe.x_expr, Fe.x_ite, Fe.x_sub, Fe.x_par, Fe.x_asg, Fe.x_for, Fe.x_rais, lk_0, lk_s, int_int, add_int, Cm.f, Ar.f, Bi.f, Me.f, Me.T, liftT, List.set_cons_succ, List.set_cons_zero, rp, rq, ne_str, beq_self_eq_true, Bool.not_true, asB_bl, bfalse, if_false]
  -- no word
  have od9 := od2.gr g2.dice G9
  have w9 := G9.same 1 _ (by omega) w2
  have stH : exec (callF T (k + 6)) tH [x0, some (.ref 1), x2, some (.ref p), some (.ref i), x5, some (.ref q), some d, some v, some (.str c)] s9 = .nx [x0, some (.ref 1), x2, some (.ref p), some (.ref i), x5, some (.ref q), some d, some v, some (.str c)] s9 := by
    unfold tH
    simp only [Fe.bind_ok, Fe.bind_exc, Fe.lift_ok, Fe.lift_exc, Fe.seq_nx, Fe.seq_rt, Fe.seq_exc, Fe.v_non, Fe.v_bl, Fe.v_int, Fe.v_str, Fe.v_var, Fe.v_con, Fe.v_bin, Fe.v_neg, Fe.v_cmp, Fe.v_chn, Fe.v_and, Fe.v_or, Fe.v_not, Fe.v_ite, Fe.v_tup, Fe.v_lst, Fe.v_ix, Fe.v_sl, Fe.v_call, Fe.v_bi, Fe.v_isi, Fe.v_me, Fe.v_lc, Fe.v_dct, Fe.v_rev, Fe.o_no, Fe.o_int, Fe.o_var, Fe.o_bin, Fe.o_neg, Fe.o_ite, Fe.asI_int, Fe.t_no, Fe.t_cmp, Fe.t_chn, Fe.t_and, Fe.t_or, Fe.t_not, Fe.t_call, Fe.t_var, Fe.t_isi, Fe.t_bi, Fe.sems_nil, Fe.sems_cons, Fe.args_nil, Fe.args_cons, Fe.andV_1, Fe.andV_2, Fe.orV_1, Fe.orV_2, Fe.andT_1, Fe.andT_2, Fe.orT_1, Fe.orT_2, Fe.i_rng, Fe.i_tup, Fe.i_var, Fe.x_nil, Fe.x_cons, Fe.x_set, Fe.x_ret, Fe.x_expr, Fe.x_ite, Fe.x_sub, Fe.x_par, Fe.x_asg, Fe.x_for, Fe.x_rais, lk_0, lk_s, int_int, add_int, Cm.f, Ar.f, Bi.f, Me.f, Me.T, liftT, List.set_cons_succ, List.set_cons_zero, f9 (k := k + 5) od9.deep.1 words w9, tru_bl]
    by_cases hw : isT v words = true
    · simp only [hw, Bool.not_true, bfalse, if_false, Fe.bind_ok, Fe.bind_exc, Fe.lift_ok, Fe.lift_exc, Fe.seq_nx, Fe.seq_rt, Fe.seq_exc, Fe.v_non, Fe.v_bl, Fe.v_int, Fe.v_str, Fe.v_var, Fe.v_con, Fe.v_bin, Fe.v_neg, Fe.v_cmp, Fe.v_chn, Fe.v_and, Fe.v_or, Fe.v_not, Fe.v_ite, Fe.v_tup, Fe.v_lst, Fe.v_ix, Fe.v_sl, Fe.v_call, Fe.v_bi, Fe.v_isi, Fe.v_me, Fe.v_lc, Fe.v_dct, Fe.v_rev, Fe.o_no, Fe.o_int, Fe.o_var, Fe.o_bin, Fe.o_neg, Fe.o_ite, Fe.asI_int, Fe.t_no, Fe.t_cmp, Fe.t_chn, Fe.t_and, Fe.t_or, Fe.t_not, Fe.t_call, Fe.t_var, Fe.t_isi, Fe.t_bi, Fe.sems_nil, Fe.sems_cons, Fe.args_nil, Fe.args_cons, Fe.andV_1, Fe.andV_2, Fe.orV_1, Fe.orV_2, Fe.andT_1, Fe.andT_2, Fe.orT_1, Fe.orT_2, Fe.i_rng, Fe.i_tup, Fe.i_var, Fe.x_nil, Fe.x_cons, Fe.x_set, Fe.x_ret, Fe.x_expr, Fe.x_ite, Fe.x_sub, Fe.x_par, Fe.x_asg, Fe.x_for, Fe.x_rais, lk_0, lk_s, int_int, add_int, Cm.f, Ar.f, Bi.f, Me.f, Me.T, liftT, List.set_cons_succ, List.set_cons_zero]
    · have hw' : isT v words = false := by simpa using hw
      simp only [hw', Bool.not_false, if_true, Fe.bind_ok, Fe.bind_exc, Fe.lift_ok, Fe.lift_exc, Fe.seq_nx, Fe.seq_rt, Fe.seq_exc, Fe.v_non, Fe.v_bl, Fe.v_int, Fe.v_str, Fe.v_var, Fe.v_con, Fe.v_bin, Fe.v_neg, Fe.v_cmp, Fe.v_chn, Fe.v_and, Fe.v_or, Fe.v_not, Fe.v_ite, Fe.v_tup, Fe.v_lst, Fe.v_ix, Fe.v_sl, Fe.v_call, Fe.v_bi, Fe.v_isi, Fe.v_me, Fe.v_lc, Fe.v_dct, Fe.v_rev, Fe.o_no, Fe.o_int, Fe.o_var, Fe.o_bin, Fe.o_neg, Fe.o_ite, Fe.asI_int, Fe.t_no, Fe.t_cmp, Fe.t_chn, Fe.t_and, Fe.t_or, Fe.t_not, Fe.t_call, Fe.t_var, Fe.t_isi, Fe.t_bi, Fe.sems_nil, Fe.sems_cons, Fe.args_nil, Fe.args_cons, Fe.andV_1, Fe.andV_2, Fe.orV_1, Fe.orV_2, Fe.andT_1, Fe.andT_2, Fe.orT_1, Fe.orT_2, Fe.i_rng, Fe.i_tup, Fe.i_var, Fe.x_nil, Fe.x_cons, Fe.x_set, Fe.x_ret, Fe.x_expr, Fe.x_ite, Fe.x_sub, Fe.x_par, Fe.x_asg, Fe.x_for, Fe.x_rais, lk_0, lk_s, int_int, add_int, Cm.f, Ar.f, Bi.f, Me.f, Me.T, liftT, List.set_cons_succ, List.set_cons_zero, f13 (k := k) od9.deep.1 od9.shown hw', tru_bl, Bool.not_true, bfalse, if_false]
  refine ⟨some (.ref p), some (.ref q), some d, some v, some (.str c), s9, g1.trans (g2.trans G9), ?_⟩
  unfold turnB
  rw [x_cons, stA, seq_nx, x_cons, stB, seq_nx, x_cons, stC, seq_nx, x_cons, stD, seq_nx, x_cons, stE, seq_nx, x_cons, stF, seq_nx, x_cons, stG, seq_nx, x_cons, stH, seq_nx]
  rfl
end
end K00

set_option maxHeartbeats 4000000
namespace K00
open Fe
open L2 (atI ixN)
section
variable {k : Nat} {s s' s2 : Fe.S} {v w : D} {Γ : Nat → List D → Fe.S → Out D} {ρ : Fe.Env} {i : Nat}
abbrev innerB : List Fe.St := [(.set 4 (.call 1 [(.var 0), (.var 2)])), (.for_ (.nm 5) (.rng [(.int 20)]) turnB)]
theorem rng_int {j : Int} {s : Fe.S} (h : rngOk j = true) : srcR [.int j] s = .ok ⟨rangeD 0 j.toNat, none⟩ s := by
  show (if rngOk j = true then _ else _) = _
  rw [if_pos h]
theorem range_mem {n : Nat} {d : D} (h : d ∈ rangeD 0 n) : ∃ j : Nat, d = .int (j : Int) := by
  unfold rangeD at h
  obtain ⟨j, _, rfl⟩ := List.mem_map.mp h
  exact ⟨j, by simp⟩
/-- what stands through the loop over the cells -/
def Inv1 (ns : List Int) (ρ : Fe.Env) (s : Fe.S) : Prop := ∃ x2 x3 x4 x5 x6 x7 x8 x9, ρ = [some (.ref 0), some (.ref 1), x2, x3, x4, x5, x6, x7, x8, x9] ∧ s[0]? = some (.rl (ns.map .int)) ∧ s[1]? = some (.lst (words.map D.str))
theorem cell_spec {ns : List Int} {j : Nat} {x2 x3 x4 x5 x6 x7 x8 x9 : Option D} (h0 : s[0]? = some (.rl (ns.map .int))) (h1 : s[1]? = some (.lst (words.map D.str))) :
    ∃ ρ' s', execs (callF T (k + 6)) innerB [some (.ref 0), some (.ref 1), some (.int (j : Int)), x3, x4, x5, x6, x7, x8, x9] s = .nx ρ' s' ∧ Inv1 ns ρ' s' := by
  obtain ⟨a, b, e1⟩ := dice_spec (k := k + 5) (T := T) (f := 1) (e := rfl) rfl rfl h0 (n := (j : Int)) (by omega)
  have l1 : 1 < s.length := (List.getElem?_eq_some_iff.mp h1).1
  have st1 : exec (callF T (k + 6)) (.set 4 (.call 1 [(.var 0), (.var 2)])) [some (.ref 0), some (.ref 1), some (.int (j : Int)), x3, x4, x5, x6, x7, x8, x9] s = .nx [some (.ref 0), some (.ref 1), some (.int (j : Int)), x3, some (.ref s.length), x5, x6, x7, x8, x9] (s ++ [O.lst [.int a, .int b, .int 0]]) := by
    rw [x_set, v_call, sems_cons, sems_cons, sems_nil, args_two]
    simp only [Fe.bind_ok, Fe.bind_exc, Fe.lift_ok, Fe.lift_exc, Fe.seq_nx, Fe.seq_rt, Fe.seq_exc, Fe.v_non, Fe.v_bl, Fe.v_int, Fe.v_str, Fe.v_var, Fe.v_con, Fe.v_bin, Fe.v_neg, Fe.v_cmp, Fe.v_chn, Fe.v_and, Fe.v_or, Fe.v_not, Fe.v_ite, Fe.v_tup, Fe.v_lst, Fe.v_ix, Fe.v_sl, Fe.v_call, Fe.v_bi, Fe.v_isi, Fe.v_me, Fe.v_lc, Fe.v_dct, Fe.v_rev, Fe.o_no, Fe.o_int, Fe.o_var, Fe.o_bin, Fe.o_neg, Fe.o_ite, Fe.asI_int, Fe.t_no, Fe.t_cmp, Fe.t_chn, Fe.t_and, Fe.t_or, Fe.t_not, Fe.t_call, Fe.t_var, Fe.t_isi, Fe.t_bi, Fe.sems_nil, Fe.sems_cons, Fe.args_nil, Fe.args_cons, Fe.andV_1, Fe.andV_2, Fe.orV_1, Fe.orV_2, Fe.andT_1, Fe.andT_2, Fe.orT_1, Fe.orT_2, Fe.i_rng, Fe.i_tup, Fe.i_var, Fe.x_nil, Fe.x_cons, Fe.x_set, Fe.x_ret, Fe.x_expr, Fe.x_ite, Fe.x_sub, Fe.x_par, Fe.x_asg, Fe.x_for, Fe.x_rais, lk_0, lk_s, int_int, add_int, Cm.f, Ar.f, Bi.f, Me.f, Me.T, liftT, List.set_cons_succ, List.set_cons_zero, e1]
  have loop := forW_inv (live := Src.live ⟨rangeD 0 20, none⟩) (bind := bnd (.nm 5)) (body := execs (callF T (k + 6)) turnB) (ds := rangeD 0 20)
    (P := fun ρ s' => ∃ x2 x3 x5 x6 x7 x8 x9, ρ = [some (.ref 0), some (.ref 1), x2, x3, some (.ref s.length), x5, x6, x7, x8, x9] ∧ s'[0]? = some (.rl (ns.map .int)) ∧ s'[1]? = some (.lst (words.map D.str)) ∧ Dice s' s.length)
    (ρ := [some (.ref 0), some (.ref 1), some (.int (j : Int)), x3, some (.ref s.length), x5, x6, x7, x8, x9]) (s := s ++ [O.lst [.int a, .int b, .int 0]])
    ⟨_, _, _, _, _, _, _, rfl, get_app h0, get_app h1, ⟨_, _, _, at_end⟩⟩ (fun _ _ _ => rfl)
    (fun d _ ρ s' ⟨x2, x3, x5, x6, x7, x8, x9, er, q0, q1, qd⟩ => by
      subst er
      obtain ⟨y3, y6, y7, y8, y9, s'', g, e⟩ := turn_spec (k := k) qd (by omega) q1 (x0 := some (.ref 0)) (x2 := x2) (x3 := x3) (x5 := some d) (x6 := x6) (x7 := x7) (x8 := x8) (x9 := x9)
      exact ⟨_, _, rfl, _, _, e, _, _, _, _, _, _, _, rfl, g.same 0 _ (by omega) q0, g.same 1 _ (by omega) q1, g.dice⟩)
  obtain ⟨ρ', s', e, x2', x3', x5', x6', x7', x8', x9', er, q0, q1, _⟩ := loop
  have st2 : exec (callF T (k + 6)) (.for_ (.nm 5) (.rng [(.int 20)]) turnB) [some (.ref 0), some (.ref 1), some (.int (j : Int)), x3, some (.ref s.length), x5, x6, x7, x8, x9] (s ++ [O.lst [.int a, .int b, .int 0]]) = .nx ρ' s' := by
    rw [x_for]
    have : (sem (callF T (k + 6)) (.rng [(.int 20)])).i [some (.ref 0), some (.ref 1), some (.int (j : Int)), x3, some (.ref s.length), x5, x6, x7, x8, x9] (s ++ [O.lst [.int a, .int b, .int 0]]) = .ok ⟨rangeD 0 20, none⟩ (s ++ [O.lst [.int a, .int b, .int 0]]) := rfl
    rw [this, lift_ok]
    exact e
  refine ⟨ρ', s', ?_, _, _, _, _, _, _, _, _, er, q0, q1⟩
  unfold innerB
  rw [x_cons, st1, seq_nx, x_cons, st2, seq_nx, x_nil]
theorem eqD_ints {p q : Nat} {l : List D} {ps : List PySem.PyData} (hp : s[p]? = some (.lst l)) (hq : s[q]? = some (.lst l)) (hm : mapO (pd s 59) l = some ps) (he : PySem.PyData.eqv (.list ps) (.list ps) = true) : opEq (.ref p) (.ref q) s = .ok (.bl true) s := by
  unfold opEq eqD
  rw [pd_lst hp, pd_lst hq, hm]
  show Out.ok (D.bl (PySem.PyData.eqv (.list ps) (.list ps))) s = _
  rw [he]
theorem neD_ints {p q : Nat} {l : List D} {ps : List PySem.PyData} (hp : s[p]? = some (.lst l)) (hq : s[q]? = some (.lst l)) (hm : mapO (pd s 59) l = some ps) (he : PySem.PyData.eqv (.list ps) (.list ps) = true) : opNe (.ref p) (.ref q) s = .ok (.bl false) s := by
  unfold opNe eqD
  rw [pd_lst hp, pd_lst hq, hm]
  show Out.ok (D.bl (!PySem.PyData.eqv (.list ps) (.list ps))) s = _
  rw [he]; rfl
theorem mkL3 {a b c : D} : mkLst [a, b, c] s = .ok (.ref s.length) (s ++ [O.lst [a, b, c]]) := rfl
theorem mkL7 {a b c d e f g : D} : mkLst [a, b, c, d, e, f, g] s = .ok (.ref s.length) (s ++ [O.lst [a, b, c, d, e, f, g]]) := rfl
theorem mkT3 {a b c : D} : mkTup [a, b, c] s = .ok (.tup [a, b, c]) s := rfl
abbrev tail1 : Fe.St := (.ite (.or [(.cmp .ne (.lst [(.con 0 (.int 3)), (.con 1 (.int 3)), (.con 2 (.int 3))]) (.lst [(.int 3), (.int 3), (.int 3)])), (.not (.call 13 [(.str [115, 108, 105, 99, 101]), .non]))]) [(.ret (.bl false))] [])
abbrev tail2 : Fe.St := (.set 3 (.lst [(.call 11 [(.str [116, 105, 99, 107, 115]), .non]), (.call 11 [(.str [116, 97, 107, 101, 115]), .non]), (.call 11 [(.str [117, 115, 101, 100]), (.tup [(.int 2), (.str [102, 114, 111, 110, 116]), (.str [110, 101, 119])])])]))
abbrev tail3 : Fe.St := (.ret (.cmp .eq (.bin .add (.var 3) (.lst [(.call 4 [(.bin .sub (.bin .pow (.int 10) (.int 40)) (.int 1))])])) (.lst [(.bl true), (.bl false), (.bl false), (.bl true)])))
theorem tail_spec {x0 x1 x2 x3 x4 x5 x6 x7 x8 x9 : Option D} : ∃ s', execs (callF T (k + 6)) [tail1, tail2, tail3] [x0, x1, x2, x3, x4, x5, x6, x7, x8, x9] s = .rt (.bl true) s' := by
  have ne1 := neD_ints (s := s ++ [O.lst [.int 3, .int 3, .int 3]] ++ [O.lst [.int 3, .int 3, .int 3]]) (p := s.length) (q := (s ++ [O.lst [.int 3, .int 3, .int 3]]).length) (get_app at_end) at_end rfl (by decide +kernel)
  have sl := f13 (k := k) (s := s ++ [O.lst [.int 3, .int 3, .int 3]] ++ [O.lst [.int 3, .int 3, .int 3]]) (w := .str [115, 108, 105, 99, 101]) (v := .non) Good.str ⟨_, sh_of (p := .str ⟨#[115, 108, 105, 99, 101]⟩) rfl (by decide +kernel)⟩ (by decide)
  have st1 : exec (callF T (k + 6)) tail1 [x0, x1, x2, x3, x4, x5, x6, x7, x8, x9] s = .nx [x0, x1, x2, x3, x4, x5, x6, x7, x8, x9] (s ++ [O.lst [.int 3, .int 3, .int 3]] ++ [O.lst [.int 3, .int 3, .int 3]]) := by
    unfold tail1
    simp only [Fe.bind_ok, Fe.bind_exc, Fe.lift_ok, Fe.lift_exc, Fe.seq_nx, Fe.seq_rt, Fe.seq_exc, Fe.v_non, Fe.v_bl, Fe.v_int, Fe.v_str, Fe.v_var, Fe.v_con, Fe.v_bin, Fe.v_neg, Fe.v_cmp, Fe.v_chn, Fe.v_and, Fe.v_or, Fe.v_not, Fe.v_ite, Fe.v_tup, Fe.v_lst, Fe.v_ix, Fe.v_sl, Fe.v_call, Fe.v_bi, Fe.v_isi, Fe.v_me, Fe.v_lc, Fe.v_dct, Fe.v_rev, Fe.o_no, Fe.o_int, Fe.o_var, Fe.o_bin, Fe.o_neg, Fe.o_ite, Fe.asI_int, Fe.t_no, Fe.t_cmp, Fe.t_chn, Fe.t_and, Fe.t_or, Fe.t_not, Fe.t_call, Fe.t_var, Fe.t_isi, Fe.t_bi, Fe.sems_nil, Fe.sems_cons, Fe.args_nil, Fe.args_cons, Fe.andV_1, Fe.andV_2, Fe.orV_1, Fe.orV_2, Fe.andT_1, Fe.andT_2, Fe.orT_1, Fe.orT_2, Fe.i_rng, Fe.i_tup, Fe.i_var, Fe.x_nil, Fe.x_cons, Fe.x_set, Fe.x_ret, Fe.x_expr, Fe.x_ite, Fe.x_sub, Fe.x_par, Fe.x_asg, Fe.x_for, Fe.x_rais, lk_0, lk_s, int_int, add_int, Cm.f, Ar.f, Bi.f, Me.f, Me.T, liftT, List.set_cons_succ, List.set_cons_zero, mkL3, ne1, asB_bl, bfalse, if_false, sl, tru_bl, Bool.not_true]
  rw [x_cons, st1, seq_nx]
  generalize s ++ [O.lst [.int 3, .int 3, .int 3]] ++ [O.lst [.int 3, .int 3, .int 3]] = S
  have dn : Deep S .non := ⟨⟨_, rfl⟩, fun l h => by cases h⟩
  have dt : Deep S (.tup [.int 2, .str wF, .str wN]) := deep_flat rfl
  have a1 := f11v (k := k + 1) dn (c := wTi) (by simp)
  have a2 := f11v (k := k + 1) dn (c := wTa) (by simp)
  have a3 := f11v (k := k + 1) dt (c := wUs) (by simp)
  have st2 : exec (callF T (k + 6)) tail2 [x0, x1, x2, x3, x4, x5, x6, x7, x8, x9] S = .nx [x0, x1, x2, some (.ref S.length), x4, x5, x6, x7, x8, x9] (S ++ [O.lst [.bl true, .bl false, .bl false]]) := by
    unfold tail2
    simp only [Fe.bind_ok, Fe.bind_exc, Fe.lift_ok, Fe.lift_exc, Fe.seq_nx, Fe.seq_rt, Fe.seq_exc, Fe.v_non, Fe.v_bl, Fe.v_int, Fe.v_str, Fe.v_var, Fe.v_con, Fe.v_bin, Fe.v_neg, Fe.v_cmp, Fe.v_chn, Fe.v_and, Fe.v_or, Fe.v_not, Fe.v_ite, Fe.v_tup, Fe.v_lst, Fe.v_ix, Fe.v_sl, Fe.v_call, Fe.v_bi, Fe.v_isi, Fe.v_me, Fe.v_lc, Fe.v_dct, Fe.v_rev, Fe.o_no, Fe.o_int, Fe.o_var, Fe.o_bin, Fe.o_neg, Fe.o_ite, Fe.asI_int, Fe.t_no, Fe.t_cmp, Fe.t_chn, Fe.t_and, Fe.t_or, Fe.t_not, Fe.t_call, Fe.t_var, Fe.t_isi, Fe.t_bi, Fe.sems_nil, Fe.sems_cons, Fe.args_nil, Fe.args_cons, Fe.andV_1, Fe.andV_2, Fe.orV_1, Fe.orV_2, Fe.andT_1, Fe.andT_2, Fe.orT_1, Fe.orT_2, Fe.i_rng, Fe.i_tup, Fe.i_var, Fe.x_nil, Fe.x_cons, Fe.x_set, Fe.x_ret, Fe.x_expr, Fe.x_ite, Fe.x_sub, Fe.x_par, Fe.x_asg, Fe.x_for, Fe.x_rais, lk_0, lk_s, int_int, add_int, Cm.f, Ar.f, Bi.f, Me.f, Me.T, liftT, List.set_cons_succ, List.set_cons_zero, a1, a2, a3, mkT3, mkL3]
    rfl
  rw [x_cons, st2, seq_nx]
  have nb := f4 (k := k + 4) (s := S ++ [O.lst [.bl true, .bl false, .bl false]]) (v := .int (10 ^ 40 - 1)) Good.int
  have nt : isI (.int (10 ^ 40 - 1)) 0 (B - 1) = true := by unfold isI B; decide +kernel
  rw [nt] at nb
  have ad := add_lst (s := S ++ [O.lst [.bl true, .bl false, .bl false]] ++ [O.lst [.bl true]]) (p := S.length) (q := (S ++ [O.lst [.bl true, .bl false, .bl false]]).length) (get_app at_end) at_end (by show 4 ≤ line; decide)
  have eq1 := eqD_ints (s := S ++ [O.lst [.bl true, .bl false, .bl false]] ++ [O.lst [.bl true]] ++ [O.lst ([.bl true, .bl false, .bl false] ++ [.bl true])] ++ [O.lst [.bl true, .bl false, .bl false, .bl true]]) (p := (S ++ [O.lst [.bl true, .bl false, .bl false]] ++ [O.lst [.bl true]]).length) (q := (S ++ [O.lst [.bl true, .bl false, .bl false]] ++ [O.lst [.bl true]] ++ [O.lst ([.bl true, .bl false, .bl false] ++ [.bl true])]).length) (l := [.bl true, .bl false, .bl false, .bl true]) (get_app at_end) at_end rfl (by decide +kernel)
  refine ⟨S ++ [O.lst [.bl true, .bl false, .bl false]] ++ [O.lst [.bl true]] ++ [O.lst ([.bl true, .bl false, .bl false] ++ [.bl true])] ++ [O.lst [.bl true, .bl false, .bl false, .bl true]], ?_⟩
  unfold tail3
  simp only [Fe.bind_ok, Fe.bind_exc, Fe.lift_ok, Fe.lift_exc, Fe.seq_nx, Fe.seq_rt, Fe.seq_exc, Fe.v_non, Fe.v_bl, Fe.v_int, Fe.v_str, Fe.v_var, Fe.v_con, Fe.v_bin, Fe.v_neg, Fe.v_cmp, Fe.v_chn, Fe.v_and, Fe.v_or, Fe.v_not, Fe.v_ite, Fe.v_tup, Fe.v_lst, Fe.v_ix, Fe.v_sl, Fe.v_call, Fe.v_bi, Fe.v_isi, Fe.v_me, Fe.v_lc, Fe.v_dct, Fe.v_rev, Fe.o_no, Fe.o_int, Fe.o_var, Fe.o_bin, Fe.o_neg, Fe.o_ite, Fe.asI_int, Fe.t_no, Fe.t_cmp, Fe.t_chn, Fe.t_and, Fe.t_or, Fe.t_not, Fe.t_call, Fe.t_var, Fe.t_isi, Fe.t_bi, Fe.sems_nil, Fe.sems_cons, Fe.args_nil, Fe.args_cons, Fe.andV_1, Fe.andV_2, Fe.orV_1, Fe.orV_2, Fe.andT_1, Fe.andT_2, Fe.orT_1, Fe.orT_2, Fe.i_rng, Fe.i_tup, Fe.i_var, Fe.x_nil, Fe.x_cons, Fe.x_set, Fe.x_ret, Fe.x_expr, Fe.x_ite, Fe.x_sub, Fe.x_par, Fe.x_asg, Fe.x_for, Fe.x_rais, lk_0, lk_s, int_int, add_int, Cm.f, Ar.f, Bi.f, Me.f, Me.T, liftT, List.set_cons_succ, List.set_cons_zero, p40, sub_int, nb, mkL1, ad, mkL4, eq1]
theorem law_ok (ns : List Int) (_ : ns.length ≤ 63) : ∃ s', callF T 40 0 [.ref 0] [.rl (ns.map .int)] = .ok (.bl true) s' := by
  rw [call_at (k := 39) (d := t0) rfl rfl]
  show ∃ s', trimO [.rl (ns.map .int)] (retO (execs (callF T (33 + 6)) b0 [some (.ref 0), none, none, none, none, none, none, none, none, none] [.rl (ns.map .int)])) = _
  have e0 : b0 = .set 1 (.lst [(.str [116, 105, 99, 107, 115]), (.str [117, 115, 101, 100]), (.str [119, 97, 107, 101]), (.str [119, 97, 121]), (.str [108, 111, 115, 116]), (.str [116, 97, 107, 101, 115]), (.str [99, 111, 109, 101])]) ::
    .for_ (.nm 2) (.rng [(.bi .max [(.int 1), (.bi .min [(.int 12), (.bi .len [(.var 0)])])])]) innerB :: [tail1, tail2, tail3] := rfl
  have st1 : exec (callF T (33 + 6)) (.set 1 (.lst [(.str [116, 105, 99, 107, 115]), (.str [117, 115, 101, 100]), (.str [119, 97, 107, 101]), (.str [119, 97, 121]), (.str [108, 111, 115, 116]), (.str [116, 97, 107, 101, 115]), (.str [99, 111, 109, 101])])) [some (.ref 0), none, none, none, none, none, none, none, none, none] [.rl (ns.map .int)] = .nx [some (.ref 0), some (.ref 1), none, none, none, none, none, none, none, none] [.rl (ns.map .int), .lst (words.map D.str)] := rfl
  rw [e0, x_cons, st1, seq_nx, x_cons, x_for]
  have mm : ∃ j : Int, rngOk j = true ∧ (sem (callF T (33 + 6)) (.rng [(.bi .max [(.int 1), (.bi .min [(.int 12), (.bi .len [(.var 0)])])])])).i [some (.ref 0), some (.ref 1), none, none, none, none, none, none, none, none] [.rl (ns.map .int), .lst (words.map D.str)] = srcR [.int j] [.rl (ns.map .int), .lst (words.map D.str)] := by
    have hlen : biLen [.ref 0] [.rl (ns.map .int), .lst (words.map D.str)] = .ok (.int ns.length) [.rl (ns.map .int), .lst (words.map D.str)] := by
      show Out.ok (D.int (((ns.map D.int).length : Nat) : Int)) _ = _
      rw [List.length_map]
    have mn : ∀ (x y : Int) (s : Fe.S), biMin [.int x, .int y] s = .ok (.int (if y < x then y else x)) s := fun _ _ _ => rfl
    have mx : ∀ (x y : Int) (s : Fe.S), biMax [.int x, .int y] s = .ok (.int (if y > x then y else x)) s := fun _ _ _ => rfl
    refine ⟨if (if (ns.length : Int) < 12 then (ns.length : Int) else 12) > 1 then (if (ns.length : Int) < 12 then (ns.length : Int) else 12) else 1, ?_, ?_⟩
    · unfold rngOk
      rw [Bool.and_eq_true, decide_eq_true_eq, decide_eq_true_eq]
      split <;> split <;> omega
    · simp only [Fe.bind_ok, Fe.bind_exc, Fe.lift_ok, Fe.lift_exc, Fe.seq_nx, Fe.seq_rt, Fe.seq_exc, Fe.v_non, Fe.v_bl, Fe.v_int, Fe.v_str, Fe.v_var, Fe.v_con, Fe.v_bin, Fe.v_neg, Fe.v_cmp, Fe.v_chn, Fe.v_and, Fe.v_or, Fe.v_not, Fe.v_ite, Fe.v_tup, Fe.v_lst, Fe.v_ix, Fe.v_sl, Fe.v_call, Fe.v_bi, Fe.v_isi, Fe.v_me, Fe.v_lc, Fe.v_dct, Fe.v_rev, Fe.o_no, Fe.o_int, Fe.o_var, Fe.o_bin, Fe.o_neg, Fe.o_ite, Fe.asI_int, Fe.t_no, Fe.t_cmp, Fe.t_chn, Fe.t_and, Fe.t_or, Fe.t_not, Fe.t_call, Fe.t_var, Fe.t_isi, Fe.t_bi, Fe.sems_nil, Fe.sems_cons, Fe.args_nil, Fe.args_cons, Fe.andV_1, Fe.andV_2, Fe.orV_1, Fe.orV_2, Fe.andT_1, Fe.andT_2, Fe.orT_1, Fe.orT_2, Fe.i_rng, Fe.i_tup, Fe.i_var, Fe.x_nil, Fe.x_cons, Fe.x_set, Fe.x_ret, Fe.x_expr, Fe.x_ite, Fe.x_sub, Fe.x_par, Fe.x_asg, Fe.x_for, Fe.x_rais, lk_0, lk_s, int_int, add_int, Cm.f, Ar.f, Bi.f, Me.f, Me.T, liftT, List.set_cons_succ, List.set_cons_zero, hlen, mn, mx]
  obtain ⟨j, hj, ej⟩ := mm
  rw [ej, rng_int hj, lift_ok]
  have loop := forW_inv (live := Src.live ⟨rangeD 0 j.toNat, none⟩) (bind := bnd (.nm 2)) (body := execs (callF T (33 + 6)) innerB) (ds := rangeD 0 j.toNat) (P := Inv1 ns)
    (ρ := [some (.ref 0), some (.ref 1), none, none, none, none, none, none, none, none]) (s := [.rl (ns.map .int), .lst (words.map D.str)])
    ⟨_, _, _, _, _, _, _, _, rfl, rfl, rfl⟩ (fun _ _ _ => rfl)
    (fun d hd ρ s' ⟨x2, x3, x4, x5, x6, x7, x8, x9, er, q0, q1⟩ => by
      subst er
      obtain ⟨m, rfl⟩ := range_mem hd
      obtain ⟨ρ', s'', e, h⟩ := cell_spec (k := 33) (j := m) q0 q1 (x3 := x3) (x4 := x4) (x5 := x5) (x6 := x6) (x7 := x7) (x8 := x8) (x9 := x9) (x2 := x2)
      exact ⟨_, _, rfl, ρ', s'', e, h⟩)
  obtain ⟨ρ', s', e, x2, x3, x4, x5, x6, x7, x8, x9, er, q0, q1⟩ := loop
  have e' : forW (Src.live ⟨rangeD 0 j.toNat, none⟩) (bnd (.nm 2)) (execs (callF T (33 + 6)) innerB) (Src.ds ⟨rangeD 0 j.toNat, none⟩) [some (.ref 0), some (.ref 1), none, none, none, none, none, none, none, none] [.rl (ns.map .int), .lst (words.map D.str)] = .nx ρ' s' := e
  rw [e', seq_nx, er]
  obtain ⟨s3, e3⟩ := tail_spec (k := 33) (s := s') (x0 := some (.ref 0)) (x1 := some (.ref 1)) (x2 := x2) (x3 := x3) (x4 := x4) (x5 := x5) (x6 := x6) (x7 := x7) (x8 := x8) (x9 := x9)
  rw [e3]
  refine ⟨(trim [.rl (ns.map .int)] (.bl true) s3).2, ?_⟩
  show Out.ok (trim [.rl (ns.map .int)] (.bl true) s3).1 _ = _
  have : (trim [.rl (ns.map .int)] (.bl true) s3).1 = .bl true := by
    unfold trim
    split
    · rfl
    · rfl
  rw [this]
end
end K00

set_option maxHeartbeats 0
open PySem PySem.W PySem.Calls PyProof.Rows
theorem PySem.Challenge.cw_twoandabell_k00_words_and_entries_holds : PySem.Challenge.rw_twoandabell_k00_words_and_entries.Holds := by
  w_on; o_law
  refine HandSHeadRun.head_any (r := OpenLaw.row K00.Rw) (q := view (OpenLaw.row K00.Rw).prog [45]) (H := K00.hk) (ob := K00.ob) (M := 4000) (loose := K00.loose) (d := HandSHeadRun.topDef (OpenLaw.row K00.Rw).prog 45) (kwd := []) K00.ob_eq
    (by kernel_rfl) (fun s => by kernel_rfl) K00.run (by kernel_rfl) (by kernel_rfl) (by kernel_rfl) (by rfl) (by first | assumption | decide +kernel) (by decide +kernel) ⟨rfl, rfl, rfl, rfl, rfl, by decide +kernel⟩ ?hw ?hc
  case hw => w_witness2
  case hc => exact Fe.walk_G (l := K00.Rw) (n := 63) (k := 40) rfl (by decide) (by kernel_rfl) (by kernel_rfl) ⟨rfl, by decide, by decide⟩ K00.all K00.allE K00.hdsT K00.law_ok

