import PyProof.Rows.All
import Wide.All
import OpenK.AllK
import Wide.FinOn
import HandS.ForMost
import HandS.ForExc
import HandS.Flow
import HandS.Wide
import HandS.Deep
import HandS.IsInst
import HandS.Style
import HandS.TupAny
import HandS.TupMul
import HandS.Conv
import HandS.CallSlots
import HandS.TryMany
import HandS.HeadHook1
import HandS.HeadHook4
import HandS.Lambda
import HandS.Star
import HandS.Property
import HandS.SlotsOwn
import HandS.SetFor
import HandS.Iter
import HandS.FStr
import HandS.Text
import KE.KCallOwn
import KE.KExcPX
import HandS.More
import HandS.Defaults
import HandS.ExcField
import HandS.Ends
import HandS.RaiseMore
import KE.KExcIs
import HandS.Words
import HandS.HeadEnd
import HandS.HeadHook2
import HandS.Head0
import HandS.Head1
import HandS.Head2
import PySem.Challenge.RW_twoandabell_k16_queues_refused
import Lean
set_option Elab.async false
set_option linter.all false
set_option maxRecDepth 100000
set_option maxHeartbeats 2000000
/-! Fe 1: own values, own store, what they stand for. -/
namespace Fe
open PySem PySem.Spec PyProof.Rows L2

/-- a value: tuples are trees, what can change is a place of the store -/
inductive D where
  | non | bl (b : Bool) | int (i : Int) | str (cs : List Nat) | tup (ds : List D) | ref (i : Nat)
  deriving Inhabited
mutual
def D.beq : D → D → Bool
  | .non, .non => true
  | .bl a, .bl b => a == b
  | .int a, .int b => a == b
  | .str a, .str b => a == b
  | .tup a, .tup b => D.beqs a b
  | .ref a, .ref b => a == b
  | _, _ => false
def D.beqs : List D → List D → Bool
  | [], [] => true
  | a :: as, b :: bs => D.beq a b && D.beqs as bs
  | _, _ => false
end
mutual
theorem D.beq_refl : ∀ a : D, D.beq a a = true
  | .non => rfl
  | .bl a => by simp [D.beq]
  | .int a => by simp [D.beq]
  | .str a => by simp [D.beq]
  | .tup a => by simp [D.beq, D.beqs_refl a]
  | .ref a => by simp [D.beq]
theorem D.beqs_refl : ∀ a : List D, D.beqs a a = true
  | [] => rfl
  | a :: as => by simp [D.beqs, D.beq_refl a, D.beqs_refl as]
end
mutual
theorem D.beq_eq : ∀ a b : D, D.beq a b = true → a = b
  | .non, b, h => by cases b <;> simp_all [D.beq]
  | .bl a, b, h => by cases b <;> simp_all [D.beq]
  | .int a, b, h => by cases b <;> simp_all [D.beq]
  | .str a, b, h => by cases b <;> simp_all [D.beq]
  | .tup a, b, h => by
    cases b with
    | tup c => rw [D.beqs_eq a c (by simpa [D.beq] using h)]
    | _ => simp [D.beq] at h
  | .ref a, b, h => by cases b <;> simp_all [D.beq]
theorem D.beqs_eq : ∀ a b : List D, D.beqs a b = true → a = b
  | [], b, h => by cases b <;> simp_all [D.beqs]
  | a :: as, b, h => by
    cases b with
    | nil => simp [D.beqs] at h
    | cons c cs =>
      have h' : D.beq a c = true ∧ D.beqs as cs = true := by simpa [D.beqs] using h
      rw [D.beq_eq a c h'.1, D.beqs_eq as cs h'.2]
end
instance : DecidableEq D := fun a b => decidable_of_iff (D.beq a b = true) ⟨D.beq_eq a b, fun h => h ▸ D.beq_refl a⟩

/-! no place of the store in it -/
mutual
def D.flat : D → Bool
  | .tup ds => D.flats ds
  | .ref _ => false
  | _ => true
def D.flats : List D → Bool
  | [] => true
  | d :: ds => d.flat && D.flats ds
end

/-- an own class: its number, its name, its instances' attributes in the order in which they are first set -/
structure Cl where
  id : Nat
  x : Str
  fl : List Str
  deriving Inhabited, DecidableEq
/-- what stands at a place of the store -/
inductive O where
  | lst (ds : List D)
  | rl (ds : List D)
  | dct (kvs : List (D × D))
  | ins (c : Cl) (ds : List D)
  | tab (x : Str)
  deriving Inhabited, DecidableEq
abbrev S := List O
def O.flat : O → Bool
  | .lst ds => D.flats ds
  | .rl ds => D.flats ds
  | .dct kvs => D.flats (kvs.map (·.1)) && D.flats (kvs.map (·.2))
  | .ins _ ds => D.flats ds
  | .tab _ => false

/-- an exception: its class's number, its fields -/
structure Xc where
  c : Nat
  ds : List D
inductive Out (α : Type) where
  | ok (a : α) (s : S)
  | exc (x : Xc) (s : S)
  | bad
def Out.bind {α β : Type} (o : Out α) (f : α → S → Out β) : Out β := match o with
  | .ok a s => f a s
  | .exc x s => .exc x s
  | .bad => .bad
abbrev Env := List (Option D)

/-! ### what values stand for -/
/-- a text's codes -/
def okS (cs : List Nat) : Bool := cs.all fun c => decide (c < 1114112)
theorem okS_append {a b : List Nat} (ha : okS a = true) (hb : okS b = true) : okS (a ++ b) = true := by
  unfold okS at *; rw [List.all_append, ha, hb]; rfl
theorem okS_sub {a b : List Nat} (h : ∀ c ∈ b, c ∈ a) (ha : okS a = true) : okS b = true := by
  unfold okS at *; rw [List.all_eq_true] at *; exact fun c hc => ha c (h c hc)
/-- what is known of an own class's instances: a dict, no own way to read or to store attributes; no class of it has an attribute's name -/
structure ClOk (K : PySem.W.Frag) (c : Cl) : Prop where
  cls : Cls K (He.ga K c.x)
  no : ∀ f ∈ c.fl, NoAttr K (He.ga K c.x) f
  few : c.fl.length < 1000
/-- what the lambdas of the def x are called -/
def lamQ (x : Str) : Str := x ++ ".<locals>." ++ "<lambda>"
section
variable (K : PySem.W.Frag) (μ : List Addr) (H : Hp)
mutual
def RelD : D → V → Prop
  | .non, v => v = .non
  | .bl b, v => v = .bl b
  | .int i, v => v = .int i
  | .str cs, v => v = .str ⟨cs.toArray⟩ ∧ okS cs = true
  | .tup ds, v => ∃ a vs, v = .ref a ∧ SqT K H a vs ∧ RelDs ds vs
  | .ref i, v => ∃ a, v = .ref a ∧ μ[i]? = some a
def RelDs : List D → List V → Prop
  | [], vs => vs = []
  | d :: ds, vs => ∃ v ws, vs = v :: ws ∧ RelD d v ∧ RelDs ds ws
end
/-- a key -/
def keyOf : D → Option Key
  | .int i => some (.inl i)
  | .str cs => some (.inr ⟨cs.toArray⟩)
  | _ => none
def RelKV : List (D × D) → List (Key × V) → Prop
  | [], kvs => kvs = []
  | p :: ps, kvs => ∃ k v r, kvs = (k, v) :: r ∧ keyOf p.1 = some k ∧ RelD K μ H p.2 v ∧ RelKV ps r
def RelO' : O → Addr → Prop
  | .lst ds, a => ∃ vs, H a = some (.lst vs) ∧ RelDs K μ H ds vs
  | .rl ds, a => ∃ vs o, H a = some (.frz o (.lst vs)) ∧ RelDs K μ H ds vs
  | .dct kvs, a => ∃ ws, H a = some (.dK ws) ∧ RelKV K μ H kvs ws
  | .ins c ds, a => ∃ dx vs, H a = some (.ins (He.ga K c.x) dx (c.fl.zip vs)) ∧ RelDs K μ H ds vs ∧ ds.length ≤ c.fl.length ∧ ClOk K c
  | .tab x, a => a = (He.cT K (x, none)).2 ∧ LamX.TabS H a (lamQ x)
structure Rel (s : S) : Prop where
  len : μ.length = s.length
  nd : μ.Nodup
  obj : ∀ (i : Nat) (a : Addr) (o : O), μ[i]? = some a → s[i]? = some o → RelO' K μ H o a
def RelEnv (ρ : Env) (σ : L2.St) : Prop := ρ.length = σ.length ∧ ∀ (i : Nat) (d : D), ρ[i]? = some (some d) → ∃ v, σ[i]? = some (some v) ∧ RelD K μ H d v
end
/-- tuples and what is locked are kept -/
structure Keep (H H' : Hp) : Prop where
  tup : ∀ a xs, H a = some (.tup xs) → H' a = some (.tup xs)
  frz : ∀ a o u, H a = some (.frz o u) → H' a = some (.frz o u)
  xd : ∀ a fs, H a = some (.xd fs) → H' a = some (.xd fs)
  ext : ∀ a q, H a = some (.ext q) → H' a = some (.ext q)
structure Ext (μ : List Addr) (H : Hp) (μ' : List Addr) (H' : Hp) : Prop where
  pre : μ <+: μ'
  keep : Keep H H'
theorem Keep.refl (H : Hp) : Keep H H := ⟨fun _ _ h => h, fun _ _ _ h => h, fun _ _ h => h, fun _ _ h => h⟩
theorem Keep.trans {H H1 H2 : Hp} (a : Keep H H1) (b : Keep H1 H2) : Keep H H2 := ⟨fun x y h => b.tup x y (a.tup x y h), fun x y z h => b.frz x y z (a.frz x y z h), fun x y h => b.xd x y (a.xd x y h), fun x y h => b.ext x y (a.ext x y h)⟩
theorem Ext.refl (μ : List Addr) (H : Hp) : Ext μ H μ H := ⟨List.prefix_rfl, .refl H⟩
theorem Ext.trans {μ μ1 μ2 : List Addr} {H H1 H2 : Hp} (a : Ext μ H μ1 H1) (b : Ext μ1 H1 μ2 H2) : Ext μ H μ2 H2 := ⟨a.pre.trans b.pre, a.keep.trans b.keep⟩
theorem Keep.sqT {K : PySem.W.Frag} {H H' : Hp} {a : Addr} {xs : List V} (k : Keep H H') (h : SqT K H a xs) : SqT K H' a xs := by
  rcases h with (h | ⟨o, h⟩) | h
  · exact .inl (.inl (k.tup _ _ h))
  · exact .inl (.inr ⟨o, k.frz _ _ _ h⟩)
  · exact .inr h
theorem Keep.new {H : Hp} {p : Addr} {o : HO} (n : H p = none) : Keep H (upd H p o) :=
  ⟨fun a xs h => by rw [upd_ne (ne_of_none h n)]; exact h, fun a x u h => by rw [upd_ne (ne_of_none h n)]; exact h, fun a x h => by rw [upd_ne (ne_of_none h n)]; exact h, fun a x h => by rw [upd_ne (ne_of_none h n)]; exact h⟩
theorem Keep.lst {H : Hp} {p : Addr} {o : HO} {xs : List V} (n : H p = some (.lst xs)) : Keep H (upd H p o) :=
  ⟨fun a ys h => by rw [upd_ne (ne_of h n (by intro q; cases q))]; exact h, fun a x u h => by rw [upd_ne (ne_of h n (by intro q; cases q))]; exact h, fun a x h => by rw [upd_ne (ne_of h n (by intro q; cases q))]; exact h, fun a x h => by rw [upd_ne (ne_of h n (by intro q; cases q))]; exact h⟩
theorem Keep.dK {H : Hp} {p : Addr} {o : HO} {xs : List (Key × V)} (n : H p = some (.dK xs)) : Keep H (upd H p o) :=
  ⟨fun a ys h => by rw [upd_ne (ne_of h n (by intro q; cases q))]; exact h, fun a x u h => by rw [upd_ne (ne_of h n (by intro q; cases q))]; exact h, fun a x h => by rw [upd_ne (ne_of h n (by intro q; cases q))]; exact h, fun a x h => by rw [upd_ne (ne_of h n (by intro q; cases q))]; exact h⟩
theorem Keep.ins {H : Hp} {p C dx : Addr} {o : HO} {xs : List (Str × V)} (n : H p = some (.ins C dx xs)) : Keep H (upd H p o) :=
  ⟨fun a ys h => by rw [upd_ne (ne_of h n (by intro q; cases q))]; exact h, fun a x u h => by rw [upd_ne (ne_of h n (by intro q; cases q))]; exact h, fun a x h => by rw [upd_ne (ne_of h n (by intro q; cases q))]; exact h, fun a x h => by rw [upd_ne (ne_of h n (by intro q; cases q))]; exact h⟩
section
variable {K : PySem.W.Frag} {μ μ' : List Addr} {H H' : Hp}
theorem pre_get {α : Type} {l l' : List α} {i : Nat} {a : α} (p : l <+: l') (h : l[i]? = some a) : l'[i]? = some a := by
  obtain ⟨t, rfl⟩ := p
  have := (List.getElem?_eq_some_iff.mp h).1
  rw [List.getElem?_append_left this]; exact h
mutual
theorem RelD.mono (x : Ext μ H μ' H') : ∀ {d : D} {v : V}, RelD K μ H d v → RelD K μ' H' d v
  | .non, _, h => by rw [RelD] at h ⊢; exact h
  | .bl _, _, h => by rw [RelD] at h ⊢; exact h
  | .int _, _, h => by rw [RelD] at h ⊢; exact h
  | .str _, _, h => by rw [RelD] at h ⊢; exact h
  | .tup ds, v, h => by
    rw [RelD] at h ⊢
    obtain ⟨a, vs, e, q, r⟩ := h
    exact ⟨a, vs, e, x.keep.sqT q, RelDs.mono x r⟩
  | .ref i, v, h => by
    rw [RelD] at h ⊢
    obtain ⟨a, e, q⟩ := h
    exact ⟨a, e, pre_get x.pre q⟩
theorem RelDs.mono (x : Ext μ H μ' H') : ∀ {ds : List D} {vs : List V}, RelDs K μ H ds vs → RelDs K μ' H' ds vs
  | [], _, h => by rw [RelDs] at h ⊢; exact h
  | d :: ds, vs, h => by
    rw [RelDs] at h ⊢
    obtain ⟨v, ws, e, r, t⟩ := h
    exact ⟨v, ws, e, RelD.mono x r, RelDs.mono x t⟩
end
theorem RelKV.mono (x : Ext μ H μ' H') : ∀ {ps : List (D × D)} {kvs : List (Key × V)}, RelKV K μ H ps kvs → RelKV K μ' H' ps kvs
  | [], _, h => h
  | p :: ps, kvs, h => by
    obtain ⟨k, v, r, e, q, t, u⟩ := h
    exact ⟨k, v, r, e, q, t.mono x, RelKV.mono x u⟩
theorem RelEnv.mono {ρ : Env} {σ : L2.St} (x : Ext μ H μ' H') (h : RelEnv K μ H ρ σ) : RelEnv K μ' H' ρ σ :=
  ⟨h.1, fun i d e => let ⟨v, a, r⟩ := h.2 i d e; ⟨v, a, r.mono x⟩⟩
/-- the readings of RelD, one by one -/
theorem RelD.non_ (h : RelD K μ H .non v) : v = .non := by rw [RelD] at h; exact h
theorem RelD.bl_ {b : Bool} (h : RelD K μ H (.bl b) v) : v = .bl b := by rw [RelD] at h; exact h
theorem RelD.int_ {i : Int} (h : RelD K μ H (.int i) v) : v = .int i := by rw [RelD] at h; exact h
theorem RelD.str_ {cs : List Nat} (h : RelD K μ H (.str cs) v) : v = .str ⟨cs.toArray⟩ := by rw [RelD] at h; exact h.1
theorem RelD.okS {cs : List Nat} (h : RelD K μ H (.str cs) v) : Fe.okS cs = true := by rw [RelD] at h; exact h.2
theorem RelD.tup_ {ds : List D} (h : RelD K μ H (.tup ds) v) : ∃ a vs, v = .ref a ∧ SqT K H a vs ∧ RelDs K μ H ds vs := by rw [RelD] at h; exact h
theorem RelD.ref_ {i : Nat} (h : RelD K μ H (.ref i) v) : ∃ a, v = .ref a ∧ μ[i]? = some a := by rw [RelD] at h; exact h
theorem relNon : RelD K μ H .non .non := by rw [RelD]
theorem relBl {b : Bool} : RelD K μ H (.bl b) (.bl b) := by rw [RelD]
theorem relInt {i : Int} : RelD K μ H (.int i) (.int i) := by rw [RelD]
theorem relStr {cs : List Nat} (h : okS cs = true) : RelD K μ H (.str cs) (.str ⟨cs.toArray⟩) := by rw [RelD]; exact ⟨rfl, h⟩
theorem relTup {ds : List D} {a : Addr} {vs : List V} (q : SqT K H a vs) (r : RelDs K μ H ds vs) : RelD K μ H (.tup ds) (.ref a) := by rw [RelD]; exact ⟨a, vs, rfl, q, r⟩
theorem relRef {i : Nat} {a : Addr} (q : μ[i]? = some a) : RelD K μ H (.ref i) (.ref a) := by rw [RelD]; exact ⟨a, rfl, q⟩
theorem relNil : RelDs K μ H [] [] := by rw [RelDs]
theorem relCons {d : D} {ds : List D} {v : V} {vs : List V} (r : RelD K μ H d v) (t : RelDs K μ H ds vs) : RelDs K μ H (d :: ds) (v :: vs) := by rw [RelDs]; exact ⟨v, vs, rfl, r, t⟩
theorem RelDs.nil_ {vs : List V} (h : RelDs K μ H [] vs) : vs = [] := by rw [RelDs] at h; exact h
theorem RelDs.cons_ {d : D} {ds : List D} {vs : List V} (h : RelDs K μ H (d :: ds) vs) : ∃ v ws, vs = v :: ws ∧ RelD K μ H d v ∧ RelDs K μ H ds ws := by rw [RelDs] at h; exact h
theorem RelDs.length : ∀ {ds : List D} {vs : List V}, RelDs K μ H ds vs → vs.length = ds.length
  | [], vs, h => by rw [h.nil_]; rfl
  | d :: ds, vs, h => by
    obtain ⟨v, ws, rfl, _, t⟩ := h.cons_
    simp [RelDs.length t]
theorem RelDs.get : ∀ {ds : List D} {vs : List V} {i : Nat} {d : D}, RelDs K μ H ds vs → ds[i]? = some d → ∃ v, vs[i]? = some v ∧ RelD K μ H d v
  | [], vs, i, d, h, e => by simp at e
  | d :: ds, vs, 0, d', h, e => by
    obtain ⟨v, ws, rfl, r, t⟩ := h.cons_
    simp at e; subst e
    exact ⟨v, by simp, r⟩
  | d :: ds, vs, i + 1, d', h, e => by
    obtain ⟨v, ws, rfl, r, t⟩ := h.cons_
    obtain ⟨v', e', r'⟩ := RelDs.get (i := i) t (by simpa using e)
    exact ⟨v', by simpa using e', r'⟩
theorem RelDs.append : ∀ {ds es : List D} {vs ws : List V}, RelDs K μ H ds vs → RelDs K μ H es ws → RelDs K μ H (ds ++ es) (vs ++ ws)
  | [], es, vs, ws, h, t => by rw [h.nil_]; exact t
  | d :: ds, es, vs, ws, h, t => by
    obtain ⟨v, us, rfl, r, q⟩ := h.cons_
    exact relCons r (RelDs.append q t)
theorem RelDs.take : ∀ {ds : List D} {vs : List V} (n : Nat), RelDs K μ H ds vs → RelDs K μ H (ds.take n) (vs.take n)
  | ds, vs, 0, h => by simpa using relNil
  | [], vs, n + 1, h => by rw [h.nil_]; simpa using relNil
  | d :: ds, vs, n + 1, h => by
    obtain ⟨v, us, rfl, r, q⟩ := h.cons_
    simpa using relCons r (RelDs.take n q)
theorem RelDs.drop : ∀ {ds : List D} {vs : List V} (n : Nat), RelDs K μ H ds vs → RelDs K μ H (ds.drop n) (vs.drop n)
  | ds, vs, 0, h => by simpa using h
  | [], vs, n + 1, h => by rw [h.nil_]; simpa using relNil
  | d :: ds, vs, n + 1, h => by
    obtain ⟨v, us, rfl, r, q⟩ := h.cons_
    simpa using RelDs.drop n q
theorem RelDs.set : ∀ {ds : List D} {vs : List V} {d : D} {v : V} (i : Nat), RelD K μ H d v → RelDs K μ H ds vs → RelDs K μ H (ds.set i d) (vs.set i v)
  | [], vs, d, v, i, r, h => by rw [h.nil_]; simpa using relNil
  | e :: ds, vs, d, v, 0, r, h => by
    obtain ⟨u, us, rfl, r', q⟩ := h.cons_
    simpa using relCons r q
  | e :: ds, vs, d, v, i + 1, r, h => by
    obtain ⟨u, us, rfl, r', q⟩ := h.cons_
    simpa using relCons r' (RelDs.set i r q)
theorem RelDs.reverse : ∀ {ds : List D} {vs : List V}, RelDs K μ H ds vs → RelDs K μ H ds.reverse vs.reverse
  | [], vs, h => by rw [h.nil_]; simpa using relNil
  | d :: ds, vs, h => by
    obtain ⟨v, us, rfl, r, q⟩ := h.cons_
    rw [List.reverse_cons, List.reverse_cons]
    exact (RelDs.reverse q).append (relCons r relNil)
theorem RelDs.eraseIdx : ∀ {ds : List D} {vs : List V} (i : Nat), RelDs K μ H ds vs → RelDs K μ H (ds.eraseIdx i) (vs.eraseIdx i)
  | [], vs, i, h => by rw [h.nil_]; simpa using relNil
  | d :: ds, vs, 0, h => by
    obtain ⟨v, us, rfl, r, q⟩ := h.cons_
    simpa using q
  | d :: ds, vs, i + 1, h => by
    obtain ⟨v, us, rfl, r, q⟩ := h.cons_
    simpa using relCons r (RelDs.eraseIdx i q)

/-! ### the store grows and changes -/
theorem RelO'.mono {o : O} {a : Addr} (x : Ext μ H μ' H') (e : H' a = H a) (h : RelO' K μ H o a) : RelO' K μ' H' o a := by
  cases o with
  | lst ds =>
    obtain ⟨vs, q, r⟩ := h
    exact ⟨vs, e.trans q, r.mono x⟩
  | rl ds =>
    obtain ⟨vs, o, q, r⟩ := h
    exact ⟨vs, o, e.trans q, r.mono x⟩
  | dct kvs =>
    obtain ⟨ws, q, r⟩ := h
    exact ⟨ws, e.trans q, r.mono x⟩
  | ins c ds =>
    obtain ⟨dx, vs, q, r, l⟩ := h
    exact ⟨dx, vs, e.trans q, r.mono x, l⟩
  | tab y =>
    obtain ⟨q, ps, h1, h2, h3⟩ := h
    refine ⟨q, ps, e.trans h1, h2, fun pos cv hc => ?_⟩
    obtain ⟨c, e1, e2⟩ := h3 pos cv hc
    exact ⟨c, e1, x.keep.ext _ _ e2⟩
theorem RelO'.there {o : O} {a : Addr} (h : RelO' K μ H o a) : ∃ u, H a = some u := by
  cases o with
  | lst ds => obtain ⟨vs, q, r⟩ := h; exact ⟨_, q⟩
  | rl ds => obtain ⟨vs, o, q, r⟩ := h; exact ⟨_, q⟩
  | dct kvs => obtain ⟨ws, q, r⟩ := h; exact ⟨_, q⟩
  | ins c ds => obtain ⟨dx, vs, q, r, l⟩ := h; exact ⟨_, q⟩
  | tab y => obtain ⟨_, ps, q, _⟩ := h; exact ⟨_, q⟩
theorem Rel.at {s : S} {i : Nat} {o : O} (r : Rel K μ H s) (e : s[i]? = some o) : ∃ a, μ[i]? = some a ∧ RelO' K μ H o a := by
  have h : i < μ.length := by rw [r.len]; exact (List.getElem?_eq_some_iff.mp e).1
  exact ⟨μ[i], List.getElem?_eq_getElem h, r.obj i _ o (List.getElem?_eq_getElem h) e⟩
theorem Rel.tracked {s : S} {i : Nat} {a : Addr} (r : Rel K μ H s) (e : μ[i]? = some a) : ∃ u, H a = some u := by
  have h : i < s.length := by rw [← r.len]; exact (List.getElem?_eq_some_iff.mp e).1
  exact (r.obj i a s[i] e (List.getElem?_eq_getElem h)).there
/-- a new object that no other thing stands on -/
theorem Rel.new {s : S} {p : Addr} {u : HO} (r : Rel K μ H s) (n : H p = none) : Rel K μ (upd H p u) s ∧ Ext μ H μ (upd H p u) := by
  have x : Ext μ H μ (upd H p u) := ⟨List.prefix_rfl, .new n⟩
  refine ⟨⟨r.len, r.nd, fun i a o h1 h2 => ?_⟩, x⟩
  obtain ⟨w, hw⟩ := r.tracked h1
  exact (r.obj i a o h1 h2).mono x (upd_ne (ne_of_none hw n))
/-- a new object at a new place of the store -/
theorem Rel.push {s : S} {p : Addr} {u : HO} {o : O} (r : Rel K μ H s) (n : H p = none) (h : Ext μ H (μ ++ [p]) (upd H p u) → RelO' K (μ ++ [p]) (upd H p u) o p) :
    Rel K (μ ++ [p]) (upd H p u) (s ++ [o]) ∧ Ext μ H (μ ++ [p]) (upd H p u) ∧ (μ ++ [p])[s.length]? = some p := by
  have x : Ext μ H (μ ++ [p]) (upd H p u) := ⟨List.prefix_append _ _, .new n⟩
  have e : (μ ++ [p])[s.length]? = some p := by rw [← r.len]; simp
  refine ⟨⟨by simp [r.len], ?_, fun i a o' h1 h2 => ?_⟩, x, e⟩
  · refine List.nodup_append.mpr ⟨r.nd, by simp, fun a ha b hb => ?_⟩
    obtain ⟨i, hi, e'⟩ := List.getElem_of_mem ha
    obtain ⟨w, hw⟩ := r.tracked (show μ[i]? = some a by rw [← e']; exact List.getElem?_eq_getElem hi)
    rw [List.mem_singleton.mp hb]
    exact ne_of_none hw n
  · by_cases hi : i < s.length
    · rw [List.getElem?_append_left hi] at h2
      rw [List.getElem?_append_left (by rw [r.len]; exact hi)] at h1
      obtain ⟨w, hw⟩ := r.tracked h1
      exact (r.obj i a o' h1 h2).mono x (upd_ne (ne_of_none hw n))
    · have hl := (List.getElem?_eq_some_iff.mp h2).1
      rw [List.length_append, List.length_singleton] at hl
      have hi' : i = s.length := by omega
      subst hi'
      rw [e] at h1
      have h1' := Option.some.inj h1
      subst h1'
      have h2' : o = o' := by simpa using h2
      subst h2'
      exact h x
/-- an object changes -/
theorem Rel.put {s : S} {p : Addr} {u : HO} {i : Nat} {o : O} (r : Rel K μ H s) (e : μ[i]? = some p) (k : Keep H (upd H p u)) (h : Ext μ H μ (upd H p u) → RelO' K μ (upd H p u) o p) :
    Rel K μ (upd H p u) (s.set i o) ∧ Ext μ H μ (upd H p u) := by
  have x : Ext μ H μ (upd H p u) := ⟨List.prefix_rfl, k⟩
  refine ⟨⟨by simp [r.len], r.nd, fun j a o' h1 h2 => ?_⟩, x⟩
  by_cases hj : j = i
  · subst hj
    rw [e] at h1
    have h1' := Option.some.inj h1
    subst h1'
    have hl : j < s.length := by
      have := (List.getElem?_eq_some_iff.mp h2).1
      simpa using this
    rw [List.getElem?_set_self hl] at h2
    have h2' := Option.some.inj h2
    subst h2'
    exact h x
  · rw [List.getElem?_set_ne (Ne.symm hj)] at h2
    have ne : a ≠ p := fun q => by
      subst q
      exact hj ((List.getElem?_inj (List.getElem?_eq_some_iff.mp h1).1 r.nd).mp (h1.trans e.symm))
    exact (r.obj j a o' h1 h2).mono x (upd_ne ne)
end
end Fe

set_option maxHeartbeats 2000000
/-! Fe B: a tuple times 0, times 1; the empty tuple times anything. -/
namespace Fe
open PySem PySem.Spec PyProof.Rows L2
theorem tupTimes_same (l : Addr) (items : Array Value) (n : Nat) (dd : Option Addr) (sl : Array (Option Value)) (x : Int) (u : Tok) (c0 : (decide (x < -(2 ^ 63)) || decide (x ≥ 2 ^ 63)) = false) (c1 : (items.isEmpty || x == 1) = true) :
    Meets (Builtin.«tuple.__mul__» ⟨[.ref l, .int x u], []⟩) (fun _ R s => s.heap.get? l = some { cls := .type "tuple", dict := dd, data := .seq items n, slots := sl } ∧ R (.ok (.ret (Value.ref l))) s) :=
  .of_wp fun prog w A R s h => by
    obtain ⟨hp, g, d, tk, os⟩ := s
    obtain ⟨hl, h⟩ := h
    have f1 := AutoSeq1.idx_int
    wp_walk using wpAny_loadPart' hl
    repeat (first
      | (refine wpAny_ite_false (decide_eq_false (by rw [c0]; exact Bool.false_ne_true)) ?_; wp_walk using wpAny_loadPart' hl)
      | (refine wpAny_ite_true (decide_eq_true c1) ?_; wp_walk using wpAny_loadPart' hl))
    all_goals exact ⟨_, rfl, h⟩
theorem tupTimes_none (l : Addr) (items : Array Value) (n : Nat) (dd : Option Addr) (sl : Array (Option Value)) (x : Int) (u : Tok) (c0 : (decide (x < -(2 ^ 63)) || decide (x ≥ 2 ^ 63)) = false) (c1 : (items.isEmpty || x == 1) = false) (c2 : (decide (x ≤ 0) || items.isEmpty) = true) :
    Meets (Builtin.«tuple.__mul__» ⟨[.ref l, .int x u], []⟩) (fun _ R s => s.heap.get? l = some { cls := .type "tuple", dict := dd, data := .seq items n, slots := sl } ∧
      R (.ok (.ret (Value.ref s.heap.objs.size))) { s with heap := s.heap.push { cls := Value.type "tuple", data := Data.seq #[] }, toks := s.toks }) :=
  .of_wp fun prog w A R s h => by
    obtain ⟨hp, g, d, tk, os⟩ := s
    obtain ⟨hl, h⟩ := h
    have f1 := AutoSeq1.idx_int
    wp_walk using wpAny_loadPart' hl
    repeat (first
      | (refine wpAny_ite_false (decide_eq_false (by rw [c0]; exact Bool.false_ne_true)) ?_; wp_walk using wpAny_loadPart' hl)
      | (refine wpAny_ite_false (decide_eq_false (by rw [c1]; exact Bool.false_ne_true)) ?_; wp_walk using wpAny_loadPart' hl)
      | (refine wpAny_ite_true (decide_eq_true c2) ?_; wp_walk using wpAny_loadPart' hl))
    all_goals exact ⟨_, rfl, h⟩
def rTimes1 (K : PySem.W.Frag) : R2 := fun x y H Q => ∃ l k xs, x = .ref l ∧ y = .int k ∧ SqT K H l xs ∧ (xs.isEmpty || k == 1) = true ∧ -(2 ^ 63) ≤ k ∧ k < 2 ^ 63 ∧ Q (.ref l) H
def rTimes0 (K : PySem.W.Frag) : R2 := fun x y H Q => ∃ l k xs, x = .ref l ∧ y = .int k ∧ SqT K H l xs ∧ xs ≠ [] ∧ -(2 ^ 63) ≤ k ∧ k ≤ 0 ∧ ∀ p, H p = none → Q (.ref p) (upd H p (.tup []))
section
variable {X : Cx}
theorem op_times1 : OpR X (binaryOp .Mult) (rTimes1 X.K) := by
  intro pins s σ H x y v u Q I rx ry h
  obtain ⟨l, k, xs, rfl, rfl, hT, hk, h1, h2, q⟩ := h
  cases rx
  obtain ⟨t, rfl⟩ := ry
  obtain ⟨its, r, ⟨⟨cls, dd, data, sl⟩, ho, hc, n, hd⟩, hs⟩ := I.tuple hT
  simp only at hc hd
  subst hc hd
  have c0 : (decide (k < -(2 ^ 63)) || decide (k ≥ 2 ^ 63)) = false := by
    rw [decide_eq_false (by omega), decide_eq_false (by omega)] <;> rfl
  have c1 : (its.toArray.isEmpty || k == 1) = true := by
    cases xs with
    | nil =>
      have : its = [] := List.eq_nil_of_length_eq_zero r.length.symm
      rw [this]; rfl
    | cons a b =>
      have : (k == 1) = true := hk
      rw [this, Bool.or_true]
  refine wpAny_binaryOp_repeat_ref (T := "tuple") (U := "int") (by decide) ⟨_, ho, rfl⟩ (fun s' => typeIs_int s' k t) noFill_tuple_mul F.fills_int_mul F.slot_int_rmul repeat_tuple F.slot_int_index.lookup
    (call_meets F.slot_int_rmul (typeIs_int s k t) F.entry_int_rmul (F.args_int_rmul_2 _ _) (int_rmul_tuple k t l its.toArray n dd sl)
      ⟨ho, rfl, ⟨_, ho, rfl⟩, call_meets F.slot_tuple_mul ⟨_, ho, rfl⟩ F.entry_tuple_mul (F.args_tuple_mul_2 _ _) (tupTimes_same l its.toArray n dd sl k t c0 c1) ⟨ho, ?_⟩⟩)
  exact ⟨.ref l, H, I, rfl, q⟩
theorem op_times0 : OpR X (binaryOp .Mult) (rTimes0 X.K) := by
  intro pins s σ H x y v u Q I rx ry h
  obtain ⟨l, k, xs, rfl, rfl, hT, hne, h1, h2, q⟩ := h
  cases rx
  obtain ⟨t, rfl⟩ := ry
  obtain ⟨its, r, ⟨⟨cls, dd, data, sl⟩, ho, hc, n, hd⟩, hs⟩ := I.tuple hT
  simp only at hc hd
  subst hc hd
  have c0 : (decide (k < -(2 ^ 63)) || decide (k ≥ 2 ^ 63)) = false := by
    rw [decide_eq_false (by omega), decide_eq_false (by omega)] <;> rfl
  have c1 : (its.toArray.isEmpty || k == 1) = false := by
    cases its with
    | nil => exact absurd (List.eq_nil_of_length_eq_zero r.length) hne
    | cons a b => exact beq_eq_false_iff_ne.mpr (by omega)
  have c2 : (decide (k ≤ 0) || its.toArray.isEmpty) = true := by
    rw [decide_eq_true h2]; rfl
  refine wpAny_binaryOp_repeat_ref (T := "tuple") (U := "int") (by decide) ⟨_, ho, rfl⟩ (fun s' => typeIs_int s' k t) noFill_tuple_mul F.fills_int_mul F.slot_int_rmul repeat_tuple F.slot_int_index.lookup
    (call_meets F.slot_int_rmul (typeIs_int s k t) F.entry_int_rmul (F.args_int_rmul_2 _ _) (int_rmul_tuple k t l its.toArray n dd sl)
      ⟨ho, rfl, ⟨_, ho, rfl⟩, call_meets F.slot_tuple_mul ⟨_, ho, rfl⟩ F.entry_tuple_mul (F.args_tuple_mul_2 _ _) (tupTimes_none l its.toArray n dd sl k t c0 c1 c2) ⟨ho, ?_⟩⟩)
  exact ⟨.ref s.heap.objs.size, _, I.laid (t' := s.toks) (o := .tup []) (fun b ob q => Heap.get?_push_of_some _ q) (Nat.le_refl _) ⟨Nat.zero_le _, _, .nil, IsTup.new _ _⟩, rfl, q _ (I.hok.fresh (Nat.le_refl _))⟩
end
end Fe

set_option maxHeartbeats 2000000
/-! Fe 2: what expressions are worth, by the rules of the hand layer. -/
namespace Fe
open PySem PySem.Spec PyProof.Rows L2

/-! ### judgements weakened -/
theorem pe_imp {X : Cx} {e : Expr} {t t' : TE} (h : PE X e t) (i : ∀ σ H Q, t' σ H Q → t σ H Q) : PE X e t' := ⟨fun pins s σ H Q I w => h.run pins s σ H Q I (i σ H Q w)⟩
theorem pt_imp {X : Cx} {e : Expr} {t t' : TT} (h : PT X e t) (i : ∀ σ H Q, t' σ H Q → t σ H Q) : PT X e t' := ⟨fun pins s σ H Q I w => h.run pins s σ H Q I (i σ H Q w)⟩
theorem pw_imp {X : Cx} {e : Expr} {t t' : TT} (h : PW X e t) (i : ∀ σ H Q, t' σ H Q → t σ H Q) : PW X e t' := ⟨fun wh pins s σ H Q I w => h.run wh pins s σ H Q I (i σ H Q w)⟩
theorem pa_imp {X : Cx} {e : List Expr} {t t' : TA} (h : PA X e t) (i : ∀ σ H Q, t' σ H Q → t σ H Q) : PA X e t' := ⟨fun p pins s σ H Q I w => h.run p pins s σ H Q I (i σ H Q w)⟩
theorem po_imp {X : Cx} {e : Option Expr} {t t' : TO} (h : PO X e t) (i : ∀ σ H Q, t' σ H Q → t σ H Q) : PO X e t' := ⟨fun pins s σ H Q I w => h.run pins s σ H Q I (i σ H Q w)⟩

/-- where classes of exceptions stand, what their fields are called -/
structure Gc where
  cls : Nat → Addr
  flds : Nat → List Str
/-- an exception in the air -/
def RelX (K : PySem.W.Frag) (G : Gc) (μ : List Addr) (H : Hp) (x : Xc) (cls : Value) (dd : Option Addr) : Prop :=
  cls = .ref (G.cls x.c) ∧ ((x.ds = [] ∧ dd = none) ∨ ∃ d fs, dd = some d ∧ H d = some (.xd fs) ∧ fs.map (·.1) = G.flds x.c ∧ RelDs K μ H x.ds (fs.map (·.2)))

/-- an outcome's wish -/
def Fin {α : Type} (K : PySem.W.Frag) (G : Gc) (μ : List Addr) (H : Hp) (W : XK) (o : Out α) (q : α → S → List Addr → Hp → Prop) : Prop := match o with
  | .ok a s => ∀ μ' H', Ext μ H μ' H' → Rel K μ' H' s → q a s μ' H'
  | .exc x s => ∀ cls dd μ' H', Ext μ H μ' H' → Rel K μ' H' s → RelX K G μ' H' x cls dd → W cls dd H'
  | .bad => False
section
variable {K : PySem.W.Frag} {G : Gc} {μ : List Addr} {H : Hp} {W : XK} {α β : Type}
theorem Fin.imp {o : Out α} {q q' : α → S → List Addr → Hp → Prop} (h : Fin K G μ H W o q) (i : ∀ a s μ' H', Ext μ H μ' H' → Rel K μ' H' s → q a s μ' H' → q' a s μ' H') : Fin K G μ H W o q' := by
  cases o with
  | ok a s => exact fun μ' H' x r => i a s μ' H' x r (h μ' H' x r)
  | exc x s => exact h
  | bad => exact h
theorem Fin.ext {o : Out α} {q : α → S → List Addr → Hp → Prop} {μ' : List Addr} {H' : Hp} (x : Ext μ H μ' H') (h : Fin K G μ H W o q) : Fin K G μ' H' W o q := by
  cases o with
  | ok a s => exact fun μ2 H2 y r => h μ2 H2 (x.trans y) r
  | exc c s => exact fun cls dd μ2 H2 y r z => h cls dd μ2 H2 (x.trans y) r z
  | bad => exact h
theorem Fin.bind {o : Out α} {f : α → S → Out β} {q : β → S → List Addr → Hp → Prop} (h : Fin K G μ H W (o.bind f) q) : Fin K G μ H W o (fun a s μ' H' => Fin K G μ' H' W (f a s) q) := by
  cases o with
  | ok a s => exact fun μ' H' x r => Fin.ext (o := f a s) x h
  | exc c s => exact h
  | bad => exact h
theorem Fin.ok_ {a : α} {s : S} {q : α → S → List Addr → Hp → Prop} (r : Rel K μ H s) (h : Fin K G μ H W (.ok a s) q) : q a s μ H := h μ H (.refl μ H) r
end
/-- a value's wish -/
abbrev qD (K : PySem.W.Frag) (Q : VK) : D → S → List Addr → Hp → Prop := fun d _ μ H => ∀ v, RelD K μ H d v → Q v H
abbrev qB (Q : Bool → Hp → Prop) : Bool → S → List Addr → Hp → Prop := fun b _ _ H => Q b H
abbrev qA (K : PySem.W.Frag) (Q : List V → Hp → Prop) : List D → S → List Addr → Hp → Prop := fun ds _ μ H => ∀ vs, RelDs K μ H ds vs → Q vs H
abbrev qO (Q : Option Int → Hp → Prop) : Option Int → S → List Addr → Hp → Prop := fun o _ _ H => Q o H

def tD (K : PySem.W.Frag) (G : Gc) (W : WX) (f : Env → S → Out D) : TE := fun σ H Q => ∃ μ ρ s, Rel K μ H s ∧ RelEnv K μ H ρ σ ∧ Fin K G μ H (fun c d H' => W c d σ H') (f ρ s) (qD K Q)
def tB' (K : PySem.W.Frag) (G : Gc) (W : WX) (f : Env → S → Out Bool) : TT := fun σ H Q => ∃ μ ρ s, Rel K μ H s ∧ RelEnv K μ H ρ σ ∧ Fin K G μ H (fun c d H' => W c d σ H') (f ρ s) (qB Q)
def tA (K : PySem.W.Frag) (G : Gc) (W : WX) (f : Env → S → Out (List D)) : TA := fun σ H Q => ∃ μ ρ s, Rel K μ H s ∧ RelEnv K μ H ρ σ ∧ Fin K G μ H (fun c d H' => W c d σ H') (f ρ s) (qA K Q)
def tO' (K : PySem.W.Frag) (G : Gc) (W : WX) (f : Env → S → Out (Option Int)) : TO := fun σ H Q => ∃ μ ρ s, Rel K μ H s ∧ RelEnv K μ H ρ σ ∧ Fin K G μ H (fun c d H' => W c d σ H') (f ρ s) (qO Q)
/-- an expression's worth, a test's, arguments', a slice's part's -/
abbrev DE (X : Cx) (G : Gc) (W : WX) (e : Expr) (f : Env → S → Out D) : Prop := PE X e (tD X.K G W f)
abbrev DT (X : Cx) (G : Gc) (W : WX) (e : Expr) (f : Env → S → Out Bool) : Prop := PT X e (tB' X.K G W f)
abbrev DW (X : Cx) (G : Gc) (W : WX) (e : Expr) (f : Env → S → Out Bool) : Prop := PW X e (tB' X.K G W f)
abbrev DA (X : Cx) (G : Gc) (W : WX) (e : List Expr) (f : Env → S → Out (List D)) : Prop := PA X e (tA X.K G W f)
abbrev DO (X : Cx) (G : Gc) (W : WX) (e : Option Expr) (f : Env → S → Out (Option Int)) : Prop := PO X e (tO' X.K G W f)

section
variable {X : Cx} {G : Gc} {W : WX} {a b c e : Expr} {f g h : Env → S → Out D} {pos : Pos}
/-- one expression, then a reading by values -/
theorem d1 {σ : L2.St} {H : Hp} {μ : List Addr} {ρ : Env} {s : S} {f : Env → S → Out D} {k : D → S → Out D} {Q Q1 : VK} (r : Rel X.K μ H s) (re : RelEnv X.K μ H ρ σ) (h : Fin X.K G μ H (fun c d H' => W c d σ H') ((f ρ s).bind k) (qD X.K Q))
    (hk : ∀ d s1 μ1 H1 v, Ext μ H μ1 H1 → Rel X.K μ1 H1 s1 → RelEnv X.K μ1 H1 ρ σ → RelD X.K μ1 H1 d v → Fin X.K G μ1 H1 (fun c d H' => W c d σ H') (k d s1) (qD X.K Q) → Q1 v H1) : tD X.K G W f σ H Q1 :=
  ⟨μ, ρ, s, r, re, h.bind.imp fun d s1 μ1 H1 x r1 h1 v rv => hk d s1 μ1 H1 v x r1 (re.mono x) rv h1⟩
theorem d1B {σ : L2.St} {H : Hp} {μ : List Addr} {ρ : Env} {s : S} {f : Env → S → Out D} {k : D → S → Out Bool} {Q : Bool → Hp → Prop} {Q1 : VK} (r : Rel X.K μ H s) (re : RelEnv X.K μ H ρ σ) (h : Fin X.K G μ H (fun c d H' => W c d σ H') ((f ρ s).bind k) (qB Q))
    (hk : ∀ d s1 μ1 H1 v, Ext μ H μ1 H1 → Rel X.K μ1 H1 s1 → RelEnv X.K μ1 H1 ρ σ → RelD X.K μ1 H1 d v → Fin X.K G μ1 H1 (fun c d H' => W c d σ H') (k d s1) (qB Q) → Q1 v H1) : tD X.K G W f σ H Q1 :=
  ⟨μ, ρ, s, r, re, h.bind.imp fun d s1 μ1 H1 x r1 h1 v rv => hk d s1 μ1 H1 v x r1 (re.mono x) rv h1⟩

/-! ### constants, names -/
theorem de_non {j : Nat} : DE X G W (.Constant .none j pos) (fun _ s => .ok .non s) := pe_imp pe_non fun σ H Q ⟨μ, ρ, s, r, re, h⟩ => h.ok_ r _ relNon
theorem de_bl {j : Nat} {k : Bool} : DE X G W (.Constant (.bool k) j pos) (fun _ s => .ok (.bl k) s) := pe_imp pe_bl fun σ H Q ⟨μ, ρ, s, r, re, h⟩ => h.ok_ r _ relBl
theorem de_int {j : Nat} {k : Int} : DE X G W (.Constant (.int k) j pos) (fun _ s => .ok (.int k) s) := pe_imp pe_int fun σ H Q ⟨μ, ρ, s, r, re, h⟩ => h.ok_ r _ relInt
theorem de_str {j : Nat} {cs : List Nat} (ok : okS cs = true) : DE X G W (.Constant (.str ⟨cs.toArray⟩) j pos) (fun _ s => .ok (.str cs) s) := pe_imp pe_str fun σ H Q ⟨μ, ρ, s, r, re, h⟩ => h.ok_ r _ (relStr ok)
/-- a name's value -/
def lk (ρ : Env) (i : Nat) (s : S) : Out D := match ρ[i]? with
  | some (some d) => .ok d s
  | _ => .bad
theorem de_var {i : Nat} {x : Str} (hN : X.N[i]? = some x) (hv : Vis X.env.scope x) (hd : (x == ("__debug__" : Str)) = false) (hcd : (x == ("__classdict__" : Str)) = false) : DE X G W (.Name x pos) (fun ρ s => lk ρ i s) :=
  pe_imp (pe_var hN hv hd hcd) fun σ H Q ⟨μ, ρ, s, r, re, h⟩ => by
    dsimp only [lk] at h
    split at h
    · rename_i d e
      obtain ⟨v, q, rv⟩ := re.2 i d e
      exact ⟨v, q, h.ok_ r _ rv⟩
    · exact h.elim
/-- a name of the module that stands for a constant -/
theorem de_glo {x : Str} {v : V} {u : Value} {d : D} (hg : Gl X x) (hm : X.mg x = some u) (r : RelV v u) (hd : (x == ("__debug__" : Str)) = false) (hv : ∀ μ H, RelD X.K μ H d v) : DE X G W (.Name x pos) (fun _ s => .ok d s) :=
  pe_imp (pe_glob hg hm r hd) fun σ H Q ⟨μ, ρ, s, rr, re, h⟩ => h.ok_ rr _ (hv μ H)

/-! ### operators -/
theorem de_bin {op : Operator} {r : R2} {k : D → D → S → Out D} (ho : OpR X (binaryOp op) r) (ha : DE X G W a f) (hb : DE X G W b g)
    (hk : ∀ d1 d2 s μ H v1 v2 W Q, Rel X.K μ H s → RelD X.K μ H d1 v1 → RelD X.K μ H d2 v2 → Fin X.K G μ H W (k d1 d2 s) (qD X.K Q) → r v1 v2 H Q) :
    DE X G W (.BinOp a op b pos) (fun ρ s => (f ρ s).bind fun x s => (g ρ s).bind fun y s => k x y s) :=
  pe_imp (pe_op ho ha hb) fun σ H Q ⟨μ, ρ, s, rr, re, h⟩ => d1 rr re h fun x s1 μ1 H1 v1 x1 r1 re1 rv1 h1 => d1 r1 re1 h1 fun y s2 μ2 H2 v2 x2 r2 re2 rv2 h2 =>
    hk x y s2 μ2 H2 v1 v2 _ Q r2 (rv1.mono x2) rv2 h2
theorem de_un {op : UnaryOp} {r : V → Hp → VK → Prop} {k : D → S → Out D} (ho : UnR X (unaryOp op) r) (ha : DE X G W a f)
    (hk : ∀ d1 s μ H v1 W Q, Rel X.K μ H s → RelD X.K μ H d1 v1 → Fin X.K G μ H W (k d1 s) (qD X.K Q) → r v1 H Q) :
    DE X G W (.UnaryOp op a pos) (fun ρ s => (f ρ s).bind fun x s => k x s) :=
  pe_imp (pe_un ho ha) fun σ H Q ⟨μ, ρ, s, rr, re, h⟩ => d1 rr re h fun x s1 μ1 H1 v1 x1 r1 re1 rv1 h1 => hk x s1 μ1 H1 v1 _ Q r1 rv1 h1
theorem de_cmp {op : CmpOp} {r : R2} {k : D → D → S → Out D} (ho : OpR X (compareOp op) r) (ha : DE X G W a f) (hb : DE X G W b g) (hm : behindInMarks op b = false)
    (hk : ∀ d1 d2 s μ H v1 v2 W Q, Rel X.K μ H s → RelD X.K μ H d1 v1 → RelD X.K μ H d2 v2 → Fin X.K G μ H W (k d1 d2 s) (qD X.K Q) → r v1 v2 H Q) :
    DE X G W (.Compare a [op] [b] pos) (fun ρ s => (f ρ s).bind fun x s => (g ρ s).bind fun y s => k x y s) :=
  pe_imp (pe_cmpR ho ha hb hm) fun σ H Q ⟨μ, ρ, s, rr, re, h⟩ => d1 rr re h fun x s1 μ1 H1 v1 x1 r1 re1 rv1 h1 => d1 r1 re1 h1 fun y s2 μ2 H2 v2 x2 r2 re2 rv2 h2 =>
    hk x y s2 μ2 H2 v1 v2 _ Q r2 (rv1.mono x2) rv2 h2
/-- the same as a test: the answer is True or False -/
def asB (o : Out D) : Out Bool := o.bind fun d s => match d with
  | .bl b => .ok b s
  | _ => .bad
theorem fin_asB {K : PySem.W.Frag} {μ : List Addr} {H : Hp} {W : XK} {o : Out D} {Q : Bool → Hp → Prop} (h : Fin K G μ H W (asB o) (qB Q)) : Fin K G μ H W o (qD K fun x H' => ∃ k, x = .bl k ∧ Q k H') := by
  refine h.bind.imp fun d s μ' H' x r h1 v rv => ?_
  cases d with
  | bl b => exact ⟨b, rv.bl_, h1.ok_ r⟩
  | _ => exact h1.elim
theorem dt_cmp {op : CmpOp} {r : R2} {k : D → D → S → Out D} (ho : OpR X (compareOp op) r) (ha : DE X G W a f) (hb : DE X G W b g) (hm : behindInMarks op b = false)
    (hk : ∀ d1 d2 s μ H v1 v2 W Q, Rel X.K μ H s → RelD X.K μ H d1 v1 → RelD X.K μ H d2 v2 → Fin X.K G μ H W (k d1 d2 s) (qD X.K Q) → r v1 v2 H Q) :
    DT X G W (.Compare a [op] [b] pos) (fun ρ s => (f ρ s).bind fun x s => (g ρ s).bind fun y s => asB (k x y s)) :=
  pt_imp (pt_cmpR ho ha hb hm) fun σ H Q ⟨μ, ρ, s, rr, re, h⟩ => d1B rr re h fun x s1 μ1 H1 v1 x1 r1 re1 rv1 h1 => d1B r1 re1 h1 fun y s2 μ2 H2 v2 x2 r2 re2 rv2 h2 =>
    hk x y s2 μ2 H2 v1 v2 _ _ r2 (rv1.mono x2) rv2 (fin_asB h2)

/-! ### truth -/
def truth (s : S) : D → Option Bool
  | .non => some false
  | .bl b => some b
  | .int i => some (i != 0)
  | .str cs => if cs.length ≤ 16777216 then some (!cs.isEmpty) else none
  | .tup ds => some (!ds.isEmpty)
  | .ref i => match s[i]? with
    | some (.lst ds) => some (!ds.isEmpty)
    | some (.rl ds) => some (!ds.isEmpty)
    | some (.dct kvs) => some (!kvs.isEmpty)
    | some (.ins _ _) => none
    | some (.tab _) => none
    | none => none
def tru (d : D) (s : S) : Out Bool := match truth s d with
  | some b => .ok b s
  | none => .bad
theorem RelDs.isEmpty {K : PySem.W.Frag} {μ : List Addr} {H : Hp} : ∀ {ds : List D} {vs : List V}, RelDs K μ H ds vs → vs.isEmpty = ds.isEmpty
  | [], vs, h => by rw [h.nil_]; rfl
  | d :: ds, vs, h => by obtain ⟨v, ws, rfl, _, _⟩ := h.cons_; rfl
theorem RelKV.isEmpty {K : PySem.W.Frag} {μ : List Addr} {H : Hp} : ∀ {ds : List (D × D)} {vs : List (Key × V)}, RelKV K μ H ds vs → vs.isEmpty = ds.isEmpty
  | [], vs, h => by cases h; rfl
  | d :: ds, vs, h => by obtain ⟨_, _, _, rfl, _⟩ := h; rfl
theorem truth_ok {K : PySem.W.Frag} {μ : List Addr} {H : Hp} {s : S} {d : D} {v : V} {k : Bool} (r : Rel K μ H s) (rv : RelD K μ H d v) (e : truth s d = some k) : TruV K v H k := by
  cases d with
  | non => rw [rv.non_]; exact (Option.some.inj e).symm
  | bl b => rw [rv.bl_]; exact (Option.some.inj e).symm
  | int i => rw [rv.int_]; exact (Option.some.inj e).symm
  | str cs =>
    rw [rv.str_]
    dsimp only [truth] at e
    split at e
    · rename_i hl
      refine ⟨by rw [sizeLine_eq]; simpa [Str.length] using hl, ?_⟩
      rw [← Option.some.inj e]
      cases cs with
      | nil => rfl
      | cons c cs =>
        have : (((Str.mk (c :: cs).toArray).length : Int) != 0) = true := by simp [Str.length]; omega
        rw [this]; rfl
    · cases e
  | tup ds =>
    obtain ⟨a, vs, rfl, q, t⟩ := rv.tup_
    exact .inr (.inl ⟨vs, q, by rw [t.isEmpty]; exact (Option.some.inj e).symm⟩)
  | ref i =>
    obtain ⟨a, rfl, ha⟩ := rv.ref_
    dsimp only [truth] at e
    split at e
    · rename_i ds hs
      obtain ⟨vs, q, t⟩ := r.obj i a _ ha hs
      exact .inl ⟨vs, .of q, by rw [t.isEmpty]; exact (Option.some.inj e).symm⟩
    · rename_i ds hs
      obtain ⟨vs, o, q, t⟩ := r.obj i a _ ha hs
      exact .inl ⟨vs, .inl (.inr ⟨o, q⟩), by rw [t.isEmpty]; exact (Option.some.inj e).symm⟩
    · rename_i kvs hs
      obtain ⟨ws, q, t⟩ := r.obj i a _ ha hs
      exact .inr (.inr ⟨ws, q, by rw [t.isEmpty]; exact (Option.some.inj e).symm⟩)
    · cases e
    · cases e
    · cases e
theorem tru_fin {K : PySem.W.Frag} {μ : List Addr} {H : Hp} {s : S} {d : D} {v : V} {W : XK} {Q : Bool → Hp → Prop} (r : Rel K μ H s) (rv : RelD K μ H d v) (h : Fin K G μ H W (tru d s) (qB Q)) : ∃ k, TruV K v H k ∧ Q k H := by
  unfold tru at h
  split at h
  · rename_i k e
    exact ⟨k, truth_ok r rv e, h.ok_ r⟩
  · exact h.elim
theorem dt_truth (ha : DE X G W a f) (he : ∀ whole, isTrue a X.env whole = (do let v ← whole; standAt a.pos; holding [v] (truthy v))) : DT X G W a (fun ρ s => (f ρ s).bind tru) :=
  pt_imp (pt_truth ha he) fun σ H Q ⟨μ, ρ, s, rr, re, h⟩ => d1B rr re h fun x s1 μ1 H1 v1 x1 r1 re1 rv1 h1 => tru_fin r1 rv1 h1

/-! ### and, or, not, if -/
section
variable {p q : Env → S → Out Bool} {rest : List Expr}
theorem tB_bind {σ : L2.St} {H : Hp} {μ : List Addr} {ρ : Env} {s : S} {k : Bool → S → Out Bool} {Q : Bool → Hp → Prop} {Q1 : Bool → Hp → Prop} (r : Rel X.K μ H s) (re : RelEnv X.K μ H ρ σ) (h : Fin X.K G μ H (fun c d H' => W c d σ H') ((p ρ s).bind k) (qB Q))
    (hk : ∀ d s1 μ1 H1, Rel X.K μ1 H1 s1 → RelEnv X.K μ1 H1 ρ σ → Fin X.K G μ1 H1 (fun c d H' => W c d σ H') (k d s1) (qB Q) → Q1 d H1) : tB' X.K G W p σ H Q1 :=
  ⟨μ, ρ, s, r, re, h.bind.imp fun d s1 μ1 H1 x r1 h1 => hk d s1 μ1 H1 r1 (re.mono x) h1⟩
theorem tB_bindD {σ : L2.St} {H : Hp} {μ : List Addr} {ρ : Env} {s : S} {k : Bool → S → Out D} {Q : VK} {Q1 : Bool → Hp → Prop} (r : Rel X.K μ H s) (re : RelEnv X.K μ H ρ σ) (h : Fin X.K G μ H (fun c d H' => W c d σ H') ((p ρ s).bind k) (qD X.K Q))
    (hk : ∀ d s1 μ1 H1, Rel X.K μ1 H1 s1 → RelEnv X.K μ1 H1 ρ σ → Fin X.K G μ1 H1 (fun c d H' => W c d σ H') (k d s1) (qD X.K Q) → Q1 d H1) : tB' X.K G W p σ H Q1 :=
  ⟨μ, ρ, s, r, re, h.bind.imp fun d s1 μ1 H1 x r1 h1 => hk d s1 μ1 H1 r1 (re.mono x) h1⟩
theorem dw_and1 (ha : DT X G W a p) : DW X G W (.BoolOp .And [a] pos) p := pw_and1 ha
theorem dw_or1 (ha : DT X G W a p) : DW X G W (.BoolOp .Or [a] pos) p := pw_or1 ha
theorem dw_and (ha : DT X G W a p) (hb : DW X G W (.BoolOp .And (b :: rest) pos) q) : DW X G W (.BoolOp .And (a :: b :: rest) pos) (fun ρ s => (p ρ s).bind fun k s => if k = true then q ρ s else .ok false s) :=
  pw_imp (pw_and ha hb) fun σ H Q ⟨μ, ρ, s, rr, re, h⟩ => tB_bind rr re h fun k s1 μ1 H1 r1 re1 h1 => by
    cases k with
    | true => exact ⟨μ1, ρ, s1, r1, re1, h1⟩
    | false => exact Fin.ok_ r1 h1
theorem dw_or (ha : DT X G W a p) (hb : DW X G W (.BoolOp .Or (b :: rest) pos) q) : DW X G W (.BoolOp .Or (a :: b :: rest) pos) (fun ρ s => (p ρ s).bind fun k s => if k = true then .ok true s else q ρ s) :=
  pw_imp (pw_or ha hb) fun σ H Q ⟨μ, ρ, s, rr, re, h⟩ => tB_bind rr re h fun k s1 μ1 H1 r1 re1 h1 => by
    cases k with
    | true => exact Fin.ok_ r1 h1
    | false => exact ⟨μ1, ρ, s1, r1, re1, h1⟩
theorem dt_not (ha : DT X G W a p) : DT X G W (.UnaryOp .Not a pos) (fun ρ s => (p ρ s).bind fun k s => .ok (!k) s) :=
  pt_imp (pt_not ha) fun σ H Q ⟨μ, ρ, s, rr, re, h⟩ => tB_bind rr re h fun k s1 μ1 H1 r1 re1 h1 => h1.ok_ r1
theorem de_one {op : BoolOp} (ha : DE X G W a f) : DE X G W (.BoolOp op [a] pos) f := pe_one ha
theorem de_and (ha : DE X G W a f) (hb : DE X G W (.BoolOp .And (b :: rest) pos) g) : DE X G W (.BoolOp .And (a :: b :: rest) pos) (fun ρ s => (f ρ s).bind fun x s => (tru x s).bind fun k s => if k = true then g ρ s else .ok x s) :=
  pe_imp (pe_andT ha hb) fun σ H Q ⟨μ, ρ, s, rr, re, h⟩ => d1 rr re h fun x s1 μ1 H1 v1 x1 r1 re1 rv1 h1 => by
    unfold tru at h1
    split at h1
    · rename_i k e
      refine ⟨k, truth_ok r1 rv1 e, ?_⟩
      cases k with
      | true => exact ⟨μ1, ρ, s1, r1, re1, h1⟩
      | false => exact Fin.ok_ r1 h1 _ rv1
    · exact h1.elim
theorem de_or (ha : DE X G W a f) (hb : DE X G W (.BoolOp .Or (b :: rest) pos) g) : DE X G W (.BoolOp .Or (a :: b :: rest) pos) (fun ρ s => (f ρ s).bind fun x s => (tru x s).bind fun k s => if k = true then .ok x s else g ρ s) :=
  pe_imp (pe_orT ha hb) fun σ H Q ⟨μ, ρ, s, rr, re, h⟩ => d1 rr re h fun x s1 μ1 H1 v1 x1 r1 re1 rv1 h1 => by
    unfold tru at h1
    split at h1
    · rename_i k e
      refine ⟨k, truth_ok r1 rv1 e, ?_⟩
      cases k with
      | true => exact Fin.ok_ r1 h1 _ rv1
      | false => exact ⟨μ1, ρ, s1, r1, re1, h1⟩
    · exact h1.elim
theorem de_not (ha : DE X G W a f) : DE X G W (.UnaryOp .Not a pos) (fun ρ s => (f ρ s).bind fun x s => (tru x s).bind fun k s => .ok (.bl (!k)) s) :=
  pe_imp (pe_notT ha) fun σ H Q ⟨μ, ρ, s, rr, re, h⟩ => d1 rr re h fun x s1 μ1 H1 v1 x1 r1 re1 rv1 h1 => by
    unfold tru at h1
    split at h1
    · rename_i k e
      exact ⟨k, truth_ok r1 rv1 e, Fin.ok_ (α := D) r1 h1 _ relBl⟩
    · exact h1.elim
theorem de_if (hc : DT X G W c p) (ha : DE X G W a f) (hb : DE X G W b g) : DE X G W (.IfExp c a b pos) (fun ρ s => (p ρ s).bind fun k s => if k = true then f ρ s else g ρ s) :=
  pe_imp (pe_ifExp hc ha hb) fun σ H Q ⟨μ, ρ, s, rr, re, h⟩ => tB_bindD rr re h fun k s1 μ1 H1 r1 re1 h1 => by
    cases k with
    | true => exact ⟨μ1, ρ, s1, r1, re1, h1⟩
    | false => exact ⟨μ1, ρ, s1, r1, re1, h1⟩
end

/-! ### arguments, tuples, lists -/
def notStar : Expr → Bool
  | .Starred _ _ => false
  | _ => true
theorem star_ns {es : List Expr} {env : PySem.Env} : ∀ {e : Expr}, notStar e = true → starEach (e :: es) env = (false, eval e env) :: starEach es env
  | .Starred _ _, h => by cases h
  | .BoolOp .., _ => rfl
  | .NamedExpr .., _ => rfl
  | .BinOp .., _ => rfl
  | .UnaryOp .., _ => rfl
  | .Lambda .., _ => rfl
  | .IfExp .., _ => rfl
  | .Dict .., _ => rfl
  | .Set .., _ => rfl
  | .ListComp .., _ => rfl
  | .SetComp .., _ => rfl
  | .DictComp .., _ => rfl
  | .GeneratorExp .., _ => rfl
  | .Await .., _ => rfl
  | .Yield .., _ => rfl
  | .YieldFrom .., _ => rfl
  | .Compare .., _ => rfl
  | .Call .., _ => rfl
  | .FormattedValue .., _ => rfl
  | .JoinedStr .., _ => rfl
  | .Constant .., _ => rfl
  | .Attribute .., _ => rfl
  | .Subscript .., _ => rfl
  | .Name .., _ => rfl
  | .List .., _ => rfl
  | .Tuple .., _ => rfl
  | .Slice .., _ => rfl
theorem star_any {env : PySem.Env} {pos : Pos} : ∀ {es : List Expr}, es.all notStar = true → (backTo pos (starEach es env)).any (·.1) = false
  | [], _ => rfl
  | [e], h => by
    have h1 : notStar e = true := by simpa using h
    rw [star_ns h1]; rfl
  | e :: e' :: es, h => by
    have h1 : notStar e = true ∧ (e' :: es).all notStar = true := by simpa using h
    have ih := star_any (env := env) (pos := pos) (es := e' :: es) h1.2
    rw [star_ns h1.1]
    have h2 : notStar e' = true := by simpa using (by simpa using h1.2 : notStar e' = true ∧ _).1
    rw [star_ns h2] at ih ⊢
    simpa [backTo] using ih
theorem da_nil : DA X G W [] (fun _ s => .ok [] s) := pa_imp pa_nil fun σ H Q ⟨μ, ρ, s, r, re, h⟩ => h.ok_ r _ relNil
theorem da_cons {es : List Expr} {fs : Env → S → Out (List D)} (hs : notStar e = true) (he : DE X G W e f) (hr : DA X G W es fs) : DA X G W (e :: es) (fun ρ s => (f ρ s).bind fun x s => (fs ρ s).bind fun xs s => .ok (x :: xs) s) :=
  pa_imp (pa_cons he hr (star_ns hs)) fun σ H Q ⟨μ, ρ, s, r, re, h⟩ => ⟨μ, ρ, s, r, re, h.bind.imp fun d s1 μ1 H1 x1 r1 h1 v rv => ⟨μ1, ρ, s1, r1, re.mono x1, h1.bind.imp fun ds s2 μ2 H2 x2 r2 h2 vs rvs => Fin.ok_ r2 h2 _ (relCons (rv.mono x2) rvs)⟩⟩
theorem dA1 {σ : L2.St} {H : Hp} {μ : List Addr} {ρ : Env} {s : S} {fs : Env → S → Out (List D)} {k : List D → S → Out D} {Q : VK} {Q1 : List V → Hp → Prop} (r : Rel X.K μ H s) (re : RelEnv X.K μ H ρ σ) (h : Fin X.K G μ H (fun c d H' => W c d σ H') ((fs ρ s).bind k) (qD X.K Q))
    (hk : ∀ d s1 μ1 H1 v, Ext μ H μ1 H1 → Rel X.K μ1 H1 s1 → RelEnv X.K μ1 H1 ρ σ → RelDs X.K μ1 H1 d v → Fin X.K G μ1 H1 (fun c d H' => W c d σ H') (k d s1) (qD X.K Q) → Q1 v H1) : tA X.K G W fs σ H Q1 :=
  ⟨μ, ρ, s, r, re, h.bind.imp fun d s1 μ1 H1 x r1 h1 v rv => hk d s1 μ1 H1 v x r1 (re.mono x) rv h1⟩
def mkTup (ds : List D) (s : S) : Out D := if ds.length ≤ 16777216 then .ok (.tup ds) s else .bad
def mkLst (ds : List D) (s : S) : Out D := if ds.length ≤ 16777216 then .ok (.ref s.length) (s ++ [.lst ds]) else .bad
/-- a new tuple answers -/
theorem tup_fin {K : PySem.W.Frag} {μ : List Addr} {H : Hp} {s : S} {ds : List D} {vs : List V} {W : XK} {Q : VK} (r : Rel K μ H s) (rv : RelDs K μ H ds vs) (h : Fin K G μ H W (.ok (.tup ds) s) (qD K Q)) {p : Addr} (n : H p = none) : Q (.ref p) (upd H p (.tup vs)) := by
  obtain ⟨r', x⟩ := r.new (u := .tup vs) n
  exact h μ _ x r' _ (relTup (.of upd_same) (rv.mono x))
theorem lst_fin {K : PySem.W.Frag} {μ : List Addr} {H : Hp} {s : S} {ds : List D} {vs : List V} {W : XK} {Q : VK} (r : Rel K μ H s) (rv : RelDs K μ H ds vs) (h : Fin K G μ H W (.ok (.ref s.length) (s ++ [.lst ds])) (qD K Q)) {p : Addr} (n : H p = none) : Q (.ref p) (upd H p (.lst vs)) := by
  obtain ⟨r', x, e⟩ := r.push (u := .lst vs) (o := .lst ds) n fun x => ⟨vs, upd_same, rv.mono x⟩
  exact h _ _ x r' _ (relRef e)
theorem de_tup {es : List Expr} {fs : Env → S → Out (List D)} {x1 : Nat} (hr : DA X G W es fs) : DE X G W (.Tuple es x1 pos) (fun ρ s => (fs ρ s).bind mkTup) :=
  pe_imp (pe_tup hr) fun σ H Q ⟨μ, ρ, s, r, re, h⟩ => dA1 r re h fun ds s1 μ1 H1 vs x1 r1 re1 rv1 h1 => by
    unfold mkTup at h1
    split at h1
    · rename_i hl
      exact ⟨by rw [rv1.length, sizeLine_eq]; exact hl, fun p n => tup_fin r1 rv1 h1 n⟩
    · exact h1.elim
theorem de_lst {es : List Expr} {fs : Env → S → Out (List D)} (hr : DA X G W es fs) : DE X G W (.List es pos) (fun ρ s => (fs ρ s).bind mkLst) :=
  pe_imp (pe_lst hr) fun σ H Q ⟨μ, ρ, s, r, re, h⟩ => dA1 r re h fun ds s1 μ1 H1 vs x1 r1 re1 rv1 h1 => by
    unfold mkLst at h1
    split at h1
    · rename_i hl
      exact ⟨by rw [rv1.length, sizeLine_eq]; exact hl, fun p n => lst_fin r1 rv1 h1 n⟩
    · exact h1.elim
end
end Fe

set_option maxHeartbeats 2000000
/-! Fe 3: operators, comparisons, places, slices. -/
namespace Fe
open PySem PySem.Spec PyProof.Rows L2

def getL (s : S) (i : Nat) : Option (List D) := match s[i]? with
  | some (.lst ds) => some ds
  | some (.rl ds) => some ds
  | _ => none
def line : Nat := 16777216
theorem line_eq : line = sizeLine := by rw [sizeLine_eq]; rfl
section
variable {K : PySem.W.Frag} {G : Gc} {μ : List Addr} {H : Hp} {W : XK} {s : S} {Q : VK}
theorem getL_ok {i : Nat} {ds : List D} {v : V} (r : Rel K μ H s) (rv : RelD K μ H (.ref i) v) (e : getL s i = some ds) : ∃ a vs, v = .ref a ∧ μ[i]? = some a ∧ SqL K H a vs ∧ RelDs K μ H ds vs := by
  obtain ⟨a, rfl, ha⟩ := rv.ref_
  unfold getL at e
  split at e
  · rename_i ds' hs
    cases e
    obtain ⟨vs, q, t⟩ := r.obj i a _ ha hs
    exact ⟨a, vs, rfl, ha, .of q, t⟩
  · rename_i ds' hs
    cases e
    obtain ⟨vs, o, q, t⟩ := r.obj i a _ ha hs
    exact ⟨a, vs, rfl, ha, .inl (.inr ⟨o, q⟩), t⟩
  · cases e
theorem lst_ok {i : Nat} {ds : List D} {v : V} (r : Rel K μ H s) (rv : RelD K μ H (.ref i) v) (e : s[i]? = some (.lst ds)) : ∃ a vs, v = .ref a ∧ μ[i]? = some a ∧ H a = some (.lst vs) ∧ RelDs K μ H ds vs := by
  obtain ⟨a, rfl, ha⟩ := rv.ref_
  obtain ⟨vs, q, t⟩ := r.obj i a _ ha e
  exact ⟨a, vs, rfl, ha, q, t⟩
theorem fin_ok {d : D} {v : V} (r : Rel K μ H s) (rv : RelD K μ H d v) (h : Fin K G μ H W (.ok d s) (qD K Q)) : Q v H := h.ok_ r v rv
theorem RelDs.sized {ds : List D} {vs : List V} (h : RelDs K μ H ds vs) (e : ds.length ≤ line) : vs.length ≤ sizeLine := by rw [h.length, ← line_eq]; exact e
end

/-! ### + -/
def opAdd : D → D → S → Out D
  | .int i, .int j, s => .ok (.int (i + j)) s
  | .str a, .str b, s => if a.length + b.length ≤ line then .ok (.str (a ++ b)) s else .bad
  | .tup a, .tup b, s => if a.length + b.length ≤ line then .ok (.tup (a ++ b)) s else .bad
  | .ref i, .ref j, s => match s[i]?, s[j]? with
    | some (.lst a), some (.lst b) => if a.length + b.length ≤ line then .ok (.ref s.length) (s ++ [.lst (a ++ b)]) else .bad
    | _, _ => .bad
  | _, _, _ => .bad
section
variable {X : Cx} {G : Gc}
abbrev rAddA (X : Cx) : R2 := fun x y H Q => (rI0 (fun i j => .int (i + j)) x y H Q ∨ ∃ i j, x = .str i ∧ y = .str j ∧ i.length + j.length ≤ sizeLine ∧ Q (.str (i ++ j)) H) ∨ (rCatA X.K x y H Q ∨ rCat x y H Q)
theorem op_addA : OpR X (binaryOp .Add) (rAddA X) := (op_add.or op_add_str).or (op_catA.or op_cat)
theorem str_app (a b : List Nat) : (Str.mk a.toArray) ++ (Str.mk b.toArray) = Str.mk (a ++ b).toArray := by
  show Str.append _ _ = _
  simp [Str.append]
theorem add_ok : ∀ d1 d2 s μ H v1 v2 W Q, Rel X.K μ H s → RelD X.K μ H d1 v1 → RelD X.K μ H d2 v2 → Fin X.K G μ H W (opAdd d1 d2 s) (qD X.K Q) → rAddA X v1 v2 H Q := by
  intro d1 d2 s μ H v1 v2 W Q r r1 r2 h
  cases d1 with
  | int i =>
    cases d2 with
    | int j => rw [r1.int_, r2.int_]; exact .inl (.inl ⟨i, j, rfl, rfl, fin_ok r relInt h⟩)
    | _ => exact h.elim
  | str a =>
    cases d2 with
    | str b =>
      dsimp only [opAdd] at h
      split at h
      · rename_i hl
        rw [r1.str_, r2.str_]
        exact .inl (.inr ⟨_, _, rfl, rfl, by rw [← line_eq]; simpa [Str.length] using hl, by rw [str_app]; exact fin_ok r (relStr (okS_append r1.okS r2.okS)) h⟩)
      · exact h.elim
    | _ => exact h.elim
  | tup a =>
    cases d2 with
    | tup b =>
      dsimp only [opAdd] at h
      split at h
      · rename_i hl
        obtain ⟨p, vs, rfl, q1, t1⟩ := r1.tup_
        obtain ⟨p', ws, rfl, q2, t2⟩ := r2.tup_
        refine .inr (.inl ⟨p, p', vs, ws, rfl, rfl, q1, q2, by rw [t1.length, t2.length, ← line_eq]; exact hl, fun e => ?_, fun _ e => ?_, fun _ _ n hn => ?_⟩)
        · have e' : a = [] := List.eq_nil_of_length_eq_zero (by rw [← t1.length, e]; rfl)
          subst e'
          exact fin_ok r r2 h
        · have e' : b = [] := List.eq_nil_of_length_eq_zero (by rw [← t2.length, e]; rfl)
          subst e'
          rw [List.append_nil] at h
          exact fin_ok r r1 h
        · exact tup_fin r (t1.append t2) h hn
      · exact h.elim
    | _ => exact h.elim
  | ref i =>
    cases d2 with
    | ref j =>
      dsimp only [opAdd] at h
      split at h
      · rename_i a b ha hb
        split at h
        · rename_i hl
          obtain ⟨p, vs, rfl, _, q1, t1⟩ := lst_ok r r1 ha
          obtain ⟨p', ws, rfl, _, q2, t2⟩ := lst_ok r r2 hb
          exact .inr (.inr ⟨p, p', vs, ws, rfl, rfl, q1, q2, by rw [t1.length, t2.length, ← line_eq]; exact hl, fun n hn => lst_fin r (t1.append t2) h hn⟩)
        · exact h.elim
      · exact h.elim
    | _ => exact h.elim
  | _ => exact h.elim

/-! ### -, *, //, %, ** of numbers; a list, a tuple, a text some times -/
def opSub : D → D → S → Out D
  | .int i, .int j, s => .ok (.int (i - j)) s
  | _, _, _ => .bad
theorem sub_ok : ∀ d1 d2 s μ H v1 v2 W Q, Rel X.K μ H s → RelD X.K μ H d1 v1 → RelD X.K μ H d2 v2 → Fin X.K G μ H W (opSub d1 d2 s) (qD X.K Q) → rI0 (fun i j => .int (i - j)) v1 v2 H Q := by
  intro d1 d2 s μ H v1 v2 W Q r r1 r2 h
  cases d1 with
  | int i =>
    cases d2 with
    | int j => rw [r1.int_, r2.int_]; exact ⟨i, j, rfl, rfl, fin_ok r relInt h⟩
    | _ => exact h.elim
  | _ => exact h.elim
def mulOk (i j : Int) : Bool := decide (i.natAbs < 2 ^ 64) || decide (j.natAbs < 2 ^ 64) || decide (i.natAbs.log2 + j.natAbs.log2 < 1000000)
theorem mulOk_ok {i j : Int} (h : mulOk i j = true) : IntMulOk i j := by
  unfold mulOk at h
  rw [Bool.or_eq_true, Bool.or_eq_true] at h
  rcases h with (h | h) | h
  · have h' := of_decide_eq_true h
    exact CMul.ok (.inl (by omega))
  · have h' := of_decide_eq_true h
    exact CMul.ok (.inr (by omega))
  · have h' : i.natAbs.log2 + j.natAbs.log2 < 1000000 := of_decide_eq_true h
    exact CMulW.ok h'
def opMul : D → D → S → Out D
  | .int i, .int j, s => if mulOk i j = true then .ok (.int (i * j)) s else .bad
  | .ref i, .int k, s => match s[i]? with
    | some (.lst a) => if -(2 ^ 63) ≤ k ∧ k < 2 ^ 63 ∧ a.length * k.toNat ≤ line then .ok (.ref s.length) (s ++ [.lst (List.replicate k.toNat a).flatten]) else .bad
    | _ => .bad
  | .tup a, .int k, s => if -(2 ^ 63) ≤ k ∧ k < 2 ^ 63 ∧ (a = [] ∨ k ≤ 1 ∨ (k ≤ 1000 ∧ a.length ≤ 1000)) then .ok (.tup (List.replicate k.toNat a).flatten) s else .bad
  | _, _, _ => .bad
theorem op_mulA : OpR X (binaryOp .Mult) (rI (fun i j => mulOk i j = true) fun i j => .int (i * j)) := opI fun _ _ _ _ _ _ _ hc q => mul_int q (mulOk_ok hc)
theorem RelDs.flatten {K : PySem.W.Frag} {μ : List Addr} {H : Hp} {ds : List D} {vs : List V} (h : RelDs K μ H ds vs) : ∀ n : Nat, RelDs K μ H (List.replicate n ds).flatten (List.replicate n vs).flatten
  | 0 => relNil
  | n + 1 => by
    rw [List.replicate_succ, List.replicate_succ, List.flatten_cons, List.flatten_cons]
    exact h.append (RelDs.flatten h n)
abbrev rMulA (X : Cx) : R2 := fun x y H Q => rI (fun i j => mulOk i j = true) (fun i j => .int (i * j)) x y H Q ∨ (rRep x y H Q ∨ (rRepT X.K x y H Q ∨ (rTimes1 X.K x y H Q ∨ rTimes0 X.K x y H Q)))
theorem op_mulAll : OpR X (binaryOp .Mult) (rMulA X) := op_mulA.or (op_rep.or (op_repT.or (op_times1.or op_times0)))
theorem mul_ok : ∀ d1 d2 s μ H v1 v2 W Q, Rel X.K μ H s → RelD X.K μ H d1 v1 → RelD X.K μ H d2 v2 → Fin X.K G μ H W (opMul d1 d2 s) (qD X.K Q) → rMulA X v1 v2 H Q := by
  intro d1 d2 s μ H v1 v2 W Q r r1 r2 h
  cases d1 with
  | int i =>
    cases d2 with
    | int j =>
      dsimp only [opMul] at h
      split at h
      · rename_i hc
        rw [r1.int_, r2.int_]; exact .inl ⟨i, j, rfl, rfl, hc, fin_ok r relInt h⟩
      · exact h.elim
    | _ => exact h.elim
  | tup a =>
    cases d2 with
    | int k =>
      dsimp only [opMul] at h
      split at h
      · rename_i hc
        obtain ⟨p, vs, rfl, q1, t1⟩ := r1.tup_
        rw [r2.int_]
        obtain ⟨b1, b2, b3⟩ := hc
        have same : (List.replicate k.toNat a).flatten = a → Q (.ref p) H := fun e => by
          rw [e] at h
          exact fin_ok r (relTup q1 t1) h
        by_cases ha : a = []
        · subst ha
          cases t1.nil_
          refine .inr (.inr (.inr (.inl ⟨p, k, [], rfl, rfl, q1, rfl, b1, b2, same (by simp)⟩)))
        · have hv : vs ≠ [] := fun e => ha (List.eq_nil_of_length_eq_zero (by rw [← t1.length, e]; rfl))
          by_cases h1 : k = 1
          · subst h1
            exact .inr (.inr (.inr (.inl ⟨p, 1, vs, rfl, rfl, q1, by simp, b1, b2, same (by simp)⟩)))
          · by_cases h0 : k ≤ 0
            · have e0 : k.toNat = 0 := by omega
              rw [e0] at h
              exact .inr (.inr (.inr (.inr ⟨p, k, vs, rfl, rfl, q1, hv, b1, h0, fun n hn => tup_fin r relNil h hn⟩)))
            · have b4 : k ≤ 1000 ∧ a.length ≤ 1000 := by
                rcases b3 with b | b | b
                · exact absurd b ha
                · omega
                · exact b
              exact .inr (.inr (.inl ⟨p, k, vs, rfl, rfl, q1, hv, by omega, b4.1, by rw [t1.length]; exact b4.2, fun n hn => tup_fin r (t1.flatten _) h hn⟩))
      · exact h.elim
    | _ => exact h.elim
  | ref i =>
    cases d2 with
    | int k =>
      dsimp only [opMul] at h
      split at h
      · rename_i a ha
        split at h
        · rename_i hc
          obtain ⟨p, vs, rfl, _, q1, t1⟩ := lst_ok r r1 ha
          rw [r2.int_]
          exact .inr (.inl ⟨p, k, vs, rfl, rfl, q1, hc.1, hc.2.1, by rw [t1.length, ← line_eq]; exact hc.2.2, fun n hn => lst_fin r (t1.flatten _) h hn⟩)
        · exact h.elim
      · exact h.elim
    | _ => exact h.elim
  | _ => exact h.elim
def divOk (j : Int) : Bool := decide (0 < j) && decide (j.natAbs.log2 < 9000)
def opDiv : D → D → S → Out D
  | .int i, .int j, s => if divOk j = true then .ok (.int (i / j)) s else .bad
  | _, _, _ => .bad
theorem div_ok : ∀ d1 d2 s μ H v1 v2 W Q, Rel X.K μ H s → RelD X.K μ H d1 v1 → RelD X.K μ H d2 v2 → Fin X.K G μ H W (opDiv d1 d2 s) (qD X.K Q) → rI CDivW (fun i j => .int (i / j)) v1 v2 H Q := by
  intro d1 d2 s μ H v1 v2 W Q r r1 r2 h
  cases d1 with
  | int i =>
    cases d2 with
    | int j =>
      dsimp only [opDiv] at h
      split at h
      · rename_i hc
        unfold divOk at hc
        rw [Bool.and_eq_true] at hc
        rw [r1.int_, r2.int_]; exact ⟨i, j, rfl, rfl, ⟨of_decide_eq_true hc.1, of_decide_eq_true hc.2⟩, fin_ok r relInt h⟩
      · exact h.elim
    | _ => exact h.elim
  | _ => exact h.elim
def opMod : D → D → S → Out D
  | .int i, .int j, s => if 0 < j then .ok (.int (i % j)) s else .bad
  | _, _, _ => .bad
theorem mod_ok : ∀ d1 d2 s μ H v1 v2 W Q, Rel X.K μ H s → RelD X.K μ H d1 v1 → RelD X.K μ H d2 v2 → Fin X.K G μ H W (opMod d1 d2 s) (qD X.K Q) → rI (fun _ j => 0 < j) (fun i j => .int (i % j)) v1 v2 H Q := by
  intro d1 d2 s μ H v1 v2 W Q r r1 r2 h
  cases d1 with
  | int i =>
    cases d2 with
    | int j =>
      dsimp only [opMod] at h
      split at h
      · rename_i hc
        rw [r1.int_, r2.int_]; exact ⟨i, j, rfl, rfl, hc, fin_ok r relInt h⟩
      · exact h.elim
    | _ => exact h.elim
  | _ => exact h.elim
def powOk (i j : Int) : Bool := decide (0 ≤ j) && decide ((i.natAbs.log2 + 1) * j.toNat ≤ 2 ^ 27)
theorem op_powA : OpR X (binaryOp .Pow) (rI (fun i j => powOk i j = true) fun i j => .int (i ^ j.toNat)) := opI fun i j _ _ _ _ _ hc q => by
  unfold powOk at hc
  rw [Bool.and_eq_true] at hc
  have h0 := of_decide_eq_true hc.1
  have h1 := of_decide_eq_true hc.2
  refine pow_int h0 ?_ q
  have b : Builtin.Int.intBits i ≤ i.natAbs.log2 + 1 := by unfold Builtin.Int.intBits; split <;> omega
  have e : j = (j.toNat : Int) := by omega
  have h2 : Builtin.Int.intBits i * j.toNat ≤ 2 ^ 27 := Nat.le_trans (Nat.mul_le_mul_right _ b) h1
  rw [e]
  exact_mod_cast h2
def opPow : D → D → S → Out D
  | .int i, .int j, s => if powOk i j = true then .ok (.int (i ^ j.toNat)) s else .bad
  | _, _, _ => .bad
theorem pow_ok : ∀ d1 d2 s μ H v1 v2 W Q, Rel X.K μ H s → RelD X.K μ H d1 v1 → RelD X.K μ H d2 v2 → Fin X.K G μ H W (opPow d1 d2 s) (qD X.K Q) → rI (fun i j => powOk i j = true) (fun i j => .int (i ^ j.toNat)) v1 v2 H Q := by
  intro d1 d2 s μ H v1 v2 W Q r r1 r2 h
  cases d1 with
  | int i =>
    cases d2 with
    | int j =>
      dsimp only [opPow] at h
      split at h
      · rename_i hc
        rw [r1.int_, r2.int_]; exact ⟨i, j, rfl, rfl, hc, fin_ok r relInt h⟩
      · exact h.elim
    | _ => exact h.elim
  | _ => exact h.elim
def opNeg : D → S → Out D
  | .int i, s => .ok (.int (-i)) s
  | _, _ => .bad
theorem neg_ok : ∀ d1 s μ H v1 W Q, Rel X.K μ H s → RelD X.K μ H d1 v1 → Fin X.K G μ H W (opNeg d1 s) (qD X.K Q) → rU (fun i => .int (-i)) v1 H Q := by
  intro d1 s μ H v1 W Q r r1 h
  cases d1 with
  | int i => rw [r1.int_]; exact ⟨i, rfl, fin_ok r relInt h⟩
  | _ => exact h.elim

/-! ### == and != of data -/
def mapO {α β : Type} (f : α → Option β) : List α → Option (List β)
  | [] => some []
  | a :: as => match f a, mapO f as with
    | some b, some bs => some (b :: bs)
    | _, _ => none
/-- a value written out, to a depth -/
def pd (s : S) : Nat → D → Option PyData
  | _, .non => some .none
  | _, .bl b => some (.bool b)
  | _, .int i => some (.int i)
  | _, .str cs => some (.str ⟨cs.toArray⟩)
  | 0, .tup _ => none
  | 0, .ref _ => none
  | n + 1, .tup ds => (mapO (pd s n) ds).map .tuple
  | n + 1, .ref i => match getL s i with
    | some ds => (mapO (pd s n) ds).map .list
    | none => none
def PdOk (K : PySem.W.Frag) (H : Hp) (n : Nat) (v : V) (p : PyData) : Prop := Dp K H v p ∧ p.canLay0 = true ∧ p.depth ≤ n
theorem pds_ok {K : PySem.W.Frag} {μ : List Addr} {H : Hp} {s : S} {n : Nat} (ih : ∀ d v p, RelD K μ H d v → pd s n d = some p → PdOk K H n v p) :
    ∀ ds vs ps, RelDs K μ H ds vs → mapO (pd s n) ds = some ps → DpAll K H vs ps ∧ PyData.canLayAll0 ps = true ∧ PyData.depthAll ps ≤ n
  | [], vs, ps, r, e => by
    rw [r.nil_]; cases e
    exact ⟨.nil, rfl, Nat.zero_le _⟩
  | d :: ds, vs, ps, r, e => by
    obtain ⟨v, ws, rfl, r1, t⟩ := r.cons_
    unfold mapO at e
    split at e
    · rename_i p qs e1 e2
      cases e
      obtain ⟨a1, a2, a3⟩ := ih d v p r1 e1
      obtain ⟨b1, b2, b3⟩ := pds_ok ih ds ws qs t e2
      exact ⟨.cons a1 b1, by simp [PyData.canLayAll0, a2, b2], by simp only [PyData.depthAll]; omega⟩
    · cases e
theorem strOk_of {cs : List Nat} (h : okS cs = true) : PyData.strOk ⟨cs.toArray⟩ = true := by
  unfold PyData.strOk
  rw [Array.all_eq_true']
  intro c hc
  unfold okS at h
  rw [List.all_eq_true] at h
  exact h c (by simpa using hc)
theorem pd_ok {K : PySem.W.Frag} {μ : List Addr} {H : Hp} {s : S} (r : Rel K μ H s) : ∀ n d v p, RelD K μ H d v → pd s n d = some p → PdOk K H n v p := by
  have flat : ∀ n d v p, RelD K μ H d v → (∀ ds, d ≠ .tup ds) → (∀ i, d ≠ .ref i) → pd s n d = some p → PdOk K H n v p := by
    intro n d v p rv h1 h2 e
    cases d with
    | non => rw [rv.non_]; unfold pd at e; cases e; exact ⟨.non, rfl, Nat.zero_le _⟩
    | bl b => rw [rv.bl_]; unfold pd at e; cases e; exact ⟨.bl b, rfl, Nat.zero_le _⟩
    | int b => rw [rv.int_]; unfold pd at e; cases e; exact ⟨.int b, rfl, Nat.zero_le _⟩
    | str cs => rw [rv.str_]; unfold pd at e; cases e; exact ⟨.str _, by simp only [PyData.canLay0]; exact strOk_of rv.okS, Nat.zero_le _⟩
    | tup ds => exact absurd rfl (h1 ds)
    | ref i => exact absurd rfl (h2 i)
  intro n
  induction n with
  | zero =>
    intro d v p rv e
    cases d with
    | tup ds => cases e
    | ref i => cases e
    | _ => exact flat _ _ v p rv (by intro _ q; cases q) (by intro _ q; cases q) e
  | succ n ih =>
    intro d v p rv e
    cases d with
    | tup ds =>
      unfold pd at e
      obtain ⟨a, vs, rfl, q, t⟩ := rv.tup_
      cases h : mapO (pd s n) ds with
      | none => rw [h] at e; cases e
      | some ps =>
        rw [h] at e
        cases e
        obtain ⟨b1, b2, b3⟩ := pds_ok ih ds vs ps t h
        exact ⟨.tup q b1, by simpa [PyData.canLay0] using b2, by simp only [PyData.depth]; omega⟩
    | ref i =>
      unfold pd at e
      split at e
      · rename_i ds hg
        obtain ⟨a, vs, rfl, _, q, t⟩ := getL_ok r rv hg
        cases h : mapO (pd s n) ds with
        | none => rw [h] at e; cases e
        | some ps =>
          rw [h] at e
          cases e
          obtain ⟨b1, b2, b3⟩ := pds_ok ih ds vs ps t h
          exact ⟨.lst q b1, by simpa [PyData.canLay0] using b2, by simp only [PyData.depth]; omega⟩
      · cases e
    | _ => exact flat _ _ v p rv (by intro _ q; cases q) (by intro _ q; cases q) e
def eqD (s : S) (a b : D) : Option Bool := match pd s 60 a, pd s 60 b with
  | some x, some y => some (PyData.eqv x y)
  | _, _ => none
def opEq (a b : D) (s : S) : Out D := match eqD s a b with
  | some k => .ok (.bl k) s
  | none => .bad
def opNe (a b : D) (s : S) : Out D := match eqD s a b with
  | some k => .ok (.bl (!k)) s
  | none => .bad
theorem shaped_of {p : PyData} (h : p.canLay0 = true) (hd : p.depth ≤ 60) : SeqAt.shaped p = true := by
  unfold SeqAt.shaped
  rw [h, decide_eq_true (by omega)]; rfl
theorem eqD_ok {K : PySem.W.Frag} {μ : List Addr} {H : Hp} {s : S} {a b : D} {v1 v2 : V} {k : Bool} (r : Rel K μ H s) (r1 : RelD K μ H a v1) (r2 : RelD K μ H b v2) (e : eqD s a b = some k) :
    ∃ x y, Dp K H v1 x ∧ Dp K H v2 y ∧ SeqAt.shaped x = true ∧ SeqAt.shaped y = true ∧ k = PyData.eqv x y := by
  unfold eqD at e
  split at e
  · rename_i x y e1 e2
    cases e
    obtain ⟨a1, a2, a3⟩ := pd_ok r 60 a v1 x r1 e1
    obtain ⟨b1, b2, b3⟩ := pd_ok r 60 b v2 y r2 e2
    exact ⟨x, y, a1, b1, shaped_of a2 a3, shaped_of b2 b3, rfl⟩
  · cases e
theorem eq_ok : ∀ d1 d2 s μ H v1 v2 W Q, Rel X.K μ H s → RelD X.K μ H d1 v1 → RelD X.K μ H d2 v2 → Fin X.K G μ H W (opEq d1 d2 s) (qD X.K Q) → rEqD X.K v1 v2 H Q := by
  intro d1 d2 s μ H v1 v2 W Q r r1 r2 h
  unfold opEq at h
  split at h
  · rename_i k e
    obtain ⟨x, y, a, b, c, d, e'⟩ := eqD_ok r r1 r2 e
    exact ⟨x, y, a, b, c, d, by rw [← e']; exact fin_ok r relBl h⟩
  · exact h.elim
theorem ne_ok : ∀ d1 d2 s μ H v1 v2 W Q, Rel X.K μ H s → RelD X.K μ H d1 v1 → RelD X.K μ H d2 v2 → Fin X.K G μ H W (opNe d1 d2 s) (qD X.K Q) → rNeD X.K v1 v2 H Q := by
  intro d1 d2 s μ H v1 v2 W Q r r1 r2 h
  unfold opNe at h
  split at h
  · rename_i k e
    obtain ⟨x, y, a, b, c, d, e'⟩ := eqD_ok r r1 r2 e
    exact ⟨x, y, a, b, c, d, by rw [← e']; exact fin_ok r relBl h⟩
  · exact h.elim

/-! ### order of numbers, is None -/
def opI2 (p : Int → Int → Bool) : D → D → S → Out D
  | .int i, .int j, s => .ok (.bl (p i j)) s
  | _, _, _ => .bad
theorem i2_ok (p : Int → Int → Bool) : ∀ d1 d2 s μ H v1 v2 W Q, Rel X.K μ H s → RelD X.K μ H d1 v1 → RelD X.K μ H d2 v2 → Fin X.K G μ H W (opI2 p d1 d2 s) (qD X.K Q) → rI0 (fun i j => .bl (p i j)) v1 v2 H Q := by
  intro d1 d2 s μ H v1 v2 W Q r r1 r2 h
  cases d1 with
  | int i =>
    cases d2 with
    | int j => rw [r1.int_, r2.int_]; exact ⟨i, j, rfl, rfl, fin_ok r relBl h⟩
    | _ => exact h.elim
  | _ => exact h.elim
def isNon : D → Bool
  | .non => true
  | _ => false
theorem isNon_ok {K : PySem.W.Frag} {μ : List Addr} {H : Hp} {d : D} {v : V} (r : RelD K μ H d v) : decide (v = .non) = isNon d := by
  cases d with
  | non => rw [r.non_]; rfl
  | bl b => rw [r.bl_]; rfl
  | int b => rw [r.int_]; rfl
  | str b => rw [r.str_]; rfl
  | tup b => obtain ⟨_, _, rfl, _⟩ := r.tup_; rfl
  | ref b => obtain ⟨_, rfl, _⟩ := r.ref_; rfl
def opIs : D → D → S → Out D
  | d, .non, s => .ok (.bl (isNon d)) s
  | _, _, _ => .bad
def opIsNot : D → D → S → Out D
  | d, .non, s => .ok (.bl (!isNon d)) s
  | _, _, _ => .bad
theorem is_ok : ∀ d1 d2 s μ H v1 v2 W Q, Rel X.K μ H s → RelD X.K μ H d1 v1 → RelD X.K μ H d2 v2 → Fin X.K G μ H W (opIs d1 d2 s) (qD X.K Q) → (v2 = .non ∧ Q (.bl (decide (v1 = .non))) H) := by
  intro d1 d2 s μ H v1 v2 W Q r r1 r2 h
  cases d2 with
  | non => exact ⟨r2.non_, by rw [isNon_ok r1]; exact fin_ok r relBl h⟩
  | _ => exact h.elim
theorem isNot_ok : ∀ d1 d2 s μ H v1 v2 W Q, Rel X.K μ H s → RelD X.K μ H d1 v1 → RelD X.K μ H d2 v2 → Fin X.K G μ H W (opIsNot d1 d2 s) (qD X.K Q) → (v2 = .non ∧ Q (.bl (!decide (v1 = .non))) H) := by
  intro d1 d2 s μ H v1 v2 W Q r r1 r2 h
  cases d2 with
  | non => exact ⟨r2.non_, by rw [isNon_ok r1]; exact fin_ok r relBl h⟩
  | _ => exact h.elim

/-! ### in, not in -/
/-- == of flat values -/
def eqF : D → D → Bool
  | .non, .non => true
  | .bl a, .bl b => a == b
  | .bl a, .int b => (if a then 1 else 0) == b
  | .int a, .bl b => a == (if b then 1 else 0)
  | .int a, .int b => a == b
  | .str a, .str b => a == b
  | _, _ => false
def flatD : D → Bool
  | .non => true
  | .bl _ => true
  | .int _ => true
  | .str _ => true
  | _ => false
theorem str_eq (a b : List Nat) : ((Str.mk a.toArray) == (Str.mk b.toArray)) = (a == b) := by
  rw [Bool.eq_iff_iff]
  simp
theorem flat_ok {K : PySem.W.Frag} {μ : List Addr} {H : Hp} {d : D} {v : V} (r : RelD K μ H d v) (h : flatD d = true) : flatV v = true := by
  cases d with
  | non => rw [r.non_]; rfl
  | bl b => rw [r.bl_]; rfl
  | int b => rw [r.int_]; rfl
  | str b => rw [r.str_]; rfl
  | tup b => cases h
  | ref b => cases h
theorem eqF_ok {K : PySem.W.Frag} {μ : List Addr} {H : Hp} {d e : D} {v u : V} (r : RelD K μ H d v) (q : RelD K μ H e u) (h : flatD d = true) (h' : flatD e = true) : eqV v u = eqF d e := by
  cases d with
  | non =>
    rw [r.non_]
    cases e with
    | non => rw [q.non_]; rfl
    | bl b => rw [q.bl_]; rfl
    | int b => rw [q.int_]; rfl
    | str b => rw [q.str_]; rfl
    | tup b => cases h'
    | ref b => cases h'
  | bl a =>
    rw [r.bl_]
    cases e with
    | non => rw [q.non_]; rfl
    | bl b => rw [q.bl_]; rfl
    | int b => rw [q.int_]; rfl
    | str b => rw [q.str_]; rfl
    | tup b => cases h'
    | ref b => cases h'
  | int a =>
    rw [r.int_]
    cases e with
    | non => rw [q.non_]; rfl
    | bl b => rw [q.bl_]; rfl
    | int b => rw [q.int_]; rfl
    | str b => rw [q.str_]; rfl
    | tup b => cases h'
    | ref b => cases h'
  | str a =>
    rw [r.str_]
    cases e with
    | non => rw [q.non_]; rfl
    | bl b => rw [q.bl_]; rfl
    | int b => rw [q.int_]; rfl
    | str b => rw [q.str_]; exact str_eq a b
    | tup b => cases h'
    | ref b => cases h'
  | tup b => cases h
  | ref b => cases h
def inF (d : D) (ds : List D) : Bool := ds.any fun e => eqF e d
theorem inF_ok {K : PySem.W.Frag} {μ : List Addr} {H : Hp} {d : D} {v : V} (r : RelD K μ H d v) (h : flatD d = true) : ∀ {ds : List D} {vs : List V}, RelDs K μ H ds vs → ds.all flatD = true → inV v vs = inF d ds ∧ vs.all flatV = true
  | [], vs, q, _ => by rw [q.nil_]; exact ⟨rfl, rfl⟩
  | e :: ds, vs, q, f => by
    obtain ⟨u, us, rfl, q1, t⟩ := q.cons_
    rw [List.all_cons, Bool.and_eq_true] at f
    obtain ⟨a, b⟩ := inF_ok r h t f.2
    refine ⟨?_, ?_⟩
    · unfold inV inF at *
      rw [List.any_cons, List.any_cons, a, eqF_ok q1 r f.1 h]
    · rw [List.all_cons, flat_ok q1 f.1, b]; rfl
def strIn (a b : List Nat) : Bool := !(Builtin.Str.occurrences ⟨b.toArray⟩ ⟨a.toArray⟩ 0 (Str.mk b.toArray).length 1).isEmpty
/-- the items of a list or a tuple -/
def itemsOf (s : S) : D → Option (List D)
  | .tup ds => some ds
  | .ref i => getL s i
  | _ => none
def inD (s : S) (a b : D) : Option Bool := match b with
  | .str y => match a with
    | .str x => some (strIn x y)
    | _ => none
  | _ => match itemsOf s b with
    | some ds => if flatD a = true ∧ ds.all flatD = true then some (inF a ds) else match b, pd s 60 a, pd s 60 b with
      | .ref _, some x, some (.list ys) => some (ys.any fun z => PyData.eqv z x)
      | _, _, _ => none
    | none => none
def opIn (a b : D) (s : S) : Out D := match inD s a b with
  | some k => .ok (.bl k) s
  | none => .bad
def opNotIn (a b : D) (s : S) : Out D := match inD s a b with
  | some k => .ok (.bl (!k)) s
  | none => .bad
abbrev rInA (X : Cx) : R2 := fun x y H Q => (∃ i j, x = .str i ∧ y = .str j ∧ Q (.bl (!(Builtin.Str.occurrences j i 0 j.length 1).isEmpty)) H) ∨ (rIn X.K false x y H Q ∨ rInD X.K x y H Q)
abbrev rNotInA (X : Cx) : R2 := fun x y H Q => (∃ i j, x = .str i ∧ y = .str j ∧ Q (.bl (!(!(Builtin.Str.occurrences j i 0 j.length 1).isEmpty))) H) ∨ (rIn X.K true x y H Q ∨ rNotInD X.K x y H Q)
theorem op_inA (hu : X.A.units + 65 < cLine) : OpR X (compareOp .In) (rInA X) := op_in_str.or (op_in_seq.or (op_inD hu))
theorem op_notInA (hu : X.A.units + 65 < cLine) : OpR X (compareOp .NotIn) (rNotInA X) := op_notIn_str.or (op_notIn_seq.or (op_notInD hu))
/-- what an answer of in rests on -/
theorem inD_ok {K : PySem.W.Frag} {μ : List Addr} {H : Hp} {s : S} {a b : D} {v1 v2 : V} {k : Bool} (r : Rel K μ H s) (r1 : RelD K μ H a v1) (r2 : RelD K μ H b v2) (e : inD s a b = some k) :
    (∃ i j, v1 = .str i ∧ v2 = .str j ∧ k = !(Builtin.Str.occurrences j i 0 j.length 1).isEmpty) ∨
    (∃ p xs, v2 = .ref p ∧ (SqL K H p xs ∨ SqT K H p xs) ∧ flatV v1 = true ∧ xs.all flatV = true ∧ k = inV v1 xs) ∨
    (∃ d ds, Dp K H v1 d ∧ Dp K H v2 (.list ds) ∧ SeqAt.shaped d = true ∧ SeqAt.shaped (.list ds) = true ∧ k = ds.any fun z => PyData.eqv z d) := by
  unfold inD at e
  split at e
  · rename_i y
    split at e
    · rename_i x
      exact .inl ⟨_, _, r1.str_, r2.str_, (Option.some.inj e).symm⟩
    · cases e
  · split at e
    · rename_i ds hi
      split at e
      · rename_i hf
        refine .inr (.inl ?_)
        cases b with
        | tup es =>
          cases hi
          obtain ⟨p, xs, rfl, q, t⟩ := r2.tup_
          obtain ⟨h1, h2⟩ := inF_ok r1 hf.1 t hf.2
          exact ⟨p, xs, rfl, .inr q, flat_ok r1 hf.1, h2, by rw [h1]; exact (Option.some.inj e).symm⟩
        | ref i =>
          obtain ⟨p, xs, rfl, _, q, t⟩ := getL_ok r r2 hi
          obtain ⟨h1, h2⟩ := inF_ok r1 hf.1 t hf.2
          exact ⟨p, xs, rfl, .inl q, flat_ok r1 hf.1, h2, by rw [h1]; exact (Option.some.inj e).symm⟩
        | _ => cases hi
      · split at e
        · rename_i i x ys e1 _ e2
          refine .inr (.inr ?_)
          obtain ⟨a1, a2, a3⟩ := pd_ok r 60 a v1 _ r1 e1
          obtain ⟨b1, b2, b3⟩ := pd_ok r 60 _ v2 _ r2 e2
          exact ⟨_, _, a1, b1, shaped_of a2 a3, shaped_of b2 b3, (Option.some.inj e).symm⟩
        · cases e
    · cases e
theorem in_ok : ∀ d1 d2 s μ H v1 v2 W Q, Rel X.K μ H s → RelD X.K μ H d1 v1 → RelD X.K μ H d2 v2 → Fin X.K G μ H W (opIn d1 d2 s) (qD X.K Q) → rInA X v1 v2 H Q := by
  intro d1 d2 s μ H v1 v2 W Q r r1 r2 h
  unfold opIn at h
  split at h
  · rename_i k e
    have q := fin_ok r relBl h
    rcases inD_ok r r1 r2 e with ⟨i, j, a, b, rfl⟩ | ⟨p, xs, a, b, c, d, rfl⟩ | ⟨x, ys, a, b, c, d, rfl⟩
    · exact .inl ⟨i, j, a, b, q⟩
    · exact .inr (.inl ⟨p, xs, a, b, c, d, q⟩)
    · exact .inr (.inr ⟨x, ys, a, b, c, d, q⟩)
  · exact h.elim
theorem notIn_ok : ∀ d1 d2 s μ H v1 v2 W Q, Rel X.K μ H s → RelD X.K μ H d1 v1 → RelD X.K μ H d2 v2 → Fin X.K G μ H W (opNotIn d1 d2 s) (qD X.K Q) → rNotInA X v1 v2 H Q := by
  intro d1 d2 s μ H v1 v2 W Q r r1 r2 h
  unfold opNotIn at h
  split at h
  · rename_i k e
    have q := fin_ok r relBl h
    rcases inD_ok r r1 r2 e with ⟨i, j, a, b, rfl⟩ | ⟨p, xs, a, b, c, d, rfl⟩ | ⟨x, ys, a, b, c, d, rfl⟩
    · exact .inl ⟨i, j, a, b, q⟩
    · exact .inr (.inl ⟨p, xs, a, b, c, d, q⟩)
    · exact .inr (.inr ⟨x, ys, a, b, c, d, q⟩)
  · exact h.elim
end
end Fe

set_option maxHeartbeats 2000000
/-! Fe 4: chains, places, slices, calls of builtins and of their methods. -/
namespace Fe
open PySem PySem.Spec PyProof.Rows L2

section
variable {X : Cx} {G : Gc} {W : WX} {a b c e : Expr} {f g h : Env → S → Out D} {pos : Pos}
/-- an operation by values -/
def Hk (X : Cx) (G : Gc) (r : R2) (k : D → D → S → Out D) : Prop := ∀ d1 d2 s μ H v1 v2 W Q, Rel X.K μ H s → RelD X.K μ H d1 v1 → RelD X.K μ H d2 v2 → Fin X.K G μ H W (k d1 d2 s) (qD X.K Q) → r v1 v2 H Q
theorem de_chain {op op' : CmpOp} {r r' : R2} {k k' : D → D → S → Out D} (ho : OpR X (compareOp op) r) (ho' : OpR X (compareOp op') r') (ha : DE X G W a f) (hb : DE X G W b g) (hc : DE X G W c h) (hm : lastMarks [op, op'] [b, c] = false)
    (hk : Hk X G r k) (hk' : Hk X G r' k') : DE X G W (.Compare a [op, op'] [b, c] pos) (fun ρ s => (f ρ s).bind fun x s => (g ρ s).bind fun y s => (asB (k x y s)).bind fun q s => if q = true then (h ρ s).bind fun z s => k' y z s else .ok (.bl false) s) :=
  pe_imp (pe_chain ho ho' ha hb hc hm) fun σ H Q ⟨μ, ρ, s, rr, re, hh⟩ => d1 rr re hh fun x s1 μ1 H1 v1 x1 r1 re1 rv1 h1 => d1 r1 re1 h1 fun y s2 μ2 H2 v2 x2 r2 re2 rv2 h2 => by
    refine hk x y s2 μ2 H2 v1 v2 (fun c d H' => W c d σ H') _ r2 (rv1.mono x2) rv2 ?_
    unfold asB at h2
    refine h2.bind.bind.imp fun d s3 μ3 H3 x3 r3 h3 v rv => ?_
    cases d with
    | bl q =>
      refine ⟨q, rv.bl_, ?_⟩
      have h4 := h3.ok_ r3
      cases q with
      | true => exact d1 r3 (re2.mono x3) h4 fun z s5 μ5 H5 v5 x5 r5 re5 rv5 h5 => hk' y z s5 μ5 H5 v2 v5 _ Q r5 ((rv2.mono x3).mono x5) rv5 h5
      | false => exact fin_ok r3 relBl h4
    | _ => exact h3.elim
theorem dt_chain {op op' : CmpOp} {r r' : R2} {k k' : D → D → S → Out D} (ho : OpR X (compareOp op) r) (ho' : OpR X (compareOp op') r') (ha : DE X G W a f) (hb : DE X G W b g) (hc : DE X G W c h) (hm : lastMarks [op, op'] [b, c] = false)
    (hk : Hk X G r k) (hk' : Hk X G r' k') : DT X G W (.Compare a [op, op'] [b, c] pos) (fun ρ s => (f ρ s).bind fun x s => (g ρ s).bind fun y s => (asB (k x y s)).bind fun q s => if q = true then (h ρ s).bind fun z s => asB (k' y z s) else .ok false s) :=
  pt_imp (pt_chain ho ho' ha hb hc hm) fun σ H Q ⟨μ, ρ, s, rr, re, hh⟩ => d1B rr re hh fun x s1 μ1 H1 v1 x1 r1 re1 rv1 h1 => d1B r1 re1 h1 fun y s2 μ2 H2 v2 x2 r2 re2 rv2 h2 => by
    refine hk x y s2 μ2 H2 v1 v2 (fun c d H' => W c d σ H') _ r2 (rv1.mono x2) rv2 ?_
    unfold asB at h2
    refine h2.bind.bind.imp fun d s3 μ3 H3 x3 r3 h3 v rv => ?_
    cases d with
    | bl q =>
      refine ⟨q, rv.bl_, ?_⟩
      have h4 := h3.ok_ r3
      cases q with
      | true => exact d1B r3 (re2.mono x3) h4 fun z s5 μ5 H5 v5 x5 r5 re5 rv5 h5 => hk' y z s5 μ5 H5 v2 v5 _ _ r5 ((rv2.mono x3).mono x5) rv5 (fin_asB h5)
      | false => exact ⟨false, rfl, Fin.ok_ r3 h4⟩
    | _ => exact h3.elim

/-! ### places -/
def notSlice : Expr → Bool
  | .Slice _ _ _ _ => false
  | _ => true
theorem plain_ix : ∀ {b : Expr}, notSlice b = true → PlainIx b
  | .Slice .., h => by cases h
  | .BoolOp .., _ => fun _ _ => rfl
  | .NamedExpr .., _ => fun _ _ => rfl
  | .BinOp .., _ => fun _ _ => rfl
  | .UnaryOp .., _ => fun _ _ => rfl
  | .Lambda .., _ => fun _ _ => rfl
  | .IfExp .., _ => fun _ _ => rfl
  | .Dict .., _ => fun _ _ => rfl
  | .Set .., _ => fun _ _ => rfl
  | .ListComp .., _ => fun _ _ => rfl
  | .SetComp .., _ => fun _ _ => rfl
  | .DictComp .., _ => fun _ _ => rfl
  | .GeneratorExp .., _ => fun _ _ => rfl
  | .Await .., _ => fun _ _ => rfl
  | .Yield .., _ => fun _ _ => rfl
  | .YieldFrom .., _ => fun _ _ => rfl
  | .Compare .., _ => fun _ _ => rfl
  | .Call .., _ => fun _ _ => rfl
  | .FormattedValue .., _ => fun _ _ => rfl
  | .JoinedStr .., _ => fun _ _ => rfl
  | .Constant .., _ => fun _ _ => rfl
  | .Attribute .., _ => fun _ _ => rfl
  | .Subscript .., _ => fun _ _ => rfl
  | .Starred .., _ => fun _ _ => rfl
  | .Name .., _ => fun _ _ => rfl
  | .List .., _ => fun _ _ => rfl
  | .Tuple .., _ => fun _ _ => rfl
def opIx : D → D → S → Out D
  | .tup ds, .int i, s => match atI ds i with
    | some d => .ok d s
    | none => .bad
  | .str cs, .int i, s => match atI cs i with
    | some c => if cs.length ≤ line then .ok (.str [c]) s else .bad
    | none => .bad
  | .ref r, .int i, s => match getL s r with
    | some ds => match atI ds i with
      | some d => .ok d s
      | none => .bad
    | none => .bad
  | _, _, _ => .bad
theorem atI_rel {K : PySem.W.Frag} {μ : List Addr} {H : Hp} {ds : List D} {vs : List V} {i : Int} {d : D} (r : RelDs K μ H ds vs) (e : atI ds i = some d) : ∃ v, atI vs i = some v ∧ RelD K μ H d v := by
  unfold atI at e ⊢
  rw [r.length]
  cases h : ixN ds.length i with
  | none => rw [h] at e; cases e
  | some j =>
    rw [h] at e
    obtain ⟨v, h1, h2⟩ := r.get e
    exact ⟨v, h1, h2⟩
theorem ix_ok : Hk X G (rIx X.K) opIx := by
  intro d1 d2 s μ H v1 v2 W Q r r1 r2 h
  cases d1 with
  | tup ds =>
    cases d2 with
    | int i =>
      dsimp only [opIx] at h
      split at h
      · rename_i d e
        obtain ⟨p, vs, rfl, q, t⟩ := r1.tup_
        obtain ⟨v, e', rv⟩ := atI_rel t e
        exact .inr (.inl ⟨p, vs, i, v, rfl, r2.int_, q, e', fin_ok r rv h⟩)
      · exact h.elim
    | _ => exact h.elim
  | str cs =>
    cases d2 with
    | int i =>
      dsimp only [opIx] at h
      split at h
      · rename_i ch e
        split at h
        · rename_i hl
          have hc : ch ∈ cs := by
            obtain ⟨j, _, e2, _⟩ := atI_get e
            exact List.mem_of_getElem? e2
          refine .inr (.inr ⟨_, i, ch, r1.str_, r2.int_, by rw [← line_eq]; simpa [Str.length] using hl, by simpa using e, ?_⟩)
          exact fin_ok r (relStr (okS_sub (fun x hx => by rw [List.mem_singleton.mp hx]; exact hc) r1.okS)) h
        · exact h.elim
      · exact h.elim
    | _ => exact h.elim
  | ref i =>
    cases d2 with
    | int j =>
      dsimp only [opIx] at h
      split at h
      · rename_i ds e0
        split at h
        · rename_i d e
          obtain ⟨p, vs, rfl, _, q, t⟩ := getL_ok r r1 e0
          obtain ⟨v, e', rv⟩ := atI_rel t e
          exact .inl ⟨p, vs, j, v, rfl, r2.int_, q, e', fin_ok r rv h⟩
        · exact h.elim
      · exact h.elim
    | _ => exact h.elim
  | _ => exact h.elim
theorem de_ix (ha : DE X G W a f) (hb : DE X G W b g) (hs : notSlice b = true) : DE X G W (.Subscript a b pos) (fun ρ s => (f ρ s).bind fun x s => (g ρ s).bind fun y s => opIx x y s) :=
  pe_imp (pe_ix ix_seq ha hb (plain_ix hs)) fun σ H Q ⟨μ, ρ, s, rr, re, h⟩ => d1 rr re h fun x s1 μ1 H1 v1 x1 r1 re1 rv1 h1 => d1 r1 re1 h1 fun y s2 μ2 H2 v2 x2 r2 re2 rv2 h2 =>
    ix_ok x y s2 μ2 H2 v1 v2 _ Q r2 (rv1.mono x2) rv2 h2

/-! ### slices -/
def asI (o : Out D) : Out (Option Int) := o.bind fun d s => match d with
  | .int i => .ok (some i) s
  | _ => .bad
theorem do_none : DO X G W none (fun _ s => .ok none s) := po_imp po_none fun σ H Q ⟨μ, ρ, s, r, re, h⟩ => h.ok_ r
theorem do_some (he : DE X G W e f) : DO X G W (some e) (fun ρ s => asI (f ρ s)) := po_imp (po_some he) fun σ H Q ⟨μ, ρ, s, r, re, h⟩ => by
  unfold asI at h
  refine ⟨μ, ρ, s, r, re, h.bind.imp fun d s1 μ1 H1 x1 r1 h1 v rv => ?_⟩
  cases d with
  | int i => exact ⟨i, rv.int_, Fin.ok_ r1 h1⟩
  | _ => exact h1.elim
/-- a part of a list -/
def cut {α : Type} (xs : List α) (lo hi : Option Int) : List α := (xs.drop (HT.sIx xs.length 0 lo)).take (HT.sIx xs.length xs.length hi - HT.sIx xs.length 0 lo)
def opSl (d : D) (lo hi : Option Int) (s : S) : Out D := match d with
  | .tup ds => .ok (.tup (cut ds lo hi)) s
  | .str cs => if cs.length ≤ line then .ok (.str (cut cs lo hi)) s else .bad
  | .ref i => match getL s i with
    | some ds => .ok (.ref s.length) (s ++ [.lst (cut ds lo hi)])
    | none => .bad
  | _ => .bad
theorem cut_rel {K : PySem.W.Frag} {μ : List Addr} {H : Hp} {ds : List D} {vs : List V} {lo hi : Option Int} (r : RelDs K μ H ds vs) : RelDs K μ H (cut ds lo hi) (cutV vs lo hi) := by
  unfold cut cutV
  rw [r.length]
  exact (r.drop _).take _
theorem cut_str (cs : List Nat) (lo hi : Option Int) : cutS ⟨cs.toArray⟩ lo hi = ⟨(cut cs lo hi).toArray⟩ := by
  unfold cutS cut
  simp [Str.length]
theorem cut_mem {α : Type} {xs : List α} {lo hi : Option Int} {x : α} (h : x ∈ cut xs lo hi) : x ∈ xs := List.mem_of_mem_drop (List.mem_of_mem_take h)
abbrev rSlAll (X : Cx) : V → Option Int → Option Int → Hp → VK → Prop := fun x lo hi H Q => rSlL X.K x lo hi H Q ∨ (rSlA X.K x lo hi H Q ∨ rSlS x lo hi H Q)
theorem sl_all : SlR X (rSlAll X) := sl_list.or (sl_tupA.or sl_str)
theorem cut_whole {α : Type} {xs : List α} {lo hi : Option Int} (h : HT.sIx xs.length 0 lo = 0 ∧ HT.sIx xs.length xs.length hi = xs.length) : cut xs lo hi = xs := by
  unfold cut
  rw [h.1, h.2]; simp
theorem sl_ok : ∀ d lo hi s μ H v W Q, Rel X.K μ H s → RelD X.K μ H d v → Fin X.K G μ H W (opSl d lo hi s) (qD X.K Q) → rSlAll X v lo hi H Q := by
  intro d lo hi s μ H v W Q r rv h
  cases d with
  | tup ds =>
    obtain ⟨p, vs, rfl, q, t⟩ := rv.tup_
    refine .inr (.inl ⟨p, vs, rfl, q, fun hw => ?_, fun hw n hn => tup_fin r (cut_rel t) h hn⟩)
    rw [t.length] at hw
    have h' : Fin X.K G μ H W (.ok (.tup (cut ds lo hi)) s) (qD X.K Q) := h
    rw [cut_whole hw] at h'
    exact fin_ok r rv h'
  | str cs =>
    dsimp only [opSl] at h
    split at h
    · rename_i hl
      refine .inr (.inr ⟨_, rv.str_, by rw [← line_eq]; simpa [Str.length] using hl, ?_⟩)
      rw [cut_str]
      exact fin_ok r (relStr (okS_sub (fun x hx => cut_mem hx) rv.okS)) h
    · exact h.elim
  | ref i =>
    dsimp only [opSl] at h
    split at h
    · rename_i ds e
      obtain ⟨p, vs, rfl, _, q, t⟩ := getL_ok r rv e
      exact .inl ⟨p, vs, rfl, q, fun n hn => lst_fin r (cut_rel t) h hn⟩
    · exact h.elim
  | _ => exact h.elim
theorem de_sl {lo hi : Option Expr} {l u : Env → S → Out (Option Int)} {p2 : Pos} (ha : DE X G W a f) (hl : DO X G W lo l) (hu : DO X G W hi u) :
    DE X G W (.Subscript a (.Slice lo hi none p2) pos) (fun ρ s => (f ρ s).bind fun x s => (l ρ s).bind fun i s => (u ρ s).bind fun j s => opSl x i j s) :=
  pe_imp (pe_slice sl_all ha hl hu) fun σ H Q ⟨μ, ρ, s, rr, re, h⟩ => d1 rr re h fun x s1 μ1 H1 v1 x1 r1 re1 rv1 h1 =>
    ⟨μ1, ρ, s1, r1, re1, h1.bind.imp fun i s2 μ2 H2 x2 r2 h2 => ⟨μ2, ρ, s2, r2, re1.mono x2, h2.bind.imp fun j s3 μ3 H3 x3 r3 h3 => sl_ok x i j s3 μ3 H3 v1 _ Q r3 ((rv1.mono x2).mono x3) h3⟩⟩
/-- a[::-1] of a list -/
def opRev : D → S → Out D
  | .ref i, s => match getL s i with
    | some ds => .ok (.ref s.length) (s ++ [.lst ds.reverse])
    | none => .bad
  | _, _ => .bad

/-! ### builtins called -/
def HkC (X : Cx) (G : Gc) (r : List V → Hp → VK → Prop) (k : List D → S → Out D) : Prop := ∀ ds s μ H vs W Q, Rel X.K μ H s → RelDs X.K μ H ds vs → Fin X.K G μ H W (k ds s) (qD X.K Q) → r vs H Q
section
variable {es : List Expr} {fs : Env → S → Out (List D)} {x : Str} {p : Pos} {id T : String} {r : List V → Hp → VK → Prop} {k : List D → S → Out D}
theorem de_bi (hc : CallR X (.builtin id) r) (hk : HkC X G r k) (hg : Gl X x) (hm : X.mg x = none) (hv : bootBuiltins x = some (.builtin id)) (ha : DA X G W (e :: es) fs) (hn : x ≠ "__name__") (hdb : (x == ("__debug__" : Str)) = false)
    (hs : notStar e = true) (hss : es.all notStar = true) : DE X G W (.Call (.Name x p) (e :: es) [] pos) (fun ρ s => (fs ρ s).bind k) :=
  pe_imp (pe_callB hc hg hm hv ha hn hdb (star_ns hs) (star_any hss)) fun σ H Q ⟨μ, ρ, s, rr, re, h⟩ => dA1 rr re h fun ds s1 μ1 H1 vs x1 r1 re1 rv1 h1 => hk ds s1 μ1 H1 vs _ Q r1 rv1 h1
theorem de_ty (hc : CallR X (.type T) r) (hk : HkC X G r k) (hg : Gl X x) (hm : X.mg x = none) (hv : bootBuiltins x = some (.type T)) (ha : DA X G W (e :: es) fs) (hn : x ≠ "__name__") (hdb : (x == ("__debug__" : Str)) = false)
    (hs : notStar e = true) (hss : es.all notStar = true) : DE X G W (.Call (.Name x p) (e :: es) [] pos) (fun ρ s => (fs ρ s).bind k) :=
  pe_imp (pe_callTy hc hg hm hv ha hn hdb (star_ns hs) (star_any hss)) fun σ H Q ⟨μ, ρ, s, rr, re, h⟩ => dA1 rr re h fun ds s1 μ1 H1 vs x1 r1 re1 rv1 h1 => hk ds s1 μ1 H1 vs _ Q r1 rv1 h1
end
end
end Fe

set_option maxHeartbeats 2000000
/-! Fe 5: own defs: what they promise, how they are called. -/
namespace Fe
open PySem PySem.Spec PyProof.Rows L2

/-- a def at f does what F does, on every stack with room for k calls and no text being written -/
def spF (K : PySem.W.Frag) (G : Gc) (n : Nat) (F : List D → S → Out D) : Sp := fun vs H Q E => vs.length = n ∧ ∃ μ s ds, Rel K μ H s ∧ RelDs K μ H ds vs ∧ Fin K G μ H E (F ds s) (qD K Q)
structure FnG (P : Program) (w : World) (K : PySem.W.Frag) (mg : Str → Option Value) (base : Heap) (G : Gc) (k : Nat) (f : Addr) (fd : FuncData) (ps : List Str) (F : List D → S → Out D) : Prop where
  run : ∀ (A : Around) (outer : List PySem.Env) (s : Shared) (H : Hp) (args : Args) (us : List Value) (vs : List V) (Q : VK) (E : XK), Room k A → A.guards = some [] → Env0 P w K mg base A outer s H → BindsTo s fd args (ps.zip us) → Vals vs us →
    spF K G ps.length F vs H Q E → codeAny (model P w) A (.call (.ref f) args) (CR (L2.CX P w) outer P w H s Q E) s
theorem FnG.mono {P : Program} {w : World} {K : PySem.W.Frag} {mg : Str → Option Value} {base : Heap} {G : Gc} {j k : Nat} {f : Addr} {fd : FuncData} {ps : List Str} {F : List D → S → Out D} (h : FnG P w K mg base G j f fd ps F) (hk : j ≤ k) : FnG P w K mg base G k f fd ps F :=
  ⟨fun A outer s H args us vs Q E hr => h.run A outer s H args us vs Q E (hr.mono hk)⟩
/-- a weaker promise -/
def Le {α : Type} (F F' : List D → S → Out α) : Prop := ∀ ds s, F ds s ≠ .bad → F' ds s = F ds s
theorem spF_le {K : PySem.W.Frag} {G : Gc} {n : Nat} {F F' : List D → S → Out D} (h : Le F F') {vs : List V} {H : Hp} {Q : VK} {E : XK} (q : spF K G n F vs H Q E) : spF K G n F' vs H Q E := by
  obtain ⟨l, μ, s, ds, r, rv, x⟩ := q
  refine ⟨l, μ, s, ds, r, rv, ?_⟩
  rw [h ds s (fun e => by rw [e] at x; exact x)]
  exact x
theorem FnG.le {P : Program} {w : World} {K : PySem.W.Frag} {mg : Str → Option Value} {base : Heap} {G : Gc} {k : Nat} {f : Addr} {fd : FuncData} {ps : List Str} {F F' : List D → S → Out D} (h : FnG P w K mg base G k f fd ps F') (l : Le F F') : FnG P w K mg base G k f fd ps F :=
  ⟨fun A outer s H args us vs Q E hr hg e0 hb r q => h.run A outer s H args us vs Q E hr hg e0 hb r (spF_le l q)⟩

section
variable {X : Cx} {G : Gc} {W : WX} {k : Nat} {f : Addr} {fd : FuncData} {ps : List Str} {x : Str} {p pos : Pos} {e : Expr} {es : List Expr} {F : List D → S → Out D} {fs : Env → S → Out (List D)}
theorem run_fnG {pins : List (Addr × Obj)} {σ : L2.St} {H : Hp} {s : Shared} {Q : VK} {us : List Value} {vs : List V} (hF : FnG X.prog X.w X.K X.mg X.base G k f fd ps F) (hr : Room k X.A) (hg : X.A.guards = some []) (hb : Binds X.K fd ps []) (tk : Takes X W)
    (I : Inv X pins σ H s) (r : Vals vs us) (h : spF X.K G ps.length F vs H Q (fun c d H' => W c d σ H')) : wpAny (model X.prog X.w) X.A (call (.ref f) us) (EP X pins σ Q) X.xe s := by
  have hl : us.length = ps.length := by rw [← r.length]; exact h.1
  have b := hb s us I.kIn (by rw [List.append_nil]; exact hl)
  rw [List.append_nil] at b
  refine wpAny_call (codeAny_mono (hF.run X.A X.stack s H ⟨us, []⟩ us vs Q _ hr hg I.env0 b r h) fun r s' hq => ?_)
  cases r with
  | error e => exact passAt tk σ pins H s e s' I hq
  | ok fl =>
    cases fl with
    | ret u => exact I.after hq
    | next => exact False.elim hq
    | brk => exact False.elim hq
    | cont => exact False.elim hq
theorem spF_of {K : PySem.W.Frag} {μ : List Addr} {H : Hp} {s : S} {ds : List D} {vs : List V} {E : XK} {Q : VK} {n : Nat} (r : Rel K μ H s) (rv : RelDs K μ H ds vs) (hn : ∀ ds s, F ds s ≠ .bad → ds.length = n) (h : Fin K G μ H E (F ds s) (qD K Q)) : spF K G n F vs H Q E :=
  ⟨by rw [rv.length]; exact hn ds s (fun q => by rw [q] at h; exact h), μ, s, ds, r, rv, h⟩
/-- f(e, ..) -/
theorem de_call (hF : FnG X.prog X.w X.K X.mg X.base G k f fd ps F) (hn : ∀ ds s, F ds s ≠ .bad → ds.length = ps.length) (hr : Room k X.A) (hgd : X.A.guards = some []) (hg : Gl X x) (hm : X.mg x = some (.ref f)) (hk : PySem.W.keepIn X.K (.ref f) = true) (hb : Binds X.K fd ps []) (tk : Takes X W)
    (ha : DA X G W (e :: es) fs) (hdb : (x == ("__debug__" : Str)) = false) (hs : notStar e = true) (hss : es.all notStar = true) : DE X G W (.Call (.Name x p) (e :: es) [] pos) (fun ρ s => (fs ρ s).bind F) := by
  refine ⟨fun pins s0 σ H Q I hh => ?_⟩
  obtain ⟨μ, ρ, s, r, re, h⟩ := hh
  refine wpAny_Call_Name_kw (ld_glob I hg hm ?_ hdb)
  have ta : tA X.K G W fs σ H (fun vs H1 => spF X.K G ps.length F vs H1 Q (fun c d H' => W c d σ H')) := dA1 r re h fun ds s1 μ1 H1 vs x1 r1 re1 rv1 h1 => spF_of r1 rv1 hn h1
  refine PySem.W.callWith_K (h₀ := X.base) I.ok.mod.kin hk (thn (ha.run pos pins s0 σ H _ I ta) fun us s1 ⟨vs, H1, I1, r1, q⟩ => ⟨I1.kIn, ?_⟩) (star_ns hs) (star_any hss)
  exact run_fnG hF hr hgd hb tk I1 r1 q
/-- f() -/
theorem de_call0 (hF : FnG X.prog X.w X.K X.mg X.base G k f fd ps F) (hn : ∀ ds s, F ds s ≠ .bad → ds.length = ps.length) (hr : Room k X.A) (hgd : X.A.guards = some []) (hg : Gl X x) (hm : X.mg x = some (.ref f)) (hk : PySem.W.keepIn X.K (.ref f) = true) (hb : Binds X.K fd ps []) (tk : Takes X W)
    (hdb : (x == ("__debug__" : Str)) = false) : DE X G W (.Call (.Name x p) [] [] pos) (fun _ s => F [] s) := by
  refine ⟨fun pins s0 σ H Q I hh => ?_⟩
  obtain ⟨μ, ρ, s, r, re, h⟩ := hh
  refine wpAny_Call_Name_kw (ld_glob I hg hm ?_ hdb)
  exact PySem.W.callWith_K0 I.kIn hk (run_fnG (us := []) hF hr hgd hb tk I .nil (spF_of r relNil hn h))
end

/-! ### what a def hands back: its own litter is forgotten -/
/-- the store behind a call: where the answer and what changed hold no place, all that is new is let go -/
def sameOr (s s' : S) : Bool := (List.range s.length).all fun i => decide (s'[i]? = s[i]?) || (match s'[i]? with | some o => o.flat | none => false)
def trim (s : S) (d : D) (s' : S) : D × S :=
  if d.flat && (decide (s.length ≤ s'.length) && sameOr s s') then (d, s'.take s.length)
  else match d with
    | .ref j => if decide (s.length ≤ j) && (decide (s.length ≤ s'.length) && sameOr s s') then (match s'[j]? with
        | some o => if o.flat then (.ref s.length, s'.take s.length ++ [o]) else (d, s')
        | none => (d, s'))
      else (d, s')
    | _ => (d, s')
def trimO (s : S) : Out D → Out D
  | .ok d s' => .ok (trim s d s').1 (trim s d s').2
  | .exc x s' => if D.flats x.ds && (decide (s.length ≤ s'.length) && sameOr s s') then .exc x (s'.take s.length) else .exc x s'
  | .bad => .bad
section
variable {K : PySem.W.Frag} {G : Gc} {μ μ' : List Addr} {H H' : Hp} {s s' : S}
/-! a value without places leans on tuples alone -/
mutual
theorem RelD.flat_ : ∀ {d : D} {v : V}, RelD K μ H d v → d.flat = true → RelD K μ' H d v
  | .non, _, h, _ => by rw [RelD] at h ⊢; exact h
  | .bl _, _, h, _ => by rw [RelD] at h ⊢; exact h
  | .int _, _, h, _ => by rw [RelD] at h ⊢; exact h
  | .str _, _, h, _ => by rw [RelD] at h ⊢; exact h
  | .tup ds, v, h, f => by
    rw [RelD] at h ⊢
    obtain ⟨a, vs, e, q, r⟩ := h
    exact ⟨a, vs, e, q, RelDs.flat_ r (by simpa [D.flat] using f)⟩
  | .ref i, v, h, f => by simp [D.flat] at f
theorem RelDs.flat_ : ∀ {ds : List D} {vs : List V}, RelDs K μ H ds vs → D.flats ds = true → RelDs K μ' H ds vs
  | [], _, h, _ => by rw [RelDs] at h ⊢; exact h
  | d :: ds, vs, h, f => by
    rw [RelDs] at h ⊢
    have f' : d.flat = true ∧ D.flats ds = true := by simpa [D.flats] using f
    obtain ⟨v, ws, e, r, t⟩ := h
    exact ⟨v, ws, e, RelD.flat_ r f'.1, RelDs.flat_ t f'.2⟩
end
theorem RelKV.flat_ : ∀ {ps : List (D × D)} {kvs : List (Key × V)}, RelKV K μ H ps kvs → D.flats (ps.map (·.2)) = true → RelKV K μ' H ps kvs
  | [], _, h, _ => h
  | p :: ps, kvs, h, f => by
    obtain ⟨k, v, r, e, q, t, u⟩ := h
    have f' : p.2.flat = true ∧ D.flats (ps.map (·.2)) = true := by simpa [D.flats] using f
    exact ⟨k, v, r, e, q, t.flat_ f'.1, RelKV.flat_ u f'.2⟩
theorem RelO'.flat_ {o : O} {a : Addr} (h : RelO' K μ H o a) (f : o.flat = true) : RelO' K μ' H o a := by
  cases o with
  | lst ds => obtain ⟨vs, q, r⟩ := h; exact ⟨vs, q, r.flat_ f⟩
  | rl ds => obtain ⟨vs, ob, q, r⟩ := h; exact ⟨vs, ob, q, r.flat_ f⟩
  | dct kvs =>
    obtain ⟨ws, q, r⟩ := h
    have f' : D.flats (kvs.map (·.1)) = true ∧ D.flats (kvs.map (·.2)) = true := by simpa [O.flat] using f
    exact ⟨ws, q, r.flat_ f'.2⟩
  | ins c ds => obtain ⟨dx, vs, q, r, l⟩ := h; exact ⟨dx, vs, q, r.flat_ f, l⟩
  | tab y => exact h
/-! a value that was there is told by the old places -/
mutual
theorem RelD.back (p : μ <+: μ') : ∀ {d : D} {v0 v : V}, RelD K μ H d v0 → RelD K μ' H' d v → RelD K μ H' d v
  | .non, _, _, _, h => by rw [RelD] at h ⊢; exact h
  | .bl _, _, _, _, h => by rw [RelD] at h ⊢; exact h
  | .int _, _, _, _, h => by rw [RelD] at h ⊢; exact h
  | .str _, _, _, _, h => by rw [RelD] at h ⊢; exact h
  | .tup ds, v0, v, h0, h => by
    rw [RelD] at h h0 ⊢
    obtain ⟨a, vs, e, q, r⟩ := h
    obtain ⟨a0, vs0, e0, q0, r0⟩ := h0
    exact ⟨a, vs, e, q, RelDs.back p r0 r⟩
  | .ref i, v0, v, h0, h => by
    rw [RelD] at h h0 ⊢
    obtain ⟨a, e, q⟩ := h
    obtain ⟨a0, e0, q0⟩ := h0
    have q1 := pre_get p q0
    rw [q] at q1
    cases q1
    exact ⟨a, e, q0⟩
theorem RelDs.back (p : μ <+: μ') : ∀ {ds : List D} {vs0 vs : List V}, RelDs K μ H ds vs0 → RelDs K μ' H' ds vs → RelDs K μ H' ds vs
  | [], _, _, _, h => by rw [RelDs] at h ⊢; exact h
  | d :: ds, vs0, vs, h0, h => by
    rw [RelDs] at h h0 ⊢
    obtain ⟨v, ws, e, r, t⟩ := h
    obtain ⟨v0, ws0, e0, r0, t0⟩ := h0
    exact ⟨v, ws, e, RelD.back p r0 r, RelDs.back p t0 t⟩
end
theorem RelKV.back (p : μ <+: μ') : ∀ {ps : List (D × D)} {k0 kvs : List (Key × V)}, RelKV K μ H ps k0 → RelKV K μ' H' ps kvs → RelKV K μ H' ps kvs
  | [], _, _, _, h => h
  | q :: ps, k0, kvs, h0, h => by
    obtain ⟨k, v, r, e, q1, t, u⟩ := h
    obtain ⟨_, v0, _, _, _, t0, u0⟩ := h0
    exact ⟨k, v, r, e, q1, RelD.back p t0 t, RelKV.back p u0 u⟩
theorem RelO'.back {o : O} {a : Addr} (p : μ <+: μ') (h0 : RelO' K μ H o a) (h : RelO' K μ' H' o a) : RelO' K μ H' o a := by
  cases o with
  | lst ds =>
    obtain ⟨vs, q, r⟩ := h
    obtain ⟨_, _, r0⟩ := h0
    exact ⟨vs, q, RelDs.back p r0 r⟩
  | rl ds =>
    obtain ⟨vs, ob, q, r⟩ := h
    obtain ⟨_, _, _, r0⟩ := h0
    exact ⟨vs, ob, q, RelDs.back p r0 r⟩
  | dct kvs =>
    obtain ⟨ws, q, r⟩ := h
    obtain ⟨_, _, r0⟩ := h0
    exact ⟨ws, q, RelKV.back p r0 r⟩
  | ins c ds =>
    obtain ⟨dx, vs, q, r, l⟩ := h
    obtain ⟨_, _, _, r0, _⟩ := h0
    exact ⟨dx, vs, q, RelDs.back p r0 r, l⟩
  | tab y => exact h
theorem sameOr_at {i : Nat} {o : O} (h : sameOr s s' = true) (hi : i < s.length) (e : s'[i]? = some o) : s[i]? = some o ∨ o.flat = true := by
  unfold sameOr at h
  rw [List.all_eq_true] at h
  have h1 := h i (List.mem_range.mpr hi)
  rw [Bool.or_eq_true] at h1
  rcases h1 with h1 | h1
  · left
    rw [← of_decide_eq_true h1]
    exact e
  · right
    rw [e] at h1
    exact h1
/-- the old places alone -/
theorem Rel.trim (r : Rel K μ H s) (x : Ext μ H μ' H') (r' : Rel K μ' H' s') (hl : s.length ≤ s'.length) (h : sameOr s s' = true) : Rel K μ H' (s'.take s.length) ∧ Ext μ H μ H' := by
  refine ⟨⟨by rw [List.length_take, r.len]; omega, r.nd, fun i a o h1 h2 => ?_⟩, List.prefix_rfl, x.keep⟩
  have hi : i < s.length := by rw [← r.len]; exact (List.getElem?_eq_some_iff.mp h1).1
  rw [List.getElem?_take_of_lt hi] at h2
  have q := r'.obj i a o (pre_get x.pre h1) h2
  rcases sameOr_at h hi h2 with e | e
  · exact RelO'.back x.pre (r.obj i a o h1 e) q
  · exact q.flat_ e
theorem Rel.trim1 {j : Nat} {o : O} {a : Addr} (r : Rel K μ H s) (x : Ext μ H μ' H') (r' : Rel K μ' H' s') (hl : s.length ≤ s'.length) (h : sameOr s s' = true) (hj : s.length ≤ j) (ha : μ'[j]? = some a) (e : s'[j]? = some o) (hf : o.flat = true) :
    Rel K (μ ++ [a]) H' (s'.take s.length ++ [o]) ∧ Ext μ H (μ ++ [a]) H' ∧ (μ ++ [a])[s.length]? = some a := by
  obtain ⟨t, tx⟩ := r.trim x r' hl h
  have lt : (s'.take s.length).length = s.length := by rw [List.length_take]; omega
  have e0 : (μ ++ [a])[s.length]? = some a := by rw [← r.len]; simp
  refine ⟨⟨by simp [r.len, lt], ?_, fun i b u h1 h2 => ?_⟩, ⟨List.prefix_append _ _, x.keep⟩, e0⟩
  · refine List.nodup_append.mpr ⟨r.nd, by simp, fun b hb c hc => ?_⟩
    rw [List.mem_singleton.mp hc]
    obtain ⟨i, hi, e'⟩ := List.getElem_of_mem hb
    intro z
    have h3 : μ'[i]? = some a := pre_get x.pre (by rw [← z, ← e']; exact List.getElem?_eq_getElem hi)
    have h4 : i = j := (List.getElem?_inj (List.getElem?_eq_some_iff.mp h3).1 r'.nd).mp (h3.trans ha.symm)
    rw [r.len] at hi
    omega
  · by_cases hi : i < s.length
    · rw [List.getElem?_append_left (by rw [lt]; exact hi)] at h2
      rw [List.getElem?_append_left (by rw [r.len]; exact hi)] at h1
      have q := t.obj i b u h1 h2
      exact q.mono ⟨List.prefix_append _ _, .refl _⟩ rfl
    · have hl2 := (List.getElem?_eq_some_iff.mp h2).1
      rw [List.length_append, List.length_singleton, lt] at hl2
      have hi' : i = s.length := by omega
      subst hi'
      rw [e0] at h1
      cases h1
      rw [List.getElem?_append_right (by rw [lt]; exact Nat.le_refl _), lt] at h2
      have h2' : o = u := by simpa using h2
      subst h2'
      exact (r'.obj j a o ha e).flat_ hf
theorem trim_fin {W : XK} {o : Out D} {Q : VK} (r : Rel K μ H s) (h : Fin K G μ H W (trimO s o) (qD K Q)) : Fin K G μ H W o (qD K Q) := by
  cases o with
  | bad => exact h
  | exc x s' =>
    intro cls dd μ' H' e r' rx
    unfold trimO at h
    dsimp only at h
    split at h
    · rename_i hc
      rw [Bool.and_eq_true, Bool.and_eq_true] at hc
      obtain ⟨t, tx⟩ := r.trim e r' (of_decide_eq_true hc.2.1) hc.2.2
      refine h cls dd μ H' tx t ?_
      obtain ⟨a, b⟩ := rx
      refine ⟨a, ?_⟩
      rcases b with b | ⟨d, fs, b1, b2, b3, b4⟩
      · exact .inl b
      · exact .inr ⟨d, fs, b1, b2, b3, RelDs.flat_ b4 hc.1⟩
    · exact h cls dd μ' H' e r' rx
  | ok d s' =>
    intro μ' H' e r' v rv
    unfold trimO trim at h
    dsimp only at h
    split at h
    · rename_i hc
      rw [Bool.and_eq_true, Bool.and_eq_true] at hc
      obtain ⟨t, tx⟩ := r.trim e r' (of_decide_eq_true hc.2.1) hc.2.2
      exact h μ H' tx t v (rv.flat_ hc.1)
    · split at h
      · rename_i j
        split at h
        · rename_i hc
          rw [Bool.and_eq_true, Bool.and_eq_true] at hc
          split at h
          · rename_i o ho
            split at h
            · rename_i hf
              obtain ⟨a, rfl, ha⟩ := rv.ref_
              obtain ⟨t, tx, e0⟩ := r.trim1 e r' (of_decide_eq_true hc.2.1) hc.2.2 (of_decide_eq_true hc.1) ha ho hf
              exact h _ H' tx t _ (relRef e0)
            · exact h μ' H' e r' v rv
          · exact h μ' H' e r' v rv
        · exact h μ' H' e r' v rv
      · exact h μ' H' e r' v rv
end
end Fe

set_option maxHeartbeats 2000000
/-! Fe 6: builtins and builtin types called, their methods. -/
namespace Fe
open PySem PySem.Spec PyProof.Rows L2

section
variable {X : Cx} {G : Gc}
/-! ### len, abs, min and max of two, int, tuple, list -/
def biLen : List D → S → Out D
  | [.tup ds], s => .ok (.int ds.length) s
  | [.str cs], s => if cs.length ≤ line then .ok (.int cs.length) s else .bad
  | [.ref i], s => match getL s i with
    | some ds => .ok (.int ds.length) s
    | none => .bad
  | _, _ => .bad
theorem rel1 {K : PySem.W.Frag} {μ : List Addr} {H : Hp} {d : D} {vs : List V} (h : RelDs K μ H [d] vs) : ∃ v, vs = [v] ∧ RelD K μ H d v := by
  obtain ⟨v, ws, rfl, r, t⟩ := h.cons_
  rw [t.nil_]
  exact ⟨v, rfl, r⟩
theorem rel2 {K : PySem.W.Frag} {μ : List Addr} {H : Hp} {d e : D} {vs : List V} (h : RelDs K μ H [d, e] vs) : ∃ v u, vs = [v, u] ∧ RelD K μ H d v ∧ RelD K μ H e u := by
  obtain ⟨v, ws, rfl, r, t⟩ := h.cons_
  obtain ⟨u, rfl, q⟩ := rel1 t
  exact ⟨v, u, rfl, r, q⟩
theorem len_ok : HkC X G (fun xs H Q => ∃ x n, xs = [x] ∧ LenV X.K x H n ∧ Q (.int n) H) biLen := by
  intro ds s μ H vs W Q r rv h
  unfold biLen at h
  split at h
  · rename_i ds
    obtain ⟨v, rfl, r1⟩ := rel1 rv
    obtain ⟨a, us, rfl, q, t⟩ := r1.tup_
    exact ⟨_, ds.length, rfl, .inr ⟨us, q, t.length.symm⟩, fin_ok r relInt h⟩
  · rename_i cs
    obtain ⟨v, rfl, r1⟩ := rel1 rv
    split at h
    · rename_i hl
      rw [r1.str_]
      exact ⟨_, cs.length, rfl, ⟨by rw [← line_eq]; simpa [Str.length] using hl, by simp [Str.length]⟩, fin_ok r relInt h⟩
    · exact h.elim
  · obtain ⟨v, rfl, r1⟩ := rel1 rv
    split at h
    · rename_i ds e
      obtain ⟨a, us, rfl, _, q, t⟩ := getL_ok r r1 e
      exact ⟨_, ds.length, rfl, .inl ⟨us, q, t.length.symm⟩, fin_ok r relInt h⟩
    · exact h.elim
  · exact h.elim
def biAbs : List D → S → Out D
  | [.int i], s => .ok (.int (if i < 0 then -i else i)) s
  | _, _ => .bad
theorem abs_ok : HkC X G (fun xs H Q => ∃ i, xs = [.int i] ∧ Q (.int (if i < 0 then -i else i)) H) biAbs := by
  intro ds s μ H vs W Q r rv h
  unfold biAbs at h
  split at h
  · obtain ⟨v, rfl, r1⟩ := rel1 rv
    rw [r1.int_]
    exact ⟨_, rfl, fin_ok r relInt h⟩
  · exact h.elim
def asInts : List D → Option (List Int)
  | [] => some []
  | .int i :: ds => (asInts ds).map (i :: ·)
  | _ => none
theorem asInts_ok {K : PySem.W.Frag} {μ : List Addr} {H : Hp} : ∀ {ds : List D} {vs : List V} {ns : List Int}, RelDs K μ H ds vs → asInts ds = some ns → vs = ns.map V.int
  | [], vs, ns, r, e => by rw [r.nil_]; cases e; rfl
  | .int i :: ds, vs, ns, r, e => by
    obtain ⟨v, ws, rfl, r1, t⟩ := r.cons_
    unfold asInts at e
    cases h : asInts ds with
    | none => rw [h] at e; cases e
    | some ms =>
      rw [h] at e; cases e
      rw [r1.int_, asInts_ok t h]; rfl
  | .non :: ds, vs, ns, r, e => by cases e
  | .bl _ :: ds, vs, ns, r, e => by cases e
  | .str _ :: ds, vs, ns, r, e => by cases e
  | .tup _ :: ds, vs, ns, r, e => by cases e
  | .ref _ :: ds, vs, ns, r, e => by cases e
def minI : List Int → Int
  | [] => 0
  | [a] => a
  | a :: b :: r => if minI (b :: r) < a then minI (b :: r) else a
def maxI : List Int → Int
  | [] => 0
  | [a] => a
  | a :: b :: r => if a < maxI (b :: r) then maxI (b :: r) else a
theorem maxI_mem : ∀ {l : List Int}, l ≠ [] → maxI l ∈ l ∧ ∀ x ∈ l, x ≤ maxI l
  | [], h => absurd rfl h
  | [a], _ => ⟨by simp [maxI], by simp [maxI]⟩
  | a :: b :: r, _ => by
    obtain ⟨h1, h2⟩ := maxI_mem (l := b :: r) (by simp)
    unfold maxI
    split
    · rename_i hlt
      refine ⟨List.mem_cons_of_mem _ h1, fun x hx => ?_⟩
      rcases List.mem_cons.mp hx with e | hx
      · omega
      · exact h2 x hx
    · rename_i hlt
      refine ⟨List.mem_cons_self .., fun x hx => ?_⟩
      rcases List.mem_cons.mp hx with e | hx
      · omega
      · have := h2 x hx; omega
theorem minI_mem : ∀ {l : List Int}, l ≠ [] → minI l ∈ l ∧ ∀ x ∈ l, minI l ≤ x
  | [], h => absurd rfl h
  | [a], _ => ⟨by simp [minI], by simp [minI]⟩
  | a :: b :: r, _ => by
    obtain ⟨h1, h2⟩ := minI_mem (l := b :: r) (by simp)
    unfold minI
    split
    · rename_i hlt
      refine ⟨List.mem_cons_of_mem _ h1, fun x hx => ?_⟩
      rcases List.mem_cons.mp hx with e | hx
      · omega
      · exact h2 x hx
    · rename_i hlt
      refine ⟨List.mem_cons_self .., fun x hx => ?_⟩
      rcases List.mem_cons.mp hx with e | hx
      · omega
      · have := h2 x hx; omega
def biMin : List D → S → Out D
  | [.int i, .int j], s => .ok (.int (if j < i then j else i)) s
  | [.ref i], s => match getL s i with
    | some ds => match asInts ds with
      | some ns => if ns ≠ [] then .ok (.int (minI ns)) s else .bad
      | none => .bad
    | none => .bad
  | _, _ => .bad
def biMax : List D → S → Out D
  | [.int i, .int j], s => .ok (.int (if j > i then j else i)) s
  | [.ref i], s => match getL s i with
    | some ds => match asInts ds with
      | some ns => if ns ≠ [] then .ok (.int (maxI ns)) s else .bad
      | none => .bad
    | none => .bad
  | _, _ => .bad
theorem min_ok : HkC X G (fun xs H Q => (∃ i j, xs = [.int i, .int j] ∧ Q (.int (if j < i then j else i)) H) ∨ rMin X.K xs H Q) biMin := by
  intro ds s μ H vs W Q r rv h
  unfold biMin at h
  split at h
  · obtain ⟨v, u, rfl, r1, r2⟩ := rel2 rv
    rw [r1.int_, r2.int_]
    exact .inl ⟨_, _, rfl, fin_ok r relInt h⟩
  · obtain ⟨v, rfl, r1⟩ := rel1 rv
    split at h
    · rename_i ds e
      split at h
      · rename_i ns en
        split at h
        · rename_i hne
          obtain ⟨a, us, rfl, _, q, t⟩ := getL_ok r r1 e
          rw [asInts_ok t en] at q
          have hlen : 0 < ns.length := by cases ns with | nil => exact absurd rfl hne | cons => simp
          refine .inr ⟨a, ns, rfl, q, hlen, fun m hm hle => ?_⟩
          have e2 : m = minI ns := by
            have := minI_mem hne
            have h1 := this.2 m hm
            have h2 := hle _ this.1
            omega
          rw [e2]
          exact fin_ok r relInt h
        · exact h.elim
      · exact h.elim
    · exact h.elim
  · exact h.elim
theorem max_ok : HkC X G (fun xs H Q => (∃ i j, xs = [.int i, .int j] ∧ Q (.int (if j > i then j else i)) H) ∨ rMax X.K xs H Q) biMax := by
  intro ds s μ H vs W Q r rv h
  unfold biMax at h
  split at h
  · obtain ⟨v, u, rfl, r1, r2⟩ := rel2 rv
    rw [r1.int_, r2.int_]
    exact .inl ⟨_, _, rfl, fin_ok r relInt h⟩
  · obtain ⟨v, rfl, r1⟩ := rel1 rv
    split at h
    · rename_i ds e
      split at h
      · rename_i ns en
        split at h
        · rename_i hne
          obtain ⟨a, us, rfl, _, q, t⟩ := getL_ok r r1 e
          rw [asInts_ok t en] at q
          have hlen : 0 < ns.length := by cases ns with | nil => exact absurd rfl hne | cons => simp
          refine .inr ⟨a, ns, rfl, q, hlen, fun m hm hle => ?_⟩
          have e2 : m = maxI ns := by
            have := maxI_mem hne
            have h1 := this.2 m hm
            have h2 := hle _ this.1
            omega
          rw [e2]
          exact fin_ok r relInt h
        · exact h.elim
      · exact h.elim
    · exact h.elim
  · exact h.elim
/-- a number's text -/
def itext (i : Int) : List Nat := (toString i : String).toList.map Char.toNat
theorem itext_eq (i : Int) : ((toString i : String) : Str) = ⟨(itext i).toArray⟩ := by
  rw [Str.ofString_eq_toList]; rfl
theorem okS_chars (cs : List Char) : okS (cs.map Char.toNat) = true := by
  unfold okS
  rw [List.all_eq_true]
  intro c hc
  obtain ⟨x, _, rfl⟩ := List.mem_map.mp hc
  refine decide_eq_true ?_
  have h := x.valid
  have e : x.toNat = x.val.toNat := rfl
  rw [e]
  simp only [UInt32.isValidChar, Nat.isValidChar] at h
  omega
theorem okS_itext (i : Int) : okS (itext i) = true := okS_chars _
def biInt : List D → S → Out D
  | [.int i], s => .ok (.int i) s
  | [.bl b], s => .ok (.int (if b then 1 else 0)) s
  | [.str cs], s => match PySem.intText? ⟨cs.toArray⟩ with
    | some n => if cs.length ≤ 640 then .ok (.int n) s else .bad
    | none => .bad
  | _, _ => .bad
theorem int_ok : HkC X G (fun xs H Q => ((∃ i, xs = [.int i] ∧ Q (.int i) H) ∨ ∃ k, xs = [.bl k] ∧ Q (.int (if k then 1 else 0)) H) ∨ ∃ a n, xs = [.str a] ∧ PySem.intText? a = some n ∧ a.length ≤ 640 ∧ Q (.int n) H) biInt := by
  intro ds s μ H vs W Q r rv h
  unfold biInt at h
  split at h
  · obtain ⟨v, rfl, r1⟩ := rel1 rv
    rw [r1.int_]
    exact .inl (.inl ⟨_, rfl, fin_ok r relInt h⟩)
  · obtain ⟨v, rfl, r1⟩ := rel1 rv
    rw [r1.bl_]
    exact .inl (.inr ⟨_, rfl, fin_ok r relInt h⟩)
  · obtain ⟨v, rfl, r1⟩ := rel1 rv
    split at h
    · rename_i n e
      split at h
      · rename_i hl
        rw [r1.str_]
        exact .inr ⟨_, n, rfl, e, by simpa [Str.length] using hl, fin_ok r relInt h⟩
      · exact h.elim
    · exact h.elim
  · exact h.elim
def biStr : List D → S → Out D
  | [.int i], s => if i.natAbs.log2 < 1920 then .ok (.str (itext i)) s else .bad
  | _, _ => .bad
theorem str_ok : HkC X G (fun xs H Q => ∃ i, xs = [.int i] ∧ i.natAbs.log2 < 1920 ∧ Q (.str (toString i)) H) biStr := by
  intro ds s μ H vs W Q r rv h
  unfold biStr at h
  split at h
  · obtain ⟨v, rfl, r1⟩ := rel1 rv
    split at h
    · rename_i i hl
      rw [r1.int_]
      exact ⟨i, rfl, hl, by rw [itext_eq]; exact fin_ok r (relStr (okS_itext i)) h⟩
    · exact h.elim
  · exact h.elim
def biTup : List D → S → Out D
  | [.tup ds], s => .ok (.tup ds) s
  | [.ref i], s => match getL s i with
    | some ds => .ok (.tup ds) s
    | none => .bad
  | _, _ => .bad
theorem tupl_ok : HkC X G (fun xs H Q => ∃ p ys, xs = [.ref p] ∧ ((SqL X.K H p ys ∧ ∀ l, H l = none → Q (.ref l) (upd H l (.tup ys))) ∨ (SqT X.K H p ys ∧ Q (.ref p) H))) biTup := by
  intro ds s μ H vs W Q r rv h
  unfold biTup at h
  split at h
  · obtain ⟨v, rfl, r1⟩ := rel1 rv
    obtain ⟨a, us, rfl, q, t⟩ := r1.tup_
    exact ⟨a, us, rfl, .inr ⟨q, fin_ok r r1 h⟩⟩
  · obtain ⟨v, rfl, r1⟩ := rel1 rv
    split at h
    · rename_i ds e
      obtain ⟨a, us, rfl, _, q, t⟩ := getL_ok r r1 e
      exact ⟨a, us, rfl, .inl ⟨q, fun l n => tup_fin r t h n⟩⟩
    · exact h.elim
  · exact h.elim
def biLst : List D → S → Out D
  | [d], s => match itemsOf s d with
    | some ds => .ok (.ref s.length) (s ++ [.lst ds])
    | none => .bad
  | _, _ => .bad
theorem items_ok {K : PySem.W.Frag} {μ : List Addr} {H : Hp} {s : S} {d : D} {v : V} {ds : List D} (r : Rel K μ H s) (rv : RelD K μ H d v) (e : itemsOf s d = some ds) : ∃ a vs, v = .ref a ∧ (SqL K H a vs ∨ SqT K H a vs) ∧ RelDs K μ H ds vs := by
  cases d with
  | tup es =>
    cases e
    obtain ⟨a, vs, rfl, q, t⟩ := rv.tup_
    exact ⟨a, vs, rfl, .inr q, t⟩
  | ref i =>
    obtain ⟨a, vs, rfl, _, q, t⟩ := getL_ok r rv e
    exact ⟨a, vs, rfl, .inl q, t⟩
  | _ => cases e
theorem list_ok : HkC X G (fun xs H Q => ∃ p ys, xs = [.ref p] ∧ (SqL X.K H p ys ∨ SqT X.K H p ys) ∧ ∀ l, H l = none → Q (.ref l) (upd H l (.lst ys))) biLst := by
  intro ds s μ H vs W Q r rv h
  unfold biLst at h
  split at h
  · obtain ⟨v, rfl, r1⟩ := rel1 rv
    split at h
    · rename_i ds e
      obtain ⟨a, us, rfl, q, t⟩ := items_ok r r1 e
      exact ⟨a, us, rfl, q, fun l n => lst_fin r t h n⟩
    · exact h.elim
  · exact h.elim
/-- sum, all, any of a list -/
def biSum : List D → S → Out D
  | [.ref i], s => match getL s i with
    | some ds => match asInts ds with
      | some ns => .ok (.int ns.sum) s
      | none => .bad
    | none => .bad
  | _, _ => .bad
theorem sum_ok : HkC X G (rSum X.K) biSum := by
  intro ds s μ H vs W Q r rv h
  unfold biSum at h
  split at h
  · obtain ⟨v, rfl, r1⟩ := rel1 rv
    split at h
    · rename_i ds e
      split at h
      · rename_i ns en
        obtain ⟨a, us, rfl, _, q, t⟩ := getL_ok r r1 e
        rw [asInts_ok t en] at q
        exact ⟨a, ns, rfl, q, fin_ok r relInt h⟩
      · exact h.elim
    · exact h.elim
  · exact h.elim
def asBls : List D → Option (List Bool)
  | [] => some []
  | .bl i :: ds => (asBls ds).map (i :: ·)
  | _ => none
theorem asBls_ok {K : PySem.W.Frag} {μ : List Addr} {H : Hp} : ∀ {ds : List D} {vs : List V} {ns : List Bool}, RelDs K μ H ds vs → asBls ds = some ns → vs = ns.map V.bl
  | [], vs, ns, r, e => by rw [r.nil_]; cases e; rfl
  | .bl i :: ds, vs, ns, r, e => by
    obtain ⟨v, ws, rfl, r1, t⟩ := r.cons_
    unfold asBls at e
    cases h : asBls ds with
    | none => rw [h] at e; cases e
    | some ms =>
      rw [h] at e; cases e
      rw [r1.bl_, asBls_ok t h]; rfl
  | .non :: ds, vs, ns, r, e => by cases e
  | .int _ :: ds, vs, ns, r, e => by cases e
  | .str _ :: ds, vs, ns, r, e => by cases e
  | .tup _ :: ds, vs, ns, r, e => by cases e
  | .ref _ :: ds, vs, ns, r, e => by cases e
def biAll : List D → S → Out D
  | [.ref i], s => match getL s i with
    | some ds => match asBls ds with
      | some ns => .ok (.bl (ns.all id)) s
      | none => .bad
    | none => .bad
  | _, _ => .bad
def biAny : List D → S → Out D
  | [.ref i], s => match getL s i with
    | some ds => match asBls ds with
      | some ns => .ok (.bl (ns.any id)) s
      | none => .bad
    | none => .bad
  | _, _ => .bad
theorem all_ok : HkC X G (rAll X.K) biAll := by
  intro ds s μ H vs W Q r rv h
  unfold biAll at h
  split at h
  · obtain ⟨v, rfl, r1⟩ := rel1 rv
    split at h
    · rename_i ds e
      split at h
      · rename_i ns en
        obtain ⟨a, us, rfl, _, q, t⟩ := getL_ok r r1 e
        rw [asBls_ok t en] at q
        exact ⟨a, ns, rfl, q, fin_ok r relBl h⟩
      · exact h.elim
    · exact h.elim
  · exact h.elim
theorem any_ok : HkC X G (rAny X.K) biAny := by
  intro ds s μ H vs W Q r rv h
  unfold biAny at h
  split at h
  · obtain ⟨v, rfl, r1⟩ := rel1 rv
    split at h
    · rename_i ds e
      split at h
      · rename_i ns en
        obtain ⟨a, us, rfl, _, q, t⟩ := getL_ok r r1 e
        rw [asBls_ok t en] at q
        exact ⟨a, ns, rfl, q, fin_ok r relBl h⟩
      · exact h.elim
    · exact h.elim
  · exact h.elim

/-! ### isinstance -/
inductive Ty where
  | non | bl | int | str | tup | lst | dct
  deriving DecidableEq, Inhabited
def Ty.name : Ty → String
  | .non => "NoneType"
  | .bl => "bool"
  | .int => "int"
  | .str => "str"
  | .tup => "tuple"
  | .lst => "list"
  | .dct => "dict"
def tyOf (s : S) : D → Option Ty
  | .non => some .non
  | .bl _ => some .bl
  | .int _ => some .int
  | .str _ => some .str
  | .tup _ => some .tup
  | .ref i => match s[i]? with
    | some (.lst _) => some .lst
    | some (.rl _) => some .lst
    | some (.dct _) => some .dct
    | some (.ins _ _) => none
    | some (.tab _) => none
    | none => none
def isTy (a b : Ty) : Bool := decide (a = b) || (decide (a = .bl) && decide (b = .int))
theorem kit_all : ∀ a b : Ty, b ≠ .non → kitB a.name b.name = some (isTy a b) := by
  intro a b h
  cases b with
  | non => exact absurd rfl h
  | bl => cases a <;> decide +kernel
  | int => cases a <;> decide +kernel
  | str => cases a <;> decide +kernel
  | tup => cases a <;> decide +kernel
  | lst => cases a <;> decide +kernel
  | dct => cases a <;> decide +kernel
theorem ty_ok {K : PySem.W.Frag} {μ : List Addr} {H : Hp} {s : S} {d : D} {v : V} {t : Ty} (r : Rel K μ H s) (rv : RelD K μ H d v) (e : tyOf s d = some t) : TyX K H v (.type t.name) := by
  cases d with
  | non => rw [rv.non_]; cases e; exact .base .non
  | bl b => rw [rv.bl_]; cases e; exact .base (.bl b)
  | int b => rw [rv.int_]; cases e; exact .base (.int b)
  | str b => rw [rv.str_]; cases e; exact .base (.str _)
  | tup ds =>
    cases e
    obtain ⟨a, vs, rfl, q, t⟩ := rv.tup_
    rcases q with (q | ⟨o, q⟩) | ⟨o, its, n, q, c, _⟩
    · exact .base (.tup q)
    · exact .fTuple q
    · exact .kTuple q c
  | ref i =>
    obtain ⟨a, rfl, ha⟩ := rv.ref_
    unfold tyOf at e
    dsimp only at e
    split at e
    · rename_i ds hs
      cases e
      obtain ⟨vs, q, _⟩ := r.obj i a _ ha hs
      exact .base (.lst q)
    · rename_i ds hs
      cases e
      obtain ⟨vs, o, q, _⟩ := r.obj i a _ ha hs
      exact .base (.frz q)
    · rename_i ds hs
      cases e
      obtain ⟨vs, q, _⟩ := r.obj i a _ ha hs
      exact .base (.dK q)
    · cases e
    · cases e
    · cases e
def opIsi (t : Ty) (d : D) (s : S) : Out D := match tyOf s d with
  | some u => .ok (.bl (isTy u t)) s
  | none => .bad
theorem de_isi {W : WX} {e : Expr} {f : Env → S → Out D} {p p2 pos : Pos} {t : Ty} {x : Str} (ht : t ≠ .non) (he : DE X G W e f) (hs : notStar e = true) (hg : Gl X "isinstance") (hm : X.mg "isinstance" = none) (hgt : Gl X x) (hmt : X.mg x = none) (hv : bootBuiltins x = some (.type t.name)) (hn : x ≠ "__name__") (hdb : (x == ("__debug__" : Str)) = false) :
    DE X G W (.Call (.Name "isinstance" p) [e, .Name x p2] [] pos) (fun ρ s => (f ρ s).bind (opIsi t)) := by
  have h2 : PE X (.Name x p2) (tC (.ty t.name)) := pe_bltn hgt hmt hv rfl hn hdb
  refine pe_imp (pe_callB call_isi hg hm (by decide +kernel) (pa_cons he (pa_cons h2 pa_nil rfl) (star_ns hs)) (he := star_ns hs)) fun σ H Q hh => ?_
  obtain ⟨μ, ρ, s, r, re, h⟩ := hh
  refine d1 r re h fun d s1 μ1 H1 v x1 r1 re1 rv h1 => ?_
  unfold opIsi at h1
  split at h1
  · rename_i u e
    exact ⟨v, _, _, _, _, rfl, .ty _, ty_ok r1 rv e, kit_ty (kit_all u t ht), fin_ok r1 relBl h1⟩
  · exact h1.elim

/-! ### methods of lists -/
def HkM (X : Cx) (G : Gc) (r : V → List V → Hp → VK → Prop) (k : D → List D → S → Out D) : Prop := ∀ d ds s μ H v vs W Q, Rel X.K μ H s → RelD X.K μ H d v → RelDs X.K μ H ds vs → Fin X.K G μ H W (k d ds s) (qD X.K Q) → r v vs H Q
def plainBase : Expr → Bool
  | .Call (.Name id _) [] [] _ => id != "super"
  | _ => true
theorem base_ok {o : Expr} {name : Str} {env : PySem.Env} {whole : Sem Value} (h : plainBase o = true) : attributeBase o name env whole = whole := by
  unfold attributeBase
  split
  · rename_i id p pos
    have h1 : (id != "super") = true := h
    rw [h1]
    rfl
  · rfl
theorem few_ok {es : List Expr} {env : PySem.Env} {pos : Pos} (h : es.all notStar = true) (hl : es.length < 30) :
    ((backTo pos (starEach es env)).all (fun x => !x.1) && (backToKw pos (keywordEach [] env)).all (fun x => x.1.isSome)
      && decide (es.length + ([] : List Keyword).length + (if ([] : List Keyword).isEmpty then 0 else 1) < 30)) = true := by
  have h1 : (backTo pos (starEach es env)).all (fun x => !x.1) = true := by
    have := star_any (env := env) (pos := pos) h
    rw [List.any_eq_false] at this
    rw [List.all_eq_true]
    intro x hx
    have := this x hx
    simpa using this
  rw [h1]
  simp [backToKw, keywordEach]
  omega
def tyIs (T : String) (s : S) (d : D) : Bool := match d with
  | .str _ => decide (T = "str")
  | .ref i => match s[i]? with
    | some (.lst _) => decide (T = "list")
    | some (.rl _) => decide (T = "list")
    | some (.dct _) => decide (T = "dict")
    | some (.ins _ _) => false
    | some (.tab _) => false
    | none => false
  | _ => false
theorem tyIs_ok {K : PySem.W.Frag} {μ : List Addr} {H : Hp} {s : S} {d : D} {v : V} {T : String} (r : Rel K μ H s) (rv : RelD K μ H d v) (e : tyIs T s d = true) : tyV K T v H := by
  cases d with
  | str cs =>
    have e' : decide (T = "str") = true := e
    have e2 := of_decide_eq_true e'
    rw [rv.str_]; exact e2
  | ref i =>
    obtain ⟨a, rfl, ha⟩ := rv.ref_
    unfold tyIs at e
    dsimp only at e
    split at e
    · rename_i ds hs
      obtain ⟨vs, q, _⟩ := r.obj i a _ ha hs
      exact .inl ⟨of_decide_eq_true e, vs, .of q⟩
    · rename_i ds hs
      obtain ⟨vs, o, q, _⟩ := r.obj i a _ ha hs
      exact .inl ⟨of_decide_eq_true e, vs, .inl (.inr ⟨o, q⟩)⟩
    · rename_i ds hs
      obtain ⟨vs, q, _⟩ := r.obj i a _ ha hs
      exact .inr (.inr (.inl ⟨of_decide_eq_true e, .inl ⟨vs, q⟩⟩))
    · cases e
    · cases e
    · cases e
  | _ => cases e
theorem de_me {W : WX} {o e : Expr} {es : List Expr} {f : Env → S → Out D} {fs : Env → S → Out (List D)} {name : Str} {apos cpos : Pos} {T id : String} {r : V → List V → Hp → VK → Prop} {k : D → List D → S → Out D}
    (pa : PlainAttrs T) (slot : Slot T name id) (hty : typeOf (.builtin id) = pure (.type "method_descriptor")) (hm : MtR X id r) (hk : HkM X G r k) (ho : DE X G W o f) (ha : DA X G W (e :: es) fs)
    (hb : plainBase o = true) (hl : (apos.endLine == cpos.line) = true) (hs : notStar e = true) (hss : es.all notStar = true) (hlen : (e :: es).length < 30) :
    DE X G W (.Call (.Attribute o name apos) (e :: es) [] cpos) (fun ρ s => (f ρ s).bind fun d s => if tyIs T s d = true then (fs ρ s).bind fun ds s => k d ds s else .bad) :=
  pe_imp (pe_bm pa slot hty hm ho ha (base_ok hb) (few_ok (by rw [List.all_cons, hs, hss]; rfl) hlen) hl (star_ns hs) (star_any hss)) fun σ H Q ⟨μ, ρ, s, rr, re, h⟩ => d1 rr re h fun d s1 μ1 H1 v x1 r1 re1 rv h1 => by
    split at h1
    · rename_i ht
      exact ⟨tyIs_ok r1 rv ht, dA1 r1 re1 h1 fun ds s2 μ2 H2 vs x2 r2 re2 rvs h2 => hk d ds s2 μ2 H2 v vs _ Q r2 (rv.mono x2) rvs h2⟩
    · exact h1.elim
theorem de_me0 {W : WX} {o : Expr} {f : Env → S → Out D} {name : Str} {apos cpos : Pos} {T id : String} {r : V → List V → Hp → VK → Prop} {k : D → List D → S → Out D}
    (pa : PlainAttrs T) (slot : Slot T name id) (hty : typeOf (.builtin id) = pure (.type "method_descriptor")) (hm : MtR X id r) (hk : HkM X G r k) (ho : DE X G W o f) (hb : plainBase o = true) (hl : (apos.endLine == cpos.line) = true) :
    DE X G W (.Call (.Attribute o name apos) [] [] cpos) (fun ρ s => (f ρ s).bind fun d s => if tyIs T s d = true then k d [] s else .bad) :=
  pe_imp (pe_bm0 pa slot hty hm ho (base_ok hb) hl) fun σ H Q ⟨μ, ρ, s, rr, re, h⟩ => d1 rr re h fun d s1 μ1 H1 v x1 r1 re1 rv h1 => by
    split at h1
    · rename_i ht
      exact ⟨tyIs_ok r1 rv ht, hk d [] s1 μ1 H1 v [] _ Q r1 rv relNil h1⟩
    · exact h1.elim
/-- a list that changes, with an answer -/
theorem set_fin {K : PySem.W.Frag} {μ : List Addr} {H : Hp} {s : S} {i : Nat} {a : Addr} {xs ys : List V} {ds : List D} {d : D} {v : V} {W : XK} {Q : VK} (r : Rel K μ H s) (ha : μ[i]? = some a) (hH : H a = some (.lst xs)) (rv : RelDs K μ H ds ys) (rd : RelD K μ H d v)
    (h : Fin K G μ H W (.ok d (s.set i (.lst ds))) (qD K Q)) : Q v (upd H a (.lst ys)) := by
  obtain ⟨r', x⟩ := r.put (u := .lst ys) (o := .lst ds) ha (.lst hH) fun x => ⟨ys, upd_same, rv.mono x⟩
  exact h μ _ x r' v (rd.mono x)
def meAppend : D → List D → S → Out D
  | .ref i, [d], s => match s[i]? with
    | some (.lst ds) => if ds.length < line then .ok .non (s.set i (.lst (ds ++ [d]))) else .bad
    | _ => .bad
  | _, _, _ => .bad
theorem append_ok : HkM X G rAppend meAppend := by
  intro d ds s μ H v vs W Q r rv rvs h
  unfold meAppend at h
  split at h
  · rename_i i d
    split at h
    · rename_i xs e
      split at h
      · rename_i hl
        obtain ⟨u, rfl, r1⟩ := rel1 rvs
        obtain ⟨a, us, rfl, ha, q, t⟩ := lst_ok r rv e
        exact ⟨a, us, u, rfl, rfl, q, by rw [t.length, ← line_eq]; exact hl, set_fin r ha q (t.append (relCons r1 relNil)) relNon h⟩
      · exact h.elim
    · exact h.elim
  · exact h.elim
def meExtend : D → List D → S → Out D
  | .ref i, [.ref j], s => match s[i]?, s[j]? with
    | some (.lst ds), some (.lst es) => if ds.length + es.length ≤ line then .ok .non (s.set i (.lst (ds ++ es))) else .bad
    | _, _ => .bad
  | _, _, _ => .bad
theorem extend_ok : HkM X G rExtend meExtend := by
  intro d ds s μ H v vs W Q r rv rvs h
  unfold meExtend at h
  split at h
  · rename_i i j
    split at h
    · rename_i xs ys e1 e2
      split at h
      · rename_i hl
        obtain ⟨u, rfl, r1⟩ := rel1 rvs
        obtain ⟨a, us, rfl, ha, q, t⟩ := lst_ok r rv e1
        obtain ⟨b, ws, rfl, hb, q2, t2⟩ := lst_ok r r1 e2
        exact ⟨a, b, us, ws, rfl, rfl, q, q2, by rw [t.length, t2.length, ← line_eq]; exact hl, set_fin r ha q (t.append t2) relNon h⟩
      · exact h.elim
    · exact h.elim
  · exact h.elim
/-- xs.pop(i) -/
def mePopAt : D → List D → S → Out D
  | .ref i, [.int j], s => match s[i]? with
    | some (.lst ds) => if -(2 ^ 63) ≤ j ∧ j < 2 ^ 63 then (match seqIndex? j ds.length with
        | some k => match ds[k]? with
          | some d => .ok d (s.set i (.lst (ds.eraseIdx k)))
          | none => .bad
        | none => .bad) else .bad
    | _ => .bad
  | _, _, _ => .bad
theorem popAt_ok : HkM X G rPopAt mePopAt := by
  intro d ds s μ H v vs W Q r rv rvs h
  unfold mePopAt at h
  split at h
  · rename_i i j
    split at h
    · rename_i xs e
      split at h
      · rename_i hj
        split at h
        · rename_i k hk
          split at h
          · rename_i d hd
            obtain ⟨u, rfl, r1⟩ := rel1 rvs
            obtain ⟨a, us, rfl, ha, q, t⟩ := lst_ok r rv e
            obtain ⟨y, hy, ry⟩ := t.get hd
            rw [r1.int_]
            exact ⟨a, us, j, k, y, rfl, rfl, q, hj.1, hj.2, by rw [t.length]; exact hk, hy, set_fin r ha q (t.eraseIdx k) ry h⟩
          · exact h.elim
        · exact h.elim
      · exact h.elim
    · exact h.elim
  · exact h.elim
/-- xs.pop() -/
def mePop : D → List D → S → Out D
  | .ref i, [], s => match s[i]? with
    | some (.lst ds) => match ds[ds.length - 1]? with
      | some d => .ok d (s.set i (.lst ds.dropLast))
      | none => .bad
    | _ => .bad
  | _, _, _ => .bad
theorem RelDs.dropLast {K : PySem.W.Frag} {μ : List Addr} {H : Hp} {ds : List D} {vs : List V} (h : RelDs K μ H ds vs) : RelDs K μ H ds.dropLast vs.dropLast := by
  rw [List.dropLast_eq_take, List.dropLast_eq_take, h.length]
  exact h.take _
theorem pop_ok : HkM X G rPop mePop := by
  intro d ds s μ H v vs W Q r rv rvs h
  unfold mePop at h
  split at h
  · rename_i i
    split at h
    · rename_i xs e
      split at h
      · rename_i d hd
        rw [rvs.nil_]
        obtain ⟨a, us, rfl, ha, q, t⟩ := lst_ok r rv e
        obtain ⟨y, hy, ry⟩ := t.get hd
        exact ⟨a, us, y, rfl, rfl, q, by rw [t.length]; exact hy, set_fin r ha q t.dropLast ry h⟩
      · exact h.elim
    · exact h.elim
  · exact h.elim
def meInsert : D → List D → S → Out D
  | .ref i, [.int j, d], s => match s[i]? with
    | some (.lst ds) => if ds.length < line ∧ 0 ≤ j ∧ j < 2 ^ 63 then .ok .non (s.set i (.lst (ds.take j.toNat ++ [d] ++ ds.drop j.toNat))) else .bad
    | _ => .bad
  | _, _, _ => .bad
theorem insert_ok : HkM X G (fun x vs H Q => ∃ (l : Addr) (xs : List V) (i : Int) (y : V), x = .ref l ∧ vs = [.int i, y] ∧ H l = some (.lst xs) ∧ xs.length < sizeLine ∧ 0 ≤ i ∧ i < 2 ^ 63 ∧
    Q .non (upd H l (.lst (xs.take i.toNat ++ [y] ++ xs.drop i.toNat)))) meInsert := by
  intro d ds s μ H v vs W Q r rv rvs h
  unfold meInsert at h
  split at h
  · rename_i i j d
    split at h
    · rename_i xs e
      split at h
      · rename_i hj
        obtain ⟨u, y, rfl, r1, r2⟩ := rel2 rvs
        obtain ⟨a, us, rfl, ha, q, t⟩ := lst_ok r rv e
        rw [r1.int_]
        exact ⟨a, us, j, y, rfl, rfl, q, by rw [t.length, ← line_eq]; exact hj.1, hj.2.1, hj.2.2, set_fin r ha q (((t.take _).append (relCons r2 relNil)).append (t.drop _)) relNon h⟩
      · exact h.elim
    · exact h.elim
  · exact h.elim
end
end Fe

set_option maxHeartbeats 2000000
/-! Fe 7: statements. -/
namespace Fe
open PySem PySem.Spec PyProof.Rows L2

/-- where a statement ends -/
inductive SOut where
  | nx (ρ : Env) (s : S)
  | rt (d : D) (s : S)
  | bk (ρ : Env) (s : S)
  | ct (ρ : Env) (s : S)
  | exc (x : Xc) (ρ : Env) (s : S)
  | bad
def SOut.seq (o : SOut) (g : Env → S → SOut) : SOut := match o with
  | .nx ρ s => g ρ s
  | .rt d s => .rt d s
  | .bk ρ s => .bk ρ s
  | .ct ρ s => .ct ρ s
  | .exc x ρ s => .exc x ρ s
  | .bad => .bad
/-- an expression within a statement -/
def lift {α : Type} (o : Out α) (ρ : Env) (k : α → S → SOut) : SOut := match o with
  | .ok a s => k a s
  | .exc x s => .exc x ρ s
  | .bad => .bad
def SFin (K : PySem.W.Frag) (G : Gc) (μ : List Addr) (H : Hp) (W : WX) (o : SOut) (D : Ends) : Prop := match o with
  | .nx ρ s => ∀ μ' H' σ', Ext μ H μ' H' → Rel K μ' H' s → RelEnv K μ' H' ρ σ' → D.nx σ' H'
  | .rt d s => ∀ μ' H' v, Ext μ H μ' H' → Rel K μ' H' s → RelD K μ' H' d v → D.rt v H'
  | .bk ρ s => ∀ μ' H' σ', Ext μ H μ' H' → Rel K μ' H' s → RelEnv K μ' H' ρ σ' → D.bk σ' H'
  | .ct ρ s => ∀ μ' H' σ', Ext μ H μ' H' → Rel K μ' H' s → RelEnv K μ' H' ρ σ' → D.ct σ' H'
  | .exc x ρ s => ∀ cls dd μ' H' σ', Ext μ H μ' H' → Rel K μ' H' s → RelEnv K μ' H' ρ σ' → RelX K G μ' H' x cls dd → W cls dd σ' H'
  | .bad => False
section
variable {K : PySem.W.Frag} {G : Gc} {μ μ' : List Addr} {H H' : Hp} {W : WX} {D : Ends}
theorem SFin.ext {o : SOut} (x : Ext μ H μ' H') (h : SFin K G μ H W o D) : SFin K G μ' H' W o D := by
  cases o with
  | nx ρ s => exact fun μ2 H2 σ2 y => h μ2 H2 σ2 (x.trans y)
  | rt d s => exact fun μ2 H2 v y => h μ2 H2 v (x.trans y)
  | bk ρ s => exact fun μ2 H2 σ2 y => h μ2 H2 σ2 (x.trans y)
  | ct ρ s => exact fun μ2 H2 σ2 y => h μ2 H2 σ2 (x.trans y)
  | exc c ρ s => exact fun cls dd μ2 H2 σ2 y => h cls dd μ2 H2 σ2 (x.trans y)
  | bad => exact h
/-- an expression's part of a statement's wish -/
theorem SFin.lift {α : Type} {o : Out α} {ρ : Env} {σ : L2.St} {k : α → S → SOut} (re : RelEnv K μ H ρ σ) (h : SFin K G μ H W (lift o ρ k) D) : Fin K G μ H (fun c d H' => W c d σ H') o (fun a s μ' H' => SFin K G μ' H' W (k a s) D) := by
  cases o with
  | ok a s => exact fun μ' H' x r => SFin.ext (o := k a s) x h
  | exc c s => exact fun cls dd μ' H' x r rx => h cls dd μ' H' σ x r (re.mono x) rx
  | bad => exact h
end
def tS (K : PySem.W.Frag) (G : Gc) (W : WX) (f : Env → S → SOut) : TS := fun D σ H => ∃ μ ρ s, Rel K μ H s ∧ RelEnv K μ H ρ σ ∧ SFin K G μ H W (f ρ s) D
abbrev DS (X : Cx) (G : Gc) (W : WX) (st : Stmt) (f : Env → S → SOut) : Prop := PS X st (tS X.K G W f)
abbrev DSs (X : Cx) (G : Gc) (W : WX) (sts : List Stmt) (f : Env → S → SOut) : Prop := PSs X sts (tS X.K G W f)
theorem ps_imp {X : Cx} {e : Stmt} {t t' : TS} (h : PS X e t) (i : ∀ D σ H, t' D σ H → t D σ H) : PS X e t' := ⟨fun pins s σ H D I w => h.run pins s σ H D I (i D σ H w)⟩
theorem pss_imp {X : Cx} {e : List Stmt} {t t' : TS} (h : PSs X e t) (i : ∀ D σ H, t' D σ H → t D σ H) : PSs X e t' := ⟨fun pins s σ H D I w => h.run pins s σ H D I (i D σ H w)⟩
theorem pg_imp {X : Cx} {e : Expr} {t t' : TG} (h : PG X e t) (i : ∀ v σ H Q, t' v σ H Q → t v σ H Q) : PG X e t' := ⟨fun pins s σ H v u Q I r w => h.run pins s σ H v u Q I r (i v σ H Q w)⟩
theorem pg_or {X : Cx} {e : Expr} {t t' : TG} (h : PG X e t) (h' : PG X e t') : PG X e (fun v σ H Q => t v σ H Q ∨ t' v σ H Q) := ⟨fun pins s σ H v u Q I r w => by
  rcases w with w | w
  · exact h.run pins s σ H v u Q I r w
  · exact h'.run pins s σ H v u Q I r w⟩
theorem pgs_imp {X : Cx} {e : List Expr} {t t' : TGs} (h : PGs X e t) (i : ∀ v σ H Q, t' v σ H Q → t v σ H Q) : PGs X e t' := ⟨fun pins s σ H v u Q I r w => h.run pins s σ H v u Q I r (i v σ H Q w)⟩
theorem pi_imp {X : Cx} {tg e : Expr} {t t' : TI} (h : PI X tg e t) (i : ∀ σ H R, t' σ H R → t σ H R) : PI X tg e t' := ⟨fun pins s σ H R I w => h.run pins s σ H R I (i σ H R w)⟩
theorem pi_or {X : Cx} {tg e : Expr} {t t' : TI} (h : PI X tg e t) (h' : PI X tg e t') : PI X tg e (fun σ H R => t σ H R ∨ t' σ H R) := ⟨fun pins s σ H R I w => by
  rcases w with w | w
  · exact h.run pins s σ H R I w
  · exact h'.run pins s σ H R I w⟩

section
variable {X : Cx} {G : Gc} {W : WX} {pos : Pos}
/-! ### blocks -/
theorem ds_nil : DSs X G W [] (fun ρ s => .nx ρ s) := pss_imp pss_nil fun D σ H ⟨μ, ρ, s, r, re, h⟩ => h μ H σ (.refl μ H) r re
theorem ds_cons {st : Stmt} {sts : List Stmt} {f g : Env → S → SOut} (h1 : DS X G W st f) (h2 : DSs X G W sts g) : DSs X G W (st :: sts) (fun ρ s => (f ρ s).seq g) :=
  pss_imp (pss_cons h1 h2) fun D σ H ⟨μ, ρ, s, r, re, h⟩ => ⟨μ, ρ, s, r, re, by
    have h : SFin X.K G μ H W ((f ρ s).seq g) D := h
    cases e : f ρ s with
    | nx ρ1 s1 =>
      rw [e] at h
      exact fun μ' H' σ' x r' re' => ⟨μ', ρ1, s1, r', re', SFin.ext (o := g ρ1 s1) x h⟩
    | _ => rw [e] at h; exact h⟩
theorem ds_pass : DS X G W (.Pass pos) (fun ρ s => .nx ρ s) := ps_imp ps_pass fun D σ H ⟨μ, ρ, s, r, re, h⟩ => h μ H σ (.refl μ H) r re
theorem ds_break : DS X G W (.Break pos) (fun ρ s => .bk ρ s) := ps_imp ps_break fun D σ H ⟨μ, ρ, s, r, re, h⟩ => h μ H σ (.refl μ H) r re
theorem ds_cont : DS X G W (.Continue pos) (fun ρ s => .ct ρ s) := ps_imp ps_continue fun D σ H ⟨μ, ρ, s, r, re, h⟩ => h μ H σ (.refl μ H) r re
def notComp : Expr → Bool
  | .ListComp .. => false
  | .SetComp .. => false
  | .DictComp .. => false
  | _ => true
theorem sw_plain {t : Option Expr} {line : Nat} {env : PySem.Env} : ∀ {e : Expr}, notComp e = true → swapsWith e t line env = pure false
  | .ListComp .., h => by cases h
  | .SetComp .., h => by cases h
  | .DictComp .., h => by cases h
  | .BoolOp .., _ => rfl
  | .NamedExpr .., _ => rfl
  | .BinOp .., _ => rfl
  | .UnaryOp .., _ => rfl
  | .Lambda .., _ => rfl
  | .IfExp .., _ => rfl
  | .Dict .., _ => rfl
  | .Set .., _ => rfl
  | .GeneratorExp .., _ => rfl
  | .Await .., _ => rfl
  | .Yield .., _ => rfl
  | .YieldFrom .., _ => rfl
  | .Compare .., _ => rfl
  | .Call .., _ => rfl
  | .FormattedValue .., _ => rfl
  | .JoinedStr .., _ => rfl
  | .Constant .., _ => rfl
  | .Attribute .., _ => rfl
  | .Subscript .., _ => rfl
  | .Starred .., _ => rfl
  | .Name .., _ => rfl
  | .List .., _ => rfl
  | .Tuple .., _ => rfl
  | .Slice .., _ => rfl
theorem dS1 {e : Expr} {f : Env → S → Out D} {k : D → S → SOut} {D : Ends} {σ : L2.St} {H : Hp} {μ : List Addr} {ρ : Env} {s : S} {Q1 : VK} (r : Rel X.K μ H s) (re : RelEnv X.K μ H ρ σ) (h : SFin X.K G μ H W (lift (f ρ s) ρ k) D)
    (hk : ∀ d s1 μ1 H1 v, Ext μ H μ1 H1 → Rel X.K μ1 H1 s1 → RelEnv X.K μ1 H1 ρ σ → RelD X.K μ1 H1 d v → SFin X.K G μ1 H1 W (k d s1) D → Q1 v H1) : tD X.K G W f σ H Q1 :=
  ⟨μ, ρ, s, r, re, (h.lift re).imp fun d s1 μ1 H1 x r1 h1 v rv => hk d s1 μ1 H1 v x r1 (re.mono x) rv h1⟩
theorem ds_expr {e : Expr} {f : Env → S → Out D} (he : DE X G W e f) (hs : notComp e = true) : DS X G W (.Expr e pos) (fun ρ s => lift (f ρ s) ρ fun _ s => .nx ρ s) :=
  ps_imp (ps_expr he (sw_plain hs)) fun D σ H ⟨μ, ρ, s, r, re, h⟩ => dS1 (e := e) r re h fun d s1 μ1 H1 v x1 r1 re1 rv h1 => h1 μ1 H1 σ (.refl _ _) r1 re1
theorem ds_ret {e : Expr} {f : Env → S → Out D} (he : DE X G W e f) : DS X G W (.Return (some e) pos) (fun ρ s => lift (f ρ s) ρ fun d s => .rt d s) :=
  ps_imp (ps_ret he) fun D σ H ⟨μ, ρ, s, r, re, h⟩ => dS1 (e := e) r re h fun d s1 μ1 H1 v x1 r1 re1 rv h1 => h1 μ1 H1 v (.refl _ _) r1 rv
theorem ds_retN : DS X G W (.Return none pos) (fun ρ s => .rt .non s) := ps_imp ps_retN fun D σ H ⟨μ, ρ, s, r, re, h⟩ => h μ H _ (.refl μ H) r relNon
theorem ds_doc {x : Str} {j : Nat} {p : Pos} : DS X G W (.Expr (.Constant (.str x) j p) pos) (fun ρ s => .nx ρ s) := ps_imp ps_doc fun D σ H ⟨μ, ρ, s, r, re, h⟩ => h μ H σ (.refl μ H) r re
theorem ds_if {c : Expr} {a b : List Stmt} {p : Env → S → Out Bool} {f g : Env → S → SOut} (hc : DT X G W c p) (ha : DSs X G W a f) (hb : DSs X G W b g) : DS X G W (.If c a b pos) (fun ρ s => lift (p ρ s) ρ fun k s => if k = true then f ρ s else g ρ s) :=
  ps_imp (ps_if hc ha hb) fun D σ H ⟨μ, ρ, s, r, re, h⟩ => ⟨μ, ρ, s, r, re, (h.lift re).imp fun k s1 μ1 H1 x r1 h1 => by
    cases k with
    | true => exact ⟨μ1, ρ, s1, r1, re.mono x, h1⟩
    | false => exact ⟨μ1, ρ, s1, r1, re.mono x, h1⟩⟩

/-! ### targets -/
abbrev TOut := Option (Env × S)
def TFin (K : PySem.W.Frag) (μ : List Addr) (H : Hp) (o : TOut) (Q : L2.St → Hp → Prop) : Prop := match o with
  | some (ρ, s) => ∀ μ' H' σ', Ext μ H μ' H' → Rel K μ' H' s → RelEnv K μ' H' ρ σ' → Q σ' H'
  | none => False
def tT (K : PySem.W.Frag) (g : D → Env → S → TOut) : TG := fun v σ H Q => ∃ μ ρ s d, Rel K μ H s ∧ RelEnv K μ H ρ σ ∧ RelD K μ H d v ∧ TFin K μ H (g d ρ s) Q
def tTs (K : PySem.W.Frag) (g : List D → Env → S → TOut) : TGs := fun v σ H Q => ∃ μ ρ s d, Rel K μ H s ∧ RelEnv K μ H ρ σ ∧ RelDs K μ H d v ∧ TFin K μ H (g d ρ s) Q
abbrev DG (X : Cx) (e : Expr) (g : D → Env → S → TOut) : Prop := PG X e (tT X.K g)
abbrev DGs (X : Cx) (e : List Expr) (g : List D → Env → S → TOut) : Prop := PGs X e (tTs X.K g)
theorem TFin.ext {K : PySem.W.Frag} {μ μ' : List Addr} {H H' : Hp} {o : TOut} {Q : L2.St → Hp → Prop} (x : Ext μ H μ' H') (h : TFin K μ H o Q) : TFin K μ' H' o Q := by
  cases o with
  | some p => exact fun μ2 H2 σ2 y => h μ2 H2 σ2 (x.trans y)
  | none => exact h
theorem RelEnv.set {K : PySem.W.Frag} {μ : List Addr} {H : Hp} {ρ : Env} {σ : L2.St} {i : Nat} {d : D} {v : V} (re : RelEnv K μ H ρ σ) (rv : RelD K μ H d v) : RelEnv K μ H (ρ.set i (some d)) (σ.set i (some v)) := by
  refine ⟨by simp [re.1], fun j e h => ?_⟩
  by_cases hj : j = i
  · subst hj
    have hl : j < ρ.length := by
      have := (List.getElem?_eq_some_iff.mp h).1
      simpa using this
    rw [List.getElem?_set_self hl] at h
    cases h
    exact ⟨v, List.getElem?_set_self (by rw [← re.1]; exact hl), rv⟩
  · rw [List.getElem?_set_ne (Ne.symm hj)] at h
    obtain ⟨u, e1, r1⟩ := re.2 j e h
    exact ⟨u, by rw [List.getElem?_set_ne (Ne.symm hj)]; exact e1, r1⟩
theorem dg_name {i : Nat} {x : Str} (hN : X.N.Nodup) (hi : X.N[i]? = some x) (hx : Loc X.env.scope x) (hf : X.fn x = true ∨ X.env.scope.names.lookup x = some .local) : DG X (.Name x pos) (fun d ρ s => some (ρ.set i (some d), s)) :=
  pg_imp (pg_name hN hi hx hf) fun v σ H Q ⟨μ, ρ, s, d, r, re, rv, h⟩ => h μ H _ (.refl _ _) r (re.set rv)
theorem dgs_nil : DGs X [] (fun ds ρ s => match ds with | [] => some (ρ, s) | _ :: _ => none) :=
  pgs_imp pgs_nil fun v σ H Q ⟨μ, ρ, s, d, r, re, rv, h⟩ => by
    cases d with
    | nil => exact ⟨rv.nil_, h μ H σ (.refl _ _) r re⟩
    | cons => exact h.elim
def consT (g : D → Env → S → TOut) (gs : List D → Env → S → TOut) (ds : List D) (ρ : Env) (s : S) : TOut := match ds with
  | [] => none
  | d :: ds => match g d ρ s with
    | some (ρ, s) => gs ds ρ s
    | none => none
theorem asg_ns {es : List Expr} {env : PySem.Env} : ∀ {e : Expr}, notStar e = true → assignEach (e :: es) env = (false, assign e env) :: assignEach es env
  | .Starred _ _, h => by cases h
  | .BoolOp .., _ => rfl
  | .NamedExpr .., _ => rfl
  | .BinOp .., _ => rfl
  | .UnaryOp .., _ => rfl
  | .Lambda .., _ => rfl
  | .IfExp .., _ => rfl
  | .Dict .., _ => rfl
  | .Set .., _ => rfl
  | .ListComp .., _ => rfl
  | .SetComp .., _ => rfl
  | .DictComp .., _ => rfl
  | .GeneratorExp .., _ => rfl
  | .Await .., _ => rfl
  | .Yield .., _ => rfl
  | .YieldFrom .., _ => rfl
  | .Compare .., _ => rfl
  | .Call .., _ => rfl
  | .FormattedValue .., _ => rfl
  | .JoinedStr .., _ => rfl
  | .Constant .., _ => rfl
  | .Attribute .., _ => rfl
  | .Subscript .., _ => rfl
  | .Name .., _ => rfl
  | .List .., _ => rfl
  | .Tuple .., _ => rfl
  | .Slice .., _ => rfl
theorem asg_len {env : PySem.Env} : ∀ {es : List Expr}, es.all notStar = true → (assignEach es env).length = es.length ∧ (assignEach es env).findIdx? (·.1) = none
  | [], _ => ⟨rfl, rfl⟩
  | e :: es, h => by
    have h' : notStar e = true ∧ es.all notStar = true := by simpa using h
    obtain ⟨a, b⟩ := asg_len (env := env) h'.2
    rw [asg_ns h'.1]
    exact ⟨by simp [a], by rw [List.findIdx?_cons]; simp [b]⟩
theorem dgs_cons {e : Expr} {es : List Expr} {g : D → Env → S → TOut} {gs : List D → Env → S → TOut} (hs : notStar e = true) (h1 : DG X e g) (h2 : DGs X es gs) : DGs X (e :: es) (consT g gs) :=
  pgs_imp (pgs_cons h1 h2 (by rw [asg_ns hs]; rfl)) fun v σ H Q ⟨μ, ρ, s, ds, r, re, rv, h⟩ => by
    cases ds with
    | nil => exact h.elim
    | cons d ds =>
      obtain ⟨u, us, rfl, r1, t⟩ := rv.cons_
      refine ⟨u, us, rfl, μ, ρ, s, d, r, re, r1, ?_⟩
      dsimp only [consT] at h
      cases e : g d ρ s with
      | none => rw [e] at h; exact h
      | some p =>
        obtain ⟨ρ1, s1⟩ := p
        rw [e] at h
        exact fun μ' H' σ' x r' re' => ⟨μ', ρ1, s1, ds, r', re', t.mono x, TFin.ext x h⟩
/-- a, b, .. = a tuple or a list of that length -/
def unpackT (n : Nat) (gs : List D → Env → S → TOut) (d : D) (ρ : Env) (s : S) : TOut := match itemsOf s d with
  | some ds => if ds.length = n then gs ds ρ s else none
  | none => none
theorem dg_tup {es : List Expr} {k : Nat} {gs : List D → Env → S → TOut} (hc : X.calm = true) (hs : es.all notStar = true) (h : DGs X es gs) : DG X (.Tuple es k pos) (unpackT es.length gs) := by
  obtain ⟨a, b⟩ := asg_len (env := X.env) hs
  refine pg_imp (pg_or (pg_tup hc h a b) (pg_lst hc h a b)) fun v σ H Q ⟨μ, ρ, s, d, r, re, rv, hh⟩ => ?_
  unfold unpackT at hh
  split at hh
  · rename_i ds e
    split at hh
    · rename_i hl
      obtain ⟨p, vs, rfl, q, t⟩ := items_ok r rv e
      rcases q with q | q
      · exact .inr ⟨p, vs, rfl, q, by rw [t.length]; exact hl, μ, ρ, s, ds, r, re, t, hh⟩
      · exact .inl ⟨p, vs, rfl, q, by rw [t.length]; exact hl, μ, ρ, s, ds, r, re, t, hh⟩
    · exact hh.elim
  · exact hh.elim
/-- target = value -/
def liftT (o : TOut) : SOut := match o with
  | some (ρ, s) => .nx ρ s
  | none => .bad
theorem SFin.ofT {K : PySem.W.Frag} {μ : List Addr} {H : Hp} {o : TOut} {D : Ends} (h : SFin K G μ H W (liftT o) D) : TFin K μ H o D.nx := by
  cases o with
  | some p => exact h
  | none => exact h
theorem ds_asg {tg e : Expr} {f : Env → S → Out D} {g : D → Env → S → TOut} (he : DE X G W e f) (hg : DG X tg g) (hs : notStar tg = true) (hw : swappedStores [tg] e X.env = pure none) (hc : notComp e = true) : DS X G W (.Assign [tg] e pos) (fun ρ s => lift (f ρ s) ρ fun d s => liftT (g d ρ s)) :=
  ps_imp (ps_asg he hg (sw_plain hc) hw (by rw [asg_ns hs]; rfl)) fun D σ H ⟨μ, ρ, s, r, re, h⟩ => dS1 (e := e) r re h fun d s1 μ1 H1 v x1 r1 re1 rv h1 => ⟨μ1, ρ, s1, d, r1, re1, rv, h1.ofT⟩
/-- x = e, x a name -/
theorem ds_set {i : Nat} {x : Str} {e : Expr} {p : Pos} {f : Env → S → Out D} (hN : X.N.Nodup) (hi : X.N[i]? = some x) (hx : Loc X.env.scope x) (hf : X.fn x = true ∨ X.env.scope.names.lookup x = some .local) (he : DE X G W e f) (hc : notComp e = true) : DS X G W (.Assign [.Name x p] e pos) (fun ρ s => lift (f ρ s) ρ fun d s => .nx (ρ.set i (some d)) s) :=
  ps_imp (ps_set hN hi hx he (sw_plain hc) hf) fun D σ H ⟨μ, ρ, s, r, re, h⟩ => dS1 (e := e) r re h fun d s1 μ1 H1 v x1 r1 re1 rv h1 => h1 μ1 H1 _ (.refl _ _) r1 (re1.set rv)
theorem ds_setS {i : Nat} {x : Str} {e : Expr} {p : Pos} {f : Env → S → Out D} (hN : X.N.Nodup) (hi : X.N[i]? = some x) (hx : Loc X.env.scope x) (hf : X.fn x = true ∨ X.env.scope.names.lookup x = some .local) (he : DE X G W e f) (hc : swapsWith e (some (.Name x p)) pos.line X.env = pure false) : DS X G W (.Assign [.Name x p] e pos) (fun ρ s => lift (f ρ s) ρ fun d s => .nx (ρ.set i (some d)) s) :=
  ps_imp (ps_set hN hi hx he hc hf) fun D σ H ⟨μ, ρ, s, r, re, h⟩ => dS1 (e := e) r re h fun d s1 μ1 H1 v x1 r1 re1 rv h1 => h1 μ1 H1 _ (.refl _ _) r1 (re1.set rv)
/-- two, three names = so many values -/
theorem dS_A {fs : Env → S → Out (List D)} {k : List D → S → SOut} {D : Ends} {σ : L2.St} {H : Hp} {μ : List Addr} {ρ : Env} {s : S} {Q1 : List V → Hp → Prop} (r : Rel X.K μ H s) (re : RelEnv X.K μ H ρ σ) (h : SFin X.K G μ H W (lift (fs ρ s) ρ k) D)
    (hk : ∀ ds s1 μ1 H1 vs, Ext μ H μ1 H1 → Rel X.K μ1 H1 s1 → RelEnv X.K μ1 H1 ρ σ → RelDs X.K μ1 H1 ds vs → SFin X.K G μ1 H1 W (k ds s1) D → Q1 vs H1) : tA X.K G W fs σ H Q1 :=
  ⟨μ, ρ, s, r, re, (h.lift re).imp fun d s1 μ1 H1 x r1 h1 v rv => hk d s1 μ1 H1 v x r1 (re.mono x) rv h1⟩
theorem ds_par2 {i j : Nat} {x y : Str} {a b : Expr} {fs : Env → S → Out (List D)} {px py pt : Pos} {kt k2 : Nat} {pt2 : Pos} (hc : X.calm = true) (hN : X.N.Nodup) (hi : X.N[i]? = some x) (hj : X.N[j]? = some y) (hij : i ≠ j)
    (hx : X.env.scope.names.lookup x = some .local) (hy : X.env.scope.names.lookup y = some .local) (ha : DA X G W [a, b] fs) (hw : swappedStores [.Tuple [.Name x px, .Name y py] kt pt] (.Tuple [a, b] k2 pt2) X.env = pure (some [x, y])) :
    DS X G W (.Assign [.Tuple [.Name x px, .Name y py] kt pt] (.Tuple [a, b] k2 pt2) pos) (fun ρ s => lift (fs ρ s) ρ fun ds s => match ds with | [d, e] => .nx ((ρ.set i (some d)).set j (some e)) s | _ => .bad) :=
  ps_imp (ps_par hc hN hi hj hij hx hy ha hw rfl) fun D σ H ⟨μ, ρ, s, r, re, h⟩ => dS_A r re h fun ds s1 μ1 H1 vs x1 r1 re1 rv h1 => by
    split at h1
    · obtain ⟨v, u, rfl, a1, a2⟩ := rel2 rv
      exact ⟨v, u, rfl, h1 μ1 H1 _ (.refl _ _) r1 ((re1.set a1).set a2)⟩
    · exact h1.elim
theorem rel3 {K : PySem.W.Frag} {μ : List Addr} {H : Hp} {a b c : D} {vs : List V} (h : RelDs K μ H [a, b, c] vs) : ∃ v u w, vs = [v, u, w] ∧ RelD K μ H a v ∧ RelD K μ H b u ∧ RelD K μ H c w := by
  obtain ⟨v, ws, rfl, r, t⟩ := h.cons_
  obtain ⟨u, w, rfl, q1, q2⟩ := rel2 t
  exact ⟨v, u, w, rfl, r, q1, q2⟩
theorem ds_par3 {i j l : Nat} {x y z : Str} {a b c : Expr} {fs : Env → S → Out (List D)} {px py pz pt : Pos} {kt k2 : Nat} {pt2 : Pos} (hc : X.calm = true) (hN : X.N.Nodup) (hi : X.N[i]? = some x) (hj : X.N[j]? = some y) (hl : X.N[l]? = some z) (hij : i ≠ j) (hil : i ≠ l) (hjl : j ≠ l)
    (hx : X.env.scope.names.lookup x = some .local) (hy : X.env.scope.names.lookup y = some .local) (hz : X.env.scope.names.lookup z = some .local) (ha : DA X G W [a, b, c] fs) (hw : swappedStores [.Tuple [.Name x px, .Name y py, .Name z pz] kt pt] (.Tuple [a, b, c] k2 pt2) X.env = pure (some [x, y, z])) :
    DS X G W (.Assign [.Tuple [.Name x px, .Name y py, .Name z pz] kt pt] (.Tuple [a, b, c] k2 pt2) pos) (fun ρ s => lift (fs ρ s) ρ fun ds s => match ds with | [d, e, f] => .nx (((ρ.set i (some d)).set j (some e)).set l (some f)) s | _ => .bad) :=
  ps_imp (ps_par3 hc hN hi hj hl hij hil hjl hx hy hz ha hw rfl) fun D σ H ⟨μ, ρ, s, r, re, h⟩ => dS_A r re h fun ds s1 μ1 H1 vs x1 r1 re1 rv h1 => by
    split at h1
    · obtain ⟨v, u, t, rfl, a1, a2, a3⟩ := rel3 rv
      exact ⟨v, u, t, rfl, h1 μ1 H1 _ (.refl _ _) r1 (((re1.set a1).set a2).set a3)⟩
    · exact h1.elim
end
end Fe

set_option maxHeartbeats 4000000
/-! Fe X: several except clauses, with and without names. -/
namespace Fe
open PySem PySem.Spec PyProof.Rows L2
abbrev HTS : Type := Addr → Value → Option Addr → TS
/-- what is wished of an end, slot i let go -/
def offE (D : Ends) (i : Nat) : Ends := { nx := fun σ' H' => D.nx (σ'.set i none) H', rt := D.rt, bk := fun σ' H' => D.bk (σ'.set i none) H', ct := fun σ' H' => D.ct (σ'.set i none) H' }
/-- what the clauses wish of an exception of the body, one after the other -/
def wMix (K : PySem.W.Frag) (Wout : WX) (D : Ends) : List (Value × Option Nat × HTS) → WX
  | [] => Wout
  | (c, none, ts) :: r => fun cls d σ H => ∃ b, PySem.W.exmOne K cls c = some b ∧ (b = true → ∀ a, H a = none → ts a cls d D σ H) ∧ (b = false → wMix K Wout D r cls d σ H)
  | (c, some i, ts) :: r => fun cls d σ H => ∃ b, PySem.W.exmOne K cls c = some b ∧ (b = true → ∀ a, H a = none → ts a cls d (offE D i) (σ.set i (some (.ref a))) H) ∧ (b = false → wMix K Wout D r cls d σ H)
inductive HdsMix (X : Cx) : List ExceptHandler → List (Value × Option Nat × HTS) → Prop
  | nil : HdsMix X [] []
  | cons {x : Str} {c : Value} {ts : HTS} {b₀ : Stmt} {suite : List Stmt} {np pos' : Pos} {hds : List ExceptHandler} {l : List (Value × Option Nat × HTS)} (hc : Names X x c)
      (hsu : ∀ (a : Addr) (oe : Obj) (cls : Value) (d : Option Addr) (pn : List (Addr × Obj)), Zc cls d oe → (∃ vs, oe.data = .fields vs) → PSs (X.suite a ((a, oe) :: pn)) (b₀ :: suite) (ts a cls d)) (r : HdsMix X hds l) :
      HdsMix X (.ExceptHandler (some (.Name x np)) none (b₀ :: suite) pos' :: hds) ((c, none, ts) :: l)
  | named {x n : Str} {i : Nat} {c : Value} {ts : HTS} {b₀ : Stmt} {suite : List Stmt} {np pos' : Pos} {hds : List ExceptHandler} {l : List (Value × Option Nat × HTS)} (hN : X.N.Nodup) (hi : X.N[i]? = some n) (hln : X.env.kindOf n = some .local) (hc : Names X x c)
      (hsu : ∀ (a : Addr) (oe : Obj) (cls : Value) (d : Option Addr) (pn : List (Addr × Obj)), Zc cls d oe → (∃ vs, oe.data = .fields vs) → PSs (X.suite a ((a, oe) :: pn)) (b₀ :: suite) (ts a cls d)) (r : HdsMix X hds l) :
      HdsMix X (.ExceptHandler (some (.Name x np)) (some n) (b₀ :: suite) pos' :: hds) ((c, some i, ts) :: l)
section
variable {X : Cx} {body : List Stmt} {h₀ : ExceptHandler} {hds : List ExceptHandler} {l : List (Value × Option Nat × HTS)} {pos : Pos} {tb : WX → TS} {Wout : WX}
theorem ps_try_mix (hs : X.stack = X.env :: X.outer) (hf : X.env.frame = some X.env.locals) (tk : Takes X Wout)
    (hb : ∀ (W : WX) (pn : List (Addr × Obj)) (xe : Value → Shared → Prop), Takes (X.tr pn xe) W → PassesOwn (model X.prog X.w) X.A X.env xe → PSs (X.tr pn xe) body (tb W))
    (hh : HdsMix X (h₀ :: hds) l) : PS X (.Try body (h₀ :: hds) [] [] pos) (fun D σ H => tb (wMix X.K Wout D l) D σ H) := by
  refine ⟨fun pins s σ H D I h => ?_⟩
  have ok := I.ok
  have fs : X.A.frames = some (X.env :: X.outer) := by rw [ok.frames, hs]
  refine wpAny_Try_except ?_
  refine wpAny_mono ((hb (wMix X.K Wout D l) (X.pn ++ pins) (fun e s₁ => wpAny (model X.prog X.w) X.A (noteFrame e X.env) (fun _ s₂ => wpAny (model X.prog X.w) X.A (setFlight e none) (fun _ s₃ =>
    wpAny (model X.prog X.w) X.A (handleBy e X.env (h₀ :: hds)) (SP X pins D) X.xe s₃) X.xe s₂) X.xe s₁) (fun u s' xx => ?_) PassesOwn.looking).run [] s σ H D (I.toTry _) h) (fun f s1 hsp => ?_) (fun e s1 he => he)
  · obtain ⟨a, B, sI, pins', σ', H', cls, d, rfl, J', nb, up, sky, na, os, ag, w⟩ := xx
    have J : Inv X pins σ' H' sI := J'.ofTry ok
    have sky' : Sky B (X.env :: X.outer) a (Zc cls d) X.env.locals s'.heap := by rw [← hs]; exact sky
    show wpAny (model X.prog X.w) X.A (noteFrame (.ref a) X.env) _ _ _
    refine Sky.land Zc.steady fs hf sky' fun h3 fl3 up3 => ?_
    have J3 : Inv X pins σ' H' { s' with heap := h3 } := J.landed nb fl3.1 (up.trans up3) os ag
    obtain ⟨oe3, vs3, he3, hz3, hd3⟩ := fl3.there
    have nfr : a ∉ frs (X.env :: X.outer) := fun hm => by
      obtain ⟨_, o', e', hnf⟩ := fl3.2.2.1.mem hm
      rw [he3] at e'; cases e'
      exact hnf _ hd3
    have nL : a ≠ X.env.locals := fun z => nfr (List.mem_filterMap.mpr ⟨X.env, List.mem_cons_self, by rw [hf, z]⟩)
    have nF : a ∉ X.fs := fun hm => by
      obtain ⟨e, he, q⟩ := List.mem_filterMap.mp hm
      exact nfr (List.mem_filterMap.mpr ⟨e, List.mem_cons_of_mem _ he, q⟩)
    have S3 := J3.suite he3 hd3 na nL nF
    have LT : PySem.W.Looks (model X.prog X.w) h3 (typeOf (.ref a)) cls := fun A Q E s k q => wpAny_typeOf_ref (k _ _ he3) (by rw [hz3.1]; exact q)
    have test : ∀ {x : Str} {np : Pos} {c : Value} {Q : Value → Shared → Prop} {E : Value → Shared → Prop}, Names X x c → Q c { s' with heap := h3 } → wpAny (model X.prog X.w) (X.A.mark (some (.ref a))) (eval (.Name x np) X.env) Q E { s' with heap := h3 } := fun {x np c Q E} hc q => by
      obtain ⟨hg, hdbg, hm | ⟨hm, hv, hnn⟩⟩ := hc
      · exact ld_glob (X := X.suite a ((a, oe3) :: (X.pn ++ pins))) S3 hg hm q hdbg
      · exact ld_blt (X := X.suite a ((a, oe3) :: (X.pn ++ pins))) S3 hg hm hv q hnn hdbg
    have go : ∀ {hds' : List ExceptHandler} {l' : List (Value × Option Nat × HTS)}, HdsMix X hds' l' → wMix X.K Wout D l' cls d σ' H' →
        wpAny (model X.prog X.w) X.A (handleBy (.ref a) X.env hds') (SP X pins D) X.xe { s' with heap := h3 } := by
      intro hds' l' hk
      induction hk with
      | nil =>
        intro w
        refine wpAny_handleBy_nil ?_
        obtain ⟨k1, k2, k3, oe, vs, T, oT, ts', he, hz, hd, h1, hr⟩ := id fl3
        unfold PySem.passOn
        refine wpAny_bind (wpAny_field he hd h1 ?_)
        rw [if_neg (show ¬ ((Value.ref T == Value.none) = true) from by simp)]
        have fin : wpAny (model X.prog X.w) X.A (setFlight (.ref a) X.env.frame) (fun _ s4 => wpAny (model X.prog X.w) X.A (throw (.ref a) : Sem Flow) (SP X pins D) X.xe s4) X.xe { s' with heap := h3 } := by
          rw [hf]
          refine HandSPX.setFlight_upZ fl3 fun h4 hh4 up4 => wpAny_throw (tk _ _ ?_)
          exact ⟨a, B, sI, pins, σ', H', cls, d, rfl, J, nb, (up.trans up3).trans up4, .inr (.inr (by rw [hs]; exact hh4)), na, os, ag, w⟩
        first
          | exact wpAny_bind (wpAny_pure (wpAny_bind fin))
          | exact wpAny_bind fin
      | @cons x c ts b₀ suite np pos' hds2 l2 hc hsu r ih =>
        intro w
        obtain ⟨b, hb1, hyes, hno⟩ := w
        refine wpAny_handleBy_cons (codeAny_handlers_test ?_) (by intro q; cases q)
        have LM := PySem.W.exm_one (M := model X.prog X.w) (J3.kIn) LT hb1
        refine test hc (LM.here ?_)
        cases b with
        | true =>
          refine codeAny_handlers_suite ?_
          refine HandSPX.lands_againZ fl3 fun h4 fl4 up4 => ?_
          have J4 : Inv X pins σ' H' { s' with heap := h4 } := J.landed nb fl4.1 ((up.trans up3).trans up4) os ag
          obtain ⟨oe4, vs4, he4, hz4, hd4⟩ := fl4.there
          have S4 := J4.suite he4 hd4 na nL nF
          refine wpAny_mono ((hsu a oe4 cls d (X.pn ++ pins) hz4 ⟨_, hd4⟩).run [] _ _ H' _ S4 (hyes rfl a na)) (fun f s6 hsp => ?_) (fun _ _ z => False.elim z)
          cases f with
          | next =>
            obtain ⟨σ6, H6, S6, q6⟩ := hsp
            exact ⟨_, _, S6.unsuite ok, q6⟩
          | brk =>
            obtain ⟨σ6, H6, S6, q6⟩ := hsp
            exact ⟨_, _, S6.unsuite ok, q6⟩
          | cont =>
            obtain ⟨σ6, H6, S6, q6⟩ := hsp
            exact ⟨_, _, S6.unsuite ok, q6⟩
          | ret u =>
            obtain ⟨v6, σ6, H6, S6, r6, q6⟩ := hsp
            exact ⟨_, _, _, S6.unsuite ok, r6, q6⟩
        | false =>
          show wpAny _ X.A (handleBy (.ref a) X.env hds2) _ _ _
          exact ih (hno rfl)
      | @named x n i c ts b₀ suite np pos' hds2 l2 hN hi hln hc hsu r ih =>
        intro w
        obtain ⟨b, hb1, hyes, hno⟩ := w
        have hloc : Loc X.env.scope n := .inl hln
        refine wpAny_handleBy_cons (codeAny_handlers_test ?_) (by intro q; cases q)
        have LM := PySem.W.exm_one (M := model X.prog X.w) (J3.kIn) LT hb1
        refine test hc (LM.here ?_)
        cases b with
        | true =>
          refine codeAny_handlers_suite_as ?_
          refine HandSPX.lands_againZ fl3 fun h4 fl4 up4 => ?_
          have J4 : Inv X pins σ' H' { s' with heap := h4 } := J.landed nb fl4.1 ((up.trans up3).trans up4) os ag
          obtain ⟨oe4, vs4, he4, hz4, hd4⟩ := fl4.there
          have S4 := J4.suite he4 hd4 na nL nF
          refine store_ok (X := X.suite a ((a, oe4) :: (X.pn ++ pins))) (v := .ref a) S4 hN hi hloc rfl (fun s5 S5 => ?_) (.inr hln)
          refine wpAny_mono ((hsu a oe4 cls d (X.pn ++ pins) hz4 ⟨_, hd4⟩).run [] s5 _ H' _ S5 (hyes rfl a na)) (fun f s6 hsp => ?_) (fun _ _ z => False.elim z)
          have end_ : ∀ {σ6 : L2.St} {H6 : Hp} {Q : Shared → Prop}, Inv (X.suite a ((a, oe4) :: (X.pn ++ pins))) [] σ6 H6 s6 → (∀ s7, Inv X pins (σ6.set i none) H6 s7 → Q s7) →
              wpAny (model X.prog X.w) X.A (do bindName X.env n .none; unbindBehindTheSuite X.env n pos') (fun _ s7 => Q s7) X.xe s6 := fun {σ6 H6 Q} S6 hq => gone_ok (S6.unsuite ok) hN hi hln hq
          cases f with
          | next =>
            obtain ⟨σ6, H6, S6, q6⟩ := hsp
            exact end_ S6 fun s7 J7 => ⟨_, _, J7, q6⟩
          | brk =>
            obtain ⟨σ6, H6, S6, q6⟩ := hsp
            exact end_ S6 fun s7 J7 => ⟨_, _, J7, q6⟩
          | cont =>
            obtain ⟨σ6, H6, S6, q6⟩ := hsp
            exact end_ S6 fun s7 J7 => ⟨_, _, J7, q6⟩
          | ret u =>
            obtain ⟨v6, σ6, H6, S6, r6, q6⟩ := hsp
            exact end_ S6 fun s7 J7 => ⟨_, _, _, J7, r6, q6⟩
        | false =>
          show wpAny _ X.A (handleBy (.ref a) X.env hds2) _ _ _
          exact ih (hno rfl)
    exact go hh w
  · cases f with
    | next =>
      obtain ⟨σ', H', J', q⟩ := hsp
      exact wpAny_execs_nil ⟨σ', H', J'.ofTry ok, q⟩
    | brk =>
      obtain ⟨σ', H', J', q⟩ := hsp
      exact ⟨σ', H', J'.ofTry ok, q⟩
    | cont =>
      obtain ⟨σ', H', J', q⟩ := hsp
      exact ⟨σ', H', J'.ofTry ok, q⟩
    | ret u =>
      obtain ⟨v, σ', H', J', r, q⟩ := hsp
      exact ⟨v, σ', H', J'.ofTry ok, r, q⟩
end
end Fe

set_option maxHeartbeats 2000000
/-! Fe E: instances of own classes: attributes, methods, making. -/
namespace Fe
open PySem PySem.Spec PyProof.Rows L2
/-- an attribute's place -/
def ixOf (f : Str) : List Str → Nat
  | [] => 0
  | g :: l => if f = g then 0 else ixOf f l + 1
theorem zip_lookup {f : Str} : ∀ {l : List Str} {vs : List V}, vs.length ≤ l.length → (l.zip vs).lookup f = vs[ixOf f l]?
  | [], [], _ => rfl
  | [], _ :: _, h => by simp at h
  | g :: l, [], _ => by simp
  | g :: l, v :: vs, h => by
    have ih := zip_lookup (f := f) (l := l) (vs := vs) (by simpa using h)
    rw [List.zip_cons_cons, List.lookup_cons]
    unfold ixOf
    by_cases e : f = g
    · subst e; simp
    · rw [if_neg e]
      have : (f == g) = false := by simpa using e
      rw [this, ih]
      simp
theorem zip_put {f : Str} {y : V} : ∀ {l : List Str} {vs : List V}, vs.length ≤ l.length → ixOf f l < vs.length → putF f y (l.zip vs) = l.zip (vs.set (ixOf f l) y)
  | [], [], _, h => by simp at h
  | [], _ :: _, h, _ => by simp at h
  | g :: l, [], _, h => by simp at h
  | g :: l, v :: vs, h, h' => by
    rw [List.zip_cons_cons]
    unfold putF
    unfold ixOf at h' ⊢
    by_cases e : f = g
    · subst e; simp
    · rw [if_neg e] at h' ⊢
      have e' : ¬ g = f := fun q => e q.symm
      rw [if_neg e']
      rw [zip_put (l := l) (vs := vs) (by simpa using h) (by simpa using h')]
      simp
theorem zip_add {f : Str} {y : V} : ∀ {l : List Str} {vs : List V}, vs.length < l.length → ixOf f l = vs.length → putF f y (l.zip vs) = l.zip (vs ++ [y])
  | [], _, h, _ => by simp at h
  | g :: l, [], _, h => by
    unfold ixOf at h
    by_cases e : f = g
    · subst e; simp [putF]
    · rw [if_neg e] at h; simp at h
  | g :: l, v :: vs, h, h' => by
    rw [List.zip_cons_cons]
    unfold putF
    unfold ixOf at h'
    by_cases e : f = g
    · rw [if_pos e] at h'; simp at h'
    · rw [if_neg e] at h'
      have e' : ¬ g = f := fun q => e q.symm
      rw [if_neg e']
      rw [zip_add (l := l) (vs := vs) (by simpa using h) (by simpa using h')]
      simp
theorem ixOf_mem {f : Str} : ∀ {l : List Str}, ixOf f l < l.length → f ∈ l
  | [], h => by simp at h
  | g :: l, h => by
    unfold ixOf at h
    by_cases e : f = g
    · rw [e]; exact List.mem_cons_self
    · rw [if_neg e] at h
      exact List.mem_cons_of_mem _ (ixOf_mem (by simpa using h))
/-- an attribute read -/
def fldV (f : Str) : D → S → Out D
  | .ref i, s => match s[i]? with
    | some (.ins c ds) => match ds[ixOf f c.fl]? with
      | some x => .ok x s
      | none => .bad
    | _ => .bad
  | _, _ => .bad
/-- an attribute set -/
def setV (f : Str) : D → D → S → Option S
  | .ref i, y, s => match s[i]? with
    | some (.ins c ds) => if ixOf f c.fl < ds.length then some (s.set i (.ins c (ds.set (ixOf f c.fl) y))) else if ixOf f c.fl = ds.length ∧ ds.length < c.fl.length then some (s.set i (.ins c (ds ++ [y]))) else none
    | _ => none
  | _, _, _ => none
theorem sw_attr {o : Expr} {f : Str} {p : Pos} {line : Nat} {env : PySem.Env} (e : Expr) : swapsWith e (some (.Attribute o f p)) line env = pure false := by cases e <;> rfl
section
variable {X : Cx} {G : Gc} {W : WX} {k : Nat} {f : Addr} {fd : FuncData} {ps : List Str} {x : Str} {p pos pos' apos : Pos} {e o value : Expr} {es : List Expr} {F : List D → S → Out D} {fo fv : Env → S → Out D} {fs : Env → S → Out (List D)} {c : Cl}
theorem ins_ok {K : PySem.W.Frag} {μ : List Addr} {H : Hp} {s : S} {i : Nat} {v : V} {c : Cl} {ds : List D} (r : Rel K μ H s) (rv : RelD K μ H (.ref i) v) (e : s[i]? = some (.ins c ds)) :
    ∃ a dx vs, v = .ref a ∧ μ[i]? = some a ∧ H a = some (.ins (He.ga K c.x) dx (c.fl.zip vs)) ∧ RelDs K μ H ds vs ∧ ds.length ≤ c.fl.length ∧ ClOk K c := by
  obtain ⟨a, rfl, ha⟩ := rv.ref_
  obtain ⟨dx, vs, q, t, l, ok⟩ := r.obj i a _ ha e
  exact ⟨a, dx, vs, rfl, ha, q, t, l, ok⟩
theorem de_fld {f : Str} (he : DE X G W e fo) (hb : plainBase e = true) : DE X G W (.Attribute e f pos) (fun ρ s => (fo ρ s).bind (fldV f)) :=
  pe_imp (pe_fld he (base_ok hb)) fun σ H Q ⟨μ, ρ, s, r, re, h⟩ => d1 r re h fun d s1 μ1 H1 v x1 r1 re1 rv h1 => by
    unfold fldV at h1
    split at h1
    · rename_i i s1
      split at h1
      · rename_i c ds e1
        split at h1
        · rename_i x e2
          obtain ⟨a, dx, vs, rfl, ha, q, t, l, ok⟩ := ins_ok r1 rv e1
          obtain ⟨u, e3, ru⟩ := t.get e2
          have hlt : ixOf f c.fl < ds.length := (List.getElem?_eq_some_iff.mp e2).1
          exact ⟨a, _, dx, _, u, rfl, q, ok.cls, ok.no _ (ixOf_mem (by omega)), by rw [zip_lookup (by rw [t.length]; exact l)]; exact e3, h1.ok_ r1 _ ru⟩
        · exact h1.elim
      · exact h1.elim
    · exact h1.elim
theorem ds_fld {f : Str} (hv : DE X G W value fv) (ho : DE X G W o fo) :
    DS X G W (.Assign [.Attribute o f pos'] value pos) (fun ρ s => lift (fv ρ s) ρ fun y s => lift (fo ρ s) ρ fun d s => match setV f d y s with | some s' => .nx ρ s' | none => .bad) :=
  ps_imp (ps_fld ho hv (sw_attr value)) fun D σ H ⟨μ, ρ, s, r, re, h⟩ => dS1 (e := value) r re h fun y s1 μ1 H1 w x1 r1 re1 rw1 h1 => dS1 (e := o) r1 re1 h1 fun d s2 μ2 H2 v x2 r2 re2 rv h2 => by
    split at h2
    · rename_i s' e
      cases d with
      | ref i =>
        dsimp only [setV] at e
        split at e
        · rename_i c ds e1
          obtain ⟨a, dx, vs, rfl, ha, q, t, l, ok⟩ := ins_ok r2 rv e1
          have hl : vs.length ≤ c.fl.length := by rw [t.length]; exact l
          have few : (c.fl.zip vs).length < 1000 := by
            have := ok.few
            rw [List.length_zip]; omega
          have rw2 := rw1.mono x2
          split at e
          · rename_i hlt
            cases e
            refine ⟨a, _, dx, _, rfl, q, ok.cls, ok.no _ (ixOf_mem (by omega)), few, ?_⟩
            rw [zip_put hl (by rw [t.length]; exact hlt)]
            obtain ⟨r', x'⟩ := r2.put (u := .ins (He.ga X.K c.x) dx (c.fl.zip (vs.set (ixOf f c.fl) w))) (o := .ins c (ds.set (ixOf f c.fl) y)) ha (.ins q) fun x => ⟨dx, _, upd_same, (t.mono x).set _ (rw2.mono x), by rw [List.length_set]; exact l, ok⟩
            exact h2 _ _ σ x' r' (re2.mono x')
          · split at e
            · rename_i hh
              cases e
              refine ⟨a, _, dx, _, rfl, q, ok.cls, ok.no _ (ixOf_mem (by omega)), few, ?_⟩
              rw [zip_add (by rw [t.length]; exact hh.2) (by rw [t.length]; exact hh.1)]
              obtain ⟨r', x'⟩ := r2.put (u := .ins (He.ga X.K c.x) dx (c.fl.zip (vs ++ [w]))) (o := .ins c (ds ++ [y])) ha (.ins q) fun x => ⟨dx, _, upd_same, (t.mono x).append (relCons (rw2.mono x) relNil), by rw [List.length_append, List.length_singleton]; omega, ok⟩
              exact h2 _ _ σ x' r' (re2.mono x')
            · cases e
        · cases e
      | _ => cases e
    · exact h2.elim
end
end Fe

set_option maxHeartbeats 2000000
/-! Fe F: methods of own classes, making instances. -/
namespace Fe
open PySem PySem.Spec PyProof.Rows L2
def clIs (c : Cl) (s : S) : D → Bool
  | .ref i => match s[i]? with
    | some (.ins b _) => decide (b.id = c.id) && decide (b = c)
    | _ => false
  | _ => false
theorem clIs_ok {K : PySem.W.Frag} {μ : List Addr} {H : Hp} {s : S} {d : D} {v : V} {c : Cl} (r : Rel K μ H s) (rv : RelD K μ H d v) (e : clIs c s d = true) :
    ∃ a dx vs, v = .ref a ∧ H a = some (.ins (He.ga K c.x) dx (c.fl.zip vs)) ∧ vs.length ≤ c.fl.length ∧ ClOk K c := by
  cases d with
  | ref i =>
    dsimp only [clIs] at e
    split at e
    · rename_i b ds e1
      obtain ⟨_, e2⟩ := Bool.and_eq_true_iff.mp e
      have e3 := of_decide_eq_true e2
      subst e3
      obtain ⟨a, dx, vs, rfl, ha, q, t, l, ok⟩ := ins_ok r rv e1
      exact ⟨a, dx, vs, rfl, q, by rw [t.length]; exact l, ok⟩
    · cases e
  | _ => cases e
theorem ixOf_none {f : Str} : ∀ {l : List Str}, f ∉ l → ixOf f l = l.length
  | [], _ => rfl
  | g :: l, h => by
    unfold ixOf
    rw [if_neg (fun e => h (by rw [e]; exact List.mem_cons_self)), ixOf_none fun q => h (List.mem_cons_of_mem _ q)]
    rfl
theorem meth_eq {o : Expr} {m : Str} {apos pos : Pos} {es : List Expr} {env : PySem.Env} (hb : plainBase o = true) (hs : es.all notStar = true) (h30 : es.length < 30) (hl : (apos.endLine == pos.line) = true) :
    eval (.Call (.Attribute o m apos) es [] pos) env = (do
      let ov ← eval o env
      standAt apos.atName
      let (f, first) ← holding [ov] (getMethod ov m (do return (← importBound o env).getD true))
      callWith pos f first (backTo pos (starEach es env)) (backToKw pos (keywordEach [] env))) := by
  have few : methodCallForm (es.length + ([] : List Keyword).length) (backTo pos (starEach es env)) (backToKw pos (keywordEach [] env)) = true := few_ok hs h30
  rw [arm_eval_Call, base_ok hb]
  unfold methodCall
  rw [few]
  unfold methodCallPos
  simp only [hl, Bool.or_true, if_true]
  rfl
section
variable {X : Cx} {G : Gc} {W : WX} {k : Nat} {f : Addr} {fd : FuncData} {ps : List Str} {x m : Str} {p pos apos : Pos} {e o : Expr} {es : List Expr} {F : List D → S → Out D} {fo : Env → S → Out D} {fs : Env → S → Out (List D)} {c : Cl}
/-- a method of c -/
structure MtUse (X : Cx) (G : Gc) (c : Cl) (m : Str) (F : List D → S → Out D) (n : Nat) (k : Nat) (f : Addr) (fd : FuncData) (ps : List Str) : Prop where
  len : ps.length = n
  fn : FnG X.prog X.w X.K X.mg X.base G k f fd ps F
  room : Room k X.A
  mt : Meth X.K (He.ga X.K c.x) m f
  no : m ∉ c.fl
  bd : Binds X.K fd ps []
  na : ∀ ds s, F ds s ≠ .bad → ds.length = n
theorem de_mt (M : MtUse X G c m F (es.length + 2) k f fd ps) (hgd : X.A.guards = some []) (tk : Takes X W) (ho : DE X G W o fo) (ha : DA X G W (e :: es) fs) (hb : plainBase o = true) (hl : (apos.endLine == pos.line) = true) (hs : notStar e = true) (hss : es.all notStar = true) (h30 : es.length + 1 < 30) :
    DE X G W (.Call (.Attribute o m apos) (e :: es) [] pos) (fun ρ s => (fo ρ s).bind fun d s => if clIs c s d = true then (fs ρ s).bind fun ds s => F (d :: ds) s else .bad) := by
  refine ⟨fun pins s0 σ H Q I hh => ?_⟩
  obtain ⟨μ, ρ, s, r, re, h⟩ := hh
  have to' : tD X.K G W fo σ H (fun x H1 => ∃ a dx fl, x = .ref a ∧ H1 a = some (.ins (He.ga X.K c.x) dx fl) ∧ Cls X.K (He.ga X.K c.x) ∧ fl.lookup m = none ∧ tA X.K G W fs σ H1 (fun vs H2 => spF X.K G ps.length F (x :: vs) H2 Q (fun c d H' => W c d σ H'))) :=
    d1 r re h fun d s1 μ1 H1 v x1 r1 re1 rv h1 => by
      split at h1
      · rename_i hc
        obtain ⟨a, dx, vs, rfl, q, l, ok⟩ := clIs_ok r1 rv hc
        refine ⟨a, dx, _, rfl, q, ok.cls, ?_, dA1 r1 re1 h1 fun ds s2 μ2 H2 vs x2 r2 re2 rvs h2 => spF_of r2 (relCons (rv.mono x2) rvs) (fun ds s hn => by rw [M.na ds s hn, M.len]) h2⟩
        rw [zip_lookup l, ixOf_none M.no]
        exact List.getElem?_eq_none_iff.mpr l
      · exact h1.elim
  refine PySem.W.methodCall_KW (thn (ho.run pins s0 σ H _ I to') fun u s1 ⟨x, H1, I1, rx, a, dx, fl, ex, ea, hc, l, q⟩ => ?_) (meth_eq hb (by rw [List.all_cons, hs, hss]; rfl) (by simpa using h30) hl)
  subst ex
  obtain rfl : u = Value.ref a := rx
  refine getmeth_ok I1 ea hc M.mt l ?_
  refine PySem.W.callWith_K (first := [.ref a]) (h₀ := X.base) I.ok.mod.kin M.mt.kp (thn (ha.run pos pins s1 σ H1 _ I1 q) fun us s2 ⟨vs, H2, I2, r2, q2⟩ => ⟨I2.kIn, ?_⟩) (star_ns hs) (star_any hss)
  exact run_fnG (us := .ref a :: us) (vs := .ref a :: vs) M.fn M.room hgd M.bd tk I2 (.cons rfl r2) q2
theorem de_mt0 (M : MtUse X G c m F 1 k f fd ps) (hgd : X.A.guards = some []) (tk : Takes X W) (ho : DE X G W o fo) (hb : plainBase o = true) (hl : (apos.endLine == pos.line) = true) :
    DE X G W (.Call (.Attribute o m apos) [] [] pos) (fun ρ s => (fo ρ s).bind fun d s => if clIs c s d = true then F [d] s else .bad) := by
  refine ⟨fun pins s0 σ H Q I hh => ?_⟩
  obtain ⟨μ, ρ, s, r, re, h⟩ := hh
  have to' : tD X.K G W fo σ H (fun x H1 => ∃ a dx fl, x = .ref a ∧ H1 a = some (.ins (He.ga X.K c.x) dx fl) ∧ Cls X.K (He.ga X.K c.x) ∧ fl.lookup m = none ∧ spF X.K G ps.length F [x] H1 Q (fun c d H' => W c d σ H')) :=
    d1 r re h fun d s1 μ1 H1 v x1 r1 re1 rv h1 => by
      split at h1
      · rename_i hc
        obtain ⟨a, dx, vs, rfl, q, l, ok⟩ := clIs_ok r1 rv hc
        refine ⟨a, dx, _, rfl, q, ok.cls, ?_, spF_of r1 (relCons rv relNil) (fun ds s hn => by rw [M.na ds s hn, M.len]) h1⟩
        rw [zip_lookup l, ixOf_none M.no]
        exact List.getElem?_eq_none_iff.mpr l
      · exact h1.elim
  refine PySem.W.methodCall_KW (thn (ho.run pins s0 σ H _ I to') fun u s1 ⟨x, H1, I1, rx, a, dx, fl, ex, ea, hc, l, q⟩ => ?_) (meth_eq hb rfl (by decide) hl)
  subst ex
  obtain rfl : u = Value.ref a := rx
  refine getmeth_ok I1 ea hc M.mt l ?_
  exact PySem.W.callWith_K0 (first := [.ref a]) I1.kIn M.mt.kp (run_fnG (us := [.ref a]) (vs := [.ref a]) M.fn M.room hgd M.bd tk I1 (.cons rfl .nil) q)
end
end Fe

set_option maxHeartbeats 2000000
/-! Fe G: a new instance of an own class with an own __init__. -/
namespace Fe
open PySem PySem.Spec PyProof.Rows L2
def asNon (i : Nat) : D → S → Out D
  | .non, s => .ok (.ref i) s
  | _, _ => .bad
def mkV (c : Cl) (F : List D → S → Out D) (ds : List D) (s : S) : Out D := (F (.ref s.length :: ds) (s ++ [.ins c []])).bind (asNon s.length)
theorem make_guards {A : Around} {C : Addr} {us : List Value} (h : A.guards = some []) : (A.under (.builtin "type.__call__" ⟨.ref C :: us, []⟩)).guards = some [] := by
  unfold Around.under
  dsimp only
  rw [h, pushGuards_eq]
  unfold Code.guards
  rfl
section
variable {X : Cx} {G : Gc} {W : WX} {k : Nat} {f : Addr} {fd : FuncData} {ps : List Str} {x m : Str} {p pos apos : Pos} {e o : Expr} {es : List Expr} {F : List D → S → Out D} {fs : Env → S → Out (List D)} {c : Cl}
/-- c's making by its __init__ -/
structure MkUse (X : Cx) (G : Gc) (c : Cl) (F : List D → S → Out D) (n : Nat) (k : Nat) (f : Addr) (fd : FuncData) (ps : List Str) : Prop where
  len : ps.length = n + 1
  fn : FnG X.prog X.w X.K X.mg X.base G k f fd ps F
  room : Room (k + 1) X.A
  mkf : Mk X.K (He.ga X.K c.x) f
  glo : X.mg c.x = some (.ref (He.ga X.K c.x))
  cl : ClOk X.K c
  bd : Binds X.K fd ps []
  na : ∀ ds s, F ds s ≠ .bad → ds.length = n + 1
theorem run_makeG {n : Nat} (M : MkUse X G c F n k f fd ps) (hgd : X.A.guards = some []) (tk : Takes X W) {pins : List (Addr × Obj)} {σ : L2.St} {H : Hp} {s : Shared} {Q : VK} {us : List Value} {vs : List V} (I : Inv X pins σ H s) (r : Vals vs us)
    (h : ∃ μ t ds, Rel X.K μ H t ∧ RelDs X.K μ H ds vs ∧ Fin X.K G μ H (fun c d H' => W c d σ H') (mkV c F ds t) (qD X.K Q)) :
    wpAny (model X.prog X.w) X.A (call (.ref (He.ga X.K c.x)) us) (EP X pins σ Q) X.xe s := by
  obtain ⟨μ, t, ds, rel, rds, fin⟩ := h
  have ne : s.heap.objs.size + 1 ≠ s.heap.objs.size := by omega
  have h1 : H s.heap.objs.size = none := I.hok.fresh (Nat.le_refl _)
  have h2 : H (s.heap.objs.size + 1) = none := I.hok.fresh (Nat.le_succ _)
  obtain ⟨ra, xa⟩ := rel.new (u := .own (s.heap.objs.size + 1)) h1
  obtain ⟨rb, xb, eb⟩ := ra.push (u := .ins (He.ga X.K c.x) s.heap.objs.size []) (o := .ins c []) (p := s.heap.objs.size + 1) (by rw [upd_ne ne]; exact h2) fun _ => ⟨s.heap.objs.size, [], by rw [upd_same]; simp, relNil, Nat.zero_le _, M.cl⟩
  have X2 := xa.trans xb
  have I2 := Inv.made (C := He.ga X.K c.x) I
  have r2 : Vals (V.ref (s.heap.objs.size + 1) :: vs) (Value.ref (s.heap.objs.size + 1) :: us) := .cons rfl r
  unfold mkV at fin
  have fin2 := (Fin.ext X2 fin.bind)
  have hq : spF X.K G ps.length F (V.ref (s.heap.objs.size + 1) :: vs) (upd (upd H s.heap.objs.size (.own (s.heap.objs.size + 1))) (s.heap.objs.size + 1) (.ins (He.ga X.K c.x) s.heap.objs.size []))
      (fun v H' => v = .non ∧ Q (.ref (s.heap.objs.size + 1)) H') (fun c d H' => W c d σ H') := by
    refine spF_of rb (relCons (relRef eb) (rds.mono X2)) (fun ds s hn => by rw [M.na ds s hn, M.len]) (fin2.imp fun d s3 μ3 H3 x3 r3 h3 v rv => ?_)
    unfold asNon at h3
    split at h3
    · exact ⟨rv.non_, h3.ok_ r3 _ (relRef (pre_get x3.pre eb))⟩
    · exact h3.elim
  have hl : (Value.ref (s.heap.objs.size + 1) :: us).length = ps.length := by
    have := r2.length
    have h' := hq.1
    rw [this] at h'
    exact h'
  have b := M.bd _ (Value.ref (s.heap.objs.size + 1) :: us) I2.kIn (by rw [List.append_nil]; exact hl)
  rw [List.append_nil] at b
  refine wpAny_call (make_map (f := f) I.kIn M.mkf.makes M.mkf.init (beq_iff_eq.mp M.mkf.fn) (codeAny_mono (M.fn.run _ X.stack _ _ ⟨Value.ref (s.heap.objs.size + 1) :: us, []⟩ _ _ _ (fun c d H' => W c d σ H') (M.room.make _ us []) (make_guards hgd)
    (I2.env0.make _ us []) b r2 hq) fun r s' hq' => ?_))
  cases r with
  | error e => exact passAt tk σ pins _ _ e s' I2 hq'
  | ok fl =>
    cases fl with
    | ret u =>
      obtain ⟨v, H', I3, rv, ev, q3⟩ := I2.after hq'
      subst ev
      exact ⟨rv, ⟨V.ref (s.heap.objs.size + 1), H', I3, rfl, q3⟩⟩
    | next => exact False.elim hq'
    | brk => exact False.elim hq'
    | cont => exact False.elim hq'
theorem de_mk (M : MkUse X G c F (es.length + 1) k f fd ps) (hgd : X.A.guards = some []) (tk : Takes X W) (hg : Gl X c.x) (hdb : (c.x == ("__debug__" : Str)) = false) (ha : DA X G W (e :: es) fs) (hs : notStar e = true) (hss : es.all notStar = true) :
    DE X G W (.Call (.Name c.x p) (e :: es) [] pos) (fun ρ s => (fs ρ s).bind (mkV c F)) := by
  refine ⟨fun pins s0 σ H Q I hh => ?_⟩
  obtain ⟨μ, ρ, s, r, re, h⟩ := hh
  refine wpAny_Call_Name_kw (ld_glob I hg M.glo ?_ hdb)
  have ta : tA X.K G W fs σ H (fun vs H1 => ∃ μ t ds, Rel X.K μ H1 t ∧ RelDs X.K μ H1 ds vs ∧ Fin X.K G μ H1 (fun c d H' => W c d σ H') (mkV c F ds t) (qD X.K Q)) := dA1 r re h fun ds s1 μ1 H1 vs x1 r1 re1 rv1 h1 => ⟨μ1, s1, ds, r1, rv1, h1⟩
  refine PySem.W.callWith_K (h₀ := X.base) I.ok.mod.kin M.mkf.kp (thn (ha.run pos pins s0 σ H _ I ta) fun us s1 ⟨vs, H1, I1, r1, q⟩ => ⟨I1.kIn, ?_⟩) (star_ns hs) (star_any hss)
  exact run_makeG M hgd tk I1 r1 q
theorem de_mk0 (M : MkUse X G c F 0 k f fd ps) (hgd : X.A.guards = some []) (tk : Takes X W) (hg : Gl X c.x) (hdb : (c.x == ("__debug__" : Str)) = false) :
    DE X G W (.Call (.Name c.x p) [] [] pos) (fun _ s => mkV c F [] s) := by
  refine ⟨fun pins s0 σ H Q I hh => ?_⟩
  obtain ⟨μ, ρ, s, r, re, h⟩ := hh
  refine wpAny_Call_Name_kw (ld_glob I hg M.glo ?_ hdb)
  exact PySem.W.callWith_K0 I.kIn M.mkf.kp (run_makeG (us := []) M hgd tk I .nil ⟨μ, s, [], r, relNil, h⟩)
end
end Fe

set_option maxHeartbeats 2000000
/-! Fe H: properties of own classes, read; a getter that raises is not told. -/
namespace Fe
open PySem PySem.Spec PyProof.Rows L2
def noExcD : Out D → Out D
  | .ok d s => .ok d s
  | _ => .bad
section
variable {X : Cx} {G : Gc} {W : WX} {k : Nat} {f g p : Addr} {fd : FuncData} {ps : List Str} {m : Str} {pos apos : Pos} {e o : Expr} {F : List D → S → Out D} {fo : Env → S → Out D} {c : Cl}
structure PrUse (X : Cx) (G : Gc) (c : Cl) (m : Str) (F : List D → S → Out D) (k : Nat) (p f : Addr) (fd : FuncData) (ps : List Str) : Prop where
  len : ps.length = 1
  fn : FnG X.prog X.w X.K X.mg X.base G k f fd ps F
  room : Room (k + 1) X.A
  pr : PropOf X.K (He.ga X.K c.x) m p f
  bd : Binds X.K fd ps []
theorem de_prop (M : PrUse X G c m F k p f fd ps) (hgd : X.A.guards = some []) (ho : DE X G W o fo) (hb : plainBase o = true) :
    DE X G W (.Attribute o m pos) (fun ρ s => (fo ρ s).bind fun d s => if clIs c s d = true then noExcD (F [d] s) else .bad) := by
  refine ⟨fun pins s0 σ H Q I hh => ?_⟩
  obtain ⟨μ, ρ, s, r, re, h⟩ := hh
  have to' : tD X.K G W fo σ H (fun x H1 => ∃ a dx fl, x = .ref a ∧ H1 a = some (.ins (He.ga X.K c.x) dx fl) ∧ Cls X.K (He.ga X.K c.x) ∧ spF X.K G ps.length F [x] H1 Q (fun _ _ _ => False)) :=
    d1 r re h fun d s1 μ1 H1 v x1 r1 re1 rv h1 => by
      split at h1
      · rename_i hc
        obtain ⟨a, dx, vs, rfl, q, l, ok⟩ := clIs_ok r1 rv hc
        refine ⟨a, dx, _, rfl, q, ok.cls, by rw [M.len]; rfl, μ1, s1, [d], r1, relCons rv relNil, ?_⟩
        cases hF : F [d] s1 with
        | ok d2 s2 => rw [hF] at h1; exact h1
        | exc x s2 => rw [hF] at h1; exact h1.elim
        | bad => rw [hF] at h1; exact h1.elim
      · exact h1.elim
  refine attr_of (base_ok hb) (thn (ho.run pins s0 σ H _ I to') fun u s1 ⟨x, H1, I1, rx, a, dx, fl, ex, ea, cl, q⟩ => ?_)
  subst ex
  obtain rfl : u = Value.ref a := rx
  obtain ⟨mA, O, _, _, _, _⟩ := ins_get I1.hok ea
  obtain ⟨od, J, _⟩ := O.look
  obtain ⟨rest, hrec⟩ := M.pr.rec_
  have I2 := I1.tok (s1.toks + 1)
  have hc : (PySem.W.clsIn X.K (He.ga X.K c.x)).isSome = true := by
    obtain ⟨cd, hc, _⟩ := PySem.W.any_some cl.hd
    rw [hc]
    rfl
  have b := M.bd { s1 with toks := s1.toks + 1 } [.ref a] I2.kIn (by rw [M.len]; rfl)
  rw [List.append_nil] at b
  refine PySem.W.get_bind I1.kIn J (PySem.W.plainGet_of (cl.get m)).1 (PySem.W.findObj_data hc M.pr.at_ M.pr.get M.pr.tak) (PySem.W.plainGet_of (cl.get m)).2 (wpAny_call (PySem.W.prop_get (s := { s1 with toks := s1.toks + 1 }) I1.kIn hrec ?_))
  refine codeAny_mono (M.fn.run X.A.in1 X.stack { s1 with toks := s1.toks + 1 } H1 ⟨[.ref a], []⟩ [.ref a] [.ref a] Q (fun _ _ _ => False) M.room.in1 hgd I2.env0.in1 b (.cons rfl .nil) q) fun r s' hq => ?_
  cases r with
  | error er =>
    obtain ⟨_, _, _, _, _, _, _, _, _, _, _, _, z⟩ := hq
    cases z
  | ok fl =>
    cases fl with
    | ret u =>
      obtain ⟨v, H', I3, rv, q3⟩ := I2.after hq
      show wpAny _ _ (handedOut u) _ _ _
      rw [PySem.W.handedOut_of (handed_of rv)]
      exact wpAny_pure ⟨v, H', I3, rv, q3⟩
    | next => exact False.elim hq
    | brk => exact False.elim hq
    | cont => exact False.elim hq
end
end Fe

set_option maxHeartbeats 2000000
/-! Fe I: in and not in by an own __contains__. -/
namespace Fe
open PySem PySem.Spec PyProof.Rows L2
def asBl (g : Bool → Bool) : D → S → Out D
  | .bl b, s => .ok (.bl (g b)) s
  | _, _ => .bad
section
variable {X : Cx} {G : Gc} {W : WX} {k : Nat} {f : Addr} {fd : FuncData} {ps : List Str} {m : Str} {pos : Pos} {a b : Expr} {F : List D → S → Out D} {fa fb : Env → S → Out D} {c : Cl}
/-- an own special method -/
structure SpUse (X : Cx) (G : Gc) (c : Cl) (m : Str) (F : List D → S → Out D) (n : Nat) (k : Nat) (f : Addr) (fd : FuncData) (ps : List Str) : Prop where
  len : ps.length = n
  fn : FnG X.prog X.w X.K X.mg X.base G k f fd ps F
  room : Room (k + 1) X.A
  at_ : PySem.W.findIn X.K (.ref (He.ga X.K c.x)) m = some (some (.ref f))
  isf : PySem.W.isFn X.K (.ref f) = true
  bd : Binds X.K fd ps []
  na : ∀ ds s, F ds s ≠ .bad → ds.length = n
theorem SpUse.room0 {n : Nat} (M : SpUse X G c m F n k f fd ps) : Room k X.A := M.room.mono (Nat.le_succ k)
/-- what the call is to be told of -/
def rOwnC (X : Cx) (G : Gc) (W : WX) (c : Cl) (F : List D → S → Out D) (n : Nat) (g : Bool → Bool) (σ : L2.St) : R2 := fun x y H Q => ∃ a dx fl, y = .ref a ∧ H a = some (.ins (He.ga X.K c.x) dx fl) ∧
  spF X.K G n F [y, x] H (fun v H' => ∃ b, v = .bl b ∧ Q (.bl (g b)) H') (fun c d H' => W c d σ H')
theorem ownC_fin (g : Bool → Bool) {μ : List Addr} {H : Hp} {s : S} {d : D} {W' : XK} {Q : VK} {o : Out D} (h : Fin X.K G μ H W' (o.bind (asBl g)) (qD X.K Q)) : Fin X.K G μ H W' o (qD X.K fun v H' => ∃ b, v = .bl b ∧ Q (.bl (g b)) H') :=
  h.bind.imp fun d s3 μ3 H3 x3 r3 h3 v rv => by
    unfold asBl at h3
    split at h3
    · rename_i b
      exact ⟨_, rv.bl_, h3.ok_ r3 _ relBl⟩
    · exact h3.elim
theorem ownC_red (M : SpUse X G c m F 2 k f fd ps) (g : Bool → Bool) {σ : L2.St} {H : Hp} {Q : VK} (h : tD X.K G W (fun ρ s => (fa ρ s).bind fun x s => (fb ρ s).bind fun y s => if clIs c s y = true then (F [y, x] s).bind (asBl g) else .bad) σ H Q) :
    tOp (rOwnC X G W c F ps.length g σ) (tD X.K G W fa) (tD X.K G W fb) σ H Q := by
  obtain ⟨μ, ρ, s, r, re, h⟩ := h
  refine d1 r re h fun x s1 μ1 H1 v1 x1 r1 re1 rv1 h1 => d1 r1 re1 h1 fun y s2 μ2 H2 v2 x2 r2 re2 rv2 h2 => ?_
  split at h2
  · rename_i hc
    obtain ⟨a, dx, vs, rfl, q, l, ok⟩ := clIs_ok r2 rv2 hc
    exact ⟨a, dx, _, rfl, q, spF_of r2 (relCons rv2 (relCons (rv1.mono x2) relNil)) (fun ds s hn => by rw [M.na ds s hn, M.len]) (ownC_fin (s := s2) (d := y) g h2)⟩
  · exact h2.elim
theorem ownC_run {op : CmpOp} (M : SpUse X G c m F 2 k f fd ps) (hgd : X.A.guards = some []) (tk : Takes X W) (g : Bool → Bool) (σ : L2.St)
    (ho : ∀ {s : Shared} {x : Addr} {ox : Obj} {od : Option Obj} {v : Value} {Q : Value → Shared → Prop}, X.K.In s.heap → PySem.W.InstAt s.heap x ox (He.ga X.K c.x) od →
      wpAny (model X.prog X.w) X.A (call (.ref f) [.ref x, v]) (fun r s' => wpAny (model X.prog X.w) X.A (truthy r) (fun b => Q (.bool (g b))) X.xe s') X.xe s → wpAny (model X.prog X.w) X.A (compareOp op v (.ref x)) Q X.xe s)
    (pins : List (Addr × Obj)) (s : Shared) (H : Hp) (x y : V) (v u : Value) (Q : VK) (I : Inv X pins σ H s) (rx : RelV x v) (ry : RelV y u) (h : rOwnC X G W c F ps.length g σ x y H Q) : wpAny (model X.prog X.w) X.A (compareOp op v u) (EP X pins σ Q) X.xe s := by
  obtain ⟨a, dx, fl, rfl, ea, q⟩ := h
  obtain rfl : u = Value.ref a := ry
  obtain ⟨mA, O, _, _, _, _⟩ := ins_get I.hok ea
  obtain ⟨od, J, _⟩ := O.look
  refine ho I.kIn J (thn (run_fnG (us := [.ref a, v]) (vs := [.ref a, x]) M.fn M.room0 hgd M.bd tk I (.cons rfl (.cons rx .nil)) q) fun r s' ⟨z, H', I', rz, b, e, q'⟩ => ?_)
  subst e
  cases rz
  exact wpAny_truthy_bool ⟨.bl (g b), H', I', rfl, q'⟩
theorem in_at {K : PySem.W.Frag} {M : Model} {A : Around} {E : Value → Shared → Prop} {s : Shared} {x C f : Addr} {ox : Obj} {od : Option Obj} {v : Value} {Q : Bool → Shared → Prop} (hI : K.In s.heap) (I : PySem.W.InstAt s.heap x ox C od) (hs : PySem.W.findIn K (.ref C) "__contains__" = some (some (.ref f))) (hf : PySem.W.isFn K (.ref f) = true)
    (h : wpAny M A (call (.ref f) [.ref x, v]) (fun r s' => wpAny M A (truthy r) Q E s') E s) : wpAny M A (contains (.ref x) v) Q E s := by
  unfold contains
  refine wpAny_holding (wpAny_bind (wpAny_bind (I.type.here ((PySem.W.looks_findIn hI hs).here ?_))))
  rw [if_neg (by simp)]
  exact wpAny_bind (PySem.W.unlessNone_K hI I hs hf h)
theorem de_ownIn (M : SpUse X G c "__contains__" F 2 k f fd ps) (hgd : X.A.guards = some []) (tk : Takes X W) (ha : DE X G W a fa) (hb : DE X G W b fb) (hm : behindInMarks .In b = false) :
    DE X G W (.Compare a [.In] [b] pos) (fun ρ s => (fa ρ s).bind fun x s => (fb ρ s).bind fun y s => if clIs c s y = true then (F [y, x] s).bind (asBl id) else .bad) := by
  refine ⟨fun pins s σ H Q I h => wpAny_Compare1 (binT ha hb I (ownC_red M id h) fun v u s2 x y H2 I2 rx ry q => ownC_run M hgd tk id σ (fun hI J h => ?_) pins s2 H2 x y v u Q I2 rx ry q) hm⟩
  exact wpAny_bind (in_at hI J M.at_ M.isf (wpAny_mono h (fun _ _ z => wpAny_mono z (fun _ _ z => wpAny_pure z) fun _ _ z => z) fun _ _ z => z))
theorem de_ownNotIn (M : SpUse X G c "__contains__" F 2 k f fd ps) (hgd : X.A.guards = some []) (tk : Takes X W) (ha : DE X G W a fa) (hb : DE X G W b fb) (hm : behindInMarks .NotIn b = false) :
    DE X G W (.Compare a [.NotIn] [b] pos) (fun ρ s => (fa ρ s).bind fun x s => (fb ρ s).bind fun y s => if clIs c s y = true then (F [y, x] s).bind (asBl (!·)) else .bad) := by
  refine ⟨fun pins s σ H Q I h => wpAny_Compare1 (binT ha hb I (ownC_red M (!·) h) fun v u s2 x y H2 I2 rx ry q => ownC_run M hgd tk (!·) σ (fun hI J h => ?_) pins s2 H2 x y v u Q I2 rx ry q) hm⟩
  exact wpAny_bind (in_at hI J M.at_ M.isf (wpAny_mono h (fun _ _ z => wpAny_mono z (fun _ _ z => wpAny_pure z) fun _ _ z => z) fun _ _ z => z))
end
end Fe

set_option maxHeartbeats 2000000
/-! Fe J: len(o) by an own __len__; o as a test by an own __bool__; o[i] by an own __getitem__. -/
namespace Fe
open PySem PySem.Spec PyProof.Rows L2
section
variable {X : Cx} {G : Gc} {W : WX} {k : Nat} {f : Addr} {fd : FuncData} {ps : List Str} {m : Str} {pos p : Pos} {a b e : Expr} {F : List D → S → Out D} {fa fb fo : Env → S → Out D} {c : Cl}
theorem run_fnG1 {pins : List (Addr × Obj)} {σ : L2.St} {H : Hp} {s : Shared} {Q : VK} {us : List Value} {vs : List V} (hF : FnG X.prog X.w X.K X.mg X.base G k f fd ps F) (hr : Room (k + 1) X.A) (hg : X.A.guards = some []) (hb : Binds X.K fd ps []) (tk : Takes X W)
    (I : Inv X pins σ H s) (r : Vals vs us) (h : spF X.K G ps.length F vs H Q (fun c d H' => W c d σ H')) : wpAny (model X.prog X.w) X.A.in1 (call (.ref f) us) (EP X pins σ Q) X.xe s := by
  have hl : us.length = ps.length := by rw [← r.length]; exact h.1
  have b := hb s us I.kIn (by rw [List.append_nil]; exact hl)
  rw [List.append_nil] at b
  refine wpAny_call (codeAny_mono (hF.run X.A.in1 X.stack s H ⟨us, []⟩ us vs Q _ hr.in1 hg I.env0.in1 b r h) fun r s' hq => ?_)
  cases r with
  | error e => exact passAt tk σ pins H s e s' I hq
  | ok fl =>
    cases fl with
    | ret u => exact I.after hq
    | next => exact False.elim hq
    | brk => exact False.elim hq
    | cont => exact False.elim hq
def asLen : D → S → Out D
  | .int n, s => if 0 ≤ n ∧ n < 9223372036854775808 then .ok (.int n) s else .bad
  | _, _ => .bad
theorem len_at {prog : Program} {w : World} {A : Around} {E : Value → Shared → Prop} {s : Shared} {K : PySem.W.Frag} {x C f : Addr} {ox : Obj} {od : Option Obj} {Q : Value → Shared → Prop} (hI : K.In s.heap) (I : PySem.W.InstAt s.heap x ox C od) (hs : PySem.W.findIn K (.ref C) "__len__" = some (some (.ref f))) (hf : PySem.W.isFn K (.ref f) = true)
    (h : wpAny (model prog w) A.in1 (call (.ref f) [.ref x]) (PySem.W.LenBack Q) E s) : wpAny (model prog w) A (call (.builtin "len") [.ref x]) Q E s := by
  refine PySem.Calls.call_function_entry kind_len plain_len entry_len (args_len1 _) ?_
  unfold Builtin.«len»
  refine wpAny_bind (m := oneArg "len" _) (wpAny_pure ?_)
  refine wpAny_bind (m := callSpecial? (.ref x) (Str.ofString "__len__")) (PySem.W.special_fn hI I hs (beq_iff_eq.mp hf) (wpAny_mono h (fun r s' hr => ?_) fun _ _ y => y))
  cases r <;> first | exact hr.elim | skip
  rename_i n u
  obtain ⟨⟨h0, h1⟩, hq⟩ := hr
  refine wpAny_bind (wpAny_holding (wpAny_pure ?_))
  refine wpAny_bind (wpAny_letGo ?_)
  show wpAny _ _ (if n < 0 then _ else _) _ _ _
  rw [if_neg (by omega)]
  show wpAny _ _ (if n ≥ 2 ^ 63 then _ else _) _ _ _
  rw [if_neg (by omega)]
  exact wpAny_bind (wpAny_mkInt (wpAny_pure ⟨_, rfl, hq⟩))
def lenOwn (c : Cl) (F : List D → S → Out D) : List D → S → Out D
  | [d], s => if clIs c s d = true then (F [d] s).bind asLen else .bad
  | _, _ => .bad
theorem de_ownLen {fs : Env → S → Out (List D)} (M : SpUse X G c "__len__" F 1 k f fd ps) (hgd : X.A.guards = some []) (tk : Takes X W) (hg : Gl X "len") (hm : X.mg "len" = none) (ha : DA X G W [e] fs) (hs : notStar e = true) :
    DE X G W (.Call (.Name "len" p) [e] [] pos) (fun ρ s => (fs ρ s).bind (lenOwn c F)) := by
  refine ⟨fun pins s0 σ H Q I hh => ?_⟩
  obtain ⟨μ, ρ, s, r, re, h⟩ := hh
  refine wpAny_Call_Name_kw (ld_blt I hg hm (show bootBuiltins "len" = some (.builtin "len") by decide +kernel) ?_ (by decide) (by decide))
  have ta : tA X.K G W fs σ H (fun vs H1 => ∃ a dx fl, vs = [V.ref a] ∧ H1 a = some (.ins (He.ga X.K c.x) dx fl) ∧ spF X.K G ps.length F [.ref a] H1 (fun v H' => ∃ n, v = .int n ∧ (0 ≤ n ∧ n < 2 ^ 63) ∧ Q (.int n) H') (fun c d H' => W c d σ H')) :=
    dA1 r re h fun ds s1 μ1 H1 vs x1 r1 re1 rvs h1 => by
      unfold lenOwn at h1
      split at h1
      · rename_i d s2
        obtain ⟨v, ws, rfl, rv, t⟩ := rvs.cons_
        rw [t.nil_]
        split at h1
        · rename_i hc
          obtain ⟨a, dx, vs, rfl, q, l, ok⟩ := clIs_ok r1 rv hc
          refine ⟨a, dx, _, rfl, q, spF_of r1 (relCons rv relNil) (fun ds s hn => by rw [M.na ds s hn, M.len]) (h1.bind.imp fun d2 s3 μ3 H3 x3 r3 h3 v3 rv3 => ?_)⟩
          cases d2 with
          | int n =>
            dsimp only [asLen] at h3
            split at h3
            · rename_i hn
              exact ⟨n, rv3.int_, by omega, h3.ok_ r3 _ relInt⟩
            · exact h3.elim
          | _ => exact h3.elim
        · exact h1.elim
      · exact h1.elim
  refine PyProof.Rows.callWith_builtin1 (thn (ha.run pos pins s0 σ H _ I ta) fun us s1 ⟨vs, H1, I1, r1, a, dx, fl, ev, ea, q⟩ => ?_) (star_ns hs) rfl
  subst ev
  cases r1 with
  | cons r0 r2 =>
    cases r2
    cases r0
    obtain ⟨mA, O, _, _, _, _⟩ := ins_get I1.hok ea
    obtain ⟨od, J, _⟩ := O.look
    refine len_at I1.kIn J M.at_ M.isf (wpAny_mono (run_fnG1 (us := [.ref a]) (vs := [.ref a]) M.fn M.room hgd M.bd tk I1 (.cons rfl .nil) q) (fun r s' ⟨z, H', I', rz, n, e, hn, q'⟩ => ?_) fun _ _ z => z)
    subst e
    obtain ⟨t, rfl⟩ := rz
    exact ⟨hn, .int n, H', I'.tok _, ⟨_, rfl⟩, q'⟩
end
end Fe

set_option maxHeartbeats 2000000
/-! Fe K: an instance as a test, by an own __bool__. -/
namespace Fe
open PySem PySem.Spec PyProof.Rows L2
def asTru : D → S → Out Bool
  | .bl b, s => .ok b s
  | _, _ => .bad
theorem truthy_at {M : Model} {A : Around} {E : Value → Shared → Prop} {s : Shared} {K : PySem.W.Frag} {x C f : Addr} {ox : Obj} {od : Option Obj} {Q : Bool → Shared → Prop} (hI : K.In s.heap) (I : PySem.W.InstAt s.heap x ox C od) (hs : PySem.W.findIn K (.ref C) "__bool__" = some (some (.ref f))) (hf : PySem.W.isFn K (.ref f) = true)
    (h : wpAny M A (call (.ref f) [.ref x]) (PySem.W.BoolBack Q) E s) : wpAny M A (truthy (.ref x)) Q E s := by
  unfold truthy
  refine wpAny_bind (m := callSpecial? (.ref x) (Str.ofString "__bool__")) (PySem.W.special_fn hI I hs (beq_iff_eq.mp hf) (wpAny_mono h (fun r s' hr => ?_) fun _ _ y => y))
  cases r <;> first | exact hr.elim | skip
  exact wpAny_pure hr
section
variable {X : Cx} {G : Gc} {W : WX} {k : Nat} {f : Addr} {fd : FuncData} {ps : List Str} {m : Str} {pos p : Pos} {a b e : Expr} {F : List D → S → Out D} {fa fb fo : Env → S → Out D} {c : Cl}
theorem dt_ownTru (M : SpUse X G c "__bool__" F 1 k f fd ps) (hgd : X.A.guards = some []) (tk : Takes X W) (ha : DE X G W a fa) (he : ∀ whole, isTrue a X.env whole = (do let v ← whole; standAt a.pos; holding [v] (truthy v))) :
    DT X G W a (fun ρ s => (fa ρ s).bind fun d s => if clIs c s d = true then (F [d] s).bind asTru else .bad) := by
  refine ⟨fun pins s0 σ H Q I hh => ?_⟩
  obtain ⟨μ, ρ, s, r, re, h⟩ := hh
  have to' : tD X.K G W fa σ H (fun x H1 => ∃ a dx fl, x = .ref a ∧ H1 a = some (.ins (He.ga X.K c.x) dx fl) ∧ spF X.K G ps.length F [x] H1 (fun v H' => ∃ b, v = .bl b ∧ Q b H') (fun c d H' => W c d σ H')) :=
    d1B r re h fun d s1 μ1 H1 v x1 r1 re1 rv h1 => by
      split at h1
      · rename_i hc
        obtain ⟨a, dx, vs, rfl, q, l, ok⟩ := clIs_ok r1 rv hc
        refine ⟨a, dx, _, rfl, q, spF_of r1 (relCons rv relNil) (fun ds s hn => by rw [M.na ds s hn, M.len]) (h1.bind.imp fun d2 s3 μ3 H3 x3 r3 h3 v3 rv3 => ?_)⟩
        cases d2 with
        | bl n => exact ⟨n, rv3.bl_, h3.ok_ r3⟩
        | _ => exact h3.elim
      · exact h1.elim
  refine isTrue_plain (thn (ha.run pins s0 σ H _ I to') fun v s1 ⟨x, H1, I1, r1, a, dx, fl, ex, ea, q⟩ => ?_) (he _)
  subst ex
  obtain rfl : v = Value.ref a := r1
  obtain ⟨mA, O, _, _, _, _⟩ := ins_get I1.hok ea
  obtain ⟨od, J, _⟩ := O.look
  refine truthy_at I1.kIn J M.at_ M.isf (wpAny_mono (run_fnG (us := [.ref a]) (vs := [.ref a]) M.fn M.room0 hgd M.bd tk I1 (.cons rfl .nil) q) (fun r s' ⟨z, H', I', rz, b, e, q'⟩ => ?_) fun _ _ z => z)
  subst e
  cases rz
  exact ⟨H', I', q'⟩
end
end Fe

set_option maxHeartbeats 2000000
/-! Fe L: o[i] by an own __getitem__. -/
namespace Fe
open PySem PySem.Spec PyProof.Rows L2
theorem sub_form {b : Expr} (h : notSlice b = true) (o i : Value) : subscripted b true o i = runValue (.builtin "lifetime.subscript" ⟨[o, i], []⟩) := by
  cases b <;> first | rfl | cases h
theorem sub_at {prog : Program} {w : World} {A : Around} {E : Value → Shared → Prop} {s : Shared} {K : PySem.W.Frag} {x C f : Addr} {ox : Obj} {od : Option Obj} {value slice : Expr} {i : Value} {Q : Value → Shared → Prop} (hI : K.In s.heap) (I : PySem.W.InstAt s.heap x ox C od) (hs : PySem.W.findIn K (.ref C) "__getitem__" = some (some (.ref f))) (hf : PySem.W.fnIn K f = true) (hfn : PySem.W.isFn K (.ref f) = true)
    (h : wpAny (model prog w) A.in1 (call (.ref f) [.ref x, i]) Q E s) (hsl : notSlice slice = true) : wpAny (model prog w) A (subscriptTail value slice (.ref x) i) Q E s := by
  unfold PySem.W.fnIn at hf
  split at hf
  · rename_i e
    unfold subscriptTail getitemInPython
    refine wpAny_bind (wpAny_bind (wpAny_bind (I.type.here ((PySem.W.looks_findIn hI hs).here ?_))))
    dsimp only
    refine wpAny_bind (wpAny_load (hI _ _ e) (wpAny_pure ?_))
    dsimp only
    rw [sub_form hsl]
    refine wpAny_bind (wpAny_runValue (codeAny_builtin PySem.W.entry_sub ?_))
    unfold Builtin.«lifetime.subscript»
    refine wpAny_bind (PySem.W.special_fn hI I hs (beq_iff_eq.mp hfn) (wpAny_mono h (fun v s' z => ?_) fun _ _ z => z))
    refine wpAny_pure ?_
    show wpAny (model prog w) A (letTemporaryGo value (.ref x) v >>= fun _ => pure v) Q E s'
    exact wpAny_bind (wpAny_letTemporaryGo (wpAny_pure z))
  · cases hf
section
variable {X : Cx} {G : Gc} {W : WX} {k : Nat} {f : Addr} {fd : FuncData} {ps : List Str} {m : Str} {pos p : Pos} {a b e : Expr} {F : List D → S → Out D} {fa fb fo : Env → S → Out D} {c : Cl}
theorem de_ownIx (M : SpUse X G c "__getitem__" F 2 k f fd ps) (hfi : PySem.W.fnIn X.K f = true) (hgd : X.A.guards = some []) (tk : Takes X W) (ha : DE X G W a fa) (hb : DE X G W b fb) (hs : notSlice b = true) :
    DE X G W (.Subscript a b pos) (fun ρ s => (fa ρ s).bind fun x s => (fb ρ s).bind fun y s => if clIs c s x = true then F [x, y] s else .bad) := by
  refine ⟨fun pins s0 σ H Q I hh => ?_⟩
  obtain ⟨μ, ρ, s, r, re, h⟩ := hh
  have to' : tOp (fun x y H1 Q => ∃ a dx fl, x = .ref a ∧ H1 a = some (.ins (He.ga X.K c.x) dx fl) ∧ spF X.K G ps.length F [x, y] H1 Q (fun c d H' => W c d σ H')) (tD X.K G W fa) (tD X.K G W fb) σ H Q :=
    d1 r re h fun x s1 μ1 H1 v1 x1 r1 re1 rv1 h1 => d1 r1 re1 h1 fun y s2 μ2 H2 v2 x2 r2 re2 rv2 h2 => by
      split at h2
      · rename_i hc
        obtain ⟨a, dx, vs, rfl, q, l, ok⟩ := clIs_ok r2 (rv1.mono x2) hc
        exact ⟨a, dx, _, rfl, q, spF_of r2 (relCons (rv1.mono x2) (relCons rv2 relNil)) (fun ds s hn => by rw [M.na ds s hn, M.len]) h2⟩
      · exact h2.elim
  refine Subscript_ (binT ha hb I to' fun v u s2 x y H2 I2 rx ry q => ?_)
  obtain ⟨a, dx, fl, rfl, ea, q⟩ := q
  obtain rfl : v = Value.ref a := rx
  obtain ⟨mA, O, _, _, _, _⟩ := ins_get I2.hok ea
  obtain ⟨od, J, _⟩ := O.look
  exact sub_at I2.kIn J M.at_ hfi M.isf (run_fnG1 (us := [.ref a, u]) (vs := [.ref a, y]) M.fn M.room hgd M.bd tk I2 (.cons rfl (.cons ry .nil)) q) hs
end
end Fe

set_option maxHeartbeats 2000000
/-! Fe M: bool(o) by an own __bool__. -/
namespace Fe
open PySem PySem.Spec PyProof.Rows L2
theorem bool_at {prog : Program} {w : World} {A : Around} {E : Value → Shared → Prop} {s : Shared} {K : PySem.W.Frag} {x C f : Addr} {ox : Obj} {od : Option Obj} {Q : Value → Shared → Prop} (hI : K.In s.heap) (I : PySem.W.InstAt s.heap x ox C od) (hs : PySem.W.findIn K (.ref C) "__bool__" = some (some (.ref f))) (hf : PySem.W.isFn K (.ref f) = true)
    (h : wpAny (model prog w) A.in1.in1 (call (.ref f) [.ref x]) (PySem.W.BoolBack fun b => Q (.bool b)) E s) : wpAny (model prog w) A (call (.type "bool") [.ref x]) Q E s := by
  refine callType_codes (T := "bool") (Bi := Builtin.«object.__init__») (Q₁ := fun r s₁ => ∃ b, r = Value.bool b ∧ Q r s₁) PySem.F.called_bool (PySem.F.typeCall_bool_1 _) PySem.F.entry_object_init ?_ ?_
  · refine codeAny_of_tree ?_
    show wpAny _ A.in1.in1 (do checkBuiltinCall "bool.__new__" ⟨[.type "bool", .ref x], []⟩; again (.builtin "bool.__new__" ⟨[.type "bool", .ref x], []⟩)) _ _ s
    refine wpAny_bind (wpAny_of_eq (PySem.F.newCall_bool_1 _) (wpAny_pure ⟨plainId_quiet (by decide +kernel) _, codeAny_builtin PySem.F.entry_bool_new ?_⟩))
    rw [Around.under_plainId (by decide +kernel) _]
    have f1 := PySem.F.conv_sub_bool
    have ht : wpAny (model prog w) A.in1.in1 (truthy (.ref x)) (fun b s₁ => Q (.bool b) s₁) E s := truthy_at hI I hs hf h
    unfold Builtin.«bool.__new__»
    repeat (any_goals (first | assumption | (with_reducible refine wpAny_bind (wpAny_mono ht (fun b s₁ hb => ?_) fun _ _ y => y)) | wp_step))
    all_goals exact ⟨b, rfl, hb⟩
  · rintro obj s₁ ⟨b, rfl, hq⟩
    exact ⟨PySem.typeIs_bool _ _, PySem.F.args_object_init_2 _ _, object_init_meets PySem.F.called_bool.init.lookup PySem.F.called_bool.made (by decide) prog w A.in1 _ s₁ ⟨PySem.typeIs_bool _ _, rfl, hq⟩⟩
end Fe

set_option maxHeartbeats 2000000
/-! Fe 8: what is walked; for, while, comprehensions. -/
namespace Fe
open PySem PySem.Spec PyProof.Rows L2

/-- an iterator gives the items ds while live holds -/
def ItOk (K : PySem.W.Frag) (μ0 : List Addr) (H0 : Hp) (J : It) (ds : List D) (live : S → Bool) : Prop :=
  ∀ μ H s, Ext μ0 H0 μ H → Rel K μ H s → live s = true →
    (∀ i, i < ds.length → J.go i H ∧ ∀ x H', J.yld i H x H' → Rel K μ H' s ∧ Ext μ H μ H' ∧ ∃ d, ds[i]? = some d ∧ RelD K μ H' d x) ∧ J.stop ds.length H
/-- the items, and the list that is to stand as it is -/
structure Src where
  ds : List D
  r : Option (Nat × List D)
def Src.live (c : Src) (s : S) : Bool := match c.r with
  | none => true
  | some (i, l) => decide (getL s i = some l)
abbrev qI (K : PySem.W.Frag) (R : It → Hp → Prop) : Src → S → List Addr → Hp → Prop := fun c _ μ H => ∀ J, ItOk K μ H J c.ds c.live → R J H
def tI (K : PySem.W.Frag) (G : Gc) (W : WX) (f : Env → S → Out Src) : TI := fun σ H R => ∃ μ ρ s, Rel K μ H s ∧ RelEnv K μ H ρ σ ∧ Fin K G μ H (fun c d H' => W c d σ H') (f ρ s) (qI K R)
abbrev DI (X : Cx) (G : Gc) (W : WX) (tg e : Expr) (f : Env → S → Out Src) : Prop := PI X tg e (tI X.K G W f)

section
variable {K : PySem.W.Frag} {μ0 : List Addr} {H0 : Hp}
theorem it_list {a : Addr} {i : Nat} {ds : List D} {vs : List V} (ha : μ0[i]? = some a) : ItOk K μ0 H0 (Itl K a) ds (fun s => decide (getL s i = some ds)) := by
  intro μ H s x r hl
  obtain ⟨a', us, e, ha', q, t⟩ := getL_ok (v := .ref a) r (relRef (pre_get x.pre ha)) (of_decide_eq_true hl)
  cases e
  refine ⟨fun j hj => ?_, us, q, by rw [t.length]; exact Nat.le_refl _⟩
  obtain ⟨v, e, rv⟩ := t.get (List.getElem?_eq_getElem hj)
  exact ⟨⟨us, v, q, e⟩, fun y H' h => by
    obtain ⟨rfl, h⟩ := h
    have e2 := h us q
    rw [e] at e2; cases e2
    exact ⟨r, .refl _ _, _, List.getElem?_eq_getElem hj, rv⟩⟩
theorem it_tup {a : Addr} {ds : List D} {vs : List V} (q : SqT K H0 a vs) (t : RelDs K μ0 H0 ds vs) : ItOk K μ0 H0 (Itt K a) ds (fun _ => true) := by
  intro μ H s x r _
  have q' := x.keep.sqT q
  have t' := t.mono x
  refine ⟨fun j hj => ?_, vs, q', by rw [t.length]; exact Nat.le_refl _⟩
  obtain ⟨v, e, rv⟩ := t'.get (List.getElem?_eq_getElem hj)
  exact ⟨⟨vs, v, q', e⟩, fun y H' h => by
    obtain ⟨rfl, h⟩ := h
    have e2 := h vs q'
    rw [e] at e2; cases e2
    exact ⟨r, .refl _ _, _, List.getElem?_eq_getElem hj, rv⟩⟩
def rangeD (lo : Int) (n : Nat) : List D := (List.range n).map fun (i : Nat) => .int (lo + (i : Int))
theorem rangeD_get {lo : Int} {n i : Nat} (h : i < n) : (rangeD lo n)[i]? = some (.int (lo + (i : Int))) := by
  unfold rangeD
  rw [List.getElem?_map, List.getElem?_range h]; rfl
theorem it_range {lo : Int} {n : Nat} : ItOk K μ0 H0 (Itr lo n) (rangeD lo n) (fun _ => true) := by
  intro μ H s x r _
  have hl : (rangeD lo n).length = n := by unfold rangeD; simp
  refine ⟨fun j hj => ⟨by rw [hl] at hj; exact hj, fun y H' h => ?_⟩, by rw [hl]; exact Nat.le_refl _⟩
  obtain ⟨rfl, rfl⟩ := h
  rw [hl] at hj
  exact ⟨r, .refl _ _, _, rangeD_get hj, relInt⟩
theorem it_str {cs : List Nat} (ok : okS cs = true) : ItOk K μ0 H0 (Its ⟨cs.toArray⟩) (cs.map fun c => .str [c]) (fun _ => true) := by
  intro μ H s x r _
  refine ⟨fun j hj => ?_, by simp [Its]⟩
  rw [List.length_map] at hj
  refine ⟨by simpa [Its] using hj, fun y H' h => ?_⟩
  obtain ⟨rfl, c, e, rfl⟩ := h
  have e' : cs[j]? = some c := by simpa using e
  exact ⟨r, .refl _ _, .str [c], by rw [List.getElem?_map, e']; rfl, relStr (okS_sub (fun z hz => by rw [List.mem_singleton.mp hz]; exact List.mem_of_getElem? e') ok)⟩
/-- pairs of numbers and items -/
def enumD : Nat → List D → List D
  | _, [] => []
  | n, d :: ds => .tup [.int n, d] :: enumD (n + 1) ds
theorem enumD_len : ∀ (ds : List D) (n : Nat), (enumD n ds).length = ds.length
  | [], _ => rfl
  | d :: ds, n => by simp [enumD, enumD_len ds]
theorem enumD_get : ∀ (ds : List D) (n i : Nat) (d : D), ds[i]? = some d → (enumD n ds)[i]? = some (.tup [.int ((n + i : Nat) : Int), d])
  | [], _, _, _, h => by simp at h
  | e :: ds, n, 0, d, h => by simp at h; subst h; simp [enumD]
  | e :: ds, n, i + 1, d, h => by
    have := enumD_get ds (n + 1) i d (by simpa using h)
    simp only [enumD, List.getElem?_cons_succ, this]
    congr 4
    omega
theorem it_enum {a : Addr} {i : Nat} {ds : List D} (ha : μ0[i]? = some a) : ItOk K μ0 H0 (Ite K a) (enumD 0 ds) (fun s => decide (getL s i = some ds)) := by
  intro μ H s x r hl
  obtain ⟨a', us, e, ha', q, t⟩ := getL_ok (v := .ref a) r (relRef (pre_get x.pre ha)) (of_decide_eq_true hl)
  cases e
  refine ⟨fun j hj => ?_, us, q, by rw [t.length, enumD_len]; exact Nat.le_refl _⟩
  rw [enumD_len] at hj
  obtain ⟨v, e, rv⟩ := t.get (List.getElem?_eq_getElem hj)
  exact ⟨⟨us, v, q, e⟩, fun y H' h => by
    obtain ⟨T, z, rfl, hT, rfl, h⟩ := h
    have e2 := h us q
    rw [e] at e2; cases e2
    obtain ⟨r', x'⟩ := r.new (u := .tup [.int (j : Nat), v]) hT
    refine ⟨r', x', _, enumD_get ds 0 j _ (List.getElem?_eq_getElem hj), relTup (.of upd_same) ?_⟩
    rw [Nat.zero_add]
    exact relCons relInt (relCons (rv.mono x') relNil)⟩
end

section
variable {X : Cx} {G : Gc} {W : WX} {tg e : Expr} {f g : Env → S → Out D} {pos p : Pos}
/-- the items of a list, a tuple, a text -/
def srcOf (d : D) (s : S) : Out Src := match d with
  | .tup ds => .ok ⟨ds, none⟩ s
  | .str cs => .ok ⟨cs.map fun c => .str [c], none⟩ s
  | .ref i => match getL s i with
    | some ds => .ok ⟨ds, some (i, ds)⟩ s
    | none => .bad
  | _ => .bad
theorem d1I {σ : L2.St} {H : Hp} {μ : List Addr} {ρ : Env} {s : S} {f : Env → S → Out D} {k : D → S → Out Src} {R : It → Hp → Prop} {Q1 : VK} (r : Rel X.K μ H s) (re : RelEnv X.K μ H ρ σ) (h : Fin X.K G μ H (fun c d H' => W c d σ H') ((f ρ s).bind k) (qI X.K R))
    (hk : ∀ d s1 μ1 H1 v, Ext μ H μ1 H1 → Rel X.K μ1 H1 s1 → RelEnv X.K μ1 H1 ρ σ → RelD X.K μ1 H1 d v → Fin X.K G μ1 H1 (fun c d H' => W c d σ H') (k d s1) (qI X.K R) → Q1 v H1) : tD X.K G W f σ H Q1 :=
  ⟨μ, ρ, s, r, re, h.bind.imp fun d s1 μ1 H1 x r1 h1 v rv => hk d s1 μ1 H1 v x r1 (re.mono x) rv h1⟩
theorem dAI {σ : L2.St} {H : Hp} {μ : List Addr} {ρ : Env} {s : S} {fs : Env → S → Out (List D)} {k : List D → S → Out Src} {R : It → Hp → Prop} {Q1 : List V → Hp → Prop} (r : Rel X.K μ H s) (re : RelEnv X.K μ H ρ σ) (h : Fin X.K G μ H (fun c d H' => W c d σ H') ((fs ρ s).bind k) (qI X.K R))
    (hk : ∀ d s1 μ1 H1 v, Ext μ H μ1 H1 → Rel X.K μ1 H1 s1 → RelEnv X.K μ1 H1 ρ σ → RelDs X.K μ1 H1 d v → Fin X.K G μ1 H1 (fun c d H' => W c d σ H') (k d s1) (qI X.K R) → Q1 v H1) : tA X.K G W fs σ H Q1 :=
  ⟨μ, ρ, s, r, re, h.bind.imp fun d s1 μ1 H1 x r1 h1 v rv => hk d s1 μ1 H1 v x r1 (re.mono x) rv h1⟩
/-- a list by what it is now: the reading is chosen when its value is known -/
inductive Kd where
  | l | t | s
theorem di_exp (he : DE X G W e f) : DI X G W tg e (fun ρ s => (f ρ s).bind srcOf) := by
  refine pi_imp (pi_or (pi_or (pi_list he) (pi_tup he)) (pi_str he)) fun σ H R hh => ?_
  obtain ⟨μ, ρ, s, r, re, h⟩ := hh
  have key : ∀ (d : D) (s1 : S), f ρ s = .ok d s1 → (∀ (Q : VK), (∀ μ1 H1 v, Ext μ H μ1 H1 → Rel X.K μ1 H1 s1 → RelD X.K μ1 H1 d v → Q v H1) → tD X.K G W f σ H Q) := fun d s1 e Q k =>
    ⟨μ, ρ, s, r, re, by rw [e]; exact fun μ1 H1 x1 r1 v rv => k μ1 H1 v x1 r1 rv⟩
  cases hf : f ρ s with
  | bad =>
    have h' : Fin X.K G μ H (fun c d H' => W c d σ H') ((f ρ s).bind srcOf) (qI X.K R) := h
    rw [hf] at h'; exact h'.elim
  | exc c s1 =>
    have h' : Fin X.K G μ H (fun c d H' => W c d σ H') ((f ρ s).bind srcOf) (qI X.K R) := h
    rw [hf] at h'
    exact .inl (.inl ⟨μ, ρ, s, r, re, by rw [hf]; exact h'⟩)
  | ok d s1 =>
    have h' : Fin X.K G μ H (fun c d H' => W c d σ H') ((f ρ s).bind srcOf) (qI X.K R) := h
    rw [hf] at h'
    have h2 : Fin X.K G μ H (fun c d H' => W c d σ H') (srcOf d s1) (qI X.K R) := h'
    cases d with
    | tup ds =>
      refine .inl (.inr (key _ _ hf _ fun μ1 H1 v x1 r1 rv => ?_))
      obtain ⟨a, vs, rfl, q, t⟩ := rv.tup_
      exact ⟨a, rfl, ⟨vs, q⟩, h2 μ1 H1 x1 r1 _ (it_tup q t)⟩
    | str cs =>
      refine .inr (key _ _ hf _ fun μ1 H1 v x1 r1 rv => ?_)
      exact ⟨_, rv.str_, h2 μ1 H1 x1 r1 _ (it_str rv.okS)⟩
    | ref i =>
      refine .inl (.inl (key _ _ hf _ fun μ1 H1 v x1 r1 rv => ?_))
      unfold srcOf at h2
      dsimp only at h2
      split at h2
      · rename_i ds hg
        obtain ⟨a, vs, rfl, ha, q, t⟩ := getL_ok r1 rv hg
        exact ⟨a, rfl, ⟨vs, q⟩, h2 μ1 H1 x1 r1 _ (it_list (vs := vs) ha)⟩
      · exact h2.elim
    | _ => exact h2.elim
def rngOk (i : Int) : Bool := decide (-(2 ^ 62) ≤ i) && decide (i < 2 ^ 62)
def src1 : List D → S → Out Src
  | [.int j], s => if rngOk j = true then .ok ⟨rangeD 0 j.toNat, none⟩ s else .bad
  | _, _ => .bad
def src2 : List D → S → Out Src
  | [.int i, .int j], s => if (rngOk i && rngOk j) = true then .ok ⟨rangeD i (j - i).toNat, none⟩ s else .bad
  | _, _ => .bad
theorem rngOk_ok {i : Int} (h : rngOk i = true) : -(2 ^ 62) ≤ i ∧ i < 2 ^ 62 := by
  unfold rngOk at h
  rw [Bool.and_eq_true] at h
  exact ⟨of_decide_eq_true h.1, of_decide_eq_true h.2⟩
theorem di_range1 {fs : Env → S → Out (List D)} (hg : Gl X "range") (hm : X.mg "range" = none) (hs : notStar e = true) (ha : DA X G W [e] fs) : DI X G W tg (.Call (.Name "range" p) [e] [] pos) (fun ρ s => (fs ρ s).bind src1) :=
  pi_imp (pi_range1 hg hm ha (star_ns hs)) fun σ H R ⟨μ, ρ, s, r, re, h⟩ => dAI r re h fun ds s1 μ1 H1 vs x1 r1 re1 rv h1 => by
    unfold src1 at h1
    split at h1
    · rename_i j
      split at h1
      · rename_i hj
        obtain ⟨v, rfl, q⟩ := rel1 rv
        obtain ⟨a, b⟩ := rngOk_ok hj
        exact ⟨j, by rw [q.int_], a, b, Fin.ok_ r1 h1 _ it_range⟩
      · exact h1.elim
    · exact h1.elim
theorem di_range2 {e2 : Expr} {fs : Env → S → Out (List D)} (hg : Gl X "range") (hm : X.mg "range" = none) (hs : notStar e = true) (hs2 : notStar e2 = true) (ha : DA X G W [e, e2] fs) : DI X G W tg (.Call (.Name "range" p) [e, e2] [] pos) (fun ρ s => (fs ρ s).bind src2) :=
  pi_imp (pi_range2 hg hm ha (by rw [star_ns hs, star_ns hs2]; rfl) (by rw [star_ns hs2]; rfl)) fun σ H R ⟨μ, ρ, s, r, re, h⟩ => dAI r re h fun ds s1 μ1 H1 vs x1 r1 re1 rv h1 => by
    unfold src2 at h1
    split at h1
    · rename_i i j
      split at h1
      · rename_i hj
        rw [Bool.and_eq_true] at hj
        obtain ⟨v, u, rfl, q, q2⟩ := rel2 rv
        obtain ⟨a, b⟩ := rngOk_ok hj.1
        obtain ⟨a', b'⟩ := rngOk_ok hj.2
        exact ⟨i, j, by rw [q.int_, q2.int_], ⟨a, b, a', b'⟩, Fin.ok_ r1 h1 _ it_range⟩
      · exact h1.elim
    · exact h1.elim

/-! ### for -/
def forW (live : S → Bool) (bind : D → Env → S → TOut) (body : Env → S → SOut) : List D → Env → S → SOut
  | [], ρ, s => if live s = true then .nx ρ s else .bad
  | d :: ds, ρ, s => if live s = true then (match bind d ρ s with
    | some (ρ1, s1) => match body ρ1 s1 with
      | .nx ρ2 s2 => forW live bind body ds ρ2 s2
      | .ct ρ2 s2 => forW live bind body ds ρ2 s2
      | .bk ρ2 s2 => .nx ρ2 s2
      | .rt d s2 => .rt d s2
      | .exc x ρ2 s2 => .exc x ρ2 s2
      | .bad => .bad
    | none => .bad) else .bad
theorem drop_cons {ds : List D} {i : Nat} (h : i < ds.length) : ds.drop i = ds[i] :: ds.drop (i + 1) := List.drop_eq_getElem_cons h
def notSet : Expr → Bool
  | .Set .. => false
  | _ => true
theorem folded_ok {env : PySem.Env} : ∀ {e : Expr}, notSet e = true → ∀ x, foldedSetIterable e env x = pure x
  | .Set .., h => by cases h
  | .ListComp .., _ => fun _ => rfl
  | .SetComp .., _ => fun _ => rfl
  | .DictComp .., _ => fun _ => rfl
  | .BoolOp .., _ => fun _ => rfl
  | .NamedExpr .., _ => fun _ => rfl
  | .BinOp .., _ => fun _ => rfl
  | .UnaryOp .., _ => fun _ => rfl
  | .Lambda .., _ => fun _ => rfl
  | .IfExp .., _ => fun _ => rfl
  | .Dict .., _ => fun _ => rfl
  | .GeneratorExp .., _ => fun _ => rfl
  | .Await .., _ => fun _ => rfl
  | .Yield .., _ => fun _ => rfl
  | .YieldFrom .., _ => fun _ => rfl
  | .Compare .., _ => fun _ => rfl
  | .Call .., _ => fun _ => rfl
  | .FormattedValue .., _ => fun _ => rfl
  | .JoinedStr .., _ => fun _ => rfl
  | .Constant .., _ => fun _ => rfl
  | .Attribute .., _ => fun _ => rfl
  | .Subscript .., _ => fun _ => rfl
  | .Starred .., _ => fun _ => rfl
  | .Name .., _ => fun _ => rfl
  | .List .., _ => fun _ => rfl
  | .Tuple .., _ => fun _ => rfl
  | .Slice .., _ => fun _ => rfl
/-- one turn's end -/
theorem SFin.turn {K : PySem.W.Frag} {μ : List Addr} {H : Hp} {D : Ends} {o : SOut} {g : Env → S → SOut} {N : L2.St → Hp → Prop} (hN : ∀ ρ s μ' H' σ', Ext μ H μ' H' → Rel K μ' H' s → RelEnv K μ' H' ρ σ' → SFin K G μ' H' W (g ρ s) D → N σ' H')
    (h : SFin K G μ H W (match o with | .nx ρ2 s2 => g ρ2 s2 | .ct ρ2 s2 => g ρ2 s2 | .bk ρ2 s2 => .nx ρ2 s2 | .rt d s2 => .rt d s2 | .exc x ρ2 s2 => .exc x ρ2 s2 | .bad => .bad) D) : SFin K G μ H W o { D with nx := N, ct := N, bk := D.nx } := by
  cases o with
  | nx ρ s => exact fun μ' H' σ' x r re => hN ρ s μ' H' σ' x r re (SFin.ext (o := g ρ s) x h)
  | ct ρ s => exact fun μ' H' σ' x r re => hN ρ s μ' H' σ' x r re (SFin.ext (o := g ρ s) x h)
  | bk ρ s => exact h
  | rt d s => exact h
  | exc x ρ s => exact h
  | bad => exact h
theorem ds_for {body : List Stmt} {fi : Env → S → Out Src} {bind : D → Env → S → TOut} {fb : Env → S → SOut} (hp : PassesOwn (model X.prog X.w) X.A X.env X.xe) (hc : X.calm = true) (hi : DI X G W tg e fi) (hg : DG X tg bind) (hb : DSs X G W body fb) (hs : notSet e = true) :
    DS X G W (.For tg e body [] pos) (fun ρ s => lift (fi ρ s) ρ fun c s => forW c.live bind fb c.ds ρ s) :=
  ps_imp (ps_for hp hc hi hg hb (folded_ok hs)) fun D σ H ⟨μ, ρ, s, r, re, h⟩ => ⟨μ, ρ, s, r, re, (h.lift re).imp fun c s0 μ0 H0 x0 r0 h0 J hJ => by
    refine ⟨fun i m σ H => m = c.ds.length - i ∧ i ≤ c.ds.length ∧ ∃ μ ρ s, Ext μ0 H0 μ H ∧ Rel X.K μ H s ∧ RelEnv X.K μ H ρ σ ∧ SFin X.K G μ H W (forW c.live bind fb (c.ds.drop i) ρ s) D,
      ⟨c.ds.length, by simp, Nat.zero_le _, μ0, ρ, s0, .refl _ _, r0, re.mono x0, by simpa using h0⟩, ?_⟩
    rintro i m σ H ⟨rfl, hi, μ, ρ, s, x, r, re, h⟩
    by_cases hlt : i < c.ds.length
    · rw [drop_cons hlt] at h
      unfold forW at h
      split at h
      · rename_i hl
        obtain ⟨h1, h2⟩ := hJ μ H s x r hl
        obtain ⟨g1, g2⟩ := h1 i hlt
        refine .inr ⟨g1, fun σ' H' => i + 1 ≤ c.ds.length ∧ ∃ μ ρ s, Ext μ0 H0 μ H' ∧ Rel X.K μ H' s ∧ RelEnv X.K μ H' ρ σ' ∧ SFin X.K G μ H' W (forW c.live bind fb (c.ds.drop (i + 1)) ρ s) D, fun σ' H' ⟨a, b⟩ => ⟨_, by omega, rfl, a, b⟩, fun y H' hy => ?_⟩
        obtain ⟨r', x', d, hd, rv⟩ := g2 y H' hy
        rw [List.getElem?_eq_getElem hlt] at hd
        cases hd
        refine ⟨μ, ρ, s, _, r', re.mono x', rv, ?_⟩
        cases hbd : bind c.ds[i] ρ s with
        | none => rw [hbd] at h; exact h.elim
        | some p =>
          obtain ⟨ρ1, s1⟩ := p
          rw [hbd] at h
          intro μ2 H2 σ2 x2 r2 re2
          refine ⟨μ2, ρ1, s1, r2, re2, ?_⟩
          have h3 := SFin.ext (x'.trans x2) h
          exact SFin.turn (fun ρ3 s3 μ3 H3 σ3 x3 r3 re3 h4 => ⟨hlt, μ3, ρ3, s3, ((x.trans x').trans x2).trans x3, r3, re3, h4⟩) h3
      · exact h.elim
    · have e : i = c.ds.length := by omega
      subst e
      rw [List.drop_length] at h
      unfold forW at h
      split at h
      · rename_i hl
        obtain ⟨h1, h2⟩ := hJ μ H s x r hl
        exact .inl ⟨h2, h μ H σ (.refl _ _) r re⟩
      · exact h.elim⟩

/-! ### while -/
def whW (c : Env → S → Out Bool) (body : Env → S → SOut) : Nat → Env → S → SOut
  | 0, _, _ => .bad
  | n + 1, ρ, s => lift (c ρ s) ρ fun k s => if k = true then (match body ρ s with
      | .nx ρ2 s2 => whW c body n ρ2 s2
      | .ct ρ2 s2 => whW c body n ρ2 s2
      | .bk ρ2 s2 => .nx ρ2 s2
      | .rt d s2 => .rt d s2
      | .exc x ρ2 s2 => .exc x ρ2 s2
      | .bad => .bad) else .nx ρ s
theorem ds_while {n : Nat} {c : Expr} {body : List Stmt} {fc : Env → S → Out Bool} {fb : Env → S → SOut} (hp : PassesOwn (model X.prog X.w) X.A X.env X.xe) (hc : DT X G W c fc) (hb : DSs X G W body fb) : DS X G W (.While c body [] pos) (fun ρ s => whW fc fb n ρ s) :=
  ps_imp (ps_while hp hc hb) fun D σ H ⟨μ, ρ, s, r, re, h⟩ => by
    refine ⟨fun m σ H => ∃ μ ρ s, Rel X.K μ H s ∧ RelEnv X.K μ H ρ σ ∧ SFin X.K G μ H W (whW fc fb m ρ s) D, ⟨n, μ, ρ, s, r, re, h⟩, ?_⟩
    rintro m σ H ⟨μ, ρ, s, r, re, h⟩
    cases m with
    | zero => exact h.elim
    | succ m =>
      unfold whW at h
      refine ⟨μ, ρ, s, r, re, (h.lift re).imp fun k s1 μ1 H1 x1 r1 h1 => ?_⟩
      cases k with
      | false => exact h1 μ1 H1 σ (.refl _ _) r1 (re.mono x1)
      | true =>
        refine ⟨fun σ' H' => ∃ μ ρ s, Rel X.K μ H' s ∧ RelEnv X.K μ H' ρ σ' ∧ SFin X.K G μ H' W (whW fc fb m ρ s) D, fun σ' H' q => ⟨m, Nat.lt_succ_self _, q⟩, μ1, ρ, s1, r1, re.mono x1, ?_⟩
        exact SFin.turn (fun ρ3 s3 μ3 H3 σ3 x3 r3 re3 h4 => ⟨μ3, ρ3, s3, r3, re3, h4⟩) h1
end
end Fe

set_option maxHeartbeats 2000000
/-! Fe 9: comprehensions, stores to places. -/
namespace Fe
open PySem PySem.Spec PyProof.Rows L2

/-! ### names that are a block's own -/
def wipeE (ρ : Env) : List Nat → Env
  | [] => ρ
  | v :: vs => (wipeE ρ vs).set v none
theorem wipe_get {σ : L2.St} {j : Nat} : ∀ {vs : List Nat}, (wipe σ vs)[j]? = if j ∈ vs then (if j < σ.length then some none else none) else σ[j]?
  | [] => by simp [wipe]
  | v :: vs => by
    unfold wipe
    by_cases hj : v = j
    · subst hj
      rw [if_pos List.mem_cons_self]
      by_cases hl : v < σ.length
      · rw [if_pos hl, List.getElem?_set_self (by rw [wipe_length]; exact hl)]
      · rw [if_neg hl, List.getElem?_eq_none (by rw [List.length_set, wipe_length]; omega)]
    · rw [List.getElem?_set_ne hj, wipe_get]
      by_cases hm : j ∈ vs
      · rw [if_pos hm, if_pos (List.mem_cons_of_mem _ hm)]
      · rw [if_neg hm, if_neg (by intro h; rcases List.mem_cons.mp h with e | e; exact hj e.symm; exact hm e)]
theorem wipe_set {σ : L2.St} {i : Nat} {o : Option V} {vs : List Nat} (h : i ∈ vs) : wipe (σ.set i o) vs = wipe σ vs := by
  apply List.ext_getElem?
  intro j
  rw [wipe_get, wipe_get, List.length_set]
  by_cases hm : j ∈ vs
  · rw [if_pos hm, if_pos hm]
  · rw [if_neg hm, if_neg hm, List.getElem?_set_ne (fun e => hm (by rw [← e]; exact h))]
theorem wipe_idem {σ : L2.St} {vs : List Nat} : wipe (wipe σ vs) vs = wipe σ vs := by
  apply List.ext_getElem?
  intro j
  rw [wipe_get, wipe_length, wipe_get]
  by_cases hm : j ∈ vs
  · rw [if_pos hm, if_pos hm]
  · rw [if_neg hm, if_neg hm]
theorem wipeE_length (ρ : Env) : ∀ vs : List Nat, (wipeE ρ vs).length = ρ.length
  | [] => rfl
  | v :: vs => by unfold wipeE; rw [List.length_set, wipeE_length ρ vs]
theorem wipeE_some {ρ : Env} {i : Nat} {x : D} : ∀ {vs : List Nat}, (wipeE ρ vs)[i]? = some (some x) → ρ[i]? = some (some x) ∧ i ∉ vs
  | [], h => ⟨h, by simp⟩
  | v :: vs, h => by
    unfold wipeE at h
    by_cases hi : v = i
    · subst hi
      by_cases hv : v < (wipeE ρ vs).length
      · rw [List.getElem?_set_self hv] at h; cases h
      · rw [List.getElem?_eq_none (by simpa using hv)] at h; cases h
    · rw [List.getElem?_set_ne hi] at h
      obtain ⟨h1, h2⟩ := wipeE_some h
      exact ⟨h1, by simp only [List.mem_cons, not_or]; exact ⟨fun e => hi e.symm, h2⟩⟩
theorem RelEnv.wipe {K : PySem.W.Frag} {μ : List Addr} {H : Hp} {ρ : Env} {σ : L2.St} {vs : List Nat} (h : RelEnv K μ H ρ σ) : RelEnv K μ H (wipeE ρ vs) (L2.wipe σ vs) := by
  refine ⟨by rw [wipeE_length, wipe_length]; exact h.1, fun i d e => ?_⟩
  obtain ⟨e1, e2⟩ := wipeE_some e
  obtain ⟨v, a, r⟩ := h.2 i d e1
  exact ⟨v, by rw [wipe_get, if_neg e2]; exact a, r⟩

/-! ### targets that store own names alone -/
def TFinW (K : PySem.W.Frag) (own : List Nat) (σ : L2.St) (μ : List Addr) (H : Hp) (o : TOut) (Q : L2.St → Hp → Prop) : Prop := match o with
  | some (ρ, s) => ∀ μ' H' σ', Ext μ H μ' H' → Rel K μ' H' s → RelEnv K μ' H' ρ σ' → wipe σ' own = wipe σ own → Q σ' H'
  | none => False
def tTw (K : PySem.W.Frag) (own : List Nat) (g : D → Env → S → TOut) : TG := fun v σ H Q => ∃ μ ρ s d, Rel K μ H s ∧ RelEnv K μ H ρ σ ∧ RelD K μ H d v ∧ TFinW K own σ μ H (g d ρ s) Q
def tTws (K : PySem.W.Frag) (own : List Nat) (g : List D → Env → S → TOut) : TGs := fun v σ H Q => ∃ μ ρ s d, Rel K μ H s ∧ RelEnv K μ H ρ σ ∧ RelDs K μ H d v ∧ TFinW K own σ μ H (g d ρ s) Q
abbrev DGw (X : Cx) (own : List Nat) (e : Expr) (g : D → Env → S → TOut) : Prop := PG X e (tTw X.K own g)
abbrev DGws (X : Cx) (own : List Nat) (e : List Expr) (g : List D → Env → S → TOut) : Prop := PGs X e (tTws X.K own g)
theorem TFinW.ext {K : PySem.W.Frag} {own : List Nat} {σ σ' : L2.St} {μ μ' : List Addr} {H H' : Hp} {o : TOut} {Q : L2.St → Hp → Prop} (x : Ext μ H μ' H') (hw : wipe σ' own = wipe σ own) (h : TFinW K own σ μ H o Q) : TFinW K own σ' μ' H' o Q := by
  cases o with
  | some p => exact fun μ2 H2 σ2 y r re w => h μ2 H2 σ2 (x.trans y) r re (w.trans hw)
  | none => exact h
section
variable {X : Cx} {G : Gc} {W : WX} {own : List Nat} {pos : Pos}
theorem dgw_name {i : Nat} {x : Str} (hN : X.N.Nodup) (hi : X.N[i]? = some x) (hx : Loc X.env.scope x) (hf : X.fn x = true ∨ X.env.scope.names.lookup x = some .local) (ho : i ∈ own) : DGw X own (.Name x pos) (fun d ρ s => some (ρ.set i (some d), s)) :=
  pg_imp (pg_name hN hi hx hf) fun v σ H Q ⟨μ, ρ, s, d, r, re, rv, h⟩ => h μ H _ (.refl _ _) r (re.set rv) (wipe_set ho)
theorem dgws_nil : DGws X own [] (fun ds ρ s => match ds with | [] => some (ρ, s) | _ :: _ => none) :=
  pgs_imp pgs_nil fun v σ H Q ⟨μ, ρ, s, d, r, re, rv, h⟩ => by
    cases d with
    | nil => exact ⟨rv.nil_, h μ H σ (.refl _ _) r re rfl⟩
    | cons => exact h.elim
theorem dgws_cons {e : Expr} {es : List Expr} {g : D → Env → S → TOut} {gs : List D → Env → S → TOut} (hs : notStar e = true) (h1 : DGw X own e g) (h2 : DGws X own es gs) : DGws X own (e :: es) (consT g gs) :=
  pgs_imp (pgs_cons h1 h2 (by rw [asg_ns hs]; rfl)) fun v σ H Q ⟨μ, ρ, s, ds, r, re, rv, h⟩ => by
    cases ds with
    | nil => exact h.elim
    | cons d ds =>
      obtain ⟨u, us, rfl, r1, t⟩ := rv.cons_
      refine ⟨u, us, rfl, μ, ρ, s, d, r, re, r1, ?_⟩
      dsimp only [consT] at h
      cases e : g d ρ s with
      | none => rw [e] at h; exact h
      | some p =>
        obtain ⟨ρ1, s1⟩ := p
        rw [e] at h
        exact fun μ' H' σ' x r' re' w => ⟨μ', ρ1, s1, ds, r', re', t.mono x, TFinW.ext x w h⟩
theorem dgw_tup {es : List Expr} {k : Nat} {gs : List D → Env → S → TOut} (hc : X.calm = true) (hs : es.all notStar = true) (h : DGws X own es gs) : DGw X own (.Tuple es k pos) (unpackT es.length gs) := by
  obtain ⟨a, b⟩ := asg_len (env := X.env) hs
  refine pg_imp (pg_or (pg_tup hc h a b) (pg_lst hc h a b)) fun v σ H Q ⟨μ, ρ, s, d, r, re, rv, hh⟩ => ?_
  unfold unpackT at hh
  split at hh
  · rename_i ds e
    split at hh
    · rename_i hl
      obtain ⟨p, vs, rfl, q, t⟩ := items_ok r rv e
      rcases q with q | q
      · exact .inr ⟨p, vs, rfl, q, by rw [t.length]; exact hl, μ, ρ, s, ds, r, re, t, hh⟩
      · exact .inl ⟨p, vs, rfl, q, by rw [t.length]; exact hl, μ, ρ, s, ds, r, re, t, hh⟩
    · exact hh.elim
  · exact hh.elim

/-! ### [e for t in xs if c] -/
def pushAt (j : Nat) (d : D) (s : S) : Option S := match s[j]? with
  | some (.lst ds) => if ds.length < line then some (s.set j (.lst (ds ++ [d]))) else none
  | _ => none
def lcW (live : S → Bool) (bind : D → Env → S → TOut) (t : Env → S → Out Bool) (e : Env → S → Out D) (ρ : Env) (j : Nat) : List D → S → Out Unit
  | [], s => if live s = true then .ok () s else .bad
  | d :: ds, s => if live s = true then (match bind d ρ s with
    | some (ρ1, s1) => match t ρ1 s1 with
      | .ok true s2 => match e ρ1 s2 with
        | .ok y s3 => match pushAt j y s3 with
          | some s4 => lcW live bind t e ρ j ds s4
          | none => .bad
        | _ => .bad
      | .ok false s2 => lcW live bind t e ρ j ds s2
      | _ => .bad
    | none => .bad) else .bad
def noX : WX := fun _ _ _ _ => False
theorem push_ok {K : PySem.W.Frag} {μ : List Addr} {H : Hp} {s s' : S} {j : Nat} {d : D} {v : V} {L : Addr} (r : Rel K μ H s) (ha : μ[j]? = some L) (rv : RelD K μ H d v) (e : pushAt j d s = some s') :
    ∃ acc, H L = some (.lst acc) ∧ acc.length < sizeLine ∧ Rel K μ (upd H L (.lst (acc ++ [v]))) s' ∧ Ext μ H μ (upd H L (.lst (acc ++ [v]))) := by
  unfold pushAt at e
  split at e
  · rename_i ds hs
    split at e
    · rename_i hl
      cases e
      obtain ⟨vs, q, t⟩ := r.obj j L _ ha hs
      obtain ⟨r', x⟩ := r.put (u := .lst (vs ++ [v])) (o := .lst (ds ++ [d])) ha (.lst q) fun x => ⟨_, upd_same, (t.mono x).append (relCons (rv.mono x) relNil)⟩
      exact ⟨vs, q, by rw [t.length, ← line_eq]; exact hl, r', x⟩
    · cases e
  · cases e
theorem fin_noX {α : Type} {K : PySem.W.Frag} {μ : List Addr} {H : Hp} {W : XK} {o : Out α} {q : α → S → List Addr → Hp → Prop} (h : match o with | .ok a s => ∀ μ' H', Ext μ H μ' H' → Rel K μ' H' s → q a s μ' H' | _ => False) : Fin K G μ H W o q := by
  cases o with
  | ok a s => exact h
  | exc c s => exact h.elim
  | bad => exact h
/-- the turns, from a list at L -/
theorem lc_turns {J : It} {c : Src} {μ0 : List Addr} {H0 : Hp} {σ : L2.St} {ρ : Env} {own : List Nat} {L : Addr} {j : Nat} {bind : D → Env → S → TOut} {ft : Env → S → Out Bool} {fe : Env → S → Out D} {Q : Hp → Prop} {μ1 : List Addr} {H1 : Hp} {s1 : S} {W0 : XK}
    {K : PySem.W.Frag} {Wb : WX} (hJ : ItOk K μ0 H0 J c.ds c.live) (hL : μ1[j]? = some L) (x1 : Ext μ0 H0 μ1 H1) (r1 : Rel K μ1 H1 s1) (re : RelEnv K μ0 H0 (wipeE ρ own) (wipe σ own))
    (h : match lcW c.live bind ft fe (wipeE ρ own) j c.ds s1 with | .ok _ s => ∀ μ' H', Ext μ1 H1 μ' H' → Rel K μ' H' s → Q H' | _ => False) :
    ∃ W : Nat → Nat → Hp → Prop, (∃ m, W 0 m H1) ∧ ∀ i m H, W i m H → (J.stop i H ∧ Q H) ∨ (J.go i H ∧ ∃ Nx : Hp → Prop, (∀ H', Nx H' → ∃ m', m' < m ∧ W (i + 1) m' H') ∧ ∀ x H', J.yld i H x H' → tTw K own bind x (wipe σ own) H' fun σ2 H2 => wipe σ2 own = wipe σ own ∧
      tB' K G Wb ft σ2 H2 fun b H3 => if b = true then tD K G Wb fe σ2 H3 fun y H4 => ∃ acc, H4 L = some (.lst acc) ∧ acc.length < sizeLine ∧ Nx (upd H4 L (.lst (acc ++ [y]))) else Nx H3) := by
  refine ⟨fun i m H => m = c.ds.length - i ∧ i ≤ c.ds.length ∧ ∃ μ s, Ext μ1 H1 μ H ∧ Rel K μ H s ∧ (match lcW c.live bind ft fe (wipeE ρ own) j (c.ds.drop i) s with | .ok _ s => ∀ μ' H', Ext μ H μ' H' → Rel K μ' H' s → Q H' | _ => False),
    ⟨c.ds.length, by simp, Nat.zero_le _, μ1, s1, .refl _ _, r1, by simpa using h⟩, ?_⟩
  rintro i m H ⟨rfl, hi, μ, s, x, r, h⟩
  by_cases hlt : i < c.ds.length
  · rw [drop_cons hlt] at h
    unfold lcW at h
    by_cases hl : c.live s = true
    · rw [if_pos hl] at h
      obtain ⟨h1, h2⟩ := hJ μ H s (x1.trans x) r hl
      obtain ⟨g1, g2⟩ := h1 i hlt
      refine .inr ⟨g1, fun H' => i + 1 ≤ c.ds.length ∧ ∃ μ s, Ext μ1 H1 μ H' ∧ Rel K μ H' s ∧ (match lcW c.live bind ft fe (wipeE ρ own) j (c.ds.drop (i + 1)) s with | .ok _ s => ∀ μ2 H2, Ext μ H' μ2 H2 → Rel K μ2 H2 s → Q H2 | _ => False), fun H' ⟨a, b⟩ => ⟨_, by omega, rfl, a, b⟩, fun y H' hy => ?_⟩
      obtain ⟨r', x', d, hd, rv⟩ := g2 y H' hy
      rw [List.getElem?_eq_getElem hlt] at hd
      cases hd
      refine ⟨μ, wipeE ρ own, s, _, r', (re.mono ((x1.trans x).trans x')), rv, ?_⟩
      cases hbd : bind c.ds[i] (wipeE ρ own) s with
      | none => rw [hbd] at h; exact h.elim
      | some p =>
        obtain ⟨ρ2, s2⟩ := p
        rw [hbd] at h
        intro μ2 H2 σ2 x2 r2 re2 hw
        have hw' : wipe σ2 own = wipe σ own := by rw [hw, wipe_idem]
        refine ⟨hw', μ2, ρ2, s2, r2, re2, fin_noX ?_⟩
        cases ht : ft ρ2 s2 with
        | bad => dsimp only at h; rw [ht] at h; exact h.elim
        | exc c s => dsimp only at h; rw [ht] at h; exact h.elim
        | ok k s3 =>
          dsimp only at h
          rw [ht] at h
          intro μ3 H3 x3 r3
          have X3 : Ext μ H μ3 H3 := (x'.trans x2).trans x3
          cases k with
          | false =>
            refine ⟨hlt, μ3, s3, x.trans X3, r3, ?_⟩
            dsimp only at h
            cases hr : lcW c.live bind ft fe (wipeE ρ own) j (c.ds.drop (i + 1)) s3 with
            | ok a s4 => rw [hr] at h; exact fun μ4 H4 x4 r4 => h μ4 H4 (X3.trans x4) r4
            | exc c s4 => rw [hr] at h; exact h
            | bad => rw [hr] at h; exact h
          | true =>
            refine ⟨μ3, ρ2, s3, r3, re2.mono x3, fin_noX ?_⟩
            dsimp only at h
            cases hfe : fe ρ2 s3 with
            | bad => rw [hfe] at h; exact h.elim
            | exc c s => rw [hfe] at h; exact h.elim
            | ok z s4 =>
              rw [hfe] at h
              intro μ4 H4 x4 r4 v rv4
              dsimp only at h
              cases hp : pushAt j z s4 with
              | none => rw [hp] at h; exact h.elim
              | some s5 =>
                rw [hp] at h
                obtain ⟨acc, e1, e2, r5, x5⟩ := push_ok r4 (pre_get ((x.trans X3).trans x4).pre hL) rv4 hp
                have X5 := (X3.trans x4).trans x5
                refine ⟨acc, e1, e2, hlt, μ4, s5, x.trans X5, r5, ?_⟩
                dsimp only at h
                cases hr : lcW c.live bind ft fe (wipeE ρ own) j (c.ds.drop (i + 1)) s5 with
                | ok a s6 => rw [hr] at h; exact fun μ6 H6 x6 r6 => h μ6 H6 (X5.trans x6) r6
                | exc c s6 => rw [hr] at h; exact h
                | bad => rw [hr] at h; exact h
    · rw [if_neg hl] at h
      exact h.elim
  · have e : i = c.ds.length := by omega
    subst e
    rw [List.drop_length] at h
    unfold lcW at h
    by_cases hl : c.live s = true
    · rw [if_pos hl] at h
      obtain ⟨h1, h2⟩ := hJ μ H s (x1.trans x) r hl
      exact .inl ⟨h2, h μ H (.refl _ _) r⟩
    · rw [if_neg hl] at h
      exact h.elim
/-- the list that a comprehension makes -/
def lcV (fi : Env → S → Out Src) (bind : D → Env → S → TOut) (ft : Env → S → Out Bool) (fe : Env → S → Out D) (own : List Nat) (ρ : Env) (s : S) : Out D :=
  (fi ρ s).bind fun c s => match lcW c.live bind ft fe (wipeE ρ own) s.length c.ds (s ++ [.lst []]) with
    | .ok _ s' => .ok (.ref s.length) s'
    | _ => .bad
theorem lc_red {σ : L2.St} {H : Hp} {Q : VK} {fi : Env → S → Out Src} {bind : D → Env → S → TOut} {ft : Env → S → Out Bool} {fe : Env → S → Out D} {ow : List Nat} {Wb : WX} (hh : tD X.K G W (lcV fi bind ft fe ow) σ H Q) :
    tLc (tI X.K G W fi) (tTw X.K ow bind) (tB' X.K G Wb ft) (tD X.K G Wb fe) ow σ H Q := by
  obtain ⟨μ, ρ, s, r, re, h⟩ := hh
  unfold lcV at h
  refine ⟨μ, ρ, s, r, re, h.bind.imp fun c s0 μ0 H0 x0 r0 h0 J hJ L hL => ?_⟩
  obtain ⟨r1, x1, e1⟩ := r0.push (u := .lst []) (o := .lst []) hL fun _ => ⟨[], upd_same, relNil⟩
  refine lc_turns (ρ := ρ) (own := ow) (W0 := fun _ _ _ => False) hJ e1 x1 r1 (re.mono x0).wipe ?_
  split at h0
  · rename_i a s' e
    exact fun μ' H' x' r' => h0 μ' H' (x1.trans x') r' _ (relRef (pre_get x'.pre e1))
  · exact h0.elim
theorem de_lc {elt tg iter : Expr} {ifs : List Expr} {scope : Scope} {ow : List (Str × Nat)} {fi : Env → S → Out Src} {bind : D → Env → S → TOut} {ft : Env → S → Out Bool} {fe : Env → S → Out D} (hc : X.calm = true) (hN : X.N.Nodup) (hi : DI X G W tg iter fi) (ok : BlkOk X.N X.env.scope scope ow)
    (hg : ∀ (s : Shared) (H : Hp) (C : Addr) (cl : List (Str × Addr)) (fp : List Addr), DGw (X.blk s H scope (compEnvC scope cl C X.env) fp) (ow.map (·.2)) tg bind)
    (ht : ∀ (s : Shared) (H : Hp) (C : Addr) (cl : List (Str × Addr)) (fp : List Addr), PTs (X.blk s H scope (compEnvC scope cl C X.env) fp) ifs (tB' X.K G noX ft))
    (he : ∀ (s : Shared) (H : Hp) (C : Addr) (cl : List (Str × Addr)) (fp : List Addr), DE (X.blk s H scope (compEnvC scope cl C X.env) fp) G noX elt fe) (hs : notSet iter = true) :
    DE X G W (.ListComp elt [⟨tg, iter, ifs, 0⟩] scope pos) (lcV fi bind ft fe (ow.map (·.2))) :=
  pe_imp (pe_lc hc hN hi ok hg ht he (folded_ok hs)) fun σ H Q hh => lc_red hh
/-- x = [..], the name a local on the same line -/
theorem ds_setLc {i : Nat} {y : Str} {py spos : Pos} {elt tg iter : Expr} {ifs : List Expr} {scope : Scope} {ow : List (Str × Nat)} {fi : Env → S → Out Src} {bind : D → Env → S → TOut} {ft : Env → S → Out Bool} {fe : Env → S → Out D} (hc : X.calm = true) (hN : X.N.Nodup) (hy : X.N[i]? = some y) (hyl : X.env.scope.names.lookup y = some .local)
    (hsw : swapsWith (.ListComp elt [⟨tg, iter, ifs, 0⟩] scope pos) (some (.Name y py)) spos.line X.env = pure true) (hi : DI X G W tg iter fi) (ok : BlkOk X.N X.env.scope scope ow)
    (hg : ∀ (s : Shared) (H : Hp) (C : Addr) (cl : List (Str × Addr)) (fp : List Addr), DGw (X.blk s H scope (compEnvC scope cl C X.env) fp) (ow.map (·.2)) tg bind)
    (ht : ∀ (s : Shared) (H : Hp) (C : Addr) (cl : List (Str × Addr)) (fp : List Addr), PTs (X.blk s H scope (compEnvC scope cl C X.env) fp) ifs (tB' X.K G noX ft))
    (he : ∀ (s : Shared) (H : Hp) (C : Addr) (cl : List (Str × Addr)) (fp : List Addr), DE (X.blk s H scope (compEnvC scope cl C X.env) fp) G noX elt fe) (hs : notSet iter = true) :
    DS X G W (.Assign [.Name y py] (.ListComp elt [⟨tg, iter, ifs, 0⟩] scope pos) spos) (fun ρ s => lift (lcV fi bind ft fe (ow.map (·.2)) ρ s) ρ fun d s => .nx (ρ.set i (some d)) s) :=
  ps_imp (ps_setLc hc hN hy hyl hsw hi ok hg ht he (folded_ok hs)) fun D σ H hh => lc_red (by
    obtain ⟨μ, ρ, s, r, re, h⟩ := hh
    exact dS1 (e := elt) r re h fun d s1 μ1 H1 v x1 r1 re1 rv h1 => h1 μ1 H1 _ (.refl _ _) r1 (re1.set rv))
/-- no condition -/
theorem dts_nil : PTs X [] (tB' X.K G W fun _ s => .ok true s) := ⟨fun pins s σ H Q I ⟨μ, ρ, st, r, re, h⟩ => pts_nil.run pins s σ H Q I (h.ok_ r)⟩
theorem dts_one {c : Expr} {f : Env → S → Out Bool} (h : DT X G W c f) : PTs X [c] (tB' X.K G W f) := pts_one h

/-! ### xs[i] = e -/
def okO {α β : Type} (o : Out α) (k : α → S → Option β) : Option β := match o with
  | .ok a s => k a s
  | _ => none
def setIx (o i v : D) (s : S) : Option S := match o, i with
  | .ref r, .int j => match s[r]? with
    | some (.lst ds) => match ixN ds.length j with
      | some k => some (s.set r (.lst (ds.set k v)))
      | none => none
    | _ => none
  | _, _ => none
theorem asg_sub {o : Expr} {env : PySem.Env} {v : Value} : ∀ {i : Expr}, notSlice i = true → assign (.Subscript o i pos) env v = (do
      let ov ← holding [v] (eval o env)
      let iv ← holding [v, ov] (eval i env)
      standAt pos
      holding [v, ov, iv] (setItem ov iv v)
      release [v, ov, iv] [])
  | .Slice .., h => by cases h
  | .BoolOp .., _ => rfl
  | .NamedExpr .., _ => rfl
  | .BinOp .., _ => rfl
  | .UnaryOp .., _ => rfl
  | .Lambda .., _ => rfl
  | .IfExp .., _ => rfl
  | .Dict .., _ => rfl
  | .Set .., _ => rfl
  | .ListComp .., _ => rfl
  | .SetComp .., _ => rfl
  | .DictComp .., _ => rfl
  | .GeneratorExp .., _ => rfl
  | .Await .., _ => rfl
  | .Yield .., _ => rfl
  | .YieldFrom .., _ => rfl
  | .Compare .., _ => rfl
  | .Call .., _ => rfl
  | .FormattedValue .., _ => rfl
  | .JoinedStr .., _ => rfl
  | .Constant .., _ => rfl
  | .Attribute .., _ => rfl
  | .Subscript .., _ => rfl
  | .Starred .., _ => rfl
  | .Name .., _ => rfl
  | .List .., _ => rfl
  | .Tuple .., _ => rfl
theorem dg_sub {o i : Expr} {f g : Env → S → Out D} (ho : DE X G W o f) (hi : DE X G W i g) (hs : notSlice i = true) : DG X (.Subscript o i pos) (fun d ρ s => okO (f ρ s) fun x s => okO (g ρ s) fun y s => match setIx x y d s with | some s => some (ρ, s) | none => none) :=
  pg_imp (pg_sub ho hi set_list (fun v => asg_sub hs)) fun v σ H Q ⟨μ, ρ, s, d, r, re, rv, h⟩ => by
    dsimp only at h
    cases e1 : f ρ s with
    | bad => rw [e1] at h; exact h.elim
    | exc _ _ => rw [e1] at h; exact h.elim
    | ok x s1 =>
      rw [e1] at h
      refine ⟨μ, ρ, s, r, re, ?_⟩
      rw [e1]
      intro μ1 H1 x1 r1 v1 rv1
      refine ⟨μ1, ρ, s1, r1, re.mono x1, ?_⟩
      dsimp only [okO] at h
      cases e2 : g ρ s1 with
      | bad => rw [e2] at h; exact h.elim
      | exc _ _ => rw [e2] at h; exact h.elim
      | ok y s2 =>
        rw [e2] at h
        intro μ2 H2 x2 r2 v2 rv2
        dsimp only at h
        cases e3 : setIx x y d s2 with
        | none => rw [e3] at h; exact h.elim
        | some s3 =>
          rw [e3] at h
          unfold setIx at e3
          split at e3
          · rename_i ri j
            split at e3
            · rename_i ds hs
              split at e3
              · rename_i k hk
                cases e3
                obtain ⟨a, us, rfl, ha, q, t⟩ := lst_ok r2 (rv1.mono x2) hs
                obtain ⟨r3, x3⟩ := r2.put (u := .lst (us.set k v)) (o := .lst (ds.set k d)) ha (.lst q) fun x => ⟨_, upd_same, RelDs.set k (((rv.mono x1).mono x2).mono x) (t.mono x)⟩
                exact ⟨a, us, j, k, rfl, rv2.int_, q, by rw [t.length]; exact hk, h μ2 _ σ ((x1.trans x2).trans x3) r3 (re.mono ((x1.trans x2).trans x3))⟩
              · cases e3
            · cases e3
          · cases e3
end
end Fe

set_option maxHeartbeats 2000000
/-! Fe A: comprehensions of two clauses, dict displays. -/
namespace Fe
open PySem PySem.Spec PyProof.Rows L2

def lcW2 (live : S → Bool) (bind : D → Env → S → TOut) (t : Env → S → Out Bool) (fi : Env → S → Out Src) (bind1 : D → Env → S → TOut) (t1 : Env → S → Out Bool) (e : Env → S → Out D) (vs1 : List Nat) (ρ : Env) (j : Nat) : List D → S → Out Unit
  | [], s => if live s = true then .ok () s else .bad
  | d :: ds, s => if live s = true then (match bind d ρ s with
    | some (ρ1, s1) => match t ρ1 s1 with
      | .ok true s2 => match fi ρ1 s2 with
        | .ok c s3 => match lcW c.live bind1 t1 e (wipeE ρ1 vs1) j c.ds s3 with
          | .ok _ s4 => lcW2 live bind t fi bind1 t1 e vs1 ρ j ds s4
          | _ => .bad
        | _ => .bad
      | .ok false s2 => lcW2 live bind t fi bind1 t1 e vs1 ρ j ds s2
      | _ => .bad
    | none => .bad) else .bad
section
variable {X : Cx} {G : Gc} {W : WX} {own vs1 : List Nat} {pos : Pos}
theorem lc2_turns {J : It} {c : Src} {μ0 : List Addr} {H0 : Hp} {σ : L2.St} {ρ : Env} {own vs1 : List Nat} {L : Addr} {j : Nat} {bind bind1 : D → Env → S → TOut} {ft ft1 : Env → S → Out Bool} {fi : Env → S → Out Src} {fe : Env → S → Out D} {Q : Hp → Prop} {μ1 : List Addr} {H1 : Hp} {s1 : S}
    {K : PySem.W.Frag} {Wb : WX} (hJ : ItOk K μ0 H0 J c.ds c.live) (hL : μ1[j]? = some L) (x1 : Ext μ0 H0 μ1 H1) (r1 : Rel K μ1 H1 s1) (re : RelEnv K μ0 H0 (wipeE ρ own) (wipe σ own))
    (h : match lcW2 c.live bind ft fi bind1 ft1 fe vs1 (wipeE ρ own) j c.ds s1 with | .ok _ s => ∀ μ' H', Ext μ1 H1 μ' H' → Rel K μ' H' s → Q H' | _ => False) :
    ∃ W : Nat → Nat → Hp → Prop, (∃ m, W 0 m H1) ∧ ∀ i m H, W i m H → (J.stop i H ∧ Q H) ∨ (J.go i H ∧ ∃ Nx : Hp → Prop, (∀ H', Nx H' → ∃ m', m' < m ∧ W (i + 1) m' H') ∧ ∀ x H', J.yld i H x H' → tTw K own bind x (wipe σ own) H' fun σ2 H2 => wipe σ2 own = wipe σ own ∧
      tB' K G Wb ft σ2 H2 fun b H3 => if b = true then tI K G Wb fi σ2 H3 fun J1 H4 => ∃ W1 : Nat → Nat → Hp → Prop, (∃ m, W1 0 m H4) ∧ ∀ j k H, W1 j k H →
        (J1.stop j H ∧ Nx H) ∨ (J1.go j H ∧ ∃ Nx1 : Hp → Prop, (∀ H', Nx1 H' → ∃ k', k' < k ∧ W1 (j + 1) k' H') ∧ ∀ x H', J1.yld j H x H' → tTw K vs1 bind1 x (wipe σ2 vs1) H' fun σ3 H5 => wipe σ3 vs1 = wipe σ2 vs1 ∧ tB' K G Wb ft1 σ3 H5 fun b H6 =>
          if b = true then tD K G Wb fe σ3 H6 fun y H7 => ∃ acc, H7 L = some (.lst acc) ∧ acc.length < sizeLine ∧ Nx1 (upd H7 L (.lst (acc ++ [y]))) else Nx1 H6)
        else Nx H3) := by
  refine ⟨fun i m H => m = c.ds.length - i ∧ i ≤ c.ds.length ∧ ∃ μ s, Ext μ1 H1 μ H ∧ Rel K μ H s ∧ (match lcW2 c.live bind ft fi bind1 ft1 fe vs1 (wipeE ρ own) j (c.ds.drop i) s with | .ok _ s => ∀ μ' H', Ext μ H μ' H' → Rel K μ' H' s → Q H' | _ => False),
    ⟨c.ds.length, by simp, Nat.zero_le _, μ1, s1, .refl _ _, r1, by simpa using h⟩, ?_⟩
  rintro i m H ⟨rfl, hi, μ, s, x, r, h⟩
  by_cases hlt : i < c.ds.length
  · rw [drop_cons hlt] at h
    unfold lcW2 at h
    by_cases hl : c.live s = true
    · rw [if_pos hl] at h
      obtain ⟨h1, h2⟩ := hJ μ H s (x1.trans x) r hl
      obtain ⟨g1, g2⟩ := h1 i hlt
      refine .inr ⟨g1, fun H' => i + 1 ≤ c.ds.length ∧ ∃ μ s, Ext μ1 H1 μ H' ∧ Rel K μ H' s ∧ (match lcW2 c.live bind ft fi bind1 ft1 fe vs1 (wipeE ρ own) j (c.ds.drop (i + 1)) s with | .ok _ s => ∀ μ2 H2, Ext μ H' μ2 H2 → Rel K μ2 H2 s → Q H2 | _ => False), fun H' ⟨a, b⟩ => ⟨_, by omega, rfl, a, b⟩, fun y H' hy => ?_⟩
      obtain ⟨r', x', d, hd, rv⟩ := g2 y H' hy
      rw [List.getElem?_eq_getElem hlt] at hd
      cases hd
      refine ⟨μ, wipeE ρ own, s, _, r', (re.mono ((x1.trans x).trans x')), rv, ?_⟩
      cases hbd : bind c.ds[i] (wipeE ρ own) s with
      | none => rw [hbd] at h; exact h.elim
      | some p =>
        obtain ⟨ρ2, s2⟩ := p
        rw [hbd] at h
        intro μ2 H2 σ2 x2 r2 re2 hw
        have hw' : wipe σ2 own = wipe σ own := by rw [hw, wipe_idem]
        refine ⟨hw', μ2, ρ2, s2, r2, re2, fin_noX ?_⟩
        cases ht : ft ρ2 s2 with
        | bad => dsimp only at h; rw [ht] at h; exact h.elim
        | exc c s => dsimp only at h; rw [ht] at h; exact h.elim
        | ok k s3 =>
          dsimp only at h
          rw [ht] at h
          intro μ3 H3 x3 r3
          have X3 : Ext μ H μ3 H3 := (x'.trans x2).trans x3
          cases k with
          | false =>
            refine ⟨hlt, μ3, s3, x.trans X3, r3, ?_⟩
            dsimp only at h
            cases hr : lcW2 c.live bind ft fi bind1 ft1 fe vs1 (wipeE ρ own) j (c.ds.drop (i + 1)) s3 with
            | ok a s4 => rw [hr] at h; exact fun μ4 H4 x4 r4 => h μ4 H4 (X3.trans x4) r4
            | exc c s4 => rw [hr] at h; exact h
            | bad => rw [hr] at h; exact h
          | true =>
            refine ⟨μ3, ρ2, s3, r3, re2.mono x3, fin_noX ?_⟩
            dsimp only at h
            cases hfi : fi ρ2 s3 with
            | bad => rw [hfi] at h; exact h.elim
            | exc c s => rw [hfi] at h; exact h.elim
            | ok c1 s4 =>
              rw [hfi] at h
              intro μ4 H4 x4 r4 J1 hJ1
              dsimp only at h
              have X4 : Ext μ H μ4 H4 := X3.trans x4
              refine lc_turns (μ0 := μ4) (H0 := H4) (μ1 := μ4) (ρ := ρ2) (own := vs1) (W0 := fun _ _ _ => False) hJ1 (pre_get (x.trans X4).pre hL) (.refl _ _) r4 ((re2.mono x3).mono x4).wipe ?_
              cases hin : lcW c1.live bind1 ft1 fe (wipeE ρ2 vs1) j c1.ds s4 with
              | bad => rw [hin] at h; exact h.elim
              | exc c s => rw [hin] at h; exact h.elim
              | ok a s5 =>
                rw [hin] at h
                dsimp only at h ⊢
                intro μ5 H5 x5 r5
                have X5 := X4.trans x5
                refine ⟨hlt, μ5, s5, x.trans X5, r5, ?_⟩
                cases hr : lcW2 c.live bind ft fi bind1 ft1 fe vs1 (wipeE ρ own) j (c.ds.drop (i + 1)) s5 with
                | ok a s6 => rw [hr] at h; exact fun μ6 H6 x6 r6 => h μ6 H6 (X5.trans x6) r6
                | exc c s6 => rw [hr] at h; exact h
                | bad => rw [hr] at h; exact h
    · rw [if_neg hl] at h
      exact h.elim
  · have e : i = c.ds.length := by omega
    subst e
    rw [List.drop_length] at h
    unfold lcW2 at h
    by_cases hl : c.live s = true
    · rw [if_pos hl] at h
      obtain ⟨h1, h2⟩ := hJ μ H s (x1.trans x) r hl
      exact .inl ⟨h2, h μ H (.refl _ _) r⟩
    · rw [if_neg hl] at h
      exact h.elim
def lcV2 (fi : Env → S → Out Src) (bind : D → Env → S → TOut) (ft : Env → S → Out Bool) (fi1 : Env → S → Out Src) (bind1 : D → Env → S → TOut) (ft1 : Env → S → Out Bool) (fe : Env → S → Out D) (own vs1 : List Nat) (ρ : Env) (s : S) : Out D :=
  (fi ρ s).bind fun c s => match lcW2 c.live bind ft fi1 bind1 ft1 fe vs1 (wipeE ρ own) s.length c.ds (s ++ [.lst []]) with
    | .ok _ s' => .ok (.ref s.length) s'
    | _ => .bad
theorem lc2_red {σ : L2.St} {H : Hp} {Q : VK} {fi fi1 : Env → S → Out Src} {bind bind1 : D → Env → S → TOut} {ft ft1 : Env → S → Out Bool} {fe : Env → S → Out D} {ow vs1 : List Nat} {Wb : WX} (hh : tD X.K G W (lcV2 fi bind ft fi1 bind1 ft1 fe ow vs1) σ H Q) :
    tLc2 (tI X.K G W fi) (tTw X.K ow bind) (tB' X.K G Wb ft) (tI X.K G Wb fi1) (tTw X.K vs1 bind1) (tB' X.K G Wb ft1) (tD X.K G Wb fe) ow vs1 σ H Q := by
  obtain ⟨μ, ρ, s, r, re, h⟩ := hh
  unfold lcV2 at h
  refine ⟨μ, ρ, s, r, re, h.bind.imp fun c s0 μ0 H0 x0 r0 h0 J hJ L hL => ?_⟩
  obtain ⟨r1, x1, e1⟩ := r0.push (u := .lst []) (o := .lst []) hL fun _ => ⟨[], upd_same, relNil⟩
  refine lc2_turns (ρ := ρ) (own := ow) hJ e1 x1 r1 (re.mono x0).wipe ?_
  split at h0
  · rename_i a s' e
    exact fun μ' H' x' r' => h0 μ' H' (x1.trans x') r' _ (relRef (pre_get x'.pre e1))
  · exact h0.elim
theorem de_lc2 {elt tg iter tg1 iter1 : Expr} {ifs ifs1 : List Expr} {scope : Scope} {ow : List (Str × Nat)} {vs1 : List Nat} {fi fi1 : Env → S → Out Src} {bind bind1 : D → Env → S → TOut} {ft ft1 : Env → S → Out Bool} {fe : Env → S → Out D} (hc : X.calm = true) (hN : X.N.Nodup) (hi : DI X G W tg iter fi) (ok : BlkOk X.N X.env.scope scope ow) (hv : ∀ i ∈ vs1, i ∈ ow.map (·.2))
    (hg : ∀ (s : Shared) (H : Hp) (C : Addr) (cl : List (Str × Addr)) (fp : List Addr), DGw (X.blk s H scope (compEnvC scope cl C X.env) fp) (ow.map (·.2)) tg bind)
    (ht : ∀ (s : Shared) (H : Hp) (C : Addr) (cl : List (Str × Addr)) (fp : List Addr), PTs (X.blk s H scope (compEnvC scope cl C X.env) fp) ifs (tB' X.K G noX ft))
    (hi1 : ∀ (s : Shared) (H : Hp) (C : Addr) (cl : List (Str × Addr)) (fp : List Addr), DI (X.blk s H scope (compEnvC scope cl C X.env) fp) G noX tg1 iter1 fi1)
    (hg1 : ∀ (s : Shared) (H : Hp) (C : Addr) (cl : List (Str × Addr)) (fp : List Addr), DGw (X.blk s H scope (compEnvC scope cl C X.env) fp) vs1 tg1 bind1)
    (ht1 : ∀ (s : Shared) (H : Hp) (C : Addr) (cl : List (Str × Addr)) (fp : List Addr), PTs (X.blk s H scope (compEnvC scope cl C X.env) fp) ifs1 (tB' X.K G noX ft1))
    (he : ∀ (s : Shared) (H : Hp) (C : Addr) (cl : List (Str × Addr)) (fp : List Addr), DE (X.blk s H scope (compEnvC scope cl C X.env) fp) G noX elt fe) (hs : notSet iter = true) (hs1 : notSet iter1 = true) :
    DE X G W (.ListComp elt [⟨tg, iter, ifs, 0⟩, ⟨tg1, iter1, ifs1, 0⟩] scope pos) (lcV2 fi bind ft fi1 bind1 ft1 fe (ow.map (·.2)) vs1) :=
  pe_imp (pe_lc2 hc hN hi ok hv hg ht hi1 hg1 ht1 he (folded_ok hs) (fun _ => folded_ok hs1)) fun σ H Q hh => lc2_red hh

/-- x = [.. for .. for ..], the name a local on the same line -/
theorem ds_setLc2 {i : Nat} {y : Str} {py spos : Pos} {elt tg iter tg1 iter1 : Expr} {ifs ifs1 : List Expr} {scope : Scope} {ow : List (Str × Nat)} {vs1 : List Nat} {fi fi1 : Env → S → Out Src} {bind bind1 : D → Env → S → TOut} {ft ft1 : Env → S → Out Bool} {fe : Env → S → Out D} (hc : X.calm = true) (hN : X.N.Nodup) (hy : X.N[i]? = some y) (hyl : X.env.scope.names.lookup y = some .local)
    (hsw : swapsWith (.ListComp elt [⟨tg, iter, ifs, 0⟩, ⟨tg1, iter1, ifs1, 0⟩] scope pos) (some (.Name y py)) spos.line X.env = pure true) (hi : DI X G W tg iter fi) (ok : BlkOk X.N X.env.scope scope ow) (hv : ∀ i ∈ vs1, i ∈ ow.map (·.2))
    (hg : ∀ (s : Shared) (H : Hp) (C : Addr) (cl : List (Str × Addr)) (fp : List Addr), DGw (X.blk s H scope (compEnvC scope cl C X.env) fp) (ow.map (·.2)) tg bind)
    (ht : ∀ (s : Shared) (H : Hp) (C : Addr) (cl : List (Str × Addr)) (fp : List Addr), PTs (X.blk s H scope (compEnvC scope cl C X.env) fp) ifs (tB' X.K G noX ft))
    (hi1 : ∀ (s : Shared) (H : Hp) (C : Addr) (cl : List (Str × Addr)) (fp : List Addr), DI (X.blk s H scope (compEnvC scope cl C X.env) fp) G noX tg1 iter1 fi1)
    (hg1 : ∀ (s : Shared) (H : Hp) (C : Addr) (cl : List (Str × Addr)) (fp : List Addr), DGw (X.blk s H scope (compEnvC scope cl C X.env) fp) vs1 tg1 bind1)
    (ht1 : ∀ (s : Shared) (H : Hp) (C : Addr) (cl : List (Str × Addr)) (fp : List Addr), PTs (X.blk s H scope (compEnvC scope cl C X.env) fp) ifs1 (tB' X.K G noX ft1))
    (he : ∀ (s : Shared) (H : Hp) (C : Addr) (cl : List (Str × Addr)) (fp : List Addr), DE (X.blk s H scope (compEnvC scope cl C X.env) fp) G noX elt fe) (hs : notSet iter = true) (hs1 : notSet iter1 = true) :
    DS X G W (.Assign [.Name y py] (.ListComp elt [⟨tg, iter, ifs, 0⟩, ⟨tg1, iter1, ifs1, 0⟩] scope pos) spos) (fun ρ s => lift (lcV2 fi bind ft fi1 bind1 ft1 fe (ow.map (·.2)) vs1 ρ s) ρ fun d s => .nx (ρ.set i (some d)) s) :=
  ps_imp (ps_setLc2 hc hN hy hyl hsw hi ok hv hg ht hi1 hg1 ht1 he (folded_ok hs) (fun _ => folded_ok hs1)) fun D σ H hh => lc2_red (by
    obtain ⟨μ, ρ, s, r, re, h⟩ := hh
    exact dS1 (e := elt) r re h fun d s1 μ1 H1 v x1 r1 re1 rv h1 => h1 μ1 H1 _ (.refl _ _) r1 (re1.set rv))

/-! ### {k: v, ..} -/
def pairsV : List ((Env → S → Out D) × (Env → S → Out D)) → Env → S → Out (List (D × D))
  | [], _, s => .ok [] s
  | p :: ps, ρ, s => (p.1 ρ s).bind fun x s => (p.2 ρ s).bind fun y s => (pairsV ps ρ s).bind fun xs s => .ok ((x, y) :: xs) s
/-- keys that differ -/
def keysOk : List (D × D) → Bool
  | [] => true
  | p :: ps => (keyOf p.1).isSome && ((ps.all fun q => !decide (keyOf q.1 = keyOf p.1)) && keysOk ps)
def dctV (ps : List ((Env → S → Out D) × (Env → S → Out D))) (ρ : Env) (s : S) : Out D :=
  (pairsV ps ρ (s ++ [.dct []])).bind fun kvs s' => if (decide (s'[s.length]? = some (.dct [])) && (keysOk kvs && decide (kvs.length ≤ 15))) = true then .ok (.ref s.length) (s'.set s.length (.dct kvs)) else .bad
abbrev RelPs (K : PySem.W.Frag) (μ : List Addr) (H : Hp) : List (D × D) → List (V × V) → Prop
  | [], vs => vs = []
  | p :: ps, vs => ∃ v w r, vs = (v, w) :: r ∧ RelD K μ H p.1 v ∧ RelD K μ H p.2 w ∧ RelPs K μ H ps r
theorem relPs_mono {K : PySem.W.Frag} {μ μ' : List Addr} {H H' : Hp} (x : Ext μ H μ' H') : ∀ {ps : List (D × D)} {vs : List (V × V)}, RelPs K μ H ps vs → RelPs K μ' H' ps vs
  | [], _, h => h
  | p :: ps, _, ⟨v, w, r, e, a, b, c⟩ => ⟨v, w, r, e, a.mono x, b.mono x, relPs_mono x c⟩
theorem keyOf_val {K : PySem.W.Frag} {μ : List Addr} {H : Hp} {d : D} {v : V} {k : Key} (r : RelD K μ H d v) (e : keyOf d = some k) : v = kV k := by
  cases d with
  | int i => cases e; rw [r.int_]; rfl
  | str cs => cases e; rw [r.str_]; rfl
  | _ => cases e
theorem relPs_kv {K : PySem.W.Frag} {μ : List Addr} {H : Hp} : ∀ {ps : List (D × D)} {vs : List (V × V)}, RelPs K μ H ps vs → keysOk ps = true → ∃ kvs, vs = kvs.map (fun kv => (kV kv.1, kv.2)) ∧ RelKV K μ H ps kvs
  | [], _, h, _ => ⟨[], h, rfl⟩
  | p :: ps, _, ⟨v, w, r, e, a, b, c⟩, h => by
    unfold keysOk at h
    simp only [Bool.and_eq_true] at h
    obtain ⟨kvs, e2, q⟩ := relPs_kv c h.2.2
    obtain ⟨k, ek⟩ := Option.isSome_iff_exists.mp h.1
    refine ⟨(k, w) :: kvs, ?_, ⟨k, w, kvs, rfl, ek, b, q⟩⟩
    rw [e, e2, keyOf_val a ek]; rfl
theorem relKV_keys {K : PySem.W.Frag} {μ : List Addr} {H : Hp} : ∀ {ps : List (D × D)} {kvs : List (Key × V)}, RelKV K μ H ps kvs → kvs.map (fun q => some q.1) = ps.map fun p => keyOf p.1
  | [], _, h => by cases h; rfl
  | p :: ps, _, ⟨k, v, r, e, q, t, u⟩ => by rw [e, List.map_cons, List.map_cons, relKV_keys u, q]
theorem merge_app : ∀ {kvs acc : List (Key × V)}, (acc ++ kvs).Pairwise (fun p q => p.1 ≠ q.1) → mergeK acc kvs = acc ++ kvs
  | [], acc, _ => by simp [mergeK]
  | p :: kvs, acc, h => by
    have h1 : (acc.any fun kv => decide (kv.1 = p.1)) = false := by
      rw [List.any_eq_false]
      intro q hq e
      exact (List.pairwise_append.mp h).2.2 q hq p List.mem_cons_self (of_decide_eq_true e)
    have h2 : mergeK acc (p :: kvs) = mergeK (acc ++ [p]) kvs := by
      show mergeK (putK acc p.1 p.2) kvs = _
      unfold putK
      rw [if_neg (by rw [h1]; decide)]
    rw [h2, merge_app (by simpa using h)]
    simp
theorem keysOk_pw {K : PySem.W.Frag} {μ : List Addr} {H : Hp} : ∀ {ps : List (D × D)} {kvs : List (Key × V)}, RelKV K μ H ps kvs → keysOk ps = true → kvs.Pairwise fun p q => p.1 ≠ q.1
  | [], _, h, _ => by cases h; exact .nil
  | p :: ps, _, ⟨k, v, r, e, q, t, u⟩, h => by
    unfold keysOk at h
    simp only [Bool.and_eq_true] at h
    subst e
    refine .cons (fun z hz e => ?_) (keysOk_pw u h.2.2)
    have h3 : some z.1 ∈ r.map (fun q => some q.1) := List.mem_map.mpr ⟨z, hz, rfl⟩
    rw [relKV_keys u] at h3
    obtain ⟨y, hy, ey⟩ := List.mem_map.mp h3
    have h4 := List.all_eq_true.mp h.2.1 y hy
    rw [ey, q, ← e] at h4
    simp at h4
inductive DPs (X : Cx) (G : Gc) (W : WX) : List Expr → List Expr → List ((Env → S → Out D) × (Env → S → Out D)) → Prop
  | nil : DPs X G W [] [] []
  | cons {k v : Expr} {ks vs : List Expr} {f g : Env → S → Out D} {ps} : DE X G W k f → DE X G W v g → DPs X G W ks vs ps → DPs X G W (k :: ks) (v :: vs) ((f, g) :: ps)
theorem dps_run {ks vs : List Expr} {ps : List ((Env → S → Out D) × (Env → S → Out D))} (h : DPs X G W ks vs ps) : PPs X pos (ks.map some) vs (ps.map fun p => (tD X.K G W p.1, tD X.K G W p.2)) := by
  induction h with
  | nil => exact pps_nil
  | cons a b c ih => exact pps_cons a b ih
theorem pairs_fin {σ : L2.St} {ρ : Env} {K : PySem.W.Frag} : ∀ (ps : List ((Env → S → Out D) × (Env → S → Out D))) {μ : List Addr} {H : Hp} {s : S} {Q : List (V × V) → Hp → Prop}, Rel K μ H s → RelEnv K μ H ρ σ →
    Fin K G μ H (fun c d H' => W c d σ H') (pairsV ps ρ s) (fun kvs _ μ' H' => ∀ vs, RelPs K μ' H' kvs vs → Q vs H') → tPairs (ps.map fun p => (tD K G W p.1, tD K G W p.2)) σ H Q
  | [], μ, H, s, Q, r, re, h => h.ok_ r [] rfl
  | p :: ps, μ, H, s, Q, r, re, h => by
    refine ⟨μ, ρ, s, r, re, h.bind.imp fun x s1 μ1 H1 x1 r1 h1 v rv => ⟨μ1, ρ, s1, r1, re.mono x1, h1.bind.imp fun y s2 μ2 H2 x2 r2 h2 w rw_ => ?_⟩⟩
    refine pairs_fin ps r2 ((re.mono x1).mono x2) (h2.bind.imp fun kvs s3 μ3 H3 x3 r3 h3 vs rvs => ?_)
    exact h3.ok_ r3 ((v, w) :: vs) ⟨v, w, vs, rfl, (rv.mono x2).mono x3, rw_.mono x3, rvs⟩
theorem de_dct0 : DE X G W (.Dict [] [] pos) (dctV []) :=
  pe_imp pe_dnewK fun σ H Q ⟨μ, ρ, s, r, re, h⟩ p hp => by
    obtain ⟨r1, x1, e1⟩ := r.push (u := .dK []) (o := .dct []) hp fun _ => ⟨[], upd_same, rfl⟩
    unfold dctV pairsV at h
    have e2 : (s ++ [O.dct []])[s.length]? = some (.dct []) := by simp
    have e3 : (s ++ [O.dct []]).set s.length (.dct []) = s ++ [O.dct []] := by simp
    have h' : Fin X.K G μ H (fun c d H' => W c d σ H') (if (decide ((s ++ [O.dct []])[s.length]? = some (O.dct [])) && (keysOk [] && decide ((([] : List (D × D))).length ≤ 15))) = true then .ok (.ref s.length) ((s ++ [O.dct []]).set s.length (.dct [])) else .bad) (qD X.K Q) := h
    rw [if_pos (by rw [e2]; rfl), e3] at h'
    exact h' _ _ x1 r1 _ (relRef e1)
theorem de_dct {k v : Expr} {ks vs : List Expr} {ps : List ((Env → S → Out D) × (Env → S → Out D))} (h : DPs X G W (k :: ks) (v :: vs) ps) (hl : ks.length = vs.length) (h15 : (k :: ks).length ≤ 15) :
    DE X G W (.Dict ((k :: ks).map some) (v :: vs) pos) (dctV ps) :=
  pe_imp (pe_disp (dps_run h) (by simp) (by simp [hl]) (by simp) (by simpa using h15)) fun σ H Q ⟨μ, ρ, s, r, re, hh⟩ p hp => by
    obtain ⟨r1, x1, e1⟩ := r.push (u := .dK []) (o := .dct []) hp fun _ => ⟨[], upd_same, rfl⟩
    unfold dctV at hh
    refine pairs_fin ps r1 (re.mono x1) ((Fin.ext x1 hh).bind.imp fun kvs s2 μ2 H2 x2 r2 h2 vs rvs => ?_)
    split at h2
    · rename_i hc
      simp only [Bool.and_eq_true] at hc
      obtain ⟨c1, c2, c3⟩ := hc
      have ha : μ2[s.length]? = some p := pre_get x2.pre e1
      obtain ⟨ws, q, t⟩ := r2.obj _ p _ ha (of_decide_eq_true c1)
      cases t
      obtain ⟨kk, ek, rk⟩ := relPs_kv rvs c2
      refine ⟨q, kk, ek, ?_, ?_⟩
      · have := relKV_keys rk
        have := congrArg List.length this
        rw [List.length_map, List.length_map] at this
        rw [this]; exact of_decide_eq_true c3
      · rw [merge_app (acc := []) (by simpa using keysOk_pw rk c2)]
        obtain ⟨r3, x3⟩ := r2.put (u := .dK ([] ++ kk)) (o := .dct kvs) ha (.dK q) fun x => ⟨kk, upd_same, rk.mono x⟩
        exact h2 _ _ x3 r3 _ (relRef ha)
    · exact h2.elim
end
end Fe

set_option maxHeartbeats 2000000
/-! Fe N: more of own classes; enumerate, list(range), tuples of numbers compared, remove, index. -/
namespace Fe
open PySem PySem.Spec PyProof.Rows L2
section
variable {X : Cx} {G : Gc} {W : WX} {k : Nat} {f : Addr} {fd : FuncData} {ps : List Str} {m : Str} {pos p : Pos} {a b e : Expr} {F : List D → S → Out D} {fa fb fo : Env → S → Out D} {c : Cl}
/-! ### own in, not in as tests -/
abbrev inV_ (c : Cl) (F : List D → S → Out D) (fa fb : Env → S → Out D) (g : Bool → Bool) : Env → S → Out D := fun ρ s => (fa ρ s).bind fun x s => (fb ρ s).bind fun y s => if clIs c s y = true then (F [y, x] s).bind (asBl g) else .bad
theorem dt_ownIn (M : SpUse X G c "__contains__" F 2 k f fd ps) (hgd : X.A.guards = some []) (tk : Takes X W) (ha : DE X G W a fa) (hb : DE X G W b fb) (hm : behindInMarks .In b = false) :
    DT X G W (.Compare a [.In] [b] pos) (fun ρ s => asB (inV_ c F fa fb id ρ s)) := by
  refine ⟨fun pins s σ H Q I h => ?_⟩
  obtain ⟨μ, ρ, s0, r, re, h⟩ := h
  have h' : tD X.K G W (inV_ c F fa fb id) σ H (fun x H' => ∃ k, x = .bl k ∧ Q k H') := ⟨μ, ρ, s0, r, re, fin_asB h⟩
  refine wpAny_isTrue_Compare1 (binT ha hb I (ownC_red M id h') fun v u s2 x y H2 I2 rx ry q => thn (ownC_run M hgd tk id σ (fun hI J h => ?_) pins s2 H2 x y v u _ I2 rx ry q) fun z s3 ⟨y3, H3, I3, r3, k3, e3, q3⟩ => ?_) hm
  · exact wpAny_bind (in_at hI J M.at_ M.isf (wpAny_mono h (fun _ _ z => wpAny_mono z (fun _ _ z => wpAny_pure z) fun _ _ z => z) fun _ _ z => z))
  · subst e3
    cases r3
    exact wpAny_truthy_bool ⟨H3, I3, q3⟩
theorem dt_ownNotIn (M : SpUse X G c "__contains__" F 2 k f fd ps) (hgd : X.A.guards = some []) (tk : Takes X W) (ha : DE X G W a fa) (hb : DE X G W b fb) (hm : behindInMarks .NotIn b = false) :
    DT X G W (.Compare a [.NotIn] [b] pos) (fun ρ s => asB (inV_ c F fa fb (!·) ρ s)) := by
  refine ⟨fun pins s σ H Q I h => ?_⟩
  obtain ⟨μ, ρ, s0, r, re, h⟩ := h
  have h' : tD X.K G W (inV_ c F fa fb (!·)) σ H (fun x H' => ∃ k, x = .bl k ∧ Q k H') := ⟨μ, ρ, s0, r, re, fin_asB h⟩
  refine wpAny_isTrue_Compare1 (binT ha hb I (ownC_red M (!·) h') fun v u s2 x y H2 I2 rx ry q => thn (ownC_run M hgd tk (!·) σ (fun hI J h => ?_) pins s2 H2 x y v u _ I2 rx ry q) fun z s3 ⟨y3, H3, I3, r3, k3, e3, q3⟩ => ?_) hm
  · exact wpAny_bind (in_at hI J M.at_ M.isf (wpAny_mono h (fun _ _ z => wpAny_mono z (fun _ _ z => wpAny_pure z) fun _ _ z => z) fun _ _ z => z))
  · subst e3
    cases r3
    exact wpAny_truthy_bool ⟨H3, I3, q3⟩
/-! ### bool(o) -/
theorem run_fnG2 {pins : List (Addr × Obj)} {σ : L2.St} {H : Hp} {s : Shared} {Q : VK} {us : List Value} {vs : List V} (hF : FnG X.prog X.w X.K X.mg X.base G k f fd ps F) (hr : Room (k + 2) X.A) (hg : X.A.guards = some []) (hb : Binds X.K fd ps []) (tk : Takes X W)
    (I : Inv X pins σ H s) (r : Vals vs us) (h : spF X.K G ps.length F vs H Q (fun c d H' => W c d σ H')) : wpAny (model X.prog X.w) X.A.in1.in1 (call (.ref f) us) (EP X pins σ Q) X.xe s := by
  have hl : us.length = ps.length := by rw [← r.length]; exact h.1
  have b := hb s us I.kIn (by rw [List.append_nil]; exact hl)
  rw [List.append_nil] at b
  refine wpAny_call (codeAny_mono (hF.run X.A.in1.in1 X.stack s H ⟨us, []⟩ us vs Q _ hr.in1.in1 hg I.env0.in1.in1 b r h) fun r s' hq => ?_)
  cases r with
  | error e => exact passAt tk σ pins H s e s' I hq
  | ok fl =>
    cases fl with
    | ret u => exact I.after hq
    | next => exact False.elim hq
    | brk => exact False.elim hq
    | cont => exact False.elim hq
def boolOwn (c : Cl) (F : List D → S → Out D) : List D → S → Out D
  | [d], s => if clIs c s d = true then (F [d] s).bind (asBl id) else .bad
  | _, _ => .bad
theorem de_ownBool {fs : Env → S → Out (List D)} (M : SpUse X G c "__bool__" F 1 k f fd ps) (hr : Room (k + 2) X.A) (hgd : X.A.guards = some []) (tk : Takes X W) (hg : Gl X "bool") (hm : X.mg "bool" = none) (ha : DA X G W [e] fs) (hs : notStar e = true) :
    DE X G W (.Call (.Name "bool" p) [e] [] pos) (fun ρ s => (fs ρ s).bind (boolOwn c F)) := by
  refine ⟨fun pins s0 σ H Q I hh => ?_⟩
  obtain ⟨μ, ρ, s, r, re, h⟩ := hh
  refine wpAny_Call_Name_kw (ld_blt I hg hm (show bootBuiltins "bool" = some (.type "bool") by decide +kernel) ?_ (by decide) (by decide))
  have ta : tA X.K G W fs σ H (fun vs H1 => ∃ a dx fl, vs = [V.ref a] ∧ H1 a = some (.ins (He.ga X.K c.x) dx fl) ∧ spF X.K G ps.length F [.ref a] H1 (fun v H' => ∃ n, v = .bl n ∧ Q (.bl n) H') (fun c d H' => W c d σ H')) :=
    dA1 r re h fun ds s1 μ1 H1 vs x1 r1 re1 rvs h1 => by
      unfold boolOwn at h1
      split at h1
      · rename_i d s2
        obtain ⟨v, ws, rfl, rv, t⟩ := rvs.cons_
        rw [t.nil_]
        split at h1
        · rename_i hc
          obtain ⟨a, dx, vs, rfl, q, l, ok⟩ := clIs_ok r1 rv hc
          refine ⟨a, dx, _, rfl, q, spF_of r1 (relCons rv relNil) (fun ds s hn => by rw [M.na ds s hn, M.len]) (h1.bind.imp fun d2 s3 μ3 H3 x3 r3 h3 v3 rv3 => ?_)⟩
          cases d2 with
          | bl n => exact ⟨n, rv3.bl_, h3.ok_ r3 _ relBl⟩
          | _ => exact h3.elim
        · exact h1.elim
      · exact h1.elim
  refine PyProof.Rows.callWith_type1 (thn (ha.run pos pins s0 σ H _ I ta) fun us s1 ⟨vs, H1, I1, r1, a, dx, fl, ev, ea, q⟩ => ?_) (star_ns hs) rfl
  subst ev
  cases r1 with
  | cons r0 r2 =>
    cases r2
    cases r0
    obtain ⟨mA, O, _, _, _, _⟩ := ins_get I1.hok ea
    obtain ⟨od, J, _⟩ := O.look
    refine bool_at I1.kIn J M.at_ M.isf (wpAny_mono (run_fnG2 (us := [.ref a]) (vs := [.ref a]) M.fn hr hgd M.bd tk I1 (.cons rfl .nil) q) (fun r s' ⟨z, H', I', rz, n, e, q'⟩ => ?_) fun _ _ z => z)
    subst e
    cases rz
    exact ⟨.bl n, H', I', rfl, q'⟩
end

/-! ### enumerate -/
def isTupE : Expr → Bool
  | .Tuple .. => true
  | _ => false
def srcEn : List D → S → Out Src
  | [.ref i], s => match getL s i with
    | some ds => .ok ⟨enumD 0 ds, some (i, ds)⟩ s
    | none => .bad
  | _, _ => .bad
section
variable {X : Cx} {G : Gc} {W : WX} {e : Expr} {p pos tpos : Pos} {elts : List Expr} {kk : Nat}
theorem di_enum {fs : Env → S → Out (List D)} (hg : Gl X "enumerate") (hm : X.mg "enumerate" = none) (hs : notStar e = true) (ha : DA X G W [e] fs) : DI X G W (.Tuple elts kk tpos) (.Call (.Name "enumerate" p) [e] [] pos) (fun ρ s => (fs ρ s).bind srcEn) :=
  pi_imp (pi_enum hg hm ha (star_ns hs)) fun σ H R ⟨μ, ρ, s, r, re, h⟩ => dAI r re h fun ds s1 μ1 H1 vs x1 r1 re1 rv h1 => by
    unfold srcEn at h1
    split at h1
    · rename_i i
      split at h1
      · rename_i ds e
        obtain ⟨v, rfl, q⟩ := rel1 rv
        obtain ⟨a, us, rfl, ha', q', t⟩ := getL_ok r1 q e
        exact ⟨a, us, rfl, q', Fin.ok_ r1 h1 _ (it_enum ha')⟩
      · exact h1.elim
    · exact h1.elim
end
/-! ### tuples of numbers -/
def opLt : D → D → S → Out D
  | .int i, .int j, s => .ok (.bl (decide (i < j))) s
  | .tup as, .tup bs, s => match asInts as, asInts bs with
    | some ns, some ms => .ok (.bl (HT.lexLt ns ms)) s
    | _, _ => .bad
  | _, _, _ => .bad
section
variable {X : Cx} {G : Gc}
abbrev rLtA (X : Cx) : R2 := fun x y H Q => rI0 (fun i j => .bl (decide (i < j))) x y H Q ∨ rLtT X.K x y H Q
theorem lt_ok : Hk X G (rLtA X) opLt := by
  intro d1 d2 s μ H v1 v2 W Q r r1 r2 h
  unfold opLt at h
  split at h
  · rw [r1.int_, r2.int_]; exact .inl ⟨_, _, rfl, rfl, fin_ok r relBl h⟩
  · split at h
    · rename_i ns ms e1 e2
      obtain ⟨a, vs, rfl, q, t⟩ := r1.tup_
      obtain ⟨b, us, rfl, q', t'⟩ := r2.tup_
      rw [asInts_ok t e1] at q
      rw [asInts_ok t' e2] at q'
      exact .inr ⟨a, b, ns, ms, rfl, rfl, q, q', fin_ok r relBl h⟩
    · exact h.elim
  · exact h.elim
/-! ### remove, index -/
def findI (k : Int) : List Int → Option Nat
  | [] => none
  | n :: ns => if n = k then some 0 else (findI k ns).map (· + 1)
theorem findI_ok {k : Int} : ∀ {ns : List Int} {j : Nat}, findI k ns = some j → ns[j]? = some k ∧ ∀ m, m < j → ns[m]? ≠ some k
  | [], j, h => by cases h
  | n :: ns, j, h => by
    unfold findI at h
    by_cases e : n = k
    · rw [if_pos e] at h
      cases h
      exact ⟨by rw [e]; rfl, fun m hm => absurd hm (Nat.not_lt_zero m)⟩
    · rw [if_neg e] at h
      obtain ⟨i, hi, rfl⟩ := Option.map_eq_some_iff.mp h
      obtain ⟨h1, h2⟩ := findI_ok hi
      refine ⟨h1, fun m hm => ?_⟩
      cases m with
      | zero => simpa using e
      | succ m => simpa using h2 m (by omega)
def meRemove : D → List D → S → Out D
  | .ref i, [.int k], s => match s[i]? with
    | some (.lst ds) => match asInts ds with
      | some ns => match findI k ns with
        | some j => .ok .non (s.set i (.lst (ds.eraseIdx j)))
        | none => .bad
      | none => .bad
    | _ => .bad
  | _, _, _ => .bad
theorem remove_ok : HkM X G rRemI meRemove := by
  intro d ds s μ H v vs W Q r rv rvs h
  unfold meRemove at h
  split at h
  · rename_i i k
    split at h
    · rename_i xs e
      split at h
      · rename_i ns e1
        split at h
        · rename_i j e2
          obtain ⟨u, rfl, r1⟩ := rel1 rvs
          obtain ⟨a, us, rfl, ha, q, t⟩ := lst_ok r rv e
          rw [r1.int_]
          have e3 := asInts_ok t e1
          obtain ⟨f1, f2⟩ := findI_ok e2
          refine ⟨a, ns, k, j, rfl, rfl, e3 ▸ q, f1, f2, ?_⟩
          rw [← erase_mapI, ← e3]
          exact set_fin r ha q (t.eraseIdx j) relNon h
        · exact h.elim
      · exact h.elim
    · exact h.elim
  · exact h.elim
def meIndex : D → List D → S → Out D
  | .ref i, [.int k], s => match getL s i with
    | some ds => match asInts ds with
      | some ns => match findI k ns with
        | some j => .ok (.int j) s
        | none => .bad
      | none => .bad
    | none => .bad
  | _, _, _ => .bad
theorem index_ok : HkM X G (rIndex X.K) meIndex := by
  intro d ds s μ H v vs W Q r rv rvs h
  unfold meIndex at h
  split at h
  · rename_i i k
    split at h
    · rename_i xs e
      split at h
      · rename_i ns e1
        split at h
        · rename_i j e2
          obtain ⟨u, rfl, r1⟩ := rel1 rvs
          obtain ⟨a, us, rfl, ha, q, t⟩ := getL_ok r rv e
          rw [r1.int_]
          have e3 := asInts_ok t e1
          obtain ⟨f1, f2⟩ := findI_ok e2
          subst e3
          refine ⟨a, _, _, j, .int k, rfl, rfl, q, rfl, ?_, ?_, ?_, ?_, fin_ok r relInt h⟩
          · rw [List.all_eq_true]
            intro z hz
            obtain ⟨n, _, rfl⟩ := List.mem_map.mp hz
            rfl
          · rw [List.getElem?_map, f1]; rfl
          · exact beq_self_eq_true k
          · intro m z hm hz
            rw [List.getElem?_map] at hz
            cases hn : ns[m]? with
            | none => rw [hn] at hz; cases hz
            | some n =>
              rw [hn] at hz
              cases hz
              refine beq_eq_false_iff_ne.mpr fun e => ?_
              subst e
              exact f2 m hm hn
        · exact h.elim
      · exact h.elim
    · exact h.elim
  · exact h.elim
end
/-! ### list(range(..)), tuple(range(..)) -/
def rgOkB (a b : Int) : Bool := rngOk a && (rngOk b && decide ((b - a).toNat ≤ 2 ^ 24))
theorem rgOkB_ok {a b : Int} (h : rgOkB a b = true) : RgOk a b := by
  unfold rgOkB at h
  rw [Bool.and_eq_true, Bool.and_eq_true] at h
  obtain ⟨h1, h2, h3⟩ := h
  obtain ⟨a1, a2⟩ := rngOk_ok h1
  obtain ⟨b1, b2⟩ := rngOk_ok h2
  exact ⟨a1, a2, b1, b2, of_decide_eq_true h3⟩
theorem relRg {K : PySem.W.Frag} {μ : List Addr} {H : Hp} {f g : Nat → Int} (hfg : ∀ i, f i = g i) : ∀ (l : List Nat), RelDs K μ H (l.map fun i => D.int (f i)) (l.map fun i => V.int (g i))
  | [] => relNil
  | i :: l => by
    rw [List.map_cons, List.map_cons, hfg i]
    exact relCons relInt (relRg hfg l)
theorem relRange {K : PySem.W.Frag} {μ : List Addr} {H : Hp} {a b : Int} : RelDs K μ H (rangeD a (b - a).toNat) (rgV a b) := relRg (fun _ => rfl) _
def bnds2 : List D → Option (Int × Int)
  | [.int b] => some (0, b)
  | [.int a, .int b] => some (a, b)
  | _ => none
def lstRg (ds : List D) (s : S) : Out D := match bnds2 ds with
  | some (a, b) => if rgOkB a b = true then .ok (.ref s.length) (s ++ [.lst (rangeD a (b - a).toNat)]) else .bad
  | none => .bad
def tupRg (ds : List D) (s : S) : Out D := match bnds2 ds with
  | some (a, b) => if rgOkB a b = true then .ok (.tup (rangeD a (b - a).toNat)) s else .bad
  | none => .bad
theorem rg_fin {K : PySem.W.Frag} {G : Gc} {μ : List Addr} {H : Hp} {s : S} {W : XK} {Q : VK} {a b : Int} (r : Rel K μ H s) (h : Fin K G μ H W (if rgOkB a b = true then .ok (.ref s.length) (s ++ [.lst (rangeD a (b - a).toNat)]) else .bad) (qD K Q)) :
    RgOk a b ∧ ∀ q, H q = none → Q (.ref q) (upd H q (.lst (rgV a b))) := by
  split at h
  · rename_i hc
    exact ⟨rgOkB_ok hc, fun q hq => lst_fin r relRange h hq⟩
  · exact h.elim
theorem rt_fin {K : PySem.W.Frag} {G : Gc} {μ : List Addr} {H : Hp} {s : S} {W : XK} {Q : VK} {a b : Int} (r : Rel K μ H s) (h : Fin K G μ H W (if rgOkB a b = true then .ok (.tup (rangeD a (b - a).toNat)) s else .bad) (qD K Q)) :
    RgOk a b ∧ ∀ q, H q = none → Q (.ref q) (upd H q (.tup (rgV a b))) := by
  split at h
  · rename_i hc
    exact ⟨rgOkB_ok hc, fun q hq => tup_fin r relRange h hq⟩
  · exact h.elim
section
variable {X : Cx} {G : Gc} {W : WX} {a b : Expr} {fa fb : Env → S → Out D} {p p2 pos pos2 : Pos}
theorem de_lstRg1 (hc : X.calm = true) (hg : Gl X "list") (hm : X.mg "list" = none) (hg2 : Gl X "range") (hm2 : X.mg "range" = none) (ha : DE X G W a fa) (hs : notStar a = true) :
    DE X G W (.Call (.Name "list" p) [.Call (.Name "range" p2) [a] [] pos2] [] pos) (fun ρ s => (fa ρ s).bind fun x s => lstRg [x] s) :=
  pe_imp (pe_listRg hc hg hm (prg_1 hg2 hm2 ha (star_ns hs))) fun σ H Q ⟨μ, ρ, s, r, re, h⟩ => d1 r re h fun x s1 μ1 H1 v x1 r1 re1 rv1 h1 => by
    cases x with
    | int n => exact ⟨n, rv1.int_, rg_fin r1 h1⟩
    | _ => exact h1.elim
theorem de_lstRg2 (hc : X.calm = true) (hg : Gl X "list") (hm : X.mg "list" = none) (hg2 : Gl X "range") (hm2 : X.mg "range" = none) (ha : DE X G W a fa) (hb : DE X G W b fb) (hs : notStar a = true) (hs2 : notStar b = true) :
    DE X G W (.Call (.Name "list" p) [.Call (.Name "range" p2) [a, b] [] pos2] [] pos) (fun ρ s => (fa ρ s).bind fun x s => (fb ρ s).bind fun y s => lstRg [x, y] s) :=
  pe_imp (pe_listRg hc hg hm (prg_2 hg2 hm2 ha hb (star_ns hs) (star_ns hs2) (by rw [star_ns hs2]; rfl))) fun σ H Q ⟨μ, ρ, s, r, re, h⟩ => d1 r re h fun x s1 μ1 H1 v x1 r1 re1 rv1 h1 => d1 r1 re1 h1 fun y s2 μ2 H2 u x2 r2 re2 rv2 h2 => by
    cases x with
    | int n =>
      cases y with
      | int m => exact ⟨n, m, (rv1.mono x2).int_, rv2.int_, rg_fin r2 h2⟩
      | _ => exact h2.elim
    | _ => exact h2.elim
theorem de_tupRg1 (hc : X.calm = true) (hg : Gl X "tuple") (hm : X.mg "tuple" = none) (hg2 : Gl X "range") (hm2 : X.mg "range" = none) (ha : DE X G W a fa) (hs : notStar a = true) :
    DE X G W (.Call (.Name "tuple" p) [.Call (.Name "range" p2) [a] [] pos2] [] pos) (fun ρ s => (fa ρ s).bind fun x s => tupRg [x] s) :=
  pe_imp (pe_tupRg hc hg hm (prg_1 hg2 hm2 ha (star_ns hs))) fun σ H Q ⟨μ, ρ, s, r, re, h⟩ => d1 r re h fun x s1 μ1 H1 v x1 r1 re1 rv1 h1 => by
    cases x with
    | int n => exact ⟨n, rv1.int_, rt_fin r1 h1⟩
    | _ => exact h1.elim
theorem de_tupRg2 (hc : X.calm = true) (hg : Gl X "tuple") (hm : X.mg "tuple" = none) (hg2 : Gl X "range") (hm2 : X.mg "range" = none) (ha : DE X G W a fa) (hb : DE X G W b fb) (hs : notStar a = true) (hs2 : notStar b = true) :
    DE X G W (.Call (.Name "tuple" p) [.Call (.Name "range" p2) [a, b] [] pos2] [] pos) (fun ρ s => (fa ρ s).bind fun x s => (fb ρ s).bind fun y s => tupRg [x, y] s) :=
  pe_imp (pe_tupRg hc hg hm (prg_2 hg2 hm2 ha hb (star_ns hs) (star_ns hs2) (by rw [star_ns hs2]; rfl))) fun σ H Q ⟨μ, ρ, s, r, re, h⟩ => d1 r re h fun x s1 μ1 H1 v x1 r1 re1 rv1 h1 => d1 r1 re1 h1 fun y s2 μ2 H2 u x2 r2 re2 rv2 h2 => by
    cases x with
    | int n =>
      cases y with
      | int m => exact ⟨n, m, (rv1.mono x2).int_, rv2.int_, rt_fin r2 h2⟩
      | _ => exact h2.elim
    | _ => exact h2.elim
end
end Fe

set_option maxHeartbeats 2000000
/-! Fe V: str(o) by an own __str__; sep.join; f'..'. -/
namespace Fe
open PySem PySem.Spec PyProof.Rows L2
open TL (joinL tl tl_join join_eq mk_tl)
def asSt : D → S → Out D
  | .str c, s => .ok (.str c) s
  | _, _ => .bad
def strOwn (c : Cl) (F : List D → S → Out D) : List D → S → Out D
  | [d], s => if clIs c s d = true then (F [d] s).bind asSt else .bad
  | _, _ => .bad
section
variable {X : Cx} {G : Gc} {W : WX} {k : Nat} {f : Addr} {fd : FuncData} {ps : List Str} {m : Str} {pos p : Pos} {a b e : Expr} {F : List D → S → Out D} {fa fb fo : Env → S → Out D} {c : Cl}
theorem de_ownStr {fs : Env → S → Out (List D)} (M : SpUse X G c "__str__" F 1 k f fd ps) (hr : Room (k + 2) X.A) (hgd : X.A.guards = some []) (tk : Takes X W) (hg : Gl X "str") (hm : X.mg "str" = none) (ha : DA X G W [e] fs) (hs : notStar e = true) :
    DE X G W (.Call (.Name "str" p) [e] [] pos) (fun ρ s => (fs ρ s).bind (strOwn c F)) := by
  refine ⟨fun pins s0 σ H Q I hh => ?_⟩
  obtain ⟨μ, ρ, s, r, re, h⟩ := hh
  refine wpAny_Call_Name_kw (ld_blt I hg hm (show bootBuiltins "str" = some (.type "str") by decide +kernel) ?_ (by decide) (by decide))
  have ta : tA X.K G W fs σ H (fun vs H1 => ∃ a dx fl, vs = [V.ref a] ∧ H1 a = some (.ins (He.ga X.K c.x) dx fl) ∧ spF X.K G ps.length F [.ref a] H1 (fun v H' => ∃ n, v = .str n ∧ Q (.str n) H') (fun c d H' => W c d σ H')) :=
    dA1 r re h fun ds s1 μ1 H1 vs x1 r1 re1 rvs h1 => by
      unfold strOwn at h1
      split at h1
      · rename_i d s2
        obtain ⟨v, ws, rfl, rv, t⟩ := rvs.cons_
        rw [t.nil_]
        split at h1
        · rename_i hc
          obtain ⟨a, dx, vs, rfl, q, l, ok⟩ := clIs_ok r1 rv hc
          refine ⟨a, dx, _, rfl, q, spF_of r1 (relCons rv relNil) (fun ds s hn => by rw [M.na ds s hn, M.len]) (h1.bind.imp fun d2 s3 μ3 H3 x3 r3 h3 v3 rv3 => ?_)⟩
          cases d2 with
          | str n => exact ⟨_, rv3.str_, h3.ok_ r3 _ (relStr rv3.okS)⟩
          | _ => exact h3.elim
        · exact h1.elim
      · exact h1.elim
  refine PyProof.Rows.callWith_type1 (thn (ha.run pos pins s0 σ H _ I ta) fun us s1 ⟨vs, H1, I1, r1, a, dx, fl, ev, ea, q⟩ => ?_) (star_ns hs) rfl
  subst ev
  cases r1 with
  | cons r0 r2 =>
    cases r2
    cases r0
    obtain ⟨mA, O, _, _, _, _⟩ := ins_get I1.hok ea
    obtain ⟨od, J, _⟩ := O.look
    refine PySem.W.kso_call hr.in1.in1.units0 I1.kIn J M.at_ M.isf (wpAny_mono (run_fnG2 (us := [.ref a]) (vs := [.ref a]) M.fn hr hgd M.bd tk I1 (.cons rfl .nil) q) (fun r s' ⟨z, H', I', rz, n, e, q'⟩ => ?_) fun _ _ z => z)
    subst e
    obtain ⟨t, rfl⟩ := rz
    exact ⟨.str n, H', I', ⟨t, rfl⟩, q'⟩
end
/-! ### join -/
def asStrs : List D → Option (List (List Nat))
  | [] => some []
  | .str c :: ds => (asStrs ds).map (c :: ·)
  | _ => none
theorem asStrs_ok {K : PySem.W.Frag} {μ : List Addr} {H : Hp} : ∀ {ds : List D} {vs : List V} {ys : List (List Nat)}, RelDs K μ H ds vs → asStrs ds = some ys → vs = (ys.map fun c => (⟨c.toArray⟩ : Str)).map V.str ∧ ∀ c ∈ ys, okS c = true
  | [], vs, ns, r, e => by rw [r.nil_]; cases e; exact ⟨rfl, fun c hc => nomatch hc⟩
  | .str i :: ds, vs, ns, r, e => by
    obtain ⟨v, ws, rfl, r1, t⟩ := r.cons_
    unfold asStrs at e
    cases h : asStrs ds with
    | none => rw [h] at e; cases e
    | some ms =>
      rw [h] at e; cases e
      obtain ⟨a, b⟩ := asStrs_ok t h
      refine ⟨by rw [r1.str_, a]; rfl, fun c hc => ?_⟩
      rcases List.mem_cons.mp hc with q | q
      · rw [q]; exact r1.okS
      · exact b c q
  | .non :: ds, vs, ns, r, e => by cases e
  | .bl _ :: ds, vs, ns, r, e => by cases e
  | .int _ :: ds, vs, ns, r, e => by cases e
  | .tup _ :: ds, vs, ns, r, e => by cases e
  | .ref _ :: ds, vs, ns, r, e => by cases e
theorem okS_joinL {a : List Nat} (ha : okS a = true) : ∀ {ys : List (List Nat)}, (∀ c ∈ ys, okS c = true) → okS (joinL a ys) = true
  | [], _ => rfl
  | [p], h => h p List.mem_cons_self
  | p :: q :: r, h => by
    show okS (p ++ (a ++ joinL a (q :: r))) = true
    exact okS_append (h p List.mem_cons_self) (okS_append ha (okS_joinL ha fun c hc => h c (List.mem_cons_of_mem _ hc)))
theorem join_str (a : List Nat) (ys : List (List Nat)) : Txt.join (⟨a.toArray⟩ : Str) (ys.map fun c => (⟨c.toArray⟩ : Str)) = ⟨(joinL a ys).toArray⟩ := by
  rw [join_eq]
  have h := tl_join ⟨a.toArray⟩ (ys.map fun c => (⟨c.toArray⟩ : Str))
  have e1 : (ys.map fun c => (⟨c.toArray⟩ : Str)).map tl = ys := by
    rw [List.map_map]
    exact List.map_id'' (fun c => by show (c.toArray).toList = c; simp) ys
  rw [e1] at h
  have e2 : tl (⟨a.toArray⟩ : Str) = a := by show (a.toArray).toList = a; simp
  rw [e2] at h
  rw [← h]
def meJoin : D → List D → S → Out D
  | .str a, [d], s => match itemsOf s d with
    | some ds => match asStrs ds with
      | some ys => if (ys.map List.length).sum + ys.length * a.length ≤ 16777216 then .ok (.str (joinL a ys)) s else .bad
      | none => .bad
    | none => .bad
  | _, _, _ => .bad
section
variable {X : Cx} {G : Gc}
theorem join_ok : HkM X G (fun x xs H Q => ∃ a p, ∃ ys : List Str, x = .str a ∧ xs = [.ref p] ∧ (SqL X.K H p (ys.map V.str) ∨ SqT X.K H p (ys.map V.str)) ∧
    (ys.map (·.length)).sum + ys.length * a.length ≤ 16777216 ∧ Q (.str (Txt.join a ys)) H) meJoin := by
  intro d ds s μ H v vs W Q r rv rvs h
  unfold meJoin at h
  split at h
  · rename_i a d
    split at h
    · rename_i xs e
      split at h
      · rename_i ys e1
        split at h
        · rename_i hl
          obtain ⟨u, rfl, r1⟩ := rel1 rvs
          obtain ⟨p, us, rfl, q, t⟩ := items_ok r r1 e
          obtain ⟨e2, ok⟩ := asStrs_ok t e1
          subst e2
          refine ⟨⟨a.toArray⟩, p, _, rv.str_, rfl, q, ?_, ?_⟩
          · rw [List.map_map, List.length_map]
            have : (fun x : Str => x.length) ∘ (fun c : List Nat => (⟨c.toArray⟩ : Str)) = List.length := funext fun c => by show (c.toArray).size = c.length; simp
            rw [this]
            show _ + ys.length * (a.toArray).size ≤ _
            rw [List.size_toArray]
            exact hl
          · rw [join_str]
            exact fin_ok r (relStr (okS_joinL rv.okS ok)) h
        · exact h.elim
      · exact h.elim
    · exact h.elim
  · exact h.elim
end
/-! ### f'..' -/
def fmtD : D → Option (List Nat)
  | .str c => if c.length ≤ 16777216 then some c else none
  | .int i => if i.natAbs.log2 < 1920 then some (itext i) else none
  | _ => none
def fstV : List (Env → S → Out D) → List Nat → Env → S → Out D
  | [], acc, _, s => .ok (.str acc) s
  | m :: ms, acc, ρ, s => (m ρ s).bind fun d s => match fmtD d with
    | some c => if (acc ++ c).length ≤ line then fstV ms (acc ++ c) ρ s else .bad
    | none => .bad
/-- the parts -/
inductive FJ (X : Cx) (G : Gc) (W : WX) : List Expr → List (Env → S → Out D) → Prop
  | nil : FJ X G W [] []
  | con {c : List Nat} {k : Nat} {pos : Pos} {xs ms} : okS c = true → FJ X G W xs ms → FJ X G W (.Constant (.str ⟨c.toArray⟩) k pos :: xs) ((fun _ s => .ok (.str c) s) :: ms)
  | fmt {e : Expr} {m : Env → S → Out D} {pos : Pos} {xs ms} : DE X G W e m → FJ X G W xs ms → FJ X G W (.FormattedValue e (-1) none pos :: xs) (m :: ms)
section
variable {X : Cx} {G : Gc} {W : WX}
theorem app_str (a b : List Nat) : (⟨a.toArray⟩ : Str) ++ ⟨b.toArray⟩ = ⟨(a ++ b).toArray⟩ := str_app a b
theorem len_str (a : List Nat) : (⟨a.toArray⟩ : Str).length = a.length := by show a.toArray.size = _; simp
theorem fj_run {xs : List Expr} {ms : List (Env → S → Out D)} (h : FJ X G W xs ms) : ∃ ts : List TE, PJ X xs ts ∧ ∀ (acc : List Nat) (σ : L2.St) (H : Hp) (Q : VK) (μ : List Addr) (ρ : Env) (s : S), okS acc = true → Rel X.K μ H s → RelEnv X.K μ H ρ σ →
    Fin X.K G μ H (fun c d H' => W c d σ H') (fstV ms acc ρ s) (qD X.K Q) → tJs ts ⟨acc.toArray⟩ σ H (fun out H1 => Q (.str out) H1) := by
  induction h with
  | nil => exact ⟨[], .nil, fun acc σ H Q μ ρ s ok r re h => fin_ok r (relStr ok) h⟩
  | @con c k pos xs ms ok _ ih =>
    obtain ⟨ts, p, q⟩ := ih
    refine ⟨_, .cons (de_str (X := X) (G := G) (W := W) ok) p, fun acc σ H Q μ ρ s oka r re h => ?_⟩
    unfold fstV at h
    show tD X.K G W _ σ H _
    refine ⟨μ, ρ, s, r, re, fun μ1 H1 x1 r1 v rv => ?_⟩
    have h1 : Fin X.K G μ H (fun c d H' => W c d σ H') (match fmtD (.str c) with | some c => if (acc ++ c).length ≤ line then fstV ms (acc ++ c) ρ s else .bad | none => .bad) (qD X.K Q) := h
    split at h1
    · rename_i c' e
      split at h1
      · rename_i hl
        unfold fmtD at e
        dsimp only at e
        split at e
        · cases e
          refine ⟨_, rv.str_, by rw [app_str, len_str, ← line_eq]; exact hl, ?_⟩
          rw [app_str]
          exact q _ σ H1 Q μ1 ρ s (okS_append oka ok) r1 (re.mono x1) (h1.ext x1)
        · cases e
      · exact h1.elim
    · exact h1.elim
  | @fmt e m pos xs ms he _ ih =>
    obtain ⟨ts, p, q⟩ := ih
    refine ⟨_, .cons (pe_fmt he) p, fun acc σ H Q μ ρ s oka r re h => ?_⟩
    unfold fstV at h
    show tD X.K G W m σ H _
    refine d1 r re h fun d s1 μ1 H1 v x1 r1 re1 rv h1 => ?_
    split at h1
    · rename_i c e
      split at h1
      · rename_i hl
        have hl' : ((⟨acc.toArray⟩ : Str) ++ ⟨c.toArray⟩).length ≤ sizeLine := by rw [app_str, len_str, ← line_eq]; exact hl
        cases d with
        | str c' =>
          unfold fmtD at e
          dsimp only at e
          split at e
          · rename_i hc
            cases e
            refine .inl ⟨_, rv.str_, by rw [len_str, sizeLine_eq]; exact hc, _, rfl, hl', ?_⟩
            rw [app_str]
            exact q _ σ H1 Q μ1 ρ s1 (okS_append oka rv.okS) r1 re1 h1
          · cases e
        | int i =>
          unfold fmtD at e
          dsimp only at e
          split at e
          · rename_i hc
            cases e
            refine .inr ⟨i, rv.int_, hc, _, rfl, by rw [itext_eq]; exact hl', ?_⟩
            rw [itext_eq, app_str]
            exact q _ σ H1 Q μ1 ρ s1 (okS_append oka (okS_itext i)) r1 re1 h1
          · cases e
        | _ => cases e
      · exact h1.elim
    · exact h1.elim
theorem de_fst {v1 v2 : Expr} {rest : List Expr} {ms : List (Env → S → Out D)} {pos : Pos} (h : FJ X G W (v1 :: v2 :: rest) ms) : DE X G W (.JoinedStr (v1 :: v2 :: rest) pos) (fun ρ s => fstV ms [] ρ s) := by
  obtain ⟨ts, p, q⟩ := fj_run h
  refine pe_imp (pe_joined p) fun σ H Q ⟨μ, ρ, s, r, re, h⟩ => ?_
  exact q [] σ H Q μ ρ s rfl r re h
end
end Fe

set_option maxHeartbeats 4000000
/-! Fe 10: own exceptions: made, raised, caught. -/
namespace Fe
open PySem PySem.Spec PyProof.Rows L2
open PySem.W (Frag)

/-! ### the built-in class that an own one rests on -/
inductive Bs where
  | ve | le | oe
  deriving DecidableEq
def Bs.name : Bs → String
  | .ve => "ValueError"
  | .le => "LookupError"
  | .oe => "OverflowError"
def Bs.newId : Bs → String
  | .ve => "ValueError.__new__"
  | .le => "LookupError.__new__"
  | .oe => "OverflowError.__new__"
def Bs.initId : Bs → String
  | .ve => "ValueError.__init__"
  | .le => "LookupError.__init__"
  | .oe => "OverflowError.__init__"
def Bs.tail : Bs → List Value
  | .ve => [.type "ValueError", .type "Exception", .type "BaseException", .type "object"]
  | .le => [.type "LookupError", .type "Exception", .type "BaseException", .type "object"]
  | .oe => [.type "OverflowError", .type "ArithmeticError", .type "Exception", .type "BaseException", .type "object"]
theorem Bs.facts : ∀ b : Bs, ExcBaseFacts b.name b.newId b.initId b.tail
  | .ve => F.excBase_ValueError
  | .le => F.excBase_LookupError
  | .oe => F.excBase_OverflowError
theorem Bs.pass (self : Value) : ∀ b : Bs, refuseLoop self "__setattr__" b.tail = pure ()
  | .ve => by kernel_rfl
  | .le => by kernel_rfl
  | .oe => by kernel_rfl
/-- own classes, then the built-in one's order -/
def mroB (b : Bs) : List Value → Bool
  | .ref _ :: r => mroB b r
  | l => l == b.tail
theorem mroB_cases (b : Bs) : ∀ l : List Value, mroB b l = true → (∃ c r, l = .ref c :: r ∧ mroB b r = true) ∨ l = b.tail := by
  intro l e
  unfold mroB at e
  split at e
  · rename_i c r
    exact .inl ⟨c, r, rfl, e⟩
  · exact .inr (beq_iff_eq.mp e)
theorem mroB_pass {b : Bs} (self : Value) : ∀ l : List Value, mroB b l = true → refuseLoop self "__setattr__" l = pure ()
  | [], e => by
    rcases mroB_cases b [] e with ⟨c, r', q, h⟩ | q
    · cases q
    · rw [q]; exact b.pass self
  | a :: r, e => by
    rcases mroB_cases b (a :: r) e with ⟨c, r', q, h⟩ | q
    · obtain ⟨rfl, rfl⟩ := List.cons.inj q
      rw [refuseLoop_ref]; exact mroB_pass self r h
    · rw [q]; exact b.pass self
theorem mroB_contains {b : Bs} (Y : String) : ∀ l : List Value, mroB b l = true → l.contains (.type Y) = b.tail.contains (.type Y)
  | [], e => by
    rcases mroB_cases b [] e with ⟨c, r', q, h⟩ | q
    · cases q
    · rw [q]
  | a :: r, e => by
    rcases mroB_cases b (a :: r) e with ⟨c, r', q, h⟩ | q
    · obtain ⟨rfl, rfl⟩ := List.cons.inj q
      rw [List.contains_cons, mroB_contains Y r h]; rfl
    · rw [q]
theorem mroB_obj {b : Bs} {l : List Value} (e : mroB b l = true) : l.contains (.type "object") = true := by
  rw [mroB_contains "object" l e]
  cases b <;> decide +kernel
theorem mroB_ne {b : Bs} {l : List Value} (e : mroB b l = true) : l.isEmpty = false := by
  cases l with
  | nil =>
    have := mroB_obj e
    cases this
  | cons _ _ => rfl

/-! ### self.f = v on an exception that has no dict yet -/
section
open PySem.W PySem.Calls PyProof.Rows Builtin.ObjectAttr
variable {prog : Program} {w : World} {A : Around} {E : Value → Shared → Prop} {R : Result → Shared → Prop} {hp : Heap} {g : Array GenState} {d : Drawn} {t : Nat} {os : OsState}
theorem osaX {K : Frag} {b : Bs} {name : Str} {tk : Tok} {v : Value} {x C : Addr} {fv : Array Value} {cd : ClassData} (X : K.In hp) (hx : hp.get? x = some { cls := .ref C, data := .fields fv }) (hcd : clsIn K C = some cd)
    (hm : mroB b cd.mro = true) (hh : cd.hasDict = true) (ha : findIn K (.ref C) name = some none)
    (hq : ∀ h' tk' dx, (∀ a o, a ≠ x → hp.get? a = some o → h'.get? a = some o) → hp.objs.size ≤ dx → dx ≠ x → h'.get? x = some { cls := .ref C, dict := some dx, data := .fields fv } →
      h'.Ns1 dx (fun y => if y = name then some v else none) → R (.ok (.ret .none)) ⟨h', g, d, tk', os⟩) :
    codeAny (model prog w) A (.call (.builtin "object.__setattr__") ⟨[.ref x, .str name tk, v], []⟩) R ⟨hp, g, d, t, os⟩ := by
  have J : InstAt hp x { cls := .ref C, data := .fields fv } C none := ⟨hx, rfl, rfl, trivial⟩
  have ne := mroB_ne hm
  have ob := mroB_obj hm
  have apart : x ≠ hp.objs.size := Nat.ne_of_lt (Heap.lt_size hx)
  have isObj : Looks (model prog w) hp (isInstance (.ref x) (.type "object")) true := by
    refine J.type.andThen (looks_mroIn X ?_)
    unfold mroIn
    rw [hcd, Option.bind_some, if_neg (by rw [ne]; decide), ob]
  have order : Looks (model prog w) hp (mroOf (.ref C)) cd.mro := (looks_clsIn X hcd).andThen .now
  have noTaker : Looks (model prog w) hp (storeTaker? none) none := .now
  have its : Looks (model prog w) hp (classData C) cd := looks_clsIn X hcd
  refine codeAny_call_builtin F.store_object.slot.plain F.store_object.entry ?_
  refine @check_slot (model prog w) _ _ ⟨hp, g, d, t, os⟩ "object.__setattr__" "object" "__setattr__" (.ref x) [.str name tk, v] [] _ F.store_object.kind F.store_object.split isObj (F.store_object.args (.ref x) (.str name tk) v) ?_
  rw [osa_eq, refuse_eq]
  refine wpAny_bind (wpAny_bind (J.type.at (wpAny_bind (order.at ?_))))
  rw [mroB_pass _ _ hm]
  refine wpAny_pure (wpAny_bind (J.type.at (wpAny_bind ((looks_findIn X ha).at (wpAny_bind (noTaker.at ?_))))))
  show wpAny _ _ (storeInOwnDict (.ref x) (.ref C) (.str name tk) name v false) _ _ _
  obtain ⟨nm, bs, mro, ns, qn, hd, sn, sb, ab, col, del⟩ := cd
  dsimp only at hh
  subst hh
  unfold storeInOwnDict ownDictForStores
  repeat (first
    | with_reducible refine PySem.PX.store_in_new ?_ ?_
    | with_reducible refine wpAny_loadPart_at hx ?_
    | with_reducible refine its.at ?_
    | wp_step)
  · exact ⟨_, #[], _, (Heap.get?_update_ne _ _ _ _ apart.symm).trans (Heap.get?_push_at rfl rfl), rfl, fun e he => absurd he (by simp), fun _ => rfl⟩
  · intro h' tk' hn' same
    have old : (hp.push { cls := .type "dict", data := .dict #[] }).get? x = some { cls := .ref C, data := .fields fv } := Heap.get?_push_of_some _ hx
    refine hq h' tk' hp.objs.size (fun a o ha' ho => ?_) (Nat.le_refl _) apart.symm ((same.2 x apart).trans (Heap.get?_update_self _ old rfl)) hn'
    have z1 := same.2 a (Nat.ne_of_lt (Heap.lt_size ho))
    exact z1.trans ((Heap.get?_update_ne _ _ _ _ ha').trans (Heap.get?_push_of_some _ ho))
end
end Fe

set_option maxHeartbeats 2000000
/-! Fe 11: the operations by name. -/
namespace Fe
open PySem PySem.Spec PyProof.Rows L2

/-! ### operators -/
inductive Ar where
  | add | sub | mul | div | mod | pow
def Ar.op : Ar → Operator
  | .add => .Add
  | .sub => .Sub
  | .mul => .Mult
  | .div => .FloorDiv
  | .mod => .Mod
  | .pow => .Pow
def Ar.f : Ar → D → D → S → Out D
  | .add => opAdd
  | .sub => opSub
  | .mul => opMul
  | .div => opDiv
  | .mod => opMod
  | .pow => opPow
inductive Cm where
  | eq | ne | lt | le | gt | ge | is | isn | in_ | nin
def Cm.op : Cm → CmpOp
  | .eq => .Eq
  | .ne => .NotEq
  | .lt => .Lt
  | .le => .LtE
  | .gt => .Gt
  | .ge => .GtE
  | .is => .Is
  | .isn => .IsNot
  | .in_ => .In
  | .nin => .NotIn
def Cm.f : Cm → D → D → S → Out D
  | .eq => opEq
  | .ne => opNe
  | .lt => opLt
  | .le => opI2 fun i j => decide (i ≤ j)
  | .gt => opI2 fun i j => decide (j < i)
  | .ge => opI2 fun i j => decide (j ≤ i)
  | .is => opIs
  | .isn => opIsNot
  | .in_ => opIn
  | .nin => opNotIn
section
variable {X : Cx} {G : Gc}
theorem ar_all (o : Ar) : ∃ r, OpR X (binaryOp o.op) r ∧ Hk X G r o.f := by
  cases o with
  | add => exact ⟨_, op_addA, add_ok⟩
  | sub => exact ⟨_, op_sub, sub_ok⟩
  | mul => exact ⟨_, op_mulAll, mul_ok⟩
  | div => exact ⟨_, op_fdivW, div_ok⟩
  | mod => exact ⟨_, op_mod, mod_ok⟩
  | pow => exact ⟨_, op_powA, pow_ok⟩
theorem cm_all (hu : X.A.units + 65 < cLine) (o : Cm) : ∃ r, OpR X (compareOp o.op) r ∧ Hk X G r o.f := by
  cases o with
  | eq => exact ⟨_, op_eqD (Nat.lt_of_succ_lt hu), eq_ok⟩
  | ne => exact ⟨_, op_neD (Nat.lt_of_succ_lt hu), ne_ok⟩
  | lt => exact ⟨_, op_lt.or (op_ltT (by omega)), lt_ok⟩
  | le => exact ⟨_, op_le, i2_ok _⟩
  | gt => exact ⟨_, op_gt, i2_ok _⟩
  | ge => exact ⟨_, op_ge, i2_ok _⟩
  | is => exact ⟨_, op_isN, is_ok⟩
  | isn => exact ⟨_, op_notN, isNot_ok⟩
  | in_ => exact ⟨_, op_inA hu, in_ok⟩
  | nin => exact ⟨_, op_notInA hu, notIn_ok⟩
end

/-! ### repr -/
/-- a text's codes -/
def codes (x : Str) : List Nat := x.cps.toList
theorem codes_mk (x : Str) : (⟨(codes x).toArray⟩ : Str) = x := by cases x; simp [codes]
/-- a flat value written out -/
def pdF : D → Option PyData
  | .non => some .none
  | .bl b => some (.bool b)
  | .int i => some (.int i)
  | .str cs => some (.str ⟨cs.toArray⟩)
  | _ => none
def pdKv (kvs : List (D × D)) : Option (List (PyData × PyData)) := mapO (fun p => match pdF p.1, pdF p.2 with
  | some a, some b => some (a, b)
  | _, _ => none) kvs
/-- a value written out, a dict of flat values too -/
def pdR (s : S) (d : D) : Option PyData := match d with
  | .ref i => match s[i]? with
    | some (.dct kvs) => (pdKv kvs).map .dict
    | _ => pd s 60 d
  | _ => pd s 60 d
def biRepr : List D → S → Out D
  | [d], s => match pdR s d with
    | some p => if (p.showable && (decide (p.depth ≤ 60) && (decide (p.shown.length ≤ 16777216) && okS (codes p.shown)))) = true then .ok (.str (codes p.shown)) s else .bad
    | none => .bad
  | _, _ => .bad
/-- flat -/
inductive Fp : V → PyData → Prop
  | non : Fp .non .none
  | bl (b : Bool) : Fp (.bl b) (.bool b)
  | int (i : Int) : Fp (.int i) (.int i)
  | str (x : Str) : Fp (.str x) (.str x)
theorem Fp.reads {h : Heap} {v : V} {u : Value} {p : PyData} (f : Fp v p) (r : RelV v u) : Reads h u p [] := by
  cases f with
  | non => cases r; exact .none
  | bl b => cases r; exact .bool b
  | int i => obtain ⟨t, rfl⟩ := r; exact .int i t
  | str x => obtain ⟨t, rfl⟩ := r; exact .str x t
inductive FpKv : List (Key × V) → List (PyData × PyData) → Prop
  | nil : FpKv [] []
  | cons {k v kvs p q ps} : Fp (kV k) p → Fp v q → FpKv kvs ps → FpKv ((k, v) :: kvs) ((p, q) :: ps)
theorem pdF_ok {K : PySem.W.Frag} {μ : List Addr} {H : Hp} {d : D} {v : V} {p : PyData} (r : RelD K μ H d v) (e : pdF d = some p) : Fp v p := by
  cases d with
  | non => cases e; rw [r.non_]; exact .non
  | bl b => cases e; rw [r.bl_]; exact .bl b
  | int i => cases e; rw [r.int_]; exact .int i
  | str cs => cases e; rw [r.str_]; exact .str _
  | _ => cases e
theorem pdKv_ok {K : PySem.W.Frag} {μ : List Addr} {H : Hp} : ∀ {kvs : List (D × D)} {ws : List (Key × V)} {ps : List (PyData × PyData)}, RelKV K μ H kvs ws → pdKv kvs = some ps → FpKv ws ps
  | [], ws, ps, r, e => by
    cases r
    cases e
    exact .nil
  | x :: xs, ws, ps, r, e => by
    obtain ⟨k, v, t, rfl, ek, rv, rt⟩ := r
    unfold pdKv mapO at e
    cases e1 : pdF x.1 with
    | none => rw [e1] at e; cases e
    | some a =>
      cases e2 : pdF x.2 with
      | none => rw [e1, e2] at e; cases e
      | some b =>
        rw [e1, e2] at e
        dsimp only at e
        cases e3 : pdKv xs with
        | none => unfold pdKv at e3; rw [e3] at e; cases e
        | some l =>
          have ih := pdKv_ok rt e3
          unfold pdKv at e3
          rw [e3] at e
          cases e
          refine .cons ?_ (pdF_ok rv e2) ih
          cases hx : x.1 with
          | int i => rw [hx] at ek e1; cases ek; cases e1; exact .int i
          | str cs => rw [hx] at ek e1; cases ek; cases e1; exact .str _
          | _ => rw [hx] at ek; cases ek
theorem key_rel {k : Key} {u : Value} (h : keyIs k u = true) : RelV (kV k) u := by
  rcases keyIs_shape h with ⟨i, t, rfl, rfl⟩ | ⟨x, t, rfl, rfl⟩
  · exact ⟨t, rfl⟩
  · exact ⟨t, rfl⟩
theorem reads_pairs {P : Program} {w : World} {h : Heap} : ∀ {es : List DictEntry} {vs : List (Key × Value)} {ws : List (Key × V)} {ps : List (PyData × PyData)}, Pairs (mixKind P w) es vs → KV ws vs → FpKv ws ps → ReadsAll h (es.map (·.key)) (ps.map (·.1)) [] ∧ ReadsAll h (es.map (·.val)) (ps.map (·.2)) []
  | _, _, _, _, .nil, r, f => by
    cases r
    cases f
    exact ⟨.nil, .nil⟩
  | _, _, _, _, .cons a b c, r, f => by
    cases r with
    | cons r1 r2 =>
      cases f with
      | cons f1 f2 f3 =>
        obtain ⟨q1, q2⟩ := reads_pairs (h := h) c r2 f3
        have rk := key_rel (r1.1 ▸ a)
        exact ⟨.cons (as := []) (bs := []) (f1.reads rk) q1, .cons (as := []) (bs := []) (by show Reads h _ _ []; dsimp only; rw [b]; exact f2.reads r1.2) q2⟩
def Rp (K : PySem.W.Frag) (H : Hp) (x : V) (p : PyData) : Prop := (Dp K H x p ∧ p.hasDict = false) ∨ ∃ a ws ps, x = .ref a ∧ H a = some (.dK ws) ∧ p = .dict ps ∧ FpKv ws ps
def rRepr (K : PySem.W.Frag) : List V → Hp → VK → Prop := fun xs H Q => ∃ x p, xs = [x] ∧ Rp K H x p ∧ p.depth ≤ 60 ∧ p.showable = true ∧ p.shown.length ≤ sizeLine ∧ Q (.str p.shown) H
section
variable {X : Cx} {G : Gc}
mutual
theorem dp_noDict {K : PySem.W.Frag} {H : Hp} : ∀ (p : PyData) (v : V), Dp K H v p → p.hasDict = false
  | .none, _, _ => rfl
  | .bool _, _, _ => rfl
  | .int _, _, _ => rfl
  | .str _, _, _ => rfl
  | .list ds, v, h => by cases h with | lst q t => exact dps_noDict ds _ t
  | .tuple ds, v, h => by cases h with | tup q t => exact dps_noDict ds _ t
  | .dict _, v, h => by cases h
theorem dps_noDict {K : PySem.W.Frag} {H : Hp} : ∀ (p : List PyData) (v : List V), DpAll K H v p → PyData.hasDictAll p = false
  | [], _, _ => rfl
  | d :: ds, _, h => by
    cases h with
    | cons a b =>
      unfold PyData.hasDictAll
      rw [dp_noDict d _ a, dps_noDict ds _ b]; rfl
end
theorem call_repr (hg : X.A.guards = some []) (hu : X.A.units + 65 < cLine) : CallR X (.builtin "repr") (rRepr X.K) := by
  intro pins s σ H xs us Q I r h
  obtain ⟨x, p, rfl, hd, hdep, hs, hl, q⟩ := h
  obtain ⟨u, rfl, rv⟩ := Vals.one r
  rcases hd with ⟨hd, hn⟩ | ⟨a, ws, ps, rfl, ha, rfl, f⟩
  · cases hd with
    | non => cases rv; exact PySem.P.repr_of_none ⟨.str _, H, I.tok _, ⟨_, rfl⟩, q⟩
    | bl b => cases rv; exact PySem.P.repr_of_bool ⟨.str _, H, I.tok _, ⟨_, rfl⟩, q⟩
    | int i => obtain ⟨t, rfl⟩ := rv; exact PySem.P.repr_of_int (of_decide_eq_true hs) ⟨.str _, H, I.tok _, ⟨_, rfl⟩, q⟩
    | str z => obtain ⟨t, rfl⟩ := rv; exact PySem.P.repr_of_str ⟨.str _, H, I.tok _, ⟨_, rfl⟩, q⟩ hl
    | lst a b =>
      have hd := Dp.lst a b
      obtain ⟨as, R⟩ := Dp.reads I _ _ _ hd rv
      cases (show u = Value.ref _ from rv)
      exact repr_of_reads' R hs (fun z => by rw [hn] at z; cases z) hg (by omega) (fun _ _ e => e) (fun h' u tk hk => ⟨.str _, H, I.kept hk, ⟨_, rfl⟩, q⟩) hl
    | tup a b =>
      have hd := Dp.tup a b
      obtain ⟨as, R⟩ := Dp.reads I _ _ _ hd rv
      cases (show u = Value.ref _ from rv)
      exact repr_of_reads' R hs (fun z => by rw [hn] at z; cases z) hg (by omega) (fun _ _ e => e) (fun h' u tk hk => ⟨.str _, H, I.kept hk, ⟨_, rfl⟩, q⟩) hl
  · cases (show u = Value.ref a from rv)
    obtain ⟨hz, hsy, vs, kv, o, es, ep, ho, he, hd, hk, hp, hnd⟩ := dk_of I.hok ha
    obtain ⟨q1, q2⟩ := reads_pairs (h := s.heap) hp kv f
    have R : Reads s.heap (.ref a) (.dict ps) (a :: [] ++ []) := .dict ho he.1 hd q1 q2
    refine repr_of_reads' R hs (fun _ z => ?_) hg (by omega) (fun _ _ e => e) (fun h' u tk hk => ⟨.str _, H, I.kept hk, ⟨_, rfl⟩, q⟩) hl
    have e : sysModules = a := by simpa using z
    rw [e] at hsy
    simp at hsy
theorem repr_ok : HkC X G (rRepr X.K) biRepr := by
  intro ds s μ H vs W Q r rv h
  unfold biRepr at h
  split at h
  · rename_i d
    split at h
    · rename_i p e
      split at h
      · rename_i hc
        simp only [Bool.and_eq_true] at hc
        obtain ⟨c1, c2, c3, c4⟩ := hc
        obtain ⟨v, rfl, r1⟩ := rel1 rv
        have rp : Rp X.K H v p := by
          have plain : pd s 60 d = some p → Rp X.K H v p := fun e => by
            obtain ⟨a, b, c⟩ := pd_ok r 60 d v p r1 e
            exact .inl ⟨a, dp_noDict p v a⟩
          unfold pdR at e
          split at e
          · rename_i i
            split at e
            · rename_i kvs hs
              obtain ⟨ps, e1, e2⟩ := Option.map_eq_some_iff.mp e
              subst e2
              obtain ⟨a, rfl, ha⟩ := r1.ref_
              obtain ⟨ws, q, t⟩ := r.obj i a _ ha hs
              exact .inr ⟨a, ws, ps, rfl, q, rfl, pdKv_ok t e1⟩
            · exact plain e
          · exact plain e
        refine ⟨v, p, rfl, rp, of_decide_eq_true c2, c1, by rw [sizeLine_eq]; exact of_decide_eq_true c3, ?_⟩
        have := fin_ok r (relStr (μ := μ) (H := H) (K := X.K) c4) h
        rw [codes_mk] at this
        exact this
      · exact h.elim
    · exact h.elim
  · exact h.elim
end

/-! ### builtins -/
inductive Bi where
  | len | abs | min | max | int | str | tup | lst | sum | all | any | repr
def Bi.nm : Bi → Str
  | .len => "len"
  | .abs => "abs"
  | .min => "min"
  | .max => "max"
  | .int => "int"
  | .str => "str"
  | .tup => "tuple"
  | .lst => "list"
  | .sum => "sum"
  | .all => "all"
  | .any => "any"
  | .repr => "repr"
def Bi.f : Bi → List D → S → Out D
  | .len => biLen
  | .abs => biAbs
  | .min => biMin
  | .max => biMax
  | .int => biInt
  | .str => biStr
  | .tup => biTup
  | .lst => biLst
  | .sum => biSum
  | .all => biAll
  | .any => biAny
  | .repr => biRepr
def Bi.v : Bi → Value
  | .len => .builtin "len"
  | .abs => .builtin "abs"
  | .min => .builtin "min"
  | .max => .builtin "max"
  | .int => .type "int"
  | .str => .type "str"
  | .tup => .type "tuple"
  | .lst => .type "list"
  | .sum => .builtin "sum"
  | .all => .builtin "all"
  | .any => .builtin "any"
  | .repr => .builtin "repr"
def Bi.calm : Bi → Bool
  | .min => true
  | .max => true
  | .sum => true
  | .all => true
  | .any => true
  | _ => false
theorem bi_boot (b : Bi) : bootBuiltins b.nm = some b.v := by cases b <;> decide +kernel
theorem bi_nm (b : Bi) : b.nm ≠ "__name__" ∧ (b.nm == ("__debug__" : Str)) = false := by cases b <;> decide +kernel
theorem bi_v (b : Bi) : (∃ id, b.v = .builtin id) ∨ ∃ T, b.v = .type T := by
  cases b
  all_goals first
    | exact .inl ⟨_, rfl⟩
    | exact .inr ⟨_, rfl⟩
section
variable {X : Cx} {G : Gc}
/-- those that want no except suite around -/
theorem bi_all (b : Bi) (hc : b.calm = true → X.calm = true) (hg : X.A.guards = some []) (hu : X.A.units + 65 < cLine) : ∃ r, CallR X b.v r ∧ HkC X G r b.f := by
  cases b with
  | len => exact ⟨_, call_len, len_ok⟩
  | abs => exact ⟨_, call_abs, abs_ok⟩
  | min => exact ⟨_, (call_min2 (hc rfl)).or (cr_min (hc rfl)), min_ok⟩
  | max => exact ⟨_, (call_max2 (hc rfl)).or (cr_max (hc rfl)), max_ok⟩
  | int => exact ⟨_, call_int1.or call_int_str, int_ok⟩
  | str => exact ⟨_, call_str_int, str_ok⟩
  | tup => exact ⟨_, call_tuple_of, tupl_ok⟩
  | lst => exact ⟨_, call_list_of, list_ok⟩
  | sum => exact ⟨_, cr_sum (hc rfl), sum_ok⟩
  | all => exact ⟨_, cr_all (hc rfl), all_ok⟩
  | any => exact ⟨_, cr_any (hc rfl), any_ok⟩
  | repr => exact ⟨_, call_repr hg hu, repr_ok⟩
end

/-! ### methods -/
inductive Me where
  | append | extend | popAt | pop | insert | remove | index | join
def Me.nm : Me → Str
  | .append => "append"
  | .extend => "extend"
  | .popAt => "pop"
  | .pop => "pop"
  | .insert => "insert"
  | .remove => "remove"
  | .index => "index"
  | .join => "join"
def Me.f : Me → D → List D → S → Out D
  | .append => meAppend
  | .extend => meExtend
  | .popAt => mePopAt
  | .pop => mePop
  | .insert => meInsert
  | .remove => meRemove
  | .index => meIndex
  | .join => meJoin
def Me.T : Me → String
  | .join => "str"
  | _ => "list"
def Me.id : Me → String
  | .append => "list.append"
  | .extend => "list.extend"
  | .popAt => "list.pop"
  | .pop => "list.pop"
  | .insert => "list.insert"
  | .remove => "list.remove"
  | .index => "list.index"
  | .join => "str.join"
section
variable {X : Cx} {G : Gc}
theorem me_all (hu : X.A.units + 65 < cLine) (m : Me) : PlainAttrs m.T ∧ Slot m.T m.nm m.id ∧ typeOf (.builtin m.id) = pure (.type "method_descriptor") ∧ ∃ r, MtR X m.id r ∧ HkM X G r m.f := by
  cases m with
  | append => exact ⟨PySem.F.plainAttrs_list, PySem.F.slot_list_append, PySem.F.type_list_append, _, mt_append, append_ok⟩
  | extend => exact ⟨PySem.F.plainAttrs_list, PySem.F.slot_list_extend, PySem.F.type_list_extend, _, mt_extend, extend_ok⟩
  | popAt => exact ⟨PySem.F.plainAttrs_list, PySem.F.slot_list_pop, PySem.F.type_list_pop, _, mt_popAt, popAt_ok⟩
  | pop => exact ⟨PySem.F.plainAttrs_list, PySem.F.slot_list_pop, PySem.F.type_list_pop, _, mt_pop, pop_ok⟩
  | insert => exact ⟨PySem.F.plainAttrs_list, PySem.F.slot_list_insert, PySem.F.type_list_insert, _, mt_insert, insert_ok⟩
  | remove => exact ⟨PySem.F.plainAttrs_list, PySem.F.slot_list_remove, PySem.F.type_list_remove, _, mt_remove, remove_ok⟩
  | index => exact ⟨PySem.F.plainAttrs_list, PySem.F.slot_list_index, PySem.F.type_list_index, _, mt_index, index_ok⟩
  | join => exact ⟨PySem.F.plainAttrs_str, PySem.F.slot_str_join, PySem.F.type_str_join, _, mt_join, join_ok⟩
end
end Fe

set_option maxHeartbeats 2000000
/-! Fe 12: own trees of expressions, what they are worth, how they are checked against the text. -/
namespace Fe
open PySem PySem.Spec PyProof.Rows L2

/-! ### patterns -/
inductive Tp where
  | nm (i : Nat)
  | tp (ts : List Tp)
mutual
def bnd : Tp → D → Env → S → TOut
  | .nm i => fun d ρ s => some (ρ.set i (some d), s)
  | .tp ts => unpackT ts.length (bnds ts)
def bnds : List Tp → List D → Env → S → TOut
  | [] => fun ds ρ s => match ds with
    | [] => some (ρ, s)
    | _ :: _ => none
  | t :: ts => consT (bnd t) (bnds ts)
end
def locB (sc : Scope) (fb : Str → Bool) (x : Str) : Bool := match sc.names.lookup x with
  | some .local => true
  | some .cell => fb x
  | _ => false
theorem locB_ok {sc : Scope} {fb : Str → Bool} {x : Str} (h : locB sc fb x = true) : Loc sc x ∧ (fb x = true ∨ sc.names.lookup x = some .local) := by
  unfold locB at h
  split at h
  · rename_i e
    exact ⟨.inl e, .inr e⟩
  · rename_i e
    exact ⟨.inr e, .inl h⟩
  · cases h
mutual
def chkP (N : List Str) (sc : Scope) (fb : Str → Bool) (own : Option (List Nat)) : Tp → Expr → Bool
  | .nm i, x => match x with
    | .Name y _ => decide (N[i]? = some y) && (locB sc fb y && (match own with | some l => l.contains i | none => true))
    | _ => false
  | .tp ts, x => match x with
    | .Tuple es _ _ => decide (ts.length = es.length) && (es.all notStar && chkPs N sc fb own ts es)
    | _ => false
def chkPs (N : List Str) (sc : Scope) (fb : Str → Bool) (own : Option (List Nat)) : List Tp → List Expr → Bool
  | [], xs => match xs with
    | [] => true
    | _ => false
  | t :: ts, xs => match xs with
    | y :: ys => notStar y && (chkP N sc fb own t y && chkPs N sc fb own ts ys)
    | _ => false
end
theorem band {a b : Bool} (h : (a && b) = true) : a = true ∧ b = true := Bool.and_eq_true_iff.mp h
section
variable {X : Cx} {N : List Str} {sc : Scope} {fb : Str → Bool}
mutual
theorem bnd_ok (hN : X.N = N) (hs : X.env.scope = sc) (hf : ∀ x, fb x = true → X.fn x = true) (nd : N.Nodup) (hc : X.calm = true) {own : Option (List Nat)} : ∀ (t : Tp) (x : Expr), chkP N sc fb own t x = true → DG X x (bnd t) ∧ notStar x = true
  | .nm i, x, h => by
    unfold chkP at h
    split at h
    · obtain ⟨h1, h2⟩ := band h
      obtain ⟨h2, _⟩ := band h2
      obtain ⟨a, b⟩ := locB_ok h2
      refine ⟨?_, rfl⟩
      unfold bnd
      exact dg_name (hN ▸ nd) (hN ▸ of_decide_eq_true h1) (hs ▸ a) (b.imp (hf _) fun z => hs ▸ z)
    · cases h
  | .tp ts, x, h => by
    unfold chkP at h
    split at h
    · obtain ⟨h1, h2⟩ := band h
      obtain ⟨h2, h3⟩ := band h2
      refine ⟨?_, rfl⟩
      unfold bnd
      rw [of_decide_eq_true h1]
      exact dg_tup hc h2 (bnds_ok hN hs hf nd hc ts _ h3)
    · cases h
theorem bnds_ok (hN : X.N = N) (hs : X.env.scope = sc) (hf : ∀ x, fb x = true → X.fn x = true) (nd : N.Nodup) (hc : X.calm = true) {own : Option (List Nat)} : ∀ (ts : List Tp) (xs : List Expr), chkPs N sc fb own ts xs = true → DGs X xs (bnds ts)
  | [], xs, h => by
    unfold chkPs at h
    split at h
    · unfold bnds; exact dgs_nil
    · cases h
  | t :: ts, xs, h => by
    unfold chkPs at h
    split at h
    · obtain ⟨h1, h2⟩ := band h
      obtain ⟨h2, h3⟩ := band h2
      unfold bnds
      exact dgs_cons h1 (bnd_ok hN hs hf nd hc t _ h2).1 (bnds_ok hN hs hf nd hc ts _ h3)
    · cases h
end
mutual
theorem bndw_ok (hN : X.N = N) (hs : X.env.scope = sc) (hf : ∀ x, fb x = true → X.fn x = true) (nd : N.Nodup) (hc : X.calm = true) {own : List Nat} : ∀ (t : Tp) (x : Expr), chkP N sc fb (some own) t x = true → DGw X own x (bnd t)
  | .nm i, x, h => by
    unfold chkP at h
    split at h
    · obtain ⟨h1, h2⟩ := band h
      obtain ⟨h2, h3⟩ := band h2
      obtain ⟨a, b⟩ := locB_ok h2
      unfold bnd
      exact dgw_name (hN ▸ nd) (hN ▸ of_decide_eq_true h1) (hs ▸ a) (b.imp (hf _) fun z => hs ▸ z) (List.contains_iff_mem.mp h3)
    · cases h
  | .tp ts, x, h => by
    unfold chkP at h
    split at h
    · obtain ⟨h1, h2⟩ := band h
      obtain ⟨h2, h3⟩ := band h2
      unfold bnd
      rw [of_decide_eq_true h1]
      exact dgw_tup hc h2 (bndws_ok hN hs hf nd hc ts _ h3)
    · cases h
theorem bndws_ok (hN : X.N = N) (hs : X.env.scope = sc) (hf : ∀ x, fb x = true → X.fn x = true) (nd : N.Nodup) (hc : X.calm = true) {own : List Nat} : ∀ (ts : List Tp) (xs : List Expr), chkPs N sc fb (some own) ts xs = true → DGws X own xs (bnds ts)
  | [], xs, h => by
    unfold chkPs at h
    split at h
    · unfold bnds; exact dgws_nil
    · cases h
  | t :: ts, xs, h => by
    unfold chkPs at h
    split at h
    · obtain ⟨h1, h2⟩ := band h
      obtain ⟨h2, h3⟩ := band h2
      unfold bnds
      exact dgws_cons h1 (bndw_ok hN hs hf nd hc t _ h2) (bndws_ok hN hs hf nd hc ts _ h3)
    · cases h
end
end

/-! ### trees -/
inductive E where
  | no
  | non
  | bl (b : Bool)
  | int (i : Int)
  | str (cs : List Nat)
  | var (i : Nat)
  | con (g : Nat) (d : D)
  | bin (o : Ar) (a b : E)
  | neg (a : E)
  | cmp (o : Cm) (a b : E)
  | chn (o o' : Cm) (a b c : E)
  | and (es : List E)
  | or (es : List E)
  | not (a : E)
  | ite (c a b : E)
  | tup (es : List E)
  | lst (es : List E)
  | ix (a b : E)
  | sl (a lo hi : E)
  | call (f : Nat) (es : List E)
  | bi (b : Bi) (es : List E)
  | isi (t : Ty) (a : E)
  | me (m : Me) (o : E) (es : List E)
  | lc (e : E) (t : Tp) (it c : E) (own : List Nat)
  | rng (es : List E)
  | lc2 (e : E) (t : Tp) (it c : E) (t1 : Tp) (it1 c1 : E) (own vs1 : List Nat)
  | dct (ks vs : List E)
  | rev (a : E)
  | fld (a : E) (f : Str)
  | mt (c : Cl) (g : Nat) (o : E) (es : List E)
  | pr (c : Cl) (g : Nat) (o : E)
  | mk (c : Cl) (g : Nat) (es : List E)
  | oin (n : Bool) (c : Cl) (g : Nat) (a b : E)
  | olen (c : Cl) (g : Nat) (a : E)
  | obool (c : Cl) (g : Nat) (a : E)
  | otru (c : Cl) (g : Nat) (a : E)
  | oix (c : Cl) (g : Nat) (a b : E)
  | enu (a : E)
  | lrg (es : List E)
  | trg (es : List E)
  | ostr (c : Cl) (g : Nat) (a : E)
  | fst (es : List E)
  /-- a lambda handed to a def; the def in which it is made has its table at place i -/
  | lam (i : Nat) (me : Str) (f : Nat) (e : E)

/-- what a tree is worth: as a value, as a test, as what is walked, as a slice's bound -/
structure Sm where
  v : Env → S → Out D
  t : Env → S → Out Bool
  i : Env → S → Out Src
  o : Env → S → Out (Option Int)
def Sm.of (v : Env → S → Out D) : Sm := ⟨v, fun ρ s => (v ρ s).bind tru, fun ρ s => (v ρ s).bind srcOf, fun ρ s => asI (v ρ s)⟩
def Sm.ofT (v : Env → S → Out D) (t : Env → S → Out Bool) : Sm := ⟨v, t, fun ρ s => (v ρ s).bind srcOf, fun ρ s => asI (v ρ s)⟩
def argsV : List Sm → Env → S → Out (List D)
  | [], _, s => .ok [] s
  | m :: ms, ρ, s => (m.v ρ s).bind fun x s => (argsV ms ρ s).bind fun xs s => .ok (x :: xs) s
def andV : List Sm → Env → S → Out D
  | [], _, _ => .bad
  | [m], ρ, s => m.v ρ s
  | m :: m' :: ms, ρ, s => (m.v ρ s).bind fun x s => (tru x s).bind fun k s => if k = true then andV (m' :: ms) ρ s else .ok x s
def orV : List Sm → Env → S → Out D
  | [], _, _ => .bad
  | [m], ρ, s => m.v ρ s
  | m :: m' :: ms, ρ, s => (m.v ρ s).bind fun x s => (tru x s).bind fun k s => if k = true then .ok x s else orV (m' :: ms) ρ s
def andT : List Sm → Env → S → Out Bool
  | [], _, _ => .bad
  | [m], ρ, s => m.t ρ s
  | m :: m' :: ms, ρ, s => (m.t ρ s).bind fun k s => if k = true then andT (m' :: ms) ρ s else .ok false s
def orT : List Sm → Env → S → Out Bool
  | [], _, _ => .bad
  | [m], ρ, s => m.t ρ s
  | m :: m' :: ms, ρ, s => (m.t ρ s).bind fun k s => if k = true then .ok true s else orT (m' :: ms) ρ s
def pairsOf : List Sm → List Sm → List ((Env → S → Out D) × (Env → S → Out D))
  | k :: ks, v :: vs => (k.v, v.v) :: pairsOf ks vs
  | _, _ => []
def srcR : List D → S → Out Src
  | [a], s => src1 [a] s
  | [a, b], s => src2 [a, b] s
  | _, _ => .bad
/-- what a def makes of what the lambda that it got comes to -/
def metO (F : List D → S → Out D) : Out D → Out D
  | .ok d s => noExcD (F [.tup [d]] s)
  | .exc x s => noExcD (F [.tup [.int x.c, .tup x.ds]] s)
  | .bad => .bad
mutual
def sem (Γ : Nat → List D → S → Out D) : E → Sm
  | .no => ⟨fun _ _ => .bad, fun _ s => .ok true s, fun _ _ => .bad, fun _ s => .ok none s⟩
  | .non => .of fun _ s => .ok .non s
  | .bl b => .of fun _ s => .ok (.bl b) s
  | .int i => .of fun _ s => .ok (.int i) s
  | .str cs => .of fun _ s => .ok (.str cs) s
  | .var i => .of fun ρ s => lk ρ i s
  | .con _ d => .of fun _ s => .ok d s
  | .bin o a b => .of fun ρ s => ((sem Γ a).v ρ s).bind fun x s => ((sem Γ b).v ρ s).bind fun y s => o.f x y s
  | .neg a => .of fun ρ s => ((sem Γ a).v ρ s).bind fun x s => opNeg x s
  | .cmp o a b => .ofT (fun ρ s => ((sem Γ a).v ρ s).bind fun x s => ((sem Γ b).v ρ s).bind fun y s => o.f x y s)
      (fun ρ s => ((sem Γ a).v ρ s).bind fun x s => ((sem Γ b).v ρ s).bind fun y s => asB (o.f x y s))
  | .chn o o' a b c => .ofT (fun ρ s => ((sem Γ a).v ρ s).bind fun x s => ((sem Γ b).v ρ s).bind fun y s => (asB (o.f x y s)).bind fun q s => if q = true then ((sem Γ c).v ρ s).bind fun z s => o'.f y z s else .ok (.bl false) s)
      (fun ρ s => ((sem Γ a).v ρ s).bind fun x s => ((sem Γ b).v ρ s).bind fun y s => (asB (o.f x y s)).bind fun q s => if q = true then ((sem Γ c).v ρ s).bind fun z s => asB (o'.f y z s) else .ok false s)
  | .and es => .ofT (andV (sems Γ es)) (andT (sems Γ es))
  | .or es => .ofT (orV (sems Γ es)) (orT (sems Γ es))
  | .not a => .ofT (fun ρ s => ((sem Γ a).v ρ s).bind fun x s => (tru x s).bind fun k s => .ok (.bl (!k)) s) (fun ρ s => ((sem Γ a).t ρ s).bind fun k s => .ok (!k) s)
  | .ite c a b => .ofT (fun ρ s => ((sem Γ c).t ρ s).bind fun k s => if k = true then (sem Γ a).v ρ s else (sem Γ b).v ρ s) (fun _ _ => .bad)
  | .tup es => .of fun ρ s => (argsV (sems Γ es) ρ s).bind mkTup
  | .lst es => .of fun ρ s => (argsV (sems Γ es) ρ s).bind mkLst
  | .ix a b => .of fun ρ s => ((sem Γ a).v ρ s).bind fun x s => ((sem Γ b).v ρ s).bind fun y s => opIx x y s
  | .sl a lo hi => .of fun ρ s => ((sem Γ a).v ρ s).bind fun x s => ((sem Γ lo).o ρ s).bind fun i s => ((sem Γ hi).o ρ s).bind fun j s => opSl x i j s
  | .call f es => .of fun ρ s => (argsV (sems Γ es) ρ s).bind (Γ f)
  | .bi b es => .of fun ρ s => (argsV (sems Γ es) ρ s).bind b.f
  | .isi t a => .of fun ρ s => ((sem Γ a).v ρ s).bind (opIsi t)
  | .me m o es => .of fun ρ s => ((sem Γ o).v ρ s).bind fun d s => if tyIs m.T s d = true then (argsV (sems Γ es) ρ s).bind fun ds s => m.f d ds s else .bad
  | .lc e t it c own => .of (lcV (sem Γ it).i (bnd t) (sem Γ c).t (sem Γ e).v own)
  | .rng es => ⟨fun _ _ => .bad, fun _ _ => .bad, fun ρ s => (argsV (sems Γ es) ρ s).bind srcR, fun _ _ => .bad⟩
  | .lc2 e t it c t1 it1 c1 own vs1 => .of (lcV2 (sem Γ it).i (bnd t) (sem Γ c).t (sem Γ it1).i (bnd t1) (sem Γ c1).t (sem Γ e).v own vs1)
  | .dct ks vs => .of (dctV (pairsOf (sems Γ ks) (sems Γ vs)))
  | .rev a => .of fun ρ s => ((sem Γ a).v ρ s).bind opRev
  | .fld a f => .of fun ρ s => ((sem Γ a).v ρ s).bind (fldV f)
  | .mt c g o es => .of fun ρ s => ((sem Γ o).v ρ s).bind fun d s => if clIs c s d = true then (argsV (sems Γ es) ρ s).bind fun ds s => Γ g (d :: ds) s else .bad
  | .pr c g o => .of fun ρ s => ((sem Γ o).v ρ s).bind fun d s => if clIs c s d = true then noExcD (Γ g [d] s) else .bad
  | .mk c g es => .of fun ρ s => (argsV (sems Γ es) ρ s).bind (mkV c (Γ g))
  | .oin n c g a b => .ofT (inV_ c (Γ g) (sem Γ a).v (sem Γ b).v (if n = true then (!·) else id)) (fun ρ s => asB (inV_ c (Γ g) (sem Γ a).v (sem Γ b).v (if n = true then (!·) else id) ρ s))
  | .olen c g a => .of fun ρ s => ((sem Γ a).v ρ s).bind fun d s => lenOwn c (Γ g) [d] s
  | .obool c g a => .of fun ρ s => ((sem Γ a).v ρ s).bind fun d s => boolOwn c (Γ g) [d] s
  | .otru c g a => .ofT (sem Γ a).v (fun ρ s => ((sem Γ a).v ρ s).bind fun d s => if clIs c s d = true then (Γ g [d] s).bind asTru else .bad)
  | .oix c g a b => .of fun ρ s => ((sem Γ a).v ρ s).bind fun x s => ((sem Γ b).v ρ s).bind fun y s => if clIs c s x = true then Γ g [x, y] s else .bad
  | .enu a => ⟨fun _ _ => .bad, fun _ _ => .bad, fun ρ s => ((sem Γ a).v ρ s).bind fun d s => srcEn [d] s, fun _ _ => .bad⟩
  | .lrg es => .of fun ρ s => (argsV (sems Γ es) ρ s).bind lstRg
  | .trg es => .of fun ρ s => (argsV (sems Γ es) ρ s).bind tupRg
  | .ostr c g a => .of fun ρ s => ((sem Γ a).v ρ s).bind fun d s => strOwn c (Γ g) [d] s
  | .fst es => .of fun ρ s => fstV ((sems Γ es).map Sm.v) [] ρ s
  | .lam i me f e => .of fun ρ s => if s[i]? = some (.tab me) then metO (Γ f) ((sem Γ e).v ρ s) else .bad
def sems (Γ : Nat → List D → S → Out D) : List E → List Sm
  | [] => []
  | e :: es => sem Γ e :: sems Γ es
end
/-- shorter: as values, tests -/
abbrev ev (Γ : Nat → List D → S → Out D) (e : E) : Env → S → Out D := (sem Γ e).v
abbrev evT (Γ : Nat → List D → S → Out D) (e : E) : Env → S → Out Bool := (sem Γ e).t

/-! ### the check -/
/-- what a def is: a module's, a class's method, a property's getter, an __init__, a special method -/
inductive Kn where
  | fn
  | mt (c : Cl)
  | pr (c : Cl)
  | mk (c : Cl)
  | sp (c : Cl)
  | lm
  deriving DecidableEq, Inhabited
/-- an enumerate is walked by a tuple of names alone -/
def isEnum : Expr → Bool
  | .Call (.Name y _) _ _ _ => decide (y = "enumerate")
  | _ => false
def okT (x tg : Expr) : Bool := !isEnum x || isTupE tg
def isName : Expr → Bool
  | .Name .. => true
  | _ => false
/-- what a program's text is told by: its defs' names and how many parameters they take; its constants; names that the module leaves to the builtins -/
structure Ck where
  fns : List (Kn × Str × Nat)
  cons : List (Str × D)
  free : List Str
  /-- own exceptions: the class, its field -/
  exc : List (Str × Option Str) := []
  /-- what except clauses name; which own exceptions it takes -/
  hds : List (Str × List Nat) := []
  /-- not within an except suite -/
  calm : Bool := true
  /-- the def that is looked at, if it makes lambdas; the defs that make lambdas -/
  me : Option Str := none
  lams : List Str := []
def Ck.nolam (C : Ck) : Ck := { C with me := none }
def Ck.lv (C : Ck) : Nat := if C.me.isSome = true then 2 else 0
def noPar : Arguments → Bool
  | ⟨[], [], none, [], [], none, []⟩ => true
  | _ => false
def visB (sc : Scope) (x : Str) : Bool := match sc.names.lookup x with
  | some .local => true
  | some .cell => true
  | some .free => true
  | _ => false
theorem visB_ok {sc : Scope} {x : Str} (h : visB sc x = true) : Vis sc x := by
  unfold visB at h
  split at h
  · exact .inl ‹_›
  · exact .inr (.inl ‹_›)
  · exact .inr (.inr ‹_›)
  · cases h
def gloB (sc : Scope) (x : Str) : Bool := decide (sc.names.lookup x = some .globalImplicit)
def plainN (x : Str) : Bool := !(x == ("__debug__" : Str)) && !(x == ("__classdict__" : Str))
theorem plainN_ok {x : Str} (h : plainN x = true) : (x == ("__debug__" : Str)) = false ∧ (x == ("__classdict__" : Str)) = false := by
  obtain ⟨a, b⟩ := band h
  exact ⟨by simpa using a, by simpa using b⟩
def nolookB (op : CmpOp) (y : Expr) : Bool := !behindInMarks op y
/-- own names of a block -/
def ownOf (N : List Str) (own : List Nat) : List (Str × Nat) := own.map fun i => (N.getD i "", i)
theorem ownOf_snd (N : List Str) (own : List Nat) : (ownOf N own).map (·.2) = own := by
  unfold ownOf; rw [List.map_map]
  exact List.map_id'' (fun _ => rfl) own
def blkB (N : List Str) (sc scope : Scope) (own : List Nat) : Bool :=
  decide (scope.kind = .function) && ((scope.names.all fun y => decide (scope.names.lookup y.1 = some y.2)) && ((own.all fun i => decide (i < N.length)) &&
    ((scope.names.all fun y => match y.2 with
      | .free => (match sc.names.lookup y.1 with | some .cell => true | some .free => true | _ => false)
      | .local => ((ownOf N own).map (·.1)).contains y.1 || !N.contains y.1
      | .cell => ((ownOf N own).map (·.1)).contains y.1 || !N.contains y.1
      | _ => true))))
theorem blkB_ok {N : List Str} {sc scope : Scope} {own : List Nat} (h : blkB N sc scope own = true) : BlkOk N sc scope (ownOf N own) := by
  obtain ⟨h1, h2⟩ := band h
  obtain ⟨h2, h3⟩ := band h2
  obtain ⟨h3, h4⟩ := band h3
  rw [List.all_eq_true] at h2 h3 h4
  refine ⟨of_decide_eq_true h1, fun y hy => of_decide_eq_true (h2 y hy), fun p hp => ?_, fun y hy e => ?_, fun y hy e => ?_⟩
  · unfold ownOf at hp
    obtain ⟨i, hi, rfl⟩ := List.mem_map.mp hp
    have := of_decide_eq_true (h3 i hi)
    show N[i]? = some (N.getD i "")
    rw [List.getD_eq_getElem?_getD, List.getElem?_eq_getElem this]
    rfl
  · have := h4 y hy
    rw [e] at this
    dsimp only at this
    split at this
    · exact .inl ‹_›
    · exact .inr ‹_›
    · cases this
  · have := h4 y hy
    have k : (((ownOf N own).map (·.1)).contains y.1 || !N.contains y.1) = true := by
      rcases e with e | e <;> rw [e] at this <;> exact this
    rw [Bool.or_eq_true] at k
    rcases k with k | k
    · exact .inl (List.contains_iff_mem.mp k)
    · right
      intro z
      rw [List.contains_iff_mem.mpr z] at k
      cases k
def isTupX : Expr → Bool
  | .Tuple .. => true
  | _ => false
def bfB (b : Bi) : Str → Bool := fun y => decide (y = b.nm)
mutual
def chkE (C : Ck) (N : List Str) (sc : Scope) (fb : Str → Bool) : E → Expr → Bool
  | .no, _ => false
  | .non, x => match x with
    | .Constant .none _ _ => true
    | _ => false
  | .bl b, x => match x with
    | .Constant (.bool c) _ _ => decide (c = b)
    | _ => false
  | .int i, x => match x with
    | .Constant (.int j) _ _ => decide (j = i)
    | _ => false
  | .str cs, x => match x with
    | .Constant (.str y) _ _ => decide (y = ⟨cs.toArray⟩) && okS cs
    | _ => false
  | .var i, x => match x with
    | .Name y _ => decide (N[i]? = some y) && (visB sc y && plainN y)
    | _ => false
  | .con g d, x => match x with
    | .Name y _ => decide (C.cons[g]? = some (y, d)) && (gloB sc y && plainN y)
    | _ => false
  | .bin o a b, x => match x with
    | .BinOp y op z _ => decide (op = o.op) && (chkE C N sc fb a y && chkE C N sc fb b z)
    | _ => false
  | .neg a, x => match x with
    | .UnaryOp op y _ => decide (op = .USub) && chkE C N sc fb a y
    | _ => false
  | .cmp o a b, x => match x with
    | .Compare y [op] [z] _ => decide (op = o.op) && (nolookB op z && (chkE C N sc fb a y && chkE C N sc fb b z))
    | _ => false
  | .chn o o' a b c, x => match x with
    | .Compare y [op, op'] [z, u] _ => decide (op = o.op) && (decide (op' = o'.op) && (!lastMarks [op, op'] [z, u] && (chkE C N sc fb a y && (chkE C N sc fb b z && chkE C N sc fb c u))))
    | _ => false
  | .and es, x => match x with
    | .BoolOp op ys _ => decide (op = .And) && chkEs C N sc fb es ys
    | _ => false
  | .or es, x => match x with
    | .BoolOp op ys _ => decide (op = .Or) && chkEs C N sc fb es ys
    | _ => false
  | .not a, x => match x with
    | .UnaryOp op y _ => decide (op = .Not) && chkE C N sc fb a y
    | _ => false
  | .ite c a b, x => match x with
    | .IfExp u y z _ => chkE C N sc fb c u && (chkE C N sc fb a y && chkE C N sc fb b z)
    | _ => false
  | .tup es, x => match x with
    | .Tuple ys _ _ => chkEs C N sc fb es ys
    | _ => false
  | .lst es, x => match x with
    | .List ys _ => chkEs C N sc fb es ys
    | _ => false
  | .ix a b, x => match x with
    | .Subscript y z _ => notSlice z && (chkE C N sc fb a y && chkE C N sc fb b z)
    | _ => false
  | .sl a lo hi, x => match x with
    | .Subscript y (.Slice l h none _) _ => chkE C N sc fb a y && ((match l with | none => (match lo with | .no => true | _ => false) | some l => chkE C N sc fb lo l) && (match h with | none => (match hi with | .no => true | _ => false) | some h => chkE C N sc fb hi h))
    | _ => false
  | .call f es, x => match x with
    | .Call (.Name y _) ys [] _ => decide (C.fns[f]? = some (Kn.fn, y, es.length)) && (gloB sc y && (plainN y && chkEs C N sc fb es ys))
    | _ => false
  | .bi b es, x => match x with
    | .Call (.Name y _) ys [] _ => decide (y = b.nm) && ((!b.calm || C.calm) && (C.free.contains y && (gloB sc y && (!ys.isEmpty && chkEs C N sc fb es ys))))
    | _ => false
  | .isi t a, x => match x with
    | .Call (.Name f _) [y, .Name u _] [] _ => decide (f = "isinstance") && (C.free.contains f && (gloB sc f && (decide (t ≠ .non) && (C.free.contains u && (gloB sc u && (decide (u = Str.ofString t.name) && chkE C N sc fb a y))))))
    | _ => false
  | .me m o es, x => match x with
    | .Call (.Attribute y n apos) ys [] cpos => decide (n = m.nm) && (plainBase y && ((apos.endLine == cpos.line) && (decide (ys.length < 30) && (chkE C N sc fb o y && chkEs C N sc fb es ys))))
    | _ => false
  | .lc e t it c own, x => match x with
    | .ListComp elt [⟨tg, iter, ifs, as⟩] scope _ => decide (as = 0 ∧ C.calm = true) && (chkE C N sc fb it iter && ((notSet iter && okT iter tg) && (blkB N sc scope own && (chkP N (relS scope sc) (fun x => scope.names.lookup x == some .cell) (some own) t tg &&
        (chkE C N (relS scope sc) (fun x => scope.names.lookup x == some .cell) e elt && (match ifs with
          | [] => (match c with | .no => true | _ => false)
          | [z] => chkE C N (relS scope sc) (fun x => scope.names.lookup x == some .cell) c z
          | _ => false))))))
    | _ => false
  | .rng es, x => match x with
    | .Call (.Name y _) ys [] _ => decide (y = "range") && (C.free.contains y && (gloB sc y && (!ys.isEmpty && (decide (ys.length ≤ 2) && chkEs C N sc fb es ys))))
    | _ => false
  | .lc2 e t it c t1 it1 c1 own vs1, x => match x with
    | .ListComp elt [⟨tg, iter, ifs, as⟩, ⟨tg1, iter1, ifs1, as1⟩] scope _ => decide (as = 0 ∧ C.calm = true) && (decide (as1 = 0) && (chkE C N sc fb it iter && ((notSet iter && okT iter tg) && ((notSet iter1 && okT iter1 tg1) && (blkB N sc scope own && (vs1.all own.contains && (chkP N (relS scope sc) (fun x => scope.names.lookup x == some .cell) (some own) t tg &&
        (chkP N (relS scope sc) (fun x => scope.names.lookup x == some .cell) (some vs1) t1 tg1 && (chkE C N (relS scope sc) (fun x => scope.names.lookup x == some .cell) it1 iter1 &&
        (chkE C N (relS scope sc) (fun x => scope.names.lookup x == some .cell) e elt && ((match ifs with
          | [] => (match c with | .no => true | _ => false)
          | [z] => chkE C N (relS scope sc) (fun x => scope.names.lookup x == some .cell) c z
          | _ => false) && (match ifs1 with
          | [] => (match c1 with | .no => true | _ => false)
          | [z] => chkE C N (relS scope sc) (fun x => scope.names.lookup x == some .cell) c1 z
          | _ => false))))))))))))
    | _ => false
  | .dct ks vs, x => match x with
    | .Dict us ws _ => decide (us.length ≤ 15) && (decide (us.length = ws.length) && (chkOs C N sc fb ks us && chkEs C N sc fb vs ws))
    | _ => false
  | .rev a, x => match x with
    | .Subscript y (.Slice none none (some (.UnaryOp .USub (.Constant (.int 1) _ _) _)) _) _ => chkE C N sc fb a y
    | _ => false
  | .fld a f, x => match x with
    | .Attribute y n _ => decide (n = f) && (plainBase y && chkE C N sc fb a y)
    | _ => false
  | .mt c g o es, x => match x with
    | .Call (.Attribute y n apos) ys [] cpos => decide (C.fns[g]? = some (Kn.mt c, n, es.length + 1)) && (plainBase y && ((apos.endLine == cpos.line) && (decide (ys.length < 30) && (chkE C N sc fb o y && chkEs C N sc fb es ys))))
    | _ => false
  | .pr c g o, x => match x with
    | .Attribute y n _ => decide (C.fns[g]? = some (Kn.pr c, n, 1)) && (plainBase y && chkE C N sc fb o y)
    | _ => false
  | .mk c g es, x => match x with
    | .Call (.Name y _) ys [] _ => decide (y = c.x) && (decide (C.fns[g]? = some (Kn.mk c, ("__init__" : Str), es.length + 1)) && (gloB sc y && (plainN y && chkEs C N sc fb es ys)))
    | _ => false
  | .oin n c g a b, x => match x with
    | .Compare y [op] [z] _ => decide (op = if n = true then .NotIn else .In) && (decide (C.fns[g]? = some (Kn.sp c, ("__contains__" : Str), 2)) && (nolookB op z && (chkE C N sc fb a y && chkE C N sc fb b z)))
    | _ => false
  | .olen c g a, x => match x with
    | .Call (.Name y _) [z] [] _ => decide (y = "len") && (decide (C.fns[g]? = some (Kn.sp c, ("__len__" : Str), 1)) && (C.free.contains y && (gloB sc y && chkE C N sc fb a z)))
    | _ => false
  | .obool c g a, x => match x with
    | .Call (.Name y _) [z] [] _ => decide (y = "bool") && (decide (C.fns[g]? = some (Kn.sp c, ("__bool__" : Str), 1)) && (C.free.contains y && (gloB sc y && chkE C N sc fb a z)))
    | _ => false
  | .otru c g a, x => isName x && (decide (C.fns[g]? = some (Kn.sp c, ("__bool__" : Str), 1)) && chkE C N sc fb a x)
  | .ostr c g a, x => match x with
    | .Call (.Name y _) [z] [] _ => decide (y = "str") && (decide (C.fns[g]? = some (Kn.sp c, ("__str__" : Str), 1)) && (C.free.contains y && (gloB sc y && chkE C N sc fb a z)))
    | _ => false
  | .fst es, x => match x with
    | .JoinedStr ys _ => decide (2 ≤ ys.length) && chkFs C N sc fb es ys
    | _ => false
  | .lam _ me f e, x => match x with
    | .Call (.Name y _) [.Lambda params body scope _] [] _ => decide (C.fns[f]? = some (Kn.lm, y, 1)) && (gloB sc y && (plainN y && (decide (C.me = some me) && (LamX.lamSB sc scope && (noPar params && (C.calm && chkE C.nolam N scope (fun _ => false) e body))))))
    | _ => false
  | .oix c g a b, x => match x with
    | .Subscript y z _ => notSlice z && (decide (C.fns[g]? = some (Kn.sp c, ("__getitem__" : Str), 2)) && (chkE C N sc fb a y && chkE C N sc fb b z))
    | _ => false
  | .enu a, x => match x with
    | .Call (.Name y _) [z] [] _ => decide (y = "enumerate") && (C.free.contains y && (gloB sc y && chkE C N sc fb a z))
    | _ => false
  | .lrg es, x => match x with
    | .Call (.Name y _) [.Call (.Name z _) ys [] _] [] _ => decide (y = "list" ∧ z = "range" ∧ C.calm = true) && (C.free.contains y && (gloB sc y && (C.free.contains z && (gloB sc z && (!ys.isEmpty && (decide (ys.length ≤ 2) && chkEs C N sc fb es ys))))))
    | _ => false
  | .trg es, x => match x with
    | .Call (.Name y _) [.Call (.Name z _) ys [] _] [] _ => decide (y = "tuple" ∧ z = "range" ∧ C.calm = true) && (C.free.contains y && (gloB sc y && (C.free.contains z && (gloB sc z && (!ys.isEmpty && (decide (ys.length ≤ 2) && chkEs C N sc fb es ys))))))
    | _ => false
def chkFs (C : Ck) (N : List Str) (sc : Scope) (fb : Str → Bool) : List E → List Expr → Bool
  | [], xs => match xs with
    | [] => true
    | _ => false
  | e :: es, xs => match xs with
    | .FormattedValue y n none _ :: ys => decide (n = -1) && (chkE C N sc fb e y && chkFs C N sc fb es ys)
    | .Constant (.str y) _ _ :: ys => (match e with | .str cs => decide (y = ⟨cs.toArray⟩) && okS cs | _ => false) && chkFs C N sc fb es ys
    | _ => false
def chkOs (C : Ck) (N : List Str) (sc : Scope) (fb : Str → Bool) : List E → List (Option Expr) → Bool
  | [], xs => match xs with
    | [] => true
    | _ => false
  | e :: es, xs => match xs with
    | some y :: ys => chkE C N sc fb e y && chkOs C N sc fb es ys
    | _ => false
def chkEs (C : Ck) (N : List Str) (sc : Scope) (fb : Str → Bool) : List E → List Expr → Bool
  | [], xs => match xs with
    | [] => true
    | _ => false
  | e :: es, xs => match xs with
    | y :: ys => chkE C N sc fb e y && chkEs C N sc fb es ys
    | _ => false
end
end Fe

set_option maxHeartbeats 4000000
/-! Fe Y: lambdas handed to a def that calls them in a try. -/
namespace Fe
open PySem PySem.Spec PyProof.Rows L2 LamX
abbrev noE : XK := fun _ _ _ => False
/-- what such a def makes of a lambda: o, what the lambda comes to -/
def TTm (K : PySem.W.Frag) (G : Gc) (F : List D → S → Out D) : (XK → Hp → VK → Prop) → Hp → VK → Prop := fun tl H Q =>
  ∃ (o : Out D) (μ : List Addr), (∀ (E : XK) (Q' : VK), Fin K G μ H E o (qD K Q') → tl E H Q') ∧ Fin K G μ H noE (metO F o) (qD K Q)
/-- a def that takes a lambda -/
def LmUse (X : Cx) (G : Gc) (F : List D → S → Out D) (x : Str) : Prop :=
  ∃ (k : Nat) (g : Addr) (a : Str) (pg : Arguments) (bg : List Stmt) (sg : Scope) (Ng : List Str) (dV kV doc pm cdv ct oc : Value) (an od : Option Addr) (osl : Array (Option Value)),
    Room (k + 2) X.A ∧ X.mg x = some (.ref g) ∧ PySem.W.keepIn X.K (.ref g) = true ∧ X.K.lookup g = some ⟨oc, od, .func (PySem.W.fnOf x x pg bg sg dV kV doc pm an cdv ct), osl⟩ ∧ PySem.W.codeIn X.K cdv x = true ∧
      L2.Binds X.K (PySem.W.fnOf x x pg bg sg dV kV doc pm an cdv ct) [a] [] ∧ FnScope Ng [a] sg ∧ Ng[0]? = some a ∧ Vis sg a ∧ plainN a = true ∧ ∀ q, GivesTo X Ng x sg g cdv bg a q (TTm X.K G F)
/-- the def in which a lambda is made -/
def LamOk (X : Cx) (me : Str) : Prop := X.env.qual = me ++ ".<locals>." ∧ ∃ c, X.env.code = .ref c ∧ TabB X.base X.mg c (He.cT X.K (me, none)).2
section
variable {X : Cx} {pins : List (Addr × Obj)} {σ : L2.St} {H HZ : Hp} {s s1 : Shared}
theorem lam_act {CXg : CXT} {Eg : XK} {Ng : List Str} {qg : Str} {sg : Scope} {g f c' : Addr} {cdg pm ctv : Value} {params : Arguments} {body : Expr} {scope : Scope} {k i : Nat} {a : Str} {pn : List (Addr × Obj)} {xe : Value → Shared → Prop} {W : WX} {E : XK} {tb : TE} {p1 p2 : Pos}
    (I : Inv X pins σ H s) (gd : X.A.guards = some []) (L : LamS X.env.scope scope) (hf : s.heap.get? f = some (PySem.W.kla_obj "<lambda>" (X.env.qual ++ "<lambda>") params body scope (cloFrom X.env.cells scope.names []) pm c' ctv)) (hfn : H f = none) (hfr : f ∉ frs X.stack)
    (hbind : bindArgs (PySem.W.kla_fn "<lambda>" (X.env.qual ++ "<lambda>") params body scope (cloFrom X.env.cells scope.names []) pm (.ref c') ctv) ⟨[], []⟩ = pure [])
    (tk : Takes ((cxOf CXg X.prog X.w X.K X.mg X.base Ng qg sg g cdg X.A X.stack s H Eg).tr pn xe) W) (hW : ∀ cls d σ' H', E cls d H' → W cls d σ' H') (hr : Room (k + 1) (X.A.deeper (envOfC qg sg s.heap.objs.size g cdg)))
    (hbody : ∀ (A : Around) (outer : List PySem.Env) (s2 : Shared) (H : Hp), (∀ j, Room (j + 1) (X.A.deeper (envOfC qg sg s.heap.objs.size g cdg)) → Room j (A.deeper (lamEnv X scope s2.heap.objs.size f c'))) → A.guards = some [] → PE (lamCx X A outer s2 H E scope f c') body tb)
    (hN : Ng[i]? = some a) (hv : Vis sg a) (hd : (a == ("__debug__" : Str)) = false) (hcd : (a == ("__classdict__" : Str)) = false) :
    PE ((cxOf CXg X.prog X.w X.K X.mg X.base Ng qg sg g cdg X.A X.stack s H Eg).tr pn xe) (.Call (.Name a p1) [] [] p2)
      (fun σZ HZ Q => σZ[i]? = some (some (.ref f)) ∧ HZ c' = some (CodeO c' (X.env.qual ++ "<lambda>")) ∧ tb σ HZ Q) := by
  refine ⟨fun pinsZ sZ σZ HZ Q IZ h => ?_⟩
  obtain ⟨hs, hc, ht⟩ := h
  refine wpAny_Call_Name_kw (thn ((pe_var (pos := p1) (i := i) hN hv hd hcd).run pinsZ sZ σZ HZ (fun v H1 => v = .ref f ∧ H1 = HZ) IZ ⟨.ref f, hs, rfl, rfl⟩) fun u s1 ⟨v, H1, I1, r1, q1⟩ => ?_)
  obtain ⟨ev, eH⟩ := q1
  subst ev
  rw [eH] at I1
  obtain rfl : u = Value.ref f := r1
  have of1 : s1.heap.get? f = some (PySem.W.kla_obj "<lambda>" (X.env.qual ++ "<lambda>") params body scope (cloFrom X.env.cells scope.names []) pm c' ctv) := I1.base.keep f _ hf hfn hfr (fun z => nomatch (show f ∈ ([] : List Addr) from z))
  refine PySem.W.callWith_F0 ⟨_, _, _, _, of1⟩ ?_
  have un : Un (frs X.stack) [] H HZ s.heap s1.heap := I1.base
  obtain ⟨⟨oc, vs, t, hoc, hdc, hvc⟩, _, _⟩ := I1.hok c' _ hc
  have rc : codeAny (model X.prog X.w) (X.A.deeper (envOfC qg sg s.heap.objs.size g cdg)) (.call (.ref f) ⟨[], []⟩) (CR (L2.CX X.prog X.w) (envOfC qg sg s.heap.objs.size g cdg :: X.stack) X.prog X.w HZ s1 Q E) s1 := by
    refine PySem.W.kla_callFunE hr.depth of1 rfl L.co L.gen rfl ⟨c', oc, vs, t, rfl, hoc, hdc, hvc⟩ ?_
    rw [hbind]
    refine wpAny_pure (wpAny_newFunctionEnv (fun y hy => (L.own y hy).2) (fun y hy => absurd hy (by simp)) (fun h₁ hns hsb => ⟨I1.nolimit.fresh _ hsb, ?_⟩) L.kind)
    show codeAny _ _ (.expr body (lamEnv X scope s1.heap.objs.size f c')) _ _
    have kp : ∀ b o, s1.heap.get? b = some o → h₁.get? b = some o := fun b o e => hsb.extBut b o (Nat.ne_of_lt (Heap.lt_size e)) (Heap.get?_push_of_some _ e)
    have J : Inv (lamCx X (X.A.deeper (envOfC qg sg s.heap.objs.size g cdg)) (envOfC qg sg s.heap.objs.size g cdg :: X.stack) s1 HZ E scope f c') [] σ HZ { s1 with heap := h₁, toks := s1.toks + ([] : List (Str × Value)).length } :=
      lam_start2 I L I1.env0 hr.hd un hns kp
    have gd' : (X.A.deeper (envOfC qg sg s.heap.objs.size g cdg)).guards = some [] := gd
    refine PySem.W.kla_codeExpr (wpAny_mono ((hbody _ _ s1 HZ (fun j hj => hj.deeper _) gd').run [] _ _ HZ Q J ht) (fun v s' hq => ?_) fun e s' hq => hq)
    obtain ⟨w', H', J', rv, q⟩ := hq
    exact ⟨w', H', J'.os, J'.bare, J'.base, J'.hok, rv, q⟩
  have hx : Passes (L2.CX X.prog X.w) ((cxOf CXg X.prog X.w X.K X.mg X.base Ng qg sg g cdg X.A X.stack s H Eg).tr pn xe) E := passes_call tk hW
  refine wpAny_call (codeAny_mono rc fun r s' hq => ?_)
  cases r with
  | error e => exact hx pinsZ σZ HZ s1 e s' I1 hq
  | ok fl =>
    cases fl with
    | ret u => exact I1.after hq
    | next => exact False.elim hq
    | brk => exact False.elim hq
    | cont => exact False.elim hq
end
/-! the tables that the store tells of -/
def tabE (p : Addr × O) : Option (Addr × Str) := match p.2 with
  | .tab x => some (p.1, lamQ x)
  | _ => none
theorem tabE_mem {μ : List Addr} {s : S} {p : Addr × Str} : p ∈ (μ.zip s).filterMap tabE ↔ ∃ (i : Nat) (x : Str), μ[i]? = some p.1 ∧ s[i]? = some (.tab x) ∧ p.2 = lamQ x := by
  rw [List.mem_filterMap]
  constructor
  · rintro ⟨⟨a, o⟩, hm, e⟩
    obtain ⟨i, hi⟩ := List.getElem?_of_mem hm
    rw [List.getElem?_zip_eq_some] at hi
    cases o with
    | tab x =>
      have e' : some (a, lamQ x) = some p := e
      cases e'
      exact ⟨i, x, hi.1, hi.2, rfl⟩
    | _ => cases e
  · rintro ⟨i, x, h1, h2, h3⟩
    refine ⟨(p.1, .tab x), ?_, by show some (p.1, lamQ x) = some p; rw [← h3]⟩
    exact List.mem_of_getElem? (i := i) (List.getElem?_zip_eq_some.mpr ⟨h1, h2⟩)
theorem rel_tabs {K : PySem.W.Frag} {μ : List Addr} {H : Hp} {s : S} (r : Rel K μ H s) : Tabs ((μ.zip s).filterMap tabE) H := fun p hp => by
  obtain ⟨i, x, h1, h2, h3⟩ := tabE_mem.mp hp
  have q := r.obj i _ _ h1 h2
  rw [h3]
  exact q.2
theorem keep_ext {H H1 : Hp} (e : ExtN H H1) : Keep H H1 := ⟨fun a xs h => e a _ h fun ps z => (by cases z), fun a o u h => e a _ h fun ps z => (by cases z), fun a fs h => e a _ h fun ps z => (by cases z), fun a q h => e a _ h fun ps z => (by cases z)⟩
theorem rel_ext {K : PySem.W.Frag} {μ : List Addr} {H H1 : Hp} {s : S} (r : Rel K μ H s) (e : ExtN H H1) (t : Tabs ((μ.zip s).filterMap tabE) H1) : Rel K μ H1 s ∧ Ext μ H μ H1 := by
  have x : Ext μ H μ H1 := ⟨List.prefix_rfl, keep_ext e⟩
  refine ⟨⟨r.len, r.nd, fun i a o h1 h2 => ?_⟩, x⟩
  have q := r.obj i a o h1 h2
  have key : ∀ u, H a = some u → (∀ ps, u ≠ .tbl ps) → H1 a = H a := fun u hu n => by rw [hu]; exact e a u hu n
  cases o with
  | tab y => exact ⟨q.1, t (a, lamQ y) (tabE_mem.mpr ⟨i, y, h1, h2, rfl⟩)⟩
  | lst ds => obtain ⟨vs, q1, _⟩ := id q; exact q.mono x (key _ q1 fun ps z => by cases z)
  | rl ds => obtain ⟨vs, o, q1, _⟩ := id q; exact q.mono x (key _ q1 fun ps z => by cases z)
  | dct ds => obtain ⟨vs, q1, _⟩ := id q; exact q.mono x (key _ q1 fun ps z => by cases z)
  | ins c ds => obtain ⟨dx, vs, q1, _⟩ := id q; exact q.mono x (key _ q1 fun ps z => by cases z)
theorem noExc_W {K : PySem.W.Frag} {G : Gc} {μ : List Addr} {H : Hp} {W W' : XK} {o : Out D} {q : D → S → List Addr → Hp → Prop} (h : Fin K G μ H W (noExcD o) q) : Fin K G μ H W' (noExcD o) q := by
  cases o with
  | ok d s => exact h
  | exc x s => exact h.elim
  | bad => exact h.elim
theorem met_noE {K : PySem.W.Frag} {G : Gc} {F : List D → S → Out D} {μ : List Addr} {H : Hp} {W W' : XK} {o : Out D} {q : D → S → List Addr → Hp → Prop} (h : Fin K G μ H W (metO F o) q) : Fin K G μ H W' (metO F o) q := by
  cases o with
  | ok d s => exact noExc_W h
  | exc x s => exact noExc_W h
  | bad => exact h.elim
theorem noPar_eq {params : Arguments} (h : noPar params = true) : params = ⟨[], [], none, [], [], none, []⟩ := by
  unfold noPar at h
  split at h
  · rfl
  · cases h
section
variable {X : Cx} {G : Gc} {W : WX} {F : List D → S → Out D} {x me : Str} {i : Nat} {params : Arguments} {body : Expr} {scope : Scope} {p lpos pos : Pos} {fe : PySem.Env → S → Out D}
/-- x(lambda: body) -/
theorem de_lam {fe : Env → S → Out D} (U : LmUse X G F x) (O : LamOk X me) (gd : X.A.guards = some []) (hg : Gl X x) (hdb : (x == ("__debug__" : Str)) = false) (L : LamS X.env.scope scope) (hp : noPar params = true)
    (hbody : ∀ (A : Around) (outer : List PySem.Env) (s : Shared) (H : Hp) (E : XK) (f c' : Addr), (∀ j, Room (j + 2) X.A → Room j (A.deeper (lamEnv X scope s.heap.objs.size f c'))) → A.guards = some [] → PE (lamCx X A outer s H E scope f c') body (tD X.K G (fun c d _ H' => E c d H') fe)) :
    DE X G W (.Call (.Name x p) [.Lambda params body scope lpos] [] pos) (fun ρ s => if s[i]? = some (.tab me) then metO F (fe ρ s) else .bad) := by
  obtain ⟨k, g, a, pg, bg, sg, Ng, dV, kV, doc, pm, cdv, ct, oc, an, od, osl, hr, hm, hk, lk, hcg, hb, Sg, hNg, hva, hpa, hG⟩ := U
  obtain ⟨hq, c, hcode, TB⟩ := O
  obtain ⟨ha1, ha2⟩ := plainN_ok hpa
  have ep := noPar_eq hp
  subst ep
  refine ⟨fun pins s σ H Q I hh => ?_⟩
  obtain ⟨μ, ρ, st, r, re, h⟩ := hh
  dsimp only at h
  split at h
  · rename_i hi
    obtain ⟨P, hμ, eP, hT0⟩ := r.at hi
    have eq : X.env.qual ++ "<lambda>" = lamQ me := by rw [hq]; rfl
    have hmT : ((He.cT X.K (me, none)).2, X.env.qual ++ "<lambda>") ∈ (μ.zip st).filterMap tabE := tabE_mem.mpr ⟨i, me, by rw [hμ, eP], hi, eq⟩
    have hu : ∀ p ∈ (μ.zip st).filterMap tabE, p.1 = (He.cT X.K (me, none)).2 → p.2 = X.env.qual ++ "<lambda>" := fun p hp e => by
      obtain ⟨j, y, h1, h2, h3⟩ := tabE_mem.mp hp
      have ej : j = i := (List.getElem?_inj (List.getElem?_eq_some_iff.mp h1).1 r.nd).mp (h1.trans (by rw [hμ, e, eP]))
      subst ej
      rw [hi] at h2
      cases h2
      rw [h3, eq]
    refine wpAny_Call_Name_kw (ld_glob I hg hm ?_ hdb)
    refine PySem.W.callWith_K (h₀ := X.base) I.ok.mod.kin hk ?_ (by rfl) (by rfl)
    show wpAny _ _ (spliced ((false, eval (.Lambda ⟨[], [], none, [], [], none, []⟩ body scope lpos) X.env) :: backTo pos (starEach [] X.env))) _ _ s
    refine Calls.spliced_cons (lam_make2 I TB hcode hmT hu (rel_tabs r) rfl (L.has I.ok) fun f c' pm' ctv H1 s' I1 eN T1 hf hfn hfr hco => ?_)
    refine Calls.spliced_nil ⟨I1.kIn, ?_⟩
    obtain ⟨r1, x1⟩ := rel_ext r eN T1
    have hfin := met_noE (W' := noE) (h.ext x1)
    have rc : codeAny (model X.prog X.w) X.A (.call (.ref g) ⟨[.ref f], []⟩) (CR C8.CX0 X.stack X.prog X.w H1 s' Q C8.E0) s' := by
      refine run_ofS (k := k + 1) (N := Ng) (ps := [a]) (us := [.ref f]) (vs := [.ref f]) lk hcg Sg hr I1.env0 (hb s' [.ref f] I1.kIn rfl) (.cons rfl .nil) rfl fun hr' => ?_
      obtain ⟨t', ht', hq'⟩ := hG _ f c' s' H1 Q (fun E H' Q' => tD X.K G (fun c d _ H' => E c d H') fe σ H' Q') (fun W pn xe E p1 p2 tk hW => lam_act (k := k) (i := 0) I1 gd L hf hfn hfr (by rfl) tk hW hr' (fun A outer s2 H2 hr2 gd2 => hbody A outer s2 H2 E f c' (fun j hj => hr2 j (hj.deeper _)) gd2) hNg hva ha1 ha2) hco
        ⟨fe ρ st, μ, fun E Q' hf => ⟨μ, ρ, st, r1, re.mono x1, hf⟩, hfin⟩
      exact ⟨t', ht'.nox, hq'⟩
    refine wpAny_call (codeAny_mono rc fun r s2 hq => ?_)
    cases r with
    | error e => exact (show False from hq).elim
    | ok fl =>
      cases fl with
      | ret u => exact I1.after hq
      | next => exact False.elim hq
      | brk => exact False.elim hq
      | cont => exact False.elim hq
  · exact h.elim
end
end Fe

set_option maxHeartbeats 2000000
/-! Fe 13: checked expressions are worth what their trees are worth. -/
namespace Fe
open PySem PySem.Spec PyProof.Rows L2
example : (sem (fun _ _ _ => .bad) (.bin .add (.int 1) (.int 2))).v [] [] = .ok (.int 3) [] := rfl

/-- a def that can be called here -/
def KdOk (K : PySem.W.Frag) (mg : Str → Option Value) : Kn → Str → Addr → Prop
  | .fn, x, f => mg x = some (.ref f) ∧ PySem.W.keepIn K (.ref f) = true
  | .mt c, x, f => Meth K (He.ga K c.x) x f ∧ x ∉ c.fl
  | .pr c, x, f => ∃ p, PropOf K (He.ga K c.x) x p f
  | .mk c, _, f => Mk K (He.ga K c.x) f ∧ mg c.x = some (.ref (He.ga K c.x)) ∧ ClOk K c
  | .lm, x, f => mg x = some (.ref f) ∧ PySem.W.keepIn K (.ref f) = true
  | .sp c, x, f => PySem.W.findIn K (.ref (He.ga K c.x)) x = some (some (.ref f)) ∧ PySem.W.isFn K (.ref f) = true ∧ PySem.W.fnIn K f = true
def FnUse (X : Cx) (G : Gc) (F : List D → S → Out D) (kd : Kn) (x : Str) (n r : Nat) : Prop :=
  ∃ (k : Nat) (f : Addr) (fd : FuncData) (ps : List Str), ps.length = n ∧ FnG X.prog X.w X.K X.mg X.base G k f fd ps F ∧ Room (k + 2 + r) X.A ∧ KdOk X.K X.mg kd x f ∧ Binds X.K fd ps [] ∧ ∀ ds s, F ds s ≠ .bad → ds.length = n
theorem FnUse.mt {X : Cx} {G : Gc} {F : List D → S → Out D} {c : Cl} {x : Str} {n r : Nat} (h : FnUse X G F (.mt c) x n r) : ∃ k f fd ps, MtUse X G c x F n k f fd ps := by
  obtain ⟨k, f, fd, ps, hl, hF, hr, hk, hb, hn⟩ := h
  exact ⟨k, f, fd, ps, hl, hF, hr.mono (by omega), hk.1, hk.2, hb, hn⟩
theorem FnUse.mk {X : Cx} {G : Gc} {F : List D → S → Out D} {c : Cl} {x : Str} {n r : Nat} (h : FnUse X G F (.mk c) x (n + 1) r) : ∃ k f fd ps, MkUse X G c F n k f fd ps := by
  obtain ⟨k, f, fd, ps, hl, hF, hr, hk, hb, hn⟩ := h
  exact ⟨k, f, fd, ps, hl, hF, hr.mono (by omega), hk.1, hk.2.1, hk.2.2, hb, hn⟩
theorem FnUse.pr {X : Cx} {G : Gc} {F : List D → S → Out D} {c : Cl} {x : Str} {r : Nat} (h : FnUse X G F (.pr c) x 1 r) : ∃ k p f fd ps, PrUse X G c x F k p f fd ps := by
  obtain ⟨k, f, fd, ps, hl, hF, hr, ⟨p, hk⟩, hb, hn⟩ := h
  exact ⟨k, p, f, fd, ps, hl, hF, hr.mono (by omega), hk, hb⟩
theorem FnUse.sp {X : Cx} {G : Gc} {F : List D → S → Out D} {c : Cl} {x : Str} {n r : Nat} (h : FnUse X G F (.sp c) x n r) : ∃ k f fd ps, SpUse X G c x F n k f fd ps ∧ Room (k + 2) X.A ∧ PySem.W.fnIn X.K f = true := by
  obtain ⟨k, f, fd, ps, hl, hF, hr, hk, hb, hn⟩ := h
  exact ⟨k, f, fd, ps, ⟨hl, hF, hr.mono (by omega), hk.1, hk.2.1, hb, hn⟩, hr.mono (by omega), hk.2.2⟩
structure Okx (C : Ck) (Γ : Nat → List D → S → Out D) (N : List Str) (sc : Scope) (fb : Str → Bool) (X : Cx) (G : Gc) (W : WX) : Prop where
  eN : X.N = N
  eS : X.env.scope = sc
  eF : ∀ x, fb x = true → X.fn x = true
  nd : N.Nodup
  calm : C.calm = true → X.calm = true
  tk : Takes X W
  hu : X.A.units + 65 < cLine
  gd : X.A.guards = some []
  fns : ∀ (f : Nat) (kd : Kn) (x : Str) (n : Nat), C.fns[f]? = some (kd, x, n) → kd ≠ .lm → FnUse X G (Γ f) kd x n C.lv
  lms : C.me ≠ none → ∀ (f : Nat) (x : Str) (n : Nat), C.fns[f]? = some (.lm, x, n) → LmUse X G (Γ f) x
  lam : ∀ me, C.me = some me → LamOk X me
  cons : ∀ (g : Nat) (x : Str) (d : D), C.cons[g]? = some (x, d) → ∃ v u, X.mg x = some u ∧ RelV v u ∧ ∀ μ H, RelD X.K μ H d v
  free : ∀ x ∈ C.free, X.mg x = none
theorem Okx.blk {C : Ck} {Γ : Nat → List D → S → Out D} {N : List Str} {sc : Scope} {fb : Str → Bool} {X : Cx} {G : Gc} {W : WX} (h : Okx C Γ N sc fb X G W) (s : Shared) (H : Hp) (scope : Scope) (A : Addr) (cl : List (Str × Addr)) (fp : List Addr) :
    Okx C Γ N (relS scope sc) (fun x => scope.names.lookup x == some .cell) (X.blk s H scope (compEnvC scope cl A X.env) fp) G noX :=
  ⟨h.eN, by show relS scope X.env.scope = _; rw [h.eS], fun x e => e, h.nd, h.calm, fun u s' ⟨_, _, _, _, _, _, _, _, _, _, _, _, _, _, _, _, w⟩ => w.elim, h.hu, h.gd, h.fns, h.lms, h.lam, h.cons, h.free⟩

/-- an expression is worth m -/
structure Snd (X : Cx) (G : Gc) (W : WX) (x : Expr) (m : Sm) : Prop where
  v : DE X G W x m.v
  t : DT X G W x m.t
  i : ∀ tg, okT x tg = true → DI X G W tg x m.i
  o : DO X G W (some x) m.o
  ns : notStar x = true
inductive Snds (X : Cx) (G : Gc) (W : WX) : List Expr → List Sm → Prop
  | nil : Snds X G W [] []
  | cons {x m xs ms} : Snd X G W x m → Snds X G W xs ms → Snds X G W (x :: xs) (m :: ms)
section
variable {X : Cx} {G : Gc} {W : WX} {C : Ck} {Γ : Nat → List D → S → Out D} {N : List Str} {sc : Scope} {fb : Str → Bool}
theorem Snd.of {x : Expr} {v : Env → S → Out D} (h : DE X G W x v) (he : ∀ whole, isTrue x X.env whole = (do let v ← whole; standAt x.pos; holding [v] (truthy v))) (ns : notStar x = true) : Snd X G W x (.of v) :=
  ⟨h, dt_truth h he, fun tg _ => di_exp h, do_some h, ns⟩
theorem Snd.ofT {x : Expr} {v : Env → S → Out D} {t : Env → S → Out Bool} (h : DE X G W x v) (ht : DT X G W x t) (ns : notStar x = true) : Snd X G W x (.ofT v t) :=
  ⟨h, ht, fun tg _ => di_exp h, do_some h, ns⟩
theorem Snds.args {xs : List Expr} {ms : List Sm} (h : Snds X G W xs ms) : DA X G W xs (argsV ms) := by
  induction h with
  | nil => exact da_nil
  | cons a b ih => exact da_cons a.ns a.v ih
theorem Snds.ns {xs : List Expr} {ms : List Sm} (h : Snds X G W xs ms) : xs.all notStar = true := by
  induction h with
  | nil => rfl
  | cons a b ih => rw [List.all_cons, a.ns, ih]; rfl
theorem dt_bad {x : Expr} : DT X G W x fun _ _ => .bad := ⟨fun _ _ _ _ _ _ ⟨_, _, _, _, _, h⟩ => h.elim⟩
theorem de_bad {x : Expr} : DE X G W x fun _ _ => .bad := ⟨fun _ _ _ _ _ _ ⟨_, _, _, _, _, h⟩ => h.elim⟩
theorem do_bad {x : Option Expr} : DO X G W x fun _ _ => .bad := ⟨fun _ _ _ _ _ _ ⟨_, _, _, _, _, h⟩ => h.elim⟩
theorem di_bad {tg x : Expr} : DI X G W tg x fun _ _ => .bad := ⟨fun _ _ _ _ _ _ ⟨_, _, _, _, _, h⟩ => h.elim⟩
theorem snd_and {pos : Pos} : ∀ {xs : List Expr} {ms : List Sm}, Snds X G W xs ms → DE X G W (.BoolOp .And xs pos) (andV ms) ∧ DW X G W (.BoolOp .And xs pos) (andT ms)
  | _, _, .nil => ⟨de_bad, ⟨fun _ _ _ _ _ _ _ ⟨_, _, _, _, _, h⟩ => h.elim⟩⟩
  | _, _, .cons a .nil => ⟨de_one a.v, dw_and1 a.t⟩
  | _, _, .cons a (.cons b c) => ⟨de_and a.v (snd_and (.cons b c)).1, dw_and a.t (snd_and (.cons b c)).2⟩
theorem snd_or {pos : Pos} : ∀ {xs : List Expr} {ms : List Sm}, Snds X G W xs ms → DE X G W (.BoolOp .Or xs pos) (orV ms) ∧ DW X G W (.BoolOp .Or xs pos) (orT ms)
  | _, _, .nil => ⟨de_bad, ⟨fun _ _ _ _ _ _ _ ⟨_, _, _, _, _, h⟩ => h.elim⟩⟩
  | _, _, .cons a .nil => ⟨de_one a.v, dw_or1 a.t⟩
  | _, _, .cons a (.cons b c) => ⟨de_or a.v (snd_or (.cons b c)).1, dw_or a.t (snd_or (.cons b c)).2⟩
theorem gl_of (ok : Okx C Γ N sc fb X G W) {x : Str} (h : gloB sc x = true) : Gl X x := by
  unfold Gl PySem.Env.kindOf
  rw [ok.eS]
  exact of_decide_eq_true h
theorem free_of (ok : Okx C Γ N sc fb X G W) {x : Str} (h : C.free.contains x = true) : X.mg x = none := ok.free x (List.contains_iff_mem.mp h)
theorem ty_boot (t : Ty) (h : t ≠ .non) : bootBuiltins (Str.ofString t.name) = some (.type t.name) ∧ Str.ofString t.name ≠ "__name__" ∧ (Str.ofString t.name == ("__debug__" : Str)) = false := by
  cases t with
  | non => exact absurd rfl h
  | _ => decide +kernel
theorem snd_call (ok : Okx C Γ N sc fb X G W) {f : Nat} {y : Str} {xs : List Expr} {ms : List Sm} {n : Nat} {p pos : Pos} (hf : C.fns[f]? = some (Kn.fn, y, n)) (hg : gloB sc y = true) (hp : plainN y = true) (hs : Snds X G W xs ms) :
    DE X G W (.Call (.Name y p) xs [] pos) (fun ρ s => (argsV ms ρ s).bind (Γ f)) := by
  obtain ⟨k, fa, fd, ps, hl, F, hr, ⟨hm, hk⟩, hb, hn⟩ := ok.fns f .fn y n hf (by simp)
  have hr := hr.mono (j := k) (by omega)
  subst hl
  cases hs with
  | nil => exact de_call0 F hn hr ok.gd (gl_of ok hg) hm hk hb ok.tk (plainN_ok hp).1
  | cons a b => exact de_call F hn hr ok.gd (gl_of ok hg) hm hk hb ok.tk (Snds.cons a b).args (plainN_ok hp).1 a.ns b.ns
theorem snd_bi (ok : Okx C Γ N sc fb X G W) {b : Bi} {xs : List Expr} {ms : List Sm} {p pos : Pos} (hcm : (!b.calm || C.calm) = true) (hf : C.free.contains b.nm = true) (hg : gloB sc b.nm = true) (h0 : xs.isEmpty = false) (hs : Snds X G W xs ms) :
    DE X G W (.Call (.Name b.nm p) xs [] pos) (fun ρ s => (argsV ms ρ s).bind b.f) := by
  obtain ⟨r, hc, hk⟩ := bi_all (X := X) (G := G) b (fun hb => ok.calm (by
    rw [hb] at hcm
    exact hcm)) ok.gd ok.hu
  have hv := bi_boot b
  cases hs with
  | nil => cases h0
  | cons a c =>
    rcases bi_v b with ⟨id, e⟩ | ⟨T, e⟩
    · rw [e] at hc hv
      exact de_bi hc hk (gl_of ok hg) (free_of ok hf) hv (Snds.cons a c).args (bi_nm b).1 (bi_nm b).2 a.ns c.ns
    · rw [e] at hc hv
      exact de_ty hc hk (gl_of ok hg) (free_of ok hf) hv (Snds.cons a c).args (bi_nm b).1 (bi_nm b).2 a.ns c.ns
theorem snd_me (ok : Okx C Γ N sc fb X G W) {m : Me} {y : Expr} {xs : List Expr} {mo : Sm} {ms : List Sm} {apos cpos : Pos} (hb : plainBase y = true) (hl : (apos.endLine == cpos.line) = true) (h30 : xs.length < 30) (ho : Snd X G W y mo) (hs : Snds X G W xs ms) :
    DE X G W (.Call (.Attribute y m.nm apos) xs [] cpos) (fun ρ s => (mo.v ρ s).bind fun d s => if tyIs m.T s d = true then (argsV ms ρ s).bind fun ds s => m.f d ds s else .bad) := by
  obtain ⟨pa, sl, ty, r, hm, hk⟩ := me_all (X := X) (G := G) ok.hu m
  cases hs with
  | nil => exact de_me0 pa sl ty hm hk ho.v hb hl
  | cons a b => exact de_me pa sl ty hm hk ho.v (Snds.cons a b).args hb hl a.ns b.ns h30
theorem snd_mt (ok : Okx C Γ N sc fb X G W) {c : Cl} {g : Nat} {m : Str} {y : Expr} {xs : List Expr} {mo : Sm} {ms : List Sm} {apos cpos : Pos} (hf : C.fns[g]? = some (Kn.mt c, m, xs.length + 1)) (hb : plainBase y = true) (hl : (apos.endLine == cpos.line) = true) (h30 : xs.length < 30) (ho : Snd X G W y mo) (hs : Snds X G W xs ms) :
    DE X G W (.Call (.Attribute y m apos) xs [] cpos) (fun ρ s => (mo.v ρ s).bind fun d s => if clIs c s d = true then (argsV ms ρ s).bind fun ds s => Γ g (d :: ds) s else .bad) := by
  obtain ⟨k, f, fd, ps, M⟩ := (ok.fns g _ m _ hf (by simp)).mt
  cases hs with
  | nil => exact de_mt0 M ok.gd ok.tk ho.v hb hl
  | cons a b => exact de_mt M ok.gd ok.tk ho.v (Snds.cons a b).args hb hl a.ns b.ns h30
theorem snd_mk (ok : Okx C Γ N sc fb X G W) {c : Cl} {g : Nat} {xs : List Expr} {ms : List Sm} {p pos : Pos} (hf : C.fns[g]? = some (Kn.mk c, ("__init__" : Str), xs.length + 1)) (hg : gloB sc c.x = true) (hp : plainN c.x = true) (hs : Snds X G W xs ms) :
    DE X G W (.Call (.Name c.x p) xs [] pos) (fun ρ s => (argsV ms ρ s).bind (mkV c (Γ g))) := by
  obtain ⟨k, f, fd, ps, M⟩ := (ok.fns g _ _ _ hf (by simp)).mk
  cases hs with
  | nil => exact de_mk0 M ok.gd ok.tk (gl_of ok hg) (plainN_ok hp).1
  | cons a b => exact de_mk M ok.gd ok.tk (gl_of ok hg) (plainN_ok hp).1 (Snds.cons a b).args a.ns b.ns
theorem one_args {x : Expr} {mo : Sm} (h : Snd X G W x mo) : DA X G W [x] (argsV [mo]) := (Snds.cons h .nil).args
theorem bind_one {mo : Sm} {ρ : Env} {s : S} {α : Type} (k : List D → S → Out α) : ((argsV [mo] ρ s).bind k) = (mo.v ρ s).bind fun d s => k [d] s := by
  show (((mo.v ρ s).bind _).bind k) = _
  cases mo.v ρ s <;> rfl
theorem de_eq {x : Expr} {f f' : Env → S → Out D} (h : DE X G W x f) (e : ∀ ρ s, f ρ s = f' ρ s) : DE X G W x f' := by
  have : f = f' := funext fun ρ => funext fun s => e ρ s
  exact this ▸ h
theorem di_eq {tg x : Expr} {f f' : Env → S → Out Src} (h : DI X G W tg x f) (e : ∀ ρ s, f ρ s = f' ρ s) : DI X G W tg x f' := by
  have : f = f' := funext fun ρ => funext fun s => e ρ s
  exact this ▸ h
theorem snd_lrg (ok : Okx C Γ N sc fb X G W) {xs : List Expr} {ms : List Sm} {p pos p2 pos2 : Pos} (hc : X.calm = true) (hf : C.free.contains "list" = true) (hg : gloB sc "list" = true) (hf2 : C.free.contains "range" = true) (hg2 : gloB sc "range" = true) (h0 : xs.isEmpty = false) (h2 : xs.length ≤ 2) (hs : Snds X G W xs ms) :
    DE X G W (.Call (.Name "list" p) [.Call (.Name "range" p2) xs [] pos2] [] pos) (fun ρ s => (argsV ms ρ s).bind lstRg) := by
  cases hs with
  | nil => cases h0
  | cons a c =>
    cases c with
    | nil =>
      refine de_eq (de_lstRg1 hc (gl_of ok hg) (free_of ok hf) (gl_of ok hg2) (free_of ok hf2) a.v a.ns) fun ρ s => ?_
      exact (bind_one _).symm
    | cons b d =>
      cases d with
      | nil =>
        refine de_eq (de_lstRg2 hc (gl_of ok hg) (free_of ok hf) (gl_of ok hg2) (free_of ok hf2) a.v b.v a.ns b.ns) fun ρ s => ?_
        unfold argsV argsV argsV
        cases e : (Sm.v _ ρ s) with
        | ok d s1 =>
          show ((Sm.v _ ρ s1).bind _) = ((((Sm.v _ ρ s1).bind _).bind _).bind lstRg)
          cases e2 : (Sm.v _ ρ s1) <;> rfl
        | exc c s1 => rfl
        | bad => rfl
      | cons d e => simp at h2
theorem snd_trg (ok : Okx C Γ N sc fb X G W) {xs : List Expr} {ms : List Sm} {p pos p2 pos2 : Pos} (hc : X.calm = true) (hf : C.free.contains "tuple" = true) (hg : gloB sc "tuple" = true) (hf2 : C.free.contains "range" = true) (hg2 : gloB sc "range" = true) (h0 : xs.isEmpty = false) (h2 : xs.length ≤ 2) (hs : Snds X G W xs ms) :
    DE X G W (.Call (.Name "tuple" p) [.Call (.Name "range" p2) xs [] pos2] [] pos) (fun ρ s => (argsV ms ρ s).bind tupRg) := by
  cases hs with
  | nil => cases h0
  | cons a c =>
    cases c with
    | nil =>
      refine de_eq (de_tupRg1 hc (gl_of ok hg) (free_of ok hf) (gl_of ok hg2) (free_of ok hf2) a.v a.ns) fun ρ s => ?_
      exact (bind_one _).symm
    | cons b d =>
      cases d with
      | nil =>
        refine de_eq (de_tupRg2 hc (gl_of ok hg) (free_of ok hf) (gl_of ok hg2) (free_of ok hf2) a.v b.v a.ns b.ns) fun ρ s => ?_
        unfold argsV argsV argsV
        cases e : (Sm.v _ ρ s) with
        | ok d s1 =>
          show ((Sm.v _ ρ s1).bind _) = ((((Sm.v _ ρ s1).bind _).bind _).bind tupRg)
          cases e2 : (Sm.v _ ρ s1) <;> rfl
        | exc c s1 => rfl
        | bad => rfl
      | cons d e => simp at h2
theorem snd_rng (ok : Okx C Γ N sc fb X G W) {xs : List Expr} {ms : List Sm} {p pos : Pos} (hf : C.free.contains "range" = true) (hg : gloB sc "range" = true) (h0 : xs.isEmpty = false) (h2 : xs.length ≤ 2) (hs : Snds X G W xs ms) (tg : Expr) :
    DI X G W tg (.Call (.Name "range" p) xs [] pos) (fun ρ s => (argsV ms ρ s).bind srcR) := by
  have key : ∀ (k : List D → S → Out Src), (∀ ds s, srcR ds s ≠ .bad → ds.length = xs.length) → True := fun _ _ => trivial
  cases hs with
  | nil => cases h0
  | cons a c =>
    cases c with
    | nil =>
      refine pi_imp (di_range1 (gl_of ok hg) (free_of ok hf) a.ns (Snds.cons a .nil).args) fun σ H R ⟨μ, ρ, s, r, re, h⟩ => ⟨μ, ρ, s, r, re, ?_⟩
      refine Eq.mp (congrArg (fun o => Fin X.K G μ H (fun c d H' => W c d σ H') o (qI X.K R)) ?_) h
      show ((argsV [_] ρ s).bind srcR) = ((argsV [_] ρ s).bind src1)
      unfold argsV
      cases e : (Sm.v _ ρ s) with
      | ok d s1 => rfl
      | exc c s1 => rfl
      | bad => rfl
    | cons b d =>
      cases d with
      | nil =>
        refine pi_imp (di_range2 (gl_of ok hg) (free_of ok hf) a.ns b.ns (Snds.cons a (.cons b .nil)).args) fun σ H R ⟨μ, ρ, s, r, re, h⟩ => ⟨μ, ρ, s, r, re, ?_⟩
        refine Eq.mp (congrArg (fun o => Fin X.K G μ H (fun c d H' => W c d σ H') o (qI X.K R)) ?_) h
        show ((argsV [_, _] ρ s).bind srcR) = ((argsV [_, _] ρ s).bind src2)
        unfold argsV argsV
        cases e : (Sm.v _ ρ s) with
        | ok d s1 =>
          show ((((Sm.v _ ρ s1).bind _).bind _).bind srcR) = ((((Sm.v _ ρ s1).bind _).bind _).bind src2)
          cases e2 : (Sm.v _ ρ s1) with
          | ok d2 s2 => rfl
          | exc c s1 => rfl
          | bad => rfl
        | exc c s1 => rfl
        | bad => rfl
      | cons d e => simp at h2
end
end Fe

set_option maxHeartbeats 4000000
/-! Fe 14: checked expressions are worth what their trees are worth. -/
namespace Fe
open PySem PySem.Spec PyProof.Rows L2
section
variable {G : Gc} {C : Ck} {Γ : Nat → List D → S → Out D} {N : List Str}
theorem sl_bound {X : Cx} {W : WX} {l : Option Expr} {lo : E} {sc : Scope} {fb : Str → Bool} (h : (match l with | none => (match lo with | .no => true | _ => false) | some l => chkE C N sc fb lo l) = true) (ih : ∀ x, chkE C N sc fb lo x = true → Snd X G W x (sem Γ lo)) : DO X G W l (sem Γ lo).o := by
  cases l with
  | none =>
    cases lo with
    | no => unfold sem; exact do_none
    | _ => cases h
  | some l => exact (ih l h).o
theorem dps_of {X : Cx} {W : WX} : ∀ {ks vs : List Expr} {ms ns : List Sm}, Snds X G W ks ms → Snds X G W vs ns → ks.length = vs.length → DPs X G W ks vs (pairsOf ms ns)
  | _, _, _, _, .nil, .nil, _ => .nil
  | _, _, _, _, .cons a b, .cons c d, h => .cons a.v c.v (dps_of b d (by simpa using h))
  | _, _, _, _, .nil, .cons _ _, h => by simp at h
  | _, _, _, _, .cons _ _, .nil, h => by simp at h
theorem snd_dct {X : Cx} {W : WX} {ks vs : List Expr} {ms ns : List Sm} {pos : Pos} (a : Snds X G W ks ms) (b : Snds X G W vs ns) (hl : ks.length = vs.length) (h15 : ks.length ≤ 15) : DE X G W (.Dict (ks.map some) vs pos) (dctV (pairsOf ms ns)) := by
  cases a with
  | nil =>
    cases b with
    | nil => exact de_dct0
    | cons _ _ => simp at hl
  | cons x y =>
    cases b with
    | nil => simp at hl
    | cons z u => exact de_dct (dps_of (.cons x y) (.cons z u) hl) (by simpa using hl) h15
theorem de_rev {X : Cx} {W : WX} {e : Expr} {f : Env → S → Out D} {k : Nat} {p1 p2 p3 pos : Pos} (he : DE X G W e f) : DE X G W (.Subscript e (.Slice none none (some (.UnaryOp .USub (.Constant (.int 1) k p1) p2)) p3) pos) (fun ρ s => (f ρ s).bind opRev) :=
  pe_imp (pe_revL he) fun σ H Q ⟨μ, ρ, s, rr, re, h⟩ => d1 rr re h fun d s1 μ1 H1 v x1 r1 re1 rv h1 => by
    cases d with
    | ref i =>
      have h1' : Fin X.K G μ1 H1 (fun c d H' => W c d σ H') (match getL s1 i with | some ds => .ok (.ref s1.length) (s1 ++ [.lst ds.reverse]) | none => .bad) (qD X.K Q) := h1
      split at h1'
      · rename_i ds e
        obtain ⟨a, vs, rfl, ha, q, t⟩ := getL_ok r1 rv e
        exact ⟨a, vs, rfl, q, fun p hp => lst_fin r1 t.reverse h1' hp⟩
      · exact h1'.elim
    | _ => exact h1.elim
theorem sems_len : ∀ (es : List E), (sems Γ es).length = es.length
  | [] => rfl
  | e :: es => by
    show ((sem Γ e) :: sems Γ es).length = _
    rw [List.length_cons, sems_len es]; rfl
theorem snds_len0 {X : Cx} {W : WX} {xs : List Expr} {ms : List Sm} (h : Snds X G W xs ms) : xs.length = ms.length := by
  induction h with
  | nil => rfl
  | cons _ _ ih => rw [List.length_cons, List.length_cons, ih]
theorem snds_len {X : Cx} {W : WX} {xs : List Expr} {es : List E} (h : Snds X G W xs (sems Γ es)) : xs.length = es.length := by rw [snds_len0 h, sems_len]
theorem Okx.toLam {X : Cx} {sc : Scope} {fb : Str → Bool} {W : WX} {me y : Str} {F : List D → S → Out D} {A : Around} {outer : List PySem.Env} {s : Shared} {H : Hp} {E : XK} {scope : Scope} {f c' : Addr} (ok : Okx C Γ N sc fb X G W) (hme : C.me = some me) (U : LmUse X G F y)
    (room : ∀ j, Room (j + 2) X.A → Room j (A.deeper (LamX.lamEnv X scope s.heap.objs.size f c'))) (gd : A.guards = some []) : Okx C.nolam Γ N scope (fun _ => false) (LamX.lamCx X A outer s H E scope f c') G (fun c d _ H' => E c d H') := by
  obtain ⟨k, _, _, _, _, _, _, _, _, _, _, _, _, _, _, _, _, hr, _⟩ := U
  have lv : C.lv = 2 := by unfold Ck.lv; rw [hme]; rfl
  refine ⟨ok.eN, rfl, fun x e => (by cases e), ok.nd, fun _ => rfl, L2.takes_of rfl rfl rfl rfl, ?_, gd, fun g kd x n hg hk => ?_, fun h => (h rfl).elim, fun me h => (by cases h), ok.cons, ok.free⟩
  · have := (room k hr).un
    show (A.deeper _).units + 65 < _
    omega
  · obtain ⟨k, f, fd, ps, h1, h2, h3, h4, h5, h6⟩ := ok.fns g kd x n hg hk
    rw [lv] at h3
    exact ⟨k, f, fd, ps, h1, h2, (room (k + 2) h3).mono (by show k + 2 + 0 ≤ k + 2; omega), h4, h5, h6⟩
mutual
theorem snd_ok : ∀ (e : E) {C : Ck} {X : Cx} {sc : Scope} {fb : Str → Bool} {W : WX} (_ : Okx C Γ N sc fb X G W) (x : Expr), chkE C N sc fb e x = true → Snd X G W x (sem Γ e)
  | .no, _, _, _, _, _, ok, x, h => by unfold chkE at h; cases h
  | .non, _, _, _, _, _, ok, x, h => by
    unfold chkE at h; unfold sem
    split at h
    · exact .of de_non (fun _ => rfl) rfl
    · cases h
  | .bl b, _, _, _, _, _, ok, x, h => by
    unfold chkE at h; unfold sem
    split at h
    · rw [of_decide_eq_true h]; exact .of de_bl (fun _ => rfl) rfl
    · cases h
  | .int b, _, _, _, _, _, ok, x, h => by
    unfold chkE at h; unfold sem
    split at h
    · rw [of_decide_eq_true h]; exact .of de_int (fun _ => rfl) rfl
    · cases h
  | .str b, _, _, _, _, _, ok, x, h => by
    unfold chkE at h; unfold sem
    split at h
    · simp only [Bool.and_eq_true] at h
      obtain ⟨h1, h2⟩ := h
      rw [of_decide_eq_true h1]; exact .of (de_str h2) (fun _ => rfl) rfl
    · cases h
  | .var i, _, _, _, _, _, ok, x, h => by
    unfold chkE at h; unfold sem
    split at h
    · simp only [Bool.and_eq_true] at h
      obtain ⟨h1, h2, h3⟩ := h
      have q := visB_ok h2
      rw [← ok.eS] at q
      exact .of (de_var (ok.eN ▸ of_decide_eq_true h1) q (plainN_ok h3).1 (plainN_ok h3).2) (fun _ => rfl) rfl
    · cases h
  | .con g d, _, _, _, _, _, ok, x, h => by
    unfold chkE at h; unfold sem
    split at h
    · simp only [Bool.and_eq_true] at h
      obtain ⟨h1, h2, h3⟩ := h
      obtain ⟨v, u, hm, rv, hd⟩ := ok.cons g _ d (of_decide_eq_true h1)
      exact .of (de_glo (gl_of ok h2) hm rv (plainN_ok h3).1 hd) (fun _ => rfl) rfl
    · cases h
  | .bin o a b, _, _, _, _, _, ok, x, h => by
    unfold chkE at h; unfold sem
    split at h
    · simp only [Bool.and_eq_true] at h
      obtain ⟨h1, h2, h3⟩ := h
      obtain ⟨r, ho, hk⟩ := ar_all (X := _) (G := G) o
      rw [of_decide_eq_true h1]
      exact .of (de_bin ho (snd_ok a ok _ h2).v (snd_ok b ok _ h3).v hk) (fun _ => rfl) rfl
    · cases h
  | .neg a, _, _, _, _, _, ok, x, h => by
    unfold chkE at h; unfold sem
    split at h
    · simp only [Bool.and_eq_true] at h
      obtain ⟨h1, h2⟩ := h
      rw [of_decide_eq_true h1]
      exact .of (de_un un_neg (snd_ok a ok _ h2).v neg_ok) (fun _ => rfl) rfl
    · cases h
  | .cmp o a b, _, _, _, _, _, ok, x, h => by
    unfold chkE at h; unfold sem
    split at h
    · simp only [Bool.and_eq_true] at h
      obtain ⟨h1, h2, h3, h4⟩ := h
      obtain ⟨r, ho, hk⟩ := cm_all (G := G) ok.hu o
      have h5 := of_decide_eq_true h1
      subst h5
      have m : ∀ z, nolookB o.op z = true → behindInMarks o.op z = false := fun z h => by unfold nolookB at h; simpa using h
      exact .ofT (de_cmp ho (snd_ok a ok _ h3).v (snd_ok b ok _ h4).v (m _ h2) hk) (dt_cmp ho (snd_ok a ok _ h3).v (snd_ok b ok _ h4).v (m _ h2) hk) rfl
    · cases h
  | .chn o o' a b c, _, _, _, _, _, ok, x, h => by
    unfold chkE at h; unfold sem
    split at h
    · simp only [Bool.and_eq_true] at h
      obtain ⟨h1, h2, h3, h4, h5, h6⟩ := h
      obtain ⟨r, ho, hk⟩ := cm_all (G := G) ok.hu o
      obtain ⟨r', ho', hk'⟩ := cm_all (G := G) ok.hu o'
      have h7 := of_decide_eq_true h1
      have h8 := of_decide_eq_true h2
      subst h7 h8
      have m : ∀ z u, (!lastMarks [o.op, o'.op] [z, u]) = true → lastMarks [o.op, o'.op] [z, u] = false := fun z u h => by simpa using h
      exact .ofT (de_chain ho ho' (snd_ok a ok _ h4).v (snd_ok b ok _ h5).v (snd_ok c ok _ h6).v (m _ _ h3) hk hk') (dt_chain ho ho' (snd_ok a ok _ h4).v (snd_ok b ok _ h5).v (snd_ok c ok _ h6).v (m _ _ h3) hk hk') rfl
    · cases h
  | .and es, _, _, _, _, _, ok, x, h => by
    unfold chkE at h; unfold sem
    split at h
    · simp only [Bool.and_eq_true] at h
      obtain ⟨h1, h2⟩ := h
      rw [of_decide_eq_true h1]
      have q := snds_ok es ok _ h2
      exact .ofT (snd_and q).1 (snd_and q).2.pt rfl
    · cases h
  | .or es, _, _, _, _, _, ok, x, h => by
    unfold chkE at h; unfold sem
    split at h
    · simp only [Bool.and_eq_true] at h
      obtain ⟨h1, h2⟩ := h
      rw [of_decide_eq_true h1]
      have q := snds_ok es ok _ h2
      exact .ofT (snd_or q).1 (snd_or q).2.pt rfl
    · cases h
  | .not a, _, _, _, _, _, ok, x, h => by
    unfold chkE at h; unfold sem
    split at h
    · simp only [Bool.and_eq_true] at h
      obtain ⟨h1, h2⟩ := h
      rw [of_decide_eq_true h1]
      exact .ofT (de_not (snd_ok a ok _ h2).v) (dt_not (snd_ok a ok _ h2).t) rfl
    · cases h
  | .ite c a b, _, _, _, _, _, ok, x, h => by
    unfold chkE at h; unfold sem
    split at h
    · simp only [Bool.and_eq_true] at h
      obtain ⟨h1, h2, h3⟩ := h
      exact .ofT (de_if (snd_ok c ok _ h1).t (snd_ok a ok _ h2).v (snd_ok b ok _ h3).v) dt_bad rfl
    · cases h
  | .tup es, _, _, _, _, _, ok, x, h => by
    unfold chkE at h; unfold sem
    split at h
    · exact .of (de_tup (snds_ok es ok _ h).args) (fun _ => rfl) rfl
    · cases h
  | .lst es, _, _, _, _, _, ok, x, h => by
    unfold chkE at h; unfold sem
    split at h
    · exact .of (de_lst (snds_ok es ok _ h).args) (fun _ => rfl) rfl
    · cases h
  | .ix a b, _, _, _, _, _, ok, x, h => by
    unfold chkE at h; unfold sem
    split at h
    · simp only [Bool.and_eq_true] at h
      obtain ⟨h1, h2, h3⟩ := h
      exact .of (de_ix (snd_ok a ok _ h2).v (snd_ok b ok _ h3).v h1) (fun _ => rfl) rfl
    · cases h
  | .sl a lo hi, _, _, _, _, _, ok, x, h => by
    unfold chkE at h; unfold sem
    split at h
    · simp only [Bool.and_eq_true] at h
      obtain ⟨h1, h2, h3⟩ := h
      exact .of (de_sl (snd_ok a ok _ h1).v (sl_bound h2 (snd_ok lo ok)) (sl_bound h3 (snd_ok hi ok))) (fun _ => rfl) rfl
    · cases h
  | .call f es, _, _, _, _, _, ok, x, h => by
    unfold chkE at h; unfold sem
    split at h
    · simp only [Bool.and_eq_true] at h
      obtain ⟨h1, h2, h3, h4⟩ := h
      exact .of (snd_call ok (of_decide_eq_true h1) h2 h3 (snds_ok es ok _ h4)) (fun _ => rfl) rfl
    · cases h
  | .bi b es, _, _, _, _, _, ok, x, h => by
    unfold chkE at h; unfold sem
    split at h
    · simp only [Bool.and_eq_true] at h
      obtain ⟨h1, h0, h2, h3, h4, h5⟩ := h
      have h6 := of_decide_eq_true h1
      subst h6
      exact .of (snd_bi ok h0 h2 h3 (by simpa using h4) (snds_ok es ok _ h5)) (fun _ => rfl) rfl
    · cases h
  | .isi t a, _, _, _, _, _, ok, x, h => by
    unfold chkE at h; unfold sem
    split at h
    · simp only [Bool.and_eq_true] at h
      obtain ⟨h1, h2, h3, h4, h5, h6, h7, h8⟩ := h
      have e1 := of_decide_eq_true h1
      have e2 := of_decide_eq_true h7
      subst e1 e2
      have q := snd_ok a ok _ h8
      obtain ⟨b1, b2, b3⟩ := ty_boot t (of_decide_eq_true h4)
      exact .of (de_isi (of_decide_eq_true h4) q.v q.ns (gl_of ok h3) (free_of ok h2) (gl_of ok h6) (free_of ok h5) b1 b2 b3) (fun _ => rfl) rfl
    · cases h
  | .me m o es, _, _, _, _, _, ok, x, h => by
    unfold chkE at h; unfold sem
    split at h
    · simp only [Bool.and_eq_true] at h
      obtain ⟨h1, h2, h3, h4, h5, h6⟩ := h
      have e1 := of_decide_eq_true h1
      subst e1
      exact .of (snd_me ok h2 h3 (of_decide_eq_true h4) (snd_ok o ok _ h5) (snds_ok es ok _ h6)) (fun _ => rfl) rfl
    · cases h
  | .lc e t it c own, _, _, _, _, _, ok, x, h => by
    unfold chkE at h; unfold sem
    split at h
    · rename_i elt tg iter ifs as scope pos
      simp only [Bool.and_eq_true] at h
      obtain ⟨h1, h2, h3, h4, h5, h6, h7⟩ := h
      obtain ⟨e1, hcm⟩ := of_decide_eq_true h1
      have calm := ok.calm hcm
      subst e1
      refine .of ?_ (fun _ => rfl) rfl
      have bk := blkB_ok h4
      rw [← ok.eN, ← ok.eS] at bk
      have q := de_lc (X := _) (G := G) (W := _) (pos := pos) (elt := elt) (ifs := ifs) (ow := ownOf _ own) (bind := bnd t) (ft := (sem Γ c).t) (fe := (sem Γ e).v) calm (ok.eN ▸ ok.nd) ((snd_ok it ok _ h2).i tg h3.2) bk
        (fun s H A cl fp => by
          have okb := ok.blk s H scope A cl fp
          rw [ownOf_snd]
          exact bndw_ok okb.eN okb.eS okb.eF okb.nd (okb.calm hcm) t tg h5)
        (fun s H A cl fp => by
          have okb := ok.blk s H scope A cl fp
          cases ifs with
          | nil =>
            cases c with
            | no => unfold sem; exact dts_nil
            | _ => cases h7
          | cons z zs =>
            cases zs with
            | nil => exact dts_one (snd_ok c okb z h7).t
            | cons _ _ => cases h7)
        (fun s H A cl fp => (snd_ok e (ok.blk s H scope A cl fp) elt h6).v) h3.1
      rw [ownOf_snd] at q
      exact q
    · cases h
  | .rng es, _, _, _, _, _, ok, x, h => by
    unfold chkE at h; unfold sem
    split at h
    · simp only [Bool.and_eq_true] at h
      obtain ⟨h1, h2, h3, h4, h5, h6⟩ := h
      have e1 := of_decide_eq_true h1
      subst e1
      exact ⟨de_bad, dt_bad, fun tg _ => snd_rng ok h2 h3 (by simpa using h4) (of_decide_eq_true h5) (snds_ok es ok _ h6) tg, do_bad, rfl⟩
    · cases h
  | .lc2 e t it c t1 it1 c1 own vs1, _, _, _, _, _, ok, x, h => by
    unfold chkE at h; unfold sem
    split at h
    · rename_i elt tg iter ifs as tg1 iter1 ifs1 as1 scope pos
      simp only [Bool.and_eq_true] at h
      obtain ⟨h1, h2, h3, h4, h5, h6, h7, h8, h9, h10, h11, h12, h13⟩ := h
      obtain ⟨e1, hcm⟩ := of_decide_eq_true h1
      have calm := ok.calm hcm
      have e2 := of_decide_eq_true h2
      subst e1 e2
      refine .of ?_ (fun _ => rfl) rfl
      have bk := blkB_ok h6
      rw [← ok.eN, ← ok.eS] at bk
      have q := de_lc2 (X := _) (G := G) (W := _) (pos := pos) (elt := elt) (ifs := ifs) (ifs1 := ifs1) (ow := ownOf _ own) (vs1 := vs1) (bind := bnd t) (bind1 := bnd t1) (ft := (sem Γ c).t) (ft1 := (sem Γ c1).t) (fe := (sem Γ e).v) (fi1 := (sem Γ it1).i) calm (ok.eN ▸ ok.nd) ((snd_ok it ok _ h3).i tg h4.2) bk
        (fun i hi => by rw [ownOf_snd]; exact List.contains_iff_mem.mp (List.all_eq_true.mp h7 i hi))
        (fun s H A cl fp => by
          have okb := ok.blk s H scope A cl fp
          rw [ownOf_snd]
          exact bndw_ok okb.eN okb.eS okb.eF okb.nd (okb.calm hcm) t tg h8)
        (fun s H A cl fp => by
          have okb := ok.blk s H scope A cl fp
          cases ifs with
          | nil =>
            cases c with
            | no => unfold sem; exact dts_nil
            | _ => cases h12
          | cons z zs =>
            cases zs with
            | nil => exact dts_one (snd_ok c okb z h12).t
            | cons _ _ => cases h12)
        (fun s H A cl fp => (snd_ok it1 (ok.blk s H scope A cl fp) iter1 h10).i tg1 h5.2)
        (fun s H A cl fp => by
          have okb := ok.blk s H scope A cl fp
          exact bndw_ok okb.eN okb.eS okb.eF okb.nd (okb.calm hcm) t1 tg1 h9)
        (fun s H A cl fp => by
          have okb := ok.blk s H scope A cl fp
          cases ifs1 with
          | nil =>
            cases c1 with
            | no => unfold sem; exact dts_nil
            | _ => cases h13
          | cons z zs =>
            cases zs with
            | nil => exact dts_one (snd_ok c1 okb z h13).t
            | cons _ _ => cases h13)
        (fun s H A cl fp => (snd_ok e (ok.blk s H scope A cl fp) elt h11).v) h4.1 h5.1
      rw [ownOf_snd] at q
      exact q
    · cases h
  | .dct ks vs, _, _, _, _, _, ok, x, h => by
    unfold chkE at h; unfold sem
    split at h
    · simp only [Bool.and_eq_true] at h
      obtain ⟨h1, h2, h3, h4⟩ := h
      obtain ⟨ys, e, q⟩ := sndo_ok ks ok _ h3
      subst e
      have r := snds_ok vs ok _ h4
      refine .of (snd_dct q r ?_ ?_) (fun _ => rfl) rfl
      · have := of_decide_eq_true h2
        simpa using this
      · have := of_decide_eq_true h1
        simpa using this
    · cases h
  | .rev a, _, _, _, _, _, ok, x, h => by
    unfold chkE at h; unfold sem
    split at h
    · exact .of (de_rev (snd_ok a ok _ h).v) (fun _ => rfl) rfl
    · cases h
  | .fld a f, _, _, _, _, _, ok, x, h => by
    unfold chkE at h; unfold sem
    split at h
    · simp only [Bool.and_eq_true] at h
      obtain ⟨h1, h2, h3⟩ := h
      have e1 := of_decide_eq_true h1
      subst e1
      exact .of (de_fld (snd_ok a ok _ h3).v h2) (fun _ => rfl) rfl
    · cases h
  | .mt c g o es, _, _, _, _, _, ok, x, h => by
    unfold chkE at h; unfold sem
    split at h
    · simp only [Bool.and_eq_true] at h
      obtain ⟨h1, h2, h3, h4, h5, h6⟩ := h
      have q := snds_ok es ok _ h6
      have e1 := of_decide_eq_true h1
      rw [← snds_len q] at e1
      exact .of (snd_mt ok e1 h2 h3 (of_decide_eq_true h4) (snd_ok o ok _ h5) q) (fun _ => rfl) rfl
    · cases h
  | .pr c g o, _, _, _, _, _, ok, x, h => by
    unfold chkE at h; unfold sem
    split at h
    · simp only [Bool.and_eq_true] at h
      obtain ⟨h1, h2, h3⟩ := h
      obtain ⟨k, p, f, fd, ps, M⟩ := (ok.fns g _ _ _ (of_decide_eq_true h1) (by simp)).pr
      exact .of (de_prop M ok.gd (snd_ok o ok _ h3).v h2) (fun _ => rfl) rfl
    · cases h
  | .mk c g es, _, _, _, _, _, ok, x, h => by
    unfold chkE at h; unfold sem
    split at h
    · simp only [Bool.and_eq_true] at h
      obtain ⟨h1, h2, h3, h4, h5⟩ := h
      have q := snds_ok es ok _ h5
      have e1 := of_decide_eq_true h1
      have e2 := of_decide_eq_true h2
      rw [← snds_len q] at e2
      subst e1
      exact .of (snd_mk ok e2 h3 h4 q) (fun _ => rfl) rfl
    · cases h
  | .oin n c g a b, _, _, _, _, _, ok, x, h => by
    unfold chkE at h; unfold sem
    split at h
    · simp only [Bool.and_eq_true] at h
      obtain ⟨h1, h2, h3, h4, h5⟩ := h
      have e1 := of_decide_eq_true h1
      obtain ⟨k, f, fd, ps, M, _, _⟩ := (ok.fns g _ _ _ (of_decide_eq_true h2) (by simp)).sp
      have m : ∀ op z, nolookB op z = true → behindInMarks op z = false := fun op z h => by unfold nolookB at h; simpa using h
      cases n with
      | true =>
        simp only [if_true] at e1 ⊢
        subst e1
        exact .ofT (de_ownNotIn M ok.gd ok.tk (snd_ok a ok _ h4).v (snd_ok b ok _ h5).v (m _ _ h3)) (dt_ownNotIn M ok.gd ok.tk (snd_ok a ok _ h4).v (snd_ok b ok _ h5).v (m _ _ h3)) rfl
      | false =>
        simp only [Bool.false_eq_true, if_false] at e1 ⊢
        subst e1
        exact .ofT (de_ownIn M ok.gd ok.tk (snd_ok a ok _ h4).v (snd_ok b ok _ h5).v (m _ _ h3)) (dt_ownIn M ok.gd ok.tk (snd_ok a ok _ h4).v (snd_ok b ok _ h5).v (m _ _ h3)) rfl
    · cases h
  | .olen c g a, _, _, _, _, _, ok, x, h => by
    unfold chkE at h; unfold sem
    split at h
    · simp only [Bool.and_eq_true] at h
      obtain ⟨h1, h2, h3, h4, h5⟩ := h
      have e1 := of_decide_eq_true h1
      subst e1
      obtain ⟨k, f, fd, ps, M, _, _⟩ := (ok.fns g _ _ _ (of_decide_eq_true h2) (by simp)).sp
      have q := snd_ok a ok _ h5
      refine .of (de_eq (de_ownLen M ok.gd ok.tk (gl_of ok h4) (free_of ok h3) (one_args q) q.ns) fun ρ s => bind_one _) (fun _ => rfl) rfl
    · cases h
  | .obool c g a, _, _, _, _, _, ok, x, h => by
    unfold chkE at h; unfold sem
    split at h
    · simp only [Bool.and_eq_true] at h
      obtain ⟨h1, h2, h3, h4, h5⟩ := h
      have e1 := of_decide_eq_true h1
      subst e1
      obtain ⟨k, f, fd, ps, M, rm, _⟩ := (ok.fns g _ _ _ (of_decide_eq_true h2) (by simp)).sp
      have q := snd_ok a ok _ h5
      refine .of (de_eq (de_ownBool M rm ok.gd ok.tk (gl_of ok h4) (free_of ok h3) (one_args q) q.ns) fun ρ s => bind_one _) (fun _ => rfl) rfl
    · cases h
  | .ostr c g a, _, _, _, _, _, ok, x, h => by
    unfold chkE at h; unfold sem
    split at h
    · simp only [Bool.and_eq_true] at h
      obtain ⟨h1, h2, h3, h4, h5⟩ := h
      have e1 := of_decide_eq_true h1
      subst e1
      obtain ⟨k, f, fd, ps, M, rm, _⟩ := (ok.fns g _ _ _ (of_decide_eq_true h2) (by simp)).sp
      have q := snd_ok a ok _ h5
      refine .of (de_eq (de_ownStr M rm ok.gd ok.tk (gl_of ok h4) (free_of ok h3) (one_args q) q.ns) fun ρ s => bind_one _) (fun _ => rfl) rfl
    · cases h
  | .fst es, _, _, _, _, _, ok, x, h => by
    unfold chkE at h; unfold sem
    split at h
    · rename_i ys pos
      simp only [Bool.and_eq_true] at h
      obtain ⟨h1, h2⟩ := h
      have q := sndf_ok es ok _ h2
      cases ys with
      | nil => simp at h1
      | cons y ys =>
        cases ys with
        | nil => simp at h1
        | cons z ys => exact .of (de_fst q) (fun _ => rfl) rfl
    · cases h
  | .otru c g a, _, _, _, _, _, ok, x, h => by
    unfold chkE at h; unfold sem
    simp only [Bool.and_eq_true] at h
    obtain ⟨h1, h2, h3⟩ := h
    obtain ⟨k, f, fd, ps, M, rm, _⟩ := (ok.fns g _ _ _ (of_decide_eq_true h2) (by simp)).sp
    have q := snd_ok a ok _ h3
    cases x with
    | Name y p => exact .ofT q.v (dt_ownTru M ok.gd ok.tk q.v (fun _ => rfl)) rfl
    | _ => cases h1
  | .oix c g a b, _, _, _, _, _, ok, x, h => by
    unfold chkE at h; unfold sem
    split at h
    · simp only [Bool.and_eq_true] at h
      obtain ⟨h1, h2, h3, h4⟩ := h
      obtain ⟨k, f, fd, ps, M, _, fi⟩ := (ok.fns g _ _ _ (of_decide_eq_true h2) (by simp)).sp
      exact .of (de_ownIx M fi ok.gd ok.tk (snd_ok a ok _ h3).v (snd_ok b ok _ h4).v h1) (fun _ => rfl) rfl
    · cases h
  | .enu a, _, _, _, _, _, ok, x, h => by
    unfold chkE at h; unfold sem
    split at h
    · simp only [Bool.and_eq_true] at h
      obtain ⟨h1, h2, h3, h4⟩ := h
      have e1 := of_decide_eq_true h1
      subst e1
      have q := snd_ok a ok _ h4
      refine ⟨de_bad, dt_bad, fun tg ht => ?_, do_bad, rfl⟩
      cases tg with
      | Tuple elts kk tpos => exact di_eq (di_enum (gl_of ok h3) (free_of ok h2) q.ns (one_args q)) fun ρ s => bind_one _
      | _ => cases ht
    · cases h
  | .lrg es, _, _, _, _, _, ok, x, h => by
    unfold chkE at h; unfold sem
    split at h
    · simp only [Bool.and_eq_true] at h
      obtain ⟨h1, h2, h3, h4, h5, h6, h7, h8⟩ := h
      obtain ⟨e1, e2, hcm⟩ := of_decide_eq_true h1
      subst e1 e2
      exact .of (snd_lrg ok (ok.calm hcm) h2 h3 h4 h5 (by simpa using h6) (of_decide_eq_true h7) (snds_ok es ok _ h8)) (fun _ => rfl) rfl
    · cases h
  | .trg es, _, _, _, _, _, ok, x, h => by
    unfold chkE at h; unfold sem
    split at h
    · simp only [Bool.and_eq_true] at h
      obtain ⟨h1, h2, h3, h4, h5, h6, h7, h8⟩ := h
      obtain ⟨e1, e2, hcm⟩ := of_decide_eq_true h1
      subst e1 e2
      exact .of (snd_trg ok (ok.calm hcm) h2 h3 h4 h5 (by simpa using h6) (of_decide_eq_true h7) (snds_ok es ok _ h8)) (fun _ => rfl) rfl
    · cases h
  | .lam i me f e, _, _, _, _, _, ok, x, h => by
    unfold chkE at h; unfold sem
    split at h
    · rename_i y p params body scope lpos pos
      simp only [Bool.and_eq_true] at h
      obtain ⟨h1, h2, h3, h4, h5, h6, h7, h8⟩ := h
      have hme := of_decide_eq_true h4
      have U := ok.lms (by rw [hme]; simp) f y 1 (of_decide_eq_true h1)
      have Ls := LamX.lamS_by h5
      rw [← ok.eS] at Ls
      refine .of (de_lam U (ok.lam me hme) ok.gd (gl_of ok h2) (plainN_ok h3).1 Ls h6 (fun A outer s H E f' c' room gd => ?_)) (fun _ => rfl) rfl
      exact (snd_ok e (ok.toLam hme U room gd) body h8).v
    · cases h
theorem sndf_ok : ∀ (es : List E) {C : Ck} {X : Cx} {sc : Scope} {fb : Str → Bool} {W : WX} (_ : Okx C Γ N sc fb X G W) (xs : List Expr), chkFs C N sc fb es xs = true → FJ X G W xs ((sems Γ es).map Sm.v)
  | [], _, _, _, _, _, ok, x, h => by
    unfold chkFs at h; unfold sems
    split at h
    · exact .nil
    · cases h
  | e :: es, _, _, _, _, _, ok, x, h => by
    unfold chkFs at h; unfold sems
    split at h
    · rename_i y n pos ys
      simp only [Bool.and_eq_true] at h
      obtain ⟨h1, h2, h3⟩ := h
      have e1 := of_decide_eq_true h1
      subst e1
      exact .fmt (snd_ok e ok _ h2).v (sndf_ok es ok _ h3)
    · rename_i y k pos ys
      rw [Bool.and_eq_true] at h
      obtain ⟨h1, h3⟩ := h
      split at h1
      · rename_i cs
        rw [Bool.and_eq_true] at h1
        have e1 := of_decide_eq_true h1.1
        subst e1
        unfold sem
        exact .con h1.2 (sndf_ok es ok _ h3)
      · cases h1
    · cases h
theorem sndo_ok : ∀ (es : List E) {C : Ck} {X : Cx} {sc : Scope} {fb : Str → Bool} {W : WX} (_ : Okx C Γ N sc fb X G W) (xs : List (Option Expr)), chkOs C N sc fb es xs = true → ∃ ys, xs = ys.map some ∧ Snds X G W ys (sems Γ es)
  | [], _, _, _, _, _, ok, x, h => by
    unfold chkOs at h; unfold sems
    split at h
    · exact ⟨[], rfl, .nil⟩
    · cases h
  | e :: es, _, _, _, _, _, ok, x, h => by
    unfold chkOs at h; unfold sems
    split at h
    · rename_i y ys
      simp only [Bool.and_eq_true] at h
      obtain ⟨zs, e1, q⟩ := sndo_ok es ok _ h.2
      exact ⟨y :: zs, by rw [e1]; rfl, .cons (snd_ok e ok _ h.1) q⟩
    · cases h
theorem snds_ok : ∀ (es : List E) {C : Ck} {X : Cx} {sc : Scope} {fb : Str → Bool} {W : WX} (_ : Okx C Γ N sc fb X G W) (xs : List Expr), chkEs C N sc fb es xs = true → Snds X G W xs (sems Γ es)
  | [], _, _, _, _, _, ok, x, h => by
    unfold chkEs at h; unfold sems
    split at h
    · exact .nil
    · cases h
  | e :: es, _, _, _, _, _, ok, x, h => by
    unfold chkEs at h; unfold sems
    split at h
    · simp only [Bool.and_eq_true] at h
      obtain ⟨h1, h2⟩ := h
      exact .cons (snd_ok e ok _ h1) (snds_ok es ok _ h2)
    · cases h
end
end
end Fe

set_option maxHeartbeats 4000000
/-! Fe C: own exceptions with a field, with a message alone. -/
namespace Fe
open PySem PySem.Spec PyProof.Rows L2
open PySem.W (Frag)
/-- the body of __init__(self, f): self.f = f -/
def initB (sf f : Str) : List Stmt → Bool
  | [.Assign [.Attribute (.Name a _) g _] (.Name b _) _] => decide (a = sf) && (decide (g = f) && decide (b = f))
  | _ => false
theorem initB_ok {sf f : Str} {b : List Stmt} (h : initB sf f b = true) : ∃ q1 q2 q3 q4, b = [.Assign [.Attribute (.Name sf q1) f q2] (.Name f q3) q4] := by
  unfold initB at h
  split at h
  · simp only [Bool.and_eq_true] at h
    obtain ⟨h1, h2, h3⟩ := h
    have e1 := of_decide_eq_true h1
    have e2 := of_decide_eq_true h2
    have e3 := of_decide_eq_true h3
    subst e1 e2 e3
    exact ⟨_, _, _, _, rfl⟩
  · cases h
/-- what is known of an own exception of one field -/
structure ExTxt (K : Frag) (mg : Str → Option Value) (b : Bs) (x f sf : Str) (C fI : Addr) : Prop where
  gC : mg x = some (.ref C)
  cls : ∃ nm q N bs bm sn sub ab col dd k0 k1 k2 k3 k5, K.lookup C = some (excClassObj nm q C N bs bm true sn sub ab col dd k0 k1 k2 k3 k5 b.newId) ∧ mroB b bm = true
  sa : W.findIn K (.ref C) "__setattr__" = some (some (.builtin "object.__setattr__"))
  noN : W.findIn K (.ref C) f = some none
  iC : W.findIn K (.ref C) "__init__" = some (some (.ref fI))
  tC : W.typeIn K (.ref fI) = some (.type "function")
  kC : W.keepIn K (.ref C) = true
  xf : XfC K C
  tyC : W.typeIn K (.ref C) = some (.type "type")
  fn : ∃ (oc : Value) (od : Option Addr) (nm qual : Str) (params : Arguments) (body : List Stmt) (scope : Scope) (dV kV doc pm : Value) (an : Option Addr) (cdv ct : Value) (osl : Array (Option Value)),
    K.lookup fI = some ⟨oc, od, .func (W.fnOf nm qual params body scope dV kV doc pm an cdv ct), osl⟩ ∧ W.codeIn K cdv qual = true ∧ initB sf f body = true ∧ scope.kind = .function ∧ scope.isCoroutine = false ∧ scope.isGenerator = false ∧
    scope.names.lookup sf = some .local ∧ scope.names.lookup f = some .local ∧ sf ≠ f ∧ (sf == ("__debug__" : Str)) = false ∧ (f == ("__debug__" : Str)) = false ∧
    ∀ (s : Shared) (u v : Value), BindsTo s (W.fnOf nm qual params body scope dV kV doc pm an cdv ct) ⟨[u, v], []⟩ [(sf, u), (f, v)]
theorem one_fits (v : Value) : [v].length ≤ sizeLine := by
  rw [sizeLine_eq]
  exact (by decide : 1 ≤ 16777216)
/-- behind __init__ -/
structure InitEnd (f : Str) (h h' : Heap) (x C dx t1 : Addr) (v : Value) : Prop where
  keep : ∀ a o, a ≠ x → h.get? a = some o → h'.get? a = some o
  obj : h'.get? x = some { cls := .ref C, dict := some dx, data := .fields #[.ref t1, .none, .none, .none, .bool false, .none] }
  dbig : h.objs.size ≤ dx
  dne : dx ≠ x
  ns : h'.Ns1 dx (fun y => if y = f then some v else none)
/-- the exception is made -/
structure OwnMade (f : Str) (h h' : Heap) (e C d : Addr) (v : Value) : Prop where
  keep : ∀ a o, h.get? a = some o → h'.get? a = some o
  new : h.objs.size ≤ e
  obj : ∃ oe vs, h'.get? e = some oe ∧ oe.cls = .ref C ∧ oe.dict = some d ∧ oe.data = .fields vs ∧ vs[1]? = some .none
  dbig : h.objs.size ≤ d
  dne : d ≠ e
  ns : h'.Ns1 d (fun y => if y = f then some v else none)
theorem ldE {M : Model} {s : Shared} {env : PySem.Env} {L : Addr} {m : Str → Option Value} {x : Str} {pos : Pos} {v : Value} {Q : Value → Shared → Prop} {A : Around} {E : Value → Shared → Prop} (hn : s.heap.Ns L m) (hL : env.locals = L) (hv : m x = some v) (h : Q v s)
    (hk : env.scope.kind = .function) (hl : env.kindOf x = some .local) (hd : (x == ("__debug__" : Str)) = false) : wpAny M A (eval (.Name x pos) env) Q E s := by
  subst hL
  exact wpAny_Name (wpAny_loadName_local hk hl hn hv h) hd
section
variable {prog : Program} {w : World} {A : Around} {E : Value → Shared → Prop} {R : Result → Shared → Prop} {s : Shared} {K : Frag} {mg : Str → Option Value} {b : Bs} {x f sf : Str} {C fI : Addr}
theorem ex_init (T : ExTxt K mg b x f sf C fI) {e t0 : Addr} {v : Value} (X : K.In s.heap) (hlim : s.heap.NoLimit) (hx : s.heap.get? e = some (HandSPX.excO C t0)) (hroom : A.depth < recursionLimit)
    (hq : ∀ h' tk dx, InitEnd f s.heap h' e C dx t0 v → R (.ok (.ret .none)) { s with heap := h', toks := tk }) :
    codeAny (model prog w) A (.call (.ref fI) ⟨[.ref e, v], []⟩) R s := by
  obtain ⟨oc, od, fnm, qual, params, body, scope, dV, kV, doc, pm, an, cdv, ct, osl, ho, hcd, hb, s1, s2, s3, l1, l2, ne, nd1, nd2, bd⟩ := T.fn
  obtain ⟨q1, q2, q3, q4, rfl⟩ := initB_ok hb
  obtain ⟨nm, q, N, bs, bm, sn, sub, ab, col, dd, k0, k1, k2, k3, k5, hC, hbm⟩ := T.cls
  have hcl : W.clsIn K C = some { name := nm, bases := bs, mro := .ref C :: bm, ns := N, qualname := q, hasDict := true, slotNames := sn, subclasses := sub, abstract := ab, collection := col, hasDel := false } := by unfold W.clsIn; rw [hC] <;> rfl
  refine Att.call_fn (binds := [(sf, .ref e), (f, v)]) X hlim ho hcd hroom (bd _ _ _) (by simp [l1, l2]) (fun s₁ IC => ?_) s2 s3 s1
  obtain ⟨h₁, tk₁, rfl⟩ := IC.toInCall.same
  have k : ∀ a o, s.heap.get? a = some o → h₁.get? a = some o := IC.toInCall.keep
  have hn := IC.toInCall.ns
  have X₁ : K.In h₁ := X.keeps k
  have hx₁ := k _ _ hx
  have kS : (envOfC qual scope s.heap.objs.size fI cdv).kindOf sf = some .local := l1
  have kF : (envOfC qual scope s.heap.objs.size fI cdv).kindOf f = some .local := l2
  have mS : bindL (envOfC qual scope s.heap.objs.size fI cdv).kindOf [(sf, .ref e), (f, v)] (fun _ => none) sf = some (.ref e) := by
    have q := bindL_get (kindOf := (envOfC qual scope s.heap.objs.size fI cdv).kindOf) (m := fun _ => none) (P := [sf, f]) (vs := [.ref e, v]) (i := 0) (x := sf) (v := .ref e) (by simp [ne]) rfl rfl kS
    exact q
  have mF : bindL (envOfC qual scope s.heap.objs.size fI cdv).kindOf [(sf, .ref e), (f, v)] (fun _ => none) f = some v := by
    have q := bindL_get (kindOf := (envOfC qual scope s.heap.objs.size fI cdv).kindOf) (m := fun _ => none) (P := [sf, f]) (vs := [.ref e, v]) (i := 1) (x := f) (v := v) (by simp [ne]) rfl rfl kF
    exact q
  show wpAny _ _ (execs _ _) _ _ _
  refine wpAny_execs_cons (plainObj_wpAny_Assign_Attribute ?_)
  refine ldE (v := v) hn rfl mF (ldE (v := .ref e) hn rfl mS ?_ s1 kS nd1) s1 kF nd2
  refine W.set_plain X₁ (ox := HandSPX.excO C t0) (od := none) ⟨hx₁, rfl, rfl, trivial⟩ T.sa ?_
  refine osaX X₁ (b := b) hx₁ hcl (show mroB b (.ref C :: bm) = true from hbm) rfl T.noN (fun h₃ tk₃ dx k₃ dn dne hx₃ hn₃ => ?_)
  show wpAny _ _ (execs _ _) _ _ _
  have z : s.heap.objs.size < h₁.objs.size := hn.lt
  exact wpAny_execs_nil (hq h₃ tk₃ dx ⟨fun a o hb e => k₃ a o hb (k a o e), hx₃, Nat.le_of_lt (Nat.lt_of_lt_of_le z dn), dne, hn₃⟩)
theorem ex_made (T : ExTxt K mg b x f sf C fI) {v : Value} (X : K.In s.heap) (hlim : s.heap.NoLimit) (hroom : A.depth + 1 < recursionLimit)
    (hq : ∀ h' tk e d, OwnMade f s.heap h' e C d v → R (.ok (.ret (.ref e))) { s with heap := h', toks := tk }) :
    codeAny (model prog w) A (.call (.ref C) ⟨[v], []⟩) R s := by
  obtain ⟨nm, q, N, bs, bm, sn, sub, ab, col, dd, k0, k1, k2, k3, k5, hC, hbm⟩ := T.cls
  obtain ⟨hp, g, dr, tk, os⟩ := s
  have k : ∀ a o, hp.get? a = some o → ((hp.push (W.kdv_tup [v])).push (HandSPX.excO C hp.objs.size)).get? a = some o := fun a o e => Heap.get?_push_of_some _ (Heap.get?_push_of_some _ e)
  have hget : ((hp.push (W.kdv_tup [v])).push (HandSPX.excO C hp.objs.size)).get? (hp.objs.size + 1) = some (HandSPX.excO C hp.objs.size) := by heap_get
  refine HandSPX.call_own b.facts (fun Y => mroB_contains Y bm hbm) (X _ _ hC) (W.looks_findIn X T.iC) (fun self => W.bind_fn X self T.tC) (one_fits v) ?_
  refine ex_init (s := ⟨(hp.push (W.kdv_tup [v])).push (HandSPX.excO C hp.objs.size), g, dr, tk, os⟩) T (X.keeps k) (hlim.keeps k) hget hroom fun h' tk' dx ⟨k', hx, dn, dne, hns⟩ => ?_
  have old : ∀ a o, hp.get? a = some o → h'.get? a = some o := fun a o e => k' a o (Nat.ne_of_lt (Nat.lt_succ_of_lt (Heap.lt_size e))) (k a o e)
  have z : hp.objs.size + 1 + 1 ≤ dx := by
    first
      | (simpa only [Heap.size_push] using dn)
      | exact dn
      | (have q := dn; rw [Heap.size_push, Heap.size_push] at q; exact q)
  exact ⟨rfl, hq h' tk' (hp.objs.size + 1) dx ⟨old, Nat.le_succ _, ⟨_, _, hx, rfl, rfl, rfl, rfl⟩, Nat.le_trans (Nat.le_trans (Nat.le_succ _) (Nat.le_succ _)) z, dne, hns⟩⟩
end
theorem relO_one {v : V} {v' : Value} {f : Str} (r : RelV v v') (g : Str) : RelO (List.lookup g [(f, v)]) (if g = f then some v' else none) := by
  by_cases hw : g = f
  · subst hw
    rw [if_pos rfl]
    have q : List.lookup g [(g, v)] = some v := by simp [List.lookup]
    rw [q]
    exact r
  · rw [if_neg hw]
    have qw : (g == f) = false := by simpa using hw
    have q2 : List.lookup g [(f, v)] = none := by simp [List.lookup, qw]
    rw [q2]
    trivial
section
variable {X : Cx} {G : Gc} {W0 : WX} {b : Bs} {x f sf : Str} {C fI : Addr}
/-- C(e) -/
theorem pmk_own {a : Expr} {ta : TA} {p pos : Pos} {k : Nat} (T : ExTxt X.K X.mg b x f sf C fI) (hr : Room k X.A) (ha : PA X [a] ta) (hg : Gl X x) (hns : notStar a = true) (hdb : (x == ("__debug__" : Str)) = false) :
    PMk X (.Call (.Name x p) [a] [] pos) (fun σ H Q => ta σ H fun vs H1 => ∃ v, vs = [v] ∧ ∀ d, H1 d = none → Q (.ref C) (some d) (upd H1 d (.xd [(f, v)]))) := by
  intro pins s σ H Q I h
  refine wpAny_Call_Name_kw (ld_glob I hg T.gC ?_ hdb)
  refine PySem.W.callWith_K (h₀ := X.base) I.ok.mod.kin T.kC (thn (ha.run pos pins s σ H _ I h) fun us s1 hh => ?_) (star_ns hns) (star_any (es := []) rfl)
  obtain ⟨vs, H1, I1, r1, v, ev, q1⟩ := hh
  subst ev
  refine ⟨I1.kIn, ?_⟩
  cases r1 with
  | cons rv rn =>
    rename_i v' us'
    cases rn
    show wpAny _ _ (call (.ref C) [v']) _ _ _
    have hlim := I1.nolimit
    obtain ⟨hp, g, dr, tk, os⟩ := s1
    refine wpAny_call (ex_made T I1.kIn hlim (by have := hr.dp; omega) fun h' tk' e d M => ?_)
    show MkP X pins σ Q (.ref e) ⟨h', g, dr, tk', os⟩
    obtain ⟨oe, fv, hoe, hc, hd, hdat, h1⟩ := M.obj
    have hns := M.ns
    obtain ⟨G', g1, g2⟩ := restrict h' fun a => decide (a ≠ e)
    have gk : ∀ a, a ≠ e → G'.get? a = h'.get? a := fun a hb => g1 a (decide_eq_true hb)
    have ge : G'.get? e = none := g2 e (by simp)
    have old : ∀ a o, hp.get? a = some o → G'.get? a = some o := fun a o q => (gk a (Nat.ne_of_lt (Nat.lt_of_lt_of_le (Heap.lt_size q) M.new))).trans (M.keep a o q)
    have ob : ObjOk X.prog X.w (upd H1 d (.xd [(f, v)])) G' d (.xd [(f, v)]) :=
      ⟨_, hns.at (fun o q => (gk d M.dne).trans q), fun g => relO_one rv g⟩
    have J : Inv X pins σ (upd H1 d (.xd [(f, v)])) ⟨G', g, dr, tk', os⟩ := I1.laid (t' := tk') old M.dbig ob
    refine ⟨e, oe, fv, ⟨G', g, dr, tk', os⟩, _, .ref C, some d, rfl, J, fun a o q => ?_, ge, hoe, ⟨hc, hd⟩, hdat, h1, ?_, rfl, I1.bare, raises_own T.xf.exC T.tyC, q1 d (I1.hok.fresh M.dbig)⟩
    · by_cases hb : a = e
      · have q' : G'.get? a = some o := q
        rw [hb, ge] at q'; cases q'
      · exact (gk a hb).symm.trans q
    · rw [upd_ne (Ne.symm M.dne)]
      exact I1.hok.fresh M.new
/-- raise C(e): the value is its field -/
theorem ds_raise1 {a : Expr} {g : Env → S → Out D} {c : Nat} {p pos pos2 : Pos} {k : Nat} (hc : X.calm = true) (T : ExTxt X.K X.mg b x f sf C fI) (hC : G.cls c = C) (hf : G.flds c = [f]) (hr : Room k X.A) (tk : Takes X W0) (ha : DE X G W0 a g) (hg : Gl X x) (hns : notStar a = true) (hdb : (x == ("__debug__" : Str)) = false) :
    DS X G W0 (.Raise (some (.Call (.Name x p) [a] [] pos)) none pos2) (fun ρ s => lift (g ρ s) ρ fun d s => .exc ⟨c, [d]⟩ ρ s) :=
  ps_imp (ps_raise hc tk (pmk_own T hr (da_cons hns ha da_nil) hg hns hdb)) fun D σ H ⟨μ, ρ, s, r, re, h⟩ => by
    refine ⟨μ, ρ, s, r, re, ?_⟩
    show Fin X.K G μ H (fun c d H' => W0 c d σ H') ((g ρ s).bind fun x s => (Out.ok [] s).bind fun xs s => Out.ok (x :: xs) s) _
    have h' : SFin X.K G μ H W0 (lift (g ρ s) ρ fun d s => .exc ⟨c, [d]⟩ ρ s) D := h
    cases e : g ρ s with
    | bad => rw [e] at h'; exact h'.elim
    | exc y s1 =>
      rw [e] at h'
      exact fun cls dd μ1 H1 x1 r1 rx => h' cls dd μ1 H1 σ x1 r1 (re.mono x1) rx
    | ok d s1 =>
      rw [e] at h'
      intro μ1 H1 x1 r1 vs rvs
      obtain ⟨v, rfl, rv⟩ := rel1 rvs
      refine ⟨v, rfl, fun dx hd => ?_⟩
      obtain ⟨r2, x2⟩ := r1.new (u := .xd [(f, v)]) hd
      exact h' (.ref C) (some dx) μ1 _ σ (x1.trans x2) r2 ((re.mono x1).mono x2) ⟨by rw [hC], .inr ⟨dx, [(f, v)], rfl, upd_same, by rw [hf]; rfl, relCons (rv.mono x2) relNil⟩⟩
/-- raise C(e), C without a field -/
theorem ds_raise0 {a : Expr} {g : Env → S → Out D} {c : Nat} {p pos pos2 : Pos} (hc : X.calm = true) (q : PySem.W.excIn X.K C b.tail b.newId = true) (gC : X.mg x = some (.ref C)) (kC : PySem.W.keepIn X.K (.ref C) = true) (rs : Raises X (.ref C)) (hC : G.cls c = C) (tk : Takes X W0) (ha : DE X G W0 a g) (hg : Gl X x) (hns : notStar a = true) (hdb : (x == ("__debug__" : Str)) = false) :
    DS X G W0 (.Raise (some (.Call (.Name x p) [a] [] pos)) none pos2) (fun ρ s => lift (g ρ s) ρ fun d s => .exc ⟨c, []⟩ ρ s) :=
  ps_imp (ps_raise hc tk (SkE.pmk_own1 b.facts q gC kC rs hg ha (star_ns hns) hdb)) fun D σ H ⟨μ, ρ, s, r, re, h⟩ => by
    refine ⟨μ, ρ, s, r, re, ?_⟩
    show Fin X.K G μ H (fun c d H' => W0 c d σ H') (g ρ s) _
    have h' : SFin X.K G μ H W0 (lift (g ρ s) ρ fun d s => .exc ⟨c, []⟩ ρ s) D := h
    cases e : g ρ s with
    | bad => rw [e] at h'; exact h'.elim
    | exc y s1 =>
      rw [e] at h'
      exact fun cls dd μ1 H1 x1 r1 rx => h' cls dd μ1 H1 σ x1 r1 (re.mono x1) rx
    | ok d s1 =>
      rw [e] at h'
      exact fun μ1 H1 x1 r1 v rv => h' (.ref C) none μ1 H1 σ x1 r1 (re.mono x1) ⟨by rw [hC], .inl ⟨rfl, rfl⟩⟩
end
end Fe

set_option maxHeartbeats 4000000
/-! Fe D: except suites that look at their exception. -/
namespace Fe
open PySem PySem.Spec PyProof.Rows L2
theorem RelX.mono {K : PySem.W.Frag} {G : Gc} {μ μ' : List Addr} {H H' : Hp} {x : Xc} {cls : Value} {d : Option Addr} (e : Ext μ H μ' H') (h : RelX K G μ H x cls d) : RelX K G μ' H' x cls d := by
  obtain ⟨a, b⟩ := h
  refine ⟨a, b.imp id fun ⟨dd, fs, h1, h2, h3, h4⟩ => ⟨dd, fs, h1, e.keep.xd _ _ h2, h3, h4.mono e⟩⟩
/-- an expression of a suite that holds an exception in slot i -/
theorem pe_impL {X : Cx} {e : Expr} {t t' : TE} (h : PE X e t) (i : ∀ σ H Q, σ.length = X.N.length → t' σ H Q → t σ H Q) : PE X e t' := ⟨fun pins s σ H Q I w => h.run pins s σ H Q I (i σ H Q I.len w)⟩
def tDj (K : PySem.W.Frag) (G : Gc) (i : Nat) (a : Addr) (cls : Value) (d : Option Addr) (f : Xc → Env → S → Out D) : TE := fun σ H Q => ∃ μ ρ s x, Rel K μ H s ∧ RelEnv K μ H ρ σ ∧ (i < σ.length → σ[i]? = some (some (.ref a))) ∧ RelX K G μ H x cls d ∧ Fin K G μ H (fun _ _ _ => False) (f x ρ s) (qD K Q)
section
variable {Y : Cx} {G : Gc} {i : Nat} {a : Addr} {cls : Value} {d : Option Addr} {e e1 e2 : Expr} {f g : Xc → Env → S → Out D} {pos : Pos}
abbrev DJ (Y : Cx) (G : Gc) (i : Nat) (a : Addr) (cls : Value) (d : Option Addr) (e : Expr) (f : Xc → Env → S → Out D) : Prop := PE Y e (tDj Y.K G i a cls d f)
theorem dj_of {v : Env → S → Out D} (h : DE Y G noX e v) : DJ Y G i a cls d e (fun _ => v) := pe_imp h fun σ H Q ⟨μ, ρ, s, x, r, re, _, _, h⟩ => ⟨μ, ρ, s, r, re, h⟩
theorem j1 {σ : L2.St} {H : Hp} {μ : List Addr} {ρ : Env} {s : S} {x : Xc} {k : D → S → Out D} {Q Q1 : VK} (r : Rel Y.K μ H s) (re : RelEnv Y.K μ H ρ σ) (hi : i < σ.length → σ[i]? = some (some (.ref a))) (rx : RelX Y.K G μ H x cls d)
    (h : Fin Y.K G μ H (fun _ _ _ => False) ((f x ρ s).bind k) (qD Y.K Q))
    (hk : ∀ d' s1 μ1 H1 v, Ext μ H μ1 H1 → Rel Y.K μ1 H1 s1 → RelEnv Y.K μ1 H1 ρ σ → RelX Y.K G μ1 H1 x cls d → RelD Y.K μ1 H1 d' v → Fin Y.K G μ1 H1 (fun _ _ _ => False) (k d' s1) (qD Y.K Q) → Q1 v H1) : tDj Y.K G i a cls d f σ H Q1 :=
  ⟨μ, ρ, s, x, r, re, hi, rx, h.bind.imp fun d' s1 μ1 H1 x1 r1 h1 v rv => hk d' s1 μ1 H1 v x1 r1 (re.mono x1) (rx.mono x1) rv h1⟩
theorem dj_bin {op : Operator} {r : R2} {k : D → D → S → Out D} (ho : OpR Y (binaryOp op) r) (ha : DJ Y G i a cls d e1 f) (hb : DJ Y G i a cls d e2 g) (hk : Hk Y G r k) :
    DJ Y G i a cls d (.BinOp e1 op e2 pos) (fun x ρ s => (f x ρ s).bind fun u s => (g x ρ s).bind fun v s => k u v s) :=
  pe_imp (pe_op ho ha hb) fun σ H Q ⟨μ, ρ, s, x, rr, re, hi, rx, h⟩ => j1 rr re hi rx h fun u s1 μ1 H1 v1 x1 r1 re1 rx1 rv1 h1 => j1 r1 re1 hi rx1 h1 fun y s2 μ2 H2 v2 x2 r2 re2 rx2 rv2 h2 =>
    hk u y s2 μ2 H2 v1 v2 _ Q r2 (rv1.mono x2) rv2 h2
theorem dj_cmp {op : CmpOp} {r : R2} {k : D → D → S → Out D} (ho : OpR Y (compareOp op) r) (ha : DJ Y G i a cls d e1 f) (hb : DJ Y G i a cls d e2 g) (hm : behindInMarks op e2 = false) (hk : Hk Y G r k) :
    DJ Y G i a cls d (.Compare e1 [op] [e2] pos) (fun x ρ s => (f x ρ s).bind fun u s => (g x ρ s).bind fun v s => k u v s) :=
  pe_imp (pe_cmpR ho ha hb hm) fun σ H Q ⟨μ, ρ, s, x, rr, re, hi, rx, h⟩ => j1 rr re hi rx h fun u s1 μ1 H1 v1 x1 r1 re1 rx1 rv1 h1 => j1 r1 re1 hi rx1 h1 fun y s2 μ2 H2 v2 x2 r2 re2 rx2 rv2 h2 =>
    hk u y s2 μ2 H2 v1 v2 _ Q r2 (rv1.mono x2) rv2 h2
theorem dj_tup2 {k : Nat} (ha : DJ Y G i a cls d e1 f) (hb : DJ Y G i a cls d e2 g) (n1 : notStar e1 = true) (n2 : notStar e2 = true) :
    DJ Y G i a cls d (.Tuple [e1, e2] k pos) (fun x ρ s => (f x ρ s).bind fun u s => (g x ρ s).bind fun v s => .ok (.tup [u, v]) s) :=
  pe_imp (pe_tup (pa_cons ha (pa_cons hb pa_nil (star_ns n2)) (star_ns n1))) fun σ H Q ⟨μ, ρ, s, x, rr, re, hi, rx, h⟩ => j1 rr re hi rx h fun u s1 μ1 H1 v1 x1 r1 re1 rx1 rv1 h1 => j1 r1 re1 hi rx1 h1 fun y s2 μ2 H2 v2 x2 r2 re2 rx2 rv2 h2 =>
    ⟨by rw [sizeLine_eq]; exact (by decide : 2 ≤ 16777216), fun p hp => tup_fin r2 (relCons (rv1.mono x2) (relCons rv2 relNil)) h2 hp⟩
theorem dj_call {x : Str} {p : Pos} {u : Value} {r : List V → Hp → VK → Prop} {k : List D → S → Out D} (hv : (∃ id, u = .builtin id) ∨ ∃ T, u = .type T) (hc : CallR Y u r) (hk : HkC Y G r k) (hg : Gl Y x) (hm : Y.mg x = none) (hb : bootBuiltins x = some u) (hn : x ≠ "__name__") (hdb : (x == ("__debug__" : Str)) = false)
    (ha : DJ Y G i a cls d e1 f) (n1 : notStar e1 = true) : DJ Y G i a cls d (.Call (.Name x p) [e1] [] pos) (fun x ρ s => (f x ρ s).bind fun u s => k [u] s) := by
  have red : ∀ (σ : L2.St) (H : Hp) (Q : VK), tDj Y.K G i a cls d (fun x ρ s => (f x ρ s).bind fun u s => k [u] s) σ H Q → tDj Y.K G i a cls d f σ H fun v H1 => r [v] H1 Q := fun σ H Q ⟨μ, ρ, s, x, rr, re, hi, rx, h⟩ =>
    j1 rr re hi rx h fun u s1 μ1 H1 v1 x1 r1 re1 rx1 rv1 h1 => hk [u] s1 μ1 H1 [v1] _ Q r1 (relCons rv1 relNil) h1
  rcases hv with ⟨id, rfl⟩ | ⟨T, rfl⟩
  · exact pe_imp (pe_callB hc hg hm hb (pa_cons ha pa_nil (star_ns n1)) hn hdb (star_ns n1) (star_any (es := []) rfl)) red
  · exact pe_imp (pe_callTy hc hg hm hb (pa_cons ha pa_nil (star_ns n1)) hn hdb (star_ns n1) (star_any (es := []) rfl)) red
end
/-- the field of an exception of class c -/
def fldX (c : Nat) (x : Xc) (s : S) : Out D := if x.c = c then (match x.ds with
  | [d] => .ok d s
  | _ => .bad) else .bad
theorem dj_fld {X : Cx} {G : Gc} {i : Nat} {a : Addr} {oe : Obj} {cls : Value} {d : Option Addr} {pn : List (Addr × Obj)} {n f : Str} {c : Nat} {p pos : Pos} (T : XfC X.K (G.cls c)) (hno : PySem.W.findIn X.K (.ref (G.cls c)) f = some none) (hf : G.flds c = [f])
    (hN : X.N[i]? = some n) (hv : Vis X.env.scope n) (h1 : (n == ("__debug__" : Str)) = false) (h2 : (n == ("__classdict__" : Str)) = false) (hz : Zc cls d oe) (hd : ∃ vs, oe.data = .fields vs) :
    DJ (X.suite a ((a, oe) :: pn)) G i a cls d (.Attribute (.Name n p) f pos) (fun x _ s => fldX c x s) :=
  pe_impL (pe_xf T hno hz hd (pe_var (X := X.suite a ((a, oe) :: pn)) hN hv h1 h2) (base_ok rfl)) fun σ H Q hlen ⟨μ, ρ, s, x, rr, re, hi, rx, h⟩ => by
    have hlt : i < σ.length := by
      rw [hlen]
      exact (List.getElem?_eq_some_iff.mp hN).1
    unfold fldX at h
    dsimp only at h
    split at h
    · rename_i ec
      subst ec
      split at h
      · rename_i y ey
        obtain ⟨q1, q2⟩ := rx
        rcases q2 with ⟨q2, _⟩ | ⟨dd, fs, e1, e2, e3, e4⟩
        · rw [ey] at q2; cases q2
        · rw [ey] at e4
          rw [hf] at e3
          cases fs with
          | nil => cases e3
          | cons z zs =>
            cases zs with
            | cons _ _ => cases e3
            | nil =>
              obtain ⟨g, v⟩ := z
              have eg : g = f := by simpa using e3
              subst eg
              obtain ⟨w, ew, rw_⟩ := rel1 e4
              cases ew
              exact ⟨_, hi hlt, rfl, q1, dd, _, v, e1, e2, by simp [List.lookup], h.ok_ rr v rw_⟩
      · exact h.elim
    · exact h.elim
/-! ### trees of such expressions -/
inductive Xe where
  | of (e : E)
  | fld (c : Nat)
  | bin (o : Ar) (a b : Xe)
  | cmp (o : Cm) (a b : Xe)
  | tup2 (a b : Xe)
  | bi (b : Bi) (a : Xe)
  | isx (h n : Nat) (ms : List Nat) (a b : Xe)
def semX (Γ : Nat → List D → S → Out D) : Xe → Xc → Env → S → Out D
  | .of e => fun _ => (sem Γ e).v
  | .fld c => fun x _ s => fldX c x s
  | .bin o a b => fun x ρ s => (semX Γ a x ρ s).bind fun u s => (semX Γ b x ρ s).bind fun v s => o.f u v s
  | .cmp o a b => fun x ρ s => (semX Γ a x ρ s).bind fun u s => (semX Γ b x ρ s).bind fun v s => o.f u v s
  | .tup2 a b => fun x ρ s => (semX Γ a x ρ s).bind fun u s => (semX Γ b x ρ s).bind fun v s => .ok (.tup [u, v]) s
  | .bi b a => fun x ρ s => (semX Γ a x ρ s).bind fun u s => b.f [u] s
  | .isx _ n ms a b => fun x ρ s => if x.c < n then (if ms.contains x.c = true then semX Γ a x ρ s else semX Γ b x ρ s) else .bad
/-- within a suite: no calls of defs, nothing that wants to be calm -/
def Ck.quiet (C : Ck) : Ck := { C with fns := [], calm := false, me := none }
def chkX (C : Ck) (N : List Str) (sc : Scope) (fb : Str → Bool) (i : Nat) : Xe → Expr → Bool
  | .of e, x => chkE C.quiet N sc fb e x
  | .fld c, x => match x with
    | .Attribute (.Name n _) f _ => decide (N[i]? = some n) && (visB sc n && (plainN n && (match C.exc[c]? with | some (_, some g) => decide (f = g) | _ => false)))
    | _ => false
  | .bin o a b, x => match x with
    | .BinOp y op z _ => decide (op = o.op) && (chkX C N sc fb i a y && chkX C N sc fb i b z)
    | _ => false
  | .cmp o a b, x => match x with
    | .Compare y [op] [z] _ => decide (op = o.op) && (nolookB op z && (chkX C N sc fb i a y && chkX C N sc fb i b z))
    | _ => false
  | .tup2 a b, x => match x with
    | .Tuple [y, z] _ _ => chkX C N sc fb i a y && chkX C N sc fb i b z
    | _ => false
  | .bi b a, x => match x with
    | .Call (.Name y _) [z] [] _ => decide (y = b.nm) && (!b.calm && (C.free.contains y && (gloB sc y && chkX C N sc fb i a z)))
    | _ => false
  | .isx h n ms a b, x => match x with
    | .IfExp (.Call (.Name f _) [.Name v _, .Name y _] [] _) z u _ => decide (f = "isinstance") && (C.free.contains f && (gloB sc f && (decide (N[i]? = some v) && (visB sc v && (plainN v && (decide (n = C.exc.length) && (decide (C.hds[h]? = some (y, ms)) && (gloB sc y && (plainN y && (chkX C N sc fb i a z && chkX C N sc fb i b u))))))))))
    | _ => false
/-- what isinstance asks of an exception's class -/
structure KxF (K : PySem.W.Frag) (C : Addr) : Prop where
  hcl : (PySem.W.clsIn K C).isSome = true
  hga : PySem.W.findIn K (.ref C) "__getattribute__" = some (some (.builtin "BaseException.__getattribute__"))
  hgt : ∃ gt, PySem.W.findIn K (.ref C) "__getattr__" = some gt
  hsub : PySem.W.subIn K (.ref C) (.type "BaseException") = some true
  ha : PySem.W.findIn K (.ref C) "__class__" = some (some (.builtin "object.__class__"))
  hn : PySem.W.specialIn K (.builtin "object.__class__") "__get__" = some (some (.builtin "getset_descriptor.__get__"))
  htk : PySem.W.takesIn K (.builtin "object.__class__") = some true
  hm : PySem.W.mroIn K C (.type "object") = some true
def kxB (K : PySem.W.Frag) (C : Addr) : Bool := (PySem.W.clsIn K C).isSome && (decide (PySem.W.findIn K (.ref C) "__getattribute__" = some (some (.builtin "BaseException.__getattribute__"))) && ((PySem.W.findIn K (.ref C) "__getattr__").isSome && (decide (PySem.W.subIn K (.ref C) (.type "BaseException") = some true) && (decide (PySem.W.findIn K (.ref C) "__class__" = some (some (.builtin "object.__class__"))) &&
  (decide (PySem.W.specialIn K (.builtin "object.__class__") "__get__" = some (some (.builtin "getset_descriptor.__get__"))) && (decide (PySem.W.takesIn K (.builtin "object.__class__") = some true) && decide (PySem.W.mroIn K C (.type "object") = some true)))))))
theorem kxB_ok {K : PySem.W.Frag} {C : Addr} (h : kxB K C = true) : KxF K C := by
  unfold kxB at h
  simp only [Bool.and_eq_true] at h
  obtain ⟨h1, h2, h3, h4, h5, h6, h7, h8⟩ := h
  exact ⟨h1, of_decide_eq_true h2, Option.isSome_iff_exists.mp h3, of_decide_eq_true h4, of_decide_eq_true h5, of_decide_eq_true h6, of_decide_eq_true h7, of_decide_eq_true h8⟩
/-- what is known of a class that an except clause names, or isinstance -/
def HdAns (K : PySem.W.Frag) (C cv : Value) (b : Bool) : Prop := PySem.W.exmOne K C cv = some b ∧ PySem.W.kitOne K C cv = some b
def HdV (cv : Value) : Prop := (∃ a, cv = .ref a) ∨ ∃ T, cv = .type T
def rIsx (K : PySem.W.Frag) (a : Addr) (cls : Value) (d : Option Addr) : List V → Hp → VK → Prop := fun xs H Q => ∃ (C : Addr) (cv : V) (u : Value) (b : Bool), xs = [V.ref a, cv] ∧ RelV cv u ∧ (∀ w, RelV cv w → w = u) ∧ cls = .ref C ∧ (d = none ∨ ∃ dd fs, d = some dd ∧ H dd = some (.xd fs)) ∧ PySem.W.kitOne K (.ref C) u = some b ∧ KxF K C ∧ Q (.bl b) H
theorem call_isx {X : Cx} {a : Addr} {oe : Obj} {cls : Value} {d : Option Addr} {pn : List (Addr × Obj)} (hz : Zc cls d oe) (hd : ∃ vs, oe.data = .fields vs) : CallR (X.suite a ((a, oe) :: pn)) (.builtin "isinstance") (rIsx X.K a cls d) := by
  intro pins s σ H xs us Q I r h
  obtain ⟨C, cv, u, b, rfl, rc, one, rfl, hdd, e, T, q⟩ := h
  obtain ⟨u1, u2, rfl, r1, r2⟩ := vals2 r
  cases (show u1 = Value.ref a from r1)
  cases one _ r2
  obtain ⟨ha, _⟩ := I.pin (a, oe) (List.mem_append_left _ List.mem_cons_self)
  obtain ⟨vs, hv⟩ := hd
  obtain ⟨gt, hgt⟩ := T.hgt
  have nc : PySem.W.notCls oe = true := by unfold PySem.W.notCls; rw [hv] <;> rfl
  obtain ⟨od, J⟩ : ∃ od, PySem.W.InstAt s.heap a oe C od := by
    rcases hdd with rfl | ⟨dd, fs, rfl, ea⟩
    · exact ⟨none, ha, hz.1, nc, by rw [hz.2]; exact True.intro⟩
    · have hx : ObjOk X.prog X.w H s.heap dd (.xd fs) := I.hok dd _ ea
      obtain ⟨mA, hns, hr⟩ := hx
      obtain ⟨od, ho, hl⟩ := lookIn_ns hns
      exact ⟨some od, ha, hz.1, nc, by rw [hz.2]; exact ho⟩
  exact PySem.W.kia_one (PySem.W.kitx_exc T.hcl T.hga hgt T.hsub T.ha T.hn T.htk T.hm) I.kIn J e (fun z => nomatch z) fun tk => ⟨.bl b, H, I.tok tk, rfl, q⟩
/-- what is known of an own exception here -/
def ExUse (X : Cx) (G : Gc) (c : Nat) (x : Str) (fo : Option Str) : Prop := match fo with
  | some f => ∃ b sf fI, ExTxt X.K X.mg b x f sf (G.cls c) fI ∧ G.flds c = [f]
  | none => ∃ b : Bs, PySem.W.excIn X.K (G.cls c) b.tail b.newId = true ∧ X.mg x = some (.ref (G.cls c)) ∧ PySem.W.keepIn X.K (.ref (G.cls c)) = true ∧ Raises X (.ref (G.cls c))
theorem ns_chkX {C : Ck} {Γ : Nat → List D → S → Out D} {N : List Str} {sc : Scope} {fb : Str → Bool} {i : Nat} {Y : Cx} {G : Gc} (ok : Okx C.quiet Γ N sc fb Y G noX) : ∀ (t : Xe) (x : Expr), chkX C N sc fb i t x = true → notStar x = true
  | .of e, x, h => (snd_ok e ok x h).ns
  | .fld c, x, h => by
    unfold chkX at h
    split at h
    · rfl
    · cases h
  | .bin o a b, x, h => by
    unfold chkX at h
    split at h
    · rfl
    · cases h
  | .cmp o a b, x, h => by
    unfold chkX at h
    split at h
    · rfl
    · cases h
  | .tup2 a b, x, h => by
    unfold chkX at h
    split at h
    · rfl
    · cases h
  | .bi b a, x, h => by
    unfold chkX at h
    split at h
    · rfl
    · cases h
  | .isx hh n ms a b, x, h => by
    unfold chkX at h
    split at h
    · rfl
    · cases h
theorem dj_ok {C : Ck} {Γ : Nat → List D → S → Out D} {N : List Str} {sc : Scope} {fb : Str → Bool} {i : Nat} {X : Cx} {G : Gc} {a : Addr} {oe : Obj} {cls : Value} {d : Option Addr} {pn : List (Addr × Obj)} (ok : Okx C.quiet Γ N sc fb (X.suite a ((a, oe) :: pn)) G noX)
    (hx : ∀ (c : Nat) (x : Str) (fo : Option Str), C.exc[c]? = some (x, fo) → ExUse X G c x fo) (hkx : ∀ c, c < C.exc.length → KxF X.K (G.cls c))
    (hh : ∀ (h : Nat) (x : Str) (ms : List Nat), C.hds[h]? = some (x, ms) → ∃ cv, (X.mg x = some cv ∨ (X.mg x = none ∧ bootBuiltins x = some cv ∧ x ≠ "__name__")) ∧ HdV cv ∧ ∀ k, k < C.exc.length → HdAns X.K (.ref (G.cls k)) cv (ms.contains k)) (hz : Zc cls d oe) (hd : ∃ vs, oe.data = .fields vs) : ∀ (t : Xe) (x : Expr), chkX C N sc fb i t x = true → DJ (X.suite a ((a, oe) :: pn)) G i a cls d x (semX Γ t)
  | .of e, x, h => dj_of (snd_ok e ok x h).v
  | .fld c, x, h => by
    unfold chkX at h; unfold semX
    split at h
    · simp only [Bool.and_eq_true] at h
      obtain ⟨h1, h2, h3, h4⟩ := h
      split at h4
      · rename_i nm g e
        have q := of_decide_eq_true h4
        subst q
        obtain ⟨b, sf, fI, T, hf⟩ := hx c nm (some _) e
        have vis := visB_ok h2
        rw [← ok.eS] at vis
        exact dj_fld T.xf T.noN hf (ok.eN ▸ of_decide_eq_true h1) vis (plainN_ok h3).1 (plainN_ok h3).2 hz hd
      · cases h4
    · cases h
  | .bin o u v, x, h => by
    unfold chkX at h; unfold semX
    split at h
    · simp only [Bool.and_eq_true] at h
      obtain ⟨h1, h2, h3⟩ := h
      obtain ⟨r, ho, hk⟩ := ar_all (X := X.suite a ((a, oe) :: pn)) (G := G) o
      rw [of_decide_eq_true h1]
      exact dj_bin ho (dj_ok ok hx hkx hh hz hd u _ h2) (dj_ok ok hx hkx hh hz hd v _ h3) hk
    · cases h
  | .cmp o u v, x, h => by
    unfold chkX at h; unfold semX
    split at h
    · simp only [Bool.and_eq_true] at h
      obtain ⟨h1, h2, h3, h4⟩ := h
      obtain ⟨r, ho, hk⟩ := cm_all (G := G) ok.hu o
      have h5 := of_decide_eq_true h1
      subst h5
      have m : ∀ z, nolookB o.op z = true → behindInMarks o.op z = false := fun z h => by unfold nolookB at h; simpa using h
      exact dj_cmp ho (dj_ok ok hx hkx hh hz hd u _ h3) (dj_ok ok hx hkx hh hz hd v _ h4) (m _ h2) hk
    · cases h
  | .tup2 u v, x, h => by
    unfold chkX at h; unfold semX
    split at h
    · simp only [Bool.and_eq_true] at h
      exact dj_tup2 (dj_ok ok hx hkx hh hz hd u _ h.1) (dj_ok ok hx hkx hh hz hd v _ h.2) (ns_chkX ok u _ h.1) (ns_chkX ok v _ h.2)
    · cases h
  | .bi b u, x, h => by
    unfold chkX at h; unfold semX
    split at h
    · simp only [Bool.and_eq_true] at h
      obtain ⟨h1, h2, h3, h4, h5⟩ := h
      have e1 := of_decide_eq_true h1
      subst e1
      obtain ⟨r, hc, hk⟩ := bi_all (X := X.suite a ((a, oe) :: pn)) (G := G) b (fun hb => by rw [hb] at h2; cases h2) ok.gd ok.hu
      exact dj_call (bi_v b) hc hk (gl_of ok h4) (free_of ok h3) (bi_boot b) (bi_nm b).1 (bi_nm b).2 (dj_ok ok hx hkx hh hz hd u _ h5) (ns_chkX ok u _ h5)
    · cases h
  | .isx hi n ms u v, x, h => by
    unfold chkX at h; unfold semX
    split at h
    · rename_i f p1 nv p2 y p3 p4 z w p5
      simp only [Bool.and_eq_true] at h
      obtain ⟨h1, h2, h3, h4, h5, h6, h7, h8, h9, h10, h11, h12⟩ := h
      have e1 := of_decide_eq_true h1
      subst e1
      have vis := visB_ok h5
      rw [← ok.eS] at vis
      obtain ⟨cv, hcv, hv, hans⟩ := hh hi y ms (of_decide_eq_true h8)
      have hN := ok.eN ▸ of_decide_eq_true h4
      -- the class
      obtain ⟨cd, rc, one⟩ : ∃ cd : V, RelV cd cv ∧ (∀ w, RelV cd w → w = cv) := by
        rcases hv with ⟨q, rfl⟩ | ⟨q, rfl⟩
        · exact ⟨.ref q, rfl, fun w h => h⟩
        · exact ⟨.ty q, rfl, fun w h => h⟩
      have pc : PE (X.suite a ((a, oe) :: pn)) (.Name y p3) (tC cd) := by
        rcases hcv with hm | ⟨hm, hb, hn⟩
        · exact pe_glob (gl_of ok h9) hm rc (plainN_ok h10).1
        · exact pe_bltn (gl_of ok h9) hm hb rc hn (plainN_ok h10).1
      have pcall := pe_callB (pos := p4) (p := p1) (call_isx (X := X) (a := a) (pn := pn) hz hd) (gl_of ok h3) (free_of ok h2) (by decide +kernel) (pa_cons (pe_var (pos := p2) hN vis (plainN_ok h6).1 (plainN_ok h6).2) (pa_cons pc pa_nil rfl) rfl)
      refine pe_impL (pe_ifExp (pt_val pcall (fun _ => rfl)) (dj_ok ok hx hkx hh hz hd u _ h11) (dj_ok ok hx hkx hh hz hd v _ h12)) fun σ H Q hlen ⟨μ, ρ, s, y', rr, re, hi', rx, hf⟩ => ?_
      have hlt : i < σ.length := by
        rw [hlen]
        exact (List.getElem?_eq_some_iff.mp hN).1
      dsimp only at hf
      split at hf
      · rename_i hc
        rw [of_decide_eq_true h7] at hc
        have hdd : d = none ∨ ∃ dd fs, d = some dd ∧ H dd = some (.xd fs) := rx.2.imp (fun q => q.2) fun ⟨dd, fs, q1, q2, _⟩ => ⟨dd, fs, q1, q2⟩
        refine ⟨.ref a, hi' hlt, G.cls y'.c, cd, cv, ms.contains y'.c, rfl, rc, one, rx.1, hdd, (hans y'.c hc).2, hkx y'.c hc, _, rfl, ?_⟩
        split at hf
        · rename_i hb
          rw [if_pos hb]
          exact ⟨μ, ρ, s, y', rr, re, hi', rx, hf⟩
        · rename_i hb
          rw [if_neg hb]
          exact ⟨μ, ρ, s, y', rr, re, hi', rx, hf⟩
      · exact hf.elim
    · cases h
end Fe

set_option maxHeartbeats 4000000
/-! Fe 15: own trees of statements. -/
namespace Fe
open PySem PySem.Spec PyProof.Rows L2
inductive St where
  | pass
  | brk
  | cnt
  | doc
  | expr (e : E)
  | ret (e : E)
  | retN
  | set (i : Nat) (e : E)
  | asg (t : Tp) (e : E)
  | sub (o i e : E)
  | setf (o : E) (f : Str) (e : E)
  | par (is : List Nat) (es : List E)
  | ite (c : E) (a b : List St)
  | for_ (t : Tp) (it : E) (b : List St)
  | whl (n : Nat) (c : E) (b : List St)
  | rais (c : Nat) (fl : Bool) (e : E)
  | tryA (b : List St) (i h n : Nat) (ms : List Nat) (x : Xe)
  | tryN (b : List St) (n : Nat) (hs : List (Nat × List Nat)) (ss : List (List St))
  /-- try: what was handed over is called / except ..: the body of a def that takes a lambda -/
  | met (r : Bool) (n : Nat) (hs : List (Nat × List Nat × Nat × Xe))
def parS (is : List Nat) (ds : List D) (ρ : Env) (s : S) : SOut := match is, ds with
  | [i, j], [d, e] => .nx ((ρ.set i (some d)).set j (some e)) s
  | [i, j, l], [d, e, f] => .nx (((ρ.set i (some d)).set j (some e)).set l (some f)) s
  | _, _ => .bad
def subS (f g : Env → S → Out D) (d : D) (ρ : Env) (s : S) : TOut := okO (f ρ s) fun x s => okO (g ρ s) fun y s => match setIx x y d s with
  | some s => some (ρ, s)
  | none => none
def noExc : SOut → SOut
  | .exc _ _ _ => .bad
  | o => o
/-- the first clause that takes class c -/
def pickH : List (Nat × List Nat) → List (Env → S → SOut) → Nat → Option (Env → S → SOut)
  | h :: hs, f :: fs, c => if h.2.contains c = true then some f else pickH hs fs c
  | _, _, _ => none
/-- the first clause that takes class c: where its name stands, what it returns -/
def pickM : List (Nat × List Nat × Nat × Xe) → Nat → Option Xe
  | [], _ => none
  | h :: hs, c => if h.2.1.contains c = true then some h.2.2.2 else pickM hs c
def metS (Γ : Nat → List D → S → Out D) (r : Bool) (n : Nat) (hs : List (Nat × List Nat × Nat × Xe)) (m : Nat) (d : D) (s : S) : SOut := match d with
  | .tup [d] => if r = true then .rt d s else .nx (List.replicate m none) s
  | .tup [.int c, .tup ds] => if c.toNat < n then (match pickM hs c.toNat with
    | some x => (match semX Γ x ⟨c.toNat, ds⟩ (List.replicate m none) s with | .ok d s => .rt d s | _ => .bad)
    | none => .bad) else .bad
  | _ => .bad
mutual
def exec (Γ : Nat → List D → S → Out D) : St → Env → S → SOut
  | .pass => fun ρ s => .nx ρ s
  | .brk => fun ρ s => .bk ρ s
  | .cnt => fun ρ s => .ct ρ s
  | .doc => fun ρ s => .nx ρ s
  | .expr e => fun ρ s => lift ((sem Γ e).v ρ s) ρ fun _ s => .nx ρ s
  | .ret e => fun ρ s => lift ((sem Γ e).v ρ s) ρ fun d s => .rt d s
  | .retN => fun ρ s => .rt .non s
  | .set i e => fun ρ s => lift ((sem Γ e).v ρ s) ρ fun d s => .nx (ρ.set i (some d)) s
  | .asg t e => fun ρ s => lift ((sem Γ e).v ρ s) ρ fun d s => liftT (bnd t d ρ s)
  | .sub o i e => fun ρ s => lift ((sem Γ e).v ρ s) ρ fun d s => liftT (subS (sem Γ o).v (sem Γ i).v d ρ s)
  | .setf o f e => fun ρ s => lift ((sem Γ e).v ρ s) ρ fun y s => lift ((sem Γ o).v ρ s) ρ fun d s => match setV f d y s with | some s' => .nx ρ s' | none => .bad
  | .par is es => fun ρ s => lift (argsV (sems Γ es) ρ s) ρ fun ds s => parS is ds ρ s
  | .ite c a b => fun ρ s => lift ((sem Γ c).t ρ s) ρ fun k s => if k = true then execs Γ a ρ s else execs Γ b ρ s
  | .for_ t it b => fun ρ s => lift ((sem Γ it).i ρ s) ρ fun c s => forW c.live (bnd t) (execs Γ b) c.ds ρ s
  | .whl n c b => whW (sem Γ c).t (execs Γ b) n
  | .rais c fl e => fun ρ s => lift ((sem Γ e).v ρ s) ρ fun d s => .exc ⟨c, if fl = true then [d] else []⟩ ρ s
  | .tryA b i _ n ms x => fun ρ s => match execs Γ b ρ s with
    | .exc y ρ' s' => if y.c < n then (if ms.contains y.c = true then (match semX Γ x y (ρ'.set i none) s' with | .ok d s => .rt d s | _ => .bad) else .exc y ρ' s') else .bad
    | o => o
  | .tryN b n hs ss => fun ρ s => match execs Γ b ρ s with
    | .exc y ρ' s' => if y.c < n then (match pickH hs (execss Γ ss) y.c with | some f => noExc (f ρ' s') | none => .exc y ρ' s') else .bad
    | o => o
  | .met r n hs => fun ρ s => match ρ[0]? with
    | some (some d) => metS Γ r n hs ρ.length d s
    | _ => .bad
def execss (Γ : Nat → List D → S → Out D) : List (List St) → List (Env → S → SOut)
  | [] => []
  | b :: bs => execs Γ b :: execss Γ bs
def execs (Γ : Nat → List D → S → Out D) : List St → Env → S → SOut
  | [] => fun ρ s => .nx ρ s
  | st :: sts => fun ρ s => (exec Γ st ρ s).seq (execs Γ sts)
end

/-! ### the check -/
def swF (sc : Scope) (ts vs : List Expr) : Option (Option (List Str)) :=
  if !(ts.length == 2 || ts.length == 3) || vs.length != ts.length then some none
  else if vs.any fun | .Starred .. => true | _ => false then some none
  else
    let line := (ts.head?.map (·.pos.line)).getD 0
    let names := ts.filterMap fun
      | .Name id pos => if sc.names.lookup id == some .local && pos.line == line then some id else none
      | _ => none
    if names.length != ts.length || names.eraseDups.length != names.length then some none
    else if vs.all (foldedForSure 8) then some none
    else if vs.all (constantsAlone 8) then none
    else some (some names)
theorem swF_ok {sc : Scope} {ts vs : List Expr} {k k2 : Nat} {p p2 : Pos} {env : PySem.Env} {r : Option (List Str)} (e : env.scope = sc) (hb : env.blockKind = .function) (h : swF sc ts vs = some r) : swappedStores [.Tuple ts k p] (.Tuple vs k2 p2) env = pure r := by
  subst e
  unfold swappedStores
  dsimp only
  unfold swF at h
  have hk : (env.blockKind != ScopeKind.function) = false := by rw [hb]; rfl
  rw [hk, Bool.or_false]
  split at h
  · rename_i c
    cases h
    exact if_pos (show _ from c)
  · rename_i c
    refine (if_neg (show ¬ _ from c)).trans ?_
    split at h
    · rename_i c
      cases h
      exact if_pos (show _ from c)
    · rename_i c
      refine (if_neg (show ¬ _ from c)).trans ?_
      dsimp only at h
      split at h
      · rename_i c
        cases h
        exact if_pos (show _ from c)
      · rename_i c
        refine (if_neg (show ¬ _ from c)).trans ?_
        split at h
        · rename_i c
          cases h
          exact if_pos (show _ from c)
        · rename_i c
          refine (if_neg (show ¬ _ from c)).trans ?_
          split at h
          · cases h
          · rename_i c
            cases h
            exact if_neg (show ¬ _ from c)
theorem sw_none {tg e : Expr} {env : PySem.Env} (h : (match tg, e with | .Tuple .., .Tuple .. => false | .List .., .Tuple .. => false | _, _ => true) = true) : swappedStores [tg] e env = pure none := by
  unfold swappedStores
  split
  · rename_i ts vs hh
    split at hh
    · rename_i q1
      simp only [List.cons.injEq, and_true] at q1
      subst q1
      cases h
    · rename_i q1
      simp only [List.cons.injEq, and_true] at q1
      subst q1
      cases h
    · cases hh
  · rfl
def swNone (sc : Scope) (tg e : Expr) : Bool := match tg, e with
  | .Tuple ts _ _, .Tuple vs _ _ => decide (swF sc ts vs = some none)
  | .List .., .Tuple .. => false
  | _, _ => true
theorem swNone_ok {sc : Scope} {tg e : Expr} {env : PySem.Env} (es : env.scope = sc) (hb : env.blockKind = .function) (h : swNone sc tg e = true) : swappedStores [tg] e env = pure none := by
  unfold swNone at h
  split at h
  · exact swF_ok es hb (of_decide_eq_true h)
  · cases h
  · rename_i a b
    apply sw_none
    split
    · exact (a _ _ _ _ _ _ rfl rfl).elim
    · exact (b _ _ _ _ _ rfl rfl).elim
    · rfl
/-- the comprehension that a local name on its line takes -/
def lcLine (sc : Scope) (y : Str) (py : Pos) : Expr → Bool
  | .ListComp _ _ scope pos => (decide (sc.names.lookup y = some .local) && (py.line == pos.line)) && !(scope.names.any fun (n, k) => n == y && (k == .local || k == .cell))
  | _ => false
mutual
def chkS (C : Ck) (N : List Str) (sc : Scope) (fb : Str → Bool) : St → Stmt → Bool
  | .pass, x => match x with
    | .Pass _ => true
    | _ => false
  | .brk, x => match x with
    | .Break _ => true
    | _ => false
  | .cnt, x => match x with
    | .Continue _ => true
    | _ => false
  | .doc, x => match x with
    | .Expr (.Constant (.str _) _ _) _ => true
    | _ => false
  | .expr e, x => match x with
    | .Expr y _ => notComp y && chkE C N sc fb e y
    | _ => false
  | .ret e, x => match x with
    | .Return (some y) _ => chkE C N sc fb e y
    | _ => false
  | .retN, x => match x with
    | .Return none _ => true
    | _ => false
  | .set i e, x => match x with
    | .Assign [.Name y py] z _ => decide (N[i]? = some y) && (locB sc fb y && ((notComp z || (lcLine sc y py z || decide (sc.names.lookup y = some .cell))) && chkE C N sc fb e z))
    | _ => false
  | .asg t e, x => match x with
    | .Assign [tg] z _ => (C.calm && chkP N sc fb none t tg) && (notComp z && (swNone sc tg z && chkE C N sc fb e z))
    | _ => false
  | .sub o i e, x => match x with
    | .Assign [.Subscript u v _] z _ => notSlice v && (chkE C N sc fb o u && (chkE C N sc fb i v && chkE C N sc fb e z))
    | _ => false
  | .setf o f e, x => match x with
    | .Assign [.Attribute u n _] z _ => decide (n = f) && (chkE C N sc fb o u && chkE C N sc fb e z)
    | _ => false
  | .par is es, x => match x with
    | .Assign [.Tuple [.Name a _, .Name b _] _ _] (.Tuple [u, v] _ _) _ => (match is with
      | [i, j] => decide (N[i]? = some a ∧ C.calm = true) && (decide (N[j]? = some b) && (decide (i ≠ j) && (decide (sc.names.lookup a = some .local) && (decide (sc.names.lookup b = some .local) && chkEs C N sc fb es [u, v]))))
      | _ => false) && (match x with | .Assign [.Tuple ts _ _] (.Tuple vs _ _) _ => decide (swF sc ts vs = some (some [a, b])) | _ => false)
    | .Assign [.Tuple [.Name a _, .Name b _, .Name c _] _ _] (.Tuple [u, v, w] _ _) _ => (match is with
      | [i, j, l] => decide (N[i]? = some a ∧ C.calm = true) && (decide (N[j]? = some b) && (decide (N[l]? = some c) && (decide (i ≠ j) && (decide (i ≠ l) && (decide (j ≠ l) && (decide (sc.names.lookup a = some .local) && (decide (sc.names.lookup b = some .local) && (decide (sc.names.lookup c = some .local) && chkEs C N sc fb es [u, v, w]))))))))
      | _ => false) && (match x with | .Assign [.Tuple ts _ _] (.Tuple vs _ _) _ => decide (swF sc ts vs = some (some [a, b, c])) | _ => false)
    | _ => false
  | .ite c a b, x => match x with
    | .If y u v _ => chkE C N sc fb c y && (chkSs C N sc fb a u && chkSs C N sc fb b v)
    | _ => false
  | .for_ t it b, x => match x with
    | .For tg iter u [] _ => (C.calm && chkP N sc fb none t tg) && ((notSet iter && okT iter tg) && (chkE C N sc fb it iter && chkSs C N sc fb b u))
    | _ => false
  | .whl n c b, x => match x with
    | .While y u [] _ => chkE C N sc fb c y && chkSs C N sc fb b u
    | _ => false
  | .rais c fl e, x => match x with
    | .Raise (some (.Call (.Name y _) [z] [] _)) none _ => C.calm && (gloB sc y && (plainN y && ((match C.exc[c]? with | some (u, fo) => decide (u = y ∧ fo.isSome = fl) | none => false) && chkE C N sc fb e z)))
    | _ => false
  | .tryA b i h n ms t, x => match x with
    | .Try body [.ExceptHandler (some (.Name y _)) (some u) [.Return (some z) _] _] [] [] _ => decide (n = C.exc.length ∧ C.hds[h]? = some (y, ms)) && (gloB sc y && (plainN y && (decide (N[i]? = some u ∧ sc.names.lookup u = some .local) && (chkSs C N sc fb b body && chkX C N sc fb i t z))))
    | _ => false
  | .tryN b n hs ss, x => match x with
    | .Try body (hd :: hds) [] [] _ => decide (n = C.exc.length) && (chkSs C N sc fb b body && chkHs C N sc fb hs ss (hd :: hds))
    | _ => false
  | .met _ _ _, _ => false
def chkHs (C : Ck) (N : List Str) (sc : Scope) (fb : Str → Bool) : List (Nat × List Nat) → List (List St) → List ExceptHandler → Bool
  | hs, [], xs => match hs, xs with
    | [], [] => true
    | _, _ => false
  | hs, b :: bs, xs => match hs, xs with
    | h :: hs, (.ExceptHandler (some (.Name y _)) none (z :: zs) _) :: ys => decide (C.hds[h.1]? = some (y, h.2)) && (gloB sc y && (plainN y && (chkSs C.quiet N sc fb b (z :: zs) && chkHs C N sc fb hs bs ys)))
    | _, _ => false
def chkSs (C : Ck) (N : List Str) (sc : Scope) (fb : Str → Bool) : List St → List Stmt → Bool
  | [], xs => match xs with
    | [] => true
    | _ => false
  | st :: sts, xs => match xs with
    | y :: ys => chkS C N sc fb st y && chkSs C N sc fb sts ys
    | _ => false
end

section
variable {G : Gc} {C : Ck} {Γ : Nat → List D → S → Out D} {N : List Str} {X : Cx} {sc : Scope} {fb : Str → Bool} {W : WX}
/-- what statements need besides -/
structure Oks (C : Ck) (Γ : Nat → List D → S → Out D) (N : List Str) (sc : Scope) (fb : Str → Bool) (X : Cx) (G : Gc) (W : WX) : Prop extends Okx C Γ N sc fb X G W where
  bk : X.env.blockKind = .function
  po : PassesOwn (model X.prog X.w) X.A X.env X.xe
  stk : X.stack = X.env :: X.outer
  frm : X.env.frame = some X.env.locals
  exs : ∀ (c : Nat) (x : Str) (fo : Option Str), C.exc[c]? = some (x, fo) → ExUse X G c x fo
  hdl : ∀ (h : Nat) (x : Str) (ms : List Nat), C.hds[h]? = some (x, ms) → ∃ cv, (X.mg x = some cv ∨ (X.mg x = none ∧ bootBuiltins x = some cv ∧ x ≠ "__name__")) ∧ HdV cv ∧ ∀ k, k < C.exc.length → HdAns X.K (.ref (G.cls k)) cv (ms.contains k)
  kxs : ∀ c, c < C.exc.length → KxF X.K (G.cls c)
  rm : C.calm = true → ∃ k, Room k X.A
theorem Oks.tr (ok : Oks C Γ N sc fb X G W) {W' : WX} {pn : List (Addr × Obj)} {xe : Value → Shared → Prop} (tk : Takes (X.tr pn xe) W') (po : PassesOwn (model X.prog X.w) X.A X.env xe) : Oks C Γ N sc fb (X.tr pn xe) G W' :=
  ⟨⟨ok.eN, ok.eS, ok.eF, ok.nd, ok.calm, tk, ok.hu, ok.gd, ok.fns, ok.lms, ok.lam, ok.cons, ok.free⟩, ok.bk, po, ok.stk, ok.frm, ok.exs, ok.hdl, ok.kxs, ok.rm⟩
theorem Oks.quiet (ok : Oks C Γ N sc fb X G W) {a : Addr} {pn : List (Addr × Obj)} : Oks C.quiet Γ N sc fb (X.suite a pn) G noX :=
  ⟨⟨ok.eN, ok.eS, ok.eF, ok.nd, fun h => (nomatch (show false = true from h)), fun u s' ⟨_, _, _, _, _, _, _, _, _, _, _, _, _, _, _, _, w⟩ => w.elim, ok.hu, ok.gd, fun f kd x n h => by simp [Ck.quiet] at h, fun h => (h rfl).elim, fun me h => (by cases h), ok.cons, ok.free⟩, ok.bk, PassesOwn.never, ok.stk, ok.frm, ok.exs, ok.hdl, ok.kxs, fun h => (nomatch (show false = true from h))⟩
theorem Oks.names (ok : Oks C Γ N sc fb X G W) {h : Nat} {y : Str} {ms : List Nat} (e : C.hds[h]? = some (y, ms)) (g : gloB sc y = true) (p : plainN y = true) : ∃ cv, Names X y cv ∧ ∀ k, k < C.exc.length → PySem.W.exmOne X.K (.ref (G.cls k)) cv = some (ms.contains k) := by
  obtain ⟨cv, h1, _, h2⟩ := ok.hdl h y ms e
  exact ⟨cv, ⟨gl_of ok.toOkx g, (plainN_ok p).1, h1⟩, fun k hk => (h2 k hk).1⟩
theorem RelEnv.forget {K : PySem.W.Frag} {μ : List Addr} {H : Hp} {ρ : Env} {σ : L2.St} {i : Nat} {o : Option V} (re : RelEnv K μ H ρ σ) : RelEnv K μ H (ρ.set i none) (σ.set i o) := by
  refine ⟨by simp [re.1], fun j e h => ?_⟩
  by_cases hj : j = i
  · subst hj
    by_cases hl : j < ρ.length
    · rw [List.getElem?_set_self hl] at h; cases h
    · rw [List.getElem?_eq_none (by simpa using hl)] at h; cases h
  · rw [List.getElem?_set_ne (Ne.symm hj)] at h
    obtain ⟨u, e1, r1⟩ := re.2 j e h
    exact ⟨u, by rw [List.getElem?_set_ne (Ne.symm hj)]; exact e1, r1⟩
theorem snds_two {u v : Expr} {ms : List Sm} (h : Snds X G W [u, v] ms) : DA X G W [u, v] (argsV ms) := h.args
theorem cell_swap {sc : Scope} {y : Str} {py : Pos} {line : Nat} {z : Expr} {env : PySem.Env} (es : env.scope = sc) (h : sc.names.lookup y = some .cell) : swapsWith z (some (.Name y py)) line env = pure false := by
  have e1 : (env.kindOf y == some NameKind.local) = false := by
    unfold PySem.Env.kindOf
    rw [es, h]; rfl
  unfold swapsWith
  cases z <;> first | rfl | (dsimp only; rw [e1, Bool.and_false, Bool.false_and, Bool.false_and])
theorem lc_swap {sc : Scope} {y : Str} {py spos : Pos} {elt : Expr} {gs : List Comprehension} {scope : Scope} {pos : Pos} {env : PySem.Env} (es : env.scope = sc) (hb : env.blockKind = .function) (h : lcLine sc y py (.ListComp elt gs scope pos) = true) :
    swapsWith (.ListComp elt gs scope pos) (some (.Name y py)) spos.line env = pure true := by
  unfold lcLine at h
  unfold swapsWith
  simp only [Bool.and_eq_true] at h
  obtain ⟨⟨h1, h2⟩, h3⟩ := h
  dsimp only
  have e1 : (env.kindOf y == some NameKind.local) = true := by
    unfold PySem.Env.kindOf
    rw [es, of_decide_eq_true h1]; rfl
  have e2 : (py.line == (Expr.ListComp elt gs scope pos).pos.line) = true := h2
  rw [hb, e1, e2, h3]
  rfl
end
end Fe

set_option maxHeartbeats 4000000
/-! Fe 16: checked statements do what their trees do. -/
namespace Fe
open PySem PySem.Spec PyProof.Rows L2
theorem sw_sub {o i : Expr} {p : Pos} {line : Nat} {env : PySem.Env} (e : Expr) : swapsWith e (some (.Subscript o i p)) line env = pure false := by cases e <;> rfl
theorem ds_asgS {X : Cx} {G : Gc} {W : WX} {o i e : Expr} {p pos : Pos} {f : Env → S → Out D} {g : D → Env → S → TOut} (he : DE X G W e f) (hg : DG X (.Subscript o i p) g) (hs : notStar (.Subscript o i p) = true) (hw : swappedStores [.Subscript o i p] e X.env = pure none) : DS X G W (.Assign [.Subscript o i p] e pos) (fun ρ s => lift (f ρ s) ρ fun d s => liftT (g d ρ s)) :=
  ps_imp (ps_asg he hg (sw_sub (o := o) (i := i) (p := p) (line := pos.line) (env := X.env) e) hw (by rw [asg_ns hs]; rfl)) fun D σ H ⟨μ, ρ, s, r, re, h⟩ => dS1 (e := e) r re h fun d s1 μ1 H1 v x1 r1 re1 rv h1 => ⟨μ1, ρ, s1, d, r1, re1, rv, h1.ofT⟩
section
variable {G : Gc} {C : Ck} {Γ : Nat → List D → S → Out D} {N : List Str}
theorem set_lc {X : Cx} {sc : Scope} {fb : Str → Bool} {W : WX} (ok : Oks C Γ N sc fb X G W) {i : Nat} {y : Str} {py spos : Pos} {e : E} {z : Expr} (hi : N[i]? = some y) (hl : lcLine sc y py z = true) (h : chkE C N sc fb e z = true) :
    DS X G W (.Assign [.Name y py] z spos) (fun ρ s => lift ((sem Γ e).v ρ s) ρ fun d s => .nx (ρ.set i (some d)) s) := by
  have hl0 := hl
  cases z with
  | ListComp elt gs scope pos =>
    cases e with
    | lc e t it c own =>
      unfold chkE at h; unfold sem
      split at h
      · rename_i elt' tg iter ifs as scope' pos' q
        cases q
        simp only [Bool.and_eq_true] at h
        obtain ⟨h1, h2, h3, h4, h5, h6, h7⟩ := h
        obtain ⟨e1, hcm⟩ := of_decide_eq_true h1
        have calm := ok.calm hcm
        subst e1
        have bk := blkB_ok h4
        rw [← ok.eN, ← ok.eS] at bk
        unfold lcLine at hl
        simp only [Bool.and_eq_true] at hl
        have loc := of_decide_eq_true hl.1.1
        rw [← ok.eS] at loc
        have q := ds_setLc (X := X) (G := G) (W := W) (pos := pos) (spos := spos) (elt := elt) (ifs := ifs) (ow := ownOf _ own) (bind := bnd t) (ft := (sem Γ c).t) (fe := (sem Γ e).v) calm (ok.eN ▸ ok.nd) (ok.eN ▸ hi) loc (lc_swap ok.eS ok.bk hl0) ((snd_ok it ok.toOkx _ h2).i tg h3.2) bk
          (fun s H A cl fp => by
            have okb := ok.toOkx.blk s H scope A cl fp
            rw [ownOf_snd]
            exact bndw_ok okb.eN okb.eS okb.eF okb.nd (okb.calm hcm) t tg h5)
          (fun s H A cl fp => by
            have okb := ok.toOkx.blk s H scope A cl fp
            cases ifs with
            | nil =>
              cases c with
              | no => unfold sem; exact dts_nil
              | _ => cases h7
            | cons z zs =>
              cases zs with
              | nil => exact dts_one (snd_ok c okb z h7).t
              | cons _ _ => cases h7)
          (fun s H A cl fp => (snd_ok e (ok.toOkx.blk s H scope A cl fp) elt h6).v) h3.1
        rw [ownOf_snd] at q
        exact q
      · cases h
    | lc2 e t it c t1 it1 c1 own vs1 =>
      unfold chkE at h; unfold sem
      split at h
      · rename_i elt' tg iter ifs as tg1 iter1 ifs1 as1 scope' pos' q
        cases q
        simp only [Bool.and_eq_true] at h
        obtain ⟨h1, h2, h3, h4, h5, h6, h7, h8, h9, h10, h11, h12, h13⟩ := h
        obtain ⟨e1, hcm⟩ := of_decide_eq_true h1
        have calm := ok.calm hcm
        have e2 := of_decide_eq_true h2
        subst e1 e2
        have bk := blkB_ok h6
        rw [← ok.eN, ← ok.eS] at bk
        unfold lcLine at hl
        simp only [Bool.and_eq_true] at hl
        have loc := of_decide_eq_true hl.1.1
        rw [← ok.eS] at loc
        have q := ds_setLc2 (X := X) (G := G) (W := W) (pos := pos) (spos := spos) (elt := elt) (ifs := ifs) (ifs1 := ifs1) (ow := ownOf _ own) (vs1 := vs1) (bind := bnd t) (bind1 := bnd t1) (ft := (sem Γ c).t) (ft1 := (sem Γ c1).t) (fe := (sem Γ e).v) (fi1 := (sem Γ it1).i) calm (ok.eN ▸ ok.nd) (ok.eN ▸ hi) loc (lc_swap ok.eS ok.bk hl0) ((snd_ok it ok.toOkx _ h3).i tg h4.2) bk
          (fun i hi => by rw [ownOf_snd]; exact List.contains_iff_mem.mp (List.all_eq_true.mp h7 i hi))
          (fun s H A cl fp => by
            have okb := ok.toOkx.blk s H scope A cl fp
            rw [ownOf_snd]
            exact bndw_ok okb.eN okb.eS okb.eF okb.nd (okb.calm hcm) t tg h8)
          (fun s H A cl fp => by
            have okb := ok.toOkx.blk s H scope A cl fp
            cases ifs with
            | nil =>
              cases c with
              | no => unfold sem; exact dts_nil
              | _ => cases h12
            | cons z zs =>
              cases zs with
              | nil => exact dts_one (snd_ok c okb z h12).t
              | cons _ _ => cases h12)
          (fun s H A cl fp => (snd_ok it1 (ok.toOkx.blk s H scope A cl fp) iter1 h10).i tg1 h5.2)
          (fun s H A cl fp => by
            have okb := ok.toOkx.blk s H scope A cl fp
            exact bndw_ok okb.eN okb.eS okb.eF okb.nd (okb.calm hcm) t1 tg1 h9)
          (fun s H A cl fp => by
            have okb := ok.toOkx.blk s H scope A cl fp
            cases ifs1 with
            | nil =>
              cases c1 with
              | no => unfold sem; exact dts_nil
              | _ => cases h13
            | cons z zs =>
              cases zs with
              | nil => exact dts_one (snd_ok c1 okb z h13).t
              | cons _ _ => cases h13)
          (fun s H A cl fp => (snd_ok e (ok.toOkx.blk s H scope A cl fp) elt h11).v) h4.1 h5.1
        rw [ownOf_snd] at q
        exact q
      · cases h
    | _ => unfold chkE at h; cases h
  | _ => cases hl
theorem sfin_noExc {K : PySem.W.Frag} {μ : List Addr} {H : Hp} {W W' : WX} {o : SOut} {D : Ends} (h : SFin K G μ H W (noExc o) D) : SFin K G μ H W' o D := by
  cases o with
  | exc c ρ s => exact h.elim
  | bad => exact h.elim
  | _ => exact h
/-- what the clauses wish: ready lists -/
def tsOf (K : PySem.W.Frag) (G : Gc) (f : Env → S → SOut) : Addr → Value → Option Addr → TS := fun _ _ _ => tS K G noX f
inductive HsOk (X : Cx) (G : Gc) (n : Nat) : List (Nat × List Nat) → List (Env → S → SOut) → List (Value × (Addr → Value → Option Addr → TS)) → Prop
  | nil : HsOk X G n [] [] []
  | cons {h hs f fs cv l} : (∀ k, k < n → PySem.W.exmOne X.K (.ref (G.cls k)) cv = some (h.2.contains k)) → HsOk X G n hs fs l → HsOk X G n (h :: hs) (f :: fs) ((cv, tsOf X.K G f) :: l)
theorem many_red {X : Cx} {W : WX} {n : Nat} {D : Ends} {y : Xc} {cls : Value} {dd : Option Addr} {μ : List Addr} {H : Hp} {σ : L2.St} {ρ : Env} {s : S} (hn : y.c < n) (r : Rel X.K μ H s) (re : RelEnv X.K μ H ρ σ) (rx : RelX X.K G μ H y cls dd) :
    ∀ {hs : List (Nat × List Nat)} {fs : List (Env → S → SOut)} {l : List (Value × (Addr → Value → Option Addr → TS))}, HsOk X G n hs fs l →
      SFin X.K G μ H W (match pickH hs fs y.c with | some f => noExc (f ρ s) | none => .exc y ρ s) D → wMany X.K W D l cls dd σ H
  | _, _, _, .nil, h => h cls dd μ H σ (.refl _ _) r re rx
  | _, _, _, .cons (h := hh) (f := f) e t, h => by
    refine ⟨hh.2.contains y.c, by rw [rx.1]; exact e y.c hn, fun hb a na => ?_, fun hb => ?_⟩
    · unfold pickH at h
      rw [if_pos hb] at h
      exact ⟨μ, ρ, s, r, re, sfin_noExc h⟩
    · unfold pickH at h
      rw [if_neg (by rw [hb]; decide)] at h
      exact many_red hn r re rx t h
mutual
theorem exec_ok : ∀ (st : St) {C : Ck} {X : Cx} {sc : Scope} {fb : Str → Bool} {W : WX} (_ : Oks C Γ N sc fb X G W) (x : Stmt), chkS C N sc fb st x = true → DS X G W x (exec Γ st)
  | .pass, _, _, _, _, _, ok, x, h => by
    unfold chkS at h; unfold exec
    split at h
    · exact ds_pass
    · cases h
  | .brk, _, _, _, _, _, ok, x, h => by
    unfold chkS at h; unfold exec
    split at h
    · exact ds_break
    · cases h
  | .cnt, _, _, _, _, _, ok, x, h => by
    unfold chkS at h; unfold exec
    split at h
    · exact ds_cont
    · cases h
  | .doc, _, _, _, _, _, ok, x, h => by
    unfold chkS at h; unfold exec
    split at h
    · exact ds_doc
    · cases h
  | .expr e, _, _, _, _, _, ok, x, h => by
    unfold chkS at h; unfold exec
    split at h
    · simp only [Bool.and_eq_true] at h
      exact ds_expr (snd_ok e ok.toOkx _ h.2).v h.1
    · cases h
  | .ret e, _, _, _, _, _, ok, x, h => by
    unfold chkS at h; unfold exec
    split at h
    · exact ds_ret (snd_ok e ok.toOkx _ h).v
    · cases h
  | .retN, _, _, _, _, _, ok, x, h => by
    unfold chkS at h; unfold exec
    split at h
    · exact ds_retN
    · cases h
  | .set i e, _, _, _, _, _, ok, x, h => by
    unfold chkS at h; unfold exec
    split at h
    · simp only [Bool.and_eq_true, Bool.or_eq_true] at h
      obtain ⟨h1, h2, h3, h4⟩ := h
      have hi := of_decide_eq_true h1
      rcases h3 with h3 | h3
      · obtain ⟨a, b⟩ := locB_ok h2
        rw [← ok.eS] at a b
        exact ds_set (ok.eN ▸ ok.nd) (ok.eN ▸ hi) a (b.imp (ok.eF _) id) (snd_ok e ok.toOkx _ h4).v h3
      · rcases h3 with h3 | h3
        · exact set_lc ok hi h3 h4
        · obtain ⟨a, b⟩ := locB_ok h2
          rw [← ok.eS] at a b
          exact ds_setS (ok.eN ▸ ok.nd) (ok.eN ▸ hi) a (b.imp (ok.eF _) id) (snd_ok e ok.toOkx _ h4).v (cell_swap ok.eS (of_decide_eq_true h3))
    · cases h
  | .asg t e, _, _, _, _, _, ok, x, h => by
    unfold chkS at h; unfold exec
    split at h
    · obtain ⟨h1, h⟩ := band h
      simp only [Bool.and_eq_true] at h
      obtain ⟨h2, h3, h4⟩ := h
      have q := bnd_ok ok.eN ok.eS ok.eF ok.nd (ok.calm (band h1).1) t _ (band h1).2
      exact ds_asg (snd_ok e ok.toOkx _ h4).v q.1 q.2 (swNone_ok ok.eS ok.bk h3) h2
    · cases h
  | .sub o i e, _, _, _, _, _, ok, x, h => by
    unfold chkS at h; unfold exec
    split at h
    · simp only [Bool.and_eq_true] at h
      obtain ⟨h1, h3, h4, h5⟩ := h
      exact ds_asgS (snd_ok e ok.toOkx _ h5).v (dg_sub (snd_ok o ok.toOkx _ h3).v (snd_ok i ok.toOkx _ h4).v h1) rfl (sw_none rfl)
    · cases h
  | .setf o f e, _, _, _, _, _, ok, x, h => by
    unfold chkS at h; unfold exec
    split at h
    · simp only [Bool.and_eq_true] at h
      obtain ⟨h1, h2, h3⟩ := h
      have e1 := of_decide_eq_true h1
      subst e1
      exact ds_fld (snd_ok e ok.toOkx _ h3).v (snd_ok o ok.toOkx _ h2).v
    · cases h
  | .par is es, _, _, _, _, _, ok, x, h => by
    unfold chkS at h; unfold exec
    split at h
    · rw [Bool.and_eq_true] at h
      obtain ⟨h, hsw⟩ := h
      dsimp only at hsw
      split at h
      · simp only [Bool.and_eq_true] at h
        obtain ⟨h1, h2, h3, h4, h5, h6⟩ := h
        have q4 := of_decide_eq_true h4
        have q5 := of_decide_eq_true h5
        rw [← ok.eS] at q4 q5
        refine ps_imp (ds_par2 (ok.calm (of_decide_eq_true h1).2) (ok.eN ▸ ok.nd) (ok.eN ▸ (of_decide_eq_true h1).1) (ok.eN ▸ of_decide_eq_true h2) (of_decide_eq_true h3) q4 q5 (snds_ok es ok.toOkx _ h6).args (swF_ok ok.eS ok.bk (of_decide_eq_true hsw))) fun D σ H ⟨μ, ρ, s, r, re, hh⟩ => ⟨μ, ρ, s, r, re, ?_⟩
        refine Eq.mp (congrArg (fun o => SFin _ G μ H _ o D) ?_) hh
        refine congrArg (lift (argsV (sems Γ es) ρ s) ρ) (funext fun ds => funext fun s => ?_)
        rcases ds with _ | ⟨d, _ | ⟨e, _ | ⟨f, t⟩⟩⟩ <;> rfl
      · cases h
    · rw [Bool.and_eq_true] at h
      obtain ⟨h, hsw⟩ := h
      dsimp only at hsw
      split at h
      · simp only [Bool.and_eq_true] at h
        obtain ⟨h1, h2, h3, h4, h5, h6, h7, h8, h9, h10⟩ := h
        have q7 := of_decide_eq_true h7
        have q8 := of_decide_eq_true h8
        have q9 := of_decide_eq_true h9
        rw [← ok.eS] at q7 q8 q9
        refine ps_imp (ds_par3 (ok.calm (of_decide_eq_true h1).2) (ok.eN ▸ ok.nd) (ok.eN ▸ (of_decide_eq_true h1).1) (ok.eN ▸ of_decide_eq_true h2) (ok.eN ▸ of_decide_eq_true h3) (of_decide_eq_true h4) (of_decide_eq_true h5) (of_decide_eq_true h6) q7 q8 q9 (snds_ok es ok.toOkx _ h10).args (swF_ok ok.eS ok.bk (of_decide_eq_true hsw))) fun D σ H ⟨μ, ρ, s, r, re, hh⟩ => ⟨μ, ρ, s, r, re, ?_⟩
        refine Eq.mp (congrArg (fun o => SFin _ G μ H _ o D) ?_) hh
        refine congrArg (lift (argsV (sems Γ es) ρ s) ρ) (funext fun ds => funext fun s => ?_)
        rcases ds with _ | ⟨d, _ | ⟨e, _ | ⟨f, _ | ⟨g, t⟩⟩⟩⟩ <;> rfl
      · cases h
    · cases h
  | .ite c a b, _, _, _, _, _, ok, x, h => by
    unfold chkS at h; unfold exec
    split at h
    · simp only [Bool.and_eq_true] at h
      obtain ⟨h1, h2, h3⟩ := h
      exact ds_if (snd_ok c ok.toOkx _ h1).t (execs_ok a ok _ h2) (execs_ok b ok _ h3)
    · cases h
  | .for_ t it b, _, _, _, _, _, ok, x, h => by
    unfold chkS at h; unfold exec
    split at h
    · obtain ⟨h1, h⟩ := band h
      simp only [Bool.and_eq_true] at h
      obtain ⟨h2, h3, h4⟩ := h
      exact ds_for ok.po (ok.calm (band h1).1) ((snd_ok it ok.toOkx _ h3).i _ h2.2) (bnd_ok ok.eN ok.eS ok.eF ok.nd (ok.calm (band h1).1) t _ (band h1).2).1 (execs_ok b ok _ h4) h2.1
    · cases h
  | .whl n c b, _, _, _, _, _, ok, x, h => by
    unfold chkS at h; unfold exec
    split at h
    · simp only [Bool.and_eq_true] at h
      exact ds_while ok.po (snd_ok c ok.toOkx _ h.1).t (execs_ok b ok _ h.2)
    · cases h
  | .rais c fl e, C, X, _, _, _, ok, x, h => by
    unfold chkS at h; unfold exec
    split at h
    · simp only [Bool.and_eq_true] at h
      obtain ⟨h1, h2, h3, h4, h5⟩ := h
      obtain ⟨k, room⟩ := ok.rm h1
      split at h4
      · rename_i u fo ec
        obtain ⟨e1, e2⟩ := of_decide_eq_true h4
        subst e1
        have use := ok.exs c _ fo ec
        have q := snd_ok e ok.toOkx _ h5
        cases fo with
        | some f =>
          obtain ⟨b, sf, fI, T, hf⟩ := use
          have e3 : fl = true := e2.symm
          subst e3
          exact ds_raise1 (ok.calm h1) T rfl hf room ok.tk q.v (gl_of ok.toOkx h2) q.ns (plainN_ok h3).1
        | none =>
          obtain ⟨b, q1, q2, q3, q4⟩ := use
          have e3 : fl = false := e2.symm
          subst e3
          exact ds_raise0 (ok.calm h1) q1 q2 q3 q4 rfl ok.tk q.v (gl_of ok.toOkx h2) q.ns (plainN_ok h3).1
      · cases h4
    · cases h
  | .tryA b i hh n ms t, C, X, sc, fb, W, ok, x, h => by
    unfold chkS at h; unfold exec
    split at h
    · simp only [Bool.and_eq_true] at h
      obtain ⟨h1, h2, h3, h4, h5, h6⟩ := h
      obtain ⟨e1, e2⟩ := of_decide_eq_true h1
      obtain ⟨e3, e4⟩ := of_decide_eq_true h4
      obtain ⟨cv, nm, ex⟩ := ok.names e2 h2 h3
      have hln : ∀ u, sc.names.lookup u = some .local → X.env.kindOf u = some .local := fun u e => by unfold PySem.Env.kindOf; rw [ok.eS]; exact e
      refine ps_imp (ps_try_as (tb := fun W => tS X.K G W (execs Γ b)) (ts := fun a cls d => fun D σ H => tDj X.K G i a cls d (semX Γ t) σ H D.rt) ok.stk ok.frm (ok.eN ▸ ok.nd) (ok.eN ▸ e3) (hln _ e4) nm ok.tk
        (fun W pn xe tk po => execs_ok b (ok.tr tk po) _ h5) (fun a oe cls d pn hz hd => pss_one (ps_ret (dj_ok ok.quiet.toOkx ok.exs ok.kxs ok.hdl hz hd t _ h6)))) fun D σ H ⟨μ, ρ, s, r, re, hh⟩ => ⟨μ, ρ, s, r, re, ?_⟩
      dsimp only at hh
      cases eb : execs Γ b ρ s with
      | exc y ρ' s' =>
        rw [eb] at hh
        dsimp only at hh
        intro cls dd μ1 H1 σ1 x1 r1 re1 rx1
        split at hh
        · rename_i hc
          refine ⟨ms.contains y.c, by rw [rx1.1]; exact ex y.c (e1 ▸ hc), fun hb a na => ?_, fun hb => ?_⟩
          · rw [if_pos hb] at hh
            refine ⟨μ1, ρ'.set i none, s', y, r1, re1.forget, fun hl => List.getElem?_set_self (by rw [List.length_set] at hl; exact hl), rx1, ?_⟩
            split at hh
            · rename_i d s2 e5
              rw [e5]
              exact fun μ2 H2 x2 r2 v rv => hh μ2 H2 v (x1.trans x2) r2 rv
            · exact hh.elim
          · rw [if_neg (by rw [hb]; decide)] at hh
            exact hh cls dd μ1 H1 σ1 x1 r1 re1 rx1
        · exact hh.elim
      | _ => rw [eb] at hh; exact hh
    · cases h
  | .tryN b n hs ss, C, X, sc, fb, W, ok, x, h => by
    unfold chkS at h; unfold exec
    split at h
    · simp only [Bool.and_eq_true] at h
      obtain ⟨h1, h2, h3⟩ := h
      have e1 := of_decide_eq_true h1
      obtain ⟨l, k1, k2⟩ := handlers_ok ss ok hs _ h3
      refine ps_imp (ps_try_many (tb := fun W => tS X.K G W (execs Γ b)) ok.stk ok.frm ok.tk (fun W pn xe tk po => execs_ok b (ok.tr tk po) _ h2) k1) fun D σ H ⟨μ, ρ, s, r, re, hh⟩ => ⟨μ, ρ, s, r, re, ?_⟩
      dsimp only at hh
      cases eb : execs Γ b ρ s with
      | exc y ρ' s' =>
        rw [eb] at hh
        dsimp only at hh
        intro cls dd μ1 H1 σ1 x1 r1 re1 rx1
        split at hh
        · rename_i hc
          exact many_red (e1 ▸ hc) r1 re1 rx1 k2 (SFin.ext x1 hh)
        · exact hh.elim
      | _ => rw [eb] at hh; exact hh
    · cases h
  | .met _ _ _, _, _, _, _, _, ok, x, h => by
    unfold chkS at h; cases h
theorem handlers_ok : ∀ (ss : List (List St)) {C : Ck} {X : Cx} {sc : Scope} {fb : Str → Bool} {W : WX} (_ : Oks C Γ N sc fb X G W) (hs : List (Nat × List Nat)) (xs : List ExceptHandler), chkHs C N sc fb hs ss xs = true → ∃ l, HdsOk X xs l ∧ HsOk X G C.exc.length hs (execss Γ ss) l
  | [], C, X, sc, fb, W, ok, hs, xs, h => by
    unfold chkHs at h; unfold execss
    split at h
    · exact ⟨[], .nil, .nil⟩
    · cases h
  | b :: bs, C, X, sc, fb, W, ok, hs, xs, h => by
    unfold chkHs at h; unfold execss
    split at h
    · simp only [Bool.and_eq_true] at h
      obtain ⟨h1, h2, h3, h4, h5⟩ := h
      obtain ⟨cv, nm, ex⟩ := ok.names (of_decide_eq_true h1) h2 h3
      obtain ⟨l, k1, k2⟩ := handlers_ok bs ok _ _ h5
      exact ⟨(cv, tsOf X.K G (execs Γ b)) :: l, .cons nm (fun a oe cls d pn hz hd => execs_ok b ok.quiet _ h4) k1, .cons ex k2⟩
    · cases h
theorem execs_ok : ∀ (sts : List St) {C : Ck} {X : Cx} {sc : Scope} {fb : Str → Bool} {W : WX} (_ : Oks C Γ N sc fb X G W) (xs : List Stmt), chkSs C N sc fb sts xs = true → DSs X G W xs (execs Γ sts)
  | [], _, _, _, _, _, ok, x, h => by
    unfold chkSs at h; unfold execs
    split at h
    · exact ds_nil
    · cases h
  | st :: sts, _, _, _, _, _, ok, x, h => by
    unfold chkSs at h; unfold execs
    split at h
    · simp only [Bool.and_eq_true] at h
      exact ds_cons (exec_ok st ok _ h.1) (execs_ok sts ok _ h.2)
    · cases h
end
end
end Fe

set_option maxHeartbeats 4000000
/-! Fe Z: a def that calls what it gets in a try. -/
namespace Fe
open PySem PySem.Spec PyProof.Rows L2 LamX
def start' (n : Nat) (ds : List D) : Env := ds.map some ++ List.replicate (n - ds.length) none
def retO : SOut → Out D
  | .nx _ s => .ok .non s
  | .rt d s => .ok d s
  | .exc x _ s => .exc x s
  | _ => .bad
section
variable {K : PySem.W.Frag} {G : Gc} {Γ : Nat → List D → S → Out D} {N : List Str}
/-- what a clause wishes: its suite gives its expression back -/
def tsM (K : PySem.W.Frag) (G : Gc) (Γ : Nat → List D → S → Out D) (N : List Str) (i : Nat) (t : Xe) : HTS := fun a cls d D σ H => σ.length = N.length → tDj K G i a cls d (semX Γ t) σ H D.rt
inductive MsOk (K : PySem.W.Frag) (G : Gc) (Γ : Nat → List D → S → Out D) (N : List Str) (n : Nat) : List (Nat × List Nat × Nat × Xe) → List (Value × Option Nat × HTS) → Prop
  | nil : MsOk K G Γ N n [] []
  | plain {h hs cv l} : (∀ k, k < n → PySem.W.exmOne K (.ref (G.cls k)) cv = some (h.2.1.contains k)) → h.2.2.1 = N.length → MsOk K G Γ N n hs l → MsOk K G Γ N n (h :: hs) ((cv, none, tsM K G Γ N h.2.2.1 h.2.2.2) :: l)
  | named {h hs cv l} : (∀ k, k < n → PySem.W.exmOne K (.ref (G.cls k)) cv = some (h.2.1.contains k)) → MsOk K G Γ N n hs l → MsOk K G Γ N n (h :: hs) ((cv, some h.2.2.1, tsM K G Γ N h.2.2.1 h.2.2.2) :: l)
/-- what becomes of exception y -/
def endM (Γ : Nat → List D → S → Out D) (hs : List (Nat × List Nat × Nat × Xe)) (m : Nat) (y : Xc) (s : S) : Out D := match pickM hs y.c with
  | some x => (match semX Γ x y (List.replicate m none) s with | .ok d s => .ok d s | _ => .bad)
  | none => .bad
theorem relNone {μ : List Addr} {H : Hp} {σ : L2.St} {m : Nat} (h : σ.length = m) : RelEnv K μ H (List.replicate m none) σ :=
  ⟨by simp [h], fun i d e => by
    rw [List.getElem?_replicate] at e
    split at e <;> cases e⟩
theorem okOnly {μ : List Addr} {H : Hp} {W W' : XK} {o : Out D} {q : D → S → List Addr → Hp → Prop} (h : Fin K G μ H W (match o with | .ok d s => .ok d s | _ => .bad) q) : Fin K G μ H W' o q := by
  cases o with
  | ok d s => exact h
  | exc x s => exact h.elim
  | bad => exact h.elim
theorem mix_red {n : Nat} {D : Ends} {y : Xc} {cls : Value} {dd : Option Addr} {μ : List Addr} {H : Hp} {s : S} {W : XK} (hn : y.c < n) (r : Rel K μ H s) (rx : RelX K G μ H y cls dd) :
    ∀ {hs : List (Nat × List Nat × Nat × Xe)} {l : List (Value × Option Nat × HTS)}, MsOk K G Γ N n hs l → Fin K G μ H W (endM Γ hs N.length y s) (qD K D.rt) → ∀ σ, wMix K noX D l cls dd σ H
  | _, _, .nil, h, σ => by
    unfold endM pickM at h
    exact h.elim
  | _, _, .plain (h := hh) e hi t, h, σ => by
    refine ⟨hh.2.1.contains y.c, by rw [rx.1]; exact e y.c hn, fun hb a na hl => ?_, fun hb => ?_⟩
    · unfold endM pickM at h
      rw [if_pos hb] at h
      exact ⟨μ, _, s, y, r, relNone hl, fun q => by omega, rx, okOnly h⟩
    · unfold endM pickM at h
      rw [if_neg (by rw [hb]; decide)] at h
      exact mix_red hn r rx t h σ
  | _, _, .named (h := hh) e t, h, σ => by
    refine ⟨hh.2.1.contains y.c, by rw [rx.1]; exact e y.c hn, fun hb a na hl => ?_, fun hb => ?_⟩
    · unfold endM pickM at h
      rw [if_pos hb] at h
      exact ⟨μ, _, s, y, r, relNone hl, fun q => List.getElem?_set_self (by rw [List.length_set] at q; exact q), rx, okOnly h⟩
    · unfold endM pickM at h
      rw [if_neg (by rw [hb]; decide)] at h
      exact mix_red hn r rx t h σ
end
/-! the check -/
def chkMs (C : Ck) (N : List Str) (sc : Scope) : List (Nat × List Nat × Nat × Xe) → List ExceptHandler → Bool
  | [], xs => match xs with
    | [] => true
    | _ => false
  | h :: hs, xs => match xs with
    | (.ExceptHandler (some (.Name y _)) on [.Return (some e) _] _) :: ys => decide (C.hds[h.1]? = some (y, h.2.1)) && (gloB sc y && (plainN y && ((match on with | none => decide (h.2.2.1 = N.length) | some n => decide (N[h.2.2.1]? = some n) && decide (sc.names.lookup n = some .local)) &&
        (chkX C N sc (fun _ => true) h.2.2.1 h.2.2.2 e && chkMs C N sc hs ys))))
    | _ => false
def callB (a : Str) : Expr → Bool
  | .Call (.Name y _) [] [] _ => decide (y = a)
  | _ => false
def chkMet (C : Ck) (N ps : List Str) (sc : Scope) (b : List St) (xs : List Stmt) : Bool := match b, xs, ps with
  | [.met false n hs, .ret f], [.Try [.Expr c _] (hd :: hds) [] [] _, .Return (some e) _], [a] => decide (n = C.exc.length) && (callB a c && (visB sc a && (plainN a && (chkMs C.quiet N sc hs (hd :: hds) && chkE C.quiet N sc (fun _ => true) f e))))
  | [.met true n hs], [.Try [.Return (some c) _] (hd :: hds) [] [] _], [a] => decide (n = C.exc.length) && (callB a c && (visB sc a && (plainN a && chkMs C.quiet N sc hs (hd :: hds))))
  | _, _, _ => false
section
variable {G : Gc} {C : Ck} {Γ : Nat → List D → S → Out D} {N : List Str}
theorem clauses_ok {X : Cx} {sc : Scope} (ok : Oks C.quiet Γ N sc (fun _ => true) X G noX) : ∀ (hs : List (Nat × List Nat × Nat × Xe)) (xs : List ExceptHandler), chkMs C.quiet N sc hs xs = true → ∃ l, HdsMix X xs l ∧ MsOk X.K G Γ N C.exc.length hs l
  | [], xs, h => by
    unfold chkMs at h
    split at h
    · exact ⟨[], .nil, .nil⟩
    · cases h
  | hh :: hs, xs, h => by
    unfold chkMs at h
    split at h
    · rename_i y np on e rp pos' ys
      simp only [Bool.and_eq_true] at h
      obtain ⟨h1, h2, h3, h4, h5, h6⟩ := h
      obtain ⟨cv, nm, ex⟩ := ok.names (of_decide_eq_true h1) h2 h3
      obtain ⟨l, k1, k2⟩ := clauses_ok ok hs ys h6
      have suite : ∀ (a : Addr) (oe : Obj) (cls : Value) (d : Option Addr) (pn : List (Addr × Obj)), Zc cls d oe → (∃ vs, oe.data = .fields vs) → PSs (X.suite a ((a, oe) :: pn)) [.Return (some e) rp] (tsM X.K G Γ N hh.2.2.1 hh.2.2.2 a cls d) := fun a oe cls d pn hz hd => by
        have q := pss_one (ps_ret (pos := rp) (dj_ok (C := C.quiet) (i := hh.2.2.1) (a := a) (oe := oe) (cls := cls) (d := d) (pn := pn) ok.quiet.toOkx ok.exs ok.kxs ok.hdl hz hd hh.2.2.2 e h5))
        exact ⟨fun pins s σ H D I w => q.run pins s σ H D I (w (I.len.trans (by show X.N.length = _; rw [ok.eN])))⟩
      cases on with
      | none => exact ⟨_, .cons nm suite k1, .plain ex (of_decide_eq_true h4) k2⟩
      | some n =>
        obtain ⟨h7, h8⟩ := band h4
        exact ⟨_, .named (ok.eN ▸ ok.nd) (ok.eN ▸ of_decide_eq_true h7) (by unfold PySem.Env.kindOf; rw [ok.eS]; exact of_decide_eq_true h8) nm suite k1, .named ex k2⟩
    · cases h
end
/-- what is known where such a def runs -/
structure MetAt (C : Ck) (K : PySem.W.Frag) (mg : Str → Option Value) (G : Gc) : Prop where
  cons : ∀ (g : Nat) (x : Str) (d : D), C.cons[g]? = some (x, d) → ∃ v u, mg x = some u ∧ RelV v u ∧ ∀ μ H, RelD K μ H d v
  free : ∀ x ∈ C.free, mg x = none
  exs : ∀ X : Cx, X.K = K → X.mg = mg → ∀ (c : Nat) (x : Str) (fo : Option Str), C.exc[c]? = some (x, fo) → ExUse X G c x fo
  hdl : ∀ (h : Nat) (x : Str) (ms : List Nat), C.hds[h]? = some (x, ms) → ∃ cv, (mg x = some cv ∨ (mg x = none ∧ bootBuiltins x = some cv ∧ x ≠ "__name__")) ∧ HdV cv ∧ ∀ k, k < C.exc.length → HdAns K (.ref (G.cls k)) cv (ms.contains k)
  kxs : ∀ c, c < C.exc.length → KxF K (G.cls c)
theorem met_gives {X : Cx} {G : Gc} {C : Ck} {Γ : Nat → List D → S → Out D} {N ps : List Str} {x a : Str} {sc : Scope} {g : Addr} {cdv : Value} {b : List St} {bg : List Stmt} {k : Nat} {F : List D → S → Out D} (M : MetAt C X.K X.mg G) (room : Room (k + 2) X.A) (gd : X.A.guards = some []) (Sf : FnScope N [a] sc) (hps : ps = [a]) (hN : N[0]? = some a)
    (hch : chkMet C N ps sc b bg = true) (hF : ∀ d s, F [d] s ≠ .bad → F [d] s = trimO s (retO (execs Γ b (start' N.length [d]) s))) (q : Str) : GivesTo X N x sc g cdv bg a q (TTm X.K G F) := by
  subst hps
  intro f c' s H Q tl act hco ⟨o, μ, give, fin⟩
  let Y : Cx := (cxOf C8.CX0 X.prog X.w X.K X.mg X.base N x sc g cdv X.A X.stack s H C8.E0).nox
  have hu : (X.A.deeper (envOfC x sc s.heap.objs.size g cdv)).units + 65 < cLine := by
    have := (room.deeper (k := k + 1) (envOfC x sc s.heap.objs.size g cdv)).un
    omega
  have bk : (envOfC x sc s.heap.objs.size g cdv).blockKind = .function := by
    unfold PySem.Env.blockKind
    have : (envOfC x sc s.heap.objs.size g cdv).scope.kind = .function := Sf.kind
    show (if (envOfC x sc s.heap.objs.size g cdv).scope.kind.isAnnotationScope then _ else (envOfC x sc s.heap.objs.size g cdv).scope.kind) = _
    rw [this]
    rfl
  have ok : Oks C.quiet Γ N sc (fun _ => true) Y G noX :=
    ⟨⟨rfl, rfl, fun _ _ => rfl, Sf.nd, fun h => (nomatch (show false = true from h)), LamX.takes0, hu, gd, fun f kd x n h => by simp [Ck.quiet] at h, fun h => (h rfl).elim, fun me h => (by cases h), M.cons, M.free⟩, bk, PassesOwn.never, rfl, rfl, M.exs Y rfl rfl, M.hdl, M.kxs, fun h => (nomatch (show false = true from h))⟩
  have len0 : (L2.start N [V.ref f]).length = N.length := by
    unfold L2.start
    have : 0 < N.length := (List.getElem?_eq_some_iff.mp hN).1
    simp
    omega
  have at0 : (L2.start N [V.ref f])[0]? = some (some (V.ref f)) := rfl
  have st0 : ∀ d, (start' N.length [d])[0]? = some (some d) := fun d => rfl
  have len1 : ∀ d, (start' N.length [d]).length = N.length := fun d => by
    unfold start'
    have : 0 < N.length := (List.getElem?_eq_some_iff.mp hN).1
    simp
    omega
  -- an exception of the lambda
  have exc : ∀ {hs : List (Nat × List Nat × Nat × Xe)} {l : List (Value × Option Nat × HTS)} {D : Ends} (cls : Value) (d : Option Addr) (σ' : L2.St) (H' : Hp), D.rt = Q → MsOk X.K G Γ N C.exc.length hs l →
      (∃ μ' s' y, y.c < C.exc.length ∧ Rel X.K μ' H' s' ∧ RelX X.K G μ' H' y cls d ∧ Fin X.K G μ' H' noE (endM Γ hs N.length y s') (qD X.K Q)) → wMix X.K noX D l cls d σ' H' := fun {hs l D} cls d σ' H' hD hm ⟨μ', s', y, h1, h2, h3, h4⟩ => mix_red h1 h2 h3 hm (by rw [hD]; exact h4) σ'
  -- a run of the body
  have run : ∀ {p : D} {s' : S} {μ' : List Addr} {H' : Hp} {W : XK}, Rel X.K μ' H' s' → Fin X.K G μ' H' W (noExcD (F [p] s')) (qD X.K Q) → Fin X.K G μ' H' W (retO (execs Γ b (start' N.length [p]) s')) (qD X.K Q) := fun {p s' μ' H' W} r h => by
    have nb : F [p] s' ≠ .bad := fun e => by rw [e] at h; exact h
    have h2 : Fin X.K G μ' H' W (F [p] s') (qD X.K Q) := by
      cases e : F [p] s' with
      | ok d s2 => rw [e] at h; exact h
      | exc y s2 => rw [e] at h; exact h.elim
      | bad => exact absurd e nb
    rw [hF p s' nb] at h2
    exact trim_fin r h2
  have sfin : ∀ {o : SOut} {s' : S} {μ' : List Addr} {H' : Hp}, Fin X.K G μ' H' noE (retO o) (qD X.K Q) → SFin X.K G μ' H' noX o { nx := fun _ H' => Q .non H', rt := Q } := fun {o s' μ' H'} h => by
    cases o with
    | nx ρ s2 => exact fun μ2 H2 σ2 x r re => h μ2 H2 x r _ relNon
    | rt d s2 => exact fun μ2 H2 v x r rv => h μ2 H2 x r v rv
    | exc y ρ s2 => exact fun cls dd μ2 H2 σ2 x r re rx => h cls dd μ2 H2 x r rx
    | bk ρ s2 => exact h.elim
    | ct ρ s2 => exact h.elim
    | bad => exact h.elim
  have caught : ∀ {r : Bool} {n : Nat} {hs : List (Nat × List Nat × Nat × Xe)} {rest : List St} {y : Xc} {s' : S} {μ' : List Addr} {H' : Hp}, b = .met r n hs :: rest → n = C.exc.length → Fin X.K G μ' H' noE (retO (execs Γ b (start' N.length [.tup [.int y.c, .tup y.ds]]) s')) (qD X.K Q) →
      y.c < C.exc.length ∧ Fin X.K G μ' H' noE (endM Γ hs N.length y s') (qD X.K Q) := fun {r n hs rest y s' μ' H'} eb en h => by
    have e1 : execs Γ b (start' N.length [.tup [.int y.c, .tup y.ds]]) s' = (metS Γ r n hs N.length (.tup [.int y.c, .tup y.ds]) s').seq (execs Γ rest) := by
      rw [eb]
      show (exec Γ (.met r n hs) _ s').seq _ = _
      have : exec Γ (.met r n hs) (start' N.length [.tup [.int y.c, .tup y.ds]]) s' = metS Γ r n hs (start' N.length [.tup [.int y.c, .tup y.ds]]).length (.tup [.int y.c, .tup y.ds]) s' := by
        unfold exec
        rw [st0]
      rw [this, len1]
    rw [e1] at h
    unfold metS at h
    dsimp only at h
    rw [Int.toNat_natCast] at h
    split at h
    · rename_i hlt
      refine ⟨en ▸ hlt, ?_⟩
      unfold endM
      cases ep : pickM hs y.c with
      | none => rw [ep] at h; exact h.elim
      | some t =>
        rw [ep] at h
        dsimp only at h ⊢
        cases es : semX Γ t y (List.replicate N.length none) s' with
        | ok d s2 => rw [es] at h; exact h
        | exc _ _ => rw [es] at h; exact h.elim
        | bad => rw [es] at h; exact h.elim
    · exact h.elim
  unfold chkMet at hch
  split at hch
  · rename_i n hs fe c ep hd hds tp e rp a' ea
    cases ea
    simp only [Bool.and_eq_true] at hch
    obtain ⟨h1, h2, h3, h4, h5, h6⟩ := hch
    have en := of_decide_eq_true h1
    obtain ⟨l, k1, k2⟩ := clauses_ok (C := C) ok hs _ h5
    have rest : DSs Y G noX [.Return (some e) rp] (execs Γ [.ret fe]) := execs_ok [.ret fe] ok _ (by
      unfold chkSs chkSs chkS
      dsimp only
      rw [h6]
      rfl)
    have try_ : PS Y (.Try [.Expr c ep] (hd :: hds) [] [] tp) (fun D σ H => (fun (W : WX) (D : Ends) (σ : L2.St) (H : Hp) => ∃ Ech : XK, (∀ cls d σ' H', Ech cls d H' → W cls d σ' H') ∧ σ[0]? = some (some (.ref f)) ∧ H c' = some (CodeO c' q) ∧ tl Ech H fun _ H1 => D.nx σ H1) (wMix Y.K noX D l) D σ H) :=
      ps_try_mix (X := Y) (Wout := noX) (body := [.Expr c ep]) (tb := fun (W : WX) (D : Ends) (σ : L2.St) (H : Hp) => ∃ Ech : XK, (∀ cls d σ' H', Ech cls d H' → W cls d σ' H') ∧ σ[0]? = some (some (.ref f)) ∧ H c' = some (CodeO c' q) ∧ tl Ech H fun _ H1 => D.nx σ H1) rfl rfl LamX.takes0 (fun W pn xe tk po => by
        unfold callB at h2
        split at h2
        · rename_i y p1 p2
          have ey := of_decide_eq_true h2
          subst ey
          refine ⟨fun pins s' σ H' D I ⟨Ech, hW, q1, q2, q3⟩ => ?_⟩
          have hp := pss_one (ps_expr (pos := ep) (act W pn xe Ech p1 p2 tk hW) (sw_plain rfl))
          exact hp.run pins s' σ H' D I ⟨q1, q2, q3⟩
        · cases h2) k1
    refine ⟨_, pss_cons try_ rest, fun cls d H' => ∃ μ' s' y, y.c < C.exc.length ∧ Rel X.K μ' H' s' ∧ RelX X.K G μ' H' y cls d ∧ Fin X.K G μ' H' noE (endM Γ hs N.length y s') (qD X.K Q), fun cls d σ' H' he => exc cls d σ' H' rfl k2 he, at0, hco, give _ _ ?_⟩
    cases o with
    | ok d s' =>
      refine fun μ' H' x r v rv => ⟨μ', List.replicate N.length none, s', r, relNone len0, sfin (s' := s') ?_⟩
      have h7 := run r (fin.ext x)
      subst en
      have e1 : execs Γ [.met false C.exc.length hs, .ret fe] (start' N.length [.tup [d]]) s' = execs Γ [.ret fe] (List.replicate N.length none) s' := by
        have e0 : execs Γ (.met false C.exc.length hs :: [.ret fe]) (start' N.length [.tup [d]]) s' = (exec Γ (.met false C.exc.length hs) (start' N.length [.tup [d]]) s').seq (execs Γ [.ret fe]) := by
          conv => lhs; unfold execs
        rw [e0]
        have : exec Γ (.met false C.exc.length hs) (start' N.length [.tup [d]]) s' = .nx (List.replicate N.length none) s' := by
          unfold exec
          rw [st0]
          show metS Γ false _ hs (start' N.length [.tup [d]]).length _ s' = _
          rw [len1]
          rfl
        rw [this]
        rfl
      rw [e1] at h7
      exact h7
    | exc y s' =>
      refine fun cls dd μ' H' x r rx => ?_
      obtain ⟨g1, g2⟩ := caught rfl en (run r (fin.ext x))
      exact ⟨μ', s', y, g1, r, rx, g2⟩
    | bad => exact fin.elim
  · rename_i n hs c rp hd hds tp a' ea
    cases ea
    simp only [Bool.and_eq_true] at hch
    obtain ⟨h1, h2, h3, h4, h5⟩ := hch
    have en := of_decide_eq_true h1
    obtain ⟨l, k1, k2⟩ := clauses_ok (C := C) ok hs _ h5
    have try_ : PS Y (.Try [.Return (some c) rp] (hd :: hds) [] [] tp) (fun D σ H => (fun (W : WX) (D : Ends) (σ : L2.St) (H : Hp) => ∃ Ech : XK, (∀ cls d σ' H', Ech cls d H' → W cls d σ' H') ∧ σ[0]? = some (some (.ref f)) ∧ H c' = some (CodeO c' q) ∧ tl Ech H D.rt) (wMix Y.K noX D l) D σ H) :=
      ps_try_mix (X := Y) (Wout := noX) (body := [.Return (some c) rp]) (tb := fun (W : WX) (D : Ends) (σ : L2.St) (H : Hp) => ∃ Ech : XK, (∀ cls d σ' H', Ech cls d H' → W cls d σ' H') ∧ σ[0]? = some (some (.ref f)) ∧ H c' = some (CodeO c' q) ∧ tl Ech H D.rt) rfl rfl LamX.takes0 (fun W pn xe tk po => by
        unfold callB at h2
        split at h2
        · rename_i y p1 p2
          have ey := of_decide_eq_true h2
          subst ey
          refine ⟨fun pins s' σ H' D I ⟨Ech, hW, q1, q2, q3⟩ => ?_⟩
          have hp := pss_one (ps_ret (pos := rp) (act W pn xe Ech p1 p2 tk hW))
          exact hp.run pins s' σ H' D I ⟨q1, q2, q3⟩
        · cases h2) k1
    refine ⟨_, pss_one try_, fun cls d H' => ∃ μ' s' y, y.c < C.exc.length ∧ Rel X.K μ' H' s' ∧ RelX X.K G μ' H' y cls d ∧ Fin X.K G μ' H' noE (endM Γ hs N.length y s') (qD X.K Q), fun cls d σ' H' he => exc cls d σ' H' rfl k2 he, at0, hco, give _ _ ?_⟩
    cases o with
    | ok d s' =>
      refine fun μ' H' x r v rv => ?_
      have h7 := run r (fin.ext x)
      subst en
      have e1 : execs Γ [.met true C.exc.length hs] (start' N.length [.tup [d]]) s' = .rt d s' := by
        have e0 : execs Γ (.met true C.exc.length hs :: []) (start' N.length [.tup [d]]) s' = (exec Γ (.met true C.exc.length hs) (start' N.length [.tup [d]]) s').seq (execs Γ []) := by
          conv => lhs; unfold execs
        rw [e0]
        have : exec Γ (.met true C.exc.length hs) (start' N.length [.tup [d]]) s' = .rt d s' := by
          unfold exec
          rw [st0]
          rfl
        rw [this]
        rfl
      rw [e1] at h7
      exact h7 μ' H' (.refl _ _) r v rv
    | exc y s' =>
      refine fun cls dd μ' H' x r rx => ?_
      obtain ⟨g1, g2⟩ := caught rfl en (run r (fin.ext x))
      exact ⟨μ', s', y, g1, r, rx, g2⟩
    | bad => exact fin.elim
  · cases hch
end Fe

set_option maxHeartbeats 4000000
/-! Fe 17: programs. -/
namespace Fe
open PySem PySem.Spec PyProof.Rows L2
/-- a def: its name, its parameters, all its locals, its body -/
structure Fd where
  name : Str
  ps : List Str
  N : List Str
  body : List St
  kd : Kn
def callF (T : List Fd) : Nat → Nat → List D → S → Out D
  | 0 => fun _ _ _ => .bad
  | k + 1 => fun f ds s => match T[f]? with
    | some d => if ds.length = d.ps.length then trimO s (retO (execs (callF T k) d.body (start' d.N.length ds) s)) else .bad
    | none => .bad
def scB (N ps : List Str) (sc : Scope) : Bool :=
  decide (sc.kind = .function) && (!sc.isCoroutine && (!sc.isGenerator && (decide N.Nodup && (decide (N.take ps.length = ps) && ((ps.all fun x => decide (sc.names.lookup x = some .local) || decide (sc.names.lookup x = some .cell)) && sc.names.all fun y => !decide (y.2 = .free))))))
theorem scB_ok {N ps : List Str} {sc : Scope} (h : scB N ps sc = true) : FnScope N ps sc := by
  unfold scB at h
  simp only [Bool.and_eq_true] at h
  obtain ⟨h1, h2, h3, h4, h5, h6, h7⟩ := h
  rw [List.all_eq_true] at h6 h7
  refine ⟨of_decide_eq_true h1, by simpa using h2, by simpa using h3, of_decide_eq_true h4, of_decide_eq_true h5, fun x hx => ?_, fun y hy => ?_⟩
  · have := h6 x hx
    rw [Bool.or_eq_true] at this
    exact this.imp of_decide_eq_true of_decide_eq_true
  · simpa using h7 y hy
/-- what is looked at: the def d -/
def Ck.at (C : Ck) (d : Fd) : Ck := { C with me := if d.kd = .fn ∧ C.lams.contains d.name = true then some d.name else none }
def chkD (C : Ck) (d : Fd) (sc : Scope) (body : List Stmt) : Bool := match d.kd with
  | .lm => chkMet C d.N d.ps sc d.body body
  | _ => chkSs (C.at d) d.N sc (fun _ => true) d.body body
theorem chkD_ne {C : Ck} {d : Fd} {sc : Scope} {body : List Stmt} (h : chkD C d sc body = true) (hk : d.kd ≠ .lm) : chkSs (C.at d) d.N sc (fun _ => true) d.body body = true := by
  unfold chkD at h
  split at h
  · exact absurd ‹_› hk
  · exact h
theorem chkD_lm {C : Ck} {d : Fd} {sc : Scope} {body : List Stmt} (h : chkD C d sc body = true) (hk : d.kd = .lm) : chkMet C d.N d.ps sc d.body body = true := by
  unfold chkD at h
  rw [hk] at h
  exact h
/-- what is known of a def of the text -/
structure DefOk (C : Ck) (K : PySem.W.Frag) (mg : Str → Option Value) (d : Fd) (fa : Addr) (fd : FuncData) : Prop where
  ex : ∃ qual params body scope, FunD K d.name qual params body scope [] [] fa fd ∧ scB d.N d.ps scope = true ∧ chkD C d scope body = true ∧ ((d.kd = .fn ∨ d.kd = .lm) → qual = d.name ∧ fa = He.ga K d.name)
  kd : KdOk K mg d.kd d.name fa
  bd : Binds K fd d.ps []
structure ProgOk (C : Ck) (T : List Fd) (K : PySem.W.Frag) (mg : Str → Option Value) (G : Gc) : Prop where
  fns : C.fns = T.map fun d => (d.kd, d.name, d.ps.length)
  defs : ∀ d ∈ T, ∃ fa fd, DefOk C K mg d fa fd
  cons : ∀ (g : Nat) (x : Str) (d : D), C.cons[g]? = some (x, d) → ∃ v u, mg x = some u ∧ RelV v u ∧ ∀ μ H, RelD K μ H d v
  free : ∀ x ∈ C.free, mg x = none
  exs : ∀ X : Cx, X.K = K → X.mg = mg → ∀ (c : Nat) (x : Str) (fo : Option Str), C.exc[c]? = some (x, fo) → ExUse X G c x fo
  hdl : ∀ (h : Nat) (x : Str) (ms : List Nat), C.hds[h]? = some (x, ms) → ∃ cv, (mg x = some cv ∨ (mg x = none ∧ bootBuiltins x = some cv ∧ x ≠ "__name__")) ∧ HdV cv ∧ ∀ k, k < C.exc.length → HdAns K (.ref (G.cls k)) cv (ms.contains k)
  kxs : ∀ c, c < C.exc.length → KxF K (G.cls c)
theorem RelDs.opt {K : PySem.W.Frag} {μ : List Addr} {H : Hp} {n : Nat} {ds : List D} {vs : List V} (h : RelDs K μ H ds vs) : RelEnv K μ H (start' n ds) (vs.map some ++ List.replicate (n - vs.length) none) := by
  unfold start'
  rw [h.length]
  refine ⟨by simp [h.length], fun i d e => ?_⟩
  by_cases hi : i < ds.length
  · rw [List.getElem?_append_left (by simpa using hi), List.getElem?_map] at e
    rw [List.getElem?_append_left (by rw [List.length_map, h.length]; exact hi), List.getElem?_map]
    cases e2 : ds[i]? with
    | none => rw [e2] at e; cases e
    | some d' =>
      rw [e2] at e
      cases e
      obtain ⟨v, e3, r⟩ := h.get e2
      exact ⟨v, by rw [e3]; rfl, r⟩
  · rw [List.getElem?_append_right (by simpa using Nat.le_of_not_lt hi), List.getElem?_replicate] at e
    split at e <;> cases e
theorem fnG_bad {P : Program} {w : World} {K : PySem.W.Frag} {mg : Str → Option Value} {base : Heap} {G : Gc} {k : Nat} {f : Addr} {fd : FuncData} {ps : List Str} : FnG P w K mg base G k f fd ps (fun _ _ => .bad) :=
  ⟨fun A outer s H args us vs Q E hr hg e0 hb r ⟨_, _, _, _, _, _, h⟩ => h.elim⟩
/-- a def by its body -/
theorem fnG_of {P : Program} {w : World} {K : PySem.W.Frag} {mg : Str → Option Value} {base : Heap} {G : Gc} {k : Nat} {x qual : Str} {params : Arguments} {body : List Stmt} {scope : Scope} {dvs : List V} {kws : List (Str × V)} {fa : Addr} {fd : FuncData} {N ps : List Str} {fb : Env → S → SOut}
    (F : FunD K x qual params body scope dvs kws fa fd) (S : FnScope N ps scope)
    (hb : ∀ (cdv : Value), (∃ oc od osl, K.lookup fa = some ⟨oc, od, .func fd, osl⟩ ∧ fd.code = cdv ∧ PySem.W.codeIn K cdv qual = true) → ∀ (A : Around) (outer : List PySem.Env) (s : Shared) (H : Hp) (E : XK), Room k (A.deeper (envOfC qual scope s.heap.objs.size fa cdv)) → A.guards = some [] →
      DSs (cxOf (L2.CX P w) P w K mg base N qual scope fa cdv A outer s H E) G (fun c d _ H' => E c d H') body fb) :
    FnG P w K mg base G (k + 1) fa fd ps (fun ds s => if ds.length = ps.length then trimO s (retO (fb (start' N.length ds) s)) else .bad) := by
  obtain ⟨oc, od, dV, kV, doc, pm, an, cdv, ct, osl, rfl, lk, hcd, _, _⟩ := F.ex
  refine ⟨fun A outer s H args us vs Q E room gd e0 bnd rv ⟨hl, μ, st, ds, rel, rds, fin⟩ => ?_⟩
  have old : ∀ b o, base.get? b = some o → s.heap.get? b = some o := fun b o e => (e0.bs b o e).1
  have inK : K.In s.heap := e0.mod.kin.keeps old
  have kinds : ∀ y ∈ ps.zip us, scope.names.lookup y.1 = some .local ∨ (scope.names.lookup y.1 = some .cell ∧ ((cellsFrom (s.heap.objs.size + 1) scope.names []).lookup y.1).isSome = true) := fun y hy =>
    (S.par y.1 (List.of_mem_zip (a := y.1) (b := y.2) hy).1).imp id fun q => ⟨q, PySem.W.cellsFrom_some _ _ _ (.inl q)⟩
  have start : codeAny (model P w) A (.call (.ref fa) args) (CR (L2.CX P w) outer P w H s Q E) s := by
    refine codeAny_call_function room.depth (inK _ _ lk) rfl S.co S.gen rfl (PySem.W.codeRec_of inK hcd) (bnd _ _ _ _ (wpAny_newFunctionEnv_cells S.kind kinds fun env he s1 x => ?_))
    cases he
    refine ⟨(e0.mod.nolimit.keeps old).keeps x.toInCall.keep, codeAny_func ?_⟩
    have I := inv_start (CX := L2.CX P w) (P := P) (w := w) (K := K) (mg := mg) (base := base) (E := E) S room.hd e0 hl rv x
    have wish : tS K G (fun c d _ H' => E c d H') fb { nx := fun _ H' => Q .non H', rt := Q } (L2.start N vs) H := by
      refine ⟨μ, start' N.length ds, st, rel, rds.opt, ?_⟩
      dsimp only at fin
      split at fin
      · have fin' := trim_fin rel fin
        cases e : fb (start' N.length ds) st with
        | nx ρ s2 =>
          rw [e] at fin'
          exact fun μ' H' σ' x r re => fin' μ' H' x r _ relNon
        | rt d s2 =>
          rw [e] at fin'
          exact fun μ' H' v x r rv => fin' μ' H' x r v rv
        | exc c ρ s2 =>
          rw [e] at fin'
          exact fun cls dd μ' H' σ' x r re rx => fin' cls dd μ' H' x r rx
        | bk ρ s2 => rw [e] at fin'; exact fin'.elim
        | ct ρ s2 => rw [e] at fin'; exact fin'.elim
        | bad => rw [e] at fin'; exact fin'.elim
      · exact fin.elim
    refine wpAny_mono ((hb cdv ⟨oc, od, osl, lk, rfl, hcd⟩ A outer s H E (room.deeper _) gd).run [] s1 _ H _ I wish) (fun fl s' z => ?_) fun e s' z => z
    cases fl with
    | ret u =>
      obtain ⟨v, σ', H', J, r, q⟩ := z
      exact ⟨v, H', J.os, J.bare, J.base, J.hok, r, q⟩
    | next =>
      obtain ⟨σ', H', J, q⟩ := z
      exact ⟨V.non, H', J.os, J.bare, J.base, J.hok, rfl, q⟩
    | brk => obtain ⟨_, _, _, q⟩ := z; cases q
    | cont => obtain ⟨_, _, _, q⟩ := z; cases q
  exact start
theorem deeper_guards {A : Around} {env : PySem.Env} : (A.deeper env).guards = A.guards := by first | rfl | simp [Around.deeper]
theorem chkMet_ps {C : Ck} {N ps : List Str} {sc : Scope} {b : List St} {xs : List Stmt} (h : chkMet C N ps sc b xs = true) : ∃ a, ps = [a] ∧ visB sc a = true ∧ plainN a = true := by
  unfold chkMet at h
  split at h
  · simp only [Bool.and_eq_true] at h
    exact ⟨_, rfl, h.2.2.1, h.2.2.2.1⟩
  · simp only [Bool.and_eq_true] at h
    exact ⟨_, rfl, h.2.2.1, h.2.2.2.1⟩
  · cases h
theorem prog_ok {P : Program} {w : World} {K : PySem.W.Frag} {mg : Str → Option Value} {base : Heap} {G : Gc} {C : Ck} {T : List Fd} (H0 : ProgOk C T K mg G) (TB : ∀ x ∈ C.lams, LamX.TabB base mg (He.cT K (x, none)).1 (He.cT K (x, none)).2) :
    ∀ (k f : Nat) (d : Fd) (fa : Addr) (fd : FuncData), T[f]? = some d → DefOk C K mg d fa fd → d.kd ≠ .lm → FnG P w K mg base G (5 * k) fa fd d.ps (callF T k f)
  | 0, f, d, fa, fd, e, h, _ => fnG_bad
  | k + 1, f, d, fa, fd, e, h, hkd => by
    obtain ⟨qual, params, body, scope, F, hsc, hch, hqf⟩ := h.ex
    have Sf := scB_ok hsc
    have hch := chkD_ne hch hkd
    have step : ∀ (j g : Nat) (d2 : Fd) (ds : List D) (s : S), T[g]? = some d2 → callF T (j + 1) g ds s = if ds.length = d2.ps.length then trimO s (retO (execs (callF T j) d2.body (start' d2.N.length ds) s)) else .bad := fun j g d2 ds s e2 => by
      show (match T[g]? with | some d => _ | none => _) = _
      rw [e2]
    have eq : callF T (k + 1) f = fun ds s => if ds.length = d.ps.length then trimO s (retO (execs (callF T k) d.body (start' d.N.length ds) s)) else .bad := by
      funext ds s
      exact step k f d ds s e
    rw [eq]
    refine fnG_of (k := 5 * k + 4) F Sf fun cdv hcd A outer s H E room gd => ?_
    have lv : (C.at d).lv ≤ 2 := by unfold Ck.lv; split <;> omega
    refine execs_ok (C := C.at d) (Γ := callF T k) (N := d.N) (sc := scope) (fb := fun _ => true) d.body ⟨⟨rfl, rfl, fun _ _ => rfl, Sf.nd, fun _ => rfl, L2.takes_of rfl rfl rfl rfl, ?_, by show (A.deeper _).guards = _; rw [deeper_guards]; exact gd, fun g kd x n hg hk => ?_, fun _ g x n hg => ?_, fun me hme => ?_, fun g x d h => H0.cons g x d h, fun x h => H0.free x h⟩, ?_, L2.passes_of rfl, rfl, rfl, fun c x fo h => H0.exs _ rfl rfl c x fo h, fun h x ms e => H0.hdl h x ms e, fun c h => H0.kxs c h, fun _ => ⟨5 * k + 4, room⟩⟩ body hch
    · have := room.un; show (A.deeper _).units + 65 < _; omega
    · have hg : C.fns[g]? = some (kd, x, n) := hg
      rw [H0.fns, List.getElem?_map] at hg
      cases e2 : T[g]? with
      | none => rw [e2] at hg; cases hg
      | some d2 =>
        rw [e2] at hg
        cases hg
        obtain ⟨fa2, fd2, h2⟩ := H0.defs d2 (List.mem_of_getElem? e2)
        refine ⟨5 * k, fa2, fd2, d2.ps, rfl, prog_ok H0 TB k g d2 fa2 fd2 e2 h2 hk, room.mono (by omega), h2.kd, h2.bd, fun ds s hn => ?_⟩
        · cases k with
          | zero => exact absurd rfl hn
          | succ k =>
            rw [step k g d2 ds s e2] at hn
            by_cases hl : ds.length = d2.ps.length
            · exact hl
            · rw [if_neg hl] at hn
              exact absurd rfl hn
    · have hg : C.fns[g]? = some (.lm, x, n) := hg
      rw [H0.fns, List.getElem?_map] at hg
      cases e2 : T[g]? with
      | none => rw [e2] at hg; cases hg
      | some d2 =>
        rw [e2] at hg
        have hg' := Option.some.inj hg
        simp only [Prod.mk.injEq] at hg'
        obtain ⟨k2, en, el⟩ := hg'
        subst en
        obtain ⟨fa2, fd2, h2⟩ := H0.defs d2 (List.mem_of_getElem? e2)
        obtain ⟨q2, pr2, b2, sc2, F2, hsc2, hch2, hq2⟩ := h2.ex
        obtain ⟨eq2, ef2⟩ := hq2 (.inr k2)
        subst eq2
        have hch2 := chkD_lm hch2 k2
        have S2 := scB_ok hsc2
        have kk := h2.kd
        rw [k2] at kk
        obtain ⟨oc2, od2, dV, kV, doc, pm, an, cdv2, ct, osl2, rfl, lk2, hcd2, _, _⟩ := F2.ex
        obtain ⟨a, ha, hv, hp⟩ := chkMet_ps hch2
        have hN : d2.N[0]? = some a := by
          have pre := S2.pre
          rw [ha] at pre
          cases eN : d2.N with
          | nil => rw [eN] at pre; cases pre
          | cons b r =>
            rw [eN] at pre
            have : b = a := by simpa using pre
            rw [this]
            rfl
        have bd := h2.bd
        rw [ha] at bd S2
        refine ⟨5 * k + 2, fa2, a, pr2, b2, sc2, d2.N, dV, kV, doc, pm, cdv2, ct, oc2, an, od2, osl2, room.mono (by omega), kk.1, kk.2, lk2, hcd2, bd, S2, hN, visB_ok hv, hp, ?_⟩
        have at_ : MetAt C K mg G := ⟨H0.cons, H0.free, H0.exs, H0.hdl, H0.kxs⟩
        cases k with
        | zero => exact met_gives (Γ := callF T 0) (k := 0) at_ (room.mono (by omega)) (by show (A.deeper _).guards = _; rw [deeper_guards]; exact gd) S2 ha hN hch2 (fun d s hn => absurd rfl hn)
        | succ k =>
          refine met_gives (Γ := callF T k) (k := 0) at_ (room.mono (by omega)) (by show (A.deeper _).guards = _; rw [deeper_guards]; exact gd) S2 ha hN hch2 (fun p s hn => ?_)
          rw [step k g d2 [p] s e2, if_pos (by rw [ha]; rfl)]
    · have hme : (if d.kd = .fn ∧ C.lams.contains d.name = true then some d.name else none) = some me := hme
      split at hme
      · rename_i hc
        cases hme
        obtain ⟨eq1, ef1⟩ := hqf (.inl hc.1)
        subst eq1
        obtain ⟨oc, od, osl, lk, ecd, hcd⟩ := hcd
        obtain ⟨c, ec⟩ := He.codeIn_ref hcd
        refine ⟨rfl, c, ec, ?_⟩
        have e1 : He.codeOf K (d.name, none) = c := He.codeOf_eq (fd := fd) (by rw [← lk, ef1]; rfl) (ecd.trans ec)
        have := TB d.name (List.contains_iff_mem.mp hc.2)
        have e3 : (He.cT K (d.name, none)).1 = c := e1
        rw [e3] at this
        exact this
      · cases hme
    · show PySem.Env.blockKind _ = _
      unfold PySem.Env.blockKind
      have : (envOfC qual scope s.heap.objs.size fa cdv).scope.kind = .function := Sf.kind
      show (if (envOfC qual scope s.heap.objs.size fa cdv).scope.kind.isAnnotationScope then _ else (envOfC qual scope s.heap.objs.size fa cdv).scope.kind) = _
      rw [this]
      rfl
end Fe

set_option maxHeartbeats 4000000
/-! Fe 18: a law's end. -/
namespace Fe
open PySem PySem.Spec PyProof.Rows L2
/-- the script as an object -/
abbrev scO (vs : List Value) : Obj := { cls := .type "list", data := .seq vs.toArray }
def scH (a : Addr) (vs : List Value) (ns : List Int) : Hp := fun b => if b = a then some (.frz (scO vs) (.lst (ns.map V.int))) else none
theorem relInts {K : PySem.W.Frag} {μ : List Addr} {H : Hp} : ∀ ns : List Int, RelDs K μ H (ns.map D.int) (ns.map V.int)
  | [] => relNil
  | _ :: ns => relCons relInt (relInts ns)
/-- the tables of the defs that make lambdas -/
abbrev tbP (K : PySem.W.Frag) (lams : List Str) : List Addr := lams.map fun x => (He.cT K (x, none)).2
def scT (K : PySem.W.Frag) (lams : List Str) (a : Addr) (vs : List Value) (ns : List Int) : Hp := fun b => if b = a then some (.frz (scO vs) (.lst (ns.map V.int))) else if b ∈ tbP K lams then some (.tbl #[]) else none
theorem law_callG {P : Program} {w : World} {K : PySem.W.Frag} {mg mb : Str → Option Value} {G : Gc} {k : Nat} {fa a : Addr} {fd : FuncData} {x : Str} {F : List D → S → Out D} {s₁ : Shared} {vs : List Value} {ns : List Int} {lams : List Str}
    (inK : K.In s₁.heap) (nsM : s₁.heap.Ns mainGlobals mg) (nsB : s₁.heap.Ns builtinsNs mb) (isB : ∀ x : Str, x ≠ "__name__" → mb x = bootBuiltins x) (lim : s₁.heap.NoLimit) (gens : s₁.gens = #[])
    (bmain : ∃ (bm : Addr) (ob : Obj), mg "__builtins__" = some (.ref bm) ∧ bm ≠ builtinsNs ∧ s₁.heap.get? bm = some ob ∧ ob.cls = .type "module" ∧ ob.dict = some builtinsNs ∧ ob.data = .plain)
    (hT : ∀ x ∈ lams, s₁.heap.get? (He.cT K (x, none)).2 = some { cls := .none, data := .fields #[] }) (nT : ∀ x ∈ lams, K.lookup (He.cT K (x, none)).2 = none) (hC : ∀ x ∈ lams, PySem.W.codeHdIn K (He.cT K (x, none)).1 (He.cT K (x, none)).2 = true) (nd : (tbP K lams).Nodup)
    (at_ : s₁.heap.get? a = some (scO vs)) (hns : IntsAre vs ns) (fits : ns.length ≤ sizeLine) (room : Room k callerA) (out : K.lookup a = none)
    (fn : ∀ base : Heap, K.In base → base.Ns mainGlobals mg → (∀ x ∈ lams, LamX.TabB base mg (He.cT K (x, none)).1 (He.cT K (x, none)).2) → FnG P w K mg base G k fa fd [x] F) (bind : ∀ (s : Shared) (u : Value), BindsTo s fd ⟨[u], []⟩ [(x, u)])
    (law : ∃ s', F [.ref 0] (.rl (ns.map .int) :: lams.map O.tab) = .ok (.bl true) s') :
    codeAny (model P w) callerA (.call (.ref fa) ⟨[.ref a], []⟩) (fun r s' => r = .ok (.ret (.bool true)) ∧ OldK s₁.heap s'.heap ∧ s'.os = s₁.os ∧ AllBare s'.gens) s₁ := by
  have rvs := vals_ints hns
  have isT : ∀ b, b ∈ tbP K lams → s₁.heap.get? b = some { cls := .none, data := .fields #[] } := fun b hb => by
    obtain ⟨x, hx, rfl⟩ := List.mem_map.mp hb
    exact hT x hx
  have aT : a ∉ tbP K lams := fun z => by
    have q := isT a z
    rw [at_] at q
    have z' : Data.seq vs.toArray _ = Data.fields #[] := congrArg Obj.data (Option.some.inj q)
    cases z'
  have free : ∀ b, b ≠ a → b ∉ tbP K lams → scT K lams a vs ns b = none := fun b h1 h2 => by unfold scT; rw [if_neg h1, if_neg h2]
  have mine : scT K lams a vs ns a = some (.frz (scO vs) (.lst (ns.map V.int))) := if_pos rfl
  have tbl : ∀ b, b ∈ tbP K lams → scT K lams a vs ns b = some (.tbl #[]) := fun b hb => by
    have ne : ¬ b = a := fun e => by
      rw [e] at hb
      exact aT hb
    unfold scT
    rw [if_neg ne, if_pos hb]
  have hok : HOk P w (scT K lams a vs ns) s₁.heap := fun b u e => by
    by_cases hb : b = a
    · subst hb
      rw [mine] at e
      cases e
      exact ⟨at_, by rw [List.length_map]; exact fits, vs, _, rvs, at_⟩
    · by_cases h2 : b ∈ tbP K lams
      · rw [tbl b h2] at e
        cases e
        exact isT b h2
      · rw [free b hb h2] at e; cases e
  have stays : ∀ {b : Addr} {o : Obj}, s₁.heap.get? b = some o → b ≠ a → b ∉ tbP K lams → (hidT s₁.heap (scT K lams a vs ns)).get? b = some o := fun e h1 h2 => hidT_get e (free _ h1 h2)
  have names : ∀ {b : Addr} {m : Str → Option Value}, s₁.heap.Ns b m → (hidT s₁.heap (scT K lams a vs ns)).Ns b m := fun {b m} ⟨o, es, ep, e, d, r⟩ => by
    refine ⟨o, es, ep, stays e (fun q => ?_) (fun q => ?_), d, r⟩
    · subst q
      rw [at_] at e
      cases e
      cases (show Data.seq vs.toArray _ = Data.dict es ep from d)
    · rw [isT b q] at e
      cases e
      cases (show Data.fields #[] = Data.dict es ep from d)
  have inB : K.In (hidT s₁.heap (scT K lams a vs ns)) := fun b o e => stays (inK b o e) (fun q => by
    subst q
    rw [out] at e; cases e) fun q => by
    obtain ⟨x, hx, rfl⟩ := List.mem_map.mp q
    rw [nT x hx] at e
    cases e
  have TB : ∀ x ∈ lams, LamX.TabB (hidT s₁.heap (scT K lams a vs ns)) mg (He.cT K (x, none)).1 (He.cT K (x, none)).2 := fun x hx => by
    have hTp := hT x hx
    refine ⟨PySem.W.codeHd_of_K inB (hC x hx), ?_, fun z => ?_⟩
    · obtain ⟨bm, ob, b1, b2, b3, b4, b5, b6⟩ := bmain
      have nG : bm ≠ mainGlobals := fun q => by
        obtain ⟨o, es, ep, e, hd, _⟩ := nsM
        rw [q, e] at b3
        cases b3
        rw [hd] at b6
        cases b6
      have nP : bm ≠ (He.cT K (x, none)).2 := fun q => by
        rw [q, hTp] at b3
        cases b3
        cases b6
      refine ⟨bm, ob, b1, b2, nG, nP, stays b3 (fun q => ?_) (fun q => ?_), b4, b5, b6⟩
      · rw [q, at_] at b3
        cases b3
        cases b6
      · rw [isT bm q] at b3
        cases b3
        cases b6
    · obtain ⟨o, es, ep, e, hd, _⟩ := nsM
      rw [z, hTp] at e
      cases e
      cases hd
  have e0 : Env0 P w K mg (hidT s₁.heap (scT K lams a vs ns)) callerA [] s₁ (scT K lams a vs ns) :=
    ⟨rfl, ⟨inB, names nsM, ⟨mb, names nsB, isB⟩, let ⟨mc, h1, h2⟩ := lim; ⟨mc, names h1, h2⟩⟩, fun b o e => of_hidT e, Nat.le_of_eq (hidT_size _ _), trivial, fun b hb => (nomatch (show b ∈ ([] : List Addr) from hb)), hok, .of_eq gens⟩
  obtain ⟨s', eF⟩ := law
  have rel : Rel K (a :: tbP K lams) (scT K lams a vs ns) (.rl (ns.map .int) :: lams.map O.tab) := by
    refine ⟨by simp, List.nodup_cons.mpr ⟨aT, nd⟩, fun i b o h1 h2 => ?_⟩
    cases i with
    | succ i =>
      rw [List.getElem?_cons_succ, List.getElem?_map] at h1 h2
      cases hx : lams[i]? with
      | none => rw [hx] at h1; cases h1
      | some x =>
        rw [hx] at h1 h2
        cases h1; cases h2
        exact ⟨rfl, .nil (tbl _ (List.mem_map.mpr ⟨x, List.mem_of_getElem? hx, rfl⟩))⟩
    | zero =>
      have h1' : a = b := by simpa using h1
      have h2' : O.rl (ns.map .int) = o := by simpa using h2
      subst h1' h2'
      exact ⟨_, _, mine, relInts ns⟩
  have sp : spF K G 1 F [.ref a] (scT K lams a vs ns) (fun v _ => v = .bl true) (fun _ _ _ => False) := by
    refine ⟨rfl, _, _, [.ref 0], rel, relCons (relRef rfl) relNil, ?_⟩
    rw [eF]
    exact fun μ' H' _ _ v rv => rv.bl_
  refine codeAny_mono ((fn _ inB (names nsM) TB).run callerA [] s₁ _ ⟨[.ref a], []⟩ [.ref a] [.ref a] _ _ room rfl e0 (bind s₁ (.ref a)) (.cons rfl .nil) sp) fun r s' h => ?_
  cases r with
  | error e =>
    obtain ⟨_, _, _, _, _, _, _, _, _, _, _, _, z⟩ := h
    cases z
  | ok fl =>
    cases fl with
    | next => cases h
    | brk => cases h
    | cont => cases h
    | ret u =>
      obtain ⟨v, H', os, bare, un, hok', rv, q⟩ := h
      have q' : v = .bl true := q
      subst q'
      cases (show u = Value.bool true from rv)
      have key : ∀ b o, b ∉ tbP K lams → s₁.heap.get? b = some o → s'.heap.get? b = some o := fun b o nb e => by
        by_cases hb : b = a
        · subst hb
          rw [at_] at e
          cases e
          exact (hok' b _ (un.frzs b _ _ mine)).1
        · exact un.keep b o e (free b hb nb) (fun z => (nomatch (show b ∈ ([] : List Addr) from z))) fun z => (nomatch (show b ∈ ([] : List Addr) from z))
      have grown : ∀ x ∈ lams, ∃ more : Array Value, s'.heap.get? (He.cT K (x, none)).2 = some { cls := .none, data := .fields more } := fun x hx => by
        obtain ⟨more, z⟩ := un.tbls _ #[] (tbl _ (List.mem_map.mpr ⟨x, hx, rfl⟩))
        exact ⟨_, hok' _ _ z⟩
      refine ⟨rfl, ⟨fun b o e => ?_, fun b o e => ?_⟩, os, bare⟩
      · by_cases hb : b ∈ tbP K lams
        · obtain ⟨x, hx, ep⟩ := List.mem_map.mp hb
          obtain ⟨more, hm⟩ := grown x hx
          have ep' : (He.cT K (x, none)).2 = b := ep
          rw [← ep'] at e ⊢
          rw [hT x hx] at e
          cases e
          exact .inr (.inl ⟨((PySem.W.codeHd_of_K inK (hC x hx)).tab (hT x hx)).isCodeTable, rfl, #[], more, rfl, by rw [Array.empty_append]; exact hm⟩)
        · exact .inl (key b o hb e)
      · by_cases hb : b ∈ tbP K lams
        · obtain ⟨x, hx, ep⟩ := List.mem_map.mp hb
          obtain ⟨more, hm⟩ := grown x hx
          have ep' : (He.cT K (x, none)).2 = b := ep
          rw [← ep']
          exact ⟨_, hm⟩
        · exact ⟨o, key b o hb e⟩

/-! ### constants, names: seen in K -/
mutual
def conV (K : PySem.W.Frag) : D → Value → Bool
  | .non, v => match v with
    | .none => true
    | _ => false
  | .bl b, v => match v with
    | .bool c => decide (b = c)
    | _ => false
  | .int i, v => match v with
    | .int j _ => decide (i = j)
    | _ => false
  | .str cs, v => match v with
    | .str y _ => decide ((⟨cs.toArray⟩ : Str) = y) && okS cs
    | _ => false
  | .tup ds, v => match v with
    | .ref a => (match K.lookup a with
      | some ⟨.type c, _, .seq its _, _⟩ => decide (c = "tuple") && (decide (its.size ≤ sizeLine) && conVs K ds its.toList)
      | _ => false)
    | _ => false
  | .ref _, _ => false
def conVs (K : PySem.W.Frag) : List D → List Value → Bool
  | [], vs => match vs with
    | [] => true
    | _ => false
  | d :: ds, vs => match vs with
    | v :: vs => conV K d v && conVs K ds vs
    | _ => false
end
mutual
theorem conV_ok {K : PySem.W.Frag} : ∀ (d : D) (u : Value), conV K d u = true → ∃ v, RelV v u ∧ ∀ μ H, RelD K μ H d v
  | .non, u, h => by
    unfold conV at h
    split at h
    · exact ⟨.non, rfl, fun _ _ => relNon⟩
    · cases h
  | .bl b, u, h => by
    unfold conV at h
    split at h
    · rw [of_decide_eq_true h]; exact ⟨.bl _, rfl, fun _ _ => relBl⟩
    · cases h
  | .int i, u, h => by
    unfold conV at h
    split at h
    · rw [of_decide_eq_true h]; exact ⟨.int _, ⟨_, rfl⟩, fun _ _ => relInt⟩
    · cases h
  | .str cs, u, h => by
    unfold conV at h
    split at h
    · simp only [Bool.and_eq_true] at h
      exact ⟨.str ⟨cs.toArray⟩, by rw [of_decide_eq_true h.1]; exact ⟨_, rfl⟩, fun _ _ => relStr h.2⟩
    · cases h
  | .tup ds, u, h => by
    unfold conV at h
    split at h
    · split at h
      · rename_i q
        simp only [Bool.and_eq_true] at h
        obtain ⟨h1, h2, h3⟩ := h
        obtain ⟨vs, rv, rd⟩ := conVs_ok ds _ h3
        exact ⟨.ref _, rfl, fun μ H => relTup (.inr ⟨_, _, _, q, congrArg Value.type (of_decide_eq_true h1), rfl, of_decide_eq_true h2, rv⟩) (rd μ H)⟩
      · cases h
    · cases h
  | .ref _, u, h => by unfold conV at h; cases h
theorem conVs_ok {K : PySem.W.Frag} : ∀ (ds : List D) (us : List Value), conVs K ds us = true → ∃ vs, Vals vs us ∧ ∀ μ H, RelDs K μ H ds vs
  | [], us, h => by
    unfold conVs at h
    split at h
    · exact ⟨[], .nil, fun _ _ => relNil⟩
    · cases h
  | d :: ds, us, h => by
    unfold conVs at h
    split at h
    · simp only [Bool.and_eq_true] at h
      obtain ⟨v, r, q⟩ := conV_ok d _ h.1
      obtain ⟨vs, rs, qs⟩ := conVs_ok ds _ h.2
      exact ⟨v :: vs, .cons r rs, fun μ H => relCons (q μ H) (qs μ H)⟩
    · cases h
end
/-- no list of numbers in K -/
def isInt : Value → Bool
  | .int _ _ => true
  | _ => false
def noInts (K : PySem.W.Frag) : Bool := K.all fun q => match q.2 with
  | ⟨.type c, none, .seq its _, _⟩ => !(decide (c = "list") && its.toList.all isInt)
  | _ => true
theorem ints_all {vs : List Value} {ns : List Int} (h : IntsAre vs ns) : vs.all isInt = true := by
  induction h with
  | nil => rfl
  | cons _ _ _ ih => rw [List.all_cons, ih]; rfl
theorem noInts_ok {K : PySem.W.Frag} {h : Heap} {a : Addr} {vs : List Value} {ns : List Int} (inK : K.In h) (c : noInts K = true) (at_ : h.get? a = some (scO vs)) (hns : IntsAre vs ns) : K.lookup a = none := by
  cases e : K.lookup a with
  | none => rfl
  | some o =>
    have e2 := inK a o e
    rw [at_] at e2
    cases e2
    have := List.all_eq_true.mp c _ (He.lookup_mem e)
    simp [ints_all hns] at this
def conB (K : PySem.W.Frag) (p : Str × D) : Bool := match PySem.W.nsIn K mainGlobals p.1 with
  | some (some u) => conV K p.2 u
  | _ => false
/-! ### own exceptions, seen in K -/
/-- an own exception: its class, its field, what it rests on, the first parameter's name, its __init__ in the text -/
structure ExD where
  x : Str
  f : Option Str
  b : Bs
  sf : Str
  st : Stmt
def exShape (K : PySem.W.Frag) (b : Bs) (C : Addr) : Bool := match K.lookup C with
  | some ⟨.type t, _, .cls cd, sl⟩ => decide (t = "type") && (match cd.mro, sl.toList with
    | .ref c' :: bm, [_, _, _, _, some (.builtin n), _] => decide (c' = C) && (decide (n = b.newId) && (!cd.hasDel && (cd.hasDict && mroB b bm)))
    | _, _ => false)
  | _ => false
theorem exShape_ok {K : PySem.W.Frag} {b : Bs} {C : Addr} (h : exShape K b C = true) : ∃ nm q N bs bm sn sub ab col dd k0 k1 k2 k3 k5, K.lookup C = some (excClassObj nm q C N bs bm true sn sub ab col dd k0 k1 k2 k3 k5 b.newId) ∧ mroB b bm = true := by
  unfold exShape at h
  split at h
  · rename_i t dd cd sl ho
    obtain ⟨h0, h⟩ := band h
    split at h
    · rename_i c' bm k0 k1 k2 k3 n k5 hm hs
      simp only [Bool.and_eq_true] at h
      obtain ⟨h1, h2, h3, h4, h5⟩ := h
      have e0 := of_decide_eq_true h0
      have e1 := of_decide_eq_true h1
      have e2 := of_decide_eq_true h2
      obtain ⟨nm, bs, mro, ns, qn, hd, sn, sub, ab, col, del⟩ := cd
      dsimp only at hm h3 h4
      have e3 : del = false := by simpa using h3
      subst e0 e1 e2 e3 hm h4
      have hsl : sl = #[k0, k1, k2, k3, some (.builtin b.newId), k5] := by
        obtain ⟨l⟩ := sl
        simp only at hs
        rw [hs]
      subst hsl
      exact ⟨nm, qn, ns, bs, bm, sn, sub, ab, col, dd, k0, k1, k2, k3, k5, ho, h5⟩
    · cases h
  · cases h
def exB (K : PySem.W.Frag) (d : ExD) : Bool := He.Fa.ok K (.glo d.x) && (PySem.W.keepIn K (.ref (He.ga K d.x)) && (decide (PySem.W.typeIn K (.ref (He.ga K d.x)) = some (.type "type")) && (decide (PySem.W.subIn K (.ref (He.ga K d.x)) (.type "BaseException") = some true) && (match d.f with
  | none => PySem.W.excIn K (He.ga K d.x) d.b.tail d.b.newId
  | some f => exShape K d.b (He.ga K d.x) && (He.eqO (PySem.W.findIn K (.ref (He.ga K d.x)) "__setattr__") (some (some (.builtin "object.__setattr__"))) && (He.eqO (PySem.W.findIn K (.ref (He.ga K d.x)) f) (some none) &&
      (He.eqO (PySem.W.findIn K (.ref (He.ga K d.x)) "__init__") (some (some (.ref (He.ma K (He.ga K d.x) "__init__")))) && (decide (PySem.W.typeIn K (.ref (He.ma K (He.ga K d.x) "__init__")) = some (.type "function")) && xfB K (He.ga K d.x)))))))))
/-- of the text alone: __init__'s form -/
def exT (d : ExD) : Bool := match d.f with
  | none => true
  | some f => initB d.sf f (defBody d.st) && (decide ((defScope d.st).kind = .function) && (!(defScope d.st).isCoroutine && (!(defScope d.st).isGenerator && (decide ((defScope d.st).names.lookup d.sf = some .local) && (decide ((defScope d.st).names.lookup f = some .local) &&
      (decide (d.sf ≠ f) && (!(d.sf == ("__debug__" : Str)) && !(f == ("__debug__" : Str)))))))))
/-- an except clause's name; own class or not -/
structure HdD where
  x : Str
  own : Bool
  ms : List Nat
def hdV (K : PySem.W.Frag) (d : HdD) : Value := if d.own = true then .ref (He.ga K d.x) else .type (String.ofList (d.x.cps.toList.map Char.ofNat))
def hdB (K : PySem.W.Frag) (es : List ExD) (d : HdD) : Bool := (if d.own = true then He.Fa.ok K (.glo d.x) else He.Fa.ok K (.free d.x)) && (List.range es.length).all fun k => decide (PySem.W.exmOne K (.ref (He.ga K ((es.map ExD.x).getD k ""))) (hdV K d) = some (d.ms.contains k)) && decide (PySem.W.kitOne K (.ref (He.ga K ((es.map ExD.x).getD k ""))) (hdV K d) = some (d.ms.contains k))
def hdT (d : HdD) : Bool := d.own || (decide (bootBuiltins d.x = some (.type (String.ofList (d.x.cps.toList.map Char.ofNat)))) && decide (d.x ≠ "__name__"))
def ckK (cons : List (Str × D)) (es : List ExD) (hds : List HdD) (K : PySem.W.Frag) : Bool := noInts K && (cons.all (conB K) && (es.all (fun d => exB K d && kxB K (He.ga K d.x)) && hds.all (hdB K es)))
def gcOf (es : List ExD) (K : PySem.W.Frag) : Gc := ⟨fun c => He.ga K ((es.map ExD.x).getD c ""), fun c => match (es.map ExD.f).getD c none with | some f => [f] | none => []⟩
theorem exTxt_of {K : PySem.W.Frag} {h : Heap} {mg : Str → Option Value} {d : ExD} {f : Str} {fd : FuncData} (inK : K.In h) (nsM : h.Ns mainGlobals mg) (c : exB K d = true) (t : exT d = true) (hf : d.f = some f)
    (F : ∃ nm qual, FunD K nm qual (defArgs d.st) (defBody d.st) (defScope d.st) [] [] (He.ma K (He.ga K d.x) "__init__") fd) (bd : ∀ (s : Shared) (u v : Value), BindsTo s fd ⟨[u, v], []⟩ [(d.sf, u), (f, v)]) : ExTxt K mg d.b d.x f d.sf (He.ga K d.x) (He.ma K (He.ga K d.x) "__init__") := by
  unfold exB at c
  unfold exT at t
  rw [hf] at c t
  dsimp only at c t
  simp only [Bool.and_eq_true] at c t
  obtain ⟨c1, c2, c3, c4, c5, c6, c7, c8, c9, c10⟩ := c
  obtain ⟨t1, t2, t3, t4, t5, t6, t7, t8, t9⟩ := t
  obtain ⟨nm, qual, F⟩ := F
  obtain ⟨oc, od, dV, kV, doc, pm, an, cdv, ct, osl, rfl, lk, hcd, hD, hK⟩ := F.ex
  exact ⟨He.glo_ok inK nsM c1, exShape_ok c5, He.eqO_ok c6, He.eqO_ok c7, He.eqO_ok c8, of_decide_eq_true c9, c2, xfB_ok c10, of_decide_eq_true c3,
    ⟨oc, od, nm, qual, defArgs d.st, defBody d.st, defScope d.st, dV, kV, doc, pm, an, cdv, ct, osl, lk, hcd, t1, of_decide_eq_true t2, by simpa using t3, by simpa using t4, of_decide_eq_true t5, of_decide_eq_true t6, of_decide_eq_true t7, by simpa using t8, by simpa using t9, bd⟩⟩
theorem cons_ok {K : PySem.W.Frag} {h : Heap} {mg : Str → Option Value} {cons : List (Str × D)} (inK : K.In h) (nsM : h.Ns mainGlobals mg) (c : cons.all (conB K) = true) (g : Nat) (x : Str) (d : D) (e : cons[g]? = some (x, d)) : ∃ v u, mg x = some u ∧ RelV v u ∧ ∀ μ H, RelD K μ H d v := by
  have := List.all_eq_true.mp c _ (List.mem_of_getElem? e)
  unfold conB at this
  split at this
  · rename_i u q
    obtain ⟨v, r, z⟩ := conV_ok d u this
    exact ⟨v, u, PySem.W.mg_of inK nsM q, r, z⟩
  · cases this
end Fe

set_option maxHeartbeats 4000000
/-! Fe 19: a law from its trees. -/
namespace Fe
open PySem PySem.Spec PyProof.Rows L2
/-! ### a def, seen in K -/
def gtA (K : PySem.W.Frag) (c : Cl) (m : Str) : Addr := match PySem.W.recIn K (He.ma K (He.ga K c.x) m) "property" with
  | some (.ref g :: _) => g
  | _ => 0
def adOf (K : PySem.W.Frag) (d : Fd) : Addr := match d.kd with
  | .fn => He.ga K d.name
  | .lm => He.ga K d.name
  | .mt c => He.ma K (He.ga K c.x) d.name
  | .mk c => He.ma K (He.ga K c.x) d.name
  | .sp c => He.ma K (He.ga K c.x) d.name
  | .pr c => gtA K c d.name
def qualOf (d : Fd) : Str := match d.kd with
  | .fn => d.name
  | .lm => d.name
  | .mt c => c.x ++ ("." ++ d.name)
  | .mk c => c.x ++ ("." ++ d.name)
  | .sp c => c.x ++ ("." ++ d.name)
  | .pr c => c.x ++ ("." ++ d.name)
def fnWat (K : PySem.W.Frag) (a : Addr) : He.FnW := match K.lookup a with
  | some ⟨_, _, .func fd, _⟩ => some (fd.name, fd.qualname, fd.params, fd.body, fd.scope, fd.globals, fd.closure, fd.builtins)
  | _ => none
def gdOk (K : PySem.W.Frag) (d : Fd) : Bool := PySem.W.keepIn K (.ref (adOf K d)) && (match K.lookup (adOf K d) with
  | some ⟨_, _, .func fd, _⟩ => PySem.W.codeIn K fd.code (qualOf d) && (He.dflB K fd.defaults [] && He.kwdB K fd.kwdefaults [])
  | _ => false)
def gdVal (d : Fd) (st : Stmt) : He.FnW := some (d.name, qualOf d, defArgs st, .stmts (defBody st), defScope st, mainGlobals, [], builtinsNs)
theorem gd_funD {K : PySem.W.Frag} {d : Fd} {st : Stmt} {a : Addr} (ea : adOf K d = a) (e : fnWat K a = gdVal d st) (c : gdOk K d = true) : ∃ fd, FunD K d.name (qualOf d) (defArgs st) (defBody st) (defScope st) [] [] a fd := by
  unfold gdOk at c
  rw [ea] at c
  obtain ⟨kp, c2⟩ := band c
  unfold fnWat at e
  cases q : K.lookup a with
  | none =>
    rw [q] at c2
    cases c2
  | some o =>
    obtain ⟨oc, od, dt, osl⟩ := o
    rw [q] at c2 e
    cases dt with
    | func fd =>
      obtain ⟨n1, n2, n3, n4, n5, n6, n7, n8, n9, n10, n11, n12, n13, n14, n15⟩ := fd
      have e2 : (some (n1, n2, n3, n4, n5, n6, n7, n15) : He.FnW) = some (d.name, qualOf d, defArgs st, .stmts (defBody st), defScope st, mainGlobals, [], builtinsNs) := e
      simp only [Option.some.injEq, Prod.mk.injEq] at e2
      obtain ⟨h1, h2, h3, h4, h5, h6, h7, h8⟩ := e2
      subst h1 h2 h3 h4 h5 h6 h7 h8
      have c3 : (PySem.W.codeIn K n13 (qualOf d) && (He.dflB K n8 [] && He.kwdB K n9 [])) = true := c2
      obtain ⟨k1, k2⟩ := band c3
      obtain ⟨k3, k4⟩ := band k2
      exact ⟨_, ⟨oc, od, n8, n9, n10, n11, n12, n13, n14, osl, rfl, q, k1, He.dflB_ok k3, He.kwdB_ok k4⟩, kp⟩
    | _ => cases c2
/-! ### classes, seen in K -/
def clB (K : PySem.W.Frag) (c : Cl) : Bool := He.Fa.ok K (.cls c.x) && ((c.fl.all fun f => He.Fa.ok K (.noat c.x f)) && decide (c.fl.length < 1000))
theorem clB_ok {K : PySem.W.Frag} {c : Cl} (h : clB K c = true) : ClOk K c := by
  unfold clB at h
  obtain ⟨h1, h⟩ := band h
  obtain ⟨h2, h3⟩ := band h
  exact ⟨He.cls_ok h1, fun f hf => He.noat_ok (List.all_eq_true.mp h2 f hf), of_decide_eq_true h3⟩
def kdB (K : PySem.W.Frag) (d : Fd) : Bool := match d.kd with
  | .fn => He.Fa.ok K (.glo d.name)
  | .lm => He.Fa.ok K (.glo d.name)
  | .mt c => He.Fa.ok K (.meth c.x d.name) && !c.fl.contains d.name
  | .mk c => He.Fa.ok K (.mkr c.x) && (He.Fa.ok K (.glo c.x) && (clB K c && decide (d.name = "__init__")))
  | .sp c => He.eqO (PySem.W.findIn K (.ref (He.ga K c.x)) d.name) (some (some (.ref (He.ma K (He.ga K c.x) d.name)))) && (PySem.W.isFn K (.ref (He.ma K (He.ga K c.x) d.name)) && PySem.W.fnIn K (He.ma K (He.ga K c.x) d.name))
  | .pr c => He.eqO (PySem.W.findIn K (.ref (He.ga K c.x)) d.name) (some (some (.ref (He.ma K (He.ga K c.x) d.name)))) && (He.eqO (PySem.W.specialIn K (.ref (He.ma K (He.ga K c.x) d.name)) "__get__") (some (some (.builtin "property.__get__"))) &&
      (decide (PySem.W.takesIn K (.ref (He.ma K (He.ga K c.x) d.name)) = some true) && (match PySem.W.recIn K (He.ma K (He.ga K c.x) d.name) "property" with
        | some (.ref _ :: _) => true
        | _ => false)))
theorem kdB_ok {K : PySem.W.Frag} {h : Heap} {mg : Str → Option Value} {d : Fd} (inK : K.In h) (nsM : h.Ns mainGlobals mg) (c : kdB K d = true) (kp : PySem.W.keepIn K (.ref (adOf K d)) = true) : KdOk K mg d.kd d.name (adOf K d) := by
  obtain ⟨name, ps, N, body, kd⟩ := d
  cases kd with
  | fn => exact ⟨He.glo_ok inK nsM c, kp⟩
  | lm => exact ⟨He.glo_ok inK nsM c, kp⟩
  | mt cl =>
    obtain ⟨c1, c2⟩ := band c
    exact ⟨He.meth_ok c1, by simpa using c2⟩
  | mk cl =>
    obtain ⟨c1, c5⟩ := band c
    obtain ⟨c2, c6⟩ := band c5
    obtain ⟨c3, c4⟩ := band c6
    have e : name = "__init__" := of_decide_eq_true c4
    subst e
    exact ⟨He.mkr_ok c1, He.glo_ok inK nsM c2, clB_ok c3⟩
  | sp cl =>
    obtain ⟨c1, c2⟩ := band c
    obtain ⟨c2, c3⟩ := band c2
    exact ⟨He.eqO_ok c1, c2, c3⟩
  | pr cl =>
    obtain ⟨c1, c2⟩ := band c
    obtain ⟨c2, c3⟩ := band c2
    obtain ⟨c3, c4⟩ := band c3
    refine ⟨He.ma K (He.ga K cl.x) name, He.eqO_ok c1, He.eqO_ok c2, of_decide_eq_true c3, ?_⟩
    show ∃ rest, PySem.W.recIn K _ "property" = some (.ref (gtA K cl name) :: rest)
    unfold gtA
    split at c4
    · rename_i g rest e
      dsimp only at e ⊢
      rw [e]
      exact ⟨rest, rfl⟩
    · cases c4
/-! ### the text -/
def okDef (C : Ck) (d : Fd) (st : Stmt) : Bool := scB d.N d.ps (defScope st) && chkD C d (defScope st) (defBody st)
abbrev Bd (d : Fd) (st : Stmt) : Prop := ∀ (kV doc pm : Value) (an : Option Addr) (cdv ct : Value) (us : List Value), us.length = d.ps.length → bindArgs (PySem.W.fnOf d.name (qualOf d) (defArgs st) (defBody st) (defScope st) .none kV doc pm an cdv ct) ⟨us, []⟩ = pure (d.ps.zip us)
/-- all defs, each with its text -/
inductive AllOk (C : Ck) : List Fd → List Stmt → Prop
  | nil : AllOk C [] []
  | cons {d st T tops} : okDef C d st = true → Bd d st → AllOk C T tops → AllOk C (d :: T) (st :: tops)
abbrev ckOf (T : List Fd) (cons : List (Str × D)) (free : List Str) (es : List ExD) (hds : List HdD) (lams : List Str := []) : Ck := { lams := lams, fns := T.map fun d => (d.kd, d.name, d.ps.length), cons := cons, free := free, exc := es.map fun d => (d.x, d.f), hds := hds.map fun d => (d.x, d.ms) }
def exDf (d : ExD) : Option He.DefD := match d.f with
  | some _ => some ⟨(d.x, some "__init__"), "__init__", d.x ++ ".__init__", defArgs d.st, defBody d.st, defScope d.st, [], []⟩
  | none => none
abbrev dfsOf (es : List ExD) : List He.DefD := es.filterMap exDf
abbrev fasOf (free : List Str) : List He.Fa := free.map He.Fa.free
abbrev tfOf (lams : List Str) : List He.Defn := lams.map fun x => (x, none)
def ckY (T : List Fd) (cons : List (Str × D)) (es : List ExD) (hds : List HdD) (lams : List Str) (K : PySem.W.Frag) : Bool := ckK cons es hds K && ((T.all fun d => gdOk K d && kdB K d) && decide (tbP K lams).Nodup)
def obY (n : Nat) (T : List Fd) (cons : List (Str × D)) (free : List Str) (es : List ExD) (hds : List HdD) (lams : List Str) (g : Addr → Option Obj) : He.AlX × List He.FnW :=
  (He.obsX n (fasOf free) (dfsOf es) [] (tfOf lams) (ckY T cons es hds lams) g, T.map fun d => fnWat (He.frT g (He.asD g n)) (adOf (He.frT g (He.asD g n)) d))
def hkOf (n : Nat) (T : List Fd) (tops : List Stmt) (cons : List (Str × D)) (free : List Str) (es : List ExD) (hds : List HdD) (lams : List Str) : PySem.W.Hook where
  α := He.AlX × List He.FnW
  obs := fun s => obY n T cons free es hds lams s.heap.get?
  val := fun w => (He.valX (dfsOf es) [] w, List.zipWith gdVal T tops)
  says := fun w h => ∃ K : PySem.W.Frag, K.In h ∧ He.SaysX (fasOf free) (dfsOf es) [] (tfOf lams) (ckY T cons es hds lams) w h K ∧ (T.map fun d => fnWat K (adOf K d)) = List.zipWith gdVal T tops
  of := fun _ _ e => ⟨_, He.frT_in, He.saysX_of (congrArg (fun z : He.AlX × List He.FnW => z.1) e), congrArg (fun z : He.AlX × List He.FnW => z.2) e⟩
  keeps := fun _ _ _ ⟨K, hK, c, z⟩ k => ⟨K, PySem.W.Frag.In.keeps hK k, ⟨c.t, c.more, c.hd, c.out, fun p hp => k _ _ (c.empty p hp)⟩, z⟩
theorem obY_eq {n : Nat} {T : List Fd} {tops : List Stmt} {cons : List (Str × D)} {free : List Str} {es : List ExD} {hds : List HdD} {lams : List Str} {g : Addr → Option Obj} {s : Shared} (h : ∀ a, g a = s.heap.get? a) : obY n T cons free es hds lams g = (hkOf n T tops cons free es hds lams).obs s := by
  have e : g = s.heap.get? := funext h
  rw [e] <;> rfl
abbrev ExBd (d : ExD) : Prop := ∀ f, d.f = some f → ∀ (kV doc pm : Value) (an : Option Addr) (cdv ct u v : Value), bindArgs (PySem.W.fnOf "__init__" (d.x ++ ".__init__") (defArgs d.st) (defBody d.st) (defScope d.st) .none kV doc pm an cdv ct) ⟨[u, v], []⟩ = pure [(d.sf, u), (f, v)]
inductive AllEx : List ExD → Prop
  | nil : AllEx []
  | cons {d es} : exT d = true → ExBd d → AllEx es → AllEx (d :: es)
theorem allEx_get : ∀ {es : List ExD}, AllEx es → ∀ d ∈ es, exT d = true ∧ ExBd d
  | _, .nil, d, h => by cases h
  | _, .cons a b c, d, h => by
    rcases List.mem_cons.mp h with e | h
    · subst e; exact ⟨a, b⟩
    · exact allEx_get c d h
theorem allOk_get {C : Ck} {f : Fd → He.FnW} : ∀ {T : List Fd} {tops : List Stmt}, AllOk C T tops → T.map f = List.zipWith gdVal T tops → ∀ d ∈ T, ∃ st, f d = gdVal d st ∧ okDef C d st = true ∧ Bd d st
  | _, _, .nil, _, d, h => by cases h
  | _, _, .cons a b c, e, d, h => by
    rw [List.map_cons, List.zipWith_cons_cons] at e
    obtain ⟨e1, e2⟩ := List.cons.inj e
    rcases List.mem_cons.mp h with q | h
    · subst q
      exact ⟨_, e1, a, b⟩
    · exact allOk_get c e2 d h
theorem exs_of {K : PySem.W.Frag} {h : Heap} {mg : Str → Option Value} {fa : List He.Fa} {es : List ExD} (inK : K.In h) (nsM : h.Ns mainGlobals mg) (cd : He.SaysD fa (dfsOf es) K) (c : es.all (exB K) = true) (al : AllEx es)
    (X : Cx) (eK : X.K = K) (eM : X.mg = mg) (k : Nat) (x : Str) (fo : Option Str) (e : (es.map fun d => (d.x, d.f))[k]? = some (x, fo)) : ExUse X (gcOf es K) k x fo := by
  subst eK eM
  rw [List.getElem?_map] at e
  cases q : es[k]? with
  | none => rw [q] at e; cases e
  | some d =>
    rw [q] at e
    cases e
    have hm := List.mem_of_getElem? q
    obtain ⟨t1, t2⟩ := allEx_get al d hm
    have cB := List.all_eq_true.mp c d hm
    have eC : (gcOf es X.K).cls k = He.ga X.K d.x := by
      show He.ga X.K ((es.map ExD.x).getD k "") = _
      rw [List.getD_eq_getElem?_getD, List.getElem?_map, q]; rfl
    have eF : (gcOf es X.K).flds k = match d.f with | some f => [f] | none => [] := by
      show (match (es.map ExD.f).getD k none with | some f => [f] | none => []) = _
      rw [List.getD_eq_getElem?_getD, List.getElem?_map, q]; rfl
    cases hf : d.f with
    | some f =>
      rw [hf] at eF
      have hd : (⟨(d.x, some "__init__"), "__init__", d.x ++ ".__init__", defArgs d.st, defBody d.st, defScope d.st, [], []⟩ : He.DefD) ∈ dfsOf es := by
        refine List.mem_filterMap.mpr ⟨d, hm, ?_⟩
        unfold exDf
        rw [hf]
      obtain ⟨fd, F⟩ := cd.defs hd
      have F' : FunD X.K "__init__" (d.x ++ ".__init__") (defArgs d.st) (defBody d.st) (defScope d.st) [] [] (He.ma X.K (He.ga X.K d.x) "__init__") fd := F
      have bd : ∀ (s : Shared) (u v : Value), BindsTo s fd ⟨[u, v], []⟩ [(d.sf, u), (f, v)] := fun s u v => by
        obtain ⟨oc, od, dV, kV, doc, pm, an, cdv, ct, osl, rfl, lk, hcd, hD, hK⟩ := F'.ex
        rcases hD with ⟨_, rfl⟩ | ⟨e, _⟩
        · exact .of_eq (t2 f hf kV doc pm an cdv ct u v)
        · exact absurd rfl e
      refine ⟨d.b, d.sf, He.ma X.K (He.ga X.K d.x) "__init__", ?_, eF⟩
      rw [eC]
      exact exTxt_of inK nsM cB t1 hf ⟨_, _, F'⟩ bd
    | none =>
      unfold exB at cB
      rw [hf] at cB
      dsimp only at cB
      simp only [Bool.and_eq_true] at cB
      obtain ⟨c1, c2, c3, c4, c5⟩ := cB
      refine ⟨d.b, ?_, ?_, ?_, ?_⟩ <;> rw [eC]
      · exact c5
      · exact He.glo_ok inK nsM c1
      · exact c2
      · exact raises_own (of_decide_eq_true c4) (of_decide_eq_true c3)
theorem hdl_of {K : PySem.W.Frag} {h : Heap} {mg : Str → Option Value} {es : List ExD} {hds : List HdD} (inK : K.In h) (nsM : h.Ns mainGlobals mg) (c : hds.all (hdB K es) = true) (t : hds.all hdT = true)
    (k : Nat) (x : Str) (ms : List Nat) (e : (hds.map fun d => (d.x, d.ms))[k]? = some (x, ms)) : ∃ cv, (mg x = some cv ∨ (mg x = none ∧ bootBuiltins x = some cv ∧ x ≠ "__name__")) ∧ HdV cv ∧ ∀ j, j < (es.map fun d => (d.x, d.f)).length → HdAns K (.ref ((gcOf es K).cls j)) cv (ms.contains j) := by
  rw [List.getElem?_map] at e
  cases q : hds[k]? with
  | none => rw [q] at e; cases e
  | some d =>
    rw [q] at e
    cases e
    have hm := List.mem_of_getElem? q
    have cB := List.all_eq_true.mp c d hm
    have tB := List.all_eq_true.mp t d hm
    unfold hdB at cB
    obtain ⟨c1, c2⟩ := band cB
    refine ⟨hdV K d, ?_, ?_, fun j hj => ?_⟩
    · unfold hdV
      by_cases ho : d.own = true
      · rw [if_pos ho] at c1 ⊢
        exact .inl (He.glo_ok inK nsM c1)
      · rw [if_neg ho] at c1 ⊢
        unfold hdT at tB
        rw [Bool.or_eq_true] at tB
        rcases tB with tB | tB
        · exact absurd tB ho
        · obtain ⟨b1, b2⟩ := band tB
          exact .inr ⟨He.free_ok inK nsM c1, of_decide_eq_true b1, of_decide_eq_true b2⟩
    · unfold hdV
      split
      · exact .inl ⟨_, rfl⟩
      · exact .inr ⟨_, rfl⟩
    · rw [List.length_map] at hj
      obtain ⟨q1, q2⟩ := band (List.all_eq_true.mp c2 j (List.mem_range.mpr hj))
      exact ⟨of_decide_eq_true q1, of_decide_eq_true q2⟩
theorem progOk_of {K : PySem.W.Frag} {w : World} {h : Heap} {mg : Str → Option Value} {T : List Fd} {tops : List Stmt} {cons : List (Str × D)} {free : List Str} {es : List ExD} {hds : List HdD} {lams : List Str} (inK : K.In h) (nsM : h.Ns mainGlobals mg)
    (c : He.SaysX (fasOf free) (dfsOf es) [] (tfOf lams) (ckY T cons es hds lams) w h K) (z : (T.map fun d => fnWat K (adOf K d)) = List.zipWith gdVal T tops) (ok : AllOk (ckOf T cons free es hds lams) T tops) (al : AllEx es) (th : hds.all hdT = true) :
    ProgOk (ckOf T cons free es hds lams) T K mg (gcOf es K) ∧ noInts K = true ∧ (tbP K lams).Nodup ∧ ∀ d ∈ T, ∃ fd, DefOk (ckOf T cons free es hds lams) K mg d (adOf K d) fd ∧ ∀ (s : Shared) (us : List Value), us.length = d.ps.length → BindsTo s fd ⟨us, []⟩ (d.ps.zip us) := by
  have cd : He.SaysD (fasOf free) (dfsOf es) K := c.t.d
  obtain ⟨n0, nT⟩ := band c.more
  obtain ⟨nT, nd⟩ := band nT
  obtain ⟨n1, n2⟩ := band n0
  obtain ⟨n2, n3⟩ := band n2
  obtain ⟨n3, n4⟩ := band n3
  have n5 : ∀ d ∈ es, exB K d = true ∧ kxB K (He.ga K d.x) = true := fun d hd => band (List.all_eq_true.mp n3 d hd)
  have n3 : es.all (exB K) = true := List.all_eq_true.mpr fun d hd => (n5 d hd).1
  have key : ∀ d ∈ T, ∃ fd, DefOk (ckOf T cons free es hds lams) K mg d (adOf K d) fd ∧ ∀ (s : Shared) (us : List Value), us.length = d.ps.length → BindsTo s fd ⟨us, []⟩ (d.ps.zip us) := fun d hd => by
    obtain ⟨st, h1, h2, h3⟩ := allOk_get ok z d hd
    obtain ⟨k1, k2⟩ := band h2
    obtain ⟨g1, g2⟩ := band (List.all_eq_true.mp nT d hd)
    obtain ⟨fd, F⟩ := gd_funD rfl h1 g1
    have fq : (d.kd = .fn ∨ d.kd = .lm) → qualOf d = d.name ∧ adOf K d = He.ga K d.name := fun h => by
      unfold qualOf adOf
      rcases h with h | h <;> rw [h] <;> exact ⟨rfl, rfl⟩
    exact ⟨fd, ⟨⟨_, _, _, _, F, k1, k2, fq⟩, kdB_ok inK nsM g2 F.kp, F.bindsN h3⟩, F.bindsA h3⟩
  refine ⟨⟨rfl, fun d hd => ?_, cons_ok inK nsM n2, fun x hx => He.free_ok inK nsM (cd.facts (List.mem_map.mpr ⟨x, hx, rfl⟩)), fun X e1 e2 => exs_of inK nsM cd n3 al X e1 e2, hdl_of inK nsM n4 th, fun c hc => ?_⟩, n1, of_decide_eq_true nd, key⟩
  · obtain ⟨fd, h1, _⟩ := key d hd
    exact ⟨_, fd, h1⟩
  · have hc : c < (es.map fun d => (d.x, d.f)).length := hc
    rw [List.length_map] at hc
    have eC : (gcOf es K).cls c = He.ga K es[c].x := by
      show He.ga K ((es.map ExD.x).getD c "") = _
      rw [List.getD_eq_getElem?_getD, List.getElem?_map, List.getElem?_eq_getElem hc]; rfl
    rw [eC]
    exact kxB_ok (n5 _ (List.getElem_mem hc)).2
theorem walk_G {l : PySem.W.OpenLaw} {n k m : Nat} {q : Program} {loose : List Str} {XP : (Str → Option Value) → Heap → Prop} {d : DefRec} {x nm : Str} {N : List Str} {body : List St} {T : List Fd} {tops : List Stmt} {cons : List (Str × D)} {free : List Str} {es : List ExD} {hds : List HdD} {lams : List Str}
    (hn : l.most = some n) (hn2 : n ≤ sizeLine) (hdf : d.params.defaults = []) (hnm : d.name = nm) (hr : Room (5 * k) callerA) (ok : AllOk (ckOf (⟨nm, [x], N, body, .fn⟩ :: T) cons free es hds lams) (⟨nm, [x], N, body, .fn⟩ :: T) tops) (al : AllEx es) (th : hds.all hdT = true)
    (law : ∀ ns : List Int, ns.length ≤ n → ∃ s', callF (⟨nm, [x], N, body, .fn⟩ :: T) k 0 [.ref 0] (.rl (ns.map .int) :: lams.map O.tab) = .ok (.bl true) s') :
    PySem.W.WalkO q loose XP (hkOf m (⟨nm, [x], N, body, .fn⟩ :: T) tops cons free es hds lams).says l.row.toRowW d [] (fun f vs => PySem.call f vs) := by
  refine Att.attach_call hn hdf fun w s₀ s₁ mg mb fa o pm cd doc a vs ns G Y ho hd hcd hmg hobj hints hlen hg => ?_
  obtain ⟨K, inK, c, z⟩ := Y
  obtain ⟨P, ni, nd, key⟩ := progOk_of inK G.T.g c z ok al th
  obtain ⟨fd, h1, h2⟩ := key _ List.mem_cons_self
  have e : fa = He.ga K nm := by
    have q := h1.kd.1
    rw [hnm] at hmg
    have q2 := hmg.symm.trans q
    injection q2 with q3
    injection q3
  subst e
  exact law_callG (G := gcOf es K) inK G.T.g G.T.b G.T.builtins G.T.nolimit hg G.T.bmain (fun x hx => c.empty (x, none) (List.mem_map.mpr ⟨x, hx, rfl⟩)) (fun x hx => c.out (x, none) (List.mem_map.mpr ⟨x, hx, rfl⟩)) (fun x hx => c.hd (x, none) (List.mem_map.mpr ⟨x, hx, rfl⟩)) nd hobj hints (Nat.le_trans hlen hn2) hr (noInts_ok inK ni hobj hints) (fun base _ _ TB => prog_ok P TB k 0 _ _ _ rfl h1 (by simp)) (fun s u => h2 s [u] rfl) (law ns hlen)
end Fe

set_option maxHeartbeats 4000000
/-! Fe 20: what trees are worth, step by step. -/
namespace Fe
open PySem PySem.Spec PyProof.Rows
section
variable {Γ : Nat → List D → S → Out D} {ρ : Env} {s : S} {α β : Type}
theorem bind_ok {a : α} {f : α → S → Out β} : (Out.ok a s).bind f = f a s := rfl
theorem bind_exc {x : Xc} {f : α → S → Out β} : (Out.exc x s : Out α).bind f = .exc x s := rfl
theorem lift_ok {a : α} {k : α → S → SOut} : lift (Out.ok a s) ρ k = k a s := rfl
theorem lift_exc {x : Xc} {k : α → S → SOut} : lift (Out.exc x s : Out α) ρ k = .exc x ρ s := rfl
theorem seq_nx {g : Env → S → SOut} : (SOut.nx ρ s).seq g = g ρ s := rfl
theorem seq_rt {d : D} {g : Env → S → SOut} : (SOut.rt d s).seq g = .rt d s := rfl
theorem seq_exc {x : Xc} {g : Env → S → SOut} : (SOut.exc x ρ s).seq g = .exc x ρ s := rfl
/-! values -/
theorem v_non : (sem Γ .non).v ρ s = .ok .non s := rfl
theorem v_bl {b : Bool} : (sem Γ (.bl b)).v ρ s = .ok (.bl b) s := rfl
theorem v_int {i : Int} : (sem Γ (.int i)).v ρ s = .ok (.int i) s := rfl
theorem v_str {c : List Nat} : (sem Γ (.str c)).v ρ s = .ok (.str c) s := rfl
theorem v_var {i : Nat} : (sem Γ (.var i)).v ρ s = lk ρ i s := rfl
theorem v_con {g : Nat} {d : D} : (sem Γ (.con g d)).v ρ s = .ok d s := rfl
theorem v_bin {o : Ar} {a b : E} : (sem Γ (.bin o a b)).v ρ s = ((sem Γ a).v ρ s).bind fun x s => ((sem Γ b).v ρ s).bind fun y s => o.f x y s := rfl
theorem v_neg {a : E} : (sem Γ (.neg a)).v ρ s = ((sem Γ a).v ρ s).bind fun x s => opNeg x s := rfl
theorem v_cmp {o : Cm} {a b : E} : (sem Γ (.cmp o a b)).v ρ s = ((sem Γ a).v ρ s).bind fun x s => ((sem Γ b).v ρ s).bind fun y s => o.f x y s := rfl
theorem v_chn {o o' : Cm} {a b c : E} : (sem Γ (.chn o o' a b c)).v ρ s = ((sem Γ a).v ρ s).bind fun x s => ((sem Γ b).v ρ s).bind fun y s => (asB (o.f x y s)).bind fun q s => if q = true then ((sem Γ c).v ρ s).bind fun z s => o'.f y z s else .ok (.bl false) s := rfl
theorem v_and {es : List E} : (sem Γ (.and es)).v ρ s = andV (sems Γ es) ρ s := rfl
theorem v_or {es : List E} : (sem Γ (.or es)).v ρ s = orV (sems Γ es) ρ s := rfl
theorem v_not {a : E} : (sem Γ (.not a)).v ρ s = ((sem Γ a).v ρ s).bind fun x s => (tru x s).bind fun k s => .ok (.bl (!k)) s := rfl
theorem v_ite {c a b : E} : (sem Γ (.ite c a b)).v ρ s = ((sem Γ c).t ρ s).bind fun k s => if k = true then (sem Γ a).v ρ s else (sem Γ b).v ρ s := rfl
theorem v_tup {es : List E} : (sem Γ (.tup es)).v ρ s = (argsV (sems Γ es) ρ s).bind mkTup := rfl
theorem v_lst {es : List E} : (sem Γ (.lst es)).v ρ s = (argsV (sems Γ es) ρ s).bind mkLst := rfl
theorem v_ix {a b : E} : (sem Γ (.ix a b)).v ρ s = ((sem Γ a).v ρ s).bind fun x s => ((sem Γ b).v ρ s).bind fun y s => opIx x y s := rfl
theorem v_sl {a l h : E} : (sem Γ (.sl a l h)).v ρ s = ((sem Γ a).v ρ s).bind fun x s => ((sem Γ l).o ρ s).bind fun i s => ((sem Γ h).o ρ s).bind fun j s => opSl x i j s := rfl
theorem v_call {f : Nat} {es : List E} : (sem Γ (.call f es)).v ρ s = (argsV (sems Γ es) ρ s).bind (Γ f) := rfl
theorem v_bi {b : Bi} {es : List E} : (sem Γ (.bi b es)).v ρ s = (argsV (sems Γ es) ρ s).bind b.f := rfl
theorem v_isi {t : Ty} {a : E} : (sem Γ (.isi t a)).v ρ s = ((sem Γ a).v ρ s).bind (opIsi t) := rfl
theorem v_me {m : Me} {o : E} {es : List E} : (sem Γ (.me m o es)).v ρ s = ((sem Γ o).v ρ s).bind fun d s => if tyIs m.T s d = true then (argsV (sems Γ es) ρ s).bind fun ds s => m.f d ds s else .bad := rfl
theorem v_lc {e : E} {t : Tp} {it c : E} {own : List Nat} : (sem Γ (.lc e t it c own)).v ρ s = lcV (sem Γ it).i (bnd t) (sem Γ c).t (sem Γ e).v own ρ s := rfl
theorem v_dct {ks vs : List E} : (sem Γ (.dct ks vs)).v ρ s = dctV (pairsOf (sems Γ ks) (sems Γ vs)) ρ s := rfl
theorem v_rev {a : E} : (sem Γ (.rev a)).v ρ s = ((sem Γ a).v ρ s).bind opRev := rfl
theorem v_fld {a : E} {f : Str} : (sem Γ (.fld a f)).v ρ s = ((sem Γ a).v ρ s).bind (fldV f) := rfl
theorem v_mt {c : Cl} {g : Nat} {o : E} {es : List E} : (sem Γ (.mt c g o es)).v ρ s = ((sem Γ o).v ρ s).bind fun d s => if clIs c s d = true then (argsV (sems Γ es) ρ s).bind fun ds s => Γ g (d :: ds) s else .bad := rfl
theorem v_pr {c : Cl} {g : Nat} {o : E} : (sem Γ (.pr c g o)).v ρ s = ((sem Γ o).v ρ s).bind fun d s => if clIs c s d = true then noExcD (Γ g [d] s) else .bad := rfl
theorem v_mk {c : Cl} {g : Nat} {es : List E} : (sem Γ (.mk c g es)).v ρ s = (argsV (sems Γ es) ρ s).bind (mkV c (Γ g)) := rfl
theorem v_oinT {c : Cl} {g : Nat} {a b : E} : (sem Γ (.oin true c g a b)).v ρ s = inV_ c (Γ g) (sem Γ a).v (sem Γ b).v (!·) ρ s := rfl
theorem v_oinF {c : Cl} {g : Nat} {a b : E} : (sem Γ (.oin false c g a b)).v ρ s = inV_ c (Γ g) (sem Γ a).v (sem Γ b).v id ρ s := rfl
theorem v_inV {c : Cl} {F : List D → S → Out D} {fa fb : Env → S → Out D} {g : Bool → Bool} : inV_ c F fa fb g ρ s = (fa ρ s).bind fun x s => (fb ρ s).bind fun y s => if clIs c s y = true then (F [y, x] s).bind (asBl g) else .bad := rfl
theorem v_olen {c : Cl} {g : Nat} {a : E} : (sem Γ (.olen c g a)).v ρ s = ((sem Γ a).v ρ s).bind fun d s => lenOwn c (Γ g) [d] s := rfl
theorem v_lenOwn {c : Cl} {F : List D → S → Out D} {d : D} : lenOwn c F [d] s = if clIs c s d = true then (F [d] s).bind asLen else .bad := rfl
theorem v_obool {c : Cl} {g : Nat} {a : E} : (sem Γ (.obool c g a)).v ρ s = ((sem Γ a).v ρ s).bind fun d s => boolOwn c (Γ g) [d] s := rfl
theorem v_boolOwn {c : Cl} {F : List D → S → Out D} {d : D} : boolOwn c F [d] s = if clIs c s d = true then (F [d] s).bind (asBl id) else .bad := rfl
theorem v_otru {c : Cl} {g : Nat} {a : E} : (sem Γ (.otru c g a)).v ρ s = (sem Γ a).v ρ s := rfl
theorem v_oix {c : Cl} {g : Nat} {a b : E} : (sem Γ (.oix c g a b)).v ρ s = ((sem Γ a).v ρ s).bind fun x s => ((sem Γ b).v ρ s).bind fun y s => if clIs c s x = true then Γ g [x, y] s else .bad := rfl
theorem v_lrg {es : List E} : (sem Γ (.lrg es)).v ρ s = (argsV (sems Γ es) ρ s).bind lstRg := rfl
theorem v_trg {es : List E} : (sem Γ (.trg es)).v ρ s = (argsV (sems Γ es) ρ s).bind tupRg := rfl
theorem v_ostr {c : Cl} {g : Nat} {a : E} : (sem Γ (.ostr c g a)).v ρ s = ((sem Γ a).v ρ s).bind fun d s => strOwn c (Γ g) [d] s := rfl
theorem v_strOwn {c : Cl} {F : List D → S → Out D} {d : D} : strOwn c F [d] s = if clIs c s d = true then (F [d] s).bind asSt else .bad := rfl
theorem v_asSt {c : List Nat} : asSt (.str c) s = .ok (.str c) s := rfl
theorem v_fst {es : List E} : (sem Γ (.fst es)).v ρ s = fstV ((sems Γ es).map Sm.v) [] ρ s := rfl
theorem v_noExc {d : D} : noExcD (.ok d s) = .ok d s := rfl
theorem v_asBl {b : Bool} {g : Bool → Bool} : asBl g (.bl b) s = .ok (.bl (g b)) s := rfl
theorem v_asB {b : Bool} : asB (.ok (.bl b) s) = .ok b s := rfl
theorem v_asTru {b : Bool} : asTru (.bl b) s = .ok b s := rfl
theorem v_asNon {i : Nat} : asNon i .non s = .ok (.ref i) s := rfl
/-! bounds of slices -/
theorem o_no : (sem Γ .no).o ρ s = .ok none s := rfl
theorem o_int {i : Int} : (sem Γ (.int i)).o ρ s = .ok (some i) s := rfl
theorem o_var {i : Nat} : (sem Γ (.var i)).o ρ s = asI (lk ρ i s) := rfl
theorem o_bin {o : Ar} {a b : E} : (sem Γ (.bin o a b)).o ρ s = asI ((sem Γ (.bin o a b)).v ρ s) := rfl
theorem o_neg {a : E} : (sem Γ (.neg a)).o ρ s = asI ((sem Γ (.neg a)).v ρ s) := rfl
theorem o_ite {a b c : E} : (sem Γ (.ite a b c)).o ρ s = asI ((sem Γ (.ite a b c)).v ρ s) := rfl
theorem asI_int {i : Int} : asI (.ok (.int i) s) = .ok (some i) s := rfl
/-! tests -/
theorem t_no : (sem Γ .no).t ρ s = .ok true s := rfl
theorem t_cmp {o : Cm} {a b : E} : (sem Γ (.cmp o a b)).t ρ s = ((sem Γ a).v ρ s).bind fun x s => ((sem Γ b).v ρ s).bind fun y s => asB (o.f x y s) := rfl
theorem t_chn {o o' : Cm} {a b c : E} : (sem Γ (.chn o o' a b c)).t ρ s = ((sem Γ a).v ρ s).bind fun x s => ((sem Γ b).v ρ s).bind fun y s => (asB (o.f x y s)).bind fun q s => if q = true then ((sem Γ c).v ρ s).bind fun z s => asB (o'.f y z s) else .ok false s := rfl
theorem t_and {es : List E} : (sem Γ (.and es)).t ρ s = andT (sems Γ es) ρ s := rfl
theorem t_or {es : List E} : (sem Γ (.or es)).t ρ s = orT (sems Γ es) ρ s := rfl
theorem t_not {a : E} : (sem Γ (.not a)).t ρ s = ((sem Γ a).t ρ s).bind fun k s => .ok (!k) s := rfl
theorem t_call {f : Nat} {es : List E} : (sem Γ (.call f es)).t ρ s = ((sem Γ (.call f es)).v ρ s).bind tru := rfl
theorem t_var {i : Nat} : (sem Γ (.var i)).t ρ s = (lk ρ i s).bind tru := rfl
theorem t_isi {t : Ty} {a : E} : (sem Γ (.isi t a)).t ρ s = ((sem Γ (.isi t a)).v ρ s).bind tru := rfl
theorem t_bi {b : Bi} {es : List E} : (sem Γ (.bi b es)).t ρ s = ((sem Γ (.bi b es)).v ρ s).bind tru := rfl
theorem t_oinT {c : Cl} {g : Nat} {a b : E} : (sem Γ (.oin true c g a b)).t ρ s = asB (inV_ c (Γ g) (sem Γ a).v (sem Γ b).v (!·) ρ s) := rfl
theorem t_oinF {c : Cl} {g : Nat} {a b : E} : (sem Γ (.oin false c g a b)).t ρ s = asB (inV_ c (Γ g) (sem Γ a).v (sem Γ b).v id ρ s) := rfl
theorem t_otru {c : Cl} {g : Nat} {a : E} : (sem Γ (.otru c g a)).t ρ s = ((sem Γ a).v ρ s).bind fun d s => if clIs c s d = true then (Γ g [d] s).bind asTru else .bad := rfl
theorem t_obool {c : Cl} {g : Nat} {a : E} : (sem Γ (.obool c g a)).t ρ s = ((sem Γ (.obool c g a)).v ρ s).bind tru := rfl
theorem t_mt {c : Cl} {g : Nat} {o : E} {es : List E} : (sem Γ (.mt c g o es)).t ρ s = ((sem Γ (.mt c g o es)).v ρ s).bind tru := rfl
theorem t_pr {c : Cl} {g : Nat} {o : E} : (sem Γ (.pr c g o)).t ρ s = ((sem Γ (.pr c g o)).v ρ s).bind tru := rfl
theorem t_fld {a : E} {f : Str} : (sem Γ (.fld a f)).t ρ s = ((sem Γ (.fld a f)).v ρ s).bind tru := rfl
theorem t_tru {b : Bool} : tru (.bl b) s = .ok b s := rfl
/-! lists of trees -/
theorem sems_nil : sems Γ [] = [] := rfl
theorem sems_cons {e : E} {es : List E} : sems Γ (e :: es) = sem Γ e :: sems Γ es := rfl
theorem args_nil : argsV [] ρ s = .ok [] s := rfl
theorem args_cons {m : Sm} {ms : List Sm} : argsV (m :: ms) ρ s = (m.v ρ s).bind fun x s => (argsV ms ρ s).bind fun xs s => .ok (x :: xs) s := rfl
theorem andV_1 {m : Sm} : andV [m] ρ s = m.v ρ s := rfl
theorem andV_2 {m m' : Sm} {ms : List Sm} : andV (m :: m' :: ms) ρ s = (m.v ρ s).bind fun x s => (tru x s).bind fun k s => if k = true then andV (m' :: ms) ρ s else .ok x s := rfl
theorem orV_1 {m : Sm} : orV [m] ρ s = m.v ρ s := rfl
theorem orV_2 {m m' : Sm} {ms : List Sm} : orV (m :: m' :: ms) ρ s = (m.v ρ s).bind fun x s => (tru x s).bind fun k s => if k = true then .ok x s else orV (m' :: ms) ρ s := rfl
theorem andT_1 {m : Sm} : andT [m] ρ s = m.t ρ s := rfl
theorem andT_2 {m m' : Sm} {ms : List Sm} : andT (m :: m' :: ms) ρ s = (m.t ρ s).bind fun k s => if k = true then andT (m' :: ms) ρ s else .ok false s := rfl
theorem orT_1 {m : Sm} : orT [m] ρ s = m.t ρ s := rfl
theorem orT_2 {m m' : Sm} {ms : List Sm} : orT (m :: m' :: ms) ρ s = (m.t ρ s).bind fun k s => if k = true then .ok true s else orT (m' :: ms) ρ s := rfl
/-! iteration -/
theorem v_lam {i f : Nat} {me : Str} {e : E} : (sem Γ (.lam i me f e)).v ρ s = if s[i]? = some (.tab me) then metO (Γ f) ((sem Γ e).v ρ s) else .bad := rfl
theorem i_rng {es : List E} : (sem Γ (.rng es)).i ρ s = (argsV (sems Γ es) ρ s).bind srcR := rfl
theorem i_tup {es : List E} : (sem Γ (.tup es)).i ρ s = ((sem Γ (.tup es)).v ρ s).bind srcOf := rfl
theorem i_var {i : Nat} : (sem Γ (.var i)).i ρ s = (lk ρ i s).bind srcOf := rfl
theorem i_fld {a : E} {f : Str} : (sem Γ (.fld a f)).i ρ s = ((sem Γ (.fld a f)).v ρ s).bind srcOf := rfl
theorem i_mt {c : Cl} {g : Nat} {o : E} {es : List E} : (sem Γ (.mt c g o es)).i ρ s = ((sem Γ (.mt c g o es)).v ρ s).bind srcOf := rfl
theorem i_oix {c : Cl} {g : Nat} {a b : E} : (sem Γ (.oix c g a b)).i ρ s = ((sem Γ (.oix c g a b)).v ρ s).bind srcOf := rfl
theorem i_enu {a : E} : (sem Γ (.enu a)).i ρ s = ((sem Γ a).v ρ s).bind fun d s => srcEn [d] s := rfl
theorem i_call {f : Nat} {es : List E} : (sem Γ (.call f es)).i ρ s = ((sem Γ (.call f es)).v ρ s).bind srcOf := rfl
/-! statements -/
theorem x_retN : exec Γ .retN ρ s = .rt .non s := rfl
theorem x_pass : exec Γ .pass ρ s = .nx ρ s := rfl
theorem x_whl {n : Nat} {c : E} {b : List St} : exec Γ (.whl n c b) ρ s = whW (sem Γ c).t (execs Γ b) n ρ s := rfl
theorem x_setf {o : E} {f : Str} {e : E} : exec Γ (.setf o f e) ρ s = lift ((sem Γ e).v ρ s) ρ fun y s => lift ((sem Γ o).v ρ s) ρ fun d s => match setV f d y s with | some s' => .nx ρ s' | none => .bad := rfl
theorem x_nil : execs Γ [] ρ s = .nx ρ s := rfl
theorem x_cons {a : St} {as : List St} : execs Γ (a :: as) ρ s = (exec Γ a ρ s).seq (execs Γ as) := rfl
theorem x_set {i : Nat} {e : E} : exec Γ (.set i e) ρ s = lift ((sem Γ e).v ρ s) ρ fun d s => .nx (ρ.set i (some d)) s := rfl
theorem x_ret {e : E} : exec Γ (.ret e) ρ s = lift ((sem Γ e).v ρ s) ρ fun d s => .rt d s := rfl
theorem x_expr {e : E} : exec Γ (.expr e) ρ s = lift ((sem Γ e).v ρ s) ρ fun _ s => .nx ρ s := rfl
theorem x_ite {c : E} {a b : List St} : exec Γ (.ite c a b) ρ s = lift ((sem Γ c).t ρ s) ρ fun k s => if k = true then execs Γ a ρ s else execs Γ b ρ s := rfl
theorem x_sub {o i e : E} : exec Γ (.sub o i e) ρ s = lift ((sem Γ e).v ρ s) ρ fun d s => liftT (subS (sem Γ o).v (sem Γ i).v d ρ s) := rfl
theorem x_par {is : List Nat} {es : List E} : exec Γ (.par is es) ρ s = lift (argsV (sems Γ es) ρ s) ρ fun ds s => parS is ds ρ s := rfl
theorem x_asg {t : Tp} {e : E} : exec Γ (.asg t e) ρ s = lift ((sem Γ e).v ρ s) ρ fun d s => liftT (bnd t d ρ s) := rfl
theorem x_for {t : Tp} {it : E} {b : List St} : exec Γ (.for_ t it b) ρ s = lift ((sem Γ it).i ρ s) ρ fun c s => forW c.live (bnd t) (execs Γ b) c.ds ρ s := rfl
theorem x_met {r : Bool} {n : Nat} {hs : List (Nat × List Nat × Nat × Xe)} {d : D} (h : ρ[0]? = some (some d)) : exec Γ (.met r n hs) ρ s = metS Γ r n hs ρ.length d s := by
  unfold exec
  rw [h]
theorem x_rais {c : Nat} {fl : Bool} {e : E} : exec Γ (.rais c fl e) ρ s = lift ((sem Γ e).v ρ s) ρ fun d s => .exc ⟨c, if fl = true then [d] else []⟩ ρ s := rfl
end
/-! calls -/
theorem call_at {T : List Fd} {k f : Nat} {d : Fd} {ds : List D} {s : S} (e : T[f]? = some d) (hl : ds.length = d.ps.length) : callF T (k + 1) f ds s = trimO s (retO (execs (callF T k) d.body (start' d.N.length ds) s)) := by
  show (match T[f]? with | some d => _ | none => _) = _
  rw [e]
  show (if ds.length = d.ps.length then _ else _) = _
  rw [if_pos hl]
theorem trim_same {s s' : S} {d : D} (hl : s'.length = s.length) (hd : ∀ j, d = .ref j → j < s.length) : trimO s (.ok d s') = .ok d s' := by
  unfold trimO trim
  dsimp only
  split
  · rw [← hl, List.take_length]
  · split
    · rename_i j _
      have := hd j rfl
      rw [if_neg]
      rw [Bool.and_eq_true]
      rintro ⟨h, _⟩
      exact absurd (of_decide_eq_true h) (by omega)
    · rfl
theorem trim_self {s : S} {d : D} (hd : ∀ j, d = .ref j → j < s.length) : trimO s (.ok d s) = .ok d s := trim_same rfl hd
/-! for -/
theorem forW_inv {live : S → Bool} {bind : D → Env → S → TOut} {body : Env → S → SOut} {P : Env → S → Prop} : ∀ {ds : List D} {ρ : Env} {s : S}, P ρ s → (∀ ρ s, P ρ s → live s = true) →
    (∀ d ∈ ds, ∀ ρ s, P ρ s → ∃ ρ1 s1, bind d ρ s = some (ρ1, s1) ∧ ∃ ρ2 s2, body ρ1 s1 = .nx ρ2 s2 ∧ P ρ2 s2) → ∃ ρ' s', forW live bind body ds ρ s = .nx ρ' s' ∧ P ρ' s'
  | [], ρ, s, h, hl, _ => ⟨ρ, s, by unfold forW; rw [if_pos (hl ρ s h)], h⟩
  | d :: ds, ρ, s, h, hl, hb => by
    obtain ⟨ρ1, s1, e1, ρ2, s2, e2, h2⟩ := hb d List.mem_cons_self ρ s h
    obtain ⟨ρ3, s3, e3, h3⟩ := forW_inv (body := body) (bind := bind) h2 hl fun d hd => hb d (List.mem_cons_of_mem _ hd)
    refine ⟨ρ3, s3, ?_, h3⟩
    unfold forW
    rw [if_pos (hl ρ s h), e1]
    dsimp only
    rw [e2]
    exact e3
end Fe

set_option maxHeartbeats 4000000
/-! Fe 21: the laws' dice. -/
namespace Fe
open PySem PySem.Spec PyProof.Rows
open L2 (atI ixN)
def rollB : List St := [(.ite (.cmp .gt (.ix (.var 0) (.int 0)) (.int 0)) [(.set 4 (.bin .mod (.bi .int [(.ix (.var 0) (.int 0))]) (.var 1))), (.sub (.var 0) (.int 0) (.bin .div (.ix (.var 0) (.int 0)) (.var 1))), (.ret (.var 4))] []),
    (.sub (.var 0) (.int 2) (.bin .add (.ix (.var 0) (.int 2)) (.int 1))),
    (.set 2 (.bin .mod (.bi .int [(.bin .add (.ix (.var 0) (.int 1)) (.bin .mul (.int 941083987) (.ix (.var 0) (.int 2))))]) (.int 67280421310693))),
    (.set 3 (.bin .add (.bin .mul (.bin .mod (.bi .int [(.bin .mul (.var 2) (.var 2))]) (.int 576460752303423433)) (.var 2)) (.bin .mul (.int 7907) (.ix (.var 0) (.int 2))))),
    (.ret (.bin .mod (.bi .int [(.bin .div (.bin .mod (.bi .int [(.bin .add (.var 3) (.ix (.var 0) (.int 1)))]) (.int 2199023255531)) (.int 64))]) (.var 1)))]
def diceB : List St := [(.set 2 (.ite (.cmp .lt (.var 1) (.bi .len [(.var 0)])) (.ix (.var 0) (.var 1)) (.bin .add (.bin .mul (.int 47) (.var 1)) (.int 13)))),
    (.set 3 (.bin .mod (.bi .int [(.bi .abs [(.var 2)])]) (.bin .pow (.bin .pow (.int 10) (.int 61)) (.int 10)))),
    (.set 4 (.bin .add (.bin .add (.bin .add (.bin .mul (.var 3) (.int 3935559000370003845)) (.bin .mul (.int 89) (.var 1))) (.bin .mul (.int 17) (.bi .int [(.cmp .lt (.var 2) (.int 0))]))) (.int 3))),
    (.ret (.lst [(.bi .max [(.int 0), (.bin .sub (.var 3) (.bin .pow (.int 10) (.int 18)))]), (.bin .mod (.bi .int [(.var 4)]) (.int 2305843009213693967)), (.int 0)]))]
/-- dice at place i -/
def Dice (s : S) (i : Nat) : Prop := ∃ a b c, s[i]? = some (.lst [.int a, .int b, .int c])
theorem lk_some {ρ : Env} {i : Nat} {d : D} {s : S} (h : ρ[i]? = some (some d)) : lk ρ i s = .ok d s := by unfold lk; rw [h]
theorem lk_0 {ρ : Env} {d : D} {s : S} : lk (some d :: ρ) 0 s = .ok d s := rfl
theorem lk_s {ρ : Env} {o : Option D} {i : Nat} {s : S} : lk (o :: ρ) (i + 1) s = lk ρ i s := rfl
theorem int_int {i : Int} {s : S} : biInt [.int i] s = .ok (.int i) s := rfl
theorem add_int {i j : Int} {s : S} : opAdd (.int i) (.int j) s = .ok (.int (i + j)) s := rfl
theorem ix_at {s : S} {i : Nat} {j : Int} {ds : List D} {d : D} (h : s[i]? = some (.lst ds)) (e : atI ds j = some d) : opIx (.ref i) (.int j) s = .ok d s := by
  have hg : getL s i = some ds := by unfold getL; rw [h]
  show (match getL s i with | some ds => _ | none => _) = _
  rw [hg]
  show (match atI ds j with | some d => _ | none => _) = _
  rw [e]
theorem mul_small {i j : Int} {s : S} (h : i.natAbs < 2 ^ 64) : opMul (.int i) (.int j) s = .ok (.int (i * j)) s := by
  show (if mulOk i j = true then _ else _) = _
  rw [if_pos]
  unfold mulOk
  rw [decide_eq_true h]; rfl
theorem mul_smallR {i j : Int} {s : S} (h : j.natAbs < 2 ^ 64) : opMul (.int i) (.int j) s = .ok (.int (i * j)) s := by
  show (if mulOk i j = true then _ else _) = _
  rw [if_pos]
  unfold mulOk
  rw [decide_eq_true h, Bool.or_true]; rfl
theorem mod_pos {i j : Int} {s : S} (h : 0 < j) : opMod (.int i) (.int j) s = .ok (.int (i % j)) s := by
  show (if 0 < j then _ else _) = _
  rw [if_pos h]
theorem div_pos {i j : Int} {s : S} (h : 0 < j) (h2 : j.natAbs.log2 < 9000) : opDiv (.int i) (.int j) s = .ok (.int (i / j)) s := by
  show (if divOk j = true then _ else _) = _
  rw [if_pos]
  unfold divOk
  rw [decide_eq_true h, decide_eq_true h2]; rfl
theorem set_at {s : S} {i k : Nat} {j : Int} {ds : List D} {d : D} (h : s[i]? = some (.lst ds)) (e : ixN ds.length j = some k) : setIx (.ref i) (.int j) d s = some (s.set i (.lst (ds.set k d))) := by
  show (match s[i]? with | some (.lst ds) => _ | _ => none) = _
  rw [h]
  show (match ixN ds.length j with | some k => _ | none => none) = _
  rw [e]
theorem log2_small {u : Int} (h0 : 0 < u) (h : u < 2 ^ 64) : u.natAbs.log2 < 9000 := by
  have h1 : u.natAbs < 2 ^ 64 := by omega
  have := (Nat.log2_lt (by omega)).mpr h1
  omega
theorem roll_spec {T : List Fd} {k f : Nat} {nm : Str} {ps N : List Str} {s : S} {i : Nat} {u : Int} (e : T[f]? = some ⟨nm, ps, N, rollB, .fn⟩) (hp : ps.length = 2) (hn : N.length = 5) (hs : Dice s i) (h0 : 0 < u) (h1 : u < 2 ^ 64) :
    ∃ (r : Int) (o : O), 0 ≤ r ∧ r < u ∧ Dice (s.set i o) i ∧ callF T (k + 1) f [.ref i, .int u] s = .ok (.int r) (s.set i o) := by
  obtain ⟨a, b, c, hi⟩ := hs
  have hl : i < s.length := (List.getElem?_eq_some_iff.mp hi).1
  rw [call_at e (by simp [hp])]
  have e0 : start' N.length [.ref i, .int u] = [some (.ref i), some (.int u), none, none, none] := by rw [hn]; rfl
  show ∃ r o, _ ∧ _ ∧ _ ∧ trimO s (retO (execs (callF T k) rollB (start' N.length [.ref i, .int u]) s)) = _
  rw [e0]
  by_cases ha : 0 < a
  · refine ⟨a % u, .lst [.int (a / u), .int b, .int c], Int.emod_nonneg _ (by omega), Int.emod_lt_of_pos _ h0, ⟨_, _, _, List.getElem?_set_self hl⟩, ?_⟩
    have : execs (callF T k) rollB [some (.ref i), some (.int u), none, none, none] s = .rt (.int (a % u)) (s.set i (.lst [.int (a / u), .int b, .int c])) := by
      unfold rollB
      simp only [x_cons, x_ite, t_cmp, v_ix, v_var, v_int, bind_ok, lk_0, lk_s, lk_0, lk_s, ix_at hi (j := 0) rfl, Cm.f, opI2, ha, decide_true, asB, lift_ok, if_true, x_set, v_bin, v_bi, sems_cons, sems_nil, args_cons, args_nil, Bi.f, biInt, Ar.f, mod_pos h0, seq_nx, List.set_cons_succ, List.set_cons_zero,
        x_sub, div_pos h0 (log2_small h0 h1), subS, okO, set_at hi (j := 0) (k := 0) rfl, liftT, x_ret, lk_0, lk_s, seq_rt]
    rw [this]
    exact trim_same (by simp) (fun j h => by cases h)
  · have ha' : ¬ (0 < a) := ha
    have hs1 : (s.set i (.lst [.int a, .int b, .int (c + 1)]))[i]? = some (.lst [.int a, .int b, .int (c + 1)]) := List.getElem?_set_self hl
    have lo1 : ∀ x : Int, 0 ≤ x % 67280421310693 ∧ x % 67280421310693 < 67280421310693 := fun x => ⟨Int.emod_nonneg _ (by omega), Int.emod_lt_of_pos _ (by omega)⟩
    have lo2 : ∀ x : Int, 0 ≤ x % 576460752303423433 ∧ x % 576460752303423433 < 576460752303423433 := fun x => ⟨Int.emod_nonneg _ (by omega), Int.emod_lt_of_pos _ (by omega)⟩
    have go : ∃ z : Int, execs (callF T k) rollB [some (.ref i), some (.int u), none, none, none] s = .rt (.int (z % u)) (s.set i (.lst [.int a, .int b, .int (c + 1)])) := by
      refine ⟨((((b + 941083987 * (c + 1)) % 67280421310693) * ((b + 941083987 * (c + 1)) % 67280421310693)) % 576460752303423433 * ((b + 941083987 * (c + 1)) % 67280421310693) + 7907 * (c + 1) + b) % 2199023255531 / 64, ?_⟩
      have m1 : ∀ (z : Int) (s : S), opMul (.int 941083987) (.int z) s = .ok (.int (941083987 * z)) s := fun z s => mul_small (by decide)
      have m2 : ∀ (z : Int) (s : S), opMul (.int 7907) (.int z) s = .ok (.int (7907 * z)) s := fun z s => mul_small (by decide)
      have d1 : ∀ (z : Int) (s : S), opMod (.int z) (.int 67280421310693) s = .ok (.int (z % 67280421310693)) s := fun z s => mod_pos (by decide)
      have d2 : ∀ (z : Int) (s : S), opMod (.int z) (.int 576460752303423433) s = .ok (.int (z % 576460752303423433)) s := fun z s => mod_pos (by decide)
      have d3 : ∀ (z : Int) (s : S), opMod (.int z) (.int 2199023255531) s = .ok (.int (z % 2199023255531)) s := fun z s => mod_pos (by decide)
      have d4 : ∀ (z : Int) (s : S), opDiv (.int z) (.int 64) s = .ok (.int (z / 64)) s := fun z s => div_pos (by decide) (by decide)
      have hxb := lo1 (b + 941083987 * (c + 1))
      generalize hx : (b + 941083987 * (c + 1)) % 67280421310693 = x at hxb
      have m3 : ∀ (s : S), opMul (.int x) (.int x) s = .ok (.int (x * x)) s := fun s => mul_small (by omega)
      have m4 : ∀ (s : S), opMul (.int (x * x % 576460752303423433)) (.int x) s = .ok (.int (x * x % 576460752303423433 * x)) s := fun s => mul_small (by have := lo2 (x * x); omega)
      have w : ∀ d (s : S), setIx (.ref i) (.int 2) d s = (match s[i]? with | some (.lst ds) => (match ixN ds.length 2 with | some k => some (s.set i (.lst (ds.set k d))) | none => none) | _ => none) := fun d s => rfl
      unfold rollB
      simp only [bind_ok, bind_exc, lift_ok, lift_exc, seq_nx, seq_rt, seq_exc, v_non, v_bl, v_int, v_str, v_var, v_con, v_bin, v_neg, v_cmp, v_chn, v_and, v_or, v_not, v_ite, v_tup, v_lst, v_ix, v_sl, v_call, v_bi, v_isi, v_me, v_lc, v_dct, v_rev, o_no, o_int, o_var, o_bin, o_neg, o_ite, asI_int, t_no, t_cmp, t_chn, t_and, t_or, t_not, t_call, t_var, t_isi, t_bi, sems_nil, sems_cons, args_nil, args_cons, andV_1, andV_2, orV_1, orV_2, andT_1, andT_2, orT_1, orT_2, i_rng, i_tup, i_var, x_nil, x_cons, x_set, x_ret, x_expr, x_ite, x_sub, x_par, x_asg, x_for, x_rais, lk_0, lk_s, int_int, add_int, Cm.f, Ar.f, Bi.f, Me.f, Me.T, liftT, List.set_cons_succ, List.set_cons_zero, ix_at hi (j := 0) rfl, ix_at hi (j := 2) rfl, opI2, ha', decide_false, asB, Bool.false_eq_true, if_false, subS, okO, set_at hi (j := 2) (k := 2) rfl, ix_at hs1 (j := 1) rfl, ix_at hs1 (j := 2) rfl, m1, m2, d1, d2, d3, d4, hx, m3, m4, mod_pos h0]
    obtain ⟨z, go⟩ := go
    refine ⟨z % u, .lst [.int a, .int b, .int (c + 1)], Int.emod_nonneg _ (by omega), Int.emod_lt_of_pos _ h0, ⟨_, _, _, hs1⟩, ?_⟩
    rw [go]
    exact trim_same (by simp) (fun j h => by cases h)

/-! what a call hands back -/
theorem sameOr_of {s s' : S} (h : ∀ i, i < s.length → s'[i]? = s[i]? ∨ ∃ o, s'[i]? = some o ∧ o.flat = true) : sameOr s s' = true := by
  unfold sameOr
  rw [List.all_eq_true]
  intro i hi
  rcases h i (List.mem_range.mp hi) with e | ⟨o, e, f⟩
  · rw [e, decide_eq_true rfl]; rfl
  · rw [e]
    dsimp only
    rw [f, Bool.or_true]
theorem trim_flat {s s' : S} {d : D} (hd : d.flat = true) (hl : s.length ≤ s'.length) (h : sameOr s s' = true) : trimO s (.ok d s') = .ok d (s'.take s.length) := by
  show Out.ok (trim s d s').1 (trim s d s').2 = _
  unfold trim
  rw [if_pos (by rw [hd, decide_eq_true hl, h]; rfl)]
theorem trim_new {s s' : S} {j : Nat} {o : O} (hj : s.length ≤ j) (e : s'[j]? = some o) (f : o.flat = true) (hl : s.length ≤ s'.length) (h : sameOr s s' = true) : trimO s (.ok (.ref j) s') = .ok (.ref s.length) (s'.take s.length ++ [o]) := by
  show Out.ok (trim s (.ref j) s').1 (trim s (.ref j) s').2 = _
  unfold trim
  rw [if_neg (by simp [D.flat])]
  dsimp only
  rw [if_pos (by rw [decide_eq_true hj, decide_eq_true hl, h]; rfl), e]
  dsimp only
  rw [if_pos f]
theorem trim_push {s : S} {o : O} : trimO s (.ok (.ref s.length) (s ++ [o])) = .ok (.ref s.length) (s ++ [o]) := by
  show Out.ok (trim s (.ref s.length) (s ++ [o])).1 (trim s (.ref s.length) (s ++ [o])).2 = _
  have e : (s ++ [o])[s.length]? = some o := by simp
  unfold trim
  rw [if_neg (by simp [D.flat])]
  dsimp only
  split
  · rw [e]
    dsimp only
    split
    · simp
    · rfl
  · rfl
theorem Dice.lt {s : S} {i : Nat} (h : Dice s i) : i < s.length := by
  obtain ⟨a, b, c, h⟩ := h
  exact (List.getElem?_eq_some_iff.mp h).1
theorem Dice.flat {s : S} {i : Nat} (h : Dice s i) : ∃ o, s[i]? = some o ∧ o.flat = true := by
  obtain ⟨a, b, c, h⟩ := h
  exact ⟨_, h, rfl⟩
theorem Dice.app {s g : S} {i : Nat} (h : Dice s i) : Dice (s ++ g) i := by
  have := h.lt
  obtain ⟨a, b, c, h⟩ := h
  exact ⟨a, b, c, by rw [List.getElem?_append_left this]; exact h⟩
theorem Dice.of_set {s : S} {i : Nat} {o : O} (h : Dice (s.set i o) i) : ∃ a b c, o = .lst [.int a, .int b, .int c] := by
  have := h.lt
  obtain ⟨a, b, c, h⟩ := h
  rw [List.getElem?_set_self (by simpa using this)] at h
  cases h
  exact ⟨a, b, c, rfl⟩
theorem dice_set {s : S} {i : Nat} {o : O} (hl : i < s.length) (h : ∃ a b c, o = .lst [.int a, .int b, .int c]) : Dice (s.set i o) i := by
  obtain ⟨a, b, c, rfl⟩ := h
  exact ⟨a, b, c, List.getElem?_set_self hl⟩
/-! pick -/
def pickB (f : Nat) : List St := [(.ret (.ix (.var 1) (.call f [(.var 0), (.bi .len [(.var 1)])])))]
theorem atI_nat {ds : List D} {r : Int} (h0 : 0 ≤ r) (h : r < (ds.length : Int)) : ∃ n, ∃ hn : n < ds.length, r = (n : Int) ∧ atI ds r = some ds[n] := by
  have hn : r.toNat < ds.length := by omega
  refine ⟨r.toNat, hn, by omega, ?_⟩
  unfold atI ixN
  rw [if_pos h0, if_pos h]
  show ds[r.toNat]? = _
  exact List.getElem?_eq_getElem hn
theorem getL_at {s : S} {i : Nat} {ds : List D} (h : s[i]? = some (.lst ds)) : getL s i = some ds := by unfold getL; rw [h]
theorem lenL_at {s : S} {i : Nat} {ds : List D} (h : s[i]? = some (.lst ds)) : biLen [.ref i] s = .ok (.int ds.length) s := by
  show (match getL s i with | some ds => _ | none => _) = _
  rw [getL_at h]
theorem pick_spec {T : List Fd} {k f g : Nat} {nm nm' : Str} {ps N ps' N' : List Str} {s : S} {i j : Nat} {ds : List D} (e : T[f]? = some ⟨nm, ps, N, pickB g, .fn⟩) (hp : ps.length = 2) (hn : N.length = 2) (e' : T[g]? = some ⟨nm', ps', N', rollB, .fn⟩) (hp' : ps'.length = 2) (hn' : N'.length = 5)
    (hs : Dice s i) (hj : s[j]? = some (.lst ds)) (hij : i ≠ j) (h0 : ds ≠ []) (h1 : ds.length < 2 ^ 60) (hr : ∀ d ∈ ds, ∀ m, d = .ref m → m < s.length) :
    ∃ n, ∃ h : n < ds.length, ∃ o, Dice (s.set i o) i ∧ callF T (k + 2) f [.ref i, .ref j] s = .ok ds[n] (s.set i o) := by
  have hpos : 0 < ds.length := List.length_pos_iff.mpr h0
  obtain ⟨r, o, r0, r1, hd, er⟩ := roll_spec (k := k) (u := (ds.length : Int)) e' hp' hn' hs (by omega) (by omega)
  obtain ⟨n, hlt, rfl, ea⟩ := atI_nat r0 r1
  refine ⟨n, hlt, o, hd, ?_⟩
  rw [call_at e (by simp [hp])]
  have e0 : start' N.length [.ref i, .ref j] = [some (.ref i), some (.ref j)] := by rw [hn]; rfl
  show trimO s (retO (execs (callF T (k + 1)) (pickB g) (start' N.length [.ref i, .ref j]) s)) = _
  rw [e0]
  unfold pickB
  have hj2 : (s.set i o)[j]? = some (.lst ds) := by rw [List.getElem?_set_ne hij]; exact hj
  simp only [bind_ok, bind_exc, lift_ok, lift_exc, seq_nx, seq_rt, seq_exc, v_non, v_bl, v_int, v_str, v_var, v_con, v_bin, v_neg, v_cmp, v_chn, v_and, v_or, v_not, v_ite, v_tup, v_lst, v_ix, v_sl, v_call, v_bi, v_isi, v_me, v_lc, v_dct, v_rev, o_no, o_int, o_var, o_bin, o_neg, o_ite, asI_int, t_no, t_cmp, t_chn, t_and, t_or, t_not, t_call, t_var, t_isi, t_bi, sems_nil, sems_cons, args_nil, args_cons, andV_1, andV_2, orV_1, orV_2, andT_1, andT_2, orT_1, orT_2, i_rng, i_tup, i_var, x_nil, x_cons, x_set, x_ret, x_expr, x_ite, x_sub, x_par, x_asg, x_for, x_rais, lk_0, lk_s, int_int, add_int, Cm.f, Ar.f, Bi.f, Me.f, Me.T, liftT, List.set_cons_succ, List.set_cons_zero, lenL_at hj, er, ix_at hj2 ea, retO]
  exact trim_same (by simp) fun m hm => hr _ (List.getElem_mem hlt) m hm
/-! dice -/
theorem pow_ok' {i j : Int} {s : S} (h : powOk i j = true) : opPow (.int i) (.int j) s = .ok (.int (i ^ j.toNat)) s := by
  show (if powOk i j = true then _ else _) = _
  rw [if_pos h]
theorem dice_spec {T : List Fd} {k f : Nat} {nm : Str} {ps N : List Str} {s : S} {i : Nat} {n : Int} {ns : List Int} (e : T[f]? = some ⟨nm, ps, N, diceB, .fn⟩) (hp : ps.length = 2) (hn : N.length = 5) (hs : s[i]? = some (.rl (ns.map .int))) (h0 : 0 ≤ n) :
    ∃ a b : Int, callF T (k + 1) f [.ref i, .int n] s = .ok (.ref s.length) (s ++ [.lst [.int a, .int b, .int 0]]) := by
  have hg : getL s i = some (ns.map .int) := by unfold getL; rw [hs]
  have hlen : biLen [.ref i] s = .ok (.int ns.length) s := by
    show (match getL s i with | some ds => _ | none => _) = _
    rw [hg]
    simp
  have key : ∀ c : Int, ∃ a b : Int, execs (callF T k) diceB.tail [some (.ref i), some (.int n), some (.int c), none, none] s = .rt (.ref s.length) (s ++ [.lst [.int a, .int b, .int 0]]) := by
    intro c
    have p1 : ∀ s : S, opPow (.int 10) (.int 61) s = .ok (.int (10 ^ 61)) s := fun s => pow_ok' (by decide +kernel)
    have p2 : ∀ s : S, opPow (.int (10 ^ 61)) (.int 10) s = .ok (.int ((10 ^ 61) ^ 10)) s := fun s => pow_ok' (by decide +kernel)
    have p3 : ∀ s : S, opPow (.int 10) (.int 18) s = .ok (.int (10 ^ 18)) s := fun s => pow_ok' (by decide +kernel)
    have d1 : ∀ (z : Int) (s : S), opMod (.int z) (.int ((10 ^ 61) ^ 10)) s = .ok (.int (z % ((10 ^ 61) ^ 10))) s := fun z s => mod_pos (by decide +kernel)
    have d2 : ∀ (z : Int) (s : S), opMod (.int z) (.int 2305843009213693967) s = .ok (.int (z % 2305843009213693967)) s := fun z s => mod_pos (by decide)
    have m1 : ∀ (z : Int) (s : S), opMul (.int z) (.int 3935559000370003845) s = .ok (.int (z * 3935559000370003845)) s := fun z s => mul_smallR (by decide)
    have m2 : ∀ (z : Int) (s : S), opMul (.int 89) (.int z) s = .ok (.int (89 * z)) s := fun z s => mul_small (by decide)
    have m3 : ∀ (z : Int) (s : S), opMul (.int 17) (.int z) s = .ok (.int (17 * z)) s := fun z s => mul_small (by decide)
    have ab : ∀ (z : Int) (s : S), biAbs [.int z] s = .ok (.int (if z < 0 then -z else z)) s := fun z s => rfl
    have ib : ∀ (z : Bool) (s : S), biInt [.bl z] s = .ok (.int (if z then 1 else 0)) s := fun z s => rfl
    have mx : ∀ (x y : Int) (s : S), biMax [.int x, .int y] s = .ok (.int (if y > x then y else x)) s := fun x y s => rfl
    have sb : ∀ (x y : Int) (s : S), opSub (.int x) (.int y) s = .ok (.int (x - y)) s := fun x y s => rfl
    have ml : ∀ (x y z : Int) (s : S), mkLst [.int x, .int y, .int z] s = .ok (.ref s.length) (s ++ [.lst [.int x, .int y, .int z]]) := fun x y z s => rfl
    have lt : ∀ (x y : Int) (s : S), opLt (.int x) (.int y) s = .ok (.bl (decide (x < y))) s := fun x y s => rfl
    generalize hB : ((10 : Int) ^ 61) ^ 10 = B at p2 d1
    apply Exists.intro
    apply Exists.intro
    unfold diceB
    simp only [List.tail_cons, bind_ok, bind_exc, lift_ok, lift_exc, seq_nx, seq_rt, seq_exc, v_non, v_bl, v_int, v_str, v_var, v_con, v_bin, v_neg, v_cmp, v_chn, v_and, v_or, v_not, v_ite, v_tup, v_lst, v_ix, v_sl, v_call, v_bi, v_isi, v_me, v_lc, v_dct, v_rev, o_no, o_int, o_var, o_bin, o_neg, o_ite, asI_int, t_no, t_cmp, t_chn, t_and, t_or, t_not, t_call, t_var, t_isi, t_bi, sems_nil, sems_cons, args_nil, args_cons, andV_1, andV_2, orV_1, orV_2, andT_1, andT_2, orT_1, orT_2, i_rng, i_tup, i_var, x_nil, x_cons, x_set, x_ret, x_expr, x_ite, x_sub, x_par, x_asg, x_for, x_rais, lk_0, lk_s, int_int, add_int, Cm.f, Ar.f, Bi.f, Me.f, Me.T, liftT, List.set_cons_succ, List.set_cons_zero, p1, p2, p3, d1, d2, m1, m2, m3, ab, ib, mx, sb, lt, ml]
    rfl
  rw [call_at e (by simp [hp])]
  have e0 : start' N.length [.ref i, .int n] = [some (.ref i), some (.int n), none, none, none] := by rw [hn]; rfl
  have e1 : diceB = diceB.head (by decide) :: diceB.tail := rfl
  show ∃ a b, trimO s (retO (execs (callF T k) diceB (start' N.length [.ref i, .int n]) s)) = _
  rw [e0, e1, x_cons]
  have first : ∃ c : Int, exec (callF T k) (diceB.head (by decide)) [some (.ref i), some (.int n), none, none, none] s = .nx [some (.ref i), some (.int n), some (.int c), none, none] s := by
    have lt : ∀ (x y : Int) (s : S), opLt (.int x) (.int y) s = .ok (.bl (decide (x < y))) s := fun x y s => rfl
    have m1 : ∀ (z : Int) (s : S), opMul (.int 47) (.int z) s = .ok (.int (47 * z)) s := fun z s => mul_small (by decide)
    unfold diceB
    by_cases hc : n < (ns.length : Int)
    · obtain ⟨j, hj, rfl, ea⟩ := atI_nat (ds := ns.map D.int) h0 (by simpa using hc)
      have ix : opIx (.ref i) (.int (j : Int)) s = .ok (ns.map D.int)[j] s := by
        show (match getL s i with | some ds => (match atI ds (j : Int) with | some d => _ | none => _) | none => _) = _
        rw [hg]
        show (match atI (ns.map D.int) (j : Int) with | some d => _ | none => _) = _
        rw [ea]
      refine ⟨ns[j]'(by simpa using hj), ?_⟩
      simp only [List.head_cons, bind_ok, bind_exc, lift_ok, lift_exc, seq_nx, seq_rt, seq_exc, v_non, v_bl, v_int, v_str, v_var, v_con, v_bin, v_neg, v_cmp, v_chn, v_and, v_or, v_not, v_ite, v_tup, v_lst, v_ix, v_sl, v_call, v_bi, v_isi, v_me, v_lc, v_dct, v_rev, o_no, o_int, o_var, o_bin, o_neg, o_ite, asI_int, t_no, t_cmp, t_chn, t_and, t_or, t_not, t_call, t_var, t_isi, t_bi, sems_nil, sems_cons, args_nil, args_cons, andV_1, andV_2, orV_1, orV_2, andT_1, andT_2, orT_1, orT_2, i_rng, i_tup, i_var, x_nil, x_cons, x_set, x_ret, x_expr, x_ite, x_sub, x_par, x_asg, x_for, x_rais, lk_0, lk_s, int_int, add_int, Cm.f, Ar.f, Bi.f, Me.f, Me.T, liftT, List.set_cons_succ, List.set_cons_zero, hlen, lt, hc, decide_true, asB, if_true, ix, List.getElem_map]
    · refine ⟨47 * n + 13, ?_⟩
      simp only [List.head_cons, bind_ok, bind_exc, lift_ok, lift_exc, seq_nx, seq_rt, seq_exc, v_non, v_bl, v_int, v_str, v_var, v_con, v_bin, v_neg, v_cmp, v_chn, v_and, v_or, v_not, v_ite, v_tup, v_lst, v_ix, v_sl, v_call, v_bi, v_isi, v_me, v_lc, v_dct, v_rev, o_no, o_int, o_var, o_bin, o_neg, o_ite, asI_int, t_no, t_cmp, t_chn, t_and, t_or, t_not, t_call, t_var, t_isi, t_bi, sems_nil, sems_cons, args_nil, args_cons, andV_1, andV_2, orV_1, orV_2, andT_1, andT_2, orT_1, orT_2, i_rng, i_tup, i_var, x_nil, x_cons, x_set, x_ret, x_expr, x_ite, x_sub, x_par, x_asg, x_for, x_rais, lk_0, lk_s, int_int, add_int, Cm.f, Ar.f, Bi.f, Me.f, Me.T, liftT, List.set_cons_succ, List.set_cons_zero, hlen, lt, hc, decide_false, asB, Bool.false_eq_true, if_false, m1]
  obtain ⟨c, first⟩ := first
  obtain ⟨a, b, go⟩ := key c
  refine ⟨a, b, ?_⟩
  rw [first, seq_nx, go]
  exact trim_push
end Fe

set_option maxHeartbeats 4000000
/-! Fe P: plain helpers: trims, loops, comprehensions, lists of numbers. -/
namespace Fe
open PySem PySem.Spec PyProof.Rows
open L2 (atI ixN)
section
variable {s g : S} {i j k : Nat} {d : D} {o : O} {ds : List D}
theorem at_app (h : s[i]? = some o) : (s ++ g)[i]? = some o := by
  rw [List.getElem?_append_left (List.getElem?_eq_some_iff.mp h).1]; exact h
theorem at_lt (h : s[i]? = some o) : i < s.length := (List.getElem?_eq_some_iff.mp h).1
theorem getL_lst (h : s[i]? = some (.lst ds)) : getL s i = some ds := by unfold getL; rw [h]
theorem getL_rl (h : s[i]? = some (.rl ds)) : getL s i = some ds := by unfold getL; rw [h]
theorem getL_lt (h : getL s i = some ds) : i < s.length := by
  unfold getL at h
  cases e : s[i]? with
  | none => rw [e] at h; cases h
  | some o => exact at_lt e
theorem getL_app (h : getL s i = some ds) : getL (s ++ g) i = some ds := by
  have := getL_lt h
  unfold getL at h ⊢
  rw [List.getElem?_append_left this]; exact h
theorem at_end : (s ++ [o])[s.length]? = some o := by simp
theorem getL_end : getL (s ++ [.lst ds]) s.length = some ds := getL_lst at_end
theorem set_end {u : O} : (s ++ [o]).set s.length u = s ++ [u] := by simp
theorem sameOr_app : sameOr s (s ++ g) = true := sameOr_of fun i hi => .inl (List.getElem?_append_left hi)
theorem trim_app (hd : d.flat = true) : trimO s (.ok d (s ++ g)) = .ok d s := by
  rw [trim_flat hd (by simp) sameOr_app]
  simp
theorem trim_setApp (hd : d.flat = true) (ho : o.flat = true) : trimO s (.ok d (s.set i o ++ g)) = .ok d (s.set i o) := by
  rw [trim_flat hd (by simp) (sameOr_of fun j hj => ?_)]
  · congr 1
    rw [List.take_append_of_le_length (by simp), List.take_of_length_le (by simp)]
  · rw [List.getElem?_append_left (by simpa using hj)]
    by_cases e : i = j
    · subst e
      right
      exact ⟨o, List.getElem?_set_self hj, ho⟩
    · left
      exact List.getElem?_set_ne e
theorem trim_set (hd : d.flat = true) (ho : o.flat = true) : trimO s (.ok d (s.set i o)) = .ok d (s.set i o) := by
  have := trim_setApp (g := []) (s := s) (i := i) hd ho
  rwa [List.append_nil] at this
theorem trim_id (hd : d.flat = true) : trimO s (.ok d s) = .ok d s := by
  have := trim_app (g := []) (s := s) hd
  rwa [List.append_nil] at this
/-- a new flat list behind flat changes -/
theorem trim_pushApp {s1 : S} {ds : List D} (hf : D.flats ds = true) (hl : s1.length = s.length) (h : sameOr s s1 = true) (hj : s.length ≤ j) (e : (s1 ++ g)[j]? = some (.lst ds)) : trimO s (.ok (.ref j) (s1 ++ g)) = .ok (.ref s.length) (s1 ++ [.lst ds]) := by
  have h2 : sameOr s (s1 ++ g) = true := by
    unfold sameOr at h ⊢
    rw [List.all_eq_true] at h ⊢
    intro i hi
    rw [List.getElem?_append_left (by rw [hl]; exact List.mem_range.mp hi)]
    exact h i hi
  rw [trim_new (o := .lst ds) hj e hf (by simp; omega) h2, ← hl, List.take_append_of_le_length (Nat.le_refl _), List.take_length]
theorem ret_ok {T : Out D → Out D} : T (retO (.rt d s)) = T (.ok d s) := rfl
theorem ret_nx {T : Out D → Out D} {ρ : Env} : T (retO (.nx ρ s)) = T (.ok .non s) := rfl
end
/-! ### lists of numbers -/
abbrev iD (l : List Int) : List D := l.map D.int
section
variable {s g : S} {i j k n : Nat} {d : D} {o : O} {ds : List D} {q r : List Int}
theorem iD_cons {a : Int} {q : List Int} : iD (a :: q) = .int a :: iD q := rfl
theorem ints_flat : ∀ q : List Int, D.flats (iD q) = true
  | [] => rfl
  | a :: q => by
    show D.flats (.int a :: iD q) = true
    unfold D.flats
    rw [ints_flat q]; rfl
theorem flat_ints : (O.lst (iD q)).flat = true := ints_flat q
theorem flatT_ints : (D.tup (iD q)).flat = true := ints_flat q
theorem ints_flatD : (iD q).all flatD = true := by
  rw [List.all_eq_true]
  intro x hx
  obtain ⟨c, _, rfl⟩ := List.mem_map.mp hx
  rfl
theorem asInts_ints : ∀ q : List Int, asInts (iD q) = some q
  | [] => rfl
  | a :: q => by
    rw [iD_cons]
    unfold asInts
    rw [asInts_ints q]
    rfl
theorem inF_ints (t : Int) : ∀ q : List Int, inF (.int t) (iD q) = q.contains t
  | [] => rfl
  | a :: q => by
    unfold inF
    rw [iD_cons, List.any_cons, List.contains_cons]
    have ih := inF_ints t q
    unfold inF at ih
    rw [ih]
    congr 1
    show (a == t) = (t == a)
    rw [Bool.eq_iff_iff, beq_iff_eq, beq_iff_eq]
    exact eq_comm
theorem inF_non : ∀ q : List Int, inF .non (iD q) = false
  | [] => rfl
  | a :: q => by
    unfold inF
    rw [iD_cons, List.any_cons]
    have ih := inF_non q
    unfold inF at ih
    rw [ih]; rfl
theorem in_lstI {t : Int} (h : getL s j = some (iD q)) : opIn (.int t) (.ref j) s = .ok (.bl (q.contains t)) s := by
  unfold opIn inD
  dsimp only [itemsOf]
  rw [h]
  dsimp only
  rw [if_pos ⟨rfl, ints_flatD⟩, inF_ints]
theorem nin_lstI {t : Int} (h : getL s j = some (iD q)) : opNotIn (.int t) (.ref j) s = .ok (.bl (!q.contains t)) s := by
  unfold opNotIn inD
  dsimp only [itemsOf]
  rw [h]
  dsimp only
  rw [if_pos ⟨rfl, ints_flatD⟩, inF_ints]
theorem nin_lstN (h : getL s j = some (iD q)) : opNotIn .non (.ref j) s = .ok (.bl true) s := by
  unfold opNotIn inD
  dsimp only [itemsOf]
  rw [h]
  dsimp only
  rw [if_pos ⟨rfl, ints_flatD⟩, inF_non]; rfl
theorem in_tupI {t : Int} : opIn (.int t) (.tup (iD q)) s = .ok (.bl (q.contains t)) s := by
  unfold opIn inD
  dsimp only [itemsOf]
  rw [if_pos ⟨rfl, ints_flatD⟩, inF_ints]
theorem nin_tupI {t : Int} : opNotIn (.int t) (.tup (iD q)) s = .ok (.bl (!q.contains t)) s := by
  unfold opNotIn inD
  dsimp only [itemsOf]
  rw [if_pos ⟨rfl, ints_flatD⟩, inF_ints]
theorem pds_ints : ∀ q : List Int, mapO (pd s n) (iD q) = some (q.map PyData.int)
  | [] => rfl
  | a :: q => by
    rw [iD_cons]
    unfold mapO
    rw [pds_ints q]
    cases n <;> rfl
theorem pd_lst (h : getL s i = some (iD q)) : pd s (n + 1) (.ref i) = some (.list (q.map PyData.int)) := by
  show (match getL s i with | some ds => (mapO (pd s n) ds).map PyData.list | none => none) = _
  rw [h]
  show (mapO (pd s n) (iD q)).map PyData.list = _
  rw [pds_ints q]; rfl
theorem pd_tup : pd s (n + 1) (.tup (iD q)) = some (.tuple (q.map PyData.int)) := by
  show (mapO (pd s n) (iD q)).map PyData.tuple = _
  rw [pds_ints q]; rfl
theorem eqv_ints : ∀ q r : List Int, PyData.eqvAll (q.map PyData.int) (r.map PyData.int) = decide (q = r)
  | [], [] => rfl
  | [], _ :: _ => rfl
  | _ :: _, [] => rfl
  | a :: q, b :: r => by
    show ((PyData.int a).eqv (.int b) && PyData.eqvAll (q.map PyData.int) (r.map PyData.int)) = _
    rw [eqv_ints q r]
    have : (PyData.int a).eqv (.int b) = decide (a = b) := rfl
    rw [this, Bool.eq_iff_iff]
    simp
theorem eqv_bools : ∀ q r : List Bool, PyData.eqvAll (q.map PyData.bool) (r.map PyData.bool) = decide (q = r)
  | [], [] => rfl
  | [], _ :: _ => rfl
  | _ :: _, [] => rfl
  | a :: q, b :: r => by
    show ((PyData.bool a).eqv (.bool b) && PyData.eqvAll (q.map PyData.bool) (r.map PyData.bool)) = _
    rw [eqv_bools q r]
    have : (PyData.bool a).eqv (.bool b) = decide (a = b) := by cases a <;> cases b <;> rfl
    rw [this, Bool.eq_iff_iff]
    simp
theorem pds_bls : ∀ q : List Bool, mapO (pd s n) (q.map D.bl) = some (q.map PyData.bool)
  | [] => rfl
  | a :: q => by
    rw [List.map_cons]
    unfold mapO
    rw [pds_bls q]
    cases n <;> rfl
theorem pd_lstB {q : List Bool} (h : getL s i = some (q.map D.bl)) : pd s (n + 1) (.ref i) = some (.list (q.map PyData.bool)) := by
  show (match getL s i with | some ds => (mapO (pd s n) ds).map PyData.list | none => none) = _
  rw [h]
  show (mapO (pd s n) (q.map D.bl)).map PyData.list = _
  rw [pds_bls q]; rfl
theorem ne_lstI (h : getL s i = some (iD q)) (h' : getL s j = some (iD r)) : opNe (.ref i) (.ref j) s = .ok (.bl (!decide (q = r))) s := by
  unfold opNe eqD
  rw [pd_lst h, pd_lst h']
  show Out.ok (D.bl (!PyData.eqvAll _ _)) s = _
  rw [eqv_ints]
theorem eq_lstI (h : getL s i = some (iD q)) (h' : getL s j = some (iD r)) : opEq (.ref i) (.ref j) s = .ok (.bl (decide (q = r))) s := by
  unfold opEq eqD
  rw [pd_lst h, pd_lst h']
  show Out.ok (D.bl (PyData.eqvAll _ _)) s = _
  rw [eqv_ints]
theorem ne_lstB {q r : List Bool} (h : getL s i = some (q.map D.bl)) (h' : getL s j = some (r.map D.bl)) : opNe (.ref i) (.ref j) s = .ok (.bl (!decide (q = r))) s := by
  unfold opNe eqD
  rw [pd_lstB h, pd_lstB h']
  show Out.ok (D.bl (!PyData.eqvAll _ _)) s = _
  rw [eqv_bools]
theorem ne_tupI : opNe (.tup (iD q)) (.tup (iD r)) s = .ok (.bl (!decide (q = r))) s := by
  unfold opNe eqD
  rw [pd_tup, pd_tup]
  show Out.ok (D.bl (!PyData.eqvAll _ _)) s = _
  rw [eqv_ints]
theorem eq_intI {a b : Int} : opEq (.int a) (.int b) s = .ok (.bl (decide (a = b))) s := rfl
theorem ne_intI {a b : Int} : opNe (.int a) (.int b) s = .ok (.bl (!decide (a = b))) s := rfl
theorem eq_strS {a b : List Nat} : opEq (.str a) (.str b) s = .ok (.bl (a == b)) s := by
  unfold opEq eqD pd
  dsimp only
  show Out.ok (D.bl (PySem.PyData.eqv (.str ⟨a.toArray⟩) (.str ⟨b.toArray⟩))) s = _
  congr 2
  rw [← str_eq]
  rfl
theorem is_nonV {v : D} : opIs v .non s = .ok (.bl (isNon v)) s := by cases v <;> rfl
theorem isn_nonV {v : D} : opIsNot v .non s = .ok (.bl (!isNon v)) s := by cases v <;> rfl
theorem mkL_ok (h : ds.length ≤ 16777216) : mkLst ds s = .ok (.ref s.length) (s ++ [.lst ds]) := by unfold mkLst; rw [if_pos h]
theorem mkT_ok (h : ds.length ≤ 16777216) : mkTup ds s = .ok (.tup ds) s := by unfold mkTup; rw [if_pos h]
theorem mkL_nil : mkLst [] s = .ok (.ref s.length) (s ++ [.lst []]) := rfl
theorem atI_ofNat {α : Type} {ds : List α} {d : α} (h : ds[i]? = some d) : atI ds (i : Int) = some d := by
  have hl := (List.getElem?_eq_some_iff.mp h).1
  unfold atI ixN
  rw [if_pos (by omega), if_pos (by omega)]
  exact h
theorem ixN_ofNat (h : i < n) : ixN n (i : Int) = some i := by
  unfold ixN
  rw [if_pos (by omega), if_pos (by omega)]
  rfl
theorem ix_lstN (h : getL s i = some ds) (e : ds[k]? = some d) : opIx (.ref i) (.int (k : Int)) s = .ok d s := by
  show (match getL s i with | some ds => _ | none => _) = _
  rw [h]
  show (match atI ds k with | some d => _ | none => _) = _
  rw [atI_ofNat e]
theorem len_lstN (h : getL s i = some ds) : biLen [.ref i] s = .ok (.int ds.length) s := by
  show (match getL s i with | some ds => _ | none => _) = _
  rw [h]
theorem len_tupN : biLen [.tup ds] s = .ok (.int ds.length) s := rfl
theorem tup_lstN (h : getL s i = some ds) : biTup [.ref i] s = .ok (.tup ds) s := by
  show (match getL s i with | some ds => _ | none => _) = _
  rw [h]
theorem lst_tupN : biLst [.tup ds] s = .ok (.ref s.length) (s ++ [.lst ds]) := rfl
theorem any_lstB {l : List Bool} (h : getL s i = some (l.map D.bl)) : biAny [.ref i] s = .ok (.bl (l.any id)) s := by
  have e : ∀ l : List Bool, asBls (l.map D.bl) = some l := fun l => by
    induction l with
    | nil => rfl
    | cons a l ih =>
      show (asBls (l.map D.bl)).map (a :: ·) = _
      rw [ih]; rfl
  show (match getL s i with | some ds => _ | none => _) = _
  rw [h]
  show (match asBls (l.map D.bl) with | some ns => _ | none => _) = _
  rw [e]
theorem append_ok' (h : s[i]? = some (.lst ds)) (hl : ds.length < line) : meAppend (.ref i) [d] s = .ok .non (s.set i (.lst (ds ++ [d]))) := by
  show (match s[i]? with | some (.lst ds) => _ | _ => _) = _
  rw [h]
  show (if ds.length < line then _ else _) = _
  rw [if_pos hl]
theorem extend_ok' {es : List D} (h : s[i]? = some (.lst ds)) (h' : s[j]? = some (.lst es)) (hl : ds.length + es.length ≤ line) : meExtend (.ref i) [.ref j] s = .ok .non (s.set i (.lst (ds ++ es))) := by
  show (match s[i]?, s[j]? with | some (.lst ds), some (.lst es) => _ | _, _ => _) = _
  rw [h, h']
  show (if ds.length + es.length ≤ line then _ else _) = _
  rw [if_pos hl]
theorem insert0_ok' (h : s[i]? = some (.lst ds)) (hl : ds.length < line) : meInsert (.ref i) [.int 0, d] s = .ok .non (s.set i (.lst (d :: ds))) := by
  show (match s[i]? with | some (.lst ds) => _ | _ => _) = _
  rw [h]
  show (if ds.length < line ∧ 0 ≤ (0 : Int) ∧ (0 : Int) < 2 ^ 63 then _ else _) = _
  rw [if_pos ⟨hl, by decide, by decide⟩]
  rfl
theorem pop0_ok' (h : s[i]? = some (.lst (d :: ds))) : mePopAt (.ref i) [.int 0] s = .ok d (s.set i (.lst ds)) := by
  show (match s[i]? with | some (.lst ds) => _ | _ => _) = _
  rw [h]
  show (if -(2 ^ 63) ≤ (0 : Int) ∧ (0 : Int) < 2 ^ 63 then _ else _) = _
  rw [if_pos ⟨by decide, by decide⟩]
  have e : seqIndex? 0 (d :: ds).length = some 0 := by
    unfold seqIndex?
    simp
  rw [e]
  rfl
theorem popN_ok' (h : s[i]? = some (.lst ds)) (e : ds[k]? = some d) (hk : k < 2 ^ 60) : mePopAt (.ref i) [.int (k : Int)] s = .ok d (s.set i (.lst (ds.eraseIdx k))) := by
  show (match s[i]? with | some (.lst ds) => _ | _ => _) = _
  rw [h]
  show (if -(2 ^ 63) ≤ (k : Int) ∧ (k : Int) < 2 ^ 63 then _ else _) = _
  rw [if_pos ⟨by omega, by omega⟩]
  have hl := (List.getElem?_eq_some_iff.mp e).1
  have e1 : seqIndex? (k : Int) ds.length = some k := by
    unfold seqIndex?
    have h1 : ¬ ((k : Int) < 0) := by omega
    simp [h1, hl]
  rw [e1]
  dsimp only
  rw [e]
theorem tyIs_lst (h : s[i]? = some (.lst ds)) : tyIs "list" s (.ref i) = true := by
  unfold tyIs
  dsimp only
  rw [h]
  rfl
theorem findI_mem {t : Int} : ∀ {q : List Int}, t ∈ q → ∃ n, findI t q = some n ∧ n < q.length
  | a :: q, h => by
    unfold findI
    by_cases e : a = t
    · rw [if_pos e]; exact ⟨0, rfl, by simp⟩
    · rw [if_neg e]
      have : t ∈ q := by
        rcases List.mem_cons.mp h with h | h
        · exact absurd h.symm e
        · exact h
      obtain ⟨n, hn, hl⟩ := findI_mem this
      exact ⟨n + 1, by rw [hn]; rfl, by simpa using hl⟩
theorem eraseIdx_findI {t : Int} : ∀ {q : List Int} {n : Nat}, findI t q = some n → q.eraseIdx n = q.erase t
  | a :: q, n, h => by
    unfold findI at h
    by_cases e : a = t
    · rw [if_pos e] at h
      cases h
      rw [List.eraseIdx_cons_zero, ← e, List.erase_cons_head]
    · rw [if_neg e] at h
      obtain ⟨m, hm, rfl⟩ := Option.map_eq_some_iff.mp h
      rw [List.eraseIdx_cons_succ, eraseIdx_findI hm, List.erase_cons_tail (by simpa using e)]
theorem ints_eraseIdx : ∀ (q : List Int) (n : Nat), (iD q).eraseIdx n = iD (q.eraseIdx n)
  | [], n => by simp
  | a :: q, 0 => rfl
  | a :: q, n + 1 => by
    show D.int a :: (iD q).eraseIdx n = D.int a :: iD (q.eraseIdx n)
    rw [ints_eraseIdx q n]
theorem remove_ok' {t : Int} (h : s[i]? = some (.lst (iD q))) (ht : t ∈ q) : meRemove (.ref i) [.int t] s = .ok .non (s.set i (.lst (iD (q.erase t)))) := by
  obtain ⟨n, hn, _⟩ := findI_mem ht
  unfold meRemove
  dsimp only
  rw [h]
  dsimp only
  rw [asInts_ints]
  dsimp only
  rw [hn]
  dsimp only
  rw [ints_eraseIdx, eraseIdx_findI hn]
theorem index_ok' {t : Int} (h : getL s i = some (iD q)) (e : findI t q = some n) : meIndex (.ref i) [.int t] s = .ok (.int n) s := by
  unfold meIndex
  dsimp only
  rw [h]
  dsimp only
  rw [asInts_ints]
  dsimp only
  rw [e]
end
/-! ### comprehensions without side effects -/
section
variable {s : S} {live : S → Bool} {bind : D → Env → S → TOut} {t : Env → S → Out Bool} {e : Env → S → Out D} {ρ : Env} {p : D → Bool} {f : D → D}
theorem lcW_map : ∀ (ds acc : List D), acc.length + ds.length ≤ line → (∀ acc, live (s ++ [.lst acc]) = true) →
    (∀ d ∈ ds, ∀ acc, ∃ ρ1, bind d ρ (s ++ [.lst acc]) = some (ρ1, s ++ [.lst acc]) ∧ t ρ1 (s ++ [.lst acc]) = .ok (p d) (s ++ [.lst acc]) ∧ (p d = true → e ρ1 (s ++ [.lst acc]) = .ok (f d) (s ++ [.lst acc]))) →
    lcW live bind t e ρ s.length ds (s ++ [.lst acc]) = .ok () (s ++ [.lst (acc ++ (ds.filter p).map f)])
  | [], acc, _, hl, _ => by
    unfold lcW
    rw [if_pos (hl acc)]
    simp
  | d :: ds, acc, hn, hl, h => by
    unfold lcW
    rw [if_pos (hl acc)]
    obtain ⟨ρ1, h1, h2, h3⟩ := h d List.mem_cons_self acc
    rw [h1]
    dsimp only
    rw [h2]
    have rest : ∀ acc : List D, acc.length + ds.length ≤ line → _ := fun acc hn => lcW_map ds acc hn hl fun d hd => h d (List.mem_cons_of_mem _ hd)
    rw [List.length_cons] at hn
    cases hp : p d with
    | false =>
      dsimp only
      rw [rest acc (by omega), List.filter_cons_of_neg (by simp [hp])]
    | true =>
      dsimp only
      rw [h3 hp]
      dsimp only
      have e1 : pushAt s.length (f d) (s ++ [.lst acc]) = some (s ++ [.lst (acc ++ [f d])]) := by
        unfold pushAt
        rw [at_end]
        dsimp only
        rw [if_pos (by omega), set_end]
      rw [e1]
      dsimp only
      rw [rest (acc ++ [f d]) (by simp; omega), List.filter_cons_of_pos hp, List.map_cons, List.append_assoc]
      rfl
theorem live_of {c : Src} {g : S} (h : ∀ i l, c.r = some (i, l) → getL s i = some l) : c.live (s ++ g) = true := by
  unfold Src.live
  split
  · rfl
  · rename_i i l e
    exact decide_eq_true (getL_app (h i l e))
theorem live_of0 {c : Src} (h : ∀ i l, c.r = some (i, l) → getL s i = some l) : c.live s = true := by
  have := live_of (g := []) h
  rwa [List.append_nil] at this
theorem lcV_map {fi : Env → S → Out Src} {own : List Nat} {c : Src} (hi : fi ρ s = .ok c s) (hc : ∀ i l, c.r = some (i, l) → getL s i = some l) (hn : c.ds.length ≤ line)
    (h : ∀ d ∈ c.ds, ∀ acc, ∃ ρ1, bind d (wipeE ρ own) (s ++ [.lst acc]) = some (ρ1, s ++ [.lst acc]) ∧ t ρ1 (s ++ [.lst acc]) = .ok (p d) (s ++ [.lst acc]) ∧ (p d = true → e ρ1 (s ++ [.lst acc]) = .ok (f d) (s ++ [.lst acc]))) :
    lcV fi bind t e own ρ s = .ok (.ref s.length) (s ++ [.lst ((c.ds.filter p).map f)]) := by
  unfold lcV
  rw [hi]
  show (match lcW c.live bind t e (wipeE ρ own) s.length c.ds (s ++ [.lst []]) with | .ok _ s' => Out.ok (D.ref s.length) s' | _ => .bad) = _
  rw [lcW_map (p := p) (f := f) c.ds [] (by simpa using hn) (fun acc => live_of hc) h]
  simp
/-! ### a loop that returns at the first hit -/
theorem forW_find {body : Env → S → SOut} {P : Env → S → Prop} {p : D → Bool} {r : D → D} : ∀ (ds : List D) (ρ : Env) (s : S), P ρ s → (∀ ρ s, P ρ s → live s = true) →
    (∀ d ∈ ds, ∀ ρ s, P ρ s → ∃ ρ1, bind d ρ s = some (ρ1, s) ∧ (p d = false → ∃ ρ2 s2, body ρ1 s = .nx ρ2 s2 ∧ P ρ2 s2) ∧ (p d = true → ∃ ρ2 s2, body ρ1 s = .rt (r d) s2 ∧ P ρ2 s2)) →
    (∃ (i : Nat) (d : D) (ρ2 : Env) (s2 : S), ds[i]? = some d ∧ p d = true ∧ (∀ (j : Nat) (e : D), j < i → ds[j]? = some e → p e = false) ∧ forW live bind body ds ρ s = .rt (r d) s2 ∧ P ρ2 s2) ∨
      ((∀ d ∈ ds, p d = false) ∧ ∃ ρ2 s2, forW live bind body ds ρ s = .nx ρ2 s2 ∧ P ρ2 s2)
  | [], ρ, s, h, hl, _ => .inr ⟨fun d hd => (nomatch hd), ρ, s, (by unfold forW; rw [if_pos (hl ρ s h)]), h⟩
  | d :: ds, ρ, s, h, hl, hb => by
    obtain ⟨ρ1, e1, e2, e3⟩ := hb d List.mem_cons_self ρ s h
    unfold forW
    rw [if_pos (hl ρ s h), e1]
    dsimp only
    cases hp : p d with
    | true =>
      obtain ⟨ρ2, s2, e4, h4⟩ := e3 hp
      rw [e4]
      exact .inl ⟨0, d, ρ2, s2, rfl, hp, fun j e hj => absurd hj (Nat.not_lt_zero j), rfl, h4⟩
    | false =>
      obtain ⟨ρ2, s2, e4, h4⟩ := e2 hp
      rw [e4]
      dsimp only
      rcases forW_find ds ρ2 s2 h4 hl fun d hd => hb d (List.mem_cons_of_mem _ hd) with ⟨i, x, ρ3, s3, a1, a2, a3, a4, a5⟩ | ⟨a1, ρ3, s3, a2, a3⟩
      · refine .inl ⟨i + 1, x, ρ3, s3, a1, a2, fun j y hj hy => ?_, a4, a5⟩
        cases j with
        | zero => cases hy; exact hp
        | succ j => exact a3 j y (by omega) hy
      · refine .inr ⟨fun y hy => ?_, ρ3, s3, a2, a3⟩
        rcases List.mem_cons.mp hy with q | q
        · rw [q]; exact hp
        · exact a1 y q
end
end Fe

set_option maxHeartbeats 4000000
/-! Fe Q: the class Queues: what its methods do. -/
namespace Fe
open PySem PySem.Spec PyProof.Rows
open L2 (atI ixN)
/-- a def's place in a table -/
class Has (T : List Fd) (i : Nat) (d : Fd) : Prop where
  at_ : T[i]? = some d
/-- where the defs, constants, errors stand -/
structure QI where
  isI : Nat
  isB : Nat
  isN : Nat
  isP : Nat
  ini : Nat
  put : Nat
  ent : Nat
  lea : Nat
  pic : Nat
  bes : Nat
  tas : Nat
  lev : Nat
  aha : Nat
  get : Nat
  len : Nat
  boo : Nat
  con : Nat
  cM : Nat
  cY : Nat
  cB : Nat
  cF : Nat
  xQ : Nat
  xN : Nat
def Qc : Cl := ⟨0, "Queues", ["own_lists"]⟩
abbrev wBack : List Nat := [98, 97, 99, 107]
abbrev wFront : List Nat := [102, 114, 111, 110, 116]
def mInQ : List Nat := [97, 32, 116, 97, 115, 107, 32, 116, 104, 97, 116, 32, 105, 115, 32, 105, 110, 32, 97, 32, 113, 117, 101, 117, 101, 32, 105, 115, 32, 101, 120, 112, 101, 99, 116, 101, 100]
def mNoQ : List Nat := [97, 32, 116, 97, 115, 107, 32, 116, 104, 97, 116, 32, 105, 115, 32, 105, 110, 32, 110, 111, 32, 113, 117, 101, 117, 101, 32, 105, 115, 32, 101, 120, 112, 101, 99, 116, 101, 100]
def mPl : List Nat := [97, 32, 112, 108, 97, 99, 101, 32, 105, 115, 32, 101, 120, 112, 101, 99, 116, 101, 100]
abbrev Big : Int := 10000000000000000000000000000000000000000
section
variable (q : QI)
abbrev OL : E := .fld (.var 0) "own_lists"
def isIB : List St := [(.ret (.and [(.isi .int (.var 0)), (.not (.isi .bl (.var 0))), (.chn .lt .lt (.neg (.con q.cY (.int Big))) (.var 0) (.con q.cY (.int Big)))]))]
def isNB : List St := [(.ret (.and [(.call q.isI [(.var 0)]), (.cmp .ge (.var 0) (.int 0))]))]
def isBB : List St := [(.ret (.and [(.call q.isI [(.var 0)]), (.chn .le .lt (.int 0) (.var 0) (.var 1))]))]
def isPB : List St := [(.ret (.and [(.isi .str (.var 0)), (.cmp .in_ (.var 0) (.tup [(.con q.cB (.str wBack)), (.con q.cF (.str wFront))]))]))]
def iniB : List St := [(.ite (.or [(.not (.call q.isI [(.var 1)])), (.not (.chn .le .le (.int 1) (.var 1) (.con q.cM (.int 3))))]) [(.rais q.xN true (.var 1))] []),
    (.setf (.var 0) "own_lists" (.lc (.lst []) (.nm 2) (.rng [(.var 1)]) .no [2]))]
def putB : List St := [(.ite (.cmp .eq (.var 3) (.con q.cB (.str wBack))) [(.expr (.me .append (.ix OL (.var 2)) [(.var 1)]))] [(.expr (.me .insert (.ix OL (.var 2)) [(.int 0), (.var 1)]))])]
def entB : List St := [(.ite (.or [(.not (.call q.isN [(.var 1)])), (.oin false Qc q.con (.var 1) (.var 0))]) [(.rais q.xQ false (.str mNoQ))] []),
    (.ite (.not (.call q.isB [(.var 2), (.bi .len [OL])])) [(.rais q.xN true (.var 2))] []),
    (.ite (.not (.call q.isP [(.var 3)])) [(.rais q.xQ false (.str mPl))] []),
    (.expr (.mt Qc q.put (.var 0) [(.var 1), (.var 2), (.var 3)]))]
def leaB : List St := [(.expr (.me .remove (.ix OL (.mt Qc q.lev (.var 0) [(.var 1)])) [(.var 1)]))]
def picB : List St := [(.ret (.ite (.cmp .is (.pr Qc q.bes (.var 0)) .non) .non (.me .popAt (.ix OL (.pr Qc q.bes (.var 0))) [(.int 0)])))]
def besB : List St := [(.for_ (.tp [(.nm 1), (.nm 2)]) (.enu OL) [(.ite (.cmp .ne (.var 2) (.lst [])) [(.ret (.var 1))] [])]),
    (.ret .non)]
def tasB : List St := [(.set 1 (.lst [])),
    (.for_ (.nm 2) OL [(.expr (.me .extend (.var 1) [(.var 2)]))]),
    (.ret (.bi .tup [(.var 1)]))]
def levB : List St := [(.ite (.oin true Qc q.con (.var 1) (.var 0)) [(.rais q.xQ false (.str mInQ))] []),
    (.ret (.ix (.lc (.var 2) (.tp [(.nm 2), (.nm 3)]) (.enu OL) (.cmp .in_ (.var 1) (.var 3)) [2, 3]) (.int 0)))]
def ahaB : List St := [(.set 3 (.lst [])),
    (.for_ (.nm 4) (.tup [(.var 1), (.var 2)]) [(.set 5 (.mt Qc q.lev (.var 0) [(.var 4)])), (.expr (.me .append (.var 3) [(.tup [(.var 5), (.me .index (.ix OL (.var 5)) [(.var 4)])])]))]),
    (.ret (.cmp .lt (.ix (.var 3) (.int 0)) (.ix (.var 3) (.int 1))))]
def getB : List St := [(.ite (.not (.call q.isB [(.var 1), (.bi .len [OL])])) [(.rais q.xN true (.var 1))] []),
    (.ret (.bi .tup [(.ix OL (.var 1))]))]
def lenB : List St := [(.ret (.bi .len [(.mt Qc q.tas (.var 0) [])]))]
def booB : List St := [(.ret (.cmp .isn (.pr Qc q.bes (.var 0)) .non))]
def conB_ : List St := [(.ret (.and [(.call q.isN [(.var 1)]), (.bi .any [(.lc (.cmp .in_ (.var 1) (.var 2)) (.nm 2) OL .no [2])])]))]
def isIF : Fd := ⟨"is_integer", ["value"], ["value"], isIB q, .fn⟩
def isNF : Fd := ⟨"is_number", ["value"], ["value"], isNB q, .fn⟩
def isBF : Fd := ⟨"is_below", ["value", "many"], ["value", "many"], isBB q, .fn⟩
def isPF : Fd := ⟨"is_place", ["value"], ["value"], isPB q, .fn⟩
def iniF : Fd := ⟨"__init__", ["self", "many"], ["self", "many", "level"], iniB q, .mk Qc⟩
def putF : Fd := ⟨"put", ["self", "task", "level", "place"], ["self", "task", "level", "place"], putB q, .mt Qc⟩
def entF : Fd := ⟨"enter", ["self", "task", "level", "place"], ["self", "task", "level", "place"], entB q, .mt Qc⟩
def leaF : Fd := ⟨"leave", ["self", "task"], ["self", "task"], leaB q, .mt Qc⟩
def picF : Fd := ⟨"pick", ["self"], ["self"], picB q, .mt Qc⟩
def besF : Fd := ⟨"best", ["self"], ["self", "level", "tasks"], besB, .pr Qc⟩
def tasF : Fd := ⟨"tasks", ["self"], ["self", "found", "tasks"], tasB, .mt Qc⟩
def levF : Fd := ⟨"level_of", ["self", "task"], ["self", "task", "level", "tasks"], levB q, .mt Qc⟩
def ahaF : Fd := ⟨"is_ahead", ["self", "task", "other"], ["self", "task", "other", "places", "one", "level"], ahaB q, .mt Qc⟩
def getF : Fd := ⟨"__getitem__", ["self", "level"], ["self", "level"], getB q, .sp Qc⟩
def lenF : Fd := ⟨"__len__", ["self"], ["self"], lenB q, .sp Qc⟩
def booF : Fd := ⟨"__bool__", ["self"], ["self"], booB q, .sp Qc⟩
def conF : Fd := ⟨"__contains__", ["self", "value"], ["self", "value", "tasks"], conB_ q, .sp Qc⟩
end
/-- queues at a: their lists -/
structure QAt (s : S) (a L : Nat) (ls : List Nat) (qs : List (List Int)) : Prop where
  ins : s[a]? = some (.ins Qc [.ref L])
  own : s[L]? = some (.lst (ls.map .ref))
  len : ls.length = qs.length
  few : ls.length ≤ 3
  at_ : ∀ (i l : Nat) (z : List Int), ls[i]? = some l → qs[i]? = some z → s[l]? = some (.lst (iD z))
  nd : (a :: L :: ls).Nodup
/-- the level of t -/
def Lv (qs : List (List Int)) (t : Int) (i : Nat) : Prop := (∃ z, qs[i]? = some z ∧ t ∈ z) ∧ ∀ j z, j < i → qs[j]? = some z → t ∉ z
/-- the best level -/
def Bst (qs : List (List Int)) (i : Nat) : Prop := (∃ z, qs[i]? = some z ∧ z ≠ []) ∧ ∀ j z, j < i → qs[j]? = some z → z = []
section
variable {T : List Fd} {q : QI} {k : Nat} {s g : S} {a L : Nat} {ls : List Nat} {qs : List (List Int)} {t : Int}
theorem QAt.app (h : QAt s a L ls qs) : QAt (s ++ g) a L ls qs := ⟨at_app h.ins, at_app h.own, h.len, h.few, fun i l z e1 e2 => at_app (h.at_ i l z e1 e2), h.nd⟩
theorem QAt.set_ne {i : Nat} {o : O} (h : QAt s a L ls qs) (hi : i ∉ a :: L :: ls) : QAt (s.set i o) a L ls qs := by
  simp only [List.mem_cons, not_or] at hi
  refine ⟨by rw [List.getElem?_set_ne hi.1]; exact h.ins, by rw [List.getElem?_set_ne hi.2.1]; exact h.own, h.len, h.few, fun j l z e1 e2 => ?_, h.nd⟩
  have ne : i ≠ l := fun e => hi.2.2 (e ▸ List.mem_of_getElem? e1)
  rw [List.getElem?_set_ne ne]
  exact h.at_ j l z e1 e2
theorem QAt.upd {i l : Nat} {z : List Int} (h : QAt s a L ls qs) (hi : ls[i]? = some l) : QAt (s.set l (.lst (iD z))) a L ls (qs.set i z) := by
  have nd := h.nd
  simp only [List.nodup_cons, List.mem_cons, not_or] at nd
  obtain ⟨⟨n1, n2⟩, n3, n4⟩ := nd
  have ml := List.mem_of_getElem? hi
  have hli := (List.getElem?_eq_some_iff.mp hi).1
  have m1 : l ≠ a := fun e => n2 (e ▸ ml)
  have m2 : l ≠ L := fun e => n3 (e ▸ ml)
  refine ⟨by rw [List.getElem?_set_ne m1]; exact h.ins, by rw [List.getElem?_set_ne m2]; exact h.own, by rw [List.length_set]; exact h.len, h.few, fun j m y e1 e2 => ?_, h.nd⟩
  by_cases e : j = i
  · subst e
    rw [hi] at e1
    cases e1
    have hq : j < qs.length := by rw [← h.len]; exact hli
    rw [List.getElem?_set_self hq] at e2
    cases e2
    obtain ⟨w, hw⟩ : ∃ w, qs[j]? = some w := ⟨_, List.getElem?_eq_getElem hq⟩
    exact List.getElem?_set_self (at_lt (h.at_ j l w hi hw))
  · have : l ≠ m := fun z => by
      subst z
      exact e ((List.getElem?_inj (List.getElem?_eq_some_iff.mp e1).1 n4).mp (e1.trans hi.symm))
    rw [List.getElem?_set_ne this]
    rw [List.getElem?_set_ne (fun z => e z.symm)] at e2
    exact h.at_ j m y e1 e2
theorem QAt.cl (h : QAt s a L ls qs) : clIs Qc s (.ref a) = true := by
  unfold clIs
  dsimp only
  rw [h.ins]
  dsimp only
  rw [decide_eq_true rfl, decide_eq_true rfl]; rfl
theorem QAt.fld (h : QAt s a L ls qs) : fldV "own_lists" (.ref a) s = .ok (.ref L) s := by
  unfold fldV
  dsimp only
  rw [h.ins]
  rfl
theorem QAt.getL_ (h : QAt s a L ls qs) : getL s L = some (ls.map .ref) := getL_lst h.own
theorem QAt.get_ {i : Nat} {z : List Int} (h : QAt s a L ls qs) (e : qs[i]? = some z) : ∃ l, ls[i]? = some l ∧ s[l]? = some (.lst (iD z)) ∧ (ls.map D.ref)[i]? = some (.ref l) := by
  have hi : i < ls.length := by rw [h.len]; exact (List.getElem?_eq_some_iff.mp e).1
  refine ⟨ls[i], List.getElem?_eq_getElem hi, h.at_ i _ z (List.getElem?_eq_getElem hi) e, ?_⟩
  rw [List.getElem?_map, List.getElem?_eq_getElem hi]; rfl
theorem QAt.get_l {i l : Nat} (h : QAt s a L ls qs) (e : ls[i]? = some l) : ∃ z, qs[i]? = some z ∧ s[l]? = some (.lst (iD z)) := by
  have hi : i < qs.length := by rw [← h.len]; exact (List.getElem?_eq_some_iff.mp e).1
  exact ⟨_, List.getElem?_eq_getElem hi, h.at_ i l _ e (List.getElem?_eq_getElem hi)⟩
theorem isi_ii {t : Int} : opIsi .int (.int t) s = .ok (.bl true) s := rfl
theorem isi_bi {t : Int} : opIsi .bl (.int t) s = .ok (.bl false) s := rfl
theorem isi_ss {c : List Nat} : opIsi .str (.str c) s = .ok (.bl true) s := rfl
theorem neg_i {x : Int} : opNeg (.int x) s = .ok (.int (-x)) s := rfl
theorem lt_i {x y : Int} : opLt (.int x) (.int y) s = .ok (.bl (decide (x < y))) s := rfl
theorem le_i {x y : Int} : opI2 (fun i j => decide (i ≤ j)) (.int x) (.int y) s = .ok (.bl (decide (x ≤ y))) s := rfl
theorem ge_i {x y : Int} : opI2 (fun i j => decide (j ≤ i)) (.int x) (.int y) s = .ok (.bl (decide (y ≤ x))) s := rfl
theorem gt_i {x y : Int} : opI2 (fun i j => decide (j < i)) (.int x) (.int y) s = .ok (.bl (decide (y < x))) s := rfl
theorem isI_spec [hI : Has T q.isI (isIF q)] (h1 : -Big < t) (h2 : t < Big) : callF T (k + 1) q.isI [.int t] s = .ok (.bl true) s := by
  rw [call_at hI.at_ rfl]
  show trimO s (retO (execs (callF T k) (isIB q) [some (.int t)] s)) = _
  have e : execs (callF T k) (isIB q) [some (.int t)] s = .rt (.bl true) s := by
    unfold isIB
    simp only [Fe.bind_ok, Fe.bind_exc, Fe.lift_ok, Fe.lift_exc, Fe.seq_nx, Fe.seq_rt, Fe.seq_exc, Fe.v_non, Fe.v_bl, Fe.v_int, Fe.v_str, Fe.v_var, Fe.v_con, Fe.v_bin, Fe.v_neg, Fe.v_cmp, Fe.v_chn, Fe.v_and, Fe.v_or, Fe.v_not, Fe.v_ite, Fe.v_tup, Fe.v_lst, Fe.v_ix, Fe.v_sl, Fe.v_call, Fe.v_bi, Fe.v_isi, Fe.v_me, Fe.v_lc, Fe.v_dct, Fe.v_rev, Fe.v_fld, Fe.v_mt, Fe.v_pr, Fe.v_mk, Fe.v_oinT, Fe.v_oinF, Fe.v_inV, Fe.v_olen, Fe.v_lenOwn, Fe.v_obool, Fe.v_boolOwn, Fe.v_otru, Fe.v_oix, Fe.v_lrg, Fe.v_trg, Fe.v_ostr, Fe.v_strOwn, Fe.v_asSt, Fe.v_fst, Fe.v_noExc, Fe.v_asBl, Fe.v_asB, Fe.v_asTru, Fe.v_asNon, Fe.o_no, Fe.o_int, Fe.o_var, Fe.o_bin, Fe.o_neg, Fe.o_ite, Fe.asI_int, Fe.t_no, Fe.t_cmp, Fe.t_chn, Fe.t_and, Fe.t_or, Fe.t_not, Fe.t_call, Fe.t_var, Fe.t_isi, Fe.t_bi, Fe.t_oinT, Fe.t_oinF, Fe.t_otru, Fe.t_obool, Fe.t_mt, Fe.t_pr, Fe.t_fld, Fe.t_tru, Fe.sems_nil, Fe.sems_cons, Fe.args_nil, Fe.args_cons, Fe.andV_1, Fe.andV_2, Fe.orV_1, Fe.orV_2, Fe.andT_1, Fe.andT_2, Fe.orT_1, Fe.orT_2, Fe.v_lam, Fe.i_rng, Fe.i_tup, Fe.i_var, Fe.i_fld, Fe.i_mt, Fe.i_oix, Fe.i_enu, Fe.i_call, Fe.x_retN, Fe.x_pass, Fe.x_whl, Fe.x_setf, Fe.x_nil, Fe.x_cons, Fe.x_set, Fe.x_ret, Fe.x_expr, Fe.x_ite, Fe.x_sub, Fe.x_par, Fe.x_asg, Fe.x_for, Fe.x_met, Fe.x_rais, lk_0, lk_s, int_int, add_int, Cm.f, Ar.f, Bi.f, Me.f, Me.T, liftT, List.set_cons_succ, List.set_cons_zero, isi_ii, isi_bi, neg_i, lt_i, decide_eq_true h1, decide_eq_true h2, if_true, Bool.not_false]
  rw [e]; exact trim_id rfl
theorem isN_spec [hI : Has T q.isI (isIF q)] [hN : Has T q.isN (isNF q)] (h1 : 0 ≤ t) (h2 : t < Big) : callF T (k + 2) q.isN [.int t] s = .ok (.bl true) s := by
  rw [call_at hN.at_ rfl]
  show trimO s (retO (execs (callF T (k + 1)) (isNB q) [some (.int t)] s)) = _
  have e : execs (callF T (k + 1)) (isNB q) [some (.int t)] s = .rt (.bl true) s := by
    unfold isNB
    simp only [Fe.bind_ok, Fe.bind_exc, Fe.lift_ok, Fe.lift_exc, Fe.seq_nx, Fe.seq_rt, Fe.seq_exc, Fe.v_non, Fe.v_bl, Fe.v_int, Fe.v_str, Fe.v_var, Fe.v_con, Fe.v_bin, Fe.v_neg, Fe.v_cmp, Fe.v_chn, Fe.v_and, Fe.v_or, Fe.v_not, Fe.v_ite, Fe.v_tup, Fe.v_lst, Fe.v_ix, Fe.v_sl, Fe.v_call, Fe.v_bi, Fe.v_isi, Fe.v_me, Fe.v_lc, Fe.v_dct, Fe.v_rev, Fe.v_fld, Fe.v_mt, Fe.v_pr, Fe.v_mk, Fe.v_oinT, Fe.v_oinF, Fe.v_inV, Fe.v_olen, Fe.v_lenOwn, Fe.v_obool, Fe.v_boolOwn, Fe.v_otru, Fe.v_oix, Fe.v_lrg, Fe.v_trg, Fe.v_ostr, Fe.v_strOwn, Fe.v_asSt, Fe.v_fst, Fe.v_noExc, Fe.v_asBl, Fe.v_asB, Fe.v_asTru, Fe.v_asNon, Fe.o_no, Fe.o_int, Fe.o_var, Fe.o_bin, Fe.o_neg, Fe.o_ite, Fe.asI_int, Fe.t_no, Fe.t_cmp, Fe.t_chn, Fe.t_and, Fe.t_or, Fe.t_not, Fe.t_call, Fe.t_var, Fe.t_isi, Fe.t_bi, Fe.t_oinT, Fe.t_oinF, Fe.t_otru, Fe.t_obool, Fe.t_mt, Fe.t_pr, Fe.t_fld, Fe.t_tru, Fe.sems_nil, Fe.sems_cons, Fe.args_nil, Fe.args_cons, Fe.andV_1, Fe.andV_2, Fe.orV_1, Fe.orV_2, Fe.andT_1, Fe.andT_2, Fe.orT_1, Fe.orT_2, Fe.v_lam, Fe.i_rng, Fe.i_tup, Fe.i_var, Fe.i_fld, Fe.i_mt, Fe.i_oix, Fe.i_enu, Fe.i_call, Fe.x_retN, Fe.x_pass, Fe.x_whl, Fe.x_setf, Fe.x_nil, Fe.x_cons, Fe.x_set, Fe.x_ret, Fe.x_expr, Fe.x_ite, Fe.x_sub, Fe.x_par, Fe.x_asg, Fe.x_for, Fe.x_met, Fe.x_rais, lk_0, lk_s, int_int, add_int, Cm.f, Ar.f, Bi.f, Me.f, Me.T, liftT, List.set_cons_succ, List.set_cons_zero, isI_spec (q := q) (show -Big < t by omega) h2, ge_i, decide_eq_true h1, if_true]
  rw [e]; exact trim_id rfl
theorem isB_spec [hI : Has T q.isI (isIF q)] [hB : Has T q.isB (isBF q)] {n : Int} (h1 : 0 ≤ t) (h2 : t < n) (h3 : n < Big) : callF T (k + 2) q.isB [.int t, .int n] s = .ok (.bl true) s := by
  rw [call_at hB.at_ rfl]
  show trimO s (retO (execs (callF T (k + 1)) (isBB q) [some (.int t), some (.int n)] s)) = _
  have e : execs (callF T (k + 1)) (isBB q) [some (.int t), some (.int n)] s = .rt (.bl true) s := by
    unfold isBB
    simp only [Fe.bind_ok, Fe.bind_exc, Fe.lift_ok, Fe.lift_exc, Fe.seq_nx, Fe.seq_rt, Fe.seq_exc, Fe.v_non, Fe.v_bl, Fe.v_int, Fe.v_str, Fe.v_var, Fe.v_con, Fe.v_bin, Fe.v_neg, Fe.v_cmp, Fe.v_chn, Fe.v_and, Fe.v_or, Fe.v_not, Fe.v_ite, Fe.v_tup, Fe.v_lst, Fe.v_ix, Fe.v_sl, Fe.v_call, Fe.v_bi, Fe.v_isi, Fe.v_me, Fe.v_lc, Fe.v_dct, Fe.v_rev, Fe.v_fld, Fe.v_mt, Fe.v_pr, Fe.v_mk, Fe.v_oinT, Fe.v_oinF, Fe.v_inV, Fe.v_olen, Fe.v_lenOwn, Fe.v_obool, Fe.v_boolOwn, Fe.v_otru, Fe.v_oix, Fe.v_lrg, Fe.v_trg, Fe.v_ostr, Fe.v_strOwn, Fe.v_asSt, Fe.v_fst, Fe.v_noExc, Fe.v_asBl, Fe.v_asB, Fe.v_asTru, Fe.v_asNon, Fe.o_no, Fe.o_int, Fe.o_var, Fe.o_bin, Fe.o_neg, Fe.o_ite, Fe.asI_int, Fe.t_no, Fe.t_cmp, Fe.t_chn, Fe.t_and, Fe.t_or, Fe.t_not, Fe.t_call, Fe.t_var, Fe.t_isi, Fe.t_bi, Fe.t_oinT, Fe.t_oinF, Fe.t_otru, Fe.t_obool, Fe.t_mt, Fe.t_pr, Fe.t_fld, Fe.t_tru, Fe.sems_nil, Fe.sems_cons, Fe.args_nil, Fe.args_cons, Fe.andV_1, Fe.andV_2, Fe.orV_1, Fe.orV_2, Fe.andT_1, Fe.andT_2, Fe.orT_1, Fe.orT_2, Fe.v_lam, Fe.i_rng, Fe.i_tup, Fe.i_var, Fe.i_fld, Fe.i_mt, Fe.i_oix, Fe.i_enu, Fe.i_call, Fe.x_retN, Fe.x_pass, Fe.x_whl, Fe.x_setf, Fe.x_nil, Fe.x_cons, Fe.x_set, Fe.x_ret, Fe.x_expr, Fe.x_ite, Fe.x_sub, Fe.x_par, Fe.x_asg, Fe.x_for, Fe.x_met, Fe.x_rais, lk_0, lk_s, int_int, add_int, Cm.f, Ar.f, Bi.f, Me.f, Me.T, liftT, List.set_cons_succ, List.set_cons_zero, isI_spec (q := q) (show -Big < t by omega) (show t < Big by omega), le_i, lt_i, decide_eq_true h1, decide_eq_true h2, if_true]
  rw [e]; exact trim_id rfl
theorem isP_spec [hP : Has T q.isP (isPF q)] {c : List Nat} (h : c = wBack ∨ c = wFront) : callF T (k + 1) q.isP [.str c] s = .ok (.bl true) s := by
  rw [call_at hP.at_ rfl]
  show trimO s (retO (execs (callF T k) (isPB q) [some (.str c)] s)) = _
  have m : ∀ a b : D, mkTup [a, b] s = .ok (.tup [a, b]) s := fun a b => rfl
  have e : execs (callF T k) (isPB q) [some (.str c)] s = .rt (.bl true) s := by
    unfold isPB
    simp only [Fe.bind_ok, Fe.bind_exc, Fe.lift_ok, Fe.lift_exc, Fe.seq_nx, Fe.seq_rt, Fe.seq_exc, Fe.v_non, Fe.v_bl, Fe.v_int, Fe.v_str, Fe.v_var, Fe.v_con, Fe.v_bin, Fe.v_neg, Fe.v_cmp, Fe.v_chn, Fe.v_and, Fe.v_or, Fe.v_not, Fe.v_ite, Fe.v_tup, Fe.v_lst, Fe.v_ix, Fe.v_sl, Fe.v_call, Fe.v_bi, Fe.v_isi, Fe.v_me, Fe.v_lc, Fe.v_dct, Fe.v_rev, Fe.v_fld, Fe.v_mt, Fe.v_pr, Fe.v_mk, Fe.v_oinT, Fe.v_oinF, Fe.v_inV, Fe.v_olen, Fe.v_lenOwn, Fe.v_obool, Fe.v_boolOwn, Fe.v_otru, Fe.v_oix, Fe.v_lrg, Fe.v_trg, Fe.v_ostr, Fe.v_strOwn, Fe.v_asSt, Fe.v_fst, Fe.v_noExc, Fe.v_asBl, Fe.v_asB, Fe.v_asTru, Fe.v_asNon, Fe.o_no, Fe.o_int, Fe.o_var, Fe.o_bin, Fe.o_neg, Fe.o_ite, Fe.asI_int, Fe.t_no, Fe.t_cmp, Fe.t_chn, Fe.t_and, Fe.t_or, Fe.t_not, Fe.t_call, Fe.t_var, Fe.t_isi, Fe.t_bi, Fe.t_oinT, Fe.t_oinF, Fe.t_otru, Fe.t_obool, Fe.t_mt, Fe.t_pr, Fe.t_fld, Fe.t_tru, Fe.sems_nil, Fe.sems_cons, Fe.args_nil, Fe.args_cons, Fe.andV_1, Fe.andV_2, Fe.orV_1, Fe.orV_2, Fe.andT_1, Fe.andT_2, Fe.orT_1, Fe.orT_2, Fe.v_lam, Fe.i_rng, Fe.i_tup, Fe.i_var, Fe.i_fld, Fe.i_mt, Fe.i_oix, Fe.i_enu, Fe.i_call, Fe.x_retN, Fe.x_pass, Fe.x_whl, Fe.x_setf, Fe.x_nil, Fe.x_cons, Fe.x_set, Fe.x_ret, Fe.x_expr, Fe.x_ite, Fe.x_sub, Fe.x_par, Fe.x_asg, Fe.x_for, Fe.x_met, Fe.x_rais, lk_0, lk_s, int_int, add_int, Cm.f, Ar.f, Bi.f, Me.f, Me.T, liftT, List.set_cons_succ, List.set_cons_zero, isi_ss, if_true, m]
    rcases h with rfl | rfl <;> rfl
  rw [e]; exact trim_id rfl
/-! in -/
/-- what `in` answers -/
def valO : Out D → D
  | .ok d _ => d
  | _ => .non
theorem con_spec [hI : Has T q.isI (isIF q)] [hN : Has T q.isN (isNF q)] [hC : Has T q.con (conF q)] (Q : QAt s a L ls qs) (h1 : 0 ≤ t) (h2 : t < Big) : callF T (k + 3) q.con [.ref a, .int t] s = .ok (.bl (qs.any (·.contains t))) s := by
  rw [call_at hC.at_ rfl]
  show trimO s (retO (execs (callF T (k + 2)) (conB_ q) [some (.ref a), some (.int t), none] s)) = _
  have e : execs (callF T (k + 2)) (conB_ q) [some (.ref a), some (.int t), none] s = .rt (.bl (qs.any (·.contains t))) (s ++ [.lst ((qs.map (·.contains t)).map D.bl)]) := by
    unfold conB_
    have src : (sem (callF T (k + 2)) OL).i [some (.ref a), some (.int t), none] s = .ok ⟨ls.map .ref, some (L, ls.map .ref)⟩ s := by
      simp only [Fe.bind_ok, Fe.bind_exc, Fe.lift_ok, Fe.lift_exc, Fe.seq_nx, Fe.seq_rt, Fe.seq_exc, Fe.v_non, Fe.v_bl, Fe.v_int, Fe.v_str, Fe.v_var, Fe.v_con, Fe.v_bin, Fe.v_neg, Fe.v_cmp, Fe.v_chn, Fe.v_and, Fe.v_or, Fe.v_not, Fe.v_ite, Fe.v_tup, Fe.v_lst, Fe.v_ix, Fe.v_sl, Fe.v_call, Fe.v_bi, Fe.v_isi, Fe.v_me, Fe.v_lc, Fe.v_dct, Fe.v_rev, Fe.v_fld, Fe.v_mt, Fe.v_pr, Fe.v_mk, Fe.v_oinT, Fe.v_oinF, Fe.v_inV, Fe.v_olen, Fe.v_lenOwn, Fe.v_obool, Fe.v_boolOwn, Fe.v_otru, Fe.v_oix, Fe.v_lrg, Fe.v_trg, Fe.v_ostr, Fe.v_strOwn, Fe.v_asSt, Fe.v_fst, Fe.v_noExc, Fe.v_asBl, Fe.v_asB, Fe.v_asTru, Fe.v_asNon, Fe.o_no, Fe.o_int, Fe.o_var, Fe.o_bin, Fe.o_neg, Fe.o_ite, Fe.asI_int, Fe.t_no, Fe.t_cmp, Fe.t_chn, Fe.t_and, Fe.t_or, Fe.t_not, Fe.t_call, Fe.t_var, Fe.t_isi, Fe.t_bi, Fe.t_oinT, Fe.t_oinF, Fe.t_otru, Fe.t_obool, Fe.t_mt, Fe.t_pr, Fe.t_fld, Fe.t_tru, Fe.sems_nil, Fe.sems_cons, Fe.args_nil, Fe.args_cons, Fe.andV_1, Fe.andV_2, Fe.orV_1, Fe.orV_2, Fe.andT_1, Fe.andT_2, Fe.orT_1, Fe.orT_2, Fe.v_lam, Fe.i_rng, Fe.i_tup, Fe.i_var, Fe.i_fld, Fe.i_mt, Fe.i_oix, Fe.i_enu, Fe.i_call, Fe.x_retN, Fe.x_pass, Fe.x_whl, Fe.x_setf, Fe.x_nil, Fe.x_cons, Fe.x_set, Fe.x_ret, Fe.x_expr, Fe.x_ite, Fe.x_sub, Fe.x_par, Fe.x_asg, Fe.x_for, Fe.x_met, Fe.x_rais, lk_0, lk_s, int_int, add_int, Cm.f, Ar.f, Bi.f, Me.f, Me.T, liftT, List.set_cons_succ, List.set_cons_zero, Q.fld]
      show (match getL s L with | some ds => _ | none => _) = _
      rw [Q.getL_]
    have lc := lcV_map (t := (sem (callF T (k + 2)) .no).t) (e := (sem (callF T (k + 2)) (.cmp .in_ (.var 1) (.var 2))).v) (bind := bnd (.nm 2)) (own := [2]) (p := fun _ => true) (f := fun d => valO (opIn (.int t) d s)) src
      (fun i l e => by cases e; exact Q.getL_) (by show (ls.map D.ref).length ≤ line; rw [List.length_map]; have := Q.few; unfold line; omega) (fun d hd acc => by
        obtain ⟨l, hl, rfl⟩ := List.mem_map.mp hd
        obtain ⟨i, hi⟩ := List.getElem?_of_mem hl
        obtain ⟨z, hz, hs⟩ := Q.get_l hi
        refine ⟨[some (.ref a), some (.int t), some (.ref l)], rfl, rfl, fun _ => ?_⟩
        simp only [Fe.bind_ok, Fe.bind_exc, Fe.lift_ok, Fe.lift_exc, Fe.seq_nx, Fe.seq_rt, Fe.seq_exc, Fe.v_non, Fe.v_bl, Fe.v_int, Fe.v_str, Fe.v_var, Fe.v_con, Fe.v_bin, Fe.v_neg, Fe.v_cmp, Fe.v_chn, Fe.v_and, Fe.v_or, Fe.v_not, Fe.v_ite, Fe.v_tup, Fe.v_lst, Fe.v_ix, Fe.v_sl, Fe.v_call, Fe.v_bi, Fe.v_isi, Fe.v_me, Fe.v_lc, Fe.v_dct, Fe.v_rev, Fe.v_fld, Fe.v_mt, Fe.v_pr, Fe.v_mk, Fe.v_oinT, Fe.v_oinF, Fe.v_inV, Fe.v_olen, Fe.v_lenOwn, Fe.v_obool, Fe.v_boolOwn, Fe.v_otru, Fe.v_oix, Fe.v_lrg, Fe.v_trg, Fe.v_ostr, Fe.v_strOwn, Fe.v_asSt, Fe.v_fst, Fe.v_noExc, Fe.v_asBl, Fe.v_asB, Fe.v_asTru, Fe.v_asNon, Fe.o_no, Fe.o_int, Fe.o_var, Fe.o_bin, Fe.o_neg, Fe.o_ite, Fe.asI_int, Fe.t_no, Fe.t_cmp, Fe.t_chn, Fe.t_and, Fe.t_or, Fe.t_not, Fe.t_call, Fe.t_var, Fe.t_isi, Fe.t_bi, Fe.t_oinT, Fe.t_oinF, Fe.t_otru, Fe.t_obool, Fe.t_mt, Fe.t_pr, Fe.t_fld, Fe.t_tru, Fe.sems_nil, Fe.sems_cons, Fe.args_nil, Fe.args_cons, Fe.andV_1, Fe.andV_2, Fe.orV_1, Fe.orV_2, Fe.andT_1, Fe.andT_2, Fe.orT_1, Fe.orT_2, Fe.v_lam, Fe.i_rng, Fe.i_tup, Fe.i_var, Fe.i_fld, Fe.i_mt, Fe.i_oix, Fe.i_enu, Fe.i_call, Fe.x_retN, Fe.x_pass, Fe.x_whl, Fe.x_setf, Fe.x_nil, Fe.x_cons, Fe.x_set, Fe.x_ret, Fe.x_expr, Fe.x_ite, Fe.x_sub, Fe.x_par, Fe.x_asg, Fe.x_for, Fe.x_met, Fe.x_rais, lk_0, lk_s, int_int, add_int, Cm.f, Ar.f, Bi.f, Me.f, Me.T, liftT, List.set_cons_succ, List.set_cons_zero]
        rw [in_lstI (getL_app (getL_lst hs)), in_lstI (getL_lst hs)]
        rfl)
    have same : ((ls.map D.ref).filter fun _ => true).map (fun d => valO (opIn (.int t) d s)) = (qs.map (·.contains t)).map D.bl := by
      rw [List.filter_eq_self.mpr (fun _ _ => rfl)]
      apply List.ext_getElem?
      intro i
      rw [List.getElem?_map, List.getElem?_map, List.getElem?_map, List.getElem?_map]
      cases e : ls[i]? with
      | none =>
        have : qs[i]? = none := by
          rw [List.getElem?_eq_none_iff] at e ⊢
          rw [← Q.len]; exact e
        rw [this]; rfl
      | some l =>
        obtain ⟨z, hz, hs⟩ := Q.get_l e
        rw [hz]
        show some (valO (opIn (.int t) (.ref l) s)) = _
        rw [in_lstI (getL_lst hs)]
        rfl
    rw [same] at lc
    simp only [Fe.bind_ok, Fe.bind_exc, Fe.lift_ok, Fe.lift_exc, Fe.seq_nx, Fe.seq_rt, Fe.seq_exc, Fe.v_non, Fe.v_bl, Fe.v_int, Fe.v_str, Fe.v_var, Fe.v_con, Fe.v_bin, Fe.v_neg, Fe.v_cmp, Fe.v_chn, Fe.v_and, Fe.v_or, Fe.v_not, Fe.v_ite, Fe.v_tup, Fe.v_lst, Fe.v_ix, Fe.v_sl, Fe.v_call, Fe.v_bi, Fe.v_isi, Fe.v_me, Fe.v_lc, Fe.v_dct, Fe.v_rev, Fe.v_fld, Fe.v_mt, Fe.v_pr, Fe.v_mk, Fe.v_oinT, Fe.v_oinF, Fe.v_inV, Fe.v_olen, Fe.v_lenOwn, Fe.v_obool, Fe.v_boolOwn, Fe.v_otru, Fe.v_oix, Fe.v_lrg, Fe.v_trg, Fe.v_ostr, Fe.v_strOwn, Fe.v_asSt, Fe.v_fst, Fe.v_noExc, Fe.v_asBl, Fe.v_asB, Fe.v_asTru, Fe.v_asNon, Fe.o_no, Fe.o_int, Fe.o_var, Fe.o_bin, Fe.o_neg, Fe.o_ite, Fe.asI_int, Fe.t_no, Fe.t_cmp, Fe.t_chn, Fe.t_and, Fe.t_or, Fe.t_not, Fe.t_call, Fe.t_var, Fe.t_isi, Fe.t_bi, Fe.t_oinT, Fe.t_oinF, Fe.t_otru, Fe.t_obool, Fe.t_mt, Fe.t_pr, Fe.t_fld, Fe.t_tru, Fe.sems_nil, Fe.sems_cons, Fe.args_nil, Fe.args_cons, Fe.andV_1, Fe.andV_2, Fe.orV_1, Fe.orV_2, Fe.andT_1, Fe.andT_2, Fe.orT_1, Fe.orT_2, Fe.v_lam, Fe.i_rng, Fe.i_tup, Fe.i_var, Fe.i_fld, Fe.i_mt, Fe.i_oix, Fe.i_enu, Fe.i_call, Fe.x_retN, Fe.x_pass, Fe.x_whl, Fe.x_setf, Fe.x_nil, Fe.x_cons, Fe.x_set, Fe.x_ret, Fe.x_expr, Fe.x_ite, Fe.x_sub, Fe.x_par, Fe.x_asg, Fe.x_for, Fe.x_met, Fe.x_rais, lk_0, lk_s, int_int, add_int, Cm.f, Ar.f, Bi.f, Me.f, Me.T, liftT, List.set_cons_succ, List.set_cons_zero, isN_spec (q := q) h1 h2, if_true, lc]
    rw [any_lstB (l := qs.map (·.contains t)) getL_end]
    simp only [Fe.bind_ok, Fe.bind_exc, Fe.lift_ok, Fe.lift_exc, Fe.seq_nx, Fe.seq_rt, Fe.seq_exc, Fe.v_non, Fe.v_bl, Fe.v_int, Fe.v_str, Fe.v_var, Fe.v_con, Fe.v_bin, Fe.v_neg, Fe.v_cmp, Fe.v_chn, Fe.v_and, Fe.v_or, Fe.v_not, Fe.v_ite, Fe.v_tup, Fe.v_lst, Fe.v_ix, Fe.v_sl, Fe.v_call, Fe.v_bi, Fe.v_isi, Fe.v_me, Fe.v_lc, Fe.v_dct, Fe.v_rev, Fe.v_fld, Fe.v_mt, Fe.v_pr, Fe.v_mk, Fe.v_oinT, Fe.v_oinF, Fe.v_inV, Fe.v_olen, Fe.v_lenOwn, Fe.v_obool, Fe.v_boolOwn, Fe.v_otru, Fe.v_oix, Fe.v_lrg, Fe.v_trg, Fe.v_ostr, Fe.v_strOwn, Fe.v_asSt, Fe.v_fst, Fe.v_noExc, Fe.v_asBl, Fe.v_asB, Fe.v_asTru, Fe.v_asNon, Fe.o_no, Fe.o_int, Fe.o_var, Fe.o_bin, Fe.o_neg, Fe.o_ite, Fe.asI_int, Fe.t_no, Fe.t_cmp, Fe.t_chn, Fe.t_and, Fe.t_or, Fe.t_not, Fe.t_call, Fe.t_var, Fe.t_isi, Fe.t_bi, Fe.t_oinT, Fe.t_oinF, Fe.t_otru, Fe.t_obool, Fe.t_mt, Fe.t_pr, Fe.t_fld, Fe.t_tru, Fe.sems_nil, Fe.sems_cons, Fe.args_nil, Fe.args_cons, Fe.andV_1, Fe.andV_2, Fe.orV_1, Fe.orV_2, Fe.andT_1, Fe.andT_2, Fe.orT_1, Fe.orT_2, Fe.v_lam, Fe.i_rng, Fe.i_tup, Fe.i_var, Fe.i_fld, Fe.i_mt, Fe.i_oix, Fe.i_enu, Fe.i_call, Fe.x_retN, Fe.x_pass, Fe.x_whl, Fe.x_setf, Fe.x_nil, Fe.x_cons, Fe.x_set, Fe.x_ret, Fe.x_expr, Fe.x_ite, Fe.x_sub, Fe.x_par, Fe.x_asg, Fe.x_for, Fe.x_met, Fe.x_rais, lk_0, lk_s, int_int, add_int, Cm.f, Ar.f, Bi.f, Me.f, Me.T, liftT, List.set_cons_succ, List.set_cons_zero]
    rw [List.any_map]
    rfl
  rw [e]; exact trim_app rfl
theorem any_con : (qs.any (·.contains t)) = true ↔ ∃ (i : Nat) (z : List Int), qs[i]? = some z ∧ t ∈ z := by
  rw [List.any_eq_true]
  constructor
  · rintro ⟨z, h1, h2⟩
    obtain ⟨i, hi⟩ := List.getElem?_of_mem h1
    exact ⟨i, z, hi, by simpa using h2⟩
  · rintro ⟨i, z, h1, h2⟩
    exact ⟨z, List.mem_of_getElem? h1, by simpa using h2⟩
theorem Lv.con {i : Nat} (h : Lv qs t i) : qs.any (·.contains t) = true := any_con.mpr (let ⟨z, h1, h2⟩ := h.1; ⟨i, z, h1, h2⟩)
theorem enum_i {ds : List D} {i : Nat} {x : D} (h : (enumD 0 ds)[i]? = some x) : ∃ d, ds[i]? = some d ∧ x = .tup [.int i, d] := by
  cases e : ds[i]? with
  | none =>
    rw [List.getElem?_eq_none_iff] at e
    rw [List.getElem?_eq_none (by rw [enumD_len]; exact e)] at h
    cases h
  | some d =>
    rw [enumD_get ds 0 i d e] at h
    cases h
    exact ⟨d, rfl, by rw [Nat.zero_add]⟩
theorem bnd_pair {i j : Nat} {x y : D} {ρ : Env} : bnd (.tp [.nm i, .nm j]) (.tup [x, y]) ρ s = some ((ρ.set i (some x)).set j (some y), s) := rfl
/-- what a pair holds -/
def fst_ : D → D
  | .tup (x :: _) => x
  | _ => .non
def snd_ : D → D
  | .tup (_ :: y :: _) => y
  | _ => .non
def isT_ : D → Bool
  | .bl b => b
  | _ => false
theorem atI_0 {ds : List D} {d : D} (h : ds.head? = some d) : atI ds 0 = some d := by
  cases ds with
  | nil => cases h
  | cons a l =>
    cases h
    exact atI_ofNat (i := 0) rfl
theorem ix_lst0 {j : Nat} {ds : List D} {d : D} (h : getL s j = some ds) (e : ds.head? = some d) : opIx (.ref j) (.int 0) s = .ok d s := ix_lstN (k := 0) h (by rw [← List.head?_eq_getElem?]; exact e)
theorem lev_spec [hI : Has T q.isI (isIF q)] [hN : Has T q.isN (isNF q)] [hC : Has T q.con (conF q)] [hL : Has T q.lev (levF q)] {i : Nat} (Q : QAt s a L ls qs) (h1 : 0 ≤ t) (h2 : t < Big) (lv : Lv qs t i) :
    callF T (k + 4) q.lev [.ref a, .int t] s = .ok (.int i) s := by
  rw [call_at hL.at_ rfl]
  show trimO s (retO (execs (callF T (k + 3)) (levB q) [some (.ref a), some (.int t), none, none] s)) = _
  have src : (sem (callF T (k + 3)) (.enu OL)).i [some (.ref a), some (.int t), none, none] s = .ok ⟨enumD 0 (ls.map .ref), some (L, ls.map .ref)⟩ s := by
    simp only [Fe.bind_ok, Fe.bind_exc, Fe.lift_ok, Fe.lift_exc, Fe.seq_nx, Fe.seq_rt, Fe.seq_exc, Fe.v_non, Fe.v_bl, Fe.v_int, Fe.v_str, Fe.v_var, Fe.v_con, Fe.v_bin, Fe.v_neg, Fe.v_cmp, Fe.v_chn, Fe.v_and, Fe.v_or, Fe.v_not, Fe.v_ite, Fe.v_tup, Fe.v_lst, Fe.v_ix, Fe.v_sl, Fe.v_call, Fe.v_bi, Fe.v_isi, Fe.v_me, Fe.v_lc, Fe.v_dct, Fe.v_rev, Fe.v_fld, Fe.v_mt, Fe.v_pr, Fe.v_mk, Fe.v_oinT, Fe.v_oinF, Fe.v_inV, Fe.v_olen, Fe.v_lenOwn, Fe.v_obool, Fe.v_boolOwn, Fe.v_otru, Fe.v_oix, Fe.v_lrg, Fe.v_trg, Fe.v_ostr, Fe.v_strOwn, Fe.v_asSt, Fe.v_fst, Fe.v_noExc, Fe.v_asBl, Fe.v_asB, Fe.v_asTru, Fe.v_asNon, Fe.o_no, Fe.o_int, Fe.o_var, Fe.o_bin, Fe.o_neg, Fe.o_ite, Fe.asI_int, Fe.t_no, Fe.t_cmp, Fe.t_chn, Fe.t_and, Fe.t_or, Fe.t_not, Fe.t_call, Fe.t_var, Fe.t_isi, Fe.t_bi, Fe.t_oinT, Fe.t_oinF, Fe.t_otru, Fe.t_obool, Fe.t_mt, Fe.t_pr, Fe.t_fld, Fe.t_tru, Fe.sems_nil, Fe.sems_cons, Fe.args_nil, Fe.args_cons, Fe.andV_1, Fe.andV_2, Fe.orV_1, Fe.orV_2, Fe.andT_1, Fe.andT_2, Fe.orT_1, Fe.orT_2, Fe.v_lam, Fe.i_rng, Fe.i_tup, Fe.i_var, Fe.i_fld, Fe.i_mt, Fe.i_oix, Fe.i_enu, Fe.i_call, Fe.x_retN, Fe.x_pass, Fe.x_whl, Fe.x_setf, Fe.x_nil, Fe.x_cons, Fe.x_set, Fe.x_ret, Fe.x_expr, Fe.x_ite, Fe.x_sub, Fe.x_par, Fe.x_asg, Fe.x_for, Fe.x_met, Fe.x_rais, lk_0, lk_s, int_int, add_int, Cm.f, Ar.f, Bi.f, Me.f, Me.T, liftT, List.set_cons_succ, List.set_cons_zero, Q.fld]
    show (match getL s L with | some ds => _ | none => _) = _
    rw [Q.getL_]
  have lc := lcV_map (t := (sem (callF T (k + 3)) (.cmp .in_ (.var 1) (.var 3))).t) (e := (sem (callF T (k + 3)) (.var 2)).v) (bind := bnd (.tp [.nm 2, .nm 3])) (own := [2, 3]) (p := fun d => isT_ (valO (opIn (.int t) (snd_ d) s))) (f := fst_) src
    (fun i l e => by cases e; exact Q.getL_) (by show (enumD 0 (ls.map D.ref)).length ≤ line; rw [enumD_len, List.length_map]; have := Q.few; unfold line; omega) (fun d hd acc => by
      obtain ⟨j, hj⟩ := List.getElem?_of_mem hd
      obtain ⟨x, hx, rfl⟩ := enum_i hj
      rw [List.getElem?_map] at hx
      obtain ⟨l, hl, rfl⟩ := Option.map_eq_some_iff.mp hx
      obtain ⟨z, hz, hs⟩ := Q.get_l hl
      refine ⟨[some (.ref a), some (.int t), some (.int j), some (.ref l)], rfl, ?_, fun _ => ?_⟩
      · simp only [Fe.bind_ok, Fe.bind_exc, Fe.lift_ok, Fe.lift_exc, Fe.seq_nx, Fe.seq_rt, Fe.seq_exc, Fe.v_non, Fe.v_bl, Fe.v_int, Fe.v_str, Fe.v_var, Fe.v_con, Fe.v_bin, Fe.v_neg, Fe.v_cmp, Fe.v_chn, Fe.v_and, Fe.v_or, Fe.v_not, Fe.v_ite, Fe.v_tup, Fe.v_lst, Fe.v_ix, Fe.v_sl, Fe.v_call, Fe.v_bi, Fe.v_isi, Fe.v_me, Fe.v_lc, Fe.v_dct, Fe.v_rev, Fe.v_fld, Fe.v_mt, Fe.v_pr, Fe.v_mk, Fe.v_oinT, Fe.v_oinF, Fe.v_inV, Fe.v_olen, Fe.v_lenOwn, Fe.v_obool, Fe.v_boolOwn, Fe.v_otru, Fe.v_oix, Fe.v_lrg, Fe.v_trg, Fe.v_ostr, Fe.v_strOwn, Fe.v_asSt, Fe.v_fst, Fe.v_noExc, Fe.v_asBl, Fe.v_asB, Fe.v_asTru, Fe.v_asNon, Fe.o_no, Fe.o_int, Fe.o_var, Fe.o_bin, Fe.o_neg, Fe.o_ite, Fe.asI_int, Fe.t_no, Fe.t_cmp, Fe.t_chn, Fe.t_and, Fe.t_or, Fe.t_not, Fe.t_call, Fe.t_var, Fe.t_isi, Fe.t_bi, Fe.t_oinT, Fe.t_oinF, Fe.t_otru, Fe.t_obool, Fe.t_mt, Fe.t_pr, Fe.t_fld, Fe.t_tru, Fe.sems_nil, Fe.sems_cons, Fe.args_nil, Fe.args_cons, Fe.andV_1, Fe.andV_2, Fe.orV_1, Fe.orV_2, Fe.andT_1, Fe.andT_2, Fe.orT_1, Fe.orT_2, Fe.v_lam, Fe.i_rng, Fe.i_tup, Fe.i_var, Fe.i_fld, Fe.i_mt, Fe.i_oix, Fe.i_enu, Fe.i_call, Fe.x_retN, Fe.x_pass, Fe.x_whl, Fe.x_setf, Fe.x_nil, Fe.x_cons, Fe.x_set, Fe.x_ret, Fe.x_expr, Fe.x_ite, Fe.x_sub, Fe.x_par, Fe.x_asg, Fe.x_for, Fe.x_met, Fe.x_rais, lk_0, lk_s, int_int, add_int, Cm.f, Ar.f, Bi.f, Me.f, Me.T, liftT, List.set_cons_succ, List.set_cons_zero]
        rw [in_lstI (getL_app (getL_lst hs))]
        show _ = Out.ok (isT_ (valO (opIn (.int t) (.ref l) s))) _
        rw [in_lstI (getL_lst hs)]
        rfl
      · simp only [Fe.bind_ok, Fe.bind_exc, Fe.lift_ok, Fe.lift_exc, Fe.seq_nx, Fe.seq_rt, Fe.seq_exc, Fe.v_non, Fe.v_bl, Fe.v_int, Fe.v_str, Fe.v_var, Fe.v_con, Fe.v_bin, Fe.v_neg, Fe.v_cmp, Fe.v_chn, Fe.v_and, Fe.v_or, Fe.v_not, Fe.v_ite, Fe.v_tup, Fe.v_lst, Fe.v_ix, Fe.v_sl, Fe.v_call, Fe.v_bi, Fe.v_isi, Fe.v_me, Fe.v_lc, Fe.v_dct, Fe.v_rev, Fe.v_fld, Fe.v_mt, Fe.v_pr, Fe.v_mk, Fe.v_oinT, Fe.v_oinF, Fe.v_inV, Fe.v_olen, Fe.v_lenOwn, Fe.v_obool, Fe.v_boolOwn, Fe.v_otru, Fe.v_oix, Fe.v_lrg, Fe.v_trg, Fe.v_ostr, Fe.v_strOwn, Fe.v_asSt, Fe.v_fst, Fe.v_noExc, Fe.v_asBl, Fe.v_asB, Fe.v_asTru, Fe.v_asNon, Fe.o_no, Fe.o_int, Fe.o_var, Fe.o_bin, Fe.o_neg, Fe.o_ite, Fe.asI_int, Fe.t_no, Fe.t_cmp, Fe.t_chn, Fe.t_and, Fe.t_or, Fe.t_not, Fe.t_call, Fe.t_var, Fe.t_isi, Fe.t_bi, Fe.t_oinT, Fe.t_oinF, Fe.t_otru, Fe.t_obool, Fe.t_mt, Fe.t_pr, Fe.t_fld, Fe.t_tru, Fe.sems_nil, Fe.sems_cons, Fe.args_nil, Fe.args_cons, Fe.andV_1, Fe.andV_2, Fe.orV_1, Fe.orV_2, Fe.andT_1, Fe.andT_2, Fe.orT_1, Fe.orT_2, Fe.v_lam, Fe.i_rng, Fe.i_tup, Fe.i_var, Fe.i_fld, Fe.i_mt, Fe.i_oix, Fe.i_enu, Fe.i_call, Fe.x_retN, Fe.x_pass, Fe.x_whl, Fe.x_setf, Fe.x_nil, Fe.x_cons, Fe.x_set, Fe.x_ret, Fe.x_expr, Fe.x_ite, Fe.x_sub, Fe.x_par, Fe.x_asg, Fe.x_for, Fe.x_met, Fe.x_rais, lk_0, lk_s, int_int, add_int, Cm.f, Ar.f, Bi.f, Me.f, Me.T, liftT, List.set_cons_succ, List.set_cons_zero]; rfl)
  obtain ⟨⟨z, hz, hm⟩, lo⟩ := lv
  obtain ⟨l, hl, hs, hr⟩ := Q.get_ hz
  have hd : (((enumD 0 (ls.map D.ref)).filter fun d => isT_ (valO (opIn (.int t) (snd_ d) s))).map fst_).head? = some (.int i) := by
    rw [List.head?_map, List.head?_filter]
    have : (enumD 0 (ls.map D.ref)).find? (fun d => isT_ (valO (opIn (.int t) (snd_ d) s))) = some (.tup [.int i, .ref l]) := by
      rw [List.find?_eq_some_iff_getElem]
      have g := enumD_get (ls.map D.ref) 0 i _ hr
      rw [Nat.zero_add] at g
      obtain ⟨g1, g2⟩ := List.getElem?_eq_some_iff.mp g
      refine ⟨?_, i, g1, g2, fun j hj => ?_⟩
      · show isT_ (valO (opIn (.int t) (.ref l) s)) = true
        rw [in_lstI (getL_lst hs)]
        show z.contains t = true
        simpa using hm
      · obtain ⟨x, hx, e⟩ := enum_i (List.getElem?_eq_getElem (Nat.lt_trans hj g1))
        rw [e]
        rw [List.getElem?_map] at hx
        obtain ⟨m, hm, rfl⟩ := Option.map_eq_some_iff.mp hx
        obtain ⟨y, hy, hs'⟩ := Q.get_l hm
        show (!isT_ (valO (opIn (.int t) (.ref m) s))) = true
        rw [in_lstI (getL_lst hs')]
        show (!y.contains t) = true
        have := lo j y hj hy
        simpa using this
    rw [this]; rfl
  have e : ∃ g, execs (callF T (k + 3)) (levB q) [some (.ref a), some (.int t), none, none] s = .rt (.int i) (s ++ g) := by
    refine ⟨[.lst (((enumD 0 (ls.map D.ref)).filter fun d => isT_ (valO (opIn (.int t) (snd_ d) s))).map fst_)], ?_⟩
    unfold levB
    simp only [Fe.bind_ok, Fe.bind_exc, Fe.lift_ok, Fe.lift_exc, Fe.seq_nx, Fe.seq_rt, Fe.seq_exc, Fe.v_non, Fe.v_bl, Fe.v_int, Fe.v_str, Fe.v_var, Fe.v_con, Fe.v_bin, Fe.v_neg, Fe.v_cmp, Fe.v_chn, Fe.v_and, Fe.v_or, Fe.v_not, Fe.v_ite, Fe.v_tup, Fe.v_lst, Fe.v_ix, Fe.v_sl, Fe.v_call, Fe.v_bi, Fe.v_isi, Fe.v_me, Fe.v_lc, Fe.v_dct, Fe.v_rev, Fe.v_fld, Fe.v_mt, Fe.v_pr, Fe.v_mk, Fe.v_oinT, Fe.v_oinF, Fe.v_inV, Fe.v_olen, Fe.v_lenOwn, Fe.v_obool, Fe.v_boolOwn, Fe.v_otru, Fe.v_oix, Fe.v_lrg, Fe.v_trg, Fe.v_ostr, Fe.v_strOwn, Fe.v_asSt, Fe.v_fst, Fe.v_noExc, Fe.v_asBl, Fe.v_asB, Fe.v_asTru, Fe.v_asNon, Fe.o_no, Fe.o_int, Fe.o_var, Fe.o_bin, Fe.o_neg, Fe.o_ite, Fe.asI_int, Fe.t_no, Fe.t_cmp, Fe.t_chn, Fe.t_and, Fe.t_or, Fe.t_not, Fe.t_call, Fe.t_var, Fe.t_isi, Fe.t_bi, Fe.t_oinT, Fe.t_oinF, Fe.t_otru, Fe.t_obool, Fe.t_mt, Fe.t_pr, Fe.t_fld, Fe.t_tru, Fe.sems_nil, Fe.sems_cons, Fe.args_nil, Fe.args_cons, Fe.andV_1, Fe.andV_2, Fe.orV_1, Fe.orV_2, Fe.andT_1, Fe.andT_2, Fe.orT_1, Fe.orT_2, Fe.v_lam, Fe.i_rng, Fe.i_tup, Fe.i_var, Fe.i_fld, Fe.i_mt, Fe.i_oix, Fe.i_enu, Fe.i_call, Fe.x_retN, Fe.x_pass, Fe.x_whl, Fe.x_setf, Fe.x_nil, Fe.x_cons, Fe.x_set, Fe.x_ret, Fe.x_expr, Fe.x_ite, Fe.x_sub, Fe.x_par, Fe.x_asg, Fe.x_for, Fe.x_met, Fe.x_rais, lk_0, lk_s, int_int, add_int, Cm.f, Ar.f, Bi.f, Me.f, Me.T, liftT, List.set_cons_succ, List.set_cons_zero, Q.cl, if_true, con_spec (q := q) Q h1 h2, any_con.mpr ⟨i, z, hz, hm⟩, Bool.not_true, Bool.false_eq_true, if_false, lc]
    rw [ix_lst0 getL_end hd]
    rfl
  obtain ⟨g, e⟩ := e
  rw [e]; exact trim_app rfl
/-! the best level -/
theorem bes_spec [hB : Has T q.bes besF] (Q : QAt s a L ls qs) :
    (∃ i, Bst qs i ∧ callF T (k + 1) q.bes [.ref a] s = .ok (.int i) s) ∨ ((∀ z ∈ qs, z = []) ∧ callF T (k + 1) q.bes [.ref a] s = .ok .non s) := by
  rw [call_at hB.at_ rfl]
  show (∃ i, Bst qs i ∧ trimO s (retO (execs (callF T k) besB [some (.ref a), none, none] s)) = _) ∨ (_ ∧ trimO s (retO (execs (callF T k) besB [some (.ref a), none, none] s)) = _)
  have src : (sem (callF T k) (.enu OL)).i [some (.ref a), none, none] s = .ok ⟨enumD 0 (ls.map .ref), some (L, ls.map .ref)⟩ s := by
    simp only [Fe.bind_ok, Fe.bind_exc, Fe.lift_ok, Fe.lift_exc, Fe.seq_nx, Fe.seq_rt, Fe.seq_exc, Fe.v_non, Fe.v_bl, Fe.v_int, Fe.v_str, Fe.v_var, Fe.v_con, Fe.v_bin, Fe.v_neg, Fe.v_cmp, Fe.v_chn, Fe.v_and, Fe.v_or, Fe.v_not, Fe.v_ite, Fe.v_tup, Fe.v_lst, Fe.v_ix, Fe.v_sl, Fe.v_call, Fe.v_bi, Fe.v_isi, Fe.v_me, Fe.v_lc, Fe.v_dct, Fe.v_rev, Fe.v_fld, Fe.v_mt, Fe.v_pr, Fe.v_mk, Fe.v_oinT, Fe.v_oinF, Fe.v_inV, Fe.v_olen, Fe.v_lenOwn, Fe.v_obool, Fe.v_boolOwn, Fe.v_otru, Fe.v_oix, Fe.v_lrg, Fe.v_trg, Fe.v_ostr, Fe.v_strOwn, Fe.v_asSt, Fe.v_fst, Fe.v_noExc, Fe.v_asBl, Fe.v_asB, Fe.v_asTru, Fe.v_asNon, Fe.o_no, Fe.o_int, Fe.o_var, Fe.o_bin, Fe.o_neg, Fe.o_ite, Fe.asI_int, Fe.t_no, Fe.t_cmp, Fe.t_chn, Fe.t_and, Fe.t_or, Fe.t_not, Fe.t_call, Fe.t_var, Fe.t_isi, Fe.t_bi, Fe.t_oinT, Fe.t_oinF, Fe.t_otru, Fe.t_obool, Fe.t_mt, Fe.t_pr, Fe.t_fld, Fe.t_tru, Fe.sems_nil, Fe.sems_cons, Fe.args_nil, Fe.args_cons, Fe.andV_1, Fe.andV_2, Fe.orV_1, Fe.orV_2, Fe.andT_1, Fe.andT_2, Fe.orT_1, Fe.orT_2, Fe.v_lam, Fe.i_rng, Fe.i_tup, Fe.i_var, Fe.i_fld, Fe.i_mt, Fe.i_oix, Fe.i_enu, Fe.i_call, Fe.x_retN, Fe.x_pass, Fe.x_whl, Fe.x_setf, Fe.x_nil, Fe.x_cons, Fe.x_set, Fe.x_ret, Fe.x_expr, Fe.x_ite, Fe.x_sub, Fe.x_par, Fe.x_asg, Fe.x_for, Fe.x_met, Fe.x_rais, lk_0, lk_s, int_int, add_int, Cm.f, Ar.f, Bi.f, Me.f, Me.T, liftT, List.set_cons_succ, List.set_cons_zero, Q.fld]
    show (match getL s L with | some ds => _ | none => _) = _
    rw [Q.getL_]
  have isE : ∀ (j l : Nat) (z : List Int), ls[j]? = some l → qs[j]? = some z → (match getL s l with | some ds => !ds.isEmpty | none => false) = !z.isEmpty := fun j l z e1 e2 => by
    rw [getL_lst (Q.at_ j l z e1 e2)]
    cases z <;> rfl
  have fw := forW_find (live := Src.live ⟨enumD 0 (ls.map D.ref), some (L, ls.map D.ref)⟩) (bind := bnd (.tp [.nm 1, .nm 2])) (body := execs (callF T k) [(.ite (.cmp .ne (.var 2) (.lst [])) [(.ret (.var 1))] [])])
    (P := fun ρ s1 => ∃ x y g, ρ = [some (.ref a), x, y] ∧ s1 = s ++ g) (p := fun d => match snd_ d with | .ref l => (match getL s l with | some ds => !ds.isEmpty | none => false) | _ => false) (r := fst_) (enumD 0 (ls.map D.ref)) [some (.ref a), none, none] s
    ⟨none, none, [], rfl, (List.append_nil s).symm⟩ (fun ρ s1 ⟨x, y, g, _, e⟩ => by rw [e]; exact live_of fun i l e => by cases e; exact Q.getL_) (fun d hd ρ s1 ⟨x, y, g, e1, e2⟩ => by
      subst e1 e2
      obtain ⟨j, hj⟩ := List.getElem?_of_mem hd
      obtain ⟨x, hx, rfl⟩ := enum_i hj
      rw [List.getElem?_map] at hx
      obtain ⟨l, hl, rfl⟩ := Option.map_eq_some_iff.mp hx
      obtain ⟨z, hz, hs⟩ := Q.get_l hl
      have ex : exec (callF T k) (.ite (.cmp .ne (.var 2) (.lst [])) [(.ret (.var 1))] []) [some (.ref a), some (.int j), some (.ref l)] (s ++ g) = if (!z.isEmpty) = true then .rt (.int j) (s ++ (g ++ [.lst []])) else .nx [some (.ref a), some (.int j), some (.ref l)] (s ++ (g ++ [.lst []])) := by
        have nn : opNe (.ref l) (.ref (s ++ g).length) (s ++ g ++ [.lst []]) = .ok (.bl (!decide (z = []))) (s ++ g ++ [.lst []]) := ne_lstI (getL_app (getL_app (getL_lst hs))) (getL_end (ds := []))
        simp only [Fe.bind_ok, Fe.bind_exc, Fe.lift_ok, Fe.lift_exc, Fe.seq_nx, Fe.seq_rt, Fe.seq_exc, Fe.v_non, Fe.v_bl, Fe.v_int, Fe.v_str, Fe.v_var, Fe.v_con, Fe.v_bin, Fe.v_neg, Fe.v_cmp, Fe.v_chn, Fe.v_and, Fe.v_or, Fe.v_not, Fe.v_ite, Fe.v_tup, Fe.v_lst, Fe.v_ix, Fe.v_sl, Fe.v_call, Fe.v_bi, Fe.v_isi, Fe.v_me, Fe.v_lc, Fe.v_dct, Fe.v_rev, Fe.v_fld, Fe.v_mt, Fe.v_pr, Fe.v_mk, Fe.v_oinT, Fe.v_oinF, Fe.v_inV, Fe.v_olen, Fe.v_lenOwn, Fe.v_obool, Fe.v_boolOwn, Fe.v_otru, Fe.v_oix, Fe.v_lrg, Fe.v_trg, Fe.v_ostr, Fe.v_strOwn, Fe.v_asSt, Fe.v_fst, Fe.v_noExc, Fe.v_asBl, Fe.v_asB, Fe.v_asTru, Fe.v_asNon, Fe.o_no, Fe.o_int, Fe.o_var, Fe.o_bin, Fe.o_neg, Fe.o_ite, Fe.asI_int, Fe.t_no, Fe.t_cmp, Fe.t_chn, Fe.t_and, Fe.t_or, Fe.t_not, Fe.t_call, Fe.t_var, Fe.t_isi, Fe.t_bi, Fe.t_oinT, Fe.t_oinF, Fe.t_otru, Fe.t_obool, Fe.t_mt, Fe.t_pr, Fe.t_fld, Fe.t_tru, Fe.sems_nil, Fe.sems_cons, Fe.args_nil, Fe.args_cons, Fe.andV_1, Fe.andV_2, Fe.orV_1, Fe.orV_2, Fe.andT_1, Fe.andT_2, Fe.orT_1, Fe.orT_2, Fe.v_lam, Fe.i_rng, Fe.i_tup, Fe.i_var, Fe.i_fld, Fe.i_mt, Fe.i_oix, Fe.i_enu, Fe.i_call, Fe.x_retN, Fe.x_pass, Fe.x_whl, Fe.x_setf, Fe.x_nil, Fe.x_cons, Fe.x_set, Fe.x_ret, Fe.x_expr, Fe.x_ite, Fe.x_sub, Fe.x_par, Fe.x_asg, Fe.x_for, Fe.x_met, Fe.x_rais, lk_0, lk_s, int_int, add_int, Cm.f, Ar.f, Bi.f, Me.f, Me.T, liftT, List.set_cons_succ, List.set_cons_zero, mkL_nil, nn]
        rw [← List.append_assoc]
        cases z <;> simp [Fe.bind_ok, Fe.bind_exc, Fe.lift_ok, Fe.lift_exc, Fe.seq_nx, Fe.seq_rt, Fe.seq_exc, Fe.v_non, Fe.v_bl, Fe.v_int, Fe.v_str, Fe.v_var, Fe.v_con, Fe.v_bin, Fe.v_neg, Fe.v_cmp, Fe.v_chn, Fe.v_and, Fe.v_or, Fe.v_not, Fe.v_ite, Fe.v_tup, Fe.v_lst, Fe.v_ix, Fe.v_sl, Fe.v_call, Fe.v_bi, Fe.v_isi, Fe.v_me, Fe.v_lc, Fe.v_dct, Fe.v_rev, Fe.v_fld, Fe.v_mt, Fe.v_pr, Fe.v_mk, Fe.v_oinT, Fe.v_oinF, Fe.v_inV, Fe.v_olen, Fe.v_lenOwn, Fe.v_obool, Fe.v_boolOwn, Fe.v_otru, Fe.v_oix, Fe.v_lrg, Fe.v_trg, Fe.v_ostr, Fe.v_strOwn, Fe.v_asSt, Fe.v_fst, Fe.v_noExc, Fe.v_asBl, Fe.v_asB, Fe.v_asTru, Fe.v_asNon, Fe.o_no, Fe.o_int, Fe.o_var, Fe.o_bin, Fe.o_neg, Fe.o_ite, Fe.asI_int, Fe.t_no, Fe.t_cmp, Fe.t_chn, Fe.t_and, Fe.t_or, Fe.t_not, Fe.t_call, Fe.t_var, Fe.t_isi, Fe.t_bi, Fe.t_oinT, Fe.t_oinF, Fe.t_otru, Fe.t_obool, Fe.t_mt, Fe.t_pr, Fe.t_fld, Fe.t_tru, Fe.sems_nil, Fe.sems_cons, Fe.args_nil, Fe.args_cons, Fe.andV_1, Fe.andV_2, Fe.orV_1, Fe.orV_2, Fe.andT_1, Fe.andT_2, Fe.orT_1, Fe.orT_2, Fe.v_lam, Fe.i_rng, Fe.i_tup, Fe.i_var, Fe.i_fld, Fe.i_mt, Fe.i_oix, Fe.i_enu, Fe.i_call, Fe.x_retN, Fe.x_pass, Fe.x_whl, Fe.x_setf, Fe.x_nil, Fe.x_cons, Fe.x_set, Fe.x_ret, Fe.x_expr, Fe.x_ite, Fe.x_sub, Fe.x_par, Fe.x_asg, Fe.x_for, Fe.x_met, Fe.x_rais, lk_0, lk_s, int_int, add_int, Cm.f, Ar.f, Bi.f, Me.f, Me.T, liftT, List.set_cons_succ, List.set_cons_zero]
      refine ⟨[some (.ref a), some (.int j), some (.ref l)], rfl, fun hp => ?_, fun hp => ?_⟩
      · have hp' : (match getL s l with | some ds => !ds.isEmpty | none => false) = false := hp
        rw [isE j l z hl hz] at hp'
        refine ⟨_, _, ?_, some (.int j), some (.ref l), g ++ [.lst []], rfl, rfl⟩
        rw [x_cons, ex, hp', if_neg (by decide)]
        rfl
      · have hp' : (match getL s l with | some ds => !ds.isEmpty | none => false) = true := hp
        rw [isE j l z hl hz] at hp'
        refine ⟨_, _, ?_, some (.int j), some (.ref l), g ++ [.lst []], rfl, rfl⟩
        rw [x_cons, ex, hp', if_pos rfl]
        rfl)
  rcases fw with ⟨i, d, ρ2, s2, g1, g2, g3, g4, x, y, g, g5, g6⟩ | ⟨g1, ρ2, s2, g2, x, y, g, g3, g4⟩
  · left
    obtain ⟨w, hw, rfl⟩ := enum_i g1
    rw [List.getElem?_map] at hw
    obtain ⟨l, hl, rfl⟩ := Option.map_eq_some_iff.mp hw
    obtain ⟨z, hz, hs⟩ := Q.get_l hl
    refine ⟨i, ⟨⟨z, hz, fun e => ?_⟩, fun j y hj hy => ?_⟩, ?_⟩
    · have g2' : (match getL s l with | some ds => !ds.isEmpty | none => false) = true := g2
      rw [isE i l z hl hz, e] at g2'
      cases g2'
    · obtain ⟨m, hm, _, hr⟩ := Q.get_ hy
      have e := enumD_get (ls.map D.ref) 0 j _ hr
      have g3' : (match getL s m with | some ds => !ds.isEmpty | none => false) = false := g3 j _ hj e
      rw [isE j m y hm hy] at g3'
      cases y with
      | nil => rfl
      | cons _ _ => cases g3'
    · unfold besB
      rw [x_cons, x_for, src, lift_ok]
      dsimp only
      rw [g4, seq_rt, g6]
      exact trim_app rfl
  · right
    refine ⟨fun z hz => ?_, ?_⟩
    · obtain ⟨j, hj⟩ := List.getElem?_of_mem hz
      obtain ⟨m, hm, _, hr⟩ := Q.get_ hj
      have e := enumD_get (ls.map D.ref) 0 j _ hr
      have g3' : (match getL s m with | some ds => !ds.isEmpty | none => false) = false := g1 _ (List.mem_of_getElem? e)
      rw [isE j m z hm hj] at g3'
      cases z with
      | nil => rfl
      | cons _ _ => cases g3'
    · unfold besB
      rw [x_cons, x_for, src, lift_ok]
      dsimp only
      rw [g2, seq_nx, g4]
      simp only [Fe.bind_ok, Fe.bind_exc, Fe.lift_ok, Fe.lift_exc, Fe.seq_nx, Fe.seq_rt, Fe.seq_exc, Fe.v_non, Fe.v_bl, Fe.v_int, Fe.v_str, Fe.v_var, Fe.v_con, Fe.v_bin, Fe.v_neg, Fe.v_cmp, Fe.v_chn, Fe.v_and, Fe.v_or, Fe.v_not, Fe.v_ite, Fe.v_tup, Fe.v_lst, Fe.v_ix, Fe.v_sl, Fe.v_call, Fe.v_bi, Fe.v_isi, Fe.v_me, Fe.v_lc, Fe.v_dct, Fe.v_rev, Fe.v_fld, Fe.v_mt, Fe.v_pr, Fe.v_mk, Fe.v_oinT, Fe.v_oinF, Fe.v_inV, Fe.v_olen, Fe.v_lenOwn, Fe.v_obool, Fe.v_boolOwn, Fe.v_otru, Fe.v_oix, Fe.v_lrg, Fe.v_trg, Fe.v_ostr, Fe.v_strOwn, Fe.v_asSt, Fe.v_fst, Fe.v_noExc, Fe.v_asBl, Fe.v_asB, Fe.v_asTru, Fe.v_asNon, Fe.o_no, Fe.o_int, Fe.o_var, Fe.o_bin, Fe.o_neg, Fe.o_ite, Fe.asI_int, Fe.t_no, Fe.t_cmp, Fe.t_chn, Fe.t_and, Fe.t_or, Fe.t_not, Fe.t_call, Fe.t_var, Fe.t_isi, Fe.t_bi, Fe.t_oinT, Fe.t_oinF, Fe.t_otru, Fe.t_obool, Fe.t_mt, Fe.t_pr, Fe.t_fld, Fe.t_tru, Fe.sems_nil, Fe.sems_cons, Fe.args_nil, Fe.args_cons, Fe.andV_1, Fe.andV_2, Fe.orV_1, Fe.orV_2, Fe.andT_1, Fe.andT_2, Fe.orT_1, Fe.orT_2, Fe.v_lam, Fe.i_rng, Fe.i_tup, Fe.i_var, Fe.i_fld, Fe.i_mt, Fe.i_oix, Fe.i_enu, Fe.i_call, Fe.x_retN, Fe.x_pass, Fe.x_whl, Fe.x_setf, Fe.x_nil, Fe.x_cons, Fe.x_set, Fe.x_ret, Fe.x_expr, Fe.x_ite, Fe.x_sub, Fe.x_par, Fe.x_asg, Fe.x_for, Fe.x_met, Fe.x_rais, lk_0, lk_s, int_int, add_int, Cm.f, Ar.f, Bi.f, Me.f, Me.T, liftT, List.set_cons_succ, List.set_cons_zero]
      exact trim_app rfl
/-! all tasks -/
theorem iD_app {x y : List Int} : iD (x ++ y) = iD x ++ iD y := List.map_append
theorem big_lt {n : Nat} (h : n ≤ 1000) : (n : Int) < Big := by unfold Big; omega
theorem tas_spec [hT : Has T q.tas tasF] (Q : QAt s a L ls qs) (hl : qs.flatten.length ≤ 1000) : callF T (k + 1) q.tas [.ref a] s = .ok (.tup (iD qs.flatten)) s := by
  rw [call_at hT.at_ rfl]
  show trimO s (retO (execs (callF T k) tasB [some (.ref a), none, none] s)) = _
  have fw : ∀ (n : Nat) (acc : List Int) (x : Option D), acc.length + ((qs.drop n).flatten).length ≤ 1000 → ∃ x', forW (Src.live ⟨ls.map .ref, some (L, ls.map .ref)⟩) (bnd (.nm 2)) (execs (callF T k) [(.expr (.me .extend (.var 1) [(.var 2)]))]) ((ls.map D.ref).drop n) [some (.ref a), some (.ref s.length), x] (s ++ [.lst (iD acc)]) =
      .nx [some (.ref a), some (.ref s.length), x'] (s ++ [.lst (iD (acc ++ (qs.drop n).flatten))]) := by
    have key : ∀ (m n : Nat) (acc : List Int) (x : Option D), ls.length - n = m → acc.length + ((qs.drop n).flatten).length ≤ 1000 → ∃ x', forW (Src.live ⟨ls.map .ref, some (L, ls.map .ref)⟩) (bnd (.nm 2)) (execs (callF T k) [(.expr (.me .extend (.var 1) [(.var 2)]))]) ((ls.map D.ref).drop n) [some (.ref a), some (.ref s.length), x] (s ++ [.lst (iD acc)]) =
      .nx [some (.ref a), some (.ref s.length), x'] (s ++ [.lst (iD (acc ++ (qs.drop n).flatten))]) := by
      intro m
      induction m with
      | zero =>
        intro n acc x hn _
        have h1 : (ls.map D.ref).drop n = [] := List.drop_eq_nil_of_le (by rw [List.length_map]; omega)
        have h2 : qs.drop n = [] := List.drop_eq_nil_of_le (by rw [← Q.len]; omega)
        refine ⟨x, ?_⟩
        rw [h1, h2]
        unfold forW
        rw [if_pos (live_of fun i l e => by cases e; exact Q.getL_)]
        simp
      | succ m ih =>
        intro n acc x hn hb
        have hlt : n < ls.length := by omega
        have hq : n < qs.length := by rw [← Q.len]; exact hlt
        have h1 : (ls.map D.ref).drop n = .ref ls[n] :: (ls.map D.ref).drop (n + 1) := by
          rw [List.drop_eq_getElem_cons (by rw [List.length_map]; exact hlt), List.getElem_map]
        have h2 : qs.drop n = qs[n] :: qs.drop (n + 1) := List.drop_eq_getElem_cons hq
        have hs := Q.at_ n _ _ (List.getElem?_eq_getElem hlt) (List.getElem?_eq_getElem hq)
        rw [h2, List.flatten_cons, List.length_append] at hb
        obtain ⟨x', e⟩ := ih (n + 1) (acc ++ qs[n]) (some (.ref ls[n])) (by omega) (by rw [List.length_append]; omega)
        refine ⟨x', ?_⟩
        rw [h1, h2, List.flatten_cons, ← List.append_assoc, ← e]
        have step : execs (callF T k) [(.expr (.me .extend (.var 1) [(.var 2)]))] [some (.ref a), some (.ref s.length), some (.ref ls[n])] (s ++ [.lst (iD acc)]) = .nx [some (.ref a), some (.ref s.length), some (.ref ls[n])] (s ++ [.lst (iD (acc ++ qs[n]))]) := by
          have ex : meExtend (.ref s.length) [.ref ls[n]] (s ++ [.lst (iD acc)]) = .ok .non (s ++ [.lst (iD (acc ++ qs[n]))]) := by
            rw [extend_ok' at_end (at_app hs) (by simp only [List.length_map]; unfold line; omega), set_end, ← iD_app]
          have ty : tyIs "list" (s ++ [.lst (iD acc)]) (.ref s.length) = true := tyIs_lst at_end
          simp only [Fe.bind_ok, Fe.bind_exc, Fe.lift_ok, Fe.lift_exc, Fe.seq_nx, Fe.seq_rt, Fe.seq_exc, Fe.v_non, Fe.v_bl, Fe.v_int, Fe.v_str, Fe.v_var, Fe.v_con, Fe.v_bin, Fe.v_neg, Fe.v_cmp, Fe.v_chn, Fe.v_and, Fe.v_or, Fe.v_not, Fe.v_ite, Fe.v_tup, Fe.v_lst, Fe.v_ix, Fe.v_sl, Fe.v_call, Fe.v_bi, Fe.v_isi, Fe.v_me, Fe.v_lc, Fe.v_dct, Fe.v_rev, Fe.v_fld, Fe.v_mt, Fe.v_pr, Fe.v_mk, Fe.v_oinT, Fe.v_oinF, Fe.v_inV, Fe.v_olen, Fe.v_lenOwn, Fe.v_obool, Fe.v_boolOwn, Fe.v_otru, Fe.v_oix, Fe.v_lrg, Fe.v_trg, Fe.v_ostr, Fe.v_strOwn, Fe.v_asSt, Fe.v_fst, Fe.v_noExc, Fe.v_asBl, Fe.v_asB, Fe.v_asTru, Fe.v_asNon, Fe.o_no, Fe.o_int, Fe.o_var, Fe.o_bin, Fe.o_neg, Fe.o_ite, Fe.asI_int, Fe.t_no, Fe.t_cmp, Fe.t_chn, Fe.t_and, Fe.t_or, Fe.t_not, Fe.t_call, Fe.t_var, Fe.t_isi, Fe.t_bi, Fe.t_oinT, Fe.t_oinF, Fe.t_otru, Fe.t_obool, Fe.t_mt, Fe.t_pr, Fe.t_fld, Fe.t_tru, Fe.sems_nil, Fe.sems_cons, Fe.args_nil, Fe.args_cons, Fe.andV_1, Fe.andV_2, Fe.orV_1, Fe.orV_2, Fe.andT_1, Fe.andT_2, Fe.orT_1, Fe.orT_2, Fe.v_lam, Fe.i_rng, Fe.i_tup, Fe.i_var, Fe.i_fld, Fe.i_mt, Fe.i_oix, Fe.i_enu, Fe.i_call, Fe.x_retN, Fe.x_pass, Fe.x_whl, Fe.x_setf, Fe.x_nil, Fe.x_cons, Fe.x_set, Fe.x_ret, Fe.x_expr, Fe.x_ite, Fe.x_sub, Fe.x_par, Fe.x_asg, Fe.x_for, Fe.x_met, Fe.x_rais, lk_0, lk_s, int_int, add_int, Cm.f, Ar.f, Bi.f, Me.f, Me.T, liftT, List.set_cons_succ, List.set_cons_zero, ty, if_true, ex]
        conv => lhs; unfold forW
        rw [if_pos (live_of fun i l e => by cases e; exact Q.getL_)]
        show (match execs (callF T k) _ [some (.ref a), some (.ref s.length), some (.ref ls[n])] (s ++ [.lst (iD acc)]) with | .nx ρ2 s2 => _ | .ct ρ2 s2 => _ | .bk ρ2 s2 => _ | .rt d s2 => _ | .exc x ρ2 s2 => _ | .bad => _) = _
        rw [step]
    intro n acc x h
    exact key _ n acc x rfl h
  obtain ⟨x', e⟩ := fw 0 [] none (by simpa using hl)
  rw [List.drop_zero, List.drop_zero, List.nil_append, show iD [] = ([] : List D) from rfl] at e
  have go : execs (callF T k) tasB [some (.ref a), none, none] s = .rt (.tup (iD qs.flatten)) (s ++ [.lst (iD qs.flatten)]) := by
    unfold tasB
    have src : ∀ (x y : Option D), (sem (callF T k) OL).i [some (.ref a), x, y] (s ++ [.lst []]) = .ok ⟨ls.map .ref, some (L, ls.map .ref)⟩ (s ++ [.lst []]) := fun x y => by
      simp only [Fe.bind_ok, Fe.bind_exc, Fe.lift_ok, Fe.lift_exc, Fe.seq_nx, Fe.seq_rt, Fe.seq_exc, Fe.v_non, Fe.v_bl, Fe.v_int, Fe.v_str, Fe.v_var, Fe.v_con, Fe.v_bin, Fe.v_neg, Fe.v_cmp, Fe.v_chn, Fe.v_and, Fe.v_or, Fe.v_not, Fe.v_ite, Fe.v_tup, Fe.v_lst, Fe.v_ix, Fe.v_sl, Fe.v_call, Fe.v_bi, Fe.v_isi, Fe.v_me, Fe.v_lc, Fe.v_dct, Fe.v_rev, Fe.v_fld, Fe.v_mt, Fe.v_pr, Fe.v_mk, Fe.v_oinT, Fe.v_oinF, Fe.v_inV, Fe.v_olen, Fe.v_lenOwn, Fe.v_obool, Fe.v_boolOwn, Fe.v_otru, Fe.v_oix, Fe.v_lrg, Fe.v_trg, Fe.v_ostr, Fe.v_strOwn, Fe.v_asSt, Fe.v_fst, Fe.v_noExc, Fe.v_asBl, Fe.v_asB, Fe.v_asTru, Fe.v_asNon, Fe.o_no, Fe.o_int, Fe.o_var, Fe.o_bin, Fe.o_neg, Fe.o_ite, Fe.asI_int, Fe.t_no, Fe.t_cmp, Fe.t_chn, Fe.t_and, Fe.t_or, Fe.t_not, Fe.t_call, Fe.t_var, Fe.t_isi, Fe.t_bi, Fe.t_oinT, Fe.t_oinF, Fe.t_otru, Fe.t_obool, Fe.t_mt, Fe.t_pr, Fe.t_fld, Fe.t_tru, Fe.sems_nil, Fe.sems_cons, Fe.args_nil, Fe.args_cons, Fe.andV_1, Fe.andV_2, Fe.orV_1, Fe.orV_2, Fe.andT_1, Fe.andT_2, Fe.orT_1, Fe.orT_2, Fe.v_lam, Fe.i_rng, Fe.i_tup, Fe.i_var, Fe.i_fld, Fe.i_mt, Fe.i_oix, Fe.i_enu, Fe.i_call, Fe.x_retN, Fe.x_pass, Fe.x_whl, Fe.x_setf, Fe.x_nil, Fe.x_cons, Fe.x_set, Fe.x_ret, Fe.x_expr, Fe.x_ite, Fe.x_sub, Fe.x_par, Fe.x_asg, Fe.x_for, Fe.x_met, Fe.x_rais, lk_0, lk_s, int_int, add_int, Cm.f, Ar.f, Bi.f, Me.f, Me.T, liftT, List.set_cons_succ, List.set_cons_zero, (Q.app (g := [.lst []])).fld]
      show (match getL (s ++ [.lst []]) L with | some ds => _ | none => _) = _
      rw [(Q.app (g := [.lst []])).getL_]
    simp only [x_cons, x_set, v_lst, sems_nil, args_nil, bind_ok, mkL_nil, lift_ok, List.set_cons_succ, List.set_cons_zero, seq_nx, x_for, src]
    rw [e]
    simp only [Fe.bind_ok, Fe.bind_exc, Fe.lift_ok, Fe.lift_exc, Fe.seq_nx, Fe.seq_rt, Fe.seq_exc, Fe.v_non, Fe.v_bl, Fe.v_int, Fe.v_str, Fe.v_var, Fe.v_con, Fe.v_bin, Fe.v_neg, Fe.v_cmp, Fe.v_chn, Fe.v_and, Fe.v_or, Fe.v_not, Fe.v_ite, Fe.v_tup, Fe.v_lst, Fe.v_ix, Fe.v_sl, Fe.v_call, Fe.v_bi, Fe.v_isi, Fe.v_me, Fe.v_lc, Fe.v_dct, Fe.v_rev, Fe.v_fld, Fe.v_mt, Fe.v_pr, Fe.v_mk, Fe.v_oinT, Fe.v_oinF, Fe.v_inV, Fe.v_olen, Fe.v_lenOwn, Fe.v_obool, Fe.v_boolOwn, Fe.v_otru, Fe.v_oix, Fe.v_lrg, Fe.v_trg, Fe.v_ostr, Fe.v_strOwn, Fe.v_asSt, Fe.v_fst, Fe.v_noExc, Fe.v_asBl, Fe.v_asB, Fe.v_asTru, Fe.v_asNon, Fe.o_no, Fe.o_int, Fe.o_var, Fe.o_bin, Fe.o_neg, Fe.o_ite, Fe.asI_int, Fe.t_no, Fe.t_cmp, Fe.t_chn, Fe.t_and, Fe.t_or, Fe.t_not, Fe.t_call, Fe.t_var, Fe.t_isi, Fe.t_bi, Fe.t_oinT, Fe.t_oinF, Fe.t_otru, Fe.t_obool, Fe.t_mt, Fe.t_pr, Fe.t_fld, Fe.t_tru, Fe.sems_nil, Fe.sems_cons, Fe.args_nil, Fe.args_cons, Fe.andV_1, Fe.andV_2, Fe.orV_1, Fe.orV_2, Fe.andT_1, Fe.andT_2, Fe.orT_1, Fe.orT_2, Fe.v_lam, Fe.i_rng, Fe.i_tup, Fe.i_var, Fe.i_fld, Fe.i_mt, Fe.i_oix, Fe.i_enu, Fe.i_call, Fe.x_retN, Fe.x_pass, Fe.x_whl, Fe.x_setf, Fe.x_nil, Fe.x_cons, Fe.x_set, Fe.x_ret, Fe.x_expr, Fe.x_ite, Fe.x_sub, Fe.x_par, Fe.x_asg, Fe.x_for, Fe.x_met, Fe.x_rais, lk_0, lk_s, int_int, add_int, Cm.f, Ar.f, Bi.f, Me.f, Me.T, liftT, List.set_cons_succ, List.set_cons_zero, tup_lstN getL_end]
  rw [go]
  exact trim_app flatT_ints
theorem len_spec [hT : Has T q.tas tasF] [hN : Has T q.len (lenF q)] (Q : QAt s a L ls qs) (hl : qs.flatten.length ≤ 1000) : callF T (k + 2) q.len [.ref a] s = .ok (.int qs.flatten.length) s := by
  rw [call_at hN.at_ rfl]
  show trimO s (retO (execs (callF T (k + 1)) (lenB q) [some (.ref a)] s)) = _
  have e : execs (callF T (k + 1)) (lenB q) [some (.ref a)] s = .rt (.int qs.flatten.length) s := by
    unfold lenB
    simp only [Fe.bind_ok, Fe.bind_exc, Fe.lift_ok, Fe.lift_exc, Fe.seq_nx, Fe.seq_rt, Fe.seq_exc, Fe.v_non, Fe.v_bl, Fe.v_int, Fe.v_str, Fe.v_var, Fe.v_con, Fe.v_bin, Fe.v_neg, Fe.v_cmp, Fe.v_chn, Fe.v_and, Fe.v_or, Fe.v_not, Fe.v_ite, Fe.v_tup, Fe.v_lst, Fe.v_ix, Fe.v_sl, Fe.v_call, Fe.v_bi, Fe.v_isi, Fe.v_me, Fe.v_lc, Fe.v_dct, Fe.v_rev, Fe.v_fld, Fe.v_mt, Fe.v_pr, Fe.v_mk, Fe.v_oinT, Fe.v_oinF, Fe.v_inV, Fe.v_olen, Fe.v_lenOwn, Fe.v_obool, Fe.v_boolOwn, Fe.v_otru, Fe.v_oix, Fe.v_lrg, Fe.v_trg, Fe.v_ostr, Fe.v_strOwn, Fe.v_asSt, Fe.v_fst, Fe.v_noExc, Fe.v_asBl, Fe.v_asB, Fe.v_asTru, Fe.v_asNon, Fe.o_no, Fe.o_int, Fe.o_var, Fe.o_bin, Fe.o_neg, Fe.o_ite, Fe.asI_int, Fe.t_no, Fe.t_cmp, Fe.t_chn, Fe.t_and, Fe.t_or, Fe.t_not, Fe.t_call, Fe.t_var, Fe.t_isi, Fe.t_bi, Fe.t_oinT, Fe.t_oinF, Fe.t_otru, Fe.t_obool, Fe.t_mt, Fe.t_pr, Fe.t_fld, Fe.t_tru, Fe.sems_nil, Fe.sems_cons, Fe.args_nil, Fe.args_cons, Fe.andV_1, Fe.andV_2, Fe.orV_1, Fe.orV_2, Fe.andT_1, Fe.andT_2, Fe.orT_1, Fe.orT_2, Fe.v_lam, Fe.i_rng, Fe.i_tup, Fe.i_var, Fe.i_fld, Fe.i_mt, Fe.i_oix, Fe.i_enu, Fe.i_call, Fe.x_retN, Fe.x_pass, Fe.x_whl, Fe.x_setf, Fe.x_nil, Fe.x_cons, Fe.x_set, Fe.x_ret, Fe.x_expr, Fe.x_ite, Fe.x_sub, Fe.x_par, Fe.x_asg, Fe.x_for, Fe.x_met, Fe.x_rais, lk_0, lk_s, int_int, add_int, Cm.f, Ar.f, Bi.f, Me.f, Me.T, liftT, List.set_cons_succ, List.set_cons_zero, Q.cl, if_true, tas_spec (q := q) Q hl, len_tupN, List.length_map]
  rw [e]; exact trim_id rfl
theorem boo_spec [hB : Has T q.bes besF] [hN : Has T q.boo (booF q)] (Q : QAt s a L ls qs) : callF T (k + 2) q.boo [.ref a] s = .ok (.bl (!qs.flatten.isEmpty)) s := by
  rw [call_at hN.at_ rfl]
  show trimO s (retO (execs (callF T (k + 1)) (booB q) [some (.ref a)] s)) = _
  have e : execs (callF T (k + 1)) (booB q) [some (.ref a)] s = .rt (.bl (!qs.flatten.isEmpty)) s := by
    unfold booB
    rcases bes_spec (T := T) (k := k) (q := q) Q with ⟨i, b, e⟩ | ⟨b, e⟩
    · simp only [Fe.bind_ok, Fe.bind_exc, Fe.lift_ok, Fe.lift_exc, Fe.seq_nx, Fe.seq_rt, Fe.seq_exc, Fe.v_non, Fe.v_bl, Fe.v_int, Fe.v_str, Fe.v_var, Fe.v_con, Fe.v_bin, Fe.v_neg, Fe.v_cmp, Fe.v_chn, Fe.v_and, Fe.v_or, Fe.v_not, Fe.v_ite, Fe.v_tup, Fe.v_lst, Fe.v_ix, Fe.v_sl, Fe.v_call, Fe.v_bi, Fe.v_isi, Fe.v_me, Fe.v_lc, Fe.v_dct, Fe.v_rev, Fe.v_fld, Fe.v_mt, Fe.v_pr, Fe.v_mk, Fe.v_oinT, Fe.v_oinF, Fe.v_inV, Fe.v_olen, Fe.v_lenOwn, Fe.v_obool, Fe.v_boolOwn, Fe.v_otru, Fe.v_oix, Fe.v_lrg, Fe.v_trg, Fe.v_ostr, Fe.v_strOwn, Fe.v_asSt, Fe.v_fst, Fe.v_noExc, Fe.v_asBl, Fe.v_asB, Fe.v_asTru, Fe.v_asNon, Fe.o_no, Fe.o_int, Fe.o_var, Fe.o_bin, Fe.o_neg, Fe.o_ite, Fe.asI_int, Fe.t_no, Fe.t_cmp, Fe.t_chn, Fe.t_and, Fe.t_or, Fe.t_not, Fe.t_call, Fe.t_var, Fe.t_isi, Fe.t_bi, Fe.t_oinT, Fe.t_oinF, Fe.t_otru, Fe.t_obool, Fe.t_mt, Fe.t_pr, Fe.t_fld, Fe.t_tru, Fe.sems_nil, Fe.sems_cons, Fe.args_nil, Fe.args_cons, Fe.andV_1, Fe.andV_2, Fe.orV_1, Fe.orV_2, Fe.andT_1, Fe.andT_2, Fe.orT_1, Fe.orT_2, Fe.v_lam, Fe.i_rng, Fe.i_tup, Fe.i_var, Fe.i_fld, Fe.i_mt, Fe.i_oix, Fe.i_enu, Fe.i_call, Fe.x_retN, Fe.x_pass, Fe.x_whl, Fe.x_setf, Fe.x_nil, Fe.x_cons, Fe.x_set, Fe.x_ret, Fe.x_expr, Fe.x_ite, Fe.x_sub, Fe.x_par, Fe.x_asg, Fe.x_for, Fe.x_met, Fe.x_rais, lk_0, lk_s, int_int, add_int, Cm.f, Ar.f, Bi.f, Me.f, Me.T, liftT, List.set_cons_succ, List.set_cons_zero, Q.cl, if_true, e, isn_nonV, isNon]
      obtain ⟨⟨z, hz, hn⟩, _⟩ := b
      have : qs.flatten.isEmpty = false := by
        rw [Bool.eq_false_iff]
        intro he
        rw [List.isEmpty_iff] at he
        exact hn (List.flatten_eq_nil_iff.mp he z (List.mem_of_getElem? hz))
      rw [this]
    · simp only [Fe.bind_ok, Fe.bind_exc, Fe.lift_ok, Fe.lift_exc, Fe.seq_nx, Fe.seq_rt, Fe.seq_exc, Fe.v_non, Fe.v_bl, Fe.v_int, Fe.v_str, Fe.v_var, Fe.v_con, Fe.v_bin, Fe.v_neg, Fe.v_cmp, Fe.v_chn, Fe.v_and, Fe.v_or, Fe.v_not, Fe.v_ite, Fe.v_tup, Fe.v_lst, Fe.v_ix, Fe.v_sl, Fe.v_call, Fe.v_bi, Fe.v_isi, Fe.v_me, Fe.v_lc, Fe.v_dct, Fe.v_rev, Fe.v_fld, Fe.v_mt, Fe.v_pr, Fe.v_mk, Fe.v_oinT, Fe.v_oinF, Fe.v_inV, Fe.v_olen, Fe.v_lenOwn, Fe.v_obool, Fe.v_boolOwn, Fe.v_otru, Fe.v_oix, Fe.v_lrg, Fe.v_trg, Fe.v_ostr, Fe.v_strOwn, Fe.v_asSt, Fe.v_fst, Fe.v_noExc, Fe.v_asBl, Fe.v_asB, Fe.v_asTru, Fe.v_asNon, Fe.o_no, Fe.o_int, Fe.o_var, Fe.o_bin, Fe.o_neg, Fe.o_ite, Fe.asI_int, Fe.t_no, Fe.t_cmp, Fe.t_chn, Fe.t_and, Fe.t_or, Fe.t_not, Fe.t_call, Fe.t_var, Fe.t_isi, Fe.t_bi, Fe.t_oinT, Fe.t_oinF, Fe.t_otru, Fe.t_obool, Fe.t_mt, Fe.t_pr, Fe.t_fld, Fe.t_tru, Fe.sems_nil, Fe.sems_cons, Fe.args_nil, Fe.args_cons, Fe.andV_1, Fe.andV_2, Fe.orV_1, Fe.orV_2, Fe.andT_1, Fe.andT_2, Fe.orT_1, Fe.orT_2, Fe.v_lam, Fe.i_rng, Fe.i_tup, Fe.i_var, Fe.i_fld, Fe.i_mt, Fe.i_oix, Fe.i_enu, Fe.i_call, Fe.x_retN, Fe.x_pass, Fe.x_whl, Fe.x_setf, Fe.x_nil, Fe.x_cons, Fe.x_set, Fe.x_ret, Fe.x_expr, Fe.x_ite, Fe.x_sub, Fe.x_par, Fe.x_asg, Fe.x_for, Fe.x_met, Fe.x_rais, lk_0, lk_s, int_int, add_int, Cm.f, Ar.f, Bi.f, Me.f, Me.T, liftT, List.set_cons_succ, List.set_cons_zero, Q.cl, if_true, e, isn_nonV, isNon]
      have : qs.flatten = [] := List.flatten_eq_nil_iff.mpr b
      rw [this]; rfl
  rw [e]; exact trim_id rfl
theorem get_spec [hI : Has T q.isI (isIF q)] [hB : Has T q.isB (isBF q)] [hG : Has T q.get (getF q)] {i : Nat} {z : List Int} (Q : QAt s a L ls qs) (hz : qs[i]? = some z) : callF T (k + 3) q.get [.ref a, .int i] s = .ok (.tup (iD z)) s := by
  rw [call_at hG.at_ rfl]
  show trimO s (retO (execs (callF T (k + 2)) (getB q) [some (.ref a), some (.int i)] s)) = _
  obtain ⟨l, hl, hs, hr⟩ := Q.get_ hz
  have hi : i < ls.length := (List.getElem?_eq_some_iff.mp hl).1
  have few := Q.few
  have e : execs (callF T (k + 2)) (getB q) [some (.ref a), some (.int i)] s = .rt (.tup (iD z)) s := by
    unfold getB
    simp only [Fe.bind_ok, Fe.bind_exc, Fe.lift_ok, Fe.lift_exc, Fe.seq_nx, Fe.seq_rt, Fe.seq_exc, Fe.v_non, Fe.v_bl, Fe.v_int, Fe.v_str, Fe.v_var, Fe.v_con, Fe.v_bin, Fe.v_neg, Fe.v_cmp, Fe.v_chn, Fe.v_and, Fe.v_or, Fe.v_not, Fe.v_ite, Fe.v_tup, Fe.v_lst, Fe.v_ix, Fe.v_sl, Fe.v_call, Fe.v_bi, Fe.v_isi, Fe.v_me, Fe.v_lc, Fe.v_dct, Fe.v_rev, Fe.v_fld, Fe.v_mt, Fe.v_pr, Fe.v_mk, Fe.v_oinT, Fe.v_oinF, Fe.v_inV, Fe.v_olen, Fe.v_lenOwn, Fe.v_obool, Fe.v_boolOwn, Fe.v_otru, Fe.v_oix, Fe.v_lrg, Fe.v_trg, Fe.v_ostr, Fe.v_strOwn, Fe.v_asSt, Fe.v_fst, Fe.v_noExc, Fe.v_asBl, Fe.v_asB, Fe.v_asTru, Fe.v_asNon, Fe.o_no, Fe.o_int, Fe.o_var, Fe.o_bin, Fe.o_neg, Fe.o_ite, Fe.asI_int, Fe.t_no, Fe.t_cmp, Fe.t_chn, Fe.t_and, Fe.t_or, Fe.t_not, Fe.t_call, Fe.t_var, Fe.t_isi, Fe.t_bi, Fe.t_oinT, Fe.t_oinF, Fe.t_otru, Fe.t_obool, Fe.t_mt, Fe.t_pr, Fe.t_fld, Fe.t_tru, Fe.sems_nil, Fe.sems_cons, Fe.args_nil, Fe.args_cons, Fe.andV_1, Fe.andV_2, Fe.orV_1, Fe.orV_2, Fe.andT_1, Fe.andT_2, Fe.orT_1, Fe.orT_2, Fe.v_lam, Fe.i_rng, Fe.i_tup, Fe.i_var, Fe.i_fld, Fe.i_mt, Fe.i_oix, Fe.i_enu, Fe.i_call, Fe.x_retN, Fe.x_pass, Fe.x_whl, Fe.x_setf, Fe.x_nil, Fe.x_cons, Fe.x_set, Fe.x_ret, Fe.x_expr, Fe.x_ite, Fe.x_sub, Fe.x_par, Fe.x_asg, Fe.x_for, Fe.x_met, Fe.x_rais, lk_0, lk_s, int_int, add_int, Cm.f, Ar.f, Bi.f, Me.f, Me.T, liftT, List.set_cons_succ, List.set_cons_zero, Q.fld, len_lstN Q.getL_, List.length_map, isB_spec (q := q) (s := s) (k := k) (t := (i : Int)) (n := (ls.length : Int)) (by omega) (by omega) (big_lt (by omega)), Bool.not_true, Bool.false_eq_true, if_false, ix_lstN Q.getL_ hr, tup_lstN (getL_lst hs)]
  rw [e]; exact trim_id flatT_ints
end
end Fe

set_option maxHeartbeats 4000000
/-! Fe R: the class Queues: what changes it. -/
namespace Fe
open PySem PySem.Spec PyProof.Rows
open L2 (atI ixN)
section
variable {T : List Fd} {q : QI} {k : Nat} {s g : S} {a L : Nat} {ls : List Nat} {qs : List (List Int)} {t : Int}
theorem live_n (ds : List D) (s : S) : Src.live ⟨ds, none⟩ s = true := rfl
theorem tyL {i : Nat} {ds : List D} (h : s[i]? = some (.lst ds)) : tyIs "list" s (.ref i) = true := tyIs_lst h
/-! who is ahead -/
theorem aha_spec [hI : Has T q.isI (isIF q)] [hN : Has T q.isN (isNF q)] [hC : Has T q.con (conF q)] [hL : Has T q.lev (levF q)] [hA : Has T q.aha (ahaF q)] {x y : Int} {i j n m : Nat} {z w : List Int} (Q : QAt s a L ls qs)
    (hx : 0 ≤ x) (hx2 : x < Big) (hy : 0 ≤ y) (hy2 : y < Big) (lx : Lv qs x i) (ly : Lv qs y j) (hz : qs[i]? = some z) (hw : qs[j]? = some w) (fx : findI x z = some n) (fy : findI y w = some m) :
    callF T (k + 5) q.aha [.ref a, .int x, .int y] s = .ok (.bl (HT.lexLt [(i : Int), (n : Int)] [(j : Int), (m : Int)])) s := by
  rw [call_at hA.at_ rfl]
  show trimO s (retO (execs (callF T (k + 4)) (ahaB q) [some (.ref a), some (.int x), some (.int y), none, none, none] s)) = _
  have step : ∀ (t : Int) (i n : Nat) (z : List Int) (acc : List D) (o o2 : Option D), 0 ≤ t → t < Big → Lv qs t i → qs[i]? = some z → findI t z = some n → acc.length < 5 →
      execs (callF T (k + 4)) [(.set 5 (.mt Qc q.lev (.var 0) [(.var 4)])), (.expr (.me .append (.var 3) [(.tup [(.var 5), (.me .index (.ix OL (.var 5)) [(.var 4)])])]))] [some (.ref a), some (.int x), some (.int y), some (.ref s.length), some (.int t), o2] (s ++ [.lst acc]) =
        .nx [some (.ref a), some (.int x), some (.int y), some (.ref s.length), some (.int t), some (.int i)] (s ++ [.lst (acc ++ [.tup [.int i, .int n]])]) := by
    intro t i n z acc o o2 h1 h2 lv hz hf ha
    have Q1 := Q.app (g := [.lst acc])
    obtain ⟨l, hl, hs, hr⟩ := Q1.get_ hz
    have e1 := lev_spec (T := T) (q := q) (k := k) Q1 h1 h2 lv
    have ap : meAppend (.ref s.length) [.tup [.int i, .int n]] (s ++ [.lst acc]) = .ok .non (s ++ [.lst (acc ++ [.tup [.int i, .int n]])]) := by
      rw [append_ok' at_end (by unfold line; omega), set_end]
    have mt : ∀ (d1 d2 : D) (s : S), mkTup [d1, d2] s = .ok (.tup [d1, d2]) s := fun _ _ _ => rfl
    simp only [Fe.bind_ok, Fe.bind_exc, Fe.lift_ok, Fe.lift_exc, Fe.seq_nx, Fe.seq_rt, Fe.seq_exc, Fe.v_non, Fe.v_bl, Fe.v_int, Fe.v_str, Fe.v_var, Fe.v_con, Fe.v_bin, Fe.v_neg, Fe.v_cmp, Fe.v_chn, Fe.v_and, Fe.v_or, Fe.v_not, Fe.v_ite, Fe.v_tup, Fe.v_lst, Fe.v_ix, Fe.v_sl, Fe.v_call, Fe.v_bi, Fe.v_isi, Fe.v_me, Fe.v_lc, Fe.v_dct, Fe.v_rev, Fe.v_fld, Fe.v_mt, Fe.v_pr, Fe.v_mk, Fe.v_oinT, Fe.v_oinF, Fe.v_inV, Fe.v_olen, Fe.v_lenOwn, Fe.v_obool, Fe.v_boolOwn, Fe.v_otru, Fe.v_oix, Fe.v_lrg, Fe.v_trg, Fe.v_ostr, Fe.v_strOwn, Fe.v_asSt, Fe.v_fst, Fe.v_noExc, Fe.v_asBl, Fe.v_asB, Fe.v_asTru, Fe.v_asNon, Fe.o_no, Fe.o_int, Fe.o_var, Fe.o_bin, Fe.o_neg, Fe.o_ite, Fe.asI_int, Fe.t_no, Fe.t_cmp, Fe.t_chn, Fe.t_and, Fe.t_or, Fe.t_not, Fe.t_call, Fe.t_var, Fe.t_isi, Fe.t_bi, Fe.t_oinT, Fe.t_oinF, Fe.t_otru, Fe.t_obool, Fe.t_mt, Fe.t_pr, Fe.t_fld, Fe.t_tru, Fe.sems_nil, Fe.sems_cons, Fe.args_nil, Fe.args_cons, Fe.andV_1, Fe.andV_2, Fe.orV_1, Fe.orV_2, Fe.andT_1, Fe.andT_2, Fe.orT_1, Fe.orT_2, Fe.v_lam, Fe.i_rng, Fe.i_tup, Fe.i_var, Fe.i_fld, Fe.i_mt, Fe.i_oix, Fe.i_enu, Fe.i_call, Fe.x_retN, Fe.x_pass, Fe.x_whl, Fe.x_setf, Fe.x_nil, Fe.x_cons, Fe.x_set, Fe.x_ret, Fe.x_expr, Fe.x_ite, Fe.x_sub, Fe.x_par, Fe.x_asg, Fe.x_for, Fe.x_met, Fe.x_rais, lk_0, lk_s, int_int, add_int, Cm.f, Ar.f, Bi.f, Me.f, Me.T, liftT, List.set_cons_succ, List.set_cons_zero, Q1.cl, if_true, e1, tyL (s := s ++ [.lst acc]) (i := s.length) at_end, Q1.fld, ix_lstN Q1.getL_ hr, tyL hs, index_ok' (getL_lst hs) hf, mt, ap]
  have e : execs (callF T (k + 4)) (ahaB q) [some (.ref a), some (.int x), some (.int y), none, none, none] s = .rt (.bl (HT.lexLt [(i : Int), (n : Int)] [(j : Int), (m : Int)])) (s ++ [.lst [.tup [.int i, .int n], .tup [.int j, .int m]]]) := by
    unfold ahaB
    have mt : ∀ (d1 d2 : D) (s : S), mkTup [d1, d2] s = .ok (.tup [d1, d2]) s := fun _ _ _ => rfl
    have fw : forW (Src.live ⟨[.int x, .int y], none⟩) (bnd (.nm 4)) (execs (callF T (k + 4)) [(.set 5 (.mt Qc q.lev (.var 0) [(.var 4)])), (.expr (.me .append (.var 3) [(.tup [(.var 5), (.me .index (.ix OL (.var 5)) [(.var 4)])])]))]) [.int x, .int y]
        [some (.ref a), some (.int x), some (.int y), some (.ref s.length), none, none] (s ++ [.lst []]) = .nx [some (.ref a), some (.int x), some (.int y), some (.ref s.length), some (.int y), some (.int j)] (s ++ [.lst [.tup [.int i, .int n], .tup [.int j, .int m]]]) := by
      unfold forW
      rw [if_pos (live_n _ _)]
      show (match execs (callF T (k + 4)) _ [some (.ref a), some (.int x), some (.int y), some (.ref s.length), some (.int x), none] (s ++ [.lst []]) with | .nx ρ2 s2 => _ | .ct ρ2 s2 => _ | .bk ρ2 s2 => _ | .rt d s2 => _ | .exc x ρ2 s2 => _ | .bad => _) = _
      rw [step x i n z [] none none hx hx2 lx hz fx (by decide)]
      dsimp only
      unfold forW
      rw [if_pos (live_n _ _)]
      show (match execs (callF T (k + 4)) _ [some (.ref a), some (.int x), some (.int y), some (.ref s.length), some (.int y), some (.int i)] (s ++ [.lst ([] ++ [.tup [.int i, .int n]])]) with | .nx ρ2 s2 => _ | .ct ρ2 s2 => _ | .bk ρ2 s2 => _ | .rt d s2 => _ | .exc x ρ2 s2 => _ | .bad => _) = _
      rw [step y j m w _ none _ hy hy2 ly hw fy (by simp)]
      dsimp only
      unfold forW
      rw [if_pos (live_n _ _)]
      rfl
    have so : ∀ s : S, srcOf (.tup [.int x, .int y]) s = .ok ⟨[.int x, .int y], none⟩ s := fun s => rfl
    simp only [Fe.bind_ok, Fe.bind_exc, Fe.lift_ok, Fe.lift_exc, Fe.seq_nx, Fe.seq_rt, Fe.seq_exc, Fe.v_non, Fe.v_bl, Fe.v_int, Fe.v_str, Fe.v_var, Fe.v_con, Fe.v_bin, Fe.v_neg, Fe.v_cmp, Fe.v_chn, Fe.v_and, Fe.v_or, Fe.v_not, Fe.v_ite, Fe.v_tup, Fe.v_lst, Fe.v_ix, Fe.v_sl, Fe.v_call, Fe.v_bi, Fe.v_isi, Fe.v_me, Fe.v_lc, Fe.v_dct, Fe.v_rev, Fe.v_fld, Fe.v_mt, Fe.v_pr, Fe.v_mk, Fe.v_oinT, Fe.v_oinF, Fe.v_inV, Fe.v_olen, Fe.v_lenOwn, Fe.v_obool, Fe.v_boolOwn, Fe.v_otru, Fe.v_oix, Fe.v_lrg, Fe.v_trg, Fe.v_ostr, Fe.v_strOwn, Fe.v_asSt, Fe.v_fst, Fe.v_noExc, Fe.v_asBl, Fe.v_asB, Fe.v_asTru, Fe.v_asNon, Fe.o_no, Fe.o_int, Fe.o_var, Fe.o_bin, Fe.o_neg, Fe.o_ite, Fe.asI_int, Fe.t_no, Fe.t_cmp, Fe.t_chn, Fe.t_and, Fe.t_or, Fe.t_not, Fe.t_call, Fe.t_var, Fe.t_isi, Fe.t_bi, Fe.t_oinT, Fe.t_oinF, Fe.t_otru, Fe.t_obool, Fe.t_mt, Fe.t_pr, Fe.t_fld, Fe.t_tru, Fe.sems_nil, Fe.sems_cons, Fe.args_nil, Fe.args_cons, Fe.andV_1, Fe.andV_2, Fe.orV_1, Fe.orV_2, Fe.andT_1, Fe.andT_2, Fe.orT_1, Fe.orT_2, Fe.v_lam, Fe.i_rng, Fe.i_tup, Fe.i_var, Fe.i_fld, Fe.i_mt, Fe.i_oix, Fe.i_enu, Fe.i_call, Fe.x_retN, Fe.x_pass, Fe.x_whl, Fe.x_setf, Fe.x_nil, Fe.x_cons, Fe.x_set, Fe.x_ret, Fe.x_expr, Fe.x_ite, Fe.x_sub, Fe.x_par, Fe.x_asg, Fe.x_for, Fe.x_met, Fe.x_rais, lk_0, lk_s, int_int, add_int, Cm.f, Ar.f, Bi.f, Me.f, Me.T, liftT, List.set_cons_succ, List.set_cons_zero, mkL_nil, mt, so]
    rw [fw]
    have g1 : opIx (.ref s.length) (.int 0) (s ++ [.lst [.tup [.int i, .int n], .tup [.int j, .int m]]]) = .ok (.tup [.int i, .int n]) _ := ix_lstN (k := 0) getL_end rfl
    have g2 : opIx (.ref s.length) (.int 1) (s ++ [.lst [.tup [.int i, .int n], .tup [.int j, .int m]]]) = .ok (.tup [.int j, .int m]) _ := ix_lstN (k := 1) getL_end rfl
    simp only [Fe.bind_ok, Fe.bind_exc, Fe.lift_ok, Fe.lift_exc, Fe.seq_nx, Fe.seq_rt, Fe.seq_exc, Fe.v_non, Fe.v_bl, Fe.v_int, Fe.v_str, Fe.v_var, Fe.v_con, Fe.v_bin, Fe.v_neg, Fe.v_cmp, Fe.v_chn, Fe.v_and, Fe.v_or, Fe.v_not, Fe.v_ite, Fe.v_tup, Fe.v_lst, Fe.v_ix, Fe.v_sl, Fe.v_call, Fe.v_bi, Fe.v_isi, Fe.v_me, Fe.v_lc, Fe.v_dct, Fe.v_rev, Fe.v_fld, Fe.v_mt, Fe.v_pr, Fe.v_mk, Fe.v_oinT, Fe.v_oinF, Fe.v_inV, Fe.v_olen, Fe.v_lenOwn, Fe.v_obool, Fe.v_boolOwn, Fe.v_otru, Fe.v_oix, Fe.v_lrg, Fe.v_trg, Fe.v_ostr, Fe.v_strOwn, Fe.v_asSt, Fe.v_fst, Fe.v_noExc, Fe.v_asBl, Fe.v_asB, Fe.v_asTru, Fe.v_asNon, Fe.o_no, Fe.o_int, Fe.o_var, Fe.o_bin, Fe.o_neg, Fe.o_ite, Fe.asI_int, Fe.t_no, Fe.t_cmp, Fe.t_chn, Fe.t_and, Fe.t_or, Fe.t_not, Fe.t_call, Fe.t_var, Fe.t_isi, Fe.t_bi, Fe.t_oinT, Fe.t_oinF, Fe.t_otru, Fe.t_obool, Fe.t_mt, Fe.t_pr, Fe.t_fld, Fe.t_tru, Fe.sems_nil, Fe.sems_cons, Fe.args_nil, Fe.args_cons, Fe.andV_1, Fe.andV_2, Fe.orV_1, Fe.orV_2, Fe.andT_1, Fe.andT_2, Fe.orT_1, Fe.orT_2, Fe.v_lam, Fe.i_rng, Fe.i_tup, Fe.i_var, Fe.i_fld, Fe.i_mt, Fe.i_oix, Fe.i_enu, Fe.i_call, Fe.x_retN, Fe.x_pass, Fe.x_whl, Fe.x_setf, Fe.x_nil, Fe.x_cons, Fe.x_set, Fe.x_ret, Fe.x_expr, Fe.x_ite, Fe.x_sub, Fe.x_par, Fe.x_asg, Fe.x_for, Fe.x_met, Fe.x_rais, lk_0, lk_s, int_int, add_int, Cm.f, Ar.f, Bi.f, Me.f, Me.T, liftT, List.set_cons_succ, List.set_cons_zero, g1, g2]
    rfl
  rw [e]; exact trim_app rfl
/-! put, enter -/
def putV (c : List Nat) (z : List Int) (t : Int) : List Int := if c = wBack then z ++ [t] else t :: z
theorem put_spec [hP : Has T q.put (putF q)] {i l : Nat} {z : List Int} {c : List Nat} (Q : QAt s a L ls qs) (hz : qs[i]? = some z) (hl : ls[i]? = some l) (hn : z.length ≤ 1000) :
    callF T (k + 1) q.put [.ref a, .int t, .int i, .str c] s = .ok .non (s.set l (.lst (iD (putV c z t)))) := by
  rw [call_at hP.at_ rfl]
  show trimO s (retO (execs (callF T k) (putB q) [some (.ref a), some (.int t), some (.int i), some (.str c)] s)) = _
  have hs := Q.at_ i l z hl hz
  have hr : (ls.map D.ref)[i]? = some (.ref l) := by rw [List.getElem?_map, hl]; rfl
  have e : execs (callF T k) (putB q) [some (.ref a), some (.int t), some (.int i), some (.str c)] s = .nx [some (.ref a), some (.int t), some (.int i), some (.str c)] (s.set l (.lst (iD (putV c z t)))) := by
    unfold putB putV
    have a1 : meAppend (.ref l) [.int t] s = .ok .non (s.set l (.lst (iD (z ++ [t])))) := by
      rw [append_ok' hs (by rw [List.length_map]; unfold line; omega), iD_app]; rfl
    have a2 : meInsert (.ref l) [.int 0, .int t] s = .ok .non (s.set l (.lst (iD (t :: z)))) := by
      rw [insert0_ok' hs (by rw [List.length_map]; unfold line; omega)]; rfl
    by_cases hc : c = wBack
    · subst hc
      simp only [Fe.bind_ok, Fe.bind_exc, Fe.lift_ok, Fe.lift_exc, Fe.seq_nx, Fe.seq_rt, Fe.seq_exc, Fe.v_non, Fe.v_bl, Fe.v_int, Fe.v_str, Fe.v_var, Fe.v_con, Fe.v_bin, Fe.v_neg, Fe.v_cmp, Fe.v_chn, Fe.v_and, Fe.v_or, Fe.v_not, Fe.v_ite, Fe.v_tup, Fe.v_lst, Fe.v_ix, Fe.v_sl, Fe.v_call, Fe.v_bi, Fe.v_isi, Fe.v_me, Fe.v_lc, Fe.v_dct, Fe.v_rev, Fe.v_fld, Fe.v_mt, Fe.v_pr, Fe.v_mk, Fe.v_oinT, Fe.v_oinF, Fe.v_inV, Fe.v_olen, Fe.v_lenOwn, Fe.v_obool, Fe.v_boolOwn, Fe.v_otru, Fe.v_oix, Fe.v_lrg, Fe.v_trg, Fe.v_ostr, Fe.v_strOwn, Fe.v_asSt, Fe.v_fst, Fe.v_noExc, Fe.v_asBl, Fe.v_asB, Fe.v_asTru, Fe.v_asNon, Fe.o_no, Fe.o_int, Fe.o_var, Fe.o_bin, Fe.o_neg, Fe.o_ite, Fe.asI_int, Fe.t_no, Fe.t_cmp, Fe.t_chn, Fe.t_and, Fe.t_or, Fe.t_not, Fe.t_call, Fe.t_var, Fe.t_isi, Fe.t_bi, Fe.t_oinT, Fe.t_oinF, Fe.t_otru, Fe.t_obool, Fe.t_mt, Fe.t_pr, Fe.t_fld, Fe.t_tru, Fe.sems_nil, Fe.sems_cons, Fe.args_nil, Fe.args_cons, Fe.andV_1, Fe.andV_2, Fe.orV_1, Fe.orV_2, Fe.andT_1, Fe.andT_2, Fe.orT_1, Fe.orT_2, Fe.v_lam, Fe.i_rng, Fe.i_tup, Fe.i_var, Fe.i_fld, Fe.i_mt, Fe.i_oix, Fe.i_enu, Fe.i_call, Fe.x_retN, Fe.x_pass, Fe.x_whl, Fe.x_setf, Fe.x_nil, Fe.x_cons, Fe.x_set, Fe.x_ret, Fe.x_expr, Fe.x_ite, Fe.x_sub, Fe.x_par, Fe.x_asg, Fe.x_for, Fe.x_met, Fe.x_rais, lk_0, lk_s, int_int, add_int, Cm.f, Ar.f, Bi.f, Me.f, Me.T, liftT, List.set_cons_succ, List.set_cons_zero, eq_strS, beq_self_eq_true, if_true, Q.fld, ix_lstN Q.getL_ hr, tyL hs, a1]
    · have hb : (c == wBack) = false := by simpa using hc
      simp only [Fe.bind_ok, Fe.bind_exc, Fe.lift_ok, Fe.lift_exc, Fe.seq_nx, Fe.seq_rt, Fe.seq_exc, Fe.v_non, Fe.v_bl, Fe.v_int, Fe.v_str, Fe.v_var, Fe.v_con, Fe.v_bin, Fe.v_neg, Fe.v_cmp, Fe.v_chn, Fe.v_and, Fe.v_or, Fe.v_not, Fe.v_ite, Fe.v_tup, Fe.v_lst, Fe.v_ix, Fe.v_sl, Fe.v_call, Fe.v_bi, Fe.v_isi, Fe.v_me, Fe.v_lc, Fe.v_dct, Fe.v_rev, Fe.v_fld, Fe.v_mt, Fe.v_pr, Fe.v_mk, Fe.v_oinT, Fe.v_oinF, Fe.v_inV, Fe.v_olen, Fe.v_lenOwn, Fe.v_obool, Fe.v_boolOwn, Fe.v_otru, Fe.v_oix, Fe.v_lrg, Fe.v_trg, Fe.v_ostr, Fe.v_strOwn, Fe.v_asSt, Fe.v_fst, Fe.v_noExc, Fe.v_asBl, Fe.v_asB, Fe.v_asTru, Fe.v_asNon, Fe.o_no, Fe.o_int, Fe.o_var, Fe.o_bin, Fe.o_neg, Fe.o_ite, Fe.asI_int, Fe.t_no, Fe.t_cmp, Fe.t_chn, Fe.t_and, Fe.t_or, Fe.t_not, Fe.t_call, Fe.t_var, Fe.t_isi, Fe.t_bi, Fe.t_oinT, Fe.t_oinF, Fe.t_otru, Fe.t_obool, Fe.t_mt, Fe.t_pr, Fe.t_fld, Fe.t_tru, Fe.sems_nil, Fe.sems_cons, Fe.args_nil, Fe.args_cons, Fe.andV_1, Fe.andV_2, Fe.orV_1, Fe.orV_2, Fe.andT_1, Fe.andT_2, Fe.orT_1, Fe.orT_2, Fe.v_lam, Fe.i_rng, Fe.i_tup, Fe.i_var, Fe.i_fld, Fe.i_mt, Fe.i_oix, Fe.i_enu, Fe.i_call, Fe.x_retN, Fe.x_pass, Fe.x_whl, Fe.x_setf, Fe.x_nil, Fe.x_cons, Fe.x_set, Fe.x_ret, Fe.x_expr, Fe.x_ite, Fe.x_sub, Fe.x_par, Fe.x_asg, Fe.x_for, Fe.x_met, Fe.x_rais, lk_0, lk_s, int_int, add_int, Cm.f, Ar.f, Bi.f, Me.f, Me.T, liftT, List.set_cons_succ, List.set_cons_zero, eq_strS, hb, if_false, Bool.false_eq_true, Q.fld, ix_lstN Q.getL_ hr, tyL hs, a2, if_true, if_neg hc]
  rw [e]
  exact trim_set rfl flat_ints
theorem ent_spec [hI : Has T q.isI (isIF q)] [hN : Has T q.isN (isNF q)] [hB : Has T q.isB (isBF q)] [hP : Has T q.isP (isPF q)] [hC : Has T q.con (conF q)] [hU : Has T q.put (putF q)] [hE : Has T q.ent (entF q)] {i l : Nat} {z : List Int} {c : List Nat}
    (Q : QAt s a L ls qs) (h1 : 0 ≤ t) (h2 : t < Big) (hno : qs.any (·.contains t) = false) (hc : c = wBack ∨ c = wFront) (hz : qs[i]? = some z) (hl : ls[i]? = some l) (hn : z.length ≤ 1000) :
    callF T (k + 4) q.ent [.ref a, .int t, .int i, .str c] s = .ok .non (s.set l (.lst (iD (putV c z t)))) := by
  rw [call_at hE.at_ rfl]
  show trimO s (retO (execs (callF T (k + 3)) (entB q) [some (.ref a), some (.int t), some (.int i), some (.str c)] s)) = _
  have hi : i < ls.length := (List.getElem?_eq_some_iff.mp hl).1
  have few := Q.few
  have e : execs (callF T (k + 3)) (entB q) [some (.ref a), some (.int t), some (.int i), some (.str c)] s = .nx [some (.ref a), some (.int t), some (.int i), some (.str c)] (s.set l (.lst (iD (putV c z t)))) := by
    unfold entB
    simp only [Fe.bind_ok, Fe.bind_exc, Fe.lift_ok, Fe.lift_exc, Fe.seq_nx, Fe.seq_rt, Fe.seq_exc, Fe.v_non, Fe.v_bl, Fe.v_int, Fe.v_str, Fe.v_var, Fe.v_con, Fe.v_bin, Fe.v_neg, Fe.v_cmp, Fe.v_chn, Fe.v_and, Fe.v_or, Fe.v_not, Fe.v_ite, Fe.v_tup, Fe.v_lst, Fe.v_ix, Fe.v_sl, Fe.v_call, Fe.v_bi, Fe.v_isi, Fe.v_me, Fe.v_lc, Fe.v_dct, Fe.v_rev, Fe.v_fld, Fe.v_mt, Fe.v_pr, Fe.v_mk, Fe.v_oinT, Fe.v_oinF, Fe.v_inV, Fe.v_olen, Fe.v_lenOwn, Fe.v_obool, Fe.v_boolOwn, Fe.v_otru, Fe.v_oix, Fe.v_lrg, Fe.v_trg, Fe.v_ostr, Fe.v_strOwn, Fe.v_asSt, Fe.v_fst, Fe.v_noExc, Fe.v_asBl, Fe.v_asB, Fe.v_asTru, Fe.v_asNon, Fe.o_no, Fe.o_int, Fe.o_var, Fe.o_bin, Fe.o_neg, Fe.o_ite, Fe.asI_int, Fe.t_no, Fe.t_cmp, Fe.t_chn, Fe.t_and, Fe.t_or, Fe.t_not, Fe.t_call, Fe.t_var, Fe.t_isi, Fe.t_bi, Fe.t_oinT, Fe.t_oinF, Fe.t_otru, Fe.t_obool, Fe.t_mt, Fe.t_pr, Fe.t_fld, Fe.t_tru, Fe.sems_nil, Fe.sems_cons, Fe.args_nil, Fe.args_cons, Fe.andV_1, Fe.andV_2, Fe.orV_1, Fe.orV_2, Fe.andT_1, Fe.andT_2, Fe.orT_1, Fe.orT_2, Fe.v_lam, Fe.i_rng, Fe.i_tup, Fe.i_var, Fe.i_fld, Fe.i_mt, Fe.i_oix, Fe.i_enu, Fe.i_call, Fe.x_retN, Fe.x_pass, Fe.x_whl, Fe.x_setf, Fe.x_nil, Fe.x_cons, Fe.x_set, Fe.x_ret, Fe.x_expr, Fe.x_ite, Fe.x_sub, Fe.x_par, Fe.x_asg, Fe.x_for, Fe.x_met, Fe.x_rais, lk_0, lk_s, int_int, add_int, Cm.f, Ar.f, Bi.f, Me.f, Me.T, liftT, List.set_cons_succ, List.set_cons_zero, isN_spec (q := q) (k := k + 1) h1 h2, Bool.not_true, Bool.false_eq_true, if_false, Q.cl, if_true, con_spec (q := q) Q h1 h2, hno, id, Q.fld, len_lstN Q.getL_, List.length_map,
      isB_spec (q := q) (s := s) (k := k + 1) (t := (i : Int)) (n := (ls.length : Int)) (by omega) (by omega) (big_lt (by omega)), isP_spec (q := q) (k := k + 2) hc, put_spec (q := q) (k := k + 2) Q hz hl hn]
  rw [e]
  exact trim_set rfl flat_ints
/-! leave, pick -/
theorem lea_spec [hI : Has T q.isI (isIF q)] [hN : Has T q.isN (isNF q)] [hC : Has T q.con (conF q)] [hL : Has T q.lev (levF q)] [hE : Has T q.lea (leaF q)] {i l : Nat} {z : List Int}
    (Q : QAt s a L ls qs) (h1 : 0 ≤ t) (h2 : t < Big) (lv : Lv qs t i) (hz : qs[i]? = some z) (hl : ls[i]? = some l) :
    callF T (k + 5) q.lea [.ref a, .int t] s = .ok .non (s.set l (.lst (iD (z.erase t)))) := by
  rw [call_at hE.at_ rfl]
  show trimO s (retO (execs (callF T (k + 4)) (leaB q) [some (.ref a), some (.int t)] s)) = _
  have hs := Q.at_ i l z hl hz
  have hr : (ls.map D.ref)[i]? = some (.ref l) := by rw [List.getElem?_map, hl]; rfl
  have hm : t ∈ z := by
    obtain ⟨w, hw, hm⟩ := lv.1
    rw [hz] at hw
    cases hw
    exact hm
  have e : execs (callF T (k + 4)) (leaB q) [some (.ref a), some (.int t)] s = .nx [some (.ref a), some (.int t)] (s.set l (.lst (iD (z.erase t)))) := by
    unfold leaB
    simp only [Fe.bind_ok, Fe.bind_exc, Fe.lift_ok, Fe.lift_exc, Fe.seq_nx, Fe.seq_rt, Fe.seq_exc, Fe.v_non, Fe.v_bl, Fe.v_int, Fe.v_str, Fe.v_var, Fe.v_con, Fe.v_bin, Fe.v_neg, Fe.v_cmp, Fe.v_chn, Fe.v_and, Fe.v_or, Fe.v_not, Fe.v_ite, Fe.v_tup, Fe.v_lst, Fe.v_ix, Fe.v_sl, Fe.v_call, Fe.v_bi, Fe.v_isi, Fe.v_me, Fe.v_lc, Fe.v_dct, Fe.v_rev, Fe.v_fld, Fe.v_mt, Fe.v_pr, Fe.v_mk, Fe.v_oinT, Fe.v_oinF, Fe.v_inV, Fe.v_olen, Fe.v_lenOwn, Fe.v_obool, Fe.v_boolOwn, Fe.v_otru, Fe.v_oix, Fe.v_lrg, Fe.v_trg, Fe.v_ostr, Fe.v_strOwn, Fe.v_asSt, Fe.v_fst, Fe.v_noExc, Fe.v_asBl, Fe.v_asB, Fe.v_asTru, Fe.v_asNon, Fe.o_no, Fe.o_int, Fe.o_var, Fe.o_bin, Fe.o_neg, Fe.o_ite, Fe.asI_int, Fe.t_no, Fe.t_cmp, Fe.t_chn, Fe.t_and, Fe.t_or, Fe.t_not, Fe.t_call, Fe.t_var, Fe.t_isi, Fe.t_bi, Fe.t_oinT, Fe.t_oinF, Fe.t_otru, Fe.t_obool, Fe.t_mt, Fe.t_pr, Fe.t_fld, Fe.t_tru, Fe.sems_nil, Fe.sems_cons, Fe.args_nil, Fe.args_cons, Fe.andV_1, Fe.andV_2, Fe.orV_1, Fe.orV_2, Fe.andT_1, Fe.andT_2, Fe.orT_1, Fe.orT_2, Fe.v_lam, Fe.i_rng, Fe.i_tup, Fe.i_var, Fe.i_fld, Fe.i_mt, Fe.i_oix, Fe.i_enu, Fe.i_call, Fe.x_retN, Fe.x_pass, Fe.x_whl, Fe.x_setf, Fe.x_nil, Fe.x_cons, Fe.x_set, Fe.x_ret, Fe.x_expr, Fe.x_ite, Fe.x_sub, Fe.x_par, Fe.x_asg, Fe.x_for, Fe.x_met, Fe.x_rais, lk_0, lk_s, int_int, add_int, Cm.f, Ar.f, Bi.f, Me.f, Me.T, liftT, List.set_cons_succ, List.set_cons_zero, Q.fld, Q.cl, if_true, lev_spec (q := q) Q h1 h2 lv, ix_lstN Q.getL_ hr, tyL hs, remove_ok' hs hm]
  rw [e]
  exact trim_set rfl flat_ints
theorem pic_spec [hB : Has T q.bes besF] [hP : Has T q.pic (picF q)] (Q : QAt s a L ls qs) :
    (∃ i l t z, Bst qs i ∧ qs[i]? = some (t :: z) ∧ ls[i]? = some l ∧ callF T (k + 2) q.pic [.ref a] s = .ok (.int t) (s.set l (.lst (iD z)))) ∨ ((∀ z ∈ qs, z = []) ∧ callF T (k + 2) q.pic [.ref a] s = .ok .non s) := by
  rw [call_at hP.at_ rfl]
  show (∃ i l t z, Bst qs i ∧ qs[i]? = some (t :: z) ∧ ls[i]? = some l ∧ trimO s (retO (execs (callF T (k + 1)) (picB q) [some (.ref a)] s)) = .ok (.int t) (s.set l (.lst (iD z)))) ∨ (_ ∧ trimO s (retO (execs (callF T (k + 1)) (picB q) [some (.ref a)] s)) = _)
  rcases bes_spec (T := T) (k := k) (q := q) Q with ⟨i, b, e⟩ | ⟨b, e⟩
  · left
    obtain ⟨z, hz, hn⟩ := b.1
    cases z with
    | nil => exact absurd rfl hn
    | cons t z =>
      obtain ⟨l, hl, hs, hr⟩ := Q.get_ hz
      refine ⟨i, l, t, z, b, hz, hl, ?_⟩
      have e1 : execs (callF T (k + 1)) (picB q) [some (.ref a)] s = .rt (.int t) (s.set l (.lst (iD z))) := by
        unfold picB
        simp only [Fe.bind_ok, Fe.bind_exc, Fe.lift_ok, Fe.lift_exc, Fe.seq_nx, Fe.seq_rt, Fe.seq_exc, Fe.v_non, Fe.v_bl, Fe.v_int, Fe.v_str, Fe.v_var, Fe.v_con, Fe.v_bin, Fe.v_neg, Fe.v_cmp, Fe.v_chn, Fe.v_and, Fe.v_or, Fe.v_not, Fe.v_ite, Fe.v_tup, Fe.v_lst, Fe.v_ix, Fe.v_sl, Fe.v_call, Fe.v_bi, Fe.v_isi, Fe.v_me, Fe.v_lc, Fe.v_dct, Fe.v_rev, Fe.v_fld, Fe.v_mt, Fe.v_pr, Fe.v_mk, Fe.v_oinT, Fe.v_oinF, Fe.v_inV, Fe.v_olen, Fe.v_lenOwn, Fe.v_obool, Fe.v_boolOwn, Fe.v_otru, Fe.v_oix, Fe.v_lrg, Fe.v_trg, Fe.v_ostr, Fe.v_strOwn, Fe.v_asSt, Fe.v_fst, Fe.v_noExc, Fe.v_asBl, Fe.v_asB, Fe.v_asTru, Fe.v_asNon, Fe.o_no, Fe.o_int, Fe.o_var, Fe.o_bin, Fe.o_neg, Fe.o_ite, Fe.asI_int, Fe.t_no, Fe.t_cmp, Fe.t_chn, Fe.t_and, Fe.t_or, Fe.t_not, Fe.t_call, Fe.t_var, Fe.t_isi, Fe.t_bi, Fe.t_oinT, Fe.t_oinF, Fe.t_otru, Fe.t_obool, Fe.t_mt, Fe.t_pr, Fe.t_fld, Fe.t_tru, Fe.sems_nil, Fe.sems_cons, Fe.args_nil, Fe.args_cons, Fe.andV_1, Fe.andV_2, Fe.orV_1, Fe.orV_2, Fe.andT_1, Fe.andT_2, Fe.orT_1, Fe.orT_2, Fe.v_lam, Fe.i_rng, Fe.i_tup, Fe.i_var, Fe.i_fld, Fe.i_mt, Fe.i_oix, Fe.i_enu, Fe.i_call, Fe.x_retN, Fe.x_pass, Fe.x_whl, Fe.x_setf, Fe.x_nil, Fe.x_cons, Fe.x_set, Fe.x_ret, Fe.x_expr, Fe.x_ite, Fe.x_sub, Fe.x_par, Fe.x_asg, Fe.x_for, Fe.x_met, Fe.x_rais, lk_0, lk_s, int_int, add_int, Cm.f, Ar.f, Bi.f, Me.f, Me.T, liftT, List.set_cons_succ, List.set_cons_zero, Q.cl, if_true, e, is_nonV, isNon, Bool.false_eq_true, if_false, Q.fld, ix_lstN Q.getL_ hr, tyL hs, pop0_ok' hs]
      rw [e1]
      exact trim_set rfl flat_ints
  · right
    refine ⟨b, ?_⟩
    have e1 : execs (callF T (k + 1)) (picB q) [some (.ref a)] s = .rt .non s := by
      unfold picB
      simp only [Fe.bind_ok, Fe.bind_exc, Fe.lift_ok, Fe.lift_exc, Fe.seq_nx, Fe.seq_rt, Fe.seq_exc, Fe.v_non, Fe.v_bl, Fe.v_int, Fe.v_str, Fe.v_var, Fe.v_con, Fe.v_bin, Fe.v_neg, Fe.v_cmp, Fe.v_chn, Fe.v_and, Fe.v_or, Fe.v_not, Fe.v_ite, Fe.v_tup, Fe.v_lst, Fe.v_ix, Fe.v_sl, Fe.v_call, Fe.v_bi, Fe.v_isi, Fe.v_me, Fe.v_lc, Fe.v_dct, Fe.v_rev, Fe.v_fld, Fe.v_mt, Fe.v_pr, Fe.v_mk, Fe.v_oinT, Fe.v_oinF, Fe.v_inV, Fe.v_olen, Fe.v_lenOwn, Fe.v_obool, Fe.v_boolOwn, Fe.v_otru, Fe.v_oix, Fe.v_lrg, Fe.v_trg, Fe.v_ostr, Fe.v_strOwn, Fe.v_asSt, Fe.v_fst, Fe.v_noExc, Fe.v_asBl, Fe.v_asB, Fe.v_asTru, Fe.v_asNon, Fe.o_no, Fe.o_int, Fe.o_var, Fe.o_bin, Fe.o_neg, Fe.o_ite, Fe.asI_int, Fe.t_no, Fe.t_cmp, Fe.t_chn, Fe.t_and, Fe.t_or, Fe.t_not, Fe.t_call, Fe.t_var, Fe.t_isi, Fe.t_bi, Fe.t_oinT, Fe.t_oinF, Fe.t_otru, Fe.t_obool, Fe.t_mt, Fe.t_pr, Fe.t_fld, Fe.t_tru, Fe.sems_nil, Fe.sems_cons, Fe.args_nil, Fe.args_cons, Fe.andV_1, Fe.andV_2, Fe.orV_1, Fe.orV_2, Fe.andT_1, Fe.andT_2, Fe.orT_1, Fe.orT_2, Fe.v_lam, Fe.i_rng, Fe.i_tup, Fe.i_var, Fe.i_fld, Fe.i_mt, Fe.i_oix, Fe.i_enu, Fe.i_call, Fe.x_retN, Fe.x_pass, Fe.x_whl, Fe.x_setf, Fe.x_nil, Fe.x_cons, Fe.x_set, Fe.x_ret, Fe.x_expr, Fe.x_ite, Fe.x_sub, Fe.x_par, Fe.x_asg, Fe.x_for, Fe.x_met, Fe.x_rais, lk_0, lk_s, int_int, add_int, Cm.f, Ar.f, Bi.f, Me.f, Me.T, liftT, List.set_cons_succ, List.set_cons_zero, Q.cl, if_true, e, is_nonV, isNon]
    rw [e1]
    exact trim_id rfl
end
end Fe

set_option maxHeartbeats 4000000
/-! Fe S: the class Queues: a new one. -/
namespace Fe
open PySem PySem.Spec PyProof.Rows
open L2 (atI ixN)
section
variable {T : List Fd} {q : QI} {k : Nat} {s g : S} {a L : Nat} {ls : List Nat} {qs : List (List Int)} {t : Int}
theorem live_n' (ds : List D) (s : S) : Src.live ⟨ds, none⟩ s = true := rfl
theorem src_1 {n : Int} (h : rngOk n = true) : srcR [.int n] s = .ok ⟨rangeD 0 n.toNat, none⟩ s := by
  unfold srcR src1
  dsimp only
  rw [if_pos h]
theorem src_2 {n m : Int} (h : (rngOk n && rngOk m) = true) : srcR [.int n, .int m] s = .ok ⟨rangeD n (m - n).toNat, none⟩ s := by
  unfold srcR src2
  dsimp only
  rw [if_pos h]
theorem rng_small {n : Nat} (h : n ≤ 1000) : rngOk (n : Int) = true := by
  unfold rngOk
  rw [Bool.and_eq_true]
  exact ⟨decide_eq_true (by omega), decide_eq_true (by omega)⟩
/-- a queue that grows -/
def gq (s : S) (n : Nat) : S := s ++ [O.ins Qc []] ++ (O.lst ((List.range n).map fun i => D.ref (s.length + 2 + i)) :: List.replicate n (O.lst []))
theorem gq_at {n : Nat} : (gq s n)[s.length + 1]? = some (O.lst ((List.range n).map fun i => D.ref (s.length + 2 + i))) := by
  unfold gq
  have hl : (s ++ [O.ins Qc []]).length = s.length + 1 := by simp
  rw [List.getElem?_append_right (by rw [hl]; exact Nat.le_refl _), hl, Nat.sub_self]; rfl
theorem gq_len {n : Nat} : (gq s n).length = s.length + 2 + n := by
  unfold gq; simp; omega
theorem gq_push {n : Nat} (h : n ≤ 3) : pushAt (s.length + 1) (.ref (gq s n).length) (gq s n ++ [O.lst []]) = some (gq s (n + 1)) := by
  unfold pushAt
  rw [at_app gq_at]
  dsimp only
  rw [if_pos (by rw [List.length_map, List.length_range]; unfold line; omega), gq_len]
  congr 1
  unfold gq
  have hl : (s ++ [O.ins Qc []]).length = s.length + 1 := by simp
  rw [List.append_assoc, List.set_append_right _ _ (by rw [hl]; exact Nat.le_refl _), hl, Nat.sub_self]
  congr 1
  show O.lst _ :: (List.replicate n (O.lst []) ++ [O.lst []]) = O.lst _ :: List.replicate (n + 1) (O.lst [])
  rw [← List.replicate_succ', List.range_succ, List.map_append]
  rfl
section
variable {Γ : Nat → List D → S → Out D} {live : S → Bool} {m : Nat}
theorem gq_turn (lv : ∀ s, live s = true) (d : D) (ds : List D) (n : Nat) (hn : n ≤ 3) : lcW live (bnd (.nm 2)) (sem Γ .no).t (sem Γ (.lst [])).v [some (D.ref s.length), some (D.int m), none] (s.length + 1) (d :: ds) (gq s n) =
      lcW live (bnd (.nm 2)) (sem Γ .no).t (sem Γ (.lst [])).v [some (D.ref s.length), some (D.int m), none] (s.length + 1) ds (gq s (n + 1)) := by
  conv => lhs; unfold lcW
  rw [if_pos (lv _)]
  have b1 : bnd (.nm 2) d [some (D.ref s.length), some (D.int m), none] (gq s n) = some ([some (D.ref s.length), some (D.int m), some d], gq s n) := rfl
  rw [b1]
  dsimp only
  rw [t_no]
  dsimp only
  rw [v_lst, sems_nil, args_nil, bind_ok, mkL_nil]
  dsimp only
  rw [gq_push hn]
theorem gq_stop (lv : ∀ s, live s = true) (n : Nat) : lcW live (bnd (.nm 2)) (sem Γ .no).t (sem Γ (.lst [])).v [some (D.ref s.length), some (D.int m), none] (s.length + 1) [] (gq s n) = .ok () (gq s n) := by
  unfold lcW
  rw [if_pos (lv _)]
theorem gq_go (lv : ∀ s, live s = true) : ∀ (ds : List D) (n : Nat), n + ds.length ≤ 4 → lcW live (bnd (.nm 2)) (sem Γ .no).t (sem Γ (.lst [])).v [some (D.ref s.length), some (D.int m), none] (s.length + 1) ds (gq s n) = .ok () (gq s (n + ds.length))
  | [], n, _ => gq_stop lv n
  | d :: ds, n, h => by
    rw [List.length_cons] at h
    rw [gq_turn lv d ds n (by omega), gq_go lv ds (n + 1) (by omega), List.length_cons]
    congr 2
    omega
theorem rangeD_len {lo : Int} {n : Nat} : (rangeD lo n).length = n := by unfold rangeD; simp
theorem gq_zero : s ++ [O.ins Qc []] ++ [O.lst []] = gq s 0 := rfl
theorem len_1 {o : O} : (s ++ [o]).length = s.length + 1 := by simp
end
theorem mk_hi {Γ : Nat → List D → S → Out D} {m : Nat} (h2 : m ≤ 3) : (sem Γ (.rng [(.var 1)])).i [some (.ref s.length), some (.int m), none] (s ++ [O.ins Qc []]) = .ok ⟨rangeD 0 (m : Int).toNat, none⟩ (s ++ [O.ins Qc []]) := by
  have h : rngOk (m : Int) = true := rng_small (Nat.le_trans h2 (by decide))
  have e : argsV (sems Γ [(.var 1)]) [some (.ref s.length), some (.int m), none] (s ++ [O.ins Qc []]) = .ok [.int m] (s ++ [O.ins Qc []]) := by
    simp only [sems_cons, sems_nil, args_cons, args_nil, v_var, lk_s, lk_0, bind_ok]
  rw [i_rng, e, bind_ok, src_1 h]
theorem mk_go {Γ : Nat → List D → S → Out D} {m : Nat} (h2 : m ≤ 3) : lcW (Src.live ⟨rangeD 0 (m : Int).toNat, none⟩) (bnd (.nm 2)) (sem Γ .no).t (sem Γ (.lst [])).v [some (D.ref s.length), some (D.int m), none] (s.length + 1) (rangeD 0 (m : Int).toNat) (s ++ [O.ins Qc []] ++ [O.lst []]) = .ok () (gq s m) := by
  have hl : (rangeD 0 (m : Int).toNat).length = m := by rw [rangeD_len]; exact Int.toNat_natCast m
  have go := gq_go (Γ := Γ) (s := s) (m := m) (live := Src.live ⟨rangeD 0 (m : Int).toNat, none⟩) (fun s => live_n' _ s) (rangeD 0 (m : Int).toNat) 0 (by rw [hl]; omega)
  rw [hl, Nat.zero_add] at go
  rw [gq_zero]
  exact go
theorem lcV_eq {fi : Env → S → Out Src} {bind : D → Env → S → TOut} {ft : Env → S → Out Bool} {fe : Env → S → Out D} {own : List Nat} {ρ ρ' : Env} {c : Src} {s' : S} {n : Nat} (hi : fi ρ s = .ok c s) (hw : wipeE ρ own = ρ') (hn : s.length = n) (h : lcW c.live bind ft fe ρ' n c.ds (s ++ [O.lst []]) = .ok () s') : lcV fi bind ft fe own ρ s = .ok (.ref n) s' := by
  unfold lcV
  rw [hi, bind_ok, hw, hn, h]
theorem mk_lc {Γ : Nat → List D → S → Out D} {m : Nat} (h1 : 1 ≤ m) (h2 : m ≤ 3) : (sem Γ (.lc (.lst []) (.nm 2) (.rng [(.var 1)]) .no [2])).v [some (.ref s.length), some (.int m), none] (s ++ [O.ins Qc []]) = .ok (.ref (s.length + 1)) (gq s m) := by
  rw [v_lc]
  exact lcV_eq (mk_hi h2) rfl len_1 (mk_go h2)
def newQ (n m : Nat) : S := O.ins Qc [.ref (n + 1)] :: O.lst ((List.range m).map fun i => .ref (n + 2 + i)) :: List.replicate m (O.lst [])
theorem mk_set {m : Nat} : setV "own_lists" (.ref s.length) (.ref (s.length + 1)) (gq s m) = some (s ++ newQ s.length m) := by
  unfold setV
  dsimp only
  have e1 : (gq s m)[s.length]? = some (.ins Qc []) := by
    unfold gq
    exact at_app at_end
  rw [e1]
  dsimp only
  rw [if_neg (by decide), if_pos (by decide)]
  congr 1
  unfold gq
  rw [List.append_assoc, List.set_append_right _ _ (Nat.le_refl _), Nat.sub_self]
  rfl
theorem ini_spec [hI : Has T q.isI (isIF q)] [hM : Has T q.ini (iniF q)] {m : Nat} (h1 : 1 ≤ m) (h2 : m ≤ 3) : callF T (k + 2) q.ini [.ref s.length, .int m] (s ++ [O.ins Qc []]) = .ok .non (s ++ newQ s.length m) := by
  rw [call_at hM.at_ rfl]
  show trimO (s ++ [O.ins Qc []]) (retO (execs (callF T (k + 1)) (iniB q) [some (D.ref s.length), some (D.int m), none] (s ++ [O.ins Qc []]))) = _
  have e : execs (callF T (k + 1)) (iniB q) [some (D.ref s.length), some (D.int m), none] (s ++ [O.ins Qc []]) = .nx [some (D.ref s.length), some (D.int m), none] (s ++ newQ s.length m) := by
    unfold iniB
    have i1 : decide (1 ≤ (m : Int)) = true := decide_eq_true (by omega)
    have i2 : decide ((m : Int) ≤ 3) = true := decide_eq_true (by omega)
    have c1 : callF T (k + 1) q.isI [.int m] (s ++ [O.ins Qc []]) = .ok (.bl true) (s ++ [O.ins Qc []]) := isI_spec (by unfold Big; omega) (big_lt (by omega))
    have t1 : (sem (callF T (k + 1)) (.or [(.not (.call q.isI [(.var 1)])), (.not (.chn .le .le (.int 1) (.var 1) (.con q.cM (.int 3))))])).t [some (D.ref s.length), some (D.int m), none] (s ++ [O.ins Qc []]) = .ok false (s ++ [O.ins Qc []]) := by
      simp only [Fe.bind_ok, Fe.bind_exc, Fe.lift_ok, Fe.lift_exc, Fe.seq_nx, Fe.seq_rt, Fe.seq_exc, Fe.v_non, Fe.v_bl, Fe.v_int, Fe.v_str, Fe.v_var, Fe.v_con, Fe.v_bin, Fe.v_neg, Fe.v_cmp, Fe.v_chn, Fe.v_and, Fe.v_or, Fe.v_not, Fe.v_ite, Fe.v_tup, Fe.v_lst, Fe.v_ix, Fe.v_sl, Fe.v_call, Fe.v_bi, Fe.v_isi, Fe.v_me, Fe.v_lc, Fe.v_dct, Fe.v_rev, Fe.v_fld, Fe.v_mt, Fe.v_pr, Fe.v_mk, Fe.v_oinT, Fe.v_oinF, Fe.v_inV, Fe.v_olen, Fe.v_lenOwn, Fe.v_obool, Fe.v_boolOwn, Fe.v_otru, Fe.v_oix, Fe.v_lrg, Fe.v_trg, Fe.v_ostr, Fe.v_strOwn, Fe.v_asSt, Fe.v_fst, Fe.v_noExc, Fe.v_asBl, Fe.v_asB, Fe.v_asTru, Fe.v_asNon, Fe.o_no, Fe.o_int, Fe.o_var, Fe.o_bin, Fe.o_neg, Fe.o_ite, Fe.asI_int, Fe.t_no, Fe.t_cmp, Fe.t_chn, Fe.t_and, Fe.t_or, Fe.t_not, Fe.t_call, Fe.t_var, Fe.t_isi, Fe.t_bi, Fe.t_oinT, Fe.t_oinF, Fe.t_otru, Fe.t_obool, Fe.t_mt, Fe.t_pr, Fe.t_fld, Fe.t_tru, Fe.sems_nil, Fe.sems_cons, Fe.args_nil, Fe.args_cons, Fe.andV_1, Fe.andV_2, Fe.orV_1, Fe.orV_2, Fe.andT_1, Fe.andT_2, Fe.orT_1, Fe.orT_2, Fe.v_lam, Fe.i_rng, Fe.i_tup, Fe.i_var, Fe.i_fld, Fe.i_mt, Fe.i_oix, Fe.i_enu, Fe.i_call, Fe.x_retN, Fe.x_pass, Fe.x_whl, Fe.x_setf, Fe.x_nil, Fe.x_cons, Fe.x_set, Fe.x_ret, Fe.x_expr, Fe.x_ite, Fe.x_sub, Fe.x_par, Fe.x_asg, Fe.x_for, Fe.x_met, Fe.x_rais, lk_0, lk_s, int_int, add_int, Cm.f, Ar.f, Bi.f, Me.f, Me.T, liftT, List.set_cons_succ, List.set_cons_zero, c1, Bool.not_true, Bool.false_eq_true, if_false, le_i, i1, i2, if_true]
    have t2 := mk_lc (Γ := callF T (k + 1)) (s := s) h1 h2
    rw [x_cons, x_ite, t1, lift_ok, if_neg (by decide), x_nil, seq_nx, x_cons, x_setf, t2, lift_ok, v_var, lk_0, lift_ok, mk_set]
    rfl
  rw [e]
  show trimO (s ++ [O.ins Qc []]) (.ok .non (s ++ newQ s.length m)) = _
  unfold trimO trim
  dsimp only
  rw [if_neg]
  intro h
  simp only [Bool.and_eq_true] at h
  have h3 := h.2.2
  have e2 : (s ++ newQ s.length m)[s.length]? = some (.ins Qc [.ref (s.length + 1)]) := by
    rw [List.getElem?_append_right (Nat.le_refl _), Nat.sub_self]; rfl
  rcases sameOr_at h3 (by simp) e2 with h4 | h4
  · rw [at_end] at h4
    cases h4
  · cases h4
theorem mk_spec [hI : Has T q.isI (isIF q)] [hM : Has T q.ini (iniF q)] {m : Nat} (h1 : 1 ≤ m) (h2 : m ≤ 3) : mkV Qc (callF T (k + 2) q.ini) [.int m] s = .ok (.ref s.length) (s ++ newQ s.length m) := by
  unfold mkV
  rw [ini_spec h1 h2]
  rfl
theorem newQ_at {m : Nat} (h2 : m ≤ 3) : QAt (s ++ newQ s.length m) s.length (s.length + 1) ((List.range m).map fun i => s.length + 2 + i) (List.replicate m []) := by
  have hi : ∀ j, (s ++ newQ s.length m)[s.length + j]? = (newQ s.length m)[j]? := fun j => by
    rw [List.getElem?_append_right (by omega), Nat.add_sub_cancel_left]
  have h0 := hi 0
  rw [Nat.add_zero] at h0
  refine ⟨by rw [h0]; rfl, by rw [hi]; show some (O.lst _) = _; rw [List.map_map]; rfl, by simp, by simpa using h2, fun i l z e1 e2 => ?_, ?_⟩
  · rw [List.getElem?_map] at e1
    obtain ⟨j, hj, rfl⟩ := Option.map_eq_some_iff.mp e1
    have hj' := List.getElem?_eq_some_iff.mp hj
    obtain ⟨hj1, hj2⟩ := hj'
    rw [List.length_range] at hj1
    rw [List.getElem_range] at hj2
    subst hj2
    rw [List.getElem?_replicate, if_pos hj1] at e2
    cases e2
    rw [Nat.add_assoc, hi]
    show (O.ins Qc [.ref (s.length + 1)] :: O.lst _ :: List.replicate m (O.lst []))[2 + i]? = _
    rw [show 2 + i = i + 1 + 1 by omega, List.getElem?_cons_succ, List.getElem?_cons_succ, List.getElem?_replicate, if_pos hj1]
    rfl
  · simp only [List.nodup_cons, List.mem_cons, List.mem_map, List.mem_range, not_or]
    refine ⟨⟨by omega, ?_⟩, ?_, ?_⟩
    · rintro ⟨j, _, e⟩; omega
    · rintro ⟨j, _, e⟩; omega
    · rw [List.Nodup, List.pairwise_map]
      exact List.Pairwise.imp (fun {a b} h => by omega) List.nodup_range
end
end Fe

set_option maxHeartbeats 4000000
/-! Fe T: the laws' mixed and some. -/
namespace Fe
open PySem PySem.Spec PyProof.Rows
open L2 (atI ixN)
def mixedB (r : Nat) : List St := [(.par [2, 3] [(.bi .lst [(.var 1)]), (.lst [])]),
    (.whl 100000 (.cmp .ne (.var 2) (.lst [])) [(.expr (.me .append (.var 3) [(.me .popAt (.var 2) [(.call r [(.var 0), (.bi .len [(.var 2)])])])]))]),
    (.ret (.var 3))]
def someB (mx r : Nat) : List St := [(.par [4, 5] [(.bi .min [(.var 2), (.bi .len [(.var 1)])]), (.bi .min [(.var 3), (.bi .len [(.var 1)])])]),
    (.ret (.sl (.call mx [(.var 0), (.var 1)]) .no (.bin .add (.var 4) (.call r [(.var 0), (.bin .add (.bin .sub (.var 5) (.var 4)) (.int 1))]))))]
def rollF : Fd := ⟨"_law_roll", ["_law_dice_here", "_law_upto"], ["_law_dice_here", "_law_upto", "_law_one", "_law_two", "_law_found"], rollB, .fn⟩
/-- two lists behind the dice's store -/
def wd (s : S) (d : Nat) (o : O) (l f : List Int) (g : S) : S := s.set d o ++ (O.lst (iD l) :: O.lst (iD f) :: g)
section
variable {T : List Fd} {k mx r d j : Nat} {s g : S} {o o' : O} {l f q : List Int}
theorem wd_d (h : d < s.length) : (wd s d o l f g).set d o' = wd s d o' l f g := by
  unfold wd
  rw [List.set_append_left _ _ (by simpa using h), List.set_set]
theorem wd_0 : (wd s d o l f g)[s.length]? = some (O.lst (iD l)) := by
  unfold wd
  rw [List.getElem?_append_right (by simp)]
  simp
theorem wd_1 : (wd s d o l f g)[s.length + 1]? = some (O.lst (iD f)) := by
  unfold wd
  rw [List.getElem?_append_right (by simp)]
  simp
theorem wd_s0 {l' : List Int} : (wd s d o l f g).set s.length (.lst (iD l')) = wd s d o l' f g := by
  unfold wd
  rw [List.set_append_right _ _ (by simp)]
  simp
theorem wd_s1 {f' : List Int} : (wd s d o l f g).set (s.length + 1) (.lst (iD f')) = wd s d o l f' g := by
  unfold wd
  rw [List.set_append_right _ _ (by simp)]
  simp
theorem wd_app {g' : S} : wd s d o l f g ++ g' = wd s d o l f (g ++ g') := by unfold wd; simp
theorem wd_dice (h : Dice (s.set d o) d) : Dice (wd s d o l f g) d := h.app
theorem dice_wd (h : d < s.length) (q : Dice (wd s d o l f g) d) : Dice (s.set d o) d := by
  obtain ⟨a, b, c, e⟩ := q
  refine ⟨a, b, c, ?_⟩
  unfold wd at e
  rw [List.getElem?_append_left (by simpa using h)] at e
  exact e
theorem dice_o (hs : Dice s d) : ∃ o, s = s.set d o ∧ Dice (s.set d o) d := by
  obtain ⟨a, b, c, e⟩ := hs
  have hl := at_lt e
  refine ⟨_, ?_, a, b, c, List.getElem?_set_self hl⟩
  apply List.ext_getElem?
  intro i
  by_cases h : d = i
  · subst h
    rw [List.getElem?_set_self hl, e]
  · rw [List.getElem?_set_ne h]
theorem tyL0 {i : Nat} {ds : List D} (h : s[i]? = some (.lst ds)) : tyIs "list" s (.ref i) = true := tyIs_lst h
theorem erase_perm : ∀ {l : List Int} {i : Nat} (h : i < l.length), (l[i] :: l.eraseIdx i).Perm l
  | [], i, h => by simp at h
  | a :: l, 0, _ => List.Perm.refl _
  | a :: l, i + 1, h => by
    have h' : i < l.length := by simpa using h
    show (l[i] :: a :: l.eraseIdx i).Perm (a :: l)
    exact (List.Perm.swap a l[i] _).trans ((erase_perm h').cons a)
theorem mixed_loop {ρ0 : List (Option D)} (hr : T[r]? = some rollF) (hd : d < s.length) : ∀ (n : Nat) (l f : List Int) (o : O) (g : S) (b : Nat), l.length = n → n < b → l.length + f.length ≤ 1000 → Dice (s.set d o) d →
    ∃ o' f' g', Dice (s.set d o') d ∧ f'.Perm (l ++ f) ∧
      whW (sem (callF T (k + 1)) (.cmp .ne (.var 2) (.lst []))).t (execs (callF T (k + 1)) [(.expr (.me .append (.var 3) [(.me .popAt (.var 2) [(.call r [(.var 0), (.bi .len [(.var 2)])])])]))]) b
        [some (.ref d), some (.ref j), some (.ref s.length), some (.ref (s.length + 1))] (wd s d o l f g) = .nx [some (.ref d), some (.ref j), some (.ref s.length), some (.ref (s.length + 1))] (wd s d o' [] f' g') := by
  intro n
  induction n with
  | zero =>
    intro l f o g b hl hb hn hD
    have e : l = [] := List.length_eq_zero_iff.mp hl
    subst e
    cases b with
    | zero => omega
    | succ b =>
      refine ⟨o, f, g ++ [O.lst []], hD, List.Perm.refl _, ?_⟩
      have t : (sem (callF T (k + 1)) (.cmp .ne (.var 2) (.lst []))).t [some (.ref d), some (.ref j), some (.ref s.length), some (.ref (s.length + 1))] (wd s d o [] f g) = .ok false (wd s d o [] f (g ++ [O.lst []])) := by
        have nn : opNe (.ref s.length) (.ref (wd s d o [] f g).length) (wd s d o [] f g ++ [.lst []]) = .ok (.bl (!decide (([] : List Int) = []))) _ := ne_lstI (getL_app (getL_lst wd_0)) (getL_end (ds := []))
        rw [wd_app] at nn
        simp only [Fe.bind_ok, Fe.bind_exc, Fe.lift_ok, Fe.lift_exc, Fe.seq_nx, Fe.seq_rt, Fe.seq_exc, Fe.v_non, Fe.v_bl, Fe.v_int, Fe.v_str, Fe.v_var, Fe.v_con, Fe.v_bin, Fe.v_neg, Fe.v_cmp, Fe.v_chn, Fe.v_and, Fe.v_or, Fe.v_not, Fe.v_ite, Fe.v_tup, Fe.v_lst, Fe.v_ix, Fe.v_sl, Fe.v_call, Fe.v_bi, Fe.v_isi, Fe.v_me, Fe.v_lc, Fe.v_dct, Fe.v_rev, Fe.v_fld, Fe.v_mt, Fe.v_pr, Fe.v_mk, Fe.v_oinT, Fe.v_oinF, Fe.v_inV, Fe.v_olen, Fe.v_lenOwn, Fe.v_obool, Fe.v_boolOwn, Fe.v_otru, Fe.v_oix, Fe.v_lrg, Fe.v_trg, Fe.v_ostr, Fe.v_strOwn, Fe.v_asSt, Fe.v_fst, Fe.v_noExc, Fe.v_asBl, Fe.v_asB, Fe.v_asTru, Fe.v_asNon, Fe.o_no, Fe.o_int, Fe.o_var, Fe.o_bin, Fe.o_neg, Fe.o_ite, Fe.asI_int, Fe.t_no, Fe.t_cmp, Fe.t_chn, Fe.t_and, Fe.t_or, Fe.t_not, Fe.t_call, Fe.t_var, Fe.t_isi, Fe.t_bi, Fe.t_oinT, Fe.t_oinF, Fe.t_otru, Fe.t_obool, Fe.t_mt, Fe.t_pr, Fe.t_fld, Fe.t_tru, Fe.sems_nil, Fe.sems_cons, Fe.args_nil, Fe.args_cons, Fe.andV_1, Fe.andV_2, Fe.orV_1, Fe.orV_2, Fe.andT_1, Fe.andT_2, Fe.orT_1, Fe.orT_2, Fe.v_lam, Fe.i_rng, Fe.i_tup, Fe.i_var, Fe.i_fld, Fe.i_mt, Fe.i_oix, Fe.i_enu, Fe.i_call, Fe.x_retN, Fe.x_pass, Fe.x_whl, Fe.x_setf, Fe.x_nil, Fe.x_cons, Fe.x_set, Fe.x_ret, Fe.x_expr, Fe.x_ite, Fe.x_sub, Fe.x_par, Fe.x_asg, Fe.x_for, Fe.x_met, Fe.x_rais, lk_0, lk_s, int_int, add_int, Cm.f, Ar.f, Bi.f, Me.f, Me.T, liftT, List.set_cons_succ, List.set_cons_zero, mkL_nil, wd_app, nn]
        rfl
      unfold whW
      rw [t, lift_ok, if_neg (by decide)]
  | succ n ih =>
    intro l f o g b hl hb hn hD
    cases b with
    | zero => omega
    | succ b =>
      have ne : l ≠ [] := fun e => by rw [e] at hl; cases hl
      have t : (sem (callF T (k + 1)) (.cmp .ne (.var 2) (.lst []))).t [some (.ref d), some (.ref j), some (.ref s.length), some (.ref (s.length + 1))] (wd s d o l f g) = .ok true (wd s d o l f (g ++ [O.lst []])) := by
        have nn : opNe (.ref s.length) (.ref (wd s d o l f g).length) (wd s d o l f g ++ [.lst []]) = .ok (.bl (!decide (l = []))) _ := ne_lstI (getL_app (getL_lst wd_0)) (getL_end (ds := []))
        rw [wd_app, decide_eq_false ne] at nn
        simp only [Fe.bind_ok, Fe.bind_exc, Fe.lift_ok, Fe.lift_exc, Fe.seq_nx, Fe.seq_rt, Fe.seq_exc, Fe.v_non, Fe.v_bl, Fe.v_int, Fe.v_str, Fe.v_var, Fe.v_con, Fe.v_bin, Fe.v_neg, Fe.v_cmp, Fe.v_chn, Fe.v_and, Fe.v_or, Fe.v_not, Fe.v_ite, Fe.v_tup, Fe.v_lst, Fe.v_ix, Fe.v_sl, Fe.v_call, Fe.v_bi, Fe.v_isi, Fe.v_me, Fe.v_lc, Fe.v_dct, Fe.v_rev, Fe.v_fld, Fe.v_mt, Fe.v_pr, Fe.v_mk, Fe.v_oinT, Fe.v_oinF, Fe.v_inV, Fe.v_olen, Fe.v_lenOwn, Fe.v_obool, Fe.v_boolOwn, Fe.v_otru, Fe.v_oix, Fe.v_lrg, Fe.v_trg, Fe.v_ostr, Fe.v_strOwn, Fe.v_asSt, Fe.v_fst, Fe.v_noExc, Fe.v_asBl, Fe.v_asB, Fe.v_asTru, Fe.v_asNon, Fe.o_no, Fe.o_int, Fe.o_var, Fe.o_bin, Fe.o_neg, Fe.o_ite, Fe.asI_int, Fe.t_no, Fe.t_cmp, Fe.t_chn, Fe.t_and, Fe.t_or, Fe.t_not, Fe.t_call, Fe.t_var, Fe.t_isi, Fe.t_bi, Fe.t_oinT, Fe.t_oinF, Fe.t_otru, Fe.t_obool, Fe.t_mt, Fe.t_pr, Fe.t_fld, Fe.t_tru, Fe.sems_nil, Fe.sems_cons, Fe.args_nil, Fe.args_cons, Fe.andV_1, Fe.andV_2, Fe.orV_1, Fe.orV_2, Fe.andT_1, Fe.andT_2, Fe.orT_1, Fe.orT_2, Fe.v_lam, Fe.i_rng, Fe.i_tup, Fe.i_var, Fe.i_fld, Fe.i_mt, Fe.i_oix, Fe.i_enu, Fe.i_call, Fe.x_retN, Fe.x_pass, Fe.x_whl, Fe.x_setf, Fe.x_nil, Fe.x_cons, Fe.x_set, Fe.x_ret, Fe.x_expr, Fe.x_ite, Fe.x_sub, Fe.x_par, Fe.x_asg, Fe.x_for, Fe.x_met, Fe.x_rais, lk_0, lk_s, int_int, add_int, Cm.f, Ar.f, Bi.f, Me.f, Me.T, liftT, List.set_cons_succ, List.set_cons_zero, mkL_nil, wd_app, nn]
        rfl
      have dd := wd_dice (s := s) (l := l) (f := f) (g := g ++ [O.lst []]) hD
      obtain ⟨z, o1, z0, z1, d1, e1⟩ := roll_spec (T := T) (k := k) (f := r) (u := (l.length : Int)) hr rfl rfl dd (by omega) (by omega)
      rw [wd_d hd] at e1 d1
      obtain ⟨z, rfl⟩ : ∃ m : Nat, z = (m : Int) := ⟨z.toNat, by omega⟩
      have hzl : z < l.length := by omega
      have gz : (iD l)[z]? = some (.int l[z]) := by rw [List.getElem?_map, List.getElem?_eq_getElem hzl]; rfl
      have step : execs (callF T (k + 1)) [(.expr (.me .append (.var 3) [(.me .popAt (.var 2) [(.call r [(.var 0), (.bi .len [(.var 2)])])])]))] [some (.ref d), some (.ref j), some (.ref s.length), some (.ref (s.length + 1))] (wd s d o l f (g ++ [O.lst []])) =
          .nx [some (.ref d), some (.ref j), some (.ref s.length), some (.ref (s.length + 1))] (wd s d o1 (l.eraseIdx z) (f ++ [l[z]]) (g ++ [O.lst []])) := by
        have p1 : mePopAt (.ref s.length) [.int z] (wd s d o1 l f (g ++ [O.lst []])) = .ok (.int l[z]) (wd s d o1 (l.eraseIdx z) f (g ++ [O.lst []])) := by
          rw [popN_ok' wd_0 gz (by omega), ints_eraseIdx, wd_s0]
        have a1 : meAppend (.ref (s.length + 1)) [.int l[z]] (wd s d o1 (l.eraseIdx z) f (g ++ [O.lst []])) = .ok .non (wd s d o1 (l.eraseIdx z) (f ++ [l[z]]) (g ++ [O.lst []])) := by
          rw [append_ok' wd_1 (by rw [List.length_map]; unfold line; omega)]
          show Out.ok D.non ((wd s d o1 (l.eraseIdx z) f (g ++ [O.lst []])).set (s.length + 1) (.lst (iD f ++ iD [l[z]]))) = _
          rw [← List.map_append, wd_s1]
        have hlen : biLen [.ref s.length] (wd s d o l f (g ++ [O.lst []])) = .ok (.int l.length) (wd s d o l f (g ++ [O.lst []])) := by
          rw [len_lstN (getL_lst wd_0), List.length_map]
        simp only [Fe.bind_ok, Fe.bind_exc, Fe.lift_ok, Fe.lift_exc, Fe.seq_nx, Fe.seq_rt, Fe.seq_exc, Fe.v_non, Fe.v_bl, Fe.v_int, Fe.v_str, Fe.v_var, Fe.v_con, Fe.v_bin, Fe.v_neg, Fe.v_cmp, Fe.v_chn, Fe.v_and, Fe.v_or, Fe.v_not, Fe.v_ite, Fe.v_tup, Fe.v_lst, Fe.v_ix, Fe.v_sl, Fe.v_call, Fe.v_bi, Fe.v_isi, Fe.v_me, Fe.v_lc, Fe.v_dct, Fe.v_rev, Fe.v_fld, Fe.v_mt, Fe.v_pr, Fe.v_mk, Fe.v_oinT, Fe.v_oinF, Fe.v_inV, Fe.v_olen, Fe.v_lenOwn, Fe.v_obool, Fe.v_boolOwn, Fe.v_otru, Fe.v_oix, Fe.v_lrg, Fe.v_trg, Fe.v_ostr, Fe.v_strOwn, Fe.v_asSt, Fe.v_fst, Fe.v_noExc, Fe.v_asBl, Fe.v_asB, Fe.v_asTru, Fe.v_asNon, Fe.o_no, Fe.o_int, Fe.o_var, Fe.o_bin, Fe.o_neg, Fe.o_ite, Fe.asI_int, Fe.t_no, Fe.t_cmp, Fe.t_chn, Fe.t_and, Fe.t_or, Fe.t_not, Fe.t_call, Fe.t_var, Fe.t_isi, Fe.t_bi, Fe.t_oinT, Fe.t_oinF, Fe.t_otru, Fe.t_obool, Fe.t_mt, Fe.t_pr, Fe.t_fld, Fe.t_tru, Fe.sems_nil, Fe.sems_cons, Fe.args_nil, Fe.args_cons, Fe.andV_1, Fe.andV_2, Fe.orV_1, Fe.orV_2, Fe.andT_1, Fe.andT_2, Fe.orT_1, Fe.orT_2, Fe.v_lam, Fe.i_rng, Fe.i_tup, Fe.i_var, Fe.i_fld, Fe.i_mt, Fe.i_oix, Fe.i_enu, Fe.i_call, Fe.x_retN, Fe.x_pass, Fe.x_whl, Fe.x_setf, Fe.x_nil, Fe.x_cons, Fe.x_set, Fe.x_ret, Fe.x_expr, Fe.x_ite, Fe.x_sub, Fe.x_par, Fe.x_asg, Fe.x_for, Fe.x_met, Fe.x_rais, lk_0, lk_s, int_int, add_int, Cm.f, Ar.f, Bi.f, Me.f, Me.T, liftT, List.set_cons_succ, List.set_cons_zero, tyL0 (s := wd s d o l f (g ++ [O.lst []])) wd_1, tyL0 (s := wd s d o l f (g ++ [O.lst []])) wd_0, if_true, hlen, e1, p1, a1]
      obtain ⟨o2, f2, g2, d2, p2, e2⟩ := ih (l.eraseIdx z) (f ++ [l[z]]) o1 (g ++ [O.lst []]) b (by rw [List.length_eraseIdx_of_lt hzl]; omega) (by omega) (by rw [List.length_eraseIdx_of_lt hzl, List.length_append, List.length_singleton]; omega) (dice_wd hd d1)
      have pm : (l.eraseIdx z ++ (f ++ [l[z]])).Perm (l ++ f) := by
        have h1 : (l.eraseIdx z ++ (f ++ [l[z]])).Perm (l[z] :: (l.eraseIdx z ++ f)) := by
          rw [← List.append_assoc]
          exact List.perm_append_comm.trans (List.Perm.refl _)
        exact h1.trans ((erase_perm hzl).append_right f)
      refine ⟨o2, f2, g2, d2, p2.trans pm, ?_⟩
      unfold whW
      rw [t, lift_ok, if_pos rfl, step]
      exact e2
theorem dice_same {o : O} (h : Dice (s.set d o) d) : sameOr s (s.set d o) = true := sameOr_of fun i hi => by
  by_cases e : d = i
  · subst e
    obtain ⟨a, b, c, e⟩ := h
    exact .inr ⟨_, e, rfl⟩
  · exact .inl (List.getElem?_set_ne e)
theorem mixed_perm {nm : Str} {ps N : List Str} (hr : T[r]? = some rollF) (hm : T[mx]? = some ⟨nm, ps, N, mixedB r, .fn⟩) (hp : ps.length = 2) (hN : N.length = 4) (hs : Dice s d) (hj : s[j]? = some (.lst (iD q))) (hq : q.length ≤ 1000) :
    ∃ o f, Dice (s.set d o) d ∧ f.Perm q ∧ callF T (k + 2) mx [.ref d, .ref j] s = .ok (.ref s.length) (s.set d o ++ [.lst (iD f)]) := by
  have hd := hs.lt
  obtain ⟨o, eo, ho⟩ := dice_o hs
  obtain ⟨o', f', g', h1, h2, h3⟩ := mixed_loop (k := k) (j := j) (T := T) (r := r) (ρ0 := []) hr hd q.length q [] o [] 100000 rfl (by omega) (by simpa using hq) ho
  refine ⟨o', f', h1, by simpa using h2, ?_⟩
  rw [call_at hm (by simp [hp])]
  have e0 : start' N.length [.ref d, .ref j] = [some (.ref d), some (.ref j), none, none] := by rw [hN]; rfl
  show trimO s (retO (execs (callF T (k + 1)) (mixedB r) (start' N.length [.ref d, .ref j]) s)) = _
  rw [e0]
  have go : execs (callF T (k + 1)) (mixedB r) [some (.ref d), some (.ref j), none, none] s = .rt (.ref (s.length + 1)) (wd s d o' [] f' g') := by
    unfold mixedB
    have bl : biLst [.ref j] s = .ok (.ref s.length) (s ++ [.lst (iD q)]) := by
      show (match getL s j with | some ds => _ | none => _) = _
      rw [getL_lst hj]
    have st : s ++ [O.lst (iD q)] ++ [O.lst []] = wd s d o q [] [] := by
      unfold wd
      rw [← eo, List.append_assoc]; rfl
    have ll : (s ++ [O.lst (iD q)]).length = s.length + 1 := by simp
    simp only [Fe.bind_ok, Fe.bind_exc, Fe.lift_ok, Fe.lift_exc, Fe.seq_nx, Fe.seq_rt, Fe.seq_exc, Fe.v_non, Fe.v_bl, Fe.v_int, Fe.v_str, Fe.v_var, Fe.v_con, Fe.v_bin, Fe.v_neg, Fe.v_cmp, Fe.v_chn, Fe.v_and, Fe.v_or, Fe.v_not, Fe.v_ite, Fe.v_tup, Fe.v_lst, Fe.v_ix, Fe.v_sl, Fe.v_call, Fe.v_bi, Fe.v_isi, Fe.v_me, Fe.v_lc, Fe.v_dct, Fe.v_rev, Fe.v_fld, Fe.v_mt, Fe.v_pr, Fe.v_mk, Fe.v_oinT, Fe.v_oinF, Fe.v_inV, Fe.v_olen, Fe.v_lenOwn, Fe.v_obool, Fe.v_boolOwn, Fe.v_otru, Fe.v_oix, Fe.v_lrg, Fe.v_trg, Fe.v_ostr, Fe.v_strOwn, Fe.v_asSt, Fe.v_fst, Fe.v_noExc, Fe.v_asBl, Fe.v_asB, Fe.v_asTru, Fe.v_asNon, Fe.o_no, Fe.o_int, Fe.o_var, Fe.o_bin, Fe.o_neg, Fe.o_ite, Fe.asI_int, Fe.t_no, Fe.t_cmp, Fe.t_chn, Fe.t_and, Fe.t_or, Fe.t_not, Fe.t_call, Fe.t_var, Fe.t_isi, Fe.t_bi, Fe.t_oinT, Fe.t_oinF, Fe.t_otru, Fe.t_obool, Fe.t_mt, Fe.t_pr, Fe.t_fld, Fe.t_tru, Fe.sems_nil, Fe.sems_cons, Fe.args_nil, Fe.args_cons, Fe.andV_1, Fe.andV_2, Fe.orV_1, Fe.orV_2, Fe.andT_1, Fe.andT_2, Fe.orT_1, Fe.orT_2, Fe.v_lam, Fe.i_rng, Fe.i_tup, Fe.i_var, Fe.i_fld, Fe.i_mt, Fe.i_oix, Fe.i_enu, Fe.i_call, Fe.x_retN, Fe.x_pass, Fe.x_whl, Fe.x_setf, Fe.x_nil, Fe.x_cons, Fe.x_set, Fe.x_ret, Fe.x_expr, Fe.x_ite, Fe.x_sub, Fe.x_par, Fe.x_asg, Fe.x_for, Fe.x_met, Fe.x_rais, lk_0, lk_s, int_int, add_int, Cm.f, Ar.f, Bi.f, Me.f, Me.T, liftT, List.set_cons_succ, List.set_cons_zero, bl, mkL_nil, parS, ll, st, h3]
  rw [go]
  show trimO s (.ok (.ref (s.length + 1)) (wd s d o' [] f' g')) = _
  unfold wd
  exact trim_pushApp (s1 := s.set d o') (g := O.lst (iD []) :: O.lst (iD f') :: g') (ds := iD f') (ints_flat f') (by simp) (dice_same h1) (Nat.le_succ _) wd_1
theorem mixed_mem {nm : Str} {ps N : List Str} (hr : T[r]? = some rollF) (hm : T[mx]? = some ⟨nm, ps, N, mixedB r, .fn⟩) (hp : ps.length = 2) (hN : N.length = 4) (hs : Dice s d) (hj : s[j]? = some (.lst (iD q))) (hq : q.length ≤ 1000) :
    ∃ o f, Dice (s.set d o) d ∧ (f.length = q.length ∧ ∀ t ∈ f, t ∈ q) ∧ callF T (k + 2) mx [.ref d, .ref j] s = .ok (.ref s.length) (s.set d o ++ [.lst (iD f)]) := by
  obtain ⟨o, f, a, b, c⟩ := mixed_perm (k := k) (q := q) hr hm hp hN hs hj hq
  exact ⟨o, f, a, ⟨b.length_eq, fun t ht => b.mem_iff.mp ht⟩, c⟩
theorem mixed_spec {nm : Str} {ps N : List Str} (hr : T[r]? = some rollF) (hm : T[mx]? = some ⟨nm, ps, N, mixedB r, .fn⟩) (hp : ps.length = 2) (hN : N.length = 4) (hs : Dice s d) (hj : s[j]? = some (.lst (iD q))) (hq : q.length ≤ 1000) :
    ∃ o f, Dice (s.set d o) d ∧ f.length = q.length ∧ callF T (k + 2) mx [.ref d, .ref j] s = .ok (.ref s.length) (s.set d o ++ [.lst (iD f)]) := by
  obtain ⟨o, f, a, b, c⟩ := mixed_mem (k := k) (q := q) hr hm hp hN hs hj hq
  exact ⟨o, f, a, b.1, c⟩
theorem cut_map {α β : Type} (f : α → β) (xs : List α) (lo hi : Option Int) : cut (xs.map f) lo hi = (cut xs lo hi).map f := by
  unfold cut
  rw [List.length_map, List.map_take, List.map_drop]
theorem cut_len {α : Type} (xs : List α) (lo hi : Option Int) : (cut xs lo hi).length ≤ xs.length := by
  unfold cut
  rw [List.length_take, List.length_drop]
  omega
theorem min_i {x y : Int} : biMin [.int x, .int y] s = .ok (.int (if y < x then y else x)) s := rfl
theorem sub_i {x y : Int} : opSub (.int x) (.int y) s = .ok (.int (x - y)) s := rfl
theorem cut_mem2 {α : Type} {xs : List α} {lo hi : Option Int} {x : α} (h : x ∈ cut xs lo hi) : x ∈ xs := by
  unfold cut at h
  exact List.mem_of_mem_drop (List.mem_of_mem_take h)
theorem cut_sub {α : Type} (xs : List α) (n : Int) : (cut xs none (some n)).Sublist xs := by
  unfold cut
  exact (List.take_sublist _ _).trans (List.drop_sublist _ _)
theorem cut_low {α : Type} {xs : List α} {n A : Int} (h0 : 0 ≤ n) (h1 : A ≤ n ∧ A ≤ xs.length) : A ≤ ((cut xs none (some n)).length : Int) := by
  unfold cut HT.sIx
  dsimp only
  rw [if_neg (by omega), List.length_take, List.length_drop]
  omega
theorem some_full {nm nm' : Str} {ps N ps' N' : List Str} {sm : Nat} {lo hi : Int} (hr : T[r]? = some rollF) (hm : T[mx]? = some ⟨nm, ps, N, mixedB r, .fn⟩) (hp : ps.length = 2) (hN : N.length = 4) (hm' : T[sm]? = some ⟨nm', ps', N', someB mx r, .fn⟩) (hp' : ps'.length = 4) (hN' : N'.length = 6)
    (hs : Dice s d) (hj : s[j]? = some (.lst (iD q))) (hq : q.length ≤ 1000) (h0 : 0 ≤ lo) (h1 : lo ≤ hi) (h2 : hi ≤ 1000) :
    ∃ o f, Dice (s.set d o) d ∧ (f.length ≤ q.length ∧ (∀ t ∈ f, t ∈ q) ∧ (q.Nodup → f.Nodup) ∧ (if (q.length : Int) < lo then (q.length : Int) else lo) ≤ f.length) ∧ callF T (k + 3) sm [.ref d, .ref j, .int lo, .int hi] s = .ok (.ref s.length) (s.set d o ++ [.lst (iD f)]) := by
  have hd := hs.lt
  obtain ⟨o1, f1, d1, p1, e1⟩ := mixed_perm (k := k) (q := q) hr hm hp hN hs hj hq
  have l1 := p1.length_eq
  have m1 : ∀ t ∈ f1, t ∈ q := fun t ht => p1.mem_iff.mp ht
  have a0 : (if (q.length : Int) < lo then (q.length : Int) else lo) ≤ q.length := by split <;> omega
  have a1 : (if (q.length : Int) < lo then (q.length : Int) else lo) ≤ (if (q.length : Int) < hi then (q.length : Int) else hi) := by split <;> split <;> omega
  have a2 : (if (q.length : Int) < hi then (q.length : Int) else hi) ≤ 1000 := by split <;> omega
  have a3 : 0 ≤ (if (q.length : Int) < lo then (q.length : Int) else lo) := by split <;> omega
  generalize hA : (if (q.length : Int) < lo then (q.length : Int) else lo) = A at a0 a1 a3
  generalize hB : (if (q.length : Int) < hi then (q.length : Int) else hi) = B at a1 a2
  obtain ⟨z, o2, z0, z1, d2, e2⟩ := roll_spec (T := T) (k := k + 1) (f := r) (s := s.set d o1 ++ [.lst (iD f1)]) (u := B - A + 1) hr rfl rfl d1.app (by omega) (by omega)
  have es : (s.set d o1 ++ [O.lst (iD f1)]).set d o2 = s.set d o2 ++ [O.lst (iD f1)] := by
    rw [List.set_append_left _ _ (by simpa using hd), List.set_set]
  rw [es] at e2 d2
  have d3 : Dice (s.set d o2) d := by
    obtain ⟨a, b, c, e⟩ := d2
    rw [List.getElem?_append_left (by simpa using hd)] at e
    exact ⟨a, b, c, e⟩
  refine ⟨o2, cut f1 none (some (A + z)), d3, ⟨by rw [← l1]; exact cut_len _ _ _, fun t ht => m1 t (cut_mem2 ht), fun nd => (cut_sub f1 (A + z)).nodup (p1.nodup_iff.mpr nd), cut_low (by omega) (by omega)⟩, ?_⟩
  rw [call_at hm' (by simp [hp'])]
  have e0 : start' N'.length [.ref d, .ref j, .int lo, .int hi] = [some (.ref d), some (.ref j), some (.int lo), some (.int hi), none, none] := by rw [hN']; rfl
  show trimO s (retO (execs (callF T (k + 2)) (someB mx r) (start' N'.length [.ref d, .ref j, .int lo, .int hi]) s)) = _
  rw [e0]
  have go : execs (callF T (k + 2)) (someB mx r) [some (.ref d), some (.ref j), some (.int lo), some (.int hi), none, none] s = .rt (.ref (s.length + 1)) (s.set d o2 ++ [O.lst (iD f1), O.lst (iD (cut f1 none (some (A + z))))]) := by
    unfold someB
    have bl : biLen [.ref j] s = .ok (.int q.length) s := by rw [len_lstN (getL_lst hj), List.length_map]
    have sl : opSl (.ref s.length) none (some (A + z)) (s.set d o2 ++ [O.lst (iD f1)]) = .ok (.ref (s.length + 1)) (s.set d o2 ++ [O.lst (iD f1), O.lst (iD (cut f1 none (some (A + z))))]) := by
      have hg : getL (s.set d o2 ++ [O.lst (iD f1)]) s.length = some (iD f1) := getL_lst (by rw [List.getElem?_append_right (by simp)]; simp)
      show (match getL (s.set d o2 ++ [O.lst (iD f1)]) s.length with | some ds => _ | none => _) = _
      rw [hg]
      dsimp only
      rw [cut_map]
      simp
    simp only [Fe.bind_ok, Fe.bind_exc, Fe.lift_ok, Fe.lift_exc, Fe.seq_nx, Fe.seq_rt, Fe.seq_exc, Fe.v_non, Fe.v_bl, Fe.v_int, Fe.v_str, Fe.v_var, Fe.v_con, Fe.v_bin, Fe.v_neg, Fe.v_cmp, Fe.v_chn, Fe.v_and, Fe.v_or, Fe.v_not, Fe.v_ite, Fe.v_tup, Fe.v_lst, Fe.v_ix, Fe.v_sl, Fe.v_call, Fe.v_bi, Fe.v_isi, Fe.v_me, Fe.v_lc, Fe.v_dct, Fe.v_rev, Fe.v_fld, Fe.v_mt, Fe.v_pr, Fe.v_mk, Fe.v_oinT, Fe.v_oinF, Fe.v_inV, Fe.v_olen, Fe.v_lenOwn, Fe.v_obool, Fe.v_boolOwn, Fe.v_otru, Fe.v_oix, Fe.v_lrg, Fe.v_trg, Fe.v_ostr, Fe.v_strOwn, Fe.v_asSt, Fe.v_fst, Fe.v_noExc, Fe.v_asBl, Fe.v_asB, Fe.v_asTru, Fe.v_asNon, Fe.o_no, Fe.o_int, Fe.o_var, Fe.o_bin, Fe.o_neg, Fe.o_ite, Fe.asI_int, Fe.t_no, Fe.t_cmp, Fe.t_chn, Fe.t_and, Fe.t_or, Fe.t_not, Fe.t_call, Fe.t_var, Fe.t_isi, Fe.t_bi, Fe.t_oinT, Fe.t_oinF, Fe.t_otru, Fe.t_obool, Fe.t_mt, Fe.t_pr, Fe.t_fld, Fe.t_tru, Fe.sems_nil, Fe.sems_cons, Fe.args_nil, Fe.args_cons, Fe.andV_1, Fe.andV_2, Fe.orV_1, Fe.orV_2, Fe.andT_1, Fe.andT_2, Fe.orT_1, Fe.orT_2, Fe.v_lam, Fe.i_rng, Fe.i_tup, Fe.i_var, Fe.i_fld, Fe.i_mt, Fe.i_oix, Fe.i_enu, Fe.i_call, Fe.x_retN, Fe.x_pass, Fe.x_whl, Fe.x_setf, Fe.x_nil, Fe.x_cons, Fe.x_set, Fe.x_ret, Fe.x_expr, Fe.x_ite, Fe.x_sub, Fe.x_par, Fe.x_asg, Fe.x_for, Fe.x_met, Fe.x_rais, lk_0, lk_s, int_int, add_int, Cm.f, Ar.f, Bi.f, Me.f, Me.T, liftT, List.set_cons_succ, List.set_cons_zero, bl, min_i, hA, hB, parS, e1, sub_i, e2, sl]
  rw [go]
  show trimO s (.ok (.ref (s.length + 1)) _) = _
  exact trim_pushApp (s1 := s.set d o2) (g := [O.lst (iD f1), O.lst (iD (cut f1 none (some (A + z))))]) (ds := iD (cut f1 none (some (A + z)))) (ints_flat _) (by simp) (dice_same d3) (Nat.le_succ _) (by rw [List.getElem?_append_right (by simp)]; simp)
theorem some_mem {nm nm' : Str} {ps N ps' N' : List Str} {sm : Nat} {lo hi : Int} (hr : T[r]? = some rollF) (hm : T[mx]? = some ⟨nm, ps, N, mixedB r, .fn⟩) (hp : ps.length = 2) (hN : N.length = 4) (hm' : T[sm]? = some ⟨nm', ps', N', someB mx r, .fn⟩) (hp' : ps'.length = 4) (hN' : N'.length = 6)
    (hs : Dice s d) (hj : s[j]? = some (.lst (iD q))) (hq : q.length ≤ 1000) (h0 : 0 ≤ lo) (h1 : lo ≤ hi) (h2 : hi ≤ 1000) :
    ∃ o f, Dice (s.set d o) d ∧ (f.length ≤ q.length ∧ ∀ t ∈ f, t ∈ q) ∧ callF T (k + 3) sm [.ref d, .ref j, .int lo, .int hi] s = .ok (.ref s.length) (s.set d o ++ [.lst (iD f)]) := by
  obtain ⟨o, f, a, b, c⟩ := some_full (k := k) (q := q) hr hm hp hN hm' hp' hN' hs hj hq h0 h1 h2
  exact ⟨o, f, a, ⟨b.1, b.2.1⟩, c⟩
theorem some_spec {nm nm' : Str} {ps N ps' N' : List Str} {sm : Nat} {lo hi : Int} (hr : T[r]? = some rollF) (hm : T[mx]? = some ⟨nm, ps, N, mixedB r, .fn⟩) (hp : ps.length = 2) (hN : N.length = 4) (hm' : T[sm]? = some ⟨nm', ps', N', someB mx r, .fn⟩) (hp' : ps'.length = 4) (hN' : N'.length = 6)
    (hs : Dice s d) (hj : s[j]? = some (.lst (iD q))) (hq : q.length ≤ 1000) (h0 : 0 ≤ lo) (h1 : lo ≤ hi) (h2 : hi ≤ 1000) :
    ∃ o f, Dice (s.set d o) d ∧ f.length ≤ q.length ∧ callF T (k + 3) sm [.ref d, .ref j, .int lo, .int hi] s = .ok (.ref s.length) (s.set d o ++ [.lst (iD f)]) := by
  obtain ⟨o, f, a, b, c⟩ := some_mem (k := k) (q := q) hr hm hp hN hm' hp' hN' hs hj hq h0 h1 h2
  exact ⟨o, f, a, b.1, c⟩
end
end Fe

set_option maxHeartbeats 4000000
/-! Fe U: frames, comprehensions over numbers, plain facts of queues. -/
namespace Fe
open PySem PySem.Spec PyProof.Rows
open L2 (atI ixN)
/-! ### what a call leaves as it is -/
structure Fr (s F : S) (X : List Nat) : Prop where
  len : s.length ≤ F.length
  eq : ∀ i, i < s.length → i ∉ X → F[i]? = s[i]?
section
variable {s F G g : S} {X Y : List Nat}
theorem Fr.refl (s : S) (X : List Nat) : Fr s s X := ⟨Nat.le_refl _, fun _ _ _ => rfl⟩
theorem Fr.app (h : Fr s F X) : Fr s (F ++ g) X := ⟨Nat.le_trans h.len (by simp), fun i hi hx => by rw [List.getElem?_append_left (Nat.lt_of_lt_of_le hi h.len)]; exact h.eq i hi hx⟩
theorem Fr.set {i : Nat} {o : O} (h : Fr s F X) (hi : i ∈ X) : Fr s (F.set i o) X := ⟨by rw [List.length_set]; exact h.len, fun j hj hx => by
  have ne : i ≠ j := fun e => hx (e ▸ hi)
  rw [List.getElem?_set_ne ne]; exact h.eq j hj hx⟩
theorem Fr.mono (h : Fr s F X) (hx : ∀ i ∈ X, i ∈ Y) : Fr s F Y := ⟨h.len, fun i hi hn => h.eq i hi fun z => hn (hx i z)⟩
theorem Fr.same (h : Fr s F X) (hx : ∀ i ∈ X, i < s.length → ∃ o, F[i]? = some o ∧ o.flat = true) : sameOr s F = true := sameOr_of fun i hi => by
  by_cases e : i ∈ X
  · exact .inr (hx i e hi)
  · exact .inl (h.eq i hi e)
theorem take_at {i n : Nat} (h : i < n) : (F.take n)[i]? = F[i]? := List.getElem?_take_of_lt h
end
/-! ### comprehensions over numbers -/
section
variable {s : S} {bind : D → Env → S → TOut} {t : Env → S → Out Bool} {e : Env → S → Out D} {ρ : Env} {fi : Env → S → Out Src} {own : List Nat} {z : List Int} {r : Option (Nat × List D)}
def onI (P : Int → Bool) : D → Bool
  | .int t => P t
  | _ => false
def mpI (f : Int → D) : D → D
  | .int t => f t
  | d => d
theorem filter_iD (P : Int → Bool) (f : Int → D) : ∀ z : List Int, ((iD z).filter (onI P)).map (mpI f) = (z.filter P).map f
  | [] => rfl
  | a :: z => by
    rw [iD_cons]
    cases h : P a with
    | true =>
      rw [List.filter_cons_of_pos (show onI P (.int a) = true from h), List.filter_cons_of_pos h, List.map_cons, List.map_cons, filter_iD P f z]
      rfl
    | false =>
      rw [List.filter_cons_of_neg (show ¬ onI P (.int a) = true by show ¬ P a = true; rw [h]; decide), List.filter_cons_of_neg (by rw [h]; decide), filter_iD P f z]
theorem lcV_int {P : Int → Bool} {f : Int → D} (hi : fi ρ s = .ok ⟨iD z, r⟩ s) (hc : ∀ i l, r = some (i, l) → getL s i = some l) (hn : z.length ≤ 1000)
    (h : ∀ x ∈ z, ∀ acc, ∃ ρ1, bind (.int x) (wipeE ρ own) (s ++ [.lst acc]) = some (ρ1, s ++ [.lst acc]) ∧ t ρ1 (s ++ [.lst acc]) = .ok (P x) (s ++ [.lst acc]) ∧ (P x = true → e ρ1 (s ++ [.lst acc]) = .ok (f x) (s ++ [.lst acc]))) :
    lcV fi bind t e own ρ s = .ok (.ref s.length) (s ++ [.lst ((z.filter P).map f)]) := by
  have := lcV_map (t := t) (e := e) (bind := bind) (own := own) (p := onI P) (f := mpI f) hi hc (by show (iD z).length ≤ line; rw [List.length_map]; unfold line; omega) fun d hd acc => by
    obtain ⟨x, hx, rfl⟩ := List.mem_map.mp hd
    exact h x hx acc
  rw [this]
  show Out.ok _ (s ++ [O.lst (((iD z).filter (onI P)).map (mpI f))]) = _
  rw [filter_iD]
end
/-! ### plain facts -/
section
variable {qs : List (List Int)} {t x y : Int} {P : Int → Bool} {i j : Nat} {z w : List Int}
theorem set_id {α : Type} : ∀ {l : List α} {i : Nat} {x : α}, l[i]? = some x → l.set i x = l
  | [], i, x, h => by simp at h
  | a :: l, 0, x, h => by simp at h; rw [h]; rfl
  | a :: l, i + 1, x, h => by
    show a :: l.set i x = a :: l
    rw [set_id (by simpa using h)]
theorem flat_set : ∀ {qs : List (List Int)} {i : Nat} {z : List Int}, qs[i]? = some z → ∃ A B, qs.flatten = A ++ (z ++ B) ∧ ∀ w, (qs.set i w).flatten = A ++ (w ++ B)
  | [], i, z, h => by simp at h
  | a :: qs, 0, z, h => by
    simp at h; subst h
    exact ⟨[], qs.flatten, rfl, fun w => rfl⟩
  | a :: qs, i + 1, z, h => by
    obtain ⟨A, B, h1, h2⟩ := flat_set (qs := qs) (i := i) (z := z) (by simpa using h)
    refine ⟨a ++ A, B, by rw [List.flatten_cons, h1, List.append_assoc], fun w => ?_⟩
    show (a :: qs.set i w).flatten = _
    rw [List.flatten_cons, h2, List.append_assoc]
theorem mem_flat (h : qs[i]? = some z) (ht : t ∈ z) : t ∈ qs.flatten := List.mem_flatten.mpr ⟨z, List.mem_of_getElem? h, ht⟩
theorem flat_mem (h : t ∈ qs.flatten) : ∃ (i : Nat) (z : List Int), qs[i]? = some z ∧ t ∈ z := by
  obtain ⟨z, h1, h2⟩ := List.mem_flatten.mp h
  obtain ⟨i, hi⟩ := List.getElem?_of_mem h1
  exact ⟨i, z, hi, h2⟩
theorem any_flat : qs.any (·.contains t) = qs.flatten.contains t := by
  rw [Bool.eq_iff_iff, any_con, List.contains_iff_mem]
  exact ⟨fun ⟨i, z, h1, h2⟩ => mem_flat h1 h2, flat_mem⟩
theorem lv_ex : ∀ {qs : List (List Int)}, t ∈ qs.flatten → ∃ i, Lv qs t i
  | [], h => by simp at h
  | a :: qs, h => by
    by_cases e : t ∈ a
    · exact ⟨0, ⟨a, rfl, e⟩, fun j z hj => absurd hj (Nat.not_lt_zero j)⟩
    · rw [List.flatten_cons, List.mem_append] at h
      obtain ⟨i, ⟨z, h1, h2⟩, h3⟩ := lv_ex (h.resolve_left e)
      refine ⟨i + 1, ⟨z, h1, h2⟩, fun j w hj hw => ?_⟩
      cases j with
      | zero => simp at hw; rw [← hw]; exact e
      | succ j => exact h3 j w (by omega) hw
theorem lv_uniq (h : Lv qs t i) (h' : Lv qs t j) : i = j := by
  obtain ⟨⟨z, a1, a2⟩, a3⟩ := h
  obtain ⟨⟨w, b1, b2⟩, b3⟩ := h'
  rcases Nat.lt_trichotomy i j with q | q | q
  · exact absurd a2 (b3 i z q a1)
  · exact q
  · exact absurd b2 (a3 j w q b1)
theorem bst_uniq (h : Bst qs i) (h' : Bst qs j) : i = j := by
  obtain ⟨⟨z, a1, a2⟩, a3⟩ := h
  obtain ⟨⟨w, b1, b2⟩, b3⟩ := h'
  rcases Nat.lt_trichotomy i j with q | q | q
  · exact absurd (b3 i z q a1) a2
  · exact q
  · exact absurd (a3 j w q b1) b2
/-- the level of the first task of all is the best level -/
theorem lv_head (h : qs.flatten.head? = some t) : ∃ i, Lv qs t i ∧ Bst qs i := by
  induction qs with
  | nil => simp at h
  | cons a qs ih =>
    cases a with
    | nil =>
      obtain ⟨i, ⟨⟨z, h1, h2⟩, h3⟩, ⟨w, b1, b2⟩, b3⟩ := ih (by simpa using h)
      refine ⟨i + 1, ⟨⟨z, h1, h2⟩, fun j w hj hw => ?_⟩, ⟨w, b1, b2⟩, fun j w hj hw => ?_⟩
      · cases j with
        | zero => simp at hw; rw [hw]; simp
        | succ j => exact h3 j w (by omega) hw
      · cases j with
        | zero => simp at hw; exact hw
        | succ j => exact b3 j w (by omega) hw
    | cons b r =>
      have e : b = t := by simpa using h
      subst e
      exact ⟨0, ⟨⟨_, rfl, by simp⟩, fun j z hj => absurd hj (Nat.not_lt_zero j)⟩, ⟨_, rfl, by simp⟩, fun j z hj => absurd hj (Nat.not_lt_zero j)⟩
/-! a part -/
abbrev sub (P : Int → Bool) (qs : List (List Int)) : List (List Int) := qs.map (·.filter P)
theorem sub_flat : (sub P qs).flatten = qs.flatten.filter P := by
  rw [List.filter_flatten]
theorem sub_get (h : qs[i]? = some z) : (sub P qs)[i]? = some (z.filter P) := by rw [List.getElem?_map, h]; rfl
theorem get_sub (h : (sub P qs)[i]? = some w) : ∃ z, qs[i]? = some z ∧ w = z.filter P := by
  rw [List.getElem?_map] at h
  obtain ⟨z, h1, h2⟩ := Option.map_eq_some_iff.mp h
  exact ⟨z, h1, h2.symm⟩
theorem lv_sub (h : Lv qs t i) (hp : P t = true) : Lv (sub P qs) t i := by
  obtain ⟨⟨z, a1, a2⟩, a3⟩ := h
  refine ⟨⟨_, sub_get a1, List.mem_filter.mpr ⟨a2, hp⟩⟩, fun j w hj hw => ?_⟩
  obtain ⟨z', b1, rfl⟩ := get_sub hw
  exact fun hm => a3 j z' hj b1 (List.mem_filter.mp hm).1
theorem findI_filter : ∀ {z : List Int} {n m n' m' : Nat}, P x = true → P y = true → findI x z = some n → findI y z = some m → findI x (z.filter P) = some n' → findI y (z.filter P) = some m' → ((n = m ↔ n' = m') ∧ (n < m ↔ n' < m'))
  | [], n, m, n', m', _, _, h, _, _, _ => by cases h
  | a :: z, n, m, n', m', px, py, h1, h2, h3, h4 => by
    by_cases pa : P a = true
    · rw [List.filter_cons_of_pos pa] at h3 h4
      unfold findI at h1 h2 h3 h4
      by_cases ex : a = x
      · rw [if_pos ex] at h1 h3
        cases h1; cases h3
        by_cases ey : a = y
        · rw [if_pos ey] at h2 h4
          cases h2; cases h4
          simp
        · rw [if_neg ey] at h2 h4
          obtain ⟨u, _, rfl⟩ := Option.map_eq_some_iff.mp h2
          obtain ⟨v, _, rfl⟩ := Option.map_eq_some_iff.mp h4
          simp
      · rw [if_neg ex] at h1 h3
        obtain ⟨u, u1, rfl⟩ := Option.map_eq_some_iff.mp h1
        obtain ⟨v, v1, rfl⟩ := Option.map_eq_some_iff.mp h3
        by_cases ey : a = y
        · rw [if_pos ey] at h2 h4
          cases h2; cases h4
          simp
        · rw [if_neg ey] at h2 h4
          obtain ⟨u', u2, rfl⟩ := Option.map_eq_some_iff.mp h2
          obtain ⟨v', v2, rfl⟩ := Option.map_eq_some_iff.mp h4
          have := findI_filter px py u1 u2 v1 v2
          omega
    · rw [List.filter_cons_of_neg pa] at h3 h4
      unfold findI at h1 h2
      have ex : ¬ a = x := fun e => pa (by rw [e]; exact px)
      have ey : ¬ a = y := fun e => pa (by rw [e]; exact py)
      rw [if_neg ex] at h1
      rw [if_neg ey] at h2
      obtain ⟨u, u1, rfl⟩ := Option.map_eq_some_iff.mp h1
      obtain ⟨u', u2, rfl⟩ := Option.map_eq_some_iff.mp h2
      have := findI_filter px py u1 u2 h3 h4
      omega
theorem lex_2 {i j n m : Int} : HT.lexLt [i, n] [j, m] = (if i = j then decide (n < m) else decide (i < j)) := by
  unfold HT.lexLt
  by_cases h : i = j
  · rw [if_pos h, if_pos h]
    unfold HT.lexLt
    by_cases h2 : n = m
    · rw [if_pos h2, h2]
      show false = _
      simp
    · rw [if_neg h2]
  · rw [if_neg h, if_neg h]
theorem filter_erase : ∀ {z : List Int}, P t = true → (z.erase t).filter P = (z.filter P).erase t
  | [], _ => rfl
  | a :: z, h => by
    by_cases e : a = t
    · subst e
      rw [List.erase_cons_head, List.filter_cons_of_pos h, List.erase_cons_head]
    · rw [List.erase_cons_tail (by simpa using e)]
      by_cases pa : P a = true
      · rw [List.filter_cons_of_pos pa, List.filter_cons_of_pos pa, List.erase_cons_tail (by simpa using e), filter_erase h]
      · rw [List.filter_cons_of_neg pa, List.filter_cons_of_neg pa, filter_erase h]
theorem filter_erase0 : ∀ {z : List Int}, P t = false → (z.erase t).filter P = z.filter P
  | [], _ => rfl
  | a :: z, h => by
    by_cases e : a = t
    · subst e
      rw [List.erase_cons_head, List.filter_cons_of_neg (by rw [h]; decide)]
    · rw [List.erase_cons_tail (by simpa using e)]
      by_cases pa : P a = true
      · rw [List.filter_cons_of_pos pa, List.filter_cons_of_pos pa, filter_erase0 h]
      · rw [List.filter_cons_of_neg pa, List.filter_cons_of_neg pa, filter_erase0 h]
theorem filter_put {c : List Nat} (h : P t = true) : (putV c z t).filter P = putV c (z.filter P) t := by
  unfold putV
  split
  · rw [List.filter_append, List.filter_cons_of_pos h]; rfl
  · rw [List.filter_cons_of_pos h]
theorem filter_put0 {c : List Nat} (h : P t = false) : (putV c z t).filter P = z.filter P := by
  unfold putV
  split
  · rw [List.filter_append, List.filter_cons_of_neg (by rw [h]; decide)]; simp
  · rw [List.filter_cons_of_neg (by rw [h]; decide)]
theorem put_perm {c : List Nat} (h : qs[i]? = some z) : ((qs.set i (putV c z t)).flatten).Perm (t :: qs.flatten) := by
  obtain ⟨A, B, h1, h2⟩ := flat_set h
  rw [h1, h2]
  unfold putV
  split
  · have : A ++ (z ++ [t] ++ B) = (A ++ z) ++ t :: B := by simp
    rw [this, ← List.append_assoc A z B]
    exact List.perm_middle
  · exact List.perm_middle
theorem sub_flat_le (h : qs[i]? = some z) (hs : w.Sublist z) : ((qs.set i w).flatten).Sublist qs.flatten := by
  obtain ⟨A, B, h1, h2⟩ := flat_set h
  rw [h1, h2]
  exact List.Sublist.append (List.Sublist.refl A) (List.Sublist.append hs (List.Sublist.refl B))
theorem nodup_le : ∀ (n : Nat) (l : List Int), l.Nodup → (∀ t ∈ l, 0 ≤ t ∧ t < (n : Int)) → l.length ≤ n
  | 0, l, _, h => by
    cases l with
    | nil => exact Nat.le_refl _
    | cons a l =>
      have := h a List.mem_cons_self
      omega
  | n + 1, l, nd, h => by
    have ih := nodup_le n (l.erase (n : Int)) (nd.erase _) fun t ht => by
      have h1 := h t (List.mem_of_mem_erase ht)
      have h2 : t ≠ (n : Int) := ((List.Nodup.mem_erase_iff nd).mp ht).1
      omega
    rw [List.length_erase] at ih
    split at ih <;> omega
end
end Fe

set_option maxHeartbeats 4000000
/-! Fe W: texts of queues; comprehensions place by place. -/
namespace Fe
open PySem PySem.Spec PyProof.Rows
open L2 (atI ixN)
open TL (joinL numL)
section
variable {s : S} {live : S → Bool} {bind : D → Env → S → TOut} {t : Env → S → Out Bool} {e : Env → S → Out D} {ρ : Env}
theorem lcW_zip : ∀ (ds ys acc : List D), ds.length = ys.length → acc.length + ds.length ≤ line → (∀ acc, live (s ++ [.lst acc]) = true) →
    (∀ (i : Nat) (d y : D), ds[i]? = some d → ys[i]? = some y → ∀ acc, ∃ ρ1, bind d ρ (s ++ [.lst acc]) = some (ρ1, s ++ [.lst acc]) ∧ t ρ1 (s ++ [.lst acc]) = .ok true (s ++ [.lst acc]) ∧ e ρ1 (s ++ [.lst acc]) = .ok y (s ++ [.lst acc])) →
    lcW live bind t e ρ s.length ds (s ++ [.lst acc]) = .ok () (s ++ [.lst (acc ++ ys)])
  | [], [], acc, _, _, hl, _ => by
    unfold lcW
    rw [if_pos (hl acc)]
    simp
  | [], _ :: _, _, h, _, _, _ => by simp at h
  | _ :: _, [], _, h, _, _, _ => by simp at h
  | d :: ds, y :: ys, acc, hlen, hn, hl, h => by
    unfold lcW
    rw [if_pos (hl acc)]
    obtain ⟨ρ1, h1, h2, h3⟩ := h 0 d y rfl rfl acc
    rw [h1]
    dsimp only
    rw [h2]
    dsimp only
    rw [h3]
    dsimp only
    rw [List.length_cons] at hn
    have e1 : pushAt s.length y (s ++ [.lst acc]) = some (s ++ [.lst (acc ++ [y])]) := by
      unfold pushAt
      rw [at_end]
      dsimp only
      rw [if_pos (by omega), set_end]
    rw [e1]
    dsimp only
    rw [lcW_zip ds ys (acc ++ [y]) (by simpa using hlen) (by simp; omega) hl (fun i d' y' a b => h (i + 1) d' y' a b), List.append_assoc]
    rfl
theorem lcV_zip {fi : Env → S → Out Src} {own : List Nat} {c : Src} {ys : List D} (hi : fi ρ s = .ok c s) (hc : ∀ i l, c.r = some (i, l) → getL s i = some l) (hn : c.ds.length ≤ line) (hlen : c.ds.length = ys.length)
    (h : ∀ (i : Nat) (d y : D), c.ds[i]? = some d → ys[i]? = some y → ∀ acc, ∃ ρ1, bind d (wipeE ρ own) (s ++ [.lst acc]) = some (ρ1, s ++ [.lst acc]) ∧ t ρ1 (s ++ [.lst acc]) = .ok true (s ++ [.lst acc]) ∧ e ρ1 (s ++ [.lst acc]) = .ok y (s ++ [.lst acc])) :
    lcV fi bind t e own ρ s = .ok (.ref s.length) (s ++ [.lst ys]) := by
  unfold lcV
  rw [hi]
  show (match lcW c.live bind t e (wipeE ρ own) s.length c.ds (s ++ [.lst []]) with | .ok _ s' => Out.ok (D.ref s.length) s' | _ => .bad) = _
  rw [lcW_zip c.ds ys [] hlen (by simpa using hn) (fun acc => live_of hc) h]
  simp
end
/-! ### texts -/
def itx (t : Int) : List Nat := itext t
def tx (z : List Int) : List Nat := if z = [] then [110, 111, 110, 101] else joinL [32] (z.map itext)
def row (i : Nat) (z : List Int) : List Nat := itext i ++ [58, 32] ++ tx z
def rows (qs : List (List Int)) : List (List Nat) := qs.mapIdx row
def textL (qs : List (List Int)) : List Nat := joinL [44, 32] (rows qs)
theorem itext_num (n : Nat) : itext (n : Int) = numL n := by
  rw [← TL.tl_num n]
  show itext (n : Int) = TL.tl ((toString ((n : Nat) : Int) : String) : Str)
  rw [itext_eq]
theorem itext_len {t : Int} (h0 : 0 ≤ t) (h1 : t < Big) : (itext t).length ≤ 40 := by
  obtain ⟨n, rfl⟩ : ∃ n : Nat, t = (n : Int) := ⟨t.toNat, by omega⟩
  rw [itext_num]
  refine TL.numL_len (by decide) ?_
  have : (10 : Nat) ^ 40 = 10000000000000000000000000000000000000000 := by decide
  unfold Big at h1
  omega
theorem log_ok {t : Int} (h0 : 0 ≤ t) (h1 : t < Big) : t.natAbs.log2 < 1920 := by
  by_cases h : t.natAbs = 0
  · rw [h]; decide
  · have h2 : t.natAbs < 2 ^ 140 := by
      unfold Big at h1
      omega
    have := (Nat.log2_lt h).mpr h2
    omega
theorem joinL_len (a : List Nat) : ∀ ys : List (List Nat), (joinL a ys).length ≤ (ys.map List.length).sum + ys.length * a.length
  | [] => by simp [joinL]
  | [p] => by simp [joinL]
  | p :: q :: r => by
    have ih := joinL_len a (q :: r)
    show (p ++ (a ++ joinL a (q :: r))).length ≤ _
    rw [List.length_append, List.length_append, List.map_cons, List.sum_cons, List.length_cons, Nat.succ_mul]
    omega
theorem sum_le {B : Nat} : ∀ {ys : List (List Nat)}, (∀ y ∈ ys, y.length ≤ B) → (ys.map List.length).sum ≤ ys.length * B
  | [], _ => by simp
  | y :: ys, h => by
    have ih := sum_le (B := B) (ys := ys) fun z hz => h z (List.mem_cons_of_mem _ hz)
    have h1 := h y List.mem_cons_self
    rw [List.map_cons, List.sum_cons, List.length_cons, Nat.succ_mul]
    omega
theorem asStrs_map : ∀ ys : List (List Nat), asStrs (ys.map D.str) = some ys
  | [] => rfl
  | y :: ys => by
    rw [List.map_cons]
    unfold asStrs
    rw [asStrs_map ys]; rfl
section
variable {T : List Fd} {q : QI} {k : Nat} {s g : S} {a L j sx tq : Nat} {ls : List Nat} {qs : List (List Int)} {t : Int} {z : List Int} {ys : List (List Nat)} {B : Nat}
theorem join_v {c : List Nat} (h : getL s j = some (ys.map D.str)) (hb : ∀ y ∈ ys, y.length ≤ B) (hB : B ≤ 100000) (hl : ys.length ≤ 100) (hc : c.length ≤ 2) : meJoin (.str c) [.ref j] s = .ok (.str (joinL c ys)) s := by
  have hs := sum_le hb
  unfold meJoin
  show (match itemsOf s (.ref j) with | some ds => _ | none => _) = _
  have : itemsOf s (.ref j) = some (ys.map D.str) := h
  rw [this]
  dsimp only
  rw [asStrs_map]
  dsimp only
  rw [if_pos]
  have h1 : ys.length * B ≤ 100 * 100000 := Nat.mul_le_mul hl hB
  have h2 : ys.length * c.length ≤ 100 * 2 := Nat.mul_le_mul hl hc
  omega
theorem joinL_le {c : List Nat} (hb : ∀ y ∈ ys, y.length ≤ B) (hl : ys.length ≤ 100) (hc : c.length ≤ 2) : (joinL c ys).length ≤ 100 * B + 200 := by
  have h0 := joinL_len c ys
  have hs := sum_le hb
  have h1 : ys.length * B ≤ 100 * B := Nat.mul_le_mul_right _ hl
  have h2 : ys.length * c.length ≤ 100 * 2 := Nat.mul_le_mul hl hc
  omega
theorem tx_len (hz : z.length ≤ 100) (hb : ∀ t ∈ z, 0 ≤ t ∧ t < Big) : (tx z).length ≤ 5000 := by
  unfold tx
  split
  · decide
  · have := joinL_le (ys := z.map itext) (B := 40) (c := [32]) (fun y hy => by
      obtain ⟨t, ht, rfl⟩ := List.mem_map.mp hy
      exact itext_len (hb t ht).1 (hb t ht).2) (by simpa using hz) (by decide)
    omega
theorem row_len {i : Nat} (hi : i ≤ 1000) (hz : z.length ≤ 100) (hb : ∀ t ∈ z, 0 ≤ t ∧ t < Big) : (row i z).length ≤ 6000 := by
  unfold row
  have h1 := tx_len hz hb
  have h2 := itext_len (t := (i : Int)) (by omega) (big_lt hi)
  simp only [List.length_append, List.length_cons, List.length_nil]
  omega
/-- the text of the tasks in a list -/
theorem tasks_txt {Γ : Nat → List D → S → Out D} {ρ : Env} {v : Nat} {own : List Nat} {fi : Env → S → Out Src} (hi : fi ρ s = .ok ⟨iD z, some (j, iD z)⟩ s) (hj : getL s j = some (iD z)) (hz : z.length ≤ 100) (hb : ∀ t ∈ z, 0 ≤ t ∧ t < Big)
    (hv : ∀ (x : D) (s : S), lk ((wipeE ρ own).set v (some x)) v s = .ok x s) :
    lcV fi (bnd (.nm v)) (sem Γ .no).t (sem Γ (.bi .str [(.var v)])).v own ρ s = .ok (.ref s.length) (s ++ [.lst ((z.map itext).map D.str)]) := by
  have := lcV_int (t := (sem Γ .no).t) (e := (sem Γ (.bi .str [(.var v)])).v) (bind := bnd (.nm v)) (own := own) (P := fun _ => true) (f := fun t => .str (itext t)) hi (fun i l e => by cases e; exact hj) (by omega) (fun x hx acc => by
    refine ⟨(wipeE ρ own).set v (some (.int x)), rfl, rfl, fun _ => ?_⟩
    have e : argsV (sems Γ [(.var v)]) ((wipeE ρ own).set v (some (.int x))) (s ++ [.lst acc]) = .ok [.int x] (s ++ [.lst acc]) := by
      simp only [sems_cons, sems_nil, args_cons, args_nil, v_var, hv, bind_ok]
    rw [v_bi, e, bind_ok]
    show biStr [.int x] _ = _
    unfold biStr
    dsimp only
    rw [if_pos (log_ok (hb x hx).1 (hb x hx).2)])
  rw [this, List.filter_eq_self.mpr (fun _ _ => rfl), List.map_map]
  rfl
def textOfB : List St := [(.ret (.ite (.cmp .ne (.var 0) (.lst [])) (.me .join (.str [32]) [(.lc (.bi .str [(.var 1)]) (.nm 1) (.var 0) .no [1])]) (.str [110, 111, 110, 101])))]
def textOfF : Fd := ⟨"text_of", ["tasks"], ["tasks", "task"], textOfB, .fn⟩
def strB (tq : Nat) : List St := [(.ret (.me .join (.str [44, 32]) [(.lc (.fst [(.var 1), (.str [58, 32]), (.call tq [(.var 2)])]) (.tp [(.nm 1), (.nm 2)]) (.enu OL) .no [1, 2])]))]
def strF (tq : Nat) : Fd := ⟨"__str__", ["self"], ["self", "level", "tasks"], strB tq, .sp Qc⟩
theorem strFlat {c : List Nat} : (D.str c).flat = true := rfl
theorem tof_spec [hT : Has T tq textOfF] (hj : s[j]? = some (.lst (iD z))) (hz : z.length ≤ 100) (hb : ∀ t ∈ z, 0 ≤ t ∧ t < Big) : callF T (k + 1) tq [.ref j] s = .ok (.str (tx z)) s := by
  rw [call_at hT.at_ rfl]
  show trimO s (retO (execs (callF T k) textOfB [some (.ref j), none] s)) = _
  have nn : opNe (.ref j) (.ref s.length) (s ++ [O.lst []]) = .ok (.bl (!decide (z = []))) (s ++ [O.lst []]) := ne_lstI (getL_app (getL_lst hj)) (getL_end (ds := []))
  have e : ∃ g, execs (callF T k) textOfB [some (.ref j), none] s = .rt (.str (tx z)) (s ++ g) := by
    unfold textOfB tx
    by_cases hv : z = []
    · refine ⟨[O.lst []], ?_⟩
      rw [decide_eq_true hv] at nn
      simp only [Fe.bind_ok, Fe.bind_exc, Fe.lift_ok, Fe.lift_exc, Fe.seq_nx, Fe.seq_rt, Fe.seq_exc, Fe.v_non, Fe.v_bl, Fe.v_int, Fe.v_str, Fe.v_var, Fe.v_con, Fe.v_bin, Fe.v_neg, Fe.v_cmp, Fe.v_chn, Fe.v_and, Fe.v_or, Fe.v_not, Fe.v_ite, Fe.v_tup, Fe.v_lst, Fe.v_ix, Fe.v_sl, Fe.v_call, Fe.v_bi, Fe.v_isi, Fe.v_me, Fe.v_lc, Fe.v_dct, Fe.v_rev, Fe.v_fld, Fe.v_mt, Fe.v_pr, Fe.v_mk, Fe.v_oinT, Fe.v_oinF, Fe.v_inV, Fe.v_olen, Fe.v_lenOwn, Fe.v_obool, Fe.v_boolOwn, Fe.v_otru, Fe.v_oix, Fe.v_lrg, Fe.v_trg, Fe.v_ostr, Fe.v_strOwn, Fe.v_asSt, Fe.v_fst, Fe.v_noExc, Fe.v_asBl, Fe.v_asB, Fe.v_asTru, Fe.v_asNon, Fe.o_no, Fe.o_int, Fe.o_var, Fe.o_bin, Fe.o_neg, Fe.o_ite, Fe.asI_int, Fe.t_no, Fe.t_cmp, Fe.t_chn, Fe.t_and, Fe.t_or, Fe.t_not, Fe.t_call, Fe.t_var, Fe.t_isi, Fe.t_bi, Fe.t_oinT, Fe.t_oinF, Fe.t_otru, Fe.t_obool, Fe.t_mt, Fe.t_pr, Fe.t_fld, Fe.t_tru, Fe.sems_nil, Fe.sems_cons, Fe.args_nil, Fe.args_cons, Fe.andV_1, Fe.andV_2, Fe.orV_1, Fe.orV_2, Fe.andT_1, Fe.andT_2, Fe.orT_1, Fe.orT_2, Fe.v_lam, Fe.i_rng, Fe.i_tup, Fe.i_var, Fe.i_fld, Fe.i_mt, Fe.i_oix, Fe.i_enu, Fe.i_call, Fe.x_retN, Fe.x_pass, Fe.x_whl, Fe.x_setf, Fe.x_nil, Fe.x_cons, Fe.x_set, Fe.x_ret, Fe.x_expr, Fe.x_ite, Fe.x_sub, Fe.x_par, Fe.x_asg, Fe.x_for, Fe.x_met, Fe.x_rais, lk_0, lk_s, int_int, add_int, Cm.f, Ar.f, Bi.f, Me.f, Me.T, liftT, List.set_cons_succ, List.set_cons_zero, mkL_nil, nn, Bool.not_true, Bool.false_eq_true, if_false, if_pos hv]
    · refine ⟨[O.lst []] ++ [O.lst ((z.map itext).map D.str)], ?_⟩
      rw [decide_eq_false hv] at nn
      have hj' : getL (s ++ [O.lst []]) j = some (iD z) := getL_app (getL_lst hj)
      have tt := tasks_txt (Γ := callF T k) (s := s ++ [O.lst []]) (ρ := [some (.ref j), none]) (v := 1) (own := [1]) (j := j) (z := z) (fi := (sem (callF T k) (.var 0)).i) (by
        rw [i_var, lk_0, bind_ok]
        show (match getL (s ++ [O.lst []]) j with | some ds => _ | none => _) = _
        rw [hj']) hj' hz hb (fun x s => rfl)
      have jv : meJoin (.str [32]) [.ref (s ++ [O.lst []]).length] (s ++ [O.lst []] ++ [O.lst ((z.map itext).map D.str)]) = .ok (.str (joinL [32] (z.map itext))) (s ++ [O.lst []] ++ [O.lst ((z.map itext).map D.str)]) :=
        join_v (B := 40) getL_end (fun y hy => by
          obtain ⟨t, ht, rfl⟩ := List.mem_map.mp hy
          exact itext_len (hb t ht).1 (hb t ht).2) (by decide) (by simpa using hz) (by decide)
      have ty : ∀ s : S, tyIs "str" s (.str [32]) = true := fun _ => rfl
      rw [← List.append_assoc]
      simp only [Fe.bind_ok, Fe.bind_exc, Fe.lift_ok, Fe.lift_exc, Fe.seq_nx, Fe.seq_rt, Fe.seq_exc, Fe.v_non, Fe.v_bl, Fe.v_int, Fe.v_str, Fe.v_var, Fe.v_con, Fe.v_bin, Fe.v_neg, Fe.v_cmp, Fe.v_chn, Fe.v_and, Fe.v_or, Fe.v_not, Fe.v_ite, Fe.v_tup, Fe.v_lst, Fe.v_ix, Fe.v_sl, Fe.v_call, Fe.v_bi, Fe.v_isi, Fe.v_me, Fe.v_lc, Fe.v_dct, Fe.v_rev, Fe.v_fld, Fe.v_mt, Fe.v_pr, Fe.v_mk, Fe.v_oinT, Fe.v_oinF, Fe.v_inV, Fe.v_olen, Fe.v_lenOwn, Fe.v_obool, Fe.v_boolOwn, Fe.v_otru, Fe.v_oix, Fe.v_lrg, Fe.v_trg, Fe.v_ostr, Fe.v_strOwn, Fe.v_asSt, Fe.v_fst, Fe.v_noExc, Fe.v_asBl, Fe.v_asB, Fe.v_asTru, Fe.v_asNon, Fe.o_no, Fe.o_int, Fe.o_var, Fe.o_bin, Fe.o_neg, Fe.o_ite, Fe.asI_int, Fe.t_no, Fe.t_cmp, Fe.t_chn, Fe.t_and, Fe.t_or, Fe.t_not, Fe.t_call, Fe.t_var, Fe.t_isi, Fe.t_bi, Fe.t_oinT, Fe.t_oinF, Fe.t_otru, Fe.t_obool, Fe.t_mt, Fe.t_pr, Fe.t_fld, Fe.t_tru, Fe.sems_nil, Fe.sems_cons, Fe.args_nil, Fe.args_cons, Fe.andV_1, Fe.andV_2, Fe.orV_1, Fe.orV_2, Fe.andT_1, Fe.andT_2, Fe.orT_1, Fe.orT_2, Fe.v_lam, Fe.i_rng, Fe.i_tup, Fe.i_var, Fe.i_fld, Fe.i_mt, Fe.i_oix, Fe.i_enu, Fe.i_call, Fe.x_retN, Fe.x_pass, Fe.x_whl, Fe.x_setf, Fe.x_nil, Fe.x_cons, Fe.x_set, Fe.x_ret, Fe.x_expr, Fe.x_ite, Fe.x_sub, Fe.x_par, Fe.x_asg, Fe.x_for, Fe.x_met, Fe.x_rais, lk_0, lk_s, int_int, add_int, Cm.f, Ar.f, Bi.f, Me.f, Me.T, liftT, List.set_cons_succ, List.set_cons_zero, mkL_nil, nn, Bool.not_false, if_true, ty, tt, jv, if_neg hv]
  obtain ⟨g, e⟩ := e
  rw [e]
  exact trim_app strFlat
theorem rows_get {i : Nat} : (rows qs)[i]? = (qs[i]?).map (row i) := List.getElem?_mapIdx
theorem rows_len : (rows qs).length = qs.length := List.length_mapIdx
theorem row_mem {y : List Nat} (h : y ∈ rows qs) : ∃ (i : Nat) (z : List Int), qs[i]? = some z ∧ y = row i z := by
  obtain ⟨i, hi⟩ := List.getElem?_of_mem h
  rw [rows_get] at hi
  obtain ⟨z, hz, rfl⟩ := Option.map_eq_some_iff.mp hi
  exact ⟨i, z, hz, rfl⟩
theorem rows_le (few : qs.length ≤ 3) (hz : ∀ z ∈ qs, z.length ≤ 100) (hb : ∀ z ∈ qs, ∀ t ∈ z, 0 ≤ t ∧ t < Big) : ∀ y ∈ rows qs, y.length ≤ 6000 := fun y hy => by
  obtain ⟨i, z, h1, rfl⟩ := row_mem hy
  have hi := (List.getElem?_eq_some_iff.mp h1).1
  exact row_len (by omega) (hz z (List.mem_of_getElem? h1)) (hb z (List.mem_of_getElem? h1))
theorem str_spec [hT : Has T tq textOfF] [hS : Has T sx (strF tq)] (Q : QAt s a L ls qs) (hz : ∀ z ∈ qs, z.length ≤ 100) (hb : ∀ z ∈ qs, ∀ t ∈ z, 0 ≤ t ∧ t < Big) : callF T (k + 2) sx [.ref a] s = .ok (.str (textL qs)) s := by
  rw [call_at hS.at_ rfl]
  show trimO s (retO (execs (callF T (k + 1)) (strB tq) [some (.ref a), none, none] s)) = _
  have few := Q.few
  have fewq : qs.length ≤ 3 := by rw [← Q.len]; exact few
  have src : (sem (callF T (k + 1)) (.enu OL)).i [some (.ref a), none, none] s = .ok ⟨enumD 0 (ls.map .ref), some (L, ls.map .ref)⟩ s := by
    simp only [Fe.bind_ok, Fe.bind_exc, Fe.lift_ok, Fe.lift_exc, Fe.seq_nx, Fe.seq_rt, Fe.seq_exc, Fe.v_non, Fe.v_bl, Fe.v_int, Fe.v_str, Fe.v_var, Fe.v_con, Fe.v_bin, Fe.v_neg, Fe.v_cmp, Fe.v_chn, Fe.v_and, Fe.v_or, Fe.v_not, Fe.v_ite, Fe.v_tup, Fe.v_lst, Fe.v_ix, Fe.v_sl, Fe.v_call, Fe.v_bi, Fe.v_isi, Fe.v_me, Fe.v_lc, Fe.v_dct, Fe.v_rev, Fe.v_fld, Fe.v_mt, Fe.v_pr, Fe.v_mk, Fe.v_oinT, Fe.v_oinF, Fe.v_inV, Fe.v_olen, Fe.v_lenOwn, Fe.v_obool, Fe.v_boolOwn, Fe.v_otru, Fe.v_oix, Fe.v_lrg, Fe.v_trg, Fe.v_ostr, Fe.v_strOwn, Fe.v_asSt, Fe.v_fst, Fe.v_noExc, Fe.v_asBl, Fe.v_asB, Fe.v_asTru, Fe.v_asNon, Fe.o_no, Fe.o_int, Fe.o_var, Fe.o_bin, Fe.o_neg, Fe.o_ite, Fe.asI_int, Fe.t_no, Fe.t_cmp, Fe.t_chn, Fe.t_and, Fe.t_or, Fe.t_not, Fe.t_call, Fe.t_var, Fe.t_isi, Fe.t_bi, Fe.t_oinT, Fe.t_oinF, Fe.t_otru, Fe.t_obool, Fe.t_mt, Fe.t_pr, Fe.t_fld, Fe.t_tru, Fe.sems_nil, Fe.sems_cons, Fe.args_nil, Fe.args_cons, Fe.andV_1, Fe.andV_2, Fe.orV_1, Fe.orV_2, Fe.andT_1, Fe.andT_2, Fe.orT_1, Fe.orT_2, Fe.v_lam, Fe.i_rng, Fe.i_tup, Fe.i_var, Fe.i_fld, Fe.i_mt, Fe.i_oix, Fe.i_enu, Fe.i_call, Fe.x_retN, Fe.x_pass, Fe.x_whl, Fe.x_setf, Fe.x_nil, Fe.x_cons, Fe.x_set, Fe.x_ret, Fe.x_expr, Fe.x_ite, Fe.x_sub, Fe.x_par, Fe.x_asg, Fe.x_for, Fe.x_met, Fe.x_rais, lk_0, lk_s, int_int, add_int, Cm.f, Ar.f, Bi.f, Me.f, Me.T, liftT, List.set_cons_succ, List.set_cons_zero, Q.fld]
    show (match getL s L with | some ds => _ | none => _) = _
    rw [Q.getL_]
  have lc := lcV_zip (t := (sem (callF T (k + 1)) .no).t) (e := (sem (callF T (k + 1)) (.fst [(.var 1), (.str [58, 32]), (.call tq [(.var 2)])])).v) (bind := bnd (.tp [.nm 1, .nm 2])) (own := [1, 2]) (ys := (rows qs).map D.str) src
    (fun i l e => by cases e; exact Q.getL_) (by show (enumD 0 (ls.map D.ref)).length ≤ line; rw [enumD_len, List.length_map]; unfold line; omega) (by show (enumD 0 (ls.map D.ref)).length = _; rw [enumD_len, List.length_map, List.length_map, rows_len, Q.len]) (fun i d y hd hy acc => by
      obtain ⟨x, hx, rfl⟩ := enum_i hd
      rw [List.getElem?_map] at hx
      obtain ⟨l, hl, rfl⟩ := Option.map_eq_some_iff.mp hx
      obtain ⟨z, hz', hs⟩ := Q.get_l hl
      rw [List.getElem?_map, rows_get, hz'] at hy
      cases hy
      have zb := hb z (List.mem_of_getElem? hz')
      have zl := hz z (List.mem_of_getElem? hz')
      have hi := (List.getElem?_eq_some_iff.mp hl).1
      have tl := tx_len zl zb
      have il := itext_len (t := (i : Int)) (by omega) (big_lt (by omega))
      refine ⟨[some (.ref a), some (.int i), some (.ref l)], rfl, rfl, ?_⟩
      have c := tof_spec (k := k) (T := T) (tq := tq) (s := s ++ [.lst acc]) (j := l) (at_app hs) zl zb
      have m1 : (sem (callF T (k + 1)) (.var 1)).v [some (.ref a), some (.int i), some (.ref l)] (s ++ [.lst acc]) = .ok (.int i) (s ++ [.lst acc]) := rfl
      have m3 : (sem (callF T (k + 1)) (.call tq [(.var 2)])).v [some (.ref a), some (.int i), some (.ref l)] (s ++ [.lst acc]) = .ok (.str (tx z)) (s ++ [.lst acc]) := by
        have e : argsV (sems (callF T (k + 1)) [(.var 2)]) [some (.ref a), some (.int i), some (.ref l)] (s ++ [.lst acc]) = .ok [.ref l] (s ++ [.lst acc]) := rfl
        rw [v_call, e, bind_ok, c]
      have f1 : fmtD (.int i) = some (itext i) := by
        unfold fmtD
        dsimp only
        rw [if_pos (log_ok (by omega) (big_lt (by omega)))]
      have f2 : fmtD (.str [58, 32]) = some [58, 32] := rfl
      have f3 : fmtD (.str (tx z)) = some (tx z) := by
        unfold fmtD
        dsimp only
        rw [if_pos (by omega)]
      rw [v_fst]
      show fstV [(sem (callF T (k + 1)) (.var 1)).v, (sem (callF T (k + 1)) (.str [58, 32])).v, (sem (callF T (k + 1)) (.call tq [(.var 2)])).v] [] _ _ = _
      unfold fstV
      rw [m1, bind_ok, f1]
      dsimp only
      rw [if_pos (by simp; unfold line; omega)]
      unfold fstV
      rw [v_str, bind_ok, f2]
      dsimp only
      rw [if_pos (by simp; unfold line; omega)]
      unfold fstV
      rw [m3, bind_ok, f3]
      dsimp only
      rw [if_pos (by simp; unfold line; omega)]
      rfl)
  have jv : meJoin (.str [44, 32]) [.ref s.length] (s ++ [O.lst ((rows qs).map D.str)]) = .ok (.str (textL qs)) (s ++ [O.lst ((rows qs).map D.str)]) :=
    join_v (B := 6000) getL_end (rows_le fewq hz hb) (by decide) (by rw [rows_len]; omega) (by decide)
  have ty : ∀ s : S, tyIs "str" s (.str [44, 32]) = true := fun _ => rfl
  have e : execs (callF T (k + 1)) (strB tq) [some (.ref a), none, none] s = .rt (.str (textL qs)) (s ++ [O.lst ((rows qs).map D.str)]) := by
    unfold strB
    simp only [Fe.bind_ok, Fe.bind_exc, Fe.lift_ok, Fe.lift_exc, Fe.seq_nx, Fe.seq_rt, Fe.seq_exc, Fe.v_non, Fe.v_bl, Fe.v_int, Fe.v_str, Fe.v_var, Fe.v_con, Fe.v_bin, Fe.v_neg, Fe.v_cmp, Fe.v_chn, Fe.v_and, Fe.v_or, Fe.v_not, Fe.v_ite, Fe.v_tup, Fe.v_lst, Fe.v_ix, Fe.v_sl, Fe.v_call, Fe.v_bi, Fe.v_isi, Fe.v_me, Fe.v_lc, Fe.v_dct, Fe.v_rev, Fe.v_fld, Fe.v_mt, Fe.v_pr, Fe.v_mk, Fe.v_oinT, Fe.v_oinF, Fe.v_inV, Fe.v_olen, Fe.v_lenOwn, Fe.v_obool, Fe.v_boolOwn, Fe.v_otru, Fe.v_oix, Fe.v_lrg, Fe.v_trg, Fe.v_ostr, Fe.v_strOwn, Fe.v_asSt, Fe.v_fst, Fe.v_noExc, Fe.v_asBl, Fe.v_asB, Fe.v_asTru, Fe.v_asNon, Fe.o_no, Fe.o_int, Fe.o_var, Fe.o_bin, Fe.o_neg, Fe.o_ite, Fe.asI_int, Fe.t_no, Fe.t_cmp, Fe.t_chn, Fe.t_and, Fe.t_or, Fe.t_not, Fe.t_call, Fe.t_var, Fe.t_isi, Fe.t_bi, Fe.t_oinT, Fe.t_oinF, Fe.t_otru, Fe.t_obool, Fe.t_mt, Fe.t_pr, Fe.t_fld, Fe.t_tru, Fe.sems_nil, Fe.sems_cons, Fe.args_nil, Fe.args_cons, Fe.andV_1, Fe.andV_2, Fe.orV_1, Fe.orV_2, Fe.andT_1, Fe.andT_2, Fe.orT_1, Fe.orT_2, Fe.v_lam, Fe.i_rng, Fe.i_tup, Fe.i_var, Fe.i_fld, Fe.i_mt, Fe.i_oix, Fe.i_enu, Fe.i_call, Fe.x_retN, Fe.x_pass, Fe.x_whl, Fe.x_setf, Fe.x_nil, Fe.x_cons, Fe.x_set, Fe.x_ret, Fe.x_expr, Fe.x_ite, Fe.x_sub, Fe.x_par, Fe.x_asg, Fe.x_for, Fe.x_met, Fe.x_rais, lk_0, lk_s, int_int, add_int, Cm.f, Ar.f, Bi.f, Me.f, Me.T, liftT, List.set_cons_succ, List.set_cons_zero, ty, if_true, lc, jv]
  rw [e]
  exact trim_app strFlat
end
end Fe

set_option maxHeartbeats 4000000
/-! Fe O: the class Queues: what it refuses. -/
namespace Fe
open PySem PySem.Spec PyProof.Rows
open L2 (atI ixN)
section
variable {T : List Fd} {q : QI} {k : Nat} {s g : S} {a L : Nat} {ls : List Nat} {qs : List (List Int)} {t : Int} {v x y : D} {m : Int}
theorem trim_exc {c : Xc} : trimO s (.exc c s) = .exc c s := by
  unfold trimO
  dsimp only
  split
  · rw [List.take_length]
  · rfl
theorem trim_excApp {c : Xc} (h : D.flats c.ds = true) : trimO s (.exc c (s ++ g)) = .exc c s := by
  unfold trimO
  dsimp only
  rw [h, decide_eq_true (show s.length ≤ (s ++ g).length by simp), sameOr_app]
  simp
def NoI (T : List Fd) (q : QI) (s : S) (v : D) : Prop := ∀ k, callF T (k + 1) q.isI [v] s = .ok (.bl false) s
def NoN (T : List Fd) (q : QI) (s : S) (v : D) : Prop := ∀ k, callF T (k + 2) q.isN [v] s = .ok (.bl false) s
def NoB (T : List Fd) (q : QI) (s : S) (v : D) (m : Int) : Prop := ∀ k, callF T (k + 2) q.isB [v, .int m] s = .ok (.bl false) s
def NoP (T : List Fd) (q : QI) (s : S) (v : D) : Prop := ∀ k, callF T (k + 1) q.isP [v] s = .ok (.bl false) s
theorem noI_of [hI : Has T q.isI (isIF q)] (h : ∀ k, execs (callF T k) (isIB q) [some v] s = .rt (.bl false) s) : NoI T q s v := fun k => by
  rw [call_at hI.at_ rfl]
  show trimO s (retO (execs (callF T k) (isIB q) [some v] s)) = _
  rw [h]; exact trim_id rfl
theorem noI_ty [hI : Has T q.isI (isIF q)] (h : opIsi .int v s = .ok (.bl false) s) : NoI T q s v := noI_of fun k => by
  unfold isIB
  simp only [Fe.bind_ok, Fe.bind_exc, Fe.lift_ok, Fe.lift_exc, Fe.seq_nx, Fe.seq_rt, Fe.seq_exc, Fe.v_non, Fe.v_bl, Fe.v_int, Fe.v_str, Fe.v_var, Fe.v_con, Fe.v_bin, Fe.v_neg, Fe.v_cmp, Fe.v_chn, Fe.v_and, Fe.v_or, Fe.v_not, Fe.v_ite, Fe.v_tup, Fe.v_lst, Fe.v_ix, Fe.v_sl, Fe.v_call, Fe.v_bi, Fe.v_isi, Fe.v_me, Fe.v_lc, Fe.v_dct, Fe.v_rev, Fe.v_fld, Fe.v_mt, Fe.v_pr, Fe.v_mk, Fe.v_oinT, Fe.v_oinF, Fe.v_inV, Fe.v_olen, Fe.v_lenOwn, Fe.v_obool, Fe.v_boolOwn, Fe.v_otru, Fe.v_oix, Fe.v_lrg, Fe.v_trg, Fe.v_ostr, Fe.v_strOwn, Fe.v_asSt, Fe.v_fst, Fe.v_noExc, Fe.v_asBl, Fe.v_asB, Fe.v_asTru, Fe.v_asNon, Fe.o_no, Fe.o_int, Fe.o_var, Fe.o_bin, Fe.o_neg, Fe.o_ite, Fe.asI_int, Fe.t_no, Fe.t_cmp, Fe.t_chn, Fe.t_and, Fe.t_or, Fe.t_not, Fe.t_call, Fe.t_var, Fe.t_isi, Fe.t_bi, Fe.t_oinT, Fe.t_oinF, Fe.t_otru, Fe.t_obool, Fe.t_mt, Fe.t_pr, Fe.t_fld, Fe.t_tru, Fe.sems_nil, Fe.sems_cons, Fe.args_nil, Fe.args_cons, Fe.andV_1, Fe.andV_2, Fe.orV_1, Fe.orV_2, Fe.andT_1, Fe.andT_2, Fe.orT_1, Fe.orT_2, Fe.v_lam, Fe.i_rng, Fe.i_tup, Fe.i_var, Fe.i_fld, Fe.i_mt, Fe.i_oix, Fe.i_enu, Fe.i_call, Fe.x_retN, Fe.x_pass, Fe.x_whl, Fe.x_setf, Fe.x_nil, Fe.x_cons, Fe.x_set, Fe.x_ret, Fe.x_expr, Fe.x_ite, Fe.x_sub, Fe.x_par, Fe.x_asg, Fe.x_for, Fe.x_met, Fe.x_rais, lk_0, lk_s, int_int, add_int, Cm.f, Ar.f, Bi.f, Me.f, Me.T, liftT, List.set_cons_succ, List.set_cons_zero, h, Bool.false_eq_true, if_false]
theorem noI_bl [hI : Has T q.isI (isIF q)] {u : Bool} : NoI T q s (.bl u) := noI_of fun k => by
  have h1 : opIsi .int (.bl u) s = .ok (.bl true) s := rfl
  have h2 : opIsi .bl (.bl u) s = .ok (.bl true) s := rfl
  unfold isIB
  simp only [Fe.bind_ok, Fe.bind_exc, Fe.lift_ok, Fe.lift_exc, Fe.seq_nx, Fe.seq_rt, Fe.seq_exc, Fe.v_non, Fe.v_bl, Fe.v_int, Fe.v_str, Fe.v_var, Fe.v_con, Fe.v_bin, Fe.v_neg, Fe.v_cmp, Fe.v_chn, Fe.v_and, Fe.v_or, Fe.v_not, Fe.v_ite, Fe.v_tup, Fe.v_lst, Fe.v_ix, Fe.v_sl, Fe.v_call, Fe.v_bi, Fe.v_isi, Fe.v_me, Fe.v_lc, Fe.v_dct, Fe.v_rev, Fe.v_fld, Fe.v_mt, Fe.v_pr, Fe.v_mk, Fe.v_oinT, Fe.v_oinF, Fe.v_inV, Fe.v_olen, Fe.v_lenOwn, Fe.v_obool, Fe.v_boolOwn, Fe.v_otru, Fe.v_oix, Fe.v_lrg, Fe.v_trg, Fe.v_ostr, Fe.v_strOwn, Fe.v_asSt, Fe.v_fst, Fe.v_noExc, Fe.v_asBl, Fe.v_asB, Fe.v_asTru, Fe.v_asNon, Fe.o_no, Fe.o_int, Fe.o_var, Fe.o_bin, Fe.o_neg, Fe.o_ite, Fe.asI_int, Fe.t_no, Fe.t_cmp, Fe.t_chn, Fe.t_and, Fe.t_or, Fe.t_not, Fe.t_call, Fe.t_var, Fe.t_isi, Fe.t_bi, Fe.t_oinT, Fe.t_oinF, Fe.t_otru, Fe.t_obool, Fe.t_mt, Fe.t_pr, Fe.t_fld, Fe.t_tru, Fe.sems_nil, Fe.sems_cons, Fe.args_nil, Fe.args_cons, Fe.andV_1, Fe.andV_2, Fe.orV_1, Fe.orV_2, Fe.andT_1, Fe.andT_2, Fe.orT_1, Fe.orT_2, Fe.v_lam, Fe.i_rng, Fe.i_tup, Fe.i_var, Fe.i_fld, Fe.i_mt, Fe.i_oix, Fe.i_enu, Fe.i_call, Fe.x_retN, Fe.x_pass, Fe.x_whl, Fe.x_setf, Fe.x_nil, Fe.x_cons, Fe.x_set, Fe.x_ret, Fe.x_expr, Fe.x_ite, Fe.x_sub, Fe.x_par, Fe.x_asg, Fe.x_for, Fe.x_met, Fe.x_rais, lk_0, lk_s, int_int, add_int, Cm.f, Ar.f, Bi.f, Me.f, Me.T, liftT, List.set_cons_succ, List.set_cons_zero, h1, h2, if_true, Bool.not_true, Bool.false_eq_true, if_false]
theorem noI_big [hI : Has T q.isI (isIF q)] (h : Big ≤ t) : NoI T q s (.int t) := noI_of fun k => by
  have i1 : decide (-Big < t) = true := decide_eq_true (by unfold Big at *; omega)
  have i2 : decide (t < Big) = false := decide_eq_false (by omega)
  unfold isIB
  simp only [Fe.bind_ok, Fe.bind_exc, Fe.lift_ok, Fe.lift_exc, Fe.seq_nx, Fe.seq_rt, Fe.seq_exc, Fe.v_non, Fe.v_bl, Fe.v_int, Fe.v_str, Fe.v_var, Fe.v_con, Fe.v_bin, Fe.v_neg, Fe.v_cmp, Fe.v_chn, Fe.v_and, Fe.v_or, Fe.v_not, Fe.v_ite, Fe.v_tup, Fe.v_lst, Fe.v_ix, Fe.v_sl, Fe.v_call, Fe.v_bi, Fe.v_isi, Fe.v_me, Fe.v_lc, Fe.v_dct, Fe.v_rev, Fe.v_fld, Fe.v_mt, Fe.v_pr, Fe.v_mk, Fe.v_oinT, Fe.v_oinF, Fe.v_inV, Fe.v_olen, Fe.v_lenOwn, Fe.v_obool, Fe.v_boolOwn, Fe.v_otru, Fe.v_oix, Fe.v_lrg, Fe.v_trg, Fe.v_ostr, Fe.v_strOwn, Fe.v_asSt, Fe.v_fst, Fe.v_noExc, Fe.v_asBl, Fe.v_asB, Fe.v_asTru, Fe.v_asNon, Fe.o_no, Fe.o_int, Fe.o_var, Fe.o_bin, Fe.o_neg, Fe.o_ite, Fe.asI_int, Fe.t_no, Fe.t_cmp, Fe.t_chn, Fe.t_and, Fe.t_or, Fe.t_not, Fe.t_call, Fe.t_var, Fe.t_isi, Fe.t_bi, Fe.t_oinT, Fe.t_oinF, Fe.t_otru, Fe.t_obool, Fe.t_mt, Fe.t_pr, Fe.t_fld, Fe.t_tru, Fe.sems_nil, Fe.sems_cons, Fe.args_nil, Fe.args_cons, Fe.andV_1, Fe.andV_2, Fe.orV_1, Fe.orV_2, Fe.andT_1, Fe.andT_2, Fe.orT_1, Fe.orT_2, Fe.v_lam, Fe.i_rng, Fe.i_tup, Fe.i_var, Fe.i_fld, Fe.i_mt, Fe.i_oix, Fe.i_enu, Fe.i_call, Fe.x_retN, Fe.x_pass, Fe.x_whl, Fe.x_setf, Fe.x_nil, Fe.x_cons, Fe.x_set, Fe.x_ret, Fe.x_expr, Fe.x_ite, Fe.x_sub, Fe.x_par, Fe.x_asg, Fe.x_for, Fe.x_met, Fe.x_rais, lk_0, lk_s, int_int, add_int, Cm.f, Ar.f, Bi.f, Me.f, Me.T, liftT, List.set_cons_succ, List.set_cons_zero, isi_ii, isi_bi, if_true, Bool.not_false, neg_i, lt_i, i1, i2]
theorem noI_low [hI : Has T q.isI (isIF q)] (h : t ≤ -Big) : NoI T q s (.int t) := noI_of fun k => by
  have i1 : decide (-Big < t) = false := decide_eq_false (by omega)
  unfold isIB
  simp only [Fe.bind_ok, Fe.bind_exc, Fe.lift_ok, Fe.lift_exc, Fe.seq_nx, Fe.seq_rt, Fe.seq_exc, Fe.v_non, Fe.v_bl, Fe.v_int, Fe.v_str, Fe.v_var, Fe.v_con, Fe.v_bin, Fe.v_neg, Fe.v_cmp, Fe.v_chn, Fe.v_and, Fe.v_or, Fe.v_not, Fe.v_ite, Fe.v_tup, Fe.v_lst, Fe.v_ix, Fe.v_sl, Fe.v_call, Fe.v_bi, Fe.v_isi, Fe.v_me, Fe.v_lc, Fe.v_dct, Fe.v_rev, Fe.v_fld, Fe.v_mt, Fe.v_pr, Fe.v_mk, Fe.v_oinT, Fe.v_oinF, Fe.v_inV, Fe.v_olen, Fe.v_lenOwn, Fe.v_obool, Fe.v_boolOwn, Fe.v_otru, Fe.v_oix, Fe.v_lrg, Fe.v_trg, Fe.v_ostr, Fe.v_strOwn, Fe.v_asSt, Fe.v_fst, Fe.v_noExc, Fe.v_asBl, Fe.v_asB, Fe.v_asTru, Fe.v_asNon, Fe.o_no, Fe.o_int, Fe.o_var, Fe.o_bin, Fe.o_neg, Fe.o_ite, Fe.asI_int, Fe.t_no, Fe.t_cmp, Fe.t_chn, Fe.t_and, Fe.t_or, Fe.t_not, Fe.t_call, Fe.t_var, Fe.t_isi, Fe.t_bi, Fe.t_oinT, Fe.t_oinF, Fe.t_otru, Fe.t_obool, Fe.t_mt, Fe.t_pr, Fe.t_fld, Fe.t_tru, Fe.sems_nil, Fe.sems_cons, Fe.args_nil, Fe.args_cons, Fe.andV_1, Fe.andV_2, Fe.orV_1, Fe.orV_2, Fe.andT_1, Fe.andT_2, Fe.orT_1, Fe.orT_2, Fe.v_lam, Fe.i_rng, Fe.i_tup, Fe.i_var, Fe.i_fld, Fe.i_mt, Fe.i_oix, Fe.i_enu, Fe.i_call, Fe.x_retN, Fe.x_pass, Fe.x_whl, Fe.x_setf, Fe.x_nil, Fe.x_cons, Fe.x_set, Fe.x_ret, Fe.x_expr, Fe.x_ite, Fe.x_sub, Fe.x_par, Fe.x_asg, Fe.x_for, Fe.x_met, Fe.x_rais, lk_0, lk_s, int_int, add_int, Cm.f, Ar.f, Bi.f, Me.f, Me.T, liftT, List.set_cons_succ, List.set_cons_zero, isi_ii, isi_bi, if_true, Bool.not_false, neg_i, lt_i, i1, Bool.false_eq_true, if_false]
theorem noN_of [hN : Has T q.isN (isNF q)] (h : NoI T q s v) : NoN T q s v := fun k => by
  rw [call_at hN.at_ rfl]
  show trimO s (retO (execs (callF T (k + 1)) (isNB q) [some v] s)) = _
  have e : execs (callF T (k + 1)) (isNB q) [some v] s = .rt (.bl false) s := by
    unfold isNB
    simp only [Fe.bind_ok, Fe.bind_exc, Fe.lift_ok, Fe.lift_exc, Fe.seq_nx, Fe.seq_rt, Fe.seq_exc, Fe.v_non, Fe.v_bl, Fe.v_int, Fe.v_str, Fe.v_var, Fe.v_con, Fe.v_bin, Fe.v_neg, Fe.v_cmp, Fe.v_chn, Fe.v_and, Fe.v_or, Fe.v_not, Fe.v_ite, Fe.v_tup, Fe.v_lst, Fe.v_ix, Fe.v_sl, Fe.v_call, Fe.v_bi, Fe.v_isi, Fe.v_me, Fe.v_lc, Fe.v_dct, Fe.v_rev, Fe.v_fld, Fe.v_mt, Fe.v_pr, Fe.v_mk, Fe.v_oinT, Fe.v_oinF, Fe.v_inV, Fe.v_olen, Fe.v_lenOwn, Fe.v_obool, Fe.v_boolOwn, Fe.v_otru, Fe.v_oix, Fe.v_lrg, Fe.v_trg, Fe.v_ostr, Fe.v_strOwn, Fe.v_asSt, Fe.v_fst, Fe.v_noExc, Fe.v_asBl, Fe.v_asB, Fe.v_asTru, Fe.v_asNon, Fe.o_no, Fe.o_int, Fe.o_var, Fe.o_bin, Fe.o_neg, Fe.o_ite, Fe.asI_int, Fe.t_no, Fe.t_cmp, Fe.t_chn, Fe.t_and, Fe.t_or, Fe.t_not, Fe.t_call, Fe.t_var, Fe.t_isi, Fe.t_bi, Fe.t_oinT, Fe.t_oinF, Fe.t_otru, Fe.t_obool, Fe.t_mt, Fe.t_pr, Fe.t_fld, Fe.t_tru, Fe.sems_nil, Fe.sems_cons, Fe.args_nil, Fe.args_cons, Fe.andV_1, Fe.andV_2, Fe.orV_1, Fe.orV_2, Fe.andT_1, Fe.andT_2, Fe.orT_1, Fe.orT_2, Fe.v_lam, Fe.i_rng, Fe.i_tup, Fe.i_var, Fe.i_fld, Fe.i_mt, Fe.i_oix, Fe.i_enu, Fe.i_call, Fe.x_retN, Fe.x_pass, Fe.x_whl, Fe.x_setf, Fe.x_nil, Fe.x_cons, Fe.x_set, Fe.x_ret, Fe.x_expr, Fe.x_ite, Fe.x_sub, Fe.x_par, Fe.x_asg, Fe.x_for, Fe.x_met, Fe.x_rais, lk_0, lk_s, int_int, add_int, Cm.f, Ar.f, Bi.f, Me.f, Me.T, liftT, List.set_cons_succ, List.set_cons_zero, h k, Bool.false_eq_true, if_false]
  rw [e]; exact trim_id rfl
theorem noN_neg [hI : Has T q.isI (isIF q)] [hN : Has T q.isN (isNF q)] (h0 : -Big < t) (h1 : t < 0) : NoN T q s (.int t) := fun k => by
  rw [call_at hN.at_ rfl]
  show trimO s (retO (execs (callF T (k + 1)) (isNB q) [some (.int t)] s)) = _
  have e : execs (callF T (k + 1)) (isNB q) [some (.int t)] s = .rt (.bl false) s := by
    unfold isNB
    simp only [Fe.bind_ok, Fe.bind_exc, Fe.lift_ok, Fe.lift_exc, Fe.seq_nx, Fe.seq_rt, Fe.seq_exc, Fe.v_non, Fe.v_bl, Fe.v_int, Fe.v_str, Fe.v_var, Fe.v_con, Fe.v_bin, Fe.v_neg, Fe.v_cmp, Fe.v_chn, Fe.v_and, Fe.v_or, Fe.v_not, Fe.v_ite, Fe.v_tup, Fe.v_lst, Fe.v_ix, Fe.v_sl, Fe.v_call, Fe.v_bi, Fe.v_isi, Fe.v_me, Fe.v_lc, Fe.v_dct, Fe.v_rev, Fe.v_fld, Fe.v_mt, Fe.v_pr, Fe.v_mk, Fe.v_oinT, Fe.v_oinF, Fe.v_inV, Fe.v_olen, Fe.v_lenOwn, Fe.v_obool, Fe.v_boolOwn, Fe.v_otru, Fe.v_oix, Fe.v_lrg, Fe.v_trg, Fe.v_ostr, Fe.v_strOwn, Fe.v_asSt, Fe.v_fst, Fe.v_noExc, Fe.v_asBl, Fe.v_asB, Fe.v_asTru, Fe.v_asNon, Fe.o_no, Fe.o_int, Fe.o_var, Fe.o_bin, Fe.o_neg, Fe.o_ite, Fe.asI_int, Fe.t_no, Fe.t_cmp, Fe.t_chn, Fe.t_and, Fe.t_or, Fe.t_not, Fe.t_call, Fe.t_var, Fe.t_isi, Fe.t_bi, Fe.t_oinT, Fe.t_oinF, Fe.t_otru, Fe.t_obool, Fe.t_mt, Fe.t_pr, Fe.t_fld, Fe.t_tru, Fe.sems_nil, Fe.sems_cons, Fe.args_nil, Fe.args_cons, Fe.andV_1, Fe.andV_2, Fe.orV_1, Fe.orV_2, Fe.andT_1, Fe.andT_2, Fe.orT_1, Fe.orT_2, Fe.v_lam, Fe.i_rng, Fe.i_tup, Fe.i_var, Fe.i_fld, Fe.i_mt, Fe.i_oix, Fe.i_enu, Fe.i_call, Fe.x_retN, Fe.x_pass, Fe.x_whl, Fe.x_setf, Fe.x_nil, Fe.x_cons, Fe.x_set, Fe.x_ret, Fe.x_expr, Fe.x_ite, Fe.x_sub, Fe.x_par, Fe.x_asg, Fe.x_for, Fe.x_met, Fe.x_rais, lk_0, lk_s, int_int, add_int, Cm.f, Ar.f, Bi.f, Me.f, Me.T, liftT, List.set_cons_succ, List.set_cons_zero, isI_spec (q := q) (k := k) (s := s) h0 (show t < Big by unfold Big; omega), if_true, ge_i, decide_eq_false (show ¬ (0 : Int) ≤ t by omega)]
  rw [e]; exact trim_id rfl
theorem noB_of [hB : Has T q.isB (isBF q)] (h : NoI T q s v) : NoB T q s v m := fun k => by
  rw [call_at hB.at_ rfl]
  show trimO s (retO (execs (callF T (k + 1)) (isBB q) [some v, some (.int m)] s)) = _
  have e : execs (callF T (k + 1)) (isBB q) [some v, some (.int m)] s = .rt (.bl false) s := by
    unfold isBB
    simp only [Fe.bind_ok, Fe.bind_exc, Fe.lift_ok, Fe.lift_exc, Fe.seq_nx, Fe.seq_rt, Fe.seq_exc, Fe.v_non, Fe.v_bl, Fe.v_int, Fe.v_str, Fe.v_var, Fe.v_con, Fe.v_bin, Fe.v_neg, Fe.v_cmp, Fe.v_chn, Fe.v_and, Fe.v_or, Fe.v_not, Fe.v_ite, Fe.v_tup, Fe.v_lst, Fe.v_ix, Fe.v_sl, Fe.v_call, Fe.v_bi, Fe.v_isi, Fe.v_me, Fe.v_lc, Fe.v_dct, Fe.v_rev, Fe.v_fld, Fe.v_mt, Fe.v_pr, Fe.v_mk, Fe.v_oinT, Fe.v_oinF, Fe.v_inV, Fe.v_olen, Fe.v_lenOwn, Fe.v_obool, Fe.v_boolOwn, Fe.v_otru, Fe.v_oix, Fe.v_lrg, Fe.v_trg, Fe.v_ostr, Fe.v_strOwn, Fe.v_asSt, Fe.v_fst, Fe.v_noExc, Fe.v_asBl, Fe.v_asB, Fe.v_asTru, Fe.v_asNon, Fe.o_no, Fe.o_int, Fe.o_var, Fe.o_bin, Fe.o_neg, Fe.o_ite, Fe.asI_int, Fe.t_no, Fe.t_cmp, Fe.t_chn, Fe.t_and, Fe.t_or, Fe.t_not, Fe.t_call, Fe.t_var, Fe.t_isi, Fe.t_bi, Fe.t_oinT, Fe.t_oinF, Fe.t_otru, Fe.t_obool, Fe.t_mt, Fe.t_pr, Fe.t_fld, Fe.t_tru, Fe.sems_nil, Fe.sems_cons, Fe.args_nil, Fe.args_cons, Fe.andV_1, Fe.andV_2, Fe.orV_1, Fe.orV_2, Fe.andT_1, Fe.andT_2, Fe.orT_1, Fe.orT_2, Fe.v_lam, Fe.i_rng, Fe.i_tup, Fe.i_var, Fe.i_fld, Fe.i_mt, Fe.i_oix, Fe.i_enu, Fe.i_call, Fe.x_retN, Fe.x_pass, Fe.x_whl, Fe.x_setf, Fe.x_nil, Fe.x_cons, Fe.x_set, Fe.x_ret, Fe.x_expr, Fe.x_ite, Fe.x_sub, Fe.x_par, Fe.x_asg, Fe.x_for, Fe.x_met, Fe.x_rais, lk_0, lk_s, int_int, add_int, Cm.f, Ar.f, Bi.f, Me.f, Me.T, liftT, List.set_cons_succ, List.set_cons_zero, h k, Bool.false_eq_true, if_false]
  rw [e]; exact trim_id rfl
theorem noB_int [hI : Has T q.isI (isIF q)] [hB : Has T q.isB (isBF q)] (h0 : -Big < t) (h1 : t < Big) (h : t < 0 ∨ m ≤ t) : NoB T q s (.int t) m := fun k => by
  rw [call_at hB.at_ rfl]
  show trimO s (retO (execs (callF T (k + 1)) (isBB q) [some (.int t), some (.int m)] s)) = _
  have e : execs (callF T (k + 1)) (isBB q) [some (.int t), some (.int m)] s = .rt (.bl false) s := by
    unfold isBB
    simp only [Fe.bind_ok, Fe.bind_exc, Fe.lift_ok, Fe.lift_exc, Fe.seq_nx, Fe.seq_rt, Fe.seq_exc, Fe.v_non, Fe.v_bl, Fe.v_int, Fe.v_str, Fe.v_var, Fe.v_con, Fe.v_bin, Fe.v_neg, Fe.v_cmp, Fe.v_chn, Fe.v_and, Fe.v_or, Fe.v_not, Fe.v_ite, Fe.v_tup, Fe.v_lst, Fe.v_ix, Fe.v_sl, Fe.v_call, Fe.v_bi, Fe.v_isi, Fe.v_me, Fe.v_lc, Fe.v_dct, Fe.v_rev, Fe.v_fld, Fe.v_mt, Fe.v_pr, Fe.v_mk, Fe.v_oinT, Fe.v_oinF, Fe.v_inV, Fe.v_olen, Fe.v_lenOwn, Fe.v_obool, Fe.v_boolOwn, Fe.v_otru, Fe.v_oix, Fe.v_lrg, Fe.v_trg, Fe.v_ostr, Fe.v_strOwn, Fe.v_asSt, Fe.v_fst, Fe.v_noExc, Fe.v_asBl, Fe.v_asB, Fe.v_asTru, Fe.v_asNon, Fe.o_no, Fe.o_int, Fe.o_var, Fe.o_bin, Fe.o_neg, Fe.o_ite, Fe.asI_int, Fe.t_no, Fe.t_cmp, Fe.t_chn, Fe.t_and, Fe.t_or, Fe.t_not, Fe.t_call, Fe.t_var, Fe.t_isi, Fe.t_bi, Fe.t_oinT, Fe.t_oinF, Fe.t_otru, Fe.t_obool, Fe.t_mt, Fe.t_pr, Fe.t_fld, Fe.t_tru, Fe.sems_nil, Fe.sems_cons, Fe.args_nil, Fe.args_cons, Fe.andV_1, Fe.andV_2, Fe.orV_1, Fe.orV_2, Fe.andT_1, Fe.andT_2, Fe.orT_1, Fe.orT_2, Fe.v_lam, Fe.i_rng, Fe.i_tup, Fe.i_var, Fe.i_fld, Fe.i_mt, Fe.i_oix, Fe.i_enu, Fe.i_call, Fe.x_retN, Fe.x_pass, Fe.x_whl, Fe.x_setf, Fe.x_nil, Fe.x_cons, Fe.x_set, Fe.x_ret, Fe.x_expr, Fe.x_ite, Fe.x_sub, Fe.x_par, Fe.x_asg, Fe.x_for, Fe.x_met, Fe.x_rais, lk_0, lk_s, int_int, add_int, Cm.f, Ar.f, Bi.f, Me.f, Me.T, liftT, List.set_cons_succ, List.set_cons_zero, isI_spec (q := q) (k := k) (s := s) h0 h1, if_true, le_i, lt_i]
    rcases h with h | h
    · rw [decide_eq_false (show ¬ (0 : Int) ≤ t by omega), if_neg (by decide)]
      rfl
    · by_cases h2 : (0 : Int) ≤ t
      · rw [decide_eq_true h2, if_pos rfl, decide_eq_false (show ¬ t < m by omega)]
        rfl
      · rw [decide_eq_false h2, if_neg (by decide)]
        rfl
  rw [e]; exact trim_id rfl
theorem noP_ty [hP : Has T q.isP (isPF q)] (h : opIsi .str v s = .ok (.bl false) s) : NoP T q s v := fun k => by
  rw [call_at hP.at_ rfl]
  show trimO s (retO (execs (callF T k) (isPB q) [some v] s)) = _
  have e : execs (callF T k) (isPB q) [some v] s = .rt (.bl false) s := by
    unfold isPB
    simp only [Fe.bind_ok, Fe.bind_exc, Fe.lift_ok, Fe.lift_exc, Fe.seq_nx, Fe.seq_rt, Fe.seq_exc, Fe.v_non, Fe.v_bl, Fe.v_int, Fe.v_str, Fe.v_var, Fe.v_con, Fe.v_bin, Fe.v_neg, Fe.v_cmp, Fe.v_chn, Fe.v_and, Fe.v_or, Fe.v_not, Fe.v_ite, Fe.v_tup, Fe.v_lst, Fe.v_ix, Fe.v_sl, Fe.v_call, Fe.v_bi, Fe.v_isi, Fe.v_me, Fe.v_lc, Fe.v_dct, Fe.v_rev, Fe.v_fld, Fe.v_mt, Fe.v_pr, Fe.v_mk, Fe.v_oinT, Fe.v_oinF, Fe.v_inV, Fe.v_olen, Fe.v_lenOwn, Fe.v_obool, Fe.v_boolOwn, Fe.v_otru, Fe.v_oix, Fe.v_lrg, Fe.v_trg, Fe.v_ostr, Fe.v_strOwn, Fe.v_asSt, Fe.v_fst, Fe.v_noExc, Fe.v_asBl, Fe.v_asB, Fe.v_asTru, Fe.v_asNon, Fe.o_no, Fe.o_int, Fe.o_var, Fe.o_bin, Fe.o_neg, Fe.o_ite, Fe.asI_int, Fe.t_no, Fe.t_cmp, Fe.t_chn, Fe.t_and, Fe.t_or, Fe.t_not, Fe.t_call, Fe.t_var, Fe.t_isi, Fe.t_bi, Fe.t_oinT, Fe.t_oinF, Fe.t_otru, Fe.t_obool, Fe.t_mt, Fe.t_pr, Fe.t_fld, Fe.t_tru, Fe.sems_nil, Fe.sems_cons, Fe.args_nil, Fe.args_cons, Fe.andV_1, Fe.andV_2, Fe.orV_1, Fe.orV_2, Fe.andT_1, Fe.andT_2, Fe.orT_1, Fe.orT_2, Fe.v_lam, Fe.i_rng, Fe.i_tup, Fe.i_var, Fe.i_fld, Fe.i_mt, Fe.i_oix, Fe.i_enu, Fe.i_call, Fe.x_retN, Fe.x_pass, Fe.x_whl, Fe.x_setf, Fe.x_nil, Fe.x_cons, Fe.x_set, Fe.x_ret, Fe.x_expr, Fe.x_ite, Fe.x_sub, Fe.x_par, Fe.x_asg, Fe.x_for, Fe.x_met, Fe.x_rais, lk_0, lk_s, int_int, add_int, Cm.f, Ar.f, Bi.f, Me.f, Me.T, liftT, List.set_cons_succ, List.set_cons_zero, h, Bool.false_eq_true, if_false]
  rw [e]; exact trim_id rfl
theorem noP_str [hP : Has T q.isP (isPF q)] {c : List Nat} (h : opIn (.str c) (.tup [.str wBack, .str wFront]) s = .ok (.bl false) s) : NoP T q s (.str c) := fun k => by
  rw [call_at hP.at_ rfl]
  show trimO s (retO (execs (callF T k) (isPB q) [some (.str c)] s)) = _
  have m : ∀ a b : D, mkTup [a, b] s = .ok (.tup [a, b]) s := fun a b => rfl
  have e : execs (callF T k) (isPB q) [some (.str c)] s = .rt (.bl false) s := by
    unfold isPB
    simp only [Fe.bind_ok, Fe.bind_exc, Fe.lift_ok, Fe.lift_exc, Fe.seq_nx, Fe.seq_rt, Fe.seq_exc, Fe.v_non, Fe.v_bl, Fe.v_int, Fe.v_str, Fe.v_var, Fe.v_con, Fe.v_bin, Fe.v_neg, Fe.v_cmp, Fe.v_chn, Fe.v_and, Fe.v_or, Fe.v_not, Fe.v_ite, Fe.v_tup, Fe.v_lst, Fe.v_ix, Fe.v_sl, Fe.v_call, Fe.v_bi, Fe.v_isi, Fe.v_me, Fe.v_lc, Fe.v_dct, Fe.v_rev, Fe.v_fld, Fe.v_mt, Fe.v_pr, Fe.v_mk, Fe.v_oinT, Fe.v_oinF, Fe.v_inV, Fe.v_olen, Fe.v_lenOwn, Fe.v_obool, Fe.v_boolOwn, Fe.v_otru, Fe.v_oix, Fe.v_lrg, Fe.v_trg, Fe.v_ostr, Fe.v_strOwn, Fe.v_asSt, Fe.v_fst, Fe.v_noExc, Fe.v_asBl, Fe.v_asB, Fe.v_asTru, Fe.v_asNon, Fe.o_no, Fe.o_int, Fe.o_var, Fe.o_bin, Fe.o_neg, Fe.o_ite, Fe.asI_int, Fe.t_no, Fe.t_cmp, Fe.t_chn, Fe.t_and, Fe.t_or, Fe.t_not, Fe.t_call, Fe.t_var, Fe.t_isi, Fe.t_bi, Fe.t_oinT, Fe.t_oinF, Fe.t_otru, Fe.t_obool, Fe.t_mt, Fe.t_pr, Fe.t_fld, Fe.t_tru, Fe.sems_nil, Fe.sems_cons, Fe.args_nil, Fe.args_cons, Fe.andV_1, Fe.andV_2, Fe.orV_1, Fe.orV_2, Fe.andT_1, Fe.andT_2, Fe.orT_1, Fe.orT_2, Fe.v_lam, Fe.i_rng, Fe.i_tup, Fe.i_var, Fe.i_fld, Fe.i_mt, Fe.i_oix, Fe.i_enu, Fe.i_call, Fe.x_retN, Fe.x_pass, Fe.x_whl, Fe.x_setf, Fe.x_nil, Fe.x_cons, Fe.x_set, Fe.x_ret, Fe.x_expr, Fe.x_ite, Fe.x_sub, Fe.x_par, Fe.x_asg, Fe.x_for, Fe.x_met, Fe.x_rais, lk_0, lk_s, int_int, add_int, Cm.f, Ar.f, Bi.f, Me.f, Me.T, liftT, List.set_cons_succ, List.set_cons_zero, isi_ss, if_true, m, h]
  rw [e]; exact trim_id rfl
theorem con_odd [hN : Has T q.isN (isNF q)] [hC : Has T q.con (conF q)] (h : NoN T q s v) : callF T (k + 3) q.con [.ref a, v] s = .ok (.bl false) s := by
  rw [call_at hC.at_ rfl]
  show trimO s (retO (execs (callF T (k + 2)) (conB_ q) [some (.ref a), some v, none] s)) = _
  have e : execs (callF T (k + 2)) (conB_ q) [some (.ref a), some v, none] s = .rt (.bl false) s := by
    unfold conB_
    simp only [Fe.bind_ok, Fe.bind_exc, Fe.lift_ok, Fe.lift_exc, Fe.seq_nx, Fe.seq_rt, Fe.seq_exc, Fe.v_non, Fe.v_bl, Fe.v_int, Fe.v_str, Fe.v_var, Fe.v_con, Fe.v_bin, Fe.v_neg, Fe.v_cmp, Fe.v_chn, Fe.v_and, Fe.v_or, Fe.v_not, Fe.v_ite, Fe.v_tup, Fe.v_lst, Fe.v_ix, Fe.v_sl, Fe.v_call, Fe.v_bi, Fe.v_isi, Fe.v_me, Fe.v_lc, Fe.v_dct, Fe.v_rev, Fe.v_fld, Fe.v_mt, Fe.v_pr, Fe.v_mk, Fe.v_oinT, Fe.v_oinF, Fe.v_inV, Fe.v_olen, Fe.v_lenOwn, Fe.v_obool, Fe.v_boolOwn, Fe.v_otru, Fe.v_oix, Fe.v_lrg, Fe.v_trg, Fe.v_ostr, Fe.v_strOwn, Fe.v_asSt, Fe.v_fst, Fe.v_noExc, Fe.v_asBl, Fe.v_asB, Fe.v_asTru, Fe.v_asNon, Fe.o_no, Fe.o_int, Fe.o_var, Fe.o_bin, Fe.o_neg, Fe.o_ite, Fe.asI_int, Fe.t_no, Fe.t_cmp, Fe.t_chn, Fe.t_and, Fe.t_or, Fe.t_not, Fe.t_call, Fe.t_var, Fe.t_isi, Fe.t_bi, Fe.t_oinT, Fe.t_oinF, Fe.t_otru, Fe.t_obool, Fe.t_mt, Fe.t_pr, Fe.t_fld, Fe.t_tru, Fe.sems_nil, Fe.sems_cons, Fe.args_nil, Fe.args_cons, Fe.andV_1, Fe.andV_2, Fe.orV_1, Fe.orV_2, Fe.andT_1, Fe.andT_2, Fe.orT_1, Fe.orT_2, Fe.v_lam, Fe.i_rng, Fe.i_tup, Fe.i_var, Fe.i_fld, Fe.i_mt, Fe.i_oix, Fe.i_enu, Fe.i_call, Fe.x_retN, Fe.x_pass, Fe.x_whl, Fe.x_setf, Fe.x_nil, Fe.x_cons, Fe.x_set, Fe.x_ret, Fe.x_expr, Fe.x_ite, Fe.x_sub, Fe.x_par, Fe.x_asg, Fe.x_for, Fe.x_met, Fe.x_rais, lk_0, lk_s, int_int, add_int, Cm.f, Ar.f, Bi.f, Me.f, Me.T, liftT, List.set_cons_succ, List.set_cons_zero, h k, Bool.false_eq_true, if_false]
  rw [e]; exact trim_id rfl
/-! enter -/
theorem ent_odd [hN : Has T q.isN (isNF q)] [hE : Has T q.ent (entF q)] (h : NoN T q s v) : callF T (k + 4) q.ent [.ref a, v, x, y] s = .exc ⟨q.xQ, []⟩ s := by
  rw [call_at hE.at_ rfl]
  show trimO s (retO (execs (callF T (k + 3)) (entB q) [some (.ref a), some v, some x, some y] s)) = _
  have e : execs (callF T (k + 3)) (entB q) [some (.ref a), some v, some x, some y] s = .exc ⟨q.xQ, []⟩ [some (.ref a), some v, some x, some y] s := by
    unfold entB
    simp only [Fe.bind_ok, Fe.bind_exc, Fe.lift_ok, Fe.lift_exc, Fe.seq_nx, Fe.seq_rt, Fe.seq_exc, Fe.v_non, Fe.v_bl, Fe.v_int, Fe.v_str, Fe.v_var, Fe.v_con, Fe.v_bin, Fe.v_neg, Fe.v_cmp, Fe.v_chn, Fe.v_and, Fe.v_or, Fe.v_not, Fe.v_ite, Fe.v_tup, Fe.v_lst, Fe.v_ix, Fe.v_sl, Fe.v_call, Fe.v_bi, Fe.v_isi, Fe.v_me, Fe.v_lc, Fe.v_dct, Fe.v_rev, Fe.v_fld, Fe.v_mt, Fe.v_pr, Fe.v_mk, Fe.v_oinT, Fe.v_oinF, Fe.v_inV, Fe.v_olen, Fe.v_lenOwn, Fe.v_obool, Fe.v_boolOwn, Fe.v_otru, Fe.v_oix, Fe.v_lrg, Fe.v_trg, Fe.v_ostr, Fe.v_strOwn, Fe.v_asSt, Fe.v_fst, Fe.v_noExc, Fe.v_asBl, Fe.v_asB, Fe.v_asTru, Fe.v_asNon, Fe.o_no, Fe.o_int, Fe.o_var, Fe.o_bin, Fe.o_neg, Fe.o_ite, Fe.asI_int, Fe.t_no, Fe.t_cmp, Fe.t_chn, Fe.t_and, Fe.t_or, Fe.t_not, Fe.t_call, Fe.t_var, Fe.t_isi, Fe.t_bi, Fe.t_oinT, Fe.t_oinF, Fe.t_otru, Fe.t_obool, Fe.t_mt, Fe.t_pr, Fe.t_fld, Fe.t_tru, Fe.sems_nil, Fe.sems_cons, Fe.args_nil, Fe.args_cons, Fe.andV_1, Fe.andV_2, Fe.orV_1, Fe.orV_2, Fe.andT_1, Fe.andT_2, Fe.orT_1, Fe.orT_2, Fe.v_lam, Fe.i_rng, Fe.i_tup, Fe.i_var, Fe.i_fld, Fe.i_mt, Fe.i_oix, Fe.i_enu, Fe.i_call, Fe.x_retN, Fe.x_pass, Fe.x_whl, Fe.x_setf, Fe.x_nil, Fe.x_cons, Fe.x_set, Fe.x_ret, Fe.x_expr, Fe.x_ite, Fe.x_sub, Fe.x_par, Fe.x_asg, Fe.x_for, Fe.x_met, Fe.x_rais, lk_0, lk_s, int_int, add_int, Cm.f, Ar.f, Bi.f, Me.f, Me.T, liftT, List.set_cons_succ, List.set_cons_zero, h (k + 1), Bool.not_false, if_true]
    rfl
  rw [e]; exact trim_exc
theorem ent_in [hI : Has T q.isI (isIF q)] [hN : Has T q.isN (isNF q)] [hC : Has T q.con (conF q)] [hE : Has T q.ent (entF q)] (Q : QAt s a L ls qs) (h1 : 0 ≤ t) (h2 : t < Big) (h : qs.any (·.contains t) = true) : callF T (k + 4) q.ent [.ref a, .int t, x, y] s = .exc ⟨q.xQ, []⟩ s := by
  rw [call_at hE.at_ rfl]
  show trimO s (retO (execs (callF T (k + 3)) (entB q) [some (.ref a), some (.int t), some x, some y] s)) = _
  have e : execs (callF T (k + 3)) (entB q) [some (.ref a), some (.int t), some x, some y] s = .exc ⟨q.xQ, []⟩ [some (.ref a), some (.int t), some x, some y] s := by
    unfold entB
    simp only [Fe.bind_ok, Fe.bind_exc, Fe.lift_ok, Fe.lift_exc, Fe.seq_nx, Fe.seq_rt, Fe.seq_exc, Fe.v_non, Fe.v_bl, Fe.v_int, Fe.v_str, Fe.v_var, Fe.v_con, Fe.v_bin, Fe.v_neg, Fe.v_cmp, Fe.v_chn, Fe.v_and, Fe.v_or, Fe.v_not, Fe.v_ite, Fe.v_tup, Fe.v_lst, Fe.v_ix, Fe.v_sl, Fe.v_call, Fe.v_bi, Fe.v_isi, Fe.v_me, Fe.v_lc, Fe.v_dct, Fe.v_rev, Fe.v_fld, Fe.v_mt, Fe.v_pr, Fe.v_mk, Fe.v_oinT, Fe.v_oinF, Fe.v_inV, Fe.v_olen, Fe.v_lenOwn, Fe.v_obool, Fe.v_boolOwn, Fe.v_otru, Fe.v_oix, Fe.v_lrg, Fe.v_trg, Fe.v_ostr, Fe.v_strOwn, Fe.v_asSt, Fe.v_fst, Fe.v_noExc, Fe.v_asBl, Fe.v_asB, Fe.v_asTru, Fe.v_asNon, Fe.o_no, Fe.o_int, Fe.o_var, Fe.o_bin, Fe.o_neg, Fe.o_ite, Fe.asI_int, Fe.t_no, Fe.t_cmp, Fe.t_chn, Fe.t_and, Fe.t_or, Fe.t_not, Fe.t_call, Fe.t_var, Fe.t_isi, Fe.t_bi, Fe.t_oinT, Fe.t_oinF, Fe.t_otru, Fe.t_obool, Fe.t_mt, Fe.t_pr, Fe.t_fld, Fe.t_tru, Fe.sems_nil, Fe.sems_cons, Fe.args_nil, Fe.args_cons, Fe.andV_1, Fe.andV_2, Fe.orV_1, Fe.orV_2, Fe.andT_1, Fe.andT_2, Fe.orT_1, Fe.orT_2, Fe.v_lam, Fe.i_rng, Fe.i_tup, Fe.i_var, Fe.i_fld, Fe.i_mt, Fe.i_oix, Fe.i_enu, Fe.i_call, Fe.x_retN, Fe.x_pass, Fe.x_whl, Fe.x_setf, Fe.x_nil, Fe.x_cons, Fe.x_set, Fe.x_ret, Fe.x_expr, Fe.x_ite, Fe.x_sub, Fe.x_par, Fe.x_asg, Fe.x_for, Fe.x_met, Fe.x_rais, lk_0, lk_s, int_int, add_int, Cm.f, Ar.f, Bi.f, Me.f, Me.T, liftT, List.set_cons_succ, List.set_cons_zero, isN_spec (q := q) (k := k + 1) h1 h2, Bool.not_true, Bool.false_eq_true, if_false, Q.cl, if_true, con_spec (q := q) Q h1 h2, h, id]
  rw [e]; exact trim_exc
theorem ent_far [hI : Has T q.isI (isIF q)] [hN : Has T q.isN (isNF q)] [hC : Has T q.con (conF q)] [hE : Has T q.ent (entF q)] (Q : QAt s a L ls qs) (h1 : 0 ≤ t) (h2 : t < Big) (h : qs.any (·.contains t) = false) (hx : NoB T q s x ls.length) : callF T (k + 4) q.ent [.ref a, .int t, x, y] s = .exc ⟨q.xN, [x]⟩ s := by
  rw [call_at hE.at_ rfl]
  show trimO s (retO (execs (callF T (k + 3)) (entB q) [some (.ref a), some (.int t), some x, some y] s)) = _
  have e : execs (callF T (k + 3)) (entB q) [some (.ref a), some (.int t), some x, some y] s = .exc ⟨q.xN, [x]⟩ [some (.ref a), some (.int t), some x, some y] s := by
    unfold entB
    simp only [Fe.bind_ok, Fe.bind_exc, Fe.lift_ok, Fe.lift_exc, Fe.seq_nx, Fe.seq_rt, Fe.seq_exc, Fe.v_non, Fe.v_bl, Fe.v_int, Fe.v_str, Fe.v_var, Fe.v_con, Fe.v_bin, Fe.v_neg, Fe.v_cmp, Fe.v_chn, Fe.v_and, Fe.v_or, Fe.v_not, Fe.v_ite, Fe.v_tup, Fe.v_lst, Fe.v_ix, Fe.v_sl, Fe.v_call, Fe.v_bi, Fe.v_isi, Fe.v_me, Fe.v_lc, Fe.v_dct, Fe.v_rev, Fe.v_fld, Fe.v_mt, Fe.v_pr, Fe.v_mk, Fe.v_oinT, Fe.v_oinF, Fe.v_inV, Fe.v_olen, Fe.v_lenOwn, Fe.v_obool, Fe.v_boolOwn, Fe.v_otru, Fe.v_oix, Fe.v_lrg, Fe.v_trg, Fe.v_ostr, Fe.v_strOwn, Fe.v_asSt, Fe.v_fst, Fe.v_noExc, Fe.v_asBl, Fe.v_asB, Fe.v_asTru, Fe.v_asNon, Fe.o_no, Fe.o_int, Fe.o_var, Fe.o_bin, Fe.o_neg, Fe.o_ite, Fe.asI_int, Fe.t_no, Fe.t_cmp, Fe.t_chn, Fe.t_and, Fe.t_or, Fe.t_not, Fe.t_call, Fe.t_var, Fe.t_isi, Fe.t_bi, Fe.t_oinT, Fe.t_oinF, Fe.t_otru, Fe.t_obool, Fe.t_mt, Fe.t_pr, Fe.t_fld, Fe.t_tru, Fe.sems_nil, Fe.sems_cons, Fe.args_nil, Fe.args_cons, Fe.andV_1, Fe.andV_2, Fe.orV_1, Fe.orV_2, Fe.andT_1, Fe.andT_2, Fe.orT_1, Fe.orT_2, Fe.v_lam, Fe.i_rng, Fe.i_tup, Fe.i_var, Fe.i_fld, Fe.i_mt, Fe.i_oix, Fe.i_enu, Fe.i_call, Fe.x_retN, Fe.x_pass, Fe.x_whl, Fe.x_setf, Fe.x_nil, Fe.x_cons, Fe.x_set, Fe.x_ret, Fe.x_expr, Fe.x_ite, Fe.x_sub, Fe.x_par, Fe.x_asg, Fe.x_for, Fe.x_met, Fe.x_rais, lk_0, lk_s, int_int, add_int, Cm.f, Ar.f, Bi.f, Me.f, Me.T, liftT, List.set_cons_succ, List.set_cons_zero, isN_spec (q := q) (k := k + 1) h1 h2, Bool.not_true, Bool.false_eq_true, if_false, Q.cl, if_true, con_spec (q := q) Q h1 h2, h, id, Q.fld, len_lstN Q.getL_, List.length_map, hx (k + 1), Bool.not_false]
  rw [e]; exact trim_exc
theorem ent_pl [hI : Has T q.isI (isIF q)] [hN : Has T q.isN (isNF q)] [hB : Has T q.isB (isBF q)] [hC : Has T q.con (conF q)] [hE : Has T q.ent (entF q)] {i : Nat} (Q : QAt s a L ls qs) (h1 : 0 ≤ t) (h2 : t < Big) (h : qs.any (·.contains t) = false) (hi : i < ls.length) (hy : NoP T q s y) :
    callF T (k + 4) q.ent [.ref a, .int t, .int i, y] s = .exc ⟨q.xQ, []⟩ s := by
  rw [call_at hE.at_ rfl]
  show trimO s (retO (execs (callF T (k + 3)) (entB q) [some (.ref a), some (.int t), some (.int i), some y] s)) = _
  have few := Q.few
  have e : execs (callF T (k + 3)) (entB q) [some (.ref a), some (.int t), some (.int i), some y] s = .exc ⟨q.xQ, []⟩ [some (.ref a), some (.int t), some (.int i), some y] s := by
    unfold entB
    simp only [Fe.bind_ok, Fe.bind_exc, Fe.lift_ok, Fe.lift_exc, Fe.seq_nx, Fe.seq_rt, Fe.seq_exc, Fe.v_non, Fe.v_bl, Fe.v_int, Fe.v_str, Fe.v_var, Fe.v_con, Fe.v_bin, Fe.v_neg, Fe.v_cmp, Fe.v_chn, Fe.v_and, Fe.v_or, Fe.v_not, Fe.v_ite, Fe.v_tup, Fe.v_lst, Fe.v_ix, Fe.v_sl, Fe.v_call, Fe.v_bi, Fe.v_isi, Fe.v_me, Fe.v_lc, Fe.v_dct, Fe.v_rev, Fe.v_fld, Fe.v_mt, Fe.v_pr, Fe.v_mk, Fe.v_oinT, Fe.v_oinF, Fe.v_inV, Fe.v_olen, Fe.v_lenOwn, Fe.v_obool, Fe.v_boolOwn, Fe.v_otru, Fe.v_oix, Fe.v_lrg, Fe.v_trg, Fe.v_ostr, Fe.v_strOwn, Fe.v_asSt, Fe.v_fst, Fe.v_noExc, Fe.v_asBl, Fe.v_asB, Fe.v_asTru, Fe.v_asNon, Fe.o_no, Fe.o_int, Fe.o_var, Fe.o_bin, Fe.o_neg, Fe.o_ite, Fe.asI_int, Fe.t_no, Fe.t_cmp, Fe.t_chn, Fe.t_and, Fe.t_or, Fe.t_not, Fe.t_call, Fe.t_var, Fe.t_isi, Fe.t_bi, Fe.t_oinT, Fe.t_oinF, Fe.t_otru, Fe.t_obool, Fe.t_mt, Fe.t_pr, Fe.t_fld, Fe.t_tru, Fe.sems_nil, Fe.sems_cons, Fe.args_nil, Fe.args_cons, Fe.andV_1, Fe.andV_2, Fe.orV_1, Fe.orV_2, Fe.andT_1, Fe.andT_2, Fe.orT_1, Fe.orT_2, Fe.v_lam, Fe.i_rng, Fe.i_tup, Fe.i_var, Fe.i_fld, Fe.i_mt, Fe.i_oix, Fe.i_enu, Fe.i_call, Fe.x_retN, Fe.x_pass, Fe.x_whl, Fe.x_setf, Fe.x_nil, Fe.x_cons, Fe.x_set, Fe.x_ret, Fe.x_expr, Fe.x_ite, Fe.x_sub, Fe.x_par, Fe.x_asg, Fe.x_for, Fe.x_met, Fe.x_rais, lk_0, lk_s, int_int, add_int, Cm.f, Ar.f, Bi.f, Me.f, Me.T, liftT, List.set_cons_succ, List.set_cons_zero, isN_spec (q := q) (k := k + 1) h1 h2, Bool.not_true, Bool.false_eq_true, if_false, Q.cl, if_true, con_spec (q := q) Q h1 h2, h, id, Q.fld, len_lstN Q.getL_, List.length_map,
      isB_spec (q := q) (s := s) (k := k + 1) (t := (i : Int)) (n := (ls.length : Int)) (by omega) (by omega) (big_lt (by omega)), hy (k + 2), Bool.not_false]
  rw [e]; exact trim_exc
theorem get_far [hB : Has T q.isB (isBF q)] [hG : Has T q.get (getF q)] (Q : QAt s a L ls qs) (hx : NoB T q s x ls.length) : callF T (k + 3) q.get [.ref a, x] s = .exc ⟨q.xN, [x]⟩ s := by
  rw [call_at hG.at_ rfl]
  show trimO s (retO (execs (callF T (k + 2)) (getB q) [some (.ref a), some x] s)) = _
  have e : execs (callF T (k + 2)) (getB q) [some (.ref a), some x] s = .exc ⟨q.xN, [x]⟩ [some (.ref a), some x] s := by
    unfold getB
    simp only [Fe.bind_ok, Fe.bind_exc, Fe.lift_ok, Fe.lift_exc, Fe.seq_nx, Fe.seq_rt, Fe.seq_exc, Fe.v_non, Fe.v_bl, Fe.v_int, Fe.v_str, Fe.v_var, Fe.v_con, Fe.v_bin, Fe.v_neg, Fe.v_cmp, Fe.v_chn, Fe.v_and, Fe.v_or, Fe.v_not, Fe.v_ite, Fe.v_tup, Fe.v_lst, Fe.v_ix, Fe.v_sl, Fe.v_call, Fe.v_bi, Fe.v_isi, Fe.v_me, Fe.v_lc, Fe.v_dct, Fe.v_rev, Fe.v_fld, Fe.v_mt, Fe.v_pr, Fe.v_mk, Fe.v_oinT, Fe.v_oinF, Fe.v_inV, Fe.v_olen, Fe.v_lenOwn, Fe.v_obool, Fe.v_boolOwn, Fe.v_otru, Fe.v_oix, Fe.v_lrg, Fe.v_trg, Fe.v_ostr, Fe.v_strOwn, Fe.v_asSt, Fe.v_fst, Fe.v_noExc, Fe.v_asBl, Fe.v_asB, Fe.v_asTru, Fe.v_asNon, Fe.o_no, Fe.o_int, Fe.o_var, Fe.o_bin, Fe.o_neg, Fe.o_ite, Fe.asI_int, Fe.t_no, Fe.t_cmp, Fe.t_chn, Fe.t_and, Fe.t_or, Fe.t_not, Fe.t_call, Fe.t_var, Fe.t_isi, Fe.t_bi, Fe.t_oinT, Fe.t_oinF, Fe.t_otru, Fe.t_obool, Fe.t_mt, Fe.t_pr, Fe.t_fld, Fe.t_tru, Fe.sems_nil, Fe.sems_cons, Fe.args_nil, Fe.args_cons, Fe.andV_1, Fe.andV_2, Fe.orV_1, Fe.orV_2, Fe.andT_1, Fe.andT_2, Fe.orT_1, Fe.orT_2, Fe.v_lam, Fe.i_rng, Fe.i_tup, Fe.i_var, Fe.i_fld, Fe.i_mt, Fe.i_oix, Fe.i_enu, Fe.i_call, Fe.x_retN, Fe.x_pass, Fe.x_whl, Fe.x_setf, Fe.x_nil, Fe.x_cons, Fe.x_set, Fe.x_ret, Fe.x_expr, Fe.x_ite, Fe.x_sub, Fe.x_par, Fe.x_asg, Fe.x_for, Fe.x_met, Fe.x_rais, lk_0, lk_s, int_int, add_int, Cm.f, Ar.f, Bi.f, Me.f, Me.T, liftT, List.set_cons_succ, List.set_cons_zero, Q.fld, len_lstN Q.getL_, List.length_map, hx k, Bool.not_false, if_true]
  rw [e]; exact trim_exc
/-! a task that is in no queue -/
theorem lev_no [hL : Has T q.lev (levF q)] (cl : clIs Qc s (.ref a) = true) (h : ∀ k, callF T (k + 3) q.con [.ref a, v] s = .ok (.bl false) s) : callF T (k + 4) q.lev [.ref a, v] s = .exc ⟨q.xQ, []⟩ s := by
  rw [call_at hL.at_ rfl]
  show trimO s (retO (execs (callF T (k + 3)) (levB q) [some (.ref a), some v, none, none] s)) = _
  have e : execs (callF T (k + 3)) (levB q) [some (.ref a), some v, none, none] s = .exc ⟨q.xQ, []⟩ [some (.ref a), some v, none, none] s := by
    unfold levB
    simp only [Fe.bind_ok, Fe.bind_exc, Fe.lift_ok, Fe.lift_exc, Fe.seq_nx, Fe.seq_rt, Fe.seq_exc, Fe.v_non, Fe.v_bl, Fe.v_int, Fe.v_str, Fe.v_var, Fe.v_con, Fe.v_bin, Fe.v_neg, Fe.v_cmp, Fe.v_chn, Fe.v_and, Fe.v_or, Fe.v_not, Fe.v_ite, Fe.v_tup, Fe.v_lst, Fe.v_ix, Fe.v_sl, Fe.v_call, Fe.v_bi, Fe.v_isi, Fe.v_me, Fe.v_lc, Fe.v_dct, Fe.v_rev, Fe.v_fld, Fe.v_mt, Fe.v_pr, Fe.v_mk, Fe.v_oinT, Fe.v_oinF, Fe.v_inV, Fe.v_olen, Fe.v_lenOwn, Fe.v_obool, Fe.v_boolOwn, Fe.v_otru, Fe.v_oix, Fe.v_lrg, Fe.v_trg, Fe.v_ostr, Fe.v_strOwn, Fe.v_asSt, Fe.v_fst, Fe.v_noExc, Fe.v_asBl, Fe.v_asB, Fe.v_asTru, Fe.v_asNon, Fe.o_no, Fe.o_int, Fe.o_var, Fe.o_bin, Fe.o_neg, Fe.o_ite, Fe.asI_int, Fe.t_no, Fe.t_cmp, Fe.t_chn, Fe.t_and, Fe.t_or, Fe.t_not, Fe.t_call, Fe.t_var, Fe.t_isi, Fe.t_bi, Fe.t_oinT, Fe.t_oinF, Fe.t_otru, Fe.t_obool, Fe.t_mt, Fe.t_pr, Fe.t_fld, Fe.t_tru, Fe.sems_nil, Fe.sems_cons, Fe.args_nil, Fe.args_cons, Fe.andV_1, Fe.andV_2, Fe.orV_1, Fe.orV_2, Fe.andT_1, Fe.andT_2, Fe.orT_1, Fe.orT_2, Fe.v_lam, Fe.i_rng, Fe.i_tup, Fe.i_var, Fe.i_fld, Fe.i_mt, Fe.i_oix, Fe.i_enu, Fe.i_call, Fe.x_retN, Fe.x_pass, Fe.x_whl, Fe.x_setf, Fe.x_nil, Fe.x_cons, Fe.x_set, Fe.x_ret, Fe.x_expr, Fe.x_ite, Fe.x_sub, Fe.x_par, Fe.x_asg, Fe.x_for, Fe.x_met, Fe.x_rais, lk_0, lk_s, int_int, add_int, Cm.f, Ar.f, Bi.f, Me.f, Me.T, liftT, List.set_cons_succ, List.set_cons_zero, cl, if_true, h k, Bool.not_false]
    rfl
  rw [e]; exact trim_exc
theorem lea_no [hL : Has T q.lev (levF q)] [hE : Has T q.lea (leaF q)] (Q : QAt s a L ls qs) (h : ∀ k, callF T (k + 3) q.con [.ref a, v] s = .ok (.bl false) s) : callF T (k + 5) q.lea [.ref a, v] s = .exc ⟨q.xQ, []⟩ s := by
  rw [call_at hE.at_ rfl]
  show trimO s (retO (execs (callF T (k + 4)) (leaB q) [some (.ref a), some v] s)) = _
  have e : execs (callF T (k + 4)) (leaB q) [some (.ref a), some v] s = .exc ⟨q.xQ, []⟩ [some (.ref a), some v] s := by
    unfold leaB
    simp only [Fe.bind_ok, Fe.bind_exc, Fe.lift_ok, Fe.lift_exc, Fe.seq_nx, Fe.seq_rt, Fe.seq_exc, Fe.v_non, Fe.v_bl, Fe.v_int, Fe.v_str, Fe.v_var, Fe.v_con, Fe.v_bin, Fe.v_neg, Fe.v_cmp, Fe.v_chn, Fe.v_and, Fe.v_or, Fe.v_not, Fe.v_ite, Fe.v_tup, Fe.v_lst, Fe.v_ix, Fe.v_sl, Fe.v_call, Fe.v_bi, Fe.v_isi, Fe.v_me, Fe.v_lc, Fe.v_dct, Fe.v_rev, Fe.v_fld, Fe.v_mt, Fe.v_pr, Fe.v_mk, Fe.v_oinT, Fe.v_oinF, Fe.v_inV, Fe.v_olen, Fe.v_lenOwn, Fe.v_obool, Fe.v_boolOwn, Fe.v_otru, Fe.v_oix, Fe.v_lrg, Fe.v_trg, Fe.v_ostr, Fe.v_strOwn, Fe.v_asSt, Fe.v_fst, Fe.v_noExc, Fe.v_asBl, Fe.v_asB, Fe.v_asTru, Fe.v_asNon, Fe.o_no, Fe.o_int, Fe.o_var, Fe.o_bin, Fe.o_neg, Fe.o_ite, Fe.asI_int, Fe.t_no, Fe.t_cmp, Fe.t_chn, Fe.t_and, Fe.t_or, Fe.t_not, Fe.t_call, Fe.t_var, Fe.t_isi, Fe.t_bi, Fe.t_oinT, Fe.t_oinF, Fe.t_otru, Fe.t_obool, Fe.t_mt, Fe.t_pr, Fe.t_fld, Fe.t_tru, Fe.sems_nil, Fe.sems_cons, Fe.args_nil, Fe.args_cons, Fe.andV_1, Fe.andV_2, Fe.orV_1, Fe.orV_2, Fe.andT_1, Fe.andT_2, Fe.orT_1, Fe.orT_2, Fe.v_lam, Fe.i_rng, Fe.i_tup, Fe.i_var, Fe.i_fld, Fe.i_mt, Fe.i_oix, Fe.i_enu, Fe.i_call, Fe.x_retN, Fe.x_pass, Fe.x_whl, Fe.x_setf, Fe.x_nil, Fe.x_cons, Fe.x_set, Fe.x_ret, Fe.x_expr, Fe.x_ite, Fe.x_sub, Fe.x_par, Fe.x_asg, Fe.x_for, Fe.x_met, Fe.x_rais, lk_0, lk_s, int_int, add_int, Cm.f, Ar.f, Bi.f, Me.f, Me.T, liftT, List.set_cons_succ, List.set_cons_zero, Q.fld, Q.cl, if_true, lev_no (q := q) (k := k) Q.cl h, Fe.bind_exc, Fe.lift_exc, Fe.seq_exc]
  rw [e]; exact trim_exc
theorem aha_no1 [hL : Has T q.lev (levF q)] [hA : Has T q.aha (ahaF q)] (Q : QAt s a L ls qs) (h : ∀ k (g : S), callF T (k + 3) q.con [.ref a, v] (s ++ g) = .ok (.bl false) (s ++ g)) (hx : x.flat = true ∨ True) : callF T (k + 5) q.aha [.ref a, v, x] s = .exc ⟨q.xQ, []⟩ s := by
  rw [call_at hA.at_ rfl]
  show trimO s (retO (execs (callF T (k + 4)) (ahaB q) [some (.ref a), some v, some x, none, none, none] s)) = _
  have Q1 := Q.app (g := [.lst []])
  have e : execs (callF T (k + 4)) (ahaB q) [some (.ref a), some v, some x, none, none, none] s = .exc ⟨q.xQ, []⟩ [some (.ref a), some v, some x, some (.ref s.length), some v, none] (s ++ [.lst []]) := by
    unfold ahaB
    have st : execs (callF T (k + 4)) [(.set 5 (.mt Qc q.lev (.var 0) [(.var 4)])), (.expr (.me .append (.var 3) [(.tup [(.var 5), (.me .index (.ix OL (.var 5)) [(.var 4)])])]))] [some (.ref a), some v, some x, some (.ref s.length), some v, none] (s ++ [.lst []]) = .exc ⟨q.xQ, []⟩ [some (.ref a), some v, some x, some (.ref s.length), some v, none] (s ++ [.lst []]) := by
      simp only [Fe.bind_ok, Fe.bind_exc, Fe.lift_ok, Fe.lift_exc, Fe.seq_nx, Fe.seq_rt, Fe.seq_exc, Fe.v_non, Fe.v_bl, Fe.v_int, Fe.v_str, Fe.v_var, Fe.v_con, Fe.v_bin, Fe.v_neg, Fe.v_cmp, Fe.v_chn, Fe.v_and, Fe.v_or, Fe.v_not, Fe.v_ite, Fe.v_tup, Fe.v_lst, Fe.v_ix, Fe.v_sl, Fe.v_call, Fe.v_bi, Fe.v_isi, Fe.v_me, Fe.v_lc, Fe.v_dct, Fe.v_rev, Fe.v_fld, Fe.v_mt, Fe.v_pr, Fe.v_mk, Fe.v_oinT, Fe.v_oinF, Fe.v_inV, Fe.v_olen, Fe.v_lenOwn, Fe.v_obool, Fe.v_boolOwn, Fe.v_otru, Fe.v_oix, Fe.v_lrg, Fe.v_trg, Fe.v_ostr, Fe.v_strOwn, Fe.v_asSt, Fe.v_fst, Fe.v_noExc, Fe.v_asBl, Fe.v_asB, Fe.v_asTru, Fe.v_asNon, Fe.o_no, Fe.o_int, Fe.o_var, Fe.o_bin, Fe.o_neg, Fe.o_ite, Fe.asI_int, Fe.t_no, Fe.t_cmp, Fe.t_chn, Fe.t_and, Fe.t_or, Fe.t_not, Fe.t_call, Fe.t_var, Fe.t_isi, Fe.t_bi, Fe.t_oinT, Fe.t_oinF, Fe.t_otru, Fe.t_obool, Fe.t_mt, Fe.t_pr, Fe.t_fld, Fe.t_tru, Fe.sems_nil, Fe.sems_cons, Fe.args_nil, Fe.args_cons, Fe.andV_1, Fe.andV_2, Fe.orV_1, Fe.orV_2, Fe.andT_1, Fe.andT_2, Fe.orT_1, Fe.orT_2, Fe.v_lam, Fe.i_rng, Fe.i_tup, Fe.i_var, Fe.i_fld, Fe.i_mt, Fe.i_oix, Fe.i_enu, Fe.i_call, Fe.x_retN, Fe.x_pass, Fe.x_whl, Fe.x_setf, Fe.x_nil, Fe.x_cons, Fe.x_set, Fe.x_ret, Fe.x_expr, Fe.x_ite, Fe.x_sub, Fe.x_par, Fe.x_asg, Fe.x_for, Fe.x_met, Fe.x_rais, lk_0, lk_s, int_int, add_int, Cm.f, Ar.f, Bi.f, Me.f, Me.T, liftT, List.set_cons_succ, List.set_cons_zero, Q1.cl, if_true, lev_no (q := q) (k := k) Q1.cl (fun k => h k _), Fe.bind_exc, Fe.lift_exc, Fe.seq_exc]
    have fw : forW (Src.live ⟨[v, x], none⟩) (bnd (.nm 4)) (execs (callF T (k + 4)) [(.set 5 (.mt Qc q.lev (.var 0) [(.var 4)])), (.expr (.me .append (.var 3) [(.tup [(.var 5), (.me .index (.ix OL (.var 5)) [(.var 4)])])]))]) [v, x] [some (.ref a), some v, some x, some (.ref s.length), none, none] (s ++ [.lst []]) =
        .exc ⟨q.xQ, []⟩ [some (.ref a), some v, some x, some (.ref s.length), some v, none] (s ++ [.lst []]) := by
      unfold forW
      rw [if_pos (live_n _ _)]
      show (match execs (callF T (k + 4)) _ [some (.ref a), some v, some x, some (.ref s.length), some v, none] (s ++ [.lst []]) with | .nx ρ2 s2 => _ | .ct ρ2 s2 => _ | .bk ρ2 s2 => _ | .rt d s2 => _ | .exc x ρ2 s2 => _ | .bad => _) = _
      rw [st]
    have mt : ∀ (d1 d2 : D) (s : S), mkTup [d1, d2] s = .ok (.tup [d1, d2]) s := fun _ _ _ => rfl
    have so : ∀ s : S, srcOf (.tup [v, x]) s = .ok ⟨[v, x], none⟩ s := fun s => rfl
    simp only [Fe.bind_ok, Fe.bind_exc, Fe.lift_ok, Fe.lift_exc, Fe.seq_nx, Fe.seq_rt, Fe.seq_exc, Fe.v_non, Fe.v_bl, Fe.v_int, Fe.v_str, Fe.v_var, Fe.v_con, Fe.v_bin, Fe.v_neg, Fe.v_cmp, Fe.v_chn, Fe.v_and, Fe.v_or, Fe.v_not, Fe.v_ite, Fe.v_tup, Fe.v_lst, Fe.v_ix, Fe.v_sl, Fe.v_call, Fe.v_bi, Fe.v_isi, Fe.v_me, Fe.v_lc, Fe.v_dct, Fe.v_rev, Fe.v_fld, Fe.v_mt, Fe.v_pr, Fe.v_mk, Fe.v_oinT, Fe.v_oinF, Fe.v_inV, Fe.v_olen, Fe.v_lenOwn, Fe.v_obool, Fe.v_boolOwn, Fe.v_otru, Fe.v_oix, Fe.v_lrg, Fe.v_trg, Fe.v_ostr, Fe.v_strOwn, Fe.v_asSt, Fe.v_fst, Fe.v_noExc, Fe.v_asBl, Fe.v_asB, Fe.v_asTru, Fe.v_asNon, Fe.o_no, Fe.o_int, Fe.o_var, Fe.o_bin, Fe.o_neg, Fe.o_ite, Fe.asI_int, Fe.t_no, Fe.t_cmp, Fe.t_chn, Fe.t_and, Fe.t_or, Fe.t_not, Fe.t_call, Fe.t_var, Fe.t_isi, Fe.t_bi, Fe.t_oinT, Fe.t_oinF, Fe.t_otru, Fe.t_obool, Fe.t_mt, Fe.t_pr, Fe.t_fld, Fe.t_tru, Fe.sems_nil, Fe.sems_cons, Fe.args_nil, Fe.args_cons, Fe.andV_1, Fe.andV_2, Fe.orV_1, Fe.orV_2, Fe.andT_1, Fe.andT_2, Fe.orT_1, Fe.orT_2, Fe.v_lam, Fe.i_rng, Fe.i_tup, Fe.i_var, Fe.i_fld, Fe.i_mt, Fe.i_oix, Fe.i_enu, Fe.i_call, Fe.x_retN, Fe.x_pass, Fe.x_whl, Fe.x_setf, Fe.x_nil, Fe.x_cons, Fe.x_set, Fe.x_ret, Fe.x_expr, Fe.x_ite, Fe.x_sub, Fe.x_par, Fe.x_asg, Fe.x_for, Fe.x_met, Fe.x_rais, lk_0, lk_s, int_int, add_int, Cm.f, Ar.f, Bi.f, Me.f, Me.T, liftT, List.set_cons_succ, List.set_cons_zero, mkL_nil, mt, so]
    rw [fw]
    rfl
  rw [e]; exact trim_excApp rfl
theorem aha_no2 [hI : Has T q.isI (isIF q)] [hN : Has T q.isN (isNF q)] [hC : Has T q.con (conF q)] [hL : Has T q.lev (levF q)] [hA : Has T q.aha (ahaF q)] {x : Int} {i n : Nat} {z : List Int} (Q : QAt s a L ls qs) (hx : 0 ≤ x) (hx2 : x < Big) (lx : Lv qs x i) (hz : qs[i]? = some z) (fx : findI x z = some n)
    (h : ∀ k (g : S), callF T (k + 3) q.con [.ref a, v] (s ++ g) = .ok (.bl false) (s ++ g)) : callF T (k + 5) q.aha [.ref a, .int x, v] s = .exc ⟨q.xQ, []⟩ s := by
  rw [call_at hA.at_ rfl]
  show trimO s (retO (execs (callF T (k + 4)) (ahaB q) [some (.ref a), some (.int x), some v, none, none, none] s)) = _
  have mt : ∀ (d1 d2 : D) (s : S), mkTup [d1, d2] s = .ok (.tup [d1, d2]) s := fun _ _ _ => rfl
  have Q1 := Q.app (g := [.lst []])
  have Q2 := Q.app (g := [.lst [.tup [.int i, .int n]]])
  have e : execs (callF T (k + 4)) (ahaB q) [some (.ref a), some (.int x), some v, none, none, none] s = .exc ⟨q.xQ, []⟩ [some (.ref a), some (.int x), some v, some (.ref s.length), some v, some (.int i)] (s ++ [.lst [.tup [.int i, .int n]]]) := by
    unfold ahaB
    have st1 : execs (callF T (k + 4)) [(.set 5 (.mt Qc q.lev (.var 0) [(.var 4)])), (.expr (.me .append (.var 3) [(.tup [(.var 5), (.me .index (.ix OL (.var 5)) [(.var 4)])])]))] [some (.ref a), some (.int x), some v, some (.ref s.length), some (.int x), none] (s ++ [.lst []]) =
        .nx [some (.ref a), some (.int x), some v, some (.ref s.length), some (.int x), some (.int i)] (s ++ [.lst [.tup [.int i, .int n]]]) := by
      obtain ⟨l, hl, hs, hr⟩ := Q1.get_ hz
      have e1 := lev_spec (T := T) (q := q) (k := k) Q1 hx hx2 lx
      have ap : meAppend (.ref s.length) [.tup [.int i, .int n]] (s ++ [.lst []]) = .ok .non (s ++ [.lst ([] ++ [.tup [.int i, .int n]])]) := by
        rw [append_ok' at_end (by unfold line; exact (by decide)), set_end]
      simp only [Fe.bind_ok, Fe.bind_exc, Fe.lift_ok, Fe.lift_exc, Fe.seq_nx, Fe.seq_rt, Fe.seq_exc, Fe.v_non, Fe.v_bl, Fe.v_int, Fe.v_str, Fe.v_var, Fe.v_con, Fe.v_bin, Fe.v_neg, Fe.v_cmp, Fe.v_chn, Fe.v_and, Fe.v_or, Fe.v_not, Fe.v_ite, Fe.v_tup, Fe.v_lst, Fe.v_ix, Fe.v_sl, Fe.v_call, Fe.v_bi, Fe.v_isi, Fe.v_me, Fe.v_lc, Fe.v_dct, Fe.v_rev, Fe.v_fld, Fe.v_mt, Fe.v_pr, Fe.v_mk, Fe.v_oinT, Fe.v_oinF, Fe.v_inV, Fe.v_olen, Fe.v_lenOwn, Fe.v_obool, Fe.v_boolOwn, Fe.v_otru, Fe.v_oix, Fe.v_lrg, Fe.v_trg, Fe.v_ostr, Fe.v_strOwn, Fe.v_asSt, Fe.v_fst, Fe.v_noExc, Fe.v_asBl, Fe.v_asB, Fe.v_asTru, Fe.v_asNon, Fe.o_no, Fe.o_int, Fe.o_var, Fe.o_bin, Fe.o_neg, Fe.o_ite, Fe.asI_int, Fe.t_no, Fe.t_cmp, Fe.t_chn, Fe.t_and, Fe.t_or, Fe.t_not, Fe.t_call, Fe.t_var, Fe.t_isi, Fe.t_bi, Fe.t_oinT, Fe.t_oinF, Fe.t_otru, Fe.t_obool, Fe.t_mt, Fe.t_pr, Fe.t_fld, Fe.t_tru, Fe.sems_nil, Fe.sems_cons, Fe.args_nil, Fe.args_cons, Fe.andV_1, Fe.andV_2, Fe.orV_1, Fe.orV_2, Fe.andT_1, Fe.andT_2, Fe.orT_1, Fe.orT_2, Fe.v_lam, Fe.i_rng, Fe.i_tup, Fe.i_var, Fe.i_fld, Fe.i_mt, Fe.i_oix, Fe.i_enu, Fe.i_call, Fe.x_retN, Fe.x_pass, Fe.x_whl, Fe.x_setf, Fe.x_nil, Fe.x_cons, Fe.x_set, Fe.x_ret, Fe.x_expr, Fe.x_ite, Fe.x_sub, Fe.x_par, Fe.x_asg, Fe.x_for, Fe.x_met, Fe.x_rais, lk_0, lk_s, int_int, add_int, Cm.f, Ar.f, Bi.f, Me.f, Me.T, liftT, List.set_cons_succ, List.set_cons_zero, Q1.cl, if_true, e1, tyL (s := s ++ [.lst []]) (i := s.length) at_end, Q1.fld, ix_lstN Q1.getL_ hr, tyL hs, index_ok' (getL_lst hs) fx, mt, ap]
      rfl
    have st2 : execs (callF T (k + 4)) [(.set 5 (.mt Qc q.lev (.var 0) [(.var 4)])), (.expr (.me .append (.var 3) [(.tup [(.var 5), (.me .index (.ix OL (.var 5)) [(.var 4)])])]))] [some (.ref a), some (.int x), some v, some (.ref s.length), some v, some (.int i)] (s ++ [.lst [.tup [.int i, .int n]]]) =
        .exc ⟨q.xQ, []⟩ [some (.ref a), some (.int x), some v, some (.ref s.length), some v, some (.int i)] (s ++ [.lst [.tup [.int i, .int n]]]) := by
      simp only [Fe.bind_ok, Fe.bind_exc, Fe.lift_ok, Fe.lift_exc, Fe.seq_nx, Fe.seq_rt, Fe.seq_exc, Fe.v_non, Fe.v_bl, Fe.v_int, Fe.v_str, Fe.v_var, Fe.v_con, Fe.v_bin, Fe.v_neg, Fe.v_cmp, Fe.v_chn, Fe.v_and, Fe.v_or, Fe.v_not, Fe.v_ite, Fe.v_tup, Fe.v_lst, Fe.v_ix, Fe.v_sl, Fe.v_call, Fe.v_bi, Fe.v_isi, Fe.v_me, Fe.v_lc, Fe.v_dct, Fe.v_rev, Fe.v_fld, Fe.v_mt, Fe.v_pr, Fe.v_mk, Fe.v_oinT, Fe.v_oinF, Fe.v_inV, Fe.v_olen, Fe.v_lenOwn, Fe.v_obool, Fe.v_boolOwn, Fe.v_otru, Fe.v_oix, Fe.v_lrg, Fe.v_trg, Fe.v_ostr, Fe.v_strOwn, Fe.v_asSt, Fe.v_fst, Fe.v_noExc, Fe.v_asBl, Fe.v_asB, Fe.v_asTru, Fe.v_asNon, Fe.o_no, Fe.o_int, Fe.o_var, Fe.o_bin, Fe.o_neg, Fe.o_ite, Fe.asI_int, Fe.t_no, Fe.t_cmp, Fe.t_chn, Fe.t_and, Fe.t_or, Fe.t_not, Fe.t_call, Fe.t_var, Fe.t_isi, Fe.t_bi, Fe.t_oinT, Fe.t_oinF, Fe.t_otru, Fe.t_obool, Fe.t_mt, Fe.t_pr, Fe.t_fld, Fe.t_tru, Fe.sems_nil, Fe.sems_cons, Fe.args_nil, Fe.args_cons, Fe.andV_1, Fe.andV_2, Fe.orV_1, Fe.orV_2, Fe.andT_1, Fe.andT_2, Fe.orT_1, Fe.orT_2, Fe.v_lam, Fe.i_rng, Fe.i_tup, Fe.i_var, Fe.i_fld, Fe.i_mt, Fe.i_oix, Fe.i_enu, Fe.i_call, Fe.x_retN, Fe.x_pass, Fe.x_whl, Fe.x_setf, Fe.x_nil, Fe.x_cons, Fe.x_set, Fe.x_ret, Fe.x_expr, Fe.x_ite, Fe.x_sub, Fe.x_par, Fe.x_asg, Fe.x_for, Fe.x_met, Fe.x_rais, lk_0, lk_s, int_int, add_int, Cm.f, Ar.f, Bi.f, Me.f, Me.T, liftT, List.set_cons_succ, List.set_cons_zero, Q2.cl, if_true, lev_no (q := q) (k := k) Q2.cl (fun k => h k _), Fe.bind_exc, Fe.lift_exc, Fe.seq_exc]
    have fw : forW (Src.live ⟨[.int x, v], none⟩) (bnd (.nm 4)) (execs (callF T (k + 4)) [(.set 5 (.mt Qc q.lev (.var 0) [(.var 4)])), (.expr (.me .append (.var 3) [(.tup [(.var 5), (.me .index (.ix OL (.var 5)) [(.var 4)])])]))]) [.int x, v] [some (.ref a), some (.int x), some v, some (.ref s.length), none, none] (s ++ [.lst []]) =
        .exc ⟨q.xQ, []⟩ [some (.ref a), some (.int x), some v, some (.ref s.length), some v, some (.int i)] (s ++ [.lst [.tup [.int i, .int n]]]) := by
      unfold forW
      rw [if_pos (live_n _ _)]
      show (match execs (callF T (k + 4)) _ [some (.ref a), some (.int x), some v, some (.ref s.length), some (.int x), none] (s ++ [.lst []]) with | .nx ρ2 s2 => _ | .ct ρ2 s2 => _ | .bk ρ2 s2 => _ | .rt d s2 => _ | .exc x ρ2 s2 => _ | .bad => _) = _
      rw [st1]
      dsimp only
      unfold forW
      rw [if_pos (live_n _ _)]
      show (match execs (callF T (k + 4)) _ [some (.ref a), some (.int x), some v, some (.ref s.length), some v, some (.int i)] (s ++ [.lst [.tup [.int i, .int n]]]) with | .nx ρ2 s2 => _ | .ct ρ2 s2 => _ | .bk ρ2 s2 => _ | .rt d s2 => _ | .exc x ρ2 s2 => _ | .bad => _) = _
      rw [st2]
    have so : ∀ s : S, srcOf (.tup [.int x, v]) s = .ok ⟨[.int x, v], none⟩ s := fun s => rfl
    simp only [Fe.bind_ok, Fe.bind_exc, Fe.lift_ok, Fe.lift_exc, Fe.seq_nx, Fe.seq_rt, Fe.seq_exc, Fe.v_non, Fe.v_bl, Fe.v_int, Fe.v_str, Fe.v_var, Fe.v_con, Fe.v_bin, Fe.v_neg, Fe.v_cmp, Fe.v_chn, Fe.v_and, Fe.v_or, Fe.v_not, Fe.v_ite, Fe.v_tup, Fe.v_lst, Fe.v_ix, Fe.v_sl, Fe.v_call, Fe.v_bi, Fe.v_isi, Fe.v_me, Fe.v_lc, Fe.v_dct, Fe.v_rev, Fe.v_fld, Fe.v_mt, Fe.v_pr, Fe.v_mk, Fe.v_oinT, Fe.v_oinF, Fe.v_inV, Fe.v_olen, Fe.v_lenOwn, Fe.v_obool, Fe.v_boolOwn, Fe.v_otru, Fe.v_oix, Fe.v_lrg, Fe.v_trg, Fe.v_ostr, Fe.v_strOwn, Fe.v_asSt, Fe.v_fst, Fe.v_noExc, Fe.v_asBl, Fe.v_asB, Fe.v_asTru, Fe.v_asNon, Fe.o_no, Fe.o_int, Fe.o_var, Fe.o_bin, Fe.o_neg, Fe.o_ite, Fe.asI_int, Fe.t_no, Fe.t_cmp, Fe.t_chn, Fe.t_and, Fe.t_or, Fe.t_not, Fe.t_call, Fe.t_var, Fe.t_isi, Fe.t_bi, Fe.t_oinT, Fe.t_oinF, Fe.t_otru, Fe.t_obool, Fe.t_mt, Fe.t_pr, Fe.t_fld, Fe.t_tru, Fe.sems_nil, Fe.sems_cons, Fe.args_nil, Fe.args_cons, Fe.andV_1, Fe.andV_2, Fe.orV_1, Fe.orV_2, Fe.andT_1, Fe.andT_2, Fe.orT_1, Fe.orT_2, Fe.v_lam, Fe.i_rng, Fe.i_tup, Fe.i_var, Fe.i_fld, Fe.i_mt, Fe.i_oix, Fe.i_enu, Fe.i_call, Fe.x_retN, Fe.x_pass, Fe.x_whl, Fe.x_setf, Fe.x_nil, Fe.x_cons, Fe.x_set, Fe.x_ret, Fe.x_expr, Fe.x_ite, Fe.x_sub, Fe.x_par, Fe.x_asg, Fe.x_for, Fe.x_met, Fe.x_rais, lk_0, lk_s, int_int, add_int, Cm.f, Ar.f, Bi.f, Me.f, Me.T, liftT, List.set_cons_succ, List.set_cons_zero, mkL_nil, mt, so]
    rw [fw]
    rfl
  rw [e]; exact trim_excApp rfl
/-! making -/
theorem ini_bad [hI : Has T q.isI (isIF q)] [hM : Has T q.ini (iniF q)] (h : NoI T q s v ∨ ∃ t : Int, v = .int t ∧ -Big < t ∧ t < Big ∧ (t < 1 ∨ 3 < t)) (h' : s[a]? = some (.ins Qc [])) : callF T (k + 2) q.ini [.ref a, v] s = .exc ⟨q.xN, [v]⟩ s := by
  rw [call_at hM.at_ rfl]
  show trimO s (retO (execs (callF T (k + 1)) (iniB q) [some (.ref a), some v, none] s)) = _
  have e : execs (callF T (k + 1)) (iniB q) [some (.ref a), some v, none] s = .exc ⟨q.xN, [v]⟩ [some (.ref a), some v, none] s := by
    unfold iniB
    rcases h with h | ⟨t, rfl, h1, h2, h3⟩
    · simp only [Fe.bind_ok, Fe.bind_exc, Fe.lift_ok, Fe.lift_exc, Fe.seq_nx, Fe.seq_rt, Fe.seq_exc, Fe.v_non, Fe.v_bl, Fe.v_int, Fe.v_str, Fe.v_var, Fe.v_con, Fe.v_bin, Fe.v_neg, Fe.v_cmp, Fe.v_chn, Fe.v_and, Fe.v_or, Fe.v_not, Fe.v_ite, Fe.v_tup, Fe.v_lst, Fe.v_ix, Fe.v_sl, Fe.v_call, Fe.v_bi, Fe.v_isi, Fe.v_me, Fe.v_lc, Fe.v_dct, Fe.v_rev, Fe.v_fld, Fe.v_mt, Fe.v_pr, Fe.v_mk, Fe.v_oinT, Fe.v_oinF, Fe.v_inV, Fe.v_olen, Fe.v_lenOwn, Fe.v_obool, Fe.v_boolOwn, Fe.v_otru, Fe.v_oix, Fe.v_lrg, Fe.v_trg, Fe.v_ostr, Fe.v_strOwn, Fe.v_asSt, Fe.v_fst, Fe.v_noExc, Fe.v_asBl, Fe.v_asB, Fe.v_asTru, Fe.v_asNon, Fe.o_no, Fe.o_int, Fe.o_var, Fe.o_bin, Fe.o_neg, Fe.o_ite, Fe.asI_int, Fe.t_no, Fe.t_cmp, Fe.t_chn, Fe.t_and, Fe.t_or, Fe.t_not, Fe.t_call, Fe.t_var, Fe.t_isi, Fe.t_bi, Fe.t_oinT, Fe.t_oinF, Fe.t_otru, Fe.t_obool, Fe.t_mt, Fe.t_pr, Fe.t_fld, Fe.t_tru, Fe.sems_nil, Fe.sems_cons, Fe.args_nil, Fe.args_cons, Fe.andV_1, Fe.andV_2, Fe.orV_1, Fe.orV_2, Fe.andT_1, Fe.andT_2, Fe.orT_1, Fe.orT_2, Fe.v_lam, Fe.i_rng, Fe.i_tup, Fe.i_var, Fe.i_fld, Fe.i_mt, Fe.i_oix, Fe.i_enu, Fe.i_call, Fe.x_retN, Fe.x_pass, Fe.x_whl, Fe.x_setf, Fe.x_nil, Fe.x_cons, Fe.x_set, Fe.x_ret, Fe.x_expr, Fe.x_ite, Fe.x_sub, Fe.x_par, Fe.x_asg, Fe.x_for, Fe.x_met, Fe.x_rais, lk_0, lk_s, int_int, add_int, Cm.f, Ar.f, Bi.f, Me.f, Me.T, liftT, List.set_cons_succ, List.set_cons_zero, h k, Bool.not_false, if_true]
    · have c1 : callF T (k + 1) q.isI [.int t] s = .ok (.bl true) s := isI_spec h1 h2
      rcases h3 with h3 | h3
      · simp only [Fe.bind_ok, Fe.bind_exc, Fe.lift_ok, Fe.lift_exc, Fe.seq_nx, Fe.seq_rt, Fe.seq_exc, Fe.v_non, Fe.v_bl, Fe.v_int, Fe.v_str, Fe.v_var, Fe.v_con, Fe.v_bin, Fe.v_neg, Fe.v_cmp, Fe.v_chn, Fe.v_and, Fe.v_or, Fe.v_not, Fe.v_ite, Fe.v_tup, Fe.v_lst, Fe.v_ix, Fe.v_sl, Fe.v_call, Fe.v_bi, Fe.v_isi, Fe.v_me, Fe.v_lc, Fe.v_dct, Fe.v_rev, Fe.v_fld, Fe.v_mt, Fe.v_pr, Fe.v_mk, Fe.v_oinT, Fe.v_oinF, Fe.v_inV, Fe.v_olen, Fe.v_lenOwn, Fe.v_obool, Fe.v_boolOwn, Fe.v_otru, Fe.v_oix, Fe.v_lrg, Fe.v_trg, Fe.v_ostr, Fe.v_strOwn, Fe.v_asSt, Fe.v_fst, Fe.v_noExc, Fe.v_asBl, Fe.v_asB, Fe.v_asTru, Fe.v_asNon, Fe.o_no, Fe.o_int, Fe.o_var, Fe.o_bin, Fe.o_neg, Fe.o_ite, Fe.asI_int, Fe.t_no, Fe.t_cmp, Fe.t_chn, Fe.t_and, Fe.t_or, Fe.t_not, Fe.t_call, Fe.t_var, Fe.t_isi, Fe.t_bi, Fe.t_oinT, Fe.t_oinF, Fe.t_otru, Fe.t_obool, Fe.t_mt, Fe.t_pr, Fe.t_fld, Fe.t_tru, Fe.sems_nil, Fe.sems_cons, Fe.args_nil, Fe.args_cons, Fe.andV_1, Fe.andV_2, Fe.orV_1, Fe.orV_2, Fe.andT_1, Fe.andT_2, Fe.orT_1, Fe.orT_2, Fe.v_lam, Fe.i_rng, Fe.i_tup, Fe.i_var, Fe.i_fld, Fe.i_mt, Fe.i_oix, Fe.i_enu, Fe.i_call, Fe.x_retN, Fe.x_pass, Fe.x_whl, Fe.x_setf, Fe.x_nil, Fe.x_cons, Fe.x_set, Fe.x_ret, Fe.x_expr, Fe.x_ite, Fe.x_sub, Fe.x_par, Fe.x_asg, Fe.x_for, Fe.x_met, Fe.x_rais, lk_0, lk_s, int_int, add_int, Cm.f, Ar.f, Bi.f, Me.f, Me.T, liftT, List.set_cons_succ, List.set_cons_zero, c1, Bool.not_true, Bool.false_eq_true, if_false, le_i, decide_eq_false (show ¬ (1 : Int) ≤ t by omega), Bool.not_false, if_true]
      · by_cases h4 : (1 : Int) ≤ t
        · simp only [Fe.bind_ok, Fe.bind_exc, Fe.lift_ok, Fe.lift_exc, Fe.seq_nx, Fe.seq_rt, Fe.seq_exc, Fe.v_non, Fe.v_bl, Fe.v_int, Fe.v_str, Fe.v_var, Fe.v_con, Fe.v_bin, Fe.v_neg, Fe.v_cmp, Fe.v_chn, Fe.v_and, Fe.v_or, Fe.v_not, Fe.v_ite, Fe.v_tup, Fe.v_lst, Fe.v_ix, Fe.v_sl, Fe.v_call, Fe.v_bi, Fe.v_isi, Fe.v_me, Fe.v_lc, Fe.v_dct, Fe.v_rev, Fe.v_fld, Fe.v_mt, Fe.v_pr, Fe.v_mk, Fe.v_oinT, Fe.v_oinF, Fe.v_inV, Fe.v_olen, Fe.v_lenOwn, Fe.v_obool, Fe.v_boolOwn, Fe.v_otru, Fe.v_oix, Fe.v_lrg, Fe.v_trg, Fe.v_ostr, Fe.v_strOwn, Fe.v_asSt, Fe.v_fst, Fe.v_noExc, Fe.v_asBl, Fe.v_asB, Fe.v_asTru, Fe.v_asNon, Fe.o_no, Fe.o_int, Fe.o_var, Fe.o_bin, Fe.o_neg, Fe.o_ite, Fe.asI_int, Fe.t_no, Fe.t_cmp, Fe.t_chn, Fe.t_and, Fe.t_or, Fe.t_not, Fe.t_call, Fe.t_var, Fe.t_isi, Fe.t_bi, Fe.t_oinT, Fe.t_oinF, Fe.t_otru, Fe.t_obool, Fe.t_mt, Fe.t_pr, Fe.t_fld, Fe.t_tru, Fe.sems_nil, Fe.sems_cons, Fe.args_nil, Fe.args_cons, Fe.andV_1, Fe.andV_2, Fe.orV_1, Fe.orV_2, Fe.andT_1, Fe.andT_2, Fe.orT_1, Fe.orT_2, Fe.v_lam, Fe.i_rng, Fe.i_tup, Fe.i_var, Fe.i_fld, Fe.i_mt, Fe.i_oix, Fe.i_enu, Fe.i_call, Fe.x_retN, Fe.x_pass, Fe.x_whl, Fe.x_setf, Fe.x_nil, Fe.x_cons, Fe.x_set, Fe.x_ret, Fe.x_expr, Fe.x_ite, Fe.x_sub, Fe.x_par, Fe.x_asg, Fe.x_for, Fe.x_met, Fe.x_rais, lk_0, lk_s, int_int, add_int, Cm.f, Ar.f, Bi.f, Me.f, Me.T, liftT, List.set_cons_succ, List.set_cons_zero, c1, Bool.not_true, Bool.false_eq_true, if_false, le_i, decide_eq_true h4, decide_eq_false (show ¬ t ≤ (3 : Int) by omega), Bool.not_false, if_true]
        · simp only [Fe.bind_ok, Fe.bind_exc, Fe.lift_ok, Fe.lift_exc, Fe.seq_nx, Fe.seq_rt, Fe.seq_exc, Fe.v_non, Fe.v_bl, Fe.v_int, Fe.v_str, Fe.v_var, Fe.v_con, Fe.v_bin, Fe.v_neg, Fe.v_cmp, Fe.v_chn, Fe.v_and, Fe.v_or, Fe.v_not, Fe.v_ite, Fe.v_tup, Fe.v_lst, Fe.v_ix, Fe.v_sl, Fe.v_call, Fe.v_bi, Fe.v_isi, Fe.v_me, Fe.v_lc, Fe.v_dct, Fe.v_rev, Fe.v_fld, Fe.v_mt, Fe.v_pr, Fe.v_mk, Fe.v_oinT, Fe.v_oinF, Fe.v_inV, Fe.v_olen, Fe.v_lenOwn, Fe.v_obool, Fe.v_boolOwn, Fe.v_otru, Fe.v_oix, Fe.v_lrg, Fe.v_trg, Fe.v_ostr, Fe.v_strOwn, Fe.v_asSt, Fe.v_fst, Fe.v_noExc, Fe.v_asBl, Fe.v_asB, Fe.v_asTru, Fe.v_asNon, Fe.o_no, Fe.o_int, Fe.o_var, Fe.o_bin, Fe.o_neg, Fe.o_ite, Fe.asI_int, Fe.t_no, Fe.t_cmp, Fe.t_chn, Fe.t_and, Fe.t_or, Fe.t_not, Fe.t_call, Fe.t_var, Fe.t_isi, Fe.t_bi, Fe.t_oinT, Fe.t_oinF, Fe.t_otru, Fe.t_obool, Fe.t_mt, Fe.t_pr, Fe.t_fld, Fe.t_tru, Fe.sems_nil, Fe.sems_cons, Fe.args_nil, Fe.args_cons, Fe.andV_1, Fe.andV_2, Fe.orV_1, Fe.orV_2, Fe.andT_1, Fe.andT_2, Fe.orT_1, Fe.orT_2, Fe.v_lam, Fe.i_rng, Fe.i_tup, Fe.i_var, Fe.i_fld, Fe.i_mt, Fe.i_oix, Fe.i_enu, Fe.i_call, Fe.x_retN, Fe.x_pass, Fe.x_whl, Fe.x_setf, Fe.x_nil, Fe.x_cons, Fe.x_set, Fe.x_ret, Fe.x_expr, Fe.x_ite, Fe.x_sub, Fe.x_par, Fe.x_asg, Fe.x_for, Fe.x_met, Fe.x_rais, lk_0, lk_s, int_int, add_int, Cm.f, Ar.f, Bi.f, Me.f, Me.T, liftT, List.set_cons_succ, List.set_cons_zero, c1, Bool.not_true, Bool.false_eq_true, if_false, le_i, decide_eq_false h4, Bool.not_false, if_true]
  rw [e]; exact trim_exc
theorem mk_bad [hI : Has T q.isI (isIF q)] [hM : Has T q.ini (iniF q)] (h : NoI T q (s ++ [.ins Qc []]) v ∨ ∃ t : Int, v = .int t ∧ -Big < t ∧ t < Big ∧ (t < 1 ∨ 3 < t)) : mkV Qc (callF T (k + 2) q.ini) [v] s = .exc ⟨q.xN, [v]⟩ (s ++ [.ins Qc []]) := by
  unfold mkV
  rw [ini_bad h at_end]
  rfl
end
end Fe

set_option maxHeartbeats 4000000
/-! Fe 22: lists of lists beside queues, lists of texts, small helps. -/
namespace Fe
open PySem PySem.Spec PyProof.Rows
open L2 (atI ixN)
section
variable {T : List Fd} {k : Nat} {s F G g : S} {a L n m i j : Nat} {ls rs X Y : List Nat} {qs : List (List Int)} {z : List Int} {t : Int}
/-- a list of lists of numbers at n; X: places that change -/
structure Lines (s : S) (X : List Nat) (n : Nat) (rs : List Nat) (qs : List (List Int)) : Prop where
  ln : s[n]? = some (.lst (rs.map .ref))
  len : rs.length = qs.length
  at_ : ∀ (i r : Nat) (z : List Int), rs[i]? = some r → qs[i]? = some z → s[r]? = some (.lst (iD z))
  out : ∀ r ∈ rs, r ∉ X
theorem Lines.app (h : Lines s X n rs qs) : Lines (s ++ g) X n rs qs := ⟨at_app h.ln, h.len, fun i r z a b => at_app (h.at_ i r z a b), h.out⟩
theorem Lines.set_X {o : O} (h : Lines s X n rs qs) (hi : i ∈ X) (hn : i ≠ n) : Lines (s.set i o) X n rs qs :=
  ⟨by rw [List.getElem?_set_ne hn]; exact h.ln, h.len, fun j r z e1 e2 => by
    have ne : i ≠ r := fun e => h.out r (List.mem_of_getElem? e1) (e ▸ hi)
    rw [List.getElem?_set_ne ne]; exact h.at_ j r z e1 e2, h.out⟩
theorem Lines.upd {r : Nat} (h : Lines s X n rs qs) (hn : n ∈ X) (hr : r ∉ X) (hs : s[r]? = some (.lst (iD z))) : Lines (s.set n (.lst ((rs.set i r).map .ref))) X n (rs.set i r) (qs.set i z) := by
  have hl := at_lt h.ln
  refine ⟨List.getElem?_set_self hl, by rw [List.length_set, List.length_set]; exact h.len, fun j m y e1 e2 => ?_, fun m hm => ?_⟩
  · have nm : n ≠ m := fun e => by
      have : m ∉ X := by
        rcases List.mem_or_eq_of_mem_set (List.mem_of_getElem? e1) with q | q
        · exact h.out m q
        · rw [q]; exact hr
      exact this (e ▸ hn)
    rw [List.getElem?_set_ne nm]
    by_cases e : i = j
    · subst e
      have hi1 : i < rs.length := by have := (List.getElem?_eq_some_iff.mp e1).1; simpa using this
      rw [List.getElem?_set_self hi1] at e1
      rw [List.getElem?_set_self (by rw [← h.len]; exact hi1)] at e2
      cases e1; cases e2
      exact hs
    · rw [List.getElem?_set_ne e] at e1 e2
      exact h.at_ j m y e1 e2
  · rcases List.mem_or_eq_of_mem_set hm with q | q
    · exact h.out m q
    · rw [q]; exact hr
theorem Lines.getL_ (h : Lines s X n rs qs) : getL s n = some (rs.map .ref) := getL_lst h.ln
theorem Lines.get_r {r : Nat} (h : Lines s X n rs qs) (e : rs[i]? = some r) : ∃ z, qs[i]? = some z ∧ s[r]? = some (.lst (iD z)) := by
  have hi : i < qs.length := by rw [← h.len]; exact (List.getElem?_eq_some_iff.mp e).1
  exact ⟨_, List.getElem?_eq_getElem hi, h.at_ i r _ e (List.getElem?_eq_getElem hi)⟩
theorem Lines.get_ (h : Lines s X n rs qs) (e : qs[i]? = some z) : ∃ r, rs[i]? = some r ∧ s[r]? = some (.lst (iD z)) ∧ (rs.map D.ref)[i]? = some (.ref r) := by
  have hi : i < rs.length := by rw [h.len]; exact (List.getElem?_eq_some_iff.mp e).1
  refine ⟨rs[i], List.getElem?_eq_getElem hi, h.at_ i _ z (List.getElem?_eq_getElem hi) e, ?_⟩
  rw [List.getElem?_map, List.getElem?_eq_getElem hi]; rfl
theorem Lines.lts (h : Lines s X n rs qs) : ∀ r ∈ rs, r < s.length := fun r hr => by
  obtain ⟨i, hi⟩ := List.getElem?_of_mem hr
  obtain ⟨z, _, e⟩ := h.get_r hi
  exact at_lt e
theorem QAt.lts (h : QAt s a L ls qs) : ∀ x ∈ a :: L :: ls, x < s.length := fun x hx => by
  rcases List.mem_cons.mp hx with e | hx
  · rw [e]; exact at_lt h.ins
  · rcases List.mem_cons.mp hx with e | hx
    · rw [e]; exact at_lt h.own
    · obtain ⟨i, hi⟩ := List.getElem?_of_mem hx
      obtain ⟨z, _, e⟩ := h.get_l hi
      exact at_lt e
theorem sameOr_refl : sameOr s s = true := by
  have := sameOr_app (s := s) (g := [])
  rwa [List.append_nil] at this
theorem cat_lst {ds es : List D} (h : s[i]? = some (.lst ds)) (h' : s[j]? = some (.lst es)) (hl : ds.length + es.length ≤ line) : opAdd (.ref i) (.ref j) s = .ok (.ref s.length) (s ++ [.lst (ds ++ es)]) := by
  show (match s[i]?, s[j]? with | some (.lst a), some (.lst b) => _ | _, _ => _) = _
  rw [h, h']
  show (if ds.length + es.length ≤ line then _ else _) = _
  rw [if_pos hl]
theorem putV_len {c : List Nat} : (putV c z t).length = z.length + 1 := by
  unfold putV
  split <;> simp
theorem Fr.trans (h : Fr s F X) (h' : Fr F G X) : Fr s G X := ⟨Nat.le_trans h.len h'.len, fun i hi hx => by rw [h'.eq i (Nat.lt_of_lt_of_le hi h.len) hx, h.eq i hi hx]⟩
theorem Fr.at_ {o : O} (h : Fr s F X) (e : s[i]? = some o) (hx : i ∉ X) : F[i]? = some o := by rw [h.eq i (at_lt e) hx]; exact e
theorem QAt.fr (h : QAt s a L ls qs) (f : Fr s F X) (hx : ∀ x ∈ a :: L :: ls, x ∉ X) : QAt F a L ls qs :=
  ⟨f.at_ h.ins (hx a List.mem_cons_self), f.at_ h.own (hx L (List.mem_cons_of_mem _ List.mem_cons_self)), h.len, h.few, fun i l z e1 e2 => f.at_ (h.at_ i l z e1 e2) (hx l (List.mem_cons_of_mem _ (List.mem_cons_of_mem _ (List.mem_of_getElem? e1)))), h.nd⟩
/-! counting -/
theorem rng_of {n : Int} (h0 : 0 ≤ n) (h1 : n ≤ 1000) : rngOk n = true := by
  unfold rngOk
  rw [Bool.and_eq_true]
  exact ⟨decide_eq_true (by omega), decide_eq_true (by omega)⟩
theorem rng_src {ρ : Env} {es : List E} {N : Nat} (h : argsV (sems (callF T k) es) ρ s = .ok [.int (N : Int)] s) (hN : N ≤ 1000) : (sem (callF T k) (.rng es)).i ρ s = .ok ⟨rangeD 0 N, none⟩ s := by
  rw [i_rng, h, bind_ok, src_1 (rng_small hN), Int.toNat_natCast]
theorem rangeD0 {N i : Nat} {d : D} (h : (rangeD 0 N)[i]? = some d) : i < N ∧ d = .int (i : Int) := by
  have hl := (List.getElem?_eq_some_iff.mp h).1
  rw [rangeD_len] at hl
  rw [rangeD_get hl] at h
  cases h
  exact ⟨hl, by rw [Int.zero_add]⟩
/-- the numbers below N -/
def below (N : Nat) : List Int := (List.range N).map fun (i : Nat) => (i : Int)
theorem below_D {N : Nat} : rangeD 0 N = iD (below N) := by
  apply List.ext_getElem?
  intro i
  by_cases h : i < N
  · rw [rangeD_get h]
    unfold below
    rw [List.getElem?_map, List.getElem?_map, List.getElem?_range h, Int.zero_add]; rfl
  · rw [List.getElem?_eq_none (by rw [rangeD_len]; omega), List.getElem?_eq_none (by unfold below; simp; omega)]
theorem below_len {N : Nat} : (below N).length = N := by unfold below; simp
theorem below_mem {N : Nat} {t : Int} : t ∈ below N ↔ 0 ≤ t ∧ t < (N : Int) := by
  unfold below
  rw [List.mem_map]
  constructor
  · rintro ⟨i, hi, rfl⟩
    have := List.mem_range.mp hi
    omega
  · rintro ⟨h0, h1⟩
    exact ⟨t.toNat, List.mem_range.mpr (by omega), by omega⟩
theorem below_nodup {N : Nat} : (below N).Nodup := by
  unfold below
  rw [List.Nodup, List.pairwise_map]
  exact List.Pairwise.imp (fun {a b} h => by omega) List.nodup_range
theorem lrg_below {N : Nat} (h : N ≤ 1000) (h1 : 1 ≤ N) : lstRg [.int N] s = .ok (.ref s.length) (s ++ [O.lst (iD (below N))]) := by
  have e : bnds2 [.int (N : Int)] = some (0, (N : Int)) := rfl
  have h : rgOkB 0 (N : Int) = true := by
    unfold rgOkB
    rw [rng_of (by decide) (by decide), rng_of (by omega) (by omega)]
    simp
    omega
  unfold lstRg
  rw [e]
  dsimp only
  rw [if_pos h, ← below_D]
  congr 4
theorem ret_bl {s s' : S} {v : Bool} : ∃ s'', trimO s (.ok (.bl v) s') = .ok (.bl v) s'' ∧ (s'' = s' ∨ s'' = s'.take s.length) := by
  unfold trimO trim
  dsimp only
  split
  · exact ⟨_, rfl, .inr rfl⟩
  · exact ⟨_, rfl, .inl rfl⟩
theorem forW_idx {live : S → Bool} {bind : D → Env → S → TOut} {body : Env → S → SOut} {P : Nat → Env → S → Prop} : ∀ (ds : List D) (i0 : Nat) (ρ : Env) (s : S), P i0 ρ s → (∀ i ρ s, P i ρ s → live s = true) →
    (∀ (j : Nat) (d : D), ds[j]? = some d → ∀ ρ s, P (i0 + j) ρ s → ∃ ρ1 s1, bind d ρ s = some (ρ1, s1) ∧ ∃ ρ2 s2, body ρ1 s1 = .nx ρ2 s2 ∧ P (i0 + j + 1) ρ2 s2) → ∃ ρ' s', forW live bind body ds ρ s = .nx ρ' s' ∧ P (i0 + ds.length) ρ' s'
  | [], i0, ρ, s, h, hl, _ => ⟨ρ, s, by unfold forW; rw [if_pos (hl _ ρ s h)], h⟩
  | d :: ds, i0, ρ, s, h, hl, hb => by
    obtain ⟨ρ1, s1, e1, ρ2, s2, e2, h2⟩ := hb 0 d rfl ρ s h
    obtain ⟨ρ3, s3, e3, h3⟩ := forW_idx (P := P) ds (i0 + 1) ρ2 s2 h2 hl fun j d' hd ρ s hp => by
      have := hb (j + 1) d' hd ρ s (by rw [show i0 + (j + 1) = i0 + 1 + j by omega]; exact hp)
      rw [show i0 + (j + 1) + 1 = i0 + 1 + j + 1 by omega] at this
      exact this
    refine ⟨ρ3, s3, ?_, by rw [List.length_cons, show i0 + (ds.length + 1) = i0 + 1 + ds.length by omega]; exact h3⟩
    unfold forW
    rw [if_pos (hl _ ρ s h), e1]
    dsimp only
    rw [e2]
    exact e3
/-! a list of new lists -/
def em (B n : Nat) : S := O.lst ((List.range n).map fun i => D.ref (B + 1 + i)) :: List.replicate n (O.lst [])
theorem em_len {B : Nat} : (em B n).length = n + 1 := by unfold em; simp
theorem em_at : (s ++ em s.length n)[s.length]? = some (O.lst ((List.range n).map fun i => D.ref (s.length + 1 + i))) := by
  rw [List.getElem?_append_right (Nat.le_refl _), Nat.sub_self]; rfl
theorem em_get (h : i < n) : (s ++ em s.length n)[s.length + 1 + i]? = some (O.lst []) := by
  rw [List.getElem?_append_right (by omega), show s.length + 1 + i - s.length = i + 1 by omega]
  unfold em
  rw [List.getElem?_cons_succ, List.getElem?_replicate, if_pos h]
theorem em_push (h : n ≤ 3) : pushAt s.length (.ref (s ++ em s.length n).length) (s ++ em s.length n ++ [O.lst []]) = some (s ++ em s.length (n + 1)) := by
  unfold pushAt
  rw [at_app em_at]
  dsimp only
  rw [if_pos (by rw [List.length_map, List.length_range]; unfold line; omega), List.length_append, em_len]
  congr 1
  rw [List.append_assoc, List.set_append_right _ _ (Nat.le_refl _), Nat.sub_self]
  congr 1
  unfold em
  show O.lst _ :: (List.replicate n (O.lst []) ++ [O.lst []]) = O.lst _ :: List.replicate (n + 1) (O.lst [])
  rw [← List.replicate_succ', List.range_succ, List.map_append]
  have e : s.length + (n + 1) = s.length + 1 + n := by omega
  rw [e]
  rfl
theorem em_turns {live : S → Bool} {bind : D → Env → S → TOut} {ρ : Env} (lv : ∀ s, live s = true) (hb : ∀ (d : D) (s : S), ∃ ρ1, bind d ρ s = some (ρ1, s)) : ∀ (ds : List D) (n : Nat), n + ds.length ≤ 4 → lcW live bind (sem (callF T k) .no).t (sem (callF T k) (.lst [])).v ρ s.length ds (s ++ em s.length n) = .ok () (s ++ em s.length (n + ds.length))
  | [], n, _ => by unfold lcW; rw [if_pos (lv _)]; rfl
  | d :: ds, n, h => by
    rw [List.length_cons] at h
    conv => lhs; unfold lcW
    rw [if_pos (lv _)]
    obtain ⟨ρ1, b1⟩ := hb d (s ++ em s.length n)
    rw [b1]
    dsimp only
    rw [t_no]
    dsimp only
    rw [v_lst, sems_nil, args_nil, bind_ok, mkL_nil]
    dsimp only
    rw [em_push (by omega)]
    dsimp only
    rw [em_turns lv hb ds (n + 1) (by omega), List.length_cons]
    congr 3
    omega
theorem lines_made {ρ : Env} {u v : Nat} (hm : m ≤ 3) (h : lk ρ u s = .ok (.int m) s) (hb : ∀ (d : D) (s : S), ∃ ρ1, bnd (.nm v) d (wipeE ρ [v]) s = some (ρ1, s)) : (sem (callF T k) (.lc (.lst []) (.nm v) (.rng [(.var u)]) .no [v])).v ρ s = .ok (.ref s.length) (s ++ em s.length m) := by
  have src : (sem (callF T k) (.rng [(.var u)])).i ρ s = .ok ⟨rangeD 0 m, none⟩ s := rng_src (N := m) (by
    rw [sems_cons, sems_nil, args_cons, v_var, h, bind_ok, args_nil, bind_ok]) (by omega)
  rw [v_lc]
  refine lcV_eq src rfl rfl ?_
  have go := em_turns (T := T) (k := k) (s := s) (live := Src.live ⟨rangeD 0 m, none⟩) (fun s => live_n' _ s) hb (rangeD 0 m) 0 (by rw [rangeD_len]; omega)
  rw [rangeD_len, Nat.zero_add] at go
  exact go
theorem em_lines (hX : ∀ x ∈ X, x ≤ s.length) : Lines (s ++ em s.length m) X s.length ((List.range m).map fun i => s.length + 1 + i) (List.replicate m []) := by
  refine ⟨by rw [List.map_map]; exact em_at, by simp, fun i r z f1 f2 => ?_, fun r hr hx => ?_⟩
  · rw [List.getElem?_map] at f1
    obtain ⟨j, hj, rfl⟩ := Option.map_eq_some_iff.mp f1
    obtain ⟨hj1, hj2⟩ := List.getElem?_eq_some_iff.mp hj
    rw [List.length_range] at hj1
    rw [List.getElem_range] at hj2
    subst hj2
    rw [List.getElem?_replicate, if_pos hj1] at f2
    cases f2
    exact em_get hj1
  · obtain ⟨j, hj, rfl⟩ := List.mem_map.mp hr
    have := hX _ hx
    omega
theorem mk_v {ρ : Env} {e : E} {c : Cl} {f : Nat} {d d' : D} {s' : S} (h : (sem (callF T k) e).v ρ s = .ok d s) (e' : mkV c (callF T k f) [d] s = .ok d' s') : (sem (callF T k) (.mk c f [e])).v ρ s = .ok d' s' := by
  have a : argsV (sems (callF T k) [e]) ρ s = .ok [d] s := by
    rw [sems_cons, sems_nil, args_cons, h, bind_ok, args_nil, bind_ok]
  rw [v_mk, a, bind_ok, e']
/-! lists of texts -/
theorem pds_strs {n : Nat} : ∀ ys : List (List Nat), mapO (pd s (n + 1)) (ys.map D.str) = some (ys.map fun y => PyData.str ⟨y.toArray⟩)
  | [] => rfl
  | y :: ys => by
    rw [List.map_cons]
    unfold mapO
    rw [pds_strs ys]
    rfl
theorem eqv_strs : ∀ ys : List (List Nat), PyData.eqvAll (ys.map fun y => PyData.str ⟨y.toArray⟩) (ys.map fun y => PyData.str ⟨y.toArray⟩) = true
  | [] => rfl
  | y :: ys => by
    show ((PyData.str ⟨y.toArray⟩).eqv (.str ⟨y.toArray⟩) && PyData.eqvAll _ _) = true
    rw [eqv_strs ys]
    show (((⟨y.toArray⟩ : Str) == ⟨y.toArray⟩) && true) = true
    rw [str_eq, Bool.and_true]
    exact beq_self_eq_true y
theorem eq_lstS {ys : List (List Nat)} (h : getL s i = some (ys.map D.str)) (h' : getL s j = some (ys.map D.str)) : opEq (.ref i) (.ref j) s = .ok (.bl true) s := by
  have pl : ∀ i, getL s i = some (ys.map D.str) → pd s 60 (.ref i) = some (.list (ys.map fun y => PyData.str ⟨y.toArray⟩)) := fun i h => by
    show (match getL s i with | some ds => (mapO (pd s 59) ds).map PyData.list | none => none) = _
    rw [h]
    show (mapO (pd s (58 + 1)) (ys.map D.str)).map PyData.list = _
    rw [pds_strs]; rfl
  unfold opEq eqD
  rw [pl i h, pl j h']
  show Out.ok (D.bl (PyData.eqvAll _ _)) s = _
  rw [eqv_strs]
theorem ne_lstS {ys : List (List Nat)} (h : getL s i = some (ys.map D.str)) (h' : getL s j = some (ys.map D.str)) : opNe (.ref i) (.ref j) s = .ok (.bl false) s := by
  have pl : ∀ i, getL s i = some (ys.map D.str) → pd s 60 (.ref i) = some (.list (ys.map fun y => PyData.str ⟨y.toArray⟩)) := fun i h => by
    show (match getL s i with | some ds => (mapO (pd s 59) ds).map PyData.list | none => none) = _
    rw [h]
    show (mapO (pd s (58 + 1)) (ys.map D.str)).map PyData.list = _
    rw [pds_strs]; rfl
  unfold opNe eqD
  rw [pl i h, pl j h']
  show Out.ok (D.bl (!PyData.eqvAll _ _)) s = _
  rw [eqv_strs]
  rfl
/-! lists of tuples of numbers -/
theorem pds_tups {n : Nat} : ∀ qs : List (List Int), mapO (pd s (n + 1)) (qs.map fun z => D.tup (iD z)) = some (qs.map fun z => PyData.tuple (z.map PyData.int))
  | [] => rfl
  | z :: qs => by
    rw [List.map_cons]
    unfold mapO
    rw [pds_tups qs, pd_tup]
    rfl
theorem eqv_tups : ∀ qs : List (List Int), PyData.eqvAll (qs.map fun z => PyData.tuple (z.map PyData.int)) (qs.map fun z => PyData.tuple (z.map PyData.int)) = true
  | [] => rfl
  | z :: qs => by
    show ((PyData.tuple (z.map .int)).eqv (.tuple (z.map .int)) && PyData.eqvAll _ _) = true
    rw [eqv_tups qs]
    show (PyData.eqvAll (z.map PyData.int) (z.map PyData.int) && true) = true
    rw [eqv_ints, decide_eq_true rfl]; rfl
theorem ne_lstT {i j : Nat} (h : getL s i = some (qs.map fun z => D.tup (iD z))) (h' : getL s j = some (qs.map fun z => D.tup (iD z))) : opNe (.ref i) (.ref j) s = .ok (.bl false) s := by
  have pl : ∀ i, getL s i = some (qs.map fun z => D.tup (iD z)) → pd s 60 (.ref i) = some (.list (qs.map fun z => PyData.tuple (z.map PyData.int))) := fun i h => by
    show (match getL s i with | some ds => (mapO (pd s 59) ds).map PyData.list | none => none) = _
    rw [h]
    show (mapO (pd s (58 + 1)) (qs.map fun z => D.tup (iD z))).map PyData.list = _
    rw [pds_tups]; rfl
  unfold opNe eqD
  rw [pl i h, pl j h']
  show Out.ok (D.bl (!PyData.eqvAll _ _)) s = _
  rw [eqv_tups]
  rfl
/-! a list times a number -/
theorem mul_lst {ds : List D} {m : Nat} (h : s[i]? = some (.lst ds)) (hm : m ≤ 100) (hl : ds.length ≤ 100) : opMul (.ref i) (.int m) s = .ok (.ref s.length) (s ++ [.lst (List.replicate m ds).flatten]) := by
  show (match s[i]? with | some (.lst a) => _ | _ => _) = _
  rw [h]
  show (if -(2 ^ 63) ≤ (m : Int) ∧ (m : Int) < 2 ^ 63 ∧ ds.length * (m : Int).toNat ≤ line then _ else _) = _
  rw [if_pos, Int.toNat_natCast]
  refine ⟨by omega, by omega, ?_⟩
  rw [Int.toNat_natCast]
  have : ds.length * m ≤ 100 * 100 := Nat.mul_le_mul hl hm
  unfold line
  omega
end
end Fe

set_option maxHeartbeats 0
namespace K16
open PySem PySem.Spec PyProof.Rows L2 Fe
abbrev Rw : PySem.W.OpenLaw := PySem.Challenge.rw_twoandabell_k16_queues_refused
def top (i : Nat) : Stmt := PySem.Challenge.pw_twoandabell_k16_queues_refused.main.body.getD i (.Pass ⟨0, 0, 0, 0⟩)
def mem (i j : Nat) : Stmt := match top i with | .ClassDef _ _ _ b _ _ _ _ _ _ _ => b.getD j (.Pass ⟨0, 0, 0, 0⟩) | _ => .Pass ⟨0, 0, 0, 0⟩
def Q0 : Cl := ⟨0, "Queues", ["own_lists"]⟩
/-- law: 0 _law_script, 1 _law_spot, 2 _law_told, 3 _law_none, 4 _law_dice_here, 5 _law_turn, 6 _law_odd -/
def b0 : List Fe.St := [(.for_ (.nm 1) (.rng [(.bi .max [(.int 1), (.bi .min [(.int 10), (.bi .len [(.var 0)])])])]) [(.set 4 (.call 1 [(.var 0), (.var 1)])), (.for_ (.nm 5) (.rng [(.int 6)]) [(.ite (.not (.call 2 [(.var 4)])) [(.ret (.bl false))] [])]), (.set 6 (.call 3 [(.var 4), (.lst [(.int 0), (.int 4), (.neg (.int 1)), (.bin .pow (.int 10) (.int 40)), (.bin .pow (.int 10) (.int 50)), .non, (.bl true), (.bl false), (.str [49]), (.str []), (.tup [(.int 1)]), (.lst [(.int 1)]), (.dct [] [])])])), (.ite (.cmp .ne (.lam 1 "law" 4 (.mk Q0 5 [(.var 6)])) (.bin .add (.str [110, 117, 109, 98, 101, 114, 32]) (.bi .repr [(.var 6)]))) [(.ret (.bl false))] [])]),
    (.set 2 (.lst [(.lam 1 "law" 4 (.mk Q0 5 [(.int 0)]))])),
    (.expr (.me .append (.var 2) [(.lam 1 "law" 4 (.mk Q0 5 [(.int 4)]))])),
    (.expr (.me .append (.var 2) [(.lam 1 "law" 4 (.mk Q0 5 [(.bl true)]))])),
    (.ite (.cmp .ne (.var 2) (.lst [(.str [110, 117, 109, 98, 101, 114, 32, 48]), (.str [110, 117, 109, 98, 101, 114, 32, 52]), (.str [110, 117, 109, 98, 101, 114, 32, 84, 114, 117, 101])])) [(.ret (.bl false))] []),
    (.set 3 (.mk Q0 5 [(.int 2)])),
    (.set 2 (.lst [(.mt Q0 6 (.var 3) []), (.pr Q0 7 (.var 3)), (.olen Q0 8 (.var 3)), (.oix Q0 9 (.var 3) (.int 1)), (.ostr Q0 10 (.var 3)), (.obool Q0 11 (.var 3)), (.mt Q0 12 (.var 3) [])])),
    (.ret (.cmp .eq (.var 2) (.lst [.non, .non, (.int 0), (.tup []), (.str [48, 58, 32, 110, 111, 110, 101, 44, 32, 49, 58, 32, 110, 111, 110, 101]), (.bl false), (.tup [])])))]
def t0 : Fd := ⟨"law", ["_law_script"], ["_law_script", "_law_spot", "_law_told", "_law_none", "_law_dice_here", "_law_turn", "_law_odd"], b0, .fn⟩
/-- _law_dice: 0 _law_script, 1 _law_spot, 2 _law_cell, 3 _law_great, 4 _law_blend -/
def b1 : List Fe.St := [(.set 2 (.ite (.cmp .lt (.var 1) (.bi .len [(.var 0)])) (.ix (.var 0) (.var 1)) (.bin .add (.bin .mul (.int 47) (.var 1)) (.int 13)))),
    (.set 3 (.bin .mod (.bi .int [(.bi .abs [(.var 2)])]) (.bin .pow (.bin .pow (.int 10) (.int 61)) (.int 10)))),
    (.set 4 (.bin .add (.bin .add (.bin .add (.bin .mul (.var 3) (.int 3935559000370003845)) (.bin .mul (.int 89) (.var 1))) (.bin .mul (.int 17) (.bi .int [(.cmp .lt (.var 2) (.int 0))]))) (.int 3))),
    (.ret (.lst [(.bi .max [(.int 0), (.bin .sub (.var 3) (.bin .pow (.int 10) (.int 18)))]), (.bin .mod (.bi .int [(.var 4)]) (.int 2305843009213693967)), (.int 0)]))]
def t1 : Fd := ⟨"_law_dice", ["_law_script", "_law_spot"], ["_law_script", "_law_spot", "_law_cell", "_law_great", "_law_blend"], b1, .fn⟩
/-- _law_right: 0 _law_dice_here, 1 _law_count, 2 _law_due, 3 _law_inside, 4 _law_outside, 5 _law_odd, 6 _law_far, 7 _law_none, 8 _law_told, 9 _law_away, 10 _law_queues, 11 _law_lines, 12 _law_task, 13 _law_new, 14 _law_level, 15 _law_place, 16 _law_line, 17 _law_one -/
def b2 : List Fe.St := [(.set 1 (.bin .add (.int 1) (.call 13 [(.var 0), (.int 3)]))),
    (.asg (.tp [(.nm 10), (.nm 11)]) (.call 14 [(.var 0), (.var 1)])),
    (.set 2 (.lc (.bi .tup [(.var 16)]) (.nm 16) (.var 11) .no [16])),
    (.set 3 (.lc (.var 12) (.nm 12) (.rng [(.int 8)]) (.oin false Q0 15 (.var 12) (.var 10)) [12])),
    (.set 4 (.lc (.var 12) (.nm 12) (.rng [(.int 9)]) (.cmp .nin (.var 12) (.var 3)) [12])),
    (.asg (.tp [(.nm 12), (.nm 13)]) (.tup [(.call 3 [(.var 0), (.var 3)]), (.call 3 [(.var 0), (.var 4)])])),
    (.set 5 (.call 3 [(.var 0), (.lst [.non, (.str []), (.str [48]), (.bl true), (.bl false), (.neg (.int 1)), (.bin .pow (.int 10) (.int 40)), (.bin .pow (.int 10) (.int 60)), (.tup []), (.tup [(.int 0)]), (.lst []), (.lst [(.var 12)]), (.dct [] []), (.dct [(.var 12)] [(.int 0)])])])),
    (.set 6 (.call 3 [(.var 0), (.lst [(.var 1), (.bin .add (.var 1) (.int 1)), (.neg (.int 1)), .non, (.bl true), (.bl false), (.str [48]), (.str []), (.tup [(.int 0)]), (.lst []), (.dct [] []), (.bin .pow (.int 10) (.int 41)), (.neg (.bin .pow (.int 10) (.int 41)))])])),
    (.set 7 (.call 3 [(.var 0), (.lst [.non, (.str []), (.str [66, 97, 99, 107]), (.str [109, 105, 100, 100, 108, 101]), (.str [107, 101, 112, 116]), (.bl true), (.int 0), (.tup [(.str [98, 97, 99, 107])]), (.lst [(.str [102, 114, 111, 110, 116])]), (.dct [] []), (.str [102, 114, 111, 110, 116, 32])])])),
    (.asg (.tp [(.nm 14), (.nm 15)]) (.tup [(.call 13 [(.var 0), (.var 1)]), (.call 3 [(.var 0), (.lst [(.str [98, 97, 99, 107]), (.str [102, 114, 111, 110, 116])])])])),
    (.set 8 (.lst [(.lam 2 "_law_right" 4 (.mt Q0 16 (.var 10) [(.var 5), (.var 14), (.var 15)]))])),
    (.expr (.me .append (.var 8) [(.lam 2 "_law_right" 4 (.mt Q0 16 (.var 10) [(.var 5), (.var 6), (.var 7)]))])),
    (.expr (.me .append (.var 8) [(.lam 2 "_law_right" 4 (.mt Q0 16 (.var 10) [(.var 12), (.var 14), (.var 15)]))])),
    (.expr (.me .append (.var 8) [(.lam 2 "_law_right" 4 (.mt Q0 16 (.var 10) [(.var 12), (.var 6), (.var 15)]))])),
    (.expr (.me .append (.var 8) [(.lam 2 "_law_right" 4 (.mt Q0 16 (.var 10) [(.var 13), (.var 14), (.var 7)]))])),
    (.ite (.cmp .ne (.var 8) (.bin .mul (.lst [(.str [113, 117, 101, 117, 101])]) (.int 5))) [(.ret (.bl false))] []),
    (.set 8 (.lst [(.lam 2 "_law_right" 4 (.mt Q0 16 (.var 10) [(.var 13), (.var 6), (.var 15)]))])),
    (.expr (.me .append (.var 8) [(.lam 2 "_law_right" 4 (.mt Q0 16 (.var 10) [(.var 13), (.var 6), (.var 7)]))])),
    (.expr (.me .append (.var 8) [(.lam 2 "_law_right" 4 (.oix Q0 9 (.var 10) (.var 6)))])),
    (.ite (.cmp .ne (.var 8) (.bin .mul (.lst [(.bin .add (.str [110, 117, 109, 98, 101, 114, 32]) (.bi .repr [(.var 6)]))]) (.int 3))) [(.ret (.bl false))] []),
    (.set 9 (.call 3 [(.var 0), (.lst [(.var 5), (.var 13)])])),
    (.set 8 (.lst [(.lam 2 "_law_right" 4 (.mt Q0 17 (.var 10) [(.var 9)]))])),
    (.expr (.me .append (.var 8) [(.lam 2 "_law_right" 4 (.mt Q0 18 (.var 10) [(.var 9)]))])),
    (.expr (.me .append (.var 8) [(.lam 2 "_law_right" 4 (.mt Q0 19 (.var 10) [(.var 9), (.var 12)]))])),
    (.expr (.me .append (.var 8) [(.lam 2 "_law_right" 4 (.mt Q0 19 (.var 10) [(.var 12), (.var 9)]))])),
    (.expr (.me .append (.var 8) [(.lam 2 "_law_right" 4 (.mt Q0 19 (.var 10) [(.var 9), (.var 5)]))])),
    (.ite (.or [(.cmp .ne (.var 8) (.bin .mul (.lst [(.str [113, 117, 101, 117, 101])]) (.int 5))), (.cmp .ne (.lc (.oix Q0 9 (.var 10) (.var 17)) (.nm 17) (.rng [(.var 1)]) .no [17]) (.var 2))]) [(.ret (.bl false))] []),
    (.set 8 (.lst [(.lam 2 "_law_right" 4 (.mt Q0 17 (.var 10) [(.var 12)]))])),
    (.expr (.me .append (.var 8) [(.lam 2 "_law_right" 4 (.mt Q0 16 (.var 10) [(.var 12), (.var 14), (.var 15)]))])),
    (.expr (.me .append (.var 8) [(.lam 2 "_law_right" 4 (.mt Q0 16 (.var 10) [(.var 13), (.var 14), (.var 15)]))])),
    (.expr (.me .append (.var 8) [(.lam 2 "_law_right" 4 (.mt Q0 19 (.var 10) [(.var 13), (.var 12)]))])),
    (.ret (.and [(.cmp .eq (.var 8) (.bin .mul (.lst [(.str [102, 105, 110, 101])]) (.int 4))), (.cmp .eq (.olen Q0 8 (.var 10)) (.bin .add (.bi .len [(.var 3)]) (.int 1)))]))]
def t2 : Fd := ⟨"_law_right", ["_law_dice_here"], ["_law_dice_here", "_law_count", "_law_due", "_law_inside", "_law_outside", "_law_odd", "_law_far", "_law_none", "_law_told", "_law_away", "_law_queues", "_law_lines", "_law_task", "_law_new", "_law_level", "_law_place", "_law_line", "_law_one"], b2, .fn⟩
/-- _law_pick: 0 _law_dice_here, 1 _law_items -/
def b3 : List Fe.St := [(.ret (.ix (.var 1) (.call 13 [(.var 0), (.bi .len [(.var 1)])])))]
def t3 : Fd := ⟨"_law_pick", ["_law_dice_here", "_law_items"], ["_law_dice_here", "_law_items"], b3, .fn⟩
/-- _law_met: 0 _law_call, 1 e -/
def b4 : List Fe.St := [(.met false 3 [(0, [1], 1, (.isx 1 3 [0, 1, 2] (.of (.str [113, 117, 101, 117, 101])) (.of (.str [111, 116, 104, 101, 114])))), (2, [2], 1, (.bin .add (.of (.str [110, 117, 109, 98, 101, 114, 32])) (.bi .repr (.fld 2))))]),
    (.ret (.str [102, 105, 110, 101]))]
def t4 : Fd := ⟨"_law_met", ["_law_call"], ["_law_call", "e"], b4, .lm⟩
/-- __init__: 0 self, 1 many, 2 level -/
def b5 : List Fe.St := [(.ite (.or [(.not (.call 20 [(.var 1)])), (.not (.chn .le .le (.int 1) (.var 1) (.con 0 (.int 3))))]) [(.rais 2 true (.var 1))] []),
    (.setf (.var 0) "own_lists" (.lc (.lst []) (.nm 2) (.rng [(.var 1)]) .no [2]))]
def t5 : Fd := ⟨"__init__", ["self", "many"], ["self", "many", "level"], b5, .mk Q0⟩
/-- pick: 0 self -/
def b6 : List Fe.St := [(.ret (.ite (.cmp .is (.pr Q0 7 (.var 0)) .non) .non (.me .popAt (.ix (.fld (.var 0) "own_lists") (.pr Q0 7 (.var 0))) [(.int 0)])))]
def t6 : Fd := ⟨"pick", ["self"], ["self"], b6, .mt Q0⟩
/-- best: 0 self, 1 level, 2 tasks -/
def b7 : List Fe.St := [(.for_ (.tp [(.nm 1), (.nm 2)]) (.enu (.fld (.var 0) "own_lists")) [(.ite (.cmp .ne (.var 2) (.lst [])) [(.ret (.var 1))] [])]),
    (.ret .non)]
def t7 : Fd := ⟨"best", ["self"], ["self", "level", "tasks"], b7, .pr Q0⟩
/-- __len__: 0 self -/
def b8 : List Fe.St := [(.ret (.bi .len [(.mt Q0 12 (.var 0) [])]))]
def t8 : Fd := ⟨"__len__", ["self"], ["self"], b8, .sp Q0⟩
/-- __getitem__: 0 self, 1 level -/
def b9 : List Fe.St := [(.ite (.not (.call 21 [(.var 1), (.bi .len [(.fld (.var 0) "own_lists")])])) [(.rais 2 true (.var 1))] []),
    (.ret (.bi .tup [(.ix (.fld (.var 0) "own_lists") (.var 1))]))]
def t9 : Fd := ⟨"__getitem__", ["self", "level"], ["self", "level"], b9, .sp Q0⟩
/-- __str__: 0 self, 1 level, 2 tasks -/
def b10 : List Fe.St := [(.ret (.me .join (.str [44, 32]) [(.lc (.fst [(.var 1), (.str [58, 32]), (.call 22 [(.var 2)])]) (.tp [(.nm 1), (.nm 2)]) (.enu (.fld (.var 0) "own_lists")) .no [1, 2])]))]
def t10 : Fd := ⟨"__str__", ["self"], ["self", "level", "tasks"], b10, .sp Q0⟩
/-- __bool__: 0 self -/
def b11 : List Fe.St := [(.ret (.cmp .isn (.pr Q0 7 (.var 0)) .non))]
def t11 : Fd := ⟨"__bool__", ["self"], ["self"], b11, .sp Q0⟩
/-- tasks: 0 self, 1 found, 2 tasks -/
def b12 : List Fe.St := [(.set 1 (.lst [])),
    (.for_ (.nm 2) (.fld (.var 0) "own_lists") [(.expr (.me .extend (.var 1) [(.var 2)]))]),
    (.ret (.bi .tup [(.var 1)]))]
def t12 : Fd := ⟨"tasks", ["self"], ["self", "found", "tasks"], b12, .mt Q0⟩
/-- _law_roll: 0 _law_dice_here, 1 _law_upto, 2 _law_one, 3 _law_two, 4 _law_found -/
def b13 : List Fe.St := [(.ite (.cmp .gt (.ix (.var 0) (.int 0)) (.int 0)) [(.set 4 (.bin .mod (.bi .int [(.ix (.var 0) (.int 0))]) (.var 1))), (.sub (.var 0) (.int 0) (.bin .div (.ix (.var 0) (.int 0)) (.var 1))), (.ret (.var 4))] []),
    (.sub (.var 0) (.int 2) (.bin .add (.ix (.var 0) (.int 2)) (.int 1))),
    (.set 2 (.bin .mod (.bi .int [(.bin .add (.ix (.var 0) (.int 1)) (.bin .mul (.int 941083987) (.ix (.var 0) (.int 2))))]) (.int 67280421310693))),
    (.set 3 (.bin .add (.bin .mul (.bin .mod (.bi .int [(.bin .mul (.var 2) (.var 2))]) (.int 576460752303423433)) (.var 2)) (.bin .mul (.int 7907) (.ix (.var 0) (.int 2))))),
    (.ret (.bin .mod (.bi .int [(.bin .div (.bin .mod (.bi .int [(.bin .add (.var 3) (.ix (.var 0) (.int 1)))]) (.int 2199023255531)) (.int 64))]) (.var 1)))]
def t13 : Fd := ⟨"_law_roll", ["_law_dice_here", "_law_upto"], ["_law_dice_here", "_law_upto", "_law_one", "_law_two", "_law_found"], b13, .fn⟩
/-- _law_filled: 0 _law_dice_here, 1 _law_count, 2 _law_task, 3 _law_queues, 4 _law_lines, 5 _law_level -/
def b14 : List Fe.St := [(.par [3, 4] [(.mk Q0 5 [(.var 1)]), (.lc (.lst []) (.nm 5) (.rng [(.var 1)]) .no [5])]),
    (.for_ (.nm 2) (.call 23 [(.var 0), (.lrg [(.int 8)]), (.int 1), (.int 6)]) [(.set 5 (.call 13 [(.var 0), (.var 1)])), (.expr (.mt Q0 16 (.var 3) [(.var 2), (.var 5), (.str [98, 97, 99, 107])])), (.sub (.var 4) (.var 5) (.bin .add (.ix (.var 4) (.var 5)) (.lst [(.var 2)])))]),
    (.ret (.tup [(.var 3), (.var 4)]))]
def t14 : Fd := ⟨"_law_filled", ["_law_dice_here", "_law_count"], ["_law_dice_here", "_law_count", "_law_task", "_law_queues", "_law_lines", "_law_level"], b14, .fn⟩
/-- __contains__: 0 self, 1 value, 2 tasks -/
def b15 : List Fe.St := [(.ret (.and [(.call 24 [(.var 1)]), (.bi .any [(.lc (.cmp .in_ (.var 1) (.var 2)) (.nm 2) (.fld (.var 0) "own_lists") .no [2])])]))]
def t15 : Fd := ⟨"__contains__", ["self", "value"], ["self", "value", "tasks"], b15, .sp Q0⟩
/-- enter: 0 self, 1 task, 2 level, 3 place -/
def b16 : List Fe.St := [(.ite (.or [(.not (.call 24 [(.var 1)])), (.oin false Q0 15 (.var 1) (.var 0))]) [(.rais 1 false (.str [97, 32, 116, 97, 115, 107, 32, 116, 104, 97, 116, 32, 105, 115, 32, 105, 110, 32, 110, 111, 32, 113, 117, 101, 117, 101, 32, 105, 115, 32, 101, 120, 112, 101, 99, 116, 101, 100]))] []),
    (.ite (.not (.call 21 [(.var 2), (.bi .len [(.fld (.var 0) "own_lists")])])) [(.rais 2 true (.var 2))] []),
    (.ite (.not (.call 25 [(.var 3)])) [(.rais 1 false (.str [97, 32, 112, 108, 97, 99, 101, 32, 105, 115, 32, 101, 120, 112, 101, 99, 116, 101, 100]))] []),
    (.expr (.mt Q0 26 (.var 0) [(.var 1), (.var 2), (.var 3)]))]
def t16 : Fd := ⟨"enter", ["self", "task", "level", "place"], ["self", "task", "level", "place"], b16, .mt Q0⟩
/-- leave: 0 self, 1 task -/
def b17 : List Fe.St := [(.expr (.me .remove (.ix (.fld (.var 0) "own_lists") (.mt Q0 18 (.var 0) [(.var 1)])) [(.var 1)]))]
def t17 : Fd := ⟨"leave", ["self", "task"], ["self", "task"], b17, .mt Q0⟩
/-- level_of: 0 self, 1 task, 2 level, 3 tasks -/
def b18 : List Fe.St := [(.ite (.oin true Q0 15 (.var 1) (.var 0)) [(.rais 1 false (.str [97, 32, 116, 97, 115, 107, 32, 116, 104, 97, 116, 32, 105, 115, 32, 105, 110, 32, 97, 32, 113, 117, 101, 117, 101, 32, 105, 115, 32, 101, 120, 112, 101, 99, 116, 101, 100]))] []),
    (.ret (.ix (.lc (.var 2) (.tp [(.nm 2), (.nm 3)]) (.enu (.fld (.var 0) "own_lists")) (.cmp .in_ (.var 1) (.var 3)) [2, 3]) (.int 0)))]
def t18 : Fd := ⟨"level_of", ["self", "task"], ["self", "task", "level", "tasks"], b18, .mt Q0⟩
/-- is_ahead: 0 self, 1 task, 2 other, 3 places, 4 one, 5 level -/
def b19 : List Fe.St := [(.set 3 (.lst [])),
    (.for_ (.nm 4) (.tup [(.var 1), (.var 2)]) [(.set 5 (.mt Q0 18 (.var 0) [(.var 4)])), (.expr (.me .append (.var 3) [(.tup [(.var 5), (.me .index (.ix (.fld (.var 0) "own_lists") (.var 5)) [(.var 4)])])]))]),
    (.ret (.cmp .lt (.ix (.var 3) (.int 0)) (.ix (.var 3) (.int 1))))]
def t19 : Fd := ⟨"is_ahead", ["self", "task", "other"], ["self", "task", "other", "places", "one", "level"], b19, .mt Q0⟩
/-- is_integer: 0 value -/
def b20 : List Fe.St := [(.ret (.and [(.isi .int (.var 0)), (.not (.isi .bl (.var 0))), (.chn .lt .lt (.neg (.con 1 (.int 10000000000000000000000000000000000000000))) (.var 0) (.con 1 (.int 10000000000000000000000000000000000000000)))]))]
def t20 : Fd := ⟨"is_integer", ["value"], ["value"], b20, .fn⟩
/-- is_below: 0 value, 1 many -/
def b21 : List Fe.St := [(.ret (.and [(.call 20 [(.var 0)]), (.chn .le .lt (.int 0) (.var 0) (.var 1))]))]
def t21 : Fd := ⟨"is_below", ["value", "many"], ["value", "many"], b21, .fn⟩
/-- text_of: 0 tasks, 1 task -/
def b22 : List Fe.St := [(.ret (.ite (.cmp .ne (.var 0) (.lst [])) (.me .join (.str [32]) [(.lc (.bi .str [(.var 1)]) (.nm 1) (.var 0) .no [1])]) (.str [110, 111, 110, 101])))]
def t22 : Fd := ⟨"text_of", ["tasks"], ["tasks", "task"], b22, .fn⟩
/-- _law_some: 0 _law_dice_here, 1 _law_items, 2 _law_low, 3 _law_high, 4 _law_fewest, 5 _law_most -/
def b23 : List Fe.St := [(.par [4, 5] [(.bi .min [(.var 2), (.bi .len [(.var 1)])]), (.bi .min [(.var 3), (.bi .len [(.var 1)])])]),
    (.ret (.sl (.call 27 [(.var 0), (.var 1)]) .no (.bin .add (.var 4) (.call 13 [(.var 0), (.bin .add (.bin .sub (.var 5) (.var 4)) (.int 1))]))))]
def t23 : Fd := ⟨"_law_some", ["_law_dice_here", "_law_items", "_law_low", "_law_high"], ["_law_dice_here", "_law_items", "_law_low", "_law_high", "_law_fewest", "_law_most"], b23, .fn⟩
/-- is_number: 0 value -/
def b24 : List Fe.St := [(.ret (.and [(.call 20 [(.var 0)]), (.cmp .ge (.var 0) (.int 0))]))]
def t24 : Fd := ⟨"is_number", ["value"], ["value"], b24, .fn⟩
/-- is_place: 0 value -/
def b25 : List Fe.St := [(.ret (.and [(.isi .str (.var 0)), (.cmp .in_ (.var 0) (.tup [(.con 2 (.str [98, 97, 99, 107])), (.con 3 (.str [102, 114, 111, 110, 116]))]))]))]
def t25 : Fd := ⟨"is_place", ["value"], ["value"], b25, .fn⟩
/-- put: 0 self, 1 task, 2 level, 3 place -/
def b26 : List Fe.St := [(.ite (.cmp .eq (.var 3) (.con 2 (.str [98, 97, 99, 107]))) [(.expr (.me .append (.ix (.fld (.var 0) "own_lists") (.var 2)) [(.var 1)]))] [(.expr (.me .insert (.ix (.fld (.var 0) "own_lists") (.var 2)) [(.int 0), (.var 1)]))])]
def t26 : Fd := ⟨"put", ["self", "task", "level", "place"], ["self", "task", "level", "place"], b26, .mt Q0⟩
/-- _law_mixed: 0 _law_dice_here, 1 _law_items, 2 _law_left, 3 _law_found -/
def b27 : List Fe.St := [(.par [2, 3] [(.bi .lst [(.var 1)]), (.lst [])]),
    (.whl 100000 (.cmp .ne (.var 2) (.lst [])) [(.expr (.me .append (.var 3) [(.me .popAt (.var 2) [(.call 13 [(.var 0), (.bi .len [(.var 2)])])])]))]),
    (.ret (.var 3))]
def t27 : Fd := ⟨"_law_mixed", ["_law_dice_here", "_law_items"], ["_law_dice_here", "_law_items", "_law_left", "_law_found"], b27, .fn⟩
def T1 : List Fd := [t1, t2, t3, t4, t5, t6, t7, t8, t9, t10, t11, t12, t13, t14, t15, t16, t17, t18, t19, t20, t21, t22, t23, t24, t25, t26, t27]
abbrev T : List Fd := t0 :: T1
def tops : List Stmt := [(top 26), (top 18), (top 25), (top 20), (top 23), (mem 16 0), (mem 16 4), (mem 16 5), (mem 16 12), (mem 16 10), (mem 16 16), (mem 16 13), (mem 16 6), (top 19), (top 24), (mem 16 14), (mem 16 2), (mem 16 3), (mem 16 7), (mem 16 8), (top 10), (top 11), (top 15), (top 22), (top 12), (top 13), (mem 16 1), (top 21)]
def cons : List (Str × Fe.D) := [("MAX_LEVELS", (.int 3)), ("BEYOND", (.int 10000000000000000000000000000000000000000)), ("BACK", (.str [98, 97, 99, 107])), ("FRONT", (.str [102, 114, 111, 110, 116]))]
def free : List Str := ["range", "max", "min", "len", "repr", "str", "bool", "int", "abs", "tuple", "isinstance", "enumerate", "list", "any"]
def e0 : ExD := ⟨"BellError", none, .ve, "self", .Pass ⟨0, 0, 0, 0⟩⟩
def e1 : ExD := ⟨"InvalidQueue", none, .ve, "self", .Pass ⟨0, 0, 0, 0⟩⟩
def e2 : ExD := ⟨"InvalidNumber", some "number", .ve, "self", match top 4 with | .ClassDef _ _ _ b _ _ _ _ _ _ _ => b.getD 0 (.Pass ⟨0, 0, 0, 0⟩) | _ => .Pass ⟨0, 0, 0, 0⟩⟩
def es : List ExD := [e0, e1, e2]
def hds : List HdD := [⟨"InvalidQueue", true, [1]⟩, ⟨"BellError", true, [0, 1, 2]⟩, ⟨"InvalidNumber", true, [2]⟩]
def loose : List Str := (["_wall", "BellError", "InvalidQueue", "InvalidNumber", "MAX_LEVELS", "BACK", "FRONT", "BEYOND", "is_integer", "is_below", "is_number", "is_place", "text_of", "Queues", "_law_dice", "_law_roll", "_law_pick", "_law_mixed", "_law_some", "_law_met", "_law_filled", "_law_right"] : List PySem.Str)
def lams : List Str := ["law", "_law_right"]
theorem o0 : okDef (ckOf T cons free es hds lams) t0 (top 26) = true := by kernel_rfl
theorem d0 : Bd t0 (top 26) := fun _ _ _ _ _ _ us h => match us, h with
  | [_], _ => rfl
theorem o1 : okDef (ckOf T cons free es hds lams) t1 (top 18) = true := by kernel_rfl
theorem d1 : Bd t1 (top 18) := fun _ _ _ _ _ _ us h => match us, h with
  | [_, _], _ => rfl
theorem o2 : okDef (ckOf T cons free es hds lams) t2 (top 25) = true := by kernel_rfl
theorem d2 : Bd t2 (top 25) := fun _ _ _ _ _ _ us h => match us, h with
  | [_], _ => rfl
theorem o3 : okDef (ckOf T cons free es hds lams) t3 (top 20) = true := by kernel_rfl
theorem d3 : Bd t3 (top 20) := fun _ _ _ _ _ _ us h => match us, h with
  | [_, _], _ => rfl
theorem o4 : okDef (ckOf T cons free es hds lams) t4 (top 23) = true := by kernel_rfl
theorem d4 : Bd t4 (top 23) := fun _ _ _ _ _ _ us h => match us, h with
  | [_], _ => rfl
theorem o5 : okDef (ckOf T cons free es hds lams) t5 (mem 16 0) = true := by kernel_rfl
theorem d5 : Bd t5 (mem 16 0) := fun _ _ _ _ _ _ us h => match us, h with
  | [_, _], _ => rfl
theorem o6 : okDef (ckOf T cons free es hds lams) t6 (mem 16 4) = true := by kernel_rfl
theorem d6 : Bd t6 (mem 16 4) := fun _ _ _ _ _ _ us h => match us, h with
  | [_], _ => rfl
theorem o7 : okDef (ckOf T cons free es hds lams) t7 (mem 16 5) = true := by kernel_rfl
theorem d7 : Bd t7 (mem 16 5) := fun _ _ _ _ _ _ us h => match us, h with
  | [_], _ => rfl
theorem o8 : okDef (ckOf T cons free es hds lams) t8 (mem 16 12) = true := by kernel_rfl
theorem d8 : Bd t8 (mem 16 12) := fun _ _ _ _ _ _ us h => match us, h with
  | [_], _ => rfl
theorem o9 : okDef (ckOf T cons free es hds lams) t9 (mem 16 10) = true := by kernel_rfl
theorem d9 : Bd t9 (mem 16 10) := fun _ _ _ _ _ _ us h => match us, h with
  | [_, _], _ => rfl
theorem o10 : okDef (ckOf T cons free es hds lams) t10 (mem 16 16) = true := by kernel_rfl
theorem d10 : Bd t10 (mem 16 16) := fun _ _ _ _ _ _ us h => match us, h with
  | [_], _ => rfl
theorem o11 : okDef (ckOf T cons free es hds lams) t11 (mem 16 13) = true := by kernel_rfl
theorem d11 : Bd t11 (mem 16 13) := fun _ _ _ _ _ _ us h => match us, h with
  | [_], _ => rfl
theorem o12 : okDef (ckOf T cons free es hds lams) t12 (mem 16 6) = true := by kernel_rfl
theorem d12 : Bd t12 (mem 16 6) := fun _ _ _ _ _ _ us h => match us, h with
  | [_], _ => rfl
theorem o13 : okDef (ckOf T cons free es hds lams) t13 (top 19) = true := by kernel_rfl
theorem d13 : Bd t13 (top 19) := fun _ _ _ _ _ _ us h => match us, h with
  | [_, _], _ => rfl
theorem o14 : okDef (ckOf T cons free es hds lams) t14 (top 24) = true := by kernel_rfl
theorem d14 : Bd t14 (top 24) := fun _ _ _ _ _ _ us h => match us, h with
  | [_, _], _ => rfl
theorem o15 : okDef (ckOf T cons free es hds lams) t15 (mem 16 14) = true := by kernel_rfl
theorem d15 : Bd t15 (mem 16 14) := fun _ _ _ _ _ _ us h => match us, h with
  | [_, _], _ => rfl
theorem o16 : okDef (ckOf T cons free es hds lams) t16 (mem 16 2) = true := by kernel_rfl
theorem d16 : Bd t16 (mem 16 2) := fun _ _ _ _ _ _ us h => match us, h with
  | [_, _, _, _], _ => rfl
theorem o17 : okDef (ckOf T cons free es hds lams) t17 (mem 16 3) = true := by kernel_rfl
theorem d17 : Bd t17 (mem 16 3) := fun _ _ _ _ _ _ us h => match us, h with
  | [_, _], _ => rfl
theorem o18 : okDef (ckOf T cons free es hds lams) t18 (mem 16 7) = true := by kernel_rfl
theorem d18 : Bd t18 (mem 16 7) := fun _ _ _ _ _ _ us h => match us, h with
  | [_, _], _ => rfl
theorem o19 : okDef (ckOf T cons free es hds lams) t19 (mem 16 8) = true := by kernel_rfl
theorem d19 : Bd t19 (mem 16 8) := fun _ _ _ _ _ _ us h => match us, h with
  | [_, _, _], _ => rfl
theorem o20 : okDef (ckOf T cons free es hds lams) t20 (top 10) = true := by kernel_rfl
theorem d20 : Bd t20 (top 10) := fun _ _ _ _ _ _ us h => match us, h with
  | [_], _ => rfl
theorem o21 : okDef (ckOf T cons free es hds lams) t21 (top 11) = true := by kernel_rfl
theorem d21 : Bd t21 (top 11) := fun _ _ _ _ _ _ us h => match us, h with
  | [_, _], _ => rfl
theorem o22 : okDef (ckOf T cons free es hds lams) t22 (top 15) = true := by kernel_rfl
theorem d22 : Bd t22 (top 15) := fun _ _ _ _ _ _ us h => match us, h with
  | [_], _ => rfl
theorem o23 : okDef (ckOf T cons free es hds lams) t23 (top 22) = true := by kernel_rfl
theorem d23 : Bd t23 (top 22) := fun _ _ _ _ _ _ us h => match us, h with
  | [_, _, _, _], _ => rfl
theorem o24 : okDef (ckOf T cons free es hds lams) t24 (top 12) = true := by kernel_rfl
theorem d24 : Bd t24 (top 12) := fun _ _ _ _ _ _ us h => match us, h with
  | [_], _ => rfl
theorem o25 : okDef (ckOf T cons free es hds lams) t25 (top 13) = true := by kernel_rfl
theorem d25 : Bd t25 (top 13) := fun _ _ _ _ _ _ us h => match us, h with
  | [_], _ => rfl
theorem o26 : okDef (ckOf T cons free es hds lams) t26 (mem 16 1) = true := by kernel_rfl
theorem d26 : Bd t26 (mem 16 1) := fun _ _ _ _ _ _ us h => match us, h with
  | [_, _, _, _], _ => rfl
theorem o27 : okDef (ckOf T cons free es hds lams) t27 (top 21) = true := by kernel_rfl
theorem d27 : Bd t27 (top 21) := fun _ _ _ _ _ _ us h => match us, h with
  | [_, _], _ => rfl
theorem all : AllOk (ckOf T cons free es hds lams) T tops := .cons o0 d0 <| .cons o1 d1 <| .cons o2 d2 <| .cons o3 d3 <| .cons o4 d4 <| .cons o5 d5 <| .cons o6 d6 <| .cons o7 d7 <| .cons o8 d8 <| .cons o9 d9 <| .cons o10 d10 <| .cons o11 d11 <| .cons o12 d12 <| .cons o13 d13 <| .cons o14 d14 <| .cons o15 d15 <| .cons o16 d16 <| .cons o17 d17 <| .cons o18 d18 <| .cons o19 d19 <| .cons o20 d20 <| .cons o21 d21 <| .cons o22 d22 <| .cons o23 d23 <| .cons o24 d24 <| .cons o25 d25 <| .cons o26 d26 <| .cons o27 d27 <| .nil
theorem eb0 : ExBd e0 := fun f h _ _ _ _ _ _ _ _ => by
  cases h
theorem eb1 : ExBd e1 := fun f h _ _ _ _ _ _ _ _ => by
  cases h
theorem eb2 : ExBd e2 := fun f h _ _ _ _ _ _ _ _ => by
  cases h
  rfl
theorem allE : AllEx es := .cons (by kernel_rfl) eb0 <| .cons (by kernel_rfl) eb1 <| .cons (by kernel_rfl) eb2 <| .nil
theorem hdsT : hds.all hdT = true := by kernel_rfl
abbrev hk : PySem.W.Hook := hkOf 5 T tops cons free es hds lams
abbrev R : PySem.W.OpenRow := PySem.W.OpenLaw.row Rw
def ob (s : PySem.W.SharedT) : He.AlX × List He.FnW := obY 5 T cons free es hds lams (HandSHeadRun.getT s)
theorem ob_eq (s : PySem.W.SharedT) : ob s = hk.obs s.abs := obY_eq (HandSHeadRun.getT_eq s)
theorem run (w : World) : HandSHeadRun.RunEq R (PySem.W.view R.prog [26]) hk ob 4000 loose w := by
  intro os
  kernel_rfl
end K16
set_option maxHeartbeats 4000000
namespace K16
open Fe
open L2 (atI ixN)
open TL (joinL)
/-! ### plain law -/
def q16 : QI := ⟨20, 21, 24, 25, 5, 26, 16, 17, 6, 7, 12, 18, 19, 9, 8, 11, 15, 0, 1, 2, 3, 1, 2⟩
instance : Has T q16.isI (isIF q16) := ⟨rfl⟩
instance : Has T q16.isB (isBF q16) := ⟨rfl⟩
instance : Has T q16.isN (isNF q16) := ⟨rfl⟩
instance : Has T q16.isP (isPF q16) := ⟨rfl⟩
instance : Has T q16.ini (iniF q16) := ⟨rfl⟩
instance : Has T q16.put (putF q16) := ⟨rfl⟩
instance : Has T q16.ent (entF q16) := ⟨rfl⟩
instance : Has T q16.lea (leaF q16) := ⟨rfl⟩
instance : Has T q16.pic (picF q16) := ⟨rfl⟩
instance : Has T q16.bes besF := ⟨rfl⟩
instance : Has T q16.tas tasF := ⟨rfl⟩
instance : Has T q16.lev (levF q16) := ⟨rfl⟩
instance : Has T q16.aha (ahaF q16) := ⟨rfl⟩
instance : Has T q16.get (getF q16) := ⟨rfl⟩
instance : Has T q16.len (lenF q16) := ⟨rfl⟩
instance : Has T q16.boo (booF q16) := ⟨rfl⟩
instance : Has T q16.con (conF q16) := ⟨rfl⟩
instance : Has T 22 textOfF := ⟨rfl⟩
instance : Has T 10 (strF 22) := ⟨rfl⟩
abbrev wFine : List Nat := [102, 105, 110, 101]
abbrev wQueue : List Nat := [113, 117, 101, 117, 101]
abbrev wNumber : List Nat := [110, 117, 109, 98, 101, 114, 32]
section
variable {k : Nat} {s s' F g : Fe.S} {d p a L n m : Nat} {ls rs X : List Nat} {known : List Int} {qs : List (List Int)} {ns : List Int} {t x y : Int} {i : Nat} {z w : List Int} {v u : D} {c : List Nat}
theorem ini16 {m : Nat} (h1 : 1 ≤ m) (h2 : m ≤ 3) : mkV Q0 (callF T (k + 2) 5) [.int m] s = .ok (.ref s.length) (s ++ newQ s.length m) := mk_spec (q := q16) h1 h2
theorem ent16 {c : List Nat} {l : Nat} (Q : QAt s a L ls qs) (h1 : 0 ≤ t) (h2 : t < Big) (hno : qs.any (·.contains t) = false) (hc : c = wBack ∨ c = wFront) (hz : qs[i]? = some z) (hl : ls[i]? = some l) (hn : z.length ≤ 1000) :
    callF T (k + 4) 16 [.ref a, .int t, .int i, .str c] s = .ok .non (s.set l (.lst (iD (putV c z t)))) := ent_spec (q := q16) Q h1 h2 hno hc hz hl hn
theorem lea16 {l : Nat} (Q : QAt s a L ls qs) (h1 : 0 ≤ t) (h2 : t < Big) (lv : Lv qs t i) (hz : qs[i]? = some z) (hl : ls[i]? = some l) : callF T (k + 5) 17 [.ref a, .int t] s = .ok .non (s.set l (.lst (iD (z.erase t)))) := lea_spec (q := q16) Q h1 h2 lv hz hl
theorem pic16 (Q : QAt s a L ls qs) : (∃ i l t z, Bst qs i ∧ qs[i]? = some (t :: z) ∧ ls[i]? = some l ∧ callF T (k + 2) 6 [.ref a] s = .ok (.int t) (s.set l (.lst (iD z)))) ∨ ((∀ z ∈ qs, z = []) ∧ callF T (k + 2) 6 [.ref a] s = .ok .non s) := pic_spec (q := q16) Q
theorem tas16 (Q : QAt s a L ls qs) (hl : qs.flatten.length ≤ 1000) : callF T (k + 1) 12 [.ref a] s = .ok (.tup (iD qs.flatten)) s := tas_spec (q := q16) Q hl
theorem aha16 {j n m : Nat} {w : List Int} (Q : QAt s a L ls qs) (hx : 0 ≤ x) (hx2 : x < Big) (hy : 0 ≤ y) (hy2 : y < Big) (lx : Lv qs x i) (ly : Lv qs y j) (hz : qs[i]? = some z) (hw : qs[j]? = some w) (fx : findI x z = some n) (fy : findI y w = some m) :
    callF T (k + 5) 19 [.ref a, .int x, .int y] s = .ok (.bl (HT.lexLt [(i : Int), (n : Int)] [(j : Int), (m : Int)])) s := aha_spec (q := q16) Q hx hx2 hy hy2 lx ly hz hw fx fy
theorem get16 (Q : QAt s a L ls qs) (hz : qs[i]? = some z) : callF T (k + 3) 9 [.ref a, .int i] s = .ok (.tup (iD z)) s := get_spec (q := q16) Q hz
theorem len16 (Q : QAt s a L ls qs) (hl : qs.flatten.length ≤ 1000) : callF T (k + 2) 8 [.ref a] s = .ok (.int qs.flatten.length) s := len_spec (q := q16) Q hl
theorem boo16 (Q : QAt s a L ls qs) : callF T (k + 2) 11 [.ref a] s = .ok (.bl (!qs.flatten.isEmpty)) s := boo_spec (q := q16) Q
theorem bes16 (Q : QAt s a L ls qs) : (∃ i, Bst qs i ∧ callF T (k + 1) 7 [.ref a] s = .ok (.int i) s) ∨ ((∀ z ∈ qs, z = []) ∧ callF T (k + 1) 7 [.ref a] s = .ok .non s) := bes_spec (q := q16) Q
theorem con16 (Q : QAt s a L ls qs) (h1 : 0 ≤ t) (h2 : t < Big) : callF T (k + 3) 15 [.ref a, .int t] s = .ok (.bl (qs.any (·.contains t))) s := con_spec (q := q16) Q h1 h2
theorem str16 (Q : QAt s a L ls qs) (hz : ∀ z ∈ qs, z.length ≤ 100) (hb : ∀ z ∈ qs, ∀ t ∈ z, 0 ≤ t ∧ t < Big) : callF T (k + 2) 10 [.ref a] s = .ok (.str (textL qs)) s := str_spec (tq := 22) Q hz hb
theorem cl16 (Q : QAt s a L ls qs) : clIs Q0 s (.ref a) = true := Q.cl
/-! what is refused -/
theorem entO (h : NoN T q16 s v) : callF T (k + 4) 16 [.ref a, v, u, .str c] s = .exc ⟨1, []⟩ s := ent_odd (q := q16) h
theorem entO' {y : D} (h : NoN T q16 s v) : callF T (k + 4) 16 [.ref a, v, u, y] s = .exc ⟨1, []⟩ s := ent_odd (q := q16) h
theorem entI {x y : D} (Q : QAt s a L ls qs) (h1 : 0 ≤ t) (h2 : t < Big) (h : qs.any (·.contains t) = true) : callF T (k + 4) 16 [.ref a, .int t, x, y] s = .exc ⟨1, []⟩ s := ent_in (q := q16) Q h1 h2 h
theorem entF_ {x y : D} (Q : QAt s a L ls qs) (h1 : 0 ≤ t) (h2 : t < Big) (h : qs.any (·.contains t) = false) (hx : NoB T q16 s x ls.length) : callF T (k + 4) 16 [.ref a, .int t, x, y] s = .exc ⟨2, [x]⟩ s := ent_far (q := q16) Q h1 h2 h hx
theorem entP {y : D} (Q : QAt s a L ls qs) (h1 : 0 ≤ t) (h2 : t < Big) (h : qs.any (·.contains t) = false) (hi : i < ls.length) (hy : NoP T q16 s y) : callF T (k + 4) 16 [.ref a, .int t, .int i, y] s = .exc ⟨1, []⟩ s := ent_pl (q := q16) Q h1 h2 h hi hy
theorem getF_ {x : D} (Q : QAt s a L ls qs) (hx : NoB T q16 s x ls.length) : callF T (k + 3) 9 [.ref a, x] s = .exc ⟨2, [x]⟩ s := get_far (q := q16) Q hx
theorem conO (h : NoN T q16 s v) : callF T (k + 3) 15 [.ref a, v] s = .ok (.bl false) s := con_odd (q := q16) h
theorem levN (Q : QAt s a L ls qs) (h : ∀ k, callF T (k + 3) 15 [.ref a, v] s = .ok (.bl false) s) : callF T (k + 4) 18 [.ref a, v] s = .exc ⟨1, []⟩ s := lev_no (q := q16) Q.cl h
theorem leaN (Q : QAt s a L ls qs) (h : ∀ k, callF T (k + 3) 15 [.ref a, v] s = .ok (.bl false) s) : callF T (k + 5) 17 [.ref a, v] s = .exc ⟨1, []⟩ s := lea_no (q := q16) Q h
theorem ahaN1 {x : D} (Q : QAt s a L ls qs) (h : ∀ k (g : Fe.S), callF T (k + 3) 15 [.ref a, v] (s ++ g) = .ok (.bl false) (s ++ g)) : callF T (k + 5) 19 [.ref a, v, x] s = .exc ⟨1, []⟩ s := aha_no1 (q := q16) Q h (.inr trivial)
theorem ahaN2 {n : Nat} (Q : QAt s a L ls qs) (hx : 0 ≤ x) (hx2 : x < Big) (lx : Lv qs x i) (hz : qs[i]? = some z) (fx : findI x z = some n) (h : ∀ k (g : Fe.S), callF T (k + 3) 15 [.ref a, v] (s ++ g) = .ok (.bl false) (s ++ g)) : callF T (k + 5) 19 [.ref a, .int x, v] s = .exc ⟨1, []⟩ s := aha_no2 (q := q16) Q hx hx2 lx hz fx h
theorem mkB (h : NoI T q16 (s ++ [.ins Qc []]) v ∨ ∃ t : Int, v = .int t ∧ -Big < t ∧ t < Big ∧ (t < 1 ∨ 3 < t)) : mkV Q0 (callF T (k + 2) 5) [v] s = .exc ⟨2, [v]⟩ (s ++ [.ins Qc []]) := mk_bad (q := q16) h
/-! _law_met -/
theorem met_ok : callF T (k + 1) 4 [.tup [v]] s = .ok (.str wFine) s := by
  rw [call_at (d := t4) rfl rfl]
  show trimO s (retO (execs (callF T k) b4 [some (.tup [v]), none] s)) = _
  have e : execs (callF T k) b4 [some (.tup [v]), none] s = .rt (.str wFine) s := by
    unfold b4
    rw [x_cons, x_met rfl]
    rfl
  rw [e]; exact trim_id strFlat
theorem met_q : callF T (k + 1) 4 [.tup [.int (1 : Nat), .tup []]] s = .ok (.str wQueue) s := by
  rw [call_at (d := t4) rfl rfl]
  show trimO s (retO (execs (callF T k) b4 [some (.tup [.int (1 : Nat), .tup []]), none] s)) = _
  have e : execs (callF T k) b4 [some (.tup [.int (1 : Nat), .tup []]), none] s = .rt (.str wQueue) s := by
    unfold b4
    rw [x_cons, x_met rfl]
    rfl
  rw [e]; exact trim_id strFlat
theorem met_n (h : biRepr [v] s = .ok (.str c) s) (hc : c.length ≤ 10000) : callF T (k + 1) 4 [.tup [.int (2 : Nat), .tup [v]]] s = .ok (.str (wNumber ++ c)) s := by
  rw [call_at (d := t4) rfl rfl]
  show trimO s (retO (execs (callF T k) b4 [some (.tup [.int (2 : Nat), .tup [v]]), none] s)) = _
  have e : execs (callF T k) b4 [some (.tup [.int (2 : Nat), .tup [v]]), none] s = .rt (.str (wNumber ++ c)) s := by
    unfold b4
    rw [x_cons, x_met rfl]
    have ad : opAdd (.str wNumber) (.str c) s = .ok (.str (wNumber ++ c)) s := by
      show (if wNumber.length + c.length ≤ line then _ else _) = _
      rw [if_pos (by simp; unfold line; omega)]
    have sx : semX (callF T k) (.bin .add (.of (.str wNumber)) (.bi .repr (.fld 2))) ⟨2, [v]⟩ [none, none] s = .ok (.str (wNumber ++ c)) s := by
      show ((Out.ok (D.str wNumber) s).bind fun u s => (((fldX 2 ⟨2, [v]⟩ s).bind fun u s => biRepr [u] s)).bind fun w s => opAdd u w s) = _
      rw [bind_ok]
      show ((biRepr [v] s).bind fun w s => opAdd (.str wNumber) w s) = _
      rw [h, bind_ok, ad]
    unfold metS
    show (SOut.seq (match semX (callF T k) (.bin .add (.of (.str wNumber)) (.bi .repr (.fld 2))) ⟨2, [v]⟩ [none, none] s with | .ok d s => .rt d s | _ => .bad) _) = _
    rw [sx]
    rfl
  rw [e]; exact trim_id strFlat
theorem lam_ok {me : PySem.Str} {e : E} {ρ : Fe.Env} {j : Nat} (hj : s[j]? = some (.tab me)) (h : (sem (callF T (k + 1)) e).v ρ s = .ok v s') : (sem (callF T (k + 1)) (.lam j me 4 e)).v ρ s = .ok (.str wFine) s' := by
  rw [v_lam, if_pos hj, h]
  show noExcD (callF T (k + 1) 4 [.tup [v]] s') = _
  rw [met_ok]; rfl
theorem lam_q {me : PySem.Str} {e : E} {ρ : Fe.Env} {j : Nat} (hj : s[j]? = some (.tab me)) (h : (sem (callF T (k + 1)) e).v ρ s = .exc ⟨1, []⟩ s') : (sem (callF T (k + 1)) (.lam j me 4 e)).v ρ s = .ok (.str wQueue) s' := by
  rw [v_lam, if_pos hj, h]
  show noExcD (callF T (k + 1) 4 [.tup [.int (1 : Nat), .tup []]] s') = _
  rw [met_q]; rfl
theorem lam_n {me : PySem.Str} {e : E} {ρ : Fe.Env} {j : Nat} (hj : s[j]? = some (.tab me)) (h : (sem (callF T (k + 1)) e).v ρ s = .exc ⟨2, [v]⟩ s') (hr : biRepr [v] s' = .ok (.str c) s') (hc : c.length ≤ 10000) : (sem (callF T (k + 1)) (.lam j me 4 e)).v ρ s = .ok (.str (wNumber ++ c)) s' := by
  rw [v_lam, if_pos hj, h]
  show noExcD (callF T (k + 1) 4 [.tup [.int (2 : Nat), .tup [v]]] s') = _
  rw [met_n hr hc]; rfl
/-! dice -/
theorem roll16 {u : Int} (hs : Dice s d) (h0 : 0 < u) (h1 : u < 2 ^ 64) : ∃ (r : Int) (o : O), 0 ≤ r ∧ r < u ∧ Dice (s.set d o) d ∧ callF T (k + 1) 13 [.ref d, .int u] s = .ok (.int r) (s.set d o) := roll_spec (T := T) (k := k) (f := 13) rfl rfl rfl hs h0 h1
theorem pick16 {j : Nat} {ds : List D} (hs : Dice s d) (hj : s[j]? = some (.lst ds)) (hij : d ≠ j) (h0 : ds ≠ []) (h1 : ds.length < 2 ^ 60) (hr : ∀ x ∈ ds, ∀ m, x = .ref m → m < s.length) :
    ∃ v ∈ ds, ∃ o, Dice (s.set d o) d ∧ callF T (k + 2) 3 [.ref d, .ref j] s = .ok v (s.set d o) := by
  obtain ⟨n, h, o, h1, h2⟩ := pick_spec (T := T) (k := k) (f := 3) (g := 13) rfl rfl rfl rfl rfl rfl hs hj hij h0 h1 hr
  exact ⟨ds[n], List.getElem_mem h, o, h1, h2⟩
theorem pickI {j : Nat} {z : List Int} (hs : Dice s d) (hj : s[j]? = some (.lst (iD z))) (hij : d ≠ j) (h0 : z ≠ []) (h1 : z.length ≤ 1000) : ∃ t ∈ z, ∃ o, Dice (s.set d o) d ∧ callF T (k + 2) 3 [.ref d, .ref j] s = .ok (.int t) (s.set d o) := by
  obtain ⟨v, hv, o, hd, e⟩ := pick16 (k := k) hs hj hij (fun e => h0 (List.map_eq_nil_iff.mp e)) (by rw [List.length_map]; omega) (fun x hx m e => by
    obtain ⟨t, _, rfl⟩ := List.mem_map.mp hx
    cases e)
  obtain ⟨t, ht, rfl⟩ := List.mem_map.mp hv
  exact ⟨t, ht, o, hd, e⟩
theorem dice16 {n : Int} (hs : s[0]? = some (.rl (ns.map .int))) (h0 : 0 ≤ n) : ∃ a b : Int, callF T (k + 1) 1 [.ref 0, .int n] s = .ok (.ref s.length) (s ++ [.lst [.int a, .int b, .int 0]]) := dice_spec (T := T) (f := 1) rfl rfl rfl hs h0
theorem some16 {j : Nat} {q : List Int} {lo hi : Int} (hs : Dice s d) (hj : s[j]? = some (.lst (iD q))) (hq : q.length ≤ 1000) (h0 : 0 ≤ lo) (h1 : lo ≤ hi) (h2 : hi ≤ 1000) :
    ∃ o f, Dice (s.set d o) d ∧ (f.length ≤ q.length ∧ (∀ t ∈ f, t ∈ q) ∧ (q.Nodup → f.Nodup) ∧ (if (q.length : Int) < lo then (q.length : Int) else lo) ≤ f.length) ∧ callF T (k + 3) 23 [.ref d, .ref j, .int lo, .int hi] s = .ok (.ref s.length) (s.set d o ++ [.lst (iD f)]) :=
  some_full (T := T) (r := 13) (mx := 27) (sm := 23) (k := k) rfl rfl rfl rfl rfl rfl rfl hs hj hq h0 h1 h2
end
end K16

set_option maxHeartbeats 4000000
namespace K16
open Fe
open L2 (atI ixN)
section
variable {k : Nat} {s s' F g : Fe.S} {d p a L n m N : Nat} {ls rs X : List Nat} {known : List Int} {qs : List (List Int)} {ns : List Int} {t x y : Int} {i : Nat} {z w : List Int} {v u : D} {c : List Nat}
/-- queues and their lines, of tasks f -/
structure Fill (s F : Fe.S) (d a L n : Nat) (ls rs : List Nat) (f : List Int) (qs : List (List Int)) : Prop where
  fr : Fr s F [d]
  dice : Dice F d
  Q : QAt F a L ls qs
  ln : Lines F (d :: n :: ls) n rs qs
  pm : qs.flatten.Perm f
/-- places apart -/
structure Apt (s : Fe.S) (d a L n : Nat) (ls : List Nat) : Prop where
  dl : d < s.length
  al : ∀ x ∈ a :: L :: ls, s.length ≤ x
  nl : s.length ≤ n
  na : n ∉ a :: L :: ls
def bodyF : List St := [(.set 5 (.call 13 [(.var 0), (.var 1)])), (.expr (.mt Q0 16 (.var 3) [(.var 2), (.var 5), (.str [98, 97, 99, 107])])), (.sub (.var 4) (.var 5) (.bin .add (.ix (.var 4) (.var 5)) (.lst [(.var 2)])))]
theorem fill_turn {f : List Int} {x5 : Option D} (h : Fill s F d a L n ls rs f qs) (ap : Apt s d a L n ls) (ht : t ∉ f) (h0 : 0 ≤ t) (h1 : t < Big) (hf : f.length ≤ 100) (hm : ls.length = m) (m1 : 1 ≤ m) (m3 : m ≤ 3) :
    ∃ F' rs' qs' x5', execs (callF T (k + 4)) bodyF [some (.ref d), some (.int m), some (.int t), some (.ref a), some (.ref n), x5] F = .nx [some (.ref d), some (.int m), some (.int t), some (.ref a), some (.ref n), x5'] F' ∧ Fill s F' d a L n ls rs' (f ++ [t]) qs' ∧ (∀ J, J < F.length → J ∉ d :: n :: ls → F'[J]? = F[J]?) ∧ F.length ≤ F'.length := by
  obtain ⟨r, o, r0, r1, dd, e1⟩ := roll16 (k := k + 3) (u := (m : Int)) h.dice (by omega) (by omega)
  obtain ⟨i, rfl⟩ : ∃ i : Nat, r = (i : Int) := ⟨r.toNat, by omega⟩
  have da : ∀ x ∈ a :: L :: ls, d ≠ x := fun x hx e => by have := ap.al x hx; have := ap.dl; omega
  have dn : d ≠ n := fun e => by have := ap.nl; have := ap.dl; omega
  have lls : ∀ l ∈ ls, l ∈ a :: L :: ls := fun l hl => List.mem_cons_of_mem _ (List.mem_cons_of_mem _ hl)
  have Q1 : QAt (F.set d o) a L ls qs := h.Q.set_ne fun hx => da d hx rfl
  have L1 : Lines (F.set d o) (d :: n :: ls) n rs qs := h.ln.set_X List.mem_cons_self dn
  have hq : i < qs.length := by rw [← h.Q.len]; omega
  have hz : qs[i]? = some qs[i] := List.getElem?_eq_getElem hq
  obtain ⟨l, hl, _, _⟩ := Q1.get_ hz
  have ml := List.mem_of_getElem? hl
  have tn : t ∉ qs.flatten := fun hx => ht (h.pm.mem_iff.mp hx)
  have hno : qs.any (·.contains t) = false := by rw [any_flat]; simpa using tn
  have zl : (qs[i]).length ≤ 100 := by
    have := (List.sublist_flatten_of_mem (List.getElem_mem hq)).length_le
    have := h.pm.length_eq
    omega
  have e2 := ent16 (k := k) Q1 h0 h1 hno (c := wBack) (.inl rfl) hz hl (by omega)
  have Q2 : QAt ((F.set d o).set l (.lst (iD (putV wBack qs[i] t)))) a L ls (qs.set i (putV wBack qs[i] t)) := Q1.upd hl
  have nnl : l ≠ n := fun e => ap.na (e ▸ lls l ml)
  have L2 : Lines ((F.set d o).set l (.lst (iD (putV wBack qs[i] t)))) (d :: n :: ls) n rs qs := L1.set_X (List.mem_cons_of_mem _ (List.mem_cons_of_mem _ ml)) nnl
  obtain ⟨S2, hS2⟩ : ∃ S2 : Fe.S, S2 = (F.set d o).set l (.lst (iD (putV wBack qs[i] t))) := ⟨_, rfl⟩
  have lS2 : S2.length = F.length := by rw [hS2, List.length_set, List.length_set]
  rw [← hS2] at e2 Q2 L2
  obtain ⟨r, hr, hs, hrr⟩ := L2.get_ hz
  have L3 := L2.app (g := [O.lst [.int t]])
  have L4 := L3.app (g := [O.lst (iD (qs[i] ++ [t]))])
  have Q4 := (Q2.app (g := [O.lst [.int t]])).app (g := [O.lst (iD (qs[i] ++ [t]))])
  have fresh : (S2 ++ [O.lst [.int t]]).length ∉ d :: n :: ls := fun hx => by
    have hlen : (S2 ++ [O.lst [.int t]]).length = F.length + 1 := by simp [lS2]
    rcases List.mem_cons.mp hx with e | hx
    · have := h.dice.lt; omega
    · rcases List.mem_cons.mp hx with e | hx
      · have := at_lt h.ln.ln; omega
      · have := h.Q.lts _ (lls _ hx); omega
  have L5 := L4.upd (i := i) (List.mem_cons_of_mem _ List.mem_cons_self) fresh at_end
  have Q5 : QAt ((S2 ++ [O.lst [.int t]] ++ [O.lst (iD (qs[i] ++ [t]))]).set n (.lst ((rs.set i (S2 ++ [O.lst [.int t]]).length).map .ref))) a L ls (qs.set i (putV wBack qs[i] t)) := Q4.set_ne ap.na
  have hir : i < rs.length := by rw [h.ln.len]; exact hq
  have si : setIx (.ref n) (.int (i : Int)) (.ref (S2 ++ [O.lst [.int t]]).length) (S2 ++ [O.lst [.int t]] ++ [O.lst (iD (qs[i] ++ [t]))]) = some ((S2 ++ [O.lst [.int t]] ++ [O.lst (iD (qs[i] ++ [t]))]).set n (.lst ((rs.set i (S2 ++ [O.lst [.int t]]).length).map .ref))) := by
    rw [set_at L4.ln (ixN_ofNat (by rw [List.length_map]; exact hir)), List.map_set]
  have pv : putV wBack qs[i] t = qs[i] ++ [t] := rfl
  rw [pv] at Q5
  have pm := put_perm (c := wBack) (t := t) hz
  have keep : ∀ J, J < F.length → J ∉ d :: n :: ls → ((S2 ++ [O.lst [.int t]] ++ [O.lst (iD (qs[i] ++ [t]))]).set n (.lst ((rs.set i (S2 ++ [O.lst [.int t]]).length).map .ref)))[J]? = F[J]? := fun J hJ hx => by
    simp only [List.mem_cons, not_or] at hx
    have n1 : n ≠ J := fun e => hx.2.1 e.symm
    have n2 : l ≠ J := fun e => hx.2.2 (e ▸ ml)
    have n3 : d ≠ J := fun e => hx.1 e.symm
    rw [List.getElem?_set_ne n1, List.getElem?_append_left (by rw [List.length_append, lS2]; omega), List.getElem?_append_left (by rw [lS2]; exact hJ), hS2, List.getElem?_set_ne n2, List.getElem?_set_ne n3]
  refine ⟨_, rs.set i (S2 ++ [O.lst [.int t]]).length, qs.set i (qs[i] ++ [t]), some (.int i), ?_, ⟨⟨?_, fun J hJ hx => ?_⟩, ?_, Q5, L5, ?_⟩, keep, by rw [List.length_set, List.length_append, List.length_append, lS2]; omega⟩
  · have m1 : mkLst [.int t] S2 = .ok (.ref S2.length) (S2 ++ [O.lst [.int t]]) := mkL_ok (by simp)
    have i1 : opIx (.ref n) (.int (i : Int)) S2 = .ok (.ref r) S2 := ix_lstN L2.getL_ hrr
    have c1 : opAdd (.ref r) (.ref S2.length) (S2 ++ [O.lst [.int t]]) = .ok (.ref (S2 ++ [O.lst [.int t]]).length) (S2 ++ [O.lst [.int t]] ++ [O.lst (iD (qs[i] ++ [t]))]) := by
      rw [cat_lst (at_app hs) at_end (by rw [List.length_map]; unfold line; simp; omega), iD_app]
      rfl
    have a1 : argsV (sems (callF T (k + 4)) [(.var 0), (.var 1)]) [some (.ref d), some (.int m), some (.int t), some (.ref a), some (.ref n), x5] F = .ok [.ref d, .int m] F := rfl
    have a2 : argsV (sems (callF T (k + 4)) [(.var 2), (.var 5), (.str [98, 97, 99, 107])]) [some (.ref d), some (.int m), some (.int t), some (.ref a), some (.ref n), some (.int i)] (F.set d o) = .ok [.int t, .int i, .str wBack] (F.set d o) := rfl
    unfold bodyF
    rw [x_cons, x_set, v_call, a1, bind_ok, e1, lift_ok]
    simp only [List.set_cons_succ, List.set_cons_zero]
    rw [seq_nx, x_cons, x_expr, v_mt, v_var, lk_s, lk_s, lk_s, lk_0, bind_ok, if_pos (cl16 Q1), a2, bind_ok, e2, lift_ok, seq_nx, x_cons, x_sub, v_bin, v_ix, v_var, lk_s, lk_s, lk_s, lk_s, lk_0, bind_ok, v_var, lk_s, lk_s, lk_s, lk_s, lk_s, lk_0, bind_ok, i1, bind_ok, v_lst, sems_cons, sems_nil, args_cons, v_var, lk_s, lk_s, lk_0, bind_ok, args_nil, bind_ok, bind_ok, m1, bind_ok]
    show (lift (opAdd (.ref r) (.ref S2.length) (S2 ++ [O.lst [.int t]])) _ _).seq _ = _
    rw [c1, lift_ok]
    simp only [subS, v_var, lk_0, lk_s, okO, si, liftT]
    rw [seq_nx, x_nil]
  · have := h.fr.len
    rw [List.length_set, List.length_append, List.length_append, lS2]
    omega
  · have hJF : J < F.length := Nat.lt_of_lt_of_le hJ h.fr.len
    rw [keep J hJF (by
      simp only [List.mem_cons, not_or]
      refine ⟨fun e => hx (by rw [e]; exact List.mem_cons_self), fun e => ?_, fun e => ?_⟩
      · have := ap.nl; omega
      · have := ap.al _ (lls _ e); omega)]
    exact h.fr.eq J hJ hx
  · have d2 : Dice S2 d := by
      obtain ⟨x, y, z, e⟩ := dd
      exact ⟨x, y, z, by rw [hS2, List.getElem?_set_ne (fun e => da l (lls l ml) e.symm)]; exact e⟩
    obtain ⟨x, y, z, e⟩ := (d2.app (g := [O.lst [.int t]])).app (g := [O.lst (iD (qs[i] ++ [t]))])
    exact ⟨x, y, z, by rw [List.getElem?_set_ne (Ne.symm dn)]; exact e⟩
  · rw [pv] at pm
    exact pm.trans ((h.pm.cons t).trans (List.perm_append_comm (l₁ := [t]) (l₂ := f)))
theorem new_fill (hs : Dice s d) (m1 : 1 ≤ m) (m3 : m ≤ 3) : ∃ ls rs, ls.length = m ∧ Fill s (s ++ newQ s.length m ++ em (s.length + 2 + m) m) d s.length (s.length + 1) (s.length + 2 + m) ls rs [] (List.replicate m []) ∧ Apt s d s.length (s.length + 1) (s.length + 2 + m) ls := by
  have hd := hs.lt
  have A := newQ_at (s := s) m3
  have l1 : (s ++ newQ s.length m).length = s.length + 2 + m := by
    rw [List.length_append]
    unfold newQ
    simp
    omega
  have mem1 : ∀ l, l ∈ (List.range m).map (fun i => s.length + 2 + i) → s.length + 2 ≤ l ∧ l < s.length + 2 + m := fun l hl => by
    obtain ⟨i, hi, rfl⟩ := List.mem_map.mp hl
    have := List.mem_range.mp hi
    omega
  have E := em_lines (s := s ++ newQ s.length m) (m := m) (X := d :: (s.length + 2 + m) :: (List.range m).map (fun i => s.length + 2 + i)) (fun x hx => by
    rw [l1]
    rcases List.mem_cons.mp hx with e | hx
    · omega
    · rcases List.mem_cons.mp hx with e | hx
      · omega
      · have := mem1 x hx; omega)
  rw [l1] at E
  refine ⟨_, _, by simp, ⟨(Fr.refl s [d]).app.app, hs.app.app, A.app, E, ?_⟩, hd, fun x hx => ?_, by omega, fun hx => ?_⟩
  · have : (List.replicate m ([] : List Int)).flatten = [] := by
      rw [List.flatten_eq_nil_iff]
      intro l hl
      exact (List.mem_replicate.mp hl).2
    rw [this]
  · rcases List.mem_cons.mp hx with e | hx
    · omega
    · rcases List.mem_cons.mp hx with e | hx
      · omega
      · have := mem1 x hx; omega
  · rcases List.mem_cons.mp hx with e | hx
    · omega
    · rcases List.mem_cons.mp hx with e | hx
      · omega
      · have := mem1 _ hx; omega
/-- _law_filled -/
theorem filled16 (hs : Dice s d) (m1 : 1 ≤ m) (m3 : m ≤ 3) : ∃ F a L n ls rs f qs, callF T (k + 5) 14 [.ref d, .int m] s = .ok (.tup [.ref a, .ref n]) F ∧ Fill s F d a L n ls rs f qs ∧ Apt s d a L n ls ∧ ls.length = m ∧ f.Nodup ∧ f ≠ [] ∧ ∀ t ∈ f, 0 ≤ t ∧ t < 8 := by
  obtain ⟨ls, rs, hl, W, ap⟩ := new_fill hs m1 m3
  have e0 := ini16 (k := k + 2) (s := s) m1 m3
  have l1 : (s ++ newQ s.length m).length = s.length + 2 + m := by
    rw [List.length_append]
    unfold newQ
    simp
    omega
  have e1 := lines_made (T := T) (k := k + 4) (s := s ++ newQ s.length m) (ρ := [some (.ref d), some (.int m), none, none, none, none]) (u := 1) (v := 5) m3 rfl (fun _ _ => ⟨_, rfl⟩)
  rw [l1] at e1
  obtain ⟨S1, hS1⟩ : ∃ S1 : Fe.S, S1 = s ++ newQ s.length m ++ em (s.length + 2 + m) m := ⟨_, rfl⟩
  rw [← hS1] at e1 W
  have e2 := lrg_below (s := S1) (N := 8) (by decide) (by decide)
  obtain ⟨o, f, d1, ⟨fl, fm, fn, fo⟩, e3⟩ := some16 (k := k + 1) (s := S1 ++ [O.lst (iD (below 8))]) (d := d) (j := S1.length) (q := below 8) (lo := 1) (hi := 6) W.dice.app at_end (by rw [below_len]; decide) (by decide) (by decide) (by decide)
  have fnd := fn below_nodup
  have f0 : f ≠ [] := fun e => by
    rw [e, below_len] at fo
    simp at fo
  have fb : ∀ t ∈ f, 0 ≤ t ∧ t < 8 := fun t ht => by
    have := below_mem.mp (fm t ht)
    omega
  have fl8 : f.length ≤ 8 := by rw [below_len] at fl; exact fl
  obtain ⟨S2, hS2⟩ : ∃ S2 : Fe.S, S2 = (S1 ++ [O.lst (iD (below 8))]).set d o := ⟨_, rfl⟩
  have lS2 : S2.length = S1.length + 1 := by rw [hS2, List.length_set, List.length_append]; rfl
  have hJ : (S2 ++ [O.lst (iD f)])[S1.length + 1]? = some (.lst (iD f)) := by rw [← lS2]; exact at_end
  rw [← hS2] at e3 d1
  have lW : (S1 ++ [O.lst (iD (below 8))]).length = S1.length + 1 := by simp
  rw [lW] at e3
  have da : ∀ x ∈ s.length :: (s.length + 1) :: ls, d ≠ x := fun x hx e => by have := ap.al x hx; have := ap.dl; omega
  have W2 : Fill s (S2 ++ [O.lst (iD f)]) d s.length (s.length + 1) (s.length + 2 + m) ls rs [] (List.replicate m []) := by
    refine ⟨?_, d1.app, ?_, ?_, W.pm⟩
    · rw [hS2]
      exact (W.fr.app.set List.mem_cons_self).app
    · rw [hS2]
      exact (W.Q.app.set_ne fun hx => da d hx rfl).app
    · rw [hS2]
      exact (W.ln.app.set_X List.mem_cons_self (by have := ap.nl; have := ap.dl; omega)).app
  have nJ : S1.length + 1 ∉ d :: (s.length + 2 + m) :: ls := fun hx => by
    rcases List.mem_cons.mp hx with e | hx
    · have := W.dice.lt; omega
    · rcases List.mem_cons.mp hx with e | hx
      · have := at_lt W.ln.ln; omega
      · have := W.Q.lts _ (List.mem_cons_of_mem _ (List.mem_cons_of_mem _ hx)); omega
  obtain ⟨ρ', F, e4, x2, x5, rs', qs', h1, h2, h3⟩ := forW_idx (live := Src.live ⟨iD f, some (S1.length + 1, iD f)⟩) (bind := bnd (.nm 2)) (body := execs (callF T (k + 4)) bodyF)
    (P := fun i ρ F => ∃ (x2 x5 : Option D) (rs : List Nat) (qs : List (List Int)), ρ = [some (.ref d), some (.int m), x2, some (.ref s.length), some (.ref (s.length + 2 + m)), x5] ∧ Fill s F d s.length (s.length + 1) (s.length + 2 + m) ls rs (f.take i) qs ∧ F[S1.length + 1]? = some (.lst (iD f))) (iD f) 0
    [some (.ref d), some (.int m), none, some (.ref s.length), some (.ref (s.length + 2 + m)), none] (S2 ++ [O.lst (iD f)]) ⟨none, none, rs, _, rfl, W2, hJ⟩ (fun i ρ F ⟨_, _, _, _, _, _, h⟩ => live_of0 fun i l e => by cases e; exact getL_lst h) (fun j v hv ρ F ⟨x2, x5, rs, qs, q1, q2, q3⟩ => by
      subst q1
      rw [Nat.zero_add] at q2
      rw [List.getElem?_map] at hv
      obtain ⟨t, ht, rfl⟩ := Option.map_eq_some_iff.mp hv
      have tb := fb t (List.mem_of_getElem? ht)
      have tn : t ∉ f.take j := fun hx => by
        obtain ⟨i, hi⟩ := List.getElem?_of_mem hx
        have hij : i < j := by
          have := (List.getElem?_eq_some_iff.mp hi).1
          rw [List.length_take] at this
          omega
        rw [List.getElem?_take_of_lt hij] at hi
        have := (List.getElem?_inj (List.getElem?_eq_some_iff.mp hi).1 fnd).mp (hi.trans ht.symm)
        omega
      obtain ⟨F', rs', qs', x5', g1, g2, g3, g4⟩ := fill_turn (k := k) (x5 := x5) q2 ap tn tb.1 (by unfold Big; omega) (by rw [List.length_take]; omega) hl m1 m3
      refine ⟨_, _, rfl, _, F', g1, some (.int t), x5', rs', qs', rfl, ?_, ?_⟩
      · rw [Nat.zero_add, List.take_succ, ht]
        exact g2
      · rw [g3 _ (at_lt q3) nJ]
        exact q3)
  have tk : f.take (0 + (iD f).length) = f := by rw [Nat.zero_add, List.length_map, List.take_length]
  rw [tk] at h2
  subst h1
  refine ⟨F, s.length, s.length + 1, s.length + 2 + m, ls, rs', f, qs', ?_, h2, ap, hl, fnd, f0, fb⟩
  rw [call_at (d := t14) rfl rfl]
  show trimO s (retO (execs (callF T (k + 4)) b14 [some (.ref d), some (.int m), none, none, none, none] s)) = _
  have e : execs (callF T (k + 4)) b14 [some (.ref d), some (.int m), none, none, none, none] s = .rt (.tup [.ref s.length, .ref (s.length + 2 + m)]) F := by
    have pr : ∀ (x y : D) (ρ : Fe.Env) (s : Fe.S), parS [3, 4] [x, y] ρ s = .nx ((ρ.set 3 (some x)).set 4 (some y)) s := fun _ _ _ _ => rfl
    have par : argsV (sems (callF T (k + 4)) [(.mk Q0 5 [(.var 1)]), (.lc (.lst []) (.nm 5) (.rng [(.var 1)]) .no [5])]) [some (.ref d), some (.int m), none, none, none, none] s = .ok [.ref s.length, .ref (s.length + 2 + m)] S1 := by
      rw [sems_cons, sems_cons, sems_nil, args_cons, mk_v (d := .int m) rfl e0, bind_ok, args_cons, e1, bind_ok, args_nil, bind_ok, bind_ok]
    have a1 : argsV (sems (callF T (k + 4)) [(.var 0), (.lrg [(.int 8)]), (.int 1), (.int 6)]) [some (.ref d), some (.int m), none, some (.ref s.length), some (.ref (s.length + 2 + m)), none] S1 = .ok [.ref d, .ref S1.length, .int 1, .int 6] (S1 ++ [O.lst (iD (below 8))]) := by
      have e' : argsV (sems (callF T (k + 4)) [(.int 8)]) [some (.ref d), some (.int m), none, some (.ref s.length), some (.ref (s.length + 2 + m)), none] S1 = .ok [.int (8 : Nat)] S1 := rfl
      rw [sems_cons, args_cons, v_var, lk_0, bind_ok, sems_cons, args_cons, v_lrg, e', bind_ok, e2, bind_ok]
      rfl
    have src : (sem (callF T (k + 4)) (.call 23 [(.var 0), (.lrg [(.int 8)]), (.int 1), (.int 6)])).i [some (.ref d), some (.int m), none, some (.ref s.length), some (.ref (s.length + 2 + m)), none] S1 = .ok ⟨iD f, some (S1.length + 1, iD f)⟩ (S2 ++ [O.lst (iD f)]) := by
      rw [i_call, v_call, a1, bind_ok, e3, bind_ok]
      show (match getL (S2 ++ [O.lst (iD f)]) (S1.length + 1) with | some ds => _ | none => _) = _
      rw [getL_lst hJ]
    unfold b14
    rw [x_cons, x_par, par, lift_ok, pr]
    simp only [List.set_cons_succ, List.set_cons_zero]
    rw [seq_nx, x_cons, x_for, src, lift_ok]
    dsimp only
    show SOut.seq (forW (Src.live ⟨iD f, some (S1.length + 1, iD f)⟩) (bnd (.nm 2)) (execs (callF T (k + 4)) bodyF) (iD f) _ (S2 ++ [O.lst (iD f)])) _ = _
    rw [e4, seq_nx]
    simp only [Fe.bind_ok, Fe.bind_exc, Fe.lift_ok, Fe.lift_exc, Fe.seq_nx, Fe.seq_rt, Fe.seq_exc, Fe.v_non, Fe.v_bl, Fe.v_int, Fe.v_str, Fe.v_var, Fe.v_con, Fe.v_bin, Fe.v_neg, Fe.v_cmp, Fe.v_chn, Fe.v_and, Fe.v_or, Fe.v_not, Fe.v_ite, Fe.v_tup, Fe.v_lst, Fe.v_ix, Fe.v_sl, Fe.v_call, Fe.v_bi, Fe.v_isi, Fe.v_me, Fe.v_lc, Fe.v_dct, Fe.v_rev, Fe.v_fld, Fe.v_mt, Fe.v_pr, Fe.v_mk, Fe.v_oinT, Fe.v_oinF, Fe.v_inV, Fe.v_olen, Fe.v_lenOwn, Fe.v_obool, Fe.v_boolOwn, Fe.v_otru, Fe.v_oix, Fe.v_lrg, Fe.v_trg, Fe.v_ostr, Fe.v_strOwn, Fe.v_asSt, Fe.v_fst, Fe.v_noExc, Fe.v_asBl, Fe.v_asB, Fe.v_asTru, Fe.v_asNon, Fe.o_no, Fe.o_int, Fe.o_var, Fe.o_bin, Fe.o_neg, Fe.o_ite, Fe.asI_int, Fe.t_no, Fe.t_cmp, Fe.t_chn, Fe.t_and, Fe.t_or, Fe.t_not, Fe.t_call, Fe.t_var, Fe.t_isi, Fe.t_bi, Fe.t_oinT, Fe.t_oinF, Fe.t_otru, Fe.t_obool, Fe.t_mt, Fe.t_pr, Fe.t_fld, Fe.t_tru, Fe.sems_nil, Fe.sems_cons, Fe.args_nil, Fe.args_cons, Fe.andV_1, Fe.andV_2, Fe.orV_1, Fe.orV_2, Fe.andT_1, Fe.andT_2, Fe.orT_1, Fe.orT_2, Fe.v_lam, Fe.i_rng, Fe.i_tup, Fe.i_var, Fe.i_fld, Fe.i_mt, Fe.i_oix, Fe.i_enu, Fe.i_call, Fe.x_retN, Fe.x_pass, Fe.x_whl, Fe.x_setf, Fe.x_nil, Fe.x_cons, Fe.x_set, Fe.x_ret, Fe.x_expr, Fe.x_ite, Fe.x_sub, Fe.x_par, Fe.x_asg, Fe.x_for, Fe.x_met, Fe.x_rais, lk_0, lk_s, int_int, add_int, Cm.f, Ar.f, Bi.f, Me.f, Me.T, liftT, List.set_cons_succ, List.set_cons_zero]
    rfl
  rw [e]
  show trimO s (.ok (.tup [.ref s.length, .ref (s.length + 2 + m)]) F) = _
  rfl
end
end K16

set_option maxHeartbeats 4000000
namespace K16
open Fe
open L2 (atI ixN)
section
variable {k : Nat} {s s' F G g : Fe.S} {d p a L n m N jd ji jo : Nat} {ls rs X : List Nat} {ins outs : List Int} {qs : List (List Int)} {ns : List Int} {t x y : Int} {i : Nat} {z w : List Int} {v u : D} {c : List Nat}
/-- what stands behind the first lines -/
structure Base (s F : Fe.S) (d m a L : Nat) (ls : List Nat) (qs : List (List Int)) (jd ji jo : Nat) (ins outs : List Int) : Prop where
  fr : Fr s F [d]
  dice : Dice F d
  Q : QAt F a L ls qs
  due : F[jd]? = some (.lst (qs.map fun z => .tup (iD z)))
  inj : F[ji]? = some (.lst (iD ins))
  outj : F[jo]? = some (.lst (iD outs))
  lm : ls.length = m
  m1 : 1 ≤ m
  m3 : m ≤ 3
  dl : d < s.length
  ap : ∀ x ∈ a :: L :: jd :: ji :: jo :: ls, s.length ≤ x
  jn : jd ∉ ls ∧ ji ∉ ls
  nd : qs.flatten.Nodup
  rg : ∀ t ∈ qs.flatten, 0 ≤ t ∧ t < 8
  hins : ∀ t, t ∈ ins ↔ t ∈ qs.flatten
  insl : ins.length = qs.flatten.length
  ins0 : ins ≠ []
  houts : ∀ t ∈ outs, 0 ≤ t ∧ t < 9 ∧ t ∉ qs.flatten
  outs0 : outs ≠ []
  outl : outs.length ≤ 9
theorem Base.ne (h : Base s F d m a L ls qs jd ji jo ins outs) {x : Nat} (hx : x ∈ a :: L :: jd :: ji :: jo :: ls) : x ∉ [d] := by
  have := h.ap x hx
  have := h.dl
  simp only [List.mem_singleton]
  omega
theorem Base.to (h : Base s F d m a L ls qs jd ji jo ins outs) (f : Fr F G [d]) (hd : Dice G d) : Base s G d m a L ls qs jd ji jo ins outs :=
  { h with
    fr := h.fr.trans f
    dice := hd
    Q := h.Q.fr f (fun x hx => h.ne (by
      rcases List.mem_cons.mp hx with e | hx
      · rw [e]; exact List.mem_cons_self
      · rcases List.mem_cons.mp hx with e | hx
        · rw [e]; simp
        · simp [hx]))
    due := f.at_ h.due (h.ne (by simp))
    inj := f.at_ h.inj (h.ne (by simp))
    outj := f.at_ h.outj (h.ne (by simp)) }
abbrev En (d m : Nat) (x2 x3 x4 x5 x6 x7 x8 x9 x10 x11 x12 x13 x14 x15 : Option D) : Fe.Env := [some (.ref d), some (.int m), x2, x3, x4, x5, x6, x7, x8, x9, x10, x11, x12, x13, x14, x15, none, none]
theorem filt_iD {P : Int → Bool} {q : List Int} : (q.filter P).map D.int = iD (q.filter P) := rfl
/-- the first five lines -/
theorem setupA (hs : Dice s d) : ∃ F m a L n ls qs jd ji jo ins outs, execs (callF T (k + 6)) b2 [some (.ref d), none, none, none, none, none, none, none, none, none, none, none, none, none, none, none, none, none] s =
      execs (callF T (k + 6)) (b2.drop 5) (En d m (some (.ref jd)) (some (.ref ji)) (some (.ref jo)) none none none none none (some (.ref a)) (some (.ref n)) none none none none) F ∧ Base s F d m a L ls qs jd ji jo ins outs := by
  obtain ⟨r, o1, r0, r1, d1, e1⟩ := roll16 (k := k + 5) (u := 3) hs (by decide) (by decide)
  obtain ⟨m, hm⟩ : ∃ m : Nat, 1 + r = (m : Int) := ⟨(1 + r).toNat, by omega⟩
  have m1 : 1 ≤ m := by omega
  have m3 : m ≤ 3 := by omega
  have fr1 : Fr s (s.set d o1) [d] := (Fr.refl s [d]).set List.mem_cons_self
  have ll1 : (s.set d o1).length = s.length := List.length_set
  obtain ⟨F, a, L, n, ls, rs, f, qs, e2, W, ap, lm, fnd, f0, fb⟩ := filled16 (k := k + 1) d1 m1 m3
  have nd : qs.flatten.Nodup := W.pm.nodup_iff.mpr fnd
  have rg : ∀ t ∈ qs.flatten, 0 ≤ t ∧ t < 8 := fun t ht => fb t (W.pm.mem_iff.mp ht)
  have fl8 : qs.flatten.length ≤ 8 := nodup_le 8 _ nd rg
  have few : rs.length ≤ 3 := by rw [W.ln.len, ← W.Q.len]; exact W.Q.few
  -- due
  have srcD : (sem (callF T (k + 6)) (.var 11)).i (En d m none none none none none none none none (some (.ref a)) (some (.ref n)) none none none none) F = .ok ⟨rs.map .ref, some (n, rs.map .ref)⟩ F := by
    rw [i_var, lk_s, lk_s, lk_s, lk_s, lk_s, lk_s, lk_s, lk_s, lk_s, lk_s, lk_s, lk_0, bind_ok]
    show (match getL F n with | some ds => _ | none => _) = _
    rw [W.ln.getL_]
  have lcD := lcV_zip (t := (sem (callF T (k + 6)) .no).t) (e := (sem (callF T (k + 6)) (.bi .tup [(.var 16)])).v) (bind := bnd (.nm 16)) (own := [16]) (ys := qs.map fun z => D.tup (iD z)) srcD (fun i l e => by cases e; exact W.ln.getL_) (by show (rs.map D.ref).length ≤ line; rw [List.length_map]; unfold line; omega) (by show (rs.map D.ref).length = _; rw [List.length_map, List.length_map, W.ln.len]) (fun i x y hx hy acc => by
    rw [List.getElem?_map] at hx
    obtain ⟨r, hr, rfl⟩ := Option.map_eq_some_iff.mp hx
    obtain ⟨z, hz, hs⟩ := W.ln.get_r hr
    rw [List.getElem?_map, hz] at hy
    cases hy
    refine ⟨(En d m none none none none none none none none (some (.ref a)) (some (.ref n)) none none none none).set 16 (some (.ref r)), rfl, rfl, ?_⟩
    have tp := tup_lstN (s := F ++ [.lst acc]) (getL_app (getL_lst hs))
    have a1 : argsV (sems (callF T (k + 6)) [(.var 16)]) ((En d m none none none none none none none none (some (.ref a)) (some (.ref n)) none none none none).set 16 (some (.ref r))) (F ++ [.lst acc]) = .ok [.ref r] (F ++ [.lst acc]) := rfl
    rw [v_bi, a1, bind_ok]
    exact tp)
  obtain ⟨F1, hF1⟩ : ∃ F1 : Fe.S, F1 = F ++ [O.lst (qs.map fun z => D.tup (iD z))] := ⟨_, rfl⟩
  rw [← hF1] at lcD
  have frF1 : Fr F F1 [d] := by rw [hF1]; exact (Fr.refl F [d]).app
  have Q1 : QAt F1 a L ls qs := by rw [hF1]; exact W.Q.app
  have due1 : F1[F.length]? = some (.lst (qs.map fun z => .tup (iD z))) := by rw [hF1]; exact at_end
  have l1 : F1.length = F.length + 1 := by rw [hF1]; simp
  -- inside
  obtain ⟨ins, hins⟩ : ∃ ins : List Int, ins = (below 8).filter (fun t => qs.flatten.contains t) := ⟨_, rfl⟩
  have inI : ∀ t, t ∈ ins ↔ t ∈ qs.flatten := fun t => by
    rw [hins, List.mem_filter, below_mem]
    constructor
    · rintro ⟨_, h⟩; simpa using h
    · intro h
      have := rg t h
      exact ⟨by omega, by simpa using h⟩
  have insN : ins.Nodup := by rw [hins]; exact below_nodup.filter _
  have insl : ins.length = qs.flatten.length := ((List.perm_ext_iff_of_nodup insN nd).mpr inI).length_eq
  have ins0 : ins ≠ [] := fun e => by
    obtain ⟨t, ht⟩ := List.exists_mem_of_ne_nil f f0
    have := (inI t).mpr (W.pm.mem_iff.mpr ht)
    rw [e] at this
    cases this
  have srcI : (sem (callF T (k + 6)) (.rng [(.int 8)])).i (En d m (some (.ref F.length)) none none none none none none none (some (.ref a)) (some (.ref n)) none none none none) F1 = .ok ⟨iD (below 8), none⟩ F1 := by
    rw [← below_D]
    exact rng_src (N := 8) rfl (by decide)
  have lcI := lcV_int (t := (sem (callF T (k + 6)) (.oin false Q0 15 (.var 12) (.var 10))).t) (e := (sem (callF T (k + 6)) (.var 12)).v) (bind := bnd (.nm 12)) (own := [12]) (P := fun t => qs.flatten.contains t) (f := D.int) srcI (fun i l e => nomatch e) (by rw [below_len]; decide) (fun x hx acc => by
    have hb := below_mem.mp hx
    have Q2 := Q1.app (g := [.lst acc])
    refine ⟨(En d m (some (.ref F.length)) none none none none none none none (some (.ref a)) (some (.ref n)) (some (.int x)) none none none), rfl, ?_, fun _ => rfl⟩
    have c := con16 (k := k + 3) Q2 hb.1 (show x < Big by unfold Big; omega)
    rw [any_flat] at c
    simp only [Fe.bind_ok, Fe.bind_exc, Fe.lift_ok, Fe.lift_exc, Fe.seq_nx, Fe.seq_rt, Fe.seq_exc, Fe.v_non, Fe.v_bl, Fe.v_int, Fe.v_str, Fe.v_var, Fe.v_con, Fe.v_bin, Fe.v_neg, Fe.v_cmp, Fe.v_chn, Fe.v_and, Fe.v_or, Fe.v_not, Fe.v_ite, Fe.v_tup, Fe.v_lst, Fe.v_ix, Fe.v_sl, Fe.v_call, Fe.v_bi, Fe.v_isi, Fe.v_me, Fe.v_lc, Fe.v_dct, Fe.v_rev, Fe.v_fld, Fe.v_mt, Fe.v_pr, Fe.v_mk, Fe.v_oinT, Fe.v_oinF, Fe.v_inV, Fe.v_olen, Fe.v_lenOwn, Fe.v_obool, Fe.v_boolOwn, Fe.v_otru, Fe.v_oix, Fe.v_lrg, Fe.v_trg, Fe.v_ostr, Fe.v_strOwn, Fe.v_asSt, Fe.v_fst, Fe.v_noExc, Fe.v_asBl, Fe.v_asB, Fe.v_asTru, Fe.v_asNon, Fe.o_no, Fe.o_int, Fe.o_var, Fe.o_bin, Fe.o_neg, Fe.o_ite, Fe.asI_int, Fe.t_no, Fe.t_cmp, Fe.t_chn, Fe.t_and, Fe.t_or, Fe.t_not, Fe.t_call, Fe.t_var, Fe.t_isi, Fe.t_bi, Fe.t_oinT, Fe.t_oinF, Fe.t_otru, Fe.t_obool, Fe.t_mt, Fe.t_pr, Fe.t_fld, Fe.t_tru, Fe.sems_nil, Fe.sems_cons, Fe.args_nil, Fe.args_cons, Fe.andV_1, Fe.andV_2, Fe.orV_1, Fe.orV_2, Fe.andT_1, Fe.andT_2, Fe.orT_1, Fe.orT_2, Fe.v_lam, Fe.i_rng, Fe.i_tup, Fe.i_var, Fe.i_fld, Fe.i_mt, Fe.i_oix, Fe.i_enu, Fe.i_call, Fe.x_retN, Fe.x_pass, Fe.x_whl, Fe.x_setf, Fe.x_nil, Fe.x_cons, Fe.x_set, Fe.x_ret, Fe.x_expr, Fe.x_ite, Fe.x_sub, Fe.x_par, Fe.x_asg, Fe.x_for, Fe.x_met, Fe.x_rais, lk_0, lk_s, int_int, add_int, Cm.f, Ar.f, Bi.f, Me.f, Me.T, liftT, List.set_cons_succ, List.set_cons_zero, cl16 Q2, if_true, c, id])
  rw [← hins] at lcI
  obtain ⟨F2, hF2⟩ : ∃ F2 : Fe.S, F2 = F1 ++ [O.lst (iD ins)] := ⟨_, rfl⟩
  change _ = Out.ok (D.ref F1.length) (F1 ++ [O.lst (iD ins)]) at lcI
  rw [← hF2] at lcI
  have Q2 : QAt F2 a L ls qs := by rw [hF2]; exact Q1.app
  have in2 : F2[F1.length]? = some (.lst (iD ins)) := by rw [hF2]; exact at_end
  have l2 : F2.length = F1.length + 1 := by rw [hF2]; simp
  -- outside
  obtain ⟨outs, houts⟩ : ∃ outs : List Int, outs = (below 9).filter (fun t => !ins.contains t) := ⟨_, rfl⟩
  have outI : ∀ t ∈ outs, 0 ≤ t ∧ t < 9 ∧ t ∉ qs.flatten := fun t ht => by
    rw [houts, List.mem_filter, below_mem] at ht
    obtain ⟨h1, h2⟩ := ht
    refine ⟨h1.1, by have := h1.2; omega, fun h => ?_⟩
    have h3 : t ∉ ins := by simpa using h2
    exact h3 ((inI t).mpr h)
  have out0 : outs ≠ [] := fun e => by
    have : (8 : Int) ∈ outs := by
      rw [houts, List.mem_filter, below_mem]
      refine ⟨by omega, ?_⟩
      have : (8 : Int) ∉ ins := fun h => by have := rg _ ((inI _).mp h); omega
      simpa using this
    rw [e] at this
    cases this
  have outl : outs.length ≤ 9 := by rw [houts]; exact Nat.le_trans (List.length_filter_le _ _) (by rw [below_len]; exact Nat.le_refl _)
  have srcO : (sem (callF T (k + 6)) (.rng [(.int 9)])).i (En d m (some (.ref F.length)) (some (.ref F1.length)) none none none none none none (some (.ref a)) (some (.ref n)) none none none none) F2 = .ok ⟨iD (below 9), none⟩ F2 := by
    rw [← below_D]
    exact rng_src (N := 9) rfl (by decide)
  have lcO := lcV_int (t := (sem (callF T (k + 6)) (.cmp .nin (.var 12) (.var 3))).t) (e := (sem (callF T (k + 6)) (.var 12)).v) (bind := bnd (.nm 12)) (own := [12]) (P := fun t => !ins.contains t) (f := D.int) srcO (fun i l e => nomatch e) (by rw [below_len]; decide) (fun x hx acc => by
    refine ⟨(En d m (some (.ref F.length)) (some (.ref F1.length)) none none none none none none (some (.ref a)) (some (.ref n)) (some (.int x)) none none none), rfl, ?_, fun _ => rfl⟩
    simp only [Fe.bind_ok, Fe.bind_exc, Fe.lift_ok, Fe.lift_exc, Fe.seq_nx, Fe.seq_rt, Fe.seq_exc, Fe.v_non, Fe.v_bl, Fe.v_int, Fe.v_str, Fe.v_var, Fe.v_con, Fe.v_bin, Fe.v_neg, Fe.v_cmp, Fe.v_chn, Fe.v_and, Fe.v_or, Fe.v_not, Fe.v_ite, Fe.v_tup, Fe.v_lst, Fe.v_ix, Fe.v_sl, Fe.v_call, Fe.v_bi, Fe.v_isi, Fe.v_me, Fe.v_lc, Fe.v_dct, Fe.v_rev, Fe.v_fld, Fe.v_mt, Fe.v_pr, Fe.v_mk, Fe.v_oinT, Fe.v_oinF, Fe.v_inV, Fe.v_olen, Fe.v_lenOwn, Fe.v_obool, Fe.v_boolOwn, Fe.v_otru, Fe.v_oix, Fe.v_lrg, Fe.v_trg, Fe.v_ostr, Fe.v_strOwn, Fe.v_asSt, Fe.v_fst, Fe.v_noExc, Fe.v_asBl, Fe.v_asB, Fe.v_asTru, Fe.v_asNon, Fe.o_no, Fe.o_int, Fe.o_var, Fe.o_bin, Fe.o_neg, Fe.o_ite, Fe.asI_int, Fe.t_no, Fe.t_cmp, Fe.t_chn, Fe.t_and, Fe.t_or, Fe.t_not, Fe.t_call, Fe.t_var, Fe.t_isi, Fe.t_bi, Fe.t_oinT, Fe.t_oinF, Fe.t_otru, Fe.t_obool, Fe.t_mt, Fe.t_pr, Fe.t_fld, Fe.t_tru, Fe.sems_nil, Fe.sems_cons, Fe.args_nil, Fe.args_cons, Fe.andV_1, Fe.andV_2, Fe.orV_1, Fe.orV_2, Fe.andT_1, Fe.andT_2, Fe.orT_1, Fe.orT_2, Fe.v_lam, Fe.i_rng, Fe.i_tup, Fe.i_var, Fe.i_fld, Fe.i_mt, Fe.i_oix, Fe.i_enu, Fe.i_call, Fe.x_retN, Fe.x_pass, Fe.x_whl, Fe.x_setf, Fe.x_nil, Fe.x_cons, Fe.x_set, Fe.x_ret, Fe.x_expr, Fe.x_ite, Fe.x_sub, Fe.x_par, Fe.x_asg, Fe.x_for, Fe.x_met, Fe.x_rais, lk_0, lk_s, int_int, add_int, Cm.f, Ar.f, Bi.f, Me.f, Me.T, liftT, List.set_cons_succ, List.set_cons_zero, nin_lstI (getL_app (g := [O.lst acc]) (getL_lst in2))])
  rw [← houts] at lcO
  obtain ⟨F3, hF3⟩ : ∃ F3 : Fe.S, F3 = F2 ++ [O.lst (iD outs)] := ⟨_, rfl⟩
  change _ = Out.ok (D.ref F2.length) (F2 ++ [O.lst (iD outs)]) at lcO
  rw [← hF3] at lcO
  have lF := (fr1.trans W.fr).len
  have lsl : ∀ x ∈ ls, s.length ≤ x ∧ x < F.length := fun x hx => by
    have h1 := ap.al x (List.mem_cons_of_mem _ (List.mem_cons_of_mem _ hx))
    have h2 := W.Q.lts x (List.mem_cons_of_mem _ (List.mem_cons_of_mem _ hx))
    omega
  refine ⟨F3, m, a, L, n, ls, qs, F.length, F1.length, F2.length, ins, outs, ?_, ⟨?_, ?_, ?_, ?_, ?_, ?_, lm, m1, m3, hs.lt, ?_, ⟨fun h => ?_, fun h => ?_⟩, nd, rg, inI, insl, ins0, outI, out0, outl⟩⟩
  · have a1 : argsV (sems (callF T (k + 6)) [(.var 0), (.int 3)]) [some (.ref d), none, none, none, none, none, none, none, none, none, none, none, none, none, none, none, none, none] s = .ok [.ref d, .int 3] s := rfl
    have a2 : argsV (sems (callF T (k + 6)) [(.var 0), (.var 1)]) (En d m none none none none none none none none none none none none none none) (s.set d o1) = .ok [.ref d, .int m] (s.set d o1) := rfl
    have bd : ∀ s : Fe.S, bnd (.tp [.nm 10, .nm 11]) (.tup [.ref a, .ref n]) (En d m none none none none none none none none none none none none none none) s = some (En d m none none none none none none none none (some (.ref a)) (some (.ref n)) none none none none, s) := fun _ => rfl
    show execs (callF T (k + 6)) (_ :: _ :: _ :: _ :: _ :: b2.drop 5) _ _ = _
    rw [x_cons, x_set, v_bin, v_int, bind_ok, v_call, a1, bind_ok, e1, bind_ok]
    show (lift (opAdd (.int 1) (.int r) (s.set d o1)) _ _).seq _ = _
    rw [add_int, lift_ok, hm]
    simp only [List.set_cons_succ, List.set_cons_zero]
    rw [seq_nx, x_cons, x_asg, v_call, a2, bind_ok, e2, lift_ok, bd]
    show ((SOut.nx _ F).seq _) = _
    rw [seq_nx, x_cons, x_set, v_lc, lcD, lift_ok]
    simp only [List.set_cons_succ, List.set_cons_zero]
    rw [seq_nx, x_cons, x_set, v_lc, lcI, lift_ok]
    simp only [List.set_cons_succ, List.set_cons_zero]
    rw [seq_nx, x_cons, x_set, v_lc, lcO, lift_ok]
    simp only [List.set_cons_succ, List.set_cons_zero]
    rw [seq_nx]
  · rw [hF3, hF2, hF1]
    exact (fr1.trans W.fr).app.app.app
  · rw [hF3, hF2, hF1]
    exact W.dice.app.app.app
  · rw [hF3]; exact Q2.app
  · rw [hF3, hF2]; exact at_app (at_app due1)
  · rw [hF3]; exact at_app in2
  · rw [hF3]; exact at_end
  · intro x hx
    simp only [List.mem_cons] at hx
    rcases hx with e | e | e | e | e | hx
    · have := ap.al x (by rw [e]; simp); omega
    · have := ap.al x (by rw [e]; simp); omega
    · omega
    · omega
    · omega
    · exact (lsl x hx).1
  · have := (lsl _ h).2; omega
  · have := (lsl _ h).2; omega
end
end K16

set_option maxHeartbeats 4000000
namespace K16
open Fe
open L2 (atI ixN)
section
variable {k : Nat} {s s' F F1 G g : Fe.S} {d p a L n m N jd ji jo : Nat} {ls rs X : List Nat} {ins outs : List Int} {qs : List (List Int)} {ns : List Int} {t x y : Int} {i : Nat} {z w : List Int} {v u : D} {c : List Nat}
theorem pickL {ρ : Fe.Env} {es : List E} {ds : List D} (h0 : ∀ s, lk ρ 0 s = .ok (.ref d) s) (ha : argsV (sems (callF T (k + 2)) es) ρ F = .ok ds F1) (hd : Dice F1 d) (hne : ds ≠ []) (hl : ds.length ≤ 100) (hr : ∀ x ∈ ds, ∀ m, x = .ref m → m < F1.length) :
    ∃ v ∈ ds, ∃ o, Dice ((F1 ++ [O.lst ds]).set d o) d ∧ (sem (callF T (k + 2)) (.call 3 [(.var 0), (.lst es)])).v ρ F = .ok v ((F1 ++ [O.lst ds]).set d o) := by
  have hlt := hd.lt
  obtain ⟨v, hv, o, d1, e⟩ := pick16 (k := k) (s := F1 ++ [O.lst ds]) (j := F1.length) (ds := ds) hd.app at_end (by omega) hne (by omega) (fun x hx m e => by have := hr x hx m e; simp; omega)
  refine ⟨v, hv, o, d1, ?_⟩
  have a1 : argsV (sems (callF T (k + 2)) [(.var 0), (.lst es)]) ρ F = .ok [.ref d, .ref F1.length] (F1 ++ [O.lst ds]) := by
    rw [sems_cons, args_cons, v_var, h0, bind_ok, sems_cons, args_cons, v_lst, ha, bind_ok, mkL_ok (by omega), bind_ok]
    rfl
  rw [v_call, a1, bind_ok, e]
theorem dct0 {ρ : Fe.Env} : dctV [] ρ s = .ok (.ref s.length) (s ++ [.dct []]) := by
  have pv : pairsV [] ρ (s ++ [O.dct []]) = .ok [] (s ++ [O.dct []]) := rfl
  unfold dctV
  rw [pv, bind_ok, at_end, if_pos (by decide), set_end]
theorem dct1 {ρ : Fe.Env} {fk fv : Fe.Env → Fe.S → Out D} (hk : ∀ s, fk ρ s = .ok (.int t) s) (hv : ∀ s, fv ρ s = .ok (.int 0) s) : dctV [(fk, fv)] ρ s = .ok (.ref s.length) (s ++ [.dct [(.int t, .int 0)]]) := by
  have pv : pairsV [(fk, fv)] ρ (s ++ [O.dct []]) = .ok [(.int t, .int 0)] (s ++ [O.dct []]) := by
    unfold pairsV
    dsimp only
    rw [hk, bind_ok, hv, bind_ok]
    rfl
  unfold dctV
  rw [pv, bind_ok, at_end, if_pos (by simp [keysOk, keyOf]), set_end]
/-! odd tasks -/
def odds (u : Nat) : List D := [.non, .str [], .str [48], .bl true, .bl false, .int (-1), .int Big, .int (10 ^ 60), .tup [], .tup [.int 0], .ref u, .ref (u + 1), .ref (u + 2), .ref (u + 3)]
def oddO (t : Int) : Fe.S := [O.lst [], O.lst [.int t], O.dct [], O.dct [(.int t, .int 0)]]
theorem ty_lst {ds : List D} {j : Nat} (h : G[j]? = some (.lst ds)) : opIsi .int (.ref j) G = .ok (.bl false) G := by
  unfold opIsi tyOf
  dsimp only
  rw [h]
  rfl
theorem ty_dct {ds : List (D × D)} {j : Nat} (h : G[j]? = some (.dct ds)) : opIsi .int (.ref j) G = .ok (.bl false) G := by
  unfold opIsi tyOf
  dsimp only
  rw [h]
  rfl
theorem tys_lst {ds : List D} {j : Nat} (h : G[j]? = some (.lst ds)) : opIsi .str (.ref j) G = .ok (.bl false) G := by
  unfold opIsi tyOf
  dsimp only
  rw [h]
  rfl
theorem tys_dct {ds : List (D × D)} {j : Nat} (h : G[j]? = some (.dct ds)) : opIsi .str (.ref j) G = .ok (.bl false) G := by
  unfold opIsi tyOf
  dsimp only
  rw [h]
  rfl
theorem odd_no {u : Nat} (h : ∀ (i : Nat) (o : O), (oddO t)[i]? = some o → G[u + i]? = some o) : ∀ v ∈ odds u, NoN T q16 G v := by
  intro v hv
  unfold odds at hv
  simp only [List.mem_cons, List.not_mem_nil, or_false] at hv
  rcases hv with rfl | rfl | rfl | rfl | rfl | rfl | rfl | rfl | rfl | rfl | rfl | rfl | rfl | rfl
  · exact noN_of (noI_ty rfl)
  · exact noN_of (noI_ty rfl)
  · exact noN_of (noI_ty rfl)
  · exact noN_of noI_bl
  · exact noN_of noI_bl
  · exact noN_neg (by decide) (by decide)
  · exact noN_of (noI_big (by decide))
  · exact noN_of (noI_big (by decide +kernel))
  · exact noN_of (noI_ty rfl)
  · exact noN_of (noI_ty rfl)
  · exact noN_of (noI_ty (ty_lst (h 0 _ rfl)))
  · exact noN_of (noI_ty (ty_lst (h 1 _ rfl)))
  · exact noN_of (noI_ty (ty_dct (h 2 _ rfl)))
  · exact noN_of (noI_ty (ty_dct (h 3 _ rfl)))
theorem tail_at {A B : Fe.S} {i : Nat} {o : O} (h : B[i]? = some o) : (A ++ B)[A.length + i]? = some o := by
  rw [List.getElem?_append_right (Nat.le_add_right _ _), Nat.add_sub_cancel_left]; exact h
abbrev oddE : List E := [.non, (.str []), (.str [48]), (.bl true), (.bl false), (.neg (.int 1)), (.bin .pow (.int 10) (.int 40)), (.bin .pow (.int 10) (.int 60)), (.tup []), (.tup [(.int 0)]), (.lst []), (.lst [(.var 12)]), (.dct [] []), (.dct [(.var 12)] [(.int 0)])]
theorem pw40 : opPow (.int 10) (.int 40) s = .ok (.int Big) s := by
  rw [pow_ok' (by decide +kernel)]
  congr 2
theorem pw60 : opPow (.int 10) (.int 60) s = .ok (.int (10 ^ 60)) s := pow_ok' (by decide +kernel)
theorem pw41 : opPow (.int 10) (.int 41) s = .ok (.int (10 ^ 41)) s := pow_ok' (by decide +kernel)
theorem mt0 : mkTup [] s = .ok (.tup []) s := rfl
theorem mt1 {x : D} : mkTup [x] s = .ok (.tup [x]) s := rfl
theorem odd_args {ρ : Fe.Env} (h : ∀ s, lk ρ 12 s = .ok (.int t) s) : argsV (sems (callF T k) oddE) ρ F = .ok (odds F.length) (F ++ oddO t) := by
  have l1 : (F ++ [O.lst []]).length = F.length + 1 := by simp
  have l2 : (F ++ [O.lst []] ++ [O.lst [.int t]]).length = F.length + 2 := by simp
  have l3 : (F ++ [O.lst []] ++ [O.lst [.int t]] ++ [O.dct []]).length = F.length + 3 := by simp
  have m1 : ∀ s : Fe.S, mkLst [.int t] s = .ok (.ref s.length) (s ++ [O.lst [.int t]]) := fun s => mkL_ok (by simp)
  have dd : ∀ s : Fe.S, dctV (pairsOf (sems (callF T k) [(.var 12)]) (sems (callF T k) [(.int 0)])) ρ s = .ok (.ref s.length) (s ++ [.dct [(.int t, .int 0)]]) := fun s => dct1 (fun s => by rw [v_var, h]) (fun s => rfl)
  have d0 : ∀ s : Fe.S, dctV (pairsOf (sems (callF T k) []) (sems (callF T k) [])) ρ s = .ok (.ref s.length) (s ++ [.dct []]) := fun s => dct0
  have tl : argsV (sems (callF T k) [(.lst []), (.lst [(.var 12)]), (.dct [] []), (.dct [(.var 12)] [(.int 0)])]) ρ F = .ok [.ref F.length, .ref (F.length + 1), .ref (F.length + 2), .ref (F.length + 3)] (F ++ oddO t) := by
    rw [sems_cons, args_cons, v_lst, sems_nil, args_nil, bind_ok, mkL_nil, bind_ok, sems_cons, args_cons, v_lst, sems_cons, sems_nil, args_cons, v_var, h, bind_ok, args_nil, bind_ok, bind_ok, m1, bind_ok, sems_cons, args_cons, v_dct, d0, bind_ok, sems_cons, args_cons, v_dct, dd, bind_ok, sems_nil, args_nil, bind_ok, bind_ok, bind_ok, bind_ok, l1, l2, l3]
    unfold oddO
    simp only [List.append_assoc, List.singleton_append, List.cons_append, List.nil_append]
  have v9 : (sem (callF T k) (.tup [])).v ρ F = .ok (.tup []) F := rfl
  have v10 : (sem (callF T k) (.tup [(.int 0)])).v ρ F = .ok (.tup [.int 0]) F := rfl
  have v7 : (sem (callF T k) (.bin .pow (.int 10) (.int 40))).v ρ F = .ok (.int Big) F := by rw [v_bin, v_int, bind_ok, v_int, bind_ok]; exact pw40
  have v8 : (sem (callF T k) (.bin .pow (.int 10) (.int 60))).v ρ F = .ok (.int (10 ^ 60)) F := by rw [v_bin, v_int, bind_ok, v_int, bind_ok]; exact pw60
  have v6 : (sem (callF T k) (.neg (.int 1))).v ρ F = .ok (.int (-1)) F := rfl
  rw [sems_cons, args_cons, v_non, bind_ok, sems_cons, args_cons, v_str, bind_ok, sems_cons, args_cons, v_str, bind_ok, sems_cons, args_cons, v_bl, bind_ok, sems_cons, args_cons, v_bl, bind_ok, sems_cons, args_cons, v6, bind_ok, sems_cons, args_cons, v7, bind_ok, sems_cons, args_cons, v8, bind_ok, sems_cons, args_cons, v9, bind_ok, sems_cons, args_cons, v10, bind_ok, tl]
  rfl
/-- an odd task is drawn -/
theorem pick_odd {ρ : Fe.Env} (h0 : ∀ s, lk ρ 0 s = .ok (.ref d) s) (h12 : ∀ s, lk ρ 12 s = .ok (.int t) s) (hd : Dice F d) :
    ∃ v G, (sem (callF T (k + 2)) (.call 3 [(.var 0), (.lst oddE)])).v ρ F = .ok v G ∧ Fr F G [d] ∧ Dice G d ∧ (∀ H, Fr G H [d] → NoN T q16 H v) ∧ ∀ j, v = .ref j → j < G.length := by
  have hlt := hd.lt
  obtain ⟨v, hv, o, d1, e⟩ := pickL (k := k) h0 (odd_args (k := k + 2) (F := F) h12) hd.app (by unfold odds; simp) (by unfold odds; simp) (fun x hx j e => by
    subst e
    unfold odds at hx
    simp at hx
    rw [List.length_append]
    unfold oddO
    simp
    omega)
  have fr : Fr F ((F ++ oddO t ++ [O.lst (odds F.length)]).set d o) [d] := ((Fr.refl F [d]).app.app).set List.mem_cons_self
  refine ⟨v, _, e, fr, d1, fun H hH => odd_no (t := t) (fun i o' hi => ?_) v hv, fun j e => ?_⟩
  · refine hH.at_ ?_ (by simp only [List.mem_singleton]; omega)
    rw [List.getElem?_set_ne (by omega)]
    exact at_app (tail_at hi)
  · subst e
    unfold odds at hv
    simp at hv
    rw [List.length_set, List.length_append, List.length_append]
    unfold oddO
    simp
    omega
/-! numbers of queues that are none -/
def fars (u m : Nat) : List D := [.int m, .int ((m : Int) + 1), .int (-1), .non, .bl true, .bl false, .str [48], .str [], .tup [.int 0], .ref u, .ref (u + 1), .int (10 ^ 41), .int (-(10 ^ 41))]
def farO : Fe.S := [O.lst [], O.dct []]
theorem far_no {u : Nat} (m1 : 1 ≤ m) (m3 : m ≤ 3) (h : ∀ (i : Nat) (o : O), farO[i]? = some o → G[u + i]? = some o) : ∀ v ∈ fars u m, NoB T q16 G v m := by
  intro v hv
  unfold fars at hv
  simp only [List.mem_cons, List.not_mem_nil, or_false] at hv
  rcases hv with rfl | rfl | rfl | rfl | rfl | rfl | rfl | rfl | rfl | rfl | rfl | rfl | rfl
  · exact noB_int (by unfold Big; omega) (by unfold Big; omega) (.inr (by omega))
  · exact noB_int (by unfold Big; omega) (by unfold Big; omega) (.inr (by omega))
  · exact noB_int (by decide) (by decide) (.inl (by decide))
  · exact noB_of (noI_ty rfl)
  · exact noB_of noI_bl
  · exact noB_of noI_bl
  · exact noB_of (noI_ty rfl)
  · exact noB_of (noI_ty rfl)
  · exact noB_of (noI_ty rfl)
  · exact noB_of (noI_ty (ty_lst (h 0 _ rfl)))
  · exact noB_of (noI_ty (ty_dct (h 1 _ rfl)))
  · exact noB_of (noI_big (by decide +kernel))
  · exact noB_of (noI_low (by decide +kernel))
def reprC (p : PySem.PyData) : Bool := (p.showable && (decide (p.depth ≤ 60) && (decide (p.shown.length ≤ 16777216) && okS (codes p.shown)))) && decide ((codes p.shown).length ≤ 1000)
theorem repr_at {p : PySem.PyData} (h : pdR s v = some p) (hc : reprC p = true) : biRepr [v] s = .ok (.str (codes p.shown)) s ∧ (codes p.shown).length ≤ 1000 := by
  unfold reprC at hc
  rw [Bool.and_eq_true] at hc
  refine ⟨?_, of_decide_eq_true hc.2⟩
  unfold biRepr
  dsimp only
  rw [h]
  dsimp only
  rw [if_pos hc.1]
theorem repr_of {p : PySem.PyData} (P : Fe.S → Prop) (h : ∀ s, P s → pdR s v = some p) (hc : reprC p = true) : ∃ c : List Nat, c.length ≤ 1000 ∧ ∀ s, P s → biRepr [v] s = .ok (.str c) s := by
  refine ⟨codes p.shown, ?_, fun s hs => (repr_at (h s hs) hc).1⟩
  unfold reprC at hc
  rw [Bool.and_eq_true] at hc
  exact of_decide_eq_true hc.2
theorem pdR_lst0 {j : Nat} (h : s[j]? = some (.lst [])) : pdR s (.ref j) = some (.list []) := by
  unfold pdR
  dsimp only
  rw [h]
  show (match getL s j with | some ds => (mapO (pd s 59) ds).map PySem.PyData.list | none => none) = _
  rw [getL_lst h]
  rfl
theorem pdR_dct0 {j : Nat} (h : s[j]? = some (.dct [])) : pdR s (.ref j) = some (.dict []) := by
  unfold pdR
  dsimp only
  rw [h]
  rfl
theorem far_repr {u : Nat} (m1 : 1 ≤ m) (m3 : m ≤ 3) : ∀ v ∈ fars u m, ∃ c : List Nat, c.length ≤ 1000 ∧ ∀ G : Fe.S, (∀ (i : Nat) (o : O), farO[i]? = some o → G[u + i]? = some o) → biRepr [v] G = .ok (.str c) G := by
  intro v hv
  unfold fars at hv
  simp only [List.mem_cons, List.not_mem_nil, or_false] at hv
  have im : ∀ i : Int, reprC (.int i) = true → ∃ c : List Nat, c.length ≤ 1000 ∧ ∀ G : Fe.S, (∀ (i : Nat) (o : O), farO[i]? = some o → G[u + i]? = some o) → biRepr [.int i] G = .ok (.str c) G := fun i h => repr_of (p := .int i) _ (fun s _ => rfl) h
  have mm : m = 1 ∨ m = 2 ∨ m = 3 := by omega
  rcases hv with rfl | rfl | rfl | rfl | rfl | rfl | rfl | rfl | rfl | rfl | rfl | rfl | rfl
  · rcases mm with rfl | rfl | rfl
    · exact im _ (by decide +kernel)
    · exact im _ (by decide +kernel)
    · exact im _ (by decide +kernel)
  · rcases mm with rfl | rfl | rfl
    · exact im _ (by decide +kernel)
    · exact im _ (by decide +kernel)
    · exact im _ (by decide +kernel)
  · exact im _ (by decide +kernel)
  · exact repr_of (p := .none) _ (fun s _ => rfl) (by decide +kernel)
  · exact repr_of (p := .bool true) _ (fun s _ => rfl) (by decide +kernel)
  · exact repr_of (p := .bool false) _ (fun s _ => rfl) (by decide +kernel)
  · exact repr_of (p := .str ⟨#[48]⟩) _ (fun s _ => rfl) (by decide +kernel)
  · exact repr_of (p := .str ⟨#[]⟩) _ (fun s _ => rfl) (by decide +kernel)
  · exact repr_of (p := .tuple [.int 0]) _ (fun s _ => rfl) (by decide +kernel)
  · exact repr_of (p := .list []) _ (fun s h => pdR_lst0 (h 0 _ rfl)) (by decide +kernel)
  · exact repr_of (p := .dict []) _ (fun s h => pdR_dct0 (h 1 _ rfl)) (by decide +kernel)
  · exact im _ (by decide +kernel)
  · exact im _ (by decide +kernel)
abbrev farE : List E := [(.var 1), (.bin .add (.var 1) (.int 1)), (.neg (.int 1)), .non, (.bl true), (.bl false), (.str [48]), (.str []), (.tup [(.int 0)]), (.lst []), (.dct [] []), (.bin .pow (.int 10) (.int 41)), (.neg (.bin .pow (.int 10) (.int 41)))]
theorem far_args {ρ : Fe.Env} (h : ∀ s, lk ρ 1 s = .ok (.int m) s) : argsV (sems (callF T k) farE) ρ F = .ok (fars F.length m) (F ++ farO) := by
  have l1 : (F ++ [O.lst []]).length = F.length + 1 := by simp
  have d0 : ∀ s : Fe.S, dctV (pairsOf (sems (callF T k) []) (sems (callF T k) [])) ρ s = .ok (.ref s.length) (s ++ [.dct []]) := fun s => dct0
  have v41 : ∀ s : Fe.S, (sem (callF T k) (.bin .pow (.int 10) (.int 41))).v ρ s = .ok (.int (10 ^ 41)) s := fun s => by rw [v_bin, v_int, bind_ok, v_int, bind_ok]; exact pw41
  have vn : ∀ s : Fe.S, (sem (callF T k) (.neg (.bin .pow (.int 10) (.int 41)))).v ρ s = .ok (.int (-(10 ^ 41))) s := fun s => by rw [v_neg, v41, bind_ok]; rfl
  have tl : argsV (sems (callF T k) [(.lst []), (.dct [] []), (.bin .pow (.int 10) (.int 41)), (.neg (.bin .pow (.int 10) (.int 41)))]) ρ F = .ok [.ref F.length, .ref (F.length + 1), .int (10 ^ 41), .int (-(10 ^ 41))] (F ++ farO) := by
    rw [sems_cons, args_cons, v_lst, sems_nil, args_nil, bind_ok, mkL_nil, bind_ok, sems_cons, args_cons, v_dct, d0, bind_ok, sems_cons, args_cons, v41, bind_ok, sems_cons, args_cons, vn, bind_ok, sems_nil, args_nil, bind_ok, bind_ok, bind_ok, bind_ok, l1]
    unfold farO
    simp only [List.append_assoc, List.singleton_append]
  have v10 : (sem (callF T k) (.tup [(.int 0)])).v ρ F = .ok (.tup [.int 0]) F := rfl
  have v6 : (sem (callF T k) (.neg (.int 1))).v ρ F = .ok (.int (-1)) F := rfl
  have v1 : (sem (callF T k) (.var 1)).v ρ F = .ok (.int m) F := by rw [v_var, h]
  have v2 : (sem (callF T k) (.bin .add (.var 1) (.int 1))).v ρ F = .ok (.int ((m : Int) + 1)) F := by rw [v_bin, v1, bind_ok, v_int, bind_ok]; rfl
  rw [sems_cons, args_cons, v1, bind_ok, sems_cons, args_cons, v2, bind_ok, sems_cons, args_cons, v6, bind_ok, sems_cons, args_cons, v_non, bind_ok, sems_cons, args_cons, v_bl, bind_ok, sems_cons, args_cons, v_bl, bind_ok, sems_cons, args_cons, v_str, bind_ok, sems_cons, args_cons, v_str, bind_ok, sems_cons, args_cons, v10, bind_ok, tl]
  rfl
theorem pick_far {ρ : Fe.Env} (m1 : 1 ≤ m) (m3 : m ≤ 3) (h0 : ∀ s, lk ρ 0 s = .ok (.ref d) s) (h1 : ∀ s, lk ρ 1 s = .ok (.int m) s) (hd : Dice F d) :
    ∃ v G c, (sem (callF T (k + 2)) (.call 3 [(.var 0), (.lst farE)])).v ρ F = .ok v G ∧ Fr F G [d] ∧ Dice G d ∧ (∀ H, Fr G H [d] → NoB T q16 H v m) ∧ c.length ≤ 1000 ∧ (∀ H, Fr G H [d] → biRepr [v] H = .ok (.str c) H) := by
  have hlt := hd.lt
  obtain ⟨v, hv, o, d1, e⟩ := pickL (k := k) h0 (far_args (k := k + 2) (F := F) h1) hd.app (by unfold fars; simp) (by unfold fars; simp) (fun x hx j e => by
    subst e
    unfold fars at hx
    simp at hx
    rw [List.length_append]
    unfold farO
    simp
    omega)
  have fr : Fr F ((F ++ farO ++ [O.lst (fars F.length m)]).set d o) [d] := ((Fr.refl F [d]).app.app).set List.mem_cons_self
  have at_ : ∀ H, Fr ((F ++ farO ++ [O.lst (fars F.length m)]).set d o) H [d] → ∀ (i : Nat) (o : O), farO[i]? = some o → H[F.length + i]? = some o := fun H hH i o' hi => by
    refine hH.at_ ?_ (by simp only [List.mem_singleton]; omega)
    rw [List.getElem?_set_ne (by omega)]
    exact at_app (tail_at hi)
  obtain ⟨c, c1, c2⟩ := far_repr m1 m3 v hv
  exact ⟨v, _, c, e, fr, d1, fun H hH => far_no m1 m3 (at_ H hH) v hv, c1, fun H hH => c2 H (at_ H hH)⟩
/-! places that are none -/
def nones (u : Nat) : List D := [.non, .str [], .str [66, 97, 99, 107], .str [109, 105, 100, 100, 108, 101], .str [107, 101, 112, 116], .bl true, .int 0, .tup [.str [98, 97, 99, 107]], .ref u, .ref (u + 1), .str [102, 114, 111, 110, 116, 32]]
def noneO : Fe.S := [O.lst [.str [102, 114, 111, 110, 116]], O.dct []]
theorem none_no {u : Nat} (h : ∀ (i : Nat) (o : O), noneO[i]? = some o → G[u + i]? = some o) : ∀ v ∈ nones u, NoP T q16 G v := by
  intro v hv
  unfold nones at hv
  simp only [List.mem_cons, List.not_mem_nil, or_false] at hv
  rcases hv with rfl | rfl | rfl | rfl | rfl | rfl | rfl | rfl | rfl | rfl | rfl
  · exact noP_ty rfl
  · exact noP_str rfl
  · exact noP_str rfl
  · exact noP_str rfl
  · exact noP_str rfl
  · exact noP_ty rfl
  · exact noP_ty rfl
  · exact noP_ty rfl
  · exact noP_ty (tys_lst (h 0 _ rfl))
  · exact noP_ty (tys_dct (h 1 _ rfl))
  · exact noP_str rfl
abbrev noneE : List E := [.non, (.str []), (.str [66, 97, 99, 107]), (.str [109, 105, 100, 100, 108, 101]), (.str [107, 101, 112, 116]), (.bl true), (.int 0), (.tup [(.str [98, 97, 99, 107])]), (.lst [(.str [102, 114, 111, 110, 116])]), (.dct [] []), (.str [102, 114, 111, 110, 116, 32])]
theorem none_args {ρ : Fe.Env} : argsV (sems (callF T k) noneE) ρ F = .ok (nones F.length) (F ++ noneO) := by
  have m1 : ∀ (x : D) (s : Fe.S), mkLst [x] s = .ok (.ref s.length) (s ++ [O.lst [x]]) := fun x s => mkL_ok (by simp)
  have l1 : ∀ x : D, (F ++ [O.lst [x]]).length = F.length + 1 := fun x => by simp
  have d0 : ∀ s : Fe.S, dctV (pairsOf (sems (callF T k) []) (sems (callF T k) [])) ρ s = .ok (.ref s.length) (s ++ [.dct []]) := fun s => dct0
  have tl : argsV (sems (callF T k) [(.lst [(.str [102, 114, 111, 110, 116])]), (.dct [] []), (.str [102, 114, 111, 110, 116, 32])]) ρ F = .ok [.ref F.length, .ref (F.length + 1), .str [102, 114, 111, 110, 116, 32]] (F ++ noneO) := by
    rw [sems_cons, args_cons, v_lst, sems_cons, sems_nil, args_cons, v_str, bind_ok, args_nil, bind_ok, bind_ok, m1, bind_ok, sems_cons, args_cons, v_dct, d0, bind_ok, sems_cons, args_cons, v_str, bind_ok, sems_nil, args_nil, bind_ok, bind_ok, bind_ok, l1]
    unfold noneO
    simp only [List.append_assoc, List.singleton_append]
  have v10 : (sem (callF T k) (.tup [(.str [98, 97, 99, 107])])).v ρ F = .ok (.tup [.str [98, 97, 99, 107]]) F := rfl
  rw [sems_cons, args_cons, v_non, bind_ok, sems_cons, args_cons, v_str, bind_ok, sems_cons, args_cons, v_str, bind_ok, sems_cons, args_cons, v_str, bind_ok, sems_cons, args_cons, v_str, bind_ok, sems_cons, args_cons, v_bl, bind_ok, sems_cons, args_cons, v_int, bind_ok, sems_cons, args_cons, v10, bind_ok, tl]
  rfl
theorem pick_none {ρ : Fe.Env} (h0 : ∀ s, lk ρ 0 s = .ok (.ref d) s) (hd : Dice F d) :
    ∃ v G, (sem (callF T (k + 2)) (.call 3 [(.var 0), (.lst noneE)])).v ρ F = .ok v G ∧ Fr F G [d] ∧ Dice G d ∧ (∀ H, Fr G H [d] → NoP T q16 H v) := by
  have hlt := hd.lt
  obtain ⟨v, hv, o, d1, e⟩ := pickL (k := k) h0 (none_args (k := k + 2) (F := F)) hd.app (by unfold nones; simp) (by unfold nones; simp) (fun x hx j e => by
    subst e
    unfold nones at hx
    simp at hx
    rw [List.length_append]
    unfold noneO
    simp
    omega)
  have fr : Fr F ((F ++ noneO ++ [O.lst (nones F.length)]).set d o) [d] := ((Fr.refl F [d]).app.app).set List.mem_cons_self
  refine ⟨v, _, e, fr, d1, fun H hH => none_no (fun i o' hi => ?_) v hv⟩
  refine hH.at_ ?_ (by simp only [List.mem_singleton]; omega)
  rw [List.getElem?_set_ne (by omega)]
  exact at_app (tail_at hi)
end
end K16

set_option maxHeartbeats 4000000
namespace K16
open Fe
open L2 (atI ixN)
section
variable {k : Nat} {s s' F F1 G g : Fe.S} {d p a L n m N jd ji jo lev : Nat} {ls rs X : List Nat} {ins outs : List Int} {qs : List (List Int)} {ns : List Int} {t x y task new : Int} {i : Nat} {z w : List Int} {v u odd far non : D} {c fc pl : List Nat}
/-- what is drawn -/
structure Drawn (G : Fe.S) (d m : Nat) (qs : List (List Int)) (task new : Int) (odd far : D) (fc : List Nat) (non : D) (lev : Nat) (pl : List Nat) : Prop where
  hTask : task ∈ qs.flatten
  hNew : 0 ≤ new ∧ new < 9 ∧ new ∉ qs.flatten
  hOdd : ∀ H, Fr G H [d] → NoN T q16 H odd
  hOddj : ∀ j, odd = .ref j → j < G.length
  hFar : ∀ H, Fr G H [d] → NoB T q16 H far m
  hFcl : fc.length ≤ 1000
  hRep : ∀ H, Fr G H [d] → biRepr [far] H = .ok (.str fc) H
  hNon : ∀ H, Fr G H [d] → NoP T q16 H non
  hLv : lev < m
  hPl : pl = wBack ∨ pl = wFront
theorem setupB (B : Base s F d m a L ls qs jd ji jo ins outs) : ∃ (G : Fe.S) (task new : Int) (odd far : D) (fc : List Nat) (non : D) (lev : Nat) (pl : List Nat),
    execs (callF T (k + 6)) (b2.drop 5) (En d m (some (.ref jd)) (some (.ref ji)) (some (.ref jo)) none none none none none (some (.ref a)) (some (.ref n)) none none none none) F =
      execs (callF T (k + 6)) (b2.drop 10) (En d m (some (.ref jd)) (some (.ref ji)) (some (.ref jo)) (some odd) (some far) (some non) none none (some (.ref a)) (some (.ref n)) (some (.int task)) (some (.int new)) (some (.int lev)) (some (.str pl))) G ∧ Base s G d m a L ls qs jd ji jo ins outs ∧ Drawn G d m qs task new odd far fc non lev pl := by
  have m1 := B.m1
  have m3 := B.m3
  have mji : d ≠ ji := fun e => B.ne (x := ji) (by simp) (by simp [e])
  have mjo : d ≠ jo := fun e => B.ne (x := jo) (by simp) (by simp [e])
  have insl : ins.length ≤ 1000 := by
    rw [B.insl]
    exact Nat.le_trans (nodup_le 8 _ B.nd B.rg) (by decide)
  -- task, new
  obtain ⟨task, ht, o1, d1, e1⟩ := pickI (k := k + 4) B.dice B.inj mji B.ins0 insl
  have f1 : Fr F (F.set d o1) [d] := (Fr.refl F [d]).set List.mem_cons_self
  have B1 := B.to f1 d1
  obtain ⟨new, hn, o2, d2, e2⟩ := pickI (k := k + 4) B1.dice B1.outj mjo B1.outs0 (by have := B1.outl; omega)
  have f2 : Fr (F.set d o1) ((F.set d o1).set d o2) [d] := (Fr.refl _ [d]).set List.mem_cons_self
  have B2 := B1.to f2 d2
  generalize hF2 : (F.set d o1).set d o2 = F2 at e2 B2 d2
  -- odd
  obtain ⟨odd, F3, e3, f3, d3, o3, j3⟩ := pick_odd (k := k + 4) (F := F2) (d := d) (t := task) (ρ := En d m (some (.ref jd)) (some (.ref ji)) (some (.ref jo)) none none none none none (some (.ref a)) (some (.ref n)) (some (.int task)) (some (.int new)) none none) (fun _ => rfl) (fun _ => rfl) d2
  have B3 := B2.to f3 d3
  obtain ⟨far, F4, fc, e4, f4, d4, o4, c4, r4⟩ := pick_far (k := k + 4) (F := F3) (d := d) (m := m) (ρ := En d m (some (.ref jd)) (some (.ref ji)) (some (.ref jo)) (some odd) none none none none (some (.ref a)) (some (.ref n)) (some (.int task)) (some (.int new)) none none) m1 m3 (fun _ => rfl) (fun _ => rfl) d3
  have B4 := B3.to f4 d4
  obtain ⟨non, F5, e5, f5, d5, o5⟩ := pick_none (k := k + 4) (F := F4) (d := d) (ρ := En d m (some (.ref jd)) (some (.ref ji)) (some (.ref jo)) (some odd) (some far) none none none (some (.ref a)) (some (.ref n)) (some (.int task)) (some (.int new)) none none) (fun _ => rfl) d4
  have B5 := B4.to f5 d5
  obtain ⟨r, o6, r0, r1, d6, e6⟩ := roll16 (k := k + 5) (u := (m : Int)) d5 (by omega) (by omega)
  obtain ⟨lev, rfl⟩ : ∃ i : Nat, r = (i : Int) := ⟨r.toNat, by omega⟩
  have f6 : Fr F5 (F5.set d o6) [d] := (Fr.refl _ [d]).set List.mem_cons_self
  have B6 := B5.to f6 d6
  generalize hF6 : F5.set d o6 = F6 at e6 B6 d6 f6
  obtain ⟨v7, hv7, o7, d7, e7⟩ := pickL (k := k + 4) (F := F6) (F1 := F6) (d := d) (es := [(.str [98, 97, 99, 107]), (.str [102, 114, 111, 110, 116])]) (ds := [.str wBack, .str wFront]) (ρ := En d m (some (.ref jd)) (some (.ref ji)) (some (.ref jo)) (some odd) (some far) (some non) none none (some (.ref a)) (some (.ref n)) (some (.int task)) (some (.int new)) none none) (fun _ => rfl) rfl d6 (by simp) (by simp) (fun x hx m e => by
    simp at hx
    rcases hx with rfl | rfl <;> cases e)
  have f7 : Fr F6 ((F6 ++ [O.lst [.str wBack, .str wFront]]).set d o7) [d] := ((Fr.refl _ [d]).app).set List.mem_cons_self
  have B7 := B6.to f7 d7
  obtain ⟨pl, hpl, rfl⟩ : ∃ c, (c = wBack ∨ c = wFront) ∧ v7 = .str c := by
    simp at hv7
    rcases hv7 with rfl | rfl
    · exact ⟨_, .inl rfl, rfl⟩
    · exact ⟨_, .inr rfl, rfl⟩
  generalize hF7 : (F6 ++ [O.lst [.str wBack, .str wFront]]).set d o7 = F7 at e7 B7 d7 f7
  refine ⟨F7, task, new, odd, far, fc, non, lev, pl, ?_, B7, ⟨(B.hins task).mp ht, B.houts new hn, fun H hH => o3 H (f4.trans (f5.trans (f6.trans (f7.trans hH)))), fun j e => ?_, fun H hH => o4 H (f5.trans (f6.trans (f7.trans hH))), c4, fun H hH => r4 H (f5.trans (f6.trans (f7.trans hH))), fun H hH => o5 H (f6.trans (f7.trans hH)), by omega, hpl⟩⟩
  · have bd1 : ∀ s : Fe.S, bnd (.tp [.nm 12, .nm 13]) (.tup [.int task, .int new]) (En d m (some (.ref jd)) (some (.ref ji)) (some (.ref jo)) none none none none none (some (.ref a)) (some (.ref n)) none none none none) s = some (En d m (some (.ref jd)) (some (.ref ji)) (some (.ref jo)) none none none none none (some (.ref a)) (some (.ref n)) (some (.int task)) (some (.int new)) none none, s) := fun _ => rfl
    have bd2 : ∀ s : Fe.S, bnd (.tp [.nm 14, .nm 15]) (.tup [.int lev, .str pl]) (En d m (some (.ref jd)) (some (.ref ji)) (some (.ref jo)) (some odd) (some far) (some non) none none (some (.ref a)) (some (.ref n)) (some (.int task)) (some (.int new)) none none) s = some (En d m (some (.ref jd)) (some (.ref ji)) (some (.ref jo)) (some odd) (some far) (some non) none none (some (.ref a)) (some (.ref n)) (some (.int task)) (some (.int new)) (some (.int lev)) (some (.str pl)), s) := fun _ => rfl
    have mt : ∀ (x y : D) (s : Fe.S), mkTup [x, y] s = .ok (.tup [x, y]) s := fun _ _ _ => rfl
    have a1 : argsV (sems (callF T (k + 6)) [(.call 3 [(.var 0), (.var 3)]), (.call 3 [(.var 0), (.var 4)])]) (En d m (some (.ref jd)) (some (.ref ji)) (some (.ref jo)) none none none none none (some (.ref a)) (some (.ref n)) none none none none) F = .ok [.int task, .int new] F2 := by
      have b1 : argsV (sems (callF T (k + 6)) [(.var 0), (.var 3)]) (En d m (some (.ref jd)) (some (.ref ji)) (some (.ref jo)) none none none none none (some (.ref a)) (some (.ref n)) none none none none) F = .ok [.ref d, .ref ji] F := rfl
      have b2 : argsV (sems (callF T (k + 6)) [(.var 0), (.var 4)]) (En d m (some (.ref jd)) (some (.ref ji)) (some (.ref jo)) none none none none none (some (.ref a)) (some (.ref n)) none none none none) (F.set d o1) = .ok [.ref d, .ref jo] (F.set d o1) := rfl
      rw [sems_cons, args_cons, v_call, b1, bind_ok, e1, bind_ok, sems_cons, args_cons, v_call, b2, bind_ok, e2, bind_ok, sems_nil, args_nil, bind_ok, bind_ok]
    have a2 : argsV (sems (callF T (k + 6)) [(.call 13 [(.var 0), (.var 1)]), (.call 3 [(.var 0), (.lst [(.str [98, 97, 99, 107]), (.str [102, 114, 111, 110, 116])])])]) (En d m (some (.ref jd)) (some (.ref ji)) (some (.ref jo)) (some odd) (some far) (some non) none none (some (.ref a)) (some (.ref n)) (some (.int task)) (some (.int new)) none none) F5 = .ok [.int lev, .str pl] F7 := by
      have b1 : argsV (sems (callF T (k + 6)) [(.var 0), (.var 1)]) (En d m (some (.ref jd)) (some (.ref ji)) (some (.ref jo)) (some odd) (some far) (some non) none none (some (.ref a)) (some (.ref n)) (some (.int task)) (some (.int new)) none none) F5 = .ok [.ref d, .int m] F5 := rfl
      rw [sems_cons, args_cons, v_call, b1, bind_ok, e6, bind_ok, sems_cons, args_cons, e7, bind_ok, sems_nil, args_nil, bind_ok, bind_ok]
    show execs (callF T (k + 6)) (_ :: _ :: _ :: _ :: _ :: b2.drop 10) _ _ = _
    rw [x_cons, x_asg, v_tup, a1, bind_ok, mt, lift_ok, bd1]
    show ((SOut.nx _ F2).seq _) = _
    rw [seq_nx, x_cons, x_set, e3, lift_ok]
    simp only [List.set_cons_succ, List.set_cons_zero]
    rw [seq_nx, x_cons, x_set, e4, lift_ok]
    simp only [List.set_cons_succ, List.set_cons_zero]
    rw [seq_nx, x_cons, x_set, e5, lift_ok]
    simp only [List.set_cons_succ, List.set_cons_zero]
    rw [seq_nx, x_cons, x_asg, v_tup, a2, bind_ok, mt, lift_ok, bd2]
    show ((SOut.nx _ F7).seq _) = _
    rw [seq_nx]
  · have := j3 j e
    have := f4.len
    have := f5.len
    have := f6.len
    have := f7.len
    omega
/-! the list of what is told -/
theorem told_set {ρ : Fe.Env} {e : E} {w : List Nat} (h : (sem (callF T k) e).v ρ F = .ok (.str w) G) : exec (callF T k) (.set 8 (.lst [e])) ρ F = .nx (ρ.set 8 (some (.ref G.length))) (G ++ [O.lst ([w].map D.str)]) := by
  rw [x_set, v_lst, sems_cons, sems_nil, args_cons, h, bind_ok, args_nil, bind_ok, bind_ok, mkL_ok (by simp), lift_ok]
  rfl
theorem told_add {ρ : Fe.Env} {e : E} {w : List Nat} {ws : List (List Nat)} {j : Nat} (h8 : ∀ s, lk ρ 8 s = .ok (.ref j) s) (hF : F[j]? = some (.lst (ws.map D.str))) (h : (sem (callF T k) e).v ρ F = .ok (.str w) G) (hG : G[j]? = some (.lst (ws.map D.str))) (hl : ws.length ≤ 100) :
    exec (callF T k) (.expr (.me .append (.var 8) [e])) ρ F = .nx ρ (G.set j (.lst ((ws ++ [w]).map D.str))) := by
  have ap : meAppend (.ref j) [.str w] G = .ok .non (G.set j (.lst ((ws ++ [w]).map D.str))) := by
    rw [append_ok' hG (by rw [List.length_map]; unfold line; omega), List.map_append]
    rfl
  have ty : tyIs Me.append.T F (.ref j) = true := tyIs_lst hF
  rw [x_expr, v_me, v_var, h8, bind_ok, if_pos ty, sems_cons, sems_nil, args_cons, h, bind_ok, args_nil, bind_ok, bind_ok]
  show lift (meAppend (.ref j) [.str w] G) _ _ = _
  rw [ap, lift_ok]
theorem told_more {ρ : Fe.Env} {e : E} {w : List Nat} {ws : List (List Nat)} (h8 : ∀ s, lk ρ 8 s = .ok (.ref F.length) s) (h : (sem (callF T k) e).v ρ (F ++ [O.lst (ws.map D.str)]) = .ok (.str w) (F ++ [O.lst (ws.map D.str)])) (hl : ws.length ≤ 100) :
    exec (callF T k) (.expr (.me .append (.var 8) [e])) ρ (F ++ [O.lst (ws.map D.str)]) = .nx ρ (F ++ [O.lst ((ws ++ [w]).map D.str)]) := by
  rw [told_add h8 at_end h at_end hl, set_end]
theorem told_same {ρ : Fe.Env} {e : E} {w : List Nat} {ws : List (List Nat)} {j m : Nat} (hm : m ≤ 100) (hj : F[j]? = some (.lst (ws.map D.str))) (hw : ws = List.replicate m w) (h8 : ∀ s, lk ρ 8 s = .ok (.ref j) s) (h : (sem (callF T k) e).v ρ F = .ok (.str w) F) :
    (sem (callF T k) (.cmp .ne (.var 8) (.bin .mul (.lst [e]) (.int m)))).t ρ F = .ok false (F ++ [O.lst [.str w]] ++ [O.lst (ws.map D.str)]) := by
  have ml := mul_lst (s := F ++ [O.lst [.str w]]) (i := F.length) (ds := [.str w]) (m := m) at_end hm (by simp)
  have er : (List.replicate m [D.str w]).flatten = ws.map D.str := by
    rw [hw, List.map_replicate, List.flatten_replicate_singleton]
  rw [er] at ml
  rw [t_cmp, v_var, h8, bind_ok, v_bin, v_lst, sems_cons, sems_nil, args_cons, h, bind_ok, args_nil, bind_ok, bind_ok, mkL_ok (by simp), bind_ok, v_int, bind_ok]
  show ((opMul (.ref F.length) (.int m) (F ++ [O.lst [.str w]])).bind _) = _
  rw [ml, bind_ok]
  show asB (opNe (.ref j) (.ref (F ++ [O.lst [.str w]]).length) (F ++ [O.lst [.str w]] ++ [O.lst (ws.map D.str)])) = _
  rw [ne_lstS (getL_app (getL_app (getL_lst hj))) getL_end]
  rfl
theorem told_eq {ρ : Fe.Env} {e : E} {w : List Nat} {ws : List (List Nat)} {j m : Nat} (hm : m ≤ 100) (hj : F[j]? = some (.lst (ws.map D.str))) (hw : ws = List.replicate m w) (h8 : ∀ s, lk ρ 8 s = .ok (.ref j) s) (h : (sem (callF T k) e).v ρ F = .ok (.str w) F) :
    (sem (callF T k) (.cmp .eq (.var 8) (.bin .mul (.lst [e]) (.int m)))).v ρ F = .ok (.bl true) (F ++ [O.lst [.str w]] ++ [O.lst (ws.map D.str)]) := by
  have ml := mul_lst (s := F ++ [O.lst [.str w]]) (i := F.length) (ds := [.str w]) (m := m) at_end hm (by simp)
  have er : (List.replicate m [D.str w]).flatten = ws.map D.str := by
    rw [hw, List.map_replicate, List.flatten_replicate_singleton]
  rw [er] at ml
  rw [v_cmp, v_var, h8, bind_ok, v_bin, v_lst, sems_cons, sems_nil, args_cons, h, bind_ok, args_nil, bind_ok, bind_ok, mkL_ok (by simp), bind_ok, v_int, bind_ok]
  show ((opMul (.ref F.length) (.int m) (F ++ [O.lst [.str w]])).bind _) = _
  rw [ml, bind_ok]
  show opEq (.ref j) (.ref (F ++ [O.lst [.str w]]).length) (F ++ [O.lst [.str w]] ++ [O.lst (ws.map D.str)]) = _
  rw [eq_lstS (getL_app (getL_app (getL_lst hj))) getL_end]
theorem mt16 {ρ : Fe.Env} {es : List E} {ds : List D} {f : Nat} {r : Out D} (h10 : ∀ s, lk ρ 10 s = .ok (.ref a) s) (Q : QAt F a L ls qs) (ha : argsV (sems (callF T k) es) ρ F = .ok ds F) (hc : callF T k f (.ref a :: ds) F = r) : (sem (callF T k) (.mt Q0 f (.var 10) es)).v ρ F = r := by
  rw [v_mt, v_var, h10, bind_ok, if_pos (cl16 Q), ha, bind_ok, hc]
end
end K16

set_option maxHeartbeats 4000000
namespace K16
open Fe
open L2 (atI ixN)
section
variable {k : Nat} {s s' F F1 G H g : Fe.S} {d p a L n m N jd ji jo lev : Nat} {ls rs X : List Nat} {ins outs : List Int} {qs : List (List Int)} {ns : List Int} {t x y task new : Int} {i : Nat} {z w : List Int} {v u odd far non : D} {c fc pl : List Nat} {x8 x9 : Option D}
abbrev Eg (d m jd ji jo : Nat) (odd far non : D) (x8 x9 : Option D) (a n : Nat) (task new : Int) (lev : Nat) (pl : List Nat) : Fe.Env := En d m (some (.ref jd)) (some (.ref ji)) (some (.ref jo)) (some odd) (some far) (some non) x8 x9 (some (.ref a)) (some (.ref n)) (some (.int task)) (some (.int new)) (some (.int lev)) (some (.str pl))
theorem lamQ {ρ : Fe.Env} {es : List E} {ds : List D} {f : Nat} (tb : F[2]? = some (.tab "_law_right")) (Q : QAt F a L ls qs) (h10 : ∀ s, lk ρ 10 s = .ok (.ref a) s) (ha : argsV (sems (callF T (k + 6)) es) ρ F = .ok ds F) (hc : callF T (k + 6) f (.ref a :: ds) F = .exc ⟨1, []⟩ F) :
    (sem (callF T (k + 6)) (.lam 2 "_law_right" 4 (.mt Q0 f (.var 10) es))).v ρ F = .ok (.str wQueue) F := lam_q (k := k + 5) tb (mt16 h10 Q ha hc)
theorem lamN {ρ : Fe.Env} {es : List E} {ds : List D} {f : Nat} (tb : F[2]? = some (.tab "_law_right")) (Q : QAt F a L ls qs) (h10 : ∀ s, lk ρ 10 s = .ok (.ref a) s) (ha : argsV (sems (callF T (k + 6)) es) ρ F = .ok ds F) (hc : callF T (k + 6) f (.ref a :: ds) F = .exc ⟨2, [v]⟩ F) (hr : biRepr [v] F = .ok (.str c) F) (hl : c.length ≤ 1000) :
    (sem (callF T (k + 6)) (.lam 2 "_law_right" 4 (.mt Q0 f (.var 10) es))).v ρ F = .ok (.str (wNumber ++ c)) F := lam_n (k := k + 5) tb (mt16 h10 Q ha hc) hr (by omega)
theorem lamK {ρ : Fe.Env} {es : List E} {ds : List D} {f : Nat} (tb : F[2]? = some (.tab "_law_right")) (Q : QAt F a L ls qs) (h10 : ∀ s, lk ρ 10 s = .ok (.ref a) s) (ha : argsV (sems (callF T (k + 6)) es) ρ F = .ok ds F) (hc : callF T (k + 6) f (.ref a :: ds) F = .ok v G) :
    (sem (callF T (k + 6)) (.lam 2 "_law_right" 4 (.mt Q0 f (.var 10) es))).v ρ F = .ok (.str wFine) G := lam_ok (k := k + 5) tb (mt16 h10 Q ha hc)
theorem Base.big (B : Base s F d m a L ls qs jd ji jo ins outs) (h : t ∈ qs.flatten) : 0 ≤ t ∧ t < Big := by
  have := B.rg t h
  unfold Big
  omega
theorem Drawn.to (h : Drawn G d m qs task new odd far fc non lev pl) (f : Fr G H [d]) : Drawn H d m qs task new odd far fc non lev pl :=
  ⟨h.hTask, h.hNew, fun K hK => h.hOdd K (f.trans hK), fun j e => Nat.lt_of_lt_of_le (h.hOddj j e) f.len, fun K hK => h.hFar K (f.trans hK), h.hFcl, fun K hK => h.hRep K (f.trans hK), fun K hK => h.hNon K (f.trans hK), h.hLv, h.hPl⟩
theorem Drawn.nb (h : Drawn G d m qs task new odd far fc non lev pl) : 0 ≤ new ∧ new < Big ∧ qs.any (·.contains new) = false := by
  obtain ⟨h1, h2, h3⟩ := h.hNew
  refine ⟨h1, by unfold Big; omega, ?_⟩
  rw [any_flat]
  simpa using h3
theorem Drawn.tb (h : Drawn G d m qs task new odd far fc non lev pl) : qs.any (·.contains task) = true := by
  rw [any_flat]
  simpa using h.hTask
/-- five refusals -/
theorem group1 (B : Base s G d m a L ls qs jd ji jo ins outs) (D' : Drawn G d m qs task new odd far fc non lev pl) (tb : G[2]? = some (.tab "_law_right")) :
    ∃ H j, execs (callF T (k + 6)) (b2.drop 10) (Eg d m jd ji jo odd far non none none a n task new lev pl) G = execs (callF T (k + 6)) (b2.drop 16) (Eg d m jd ji jo odd far non (some (.ref j)) none a n task new lev pl) H ∧ Fr G H [d] ∧ Dice H d := by
  have fr : ∀ ws : List (List Nat), Fr G (G ++ [O.lst (ws.map D.str)]) [d] := fun ws => (Fr.refl G [d]).app
  have QQ : ∀ ws : List (List Nat), QAt (G ++ [O.lst (ws.map D.str)]) a L ls qs := fun ws => B.Q.app
  have tt : ∀ ws : List (List Nat), (G ++ [O.lst (ws.map D.str)])[2]? = some (.tab "_law_right") := fun ws => at_app tb
  obtain ⟨t0, t1⟩ := B.big D'.hTask
  have c1 : (sem (callF T (k + 6)) (.lam 2 "_law_right" 4 (.mt Q0 16 (.var 10) [(.var 5), (.var 14), (.var 15)]))).v (Eg d m jd ji jo odd far non none none a n task new lev pl) G = .ok (.str wQueue) G :=
    lamQ tb B.Q (fun _ => rfl) (ds := [odd, .int lev, .str pl]) rfl (entO (k := k + 2) (D'.hOdd G (Fr.refl G [d])))
  have c2 : ∀ ws : List (List Nat), (sem (callF T (k + 6)) (.lam 2 "_law_right" 4 (.mt Q0 16 (.var 10) [(.var 5), (.var 6), (.var 7)]))).v (Eg d m jd ji jo odd far non (some (.ref G.length)) none a n task new lev pl) (G ++ [O.lst (ws.map D.str)]) = .ok (.str wQueue) (G ++ [O.lst (ws.map D.str)]) := fun ws =>
    lamQ (tt ws) (QQ ws) (fun _ => rfl) (ds := [odd, far, non]) rfl (entO' (k := k + 2) (D'.hOdd _ (fr ws)))
  have c3 : ∀ ws : List (List Nat), (sem (callF T (k + 6)) (.lam 2 "_law_right" 4 (.mt Q0 16 (.var 10) [(.var 12), (.var 14), (.var 15)]))).v (Eg d m jd ji jo odd far non (some (.ref G.length)) none a n task new lev pl) (G ++ [O.lst (ws.map D.str)]) = .ok (.str wQueue) (G ++ [O.lst (ws.map D.str)]) := fun ws =>
    lamQ (tt ws) (QQ ws) (fun _ => rfl) (ds := [.int task, .int lev, .str pl]) rfl (entI (k := k + 2) (QQ ws) t0 t1 D'.tb)
  have c4 : ∀ ws : List (List Nat), (sem (callF T (k + 6)) (.lam 2 "_law_right" 4 (.mt Q0 16 (.var 10) [(.var 12), (.var 6), (.var 15)]))).v (Eg d m jd ji jo odd far non (some (.ref G.length)) none a n task new lev pl) (G ++ [O.lst (ws.map D.str)]) = .ok (.str wQueue) (G ++ [O.lst (ws.map D.str)]) := fun ws =>
    lamQ (tt ws) (QQ ws) (fun _ => rfl) (ds := [.int task, far, .str pl]) rfl (entI (k := k + 2) (QQ ws) t0 t1 D'.tb)
  have c5 : ∀ ws : List (List Nat), (sem (callF T (k + 6)) (.lam 2 "_law_right" 4 (.mt Q0 16 (.var 10) [(.var 13), (.var 14), (.var 7)]))).v (Eg d m jd ji jo odd far non (some (.ref G.length)) none a n task new lev pl) (G ++ [O.lst (ws.map D.str)]) = .ok (.str wQueue) (G ++ [O.lst (ws.map D.str)]) := fun ws =>
    lamQ (tt ws) (QQ ws) (fun _ => rfl) (ds := [.int new, .int lev, non]) rfl (entP (k := k + 2) (QQ ws) D'.nb.1 D'.nb.2.1 D'.nb.2.2 (by rw [B.lm]; exact D'.hLv) (D'.hNon _ (fr ws)))
  have ck := told_same (k := k + 6) (F := G ++ [O.lst (([wQueue] ++ [wQueue] ++ [wQueue] ++ [wQueue] ++ [wQueue]).map D.str)]) (ρ := Eg d m jd ji jo odd far non (some (.ref G.length)) none a n task new lev pl) (e := .str wQueue) (w := wQueue) (j := G.length) (m := 5) (by decide) at_end rfl (fun _ => rfl) rfl
  have ck' : (sem (callF T (k + 6)) (.cmp .ne (.var 8) (.bin .mul (.lst [(.str [113, 117, 101, 117, 101])]) (.int 5)))).t (Eg d m jd ji jo odd far non (some (.ref G.length)) none a n task new lev pl) (G ++ [O.lst (([wQueue] ++ [wQueue] ++ [wQueue] ++ [wQueue] ++ [wQueue]).map D.str)]) = .ok false _ := ck
  refine ⟨_, G.length, ?_, ((fr _).app).app, ((B.dice.app (g := [O.lst (([wQueue] ++ [wQueue] ++ [wQueue] ++ [wQueue] ++ [wQueue]).map D.str)])).app (g := [O.lst [D.str wQueue]])).app (g := [O.lst (([wQueue] ++ [wQueue] ++ [wQueue] ++ [wQueue] ++ [wQueue]).map D.str)])⟩
  show execs (callF T (k + 6)) (_ :: _ :: _ :: _ :: _ :: _ :: b2.drop 16) _ _ = _
  rw [x_cons, told_set c1]
  simp only [List.set_cons_succ, List.set_cons_zero]
  rw [seq_nx, x_cons, told_more (fun _ => rfl) (c2 _) (by simp), seq_nx, x_cons, told_more (fun _ => rfl) (c3 _) (by simp), seq_nx, x_cons, told_more (fun _ => rfl) (c4 _) (by simp), seq_nx, x_cons, told_more (fun _ => rfl) (c5 _) (by simp), seq_nx, x_cons, x_ite, ck', lift_ok, if_neg (by decide), x_nil, seq_nx]
/-- three refusals with a number -/
theorem group2 (B : Base s G d m a L ls qs jd ji jo ins outs) (D' : Drawn G d m qs task new odd far fc non lev pl) (tb : G[2]? = some (.tab "_law_right")) :
    ∃ H j, execs (callF T (k + 6)) (b2.drop 16) (Eg d m jd ji jo odd far non x8 none a n task new lev pl) G = execs (callF T (k + 6)) (b2.drop 20) (Eg d m jd ji jo odd far non (some (.ref j)) none a n task new lev pl) H ∧ Fr G H [d] ∧ Dice H d := by
  have fr : ∀ ws : List (List Nat), Fr G (G ++ [O.lst (ws.map D.str)]) [d] := fun ws => (Fr.refl G [d]).app
  have QQ : ∀ ws : List (List Nat), QAt (G ++ [O.lst (ws.map D.str)]) a L ls qs := fun ws => B.Q.app
  have tt : ∀ ws : List (List Nat), (G ++ [O.lst (ws.map D.str)])[2]? = some (.tab "_law_right") := fun ws => at_app tb
  obtain ⟨n0, n1, n2⟩ := D'.nb
  have nb : ∀ K, Fr G K [d] → NoB T q16 K far ls.length := fun K hK => by rw [B.lm]; exact D'.hFar K hK
  have c1 : (sem (callF T (k + 6)) (.lam 2 "_law_right" 4 (.mt Q0 16 (.var 10) [(.var 13), (.var 6), (.var 15)]))).v (Eg d m jd ji jo odd far non x8 none a n task new lev pl) G = .ok (.str (wNumber ++ fc)) G :=
    lamN tb B.Q (fun _ => rfl) (ds := [.int new, far, .str pl]) rfl (entF_ (k := k + 2) B.Q n0 n1 n2 (nb G (Fr.refl G [d]))) (D'.hRep G (Fr.refl G [d])) D'.hFcl
  have c2 : ∀ ws : List (List Nat), (sem (callF T (k + 6)) (.lam 2 "_law_right" 4 (.mt Q0 16 (.var 10) [(.var 13), (.var 6), (.var 7)]))).v (Eg d m jd ji jo odd far non (some (.ref G.length)) none a n task new lev pl) (G ++ [O.lst (ws.map D.str)]) = .ok (.str (wNumber ++ fc)) (G ++ [O.lst (ws.map D.str)]) := fun ws =>
    lamN (tt ws) (QQ ws) (fun _ => rfl) (ds := [.int new, far, non]) rfl (entF_ (k := k + 2) (QQ ws) n0 n1 n2 (nb _ (fr ws))) (D'.hRep _ (fr ws)) D'.hFcl
  have c3 : ∀ ws : List (List Nat), (sem (callF T (k + 6)) (.lam 2 "_law_right" 4 (.oix Q0 9 (.var 10) (.var 6)))).v (Eg d m jd ji jo odd far non (some (.ref G.length)) none a n task new lev pl) (G ++ [O.lst (ws.map D.str)]) = .ok (.str (wNumber ++ fc)) (G ++ [O.lst (ws.map D.str)]) := fun ws => by
    have e : (sem (callF T (k + 6)) (.oix Q0 9 (.var 10) (.var 6))).v (Eg d m jd ji jo odd far non (some (.ref G.length)) none a n task new lev pl) (G ++ [O.lst (ws.map D.str)]) = .exc ⟨2, [far]⟩ (G ++ [O.lst (ws.map D.str)]) := by
      rw [v_oix]
      show (Out.ok (D.ref a) (G ++ [O.lst (ws.map D.str)])).bind _ = _
      rw [bind_ok]
      show (Out.ok far (G ++ [O.lst (ws.map D.str)])).bind _ = _
      rw [bind_ok, if_pos (cl16 (QQ ws))]
      exact getF_ (k := k + 3) (QQ ws) (nb _ (fr ws))
    exact lam_n (k := k + 5) (tt ws) e (D'.hRep _ (fr ws)) (by have := D'.hFcl; omega)
  have rp : ∀ F, Fr G F [d] → (sem (callF T (k + 6)) (.bin .add (.str [110, 117, 109, 98, 101, 114, 32]) (.bi .repr [(.var 6)]))).v (Eg d m jd ji jo odd far non (some (.ref G.length)) none a n task new lev pl) F = .ok (.str (wNumber ++ fc)) F := fun F hF => by
    have ad : opAdd (.str wNumber) (.str fc) F = .ok (.str (wNumber ++ fc)) F := by
      have := D'.hFcl
      show (if wNumber.length + fc.length ≤ line then _ else _) = _
      rw [if_pos (by simp; unfold line; omega)]
    have a1 : argsV (sems (callF T (k + 6)) [(.var 6)]) (Eg d m jd ji jo odd far non (some (.ref G.length)) none a n task new lev pl) F = .ok [far] F := rfl
    rw [v_bin, v_str, bind_ok, v_bi, a1, bind_ok]
    show (biRepr [far] F).bind _ = _
    rw [D'.hRep F hF, bind_ok]
    exact ad
  have ck := told_same (k := k + 6) (F := G ++ [O.lst (([wNumber ++ fc] ++ [wNumber ++ fc] ++ [wNumber ++ fc]).map D.str)]) (ρ := Eg d m jd ji jo odd far non (some (.ref G.length)) none a n task new lev pl) (e := .bin .add (.str [110, 117, 109, 98, 101, 114, 32]) (.bi .repr [(.var 6)])) (w := wNumber ++ fc) (j := G.length) (m := 3) (by decide) at_end rfl (fun _ => rfl) (rp _ (fr _))
  have ck' : (sem (callF T (k + 6)) (.cmp .ne (.var 8) (.bin .mul (.lst [(.bin .add (.str [110, 117, 109, 98, 101, 114, 32]) (.bi .repr [(.var 6)]))]) (.int 3)))).t (Eg d m jd ji jo odd far non (some (.ref G.length)) none a n task new lev pl) (G ++ [O.lst (([wNumber ++ fc] ++ [wNumber ++ fc] ++ [wNumber ++ fc]).map D.str)]) = .ok false _ := ck
  refine ⟨_, G.length, ?_, ((fr _).app).app, ((B.dice.app (g := [O.lst (([wNumber ++ fc] ++ [wNumber ++ fc] ++ [wNumber ++ fc]).map D.str)])).app (g := [O.lst [D.str (wNumber ++ fc)]])).app (g := [O.lst (([wNumber ++ fc] ++ [wNumber ++ fc] ++ [wNumber ++ fc]).map D.str)])⟩
  show execs (callF T (k + 6)) (_ :: _ :: _ :: _ :: b2.drop 20) _ _ = _
  rw [x_cons, told_set c1]
  simp only [List.set_cons_succ, List.set_cons_zero]
  rw [seq_nx, x_cons, told_more (fun _ => rfl) (c2 _) (by simp), seq_nx, x_cons, told_more (fun _ => rfl) (c3 _) (by simp), seq_nx, x_cons, x_ite, ck', lift_ok, if_neg (by decide), x_nil, seq_nx]
/-- the queues as they were -/
theorem same16 (B : Base s G d m a L ls qs jd ji jo ins outs) {x8 x9 : Option D} : ∃ g, (sem (callF T (k + 6)) (.cmp .ne (.lc (.oix Q0 9 (.var 10) (.var 17)) (.nm 17) (.rng [(.var 1)]) .no [17]) (.var 2))).t (Eg d m jd ji jo odd far non x8 x9 a n task new lev pl) G = .ok false (G ++ g) := by
  have m3 := B.m3
  have src : (sem (callF T (k + 6)) (.rng [(.var 1)])).i (Eg d m jd ji jo odd far non x8 x9 a n task new lev pl) G = .ok ⟨rangeD 0 m, none⟩ G := rng_src (N := m) rfl (by omega)
  have lc := lcV_zip (t := (sem (callF T (k + 6)) .no).t) (e := (sem (callF T (k + 6)) (.oix Q0 9 (.var 10) (.var 17))).v) (bind := bnd (.nm 17)) (own := [17]) (ys := qs.map fun z => D.tup (iD z)) src (fun i l e => nomatch e) (by show (rangeD 0 m).length ≤ line; rw [rangeD_len]; unfold line; omega) (by show (rangeD 0 m).length = _; rw [rangeD_len, List.length_map, ← B.Q.len, B.lm]) (fun i x y hx hy acc => by
    obtain ⟨hi, rfl⟩ := rangeD0 hx
    rw [List.getElem?_map] at hy
    obtain ⟨z, hz, rfl⟩ := Option.map_eq_some_iff.mp hy
    refine ⟨(Eg d m jd ji jo odd far non x8 x9 a n task new lev pl).set 17 (some (.int (i : Int))), rfl, rfl, ?_⟩
    have Q2 := B.Q.app (g := [.lst acc])
    rw [v_oix]
    show (Out.ok (D.ref a) (G ++ [O.lst acc])).bind _ = _
    rw [bind_ok]
    show (Out.ok (D.int (i : Int)) (G ++ [O.lst acc])).bind _ = _
    rw [bind_ok, if_pos (cl16 Q2)]
    exact get16 (k := k + 3) Q2 hz)
  refine ⟨[O.lst (qs.map fun z => D.tup (iD z))], ?_⟩
  have lk2 : ∀ s, lk (Eg d m jd ji jo odd far non x8 x9 a n task new lev pl) 2 s = .ok (.ref jd) s := fun _ => rfl
  rw [t_cmp, v_lc, lc, bind_ok, v_var, lk2, bind_ok]
  show asB (opNe (.ref G.length) (.ref jd) (G ++ [O.lst (qs.map fun z => D.tup (iD z))])) = _
  rw [ne_lstT (qs := qs) getL_end (getL_app (getL_lst B.due))]
  rfl
/-- five refusals more -/
theorem group3 (B : Base s G d m a L ls qs jd ji jo ins outs) (D' : Drawn G d m qs task new odd far fc non lev pl) (tb : G[2]? = some (.tab "_law_right")) :
    ∃ H j away, execs (callF T (k + 6)) (b2.drop 20) (Eg d m jd ji jo odd far non x8 none a n task new lev pl) G = execs (callF T (k + 6)) (b2.drop 27) (Eg d m jd ji jo odd far non (some (.ref j)) (some away) a n task new lev pl) H ∧ Fr G H [d] ∧ Dice H d := by
  obtain ⟨away, ha, o1, d1, e1⟩ := pickL (k := k + 4) (F := G) (F1 := G) (d := d) (es := [(.var 5), (.var 13)]) (ds := [odd, .int new]) (ρ := Eg d m jd ji jo odd far non x8 none a n task new lev pl) (fun _ => rfl) rfl B.dice (by simp) (by simp) (fun x hx j e => by
    subst e
    simp at hx
    exact D'.hOddj j hx.symm)
  have f1 : Fr G ((G ++ [O.lst [odd, .int new]]).set d o1) [d] := ((Fr.refl G [d]).app).set List.mem_cons_self
  have B1 := B.to f1 d1
  have D1 := D'.to f1
  have tb1 : ((G ++ [O.lst [odd, .int new]]).set d o1)[2]? = some (.tab "_law_right") := by
    by_cases e : d = 2
    · subst e
      obtain ⟨a, b, c, e⟩ := B.dice
      rw [tb] at e
      cases e
    · rw [List.getElem?_set_ne e]; exact at_app tb
  generalize hG1 : (G ++ [O.lst [odd, .int new]]).set d o1 = G1 at *
  have no : ∀ K, Fr G1 K [d] → ∀ k, callF T (k + 3) 15 [.ref a, away] K = .ok (.bl false) K := fun K hK k => by
    simp at ha
    rcases ha with rfl | rfl
    · exact conO (D1.hOdd K hK)
    · have Q2 := B1.Q.fr hK (fun x hx => B1.ne (by
        rcases List.mem_cons.mp hx with e | hx
        · rw [e]; exact List.mem_cons_self
        · rcases List.mem_cons.mp hx with e | hx
          · rw [e]; simp
          · simp [hx]))
      rw [con16 Q2 D1.nb.1 D1.nb.2.1, D1.nb.2.2]
  have fr : ∀ ws : List (List Nat), Fr G1 (G1 ++ [O.lst (ws.map D.str)]) [d] := fun ws => (Fr.refl G1 [d]).app
  have QQ : ∀ ws : List (List Nat), QAt (G1 ++ [O.lst (ws.map D.str)]) a L ls qs := fun ws => B1.Q.app
  have tt : ∀ ws : List (List Nat), (G1 ++ [O.lst (ws.map D.str)])[2]? = some (.tab "_law_right") := fun ws => at_app tb1
  have no' : ∀ (ws : List (List Nat)) (k : Nat) (g : Fe.S), callF T (k + 3) 15 [.ref a, away] (G1 ++ [O.lst (ws.map D.str)] ++ g) = .ok (.bl false) (G1 ++ [O.lst (ws.map D.str)] ++ g) := fun ws k g => no _ (fr ws).app k
  obtain ⟨t0, t1⟩ := B.big D'.hTask
  obtain ⟨i, lv⟩ := lv_ex D'.hTask
  obtain ⟨z, hz, hm⟩ := lv.1
  obtain ⟨nn, fx, _⟩ := findI_mem hm
  have c1 : (sem (callF T (k + 6)) (.lam 2 "_law_right" 4 (.mt Q0 17 (.var 10) [(.var 9)]))).v (Eg d m jd ji jo odd far non x8 (some away) a n task new lev pl) G1 = .ok (.str wQueue) G1 :=
    lamQ tb1 B1.Q (fun _ => rfl) (ds := [away]) rfl (leaN (k := k + 1) B1.Q (no G1 (Fr.refl G1 [d])))
  have c2 : ∀ ws : List (List Nat), (sem (callF T (k + 6)) (.lam 2 "_law_right" 4 (.mt Q0 18 (.var 10) [(.var 9)]))).v (Eg d m jd ji jo odd far non (some (.ref G1.length)) (some away) a n task new lev pl) (G1 ++ [O.lst (ws.map D.str)]) = .ok (.str wQueue) (G1 ++ [O.lst (ws.map D.str)]) := fun ws =>
    lamQ (tt ws) (QQ ws) (fun _ => rfl) (ds := [away]) rfl (levN (k := k + 2) (QQ ws) (no _ (fr ws)))
  have c3 : ∀ ws : List (List Nat), (sem (callF T (k + 6)) (.lam 2 "_law_right" 4 (.mt Q0 19 (.var 10) [(.var 9), (.var 12)]))).v (Eg d m jd ji jo odd far non (some (.ref G1.length)) (some away) a n task new lev pl) (G1 ++ [O.lst (ws.map D.str)]) = .ok (.str wQueue) (G1 ++ [O.lst (ws.map D.str)]) := fun ws =>
    lamQ (tt ws) (QQ ws) (fun _ => rfl) (ds := [away, .int task]) rfl (ahaN1 (k := k + 1) (QQ ws) (no' ws))
  have c4 : ∀ ws : List (List Nat), (sem (callF T (k + 6)) (.lam 2 "_law_right" 4 (.mt Q0 19 (.var 10) [(.var 12), (.var 9)]))).v (Eg d m jd ji jo odd far non (some (.ref G1.length)) (some away) a n task new lev pl) (G1 ++ [O.lst (ws.map D.str)]) = .ok (.str wQueue) (G1 ++ [O.lst (ws.map D.str)]) := fun ws =>
    lamQ (tt ws) (QQ ws) (fun _ => rfl) (ds := [.int task, away]) rfl (ahaN2 (k := k + 1) (QQ ws) t0 t1 lv hz fx (no' ws))
  have c5 : ∀ ws : List (List Nat), (sem (callF T (k + 6)) (.lam 2 "_law_right" 4 (.mt Q0 19 (.var 10) [(.var 9), (.var 5)]))).v (Eg d m jd ji jo odd far non (some (.ref G1.length)) (some away) a n task new lev pl) (G1 ++ [O.lst (ws.map D.str)]) = .ok (.str wQueue) (G1 ++ [O.lst (ws.map D.str)]) := fun ws =>
    lamQ (tt ws) (QQ ws) (fun _ => rfl) (ds := [away, odd]) rfl (ahaN1 (k := k + 1) (QQ ws) (no' ws))
  have ck := told_same (k := k + 6) (F := G1 ++ [O.lst (([wQueue] ++ [wQueue] ++ [wQueue] ++ [wQueue] ++ [wQueue]).map D.str)]) (ρ := Eg d m jd ji jo odd far non (some (.ref G1.length)) (some away) a n task new lev pl) (e := .str wQueue) (w := wQueue) (j := G1.length) (m := 5) (by decide) at_end rfl (fun _ => rfl) rfl
  have ck' : (sem (callF T (k + 6)) (.cmp .ne (.var 8) (.bin .mul (.lst [(.str [113, 117, 101, 117, 101])]) (.int 5)))).t (Eg d m jd ji jo odd far non (some (.ref G1.length)) (some away) a n task new lev pl) (G1 ++ [O.lst (([wQueue] ++ [wQueue] ++ [wQueue] ++ [wQueue] ++ [wQueue]).map D.str)]) = .ok false _ := ck
  obtain ⟨G2, hG2⟩ : ∃ G2 : Fe.S, G2 = G1 ++ [O.lst (([wQueue] ++ [wQueue] ++ [wQueue] ++ [wQueue] ++ [wQueue]).map D.str)] ++ [O.lst [D.str wQueue]] ++ [O.lst (([wQueue] ++ [wQueue] ++ [wQueue] ++ [wQueue] ++ [wQueue]).map D.str)] := ⟨_, rfl⟩
  rw [← hG2] at ck'
  have f2 : Fr G1 G2 [d] := by rw [hG2]; exact (fr _).app.app
  have d2 : Dice G2 d := by rw [hG2]; exact B1.dice.app.app.app
  obtain ⟨g, sm⟩ := same16 (k := k) (odd := odd) (far := far) (non := non) (n := n) (task := task) (new := new) (lev := lev) (pl := pl) (x8 := some (.ref G1.length)) (x9 := some away) (B1.to f2 d2)
  refine ⟨G2 ++ g, G1.length, away, ?_, (f1.trans f2).app, d2.app⟩
  show execs (callF T (k + 6)) (_ :: _ :: _ :: _ :: _ :: _ :: _ :: b2.drop 27) _ _ = _
  rw [x_cons, x_set, e1, lift_ok]
  simp only [List.set_cons_succ, List.set_cons_zero]
  rw [seq_nx, x_cons, told_set c1]
  simp only [List.set_cons_succ, List.set_cons_zero]
  rw [seq_nx, x_cons, told_more (fun _ => rfl) (c2 _) (by simp), seq_nx, x_cons, told_more (fun _ => rfl) (c3 _) (by simp), seq_nx, x_cons, told_more (fun _ => rfl) (c4 _) (by simp), seq_nx, x_cons, told_more (fun _ => rfl) (c5 _) (by simp), seq_nx, x_cons, x_ite, t_or, sems_cons, sems_cons, sems_nil, orT_2, ck', bind_ok, if_neg (by decide), orT_1, sm, lift_ok, if_neg (by decide), x_nil, seq_nx]
end
end K16

set_option maxHeartbeats 4000000
namespace K16
open Fe
open L2 (atI ixN)
section
variable {k : Nat} {s s' F F1 G H g : Fe.S} {d p a L n m N jd ji jo lev : Nat} {ls rs X : List Nat} {ins outs : List Int} {qs : List (List Int)} {ns : List Int} {t x y task new : Int} {i : Nat} {z w : List Int} {v u odd far non : D} {c fc pl : List Nat} {x8 x9 : Option D}
theorem Fr.hi {o : O} (h : Fr s F X) (hi : s.length ≤ i) : Fr s (F.set i o) X := ⟨by rw [List.length_set]; exact h.len, fun j hj hx => by
  rw [List.getElem?_set_ne (by omega)]; exact h.eq j hj hx⟩
theorem erase_flat (hz : qs[i]? = some z) (ht : t ∈ z) : qs.flatten.Perm (t :: (qs.set i (z.erase t)).flatten) := by
  obtain ⟨A, B, h1, h2⟩ := flat_set hz
  rw [h1, h2]
  have p1 : (z ++ B).Perm (t :: (z.erase t ++ B)) := (List.perm_cons_erase ht).append_right B
  exact (p1.append_left A).trans List.perm_middle
theorem aha_mem (Q : QAt F a L ls qs) (bd : ∀ t ∈ qs.flatten, 0 ≤ t ∧ t < Big) (hx : x ∈ qs.flatten) (hy : y ∈ qs.flatten) : ∃ v, callF T (k + 5) 19 [.ref a, .int x, .int y] F = .ok v F := by
  obtain ⟨u, lx⟩ := lv_ex hx
  obtain ⟨v, ly⟩ := lv_ex hy
  obtain ⟨z, hz, mz⟩ := lx.1
  obtain ⟨w, hw, mw⟩ := ly.1
  obtain ⟨n, fn, _⟩ := findI_mem mz
  obtain ⟨m, fm, _⟩ := findI_mem mw
  exact ⟨_, aha16 Q (bd x hx).1 (bd x hx).2 (bd y hy).1 (bd y hy).2 lx ly hz hw fn fm⟩
/-- what was refused is done -/
theorem group4 (B : Base s G d m a L ls qs jd ji jo ins outs) (D' : Drawn G d m qs task new odd far fc non lev pl) (tb : G[2]? = some (.tab "_law_right")) (h2 : 2 < s.length) :
    ∃ H, execs (callF T (k + 6)) (b2.drop 27) (Eg d m jd ji jo odd far non x8 x9 a n task new lev pl) G = .rt (.bl true) H ∧ Fr s H [d] ∧ Dice H d := by
  obtain ⟨t0, t1⟩ := B.big D'.hTask
  obtain ⟨n0, n1, n2⟩ := D'.nb
  have lsl : ∀ l ∈ ls, s.length ≤ l ∧ l < G.length := fun l hl => ⟨B.ap l (by simp [hl]), B.Q.lts l (by simp [hl])⟩
  have dl := B.dl
  have fl8 : qs.flatten.length ≤ 8 := nodup_le 8 _ B.nd B.rg
  have frl := B.fr.len
  -- leave
  obtain ⟨i, lv⟩ := lv_ex D'.hTask
  obtain ⟨z, hz, hm⟩ := lv.1
  obtain ⟨l1, hl1, hs1, _⟩ := B.Q.get_ hz
  obtain ⟨lo1, hi1⟩ := lsl l1 (List.mem_of_getElem? hl1)
  have e1 := lea16 (k := k + 1) B.Q t0 t1 lv hz hl1
  have Q1 := B.Q.upd (z := z.erase task) hl1
  have pm1 := erase_flat hz hm
  obtain ⟨qs1, hq1⟩ : ∃ qs1, qs1 = qs.set i (z.erase task) := ⟨_, rfl⟩
  rw [← hq1] at Q1 pm1
  have nd1 : (task :: qs1.flatten).Nodup := pm1.nodup_iff.mp B.nd
  obtain ⟨tn, nd1'⟩ := List.nodup_cons.mp nd1
  have len1 : qs1.flatten.length + 1 = qs.flatten.length := by
    have := pm1.length_eq
    rw [List.length_cons] at this
    omega
  obtain ⟨F1, hF1⟩ : ∃ F1 : Fe.S, F1 = G.set l1 (.lst (iD (z.erase task))) := ⟨_, rfl⟩
  rw [← hF1] at e1 Q1
  have lF1 : F1.length = G.length := by rw [hF1, List.length_set]
  have tb1 : F1[2]? = some (.tab "_law_right") := by rw [hF1, List.getElem?_set_ne (by omega)]; exact tb
  have dF1 : Dice F1 d := by
    obtain ⟨a, b, c, e⟩ := B.dice
    exact ⟨a, b, c, by rw [hF1, List.getElem?_set_ne (by omega)]; exact e⟩
  have fr1 : Fr s F1 [d] := by rw [hF1]; exact Fr.hi B.fr lo1
  have in1 : F1[ji]? = some (.lst (iD ins)) := by
    rw [hF1, List.getElem?_set_ne (fun (e : l1 = ji) => B.jn.2 (e ▸ List.mem_of_getElem? hl1))]
    exact B.inj
  have c1 : (sem (callF T (k + 6)) (.lam 2 "_law_right" 4 (.mt Q0 17 (.var 10) [(.var 12)]))).v (Eg d m jd ji jo odd far non x8 x9 a n task new lev pl) G = .ok (.str wFine) F1 :=
    lamK tb B.Q (fun _ => rfl) (ds := [.int task]) rfl e1
  obtain ⟨j, hj⟩ : ∃ j : Nat, j = G.length := ⟨_, rfl⟩
  obtain ⟨F2, hF2⟩ : ∃ F2 : Fe.S, F2 = F1 ++ [O.lst ([wFine].map D.str)] := ⟨_, rfl⟩
  have t2 : F2[j]? = some (.lst ([wFine].map D.str)) := by rw [hF2, hj, ← lF1]; exact at_end
  have Q2 : QAt F2 a L ls qs1 := by rw [hF2]; exact Q1.app
  -- enter task
  have no1 : qs1.any (·.contains task) = false := by rw [any_flat]; simpa using tn
  have hq : lev < qs1.length := by rw [← Q1.len, B.lm]; exact D'.hLv
  have hz2 : qs1[lev]? = some qs1[lev] := List.getElem?_eq_getElem hq
  obtain ⟨l2, hl2, _, _⟩ := Q2.get_ hz2
  obtain ⟨lo2, hi2⟩ := lsl l2 (List.mem_of_getElem? hl2)
  have zl : (qs1[lev]).length ≤ 1000 := by
    have := (List.sublist_flatten_of_mem (List.getElem_mem hq)).length_le
    omega
  have e2 := ent16 (k := k + 2) Q2 t0 t1 no1 D'.hPl hz2 hl2 zl
  have Q3 := Q2.upd (z := putV pl qs1[lev] task) hl2
  have pm2 := put_perm (c := pl) (t := task) hz2
  obtain ⟨qs2, hq2⟩ : ∃ qs2, qs2 = qs1.set lev (putV pl qs1[lev] task) := ⟨_, rfl⟩
  rw [← hq2] at Q3 pm2
  have len2 : qs2.flatten.length = qs.flatten.length := by
    have := pm2.length_eq
    rw [List.length_cons] at this
    omega
  obtain ⟨F3, hF3⟩ : ∃ F3 : Fe.S, F3 = F2.set l2 (.lst (iD (putV pl qs1[lev] task))) := ⟨_, rfl⟩
  rw [← hF3] at e2 Q3
  have tb2 : F2[2]? = some (.tab "_law_right") := by rw [hF2]; exact at_app tb1
  have c2 : (sem (callF T (k + 6)) (.lam 2 "_law_right" 4 (.mt Q0 16 (.var 10) [(.var 12), (.var 14), (.var 15)]))).v (Eg d m jd ji jo odd far non (some (.ref j)) x9 a n task new lev pl) F2 = .ok (.str wFine) F3 :=
    lamK tb2 Q2 (fun _ => rfl) (ds := [.int task, .int lev, .str pl]) rfl e2
  have t3 : F3[j]? = some (.lst ([wFine].map D.str)) := by rw [hF3, List.getElem?_set_ne (by omega)]; exact t2
  obtain ⟨F4, hF4⟩ : ∃ F4 : Fe.S, F4 = F3.set j (.lst (([wFine] ++ [wFine]).map D.str)) := ⟨_, rfl⟩
  have nj : j ∉ a :: L :: ls := fun hx => by have := B.Q.lts j hx; omega
  have Q4 : QAt F4 a L ls qs2 := by rw [hF4]; exact Q3.set_ne nj
  have t4 : F4[j]? = some (.lst (([wFine] ++ [wFine]).map D.str)) := by rw [hF4]; exact List.getElem?_set_self (at_lt t3)
  have tb4 : F4[2]? = some (.tab "_law_right") := by rw [hF4, List.getElem?_set_ne (by omega), hF3, List.getElem?_set_ne (by omega)]; exact tb2
  -- enter new
  have nn : new ∉ qs2.flatten := fun hx => by
    have h3 := pm2.mem_iff.mp hx
    have h4 := pm1.mem_iff.mpr h3
    exact D'.hNew.2.2 h4
  have no2 : qs2.any (·.contains new) = false := by rw [any_flat]; simpa using nn
  have hqq : lev < qs2.length := by rw [← Q3.len, B.lm]; exact D'.hLv
  have hz3 : qs2[lev]? = some qs2[lev] := List.getElem?_eq_getElem hqq
  obtain ⟨l3, hl3, _, _⟩ := Q4.get_ hz3
  obtain ⟨lo3, hi3⟩ := lsl l3 (List.mem_of_getElem? hl3)
  have zl3 : (qs2[lev]).length ≤ 1000 := by
    have := (List.sublist_flatten_of_mem (List.getElem_mem hqq)).length_le
    omega
  have e3 := ent16 (k := k + 2) Q4 n0 n1 no2 D'.hPl hz3 hl3 zl3
  have Q5 := Q4.upd (z := putV pl qs2[lev] new) hl3
  have pm3 := put_perm (c := pl) (t := new) hz3
  obtain ⟨qs3, hq3⟩ : ∃ qs3, qs3 = qs2.set lev (putV pl qs2[lev] new) := ⟨_, rfl⟩
  rw [← hq3] at Q5 pm3
  have len3 : qs3.flatten.length = qs.flatten.length + 1 := by
    have := pm3.length_eq
    rw [List.length_cons] at this
    omega
  obtain ⟨F5, hF5⟩ : ∃ F5 : Fe.S, F5 = F4.set l3 (.lst (iD (putV pl qs2[lev] new))) := ⟨_, rfl⟩
  rw [← hF5] at e3 Q5
  have c3 : (sem (callF T (k + 6)) (.lam 2 "_law_right" 4 (.mt Q0 16 (.var 10) [(.var 13), (.var 14), (.var 15)]))).v (Eg d m jd ji jo odd far non (some (.ref j)) x9 a n task new lev pl) F4 = .ok (.str wFine) F5 :=
    lamK tb4 Q4 (fun _ => rfl) (ds := [.int new, .int lev, .str pl]) rfl e3
  have t5 : F5[j]? = some (.lst (([wFine] ++ [wFine]).map D.str)) := by rw [hF5, List.getElem?_set_ne (by omega)]; exact t4
  obtain ⟨F6, hF6⟩ : ∃ F6 : Fe.S, F6 = F5.set j (.lst (([wFine] ++ [wFine] ++ [wFine]).map D.str)) := ⟨_, rfl⟩
  have Q6 : QAt F6 a L ls qs3 := by rw [hF6]; exact Q5.set_ne nj
  have t6 : F6[j]? = some (.lst (([wFine] ++ [wFine] ++ [wFine]).map D.str)) := by rw [hF6]; exact List.getElem?_set_self (at_lt t5)
  have tb6 : F6[2]? = some (.tab "_law_right") := by rw [hF6, List.getElem?_set_ne (by omega), hF5, List.getElem?_set_ne (by omega)]; exact tb4
  -- ahead
  have m3 : ∀ t, t ∈ qs3.flatten → 0 ≤ t ∧ t < Big := fun t ht => by
    rcases List.mem_cons.mp (pm3.mem_iff.mp ht) with e | h
    · rw [e]; exact ⟨n0, n1⟩
    · exact B.big (pm1.mem_iff.mpr (pm2.mem_iff.mp h))
  obtain ⟨v, e4⟩ := aha_mem (k := k + 1) (x := new) (y := task) Q6 m3 (pm3.mem_iff.mpr List.mem_cons_self) (pm3.mem_iff.mpr (List.mem_cons_of_mem _ (pm2.mem_iff.mpr List.mem_cons_self)))
  have c4 : (sem (callF T (k + 6)) (.lam 2 "_law_right" 4 (.mt Q0 19 (.var 10) [(.var 13), (.var 12)]))).v (Eg d m jd ji jo odd far non (some (.ref j)) x9 a n task new lev pl) F6 = .ok (.str wFine) F6 :=
    lamK tb6 Q6 (fun _ => rfl) (ds := [.int new, .int task]) rfl e4
  obtain ⟨F7, hF7⟩ : ∃ F7 : Fe.S, F7 = F6.set j (.lst (([wFine] ++ [wFine] ++ [wFine] ++ [wFine]).map D.str)) := ⟨_, rfl⟩
  have Q7 : QAt F7 a L ls qs3 := by rw [hF7]; exact Q6.set_ne nj
  have t7 : F7[j]? = some (.lst (([wFine] ++ [wFine] ++ [wFine] ++ [wFine]).map D.str)) := by rw [hF7]; exact List.getElem?_set_self (at_lt t6)
  -- the end
  have ck := told_eq (k := k + 6) (F := F7) (ρ := Eg d m jd ji jo odd far non (some (.ref j)) x9 a n task new lev pl) (e := .str wFine) (w := wFine) (j := j) (m := 4) (by decide) t7 rfl (fun _ => rfl) rfl
  have ck' : (sem (callF T (k + 6)) (.cmp .eq (.var 8) (.bin .mul (.lst [(.str [102, 105, 110, 101])]) (.int 4)))).v (Eg d m jd ji jo odd far non (some (.ref j)) x9 a n task new lev pl) F7 = .ok (.bl true) _ := ck
  obtain ⟨F8, hF8⟩ : ∃ F8 : Fe.S, F8 = F7 ++ [O.lst [D.str wFine]] ++ [O.lst (([wFine] ++ [wFine] ++ [wFine] ++ [wFine]).map D.str)] := ⟨_, rfl⟩
  rw [← hF8] at ck'
  have Q8 : QAt F8 a L ls qs3 := by rw [hF8]; exact Q7.app.app
  have in8 : F8[ji]? = some (.lst (iD ins)) := by
    have nji : ∀ l ∈ ls, l ≠ ji := fun l hl (e : l = ji) => B.jn.2 (e ▸ hl)
    have hji : ji < G.length := at_lt B.inj
    have hjj : j ≠ ji := by omega
    rw [hF8]
    refine at_app (at_app ?_)
    rw [hF7, List.getElem?_set_ne hjj, hF6, List.getElem?_set_ne hjj, hF5, List.getElem?_set_ne (nji l3 (List.mem_of_getElem? hl3)), hF4, List.getElem?_set_ne hjj, hF3, List.getElem?_set_ne (nji l2 (List.mem_of_getElem? hl2)), hF2]
    exact at_app in1
  have ol : (sem (callF T (k + 6)) (.cmp .eq (.olen Q0 8 (.var 10)) (.bin .add (.bi .len [(.var 3)]) (.int 1)))).v (Eg d m jd ji jo odd far non (some (.ref j)) x9 a n task new lev pl) F8 = .ok (.bl true) F8 := by
    have hlen : biLen [.ref ji] F8 = .ok (.int ins.length) F8 := by rw [len_lstN (getL_lst in8), List.length_map]
    have o1 : (sem (callF T (k + 6)) (.olen Q0 8 (.var 10))).v (Eg d m jd ji jo odd far non (some (.ref j)) x9 a n task new lev pl) F8 = .ok (.int qs3.flatten.length) F8 := by
      rw [v_olen]
      show (Out.ok (D.ref a) F8).bind _ = _
      rw [bind_ok, v_lenOwn, if_pos (cl16 Q8)]
      have e := len16 (k := k + 4) Q8 (by omega)
      rw [e, bind_ok]
      unfold asLen
      dsimp only
      rw [if_pos ⟨by omega, by omega⟩]
    have a1 : argsV (sems (callF T (k + 6)) [(.var 3)]) (Eg d m jd ji jo odd far non (some (.ref j)) x9 a n task new lev pl) F8 = .ok [.ref ji] F8 := rfl
    rw [v_cmp, o1, bind_ok, v_bin, v_bi, a1, bind_ok]
    show (((biLen [.ref ji] F8).bind _).bind _) = _
    rw [hlen, bind_ok, v_int, bind_ok]
    show ((opAdd (.int ins.length) (.int 1) F8).bind _) = _
    rw [add_int, bind_ok]
    show opEq (.int qs3.flatten.length) (.int (ins.length + 1)) F8 = _
    rw [eq_intI, decide_eq_true (by rw [len3, B.insl]; omega)]
  refine ⟨F8, ?_, ?_, ?_⟩
  · have x1 := told_set c1
    rw [← hF2] at x1
    have ej : F1.length = j := by rw [lF1, hj]
    rw [ej] at x1
    have x2 := told_add (fun _ => rfl) t2 c2 t3 (by decide)
    rw [← hF4] at x2
    have x3 := told_add (fun _ => rfl) t4 c3 t5 (by decide)
    rw [← hF6] at x3
    have x4 := told_add (fun _ => rfl) t6 c4 t6 (by decide)
    rw [← hF7] at x4
    show execs (callF T (k + 6)) (_ :: _ :: _ :: _ :: _ :: []) _ _ = _
    rw [x_cons, x1]
    simp only [List.set_cons_succ, List.set_cons_zero]
    rw [seq_nx, x_cons, x2, seq_nx, x_cons, x3, seq_nx, x_cons, x4, seq_nx, x_cons, x_ret, v_and, sems_cons, sems_cons, sems_nil, andV_2, ck', bind_ok, t_tru, bind_ok, if_pos rfl, andV_1, ol, lift_ok, seq_rt]
  · rw [hF8, hF7, hF6, hF5, hF4, hF3, hF2]
    have hjs : s.length ≤ j := by omega
    exact (Fr.hi (Fr.hi (Fr.hi (Fr.hi (Fr.hi fr1.app lo2) hjs) lo3) hjs) hjs).app.app
  · have dF2 : Dice F2 d := by rw [hF2]; exact dF1.app
    obtain ⟨a, b, c, e⟩ := dF2
    have dj : j ≠ d := by omega
    have d7 : Dice F7 d := ⟨a, b, c, by
      rw [hF7, List.getElem?_set_ne dj, hF6, List.getElem?_set_ne dj, hF5, List.getElem?_set_ne (by omega), hF4, List.getElem?_set_ne dj, hF3, List.getElem?_set_ne (by omega)]
      exact e⟩
    rw [hF8]
    exact d7.app.app
/-- _law_right -/
theorem right16 (hs : Dice s d) (tb : s[2]? = some (.tab "_law_right")) : ∃ s', callF T (k + 7) 2 [.ref d] s = .ok (.bl true) s' ∧ Fr s s' [d] ∧ Dice s' d := by
  have h2 := at_lt tb
  have d2 : 2 ∉ [d] := fun hx => by
    have e : 2 = d := by simpa using hx
    subst e
    obtain ⟨a, b, c, e⟩ := hs
    rw [tb] at e
    cases e
  obtain ⟨F, m, a, L, n, ls, qs, jd, ji, jo, ins, outs, e1, B⟩ := setupA (k := k) hs
  obtain ⟨G, task, new, odd, far, fc, non, lev, pl, e2, B2, D2⟩ := setupB (k := k) (n := n) B
  have tG := B2.fr.at_ tb d2
  obtain ⟨G1, j1, e3, f3, d3⟩ := group1 (k := k) (n := n) B2 D2 tG
  have B3 := B2.to f3 d3
  have D3 := D2.to f3
  obtain ⟨G2, j2, e4, f4, d4⟩ := group2 (k := k) (n := n) (x8 := some (.ref j1)) B3 D3 (B3.fr.at_ tb d2)
  have B4 := B3.to f4 d4
  have D4 := D3.to f4
  obtain ⟨G3, j3, away, e5, f5, d5⟩ := group3 (k := k) (n := n) (x8 := some (.ref j2)) B4 D4 (B4.fr.at_ tb d2)
  have B5 := B4.to f5 d5
  have D5 := D4.to f5
  obtain ⟨H, e6, f6, d6⟩ := group4 (k := k) (n := n) (x8 := some (.ref j3)) (x9 := some away) B5 D5 (B5.fr.at_ tb d2) h2
  have e : execs (callF T (k + 6)) b2 [some (.ref d), none, none, none, none, none, none, none, none, none, none, none, none, none, none, none, none, none] s = .rt (.bl true) H := by
    rw [e1, e2, e3, e4, e5, e6]
  rw [call_at (d := t2) rfl rfl]
  show ∃ s', trimO s (retO (execs (callF T (k + 6)) b2 [some (.ref d), none, none, none, none, none, none, none, none, none, none, none, none, none, none, none, none, none] s)) = _ ∧ _
  rw [e]
  show ∃ s', trimO s (.ok (.bl true) H) = _ ∧ _
  obtain ⟨s', e7, h⟩ := ret_bl (s := s) (s' := H) (v := true)
  refine ⟨s', e7, ?_⟩
  rcases h with rfl | rfl
  · exact ⟨f6, d6⟩
  · have hd := hs.lt
    refine ⟨⟨by rw [List.length_take]; have := f6.len; omega, fun i hi hx => by rw [List.getElem?_take_of_lt hi]; exact f6.eq i hi hx⟩, ?_⟩
    obtain ⟨a, b, c, e⟩ := d6
    exact ⟨a, b, c, by rw [List.getElem?_take_of_lt hd]; exact e⟩
end
end K16

set_option maxHeartbeats 4000000
namespace K16
open Fe
open L2 (atI ixN)
open TL (joinL)
section
variable {k : Nat} {s s' F F1 G H g : Fe.S} {d p a L n m N j : Nat} {ls rs X : List Nat} {qs : List (List Int)} {ns : List Int} {t x y : Int} {i : Nat} {z w : List Int} {v u odd : D} {c fc : List Nat}
theorem ne_strS {a b : List Nat} : opNe (.str a) (.str b) s = .ok (.bl (!(a == b))) s := by
  unfold opNe eqD pd
  dsimp only
  show Out.ok (D.bl (!PySem.PyData.eqv (.str ⟨a.toArray⟩) (.str ⟨b.toArray⟩))) s = _
  congr 3
  rw [← str_eq]
  rfl
/-! numbers of queues with which none are made -/
def mods (u : Nat) : List D := [.int 0, .int 4, .int (-1), .int Big, .int (10 ^ 50), .non, .bl true, .bl false, .str [49], .str [], .tup [.int 1], .ref u, .ref (u + 1)]
def modO : Fe.S := [O.lst [.int 1], O.dct []]
abbrev modE : List E := [(.int 0), (.int 4), (.neg (.int 1)), (.bin .pow (.int 10) (.int 40)), (.bin .pow (.int 10) (.int 50)), .non, (.bl true), (.bl false), (.str [49]), (.str []), (.tup [(.int 1)]), (.lst [(.int 1)]), (.dct [] [])]
theorem pdR_lst1 {j : Nat} (h : s[j]? = some (.lst [.int 1])) : pdR s (.ref j) = some (.list [.int 1]) := by
  unfold pdR
  dsimp only
  rw [h]
  show (match getL s j with | some ds => (mapO (pd s 59) ds).map PySem.PyData.list | none => none) = _
  rw [getL_lst h]
  rfl
def Bad (G : Fe.S) (v : D) : Prop := NoI T q16 G v ∨ ∃ t : Int, v = .int t ∧ -Big < t ∧ t < Big ∧ (t < 1 ∨ 3 < t)
theorem mod_no {u : Nat} (h : ∀ (i : Nat) (o : O), modO[i]? = some o → G[u + i]? = some o) : ∀ v ∈ mods u, Bad G v := by
  intro v hv
  unfold mods at hv
  simp only [List.mem_cons, List.not_mem_nil, or_false] at hv
  rcases hv with rfl | rfl | rfl | rfl | rfl | rfl | rfl | rfl | rfl | rfl | rfl | rfl | rfl
  · exact .inr ⟨_, rfl, by decide, by decide, by decide⟩
  · exact .inr ⟨_, rfl, by decide, by decide, by decide⟩
  · exact .inr ⟨_, rfl, by decide, by decide, by decide⟩
  · exact .inl (noI_big (by decide))
  · exact .inl (noI_big (by decide +kernel))
  · exact .inl (noI_ty rfl)
  · exact .inl noI_bl
  · exact .inl noI_bl
  · exact .inl (noI_ty rfl)
  · exact .inl (noI_ty rfl)
  · exact .inl (noI_ty rfl)
  · exact .inl (noI_ty (ty_lst (h 0 _ rfl)))
  · exact .inl (noI_ty (ty_dct (h 1 _ rfl)))
theorem mod_repr {u : Nat} : ∀ v ∈ mods u, ∃ c : List Nat, c.length ≤ 1000 ∧ ∀ G : Fe.S, (∀ (i : Nat) (o : O), modO[i]? = some o → G[u + i]? = some o) → biRepr [v] G = .ok (.str c) G := by
  intro v hv
  unfold mods at hv
  simp only [List.mem_cons, List.not_mem_nil, or_false] at hv
  have im : ∀ i : Int, reprC (.int i) = true → ∃ c : List Nat, c.length ≤ 1000 ∧ ∀ G : Fe.S, (∀ (i : Nat) (o : O), modO[i]? = some o → G[u + i]? = some o) → biRepr [.int i] G = .ok (.str c) G := fun i h => repr_of (p := .int i) _ (fun s _ => rfl) h
  rcases hv with rfl | rfl | rfl | rfl | rfl | rfl | rfl | rfl | rfl | rfl | rfl | rfl | rfl
  · exact im _ (by decide +kernel)
  · exact im _ (by decide +kernel)
  · exact im _ (by decide +kernel)
  · exact im _ (by decide +kernel)
  · exact im _ (by decide +kernel)
  · exact repr_of (p := .none) _ (fun s _ => rfl) (by decide +kernel)
  · exact repr_of (p := .bool true) _ (fun s _ => rfl) (by decide +kernel)
  · exact repr_of (p := .bool false) _ (fun s _ => rfl) (by decide +kernel)
  · exact repr_of (p := .str ⟨#[49]⟩) _ (fun s _ => rfl) (by decide +kernel)
  · exact repr_of (p := .str ⟨#[]⟩) _ (fun s _ => rfl) (by decide +kernel)
  · exact repr_of (p := .tuple [.int 1]) _ (fun s _ => rfl) (by decide +kernel)
  · exact repr_of (p := .list [.int 1]) _ (fun s h => pdR_lst1 (h 0 _ rfl)) (by decide +kernel)
  · exact repr_of (p := .dict []) _ (fun s h => pdR_dct0 (h 1 _ rfl)) (by decide +kernel)
theorem mod_args {ρ : Fe.Env} : argsV (sems (callF T k) modE) ρ F = .ok (mods F.length) (F ++ modO) := by
  have m1 : ∀ (x : D) (s : Fe.S), mkLst [x] s = .ok (.ref s.length) (s ++ [O.lst [x]]) := fun x s => mkL_ok (by simp)
  have l1 : ∀ x : D, (F ++ [O.lst [x]]).length = F.length + 1 := fun x => by simp
  have d0 : ∀ s : Fe.S, dctV (pairsOf (sems (callF T k) []) (sems (callF T k) [])) ρ s = .ok (.ref s.length) (s ++ [.dct []]) := fun s => dct0
  have tl : argsV (sems (callF T k) [(.lst [(.int 1)]), (.dct [] [])]) ρ F = .ok [.ref F.length, .ref (F.length + 1)] (F ++ modO) := by
    rw [sems_cons, args_cons, v_lst, sems_cons, sems_nil, args_cons, v_int, bind_ok, args_nil, bind_ok, bind_ok, m1, bind_ok, sems_cons, args_cons, v_dct, d0, bind_ok, sems_nil, args_nil, bind_ok, bind_ok, l1]
    unfold modO
    simp only [List.append_assoc, List.singleton_append]
  have v10 : (sem (callF T k) (.tup [(.int 1)])).v ρ F = .ok (.tup [.int 1]) F := rfl
  have v6 : (sem (callF T k) (.neg (.int 1))).v ρ F = .ok (.int (-1)) F := rfl
  have v7 : (sem (callF T k) (.bin .pow (.int 10) (.int 40))).v ρ F = .ok (.int Big) F := by rw [v_bin, v_int, bind_ok, v_int, bind_ok]; exact pw40
  have v8 : (sem (callF T k) (.bin .pow (.int 10) (.int 50))).v ρ F = .ok (.int (10 ^ 50)) F := by
    have pw : opPow (.int 10) (.int 50) F = .ok (.int (10 ^ 50)) F := pow_ok' (by decide +kernel)
    rw [v_bin, v_int, bind_ok, v_int, bind_ok]
    exact pw
  rw [sems_cons, args_cons, v_int, bind_ok, sems_cons, args_cons, v_int, bind_ok, sems_cons, args_cons, v6, bind_ok, sems_cons, args_cons, v7, bind_ok, sems_cons, args_cons, v8, bind_ok, sems_cons, args_cons, v_non, bind_ok, sems_cons, args_cons, v_bl, bind_ok, sems_cons, args_cons, v_bl, bind_ok, sems_cons, args_cons, v_str, bind_ok, sems_cons, args_cons, v_str, bind_ok, sems_cons, args_cons, v10, bind_ok, tl]
  rfl
/-- a number of queues with which none are made -/
theorem lamM {ρ : Fe.Env} {e : E} (tb : F[1]? = some (.tab "law")) (h : (sem (callF T (k + 7)) e).v ρ F = .ok v F) (hb : Bad (F ++ [.ins Qc []]) v) (hr : biRepr [v] (F ++ [.ins Qc []]) = .ok (.str c) (F ++ [.ins Qc []])) (hl : c.length ≤ 1000) :
    (sem (callF T (k + 7)) (.lam 1 "law" 4 (.mk Q0 5 [e]))).v ρ F = .ok (.str (wNumber ++ c)) (F ++ [.ins Qc []]) := by
  have a1 : argsV (sems (callF T (k + 7)) [e]) ρ F = .ok [v] F := by
    rw [sems_cons, sems_nil, args_cons, h, bind_ok, args_nil, bind_ok]
  have e1 : (sem (callF T (k + 7)) (.mk Q0 5 [e])).v ρ F = .exc ⟨2, [v]⟩ (F ++ [.ins Qc []]) := by
    rw [v_mk, a1, bind_ok]
    exact mkB (k := k + 5) hb
  exact lam_n (k := k + 6) tb e1 hr (by omega)
def bodyC : List St := [(.set 4 (.call 1 [(.var 0), (.var 1)])), (.for_ (.nm 5) (.rng [(.int 6)]) [(.ite (.not (.call 2 [(.var 4)])) [(.ret (.bl false))] [])]), (.set 6 (.call 3 [(.var 4), (.lst modE)])), (.ite (.cmp .ne (.lam 1 "law" 4 (.mk Q0 5 [(.var 6)])) (.bin .add (.str [110, 117, 109, 98, 101, 114, 32]) (.bi .repr [(.var 6)]))) [(.ret (.bl false))] [])]
structure Scr (s : Fe.S) (ns : List Int) : Prop where
  s0 : s[0]? = some (.rl (ns.map .int))
  s1 : s[1]? = some (.tab "law")
  s2 : s[2]? = some (.tab "_law_right")
theorem Scr.fr (h : Scr s ns) (f : Fr s F [d]) (hd : 2 < d) : Scr F ns := ⟨f.at_ h.s0 (by simp; omega), f.at_ h.s1 (by simp; omega), f.at_ h.s2 (by simp; omega)⟩
/-- one cell -/
theorem cell16 {v1 : Int} (h : Scr s ns) (hv : 0 ≤ v1) {x2 x3 x4 x5 x6 : Option D} : ∃ y4 y5 y6 s', execs (callF T (k + 7)) bodyC [some (.ref 0), some (.int v1), x2, x3, x4, x5, x6] s = .nx [some (.ref 0), some (.int v1), x2, x3, y4, y5, y6] s' ∧ Scr s' ns := by
  obtain ⟨b1, b2, e1⟩ := dice16 (k := k + 6) h.s0 hv
  have hl := at_lt h.s2
  have f1 : Fr s (s ++ [O.lst [.int b1, .int b2, .int 0]]) [s.length] := (Fr.refl s _).app
  have d1 : Dice (s ++ [O.lst [.int b1, .int b2, .int 0]]) s.length := ⟨_, _, _, at_end⟩
  have h1 := h.fr f1 hl
  -- six turns
  obtain ⟨ρ', F, e2, x5', q1, d2, h2⟩ := forW_inv (live := Src.live ⟨rangeD 0 6, none⟩) (bind := bnd (.nm 5)) (body := execs (callF T (k + 7)) [(.ite (.not (.call 2 [(.var 4)])) [(.ret (.bl false))] [])])
    (P := fun ρ F => ∃ x5 : Option D, ρ = [some (.ref 0), some (.int v1), x2, x3, some (.ref s.length), x5, x6] ∧ Dice F s.length ∧ Scr F ns) (ds := rangeD 0 6) (ρ := [some (.ref 0), some (.int v1), x2, x3, some (.ref s.length), x5, x6]) (s := s ++ [O.lst [.int b1, .int b2, .int 0]]) ⟨x5, rfl, d1, h1⟩ (fun _ _ _ => rfl) (fun w _ ρ F ⟨x5, q1, q2, q3⟩ => by
      subst q1
      obtain ⟨F', r1, r2, r3⟩ := right16 (k := k) q2 q3.s2
      refine ⟨_, _, rfl, [some (.ref 0), some (.int v1), x2, x3, some (.ref s.length), some w, x6], F', ?_, some w, rfl, r3, q3.fr r2 hl⟩
      have a1 : argsV (sems (callF T (k + 7)) [(.var 4)]) [some (.ref 0), some (.int v1), x2, x3, some (.ref s.length), some w, x6] F = .ok [.ref s.length] F := rfl
      show execs (callF T (k + 7)) [(.ite (.not (.call 2 [(.var 4)])) [(.ret (.bl false))] [])] [some (.ref 0), some (.int v1), x2, x3, some (.ref s.length), some w, x6] F = _
      rw [x_cons, x_ite, t_not, t_call, v_call, a1, bind_ok, r1, bind_ok, t_tru, bind_ok, lift_ok, if_neg (by decide), x_nil, seq_nx, x_nil])
  subst q1
  -- a number
  have hlt := d2.lt
  have pk : ∃ v ∈ mods F.length, ∃ o, Dice ((F ++ modO ++ [O.lst (mods F.length)]).set s.length o) s.length ∧ (sem (callF T (k + 7)) (.call 3 [(.var 4), (.lst modE)])).v [some (.ref 0), some (.int v1), x2, x3, some (.ref s.length), x5', x6] F = .ok v ((F ++ modO ++ [O.lst (mods F.length)]).set s.length o) := by
    have dd : Dice (F ++ modO) s.length := d2.app
    obtain ⟨v, hv, o, d3, e⟩ := pick16 (k := k + 5) (s := F ++ modO ++ [O.lst (mods F.length)]) (d := s.length) (j := (F ++ modO).length) (ds := mods F.length) dd.app at_end (by have := dd.lt; omega) (by unfold mods; simp) (by unfold mods; simp) (fun x hx j e => by
      subst e
      unfold mods at hx
      simp at hx
      rw [List.length_append, List.length_append]
      unfold modO
      simp
      omega)
    refine ⟨v, hv, o, d3, ?_⟩
    have a1 : argsV (sems (callF T (k + 7)) [(.var 4), (.lst modE)]) [some (.ref 0), some (.int v1), x2, x3, some (.ref s.length), x5', x6] F = .ok [.ref s.length, .ref (F ++ modO).length] (F ++ modO ++ [O.lst (mods F.length)]) := by
      have l4 : ∀ s', lk [some (.ref 0), some (.int v1), x2, x3, some (.ref s.length), x5', x6] 4 s' = .ok (.ref s.length) s' := fun _ => rfl
      rw [sems_cons, args_cons, v_var, l4, bind_ok, sems_cons, args_cons, v_lst, mod_args, bind_ok, mkL_ok (by unfold mods; simp), bind_ok]
      rfl
    rw [v_call, a1, bind_ok, e]
  obtain ⟨odd, hodd, o, d3, e3⟩ := pk
  have f3 : Fr F ((F ++ modO ++ [O.lst (mods F.length)]).set s.length o) [s.length] := ((Fr.refl F _).app.app).set List.mem_cons_self
  have at_ : ∀ H, Fr ((F ++ modO ++ [O.lst (mods F.length)]).set s.length o) H [s.length] → ∀ (i : Nat) (o : O), modO[i]? = some o → H[F.length + i]? = some o := fun H hH i o' hi => by
    refine hH.at_ ?_ (by simp only [List.mem_singleton]; omega)
    rw [List.getElem?_set_ne (by omega)]
    exact at_app (tail_at hi)
  have h3 := h2.fr f3 hl
  obtain ⟨G, hG⟩ : ∃ G : Fe.S, G = (F ++ modO ++ [O.lst (mods F.length)]).set s.length o := ⟨_, rfl⟩
  rw [← hG] at e3 h3 d3 at_
  obtain ⟨c, c1, c2⟩ := mod_repr odd hodd
  have fi : Fr G (G ++ [.ins Qc []]) [s.length] := (Fr.refl G _).app
  have lm := lamM (k := k) (F := G) (v := odd) (c := c) (e := .var 6) (ρ := [some (.ref 0), some (.int v1), x2, x3, some (.ref s.length), x5', some odd]) h3.s1 rfl (mod_no (at_ _ fi) odd hodd) (c2 _ (at_ _ fi)) c1
  have rp : (sem (callF T (k + 7)) (.bin .add (.str [110, 117, 109, 98, 101, 114, 32]) (.bi .repr [(.var 6)]))).v [some (.ref 0), some (.int v1), x2, x3, some (.ref s.length), x5', some odd] (G ++ [.ins Qc []]) = .ok (.str (wNumber ++ c)) (G ++ [.ins Qc []]) := by
    have ad : opAdd (.str wNumber) (.str c) (G ++ [O.ins Qc []]) = .ok (.str (wNumber ++ c)) (G ++ [O.ins Qc []]) := by
      show (if wNumber.length + c.length ≤ line then _ else _) = _
      rw [if_pos (by simp; unfold line; omega)]
    have a1 : argsV (sems (callF T (k + 7)) [(.var 6)]) [some (.ref 0), some (.int v1), x2, x3, some (.ref s.length), x5', some odd] (G ++ [.ins Qc []]) = .ok [odd] (G ++ [.ins Qc []]) := rfl
    rw [v_bin, v_str, bind_ok, v_bi, a1, bind_ok]
    show (biRepr [odd] (G ++ [.ins Qc []])).bind _ = _
    rw [c2 _ (at_ _ fi), bind_ok]
    exact ad
  have ck : (sem (callF T (k + 7)) (.cmp .ne (.lam 1 "law" 4 (.mk Q0 5 [(.var 6)])) (.bin .add (.str [110, 117, 109, 98, 101, 114, 32]) (.bi .repr [(.var 6)])))).t [some (.ref 0), some (.int v1), x2, x3, some (.ref s.length), x5', some odd] G = .ok false (G ++ [.ins Qc []]) := by
    rw [t_cmp, lm, bind_ok, rp, bind_ok]
    show asB (opNe (.str (wNumber ++ c)) (.str (wNumber ++ c)) (G ++ [.ins Qc []])) = _
    rw [ne_strS, beq_self_eq_true]
    rfl
  refine ⟨some (.ref s.length), x5', some odd, G ++ [.ins Qc []], ?_, h3.fr fi hl⟩
  have a0 : argsV (sems (callF T (k + 7)) [(.var 0), (.var 1)]) [some (.ref 0), some (.int v1), x2, x3, x4, x5, x6] s = .ok [.ref 0, .int v1] s := rfl
  have src : (sem (callF T (k + 7)) (.rng [(.int 6)])).i [some (.ref 0), some (.int v1), x2, x3, some (.ref s.length), x5, x6] (s ++ [O.lst [.int b1, .int b2, .int 0]]) = .ok ⟨rangeD 0 6, none⟩ (s ++ [O.lst [.int b1, .int b2, .int 0]]) := rng_src (N := 6) rfl (by decide)
  unfold bodyC
  rw [x_cons, x_set, v_call, a0, bind_ok, e1, lift_ok]
  simp only [List.set_cons_succ, List.set_cons_zero]
  rw [seq_nx, x_cons, x_for, src, lift_ok]
  dsimp only
  rw [e2, seq_nx, x_cons, x_set, e3, lift_ok]
  simp only [List.set_cons_succ, List.set_cons_zero]
  rw [seq_nx, x_cons, x_ite, ck, lift_ok, if_neg (by decide), x_nil, seq_nx, x_nil]
end
end K16

set_option maxHeartbeats 4000000
namespace K16
open Fe
open L2 (atI ixN)
open TL (joinL)
section
variable {k : Nat} {s s' F F1 G H g : Fe.S} {d p a L n m N j : Nat} {ls rs X : List Nat} {qs : List (List Int)} {ns : List Int} {t x y : Int} {i : Nat} {z w : List Int} {v u odd : D} {c fc : List Nat}
theorem tell_set {ρ : Fe.Env} {e : E} {w : List Nat} {p : Nat} (h : (sem (callF T k) e).v ρ F = .ok (.str w) G) : exec (callF T k) (.set p (.lst [e])) ρ F = .nx (ρ.set p (some (.ref G.length))) (G ++ [O.lst ([w].map D.str)]) := by
  rw [x_set, v_lst, sems_cons, sems_nil, args_cons, h, bind_ok, args_nil, bind_ok, bind_ok, mkL_ok (by simp), lift_ok]
  rfl
theorem tell_add {ρ : Fe.Env} {e : E} {w : List Nat} {ws : List (List Nat)} {j p : Nat} (h8 : ∀ s, lk ρ p s = .ok (.ref j) s) (hF : F[j]? = some (.lst (ws.map D.str))) (h : (sem (callF T k) e).v ρ F = .ok (.str w) G) (hG : G[j]? = some (.lst (ws.map D.str))) (hl : ws.length ≤ 100) :
    exec (callF T k) (.expr (.me .append (.var p) [e])) ρ F = .nx ρ (G.set j (.lst ((ws ++ [w]).map D.str))) := by
  have ap : meAppend (.ref j) [.str w] G = .ok .non (G.set j (.lst ((ws ++ [w]).map D.str))) := by
    rw [append_ok' hG (by rw [List.length_map]; unfold line; omega), List.map_append]
    rfl
  have ty : tyIs Me.append.T F (.ref j) = true := tyIs_lst hF
  rw [x_expr, v_me, v_var, h8, bind_ok, if_pos ty, sems_cons, sems_nil, args_cons, h, bind_ok, args_nil, bind_ok, bind_ok]
  show lift (meAppend (.ref j) [.str w] G) _ _ = _
  rw [ap, lift_ok]
theorem repr0 : biRepr [.int 0] s = .ok (.str [48]) s := by
  have := (repr_at (s := s) (v := .int 0) (p := .int 0) rfl (by decide +kernel)).1
  rw [show codes (PySem.PyData.shown (.int 0)) = [48] by decide +kernel] at this
  exact this
theorem repr4 : biRepr [.int 4] s = .ok (.str [52]) s := by
  have := (repr_at (s := s) (v := .int 4) (p := .int 4) rfl (by decide +kernel)).1
  rw [show codes (PySem.PyData.shown (.int 4)) = [52] by decide +kernel] at this
  exact this
theorem reprT : biRepr [.bl true] s = .ok (.str [84, 114, 117, 101]) s := by
  have := (repr_at (s := s) (v := .bl true) (p := .bool true) rfl (by decide +kernel)).1
  rw [show codes (PySem.PyData.shown (.bool true)) = [84, 114, 117, 101] by decide +kernel] at this
  exact this
def wNone : List Nat := [48, 58, 32, 110, 111, 110, 101, 44, 32, 49, 58, 32, 110, 111, 110, 101]
def lastL : List D := [.non, .non, .int 0, .tup [], .str wNone, .bl false, .tup []]
theorem eq_last {i j : Nat} (h : getL s i = some lastL) (h' : getL s j = some lastL) : opEq (.ref i) (.ref j) s = .ok (.bl true) s := by
  have pl : ∀ i, getL s i = some lastL → pd s 60 (.ref i) = some (.list [.none, .none, .int 0, .tuple [], .str ⟨wNone.toArray⟩, .bool false, .tuple []]) := fun i h => by
    show (match getL s i with | some ds => (mapO (pd s 59) ds).map PySem.PyData.list | none => none) = _
    rw [h]
    rfl
  unfold opEq eqD
  rw [pl i h, pl j h']
  show Out.ok (D.bl (PySem.PyData.eqv _ _)) s = _
  congr 2
/-- the end of the law -/
theorem end16 (h : Scr s ns) {x1 x2 x3 x4 x5 x6 : Option D} : ∃ s', execs (callF T (k + 7)) b0.tail [some (.ref 0), x1, x2, x3, x4, x5, x6] s = .rt (.bl true) s' := by
  have hl := at_lt h.s2
  have bad0 : ∀ G, Bad G (.int 0) := fun G => .inr ⟨_, rfl, by decide, by decide, by decide⟩
  have bad4 : ∀ G, Bad G (.int 4) := fun G => .inr ⟨_, rfl, by decide, by decide, by decide⟩
  have badT : ∀ G, Bad G (.bl true) := fun G => .inl noI_bl
  have c1 := lamM (k := k) (F := s) (v := .int 0) (e := .int 0) (ρ := [some (.ref 0), x1, x2, x3, x4, x5, x6]) h.s1 rfl (bad0 _) repr0 (by decide)
  obtain ⟨F1, hF1⟩ : ∃ F1 : Fe.S, F1 = s ++ [.ins Qc []] := ⟨_, rfl⟩
  rw [← hF1] at c1
  obtain ⟨j, hj⟩ : ∃ j : Nat, j = F1.length := ⟨_, rfl⟩
  obtain ⟨F2, hF2⟩ : ∃ F2 : Fe.S, F2 = F1 ++ [O.lst ([wNumber ++ [48]].map D.str)] := ⟨_, rfl⟩
  have f2 : Fr s F2 [] := by rw [hF2, hF1]; exact (Fr.refl s []).app.app
  have lj : s.length ≤ j := by rw [hj, hF1]; simp
  have t2 : F2[j]? = some (.lst ([wNumber ++ [48]].map D.str)) := by rw [hF2, hj]; exact at_end
  have c2 := lamM (k := k) (F := F2) (v := .int 4) (e := .int 4) (ρ := [some (.ref 0), x1, some (.ref j), x3, x4, x5, x6]) (f2.at_ h.s1 (by simp)) rfl (bad4 _) repr4 (by decide)
  obtain ⟨F3, hF3⟩ : ∃ F3 : Fe.S, F3 = (F2 ++ [O.ins Qc []]).set j (.lst (([wNumber ++ [48]] ++ [wNumber ++ [52]]).map D.str)) := ⟨_, rfl⟩
  have f3 : Fr s F3 [] := by rw [hF3]; exact Fr.hi f2.app lj
  have t2' : (F2 ++ [O.ins Qc []])[j]? = some (.lst ([wNumber ++ [48]].map D.str)) := at_app t2
  have t3 : F3[j]? = some (.lst (([wNumber ++ [48]] ++ [wNumber ++ [52]]).map D.str)) := by rw [hF3]; exact List.getElem?_set_self (at_lt t2')
  have c3 := lamM (k := k) (F := F3) (v := .bl true) (e := .bl true) (ρ := [some (.ref 0), x1, some (.ref j), x3, x4, x5, x6]) (f3.at_ h.s1 (by simp)) rfl (badT _) reprT (by decide)
  have t3' : (F3 ++ [O.ins Qc []])[j]? = some (.lst (([wNumber ++ [48]] ++ [wNumber ++ [52]]).map D.str)) := at_app t3
  obtain ⟨F4, hF4⟩ : ∃ F4 : Fe.S, F4 = (F3 ++ [O.ins Qc []]).set j (.lst (([wNumber ++ [48]] ++ [wNumber ++ [52]] ++ [wNumber ++ [84, 114, 117, 101]]).map D.str)) := ⟨_, rfl⟩
  have t4 : F4[j]? = some (.lst (([wNumber ++ [48]] ++ [wNumber ++ [52]] ++ [wNumber ++ [84, 114, 117, 101]]).map D.str)) := by rw [hF4]; exact List.getElem?_set_self (at_lt t3')
  have l2 : ∀ s', lk [some (.ref 0), x1, some (.ref j), x3, x4, x5, x6] 2 s' = .ok (.ref j) s' := fun _ => rfl
  have ck : (sem (callF T (k + 7)) (.cmp .ne (.var 2) (.lst [(.str [110, 117, 109, 98, 101, 114, 32, 48]), (.str [110, 117, 109, 98, 101, 114, 32, 52]), (.str [110, 117, 109, 98, 101, 114, 32, 84, 114, 117, 101])]))).t [some (.ref 0), x1, some (.ref j), x3, x4, x5, x6] F4 = .ok false (F4 ++ [O.lst (([wNumber ++ [48]] ++ [wNumber ++ [52]] ++ [wNumber ++ [84, 114, 117, 101]]).map D.str)]) := by
    have a1 : argsV (sems (callF T (k + 7)) [(.str [110, 117, 109, 98, 101, 114, 32, 48]), (.str [110, 117, 109, 98, 101, 114, 32, 52]), (.str [110, 117, 109, 98, 101, 114, 32, 84, 114, 117, 101])]) [some (.ref 0), x1, some (.ref j), x3, x4, x5, x6] F4 = .ok (([wNumber ++ [48]] ++ [wNumber ++ [52]] ++ [wNumber ++ [84, 114, 117, 101]]).map D.str) F4 := rfl
    rw [t_cmp, v_var, l2, bind_ok, v_lst, a1, bind_ok, mkL_ok (by simp), bind_ok]
    show asB (opNe (.ref j) (.ref F4.length) (F4 ++ [O.lst (([wNumber ++ [48]] ++ [wNumber ++ [52]] ++ [wNumber ++ [84, 114, 117, 101]]).map D.str)])) = _
    rw [ne_lstS (getL_app (getL_lst t4)) getL_end]
    rfl
  obtain ⟨F5, hF5⟩ : ∃ F5 : Fe.S, F5 = F4 ++ [O.lst (([wNumber ++ [48]] ++ [wNumber ++ [52]] ++ [wNumber ++ [84, 114, 117, 101]]).map D.str)] := ⟨_, rfl⟩
  rw [← hF5] at ck
  -- two queues
  have e6 := ini16 (k := k + 5) (s := F5) (m := 2) (by decide) (by decide)
  have Q := newQ_at (s := F5) (m := 2) (by decide)
  have m6 : (sem (callF T (k + 7)) (.mk Q0 5 [(.int 2)])).v [some (.ref 0), x1, some (.ref j), x3, x4, x5, x6] F5 = .ok (.ref F5.length) (F5 ++ newQ F5.length 2) := mk_v (d := .int (2 : Nat)) rfl e6
  obtain ⟨F6, hF6⟩ : ∃ F6 : Fe.S, F6 = F5 ++ newQ F5.length 2 := ⟨_, rfl⟩
  rw [← hF6] at m6 Q
  have em_ : ∀ z ∈ List.replicate 2 ([] : List Int), z = [] := fun z hz => (List.mem_replicate.mp hz).2
  have fe : (List.replicate 2 ([] : List Int)).flatten = [] := rfl
  have g1 : callF T (k + 7) 6 [.ref F5.length] F6 = .ok .non F6 := by
    rcases pic16 (k := k + 5) Q with ⟨i, l, t, z, b, hz, _⟩ | ⟨_, h⟩
    · have := em_ _ (List.mem_of_getElem? hz)
      cases this
    · exact h
  have g2 : callF T (k + 7) 7 [.ref F5.length] F6 = .ok .non F6 := by
    rcases bes16 (k := k + 6) Q with ⟨i, b, _⟩ | ⟨_, h⟩
    · obtain ⟨z, hz, hn⟩ := b.1
      exact absurd (em_ _ (List.mem_of_getElem? hz)) hn
    · exact h
  have g3 := len16 (k := k + 5) Q (by rw [fe]; decide)
  have g4 : callF T (k + 7) 9 [.ref F5.length, .int 1] F6 = .ok (.tup []) F6 := get16 (k := k + 4) (i := 1) (z := []) Q rfl
  have g5 : callF T (k + 7) 10 [.ref F5.length] F6 = .ok (.str wNone) F6 := by
    rw [str16 (k := k + 5) Q (fun z hz => by rw [em_ z hz]; decide) (fun z hz t ht => by rw [em_ z hz] at ht; cases ht)]
    have : textL (List.replicate 2 []) = wNone := by decide +kernel
    rw [this]
  have g6 := boo16 (k := k + 5) Q
  have g7 := tas16 (k := k + 6) Q (by rw [fe]; decide)
  rw [fe] at g3 g6 g7
  have cl := cl16 Q
  have l3 : ∀ s', lk [some (.ref 0), x1, some (.ref j), some (.ref F5.length), x4, x5, x6] 3 s' = .ok (.ref F5.length) s' := fun _ => rfl
  have w1 : (sem (callF T (k + 7)) (.mt Q0 6 (.var 3) [])).v [some (.ref 0), x1, some (.ref j), some (.ref F5.length), x4, x5, x6] F6 = .ok .non F6 := by
    rw [v_mt, v_var, l3, bind_ok, if_pos cl, sems_nil, args_nil, bind_ok, g1]
  have w2 : (sem (callF T (k + 7)) (.pr Q0 7 (.var 3))).v [some (.ref 0), x1, some (.ref j), some (.ref F5.length), x4, x5, x6] F6 = .ok .non F6 := by
    rw [v_pr, v_var, l3, bind_ok, if_pos cl, g2, v_noExc]
  have w3 : (sem (callF T (k + 7)) (.olen Q0 8 (.var 3))).v [some (.ref 0), x1, some (.ref j), some (.ref F5.length), x4, x5, x6] F6 = .ok (.int 0) F6 := by
    rw [v_olen, v_var, l3, bind_ok, v_lenOwn, if_pos cl, g3, bind_ok]
    rfl
  have w4 : (sem (callF T (k + 7)) (.oix Q0 9 (.var 3) (.int 1))).v [some (.ref 0), x1, some (.ref j), some (.ref F5.length), x4, x5, x6] F6 = .ok (.tup []) F6 := by
    rw [v_oix, v_var, l3, bind_ok, v_int, bind_ok, if_pos cl, g4]
  have w5 : (sem (callF T (k + 7)) (.ostr Q0 10 (.var 3))).v [some (.ref 0), x1, some (.ref j), some (.ref F5.length), x4, x5, x6] F6 = .ok (.str wNone) F6 := by
    rw [v_ostr, v_var, l3, bind_ok, v_strOwn, if_pos cl, g5, bind_ok, v_asSt]
  have w6 : (sem (callF T (k + 7)) (.obool Q0 11 (.var 3))).v [some (.ref 0), x1, some (.ref j), some (.ref F5.length), x4, x5, x6] F6 = .ok (.bl false) F6 := by
    rw [v_obool, v_var, l3, bind_ok, v_boolOwn, if_pos cl, g6, bind_ok]
    rfl
  have w7 : (sem (callF T (k + 7)) (.mt Q0 12 (.var 3) [])).v [some (.ref 0), x1, some (.ref j), some (.ref F5.length), x4, x5, x6] F6 = .ok (.tup []) F6 := by
    rw [v_mt, v_var, l3, bind_ok, if_pos cl, sems_nil, args_nil, bind_ok, g7]
    rfl
  have wl : argsV (sems (callF T (k + 7)) [(.mt Q0 6 (.var 3) []), (.pr Q0 7 (.var 3)), (.olen Q0 8 (.var 3)), (.oix Q0 9 (.var 3) (.int 1)), (.ostr Q0 10 (.var 3)), (.obool Q0 11 (.var 3)), (.mt Q0 12 (.var 3) [])]) [some (.ref 0), x1, some (.ref j), some (.ref F5.length), x4, x5, x6] F6 = .ok lastL F6 := by
    rw [sems_cons, args_cons, w1, bind_ok, sems_cons, args_cons, w2, bind_ok, sems_cons, args_cons, w3, bind_ok, sems_cons, args_cons, w4, bind_ok, sems_cons, args_cons, w5, bind_ok, sems_cons, args_cons, w6, bind_ok, sems_cons, args_cons, w7, bind_ok, sems_nil, args_nil, bind_ok, bind_ok, bind_ok, bind_ok, bind_ok, bind_ok, bind_ok]
    rfl
  have wr : argsV (sems (callF T (k + 7)) [.non, .non, (.int 0), (.tup []), (.str [48, 58, 32, 110, 111, 110, 101, 44, 32, 49, 58, 32, 110, 111, 110, 101]), (.bl false), (.tup [])]) [some (.ref 0), x1, some (.ref F6.length), some (.ref F5.length), x4, x5, x6] (F6 ++ [O.lst lastL]) = .ok lastL (F6 ++ [O.lst lastL]) := rfl
  have l22 : ∀ s', lk [some (.ref 0), x1, some (.ref F6.length), some (.ref F5.length), x4, x5, x6] 2 s' = .ok (.ref F6.length) s' := fun _ => rfl
  have fin : (sem (callF T (k + 7)) (.cmp .eq (.var 2) (.lst [.non, .non, (.int 0), (.tup []), (.str [48, 58, 32, 110, 111, 110, 101, 44, 32, 49, 58, 32, 110, 111, 110, 101]), (.bl false), (.tup [])]))).v [some (.ref 0), x1, some (.ref F6.length), some (.ref F5.length), x4, x5, x6] (F6 ++ [O.lst lastL]) = .ok (.bl true) (F6 ++ [O.lst lastL] ++ [O.lst lastL]) := by
    rw [v_cmp, v_var, l22, bind_ok, v_lst, wr, bind_ok, mkL_ok (by decide), bind_ok]
    exact eq_last (getL_app getL_end) getL_end
  refine ⟨F6 ++ [O.lst lastL] ++ [O.lst lastL], ?_⟩
  have y1 := tell_set (p := 2) c1
  rw [← hF2, ← hj] at y1
  have y2 := tell_add (p := 2) (fun _ => rfl) t2 c2 t2' (by decide)
  rw [← hF3] at y2
  have y3 := tell_add (p := 2) (fun _ => rfl) t3 c3 t3' (by decide)
  rw [← hF4] at y3
  show execs (callF T (k + 7)) (_ :: _ :: _ :: _ :: _ :: _ :: _ :: []) _ _ = _
  rw [x_cons, y1]
  simp only [List.set_cons_succ, List.set_cons_zero]
  rw [seq_nx, x_cons, y2, seq_nx, x_cons, y3, seq_nx, x_cons, x_ite, ck, lift_ok, if_neg (by decide), x_nil, seq_nx, x_cons, x_set, m6, lift_ok]
  simp only [List.set_cons_succ, List.set_cons_zero]
  rw [seq_nx, x_cons, x_set, v_lst, wl, bind_ok, mkL_ok (by decide), lift_ok]
  simp only [List.set_cons_succ, List.set_cons_zero]
  rw [seq_nx, x_cons, x_ret, fin, lift_ok, seq_rt]
theorem law_ok (ns : List Int) (hn : ns.length ≤ 63) : ∃ s', callF T 40 0 [.ref 0] (.rl (ns.map .int) :: lams.map O.tab) = .ok (.bl true) s' := by
  rw [call_at (d := t0) rfl rfl]
  let S0 : Fe.S := [.rl (ns.map .int), .tab "law", .tab "_law_right"]
  show ∃ s', trimO S0 (retO (execs (callF T 39) b0 [some (.ref 0), none, none, none, none, none, none] S0)) = _
  suffices h : ∃ s', execs (callF T 39) b0 [some (.ref 0), none, none, none, none, none, none] S0 = .rt (.bl true) s' by
    obtain ⟨s', e⟩ := h
    rw [e]
    obtain ⟨s'', e', _⟩ := ret_bl (s := S0) (s' := s') (v := true)
    exact ⟨s'', e'⟩
  have h0 : Scr S0 ns := ⟨rfl, rfl, rfl⟩
  obtain ⟨N, n0, n1, src⟩ : ∃ N : Int, 0 ≤ N ∧ N ≤ 1000 ∧ (sem (callF T 39) (.rng [(.bi .max [(.int 1), (.bi .min [(.int 10), (.bi .len [(.var 0)])])])])).i [some (.ref 0), none, none, none, none, none, none] S0 = .ok ⟨rangeD 0 N.toNat, none⟩ S0 := by
    have hl : biLen [.ref 0] S0 = .ok (.int ns.length) S0 := by
      rw [len_lstN (getL_rl (show S0[0]? = _ from rfl)), List.length_map]
    have mx : ∀ (x y : Int) (s : Fe.S), biMax [.int x, .int y] s = .ok (.int (if y > x then y else x)) s := fun x y s => rfl
    have e : argsV (sems (callF T 39) [(.bi .max [(.int 1), (.bi .min [(.int 10), (.bi .len [(.var 0)])])])]) [some (.ref 0), none, none, none, none, none, none] S0 = .ok [.int (if (if (ns.length : Int) < 10 then (ns.length : Int) else 10) > 1 then (if (ns.length : Int) < 10 then (ns.length : Int) else 10) else 1)] S0 := by
      simp only [Fe.bind_ok, Fe.bind_exc, Fe.lift_ok, Fe.lift_exc, Fe.seq_nx, Fe.seq_rt, Fe.seq_exc, Fe.v_non, Fe.v_bl, Fe.v_int, Fe.v_str, Fe.v_var, Fe.v_con, Fe.v_bin, Fe.v_neg, Fe.v_cmp, Fe.v_chn, Fe.v_and, Fe.v_or, Fe.v_not, Fe.v_ite, Fe.v_tup, Fe.v_lst, Fe.v_ix, Fe.v_sl, Fe.v_call, Fe.v_bi, Fe.v_isi, Fe.v_me, Fe.v_lc, Fe.v_dct, Fe.v_rev, Fe.v_fld, Fe.v_mt, Fe.v_pr, Fe.v_mk, Fe.v_oinT, Fe.v_oinF, Fe.v_inV, Fe.v_olen, Fe.v_lenOwn, Fe.v_obool, Fe.v_boolOwn, Fe.v_otru, Fe.v_oix, Fe.v_lrg, Fe.v_trg, Fe.v_ostr, Fe.v_strOwn, Fe.v_asSt, Fe.v_fst, Fe.v_noExc, Fe.v_asBl, Fe.v_asB, Fe.v_asTru, Fe.v_asNon, Fe.o_no, Fe.o_int, Fe.o_var, Fe.o_bin, Fe.o_neg, Fe.o_ite, Fe.asI_int, Fe.t_no, Fe.t_cmp, Fe.t_chn, Fe.t_and, Fe.t_or, Fe.t_not, Fe.t_call, Fe.t_var, Fe.t_isi, Fe.t_bi, Fe.t_oinT, Fe.t_oinF, Fe.t_otru, Fe.t_obool, Fe.t_mt, Fe.t_pr, Fe.t_fld, Fe.t_tru, Fe.sems_nil, Fe.sems_cons, Fe.args_nil, Fe.args_cons, Fe.andV_1, Fe.andV_2, Fe.orV_1, Fe.orV_2, Fe.andT_1, Fe.andT_2, Fe.orT_1, Fe.orT_2, Fe.v_lam, Fe.i_rng, Fe.i_tup, Fe.i_var, Fe.i_fld, Fe.i_mt, Fe.i_oix, Fe.i_enu, Fe.i_call, Fe.x_retN, Fe.x_pass, Fe.x_whl, Fe.x_setf, Fe.x_nil, Fe.x_cons, Fe.x_set, Fe.x_ret, Fe.x_expr, Fe.x_ite, Fe.x_sub, Fe.x_par, Fe.x_asg, Fe.x_for, Fe.x_met, Fe.x_rais, lk_0, lk_s, int_int, add_int, Cm.f, Ar.f, Bi.f, Me.f, Me.T, liftT, List.set_cons_succ, List.set_cons_zero, hl, min_i, mx]
    have z0 : 0 ≤ (if (ns.length : Int) < 10 then (ns.length : Int) else 10) ∧ (if (ns.length : Int) < 10 then (ns.length : Int) else 10) ≤ 10 := by split <;> omega
    generalize (if (ns.length : Int) < 10 then (ns.length : Int) else 10) = z at e z0
    have y0 : 0 ≤ (if z > 1 then z else 1) ∧ (if z > 1 then z else 1) ≤ 10 := by split <;> omega
    generalize (if z > 1 then z else 1) = y at e y0
    exact ⟨y, y0.1, by omega, by rw [i_rng, e, bind_ok]; exact src_1 (rng_of y0.1 (by omega))⟩
  obtain ⟨ρ', s', e8, ⟨x1, x4, x5, x6, h8⟩, h9⟩ := forW_inv (live := Src.live ⟨rangeD 0 N.toNat, none⟩) (bind := bnd (.nm 1)) (body := execs (callF T 39) bodyC)
    (P := fun ρ s' => (∃ x1 x4 x5 x6 : Option D, ρ = [some (.ref 0), x1, none, none, x4, x5, x6]) ∧ Scr s' ns) (ds := rangeD 0 N.toNat) (ρ := [some (.ref 0), none, none, none, none, none, none]) (s := S0) ⟨⟨_, _, _, _, rfl⟩, h0⟩ (fun _ _ _ => rfl) (fun v hv ρ s1 ⟨⟨x1, x4, x5, x6, q1⟩, q2⟩ => by
      subst q1
      obtain ⟨i, hi⟩ := List.getElem?_of_mem hv
      obtain ⟨hil, rfl⟩ := rangeD0 hi
      obtain ⟨y4, y5, y6, s2, r3, r2⟩ := cell16 (k := 32) (v1 := (i : Int)) (x2 := none) (x3 := none) (x4 := x4) (x5 := x5) (x6 := x6) q2 (by omega)
      exact ⟨_, _, rfl, _, s2, r3, ⟨_, y4, y5, y6, rfl⟩, r2⟩)
  subst h8
  obtain ⟨s2, e9⟩ := end16 (k := 32) (x1 := x1) (x2 := none) (x3 := none) (x4 := x4) (x5 := x5) (x6 := x6) h9
  refine ⟨s2, ?_⟩
  have b0e : b0 = (.for_ (.nm 1) (.rng [(.bi .max [(.int 1), (.bi .min [(.int 10), (.bi .len [(.var 0)])])])]) bodyC) :: b0.tail := rfl
  rw [b0e, x_cons, x_for, src, lift_ok]
  dsimp only
  rw [e8, seq_nx]
  exact e9
end
end K16

set_option maxHeartbeats 0
open PySem PySem.W PySem.Calls PyProof.Rows
theorem PySem.Challenge.cw_twoandabell_k16_queues_refused_holds : PySem.Challenge.rw_twoandabell_k16_queues_refused.Holds := by
  w_on; o_law
  refine HandSHeadRun.head_any (r := OpenLaw.row K16.Rw) (q := view (OpenLaw.row K16.Rw).prog [26]) (H := K16.hk) (ob := K16.ob) (M := 4000) (loose := K16.loose) (d := HandSHeadRun.topDef (OpenLaw.row K16.Rw).prog 26) (kwd := []) K16.ob_eq
    (by kernel_rfl) (fun s => by kernel_rfl) K16.run (by kernel_rfl) (by kernel_rfl) (by kernel_rfl) (by rfl) (by first | assumption | decide +kernel) (by decide +kernel) ⟨rfl, rfl, rfl, rfl, rfl, by decide +kernel⟩ ?hw ?hc
  case hw => w_witness2
  case hc => exact Fe.walk_G (l := K16.Rw) (n := 63) (k := 40) rfl (by decide) (by kernel_rfl) (by kernel_rfl) ⟨rfl, by decide, by decide⟩ K16.all K16.allE K16.hdsT K16.law_ok

