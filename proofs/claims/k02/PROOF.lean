import PyProof.Rows.All
import Wide.All
import OpenK.AllK
import Wide.FinOn
import HandS.ForMost
import HandS.ForExc
import HandS.Wide
import HandS.IsInst
import HandS.Defaults
import HandS.EndBits
import HandS.ExcIs
import HandS.Head0
import HandS.Head1
import HandS.Head2
import HandS.HeadEnd
import HandS.HeadHook1
import HandS.HeadHook2
import HandS.HeadHook3
import HandS.HeadHook4
import PySem.Challenge.RW_truthgrades_k02_fractions_reckoned
set_option Elab.async false
set_option linter.all false
set_option maxRecDepth 100000
set_option maxHeartbeats 4000000
namespace L2.Sh
open PySem PySem.Spec PyProof.Rows L2
/-- values of the plain side: tuples are data, lists and dicts stand in a heap of their own -/
inductive IV where
  | non | bl (b : Bool) | int (i : Int) | str (x : Str) | tup (xs : List IV) | ref (n : Nat) | scr (ns : List Int) | exc (name fld : Str) (val : List IV)
inductive IO where
  | lst (xs : List IV) | dK (kvs : List (Key × IV)) | dT (kvs : List (List Key × IV))
abbrev IH := List IO
structure Exc where
  name : Str
  fld : Str
  val : List IV
abbrev Env := List (Option IV)
abbrev Res (α : Type) := Option (Except Exc α × IH)
abbrev M (α : Type) := IH → Res α

def stab : HO → Bool
  | .lst _ => false | .dK _ => false | .dT _ => false | .set _ _ => false | _ => true
def Ev (φ : List Addr) (H : Hp) (φ' : List Addr) (H' : Hp) : Prop := (∃ ψ, φ' = φ ++ ψ) ∧ ∀ a o, H a = some o → stab o = true → H' a = some o
theorem Ev.refl (φ : List Addr) (H : Hp) : Ev φ H φ H := ⟨⟨[], (List.append_nil φ).symm⟩, fun _ _ h _ => h⟩
theorem Ev.trans {φ1 φ2 φ3 : List Addr} {H1 H2 H3 : Hp} (a : Ev φ1 H1 φ2 H2) (b : Ev φ2 H2 φ3 H3) : Ev φ1 H1 φ3 H3 := by
  obtain ⟨⟨p, rfl⟩, h1⟩ := a
  obtain ⟨⟨q, rfl⟩, h2⟩ := b
  exact ⟨⟨p ++ q, List.append_assoc _ _ _⟩, fun x o h s => h2 x o (h1 x o h s) s⟩
theorem Ev.at {φ φ' : List Addr} {H H' : Hp} (e : Ev φ H φ' H') {n : Nat} {a : Addr} (h : φ[n]? = some a) : φ'[n]? = some a := by
  obtain ⟨⟨p, rfl⟩, _⟩ := e
  rw [List.getElem?_append_left (List.getElem?_eq_some_iff.mp h).1]
  exact h
/-- a list that is never written -/
def StL (K : PySem.W.Frag) (H : Hp) (a : Addr) (xs : List V) : Prop :=
  (∃ o, H a = some (.frz o (.lst xs))) ∨
    ∃ (o : Obj) (its : Array Value) (n : Nat), K.lookup a = some o ∧ o.cls = .type "list" ∧ o.dict = none ∧ o.data = .seq its n ∧ its.size ≤ sizeLine ∧ Vals xs its.toList
theorem StL.sq {K : PySem.W.Frag} {H : Hp} {a : Addr} {xs : List V} (h : StL K H a xs) : SqL K H a xs := h.elim (fun z => .inl (.inr z)) .inr
theorem StL.ev {K : PySem.W.Frag} {φ φ' : List Addr} {H H' : Hp} {a : Addr} {xs : List V} (e : Ev φ H φ' H') (h : StL K H a xs) : StL K H' a xs :=
  h.elim (fun ⟨o, z⟩ => .inl ⟨o, e.2 _ _ z rfl⟩) .inr
theorem sqT_ev {K : PySem.W.Frag} {φ φ' : List Addr} {H H' : Hp} {a : Addr} {xs : List V} (e : Ev φ H φ' H') (h : SqT K H a xs) : SqT K H' a xs := by
  rcases h with (z | ⟨o, z⟩) | z
  · exact .inl (.inl (e.2 _ _ z rfl))
  · exact .inl (.inr ⟨o, e.2 _ _ z rfl⟩)
  · exact .inr z
/-- an exception that was caught and is held by a name -/
def ExT (cls : Value) (d : Option Addr) (a : Addr) : HO := .ext fun h => ∃ (oe : Obj) (vs : Array Value), h.get? a = some oe ∧ Zc cls d oe ∧ oe.data = .fields vs
mutual
inductive RV (K : PySem.W.Frag) (φ : List Addr) (H : Hp) : IV → V → Prop
  | non : RV K φ H .non .non
  | bl (b : Bool) : RV K φ H (.bl b) (.bl b)
  | int (i : Int) : RV K φ H (.int i) (.int i)
  | str (x : Str) : RV K φ H (.str x) (.str x)
  | tup {a : Addr} {xs : List IV} {vs : List V} : SqT K H a vs → RVs K φ H xs vs → RV K φ H (.tup xs) (.ref a)
  | ref {n : Nat} {a : Addr} : φ[n]? = some a → RV K φ H (.ref n) (.ref a)
  | scr {a : Addr} {ns : List Int} : StL K H a (ns.map V.int) → RV K φ H (.scr ns) (.ref a)
  | exc0 {a : Addr} {name fld : Str} : H a = some (ExT (.ref (He.ga K name)) none a) → RV K φ H (.exc name fld []) (.ref a)
  | exc1 {a dd : Addr} {name fld : Str} {y : IV} {u : V} : H a = some (ExT (.ref (He.ga K name)) (some dd) a) → H dd = some (.xd [(fld, u)]) → RV K φ H y u → RV K φ H (.exc name fld [y]) (.ref a)
inductive RVs (K : PySem.W.Frag) (φ : List Addr) (H : Hp) : List IV → List V → Prop
  | nil : RVs K φ H [] []
  | cons {x : IV} {xs : List IV} {v : V} {vs : List V} : RV K φ H x v → RVs K φ H xs vs → RVs K φ H (x :: xs) (v :: vs)
end
section
variable {K : PySem.W.Frag} {φ φ' : List Addr} {H H' : Hp}
mutual
theorem RV.ev (e : Ev φ H φ' H') : ∀ {x : IV} {v : V}, RV K φ H x v → RV K φ' H' x v
  | _, _, .non => .non
  | _, _, .bl b => .bl b
  | _, _, .int b => .int b
  | _, _, .str b => .str b
  | _, _, .tup h hs => .tup (sqT_ev e h) (RVs.ev e hs)
  | _, _, .ref h => .ref (e.at h)
  | _, _, .scr h => .scr (h.ev e)
  | _, _, .exc0 h => .exc0 (e.2 _ _ h rfl)
  | _, _, .exc1 h h2 r => .exc1 (e.2 _ _ h rfl) (e.2 _ _ h2 rfl) (RV.ev e r)
theorem RVs.ev (e : Ev φ H φ' H') : ∀ {xs : List IV} {vs : List V}, RVs K φ H xs vs → RVs K φ' H' xs vs
  | _, _, .nil => .nil
  | _, _, .cons h hs => .cons (RV.ev e h) (RVs.ev e hs)
end
theorem RVs.length : ∀ {xs : List IV} {vs : List V}, RVs K φ H xs vs → xs.length = vs.length
  | _, _, .nil => rfl
  | _, _, .cons _ hs => congrArg (· + 1) (RVs.length hs)
theorem RVs.get : ∀ {xs : List IV} {vs : List V} {i : Nat} {x : IV}, RVs K φ H xs vs → xs[i]? = some x → ∃ v, vs[i]? = some v ∧ RV K φ H x v
  | _, _, _, _, .nil, e => by simp at e
  | _, _, 0, _, .cons r _, e => by simp at e; subst e; exact ⟨_, rfl, r⟩
  | _, _, i + 1, x, .cons _ t, e => by
    obtain ⟨u, h1, h2⟩ := RVs.get (i := i) (x := x) t (by simpa using e)
    exact ⟨u, by simpa using h1, h2⟩
theorem RVs.append : ∀ {xs ys : List IV} {us ws : List V}, RVs K φ H xs us → RVs K φ H ys ws → RVs K φ H (xs ++ ys) (us ++ ws)
  | _, _, _, _, .nil, s => s
  | _, _, _, _, .cons r t, s => .cons r (RVs.append t s)
theorem RVs.take : ∀ {xs : List IV} {us : List V} (n : Nat), RVs K φ H xs us → RVs K φ H (xs.take n) (us.take n)
  | _, _, 0, _ => .nil
  | _, _, _ + 1, .nil => .nil
  | _, _, n + 1, .cons r t => .cons r (RVs.take n t)
theorem RVs.drop : ∀ {xs : List IV} {us : List V} (n : Nat), RVs K φ H xs us → RVs K φ H (xs.drop n) (us.drop n)
  | _, _, 0, r => r
  | _, _, _ + 1, .nil => .nil
  | _, _, n + 1, .cons _ t => RVs.drop n t
theorem RVs.set {x : IV} {u : V} (r : RV K φ H x u) : ∀ {xs : List IV} {us : List V} (i : Nat), RVs K φ H xs us → RVs K φ H (xs.set i x) (us.set i u)
  | _, _, _, .nil => .nil
  | _, _, 0, .cons _ t => .cons r t
  | _, _, i + 1, .cons q t => .cons q (RVs.set r i t)
theorem RVs.eraseIdx : ∀ {xs : List IV} {us : List V} (i : Nat), RVs K φ H xs us → RVs K φ H (xs.eraseIdx i) (us.eraseIdx i)
  | _, _, _, .nil => .nil
  | _, _, 0, .cons _ t => t
  | _, _, i + 1, .cons q t => .cons q (RVs.eraseIdx i t)
theorem RVs.ints : ∀ ns : List Int, RVs K φ H (ns.map IV.int) (ns.map V.int)
  | [] => .nil
  | n :: ns => .cons (.int n) (RVs.ints ns)
theorem RVs.strs : ∀ ns : List Str, RVs K φ H (ns.map IV.str) (ns.map V.str)
  | [] => .nil
  | n :: ns => .cons (.str n) (RVs.strs ns)
theorem RVs.bls : ∀ ns : List Bool, RVs K φ H (ns.map IV.bl) (ns.map V.bl)
  | [] => .nil
  | n :: ns => .cons (.bl n) (RVs.bls ns)
theorem RVs.ints_eq : ∀ {ns : List Int} {vs : List V}, RVs K φ H (ns.map IV.int) vs → vs = ns.map V.int
  | [], _, .nil => rfl
  | _ :: ns, _, .cons (.int _) t => by rw [RVs.ints_eq (ns := ns) t]; rfl
theorem RVs.strs_eq : ∀ {ns : List Str} {vs : List V}, RVs K φ H (ns.map IV.str) vs → vs = ns.map V.str
  | [], _, .nil => rfl
  | _ :: ns, _, .cons (.str _) t => by rw [RVs.strs_eq (ns := ns) t]; rfl
theorem RVs.bls_eq : ∀ {ns : List Bool} {vs : List V}, RVs K φ H (ns.map IV.bl) vs → vs = ns.map V.bl
  | [], _, .nil => rfl
  | _ :: ns, _, .cons (.bl _) t => by rw [RVs.bls_eq (ns := ns) t]; rfl
theorem RVs.reverse {xs : List IV} {vs : List V} (h : RVs K φ H xs vs) : RVs K φ H xs.reverse vs.reverse := by
  induction xs generalizing vs with
  | nil => cases h; exact .nil
  | cons x xs ih =>
    cases h with
    | cons a b =>
      rw [List.reverse_cons, List.reverse_cons]
      exact (ih b).append (.cons a .nil)
end
/-- pairs of a dict -/
def RKs {κ : Type} (K : PySem.W.Frag) (φ : List Addr) (H : Hp) : List (κ × IV) → List (κ × V) → Prop := Paired fun p q => p.1 = q.1 ∧ RV K φ H p.2 q.2
theorem RKs.ev {κ : Type} {K : PySem.W.Frag} {φ φ' : List Addr} {H H' : Hp} (e : Ev φ H φ' H') {a : List (κ × IV)} {b : List (κ × V)} (h : RKs K φ H a b) : RKs K φ' H' a b :=
  Paired.mapP h fun _ _ z => ⟨z.1, z.2.ev e⟩
def RO (K : PySem.W.Frag) (φ : List Addr) (H : Hp) (a : Addr) : IO → Prop
  | .lst xs => ∃ vs, H a = some (.lst vs) ∧ RVs K φ H xs vs
  | .dK kvs => ∃ vs, H a = some (.dK vs) ∧ RKs K φ H kvs vs
  | .dT kvs => ∃ vs, H a = some (.dT vs) ∧ RKs K φ H kvs vs
theorem RO.ev {K : PySem.W.Frag} {φ φ' : List Addr} {H H' : Hp} {a : Addr} {o : IO} (e : Ev φ H φ' H') (he : H' a = H a) (h : RO K φ H a o) : RO K φ' H' a o := by
  cases o with
  | lst xs => obtain ⟨vs, q, r⟩ := h; exact ⟨vs, he.trans q, r.ev e⟩
  | dK xs => obtain ⟨vs, q, r⟩ := h; exact ⟨vs, he.trans q, r.ev e⟩
  | dT xs => obtain ⟨vs, q, r⟩ := h; exact ⟨vs, he.trans q, r.ev e⟩
theorem RO.un {K : PySem.W.Frag} {φ : List Addr} {H : Hp} {a : Addr} {o : IO} (h : RO K φ H a o) : ∃ u, H a = some u ∧ stab u = false := by
  cases o with
  | lst xs => obtain ⟨vs, q, r⟩ := h; exact ⟨_, q, rfl⟩
  | dK xs => obtain ⟨vs, q, r⟩ := h; exact ⟨_, q, rfl⟩
  | dT xs => obtain ⟨vs, q, r⟩ := h; exact ⟨_, q, rfl⟩
structure RH (K : PySem.W.Frag) (φ : List Addr) (H : Hp) (h : IH) : Prop where
  len : φ.length = h.length
  nd : φ.Nodup
  obj : ∀ (n : Nat) (o : IO) (a : Addr), h[n]? = some o → φ[n]? = some a → RO K φ H a o
section
variable {K : PySem.W.Frag} {φ φ' : List Addr} {H H' : Hp} {h : IH}
theorem RH.addr (r : RH K φ H h) {n : Nat} {o : IO} (e : h[n]? = some o) : ∃ a, φ[n]? = some a ∧ RO K φ H a o := by
  have hl := (List.getElem?_eq_some_iff.mp e).1
  have h2 : n < φ.length := by rw [r.len]; exact hl
  exact ⟨φ[n], List.getElem?_eq_getElem h2, r.obj n o _ e (List.getElem?_eq_getElem h2)⟩
theorem RH.ob (r : RH K φ H h) {n : Nat} {a : Addr} (e : φ[n]? = some a) : ∃ o, h[n]? = some o ∧ RO K φ H a o := by
  have hl := (List.getElem?_eq_some_iff.mp e).1
  have h2 : n < h.length := by rw [← r.len]; exact hl
  exact ⟨h[n], List.getElem?_eq_getElem h2, r.obj n _ _ (List.getElem?_eq_getElem h2) e⟩
theorem RH.out (r : RH K φ H h) {p : Addr} (hp : H p = none) : p ∉ φ := fun hm => by
  obtain ⟨n, e⟩ := List.getElem?_of_mem hm
  obtain ⟨o, _, ro⟩ := r.ob e
  obtain ⟨u, q, _⟩ := ro.un
  rw [hp] at q; cases q
theorem ev_new {p : Addr} {u : HO} (hp : H p = none) (ψ : List Addr) : Ev φ H (φ ++ ψ) (upd H p u) :=
  ⟨⟨ψ, rfl⟩, fun a o e _ => by rw [upd_ne (ne_of_none e hp)]; exact e⟩
theorem ev_new0 {p : Addr} {u : HO} (hp : H p = none) : Ev φ H φ (upd H p u) :=
  ⟨⟨[], (List.append_nil φ).symm⟩, fun a o e _ => by rw [upd_ne (ne_of_none e hp)]; exact e⟩
theorem ev_put {p : Addr} {u u' : HO} (hp : H p = some u) (hs : stab u = false) : Ev φ H φ (upd H p u') :=
  ⟨⟨[], (List.append_nil φ).symm⟩, fun a o e s => by
    have n : a ≠ p := fun z => by
      subst z
      rw [e] at hp
      cases hp
      rw [s] at hs; cases hs
    rw [upd_ne n]; exact e⟩
/-- a new thing that is none of the heap's own (a tuple) -/
theorem RH.beside (r : RH K φ H h) {p : Addr} {u : HO} (hp : H p = none) : RH K φ (upd H p u) h :=
  ⟨r.len, r.nd, fun n o a e1 e2 => by
    have ro := r.obj n o a e1 e2
    obtain ⟨w, q, _⟩ := ro.un
    exact ro.ev (ev_new0 hp) (by rw [upd_ne (ne_of_none q hp)])⟩
theorem RH.alloc (r : RH K φ H h) {p : Addr} {u : HO} {o : IO} (hp : H p = none) (ho : RO K (φ ++ [p]) (upd H p u) p o) : RH K (φ ++ [p]) (upd H p u) (h ++ [o]) := by
  refine ⟨by rw [List.length_append, List.length_append, r.len]; rfl, ?_, fun n o' a e1 e2 => ?_⟩
  · rw [List.nodup_append]
    refine ⟨r.nd, by simp, fun a ha b hb => ?_⟩
    rw [List.mem_singleton] at hb
    subst hb
    exact fun z => r.out hp (z ▸ ha)
  · by_cases hn : n < h.length
    · rw [List.getElem?_append_left hn] at e1
      rw [List.getElem?_append_left (by rw [r.len]; exact hn)] at e2
      have ro := r.obj n o' a e1 e2
      obtain ⟨w, q, _⟩ := ro.un
      exact ro.ev (ev_new hp [p]) (by rw [upd_ne (ne_of_none q hp)])
    · have hn' : h.length ≤ n := Nat.le_of_not_lt hn
      rw [List.getElem?_append_right hn'] at e1
      rw [List.getElem?_append_right (by rw [r.len]; exact hn'), r.len] at e2
      cases hk : n - h.length with
      | zero =>
        rw [hk] at e1 e2
        cases e1; cases e2
        exact ho
      | succ k => rw [hk] at e1; simp at e1
theorem RH.put (r : RH K φ H h) {p : Addr} {u : HO} {o : IO} {n : Nat} (hn : φ[n]? = some p) (ho : RO K φ (upd H p u) p o) : RH K φ (upd H p u) (h.set n o) := by
  obtain ⟨o0, e0, r0⟩ := r.ob hn
  obtain ⟨w, q, hs⟩ := r0.un
  refine ⟨by rw [List.length_set]; exact r.len, r.nd, fun m o' a e1 e2 => ?_⟩
  by_cases hm : m = n
  · subst hm
    rw [hn] at e2; cases e2
    rw [List.getElem?_set_self (List.getElem?_eq_some_iff.mp e0).1] at e1
    cases e1
    exact ho
  · rw [List.getElem?_set_ne (Ne.symm hm)] at e1
    have ro := r.obj m o' a e1 e2
    refine ro.ev (ev_put q hs) ?_
    refine upd_ne fun z => hm ?_
    subst z
    obtain ⟨l1, g1⟩ := List.getElem?_eq_some_iff.mp e2
    obtain ⟨l2, g2⟩ := List.getElem?_eq_some_iff.mp hn
    exact (List.getElem_inj r.nd).mp (g1.trans g2.symm)
end
/-- the slots -/
inductive REnv (K : PySem.W.Frag) (φ : List Addr) (H : Hp) : Env → St → Prop
  | nil : REnv K φ H [] []
  | cons {o : Option IV} {s : Option V} {env : Env} {σ : St} : (∀ x, o = some x → ∃ v, s = some v ∧ RV K φ H x v) → REnv K φ H env σ → REnv K φ H (o :: env) (s :: σ)
section
variable {K : PySem.W.Frag} {φ φ' : List Addr} {H H' : Hp}
theorem REnv.ev (e : Ev φ H φ' H') : ∀ {env : Env} {σ : St}, REnv K φ H env σ → REnv K φ' H' env σ
  | _, _, .nil => .nil
  | _, _, .cons a b => .cons (fun x hx => let ⟨v, e1, r⟩ := a x hx; ⟨v, e1, r.ev e⟩) (REnv.ev e b)
theorem REnv.get : ∀ {env : Env} {σ : St} {i : Nat} {x : IV}, REnv K φ H env σ → env[i]? = some (some x) → ∃ v, σ[i]? = some (some v) ∧ RV K φ H x v
  | _, _, _, _, .nil, e => by simp at e
  | _, _, 0, _, .cons a _, e => by
    simp at e
    obtain ⟨v, e1, r⟩ := a _ e
    exact ⟨v, by rw [e1]; rfl, r⟩
  | _, _, i + 1, x, .cons _ t, e => by
    obtain ⟨u, h1, h2⟩ := REnv.get (i := i) (x := x) t (by simpa using e)
    exact ⟨u, by simpa using h1, h2⟩
theorem REnv.set {x : IV} {v : V} (r : RV K φ H x v) : ∀ {env : Env} {σ : St} (i : Nat), REnv K φ H env σ → REnv K φ H (env.set i (some x)) (σ.set i (some v))
  | _, _, _, .nil => .nil
  | _, _, 0, .cons _ t => .cons (fun y hy => by cases hy; exact ⟨v, rfl, r⟩) t
  | _, _, i + 1, .cons q t => .cons q (REnv.set r i t)
theorem REnv.unset : ∀ {env : Env} {σ : St} (i : Nat) (s : Option V), REnv K φ H env σ → REnv K φ H (env.set i none) (σ.set i s)
  | _, _, _, _, .nil => .nil
  | _, _, 0, _, .cons _ t => .cons (fun y hy => by cases hy) t
  | _, _, i + 1, s, .cons q t => .cons q (REnv.unset i s t)
theorem REnv.start {xs : List IV} {vs : List V} (r : RVs K φ H xs vs) (n : Nat) : REnv K φ H (xs.map some ++ List.replicate n none) (vs.map some ++ List.replicate n none) := by
  induction xs generalizing vs with
  | nil =>
    cases r
    show REnv K φ H (List.replicate n none) (List.replicate n none)
    induction n with
    | zero => exact .nil
    | succ n ih => exact .cons (fun _ z => by cases z) ih
  | cons x xs ih =>
    cases r with
    | cons a b => exact .cons (fun y hy => by cases hy; exact ⟨_, rfl, a⟩) (ih b)
end
def RX (K : PySem.W.Frag) (mg : Str → Option Value) (φ : List Addr) (H : Hp) (x : Exc) (cls : Value) (d : Option Addr) : Prop :=
  cls = .ref (He.ga K x.name) ∧ ((x.val = [] ∧ d = none) ∨ ∃ dd y u, x.val = [y] ∧ d = some dd ∧ H dd = some (.xd [(x.fld, u)]) ∧ RV K φ H y u)

/-! ### what is told behind -/
def Post (K : PySem.W.Frag) (mg : Str → Option Value) {α β : Type} (R : List Addr → Hp → α → β → Prop) (φ : List Addr) (H : Hp) (W : XK) (Q : β → Hp → Prop) : Res α → Prop
  | none => False
  | some (.ok a, h') => ∀ φ' H' b, Ev φ H φ' H' → RH K φ' H' h' → R φ' H' a b → Q b H'
  | some (.error x, h') => ∀ φ' H' cls d, Ev φ H φ' H' → RH K φ' H' h' → RX K mg φ' H' x cls d → W cls d H'
section
variable {K : PySem.W.Frag} {mg : Str → Option Value} {α β γ δ : Type} {R : List Addr → Hp → α → β → Prop} {R' : List Addr → Hp → γ → δ → Prop} {φ φ0 : List Addr} {H H0 : Hp} {W : XK}
theorem Post.mono {Q Q' : β → Hp → Prop} {r : Res α} (p : Post K mg R φ H W Q r) (f : ∀ b H', Q b H' → Q' b H') : Post K mg R φ H W Q' r := by
  match r, p with
  | some (.ok a, h'), p => exact fun φ' H' b e rh rr => f _ _ (p φ' H' b e rh rr)
  | some (.error x, h'), p => exact p
def bnd (m : M α) (f : α → M γ) : M γ := fun h => match m h with
  | none => none
  | some (.error x, h') => some (.error x, h')
  | some (.ok a, h') => f a h'
def ret (a : α) : M α := fun h => some (.ok a, h)
theorem Post.bnd {Q : δ → Hp → Prop} {m : M α} {f : α → M γ} {h : IH} (p : Post K mg R' φ0 H0 W Q (bnd m f h)) (e0 : Ev φ0 H0 φ H) {Q' : β → Hp → Prop}
    (k : ∀ φ' H' a b h', Ev φ H φ' H' → RH K φ' H' h' → R φ' H' a b → Post K mg R' φ0 H0 W Q (f a h') → Q' b H') : Post K mg R φ H W Q' (m h) := by
  unfold L2.Sh.bnd at p
  cases hm : m h with
  | none => rw [hm] at p; exact p
  | some ah =>
    obtain ⟨a, h'⟩ := ah
    rw [hm] at p
    cases a with
    | error x => exact fun φ' H' cls d e rh rx => p φ' H' cls d (e0.trans e) rh rx
    | ok a => exact fun φ' H' b e rh rr => k φ' H' a b h' e rh rr p
end
end L2.Sh

namespace L2.Sh
open PySem PySem.Spec PyProof.Rows L2

/-! ### plain words of expressions -/
def lift {α : Type} (f : IH → Option (α × IH)) : M α := fun h => match f h with
  | none => none
  | some (a, h') => some (.ok a, h')
def eVar (i : Nat) : Env → M IV := fun env h => match env[i]? with
  | some (some x) => some (.ok x, h)
  | _ => none
def eC (x : IV) : Env → M IV := fun _ h => some (.ok x, h)
abbrev O2 := IV → IV → IH → Option (IV × IH)
def eOp (o : O2) (a b : Env → M IV) : Env → M IV := fun env => bnd (a env) fun x => bnd (b env) fun y => lift (o x y)
def eUn (o : IV → IH → Option (IV × IH)) (a : Env → M IV) : Env → M IV := fun env => bnd (a env) fun x => lift (o x)
def aNil : Env → M (List IV) := fun _ h => some (.ok [], h)
def aCons (a : Env → M IV) (b : Env → M (List IV)) : Env → M (List IV) := fun env => bnd (a env) fun x => bnd (b env) fun xs h => some (.ok (x :: xs), h)
def eTup (a : Env → M (List IV)) : Env → M IV := fun env => bnd (a env) fun xs h => if xs.length ≤ 16777216 then some (.ok (.tup xs), h) else none
def eLst (a : Env → M (List IV)) : Env → M IV := fun env => bnd (a env) fun xs h => if xs.length ≤ 16777216 then some (.ok (.ref h.length), h ++ [.lst xs]) else none
def eCB (o : List IV → IH → Option (IV × IH)) (a : Env → M (List IV)) : Env → M IV := fun env => bnd (a env) fun xs => lift (o xs)
def orO (o1 o2 : O2) : O2 := fun x y h => match o1 x y h with
  | some z => some z
  | none => o2 x y h
def or1 (o1 o2 : List IV → IH → Option (IV × IH)) : List IV → IH → Option (IV × IH) := fun x h => match o1 x h with
  | some z => some z
  | none => o2 x h

/-! ### soundness -/
section
variable (K : PySem.W.Frag) (mg : Str → Option Value) (W : WX)
def SimE (t : TE) (m : Env → M IV) : Prop := ∀ σ H Q φ h env, REnv K φ H env σ → RH K φ H h → Post K mg (RV K) φ H (WE W σ) Q (m env h) → t σ H Q
def SimT (t : TT) (m : Env → M Bool) : Prop := ∀ σ H Q φ h env, REnv K φ H env σ → RH K φ H h → Post K mg (fun _ _ (a b : Bool) => a = b) φ H (WE W σ) Q (m env h) → t σ H Q
def SimA (t : TA) (m : Env → M (List IV)) : Prop := ∀ σ H Q φ h env, REnv K φ H env σ → RH K φ H h → Post K mg (RVs K) φ H (WE W σ) Q (m env h) → t σ H Q
def PostO {α β : Type} (R : List Addr → Hp → α → β → Prop) (φ : List Addr) (H : Hp) (Q : β → Hp → Prop) : Option (α × IH) → Prop
  | none => False
  | some (a, h') => ∀ φ' H' b, Ev φ H φ' H' → RH K φ' H' h' → R φ' H' a b → Q b H'
end
theorem PostO.of {K : PySem.W.Frag} {mg : Str → Option Value} {α β : Type} {R : List Addr → Hp → α → β → Prop} {φ φ0 : List Addr} {H H0 : Hp} {W : XK} {Q : β → Hp → Prop} {f : IH → Option (α × IH)} {h : IH}
    (p : Post K mg R φ0 H0 W Q (lift f h)) (e : Ev φ0 H0 φ H) : PostO K R φ H Q (f h) := by
  unfold lift at p
  cases hf : f h with
  | none => rw [hf] at p; exact p
  | some z =>
    obtain ⟨a, h'⟩ := z
    rw [hf] at p
    exact fun φ' H' b e' rh r => p φ' H' b (e.trans e') rh r
/-- what came is at hand where nothing else is done -/
theorem PostO.give {K : PySem.W.Frag} {α β : Type} {R : List Addr → Hp → α → β → Prop} {φ : List Addr} {H : Hp} {Q : β → Hp → Prop} {a : α} {b : β} {h : IH}
    (p : PostO K R φ H Q (some (a, h))) (rh : RH K φ H h) (r : R φ H a b) : Q b H := p φ H b (Ev.refl _ _) rh r
structure SE (X : Cx) (W : WX) (e : Expr) (t : TE) (m : Env → M IV) : Prop where
  pe : PE X e t
  sim : SimE X.K X.mg W t m
structure ST (X : Cx) (W : WX) (e : Expr) (t : TT) (m : Env → M Bool) : Prop where
  pe : PT X e t
  sim : SimT X.K X.mg W t m
structure SA (X : Cx) (W : WX) (e : List Expr) (t : TA) (m : Env → M (List IV)) : Prop where
  pe : PA X e t
  sim : SimA X.K X.mg W t m
def SimR (K : PySem.W.Frag) (r : R2) (o : O2) : Prop := ∀ H Q φ h x y vx vy, RH K φ H h → RV K φ H x vx → RV K φ H y vy → PostO K (RV K) φ H Q (o x y h) → r vx vy H Q
structure SOp (X : Cx) (f : Value → Value → Sem Value) (r : R2) (o : O2) : Prop where
  op : OpR X f r
  sim : SimR X.K r o
def SimC (K : PySem.W.Frag) (r : List V → Hp → VK → Prop) (o : List IV → IH → Option (IV × IH)) : Prop := ∀ H Q φ h xs vs, RH K φ H h → RVs K φ H xs vs → PostO K (RV K) φ H Q (o xs h) → r vs H Q
structure SCall (X : Cx) (f : Value) (r : List V → Hp → VK → Prop) (o : List IV → IH → Option (IV × IH)) : Prop where
  op : CallR X f r
  sim : SimC X.K r o
section
variable {X : Cx} {W : WX}
theorem se_var {e : Expr} {i : Nat} (h : PE X e (tVar i)) : SE X W e (tVar i) (eVar i) := ⟨h, fun σ H Q φ h env re rh p => by
  unfold eVar at p
  cases e : env[i]? with
  | none => rw [e] at p; exact p.elim
  | some y =>
    rw [e] at p
    cases y with
    | none => exact p.elim
    | some x =>
      obtain ⟨v, e1, r⟩ := re.get e
      exact ⟨v, e1, p φ H v (Ev.refl _ _) rh r⟩⟩
theorem se_const {e : Expr} {v : V} {x : IV} (h : PE X e (tC v)) (r : ∀ φ H, RV X.K φ H x v) : SE X W e (tC v) (eC x) := ⟨h, fun σ H Q φ h env re rh p => p φ H v (Ev.refl _ _) rh (r φ H)⟩
theorem se_int {i j pos} : SE X W (.Constant (.int i) j pos) (tC (.int i)) (eC (.int i)) := se_const pe_int fun _ _ => .int _
theorem se_bl {i j pos} : SE X W (.Constant (.bool i) j pos) (tC (.bl i)) (eC (.bl i)) := se_const pe_bl fun _ _ => .bl _
theorem se_str {i j pos} : SE X W (.Constant (.str i) j pos) (tC (.str i)) (eC (.str i)) := se_const pe_str fun _ _ => .str _
theorem se_non {j pos} : SE X W (.Constant .none j pos) (tC .non) (eC .non) := se_const pe_non fun _ _ => .non
theorem sim_op {K : PySem.W.Frag} {mg : Str → Option Value} {r : R2} {o : O2} {ta tb : TE} {ma mb : Env → M IV} (ho : SimR K r o) (ha : SimE K mg W ta ma) (hb : SimE K mg W tb mb) : SimE K mg W (tOp r ta tb) (eOp o ma mb) := by
  intro σ H Q φ h env re rh p
  refine ha σ H _ φ h env re rh (p.bnd (Ev.refl _ _) fun φ1 H1 x v h1 e1 rh1 r1 p1 => ?_)
  refine hb σ H1 _ φ1 h1 env (re.ev e1) rh1 (p1.bnd e1 fun φ2 H2 y u h2 e2 rh2 r2 p2 => ?_)
  exact ho H2 Q φ2 h2 x y v u rh2 (r1.ev e2) r2 (PostO.of p2 (e1.trans e2))
theorem se_op {op : Operator} {r : R2} {o : O2} {a b : Expr} {ta tb : TE} {ma mb : Env → M IV} {pos : Pos} (ho : SOp X (binaryOp op) r o) (ha : SE X W a ta ma) (hb : SE X W b tb mb) : SE X W (.BinOp a op b pos) (tOp r ta tb) (eOp o ma mb) :=
  ⟨pe_op ho.op ha.pe hb.pe, sim_op ho.sim ha.sim hb.sim⟩
theorem se_cmp {op : CmpOp} {r : R2} {o : O2} {a b : Expr} {ta tb : TE} {ma mb : Env → M IV} {pos : Pos} (ho : SOp X (compareOp op) r o) (ha : SE X W a ta ma) (hb : SE X W b tb mb) (hm : behindInMarks op b = false) : SE X W (.Compare a [op] [b] pos) (tOp r ta tb) (eOp o ma mb) :=
  ⟨pe_cmpR ho.op ha.pe hb.pe hm, sim_op ho.sim ha.sim hb.sim⟩
theorem se_ix {r : R2} {o : O2} {a b : Expr} {ta tb : TE} {ma mb : Env → M IV} {pos : Pos} (ho : IxR X r) (hs : SimR X.K r o) (ha : SE X W a ta ma) (hb : SE X W b tb mb) (hp : PlainIx b) : SE X W (.Subscript a b pos) (tOp r ta tb) (eOp o ma mb) :=
  ⟨pe_ix ho ha.pe hb.pe hp, sim_op hs ha.sim hb.sim⟩
theorem SimR.or {K : PySem.W.Frag} {r1 r2 : R2} {o1 o2 : O2} (a : SimR K r1 o1) (b : SimR K r2 o2) : SimR K (fun x y H Q => r1 x y H Q ∨ r2 x y H Q) (orO o1 o2) := by
  intro H Q φ h x y vx vy rh rx ry p
  unfold orO at p
  cases e : o1 x y h with
  | none => rw [e] at p; exact .inr (b H Q φ h x y vx vy rh rx ry p)
  | some z => rw [e] at p; exact .inl (a H Q φ h x y vx vy rh rx ry (by rw [e]; exact p))
theorem SOp.or {f : Value → Value → Sem Value} {r1 r2 : R2} {o1 o2 : O2} (a : SOp X f r1 o1) (b : SOp X f r2 o2) : SOp X f (fun x y H Q => r1 x y H Q ∨ r2 x y H Q) (orO o1 o2) := ⟨a.op.or b.op, a.sim.or b.sim⟩
theorem CallR.or {f : Value} {r r' : List V → Hp → VK → Prop} (h : CallR X f r) (h' : CallR X f r') : CallR X f (fun x H Q => r x H Q ∨ r' x H Q) := by
  intro pins s σ H xs us Q I rx q
  rcases q with q | q
  · exact h pins s σ H xs us Q I rx q
  · exact h' pins s σ H xs us Q I rx q
theorem SCall.or {f : Value} {r1 r2 : List V → Hp → VK → Prop} {o1 o2} (a : SCall X f r1 o1) (b : SCall X f r2 o2) : SCall X f (fun x H Q => r1 x H Q ∨ r2 x H Q) (or1 o1 o2) := ⟨a.op.or b.op, by
  intro H Q φ h xs vs rh rx p
  unfold or1 at p
  cases e : o1 xs h with
  | none => rw [e] at p; exact .inr (b.sim H Q φ h xs vs rh rx p)
  | some z => rw [e] at p; exact .inl (a.sim H Q φ h xs vs rh rx (by rw [e]; exact p))⟩
theorem sim_un {K : PySem.W.Frag} {mg : Str → Option Value} {r : V → Hp → VK → Prop} {o : IV → IH → Option (IV × IH)} {ta : TE} {ma : Env → M IV} (ho : ∀ H Q φ h x vx, RH K φ H h → RV K φ H x vx → PostO K (RV K) φ H Q (o x h) → r vx H Q) (ha : SimE K mg W ta ma) :
    SimE K mg W (tUn r ta) (eUn o ma) := by
  intro σ H Q φ h env re rh p
  refine ha σ H _ φ h env re rh (p.bnd (Ev.refl _ _) fun φ1 H1 x v h1 e1 rh1 r1 p1 => ?_)
  exact ho H1 Q φ1 h1 x v rh1 r1 (PostO.of p1 e1)
def negO : IV → IH → Option (IV × IH)
  | .int i, h => some (.int (-i), h)
  | _, _ => none
theorem se_neg {a : Expr} {ta : TE} {ma : Env → M IV} {pos : Pos} (ha : SE X W a ta ma) : SE X W (.UnaryOp .USub a pos) (tUn (rU fun i => .int (-i)) ta) (eUn negO ma) :=
  ⟨pe_un un_neg ha.pe, sim_un (fun H Q φ h x vx rh rx p => by
    cases rx <;> first | exact p.elim | skip
    rename_i i
    exact ⟨i, rfl, PostO.give p rh (.int _)⟩) ha.sim⟩
/-! arguments -/
theorem sa_nil : SA X W [] tNil aNil := ⟨pa_nil, fun σ H Q φ h env re rh p => p φ H [] (Ev.refl _ _) rh .nil⟩
theorem sa_cons {e : Expr} {es : List Expr} {te : TE} {t : TA} {me : Env → M IV} {m : Env → M (List IV)} (ha : SE X W e te me) (hr : SA X W es t m) (hs : starEach (e :: es) X.env = (false, eval e X.env) :: starEach es X.env := by rfl) : SA X W (e :: es) (tCons te t) (aCons me m) := by
  refine ⟨pa_cons ha.pe hr.pe hs, ?_⟩
  intro σ H Q φ h env re rh p
  refine ha.sim σ H _ φ h env re rh (p.bnd (Ev.refl _ _) fun φ1 H1 x v h1 e1 rh1 r1 p1 => ?_)
  refine hr.sim σ H1 _ φ1 h1 env (re.ev e1) rh1 (p1.bnd e1 fun φ2 H2 y u h2 e2 rh2 r2 p2 => ?_)
  exact p2 φ2 H2 _ (e1.trans e2) rh2 (.cons (r1.ev e2) r2)
theorem line16 : sizeLine = 16777216 := sizeLine_eq
theorem se_tup {es : List Expr} {t : TA} {m : Env → M (List IV)} {x1} {pos : Pos} (ha : SA X W es t m) : SE X W (.Tuple es x1 pos) (tTup t) (eTup m) := by
  refine ⟨pe_tup ha.pe, ?_⟩
  intro σ H Q φ h env re rh p
  refine ha.sim σ H _ φ h env re rh (p.bnd (Ev.refl _ _) fun φ1 H1 xs vs h1 e1 rh1 r1 p1 => ?_)
  split at p1
  · rename_i hl
    refine ⟨by rw [line16, ← r1.length]; exact hl, fun q hq => ?_⟩
    have e2 : Ev φ1 H1 φ1 (upd H1 q (.tup vs)) := ev_new0 hq
    exact p1 φ1 _ _ (e1.trans e2) (rh1.beside hq) (.tup (.inl (.inl upd_same)) (r1.ev e2))
  · exact p1.elim
theorem post_new {K : PySem.W.Frag} {φ : List Addr} {H : Hp} {h : IH} {q : Addr} {u : HO} {o : IO} {Q : VK} (rh : RH K φ H h) (hq : H q = none) (ro : RO K (φ ++ [q]) (upd H q u) q o)
    (p : PostO K (RV K) φ H Q (some (.ref h.length, h ++ [o]))) : Q (.ref q) (upd H q u) := by
  have e2 : Ev φ H (φ ++ [q]) (upd H q u) := ev_new hq [q]
  refine p _ _ _ e2 (rh.alloc hq ro) (.ref ?_)
  rw [← rh.len]
  simp
theorem se_lst {es : List Expr} {t : TA} {m : Env → M (List IV)} {pos : Pos} (ha : SA X W es t m) : SE X W (.List es pos) (tLst t) (eLst m) := by
  refine ⟨pe_lst ha.pe, ?_⟩
  intro σ H Q φ h env re rh p
  refine ha.sim σ H _ φ h env re rh (p.bnd (Ev.refl _ _) fun φ1 H1 xs vs h1 e1 rh1 r1 p1 => ?_)
  split at p1
  · rename_i hl
    refine ⟨by rw [line16, ← r1.length]; exact hl, fun q hq => ?_⟩
    refine post_new (o := .lst xs) rh1 hq ⟨vs, upd_same, r1.ev (ev_new hq [q])⟩ ?_
    exact fun φ' H' b e' rh' r' => p1 φ' H' b (e1.trans e') rh' r'
  · exact p1.elim
theorem se_callB {id : String} {r : List V → Hp → VK → Prop} {o : List IV → IH → Option (IV × IH)} {x : Str} {e : Expr} {es : List Expr} {t : TA} {m : Env → M (List IV)} {p pos : Pos} (hc : SCall X (.builtin id) r o) (hg : Gl X x) (hm : X.mg x = none) (hv : bootBuiltins x = some (.builtin id)) (ha : SA X W (e :: es) t m) (hn : x ≠ "__name__" := by decide) (hdb : (x == ("__debug__" : Str)) = false := by decide)
    (he : starEach (e :: es) X.env = (false, eval e X.env) :: starEach es X.env := by rfl) (hpl : (backTo pos (starEach es X.env)).any (·.1) = false := by rfl) : SE X W (.Call (.Name x p) (e :: es) [] pos) (tCB r t) (eCB o m) := by
  refine ⟨pe_callB hc.op hg hm hv ha.pe hn hdb he hpl, ?_⟩
  intro σ H Q φ h env re rh p
  refine ha.sim σ H _ φ h env re rh (p.bnd (Ev.refl _ _) fun φ1 H1 xs vs h1 e1 rh1 r1 p1 => ?_)
  exact hc.sim H1 Q φ1 h1 xs vs rh1 r1 (PostO.of p1 e1)
theorem se_callTy {T : String} {r : List V → Hp → VK → Prop} {o : List IV → IH → Option (IV × IH)} {x : Str} {e : Expr} {es : List Expr} {t : TA} {m : Env → M (List IV)} {p pos : Pos} (hc : SCall X (.type T) r o) (hg : Gl X x) (hm : X.mg x = none) (hv : bootBuiltins x = some (.type T)) (ha : SA X W (e :: es) t m) (hn : x ≠ "__name__" := by decide) (hdb : (x == ("__debug__" : Str)) = false := by decide)
    (he : starEach (e :: es) X.env = (false, eval e X.env) :: starEach es X.env := by rfl) (hpl : (backTo pos (starEach es X.env)).any (·.1) = false := by rfl) : SE X W (.Call (.Name x p) (e :: es) [] pos) (tCB r t) (eCB o m) := by
  refine ⟨pe_callTy hc.op hg hm hv ha.pe hn hdb he hpl, ?_⟩
  intro σ H Q φ h env re rh p
  refine ha.sim σ H _ φ h env re rh (p.bnd (Ev.refl _ _) fun φ1 H1 xs vs h1 e1 rh1 r1 p1 => ?_)
  exact hc.sim H1 Q φ1 h1 xs vs rh1 r1 (PostO.of p1 e1)
/-! tests -/
def tyB (a : Env → M IV) : Env → M Bool := fun env => bnd (a env) fun x h => match x with
  | .bl b => some (.ok b, h)
  | _ => none
def tAndM (a b : Env → M Bool) : Env → M Bool := fun env => bnd (a env) fun c => if c = true then b env else fun h => some (.ok false, h)
def tOrM (a b : Env → M Bool) : Env → M Bool := fun env => bnd (a env) fun c => if c = true then fun h => some (.ok true, h) else b env
def tNotM (a : Env → M Bool) : Env → M Bool := fun env => bnd (a env) fun c h => some (.ok (!c), h)
def truO : IV → IH → Option (Bool × IH)
  | .non, h => some (false, h)
  | .bl b, h => some (b, h)
  | .int i, h => some (i != 0, h)
  | .str y, h => if y.length ≤ 16777216 then some ((y.length : Int) != 0, h) else none
  | .tup xs, h => some (!xs.isEmpty, h)
  | .ref n, h => match h[n]? with
    | some (.lst xs) => some (!xs.isEmpty, h)
    | some (.dK kvs) => some (!kvs.isEmpty, h)
    | _ => none
  | .scr ns, h => some (!ns.isEmpty, h)
  | _, _ => none
def tTru (a : Env → M IV) : Env → M Bool := fun env => bnd (a env) fun x => lift (truO x)
theorem st_cmp {op : CmpOp} {r : R2} {o : O2} {a b : Expr} {ta tb : TE} {ma mb : Env → M IV} {pos : Pos} (ho : SOp X (compareOp op) r o) (ha : SE X W a ta ma) (hb : SE X W b tb mb) (hm : behindInMarks op b = false) : ST X W (.Compare a [op] [b] pos) (tTest (tOp r ta tb)) (tyB (eOp o ma mb)) := by
  refine ⟨pt_cmpR ho.op ha.pe hb.pe hm, ?_⟩
  intro σ H Q φ h env re rh p
  refine sim_op ho.sim ha.sim hb.sim σ H _ φ h env re rh (p.bnd (Ev.refl _ _) fun φ1 H1 x v h1 e1 rh1 r1 p1 => ?_)
  cases r1 <;> first | exact p1.elim | skip
  rename_i b
  exact ⟨b, rfl, p1 φ1 H1 b e1 rh1 rfl⟩
theorem st_val {a : Expr} {ta : TE} {ma : Env → M IV} (ha : SE X W a ta ma) (he : ∀ whole, isTrue a X.env whole = (do let v ← whole; standAt a.pos; holding [v] (truthy v)) := by intro _; rfl) : ST X W a (tB ta) (tyB ma) := by
  refine ⟨pt_val ha.pe he, ?_⟩
  intro σ H Q φ h env re rh p
  refine ha.sim σ H _ φ h env re rh (p.bnd (Ev.refl _ _) fun φ1 H1 x v h1 e1 rh1 r1 p1 => ?_)
  cases r1 <;> first | exact p1.elim | skip
  rename_i b
  exact ⟨b, rfl, p1 φ1 H1 b e1 rh1 rfl⟩
theorem isEmpty_rvs {K : PySem.W.Frag} {φ : List Addr} {H : Hp} {xs : List IV} {vs : List V} (r : RVs K φ H xs vs) : xs.isEmpty = vs.isEmpty := by cases r <;> rfl
theorem tru_sim {K : PySem.W.Frag} {φ : List Addr} {H : Hp} {h : IH} {x : IV} {v : V} {Q : Bool → Hp → Prop} (rh : RH K φ H h) (r : RV K φ H x v) (p : PostO K (fun _ _ (a b : Bool) => a = b) φ H Q (truO x h)) : ∃ k, TruV K v H k ∧ Q k H := by
  cases r with
  | non => exact ⟨_, rfl, p.give rh rfl⟩
  | bl b => exact ⟨_, rfl, p.give rh rfl⟩
  | int b => exact ⟨_, rfl, p.give rh rfl⟩
  | str b =>
    simp only [truO] at p
    split at p
    · rename_i hl
      exact ⟨_, ⟨by rw [line16]; exact hl, rfl⟩, p.give rh rfl⟩
    · exact p.elim
  | tup hs rs => exact ⟨_, .inr (.inl ⟨_, hs, rfl⟩), p.give rh (congrArg (!·) (isEmpty_rvs rs))⟩
  | ref hn =>
    simp only [truO] at p
    obtain ⟨o, e, ro⟩ := rh.ob hn
    rw [e] at p
    cases o with
    | lst xs =>
      obtain ⟨vs, q, rr⟩ := ro
      exact ⟨_, .inl ⟨vs, .inl (.inl q), rfl⟩, p.give rh (congrArg (!·) (isEmpty_rvs rr))⟩
    | dK xs =>
      obtain ⟨vs, q, rr⟩ := ro
      exact ⟨_, .inr (.inr ⟨vs, q, rfl⟩), p.give rh (by cases rr <;> rfl)⟩
    | dT xs => exact p.elim
  | scr hs =>
    rename_i a ns
    exact ⟨_, .inl ⟨_, hs.sq, rfl⟩, p.give rh (by cases ns <;> rfl)⟩
  | exc0 => exact p.elim
  | exc1 => exact p.elim
theorem st_truth {a : Expr} {ta : TE} {ma : Env → M IV} (ha : SE X W a ta ma) (he : ∀ whole, isTrue a X.env whole = (do let v ← whole; standAt a.pos; holding [v] (truthy v)) := by intro _; rfl) :
    ST X W a (fun σ H Q => ta σ H fun x H1 => ∃ k, TruV X.K x H1 k ∧ Q k H1) (tTru ma) := by
  refine ⟨pt_truth ha.pe he, ?_⟩
  intro σ H Q φ h env re rh p
  refine ha.sim σ H _ φ h env re rh (p.bnd (Ev.refl _ _) fun φ1 H1 x v h1 e1 rh1 r1 p1 => ?_)
  exact tru_sim rh1 r1 (PostO.of p1 e1)
structure SW (X : Cx) (W : WX) (e : Expr) (t : TT) (m : Env → M Bool) : Prop where
  pe : PW X e t
  sim : SimT X.K X.mg W t m
theorem SW.st {e : Expr} {t : TT} {m : Env → M Bool} (h : SW X W e t m) : ST X W e t m := ⟨h.pe.pt, h.sim⟩
theorem sim_and {K : PySem.W.Frag} {mg : Str → Option Value} {ta tb : TT} {ma mb : Env → M Bool} (ha : SimT K mg W ta ma) (hb : SimT K mg W tb mb) : SimT K mg W (tAnd ta tb) (tAndM ma mb) := by
  intro σ H Q φ h env re rh p
  refine ha σ H _ φ h env re rh (p.bnd (Ev.refl _ _) fun φ1 H1 x v h1 e1 rh1 r1 p1 => ?_)
  subst r1
  cases x with
  | true => exact iteT (hb σ H1 Q φ1 h1 env (re.ev e1) rh1 (by
      cases hh : mb env h1 with
      | none => simp only [if_pos] at p1; rw [hh] at p1; exact p1.elim
      | some z =>
        simp only [if_pos] at p1
        rw [hh] at p1
        obtain ⟨z, h2⟩ := z
        cases z with
        | error z => exact fun φ' H' cls d e rh rx => p1 φ' H' cls d (e1.trans e) rh rx
        | ok z => exact fun φ' H' b e rh rr => p1 φ' H' b (e1.trans e) rh rr))
  | false => exact iteF (p1 φ1 H1 false e1 rh1 rfl)
theorem sim_or {K : PySem.W.Frag} {mg : Str → Option Value} {ta tb : TT} {ma mb : Env → M Bool} (ha : SimT K mg W ta ma) (hb : SimT K mg W tb mb) : SimT K mg W (tOr ta tb) (tOrM ma mb) := by
  intro σ H Q φ h env re rh p
  refine ha σ H _ φ h env re rh (p.bnd (Ev.refl _ _) fun φ1 H1 x v h1 e1 rh1 r1 p1 => ?_)
  subst r1
  cases x with
  | false => exact iteF (hb σ H1 Q φ1 h1 env (re.ev e1) rh1 (by
      cases hh : mb env h1 with
      | none => simp only [Bool.false_eq_true, if_false] at p1; rw [hh] at p1; exact p1.elim
      | some z =>
        simp only [Bool.false_eq_true, if_false] at p1
        rw [hh] at p1
        obtain ⟨z, h2⟩ := z
        cases z with
        | error z => exact fun φ' H' cls d e rh rx => p1 φ' H' cls d (e1.trans e) rh rx
        | ok z => exact fun φ' H' b e rh rr => p1 φ' H' b (e1.trans e) rh rr))
  | true => exact iteT (p1 φ1 H1 true e1 rh1 rfl)
theorem sw_and1 {a : Expr} {t : TT} {m : Env → M Bool} {pos : Pos} (h : ST X W a t m) : SW X W (.BoolOp .And [a] pos) t m := ⟨pw_and1 h.pe, h.sim⟩
theorem sw_or1 {a : Expr} {t : TT} {m : Env → M Bool} {pos : Pos} (h : ST X W a t m) : SW X W (.BoolOp .Or [a] pos) t m := ⟨pw_or1 h.pe, h.sim⟩
theorem sw_and {a b : Expr} {rest : List Expr} {t u : TT} {m k : Env → M Bool} {pos : Pos} (h : ST X W a t m) (g : SW X W (.BoolOp .And (b :: rest) pos) u k) : SW X W (.BoolOp .And (a :: b :: rest) pos) (tAnd t u) (tAndM m k) := ⟨pw_and h.pe g.pe, sim_and h.sim g.sim⟩
theorem sw_or {a b : Expr} {rest : List Expr} {t u : TT} {m k : Env → M Bool} {pos : Pos} (h : ST X W a t m) (g : SW X W (.BoolOp .Or (b :: rest) pos) u k) : SW X W (.BoolOp .Or (a :: b :: rest) pos) (tOr t u) (tOrM m k) := ⟨pw_or h.pe g.pe, sim_or h.sim g.sim⟩
theorem st_not {a : Expr} {t : TT} {m : Env → M Bool} {pos : Pos} (h : ST X W a t m) : ST X W (.UnaryOp .Not a pos) (tNot t) (tNotM m) := by
  refine ⟨pt_not h.pe, ?_⟩
  intro σ H Q φ hh env re rh p
  refine h.sim σ H _ φ hh env re rh (p.bnd (Ev.refl _ _) fun φ1 H1 x v h1 e1 rh1 r1 p1 => ?_)
  subst r1
  exact p1 φ1 H1 _ e1 rh1 rfl
end
end L2.Sh

namespace L2.Sh
open PySem PySem.Spec PyProof.Rows L2
/-! ### values of and, or, not, if *)-/
def eAnd (a b : Env → M IV) : Env → M IV := fun env => bnd (tyB a env) fun c => if c = true then b env else fun h => some (.ok (.bl false), h)
def eOr (a b : Env → M IV) : Env → M IV := fun env => bnd (tyB a env) fun c => if c = true then (fun h => some (.ok (.bl true), h)) else b env
def eNot (a : Env → M IV) : Env → M IV := fun env => bnd (tyB a env) fun c h => some (.ok (.bl (!c)), h)
def eIf (c : Env → M Bool) (a b : Env → M IV) : Env → M IV := fun env => bnd (c env) fun k => if k = true then a env else b env
def eChain (o o' : O2) (a b c : Env → M IV) : Env → M IV := fun env => bnd (a env) fun x => bnd (b env) fun y => bnd (lift (o x y)) fun z h => match z with
  | .bl true => bnd (c env) (fun w => lift (o' y w)) h
  | .bl false => some (.ok (.bl false), h)
  | _ => none
section
variable {X : Cx} {W : WX}
theorem Post.ev {K : PySem.W.Frag} {mg : Str → Option Value} {α β : Type} {R : List Addr → Hp → α → β → Prop} {φ φ1 : List Addr} {H H1 : Hp} {W : XK} {Q : β → Hp → Prop} {r : Res α} (e : Ev φ H φ1 H1) (p : Post K mg R φ H W Q r) : Post K mg R φ1 H1 W Q r := by
  match r, p with
  | some (.ok a, h'), p => exact fun φ' H' b e' rh rr => p φ' H' b (e.trans e') rh rr
  | some (.error x, h'), p => exact fun φ' H' cls d e' rh rr => p φ' H' cls d (e.trans e') rh rr
theorem se_and {a b : Expr} {rest : List Expr} {ta tb : TE} {ma mb : Env → M IV} {pos : Pos} (ha : SE X W a ta ma) (hb : SE X W (.BoolOp .And (b :: rest) pos) tb mb) : SE X W (.BoolOp .And (a :: b :: rest) pos) (tAndV ta tb) (eAnd ma mb) := by
  refine ⟨pe_and ha.pe hb.pe, ?_⟩
  intro σ H Q φ h env re rh p
  unfold eAnd tyB at p
  refine ha.sim σ H _ φ h env re rh ?_
  refine Post.bnd (R' := RV X.K) (m := ma env) (f := fun x => bnd (fun h => match x with
    | .bl b => some (.ok b, h)
    | _ => none) fun c => if c = true then mb env else fun h => some (.ok (.bl false), h)) (by
      unfold bnd at p ⊢
      cases hm : ma env h with
      | none => rw [hm] at p; exact p
      | some z =>
        obtain ⟨z, h'⟩ := z
        rw [hm] at p
        cases z with
        | error x => exact p
        | ok x => exact p) (Ev.refl _ _) fun φ1 H1 x v h1 e1 rh1 r1 p1 => ?_
  cases r1 <;> first | exact p1.elim | skip
  rename_i b
  refine ⟨b, rfl, ?_⟩
  cases b with
  | true => exact iteT (hb.sim σ H1 Q φ1 h1 env (re.ev e1) rh1 (Post.ev e1 p1))
  | false => exact iteF (p1 φ1 H1 _ e1 rh1 (.bl false))
theorem se_or {a b : Expr} {rest : List Expr} {ta tb : TE} {ma mb : Env → M IV} {pos : Pos} (ha : SE X W a ta ma) (hb : SE X W (.BoolOp .Or (b :: rest) pos) tb mb) : SE X W (.BoolOp .Or (a :: b :: rest) pos) (tOrV ta tb) (eOr ma mb) := by
  refine ⟨pe_or ha.pe hb.pe, ?_⟩
  intro σ H Q φ h env re rh p
  unfold eOr tyB at p
  refine ha.sim σ H _ φ h env re rh ?_
  refine Post.bnd (R' := RV X.K) (m := ma env) (f := fun x => bnd (fun h => match x with
    | .bl b => some (.ok b, h)
    | _ => none) fun c => if c = true then (fun h => some (.ok (.bl true), h)) else mb env) (by
      unfold bnd at p ⊢
      cases hm : ma env h with
      | none => rw [hm] at p; exact p
      | some z =>
        obtain ⟨z, h'⟩ := z
        rw [hm] at p
        cases z with
        | error x => exact p
        | ok x => exact p) (Ev.refl _ _) fun φ1 H1 x v h1 e1 rh1 r1 p1 => ?_
  cases r1 <;> first | exact p1.elim | skip
  rename_i b
  refine ⟨b, rfl, ?_⟩
  cases b with
  | false => exact iteF (hb.sim σ H1 Q φ1 h1 env (re.ev e1) rh1 (Post.ev e1 p1))
  | true => exact iteT (p1 φ1 H1 _ e1 rh1 (.bl true))
theorem se_one {op} {a : Expr} {t : TE} {m : Env → M IV} {pos : Pos} (h : SE X W a t m) : SE X W (.BoolOp op [a] pos) t m := ⟨pe_one h.pe, h.sim⟩
theorem se_not {a : Expr} {ta : TE} {ma : Env → M IV} {pos : Pos} (ha : SE X W a ta ma) : SE X W (.UnaryOp .Not a pos) (tNotV ta) (eNot ma) := by
  refine ⟨pe_not ha.pe, ?_⟩
  intro σ H Q φ h env re rh p
  unfold eNot tyB at p
  refine ha.sim σ H _ φ h env re rh ?_
  refine Post.bnd (R' := RV X.K) (m := ma env) (f := fun x => bnd (fun h => match x with
    | .bl b => some (.ok b, h)
    | _ => none) fun c h => some (.ok (.bl (!c)), h)) (by
      unfold bnd at p ⊢
      cases hm : ma env h with
      | none => rw [hm] at p; exact p
      | some z =>
        obtain ⟨z, h'⟩ := z
        rw [hm] at p
        cases z with
        | error x => exact p
        | ok x => exact p) (Ev.refl _ _) fun φ1 H1 x v h1 e1 rh1 r1 p1 => ?_
  cases r1 <;> first | exact p1.elim | skip
  rename_i b
  exact ⟨b, rfl, p1 φ1 H1 _ e1 rh1 (.bl _)⟩
theorem se_if {c a b : Expr} {tc : TT} {ta tb : TE} {mc : Env → M Bool} {ma mb : Env → M IV} {pos : Pos} (hc : ST X W c tc mc) (ha : SE X W a ta ma) (hb : SE X W b tb mb) : SE X W (.IfExp c a b pos) (tIf tc ta tb) (eIf mc ma mb) := by
  refine ⟨pe_ifExp hc.pe ha.pe hb.pe, ?_⟩
  intro σ H Q φ h env re rh p
  refine hc.sim σ H _ φ h env re rh (p.bnd (Ev.refl _ _) fun φ1 H1 x v h1 e1 rh1 r1 p1 => ?_)
  subst r1
  cases x with
  | true => exact iteT (ha.sim σ H1 Q φ1 h1 env (re.ev e1) rh1 (Post.ev e1 p1))
  | false => exact iteF (hb.sim σ H1 Q φ1 h1 env (re.ev e1) rh1 (Post.ev e1 p1))
theorem sim_chain {K : PySem.W.Frag} {mg : Str → Option Value} {r r' : R2} {o o' : O2} {ta tb tc : TE} {ma mb mc : Env → M IV} (ho : SimR K r o) (ho' : SimR K r' o') (ha : SimE K mg W ta ma) (hb : SimE K mg W tb mb) (hc : SimE K mg W tc mc) :
    SimE K mg W (tChain r r' ta tb tc) (eChain o o' ma mb mc) := by
  intro σ H Q φ h env re rh p
  refine ha σ H _ φ h env re rh (p.bnd (Ev.refl _ _) fun φ1 H1 x v h1 e1 rh1 r1 p1 => ?_)
  refine hb σ H1 _ φ1 h1 env (re.ev e1) rh1 (p1.bnd e1 fun φ2 H2 y u h2 e2 rh2 r2 p2 => ?_)
  refine ho H2 _ φ2 h2 x y v u rh2 (r1.ev e2) r2 (PostO.of (W := WE W σ) (mg := mg) (p2.bnd (e1.trans e2) fun φ3 H3 z q h3 e3 rh3 r3 p3 => ?_) (Ev.refl _ _))
  have e03 := (e1.trans e2).trans e3
  cases r3 <;> first | exact p3.elim | skip
  rename_i b
  refine ⟨b, rfl, ?_⟩
  cases b with
  | false => exact iteF (p3 φ3 H3 _ e03 rh3 (.bl false))
  | true =>
    refine iteT (hc σ H3 _ φ3 h3 env (re.ev e03) rh3 (Post.bnd (R' := RV K) (f := fun w => lift (o' y w)) p3 e03 fun φ4 H4 w q h4 e4 rh4 r4 p4 => ?_))
    exact ho' H4 Q φ4 h4 y w u q rh4 ((r2.ev e3).ev e4) r4 (PostO.of p4 (e03.trans e4))
end
/-! ### statements -/
inductive Flw where
  | nx (env : Env) | rt (v : IV) | bk (env : Env) | ct (env : Env) | ex (x : Exc) (env : Env)
abbrev MS := Env → IH → Option (Flw × IH)
def PostS (K : PySem.W.Frag) (mg : Str → Option Value) (W : WX) (φ : List Addr) (H : Hp) (D : Ends) : Option (Flw × IH) → Prop
  | none => False
  | some (.nx env, h) => ∀ φ' H' σ', Ev φ H φ' H' → RH K φ' H' h → REnv K φ' H' env σ' → D.nx σ' H'
  | some (.rt v, h) => ∀ φ' H' u, Ev φ H φ' H' → RH K φ' H' h → RV K φ' H' v u → D.rt u H'
  | some (.bk env, h) => ∀ φ' H' σ', Ev φ H φ' H' → RH K φ' H' h → REnv K φ' H' env σ' → D.bk σ' H'
  | some (.ct env, h) => ∀ φ' H' σ', Ev φ H φ' H' → RH K φ' H' h → REnv K φ' H' env σ' → D.ct σ' H'
  | some (.ex x env, h) => ∀ φ' H' σ' cls d, Ev φ H φ' H' → RH K φ' H' h → REnv K φ' H' env σ' → RX K mg φ' H' x cls d → W cls d σ' H'
def SimS (K : PySem.W.Frag) (mg : Str → Option Value) (W : WX) (t : TS) (m : MS) : Prop := ∀ σ H D φ h env, REnv K φ H env σ → RH K φ H h → PostS K mg W φ H D (m env h) → t D σ H
structure SS (X : Cx) (W : WX) (s : Stmt) (t : TS) (m : MS) : Prop where
  pe : PS X s t
  sim : SimS X.K X.mg W t m
structure SB (X : Cx) (W : WX) (s : List Stmt) (t : TS) (m : MS) : Prop where
  pe : PSs X s t
  sim : SimS X.K X.mg W t m
def sNil : MS := fun env h => some (.nx env, h)
def sSeq (a b : MS) : MS := fun env h => match a env h with
  | some (.nx env', h') => b env' h'
  | r => r
/-- with an expression's value -/
def bndS {α : Type} (m : Env → M α) (f : α → MS) : MS := fun env h => match m env h with
  | none => none
  | some (.error x, h') => some (.ex x env, h')
  | some (.ok a, h') => f a env h'
def sAsg (i : Nat) (m : Env → M IV) : MS := bndS m fun x env h => some (.nx (env.set i (some x)), h)
def sRet (m : Env → M IV) : MS := bndS m fun x _ h => some (.rt x, h)
def sRetN : MS := fun _ h => some (.rt .non, h)
def sExp (m : Env → M IV) : MS := bndS m fun _ env h => some (.nx env, h)
def sIf (c : Env → M Bool) (a b : MS) : MS := bndS c fun k env h => if k = true then a env h else b env h
def sBreak : MS := fun env h => some (.bk env, h)
def sCont : MS := fun env h => some (.ct env, h)
def sNever : MS := fun _ _ => none
def whileN (c : Env → M Bool) (b : MS) : Nat → MS
  | 0 => fun _ _ => none
  | n + 1 => bndS c fun k env h => if k = true then (match b env h with
      | some (.nx env', h') => whileN c b n env' h'
      | some (.ct env', h') => whileN c b n env' h'
      | some (.bk env', h') => some (.nx env', h')
      | r => r) else some (.nx env, h)
section
variable {K : PySem.W.Frag} {mg : Str → Option Value} {W : WX} {φ φ1 : List Addr} {H H1 : Hp} {D : Ends}
theorem PostS.ev {r : Option (Flw × IH)} (e : Ev φ H φ1 H1) (p : PostS K mg W φ H D r) : PostS K mg W φ1 H1 D r := by
  match r, p with
  | some (.nx _, h'), p => exact fun φ' H' b e' rh rr => p φ' H' b (e.trans e') rh rr
  | some (.rt _, h'), p => exact fun φ' H' b e' rh rr => p φ' H' b (e.trans e') rh rr
  | some (.bk _, h'), p => exact fun φ' H' b e' rh rr => p φ' H' b (e.trans e') rh rr
  | some (.ct _, h'), p => exact fun φ' H' b e' rh rr => p φ' H' b (e.trans e') rh rr
  | some (.ex _ _, h'), p => exact fun φ' H' b cls d e' rh rr => p φ' H' b cls d (e.trans e') rh rr
theorem PostS.bnd {α β : Type} {R : List Addr → Hp → α → β → Prop} {m : Env → M α} {f : α → MS} {env : Env} {h : IH} {σ : St} {Q' : β → Hp → Prop} (p : PostS K mg W φ H D (bndS m f env h)) (re : REnv K φ H env σ)
    (k : ∀ φ' H' a b h', Ev φ H φ' H' → RH K φ' H' h' → R φ' H' a b → REnv K φ' H' env σ → PostS K mg W φ' H' D (f a env h') → Q' b H') : Post K mg R φ H (WE W σ) Q' (m env h) := by
  unfold bndS at p
  cases hm : m env h with
  | none => rw [hm] at p; exact p
  | some ah =>
    obtain ⟨a, h'⟩ := ah
    rw [hm] at p
    cases a with
    | error x => exact fun φ' H' cls d e rh rx => p φ' H' σ cls d e rh (re.ev e) rx
    | ok a => exact fun φ' H' b e rh rr => k φ' H' a b h' e rh rr (re.ev e) (p.ev e)
end
section
variable {X : Cx} {W : WX}
theorem sb_nil : SB X W [] tNext sNil := ⟨pss_nil, fun σ H D φ h env re rh p => p φ H σ (Ev.refl _ _) rh re⟩
theorem sim_seq {K : PySem.W.Frag} {mg : Str → Option Value} {t u : TS} {m k : MS} (a : SimS K mg W t m) (b : SimS K mg W u k) : SimS K mg W (tSeq t u) (sSeq m k) := by
  intro σ H D φ h env re rh p
  refine a σ H _ φ h env re rh ?_
  unfold sSeq at p
  cases hm : m env h with
  | none => rw [hm] at p; exact p
  | some z =>
    obtain ⟨z, h'⟩ := z
    rw [hm] at p
    cases z with
    | nx env' => exact fun φ' H' σ' e rh' re' => b σ' H' D φ' h' env' re' rh' (p.ev e)
    | rt v => exact p
    | bk v => exact p
    | ct v => exact p
    | ex v => exact p
theorem sb_cons {s : Stmt} {ss : List Stmt} {t u : TS} {m k : MS} (a : SS X W s t m) (b : SB X W ss u k) : SB X W (s :: ss) (tSeq t u) (sSeq m k) := ⟨pss_cons a.pe b.pe, sim_seq a.sim b.sim⟩
theorem sb_one {s : Stmt} {t : TS} {m : MS} (a : SS X W s t m) : SB X W [s] t m := ⟨pss_one a.pe, a.sim⟩
theorem ss_asg {i : Nat} {x : Str} {e : Expr} {te : TE} {m : Env → M IV} {pos pos' : Pos} (hN : X.N.Nodup) (hi : X.N[i]? = some x) (hx : Loc X.env.scope x) (he : SE X W e te m) (hs : swapsWith e (some (.Name x pos')) pos.line X.env = pure false := by rfl) (hf : X.fn x = true ∨ X.env.scope.names.lookup x = some .local := by first | exact .inl rfl | exact .inr rfl | assumption) :
    SS X W (.Assign [.Name x pos'] e pos) (tAsg te (gName i)) (sAsg i m) := ⟨ps_set hN hi hx he.pe hs hf, fun σ H D φ h env re rh p =>
      he.sim σ H _ φ h env re rh (p.bnd re fun φ1 H1 x v h1 e1 rh1 r1 re1 p1 => p1 φ1 H1 _ (Ev.refl _ _) rh1 (re1.set r1 i))⟩
theorem ss_ret {e : Expr} {te : TE} {m : Env → M IV} {pos : Pos} (he : SE X W e te m) : SS X W (.Return (some e) pos) (tRet te) (sRet m) := ⟨ps_ret he.pe, fun σ H D φ h env re rh p =>
      he.sim σ H _ φ h env re rh (p.bnd re fun φ1 H1 x v h1 e1 rh1 r1 re1 p1 => p1 φ1 H1 _ (Ev.refl _ _) rh1 r1)⟩
theorem ss_retN {pos : Pos} : SS X W (.Return none pos) tRetN sRetN := ⟨ps_retN, fun σ H D φ h env re rh p => p φ H _ (Ev.refl _ _) rh .non⟩
theorem ss_expr {e : Expr} {te : TE} {m : Env → M IV} {pos : Pos} (he : SE X W e te m) (hs : swapsWith e none pos.line X.env = pure false := by rfl) : SS X W (.Expr e pos) (tDrop te) (sExp m) := ⟨ps_expr he.pe hs, fun σ H D φ h env re rh p =>
      he.sim σ H _ φ h env re rh (p.bnd re fun φ1 H1 x v h1 e1 rh1 r1 re1 p1 => p1 φ1 H1 _ (Ev.refl _ _) rh1 re1)⟩
theorem ss_if {c : Expr} {a b : List Stmt} {tc : TT} {t u : TS} {mc : Env → M Bool} {m k : MS} {pos : Pos} (hc : ST X W c tc mc) (ha : SB X W a t m) (hb : SB X W b u k) : SS X W (.If c a b pos) (tIfS tc t u) (sIf mc m k) := by
  refine ⟨ps_if hc.pe ha.pe hb.pe, fun σ H D φ h env re rh p => hc.sim σ H _ φ h env re rh (p.bnd re fun φ1 H1 x v h1 e1 rh1 r1 re1 p1 => ?_)⟩
  subst r1
  cases x with
  | true => exact iteT (ha.sim σ H1 D φ1 h1 env re1 rh1 p1)
  | false => exact iteF (hb.sim σ H1 D φ1 h1 env re1 rh1 p1)
theorem ss_break {pos : Pos} : SS X W (.Break pos) tBreak sBreak := ⟨ps_break, fun σ H D φ h env re rh p => p φ H σ (Ev.refl _ _) rh re⟩
theorem ss_cont {pos : Pos} : SS X W (.Continue pos) tCont sCont := ⟨ps_continue, fun σ H D φ h env re rh p => p φ H σ (Ev.refl _ _) rh re⟩
theorem ss_pass {pos : Pos} : SS X W (.Pass pos) tNext sNil := ⟨ps_pass, fun σ H D φ h env re rh p => p φ H σ (Ev.refl _ _) rh re⟩
theorem ss_never {s : Stmt} : SS X W s tNever sNever := ⟨ps_never, fun σ H D φ h env re rh p => p.elim⟩
theorem ss_while {c : Expr} {body : List Stmt} {tc : TT} {tb : TS} {mc : Env → M Bool} {mb : MS} {pos : Pos} {n : Nat} (hp : PassesOwn (model X.prog X.w) X.A X.env X.xe) (hc : ST X W c tc mc) (hb : SB X W body tb mb) : SS X W (.While c body [] pos) (tWhile tc tb) (whileN mc mb n) := by
  refine ⟨ps_while hp hc.pe hb.pe, fun σ H D φ h env re rh p => ?_⟩
  refine ⟨fun m σ' H' => ∃ φ' h' env', REnv X.K φ' H' env' σ' ∧ RH X.K φ' H' h' ∧ PostS X.K X.mg W φ' H' D (whileN mc mb m env' h'), ⟨n, φ, h, env, re, rh, p⟩, ?_⟩
  rintro m σ1 H1 ⟨φ1, h1, env1, re1, rh1, p1⟩
  cases m with
  | zero => exact p1.elim
  | succ m =>
    refine hc.sim σ1 H1 _ φ1 h1 env1 re1 rh1 (p1.bnd re1 fun φ2 H2 x v h2 e2 rh2 r2 re2 p2 => ?_)
    subst r2
    cases x with
    | false => exact iteF (p2 φ2 H2 _ (Ev.refl _ _) rh2 re2)
    | true =>
      refine iteT ⟨fun σ' H' => ∃ φ' h' env', REnv X.K φ' H' env' σ' ∧ RH X.K φ' H' h' ∧ PostS X.K X.mg W φ' H' D (whileN mc mb m env' h'), fun σ' H' q => ⟨m, Nat.lt_succ_self m, q⟩, ?_⟩
      refine hb.sim σ1 H2 _ φ2 h2 env1 re2 rh2 ?_
      rw [if_pos rfl] at p2
      cases hm : mb env1 h2 with
      | none => rw [hm] at p2; exact p2.elim
      | some z =>
        obtain ⟨z, h3⟩ := z
        rw [hm] at p2
        cases z with
        | nx env' => exact fun φ' H' σ' e rh' re' => ⟨φ', h3, env', re', rh', p2.ev e⟩
        | ct env' => exact fun φ' H' σ' e rh' re' => ⟨φ', h3, env', re', rh', p2.ev e⟩
        | bk env' => exact p2
        | rt v => exact p2
        | ex x env' => exact p2
end
end L2.Sh

namespace L2.Sh
open PySem PySem.Spec PyProof.Rows L2
/-! ### what is walked -/
structure IIt where
  nxt : Nat → IH → Option (Option IV)
abbrev MG := IV → Env → IH → Option Env
def JRel (K : PySem.W.Frag) (φ0 : List Addr) (H0 : Hp) (it : IIt) (J : It) : Prop := ∀ i φ H h, Ev φ0 H0 φ H → RH K φ H h →
  (it.nxt i h = some none → J.stop i H) ∧ (∀ x, it.nxt i h = some (some x) → J.go i H ∧ ∀ v H', J.yld i H v H' → Ev φ H φ H' ∧ RH K φ H' h ∧ RV K φ H' x v)
def SimI (K : PySem.W.Frag) (mg : Str → Option Value) (W : WX) (wi : TI) (m : Env → M IIt) : Prop := ∀ σ H R φ h env, REnv K φ H env σ → RH K φ H h → Post K mg (JRel K) φ H (WE W σ) R (m env h) → wi σ H R
structure SI (X : Cx) (W : WX) (tg e : Expr) (wi : TI) (m : Env → M IIt) : Prop where
  pe : PI X tg e wi
  sim : SimI X.K X.mg W wi m
def SimG (K : PySem.W.Frag) (g : TG) (m : MG) : Prop := ∀ σ H Q φ h env x v, REnv K φ H env σ → RH K φ H h → RV K φ H x v → (match m x env h with | none => False | some env' => ∀ σ', REnv K φ H env' σ' → Q σ' H) → g v σ H Q
structure SG (X : Cx) (tg : Expr) (g : TG) (m : MG) : Prop where
  pe : PG X tg g
  sim : SimG X.K g m
@[irreducible] def FU : Nat := 2 ^ 2097152
def forLoop (it : IIt) (g : MG) (b : MS) : Nat → Nat → MS
  | 0, _ => fun _ _ => none
  | n + 1, i => fun env h => match it.nxt i h with
    | none => none
    | some none => some (.nx env, h)
    | some (some x) => match g x env h with
      | none => none
      | some env1 => match b env1 h with
        | some (.nx env', h') => forLoop it g b n (i + 1) env' h'
        | some (.ct env', h') => forLoop it g b n (i + 1) env' h'
        | some (.bk env', h') => some (.nx env', h')
        | r => r
def sFor (n : Nat) (mi : Env → M IIt) (g : MG) (b : MS) : MS := bndS mi fun it env h => forLoop it g b n 0 env h
section
variable {X : Cx} {W : WX}
theorem ss_for {tg iter : Expr} {body : List Stmt} {wi : TI} {mi : Env → M IIt} {g : TG} {mg : MG} {tb : TS} {mb : MS} {pos : Pos} {n : Nat} (hp : PassesOwn (model X.prog X.w) X.A X.env X.xe) (hc : X.calm = true) (hi : SI X W tg iter wi mi) (hg : SG X tg g mg) (hb : SB X W body tb mb) (hs : ∀ x, foldedSetIterable iter X.env x = pure x := by intro _; rfl) :
    SS X W (.For tg iter body [] pos) (tFor wi g tb) (sFor n mi mg mb) := by
  refine ⟨ps_for hp hc hi.pe hg.pe hb.pe hs, fun σ H D φ h env re rh p => ?_⟩
  refine hi.sim σ H _ φ h env re rh (p.bnd re fun φ1 H1 it J h1 e1 rh1 r1 re1 p1 => ?_)
  refine ⟨fun i m σ' H' => ∃ φ' h' env', Ev φ1 H1 φ' H' ∧ REnv X.K φ' H' env' σ' ∧ RH X.K φ' H' h' ∧ PostS X.K X.mg W φ' H' D (forLoop it mg mb m i env' h'), ⟨n, φ1, h1, env, Ev.refl _ _, re1, rh1, p1⟩, ?_⟩
  rintro i m σ2 H2 ⟨φ2, h2, env2, e2, re2, rh2, p2⟩
  cases m with
  | zero => exact p2.elim
  | succ m =>
    obtain ⟨js, jg⟩ := r1 i φ2 H2 h2 e2 rh2
    unfold forLoop at p2
    cases hn : it.nxt i h2 with
    | none => rw [hn] at p2; exact p2.elim
    | some ox =>
      rw [hn] at p2
      cases ox with
      | none => exact .inl ⟨js hn, p2 φ2 H2 _ (Ev.refl _ _) rh2 re2⟩
      | some x =>
        obtain ⟨go, yl⟩ := jg x hn
        refine .inr ⟨go, fun σ' H' => ∃ φ' h' env', Ev φ1 H1 φ' H' ∧ REnv X.K φ' H' env' σ' ∧ RH X.K φ' H' h' ∧ PostS X.K X.mg W φ' H' D (forLoop it mg mb m (i + 1) env' h'), fun σ' H' q => ⟨m, Nat.lt_succ_self m, q⟩, fun v H3 y => ?_⟩
        obtain ⟨e3, rh3, r3⟩ := yl v H3 y
        refine hg.sim σ2 H3 _ φ2 h2 env2 x v (re2.ev e3) rh3 r3 ?_
        simp only [] at p2
        cases hgx : mg x env2 h2 with
        | none => rw [hgx] at p2; exact p2.elim
        | some env3 =>
          rw [hgx] at p2
          simp only [] at p2 ⊢
          intro σ3 re3
          refine hb.sim σ3 H3 _ φ2 h2 env3 re3 rh3 ?_
          cases hm : mb env3 h2 with
          | none => rw [hm] at p2; exact p2.elim
          | some z =>
            obtain ⟨z, h4⟩ := z
            rw [hm] at p2
            cases z with
            | nx env' => exact fun φ' H' σ' e rh' re' => ⟨φ', h4, env', (e2.trans e3).trans e, re', rh', p2.ev (e3.trans e)⟩
            | ct env' => exact fun φ' H' σ' e rh' re' => ⟨φ', h4, env', (e2.trans e3).trans e, re', rh', p2.ev (e3.trans e)⟩
            | bk env' => exact p2.ev e3
            | rt v => exact p2.ev e3
            | ex x env' => exact p2.ev e3
/-! targets -/
def gN (i : Nat) : MG := fun x env _ => some (env.set i (some x))
abbrev MGs := List IV → Env → IH → Option Env
def gsNil : MGs := fun xs env _ => match xs with
  | [] => some env
  | _ => none
def gsCons (a : MG) (b : MGs) : MGs := fun xs env h => match xs with
  | x :: r => match a x env h with
    | none => none
    | some env' => b r env' h
  | [] => none
def gT (n : Nat) (b : MGs) : MG := fun x env h => match x with
  | .tup xs => if xs.length = n then b xs env h else none
  | _ => none
structure SGs (X : Cx) (tg : List Expr) (g : TGs) (m : MGs) : Prop where
  pe : PGs X tg g
  sim : ∀ σ H Q φ h env xs vs, REnv X.K φ H env σ → RH X.K φ H h → RVs X.K φ H xs vs → (match m xs env h with | none => False | some env' => ∀ σ', REnv X.K φ H env' σ' → Q σ' H) → g vs σ H Q
theorem sg_name {i : Nat} {x : Str} {pos : Pos} (hN : X.N.Nodup) (hi : X.N[i]? = some x) (hx : Loc X.env.scope x) (hf : X.fn x = true ∨ X.env.scope.names.lookup x = some .local := by first | exact .inl rfl | exact .inr rfl | assumption) : SG X (.Name x pos) (gName i) (gN i) :=
  ⟨pg_name hN hi hx hf, fun σ H Q φ h env x v re rh r p => p _ (re.set r i)⟩
theorem sgs_nil : SGs X [] gNil gsNil := ⟨pgs_nil, fun σ H Q φ h env xs vs re rh r p => by
  cases r with
  | nil => exact ⟨rfl, p _ re⟩
  | cons a b => exact p.elim⟩
theorem sgs_cons {e : Expr} {es : List Expr} {t : TG} {u : TGs} {m : MG} {k : MGs} (a : SG X e t m) (b : SGs X es u k) (hs : (assignEach (e :: es) X.env).map (·.2) = assign e X.env :: (assignEach es X.env).map (·.2) := by rfl) : SGs X (e :: es) (gCons t u) (gsCons m k) := ⟨pgs_cons a.pe b.pe hs, fun σ H Q φ h env xs vs re rh r p => by
  cases r with
  | nil => exact p.elim
  | cons r1 rs =>
    rename_i x xs v vs
    refine ⟨v, vs, rfl, a.sim σ H _ φ h env x v re rh r1 ?_⟩
    unfold gsCons at p
    simp only [] at p
    cases hm : m x env h with
    | none => rw [hm] at p; exact p.elim
    | some env' =>
      rw [hm] at p
      exact fun σ' re' => b.sim σ' H Q φ h env' xs vs re' rh rs p⟩
theorem sg_tup {es : List Expr} {k : Nat} {t : TGs} {m : MGs} {pos : Pos} (hc : X.calm = true) (h : SGs X es t m) (pe : PG X (.Tuple es k pos) (gTup X.K es.length t)) : SG X (.Tuple es k pos) (gTup X.K es.length t) (gT es.length m) := ⟨pe, fun σ H Q φ hh env x v re rh r p => by
  cases r with
  | tup hs rs =>
    rename_i a xs vs
    unfold gT at p
    simp only [] at p
    by_cases hl : xs.length = es.length
    · rw [if_pos hl] at p
      exact ⟨a, vs, rfl, hs, by rw [← rs.length]; exact hl, h.sim σ H Q φ hh env xs vs re rh rs p⟩
    · rw [if_neg hl] at p; exact p.elim
  | _ => exact p.elim⟩
def sAsgG (m : Env → M IV) (k : MG) : MS := bndS m fun x env h => match k x env h with | none => none | some env' => some (.nx env', h)
theorem ss_asgG {e tg : Expr} {te : TE} {m : Env → M IV} {g : TG} {k : MG} {pos : Pos} (he : SE X W e te m) (hg : SG X tg g k) (pe : PE X e te → PG X tg g → PS X (.Assign [tg] e pos) (tAsg te g)) :
    SS X W (.Assign [tg] e pos) (tAsg te g) (sAsgG m k) := ⟨pe he.pe hg.pe, fun σ H D φ h env re rh p => by
  refine he.sim σ H _ φ h env re rh (p.bnd re fun φ1 H1 x v h1 e1 rh1 r1 re1 p1 => ?_)
  refine hg.sim σ H1 _ φ1 h1 env x v re1 rh1 r1 ?_
  cases hm : k x env h1 with
  | none => rw [hm] at p1; exact p1.elim
  | some env' =>
    rw [hm] at p1
    exact fun σ' re' => p1 φ1 H1 σ' (Ev.refl _ _) rh1 re'⟩
/-! a value's coming, by what it is -/
theorem SimE.come {K : PySem.W.Frag} {mg : Str → Option Value} {t : TE} {m : Env → M IV} (hs : SimE K mg W t m) {σ : St} {H : Hp} {φ : List Addr} {h h1 : IH} {env : Env} {x : IV} (re : REnv K φ H env σ) (rh : RH K φ H h) (hm : m env h = some (.ok x, h1)) {Q : VK}
    (k : ∀ φ1 H1 v, Ev φ H φ1 H1 → RH K φ1 H1 h1 → RV K φ1 H1 x v → Q v H1) : t σ H Q := hs σ H Q φ h env re rh (by rw [hm]; exact k)
theorem SimE.err {K : PySem.W.Frag} {mg : Str → Option Value} {t : TE} {m : Env → M IV} (hs : SimE K mg W t m) {σ : St} {H : Hp} {φ : List Addr} {h h1 : IH} {env : Env} {x : Exc} (re : REnv K φ H env σ) (rh : RH K φ H h) (hm : m env h = some (.error x, h1)) {Q : VK}
    (k : ∀ φ1 H1 cls d, Ev φ H φ1 H1 → RH K φ1 H1 h1 → RX K mg φ1 H1 x cls d → W cls d σ H1) : t σ H Q := hs σ H Q φ h env re rh (by rw [hm]; exact k)
theorem PI.or {tg e : Expr} {w1 w2 : TI} (a : PI X tg e w1) (b : PI X tg e w2) : PI X tg e (fun σ H R => w1 σ H R ∨ w2 σ H R) := ⟨fun pins s σ H R I h => h.elim (a.run pins s σ H R I) (b.run pins s σ H R I)⟩
theorem PE.or {e : Expr} {t1 t2 : TE} (a : PE X e t1) (b : PE X e t2) : PE X e (fun σ H R => t1 σ H R ∨ t2 σ H R) := ⟨fun pins s σ H R I h => h.elim (a.run pins s σ H R I) (b.run pins s σ H R I)⟩
theorem PS.or {s : Stmt} {t1 t2 : TS} (a : PS X s t1) (b : PS X s t2) : PS X s (fun D σ H => t1 D σ H ∨ t2 D σ H) := ⟨fun pins s σ H R I h => h.elim (a.run pins s σ H R I) (b.run pins s σ H R I)⟩
/-- a list, a tuple, a text's signs -/
def seqIt : IV → IH → Option IIt
  | .tup xs, _ => some ⟨fun i _ => some xs[i]?⟩
  | .ref n, h => match h[n]? with
      | some (.lst _) => some ⟨fun i h => match h[n]? with
        | some (.lst xs) => some xs[i]?
        | _ => none⟩
      | _ => none
  | .scr ns, _ => some ⟨fun i _ => some (ns.map IV.int)[i]?⟩
  | .str z, _ => some ⟨fun i _ => some ((z.cps[i]?).map fun c => .str ⟨#[c]⟩)⟩
  | _, _ => none
def iSeq (m : Env → M IV) : Env → M IIt := fun env => bnd (m env) fun x h => match seqIt x h with
  | some it => some (.ok it, h)
  | none => none
def rngIt (lo : Int) (n : Nat) : IIt := ⟨fun i _ => some (if i < n then some (.int (lo + i)) else none)⟩
def iR1 (m : Env → M (List IV)) : Env → M IIt := fun env => bnd (m env) fun xs h => match xs with
  | [.int j] => if -(2 ^ 62) ≤ j ∧ j < 2 ^ 62 then some (.ok (rngIt 0 j.toNat), h) else none
  | _ => none
def iR2 (m : Env → M (List IV)) : Env → M IIt := fun env => bnd (m env) fun xs h => match xs with
  | [.int i, .int j] => if -(2 ^ 62) ≤ i ∧ i < 2 ^ 62 ∧ -(2 ^ 62) ≤ j ∧ j < 2 ^ 62 then some (.ok (rngIt i (j - i).toNat), h) else none
  | _ => none
theorem jrel_tup {K : PySem.W.Frag} {φ : List Addr} {H : Hp} {a : Addr} {xs : List IV} {vs : List V} (hs : SqT K H a vs) (rs : RVs K φ H xs vs) : JRel K φ H ⟨fun i _ => some xs[i]?⟩ (Itt K a) := by
  intro i φ1 H1 h1 e1 rh1
  refine ⟨fun hn => ⟨vs, sqT_ev e1 hs, ?_⟩, fun x hn => ?_⟩
  · have : xs[i]? = none := Option.some.inj hn
    rw [← rs.length]; exact List.getElem?_eq_none_iff.mp this
  · have hx : xs[i]? = some x := Option.some.inj hn
    obtain ⟨v, hv, rv⟩ := (rs.ev e1).get hx
    refine ⟨⟨vs, v, sqT_ev e1 hs, hv⟩, fun u H2 y => ?_⟩
    obtain ⟨rfl, y⟩ := y
    have := y vs (sqT_ev e1 hs)
    rw [hv] at this; cases this
    exact ⟨Ev.refl _ _, rh1, rv⟩
theorem jrel_scr {K : PySem.W.Frag} {φ : List Addr} {H : Hp} {a : Addr} {ns : List Int} (hs : StL K H a (ns.map V.int)) : JRel K φ H ⟨fun i _ => some (ns.map IV.int)[i]?⟩ (Itl K a) := by
  intro i φ1 H1 h1 e1 rh1
  have rs : RVs K φ1 H1 (ns.map IV.int) (ns.map V.int) := RVs.ints ns
  refine ⟨fun hn => ⟨_, (hs.ev e1).sq, ?_⟩, fun x hn => ?_⟩
  · have : (ns.map IV.int)[i]? = none := Option.some.inj hn
    rw [← rs.length]; exact List.getElem?_eq_none_iff.mp this
  · have hx : (ns.map IV.int)[i]? = some x := Option.some.inj hn
    obtain ⟨v, hv, rv⟩ := rs.get hx
    refine ⟨⟨_, v, (hs.ev e1).sq, hv⟩, fun u H2 y => ?_⟩
    obtain ⟨rfl, y⟩ := y
    have := y _ (hs.ev e1).sq
    rw [hv] at this; cases this
    exact ⟨Ev.refl _ _, rh1, rv⟩
theorem jrel_ref {K : PySem.W.Frag} {φ : List Addr} {H : Hp} {a : Addr} {n : Nat} (hn : φ[n]? = some a) : JRel K φ H ⟨fun i h => match h[n]? with
      | some (.lst xs) => some xs[i]?
      | _ => none⟩ (Itl K a) := by
  intro i φ1 H1 h1 e1 rh1
  obtain ⟨o, eo, ro⟩ := rh1.ob (e1.at hn)
  cases o with
  | lst xs =>
    obtain ⟨vs, q, rs⟩ := ro
    have sq : SqL K H1 a vs := .inl (.inl q)
    refine ⟨fun hn => ⟨_, sq, ?_⟩, fun x hn => ?_⟩
    · simp only [eo] at hn
      have : xs[i]? = none := Option.some.inj hn
      rw [← rs.length]; exact List.getElem?_eq_none_iff.mp this
    · simp only [eo] at hn
      have hx : xs[i]? = some x := Option.some.inj hn
      obtain ⟨v, hv, rv⟩ := rs.get hx
      refine ⟨⟨_, v, sq, hv⟩, fun u H2 y => ?_⟩
      obtain ⟨rfl, y⟩ := y
      have := y _ sq
      rw [hv] at this; cases this
      exact ⟨Ev.refl _ _, rh1, rv⟩
  | dK xs => exact ⟨fun hn => by (simp only [eo] at hn; cases hn), fun x hn => by (simp only [eo] at hn; cases hn)⟩
  | dT xs => exact ⟨fun hn => by (simp only [eo] at hn; cases hn), fun x hn => by (simp only [eo] at hn; cases hn)⟩
theorem jrel_rng {K : PySem.W.Frag} {φ : List Addr} {H : Hp} (lo : Int) (n : Nat) : JRel K φ H (rngIt lo n) (Itr lo n) := by
  intro i φ1 H1 h1 e1 rh1
  unfold rngIt
  refine ⟨fun hn => ?_, fun x hn => ?_⟩
  · by_cases hi : i < n
    · simp only [if_pos hi] at hn; cases hn
    · exact Nat.le_of_not_lt hi
  · by_cases hi : i < n
    · simp only [if_pos hi] at hn
      cases hn
      refine ⟨hi, fun u H2 y => ?_⟩
      obtain ⟨rfl, rfl⟩ := y
      exact ⟨Ev.refl _ _, rh1, .int _⟩
    · simp only [if_neg hi] at hn; cases hn
theorem si_r1 {tg a : Expr} {ta : TA} {m : Env → M (List IV)} {p pos : Pos} (hg : Gl X "range") (hm : X.mg "range" = none) (ha : SA X W [a] ta m) (hs : starEach [a] X.env = [(false, eval a X.env)] := by rfl) : SI X W tg (.Call (.Name "range" p) [a] [] pos) (iRng1 ta) (iR1 m) := by
  refine ⟨pi_range1 hg hm ha.pe hs, fun σ H R φ h env re rh p => ?_⟩
  refine ha.sim σ H _ φ h env re rh (p.bnd (Ev.refl _ _) fun φ1 H1 xs vs h1 e1 rh1 r1 p1 => ?_)
  split at p1
  · rename_i j
    cases r1 with
    | cons a b =>
      cases b; cases a
      split at p1
      · rename_i hj
        exact ⟨_, rfl, hj.1, hj.2, p1 φ1 H1 _ e1 rh1 (jrel_rng _ _)⟩
      · exact p1.elim
  · exact p1.elim
theorem si_r2 {tg a b : Expr} {ta : TA} {m : Env → M (List IV)} {p pos : Pos} (hg : Gl X "range") (hm : X.mg "range" = none) (ha : SA X W [a, b] ta m) (hs : starEach [a, b] X.env = [(false, eval a X.env), (false, eval b X.env)] := by rfl) (hs2 : starEach [b] X.env = [(false, eval b X.env)] := by rfl) : SI X W tg (.Call (.Name "range" p) [a, b] [] pos) (iRng2 ta) (iR2 m) := by
  refine ⟨pi_range2 hg hm ha.pe hs hs2, fun σ H R φ h env re rh p => ?_⟩
  refine ha.sim σ H _ φ h env re rh (p.bnd (Ev.refl _ _) fun φ1 H1 xs vs h1 e1 rh1 r1 p1 => ?_)
  split at p1
  · rename_i i j
    cases r1 with
    | cons a b =>
      cases a
      cases b with
      | cons c d =>
        cases c; cases d
        split at p1
        · rename_i hj
          exact ⟨_, _, rfl, hj, p1 φ1 H1 _ e1 rh1 (jrel_rng _ _)⟩
        · exact p1.elim
  · exact p1.elim
end
end L2.Sh

namespace L2.Sh
open PySem PySem.Spec PyProof.Rows L2
section
variable {X : Cx} {W : WX}
/-! ### for x in e, e a list, a tuple, a text -/
theorem si_seq {tg e : Expr} {te : TE} {m : Env → M IV} (he : SE X W e te m) : SI X W tg e (fun σ H R => iList X.K te σ H R ∨ iTup X.K te σ H R ∨ iStr te σ H R) (iSeq m) := by
  refine ⟨PI.or (pi_list he.pe) (PI.or (pi_tup he.pe) (pi_str he.pe)), fun σ H R φ h env re rh p => ?_⟩
  unfold iSeq bnd at p
  cases hm : m env h with
  | none => rw [hm] at p; exact p.elim
  | some z =>
    obtain ⟨z, h1⟩ := z
    rw [hm] at p
    cases z with
    | error x => exact .inl (he.sim.err re rh hm p)
    | ok x =>
      cases x with
      | tup xs =>
        refine .inr (.inl (he.sim.come re rh hm fun φ1 H1 v e1 rh1 r1 => ?_))
        cases r1 with
        | tup hs rs => exact ⟨_, rfl, ⟨_, hs⟩, p φ1 H1 _ e1 rh1 (jrel_tup hs rs)⟩
      | ref n =>
        refine .inl (he.sim.come re rh hm fun φ1 H1 v e1 rh1 r1 => ?_)
        cases r1 with
        | ref hn =>
          rename_i a
          obtain ⟨o, eo, ro⟩ := rh1.ob hn
          obtain ⟨u, hu, hus⟩ := ro.un
          simp only [seqIt, eo] at p
          cases o with
          | lst xs =>
            obtain ⟨vs, q, rs⟩ := ro
            exact ⟨a, rfl, ⟨vs, .inl (.inl q)⟩, p φ1 H1 _ e1 rh1 (jrel_ref hn)⟩
          | _ => exact p.elim
      | scr ns =>
        refine .inl (he.sim.come re rh hm fun φ1 H1 v e1 rh1 r1 => ?_)
        cases r1 with
        | scr hs => exact ⟨_, rfl, ⟨_, hs.sq⟩, p φ1 H1 _ e1 rh1 (jrel_scr hs)⟩
      | str z =>
        refine .inr (.inr (he.sim.come re rh hm fun φ1 H1 v e1 rh1 r1 => ?_))
        cases r1 with
        | str =>
          refine ⟨z, rfl, p φ1 H1 _ e1 rh1 ?_⟩
          intro i φ2 H2 h2 e2 rh2
          refine ⟨fun hn => ?_, fun y hn => ?_⟩
          · have : (z.cps[i]?).map (fun c => IV.str ⟨#[c]⟩) = none := Option.some.inj hn
            show z.cps.size ≤ i
            cases hc : z.cps[i]? with
            | none => exact Array.getElem?_eq_none_iff.mp hc
            | some c => rw [hc] at this; cases this
          · have hx : (z.cps[i]?).map (fun c => IV.str ⟨#[c]⟩) = some y := Option.some.inj hn
            cases hc : z.cps[i]? with
            | none => rw [hc] at hx; cases hx
            | some c =>
              rw [hc] at hx
              cases hx
              refine ⟨(Array.getElem?_eq_some_iff.mp hc).1, fun u H3 y => ?_⟩
              obtain ⟨rfl, c', hc', rfl⟩ := y
              rw [hc] at hc'; cases hc'
              exact ⟨Ev.refl _ _, rh2, .str _⟩
      | _ => exact p.elim
/-! ### comprehensions -/
def wipeE (env : Env) : List Nat → Env
  | [] => env
  | v :: vs => (wipeE env vs).set v none
theorem REnv.wipe {K : PySem.W.Frag} {φ : List Addr} {H : Hp} {env : Env} {σ : St} (re : REnv K φ H env σ) : ∀ vs, REnv K φ H (wipeE env vs) (L2.wipe σ vs)
  | [] => re
  | v :: vs => (REnv.wipe re vs).unset v none
theorem wipe_comm (σ : St) (i : Nat) (o : Option V) : ∀ vs, i ∈ vs → L2.wipe (σ.set i o) vs = L2.wipe σ vs
  | v :: vs, h => by
    unfold L2.wipe
    by_cases hi : i ∈ vs
    · rw [wipe_comm σ i o vs hi]
    · have hv : i = v := by
        rcases List.mem_cons.mp h with e | e
        · exact e
        · exact absurd e hi
      subst hv
      have key : ∀ ws, L2.wipe (σ.set i o) ws = (L2.wipe σ ws).set i (if i ∈ ws then none else o) ∨ True := fun _ => .inr trivial
      clear key
      have gen : ∀ ws, (L2.wipe (σ.set i o) ws).set i none = (L2.wipe σ ws).set i none := by
        intro ws
        induction ws with
        | nil => show (σ.set i o).set i none = σ.set i none; rw [List.set_set]
        | cons w ws ih =>
          show ((L2.wipe (σ.set i o) ws).set w none).set i none = ((L2.wipe σ ws).set w none).set i none
          by_cases hw : w = i
          · subst hw; rw [List.set_set, List.set_set]; exact ih
          · rw [List.set_comm _ _ hw, List.set_comm _ _ hw, ih]
      exact gen vs
theorem wipe_idem (σ : St) : ∀ vs ws, (∀ v ∈ ws, v ∈ vs) → L2.wipe (L2.wipe σ ws) vs = L2.wipe σ vs
  | vs, [], _ => rfl
  | vs, w :: ws, h => by
    show L2.wipe ((L2.wipe σ ws).set w none) vs = L2.wipe σ vs
    rw [wipe_comm _ _ _ vs (h w List.mem_cons_self)]
    exact wipe_idem σ vs ws fun v hv => h v (List.mem_cons_of_mem _ hv)
/-- a target stores nothing but into vs -/
def GIn (g : TG) (vs : List Nat) : Prop := ∀ v σ H Q, g v σ H Q → g v σ H fun σ2 H2 => L2.wipe σ2 vs = L2.wipe σ vs ∧ Q σ2 H2
def GsIn (g : TGs) (vs : List Nat) : Prop := ∀ v σ H Q, g v σ H Q → g v σ H fun σ2 H2 => L2.wipe σ2 vs = L2.wipe σ vs ∧ Q σ2 H2
theorem gin_name {i : Nat} {vs : List Nat} (h : i ∈ vs) : GIn (gName i) vs := fun v σ H Q q => ⟨wipe_comm σ i _ vs h, q⟩
theorem gsin_nil {vs : List Nat} : GsIn gNil vs := fun v σ H Q q => ⟨q.1, rfl, q.2⟩
theorem gsin_cons {g : TG} {u : TGs} {vs : List Nat} (a : GIn g vs) (b : GsIn u vs) (mono : ∀ v σ H Q Q', (∀ s h, Q s h → Q' s h) → g v σ H Q → g v σ H Q') : GsIn (gCons g u) vs := fun v σ H Q q => by
  obtain ⟨x, r, e, q⟩ := q
  refine ⟨x, r, e, mono _ _ _ _ _ (fun s h z => ?_) (a x σ H _ q)⟩
  obtain ⟨z1, z2⟩ := z
  have := b r s h Q z2
  rw [z1] at this
  exact this
theorem mono_name {i : Nat} : ∀ v σ H Q Q', (∀ s h, Q s h → Q' s h) → gName i v σ H Q → gName i v σ H Q' := fun v σ H Q Q' f q => f _ _ q
theorem monos_nil : ∀ v σ H Q Q', (∀ s h, Q s h → Q' s h) → gNil v σ H Q → gNil v σ H Q' := fun v σ H Q Q' f q => ⟨q.1, f _ _ q.2⟩
theorem monos_cons {g : TG} {u : TGs} (a : ∀ v σ H Q Q', (∀ s h, Q s h → Q' s h) → g v σ H Q → g v σ H Q') (b : ∀ v σ H Q Q', (∀ s h, Q s h → Q' s h) → u v σ H Q → u v σ H Q') : ∀ v σ H Q Q', (∀ s h, Q s h → Q' s h) → gCons g u v σ H Q → gCons g u v σ H Q' := fun v σ H Q Q' f q => by
  obtain ⟨x, r, e, q⟩ := q
  exact ⟨x, r, e, a _ _ _ _ _ (fun s h z => b _ _ _ _ _ f z) q⟩
theorem mono_tup {K : PySem.W.Frag} {n : Nat} {u : TGs} (b : ∀ v σ H Q Q', (∀ s h, Q s h → Q' s h) → u v σ H Q → u v σ H Q') : ∀ v σ H Q Q', (∀ s h, Q s h → Q' s h) → gTup K n u v σ H Q → gTup K n u v σ H Q' := fun v σ H Q Q' f q => by
  obtain ⟨a, xs, e1, e2, e3, q⟩ := q
  exact ⟨a, xs, e1, e2, e3, b _ _ _ _ _ f q⟩
theorem gin_tup {K : PySem.W.Frag} {n : Nat} {u : TGs} {vs : List Nat} (b : GsIn u vs) : GIn (gTup K n u) vs := fun v σ H Q q => by
  obtain ⟨a, xs, e1, e2, e3, q⟩ := q
  exact ⟨a, xs, e1, e2, e3, b _ _ _ _ q⟩
def nox {α : Type} (m : M α) : M α := fun h => match m h with
  | some (.error _, _) => none
  | r => r
def compLoop (it : IIt) (g : MG) (c : Env → M Bool) (b : Env → M IV) (env : Env) (n0 : Nat) : Nat → Nat → M IV
  | 0, _ => fun _ => none
  | n + 1, i => fun h => match it.nxt i h with
    | none => none
    | some none => some (.ok (.ref n0), h)
    | some (some x) => match g x env h with
      | none => none
      | some env1 => bnd (nox (c env1)) (fun k => if k = true then bnd (nox (b env1)) (fun y h2 => match h2[n0]? with
          | some (.lst acc) => if acc.length < 16777216 then compLoop it g c b env n0 n (i + 1) (h2.set n0 (.lst (acc ++ [y]))) else none
          | _ => none) else compLoop it g c b env n0 n (i + 1)) h
/-- [b for .. in mi if c]; vs: the comprehension's own slots -/
def eComp (vs : List Nat) (n : Nat) (mi : Env → M IIt) (g : MG) (c : Env → M Bool) (b : Env → M IV) : Env → M IV := fun env => bnd (mi env) fun it h => compLoop it g c b (wipeE env vs) h.length n 0 (h ++ [.lst []])
abbrev W0 : WX := fun _ _ _ _ => False
structure STs (X : Cx) (ifs : List Expr) (t : TT) (m : Env → M Bool) : Prop where
  pe : PTs X ifs t
  sim : SimT X.K X.mg W0 t m
def cYes : Env → M Bool := fun _ h => some (.ok true, h)
theorem sts_nil : STs X [] tYes cYes := ⟨pts_nil, fun σ H Q φ h env re rh p => p φ H true (Ev.refl _ _) rh rfl⟩
theorem sts_one {c : Expr} {t : TT} {m : Env → M Bool} (h : ST X W0 c t m) : STs X [c] t m := ⟨pts_one h.pe, h.sim⟩
theorem sim_lc {K : PySem.W.Frag} {mg : Str → Option Value} {wi : TI} {mi : Env → M IIt} {g : TG} {k : MG} {tt : TT} {c : Env → M Bool} {te : TE} {b : Env → M IV} {vs : List Nat} {n : Nat}
    (hi : SimI K mg W wi mi) (hg : SimG K g k) (hv : GIn g vs) (gm : ∀ v σ H Q Q', (∀ s h, Q s h → Q' s h) → g v σ H Q → g v σ H Q') (hc : SimT K mg W0 tt c) (hb : SimE K mg W0 te b) : SimE K mg W (tLc wi g tt te vs) (eComp vs n mi k c b) := by
  intro σ H Q φ h env re rh p
  refine hi σ H _ φ h env re rh (p.bnd (Ev.refl _ _) fun φ1 H1 it J h1 e1 rh1 r1 p1 => ?_)
  intro D hD
  have eD : Ev φ1 H1 (φ1 ++ [D]) (upd H1 D (.lst [])) := ev_new hD [D]
  have rhD : RH K (φ1 ++ [D]) (upd H1 D (.lst [])) (h1 ++ [.lst []]) := rh1.alloc hD ⟨[], upd_same, .nil⟩
  have hDn : (φ1 ++ [D])[h1.length]? = some D := by rw [← rh1.len]; simp
  refine ⟨fun i m H' => ∃ φ' h', Ev (φ1 ++ [D]) (upd H1 D (.lst [])) φ' H' ∧ RH K φ' H' h' ∧ Post K mg (RV K) φ' H' (WE W σ) Q (compLoop it k c b (wipeE env vs) h1.length m i h'),
    ⟨n, φ1 ++ [D], h1 ++ [.lst []], Ev.refl _ _, rhD, Post.ev (e1.trans eD) p1⟩, ?_⟩
  rintro i m H2 ⟨φ2, h2, e2, rh2, p2⟩
  cases m with
  | zero => exact p2.elim
  | succ m =>
    obtain ⟨js, jg⟩ := r1 i φ2 H2 h2 (eD.trans e2) rh2
    unfold compLoop at p2
    cases hn : it.nxt i h2 with
    | none => rw [hn] at p2; exact p2.elim
    | some ox =>
      rw [hn] at p2
      cases ox with
      | none => exact .inl ⟨js hn, p2 φ2 H2 _ (Ev.refl _ _) rh2 (.ref (e2.at hDn))⟩
      | some x =>
        obtain ⟨go, yl⟩ := jg x hn
        refine .inr ⟨go, fun H' => ∃ φ' h', Ev (φ1 ++ [D]) (upd H1 D (.lst [])) φ' H' ∧ RH K φ' H' h' ∧ Post K mg (RV K) φ' H' (WE W σ) Q (compLoop it k c b (wipeE env vs) h1.length m (i + 1) h'), fun H' q => ⟨m, Nat.lt_succ_self m, q⟩, fun v H3 y => ?_⟩
        obtain ⟨e3, rh3, r3⟩ := yl v H3 y
        have rw' : REnv K φ2 H3 (wipeE env vs) (L2.wipe σ vs) := (re.ev (((e1.trans eD).trans e2).trans e3)).wipe vs
        simp only [] at p2
        cases hgx : k x (wipeE env vs) h2 with
        | none => rw [hgx] at p2; exact p2.elim
        | some env3 =>
          rw [hgx] at p2
          simp only [] at p2
          have base : g v (L2.wipe σ vs) H3 fun σ2 H4 => H4 = H3 ∧ REnv K φ2 H3 env3 σ2 := hg (L2.wipe σ vs) H3 _ φ2 h2 (wipeE env vs) x v rw' rh3 r3 (by rw [hgx]; exact fun σ' re' => ⟨rfl, re'⟩)
          refine gm _ _ _ _ _ (fun σ2 H4 z => ?_) (hv v _ _ _ base)
          obtain ⟨z1, z2, z3⟩ := z
          subst z2
          refine ⟨by rw [z1]; exact wipe_idem σ vs vs fun _ q => q, ?_⟩
          -- the test
          have p3 := Post.ev e3 p2
          cases hcc : c env3 h2 with
          | none => unfold bnd nox at p3; rw [hcc] at p3; exact p3.elim
          | some zc =>
            obtain ⟨zc, h4⟩ := zc
            unfold bnd nox at p3
            rw [hcc] at p3
            cases zc with
            | error x => exact p3.elim
            | ok kb =>
              refine hc σ2 H4 _ φ2 h2 env3 z3 rh3 ?_
              rw [hcc]
              intro φ5 H5 b5 e5 rh5 eb
              subst eb
              cases kb with
              | false =>
                refine iteF ?_
                exact ⟨φ5, h4, (e2.trans e3).trans e5, rh5, Post.ev e5 p3⟩
              | true =>
                refine iteT ?_
                have p4 := Post.ev e5 p3
                simp only [if_pos] at p4
                cases hbb : b env3 h4 with
                | none => rw [hbb] at p4; exact p4.elim
                | some zb =>
                  obtain ⟨zb, h6⟩ := zb
                  rw [hbb] at p4
                  cases zb with
                  | error x => exact p4.elim
                  | ok yv =>
                    refine hb σ2 H5 _ φ5 h4 env3 (z3.ev e5) rh5 ?_
                    rw [hbb]
                    intro φ6 H6 u e6 rh6 r6
                    have e06 : Ev (φ1 ++ [D]) (upd H1 D (.lst [])) φ6 H6 := ((e2.trans e3).trans e5).trans e6
                    obtain ⟨o, eo, ro⟩ := rh6.ob (e06.at hDn)
                    have p5 := Post.ev e6 p4
                    simp only [eo] at p5
                    cases o with
                    | lst acc =>
                      obtain ⟨avs, qa, ra⟩ := ro
                      simp only [] at p5
                      by_cases hl : acc.length < 16777216
                      · rw [if_pos hl] at p5
                        refine ⟨avs, qa, by rw [line16, ← ra.length]; exact hl, ?_⟩
                        have ep : Ev φ6 H6 φ6 (upd H6 D (.lst (avs ++ [u]))) := ev_put qa rfl
                        exact ⟨φ6, _, e06.trans ep, rh6.put (o := .lst (acc ++ [yv])) (e06.at hDn) ⟨_, upd_same, (ra.append (.cons r6 .nil)).ev ep⟩, Post.ev ep p5⟩
                      · rw [if_neg hl] at p5; exact p5.elim
                    | dK xs => exact p5.elim
                    | dT xs => exact p5.elim
end
end L2.Sh

namespace L2.Sh
open PySem PySem.Spec PyProof.Rows L2
section
variable {X : Cx} {W : WX}
theorem se_lc {elt tg iter : Expr} {ifs : List Expr} {scope : Scope} {own : List (Str × Nat)} {pos : Pos} {wi : TI} {mi : Env → M IIt} {g : TG} {k : MG} {tt : TT} {c : Env → M Bool} {te : TE} {b : Env → M IV} {n : Nat} (hc : X.calm = true) (hN : X.N.Nodup) (hi : SI X W tg iter wi mi) (ok : BlkOk X.N X.env.scope scope own)
    (hg : ∀ (s : Shared) (H : Hp) (C : Addr) (cl : List (Str × Addr)) (fp : List Addr), SG (X.blk s H scope (compEnvC scope cl C X.env) fp) tg g k) (hv : GIn g (own.map (·.2))) (gm : ∀ v σ H Q Q', (∀ s h, Q s h → Q' s h) → g v σ H Q → g v σ H Q') (ht : ∀ (s : Shared) (H : Hp) (C : Addr) (cl : List (Str × Addr)) (fp : List Addr), STs (X.blk s H scope (compEnvC scope cl C X.env) fp) ifs tt c)
    (he : ∀ (s : Shared) (H : Hp) (C : Addr) (cl : List (Str × Addr)) (fp : List Addr), SE (X.blk s H scope (compEnvC scope cl C X.env) fp) W0 elt te b) (hs : ∀ x, foldedSetIterable iter X.env x = pure x := by intro _; rfl) :
    SE X W (.ListComp elt [⟨tg, iter, ifs, 0⟩] scope pos) (tLc wi g tt te (own.map (·.2))) (eComp (own.map (·.2)) n mi k c b) :=
  ⟨pe_lc hc hN hi.pe ok (fun s H C cl fp => (hg s H C cl fp).pe) (fun s H C cl fp => (ht s H C cl fp).pe) (fun s H C cl fp => (he s H C cl fp).pe) hs,
    sim_lc hi.sim (hg X.s_0 X.H_0 0 [] []).sim hv gm (ht X.s_0 X.H_0 0 [] []).sim (he X.s_0 X.H_0 0 [] []).sim⟩
theorem ss_setLc {i : Nat} {y : Str} {py : Pos} {elt tg iter : Expr} {ifs : List Expr} {scope : Scope} {own : List (Str × Nat)} {pos spos : Pos} {wi : TI} {mi : Env → M IIt} {g : TG} {k : MG} {tt : TT} {c : Env → M Bool} {te : TE} {b : Env → M IV} {n : Nat} (hc : X.calm = true) (hN : X.N.Nodup) (hy : X.N[i]? = some y) (hyl : X.env.scope.names.lookup y = some .local)
    (hsw : swapsWith (.ListComp elt [⟨tg, iter, ifs, 0⟩] scope pos) (some (.Name y py)) spos.line X.env = pure true) (hi : SI X W tg iter wi mi) (ok : BlkOk X.N X.env.scope scope own)
    (hg : ∀ (s : Shared) (H : Hp) (C : Addr) (cl : List (Str × Addr)) (fp : List Addr), SG (X.blk s H scope (compEnvC scope cl C X.env) fp) tg g k) (hv : GIn g (own.map (·.2))) (gm : ∀ v σ H Q Q', (∀ s h, Q s h → Q' s h) → g v σ H Q → g v σ H Q') (ht : ∀ (s : Shared) (H : Hp) (C : Addr) (cl : List (Str × Addr)) (fp : List Addr), STs (X.blk s H scope (compEnvC scope cl C X.env) fp) ifs tt c)
    (he : ∀ (s : Shared) (H : Hp) (C : Addr) (cl : List (Str × Addr)) (fp : List Addr), SE (X.blk s H scope (compEnvC scope cl C X.env) fp) W0 elt te b) (hs : ∀ x, foldedSetIterable iter X.env x = pure x := by intro _; rfl) :
    SS X W (.Assign [.Name y py] (.ListComp elt [⟨tg, iter, ifs, 0⟩] scope pos) spos) (tAsg (tLc wi g tt te (own.map (·.2))) (gName i)) (sAsg i (eComp (own.map (·.2)) n mi k c b)) :=
  ⟨ps_setLc hc hN hy hyl hsw hi.pe ok (fun s H C cl fp => (hg s H C cl fp).pe) (fun s H C cl fp => (ht s H C cl fp).pe) (fun s H C cl fp => (he s H C cl fp).pe) hs,
    fun σ H D φ h env re rh p => (sim_lc hi.sim (hg X.s_0 X.H_0 0 [] []).sim hv gm (ht X.s_0 X.H_0 0 [] []).sim (he X.s_0 X.H_0 0 [] []).sim) σ H _ φ h env re rh
      (p.bnd re fun φ1 H1 x v h1 e1 rh1 r1 re1 p1 => p1 φ1 H1 _ (Ev.refl _ _) rh1 (re1.set r1 i))⟩
/-! ### defs -/
abbrev Fn := List IV → M IV
def runF (n : Nat) (b : MS) : Fn := fun xs h => match b (xs.map some ++ List.replicate (n - xs.length) none) h with
  | some (.nx _, h') => some (.ok .non, h')
  | some (.rt v, h') => some (.ok v, h')
  | some (.ex x _, h') => some (.error x, h')
  | _ => none
def spM (K : PySem.W.Frag) (mg : Str → Option Value) (np : Nat) (f : Fn) : Sp := fun vs H Q E => ∃ φ h xs, RVs K φ H xs vs ∧ RH K φ H h ∧ xs.length = np ∧ Post K mg (RV K) φ H E Q (f xs h)
abbrev FnM (P : Program) (w : World) (K : PySem.W.Frag) (mg : Str → Option Value) (base : Heap) (k : Nat) (f : Addr) (fd : FuncData) (ps : List Str) (F : Fn) : Prop := FnOk P w K mg base (L2.CX P w) k f fd ps (spM K mg ps.length F)
def eCall (F : Fn) (m : Env → M (List IV)) : Env → M IV := fun env => bnd (m env) F
abbrev WD (E : XK) : WX := fun cls d _ H => E cls d H
theorem fn_ok {P : Program} {w : World} {K : PySem.W.Frag} {mg : Str → Option Value} {base : Heap} {x qual : Str} {st : Stmt} {f : Addr} {fd : FuncData} {N ps : List Str} {k : Nat} {b : MS} (F : Fun K x qual st f fd) (S : FnScope N ps (defScope st))
    (hb : ∀ (cdv : Value) (A : Around) (outer : List PySem.Env) (s : Shared) (H : Hp) (E : XK), Room k (A.deeper (envOfC qual (defScope st) s.heap.objs.size f cdv)) →
      ∃ t, SB (cxOf (L2.CX P w) P w K mg base N qual (defScope st) f cdv A outer s H E) (WD E) (defBody st) t b) : FnM P w K mg base (k + 1) f fd ps (runF N.length b) := by
  refine F.okX S (fun vs H Q E h => ?_) (fun cdv A outer s H vs Q E hr h => ?_)
  · obtain ⟨φ, hh, xs, r, _, l, _⟩ := h
    rw [← r.length]; exact l
  · obtain ⟨t, sb⟩ := hb cdv A outer s H E hr
    refine ⟨t, sb.pe, ?_⟩
    obtain ⟨φ, hh, xs, r, rh, l, p⟩ := h
    have re : REnv K φ H (xs.map some ++ List.replicate (N.length - xs.length) none) (L2.start N vs) := by
      unfold L2.start
      rw [← r.length]
      exact REnv.start r _
    refine sb.sim _ _ _ φ hh _ re rh ?_
    unfold runF at p
    show PostS K mg (WD E) φ H _ _
    cases hm : b (xs.map some ++ List.replicate (N.length - xs.length) none) hh with
    | none => rw [hm] at p; exact p.elim
    | some z =>
      obtain ⟨z, h'⟩ := z
      rw [hm] at p
      cases z with
      | nx env' => exact fun φ' H' σ' e rh' re' => p φ' H' _ e rh' .non
      | rt v => exact p
      | ex x env' => exact fun φ' H' σ' cls d e rh' re' rx => p φ' H' cls d e rh' rx
      | bk _ => exact p.elim
      | ct _ => exact p.elim
theorem se_call {k j : Nat} {f : Addr} {fd : FuncData} {ps : List Str} {G : Fn} {x : Str} {e : Expr} {es : List Expr} {t : TA} {m : Env → M (List IV)} {p pos : Pos} (F : FnM X.prog X.w X.K X.mg X.base j f fd ps G) (hr : Room k X.A) (hm : X.mg x = some (.ref f)) (hk : PySem.W.keepIn X.K (.ref f) = true) (hb : Binds X.K fd ps []) (tk : Takes X W)
    (ha : SA X W (e :: es) t m) (hl : ps.length = (e :: es).length) (hg : Gl X x := by rfl) (hj : j ≤ k := by decide)
    (al : ∀ env h xs h', m env h = some (.ok xs, h') → xs.length = (e :: es).length)
    (pe : FnOk X.prog X.w X.K X.mg X.base (L2.CX X.prog X.w) k f fd ps (spM X.K X.mg ps.length G) → PA X (e :: es) t → (∀ σ, PassesAt (L2.CX X.prog X.w) X σ (WE W σ)) → PE X (.Call (.Name x p) (e :: es) [] pos) (tCallS (spM X.K X.mg ps.length G) (WE W) t)) :
    SE X W (.Call (.Name x p) (e :: es) [] pos) (tCallS (spM X.K X.mg ps.length G) (WE W) t) (eCall G m) := by
  refine ⟨pe (F.mono hj) ha.pe (passAt tk), ?_⟩
  intro σ H Q φ h env re rh p
  unfold eCall at p
  have al' := al env h
  unfold bnd at p
  cases hmm : m env h with
  | none => rw [hmm] at p; exact p.elim
  | some z =>
    obtain ⟨z, h1⟩ := z
    rw [hmm] at p
    cases z with
    | error x =>
      refine ha.sim σ H _ φ h env re rh ?_
      rw [hmm]
      exact p
    | ok xs =>
      refine ha.sim σ H _ φ h env re rh ?_
      rw [hmm]
      exact fun φ1 H1 vs e1 rh1 r1 => ⟨φ1, h1, xs, r1, rh1, by rw [al' xs h1 hmm, hl], Post.ev e1 p⟩
theorem aNil_len : ∀ env h xs h', aNil env h = some (.ok xs, h') → xs.length = ([] : List Expr).length := by
  intro env h xs h' e
  cases e
  rfl
theorem aCons_len {e : Expr} {es : List Expr} {a : Env → M IV} {b : Env → M (List IV)} (hb : ∀ env h xs h', b env h = some (.ok xs, h') → xs.length = es.length) : ∀ env h xs h', aCons a b env h = some (.ok xs, h') → xs.length = (e :: es).length := by
  intro env h xs h' q
  unfold aCons bnd at q
  cases ha : a env h with
  | none => rw [ha] at q; cases q
  | some z =>
    obtain ⟨z, h1⟩ := z
    rw [ha] at q
    cases z with
    | error x => cases q
    | ok x =>
      simp only [] at q
      cases hbb : b env h1 with
      | none => rw [hbb] at q; cases q
      | some z =>
        obtain ⟨z, h2⟩ := z
        rw [hbb] at q
        cases z with
        | error x => cases q
        | ok y =>
          cases q
          have := hb env h1 y _ hbb
          simp [this]
/-! ### more statements -/
def sPar (i j : Nat) (m : Env → M (List IV)) : MS := bndS m fun xs env h => match xs with
  | [x, y] => some (.nx ((env.set i (some x)).set j (some y)), h)
  | _ => none
theorem ss_par {i j : Nat} {a b : Expr} {ta : TA} {m : Env → M (List IV)} {st : Stmt} (ha : SA X W [a, b] ta m) (pe : PA X [a, b] ta → PS X st (tPar i j ta)) : SS X W st (tPar i j ta) (sPar i j m) := by
  refine ⟨pe ha.pe, fun σ H D φ h env re rh p => ha.sim σ H _ φ h env re rh (p.bnd re fun φ1 H1 x v h1 e1 rh1 r1 re1 p1 => ?_)⟩
  split at p1
  · cases r1 with
    | cons r1 r2 =>
      cases r2 with
      | cons r2 r3 =>
        cases r3
        exact ⟨_, _, rfl, p1 φ1 H1 _ (Ev.refl _ _) rh1 ((re1.set r1 i).set r2 j)⟩
  · exact p1.elim
/-- xs[i] = e, a list -/
def putL (o i x : IV) (h : IH) : Option IH := match o, i with
  | .ref n, .int k => match h[n]? with
    | some (.lst xs) => match ixN xs.length k with
      | some j => some (h.set n (.lst (xs.set j x)))
      | none => none
    | _ => none
  | _, _ => none
def sSub (put : IV → IV → IV → IH → Option IH) (o i e : Env → M IV) : MS := bndS e fun x => bndS o fun y => bndS i fun z env h => match put y z x h with
  | none => none
  | some h' => some (.nx env, h')
theorem ss_sub {o i e : Expr} {to ti te : TE} {mo mi me : Env → M IV} {put : IV → IV → IV → IH → Option IH} {t : TSet} {pos pos' : Pos} (ho : SE X W o to mo) (hi : SE X W i ti mi) (he : SE X W e te me)
    (hs : ∀ H Q φ h o i x vo vi vx, RH X.K φ H h → RV X.K φ H o vo → RV X.K φ H i vi → RV X.K φ H x vx → (match put o i x h with | none => False | some h' => ∀ H', Ev φ H φ H' → RH X.K φ H' h' → Q H') → t vo vi vx H Q)
    (pe : PS X (.Assign [.Subscript o i pos'] e pos) (tAsg te (gSub to ti t))) : SS X W (.Assign [.Subscript o i pos'] e pos) (tAsg te (gSub to ti t)) (sSub put mo mi me) := by
  refine ⟨pe, fun σ H D φ h env re rh p => ?_⟩
  refine he.sim σ H _ φ h env re rh (p.bnd re fun φ1 H1 x vx h1 e1 rh1 r1 re1 p1 => ?_)
  refine ho.sim σ H1 _ φ1 h1 env re1 rh1 (p1.bnd re1 fun φ2 H2 y vy h2 e2 rh2 r2 re2 p2 => ?_)
  refine hi.sim σ H2 _ φ2 h2 env re2 rh2 (p2.bnd re2 fun φ3 H3 z vz h3 e3 rh3 r3 re3 p3 => ?_)
  refine hs H3 _ φ3 h3 y z x vy vz vx rh3 (r2.ev e3) r3 ((r1.ev e2).ev e3) ?_
  cases hp : put y z x h3 with
  | none => rw [hp] at p3; exact p3.elim
  | some h' =>
    rw [hp] at p3
    exact fun H' e' rh' => p3 φ3 H' σ e' rh' (re3.ev e')
theorem putL_sim {K : PySem.W.Frag} : ∀ H Q φ h o i x vo vi vx, RH K φ H h → RV K φ H o vo → RV K φ H i vi → RV K φ H x vx → (match putL o i x h with | none => False | some h' => ∀ H', Ev φ H φ H' → RH K φ H' h' → Q H') → rSetL vo vi vx H Q := by
  intro H Q φ h o i x vo vi vx rh ro ri rx p
  unfold putL at p
  cases ro <;> first | exact p.elim | skip
  rename_i n a hn
  cases ri <;> first | exact p.elim | skip
  rename_i k
  simp only [] at p
  obtain ⟨ob, eo, rob⟩ := rh.ob hn
  rw [eo] at p
  cases ob with
  | lst xs =>
    obtain ⟨vs, q, rs⟩ := rob
    simp only [] at p
    cases hj : ixN xs.length k with
    | none => rw [hj] at p; exact p.elim
    | some j =>
      rw [hj] at p
      have ep : Ev φ H φ (upd H a (.lst (vs.set j vx))) := ev_put q rfl
      exact ⟨a, vs, k, j, rfl, rfl, q, by rw [← rs.length]; exact hj, p _ ep (rh.put (o := .lst (xs.set j x)) hn ⟨_, upd_same, (rs.set rx j).ev ep⟩)⟩
  | dK xs => exact p.elim
  | dT xs => exact p.elim
theorem ss_subL {o i e : Expr} {to ti te : TE} {mo mi me : Env → M IV} {pos pos' : Pos} (ho : SE X W o to mo) (hi : SE X W i ti mi) (he : SE X W e te me)
    (pe : PE X e te → PE X o to → PE X i ti → PS X (.Assign [.Subscript o i pos'] e pos) (tAsg te (gSub to ti rSetL))) : SS X W (.Assign [.Subscript o i pos'] e pos) (tAsg te (gSub to ti rSetL)) (sSub putL mo mi me) := ss_sub ho hi he putL_sim (pe he.pe ho.pe hi.pe)
/-! ### raise C('..') -/
def sRaise (x : Str) : MS := fun env h => some (.ex ⟨x, Str.empty, []⟩ env, h)
theorem ss_raise {x : Str} {e : Expr} {pos : Pos} (pe : PS X (.Raise (some e) none pos) (fun _ σ H => W (.ref (He.ga X.K x)) none σ H)) : SS X W (.Raise (some e) none pos) (fun _ σ H => W (.ref (He.ga X.K x)) none σ H) (sRaise x) :=
  ⟨pe, fun σ H D φ h env re rh p => p φ H σ _ _ (Ev.refl _ _) rh re ⟨rfl, .inl ⟨rfl, rfl⟩⟩⟩
end
end L2.Sh

namespace L2.Sh
open PySem PySem.Spec PyProof.Rows L2
/-! ### operators on plain values -/
def addI : O2 := fun x y h => match x, y with
  | .int i, .int j => some (.int (i + j), h)
  | _, _ => none
def subI : O2 := fun x y h => match x, y with
  | .int i, .int j => some (.int (i - j), h)
  | _, _ => none
def mulI : O2 := fun x y h => match x, y with
  | .int i, .int j => if i.natAbs.log2 + j.natAbs.log2 < 1000000 then some (.int (i * j), h) else none
  | _, _ => none
def divI : O2 := fun x y h => match x, y with
  | .int i, .int j => if j ≠ 0 ∧ j.natAbs.log2 < 9000 then some (.int (i.fdiv j), h) else none
  | _, _ => none
def modI : O2 := fun x y h => match x, y with
  | .int i, .int j => if j ≠ 0 then some (.int (i.fmod j), h) else none
  | _, _ => none
def powI : O2 := fun x y h => match x, y with
  | .int i, .int j => if 0 ≤ j ∧ j ≤ 1000000 ∧ i.natAbs < 2 ^ 64 then some (.int (i ^ j.toNat), h) else none
  | _, _ => none
def addS : O2 := fun x y h => match x, y with
  | .str i, .str j => if i.length + j.length ≤ 16777216 then some (.str (i ++ j), h) else none
  | _, _ => none
def addL : O2 := fun x y h => match x, y with
  | .ref n, .ref m => match h[n]?, h[m]? with
    | some (.lst xs), some (.lst ys) => if xs.length + ys.length ≤ 16777216 then some (.ref h.length, h ++ [.lst (xs ++ ys)]) else none
    | _, _ => none
  | _, _ => none
def addT : O2 := fun x y h => match x, y with
  | .tup (x :: xs), .tup ys => if (x :: xs).length + ys.length ≤ 16777216 then some (.tup ((x :: xs) ++ ys), h) else none
  | _, _ => none
def cmpI (p : Int → Int → Bool) : O2 := fun x y h => match x, y with
  | .int i, .int j => some (.bl (p i j), h)
  | _, _ => none
def eqS (f : Bool → Bool) : O2 := fun x y h => match x, y with
  | .int i, .int j => some (.bl (f (decide (i = j))), h)
  | .str i, .str j => some (.bl (f (decide (i = j))), h)
  | .bl i, .bl j => some (.bl (f (decide (i = j))), h)
  | .non, .non => some (.bl (f true), h)
  | .non, .int _ => some (.bl (f false), h)
  | .int _, .non => some (.bl (f false), h)
  | .non, .bl _ => some (.bl (f false), h)
  | .bl _, .non => some (.bl (f false), h)
  | .non, .str _ => some (.bl (f false), h)
  | .str _, .non => some (.bl (f false), h)
  | .int _, .str _ => some (.bl (f false), h)
  | .str _, .int _ => some (.bl (f false), h)
  | .bl _, .str _ => some (.bl (f false), h)
  | .str _, .bl _ => some (.bl (f false), h)
  | _, _ => none
mutual
def toD (h : IH) : Nat → IV → Option PyData
  | _, .non => some .none
  | _, .bl b => some (.bool b)
  | _, .int i => some (.int i)
  | _, .str x => some (.str x)
  | n, .tup xs => (toDs h n xs).map PyData.tuple
  | n + 1, .ref k => match h[k]? with
    | some (.lst xs) => (toDs h n xs).map PyData.list
    | _ => none
  | _, .scr ns => some (.list (ns.map PyData.int))
  | _, .exc _ _ _ => none
  | 0, .ref _ => none
termination_by n x => (n, sizeOf x)
def toDs (h : IH) : Nat → List IV → Option (List PyData)
  | _, [] => some []
  | n, x :: xs => match toD h n x, toDs h n xs with
    | some d, some ds => some (d :: ds)
    | _, _ => none
termination_by n xs => (n, sizeOf xs)
end
def eqD (f : Bool → Bool) : O2 := fun x y h => match toD h 64 x, toD h 64 y with
  | some d, some e => if SeqAt.shaped d = true ∧ SeqAt.shaped e = true then some (.bl (f (PyData.eqv d e)), h) else none
  | _, _ => none
def isNO (f : Bool → Bool) : O2 := fun x y h => match y with
  | .non => match x with
    | .non => some (.bl (f true), h)
    | .bl _ => some (.bl (f false), h)
    | .int _ => some (.bl (f false), h)
    | .str _ => some (.bl (f false), h)
    | .tup _ => some (.bl (f false), h)
    | .ref _ => some (.bl (f false), h)
    | .scr _ => some (.bl (f false), h)
    | .exc _ _ _ => some (.bl (f false), h)
  | _ => none
def flatI : IV → Bool
  | .non => true | .bl _ => true | .int _ => true | .str _ => true | _ => false
def eqI : IV → IV → Bool
  | .non, .non => true
  | .bl a, .bl b => a == b
  | .bl a, .int b => (if a then 1 else 0) == b
  | .int a, .bl b => a == (if b then 1 else 0)
  | .int a, .int b => a == b
  | .str a, .str b => a == b
  | _, _ => false
def inI (x : IV) (xs : List IV) : Bool := xs.any fun y => eqI y x
def seqOf (h : IH) : IV → Option (List IV)
  | .tup xs => some xs
  | .ref n => match h[n]? with
    | some (.lst xs) => some xs
    | _ => none
  | .scr ns => some (ns.map IV.int)
  | _ => none
def inQ (neg : Bool) : O2 := fun x y h => match seqOf h y with
  | some xs => if flatI x = true ∧ xs.all flatI = true then some (.bl (if neg then !inI x xs else inI x xs), h) else none
  | none => none
def inS1 (f : Bool → Bool) : O2 := fun x y h => match x, y with
  | .str ⟨⟨[c]⟩⟩, .str z => some (.bl (f (decide (c ∈ z.cps.toList))), h)
  | _, _ => none
def inS (f : Bool → Bool) : O2 := fun x y h => match x, y with
  | .str i, .str j => some (.bl (f (!(Builtin.Str.occurrences j i 0 j.length 1).isEmpty)), h)
  | _, _ => none
def ixQ : O2 := fun x y h => match y with
  | .int i => match x with
    | .str z => if z.length ≤ 16777216 then (match atI z.cps.toList i with
      | some c => some (.str ⟨#[c]⟩, h)
      | none => none) else none
    | x => match seqOf h x with
      | some xs => match atI xs i with
        | some v => some (v, h)
        | none => none
      | none => none
  | _ => none

/-! ### their soundness -/
def rOr (r1 r2 : R2) : R2 := fun x y H Q => r1 x y H Q ∨ r2 x y H Q
def rAddS : R2 := fun x y H Q => ∃ i j, x = .str i ∧ y = .str j ∧ i.length + j.length ≤ sizeLine ∧ Q (.str (i ++ j)) H
def rAddA (K : PySem.W.Frag) : R2 := rOr (rI0 fun i j => .int (i + j)) (rOr rAddS (rOr rCat (rCatT K)))
def rEqA (K : PySem.W.Frag) : R2 := rOr rEq (rEqD K)
def rNeA (K : PySem.W.Frag) : R2 := rOr rNe (rNeD K)
def rIsN (f : Bool → Bool) : R2 := fun x y H Q => y = .non ∧ Q (.bl (f (decide (x = .non)))) H
def rInS1 (f : Bool → Bool) : R2 := fun x y H Q => ∃ (c : Nat) (z : Str), x = .str ⟨#[c]⟩ ∧ y = .str z ∧ Q (.bl (f (decide (c ∈ z.cps.toList)))) H
def rInS (f : Bool → Bool) : R2 := fun x y H Q => ∃ i j, x = .str i ∧ y = .str j ∧ Q (.bl (f (!(Builtin.Str.occurrences j i 0 j.length 1).isEmpty))) H
def rInA (K : PySem.W.Frag) : R2 := rOr (rIn K false) (rOr (rInS1 id) (rInS id))
def rNinA (K : PySem.W.Frag) : R2 := rOr (rIn K true) (rOr (rInS1 not) (rInS not))
section
variable {X : Cx} {W : WX}
theorem seqOf_sim {K : PySem.W.Frag} {φ : List Addr} {H : Hp} {h : IH} {x : IV} {v : V} {xs : List IV} (rh : RH K φ H h) (r : RV K φ H x v) (e : seqOf h x = some xs) : ∃ p vs, v = .ref p ∧ (SqL K H p vs ∨ SqT K H p vs) ∧ RVs K φ H xs vs := by
  cases r with
  | tup hs rs => cases e; exact ⟨_, _, rfl, .inr hs, rs⟩
  | ref hn =>
    obtain ⟨o, eo, ro⟩ := rh.ob hn
    simp only [seqOf, eo] at e
    cases o with
    | lst xs => cases e; obtain ⟨vs, q, rs⟩ := ro; exact ⟨_, vs, rfl, .inl (.inl (.inl q)), rs⟩
    | dK xs => cases e
    | dT xs => cases e
  | scr hs => cases e; exact ⟨_, _, rfl, .inl hs.sq, RVs.ints _⟩
  | _ => cases e
theorem sim_int2 {K : PySem.W.Frag} {o : O2} {r : R2} (hn : ∀ x y h, (∀ i j, ¬ (x = IV.int i ∧ y = IV.int j)) → o x y h = none) (hr : ∀ H Q φ h i j, RH K φ H h → PostO K (RV K) φ H Q (o (.int i) (.int j) h) → r (.int i) (.int j) H Q) : SimR K r o := by
  intro H Q φ h x y vx vy rh rx ry p
  by_cases c : ∃ i j, x = IV.int i ∧ y = IV.int j
  · obtain ⟨i, j, rfl, rfl⟩ := c
    cases rx; cases ry
    exact hr H Q φ h i j rh p
  · rw [hn x y h (fun i j z => c ⟨i, j, z⟩)] at p
    exact p.elim
theorem so_addI : SOp X (binaryOp .Add) (rI0 fun i j => .int (i + j)) addI := ⟨op_add, sim_int2 (fun x y h c => by unfold addI; split; exact absurd ⟨rfl, rfl⟩ (c _ _); rfl) fun H Q φ h i j rh p => ⟨i, j, rfl, rfl, p.give rh (.int _)⟩⟩
theorem so_subI : SOp X (binaryOp .Sub) (rI0 fun i j => .int (i - j)) subI := ⟨op_sub, sim_int2 (fun x y h c => by unfold subI; split; exact absurd ⟨rfl, rfl⟩ (c _ _); rfl) fun H Q φ h i j rh p => ⟨i, j, rfl, rfl, p.give rh (.int _)⟩⟩
theorem so_mulI : SOp X (binaryOp .Mult) (rI CMulW fun i j => .int (i * j)) mulI := ⟨op_mulW, sim_int2 (fun x y h c => by unfold mulI; split; exact absurd ⟨rfl, rfl⟩ (c _ _); rfl) fun H Q φ h i j rh p => by
  simp only [mulI] at p
  split at p
  · rename_i hc
    exact ⟨i, j, rfl, rfl, hc, p.give rh (.int _)⟩
  · exact p.elim⟩
def CDivA (_ j : Int) : Prop := j ≠ 0 ∧ j.natAbs.log2 < 9000
theorem op_fdivA : OpR X (binaryOp .FloorDiv) (rI CDivA fun i j => .int (i.fdiv j)) := by
  intro pins s σ H x y v u Q I rx ry h
  obtain ⟨i, j, rfl, rfl, hc, q⟩ := h
  obtain ⟨t, rfl⟩ := rx
  obtain ⟨t', rfl⟩ := ry
  exact floordiv_int hc.1 ⟨.int (i.fdiv j), H, I.tok _, ⟨_, rfl⟩, q⟩ (.inl (PyProof.noPylong_of_log2 hc.2))
theorem so_divI : SOp X (binaryOp .FloorDiv) (rI CDivA fun i j => .int (i.fdiv j)) divI := ⟨op_fdivA, sim_int2 (fun x y h c => by unfold divI; split; exact absurd ⟨rfl, rfl⟩ (c _ _); rfl) fun H Q φ h i j rh p => by
  simp only [divI] at p
  split at p
  · rename_i hc
    exact ⟨i, j, rfl, rfl, hc, p.give rh (.int _)⟩
  · exact p.elim⟩
theorem so_modI : SOp X (binaryOp .Mod) (rI (fun _ j => j ≠ 0) fun i j => .int (i.fmod j)) modI := ⟨op_modN, sim_int2 (fun x y h c => by unfold modI; split; exact absurd ⟨rfl, rfl⟩ (c _ _); rfl) fun H Q φ h i j rh p => by
  simp only [modI] at p
  split at p
  · rename_i hc
    exact ⟨i, j, rfl, rfl, hc, p.give rh (.int _)⟩
  · exact p.elim⟩
theorem so_powI : SOp X (binaryOp .Pow) (rI CPow fun i j => .int (i ^ j.toNat)) powI := ⟨op_pow, sim_int2 (fun x y h c => by unfold powI; split; exact absurd ⟨rfl, rfl⟩ (c _ _); rfl) fun H Q φ h i j rh p => by
  simp only [powI] at p
  split at p
  · rename_i hc
    exact ⟨i, j, rfl, rfl, hc, p.give rh (.int _)⟩
  · exact p.elim⟩
theorem so_addS : SOp X (binaryOp .Add) rAddS addS := ⟨op_add_str, by
  intro H Q φ h x y vx vy rh rx ry p
  unfold addS at p
  split at p
  · rename_i i j
    cases rx; cases ry
    split at p
    · rename_i hc
      exact ⟨i, j, rfl, rfl, by rw [line16]; exact hc, p.give rh (.str _)⟩
    · exact p.elim
  · exact p.elim⟩
theorem so_addL : SOp X (binaryOp .Add) rCat addL := ⟨op_cat, by
  intro H Q φ h x y vx vy rh rx ry p
  unfold addL at p
  split at p
  · rename_i n m
    cases rx with
    | ref hn =>
      cases ry with
      | ref hm =>
        rename_i a b
        obtain ⟨o1, eo1, ro1⟩ := rh.ob hn
        obtain ⟨o2, eo2, ro2⟩ := rh.ob hm
        simp only [eo1, eo2] at p
        cases o1 <;> cases o2 <;> first | exact p.elim | skip
        rename_i xs ys
        obtain ⟨vs, q1, r1⟩ := ro1
        obtain ⟨us, q2, r2⟩ := ro2
        simp only [] at p
        split at p
        · rename_i hc
          refine ⟨a, b, vs, us, rfl, rfl, q1, q2, by rw [line16, ← r1.length, ← r2.length]; exact hc, fun z hz => ?_⟩
          exact post_new (o := .lst (xs ++ ys)) rh hz ⟨_, upd_same, (r1.append r2).ev (ev_new hz _)⟩ p
        · exact p.elim
  · exact p.elim⟩
theorem so_addT : SOp X (binaryOp .Add) (rCatT X.K) addT := ⟨op_catT, by
  intro H Q φ h x y vx vy rh rx ry p
  unfold addT at p
  split at p
  · rename_i x xs ys
    cases rx with
    | tup h1 r1 =>
      cases ry with
      | tup h2 r2 =>
        rename_i a vs b us
        split at p
        · rename_i hc
          refine ⟨a, b, vs, us, rfl, rfl, h1, h2, ?_, by rw [line16, ← r1.length, ← r2.length]; exact hc, fun e => ?_, fun ne z hz => ?_⟩
          · intro e
            have := r1.length
            rw [e] at this
            cases this
          · subst e
            cases r2
            refine p.give rh (.tup h1 ?_)
            rw [List.append_nil]
            exact r1
          · exact p φ _ _ (ev_new0 hz) (rh.beside hz) (.tup (.inl (.inl upd_same)) ((r1.append r2).ev (ev_new0 hz)))
        · exact p.elim
  · exact p.elim⟩
abbrev addO : O2 := orO addI (orO addS (orO addL addT))
theorem so_add : SOp X (binaryOp .Add) (rAddA X.K) addO := so_addI.or (so_addS.or (so_addL.or so_addT))
theorem sim_cmpI {K : PySem.W.Frag} (p : Int → Int → Bool) : SimR K (rI0 fun i j => .bl (p i j)) (cmpI p) := sim_int2 (fun x y h c => by unfold cmpI; split; exact absurd ⟨rfl, rfl⟩ (c _ _); rfl) fun H Q φ h i j rh p => ⟨i, j, rfl, rfl, p.give rh (.bl _)⟩
theorem so_lt : SOp X (compareOp .Lt) (rI0 fun i j => .bl (decide (i < j))) (cmpI fun i j => decide (i < j)) := ⟨op_lt, sim_cmpI _⟩
theorem so_le : SOp X (compareOp .LtE) (rI0 fun i j => .bl (decide (i ≤ j))) (cmpI fun i j => decide (i ≤ j)) := ⟨op_le, sim_cmpI _⟩
theorem so_gt : SOp X (compareOp .Gt) (rI0 fun i j => .bl (decide (j < i))) (cmpI fun i j => decide (j < i)) := ⟨op_gt, sim_cmpI _⟩
theorem so_ge : SOp X (compareOp .GtE) (rI0 fun i j => .bl (decide (j ≤ i))) (cmpI fun i j => decide (j ≤ i)) := ⟨op_ge, sim_cmpI _⟩
theorem sim_eqS {K : PySem.W.Frag} : SimR K rEq (eqS id) := by
  intro H Q φ h x y vx vy rh rx ry p
  unfold eqS at p
  split at p <;> first | exact p.elim | (cases rx; cases ry; exact ⟨rfl, p.give rh (by first | exact .bl _ | (simp; exact .bl _))⟩) | skip
theorem sim_neS {K : PySem.W.Frag} : SimR K rNe (eqS not) := by
  intro H Q φ h x y vx vy rh rx ry p
  unfold eqS at p
  split at p <;> first | exact p.elim | (cases rx; cases ry; exact ⟨rfl, p.give rh (by first | exact .bl _ | (simp; exact .bl _))⟩) | skip
theorem dpInts {K : PySem.W.Frag} {H : Hp} : ∀ ns : List Int, DpAll K H (ns.map V.int) (ns.map PyData.int)
  | [] => .nil
  | n :: ns => .cons (.int n) (dpInts ns)
mutual
theorem toD_sim {K : PySem.W.Frag} {φ : List Addr} {H : Hp} {h : IH} (rh : RH K φ H h) : ∀ (n : Nat) (x : IV) (v : V) (d : PyData), RV K φ H x v → toD h n x = some d → Dp K H v d
  | n, .non, v, d, r, e => by cases r; simp [toD] at e; subst e; exact .non
  | n, .bl b, v, d, r, e => by cases r; simp [toD] at e; subst e; exact .bl b
  | n, .int b, v, d, r, e => by cases r; simp [toD] at e; subst e; exact .int b
  | n, .str b, v, d, r, e => by cases r; simp [toD] at e; subst e; exact .str b
  | n, .scr ns, v, d, r, e => by
    cases r with
    | scr hs => simp [toD] at e; subst e; exact .lst hs.sq (dpInts ns)
  | n, .tup xs, v, d, r, e => by
    cases r with
    | tup hs rs =>
      rw [toD] at e
      cases ed : toDs h n xs with
      | none => rw [ed] at e; cases e
      | some ds => rw [ed] at e; cases e; exact .tup hs (toDs_sim rh n xs _ ds rs ed)
  | n + 1, .ref k, v, d, r, e => by
    cases r with
    | ref hn =>
      rw [toD] at e
      obtain ⟨o, eo, ro⟩ := rh.ob hn
      rw [eo] at e
      cases o with
      | lst xs =>
        obtain ⟨vs, q, rs⟩ := ro
        simp only [] at e
        cases ed : toDs h n xs with
        | none => rw [ed] at e; cases e
        | some ds => rw [ed] at e; cases e; exact .lst (.inl (.inl q)) (toDs_sim rh n xs _ ds rs ed)
      | dK xs => cases e
      | dT xs => cases e
  | n, .exc _ _ _, v, d, r, e => by rw [toD] at e; cases e
  | 0, .ref k, v, d, r, e => by rw [toD] at e; cases e
termination_by n x => (n, sizeOf x)
theorem toDs_sim {K : PySem.W.Frag} {φ : List Addr} {H : Hp} {h : IH} (rh : RH K φ H h) : ∀ (n : Nat) (xs : List IV) (vs : List V) (ds : List PyData), RVs K φ H xs vs → toDs h n xs = some ds → DpAll K H vs ds
  | n, [], vs, ds, r, e => by cases r; rw [toDs] at e; cases e; exact .nil
  | n, x :: xs, vs, ds, r, e => by
    cases r with
    | cons r1 r2 =>
      rw [toDs] at e
      cases e1 : toD h n x with
      | none => rw [e1] at e; cases e
      | some d =>
        cases e2 : toDs h n xs with
        | none => rw [e1, e2] at e; cases e
        | some ds' =>
          rw [e1, e2] at e
          cases e
          exact .cons (toD_sim rh n x _ d r1 e1) (toDs_sim rh n xs _ ds' r2 e2)
termination_by n xs => (n, sizeOf xs)
end
theorem sim_eqD {K : PySem.W.Frag} : SimR K (rEqD K) (eqD id) := by
  intro H Q φ h x y vx vy rh rx ry p
  unfold eqD at p
  split at p
  · rename_i d e hd he
    split at p
    · rename_i hc
      exact ⟨d, e, toD_sim rh _ _ _ _ rx hd, toD_sim rh _ _ _ _ ry he, hc.1, hc.2, p.give rh (.bl _)⟩
    · exact p.elim
  · exact p.elim
theorem sim_neD {K : PySem.W.Frag} : SimR K (rNeD K) (eqD not) := by
  intro H Q φ h x y vx vy rh rx ry p
  unfold eqD at p
  split at p
  · rename_i d e hd he
    split at p
    · rename_i hc
      exact ⟨d, e, toD_sim rh _ _ _ _ rx hd, toD_sim rh _ _ _ _ ry he, hc.1, hc.2, p.give rh (.bl _)⟩
    · exact p.elim
  · exact p.elim
abbrev eqO : O2 := orO (eqS id) (eqD id)
abbrev neO : O2 := orO (eqS not) (eqD not)
theorem so_eq {k : Nat} (hr : Room k X.A) : SOp X (compareOp .Eq) (rEqA X.K) eqO := SOp.or ⟨op_eq, sim_eqS⟩ ⟨op_eqD hr.units, sim_eqD⟩
theorem so_ne {k : Nat} (hr : Room k X.A) : SOp X (compareOp .NotEq) (rNeA X.K) neO := SOp.or ⟨op_ne, sim_neS⟩ ⟨op_neD hr.units, sim_neD⟩
theorem so_isN : SOp X (compareOp .Is) (rIsN id) (isNO id) := ⟨op_isN, by
  intro H Q φ h x y vx vy rh rx ry p
  unfold isNO at p
  split at p
  · cases ry
    cases rx <;> exact ⟨rfl, p.give rh (by first | exact .bl _ | (simp; exact .bl _))⟩
  · exact p.elim⟩
theorem so_notN : SOp X (compareOp .IsNot) (rIsN not) (isNO not) := ⟨op_notN, by
  intro H Q φ h x y vx vy rh rx ry p
  unfold isNO at p
  split at p
  · cases ry
    cases rx <;> exact ⟨rfl, p.give rh (by first | exact .bl _ | (simp; exact .bl _))⟩
  · exact p.elim⟩
theorem flat_sim {K : PySem.W.Frag} {φ : List Addr} {H : Hp} {x : IV} {v : V} (r : RV K φ H x v) (h : flatI x = true) : flatV v = true := by cases r <;> first | rfl | cases h
theorem eqI_sim {K : PySem.W.Frag} {φ : List Addr} {H : Hp} {x y : IV} {v u : V} (r : RV K φ H x v) (s : RV K φ H y u) (h : flatI x = true) (h' : flatI y = true) : eqV v u = eqI x y := by
  cases r <;> first | cases h | skip
  all_goals cases s <;> first | cases h' | skip
  all_goals rfl
theorem inI_sim {K : PySem.W.Frag} {φ : List Addr} {H : Hp} {x : IV} {v : V} (r : RV K φ H x v) (h : flatI x = true) : ∀ {xs : List IV} {vs : List V}, RVs K φ H xs vs → xs.all flatI = true → vs.all flatV = true ∧ inV v vs = inI x xs
  | [], _, .nil, _ => ⟨rfl, rfl⟩
  | y :: ys, _, .cons r1 r2, q => by
    rw [List.all_cons, Bool.and_eq_true] at q
    obtain ⟨a, b⟩ := inI_sim r h r2 q.2
    refine ⟨by rw [List.all_cons, a, flat_sim r1 q.1]; rfl, ?_⟩
    unfold inV inI at *
    rw [List.any_cons, List.any_cons, b, eqI_sim r1 r q.1 h]
theorem sim_inQ {K : PySem.W.Frag} (neg : Bool) : SimR K (rIn K neg) (inQ neg) := by
  intro H Q φ h x y vx vy rh rx ry p
  unfold inQ at p
  split at p
  · rename_i xs e
    split at p
    · rename_i hc
      obtain ⟨q, vs, rfl, hs, rs⟩ := seqOf_sim rh ry e
      obtain ⟨a, b⟩ := inI_sim rx hc.1 rs hc.2
      refine ⟨q, vs, rfl, hs, flat_sim rx hc.1, a, p.give rh ?_⟩
      rw [b]
      exact .bl _
    · exact p.elim
  · exact p.elim
theorem sim_inS1 {K : PySem.W.Frag} (f : Bool → Bool) : SimR K (rInS1 f) (inS1 f) := by
  intro H Q φ h x y vx vy rh rx ry p
  unfold inS1 at p
  split at p
  · rename_i c z
    cases rx; cases ry
    exact ⟨c, z, rfl, rfl, p.give rh (.bl _)⟩
  · exact p.elim
theorem sim_inS {K : PySem.W.Frag} (f : Bool → Bool) : SimR K (rInS f) (inS f) := by
  intro H Q φ h x y vx vy rh rx ry p
  unfold inS at p
  split at p
  · rename_i c z
    cases rx; cases ry
    exact ⟨_, z, rfl, rfl, p.give rh (.bl _)⟩
  · exact p.elim
abbrev inO : O2 := orO (inQ false) (orO (inS1 id) (inS id))
abbrev ninO : O2 := orO (inQ true) (orO (inS1 not) (inS not))
theorem so_in : SOp X (compareOp .In) (rInA X.K) inO := SOp.or ⟨op_in_seq, sim_inQ false⟩ (SOp.or ⟨op_in_sign, sim_inS1 id⟩ ⟨op_in_str, sim_inS id⟩)
theorem so_nin : SOp X (compareOp .NotIn) (rNinA X.K) ninO := SOp.or ⟨op_notIn_seq, sim_inQ true⟩ (SOp.or ⟨op_notIn_sign, sim_inS1 not⟩ ⟨op_notIn_str, sim_inS not⟩)
theorem sim_ixQ {K : PySem.W.Frag} : SimR K (rIx K) ixQ := by
  intro H Q φ h x y vx vy rh rx ry p
  unfold ixQ at p
  split at p
  · rename_i i
    cases ry
    split at p
    · rename_i z
      cases rx
      split at p
      · rename_i hl
        split at p
        · rename_i c hc
          exact .inr (.inr ⟨z, i, c, rfl, rfl, by rw [line16]; exact hl, hc, p.give rh (.str _)⟩)
        · exact p.elim
      · exact p.elim
    · split at p
      · rename_i xs e
        split at p
        · rename_i v hv
          obtain ⟨q, vs, rfl, hs, rs⟩ := seqOf_sim rh rx e
          have hv' : ∃ u, atI vs i = some u ∧ RV K φ H v u := by
            unfold atI at hv ⊢
            rw [← rs.length]
            cases hj : ixN xs.length i with
            | none => rw [hj] at hv; cases hv
            | some j =>
              rw [hj] at hv
              exact rs.get hv
          obtain ⟨u, hu, ru⟩ := hv'
          rcases hs with hs | hs
          · exact .inl ⟨q, vs, i, u, rfl, rfl, hs, hu, p.give rh ru⟩
          · exact .inr (.inl ⟨q, vs, i, u, rfl, rfl, hs, hu, p.give rh ru⟩)
        · exact p.elim
      · exact p.elim
  · exact p.elim
end
end L2.Sh

namespace L2.Sh
open PySem PySem.Spec PyProof.Rows L2
/-! ### built-ins -/
abbrev O1 := List IV → IH → Option (IV × IH)
def lenO : O1 := fun xs h => match xs with
  | [.str y] => if y.length ≤ 16777216 then some (.int y.length, h) else none
  | [x] => match seqOf h x with
    | some ys => some (.int ys.length, h)
    | none => none
  | _ => none
def absO : O1 := fun xs h => match xs with
  | [.int i] => some (.int (if i < 0 then -i else i), h)
  | _ => none
def tupleO : O1 := fun xs h => match xs with
  | [.tup ys] => some (.tup ys, h)
  | [x] => match seqOf h x with
    | some ys => some (.tup ys, h)
    | none => none
  | _ => none
def listO : O1 := fun xs h => match xs with
  | [x] => match seqOf h x with
    | some ys => some (.ref h.length, h ++ [.lst ys])
    | none => none
  | _ => none
def blsOf : List IV → Option (List Bool)
  | [] => some []
  | .bl b :: r => (blsOf r).map (b :: ·)
  | _ :: _ => none
def intsOf : List IV → Option (List Int)
  | [] => some []
  | .int b :: r => (intsOf r).map (b :: ·)
  | _ :: _ => none
def strsOf : List IV → Option (List Str)
  | [] => some []
  | .str b :: r => (strsOf r).map (b :: ·)
  | _ :: _ => none
def lstOf (h : IH) : IV → Option (List IV)
  | .ref n => match h[n]? with
    | some (.lst xs) => some xs
    | _ => none
  | .scr ns => some (ns.map IV.int)
  | _ => none
def allO (f : List Bool → Bool) : O1 := fun xs h => match xs with
  | [x] => match lstOf h x with
    | some ys => match blsOf ys with
      | some bs => some (.bl (f bs), h)
      | none => none
    | none => none
  | _ => none
def sumO : O1 := fun xs h => match xs with
  | [x] => match lstOf h x with
    | some ys => match intsOf ys with
      | some bs => some (.int bs.sum, h)
      | none => none
    | none => none
  | _ => none
def tyN (h : IH) : IV → Option String
  | .non => some "NoneType" | .bl _ => some "bool" | .int _ => some "int" | .str _ => some "str" | .tup _ => some "tuple" | .scr _ => some "list"
  | .exc _ _ _ => none
  | .ref n => match h[n]? with
    | some (.lst _) => some "list"
    | some (.dK _) => some "dict"
    | some (.dT _) => some "dict"
    | none => none
def isiO (T : String) : IV → IH → Option (IV × IH) := fun x h => match tyN h x with
  | some n => match kitB n T with
    | some b => some (.bl b, h)
    | none => none
  | none => none
def strI : O1 := fun xs h => match xs with
  | [.int i] => if i.natAbs.log2 < 1920 then some (.str (toString i), h) else none
  | _ => none
def intT : O1 := fun xs h => match xs with
  | [.str a] => if a.length ≤ 640 then (match PySem.intText? a with
    | some n => some (.int n, h)
    | none => none) else none
  | _ => none
section
variable {X : Cx} {W : WX}
theorem lstOf_sim {K : PySem.W.Frag} {φ : List Addr} {H : Hp} {h : IH} {x : IV} {v : V} {xs : List IV} (rh : RH K φ H h) (r : RV K φ H x v) (e : lstOf h x = some xs) : ∃ p vs, v = .ref p ∧ SqL K H p vs ∧ RVs K φ H xs vs := by
  cases r with
  | ref hn =>
    obtain ⟨o, eo, ro⟩ := rh.ob hn
    simp only [lstOf, eo] at e
    cases o with
    | lst xs => cases e; obtain ⟨vs, q, rs⟩ := ro; exact ⟨_, vs, rfl, .inl (.inl q), rs⟩
    | dK xs => cases e
    | dT xs => cases e
  | scr hs => cases e; exact ⟨_, _, rfl, hs.sq, RVs.ints _⟩
  | _ => cases e
theorem blsOf_eq : ∀ {xs : List IV} {bs : List Bool}, blsOf xs = some bs → xs = bs.map IV.bl
  | [], _, e => by cases e; rfl
  | .bl b :: r, _, e => by
    unfold blsOf at e
    cases q : blsOf r with
    | none => rw [q] at e; cases e
    | some bs => rw [q] at e; cases e; rw [blsOf_eq q]; rfl
  | .non :: _, _, e => by cases e
  | .int _ :: _, _, e => by cases e
  | .str _ :: _, _, e => by cases e
  | .tup _ :: _, _, e => by cases e
  | .ref _ :: _, _, e => by cases e
  | .scr _ :: _, _, e => by cases e
  | .exc _ _ _ :: _, _, e => by cases e
theorem intsOf_eq : ∀ {xs : List IV} {bs : List Int}, intsOf xs = some bs → xs = bs.map IV.int
  | [], _, e => by cases e; rfl
  | .int b :: r, _, e => by
    unfold intsOf at e
    cases q : intsOf r with
    | none => rw [q] at e; cases e
    | some bs => rw [q] at e; cases e; rw [intsOf_eq q]; rfl
  | .non :: _, _, e => by cases e
  | .bl _ :: _, _, e => by cases e
  | .str _ :: _, _, e => by cases e
  | .tup _ :: _, _, e => by cases e
  | .ref _ :: _, _, e => by cases e
  | .scr _ :: _, _, e => by cases e
  | .exc _ _ _ :: _, _, e => by cases e
theorem strsOf_eq : ∀ {xs : List IV} {bs : List Str}, strsOf xs = some bs → xs = bs.map IV.str
  | [], _, e => by cases e; rfl
  | .str b :: r, _, e => by
    unfold strsOf at e
    cases q : strsOf r with
    | none => rw [q] at e; cases e
    | some bs => rw [q] at e; cases e; rw [strsOf_eq q]; rfl
  | .non :: _, _, e => by cases e
  | .bl _ :: _, _, e => by cases e
  | .int _ :: _, _, e => by cases e
  | .tup _ :: _, _, e => by cases e
  | .ref _ :: _, _, e => by cases e
  | .scr _ :: _, _, e => by cases e
  | .exc _ _ _ :: _, _, e => by cases e
def rLen1 (K : PySem.W.Frag) : List V → Hp → VK → Prop := fun xs H Q => ∃ x n, xs = [x] ∧ LenV K x H n ∧ Q (.int n) H
theorem sc_len : SCall X (.builtin "len") (rLen1 X.K) lenO := ⟨call_len, by
  intro H Q φ h xs vs rh rs p
  unfold lenO at p
  split at p
  · rename_i y
    cases rs with
    | cons r1 r2 =>
      cases r1; cases r2
      split at p
      · rename_i hl
        exact ⟨_, y.length, rfl, ⟨by rw [line16]; exact hl, rfl⟩, p.give rh (.int _)⟩
      · exact p.elim
  · rename_i x _
    cases rs with
    | cons r1 r2 =>
      cases r2
      split at p
      · rename_i ys e
        obtain ⟨q, us, rfl, hs, ru⟩ := seqOf_sim rh r1 e
        refine ⟨_, ys.length, rfl, ?_, p.give rh (.int _)⟩
        rcases hs with hs | hs
        · exact .inl ⟨us, hs, ru.length⟩
        · exact .inr ⟨us, hs, ru.length⟩
      · exact p.elim
  · exact p.elim⟩
theorem sc_abs : SCall X (.builtin "abs") (fun xs H Q => ∃ i, xs = [.int i] ∧ Q (.int (if i < 0 then -i else i)) H) absO := ⟨call_abs, by
  intro H Q φ h xs vs rh rs p
  unfold absO at p
  split at p
  · cases rs with
    | cons r1 r2 => cases r1; cases r2; exact ⟨_, rfl, p.give rh (.int _)⟩
  · exact p.elim⟩
def rTup1 (K : PySem.W.Frag) : List V → Hp → VK → Prop := fun xs H Q => ∃ p ys, xs = [.ref p] ∧ ((SqL K H p ys ∧ ∀ l, H l = none → Q (.ref l) (upd H l (.tup ys))) ∨ (SqT K H p ys ∧ Q (.ref p) H))
theorem sc_tuple : SCall X (.type "tuple") (rTup1 X.K) tupleO := ⟨call_tuple_of, by
  intro H Q φ h xs vs rh rs p
  unfold tupleO at p
  split at p
  · cases rs with
    | cons r1 r2 =>
      cases r2
      cases r1 with
      | tup hs rt => exact ⟨_, _, rfl, .inr ⟨hs, p.give rh (.tup hs rt)⟩⟩
  · cases rs with
    | cons r1 r2 =>
      cases r2
      split at p
      · rename_i ys e
        obtain ⟨q, us, rfl, hs, ru⟩ := seqOf_sim rh r1 e
        refine ⟨q, us, rfl, ?_⟩
        rcases hs with hs | hs
        · exact .inl ⟨hs, fun l hl => p φ _ _ (ev_new0 hl) (rh.beside hl) (.tup (.inl (.inl upd_same)) (ru.ev (ev_new0 hl)))⟩
        · exact .inr ⟨hs, p.give rh (.tup hs ru)⟩
      · exact p.elim
  · exact p.elim⟩
def rLst1 (K : PySem.W.Frag) : List V → Hp → VK → Prop := fun xs H Q => ∃ p ys, xs = [.ref p] ∧ (SqL K H p ys ∨ SqT K H p ys) ∧ ∀ l, H l = none → Q (.ref l) (upd H l (.lst ys))
theorem sc_list : SCall X (.type "list") (rLst1 X.K) listO := ⟨call_list_of, by
  intro H Q φ h xs vs rh rs p
  unfold listO at p
  split at p
  · cases rs with
    | cons r1 r2 =>
      cases r2
      split at p
      · rename_i ys e
        obtain ⟨q, us, rfl, hs, ru⟩ := seqOf_sim rh r1 e
        exact ⟨q, us, rfl, hs, fun l hl => post_new (o := .lst ys) rh hl ⟨_, upd_same, ru.ev (ev_new hl _)⟩ p⟩
      · exact p.elim
  · exact p.elim⟩
theorem sim_all {K : PySem.W.Frag} (f : List Bool → Bool) : SimC K (fun vs H Q => ∃ (a : Addr) (bs : List Bool), vs = [V.ref a] ∧ SqL K H a (bs.map V.bl) ∧ Q (.bl (f bs)) H) (allO f) := by
  intro H Q φ h xs vs rh rs p
  unfold allO at p
  split at p
  · cases rs with
    | cons r1 r2 =>
      cases r2
      split at p
      · rename_i ys e
        split at p
        · rename_i bs eb
          obtain ⟨q, us, rfl, hs, ru⟩ := lstOf_sim rh r1 e
          rw [blsOf_eq eb] at ru
          exact ⟨q, bs, rfl, by rw [← ru.bls_eq]; exact hs, p.give rh (.bl _)⟩
        · exact p.elim
      · exact p.elim
  · exact p.elim
theorem sc_all (hc : X.calm = true) : SCall X (.builtin "all") (rAll X.K) (allO fun bs => bs.all id) := ⟨cr_all hc, sim_all _⟩
theorem sc_any (hc : X.calm = true) : SCall X (.builtin "any") (rAny X.K) (allO fun bs => bs.any id) := ⟨cr_any hc, sim_all _⟩
theorem sc_sum (hc : X.calm = true) : SCall X (.builtin "sum") (rSum X.K) sumO := ⟨cr_sum hc, by
  intro H Q φ h xs vs rh rs p
  unfold sumO at p
  split at p
  · cases rs with
    | cons r1 r2 =>
      cases r2
      split at p
      · rename_i ys e
        split at p
        · rename_i bs eb
          obtain ⟨q, us, rfl, hs, ru⟩ := lstOf_sim rh r1 e
          rw [intsOf_eq eb] at ru
          exact ⟨q, bs, rfl, by rw [← ru.ints_eq]; exact hs, p.give rh (.int _)⟩
        · exact p.elim
      · exact p.elim
  · exact p.elim⟩
theorem sc_str : SCall X (.type "str") (fun xs H Q => ∃ i, xs = [.int i] ∧ i.natAbs.log2 < 1920 ∧ Q (.str (toString i)) H) strI := ⟨call_str_int, by
  intro H Q φ h xs vs rh rs p
  unfold strI at p
  split at p
  · cases rs with
    | cons r1 r2 =>
      cases r1; cases r2
      split at p
      · rename_i hl
        exact ⟨_, rfl, hl, p.give rh (.str _)⟩
      · exact p.elim
  · exact p.elim⟩
theorem sc_int : SCall X (.type "int") (fun xs H Q => ∃ a n, xs = [.str a] ∧ PySem.intText? a = some n ∧ a.length ≤ 640 ∧ Q (.int n) H) intT := ⟨call_int_str, by
  intro H Q φ h xs vs rh rs p
  unfold intT at p
  split at p
  · cases rs with
    | cons r1 r2 =>
      cases r1; cases r2
      split at p
      · rename_i hl
        split at p
        · rename_i n hn
          exact ⟨_, n, rfl, hn, hl, p.give rh (.int _)⟩
        · exact p.elim
      · exact p.elim
  · exact p.elim⟩
/-! isinstance(x, T) -/
theorem tyN_sim {K : PySem.W.Frag} {φ : List Addr} {H : Hp} {h : IH} {x : IV} {v : V} {n : String} (rh : RH K φ H h) (r : RV K φ H x v) (e : tyN h x = some n) : TyX K H v (.type n) := by
  cases r with
  | non => cases e; exact .base .non
  | bl b => cases e; exact .base (.bl b)
  | int b => cases e; exact .base (.int b)
  | str b => cases e; exact .base (.str b)
  | tup hs rs =>
    cases e
    rcases hs with (z | ⟨o, z⟩) | ⟨o, its, n, z, c, _⟩
    · exact .base (.tup z)
    · exact .fTuple z
    · exact .kTuple z c
  | ref hn =>
    obtain ⟨o, eo, ro⟩ := rh.ob hn
    simp only [tyN, eo] at e
    cases o with
    | lst xs => cases e; obtain ⟨vs, q, _⟩ := ro; exact .base (.lst q)
    | dK xs => cases e; obtain ⟨vs, q, _⟩ := ro; exact .base (.dK q)
    | dT xs => cases e; obtain ⟨vs, q, _⟩ := ro; exact .base (.dT q)
  | scr hs =>
    cases e
    rcases hs with ⟨o, z⟩ | ⟨o, its, n, z, c, _⟩
    · exact .base (.frz z)
    · exact .kList z c
  | exc0 => cases e
  | exc1 => cases e
theorem se_isi {T : String} {x : Str} {a : Expr} {ta : TE} {ma : Env → M IV} {p p2 pos : Pos} (hg : Gl X "isinstance") (hm : X.mg "isinstance" = none) (hm2 : X.mg x = none) (hv2 : bootBuiltins x = some (.type T)) (ha : SE X W a ta ma) (cv : ClsV (.ty T) (.type T))
    (pb : PE X (.Name x p2) (tC (.ty T))) (pe : PE X (.Name x p2) (tC (.ty T)) → PE X a ta → PE X (.Call (.Name "isinstance" p) [a, .Name x p2] [] pos) (tCB (rIsi X.K) (tCons ta (tCons (tC (.ty T)) tNil)))) :
    SE X W (.Call (.Name "isinstance" p) [a, .Name x p2] [] pos) (tCB (rIsi X.K) (tCons ta (tCons (tC (.ty T)) tNil))) (eUn (isiO T) ma) := by
  refine ⟨pe pb ha.pe, ?_⟩
  intro σ H Q φ h env re rh p
  refine ha.sim σ H _ φ h env re rh (p.bnd (Ev.refl _ _) fun φ1 H1 x v h1 e1 rh1 r1 p1 => ?_)
  have p2 := PostO.of p1 e1
  unfold isiO at p2
  split at p2
  · rename_i n hn
    split at p2
    · rename_i b hb
      exact ⟨v, .ty T, _, _, b, rfl, cv, tyN_sim rh1 r1 hn, kit_ty hb, p2.give rh1 (.bl _)⟩
    · exact p2.elim
  · exact p2.elim
/-! slices -/
def sliceQ (f : Option Int → Option Int → IV → IH → Option (IV × IH)) (a : Env → M IV) (lo hi : Env → M (Option Int)) : Env → M IV := fun env => bnd (a env) fun x => bnd (lo env) fun l => bnd (hi env) fun u => lift (f l u x)
def slO (lo hi : Option Int) : IV → IH → Option (IV × IH) := fun x h => match x with
  | .str z => if z.length ≤ 16777216 then some (.str (cutS z lo hi), h) else none
  | .tup xs => if HT.sIx xs.length 0 lo = 0 ∧ HT.sIx xs.length xs.length hi = xs.length then none else some (.tup ((xs.drop (HT.sIx xs.length 0 lo)).take (HT.sIx xs.length xs.length hi - HT.sIx xs.length 0 lo)), h)
  | x => match lstOf h x with
    | some xs => some (.ref h.length, h ++ [.lst ((xs.drop (HT.sIx xs.length 0 lo)).take (HT.sIx xs.length xs.length hi - HT.sIx xs.length 0 lo))])
    | none => none
def rSlA (K : PySem.W.Frag) : V → Option Int → Option Int → Hp → VK → Prop := fun x lo hi H Q => rSlS x lo hi H Q ∨ (rSlT K x lo hi H Q ∨ rSlL K x lo hi H Q)
theorem sl_all : SlR X (rSlA X.K) := sl_str.or (sl_tup.or sl_list)
theorem sim_sl {K : PySem.W.Frag} {φ : List Addr} {H : Hp} {h : IH} {x : IV} {v : V} {lo hi : Option Int} {Q : VK} (rh : RH K φ H h) (r : RV K φ H x v) (p : PostO K (RV K) φ H Q (slO lo hi x h)) : rSlA K v lo hi H Q := by
  unfold slO at p
  split at p
  · rename_i z
    cases r
    split at p
    · rename_i hl
      exact .inl ⟨z, rfl, by rw [line16]; exact hl, p.give rh (.str _)⟩
    · exact p.elim
  · rename_i xs
    cases r with
    | tup hs rs =>
      split at p
      · exact p.elim
      · rename_i hc
        refine .inr (.inl ⟨_, _, rfl, hs, by rw [← rs.length]; exact hc, fun q hq => ?_⟩)
        refine p φ _ _ (ev_new0 hq) (rh.beside hq) (.tup (.inl (.inl upd_same)) (RVs.ev (ev_new0 hq) ?_))
        unfold cutV
        rw [← rs.length]
        exact (rs.drop _).take _
  · split at p
    · rename_i xs e
      obtain ⟨q, us, rfl, hs, ru⟩ := lstOf_sim rh r e
      refine .inr (.inr ⟨q, us, rfl, hs, fun z hz => post_new (o := .lst ((xs.drop (HT.sIx xs.length 0 lo)).take (HT.sIx xs.length xs.length hi - HT.sIx xs.length 0 lo))) rh hz ⟨_, upd_same, RVs.ev (ev_new hz _) ?_⟩ p⟩)
      unfold cutV
      rw [← ru.length]
      exact (ru.drop _).take _
    · exact p.elim
structure SO (X : Cx) (W : WX) (e : Option Expr) (t : TO) (m : Env → M (Option Int)) : Prop where
  pe : PO X e t
  sim : ∀ σ H Q φ h env, REnv X.K φ H env σ → RH X.K φ H h → Post X.K X.mg (fun _ _ (a b : Option Int) => a = b) φ H (WE W σ) Q (m env h) → t σ H Q
def oN : Env → M (Option Int) := fun _ h => some (.ok none, h)
def oS (m : Env → M IV) : Env → M (Option Int) := fun env => bnd (m env) fun x h => match x with
  | .int i => some (.ok (some i), h)
  | _ => none
theorem so_none : SO X W none tNoPart oN := ⟨po_none, fun σ H Q φ h env re rh p => p φ H none (Ev.refl _ _) rh rfl⟩
theorem so_some {e : Expr} {t : TE} {m : Env → M IV} (h : SE X W e t m) : SO X W (some e) (tPart t) (oS m) := ⟨po_some h.pe, fun σ H Q φ hh env re rh p => by
  refine h.sim σ H _ φ hh env re rh (p.bnd (Ev.refl _ _) fun φ1 H1 x v h1 e1 rh1 r1 p1 => ?_)
  cases r1 <;> first | exact p1.elim | skip
  exact ⟨_, rfl, p1 φ1 H1 _ e1 rh1 rfl⟩⟩
theorem se_slice {e : Expr} {lo hi : Option Expr} {te : TE} {tl th : TO} {me : Env → M IV} {ml mh : Env → M (Option Int)} {p2 pos : Pos} (he : SE X W e te me) (hl : SO X W lo tl ml) (hh : SO X W hi th mh) :
    SE X W (.Subscript e (.Slice lo hi none p2) pos) (tSl (rSlA X.K) te tl th) (sliceQ slO me ml mh) := by
  refine ⟨pe_slice sl_all he.pe hl.pe hh.pe, ?_⟩
  intro σ H Q φ h env re rh p
  refine he.sim σ H _ φ h env re rh (p.bnd (Ev.refl _ _) fun φ1 H1 x v h1 e1 rh1 r1 p1 => ?_)
  refine hl.sim σ H1 _ φ1 h1 env (re.ev e1) rh1 (p1.bnd e1 fun φ2 H2 l l' h2 e2 rh2 r2 p2 => ?_)
  subst r2
  have e12 := e1.trans e2
  refine hh.sim σ H2 _ φ2 h2 env (re.ev e12) rh2 (p2.bnd e12 fun φ3 H3 u u' h3 e3 rh3 r3 p3 => ?_)
  subst r3
  exact sim_sl rh3 ((r1.ev e2).ev e3) (PostO.of p3 (e12.trans e3))
/-! methods of lists that change them -/
def eBM (o : IV → List IV → IH → Option (IV × IH)) (m : Env → M IV) (a : Env → M (List IV)) : Env → M IV := fun env => bnd (m env) fun x h => match tyN h x with
  | some _ => bnd (a env) (fun xs => lift (o x xs)) h
  | none => none
def appO : IV → List IV → IH → Option (IV × IH) := fun x xs h => match x, xs with
  | .ref n, [y] => match h[n]? with
    | some (.lst ys) => if ys.length < 16777216 then some (.non, h.set n (.lst (ys ++ [y]))) else none
    | _ => none
  | _, _ => none
end
end L2.Sh

namespace L2.Sh
open PySem PySem.Spec PyProof.Rows L2
section
variable {X : Cx} {W : WX}
theorem se_chain {op op' : CmpOp} {r r' : R2} {o o' : O2} {a b c : Expr} {ta tb tc : TE} {ma mb mc : Env → M IV} {pos : Pos} (ho : SOp X (compareOp op) r o) (ho' : SOp X (compareOp op') r' o') (ha : SE X W a ta ma) (hb : SE X W b tb mb) (hc : SE X W c tc mc)
    (hm : lastMarks [op, op'] [b, c] = false := by with_unfolding_all rfl) : SE X W (.Compare a [op, op'] [b, c] pos) (tChain r r' ta tb tc) (eChain o o' ma mb mc) :=
  ⟨pe_chain ho.op ho'.op ha.pe hb.pe hc.pe hm, sim_chain ho.sim ho'.sim ha.sim hb.sim hc.sim⟩
theorem st_chain {op op' : CmpOp} {r r' : R2} {o o' : O2} {a b c : Expr} {ta tb tc : TE} {ma mb mc : Env → M IV} {pos : Pos} (ho : SOp X (compareOp op) r o) (ho' : SOp X (compareOp op') r' o') (ha : SE X W a ta ma) (hb : SE X W b tb mb) (hc : SE X W c tc mc)
    (hm : lastMarks [op, op'] [b, c] = false := by with_unfolding_all rfl) : ST X W (.Compare a [op, op'] [b, c] pos) (tTest (tChain r r' ta tb tc)) (tyB (eChain o o' ma mb mc)) := by
  refine ⟨pt_chain ho.op ho'.op ha.pe hb.pe hc.pe hm, ?_⟩
  intro σ H Q φ h env re rh p
  refine sim_chain ho.sim ho'.sim ha.sim hb.sim hc.sim σ H _ φ h env re rh (p.bnd (Ev.refl _ _) fun φ1 H1 x v h1 e1 rh1 r1 p1 => ?_)
  cases r1 <;> first | exact p1.elim | skip
  rename_i b
  exact ⟨b, rfl, p1 φ1 H1 b e1 rh1 rfl⟩
/-! methods of built-in types -/
def tyI (T : String) (h : IH) : IV → Bool
  | .str _ => T == "str"
  | .int _ => T == "int"
  | .ref n => match h[n]? with
    | some (.lst _) => T == "list"
    | some (.dK _) => T == "dict"
    | some (.dT _) => T == "dict"
    | none => false
  | .scr _ => T == "list"
  | _ => false
def eM (T : String) (o : IV → List IV → IH → Option (IV × IH)) (m : Env → M IV) (a : Env → M (List IV)) : Env → M IV := fun env => bnd (m env) fun x h => if tyI T h x = true then bnd (a env) (fun xs => lift (o x xs)) h else none
def SimM (K : PySem.W.Frag) (r : V → List V → Hp → VK → Prop) (o : IV → List IV → IH → Option (IV × IH)) : Prop := ∀ H Q φ h x xs vx vs, RH K φ H h → RV K φ H x vx → RVs K φ H xs vs → PostO K (RV K) φ H Q (o x xs h) → r vx vs H Q
structure SMt (X : Cx) (id : String) (r : V → List V → Hp → VK → Prop) (o : IV → List IV → IH → Option (IV × IH)) : Prop where
  op : MtR X id r
  sim : SimM X.K r o
theorem tyI_sim {K : PySem.W.Frag} {φ : List Addr} {H : Hp} {h : IH} {x : IV} {v : V} {T : String} (rh : RH K φ H h) (r : RV K φ H x v) (e : tyI T h x = true) : tyV K T v H := by
  cases r with
  | str => exact (beq_iff_eq.mp e)
  | int => exact (beq_iff_eq.mp e)
  | ref hn =>
    obtain ⟨o, eo, ro⟩ := rh.ob hn
    simp only [tyI, eo] at e
    cases o with
    | lst xs => obtain ⟨vs, q, _⟩ := ro; exact .inl ⟨beq_iff_eq.mp e, vs, .inl (.inl q)⟩
    | dK xs => obtain ⟨vs, q, _⟩ := ro; exact .inr (.inr (.inl ⟨beq_iff_eq.mp e, .inl ⟨vs, q⟩⟩))
    | dT xs => obtain ⟨vs, q, _⟩ := ro; exact .inr (.inr (.inl ⟨beq_iff_eq.mp e, .inr ⟨vs, q⟩⟩))
  | scr hs => exact .inl ⟨beq_iff_eq.mp e, _, hs.sq⟩
  | _ => cases e
theorem sim_M {T : String} {r : V → List V → Hp → VK → Prop} {o : IV → List IV → IH → Option (IV × IH)} {te : TE} {t : TA} {me : Env → M IV} {m : Env → M (List IV)} (hm : SimM X.K r o) (he : SimE X.K X.mg W te me) (ha : SimA X.K X.mg W t m) : SimE X.K X.mg W (tBM X.K T r te t) (eM T o me m) := by
  intro σ H Q φ h env re rh p
  refine he σ H _ φ h env re rh (p.bnd (Ev.refl _ _) fun φ1 H1 x v h1 e1 rh1 r1 p1 => ?_)
  split at p1
  · rename_i ht
    refine ⟨tyI_sim rh1 r1 ht, ha σ H1 _ φ1 h1 env (re.ev e1) rh1 (p1.bnd e1 fun φ2 H2 xs vs h2 e2 rh2 r2 p2 => ?_)⟩
    exact hm H2 Q φ2 h2 x xs v vs rh2 (r1.ev e2) r2 (PostO.of p2 (e1.trans e2))
  · exact p1.elim
theorem se_M {T id : String} {name : Str} {r : V → List V → Hp → VK → Prop} {o : IV → List IV → IH → Option (IV × IH)} {b e : Expr} {es : List Expr} {te : TE} {t : TA} {me : Env → M IV} {m : Env → M (List IV)} {apos cpos : Pos} (hm : SMt X id r o) (he : SE X W b te me) (ha : SA X W (e :: es) t m)
    (pe : MtR X id r → PE X b te → PA X (e :: es) t → PE X (.Call (.Attribute b name apos) (e :: es) [] cpos) (tBM X.K T r te t)) : SE X W (.Call (.Attribute b name apos) (e :: es) [] cpos) (tBM X.K T r te t) (eM T o me m) := ⟨pe hm.op he.pe ha.pe, sim_M hm.sim he.sim ha.sim⟩
theorem se_M0 {T id : String} {name : Str} {r : V → List V → Hp → VK → Prop} {o : IV → List IV → IH → Option (IV × IH)} {b : Expr} {te : TE} {me : Env → M IV} {apos cpos : Pos} (hm : SMt X id r o) (he : SE X W b te me)
    (pe : MtR X id r → PE X b te → PE X (.Call (.Attribute b name apos) [] [] cpos) (tBM0 X.K T r te)) : SE X W (.Call (.Attribute b name apos) [] [] cpos) (tBM0 X.K T r te) (eM T o me aNil) := ⟨pe hm.op he.pe, fun σ H Q φ h env re rh p =>
      sim_M (T := T) (t := tNil) hm.sim he.sim sa_nil.sim σ H Q φ h env re rh p⟩
theorem post_put {K : PySem.W.Frag} {φ : List Addr} {H : Hp} {h : IH} {a : Addr} {n : Nat} {u u' : HO} {o : IO} {Q : VK} {y : IV} {v : V} (rh : RH K φ H h) (hn : φ[n]? = some a) (hu : H a = some u) (hs : stab u = false) (ro : ∀ φ', Ev φ H φ' (upd H a u') → RO K φ (upd H a u') a o) (ry : RV K φ (upd H a u') y v)
    (p : PostO K (RV K) φ H Q (some (y, h.set n o))) : Q v (upd H a u') := by
  have ep : Ev φ H φ (upd H a u') := ev_put hu hs
  exact p φ _ v ep (rh.put hn (ro φ ep)) ry
theorem sm_append : SMt X "list.append" rAppend appO := ⟨mt_append, by
  intro H Q φ h x xs vx vs rh rx rs p
  unfold appO at p
  split at p
  · rename_i n y
    cases rx with
    | ref hn =>
      cases rs with
      | cons r1 r2 =>
        cases r2
        rename_i a v
        obtain ⟨o, eo, ro⟩ := rh.ob hn
        simp only [eo] at p
        cases o with
        | lst ys =>
          obtain ⟨us, q, rr⟩ := ro
          simp only [] at p
          split at p
          · rename_i hl
            exact ⟨a, us, v, rfl, rfl, q, by rw [line16, ← rr.length]; exact hl, post_put (o := .lst (ys ++ [y])) rh hn q rfl (fun _ e => ⟨_, upd_same, (rr.append (.cons r1 .nil)).ev (ev_put q rfl)⟩) .non p⟩
          · exact p.elim
        | dK xs => exact p.elim
        | dT xs => exact p.elim
  · exact p.elim⟩
end
/-! ### a def of the top, with its promise -/
structure Df (P : Program) (w : World) (K : PySem.W.Frag) (mg : Str → Option Value) (base : Heap) (x : Str) (k : Nat) (ps : List Str) (F : Fn) : Prop where
  ex : ∃ f fd, mg x = some (.ref f) ∧ PySem.W.keepIn K (.ref f) = true ∧ Binds K fd ps [] ∧ FnM P w K mg base k f fd ps F
  lk : ∀ f, mg x = some (.ref f) → ∀ fd, (∃ oc od osl, K.lookup f = some ⟨oc, od, .func fd, osl⟩) → FnM P w K mg base k f fd ps F
theorem Df.mono {P : Program} {w : World} {K : PySem.W.Frag} {mg : Str → Option Value} {base : Heap} {x : Str} {j k : Nat} {ps : List Str} {F : Fn} (d : Df P w K mg base x j ps F) (h : j ≤ k) : Df P w K mg base x k ps F :=
  let ⟨f, fd, a, b, c, e⟩ := d.ex
  ⟨⟨f, fd, a, b, c, e.mono h⟩, fun f hf fd q => (d.lk f hf fd q).mono h⟩
abbrev FnT (K : PySem.W.Frag) (x : Str) (st : Stmt) : Prop := ∃ fd, FunD K x x (defArgs st) (defBody st) (defScope st) [] [] (He.ga K x) fd
theorem df_mk {P : Program} {w : World} {K : PySem.W.Frag} {mg : Str → Option Value} {base : Heap} {x : Str} {st : Stmt} {N ps : List Str} {k : Nat} {b : MS} (g : mg x = some (.ref (He.ga K x))) (F : FnT K x st) (S : FnScope N ps (defScope st))
    (bd : ∀ (kV doc pm : Value) (an : Option Addr) (cdv ct : Value) (us : List Value), us.length = ps.length → bindArgs (PySem.W.fnOf x x (defArgs st) (defBody st) (defScope st) .none kV doc pm an cdv ct) ⟨us, []⟩ = pure (ps.zip us))
    (hb : ∀ (f : Addr) (cdv : Value) (A : Around) (outer : List PySem.Env) (s : Shared) (H : Hp) (E : XK), Room k (A.deeper (envOfC x (defScope st) s.heap.objs.size f cdv)) →
      Takes (cxOf (L2.CX P w) P w K mg base N x (defScope st) f cdv A outer s H E) (WD E) →
      PassesOwn (model P w) (A.deeper (envOfC x (defScope st) s.heap.objs.size f cdv)) (cxOf (L2.CX P w) P w K mg base N x (defScope st) f cdv A outer s H E).env (cxOf (L2.CX P w) P w K mg base N x (defScope st) f cdv A outer s H E).xe →
      ∃ t, SB (cxOf (L2.CX P w) P w K mg base N x (defScope st) f cdv A outer s H E) (WD E) (defBody st) t b) : Df P w K mg base x (k + 1) ps (runF N.length b) := by
  obtain ⟨fd, F⟩ := F
  suffices z : FnM P w K mg base (k + 1) (He.ga K x) fd ps (runF N.length b) by
    refine ⟨⟨_, fd, g, F.kp, F.bindsN bd, z⟩, fun f hf fd' q => ?_⟩
    have e := hf.symm.trans g
    cases e
    obtain ⟨oc, od, dV, kV, doc, pm, an, cdv, ct, osl, e1, lk, _⟩ := F.ex
    obtain ⟨oc', od', osl', lk'⟩ := q
    rw [lk] at lk'
    injection lk' with lk'
    injection lk' with _ _ lk' _
    injection lk' with lk'
    rw [← lk']
    exact z
  refine F.ok S (fun vs H Q E h => ?_) (fun cdv A outer s H vs Q E hr h => ?_)
  · obtain ⟨φ, hh, xs, r, _, l, _⟩ := h
    rw [← r.length]; exact l
  · obtain ⟨t, sb⟩ := hb _ cdv A outer s H E hr (takes_of rfl rfl rfl rfl) (passes_of rfl)
    refine ⟨t, sb.pe, ?_⟩
    obtain ⟨φ, hh, xs, r, rh, l, p⟩ := h
    have re : REnv K φ H (xs.map some ++ List.replicate (N.length - xs.length) none) (L2.start N vs) := by
      unfold L2.start
      rw [← r.length]
      exact REnv.start r _
    refine sb.sim _ _ _ φ hh _ re rh ?_
    unfold runF at p
    show PostS K mg (WD E) φ H _ _
    cases hm : b (xs.map some ++ List.replicate (N.length - xs.length) none) hh with
    | none => rw [hm] at p; exact p.elim
    | some z =>
      obtain ⟨z, h'⟩ := z
      rw [hm] at p
      cases z with
      | nx env' => exact fun φ' H' σ' e rh' re' => p φ' H' _ e rh' .non
      | rt v => exact p
      | ex x env' => exact fun φ' H' σ' cls d e rh' re' rx => p φ' H' cls d e rh' rx
      | bk _ => exact p.elim
      | ct _ => exact p.elim
theorem se_callD {X : Cx} {W : WX} {j k : Nat} {ps : List Str} {G : Fn} {x : Str} {e : Expr} {es : List Expr} {t : TA} {m : Env → M (List IV)} {p pos : Pos} (D : Df X.prog X.w X.K X.mg X.base x j ps G) (hr : Room k X.A) (tk : Takes X W) (ha : SA X W (e :: es) t m)
    (al : ∀ env h xs h', m env h = some (.ok xs, h') → xs.length = (e :: es).length) (hl : ps.length = (e :: es).length := by rfl) (hj : j ≤ k := by decide) (hg : Gl X x := by rfl)
    (hdb : (x == ("__debug__" : Str)) = false := by decide) (he : starEach (e :: es) X.env = (false, eval e X.env) :: starEach es X.env := by rfl) (hpl : (backTo pos (starEach es X.env)).any (·.1) = false := by rfl) :
    SE X W (.Call (.Name x p) (e :: es) [] pos) (tCallS (spM X.K X.mg ps.length G) (WE W) t) (eCall G m) := by
  obtain ⟨f, fd, hm, hk, hb, F⟩ := D.ex
  exact se_call (k := k) F hr hm hk hb tk ha hl hg hj al fun F' ha' hx => pe_callS F' hr hg hm hk hb hx ha' hdb he hpl
/-- f() -/
def eCall0 (F : Fn) : Env → M IV := fun _ => nox (F [])
theorem se_callD0 {X : Cx} {W : WX} {j k : Nat} {G : Fn} {x : Str} {p pos : Pos} (D : Df X.prog X.w X.K X.mg X.base x j [] G) (hr : Room k X.A) (hj : j ≤ k := by decide) (hg : Gl X x := by rfl) (hdb : (x == ("__debug__" : Str)) = false := by decide) :
    SE X W (.Call (.Name x p) [] [] pos) (tCall (spM X.K X.mg 0 G) [] E0 tNil) (eCall0 G) := by
  obtain ⟨f, fd, hm, hk, hb, F⟩ := D.ex
  refine ⟨pe_call0 (F.mono hj) hr hg hm hk hb .nil passL hdb, ?_⟩
  intro σ H Q φ h env re rh p
  refine ⟨φ, h, [], .nil, rh, rfl, ?_⟩
  unfold eCall0 nox at p
  cases hG : G [] h with
  | none => rw [hG] at p; exact p.elim
  | some z =>
    obtain ⟨z, h'⟩ := z
    rw [hG] at p
    cases z with
    | error x => exact p.elim
    | ok y => exact p
/-! ### the end -/
def spLaw (K : PySem.W.Frag) : Sp := fun vs H Q _ => ∃ (a : Addr) (ns : List Int), vs = [.ref a] ∧ StL K H a (ns.map V.int) ∧ ns.length ≤ 63 ∧ (∀ z ∈ ns, Builtin.Int.intBits z ≤ 1048576) ∧ (∀ a, H a = none ∨ True) ∧ ∀ H', Q (.bl true) H'
theorem law_fin {P : Program} {w : World} {K : PySem.W.Frag} {mg : Str → Option Value} {base : Heap} {k : Nat} {f : Addr} {fd : FuncData} {x : Str} {F : Fn} (d : FnM P w K mg base k f fd [x] F)
    (pure : ∀ ns : List Int, ns.length ≤ 63 → (∀ z ∈ ns, Builtin.Int.intBits z ≤ 1048576) → ∃ h, F [.scr ns] [] = some (.ok (.bl true), h)) : FnOk P w K mg base (L2.CX P w) k f fd [x] (spLaw K) := by
  refine d.imp fun vs H Q E h => ?_
  obtain ⟨a, ns, rfl, hs, hl, hb, _, q⟩ := h
  obtain ⟨h', e⟩ := pure ns hl hb
  refine ⟨[], [], [.scr ns], .cons (.scr hs) .nil, ⟨rfl, List.nodup_nil, fun n o a e => by simp at e⟩, rfl, ?_⟩
  rw [e]
  intro φ' H' v _ _ r
  cases r
  exact q H'
theorem stl_of {K : PySem.W.Frag} {H : Hp} {a : Addr} {xs : List V} (o : Only H) (s : SqL K H a xs) : StL K H a xs := by
  rcases s with (z | ⟨ob, z⟩) | z
  · rcases o a with e | ⟨ob, ys, e⟩
    · rw [z] at e; cases e
    · rw [z] at e; cases e
  · exact .inl ⟨ob, z⟩
  · exact .inr z
theorem walk_ofEB {l : PySem.W.OpenLaw} {n k : Nat} {q : Program} {loose : List Str} {XP : (Str → Option Value) → Heap → Prop} {YP : World → Heap → Prop} {d : DefRec} {x : Str}
    (hn : l.most = some n) (hn2 : n ≤ sizeLine) (hdf : d.params.defaults = []) (hr : Room k callerA)
    (F : ∀ (w : World) (mg : Str → Option Value) (fa : Addr) (h : Heap), YP w h → h.Ns mainGlobals mg → mg d.name = some (.ref fa) →
      ∃ (K : PySem.W.Frag) (fd : FuncData) (sp : Sp), K.In h ∧ (∀ (s : Shared) (u : Value), BindsTo s fd ⟨[u], []⟩ [(x, u)]) ∧
        (∀ (H : Hp) (a : Addr) (ns : List Int), ns.length ≤ n → (∀ z ∈ ns, Builtin.Int.intBits z ≤ 1048576) → Only H → SqL K H a (ns.map V.int) → sp [.ref a] H (fun v _ => v = .bl true) fun _ _ _ => False) ∧
        ∀ base : Heap, K.In base → base.Ns mainGlobals mg → FnOk l.prog w K mg base (L2.CX l.prog w) k fa fd [x] sp) :
    PySem.W.WalkO q loose XP YP l.row.toRowW d [] (fun f vs => PySem.call f vs) := by
  refine Att.attach_callB hn hdf fun w s₀ s₁ mg mb fa o pm cd doc a vs ns G Y ho hd hcd hmg hobj hints hlen hbits hg => ?_
  obtain ⟨K, fd, sp, KX, hb, hsp, hF⟩ := F w mg fa _ Y G.T.g hmg
  exact law_call KX G.T.g G.T.b G.T.builtins G.T.nolimit hg hobj hints (Nat.le_trans hlen hn2) hr hF hb (fun H hO hS => hsp H a ns hlen hbits hO hS) fun H e s' z => by
    obtain ⟨_, _, _, _, _, _, _, _, _, _, _, _, z⟩ := z
    exact z.elim
end L2.Sh

namespace L2.Sh
open PySem PySem.Spec PyProof.Rows L2
/-! ### the same, the written part named (for blocks of comprehensions) -/
section
variable {X : Cx} {W : WX} (K : PySem.W.Frag)
theorem so_addK (hK : X.K = K := by rfl) : SOp X (binaryOp .Add) (rAddA K) addO := by subst hK; exact so_add
theorem so_eqK {k : Nat} (hr : Room k X.A) (hK : X.K = K := by rfl) : SOp X (compareOp .Eq) (rEqA K) eqO := by subst hK; exact so_eq hr
theorem so_neK {k : Nat} (hr : Room k X.A) (hK : X.K = K := by rfl) : SOp X (compareOp .NotEq) (rNeA K) neO := by subst hK; exact so_ne hr
theorem so_inK (hK : X.K = K := by rfl) : SOp X (compareOp .In) (rInA K) inO := by subst hK; exact so_in
theorem so_ninK (hK : X.K = K := by rfl) : SOp X (compareOp .NotIn) (rNinA K) ninO := by subst hK; exact so_nin
theorem sc_lenK (hK : X.K = K := by rfl) : SCall X (.builtin "len") (rLen1 K) lenO := by subst hK; exact sc_len
theorem sc_tupleK (hK : X.K = K := by rfl) : SCall X (.type "tuple") (rTup1 K) tupleO := by subst hK; exact sc_tuple
theorem sc_listK (hK : X.K = K := by rfl) : SCall X (.type "list") (rLst1 K) listO := by subst hK; exact sc_list
theorem sc_allK (hc : X.calm = true) (hK : X.K = K := by rfl) : SCall X (.builtin "all") (rAll K) (allO fun bs => bs.all id) := by subst hK; exact sc_all hc
theorem sc_anyK (hc : X.calm = true) (hK : X.K = K := by rfl) : SCall X (.builtin "any") (rAny K) (allO fun bs => bs.any id) := by subst hK; exact sc_any hc
theorem sc_sumK (hc : X.calm = true) (hK : X.K = K := by rfl) : SCall X (.builtin "sum") (rSum K) sumO := by subst hK; exact sc_sum hc
theorem se_ixK {a b : Expr} {ta tb : TE} {ma mb : Env → M IV} {pos : Pos} (ha : SE X W a ta ma) (hb : SE X W b tb mb) (hp : PlainIx b) (hK : X.K = K := by rfl) : SE X W (.Subscript a b pos) (tOp (rIx K) ta tb) (eOp ixQ ma mb) := by
  subst hK; exact se_ix ix_seq sim_ixQ ha hb hp
theorem se_sliceK {e : Expr} {lo hi : Option Expr} {te : TE} {tl th : TO} {me : Env → M IV} {ml mh : Env → M (Option Int)} {p2 pos : Pos} (he : SE X W e te me) (hl : SO X W lo tl ml) (hh : SO X W hi th mh) (hK : X.K = K := by rfl) :
    SE X W (.Subscript e (.Slice lo hi none p2) pos) (tSl (rSlA K) te tl th) (sliceQ slO me ml mh) := by subst hK; exact se_slice he hl hh
theorem st_truthK {a : Expr} {ta : TE} {ma : Env → M IV} (ha : SE X W a ta ma) (he : ∀ whole, isTrue a X.env whole = (do let v ← whole; standAt a.pos; holding [v] (truthy v)) := by intro _; rfl) (hK : X.K = K := by rfl) :
    ST X W a (fun σ H Q => ta σ H fun x H1 => ∃ k, TruV K x H1 k ∧ Q k H1) (tTru ma) := by subst hK; exact st_truth ha he
theorem se_isiK {T : String} {x : Str} {a : Expr} {ta : TE} {ma : Env → M IV} {p p2 pos : Pos} (hm : X.mg "isinstance" = none) (hm2 : X.mg x = none) (ha : SE X W a ta ma) (hv2 : bootBuiltins x = some (.type T) := by decide +kernel) (hg : Gl X "isinstance" := by rfl)
    (pb : PE X (.Name x p2) (tC (.ty T))) (pe : PE X (.Name x p2) (tC (.ty T)) → PE X a ta → PE X (.Call (.Name "isinstance" p) [a, .Name x p2] [] pos) (tCB (rIsi X.K) (tCons ta (tCons (tC (.ty T)) tNil)))) (hK : X.K = K := by rfl) :
    SE X W (.Call (.Name "isinstance" p) [a, .Name x p2] [] pos) (tCB (rIsi K) (tCons ta (tCons (tC (.ty T)) tNil))) (eUn (isiO T) ma) := by subst hK; exact se_isi hg hm hm2 hv2 ha (.ty _) pb pe
theorem se_MK {T id : String} {name : Str} {r : V → List V → Hp → VK → Prop} {o : IV → List IV → IH → Option (IV × IH)} {b e : Expr} {es : List Expr} {te : TE} {t : TA} {me : Env → M IV} {m : Env → M (List IV)} {apos cpos : Pos} (hm : SMt X id r o) (he : SE X W b te me) (ha : SA X W (e :: es) t m)
    (pe : MtR X id r → PE X b te → PA X (e :: es) t → PE X (.Call (.Attribute b name apos) (e :: es) [] cpos) (tBM X.K T r te t)) (hK : X.K = K := by rfl) : SE X W (.Call (.Attribute b name apos) (e :: es) [] cpos) (tBM K T r te t) (eM T o me m) := by subst hK; exact se_M hm he ha pe
theorem se_M0K {T id : String} {name : Str} {r : V → List V → Hp → VK → Prop} {o : IV → List IV → IH → Option (IV × IH)} {b : Expr} {te : TE} {me : Env → M IV} {apos cpos : Pos} (hm : SMt X id r o) (he : SE X W b te me)
    (pe : MtR X id r → PE X b te → PE X (.Call (.Attribute b name apos) [] [] cpos) (tBM0 X.K T r te)) (hK : X.K = K := by rfl) : SE X W (.Call (.Attribute b name apos) [] [] cpos) (tBM0 K T r te) (eM T o me aNil) := by subst hK; exact se_M0 hm he pe
def iSeqT (K : PySem.W.Frag) (te : TE) : TI := fun σ H R => iList K te σ H R ∨ iTup K te σ H R ∨ iStr te σ H R
theorem si_seqK {tg e : Expr} {te : TE} {m : Env → M IV} (he : SE X W e te m) (hK : X.K = K := by rfl) : SI X W tg e (iSeqT K te) (iSeq m) := by subst hK; exact si_seq he
theorem sg_tupK {es : List Expr} {k : Nat} {t : TGs} {m : MGs} {pos : Pos} (hc : X.calm = true) (h : SGs X es t m) (pe : PG X (.Tuple es k pos) (gTup X.K es.length t)) (hK : X.K = K := by rfl) : SG X (.Tuple es k pos) (gTup K es.length t) (gT es.length m) := by subst hK; exact sg_tup hc h pe
end
theorem se_callDK {X : Cx} {W : WX} {P : Program} {w : World} {K : PySem.W.Frag} {mg : Str → Option Value} {base : Heap} {j k : Nat} {ps : List Str} {G : Fn} {x : Str} {e : Expr} {es : List Expr} {t : TA} {m : Env → M (List IV)} {p pos : Pos} (D : Df P w K mg base x j ps G) (hr : Room k X.A) (tk : Takes X W) (ha : SA X W (e :: es) t m)
    (al : ∀ env h xs h', m env h = some (.ok xs, h') → xs.length = (e :: es).length) (hl : ps.length = (e :: es).length := by rfl) (hj : j ≤ k := by decide) (hg : Gl X x := by rfl)
    (hdb : (x == ("__debug__" : Str)) = false := by decide) (he : starEach (e :: es) X.env = (false, eval e X.env) :: starEach es X.env := by rfl) (hpl : (backTo pos (starEach es X.env)).any (·.1) = false := by rfl)
    (h1 : X.prog = P := by rfl) (h2 : X.w = w := by rfl) (h3 : X.K = K := by rfl) (h4 : X.mg = mg := by rfl) (h5 : X.base = base := by rfl) :
    SE X W (.Call (.Name x p) (e :: es) [] pos) (tCallS (spM K mg ps.length G) (WE W) t) (eCall G m) := by
  subst h1 h2 h3 h4 h5
  exact se_callD D hr tk ha al hl hj hg hdb he hpl
theorem se_callD0K {X : Cx} {W : WX} {P : Program} {w : World} {K : PySem.W.Frag} {mg : Str → Option Value} {base : Heap} {j k : Nat} {G : Fn} {x : Str} {p pos : Pos} (D : Df P w K mg base x j [] G) (hr : Room k X.A) (hj : j ≤ k := by decide) (hg : Gl X x := by rfl) (hdb : (x == ("__debug__" : Str)) = false := by decide)
    (h1 : X.prog = P := by rfl) (h2 : X.w = w := by rfl) (h3 : X.K = K := by rfl) (h4 : X.mg = mg := by rfl) (h5 : X.base = base := by rfl) :
    SE X W (.Call (.Name x p) [] [] pos) (tCall (spM K mg 0 G) [] E0 tNil) (eCall0 G) := by
  subst h1 h2 h3 h4 h5
  exact se_callD0 D hr hj hg hdb
end L2.Sh

namespace L2.Sh
open PySem PySem.Spec PyProof.Rows L2
/-! ### the plain side: what holds behind -/
def WE {α : Type} (r : Res α) (Q : α → IH → Prop) : Prop := match r with
  | some (.ok a, h) => Q a h
  | _ => False
def WO {α : Type} (r : Option (α × IH)) (Q : α → IH → Prop) : Prop := match r with
  | some (a, h) => Q a h
  | none => False
def WS (r : Option (Flw × IH)) (N : Env → IH → Prop) (R : IV → IH → Prop) (B C : Env → IH → Prop) : Prop := match r with
  | some (.nx e, h) => N e h
  | some (.rt v, h) => R v h
  | some (.bk e, h) => B e h
  | some (.ct e, h) => C e h
  | _ => False
theorem FU_gt {n k : Nat} (h : n < 2 ^ k) (hk : k ≤ 2097152 := by omega) : n < FU := by
  unfold FU
  exact Nat.lt_of_lt_of_le h (Nat.pow_le_pow_right (by decide) hk)
theorem FU_lt64 {n : Nat} (h : n < 18446744073709551616) : n < FU := FU_gt (k := 64) (by simpa using h)
section
variable {α β γ : Type} {Q : α → IH → Prop} {N B C : Env → IH → Prop} {R : IV → IH → Prop} {env : Env} {h : IH}
theorem WE.mono {r : Res α} {Q' : α → IH → Prop} (w : WE r Q) (f : ∀ a h, Q a h → Q' a h) : WE r Q' := by
  match r, w with
  | some (.ok a, h), w => exact f a h w
theorem WO.mono {r : Option (α × IH)} {Q' : α → IH → Prop} (w : WO r Q) (f : ∀ a h, Q a h → Q' a h) : WO r Q' := by
  match r, w with
  | some (a, h), w => exact f a h w
theorem WS.mono {r : Option (Flw × IH)} {N' B' C' : Env → IH → Prop} {R' : IV → IH → Prop} (w : WS r N R B C) (f : ∀ a h, N a h → N' a h) (fr : ∀ a h, R a h → R' a h) (fb : ∀ a h, B a h → B' a h) (fc : ∀ a h, C a h → C' a h) : WS r N' R' B' C' := by
  match r, w with
  | some (.nx e, h), w => exact f e h w
  | some (.rt e, h), w => exact fr e h w
  | some (.bk e, h), w => exact fb e h w
  | some (.ct e, h), w => exact fc e h w
theorem WE.eq {r : Res α} {a : α} {h' : IH} (w : WE r fun b h1 => b = a ∧ h1 = h') : r = some (.ok a, h') := by
  match r, w with
  | some (.ok b, h), w => obtain ⟨rfl, rfl⟩ := w; rfl
theorem WE.out {r : Res α} (w : WE r Q) : ∃ a h', r = some (.ok a, h') ∧ Q a h' := by
  match r, w with
  | some (.ok b, h), w => exact ⟨b, h, rfl, w⟩
@[simp] theorem WE_ok {a : α} : WE (some (.ok a, h)) Q ↔ Q a h := Iff.rfl
@[simp] theorem WE_none : WE (none : Res α) Q ↔ False := Iff.rfl
@[simp] theorem WE_err {x : Exc} : WE (some (.error x, h) : Res α) Q ↔ False := Iff.rfl
@[simp] theorem WO_some {a : α} : WO (some (a, h)) Q ↔ Q a h := Iff.rfl
@[simp] theorem WO_none : WO (none : Option (α × IH)) Q ↔ False := Iff.rfl
@[simp] theorem WE_bnd {m : M β} {f : β → M α} : WE (bnd m f h) Q ↔ WE (m h) fun a h' => WE (f a h') Q := by
  unfold bnd WE
  cases m h with
  | none => exact Iff.rfl
  | some z => obtain ⟨z, h'⟩ := z; cases z <;> exact Iff.rfl
@[simp] theorem WE_nox {m : M α} : WE (nox m h) Q ↔ WE (m h) Q := by
  unfold nox WE
  cases m h with
  | none => exact Iff.rfl
  | some z => obtain ⟨z, h'⟩ := z; cases z <;> exact Iff.rfl
@[simp] theorem WE_lift {f : IH → Option (α × IH)} : WE (lift f h) Q ↔ WO (f h) Q := by
  unfold lift WE WO
  cases f h with
  | none => exact Iff.rfl
  | some z => exact Iff.rfl
@[simp] theorem WE_ite {c : Prop} [Decidable c] {a b : Res α} : WE (if c then a else b) Q ↔ if c then WE a Q else WE b Q := by split <;> exact Iff.rfl
@[simp] theorem WO_ite {c : Prop} [Decidable c] {a b : Option (α × IH)} : WO (if c then a else b) Q ↔ if c then WO a Q else WO b Q := by split <;> exact Iff.rfl
theorem WE_eVar' {i : Nat} {x : IV} {Q : IV → IH → Prop} (e : env[i]? = some (some x)) : WE (eVar i env h) Q ↔ Q x h := by
  unfold eVar
  rw [e]
  exact Iff.rfl
@[simp] theorem eVar_at {i : Nat} {Q : IV → IH → Prop} : WE (eVar i env h) Q ↔ match env[i]? with | some (some x) => Q x h | _ => False := by
  unfold eVar
  cases env[i]? with
  | none => exact Iff.rfl
  | some z => cases z <;> exact Iff.rfl
@[simp] theorem WE_eC {x : IV} {Q : IV → IH → Prop} : WE (eC x env h) Q ↔ Q x h := Iff.rfl
@[simp] theorem WE_eOp {o : O2} {a b : Env → M IV} {Q : IV → IH → Prop} : WE (eOp o a b env h) Q ↔ WE (a env h) fun x h1 => WE (b env h1) fun y h2 => WO (o x y h2) Q := by simp only [eOp, WE_bnd, WE_lift]
@[simp] theorem WE_eUn {o : IV → IH → Option (IV × IH)} {a : Env → M IV} {Q : IV → IH → Prop} : WE (eUn o a env h) Q ↔ WE (a env h) fun x h1 => WO (o x h1) Q := by simp only [eUn, WE_bnd, WE_lift]
@[simp] theorem WE_aNil {Q : List IV → IH → Prop} : WE (aNil env h) Q ↔ Q [] h := Iff.rfl
@[simp] theorem WE_aCons {a : Env → M IV} {b : Env → M (List IV)} {Q : List IV → IH → Prop} : WE (aCons a b env h) Q ↔ WE (a env h) fun x h1 => WE (b env h1) fun xs h2 => Q (x :: xs) h2 := by simp only [aCons, WE_bnd, WE_ok]
@[simp] theorem WE_eTup {a : Env → M (List IV)} {Q : IV → IH → Prop} : WE (eTup a env h) Q ↔ WE (a env h) fun xs h1 => if xs.length ≤ 16777216 then Q (.tup xs) h1 else False := by simp only [eTup, WE_bnd, WE_ite, WE_ok, WE_none]
@[simp] theorem WE_eLst {a : Env → M (List IV)} {Q : IV → IH → Prop} : WE (eLst a env h) Q ↔ WE (a env h) fun xs h1 => if xs.length ≤ 16777216 then Q (.ref h1.length) (h1 ++ [.lst xs]) else False := by simp only [eLst, WE_bnd, WE_ite, WE_ok, WE_none]
@[simp] theorem WE_eCB {o : List IV → IH → Option (IV × IH)} {a : Env → M (List IV)} {Q : IV → IH → Prop} : WE (eCB o a env h) Q ↔ WE (a env h) fun xs h1 => WO (o xs h1) Q := by simp only [eCB, WE_bnd, WE_lift]
@[simp] theorem WE_eCall {F : Fn} {a : Env → M (List IV)} {Q : IV → IH → Prop} : WE (eCall F a env h) Q ↔ WE (a env h) fun xs h1 => WE (F xs h1) Q := by simp only [eCall, WE_bnd]
@[simp] theorem WE_eCall0 {F : Fn} {Q : IV → IH → Prop} : WE (eCall0 F env h) Q ↔ WE (F [] h) Q := by simp only [eCall0, WE_nox]
@[simp] theorem WE_eM {T : String} {o : IV → List IV → IH → Option (IV × IH)} {m : Env → M IV} {a : Env → M (List IV)} {Q : IV → IH → Prop} : WE (eM T o m a env h) Q ↔ WE (m env h) fun x h1 => if tyI T h1 x = true then WE (a env h1) fun xs h2 => WO (o x xs h2) Q else False := by
  simp only [eM, WE_bnd]
  constructor <;> intro w <;> refine w.mono fun x h1 q => ?_ <;> revert q <;> split <;> intro q <;> first | exact q | (simpa using q)
@[simp] theorem WE_tyB {a : Env → M IV} {Q : Bool → IH → Prop} : WE (tyB a env h) Q ↔ WE (a env h) fun x h1 => match x with | .bl b => Q b h1 | _ => False := by
  simp only [tyB, WE_bnd]
  constructor <;> intro w <;> refine w.mono fun x h1 q => ?_ <;> cases x <;> exact q
@[simp] theorem WE_tTru {a : Env → M IV} {Q : Bool → IH → Prop} : WE (tTru a env h) Q ↔ WE (a env h) fun x h1 => WO (truO x h1) Q := by simp only [tTru, WE_bnd, WE_lift]
@[simp] theorem WE_tAndM {a b : Env → M Bool} {Q : Bool → IH → Prop} : WE (tAndM a b env h) Q ↔ WE (a env h) fun c h1 => if c = true then WE (b env h1) Q else Q false h1 := by
  simp only [tAndM, WE_bnd]
  constructor <;> intro w <;> refine w.mono fun x h1 q => ?_ <;> cases x <;> exact q
@[simp] theorem WE_tOrM {a b : Env → M Bool} {Q : Bool → IH → Prop} : WE (tOrM a b env h) Q ↔ WE (a env h) fun c h1 => if c = true then Q true h1 else WE (b env h1) Q := by
  simp only [tOrM, WE_bnd]
  constructor <;> intro w <;> refine w.mono fun x h1 q => ?_ <;> cases x <;> exact q
@[simp] theorem WE_tNotM {a : Env → M Bool} {Q : Bool → IH → Prop} : WE (tNotM a env h) Q ↔ WE (a env h) fun c h1 => Q (!c) h1 := by simp only [tNotM, WE_bnd, WE_ok]
@[simp] theorem WE_eAnd {a b : Env → M IV} {Q : IV → IH → Prop} : WE (eAnd a b env h) Q ↔ WE (a env h) fun x h1 => match x with | .bl c => if c = true then WE (b env h1) Q else Q (.bl false) h1 | _ => False := by
  simp only [eAnd, WE_bnd, WE_tyB]
  constructor <;> intro w <;> refine w.mono fun x h1 q => ?_ <;> cases x <;> first | exact q | (rename_i c; cases c <;> exact q)
@[simp] theorem WE_eOr {a b : Env → M IV} {Q : IV → IH → Prop} : WE (eOr a b env h) Q ↔ WE (a env h) fun x h1 => match x with | .bl c => if c = true then Q (.bl true) h1 else WE (b env h1) Q | _ => False := by
  simp only [eOr, WE_bnd, WE_tyB]
  constructor <;> intro w <;> refine w.mono fun x h1 q => ?_ <;> cases x <;> first | exact q | (rename_i c; cases c <;> exact q)
@[simp] theorem WE_eNot {a : Env → M IV} {Q : IV → IH → Prop} : WE (eNot a env h) Q ↔ WE (a env h) fun x h1 => match x with | .bl c => Q (.bl (!c)) h1 | _ => False := by
  simp only [eNot, WE_bnd, WE_tyB, WE_ok]
@[simp] theorem WE_eIf {c : Env → M Bool} {a b : Env → M IV} {Q : IV → IH → Prop} : WE (eIf c a b env h) Q ↔ WE (c env h) fun k h1 => if k = true then WE (a env h1) Q else WE (b env h1) Q := by
  simp only [eIf, WE_bnd]
  constructor <;> intro w <;> refine w.mono fun x h1 q => ?_ <;> cases x <;> exact q
@[simp] theorem WE_eChain {o o' : O2} {a b c : Env → M IV} {Q : IV → IH → Prop} : WE (eChain o o' a b c env h) Q ↔ WE (a env h) fun x h1 => WE (b env h1) fun y h2 => WO (o x y h2) fun z h3 => match z with | .bl k => if k = true then WE (c env h3) fun w h4 => WO (o' y w h4) Q else Q (.bl false) h3 | _ => False := by
  simp only [eChain, WE_bnd, WE_lift]
  constructor <;> intro w <;> refine w.mono fun x h1 q => ?_ <;> refine q.mono fun y h2 q => ?_ <;> refine q.mono fun z h3 q => ?_ <;> cases z <;> first | exact q | (rename_i k; cases k <;> first | exact q | (simp only [WE_bnd, WE_lift, if_pos] at q ⊢; exact q))
@[simp] theorem WE_slice {f : Option Int → Option Int → IV → IH → Option (IV × IH)} {a : Env → M IV} {lo hi : Env → M (Option Int)} {Q : IV → IH → Prop} : WE (sliceQ f a lo hi env h) Q ↔ WE (a env h) fun x h1 => WE (lo env h1) fun l h2 => WE (hi env h2) fun u h3 => WO (f l u x h3) Q := by simp only [sliceQ, WE_bnd, WE_lift]
@[simp] theorem WE_oN {Q : Option Int → IH → Prop} : WE (oN env h) Q ↔ Q none h := Iff.rfl
@[simp] theorem WE_oS {a : Env → M IV} {Q : Option Int → IH → Prop} : WE (oS a env h) Q ↔ WE (a env h) fun x h1 => match x with | .int i => Q (some i) h1 | _ => False := by
  simp only [oS, WE_bnd]
  constructor <;> intro w <;> refine w.mono fun x h1 q => ?_ <;> cases x <;> exact q
/-! statements -/
@[simp] theorem WS_nx {e : Env} : WS (some (.nx e, h)) N R B C ↔ N e h := Iff.rfl
@[simp] theorem WS_rt {v : IV} : WS (some (.rt v, h)) N R B C ↔ R v h := Iff.rfl
@[simp] theorem WS_none : WS none N R B C ↔ False := Iff.rfl
@[simp] theorem WS_sNil : WS (sNil env h) N R B C ↔ N env h := Iff.rfl
@[simp] theorem WS_sNever : WS (sNever env h) N R B C ↔ False := Iff.rfl
@[simp] theorem WS_sBreak : WS (sBreak env h) N R B C ↔ B env h := Iff.rfl
@[simp] theorem WS_sCont : WS (sCont env h) N R B C ↔ C env h := Iff.rfl
@[simp] theorem WS_sRetN : WS (sRetN env h) N R B C ↔ R .non h := Iff.rfl
@[simp] theorem WS_sSeq {a b : MS} : WS (sSeq a b env h) N R B C ↔ WS (a env h) (fun e h' => WS (b e h') N R B C) R B C := by
  unfold sSeq
  cases a env h with
  | none => exact Iff.rfl
  | some z => obtain ⟨z, h'⟩ := z; cases z <;> exact Iff.rfl
@[simp] theorem WS_bndS {m : Env → M α} {f : α → MS} : WS (bndS m f env h) N R B C ↔ WE (m env h) fun a h' => WS (f a env h') N R B C := by
  unfold bndS
  cases m env h with
  | none => exact Iff.rfl
  | some z => obtain ⟨z, h'⟩ := z; cases z <;> exact Iff.rfl
@[simp] theorem WS_sAsg {i : Nat} {m : Env → M IV} : WS (sAsg i m env h) N R B C ↔ WE (m env h) fun x h' => N (env.set i (some x)) h' := by simp only [sAsg, WS_bndS, WS_nx]
@[simp] theorem WS_sRet {m : Env → M IV} : WS (sRet m env h) N R B C ↔ WE (m env h) fun x h' => R x h' := by simp only [sRet, WS_bndS, WS_rt]
@[simp] theorem WS_sExp {m : Env → M IV} : WS (sExp m env h) N R B C ↔ WE (m env h) fun x h' => N env h' := by simp only [sExp, WS_bndS, WS_nx]
@[simp] theorem WS_sIf {c : Env → M Bool} {a b : MS} : WS (sIf c a b env h) N R B C ↔ WE (c env h) fun k h' => if k = true then WS (a env h') N R B C else WS (b env h') N R B C := by
  simp only [sIf, WS_bndS]
  constructor <;> intro w <;> refine w.mono fun x h1 q => ?_ <;> cases x <;> exact q
@[simp] theorem WS_sPar {i j : Nat} {m : Env → M (List IV)} : WS (sPar i j m env h) N R B C ↔ WE (m env h) fun xs h' => match xs with | [x, y] => N ((env.set i (some x)).set j (some y)) h' | _ => False := by
  simp only [sPar, WS_bndS]
  constructor <;> intro w <;> refine w.mono fun x h1 q => ?_ <;> split at q <;> first | exact q | exact q.elim
@[simp] theorem WS_sAsgG {m : Env → M IV} {k : MG} : WS (sAsgG m k env h) N R B C ↔ WE (m env h) fun x h' => match k x env h' with | some e => N e h' | none => False := by
  simp only [sAsgG, WS_bndS]
  constructor <;> intro w <;> refine w.mono fun x h1 q => ?_ <;> split at q <;> simp_all
@[simp] theorem WS_sSub {put : IV → IV → IV → IH → Option IH} {o i e : Env → M IV} : WS (sSub put o i e env h) N R B C ↔ WE (e env h) fun x h1 => WE (o env h1) fun y h2 => WE (i env h2) fun z h3 => match put y z x h3 with | some h' => N env h' | none => False := by
  simp only [sSub, WS_bndS]
  constructor <;> intro w <;> refine w.mono fun x h1 q => ?_ <;> refine q.mono fun x h1 q => ?_ <;> refine q.mono fun x h1 q => ?_ <;> split at q <;> simp_all
@[simp] theorem WE_runF {n : Nat} {b : MS} {xs : List IV} {Q : IV → IH → Prop} : WE (runF n b xs h) Q ↔ WS (b (xs.map some ++ List.replicate (n - xs.length) none) h) (fun _ h' => Q .non h') Q (fun _ _ => False) (fun _ _ => False) := by
  unfold runF
  cases b (xs.map some ++ List.replicate (n - xs.length) none) h with
  | none => exact Iff.rfl
  | some z => obtain ⟨z, h'⟩ := z; cases z <;> exact Iff.rfl
theorem WS_while {c : Env → M Bool} {b : MS} (I : Env → IH → Prop) (μ : Env → IH → Nat) (hI : ∀ env h, I env h → WE (c env h) fun k h' => if k = true then WS (b env h') (fun e1 h1 => I e1 h1 ∧ μ e1 h1 < μ env h) R N (fun e1 h1 => I e1 h1 ∧ μ e1 h1 < μ env h) else N env h') :
    ∀ (n : Nat) (env : Env) (h : IH), I env h → μ env h < n → WS (whileN c b n env h) N R B C
  | 0, env, h, _, hm => absurd hm (Nat.not_lt_zero _)
  | n + 1, env, h, i, hm => by
    unfold whileN
    rw [WS_bndS]
    refine (hI env h i).mono fun k h' q => ?_
    cases k with
    | false => exact q
    | true =>
      simp only [if_pos] at q ⊢
      cases hb : b env h' with
      | none => rw [hb] at q; exact q
      | some z =>
        obtain ⟨z, h1⟩ := z
        rw [hb] at q
        cases z with
        | nx e1 => exact WS_while I μ hI n e1 h1 q.1 (Nat.lt_of_lt_of_le q.2 (Nat.le_of_lt_succ hm))
        | ct e1 => exact WS_while I μ hI n e1 h1 q.1 (Nat.lt_of_lt_of_le q.2 (Nat.le_of_lt_succ hm))
        | bk e1 => exact q
        | rt v => exact q
        | ex x e1 => exact q
/-- a loop over what is walked: k items -/
theorem WS_for {it : IIt} {g : MG} {b : MS} (k : Nat) (I : Nat → Env → IH → Prop)
    (hs : ∀ i env h, i < k → I i env h → ∃ x, it.nxt i h = some (some x) ∧ ∃ e1, g x env h = some e1 ∧ WS (b e1 h) (I (i + 1)) R N (I (i + 1)))
    (hd : ∀ env h, I k env h → it.nxt k h = some none ∧ N env h) : ∀ (n i : Nat) (env : Env) (h : IH), i ≤ k → I i env h → k - i < n → WS (forLoop it g b n i env h) N R B C
  | 0, _, _, _, _, _, hm => absurd hm (Nat.not_lt_zero _)
  | n + 1, i, env, h, hi, iv, hm => by
    unfold forLoop
    by_cases hk : i < k
    · obtain ⟨x, e, e1, eg, w⟩ := hs i env h hk iv
      rw [e]
      simp only []
      rw [eg]
      simp only []
      cases hb : b e1 h with
      | none => rw [hb] at w; exact w
      | some z =>
        obtain ⟨z, h1⟩ := z
        rw [hb] at w
        cases z with
        | nx e2 => exact WS_for k I hs hd n (i + 1) e2 h1 hk w (by omega)
        | ct e2 => exact WS_for k I hs hd n (i + 1) e2 h1 hk w (by omega)
        | bk e1 => exact w
        | rt v => exact w
        | ex x e1 => exact w
    · have ek : i = k := by omega
      subst ek
      obtain ⟨e, q⟩ := hd env h iv
      rw [e]
      exact q
@[simp] theorem WS_sFor {n : Nat} {mi : Env → M IIt} {g : MG} {b : MS} : WS (sFor n mi g b env h) N R B C ↔ WE (mi env h) fun it h' => WS (forLoop it g b n 0 env h') N R B C := by simp only [sFor, WS_bndS]
theorem WE_comp {it : IIt} {g : MG} {c : Env → M Bool} {b : Env → M IV} {n0 : Nat} {Q : IV → IH → Prop} (k : Nat) (I : Nat → IH → Prop)
    (hs : ∀ i h, i < k → I i h → ∃ x, it.nxt i h = some (some x) ∧ ∃ e1, g x env h = some e1 ∧ WE (c e1 h) fun t h1 => if t = true then WE (b e1 h1) fun y h2 => ∃ acc, h2[n0]? = some (.lst acc) ∧ acc.length < 16777216 ∧ I (i + 1) (h2.set n0 (.lst (acc ++ [y]))) else I (i + 1) h1)
    (hd : ∀ h, I k h → it.nxt k h = some none ∧ Q (.ref n0) h) : ∀ (n i : Nat) (h : IH), i ≤ k → I i h → k - i < n → WE (compLoop it g c b env n0 n i h) Q
  | 0, _, _, _, _, hm => absurd hm (Nat.not_lt_zero _)
  | n + 1, i, h, hi, iv, hm => by
    unfold compLoop
    by_cases hk : i < k
    · obtain ⟨x, e, e1, eg, w⟩ := hs i h hk iv
      rw [e]
      simp only []
      rw [eg]
      simp only [WE_bnd, WE_nox]
      refine w.mono fun t h1 q => ?_
      cases t with
      | false => exact WE_comp k I hs hd n (i + 1) h1 hk q (by omega)
      | true =>
        simp only [if_pos, WE_bnd, WE_nox] at q ⊢
        refine q.mono fun y h2 z => ?_
        obtain ⟨acc, ea, el, ei⟩ := z
        rw [ea]
        simp only [if_pos el]
        exact WE_comp k I hs hd n (i + 1) _ hk ei (by omega)
    · have ek : i = k := by omega
      subst ek
      obtain ⟨e, q⟩ := hd h iv
      rw [e]
      exact q
@[simp] theorem WE_eComp {vs : List Nat} {n : Nat} {mi : Env → M IIt} {g : MG} {c : Env → M Bool} {b : Env → M IV} {Q : IV → IH → Prop} : WE (eComp vs n mi g c b env h) Q ↔ WE (mi env h) fun it h' => WE (compLoop it g c b (wipeE env vs) h'.length n 0 (h' ++ [.lst []])) Q := by simp only [eComp, WE_bnd]
@[simp] theorem WE_cYes {Q : Bool → IH → Prop} : WE (cYes env h) Q ↔ Q true h := Iff.rfl
@[simp] theorem WE_iR1 {m : Env → M (List IV)} {Q : IIt → IH → Prop} : WE (iR1 m env h) Q ↔ WE (m env h) fun xs h' => match xs with | [.int j] => if -(2 ^ 62) ≤ j ∧ j < 2 ^ 62 then Q (rngIt 0 j.toNat) h' else False | _ => False := by
  simp only [iR1, WE_bnd]
  constructor <;> intro w <;> refine w.mono fun x h1 q => ?_ <;> split at q <;> first | exact q | exact q.elim | (simpa only [WE_ite, WE_ok, WE_none] using q)
@[simp] theorem WE_iR2 {m : Env → M (List IV)} {Q : IIt → IH → Prop} : WE (iR2 m env h) Q ↔ WE (m env h) fun xs h' => match xs with | [.int i, .int j] => if -(2 ^ 62) ≤ i ∧ i < 2 ^ 62 ∧ -(2 ^ 62) ≤ j ∧ j < 2 ^ 62 then Q (rngIt i (j - i).toNat) h' else False | _ => False := by
  simp only [iR2, WE_bnd]
  constructor <;> intro w <;> refine w.mono fun x h1 q => ?_ <;> split at q <;> first | exact q | exact q.elim | (simpa only [WE_ite, WE_ok, WE_none] using q)
@[simp] theorem WE_iSeq {m : Env → M IV} {Q : IIt → IH → Prop} : WE (iSeq m env h) Q ↔ WE (m env h) fun x h' => match seqIt x h' with | some it => Q it h' | none => False := by
  simp only [iSeq, WE_bnd]
  constructor <;> intro w <;> refine w.mono fun x h1 q => ?_ <;> split at q <;> simp_all
end
/-! operators on what is known -/
section
variable {h : IH} {i j : Int}
@[simp] theorem addO_int : addO (.int i) (.int j) h = some (.int (i + j), h) := rfl
@[simp] theorem subI_int : subI (.int i) (.int j) h = some (.int (i - j), h) := rfl
@[simp] theorem mulI_int : mulI (.int i) (.int j) h = if i.natAbs.log2 + j.natAbs.log2 < 1000000 then some (.int (i * j), h) else none := rfl
@[simp] theorem divI_int : divI (.int i) (.int j) h = if j ≠ 0 ∧ j.natAbs.log2 < 9000 then some (.int (i.fdiv j), h) else none := rfl
@[simp] theorem modI_int : modI (.int i) (.int j) h = if j ≠ 0 then some (.int (i.fmod j), h) else none := rfl
@[simp] theorem powI_int : powI (.int i) (.int j) h = if 0 ≤ j ∧ j ≤ 1000000 ∧ i.natAbs < 2 ^ 64 then some (.int (i ^ j.toNat), h) else none := rfl
@[simp] theorem cmpI_int {p : Int → Int → Bool} : cmpI p (.int i) (.int j) h = some (.bl (p i j), h) := rfl
@[simp] theorem eqO_int : eqO (.int i) (.int j) h = some (.bl (decide (i = j)), h) := rfl
@[simp] theorem neO_int : neO (.int i) (.int j) h = some (.bl (!decide (i = j)), h) := rfl
@[simp] theorem eqO_str {x y : Str} : eqO (.str x) (.str y) h = some (.bl (decide (x = y)), h) := rfl
@[simp] theorem neO_str {x y : Str} : neO (.str x) (.str y) h = some (.bl (!decide (x = y)), h) := rfl
@[simp] theorem eqO_bl {x y : Bool} : eqO (.bl x) (.bl y) h = some (.bl (decide (x = y)), h) := rfl
@[simp] theorem neO_bl {x y : Bool} : neO (.bl x) (.bl y) h = some (.bl (!decide (x = y)), h) := rfl
@[simp] theorem absO_int : absO [.int i] h = some (.int (if i < 0 then -i else i), h) := rfl
@[simp] theorem negO_int : negO (.int i) h = some (.int (-i), h) := rfl
@[simp] theorem isN_non {f : Bool → Bool} : isNO f .non .non h = some (.bl (f true), h) := rfl
@[simp] theorem isN_int {g : Bool → Bool} : isNO g (.int i) .non h = some (.bl (g false), h) := rfl
@[simp] theorem isN_bl {g : Bool → Bool} {b : Bool} : isNO g (.bl b) .non h = some (.bl (g false), h) := rfl
@[simp] theorem isN_str {g : Bool → Bool} {x : Str} : isNO g (.str x) .non h = some (.bl (g false), h) := rfl
@[simp] theorem isN_tup {g : Bool → Bool} {xs : List IV} : isNO g (.tup xs) .non h = some (.bl (g false), h) := rfl
@[simp] theorem isN_ref {g : Bool → Bool} {n : Nat} : isNO g (.ref n) .non h = some (.bl (g false), h) := rfl
@[simp] theorem isN_scr {g : Bool → Bool} {ns : List Int} : isNO g (.scr ns) .non h = some (.bl (g false), h) := rfl
@[simp] theorem isN_exc {g : Bool → Bool} {n f : Str} {v : List IV} : isNO g (.exc n f v) .non h = some (.bl (g false), h) := rfl
@[simp] theorem truO_bl {b : Bool} : truO (.bl b) h = some (b, h) := rfl
theorem isiO_of {T n : String} {b : Bool} {x : IV} (e1 : tyN h x = some n) (e2 : kitB n T = some b) : isiO T x h = some (.bl b, h) := by simp only [isiO, e1, e2]
@[simp] theorem isi_non_int : isiO "int" .non h = some (.bl false, h) := isiO_of rfl (by decide +kernel)
@[simp] theorem isi_bl_int {b : Bool} : isiO "int" (.bl b) h = some (.bl true, h) := isiO_of rfl (by decide +kernel)
@[simp] theorem isi_int_int : isiO "int" (.int i) h = some (.bl true, h) := isiO_of rfl (by decide +kernel)
@[simp] theorem isi_str_int {x : Str} : isiO "int" (.str x) h = some (.bl false, h) := isiO_of rfl (by decide +kernel)
@[simp] theorem isi_tup_int {xs : List IV} : isiO "int" (.tup xs) h = some (.bl false, h) := isiO_of rfl (by decide +kernel)
@[simp] theorem isi_non_bool : isiO "bool" .non h = some (.bl false, h) := isiO_of rfl (by decide +kernel)
@[simp] theorem isi_bl_bool {b : Bool} : isiO "bool" (.bl b) h = some (.bl true, h) := isiO_of rfl (by decide +kernel)
@[simp] theorem isi_int_bool : isiO "bool" (.int i) h = some (.bl false, h) := isiO_of rfl (by decide +kernel)
@[simp] theorem isi_str_bool {x : Str} : isiO "bool" (.str x) h = some (.bl false, h) := isiO_of rfl (by decide +kernel)
@[simp] theorem isi_tup_bool {xs : List IV} : isiO "bool" (.tup xs) h = some (.bl false, h) := isiO_of rfl (by decide +kernel)
@[simp] theorem isi_non_str : isiO "str" .non h = some (.bl false, h) := isiO_of rfl (by decide +kernel)
@[simp] theorem isi_bl_str {b : Bool} : isiO "str" (.bl b) h = some (.bl false, h) := isiO_of rfl (by decide +kernel)
@[simp] theorem isi_int_str : isiO "str" (.int i) h = some (.bl false, h) := isiO_of rfl (by decide +kernel)
@[simp] theorem isi_str_str {x : Str} : isiO "str" (.str x) h = some (.bl true, h) := isiO_of rfl (by decide +kernel)
@[simp] theorem isi_tup_str {xs : List IV} : isiO "str" (.tup xs) h = some (.bl false, h) := isiO_of rfl (by decide +kernel)
@[simp] theorem isi_non_tuple : isiO "tuple" .non h = some (.bl false, h) := isiO_of rfl (by decide +kernel)
@[simp] theorem isi_bl_tuple {b : Bool} : isiO "tuple" (.bl b) h = some (.bl false, h) := isiO_of rfl (by decide +kernel)
@[simp] theorem isi_int_tuple : isiO "tuple" (.int i) h = some (.bl false, h) := isiO_of rfl (by decide +kernel)
@[simp] theorem isi_str_tuple {x : Str} : isiO "tuple" (.str x) h = some (.bl false, h) := isiO_of rfl (by decide +kernel)
@[simp] theorem isi_tup_tuple {xs : List IV} : isiO "tuple" (.tup xs) h = some (.bl true, h) := isiO_of rfl (by decide +kernel)
@[simp] theorem isi_non_list : isiO "list" .non h = some (.bl false, h) := isiO_of rfl (by decide +kernel)
@[simp] theorem isi_bl_list {b : Bool} : isiO "list" (.bl b) h = some (.bl false, h) := isiO_of rfl (by decide +kernel)
@[simp] theorem isi_int_list : isiO "list" (.int i) h = some (.bl false, h) := isiO_of rfl (by decide +kernel)
@[simp] theorem isi_str_list {x : Str} : isiO "list" (.str x) h = some (.bl false, h) := isiO_of rfl (by decide +kernel)
@[simp] theorem isi_tup_list {xs : List IV} : isiO "list" (.tup xs) h = some (.bl false, h) := isiO_of rfl (by decide +kernel)
@[simp] theorem isi_non_dict : isiO "dict" .non h = some (.bl false, h) := isiO_of rfl (by decide +kernel)
@[simp] theorem isi_bl_dict {b : Bool} : isiO "dict" (.bl b) h = some (.bl false, h) := isiO_of rfl (by decide +kernel)
@[simp] theorem isi_int_dict : isiO "dict" (.int i) h = some (.bl false, h) := isiO_of rfl (by decide +kernel)
@[simp] theorem isi_str_dict {x : Str} : isiO "dict" (.str x) h = some (.bl false, h) := isiO_of rfl (by decide +kernel)
@[simp] theorem isi_tup_dict {xs : List IV} : isiO "dict" (.tup xs) h = some (.bl false, h) := isiO_of rfl (by decide +kernel)
@[simp] theorem lenO_tup {xs : List IV} : lenO [.tup xs] h = some (.int xs.length, h) := rfl
@[simp] theorem lenO_scr {ns : List Int} : lenO [.scr ns] h = some (.int (ns.map IV.int).length, h) := rfl
theorem lenO_ref {n : Nat} {xs : List IV} (e : h[n]? = some (.lst xs)) : lenO [.ref n] h = some (.int xs.length, h) := by simp only [lenO, seqOf, e]
theorem ixN_nat {n k : Nat} (hk : k < n) : ixN n (k : Int) = some k := by
  unfold ixN
  rw [if_pos (by omega), if_pos (by omega)]; simp
theorem ixQ_tup {xs : List IV} {k : Nat} {v : IV} (e : xs[k]? = some v) : ixQ (.tup xs) (.int k) h = some (v, h) := by
  have := atI_nat e
  simp only [ixQ, seqOf, this]
theorem ixQ_ref {n : Nat} {xs : List IV} {k : Nat} {v : IV} (e0 : h[n]? = some (.lst xs)) (e : xs[k]? = some v) : ixQ (.ref n) (.int k) h = some (v, h) := by
  have := atI_nat e
  simp only [ixQ, seqOf, e0, this]
theorem ixQ_scr {ns : List Int} {k : Nat} {v : Int} (e : ns[k]? = some v) : ixQ (.scr ns) (.int k) h = some (.int v, h) := by
  have : atI (ns.map IV.int) (k : Int) = some (.int v) := atI_nat (by rw [List.getElem?_map, e]; rfl)
  simp only [ixQ, seqOf, this]
@[simp] theorem ixQ_tup0 {x : IV} {xs : List IV} : ixQ (.tup (x :: xs)) (.int 0) h = some (x, h) := ixQ_tup (k := 0) rfl
@[simp] theorem ixQ_tup1 {x y : IV} {xs : List IV} : ixQ (.tup (x :: y :: xs)) (.int 1) h = some (y, h) := ixQ_tup (k := 1) rfl
@[simp] theorem ixQ_tup2 {x y z : IV} {xs : List IV} : ixQ (.tup (x :: y :: z :: xs)) (.int 2) h = some (z, h) := ixQ_tup (k := 2) rfl
@[simp] theorem tupleO_tup {xs : List IV} : tupleO [.tup xs] h = some (.tup xs, h) := rfl
theorem tupleO_ref {n : Nat} {xs : List IV} (e : h[n]? = some (.lst xs)) : tupleO [.ref n] h = some (.tup xs, h) := by simp only [tupleO, seqOf, e]
theorem appO_ref {n : Nat} {xs : List IV} {y : IV} (e : h[n]? = some (.lst xs)) (hl : xs.length < 16777216) : appO (.ref n) [y] h = some (.non, h.set n (.lst (xs ++ [y]))) := by simp only [appO, e, if_pos hl]
theorem tyI_ref {n : Nat} {xs : List IV} (e : h[n]? = some (.lst xs)) : tyI "list" h (.ref n) = true := by simp only [tyI, e]; rfl
end
/-! bits -/
theorem log2_le {i : Int} {k : Nat} (h : i.natAbs < 2 ^ k) : i.natAbs.log2 ≤ k := by
  by_cases e : i.natAbs = 0
  · rw [e]; simp
  · exact Nat.le_of_lt ((Nat.log2_lt e).mpr h)
def Bt (k : Nat) (i : Int) : Prop := i.natAbs < 2 ^ k
theorem Bt.mul {a b : Nat} {i j : Int} (x : Bt a i) (y : Bt b j) : Bt (a + b) (i * j) := by
  unfold Bt at *
  rw [Int.natAbs_mul, Nat.pow_add]
  exact Nat.mul_lt_mul'' x y
theorem Bt.mono {a b : Nat} {i : Int} (x : Bt a i) (h : a ≤ b) : Bt b i := Nat.lt_of_lt_of_le x (Nat.pow_le_pow_right (by decide) h)
theorem Bt.add {a : Nat} {i j : Int} (x : Bt a i) (y : Bt a j) : Bt (a + 1) (i + j) := by
  unfold Bt at *
  rw [Nat.pow_succ]
  have := Int.natAbs_add_le i j
  omega
theorem Bt.sub {a : Nat} {i j : Int} (x : Bt a i) (y : Bt a j) : Bt (a + 1) (i - j) := by
  unfold Bt at *
  rw [Nat.pow_succ]
  have := Int.natAbs_sub_le i j
  omega
theorem Bt.ok {a b : Nat} {i j : Int} (x : Bt a i) (y : Bt b j) (h : a + b < 1000000) : i.natAbs.log2 + j.natAbs.log2 < 1000000 := by
  have := log2_le x
  have := log2_le y
  omega
theorem Bt.dv {b : Nat} {j : Int} (y : Bt b j) (h : b < 9000) : j.natAbs.log2 < 9000 := by
  have := log2_le y
  omega
end L2.Sh

namespace L2.Sh
open PySem PySem.Spec PyProof.Rows L2
theorem fmod_small {x y : Int} (h : y ≠ 0) : (x.fmod y).natAbs < y.natAbs := by
  rw [Int.fmod_eq_emod]
  have h1 := Int.emod_nonneg x h
  have h2 : x % y < y.natAbs := by
    have := Int.emod_lt x h
    omega
  split
  · omega
  · rename_i c
    have : x % y ≠ 0 := fun e => c (.inr (Int.dvd_of_emod_eq_zero e))
    have : ¬ 0 ≤ y := fun e => c (.inl e)
    omega
theorem gcd_fmod (x y : Int) : Int.gcd y (x.fmod y) = Int.gcd x y := by
  rw [Int.fmod_def, Int.gcd_sub_mul_left_right, Int.gcd_comm]
/-- while other != 0: one, other = other, one % other; return abs(one) -/
def gcdB : MS := sSeq (whileN (tyB (eOp neO (eVar 1) (eC (.int 0)))) (sPar 0 1 (aCons (eVar 1) (aCons (eOp modI (eVar 0) (eVar 1)) (aNil)))) FU)
  (sRet (eCB absO (aCons (eVar 0) (aNil))))
theorem gcdB_spec (a b : Int) (h : IH) (hb : Bt 2000000 b) : runF 2 gcdB [.int a, .int b] h = some (.ok (.int (Int.gcd a b)), h) := by
  refine WE.eq ?_
  rw [WE_runF]
  unfold gcdB
  rw [WS_sSeq]
  refine WS_while (fun env h1 => h1 = h ∧ ∃ x y, env = [some (.int x), some (.int y)] ∧ Int.gcd x y = Int.gcd a b) (fun env _ => match env with
    | [_, some (.int y)] => y.natAbs
    | _ => 0) ?_ FU _ h ⟨rfl, a, b, rfl, rfl⟩ (FU_gt hb)
  rintro env h1 ⟨rfl, x, y, rfl, g⟩
  by_cases hy : y = 0
  · subst hy
    simp [absO]
    rw [← g]
    simp
    split <;> omega
  · simp [hy]
    exact ⟨⟨y, _, ⟨rfl, rfl⟩, (gcd_fmod x y).trans g⟩, fmod_small hy⟩
theorem gcd_bt {a b : Int} {k : Nat} (hb : Bt k b) (h0 : b ≠ 0) : Bt k (Int.gcd a b : Int) := by
  unfold Bt at *
  have : Int.gcd a b ≤ b.natAbs := Nat.gcd_le_right a.natAbs (by omega)
  have e : ((Int.gcd a b : Int)).natAbs = Int.gcd a b := by simp
  rw [e]
  omega
theorem Bt.div {a : Nat} {i j : Int} (x : Bt a i) : Bt (a + 1) (i.fdiv j) := by
  unfold Bt at *
  rw [Nat.pow_succ]
  have h : (i.fdiv j).natAbs ≤ i.natAbs + 1 := by
    by_cases hj : j = 0
    · subst hj; simp
    · have h1 : (i / j).natAbs ≤ i.natAbs := by
        have := Int.natAbs_ediv_le_natAbs i j
        exact this
      rw [Int.fdiv_eq_ediv]
      split <;> omega
  have : 0 < 2 ^ a := Nat.two_pow_pos a
  omega
theorem Bt.of_lt {k : Nat} {i : Int} (h0 : 0 ≤ i) (h1 : i < 2 ^ k) : Bt k i := by
  unfold Bt
  have : ((i.natAbs : Nat) : Int) = i := by omega
  have h2 : ((i.natAbs : Nat) : Int) < ((2 ^ k : Nat) : Int) := by rw [this]; push_cast; exact h1
  exact Int.ofNat_lt.mp h2
end L2.Sh
namespace L2.Sh
open PySem PySem.Spec PyProof.Rows L2
/-- a comprehension over range(n) whose element changes nothing -/
theorem comp_rng {n i : Nat} {env : Env} {b : Env → M IV} {h : IH} {Q : IV → IH → Prop} (F : Nat → IV) (hn : n < 16777216)
    (hb : ∀ k h', k < n → (∀ m, m < h.length → h'[m]? = h[m]?) → WE (b (env.set i (some (.int k))) h') (fun y h2 => y = F k ∧ h2 = h')) (hQ : Q (.ref h.length) (h ++ [.lst ((List.range n).map F)])) :
    WE (compLoop (rngIt 0 n) (gN i) cYes b env h.length FU 0 (h ++ [.lst []])) Q := by
  refine WE_comp n (fun k h' => h' = h ++ [.lst ((List.range k).map F)]) ?_ ?_ FU 0 _ (Nat.zero_le _) rfl (FU_lt64 (by omega))
  · rintro k h' hk rfl
    refine ⟨.int (0 + (k : Int)), by unfold rngIt; simp [hk], _, rfl, ?_⟩
    simp only [WE_cYes, if_pos]
    rw [Int.zero_add]
    refine (hb k _ hk fun m hm => List.getElem?_append_left hm).mono fun y h2 ⟨ey, eh⟩ => ?_
    subst ey eh
    refine ⟨(List.range k).map F, by simp, by simp; omega, ?_⟩
    rw [List.set_append_right _ _ (Nat.le_refl _), Nat.sub_self, List.range_succ, List.map_append]
    rfl
  · rintro h' rfl
    exact ⟨by unfold rngIt; simp, hQ⟩
theorem bt_bits {z : Int} (h : Builtin.Int.intBits z ≤ 1048576) : Bt 1048577 z := by
  have b : z.natAbs.log2 + 1 ≤ Builtin.Int.intBits z + 1 := by
    unfold Builtin.Int.intBits
    split
    · simp_all
    · omega
  unfold Bt
  by_cases e : z.natAbs = 0
  · rw [e]; exact Nat.two_pow_pos _
  · exact (Nat.log2_lt e).mp (by omega)
end L2.Sh
namespace L2.Sh
theorem WS.seq {a b : MS} {env : Env} {h : IH} {N M B C : Env → IH → Prop} {R : IV → IH → Prop} (w : WS (a env h) M R B C) (k : ∀ e h', M e h' → WS (b e h') N R B C) : WS (sSeq a b env h) N R B C := by
  rw [WS_sSeq]
  exact w.mono k (fun _ _ q => q) (fun _ _ q => q) (fun _ _ q => q)
end L2.Sh
namespace L2.Sh
open PySem PySem.Spec PyProof.Rows L2
theorem addO_ref {n m : Nat} {xs ys : List IV} {h : IH} (e1 : h[n]? = some (.lst xs)) (e2 : h[m]? = some (.lst ys)) (hl : xs.length + ys.length ≤ 16777216) : addO (.ref n) (.ref m) h = some (.ref h.length, h ++ [.lst (xs ++ ys)]) := by
  simp only [addO, orO, addI, addS, addL, e1, e2, if_pos hl]
theorem slO_scr {lo hi : Option Int} {ns : List Int} {h : IH} : slO lo hi (.scr ns) h = some (.ref h.length, h ++ [.lst (((ns.drop (HT.sIx ns.length 0 lo)).take (HT.sIx ns.length ns.length hi - HT.sIx ns.length 0 lo)).map IV.int)]) := by
  simp only [slO, lstOf, List.length_map, List.map_take, List.map_drop]
def refIt (n : Nat) : IIt := ⟨fun i h => match h[n]? with
  | some (.lst xs) => some xs[i]?
  | _ => none⟩
theorem seqIt_ref {n : Nat} {h : IH} {xs : List IV} (e : h[n]? = some (.lst xs)) : seqIt (.ref n) h = some (refIt n) := by
  simp only [seqIt, e]
  rfl
theorem refIt_nxt {n i : Nat} {h : IH} {xs : List IV} (e : h[n]? = some (.lst xs)) : (refIt n).nxt i h = some xs[i]? := by
  simp only [refIt, e]
/-- a loop over a list that stands -/
theorem WS_list {xs : List IV} {n : Nat} {g : MG} {b : MS} {N B C : Env → IH → Prop} {R : IV → IH → Prop} {env : Env} {h : IH} (I : Nat → Env → IH → Prop) (h0 : I 0 env h) (hlen : xs.length < 18446744073709551616) (hI : ∀ i env h, I i env h → h[n]? = some (.lst xs))
    (hs : ∀ i x env h, xs[i]? = some x → I i env h → ∃ e1, g x env h = some e1 ∧ WS (b e1 h) (I (i + 1)) R N (I (i + 1))) (hd : ∀ env h, I xs.length env h → N env h) :
    WS (forLoop (refIt n) g b FU 0 env h) N R B C := by
  refine WS_for xs.length I ?_ ?_ FU 0 env h (Nat.zero_le _) h0 (FU_lt64 (by omega))
  · intro i env h hi iv
    have hx : xs[i]? = some xs[i] := List.getElem?_eq_getElem hi
    obtain ⟨e1, eg, w⟩ := hs i _ env h hx iv
    exact ⟨xs[i], by rw [refIt_nxt (hI i env h iv), hx], e1, eg, w⟩
  · intro env h iv
    exact ⟨by rw [refIt_nxt (hI _ env h iv)]; simp, hd env h iv⟩
/-- a loop over a tuple -/
theorem WS_tup {xs : List IV} {g : MG} {b : MS} {N B C : Env → IH → Prop} {R : IV → IH → Prop} {env : Env} {h : IH} (I : Nat → Env → IH → Prop) (h0 : I 0 env h) (hlen : xs.length < 18446744073709551616)
    (hs : ∀ i x env h, xs[i]? = some x → I i env h → ∃ e1, g x env h = some e1 ∧ WS (b e1 h) (I (i + 1)) R N (I (i + 1))) (hd : ∀ env h, I xs.length env h → N env h) :
    WS (forLoop ⟨fun i _ => some xs[i]?⟩ g b FU 0 env h) N R B C := by
  refine WS_for xs.length I ?_ ?_ FU 0 env h (Nat.zero_le _) h0 (FU_lt64 (by omega))
  · intro i env h hi iv
    have hx : xs[i]? = some xs[i] := List.getElem?_eq_getElem hi
    obtain ⟨e1, eg, w⟩ := hs i _ env h hx iv
    exact ⟨xs[i], by show some xs[i]? = _; rw [hx], e1, eg, w⟩
  · intro env h iv
    exact ⟨by show some xs[xs.length]? = _; simp, hd env h iv⟩
end L2.Sh

namespace L2.Sh
open PySem PySem.Spec PyProof.Rows L2
/-- a comprehension over a tuple whose element changes nothing -/
theorem comp_tup {xs : List IV} {i : Nat} {env : Env} {b : Env → M IV} {h : IH} {Q : IV → IH → Prop} (F : IV → IV) (hn : xs.length < 16777216)
    (hb : ∀ x h', x ∈ xs → (∀ m, m < h.length → h'[m]? = h[m]?) → WE (b (env.set i (some x)) h') (fun y h2 => y = F x ∧ h2 = h')) (hQ : Q (.ref h.length) (h ++ [.lst (xs.map F)])) :
    WE (compLoop ⟨fun i _ => some xs[i]?⟩ (gN i) cYes b env h.length FU 0 (h ++ [.lst []])) Q := by
  refine WE_comp xs.length (fun k h' => h' = h ++ [.lst ((xs.take k).map F)]) ?_ ?_ FU 0 _ (Nat.zero_le _) (by simp) (FU_lt64 (by omega))
  · rintro k h' hk rfl
    have hx : xs[k]? = some xs[k] := List.getElem?_eq_getElem hk
    refine ⟨xs[k], by show some xs[k]? = _; rw [hx], _, rfl, ?_⟩
    simp only [WE_cYes, if_pos]
    refine (hb xs[k] _ (List.getElem_mem hk) fun m hm => List.getElem?_append_left hm).mono fun y h2 ⟨ey, eh⟩ => ?_
    subst ey eh
    refine ⟨(xs.take k).map F, by simp, by simp; omega, ?_⟩
    rw [List.set_append_right _ _ (Nat.le_refl _), Nat.sub_self, List.take_add_one, hx, List.map_append]
    rfl
  · rintro h' rfl
    exact ⟨by show some xs[xs.length]? = _; simp, by rw [List.take_length]; exact hQ⟩
theorem seqIt_tup {xs : List IV} {h : IH} : seqIt (.tup xs) h = some ⟨fun i _ => some xs[i]?⟩ := rfl
theorem lstOf_at {n : Nat} {h : IH} {xs : List IV} (e : h[n]? = some (.lst xs)) : lstOf h (.ref n) = some xs := by simp only [lstOf, e]
theorem blsOf_map : ∀ bs : List Bool, blsOf (bs.map IV.bl) = some bs
  | [] => rfl
  | b :: r => by rw [List.map_cons, blsOf, blsOf_map r]; rfl
theorem allO_at {f : List Bool → Bool} {n : Nat} {h : IH} {bs : List Bool} (e : h[n]? = some (.lst (bs.map IV.bl))) : allO f [.ref n] h = some (.bl (f bs), h) := by
  simp only [allO, lstOf_at e, blsOf_map]
theorem toDs_bl (h : IH) (n : Nat) : ∀ bs : List Bool, toDs h n (bs.map IV.bl) = some (bs.map PyData.bool)
  | [] => by rw [List.map_nil, toDs]; rfl
  | b :: r => by rw [List.map_cons, toDs, toDs_bl h n r, toD]; rfl
theorem eqv_bls : ∀ bs cs : List Bool, PyData.eqvAll (bs.map PyData.bool) (cs.map PyData.bool) = decide (bs = cs)
  | [], [] => by simp [PyData.eqvAll]
  | [], _ :: _ => by simp [PyData.eqvAll]
  | _ :: _, [] => by simp [PyData.eqvAll]
  | a :: r, b :: t => by
    simp only [List.map_cons, PyData.eqvAll, PyData.eqv, eqv_bls r t]
    by_cases h : a = b <;> by_cases h' : r = t <;> simp [h, h']
theorem shaped_bls (bs : List Bool) : SeqAt.shaped (.list (bs.map PyData.bool)) = true := by
  unfold SeqAt.shaped
  rw [Bool.and_eq_true]
  refine ⟨?_, ?_⟩
  · rw [PyData.canLay0]
    induction bs with
    | nil => rfl
    | cons b r ih => rw [List.map_cons, PyData.canLayAll0, ih]; rfl
  · refine decide_eq_true ?_
    have : ∀ l : List Bool, PyData.depthAll (l.map PyData.bool) ≤ 1 := fun l => by
      induction l with
      | nil => simp [PyData.depthAll]
      | cons b r ih => simp only [List.map_cons, PyData.depthAll, PyData.depth]; omega
    have := this bs
    simp only [PyData.depth]
    omega
theorem eqO_bls {n m : Nat} {h : IH} {bs cs : List Bool} (e1 : h[n]? = some (.lst (bs.map IV.bl))) (e2 : h[m]? = some (.lst (cs.map IV.bl))) : eqO (.ref n) (.ref m) h = some (.bl (decide (bs = cs)), h) := by
  have d1 : toD h 64 (.ref n) = some (.list (bs.map PyData.bool)) := by rw [toD, e1]; simp only [toDs_bl]; rfl
  have d2 : toD h 64 (.ref m) = some (.list (cs.map PyData.bool)) := by rw [toD, e2]; simp only [toDs_bl]; rfl
  have : eqD id (.ref n) (.ref m) h = some (.bl (decide (bs = cs)), h) := by
    simp only [eqD, d1, d2]
    rw [if_pos ⟨shaped_bls _, shaped_bls _⟩, PyData.eqv, eqv_bls]
    rfl
  show (match eqS id (.ref n) (.ref m) h with | some z => some z | none => eqD id (.ref n) (.ref m) h) = _
  exact this
end L2.Sh

namespace L2.Sh
open PySem PySem.Spec PyProof.Rows L2
theorem comp_rngE {n i n0 : Nat} {env : Env} {b : Env → M IV} {h0 : IH} {Q : IV → IH → Prop} (h : IH) (e1 : h0 = h ++ [.lst []]) (e2 : n0 = h.length) (F : Nat → IV) (hn : n < 16777216)
    (hb : ∀ k h', k < n → (∀ m, m < h.length → h'[m]? = h[m]?) → WE (b (env.set i (some (.int k))) h') (fun y h2 => y = F k ∧ h2 = h')) (hQ : Q (.ref h.length) (h ++ [.lst ((List.range n).map F)])) :
    WE (compLoop (rngIt 0 n) (gN i) cYes b env n0 FU 0 h0) Q := by
  subst e1 e2
  exact comp_rng F hn hb hQ
end L2.Sh

namespace L2.Sh
open PySem PySem.Spec PyProof.Rows L2
section
variable {X : Cx} {pins : List (Addr × Obj)} {σ : St} {H : Hp} {s : Shared}
theorem ext_ok {P : Program} {w : World} {H : Hp} {h : Heap} {cls : Value} {d : Option Addr} {a : Addr} {oe : Obj} {vs : Array Value} (e : h.get? a = some oe) (z : Zc cls d oe) (hd : oe.data = .fields vs) : ObjOk P w H h a (ExT cls d a) :=
  ⟨⟨oe, vs, e, z, hd⟩, ⟨oe, e⟩, fun h1 h2 ⟨o1, v1, e1, z1, d1⟩ k => ⟨o1, v1, k _ e1, z1, d1⟩⟩
/-- an exception of ours that is pinned becomes tracked -/
theorem track {a : Addr} {oe : Obj} {vs : Array Value} {cls : Value} {d : Option Addr} (I : Inv X ((a, oe) :: pins) σ H s) (hz : Zc cls d oe) (hd : oe.data = .fields vs) (new : X.s_0.heap.get? a = none) (far : ∀ p ∈ X.pn ++ pins, p.1 ≠ a) : Inv X pins σ (upd H a (ExT cls d a)) s := by
  obtain ⟨ha, na, nL, nF, nc⟩ := I.pin (a, oe) (List.mem_append_right _ List.mem_cons_self)
  have ne : ∀ {b : Addr} {u : HO}, H b = some u → b ≠ a := fun e => ne_of_none e na
  refine ⟨I.ok, I.os, I.bare, ⟨I.base.keep, I.base.slot, fun b o e n hx => ?_, I.base.there, fun b xs e => ?_, fun b o u e => ?_, fun b ps e => ?_⟩, I.loc, I.cell, ?_, fun x c e => ?_, fun p hp => ?_, fun b u e => ?_, I.len⟩
  · have hb : b ≠ a := fun z => by subst z; rw [new] at e; cases e
    rw [upd_ne hb]; exact I.base.free b o e n hx
  · have q := I.base.tups b xs e
    rw [upd_ne (ne q)]; exact q
  · have q := I.base.frzs b o u e
    rw [upd_ne (ne q)]; exact q
  · obtain ⟨more, q⟩ := I.base.tbls b ps e
    exact ⟨more, by rw [upd_ne (ne q)]; exact q⟩
  · rw [upd_ne (Ne.symm nL)]; exact I.free
  · have hca : c ≠ a := fun z => by
      obtain ⟨v, hv⟩ := I.cell x c e
      subst z
      obtain ⟨o, ho, hdc⟩ := hv
      rw [ha] at ho
      cases ho
      exact nc _ hdc
    rw [upd_ne hca]; exact I.freeC x c e
  · have hp' : p ∈ X.pn ++ (a, oe) :: pins := by
      rcases List.mem_append.mp hp with z | z
      · exact List.mem_append_left _ z
      · exact List.mem_append_right _ (List.mem_cons_of_mem _ z)
    obtain ⟨h1, h2, h3, h4, h5⟩ := I.pin p hp'
    exact ⟨h1, by rw [upd_ne (far p hp)]; exact h2, h3, h4, h5⟩
  · by_cases hb : b = a
    · subst hb
      rw [upd_same] at e
      cases e
      exact ext_ok ha hz hd
    · rw [upd_ne hb] at e
      exact (I.hok b u e).stay (fun c v _ q => q) (fun c q => by rw [upd_ne (ne q)]; exact q) fun c xs q => by rw [upd_ne (ne q)]; exact q
end
/-- what the clause «except x as n: y = n» wishes of an exception of the body: n in slot i, y in slot j -/
def wKeep (K : PySem.W.Frag) (c : Value) (i j : Nat) (Wout : WX) (D : Ends) : WX := fun cls d σ H =>
  ∃ b, PySem.W.exmOne K cls c = some b ∧ (b = true → ∀ a, H a = none → D.nx (((σ.set i (some (.ref a))).set j (some (.ref a))).set i none) (upd H a (ExT cls d a))) ∧ (b = false → Wout cls d σ H)
section
variable {X : Cx} {x n : Str} {c : Value} {i j : Nat} {body suite : List Stmt} {b₀ : Stmt} {np pos pos' : Pos} {tb : WX → TS} {Wout : WX}
theorem ps_try_keep (e0 : X.ex = []) (s1 : X.stack = X.env :: X.outer) (s2 : X.env.frame = some X.env.locals) (nd : X.N.Nodup) (ni : X.N[i]? = some n) (nl : X.env.kindOf n = some .local) (nc : Names X x c) (tk : Takes X Wout)
    (bd : ∀ (W : WX) (pn : List (Addr × Obj)) (xe : Value → Shared → Prop), Takes (X.tr pn xe) W → PassesOwn (model X.prog X.w) X.A X.env xe → PSs (X.tr pn xe) body (tb W))
    (su : ∀ (a : Addr) (pn : List (Addr × Obj)) (oe : Obj), PSs (X.suite a ((a, oe) :: pn)) (b₀ :: suite) (tAsg (tVar i) (gName j))) :
    PS X (.Try body [.ExceptHandler (some (.Name x np)) (some n) (b₀ :: suite) pos'] [] [] pos) (fun D σ H => tb (wKeep X.K c i j Wout D) D σ H) := by
  refine ⟨fun pins s σ H D I h => ?_⟩
  have okX := I.ok
  have fr2 : X.A.frames = some (X.env :: X.outer) := okX.frames.trans (congrArg some s1)
  have lo2 : Loc X.env.scope n := .inl nl
  apply wpAny_Try_except
  let catching : Value → Shared → Prop := fun e sa => wpAny (model X.prog X.w) X.A (noteFrame e X.env) (fun _ sb => wpAny (model X.prog X.w) X.A (setFlight e none) (fun _ sc =>
      wpAny (model X.prog X.w) X.A (handleBy e X.env [.ExceptHandler (some (.Name x np)) (some n) (b₀ :: suite) pos']) (SP X pins D) X.xe sc) X.xe sb) X.xe sa
  have takes : Takes (X.tr (X.pn ++ pins) catching) (wKeep X.K c i j Wout D) := by
    rintro u sE ⟨a, B, sI, pinsI, σ1, H1, cls, d, rfl, Q0, gnd, upI, skyI, untr, osI, bareI, b, exm, yes, no⟩
    have Q1 : Inv X pins σ1 H1 sI := Q0.ofTry okX
    show wpAny _ X.A (noteFrame (.ref a) X.env) _ _ _
    refine Sky.land Zc.steady fr2 s2 (s1 ▸ skyI) fun hA flA upA => ?_
    have QA : Inv X pins σ1 H1 { sE with heap := hA } := Q1.landed gnd flA.1 (upI.trans upA) osI bareI
    obtain ⟨oA, vA, gA, zA, dA⟩ := flA.there
    have nofr : a ∉ frs (X.env :: X.outer) := fun hm => by
      obtain ⟨_, o2, g2, nf⟩ := flA.2.2.1.mem hm
      rw [gA] at g2
      cases g2
      exact nf _ dA
    have na1 : a ≠ X.env.locals := fun z => nofr (List.mem_filterMap.mpr ⟨X.env, List.mem_cons_self, by rw [s2, z]⟩)
    have na2 : a ∉ X.fs := fun hm => by
      obtain ⟨e, m1, m2⟩ := List.mem_filterMap.mp hm
      exact nofr (List.mem_filterMap.mpr ⟨e, List.mem_cons_of_mem _ m1, m2⟩)
    -- it is new
    have freshI : sI.heap.get? a = none := by
      cases q : sI.heap.get? a with
      | none => rfl
      | some o =>
        have z := gnd a o q (by rw [s1]; exact nofr)
        rw [flA.2.1] at z
        cases z
    have fresh0 : X.s_0.heap.get? a = none := by
      cases q : X.s_0.heap.get? a with
      | none => rfl
      | some o =>
        obtain ⟨o', z⟩ := Q1.base.there a o q (by rw [e0]; exact List.not_mem_nil)
        rw [freshI] at z
        cases z
    have farI : ∀ p ∈ X.pn ++ pins, p.1 ≠ a := fun p hp z => by
      have q := (Q1.pin p hp).1
      rw [z, freshI] at q
      cases q
    have SA := QA.suite gA dA untr na1 na2
    refine wpAny_handleBy_cons (codeAny_handlers_test ?_) (by intro q; cases q)
    have typ : PySem.W.Looks (model X.prog X.w) hA (typeOf (.ref a)) cls := fun _ _ _ _ k q => wpAny_typeOf_ref (k _ _ gA) (by rw [zA.1]; exact q)
    have mat := PySem.W.exm_one (M := model X.prog X.w) QA.kIn typ exm
    have asks : ∀ {Q : Value → Shared → Prop} {E : Value → Shared → Prop}, Q c { sE with heap := hA } → wpAny (model X.prog X.w) (X.A.mark (some (.ref a))) (eval (.Name x np) X.env) Q E { sE with heap := hA } := fun {Q E} q => by
      obtain ⟨g1, g2, g3 | ⟨g3, g4, g5⟩⟩ := nc
      · exact ld_glob (X := X.suite a ((a, oA) :: (X.pn ++ pins))) SA g1 g3 q g2
      · exact ld_blt (X := X.suite a ((a, oA) :: (X.pn ++ pins))) SA g1 g3 g4 q g5 g2
    refine asks (mat.here ?_)
    cases b with
    | false =>
      show wpAny _ X.A (handleBy (.ref a) X.env []) _ _ _
      refine wpAny_handleBy_nil ?_
      obtain ⟨_, _, _, oF, vF, T, oT, tF, gF, zF, dF, fF, rF⟩ := id flA
      unfold PySem.passOn
      refine wpAny_bind (wpAny_field gF dF fF ?_)
      rw [if_neg (by simp : ¬ ((Value.ref T == Value.none) = true))]
      have away : wpAny (model X.prog X.w) X.A (setFlight (.ref a) X.env.frame) (fun _ sG => wpAny (model X.prog X.w) X.A (throw (.ref a) : Sem Flow) (SP X pins D) X.xe sG) X.xe { sE with heap := hA } := by
        rw [s2]
        exact HandSPX.setFlight_upZ flA fun hB heldB upB => wpAny_throw (tk _ _ ⟨a, B, sI, pins, σ1, H1, cls, d, rfl, Q1, gnd, (upI.trans upA).trans upB, .inr (.inr (s1 ▸ heldB)), untr, osI, bareI, no rfl⟩)
      first
        | exact wpAny_bind away
        | exact wpAny_bind (wpAny_pure (wpAny_bind away))
    | true =>
      refine codeAny_handlers_suite_as (HandSPX.lands_againZ flA fun hB flB upB => ?_)
      have QB : Inv X pins σ1 H1 { sE with heap := hB } := Q1.landed gnd flB.1 ((upI.trans upA).trans upB) osI bareI
      obtain ⟨oB, vB, gB, zB, dB⟩ := flB.there
      have SB' := QB.suite gB dB untr na1 na2
      refine store_ok (X := X.suite a ((a, oB) :: (X.pn ++ pins))) (v := .ref a) SB' nd ni lo2 rfl (fun sC SC => ?_) (.inr nl)
      refine wpAny_mono ((su a (X.pn ++ pins) oB).run [] sC _ H1 { nx := fun σ2 H2 => σ2 = (σ1.set i (some (.ref a))).set j (some (.ref a)) ∧ H2 = H1, rt := fun _ _ => False } SC ⟨.ref a, List.getElem?_set_self (by rw [Q1.len]; exact (List.getElem?_eq_some_iff.mp ni).1), rfl, rfl⟩) (fun f sD fl => ?_) (fun _ _ z => False.elim z)
      cases f with
      | next =>
        obtain ⟨σ2, H2, SD, e1, e2⟩ := fl
        subst e1 e2
        have pinned : Inv X ((a, oB) :: pins) ((σ1.set i (some (.ref a))).set j (some (.ref a))) H2 sD :=
          ⟨okX, SD.os, SD.bare, SD.base, SD.loc, SD.cell, SD.free, SD.freeC, fun p hp => by
            rcases List.mem_append.mp hp with z | z
            · exact SD.pin p (List.mem_append_left _ (List.mem_cons_of_mem _ (List.mem_append_left _ z)))
            · rcases List.mem_cons.mp z with z | z
              · exact SD.pin p (List.mem_append_left _ (by rw [z]; exact List.mem_cons_self))
              · exact SD.pin p (List.mem_append_left _ (List.mem_cons_of_mem _ (List.mem_append_right _ z))), SD.hok, SD.len⟩
        exact gone_ok pinned nd ni nl fun sE2 QE => ⟨_, _, track QE zB dB fresh0 farI, yes rfl a untr⟩
      | brk => obtain ⟨_, _, _, z⟩ := fl; exact z.elim
      | cont => obtain ⟨_, _, _, z⟩ := fl; exact z.elim
      | ret u => obtain ⟨_, _, _, _, _, z⟩ := fl; exact z.elim
  refine wpAny_mono ((bd _ (X.pn ++ pins) catching takes PassesOwn.looking).run [] s σ H D (I.toTry _) h) (fun f sF fl => ?_) (fun _ _ z => z)
  cases f with
  | next => obtain ⟨σ2, H2, Q2, z⟩ := fl; exact wpAny_execs_nil ⟨σ2, H2, Q2.ofTry okX, z⟩
  | brk => obtain ⟨σ2, H2, Q2, z⟩ := fl; exact ⟨σ2, H2, Q2.ofTry okX, z⟩
  | cont => obtain ⟨σ2, H2, Q2, z⟩ := fl; exact ⟨σ2, H2, Q2.ofTry okX, z⟩
  | ret u => obtain ⟨v, σ2, H2, Q2, r, z⟩ := fl; exact ⟨v, σ2, H2, Q2.ofTry okX, r, z⟩
end

/-! ### try on the plain side -/
abbrev Catch := Str → Option Bool
def sTryK (ca : Catch) (i j : Nat) (b : MS) : MS := fun env h => match b env h with
  | some (.ex x env', h') => match ca x.name with
    | some true => some (.nx (((env'.set i none).set j (some (.exc x.name x.fld x.val))).set i none), h')
    | some false => some (.ex x env', h')
    | none => none
  | r => r
def noxS (b : MS) : MS := fun env h => match b env h with
  | some (.ex _ _, _) => none
  | r => r
def sTryO (ca : Catch) (b sb : MS) : MS := fun env h => match b env h with
  | some (.ex x env', h') => match ca x.name with
    | some true => noxS sb env' h'
    | some false => some (.ex x env', h')
    | none => none
  | r => r
theorem RX.rv {K : PySem.W.Frag} {mg : Str → Option Value} {φ : List Addr} {H : Hp} {x : Exc} {cls : Value} {d : Option Addr} {a : Addr} (r : RX K mg φ H x cls d) (ha : H a = none) : RV K φ (upd H a (ExT cls d a)) (.exc x.name x.fld x.val) (.ref a) := by
  obtain ⟨rfl, ⟨e, rfl⟩ | ⟨dd, y, u, e, rfl, hd, ry⟩⟩ := r
  · rw [e]
    exact .exc0 upd_same
  · rw [e]
    refine .exc1 upd_same ?_ (ry.ev (ev_new0 ha))
    rw [upd_ne (ne_of_none hd ha)]
    exact hd
section
variable {X : Cx} {x n : Str} {c : Value} {i j : Nat} {body suite : List Stmt} {b₀ : Stmt} {np pos pos' : Pos} {tb : WX → TS} {mb : MS} {W : WX} {ca : Catch}
/-- an exception's way that is always open: to take the plain part of a try's body -/
def lookOn (X : Cx) : Value → Shared → Prop := fun e sa => wpAny (model X.prog X.w) X.A (noteFrame e X.env) (fun _ sb => wpAny (model X.prog X.w) X.A (setFlight e none) (fun _ _ => True) (fun _ _ => True) sb) (fun _ _ => True) sa
theorem lookOn_takes (s1 : X.stack = X.env :: X.outer) (s2 : X.env.frame = some X.env.locals) (W : WX) : Takes (X.tr [] (lookOn X)) W := by
  rintro u sE ⟨a, B, sI, pinsI, σ1, H1, cls, d, rfl, Q0, gnd, upI, skyI, untr, osI, bareI, w⟩
  have fr2 : X.A.frames = some (X.env :: X.outer) := Q0.ok.frames.trans (congrArg some s1)
  show wpAny _ X.A (noteFrame (.ref a) X.env) _ _ _
  exact Sky.land Zc.steady fr2 s2 (s1 ▸ skyI) fun _ _ _ => trivial
theorem ss_tryK (e0 : X.ex = []) (s1 : X.stack = X.env :: X.outer) (s2 : X.env.frame = some X.env.locals) (nd : X.N.Nodup) (ni : X.N[i]? = some n) (nl : X.env.kindOf n = some .local) (nc : Names X x c) (tk : Takes X W)
    (hca : ∀ z b, ca z = some b → PySem.W.exmOne X.K (.ref (He.ga X.K z)) c = some b)
    (bd : ∀ (W : WX) (pn : List (Addr × Obj)) (xe : Value → Shared → Prop), Takes (X.tr pn xe) W → PassesOwn (model X.prog X.w) X.A X.env xe → SB (X.tr pn xe) W body (tb W) mb)
    (su : ∀ (a : Addr) (pn : List (Addr × Obj)) (oe : Obj), PSs (X.suite a ((a, oe) :: pn)) (b₀ :: suite) (tAsg (tVar i) (gName j))) :
    SS X W (.Try body [.ExceptHandler (some (.Name x np)) (some n) (b₀ :: suite) pos'] [] [] pos) (fun D σ H => tb (wKeep X.K c i j W D) D σ H) (sTryK ca i j mb) := by
  refine ⟨ps_try_keep e0 s1 s2 nd ni nl nc tk (fun W pn xe t1 t2 => (bd W pn xe t1 t2).pe) su, fun σ H D φ h env re rh p => ?_⟩
  refine (bd (wKeep X.K c i j W D) [] (lookOn X) (lookOn_takes s1 s2 _) PassesOwn.looking).sim σ H D φ h env re rh ?_
  unfold sTryK at p
  cases hb : mb env h with
  | none => rw [hb] at p; exact p.elim
  | some z =>
    obtain ⟨z, h'⟩ := z
    rw [hb] at p
    cases z with
    | nx _ => exact p
    | rt _ => exact p
    | bk _ => exact p
    | ct _ => exact p
    | ex z env' =>
      intro φ1 H1 σ1 cls d e1 rh1 re1 rx1
      simp only [] at p
      have ecls : cls = .ref (He.ga X.K z.name) := rx1.1
      cases hc : ca z.name with
      | none => rw [hc] at p; exact p.elim
      | some b =>
        rw [hc] at p
        refine ⟨b, by rw [ecls]; exact hca _ _ hc, fun hb1 a ha => ?_, fun hb1 => ?_⟩
        · subst hb1
          have e2 : Ev φ1 H1 φ1 (upd H1 a (ExT cls d a)) := ev_new0 ha
          exact p φ1 _ _ (e1.trans e2) (rh1.beside ha) ((((re1.ev e2).unset i _).set (rx1.rv ha) j).unset i none)
        · subst hb1
          exact p φ1 H1 σ1 cls d e1 rh1 re1 rx1
theorem ss_tryO {ts : Addr → Value → Option Addr → TS} {ms : MS} (s1 : X.stack = X.env :: X.outer) (s2 : X.env.frame = some X.env.locals) (nc : Names X x c) (tk : Takes X W)
    (hca : ∀ z b, ca z = some b → PySem.W.exmOne X.K (.ref (He.ga X.K z)) c = some b)
    (bd : ∀ (W : WX) (pn : List (Addr × Obj)) (xe : Value → Shared → Prop), Takes (X.tr pn xe) W → PassesOwn (model X.prog X.w) X.A X.env xe → SB (X.tr pn xe) W body (tb W) mb)
    (su : ∀ (a : Addr) (oe : Obj) (cls : Value) (d : Option Addr) (pn : List (Addr × Obj)), SB (X.suite a ((a, oe) :: pn)) W0 (b₀ :: suite) (ts a cls d) ms) :
    SS X W (.Try body [.ExceptHandler (some (.Name x np)) none (b₀ :: suite) pos'] [] [] pos) (fun D σ H => tb (wOnly X.K c ts W D) D σ H) (sTryO ca mb ms) := by
  refine ⟨ps_try_only s1 s2 nc tk (fun W pn xe t1 t2 => (bd W pn xe t1 t2).pe) (fun a oe cls d pn _ _ => (su a oe cls d pn).pe), fun σ H D φ h env re rh p => ?_⟩
  refine (bd (wOnly X.K c ts W D) [] (lookOn X) (lookOn_takes s1 s2 _) PassesOwn.looking).sim σ H D φ h env re rh ?_
  unfold sTryO at p
  cases hb : mb env h with
  | none => rw [hb] at p; exact p.elim
  | some z =>
    obtain ⟨z, h'⟩ := z
    rw [hb] at p
    cases z with
    | nx _ => exact p
    | rt _ => exact p
    | bk _ => exact p
    | ct _ => exact p
    | ex z env' =>
      intro φ1 H1 σ1 cls d e1 rh1 re1 rx1
      simp only [] at p
      have ecls : cls = .ref (He.ga X.K z.name) := rx1.1
      cases hc : ca z.name with
      | none => rw [hc] at p; exact p.elim
      | some b =>
        rw [hc] at p
        refine ⟨b, by rw [ecls]; exact hca _ _ hc, fun hb1 a ha => ?_, fun hb1 => ?_⟩
        · subst hb1
          refine (su a { cls := .none, data := .fields #[] } cls d []).sim σ1 H1 D φ1 h' env' re1 rh1 ?_
          simp only [] at p
          have p2 := p.ev e1
          unfold noxS at p2
          cases hs : ms env' h' with
          | none => rw [hs] at p2; exact p2.elim
          | some q =>
            obtain ⟨q, h2⟩ := q
            rw [hs] at p2
            cases q with
            | ex q e => exact p2.elim
            | _ => exact p2
        · subst hb1
          exact p φ1 H1 σ1 cls d e1 rh1 re1 rx1
end

/-! ### isinstance(e, C), e an exception held by a name; e.f -/
/-- what the top says of the class x's exceptions (to be decided) -/
def excB (K : PySem.W.Frag) (x : Str) : Bool :=
  let D := He.ga K x
  decide (PySem.W.findIn K (.ref D) "__getattribute__" = some (some (.builtin "BaseException.__getattribute__"))) && (decide (PySem.W.findIn K (.ref D) "__getattr__" = some none) && (decide (PySem.W.subIn K (.ref D) (.type "BaseException") = some true) && (PySem.W.hasDictIn K D &&
  (decide (PySem.W.findIn K (.ref D) "__class__" = some (some (.builtin "object.__class__"))) && (decide (PySem.W.specialIn K (.builtin "object.__class__") "__get__" = some (some (.builtin "getset_descriptor.__get__"))) && (decide (PySem.W.takesIn K (.builtin "object.__class__") = some true) && decide (PySem.W.mroIn K D (.type "object") = some true)))))))
theorem excB_ok {K : PySem.W.Frag} {x : Str} (h : excB K x = true) : ExcC K (He.ga K x) := by
  unfold excB at h
  simp only [Bool.and_eq_true, decide_eq_true_eq] at h
  obtain ⟨h1, h2, h3, h4, h5, h6, h7, h8⟩ := h
  exact ⟨h1, h2, h3, h4, h5, h6, h7, h8⟩
/-- the answers of isinstance, and of an except clause, for the class x against c -/
def kitX (K : PySem.W.Frag) (x : Str) (c : Value) (b : Bool) : Bool := decide (PySem.W.kitOne K (.ref (He.ga K x)) c = some b)
def catX (K : PySem.W.Frag) (x : Str) (c : Value) (b : Bool) : Bool := decide (PySem.W.exmOne K (.ref (He.ga K x)) c = some b)
abbrev Kit := Str → Option Bool
def isiE (ki : Kit) : IV → IH → Option (IV × IH) := fun x h => match x with
  | .exc n _ [] => match ki n with
    | some b => some (.bl b, h)
    | none => none
  | _ => none
def rIsX (K : PySem.W.Frag) : List V → Hp → VK → Prop := fun xs H Q => ∃ (a D : Addr) (c : V) (cv : Value) (b : Bool), xs = [.ref a, c] ∧ H a = some (ExT (.ref D) none a) ∧ ExcC K D ∧ (∀ u, RelV c u → u = cv) ∧ PySem.W.kitOne K (.ref D) cv = some b ∧ Q (.bl b) H
theorem call_isX {X : Cx} : CallR X (.builtin "isinstance") (rIsX X.K) := by
  intro pins s σ H xs us Q I r h
  obtain ⟨a, D, c, cv, b, rfl, ea, C, hc, hk, q⟩ := h
  obtain ⟨u1, u2, rfl, r1, r2⟩ := vals2 r
  obtain rfl : u1 = Value.ref a := r1
  have e2 := hc _ r2
  subst e2
  have ob : ObjOk X.prog X.w H s.heap a (ExT (.ref D) none a) := I.hok a _ ea
  obtain ⟨⟨oe, vs, hg, ⟨hz1, hz2⟩, hd⟩, _⟩ := ob
  have J : PySem.W.InstAt s.heap a oe D none := by
    obtain ⟨oc, od, oda, osl⟩ := oe
    dsimp only at hz1 hz2 hd
    subst hz1 hz2 hd
    exact ⟨hg, rfl, rfl, trivial⟩
  exact PySem.W.kia_one (PySem.W.handS_kitx_exc C.hg C.hk C.hs C.hd C.ha C.hn C.ht C.hm) I.kIn J hk (fun z => nomatch z) fun tk => ⟨.bl b, H, I.tok tk, rfl, q⟩
def caL (l : List (Str × Bool)) : Str → Option Bool := fun z => l.lookup z
def catAll (K : PySem.W.Frag) (c : Value) (l : List (Str × Bool)) : Bool := l.all fun q => catX K q.1 c q.2
def kitAll (K : PySem.W.Frag) (c : Value) (l : List (Str × Bool)) : Bool := l.all fun q => excB K q.1 && kitX K q.1 c q.2
theorem lookup_mem' {z : Str} {b : Bool} : ∀ {l : List (Str × Bool)}, l.lookup z = some b → (z, b) ∈ l
  | [], h => by cases h
  | (y, c) :: r, h => by
    rw [List.lookup_cons] at h
    split at h
    · rename_i e
      cases h
      rw [beq_iff_eq.mp e]
      exact List.mem_cons_self
    · exact List.mem_cons_of_mem _ (lookup_mem' h)
theorem catAll_ok {K : PySem.W.Frag} {c : Value} {l : List (Str × Bool)} (h : catAll K c l = true) : ∀ z b, caL l z = some b → PySem.W.exmOne K (.ref (He.ga K z)) c = some b := fun z b e =>
  of_decide_eq_true (List.all_eq_true.mp h (z, b) (lookup_mem' e))
theorem kitAll_ok {K : PySem.W.Frag} {c : Value} {l : List (Str × Bool)} (h : kitAll K c l = true) : ∀ z b, caL l z = some b → ExcC K (He.ga K z) ∧ PySem.W.kitOne K (.ref (He.ga K z)) c = some b := fun z b e => by
  have q := List.all_eq_true.mp h (z, b) (lookup_mem' e)
  rw [Bool.and_eq_true] at q
  exact ⟨excB_ok q.1, of_decide_eq_true q.2⟩
section
variable {X : Cx} {W : WX}
theorem se_isX (K : PySem.W.Frag) {c : V} {cv : Value} {ki : Kit} {x : Str} {a : Expr} {ta : TE} {ma : Env → M IV} {p p2 pos : Pos} (ha : SE X W a ta ma) (hc : ∀ u, RelV c u → u = cv)
    (hk : ∀ n b, ki n = some b → ExcC K (He.ga K n) ∧ PySem.W.kitOne K (.ref (He.ga K n)) cv = some b) (pb : PE X (.Name x p2) (tC c))
    (pe : PE X (.Name x p2) (tC c) → PE X a ta → PE X (.Call (.Name "isinstance" p) [a, .Name x p2] [] pos) (tCB (rIsX X.K) (tCons ta (tCons (tC c) tNil)))) (hK : X.K = K := by rfl) :
    SE X W (.Call (.Name "isinstance" p) [a, .Name x p2] [] pos) (tCB (rIsX K) (tCons ta (tCons (tC c) tNil))) (eUn (isiE ki) ma) := by
  subst hK
  refine ⟨pe pb ha.pe, ?_⟩
  intro σ H Q φ h env re rh p
  refine ha.sim σ H _ φ h env re rh (p.bnd (Ev.refl _ _) fun φ1 H1 y v h1 e1 rh1 r1 p1 => ?_)
  have p2 := PostO.of p1 e1
  unfold isiE at p2
  cases r1 with
  | exc0 ea =>
    simp only [] at p2
    split at p2
    · rename_i b hb
      obtain ⟨C, k⟩ := hk _ _ hb
      exact ⟨_, _, c, cv, b, rfl, ea, C, hc, k, p2.give rh1 (.bl _)⟩
    · exact p2.elim
  | _ => exact p2.elim
end
/-! the plain side -/
section
variable {env : Env} {h : IH} {N B C : Env → IH → Prop} {R : IV → IH → Prop}
/-- where an exception may come, too -/
def WX5 (r : Option (Flw × IH)) (N : Env → IH → Prop) (R : IV → IH → Prop) (B C : Env → IH → Prop) (E : Exc → Env → IH → Prop) : Prop := match r with
  | some (.nx e, h) => N e h
  | some (.rt v, h) => R v h
  | some (.bk e, h) => B e h
  | some (.ct e, h) => C e h
  | some (.ex x e, h) => E x e h
  | none => False
theorem WS_tryK {ca : Catch} {i j : Nat} {b : MS} : WS (sTryK ca i j b env h) N R B C ↔ WX5 (b env h) N R B C (fun x e h' => match ca x.name with | some true => N (((e.set i none).set j (some (.exc x.name x.fld x.val))).set i none) h' | _ => False) := by
  unfold sTryK
  cases b env h with
  | none => exact Iff.rfl
  | some z =>
    obtain ⟨z, h'⟩ := z
    cases z <;> first | exact Iff.rfl | skip
    rename_i x e
    simp only [WX5]
    cases ca x.name with
    | none => exact Iff.rfl
    | some b => cases b <;> exact Iff.rfl
theorem WX5_bndS {α : Type} {m : Env → M α} {f : α → MS} {E : Exc → Env → IH → Prop} : WX5 (bndS m f env h) N R B C E ↔ match m env h with | some (.ok a, h') => WX5 (f a env h') N R B C E | some (.error x, h') => E x env h' | none => False := by
  unfold bndS
  cases m env h with
  | none => exact Iff.rfl
  | some z => obtain ⟨z, h'⟩ := z; cases z <;> exact Iff.rfl
end
end L2.Sh

namespace L2.Sh
open PySem PySem.Spec PyProof.Rows L2
def maxO : O1 := fun xs h => match xs with
  | [.int i, .int j] => some (.int (if j > i then j else i), h)
  | _ => none
def minO : O1 := fun xs h => match xs with
  | [.int i, .int j] => some (.int (if j < i then j else i), h)
  | _ => none
def rMax2 : List V → Hp → VK → Prop := fun xs H Q => ∃ i j, xs = [.int i, .int j] ∧ Q (.int (if j > i then j else i)) H
def rMin2 : List V → Hp → VK → Prop := fun xs H Q => ∃ i j, xs = [.int i, .int j] ∧ Q (.int (if j < i then j else i)) H
def rngC (lo c : Int) (n : Nat) : IIt := ⟨fun i _ => some (if i < n then some (.int (lo + (i : Nat) * c)) else none)⟩
def iR3 (m : Env → M (List IV)) : Env → M IIt := fun env => bnd (m env) fun xs h => match xs with
  | [.int i, .int j, .int c] => if c ≠ 0 ∧ c.natAbs < 1073741824 ∧ Builtin.Range.small i j c = true ∧ 0 ≤ Builtin.Range.rangeSize i j c then some (.ok (rngC i c (Builtin.Range.rangeSize i j c).toNat), h) else none
  | _ => none
/-- a target of several names, from a tuple or a list -/
def gTL (n : Nat) (b : MGs) : MG := fun x env h => match x with
  | .tup xs => if xs.length = n then b xs env h else none
  | .ref k => match h[k]? with
    | some (.lst xs) => if xs.length = n then b xs env h else none
    | _ => none
  | _ => none
def gTupL (K : PySem.W.Frag) (n : Nat) (t : TGs) : TG := fun v σ H Q => gTup K n t v σ H Q ∨ gLst K n t v σ H Q
section
variable {X : Cx} {W : WX}
theorem sc_max (hc : X.calm = true) : SCall X (.builtin "max") rMax2 maxO := ⟨call_max2 hc, by
  intro H Q φ h xs vs rh rs p
  unfold maxO at p
  split at p
  · cases rs with
    | cons r1 r2 =>
      cases r2 with
      | cons r2 r3 => cases r1; cases r2; cases r3; exact ⟨_, _, rfl, p.give rh (.int _)⟩
  · exact p.elim⟩
theorem sc_min (hc : X.calm = true) : SCall X (.builtin "min") rMin2 minO := ⟨call_min2 hc, by
  intro H Q φ h xs vs rh rs p
  unfold minO at p
  split at p
  · cases rs with
    | cons r1 r2 =>
      cases r2 with
      | cons r2 r3 => cases r1; cases r2; cases r3; exact ⟨_, _, rfl, p.give rh (.int _)⟩
  · exact p.elim⟩
theorem jrel_rngC {K : PySem.W.Frag} {φ : List Addr} {H : Hp} (lo c : Int) (n : Nat) : JRel K φ H (rngC lo c n) (Itc lo c n) := by
  intro i φ1 H1 h1 e1 rh1
  unfold rngC
  refine ⟨fun hn => ?_, fun x hn => ?_⟩
  · by_cases hi : i < n
    · simp only [if_pos hi] at hn; cases hn
    · exact Nat.le_of_not_lt hi
  · by_cases hi : i < n
    · simp only [if_pos hi] at hn
      cases hn
      refine ⟨hi, fun u H2 y => ?_⟩
      obtain ⟨rfl, rfl⟩ := y
      exact ⟨Ev.refl _ _, rh1, .int _⟩
    · simp only [if_neg hi] at hn; cases hn
theorem si_r3 {tg a b c : Expr} {ta : TA} {m : Env → M (List IV)} {p pos : Pos} (hg : Gl X "range") (hm : X.mg "range" = none) (ha : SA X W [a, b, c] ta m)
    (hs : starEach [a, b, c] X.env = (false, eval a X.env) :: starEach [b, c] X.env := by rfl) (hpl : (backTo pos (starEach [b, c] X.env)).any (·.1) = false := by rfl) : SI X W tg (.Call (.Name "range" p) [a, b, c] [] pos) (iRng3 ta) (iR3 m) := by
  refine ⟨pi_range3 hg hm ha.pe hs hpl, fun σ H R φ h env re rh p => ?_⟩
  refine ha.sim σ H _ φ h env re rh (p.bnd (Ev.refl _ _) fun φ1 H1 xs vs h1 e1 rh1 r1 p1 => ?_)
  split at p1
  · cases r1 with
    | cons a r1 =>
      cases a
      cases r1 with
      | cons a r1 =>
        cases a
        cases r1 with
        | cons a r1 =>
          cases a; cases r1
          split at p1
          · rename_i hj
            exact ⟨_, _, _, _, rfl, ⟨hj.1, hj.2.1, hj.2.2.1, (Int.toNat_of_nonneg hj.2.2.2).symm⟩, p1 φ1 H1 _ e1 rh1 (jrel_rngC _ _ _)⟩
          · exact p1.elim
  · exact p1.elim
theorem PG.or {tg : Expr} {g1 g2 : TG} (a : PG X tg g1) (b : PG X tg g2) : PG X tg (fun v σ H Q => g1 v σ H Q ∨ g2 v σ H Q) := ⟨fun pins s σ H v u Q I r h => h.elim (a.run pins s σ H v u Q I r) (b.run pins s σ H v u Q I r)⟩
theorem sg_tupLK (K : PySem.W.Frag) {es : List Expr} {k : Nat} {t : TGs} {m : MGs} {pos : Pos} (hc : X.calm = true) (h : SGs X es t m) (p1 : PG X (.Tuple es k pos) (gTup X.K es.length t)) (p2 : PG X (.Tuple es k pos) (gLst X.K es.length t)) (hK : X.K = K := by rfl) : SG X (.Tuple es k pos) (gTupL K es.length t) (gTL es.length m) := by
  subst hK
  refine ⟨PG.or p1 p2, fun σ H Q φ hh env x v re rh r p => ?_⟩
  cases r with
  | tup hs rs =>
    rename_i a xs vs
    unfold gTL at p
    simp only [] at p
    by_cases hl : xs.length = es.length
    · rw [if_pos hl] at p
      exact .inl ⟨a, vs, rfl, hs, by rw [← rs.length]; exact hl, h.sim σ H Q φ hh env xs vs re rh rs p⟩
    · rw [if_neg hl] at p; exact p.elim
  | ref hn =>
    obtain ⟨o, eo, ro⟩ := rh.ob hn
    unfold gTL at p
    simp only [eo] at p
    cases o with
    | lst xs =>
      obtain ⟨vs, q, rs⟩ := ro
      simp only [] at p
      by_cases hl : xs.length = es.length
      · rw [if_pos hl] at p
        exact .inr ⟨_, vs, rfl, .inl (.inl q), by rw [← rs.length]; exact hl, h.sim σ H Q φ hh env xs vs re rh rs p⟩
      · rw [if_neg hl] at p; exact p.elim
    | dK _ => exact p.elim
    | dT _ => exact p.elim
  | _ => exact p.elim
theorem gin_tupL {K : PySem.W.Frag} {n : Nat} {u : TGs} {vs : List Nat} (b : GsIn u vs) : GIn (gTupL K n u) vs := fun v σ H Q q => by
  rcases q with q | q
  · exact .inl (gin_tup b v σ H Q q)
  · obtain ⟨a, xs, e1, e2, e3, q⟩ := q
    exact .inr ⟨a, xs, e1, e2, e3, b _ _ _ _ q⟩
theorem mono_tupL {K : PySem.W.Frag} {n : Nat} {u : TGs} (b : ∀ v σ H Q Q', (∀ s h, Q s h → Q' s h) → u v σ H Q → u v σ H Q') : ∀ v σ H Q Q', (∀ s h, Q s h → Q' s h) → gTupL K n u v σ H Q → gTupL K n u v σ H Q' := fun v σ H Q Q' f q => by
  rcases q with q | q
  · exact .inl (mono_tup b v σ H Q Q' f q)
  · obtain ⟨a, xs, e1, e2, e3, q⟩ := q
    exact .inr ⟨a, xs, e1, e2, e3, b _ _ _ _ _ f q⟩
end
section
variable {env : Env} {h : IH} {i j : Int}
@[simp] theorem maxO_int : maxO [.int i, .int j] h = some (.int (if j > i then j else i), h) := rfl
@[simp] theorem minO_int : minO [.int i, .int j] h = some (.int (if j < i then j else i), h) := rfl
@[simp] theorem WE_iR3 {m : Env → M (List IV)} {Q : IIt → IH → Prop} : WE (iR3 m env h) Q ↔ WE (m env h) fun xs h' => match xs with | [.int i, .int j, .int c] => if c ≠ 0 ∧ c.natAbs < 1073741824 ∧ Builtin.Range.small i j c = true ∧ 0 ≤ Builtin.Range.rangeSize i j c then Q (rngC i c (Builtin.Range.rangeSize i j c).toNat) h' else False | _ => False := by
  simp only [iR3, WE_bnd]
  constructor <;> intro w <;> refine w.mono fun x h1 q => ?_ <;> split at q <;> first | exact q | exact q.elim | (simpa only [WE_ite, WE_ok, WE_none] using q)
end
end L2.Sh

namespace L2.Sh.Q
open PySem PySem.Spec PyProof.Rows L2 L2.Sh
def topS (i : Nat) : Stmt := PySem.Challenge.pw_truthgrades_k02_fractions_reckoned.main.body.getD i (.Pass ⟨0, 0, 0, 0⟩)
abbrev s__law_pool : Stmt := topS 22
def b__law_pool : MS := sSeq (sAsg 1 (eC (.int 0)))
  (sSeq (sIf (tOrM (tyB (eOp (cmpI fun i j => decide (i < j)) (eVar 0) (eC (.int 0)))) (tyB (eOp (cmpI fun i j => decide (j ≤ i)) (eVar 0) (eOp powI (eC (.int 10)) (eC (.int 18)))))) (sAsg 1 (eCB absO (aCons (eVar 0) (aNil)))) (sNil))
  (sSeq (sAsg 2 (eOp modI (eVar 0) (eC (.int 1000000403))))
  (sRet (eLst (aCons (eVar 1) (aCons (eVar 2) (aCons (eOp modI (eOp addO (eOp mulI (eVar 2) (eC (.int 48271))) (eC (.int 12345))) (eC (.int 1000000513))) (aNil))))))))
def f__law_pool : Fn := runF 3 b__law_pool
abbrev s__law_draw : Stmt := topS 23
def b__law_draw : MS := sSeq (sIf (tyB (eOp (cmpI fun i j => decide (j < i)) (eOp ixQ (eVar 0) (eC (.int 0))) (eC (.int 0)))) (sSeq (sAsg 2 (eOp modI (eOp ixQ (eVar 0) (eC (.int 0))) (eVar 1)))
  (sSeq (sSub putL (eVar 0) (eC (.int 0)) (eOp divI (eOp ixQ (eVar 0) (eC (.int 0))) (eVar 1)))
  (sRet (eVar 2)))) (sNil))
  (sSeq (sSub putL (eVar 0) (eC (.int 1)) (eOp modI (eOp addO (eOp addO (eOp mulI (eOp ixQ (eVar 0) (eC (.int 1))) (eC (.int 40014))) (eOp ixQ (eVar 0) (eC (.int 2)))) (eC (.int 7))) (eC (.int 1000000403))))
  (sSeq (sSub putL (eVar 0) (eC (.int 2)) (eOp modI (eOp addO (eOp addO (eOp mulI (eOp ixQ (eVar 0) (eC (.int 2))) (eC (.int 40692))) (eOp modI (eOp mulI (eOp ixQ (eVar 0) (eC (.int 1))) (eOp ixQ (eVar 0) (eC (.int 1)))) (eC (.int 65537)))) (eC (.int 1))) (eC (.int 1000000513))))
  (sRet (eOp modI (eOp divI (eOp addO (eOp ixQ (eVar 0) (eC (.int 1))) (eOp mulI (eC (.int 7)) (eOp ixQ (eVar 0) (eC (.int 2))))) (eC (.int 16))) (eVar 1)))))
def f__law_draw : Fn := runF 3 b__law_draw
abbrev s__law_size : Stmt := topS 25
def bd__law_size_0 : MS := sAsg 2 (eOp addO (eOp mulI (eVar 2) (eC (.int 10000))) (eCall f__law_draw (aCons (eVar 0) (aCons (eC (.int 10000)) (aNil)))))
def b__law_size : MS := sSeq (sAsg 1 (eCall f__law_draw (aCons (eVar 0) (aCons (eC (.int 4)) (aNil)))))
  (sSeq (sIf (tyB (eOp (cmpI fun i j => decide (i < j)) (eVar 1) (eC (.int 2)))) (sRet (eOp subI (eCall f__law_draw (aCons (eVar 0) (aCons (eC (.int 13)) (aNil)))) (eC (.int 6)))) (sNil))
  (sSeq (sIf (tyB (eOp eqO (eVar 1) (eC (.int 2)))) (sRet (eOp subI (eCall f__law_draw (aCons (eVar 0) (aCons (eC (.int 2001)) (aNil)))) (eC (.int 1000)))) (sNil))
  (sSeq (sAsg 2 (eC (.int 0)))
  (sSeq (sFor FU (iR1 (aCons (eOp addO (eC (.int 1)) (eCall f__law_draw (aCons (eVar 0) (aCons (eC (.int 25)) (aNil))))) (aNil))) (gN 3) (bd__law_size_0))
  (sRet (eOp mulI (eVar 2) (eOp subI (eC (.int 1)) (eOp mulI (eC (.int 2)) (eCall f__law_draw (aCons (eVar 0) (aCons (eC (.int 2)) (aNil))))))))))))
def f__law_size : Fn := runF 4 b__law_size
abbrev s__law_gcd : Stmt := topS 24
def b__law_gcd : MS := sSeq (whileN (tyB (eOp neO (eVar 1) (eC (.int 0)))) (sPar 0 1 (aCons (eVar 1) (aCons (eOp modI (eVar 0) (eVar 1)) (aNil)))) FU)
  (sRet (eCB absO (aCons (eVar 0) (aNil))))
def f__law_gcd : Fn := runF 2 b__law_gcd
abbrev s__law_fraction : Stmt := topS 28
def b__law_fraction : MS := sSeq (sAsg 1 (eCall f__law_pool (aCons (eVar 0) (aNil))))
  (sSeq (sAsg 2 (eCall f__law_size (aCons (eVar 1) (aNil))))
  (sSeq (sAsg 3 (eCB maxO (aCons (eC (.int 1)) (aCons (eCB absO (aCons (eCall f__law_size (aCons (eVar 1) (aNil))) (aNil))) (aNil)))))
  (sSeq (sAsg 4 (eCall f__law_gcd (aCons (eVar 2) (aCons (eVar 3) (aNil)))))
  (sRet (eTup (aCons (eOp divI (eVar 2) (eVar 4)) (aCons (eOp divI (eVar 3) (eVar 4)) (aNil))))))))
def f__law_fraction : Fn := runF 5 b__law_fraction
abbrev s__law_cell : Stmt := topS 21
def b__law_cell : MS := sRet (eOp ixQ (eOp addO (sliceQ slO (eVar 0) (oS (eVar 1)) (oS (eOp addO (eVar 1) (eC (.int 1))))) (eLst (aCons (eC (.int 0)) (aNil)))) (eC (.int 0)))
def f__law_cell : Fn := runF 2 b__law_cell
abbrev s_below : Stmt := topS 19
def b_below : MS := sRet (eOp (cmpI fun i j => decide (i < j)) (eOp mulI (eOp ixQ (eVar 0) (eC (.int 0))) (eOp ixQ (eVar 1) (eC (.int 1)))) (eOp mulI (eOp ixQ (eVar 1) (eC (.int 0))) (eOp ixQ (eVar 0) (eC (.int 1)))))
def f_below : Fn := runF 2 b_below
abbrev s__law_is_fraction : Stmt := topS 26
def b__law_is_fraction : MS := sSeq (sIf (tOrM (tNotM (tTru (eUn (isiO "tuple") (eVar 0)))) (tyB (eOp neO (eCB lenO (aCons (eVar 0) (aNil))) (eC (.int 2))))) (sRet (eC (.bl false))) (sNil))
  (sSeq (sIf (tNotM (tTru (eCB (allO fun bs => bs.all id) (aCons (eComp [1] FU (iSeq (eVar 0)) (gN 1) (cYes) (eAnd (eUn (isiO "int") (eVar 1)) (eNot (eUn (isiO "bool") (eVar 1))))) (aNil))))) (sRet (eC (.bl false))) (sNil))
  (sRet (eAnd (eOp (cmpI fun i j => decide (j < i)) (eOp ixQ (eVar 0) (eC (.int 1))) (eC (.int 0))) (eOp eqO (eCall f__law_gcd (aCons (eOp ixQ (eVar 0) (eC (.int 0))) (aCons (eOp ixQ (eVar 0) (eC (.int 1))) (aNil)))) (eC (.int 1))))))
def f__law_is_fraction : Fn := runF 2 b__law_is_fraction
abbrev s__law_worth : Stmt := topS 29
def b__law_worth : MS := sRet (eAnd (eCall f__law_is_fraction (aCons (eVar 0) (aNil))) (eOp eqO (eOp mulI (eOp ixQ (eVar 0) (eC (.int 0))) (eVar 2)) (eOp mulI (eVar 1) (eOp ixQ (eVar 0) (eC (.int 1))))))
def f__law_worth : Fn := runF 3 b__law_worth
abbrev s_share_of : Stmt := topS 13
def b_share_of : MS := sSeq (whileN (tyB (eOp neO (eVar 1) (eC (.int 0)))) (sPar 0 1 (aCons (eVar 1) (aCons (eOp modI (eVar 0) (eVar 1)) (aNil)))) FU)
  (sRet (eCB absO (aCons (eVar 0) (aNil))))
def f_share_of : Fn := runF 2 b_share_of
abbrev s_fraction : Stmt := topS 14
def b_fraction : MS := sSeq (sIf (tyB (eOp eqO (eVar 1) (eC (.int 0)))) (sRaise "NoFraction") (sNil))
  (sSeq (sAsg 2 (eCall f_share_of (aCons (eVar 0) (aCons (eVar 1) (aNil)))))
  (sSeq (sIf (tyB (eOp (cmpI fun i j => decide (i < j)) (eVar 1) (eC (.int 0)))) (sAsg 2 (eOp subI (eC (.int 0)) (eVar 2))) (sNil))
  (sRet (eTup (aCons (eOp divI (eVar 0) (eVar 2)) (aCons (eOp divI (eVar 1) (eVar 2)) (aNil)))))))
def f_fraction : Fn := runF 3 b_fraction
abbrev s_over : Stmt := topS 18
def b_over : MS := sRet (eCall f_fraction (aCons (eOp mulI (eOp ixQ (eVar 0) (eC (.int 0))) (eOp ixQ (eVar 1) (eC (.int 1)))) (aCons (eOp mulI (eOp ixQ (eVar 0) (eC (.int 1))) (eOp ixQ (eVar 1) (eC (.int 0)))) (aNil))))
def f_over : Fn := runF 2 b_over
abbrev s__law_alone : Stmt := topS 27
def b__law_alone : MS := sSeq (sAsg 2 (eLst (aCons (eUn (isiE (caL [("NoFraction", true)])) (eVar 0)) (aCons (eUn (isiE (caL [("NoFraction", false)])) (eVar 0)) (aCons (eUn (isiE (caL [("NoFraction", false)])) (eVar 0)) (aCons (eUn (isiE (caL [("NoFraction", false)])) (eVar 0)) (aNil)))))))
  (sSeq (sAsg 2 (eOp addO (eVar 2) (eLst (aCons (eUn (isiE (caL [("NoFraction", false)])) (eVar 0)) (aCons (eUn (isiE (caL [("NoFraction", false)])) (eVar 0)) (aCons (eUn (isiE (caL [("NoFraction", false)])) (eVar 0)) (aCons (eUn (isiE (caL [("NoFraction", false)])) (eVar 0)) (aNil))))))))
  (sSeq (sAsg 2 (eOp addO (eVar 2) (eLst (aCons (eUn (isiE (caL [("NoFraction", false)])) (eVar 0)) (aCons (eUn (isiE (caL [("NoFraction", false)])) (eVar 0)) (aNil))))))
  (sRet (eAnd (eUn (isiE (caL [("NoFraction", true)])) (eVar 0)) (eOp eqO (eVar 2) (eComp [3] FU (iR1 (aCons (eC (.int 10)) (aNil))) (gN 3) (cYes) (eOp eqO (eVar 3) (eVar 1))))))))
def f__law_alone : Fn := runF 4 b__law_alone
abbrev s__law_refused : Stmt := topS 30
def b__law_refused : MS := sSeq (sAsg 1 (eC .non))
  (sSeq (sTryK (caL [("NoFraction", true)]) 2 1 (sExp (eCall f_over (aCons (eVar 0) (aCons (eTup (aCons (eC (.int 0)) (aCons (eC (.int 1)) (aNil)))) (aNil))))))
  (sRet (eAnd (eOp (isNO not) (eVar 1) (eC .non)) (eCall f__law_alone (aCons (eVar 1) (aCons (eC (.int 0)) (aNil)))))))
def f__law_refused : Fn := runF 3 b__law_refused
abbrev s_plus : Stmt := topS 15
def b_plus : MS := sRet (eCall f_fraction (aCons (eOp addO (eOp mulI (eOp ixQ (eVar 0) (eC (.int 0))) (eOp ixQ (eVar 1) (eC (.int 1)))) (eOp mulI (eOp ixQ (eVar 1) (eC (.int 0))) (eOp ixQ (eVar 0) (eC (.int 1))))) (aCons (eOp mulI (eOp ixQ (eVar 0) (eC (.int 1))) (eOp ixQ (eVar 1) (eC (.int 1)))) (aNil))))
def f_plus : Fn := runF 2 b_plus
abbrev s_minus : Stmt := topS 16
def b_minus : MS := sRet (eCall f_fraction (aCons (eOp subI (eOp mulI (eOp ixQ (eVar 0) (eC (.int 0))) (eOp ixQ (eVar 1) (eC (.int 1)))) (eOp mulI (eOp ixQ (eVar 1) (eC (.int 0))) (eOp ixQ (eVar 0) (eC (.int 1))))) (aCons (eOp mulI (eOp ixQ (eVar 0) (eC (.int 1))) (eOp ixQ (eVar 1) (eC (.int 1)))) (aNil))))
def f_minus : Fn := runF 2 b_minus
abbrev s_times : Stmt := topS 17
def b_times : MS := sRet (eCall f_fraction (aCons (eOp mulI (eOp ixQ (eVar 0) (eC (.int 0))) (eOp ixQ (eVar 1) (eC (.int 0)))) (aCons (eOp mulI (eOp ixQ (eVar 0) (eC (.int 1))) (eOp ixQ (eVar 1) (eC (.int 1)))) (aNil))))
def f_times : Fn := runF 2 b_times
abbrev s__law_right : Stmt := topS 31
def b__law_right : MS := sSeq (sAsg 2 (eLst (aCons (eCall f__law_worth (aCons (eCall f_plus (aCons (eVar 0) (aCons (eVar 1) (aNil)))) (aCons (eOp addO (eOp mulI (eOp ixQ (eVar 0) (eC (.int 0))) (eOp ixQ (eVar 1) (eC (.int 1)))) (eOp mulI (eOp ixQ (eVar 1) (eC (.int 0))) (eOp ixQ (eVar 0) (eC (.int 1))))) (aCons (eOp mulI (eOp ixQ (eVar 0) (eC (.int 1))) (eOp ixQ (eVar 1) (eC (.int 1)))) (aNil))))) (aNil))))
  (sSeq (sExp (eM "list" appO (eVar 2) (aCons (eCall f__law_worth (aCons (eCall f_minus (aCons (eVar 0) (aCons (eVar 1) (aNil)))) (aCons (eOp subI (eOp mulI (eOp ixQ (eVar 0) (eC (.int 0))) (eOp ixQ (eVar 1) (eC (.int 1)))) (eOp mulI (eOp ixQ (eVar 1) (eC (.int 0))) (eOp ixQ (eVar 0) (eC (.int 1))))) (aCons (eOp mulI (eOp ixQ (eVar 0) (eC (.int 1))) (eOp ixQ (eVar 1) (eC (.int 1)))) (aNil))))) (aNil))))
  (sSeq (sExp (eM "list" appO (eVar 2) (aCons (eCall f__law_worth (aCons (eCall f_times (aCons (eVar 0) (aCons (eVar 1) (aNil)))) (aCons (eOp mulI (eOp ixQ (eVar 0) (eC (.int 0))) (eOp ixQ (eVar 1) (eC (.int 0)))) (aCons (eOp mulI (eOp ixQ (eVar 0) (eC (.int 1))) (eOp ixQ (eVar 1) (eC (.int 1)))) (aNil))))) (aNil))))
  (sSeq (sIf (tyB (eOp neO (eOp ixQ (eVar 1) (eC (.int 0))) (eC (.int 0)))) (sExp (eM "list" appO (eVar 2) (aCons (eCall f__law_worth (aCons (eCall f_over (aCons (eVar 0) (aCons (eVar 1) (aNil)))) (aCons (eOp mulI (eOp ixQ (eVar 0) (eC (.int 0))) (eOp ixQ (eVar 1) (eC (.int 1)))) (aCons (eOp mulI (eOp ixQ (eVar 0) (eC (.int 1))) (eOp ixQ (eVar 1) (eC (.int 0)))) (aNil))))) (aNil)))) (sNil))
  (sSeq (sAsg 3 (eCall f_below (aCons (eVar 0) (aCons (eVar 1) (aNil)))))
  (sSeq (sExp (eM "list" appO (eVar 2) (aCons (eAnd (eUn (isiO "bool") (eVar 3)) (eOp eqO (eVar 3) (eOp (cmpI fun i j => decide (i < j)) (eOp mulI (eOp ixQ (eVar 0) (eC (.int 0))) (eOp ixQ (eVar 1) (eC (.int 1)))) (eOp mulI (eOp ixQ (eVar 1) (eC (.int 0))) (eOp ixQ (eVar 0) (eC (.int 1))))))) (aNil))))
  (sRet (eAnd (eCB (allO fun bs => bs.all id) (aCons (eVar 2) (aNil))) (eCall f__law_refused (aCons (eVar 0) (aNil))))))))))
def f__law_right : Fn := runF 4 b__law_right
abbrev s_law : Stmt := topS 32
def bd_law_0 : MS := sSeq (sAsgG (eComp [5] FU (iR1 (aCons (eC (.int 3)) (aNil))) (gN 5) (cYes) (eCall f__law_fraction (aCons (eCall f__law_cell (aCons (eVar 0) (aCons (eOp addO (eVar 1) (eVar 5)) (aNil)))) (aNil)))) (gTL 3 (gsCons (gN 2) (gsCons (gN 3) (gsCons (gN 4) (gsNil))))))
  (sSeq (sIf (tyB (eOp eqO (eOp modI (eCall f__law_cell (aCons (eVar 0) (aCons (eVar 1) (aNil)))) (eC (.int 4))) (eC (.int 1)))) (sAsg 3 (eVar 2)) (sNil))
  (sSeq (sIf (tOrM (tNotM (tTru (eCall f__law_right (aCons (eVar 2) (aCons (eVar 3) (aNil)))))) (tNotM (tTru (eCall f__law_right (aCons (eVar 3) (aCons (eVar 2) (aNil))))))) (sRet (eC (.bl false))) (sNil))
  (sIf (tOrM (tyB (eOp neO (eCall f_times (aCons (eVar 2) (aCons (eCall f_plus (aCons (eVar 3) (aCons (eVar 4) (aNil)))) (aNil)))) (eCall f_plus (aCons (eCall f_times (aCons (eVar 2) (aCons (eVar 3) (aNil)))) (aCons (eCall f_times (aCons (eVar 2) (aCons (eVar 4) (aNil)))) (aNil)))))) (tyB (eOp neO (eCall f_below (aCons (eCall f_plus (aCons (eVar 2) (aCons (eVar 4) (aNil)))) (aCons (eCall f_plus (aCons (eVar 3) (aCons (eVar 4) (aNil)))) (aNil)))) (eCall f_below (aCons (eVar 2) (aCons (eVar 3) (aNil))))))) (sRet (eC (.bl false))) (sNil))))
def b_law : MS := sSeq (sFor FU (iR3 (aCons (eC (.int 0)) (aCons (eC (.int 39)) (aCons (eC (.int 3)) (aNil))))) (gN 1) (bd_law_0))
  (sRet (eC (.bl true)))
def f_law : Fn := runF 6 b_law
theorem fmod_lt (x k : Int) (h : 0 < k) : 0 ≤ x.fmod k ∧ x.fmod k < k := by
  rw [Int.fmod_eq_emod_of_nonneg x (by omega)]
  exact ⟨Int.emod_nonneg x (by omega), Int.emod_lt_of_pos x (by omega)⟩
/-- a pool of draws at place n -/
def Pool (h : IH) (n : Nat) : Prop := ∃ a b c : Int, h[n]? = some (.lst [.int a, .int b, .int c]) ∧ 0 ≤ a ∧ Bt 1048578 a ∧ 0 ≤ b ∧ b < 1073741824 ∧ 0 ≤ c ∧ c < 1073741824
/-- only place n is other, and what is behind the old end is new -/
def Dr (n : Nat) (h h' : IH) : Prop := h.length ≤ h'.length ∧ ∀ k, k < h.length → k ≠ n → h'[k]? = h[k]?
theorem Dr.refl (n : Nat) (h : IH) : Dr n h h := ⟨Nat.le_refl _, fun _ _ _ => rfl⟩
theorem Dr.trans {n : Nat} {a b c : IH} (x : Dr n a b) (y : Dr n b c) : Dr n a c := ⟨Nat.le_trans x.1 y.1, fun k hk hn => (y.2 k (Nat.lt_of_lt_of_le hk x.1) hn).trans (x.2 k hk hn)⟩
theorem Dr.app (n : Nat) (h g : IH) : Dr n h (h ++ g) := ⟨by rw [List.length_append]; omega, fun k hk _ => List.getElem?_append_left hk⟩
theorem Pool.lt {h : IH} {n : Nat} (p : Pool h n) : n < h.length := by
  obtain ⟨a, b, c, e, _⟩ := p
  exact (List.getElem?_eq_some_iff.mp e).1
theorem Pool.app {h : IH} {n : Nat} (p : Pool h n) (g : IH) : Pool (h ++ g) n := by
  have hl := p.lt
  obtain ⟨a, b, c, e, q⟩ := p
  exact ⟨a, b, c, by rw [List.getElem?_append_left hl]; exact e, q⟩
theorem put_at {h : IH} {n : Nat} {xs : List IV} {k : Int} {j : Nat} {v : IV} (e : h[n]? = some (.lst xs)) (hj : ixN xs.length k = some j) : putL (.ref n) (.int k) v h = some (h.set n (.lst (xs.set j v))) := by
  simp only [putL, e, hj]
theorem pool_eq (c : Int) (h : IH) (hb : Bt 1048577 c) : WE (f__law_pool [.int c] h) fun v h' => v = .ref h.length ∧ Pool h' h.length ∧ h'.length = h.length + 1 ∧ ∀ k, k < h.length → h'[k]? = h[k]? := by
  have h1 := fmod_lt c 1000000403 (by omega)
  have h2 := fmod_lt (c.fmod 1000000403 * 48271 + 12345) 1000000513 (by omega)
  have l1 := log2_le (show Bt 40 (c.fmod 1000000403) by unfold Bt; omega)
  have l2 : Nat.log2 48271 = 15 := by decide +kernel
  have key : ∀ a : Int, 0 ≤ a → Bt 1048578 a → Pool (h ++ [.lst [.int a, .int (c.fmod 1000000403), .int ((c.fmod 1000000403 * 48271 + 12345).fmod 1000000513)]]) h.length := fun a a0 a1 =>
    ⟨a, _, _, List.getElem?_concat_length, a0, a1, by omega, by omega, by omega, by omega⟩
  have keep : ∀ (g : IH) (k : Nat), k < h.length → (h ++ g)[k]? = h[k]? := fun g k hk => List.getElem?_append_left hk
  have hb' : Bt 1048578 c := hb.mono (by omega)
  have hbn : Bt 1048578 (-c) := by
    unfold Bt at hb' ⊢
    rw [Int.natAbs_neg]
    exact hb'
  simp [f__law_pool, b__law_pool]
  by_cases c1 : c < 0
  · simp [c1, l2]
    exact ⟨by omega, key _ (by omega) hbn, keep _⟩
  · by_cases c2 : 1000000000000000000 ≤ c
    · simp [c1, c2, l2]
      exact ⟨by omega, key _ (by omega) hb', keep _⟩
    · simp [c1, c2, l2]
      exact ⟨by omega, key _ (by omega) (Nat.two_pow_pos _), keep _⟩
theorem draw_eq (n : Nat) (m : Int) (h : IH) (p : Pool h n) (hm : 0 < m) (hb : Bt 8000 m) : WE (f__law_draw [.ref n, .int m] h) fun v h' => ∃ r : Int, v = .int r ∧ 0 ≤ r ∧ r < m ∧ Pool h' n ∧ h'.length = h.length ∧ Dr n h h' := by
  obtain ⟨a, b, c, e, a0, a1, b0, b1, c0, c1⟩ := p
  have hn : n < h.length := (List.getElem?_eq_some_iff.mp e).1
  have ln : Bt 8000 m := hb
  have lm := Bt.dv ln (by omega)
  unfold f__law_draw b__law_draw
  have i0 : ∀ (h1 : IH) (x y z : IV), h1[n]? = some (.lst [x, y, z]) → ixQ (.ref n) (.int 0) h1 = some (x, h1) := fun h1 x y z q => ixQ_ref (k := 0) q rfl
  have i1 : ∀ (h1 : IH) (x y z : IV), h1[n]? = some (.lst [x, y, z]) → ixQ (.ref n) (.int 1) h1 = some (y, h1) := fun h1 x y z q => ixQ_ref (k := 1) q rfl
  have i2 : ∀ (h1 : IH) (x y z : IV), h1[n]? = some (.lst [x, y, z]) → ixQ (.ref n) (.int 2) h1 = some (z, h1) := fun h1 x y z q => ixQ_ref (k := 2) q rfl
  have p0 : ∀ (h1 : IH) (x y z v : IV), h1[n]? = some (.lst [x, y, z]) → putL (.ref n) (.int 0) v h1 = some (h1.set n (.lst [v, y, z])) := fun h1 x y z v q => put_at (j := 0) q rfl
  have p1 : ∀ (h1 : IH) (x y z v : IV), h1[n]? = some (.lst [x, y, z]) → putL (.ref n) (.int 1) v h1 = some (h1.set n (.lst [x, v, z])) := fun h1 x y z v q => put_at (j := 1) q rfl
  have p2 : ∀ (h1 : IH) (x y z v : IV), h1[n]? = some (.lst [x, y, z]) → putL (.ref n) (.int 2) v h1 = some (h1.set n (.lst [x, y, v])) := fun h1 x y z v q => put_at (j := 2) q rfl
  have sn : ∀ o : IO, (h.set n o)[n]? = some o := fun o => List.getElem?_set_self hn
  by_cases ha : 0 < a
  · have hne : m ≠ 0 := by omega
    simp [i0 h _ _ _ e, ha, p0 h _ _ _ _ e, hne, lm]
    have hf := fmod_lt a m hm
    refine ⟨hf.1, hf.2, ⟨_, _, _, sn _, ?_, ?_, b0, b1, c0, c1⟩, ⟨by simp, fun k hk hkn => List.getElem?_set_ne (Ne.symm hkn)⟩⟩
    · rw [Int.fdiv_eq_ediv_of_nonneg a (by omega)]
      exact Int.ediv_nonneg a0 (by omega)
    · unfold Bt at a1 ⊢
      rw [Int.fdiv_eq_ediv_of_nonneg a (by omega)]
      have := Int.natAbs_ediv_le_natAbs a m
      omega
  · have hne : m ≠ 0 := by omega
    have q1 := log2_le (show Bt 31 b by unfold Bt; omega)
    have q2 := log2_le (show Bt 31 c by unfold Bt; omega)
    have g1 : Nat.log2 40014 = 15 := by decide +kernel
    have g2 : Nat.log2 40692 = 15 := by decide +kernel
    have g3 : Nat.log2 7 = 2 := by decide +kernel
    have g4 : Nat.log2 16 = 4 := by decide +kernel
    have r1 := fmod_lt (b * 40014 + c + 7) 1000000403 (by omega)
    generalize eA : (b * 40014 + c + 7).fmod 1000000403 = A at r1
    have q3 := log2_le (show Bt 31 A by unfold Bt; omega)
    have r2 := fmod_lt (c * 40692 + (A * A).fmod 65537 + 1) 1000000513 (by omega)
    generalize eB : (c * 40692 + (A * A).fmod 65537 + 1).fmod 1000000513 = Bb at r2
    have q4 := log2_le (show Bt 31 Bb by unfold Bt; omega)
    simp [i0 h _ _ _ e, ha, i1 h _ _ _ e, i2 h _ _ _ e, p1 h _ _ _ _ e, eA, i1 _ _ _ _ (sn _), i2 _ _ _ _ (sn _), p2 _ _ _ _ _ (sn _), eB, hne, g1, g2, g3, g4]
    have hf := fmod_lt ((A + 7 * Bb).fdiv 16) m hm
    exact ⟨by omega, by omega, by omega, by omega, hf.1, hf.2, ⟨_, _, _, sn _, a0, a1, by omega, by omega, by omega, by omega⟩, ⟨by simp, fun k hk hkn => List.getElem?_set_ne (Ne.symm hkn)⟩⟩
theorem share_eq (a b : Int) (h : IH) (hb : Bt 2000000 b) : f_share_of [.int a, .int b] h = some (.ok (.int (Int.gcd a b)), h) := gcdB_spec a b h hb
theorem lgcd_eq (a b : Int) (h : IH) (hb : Bt 2000000 b) : f__law_gcd [.int a, .int b] h = some (.ok (.int (Int.gcd a b)), h) := gcdB_spec a b h hb
/-- the share with the bottom's sign -/
def sg (a b : Int) : Int := if b < 0 then 0 - (Int.gcd a b : Int) else Int.gcd a b
theorem gcd_ne {a b : Int} (h : b ≠ 0) : (Int.gcd a b : Int) ≠ 0 := by
  have : Int.gcd a b ≠ 0 := fun e => h (Int.gcd_eq_zero_iff.mp e).2
  omega
theorem sg_ne {a b : Int} (h : b ≠ 0) : sg a b ≠ 0 := by
  have := gcd_ne (a := a) h
  unfold sg
  split <;> omega
theorem sg_bt {a b : Int} {k : Nat} (hb : Bt k b) (h : b ≠ 0) : Bt k (sg a b) := by
  have := gcd_bt (a := a) hb h
  unfold sg
  unfold Bt at *
  split <;> omega
theorem sg_dvd_l (a b : Int) : sg a b ∣ a := by
  unfold sg
  split
  · rw [Int.zero_sub]; exact Int.neg_dvd.mpr (Int.gcd_dvd_left a b)
  · exact Int.gcd_dvd_left a b
theorem sg_dvd_r (a b : Int) : sg a b ∣ b := by
  unfold sg
  split
  · rw [Int.zero_sub]; exact Int.neg_dvd.mpr (Int.gcd_dvd_right a b)
  · exact Int.gcd_dvd_right a b
theorem fdiv_of_dvd {a s : Int} (h : s ∣ a) (hs : s ≠ 0) : s * a.fdiv s = a := by
  rw [Int.fdiv_eq_ediv]
  rw [if_pos (.inr h), Int.sub_zero]
  exact Int.mul_ediv_cancel' h
theorem fraction_eq (a b : Int) (h : IH) (h0 : b ≠ 0) (hb : Bt 8000 b) : f_fraction [.int a, .int b] h = some (.ok (.tup [.int (a.fdiv (sg a b)), .int (b.fdiv (sg a b))]), h) := by
  refine WE.eq ?_
  have l := Bt.dv (sg_bt (a := a) hb h0) (by omega)
  have n := sg_ne (a := a) h0
  unfold sg at *
  by_cases c : b < 0
  · rw [if_pos c] at *
    simp [f_fraction, b_fraction, share_eq a b _ (hb.mono (by omega)), h0, c] at *
    first | exact ⟨n, l⟩ | exact l
  · rw [if_neg c] at *
    simp [f_fraction, b_fraction, share_eq a b _ (hb.mono (by omega)), h0, c] at *
    exact l
theorem low_pos {a b : Int} (h : b ≠ 0) : 0 < b.fdiv (sg a b) := by
  have e := fdiv_of_dvd (sg_dvd_r a b) (sg_ne h)
  have g : 0 < (Int.gcd a b : Int) := by have := gcd_ne (a := a) h; omega
  generalize b.fdiv (sg a b) = q at *
  unfold sg at e
  by_cases hq : 0 < q
  · exact hq
  · exfalso
    split at e
    · have : 0 ≤ (0 - (Int.gcd a b : Int)) * q := Int.mul_nonneg_of_nonpos_of_nonpos (by omega) (by omega)
      omega
    · have : (Int.gcd a b : Int) * q ≤ 0 := Int.mul_nonpos_of_nonneg_of_nonpos (by omega) (by omega)
      omega
theorem low_gcd {a b : Int} (h : b ≠ 0) : Int.gcd (a.fdiv (sg a b)) (b.fdiv (sg a b)) = 1 := by
  have e1 := fdiv_of_dvd (sg_dvd_l a b) (sg_ne h)
  have e2 := fdiv_of_dvd (sg_dvd_r a b) (sg_ne h)
  have g : Int.gcd a b ≠ 0 := fun e => h (Int.gcd_eq_zero_iff.mp e).2
  have hn : (sg a b).natAbs = Int.gcd a b := by unfold sg; split <;> omega
  generalize a.fdiv (sg a b) = p at *
  generalize b.fdiv (sg a b) = q at *
  have : Int.gcd (sg a b * p) (sg a b * q) = (sg a b).natAbs * Int.gcd p q := Int.gcd_mul_left _ _ _
  rw [e1, e2, hn] at this
  exact Nat.eq_of_mul_eq_mul_left (Nat.pos_of_ne_zero g) (by omega)
theorem low_cross {a b : Int} (h : b ≠ 0) : a.fdiv (sg a b) * b = a * b.fdiv (sg a b) := by
  have e1 := fdiv_of_dvd (sg_dvd_l a b) (sg_ne h)
  have e2 := fdiv_of_dvd (sg_dvd_r a b) (sg_ne h)
  generalize a.fdiv (sg a b) = p at *
  generalize b.fdiv (sg a b) = q at *
  generalize sg a b = s at *
  rw [← e1, ← e2, Int.mul_comm p, Int.mul_assoc, Int.mul_assoc, Int.mul_comm q p]
theorem small_fdiv {a s : Int} {k : Nat} (ha : Bt k a) (hd : s ∣ a) (hs : s ≠ 0) : Bt k (a.fdiv s) := by
  unfold Bt at *
  have e := fdiv_of_dvd hd hs
  have : (s * a.fdiv s).natAbs = a.natAbs := by rw [e]
  rw [Int.natAbs_mul] at this
  have hp : 1 ≤ s.natAbs := by omega
  have : (a.fdiv s).natAbs ≤ s.natAbs * (a.fdiv s).natAbs := Nat.le_mul_of_pos_left _ hp
  omega
theorem isfrac_eq (a b : Int) (h : IH) (h0 : b ≠ 0) (hb : Bt 8000 b) : WE (f__law_is_fraction [.tup [.int (a.fdiv (sg a b)), .int (b.fdiv (sg a b))]] h) fun v h' => v = .bl true ∧ ∃ g, h' = h ++ g := by
  have e := lgcd_eq (a.fdiv (sg a b)) (b.fdiv (sg a b)) (h ++ [.lst [.bl true, .bl true]]) ((small_fdiv hb (sg_dvd_r a b) (sg_ne h0)).mono (by omega))
  have p := low_pos (a := a) h0
  rw [low_gcd h0] at e
  unfold f__law_is_fraction b__law_is_fraction
  simp [seqIt_tup]
  refine comp_tup (fun _ => .bl true) (by simp) (fun x h' hx _ => ?_) ?_
  · have : ∃ z, x = .int z := by simp at hx; rcases hx with e | e <;> exact ⟨_, e⟩
    obtain ⟨z, rfl⟩ := this
    simp [wipeE]
  · rw [allO_at (bs := [true, true]) (by simp)]
    simp [p, e]
theorem bts (k : Nat) (m : Int) (h0 : 0 ≤ m) (h1 : m < 1048576) : Bt 8000 m := (show Bt 20 m by unfold Bt; omega).mono (by omega)
theorem size_eq (n : Nat) (h : IH) (p : Pool h n) : WE (f__law_size [.ref n] h) fun v h' => ∃ z, v = .int z ∧ Bt 400 z ∧ Pool h' n ∧ Dr n h h' := by
  unfold f__law_size b__law_size
  simp
  refine (draw_eq n 4 h p (by omega) (bts 0 _ (by omega) (by omega))).mono fun v h1 ⟨kd, e, k0, k1, p1, l1, d1⟩ => ?_
  subst e
  simp
  by_cases c1 : kd < 2
  · simp [c1]
    refine (draw_eq n 13 h1 p1 (by omega) (bts 0 _ (by omega) (by omega))).mono fun v h2 ⟨r, e, r0, r1, p2, l2, d2⟩ => ?_
    subst e
    simp
    exact ⟨(show Bt 10 (r - 6) by unfold Bt; omega).mono (by omega), p2, d1.trans d2⟩
  · by_cases c2 : kd = 2
    · subst c2
      simp
      refine (draw_eq n 2001 h1 p1 (by omega) (bts 0 _ (by omega) (by omega))).mono fun v h2 ⟨r, e, r0, r1, p2, l2, d2⟩ => ?_
      subst e
      simp
      exact ⟨(show Bt 11 (r - 1000) by unfold Bt; omega).mono (by omega), p2, d1.trans d2⟩
    · simp [c1, c2]
      refine (draw_eq n 25 h1 p1 (by omega) (bts 0 _ (by omega) (by omega))).mono fun v h2 ⟨r, e, r0, r1, p2, l2, d2⟩ => ?_
      subst e
      simp
      refine ⟨by omega, ?_⟩
      obtain ⟨t, et⟩ : ∃ t : Nat, 1 + r = (t : Int) := ⟨(1 + r).toNat, by omega⟩
      rw [et]
      simp only [Int.toNat_natCast]
      refine WS_for t (fun i env h3 => ∃ (f : Int) (o3 : Option IV), env = [some (.ref n), some (.int kd), some (.int f), o3] ∧ 0 ≤ f ∧ f < 2 ^ (14 * i) ∧ Pool h3 n ∧ Dr n h h3) ?_ ?_ FU 0 _ h2 (Nat.zero_le _) ⟨0, none, rfl, by omega, by simp, p2, d1.trans d2⟩ (FU_lt64 (by omega))
      · rintro i env h3 hi ⟨f, o3, rfl, f0, f1, p3, d3⟩
        refine ⟨.int (0 + (i : Int)), by unfold rngIt; simp [hi], _, rfl, ?_⟩
        have bf : Bt (14 * i) f := Bt.of_lt f0 f1
        have lf := log2_le bf
        have g : Nat.log2 10000 = 13 := by decide +kernel
        simp [gN, g, bd__law_size_0]
        refine ⟨by omega, ?_⟩
        refine (draw_eq n 10000 h3 p3 (by omega) (bts 0 _ (by omega) (by omega))).mono fun v h4 ⟨q, e, q0, q1, p4, l4, d4⟩ => ?_
        subst e
        simp
        refine ⟨by omega, ?_, p4, d3.trans d4⟩
        have e2 : (2 : Int) ^ (14 * (i + 1)) = 2 ^ (14 * i) * 16384 := by
          rw [show 14 * (i + 1) = 14 * i + 14 by omega, Int.pow_add]
          rfl
        rw [e2]
        generalize (2 : Int) ^ (14 * i) = P at *
        omega
      · rintro env h3 ⟨f, o3, rfl, f0, f1, p3, d3⟩
        refine ⟨by unfold rngIt; simp, ?_⟩
        have bf : Bt (14 * t) f := Bt.of_lt f0 f1
        have bf' : Bt 360 f := bf.mono (by omega)
        have lf := log2_le bf'
        simp
        refine (draw_eq n 2 h3 p3 (by omega) (bts 0 _ (by omega) (by omega))).mono fun v h4 ⟨q, e, q0, q1, p4, l4, d4⟩ => ?_
        subst e
        have l2q := log2_le (show Bt 2 q by unfold Bt; omega)
        have b3 : Bt 2 (1 - 2 * q) := by unfold Bt; omega
        have l3 := log2_le b3
        have g2 : Nat.log2 2 = 1 := by decide +kernel
        simp [g2]
        exact ⟨by omega, by omega, (bf'.mul b3).mono (by omega), p4, d3.trans d4⟩
theorem fraction_no (a : Int) (h : IH) : f_fraction [.int a, .int 0] h = some (.error ⟨"NoFraction", Str.empty, []⟩, h) := by
  simp [f_fraction, b_fraction, runF, sSeq, sIf, bndS, tyB, eOp, eVar, eC, bnd, lift, sRaise]
theorem ki_t (n f : Str) (h : IH) (b : Bool) (e : n = "NoFraction") : isiE (caL [("NoFraction", b)]) (.exc n f []) h = some (.bl b, h) := by
  subst e
  simp [isiE, caL]
theorem alone_eq (f : Str) (h : IH) : WE (f__law_alone [.exc "NoFraction" f [], .int 0] h) fun v h' => v = .bl true ∧ ∃ g, h' = h ++ g := by
  unfold f__law_alone b__law_alone
  simp [ki_t _ f _ _ rfl]
  rw [addO_ref (xs := [.bl true, .bl false, .bl false, .bl false]) (ys := [.bl false, .bl false, .bl false, .bl false]) (by simp) (by simp) (by simp)]
  simp [ki_t _ f _ _ rfl]
  rw [addO_ref (xs := [.bl true, .bl false, .bl false, .bl false, .bl false, .bl false, .bl false, .bl false]) (ys := [.bl false, .bl false]) (by simp) (by simp) (by simp)]
  simp [ki_t _ f _ _ rfl]
  refine comp_rngE (n := 10) (h ++ [.lst [.bl true, .bl false, .bl false, .bl false], .lst [.bl false, .bl false, .bl false, .bl false], .lst [.bl true, .bl false, .bl false, .bl false, .bl false, .bl false, .bl false, .bl false], .lst [.bl false, .bl false], .lst [.bl true, .bl false, .bl false, .bl false, .bl false, .bl false, .bl false, .bl false, .bl false, .bl false]]) (by simp) (by simp) (fun k => .bl (decide ((k : Int) = 0))) (by omega) (fun k h' hk _ => ?_) ?_
  · simp [wipeE]
  · rw [eqO_bls (bs := [true, false, false, false, false, false, false, false, false, false]) (cs := (List.range 10).map fun (k : Nat) => decide ((k : Int) = 0)) (by simp) (by simp [List.map_map, Function.comp_def])]
    simp
    try decide

abbrev Fq := Int × Int
def fr (p : Fq) : IV := .tup [.int p.1, .int p.2]
def low (a b : Int) : Fq := (a.fdiv (sg a b), b.fdiv (sg a b))
structure Ok (k : Nat) (p : Fq) : Prop where
  pos : 0 < p.2
  t : Bt k p.1
  b : Bt k p.2
theorem low_ok {a b : Int} {k : Nat} (h0 : b ≠ 0) (ha : Bt k a) (hb : Bt k b) : Ok k (low a b) :=
  ⟨low_pos h0, small_fdiv ha (sg_dvd_l a b) (sg_ne h0), small_fdiv hb (sg_dvd_r a b) (sg_ne h0)⟩
theorem low_x {a b : Int} (h : b ≠ 0) : (low a b).1 * b = a * (low a b).2 := low_cross h
theorem fraction_low (a b : Int) (h : IH) (h0 : b ≠ 0) (hb : Bt 8000 b) : f_fraction [.int a, .int b] h = some (.ok (fr (low a b)), h) := fraction_eq a b h h0 hb
def plusF (x y : Fq) : Fq := low (x.1 * y.2 + y.1 * x.2) (x.2 * y.2)
def minusF (x y : Fq) : Fq := low (x.1 * y.2 - y.1 * x.2) (x.2 * y.2)
def timesF (x y : Fq) : Fq := low (x.1 * y.1) (x.2 * y.2)
def overF (x y : Fq) : Fq := low (x.1 * y.2) (x.2 * y.1)
theorem m_ne {a b : Int} (h : 0 < a) (h' : 0 < b) : a * b ≠ 0 := by
  have := Int.mul_pos h h'
  omega
theorem addB {a b : Nat} {x y : Fq} (hx : Ok a x) (hy : Ok b y) : Bt (a + b + 1) (x.1 * y.2 + y.1 * x.2) ∧ Bt (a + b + 1) (x.1 * y.2 - y.1 * x.2) := by
  have h2 : Bt (a + b) (y.1 * x.2) := by
    have := hy.t.mul hx.b
    rw [Nat.add_comm] at this
    exact this
  exact ⟨Bt.add (hx.t.mul hy.b) h2, Bt.sub (hx.t.mul hy.b) h2⟩
theorem plusF_ok {a b : Nat} {x y : Fq} (hx : Ok a x) (hy : Ok b y) : Ok (a + b + 1) (plusF x y) := low_ok (m_ne hx.pos hy.pos) (addB hx hy).1 ((hx.b.mul hy.b).mono (by omega))
theorem timesF_ok {a b : Nat} {x y : Fq} (hx : Ok a x) (hy : Ok b y) : Ok (a + b) (timesF x y) := low_ok (m_ne hx.pos hy.pos) (hx.t.mul hy.t) (hx.b.mul hy.b)
section
variable {a b : Nat} {x y : Fq} (h : IH) (hx : Ok a x) (hy : Ok b y) (hk : a + b ≤ 8000)
include hx hy hk
theorem plus_eq : f_plus [fr x, fr y] h = some (.ok (fr (plusF x y)), h) := by
  refine WE.eq ?_
  have z := fraction_low (x.1 * y.2 + y.1 * x.2) (x.2 * y.2) h (m_ne hx.pos hy.pos) ((hx.b.mul hy.b).mono hk)
  simp [f_plus, b_plus, fr, Bt.ok hx.t hy.b (by omega), Bt.ok hy.t hx.b (by omega), Bt.ok hx.b hy.b (by omega)]
  rw [z]
  exact ⟨rfl, rfl⟩
theorem minus_eq : f_minus [fr x, fr y] h = some (.ok (fr (minusF x y)), h) := by
  refine WE.eq ?_
  have z := fraction_low (x.1 * y.2 - y.1 * x.2) (x.2 * y.2) h (m_ne hx.pos hy.pos) ((hx.b.mul hy.b).mono hk)
  simp [f_minus, b_minus, fr, Bt.ok hx.t hy.b (by omega), Bt.ok hy.t hx.b (by omega), Bt.ok hx.b hy.b (by omega)]
  rw [z]
  exact ⟨rfl, rfl⟩
theorem times_eq : f_times [fr x, fr y] h = some (.ok (fr (timesF x y)), h) := by
  refine WE.eq ?_
  have z := fraction_low (x.1 * y.1) (x.2 * y.2) h (m_ne hx.pos hy.pos) ((hx.b.mul hy.b).mono hk)
  simp [f_times, b_times, fr, Bt.ok hx.t hy.t (by omega), Bt.ok hx.b hy.b (by omega)]
  rw [z]
  exact ⟨rfl, rfl⟩
theorem over_eq (h0 : y.1 ≠ 0) : f_over [fr x, fr y] h = some (.ok (fr (overF x y)), h) := by
  refine WE.eq ?_
  have hne : x.2 * y.1 ≠ 0 := fun e => by
    rcases Int.mul_eq_zero.mp e with e | e
    · have := hx.pos; omega
    · exact h0 e
  have z := fraction_low (x.1 * y.2) (x.2 * y.1) h hne ((hx.b.mul hy.t).mono hk)
  simp [f_over, b_over, fr, Bt.ok hx.t hy.b (by omega), Bt.ok hx.b hy.t (by omega)]
  rw [z]
  exact ⟨rfl, rfl⟩
theorem below_eq : f_below [fr x, fr y] h = some (.ok (.bl (decide (x.1 * y.2 < y.1 * x.2))), h) := by
  refine WE.eq ?_
  simp [f_below, b_below, fr, Bt.ok hx.t hy.b (by omega), Bt.ok hy.t hx.b (by omega)]
end
theorem over_no (x : Fq) (a : Nat) (h : IH) (hx : Ok a x) (hk : a ≤ 8000) : f_over [fr x, .tup [.int 0, .int 1]] h = some (.error ⟨"NoFraction", Str.empty, []⟩, h) := by
  have l1 := log2_le hx.t
  have l2 := log2_le hx.b
  have i1 : Nat.log2 1 = 0 := by decide +kernel
  have c1 : x.1.natAbs.log2 < 1000000 := by omega
  have c2 : x.2.natAbs.log2 < 1000000 := by omega
  simp [f_over, b_over, runF, sRet, bndS, eCall, aCons, aNil, eOp, eVar, eC, bnd, lift, fr, c1, c2, i1, fraction_no]
/-! the mathematics -/
theorem coprime_uniq {p q : Fq} (hp : 0 < p.2) (hq : 0 < q.2) (gp : Int.gcd p.1 p.2 = 1) (gq : Int.gcd q.1 q.2 = 1) (e : p.1 * q.2 = q.1 * p.2) : p = q := by
  have d1 : p.2 ∣ q.2 := by
    have h1 : p.2 ∣ p.1 * q.2 := ⟨q.1, by rw [e, Int.mul_comm]⟩
    have g : Int.gcd p.2 (p.1 * q.2) = Int.gcd p.2 q.2 := Int.gcd_mul_right_right_of_gcd_eq_one (by rw [Int.gcd_comm]; exact gp)
    have : Int.gcd p.2 (p.1 * q.2) = p.2.natAbs := Int.gcd_eq_natAbs_left h1 |> fun z => z
    rw [g] at this
    have := Int.gcd_dvd_right p.2 q.2
    rw [‹Int.gcd p.2 q.2 = p.2.natAbs›] at this
    exact Int.natAbs_dvd.mp this
  have d2 : q.2 ∣ p.2 := by
    have h1 : q.2 ∣ q.1 * p.2 := ⟨p.1, by rw [← e, Int.mul_comm]⟩
    have g : Int.gcd q.2 (q.1 * p.2) = Int.gcd q.2 p.2 := Int.gcd_mul_right_right_of_gcd_eq_one (by rw [Int.gcd_comm]; exact gq)
    have : Int.gcd q.2 (q.1 * p.2) = q.2.natAbs := Int.gcd_eq_natAbs_left h1 |> fun z => z
    rw [g] at this
    have := Int.gcd_dvd_right q.2 p.2
    rw [‹Int.gcd q.2 p.2 = q.2.natAbs›] at this
    exact Int.natAbs_dvd.mp this
  have e2 : p.2 = q.2 := Int.dvd_antisymm (by omega) (by omega) d1 d2
  have e1 : p.1 = q.1 := by
    rw [e2] at e
    exact Int.eq_of_mul_eq_mul_right (by omega) e
  exact Prod.ext e1 e2
theorem distrib {x y z : Fq} (hx : 0 < x.2) (hy : 0 < y.2) (hz : 0 < z.2) : timesF x (plusF y z) = plusF (timesF x y) (timesF x z) := by
  have n1 := m_ne hy hz
  have s := low_x (a := y.1 * z.2 + z.1 * y.2) n1
  have sp := low_pos (a := y.1 * z.2 + z.1 * y.2) n1
  have n2 := m_ne hx hy
  have m := low_x (a := x.1 * y.1) n2
  have mp := low_pos (a := x.1 * y.1) n2
  have n3 := m_ne hx hz
  have n := low_x (a := x.1 * z.1) n3
  have np := low_pos (a := x.1 * z.1) n3
  unfold timesF plusF
  change 0 < (low (y.1 * z.2 + z.1 * y.2) (y.2 * z.2)).2 at sp
  change 0 < (low (x.1 * y.1) (x.2 * y.2)).2 at mp
  change 0 < (low (x.1 * z.1) (x.2 * z.2)).2 at np
  generalize low (y.1 * z.2 + z.1 * y.2) (y.2 * z.2) = S at *
  generalize low (x.1 * y.1) (x.2 * y.2) = M at *
  generalize low (x.1 * z.1) (x.2 * z.2) = Nn at *
  have k1 := m_ne hx sp
  have k2 := m_ne mp np
  refine coprime_uniq (low_pos k1) (low_pos k2) (low_gcd k1) (low_gcd k2) ?_
  have l := low_x (a := x.1 * S.1) k1
  have r := low_x (a := M.1 * Nn.2 + Nn.1 * M.2) k2
  generalize low (x.1 * S.1) (x.2 * S.2) = L at *
  generalize low (M.1 * Nn.2 + Nn.1 * M.2) (M.2 * Nn.2) = Rr at *
  obtain ⟨x1, x2⟩ := x
  obtain ⟨y1, y2⟩ := y
  obtain ⟨z1, z2⟩ := z
  obtain ⟨s1, s2⟩ := S
  obtain ⟨m1, m2⟩ := M
  obtain ⟨n1', n2'⟩ := Nn
  obtain ⟨l1, l2⟩ := L
  obtain ⟨r1, r2⟩ := Rr
  simp only [] at *
  have A : l1 * (x2 * (y2 * z2)) = x1 * (y1 * z2 + z1 * y2) * l2 := by
    refine Int.eq_of_mul_eq_mul_right (a := s2) (by omega) ?_
    grind
  have Bq : r1 * (x2 * (y2 * z2)) = x1 * (y1 * z2 + z1 * y2) * r2 := by
    refine Int.eq_of_mul_eq_mul_right (a := m2 * n2' * x2) (m_ne (Int.mul_pos mp np) hx) ?_
    grind
  refine Int.eq_of_mul_eq_mul_right (a := x2 * (y2 * z2)) (m_ne hx (Int.mul_pos hy hz)) ?_
  grind
theorem mono {x y z : Fq} (hx : 0 < x.2) (hy : 0 < y.2) (hz : 0 < z.2) : decide ((plusF x z).1 * (plusF y z).2 < (plusF y z).1 * (plusF x z).2) = decide (x.1 * y.2 < y.1 * x.2) := by
  have n1 := m_ne hx hz
  have n2 := m_ne hy hz
  have s := low_x (a := x.1 * z.2 + z.1 * x.2) n1
  have t := low_x (a := y.1 * z.2 + z.1 * y.2) n2
  have sp := low_pos (a := x.1 * z.2 + z.1 * x.2) n1
  have tp := low_pos (a := y.1 * z.2 + z.1 * y.2) n2
  unfold plusF
  change 0 < (low (x.1 * z.2 + z.1 * x.2) (x.2 * z.2)).2 at sp
  change 0 < (low (y.1 * z.2 + z.1 * y.2) (y.2 * z.2)).2 at tp
  generalize low (x.1 * z.2 + z.1 * x.2) (x.2 * z.2) = S at *
  generalize low (y.1 * z.2 + z.1 * y.2) (y.2 * z.2) = Tt at *
  obtain ⟨x1, x2⟩ := x
  obtain ⟨y1, y2⟩ := y
  obtain ⟨z1, z2⟩ := z
  obtain ⟨s1, s2⟩ := S
  obtain ⟨t1, t2⟩ := Tt
  simp only [] at *
  have key : (t1 * s2 - s1 * t2) * ((x2 * z2) * (y2 * z2)) = (y1 * x2 - x1 * y2) * (z2 * (s2 * t2 * z2)) := by grind
  have k1 : 0 < (x2 * z2) * (y2 * z2) := Int.mul_pos (Int.mul_pos hx hz) (Int.mul_pos hy hz)
  have k2 : 0 < z2 * (s2 * t2 * z2) := Int.mul_pos hz (Int.mul_pos (Int.mul_pos sp tp) hz)
  generalize (x2 * z2) * (y2 * z2) = K1 at *
  generalize z2 * (s2 * t2 * z2) = K2 at *
  have e : s1 * t2 < t1 * s2 ↔ x1 * y2 < y1 * x2 := by
    constructor
    · intro h
      have : 0 < (y1 * x2 - x1 * y2) * K2 := by rw [← key]; exact Int.mul_pos (by omega) k1
      have := Int.pos_of_mul_pos_left this k2
      omega
    · intro h
      have : 0 < (t1 * s2 - s1 * t2) * K1 := by rw [key]; exact Int.mul_pos (by omega) k2
      have := Int.pos_of_mul_pos_left this k1
      omega
  exact decide_eq_decide.mpr e

theorem refused_eq (x : Fq) (a : Nat) (h : IH) (hx : Ok a x) (hk : a ≤ 8000) : WE (f__law_refused [fr x] h) fun v h' => v = .bl true ∧ ∃ g, h' = h ++ g := by
  unfold f__law_refused b__law_refused
  simp
  rw [WS_tryK]
  have l0 : ∀ xs : List IV, xs.length ≤ 16777216 → True := fun _ _ => trivial
  simp [sExp, WX5_bndS, eCall, aCons, aNil, eVar, eC, eTup, bnd, over_no x a _ hx hk, caL]
  exact alone_eq _ h
theorem worth_eq (a b : Int) (h : IH) (h0 : b ≠ 0) (ha : Bt 4000 a) (hb : Bt 4000 b) : WE (f__law_worth [fr (low a b), .int a, .int b] h) fun v h' => v = .bl true ∧ ∃ g, h' = h ++ g := by
  have o := low_ok h0 ha hb
  unfold f__law_worth b__law_worth
  simp
  refine (isfrac_eq a b h h0 (hb.mono (by omega))).mono fun v h1 ⟨e, g, eg⟩ => ?_
  subst e eg
  have x := low_x (a := a) h0
  have m1 := Bt.ok o.t hb (by omega)
  have m2 := Bt.ok ha o.b (by omega)
  simp [fr, m1, m2, x]
structure Gr (h h' : IH) : Prop where
  len : h.length ≤ h'.length
  at_ : ∀ k, k < h.length → h'[k]? = h[k]?
theorem Gr.refl (h : IH) : Gr h h := ⟨Nat.le_refl _, fun _ _ => rfl⟩
theorem Gr.trans {a b c : IH} (x : Gr a b) (y : Gr b c) : Gr a c := ⟨Nat.le_trans x.len y.len, fun k hk => (y.at_ k (Nat.lt_of_lt_of_le hk x.len)).trans (x.at_ k hk)⟩
theorem Gr.app (h g : IH) : Gr h (h ++ g) := ⟨by rw [List.length_append]; omega, fun k hk => List.getElem?_append_left hk⟩
theorem Gr.dr {h h1 h2 : IH} {n : Nat} (x : Gr h h1) (hn : h.length ≤ n) (d : Dr n h1 h2) : Gr h h2 := ⟨Nat.le_trans x.len d.1, fun k hk => (d.2 k (Nat.lt_of_lt_of_le hk x.len) (by omega)).trans (x.at_ k hk)⟩
theorem Gr.put {h h1 : IH} {n : Nat} {o : IO} (x : Gr h h1) (hn : h.length ≤ n) : Gr h (h1.set n o) := ⟨by rw [List.length_set]; exact x.len, fun k hk => (List.getElem?_set_ne (by omega)).trans (x.at_ k hk)⟩
/-- the list of verdicts so far: all true -/
def Tr (h : IH) (n k : Nat) (h1 : IH) : Prop := h.length ≤ n ∧ Gr h h1 ∧ ∃ bs : List Bool, h1[n]? = some (.lst (bs.map IV.bl)) ∧ (∀ b ∈ bs, b = true) ∧ bs.length ≤ k
theorem right_eq (x y : Fq) (h : IH) (hx : Ok 400 x) (hy : Ok 400 y) : WE (f__law_right [fr x, fr y] h) fun v h' => v = .bl true ∧ Gr h h' := by
  unfold f__law_right b__law_right
  have bp := addB hx hy
  have ne := m_ne hx.pos hy.pos
  have bm := hx.b.mul hy.b
  have q1 := Bt.ok hx.t hy.b (by omega)
  have q2 := Bt.ok hy.t hx.b (by omega)
  have q3 := Bt.ok hx.b hy.b (by omega)
  have q4 := Bt.ok hx.t hy.t (by omega)
  have q5 := Bt.ok hx.b hy.t (by omega)
  have f0 : ∀ (z : Fq) (h : IH), ixQ (fr z) (.int 0) h = some (.int z.1, h) := fun _ _ => ixQ_tup0
  have f1 : ∀ (z : Fq) (h : IH), ixQ (fr z) (.int 1) h = some (.int z.2, h) := fun _ _ => ixQ_tup1
  -- the list so far: all true
  -- see Tr
  have tyl : ∀ (n k : Nat) (h1 : IH), Tr h n k h1 → tyI "list" h1 (.ref n) = true := fun n k h1 ⟨_, _, bs, e, _⟩ => tyI_ref e
  have more : ∀ (n k : Nat) (h1 g : IH), Tr h n k h1 → Tr h n k (h1 ++ g) := fun n k h1 g ⟨a, b, bs, e, c⟩ => ⟨a, b.trans (Gr.app _ _), bs, by rw [List.getElem?_append_left (List.getElem?_eq_some_iff.mp e).1]; exact e, c⟩
  have app : ∀ (n k : Nat) (h1 : IH), k < 100 → Tr h n k h1 → ∃ h2, appO (.ref n) [.bl true] h1 = some (.non, h2) ∧ Tr h n (k + 1) h2 := fun n k h1 hk ⟨a, b, bs, e, c, d⟩ =>
    ⟨h1.set n (.lst ((bs ++ [true]).map IV.bl)), by rw [appO_ref e (by simp; omega), List.map_append]; rfl, a, b.put a, bs ++ [true], List.getElem?_set_self (List.getElem?_eq_some_iff.mp e).1, fun q hq => by
      rcases List.mem_append.mp hq with z | z
      · exact c q z
      · simpa using z, by simp; omega⟩
  rw [WE_runF]
  refine WS.seq (M := fun e1 h1 => ∃ n, e1 = [some (fr x), some (fr y), some (.ref n), none] ∧ Tr h n 1 h1) ?_ ?_
  · simp [plus_eq h hx hy (by omega), f0, f1, q1, q2, q3]
    refine (worth_eq _ _ h ne (bp.1.mono (by omega)) (bm.mono (by omega))).mono fun v h1 ⟨e, g, eg⟩ => ?_
    subst e eg
    exact ⟨by simp, (Gr.app h g).trans (Gr.app _ _), [true], by simp, by simp, by simp⟩
  rintro _ h1 ⟨n, rfl, s1⟩
  refine WS.seq (M := fun e2 h2 => e2 = [some (fr x), some (fr y), some (.ref n), none] ∧ Tr h n 2 h2) ?_ ?_
  · simp [tyl n _ h1 s1, minus_eq h1 hx hy (by omega), f0, f1, q1, q2, q3]
    refine (worth_eq _ _ h1 ne (bp.2.mono (by omega)) (bm.mono (by omega))).mono fun v h2 ⟨e, g, eg⟩ => ?_
    subst e eg
    obtain ⟨h2, ea, s2⟩ := app n 1 _ (by omega) (more n 1 h1 g s1)
    rw [ea]
    exact s2
  clear s1
  rintro _ h2 ⟨rfl, s2⟩
  refine WS.seq (M := fun e2 h3 => e2 = [some (fr x), some (fr y), some (.ref n), none] ∧ Tr h n 3 h3) ?_ ?_
  · simp [tyl n _ h2 s2, times_eq h2 hx hy (by omega), f0, f1, q4, q3]
    refine (worth_eq _ _ h2 ne ((hx.t.mul hy.t).mono (by omega)) (bm.mono (by omega))).mono fun v h3 ⟨e, g, eg⟩ => ?_
    subst e eg
    obtain ⟨h3, ea, s3⟩ := app n 2 _ (by omega) (more n 2 h2 g s2)
    rw [ea]
    exact s3
  clear s2
  rintro _ h3 ⟨rfl, s3⟩
  refine WS.seq (M := fun e2 h4 => e2 = [some (fr x), some (fr y), some (.ref n), none] ∧ Tr h n 4 h4) ?_ ?_
  · by_cases h0 : y.1 = 0
    · simp [f0, h0]
      obtain ⟨a, b, bs, e, c, d⟩ := s3
      exact ⟨a, b, bs, e, c, by omega⟩
    · have hne : x.2 * y.1 ≠ 0 := fun e => by
        rcases Int.mul_eq_zero.mp e with e | e
        · have := hx.pos; omega
        · exact h0 e
      simp [f0, f1, h0, tyl n _ h3 s3, over_eq h3 hx hy (by omega) h0, q1, q5]
      refine (worth_eq _ _ h3 hne ((hx.t.mul hy.b).mono (by omega)) ((hx.b.mul hy.t).mono (by omega))).mono fun v h4 ⟨e, g, eg⟩ => ?_
      subst e eg
      obtain ⟨h4, ea, s4⟩ := app n 3 _ (by omega) (more n 3 h3 g s3)
      rw [ea]
      exact s4
  clear s3
  rintro _ h4 ⟨rfl, s4⟩
  refine WS.seq (M := fun e2 h5 => h4 = h5 ∧ e2 = [some (fr x), some (fr y), some (.ref n), some (.bl (decide (x.1 * y.2 < y.1 * x.2)))]) ?_ ?_
  · simp [below_eq h4 hx hy (by omega)]
  rintro _ _ ⟨rfl, rfl⟩
  obtain ⟨h5, ea, s5⟩ := app n 4 h4 (by omega) s4
  obtain ⟨_, g5, bs, e5, c5, _⟩ := s5
  have ball : bs.all id = true := List.all_eq_true.mpr fun b hb => c5 b hb
  simp [tyl n _ h4 s4, f0, f1, q1, q2, ea, allO_at e5, ball]
  refine (refused_eq x 400 h5 hx (by omega)).mono fun v h6 ⟨e, g, eg⟩ => ?_
  subst e eg
  exact ⟨rfl, g5.trans (Gr.app _ _)⟩
theorem cell_eq (ns : List Int) (hb : ∀ z ∈ ns, Bt 1048577 z) (k : Int) (h0 : 0 ≤ k) (h1 : k < 1000) (hl : ns.length ≤ 63) (h : IH) : WE (f__law_cell [.scr ns, .int k] h) fun v h' => ∃ z, v = .int z ∧ Bt 1048577 z ∧ Gr h h' := by
  unfold f__law_cell b__law_cell
  rw [WE_runF]
  simp only [WS_sRet, WE_eOp, WE_eLst, WE_aCons, WE_aNil, WE_slice, WE_oS, WE_oN, WE_eC, eVar_at, List.map, List.length, List.replicate, List.cons_append, List.nil_append, List.getElem?_cons_zero, List.getElem?_cons_succ, WE_ok, WO_some, addO_int, slO_scr]
  generalize es : (ns.drop (HT.sIx ns.length 0 (some k))).take (HT.sIx ns.length ns.length (some (k + 1)) - HT.sIx ns.length 0 (some k)) = ms
  have hms : ∀ z ∈ ms, Bt 1048577 z := fun z hz => hb z (by rw [← es] at hz; exact List.mem_of_mem_drop (List.mem_of_mem_take hz))
  have hml : ms.length ≤ 63 := by rw [← es, List.length_take, List.length_drop]; omega
  rw [addO_ref (xs := ms.map IV.int) (ys := [.int 0]) (by simp) (by simp) (by simp; omega)]
  simp
  have it : ms.map IV.int ++ [IV.int 0] = (ms ++ [0]).map IV.int := by simp
  cases ms with
  | nil =>
    have ix : ixQ (.ref (h.length + 2)) (.int 0) (h ++ [IO.lst (List.map IV.int []), IO.lst [IV.int 0], IO.lst (List.map IV.int [] ++ [IV.int 0])]) = some (.int 0, _) := ixQ_ref (k := 0) (xs := [.int 0]) (by simp) rfl
    rw [ix]
    exact ⟨0, rfl, Nat.two_pow_pos _, by simpa using Gr.app h _⟩
  | cons m ms =>
    have ix : ixQ (.ref (h.length + 2)) (.int 0) (h ++ [.lst ((m :: ms).map IV.int), .lst [.int 0], .lst ((m :: ms).map IV.int ++ [.int 0])]) = some (.int m, h ++ [.lst ((m :: ms).map IV.int), .lst [.int 0], .lst ((m :: ms).map IV.int ++ [.int 0])]) := ixQ_ref (k := 0) (xs := (m :: ms).map IV.int ++ [.int 0]) (by simp) rfl
    simp at ix ⊢
    rw [ix]
    exact ⟨m, rfl, hms m List.mem_cons_self, Gr.app h _⟩
theorem frac_eq (c : Int) (h : IH) (hb : Bt 1048577 c) : WE (f__law_fraction [.int c] h) fun v h' => ∃ x, v = fr x ∧ Ok 400 x ∧ Gr h h' := by
  unfold f__law_fraction b__law_fraction
  simp
  refine (pool_eq c h hb).mono fun v h1 ⟨e, p1, l1, k1⟩ => ?_
  subst e
  have g1 : Gr h h1 := ⟨by omega, k1⟩
  try simp
  refine (size_eq h.length h1 p1).mono fun v h2 ⟨t, e, bt, p2, d2⟩ => ?_
  subst e
  try simp
  refine (size_eq h.length h2 p2).mono fun v h3 ⟨b, e, bb, p3, d3⟩ => ?_
  subst e
  have g3 := (g1.dr (Nat.le_refl _) d2).dr (Nat.le_refl _) d3
  try simp
  generalize em : (if 1 < (if b < 0 then -b else b) then (if b < 0 then -b else b) else 1) = m
  have mp : 0 < m := by rw [← em]; split <;> omega
  have bm : Bt 400 m := by
    unfold Bt at bb ⊢
    have : m.natAbs ≤ b.natAbs ∨ m = 1 := by rw [← em]; split <;> first | omega | (right; rfl)
    rcases this with z | z
    · omega
    · subst z; exact Nat.one_lt_two_pow (by omega)
  have ge := lgcd_eq t m h3 (bm.mono (by omega))
  have gs : sg t m = (Int.gcd t m : Int) := by unfold sg; rw [if_neg (by omega)]
  have gn := gcd_ne (a := t) (show m ≠ 0 by omega)
  have gb := Bt.dv (gcd_bt (a := t) bm (by omega)) (by omega)
  simp [ge]
  have o := low_ok (show m ≠ 0 by omega) bt bm
  unfold low at o
  rw [gs] at o
  refine ⟨⟨fun _ => by omega, by simpa using gb⟩, ?_⟩
  exact ⟨_, _, rfl, o, g3⟩
theorem neO_fr (p q : Fq) (h : IH) (e : p = q) : neO (fr p) (fr q) h = some (.bl false, h) := by
  subst e
  have d : toD h 64 (fr p) = some (.tuple [.int p.1, .int p.2]) := by simp [fr, toD, toDs]
  have : eqD not (fr p) (fr p) h = some (.bl false, h) := by
    simp only [eqD, d]
    have sh : SeqAt.shaped (PyData.tuple [PyData.int p.1, PyData.int p.2]) = true := by rfl
    simp [sh, PyData.eqv, PyData.eqvAll]
  unfold neO orO
  simpa [fr, eqS] using this
theorem law_turn (ns : List Int) (hb : ∀ z ∈ ns, Bt 1048577 z) (hl : ns.length ≤ 63) (k : Int) (k0 : 0 ≤ k) (k1 : k < 900) (h : IH) (r2 r3 r4 r5 : Option IV) (N C B : Env → IH → Prop) (R : IV → IH → Prop)
    (hN : ∀ h' s2 s3 s4 s5, N [some (.scr ns), some (.int k), s2, s3, s4, s5] h') : WS (bd_law_0 [some (.scr ns), some (.int k), r2, r3, r4, r5] h) N R B C := by
  unfold bd_law_0
  refine WS.seq (M := fun e1 h1 => ∃ x y z s5, e1 = [some (.scr ns), some (.int k), some (fr x), some (fr y), some (fr z), s5] ∧ Ok 400 x ∧ Ok 400 y ∧ Ok 400 z) ?_ ?_
  · simp [-Prod.exists, -Prod.forall]
    refine WE_comp 3 (fun j h' => ∃ xs : List Fq, xs.length = j ∧ h'[h.length]? = some (.lst (xs.map fr)) ∧ ∀ x ∈ xs, Ok 400 x) ?_ ?_ FU 0 _ (Nat.zero_le _) ⟨[], rfl, by simp, by simp⟩ (FU_lt64 (by omega))
    · rintro j h1 hj ⟨xs, ex, e1, ok⟩
      refine ⟨.int (0 + (j : Int)), by unfold rngIt; simp [hj], _, rfl, ?_⟩
      simp [wipeE, -Prod.exists, -Prod.forall]
      refine (cell_eq ns hb (k + j) (by omega) (by omega) hl h1).mono fun v h2 ⟨c, e, bc, g1⟩ => ?_
      subst e
      refine (frac_eq c h2 bc).mono fun v h3 ⟨x, e, ox, g2⟩ => ?_
      subst e
      have hn := (List.getElem?_eq_some_iff.mp e1).1
      have e3 : h3[h.length]? = some (.lst (xs.map fr)) := ((g1.trans g2).at_ _ hn).trans e1
      refine ⟨xs.map fr, e3, by simp; omega, xs ++ [x], by simp; omega, ?_, ?_⟩
      · rw [List.map_append]
        exact List.getElem?_set_self (List.getElem?_eq_some_iff.mp e3).1
      · intro q hq
        rcases List.mem_append.mp hq with z | z
        · exact ok q z
        · rw [List.mem_singleton.mp z]; exact ox
    · rintro h1 ⟨xs, ex, e1, ok⟩
      match xs, ex with
      | [x, y, z], _ =>
        refine ⟨by unfold rngIt; simp, ?_⟩
        simp [gTL, e1, gsCons, gN, gsNil, -Prod.exists]
        refine ⟨x, y, z, ⟨rfl, rfl, rfl⟩, ok x (by simp), ok y (by simp), ok z (by simp)⟩
  rintro _ h1 ⟨x, y, z, s5, rfl, ox, oy, oz⟩
  refine WS.seq (M := fun e1 h1 => ∃ x y z s5, e1 = [some (.scr ns), some (.int k), some (fr x), some (fr y), some (fr z), s5] ∧ Ok 400 x ∧ Ok 400 y ∧ Ok 400 z) ?_ ?_
  · simp [-Prod.exists]
    refine (cell_eq ns hb k k0 (by omega) hl h1).mono fun v h2 ⟨c, e, bc, g1⟩ => ?_
    subst e
    have l4 : Nat.log2 4 = 2 := by decide +kernel
    by_cases hc : c.fmod 4 = 1
    · simp [hc, l4, -Prod.exists]
      exact ⟨x, x, z, ⟨rfl, rfl, rfl⟩, ox, ox, oz⟩
    · simp [hc, l4, -Prod.exists]
      exact ⟨x, y, z, ⟨rfl, rfl, rfl⟩, ox, oy, oz⟩
  clear ox oy oz x y z s5 h1
  rintro _ h1 ⟨x, y, z, s5, rfl, ox, oy, oz⟩
  refine WS.seq (M := fun e1 h1 => e1 = [some (.scr ns), some (.int k), some (fr x), some (fr y), some (fr z), s5]) ?_ ?_
  · simp
    refine (right_eq x y h1 ox oy).mono fun v h2 ⟨e, g⟩ => ?_
    subst e
    simp
    refine (right_eq y x h2 oy ox).mono fun v h3 ⟨e, g⟩ => ?_
    subst e
    simp
  rintro _ h2 rfl
  have p1 := plusF_ok oy oz
  have p2 := timesF_ok ox oy
  have p3 := timesF_ok ox oz
  have p4 := plusF_ok ox oz
  simp [plus_eq h2 oy oz (by omega), times_eq h2 ox p1 (by omega), times_eq h2 ox oy (by omega), times_eq h2 ox oz (by omega), plus_eq h2 p2 p3 (by omega), plus_eq h2 ox oz (by omega), below_eq h2 p4 p1 (by omega), below_eq h2 ox oy (by omega), neO_fr _ _ h2 (distrib ox.pos oy.pos oz.pos), mono ox.pos oy.pos oz.pos]
  exact hN _ _ _ _ _
theorem pure_law : ∀ ns : List Int, ns.length ≤ 63 → (∀ z ∈ ns, Builtin.Int.intBits z ≤ 1048576) → ∃ h, f_law [.scr ns] [] = some (.ok (.bl true), h) := by
  intro ns hl hb
  suffices w : WE (f_law [.scr ns] []) (fun v _ => v = .bl true) by
    obtain ⟨v, h', e, rfl⟩ := w.out
    exact ⟨h', e⟩
  have hbt : ∀ z ∈ ns, Bt 1048577 z := fun z hz => bt_bits (hb z hz)
  unfold f_law b_law
  have sm : Builtin.Range.small 0 39 3 = true := by decide +kernel
  have sz : Builtin.Range.rangeSize 0 39 3 = 13 := by decide +kernel
  simp [sm, sz]
  refine WS_for 13 (fun i env h => ∃ r1 r2 r3 r4 r5, env = [some (.scr ns), r1, r2, r3, r4, r5]) ?_ ?_ FU 0 _ [] (Nat.zero_le _) ⟨_, _, _, _, _, rfl⟩ (FU_lt64 (by omega))
  · rintro i env h hi ⟨r1, r2, r3, r4, r5, rfl⟩
    refine ⟨.int (0 + (i : Int) * 3), by unfold rngC; simp [hi], _, rfl, ?_⟩
    exact law_turn ns hbt hl _ (by omega) (by omega) h r2 r3 r4 r5 _ _ _ _ (fun h' s2 s3 s4 s5 => ⟨_, _, _, _, _, rfl⟩)
  · rintro env h ⟨r1, r2, r3, r4, r5, rfl⟩
    refine ⟨by unfold rngC; simp, ?_⟩
    simp

structure Tx (K : PySem.W.Frag) (mg : Str → Option Value) : Prop where
  m_ValueError : mg "ValueError" = none
  m_abs : mg "abs" = none
  m_all : mg "all" = none
  m_bool : mg "bool" = none
  m_int : mg "int" = none
  m_isinstance : mg "isinstance" = none
  m_len : mg "len" = none
  m_max : mg "max" = none
  m_range : mg "range" = none
  m_tuple : mg "tuple" = none
  gc_GradeError : mg "GradeError" = some (.ref (He.ga K "GradeError"))
  gc_NoCount : mg "NoCount" = some (.ref (He.ga K "NoCount"))
  gc_NoFraction : mg "NoFraction" = some (.ref (He.ga K "NoFraction"))
  gc_NoKept : mg "NoKept" = some (.ref (He.ga K "NoKept"))
  gc_NoKind : mg "NoKind" = some (.ref (He.ga K "NoKind"))
  gc_NoLetter : mg "NoLetter" = some (.ref (He.ga K "NoLetter"))
  gc_NoName : mg "NoName" = some (.ref (He.ga K "NoName"))
  gc_NoRow : mg "NoRow" = some (.ref (He.ga K "NoRow"))
  gc_NoSaying : mg "NoSaying" = some (.ref (He.ga K "NoSaying"))
  gc_NoTable : mg "NoTable" = some (.ref (He.ga K "NoTable"))
  gc_TooMany : mg "TooMany" = some (.ref (He.ga K "TooMany"))
  x_NoFraction : (He.Fa.exc "NoFraction").ok K = true
  ca_GradeError : catAll K (.ref (He.ga K "GradeError")) [("NoFraction", true)] = true
  ki_NoCount : kitAll K (.ref (He.ga K "NoCount")) [("NoFraction", false)] = true
  ki_NoFraction : kitAll K (.ref (He.ga K "NoFraction")) [("NoFraction", true)] = true
  ki_NoKept : kitAll K (.ref (He.ga K "NoKept")) [("NoFraction", false)] = true
  ki_NoKind : kitAll K (.ref (He.ga K "NoKind")) [("NoFraction", false)] = true
  ki_NoLetter : kitAll K (.ref (He.ga K "NoLetter")) [("NoFraction", false)] = true
  ki_NoName : kitAll K (.ref (He.ga K "NoName")) [("NoFraction", false)] = true
  ki_NoRow : kitAll K (.ref (He.ga K "NoRow")) [("NoFraction", false)] = true
  ki_NoSaying : kitAll K (.ref (He.ga K "NoSaying")) [("NoFraction", false)] = true
  ki_NoTable : kitAll K (.ref (He.ga K "NoTable")) [("NoFraction", false)] = true
  ki_TooMany : kitAll K (.ref (He.ga K "TooMany")) [("NoFraction", false)] = true
  ki_ValueError : kitAll K (.type "ValueError") [("NoFraction", true)] = true
  g__law_pool : mg "_law_pool" = some (.ref (He.ga K "_law_pool"))
  d__law_pool : FnT K "_law_pool" s__law_pool
  g__law_draw : mg "_law_draw" = some (.ref (He.ga K "_law_draw"))
  d__law_draw : FnT K "_law_draw" s__law_draw
  g__law_size : mg "_law_size" = some (.ref (He.ga K "_law_size"))
  d__law_size : FnT K "_law_size" s__law_size
  g__law_gcd : mg "_law_gcd" = some (.ref (He.ga K "_law_gcd"))
  d__law_gcd : FnT K "_law_gcd" s__law_gcd
  g__law_fraction : mg "_law_fraction" = some (.ref (He.ga K "_law_fraction"))
  d__law_fraction : FnT K "_law_fraction" s__law_fraction
  g__law_cell : mg "_law_cell" = some (.ref (He.ga K "_law_cell"))
  d__law_cell : FnT K "_law_cell" s__law_cell
  g_below : mg "below" = some (.ref (He.ga K "below"))
  d_below : FnT K "below" s_below
  g__law_is_fraction : mg "_law_is_fraction" = some (.ref (He.ga K "_law_is_fraction"))
  d__law_is_fraction : FnT K "_law_is_fraction" s__law_is_fraction
  g__law_worth : mg "_law_worth" = some (.ref (He.ga K "_law_worth"))
  d__law_worth : FnT K "_law_worth" s__law_worth
  g_share_of : mg "share_of" = some (.ref (He.ga K "share_of"))
  d_share_of : FnT K "share_of" s_share_of
  g_fraction : mg "fraction" = some (.ref (He.ga K "fraction"))
  d_fraction : FnT K "fraction" s_fraction
  g_over : mg "over" = some (.ref (He.ga K "over"))
  d_over : FnT K "over" s_over
  g__law_alone : mg "_law_alone" = some (.ref (He.ga K "_law_alone"))
  d__law_alone : FnT K "_law_alone" s__law_alone
  g__law_refused : mg "_law_refused" = some (.ref (He.ga K "_law_refused"))
  d__law_refused : FnT K "_law_refused" s__law_refused
  g_plus : mg "plus" = some (.ref (He.ga K "plus"))
  d_plus : FnT K "plus" s_plus
  g_minus : mg "minus" = some (.ref (He.ga K "minus"))
  d_minus : FnT K "minus" s_minus
  g_times : mg "times" = some (.ref (He.ga K "times"))
  d_times : FnT K "times" s_times
  g__law_right : mg "_law_right" = some (.ref (He.ga K "_law_right"))
  d__law_right : FnT K "_law_right" s__law_right
  g_law : mg "law" = some (.ref (He.ga K "law"))
  d_law : FnT K "law" s_law
section
variable {P : Program} {w : World} {K : PySem.W.Frag} {mg : Str → Option Value} {base : Heap}
theorem sc__law_pool : FnScope ["_law_cell_here", "_law_rest", "_law_one"] ["_law_cell_here"] (defScope s__law_pool) := ⟨rfl, rfl, rfl, by decide +kernel, rfl, by decide +kernel, by decide +kernel⟩
theorem ok__law_pool (T : Tx K mg) : Df P w K mg base "_law_pool" 1 ["_law_cell_here"] f__law_pool := df_mk T.g__law_pool T.d__law_pool sc__law_pool (fun _ _ _ _ _ _ us hl => match us, hl with | [_], _ => rfl) (fun f cdv A outer s H E hr tk hp => ⟨_, by
  exact (sb_cons (ss_asg (i := 1) sc__law_pool.nd rfl (by first | exact .inl rfl | exact .inr rfl) (se_int))
  (sb_cons (ss_if (SW.st (sw_or (st_cmp so_lt (se_var (pv 0)) (se_int) (nomark _)) (sw_or1 (st_cmp so_ge (se_var (pv 0)) (se_op so_powI (se_int) (se_int)) (nomark _))))) (sb_one (ss_asg (i := 1) sc__law_pool.nd rfl (by first | exact .inl rfl | exact .inr rfl) (se_callB sc_abs (by rfl) T.m_abs (by decide +kernel) (sa_cons (se_var (pv 0)) (sa_nil))))) (sb_nil))
  (sb_cons (ss_asg (i := 2) sc__law_pool.nd rfl (by first | exact .inl rfl | exact .inr rfl) (se_op so_modI (se_var (pv 0)) (se_int)))
  (sb_one (ss_ret (se_lst (sa_cons (se_var (pv 1)) (sa_cons (se_var (pv 2)) (sa_cons (se_op so_modI (se_op (so_addK K) (se_op so_mulI (se_var (pv 2)) (se_int)) (se_int)) (se_int)) (sa_nil))))))))))⟩)
theorem sc__law_draw : FnScope ["_law_pool_here", "_law_many", "_law_found"] ["_law_pool_here", "_law_many"] (defScope s__law_draw) := ⟨rfl, rfl, rfl, by decide +kernel, rfl, by decide +kernel, by decide +kernel⟩
theorem ok__law_draw (T : Tx K mg) : Df P w K mg base "_law_draw" 1 ["_law_pool_here", "_law_many"] f__law_draw := df_mk T.g__law_draw T.d__law_draw sc__law_draw (fun _ _ _ _ _ _ us hl => match us, hl with | [_, _], _ => rfl) (fun f cdv A outer s H E hr tk hp => ⟨_, by
  exact (sb_cons (ss_if (st_cmp so_gt (se_ixK K (se_var (pv 0)) (se_int) (fun _ _ => rfl)) (se_int) (nomark _)) (sb_cons (ss_asg (i := 2) sc__law_draw.nd rfl (by first | exact .inl rfl | exact .inr rfl) (se_op so_modI (se_ixK K (se_var (pv 0)) (se_int) (fun _ _ => rfl)) (se_var (pv 1))))
  (sb_cons (ss_subL (se_var (pv 0)) (se_int) (se_op so_divI (se_ixK K (se_var (pv 0)) (se_int) (fun _ _ => rfl)) (se_var (pv 1))) (fun a b c => ps_asg a (pg_sub b c set_list)))
  (sb_one (ss_ret (se_var (pv 2)))))) (sb_nil))
  (sb_cons (ss_subL (se_var (pv 0)) (se_int) (se_op so_modI (se_op (so_addK K) (se_op (so_addK K) (se_op so_mulI (se_ixK K (se_var (pv 0)) (se_int) (fun _ _ => rfl)) (se_int)) (se_ixK K (se_var (pv 0)) (se_int) (fun _ _ => rfl))) (se_int)) (se_int)) (fun a b c => ps_asg a (pg_sub b c set_list)))
  (sb_cons (ss_subL (se_var (pv 0)) (se_int) (se_op so_modI (se_op (so_addK K) (se_op (so_addK K) (se_op so_mulI (se_ixK K (se_var (pv 0)) (se_int) (fun _ _ => rfl)) (se_int)) (se_op so_modI (se_op so_mulI (se_ixK K (se_var (pv 0)) (se_int) (fun _ _ => rfl)) (se_ixK K (se_var (pv 0)) (se_int) (fun _ _ => rfl))) (se_int))) (se_int)) (se_int)) (fun a b c => ps_asg a (pg_sub b c set_list)))
  (sb_one (ss_ret (se_op so_modI (se_op so_divI (se_op (so_addK K) (se_ixK K (se_var (pv 0)) (se_int) (fun _ _ => rfl)) (se_op so_mulI (se_int) (se_ixK K (se_var (pv 0)) (se_int) (fun _ _ => rfl)))) (se_int)) (se_var (pv 1))))))))⟩)
theorem sc__law_size : FnScope ["_law_pool_here", "_law_kind", "_law_found", "_law_turn"] ["_law_pool_here"] (defScope s__law_size) := ⟨rfl, rfl, rfl, by decide +kernel, rfl, by decide +kernel, by decide +kernel⟩
theorem ok__law_size (T : Tx K mg) : Df P w K mg base "_law_size" 2 ["_law_pool_here"] f__law_size := df_mk T.g__law_size T.d__law_size sc__law_size (fun _ _ _ _ _ _ us hl => match us, hl with | [_], _ => rfl) (fun f cdv A outer s H E hr tk hp => ⟨_, by
  exact (sb_cons (ss_asg (i := 1) sc__law_size.nd rfl (by first | exact .inl rfl | exact .inr rfl) (se_callDK (ok__law_draw T) hr tk (sa_cons (se_var (pv 0)) (sa_cons (se_int) (sa_nil))) (aCons_len (aCons_len aNil_len))))
  (sb_cons (ss_if (st_cmp so_lt (se_var (pv 1)) (se_int) (nomark _)) (sb_one (ss_ret (se_op so_subI (se_callDK (ok__law_draw T) hr tk (sa_cons (se_var (pv 0)) (sa_cons (se_int) (sa_nil))) (aCons_len (aCons_len aNil_len))) (se_int)))) (sb_nil))
  (sb_cons (ss_if (st_cmp (so_eqK K hr) (se_var (pv 1)) (se_int) (nomark _)) (sb_one (ss_ret (se_op so_subI (se_callDK (ok__law_draw T) hr tk (sa_cons (se_var (pv 0)) (sa_cons (se_int) (sa_nil))) (aCons_len (aCons_len aNil_len))) (se_int)))) (sb_nil))
  (sb_cons (ss_asg (i := 2) sc__law_size.nd rfl (by first | exact .inl rfl | exact .inr rfl) (se_int))
  (sb_cons (ss_for hp (by rfl) (si_r1 (by rfl) T.m_range (sa_cons (se_op (so_addK K) (se_int) (se_callDK (ok__law_draw T) hr tk (sa_cons (se_var (pv 0)) (sa_cons (se_int) (sa_nil))) (aCons_len (aCons_len aNil_len)))) (sa_nil))) (sg_name (i := 3) sc__law_size.nd rfl (by first | exact .inl rfl | exact .inr rfl)) (sb_one (ss_asg (i := 2) sc__law_size.nd rfl (by first | exact .inl rfl | exact .inr rfl) (se_op (so_addK K) (se_op so_mulI (se_var (pv 2)) (se_int)) (se_callDK (ok__law_draw T) hr tk (sa_cons (se_var (pv 0)) (sa_cons (se_int) (sa_nil))) (aCons_len (aCons_len aNil_len)))))))
  (sb_one (ss_ret (se_op so_mulI (se_var (pv 2)) (se_op so_subI (se_int) (se_op so_mulI (se_int) (se_callDK (ok__law_draw T) hr tk (sa_cons (se_var (pv 0)) (sa_cons (se_int) (sa_nil))) (aCons_len (aCons_len aNil_len)))))))))))))⟩)
theorem sc__law_gcd : FnScope ["_law_one", "_law_other"] ["_law_one", "_law_other"] (defScope s__law_gcd) := ⟨rfl, rfl, rfl, by decide +kernel, rfl, by decide +kernel, by decide +kernel⟩
theorem ok__law_gcd (T : Tx K mg) : Df P w K mg base "_law_gcd" 1 ["_law_one", "_law_other"] f__law_gcd := df_mk T.g__law_gcd T.d__law_gcd sc__law_gcd (fun _ _ _ _ _ _ us hl => match us, hl with | [_, _], _ => rfl) (fun f cdv A outer s H E hr tk hp => ⟨_, by
  exact (sb_cons (ss_while hp (st_cmp (so_neK K hr) (se_var (pv 1)) (se_int) (nomark _)) (sb_one (ss_par (i := 0) (j := 1) (sa_cons (se_var (pv 1)) (sa_cons (se_op so_modI (se_var (pv 0)) (se_var (pv 1))) (sa_nil))) (fun z => ps_par (by rfl) sc__law_gcd.nd rfl rfl (by decide) rfl rfl z (by rfl)))))
  (sb_one (ss_ret (se_callB sc_abs (by rfl) T.m_abs (by decide +kernel) (sa_cons (se_var (pv 0)) (sa_nil))))))⟩)
theorem sc__law_fraction : FnScope ["_law_cell_here", "_law_pool_here", "_law_top", "_law_bottom", "_law_share"] ["_law_cell_here"] (defScope s__law_fraction) := ⟨rfl, rfl, rfl, by decide +kernel, rfl, by decide +kernel, by decide +kernel⟩
theorem ok__law_fraction (T : Tx K mg) : Df P w K mg base "_law_fraction" 3 ["_law_cell_here"] f__law_fraction := df_mk T.g__law_fraction T.d__law_fraction sc__law_fraction (fun _ _ _ _ _ _ us hl => match us, hl with | [_], _ => rfl) (fun f cdv A outer s H E hr tk hp => ⟨_, by
  exact (sb_cons (ss_asg (i := 1) sc__law_fraction.nd rfl (by first | exact .inl rfl | exact .inr rfl) (se_callDK (ok__law_pool T) hr tk (sa_cons (se_var (pv 0)) (sa_nil)) (aCons_len aNil_len)))
  (sb_cons (ss_asg (i := 2) sc__law_fraction.nd rfl (by first | exact .inl rfl | exact .inr rfl) (se_callDK (ok__law_size T) hr tk (sa_cons (se_var (pv 1)) (sa_nil)) (aCons_len aNil_len)))
  (sb_cons (ss_asg (i := 3) sc__law_fraction.nd rfl (by first | exact .inl rfl | exact .inr rfl) (se_callB (sc_max rfl) (by rfl) T.m_max (by decide +kernel) (sa_cons (se_int) (sa_cons (se_callB sc_abs (by rfl) T.m_abs (by decide +kernel) (sa_cons (se_callDK (ok__law_size T) hr tk (sa_cons (se_var (pv 1)) (sa_nil)) (aCons_len aNil_len)) (sa_nil))) (sa_nil)))))
  (sb_cons (ss_asg (i := 4) sc__law_fraction.nd rfl (by first | exact .inl rfl | exact .inr rfl) (se_callDK (ok__law_gcd T) hr tk (sa_cons (se_var (pv 2)) (sa_cons (se_var (pv 3)) (sa_nil))) (aCons_len (aCons_len aNil_len))))
  (sb_one (ss_ret (se_tup (sa_cons (se_op so_divI (se_var (pv 2)) (se_var (pv 4))) (sa_cons (se_op so_divI (se_var (pv 3)) (se_var (pv 4))) (sa_nil))))))))))⟩)
theorem sc__law_cell : FnScope ["_law_script", "_law_place"] ["_law_script", "_law_place"] (defScope s__law_cell) := ⟨rfl, rfl, rfl, by decide +kernel, rfl, by decide +kernel, by decide +kernel⟩
theorem ok__law_cell (T : Tx K mg) : Df P w K mg base "_law_cell" 1 ["_law_script", "_law_place"] f__law_cell := df_mk T.g__law_cell T.d__law_cell sc__law_cell (fun _ _ _ _ _ _ us hl => match us, hl with | [_, _], _ => rfl) (fun f cdv A outer s H E hr tk hp => ⟨_, by
  exact (sb_one (ss_ret (se_ixK K (se_op (so_addK K) (se_sliceK K (se_var (pv 0)) (so_some (se_var (pv 1))) (so_some (se_op (so_addK K) (se_var (pv 1)) (se_int)))) (se_lst (sa_cons (se_int) (sa_nil)))) (se_int) (fun _ _ => rfl))))⟩)
theorem sc_below : FnScope ["a", "b"] ["a", "b"] (defScope s_below) := ⟨rfl, rfl, rfl, by decide +kernel, rfl, by decide +kernel, by decide +kernel⟩
theorem ok_below (T : Tx K mg) : Df P w K mg base "below" 1 ["a", "b"] f_below := df_mk T.g_below T.d_below sc_below (fun _ _ _ _ _ _ us hl => match us, hl with | [_, _], _ => rfl) (fun f cdv A outer s H E hr tk hp => ⟨_, by
  exact (sb_one (ss_ret (se_cmp so_lt (se_op so_mulI (se_ixK K (se_var (pv 0)) (se_int) (fun _ _ => rfl)) (se_ixK K (se_var (pv 1)) (se_int) (fun _ _ => rfl))) (se_op so_mulI (se_ixK K (se_var (pv 1)) (se_int) (fun _ _ => rfl)) (se_ixK K (se_var (pv 0)) (se_int) (fun _ _ => rfl))) (nomark _))))⟩)
theorem sc__law_is_fraction : FnScope ["_law_found", "_law_one"] ["_law_found"] (defScope s__law_is_fraction) := ⟨rfl, rfl, rfl, by decide +kernel, rfl, by decide +kernel, by decide +kernel⟩
theorem ok__law_is_fraction (T : Tx K mg) : Df P w K mg base "_law_is_fraction" 2 ["_law_found"] f__law_is_fraction := df_mk T.g__law_is_fraction T.d__law_is_fraction sc__law_is_fraction (fun _ _ _ _ _ _ us hl => match us, hl with | [_], _ => rfl) (fun f cdv A outer s H E hr tk hp => ⟨_, by
  exact (sb_cons (ss_if (SW.st (sw_or (st_not (st_truthK K (se_isiK K (T := "tuple") T.m_isinstance T.m_tuple (se_var (pv 0)) (by decide +kernel) (by rfl) (pe_bltn (by rfl) T.m_tuple (by decide +kernel) rfl) (fun pb pa => pe_callB call_isi (by rfl) T.m_isinstance (by decide +kernel) (pa_cons pa (pa_cons pb pa_nil)))))) (sw_or1 (st_cmp (so_neK K hr) (se_callB (sc_lenK K) (by rfl) T.m_len (by decide +kernel) (sa_cons (se_var (pv 0)) (sa_nil))) (se_int) (nomark _))))) (sb_one (ss_ret (se_bl))) (sb_nil))
  (sb_cons (ss_if (st_not (st_truthK K (se_callB (sc_allK K rfl) (by rfl) T.m_all (by decide +kernel) (sa_cons (se_lc (own := [("_law_one", 1)]) (by rfl) sc__law_is_fraction.nd (si_seqK K (se_var (pv 0))) (blkOk_by (own := [("_law_one", 1)]) (N := ["_law_found", "_law_one"]) (sc := (defScope s__law_is_fraction)) (by decide +kernel)) (fun _ _ _ _ _ => sg_name (i := 1) sc__law_is_fraction.nd rfl (by first | exact .inl rfl | exact .inr rfl)) (gin_name (by decide)) mono_name (fun _ _ _ _ _ => sts_nil) (fun _ _ _ _ _ => se_and (se_isiK K (T := "int") T.m_isinstance T.m_int (se_var (pv 1)) (by decide +kernel) (by rfl) (pe_bltn (by rfl) T.m_int (by decide +kernel) rfl) (fun pb pa => pe_callB call_isi (by rfl) T.m_isinstance (by decide +kernel) (pa_cons pa (pa_cons pb pa_nil)))) ((se_one (se_not (se_isiK K (T := "bool") T.m_isinstance T.m_bool (se_var (pv 1)) (by decide +kernel) (by rfl) (pe_bltn (by rfl) T.m_bool (by decide +kernel) rfl) (fun pb pa => pe_callB call_isi (by rfl) T.m_isinstance (by decide +kernel) (pa_cons pa (pa_cons pb pa_nil))))))))) (sa_nil))))) (sb_one (ss_ret (se_bl))) (sb_nil))
  (sb_one (ss_ret (se_and (se_cmp so_gt (se_ixK K (se_var (pv 0)) (se_int) (fun _ _ => rfl)) (se_int) (nomark _)) ((se_one (se_cmp (so_eqK K hr) (se_callDK (ok__law_gcd T) hr tk (sa_cons (se_ixK K (se_var (pv 0)) (se_int) (fun _ _ => rfl)) (sa_cons (se_ixK K (se_var (pv 0)) (se_int) (fun _ _ => rfl)) (sa_nil))) (aCons_len (aCons_len aNil_len))) (se_int) (nomark _)))))))))⟩)
theorem sc__law_worth : FnScope ["_law_found", "_law_top", "_law_bottom"] ["_law_found", "_law_top", "_law_bottom"] (defScope s__law_worth) := ⟨rfl, rfl, rfl, by decide +kernel, rfl, by decide +kernel, by decide +kernel⟩
theorem ok__law_worth (T : Tx K mg) : Df P w K mg base "_law_worth" 3 ["_law_found", "_law_top", "_law_bottom"] f__law_worth := df_mk T.g__law_worth T.d__law_worth sc__law_worth (fun _ _ _ _ _ _ us hl => match us, hl with | [_, _, _], _ => rfl) (fun f cdv A outer s H E hr tk hp => ⟨_, by
  exact (sb_one (ss_ret (se_and (se_callDK (ok__law_is_fraction T) hr tk (sa_cons (se_var (pv 0)) (sa_nil)) (aCons_len aNil_len)) ((se_one (se_cmp (so_eqK K hr) (se_op so_mulI (se_ixK K (se_var (pv 0)) (se_int) (fun _ _ => rfl)) (se_var (pv 2))) (se_op so_mulI (se_var (pv 1)) (se_ixK K (se_var (pv 0)) (se_int) (fun _ _ => rfl))) (nomark _)))))))⟩)
theorem sc_share_of : FnScope ["one", "other"] ["one", "other"] (defScope s_share_of) := ⟨rfl, rfl, rfl, by decide +kernel, rfl, by decide +kernel, by decide +kernel⟩
theorem ok_share_of (T : Tx K mg) : Df P w K mg base "share_of" 1 ["one", "other"] f_share_of := df_mk T.g_share_of T.d_share_of sc_share_of (fun _ _ _ _ _ _ us hl => match us, hl with | [_, _], _ => rfl) (fun f cdv A outer s H E hr tk hp => ⟨_, by
  exact (sb_cons (ss_while hp (st_cmp (so_neK K hr) (se_var (pv 1)) (se_int) (nomark _)) (sb_one (ss_par (i := 0) (j := 1) (sa_cons (se_var (pv 1)) (sa_cons (se_op so_modI (se_var (pv 0)) (se_var (pv 1))) (sa_nil))) (fun z => ps_par (by rfl) sc_share_of.nd rfl rfl (by decide) rfl rfl z (by rfl)))))
  (sb_one (ss_ret (se_callB sc_abs (by rfl) T.m_abs (by decide +kernel) (sa_cons (se_var (pv 0)) (sa_nil))))))⟩)
theorem sc_fraction : FnScope ["top", "bottom", "share"] ["top", "bottom"] (defScope s_fraction) := ⟨rfl, rfl, rfl, by decide +kernel, rfl, by decide +kernel, by decide +kernel⟩
theorem ok_fraction (T : Tx K mg) : Df P w K mg base "fraction" 2 ["top", "bottom"] f_fraction := df_mk T.g_fraction T.d_fraction sc_fraction (fun _ _ _ _ _ _ us hl => match us, hl with | [_, _], _ => rfl) (fun f cdv A outer s H E hr tk hp => ⟨_, by
  exact (sb_cons (ss_if (st_cmp (so_eqK K hr) (se_var (pv 1)) (se_int) (nomark _)) (sb_one (ss_raise (ps_raise (by rfl) tk (pmk_own PySem.F.excBase_ValueError (He.exc_ok T.x_NoFraction).1 T.gc_NoFraction (He.exc_ok T.x_NoFraction).2.1 (raises_own (He.exc_ok T.x_NoFraction).2.2.1 (He.exc_ok T.x_NoFraction).2.2.2) (by rfl))))) (sb_nil))
  (sb_cons (ss_asg (i := 2) sc_fraction.nd rfl (by first | exact .inl rfl | exact .inr rfl) (se_callDK (ok_share_of T) hr tk (sa_cons (se_var (pv 0)) (sa_cons (se_var (pv 1)) (sa_nil))) (aCons_len (aCons_len aNil_len))))
  (sb_cons (ss_if (st_cmp so_lt (se_var (pv 1)) (se_int) (nomark _)) (sb_one (ss_asg (i := 2) sc_fraction.nd rfl (by first | exact .inl rfl | exact .inr rfl) (se_op so_subI (se_int) (se_var (pv 2))))) (sb_nil))
  (sb_one (ss_ret (se_tup (sa_cons (se_op so_divI (se_var (pv 0)) (se_var (pv 2))) (sa_cons (se_op so_divI (se_var (pv 1)) (se_var (pv 2))) (sa_nil)))))))))⟩)
theorem sc_over : FnScope ["a", "b"] ["a", "b"] (defScope s_over) := ⟨rfl, rfl, rfl, by decide +kernel, rfl, by decide +kernel, by decide +kernel⟩
theorem ok_over (T : Tx K mg) : Df P w K mg base "over" 3 ["a", "b"] f_over := df_mk T.g_over T.d_over sc_over (fun _ _ _ _ _ _ us hl => match us, hl with | [_, _], _ => rfl) (fun f cdv A outer s H E hr tk hp => ⟨_, by
  exact (sb_one (ss_ret (se_callDK (ok_fraction T) hr tk (sa_cons (se_op so_mulI (se_ixK K (se_var (pv 0)) (se_int) (fun _ _ => rfl)) (se_ixK K (se_var (pv 1)) (se_int) (fun _ _ => rfl))) (sa_cons (se_op so_mulI (se_ixK K (se_var (pv 0)) (se_int) (fun _ _ => rfl)) (se_ixK K (se_var (pv 1)) (se_int) (fun _ _ => rfl))) (sa_nil))) (aCons_len (aCons_len aNil_len)))))⟩)
theorem sc__law_alone : FnScope ["_law_e", "_law_sort", "_law_sorts", "_law_k"] ["_law_e", "_law_sort"] (defScope s__law_alone) := ⟨rfl, rfl, rfl, by decide +kernel, rfl, by decide +kernel, by decide +kernel⟩
theorem ok__law_alone (T : Tx K mg) : Df P w K mg base "_law_alone" 1 ["_law_e", "_law_sort"] f__law_alone := df_mk T.g__law_alone T.d__law_alone sc__law_alone (fun _ _ _ _ _ _ us hl => match us, hl with | [_, _], _ => rfl) (fun f cdv A outer s H E hr tk hp => ⟨_, by
  exact (sb_cons (ss_asg (i := 2) sc__law_alone.nd rfl (by first | exact .inl rfl | exact .inr rfl) (se_lst (sa_cons (se_isX K (c := .ref (He.ga K "NoFraction")) (cv := .ref (He.ga K "NoFraction")) (se_var (pv 0)) (fun u r => r) (kitAll_ok T.ki_NoFraction) (pe_glob (v := .ref (He.ga K "NoFraction")) (by rfl) T.gc_NoFraction rfl) (fun pb pa => pe_callB call_isX (by rfl) T.m_isinstance (by decide +kernel) (pa_cons pa (pa_cons pb pa_nil)))) (sa_cons (se_isX K (c := .ref (He.ga K "NoTable")) (cv := .ref (He.ga K "NoTable")) (se_var (pv 0)) (fun u r => r) (kitAll_ok T.ki_NoTable) (pe_glob (v := .ref (He.ga K "NoTable")) (by rfl) T.gc_NoTable rfl) (fun pb pa => pe_callB call_isX (by rfl) T.m_isinstance (by decide +kernel) (pa_cons pa (pa_cons pb pa_nil)))) (sa_cons (se_isX K (c := .ref (He.ga K "NoName")) (cv := .ref (He.ga K "NoName")) (se_var (pv 0)) (fun u r => r) (kitAll_ok T.ki_NoName) (pe_glob (v := .ref (He.ga K "NoName")) (by rfl) T.gc_NoName rfl) (fun pb pa => pe_callB call_isX (by rfl) T.m_isinstance (by decide +kernel) (pa_cons pa (pa_cons pb pa_nil)))) (sa_cons (se_isX K (c := .ref (He.ga K "NoSaying")) (cv := .ref (He.ga K "NoSaying")) (se_var (pv 0)) (fun u r => r) (kitAll_ok T.ki_NoSaying) (pe_glob (v := .ref (He.ga K "NoSaying")) (by rfl) T.gc_NoSaying rfl) (fun pb pa => pe_callB call_isX (by rfl) T.m_isinstance (by decide +kernel) (pa_cons pa (pa_cons pb pa_nil)))) (sa_nil)))))))
  (sb_cons (ss_asg (i := 2) sc__law_alone.nd rfl (by first | exact .inl rfl | exact .inr rfl) (se_op (so_addK K) (se_var (pv 2)) (se_lst (sa_cons (se_isX K (c := .ref (He.ga K "NoLetter")) (cv := .ref (He.ga K "NoLetter")) (se_var (pv 0)) (fun u r => r) (kitAll_ok T.ki_NoLetter) (pe_glob (v := .ref (He.ga K "NoLetter")) (by rfl) T.gc_NoLetter rfl) (fun pb pa => pe_callB call_isX (by rfl) T.m_isinstance (by decide +kernel) (pa_cons pa (pa_cons pb pa_nil)))) (sa_cons (se_isX K (c := .ref (He.ga K "TooMany")) (cv := .ref (He.ga K "TooMany")) (se_var (pv 0)) (fun u r => r) (kitAll_ok T.ki_TooMany) (pe_glob (v := .ref (He.ga K "TooMany")) (by rfl) T.gc_TooMany rfl) (fun pb pa => pe_callB call_isX (by rfl) T.m_isinstance (by decide +kernel) (pa_cons pa (pa_cons pb pa_nil)))) (sa_cons (se_isX K (c := .ref (He.ga K "NoKind")) (cv := .ref (He.ga K "NoKind")) (se_var (pv 0)) (fun u r => r) (kitAll_ok T.ki_NoKind) (pe_glob (v := .ref (He.ga K "NoKind")) (by rfl) T.gc_NoKind rfl) (fun pb pa => pe_callB call_isX (by rfl) T.m_isinstance (by decide +kernel) (pa_cons pa (pa_cons pb pa_nil)))) (sa_cons (se_isX K (c := .ref (He.ga K "NoCount")) (cv := .ref (He.ga K "NoCount")) (se_var (pv 0)) (fun u r => r) (kitAll_ok T.ki_NoCount) (pe_glob (v := .ref (He.ga K "NoCount")) (by rfl) T.gc_NoCount rfl) (fun pb pa => pe_callB call_isX (by rfl) T.m_isinstance (by decide +kernel) (pa_cons pa (pa_cons pb pa_nil)))) (sa_nil))))))))
  (sb_cons (ss_asg (i := 2) sc__law_alone.nd rfl (by first | exact .inl rfl | exact .inr rfl) (se_op (so_addK K) (se_var (pv 2)) (se_lst (sa_cons (se_isX K (c := .ref (He.ga K "NoRow")) (cv := .ref (He.ga K "NoRow")) (se_var (pv 0)) (fun u r => r) (kitAll_ok T.ki_NoRow) (pe_glob (v := .ref (He.ga K "NoRow")) (by rfl) T.gc_NoRow rfl) (fun pb pa => pe_callB call_isX (by rfl) T.m_isinstance (by decide +kernel) (pa_cons pa (pa_cons pb pa_nil)))) (sa_cons (se_isX K (c := .ref (He.ga K "NoKept")) (cv := .ref (He.ga K "NoKept")) (se_var (pv 0)) (fun u r => r) (kitAll_ok T.ki_NoKept) (pe_glob (v := .ref (He.ga K "NoKept")) (by rfl) T.gc_NoKept rfl) (fun pb pa => pe_callB call_isX (by rfl) T.m_isinstance (by decide +kernel) (pa_cons pa (pa_cons pb pa_nil)))) (sa_nil))))))
  (sb_one (ss_ret (se_and (se_isX K (c := .ty "ValueError") (cv := .type "ValueError") (se_var (pv 0)) (fun u r => r) (kitAll_ok T.ki_ValueError) (pe_bltn (v := .ty "ValueError") (by rfl) T.m_ValueError (by decide +kernel) rfl) (fun pb pa => pe_callB call_isX (by rfl) T.m_isinstance (by decide +kernel) (pa_cons pa (pa_cons pb pa_nil)))) ((se_one (se_cmp (so_eqK K hr) (se_var (pv 2)) (se_lc (own := [("_law_k", 3)]) (by rfl) sc__law_alone.nd (si_r1 (by rfl) T.m_range (sa_cons (se_int) (sa_nil))) (blkOk_by (own := [("_law_k", 3)]) (N := ["_law_e", "_law_sort", "_law_sorts", "_law_k"]) (sc := (defScope s__law_alone)) (by decide +kernel)) (fun _ _ _ _ _ => sg_name (i := 3) sc__law_alone.nd rfl (by first | exact .inl rfl | exact .inr rfl)) (gin_name (by decide)) mono_name (fun _ _ _ _ _ => sts_nil) (fun _ _ _ _ _ => se_cmp (so_eqK K hr) (se_var (pv 3)) (se_var (pv 1)) (nomark _))) (nomark _))))))))))⟩)
theorem sc__law_refused : FnScope ["_law_a", "_law_caught", "_law_e"] ["_law_a"] (defScope s__law_refused) := ⟨rfl, rfl, rfl, by decide +kernel, rfl, by decide +kernel, by decide +kernel⟩
theorem ok__law_refused (T : Tx K mg) : Df P w K mg base "_law_refused" 4 ["_law_a"] f__law_refused := df_mk T.g__law_refused T.d__law_refused sc__law_refused (fun _ _ _ _ _ _ us hl => match us, hl with | [_], _ => rfl) (fun f cdv A outer s H E hr tk hp => ⟨_, by
  exact (sb_cons (ss_asg (i := 1) sc__law_refused.nd rfl (by first | exact .inl rfl | exact .inr rfl) (se_non))
  (sb_cons (ss_tryK (i := 2) (j := 1) (by rfl) (by rfl) (by rfl) sc__law_refused.nd (by rfl) (by rfl) ⟨rfl, by decide, .inl T.gc_GradeError⟩ tk (catAll_ok T.ca_GradeError) (fun W pn xe tk hp => sb_one (ss_expr (se_callDK (ok_over T) hr tk (sa_cons (se_var (pv 0)) (sa_cons (se_tup (sa_cons (se_int) (sa_cons (se_int) (sa_nil)))) (sa_nil))) (aCons_len (aCons_len aNil_len))))) (fun a pn oe => pss_one (ps_set (i := 1) sc__law_refused.nd rfl (by first | exact .inl rfl | exact .inr rfl) (pv 2))))
  (sb_one (ss_ret (se_and (se_cmp so_notN (se_var (pv 1)) (se_non) (nomark _)) ((se_one (se_callDK (ok__law_alone T) hr tk (sa_cons (se_var (pv 1)) (sa_cons (se_int) (sa_nil))) (aCons_len (aCons_len aNil_len))))))))))⟩)
theorem sc_plus : FnScope ["a", "b"] ["a", "b"] (defScope s_plus) := ⟨rfl, rfl, rfl, by decide +kernel, rfl, by decide +kernel, by decide +kernel⟩
theorem ok_plus (T : Tx K mg) : Df P w K mg base "plus" 3 ["a", "b"] f_plus := df_mk T.g_plus T.d_plus sc_plus (fun _ _ _ _ _ _ us hl => match us, hl with | [_, _], _ => rfl) (fun f cdv A outer s H E hr tk hp => ⟨_, by
  exact (sb_one (ss_ret (se_callDK (ok_fraction T) hr tk (sa_cons (se_op (so_addK K) (se_op so_mulI (se_ixK K (se_var (pv 0)) (se_int) (fun _ _ => rfl)) (se_ixK K (se_var (pv 1)) (se_int) (fun _ _ => rfl))) (se_op so_mulI (se_ixK K (se_var (pv 1)) (se_int) (fun _ _ => rfl)) (se_ixK K (se_var (pv 0)) (se_int) (fun _ _ => rfl)))) (sa_cons (se_op so_mulI (se_ixK K (se_var (pv 0)) (se_int) (fun _ _ => rfl)) (se_ixK K (se_var (pv 1)) (se_int) (fun _ _ => rfl))) (sa_nil))) (aCons_len (aCons_len aNil_len)))))⟩)
theorem sc_minus : FnScope ["a", "b"] ["a", "b"] (defScope s_minus) := ⟨rfl, rfl, rfl, by decide +kernel, rfl, by decide +kernel, by decide +kernel⟩
theorem ok_minus (T : Tx K mg) : Df P w K mg base "minus" 3 ["a", "b"] f_minus := df_mk T.g_minus T.d_minus sc_minus (fun _ _ _ _ _ _ us hl => match us, hl with | [_, _], _ => rfl) (fun f cdv A outer s H E hr tk hp => ⟨_, by
  exact (sb_one (ss_ret (se_callDK (ok_fraction T) hr tk (sa_cons (se_op so_subI (se_op so_mulI (se_ixK K (se_var (pv 0)) (se_int) (fun _ _ => rfl)) (se_ixK K (se_var (pv 1)) (se_int) (fun _ _ => rfl))) (se_op so_mulI (se_ixK K (se_var (pv 1)) (se_int) (fun _ _ => rfl)) (se_ixK K (se_var (pv 0)) (se_int) (fun _ _ => rfl)))) (sa_cons (se_op so_mulI (se_ixK K (se_var (pv 0)) (se_int) (fun _ _ => rfl)) (se_ixK K (se_var (pv 1)) (se_int) (fun _ _ => rfl))) (sa_nil))) (aCons_len (aCons_len aNil_len)))))⟩)
theorem sc_times : FnScope ["a", "b"] ["a", "b"] (defScope s_times) := ⟨rfl, rfl, rfl, by decide +kernel, rfl, by decide +kernel, by decide +kernel⟩
theorem ok_times (T : Tx K mg) : Df P w K mg base "times" 3 ["a", "b"] f_times := df_mk T.g_times T.d_times sc_times (fun _ _ _ _ _ _ us hl => match us, hl with | [_, _], _ => rfl) (fun f cdv A outer s H E hr tk hp => ⟨_, by
  exact (sb_one (ss_ret (se_callDK (ok_fraction T) hr tk (sa_cons (se_op so_mulI (se_ixK K (se_var (pv 0)) (se_int) (fun _ _ => rfl)) (se_ixK K (se_var (pv 1)) (se_int) (fun _ _ => rfl))) (sa_cons (se_op so_mulI (se_ixK K (se_var (pv 0)) (se_int) (fun _ _ => rfl)) (se_ixK K (se_var (pv 1)) (se_int) (fun _ _ => rfl))) (sa_nil))) (aCons_len (aCons_len aNil_len)))))⟩)
theorem sc__law_right : FnScope ["_law_a", "_law_b", "_law_right_here", "_law_less"] ["_law_a", "_law_b"] (defScope s__law_right) := ⟨rfl, rfl, rfl, by decide +kernel, rfl, by decide +kernel, by decide +kernel⟩
theorem ok__law_right (T : Tx K mg) : Df P w K mg base "_law_right" 5 ["_law_a", "_law_b"] f__law_right := df_mk T.g__law_right T.d__law_right sc__law_right (fun _ _ _ _ _ _ us hl => match us, hl with | [_, _], _ => rfl) (fun f cdv A outer s H E hr tk hp => ⟨_, by
  exact (sb_cons (ss_asg (i := 2) sc__law_right.nd rfl (by first | exact .inl rfl | exact .inr rfl) (se_lst (sa_cons (se_callDK (ok__law_worth T) hr tk (sa_cons (se_callDK (ok_plus T) hr tk (sa_cons (se_var (pv 0)) (sa_cons (se_var (pv 1)) (sa_nil))) (aCons_len (aCons_len aNil_len))) (sa_cons (se_op (so_addK K) (se_op so_mulI (se_ixK K (se_var (pv 0)) (se_int) (fun _ _ => rfl)) (se_ixK K (se_var (pv 1)) (se_int) (fun _ _ => rfl))) (se_op so_mulI (se_ixK K (se_var (pv 1)) (se_int) (fun _ _ => rfl)) (se_ixK K (se_var (pv 0)) (se_int) (fun _ _ => rfl)))) (sa_cons (se_op so_mulI (se_ixK K (se_var (pv 0)) (se_int) (fun _ _ => rfl)) (se_ixK K (se_var (pv 1)) (se_int) (fun _ _ => rfl))) (sa_nil)))) (aCons_len (aCons_len (aCons_len aNil_len)))) (sa_nil))))
  (sb_cons (ss_expr (se_MK K sm_append (se_var (pv 2)) (sa_cons (se_callDK (ok__law_worth T) hr tk (sa_cons (se_callDK (ok_minus T) hr tk (sa_cons (se_var (pv 0)) (sa_cons (se_var (pv 1)) (sa_nil))) (aCons_len (aCons_len aNil_len))) (sa_cons (se_op so_subI (se_op so_mulI (se_ixK K (se_var (pv 0)) (se_int) (fun _ _ => rfl)) (se_ixK K (se_var (pv 1)) (se_int) (fun _ _ => rfl))) (se_op so_mulI (se_ixK K (se_var (pv 1)) (se_int) (fun _ _ => rfl)) (se_ixK K (se_var (pv 0)) (se_int) (fun _ _ => rfl)))) (sa_cons (se_op so_mulI (se_ixK K (se_var (pv 0)) (se_int) (fun _ _ => rfl)) (se_ixK K (se_var (pv 1)) (se_int) (fun _ _ => rfl))) (sa_nil)))) (aCons_len (aCons_len (aCons_len aNil_len)))) (sa_nil)) (fun a b c => pe_bm PySem.F.plainAttrs_list PySem.F.slot_list_append PySem.F.type_list_append a b c)))
  (sb_cons (ss_expr (se_MK K sm_append (se_var (pv 2)) (sa_cons (se_callDK (ok__law_worth T) hr tk (sa_cons (se_callDK (ok_times T) hr tk (sa_cons (se_var (pv 0)) (sa_cons (se_var (pv 1)) (sa_nil))) (aCons_len (aCons_len aNil_len))) (sa_cons (se_op so_mulI (se_ixK K (se_var (pv 0)) (se_int) (fun _ _ => rfl)) (se_ixK K (se_var (pv 1)) (se_int) (fun _ _ => rfl))) (sa_cons (se_op so_mulI (se_ixK K (se_var (pv 0)) (se_int) (fun _ _ => rfl)) (se_ixK K (se_var (pv 1)) (se_int) (fun _ _ => rfl))) (sa_nil)))) (aCons_len (aCons_len (aCons_len aNil_len)))) (sa_nil)) (fun a b c => pe_bm PySem.F.plainAttrs_list PySem.F.slot_list_append PySem.F.type_list_append a b c)))
  (sb_cons (ss_if (st_cmp (so_neK K hr) (se_ixK K (se_var (pv 1)) (se_int) (fun _ _ => rfl)) (se_int) (nomark _)) (sb_one (ss_expr (se_MK K sm_append (se_var (pv 2)) (sa_cons (se_callDK (ok__law_worth T) hr tk (sa_cons (se_callDK (ok_over T) hr tk (sa_cons (se_var (pv 0)) (sa_cons (se_var (pv 1)) (sa_nil))) (aCons_len (aCons_len aNil_len))) (sa_cons (se_op so_mulI (se_ixK K (se_var (pv 0)) (se_int) (fun _ _ => rfl)) (se_ixK K (se_var (pv 1)) (se_int) (fun _ _ => rfl))) (sa_cons (se_op so_mulI (se_ixK K (se_var (pv 0)) (se_int) (fun _ _ => rfl)) (se_ixK K (se_var (pv 1)) (se_int) (fun _ _ => rfl))) (sa_nil)))) (aCons_len (aCons_len (aCons_len aNil_len)))) (sa_nil)) (fun a b c => pe_bm PySem.F.plainAttrs_list PySem.F.slot_list_append PySem.F.type_list_append a b c)))) (sb_nil))
  (sb_cons (ss_asg (i := 3) sc__law_right.nd rfl (by first | exact .inl rfl | exact .inr rfl) (se_callDK (ok_below T) hr tk (sa_cons (se_var (pv 0)) (sa_cons (se_var (pv 1)) (sa_nil))) (aCons_len (aCons_len aNil_len))))
  (sb_cons (ss_expr (se_MK K sm_append (se_var (pv 2)) (sa_cons (se_and (se_isiK K (T := "bool") T.m_isinstance T.m_bool (se_var (pv 3)) (by decide +kernel) (by rfl) (pe_bltn (by rfl) T.m_bool (by decide +kernel) rfl) (fun pb pa => pe_callB call_isi (by rfl) T.m_isinstance (by decide +kernel) (pa_cons pa (pa_cons pb pa_nil)))) ((se_one (se_cmp (so_eqK K hr) (se_var (pv 3)) (se_cmp so_lt (se_op so_mulI (se_ixK K (se_var (pv 0)) (se_int) (fun _ _ => rfl)) (se_ixK K (se_var (pv 1)) (se_int) (fun _ _ => rfl))) (se_op so_mulI (se_ixK K (se_var (pv 1)) (se_int) (fun _ _ => rfl)) (se_ixK K (se_var (pv 0)) (se_int) (fun _ _ => rfl))) (nomark _)) (nomark _))))) (sa_nil)) (fun a b c => pe_bm PySem.F.plainAttrs_list PySem.F.slot_list_append PySem.F.type_list_append a b c)))
  (sb_one (ss_ret (se_and (se_callB (sc_allK K rfl) (by rfl) T.m_all (by decide +kernel) (sa_cons (se_var (pv 2)) (sa_nil))) ((se_one (se_callDK (ok__law_refused T) hr tk (sa_cons (se_var (pv 0)) (sa_nil)) (aCons_len aNil_len)))))))))))))⟩)
theorem sc_law : FnScope ["_law_script", "_law_at", "_law_a", "_law_b", "_law_c", "_law_k"] ["_law_script"] (defScope s_law) := ⟨rfl, rfl, rfl, by decide +kernel, rfl, by decide +kernel, by decide +kernel⟩
theorem ok_law (T : Tx K mg) : Df P w K mg base "law" 6 ["_law_script"] f_law := df_mk T.g_law T.d_law sc_law (fun _ _ _ _ _ _ us hl => match us, hl with | [_], _ => rfl) (fun f cdv A outer s H E hr tk hp => ⟨_, by
  exact (sb_cons (ss_for hp (by rfl) (si_r3 (by rfl) T.m_range (sa_cons (se_int) (sa_cons (se_int) (sa_cons (se_int) (sa_nil))))) (sg_name (i := 1) sc_law.nd rfl (by first | exact .inl rfl | exact .inr rfl)) (sb_cons (ss_asgG (se_lc (own := [("_law_k", 5)]) (by rfl) sc_law.nd (si_r1 (by rfl) T.m_range (sa_cons (se_int) (sa_nil))) (blkOk_by (own := [("_law_k", 5)]) (N := ["_law_script", "_law_at", "_law_a", "_law_b", "_law_c", "_law_k"]) (sc := (defScope s_law)) (by decide +kernel)) (fun _ _ _ _ _ => sg_name (i := 5) sc_law.nd rfl (by first | exact .inl rfl | exact .inr rfl)) (gin_name (by decide)) mono_name (fun _ _ _ _ _ => sts_nil) (fun _ _ _ _ _ => se_callDK (ok__law_fraction T) hr takes0 (sa_cons (se_callDK (ok__law_cell T) hr takes0 (sa_cons (se_var (pv 0)) (sa_cons (se_op (so_addK K) (se_var (pv 1)) (se_var (pv 5))) (sa_nil))) (aCons_len (aCons_len aNil_len))) (sa_nil)) (aCons_len aNil_len))) (sg_tupLK K (by rfl) (sgs_cons (sg_name (i := 2) sc_law.nd rfl (by first | exact .inl rfl | exact .inr rfl)) (sgs_cons (sg_name (i := 3) sc_law.nd rfl (by first | exact .inl rfl | exact .inr rfl)) (sgs_cons (sg_name (i := 4) sc_law.nd rfl (by first | exact .inl rfl | exact .inr rfl)) (sgs_nil)))) (pg_tup (by rfl) (sgs_cons (sg_name (i := 2) sc_law.nd rfl (by first | exact .inl rfl | exact .inr rfl)) (sgs_cons (sg_name (i := 3) sc_law.nd rfl (by first | exact .inl rfl | exact .inr rfl)) (sgs_cons (sg_name (i := 4) sc_law.nd rfl (by first | exact .inl rfl | exact .inr rfl)) (sgs_nil)))).pe) (pg_lst (by rfl) (sgs_cons (sg_name (i := 2) sc_law.nd rfl (by first | exact .inl rfl | exact .inr rfl)) (sgs_cons (sg_name (i := 3) sc_law.nd rfl (by first | exact .inl rfl | exact .inr rfl)) (sgs_cons (sg_name (i := 4) sc_law.nd rfl (by first | exact .inl rfl | exact .inr rfl)) (sgs_nil)))).pe)) (fun a b => ps_asg a b))
  (sb_cons (ss_if (st_cmp (so_eqK K hr) (se_op so_modI (se_callDK (ok__law_cell T) hr tk (sa_cons (se_var (pv 0)) (sa_cons (se_var (pv 1)) (sa_nil))) (aCons_len (aCons_len aNil_len))) (se_int)) (se_int) (nomark _)) (sb_one (ss_asg (i := 3) sc_law.nd rfl (by first | exact .inl rfl | exact .inr rfl) (se_var (pv 2)))) (sb_nil))
  (sb_cons (ss_if (SW.st (sw_or (st_not (st_truthK K (se_callDK (ok__law_right T) hr tk (sa_cons (se_var (pv 2)) (sa_cons (se_var (pv 3)) (sa_nil))) (aCons_len (aCons_len aNil_len))))) (sw_or1 (st_not (st_truthK K (se_callDK (ok__law_right T) hr tk (sa_cons (se_var (pv 3)) (sa_cons (se_var (pv 2)) (sa_nil))) (aCons_len (aCons_len aNil_len)))))))) (sb_one (ss_ret (se_bl))) (sb_nil))
  (sb_one (ss_if (SW.st (sw_or (st_cmp (so_neK K hr) (se_callDK (ok_times T) hr tk (sa_cons (se_var (pv 2)) (sa_cons (se_callDK (ok_plus T) hr tk (sa_cons (se_var (pv 3)) (sa_cons (se_var (pv 4)) (sa_nil))) (aCons_len (aCons_len aNil_len))) (sa_nil))) (aCons_len (aCons_len aNil_len))) (se_callDK (ok_plus T) hr tk (sa_cons (se_callDK (ok_times T) hr tk (sa_cons (se_var (pv 2)) (sa_cons (se_var (pv 3)) (sa_nil))) (aCons_len (aCons_len aNil_len))) (sa_cons (se_callDK (ok_times T) hr tk (sa_cons (se_var (pv 2)) (sa_cons (se_var (pv 4)) (sa_nil))) (aCons_len (aCons_len aNil_len))) (sa_nil))) (aCons_len (aCons_len aNil_len))) (nomark _)) (sw_or1 (st_cmp (so_neK K hr) (se_callDK (ok_below T) hr tk (sa_cons (se_callDK (ok_plus T) hr tk (sa_cons (se_var (pv 2)) (sa_cons (se_var (pv 4)) (sa_nil))) (aCons_len (aCons_len aNil_len))) (sa_cons (se_callDK (ok_plus T) hr tk (sa_cons (se_var (pv 3)) (sa_cons (se_var (pv 4)) (sa_nil))) (aCons_len (aCons_len aNil_len))) (sa_nil))) (aCons_len (aCons_len aNil_len))) (se_callDK (ok_below T) hr tk (sa_cons (se_var (pv 2)) (sa_cons (se_var (pv 3)) (sa_nil))) (aCons_len (aCons_len aNil_len))) (nomark _))))) (sb_one (ss_ret (se_bl))) (sb_nil)))))))
  (sb_one (ss_ret (se_bl))))⟩)
end
def fn : List He.DefD := [⟨("_law_pool", none), "_law_pool", "_law_pool", defArgs s__law_pool, defBody s__law_pool, defScope s__law_pool, [], []⟩, ⟨("_law_draw", none), "_law_draw", "_law_draw", defArgs s__law_draw, defBody s__law_draw, defScope s__law_draw, [], []⟩, ⟨("_law_size", none), "_law_size", "_law_size", defArgs s__law_size, defBody s__law_size, defScope s__law_size, [], []⟩, ⟨("_law_gcd", none), "_law_gcd", "_law_gcd", defArgs s__law_gcd, defBody s__law_gcd, defScope s__law_gcd, [], []⟩, ⟨("_law_fraction", none), "_law_fraction", "_law_fraction", defArgs s__law_fraction, defBody s__law_fraction, defScope s__law_fraction, [], []⟩, ⟨("_law_cell", none), "_law_cell", "_law_cell", defArgs s__law_cell, defBody s__law_cell, defScope s__law_cell, [], []⟩, ⟨("below", none), "below", "below", defArgs s_below, defBody s_below, defScope s_below, [], []⟩, ⟨("_law_is_fraction", none), "_law_is_fraction", "_law_is_fraction", defArgs s__law_is_fraction, defBody s__law_is_fraction, defScope s__law_is_fraction, [], []⟩, ⟨("_law_worth", none), "_law_worth", "_law_worth", defArgs s__law_worth, defBody s__law_worth, defScope s__law_worth, [], []⟩, ⟨("share_of", none), "share_of", "share_of", defArgs s_share_of, defBody s_share_of, defScope s_share_of, [], []⟩, ⟨("fraction", none), "fraction", "fraction", defArgs s_fraction, defBody s_fraction, defScope s_fraction, [], []⟩, ⟨("over", none), "over", "over", defArgs s_over, defBody s_over, defScope s_over, [], []⟩, ⟨("_law_alone", none), "_law_alone", "_law_alone", defArgs s__law_alone, defBody s__law_alone, defScope s__law_alone, [], []⟩, ⟨("_law_refused", none), "_law_refused", "_law_refused", defArgs s__law_refused, defBody s__law_refused, defScope s__law_refused, [], []⟩, ⟨("plus", none), "plus", "plus", defArgs s_plus, defBody s_plus, defScope s_plus, [], []⟩, ⟨("minus", none), "minus", "minus", defArgs s_minus, defBody s_minus, defScope s_minus, [], []⟩, ⟨("times", none), "times", "times", defArgs s_times, defBody s_times, defScope s_times, [], []⟩, ⟨("_law_right", none), "_law_right", "_law_right", defArgs s__law_right, defBody s__law_right, defScope s__law_right, [], []⟩, ⟨("law", none), "law", "law", defArgs s_law, defBody s_law, defScope s_law, [], []⟩]
def fa : List He.Fa := [.glo "_law_pool", .glo "_law_draw", .glo "_law_size", .glo "_law_gcd", .glo "_law_fraction", .glo "_law_cell", .glo "below", .glo "_law_is_fraction", .glo "_law_worth", .glo "share_of", .glo "fraction", .glo "over", .glo "_law_alone", .glo "_law_refused", .glo "plus", .glo "minus", .glo "times", .glo "_law_right", .glo "law", .free "ValueError", .free "abs", .free "all", .free "bool", .free "int", .free "isinstance", .free "len", .free "max", .free "range", .free "tuple", .glo "GradeError", .glo "NoCount", .glo "NoFraction", .glo "NoKept", .glo "NoKind", .glo "NoLetter", .glo "NoName", .glo "NoRow", .glo "NoSaying", .glo "NoTable", .glo "TooMany", .exc "NoFraction"]
def exB (K : PySem.W.Frag) : List Bool := [catAll K (.ref (He.ga K "GradeError")) [("NoFraction", true)], kitAll K (.ref (He.ga K "NoCount")) [("NoFraction", false)], kitAll K (.ref (He.ga K "NoFraction")) [("NoFraction", true)], kitAll K (.ref (He.ga K "NoKept")) [("NoFraction", false)], kitAll K (.ref (He.ga K "NoKind")) [("NoFraction", false)], kitAll K (.ref (He.ga K "NoLetter")) [("NoFraction", false)], kitAll K (.ref (He.ga K "NoName")) [("NoFraction", false)], kitAll K (.ref (He.ga K "NoRow")) [("NoFraction", false)], kitAll K (.ref (He.ga K "NoSaying")) [("NoFraction", false)], kitAll K (.ref (He.ga K "NoTable")) [("NoFraction", false)], kitAll K (.ref (He.ga K "TooMany")) [("NoFraction", false)], kitAll K (.type "ValueError") [("NoFraction", true)]]
abbrev R : PySem.W.OpenRow := PySem.W.OpenLaw.row PySem.Challenge.rw_truthgrades_k02_fractions_reckoned
def exA (K : PySem.W.Frag) : Bool := (exB K).all id
abbrev hk : PySem.W.Hook := He.hookX 6 fa fn [] [] exA
def ob (s : PySem.W.SharedT) : He.AlX := He.obsX 6 fa fn [] [] exA (HandSHeadRun.getT s)
theorem ob_eq (s : PySem.W.SharedT) : ob s = hk.obs s.abs := He.obsX_eq (HandSHeadRun.getT_eq s)
def loose : List Str := (["share_of", "fraction", "plus", "minus", "times", "over", "below", "_law_cell", "_law_pool", "_law_draw", "_law_gcd", "_law_size", "_law_is_fraction", "_law_alone", "_law_fraction", "_law_worth", "_law_refused", "_law_right", "GradeError", "NoFraction", "NoTable", "NoSaying", "NoName", "NoLetter", "TooMany", "NoKind", "NoCount", "NoRow", "NoKept"] : List Str)
theorem run (w : World) : HandSHeadRun.RunEq R (PySem.W.view R.prog [32]) hk ob 6000 loose w := by
  intro os
  kernel_rfl
theorem txt {K : PySem.W.Frag} {h : Heap} {mg : Str → Option Value} (X : K.In h) (G : h.Ns mainGlobals mg) (c : He.SaysD fa fn K) (e : exA K = true) : Tx K mg := by
  have eb : ∀ b ∈ exB K, b = true := fun b hb => List.all_eq_true.mp e b hb
  exact {
    m_ValueError := He.free_ok X G (c.fact 19 (f := .free "ValueError") rfl)
    m_abs := He.free_ok X G (c.fact 20 (f := .free "abs") rfl)
    m_all := He.free_ok X G (c.fact 21 (f := .free "all") rfl)
    m_bool := He.free_ok X G (c.fact 22 (f := .free "bool") rfl)
    m_int := He.free_ok X G (c.fact 23 (f := .free "int") rfl)
    m_isinstance := He.free_ok X G (c.fact 24 (f := .free "isinstance") rfl)
    m_len := He.free_ok X G (c.fact 25 (f := .free "len") rfl)
    m_max := He.free_ok X G (c.fact 26 (f := .free "max") rfl)
    m_range := He.free_ok X G (c.fact 27 (f := .free "range") rfl)
    m_tuple := He.free_ok X G (c.fact 28 (f := .free "tuple") rfl)
    gc_GradeError := He.glo_ok X G (c.fact 29 (f := .glo "GradeError") rfl)
    gc_NoCount := He.glo_ok X G (c.fact 30 (f := .glo "NoCount") rfl)
    gc_NoFraction := He.glo_ok X G (c.fact 31 (f := .glo "NoFraction") rfl)
    gc_NoKept := He.glo_ok X G (c.fact 32 (f := .glo "NoKept") rfl)
    gc_NoKind := He.glo_ok X G (c.fact 33 (f := .glo "NoKind") rfl)
    gc_NoLetter := He.glo_ok X G (c.fact 34 (f := .glo "NoLetter") rfl)
    gc_NoName := He.glo_ok X G (c.fact 35 (f := .glo "NoName") rfl)
    gc_NoRow := He.glo_ok X G (c.fact 36 (f := .glo "NoRow") rfl)
    gc_NoSaying := He.glo_ok X G (c.fact 37 (f := .glo "NoSaying") rfl)
    gc_NoTable := He.glo_ok X G (c.fact 38 (f := .glo "NoTable") rfl)
    gc_TooMany := He.glo_ok X G (c.fact 39 (f := .glo "TooMany") rfl)
    x_NoFraction := c.fact 40 (f := .exc "NoFraction") rfl
    ca_GradeError := eb _ (List.Mem.head _)
    ki_NoCount := eb _ (List.Mem.tail _ (List.Mem.head _))
    ki_NoFraction := eb _ (List.Mem.tail _ (List.Mem.tail _ (List.Mem.head _)))
    ki_NoKept := eb _ (List.Mem.tail _ (List.Mem.tail _ (List.Mem.tail _ (List.Mem.head _))))
    ki_NoKind := eb _ (List.Mem.tail _ (List.Mem.tail _ (List.Mem.tail _ (List.Mem.tail _ (List.Mem.head _)))))
    ki_NoLetter := eb _ (List.Mem.tail _ (List.Mem.tail _ (List.Mem.tail _ (List.Mem.tail _ (List.Mem.tail _ (List.Mem.head _))))))
    ki_NoName := eb _ (List.Mem.tail _ (List.Mem.tail _ (List.Mem.tail _ (List.Mem.tail _ (List.Mem.tail _ (List.Mem.tail _ (List.Mem.head _)))))))
    ki_NoRow := eb _ (List.Mem.tail _ (List.Mem.tail _ (List.Mem.tail _ (List.Mem.tail _ (List.Mem.tail _ (List.Mem.tail _ (List.Mem.tail _ (List.Mem.head _))))))))
    ki_NoSaying := eb _ (List.Mem.tail _ (List.Mem.tail _ (List.Mem.tail _ (List.Mem.tail _ (List.Mem.tail _ (List.Mem.tail _ (List.Mem.tail _ (List.Mem.tail _ (List.Mem.head _)))))))))
    ki_NoTable := eb _ (List.Mem.tail _ (List.Mem.tail _ (List.Mem.tail _ (List.Mem.tail _ (List.Mem.tail _ (List.Mem.tail _ (List.Mem.tail _ (List.Mem.tail _ (List.Mem.tail _ (List.Mem.head _))))))))))
    ki_TooMany := eb _ (List.Mem.tail _ (List.Mem.tail _ (List.Mem.tail _ (List.Mem.tail _ (List.Mem.tail _ (List.Mem.tail _ (List.Mem.tail _ (List.Mem.tail _ (List.Mem.tail _ (List.Mem.tail _ (List.Mem.head _)))))))))))
    ki_ValueError := eb _ (List.Mem.tail _ (List.Mem.tail _ (List.Mem.tail _ (List.Mem.tail _ (List.Mem.tail _ (List.Mem.tail _ (List.Mem.tail _ (List.Mem.tail _ (List.Mem.tail _ (List.Mem.tail _ (List.Mem.tail _ (List.Mem.head _))))))))))))
    g__law_pool := He.glo_ok X G (c.fact 0 (f := .glo "_law_pool") rfl)
    d__law_pool := c.def_ 0 (d := ⟨("_law_pool", none), "_law_pool", "_law_pool", defArgs s__law_pool, defBody s__law_pool, defScope s__law_pool, [], []⟩) rfl
    g__law_draw := He.glo_ok X G (c.fact 1 (f := .glo "_law_draw") rfl)
    d__law_draw := c.def_ 1 (d := ⟨("_law_draw", none), "_law_draw", "_law_draw", defArgs s__law_draw, defBody s__law_draw, defScope s__law_draw, [], []⟩) rfl
    g__law_size := He.glo_ok X G (c.fact 2 (f := .glo "_law_size") rfl)
    d__law_size := c.def_ 2 (d := ⟨("_law_size", none), "_law_size", "_law_size", defArgs s__law_size, defBody s__law_size, defScope s__law_size, [], []⟩) rfl
    g__law_gcd := He.glo_ok X G (c.fact 3 (f := .glo "_law_gcd") rfl)
    d__law_gcd := c.def_ 3 (d := ⟨("_law_gcd", none), "_law_gcd", "_law_gcd", defArgs s__law_gcd, defBody s__law_gcd, defScope s__law_gcd, [], []⟩) rfl
    g__law_fraction := He.glo_ok X G (c.fact 4 (f := .glo "_law_fraction") rfl)
    d__law_fraction := c.def_ 4 (d := ⟨("_law_fraction", none), "_law_fraction", "_law_fraction", defArgs s__law_fraction, defBody s__law_fraction, defScope s__law_fraction, [], []⟩) rfl
    g__law_cell := He.glo_ok X G (c.fact 5 (f := .glo "_law_cell") rfl)
    d__law_cell := c.def_ 5 (d := ⟨("_law_cell", none), "_law_cell", "_law_cell", defArgs s__law_cell, defBody s__law_cell, defScope s__law_cell, [], []⟩) rfl
    g_below := He.glo_ok X G (c.fact 6 (f := .glo "below") rfl)
    d_below := c.def_ 6 (d := ⟨("below", none), "below", "below", defArgs s_below, defBody s_below, defScope s_below, [], []⟩) rfl
    g__law_is_fraction := He.glo_ok X G (c.fact 7 (f := .glo "_law_is_fraction") rfl)
    d__law_is_fraction := c.def_ 7 (d := ⟨("_law_is_fraction", none), "_law_is_fraction", "_law_is_fraction", defArgs s__law_is_fraction, defBody s__law_is_fraction, defScope s__law_is_fraction, [], []⟩) rfl
    g__law_worth := He.glo_ok X G (c.fact 8 (f := .glo "_law_worth") rfl)
    d__law_worth := c.def_ 8 (d := ⟨("_law_worth", none), "_law_worth", "_law_worth", defArgs s__law_worth, defBody s__law_worth, defScope s__law_worth, [], []⟩) rfl
    g_share_of := He.glo_ok X G (c.fact 9 (f := .glo "share_of") rfl)
    d_share_of := c.def_ 9 (d := ⟨("share_of", none), "share_of", "share_of", defArgs s_share_of, defBody s_share_of, defScope s_share_of, [], []⟩) rfl
    g_fraction := He.glo_ok X G (c.fact 10 (f := .glo "fraction") rfl)
    d_fraction := c.def_ 10 (d := ⟨("fraction", none), "fraction", "fraction", defArgs s_fraction, defBody s_fraction, defScope s_fraction, [], []⟩) rfl
    g_over := He.glo_ok X G (c.fact 11 (f := .glo "over") rfl)
    d_over := c.def_ 11 (d := ⟨("over", none), "over", "over", defArgs s_over, defBody s_over, defScope s_over, [], []⟩) rfl
    g__law_alone := He.glo_ok X G (c.fact 12 (f := .glo "_law_alone") rfl)
    d__law_alone := c.def_ 12 (d := ⟨("_law_alone", none), "_law_alone", "_law_alone", defArgs s__law_alone, defBody s__law_alone, defScope s__law_alone, [], []⟩) rfl
    g__law_refused := He.glo_ok X G (c.fact 13 (f := .glo "_law_refused") rfl)
    d__law_refused := c.def_ 13 (d := ⟨("_law_refused", none), "_law_refused", "_law_refused", defArgs s__law_refused, defBody s__law_refused, defScope s__law_refused, [], []⟩) rfl
    g_plus := He.glo_ok X G (c.fact 14 (f := .glo "plus") rfl)
    d_plus := c.def_ 14 (d := ⟨("plus", none), "plus", "plus", defArgs s_plus, defBody s_plus, defScope s_plus, [], []⟩) rfl
    g_minus := He.glo_ok X G (c.fact 15 (f := .glo "minus") rfl)
    d_minus := c.def_ 15 (d := ⟨("minus", none), "minus", "minus", defArgs s_minus, defBody s_minus, defScope s_minus, [], []⟩) rfl
    g_times := He.glo_ok X G (c.fact 16 (f := .glo "times") rfl)
    d_times := c.def_ 16 (d := ⟨("times", none), "times", "times", defArgs s_times, defBody s_times, defScope s_times, [], []⟩) rfl
    g__law_right := He.glo_ok X G (c.fact 17 (f := .glo "_law_right") rfl)
    d__law_right := c.def_ 17 (d := ⟨("_law_right", none), "_law_right", "_law_right", defArgs s__law_right, defBody s__law_right, defScope s__law_right, [], []⟩) rfl
    g_law := He.glo_ok X G (c.fact 18 (f := .glo "law") rfl)
    d_law := c.def_ 18 (d := ⟨("law", none), "law", "law", defArgs s_law, defBody s_law, defScope s_law, [], []⟩) rfl
  }
end L2.Sh.Q

open PySem PySem.W PySem.Calls PyProof.Rows
set_option maxRecDepth 100000 in
set_option maxHeartbeats 0 in
theorem PySem.Challenge.cw_truthgrades_k02_fractions_reckoned_holds : PySem.Challenge.rw_truthgrades_k02_fractions_reckoned.Holds := by
  w_on; o_law
  refine HandSHeadRun.head_any (r := OpenLaw.row PySem.Challenge.rw_truthgrades_k02_fractions_reckoned) (q := view (OpenLaw.row PySem.Challenge.rw_truthgrades_k02_fractions_reckoned).prog [32]) (H := L2.Sh.Q.hk) (ob := L2.Sh.Q.ob) (M := 6000) (loose := L2.Sh.Q.loose) (d := HandSHeadRun.topDef (OpenLaw.row PySem.Challenge.rw_truthgrades_k02_fractions_reckoned).prog 32) (kwd := []) L2.Sh.Q.ob_eq
    (by kernel_rfl) (fun s => by kernel_rfl) L2.Sh.Q.run (by kernel_rfl) (by kernel_rfl) (by kernel_rfl) (by rfl) (by first | assumption | decide +kernel) (by decide +kernel) ⟨rfl, rfl, rfl, rfl, rfl, by decide +kernel⟩ ?hw ?hc
  case hw => w_witness2
  case hc =>
    refine L2.Sh.walk_ofEB (l := PySem.Challenge.rw_truthgrades_k02_fractions_reckoned) (n := 63) (k := 6) (x := "_law_script") rfl (by decide) (by kernel_rfl) ⟨rfl, by decide, by decide⟩ ?F
    intro w mg fa h Y G hmg0
    obtain ⟨K, KX, c⟩ := Y
    have hmg : mg ("law" : PySem.Str) = some (.ref fa) := by
      have e : (HandSHeadRun.topDef (OpenLaw.row PySem.Challenge.rw_truthgrades_k02_fractions_reckoned).prog 32).name = ("law" : PySem.Str) := by kernel_rfl
      rw [← e]
      exact hmg0
    have T := L2.Sh.Q.txt KX G c.t.d c.more
    obtain ⟨fd, FD⟩ := T.d_law
    have eA := hmg.symm.trans T.g_law
    cases eA
    have b := L2.FunD.bindsA (ps := ["_law_script"]) FD fun _ _ _ _ _ _ us hl => match us, hl with | [_], _ => rfl
    refine ⟨K, fd, L2.Sh.spLaw K, KX, fun s u => b s [u] rfl, fun H a ns hl hb ho hs => ⟨a, ns, rfl, L2.Sh.stl_of ho hs, hl, hb, fun _ => .inr trivial, fun _ => rfl⟩, fun base _ _ => ?_⟩
    obtain ⟨oc, od, dV, kV, doc, pm, an, cdv, ct, osl, e1, lk, _⟩ := FD.ex
    exact L2.Sh.law_fin ((L2.Sh.Q.ok_law (P := (PySem.Challenge.rw_truthgrades_k02_fractions_reckoned).prog) (w := w) (base := base) T).lk _ hmg fd ⟨oc, od, osl, lk⟩) L2.Sh.Q.pure_law

