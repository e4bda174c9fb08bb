import PyProof.Rows.All
import Wide.All
import OpenK.AllK
import Wide.FinOn
import HandS.ForMost
import HandS.ForExc
import HandS.Wide
import HandS.IsInst
import HandS.Defaults
import HandS.EndBits
import HandS.ExcIs
import HandS.Head0
import HandS.Head1
import HandS.Head2
import HandS.HeadEnd
import HandS.HeadHook1
import HandS.HeadHook2
import HandS.HeadHook3
import HandS.HeadHook4
import HandS.TupAny
import HandS.WideBits
import HandS.Conv
import HandS.SortInts
import PyProof.StrOps2
import HandS.Strs
import HandS.Small
import PyProof.EqAt
import HandS.Deep
import HandS.SortRule
import KE.KDictSum
import KE.KDictPairs
import HandS.TupMul
import KE.KDictDisplayH
import PySem.Challenge.RW_truthgrades_k34_whole_sayings_part_grade
set_option Elab.async false
set_option linter.all false
set_option maxRecDepth 100000
set_option maxHeartbeats 4000000
namespace L2.Sh
open PySem PySem.Spec PyProof.Rows L2
/-- values of the plain side: tuples are data, lists and dicts stand in a heap of their own -/
inductive IV where
  | non | bl (b : Bool) | int (i : Int) | str (x : Str) | tup (xs : List IV) | ref (n : Nat) | scr (ns : List Int) | exc (name fld : Str) (val : List IV)
inductive IO where
  | lst (xs : List IV) | dK (kvs : List (Key × IV)) | dT (kvs : List (List Int × IV))
abbrev IH := List IO
structure Exc where
  name : Str
  fld : Str
  val : List IV
abbrev Env := List (Option IV)
abbrev Res (α : Type) := Option (Except Exc α × IH)
abbrev M (α : Type) := IH → Res α

/-- an exception that was caught and is held by a name -/
def ExT (cls : Value) (d : Option Addr) (a : Addr) : HO := .ext fun h => ∃ (oe : Obj) (vs : Array Value), h.get? a = some oe ∧ Zc cls d oe ∧ oe.data = .fields vs
/-- a dict whose keys are tuples of whole numbers, told raw -/
def hashT (ks : List Int) : Int := reduceHash (Builtin.Tuple.tupleHashOf (ks.map hashInt))
def enT (x : List Int × Addr × Value) : DictEntry := ⟨hashT x.1, .ref x.2.1, x.2.2⟩
def DTx (a : Addr) (xs : List (List Int × Addr × Value)) : HO := .ext fun h => xs.length ≤ sizeLine ∧ (a == sysModules) = false ∧ (xs.map (·.1)).Nodup ∧ ∃ o es ep, h.get? a = some o ∧ o.ExactDict ∧ o.data = .dict es ep ∧ es.toList = xs.map enT
theorem ext_ne {cls : Value} {d : Option Addr} {a b : Addr} {xs : List (List Int × Addr × Value)} : ExT cls d a ≠ DTx b xs := fun e => by
  have e2 := HO.ext.inj e
  let oe : Obj := { cls := cls, dict := d, data := .fields #[] }
  let h : Heap := { objs := Array.replicate (a + b + 1) oe }
  have ga : ∀ c, c < a + b + 1 → h.get? c = some oe := fun c hc => by
    show Heap.get? { objs := Array.replicate (a + b + 1) oe } c = some oe
    unfold Heap.get?
    have q : (Array.replicate (a + b + 1) oe)[c]? = some oe := by rw [Array.getElem?_replicate, if_pos hc]
    simp only [q]
    rfl
  have e3 := (congrFun e2 h).mp ⟨oe, #[], ga a (Nat.lt_succ_of_le (Nat.le_add_right a b)), ⟨rfl, rfl⟩, rfl⟩
  obtain ⟨_, _, _, o, es, ep, g, _, hd, _⟩ := e3
  rw [ga b (Nat.lt_succ_of_le (Nat.le_add_left b a))] at g
  cases g
  cases hd
noncomputable def stab : HO → Bool
  | .lst _ => false | .dK _ => false | .dT _ => false | .set _ _ => false | .ext φ => @decide (¬ ∃ a xs, HO.ext φ = DTx a xs) (Classical.propDecidable _) | _ => true
theorem stab_exT {cls : Value} {d : Option Addr} {a : Addr} : stab (ExT cls d a) = true := by
  show @decide (¬ ∃ b xs, ExT cls d a = DTx b xs) (Classical.propDecidable _) = true
  exact @decide_eq_true _ (Classical.propDecidable _) fun ⟨_, _, e⟩ => ext_ne e
theorem stab_DTx {a : Addr} {xs : List (List Int × Addr × Value)} : stab (DTx a xs) = false := by
  show @decide (¬ ∃ b ys, DTx a xs = DTx b ys) (Classical.propDecidable _) = false
  exact @decide_eq_false _ (Classical.propDecidable _) fun z => z ⟨_, _, rfl⟩
def Ev (φ : List Addr) (H : Hp) (φ' : List Addr) (H' : Hp) : Prop := (∃ ψ, φ' = φ ++ ψ) ∧ ∀ a o, H a = some o → stab o = true → H' a = some o
theorem Ev.refl (φ : List Addr) (H : Hp) : Ev φ H φ H := ⟨⟨[], (List.append_nil φ).symm⟩, fun _ _ h _ => h⟩
theorem Ev.trans {φ1 φ2 φ3 : List Addr} {H1 H2 H3 : Hp} (a : Ev φ1 H1 φ2 H2) (b : Ev φ2 H2 φ3 H3) : Ev φ1 H1 φ3 H3 := by
  obtain ⟨⟨p, rfl⟩, h1⟩ := a
  obtain ⟨⟨q, rfl⟩, h2⟩ := b
  exact ⟨⟨p ++ q, List.append_assoc _ _ _⟩, fun x o h s => h2 x o (h1 x o h s) s⟩
theorem Ev.at {φ φ' : List Addr} {H H' : Hp} (e : Ev φ H φ' H') {n : Nat} {a : Addr} (h : φ[n]? = some a) : φ'[n]? = some a := by
  obtain ⟨⟨p, rfl⟩, _⟩ := e
  rw [List.getElem?_append_left (List.getElem?_eq_some_iff.mp h).1]
  exact h
/-- a list that is never written -/
def StL (K : PySem.W.Frag) (H : Hp) (a : Addr) (xs : List V) : Prop :=
  (∃ o, H a = some (.frz o (.lst xs))) ∨
    ∃ (o : Obj) (its : Array Value) (n : Nat), K.lookup a = some o ∧ o.cls = .type "list" ∧ o.dict = none ∧ o.data = .seq its n ∧ its.size ≤ sizeLine ∧ Vals xs its.toList
theorem StL.sq {K : PySem.W.Frag} {H : Hp} {a : Addr} {xs : List V} (h : StL K H a xs) : SqL K H a xs := h.elim (fun z => .inl (.inr z)) .inr
theorem StL.ev {K : PySem.W.Frag} {φ φ' : List Addr} {H H' : Hp} {a : Addr} {xs : List V} (e : Ev φ H φ' H') (h : StL K H a xs) : StL K H' a xs :=
  h.elim (fun ⟨o, z⟩ => .inl ⟨o, e.2 _ _ z rfl⟩) .inr
theorem sqT_ev {K : PySem.W.Frag} {φ φ' : List Addr} {H H' : Hp} {a : Addr} {xs : List V} (e : Ev φ H φ' H') (h : SqT K H a xs) : SqT K H' a xs := by
  rcases h with (z | ⟨o, z⟩) | z
  · exact .inl (.inl (e.2 _ _ z rfl))
  · exact .inl (.inr ⟨o, e.2 _ _ z rfl⟩)
  · exact .inr z
/-- a tuple whose object is known to have no dict -/
def TupN (K : PySem.W.Frag) (H : Hp) (a : Addr) (xs : List V) : Prop :=
  (∃ o, H a = some (.frz o (.tup xs)) ∧ o.dict = none) ∨
    ∃ (o : Obj) (its : Array Value) (n : Nat), K.lookup a = some o ∧ o.cls = .type "tuple" ∧ o.dict = none ∧ o.data = .seq its n ∧ its.size ≤ sizeLine ∧ Vals xs its.toList
theorem TupN.sq {K : PySem.W.Frag} {H : Hp} {a : Addr} {xs : List V} (h : TupN K H a xs) : SqT K H a xs := h.elim (fun ⟨o, z, _⟩ => .inl (.inr ⟨o, z⟩)) fun ⟨o, its, n, z1, z2, _, z3⟩ => .inr ⟨o, its, n, z1, z2, z3⟩
theorem tupN_ev {K : PySem.W.Frag} {φ φ' : List Addr} {H H' : Hp} {a : Addr} {xs : List V} (e : Ev φ H φ' H') (h : TupN K H a xs) : TupN K H' a xs :=
  h.elim (fun ⟨o, z, d⟩ => .inl ⟨o, e.2 _ _ z rfl, d⟩) .inr
mutual
inductive RV (K : PySem.W.Frag) (φ : List Addr) (H : Hp) : IV → V → Prop
  | non : RV K φ H .non .non
  | bl (b : Bool) : RV K φ H (.bl b) (.bl b)
  | int (i : Int) : RV K φ H (.int i) (.int i)
  | str (x : Str) : RV K φ H (.str x) (.str x)
  | tup {a : Addr} {xs : List IV} {vs : List V} : TupN K H a vs → RVs K φ H xs vs → RV K φ H (.tup xs) (.ref a)
  | ref {n : Nat} {a : Addr} : φ[n]? = some a → RV K φ H (.ref n) (.ref a)
  | scr {a : Addr} {ns : List Int} : StL K H a (ns.map V.int) → RV K φ H (.scr ns) (.ref a)
  | exc0 {a : Addr} {name fld : Str} : H a = some (ExT (.ref (He.ga K name)) none a) → RV K φ H (.exc name fld []) (.ref a)
  | exc1 {a dd : Addr} {name fld : Str} {y : IV} {u : V} : H a = some (ExT (.ref (He.ga K name)) (some dd) a) → H dd = some (.xd [(fld, u)]) → RV K φ H y u → RV K φ H (.exc name fld [y]) (.ref a)
inductive RVs (K : PySem.W.Frag) (φ : List Addr) (H : Hp) : List IV → List V → Prop
  | nil : RVs K φ H [] []
  | cons {x : IV} {xs : List IV} {v : V} {vs : List V} : RV K φ H x v → RVs K φ H xs vs → RVs K φ H (x :: xs) (v :: vs)
end
section
variable {K : PySem.W.Frag} {φ φ' : List Addr} {H H' : Hp}
mutual
theorem RV.ev (e : Ev φ H φ' H') : ∀ {x : IV} {v : V}, RV K φ H x v → RV K φ' H' x v
  | _, _, .non => .non
  | _, _, .bl b => .bl b
  | _, _, .int b => .int b
  | _, _, .str b => .str b
  | _, _, .tup h hs => .tup (tupN_ev e h) (RVs.ev e hs)
  | _, _, .ref h => .ref (e.at h)
  | _, _, .scr h => .scr (h.ev e)
  | _, _, .exc0 h => .exc0 (e.2 _ _ h stab_exT)
  | _, _, .exc1 h h2 r => .exc1 (e.2 _ _ h stab_exT) (e.2 _ _ h2 rfl) (RV.ev e r)
theorem RVs.ev (e : Ev φ H φ' H') : ∀ {xs : List IV} {vs : List V}, RVs K φ H xs vs → RVs K φ' H' xs vs
  | _, _, .nil => .nil
  | _, _, .cons h hs => .cons (RV.ev e h) (RVs.ev e hs)
end
theorem RVs.length : ∀ {xs : List IV} {vs : List V}, RVs K φ H xs vs → xs.length = vs.length
  | _, _, .nil => rfl
  | _, _, .cons _ hs => congrArg (· + 1) (RVs.length hs)
theorem RVs.get : ∀ {xs : List IV} {vs : List V} {i : Nat} {x : IV}, RVs K φ H xs vs → xs[i]? = some x → ∃ v, vs[i]? = some v ∧ RV K φ H x v
  | _, _, _, _, .nil, e => by simp at e
  | _, _, 0, _, .cons r _, e => by simp at e; subst e; exact ⟨_, rfl, r⟩
  | _, _, i + 1, x, .cons _ t, e => by
    obtain ⟨u, h1, h2⟩ := RVs.get (i := i) (x := x) t (by simpa using e)
    exact ⟨u, by simpa using h1, h2⟩
theorem RVs.append : ∀ {xs ys : List IV} {us ws : List V}, RVs K φ H xs us → RVs K φ H ys ws → RVs K φ H (xs ++ ys) (us ++ ws)
  | _, _, _, _, .nil, s => s
  | _, _, _, _, .cons r t, s => .cons r (RVs.append t s)
theorem RVs.take : ∀ {xs : List IV} {us : List V} (n : Nat), RVs K φ H xs us → RVs K φ H (xs.take n) (us.take n)
  | _, _, 0, _ => .nil
  | _, _, _ + 1, .nil => .nil
  | _, _, n + 1, .cons r t => .cons r (RVs.take n t)
theorem RVs.drop : ∀ {xs : List IV} {us : List V} (n : Nat), RVs K φ H xs us → RVs K φ H (xs.drop n) (us.drop n)
  | _, _, 0, r => r
  | _, _, _ + 1, .nil => .nil
  | _, _, n + 1, .cons _ t => RVs.drop n t
theorem RVs.set {x : IV} {u : V} (r : RV K φ H x u) : ∀ {xs : List IV} {us : List V} (i : Nat), RVs K φ H xs us → RVs K φ H (xs.set i x) (us.set i u)
  | _, _, _, .nil => .nil
  | _, _, 0, .cons _ t => .cons r t
  | _, _, i + 1, .cons q t => .cons q (RVs.set r i t)
theorem RVs.eraseIdx : ∀ {xs : List IV} {us : List V} (i : Nat), RVs K φ H xs us → RVs K φ H (xs.eraseIdx i) (us.eraseIdx i)
  | _, _, _, .nil => .nil
  | _, _, 0, .cons _ t => t
  | _, _, i + 1, .cons q t => .cons q (RVs.eraseIdx i t)
theorem RVs.ints : ∀ ns : List Int, RVs K φ H (ns.map IV.int) (ns.map V.int)
  | [] => .nil
  | n :: ns => .cons (.int n) (RVs.ints ns)
theorem RVs.strs : ∀ ns : List Str, RVs K φ H (ns.map IV.str) (ns.map V.str)
  | [] => .nil
  | n :: ns => .cons (.str n) (RVs.strs ns)
theorem RVs.bls : ∀ ns : List Bool, RVs K φ H (ns.map IV.bl) (ns.map V.bl)
  | [] => .nil
  | n :: ns => .cons (.bl n) (RVs.bls ns)
theorem RVs.ints_eq : ∀ {ns : List Int} {vs : List V}, RVs K φ H (ns.map IV.int) vs → vs = ns.map V.int
  | [], _, .nil => rfl
  | _ :: ns, _, .cons (.int _) t => by rw [RVs.ints_eq (ns := ns) t]; rfl
theorem RVs.strs_eq : ∀ {ns : List Str} {vs : List V}, RVs K φ H (ns.map IV.str) vs → vs = ns.map V.str
  | [], _, .nil => rfl
  | _ :: ns, _, .cons (.str _) t => by rw [RVs.strs_eq (ns := ns) t]; rfl
theorem RVs.bls_eq : ∀ {ns : List Bool} {vs : List V}, RVs K φ H (ns.map IV.bl) vs → vs = ns.map V.bl
  | [], _, .nil => rfl
  | _ :: ns, _, .cons (.bl _) t => by rw [RVs.bls_eq (ns := ns) t]; rfl
theorem RVs.reverse {xs : List IV} {vs : List V} (h : RVs K φ H xs vs) : RVs K φ H xs.reverse vs.reverse := by
  induction xs generalizing vs with
  | nil => cases h; exact .nil
  | cons x xs ih =>
    cases h with
    | cons a b =>
      rw [List.reverse_cons, List.reverse_cons]
      exact (ih b).append (.cons a .nil)
end
/-- pairs of a dict -/
def RKs {κ : Type} (K : PySem.W.Frag) (φ : List Addr) (H : Hp) : List (κ × IV) → List (κ × V) → Prop := Paired fun p q => p.1 = q.1 ∧ RV K φ H p.2 q.2
theorem RKs.ev {κ : Type} {K : PySem.W.Frag} {φ φ' : List Addr} {H H' : Hp} (e : Ev φ H φ' H') {a : List (κ × IV)} {b : List (κ × V)} (h : RKs K φ H a b) : RKs K φ' H' a b :=
  Paired.mapP h fun _ _ z => ⟨z.1, z.2.ev e⟩
/-- the entries of a dict with such keys -/
def RDs (K : PySem.W.Frag) (φ : List Addr) (H : Hp) : List (List Int × IV) → List (List Int × Addr × Value) → Prop := Paired fun p q => p.1 = q.1 ∧ TupN K H q.2.1 (q.1.map V.int) ∧ ∃ v, RelV v q.2.2 ∧ RV K φ H p.2 v
theorem RDs.ev {K : PySem.W.Frag} {φ φ' : List Addr} {H H' : Hp} (e : Ev φ H φ' H') {a : List (List Int × IV)} {b : List (List Int × Addr × Value)} (h : RDs K φ H a b) : RDs K φ' H' a b :=
  Paired.mapP h fun _ _ z => let ⟨z1, z2, v, z3, z4⟩ := z; ⟨z1, tupN_ev e z2, v, z3, z4.ev e⟩
def RO (K : PySem.W.Frag) (φ : List Addr) (H : Hp) (a : Addr) : IO → Prop
  | .lst xs => ∃ vs, H a = some (.lst vs) ∧ RVs K φ H xs vs
  | .dK kvs => ∃ vs, H a = some (.dK vs) ∧ RKs K φ H kvs vs
  | .dT kvs => ∃ xs, H a = some (DTx a xs) ∧ RDs K φ H kvs xs
theorem RO.ev {K : PySem.W.Frag} {φ φ' : List Addr} {H H' : Hp} {a : Addr} {o : IO} (e : Ev φ H φ' H') (he : H' a = H a) (h : RO K φ H a o) : RO K φ' H' a o := by
  cases o with
  | lst xs => obtain ⟨vs, q, r⟩ := h; exact ⟨vs, he.trans q, r.ev e⟩
  | dK xs => obtain ⟨vs, q, r⟩ := h; exact ⟨vs, he.trans q, r.ev e⟩
  | dT xs => obtain ⟨vs, q, r⟩ := h; exact ⟨vs, he.trans q, r.ev e⟩
theorem RO.un {K : PySem.W.Frag} {φ : List Addr} {H : Hp} {a : Addr} {o : IO} (h : RO K φ H a o) : ∃ u, H a = some u ∧ stab u = false := by
  cases o with
  | lst xs => obtain ⟨vs, q, r⟩ := h; exact ⟨_, q, rfl⟩
  | dK xs => obtain ⟨vs, q, r⟩ := h; exact ⟨_, q, rfl⟩
  | dT xs => obtain ⟨vs, q, r⟩ := h; exact ⟨_, q, stab_DTx⟩
structure RH (K : PySem.W.Frag) (φ : List Addr) (H : Hp) (h : IH) : Prop where
  len : φ.length = h.length
  nd : φ.Nodup
  obj : ∀ (n : Nat) (o : IO) (a : Addr), h[n]? = some o → φ[n]? = some a → RO K φ H a o
section
variable {K : PySem.W.Frag} {φ φ' : List Addr} {H H' : Hp} {h : IH}
theorem RH.addr (r : RH K φ H h) {n : Nat} {o : IO} (e : h[n]? = some o) : ∃ a, φ[n]? = some a ∧ RO K φ H a o := by
  have hl := (List.getElem?_eq_some_iff.mp e).1
  have h2 : n < φ.length := by rw [r.len]; exact hl
  exact ⟨φ[n], List.getElem?_eq_getElem h2, r.obj n o _ e (List.getElem?_eq_getElem h2)⟩
theorem RH.ob (r : RH K φ H h) {n : Nat} {a : Addr} (e : φ[n]? = some a) : ∃ o, h[n]? = some o ∧ RO K φ H a o := by
  have hl := (List.getElem?_eq_some_iff.mp e).1
  have h2 : n < h.length := by rw [← r.len]; exact hl
  exact ⟨h[n], List.getElem?_eq_getElem h2, r.obj n _ _ (List.getElem?_eq_getElem h2) e⟩
theorem RH.out (r : RH K φ H h) {p : Addr} (hp : H p = none) : p ∉ φ := fun hm => by
  obtain ⟨n, e⟩ := List.getElem?_of_mem hm
  obtain ⟨o, _, ro⟩ := r.ob e
  obtain ⟨u, q, _⟩ := ro.un
  rw [hp] at q; cases q
theorem ev_new {p : Addr} {u : HO} (hp : H p = none) (ψ : List Addr) : Ev φ H (φ ++ ψ) (upd H p u) :=
  ⟨⟨ψ, rfl⟩, fun a o e _ => by rw [upd_ne (ne_of_none e hp)]; exact e⟩
theorem ev_new0 {p : Addr} {u : HO} (hp : H p = none) : Ev φ H φ (upd H p u) :=
  ⟨⟨[], (List.append_nil φ).symm⟩, fun a o e _ => by rw [upd_ne (ne_of_none e hp)]; exact e⟩
theorem ev_put {p : Addr} {u u' : HO} (hp : H p = some u) (hs : stab u = false) : Ev φ H φ (upd H p u') :=
  ⟨⟨[], (List.append_nil φ).symm⟩, fun a o e s => by
    have n : a ≠ p := fun z => by
      subst z
      rw [e] at hp
      cases hp
      rw [s] at hs; cases hs
    rw [upd_ne n]; exact e⟩
/-- a new thing that is none of the heap's own (a tuple) -/
theorem RH.beside (r : RH K φ H h) {p : Addr} {u : HO} (hp : H p = none) : RH K φ (upd H p u) h :=
  ⟨r.len, r.nd, fun n o a e1 e2 => by
    have ro := r.obj n o a e1 e2
    obtain ⟨w, q, _⟩ := ro.un
    exact ro.ev (ev_new0 hp) (by rw [upd_ne (ne_of_none q hp)])⟩
theorem RH.alloc (r : RH K φ H h) {p : Addr} {u : HO} {o : IO} (hp : H p = none) (ho : RO K (φ ++ [p]) (upd H p u) p o) : RH K (φ ++ [p]) (upd H p u) (h ++ [o]) := by
  refine ⟨by rw [List.length_append, List.length_append, r.len]; rfl, ?_, fun n o' a e1 e2 => ?_⟩
  · rw [List.nodup_append]
    refine ⟨r.nd, by simp, fun a ha b hb => ?_⟩
    rw [List.mem_singleton] at hb
    subst hb
    exact fun z => r.out hp (z ▸ ha)
  · by_cases hn : n < h.length
    · rw [List.getElem?_append_left hn] at e1
      rw [List.getElem?_append_left (by rw [r.len]; exact hn)] at e2
      have ro := r.obj n o' a e1 e2
      obtain ⟨w, q, _⟩ := ro.un
      exact ro.ev (ev_new hp [p]) (by rw [upd_ne (ne_of_none q hp)])
    · have hn' : h.length ≤ n := Nat.le_of_not_lt hn
      rw [List.getElem?_append_right hn'] at e1
      rw [List.getElem?_append_right (by rw [r.len]; exact hn'), r.len] at e2
      cases hk : n - h.length with
      | zero =>
        rw [hk] at e1 e2
        cases e1; cases e2
        exact ho
      | succ k => rw [hk] at e1; simp at e1
theorem RH.put (r : RH K φ H h) {p : Addr} {u : HO} {o : IO} {n : Nat} (hn : φ[n]? = some p) (ho : RO K φ (upd H p u) p o) : RH K φ (upd H p u) (h.set n o) := by
  obtain ⟨o0, e0, r0⟩ := r.ob hn
  obtain ⟨w, q, hs⟩ := r0.un
  refine ⟨by rw [List.length_set]; exact r.len, r.nd, fun m o' a e1 e2 => ?_⟩
  by_cases hm : m = n
  · subst hm
    rw [hn] at e2; cases e2
    rw [List.getElem?_set_self (List.getElem?_eq_some_iff.mp e0).1] at e1
    cases e1
    exact ho
  · rw [List.getElem?_set_ne (Ne.symm hm)] at e1
    have ro := r.obj m o' a e1 e2
    refine ro.ev (ev_put q hs) ?_
    refine upd_ne fun z => hm ?_
    subst z
    obtain ⟨l1, g1⟩ := List.getElem?_eq_some_iff.mp e2
    obtain ⟨l2, g2⟩ := List.getElem?_eq_some_iff.mp hn
    exact (List.getElem_inj r.nd).mp (g1.trans g2.symm)
end
/-- the slots -/
inductive REnv (K : PySem.W.Frag) (φ : List Addr) (H : Hp) : Env → St → Prop
  | nil : REnv K φ H [] []
  | cons {o : Option IV} {s : Option V} {env : Env} {σ : St} : (∀ x, o = some x → ∃ v, s = some v ∧ RV K φ H x v) → REnv K φ H env σ → REnv K φ H (o :: env) (s :: σ)
section
variable {K : PySem.W.Frag} {φ φ' : List Addr} {H H' : Hp}
theorem REnv.ev (e : Ev φ H φ' H') : ∀ {env : Env} {σ : St}, REnv K φ H env σ → REnv K φ' H' env σ
  | _, _, .nil => .nil
  | _, _, .cons a b => .cons (fun x hx => let ⟨v, e1, r⟩ := a x hx; ⟨v, e1, r.ev e⟩) (REnv.ev e b)
theorem REnv.get : ∀ {env : Env} {σ : St} {i : Nat} {x : IV}, REnv K φ H env σ → env[i]? = some (some x) → ∃ v, σ[i]? = some (some v) ∧ RV K φ H x v
  | _, _, _, _, .nil, e => by simp at e
  | _, _, 0, _, .cons a _, e => by
    simp at e
    obtain ⟨v, e1, r⟩ := a _ e
    exact ⟨v, by rw [e1]; rfl, r⟩
  | _, _, i + 1, x, .cons _ t, e => by
    obtain ⟨u, h1, h2⟩ := REnv.get (i := i) (x := x) t (by simpa using e)
    exact ⟨u, by simpa using h1, h2⟩
theorem REnv.set {x : IV} {v : V} (r : RV K φ H x v) : ∀ {env : Env} {σ : St} (i : Nat), REnv K φ H env σ → REnv K φ H (env.set i (some x)) (σ.set i (some v))
  | _, _, _, .nil => .nil
  | _, _, 0, .cons _ t => .cons (fun y hy => by cases hy; exact ⟨v, rfl, r⟩) t
  | _, _, i + 1, .cons q t => .cons q (REnv.set r i t)
theorem REnv.unset : ∀ {env : Env} {σ : St} (i : Nat) (s : Option V), REnv K φ H env σ → REnv K φ H (env.set i none) (σ.set i s)
  | _, _, _, _, .nil => .nil
  | _, _, 0, _, .cons _ t => .cons (fun y hy => by cases hy) t
  | _, _, i + 1, s, .cons q t => .cons q (REnv.unset i s t)
theorem REnv.start {xs : List IV} {vs : List V} (r : RVs K φ H xs vs) (n : Nat) : REnv K φ H (xs.map some ++ List.replicate n none) (vs.map some ++ List.replicate n none) := by
  induction xs generalizing vs with
  | nil =>
    cases r
    show REnv K φ H (List.replicate n none) (List.replicate n none)
    induction n with
    | zero => exact .nil
    | succ n ih => exact .cons (fun _ z => by cases z) ih
  | cons x xs ih =>
    cases r with
    | cons a b => exact .cons (fun y hy => by cases hy; exact ⟨_, rfl, a⟩) (ih b)
end
def RX (K : PySem.W.Frag) (mg : Str → Option Value) (φ : List Addr) (H : Hp) (x : Exc) (cls : Value) (d : Option Addr) : Prop :=
  cls = .ref (He.ga K x.name) ∧ ((x.val = [] ∧ d = none) ∨ ∃ dd y u, x.val = [y] ∧ d = some dd ∧ H dd = some (.xd [(x.fld, u)]) ∧ RV K φ H y u)

/-! ### what is told behind -/
def Post (K : PySem.W.Frag) (mg : Str → Option Value) {α β : Type} (R : List Addr → Hp → α → β → Prop) (φ : List Addr) (H : Hp) (W : XK) (Q : β → Hp → Prop) : Res α → Prop
  | none => False
  | some (.ok a, h') => ∀ φ' H' b, Ev φ H φ' H' → RH K φ' H' h' → R φ' H' a b → Q b H'
  | some (.error x, h') => ∀ φ' H' cls d, Ev φ H φ' H' → RH K φ' H' h' → RX K mg φ' H' x cls d → W cls d H'
section
variable {K : PySem.W.Frag} {mg : Str → Option Value} {α β γ δ : Type} {R : List Addr → Hp → α → β → Prop} {R' : List Addr → Hp → γ → δ → Prop} {φ φ0 : List Addr} {H H0 : Hp} {W : XK}
theorem Post.mono {Q Q' : β → Hp → Prop} {r : Res α} (p : Post K mg R φ H W Q r) (f : ∀ b H', Q b H' → Q' b H') : Post K mg R φ H W Q' r := by
  match r, p with
  | some (.ok a, h'), p => exact fun φ' H' b e rh rr => f _ _ (p φ' H' b e rh rr)
  | some (.error x, h'), p => exact p
def bnd (m : M α) (f : α → M γ) : M γ := fun h => match m h with
  | none => none
  | some (.error x, h') => some (.error x, h')
  | some (.ok a, h') => f a h'
def ret (a : α) : M α := fun h => some (.ok a, h)
theorem Post.bnd {Q : δ → Hp → Prop} {m : M α} {f : α → M γ} {h : IH} (p : Post K mg R' φ0 H0 W Q (bnd m f h)) (e0 : Ev φ0 H0 φ H) {Q' : β → Hp → Prop}
    (k : ∀ φ' H' a b h', Ev φ H φ' H' → RH K φ' H' h' → R φ' H' a b → Post K mg R' φ0 H0 W Q (f a h') → Q' b H') : Post K mg R φ H W Q' (m h) := by
  unfold L2.Sh.bnd at p
  cases hm : m h with
  | none => rw [hm] at p; exact p
  | some ah =>
    obtain ⟨a, h'⟩ := ah
    rw [hm] at p
    cases a with
    | error x => exact fun φ' H' cls d e rh rx => p φ' H' cls d (e0.trans e) rh rx
    | ok a => exact fun φ' H' b e rh rr => k φ' H' a b h' e rh rr p
end
end L2.Sh

namespace L2.Sh
open PySem PySem.Spec PyProof.Rows L2
/-! ### new tuples, their objects known -/
/-- what a new tuple's object is -/
def tupO (its : List Value) : Obj := { cls := .type "tuple", data := .seq its.toArray }
theorem frz_ok {P : Program} {w : World} {H : Hp} {h : Heap} {xs : List V} {its : List Value} (hz : xs.length ≤ sizeLine) (r : Vals xs its) : ObjOk P w H (h.push (tupO its)) h.objs.size (.frz (tupO its) (.tup xs)) :=
  ⟨Heap.get?_push_size _ rfl, hz, its, r, ⟨_, Heap.get?_push_size _ rfl, rfl, _, rfl⟩⟩
/-- a new tuple of xs is told -/
def NewT (Q : VK) (H : Hp) (xs : List V) : Prop := ∀ (p : Addr) (o : Obj), H p = none → o.dict = none → Q (.ref p) (upd H p (.frz o (.tup xs)))
section
variable {X : Cx} {pins : List (Addr × Obj)} {σ : St} {H : Hp} {s : Shared}
theorem ep_new {Q : VK} {xs : List V} {its : List Value} {t' : Nat} (I : Inv X pins σ H s) (hz : xs.length ≤ sizeLine) (r : Vals xs its) (q : NewT Q H xs) : EP X pins σ Q (.ref s.heap.objs.size) { s with heap := s.heap.push (tupO its), toks := t' } :=
  ⟨.ref s.heap.objs.size, _, I.laid (t' := t') (o := .frz (tupO its) (.tup xs)) (fun b u e => Heap.get?_push_of_some _ e) (Nat.le_refl _) (frz_ok hz r), rfl, q _ _ (I.hok.fresh (Nat.le_refl _)) rfl⟩
def tTupF (t : TA) : TE := fun σ H Q => t σ H fun xs H1 => xs.length ≤ sizeLine ∧ NewT Q H1 xs
theorem pe_tupF {es : List Expr} {t : TA} {x1 : Nat} {pos : Pos} (h : PA X es t) : PE X (.Tuple es x1 pos) (tTupF t) := by
  refine ⟨fun pins s σ H Q I hq => ?_⟩
  exact wpAny_Tuple_spliced (thn (h.run pos pins s σ H _ I hq) fun us s1 ⟨xs, H1, I1, r, z, q⟩ => ⟨by rw [← r.length]; exact z, ep_new I1 z r q⟩)
def rCatF (K : PySem.W.Frag) : R2 := fun x y H Q => ∃ a b xs ys, x = .ref a ∧ y = .ref b ∧ SqT K H a xs ∧ SqT K H b ys ∧ xs.length + ys.length ≤ sizeLine ∧
  (xs = [] → Q (.ref b) H) ∧ (xs ≠ [] → ys = [] → Q (.ref a) H) ∧ (xs ≠ [] → ys ≠ [] → NewT Q H (xs ++ ys))
theorem op_catF : OpR X (binaryOp .Add) (rCatF X.K) := by
  intro pins s σ H x y v u Q I rx ry h
  obtain ⟨a, b, xs, ys, rfl, rfl, ha, hb, hz, q0, q1, q2⟩ := h
  cases rx
  cases ry
  obtain ⟨its, r1, p1, _⟩ := I.tuple ha
  obtain ⟨its2, r2, p2, _⟩ := I.tuple hb
  by_cases hx : xs = []
  · subst hx
    cases r1
    exact cat_tup0 p1 p2 ⟨.ref b, H, I, rfl, q0 rfl⟩
  · refine HT.cat_tup p1 p2 (fun z => hx (r1.nil_iff.mp z)) (fun z => ⟨.ref a, H, I, rfl, q1 hx (r2.nil_iff.mp z)⟩) (fun z => ?_) (by rw [← r1.length, ← r2.length]; exact hz)
    exact ep_new (t' := s.toks) I (by rw [List.length_append]; exact hz) (r1.append r2) (q2 hx fun w => z (r2.nil_iff.mpr w))
def rSlF (K : PySem.W.Frag) : V → Option Int → Option Int → Hp → VK → Prop := fun x lo hi H Q => ∃ a xs, x = .ref a ∧ SqT K H a xs ∧
  (HT.sIx xs.length 0 lo = 0 ∧ HT.sIx xs.length xs.length hi = xs.length → Q (.ref a) H) ∧ (¬ (HT.sIx xs.length 0 lo = 0 ∧ HT.sIx xs.length xs.length hi = xs.length) → NewT Q H (cutV xs lo hi))
theorem sl_tupF : SlR X (rSlF X.K) := by
  intro pins s σ H x v vl vu lo hi sl Q I rx hs pl pu h
  obtain ⟨a, xs, rfl, hx, q1, q2⟩ := h
  cases rx
  obtain ⟨its, r, ht, hz⟩ := I.tuple hx
  have hlen : its.toArray.size = xs.length := by rw [List.size_toArray]; exact r.length.symm
  refine ⟨"tuple", _, PyProof.Rows.slot_tuple_getitem.lookup, ht.typeIs, ?_⟩
  by_cases hw : HT.sIx xs.length 0 lo = 0 ∧ HT.sIx xs.length xs.length hi = xs.length
  · exact getItem_tuple_whole ht hs pl pu (by rw [hlen]; exact hw) ⟨.ref a, H, I, rfl, q1 hw⟩
  · refine HT.getItem_tuple_cut ht hs pl pu (by rw [hlen]; exact hw) ?_ (by rw [hlen]; exact hz)
    rw [hlen]
    exact ep_new (t' := s.toks) I (Nat.le_trans (cutV_length xs lo hi) hz) ((r.drop (HT.sIx xs.length 0 lo)).take (HT.sIx xs.length xs.length hi - HT.sIx xs.length 0 lo)) (q2 hw)
theorem call_tupleF : CallR X (.type "tuple") (fun xs H Q => ∃ p ys, xs = [.ref p] ∧ ((SqL X.K H p ys ∧ NewT Q H ys) ∨ (SqT X.K H p ys ∧ Q (.ref p) H))) := by
  intro pins s σ H xs us Q I r h
  obtain ⟨p, ys, rfl, h⟩ := h
  obtain ⟨u, rfl, rx⟩ := vals1 r
  cases rx
  rcases h with ⟨hq, q⟩ | ⟨hq, q⟩
  · obtain ⟨its, r', pl, hz⟩ := I.list hq
    have hlen := r'.length
    refine call_tuple_list pl.isList (fun h' kp => ?_) (by simp only [List.size_toArray] <;> omega)
    have I1 : Inv X pins σ H { s with heap := h' } := I.kept (t' := s.toks) kp
    exact ep_new (t' := s.toks) I1 hz r' q
  · obtain ⟨its, r', pl, hz⟩ := I.tuple hq
    exact call_tuple_same pl ⟨.ref p, H, I, rfl, q⟩
theorem call_divmodF : CallR X (.builtin "divmod") (fun xs H Q => ∃ i j, xs = [.int i, .int j] ∧ CDivP i j ∧ NewT Q H [.int (i / j), .int (i % j)]) := by
  intro pins s σ H xs us Q I r h
  obtain ⟨i, j, rfl, ⟨h1, h2⟩, q⟩ := h
  obtain ⟨u, w', rfl, ⟨t, rfl⟩, ⟨t', rfl⟩⟩ := vals2 r
  refine divmod_int (by omega) ?_ (.inl h2)
  rw [Int.fdiv_eq_ediv_of_nonneg i (by omega), Int.fmod_eq_emod_of_nonneg i (by omega)]
  exact ep_new (xs := [.int (i / j), .int (i % j)]) (its := [.int (i / j) s.toks, .int (i % j) (s.toks + 1)]) I (by simp only [List.length_cons, List.length_nil]; rw [sizeLine_eq]; decide) (.cons ⟨_, rfl⟩ (.cons ⟨_, rfl⟩ .nil)) q
def tTupRgF (te : St → Hp → (Int → Int → Hp → Prop) → Prop) : TE := fun σ H Q => te σ H fun a b H1 => RgOk a b ∧ NewT Q H1 (rgV a b)
theorem pe_tupRgF {e : Expr} {te : St → Hp → (Int → Int → Hp → Prop) → Prop} {p pos : Pos} (hc : X.calm = true) (hg : Gl X "tuple") (hm : X.mg "tuple" = none) (he : PRg X e te) (na : starEach [e] X.env = (false, eval e X.env) :: starEach [] X.env := by rfl) : PE X (.Call (.Name "tuple" p) [e] [] pos) (tTupRgF te) := by
  refine ⟨fun pins s σ H Q I h => ?_⟩
  refine Call_ (ld_blt I hg hm boot_tuple (PyProof.Rows.callWith_type1 (args_cons (thn (he pins s σ H _ I h) fun x s1 ⟨r, a, b, t, u, v, H1, ex, hr, I1, ok, q⟩ => args_nil ?_) na) na))
  subst ex
  obtain ⟨b1, b2, b3, b4, b5⟩ := ok
  refine call_tuple_range (n := (b - a).toNat) (I1.ok.hd hc) hr (small_one b1 b2 b3 b4) (rangeSize_nat a b) b5 fun h' tk acc hk hi => ?_
  have I2 : Inv X pins σ H1 { s1 with heap := h', toks := tk } := I1.kept hk
  have hv := vals_rg hi
  have := ep_new (t' := tk) I2 (by rw [rgV_length, sizeLine_eq]; omega) hv q
  unfold tupO at this
  rw [Array.toArray_toList] at this
  exact this
end
end L2.Sh

namespace L2.Sh
open PySem PySem.Spec PyProof.Rows L2

/-! ### plain words of expressions -/
def lift {α : Type} (f : IH → Option (α × IH)) : M α := fun h => match f h with
  | none => none
  | some (a, h') => some (.ok a, h')
def eVar (i : Nat) : Env → M IV := fun env h => match env[i]? with
  | some (some x) => some (.ok x, h)
  | _ => none
def eC (x : IV) : Env → M IV := fun _ h => some (.ok x, h)
abbrev O2 := IV → IV → IH → Option (IV × IH)
def eOp (o : O2) (a b : Env → M IV) : Env → M IV := fun env => bnd (a env) fun x => bnd (b env) fun y => lift (o x y)
def eUn (o : IV → IH → Option (IV × IH)) (a : Env → M IV) : Env → M IV := fun env => bnd (a env) fun x => lift (o x)
def aNil : Env → M (List IV) := fun _ h => some (.ok [], h)
def aCons (a : Env → M IV) (b : Env → M (List IV)) : Env → M (List IV) := fun env => bnd (a env) fun x => bnd (b env) fun xs h => some (.ok (x :: xs), h)
def eTup (a : Env → M (List IV)) : Env → M IV := fun env => bnd (a env) fun xs h => if xs.length ≤ 16777216 then some (.ok (.tup xs), h) else none
def eLst (a : Env → M (List IV)) : Env → M IV := fun env => bnd (a env) fun xs h => if xs.length ≤ 16777216 then some (.ok (.ref h.length), h ++ [.lst xs]) else none
def eCB (o : List IV → IH → Option (IV × IH)) (a : Env → M (List IV)) : Env → M IV := fun env => bnd (a env) fun xs => lift (o xs)
def orO (o1 o2 : O2) : O2 := fun x y h => match o1 x y h with
  | some z => some z
  | none => o2 x y h
def or1 (o1 o2 : List IV → IH → Option (IV × IH)) : List IV → IH → Option (IV × IH) := fun x h => match o1 x h with
  | some z => some z
  | none => o2 x h

/-! ### soundness -/
section
variable (K : PySem.W.Frag) (mg : Str → Option Value) (W : WX)
def SimE (t : TE) (m : Env → M IV) : Prop := ∀ σ H Q φ h env, REnv K φ H env σ → RH K φ H h → Post K mg (RV K) φ H (WE W σ) Q (m env h) → t σ H Q
def SimT (t : TT) (m : Env → M Bool) : Prop := ∀ σ H Q φ h env, REnv K φ H env σ → RH K φ H h → Post K mg (fun _ _ (a b : Bool) => a = b) φ H (WE W σ) Q (m env h) → t σ H Q
def SimA (t : TA) (m : Env → M (List IV)) : Prop := ∀ σ H Q φ h env, REnv K φ H env σ → RH K φ H h → Post K mg (RVs K) φ H (WE W σ) Q (m env h) → t σ H Q
def PostO {α β : Type} (R : List Addr → Hp → α → β → Prop) (φ : List Addr) (H : Hp) (Q : β → Hp → Prop) : Option (α × IH) → Prop
  | none => False
  | some (a, h') => ∀ φ' H' b, Ev φ H φ' H' → RH K φ' H' h' → R φ' H' a b → Q b H'
end
theorem PostO.of {K : PySem.W.Frag} {mg : Str → Option Value} {α β : Type} {R : List Addr → Hp → α → β → Prop} {φ φ0 : List Addr} {H H0 : Hp} {W : XK} {Q : β → Hp → Prop} {f : IH → Option (α × IH)} {h : IH}
    (p : Post K mg R φ0 H0 W Q (lift f h)) (e : Ev φ0 H0 φ H) : PostO K R φ H Q (f h) := by
  unfold lift at p
  cases hf : f h with
  | none => rw [hf] at p; exact p
  | some z =>
    obtain ⟨a, h'⟩ := z
    rw [hf] at p
    exact fun φ' H' b e' rh r => p φ' H' b (e.trans e') rh r
/-- what came is at hand where nothing else is done -/
theorem PostO.give {K : PySem.W.Frag} {α β : Type} {R : List Addr → Hp → α → β → Prop} {φ : List Addr} {H : Hp} {Q : β → Hp → Prop} {a : α} {b : β} {h : IH}
    (p : PostO K R φ H Q (some (a, h))) (rh : RH K φ H h) (r : R φ H a b) : Q b H := p φ H b (Ev.refl _ _) rh r
structure SE (X : Cx) (W : WX) (e : Expr) (t : TE) (m : Env → M IV) : Prop where
  pe : PE X e t
  sim : SimE X.K X.mg W t m
structure ST (X : Cx) (W : WX) (e : Expr) (t : TT) (m : Env → M Bool) : Prop where
  pe : PT X e t
  sim : SimT X.K X.mg W t m
structure SA (X : Cx) (W : WX) (e : List Expr) (t : TA) (m : Env → M (List IV)) : Prop where
  pe : PA X e t
  sim : SimA X.K X.mg W t m
def SimR (K : PySem.W.Frag) (r : R2) (o : O2) : Prop := ∀ H Q φ h x y vx vy, RH K φ H h → RV K φ H x vx → RV K φ H y vy → PostO K (RV K) φ H Q (o x y h) → r vx vy H Q
structure SOp (X : Cx) (f : Value → Value → Sem Value) (r : R2) (o : O2) : Prop where
  op : OpR X f r
  sim : SimR X.K r o
def SimC (K : PySem.W.Frag) (r : List V → Hp → VK → Prop) (o : List IV → IH → Option (IV × IH)) : Prop := ∀ H Q φ h xs vs, RH K φ H h → RVs K φ H xs vs → PostO K (RV K) φ H Q (o xs h) → r vs H Q
structure SCall (X : Cx) (f : Value) (r : List V → Hp → VK → Prop) (o : List IV → IH → Option (IV × IH)) : Prop where
  op : CallR X f r
  sim : SimC X.K r o
section
variable {X : Cx} {W : WX}
theorem se_var {e : Expr} {i : Nat} (h : PE X e (tVar i)) : SE X W e (tVar i) (eVar i) := ⟨h, fun σ H Q φ h env re rh p => by
  unfold eVar at p
  cases e : env[i]? with
  | none => rw [e] at p; exact p.elim
  | some y =>
    rw [e] at p
    cases y with
    | none => exact p.elim
    | some x =>
      obtain ⟨v, e1, r⟩ := re.get e
      exact ⟨v, e1, p φ H v (Ev.refl _ _) rh r⟩⟩
theorem se_const {e : Expr} {v : V} {x : IV} (h : PE X e (tC v)) (r : ∀ φ H, RV X.K φ H x v) : SE X W e (tC v) (eC x) := ⟨h, fun σ H Q φ h env re rh p => p φ H v (Ev.refl _ _) rh (r φ H)⟩
theorem se_int {i j pos} : SE X W (.Constant (.int i) j pos) (tC (.int i)) (eC (.int i)) := se_const pe_int fun _ _ => .int _
theorem se_bl {i j pos} : SE X W (.Constant (.bool i) j pos) (tC (.bl i)) (eC (.bl i)) := se_const pe_bl fun _ _ => .bl _
theorem se_str {i j pos} : SE X W (.Constant (.str i) j pos) (tC (.str i)) (eC (.str i)) := se_const pe_str fun _ _ => .str _
theorem se_non {j pos} : SE X W (.Constant .none j pos) (tC .non) (eC .non) := se_const pe_non fun _ _ => .non
theorem sim_op {K : PySem.W.Frag} {mg : Str → Option Value} {r : R2} {o : O2} {ta tb : TE} {ma mb : Env → M IV} (ho : SimR K r o) (ha : SimE K mg W ta ma) (hb : SimE K mg W tb mb) : SimE K mg W (tOp r ta tb) (eOp o ma mb) := by
  intro σ H Q φ h env re rh p
  refine ha σ H _ φ h env re rh (p.bnd (Ev.refl _ _) fun φ1 H1 x v h1 e1 rh1 r1 p1 => ?_)
  refine hb σ H1 _ φ1 h1 env (re.ev e1) rh1 (p1.bnd e1 fun φ2 H2 y u h2 e2 rh2 r2 p2 => ?_)
  exact ho H2 Q φ2 h2 x y v u rh2 (r1.ev e2) r2 (PostO.of p2 (e1.trans e2))
theorem se_op {op : Operator} {r : R2} {o : O2} {a b : Expr} {ta tb : TE} {ma mb : Env → M IV} {pos : Pos} (ho : SOp X (binaryOp op) r o) (ha : SE X W a ta ma) (hb : SE X W b tb mb) : SE X W (.BinOp a op b pos) (tOp r ta tb) (eOp o ma mb) :=
  ⟨pe_op ho.op ha.pe hb.pe, sim_op ho.sim ha.sim hb.sim⟩
theorem se_cmp {op : CmpOp} {r : R2} {o : O2} {a b : Expr} {ta tb : TE} {ma mb : Env → M IV} {pos : Pos} (ho : SOp X (compareOp op) r o) (ha : SE X W a ta ma) (hb : SE X W b tb mb) (hm : behindInMarks op b = false) : SE X W (.Compare a [op] [b] pos) (tOp r ta tb) (eOp o ma mb) :=
  ⟨pe_cmpR ho.op ha.pe hb.pe hm, sim_op ho.sim ha.sim hb.sim⟩
theorem se_ix {r : R2} {o : O2} {a b : Expr} {ta tb : TE} {ma mb : Env → M IV} {pos : Pos} (ho : IxR X r) (hs : SimR X.K r o) (ha : SE X W a ta ma) (hb : SE X W b tb mb) (hp : PlainIx b) : SE X W (.Subscript a b pos) (tOp r ta tb) (eOp o ma mb) :=
  ⟨pe_ix ho ha.pe hb.pe hp, sim_op hs ha.sim hb.sim⟩
theorem SimR.or {K : PySem.W.Frag} {r1 r2 : R2} {o1 o2 : O2} (a : SimR K r1 o1) (b : SimR K r2 o2) : SimR K (fun x y H Q => r1 x y H Q ∨ r2 x y H Q) (orO o1 o2) := by
  intro H Q φ h x y vx vy rh rx ry p
  unfold orO at p
  cases e : o1 x y h with
  | none => rw [e] at p; exact .inr (b H Q φ h x y vx vy rh rx ry p)
  | some z => rw [e] at p; exact .inl (a H Q φ h x y vx vy rh rx ry (by rw [e]; exact p))
theorem SOp.or {f : Value → Value → Sem Value} {r1 r2 : R2} {o1 o2 : O2} (a : SOp X f r1 o1) (b : SOp X f r2 o2) : SOp X f (fun x y H Q => r1 x y H Q ∨ r2 x y H Q) (orO o1 o2) := ⟨a.op.or b.op, a.sim.or b.sim⟩
theorem CallR.or {f : Value} {r r' : List V → Hp → VK → Prop} (h : CallR X f r) (h' : CallR X f r') : CallR X f (fun x H Q => r x H Q ∨ r' x H Q) := by
  intro pins s σ H xs us Q I rx q
  rcases q with q | q
  · exact h pins s σ H xs us Q I rx q
  · exact h' pins s σ H xs us Q I rx q
theorem SCall.or {f : Value} {r1 r2 : List V → Hp → VK → Prop} {o1 o2} (a : SCall X f r1 o1) (b : SCall X f r2 o2) : SCall X f (fun x H Q => r1 x H Q ∨ r2 x H Q) (or1 o1 o2) := ⟨a.op.or b.op, by
  intro H Q φ h xs vs rh rx p
  unfold or1 at p
  cases e : o1 xs h with
  | none => rw [e] at p; exact .inr (b.sim H Q φ h xs vs rh rx p)
  | some z => rw [e] at p; exact .inl (a.sim H Q φ h xs vs rh rx (by rw [e]; exact p))⟩
theorem sim_un {K : PySem.W.Frag} {mg : Str → Option Value} {r : V → Hp → VK → Prop} {o : IV → IH → Option (IV × IH)} {ta : TE} {ma : Env → M IV} (ho : ∀ H Q φ h x vx, RH K φ H h → RV K φ H x vx → PostO K (RV K) φ H Q (o x h) → r vx H Q) (ha : SimE K mg W ta ma) :
    SimE K mg W (tUn r ta) (eUn o ma) := by
  intro σ H Q φ h env re rh p
  refine ha σ H _ φ h env re rh (p.bnd (Ev.refl _ _) fun φ1 H1 x v h1 e1 rh1 r1 p1 => ?_)
  exact ho H1 Q φ1 h1 x v rh1 r1 (PostO.of p1 e1)
def negO : IV → IH → Option (IV × IH)
  | .int i, h => some (.int (-i), h)
  | _, _ => none
theorem se_neg {a : Expr} {ta : TE} {ma : Env → M IV} {pos : Pos} (ha : SE X W a ta ma) : SE X W (.UnaryOp .USub a pos) (tUn (rU fun i => .int (-i)) ta) (eUn negO ma) :=
  ⟨pe_un un_neg ha.pe, sim_un (fun H Q φ h x vx rh rx p => by
    cases rx <;> first | exact p.elim | skip
    rename_i i
    exact ⟨i, rfl, PostO.give p rh (.int _)⟩) ha.sim⟩
/-! arguments -/
theorem sa_nil : SA X W [] tNil aNil := ⟨pa_nil, fun σ H Q φ h env re rh p => p φ H [] (Ev.refl _ _) rh .nil⟩
theorem sa_cons {e : Expr} {es : List Expr} {te : TE} {t : TA} {me : Env → M IV} {m : Env → M (List IV)} (ha : SE X W e te me) (hr : SA X W es t m) (hs : starEach (e :: es) X.env = (false, eval e X.env) :: starEach es X.env := by rfl) : SA X W (e :: es) (tCons te t) (aCons me m) := by
  refine ⟨pa_cons ha.pe hr.pe hs, ?_⟩
  intro σ H Q φ h env re rh p
  refine ha.sim σ H _ φ h env re rh (p.bnd (Ev.refl _ _) fun φ1 H1 x v h1 e1 rh1 r1 p1 => ?_)
  refine hr.sim σ H1 _ φ1 h1 env (re.ev e1) rh1 (p1.bnd e1 fun φ2 H2 y u h2 e2 rh2 r2 p2 => ?_)
  exact p2 φ2 H2 _ (e1.trans e2) rh2 (.cons (r1.ev e2) r2)
theorem line16 : sizeLine = 16777216 := sizeLine_eq
theorem se_tup {es : List Expr} {t : TA} {m : Env → M (List IV)} {x1} {pos : Pos} (ha : SA X W es t m) : SE X W (.Tuple es x1 pos) (tTupF t) (eTup m) := by
  refine ⟨pe_tupF ha.pe, ?_⟩
  intro σ H Q φ h env re rh p
  refine ha.sim σ H _ φ h env re rh (p.bnd (Ev.refl _ _) fun φ1 H1 xs vs h1 e1 rh1 r1 p1 => ?_)
  split at p1
  · rename_i hl
    refine ⟨by rw [line16, ← r1.length]; exact hl, fun q o hq ho => ?_⟩
    have e2 : Ev φ1 H1 φ1 (upd H1 q (.frz o (.tup vs))) := ev_new0 hq
    exact p1 φ1 _ _ (e1.trans e2) (rh1.beside hq) (.tup (.inl ⟨o, upd_same, ho⟩) (r1.ev e2))
  · exact p1.elim
theorem post_new {K : PySem.W.Frag} {φ : List Addr} {H : Hp} {h : IH} {q : Addr} {u : HO} {o : IO} {Q : VK} (rh : RH K φ H h) (hq : H q = none) (ro : RO K (φ ++ [q]) (upd H q u) q o)
    (p : PostO K (RV K) φ H Q (some (.ref h.length, h ++ [o]))) : Q (.ref q) (upd H q u) := by
  have e2 : Ev φ H (φ ++ [q]) (upd H q u) := ev_new hq [q]
  refine p _ _ _ e2 (rh.alloc hq ro) (.ref ?_)
  rw [← rh.len]
  simp
theorem se_lst {es : List Expr} {t : TA} {m : Env → M (List IV)} {pos : Pos} (ha : SA X W es t m) : SE X W (.List es pos) (tLst t) (eLst m) := by
  refine ⟨pe_lst ha.pe, ?_⟩
  intro σ H Q φ h env re rh p
  refine ha.sim σ H _ φ h env re rh (p.bnd (Ev.refl _ _) fun φ1 H1 xs vs h1 e1 rh1 r1 p1 => ?_)
  split at p1
  · rename_i hl
    refine ⟨by rw [line16, ← r1.length]; exact hl, fun q hq => ?_⟩
    refine post_new (o := .lst xs) rh1 hq ⟨vs, upd_same, r1.ev (ev_new hq [q])⟩ ?_
    exact fun φ' H' b e' rh' r' => p1 φ' H' b (e1.trans e') rh' r'
  · exact p1.elim
theorem se_callB {id : String} {r : List V → Hp → VK → Prop} {o : List IV → IH → Option (IV × IH)} {x : Str} {e : Expr} {es : List Expr} {t : TA} {m : Env → M (List IV)} {p pos : Pos} (hc : SCall X (.builtin id) r o) (hg : Gl X x) (hm : X.mg x = none) (hv : bootBuiltins x = some (.builtin id)) (ha : SA X W (e :: es) t m) (hn : x ≠ "__name__" := by decide) (hdb : (x == ("__debug__" : Str)) = false := by decide)
    (he : starEach (e :: es) X.env = (false, eval e X.env) :: starEach es X.env := by rfl) (hpl : (backTo pos (starEach es X.env)).any (·.1) = false := by rfl) : SE X W (.Call (.Name x p) (e :: es) [] pos) (tCB r t) (eCB o m) := by
  refine ⟨pe_callB hc.op hg hm hv ha.pe hn hdb he hpl, ?_⟩
  intro σ H Q φ h env re rh p
  refine ha.sim σ H _ φ h env re rh (p.bnd (Ev.refl _ _) fun φ1 H1 xs vs h1 e1 rh1 r1 p1 => ?_)
  exact hc.sim H1 Q φ1 h1 xs vs rh1 r1 (PostO.of p1 e1)
theorem se_callTy {T : String} {r : List V → Hp → VK → Prop} {o : List IV → IH → Option (IV × IH)} {x : Str} {e : Expr} {es : List Expr} {t : TA} {m : Env → M (List IV)} {p pos : Pos} (hc : SCall X (.type T) r o) (hg : Gl X x) (hm : X.mg x = none) (hv : bootBuiltins x = some (.type T)) (ha : SA X W (e :: es) t m) (hn : x ≠ "__name__" := by decide) (hdb : (x == ("__debug__" : Str)) = false := by decide)
    (he : starEach (e :: es) X.env = (false, eval e X.env) :: starEach es X.env := by rfl) (hpl : (backTo pos (starEach es X.env)).any (·.1) = false := by rfl) : SE X W (.Call (.Name x p) (e :: es) [] pos) (tCB r t) (eCB o m) := by
  refine ⟨pe_callTy hc.op hg hm hv ha.pe hn hdb he hpl, ?_⟩
  intro σ H Q φ h env re rh p
  refine ha.sim σ H _ φ h env re rh (p.bnd (Ev.refl _ _) fun φ1 H1 xs vs h1 e1 rh1 r1 p1 => ?_)
  exact hc.sim H1 Q φ1 h1 xs vs rh1 r1 (PostO.of p1 e1)
/-! tests -/
def tyB (a : Env → M IV) : Env → M Bool := fun env => bnd (a env) fun x h => match x with
  | .bl b => some (.ok b, h)
  | _ => none
def tAndM (a b : Env → M Bool) : Env → M Bool := fun env => bnd (a env) fun c => if c = true then b env else fun h => some (.ok false, h)
def tOrM (a b : Env → M Bool) : Env → M Bool := fun env => bnd (a env) fun c => if c = true then fun h => some (.ok true, h) else b env
def tNotM (a : Env → M Bool) : Env → M Bool := fun env => bnd (a env) fun c h => some (.ok (!c), h)
def truO : IV → IH → Option (Bool × IH)
  | .non, h => some (false, h)
  | .bl b, h => some (b, h)
  | .int i, h => some (i != 0, h)
  | .str y, h => if y.length ≤ 16777216 then some ((y.length : Int) != 0, h) else none
  | .tup xs, h => some (!xs.isEmpty, h)
  | .ref n, h => match h[n]? with
    | some (.lst xs) => some (!xs.isEmpty, h)
    | some (.dK kvs) => some (!kvs.isEmpty, h)
    | _ => none
  | .scr ns, h => some (!ns.isEmpty, h)
  | _, _ => none
def tTru (a : Env → M IV) : Env → M Bool := fun env => bnd (a env) fun x => lift (truO x)
theorem st_cmp {op : CmpOp} {r : R2} {o : O2} {a b : Expr} {ta tb : TE} {ma mb : Env → M IV} {pos : Pos} (ho : SOp X (compareOp op) r o) (ha : SE X W a ta ma) (hb : SE X W b tb mb) (hm : behindInMarks op b = false) : ST X W (.Compare a [op] [b] pos) (tTest (tOp r ta tb)) (tyB (eOp o ma mb)) := by
  refine ⟨pt_cmpR ho.op ha.pe hb.pe hm, ?_⟩
  intro σ H Q φ h env re rh p
  refine sim_op ho.sim ha.sim hb.sim σ H _ φ h env re rh (p.bnd (Ev.refl _ _) fun φ1 H1 x v h1 e1 rh1 r1 p1 => ?_)
  cases r1 <;> first | exact p1.elim | skip
  rename_i b
  exact ⟨b, rfl, p1 φ1 H1 b e1 rh1 rfl⟩
theorem st_val {a : Expr} {ta : TE} {ma : Env → M IV} (ha : SE X W a ta ma) (he : ∀ whole, isTrue a X.env whole = (do let v ← whole; standAt a.pos; holding [v] (truthy v)) := by intro _; rfl) : ST X W a (tB ta) (tyB ma) := by
  refine ⟨pt_val ha.pe he, ?_⟩
  intro σ H Q φ h env re rh p
  refine ha.sim σ H _ φ h env re rh (p.bnd (Ev.refl _ _) fun φ1 H1 x v h1 e1 rh1 r1 p1 => ?_)
  cases r1 <;> first | exact p1.elim | skip
  rename_i b
  exact ⟨b, rfl, p1 φ1 H1 b e1 rh1 rfl⟩
theorem isEmpty_rvs {K : PySem.W.Frag} {φ : List Addr} {H : Hp} {xs : List IV} {vs : List V} (r : RVs K φ H xs vs) : xs.isEmpty = vs.isEmpty := by cases r <;> rfl
theorem tru_sim {K : PySem.W.Frag} {φ : List Addr} {H : Hp} {h : IH} {x : IV} {v : V} {Q : Bool → Hp → Prop} (rh : RH K φ H h) (r : RV K φ H x v) (p : PostO K (fun _ _ (a b : Bool) => a = b) φ H Q (truO x h)) : ∃ k, TruV K v H k ∧ Q k H := by
  cases r with
  | non => exact ⟨_, rfl, p.give rh rfl⟩
  | bl b => exact ⟨_, rfl, p.give rh rfl⟩
  | int b => exact ⟨_, rfl, p.give rh rfl⟩
  | str b =>
    simp only [truO] at p
    split at p
    · rename_i hl
      exact ⟨_, ⟨by rw [line16]; exact hl, rfl⟩, p.give rh rfl⟩
    · exact p.elim
  | tup hs rs => exact ⟨_, .inr (.inl ⟨_, hs.sq, rfl⟩), p.give rh (congrArg (!·) (isEmpty_rvs rs))⟩
  | ref hn =>
    simp only [truO] at p
    obtain ⟨o, e, ro⟩ := rh.ob hn
    rw [e] at p
    cases o with
    | lst xs =>
      obtain ⟨vs, q, rr⟩ := ro
      exact ⟨_, .inl ⟨vs, .inl (.inl q), rfl⟩, p.give rh (congrArg (!·) (isEmpty_rvs rr))⟩
    | dK xs =>
      obtain ⟨vs, q, rr⟩ := ro
      exact ⟨_, .inr (.inr ⟨vs, q, rfl⟩), p.give rh (by cases rr <;> rfl)⟩
    | dT xs => exact p.elim
  | scr hs =>
    rename_i a ns
    exact ⟨_, .inl ⟨_, hs.sq, rfl⟩, p.give rh (by cases ns <;> rfl)⟩
  | exc0 => exact p.elim
  | exc1 => exact p.elim
theorem st_truth {a : Expr} {ta : TE} {ma : Env → M IV} (ha : SE X W a ta ma) (he : ∀ whole, isTrue a X.env whole = (do let v ← whole; standAt a.pos; holding [v] (truthy v)) := by intro _; rfl) :
    ST X W a (fun σ H Q => ta σ H fun x H1 => ∃ k, TruV X.K x H1 k ∧ Q k H1) (tTru ma) := by
  refine ⟨pt_truth ha.pe he, ?_⟩
  intro σ H Q φ h env re rh p
  refine ha.sim σ H _ φ h env re rh (p.bnd (Ev.refl _ _) fun φ1 H1 x v h1 e1 rh1 r1 p1 => ?_)
  exact tru_sim rh1 r1 (PostO.of p1 e1)
structure SW (X : Cx) (W : WX) (e : Expr) (t : TT) (m : Env → M Bool) : Prop where
  pe : PW X e t
  sim : SimT X.K X.mg W t m
theorem SW.st {e : Expr} {t : TT} {m : Env → M Bool} (h : SW X W e t m) : ST X W e t m := ⟨h.pe.pt, h.sim⟩
theorem sim_and {K : PySem.W.Frag} {mg : Str → Option Value} {ta tb : TT} {ma mb : Env → M Bool} (ha : SimT K mg W ta ma) (hb : SimT K mg W tb mb) : SimT K mg W (tAnd ta tb) (tAndM ma mb) := by
  intro σ H Q φ h env re rh p
  refine ha σ H _ φ h env re rh (p.bnd (Ev.refl _ _) fun φ1 H1 x v h1 e1 rh1 r1 p1 => ?_)
  subst r1
  cases x with
  | true => exact iteT (hb σ H1 Q φ1 h1 env (re.ev e1) rh1 (by
      cases hh : mb env h1 with
      | none => simp only [if_pos] at p1; rw [hh] at p1; exact p1.elim
      | some z =>
        simp only [if_pos] at p1
        rw [hh] at p1
        obtain ⟨z, h2⟩ := z
        cases z with
        | error z => exact fun φ' H' cls d e rh rx => p1 φ' H' cls d (e1.trans e) rh rx
        | ok z => exact fun φ' H' b e rh rr => p1 φ' H' b (e1.trans e) rh rr))
  | false => exact iteF (p1 φ1 H1 false e1 rh1 rfl)
theorem sim_or {K : PySem.W.Frag} {mg : Str → Option Value} {ta tb : TT} {ma mb : Env → M Bool} (ha : SimT K mg W ta ma) (hb : SimT K mg W tb mb) : SimT K mg W (tOr ta tb) (tOrM ma mb) := by
  intro σ H Q φ h env re rh p
  refine ha σ H _ φ h env re rh (p.bnd (Ev.refl _ _) fun φ1 H1 x v h1 e1 rh1 r1 p1 => ?_)
  subst r1
  cases x with
  | false => exact iteF (hb σ H1 Q φ1 h1 env (re.ev e1) rh1 (by
      cases hh : mb env h1 with
      | none => simp only [Bool.false_eq_true, if_false] at p1; rw [hh] at p1; exact p1.elim
      | some z =>
        simp only [Bool.false_eq_true, if_false] at p1
        rw [hh] at p1
        obtain ⟨z, h2⟩ := z
        cases z with
        | error z => exact fun φ' H' cls d e rh rx => p1 φ' H' cls d (e1.trans e) rh rx
        | ok z => exact fun φ' H' b e rh rr => p1 φ' H' b (e1.trans e) rh rr))
  | true => exact iteT (p1 φ1 H1 true e1 rh1 rfl)
theorem sw_and1 {a : Expr} {t : TT} {m : Env → M Bool} {pos : Pos} (h : ST X W a t m) : SW X W (.BoolOp .And [a] pos) t m := ⟨pw_and1 h.pe, h.sim⟩
theorem sw_or1 {a : Expr} {t : TT} {m : Env → M Bool} {pos : Pos} (h : ST X W a t m) : SW X W (.BoolOp .Or [a] pos) t m := ⟨pw_or1 h.pe, h.sim⟩
theorem sw_and {a b : Expr} {rest : List Expr} {t u : TT} {m k : Env → M Bool} {pos : Pos} (h : ST X W a t m) (g : SW X W (.BoolOp .And (b :: rest) pos) u k) : SW X W (.BoolOp .And (a :: b :: rest) pos) (tAnd t u) (tAndM m k) := ⟨pw_and h.pe g.pe, sim_and h.sim g.sim⟩
theorem sw_or {a b : Expr} {rest : List Expr} {t u : TT} {m k : Env → M Bool} {pos : Pos} (h : ST X W a t m) (g : SW X W (.BoolOp .Or (b :: rest) pos) u k) : SW X W (.BoolOp .Or (a :: b :: rest) pos) (tOr t u) (tOrM m k) := ⟨pw_or h.pe g.pe, sim_or h.sim g.sim⟩
theorem st_not {a : Expr} {t : TT} {m : Env → M Bool} {pos : Pos} (h : ST X W a t m) : ST X W (.UnaryOp .Not a pos) (tNot t) (tNotM m) := by
  refine ⟨pt_not h.pe, ?_⟩
  intro σ H Q φ hh env re rh p
  refine h.sim σ H _ φ hh env re rh (p.bnd (Ev.refl _ _) fun φ1 H1 x v h1 e1 rh1 r1 p1 => ?_)
  subst r1
  exact p1 φ1 H1 _ e1 rh1 rfl
end
end L2.Sh

namespace L2.Sh
open PySem PySem.Spec PyProof.Rows L2
/-! ### values of and, or, not, if *)-/
def eAnd (a b : Env → M IV) : Env → M IV := fun env => bnd (tyB a env) fun c => if c = true then b env else fun h => some (.ok (.bl false), h)
def eOr (a b : Env → M IV) : Env → M IV := fun env => bnd (tyB a env) fun c => if c = true then (fun h => some (.ok (.bl true), h)) else b env
def eNot (a : Env → M IV) : Env → M IV := fun env => bnd (tyB a env) fun c h => some (.ok (.bl (!c)), h)
def eIf (c : Env → M Bool) (a b : Env → M IV) : Env → M IV := fun env => bnd (c env) fun k => if k = true then a env else b env
def eChain (o o' : O2) (a b c : Env → M IV) : Env → M IV := fun env => bnd (a env) fun x => bnd (b env) fun y => bnd (lift (o x y)) fun z h => match z with
  | .bl true => bnd (c env) (fun w => lift (o' y w)) h
  | .bl false => some (.ok (.bl false), h)
  | _ => none
section
variable {X : Cx} {W : WX}
theorem Post.ev {K : PySem.W.Frag} {mg : Str → Option Value} {α β : Type} {R : List Addr → Hp → α → β → Prop} {φ φ1 : List Addr} {H H1 : Hp} {W : XK} {Q : β → Hp → Prop} {r : Res α} (e : Ev φ H φ1 H1) (p : Post K mg R φ H W Q r) : Post K mg R φ1 H1 W Q r := by
  match r, p with
  | some (.ok a, h'), p => exact fun φ' H' b e' rh rr => p φ' H' b (e.trans e') rh rr
  | some (.error x, h'), p => exact fun φ' H' cls d e' rh rr => p φ' H' cls d (e.trans e') rh rr
theorem se_and {a b : Expr} {rest : List Expr} {ta tb : TE} {ma mb : Env → M IV} {pos : Pos} (ha : SE X W a ta ma) (hb : SE X W (.BoolOp .And (b :: rest) pos) tb mb) : SE X W (.BoolOp .And (a :: b :: rest) pos) (tAndV ta tb) (eAnd ma mb) := by
  refine ⟨pe_and ha.pe hb.pe, ?_⟩
  intro σ H Q φ h env re rh p
  unfold eAnd tyB at p
  refine ha.sim σ H _ φ h env re rh ?_
  refine Post.bnd (R' := RV X.K) (m := ma env) (f := fun x => bnd (fun h => match x with
    | .bl b => some (.ok b, h)
    | _ => none) fun c => if c = true then mb env else fun h => some (.ok (.bl false), h)) (by
      unfold bnd at p ⊢
      cases hm : ma env h with
      | none => rw [hm] at p; exact p
      | some z =>
        obtain ⟨z, h'⟩ := z
        rw [hm] at p
        cases z with
        | error x => exact p
        | ok x => exact p) (Ev.refl _ _) fun φ1 H1 x v h1 e1 rh1 r1 p1 => ?_
  cases r1 <;> first | exact p1.elim | skip
  rename_i b
  refine ⟨b, rfl, ?_⟩
  cases b with
  | true => exact iteT (hb.sim σ H1 Q φ1 h1 env (re.ev e1) rh1 (Post.ev e1 p1))
  | false => exact iteF (p1 φ1 H1 _ e1 rh1 (.bl false))
theorem se_or {a b : Expr} {rest : List Expr} {ta tb : TE} {ma mb : Env → M IV} {pos : Pos} (ha : SE X W a ta ma) (hb : SE X W (.BoolOp .Or (b :: rest) pos) tb mb) : SE X W (.BoolOp .Or (a :: b :: rest) pos) (tOrV ta tb) (eOr ma mb) := by
  refine ⟨pe_or ha.pe hb.pe, ?_⟩
  intro σ H Q φ h env re rh p
  unfold eOr tyB at p
  refine ha.sim σ H _ φ h env re rh ?_
  refine Post.bnd (R' := RV X.K) (m := ma env) (f := fun x => bnd (fun h => match x with
    | .bl b => some (.ok b, h)
    | _ => none) fun c => if c = true then (fun h => some (.ok (.bl true), h)) else mb env) (by
      unfold bnd at p ⊢
      cases hm : ma env h with
      | none => rw [hm] at p; exact p
      | some z =>
        obtain ⟨z, h'⟩ := z
        rw [hm] at p
        cases z with
        | error x => exact p
        | ok x => exact p) (Ev.refl _ _) fun φ1 H1 x v h1 e1 rh1 r1 p1 => ?_
  cases r1 <;> first | exact p1.elim | skip
  rename_i b
  refine ⟨b, rfl, ?_⟩
  cases b with
  | false => exact iteF (hb.sim σ H1 Q φ1 h1 env (re.ev e1) rh1 (Post.ev e1 p1))
  | true => exact iteT (p1 φ1 H1 _ e1 rh1 (.bl true))
theorem se_one {op} {a : Expr} {t : TE} {m : Env → M IV} {pos : Pos} (h : SE X W a t m) : SE X W (.BoolOp op [a] pos) t m := ⟨pe_one h.pe, h.sim⟩
theorem se_not {a : Expr} {ta : TE} {ma : Env → M IV} {pos : Pos} (ha : SE X W a ta ma) : SE X W (.UnaryOp .Not a pos) (tNotV ta) (eNot ma) := by
  refine ⟨pe_not ha.pe, ?_⟩
  intro σ H Q φ h env re rh p
  unfold eNot tyB at p
  refine ha.sim σ H _ φ h env re rh ?_
  refine Post.bnd (R' := RV X.K) (m := ma env) (f := fun x => bnd (fun h => match x with
    | .bl b => some (.ok b, h)
    | _ => none) fun c h => some (.ok (.bl (!c)), h)) (by
      unfold bnd at p ⊢
      cases hm : ma env h with
      | none => rw [hm] at p; exact p
      | some z =>
        obtain ⟨z, h'⟩ := z
        rw [hm] at p
        cases z with
        | error x => exact p
        | ok x => exact p) (Ev.refl _ _) fun φ1 H1 x v h1 e1 rh1 r1 p1 => ?_
  cases r1 <;> first | exact p1.elim | skip
  rename_i b
  exact ⟨b, rfl, p1 φ1 H1 _ e1 rh1 (.bl _)⟩
theorem se_if {c a b : Expr} {tc : TT} {ta tb : TE} {mc : Env → M Bool} {ma mb : Env → M IV} {pos : Pos} (hc : ST X W c tc mc) (ha : SE X W a ta ma) (hb : SE X W b tb mb) : SE X W (.IfExp c a b pos) (tIf tc ta tb) (eIf mc ma mb) := by
  refine ⟨pe_ifExp hc.pe ha.pe hb.pe, ?_⟩
  intro σ H Q φ h env re rh p
  refine hc.sim σ H _ φ h env re rh (p.bnd (Ev.refl _ _) fun φ1 H1 x v h1 e1 rh1 r1 p1 => ?_)
  subst r1
  cases x with
  | true => exact iteT (ha.sim σ H1 Q φ1 h1 env (re.ev e1) rh1 (Post.ev e1 p1))
  | false => exact iteF (hb.sim σ H1 Q φ1 h1 env (re.ev e1) rh1 (Post.ev e1 p1))
theorem sim_chain {K : PySem.W.Frag} {mg : Str → Option Value} {r r' : R2} {o o' : O2} {ta tb tc : TE} {ma mb mc : Env → M IV} (ho : SimR K r o) (ho' : SimR K r' o') (ha : SimE K mg W ta ma) (hb : SimE K mg W tb mb) (hc : SimE K mg W tc mc) :
    SimE K mg W (tChain r r' ta tb tc) (eChain o o' ma mb mc) := by
  intro σ H Q φ h env re rh p
  refine ha σ H _ φ h env re rh (p.bnd (Ev.refl _ _) fun φ1 H1 x v h1 e1 rh1 r1 p1 => ?_)
  refine hb σ H1 _ φ1 h1 env (re.ev e1) rh1 (p1.bnd e1 fun φ2 H2 y u h2 e2 rh2 r2 p2 => ?_)
  refine ho H2 _ φ2 h2 x y v u rh2 (r1.ev e2) r2 (PostO.of (W := WE W σ) (mg := mg) (p2.bnd (e1.trans e2) fun φ3 H3 z q h3 e3 rh3 r3 p3 => ?_) (Ev.refl _ _))
  have e03 := (e1.trans e2).trans e3
  cases r3 <;> first | exact p3.elim | skip
  rename_i b
  refine ⟨b, rfl, ?_⟩
  cases b with
  | false => exact iteF (p3 φ3 H3 _ e03 rh3 (.bl false))
  | true =>
    refine iteT (hc σ H3 _ φ3 h3 env (re.ev e03) rh3 (Post.bnd (R' := RV K) (f := fun w => lift (o' y w)) p3 e03 fun φ4 H4 w q h4 e4 rh4 r4 p4 => ?_))
    exact ho' H4 Q φ4 h4 y w u q rh4 ((r2.ev e3).ev e4) r4 (PostO.of p4 (e03.trans e4))
end
/-! ### statements -/
inductive Flw where
  | nx (env : Env) | rt (v : IV) | bk (env : Env) | ct (env : Env) | ex (x : Exc) (env : Env)
abbrev MS := Env → IH → Option (Flw × IH)
def PostS (K : PySem.W.Frag) (mg : Str → Option Value) (W : WX) (φ : List Addr) (H : Hp) (D : Ends) : Option (Flw × IH) → Prop
  | none => False
  | some (.nx env, h) => ∀ φ' H' σ', Ev φ H φ' H' → RH K φ' H' h → REnv K φ' H' env σ' → D.nx σ' H'
  | some (.rt v, h) => ∀ φ' H' u, Ev φ H φ' H' → RH K φ' H' h → RV K φ' H' v u → D.rt u H'
  | some (.bk env, h) => ∀ φ' H' σ', Ev φ H φ' H' → RH K φ' H' h → REnv K φ' H' env σ' → D.bk σ' H'
  | some (.ct env, h) => ∀ φ' H' σ', Ev φ H φ' H' → RH K φ' H' h → REnv K φ' H' env σ' → D.ct σ' H'
  | some (.ex x env, h) => ∀ φ' H' σ' cls d, Ev φ H φ' H' → RH K φ' H' h → REnv K φ' H' env σ' → RX K mg φ' H' x cls d → W cls d σ' H'
def SimS (K : PySem.W.Frag) (mg : Str → Option Value) (W : WX) (t : TS) (m : MS) : Prop := ∀ σ H D φ h env, REnv K φ H env σ → RH K φ H h → PostS K mg W φ H D (m env h) → t D σ H
structure SS (X : Cx) (W : WX) (s : Stmt) (t : TS) (m : MS) : Prop where
  pe : PS X s t
  sim : SimS X.K X.mg W t m
structure SB (X : Cx) (W : WX) (s : List Stmt) (t : TS) (m : MS) : Prop where
  pe : PSs X s t
  sim : SimS X.K X.mg W t m
def sNil : MS := fun env h => some (.nx env, h)
def sSeq (a b : MS) : MS := fun env h => match a env h with
  | some (.nx env', h') => b env' h'
  | r => r
/-- with an expression's value -/
def bndS {α : Type} (m : Env → M α) (f : α → MS) : MS := fun env h => match m env h with
  | none => none
  | some (.error x, h') => some (.ex x env, h')
  | some (.ok a, h') => f a env h'
def sAsg (i : Nat) (m : Env → M IV) : MS := bndS m fun x env h => some (.nx (env.set i (some x)), h)
def sRet (m : Env → M IV) : MS := bndS m fun x _ h => some (.rt x, h)
def sRetN : MS := fun _ h => some (.rt .non, h)
def sExp (m : Env → M IV) : MS := bndS m fun _ env h => some (.nx env, h)
def sIf (c : Env → M Bool) (a b : MS) : MS := bndS c fun k env h => if k = true then a env h else b env h
def sBreak : MS := fun env h => some (.bk env, h)
def sCont : MS := fun env h => some (.ct env, h)
def sNever : MS := fun _ _ => none
def whileN (c : Env → M Bool) (b : MS) : Nat → MS
  | 0 => fun _ _ => none
  | n + 1 => bndS c fun k env h => if k = true then (match b env h with
      | some (.nx env', h') => whileN c b n env' h'
      | some (.ct env', h') => whileN c b n env' h'
      | some (.bk env', h') => some (.nx env', h')
      | r => r) else some (.nx env, h)
section
variable {K : PySem.W.Frag} {mg : Str → Option Value} {W : WX} {φ φ1 : List Addr} {H H1 : Hp} {D : Ends}
theorem PostS.ev {r : Option (Flw × IH)} (e : Ev φ H φ1 H1) (p : PostS K mg W φ H D r) : PostS K mg W φ1 H1 D r := by
  match r, p with
  | some (.nx _, h'), p => exact fun φ' H' b e' rh rr => p φ' H' b (e.trans e') rh rr
  | some (.rt _, h'), p => exact fun φ' H' b e' rh rr => p φ' H' b (e.trans e') rh rr
  | some (.bk _, h'), p => exact fun φ' H' b e' rh rr => p φ' H' b (e.trans e') rh rr
  | some (.ct _, h'), p => exact fun φ' H' b e' rh rr => p φ' H' b (e.trans e') rh rr
  | some (.ex _ _, h'), p => exact fun φ' H' b cls d e' rh rr => p φ' H' b cls d (e.trans e') rh rr
theorem PostS.bnd {α β : Type} {R : List Addr → Hp → α → β → Prop} {m : Env → M α} {f : α → MS} {env : Env} {h : IH} {σ : St} {Q' : β → Hp → Prop} (p : PostS K mg W φ H D (bndS m f env h)) (re : REnv K φ H env σ)
    (k : ∀ φ' H' a b h', Ev φ H φ' H' → RH K φ' H' h' → R φ' H' a b → REnv K φ' H' env σ → PostS K mg W φ' H' D (f a env h') → Q' b H') : Post K mg R φ H (WE W σ) Q' (m env h) := by
  unfold bndS at p
  cases hm : m env h with
  | none => rw [hm] at p; exact p
  | some ah =>
    obtain ⟨a, h'⟩ := ah
    rw [hm] at p
    cases a with
    | error x => exact fun φ' H' cls d e rh rx => p φ' H' σ cls d e rh (re.ev e) rx
    | ok a => exact fun φ' H' b e rh rr => k φ' H' a b h' e rh rr (re.ev e) (p.ev e)
end
section
variable {X : Cx} {W : WX}
theorem sb_nil : SB X W [] tNext sNil := ⟨pss_nil, fun σ H D φ h env re rh p => p φ H σ (Ev.refl _ _) rh re⟩
theorem sim_seq {K : PySem.W.Frag} {mg : Str → Option Value} {t u : TS} {m k : MS} (a : SimS K mg W t m) (b : SimS K mg W u k) : SimS K mg W (tSeq t u) (sSeq m k) := by
  intro σ H D φ h env re rh p
  refine a σ H _ φ h env re rh ?_
  unfold sSeq at p
  cases hm : m env h with
  | none => rw [hm] at p; exact p
  | some z =>
    obtain ⟨z, h'⟩ := z
    rw [hm] at p
    cases z with
    | nx env' => exact fun φ' H' σ' e rh' re' => b σ' H' D φ' h' env' re' rh' (p.ev e)
    | rt v => exact p
    | bk v => exact p
    | ct v => exact p
    | ex v => exact p
theorem sb_cons {s : Stmt} {ss : List Stmt} {t u : TS} {m k : MS} (a : SS X W s t m) (b : SB X W ss u k) : SB X W (s :: ss) (tSeq t u) (sSeq m k) := ⟨pss_cons a.pe b.pe, sim_seq a.sim b.sim⟩
theorem sb_one {s : Stmt} {t : TS} {m : MS} (a : SS X W s t m) : SB X W [s] t m := ⟨pss_one a.pe, a.sim⟩
theorem ss_asg {i : Nat} {x : Str} {e : Expr} {te : TE} {m : Env → M IV} {pos pos' : Pos} (hN : X.N.Nodup) (hi : X.N[i]? = some x) (hx : Loc X.env.scope x) (he : SE X W e te m) (hs : swapsWith e (some (.Name x pos')) pos.line X.env = pure false := by rfl) (hf : X.fn x = true ∨ X.env.scope.names.lookup x = some .local := by first | exact .inl rfl | exact .inr rfl | assumption) :
    SS X W (.Assign [.Name x pos'] e pos) (tAsg te (gName i)) (sAsg i m) := ⟨ps_set hN hi hx he.pe hs hf, fun σ H D φ h env re rh p =>
      he.sim σ H _ φ h env re rh (p.bnd re fun φ1 H1 x v h1 e1 rh1 r1 re1 p1 => p1 φ1 H1 _ (Ev.refl _ _) rh1 (re1.set r1 i))⟩
theorem ss_ret {e : Expr} {te : TE} {m : Env → M IV} {pos : Pos} (he : SE X W e te m) : SS X W (.Return (some e) pos) (tRet te) (sRet m) := ⟨ps_ret he.pe, fun σ H D φ h env re rh p =>
      he.sim σ H _ φ h env re rh (p.bnd re fun φ1 H1 x v h1 e1 rh1 r1 re1 p1 => p1 φ1 H1 _ (Ev.refl _ _) rh1 r1)⟩
theorem ss_retN {pos : Pos} : SS X W (.Return none pos) tRetN sRetN := ⟨ps_retN, fun σ H D φ h env re rh p => p φ H _ (Ev.refl _ _) rh .non⟩
theorem ss_expr {e : Expr} {te : TE} {m : Env → M IV} {pos : Pos} (he : SE X W e te m) (hs : swapsWith e none pos.line X.env = pure false := by rfl) : SS X W (.Expr e pos) (tDrop te) (sExp m) := ⟨ps_expr he.pe hs, fun σ H D φ h env re rh p =>
      he.sim σ H _ φ h env re rh (p.bnd re fun φ1 H1 x v h1 e1 rh1 r1 re1 p1 => p1 φ1 H1 _ (Ev.refl _ _) rh1 re1)⟩
theorem ss_if {c : Expr} {a b : List Stmt} {tc : TT} {t u : TS} {mc : Env → M Bool} {m k : MS} {pos : Pos} (hc : ST X W c tc mc) (ha : SB X W a t m) (hb : SB X W b u k) : SS X W (.If c a b pos) (tIfS tc t u) (sIf mc m k) := by
  refine ⟨ps_if hc.pe ha.pe hb.pe, fun σ H D φ h env re rh p => hc.sim σ H _ φ h env re rh (p.bnd re fun φ1 H1 x v h1 e1 rh1 r1 re1 p1 => ?_)⟩
  subst r1
  cases x with
  | true => exact iteT (ha.sim σ H1 D φ1 h1 env re1 rh1 p1)
  | false => exact iteF (hb.sim σ H1 D φ1 h1 env re1 rh1 p1)
theorem ss_break {pos : Pos} : SS X W (.Break pos) tBreak sBreak := ⟨ps_break, fun σ H D φ h env re rh p => p φ H σ (Ev.refl _ _) rh re⟩
theorem ss_cont {pos : Pos} : SS X W (.Continue pos) tCont sCont := ⟨ps_continue, fun σ H D φ h env re rh p => p φ H σ (Ev.refl _ _) rh re⟩
theorem ss_pass {pos : Pos} : SS X W (.Pass pos) tNext sNil := ⟨ps_pass, fun σ H D φ h env re rh p => p φ H σ (Ev.refl _ _) rh re⟩
theorem ss_never {s : Stmt} : SS X W s tNever sNever := ⟨ps_never, fun σ H D φ h env re rh p => p.elim⟩
theorem ss_while {c : Expr} {body : List Stmt} {tc : TT} {tb : TS} {mc : Env → M Bool} {mb : MS} {pos : Pos} {n : Nat} (hp : PassesOwn (model X.prog X.w) X.A X.env X.xe) (hc : ST X W c tc mc) (hb : SB X W body tb mb) : SS X W (.While c body [] pos) (tWhile tc tb) (whileN mc mb n) := by
  refine ⟨ps_while hp hc.pe hb.pe, fun σ H D φ h env re rh p => ?_⟩
  refine ⟨fun m σ' H' => ∃ φ' h' env', REnv X.K φ' H' env' σ' ∧ RH X.K φ' H' h' ∧ PostS X.K X.mg W φ' H' D (whileN mc mb m env' h'), ⟨n, φ, h, env, re, rh, p⟩, ?_⟩
  rintro m σ1 H1 ⟨φ1, h1, env1, re1, rh1, p1⟩
  cases m with
  | zero => exact p1.elim
  | succ m =>
    refine hc.sim σ1 H1 _ φ1 h1 env1 re1 rh1 (p1.bnd re1 fun φ2 H2 x v h2 e2 rh2 r2 re2 p2 => ?_)
    subst r2
    cases x with
    | false => exact iteF (p2 φ2 H2 _ (Ev.refl _ _) rh2 re2)
    | true =>
      refine iteT ⟨fun σ' H' => ∃ φ' h' env', REnv X.K φ' H' env' σ' ∧ RH X.K φ' H' h' ∧ PostS X.K X.mg W φ' H' D (whileN mc mb m env' h'), fun σ' H' q => ⟨m, Nat.lt_succ_self m, q⟩, ?_⟩
      refine hb.sim σ1 H2 _ φ2 h2 env1 re2 rh2 ?_
      rw [if_pos rfl] at p2
      cases hm : mb env1 h2 with
      | none => rw [hm] at p2; exact p2.elim
      | some z =>
        obtain ⟨z, h3⟩ := z
        rw [hm] at p2
        cases z with
        | nx env' => exact fun φ' H' σ' e rh' re' => ⟨φ', h3, env', re', rh', p2.ev e⟩
        | ct env' => exact fun φ' H' σ' e rh' re' => ⟨φ', h3, env', re', rh', p2.ev e⟩
        | bk env' => exact p2
        | rt v => exact p2
        | ex x env' => exact p2
end
end L2.Sh

namespace L2.Sh
open PySem PySem.Spec PyProof.Rows L2
/-! ### what is walked -/
structure IIt where
  nxt : Nat → IH → Option (Option IV)
abbrev MG := IV → Env → IH → Option Env
def JRel (K : PySem.W.Frag) (φ0 : List Addr) (H0 : Hp) (it : IIt) (J : It) : Prop := ∀ i φ H h, Ev φ0 H0 φ H → RH K φ H h →
  (it.nxt i h = some none → J.stop i H) ∧ (∀ x, it.nxt i h = some (some x) → J.go i H ∧ ∀ v H', J.yld i H v H' → Ev φ H φ H' ∧ RH K φ H' h ∧ RV K φ H' x v)
def SimI (K : PySem.W.Frag) (mg : Str → Option Value) (W : WX) (wi : TI) (m : Env → M IIt) : Prop := ∀ σ H R φ h env, REnv K φ H env σ → RH K φ H h → Post K mg (JRel K) φ H (WE W σ) R (m env h) → wi σ H R
structure SI (X : Cx) (W : WX) (tg e : Expr) (wi : TI) (m : Env → M IIt) : Prop where
  pe : PI X tg e wi
  sim : SimI X.K X.mg W wi m
def SimG (K : PySem.W.Frag) (g : TG) (m : MG) : Prop := ∀ σ H Q φ h env x v, REnv K φ H env σ → RH K φ H h → RV K φ H x v → (match m x env h with | none => False | some env' => ∀ σ', REnv K φ H env' σ' → Q σ' H) → g v σ H Q
structure SG (X : Cx) (tg : Expr) (g : TG) (m : MG) : Prop where
  pe : PG X tg g
  sim : SimG X.K g m
@[irreducible] def FU : Nat := 2 ^ 2097152
def forLoop (it : IIt) (g : MG) (b : MS) : Nat → Nat → MS
  | 0, _ => fun _ _ => none
  | n + 1, i => fun env h => match it.nxt i h with
    | none => none
    | some none => some (.nx env, h)
    | some (some x) => match g x env h with
      | none => none
      | some env1 => match b env1 h with
        | some (.nx env', h') => forLoop it g b n (i + 1) env' h'
        | some (.ct env', h') => forLoop it g b n (i + 1) env' h'
        | some (.bk env', h') => some (.nx env', h')
        | r => r
def sFor (n : Nat) (mi : Env → M IIt) (g : MG) (b : MS) : MS := bndS mi fun it env h => forLoop it g b n 0 env h
section
variable {X : Cx} {W : WX}
theorem ss_for {tg iter : Expr} {body : List Stmt} {wi : TI} {mi : Env → M IIt} {g : TG} {mg : MG} {tb : TS} {mb : MS} {pos : Pos} {n : Nat} (hp : PassesOwn (model X.prog X.w) X.A X.env X.xe) (hc : X.calm = true) (hi : SI X W tg iter wi mi) (hg : SG X tg g mg) (hb : SB X W body tb mb) (hs : ∀ x, foldedSetIterable iter X.env x = pure x := by intro _; rfl) :
    SS X W (.For tg iter body [] pos) (tFor wi g tb) (sFor n mi mg mb) := by
  refine ⟨ps_for hp hc hi.pe hg.pe hb.pe hs, fun σ H D φ h env re rh p => ?_⟩
  refine hi.sim σ H _ φ h env re rh (p.bnd re fun φ1 H1 it J h1 e1 rh1 r1 re1 p1 => ?_)
  refine ⟨fun i m σ' H' => ∃ φ' h' env', Ev φ1 H1 φ' H' ∧ REnv X.K φ' H' env' σ' ∧ RH X.K φ' H' h' ∧ PostS X.K X.mg W φ' H' D (forLoop it mg mb m i env' h'), ⟨n, φ1, h1, env, Ev.refl _ _, re1, rh1, p1⟩, ?_⟩
  rintro i m σ2 H2 ⟨φ2, h2, env2, e2, re2, rh2, p2⟩
  cases m with
  | zero => exact p2.elim
  | succ m =>
    obtain ⟨js, jg⟩ := r1 i φ2 H2 h2 e2 rh2
    unfold forLoop at p2
    cases hn : it.nxt i h2 with
    | none => rw [hn] at p2; exact p2.elim
    | some ox =>
      rw [hn] at p2
      cases ox with
      | none => exact .inl ⟨js hn, p2 φ2 H2 _ (Ev.refl _ _) rh2 re2⟩
      | some x =>
        obtain ⟨go, yl⟩ := jg x hn
        refine .inr ⟨go, fun σ' H' => ∃ φ' h' env', Ev φ1 H1 φ' H' ∧ REnv X.K φ' H' env' σ' ∧ RH X.K φ' H' h' ∧ PostS X.K X.mg W φ' H' D (forLoop it mg mb m (i + 1) env' h'), fun σ' H' q => ⟨m, Nat.lt_succ_self m, q⟩, fun v H3 y => ?_⟩
        obtain ⟨e3, rh3, r3⟩ := yl v H3 y
        refine hg.sim σ2 H3 _ φ2 h2 env2 x v (re2.ev e3) rh3 r3 ?_
        simp only [] at p2
        cases hgx : mg x env2 h2 with
        | none => rw [hgx] at p2; exact p2.elim
        | some env3 =>
          rw [hgx] at p2
          simp only [] at p2 ⊢
          intro σ3 re3
          refine hb.sim σ3 H3 _ φ2 h2 env3 re3 rh3 ?_
          cases hm : mb env3 h2 with
          | none => rw [hm] at p2; exact p2.elim
          | some z =>
            obtain ⟨z, h4⟩ := z
            rw [hm] at p2
            cases z with
            | nx env' => exact fun φ' H' σ' e rh' re' => ⟨φ', h4, env', (e2.trans e3).trans e, re', rh', p2.ev (e3.trans e)⟩
            | ct env' => exact fun φ' H' σ' e rh' re' => ⟨φ', h4, env', (e2.trans e3).trans e, re', rh', p2.ev (e3.trans e)⟩
            | bk env' => exact p2.ev e3
            | rt v => exact p2.ev e3
            | ex x env' => exact p2.ev e3
/-! targets -/
def gN (i : Nat) : MG := fun x env _ => some (env.set i (some x))
abbrev MGs := List IV → Env → IH → Option Env
def gsNil : MGs := fun xs env _ => match xs with
  | [] => some env
  | _ => none
def gsCons (a : MG) (b : MGs) : MGs := fun xs env h => match xs with
  | x :: r => match a x env h with
    | none => none
    | some env' => b r env' h
  | [] => none
def gT (n : Nat) (b : MGs) : MG := fun x env h => match x with
  | .tup xs => if xs.length = n then b xs env h else none
  | _ => none
structure SGs (X : Cx) (tg : List Expr) (g : TGs) (m : MGs) : Prop where
  pe : PGs X tg g
  sim : ∀ σ H Q φ h env xs vs, REnv X.K φ H env σ → RH X.K φ H h → RVs X.K φ H xs vs → (match m xs env h with | none => False | some env' => ∀ σ', REnv X.K φ H env' σ' → Q σ' H) → g vs σ H Q
theorem sg_name {i : Nat} {x : Str} {pos : Pos} (hN : X.N.Nodup) (hi : X.N[i]? = some x) (hx : Loc X.env.scope x) (hf : X.fn x = true ∨ X.env.scope.names.lookup x = some .local := by first | exact .inl rfl | exact .inr rfl | assumption) : SG X (.Name x pos) (gName i) (gN i) :=
  ⟨pg_name hN hi hx hf, fun σ H Q φ h env x v re rh r p => p _ (re.set r i)⟩
theorem sgs_nil : SGs X [] gNil gsNil := ⟨pgs_nil, fun σ H Q φ h env xs vs re rh r p => by
  cases r with
  | nil => exact ⟨rfl, p _ re⟩
  | cons a b => exact p.elim⟩
theorem sgs_cons {e : Expr} {es : List Expr} {t : TG} {u : TGs} {m : MG} {k : MGs} (a : SG X e t m) (b : SGs X es u k) (hs : (assignEach (e :: es) X.env).map (·.2) = assign e X.env :: (assignEach es X.env).map (·.2) := by rfl) : SGs X (e :: es) (gCons t u) (gsCons m k) := ⟨pgs_cons a.pe b.pe hs, fun σ H Q φ h env xs vs re rh r p => by
  cases r with
  | nil => exact p.elim
  | cons r1 rs =>
    rename_i x xs v vs
    refine ⟨v, vs, rfl, a.sim σ H _ φ h env x v re rh r1 ?_⟩
    unfold gsCons at p
    simp only [] at p
    cases hm : m x env h with
    | none => rw [hm] at p; exact p.elim
    | some env' =>
      rw [hm] at p
      exact fun σ' re' => b.sim σ' H Q φ h env' xs vs re' rh rs p⟩
theorem sg_tup {es : List Expr} {k : Nat} {t : TGs} {m : MGs} {pos : Pos} (hc : X.calm = true) (h : SGs X es t m) (pe : PG X (.Tuple es k pos) (gTup X.K es.length t)) : SG X (.Tuple es k pos) (gTup X.K es.length t) (gT es.length m) := ⟨pe, fun σ H Q φ hh env x v re rh r p => by
  cases r with
  | tup hs rs =>
    rename_i a xs vs
    unfold gT at p
    simp only [] at p
    by_cases hl : xs.length = es.length
    · rw [if_pos hl] at p
      exact ⟨a, vs, rfl, hs.sq, by rw [← rs.length]; exact hl, h.sim σ H Q φ hh env xs vs re rh rs p⟩
    · rw [if_neg hl] at p; exact p.elim
  | _ => exact p.elim⟩
def sAsgG (m : Env → M IV) (k : MG) : MS := bndS m fun x env h => match k x env h with | none => none | some env' => some (.nx env', h)
theorem ss_asgG {e tg : Expr} {te : TE} {m : Env → M IV} {g : TG} {k : MG} {pos : Pos} (he : SE X W e te m) (hg : SG X tg g k) (pe : PE X e te → PG X tg g → PS X (.Assign [tg] e pos) (tAsg te g)) :
    SS X W (.Assign [tg] e pos) (tAsg te g) (sAsgG m k) := ⟨pe he.pe hg.pe, fun σ H D φ h env re rh p => by
  refine he.sim σ H _ φ h env re rh (p.bnd re fun φ1 H1 x v h1 e1 rh1 r1 re1 p1 => ?_)
  refine hg.sim σ H1 _ φ1 h1 env x v re1 rh1 r1 ?_
  cases hm : k x env h1 with
  | none => rw [hm] at p1; exact p1.elim
  | some env' =>
    rw [hm] at p1
    exact fun σ' re' => p1 φ1 H1 σ' (Ev.refl _ _) rh1 re'⟩
/-! a value's coming, by what it is -/
theorem SimE.come {K : PySem.W.Frag} {mg : Str → Option Value} {t : TE} {m : Env → M IV} (hs : SimE K mg W t m) {σ : St} {H : Hp} {φ : List Addr} {h h1 : IH} {env : Env} {x : IV} (re : REnv K φ H env σ) (rh : RH K φ H h) (hm : m env h = some (.ok x, h1)) {Q : VK}
    (k : ∀ φ1 H1 v, Ev φ H φ1 H1 → RH K φ1 H1 h1 → RV K φ1 H1 x v → Q v H1) : t σ H Q := hs σ H Q φ h env re rh (by rw [hm]; exact k)
theorem SimE.err {K : PySem.W.Frag} {mg : Str → Option Value} {t : TE} {m : Env → M IV} (hs : SimE K mg W t m) {σ : St} {H : Hp} {φ : List Addr} {h h1 : IH} {env : Env} {x : Exc} (re : REnv K φ H env σ) (rh : RH K φ H h) (hm : m env h = some (.error x, h1)) {Q : VK}
    (k : ∀ φ1 H1 cls d, Ev φ H φ1 H1 → RH K φ1 H1 h1 → RX K mg φ1 H1 x cls d → W cls d σ H1) : t σ H Q := hs σ H Q φ h env re rh (by rw [hm]; exact k)
theorem PI.or {tg e : Expr} {w1 w2 : TI} (a : PI X tg e w1) (b : PI X tg e w2) : PI X tg e (fun σ H R => w1 σ H R ∨ w2 σ H R) := ⟨fun pins s σ H R I h => h.elim (a.run pins s σ H R I) (b.run pins s σ H R I)⟩
theorem PE.or {e : Expr} {t1 t2 : TE} (a : PE X e t1) (b : PE X e t2) : PE X e (fun σ H R => t1 σ H R ∨ t2 σ H R) := ⟨fun pins s σ H R I h => h.elim (a.run pins s σ H R I) (b.run pins s σ H R I)⟩
theorem PS.or {s : Stmt} {t1 t2 : TS} (a : PS X s t1) (b : PS X s t2) : PS X s (fun D σ H => t1 D σ H ∨ t2 D σ H) := ⟨fun pins s σ H R I h => h.elim (a.run pins s σ H R I) (b.run pins s σ H R I)⟩
/-- a list, a tuple, a text's signs -/
def seqIt : IV → IH → Option IIt
  | .tup xs, _ => some ⟨fun i _ => some xs[i]?⟩
  | .ref n, h => match h[n]? with
      | some (.lst _) => some ⟨fun i h => match h[n]? with
        | some (.lst xs) => some xs[i]?
        | _ => none⟩
      | _ => none
  | .scr ns, _ => some ⟨fun i _ => some (ns.map IV.int)[i]?⟩
  | .str z, _ => some ⟨fun i _ => some ((z.cps[i]?).map fun c => .str ⟨#[c]⟩)⟩
  | _, _ => none
def iSeq (m : Env → M IV) : Env → M IIt := fun env => bnd (m env) fun x h => match seqIt x h with
  | some it => some (.ok it, h)
  | none => none
def rngIt (lo : Int) (n : Nat) : IIt := ⟨fun i _ => some (if i < n then some (.int (lo + i)) else none)⟩
@[irreducible] def iR1 (m : Env → M (List IV)) : Env → M IIt := fun env => bnd (m env) fun xs h => match xs with
  | [.int j] => if -(2 ^ 62) ≤ j ∧ j < 2 ^ 62 then some (.ok (rngIt 0 j.toNat), h) else none
  | _ => none
@[irreducible] def iR2 (m : Env → M (List IV)) : Env → M IIt := fun env => bnd (m env) fun xs h => match xs with
  | [.int i, .int j] => if -(2 ^ 62) ≤ i ∧ i < 2 ^ 62 ∧ -(2 ^ 62) ≤ j ∧ j < 2 ^ 62 then some (.ok (rngIt i (j - i).toNat), h) else none
  | _ => none
theorem jrel_tup {K : PySem.W.Frag} {φ : List Addr} {H : Hp} {a : Addr} {xs : List IV} {vs : List V} (hs : SqT K H a vs) (rs : RVs K φ H xs vs) : JRel K φ H ⟨fun i _ => some xs[i]?⟩ (Itt K a) := by
  intro i φ1 H1 h1 e1 rh1
  refine ⟨fun hn => ⟨vs, sqT_ev e1 hs, ?_⟩, fun x hn => ?_⟩
  · have : xs[i]? = none := Option.some.inj hn
    rw [← rs.length]; exact List.getElem?_eq_none_iff.mp this
  · have hx : xs[i]? = some x := Option.some.inj hn
    obtain ⟨v, hv, rv⟩ := (rs.ev e1).get hx
    refine ⟨⟨vs, v, sqT_ev e1 hs, hv⟩, fun u H2 y => ?_⟩
    obtain ⟨rfl, y⟩ := y
    have := y vs (sqT_ev e1 hs)
    rw [hv] at this; cases this
    exact ⟨Ev.refl _ _, rh1, rv⟩
theorem jrel_scr {K : PySem.W.Frag} {φ : List Addr} {H : Hp} {a : Addr} {ns : List Int} (hs : StL K H a (ns.map V.int)) : JRel K φ H ⟨fun i _ => some (ns.map IV.int)[i]?⟩ (Itl K a) := by
  intro i φ1 H1 h1 e1 rh1
  have rs : RVs K φ1 H1 (ns.map IV.int) (ns.map V.int) := RVs.ints ns
  refine ⟨fun hn => ⟨_, (hs.ev e1).sq, ?_⟩, fun x hn => ?_⟩
  · have : (ns.map IV.int)[i]? = none := Option.some.inj hn
    rw [← rs.length]; exact List.getElem?_eq_none_iff.mp this
  · have hx : (ns.map IV.int)[i]? = some x := Option.some.inj hn
    obtain ⟨v, hv, rv⟩ := rs.get hx
    refine ⟨⟨_, v, (hs.ev e1).sq, hv⟩, fun u H2 y => ?_⟩
    obtain ⟨rfl, y⟩ := y
    have := y _ (hs.ev e1).sq
    rw [hv] at this; cases this
    exact ⟨Ev.refl _ _, rh1, rv⟩
theorem jrel_ref {K : PySem.W.Frag} {φ : List Addr} {H : Hp} {a : Addr} {n : Nat} (hn : φ[n]? = some a) : JRel K φ H ⟨fun i h => match h[n]? with
      | some (.lst xs) => some xs[i]?
      | _ => none⟩ (Itl K a) := by
  intro i φ1 H1 h1 e1 rh1
  obtain ⟨o, eo, ro⟩ := rh1.ob (e1.at hn)
  cases o with
  | lst xs =>
    obtain ⟨vs, q, rs⟩ := ro
    have sq : SqL K H1 a vs := .inl (.inl q)
    refine ⟨fun hn => ⟨_, sq, ?_⟩, fun x hn => ?_⟩
    · simp only [eo] at hn
      have : xs[i]? = none := Option.some.inj hn
      rw [← rs.length]; exact List.getElem?_eq_none_iff.mp this
    · simp only [eo] at hn
      have hx : xs[i]? = some x := Option.some.inj hn
      obtain ⟨v, hv, rv⟩ := rs.get hx
      refine ⟨⟨_, v, sq, hv⟩, fun u H2 y => ?_⟩
      obtain ⟨rfl, y⟩ := y
      have := y _ sq
      rw [hv] at this; cases this
      exact ⟨Ev.refl _ _, rh1, rv⟩
  | dK xs => exact ⟨fun hn => by (simp only [eo] at hn; cases hn), fun x hn => by (simp only [eo] at hn; cases hn)⟩
  | dT xs => exact ⟨fun hn => by (simp only [eo] at hn; cases hn), fun x hn => by (simp only [eo] at hn; cases hn)⟩
theorem jrel_rng {K : PySem.W.Frag} {φ : List Addr} {H : Hp} (lo : Int) (n : Nat) : JRel K φ H (rngIt lo n) (Itr lo n) := by
  intro i φ1 H1 h1 e1 rh1
  unfold rngIt
  refine ⟨fun hn => ?_, fun x hn => ?_⟩
  · by_cases hi : i < n
    · simp only [if_pos hi] at hn; cases hn
    · exact Nat.le_of_not_lt hi
  · by_cases hi : i < n
    · simp only [if_pos hi] at hn
      cases hn
      refine ⟨hi, fun u H2 y => ?_⟩
      obtain ⟨rfl, rfl⟩ := y
      exact ⟨Ev.refl _ _, rh1, .int _⟩
    · simp only [if_neg hi] at hn; cases hn
theorem si_r1 {tg a : Expr} {ta : TA} {m : Env → M (List IV)} {p pos : Pos} (hg : Gl X "range") (hm : X.mg "range" = none) (ha : SA X W [a] ta m) (hs : starEach [a] X.env = [(false, eval a X.env)] := by rfl) : SI X W tg (.Call (.Name "range" p) [a] [] pos) (iRng1 ta) (iR1 m) := by
  refine ⟨pi_range1 hg hm ha.pe hs, fun σ H R φ h env re rh p => ?_⟩
  unfold iR1 at p
  refine ha.sim σ H _ φ h env re rh (p.bnd (Ev.refl _ _) fun φ1 H1 xs vs h1 e1 rh1 r1 p1 => ?_)
  split at p1
  · rename_i j
    cases r1 with
    | cons a b =>
      cases b; cases a
      split at p1
      · rename_i hj
        exact ⟨_, rfl, hj.1, hj.2, p1 φ1 H1 _ e1 rh1 (jrel_rng _ _)⟩
      · exact p1.elim
  · exact p1.elim
theorem si_r2 {tg a b : Expr} {ta : TA} {m : Env → M (List IV)} {p pos : Pos} (hg : Gl X "range") (hm : X.mg "range" = none) (ha : SA X W [a, b] ta m) (hs : starEach [a, b] X.env = [(false, eval a X.env), (false, eval b X.env)] := by rfl) (hs2 : starEach [b] X.env = [(false, eval b X.env)] := by rfl) : SI X W tg (.Call (.Name "range" p) [a, b] [] pos) (iRng2 ta) (iR2 m) := by
  refine ⟨pi_range2 hg hm ha.pe hs hs2, fun σ H R φ h env re rh p => ?_⟩
  unfold iR2 at p
  refine ha.sim σ H _ φ h env re rh (p.bnd (Ev.refl _ _) fun φ1 H1 xs vs h1 e1 rh1 r1 p1 => ?_)
  split at p1
  · rename_i i j
    cases r1 with
    | cons a b =>
      cases a
      cases b with
      | cons c d =>
        cases c; cases d
        split at p1
        · rename_i hj
          exact ⟨_, _, rfl, hj, p1 φ1 H1 _ e1 rh1 (jrel_rng _ _)⟩
        · exact p1.elim
  · exact p1.elim
end
end L2.Sh

namespace L2.Sh
open PySem PySem.Spec PyProof.Rows L2
section
variable {X : Cx} {W : WX}
/-! ### for x in e, e a list, a tuple, a text -/
theorem si_seq {tg e : Expr} {te : TE} {m : Env → M IV} (he : SE X W e te m) : SI X W tg e (fun σ H R => iList X.K te σ H R ∨ iTup X.K te σ H R ∨ iStr te σ H R) (iSeq m) := by
  refine ⟨PI.or (pi_list he.pe) (PI.or (pi_tup he.pe) (pi_str he.pe)), fun σ H R φ h env re rh p => ?_⟩
  unfold iSeq bnd at p
  cases hm : m env h with
  | none => rw [hm] at p; exact p.elim
  | some z =>
    obtain ⟨z, h1⟩ := z
    rw [hm] at p
    cases z with
    | error x => exact .inl (he.sim.err re rh hm p)
    | ok x =>
      cases x with
      | tup xs =>
        refine .inr (.inl (he.sim.come re rh hm fun φ1 H1 v e1 rh1 r1 => ?_))
        cases r1 with
        | tup hs rs => exact ⟨_, rfl, ⟨_, hs.sq⟩, p φ1 H1 _ e1 rh1 (jrel_tup hs.sq rs)⟩
      | ref n =>
        refine .inl (he.sim.come re rh hm fun φ1 H1 v e1 rh1 r1 => ?_)
        cases r1 with
        | ref hn =>
          rename_i a
          obtain ⟨o, eo, ro⟩ := rh1.ob hn
          obtain ⟨u, hu, hus⟩ := ro.un
          simp only [seqIt, eo] at p
          cases o with
          | lst xs =>
            obtain ⟨vs, q, rs⟩ := ro
            exact ⟨a, rfl, ⟨vs, .inl (.inl q)⟩, p φ1 H1 _ e1 rh1 (jrel_ref hn)⟩
          | _ => exact p.elim
      | scr ns =>
        refine .inl (he.sim.come re rh hm fun φ1 H1 v e1 rh1 r1 => ?_)
        cases r1 with
        | scr hs => exact ⟨_, rfl, ⟨_, hs.sq⟩, p φ1 H1 _ e1 rh1 (jrel_scr hs)⟩
      | str z =>
        refine .inr (.inr (he.sim.come re rh hm fun φ1 H1 v e1 rh1 r1 => ?_))
        cases r1 with
        | str =>
          refine ⟨z, rfl, p φ1 H1 _ e1 rh1 ?_⟩
          intro i φ2 H2 h2 e2 rh2
          refine ⟨fun hn => ?_, fun y hn => ?_⟩
          · have : (z.cps[i]?).map (fun c => IV.str ⟨#[c]⟩) = none := Option.some.inj hn
            show z.cps.size ≤ i
            cases hc : z.cps[i]? with
            | none => exact Array.getElem?_eq_none_iff.mp hc
            | some c => rw [hc] at this; cases this
          · have hx : (z.cps[i]?).map (fun c => IV.str ⟨#[c]⟩) = some y := Option.some.inj hn
            cases hc : z.cps[i]? with
            | none => rw [hc] at hx; cases hx
            | some c =>
              rw [hc] at hx
              cases hx
              refine ⟨(Array.getElem?_eq_some_iff.mp hc).1, fun u H3 y => ?_⟩
              obtain ⟨rfl, c', hc', rfl⟩ := y
              rw [hc] at hc'; cases hc'
              exact ⟨Ev.refl _ _, rh2, .str _⟩
      | _ => exact p.elim
/-! ### comprehensions -/
def wipeE (env : Env) : List Nat → Env
  | [] => env
  | v :: vs => (wipeE env vs).set v none
theorem REnv.wipe {K : PySem.W.Frag} {φ : List Addr} {H : Hp} {env : Env} {σ : St} (re : REnv K φ H env σ) : ∀ vs, REnv K φ H (wipeE env vs) (L2.wipe σ vs)
  | [] => re
  | v :: vs => (REnv.wipe re vs).unset v none
theorem wipe_comm (σ : St) (i : Nat) (o : Option V) : ∀ vs, i ∈ vs → L2.wipe (σ.set i o) vs = L2.wipe σ vs
  | v :: vs, h => by
    unfold L2.wipe
    by_cases hi : i ∈ vs
    · rw [wipe_comm σ i o vs hi]
    · have hv : i = v := by
        rcases List.mem_cons.mp h with e | e
        · exact e
        · exact absurd e hi
      subst hv
      have key : ∀ ws, L2.wipe (σ.set i o) ws = (L2.wipe σ ws).set i (if i ∈ ws then none else o) ∨ True := fun _ => .inr trivial
      clear key
      have gen : ∀ ws, (L2.wipe (σ.set i o) ws).set i none = (L2.wipe σ ws).set i none := by
        intro ws
        induction ws with
        | nil => show (σ.set i o).set i none = σ.set i none; rw [List.set_set]
        | cons w ws ih =>
          show ((L2.wipe (σ.set i o) ws).set w none).set i none = ((L2.wipe σ ws).set w none).set i none
          by_cases hw : w = i
          · subst hw; rw [List.set_set, List.set_set]; exact ih
          · rw [List.set_comm _ _ hw, List.set_comm _ _ hw, ih]
      exact gen vs
theorem wipe_idem (σ : St) : ∀ vs ws, (∀ v ∈ ws, v ∈ vs) → L2.wipe (L2.wipe σ ws) vs = L2.wipe σ vs
  | vs, [], _ => rfl
  | vs, w :: ws, h => by
    show L2.wipe ((L2.wipe σ ws).set w none) vs = L2.wipe σ vs
    rw [wipe_comm _ _ _ vs (h w List.mem_cons_self)]
    exact wipe_idem σ vs ws fun v hv => h v (List.mem_cons_of_mem _ hv)
/-- a target stores nothing but into vs -/
def GIn (g : TG) (vs : List Nat) : Prop := ∀ v σ H Q, g v σ H Q → g v σ H fun σ2 H2 => L2.wipe σ2 vs = L2.wipe σ vs ∧ Q σ2 H2
def GsIn (g : TGs) (vs : List Nat) : Prop := ∀ v σ H Q, g v σ H Q → g v σ H fun σ2 H2 => L2.wipe σ2 vs = L2.wipe σ vs ∧ Q σ2 H2
theorem gin_name {i : Nat} {vs : List Nat} (h : i ∈ vs) : GIn (gName i) vs := fun v σ H Q q => ⟨wipe_comm σ i _ vs h, q⟩
theorem gsin_nil {vs : List Nat} : GsIn gNil vs := fun v σ H Q q => ⟨q.1, rfl, q.2⟩
theorem gsin_cons {g : TG} {u : TGs} {vs : List Nat} (a : GIn g vs) (b : GsIn u vs) (mono : ∀ v σ H Q Q', (∀ s h, Q s h → Q' s h) → g v σ H Q → g v σ H Q') : GsIn (gCons g u) vs := fun v σ H Q q => by
  obtain ⟨x, r, e, q⟩ := q
  refine ⟨x, r, e, mono _ _ _ _ _ (fun s h z => ?_) (a x σ H _ q)⟩
  obtain ⟨z1, z2⟩ := z
  have := b r s h Q z2
  rw [z1] at this
  exact this
theorem mono_name {i : Nat} : ∀ v σ H Q Q', (∀ s h, Q s h → Q' s h) → gName i v σ H Q → gName i v σ H Q' := fun v σ H Q Q' f q => f _ _ q
theorem monos_nil : ∀ v σ H Q Q', (∀ s h, Q s h → Q' s h) → gNil v σ H Q → gNil v σ H Q' := fun v σ H Q Q' f q => ⟨q.1, f _ _ q.2⟩
theorem monos_cons {g : TG} {u : TGs} (a : ∀ v σ H Q Q', (∀ s h, Q s h → Q' s h) → g v σ H Q → g v σ H Q') (b : ∀ v σ H Q Q', (∀ s h, Q s h → Q' s h) → u v σ H Q → u v σ H Q') : ∀ v σ H Q Q', (∀ s h, Q s h → Q' s h) → gCons g u v σ H Q → gCons g u v σ H Q' := fun v σ H Q Q' f q => by
  obtain ⟨x, r, e, q⟩ := q
  exact ⟨x, r, e, a _ _ _ _ _ (fun s h z => b _ _ _ _ _ f z) q⟩
theorem mono_tup {K : PySem.W.Frag} {n : Nat} {u : TGs} (b : ∀ v σ H Q Q', (∀ s h, Q s h → Q' s h) → u v σ H Q → u v σ H Q') : ∀ v σ H Q Q', (∀ s h, Q s h → Q' s h) → gTup K n u v σ H Q → gTup K n u v σ H Q' := fun v σ H Q Q' f q => by
  obtain ⟨a, xs, e1, e2, e3, q⟩ := q
  exact ⟨a, xs, e1, e2, e3, b _ _ _ _ _ f q⟩
theorem gin_tup {K : PySem.W.Frag} {n : Nat} {u : TGs} {vs : List Nat} (b : GsIn u vs) : GIn (gTup K n u) vs := fun v σ H Q q => by
  obtain ⟨a, xs, e1, e2, e3, q⟩ := q
  exact ⟨a, xs, e1, e2, e3, b _ _ _ _ q⟩
def nox {α : Type} (m : M α) : M α := fun h => match m h with
  | some (.error _, _) => none
  | r => r
def compLoop (it : IIt) (g : MG) (c : Env → M Bool) (b : Env → M IV) (env : Env) (n0 : Nat) : Nat → Nat → M IV
  | 0, _ => fun _ => none
  | n + 1, i => fun h => match it.nxt i h with
    | none => none
    | some none => some (.ok (.ref n0), h)
    | some (some x) => match g x env h with
      | none => none
      | some env1 => bnd (nox (c env1)) (fun k => if k = true then bnd (nox (b env1)) (fun y h2 => match h2[n0]? with
          | some (.lst acc) => if acc.length < 16777216 then compLoop it g c b env n0 n (i + 1) (h2.set n0 (.lst (acc ++ [y]))) else none
          | _ => none) else compLoop it g c b env n0 n (i + 1)) h
/-- [b for .. in mi if c]; vs: the comprehension's own slots -/
def eComp (vs : List Nat) (n : Nat) (mi : Env → M IIt) (g : MG) (c : Env → M Bool) (b : Env → M IV) : Env → M IV := fun env => bnd (mi env) fun it h => compLoop it g c b (wipeE env vs) h.length n 0 (h ++ [.lst []])
abbrev W0 : WX := fun _ _ _ _ => False
structure STs (X : Cx) (ifs : List Expr) (t : TT) (m : Env → M Bool) : Prop where
  pe : PTs X ifs t
  sim : SimT X.K X.mg W0 t m
def cYes : Env → M Bool := fun _ h => some (.ok true, h)
theorem sts_nil : STs X [] tYes cYes := ⟨pts_nil, fun σ H Q φ h env re rh p => p φ H true (Ev.refl _ _) rh rfl⟩
theorem sts_one {c : Expr} {t : TT} {m : Env → M Bool} (h : ST X W0 c t m) : STs X [c] t m := ⟨pts_one h.pe, h.sim⟩
theorem sim_lc {K : PySem.W.Frag} {mg : Str → Option Value} {wi : TI} {mi : Env → M IIt} {g : TG} {k : MG} {tt : TT} {c : Env → M Bool} {te : TE} {b : Env → M IV} {vs : List Nat} {n : Nat}
    (hi : SimI K mg W wi mi) (hg : SimG K g k) (hv : GIn g vs) (gm : ∀ v σ H Q Q', (∀ s h, Q s h → Q' s h) → g v σ H Q → g v σ H Q') (hc : SimT K mg W0 tt c) (hb : SimE K mg W0 te b) : SimE K mg W (tLc wi g tt te vs) (eComp vs n mi k c b) := by
  intro σ H Q φ h env re rh p
  refine hi σ H _ φ h env re rh (p.bnd (Ev.refl _ _) fun φ1 H1 it J h1 e1 rh1 r1 p1 => ?_)
  intro D hD
  have eD : Ev φ1 H1 (φ1 ++ [D]) (upd H1 D (.lst [])) := ev_new hD [D]
  have rhD : RH K (φ1 ++ [D]) (upd H1 D (.lst [])) (h1 ++ [.lst []]) := rh1.alloc hD ⟨[], upd_same, .nil⟩
  have hDn : (φ1 ++ [D])[h1.length]? = some D := by rw [← rh1.len]; simp
  refine ⟨fun i m H' => ∃ φ' h', Ev (φ1 ++ [D]) (upd H1 D (.lst [])) φ' H' ∧ RH K φ' H' h' ∧ Post K mg (RV K) φ' H' (WE W σ) Q (compLoop it k c b (wipeE env vs) h1.length m i h'),
    ⟨n, φ1 ++ [D], h1 ++ [.lst []], Ev.refl _ _, rhD, Post.ev (e1.trans eD) p1⟩, ?_⟩
  rintro i m H2 ⟨φ2, h2, e2, rh2, p2⟩
  cases m with
  | zero => exact p2.elim
  | succ m =>
    obtain ⟨js, jg⟩ := r1 i φ2 H2 h2 (eD.trans e2) rh2
    unfold compLoop at p2
    cases hn : it.nxt i h2 with
    | none => rw [hn] at p2; exact p2.elim
    | some ox =>
      rw [hn] at p2
      cases ox with
      | none => exact .inl ⟨js hn, p2 φ2 H2 _ (Ev.refl _ _) rh2 (.ref (e2.at hDn))⟩
      | some x =>
        obtain ⟨go, yl⟩ := jg x hn
        refine .inr ⟨go, fun H' => ∃ φ' h', Ev (φ1 ++ [D]) (upd H1 D (.lst [])) φ' H' ∧ RH K φ' H' h' ∧ Post K mg (RV K) φ' H' (WE W σ) Q (compLoop it k c b (wipeE env vs) h1.length m (i + 1) h'), fun H' q => ⟨m, Nat.lt_succ_self m, q⟩, fun v H3 y => ?_⟩
        obtain ⟨e3, rh3, r3⟩ := yl v H3 y
        have rw' : REnv K φ2 H3 (wipeE env vs) (L2.wipe σ vs) := (re.ev (((e1.trans eD).trans e2).trans e3)).wipe vs
        simp only [] at p2
        cases hgx : k x (wipeE env vs) h2 with
        | none => rw [hgx] at p2; exact p2.elim
        | some env3 =>
          rw [hgx] at p2
          simp only [] at p2
          have base : g v (L2.wipe σ vs) H3 fun σ2 H4 => H4 = H3 ∧ REnv K φ2 H3 env3 σ2 := hg (L2.wipe σ vs) H3 _ φ2 h2 (wipeE env vs) x v rw' rh3 r3 (by rw [hgx]; exact fun σ' re' => ⟨rfl, re'⟩)
          refine gm _ _ _ _ _ (fun σ2 H4 z => ?_) (hv v _ _ _ base)
          obtain ⟨z1, z2, z3⟩ := z
          subst z2
          refine ⟨by rw [z1]; exact wipe_idem σ vs vs fun _ q => q, ?_⟩
          -- the test
          have p3 := Post.ev e3 p2
          cases hcc : c env3 h2 with
          | none => unfold bnd nox at p3; rw [hcc] at p3; exact p3.elim
          | some zc =>
            obtain ⟨zc, h4⟩ := zc
            unfold bnd nox at p3
            rw [hcc] at p3
            cases zc with
            | error x => exact p3.elim
            | ok kb =>
              refine hc σ2 H4 _ φ2 h2 env3 z3 rh3 ?_
              rw [hcc]
              intro φ5 H5 b5 e5 rh5 eb
              subst eb
              cases kb with
              | false =>
                refine iteF ?_
                exact ⟨φ5, h4, (e2.trans e3).trans e5, rh5, Post.ev e5 p3⟩
              | true =>
                refine iteT ?_
                have p4 := Post.ev e5 p3
                simp only [if_pos] at p4
                cases hbb : b env3 h4 with
                | none => rw [hbb] at p4; exact p4.elim
                | some zb =>
                  obtain ⟨zb, h6⟩ := zb
                  rw [hbb] at p4
                  cases zb with
                  | error x => exact p4.elim
                  | ok yv =>
                    refine hb σ2 H5 _ φ5 h4 env3 (z3.ev e5) rh5 ?_
                    rw [hbb]
                    intro φ6 H6 u e6 rh6 r6
                    have e06 : Ev (φ1 ++ [D]) (upd H1 D (.lst [])) φ6 H6 := ((e2.trans e3).trans e5).trans e6
                    obtain ⟨o, eo, ro⟩ := rh6.ob (e06.at hDn)
                    have p5 := Post.ev e6 p4
                    simp only [eo] at p5
                    cases o with
                    | lst acc =>
                      obtain ⟨avs, qa, ra⟩ := ro
                      simp only [] at p5
                      by_cases hl : acc.length < 16777216
                      · rw [if_pos hl] at p5
                        refine ⟨avs, qa, by rw [line16, ← ra.length]; exact hl, ?_⟩
                        have ep : Ev φ6 H6 φ6 (upd H6 D (.lst (avs ++ [u]))) := ev_put qa rfl
                        exact ⟨φ6, _, e06.trans ep, rh6.put (o := .lst (acc ++ [yv])) (e06.at hDn) ⟨_, upd_same, (ra.append (.cons r6 .nil)).ev ep⟩, Post.ev ep p5⟩
                      · rw [if_neg hl] at p5; exact p5.elim
                    | dK xs => exact p5.elim
                    | dT xs => exact p5.elim
end
end L2.Sh

namespace L2.Sh
open PySem PySem.Spec PyProof.Rows L2
section
variable {X : Cx} {W : WX}
theorem se_lc {elt tg iter : Expr} {ifs : List Expr} {scope : Scope} {own : List (Str × Nat)} {pos : Pos} {wi : TI} {mi : Env → M IIt} {g : TG} {k : MG} {tt : TT} {c : Env → M Bool} {te : TE} {b : Env → M IV} {n : Nat} (hc : X.calm = true) (hN : X.N.Nodup) (hi : SI X W tg iter wi mi) (ok : BlkOk X.N X.env.scope scope own)
    (hg : ∀ (s : Shared) (H : Hp) (C : Addr) (cl : List (Str × Addr)) (fp : List Addr), SG (X.blk s H scope (compEnvC scope cl C X.env) fp) tg g k) (hv : GIn g (own.map (·.2))) (gm : ∀ v σ H Q Q', (∀ s h, Q s h → Q' s h) → g v σ H Q → g v σ H Q') (ht : ∀ (s : Shared) (H : Hp) (C : Addr) (cl : List (Str × Addr)) (fp : List Addr), STs (X.blk s H scope (compEnvC scope cl C X.env) fp) ifs tt c)
    (he : ∀ (s : Shared) (H : Hp) (C : Addr) (cl : List (Str × Addr)) (fp : List Addr), SE (X.blk s H scope (compEnvC scope cl C X.env) fp) W0 elt te b) (hs : ∀ x, foldedSetIterable iter X.env x = pure x := by intro _; rfl) :
    SE X W (.ListComp elt [⟨tg, iter, ifs, 0⟩] scope pos) (tLc wi g tt te (own.map (·.2))) (eComp (own.map (·.2)) n mi k c b) :=
  ⟨pe_lc hc hN hi.pe ok (fun s H C cl fp => (hg s H C cl fp).pe) (fun s H C cl fp => (ht s H C cl fp).pe) (fun s H C cl fp => (he s H C cl fp).pe) hs,
    sim_lc hi.sim (hg X.s_0 X.H_0 0 [] []).sim hv gm (ht X.s_0 X.H_0 0 [] []).sim (he X.s_0 X.H_0 0 [] []).sim⟩
theorem ss_setLc {i : Nat} {y : Str} {py : Pos} {elt tg iter : Expr} {ifs : List Expr} {scope : Scope} {own : List (Str × Nat)} {pos spos : Pos} {wi : TI} {mi : Env → M IIt} {g : TG} {k : MG} {tt : TT} {c : Env → M Bool} {te : TE} {b : Env → M IV} {n : Nat} (hc : X.calm = true) (hN : X.N.Nodup) (hy : X.N[i]? = some y) (hyl : X.env.scope.names.lookup y = some .local)
    (hsw : swapsWith (.ListComp elt [⟨tg, iter, ifs, 0⟩] scope pos) (some (.Name y py)) spos.line X.env = pure true) (hi : SI X W tg iter wi mi) (ok : BlkOk X.N X.env.scope scope own)
    (hg : ∀ (s : Shared) (H : Hp) (C : Addr) (cl : List (Str × Addr)) (fp : List Addr), SG (X.blk s H scope (compEnvC scope cl C X.env) fp) tg g k) (hv : GIn g (own.map (·.2))) (gm : ∀ v σ H Q Q', (∀ s h, Q s h → Q' s h) → g v σ H Q → g v σ H Q') (ht : ∀ (s : Shared) (H : Hp) (C : Addr) (cl : List (Str × Addr)) (fp : List Addr), STs (X.blk s H scope (compEnvC scope cl C X.env) fp) ifs tt c)
    (he : ∀ (s : Shared) (H : Hp) (C : Addr) (cl : List (Str × Addr)) (fp : List Addr), SE (X.blk s H scope (compEnvC scope cl C X.env) fp) W0 elt te b) (hs : ∀ x, foldedSetIterable iter X.env x = pure x := by intro _; rfl) :
    SS X W (.Assign [.Name y py] (.ListComp elt [⟨tg, iter, ifs, 0⟩] scope pos) spos) (tAsg (tLc wi g tt te (own.map (·.2))) (gName i)) (sAsg i (eComp (own.map (·.2)) n mi k c b)) :=
  ⟨ps_setLc hc hN hy hyl hsw hi.pe ok (fun s H C cl fp => (hg s H C cl fp).pe) (fun s H C cl fp => (ht s H C cl fp).pe) (fun s H C cl fp => (he s H C cl fp).pe) hs,
    fun σ H D φ h env re rh p => (sim_lc hi.sim (hg X.s_0 X.H_0 0 [] []).sim hv gm (ht X.s_0 X.H_0 0 [] []).sim (he X.s_0 X.H_0 0 [] []).sim) σ H _ φ h env re rh
      (p.bnd re fun φ1 H1 x v h1 e1 rh1 r1 re1 p1 => p1 φ1 H1 _ (Ev.refl _ _) rh1 (re1.set r1 i))⟩
/-! ### defs -/
abbrev Fn := List IV → M IV
def runF (n : Nat) (b : MS) : Fn := fun xs h => match b (xs.map some ++ List.replicate (n - xs.length) none) h with
  | some (.nx _, h') => some (.ok .non, h')
  | some (.rt v, h') => some (.ok v, h')
  | some (.ex x _, h') => some (.error x, h')
  | _ => none
def spM (K : PySem.W.Frag) (mg : Str → Option Value) (np : Nat) (f : Fn) : Sp := fun vs H Q E => ∃ φ h xs, RVs K φ H xs vs ∧ RH K φ H h ∧ xs.length = np ∧ Post K mg (RV K) φ H E Q (f xs h)
abbrev FnM (P : Program) (w : World) (K : PySem.W.Frag) (mg : Str → Option Value) (base : Heap) (k : Nat) (f : Addr) (fd : FuncData) (ps : List Str) (F : Fn) : Prop := FnOk P w K mg base (L2.CX P w) k f fd ps (spM K mg ps.length F)
def eCall (F : Fn) (m : Env → M (List IV)) : Env → M IV := fun env => bnd (m env) F
abbrev WD (E : XK) : WX := fun cls d _ H => E cls d H
theorem fn_ok {P : Program} {w : World} {K : PySem.W.Frag} {mg : Str → Option Value} {base : Heap} {x qual : Str} {st : Stmt} {f : Addr} {fd : FuncData} {N ps : List Str} {k : Nat} {b : MS} (F : Fun K x qual st f fd) (S : FnScope N ps (defScope st))
    (hb : ∀ (cdv : Value) (A : Around) (outer : List PySem.Env) (s : Shared) (H : Hp) (E : XK), Room k (A.deeper (envOfC qual (defScope st) s.heap.objs.size f cdv)) →
      ∃ t, SB (cxOf (L2.CX P w) P w K mg base N qual (defScope st) f cdv A outer s H E) (WD E) (defBody st) t b) : FnM P w K mg base (k + 1) f fd ps (runF N.length b) := by
  refine F.okX S (fun vs H Q E h => ?_) (fun cdv A outer s H vs Q E hr h => ?_)
  · obtain ⟨φ, hh, xs, r, _, l, _⟩ := h
    rw [← r.length]; exact l
  · obtain ⟨t, sb⟩ := hb cdv A outer s H E hr
    refine ⟨t, sb.pe, ?_⟩
    obtain ⟨φ, hh, xs, r, rh, l, p⟩ := h
    have re : REnv K φ H (xs.map some ++ List.replicate (N.length - xs.length) none) (L2.start N vs) := by
      unfold L2.start
      rw [← r.length]
      exact REnv.start r _
    refine sb.sim _ _ _ φ hh _ re rh ?_
    unfold runF at p
    show PostS K mg (WD E) φ H _ _
    cases hm : b (xs.map some ++ List.replicate (N.length - xs.length) none) hh with
    | none => rw [hm] at p; exact p.elim
    | some z =>
      obtain ⟨z, h'⟩ := z
      rw [hm] at p
      cases z with
      | nx env' => exact fun φ' H' σ' e rh' re' => p φ' H' _ e rh' .non
      | rt v => exact p
      | ex x env' => exact fun φ' H' σ' cls d e rh' re' rx => p φ' H' cls d e rh' rx
      | bk _ => exact p.elim
      | ct _ => exact p.elim
theorem se_call {k j : Nat} {f : Addr} {fd : FuncData} {ps : List Str} {G : Fn} {x : Str} {e : Expr} {es : List Expr} {t : TA} {m : Env → M (List IV)} {p pos : Pos} (F : FnM X.prog X.w X.K X.mg X.base j f fd ps G) (hr : Room k X.A) (hm : X.mg x = some (.ref f)) (hk : PySem.W.keepIn X.K (.ref f) = true) (hb : Binds X.K fd ps []) (tk : Takes X W)
    (ha : SA X W (e :: es) t m) (hl : ps.length = (e :: es).length) (hg : Gl X x := by rfl) (hj : j ≤ k := by decide)
    (al : ∀ env h xs h', m env h = some (.ok xs, h') → xs.length = (e :: es).length)
    (pe : FnOk X.prog X.w X.K X.mg X.base (L2.CX X.prog X.w) k f fd ps (spM X.K X.mg ps.length G) → PA X (e :: es) t → (∀ σ, PassesAt (L2.CX X.prog X.w) X σ (WE W σ)) → PE X (.Call (.Name x p) (e :: es) [] pos) (tCallS (spM X.K X.mg ps.length G) (WE W) t)) :
    SE X W (.Call (.Name x p) (e :: es) [] pos) (tCallS (spM X.K X.mg ps.length G) (WE W) t) (eCall G m) := by
  refine ⟨pe (F.mono hj) ha.pe (passAt tk), ?_⟩
  intro σ H Q φ h env re rh p
  unfold eCall at p
  have al' := al env h
  unfold bnd at p
  cases hmm : m env h with
  | none => rw [hmm] at p; exact p.elim
  | some z =>
    obtain ⟨z, h1⟩ := z
    rw [hmm] at p
    cases z with
    | error x =>
      refine ha.sim σ H _ φ h env re rh ?_
      rw [hmm]
      exact p
    | ok xs =>
      refine ha.sim σ H _ φ h env re rh ?_
      rw [hmm]
      exact fun φ1 H1 vs e1 rh1 r1 => ⟨φ1, h1, xs, r1, rh1, by rw [al' xs h1 hmm, hl], Post.ev e1 p⟩
theorem aNil_len : ∀ env h xs h', aNil env h = some (.ok xs, h') → xs.length = ([] : List Expr).length := by
  intro env h xs h' e
  cases e
  rfl
theorem aCons_len {e : Expr} {es : List Expr} {a : Env → M IV} {b : Env → M (List IV)} (hb : ∀ env h xs h', b env h = some (.ok xs, h') → xs.length = es.length) : ∀ env h xs h', aCons a b env h = some (.ok xs, h') → xs.length = (e :: es).length := by
  intro env h xs h' q
  unfold aCons bnd at q
  cases ha : a env h with
  | none => rw [ha] at q; cases q
  | some z =>
    obtain ⟨z, h1⟩ := z
    rw [ha] at q
    cases z with
    | error x => cases q
    | ok x =>
      simp only [] at q
      cases hbb : b env h1 with
      | none => rw [hbb] at q; cases q
      | some z =>
        obtain ⟨z, h2⟩ := z
        rw [hbb] at q
        cases z with
        | error x => cases q
        | ok y =>
          cases q
          have := hb env h1 y _ hbb
          simp [this]
/-! ### more statements -/
def sPar (i j : Nat) (m : Env → M (List IV)) : MS := bndS m fun xs env h => match xs with
  | [x, y] => some (.nx ((env.set i (some x)).set j (some y)), h)
  | _ => none
theorem ss_par {i j : Nat} {a b : Expr} {ta : TA} {m : Env → M (List IV)} {st : Stmt} (ha : SA X W [a, b] ta m) (pe : PA X [a, b] ta → PS X st (tPar i j ta)) : SS X W st (tPar i j ta) (sPar i j m) := by
  refine ⟨pe ha.pe, fun σ H D φ h env re rh p => ha.sim σ H _ φ h env re rh (p.bnd re fun φ1 H1 x v h1 e1 rh1 r1 re1 p1 => ?_)⟩
  split at p1
  · cases r1 with
    | cons r1 r2 =>
      cases r2 with
      | cons r2 r3 =>
        cases r3
        exact ⟨_, _, rfl, p1 φ1 H1 _ (Ev.refl _ _) rh1 ((re1.set r1 i).set r2 j)⟩
  · exact p1.elim
/-- xs[i] = e, a list -/
def putL (o i x : IV) (h : IH) : Option IH := match o, i with
  | .ref n, .int k => match h[n]? with
    | some (.lst xs) => match ixN xs.length k with
      | some j => some (h.set n (.lst (xs.set j x)))
      | none => none
    | _ => none
  | _, _ => none
def sSub (put : IV → IV → IV → IH → Option IH) (o i e : Env → M IV) : MS := bndS e fun x => bndS o fun y => bndS i fun z env h => match put y z x h with
  | none => none
  | some h' => some (.nx env, h')
theorem ss_sub {o i e : Expr} {to ti te : TE} {mo mi me : Env → M IV} {put : IV → IV → IV → IH → Option IH} {t : TSet} {pos pos' : Pos} (ho : SE X W o to mo) (hi : SE X W i ti mi) (he : SE X W e te me)
    (hs : ∀ H Q φ h o i x vo vi vx, RH X.K φ H h → RV X.K φ H o vo → RV X.K φ H i vi → RV X.K φ H x vx → (match put o i x h with | none => False | some h' => ∀ H', Ev φ H φ H' → RH X.K φ H' h' → Q H') → t vo vi vx H Q)
    (pe : PS X (.Assign [.Subscript o i pos'] e pos) (tAsg te (gSub to ti t))) : SS X W (.Assign [.Subscript o i pos'] e pos) (tAsg te (gSub to ti t)) (sSub put mo mi me) := by
  refine ⟨pe, fun σ H D φ h env re rh p => ?_⟩
  refine he.sim σ H _ φ h env re rh (p.bnd re fun φ1 H1 x vx h1 e1 rh1 r1 re1 p1 => ?_)
  refine ho.sim σ H1 _ φ1 h1 env re1 rh1 (p1.bnd re1 fun φ2 H2 y vy h2 e2 rh2 r2 re2 p2 => ?_)
  refine hi.sim σ H2 _ φ2 h2 env re2 rh2 (p2.bnd re2 fun φ3 H3 z vz h3 e3 rh3 r3 re3 p3 => ?_)
  refine hs H3 _ φ3 h3 y z x vy vz vx rh3 (r2.ev e3) r3 ((r1.ev e2).ev e3) ?_
  cases hp : put y z x h3 with
  | none => rw [hp] at p3; exact p3.elim
  | some h' =>
    rw [hp] at p3
    exact fun H' e' rh' => p3 φ3 H' σ e' rh' (re3.ev e')
theorem putL_sim {K : PySem.W.Frag} : ∀ H Q φ h o i x vo vi vx, RH K φ H h → RV K φ H o vo → RV K φ H i vi → RV K φ H x vx → (match putL o i x h with | none => False | some h' => ∀ H', Ev φ H φ H' → RH K φ H' h' → Q H') → rSetL vo vi vx H Q := by
  intro H Q φ h o i x vo vi vx rh ro ri rx p
  unfold putL at p
  cases ro <;> first | exact p.elim | skip
  rename_i n a hn
  cases ri <;> first | exact p.elim | skip
  rename_i k
  simp only [] at p
  obtain ⟨ob, eo, rob⟩ := rh.ob hn
  rw [eo] at p
  cases ob with
  | lst xs =>
    obtain ⟨vs, q, rs⟩ := rob
    simp only [] at p
    cases hj : ixN xs.length k with
    | none => rw [hj] at p; exact p.elim
    | some j =>
      rw [hj] at p
      have ep : Ev φ H φ (upd H a (.lst (vs.set j vx))) := ev_put q rfl
      exact ⟨a, vs, k, j, rfl, rfl, q, by rw [← rs.length]; exact hj, p _ ep (rh.put (o := .lst (xs.set j x)) hn ⟨_, upd_same, (rs.set rx j).ev ep⟩)⟩
  | dK xs => exact p.elim
  | dT xs => exact p.elim
theorem ss_subL {o i e : Expr} {to ti te : TE} {mo mi me : Env → M IV} {pos pos' : Pos} (ho : SE X W o to mo) (hi : SE X W i ti mi) (he : SE X W e te me)
    (pe : PE X e te → PE X o to → PE X i ti → PS X (.Assign [.Subscript o i pos'] e pos) (tAsg te (gSub to ti rSetL))) : SS X W (.Assign [.Subscript o i pos'] e pos) (tAsg te (gSub to ti rSetL)) (sSub putL mo mi me) := ss_sub ho hi he putL_sim (pe he.pe ho.pe hi.pe)
/-! ### raise C('..') -/
def sRaise (x : Str) : MS := fun env h => some (.ex ⟨x, Str.empty, []⟩ env, h)
theorem ss_raise {x : Str} {e : Expr} {pos : Pos} (pe : PS X (.Raise (some e) none pos) (fun _ σ H => W (.ref (He.ga X.K x)) none σ H)) : SS X W (.Raise (some e) none pos) (fun _ σ H => W (.ref (He.ga X.K x)) none σ H) (sRaise x) :=
  ⟨pe, fun σ H D φ h env re rh p => p φ H σ _ _ (Ev.refl _ _) rh re ⟨rfl, .inl ⟨rfl, rfl⟩⟩⟩
end
end L2.Sh

namespace L2.Sh
open PySem PySem.Spec PyProof.Rows L2
/-! ### operators on plain values -/
def addI : O2 := fun x y h => match x, y with
  | .int i, .int j => some (.int (i + j), h)
  | _, _ => none
def subI : O2 := fun x y h => match x, y with
  | .int i, .int j => some (.int (i - j), h)
  | _, _ => none
def mulI : O2 := fun x y h => match x, y with
  | .int i, .int j => if i.natAbs.log2 + j.natAbs.log2 < 1000000 then some (.int (i * j), h) else none
  | _, _ => none
def divI : O2 := fun x y h => match x, y with
  | .int i, .int j => if j ≠ 0 ∧ j.natAbs.log2 < 9000 then some (.int (i.fdiv j), h) else none
  | _, _ => none
def modI : O2 := fun x y h => match x, y with
  | .int i, .int j => if j ≠ 0 then some (.int (i.fmod j), h) else none
  | _, _ => none
def powI : O2 := fun x y h => match x, y with
  | .int i, .int j => if 0 ≤ j ∧ j ≤ 1000000 ∧ i.natAbs < 2 ^ 64 then some (.int (i ^ j.toNat), h) else none
  | _, _ => none
def addS : O2 := fun x y h => match x, y with
  | .str i, .str j => if i.length + j.length ≤ 16777216 then some (.str (i ++ j), h) else none
  | _, _ => none
def addL : O2 := fun x y h => match x, y with
  | .ref n, .ref m => match h[n]?, h[m]? with
    | some (.lst xs), some (.lst ys) => if xs.length + ys.length ≤ 16777216 then some (.ref h.length, h ++ [.lst (xs ++ ys)]) else none
    | _, _ => none
  | _, _ => none
def addT : O2 := fun x y h => match x, y with
  | .tup xs, .tup ys => if xs.length + ys.length ≤ 16777216 then some (.tup (xs ++ ys), h) else none
  | _, _ => none
def cmpI (p : Int → Int → Bool) : O2 := fun x y h => match x, y with
  | .int i, .int j => some (.bl (p i j), h)
  | _, _ => none
def eqS (f : Bool → Bool) : O2 := fun x y h => match x, y with
  | .int i, .int j => some (.bl (f (decide (i = j))), h)
  | .str i, .str j => some (.bl (f (decide (i = j))), h)
  | .bl i, .bl j => some (.bl (f (decide (i = j))), h)
  | .non, .non => some (.bl (f true), h)
  | .non, .int _ => some (.bl (f false), h)
  | .int _, .non => some (.bl (f false), h)
  | .non, .bl _ => some (.bl (f false), h)
  | .bl _, .non => some (.bl (f false), h)
  | .non, .str _ => some (.bl (f false), h)
  | .str _, .non => some (.bl (f false), h)
  | .int _, .str _ => some (.bl (f false), h)
  | .str _, .int _ => some (.bl (f false), h)
  | .bl _, .str _ => some (.bl (f false), h)
  | .str _, .bl _ => some (.bl (f false), h)
  | _, _ => none
mutual
def toD (h : IH) : Nat → IV → Option PyData
  | _, .non => some .none
  | _, .bl b => some (.bool b)
  | _, .int i => some (.int i)
  | _, .str x => some (.str x)
  | n, .tup xs => (toDs h n xs).map PyData.tuple
  | n + 1, .ref k => match h[k]? with
    | some (.lst xs) => (toDs h n xs).map PyData.list
    | _ => none
  | _, .scr ns => some (.list (ns.map PyData.int))
  | _, .exc _ _ _ => none
  | 0, .ref _ => none
termination_by n x => (n, sizeOf x)
def toDs (h : IH) : Nat → List IV → Option (List PyData)
  | _, [] => some []
  | n, x :: xs => match toD h n x, toDs h n xs with
    | some d, some ds => some (d :: ds)
    | _, _ => none
termination_by n xs => (n, sizeOf xs)
end
def eqD (f : Bool → Bool) : O2 := fun x y h => match toD h 64 x, toD h 64 y with
  | some d, some e => if SeqAt.shaped d = true ∧ SeqAt.shaped e = true then some (.bl (f (PyData.eqv d e)), h) else none
  | _, _ => none
def isNO (f : Bool → Bool) : O2 := fun x y h => match y with
  | .non => match x with
    | .non => some (.bl (f true), h)
    | .bl _ => some (.bl (f false), h)
    | .int _ => some (.bl (f false), h)
    | .str _ => some (.bl (f false), h)
    | .tup _ => some (.bl (f false), h)
    | .ref _ => some (.bl (f false), h)
    | .scr _ => some (.bl (f false), h)
    | .exc _ _ _ => some (.bl (f false), h)
  | _ => none
def flatI : IV → Bool
  | .non => true | .bl _ => true | .int _ => true | .str _ => true | _ => false
def eqI : IV → IV → Bool
  | .non, .non => true
  | .bl a, .bl b => a == b
  | .bl a, .int b => (if a then 1 else 0) == b
  | .int a, .bl b => a == (if b then 1 else 0)
  | .int a, .int b => a == b
  | .str a, .str b => a == b
  | _, _ => false
def inI (x : IV) (xs : List IV) : Bool := xs.any fun y => eqI y x
def seqOf (h : IH) : IV → Option (List IV)
  | .tup xs => some xs
  | .ref n => match h[n]? with
    | some (.lst xs) => some xs
    | _ => none
  | .scr ns => some (ns.map IV.int)
  | _ => none
def inQ (neg : Bool) : O2 := fun x y h => match seqOf h y with
  | some xs => if flatI x = true ∧ xs.all flatI = true then some (.bl (if neg then !inI x xs else inI x xs), h) else none
  | none => none
def inS1 (f : Bool → Bool) : O2 := fun x y h => match x, y with
  | .str ⟨⟨[c]⟩⟩, .str z => some (.bl (f (decide (c ∈ z.cps.toList))), h)
  | _, _ => none
def inS (f : Bool → Bool) : O2 := fun x y h => match x, y with
  | .str i, .str j => some (.bl (f (!(Builtin.Str.occurrences j i 0 j.length 1).isEmpty)), h)
  | _, _ => none
def ixQ : O2 := fun x y h => match y with
  | .int i => match x with
    | .str z => if z.length ≤ 16777216 then (match atI z.cps.toList i with
      | some c => some (.str ⟨#[c]⟩, h)
      | none => none) else none
    | x => match seqOf h x with
      | some xs => match atI xs i with
        | some v => some (v, h)
        | none => none
      | none => none
  | _ => none

/-! ### their soundness -/
def rOr (r1 r2 : R2) : R2 := fun x y H Q => r1 x y H Q ∨ r2 x y H Q
def rAddS : R2 := fun x y H Q => ∃ i j, x = .str i ∧ y = .str j ∧ i.length + j.length ≤ sizeLine ∧ Q (.str (i ++ j)) H
def rAddA (K : PySem.W.Frag) : R2 := rOr (rI0 fun i j => .int (i + j)) (rOr rAddS (rOr rCat (rCatF K)))
def rEqA (K : PySem.W.Frag) : R2 := rOr rEq (rEqD K)
def rNeA (K : PySem.W.Frag) : R2 := rOr rNe (rNeD K)
def rIsN (f : Bool → Bool) : R2 := fun x y H Q => y = .non ∧ Q (.bl (f (decide (x = .non)))) H
def rInS1 (f : Bool → Bool) : R2 := fun x y H Q => ∃ (c : Nat) (z : Str), x = .str ⟨#[c]⟩ ∧ y = .str z ∧ Q (.bl (f (decide (c ∈ z.cps.toList)))) H
def rInS (f : Bool → Bool) : R2 := fun x y H Q => ∃ i j, x = .str i ∧ y = .str j ∧ Q (.bl (f (!(Builtin.Str.occurrences j i 0 j.length 1).isEmpty))) H
def rInA (K : PySem.W.Frag) : R2 := rOr (rIn K false) (rOr (rInS1 id) (rInS id))
def rNinA (K : PySem.W.Frag) : R2 := rOr (rIn K true) (rOr (rInS1 not) (rInS not))
section
variable {X : Cx} {W : WX}
theorem seqOf_sim {K : PySem.W.Frag} {φ : List Addr} {H : Hp} {h : IH} {x : IV} {v : V} {xs : List IV} (rh : RH K φ H h) (r : RV K φ H x v) (e : seqOf h x = some xs) : ∃ p vs, v = .ref p ∧ (SqL K H p vs ∨ SqT K H p vs) ∧ RVs K φ H xs vs := by
  cases r with
  | tup hs rs => cases e; exact ⟨_, _, rfl, .inr hs.sq, rs⟩
  | ref hn =>
    obtain ⟨o, eo, ro⟩ := rh.ob hn
    simp only [seqOf, eo] at e
    cases o with
    | lst xs => cases e; obtain ⟨vs, q, rs⟩ := ro; exact ⟨_, vs, rfl, .inl (.inl (.inl q)), rs⟩
    | dK xs => cases e
    | dT xs => cases e
  | scr hs => cases e; exact ⟨_, _, rfl, .inl hs.sq, RVs.ints _⟩
  | _ => cases e
theorem sim_int2 {K : PySem.W.Frag} {o : O2} {r : R2} (hn : ∀ x y h, (∀ i j, ¬ (x = IV.int i ∧ y = IV.int j)) → o x y h = none) (hr : ∀ H Q φ h i j, RH K φ H h → PostO K (RV K) φ H Q (o (.int i) (.int j) h) → r (.int i) (.int j) H Q) : SimR K r o := by
  intro H Q φ h x y vx vy rh rx ry p
  by_cases c : ∃ i j, x = IV.int i ∧ y = IV.int j
  · obtain ⟨i, j, rfl, rfl⟩ := c
    cases rx; cases ry
    exact hr H Q φ h i j rh p
  · rw [hn x y h (fun i j z => c ⟨i, j, z⟩)] at p
    exact p.elim
theorem so_addI : SOp X (binaryOp .Add) (rI0 fun i j => .int (i + j)) addI := ⟨op_add, sim_int2 (fun x y h c => by unfold addI; split; exact absurd ⟨rfl, rfl⟩ (c _ _); rfl) fun H Q φ h i j rh p => ⟨i, j, rfl, rfl, p.give rh (.int _)⟩⟩
theorem so_subI : SOp X (binaryOp .Sub) (rI0 fun i j => .int (i - j)) subI := ⟨op_sub, sim_int2 (fun x y h c => by unfold subI; split; exact absurd ⟨rfl, rfl⟩ (c _ _); rfl) fun H Q φ h i j rh p => ⟨i, j, rfl, rfl, p.give rh (.int _)⟩⟩
theorem so_mulI : SOp X (binaryOp .Mult) (rI CMulW fun i j => .int (i * j)) mulI := ⟨op_mulW, sim_int2 (fun x y h c => by unfold mulI; split; exact absurd ⟨rfl, rfl⟩ (c _ _); rfl) fun H Q φ h i j rh p => by
  simp only [mulI] at p
  split at p
  · rename_i hc
    exact ⟨i, j, rfl, rfl, hc, p.give rh (.int _)⟩
  · exact p.elim⟩
def CDivA (_ j : Int) : Prop := j ≠ 0 ∧ j.natAbs.log2 < 9000
theorem op_fdivA : OpR X (binaryOp .FloorDiv) (rI CDivA fun i j => .int (i.fdiv j)) := by
  intro pins s σ H x y v u Q I rx ry h
  obtain ⟨i, j, rfl, rfl, hc, q⟩ := h
  obtain ⟨t, rfl⟩ := rx
  obtain ⟨t', rfl⟩ := ry
  exact floordiv_int hc.1 ⟨.int (i.fdiv j), H, I.tok _, ⟨_, rfl⟩, q⟩ (.inl (PyProof.noPylong_of_log2 hc.2))
theorem so_divI : SOp X (binaryOp .FloorDiv) (rI CDivA fun i j => .int (i.fdiv j)) divI := ⟨op_fdivA, sim_int2 (fun x y h c => by unfold divI; split; exact absurd ⟨rfl, rfl⟩ (c _ _); rfl) fun H Q φ h i j rh p => by
  simp only [divI] at p
  split at p
  · rename_i hc
    exact ⟨i, j, rfl, rfl, hc, p.give rh (.int _)⟩
  · exact p.elim⟩
theorem so_modI : SOp X (binaryOp .Mod) (rI (fun _ j => j ≠ 0) fun i j => .int (i.fmod j)) modI := ⟨op_modN, sim_int2 (fun x y h c => by unfold modI; split; exact absurd ⟨rfl, rfl⟩ (c _ _); rfl) fun H Q φ h i j rh p => by
  simp only [modI] at p
  split at p
  · rename_i hc
    exact ⟨i, j, rfl, rfl, hc, p.give rh (.int _)⟩
  · exact p.elim⟩
theorem so_powI : SOp X (binaryOp .Pow) (rI CPow fun i j => .int (i ^ j.toNat)) powI := ⟨op_pow, sim_int2 (fun x y h c => by unfold powI; split; exact absurd ⟨rfl, rfl⟩ (c _ _); rfl) fun H Q φ h i j rh p => by
  simp only [powI] at p
  split at p
  · rename_i hc
    exact ⟨i, j, rfl, rfl, hc, p.give rh (.int _)⟩
  · exact p.elim⟩
theorem so_addS : SOp X (binaryOp .Add) rAddS addS := ⟨op_add_str, by
  intro H Q φ h x y vx vy rh rx ry p
  unfold addS at p
  split at p
  · rename_i i j
    cases rx; cases ry
    split at p
    · rename_i hc
      exact ⟨i, j, rfl, rfl, by rw [line16]; exact hc, p.give rh (.str _)⟩
    · exact p.elim
  · exact p.elim⟩
theorem so_addL : SOp X (binaryOp .Add) rCat addL := ⟨op_cat, by
  intro H Q φ h x y vx vy rh rx ry p
  unfold addL at p
  split at p
  · rename_i n m
    cases rx with
    | ref hn =>
      cases ry with
      | ref hm =>
        rename_i a b
        obtain ⟨o1, eo1, ro1⟩ := rh.ob hn
        obtain ⟨o2, eo2, ro2⟩ := rh.ob hm
        simp only [eo1, eo2] at p
        cases o1 <;> cases o2 <;> first | exact p.elim | skip
        rename_i xs ys
        obtain ⟨vs, q1, r1⟩ := ro1
        obtain ⟨us, q2, r2⟩ := ro2
        simp only [] at p
        split at p
        · rename_i hc
          refine ⟨a, b, vs, us, rfl, rfl, q1, q2, by rw [line16, ← r1.length, ← r2.length]; exact hc, fun z hz => ?_⟩
          exact post_new (o := .lst (xs ++ ys)) rh hz ⟨_, upd_same, (r1.append r2).ev (ev_new hz _)⟩ p
        · exact p.elim
  · exact p.elim⟩
theorem so_addT : SOp X (binaryOp .Add) (rCatF X.K) addT := ⟨op_catF, by
  intro H Q φ h x y vx vy rh rx ry p
  unfold addT at p
  split at p
  · rename_i xs ys
    cases rx with
    | tup h1 r1 =>
      cases ry with
      | tup h2 r2 =>
        rename_i a vs b us
        split at p
        · rename_i hc
          refine ⟨a, b, vs, us, rfl, rfl, h1.sq, h2.sq, by rw [line16, ← r1.length, ← r2.length]; exact hc, fun e => ?_, fun _ e => ?_, fun ne _ z ob hz hob => ?_⟩
          · subst e
            cases r1
            exact p.give rh (.tup h2 r2)
          · subst e
            cases r2
            refine p.give rh (.tup h1 ?_)
            rw [List.append_nil]
            exact r1
          · exact p φ _ _ (ev_new0 hz) (rh.beside hz) (.tup (.inl ⟨ob, upd_same, hob⟩) ((r1.append r2).ev (ev_new0 hz)))
        · exact p.elim
  · exact p.elim⟩
abbrev addO : O2 := orO addI (orO addS (orO addL addT))
theorem so_add : SOp X (binaryOp .Add) (rAddA X.K) addO := so_addI.or (so_addS.or (so_addL.or so_addT))
theorem sim_cmpI {K : PySem.W.Frag} (p : Int → Int → Bool) : SimR K (rI0 fun i j => .bl (p i j)) (cmpI p) := sim_int2 (fun x y h c => by unfold cmpI; split; exact absurd ⟨rfl, rfl⟩ (c _ _); rfl) fun H Q φ h i j rh p => ⟨i, j, rfl, rfl, p.give rh (.bl _)⟩
theorem so_lt : SOp X (compareOp .Lt) (rI0 fun i j => .bl (decide (i < j))) (cmpI fun i j => decide (i < j)) := ⟨op_lt, sim_cmpI _⟩
theorem so_le : SOp X (compareOp .LtE) (rI0 fun i j => .bl (decide (i ≤ j))) (cmpI fun i j => decide (i ≤ j)) := ⟨op_le, sim_cmpI _⟩
theorem so_gt : SOp X (compareOp .Gt) (rI0 fun i j => .bl (decide (j < i))) (cmpI fun i j => decide (j < i)) := ⟨op_gt, sim_cmpI _⟩
theorem so_ge : SOp X (compareOp .GtE) (rI0 fun i j => .bl (decide (j ≤ i))) (cmpI fun i j => decide (j ≤ i)) := ⟨op_ge, sim_cmpI _⟩
theorem sim_eqS {K : PySem.W.Frag} : SimR K rEq (eqS id) := by
  intro H Q φ h x y vx vy rh rx ry p
  unfold eqS at p
  split at p <;> first | exact p.elim | (cases rx; cases ry; exact ⟨rfl, p.give rh (by first | exact .bl _ | (simp; exact .bl _))⟩) | skip
theorem sim_neS {K : PySem.W.Frag} : SimR K rNe (eqS not) := by
  intro H Q φ h x y vx vy rh rx ry p
  unfold eqS at p
  split at p <;> first | exact p.elim | (cases rx; cases ry; exact ⟨rfl, p.give rh (by first | exact .bl _ | (simp; exact .bl _))⟩) | skip
theorem dpInts {K : PySem.W.Frag} {H : Hp} : ∀ ns : List Int, DpAll K H (ns.map V.int) (ns.map PyData.int)
  | [] => .nil
  | n :: ns => .cons (.int n) (dpInts ns)
mutual
theorem toD_sim {K : PySem.W.Frag} {φ : List Addr} {H : Hp} {h : IH} (rh : RH K φ H h) : ∀ (n : Nat) (x : IV) (v : V) (d : PyData), RV K φ H x v → toD h n x = some d → Dp K H v d
  | n, .non, v, d, r, e => by cases r; simp [toD] at e; subst e; exact .non
  | n, .bl b, v, d, r, e => by cases r; simp [toD] at e; subst e; exact .bl b
  | n, .int b, v, d, r, e => by cases r; simp [toD] at e; subst e; exact .int b
  | n, .str b, v, d, r, e => by cases r; simp [toD] at e; subst e; exact .str b
  | n, .scr ns, v, d, r, e => by
    cases r with
    | scr hs => simp [toD] at e; subst e; exact .lst hs.sq (dpInts ns)
  | n, .tup xs, v, d, r, e => by
    cases r with
    | tup hs rs =>
      rw [toD] at e
      cases ed : toDs h n xs with
      | none => rw [ed] at e; cases e
      | some ds => rw [ed] at e; cases e; exact .tup hs.sq (toDs_sim rh n xs _ ds rs ed)
  | n + 1, .ref k, v, d, r, e => by
    cases r with
    | ref hn =>
      rw [toD] at e
      obtain ⟨o, eo, ro⟩ := rh.ob hn
      rw [eo] at e
      cases o with
      | lst xs =>
        obtain ⟨vs, q, rs⟩ := ro
        simp only [] at e
        cases ed : toDs h n xs with
        | none => rw [ed] at e; cases e
        | some ds => rw [ed] at e; cases e; exact .lst (.inl (.inl q)) (toDs_sim rh n xs _ ds rs ed)
      | dK xs => cases e
      | dT xs => cases e
  | n, .exc _ _ _, v, d, r, e => by rw [toD] at e; cases e
  | 0, .ref k, v, d, r, e => by rw [toD] at e; cases e
termination_by n x => (n, sizeOf x)
theorem toDs_sim {K : PySem.W.Frag} {φ : List Addr} {H : Hp} {h : IH} (rh : RH K φ H h) : ∀ (n : Nat) (xs : List IV) (vs : List V) (ds : List PyData), RVs K φ H xs vs → toDs h n xs = some ds → DpAll K H vs ds
  | n, [], vs, ds, r, e => by cases r; rw [toDs] at e; cases e; exact .nil
  | n, x :: xs, vs, ds, r, e => by
    cases r with
    | cons r1 r2 =>
      rw [toDs] at e
      cases e1 : toD h n x with
      | none => rw [e1] at e; cases e
      | some d =>
        cases e2 : toDs h n xs with
        | none => rw [e1, e2] at e; cases e
        | some ds' =>
          rw [e1, e2] at e
          cases e
          exact .cons (toD_sim rh n x _ d r1 e1) (toDs_sim rh n xs _ ds' r2 e2)
termination_by n xs => (n, sizeOf xs)
end
theorem sim_eqD {K : PySem.W.Frag} : SimR K (rEqD K) (eqD id) := by
  intro H Q φ h x y vx vy rh rx ry p
  unfold eqD at p
  split at p
  · rename_i d e hd he
    split at p
    · rename_i hc
      exact ⟨d, e, toD_sim rh _ _ _ _ rx hd, toD_sim rh _ _ _ _ ry he, hc.1, hc.2, p.give rh (.bl _)⟩
    · exact p.elim
  · exact p.elim
theorem sim_neD {K : PySem.W.Frag} : SimR K (rNeD K) (eqD not) := by
  intro H Q φ h x y vx vy rh rx ry p
  unfold eqD at p
  split at p
  · rename_i d e hd he
    split at p
    · rename_i hc
      exact ⟨d, e, toD_sim rh _ _ _ _ rx hd, toD_sim rh _ _ _ _ ry he, hc.1, hc.2, p.give rh (.bl _)⟩
    · exact p.elim
  · exact p.elim
abbrev eqO : O2 := orO (eqS id) (eqD id)
abbrev neO : O2 := orO (eqS not) (eqD not)
theorem so_eq {k : Nat} (hr : Room k X.A) : SOp X (compareOp .Eq) (rEqA X.K) eqO := SOp.or ⟨op_eq, sim_eqS⟩ ⟨op_eqD hr.units, sim_eqD⟩
theorem so_ne {k : Nat} (hr : Room k X.A) : SOp X (compareOp .NotEq) (rNeA X.K) neO := SOp.or ⟨op_ne, sim_neS⟩ ⟨op_neD hr.units, sim_neD⟩
theorem so_isN : SOp X (compareOp .Is) (rIsN id) (isNO id) := ⟨op_isN, by
  intro H Q φ h x y vx vy rh rx ry p
  unfold isNO at p
  split at p
  · cases ry
    cases rx <;> exact ⟨rfl, p.give rh (by first | exact .bl _ | (simp; exact .bl _))⟩
  · exact p.elim⟩
theorem so_notN : SOp X (compareOp .IsNot) (rIsN not) (isNO not) := ⟨op_notN, by
  intro H Q φ h x y vx vy rh rx ry p
  unfold isNO at p
  split at p
  · cases ry
    cases rx <;> exact ⟨rfl, p.give rh (by first | exact .bl _ | (simp; exact .bl _))⟩
  · exact p.elim⟩
theorem flat_sim {K : PySem.W.Frag} {φ : List Addr} {H : Hp} {x : IV} {v : V} (r : RV K φ H x v) (h : flatI x = true) : flatV v = true := by cases r <;> first | rfl | cases h
theorem eqI_sim {K : PySem.W.Frag} {φ : List Addr} {H : Hp} {x y : IV} {v u : V} (r : RV K φ H x v) (s : RV K φ H y u) (h : flatI x = true) (h' : flatI y = true) : eqV v u = eqI x y := by
  cases r <;> first | cases h | skip
  all_goals cases s <;> first | cases h' | skip
  all_goals rfl
theorem inI_sim {K : PySem.W.Frag} {φ : List Addr} {H : Hp} {x : IV} {v : V} (r : RV K φ H x v) (h : flatI x = true) : ∀ {xs : List IV} {vs : List V}, RVs K φ H xs vs → xs.all flatI = true → vs.all flatV = true ∧ inV v vs = inI x xs
  | [], _, .nil, _ => ⟨rfl, rfl⟩
  | y :: ys, _, .cons r1 r2, q => by
    rw [List.all_cons, Bool.and_eq_true] at q
    obtain ⟨a, b⟩ := inI_sim r h r2 q.2
    refine ⟨by rw [List.all_cons, a, flat_sim r1 q.1]; rfl, ?_⟩
    unfold inV inI at *
    rw [List.any_cons, List.any_cons, b, eqI_sim r1 r q.1 h]
theorem sim_inQ {K : PySem.W.Frag} (neg : Bool) : SimR K (rIn K neg) (inQ neg) := by
  intro H Q φ h x y vx vy rh rx ry p
  unfold inQ at p
  split at p
  · rename_i xs e
    split at p
    · rename_i hc
      obtain ⟨q, vs, rfl, hs, rs⟩ := seqOf_sim rh ry e
      obtain ⟨a, b⟩ := inI_sim rx hc.1 rs hc.2
      refine ⟨q, vs, rfl, hs, flat_sim rx hc.1, a, p.give rh ?_⟩
      rw [b]
      exact .bl _
    · exact p.elim
  · exact p.elim
theorem sim_inS1 {K : PySem.W.Frag} (f : Bool → Bool) : SimR K (rInS1 f) (inS1 f) := by
  intro H Q φ h x y vx vy rh rx ry p
  unfold inS1 at p
  split at p
  · rename_i c z
    cases rx; cases ry
    exact ⟨c, z, rfl, rfl, p.give rh (.bl _)⟩
  · exact p.elim
theorem sim_inS {K : PySem.W.Frag} (f : Bool → Bool) : SimR K (rInS f) (inS f) := by
  intro H Q φ h x y vx vy rh rx ry p
  unfold inS at p
  split at p
  · rename_i c z
    cases rx; cases ry
    exact ⟨_, z, rfl, rfl, p.give rh (.bl _)⟩
  · exact p.elim
abbrev inO : O2 := orO (inQ false) (orO (inS1 id) (inS id))
abbrev ninO : O2 := orO (inQ true) (orO (inS1 not) (inS not))
theorem so_in : SOp X (compareOp .In) (rInA X.K) inO := SOp.or ⟨op_in_seq, sim_inQ false⟩ (SOp.or ⟨op_in_sign, sim_inS1 id⟩ ⟨op_in_str, sim_inS id⟩)
theorem so_nin : SOp X (compareOp .NotIn) (rNinA X.K) ninO := SOp.or ⟨op_notIn_seq, sim_inQ true⟩ (SOp.or ⟨op_notIn_sign, sim_inS1 not⟩ ⟨op_notIn_str, sim_inS not⟩)
theorem sim_ixQ {K : PySem.W.Frag} : SimR K (rIx K) ixQ := by
  intro H Q φ h x y vx vy rh rx ry p
  unfold ixQ at p
  split at p
  · rename_i i
    cases ry
    split at p
    · rename_i z
      cases rx
      split at p
      · rename_i hl
        split at p
        · rename_i c hc
          exact .inr (.inr ⟨z, i, c, rfl, rfl, by rw [line16]; exact hl, hc, p.give rh (.str _)⟩)
        · exact p.elim
      · exact p.elim
    · split at p
      · rename_i xs e
        split at p
        · rename_i v hv
          obtain ⟨q, vs, rfl, hs, rs⟩ := seqOf_sim rh rx e
          have hv' : ∃ u, atI vs i = some u ∧ RV K φ H v u := by
            unfold atI at hv ⊢
            rw [← rs.length]
            cases hj : ixN xs.length i with
            | none => rw [hj] at hv; cases hv
            | some j =>
              rw [hj] at hv
              exact rs.get hv
          obtain ⟨u, hu, ru⟩ := hv'
          rcases hs with hs | hs
          · exact .inl ⟨q, vs, i, u, rfl, rfl, hs, hu, p.give rh ru⟩
          · exact .inr (.inl ⟨q, vs, i, u, rfl, rfl, hs, hu, p.give rh ru⟩)
        · exact p.elim
      · exact p.elim
  · exact p.elim
end
end L2.Sh

namespace L2.Sh
open PySem PySem.Spec PyProof.Rows L2
/-! ### built-ins -/
abbrev O1 := List IV → IH → Option (IV × IH)
def lenO : O1 := fun xs h => match xs with
  | [.str y] => if y.length ≤ 16777216 then some (.int y.length, h) else none
  | [x] => match seqOf h x with
    | some ys => some (.int ys.length, h)
    | none => none
  | _ => none
def absO : O1 := fun xs h => match xs with
  | [.int i] => some (.int (if i < 0 then -i else i), h)
  | _ => none
def lstOf (h : IH) : IV → Option (List IV)
  | .ref n => match h[n]? with
    | some (.lst xs) => some xs
    | _ => none
  | .scr ns => some (ns.map IV.int)
  | _ => none
def tupleO : O1 := fun xs h => match xs with
  | [.tup ys] => some (.tup ys, h)
  | [x] => match lstOf h x with
    | some ys => some (.tup ys, h)
    | none => none
  | _ => none
def listO : O1 := fun xs h => match xs with
  | [x] => match seqOf h x with
    | some ys => some (.ref h.length, h ++ [.lst ys])
    | none => none
  | _ => none
def blsOf : List IV → Option (List Bool)
  | [] => some []
  | .bl b :: r => (blsOf r).map (b :: ·)
  | _ :: _ => none
def intsOf : List IV → Option (List Int)
  | [] => some []
  | .int b :: r => (intsOf r).map (b :: ·)
  | _ :: _ => none
def strsOf : List IV → Option (List Str)
  | [] => some []
  | .str b :: r => (strsOf r).map (b :: ·)
  | _ :: _ => none
def allO (f : List Bool → Bool) : O1 := fun xs h => match xs with
  | [x] => match lstOf h x with
    | some ys => match blsOf ys with
      | some bs => some (.bl (f bs), h)
      | none => none
    | none => none
  | _ => none
def sumO : O1 := fun xs h => match xs with
  | [x] => match lstOf h x with
    | some ys => match intsOf ys with
      | some bs => some (.int bs.sum, h)
      | none => none
    | none => none
  | _ => none
def tyN (h : IH) : IV → Option String
  | .non => some "NoneType" | .bl _ => some "bool" | .int _ => some "int" | .str _ => some "str" | .tup _ => some "tuple" | .scr _ => some "list"
  | .exc _ _ _ => none
  | .ref n => match h[n]? with
    | some (.lst _) => some "list"
    | some (.dK _) => some "dict"
    | some (.dT _) => none
    | none => none
def isiO (T : String) : IV → IH → Option (IV × IH) := fun x h => match tyN h x with
  | some n => match kitB n T with
    | some b => some (.bl b, h)
    | none => none
  | none => none
def strI : O1 := fun xs h => match xs with
  | [.int i] => if i.natAbs.log2 < 1920 then some (.str (toString i), h) else none
  | _ => none
def intT : O1 := fun xs h => match xs with
  | [.str a] => if a.length ≤ 640 then (match PySem.intText? a with
    | some n => some (.int n, h)
    | none => none) else none
  | _ => none
section
variable {X : Cx} {W : WX}
theorem lstOf_sim {K : PySem.W.Frag} {φ : List Addr} {H : Hp} {h : IH} {x : IV} {v : V} {xs : List IV} (rh : RH K φ H h) (r : RV K φ H x v) (e : lstOf h x = some xs) : ∃ p vs, v = .ref p ∧ SqL K H p vs ∧ RVs K φ H xs vs := by
  cases r with
  | ref hn =>
    obtain ⟨o, eo, ro⟩ := rh.ob hn
    simp only [lstOf, eo] at e
    cases o with
    | lst xs => cases e; obtain ⟨vs, q, rs⟩ := ro; exact ⟨_, vs, rfl, .inl (.inl q), rs⟩
    | dK xs => cases e
    | dT xs => cases e
  | scr hs => cases e; exact ⟨_, _, rfl, hs.sq, RVs.ints _⟩
  | _ => cases e
theorem blsOf_eq : ∀ {xs : List IV} {bs : List Bool}, blsOf xs = some bs → xs = bs.map IV.bl
  | [], _, e => by cases e; rfl
  | .bl b :: r, _, e => by
    unfold blsOf at e
    cases q : blsOf r with
    | none => rw [q] at e; cases e
    | some bs => rw [q] at e; cases e; rw [blsOf_eq q]; rfl
  | .non :: _, _, e => by cases e
  | .int _ :: _, _, e => by cases e
  | .str _ :: _, _, e => by cases e
  | .tup _ :: _, _, e => by cases e
  | .ref _ :: _, _, e => by cases e
  | .scr _ :: _, _, e => by cases e
  | .exc _ _ _ :: _, _, e => by cases e
theorem intsOf_eq : ∀ {xs : List IV} {bs : List Int}, intsOf xs = some bs → xs = bs.map IV.int
  | [], _, e => by cases e; rfl
  | .int b :: r, _, e => by
    unfold intsOf at e
    cases q : intsOf r with
    | none => rw [q] at e; cases e
    | some bs => rw [q] at e; cases e; rw [intsOf_eq q]; rfl
  | .non :: _, _, e => by cases e
  | .bl _ :: _, _, e => by cases e
  | .str _ :: _, _, e => by cases e
  | .tup _ :: _, _, e => by cases e
  | .ref _ :: _, _, e => by cases e
  | .scr _ :: _, _, e => by cases e
  | .exc _ _ _ :: _, _, e => by cases e
theorem strsOf_eq : ∀ {xs : List IV} {bs : List Str}, strsOf xs = some bs → xs = bs.map IV.str
  | [], _, e => by cases e; rfl
  | .str b :: r, _, e => by
    unfold strsOf at e
    cases q : strsOf r with
    | none => rw [q] at e; cases e
    | some bs => rw [q] at e; cases e; rw [strsOf_eq q]; rfl
  | .non :: _, _, e => by cases e
  | .bl _ :: _, _, e => by cases e
  | .int _ :: _, _, e => by cases e
  | .tup _ :: _, _, e => by cases e
  | .ref _ :: _, _, e => by cases e
  | .scr _ :: _, _, e => by cases e
  | .exc _ _ _ :: _, _, e => by cases e
def rLen1 (K : PySem.W.Frag) : List V → Hp → VK → Prop := fun xs H Q => ∃ x n, xs = [x] ∧ LenV K x H n ∧ Q (.int n) H
theorem sc_len : SCall X (.builtin "len") (rLen1 X.K) lenO := ⟨call_len, by
  intro H Q φ h xs vs rh rs p
  unfold lenO at p
  split at p
  · rename_i y
    cases rs with
    | cons r1 r2 =>
      cases r1; cases r2
      split at p
      · rename_i hl
        exact ⟨_, y.length, rfl, ⟨by rw [line16]; exact hl, rfl⟩, p.give rh (.int _)⟩
      · exact p.elim
  · rename_i x _
    cases rs with
    | cons r1 r2 =>
      cases r2
      split at p
      · rename_i ys e
        obtain ⟨q, us, rfl, hs, ru⟩ := seqOf_sim rh r1 e
        refine ⟨_, ys.length, rfl, ?_, p.give rh (.int _)⟩
        rcases hs with hs | hs
        · exact .inl ⟨us, hs, ru.length⟩
        · exact .inr ⟨us, hs, ru.length⟩
      · exact p.elim
  · exact p.elim⟩
theorem sc_abs : SCall X (.builtin "abs") (fun xs H Q => ∃ i, xs = [.int i] ∧ Q (.int (if i < 0 then -i else i)) H) absO := ⟨call_abs, by
  intro H Q φ h xs vs rh rs p
  unfold absO at p
  split at p
  · cases rs with
    | cons r1 r2 => cases r1; cases r2; exact ⟨_, rfl, p.give rh (.int _)⟩
  · exact p.elim⟩
def rTup1 (K : PySem.W.Frag) : List V → Hp → VK → Prop := fun xs H Q => ∃ p ys, xs = [.ref p] ∧ ((SqL K H p ys ∧ NewT Q H ys) ∨ (SqT K H p ys ∧ Q (.ref p) H))
theorem sc_tuple : SCall X (.type "tuple") (rTup1 X.K) tupleO := ⟨call_tupleF, by
  intro H Q φ h xs vs rh rs p
  unfold tupleO at p
  split at p
  · cases rs with
    | cons r1 r2 =>
      cases r2
      cases r1 with
      | tup hs rt => exact ⟨_, _, rfl, .inr ⟨hs.sq, p.give rh (.tup hs rt)⟩⟩
  · cases rs with
    | cons r1 r2 =>
      cases r2
      split at p
      · rename_i ys e
        obtain ⟨q, us, rfl, hs, ru⟩ := lstOf_sim rh r1 e
        exact ⟨q, us, rfl, .inl ⟨hs, fun l o hl ho => p φ _ _ (ev_new0 hl) (rh.beside hl) (.tup (.inl ⟨o, upd_same, ho⟩) (ru.ev (ev_new0 hl)))⟩⟩
      · exact p.elim
  · exact p.elim⟩
def rLst1 (K : PySem.W.Frag) : List V → Hp → VK → Prop := fun xs H Q => ∃ p ys, xs = [.ref p] ∧ (SqL K H p ys ∨ SqT K H p ys) ∧ ∀ l, H l = none → Q (.ref l) (upd H l (.lst ys))
theorem sc_list : SCall X (.type "list") (rLst1 X.K) listO := ⟨call_list_of, by
  intro H Q φ h xs vs rh rs p
  unfold listO at p
  split at p
  · cases rs with
    | cons r1 r2 =>
      cases r2
      split at p
      · rename_i ys e
        obtain ⟨q, us, rfl, hs, ru⟩ := seqOf_sim rh r1 e
        exact ⟨q, us, rfl, hs, fun l hl => post_new (o := .lst ys) rh hl ⟨_, upd_same, ru.ev (ev_new hl _)⟩ p⟩
      · exact p.elim
  · exact p.elim⟩
theorem sim_all {K : PySem.W.Frag} (f : List Bool → Bool) : SimC K (fun vs H Q => ∃ (a : Addr) (bs : List Bool), vs = [V.ref a] ∧ SqL K H a (bs.map V.bl) ∧ Q (.bl (f bs)) H) (allO f) := by
  intro H Q φ h xs vs rh rs p
  unfold allO at p
  split at p
  · cases rs with
    | cons r1 r2 =>
      cases r2
      split at p
      · rename_i ys e
        split at p
        · rename_i bs eb
          obtain ⟨q, us, rfl, hs, ru⟩ := lstOf_sim rh r1 e
          rw [blsOf_eq eb] at ru
          exact ⟨q, bs, rfl, by rw [← ru.bls_eq]; exact hs, p.give rh (.bl _)⟩
        · exact p.elim
      · exact p.elim
  · exact p.elim
theorem sc_all (hc : X.calm = true) : SCall X (.builtin "all") (rAll X.K) (allO fun bs => bs.all id) := ⟨cr_all hc, sim_all _⟩
theorem sc_any (hc : X.calm = true) : SCall X (.builtin "any") (rAny X.K) (allO fun bs => bs.any id) := ⟨cr_any hc, sim_all _⟩
theorem sc_sum (hc : X.calm = true) : SCall X (.builtin "sum") (rSum X.K) sumO := ⟨cr_sum hc, by
  intro H Q φ h xs vs rh rs p
  unfold sumO at p
  split at p
  · cases rs with
    | cons r1 r2 =>
      cases r2
      split at p
      · rename_i ys e
        split at p
        · rename_i bs eb
          obtain ⟨q, us, rfl, hs, ru⟩ := lstOf_sim rh r1 e
          rw [intsOf_eq eb] at ru
          exact ⟨q, bs, rfl, by rw [← ru.ints_eq]; exact hs, p.give rh (.int _)⟩
        · exact p.elim
      · exact p.elim
  · exact p.elim⟩
theorem sc_str : SCall X (.type "str") (fun xs H Q => ∃ i, xs = [.int i] ∧ i.natAbs.log2 < 1920 ∧ Q (.str (toString i)) H) strI := ⟨call_str_int, by
  intro H Q φ h xs vs rh rs p
  unfold strI at p
  split at p
  · cases rs with
    | cons r1 r2 =>
      cases r1; cases r2
      split at p
      · rename_i hl
        exact ⟨_, rfl, hl, p.give rh (.str _)⟩
      · exact p.elim
  · exact p.elim⟩
theorem sc_int : SCall X (.type "int") (fun xs H Q => ∃ a n, xs = [.str a] ∧ PySem.intText? a = some n ∧ a.length ≤ 640 ∧ Q (.int n) H) intT := ⟨call_int_str, by
  intro H Q φ h xs vs rh rs p
  unfold intT at p
  split at p
  · cases rs with
    | cons r1 r2 =>
      cases r1; cases r2
      split at p
      · rename_i hl
        split at p
        · rename_i n hn
          exact ⟨_, n, rfl, hn, hl, p.give rh (.int _)⟩
        · exact p.elim
      · exact p.elim
  · exact p.elim⟩
/-! isinstance(x, T) -/
theorem tyN_sim {K : PySem.W.Frag} {φ : List Addr} {H : Hp} {h : IH} {x : IV} {v : V} {n : String} (rh : RH K φ H h) (r : RV K φ H x v) (e : tyN h x = some n) : TyX K H v (.type n) := by
  cases r with
  | non => cases e; exact .base .non
  | bl b => cases e; exact .base (.bl b)
  | int b => cases e; exact .base (.int b)
  | str b => cases e; exact .base (.str b)
  | tup hs rs =>
    cases e
    rcases hs with ⟨o, z, _⟩ | ⟨o, its, n, z, c, _⟩
    · exact .fTuple z
    · exact .kTuple z c
  | ref hn =>
    obtain ⟨o, eo, ro⟩ := rh.ob hn
    simp only [tyN, eo] at e
    cases o with
    | lst xs => cases e; obtain ⟨vs, q, _⟩ := ro; exact .base (.lst q)
    | dK xs => cases e; obtain ⟨vs, q, _⟩ := ro; exact .base (.dK q)
    | dT xs => cases e
  | scr hs =>
    cases e
    rcases hs with ⟨o, z⟩ | ⟨o, its, n, z, c, _⟩
    · exact .base (.frz z)
    · exact .kList z c
  | exc0 => cases e
  | exc1 => cases e
theorem se_isi {T : String} {x : Str} {a : Expr} {ta : TE} {ma : Env → M IV} {p p2 pos : Pos} (hg : Gl X "isinstance") (hm : X.mg "isinstance" = none) (hm2 : X.mg x = none) (hv2 : bootBuiltins x = some (.type T)) (ha : SE X W a ta ma) (cv : ClsV (.ty T) (.type T))
    (pb : PE X (.Name x p2) (tC (.ty T))) (pe : PE X (.Name x p2) (tC (.ty T)) → PE X a ta → PE X (.Call (.Name "isinstance" p) [a, .Name x p2] [] pos) (tCB (rIsi X.K) (tCons ta (tCons (tC (.ty T)) tNil)))) :
    SE X W (.Call (.Name "isinstance" p) [a, .Name x p2] [] pos) (tCB (rIsi X.K) (tCons ta (tCons (tC (.ty T)) tNil))) (eUn (isiO T) ma) := by
  refine ⟨pe pb ha.pe, ?_⟩
  intro σ H Q φ h env re rh p
  refine ha.sim σ H _ φ h env re rh (p.bnd (Ev.refl _ _) fun φ1 H1 x v h1 e1 rh1 r1 p1 => ?_)
  have p2 := PostO.of p1 e1
  unfold isiO at p2
  split at p2
  · rename_i n hn
    split at p2
    · rename_i b hb
      exact ⟨v, .ty T, _, _, b, rfl, cv, tyN_sim rh1 r1 hn, kit_ty hb, p2.give rh1 (.bl _)⟩
    · exact p2.elim
  · exact p2.elim
/-! slices -/
def sliceQ (f : Option Int → Option Int → IV → IH → Option (IV × IH)) (a : Env → M IV) (lo hi : Env → M (Option Int)) : Env → M IV := fun env => bnd (a env) fun x => bnd (lo env) fun l => bnd (hi env) fun u => lift (f l u x)
def slO (lo hi : Option Int) : IV → IH → Option (IV × IH) := fun x h => match x with
  | .str z => if z.length ≤ 16777216 then some (.str (cutS z lo hi), h) else none
  | .tup xs => some (.tup ((xs.drop (HT.sIx xs.length 0 lo)).take (HT.sIx xs.length xs.length hi - HT.sIx xs.length 0 lo)), h)
  | x => match lstOf h x with
    | some xs => some (.ref h.length, h ++ [.lst ((xs.drop (HT.sIx xs.length 0 lo)).take (HT.sIx xs.length xs.length hi - HT.sIx xs.length 0 lo))])
    | none => none
def rSlZ (K : PySem.W.Frag) : V → Option Int → Option Int → Hp → VK → Prop := fun x lo hi H Q => rSlS x lo hi H Q ∨ (rSlF K x lo hi H Q ∨ rSlL K x lo hi H Q)
theorem sl_all : SlR X (rSlZ X.K) := sl_str.or (sl_tupF.or sl_list)
theorem sim_sl {K : PySem.W.Frag} {φ : List Addr} {H : Hp} {h : IH} {x : IV} {v : V} {lo hi : Option Int} {Q : VK} (rh : RH K φ H h) (r : RV K φ H x v) (p : PostO K (RV K) φ H Q (slO lo hi x h)) : rSlZ K v lo hi H Q := by
  unfold slO at p
  split at p
  · rename_i z
    cases r
    split at p
    · rename_i hl
      exact .inl ⟨z, rfl, by rw [line16]; exact hl, p.give rh (.str _)⟩
    · exact p.elim
  · rename_i xs
    cases r with
    | tup hs rs =>
      refine .inr (.inl ⟨_, _, rfl, hs.sq, fun hc => p.give rh (.tup hs ?_), fun hc q o hq ho => ?_⟩)
      · rw [← rs.length] at hc
        rw [hc.1, hc.2]
        simpa using rs
      · refine p φ _ _ (ev_new0 hq) (rh.beside hq) (.tup (.inl ⟨o, upd_same, ho⟩) (RVs.ev (ev_new0 hq) ?_))
        unfold cutV
        rw [← rs.length]
        exact (rs.drop _).take _
  · split at p
    · rename_i xs e
      obtain ⟨q, us, rfl, hs, ru⟩ := lstOf_sim rh r e
      refine .inr (.inr ⟨q, us, rfl, hs, fun z hz => post_new (o := .lst ((xs.drop (HT.sIx xs.length 0 lo)).take (HT.sIx xs.length xs.length hi - HT.sIx xs.length 0 lo))) rh hz ⟨_, upd_same, RVs.ev (ev_new hz _) ?_⟩ p⟩)
      unfold cutV
      rw [← ru.length]
      exact (ru.drop _).take _
    · exact p.elim
structure SO (X : Cx) (W : WX) (e : Option Expr) (t : TO) (m : Env → M (Option Int)) : Prop where
  pe : PO X e t
  sim : ∀ σ H Q φ h env, REnv X.K φ H env σ → RH X.K φ H h → Post X.K X.mg (fun _ _ (a b : Option Int) => a = b) φ H (WE W σ) Q (m env h) → t σ H Q
def oN : Env → M (Option Int) := fun _ h => some (.ok none, h)
def oS (m : Env → M IV) : Env → M (Option Int) := fun env => bnd (m env) fun x h => match x with
  | .int i => some (.ok (some i), h)
  | _ => none
theorem so_none : SO X W none tNoPart oN := ⟨po_none, fun σ H Q φ h env re rh p => p φ H none (Ev.refl _ _) rh rfl⟩
theorem so_some {e : Expr} {t : TE} {m : Env → M IV} (h : SE X W e t m) : SO X W (some e) (tPart t) (oS m) := ⟨po_some h.pe, fun σ H Q φ hh env re rh p => by
  refine h.sim σ H _ φ hh env re rh (p.bnd (Ev.refl _ _) fun φ1 H1 x v h1 e1 rh1 r1 p1 => ?_)
  cases r1 <;> first | exact p1.elim | skip
  exact ⟨_, rfl, p1 φ1 H1 _ e1 rh1 rfl⟩⟩
theorem se_slice {e : Expr} {lo hi : Option Expr} {te : TE} {tl th : TO} {me : Env → M IV} {ml mh : Env → M (Option Int)} {p2 pos : Pos} (he : SE X W e te me) (hl : SO X W lo tl ml) (hh : SO X W hi th mh) :
    SE X W (.Subscript e (.Slice lo hi none p2) pos) (tSl (rSlZ X.K) te tl th) (sliceQ slO me ml mh) := by
  refine ⟨pe_slice sl_all he.pe hl.pe hh.pe, ?_⟩
  intro σ H Q φ h env re rh p
  refine he.sim σ H _ φ h env re rh (p.bnd (Ev.refl _ _) fun φ1 H1 x v h1 e1 rh1 r1 p1 => ?_)
  refine hl.sim σ H1 _ φ1 h1 env (re.ev e1) rh1 (p1.bnd e1 fun φ2 H2 l l' h2 e2 rh2 r2 p2 => ?_)
  subst r2
  have e12 := e1.trans e2
  refine hh.sim σ H2 _ φ2 h2 env (re.ev e12) rh2 (p2.bnd e12 fun φ3 H3 u u' h3 e3 rh3 r3 p3 => ?_)
  subst r3
  exact sim_sl rh3 ((r1.ev e2).ev e3) (PostO.of p3 (e12.trans e3))
/-! methods of lists that change them -/
def eBM (o : IV → List IV → IH → Option (IV × IH)) (m : Env → M IV) (a : Env → M (List IV)) : Env → M IV := fun env => bnd (m env) fun x h => match tyN h x with
  | some _ => bnd (a env) (fun xs => lift (o x xs)) h
  | none => none
def appO : IV → List IV → IH → Option (IV × IH) := fun x xs h => match x, xs with
  | .ref n, [y] => match h[n]? with
    | some (.lst ys) => if ys.length < 16777216 then some (.non, h.set n (.lst (ys ++ [y]))) else none
    | _ => none
  | _, _ => none
end
end L2.Sh

namespace L2.Sh
open PySem PySem.Spec PyProof.Rows L2
section
variable {X : Cx} {W : WX}
theorem se_chain {op op' : CmpOp} {r r' : R2} {o o' : O2} {a b c : Expr} {ta tb tc : TE} {ma mb mc : Env → M IV} {pos : Pos} (ho : SOp X (compareOp op) r o) (ho' : SOp X (compareOp op') r' o') (ha : SE X W a ta ma) (hb : SE X W b tb mb) (hc : SE X W c tc mc)
    (hm : lastMarks [op, op'] [b, c] = false := by with_unfolding_all rfl) : SE X W (.Compare a [op, op'] [b, c] pos) (tChain r r' ta tb tc) (eChain o o' ma mb mc) :=
  ⟨pe_chain ho.op ho'.op ha.pe hb.pe hc.pe hm, sim_chain ho.sim ho'.sim ha.sim hb.sim hc.sim⟩
theorem st_chain {op op' : CmpOp} {r r' : R2} {o o' : O2} {a b c : Expr} {ta tb tc : TE} {ma mb mc : Env → M IV} {pos : Pos} (ho : SOp X (compareOp op) r o) (ho' : SOp X (compareOp op') r' o') (ha : SE X W a ta ma) (hb : SE X W b tb mb) (hc : SE X W c tc mc)
    (hm : lastMarks [op, op'] [b, c] = false := by with_unfolding_all rfl) : ST X W (.Compare a [op, op'] [b, c] pos) (tTest (tChain r r' ta tb tc)) (tyB (eChain o o' ma mb mc)) := by
  refine ⟨pt_chain ho.op ho'.op ha.pe hb.pe hc.pe hm, ?_⟩
  intro σ H Q φ h env re rh p
  refine sim_chain ho.sim ho'.sim ha.sim hb.sim hc.sim σ H _ φ h env re rh (p.bnd (Ev.refl _ _) fun φ1 H1 x v h1 e1 rh1 r1 p1 => ?_)
  cases r1 <;> first | exact p1.elim | skip
  rename_i b
  exact ⟨b, rfl, p1 φ1 H1 b e1 rh1 rfl⟩
/-! methods of built-in types -/
def tyI (T : String) (h : IH) : IV → Bool
  | .str _ => T == "str"
  | .int _ => T == "int"
  | .ref n => match h[n]? with
    | some (.lst _) => T == "list"
    | some (.dK _) => T == "dict"
    | some (.dT _) => false
    | none => false
  | .scr _ => T == "list"
  | _ => false
def eM (T : String) (o : IV → List IV → IH → Option (IV × IH)) (m : Env → M IV) (a : Env → M (List IV)) : Env → M IV := fun env => bnd (m env) fun x h => if tyI T h x = true then bnd (a env) (fun xs => lift (o x xs)) h else none
def SimM (K : PySem.W.Frag) (r : V → List V → Hp → VK → Prop) (o : IV → List IV → IH → Option (IV × IH)) : Prop := ∀ H Q φ h x xs vx vs, RH K φ H h → RV K φ H x vx → RVs K φ H xs vs → PostO K (RV K) φ H Q (o x xs h) → r vx vs H Q
structure SMt (X : Cx) (id : String) (r : V → List V → Hp → VK → Prop) (o : IV → List IV → IH → Option (IV × IH)) : Prop where
  op : MtR X id r
  sim : SimM X.K r o
theorem tyI_sim {K : PySem.W.Frag} {φ : List Addr} {H : Hp} {h : IH} {x : IV} {v : V} {T : String} (rh : RH K φ H h) (r : RV K φ H x v) (e : tyI T h x = true) : tyV K T v H := by
  cases r with
  | str => exact (beq_iff_eq.mp e)
  | int => exact (beq_iff_eq.mp e)
  | ref hn =>
    obtain ⟨o, eo, ro⟩ := rh.ob hn
    simp only [tyI, eo] at e
    cases o with
    | lst xs => obtain ⟨vs, q, _⟩ := ro; exact .inl ⟨beq_iff_eq.mp e, vs, .inl (.inl q)⟩
    | dK xs => obtain ⟨vs, q, _⟩ := ro; exact .inr (.inr (.inl ⟨beq_iff_eq.mp e, .inl ⟨vs, q⟩⟩))
    | dT xs => cases e
  | scr hs => exact .inl ⟨beq_iff_eq.mp e, _, hs.sq⟩
  | _ => cases e
theorem sim_M {T : String} {r : V → List V → Hp → VK → Prop} {o : IV → List IV → IH → Option (IV × IH)} {te : TE} {t : TA} {me : Env → M IV} {m : Env → M (List IV)} (hm : SimM X.K r o) (he : SimE X.K X.mg W te me) (ha : SimA X.K X.mg W t m) : SimE X.K X.mg W (tBM X.K T r te t) (eM T o me m) := by
  intro σ H Q φ h env re rh p
  refine he σ H _ φ h env re rh (p.bnd (Ev.refl _ _) fun φ1 H1 x v h1 e1 rh1 r1 p1 => ?_)
  split at p1
  · rename_i ht
    refine ⟨tyI_sim rh1 r1 ht, ha σ H1 _ φ1 h1 env (re.ev e1) rh1 (p1.bnd e1 fun φ2 H2 xs vs h2 e2 rh2 r2 p2 => ?_)⟩
    exact hm H2 Q φ2 h2 x xs v vs rh2 (r1.ev e2) r2 (PostO.of p2 (e1.trans e2))
  · exact p1.elim
theorem se_M {T id : String} {name : Str} {r : V → List V → Hp → VK → Prop} {o : IV → List IV → IH → Option (IV × IH)} {b e : Expr} {es : List Expr} {te : TE} {t : TA} {me : Env → M IV} {m : Env → M (List IV)} {apos cpos : Pos} (hm : SMt X id r o) (he : SE X W b te me) (ha : SA X W (e :: es) t m)
    (pe : MtR X id r → PE X b te → PA X (e :: es) t → PE X (.Call (.Attribute b name apos) (e :: es) [] cpos) (tBM X.K T r te t)) : SE X W (.Call (.Attribute b name apos) (e :: es) [] cpos) (tBM X.K T r te t) (eM T o me m) := ⟨pe hm.op he.pe ha.pe, sim_M hm.sim he.sim ha.sim⟩
theorem se_M0 {T id : String} {name : Str} {r : V → List V → Hp → VK → Prop} {o : IV → List IV → IH → Option (IV × IH)} {b : Expr} {te : TE} {me : Env → M IV} {apos cpos : Pos} (hm : SMt X id r o) (he : SE X W b te me)
    (pe : MtR X id r → PE X b te → PE X (.Call (.Attribute b name apos) [] [] cpos) (tBM0 X.K T r te)) : SE X W (.Call (.Attribute b name apos) [] [] cpos) (tBM0 X.K T r te) (eM T o me aNil) := ⟨pe hm.op he.pe, fun σ H Q φ h env re rh p =>
      sim_M (T := T) (t := tNil) hm.sim he.sim sa_nil.sim σ H Q φ h env re rh p⟩
theorem post_put {K : PySem.W.Frag} {φ : List Addr} {H : Hp} {h : IH} {a : Addr} {n : Nat} {u u' : HO} {o : IO} {Q : VK} {y : IV} {v : V} (rh : RH K φ H h) (hn : φ[n]? = some a) (hu : H a = some u) (hs : stab u = false) (ro : ∀ φ', Ev φ H φ' (upd H a u') → RO K φ (upd H a u') a o) (ry : RV K φ (upd H a u') y v)
    (p : PostO K (RV K) φ H Q (some (y, h.set n o))) : Q v (upd H a u') := by
  have ep : Ev φ H φ (upd H a u') := ev_put hu hs
  exact p φ _ v ep (rh.put hn (ro φ ep)) ry
theorem sm_append : SMt X "list.append" rAppend appO := ⟨mt_append, by
  intro H Q φ h x xs vx vs rh rx rs p
  unfold appO at p
  split at p
  · rename_i n y
    cases rx with
    | ref hn =>
      cases rs with
      | cons r1 r2 =>
        cases r2
        rename_i a v
        obtain ⟨o, eo, ro⟩ := rh.ob hn
        simp only [eo] at p
        cases o with
        | lst ys =>
          obtain ⟨us, q, rr⟩ := ro
          simp only [] at p
          split at p
          · rename_i hl
            exact ⟨a, us, v, rfl, rfl, q, by rw [line16, ← rr.length]; exact hl, post_put (o := .lst (ys ++ [y])) rh hn q rfl (fun _ e => ⟨_, upd_same, (rr.append (.cons r1 .nil)).ev (ev_put q rfl)⟩) .non p⟩
          · exact p.elim
        | dK xs => exact p.elim
        | dT xs => exact p.elim
  · exact p.elim⟩
end
/-! ### a def of the top, with its promise -/
structure Df (P : Program) (w : World) (K : PySem.W.Frag) (mg : Str → Option Value) (base : Heap) (x : Str) (k : Nat) (ps : List Str) (F : Fn) : Prop where
  ex : ∃ f fd, mg x = some (.ref f) ∧ PySem.W.keepIn K (.ref f) = true ∧ Binds K fd ps [] ∧ FnM P w K mg base k f fd ps F
  lk : ∀ f, mg x = some (.ref f) → ∀ fd, (∃ oc od osl, K.lookup f = some ⟨oc, od, .func fd, osl⟩) → FnM P w K mg base k f fd ps F
theorem Df.mono {P : Program} {w : World} {K : PySem.W.Frag} {mg : Str → Option Value} {base : Heap} {x : Str} {j k : Nat} {ps : List Str} {F : Fn} (d : Df P w K mg base x j ps F) (h : j ≤ k) : Df P w K mg base x k ps F :=
  let ⟨f, fd, a, b, c, e⟩ := d.ex
  ⟨⟨f, fd, a, b, c, e.mono h⟩, fun f hf fd q => (d.lk f hf fd q).mono h⟩
abbrev FnT (K : PySem.W.Frag) (x : Str) (st : Stmt) : Prop := ∃ fd, FunD K x x (defArgs st) (defBody st) (defScope st) [] [] (He.ga K x) fd
theorem df_mk {P : Program} {w : World} {K : PySem.W.Frag} {mg : Str → Option Value} {base : Heap} {x : Str} {st : Stmt} {N ps : List Str} {k : Nat} {b : MS} (g : mg x = some (.ref (He.ga K x))) (F : FnT K x st) (S : FnScope N ps (defScope st))
    (bd : ∀ (kV doc pm : Value) (an : Option Addr) (cdv ct : Value) (us : List Value), us.length = ps.length → bindArgs (PySem.W.fnOf x x (defArgs st) (defBody st) (defScope st) .none kV doc pm an cdv ct) ⟨us, []⟩ = pure (ps.zip us))
    (hb : ∀ (f : Addr) (cdv : Value) (A : Around) (outer : List PySem.Env) (s : Shared) (H : Hp) (E : XK), Room k (A.deeper (envOfC x (defScope st) s.heap.objs.size f cdv)) →
      Takes (cxOf (L2.CX P w) P w K mg base N x (defScope st) f cdv A outer s H E) (WD E) →
      PassesOwn (model P w) (A.deeper (envOfC x (defScope st) s.heap.objs.size f cdv)) (cxOf (L2.CX P w) P w K mg base N x (defScope st) f cdv A outer s H E).env (cxOf (L2.CX P w) P w K mg base N x (defScope st) f cdv A outer s H E).xe →
      ∃ t, SB (cxOf (L2.CX P w) P w K mg base N x (defScope st) f cdv A outer s H E) (WD E) (defBody st) t b) : Df P w K mg base x (k + 1) ps (runF N.length b) := by
  obtain ⟨fd, F⟩ := F
  suffices z : FnM P w K mg base (k + 1) (He.ga K x) fd ps (runF N.length b) by
    refine ⟨⟨_, fd, g, F.kp, F.bindsN bd, z⟩, fun f hf fd' q => ?_⟩
    have e := hf.symm.trans g
    cases e
    obtain ⟨oc, od, dV, kV, doc, pm, an, cdv, ct, osl, e1, lk, _⟩ := F.ex
    obtain ⟨oc', od', osl', lk'⟩ := q
    rw [lk] at lk'
    injection lk' with lk'
    injection lk' with _ _ lk' _
    injection lk' with lk'
    rw [← lk']
    exact z
  refine F.ok S (fun vs H Q E h => ?_) (fun cdv A outer s H vs Q E hr h => ?_)
  · obtain ⟨φ, hh, xs, r, _, l, _⟩ := h
    rw [← r.length]; exact l
  · obtain ⟨t, sb⟩ := hb _ cdv A outer s H E hr (takes_of rfl rfl rfl rfl) (passes_of rfl)
    refine ⟨t, sb.pe, ?_⟩
    obtain ⟨φ, hh, xs, r, rh, l, p⟩ := h
    have re : REnv K φ H (xs.map some ++ List.replicate (N.length - xs.length) none) (L2.start N vs) := by
      unfold L2.start
      rw [← r.length]
      exact REnv.start r _
    refine sb.sim _ _ _ φ hh _ re rh ?_
    unfold runF at p
    show PostS K mg (WD E) φ H _ _
    cases hm : b (xs.map some ++ List.replicate (N.length - xs.length) none) hh with
    | none => rw [hm] at p; exact p.elim
    | some z =>
      obtain ⟨z, h'⟩ := z
      rw [hm] at p
      cases z with
      | nx env' => exact fun φ' H' σ' e rh' re' => p φ' H' _ e rh' .non
      | rt v => exact p
      | ex x env' => exact fun φ' H' σ' cls d e rh' re' rx => p φ' H' cls d e rh' rx
      | bk _ => exact p.elim
      | ct _ => exact p.elim
theorem se_callD {X : Cx} {W : WX} {j k : Nat} {ps : List Str} {G : Fn} {x : Str} {e : Expr} {es : List Expr} {t : TA} {m : Env → M (List IV)} {p pos : Pos} (D : Df X.prog X.w X.K X.mg X.base x j ps G) (hr : Room k X.A) (tk : Takes X W) (ha : SA X W (e :: es) t m)
    (al : ∀ env h xs h', m env h = some (.ok xs, h') → xs.length = (e :: es).length) (hl : ps.length = (e :: es).length := by rfl) (hj : j ≤ k := by decide) (hg : Gl X x := by rfl)
    (hdb : (x == ("__debug__" : Str)) = false := by decide) (he : starEach (e :: es) X.env = (false, eval e X.env) :: starEach es X.env := by rfl) (hpl : (backTo pos (starEach es X.env)).any (·.1) = false := by rfl) :
    SE X W (.Call (.Name x p) (e :: es) [] pos) (tCallS (spM X.K X.mg ps.length G) (WE W) t) (eCall G m) := by
  obtain ⟨f, fd, hm, hk, hb, F⟩ := D.ex
  exact se_call (k := k) F hr hm hk hb tk ha hl hg hj al fun F' ha' hx => pe_callS F' hr hg hm hk hb hx ha' hdb he hpl
/-- f() -/
def eCall0 (F : Fn) : Env → M IV := fun _ => nox (F [])
theorem se_callD0 {X : Cx} {W : WX} {j k : Nat} {G : Fn} {x : Str} {p pos : Pos} (D : Df X.prog X.w X.K X.mg X.base x j [] G) (hr : Room k X.A) (hj : j ≤ k := by decide) (hg : Gl X x := by rfl) (hdb : (x == ("__debug__" : Str)) = false := by decide) :
    SE X W (.Call (.Name x p) [] [] pos) (tCall (spM X.K X.mg 0 G) [] E0 tNil) (eCall0 G) := by
  obtain ⟨f, fd, hm, hk, hb, F⟩ := D.ex
  refine ⟨pe_call0 (F.mono hj) hr hg hm hk hb .nil passL hdb, ?_⟩
  intro σ H Q φ h env re rh p
  refine ⟨φ, h, [], .nil, rh, rfl, ?_⟩
  unfold eCall0 nox at p
  cases hG : G [] h with
  | none => rw [hG] at p; exact p.elim
  | some z =>
    obtain ⟨z, h'⟩ := z
    rw [hG] at p
    cases z with
    | error x => exact p.elim
    | ok y => exact p
/-! ### the end -/
def spLaw (K : PySem.W.Frag) : Sp := fun vs H Q _ => ∃ (a : Addr) (ns : List Int), vs = [.ref a] ∧ StL K H a (ns.map V.int) ∧ ns.length ≤ 63 ∧ (∀ z ∈ ns, Builtin.Int.intBits z ≤ 1048576) ∧ (∀ a, H a = none ∨ True) ∧ ∀ H', Q (.bl true) H'
theorem law_fin {P : Program} {w : World} {K : PySem.W.Frag} {mg : Str → Option Value} {base : Heap} {k : Nat} {f : Addr} {fd : FuncData} {x : Str} {F : Fn} (d : FnM P w K mg base k f fd [x] F)
    (pure : ∀ ns : List Int, ns.length ≤ 63 → (∀ z ∈ ns, Builtin.Int.intBits z ≤ 1048576) → ∃ h, F [.scr ns] [] = some (.ok (.bl true), h)) : FnOk P w K mg base (L2.CX P w) k f fd [x] (spLaw K) := by
  refine d.imp fun vs H Q E h => ?_
  obtain ⟨a, ns, rfl, hs, hl, hb, _, q⟩ := h
  obtain ⟨h', e⟩ := pure ns hl hb
  refine ⟨[], [], [.scr ns], .cons (.scr hs) .nil, ⟨rfl, List.nodup_nil, fun n o a e => by simp at e⟩, rfl, ?_⟩
  rw [e]
  intro φ' H' v _ _ r
  cases r
  exact q H'
theorem stl_of {K : PySem.W.Frag} {H : Hp} {a : Addr} {xs : List V} (o : Only H) (s : SqL K H a xs) : StL K H a xs := by
  rcases s with (z | ⟨ob, z⟩) | z
  · rcases o a with e | ⟨ob, ys, e⟩
    · rw [z] at e; cases e
    · rw [z] at e; cases e
  · exact .inl ⟨ob, z⟩
  · exact .inr z
theorem walk_ofEB {l : PySem.W.OpenLaw} {n k : Nat} {q : Program} {loose : List Str} {XP : (Str → Option Value) → Heap → Prop} {YP : World → Heap → Prop} {d : DefRec} {x : Str}
    (hn : l.most = some n) (hn2 : n ≤ sizeLine) (hdf : d.params.defaults = []) (hr : Room k callerA)
    (F : ∀ (w : World) (mg : Str → Option Value) (fa : Addr) (h : Heap), YP w h → h.Ns mainGlobals mg → mg d.name = some (.ref fa) →
      ∃ (K : PySem.W.Frag) (fd : FuncData) (sp : Sp), K.In h ∧ (∀ (s : Shared) (u : Value), BindsTo s fd ⟨[u], []⟩ [(x, u)]) ∧
        (∀ (H : Hp) (a : Addr) (ns : List Int), ns.length ≤ n → (∀ z ∈ ns, Builtin.Int.intBits z ≤ 1048576) → Only H → SqL K H a (ns.map V.int) → sp [.ref a] H (fun v _ => v = .bl true) fun _ _ _ => False) ∧
        ∀ base : Heap, K.In base → base.Ns mainGlobals mg → FnOk l.prog w K mg base (L2.CX l.prog w) k fa fd [x] sp) :
    PySem.W.WalkO q loose XP YP l.row.toRowW d [] (fun f vs => PySem.call f vs) := by
  refine Att.attach_callB hn hdf fun w s₀ s₁ mg mb fa o pm cd doc a vs ns G Y ho hd hcd hmg hobj hints hlen hbits hg => ?_
  obtain ⟨K, fd, sp, KX, hb, hsp, hF⟩ := F w mg fa _ Y G.T.g hmg
  exact law_call KX G.T.g G.T.b G.T.builtins G.T.nolimit hg hobj hints (Nat.le_trans hlen hn2) hr hF hb (fun H hO hS => hsp H a ns hlen hbits hO hS) fun H e s' z => by
    obtain ⟨_, _, _, _, _, _, _, _, _, _, _, _, z⟩ := z
    exact z.elim
end L2.Sh

namespace L2.Sh
open PySem PySem.Spec PyProof.Rows L2
/-! ### the same, the written part named (for blocks of comprehensions) -/
section
variable {X : Cx} {W : WX} (K : PySem.W.Frag)
theorem so_addK (hK : X.K = K := by rfl) : SOp X (binaryOp .Add) (rAddA K) addO := by subst hK; exact so_add
theorem so_eqK {k : Nat} (hr : Room k X.A) (hK : X.K = K := by rfl) : SOp X (compareOp .Eq) (rEqA K) eqO := by subst hK; exact so_eq hr
theorem so_neK {k : Nat} (hr : Room k X.A) (hK : X.K = K := by rfl) : SOp X (compareOp .NotEq) (rNeA K) neO := by subst hK; exact so_ne hr
theorem so_inK (hK : X.K = K := by rfl) : SOp X (compareOp .In) (rInA K) inO := by subst hK; exact so_in
theorem so_ninK (hK : X.K = K := by rfl) : SOp X (compareOp .NotIn) (rNinA K) ninO := by subst hK; exact so_nin
theorem sc_lenK (hK : X.K = K := by rfl) : SCall X (.builtin "len") (rLen1 K) lenO := by subst hK; exact sc_len
theorem sc_tupleK (hK : X.K = K := by rfl) : SCall X (.type "tuple") (rTup1 K) tupleO := by subst hK; exact sc_tuple
theorem sc_listK (hK : X.K = K := by rfl) : SCall X (.type "list") (rLst1 K) listO := by subst hK; exact sc_list
theorem sc_allK (hc : X.calm = true) (hK : X.K = K := by rfl) : SCall X (.builtin "all") (rAll K) (allO fun bs => bs.all id) := by subst hK; exact sc_all hc
theorem sc_anyK (hc : X.calm = true) (hK : X.K = K := by rfl) : SCall X (.builtin "any") (rAny K) (allO fun bs => bs.any id) := by subst hK; exact sc_any hc
theorem sc_sumK (hc : X.calm = true) (hK : X.K = K := by rfl) : SCall X (.builtin "sum") (rSum K) sumO := by subst hK; exact sc_sum hc
theorem se_ixK {a b : Expr} {ta tb : TE} {ma mb : Env → M IV} {pos : Pos} (ha : SE X W a ta ma) (hb : SE X W b tb mb) (hp : PlainIx b) (hK : X.K = K := by rfl) : SE X W (.Subscript a b pos) (tOp (rIx K) ta tb) (eOp ixQ ma mb) := by
  subst hK; exact se_ix ix_seq sim_ixQ ha hb hp
theorem se_sliceK {e : Expr} {lo hi : Option Expr} {te : TE} {tl th : TO} {me : Env → M IV} {ml mh : Env → M (Option Int)} {p2 pos : Pos} (he : SE X W e te me) (hl : SO X W lo tl ml) (hh : SO X W hi th mh) (hK : X.K = K := by rfl) :
    SE X W (.Subscript e (.Slice lo hi none p2) pos) (tSl (rSlZ K) te tl th) (sliceQ slO me ml mh) := by subst hK; exact se_slice he hl hh
theorem st_truthK {a : Expr} {ta : TE} {ma : Env → M IV} (ha : SE X W a ta ma) (he : ∀ whole, isTrue a X.env whole = (do let v ← whole; standAt a.pos; holding [v] (truthy v)) := by intro _; rfl) (hK : X.K = K := by rfl) :
    ST X W a (fun σ H Q => ta σ H fun x H1 => ∃ k, TruV K x H1 k ∧ Q k H1) (tTru ma) := by subst hK; exact st_truth ha he
theorem se_isiK {T : String} {x : Str} {a : Expr} {ta : TE} {ma : Env → M IV} {p p2 pos : Pos} (hm : X.mg "isinstance" = none) (hm2 : X.mg x = none) (ha : SE X W a ta ma) (hv2 : bootBuiltins x = some (.type T) := by decide +kernel) (hg : Gl X "isinstance" := by rfl)
    (pb : PE X (.Name x p2) (tC (.ty T))) (pe : PE X (.Name x p2) (tC (.ty T)) → PE X a ta → PE X (.Call (.Name "isinstance" p) [a, .Name x p2] [] pos) (tCB (rIsi X.K) (tCons ta (tCons (tC (.ty T)) tNil)))) (hK : X.K = K := by rfl) :
    SE X W (.Call (.Name "isinstance" p) [a, .Name x p2] [] pos) (tCB (rIsi K) (tCons ta (tCons (tC (.ty T)) tNil))) (eUn (isiO T) ma) := by subst hK; exact se_isi hg hm hm2 hv2 ha (.ty _) pb pe
theorem se_MK {T id : String} {name : Str} {r : V → List V → Hp → VK → Prop} {o : IV → List IV → IH → Option (IV × IH)} {b e : Expr} {es : List Expr} {te : TE} {t : TA} {me : Env → M IV} {m : Env → M (List IV)} {apos cpos : Pos} (hm : SMt X id r o) (he : SE X W b te me) (ha : SA X W (e :: es) t m)
    (pe : MtR X id r → PE X b te → PA X (e :: es) t → PE X (.Call (.Attribute b name apos) (e :: es) [] cpos) (tBM X.K T r te t)) (hK : X.K = K := by rfl) : SE X W (.Call (.Attribute b name apos) (e :: es) [] cpos) (tBM K T r te t) (eM T o me m) := by subst hK; exact se_M hm he ha pe
theorem se_M0K {T id : String} {name : Str} {r : V → List V → Hp → VK → Prop} {o : IV → List IV → IH → Option (IV × IH)} {b : Expr} {te : TE} {me : Env → M IV} {apos cpos : Pos} (hm : SMt X id r o) (he : SE X W b te me)
    (pe : MtR X id r → PE X b te → PE X (.Call (.Attribute b name apos) [] [] cpos) (tBM0 X.K T r te)) (hK : X.K = K := by rfl) : SE X W (.Call (.Attribute b name apos) [] [] cpos) (tBM0 K T r te) (eM T o me aNil) := by subst hK; exact se_M0 hm he pe
def iSeqT (K : PySem.W.Frag) (te : TE) : TI := fun σ H R => iList K te σ H R ∨ iTup K te σ H R ∨ iStr te σ H R
theorem si_seqK {tg e : Expr} {te : TE} {m : Env → M IV} (he : SE X W e te m) (hK : X.K = K := by rfl) : SI X W tg e (iSeqT K te) (iSeq m) := by subst hK; exact si_seq he
theorem sg_tupK {es : List Expr} {k : Nat} {t : TGs} {m : MGs} {pos : Pos} (hc : X.calm = true) (h : SGs X es t m) (pe : PG X (.Tuple es k pos) (gTup X.K es.length t)) (hK : X.K = K := by rfl) : SG X (.Tuple es k pos) (gTup K es.length t) (gT es.length m) := by subst hK; exact sg_tup hc h pe
end
theorem se_callDK {X : Cx} {W : WX} {P : Program} {w : World} {K : PySem.W.Frag} {mg : Str → Option Value} {base : Heap} {j k : Nat} {ps : List Str} {G : Fn} {x : Str} {e : Expr} {es : List Expr} {t : TA} {m : Env → M (List IV)} {p pos : Pos} (D : Df P w K mg base x j ps G) (hr : Room k X.A) (tk : Takes X W) (ha : SA X W (e :: es) t m)
    (al : ∀ env h xs h', m env h = some (.ok xs, h') → xs.length = (e :: es).length) (hl : ps.length = (e :: es).length := by rfl) (hj : j ≤ k := by decide) (hg : Gl X x := by rfl)
    (hdb : (x == ("__debug__" : Str)) = false := by decide) (he : starEach (e :: es) X.env = (false, eval e X.env) :: starEach es X.env := by rfl) (hpl : (backTo pos (starEach es X.env)).any (·.1) = false := by rfl)
    (h1 : X.prog = P := by rfl) (h2 : X.w = w := by rfl) (h3 : X.K = K := by rfl) (h4 : X.mg = mg := by rfl) (h5 : X.base = base := by rfl) :
    SE X W (.Call (.Name x p) (e :: es) [] pos) (tCallS (spM K mg ps.length G) (WE W) t) (eCall G m) := by
  subst h1 h2 h3 h4 h5
  exact se_callD D hr tk ha al hl hj hg hdb he hpl
theorem se_callD0K {X : Cx} {W : WX} {P : Program} {w : World} {K : PySem.W.Frag} {mg : Str → Option Value} {base : Heap} {j k : Nat} {G : Fn} {x : Str} {p pos : Pos} (D : Df P w K mg base x j [] G) (hr : Room k X.A) (hj : j ≤ k := by decide) (hg : Gl X x := by rfl) (hdb : (x == ("__debug__" : Str)) = false := by decide)
    (h1 : X.prog = P := by rfl) (h2 : X.w = w := by rfl) (h3 : X.K = K := by rfl) (h4 : X.mg = mg := by rfl) (h5 : X.base = base := by rfl) :
    SE X W (.Call (.Name x p) [] [] pos) (tCall (spM K mg 0 G) [] E0 tNil) (eCall0 G) := by
  subst h1 h2 h3 h4 h5
  exact se_callD0 D hr hj hg hdb
end L2.Sh

namespace L2.Sh
open PySem PySem.Spec PyProof.Rows L2
/-! ### the plain side: what holds behind -/
def WE {α : Type} (r : Res α) (Q : α → IH → Prop) : Prop := match r with
  | some (.ok a, h) => Q a h
  | _ => False
def WO {α : Type} (r : Option (α × IH)) (Q : α → IH → Prop) : Prop := match r with
  | some (a, h) => Q a h
  | none => False
def WS (r : Option (Flw × IH)) (N : Env → IH → Prop) (R : IV → IH → Prop) (B C : Env → IH → Prop) : Prop := match r with
  | some (.nx e, h) => N e h
  | some (.rt v, h) => R v h
  | some (.bk e, h) => B e h
  | some (.ct e, h) => C e h
  | _ => False
theorem FU_gt {n k : Nat} (h : n < 2 ^ k) (hk : k ≤ 2097152 := by omega) : n < FU := by
  unfold FU
  exact Nat.lt_of_lt_of_le h (Nat.pow_le_pow_right (by decide) hk)
theorem FU_lt64 {n : Nat} (h : n < 18446744073709551616) : n < FU := FU_gt (k := 64) (by simpa using h)
section
variable {α β γ : Type} {Q : α → IH → Prop} {N B C : Env → IH → Prop} {R : IV → IH → Prop} {env : Env} {h : IH}
theorem WE.mono {r : Res α} {Q' : α → IH → Prop} (w : WE r Q) (f : ∀ a h, Q a h → Q' a h) : WE r Q' := by
  match r, w with
  | some (.ok a, h), w => exact f a h w
theorem WO.mono {r : Option (α × IH)} {Q' : α → IH → Prop} (w : WO r Q) (f : ∀ a h, Q a h → Q' a h) : WO r Q' := by
  match r, w with
  | some (a, h), w => exact f a h w
theorem WS.mono {r : Option (Flw × IH)} {N' B' C' : Env → IH → Prop} {R' : IV → IH → Prop} (w : WS r N R B C) (f : ∀ a h, N a h → N' a h) (fr : ∀ a h, R a h → R' a h) (fb : ∀ a h, B a h → B' a h) (fc : ∀ a h, C a h → C' a h) : WS r N' R' B' C' := by
  match r, w with
  | some (.nx e, h), w => exact f e h w
  | some (.rt e, h), w => exact fr e h w
  | some (.bk e, h), w => exact fb e h w
  | some (.ct e, h), w => exact fc e h w
theorem WE.eq {r : Res α} {a : α} {h' : IH} (w : WE r fun b h1 => b = a ∧ h1 = h') : r = some (.ok a, h') := by
  match r, w with
  | some (.ok b, h), w => obtain ⟨rfl, rfl⟩ := w; rfl
theorem WE.out {r : Res α} (w : WE r Q) : ∃ a h', r = some (.ok a, h') ∧ Q a h' := by
  match r, w with
  | some (.ok b, h), w => exact ⟨b, h, rfl, w⟩
@[simp] theorem WE_ok {a : α} : WE (some (.ok a, h)) Q ↔ Q a h := Iff.rfl
@[simp] theorem WE_none : WE (none : Res α) Q ↔ False := Iff.rfl
@[simp] theorem WE_err {x : Exc} : WE (some (.error x, h) : Res α) Q ↔ False := Iff.rfl
@[simp] theorem WO_some {a : α} : WO (some (a, h)) Q ↔ Q a h := Iff.rfl
@[simp] theorem WO_none : WO (none : Option (α × IH)) Q ↔ False := Iff.rfl
@[simp] theorem WE_bnd {m : M β} {f : β → M α} : WE (bnd m f h) Q ↔ WE (m h) fun a h' => WE (f a h') Q := by
  unfold bnd WE
  cases m h with
  | none => exact Iff.rfl
  | some z => obtain ⟨z, h'⟩ := z; cases z <;> exact Iff.rfl
@[simp] theorem WE_nox {m : M α} : WE (nox m h) Q ↔ WE (m h) Q := by
  unfold nox WE
  cases m h with
  | none => exact Iff.rfl
  | some z => obtain ⟨z, h'⟩ := z; cases z <;> exact Iff.rfl
@[simp] theorem WE_lift {f : IH → Option (α × IH)} : WE (lift f h) Q ↔ WO (f h) Q := by
  unfold lift WE WO
  cases f h with
  | none => exact Iff.rfl
  | some z => exact Iff.rfl
@[simp] theorem WE_ite {c : Prop} [Decidable c] {a b : Res α} : WE (if c then a else b) Q ↔ if c then WE a Q else WE b Q := by split <;> exact Iff.rfl
@[simp] theorem WO_ite {c : Prop} [Decidable c] {a b : Option (α × IH)} : WO (if c then a else b) Q ↔ if c then WO a Q else WO b Q := by split <;> exact Iff.rfl
theorem WE_eVar' {i : Nat} {x : IV} {Q : IV → IH → Prop} (e : env[i]? = some (some x)) : WE (eVar i env h) Q ↔ Q x h := by
  unfold eVar
  rw [e]
  exact Iff.rfl
@[simp] theorem eVar_at {i : Nat} {Q : IV → IH → Prop} : WE (eVar i env h) Q ↔ match env[i]? with | some (some x) => Q x h | _ => False := by
  unfold eVar
  cases env[i]? with
  | none => exact Iff.rfl
  | some z => cases z <;> exact Iff.rfl
@[simp] theorem WE_eC {x : IV} {Q : IV → IH → Prop} : WE (eC x env h) Q ↔ Q x h := Iff.rfl
@[simp] theorem WE_eOp {o : O2} {a b : Env → M IV} {Q : IV → IH → Prop} : WE (eOp o a b env h) Q ↔ WE (a env h) fun x h1 => WE (b env h1) fun y h2 => WO (o x y h2) Q := by simp only [eOp, WE_bnd, WE_lift]
@[simp] theorem WE_eUn {o : IV → IH → Option (IV × IH)} {a : Env → M IV} {Q : IV → IH → Prop} : WE (eUn o a env h) Q ↔ WE (a env h) fun x h1 => WO (o x h1) Q := by simp only [eUn, WE_bnd, WE_lift]
@[simp] theorem WE_aNil {Q : List IV → IH → Prop} : WE (aNil env h) Q ↔ Q [] h := Iff.rfl
@[simp] theorem WE_aCons {a : Env → M IV} {b : Env → M (List IV)} {Q : List IV → IH → Prop} : WE (aCons a b env h) Q ↔ WE (a env h) fun x h1 => WE (b env h1) fun xs h2 => Q (x :: xs) h2 := by simp only [aCons, WE_bnd, WE_ok]
@[simp] theorem WE_eTup {a : Env → M (List IV)} {Q : IV → IH → Prop} : WE (eTup a env h) Q ↔ WE (a env h) fun xs h1 => if xs.length ≤ 16777216 then Q (.tup xs) h1 else False := by simp only [eTup, WE_bnd, WE_ite, WE_ok, WE_none]
@[simp] theorem WE_eLst {a : Env → M (List IV)} {Q : IV → IH → Prop} : WE (eLst a env h) Q ↔ WE (a env h) fun xs h1 => if xs.length ≤ 16777216 then Q (.ref h1.length) (h1 ++ [.lst xs]) else False := by simp only [eLst, WE_bnd, WE_ite, WE_ok, WE_none]
@[simp] theorem WE_eCB {o : List IV → IH → Option (IV × IH)} {a : Env → M (List IV)} {Q : IV → IH → Prop} : WE (eCB o a env h) Q ↔ WE (a env h) fun xs h1 => WO (o xs h1) Q := by simp only [eCB, WE_bnd, WE_lift]
@[simp] theorem WE_eCall {F : Fn} {a : Env → M (List IV)} {Q : IV → IH → Prop} : WE (eCall F a env h) Q ↔ WE (a env h) fun xs h1 => WE (F xs h1) Q := by simp only [eCall, WE_bnd]
@[simp] theorem WE_eCall0 {F : Fn} {Q : IV → IH → Prop} : WE (eCall0 F env h) Q ↔ WE (F [] h) Q := by simp only [eCall0, WE_nox]
@[simp] theorem WE_eM {T : String} {o : IV → List IV → IH → Option (IV × IH)} {m : Env → M IV} {a : Env → M (List IV)} {Q : IV → IH → Prop} : WE (eM T o m a env h) Q ↔ WE (m env h) fun x h1 => if tyI T h1 x = true then WE (a env h1) fun xs h2 => WO (o x xs h2) Q else False := by
  simp only [eM, WE_bnd]
  constructor <;> intro w <;> refine w.mono fun x h1 q => ?_ <;> revert q <;> split <;> intro q <;> first | exact q | (simpa using q)
@[simp] theorem WE_tyB {a : Env → M IV} {Q : Bool → IH → Prop} : WE (tyB a env h) Q ↔ WE (a env h) fun x h1 => match x with | .bl b => Q b h1 | _ => False := by
  simp only [tyB, WE_bnd]
  constructor <;> intro w <;> refine w.mono fun x h1 q => ?_ <;> cases x <;> exact q
@[simp] theorem WE_tTru {a : Env → M IV} {Q : Bool → IH → Prop} : WE (tTru a env h) Q ↔ WE (a env h) fun x h1 => WO (truO x h1) Q := by simp only [tTru, WE_bnd, WE_lift]
@[simp] theorem WE_tAndM {a b : Env → M Bool} {Q : Bool → IH → Prop} : WE (tAndM a b env h) Q ↔ WE (a env h) fun c h1 => if c = true then WE (b env h1) Q else Q false h1 := by
  simp only [tAndM, WE_bnd]
  constructor <;> intro w <;> refine w.mono fun x h1 q => ?_ <;> cases x <;> exact q
@[simp] theorem WE_tOrM {a b : Env → M Bool} {Q : Bool → IH → Prop} : WE (tOrM a b env h) Q ↔ WE (a env h) fun c h1 => if c = true then Q true h1 else WE (b env h1) Q := by
  simp only [tOrM, WE_bnd]
  constructor <;> intro w <;> refine w.mono fun x h1 q => ?_ <;> cases x <;> exact q
@[simp] theorem WE_tNotM {a : Env → M Bool} {Q : Bool → IH → Prop} : WE (tNotM a env h) Q ↔ WE (a env h) fun c h1 => Q (!c) h1 := by simp only [tNotM, WE_bnd, WE_ok]
@[simp] theorem WE_eAnd {a b : Env → M IV} {Q : IV → IH → Prop} : WE (eAnd a b env h) Q ↔ WE (a env h) fun x h1 => match x with | .bl c => if c = true then WE (b env h1) Q else Q (.bl false) h1 | _ => False := by
  simp only [eAnd, WE_bnd, WE_tyB]
  constructor <;> intro w <;> refine w.mono fun x h1 q => ?_ <;> cases x <;> first | exact q | (rename_i c; cases c <;> exact q)
@[simp] theorem WE_eOr {a b : Env → M IV} {Q : IV → IH → Prop} : WE (eOr a b env h) Q ↔ WE (a env h) fun x h1 => match x with | .bl c => if c = true then Q (.bl true) h1 else WE (b env h1) Q | _ => False := by
  simp only [eOr, WE_bnd, WE_tyB]
  constructor <;> intro w <;> refine w.mono fun x h1 q => ?_ <;> cases x <;> first | exact q | (rename_i c; cases c <;> exact q)
@[simp] theorem WE_eNot {a : Env → M IV} {Q : IV → IH → Prop} : WE (eNot a env h) Q ↔ WE (a env h) fun x h1 => match x with | .bl c => Q (.bl (!c)) h1 | _ => False := by
  simp only [eNot, WE_bnd, WE_tyB, WE_ok]
@[simp] theorem WE_eIf {c : Env → M Bool} {a b : Env → M IV} {Q : IV → IH → Prop} : WE (eIf c a b env h) Q ↔ WE (c env h) fun k h1 => if k = true then WE (a env h1) Q else WE (b env h1) Q := by
  simp only [eIf, WE_bnd]
  constructor <;> intro w <;> refine w.mono fun x h1 q => ?_ <;> cases x <;> exact q
@[simp] theorem WE_eChain {o o' : O2} {a b c : Env → M IV} {Q : IV → IH → Prop} : WE (eChain o o' a b c env h) Q ↔ WE (a env h) fun x h1 => WE (b env h1) fun y h2 => WO (o x y h2) fun z h3 => match z with | .bl k => if k = true then WE (c env h3) fun w h4 => WO (o' y w h4) Q else Q (.bl false) h3 | _ => False := by
  simp only [eChain, WE_bnd, WE_lift]
  constructor <;> intro w <;> refine w.mono fun x h1 q => ?_ <;> refine q.mono fun y h2 q => ?_ <;> refine q.mono fun z h3 q => ?_ <;> cases z <;> first | exact q | (rename_i k; cases k <;> first | exact q | (simp only [WE_bnd, WE_lift, if_pos] at q ⊢; exact q))
@[simp] theorem WE_slice {f : Option Int → Option Int → IV → IH → Option (IV × IH)} {a : Env → M IV} {lo hi : Env → M (Option Int)} {Q : IV → IH → Prop} : WE (sliceQ f a lo hi env h) Q ↔ WE (a env h) fun x h1 => WE (lo env h1) fun l h2 => WE (hi env h2) fun u h3 => WO (f l u x h3) Q := by simp only [sliceQ, WE_bnd, WE_lift]
@[simp] theorem WE_oN {Q : Option Int → IH → Prop} : WE (oN env h) Q ↔ Q none h := Iff.rfl
@[simp] theorem WE_oS {a : Env → M IV} {Q : Option Int → IH → Prop} : WE (oS a env h) Q ↔ WE (a env h) fun x h1 => match x with | .int i => Q (some i) h1 | _ => False := by
  simp only [oS, WE_bnd]
  constructor <;> intro w <;> refine w.mono fun x h1 q => ?_ <;> cases x <;> exact q
/-! statements -/
@[simp] theorem WS_nx {e : Env} : WS (some (.nx e, h)) N R B C ↔ N e h := Iff.rfl
@[simp] theorem WS_rt {v : IV} : WS (some (.rt v, h)) N R B C ↔ R v h := Iff.rfl
@[simp] theorem WS_none : WS none N R B C ↔ False := Iff.rfl
@[simp] theorem WS_sNil : WS (sNil env h) N R B C ↔ N env h := Iff.rfl
@[simp] theorem WS_sNever : WS (sNever env h) N R B C ↔ False := Iff.rfl
@[simp] theorem WS_sBreak : WS (sBreak env h) N R B C ↔ B env h := Iff.rfl
@[simp] theorem WS_sCont : WS (sCont env h) N R B C ↔ C env h := Iff.rfl
@[simp] theorem WS_sRetN : WS (sRetN env h) N R B C ↔ R .non h := Iff.rfl
@[simp] theorem WS_sSeq {a b : MS} : WS (sSeq a b env h) N R B C ↔ WS (a env h) (fun e h' => WS (b e h') N R B C) R B C := by
  unfold sSeq
  cases a env h with
  | none => exact Iff.rfl
  | some z => obtain ⟨z, h'⟩ := z; cases z <;> exact Iff.rfl
@[simp] theorem WS_bndS {m : Env → M α} {f : α → MS} : WS (bndS m f env h) N R B C ↔ WE (m env h) fun a h' => WS (f a env h') N R B C := by
  unfold bndS
  cases m env h with
  | none => exact Iff.rfl
  | some z => obtain ⟨z, h'⟩ := z; cases z <;> exact Iff.rfl
@[simp] theorem WS_sAsg {i : Nat} {m : Env → M IV} : WS (sAsg i m env h) N R B C ↔ WE (m env h) fun x h' => N (env.set i (some x)) h' := by simp only [sAsg, WS_bndS, WS_nx]
@[simp] theorem WS_sRet {m : Env → M IV} : WS (sRet m env h) N R B C ↔ WE (m env h) fun x h' => R x h' := by simp only [sRet, WS_bndS, WS_rt]
@[simp] theorem WS_sExp {m : Env → M IV} : WS (sExp m env h) N R B C ↔ WE (m env h) fun x h' => N env h' := by simp only [sExp, WS_bndS, WS_nx]
@[simp] theorem WS_sIf {c : Env → M Bool} {a b : MS} : WS (sIf c a b env h) N R B C ↔ WE (c env h) fun k h' => if k = true then WS (a env h') N R B C else WS (b env h') N R B C := by
  simp only [sIf, WS_bndS]
  constructor <;> intro w <;> refine w.mono fun x h1 q => ?_ <;> cases x <;> exact q
@[simp] theorem WS_sPar {i j : Nat} {m : Env → M (List IV)} : WS (sPar i j m env h) N R B C ↔ WE (m env h) fun xs h' => match xs with | [x, y] => N ((env.set i (some x)).set j (some y)) h' | _ => False := by
  simp only [sPar, WS_bndS]
  constructor <;> intro w <;> refine w.mono fun x h1 q => ?_ <;> split at q <;> first | exact q | exact q.elim
@[simp] theorem WS_sAsgG {m : Env → M IV} {k : MG} : WS (sAsgG m k env h) N R B C ↔ WE (m env h) fun x h' => match k x env h' with | some e => N e h' | none => False := by
  simp only [sAsgG, WS_bndS]
  constructor <;> intro w <;> refine w.mono fun x h1 q => ?_ <;> split at q <;> simp_all
@[simp] theorem WS_sSub {put : IV → IV → IV → IH → Option IH} {o i e : Env → M IV} : WS (sSub put o i e env h) N R B C ↔ WE (e env h) fun x h1 => WE (o env h1) fun y h2 => WE (i env h2) fun z h3 => match put y z x h3 with | some h' => N env h' | none => False := by
  simp only [sSub, WS_bndS]
  constructor <;> intro w <;> refine w.mono fun x h1 q => ?_ <;> refine q.mono fun x h1 q => ?_ <;> refine q.mono fun x h1 q => ?_ <;> split at q <;> simp_all
@[simp] theorem WE_runF {n : Nat} {b : MS} {xs : List IV} {Q : IV → IH → Prop} : WE (runF n b xs h) Q ↔ WS (b (xs.map some ++ List.replicate (n - xs.length) none) h) (fun _ h' => Q .non h') Q (fun _ _ => False) (fun _ _ => False) := by
  unfold runF
  cases b (xs.map some ++ List.replicate (n - xs.length) none) h with
  | none => exact Iff.rfl
  | some z => obtain ⟨z, h'⟩ := z; cases z <;> exact Iff.rfl
theorem WS_while {c : Env → M Bool} {b : MS} (I : Env → IH → Prop) (μ : Env → IH → Nat) (hI : ∀ env h, I env h → WE (c env h) fun k h' => if k = true then WS (b env h') (fun e1 h1 => I e1 h1 ∧ μ e1 h1 < μ env h) R N (fun e1 h1 => I e1 h1 ∧ μ e1 h1 < μ env h) else N env h') :
    ∀ (n : Nat) (env : Env) (h : IH), I env h → μ env h < n → WS (whileN c b n env h) N R B C
  | 0, env, h, _, hm => absurd hm (Nat.not_lt_zero _)
  | n + 1, env, h, i, hm => by
    unfold whileN
    rw [WS_bndS]
    refine (hI env h i).mono fun k h' q => ?_
    cases k with
    | false => exact q
    | true =>
      simp only [if_pos] at q ⊢
      cases hb : b env h' with
      | none => rw [hb] at q; exact q
      | some z =>
        obtain ⟨z, h1⟩ := z
        rw [hb] at q
        cases z with
        | nx e1 => exact WS_while I μ hI n e1 h1 q.1 (Nat.lt_of_lt_of_le q.2 (Nat.le_of_lt_succ hm))
        | ct e1 => exact WS_while I μ hI n e1 h1 q.1 (Nat.lt_of_lt_of_le q.2 (Nat.le_of_lt_succ hm))
        | bk e1 => exact q
        | rt v => exact q
        | ex x e1 => exact q
/-- a loop over what is walked: k items -/
theorem WS_for {it : IIt} {g : MG} {b : MS} (k : Nat) (I : Nat → Env → IH → Prop)
    (hs : ∀ i env h, i < k → I i env h → ∃ x, it.nxt i h = some (some x) ∧ ∃ e1, g x env h = some e1 ∧ WS (b e1 h) (I (i + 1)) R N (I (i + 1)))
    (hd : ∀ env h, I k env h → it.nxt k h = some none ∧ N env h) : ∀ (n i : Nat) (env : Env) (h : IH), i ≤ k → I i env h → k - i < n → WS (forLoop it g b n i env h) N R B C
  | 0, _, _, _, _, _, hm => absurd hm (Nat.not_lt_zero _)
  | n + 1, i, env, h, hi, iv, hm => by
    unfold forLoop
    by_cases hk : i < k
    · obtain ⟨x, e, e1, eg, w⟩ := hs i env h hk iv
      rw [e]
      simp only []
      rw [eg]
      simp only []
      cases hb : b e1 h with
      | none => rw [hb] at w; exact w
      | some z =>
        obtain ⟨z, h1⟩ := z
        rw [hb] at w
        cases z with
        | nx e2 => exact WS_for k I hs hd n (i + 1) e2 h1 hk w (by omega)
        | ct e2 => exact WS_for k I hs hd n (i + 1) e2 h1 hk w (by omega)
        | bk e1 => exact w
        | rt v => exact w
        | ex x e1 => exact w
    · have ek : i = k := by omega
      subst ek
      obtain ⟨e, q⟩ := hd env h iv
      rw [e]
      exact q
@[simp] theorem WS_sFor {n : Nat} {mi : Env → M IIt} {g : MG} {b : MS} : WS (sFor n mi g b env h) N R B C ↔ WE (mi env h) fun it h' => WS (forLoop it g b n 0 env h') N R B C := by simp only [sFor, WS_bndS]
theorem WE_comp {it : IIt} {g : MG} {c : Env → M Bool} {b : Env → M IV} {n0 : Nat} {Q : IV → IH → Prop} (k : Nat) (I : Nat → IH → Prop)
    (hs : ∀ i h, i < k → I i h → ∃ x, it.nxt i h = some (some x) ∧ ∃ e1, g x env h = some e1 ∧ WE (c e1 h) fun t h1 => if t = true then WE (b e1 h1) fun y h2 => ∃ acc, h2[n0]? = some (.lst acc) ∧ acc.length < 16777216 ∧ I (i + 1) (h2.set n0 (.lst (acc ++ [y]))) else I (i + 1) h1)
    (hd : ∀ h, I k h → it.nxt k h = some none ∧ Q (.ref n0) h) : ∀ (n i : Nat) (h : IH), i ≤ k → I i h → k - i < n → WE (compLoop it g c b env n0 n i h) Q
  | 0, _, _, _, _, hm => absurd hm (Nat.not_lt_zero _)
  | n + 1, i, h, hi, iv, hm => by
    unfold compLoop
    by_cases hk : i < k
    · obtain ⟨x, e, e1, eg, w⟩ := hs i h hk iv
      rw [e]
      simp only []
      rw [eg]
      simp only [WE_bnd, WE_nox]
      refine w.mono fun t h1 q => ?_
      cases t with
      | false => exact WE_comp k I hs hd n (i + 1) h1 hk q (by omega)
      | true =>
        simp only [if_pos, WE_bnd, WE_nox] at q ⊢
        refine q.mono fun y h2 z => ?_
        obtain ⟨acc, ea, el, ei⟩ := z
        rw [ea]
        simp only [if_pos el]
        exact WE_comp k I hs hd n (i + 1) _ hk ei (by omega)
    · have ek : i = k := by omega
      subst ek
      obtain ⟨e, q⟩ := hd h iv
      rw [e]
      exact q
@[simp] theorem WE_eComp {vs : List Nat} {n : Nat} {mi : Env → M IIt} {g : MG} {c : Env → M Bool} {b : Env → M IV} {Q : IV → IH → Prop} : WE (eComp vs n mi g c b env h) Q ↔ WE (mi env h) fun it h' => WE (compLoop it g c b (wipeE env vs) h'.length n 0 (h' ++ [.lst []])) Q := by simp only [eComp, WE_bnd]
@[simp] theorem WE_cYes {Q : Bool → IH → Prop} : WE (cYes env h) Q ↔ Q true h := Iff.rfl
@[simp] theorem WE_iR1 {m : Env → M (List IV)} {Q : IIt → IH → Prop} : WE (iR1 m env h) Q ↔ WE (m env h) fun xs h' => match xs with | [.int j] => if -(2 ^ 62) ≤ j ∧ j < 2 ^ 62 then Q (rngIt 0 j.toNat) h' else False | _ => False := by
  simp only [iR1, WE_bnd]
  constructor <;> intro w <;> refine w.mono fun x h1 q => ?_ <;> split at q <;> first | exact q | exact q.elim | (simpa only [WE_ite, WE_ok, WE_none] using q)
@[simp] theorem WE_iR2 {m : Env → M (List IV)} {Q : IIt → IH → Prop} : WE (iR2 m env h) Q ↔ WE (m env h) fun xs h' => match xs with | [.int i, .int j] => if -(2 ^ 62) ≤ i ∧ i < 2 ^ 62 ∧ -(2 ^ 62) ≤ j ∧ j < 2 ^ 62 then Q (rngIt i (j - i).toNat) h' else False | _ => False := by
  simp only [iR2, WE_bnd]
  constructor <;> intro w <;> refine w.mono fun x h1 q => ?_ <;> split at q <;> first | exact q | exact q.elim | (simpa only [WE_ite, WE_ok, WE_none] using q)
@[simp] theorem WE_iSeq {m : Env → M IV} {Q : IIt → IH → Prop} : WE (iSeq m env h) Q ↔ WE (m env h) fun x h' => match seqIt x h' with | some it => Q it h' | none => False := by
  simp only [iSeq, WE_bnd]
  constructor <;> intro w <;> refine w.mono fun x h1 q => ?_ <;> split at q <;> simp_all
end
/-! operators on what is known -/
section
variable {h : IH} {i j : Int}
@[simp] theorem addO_int : addO (.int i) (.int j) h = some (.int (i + j), h) := rfl
@[simp] theorem subI_int : subI (.int i) (.int j) h = some (.int (i - j), h) := rfl
@[simp] theorem mulI_int : mulI (.int i) (.int j) h = if i.natAbs.log2 + j.natAbs.log2 < 1000000 then some (.int (i * j), h) else none := rfl
@[simp] theorem divI_int : divI (.int i) (.int j) h = if j ≠ 0 ∧ j.natAbs.log2 < 9000 then some (.int (i.fdiv j), h) else none := rfl
@[simp] theorem modI_int : modI (.int i) (.int j) h = if j ≠ 0 then some (.int (i.fmod j), h) else none := rfl
@[simp] theorem powI_int : powI (.int i) (.int j) h = if 0 ≤ j ∧ j ≤ 1000000 ∧ i.natAbs < 2 ^ 64 then some (.int (i ^ j.toNat), h) else none := rfl
@[simp] theorem cmpI_int {p : Int → Int → Bool} : cmpI p (.int i) (.int j) h = some (.bl (p i j), h) := rfl
@[simp] theorem eqO_int : eqO (.int i) (.int j) h = some (.bl (decide (i = j)), h) := rfl
@[simp] theorem neO_int : neO (.int i) (.int j) h = some (.bl (!decide (i = j)), h) := rfl
@[simp] theorem eqO_str {x y : Str} : eqO (.str x) (.str y) h = some (.bl (decide (x = y)), h) := rfl
@[simp] theorem neO_str {x y : Str} : neO (.str x) (.str y) h = some (.bl (!decide (x = y)), h) := rfl
@[simp] theorem eqO_bl {x y : Bool} : eqO (.bl x) (.bl y) h = some (.bl (decide (x = y)), h) := rfl
@[simp] theorem neO_bl {x y : Bool} : neO (.bl x) (.bl y) h = some (.bl (!decide (x = y)), h) := rfl
@[simp] theorem absO_int : absO [.int i] h = some (.int (if i < 0 then -i else i), h) := rfl
@[simp] theorem negO_int : negO (.int i) h = some (.int (-i), h) := rfl
@[simp] theorem isN_non {f : Bool → Bool} : isNO f .non .non h = some (.bl (f true), h) := rfl
@[simp] theorem isN_int {g : Bool → Bool} : isNO g (.int i) .non h = some (.bl (g false), h) := rfl
@[simp] theorem isN_bl {g : Bool → Bool} {b : Bool} : isNO g (.bl b) .non h = some (.bl (g false), h) := rfl
@[simp] theorem isN_str {g : Bool → Bool} {x : Str} : isNO g (.str x) .non h = some (.bl (g false), h) := rfl
@[simp] theorem isN_tup {g : Bool → Bool} {xs : List IV} : isNO g (.tup xs) .non h = some (.bl (g false), h) := rfl
@[simp] theorem isN_ref {g : Bool → Bool} {n : Nat} : isNO g (.ref n) .non h = some (.bl (g false), h) := rfl
@[simp] theorem isN_scr {g : Bool → Bool} {ns : List Int} : isNO g (.scr ns) .non h = some (.bl (g false), h) := rfl
@[simp] theorem isN_exc {g : Bool → Bool} {n f : Str} {v : List IV} : isNO g (.exc n f v) .non h = some (.bl (g false), h) := rfl
@[simp] theorem truO_bl {b : Bool} : truO (.bl b) h = some (b, h) := rfl
theorem isiO_of {T n : String} {b : Bool} {x : IV} (e1 : tyN h x = some n) (e2 : kitB n T = some b) : isiO T x h = some (.bl b, h) := by simp only [isiO, e1, e2]
@[simp] theorem isi_non_int : isiO "int" .non h = some (.bl false, h) := isiO_of rfl (by decide +kernel)
@[simp] theorem isi_bl_int {b : Bool} : isiO "int" (.bl b) h = some (.bl true, h) := isiO_of rfl (by decide +kernel)
@[simp] theorem isi_int_int : isiO "int" (.int i) h = some (.bl true, h) := isiO_of rfl (by decide +kernel)
@[simp] theorem isi_str_int {x : Str} : isiO "int" (.str x) h = some (.bl false, h) := isiO_of rfl (by decide +kernel)
@[simp] theorem isi_tup_int {xs : List IV} : isiO "int" (.tup xs) h = some (.bl false, h) := isiO_of rfl (by decide +kernel)
@[simp] theorem isi_non_bool : isiO "bool" .non h = some (.bl false, h) := isiO_of rfl (by decide +kernel)
@[simp] theorem isi_bl_bool {b : Bool} : isiO "bool" (.bl b) h = some (.bl true, h) := isiO_of rfl (by decide +kernel)
@[simp] theorem isi_int_bool : isiO "bool" (.int i) h = some (.bl false, h) := isiO_of rfl (by decide +kernel)
@[simp] theorem isi_str_bool {x : Str} : isiO "bool" (.str x) h = some (.bl false, h) := isiO_of rfl (by decide +kernel)
@[simp] theorem isi_tup_bool {xs : List IV} : isiO "bool" (.tup xs) h = some (.bl false, h) := isiO_of rfl (by decide +kernel)
@[simp] theorem isi_non_str : isiO "str" .non h = some (.bl false, h) := isiO_of rfl (by decide +kernel)
@[simp] theorem isi_bl_str {b : Bool} : isiO "str" (.bl b) h = some (.bl false, h) := isiO_of rfl (by decide +kernel)
@[simp] theorem isi_int_str : isiO "str" (.int i) h = some (.bl false, h) := isiO_of rfl (by decide +kernel)
@[simp] theorem isi_str_str {x : Str} : isiO "str" (.str x) h = some (.bl true, h) := isiO_of rfl (by decide +kernel)
@[simp] theorem isi_tup_str {xs : List IV} : isiO "str" (.tup xs) h = some (.bl false, h) := isiO_of rfl (by decide +kernel)
@[simp] theorem isi_non_tuple : isiO "tuple" .non h = some (.bl false, h) := isiO_of rfl (by decide +kernel)
@[simp] theorem isi_bl_tuple {b : Bool} : isiO "tuple" (.bl b) h = some (.bl false, h) := isiO_of rfl (by decide +kernel)
@[simp] theorem isi_int_tuple : isiO "tuple" (.int i) h = some (.bl false, h) := isiO_of rfl (by decide +kernel)
@[simp] theorem isi_str_tuple {x : Str} : isiO "tuple" (.str x) h = some (.bl false, h) := isiO_of rfl (by decide +kernel)
@[simp] theorem isi_tup_tuple {xs : List IV} : isiO "tuple" (.tup xs) h = some (.bl true, h) := isiO_of rfl (by decide +kernel)
@[simp] theorem isi_non_list : isiO "list" .non h = some (.bl false, h) := isiO_of rfl (by decide +kernel)
@[simp] theorem isi_bl_list {b : Bool} : isiO "list" (.bl b) h = some (.bl false, h) := isiO_of rfl (by decide +kernel)
@[simp] theorem isi_int_list : isiO "list" (.int i) h = some (.bl false, h) := isiO_of rfl (by decide +kernel)
@[simp] theorem isi_str_list {x : Str} : isiO "list" (.str x) h = some (.bl false, h) := isiO_of rfl (by decide +kernel)
@[simp] theorem isi_tup_list {xs : List IV} : isiO "list" (.tup xs) h = some (.bl false, h) := isiO_of rfl (by decide +kernel)
@[simp] theorem isi_non_dict : isiO "dict" .non h = some (.bl false, h) := isiO_of rfl (by decide +kernel)
@[simp] theorem isi_bl_dict {b : Bool} : isiO "dict" (.bl b) h = some (.bl false, h) := isiO_of rfl (by decide +kernel)
@[simp] theorem isi_int_dict : isiO "dict" (.int i) h = some (.bl false, h) := isiO_of rfl (by decide +kernel)
@[simp] theorem isi_str_dict {x : Str} : isiO "dict" (.str x) h = some (.bl false, h) := isiO_of rfl (by decide +kernel)
@[simp] theorem isi_tup_dict {xs : List IV} : isiO "dict" (.tup xs) h = some (.bl false, h) := isiO_of rfl (by decide +kernel)
@[simp] theorem lenO_tup {xs : List IV} : lenO [.tup xs] h = some (.int xs.length, h) := rfl
@[simp] theorem lenO_scr {ns : List Int} : lenO [.scr ns] h = some (.int (ns.map IV.int).length, h) := rfl
theorem lenO_ref {n : Nat} {xs : List IV} (e : h[n]? = some (.lst xs)) : lenO [.ref n] h = some (.int xs.length, h) := by simp only [lenO, seqOf, e]
theorem ixN_nat {n k : Nat} (hk : k < n) : ixN n (k : Int) = some k := by
  unfold ixN
  rw [if_pos (by omega), if_pos (by omega)]; simp
theorem ixQ_tup {xs : List IV} {k : Nat} {v : IV} (e : xs[k]? = some v) : ixQ (.tup xs) (.int k) h = some (v, h) := by
  have := atI_nat e
  simp only [ixQ, seqOf, this]
theorem ixQ_ref {n : Nat} {xs : List IV} {k : Nat} {v : IV} (e0 : h[n]? = some (.lst xs)) (e : xs[k]? = some v) : ixQ (.ref n) (.int k) h = some (v, h) := by
  have := atI_nat e
  simp only [ixQ, seqOf, e0, this]
theorem ixQ_scr {ns : List Int} {k : Nat} {v : Int} (e : ns[k]? = some v) : ixQ (.scr ns) (.int k) h = some (.int v, h) := by
  have : atI (ns.map IV.int) (k : Int) = some (.int v) := atI_nat (by rw [List.getElem?_map, e]; rfl)
  simp only [ixQ, seqOf, this]
@[simp] theorem ixQ_tup0 {x : IV} {xs : List IV} : ixQ (.tup (x :: xs)) (.int 0) h = some (x, h) := ixQ_tup (k := 0) rfl
@[simp] theorem ixQ_tup1 {x y : IV} {xs : List IV} : ixQ (.tup (x :: y :: xs)) (.int 1) h = some (y, h) := ixQ_tup (k := 1) rfl
@[simp] theorem ixQ_tup2 {x y z : IV} {xs : List IV} : ixQ (.tup (x :: y :: z :: xs)) (.int 2) h = some (z, h) := ixQ_tup (k := 2) rfl
@[simp] theorem tupleO_tup {xs : List IV} : tupleO [.tup xs] h = some (.tup xs, h) := rfl
theorem tupleO_ref {n : Nat} {xs : List IV} (e : h[n]? = some (.lst xs)) : tupleO [.ref n] h = some (.tup xs, h) := by simp only [tupleO, lstOf, e]
theorem appO_ref {n : Nat} {xs : List IV} {y : IV} (e : h[n]? = some (.lst xs)) (hl : xs.length < 16777216) : appO (.ref n) [y] h = some (.non, h.set n (.lst (xs ++ [y]))) := by simp only [appO, e, if_pos hl]
theorem tyI_ref {n : Nat} {xs : List IV} (e : h[n]? = some (.lst xs)) : tyI "list" h (.ref n) = true := by simp only [tyI, e]; rfl
end
/-! bits -/
theorem log2_le {i : Int} {k : Nat} (h : i.natAbs < 2 ^ k) : i.natAbs.log2 ≤ k := by
  by_cases e : i.natAbs = 0
  · rw [e]; simp
  · exact Nat.le_of_lt ((Nat.log2_lt e).mpr h)
def Bt (k : Nat) (i : Int) : Prop := i.natAbs < 2 ^ k
theorem Bt.mul {a b : Nat} {i j : Int} (x : Bt a i) (y : Bt b j) : Bt (a + b) (i * j) := by
  unfold Bt at *
  rw [Int.natAbs_mul, Nat.pow_add]
  exact Nat.mul_lt_mul'' x y
theorem Bt.mono {a b : Nat} {i : Int} (x : Bt a i) (h : a ≤ b) : Bt b i := Nat.lt_of_lt_of_le x (Nat.pow_le_pow_right (by decide) h)
theorem Bt.add {a : Nat} {i j : Int} (x : Bt a i) (y : Bt a j) : Bt (a + 1) (i + j) := by
  unfold Bt at *
  rw [Nat.pow_succ]
  have := Int.natAbs_add_le i j
  omega
theorem Bt.sub {a : Nat} {i j : Int} (x : Bt a i) (y : Bt a j) : Bt (a + 1) (i - j) := by
  unfold Bt at *
  rw [Nat.pow_succ]
  have := Int.natAbs_sub_le i j
  omega
theorem Bt.ok {a b : Nat} {i j : Int} (x : Bt a i) (y : Bt b j) (h : a + b < 1000000) : i.natAbs.log2 + j.natAbs.log2 < 1000000 := by
  have := log2_le x
  have := log2_le y
  omega
theorem Bt.dv {b : Nat} {j : Int} (y : Bt b j) (h : b < 9000) : j.natAbs.log2 < 9000 := by
  have := log2_le y
  omega
end L2.Sh

namespace L2.Sh
open PySem PySem.Spec PyProof.Rows L2
theorem fmod_small {x y : Int} (h : y ≠ 0) : (x.fmod y).natAbs < y.natAbs := by
  rw [Int.fmod_eq_emod]
  have h1 := Int.emod_nonneg x h
  have h2 : x % y < y.natAbs := by
    have := Int.emod_lt x h
    omega
  split
  · omega
  · rename_i c
    have : x % y ≠ 0 := fun e => c (.inr (Int.dvd_of_emod_eq_zero e))
    have : ¬ 0 ≤ y := fun e => c (.inl e)
    omega
theorem gcd_fmod (x y : Int) : Int.gcd y (x.fmod y) = Int.gcd x y := by
  rw [Int.fmod_def, Int.gcd_sub_mul_left_right, Int.gcd_comm]
/-- while other != 0: one, other = other, one % other; return abs(one) -/
def gcdB : MS := sSeq (whileN (tyB (eOp neO (eVar 1) (eC (.int 0)))) (sPar 0 1 (aCons (eVar 1) (aCons (eOp modI (eVar 0) (eVar 1)) (aNil)))) FU)
  (sRet (eCB absO (aCons (eVar 0) (aNil))))
theorem gcdB_spec (a b : Int) (h : IH) (hb : Bt 2000000 b) : runF 2 gcdB [.int a, .int b] h = some (.ok (.int (Int.gcd a b)), h) := by
  refine WE.eq ?_
  rw [WE_runF]
  unfold gcdB
  rw [WS_sSeq]
  refine WS_while (fun env h1 => h1 = h ∧ ∃ x y, env = [some (.int x), some (.int y)] ∧ Int.gcd x y = Int.gcd a b) (fun env _ => match env with
    | [_, some (.int y)] => y.natAbs
    | _ => 0) ?_ FU _ h ⟨rfl, a, b, rfl, rfl⟩ (FU_gt hb)
  rintro env h1 ⟨rfl, x, y, rfl, g⟩
  by_cases hy : y = 0
  · subst hy
    simp [absO]
    rw [← g]
    simp
    split <;> omega
  · simp [hy]
    exact ⟨⟨y, _, ⟨rfl, rfl⟩, (gcd_fmod x y).trans g⟩, fmod_small hy⟩
theorem gcd_bt {a b : Int} {k : Nat} (hb : Bt k b) (h0 : b ≠ 0) : Bt k (Int.gcd a b : Int) := by
  unfold Bt at *
  have : Int.gcd a b ≤ b.natAbs := Nat.gcd_le_right a.natAbs (by omega)
  have e : ((Int.gcd a b : Int)).natAbs = Int.gcd a b := by simp
  rw [e]
  omega
theorem Bt.div {a : Nat} {i j : Int} (x : Bt a i) : Bt (a + 1) (i.fdiv j) := by
  unfold Bt at *
  rw [Nat.pow_succ]
  have h : (i.fdiv j).natAbs ≤ i.natAbs + 1 := by
    by_cases hj : j = 0
    · subst hj; simp
    · have h1 : (i / j).natAbs ≤ i.natAbs := by
        have := Int.natAbs_ediv_le_natAbs i j
        exact this
      rw [Int.fdiv_eq_ediv]
      split <;> omega
  have : 0 < 2 ^ a := Nat.two_pow_pos a
  omega
theorem Bt.of_lt {k : Nat} {i : Int} (h0 : 0 ≤ i) (h1 : i < 2 ^ k) : Bt k i := by
  unfold Bt
  have : ((i.natAbs : Nat) : Int) = i := by omega
  have h2 : ((i.natAbs : Nat) : Int) < ((2 ^ k : Nat) : Int) := by rw [this]; push_cast; exact h1
  exact Int.ofNat_lt.mp h2
end L2.Sh
namespace L2.Sh
open PySem PySem.Spec PyProof.Rows L2
/-- a comprehension over range(n) whose element changes nothing -/
theorem comp_rng {n i : Nat} {env : Env} {b : Env → M IV} {h : IH} {Q : IV → IH → Prop} (F : Nat → IV) (hn : n < 16777216)
    (hb : ∀ k h', k < n → (∀ m, m < h.length → h'[m]? = h[m]?) → WE (b (env.set i (some (.int k))) h') (fun y h2 => y = F k ∧ h2 = h')) (hQ : Q (.ref h.length) (h ++ [.lst ((List.range n).map F)])) :
    WE (compLoop (rngIt 0 n) (gN i) cYes b env h.length FU 0 (h ++ [.lst []])) Q := by
  refine WE_comp n (fun k h' => h' = h ++ [.lst ((List.range k).map F)]) ?_ ?_ FU 0 _ (Nat.zero_le _) rfl (FU_lt64 (by omega))
  · rintro k h' hk rfl
    refine ⟨.int (0 + (k : Int)), by unfold rngIt; simp [hk], _, rfl, ?_⟩
    simp only [WE_cYes, if_pos]
    rw [Int.zero_add]
    refine (hb k _ hk fun m hm => List.getElem?_append_left hm).mono fun y h2 ⟨ey, eh⟩ => ?_
    subst ey eh
    refine ⟨(List.range k).map F, by simp, by simp; omega, ?_⟩
    rw [List.set_append_right _ _ (Nat.le_refl _), Nat.sub_self, List.range_succ, List.map_append]
    rfl
  · rintro h' rfl
    exact ⟨by unfold rngIt; simp, hQ⟩
theorem bt_bits {z : Int} (h : Builtin.Int.intBits z ≤ 1048576) : Bt 1048577 z := by
  have b : z.natAbs.log2 + 1 ≤ Builtin.Int.intBits z + 1 := by
    unfold Builtin.Int.intBits
    split
    · simp_all
    · omega
  unfold Bt
  by_cases e : z.natAbs = 0
  · rw [e]; exact Nat.two_pow_pos _
  · exact (Nat.log2_lt e).mp (by omega)
end L2.Sh
namespace L2.Sh
theorem WS.seq {a b : MS} {env : Env} {h : IH} {N M B C : Env → IH → Prop} {R : IV → IH → Prop} (w : WS (a env h) M R B C) (k : ∀ e h', M e h' → WS (b e h') N R B C) : WS (sSeq a b env h) N R B C := by
  rw [WS_sSeq]
  exact w.mono k (fun _ _ q => q) (fun _ _ q => q) (fun _ _ q => q)
end L2.Sh
namespace L2.Sh
open PySem PySem.Spec PyProof.Rows L2
theorem addO_ref {n m : Nat} {xs ys : List IV} {h : IH} (e1 : h[n]? = some (.lst xs)) (e2 : h[m]? = some (.lst ys)) (hl : xs.length + ys.length ≤ 16777216) : addO (.ref n) (.ref m) h = some (.ref h.length, h ++ [.lst (xs ++ ys)]) := by
  simp only [addO, orO, addI, addS, addL, e1, e2, if_pos hl]
theorem slO_scr {lo hi : Option Int} {ns : List Int} {h : IH} : slO lo hi (.scr ns) h = some (.ref h.length, h ++ [.lst (((ns.drop (HT.sIx ns.length 0 lo)).take (HT.sIx ns.length ns.length hi - HT.sIx ns.length 0 lo)).map IV.int)]) := by
  simp only [slO, lstOf, List.length_map, List.map_take, List.map_drop]
def refIt (n : Nat) : IIt := ⟨fun i h => match h[n]? with
  | some (.lst xs) => some xs[i]?
  | _ => none⟩
theorem seqIt_ref {n : Nat} {h : IH} {xs : List IV} (e : h[n]? = some (.lst xs)) : seqIt (.ref n) h = some (refIt n) := by
  simp only [seqIt, e]
  rfl
theorem refIt_nxt {n i : Nat} {h : IH} {xs : List IV} (e : h[n]? = some (.lst xs)) : (refIt n).nxt i h = some xs[i]? := by
  simp only [refIt, e]
/-- a loop over a list that stands -/
theorem WS_list {xs : List IV} {n : Nat} {g : MG} {b : MS} {N B C : Env → IH → Prop} {R : IV → IH → Prop} {env : Env} {h : IH} (I : Nat → Env → IH → Prop) (h0 : I 0 env h) (hlen : xs.length < 18446744073709551616) (hI : ∀ i env h, I i env h → h[n]? = some (.lst xs))
    (hs : ∀ i x env h, xs[i]? = some x → I i env h → ∃ e1, g x env h = some e1 ∧ WS (b e1 h) (I (i + 1)) R N (I (i + 1))) (hd : ∀ env h, I xs.length env h → N env h) :
    WS (forLoop (refIt n) g b FU 0 env h) N R B C := by
  refine WS_for xs.length I ?_ ?_ FU 0 env h (Nat.zero_le _) h0 (FU_lt64 (by omega))
  · intro i env h hi iv
    have hx : xs[i]? = some xs[i] := List.getElem?_eq_getElem hi
    obtain ⟨e1, eg, w⟩ := hs i _ env h hx iv
    exact ⟨xs[i], by rw [refIt_nxt (hI i env h iv), hx], e1, eg, w⟩
  · intro env h iv
    exact ⟨by rw [refIt_nxt (hI _ env h iv)]; simp, hd env h iv⟩
/-- a loop over a tuple -/
theorem WS_tup {xs : List IV} {g : MG} {b : MS} {N B C : Env → IH → Prop} {R : IV → IH → Prop} {env : Env} {h : IH} (I : Nat → Env → IH → Prop) (h0 : I 0 env h) (hlen : xs.length < 18446744073709551616)
    (hs : ∀ i x env h, xs[i]? = some x → I i env h → ∃ e1, g x env h = some e1 ∧ WS (b e1 h) (I (i + 1)) R N (I (i + 1))) (hd : ∀ env h, I xs.length env h → N env h) :
    WS (forLoop ⟨fun i _ => some xs[i]?⟩ g b FU 0 env h) N R B C := by
  refine WS_for xs.length I ?_ ?_ FU 0 env h (Nat.zero_le _) h0 (FU_lt64 (by omega))
  · intro i env h hi iv
    have hx : xs[i]? = some xs[i] := List.getElem?_eq_getElem hi
    obtain ⟨e1, eg, w⟩ := hs i _ env h hx iv
    exact ⟨xs[i], by show some xs[i]? = _; rw [hx], e1, eg, w⟩
  · intro env h iv
    exact ⟨by show some xs[xs.length]? = _; simp, hd env h iv⟩
end L2.Sh

namespace L2.Sh
open PySem PySem.Spec PyProof.Rows L2
/-- a comprehension over a tuple whose element changes nothing -/
theorem comp_tup {xs : List IV} {i : Nat} {env : Env} {b : Env → M IV} {h : IH} {Q : IV → IH → Prop} (F : IV → IV) (hn : xs.length < 16777216)
    (hb : ∀ x h', x ∈ xs → (∀ m, m < h.length → h'[m]? = h[m]?) → WE (b (env.set i (some x)) h') (fun y h2 => y = F x ∧ h2 = h')) (hQ : Q (.ref h.length) (h ++ [.lst (xs.map F)])) :
    WE (compLoop ⟨fun i _ => some xs[i]?⟩ (gN i) cYes b env h.length FU 0 (h ++ [.lst []])) Q := by
  refine WE_comp xs.length (fun k h' => h' = h ++ [.lst ((xs.take k).map F)]) ?_ ?_ FU 0 _ (Nat.zero_le _) (by simp) (FU_lt64 (by omega))
  · rintro k h' hk rfl
    have hx : xs[k]? = some xs[k] := List.getElem?_eq_getElem hk
    refine ⟨xs[k], by show some xs[k]? = _; rw [hx], _, rfl, ?_⟩
    simp only [WE_cYes, if_pos]
    refine (hb xs[k] _ (List.getElem_mem hk) fun m hm => List.getElem?_append_left hm).mono fun y h2 ⟨ey, eh⟩ => ?_
    subst ey eh
    refine ⟨(xs.take k).map F, by simp, by simp; omega, ?_⟩
    rw [List.set_append_right _ _ (Nat.le_refl _), Nat.sub_self, List.take_add_one, hx, List.map_append]
    rfl
  · rintro h' rfl
    exact ⟨by show some xs[xs.length]? = _; simp, by rw [List.take_length]; exact hQ⟩
theorem seqIt_tup {xs : List IV} {h : IH} : seqIt (.tup xs) h = some ⟨fun i _ => some xs[i]?⟩ := rfl
theorem lstOf_at {n : Nat} {h : IH} {xs : List IV} (e : h[n]? = some (.lst xs)) : lstOf h (.ref n) = some xs := by simp only [lstOf, e]
theorem blsOf_map : ∀ bs : List Bool, blsOf (bs.map IV.bl) = some bs
  | [] => rfl
  | b :: r => by rw [List.map_cons, blsOf, blsOf_map r]; rfl
theorem allO_at {f : List Bool → Bool} {n : Nat} {h : IH} {bs : List Bool} (e : h[n]? = some (.lst (bs.map IV.bl))) : allO f [.ref n] h = some (.bl (f bs), h) := by
  simp only [allO, lstOf_at e, blsOf_map]
theorem toDs_bl (h : IH) (n : Nat) : ∀ bs : List Bool, toDs h n (bs.map IV.bl) = some (bs.map PyData.bool)
  | [] => by rw [List.map_nil, toDs]; rfl
  | b :: r => by rw [List.map_cons, toDs, toDs_bl h n r, toD]; rfl
theorem eqv_bls : ∀ bs cs : List Bool, PyData.eqvAll (bs.map PyData.bool) (cs.map PyData.bool) = decide (bs = cs)
  | [], [] => by simp [PyData.eqvAll]
  | [], _ :: _ => by simp [PyData.eqvAll]
  | _ :: _, [] => by simp [PyData.eqvAll]
  | a :: r, b :: t => by
    simp only [List.map_cons, PyData.eqvAll, PyData.eqv, eqv_bls r t]
    by_cases h : a = b <;> by_cases h' : r = t <;> simp [h, h']
theorem shaped_bls (bs : List Bool) : SeqAt.shaped (.list (bs.map PyData.bool)) = true := by
  unfold SeqAt.shaped
  rw [Bool.and_eq_true]
  refine ⟨?_, ?_⟩
  · rw [PyData.canLay0]
    induction bs with
    | nil => rfl
    | cons b r ih => rw [List.map_cons, PyData.canLayAll0, ih]; rfl
  · refine decide_eq_true ?_
    have : ∀ l : List Bool, PyData.depthAll (l.map PyData.bool) ≤ 1 := fun l => by
      induction l with
      | nil => simp [PyData.depthAll]
      | cons b r ih => simp only [List.map_cons, PyData.depthAll, PyData.depth]; omega
    have := this bs
    simp only [PyData.depth]
    omega
theorem eqO_bls {n m : Nat} {h : IH} {bs cs : List Bool} (e1 : h[n]? = some (.lst (bs.map IV.bl))) (e2 : h[m]? = some (.lst (cs.map IV.bl))) : eqO (.ref n) (.ref m) h = some (.bl (decide (bs = cs)), h) := by
  have d1 : toD h 64 (.ref n) = some (.list (bs.map PyData.bool)) := by rw [toD, e1]; simp only [toDs_bl]; rfl
  have d2 : toD h 64 (.ref m) = some (.list (cs.map PyData.bool)) := by rw [toD, e2]; simp only [toDs_bl]; rfl
  have : eqD id (.ref n) (.ref m) h = some (.bl (decide (bs = cs)), h) := by
    simp only [eqD, d1, d2]
    rw [if_pos ⟨shaped_bls _, shaped_bls _⟩, PyData.eqv, eqv_bls]
    rfl
  show (match eqS id (.ref n) (.ref m) h with | some z => some z | none => eqD id (.ref n) (.ref m) h) = _
  exact this
end L2.Sh

namespace L2.Sh
open PySem PySem.Spec PyProof.Rows L2
theorem comp_rngE {n i n0 : Nat} {env : Env} {b : Env → M IV} {h0 : IH} {Q : IV → IH → Prop} (h : IH) (e1 : h0 = h ++ [.lst []]) (e2 : n0 = h.length) (F : Nat → IV) (hn : n < 16777216)
    (hb : ∀ k h', k < n → (∀ m, m < h.length → h'[m]? = h[m]?) → WE (b (env.set i (some (.int k))) h') (fun y h2 => y = F k ∧ h2 = h')) (hQ : Q (.ref h.length) (h ++ [.lst ((List.range n).map F)])) :
    WE (compLoop (rngIt 0 n) (gN i) cYes b env n0 FU 0 h0) Q := by
  subst e1 e2
  exact comp_rng F hn hb hQ
end L2.Sh

namespace L2.Sh
open PySem PySem.Spec PyProof.Rows L2
section
variable {X : Cx} {pins : List (Addr × Obj)} {σ : St} {H : Hp} {s : Shared}
theorem ext_ok {P : Program} {w : World} {H : Hp} {h : Heap} {cls : Value} {d : Option Addr} {a : Addr} {oe : Obj} {vs : Array Value} (e : h.get? a = some oe) (z : Zc cls d oe) (hd : oe.data = .fields vs) : ObjOk P w H h a (ExT cls d a) :=
  ⟨⟨oe, vs, e, z, hd⟩, ⟨oe, e⟩, fun h1 h2 ⟨o1, v1, e1, z1, d1⟩ k => ⟨o1, v1, k _ e1, z1, d1⟩⟩
/-- an exception of ours that is pinned becomes tracked -/
theorem track {a : Addr} {oe : Obj} {vs : Array Value} {cls : Value} {d : Option Addr} (I : Inv X ((a, oe) :: pins) σ H s) (hz : Zc cls d oe) (hd : oe.data = .fields vs) (new : X.s_0.heap.get? a = none) (far : ∀ p ∈ X.pn ++ pins, p.1 ≠ a) : Inv X pins σ (upd H a (ExT cls d a)) s := by
  obtain ⟨ha, na, nL, nF, nc⟩ := I.pin (a, oe) (List.mem_append_right _ List.mem_cons_self)
  have ne : ∀ {b : Addr} {u : HO}, H b = some u → b ≠ a := fun e => ne_of_none e na
  refine ⟨I.ok, I.os, I.bare, ⟨I.base.keep, I.base.slot, fun b o e n hx => ?_, I.base.there, fun b xs e => ?_, fun b o u e => ?_, fun b ps e => ?_⟩, I.loc, I.cell, ?_, fun x c e => ?_, fun p hp => ?_, fun b u e => ?_, I.len⟩
  · have hb : b ≠ a := fun z => by subst z; rw [new] at e; cases e
    rw [upd_ne hb]; exact I.base.free b o e n hx
  · have q := I.base.tups b xs e
    rw [upd_ne (ne q)]; exact q
  · have q := I.base.frzs b o u e
    rw [upd_ne (ne q)]; exact q
  · obtain ⟨more, q⟩ := I.base.tbls b ps e
    exact ⟨more, by rw [upd_ne (ne q)]; exact q⟩
  · rw [upd_ne (Ne.symm nL)]; exact I.free
  · have hca : c ≠ a := fun z => by
      obtain ⟨v, hv⟩ := I.cell x c e
      subst z
      obtain ⟨o, ho, hdc⟩ := hv
      rw [ha] at ho
      cases ho
      exact nc _ hdc
    rw [upd_ne hca]; exact I.freeC x c e
  · have hp' : p ∈ X.pn ++ (a, oe) :: pins := by
      rcases List.mem_append.mp hp with z | z
      · exact List.mem_append_left _ z
      · exact List.mem_append_right _ (List.mem_cons_of_mem _ z)
    obtain ⟨h1, h2, h3, h4, h5⟩ := I.pin p hp'
    exact ⟨h1, by rw [upd_ne (far p hp)]; exact h2, h3, h4, h5⟩
  · by_cases hb : b = a
    · subst hb
      rw [upd_same] at e
      cases e
      exact ext_ok ha hz hd
    · rw [upd_ne hb] at e
      exact (I.hok b u e).stay (fun c v _ q => q) (fun c q => by rw [upd_ne (ne q)]; exact q) fun c xs q => by rw [upd_ne (ne q)]; exact q
end
/-- what the clause «except x as n: y = n» wishes of an exception of the body: n in slot i, y in slot j -/
def wKeep (K : PySem.W.Frag) (c : Value) (i j : Nat) (Wout : WX) (D : Ends) : WX := fun cls d σ H =>
  ∃ b, PySem.W.exmOne K cls c = some b ∧ (b = true → ∀ a, H a = none → D.nx (((σ.set i (some (.ref a))).set j (some (.ref a))).set i none) (upd H a (ExT cls d a))) ∧ (b = false → Wout cls d σ H)
section
variable {X : Cx} {x n : Str} {c : Value} {i j : Nat} {body suite : List Stmt} {b₀ : Stmt} {np pos pos' : Pos} {tb : WX → TS} {Wout : WX}
theorem ps_try_keep (e0 : X.ex = []) (s1 : X.stack = X.env :: X.outer) (s2 : X.env.frame = some X.env.locals) (nd : X.N.Nodup) (ni : X.N[i]? = some n) (nl : X.env.kindOf n = some .local) (nc : Names X x c) (tk : Takes X Wout)
    (bd : ∀ (W : WX) (pn : List (Addr × Obj)) (xe : Value → Shared → Prop), Takes (X.tr pn xe) W → PassesOwn (model X.prog X.w) X.A X.env xe → PSs (X.tr pn xe) body (tb W))
    (su : ∀ (a : Addr) (pn : List (Addr × Obj)) (oe : Obj), PSs (X.suite a ((a, oe) :: pn)) (b₀ :: suite) (tAsg (tVar i) (gName j))) :
    PS X (.Try body [.ExceptHandler (some (.Name x np)) (some n) (b₀ :: suite) pos'] [] [] pos) (fun D σ H => tb (wKeep X.K c i j Wout D) D σ H) := by
  refine ⟨fun pins s σ H D I h => ?_⟩
  have okX := I.ok
  have fr2 : X.A.frames = some (X.env :: X.outer) := okX.frames.trans (congrArg some s1)
  have lo2 : Loc X.env.scope n := .inl nl
  apply wpAny_Try_except
  let catching : Value → Shared → Prop := fun e sa => wpAny (model X.prog X.w) X.A (noteFrame e X.env) (fun _ sb => wpAny (model X.prog X.w) X.A (setFlight e none) (fun _ sc =>
      wpAny (model X.prog X.w) X.A (handleBy e X.env [.ExceptHandler (some (.Name x np)) (some n) (b₀ :: suite) pos']) (SP X pins D) X.xe sc) X.xe sb) X.xe sa
  have takes : Takes (X.tr (X.pn ++ pins) catching) (wKeep X.K c i j Wout D) := by
    rintro u sE ⟨a, B, sI, pinsI, σ1, H1, cls, d, rfl, Q0, gnd, upI, skyI, untr, osI, bareI, b, exm, yes, no⟩
    have Q1 : Inv X pins σ1 H1 sI := Q0.ofTry okX
    show wpAny _ X.A (noteFrame (.ref a) X.env) _ _ _
    refine Sky.land Zc.steady fr2 s2 (s1 ▸ skyI) fun hA flA upA => ?_
    have QA : Inv X pins σ1 H1 { sE with heap := hA } := Q1.landed gnd flA.1 (upI.trans upA) osI bareI
    obtain ⟨oA, vA, gA, zA, dA⟩ := flA.there
    have nofr : a ∉ frs (X.env :: X.outer) := fun hm => by
      obtain ⟨_, o2, g2, nf⟩ := flA.2.2.1.mem hm
      rw [gA] at g2
      cases g2
      exact nf _ dA
    have na1 : a ≠ X.env.locals := fun z => nofr (List.mem_filterMap.mpr ⟨X.env, List.mem_cons_self, by rw [s2, z]⟩)
    have na2 : a ∉ X.fs := fun hm => by
      obtain ⟨e, m1, m2⟩ := List.mem_filterMap.mp hm
      exact nofr (List.mem_filterMap.mpr ⟨e, List.mem_cons_of_mem _ m1, m2⟩)
    -- it is new
    have freshI : sI.heap.get? a = none := by
      cases q : sI.heap.get? a with
      | none => rfl
      | some o =>
        have z := gnd a o q (by rw [s1]; exact nofr)
        rw [flA.2.1] at z
        cases z
    have fresh0 : X.s_0.heap.get? a = none := by
      cases q : X.s_0.heap.get? a with
      | none => rfl
      | some o =>
        obtain ⟨o', z⟩ := Q1.base.there a o q (by rw [e0]; exact List.not_mem_nil)
        rw [freshI] at z
        cases z
    have farI : ∀ p ∈ X.pn ++ pins, p.1 ≠ a := fun p hp z => by
      have q := (Q1.pin p hp).1
      rw [z, freshI] at q
      cases q
    have SA := QA.suite gA dA untr na1 na2
    refine wpAny_handleBy_cons (codeAny_handlers_test ?_) (by intro q; cases q)
    have typ : PySem.W.Looks (model X.prog X.w) hA (typeOf (.ref a)) cls := fun _ _ _ _ k q => wpAny_typeOf_ref (k _ _ gA) (by rw [zA.1]; exact q)
    have mat := PySem.W.exm_one (M := model X.prog X.w) QA.kIn typ exm
    have asks : ∀ {Q : Value → Shared → Prop} {E : Value → Shared → Prop}, Q c { sE with heap := hA } → wpAny (model X.prog X.w) (X.A.mark (some (.ref a))) (eval (.Name x np) X.env) Q E { sE with heap := hA } := fun {Q E} q => by
      obtain ⟨g1, g2, g3 | ⟨g3, g4, g5⟩⟩ := nc
      · exact ld_glob (X := X.suite a ((a, oA) :: (X.pn ++ pins))) SA g1 g3 q g2
      · exact ld_blt (X := X.suite a ((a, oA) :: (X.pn ++ pins))) SA g1 g3 g4 q g5 g2
    refine asks (mat.here ?_)
    cases b with
    | false =>
      show wpAny _ X.A (handleBy (.ref a) X.env []) _ _ _
      refine wpAny_handleBy_nil ?_
      obtain ⟨_, _, _, oF, vF, T, oT, tF, gF, zF, dF, fF, rF⟩ := id flA
      unfold PySem.passOn
      refine wpAny_bind (wpAny_field gF dF fF ?_)
      rw [if_neg (by simp : ¬ ((Value.ref T == Value.none) = true))]
      have away : wpAny (model X.prog X.w) X.A (setFlight (.ref a) X.env.frame) (fun _ sG => wpAny (model X.prog X.w) X.A (throw (.ref a) : Sem Flow) (SP X pins D) X.xe sG) X.xe { sE with heap := hA } := by
        rw [s2]
        exact HandSPX.setFlight_upZ flA fun hB heldB upB => wpAny_throw (tk _ _ ⟨a, B, sI, pins, σ1, H1, cls, d, rfl, Q1, gnd, (upI.trans upA).trans upB, .inr (.inr (s1 ▸ heldB)), untr, osI, bareI, no rfl⟩)
      first
        | exact wpAny_bind away
        | exact wpAny_bind (wpAny_pure (wpAny_bind away))
    | true =>
      refine codeAny_handlers_suite_as (HandSPX.lands_againZ flA fun hB flB upB => ?_)
      have QB : Inv X pins σ1 H1 { sE with heap := hB } := Q1.landed gnd flB.1 ((upI.trans upA).trans upB) osI bareI
      obtain ⟨oB, vB, gB, zB, dB⟩ := flB.there
      have SB' := QB.suite gB dB untr na1 na2
      refine store_ok (X := X.suite a ((a, oB) :: (X.pn ++ pins))) (v := .ref a) SB' nd ni lo2 rfl (fun sC SC => ?_) (.inr nl)
      refine wpAny_mono ((su a (X.pn ++ pins) oB).run [] sC _ H1 { nx := fun σ2 H2 => σ2 = (σ1.set i (some (.ref a))).set j (some (.ref a)) ∧ H2 = H1, rt := fun _ _ => False } SC ⟨.ref a, List.getElem?_set_self (by rw [Q1.len]; exact (List.getElem?_eq_some_iff.mp ni).1), rfl, rfl⟩) (fun f sD fl => ?_) (fun _ _ z => False.elim z)
      cases f with
      | next =>
        obtain ⟨σ2, H2, SD, e1, e2⟩ := fl
        subst e1 e2
        have pinned : Inv X ((a, oB) :: pins) ((σ1.set i (some (.ref a))).set j (some (.ref a))) H2 sD :=
          ⟨okX, SD.os, SD.bare, SD.base, SD.loc, SD.cell, SD.free, SD.freeC, fun p hp => by
            rcases List.mem_append.mp hp with z | z
            · exact SD.pin p (List.mem_append_left _ (List.mem_cons_of_mem _ (List.mem_append_left _ z)))
            · rcases List.mem_cons.mp z with z | z
              · exact SD.pin p (List.mem_append_left _ (by rw [z]; exact List.mem_cons_self))
              · exact SD.pin p (List.mem_append_left _ (List.mem_cons_of_mem _ (List.mem_append_right _ z))), SD.hok, SD.len⟩
        exact gone_ok pinned nd ni nl fun sE2 QE => ⟨_, _, track QE zB dB fresh0 farI, yes rfl a untr⟩
      | brk => obtain ⟨_, _, _, z⟩ := fl; exact z.elim
      | cont => obtain ⟨_, _, _, z⟩ := fl; exact z.elim
      | ret u => obtain ⟨_, _, _, _, _, z⟩ := fl; exact z.elim
  refine wpAny_mono ((bd _ (X.pn ++ pins) catching takes PassesOwn.looking).run [] s σ H D (I.toTry _) h) (fun f sF fl => ?_) (fun _ _ z => z)
  cases f with
  | next => obtain ⟨σ2, H2, Q2, z⟩ := fl; exact wpAny_execs_nil ⟨σ2, H2, Q2.ofTry okX, z⟩
  | brk => obtain ⟨σ2, H2, Q2, z⟩ := fl; exact ⟨σ2, H2, Q2.ofTry okX, z⟩
  | cont => obtain ⟨σ2, H2, Q2, z⟩ := fl; exact ⟨σ2, H2, Q2.ofTry okX, z⟩
  | ret u => obtain ⟨v, σ2, H2, Q2, r, z⟩ := fl; exact ⟨v, σ2, H2, Q2.ofTry okX, r, z⟩
end

/-! ### try on the plain side -/
abbrev Catch := Str → Option Bool
def sTryK (ca : Catch) (i j : Nat) (b : MS) : MS := fun env h => match b env h with
  | some (.ex x env', h') => match ca x.name with
    | some true => some (.nx (((env'.set i none).set j (some (.exc x.name x.fld x.val))).set i none), h')
    | some false => some (.ex x env', h')
    | none => none
  | r => r
def noxS (b : MS) : MS := fun env h => match b env h with
  | some (.ex _ _, _) => none
  | r => r
def sTryO (ca : Catch) (b sb : MS) : MS := fun env h => match b env h with
  | some (.ex x env', h') => match ca x.name with
    | some true => noxS sb env' h'
    | some false => some (.ex x env', h')
    | none => none
  | r => r
theorem RX.rv {K : PySem.W.Frag} {mg : Str → Option Value} {φ : List Addr} {H : Hp} {x : Exc} {cls : Value} {d : Option Addr} {a : Addr} (r : RX K mg φ H x cls d) (ha : H a = none) : RV K φ (upd H a (ExT cls d a)) (.exc x.name x.fld x.val) (.ref a) := by
  obtain ⟨rfl, ⟨e, rfl⟩ | ⟨dd, y, u, e, rfl, hd, ry⟩⟩ := r
  · rw [e]
    exact .exc0 upd_same
  · rw [e]
    refine .exc1 upd_same ?_ (ry.ev (ev_new0 ha))
    rw [upd_ne (ne_of_none hd ha)]
    exact hd
section
variable {X : Cx} {x n : Str} {c : Value} {i j : Nat} {body suite : List Stmt} {b₀ : Stmt} {np pos pos' : Pos} {tb : WX → TS} {mb : MS} {W : WX} {ca : Catch}
/-- an exception's way that is always open: to take the plain part of a try's body -/
def lookOn (X : Cx) : Value → Shared → Prop := fun e sa => wpAny (model X.prog X.w) X.A (noteFrame e X.env) (fun _ sb => wpAny (model X.prog X.w) X.A (setFlight e none) (fun _ _ => True) (fun _ _ => True) sb) (fun _ _ => True) sa
theorem lookOn_takes (s1 : X.stack = X.env :: X.outer) (s2 : X.env.frame = some X.env.locals) (W : WX) : Takes (X.tr [] (lookOn X)) W := by
  rintro u sE ⟨a, B, sI, pinsI, σ1, H1, cls, d, rfl, Q0, gnd, upI, skyI, untr, osI, bareI, w⟩
  have fr2 : X.A.frames = some (X.env :: X.outer) := Q0.ok.frames.trans (congrArg some s1)
  show wpAny _ X.A (noteFrame (.ref a) X.env) _ _ _
  exact Sky.land Zc.steady fr2 s2 (s1 ▸ skyI) fun _ _ _ => trivial
theorem ss_tryK (e0 : X.ex = []) (s1 : X.stack = X.env :: X.outer) (s2 : X.env.frame = some X.env.locals) (nd : X.N.Nodup) (ni : X.N[i]? = some n) (nl : X.env.kindOf n = some .local) (nc : Names X x c) (tk : Takes X W)
    (hca : ∀ z b, ca z = some b → PySem.W.exmOne X.K (.ref (He.ga X.K z)) c = some b)
    (bd : ∀ (W : WX) (pn : List (Addr × Obj)) (xe : Value → Shared → Prop), Takes (X.tr pn xe) W → PassesOwn (model X.prog X.w) X.A X.env xe → SB (X.tr pn xe) W body (tb W) mb)
    (su : ∀ (a : Addr) (pn : List (Addr × Obj)) (oe : Obj), PSs (X.suite a ((a, oe) :: pn)) (b₀ :: suite) (tAsg (tVar i) (gName j))) :
    SS X W (.Try body [.ExceptHandler (some (.Name x np)) (some n) (b₀ :: suite) pos'] [] [] pos) (fun D σ H => tb (wKeep X.K c i j W D) D σ H) (sTryK ca i j mb) := by
  refine ⟨ps_try_keep e0 s1 s2 nd ni nl nc tk (fun W pn xe t1 t2 => (bd W pn xe t1 t2).pe) su, fun σ H D φ h env re rh p => ?_⟩
  refine (bd (wKeep X.K c i j W D) [] (lookOn X) (lookOn_takes s1 s2 _) PassesOwn.looking).sim σ H D φ h env re rh ?_
  unfold sTryK at p
  cases hb : mb env h with
  | none => rw [hb] at p; exact p.elim
  | some z =>
    obtain ⟨z, h'⟩ := z
    rw [hb] at p
    cases z with
    | nx _ => exact p
    | rt _ => exact p
    | bk _ => exact p
    | ct _ => exact p
    | ex z env' =>
      intro φ1 H1 σ1 cls d e1 rh1 re1 rx1
      simp only [] at p
      have ecls : cls = .ref (He.ga X.K z.name) := rx1.1
      cases hc : ca z.name with
      | none => rw [hc] at p; exact p.elim
      | some b =>
        rw [hc] at p
        refine ⟨b, by rw [ecls]; exact hca _ _ hc, fun hb1 a ha => ?_, fun hb1 => ?_⟩
        · subst hb1
          have e2 : Ev φ1 H1 φ1 (upd H1 a (ExT cls d a)) := ev_new0 ha
          exact p φ1 _ _ (e1.trans e2) (rh1.beside ha) ((((re1.ev e2).unset i _).set (rx1.rv ha) j).unset i none)
        · subst hb1
          exact p φ1 H1 σ1 cls d e1 rh1 re1 rx1
theorem ss_tryO {ts : Addr → Value → Option Addr → TS} {ms : MS} (s1 : X.stack = X.env :: X.outer) (s2 : X.env.frame = some X.env.locals) (nc : Names X x c) (tk : Takes X W)
    (hca : ∀ z b, ca z = some b → PySem.W.exmOne X.K (.ref (He.ga X.K z)) c = some b)
    (bd : ∀ (W : WX) (pn : List (Addr × Obj)) (xe : Value → Shared → Prop), Takes (X.tr pn xe) W → PassesOwn (model X.prog X.w) X.A X.env xe → SB (X.tr pn xe) W body (tb W) mb)
    (su : ∀ (a : Addr) (oe : Obj) (cls : Value) (d : Option Addr) (pn : List (Addr × Obj)), SB (X.suite a ((a, oe) :: pn)) W0 (b₀ :: suite) (ts a cls d) ms) :
    SS X W (.Try body [.ExceptHandler (some (.Name x np)) none (b₀ :: suite) pos'] [] [] pos) (fun D σ H => tb (wOnly X.K c ts W D) D σ H) (sTryO ca mb ms) := by
  refine ⟨ps_try_only s1 s2 nc tk (fun W pn xe t1 t2 => (bd W pn xe t1 t2).pe) (fun a oe cls d pn _ _ => (su a oe cls d pn).pe), fun σ H D φ h env re rh p => ?_⟩
  refine (bd (wOnly X.K c ts W D) [] (lookOn X) (lookOn_takes s1 s2 _) PassesOwn.looking).sim σ H D φ h env re rh ?_
  unfold sTryO at p
  cases hb : mb env h with
  | none => rw [hb] at p; exact p.elim
  | some z =>
    obtain ⟨z, h'⟩ := z
    rw [hb] at p
    cases z with
    | nx _ => exact p
    | rt _ => exact p
    | bk _ => exact p
    | ct _ => exact p
    | ex z env' =>
      intro φ1 H1 σ1 cls d e1 rh1 re1 rx1
      simp only [] at p
      have ecls : cls = .ref (He.ga X.K z.name) := rx1.1
      cases hc : ca z.name with
      | none => rw [hc] at p; exact p.elim
      | some b =>
        rw [hc] at p
        refine ⟨b, by rw [ecls]; exact hca _ _ hc, fun hb1 a ha => ?_, fun hb1 => ?_⟩
        · subst hb1
          refine (su a { cls := .none, data := .fields #[] } cls d []).sim σ1 H1 D φ1 h' env' re1 rh1 ?_
          simp only [] at p
          have p2 := p.ev e1
          unfold noxS at p2
          cases hs : ms env' h' with
          | none => rw [hs] at p2; exact p2.elim
          | some q =>
            obtain ⟨q, h2⟩ := q
            rw [hs] at p2
            cases q with
            | ex q e => exact p2.elim
            | _ => exact p2
        · subst hb1
          exact p φ1 H1 σ1 cls d e1 rh1 re1 rx1
end

/-! ### isinstance(e, C), e an exception held by a name; e.f -/
/-- what the top says of the class x's exceptions (to be decided) -/
def excB (K : PySem.W.Frag) (x : Str) : Bool :=
  let D := He.ga K x
  decide (PySem.W.findIn K (.ref D) "__getattribute__" = some (some (.builtin "BaseException.__getattribute__"))) && (decide (PySem.W.findIn K (.ref D) "__getattr__" = some none) && (decide (PySem.W.subIn K (.ref D) (.type "BaseException") = some true) && (PySem.W.hasDictIn K D &&
  (decide (PySem.W.findIn K (.ref D) "__class__" = some (some (.builtin "object.__class__"))) && (decide (PySem.W.specialIn K (.builtin "object.__class__") "__get__" = some (some (.builtin "getset_descriptor.__get__"))) && (decide (PySem.W.takesIn K (.builtin "object.__class__") = some true) && decide (PySem.W.mroIn K D (.type "object") = some true)))))))
theorem excB_ok {K : PySem.W.Frag} {x : Str} (h : excB K x = true) : ExcC K (He.ga K x) := by
  unfold excB at h
  simp only [Bool.and_eq_true, decide_eq_true_eq] at h
  obtain ⟨h1, h2, h3, h4, h5, h6, h7, h8⟩ := h
  exact ⟨h1, h2, h3, h4, h5, h6, h7, h8⟩
/-- the answers of isinstance, and of an except clause, for the class x against c -/
def kitX (K : PySem.W.Frag) (x : Str) (c : Value) (b : Bool) : Bool := decide (PySem.W.kitOne K (.ref (He.ga K x)) c = some b)
def catX (K : PySem.W.Frag) (x : Str) (c : Value) (b : Bool) : Bool := decide (PySem.W.exmOne K (.ref (He.ga K x)) c = some b)
abbrev Kit := Str → Option Bool
def isiE (ki : Kit) : IV → IH → Option (IV × IH) := fun x h => match x with
  | .exc n _ [] => match ki n with
    | some b => some (.bl b, h)
    | none => none
  | _ => none
def rIsX (K : PySem.W.Frag) : List V → Hp → VK → Prop := fun xs H Q => ∃ (a D : Addr) (c : V) (cv : Value) (b : Bool), xs = [.ref a, c] ∧ H a = some (ExT (.ref D) none a) ∧ ExcC K D ∧ (∀ u, RelV c u → u = cv) ∧ PySem.W.kitOne K (.ref D) cv = some b ∧ Q (.bl b) H
theorem call_isX {X : Cx} : CallR X (.builtin "isinstance") (rIsX X.K) := by
  intro pins s σ H xs us Q I r h
  obtain ⟨a, D, c, cv, b, rfl, ea, C, hc, hk, q⟩ := h
  obtain ⟨u1, u2, rfl, r1, r2⟩ := vals2 r
  obtain rfl : u1 = Value.ref a := r1
  have e2 := hc _ r2
  subst e2
  have ob : ObjOk X.prog X.w H s.heap a (ExT (.ref D) none a) := I.hok a _ ea
  obtain ⟨⟨oe, vs, hg, ⟨hz1, hz2⟩, hd⟩, _⟩ := ob
  have J : PySem.W.InstAt s.heap a oe D none := by
    obtain ⟨oc, od, oda, osl⟩ := oe
    dsimp only at hz1 hz2 hd
    subst hz1 hz2 hd
    exact ⟨hg, rfl, rfl, trivial⟩
  exact PySem.W.kia_one (PySem.W.handS_kitx_exc C.hg C.hk C.hs C.hd C.ha C.hn C.ht C.hm) I.kIn J hk (fun z => nomatch z) fun tk => ⟨.bl b, H, I.tok tk, rfl, q⟩
def caL (l : List (Str × Bool)) : Str → Option Bool := fun z => l.lookup z
def catAll (K : PySem.W.Frag) (c : Value) (l : List (Str × Bool)) : Bool := l.all fun q => catX K q.1 c q.2
def kitAll (K : PySem.W.Frag) (c : Value) (l : List (Str × Bool)) : Bool := l.all fun q => excB K q.1 && kitX K q.1 c q.2
theorem lookup_mem' {z : Str} {b : Bool} : ∀ {l : List (Str × Bool)}, l.lookup z = some b → (z, b) ∈ l
  | [], h => by cases h
  | (y, c) :: r, h => by
    rw [List.lookup_cons] at h
    split at h
    · rename_i e
      cases h
      rw [beq_iff_eq.mp e]
      exact List.mem_cons_self
    · exact List.mem_cons_of_mem _ (lookup_mem' h)
theorem catAll_ok {K : PySem.W.Frag} {c : Value} {l : List (Str × Bool)} (h : catAll K c l = true) : ∀ z b, caL l z = some b → PySem.W.exmOne K (.ref (He.ga K z)) c = some b := fun z b e =>
  of_decide_eq_true (List.all_eq_true.mp h (z, b) (lookup_mem' e))
theorem kitAll_ok {K : PySem.W.Frag} {c : Value} {l : List (Str × Bool)} (h : kitAll K c l = true) : ∀ z b, caL l z = some b → ExcC K (He.ga K z) ∧ PySem.W.kitOne K (.ref (He.ga K z)) c = some b := fun z b e => by
  have q := List.all_eq_true.mp h (z, b) (lookup_mem' e)
  rw [Bool.and_eq_true] at q
  exact ⟨excB_ok q.1, of_decide_eq_true q.2⟩
section
variable {X : Cx} {W : WX}
theorem se_isX (K : PySem.W.Frag) {c : V} {cv : Value} {ki : Kit} {x : Str} {a : Expr} {ta : TE} {ma : Env → M IV} {p p2 pos : Pos} (ha : SE X W a ta ma) (hc : ∀ u, RelV c u → u = cv)
    (hk : ∀ n b, ki n = some b → ExcC K (He.ga K n) ∧ PySem.W.kitOne K (.ref (He.ga K n)) cv = some b) (pb : PE X (.Name x p2) (tC c))
    (pe : PE X (.Name x p2) (tC c) → PE X a ta → PE X (.Call (.Name "isinstance" p) [a, .Name x p2] [] pos) (tCB (rIsX X.K) (tCons ta (tCons (tC c) tNil)))) (hK : X.K = K := by rfl) :
    SE X W (.Call (.Name "isinstance" p) [a, .Name x p2] [] pos) (tCB (rIsX K) (tCons ta (tCons (tC c) tNil))) (eUn (isiE ki) ma) := by
  subst hK
  refine ⟨pe pb ha.pe, ?_⟩
  intro σ H Q φ h env re rh p
  refine ha.sim σ H _ φ h env re rh (p.bnd (Ev.refl _ _) fun φ1 H1 y v h1 e1 rh1 r1 p1 => ?_)
  have p2 := PostO.of p1 e1
  unfold isiE at p2
  cases r1 with
  | exc0 ea =>
    simp only [] at p2
    split at p2
    · rename_i b hb
      obtain ⟨C, k⟩ := hk _ _ hb
      exact ⟨_, _, c, cv, b, rfl, ea, C, hc, k, p2.give rh1 (.bl _)⟩
    · exact p2.elim
  | _ => exact p2.elim
end
/-! the plain side -/
section
variable {env : Env} {h : IH} {N B C : Env → IH → Prop} {R : IV → IH → Prop}
/-- where an exception may come, too -/
def WX5 (r : Option (Flw × IH)) (N : Env → IH → Prop) (R : IV → IH → Prop) (B C : Env → IH → Prop) (E : Exc → Env → IH → Prop) : Prop := match r with
  | some (.nx e, h) => N e h
  | some (.rt v, h) => R v h
  | some (.bk e, h) => B e h
  | some (.ct e, h) => C e h
  | some (.ex x e, h) => E x e h
  | none => False
theorem WS_tryK {ca : Catch} {i j : Nat} {b : MS} : WS (sTryK ca i j b env h) N R B C ↔ WX5 (b env h) N R B C (fun x e h' => match ca x.name with | some true => N (((e.set i none).set j (some (.exc x.name x.fld x.val))).set i none) h' | _ => False) := by
  unfold sTryK
  cases b env h with
  | none => exact Iff.rfl
  | some z =>
    obtain ⟨z, h'⟩ := z
    cases z <;> first | exact Iff.rfl | skip
    rename_i x e
    simp only [WX5]
    cases ca x.name with
    | none => exact Iff.rfl
    | some b => cases b <;> exact Iff.rfl
theorem WX5_bndS {α : Type} {m : Env → M α} {f : α → MS} {E : Exc → Env → IH → Prop} : WX5 (bndS m f env h) N R B C E ↔ match m env h with | some (.ok a, h') => WX5 (f a env h') N R B C E | some (.error x, h') => E x env h' | none => False := by
  unfold bndS
  cases m env h with
  | none => exact Iff.rfl
  | some z => obtain ⟨z, h'⟩ := z; cases z <;> exact Iff.rfl
end
end L2.Sh

namespace L2.Sh
open PySem PySem.Spec PyProof.Rows L2
def maxO : O1 := fun xs h => match xs with
  | [.int i, .int j] => some (.int (if j > i then j else i), h)
  | _ => none
def minO : O1 := fun xs h => match xs with
  | [.int i, .int j] => some (.int (if j < i then j else i), h)
  | _ => none
def rMax2 : List V → Hp → VK → Prop := fun xs H Q => ∃ i j, xs = [.int i, .int j] ∧ Q (.int (if j > i then j else i)) H
def rMin2 : List V → Hp → VK → Prop := fun xs H Q => ∃ i j, xs = [.int i, .int j] ∧ Q (.int (if j < i then j else i)) H
def rngC (lo c : Int) (n : Nat) : IIt := ⟨fun i _ => some (if i < n then some (.int (lo + (i : Nat) * c)) else none)⟩
@[irreducible] def iR3 (m : Env → M (List IV)) : Env → M IIt := fun env => bnd (m env) fun xs h => match xs with
  | [.int i, .int j, .int c] => if c ≠ 0 ∧ c.natAbs < 1073741824 ∧ Builtin.Range.small i j c = true ∧ 0 ≤ Builtin.Range.rangeSize i j c then some (.ok (rngC i c (Builtin.Range.rangeSize i j c).toNat), h) else none
  | _ => none
/-- a target of several names, from a tuple or a list -/
def gTL (n : Nat) (b : MGs) : MG := fun x env h => match x with
  | .tup xs => if xs.length = n then b xs env h else none
  | .ref k => match h[k]? with
    | some (.lst xs) => if xs.length = n then b xs env h else none
    | _ => none
  | _ => none
def gTupL (K : PySem.W.Frag) (n : Nat) (t : TGs) : TG := fun v σ H Q => gTup K n t v σ H Q ∨ gLst K n t v σ H Q
section
variable {X : Cx} {W : WX}
theorem sc_max (hc : X.calm = true) : SCall X (.builtin "max") rMax2 maxO := ⟨call_max2 hc, by
  intro H Q φ h xs vs rh rs p
  unfold maxO at p
  split at p
  · cases rs with
    | cons r1 r2 =>
      cases r2 with
      | cons r2 r3 => cases r1; cases r2; cases r3; exact ⟨_, _, rfl, p.give rh (.int _)⟩
  · exact p.elim⟩
theorem sc_min (hc : X.calm = true) : SCall X (.builtin "min") rMin2 minO := ⟨call_min2 hc, by
  intro H Q φ h xs vs rh rs p
  unfold minO at p
  split at p
  · cases rs with
    | cons r1 r2 =>
      cases r2 with
      | cons r2 r3 => cases r1; cases r2; cases r3; exact ⟨_, _, rfl, p.give rh (.int _)⟩
  · exact p.elim⟩
theorem jrel_rngC {K : PySem.W.Frag} {φ : List Addr} {H : Hp} (lo c : Int) (n : Nat) : JRel K φ H (rngC lo c n) (Itc lo c n) := by
  intro i φ1 H1 h1 e1 rh1
  unfold rngC
  refine ⟨fun hn => ?_, fun x hn => ?_⟩
  · by_cases hi : i < n
    · simp only [if_pos hi] at hn; cases hn
    · exact Nat.le_of_not_lt hi
  · by_cases hi : i < n
    · simp only [if_pos hi] at hn
      cases hn
      refine ⟨hi, fun u H2 y => ?_⟩
      obtain ⟨rfl, rfl⟩ := y
      exact ⟨Ev.refl _ _, rh1, .int _⟩
    · simp only [if_neg hi] at hn; cases hn
theorem si_r3 {tg a b c : Expr} {ta : TA} {m : Env → M (List IV)} {p pos : Pos} (hg : Gl X "range") (hm : X.mg "range" = none) (ha : SA X W [a, b, c] ta m)
    (hs : starEach [a, b, c] X.env = (false, eval a X.env) :: starEach [b, c] X.env := by rfl) (hpl : (backTo pos (starEach [b, c] X.env)).any (·.1) = false := by rfl) : SI X W tg (.Call (.Name "range" p) [a, b, c] [] pos) (iRng3 ta) (iR3 m) := by
  refine ⟨pi_range3 hg hm ha.pe hs hpl, fun σ H R φ h env re rh p => ?_⟩
  unfold iR3 at p
  refine ha.sim σ H _ φ h env re rh (p.bnd (Ev.refl _ _) fun φ1 H1 xs vs h1 e1 rh1 r1 p1 => ?_)
  split at p1
  · cases r1 with
    | cons a r1 =>
      cases a
      cases r1 with
      | cons a r1 =>
        cases a
        cases r1 with
        | cons a r1 =>
          cases a; cases r1
          split at p1
          · rename_i hj
            exact ⟨_, _, _, _, rfl, ⟨hj.1, hj.2.1, hj.2.2.1, (Int.toNat_of_nonneg hj.2.2.2).symm⟩, p1 φ1 H1 _ e1 rh1 (jrel_rngC _ _ _)⟩
          · exact p1.elim
  · exact p1.elim
theorem PG.or {tg : Expr} {g1 g2 : TG} (a : PG X tg g1) (b : PG X tg g2) : PG X tg (fun v σ H Q => g1 v σ H Q ∨ g2 v σ H Q) := ⟨fun pins s σ H v u Q I r h => h.elim (a.run pins s σ H v u Q I r) (b.run pins s σ H v u Q I r)⟩
theorem sg_tupLK (K : PySem.W.Frag) {es : List Expr} {k : Nat} {t : TGs} {m : MGs} {pos : Pos} (hc : X.calm = true) (h : SGs X es t m) (p1 : PG X (.Tuple es k pos) (gTup X.K es.length t)) (p2 : PG X (.Tuple es k pos) (gLst X.K es.length t)) (hK : X.K = K := by rfl) : SG X (.Tuple es k pos) (gTupL K es.length t) (gTL es.length m) := by
  subst hK
  refine ⟨PG.or p1 p2, fun σ H Q φ hh env x v re rh r p => ?_⟩
  cases r with
  | tup hs rs =>
    rename_i a xs vs
    unfold gTL at p
    simp only [] at p
    by_cases hl : xs.length = es.length
    · rw [if_pos hl] at p
      exact .inl ⟨a, vs, rfl, hs.sq, by rw [← rs.length]; exact hl, h.sim σ H Q φ hh env xs vs re rh rs p⟩
    · rw [if_neg hl] at p; exact p.elim
  | ref hn =>
    obtain ⟨o, eo, ro⟩ := rh.ob hn
    unfold gTL at p
    simp only [eo] at p
    cases o with
    | lst xs =>
      obtain ⟨vs, q, rs⟩ := ro
      simp only [] at p
      by_cases hl : xs.length = es.length
      · rw [if_pos hl] at p
        exact .inr ⟨_, vs, rfl, .inl (.inl q), by rw [← rs.length]; exact hl, h.sim σ H Q φ hh env xs vs re rh rs p⟩
      · rw [if_neg hl] at p; exact p.elim
    | dK _ => exact p.elim
    | dT _ => exact p.elim
  | _ => exact p.elim
theorem gin_tupL {K : PySem.W.Frag} {n : Nat} {u : TGs} {vs : List Nat} (b : GsIn u vs) : GIn (gTupL K n u) vs := fun v σ H Q q => by
  rcases q with q | q
  · exact .inl (gin_tup b v σ H Q q)
  · obtain ⟨a, xs, e1, e2, e3, q⟩ := q
    exact .inr ⟨a, xs, e1, e2, e3, b _ _ _ _ q⟩
theorem mono_tupL {K : PySem.W.Frag} {n : Nat} {u : TGs} (b : ∀ v σ H Q Q', (∀ s h, Q s h → Q' s h) → u v σ H Q → u v σ H Q') : ∀ v σ H Q Q', (∀ s h, Q s h → Q' s h) → gTupL K n u v σ H Q → gTupL K n u v σ H Q' := fun v σ H Q Q' f q => by
  rcases q with q | q
  · exact .inl (mono_tup b v σ H Q Q' f q)
  · obtain ⟨a, xs, e1, e2, e3, q⟩ := q
    exact .inr ⟨a, xs, e1, e2, e3, b _ _ _ _ _ f q⟩
end
section
variable {env : Env} {h : IH} {i j : Int}
@[simp] theorem maxO_int : maxO [.int i, .int j] h = some (.int (if j > i then j else i), h) := rfl
@[simp] theorem minO_int : minO [.int i, .int j] h = some (.int (if j < i then j else i), h) := rfl
@[simp] theorem WE_iR3 {m : Env → M (List IV)} {Q : IIt → IH → Prop} : WE (iR3 m env h) Q ↔ WE (m env h) fun xs h' => match xs with | [.int i, .int j, .int c] => if c ≠ 0 ∧ c.natAbs < 1073741824 ∧ Builtin.Range.small i j c = true ∧ 0 ≤ Builtin.Range.rangeSize i j c then Q (rngC i c (Builtin.Range.rangeSize i j c).toNat) h' else False | _ => False := by
  simp only [iR3, WE_bnd]
  constructor <;> intro w <;> refine w.mono fun x h1 q => ?_ <;> split at q <;> first | exact q | exact q.elim | (simpa only [WE_ite, WE_ok, WE_none] using q)
end
end L2.Sh

namespace L2.Sh
open PySem PySem.Spec PyProof.Rows L2
/-! ### str * int, list * int -/
def strRep (x : Str) (n : Int) : Str := if n < 1 then Str.empty else if (n == 1 || x.length == 0) = true then x else ⟨(List.replicate n.toNat x.cps).foldl (· ++ ·) #[]⟩
def mulS : O2 := fun x y h => match x, y with
  | .str i, .int k => if -9223372036854775808 ≤ k ∧ k < 9223372036854775808 ∧ i.length * k.toNat ≤ 16777216 then some (.str (strRep i k), h) else none
  | _, _ => none
def mulL : O2 := fun x y h => match x, y with
  | .ref n, .int k => match h[n]? with
    | some (.lst xs) => if -9223372036854775808 ≤ k ∧ k < 9223372036854775808 ∧ xs.length * k.toNat ≤ 16777216 then some (.ref h.length, h ++ [.lst (List.replicate k.toNat xs).flatten]) else none
    | _ => none
  | _, _ => none
def rMulS : R2 := fun x y H Q => ∃ i k, x = .str i ∧ y = .int k ∧ -(2 ^ 63) ≤ k ∧ k < 2 ^ 63 ∧ i.length * k.toNat ≤ sizeLine ∧ Q (.str (strRep i k)) H
section
variable {X : Cx} {W : WX}
theorem size_foldl (x : Array Nat) : ∀ (n : Nat) (acc : Array Nat), ((List.replicate n x).foldl (· ++ ·) acc).size = acc.size + x.size * n
  | 0, acc => by simp
  | n + 1, acc => by
    rw [List.replicate_succ, List.foldl_cons, size_foldl x n, Array.size_append, Nat.mul_succ]
    omega
theorem op_mulS : OpR X (binaryOp .Mult) rMulS := by
  intro pins s σ H x y v u Q I rx ry h
  obtain ⟨i, k, rfl, rfl, h1, h2, h3, q⟩ := h
  obtain ⟨t, rfl⟩ := rx
  obtain ⟨t', rfl⟩ := ry
  refine PySem.P.mul_str (by rw [decide_eq_false (by omega), decide_eq_false (by omega)]; rfl) (fun a b => ?_) (fun a b => ?_) ?_
  · rw [sizeLine_eq] at h3
    have : (i.length : Int) ≤ (2 ^ 63 - 1) / k := by
      rw [Int.le_ediv_iff_mul_le (by omega)]
      have : ((i.length * k.toNat : Nat) : Int) ≤ 16777216 := by omega
      rw [Int.natCast_mul, Int.toNat_of_nonneg (by omega)] at this
      omega
    omega
  · unfold Builtin.Str.tooLong
    exact decide_eq_false (by omega)
  · unfold strRep at q
    split
    · rename_i a
      rw [if_pos a] at q
      exact ⟨by decide, .str Str.empty, H, I.tok _, ⟨_, rfl⟩, q⟩
    · rename_i a
      rw [if_neg a] at q
      split
      · rename_i b
        rw [if_pos b] at q
        exact ⟨.str i, H, I, ⟨_, rfl⟩, q⟩
      · rename_i b
        rw [if_neg b] at q
        refine ⟨?_, .str _, H, I.tok _, ⟨_, rfl⟩, q⟩
        show ((List.replicate k.toNat i.cps).foldl (· ++ ·) #[]).size ≤ _
        rw [size_foldl]
        simp only [Array.size_empty, Nat.zero_add]
        exact h3
theorem so_mulS : SOp X (binaryOp .Mult) rMulS mulS := ⟨op_mulS, by
  intro H Q φ h x y vx vy rh rx ry p
  unfold mulS at p
  split at p
  · cases rx; cases ry
    split at p
    · rename_i hc
      exact ⟨_, _, rfl, rfl, by omega, by omega, by rw [line16]; exact hc.2.2, p.give rh (.str _)⟩
    · exact p.elim
  · exact p.elim⟩
theorem RVs.rep {K : PySem.W.Frag} {φ : List Addr} {H : Hp} {xs : List IV} {vs : List V} (r : RVs K φ H xs vs) : ∀ n : Nat, RVs K φ H (List.replicate n xs).flatten (List.replicate n vs).flatten
  | 0 => .nil
  | n + 1 => by
    rw [List.replicate_succ, List.replicate_succ, List.flatten_cons, List.flatten_cons]
    exact r.append (RVs.rep r n)
theorem so_mulL : SOp X (binaryOp .Mult) rRep mulL := ⟨op_rep, by
  intro H Q φ h x y vx vy rh rx ry p
  unfold mulL at p
  split at p
  · rename_i n k
    cases ry
    cases rx with
    | ref hn =>
      rename_i a
      obtain ⟨o, eo, ro⟩ := rh.ob hn
      simp only [eo] at p
      cases o with
      | lst xs =>
        obtain ⟨us, q, rr⟩ := ro
        simp only [] at p
        split at p
        · rename_i hc
          exact ⟨a, k, us, rfl, rfl, q, by omega, by omega, by rw [line16, ← rr.length]; exact hc.2.2, fun p2 hp => post_new (o := .lst _) rh hp ⟨_, upd_same, (rr.rep _).ev (ev_new hp _)⟩ p⟩
        · exact p.elim
      | dK _ => exact p.elim
      | dT _ => exact p.elim
  · exact p.elim⟩
abbrev mulO : O2 := orO mulI (orO mulS mulL)
theorem so_mul : SOp X (binaryOp .Mult) (rOr (rI CMulW fun i j => .int (i * j)) (rOr rMulS rRep)) mulO := so_mulI.or (so_mulS.or so_mulL)
/-! ### int(b), divmod -/
def intB : O1 := fun xs h => match xs with
  | [.int i] => some (.int i, h)
  | [.bl b] => some (.int (if b then 1 else 0), h)
  | _ => none
theorem sc_intB : SCall X (.type "int") (fun xs H Q => (∃ i, xs = [.int i] ∧ Q (.int i) H) ∨ ∃ k, xs = [.bl k] ∧ Q (.int (if k then 1 else 0)) H) intB := ⟨call_int1, by
  intro H Q φ h xs vs rh rs p
  unfold intB at p
  split at p
  · cases rs with
    | cons r1 r2 => cases r1; cases r2; exact .inl ⟨_, rfl, p.give rh (.int _)⟩
  · cases rs with
    | cons r1 r2 => cases r1; cases r2; exact .inr ⟨_, rfl, p.give rh (.int _)⟩
  · exact p.elim⟩
abbrev intO : O1 := or1 intB intT
theorem sc_intO : SCall X (.type "int") (fun xs H Q => ((∃ i, xs = [.int i] ∧ Q (.int i) H) ∨ ∃ k, xs = [.bl k] ∧ Q (.int (if k then 1 else 0)) H) ∨ ∃ a n, xs = [.str a] ∧ PySem.intText? a = some n ∧ a.length ≤ 640 ∧ Q (.int n) H) intO := sc_intB.or sc_int
def dmO : O1 := fun xs h => match xs with
  | [.int i, .int j] => if 0 < j ∧ j.natAbs.log2 < 9000 then some (.tup [.int (i / j), .int (i % j)], h) else none
  | _ => none
theorem sc_dm : SCall X (.builtin "divmod") (fun xs H Q => ∃ i j, xs = [.int i, .int j] ∧ CDivP i j ∧ NewT Q H [.int (i / j), .int (i % j)]) dmO := ⟨call_divmodF, by
  intro H Q φ h xs vs rh rs p
  unfold dmO at p
  split at p
  · cases rs with
    | cons r1 r2 =>
      cases r2 with
      | cons r2 r3 =>
        cases r1; cases r2; cases r3
        split at p
        · rename_i hc
          exact ⟨_, _, rfl, ⟨hc.1, PyProof.noPylong_of_log2 hc.2⟩, fun l o hl ho => p φ _ _ (ev_new0 hl) (rh.beside hl) (.tup (.inl ⟨o, upd_same, ho⟩) (.cons (.int _) (.cons (.int _) .nil)))⟩
        · exact p.elim
  · exact p.elim⟩
/-! ### list.extend, list.pop(i), list.pop() -/
def extO : IV → List IV → IH → Option (IV × IH) := fun x vs h => match x, vs with
  | .ref n, [.ref m] => match h[n]?, h[m]? with
    | some (.lst xs), some (.lst ys) => if xs.length + ys.length ≤ 16777216 then some (.non, h.set n (.lst (xs ++ ys))) else none
    | _, _ => none
  | _, _ => none
theorem sm_extend : SMt X "list.extend" rExtend extO := ⟨mt_extend, by
  intro H Q φ h x xs vx vs rh rx rs p
  unfold extO at p
  split at p
  · rename_i n m
    cases rx with
    | ref hn =>
      cases rs with
      | cons r1 r2 =>
        cases r2
        cases r1 with
        | ref hm =>
          rename_i a b
          obtain ⟨o, eo, ro⟩ := rh.ob hn
          obtain ⟨o2, eo2, ro2⟩ := rh.ob hm
          simp only [eo, eo2] at p
          cases o with
          | lst ys =>
            cases o2 with
            | lst zs =>
              obtain ⟨us, q, rr⟩ := ro
              obtain ⟨us2, q2, rr2⟩ := ro2
              simp only [] at p
              split at p
              · rename_i hl
                exact ⟨a, b, us, us2, rfl, rfl, q, q2, by rw [line16, ← rr.length, ← rr2.length]; exact hl, post_put (o := .lst (ys ++ zs)) rh hn q rfl (fun _ e => ⟨_, upd_same, (rr.append rr2).ev (ev_put q rfl)⟩) .non p⟩
              · exact p.elim
            | dK _ => exact p.elim
            | dT _ => exact p.elim
          | dK _ => exact p.elim
          | dT _ => exact p.elim
  · exact p.elim⟩
def popO : IV → List IV → IH → Option (IV × IH) := fun x vs h => match x, vs with
  | .ref n, [.int i] => match h[n]? with
    | some (.lst xs) => if -9223372036854775808 ≤ i ∧ i < 9223372036854775808 then match seqIndex? i xs.length with
      | some k => match xs[k]? with
        | some y => some (y, h.set n (.lst (xs.eraseIdx k)))
        | none => none
      | none => none else none
    | _ => none
  | _, _ => none
theorem sm_pop : SMt X "list.pop" rPopAt popO := ⟨mt_popAt, by
  intro H Q φ h x xs vx vs rh rx rs p
  unfold popO at p
  split at p
  · rename_i n i
    cases rx with
    | ref hn =>
      cases rs with
      | cons r1 r2 =>
        cases r1; cases r2
        rename_i a
        obtain ⟨o, eo, ro⟩ := rh.ob hn
        simp only [eo] at p
        cases o with
        | lst ys =>
          obtain ⟨us, q, rr⟩ := ro
          simp only [] at p
          split at p
          · rename_i hl
            split at p
            · rename_i k hk
              split at p
              · rename_i y hy
                obtain ⟨u, hu, ru⟩ := rr.get hy
                exact ⟨a, us, i, k, u, rfl, rfl, q, by omega, by omega, by rw [← rr.length]; exact hk, hu, post_put (o := .lst (ys.eraseIdx k)) rh hn q rfl (fun _ e => ⟨_, upd_same, (rr.eraseIdx k).ev (ev_put q rfl)⟩) (ru.ev (ev_put q rfl)) p⟩
              · exact p.elim
            · exact p.elim
          · exact p.elim
        | dK _ => exact p.elim
        | dT _ => exact p.elim
  · exact p.elim⟩
/-! ### list(range(..)), tuple(range(..)) -/
def rgI (a b : Int) : List IV := (List.range (b - a).toNat).map fun i => IV.int (a + (i : Nat))
theorem rgI_rel {K : PySem.W.Frag} {φ : List Addr} {H : Hp} (a b : Int) : RVs K φ H (rgI a b) (rgV a b) := by
  unfold rgI rgV
  generalize List.range (b - a).toNat = l
  induction l with
  | nil => exact .nil
  | cons x l ih => exact .cons (.int _) ih
def rgL : IV → IH → Option (IV × IH) := fun x h => match x with
  | .int j => if j ≤ 16777216 ∧ -4611686018427387904 ≤ j then some (.ref h.length, h ++ [.lst (rgI 0 j)]) else none
  | _ => none
def rgT : IV → IH → Option (IV × IH) := fun x h => match x with
  | .int j => if j ≤ 16777216 ∧ -4611686018427387904 ≤ j then some (.tup (rgI 0 j), h) else none
  | _ => none
theorem rg_ok {j : Int} (h : j ≤ 16777216 ∧ -4611686018427387904 ≤ j) : RgOk 0 j := ⟨by omega, by omega, by omega, by omega, by omega⟩
theorem se_gint {x : Str} {i : Int} {pos : Pos} (h : ∃ t, X.mg x = some (.int i t)) (hg : Gl X x := by rfl) (hd : (x == ("__debug__" : Str)) = false := by decide) : SE X W (.Name x pos) (tC (.int i)) (eC (.int i)) :=
  let ⟨_, e⟩ := h; se_const (pe_glob hg e ⟨_, rfl⟩ hd) fun _ _ => .int _
theorem se_gstr {x i : Str} {pos : Pos} (h : ∃ t, X.mg x = some (.str i t)) (hg : Gl X x := by rfl) (hd : (x == ("__debug__" : Str)) = false := by decide) : SE X W (.Name x pos) (tC (.str i)) (eC (.str i)) :=
  let ⟨_, e⟩ := h; se_const (pe_glob hg e ⟨_, rfl⟩ hd) fun _ _ => .str _
theorem se_rgL {a : Expr} {t : TE} {m : Env → M IV} {p p2 pos pos2 : Pos} (hc : X.calm = true) (hg : Gl X "range") (hm : X.mg "range" = none) (hg2 : Gl X "list") (hm2 : X.mg "list" = none) (ha : SE X W a t m)
    (na : starEach [a] X.env = (false, eval a X.env) :: starEach [] X.env := by rfl) (na2 : starEach [.Call (.Name "range" p) [a] [] pos] X.env = (false, eval (.Call (.Name "range" p) [a] [] pos) X.env) :: starEach [] X.env := by rfl) :
    SE X W (.Call (.Name "list" p2) [.Call (.Name "range" p) [a] [] pos] [] pos2) (tLstRg (tRg1 t)) (eUn rgL m) := by
  refine ⟨pe_listRg hc hg2 hm2 (prg_1 hg hm ha.pe na) na2, fun σ H Q φ h env re rh p => ?_⟩
  refine ha.sim σ H _ φ h env re rh (p.bnd (Ev.refl _ _) fun φ1 H1 x v h1 e1 rh1 r1 p1 => ?_)
  have p2 := PostO.of p1 e1
  unfold rgL at p2
  cases r1 <;> first | exact p2.elim | skip
  simp only [] at p2
  split at p2
  · rename_i hj
    exact ⟨_, rfl, rg_ok hj, fun q hq => post_new (o := .lst _) rh1 hq ⟨_, upd_same, rgI_rel _ _⟩ p2⟩
  · exact p2.elim
theorem se_rgT {a : Expr} {t : TE} {m : Env → M IV} {p p2 pos pos2 : Pos} (hc : X.calm = true) (hg : Gl X "range") (hm : X.mg "range" = none) (hg2 : Gl X "tuple") (hm2 : X.mg "tuple" = none) (ha : SE X W a t m)
    (na : starEach [a] X.env = (false, eval a X.env) :: starEach [] X.env := by rfl) (na2 : starEach [.Call (.Name "range" p) [a] [] pos] X.env = (false, eval (.Call (.Name "range" p) [a] [] pos) X.env) :: starEach [] X.env := by rfl) :
    SE X W (.Call (.Name "tuple" p2) [.Call (.Name "range" p) [a] [] pos] [] pos2) (tTupRgF (tRg1 t)) (eUn rgT m) := by
  refine ⟨pe_tupRgF hc hg2 hm2 (prg_1 hg hm ha.pe na) na2, fun σ H Q φ h env re rh p => ?_⟩
  refine ha.sim σ H _ φ h env re rh (p.bnd (Ev.refl _ _) fun φ1 H1 x v h1 e1 rh1 r1 p1 => ?_)
  have p2 := PostO.of p1 e1
  unfold rgT at p2
  cases r1 <;> first | exact p2.elim | skip
  simp only [] at p2
  split at p2
  · rename_i hj
    exact ⟨_, rfl, rg_ok hj, fun q o hq ho => p2 φ1 _ _ (ev_new0 hq) (rh1.beside hq) (.tup (.inl ⟨o, upd_same, ho⟩) (rgI_rel _ _))⟩
  · exact p2.elim
end
section
variable {h : IH} {i j : Int}
@[simp] theorem mulO_int : mulO (.int i) (.int j) h = mulI (.int i) (.int j) h := by
  unfold mulO orO
  cases e : mulI (.int i) (.int j) h <;> rfl
@[simp] theorem mulO_str {x : Str} (h1 : -9223372036854775808 ≤ i ∧ i < 9223372036854775808) (h2 : x.length * i.toNat ≤ 16777216) : mulO (.str x) (.int i) h = some (.str (strRep x i), h) := by
  unfold mulO orO mulI mulS
  simp only []
  rw [if_pos ⟨h1.1, h1.2, h2⟩]
theorem mulO_ref {n : Nat} {xs : List IV} (e : h[n]? = some (.lst xs)) (h1 : -9223372036854775808 ≤ i ∧ i < 9223372036854775808) (h2 : xs.length * i.toNat ≤ 16777216) : mulO (.ref n) (.int i) h = some (.ref h.length, h ++ [.lst (List.replicate i.toNat xs).flatten]) := by
  unfold mulO orO mulI mulS mulL
  simp only [e]
  rw [if_pos ⟨h1.1, h1.2, h2⟩]
@[simp] theorem intO_int : intO [.int i] h = some (.int i, h) := rfl
@[simp] theorem intO_bl {b : Bool} : intO [.bl b] h = some (.int (if b = true then 1 else 0), h) := rfl
theorem dmO_int (h1 : 0 < j) (h2 : j.natAbs.log2 < 9000) : dmO [.int i, .int j] h = some (.tup [.int (i / j), .int (i % j)], h) := by
  unfold dmO
  simp only []
  rw [if_pos ⟨h1, h2⟩]
theorem extO_ref {n m : Nat} {xs ys : List IV} (e : h[n]? = some (.lst xs)) (e2 : h[m]? = some (.lst ys)) (hl : xs.length + ys.length ≤ 16777216) : extO (.ref n) [.ref m] h = some (.non, h.set n (.lst (xs ++ ys))) := by
  unfold extO
  simp only [e, e2]
  rw [if_pos hl]
theorem rgL_int (h1 : j ≤ 16777216) (h2 : -4611686018427387904 ≤ j) : rgL (.int j) h = some (.ref h.length, h ++ [.lst (rgI 0 j)]) := by
  unfold rgL
  simp only []
  rw [if_pos ⟨h1, h2⟩]
theorem rgT_int (h1 : j ≤ 16777216) (h2 : -4611686018427387904 ≤ j) : rgT (.int j) h = some (.tup (rgI 0 j), h) := by
  unfold rgT
  simp only []
  rw [if_pos ⟨h1, h2⟩]
end
end L2.Sh

namespace L2.Sh
open PySem PySem.Spec PyProof.Rows L2
/-! ### data: values in which no list or dict stands -/
mutual
def dat : IV → Option PyData
  | .non => some .none
  | .bl b => some (.bool b)
  | .int i => some (.int i)
  | .str x => some (.str x)
  | .tup xs => (dats xs).map PyData.tuple
  | _ => none
def dats : List IV → Option (List PyData)
  | [] => some []
  | x :: xs => match dat x, dats xs with
    | some d, some ds => some (d :: ds)
    | _, _ => none
end
mutual
theorem toD_dat (h : IH) (n : Nat) : ∀ {x : IV} {d : PyData}, dat x = some d → toD h n x = some d
  | .non, d, e => by rw [toD]; simpa [dat] using e
  | .bl b, d, e => by rw [toD]; simpa [dat] using e
  | .int i, d, e => by rw [toD]; simpa [dat] using e
  | .str x, d, e => by rw [toD]; simpa [dat] using e
  | .tup xs, d, e => by
    rw [dat] at e
    cases q : dats xs with
    | none => rw [q] at e; cases e
    | some ds =>
      rw [q] at e
      rw [toD, toDs_dats h n q]
      exact e
theorem toDs_dats (h : IH) (n : Nat) : ∀ {xs : List IV} {ds : List PyData}, dats xs = some ds → toDs h n xs = some ds
  | [], ds, e => by rw [toDs]; simpa [dats] using e
  | x :: xs, ds, e => by
    rw [dats] at e
    cases q : dat x with
    | none => rw [q] at e; cases e
    | some d =>
      cases q2 : dats xs with
      | none => rw [q, q2] at e; cases e
      | some ds2 =>
        rw [q, q2] at e
        rw [toDs, toD_dat h n q, toDs_dats h n q2]
        exact e
end
theorem toD_list {h : IH} {k : Nat} {xs : List IV} {ds : List PyData} (e : h[k]? = some (.lst xs)) (q : dats xs = some ds) : toD h 64 (.ref k) = some (.list ds) := by
  rw [toD, e]
  simp only [toDs_dats h 63 q]
  rfl
mutual
theorem eqv_refl : ∀ d : PyData, d.canLay0 = true → PyData.eqv d d = true
  | .none, _ => by simp [PyData.eqv]
  | .bool _, _ => by simp [PyData.eqv]
  | .int _, _ => by simp [PyData.eqv]
  | .str _, _ => by simp [PyData.eqv]
  | .list xs, h => by rw [PyData.eqv]; exact eqvAll_refl xs (by simpa [PyData.canLay0] using h)
  | .tuple xs, h => by rw [PyData.eqv]; exact eqvAll_refl xs (by simpa [PyData.canLay0] using h)
  | .dict _, h => by simp [PyData.canLay0] at h
theorem eqvAll_refl : ∀ ds : List PyData, PyData.canLayAll0 ds = true → PyData.eqvAll ds ds = true
  | [], _ => by simp [PyData.eqvAll]
  | d :: ds, h => by
    rw [PyData.canLayAll0, Bool.and_eq_true] at h
    rw [PyData.eqvAll, eqv_refl d h.1, eqvAll_refl ds h.2]
    rfl
end
/-- the data of depth at most k with good texts -/
def Shp (k : Nat) (d : PyData) : Prop := d.canLay0 = true ∧ d.depth ≤ k
theorem Shp.shaped {k : Nat} {d : PyData} (s : Shp k d) (h : k ≤ 64) : SeqAt.shaped d = true := by
  unfold SeqAt.shaped
  rw [s.1, decide_eq_true (Nat.le_trans s.2 h)]
  rfl
theorem Shp.mono {j k : Nat} {d : PyData} (s : Shp j d) (h : j ≤ k) : Shp k d := ⟨s.1, Nat.le_trans s.2 h⟩
theorem Shp.all {k : Nat} : ∀ {ds : List PyData}, (∀ d ∈ ds, Shp k d) → PyData.canLayAll0 ds = true ∧ PyData.depthAll ds ≤ k
  | [], _ => ⟨by simp [PyData.canLayAll0], by simp [PyData.depthAll]⟩
  | d :: ds, h => by
    obtain ⟨a, b⟩ := h d List.mem_cons_self
    obtain ⟨a2, b2⟩ := Shp.all fun x hx => h x (List.mem_cons_of_mem _ hx)
    rw [PyData.canLayAll0, PyData.depthAll, a, a2]
    exact ⟨rfl, Nat.max_le.mpr ⟨b, b2⟩⟩
theorem Shp.tup {k : Nat} {ds : List PyData} (h : ∀ d ∈ ds, Shp k d) : Shp (k + 1) (.tuple ds) := by
  obtain ⟨a, b⟩ := Shp.all h
  refine ⟨by rw [PyData.canLay0]; exact a, ?_⟩
  rw [PyData.depth]; omega
theorem Shp.lst {k : Nat} {ds : List PyData} (h : ∀ d ∈ ds, Shp k d) : Shp (k + 1) (.list ds) := by
  obtain ⟨a, b⟩ := Shp.all h
  refine ⟨by rw [PyData.canLay0]; exact a, ?_⟩
  rw [PyData.depth]; omega
theorem Shp.int (i : Int) (k : Nat) : Shp k (.int i) := ⟨by rw [PyData.canLay0], by rw [PyData.depth]; omega⟩
theorem Shp.bool (i : Bool) (k : Nat) : Shp k (.bool i) := ⟨by rw [PyData.canLay0], by rw [PyData.depth]; omega⟩
theorem Shp.none (k : Nat) : Shp k .none := ⟨by rw [PyData.canLay0], by rw [PyData.depth]; omega⟩
theorem Shp.str {x : Str} (h : PyData.strOk x = true) (k : Nat) : Shp k (.str x) := ⟨by rw [PyData.canLay0]; exact h, by rw [PyData.depth]; omega⟩
theorem dats_map {α : Type} {f : α → IV} {g : α → PyData} (h : ∀ a, dat (f a) = some (g a)) : ∀ xs : List α, dats (xs.map f) = some (xs.map g)
  | [] => by simp [dats]
  | x :: xs => by simp only [List.map_cons, dats, h x, dats_map h xs]
@[simp] theorem dat_int (i : Int) : dat (.int i) = some (.int i) := by simp [dat]
@[simp] theorem dat_str (i : Str) : dat (.str i) = some (.str i) := by simp [dat]
@[simp] theorem dat_bl (i : Bool) : dat (.bl i) = some (.bool i) := by simp [dat]
@[simp] theorem dat_non : dat .non = some .none := by simp [dat]
theorem dat_tup {xs : List IV} {ds : List PyData} (h : dats xs = some ds) : dat (.tup xs) = some (.tuple ds) := by rw [dat, h]; rfl
theorem eqO_tt {h : IH} {xs ys : List IV} {d e : PyData} (hx : dat (.tup xs) = some d) (hy : dat (.tup ys) = some e) {k : Nat} (hk : k ≤ 64) (sd : Shp k d) (se : Shp k e) : eqO (.tup xs) (.tup ys) h = some (.bl (PyData.eqv d e), h) := by
  have : eqD id (.tup xs) (.tup ys) h = some (.bl (PyData.eqv d e), h) := by
    simp only [eqD, toD_dat h 64 hx, toD_dat h 64 hy, sd.shaped hk, se.shaped hk, and_self, if_true, id]
  unfold eqO orO
  simpa [eqS] using this
theorem neO_tt {h : IH} {xs ys : List IV} {d e : PyData} (hx : dat (.tup xs) = some d) (hy : dat (.tup ys) = some e) {k : Nat} (hk : k ≤ 64) (sd : Shp k d) (se : Shp k e) : neO (.tup xs) (.tup ys) h = some (.bl (!PyData.eqv d e), h) := by
  have : eqD not (.tup xs) (.tup ys) h = some (.bl (!PyData.eqv d e), h) := by
    simp only [eqD, toD_dat h 64 hx, toD_dat h 64 hy, sd.shaped hk, se.shaped hk, and_self, if_true]
  unfold neO orO
  simpa [eqS] using this
theorem eqO_ll {h : IH} {a b : Nat} {xs ys : List IV} {ds es : List PyData} (ea : h[a]? = some (.lst xs)) (eb : h[b]? = some (.lst ys)) (hx : dats xs = some ds) (hy : dats ys = some es) {k : Nat} (hk : k ≤ 64) (sd : Shp k (.list ds)) (se : Shp k (.list es)) :
    eqO (.ref a) (.ref b) h = some (.bl (PyData.eqvAll ds es), h) := by
  have : eqD id (.ref a) (.ref b) h = some (.bl (PyData.eqvAll ds es), h) := by
    simp only [eqD, toD_list ea hx, toD_list eb hy, sd.shaped hk, se.shaped hk, and_self, if_true, id, PyData.eqv]
  unfold eqO orO
  simpa [eqS] using this
theorem neO_ll {h : IH} {a b : Nat} {xs ys : List IV} {ds es : List PyData} (ea : h[a]? = some (.lst xs)) (eb : h[b]? = some (.lst ys)) (hx : dats xs = some ds) (hy : dats ys = some es) {k : Nat} (hk : k ≤ 64) (sd : Shp k (.list ds)) (se : Shp k (.list es)) :
    neO (.ref a) (.ref b) h = some (.bl (!PyData.eqvAll ds es), h) := by
  have : eqD not (.ref a) (.ref b) h = some (.bl (!PyData.eqvAll ds es), h) := by
    simp only [eqD, toD_list ea hx, toD_list eb hy, sd.shaped hk, se.shaped hk, and_self, if_true, PyData.eqv]
  unfold neO orO
  simpa [eqS] using this
/-! ### heaps that grow -/
/-- only place n is other, and what is behind the old end is new -/
structure Dr (n : Nat) (h h' : IH) : Prop where
  len : h.length ≤ h'.length
  at_ : ∀ k, k < h.length → k ≠ n → h'[k]? = h[k]?
theorem Dr.refl (n : Nat) (h : IH) : Dr n h h := ⟨Nat.le_refl _, fun _ _ _ => rfl⟩
theorem Dr.trans {n : Nat} {a b c : IH} (x : Dr n a b) (y : Dr n b c) : Dr n a c := ⟨Nat.le_trans x.len y.len, fun k hk hn => (y.at_ k (Nat.lt_of_lt_of_le hk x.len) hn).trans (x.at_ k hk hn)⟩
theorem Dr.app (n : Nat) (h g : IH) : Dr n h (h ++ g) := ⟨by rw [List.length_append]; omega, fun k hk _ => List.getElem?_append_left hk⟩
/-- a place of the new part is written -/
theorem Dr.put {n m : Nat} {a b : IH} {o : IO} (x : Dr n a b) (hm : a.length ≤ m) : Dr n a (b.set m o) := ⟨by rw [List.length_set]; exact x.len, fun k hk hn => (List.getElem?_set_ne (by omega)).trans (x.at_ k hk hn)⟩
theorem Dr.put_n {n : Nat} {a b : IH} {o : IO} (x : Dr n a b) : Dr n a (b.set n o) := ⟨by rw [List.length_set]; exact x.len, fun k hk hn => (List.getElem?_set_ne (Ne.symm hn)).trans (x.at_ k hk hn)⟩
theorem Dr.get {n m : Nat} {a b : IH} {o : IO} (x : Dr n a b) (e : a[m]? = some o) (hn : m ≠ n) : b[m]? = some o := (x.at_ m (List.getElem?_eq_some_iff.mp e).1 hn).trans e
/-- a comprehension; w is the place of a well that its parts may draw from -/
theorem comp_dr {it : IIt} {g : MG} {c : Env → M Bool} {b : Env → M IV} {env : Env} {h : IH} {Q : IV → IH → Prop} (w : Nat) (hw : w < h.length) (vs : List IV) (hl : vs.length < 16777216) (I : IH → Prop) (J : Nat → List IV → Prop)
    (hit : ∀ i h', Dr w h h' → it.nxt i h' = some vs[i]?) (hI : I (h ++ [.lst []])) (hIw : ∀ h' xs, I h' → Dr w h h' → I (h'.set h.length (.lst xs))) (h0 : J 0 [])
    (hs : ∀ i x ys h', vs[i]? = some x → J i ys → Dr w h h' → h.length < h'.length → I h' → ∃ e1, g x env h' = some e1 ∧ WE (c e1 h') fun t h1 => Dr w h' h1 ∧ I h1 ∧ if t = true then WE (b e1 h1) fun y h2 => Dr w h1 h2 ∧ I h2 ∧ J (i + 1) (ys ++ [y]) else J (i + 1) ys)
    (hj : ∀ i ys, J i ys → ys.length ≤ i) (hQ : ∀ ys h', J vs.length ys → Dr w h h' → I h' → h'[h.length]? = some (.lst ys) → Q (.ref h.length) h') : WE (compLoop it g c b env h.length FU 0 (h ++ [.lst []])) Q := by
  have hwn : h.length ≠ w := by omega
  refine WE_comp vs.length (fun i h' => Dr w h h' ∧ I h' ∧ ∃ ys, J i ys ∧ h'[h.length]? = some (.lst ys)) ?_ ?_ FU 0 _ (Nat.zero_le _) ⟨Dr.app _ _ _, hI, [], h0, by simp⟩ (FU_lt64 (by omega))
  · rintro i h' hi ⟨d, iv, ys, j, e⟩
    have hx : vs[i]? = some vs[i] := List.getElem?_eq_getElem hi
    refine ⟨vs[i], by rw [hit i h' d, hx], ?_⟩
    have hlt := (List.getElem?_eq_some_iff.mp e).1
    obtain ⟨e1, eg, q⟩ := hs i vs[i] ys h' hx j d hlt iv
    refine ⟨e1, eg, q.mono fun t h1 ⟨d1, i1, q1⟩ => ?_⟩
    cases t with
    | false => exact ⟨d.trans d1, i1, ys, by simpa using q1, d1.get e hwn⟩
    | true =>
      rw [if_pos rfl] at q1 ⊢
      refine q1.mono fun y h2 ⟨d2, i2, j2⟩ => ?_
      have e2 := d2.get (d1.get e hwn) hwn
      have dd := (d.trans d1).trans d2
      refine ⟨ys, e2, ?_, dd.put (Nat.le_refl _), hIw h2 _ i2 dd, ys ++ [y], j2, List.getElem?_set_self (List.getElem?_eq_some_iff.mp e2).1⟩
      have := hj i ys j
      omega
  · rintro h' ⟨d, iv, ys, j, e⟩
    exact ⟨by rw [hit _ h' d]; simp, hQ ys h' j d iv e⟩
theorem hit_rng {n : Nat} {lo : Int} {w : Nat} {h : IH} : ∀ i h', Dr w h h' → (rngIt lo n).nxt i h' = some ((List.range n).map fun k => IV.int (lo + (k : Nat)))[i]? := by
  intro i h' _
  unfold rngIt
  by_cases hi : i < n
  · simp [hi]
  · simp [hi]
theorem hit_tup {xs : List IV} {w : Nat} {h : IH} : ∀ i h', Dr w h h' → (IIt.mk fun i _ => some xs[i]?).nxt i h' = some xs[i]? := fun _ _ _ => rfl
theorem hit_ref {xs : List IV} {n w : Nat} {h : IH} (e : h[n]? = some (.lst xs)) (hn : n ≠ w) : ∀ i h', Dr w h h' → (refIt n).nxt i h' = some xs[i]? := fun i h' d => refIt_nxt (d.get e hn)
end L2.Sh

namespace L2.Sh
open PySem PySem.Spec PyProof.Rows L2
/-! ### methods that a list has and a tuple has -/
def tyT (K : PySem.W.Frag) (x : V) (H : Hp) : Prop := ∃ p xs, x = .ref p ∧ TupN K H p xs
theorem tyT_is {X : Cx} {pins : List (Addr × Obj)} {σ : St} {H : Hp} {s : Shared} {x : V} {v : Value} (I : Inv X pins σ H s) (r : RelV x v) (ty : tyT X.K x H) :
    s.TypeIs v "tuple" ∧ ∀ a, v = .ref a → ∃ ob, s.heap.get? a = some ob ∧ ob.dict = none := by
  obtain ⟨p, xs, rfl, h⟩ := ty
  cases r
  rcases h with ⟨o, z, d⟩ | ⟨o, its, n, z, c, d, _⟩
  · obtain ⟨e, _, its, _, o', e', c, _⟩ := I.hok p _ z
    rw [e] at e'
    cases e'
    exact ⟨⟨o, e, c⟩, fun a q => by cases q; exact ⟨o, e, d⟩⟩
  · exact ⟨⟨o, I.kIn p o z, c⟩, fun a q => by cases q; exact ⟨o, I.kIn p o z, d⟩⟩
def tBMU (K : PySem.W.Frag) (r r' : V → List V → Hp → VK → Prop) (to : TE) (t : TA) : TE := fun σ H Q => to σ H fun x H1 => (tyV K "list" x H1 ∧ t σ H1 fun xs H2 => r x xs H2 Q) ∨ (tyT K x H1 ∧ t σ H1 fun xs H2 => r' x xs H2 Q)
section
variable {X : Cx} {W : WX} {o e : Expr} {es : List Expr} {to : TE} {t : TA} {name : Str} {apos cpos : Pos} {id id' : String} {r r' : V → List V → Hp → VK → Prop}
theorem pe_bmU (pa : PlainAttrs "list") (slot : Slot "list" name id) (hty : typeOf (.builtin id) = pure (.type "method_descriptor")) (pa' : PlainAttrs "tuple") (slot' : Slot "tuple" name id') (hty' : typeOf (.builtin id') = pure (.type "method_descriptor")) (hm : MtR X id r) (hm' : MtR X id' r') (ho : PE X o to) (ha : PA X (e :: es) t)
    (hbase : attributeBase o name X.env (eval o X.env) = eval o X.env := by rfl)
    (hfew : ((backTo cpos (starEach (e :: es) X.env)).all (fun x => !x.1) && (backToKw cpos (keywordEach [] X.env)).all (fun x => x.1.isSome)
      && decide ((e :: es).length + ([] : List Keyword).length + (if ([] : List Keyword).isEmpty then 0 else 1) < 30)) = true := by rfl)
    (hline : (apos.endLine == cpos.line) = true := by rfl) (hs : starEach (e :: es) X.env = (false, eval e X.env) :: starEach es X.env := by rfl) (hplain : (backTo cpos (starEach es X.env)).any (·.1) = false := by rfl) :
    PE X (.Call (.Attribute o name apos) (e :: es) [] cpos) (tBMU X.K r r' to t) := by
  refine ⟨fun pins s σ H Q I h => ?_⟩
  refine wpAny_Call_method_late hbase hfew hline rfl (thn (ho.run pins s σ H _ I h) fun v s1 ⟨x, H1, I1, r1, q⟩ => ?_)
  rcases q with ⟨ty, q1⟩ | ⟨ty, q1⟩
  · obtain ⟨h1, h2⟩ := tyV_is I1 r1 ty
    refine ⟨"list", id, pa, slot, hty, h1, h2, ?_⟩
    have hA := ha.run cpos pins s1 σ H1 _ I1 q1
    rw [hs] at hA ⊢
    refine Calls.callWith_builtin (by show (false || (backTo cpos (starEach es X.env)).any (·.1)) = false; rw [hplain] <;> rfl) (Calls.evalArgs_plain ?_)
    exact thn hA fun us s2 ⟨vs, H2, I2, r2, q2⟩ => hm pins s2 σ H2 x vs v us Q I2 r1 r2 q2
  · obtain ⟨h1, h2⟩ := tyT_is I1 r1 ty
    refine ⟨"tuple", id', pa', slot', hty', h1, h2, ?_⟩
    have hA := ha.run cpos pins s1 σ H1 _ I1 q1
    rw [hs] at hA ⊢
    refine Calls.callWith_builtin (by show (false || (backTo cpos (starEach es X.env)).any (·.1)) = false; rw [hplain] <;> rfl) (Calls.evalArgs_plain ?_)
    exact thn hA fun us s2 ⟨vs, H2, I2, r2, q2⟩ => hm' pins s2 σ H2 x vs v us Q I2 r1 r2 q2
/-- t.index(x), flat things -/
def rIndexT (K : PySem.W.Frag) : V → List V → Hp → VK → Prop := fun x xs H Q => ∃ (a : Addr) (ys : List V) (y : V) (j : Nat) (z : V), x = V.ref a ∧ xs = [y] ∧ SqT K H a ys ∧ flatV y = true ∧ ys.all flatV = true ∧ ys[j]? = some z ∧ eqV z y = true ∧
  (∀ (m : Nat) (z' : V), m < j → ys[m]? = some z' → eqV z' y = false) ∧ Q (.int (j : Nat)) H
theorem mt_indexT : MtR X "tuple.index" (rIndexT X.K) := by
  intro pins s σ H x xs v us Q I rx rxs h
  obtain ⟨a, ys, y, j, z, rfl, rfl, hs, fy, fys, hz, hzj, hno, q⟩ := h
  cases rx
  cases rxs with
  | cons ry rt =>
    rename_i uy ut
    cases rt
    obtain ⟨its, rv, ⟨⟨cls, dd, data, sl⟩, ho, hc, n, hd⟩, hlen⟩ := I.tuple hs
    simp only at hc hd
    subst hc hd
    obtain ⟨u, hu, ru⟩ := rv.get hz
    obtain ⟨hjl, hje⟩ := List.getElem?_eq_some_iff.mp hu
    have hvl := rv.length
    have hj : j < its.toArray.size := by simpa using hjl
    refine call_meets PySem.F.slot_tuple_index ⟨_, ho, rfl⟩ PySem.F.entry_tuple_index (PySem.F.args_tuple_index_2 _ _)
      (TI.tuple_indexAt a its.toArray n dd sl uy (eqU y) j hj ?_ ?_) ⟨ho, fun u' hu' => mem_eqAt ry fy rv fys u' (by simpa using hu'), ?_⟩
    · have e1 : its.toArray[j] = u := by simpa using hje
      rw [e1, eqU_of ru (flat_at fys hz)]
      exact hzj
    · intro m hm hmj
      have hml : m < its.length := by simpa using hm
      have hmy : m < ys.length := by omega
      have hy' : ys[m]? = some ys[m] := List.getElem?_eq_getElem hmy
      obtain ⟨u2, hu2, ru2⟩ := rv.get hy'
      obtain ⟨_, hme⟩ := List.getElem?_eq_some_iff.mp hu2
      have e1 : its.toArray[m] = u2 := by simpa using hme
      rw [e1, eqU_of ru2 (flat_at fys hy')]
      exact hno m _ hmj hy'
    · exact ⟨.int (j : Nat), H, I.tok _, ⟨_, rfl⟩, q⟩
end
/-! the plain side -/
def idxO : IV → List IV → IH → Option (IV × IH) := fun x ys h => match ys with
  | [y] => match seqOf h x with
    | some xs => if flatI y = true ∧ xs.all flatI = true then (match xs.findIdx? (fun z => eqI z y) with
      | some j => some (.int (j : Nat), h)
      | none => none) else none
    | none => none
  | _ => none
def isTup : IV → Bool
  | .tup _ => true
  | _ => false
def eMU (o : IV → List IV → IH → Option (IV × IH)) (m : Env → M IV) (a : Env → M (List IV)) : Env → M IV := fun env => bnd (m env) fun x h => if isTup x = true ∨ tyI "list" h x = true then bnd (a env) (fun xs => lift (o x xs)) h else none
section
variable {X : Cx} {W : WX}
theorem eqs_flat {K : PySem.W.Frag} {φ : List Addr} {H : Hp} {y : IV} {v : V} (r : RV K φ H y v) (h : flatI y = true) : ∀ {xs : List IV} {vs : List V} (_ : RVs K φ H xs vs), xs.all flatI = true → vs.all flatV = true ∧ ∀ (m : Nat) (z : IV) (u : V), xs[m]? = some z → vs[m]? = some u → eqV u v = eqI z y
  | [], _, .nil, _ => ⟨rfl, fun m z u e => by simp at e⟩
  | x :: xs, _, .cons r1 r2, q => by
    rw [List.all_cons, Bool.and_eq_true] at q
    obtain ⟨a, b⟩ := eqs_flat r h r2 q.2
    refine ⟨by rw [List.all_cons, a, flat_sim r1 q.1]; rfl, fun m z u e1 e2 => ?_⟩
    cases m with
    | zero =>
      simp at e1 e2
      subst e1 e2
      exact eqI_sim r1 r q.1 h
    | succ m => exact b m z u (by simpa using e1) (by simpa using e2)
theorem seq_lst {h : IH} {x : IV} (e : isTup x = false) : seqOf h x = lstOf h x := by
  cases x <;> first | rfl | cases e
theorem seqOf_sim2 {K : PySem.W.Frag} {φ : List Addr} {H : Hp} {h : IH} {x : IV} {v : V} {xs : List IV} (rh : RH K φ H h) (r : RV K φ H x v) (e : seqOf h x = some xs) : ∃ p vs, v = .ref p ∧ ((isTup x = true → SqT K H p vs) ∧ (isTup x = false → SqL K H p vs)) ∧ RVs K φ H xs vs := by
  cases hx : isTup x with
  | true =>
    cases x <;> first | cases hx | skip
    cases r with
    | tup hs rs => cases e; exact ⟨_, _, rfl, ⟨fun _ => hs.sq, fun z => nomatch z⟩, rs⟩
  | false =>
    rw [seq_lst hx] at e
    obtain ⟨q, us, e1, hs, ru⟩ := lstOf_sim rh r e
    exact ⟨q, us, e1, ⟨(fun z => by cases z), fun _ => hs⟩, ru⟩
theorem idx_sim {K : PySem.W.Frag} {H : Hp} {Q : VK} {φ : List Addr} {h : IH} {x y : IV} {v u : V} (rh : RH K φ H h) (rx : RV K φ H x v) (ry : RV K φ H y u) (p : PostO K (RV K) φ H Q (idxO x [y] h)) :
    ∃ (a : Addr) (ys : List V) (j : Nat) (z : V), v = V.ref a ∧ ((isTup x = true → SqT K H a ys) ∧ (isTup x = false → SqL K H a ys)) ∧ flatV u = true ∧ ys.all flatV = true ∧ ys[j]? = some z ∧ eqV z u = true ∧
  (∀ (m : Nat) (z' : V), m < j → ys[m]? = some z' → eqV z' u = false) ∧ Q (.int (j : Nat)) H := by
  unfold idxO at p
  simp only [] at p
  split at p
  · rename_i xs e
    split at p
    · rename_i hc
      split at p
      · rename_i j hj
        obtain ⟨q, vs, rfl, hs, rs⟩ := seqOf_sim2 rh rx e
        obtain ⟨a, b⟩ := eqs_flat ry hc.1 rs hc.2
        obtain ⟨hjl, hj1, hj2⟩ := List.findIdx?_eq_some_iff_getElem.mp hj
        obtain ⟨z, hz, rz⟩ := rs.get (List.getElem?_eq_getElem hjl)
        refine ⟨q, vs, j, z, rfl, hs, flat_sim ry hc.1, a, hz, ?_, fun m z' hm hz' => ?_, p.give rh (.int _)⟩
        · rw [b j _ z (List.getElem?_eq_getElem hjl) hz]
          exact hj1
        · have hml : m < xs.length := by omega
          rw [b m _ z' (List.getElem?_eq_getElem hml) hz']
          simpa using hj2 m hm
      · exact p.elim
    · exact p.elim
  · exact p.elim
theorem se_idx {b e : Expr} {te : TE} {t : TA} {me : Env → M IV} {m : Env → M (List IV)} {apos cpos : Pos} (he : SE X W b te me) (ha : SA X W [e] t m)
    (pe : PE X b te → PA X [e] t → PE X (.Call (.Attribute b "index" apos) [e] [] cpos) (tBMU X.K (rIndex X.K) (rIndexT X.K) te t)) : SE X W (.Call (.Attribute b "index" apos) [e] [] cpos) (tBMU X.K (rIndex X.K) (rIndexT X.K) te t) (eMU idxO me m) := by
  refine ⟨pe he.pe ha.pe, fun σ H Q φ h env re rh p => ?_⟩
  refine he.sim σ H _ φ h env re rh (p.bnd (Ev.refl _ _) fun φ1 H1 x v h1 e1 rh1 r1 p1 => ?_)
  split at p1
  · rename_i ht
    have key : ∀ φ2 H2 xs vs h2, Ev φ1 H1 φ2 H2 → RH X.K φ2 H2 h2 → RVs X.K φ2 H2 xs vs → PostO X.K (RV X.K) φ2 H2 Q (idxO x xs h2) → ∃ (a : Addr) (ys : List V) (y : V) (j : Nat) (z : V), v = V.ref a ∧ vs = [y] ∧ ((isTup x = true → SqT X.K H2 a ys) ∧ (isTup x = false → SqL X.K H2 a ys)) ∧ flatV y = true ∧ ys.all flatV = true ∧ ys[j]? = some z ∧ eqV z y = true ∧
        (∀ (m : Nat) (z' : V), m < j → ys[m]? = some z' → eqV z' y = false) ∧ Q (.int (j : Nat)) H2 := fun φ2 H2 xs vs h2 e2 rh2 r2 p2 => by
      cases r2 with
      | nil => exact p2.elim
      | cons ra rb =>
        cases rb with
        | nil =>
          obtain ⟨a, ys, j, z, q⟩ := idx_sim rh2 (r1.ev e2) ra p2
          exact ⟨a, ys, _, j, z, q.1, rfl, q.2⟩
        | cons _ _ => exact p2.elim
    cases hx : isTup x with
    | true =>
      refine .inr ⟨?_, ?_⟩
      · cases x <;> first | cases hx | skip
        cases r1 with
        | tup hs rs => exact ⟨_, _, rfl, hs⟩
      · refine ha.sim σ H1 _ φ1 h1 env (re.ev e1) rh1 (p1.bnd e1 fun φ2 H2 xs vs h2 e2 rh2 r2 p2 => ?_)
        obtain ⟨a, ys, y, j, z, q1, q2, q3, q⟩ := key φ2 H2 xs vs h2 e2 rh2 r2 (PostO.of p2 (e1.trans e2))
        exact ⟨a, ys, y, j, z, q1, q2, q3.1 hx, q⟩
    | false =>
      refine .inl ⟨tyI_sim rh1 r1 (ht.resolve_left (by rw [hx]; exact fun z => nomatch z)), ?_⟩
      refine ha.sim σ H1 _ φ1 h1 env (re.ev e1) rh1 (p1.bnd e1 fun φ2 H2 xs vs h2 e2 rh2 r2 p2 => ?_)
      obtain ⟨a, ys, y, j, z, q1, q2, q3, q⟩ := key φ2 H2 xs vs h2 e2 rh2 r2 (PostO.of p2 (e1.trans e2))
      exact ⟨a, ys, y, j, z, q1, q2, q3.2 hx, q⟩
  · exact p1.elim
theorem se_idxK (K : PySem.W.Frag) {b e : Expr} {te : TE} {t : TA} {me : Env → M IV} {m : Env → M (List IV)} {apos cpos : Pos} (he : SE X W b te me) (ha : SA X W [e] t m)
    (pe : PE X b te → PA X [e] t → PE X (.Call (.Attribute b "index" apos) [e] [] cpos) (tBMU X.K (rIndex X.K) (rIndexT X.K) te t)) (hK : X.K = K := by rfl) : SE X W (.Call (.Attribute b "index" apos) [e] [] cpos) (tBMU K (rIndex K) (rIndexT K) te t) (eMU idxO me m) := by
  subst hK
  exact se_idx he ha pe
end
section
variable {env : Env} {h : IH}
@[simp] theorem WE_eMU {o : IV → List IV → IH → Option (IV × IH)} {m : Env → M IV} {a : Env → M (List IV)} {Q : IV → IH → Prop} : WE (eMU o m a env h) Q ↔ WE (m env h) fun x h' => (isTup x = true ∨ tyI "list" h' x = true) ∧ WE (a env h') fun xs h2 => WO (o x xs h2) Q := by
  simp only [eMU, WE_bnd]
  constructor <;> intro w <;> refine w.mono fun x h1 q => ?_
  · split at q
    · rename_i hc
      exact ⟨hc, by simpa only [WE_bnd, WE_lift] using q⟩
    · exact q.elim
  · rw [if_pos q.1]
    simpa only [WE_bnd, WE_lift] using q.2
@[simp] theorem isTup_tup {xs : List IV} : isTup (.tup xs) = true := rfl
end
end L2.Sh

namespace L2.Sh
open PySem PySem.Spec PyProof.Rows L2
/-! ### the plain side, exceptions too -/
def XE {α : Type} (r : Res α) (Q : α → IH → Prop) (E : Exc → IH → Prop) : Prop := match r with
  | some (.ok a, h) => Q a h
  | some (.error x, h) => E x h
  | none => False
section
variable {α : Type} {Q : α → IH → Prop} {E : Exc → IH → Prop} {N B C : Env → IH → Prop} {R : IV → IH → Prop} {F : Exc → Env → IH → Prop} {env : Env} {h : IH}
theorem XE.of {r : Res α} (w : WE r Q) : XE r Q E := by
  match r, w with
  | some (.ok _, _), w => exact w
theorem XE.out {r : Res α} (w : XE r Q E) : (∃ a h', r = some (.ok a, h') ∧ Q a h') ∨ ∃ x h', r = some (.error x, h') ∧ E x h' := by
  match r, w with
  | some (.ok a, h), w => exact .inl ⟨a, h, rfl, w⟩
  | some (.error x, h), w => exact .inr ⟨x, h, rfl, w⟩
theorem X5.of {r : Option (Flw × IH)} (w : WS r N R B C) : WX5 r N R B C F := by
  match r, w with
  | some (.nx _, _), w => exact w
  | some (.rt _, _), w => exact w
  | some (.bk _, _), w => exact w
  | some (.ct _, _), w => exact w
theorem X5.bnd {m : Env → M α} {f : α → MS} (w : XE (m env h) (fun a h' => WX5 (f a env h') N R B C F) (fun x h' => F x env h')) : WX5 (bndS m f env h) N R B C F := by
  rw [WX5_bndS]
  generalize m env h = r at w
  match r, w with
  | some (.ok _, _), w => exact w
  | some (.error _, _), w => exact w
theorem X5.seq {a b : MS} {M : Env → IH → Prop} (w : WX5 (a env h) M R B C F) (k : ∀ e h', M e h' → WX5 (b e h') N R B C F) : WX5 (sSeq a b env h) N R B C F := by
  unfold sSeq
  cases e : a env h with
  | none => rw [e] at w; exact w
  | some z =>
    obtain ⟨z, h'⟩ := z
    rw [e] at w
    cases z with
    | nx e2 => exact k e2 h' w
    | rt v => exact w
    | bk e1 => exact w
    | ct e1 => exact w
    | ex x e1 => exact w
theorem X5.ite {c : Env → M Bool} {a b : MS} (w : WE (c env h) fun k h' => if k = true then WX5 (a env h') N R B C F else WX5 (b env h') N R B C F) : WX5 (sIf c a b env h) N R B C F := by
  unfold sIf
  refine X5.bnd (XE.of (w.mono fun k h' q => ?_))
  cases k <;> exact q
theorem X5.raise {x : Str} (w : F ⟨x, Str.empty, []⟩ env h) : WX5 (sRaise x env h) N R B C F := w
theorem X5.for_ {it : IIt} {g : MG} {b : MS} (k : Nat) (I : Nat → Env → IH → Prop)
    (hs : ∀ i env h, i < k → I i env h → ∃ x, it.nxt i h = some (some x) ∧ ∃ e1, g x env h = some e1 ∧ WX5 (b e1 h) (I (i + 1)) R N (I (i + 1)) F)
    (hd : ∀ env h, I k env h → it.nxt k h = some none ∧ N env h) : ∀ (n i : Nat) (env : Env) (h : IH), i ≤ k → I i env h → k - i < n → WX5 (forLoop it g b n i env h) N R B C F
  | 0, _, _, _, _, _, hm => absurd hm (Nat.not_lt_zero _)
  | n + 1, i, env, h, hi, iv, hm => by
    unfold forLoop
    by_cases hk : i < k
    · obtain ⟨x, e, e1, eg, w⟩ := hs i env h hk iv
      rw [e]
      simp only []
      rw [eg]
      simp only []
      cases hb : b e1 h with
      | none => rw [hb] at w; exact w
      | some z =>
        obtain ⟨z, h1⟩ := z
        rw [hb] at w
        cases z with
        | nx e2 => exact X5.for_ k I hs hd n (i + 1) e2 h1 hk w (by omega)
        | ct e2 => exact X5.for_ k I hs hd n (i + 1) e2 h1 hk w (by omega)
        | bk e1 => exact w
        | rt v => exact w
        | ex x e1 => exact w
    · have ek : i = k := by omega
      subst ek
      obtain ⟨e, q⟩ := hd env h iv
      rw [e]
      exact q
theorem X5.runF {n : Nat} {b : MS} {xs : List IV} {P : IV → IH → Prop} (w : WX5 (b (xs.map some ++ List.replicate (n - xs.length) none) h) (fun _ h' => P .non h') P (fun _ _ => False) (fun _ _ => False) (fun x _ h' => E x h')) : XE (runF n b xs h) P E := by
  unfold L2.Sh.runF
  cases e : b (xs.map some ++ List.replicate (n - xs.length) none) h with
  | none => rw [e] at w; exact w
  | some z =>
    obtain ⟨z, h'⟩ := z
    rw [e] at w
    cases z <;> exact w
end
end L2.Sh

namespace L2.Sh
open PySem PySem.Spec PyProof.Rows L2
/-! ### sorted(xs), whole numbers -/
def insI (a : Int) : List Int → List Int
  | [] => [a]
  | b :: l => if a ≤ b then a :: b :: l else b :: insI a l
def srtI : List Int → List Int
  | [] => []
  | a :: l => insI a (srtI l)
theorem insI_perm (a : Int) : ∀ l, (insI a l).Perm (a :: l)
  | [] => .refl _
  | b :: l => by
    unfold insI
    split
    · exact .refl _
    · exact ((insI_perm a l).cons b).trans (.swap a b l)
theorem srtI_perm : ∀ l, (srtI l).Perm l
  | [] => .refl _
  | a :: l => (insI_perm a _).trans ((srtI_perm l).cons a)
theorem insI_pw (a : Int) : ∀ l : List Int, l.Pairwise (· ≤ ·) → (insI a l).Pairwise (· ≤ ·)
  | [], _ => by simp [insI]
  | b :: l, h => by
    rw [List.pairwise_cons] at h
    unfold insI
    split
    · rename_i hab
      refine List.pairwise_cons.mpr ⟨fun x hx => ?_, List.pairwise_cons.mpr h⟩
      rcases List.mem_cons.mp hx with e | e
      · omega
      · have := h.1 x e; omega
    · rename_i hab
      refine List.pairwise_cons.mpr ⟨fun x hx => ?_, insI_pw a l h.2⟩
      rcases List.mem_cons.mp ((insI_perm a l).mem_iff.mp hx) with e | e
      · omega
      · exact h.1 x e
theorem srtI_pw : ∀ l : List Int, (srtI l).Pairwise (· ≤ ·)
  | [] => .nil
  | a :: l => insI_pw a _ (srtI_pw l)
theorem srt_uniq {l m : List Int} (p : m.Perm l) (s : m.Pairwise (· ≤ ·)) : m = srtI l :=
  List.Perm.eq_of_pairwise (fun a b _ _ h1 h2 => by omega) s (srtI_pw l) (p.trans (srtI_perm l).symm)
def sortO : O1 := fun xs h => match xs with
  | [x] => match lstOf h x with
    | some ys => match intsOf ys with
      | some bs => some (.ref h.length, h ++ [.lst ((srtI bs).map IV.int)])
      | none => none
    | none => none
  | _ => none
section
variable {X : Cx} {W : WX} {K : PySem.W.Frag}
theorem rvs_ints {K : PySem.W.Frag} {φ : List Addr} {H : Hp} : ∀ ns : List Int, RVs K φ H (ns.map IV.int) (ns.map V.int)
  | [] => .nil
  | n :: ns => .cons (.int n) (rvs_ints ns)
theorem sc_sorted : SCall X (.builtin "sorted") (rSortedI X.K) sortO := ⟨cr_sortedI, by
  intro H Q φ h xs vs rh rs p
  unfold sortO at p
  split at p
  · cases rs with
    | cons r1 r2 =>
      cases r2
      split at p
      · rename_i ys e
        split at p
        · rename_i bs eb
          obtain ⟨q, us, rfl, hs, ru⟩ := lstOf_sim rh r1 e
          rw [intsOf_eq eb] at ru
          refine ⟨q, bs, rfl, by rw [← ru.ints_eq]; exact hs, fun ns' l pm so hl => ?_⟩
          rw [srt_uniq pm so]
          exact post_new (o := .lst ((srtI bs).map IV.int)) rh hl ⟨_, upd_same, rvs_ints _⟩ p
        · exact p.elim
      · exact p.elim
  · exact p.elim⟩
theorem sc_sortedK (K : PySem.W.Frag) (hK : X.K = K := by rfl) : SCall X (.builtin "sorted") (rSortedI K) sortO := by subst hK; exact sc_sorted
end
theorem intsOf_map : ∀ l : List Int, intsOf (l.map IV.int) = some l
  | [] => rfl
  | a :: l => by rw [List.map_cons, intsOf, intsOf_map l]; rfl
theorem sortO_ref {n : Nat} {l : List Int} {h : IH} (e : h[n]? = some (.lst (l.map IV.int))) : sortO [.ref n] h = some (.ref h.length, h ++ [.lst ((srtI l).map IV.int)]) := by
  simp only [sortO, lstOf, e, intsOf_map]
theorem popO_ints {n : Nat} {l : List Int} {h : IH} {r : Int} (e : h[n]? = some (.lst (l.map IV.int))) (h0 : 0 ≤ r) (h1 : r < l.length) (h2 : l.length < 1000000) : popO (.ref n) [.int r] h = some (.int (l.getD r.toNat 0), h.set n (.lst ((l.eraseIdx r.toNat).map IV.int))) := by
  have hk : r.toNat < l.length := by omega
  have hs : seqIndex? r (l.map IV.int).length = some r.toNat := by
    unfold seqIndex?
    simp
    omega
  unfold popO
  simp only [e, hs]
  rw [if_pos (by omega), List.getElem?_map, List.getElem?_eq_getElem hk, List.getD_eq_getElem?_getD, List.getElem?_eq_getElem hk]
  have : (List.map IV.int l).eraseIdx r.toNat = List.map IV.int (l.eraseIdx r.toNat) := by
    refine List.ext_getElem? fun i => ?_
    rw [List.getElem?_map, List.getElem?_eraseIdx, List.getElem?_eraseIdx, List.getElem?_map, List.getElem?_map]
    split <;> rfl
  simp [this]
end L2.Sh

namespace L2.Sh
open PySem PySem.Spec PyProof.Rows L2
/-! ### dicts with keys that are numbers or texts -/
def keyI : IV → Option Key
  | .int i => some (.inl i)
  | .str x => some (.inr x)
  | _ => none
def valI {κ : Type} [DecidableEq κ] (kvs : List (κ × IV)) (k : κ) : Option IV := (kvs.find? fun kv => decide (kv.1 = k)).map (·.2)
def putI {κ : Type} [DecidableEq κ] (kvs : List (κ × IV)) (k : κ) (v : IV) : List (κ × IV) :=
  if (kvs.any fun kv => decide (kv.1 = k)) = true then kvs.map fun kv => if kv.1 = k then (kv.1, v) else kv else kvs ++ [(k, v)]
def mergeI (kvs more : List (Key × IV)) : List (Key × IV) := more.foldl (fun acc kv => putI acc kv.1 kv.2) kvs
theorem keyI_sim {K : PySem.W.Frag} {φ : List Addr} {H : Hp} {y : IV} {v : V} {k : Key} (r : RV K φ H y v) (e : keyI y = some k) : v = kV k := by
  cases r <;> cases e <;> rfl
section
variable {K : PySem.W.Frag} {φ : List Addr} {H : Hp} {κ : Type} [DecidableEq κ]
theorem RKs.val {k : κ} {x : IV} : ∀ {a : List (κ × IV)} {b : List (κ × V)}, RKs K φ H a b → valI a k = some x → ∃ v, valV b k = some v ∧ RV K φ H x v
  | _, _, .nil, e => by cases e
  | p :: a, q :: b, .cons h t, e => by
    unfold valI at e
    unfold valV
    rw [List.find?_cons] at e ⊢
    rw [← h.1]
    cases hd : decide (p.1 = k) with
    | true => rw [hd] at e; cases e; exact ⟨_, rfl, h.2⟩
    | false => rw [hd] at e; exact RKs.val t e
theorem RKs.none {k : κ} : ∀ {a : List (κ × IV)} {b : List (κ × V)}, RKs K φ H a b → valI a k = none → valV b k = none
  | _, _, .nil, e => rfl
  | p :: a, q :: b, .cons h t, e => by
    unfold valI at e
    unfold valV
    rw [List.find?_cons] at e ⊢
    rw [← h.1]
    cases hd : decide (p.1 = k) with
    | true => rw [hd] at e; cases e
    | false => rw [hd] at e; exact RKs.none t e
theorem RKs.any {k : κ} : ∀ {a : List (κ × IV)} {b : List (κ × V)}, RKs K φ H a b → (a.any fun kv => decide (kv.1 = k)) = (b.any fun kv => decide (kv.1 = k))
  | _, _, .nil => rfl
  | p :: a, q :: b, .cons h t => by rw [List.any_cons, List.any_cons, RKs.any t, h.1]
theorem RKs.map {k : κ} {x : IV} {v : V} (r : RV K φ H x v) : ∀ {a : List (κ × IV)} {b : List (κ × V)}, RKs K φ H a b → RKs K φ H (a.map fun kv => if kv.1 = k then (kv.1, x) else kv) (b.map fun kv => if kv.1 = k then (kv.1, v) else kv)
  | _, _, .nil => .nil
  | p :: a, q :: b, .cons h t => by
    refine .cons ?_ (RKs.map r t)
    dsimp only
    rw [← h.1]
    by_cases hk : p.1 = k
    · rw [if_pos hk, if_pos hk]; exact ⟨rfl, r⟩
    · rw [if_neg hk, if_neg hk]; exact h
theorem RKs.app {x : κ × IV} {v : κ × V} (r : x.1 = v.1 ∧ RV K φ H x.2 v.2) : ∀ {a : List (κ × IV)} {b : List (κ × V)}, RKs K φ H a b → RKs K φ H (a ++ [x]) (b ++ [v])
  | _, _, .nil => .cons r .nil
  | _, _, .cons h t => .cons h (RKs.app r t)
theorem RKs.put {k : κ} {x : IV} {v : V} {a : List (κ × IV)} {b : List (κ × V)} (h : RKs K φ H a b) (r : RV K φ H x v) : RKs K φ H (putI a k x) (putK b k v) := by
  unfold putI putK
  rw [← h.any]
  split
  · exact h.map r
  · exact h.app ⟨rfl, r⟩
theorem RKs.len : ∀ {a : List (κ × IV)} {b : List (κ × V)}, RKs K φ H a b → a.length = b.length
  | _, _, .nil => rfl
  | _, _, .cons _ t => congrArg (· + 1) (RKs.len t)
end
theorem RKs.merge {K : PySem.W.Frag} {φ : List Addr} {H : Hp} : ∀ {c : List (Key × IV)} {d : List (Key × V)} {a : List (Key × IV)} {b : List (Key × V)}, RKs K φ H a b → RKs K φ H c d → RKs K φ H (mergeI a c) (mergeK b d)
  | _, _, _, _, h, .nil => h
  | p :: c, q :: d, a, b, h, .cons e t => by
    have := RKs.merge (h.put (k := p.1) e.2) t
    unfold mergeI mergeK
    rw [List.foldl_cons, List.foldl_cons, ← e.1]
    exact this
def dgO : O2 := fun x y h => match x with
  | .ref n => match h[n]? with
    | some (.dK kvs) => match keyI y with
      | some k => match valI kvs k with
        | some v => some (v, h)
        | none => none
      | none => none
    | _ => none
  | _ => none
theorem sim_dg {K : PySem.W.Frag} : SimR K (fun x y H Q => ∃ a v, x = V.ref a ∧ DGet H a y (some v) ∧ Q v H) dgO := by
  intro H Q φ h x y vx vy rh rx ry p
  unfold dgO at p
  split at p
  · split at p
    · rename_i n kvs e
      split at p
      · rename_i k ek
        split at p
        · rename_i v ev
          cases rx with
          | ref hn =>
            obtain ⟨o, eo, ro⟩ := rh.ob hn
            rw [e] at eo
            cases eo
            obtain ⟨vs, q, rk⟩ := ro
            obtain ⟨u, eu, ru⟩ := rk.val ev
            exact ⟨_, u, rfl, .inl ⟨vs, k, .inl q, keyI_sim ry ek, eu.symm⟩, p.give rh ru⟩
        · exact p.elim
      · exact p.elim
    · exact p.elim
  · exact p.elim
/-- k in d -/
def dinO (f : Bool → Bool) : O2 := fun y x h => match x with
  | .ref n => match h[n]? with
    | some (.dK kvs) => match keyI y with
      | some k => some (.bl (f (valI kvs k).isSome), h)
      | none => none
    | _ => none
  | _ => none
theorem sim_din {K : PySem.W.Frag} (f : Bool → Bool) : SimR K (fun y x H Q => ∃ a o, x = V.ref a ∧ DGet H a y o ∧ Q (.bl (f o.isSome)) H) (dinO f) := by
  intro H Q φ h y x vy vx rh ry rx p
  unfold dinO at p
  split at p
  · split at p
    · rename_i n kvs e
      split at p
      · rename_i k ek
        cases rx with
        | ref hn =>
          obtain ⟨o, eo, ro⟩ := rh.ob hn
          rw [e] at eo
          cases eo
          obtain ⟨vs, q, rk⟩ := ro
          refine ⟨_, valV vs k, rfl, .inl ⟨vs, k, .inl q, keyI_sim ry ek, rfl⟩, ?_⟩
          have : (valV vs k).isSome = (valI kvs k).isSome := by
            cases ev : valI kvs k with
            | none => rw [rk.none ev]; rfl
            | some z => obtain ⟨u, eu, _⟩ := rk.val ev; rw [eu]; rfl
          rw [this]
          exact p.give rh (.bl _)
      · exact p.elim
    · exact p.elim
  · exact p.elim
/-- d[k] = v -/
def putD : IV → IV → IV → IH → Option IH := fun o i x h => match o with
  | .ref n => match h[n]? with
    | some (.dK kvs) => match keyI i with
      | some k => if kvs.length < 1000000 then some (h.set n (.dK (putI kvs k x))) else none
      | none => none
    | _ => none
  | _ => none
theorem putD_sim {K : PySem.W.Frag} : ∀ H Q φ h o i x vo vi vx, RH K φ H h → RV K φ H o vo → RV K φ H i vi → RV K φ H x vx → (match putD o i x h with | none => False | some h' => ∀ H', Ev φ H φ H' → RH K φ H' h' → Q H') → rSetD vo vi vx H Q := by
  intro H Q φ h o i x vo vi vx rh ro ri rx p
  unfold putD at p
  cases ro <;> first | exact p.elim | skip
  rename_i n a hn
  simp only [] at p
  obtain ⟨ob, eo, rob⟩ := rh.ob hn
  rw [eo] at p
  cases ob with
  | lst xs => exact p.elim
  | dT xs => exact p.elim
  | dK kvs =>
    obtain ⟨vs, q, rs⟩ := rob
    simp only [] at p
    cases ek : keyI i with
    | none => rw [ek] at p; exact p.elim
    | some k =>
      rw [ek] at p
      by_cases hl : kvs.length < 1000000
      · simp only [if_pos hl] at p
        have ep : Ev φ H φ (upd H a (.dK (putK vs k vx))) := ev_put q rfl
        refine ⟨a, _, rfl, .inl ⟨vs, k, q, keyI_sim ri ek, ?_, rfl⟩, p _ ep (rh.put (o := .dK (putI kvs k x)) hn ⟨_, upd_same, (rs.put rx).ev ep⟩)⟩
        rw [← rs.len, sizeLine_eq]
        omega
      · simp only [if_neg hl] at p
/-- {} -/
def eDK : Env → M IV := fun _ h => some (.ok (.ref h.length), h ++ [.dK []])
/-- dict(x): of a dict, or of a list of pairs -/
def pairsI : List IV → Option (List (Key × IV))
  | [] => some []
  | .tup [k, v] :: r => match keyI k, pairsI r with
    | some k, some r => some ((k, v) :: r)
    | _, _ => none
  | _ :: _ => none
theorem pairsI_sim {K : PySem.W.Frag} {φ : List Addr} {H : Hp} : ∀ {xs : List IV} {vs : List V} {kvs : List (Key × IV)}, RVs K φ H xs vs → pairsI xs = some kvs → ∃ (ps : List Addr) (ws : List (Key × V)), vs = ps.map V.ref ∧ Paired (fun p kv => SqT K H p [kV kv.1, kv.2]) ps ws ∧ RKs K φ H kvs ws
  | _, _, _, .nil, e => by cases e; exact ⟨[], [], rfl, .nil, .nil⟩
  | x :: xs, v :: vs, kvs, .cons r t, e => by
    unfold pairsI at e
    split at e
    · rename_i h0; cases h0
    · rename_i k y l h0
      injection h0 with h1 h2
      subst h1 h2
      split at e
      · rename_i kk rr ek er
        cases e
        obtain ⟨ps, ws, e1, h1, h2⟩ := pairsI_sim t er
        cases r with
        | tup hs rs =>
          cases rs with
          | cons ra rb =>
            cases rb with
            | cons rc rd =>
              cases rd
              rename_i a ua ub
              refine ⟨_ :: ps, (kk, _) :: ws, by rw [e1]; rfl, .cons ?_ h1, .cons ⟨rfl, rc⟩ h2⟩
              have := keyI_sim ra ek
              subst this
              exact hs.sq
      · cases e
    · cases e
def dictO : O1 := fun xs h => match xs with
  | [.ref n] => match h[n]? with
    | some (.dK kvs) => some (.ref h.length, h ++ [.dK kvs])
    | some (.lst ys) => match pairsI ys with
      | some kvs => some (.ref h.length, h ++ [.dK (mergeI [] kvs)])
      | none => none
    | _ => none
  | _ => none
def rDict (K : PySem.W.Frag) : List V → Hp → VK → Prop := fun xs H Q =>
  (∃ a ps kvs, xs = [V.ref a] ∧ SqL K H a (List.map V.ref ps) ∧ Paired (fun p kv => SqT K H p [kV kv.fst, kv.snd]) ps kvs ∧ ∀ (p : Addr), H p = none → Q (V.ref p) (upd H p (HO.dK (mergeK [] kvs)))) ∨
  (∃ a kvs, xs = [V.ref a] ∧ Rd H a (HO.dK kvs) ∧ ∀ (p : Addr), H p = none → Q (V.ref p) (upd H p (HO.dK kvs)))
section
variable {X : Cx} {W : WX}
theorem sc_dict (hc : X.calm = true) : SCall X (.type "dict") (rDict X.K) dictO := ⟨CallR.or (call_dictP hc) call_dictD, by
  intro H Q φ h xs vs rh rs p
  unfold dictO at p
  split at p
  · cases rs with
    | cons r1 r2 =>
      cases r2
      cases r1 with
      | ref hn =>
        obtain ⟨o, eo, ro⟩ := rh.ob hn
        split at p
        · rename_i e
          rw [e] at eo
          cases eo
          obtain ⟨us, q, rk⟩ := ro
          exact .inr ⟨_, us, rfl, .inl q, fun l hl => post_new (o := .dK _) rh hl ⟨_, upd_same, rk.ev (ev_new hl _)⟩ p⟩
        · rename_i e
          rw [e] at eo
          cases eo
          obtain ⟨us, q, rk⟩ := ro
          split at p
          · rename_i kvs ek
            obtain ⟨ps, ws, e1, h1, h2⟩ := pairsI_sim rk ek
            subst e1
            exact .inl ⟨_, ps, ws, rfl, .inl (.inl q), h1, fun l hl => post_new (o := .dK _) rh hl ⟨_, upd_same, (RKs.merge (a := []) (b := []) .nil h2).ev (ev_new hl _)⟩ p⟩
          · exact p.elim
        · exact p.elim
  · exact p.elim⟩
theorem sc_dictK (K : PySem.W.Frag) (hc : X.calm = true) (hK : X.K = K := by rfl) : SCall X (.type "dict") (rDict K) dictO := by subst hK; exact sc_dict hc
theorem se_dK {pos : Pos} : SE X W (.Dict [] [] pos) tDNewK eDK := ⟨pe_dnewK, by
  intro σ H Q φ h env re rh p
  intro l hl
  exact post_new (o := .dK []) rh hl ⟨_, upd_same, .nil⟩ p⟩
theorem hu_of' {k : Nat} (hr : Room k X.A) : X.A.units + 1 < cLine := hu_of hr
theorem se_dg {a b : Expr} {ta tb : TE} {ma mb : Env → M IV} {pos : Pos} {k : Nat} (hr : Room k X.A) (ha : SE X W a ta ma) (hb : SE X W b tb mb) (hp : NoSl b) : SE X W (.Subscript a b pos) (tDGet ta tb) (eOp dgO ma mb) :=
  ⟨pe_dget (hu_of hr) ha.pe hb.pe hp, sim_op sim_dg ha.sim hb.sim⟩
theorem st_din {a b : Expr} {ta tb : TE} {ma mb : Env → M IV} {pos : Pos} {k : Nat} (hr : Room k X.A) (ha : SE X W a ta ma) (hb : SE X W b tb mb) (hm : behindInMarks .In b = false) : ST X W (.Compare a [.In] [b] pos) (tTest (tDIn ta tb)) (tyB (eOp (dinO id) ma mb)) := by
  refine ⟨pt_cmp (pc_din (hu_of hr) ha.pe hb.pe) hm, ?_⟩
  intro σ H Q φ h env re rh p
  show tOp (fun y x H Q => ∃ a o, x = V.ref a ∧ DGet H a y o ∧ Q (V.bl (id o.isSome)) H) ta tb σ H (fun x H' => ∃ k, x = V.bl k ∧ Q k H')
  refine sim_op (sim_din id) ha.sim hb.sim σ H _ φ h env re rh (p.bnd (Ev.refl _ _) fun φ1 H1 x v h1 e1 rh1 r1 p1 => ?_)
  cases r1 <;> first | exact p1.elim | skip
  rename_i b
  exact ⟨b, rfl, p1 φ1 H1 b e1 rh1 rfl⟩
theorem ss_subD {o i e : Expr} {to ti te : TE} {mo mi me : Env → M IV} {pos pos' : Pos} (ho : SE X W o to mo) (hi : SE X W i ti mi) (he : SE X W e te me)
    (pe : PE X e te → PE X o to → PE X i ti → PS X (.Assign [.Subscript o i pos'] e pos) (tAsg te (gSub to ti rSetD))) : SS X W (.Assign [.Subscript o i pos'] e pos) (tAsg te (gSub to ti rSetD)) (sSub putD mo mi me) := ss_sub ho hi he putD_sim (pe he.pe ho.pe hi.pe)
end
/-! the plain side -/
section
variable {env : Env} {h : IH}
@[simp] theorem WE_eDK {Q : IV → IH → Prop} : WE (eDK env h) Q ↔ Q (.ref h.length) (h ++ [.dK []]) := Iff.rfl
theorem dg_at {n : Nat} {kvs : List (Key × IV)} {y v : IV} {k : Key} (e : h[n]? = some (.dK kvs)) (ek : keyI y = some k) (ev : valI kvs k = some v) : dgO (.ref n) y h = some (v, h) := by
  simp only [dgO, e, ek, ev]
theorem putD_at {n : Nat} {kvs : List (Key × IV)} {y v : IV} {k : Key} (e : h[n]? = some (.dK kvs)) (ek : keyI y = some k) (hl : kvs.length < 1000000) : putD (.ref n) y v h = some (h.set n (.dK (putI kvs k v))) := by
  simp only [putD, e, ek, if_pos hl]
theorem dict_at {n : Nat} {kvs : List (Key × IV)} (e : h[n]? = some (.dK kvs)) : dictO [.ref n] h = some (.ref h.length, h ++ [.dK kvs]) := by
  simp only [dictO, e]
theorem dict_of {n : Nat} {xs : List IV} {kvs : List (Key × IV)} (e : h[n]? = some (.lst xs)) (ep : pairsI xs = some kvs) : dictO [.ref n] h = some (.ref h.length, h ++ [.dK (mergeI [] kvs)]) := by
  simp only [dictO, e, ep]
end
end L2.Sh

namespace L2.Sh
open PySem PySem.Spec PyProof.Rows L2
/-! ### a def that calls itself: by its depth -/
theorem df_none {P : Program} {w : World} {K : PySem.W.Frag} {mg : Str → Option Value} {base : Heap} {x : Str} {st : Stmt} {N ps : List Str} {k : Nat} (g : mg x = some (.ref (He.ga K x))) (F : FnT K x st) (S : FnScope N ps (defScope st))
    (bd : ∀ (kV doc pm : Value) (an : Option Addr) (cdv ct : Value) (us : List Value), us.length = ps.length → bindArgs (PySem.W.fnOf x x (defArgs st) (defBody st) (defScope st) .none kV doc pm an cdv ct) ⟨us, []⟩ = pure (ps.zip us)) : Df P w K mg base x (k + 1) ps (fun _ _ => none) := by
  obtain ⟨fd, F⟩ := F
  suffices z : FnM P w K mg base (k + 1) (He.ga K x) fd ps (fun _ _ => none) by
    refine ⟨⟨_, fd, g, F.kp, F.bindsN bd, z⟩, fun f hf fd' q => ?_⟩
    have e := hf.symm.trans g
    cases e
    obtain ⟨oc, od, dV, kV, doc, pm, an, cdv, ct, osl, e1, lk, _⟩ := F.ex
    obtain ⟨oc', od', osl', lk'⟩ := q
    rw [lk] at lk'
    injection lk' with lk'
    injection lk' with _ _ lk' _
    injection lk' with lk'
    rw [← lk']
    exact z
  refine F.ok S (fun vs H Q E h => ?_) (fun cdv A outer s H vs Q E hr h => ?_)
  · obtain ⟨φ, hh, xs, r, _, l, p⟩ := h
    exact p.elim
  · obtain ⟨φ, hh, xs, r, rh, l, p⟩ := h
    exact p.elim
end L2.Sh

namespace L2.Sh
open PySem PySem.Spec PyProof.Rows L2
/-! ### t.count(x), flat things -/
def rCountT (K : PySem.W.Frag) : V → List V → Hp → VK → Prop := fun x xs H Q => ∃ (a : Addr) (ys : List V) (y : V), x = V.ref a ∧ xs = [y] ∧ SqT K H a ys ∧ flatV y = true ∧ ys.all flatV = true ∧ Q (.int ((ys.countP fun z => eqV z y) : Nat)) H
section
variable {X : Cx} {W : WX}
theorem countP_vals {y : V} {v : Value} (ry : RelV y v) (fy : flatV y = true) : ∀ {ys : List V} {us : List Value}, Vals ys us → ys.all flatV = true → us.countP (eqU y) = ys.countP fun z => eqV z y
  | [], _, .nil, _ => rfl
  | z :: ys, u :: us, .cons r t, q => by
    rw [List.all_cons, Bool.and_eq_true] at q
    rw [List.countP_cons, List.countP_cons, countP_vals ry fy t q.2, eqU_of r q.1]
theorem mt_countT : MtR X "tuple.count" (rCountT X.K) := by
  intro pins s σ H x xs v us Q I rx rxs h
  obtain ⟨a, ys, y, rfl, rfl, hs, fy, fys, q⟩ := h
  cases rx
  cases rxs with
  | cons ry rt =>
    rename_i uy ut
    cases rt
    obtain ⟨its, rv, ⟨⟨cls, dd, data, sl⟩, ho, hc, n, hd⟩, hlen⟩ := I.tuple hs
    simp only at hc hd
    subst hc hd
    refine call_meets PySem.F.slot_tuple_count ⟨_, ho, rfl⟩ PySem.F.entry_tuple_count (PySem.F.args_tuple_count_2 _ _)
      (PySem.SeqAt.tuple_countAt a its.toArray n dd sl uy (eqU y)) ⟨ho, fun u' hu' => mem_eqAt ry fy rv fys u' (by simpa using hu'), ?_⟩
    refine ⟨.int ((ys.countP fun z => eqV z y) : Nat), H, I.tok _, ?_, q⟩
    rw [show its.toArray.toList = its by simp, countP_vals ry fy rv fys]
    exact ⟨_, rfl⟩
def tBMT (K : PySem.W.Frag) (r' : V → List V → Hp → VK → Prop) (to : TE) (t : TA) : TE := fun σ H Q => to σ H fun x H1 => tyT K x H1 ∧ t σ H1 fun xs H2 => r' x xs H2 Q
theorem pe_bmT {o e : Expr} {es : List Expr} {to : TE} {t : TA} {name : Str} {apos cpos : Pos} {id' : String} {r' : V → List V → Hp → VK → Prop} (pa' : PlainAttrs "tuple") (slot' : Slot "tuple" name id') (hty' : typeOf (.builtin id') = pure (.type "method_descriptor")) (hm' : MtR X id' r') (ho : PE X o to) (ha : PA X (e :: es) t)
    (hbase : attributeBase o name X.env (eval o X.env) = eval o X.env := by rfl)
    (hfew : ((backTo cpos (starEach (e :: es) X.env)).all (fun x => !x.1) && (backToKw cpos (keywordEach [] X.env)).all (fun x => x.1.isSome)
      && decide ((e :: es).length + ([] : List Keyword).length + (if ([] : List Keyword).isEmpty then 0 else 1) < 30)) = true := by rfl)
    (hline : (apos.endLine == cpos.line) = true := by rfl) (hs : starEach (e :: es) X.env = (false, eval e X.env) :: starEach es X.env := by rfl) (hplain : (backTo cpos (starEach es X.env)).any (·.1) = false := by rfl) :
    PE X (.Call (.Attribute o name apos) (e :: es) [] cpos) (tBMT X.K r' to t) := by
  refine ⟨fun pins s σ H Q I h => ?_⟩
  refine wpAny_Call_method_late hbase hfew hline rfl (thn (ho.run pins s σ H _ I h) fun v s1 ⟨x, H1, I1, r1, q⟩ => ?_)
  obtain ⟨ty, q1⟩ := q
  obtain ⟨h1, h2⟩ := tyT_is I1 r1 ty
  refine ⟨"tuple", id', pa', slot', hty', h1, h2, ?_⟩
  have hA := ha.run cpos pins s1 σ H1 _ I1 q1
  rw [hs] at hA ⊢
  refine Calls.callWith_builtin (by show (false || (backTo cpos (starEach es X.env)).any (·.1)) = false; rw [hplain] <;> rfl) (Calls.evalArgs_plain ?_)
  exact thn hA fun us s2 ⟨vs, H2, I2, r2, q2⟩ => hm' pins s2 σ H2 x vs v us Q I2 r1 r2 q2
end
def cntO : IV → List IV → IH → Option (IV × IH) := fun x ys h => match x, ys with
  | .tup xs, [y] => if flatI y = true ∧ xs.all flatI = true then some (.int ((xs.countP fun z => eqI z y) : Nat), h) else none
  | _, _ => none
def eMT (o : IV → List IV → IH → Option (IV × IH)) (m : Env → M IV) (a : Env → M (List IV)) : Env → M IV := fun env => bnd (m env) fun x h => if isTup x = true then bnd (a env) (fun xs => lift (o x xs)) h else none
theorem count_sim {K : PySem.W.Frag} {φ : List Addr} {H : Hp} {y : IV} {u : V} (ry : RV K φ H y u) (fy : flatI y = true) : ∀ {xs : List IV} {vs : List V}, RVs K φ H xs vs → xs.all flatI = true → vs.countP (fun z => eqV z u) = xs.countP fun z => eqI z y
  | [], _, .nil, _ => rfl
  | x :: xs, v :: vs, .cons r t, q => by
    rw [List.all_cons, Bool.and_eq_true] at q
    rw [List.countP_cons, List.countP_cons, count_sim ry fy t q.2, eqI_sim r ry q.1 fy]
section
variable {X : Cx} {W : WX}
theorem se_cnt {b e : Expr} {te : TE} {t : TA} {me : Env → M IV} {m : Env → M (List IV)} {apos cpos : Pos} (he : SE X W b te me) (ha : SA X W [e] t m)
    (pe : PE X b te → PA X [e] t → PE X (.Call (.Attribute b "count" apos) [e] [] cpos) (tBMT X.K (rCountT X.K) te t)) : SE X W (.Call (.Attribute b "count" apos) [e] [] cpos) (tBMT X.K (rCountT X.K) te t) (eMT cntO me m) := by
  refine ⟨pe he.pe ha.pe, fun σ H Q φ h env re rh p => ?_⟩
  refine he.sim σ H _ φ h env re rh (p.bnd (Ev.refl _ _) fun φ1 H1 x v h1 e1 rh1 r1 p1 => ?_)
  split at p1
  · rename_i hx
    cases x <;> first | cases hx | skip
    cases r1 with
    | tup hs rs =>
      refine ⟨⟨_, _, rfl, hs⟩, ?_⟩
      refine ha.sim σ H1 _ φ1 h1 env (re.ev e1) rh1 (p1.bnd e1 fun φ2 H2 xs vs h2 e2 rh2 r2 p2 => ?_)
      have p3 := PostO.of p2 (e1.trans e2)
      unfold cntO at p3
      split at p3
      · rename_i h0
        cases h0
        cases r2 with
        | cons ra rb =>
          cases rb
          split at p3
          · rename_i hc
            have hs2 := tupN_ev e2 hs
            have rs2 := rs.ev e2
            obtain ⟨a, _⟩ := eqs_flat ra hc.1 rs2 hc.2
            refine ⟨_, _, _, rfl, rfl, hs2.sq, flat_sim ra hc.1, a, ?_⟩
            rw [count_sim ra hc.1 rs2 hc.2]
            exact p3.give rh2 (.int _)
          · exact p3.elim
      · exact p3.elim
  · exact p1.elim
theorem se_cntK (K : PySem.W.Frag) {b e : Expr} {te : TE} {t : TA} {me : Env → M IV} {m : Env → M (List IV)} {apos cpos : Pos} (he : SE X W b te me) (ha : SA X W [e] t m)
    (pe : PE X b te → PA X [e] t → PE X (.Call (.Attribute b "count" apos) [e] [] cpos) (tBMT X.K (rCountT X.K) te t)) (hK : X.K = K := by rfl) : SE X W (.Call (.Attribute b "count" apos) [e] [] cpos) (tBMT K (rCountT K) te t) (eMT cntO me m) := by
  subst hK
  exact se_cnt he ha pe
/-! sep.join(xs) -/
def joinO : IV → List IV → IH → Option (IV × IH) := fun x ys h => match x, ys with
  | .str a, [y] => match seqOf h y with
    | some zs => match strsOf zs with
      | some bs => if (bs.map (·.length)).sum + bs.length * a.length ≤ 16777216 then some (.str (Txt.join a bs), h) else none
      | none => none
    | none => none
  | _, _ => none
def rJoin (K : PySem.W.Frag) : V → List V → Hp → VK → Prop := fun x xs H Q => ∃ a p, ∃ ys : List Str, x = .str a ∧ xs = [.ref p] ∧ (SqL K H p (ys.map V.str) ∨ SqT K H p (ys.map V.str)) ∧ (ys.map (·.length)).sum + ys.length * a.length ≤ 16777216 ∧ Q (.str (Txt.join a ys)) H
theorem sm_join : SMt X "str.join" (rJoin X.K) joinO := ⟨mt_join, by
  intro H Q φ h x xs vx vs rh rx rs p
  unfold joinO at p
  split at p
  · cases rx
    cases rs with
    | cons r1 r2 =>
      cases r2
      split at p
      · rename_i zs e
        split at p
        · rename_i bs eb
          split at p
          · rename_i hl
            obtain ⟨q, us, rfl, hs, ru⟩ := seqOf_sim rh r1 e
            rw [strsOf_eq eb] at ru
            exact ⟨_, q, bs, rfl, rfl, by rw [← ru.strs_eq]; exact hs, hl, p.give rh (.str _)⟩
          · exact p.elim
        · exact p.elim
      · exact p.elim
  · exact p.elim⟩
theorem sm_joinK (K : PySem.W.Frag) (hK : X.K = K := by rfl) : SMt X "str.join" (rJoin K) joinO := by subst hK; exact sm_join
end
/-! the plain side -/
section
variable {env : Env} {h : IH}
@[simp] theorem WE_eMT {o : IV → List IV → IH → Option (IV × IH)} {m : Env → M IV} {a : Env → M (List IV)} {Q : IV → IH → Prop} : WE (eMT o m a env h) Q ↔ WE (m env h) fun x h' => isTup x = true ∧ WE (a env h') fun xs h2 => WO (o x xs h2) Q := by
  simp only [eMT, WE_bnd]
  constructor <;> intro w <;> refine w.mono fun x h1 q => ?_
  · split at q
    · rename_i hc
      exact ⟨hc, by simpa only [WE_bnd, WE_lift] using q⟩
    · exact q.elim
  · rw [if_pos q.1]
    simpa only [WE_bnd, WE_lift] using q.2
theorem strsOf_map : ∀ l : List Str, strsOf (l.map IV.str) = some l
  | [] => rfl
  | a :: l => by rw [List.map_cons, strsOf, strsOf_map l]; rfl
end
end L2.Sh

namespace L2.Sh
open PySem PySem.Spec PyProof.Rows L2
/-! ### in, not in, index upon nested data -/
def inD (f : Bool → Bool) : O2 := fun x y h => match toD h 64 x, toD h 64 y with
  | some d, some (.list ds) => if SeqAt.shaped d = true ∧ SeqAt.shaped (.list ds) = true then some (.bl (f (ds.any fun z => PyData.eqv z d)), h) else none
  | _, _ => none
def idxD : IV → List IV → IH → Option (IV × IH) := fun x ys h => match ys with
  | [y] => match x with
    | .ref n => match toD h 64 (.ref n), toD h 64 y with
      | some (.list ds), some d => if SeqAt.shaped d = true ∧ SeqAt.shaped (.list ds) = true then (match ds.findIdx? (fun z => PyData.eqv z d) with
        | some j => some (.int (j : Nat), h)
        | none => none) else none
      | _, _ => none
    | _ => none
  | _ => none
section
variable {X : Cx} {W : WX}
theorem sim_inD {K : PySem.W.Frag} (f : Bool → Bool) : SimR K (fun x y H Q => ∃ d ds, Dp K H x d ∧ Dp K H y (.list ds) ∧ SeqAt.shaped d = true ∧ SeqAt.shaped (.list ds) = true ∧ Q (.bl (f (ds.any fun z => PyData.eqv z d))) H) (inD f) := by
  intro H Q φ h x y vx vy rh rx ry p
  unfold inD at p
  split at p
  · rename_i d ds ex ey
    split at p
    · rename_i hc
      exact ⟨d, ds, toD_sim rh 64 x vx d rx ex, toD_sim rh 64 y vy _ ry ey, hc.1, hc.2, p.give rh (.bl _)⟩
    · exact p.elim
  · exact p.elim
theorem so_inD {k : Nat} (K : PySem.W.Frag) (hr : Room k X.A) (hK : X.K = K := by rfl) : SOp X (compareOp .In) (rInD K) (inD id) := by
  subst hK
  exact ⟨op_inD (by have := hr.un; omega), sim_inD id⟩
theorem so_ninD {k : Nat} (K : PySem.W.Frag) (hr : Room k X.A) (hK : X.K = K := by rfl) : SOp X (compareOp .NotIn) (rNotInD K) (inD not) := by
  subst hK
  exact ⟨op_notInD (by have := hr.un; omega), sim_inD not⟩
theorem sim_idxD {K : PySem.W.Frag} : SimM K (rIndexD K) idxD := by
  intro H Q φ h x xs vx vs rh rx rs p
  unfold idxD at p
  split at p
  · split at p
    · split at p
      · rename_i ds d ex ey
        split at p
        · rename_i hc
          split at p
          · rename_i j hj
            cases rs with
            | cons r1 r2 =>
              cases r2
              obtain ⟨hjl, hj1, hj2⟩ := List.findIdx?_eq_some_iff_getElem.mp hj
              have q1 := toD_sim rh 64 _ _ _ rx ex
              cases rx with
              | ref hn =>
                refine ⟨_, _, d, ds, j, ds[j], rfl, rfl, q1, toD_sim rh 64 _ _ d r1 ey, hc.2, hc.1, List.getElem?_eq_getElem hjl, hj1, fun m z' hm hz => ?_, p.give rh (.int _)⟩
                obtain ⟨hml, hz2⟩ := List.getElem?_eq_some_iff.mp hz
                subst hz2
                simpa using hj2 m hm
          · exact p.elim
        · exact p.elim
      · exact p.elim
    · exact p.elim
  · exact p.elim
theorem sm_idxD {k : Nat} (K : PySem.W.Frag) (hr : Room k X.A) (hK : X.K = K := by rfl) : SMt X "list.index" (rIndexD K) idxD := by
  subst hK
  exact ⟨mt_indexD (by have := hr.un; omega), sim_idxD⟩
/-! max(xs) -/
def maxI (a : Int) (l : List Int) : Int := l.foldl (fun m x => if m < x then x else m) a
theorem maxI_le : ∀ (l : List Int) (a : Int), (a ≤ maxI a l ∧ ∀ x ∈ l, x ≤ maxI a l) ∧ (maxI a l = a ∨ maxI a l ∈ l)
  | [], a => ⟨⟨Int.le_refl _, by simp⟩, .inl rfl⟩
  | b :: l, a => by
    have ih := maxI_le l (if a < b then b else a)
    have e : maxI a (b :: l) = maxI (if a < b then b else a) l := rfl
    rw [e]
    have h1 : a ≤ (if a < b then b else a) ∧ b ≤ (if a < b then b else a) := by split <;> omega
    refine ⟨⟨by omega, fun x hx => ?_⟩, ?_⟩
    · rcases List.mem_cons.mp hx with q | q
      · subst q; omega
      · exact ih.1.2 x q
    · rcases ih.2 with q | q
      · by_cases hab : a < b
        · rw [if_pos hab] at q ⊢; exact .inr (by rw [q]; exact List.mem_cons_self)
        · rw [if_neg hab] at q ⊢; exact .inl q
      · exact .inr (List.mem_cons_of_mem _ q)
def maxL : O1 := fun xs h => match xs with
  | [x] => match lstOf h x with
    | some ys => match intsOf ys with
      | some (a :: l) => some (.int (maxI a l), h)
      | _ => none
    | none => none
  | _ => none
theorem sc_maxL (K : PySem.W.Frag) (hc : X.calm = true) (hK : X.K = K := by rfl) : SCall X (.builtin "max") (rMax K) maxL := by
  subst hK
  refine ⟨cr_max hc, ?_⟩
  intro H Q φ h xs vs rh rs p
  unfold maxL at p
  split at p
  · cases rs with
    | cons r1 r2 =>
      cases r2
      split at p
      · rename_i ys e
        split at p
        · rename_i a l eb
          obtain ⟨q, us, rfl, hs, ru⟩ := lstOf_sim rh r1 e
          rw [intsOf_eq eb] at ru
          refine ⟨q, a :: l, rfl, by rw [← ru.ints_eq]; exact hs, by simp, fun m hm hy => ?_⟩
          have w := maxI_le l a
          have : m = maxI a l := by
            have h1 := hy (maxI a l) (by
              rcases w.2 with q | q
              · rw [q]; exact List.mem_cons_self
              · exact List.mem_cons_of_mem _ q)
            rcases List.mem_cons.mp hm with q | q
            · have := w.1.1; omega
            · have := w.1.2 m q; omega
          rw [this]
          exact p.give rh (.int _)
        · exact p.elim
      · exact p.elim
  · exact p.elim
end
theorem maxL_ref {n : Nat} {a : Int} {l : List Int} {h : IH} (e : h[n]? = some (.lst ((a :: l).map IV.int))) : maxL [.ref n] h = some (.int (maxI a l), h) := by
  simp only [maxL, lstOf, e, intsOf_map]
theorem inD_at {f : Bool → Bool} {x : IV} {n : Nat} {d : PyData} {ds : List PyData} {k : Nat} {h : IH} (ex : toD h 64 x = some d) (ey : toD h 64 (.ref n) = some (.list ds)) (hk : k ≤ 64) (sd : Shp k d) (ss : Shp k (.list ds)) : inD f x (.ref n) h = some (.bl (f (ds.any fun z => PyData.eqv z d)), h) := by
  simp only [inD, ex, ey, sd.shaped hk, ss.shaped hk, and_self, if_true]
theorem idxD_at {x : IV} {n : Nat} {d : PyData} {ds : List PyData} {k j : Nat} {h : IH} (ex : toD h 64 x = some d) (ey : toD h 64 (.ref n) = some (.list ds)) (hk : k ≤ 64) (sd : Shp k d) (ss : Shp k (.list ds)) (hj : ds.findIdx? (fun z => PyData.eqv z d) = some j) : idxD (.ref n) [x] h = some (.int (j : Nat), h) := by
  simp only [idxD, ex, ey, sd.shaped hk, ss.shaped hk, and_self, if_true, hj]
end L2.Sh

namespace L2.Sh
open PySem PySem.Spec PyProof.Rows L2
/-! ### dicts whose keys are tuples of whole numbers -/
def keyT : IV → Option (List Int)
  | .tup xs => intsOf xs
  | _ => none
section
variable {X : Cx} {pins : List (Addr × Obj)} {σ : St} {H : Hp} {s : Shared}
theorem items_ints {P : Program} {w : World} : ∀ {ks : List Int} {its : List Value}, Vals (ks.map V.int) its → ItemsAre (intKind P w) ks its
  | [], _, r => by rw [List.map_nil] at r; cases r; exact .nil
  | k :: ks, _, r => by
    rw [List.map_cons] at r
    cases r with
    | cons h t =>
      obtain ⟨t', rfl⟩ := h
      exact .cons (by simp [intKind, Value.isInt]) (items_ints t)
theorem keyT_of {b : Addr} {ks : List Int} (I : L2.Inv X pins σ H s) (h : TupN X.K H b (ks.map V.int)) : (tupleKind (intKind X.prog X.w)).is s.heap ks b := by
  obtain ⟨its, rv, ⟨o, e, c, n, d⟩, hz⟩ := I.tuple h.sq
  exact ⟨o, its.toArray, n, e, c, d, by simpa using items_ints rv⟩
theorem enT_eq {P : Program} {w : World} : enT = entryOfKey (tupleKind (intKind P w)) := rfl
theorem dtx_of {a : Addr} {xs : List (List Int × Addr × Value)} (I : L2.Inv X pins σ H s) (e : H a = some (DTx a xs)) (hk : ∀ x ∈ xs, TupN X.K H x.2.1 (x.1.map V.int)) :
    xs.length ≤ sizeLine ∧ (a == sysModules) = false ∧ s.heap.DictOfH (tupleKind (intKind X.prog X.w)) a xs := by
  obtain ⟨⟨z, lo, nd, o, es, ep, g, hx, hd, he⟩, _⟩ := (show ObjOk X.prog X.w H s.heap a (DTx a xs) from I.hok a _ e)
  exact ⟨z, lo, o, es, ep, g, hx, hd, he, fun x hx => keyT_of I (hk x hx), nd⟩
theorem dtx_ok {P : Program} {w : World} {H' : Hp} {h' : Heap} {a : Addr} {xs : List (List Int × Addr × Value)} (z : xs.length ≤ sizeLine) (lo : (a == sysModules) = false) (d : h'.DictOfH (tupleKind (intKind P w)) a xs) : ObjOk P w H' h' a (DTx a xs) := by
  obtain ⟨o, es, ep, g, hx, hd, he, _, nd⟩ := d
  exact ⟨⟨z, lo, nd, o, es, ep, g, hx, hd, he⟩, ⟨o, g⟩, fun h1 h2 ⟨q1, q2, q3, o', es', ep', g', r⟩ k => ⟨q1, q2, q3, o', es', ep', k _ g', r⟩⟩
end
/-- the keys stand -/
def KeysN (K : PySem.W.Frag) (H : Hp) (xs : List (List Int × Addr × Value)) : Prop := ∀ x ∈ xs, TupN K H x.2.1 (x.1.map V.int)
theorem RDs.keys {K : PySem.W.Frag} {φ : List Addr} {H : Hp} : ∀ {a : List (List Int × IV)} {b : List (List Int × Addr × Value)}, RDs K φ H a b → KeysN K H b
  | _, _, .nil, x, hx => by cases hx
  | _, _, .cons h t, x, hx => by
    rcases List.mem_cons.mp hx with e | e
    · subst e; exact h.2.1
    · exact RDs.keys t x e
theorem RDs.val {K : PySem.W.Frag} {φ : List Addr} {H : Hp} {k : List Int} : ∀ {a : List (List Int × IV)} {b : List (List Int × Addr × Value)}, RDs K φ H a b →
    (∀ x, valI a k = some x → ∃ q u v, atKey b k = some (q, u) ∧ RelV v u ∧ RV K φ H x v) ∧ (valI a k = none → atKey b k = none)
  | _, _, .nil => ⟨fun x e => (by cases e), fun _ => rfl⟩
  | p :: a, q :: b, .cons h t => by
    have ih := RDs.val (k := k) t
    unfold valI atKey at ih ⊢
    rw [List.find?_cons, List.find?_cons, ← h.1]
    cases hd : decide (p.1 = k) with
    | true =>
      refine ⟨fun x e => ?_, fun e => (by cases e)⟩
      cases e
      obtain ⟨v, r1, r2⟩ := h.2.2
      exact ⟨q.2.1, q.2.2, v, rfl, r1, r2⟩
    | false => exact ih
theorem RDs.isSome {K : PySem.W.Frag} {φ : List Addr} {H : Hp} {k : List Int} {a : List (List Int × IV)} {b : List (List Int × Addr × Value)} (h : RDs K φ H a b) : (atKey b k).isSome = (valI a k).isSome := by
  cases e : valI a k with
  | none => rw [h.val.2 e]; rfl
  | some x => obtain ⟨q, u, v, e1, _⟩ := h.val.1 x e; rw [e1]; rfl
theorem RDs.len {K : PySem.W.Frag} {φ : List Addr} {H : Hp} : ∀ {a : List (List Int × IV)} {b : List (List Int × Addr × Value)}, RDs K φ H a b → a.length = b.length
  | _, _, .nil => rfl
  | _, _, .cons _ t => congrArg (· + 1) (RDs.len t)
theorem any_some {k : List Int} : ∀ a : List (List Int × IV), (a.any fun kv => decide (kv.1 = k)) = (valI a k).isSome
  | [] => rfl
  | p :: a => by
    have ih := any_some (k := k) a
    unfold valI at ih ⊢
    rw [List.any_cons, List.find?_cons, ih]
    cases decide (p.1 = k) <;> rfl
theorem RDs.repl {K : PySem.W.Frag} {φ : List Addr} {H : Hp} {k : List Int} {u : Value} {v : V} {x : IV} (ru : RelV v u) (rx : RV K φ H x v) : ∀ {a : List (List Int × IV)} {b : List (List Int × Addr × Value)}, RDs K φ H a b → RDs K φ H (a.map fun kv => if kv.1 = k then (kv.1, x) else kv) (b.map (putAt k u))
  | _, _, .nil => .nil
  | p :: a, q :: b, .cons h t => by
    rw [List.map_cons, List.map_cons]
    refine .cons ?_ (RDs.repl ru rx t)
    unfold putAt
    by_cases e : p.1 = k
    · rw [if_pos e, if_pos (h.1.symm.trans e)]; exact ⟨h.1, h.2.1, v, ru, rx⟩
    · rw [if_neg e, if_neg (fun z => e (h.1.trans z))]; exact h
theorem RDs.put {K : PySem.W.Frag} {φ : List Addr} {H : Hp} {k : List Int} {q : Addr} {u : Value} {v : V} {x : IV} (hq : TupN K H q (k.map V.int)) (ru : RelV v u) (rx : RV K φ H x v) {a : List (List Int × IV)} {b : List (List Int × Addr × Value)} (h : RDs K φ H a b) : RDs K φ H (putI a k x) (storedH b k q u) := by
  unfold putI storedH
  rw [h.isSome, any_some]
  split
  · exact h.repl ru rx
  · exact Paired.snoc h ⟨rfl, hq, v, ru, rx⟩
/-! d[t] -/
def rDGT (K : PySem.W.Frag) : R2 := fun x y H Q => ∃ a b xs k q u v, x = V.ref a ∧ y = V.ref b ∧ H a = some (DTx a xs) ∧ KeysN K H xs ∧ TupN K H b (k.map V.int) ∧ atKey xs k = some (q, u) ∧ RelV v u ∧ Q v H
section
variable {X : Cx} {W : WX} {o i e : Expr} {pos pos' : Pos} {to ti te : TE} {mo mi me : Env → M IV}
theorem pe_dgetT (hu : X.A.units + 1 < cLine) (ho : PE X o to) (hi : PE X i ti) (hs : NoSl i) : PE X (.Subscript o i pos) (tOp (rDGT X.K) to ti) := by
  refine ⟨fun pins s σ H Q I h => ?_⟩
  refine subD_of PySem.F.slot_dict_getitem.lookup hs (thn (ho.run pins s σ H _ I h) fun uu s1 ⟨x, H1, I1, rx, q1⟩ => thn (hi.run pins s1 σ H1 _ I1 q1) fun iv s2 ⟨y, H2, I2, ry, q2⟩ => ?_)
  obtain ⟨a, b, xs, k, q, u, v, rfl, rfl, ea, hk, hb, ek, ru, qq⟩ := q2
  obtain rfl : uu = Value.ref a := rx
  obtain rfl : iv = Value.ref b := ry
  obtain ⟨z, lo, dd⟩ := dtx_of I2 ea hk
  refine ⟨dd.typeIs, wpAny_getItem_heap (tupleKind_room_in1 hu) (keyT_of I2 hb) dd ek ?_⟩
  exact ⟨v, H2, I2.tok _, ru, qq⟩
def dgT : O2 := fun x y h => match x with
  | .ref n => match h[n]? with
    | some (.dT kvs) => match keyT y with
      | some k => match valI kvs k with
        | some v => some (v, h)
        | none => none
      | none => none
    | _ => none
  | _ => none
theorem keyT_sim {K : PySem.W.Frag} {φ : List Addr} {H : Hp} {y : IV} {v : V} {k : List Int} (r : RV K φ H y v) (e : keyT y = some k) : ∃ b, v = .ref b ∧ TupN K H b (k.map V.int) := by
  cases r <;> try (cases e; done)
  rename_i a xs vs hs rs
  have e2 := intsOf_eq (show intsOf xs = some k from e)
  subst e2
  exact ⟨_, rfl, by rw [← rs.ints_eq]; exact hs⟩
theorem sim_dgT {K : PySem.W.Frag} : SimR K (rDGT K) dgT := by
  intro H Q φ h x y vx vy rh rx ry p
  unfold dgT at p
  split at p
  · split at p
    · rename_i n kvs e
      split at p
      · rename_i k ek
        split at p
        · rename_i v ev
          cases rx with
          | ref hn =>
            obtain ⟨o, eo, ro⟩ := rh.ob hn
            rw [e] at eo
            cases eo
            obtain ⟨xs, q, rk⟩ := ro
            obtain ⟨b, rfl, hb⟩ := keyT_sim ry ek
            obtain ⟨q1, u, w, e1, e2, e3⟩ := rk.val.1 v ev
            exact ⟨_, b, xs, k, q1, u, w, rfl, rfl, q, rk.keys, hb, e1, e2, p.give rh e3⟩
        · exact p.elim
      · exact p.elim
    · exact p.elim
  · exact p.elim
theorem se_dgT (K : PySem.W.Frag) {k : Nat} (hr : Room k X.A) (ha : SE X W o to mo) (hb : SE X W i ti mi) (hp : NoSl i) (hK : X.K = K := by rfl) : SE X W (.Subscript o i pos) (tOp (rDGT K) to ti) (eOp dgT mo mi) := by
  subst hK; exact ⟨pe_dgetT (hu_of hr) ha.pe hb.pe hp, sim_op sim_dgT ha.sim hb.sim⟩
/-! t in d -/
def rDInT (K : PySem.W.Frag) (f : Bool → Bool) : R2 := fun y x H Q => ∃ a b xs k, x = V.ref a ∧ y = V.ref b ∧ H a = some (DTx a xs) ∧ KeysN K H xs ∧ TupN K H b (k.map V.int) ∧ Q (.bl (f (atKey xs k).isSome)) H
theorem op_dinT (hu : X.A.units + 1 < cLine) : OpR X (compareOp .In) (rDInT X.K id) := by
  intro pins s σ H x y v u Q I rx ry h
  obtain ⟨a, b, xs, k, rfl, rfl, ea, hk, hb, q⟩ := h
  cases rx
  cases ry
  obtain ⟨z, lo, dd⟩ := dtx_of I ea hk
  exact wpAny_in_heap (tupleKind_room_in1 hu) (keyT_of I hb) lo dd ⟨.bl _, H, I.tok _, rfl, q⟩
theorem op_dninT (hu : X.A.units + 1 < cLine) : OpR X (compareOp .NotIn) (rDInT X.K not) := by
  intro pins s σ H x y v u Q I rx ry h
  obtain ⟨a, b, xs, k, rfl, rfl, ea, hk, hb, q⟩ := h
  cases rx
  cases ry
  obtain ⟨z, lo, dd⟩ := dtx_of I ea hk
  exact wpAny_notIn_heap (tupleKind_room_in1 hu) (keyT_of I hb) lo dd ⟨.bl _, H, I.tok _, rfl, q⟩
def dinT (f : Bool → Bool) : O2 := fun y x h => match x with
  | .ref n => match h[n]? with
    | some (.dT kvs) => match keyT y with
      | some k => some (.bl (f (valI kvs k).isSome), h)
      | none => none
    | _ => none
  | _ => none
theorem sim_dinT {K : PySem.W.Frag} (f : Bool → Bool) : SimR K (rDInT K f) (dinT f) := by
  intro H Q φ h y x vy vx rh ry rx p
  unfold dinT at p
  split at p
  · split at p
    · rename_i n kvs e
      split at p
      · rename_i k ek
        cases rx with
        | ref hn =>
          obtain ⟨o, eo, ro⟩ := rh.ob hn
          rw [e] at eo
          cases eo
          obtain ⟨xs, q, rk⟩ := ro
          obtain ⟨b, rfl, hb⟩ := keyT_sim ry ek
          refine ⟨_, b, xs, k, rfl, rfl, q, rk.keys, hb, ?_⟩
          rw [rk.isSome]
          exact p.give rh (.bl _)
      · exact p.elim
    · exact p.elim
  · exact p.elim
theorem so_dinT (K : PySem.W.Frag) {k : Nat} (hr : Room k X.A) (hK : X.K = K := by rfl) : SOp X (compareOp .In) (rDInT K id) (dinT id) := by subst hK; exact ⟨op_dinT (hu_of hr), sim_dinT id⟩
theorem so_dninT (K : PySem.W.Frag) {k : Nat} (hr : Room k X.A) (hK : X.K = K := by rfl) : SOp X (compareOp .NotIn) (rDInT K not) (dinT not) := by subst hK; exact ⟨op_dninT (hu_of hr), sim_dinT not⟩
/-! d[t] = v -/
def rSetT (K : PySem.W.Frag) : TSet := fun o i v H Q => ∃ a b xs k, o = V.ref a ∧ i = V.ref b ∧ H a = some (DTx a xs) ∧ KeysN K H xs ∧ TupN K H b (k.map V.int) ∧ xs.length < sizeLine ∧ ∀ u, RelV v u → Q (upd H a (DTx a (storedH xs k b u)))
theorem storedH_le (xs : List (List Int × Addr × Value)) (k : List Int) (b : Addr) (u : Value) : (storedH xs k b u).length ≤ xs.length + 1 := by
  unfold storedH
  split
  · rw [List.length_map]; omega
  · simp
theorem set_dT (hu : X.A.units + 1 < cLine) : PSet X (rSetT X.K) := by
  intro pins s σ H o i v ov iv u Q I ro ri rv h
  obtain ⟨a, b, xs, k, rfl, rfl, ea, hk, hb, hl, q⟩ := h
  cases ro
  cases ri
  obtain ⟨z, lo, dd⟩ := dtx_of I ea hk
  refine wpAny_setItem_heap (hsz := z) (tupleKind_room_in1 hu) (keyT_of I hb) dd fun h' dd' hs => ?_
  have he : ∃ q, h'.get? a = some q := let ⟨q, _, _, hq, _⟩ := dd'; ⟨q, hq⟩
  refine ⟨_, d_write I (by rw [ea]; exact True.intro) hs he (dtx_ok ?_ lo dd'), q u rv⟩
  have := storedH_le xs k b u
  omega
def putT : IV → IV → IV → IH → Option IH := fun o i x h => match o with
  | .ref n => match h[n]? with
    | some (.dT kvs) => match keyT i with
      | some k => if kvs.length < 1000000 then some (h.set n (.dT (putI kvs k x))) else none
      | none => none
    | _ => none
  | _ => none
theorem putT_sim {K : PySem.W.Frag} : ∀ H Q φ h o i x vo vi vx, RH K φ H h → RV K φ H o vo → RV K φ H i vi → RV K φ H x vx → (match putT o i x h with | none => False | some h' => ∀ H', Ev φ H φ H' → RH K φ H' h' → Q H') → rSetT K vo vi vx H Q := by
  intro H Q φ h o i x vo vi vx rh ro ri rx p
  unfold putT at p
  cases ro <;> first | exact p.elim | skip
  rename_i n a hn
  simp only [] at p
  obtain ⟨ob, eo, rob⟩ := rh.ob hn
  rw [eo] at p
  cases ob with
  | lst xs => exact p.elim
  | dK xs => exact p.elim
  | dT kvs =>
    obtain ⟨xs, q, rs⟩ := rob
    simp only [] at p
    cases ek : keyT i with
    | none => rw [ek] at p; exact p.elim
    | some k =>
      rw [ek] at p
      by_cases hl : kvs.length < 1000000
      · simp only [if_pos hl] at p
        obtain ⟨b, rfl, hb⟩ := keyT_sim ri ek
        refine ⟨a, b, xs, k, rfl, rfl, q, rs.keys, hb, ?_, fun u hu => ?_⟩
        · rw [← rs.len, sizeLine_eq]; omega
        have ep : Ev φ H φ (upd H a (DTx a (storedH xs k b u))) := ev_put q stab_DTx
        exact p _ ep (rh.put (o := .dT (putI kvs k x)) hn ⟨_, upd_same, (rs.put hb hu rx).ev ep⟩)
      · simp only [if_neg hl] at p
theorem ss_subT (K : PySem.W.Frag) (ho : SE X W o to mo) (hi : SE X W i ti mi) (he : SE X W e te me)
    (pe : PE X e te → PE X o to → PE X i ti → PS X (.Assign [.Subscript o i pos'] e pos) (tAsg te (gSub to ti (rSetT X.K)))) (hK : X.K = K := by rfl) : SS X W (.Assign [.Subscript o i pos'] e pos) (tAsg te (gSub to ti (rSetT K))) (sSub putT mo mi me) := by
  subst hK
  exact ss_sub ho hi he putT_sim (pe he.pe ho.pe hi.pe)
/-! {} -/
theorem dtx_empty {P : Program} {w : World} {H : Hp} (h : Heap) (hb : sysModules < h.objs.size) : ObjOk P w H (h.push { cls := .type "dict", data := .dict #[] }) h.objs.size (DTx h.objs.size []) :=
  dtx_ok (Nat.zero_le _) (beq_eq_false_iff_ne.mpr (Ne.symm (Nat.ne_of_lt hb))) ⟨_, #[], 0, Heap.get?_push_size _ rfl, ⟨rfl, rfl, rfl⟩, rfl, rfl, fun x hx => (nomatch hx), List.nodup_nil⟩
def tDNewX : TE := fun _ H Q => ∀ p, H p = none → Q (.ref p) (upd H p (DTx p []))
theorem pe_dnewX : PE X (.Dict [] [] pos) tDNewX := ⟨fun pins s σ H Q I h =>
  wpAny_Dict_empty ⟨.ref s.heap.objs.size, _, I.laid (a := s.heap.objs.size) (o := DTx s.heap.objs.size []) (t' := s.toks) (fun _ _ q => Heap.get?_push_of_some _ q) (Nat.le_refl _) (dtx_empty s.heap I.big), rfl, h _ (I.hok.fresh (Nat.le_refl _))⟩⟩
def eDT : Env → M IV := fun _ h => some (.ok (.ref h.length), h ++ [.dT []])
theorem se_dT : SE X W (.Dict [] [] pos) tDNewX eDT := ⟨pe_dnewX, by
  intro σ H Q φ h env re rh p
  intro l hl
  exact post_new (o := .dT []) rh hl ⟨_, upd_same, .nil⟩ p⟩
end
/-! sorted(d), pairs -/
def lexI (p q : Int × Int) : Bool := SrtO.lexB p q
def insP (a : Int × Int) : List (Int × Int) → List (Int × Int)
  | [] => [a]
  | b :: l => if lexI b a = true then b :: insP a l else a :: b :: l
def srtP : List (Int × Int) → List (Int × Int)
  | [] => []
  | a :: l => insP a (srtP l)
theorem insP_perm (a : Int × Int) : ∀ l, (insP a l).Perm (a :: l)
  | [] => .refl _
  | b :: l => by
    unfold insP
    split
    · exact ((insP_perm a l).cons b).trans (.swap a b l)
    · exact .refl _
theorem srtP_perm : ∀ l, (srtP l).Perm l
  | [] => .refl _
  | a :: l => (insP_perm a _).trans ((srtP_perm l).cons a)
theorem lexI_no {p q : Int × Int} : lexI p q = false ↔ ¬ (p.1 < q.1 ∨ (p.1 = q.1 ∧ p.2 < q.2)) := SrtO.lexB_no
theorem lexI_iff {p q : Int × Int} : lexI p q = true ↔ p.1 < q.1 ∨ (p.1 = q.1 ∧ p.2 < q.2) := SrtO.lexB_iff
theorem insP_pw (a : Int × Int) : ∀ l : List (Int × Int), l.Pairwise (fun p q => lexI q p = false) → (insP a l).Pairwise (fun p q => lexI q p = false)
  | [], _ => by simp [insP]
  | b :: l, h => by
    rw [List.pairwise_cons] at h
    unfold insP
    split
    · rename_i hab
      refine List.pairwise_cons.mpr ⟨fun x hx => ?_, insP_pw a l h.2⟩
      rcases List.mem_cons.mp ((insP_perm a l).mem_iff.mp hx) with e | e
      · subst e
        have := lexI_iff.mp hab
        exact lexI_no.mpr (by omega)
      · exact h.1 x e
    · rename_i hab
      have hab' : lexI b a = false := by cases q : lexI b a <;> simp_all
      refine List.pairwise_cons.mpr ⟨fun x hx => ?_, List.pairwise_cons.mpr h⟩
      rcases List.mem_cons.mp hx with e | e
      · subst e; exact hab'
      · have h1 := lexI_no.mp (h.1 x e)
        have h2 := lexI_no.mp hab'
        exact lexI_no.mpr (by omega)
theorem srtP_pw : ∀ l : List (Int × Int), (srtP l).Pairwise (fun p q => lexI q p = false)
  | [] => .nil
  | a :: l => insP_pw a _ (srtP_pw l)
theorem srtP_uniq {l m : List (Int × Int)} (p : m.Perm l) (s : m.Pairwise (fun p q => lexI q p = false)) : m = srtP l := by
  refine List.Perm.eq_of_pairwise (fun a b _ _ h1 h2 => ?_) s (srtP_pw l) (p.trans (srtP_perm l).symm)
  have h1 := lexI_no.mp h1
  have h2 := lexI_no.mp h2
  exact Prod.ext (by omega) (by omega)
def prsOf : List (List Int) → Option (List (Int × Int))
  | [] => some []
  | [i, j] :: r => (prsOf r).map ((i, j) :: ·)
  | _ :: _ => none
theorem prsOf_eq : ∀ {xs : List (List Int)} {ps : List (Int × Int)}, prsOf xs = some ps → xs = ps.map fun p => [p.1, p.2]
  | [], _, e => by cases e; rfl
  | x :: r, ps, e => by
    unfold prsOf at e
    split at e
    · rename_i h0; cases h0
    · rename_i i j l h0
      injection h0 with h1 h2
      subst h1 h2
      cases q : prsOf r with
      | none => rw [q] at e; cases e
      | some ls => rw [q] at e; cases e; rw [List.map_cons, ← prsOf_eq q]
    · cases e
def tupP (p : Int × Int) : IV := .tup [.int p.1, .int p.2]
def sortT : O1 := fun xs h => match xs with
  | [.ref n] => match h[n]? with
    | some (.dT kvs) => match prsOf (kvs.map (·.1)) with
      | some ps => some (.ref h.length, h ++ [.lst ((srtP ps).map tupP)])
      | none => none
    | _ => none
  | _ => none
def rSortDT (K : PySem.W.Frag) : List V → Hp → VK → Prop := fun vs H Q => ∃ (a : Addr) (xs : List (List Int × Addr × Value)) (ps : List (Int × Int)), vs = [V.ref a] ∧ H a = some (DTx a xs) ∧ KeysN K H xs ∧ xs.map (·.1) = ps.map (fun p => [p.1, p.2]) ∧
  ∀ (bs : List Addr) (l : Addr), Paired (fun b (p : Int × Int) => TupN K H b [.int p.1, .int p.2]) bs (srtP ps) → H l = none → Q (.ref l) (upd H l (.lst (bs.map V.ref)))
/-- the pair that a value is, by the heap -/
noncomputable def pairV (h : Heap) (v : Value) : Int × Int := by
  classical exact if e : ∃ p : Int × Int, Srt.IsPair h v p.1 p.2 then Classical.choose e else (0, 0)
theorem pair_uniq {h : Heap} {v : Value} {p q : Int × Int} (a : Srt.IsPair h v p.1 p.2) (b : Srt.IsPair h v q.1 q.2) : p = q := by
  obtain ⟨x, o, t, u, n, e, ho, hc, hd⟩ := a
  obtain ⟨x', o', t', u', n', e', ho', hc', hd'⟩ := b
  subst e
  cases e'
  rw [ho] at ho'
  cases ho'
  rw [hd] at hd'
  injection hd' with q1 q2
  have q3 : [Value.int p.1 t, Value.int p.2 u] = [Value.int q.1 t', Value.int q.2 u'] := congrArg Array.toList q1
  simp only [List.cons.injEq, Value.int.injEq] at q3
  exact Prod.ext q3.1.1 q3.2.1.1
theorem pairV_eq {h : Heap} {v : Value} {p : Int × Int} (a : Srt.IsPair h v p.1 p.2) : pairV h v = p := by
  have e : ∃ p : Int × Int, Srt.IsPair h v p.1 p.2 := ⟨p, a⟩
  unfold pairV
  rw [dif_pos e]
  exact pair_uniq (Classical.choose_spec e) a
section
variable {X : Cx}
theorem isPair_of {pins : List (Addr × Obj)} {σ : St} {H : Hp} {s : Shared} {b : Addr} {p : Int × Int} (I : L2.Inv X pins σ H s) (h : TupN X.K H b [.int p.1, .int p.2]) : Srt.IsPair s.heap (.ref b) p.1 p.2 := by
  obtain ⟨its, rv, ⟨o, e, c, n, d⟩, hz⟩ := I.tuple h.sq
  obtain ⟨u1, u2, rfl, ⟨t1, rfl⟩, ⟨t2, rfl⟩⟩ := vals2 rv
  exact ⟨b, o, t1, t2, n, rfl, e, c, d⟩
theorem outs_of {pins : List (Addr × Obj)} {σ : St} {H : Hp} {s : Shared} (I : L2.Inv X pins σ H s) : ∀ {out : List Value}, (∀ v ∈ out, ∃ b p, v = .ref b ∧ TupN X.K H b [.int (p : Int × Int).1, .int p.2]) →
    ∃ bs : List Addr, out = bs.map Value.ref ∧ Paired (fun b (p : Int × Int) => TupN X.K H b [.int p.1, .int p.2]) bs (out.map (pairV s.heap))
  | [], _ => ⟨[], rfl, .nil⟩
  | v :: out, hout => by
    obtain ⟨b, p, rfl, hb⟩ := hout v List.mem_cons_self
    obtain ⟨bs, e1, e2⟩ := outs_of I fun u hu => hout u (List.mem_cons_of_mem _ hu)
    refine ⟨b :: bs, by rw [e1]; rfl, .cons ?_ e2⟩
    rw [pairV_eq (isPair_of I hb)]
    exact hb
theorem cr_sortDT (hc : X.calm = true) : CallR X (.builtin "sorted") (rSortDT X.K) := by
  intro pins s σ H vs us Q I r h
  obtain ⟨a, xs, ps, rfl, ea, hk, hp, q⟩ := h
  obtain ⟨uu, rfl, ru⟩ := vals1 r
  cases ru
  obtain ⟨z, lo, dd⟩ := dtx_of I ea hk
  obtain ⟨o, es, ep, ho, hx, hdat, he, _, hn⟩ := dd
  have l1 : es.size = xs.length := size_of_entries he
  refine Calls.call_function_entry PyProof.Rows.kind_sorted PyProof.Rows.plain_sorted PyProof.Rows.entry_sorted (PyProof.Rows.args_sorted1 _) ?_
  unfold Builtin.«sorted»
  refine wpAny_bind (m := checkCount "sorted" 1 1 _) (wpAny_pure ?_)
  refine wpAny_bind (PySem.W.kdu_collect (A := X.A.in1) (kdl_raw lo hx hdat) (I.ok.hd hc) ho (by omega) fun h' tk acc hkp hacc => ?_)
  have I1 : L2.Inv X pins σ H { s with heap := h', toks := tk } := I.kept hkp
  have ea1 : acc.toList = xs.map fun x => Value.ref x.2.1 := by
    have hl : acc.toList.length = xs.length := by rw [Array.length_toList, hacc.1]; exact l1
    apply List.ext_getElem?
    intro j
    rw [List.getElem?_map]
    cases hj : acc.toList[j]? with
    | none =>
      have h1 := List.getElem?_eq_none_iff.mp hj
      rw [List.getElem?_eq_none (by omega)]
      all_goals rfl
    | some v =>
      obtain ⟨en, hen, hv⟩ := hacc.2 j v (by rw [← Array.getElem?_toList]; exact hj)
      have qe := entry_at he j
      rw [hen] at qe
      cases hb : xs[j]? with
      | none =>
        rw [hb] at qe
        exact nomatch (show some en = none from qe)
      | some b =>
        rw [hb] at qe
        have e2 : en = entryOfKey (tupleKind (intKind X.prog X.w)) b := Option.some.inj qe
        rw [hv, e2]
        all_goals rfl
  have hal : acc.toList.length = xs.length := by rw [ea1, List.length_map]
  have keyAt : ∀ x ∈ xs, ∃ p ∈ ps, x.1 = [p.1, p.2] := fun x hx => by
    have : x.1 ∈ ps.map (fun p => [p.1, p.2]) := by rw [← hp]; exact List.mem_map.mpr ⟨x, hx, rfl⟩
    obtain ⟨p, hm, e⟩ := List.mem_map.mp this
    exact ⟨p, hm, e.symm⟩
  have tupAt : ∀ x ∈ xs, ∀ p : Int × Int, x.1 = [p.1, p.2] → TupN X.K H x.2.1 [.int p.1, .int p.2] := fun x hx p e => by
    have := hk x hx
    rw [e] at this
    exact this
  have hpr : ∀ v ∈ acc.toList, ∃ b p, v = .ref b ∧ TupN X.K H b [.int (p : Int × Int).1, .int p.2] := fun v hv => by
    rw [ea1] at hv
    obtain ⟨x, hx, rfl⟩ := List.mem_map.mp hv
    obtain ⟨p, _, e⟩ := keyAt x hx
    exact ⟨x.2.1, p, rfl, tupAt x hx p e⟩
  have hpp : ∀ v ∈ acc.toList, Srt.IsPair h' v (pairV h' v).1 (pairV h' v).2 := fun v hv => by
    obtain ⟨b, p, rfl, hb⟩ := hpr v hv
    have := isPair_of I1 hb
    rw [pairV_eq this]
    exact this
  refine wpAny_bind (wpAny_newList ?_ (by rw [hal]; exact z))
  have hoL : (h'.push (seqObj "list" acc.toList.toArray 0)).get? h'.objs.size = some (seqObj "list" acc.toList.toArray 0) := Heap.get?_push_size _ rfl
  show wpAny _ _ _ _ _ { s with heap := h'.push (seqObj "list" acc.toList.toArray 0), toks := tk }
  have kp2 : ∀ b o, h'.get? b = some o → (h'.push (seqObj "list" acc.toList.toArray 0)).get? b = some o := fun b o e => Heap.get?_push_of_some _ e
  refine wpAny_bind (wpAny_holding (wpAny_call_entry PyProof.Rows.slot_list_sort ⟨_, hoL, rfl⟩ PyProof.Rows.entry_list_sort
    (SrtO.list_sort_ord (s := { s with heap := h'.push (seqObj "list" acc.toList.toArray 0), toks := tk }) (SrtO.swo_lex (pairV h')) hoL (by rw [hal]; exact z) (fun h2 => SrtO.pairs_sortableO (by omega) (fun v hv => (hpp v hv).keeps fun b o e _ => kp2 b o e) fun o e => ?_) fun out hs hb => ⟨_, rfl, ?_⟩) (PyProof.Rows.args_list_sort _)))
  · have e' : some o = some (seqObj "list" acc.toList.toArray 0) := e.symm.trans hoL
    cases e'
    intro c
    exact absurd (Value.type.inj c) (by decide)
  obtain ⟨e', he'⟩ := PyProof.Rows.sortedHeap_at (vs := acc.toList) (out := out.toArray) hoL
  have hperm := hb.perm
  -- the addresses of the answer
  have hout : ∀ v ∈ out, ∃ b p, v = .ref b ∧ TupN X.K H b [.int (p : Int × Int).1, .int p.2] := fun v hv => hpr v (hperm.mem_iff.mp hv)
  have hmap : out.map (pairV h') = srtP ps := by
    refine srtP_uniq ?_ ?_
    · refine (hperm.map (pairV h')).trans (List.Perm.of_eq ?_)
      rw [ea1, List.map_map]
      have e3 : ∀ x ∈ xs, [((pairV h' ∘ fun x => Value.ref x.2.1) x).1, ((pairV h' ∘ fun x => Value.ref x.2.1) x).2] = x.1 := fun x hx => by
        obtain ⟨p, _, e⟩ := keyAt x hx
        have := pairV_eq (isPair_of I1 (tupAt x hx p e))
        show [(pairV h' (.ref x.2.1)).1, (pairV h' (.ref x.2.1)).2] = x.1
        rw [this, e]
      have e4 : (xs.map (pairV h' ∘ fun x => Value.ref x.2.1)).map (fun p => [p.1, p.2]) = ps.map (fun p => [p.1, p.2]) := by
        rw [← hp, List.map_map]
        exact List.map_congr_left fun x hx => e3 x hx
      have inj : ∀ (l m : List (Int × Int)), l.map (fun p => [p.1, p.2]) = m.map (fun p => [p.1, p.2]) → l = m := by
        intro l
        induction l with
        | nil => intro m e; cases m with
          | nil => rfl
          | cons _ _ => simp at e
        | cons p l ih => intro m e; cases m with
          | nil => simp at e
          | cons p' m =>
            simp only [List.map_cons, List.cons.injEq] at e
            rw [ih m e.2]
            congr 1
            exact Prod.ext e.1.1 e.1.2.1
      exact inj _ _ e4
    · exact List.pairwise_map.mpr (hs.imp fun {x y} h => h)
  obtain ⟨bs, hbs, hpair⟩ : ∃ bs : List Addr, out = bs.map Value.ref ∧ Paired (fun b (p : Int × Int) => TupN X.K H b [.int p.1, .int p.2]) bs (srtP ps) := by
    rw [← hmap]
    exact outs_of I1 hout
  have hlen : (bs.map V.ref).length ≤ sizeLine := by
    have e1 := hperm.length_eq
    rw [hbs, List.length_map] at e1
    rw [List.length_map]
    omega
  refine wpAny_pure ⟨_, rfl, .ref h'.objs.size, upd H h'.objs.size (.lst (bs.map V.ref)), I1.laid (t' := tk) (fun b u e => ?_) (Nat.le_refl _)
    (show ObjOk X.prog X.w _ _ _ (.lst (bs.map V.ref)) from ⟨hlen, out, e', by rw [hbs]; exact vals_refs _, he'⟩), rfl, q bs _ hpair (I1.hok.fresh (Nat.le_refl _))⟩
  have hb : b < h'.objs.size := Heap.lt_size e
  rw [PyProof.Rows.sortedHeap_old (Nat.ne_of_lt hb) (by rw [size_push']; exact Nat.lt_succ_of_lt hb)]
  exact Heap.get?_push_of_some _ e
theorem sc_sortT (K : PySem.W.Frag) (hc : X.calm = true) (hK : X.K = K := by rfl) : SCall X (.builtin "sorted") (rSortDT K) sortT := by
  subst hK
  refine ⟨cr_sortDT hc, ?_⟩
  intro H Q φ h xs vs rh rs p
  unfold sortT at p
  split at p
  · cases rs with
    | cons r1 r2 =>
      cases r2
      cases r1 with
      | ref hn =>
        obtain ⟨o, eo, ro⟩ := rh.ob hn
        split at p
        · rename_i e
          rw [e] at eo
          cases eo
          obtain ⟨ys, q, rk⟩ := ro
          split at p
          · rename_i ps ep
            have e1 := prsOf_eq ep
            have e2 : ∀ {a : List (List Int × IV)} {b : List (List Int × Addr × Value)}, RDs X.K φ H a b → a.map (·.1) = b.map (·.1) := fun {a b} h => by
              induction h with
              | nil => rfl
              | cons h t ih => rw [List.map_cons, List.map_cons, ih, h.1]
            refine ⟨_, ys, ps, rfl, q, rk.keys, by rw [← e2 rk]; exact e1, fun bs l hb hl => ?_⟩
            have e3 : ∀ {bs : List Addr} {l : List (Int × Int)}, Paired (fun b (p : Int × Int) => TupN X.K H b [.int p.1, .int p.2]) bs l → RVs X.K φ H (l.map tupP) (bs.map V.ref) := fun {bs l} h => by
              induction h with
              | nil => exact .nil
              | cons h t ih => exact .cons (.tup h (.cons (.int _) (.cons (.int _) .nil))) ih
            exact post_new (o := .lst _) rh hl ⟨_, upd_same, (e3 hb).ev (ev_new hl _)⟩ p
          · exact p.elim
        · exact p.elim
  · exact p.elim
end
/-! the plain side -/
section
variable {env : Env} {h : IH}
@[simp] theorem WE_eDT {Q : IV → IH → Prop} : WE (eDT env h) Q ↔ Q (.ref h.length) (h ++ [.dT []]) := Iff.rfl
theorem dgT_at {n : Nat} {kvs : List (List Int × IV)} {y v : IV} {k : List Int} (e : h[n]? = some (.dT kvs)) (ek : keyT y = some k) (ev : valI kvs k = some v) : dgT (.ref n) y h = some (v, h) := by
  simp only [dgT, e, ek, ev]
theorem dinT_at {n : Nat} {kvs : List (List Int × IV)} {y : IV} {k : List Int} {f : Bool → Bool} (e : h[n]? = some (.dT kvs)) (ek : keyT y = some k) : dinT f y (.ref n) h = some (.bl (f (valI kvs k).isSome), h) := by
  simp only [dinT, e, ek]
theorem putT_at {n : Nat} {kvs : List (List Int × IV)} {y v : IV} {k : List Int} (e : h[n]? = some (.dT kvs)) (ek : keyT y = some k) (hl : kvs.length < 1000000) : putT (.ref n) y v h = some (h.set n (.dT (putI kvs k v))) := by
  simp only [putT, e, ek, if_pos hl]
theorem sortT_at {n : Nat} {kvs : List (List Int × IV)} {ps : List (Int × Int)} (e : h[n]? = some (.dT kvs)) (ep : prsOf (kvs.map (·.1)) = some ps) : sortT [.ref n] h = some (.ref h.length, h ++ [.lst ((srtP ps).map tupP)]) := by
  simp only [sortT, e, ep]
end
end L2.Sh

namespace L2.Sh
open PySem PySem.Spec PyProof.Rows L2
/-! ### dict(t), t a tuple of pairs -/
theorem pairs_vals {X : Cx} {pins : List (Addr × Obj)} {σ : L2.St} {H : Hp} {s : Shared} (I : L2.Inv X pins σ H s) : ∀ {ps : List Addr} {kvs : List (Key × V)}, Paired (fun p kv => SqT X.K H p [kV kv.1, kv.2]) ps kvs →
    ∃ (vs : List (Key × Value)) (pv : List (Value × Value)), KV kvs vs ∧ pv.length = ps.length ∧ vs.length = ps.length ∧ ∀ (j : Nat) (k v : Value), pv[j]? = some (k, v) → ∃ p, ps[j]? = some p ∧ PySem.PairAt s.heap p k v ∧ ∃ kk, vs[j]? = some (kk, v) ∧ keyIs kk k = true
  | [], [], .nil => ⟨[], [], .nil, rfl, rfl, fun j k v e => by simp at e⟩
  | p :: ps, kv :: kvs, .cons h t => by
    obtain ⟨vs, pv, h1, h2, h3, h4⟩ := pairs_vals I t
    obtain ⟨its, r, ht, _⟩ := I.tuple h
    obtain ⟨u, w', rfl, ru, rw⟩ := vals2 r
    refine ⟨(kv.1, w') :: vs, (u, w') :: pv, .cons ⟨rfl, rw⟩ h1, by simp [h2], by simp [h3], fun j k v e => ?_⟩
    cases j with
    | zero =>
      simp at e
      obtain ⟨e1, e2⟩ := e
      subst e1 e2
      refine ⟨p, rfl, .inl ht, kv.1, rfl, ?_⟩
      cases hk : kv.1 with
      | inl i => rw [hk] at ru; obtain ⟨t, rfl⟩ := ru; simp [keyIs, Value.isInt]
      | inr x => rw [hk] at ru; obtain ⟨t, rfl⟩ := ru; simp [keyIs, Value.isStrOf]
    | succ j =>
      simp at e
      obtain ⟨q, e1, e2, kk, e3, e4⟩ := h4 j k v e
      exact ⟨q, by simpa using e1, e2, kk, by simpa using e3, e4⟩
theorem get_lt {h : Heap} {a : Addr} {o : Obj} (e : h.get? a = some o) : a < h.objs.size := by
  unfold Heap.get? at e
  cases q : h.objs[a]? with
  | none => rw [q] at e; cases e
  | some z => exact (Array.getElem?_eq_some_iff.mp q).1
theorem putK_len {κ : Type} [DecidableEq κ] (kvs : List (κ × V)) (k : κ) (v : V) : (putK kvs k v).length ≤ kvs.length + 1 := by
  unfold putK
  split
  · rw [List.length_map]; omega
  · simp
theorem mergeK_len : ∀ (more kvs : List (Key × V)), (mergeK kvs more).length ≤ kvs.length + more.length
  | [], kvs => by simp [mergeK]
  | p :: more, kvs => by
    have h1 := mergeK_len more (putK kvs p.1 p.2)
    have h2 := putK_len kvs p.1 p.2
    have e : mergeK kvs (p :: more) = mergeK (putK kvs p.1 p.2) more := rfl
    rw [e, List.length_cons]
    omega
theorem KV_len : ∀ {kvs : List (Key × V)} {vs : List (Key × Value)}, KV kvs vs → kvs.length = vs.length
  | _, _, .nil => rfl
  | _, _, .cons _ t => congrArg (· + 1) (KV_len t)
def rDictT (K : PySem.W.Frag) : List V → Hp → VK → Prop := fun xs H Q => ∃ (a : Addr) (ps : List Addr) (kvs : List (Key × V)), xs = [V.ref a] ∧ ps ≠ [] ∧ TupN K H a (ps.map V.ref) ∧ Paired (fun p kv => SqT K H p [kV kv.1, kv.2]) ps kvs ∧ ∀ p, H p = none → Q (.ref p) (upd H p (.dK (mergeK [] kvs)))
theorem call_dictT {X : Cx} (hc : X.calm = true) : CallR X (.type "dict") (rDictT X.K) := by
  intro pins s σ H xs us Q I r h
  obtain ⟨a, ps, kvs, rfl, hne, hs, hp, q⟩ := h
  obtain ⟨u, rfl, rx⟩ := vals1 r
  cases rx
  obtain ⟨its, rv, ⟨o, e, c, n, d⟩, hz⟩ := I.tuple hs.sq
  obtain ⟨_, hd⟩ := tyT_is (x := V.ref a) (v := .ref a) I (show RelV (V.ref a) (Value.ref a) from rfl) ⟨a, _, rfl, hs⟩
  obtain ⟨ob, e2, d0⟩ := hd a rfl
  rw [e] at e2
  cases e2
  obtain ⟨vs, pv, h1, h2, h3, h4⟩ := pairs_vals I hp
  have hsz : pv.length ≤ sizeLine := by rw [h2, ← List.length_map (as := ps) (f := V.ref)]; exact hz
  have itl : its.length = pv.length := by rw [← rv.length, List.length_map, h2]
  have big : (s.heap.objs.size == sysModules) = false := by
    obtain ⟨p0, rest, rfl⟩ : ∃ p0 rest, ps = p0 :: rest := by
      cases ps with
      | nil => exact absurd rfl hne
      | cons p0 rest => exact ⟨p0, rest, rfl⟩
    cases hp with
    | cons hp0 hpr =>
      rename_i kv kvr
      obtain ⟨its0, r0, ⟨o0, e0, c0, n0, dd0⟩, _⟩ := I.tuple hp0
      have l1 := get_lt e
      have l2 := get_lt e0
      have hap : a ≠ p0 := by
        intro z
        subst z
        rw [e] at e0
        cases e0
        rw [d] at dd0
        injection dd0 with q1 q2
        have q3 : its = its0 := by
          have := congrArg Array.toList q1
          simpa using this
        subst q3
        cases rv with
        | cons ra rb =>
          cases r0 with
          | cons rc rd =>
            have ra' : _ = Value.ref a := ra
            subst ra'
            cases hk : kv.1 with
            | inl i => rw [hk] at rc; obtain ⟨t, z⟩ := rc; cases z
            | inr x => rw [hk] at rc; obtain ⟨t, z⟩ := rc; cases z
      have : ∀ (a b n : Nat), a < n → b < n → a ≠ b → (n == 1) = false := fun a b n h1 h2 h3 => beq_eq_false_iff_ne.mpr (by omega)
      exact this a p0 _ l1 l2 hap
  obtain ⟨gp, hgp⟩ : ∃ gp : Nat → Addr, ∀ j p, ps[j]? = some p → gp j = p := ⟨fun j => match ps[j]? with | some p => p | none => a, fun j p e => by simp only [e]⟩
  refine PySem.call_dict_pairs (knd := mixKind X.prog X.w) (kvs := vs) (PySem.PairArg.tuple a its.toArray gp pv) (I.ok.hd hc) ⟨⟨o, n, e, c, d0, d⟩, by simpa using itl, fun j k v ej => ?_⟩ ⟨by rw [h3, h2], fun j k v ej => ?_⟩ hsz (fun h' tk hd hk => ?_)
  · obtain ⟨p, ep, pa, _⟩ := h4 j k v ej
    obtain ⟨u, hu, ru⟩ := rv.get (show (ps.map V.ref)[j]? = some (V.ref p) by rw [List.getElem?_map, ep]; rfl)
    have ru' : u = Value.ref p := ru
    subst ru'
    rw [hgp j p ep]
    exact ⟨by simpa using hu, pa⟩
  · obtain ⟨p, ep, pa, kk, e1, e2⟩ := h4 j k v ej
    exact ⟨kk, e1, e2⟩
  · have kl : (mergeK [] kvs).length ≤ sizeLine := by
      have q1 := mergeK_len kvs []
      have q2 : kvs.length = vs.length := by
        exact KV_len h1
      simp at q1
      omega
    refine ⟨.ref s.heap.objs.size, upd H s.heap.objs.size (.dK (mergeK [] kvs)), I.laid (t' := tk) (o := .dK (mergeK [] kvs)) (fun b u eb => hk b u (by simp) eb) (Nat.le_refl _) ?_, rfl, q _ I.fresh⟩
    simp only [ObjOk]
    exact ⟨kl, big, merged [] vs, KV.merge h1 .nil, hd⟩
def dictTO : O1 := fun xs h => match xs with
  | [.tup (y :: ys)] => match pairsI (y :: ys) with
      | some kvs => some (.ref h.length, h ++ [.dK (mergeI [] kvs)])
      | none => none
  | _ => none
section
variable {X : Cx} {W : WX}
theorem sc_dictT (hc : X.calm = true) : SCall X (.type "dict") (rDictT X.K) dictTO := ⟨call_dictT hc, by
  intro H Q φ h xs vs rh rs p
  unfold dictTO at p
  split at p
  · rename_i y ys
    cases rs with
    | cons r1 r2 =>
      cases r2
      cases r1 with
      | tup hs rr =>
        split at p
        · rename_i kvs ek
          obtain ⟨ps, ws, e1, h1, h2⟩ := pairsI_sim rr ek
          subst e1
          refine ⟨_, ps, ws, rfl, ?_, hs, h1, fun l hl => post_new (o := .dK _) rh hl ⟨_, upd_same, (RKs.merge (a := []) (b := []) .nil h2).ev (ev_new hl _)⟩ p⟩
          intro z
          subst z
          cases rr
        · exact p.elim
  · exact p.elim⟩
theorem sc_dictTK (K : PySem.W.Frag) (hc : X.calm = true) (hK : X.K = K := by rfl) : SCall X (.type "dict") (rDictT K) dictTO := by subst hK; exact sc_dictT hc
end
theorem dictT_of {xs : List IV} {kvs : List (Key × IV)} {h : IH} (hne : xs ≠ []) (ep : pairsI xs = some kvs) : dictTO [.tup xs] h = some (.ref h.length, h ++ [.dK (mergeI [] kvs)]) := by
  cases xs with
  | nil => exact absurd rfl hne
  | cons x xs => simp only [dictTO, ep]
end L2.Sh

namespace L2.Sh
open PySem PySem.Spec PyProof.Rows L2
/-! ### tuple * int -/
theorem tuple_mul1 (l : Addr) (items : Array Value) (n : Nat) (sl : Array (Option Value)) (x : Int) (u : Tok) (c0 : (decide (x < -(2 ^ 63)) || decide (x ≥ 2 ^ 63)) = false) (c1 : (items.isEmpty || x == 1) = true) :
    Meets (Builtin.«tuple.__mul__» ⟨[.ref l, .int x u], []⟩) (fun _ R s => s.heap.get? l = some { cls := .type "tuple", dict := none, data := .seq items n, slots := sl } ∧ R (.ok (.ret (Value.ref l))) s) :=
  .of_wp fun prog w A R s h => by
    obtain ⟨hp, g, d, tk, os⟩ := s
    obtain ⟨hl, h⟩ := h
    have f1 := AutoSeq1.idx_int
    wp_walk using wpAny_loadPart' hl
    repeat (first
      | (refine wpAny_ite_false (decide_eq_false (by rw [c0]; exact Bool.false_ne_true)) ?_; wp_walk using wpAny_loadPart' hl)
      | (refine wpAny_ite_true (decide_eq_true c1) ?_; wp_walk using wpAny_loadPart' hl))
    all_goals first | exact ⟨_, rfl, h⟩ | exact h | skip
def rRepTF (K : PySem.W.Frag) : R2 := fun x y H Q => ∃ l k xs, x = .ref l ∧ y = .int k ∧ TupN K H l xs ∧ xs ≠ [] ∧ 1 ≤ k ∧ k ≤ 1000 ∧ xs.length ≤ 1000 ∧ (k = 1 → Q (.ref l) H) ∧ (k ≠ 1 → NewT Q H (List.replicate k.toNat xs).flatten)
section
variable {X : Cx} {W : WX}
theorem op_repTF : OpR X (binaryOp .Mult) (rRepTF X.K) := by
  intro pins s σ H x y v u Q I rx ry h
  obtain ⟨l, k, xs, rfl, rfl, hTN, hne, h1, h2, hz, q1, q2⟩ := h
  cases rx
  obtain ⟨t, rfl⟩ := ry
  obtain ⟨its, r, ⟨⟨cls, dd, data, sl⟩, ho, hc, n, hd⟩, hs⟩ := I.tuple hTN.sq
  obtain ⟨_, hdd⟩ := tyT_is (x := V.ref l) (v := .ref l) I (show RelV (V.ref l) (Value.ref l) from rfl) ⟨l, _, rfl, hTN⟩
  obtain ⟨ob, e2, d0⟩ := hdd l rfl
  rw [ho] at e2
  cases e2
  simp only at hc hd d0
  subst hc hd d0
  have hle : its.length = xs.length := r.length.symm
  have hn : its ≠ [] := fun e => hne (by
    rw [e] at hle
    exact List.eq_nil_of_length_eq_zero hle.symm)
  have hi : its.toArray.isEmpty = false := by
    cases its with
    | nil => exact absurd rfl hn
    | cons a b => rfl
  have hsz0 : its.toArray.size = xs.length := by rw [List.size_toArray, hle]
  have hm : ((its.toArray.size : Nat) : Int) * k ≤ 1000000 := by
    rw [hsz0]
    have a1 : ((xs.length : Nat) : Int) * k ≤ 1000 * k := Int.mul_le_mul_of_nonneg_right (by omega) (by omega)
    omega
  have flen : (List.replicate k.toNat its).flatten.length ≤ sizeLine := by
    rw [PyProof.Rows.lm_len_rep_flat, hle, sizeLine_eq]
    have a1 : k.toNat * xs.length ≤ 1000 * 1000 := Nat.mul_le_mul (by omega) hz
    omega
  have c0 : (decide (k < -(2 ^ 63)) || decide (k ≥ 2 ^ 63)) = false := by
    rw [decide_eq_false (by omega), decide_eq_false (by omega)] <;> rfl
  have c2 : (decide (k ≤ 0) || its.toArray.isEmpty) = false := by
    rw [hi, Bool.or_false]
    exact decide_eq_false (by omega)
  have c4 : Builtin.Tuple.tupleTooMany (((its.toArray.size : Nat) : Int) * k) = false := by
    unfold Builtin.Tuple.tupleTooMany
    rw [sizeLine_eq]
    exact decide_eq_false (by omega)
  refine wpAny_binaryOp_repeat_ref (T := "tuple") (U := "int") (by decide) ⟨_, ho, rfl⟩ (fun s' => typeIs_int s' k t) noFill_tuple_mul F.fills_int_mul F.slot_int_rmul repeat_tuple F.slot_int_index.lookup ?_
  refine call_meets F.slot_int_rmul (typeIs_int s k t) F.entry_int_rmul (F.args_int_rmul_2 _ _) (int_rmul_tuple k t l its.toArray n none sl) ⟨ho, rfl, ⟨_, ho, rfl⟩, ?_⟩
  by_cases hk : k = 1
  · subst hk
    refine call_meets F.slot_tuple_mul ⟨_, ho, rfl⟩ F.entry_tuple_mul (F.args_tuple_mul_2 _ _) (tuple_mul1 l its.toArray n sl 1 t c0 (by simp)) ⟨ho, ?_⟩
    exact ⟨.ref l, H, I, rfl, q1 rfl⟩
  · have c1 : (its.toArray.isEmpty || k == 1) = false := by
      rw [hi, Bool.false_or]
      exact beq_eq_false_iff_ne.mpr (by omega)
    refine call_meets F.slot_tuple_mul ⟨_, ho, rfl⟩ F.entry_tuple_mul (F.args_tuple_mul_2 _ _) (tuple_mulW l its.toArray n none sl k t c0 c1 c2 (by omega) c4 (by rw [size_rep, List.size_toArray]; exact flen)) ⟨ho, ?_⟩
    rw [size_rep]
    exact ep_new (t' := s.toks) I (by rw [PyProof.Rows.lm_len_rep_flat, sizeLine_eq]; have a1 : k.toNat * xs.length ≤ 1000 * 1000 := Nat.mul_le_mul (by omega) hz; omega) (r.rep k.toNat) (q2 hk)
def mulT : O2 := fun x y h => match x, y with
  | .tup (x :: xs), .int k => if 1 ≤ k ∧ k ≤ 1000 ∧ xs.length < 1000 then some (.tup (List.replicate k.toNat (x :: xs)).flatten, h) else none
  | _, _ => none
theorem so_mulTK (K : PySem.W.Frag) (hK : X.K = K := by rfl) : SOp X (binaryOp .Mult) (rRepTF K) mulT := by
  subst hK
  refine ⟨op_repTF, ?_⟩
  intro H Q φ h x y vx vy rh rx ry p
  unfold mulT at p
  split at p
  · rename_i z zs k
    cases ry
    cases rx with
    | tup hs rs =>
      rename_i a vs
      split at p
      · rename_i hc
        have hl := rs.length
        refine ⟨a, k, vs, rfl, rfl, hs, fun e => (by subst e; cases rs), hc.1, hc.2.1, by rw [← hl, List.length_cons]; omega, fun e => ?_, fun e l o hl2 ho => ?_⟩
        · subst e
          refine p.give rh ?_
          have e1 : (List.replicate (1 : Int).toNat (z :: zs)).flatten = z :: zs := by simp
          rw [e1]
          exact .tup hs rs
        · have e2 : Ev φ H φ (upd H l (.frz o (.tup (List.replicate k.toNat vs).flatten))) := ev_new0 hl2
          exact p φ _ _ e2 (rh.beside hl2) (.tup (.inl ⟨o, upd_same, ho⟩) ((rs.rep _).ev e2))
      · exact p.elim
  · exact p.elim
abbrev mulO' : O2 := orO mulO mulT
theorem so_mulK' (K : PySem.W.Frag) (hK : X.K = K := by rfl) : SOp X (binaryOp .Mult) (fun x y H Q => rOr (rI CMulW fun i j => .int (i * j)) (rOr rMulS rRep) x y H Q ∨ rRepTF K x y H Q) mulO' := so_mul.or (so_mulTK K hK)
end
theorem mulT_tup {xs : List IV} {k : Int} {h : IH} (hne : xs ≠ []) (h1 : 1 ≤ k) (h2 : k ≤ 1000) (h3 : xs.length ≤ 1000) : mulT (.tup xs) (.int k) h = some (.tup (List.replicate k.toNat xs).flatten, h) := by
  cases xs with
  | nil => exact absurd rfl hne
  | cons x xs => simp only [mulT]; rw [if_pos ⟨h1, h2, by rw [List.length_cons] at h3; omega⟩]
end L2.Sh

namespace L2.Sh
open PySem PySem.Spec PyProof.Rows L2
/-! ### dict displays -/
def pNil : Env → M (List (IV × IV)) := fun _ h => some (.ok [], h)
def pCons (k v : Env → M IV) (r : Env → M (List (IV × IV))) : Env → M (List (IV × IV)) := fun env => bnd (k env) fun x => bnd (v env) fun y => bnd (r env) fun ps h => some (.ok ((x, y) :: ps), h)
def keysI : List (IV × IV) → Option (List (Key × IV))
  | [] => some []
  | (k, v) :: r => match keyI k, keysI r with
    | some k, some r => some ((k, v) :: r)
    | _, _ => none
def eDisp (m : Env → M (List (IV × IV))) : Env → M IV := fun env h => match m env (h ++ [.dK []]) with
  | some (.ok ps, h') => match keysI ps, h'[h.length]? with
    | some kvs, some (.dK []) => if kvs.length ≤ 15 then some (.ok (.ref h.length), h'.set h.length (.dK (mergeI [] kvs))) else none
    | _, _ => none
  | _ => none
abbrev RPs (K : PySem.W.Frag) (φ : List Addr) (H : Hp) : List (IV × IV) → List (V × V) → Prop := Paired fun p q => RV K φ H p.1 q.1 ∧ RV K φ H p.2 q.2
structure SPs (X : Cx) (W : WX) (pos : Pos) (keys : List (Option Expr)) (values : List Expr) (trs : List (TE × TE)) (m : Env → M (List (IV × IV))) : Prop where
  pe : PPs X pos keys values trs
  sim : ∀ σ H Q φ h env, REnv X.K φ H env σ → RH X.K φ H h → Post X.K X.mg (RPs X.K) φ H (L2.WE W σ) Q (m env h) → tPairs trs σ H Q
section
variable {X : Cx} {W : WX} {pos : Pos}
theorem sps_nil : SPs X W pos [] [] [] pNil := ⟨pps_nil, fun σ H Q φ h env re rh p => p φ H [] (Ev.refl _ _) rh .nil⟩
theorem sps_cons {k v : Expr} {ks : List (Option Expr)} {vs : List Expr} {tk tv : TE} {trs : List (TE × TE)} {mk mv : Env → M IV} {m : Env → M (List (IV × IV))} (hk : SE X W k tk mk) (hv : SE X W v tv mv) (hr : SPs X W pos ks vs trs m) :
    SPs X W pos (some k :: ks) (v :: vs) ((tk, tv) :: trs) (pCons mk mv m) := by
  refine ⟨pps_cons hk.pe hv.pe hr.pe, ?_⟩
  intro σ H Q φ h env re rh p
  refine hk.sim σ H _ φ h env re rh (p.bnd (Ev.refl _ _) fun φ1 H1 x v h1 e1 rh1 r1 p1 => ?_)
  refine hv.sim σ H1 _ φ1 h1 env (re.ev e1) rh1 (p1.bnd e1 fun φ2 H2 y u h2 e2 rh2 r2 p2 => ?_)
  refine hr.sim σ H2 _ φ2 h2 env ((re.ev e1).ev e2) rh2 (p2.bnd (e1.trans e2) fun φ3 H3 ps qs h3 e3 rh3 r3 p3 => ?_)
  exact p3 φ3 H3 _ ((e1.trans e2).trans e3) rh3 (.cons ⟨(r1.ev e2).ev e3, r2.ev e3⟩ r3)
theorem keysI_sim {K : PySem.W.Frag} {φ : List Addr} {H : Hp} : ∀ {ps : List (IV × IV)} {qs : List (V × V)} {kvs : List (Key × IV)}, RPs K φ H ps qs → keysI ps = some kvs → ∃ ws : List (Key × V), qs = ws.map (fun kv => (kV kv.1, kv.2)) ∧ RKs K φ H kvs ws
  | _, _, _, .nil, e => by cases e; exact ⟨[], rfl, .nil⟩
  | p :: ps, q :: qs, kvs, .cons r t, e => by
    obtain ⟨k, v⟩ := p
    unfold keysI at e
    split at e
    · rename_i kk rr ek er
      cases e
      obtain ⟨ws, e1, h2⟩ := keysI_sim t er
      refine ⟨(kk, q.2) :: ws, ?_, .cons ⟨rfl, r.2⟩ h2⟩
      rw [List.map_cons, ← e1, ← keyI_sim r.1 ek]
    · cases e
theorem se_disp {keys : List (Option Expr)} {values : List Expr} {trs : List (TE × TE)} {m : Env → M (List (IV × IV))} (hp : SPs X W pos keys values trs m) (hall : keys.all (·.isSome) = true := by rfl) (hl : keys.length = values.length := by rfl) (h0 : keys ≠ [] := by exact List.cons_ne_nil _ _) (h15 : keys.length ≤ 15 := by decide) :
    SE X W (.Dict keys values pos) (tDisp trs) (eDisp m) := by
  refine ⟨pe_disp hp.pe hall hl h0 h15, ?_⟩
  intro σ H Q φ h env re rh p q hq
  have ro : RO X.K (φ ++ [q]) (upd H q (.dK [])) q (.dK []) := ⟨[], upd_same, .nil⟩
  have e0 : Ev φ H (φ ++ [q]) (upd H q (.dK [])) := ev_new hq [q]
  have rh0 := rh.alloc hq ro
  have hn0 : (φ ++ [q])[h.length]? = some q := by rw [← rh.len]; simp
  refine hp.sim σ _ _ (φ ++ [q]) (h ++ [.dK []]) env (re.ev e0) rh0 ?_
  unfold eDisp at p
  cases hm : m env (h ++ [.dK []]) with
  | none => rw [hm] at p; exact p.elim
  | some z =>
    obtain ⟨z, h'⟩ := z
    rw [hm] at p
    cases z with
    | error x => exact p.elim
    | ok ps =>
      simp only [] at p
      intro φ2 H2 qs e2 rh2 r2
      split at p
      · rename_i kvs ek eh
        split at p
        · rename_i hl15
          have hn2 := e2.at hn0
          obtain ⟨ws, e1, rk⟩ := keysI_sim r2 ek
          obtain ⟨o, eo, ro2⟩ := rh2.ob hn2
          rw [eh] at eo
          cases eo
          obtain ⟨vs0, q0, rk0⟩ := ro2
          cases rk0
          refine ⟨q0, ws, e1, by rw [← rk.len]; exact hl15, ?_⟩
          have ep : Ev φ2 H2 φ2 (upd H2 q (.dK (mergeK [] ws))) := ev_put q0 rfl
          exact p φ2 _ _ ((e0.trans e2).trans ep) (rh2.put (o := .dK (mergeI [] kvs)) hn2 ⟨_, upd_same, (RKs.merge (a := []) (b := []) .nil rk).ev ep⟩) (.ref hn2)
        · exact p.elim
      · exact p.elim
/-! {t: v}, t a tuple of whole numbers -/
def tDispT (K : PySem.W.Frag) (tk tv : TE) : TE := fun σ H Q => ∀ p, H p = none → tk σ (upd H p (DTx p [])) fun x H1 => tv σ H1 fun y H2 => ∃ (b : Addr) (k : List Int), x = V.ref b ∧ TupN K H2 b (k.map V.int) ∧ H2 p = some (DTx p []) ∧ ∀ u, RelV y u → Q (.ref p) (upd H2 p (DTx p [(k, b, u)]))
theorem pe_dispT {k v : Expr} {tk tv : TE} {j : Nat} (hr : Room j X.A) (hk : PE X k tk) (hv : PE X v tv) : PE X (.Dict [some k] [v] pos) (tDispT X.K tk tv) := by
  refine ⟨fun pins s σ H Q I q => ?_⟩
  have hn := I.hok.fresh (Nat.le_refl s.heap.objs.size)
  have I1 := I.laid (a := s.heap.objs.size) (o := DTx s.heap.objs.size []) (h' := s.heap.push { cls := .type "dict", data := .dict #[] }) (t' := s.toks) (fun _ _ q => Heap.get?_push_of_some _ q) (Nat.le_refl _) (dtx_empty s.heap I.big)
  have hroom : (tupleKind (intKind X.prog X.w)).room X.A := Nat.lt_of_succ_lt (hu_of hr)
  rw [arm_eval_Dict, show (evalEachOpt [some k] X.env).zip ((evalEach [v] X.env).map fun v => do let x ← v; standAt pos; pure x) = (pairTrees [some k] [v] X.env pos).map (fun p => (some p.1, p.2)) from zip_pairTrees [some k] [v] X.env pos rfl rfl, dictDisplay_pairs _ (by simp [pairTrees]) (by simp [pairTrees])]
  refine wpAny_bind (wpAny_standAt (wpAny_bind (wpAny_subDictH (knd := tupleKind (intKind X.prog X.w)) hroom (by simp [pairTrees]) ?_)))
  refine pairTrees_cons_walk (thn (hk.run pins _ σ _ _ I1 (q _ hn)) fun kv s1 ⟨x, H1, I2, rx, q1⟩ => thn (hv.run pins s1 σ H1 _ I2 q1) fun vv s2 ⟨y, H2, I3, ry, q2⟩ => pairTrees_nil_walk ?_)
  obtain ⟨b, kk, rfl, hb, ed, qq⟩ := q2
  obtain rfl : kv = Value.ref b := rx
  obtain ⟨z, lo, dd⟩ := dtx_of I3 ed (fun x hx => by cases hx)
  refine ⟨[(kk, b, vv)], ⟨rfl, rfl, keyT_of I3 hb, trivial⟩, dd, fun h' tk hd hs => wpAny_pure ?_⟩
  have he : ∃ q, h'.get? s.heap.objs.size = some q := let ⟨q, _, _, hq, _⟩ := hd; ⟨q, hq⟩
  refine ⟨.ref s.heap.objs.size, _, d_write I3 (by rw [ed]; exact True.intro) hs he (dtx_ok (xs := [(kk, b, vv)]) (by rw [sizeLine_eq]; simp) lo ?_), rfl, qq vv ry⟩
  exact hd
def eDispT (k v : Env → M IV) : Env → M IV := fun env h => match bnd (k env) (fun x => bnd (v env) fun y h => some (.ok (x, y), h)) (h ++ [.dT []]) with
  | some (.ok (x, y), h') => match keyT x, h'[h.length]? with
    | some kk, some (.dT []) => some (.ok (.ref h.length), h'.set h.length (.dT [(kk, y)]))
    | _, _ => none
  | _ => none
theorem se_dispT (K : PySem.W.Frag) {k v : Expr} {tk tv : TE} {mk mv : Env → M IV} {j : Nat} (hr : Room j X.A) (hk : SE X W k tk mk) (hv : SE X W v tv mv) (hK : X.K = K := by rfl) : SE X W (.Dict [some k] [v] pos) (tDispT K tk tv) (eDispT mk mv) := by
  subst hK
  refine ⟨pe_dispT hr hk.pe hv.pe, ?_⟩
  intro σ H Q φ h env re rh p q hq
  have ro : RO X.K (φ ++ [q]) (upd H q (DTx q [])) q (.dT []) := ⟨[], upd_same, .nil⟩
  have e0 : Ev φ H (φ ++ [q]) (upd H q (DTx q [])) := ev_new hq [q]
  have rh0 := rh.alloc hq ro
  have hn0 : (φ ++ [q])[h.length]? = some q := by rw [← rh.len]; simp
  unfold eDispT at p
  have key : Post X.K X.mg (fun φ H (a : IV × IV) (b : V × V) => RV X.K φ H a.1 b.1 ∧ RV X.K φ H a.2 b.2) (φ ++ [q]) (upd H q (DTx q [])) (L2.WE W σ) (fun xy H2 => ∃ (b : Addr) (k : List Int), xy.1 = V.ref b ∧ TupN X.K H2 b (k.map V.int) ∧ H2 q = some (DTx q []) ∧ ∀ u, RelV xy.2 u → Q (.ref q) (upd H2 q (DTx q [(k, b, u)]))) (bnd (mk env) (fun x => bnd (mv env) fun y h => some (.ok (x, y), h)) (h ++ [.dT []])) := by
    cases hm : bnd (mk env) (fun x => bnd (mv env) fun y h => some (.ok (x, y), h)) (h ++ [.dT []]) with
    | none => rw [hm] at p; exact p.elim
    | some z =>
      obtain ⟨z, h'⟩ := z
      rw [hm] at p
      cases z with
      | error x => exact p.elim
      | ok xy =>
        obtain ⟨x, y⟩ := xy
        simp only [] at p
        intro φ2 H2 qs e2 rh2 r2
        split at p
        · rename_i kk ek eh
          have hn2 := e2.at hn0
          obtain ⟨o, eo, ro2⟩ := rh2.ob hn2
          rw [eh] at eo
          cases eo
          obtain ⟨xs0, q0, rk0⟩ := ro2
          cases rk0
          obtain ⟨b, eb, hb⟩ := keyT_sim r2.1 ek
          refine ⟨b, kk, eb, hb, q0, fun u hu => ?_⟩
          have ep : Ev φ2 H2 φ2 (upd H2 q (DTx q [(kk, b, u)])) := ev_put q0 stab_DTx
          exact p φ2 _ _ ((e0.trans e2).trans ep) (rh2.put (o := .dT [(kk, y)]) hn2 ⟨_, upd_same, .cons ⟨rfl, tupN_ev ep hb, _, hu, r2.2.ev ep⟩ .nil⟩) (.ref hn2)
        · exact p.elim
  refine hk.sim σ _ _ (φ ++ [q]) (h ++ [.dT []]) env (re.ev e0) rh0 (key.bnd (Ev.refl _ _) fun φ1 H1 x v h1 e1 rh1 r1 p1 => ?_)
  refine hv.sim σ H1 _ φ1 h1 env ((re.ev e0).ev e1) rh1 (p1.bnd e1 fun φ2 H2 y u h2 e2 rh2 r2 p2 => ?_)
  exact p2 φ2 H2 (v, u) (e1.trans e2) rh2 ⟨r1.ev e2, r2⟩
end
/-! the plain side -/
section
variable {env : Env} {h : IH}
theorem WE_eDisp {m : Env → M (List (IV × IV))} {Q : IV → IH → Prop} (w : WE (m env (h ++ [.dK []])) fun ps h' => ∃ kvs, keysI ps = some kvs ∧ kvs.length ≤ 15 ∧ h'[h.length]? = some (.dK []) ∧ Q (.ref h.length) (h'.set h.length (.dK (mergeI [] kvs)))) : WE (eDisp m env h) Q := by
  unfold eDisp
  cases hm : m env (h ++ [.dK []]) with
  | none => rw [hm] at w; exact w.elim
  | some z =>
    obtain ⟨z, h'⟩ := z
    rw [hm] at w
    cases z with
    | error x => exact w.elim
    | ok ps =>
      obtain ⟨kvs, e1, e2, e3, q⟩ := w
      simp only [e1, e3, if_pos e2]
      exact q
@[simp] theorem WE_pNil {Q : List (IV × IV) → IH → Prop} : WE (pNil env h) Q ↔ Q [] h := Iff.rfl
@[simp] theorem WE_pCons {k v : Env → M IV} {r : Env → M (List (IV × IV))} {Q : List (IV × IV) → IH → Prop} : WE (pCons k v r env h) Q ↔ WE (k env h) fun x h1 => WE (v env h1) fun y h2 => WE (r env h2) fun ps h3 => Q ((x, y) :: ps) h3 := by simp only [pCons, WE_bnd, WE_ok]
theorem WE_eDispT {k v : Env → M IV} {Q : IV → IH → Prop} (w : WE (k env (h ++ [.dT []])) fun x h1 => WE (v env h1) fun y h2 => ∃ kk, keyT x = some kk ∧ h2[h.length]? = some (.dT []) ∧ Q (.ref h.length) (h2.set h.length (.dT [(kk, y)]))) : WE (eDispT k v env h) Q := by
  unfold eDispT
  have w2 : WE (bnd (k env) (fun x => bnd (v env) fun y h => some (.ok (x, y), h)) (h ++ [.dT []])) fun xy h2 => ∃ kk, keyT xy.1 = some kk ∧ h2[h.length]? = some (.dT []) ∧ Q (.ref h.length) (h2.set h.length (.dT [(kk, xy.2)])) := by
    simp only [WE_bnd, WE_ok]
    exact w
  cases hm : bnd (k env) (fun x => bnd (v env) fun y h => some (.ok (x, y), h)) (h ++ [.dT []]) with
  | none => rw [hm] at w2; exact w2.elim
  | some z =>
    obtain ⟨z, h'⟩ := z
    rw [hm] at w2
    cases z with
    | error x => exact w2.elim
    | ok xy =>
      obtain ⟨kk, e1, e2, q⟩ := w2
      obtain ⟨x, y⟩ := xy
      simp only at e1 q
      simp only [e1, e2]
      exact q
end
end L2.Sh

namespace L2.Sh.Q
open PySem PySem.Spec PyProof.Rows L2 L2.Sh
def topS (i : Nat) : Stmt := PySem.Challenge.pw_truthgrades_k34_whole_sayings_part_grade.main.body.getD i (.Pass ⟨0, 0, 0, 0⟩)
abbrev s__law_draw : Stmt := topS 12
def bd__law_draw_0 : MS := sSeq (sAsgG (eCB dmO (aCons (eOp ixQ (eVar 0) (eC (.int 1))) (aCons (eC (.int 4099)) (aNil)))) (gTL 2 (gsCons (gN 4) (gsCons (gN 5) (gsNil)))))
  (sSub putL (eVar 0) (eC (.int 1)) (eOp modI (eOp addO (eOp addO (eOp mulO (eVar 5) (eC (.int 240007))) (eOp mulO (eVar 4) (eC (.int 89)))) (eC (.int 1201))) (eC (.int 998244353))))
def b__law_draw : MS := sSeq (sIf (tyB (eOp eqO (eOp ixQ (eVar 0) (eC (.int 0))) (eC (.int 0)))) (sSeq (sAsg 2 (eOp modI (eOp ixQ (eVar 0) (eC (.int 1))) (eVar 1)))
  (sSeq (sSub putL (eVar 0) (eC (.int 1)) (eOp divI (eOp ixQ (eVar 0) (eC (.int 1))) (eVar 1)))
  (sRet (eVar 2)))) (sNil))
  (sSeq (sFor FU (iR1 (aCons (eC (.int 2)) (aNil))) (gN 3) (bd__law_draw_0))
  (sRet (eOp modI (eOp divI (eOp ixQ (eVar 0) (eC (.int 1))) (eC (.int 5))) (eVar 1))))
def f__law_draw : Fn := runF 6 b__law_draw
abbrev s__law_names : Stmt := topS 13
def b__law_names : MS := sSeq (sAsg 2 (eC (.str "qwertyuiopasdfghjklzxcvbnm")))
  (sSeq (sAsg 3 (eCall f__law_draw (aCons (eVar 0) (aCons (eC (.int 26)) (aNil)))))
  (sSeq (sAsg 4 (eCall f__law_draw (aCons (eVar 0) (aCons (eC (.int 3)) (aNil)))))
  (sSeq (sIf (tyB (eOp eqO (eVar 4) (eC (.int 0)))) (sSeq (sAsg 5 (eLst (aCons (eC (.str "and")) (aCons (eC (.str "or")) (aCons (eC (.str "not")) (aCons (eC (.str "then")) (aCons (eC (.str "grades")) (aCons (eC (.str "wished")) (aCons (eC (.str "false")) (aCons (eC (.str "true")) (aNil)))))))))))
  (sRet (sliceQ slO (eOp addO (sliceQ slO (eVar 5) (oS (eOp modI (eVar 3) (eC (.int 8)))) (oN)) (sliceQ slO (eVar 5) (oN) (oS (eOp modI (eVar 3) (eC (.int 8)))))) (oN) (oS (eVar 1))))) (sNil))
  (sSeq (sIf (tyB (eOp eqO (eVar 4) (eC (.int 1)))) (sRet (eOp addO (sliceQ slO (eComp [8] FU (iR1 (aCons (eC (.int 7)) (aNil))) (gN 8) (cYes) (eOp mulO (eOp ixQ (eVar 2) (eVar 3)) (eOp addO (eVar 8) (eC (.int 2))))) (oN) (oS (eVar 1))) (eOp mulO (eLst (aCons (eOp mulO (eOp ixQ (eVar 2) (eOp subI (eVar 3) (eC (.int 1)))) (eC (.int 2))) (aNil))) (eCB intO (aCons (eOp eqO (eVar 1) (eC (.int 8))) (aNil)))))) (sNil))
  (sSeq (sAsg 6 (eOp addO (eC (.int 1)) (eCall f__law_draw (aCons (eVar 0) (aCons (eC (.int 7)) (aNil))))))
  (sSeq (sAsg 7 (eCall f__law_draw (aCons (eVar 0) (aCons (eOp addO (eVar 6) (eC (.int 1))) (aNil)))))
  (sRet (eComp [8] FU (iR1 (aCons (eVar 1) (aNil))) (gN 8) (cYes) (eOp addO (eOp addO (eOp mulO (eC (.str "a")) (eVar 7)) (eOp ixQ (eVar 2) (eOp modI (eOp addO (eVar 3) (eVar 8)) (eC (.int 26))))) (eOp mulO (eC (.str "b")) (eOp subI (eVar 6) (eVar 7))))))))))))
def f__law_names : Fn := runF 9 b__law_names
abbrev s__law_cells : Stmt := topS 14
def b__law_cells : MS := sSeq (sAsg 3 (eOp ixQ (eLst (aCons (eC (.int 1)) (aCons (eVar 1) (aCons (eOp mulO (eVar 1) (eVar 1)) (aNil))))) (eVar 2)))
  (sSeq (sAsg 4 (eComp [6] FU (iR1 (aCons (eOp addO (eC (.int 1)) (eCall f__law_draw (aCons (eVar 0) (aCons (eC (.int 3)) (aNil))))) (aNil))) (gN 6) (cYes) (eCall f__law_draw (aCons (eVar 0) (aCons (eVar 1) (aNil))))))
  (sSeq (sAsg 5 (eComp [6] FU (iR1 (aCons (eVar 3) (aNil))) (gN 6) (cYes) (eCall f__law_draw (aCons (eVar 0) (aCons (eVar 1) (aNil))))))
  (sSeq (sIf (tyB (eOp eqO (eCall f__law_draw (aCons (eVar 0) (aCons (eC (.int 3)) (aNil)))) (eC (.int 1)))) (sAsg 5 (eComp [7] FU (iSeq (eVar 5)) (gN 7) (cYes) (eOp ixQ (eVar 4) (eOp modI (eVar 7) (eCB lenO (aCons (eVar 4) (aNil))))))) (sNil))
  (sRet (eCB tupleO (aCons (eVar 5) (aNil)))))))
def f__law_cells : Fn := runF 8 b__law_cells
abbrev s__law_table : Stmt := topS 15
def bd__law_table_0 : MS := sSeq (sAsg 8 (eOp ixQ (eLst (aCons (eC (.int 0)) (aCons (eC (.int 1)) (aCons (eC (.int 1)) (aCons (eC (.int 2)) (aCons (eC (.int 2)) (aNil))))))) (eCall f__law_draw (aCons (eVar 0) (aCons (eC (.int 5)) (aNil))))))
  (sExp (eM "list" appO (eVar 6) (aCons (eTup (aCons (eVar 7) (aCons (eVar 8) (aCons (eCall f__law_cells (aCons (eVar 0) (aCons (eVar 3) (aCons (eVar 8) (aNil))))) (aNil))))) (aNil))))
def b__law_table : MS := sSeq (sAsg 3 (eOp addO (eC (.int 1)) (eCall f__law_draw (aCons (eVar 0) (aCons (eVar 1) (aNil))))))
  (sSeq (sAsg 4 (eCB tupleO (aCons (eComp [9] FU (iR1 (aCons (eVar 3) (aNil))) (gN 9) (tyB (eOp eqO (eCall f__law_draw (aCons (eVar 0) (aCons (eC (.int 2)) (aNil)))) (eC (.int 1)))) (eVar 9)) (aNil))))
  (sSeq (sAsg 5 (eCall f__law_names (aCons (eVar 0) (aCons (eCall f__law_draw (aCons (eVar 0) (aCons (eOp addO (eVar 2) (eC (.int 1))) (aNil)))) (aNil)))))
  (sSeq (sAsg 6 (eLst (aNil)))
  (sSeq (sFor FU (iSeq (eVar 5)) (gN 7) (bd__law_table_0))
  (sRet (eTup (aCons (eVar 3) (aCons (eVar 4) (aCons (eCB tupleO (aCons (eVar 6) (aNil))) (aNil))))))))))
def f__law_table : Fn := runF 10 b__law_table
abbrev s__law_even : Stmt := topS 16
def bd__law_even_0 : MS := sSeq (sAsg 10 (eLst (aCons (eOp ixQ (eVar 3) (eOp divI (eVar 9) (eOp ixQ (eVar 1) (eC (.int 0))))) (aCons (eOp ixQ (eVar 3) (eOp modI (eVar 9) (eOp ixQ (eVar 1) (eC (.int 0))))) (aNil)))))
  (sSeq (sAsg 11 (eComp [15] FU (iR1 (aCons (eVar 9) (aNil))) (gN 15) (tyB (eOp eqO (eLst (aCons (eOp ixQ (eVar 3) (eOp divI (eVar 15) (eOp ixQ (eVar 1) (eC (.int 0))))) (aCons (eOp ixQ (eVar 3) (eOp modI (eVar 15) (eOp ixQ (eVar 1) (eC (.int 0))))) (aNil)))) (eVar 10))) (eVar 15)))
  (sSeq (sAsg 12 (eOp ixQ (eVar 7) (eVar 9)))
  (sSeq (sIf (tyB (eOp neO (eVar 11) (eLst (aNil)))) (sSeq (sAsg 13 (eComp [16] FU (iR1 (aCons (eOp ixQ (eVar 1) (eC (.int 0))) (aNil))) (gN 16) (tyB (eOp eqO (eOp ixQ (eVar 3) (eVar 16)) (eOp ixQ (eVar 3) (eOp ixQ (eVar 8) (eOp ixQ (eVar 11) (eC (.int 0))))))) (eVar 16)))
  (sAsg 12 (eOp ixQ (eVar 13) (eOp modI (eOp ixQ (eVar 7) (eVar 9)) (eCB lenO (aCons (eVar 13) (aNil))))))) (sNil))
  (sExp (eM "list" appO (eVar 8) (aCons (eVar 12) (aNil)))))))
def bd__law_even_1 : MS := sSeq (sAsg 8 (eLst (aNil)))
  (sSeq (sFor FU (iR1 (aCons (eCB lenO (aCons (eVar 7) (aNil))) (aNil))) (gN 9) (bd__law_even_0))
  (sExp (eM "list" appO (eVar 4) (aCons (eTup (aCons (eVar 5) (aCons (eVar 6) (aCons (eCB tupleO (aCons (eVar 8) (aNil))) (aNil))))) (aNil)))))
def b__law_even : MS := sSeq (sAsg 2 (eOp addO (eC (.int 1)) (eCall f__law_draw (aCons (eVar 0) (aCons (eOp ixQ (eVar 1) (eC (.int 0))) (aNil))))))
  (sSeq (sAsg 3 (eComp [12] FU (iR1 (aCons (eOp ixQ (eVar 1) (eC (.int 0))) (aNil))) (gN 12) (cYes) (eCall f__law_draw (aCons (eVar 0) (aCons (eVar 2) (aNil))))))
  (sSeq (sAsg 4 (eLst (aNil)))
  (sSeq (sFor FU (iSeq (eOp ixQ (eVar 1) (eC (.int 2)))) (gTL 3 (gsCons (gN 5) (gsCons (gN 6) (gsCons (gN 7) (gsNil))))) (bd__law_even_1))
  (sSeq (sAsg 14 (eCB tupleO (aCons (eComp [12] FU (iR1 (aCons (eOp ixQ (eVar 1) (eC (.int 0))) (aNil))) (gN 12) (tyB (eOp eqO (eOp modI (eOp ixQ (eVar 3) (eVar 12)) (eC (.int 2))) (eC (.int 1)))) (eVar 12)) (aNil))))
  (sRet (eTup (aCons (eOp ixQ (eVar 1) (eC (.int 0))) (aCons (eVar 14) (aCons (eCB tupleO (aCons (eVar 4) (aNil))) (aNil))))))))))
def f__law_even : Fn := runF 17 b__law_even
abbrev s__law_drawn : Stmt := topS 20
def b__law_drawn : MS := sSeq (sAsg 3 (eCall f__law_table (aCons (eVar 0) (aCons (eVar 1) (aCons (eVar 2) (aNil))))))
  (sSeq (sIf (tyB (eOp eqO (eCall f__law_draw (aCons (eVar 0) (aCons (eC (.int 2)) (aNil)))) (eC (.int 1)))) (sAsg 3 (eCall f__law_even (aCons (eVar 0) (aCons (eVar 3) (aNil))))) (sNil))
  (sRet (eVar 3)))
def f__law_drawn : Fn := runF 4 b__law_drawn
abbrev s__law_lines : Stmt := topS 18
def bd__law_lines_0 : MS := sSeq (sAsgG (eOp ixQ (eOp ixQ (eVar 1) (eC (.int 2))) (eCall f__law_draw (aCons (eVar 0) (aCons (eCB lenO (aCons (eOp ixQ (eVar 1) (eC (.int 2))) (aNil))) (aNil))))) (gTL 3 (gsCons (gN 6) (gsCons (gN 7) (gsCons (gN 8) (gsNil))))))
  (sIf (tOrM (tyB (eOp neO (eVar 4) (eLst (aNil)))) (tyB (eOp eqO (eVar 7) (eC (.int 0))))) (sExp (eM "list" appO (eVar 4) (aCons (eOp addO (eTup (aCons (eVar 6) (aNil))) (eCB tupleO (aCons (eComp [9] FU (iR1 (aCons (eVar 7) (aNil))) (gN 9) (cYes) (eCall f__law_draw (aCons (eVar 0) (aCons (eCB lenO (aCons (eVar 4) (aNil))) (aNil))))) (aNil)))) (aNil)))) (sNil))
def b__law_lines : MS := sSeq (sAsg 4 (eCB listO (aCons (eVar 2) (aNil))))
  (sSeq (sFor FU (iR1 (aCons (eOp mulO (eVar 3) (eCB intO (aCons (eOp neO (eOp ixQ (eVar 1) (eC (.int 2))) (eTup (aNil))) (aNil)))) (aNil))) (gN 5) (bd__law_lines_0))
  (sRet (eVar 4)))
def f__law_lines : Fn := runF 10 b__law_lines
abbrev s_numbered : Stmt := topS 7
def bd_numbered_0 : MS := sIf (tyB (eOp (inD not) (eVar 2) (eVar 1))) (sExp (eM "list" appO (eVar 1) (aCons (eVar 2) (aNil)))) (sNil)
def b_numbered : MS := sSeq (sAsg 1 (eLst (aNil)))
  (sSeq (sFor FU (iSeq (eVar 0)) (gN 2) (bd_numbered_0))
  (sRet (eComp [2] FU (iSeq (eVar 0)) (gN 2) (cYes) (eM "list" idxD (eVar 1) (aCons (eVar 2) (aNil))))))
def f_numbered : Fn := runF 3 b_numbered
abbrev s_all_steps : Stmt := topS 4
def bd_all_steps_0 : MS := sExp (eM "list" extO (eVar 1) (aCons (eLst (aCons (eTup (aCons (eVar 2) (aCons (eC (.int 0)) (aCons (eVar 5) (aNil))))) (aCons (eTup (aCons (eVar 2) (aCons (eC (.int 1)) (aCons (eVar 5) (aNil))))) (aNil)))) (aNil)))
def bd_all_steps_1 : MS := sSeq (sIf (tyB (eOp eqO (eVar 3) (eC (.int 1)))) (sExp (eM "list" appO (eVar 1) (aCons (eTup (aCons (eVar 2) (aCons (eC (.int 0)) (aCons (eC .non) (aNil))))) (aNil)))) (sNil))
  (sIf (tyB (eOp eqO (eVar 3) (eC (.int 2)))) (sFor FU (iR1 (aCons (eOp ixQ (eVar 0) (eC (.int 0))) (aNil))) (gN 5) (bd_all_steps_0)) (sNil))
def b_all_steps : MS := sSeq (sAsg 1 (eLst (aNil)))
  (sSeq (sFor FU (iSeq (eOp ixQ (eVar 0) (eC (.int 2)))) (gTL 3 (gsCons (gN 2) (gsCons (gN 3) (gsCons (gN 4) (gsNil))))) (bd_all_steps_1))
  (sRet (eVar 1)))
def f_all_steps : Fn := runF 6 b_all_steps
abbrev s_cell_at : Stmt := topS 2
def bd_cell_at_0 : MS := sAsg 3 (eOp addO (eOp mulO (eVar 3) (eVar 0)) (eVar 4))
def b_cell_at : MS := sSeq (sAsg 3 (eC (.int 0)))
  (sSeq (sFor FU (iSeq (eVar 2)) (gN 4) (bd_cell_at_0))
  (sRet (eOp ixQ (eVar 1) (eVar 3))))
def f_cell_at : Fn := runF 5 b_cell_at
abbrev s_cells_of : Stmt := topS 1
def bd_cells_of_0 : MS := sIf (tAndM (tyB (eOp eqO (eVar 3) (eVar 1))) (tyB (eOp eqO (eVar 4) (eVar 2)))) (sRet (eVar 5)) (sNil)
def b_cells_of : MS := sSeq (sFor FU (iSeq (eOp ixQ (eVar 0) (eC (.int 2)))) (gTL 3 (gsCons (gN 3) (gsCons (gN 4) (gsCons (gN 5) (gsNil))))) (bd_cells_of_0))
  (sRet (eC .non))
def f_cells_of : Fn := runF 6 b_cells_of
abbrev s_led_on : Stmt := topS 5
def b_led_on : MS := sSeq (sAsgG (eVar 1) (gTL 3 (gsCons (gN 3) (gsCons (gN 4) (gsCons (gN 5) (gsNil))))))
  (sSeq (sAsg 6 (eLst (aCons (eVar 2) (aNil))))
  (sSeq (sIf (tyB (eOp (isNO not) (eVar 5) (eC .non))) (sAsg 6 (eOp ixQ (eLst (aCons (eLst (aCons (eVar 2) (aCons (eVar 5) (aNil)))) (aCons (eLst (aCons (eVar 5) (aCons (eVar 2) (aNil)))) (aNil)))) (eVar 4))) (sNil))
  (sRet (eCall f_cell_at (aCons (eOp ixQ (eVar 0) (eC (.int 0))) (aCons (eCall f_cells_of (aCons (eVar 0) (aCons (eVar 3) (aCons (eCB lenO (aCons (eVar 6) (aNil))) (aNil))))) (aCons (eVar 6) (aNil))))))))
def f_led_on : Fn := runF 7 b_led_on
abbrev s_images_of : Stmt := topS 6
def b_images_of : MS := sRet (eComp [1] FU (iSeq (eCall f_all_steps (aCons (eVar 0) (aNil)))) (gN 1) (cYes) (eTup (aCons (eVar 1) (aCons (eComp [2] FU (iR1 (aCons (eOp ixQ (eVar 0) (eC (.int 0))) (aNil))) (gN 2) (cYes) (eCall f_led_on (aCons (eVar 0) (aCons (eVar 1) (aCons (eVar 2) (aNil)))))) (aNil)))))
def f_images_of : Fn := runF 3 b_images_of
abbrev s_alike : Stmt := topS 8
def b_alike : MS := sSeq (sAsgG (eVar 0) (gTL 3 (gsCons (gN 1) (gsCons (gN 2) (gsCons (gN 3) (gsNil))))))
  (sSeq (sAsg 4 (eComp [9, 10] FU (iSeq (eCall f_images_of (aCons (eVar 0) (aNil)))) (gTL 2 (gsCons (gN 9) (gsCons (gN 10) (gsNil)))) (cYes) (eVar 10)))
  (sSeq (sAsg 5 (eCall f_numbered (aCons (eComp [11] FU (iR1 (aCons (eVar 1) (aNil))) (gN 11) (cYes) (eOp inO (eVar 11) (eVar 2))) (aNil))))
  (sSeq (whileN (tTru (eC (.bl true))) (sSeq (sAsg 6 (eComp [11] FU (iR1 (aCons (eVar 1) (aNil))) (gN 11) (cYes) (eComp [10] FU (iSeq (eVar 4)) (gN 10) (cYes) (eOp ixQ (eVar 5) (eOp ixQ (eVar 10) (eVar 11))))))
  (sSeq (sAsg 7 (eCall f_numbered (aCons (eComp [11] FU (iR1 (aCons (eVar 1) (aNil))) (gN 11) (cYes) (eOp addO (eLst (aCons (eOp ixQ (eVar 5) (eVar 11)) (aNil))) (eOp ixQ (eVar 6) (eVar 11)))) (aNil))))
  (sSeq (sIf (tyB (eOp eqO (eVar 7) (eVar 5))) (sBreak) (sNil))
  (sAsg 5 (eVar 7))))) FU)
  (sSeq (sAsg 8 (eComp [12] FU (iR1 (aCons (eOp addO (eCB maxL (aCons (eVar 5) (aNil))) (eC (.int 1))) (aNil))) (gN 12) (cYes) (eCB tupleO (aCons (eComp [11] FU (iR1 (aCons (eVar 1) (aNil))) (gN 11) (tyB (eOp eqO (eOp ixQ (eVar 5) (eVar 11)) (eVar 12))) (eVar 11)) (aNil)))))
  (sRet (eCB tupleO (aCons (eVar 8) (aNil))))))))
def f_alike : Fn := runF 13 b_alike
abbrev s_parting : Stmt := topS 9
def bd_parting_0 : MS := sSeq (sAsg 9 (eTup (aCons (eOp ixQ (eVar 8) (eOp ixQ (eVar 6) (eC (.int 0)))) (aCons (eOp ixQ (eVar 8) (eOp ixQ (eVar 6) (eC (.int 1)))) (aNil)))))
  (sIf (tyB (eOp (dinT not) (eVar 9) (eVar 4))) (sSeq (sSub putT (eVar 4) (eVar 9) (eOp addO (eOp dgT (eVar 4) (eVar 6)) (eTup (aCons (eVar 7) (aNil)))))
  (sExp (eM "list" appO (eVar 5) (aCons (eVar 9) (aNil))))) (sNil))
def b_parting : MS := sSeq (sAsg 3 (eCall f_images_of (aCons (eVar 0) (aNil))))
  (sSeq (sAsg 4 (eDispT (eTup (aCons (eVar 1) (aCons (eVar 2) (aNil)))) (eTup (aNil))))
  (sSeq (sAsg 5 (eLst (aCons (eTup (aCons (eVar 1) (aCons (eVar 2) (aNil)))) (aNil))))
  (sSeq (whileN (tyB (eOp neO (eVar 5) (eLst (aNil)))) (sSeq (sAsg 6 (eM "list" popO (eVar 5) (aCons (eC (.int 0)) (aNil))))
  (sSeq (sIf (tyB (eOp neO (eOp inO (eOp ixQ (eVar 6) (eC (.int 0))) (eOp ixQ (eVar 0) (eC (.int 1)))) (eOp inO (eOp ixQ (eVar 6) (eC (.int 1))) (eOp ixQ (eVar 0) (eC (.int 1)))))) (sRet (eOp dgT (eVar 4) (eVar 6))) (sNil))
  (sFor FU (iSeq (eVar 3)) (gTL 2 (gsCons (gN 7) (gsCons (gN 8) (gsNil)))) (bd_parting_0)))) FU)
  (sRet (eC .non)))))
def f_parting : Fn := runF 10 b_parting
abbrev s__law_home : Stmt := topS 21
def b__law_home : MS := sRet (eMU idxO (eComp [2] FU (iSeq (eVar 0)) (gN 2) (cYes) (eOp inO (eVar 1) (eVar 2))) (aCons (eC (.bl true)) (aNil)))
def f__law_home : Fn := runF 3 b__law_home
abbrev s__law_cell : Stmt := topS 17
def bd__law_cell_0 : MS := sAsg 3 (eOp addO (eOp mulO (eVar 3) (eVar 0)) (eVar 4))
def b__law_cell : MS := sSeq (sAsg 3 (eC (.int 0)))
  (sSeq (sFor FU (iSeq (eVar 2)) (gN 4) (bd__law_cell_0))
  (sRet (eOp ixQ (eVar 1) (eVar 3))))
def f__law_cell : Fn := runF 5 b__law_cell
abbrev s__law_grades : Stmt := topS 19
def bd__law_grades_0 : MS := sIf (tTru (eUn (isiO "str") (eVar 5))) (sExp (eM "list" appO (eVar 4) (aCons (eOp dgO (eVar 2) (eVar 5)) (aNil)))) (sExp (eM "list" appO (eVar 4) (aCons (eCall f__law_cell (aCons (eOp ixQ (eVar 0) (eC (.int 0))) (aCons (eOp dgO (eVar 3) (eOp ixQ (eVar 5) (eC (.int 0)))) (aCons (eComp [9] FU (iSeq (sliceQ slO (eVar 5) (oS (eC (.int 1))) (oN))) (gN 9) (cYes) (eOp ixQ (eVar 4) (eVar 9))) (aNil))))) (aNil))))
def b__law_grades : MS := sSeq (sAsg 3 (eCB dictO (aCons (eComp [6, 7, 8] FU (iSeq (eOp ixQ (eVar 0) (eC (.int 2)))) (gTL 3 (gsCons (gN 6) (gsCons (gN 7) (gsCons (gN 8) (gsNil))))) (cYes) (eTup (aCons (eVar 6) (aCons (eVar 8) (aNil))))) (aNil))))
  (sSeq (sAsg 4 (eLst (aNil)))
  (sSeq (sFor FU (iSeq (eVar 1)) (gN 5) (bd__law_grades_0))
  (sRet (eVar 4))))
def f__law_grades : Fn := runF 10 b__law_grades
abbrev s__law_pair_right : Stmt := topS 22
def bd__law_pair_right_0 : MS := sSeq (sAsg 11 (eOp neO (eOp inO (eOp ixQ (eVar 8) (eVar 10)) (eOp ixQ (eVar 0) (eC (.int 1)))) (eOp inO (eOp ixQ (eVar 9) (eVar 10)) (eOp ixQ (eVar 0) (eC (.int 1))))))
  (sSeq (sIf (tAndM (tTru (eVar 11)) (tOrM (tTru (eVar 5)) (tyB (eOp (isNO id) (eVar 6) (eC .non))))) (sRet (eC (.bl false))) (sNil))
  (sIf (tAndM (tTru (eVar 5)) (tyB (eOp neO (eCall f__law_home (aCons (eVar 1) (aCons (eOp ixQ (eVar 8) (eVar 10)) (aNil)))) (eCall f__law_home (aCons (eVar 1) (aCons (eOp ixQ (eVar 9) (eVar 10)) (aNil))))))) (sRet (eC (.bl false))) (sNil)))
def bd__law_pair_right_1 : MS := sSeq (sAsg 8 (eCall f__law_grades (aCons (eVar 0) (aCons (eVar 2) (aCons (eDisp (pCons (eC (.str "p")) (eVar 3) (pCons (eC (.str "q")) (eVar 7) (pNil)))) (aNil))))))
  (sSeq (sAsg 9 (eCall f__law_grades (aCons (eVar 0) (aCons (eVar 2) (aCons (eDisp (pCons (eC (.str "p")) (eVar 4) (pCons (eC (.str "q")) (eVar 7) (pNil)))) (aNil))))))
  (sFor FU (iR1 (aCons (eCB lenO (aCons (eVar 2) (aNil))) (aNil))) (gN 10) (bd__law_pair_right_0)))
def b__law_pair_right : MS := sSeq (sAsg 5 (eOp eqO (eCall f__law_home (aCons (eVar 1) (aCons (eVar 3) (aNil)))) (eCall f__law_home (aCons (eVar 1) (aCons (eVar 4) (aNil))))))
  (sSeq (sAsg 6 (eCall f_parting (aCons (eVar 0) (aCons (eVar 3) (aCons (eVar 4) (aNil))))))
  (sSeq (sFor FU (iR1 (aCons (eOp ixQ (eVar 0) (eC (.int 0))) (aNil))) (gN 7) (bd__law_pair_right_1))
  (sRet (eOp eqO (eVar 5) (eOp (isNO id) (eVar 6) (eC .non))))))
def f__law_pair_right : Fn := runF 12 b__law_pair_right
abbrev s__law_right : Stmt := topS 23
def bd__law_right_0 : MS := sIf (tNotM (tTru (eCall f__law_pair_right (aCons (eVar 1) (aCons (eVar 3) (aCons (eVar 2) (aCons (eCall f__law_draw (aCons (eVar 0) (aCons (eOp ixQ (eVar 1) (eC (.int 0))) (aNil)))) (aCons (eCall f__law_draw (aCons (eVar 0) (aCons (eOp ixQ (eVar 1) (eC (.int 0))) (aNil)))) (aNil))))))))) (sRet (eC (.bl false))) (sNil)
def b__law_right : MS := sSeq (sAsg 1 (eCall f__law_drawn (aCons (eVar 0) (aCons (eC (.int 6)) (aCons (eC (.int 4)) (aNil))))))
  (sSeq (sAsg 2 (eCall f__law_lines (aCons (eVar 0) (aCons (eVar 1) (aCons (eLst (aCons (eC (.str "p")) (aCons (eC (.str "q")) (aNil)))) (aCons (eOp addO (eC (.int 2)) (eCall f__law_draw (aCons (eVar 0) (aCons (eC (.int 9)) (aNil))))) (aNil)))))))
  (sSeq (sAsg 3 (eCall f_alike (aCons (eVar 1) (aNil))))
  (sSeq (sFor FU (iR1 (aCons (eC (.int 4)) (aNil))) (gN 4) (bd__law_right_0))
  (sRet (eC (.bl true))))))
def f__law_right : Fn := runF 5 b__law_right
abbrev s__law_well : Stmt := topS 11
def bd__law_well_0 : MS := sAsg 2 (eVar 3)
def b__law_well : MS := sSeq (sAsg 2 (eC (.int 0)))
  (sSeq (sFor FU (iSeq (sliceQ slO (eVar 0) (oS (eVar 1)) (oS (eOp addO (eVar 1) (eC (.int 1)))))) (gN 3) (bd__law_well_0))
  (sSeq (sIf (tOrM (tyB (eOp (cmpI fun i j => decide (i < j)) (eVar 2) (eC (.int 0)))) (tyB (eOp (cmpI fun i j => decide (j ≤ i)) (eVar 2) (eOp powI (eC (.int 10)) (eC (.int 18)))))) (sRet (eLst (aCons (eC (.int 0)) (aCons (eCB absO (aCons (eVar 2) (aNil))) (aNil))))) (sNil))
  (sRet (eLst (aCons (eC (.int 1)) (aCons (eOp addO (eOp modI (eOp addO (eOp modI (eVar 2) (eC (.int 998244341))) (eOp mulO (eC (.int 7919)) (eVar 1))) (eC (.int 998244353))) (eC (.int 3))) (aNil)))))))
def f__law_well : Fn := runF 4 b__law_well
abbrev s_law : Stmt := topS 24
def b_law : MS := sRet (eCB (allO fun bs => bs.all id) (aCons (eComp [1] FU (iR1 (aCons (eCB maxO (aCons (eC (.int 1)) (aCons (eCB minO (aCons (eCB lenO (aCons (eVar 0) (aNil))) (aCons (eC (.int 5)) (aNil)))) (aNil)))) (aNil))) (gN 1) (cYes) (eCall f__law_right (aCons (eCall f__law_well (aCons (eVar 0) (aCons (eVar 1) (aNil)))) (aNil)))) (aNil)))
def f_law : Fn := runF 2 b_law
theorem fmod_lt (x k : Int) (h : 0 < k) : 0 ≤ x.fmod k ∧ x.fmod k < k := by
  rw [Int.fmod_eq_emod_of_nonneg x (by omega)]
  exact ⟨Int.emod_nonneg x (by omega), Int.emod_lt_of_pos x (by omega)⟩
/-- a well of draws at place n -/
def Well (h : IH) (n : Nat) : Prop := ∃ k a : Int, h[n]? = some (.lst [.int k, .int a]) ∧ 0 ≤ a ∧ Bt 1048578 a ∧ (k = 0 ∨ k = 1 ∧ a < 1073741824)
theorem Well.lt {h : IH} {n : Nat} (p : Well h n) : n < h.length := by
  obtain ⟨k, a, e, _⟩ := p
  exact (List.getElem?_eq_some_iff.mp e).1
theorem Well.app {h : IH} {n : Nat} (p : Well h n) (g : IH) : Well (h ++ g) n := by
  have hl := p.lt
  obtain ⟨k, a, e, q⟩ := p
  exact ⟨k, a, by rw [List.getElem?_append_left hl]; exact e, q⟩
theorem Well.put {h : IH} {n m : Nat} {o : IO} (p : Well h n) (hm : m ≠ n) : Well (h.set m o) n := by
  obtain ⟨k, a, e, q⟩ := p
  exact ⟨k, a, by rw [List.getElem?_set_ne hm]; exact e, q⟩
theorem put_at {h : IH} {n : Nat} {xs : List IV} {k : Int} {j : Nat} {v : IV} (e : h[n]? = some (.lst xs)) (hj : ixN xs.length k = some j) : putL (.ref n) (.int k) v h = some (h.set n (.lst (xs.set j v))) := by
  simp only [putL, e, hj]
theorem draw_eq (n : Nat) (m : Int) (h : IH) (p : Well h n) (hm : 0 < m) (hb : m < 1073741824) : WE (f__law_draw [.ref n, .int m] h) fun v h' => ∃ r : Int, v = .int r ∧ 0 ≤ r ∧ r < m ∧ Well h' n ∧ Dr n h h' := by
  obtain ⟨k, a, e, a0, a1, hk⟩ := p
  have hn : n < h.length := (List.getElem?_eq_some_iff.mp e).1
  have lm := log2_le (show Bt 31 m by unfold Bt; omega)
  have hne : m ≠ 0 := by omega
  unfold f__law_draw b__law_draw
  have i0 : ∀ (h1 : IH) (x y : IV), h1[n]? = some (.lst [x, y]) → ixQ (.ref n) (.int 0) h1 = some (x, h1) := fun h1 x y q => ixQ_ref (k := 0) q rfl
  have i1 : ∀ (h1 : IH) (x y : IV), h1[n]? = some (.lst [x, y]) → ixQ (.ref n) (.int 1) h1 = some (y, h1) := fun h1 x y q => ixQ_ref (k := 1) q rfl
  have p1 : ∀ (h1 : IH) (x y v : IV), h1[n]? = some (.lst [x, y]) → putL (.ref n) (.int 1) v h1 = some (h1.set n (.lst [x, v])) := fun h1 x y v q => put_at (j := 1) q rfl
  have sn : ∀ o : IO, (h.set n o)[n]? = some o := fun o => List.getElem?_set_self hn
  have hdr : ∀ o : IO, Dr n h (h.set n o) := fun o => (Dr.refl n h).put_n
  by_cases h0 : k = 0
  · subst h0
    have hf := fmod_lt a m hm
    simp [i0 h _ _ e, i1 h _ _ e, p1 h _ _ _ e, hne]
    refine ⟨by omega, hf.1, hf.2, ⟨_, _, sn _, ?_, ?_, .inl rfl⟩, hdr _⟩
    · rw [Int.fdiv_eq_ediv_of_nonneg a (by omega)]
      exact Int.ediv_nonneg a0 (by omega)
    · unfold Bt at a1 ⊢
      rw [Int.fdiv_eq_ediv_of_nonneg a (by omega)]
      have := Int.natAbs_ediv_le_natAbs a m
      omega
  · obtain ⟨rfl, hk2⟩ : k = 1 ∧ a < 1073741824 := hk.resolve_left h0
    rw [WE_runF]
    refine WS.seq (M := fun e1 h1 => h = h1 ∧ e1 = [some (.ref n), some (.int m), none, none, none, none]) ?_ ?_
    · simp [i0 h _ _ e]
    rintro _ _ ⟨rfl, rfl⟩
    have hset : h = h.set n (.lst [.int 1, .int a]) := by
      have q := (List.getElem?_eq_some_iff.mp e).2
      rw [← q, List.set_getElem_self]
    have g1 : Nat.log2 4099 = 12 := by decide +kernel
    have g2 : Nat.log2 240007 = 17 := by decide +kernel
    have g3 : Nat.log2 89 = 6 := by decide +kernel
    have g5 : Nat.log2 5 = 2 := by decide +kernel
    refine WS.seq (M := fun e1 h1 => ∃ (b : Int) (r3 r4 r5 : Option IV), 0 ≤ b ∧ b < 1073741824 ∧ h1 = h.set n (.lst [.int 1, .int b]) ∧ e1 = [some (.ref n), some (.int m), none, r3, r4, r5]) ?_ ?_
    · simp
      refine WS_for 2 (fun i e1 h1 => ∃ (b : Int) (r3 r4 r5 : Option IV), 0 ≤ b ∧ b < 1073741824 ∧ h1 = h.set n (.lst [.int 1, .int b]) ∧ e1 = [some (.ref n), some (.int m), none, r3, r4, r5]) ?_ ?_ FU 0 _ _ (Nat.zero_le _) ⟨a, none, none, none, a0, hk2, hset, rfl⟩ (FU_lt64 (by omega))
      · rintro i env h1 hi ⟨b, r3, r4, r5, b0, b1, rfl, rfl⟩
        refine ⟨.int (0 + (i : Int)), by unfold rngIt; simp [hi], _, rfl, ?_⟩
        have l1 := log2_le (show Bt 31 (b / 4099) by unfold Bt; omega)
        have l2 := log2_le (show Bt 31 (b % 4099) by unfold Bt; omega)
        have hf := fmod_lt (b % 4099 * 240007 + b / 4099 * 89 + 1201) 998244353 (by omega)
        unfold bd__law_draw_0
        simp [i1 _ _ _ (sn _), dmO_int (show (0 : Int) < 4099 by omega) (show (4099 : Int).natAbs.log2 < 9000 by simp [g1]), gTL, gsCons, gN, gsNil, p1 _ _ _ _ (sn _), g2, g3]
        exact ⟨by omega, by omega, _, hf.1, by omega, rfl⟩
      · rintro env h1 ⟨b, r3, r4, r5, b0, b1, rfl, rfl⟩
        exact ⟨by unfold rngIt; simp, by simp; exact ⟨b, b0, b1, rfl⟩⟩
    rintro _ h1 ⟨b, r3, r4, r5, b0, b1, rfl, rfl⟩
    have hf := fmod_lt (b.fdiv 5) m hm
    simp [i1 _ _ _ (sn _), g5, hne]
    have b2 : Bt 1048578 b := (show Bt 31 b by unfold Bt; omega).mono (by omega)
    exact ⟨hf.1, hf.2, ⟨1, b, sn _, b0, b2, .inr ⟨rfl, b1⟩⟩, hdr _⟩
/-- a text of at most k good signs -/
def GS (k : Nat) (x : Str) : Prop := PyData.strOk x = true ∧ x.length ≤ k
theorem GS.mono {j k : Nat} {x : Str} (g : GS j x) (h : j ≤ k) : GS k x := ⟨g.1, Nat.le_trans g.2 h⟩
theorem strOk_iff {x : Str} : PyData.strOk x = true ↔ ∀ c ∈ x.cps.toList, c < 0x110000 := by
  unfold PyData.strOk
  rw [Array.all_eq_true']
  simp
theorem GS.app {j k : Nat} {x y : Str} (g : GS j x) (g2 : GS k y) : GS (j + k) (x ++ y) := by
  refine ⟨strOk_iff.mpr fun c hc => ?_, ?_⟩
  · have : c ∈ (x.cps ++ y.cps).toList := hc
    rw [Array.toList_append, List.mem_append] at this
    exact this.elim (strOk_iff.mp g.1 c) (strOk_iff.mp g2.1 c)
  · show (x.cps ++ y.cps).size ≤ _
    rw [Array.size_append]
    exact Nat.add_le_add g.2 g2.2
theorem GS.cut {j : Nat} {x : Str} (g : GS j x) (lo hi : Option Int) : GS j (cutS x lo hi) := by
  refine ⟨strOk_iff.mpr fun c hc => strOk_iff.mp g.1 c ?_, Nat.le_trans (cutS_length x lo hi) g.2⟩
  unfold cutS at hc
  simp at hc
  first
    | exact List.mem_of_mem_drop (List.mem_of_mem_take hc)
    | (have := List.mem_of_mem_drop (List.mem_of_mem_take hc); simpa using this)
theorem mem_foldl (x : Array Nat) (c : Nat) : ∀ (n : Nat) (acc : Array Nat), c ∈ ((List.replicate n x).foldl (· ++ ·) acc) → c ∈ acc ∨ c ∈ x
  | 0, acc => fun h => .inl (by simpa using h)
  | n + 1, acc => fun h => by
    rw [List.replicate_succ, List.foldl_cons] at h
    rcases mem_foldl x c n _ h with q | q
    · rw [Array.mem_append] at q
      exact q
    · exact .inr q
theorem GS.rep {j : Nat} {x : Str} (g : GS j x) (n : Int) (m : Nat) (hm : n ≤ m) (h1 : 1 ≤ m) : GS (j * m) (strRep x n) := by
  unfold strRep
  split
  · exact ⟨by decide +kernel, Nat.zero_le _⟩
  · split
    · exact g.mono (Nat.le_mul_of_pos_right _ h1)
    · refine ⟨strOk_iff.mpr fun c hc => ?_, ?_⟩
      · have : c ∈ ((List.replicate n.toNat x.cps).foldl (· ++ ·) #[]) := by simpa using hc
        rcases mem_foldl _ _ _ _ this with q | q
        · simp at q
        · exact strOk_iff.mp g.1 c (by simpa using q)
      · show ((List.replicate n.toNat x.cps).foldl (· ++ ·) #[]).size ≤ _
        rw [size_foldl]
        simp only [Array.size_empty, Nat.zero_add]
        exact Nat.mul_le_mul g.2 (by omega)
theorem ixS {k : Nat} {z : Str} {i : Int} (g : GS k z) (hk : k ≤ 1000) (h1 : -(z.length : Int) ≤ i) (h2 : i < z.length) : ∃ y, (∀ h : IH, ixQ (.str z) (.int i) h = some (.str y, h)) ∧ GS 1 y := by
  have hz : z.length ≤ 16777216 := Nat.le_trans g.2 (by omega)
  have hl : z.cps.toList.length = z.length := Array.length_toList
  have : ∃ c, atI z.cps.toList i = some c ∧ c ∈ z.cps.toList := by
    unfold atI ixN
    by_cases h0 : 0 ≤ i
    · rw [if_pos h0, if_pos (by omega)]
      have hj : i.toNat < z.cps.toList.length := by omega
      exact ⟨_, List.getElem?_eq_getElem hj, List.getElem_mem hj⟩
    · rw [if_neg h0, if_pos (by omega)]
      have hj : (i + (z.cps.toList.length : Int)).toNat < z.cps.toList.length := by omega
      exact ⟨_, List.getElem?_eq_getElem hj, List.getElem_mem hj⟩
  obtain ⟨c, e, hc⟩ := this
  refine ⟨⟨#[c]⟩, fun h => ?_, strOk_iff.mpr fun d hd => ?_, Nat.le_refl _⟩
  · simp only [ixQ, if_pos hz, e]
  · have : d = c := by simpa using hd
    rw [this]
    exact strOk_iff.mp g.1 c hc
theorem slO_ref {lo hi : Option Int} {n : Nat} {xs : List IV} {h : IH} (e : h[n]? = some (.lst xs)) : slO lo hi (.ref n) h = some (.ref h.length, h ++ [.lst ((xs.drop (HT.sIx xs.length 0 lo)).take (HT.sIx xs.length xs.length hi - HT.sIx xs.length 0 lo))]) := by
  simp only [slO, lstOf, e]
theorem mem_cut {α : Type} {xs : List α} {a b : Nat} {x : α} (h : x ∈ (xs.drop a).take b) : x ∈ xs := List.mem_of_mem_drop (List.mem_of_mem_take h)
theorem len_cut {α : Type} (xs : List α) (a b : Nat) : ((xs.drop a).take b).length ≤ xs.length := by rw [List.length_take, List.length_drop]; omega
theorem Dr.well {w m : Nat} {h h' : IH} (d : Dr m h h') (p : Well h w) (hn : w ≠ m) : Well h' w := by
  obtain ⟨k, a, e, q⟩ := p
  exact ⟨k, a, d.get e hn, q⟩
theorem addO_str {x y : Str} {h : IH} (hl : x.length + y.length ≤ 16777216) : addO (.str x) (.str y) h = some (.str (x ++ y), h) := by
  unfold addO orO addI addS
  simp only []
  rw [if_pos hl]
/-- names at place k -/
def Nam (h : IH) (k : Nat) (xs : List Str) : Prop := h[k]? = some (.lst (xs.map IV.str)) ∧ xs.length ≤ 16 ∧ ∀ x ∈ xs, GS 32 x
theorem WO_sl {L : List Str} {n : Nat} {h : IH} {lo hi : Option Int} {Q : IV → IH → Prop} (e : h[n]? = some (.lst (L.map IV.str))) (k : ∀ a : List Str, (∀ x ∈ a, x ∈ L) → a.length ≤ L.length → Q (.ref h.length) (h ++ [.lst (a.map IV.str)])) : WO (slO lo hi (.ref n) h) Q := by
  rw [slO_ref e, WO_some]
  have := k ((L.drop (HT.sIx (L.map IV.str).length 0 lo)).take (HT.sIx (L.map IV.str).length (L.map IV.str).length hi - HT.sIx (L.map IV.str).length 0 lo)) (fun x hx => mem_cut hx) (len_cut _ _ _)
  rw [List.map_take, List.map_drop] at this
  exact this
theorem WO_ad {L M : List Str} {n m : Nat} {h : IH} {Q : IV → IH → Prop} (e : h[n]? = some (.lst (L.map IV.str))) (e2 : h[m]? = some (.lst (M.map IV.str))) (hl : L.length + M.length ≤ 1000) (k : Q (.ref h.length) (h ++ [.lst ((L ++ M).map IV.str)])) : WO (addO (.ref n) (.ref m) h) Q := by
  rw [addO_ref e e2 (by simp; omega), WO_some, ← List.map_append]
  exact k
theorem ixS0 {k : Nat} {z : Str} {i : Int} (g : GS k z) (hk : k ≤ 1000) (h1 : 0 ≤ i) (h2 : i < z.length) : (∀ h : IH, ixQ (.str z) (.int i) h = some (.str ⟨#[z.cps.toList.getD i.toNat 0]⟩, h)) ∧ GS 1 ⟨#[z.cps.toList.getD i.toNat 0]⟩ := by
  have hz : z.length ≤ 16777216 := Nat.le_trans g.2 (by omega)
  have hl : z.cps.toList.length = z.length := Array.length_toList
  have hj : i.toNat < z.cps.toList.length := by omega
  have e : atI z.cps.toList i = some (z.cps.toList.getD i.toNat 0) := by
    unfold atI ixN
    rw [if_pos h1, if_pos (by omega)]
    show z.cps.toList[i.toNat]? = _
    rw [List.getD_eq_getElem?_getD, List.getElem?_eq_getElem hj]
    rfl
  refine ⟨fun h => by simp only [ixQ, if_pos hz, e], strOk_iff.mpr fun d hd => ?_, Nat.le_refl _⟩
  have : d = z.cps.toList.getD i.toNat 0 := by simpa using hd
  rw [this]
  refine strOk_iff.mp g.1 _ ?_
  rw [List.getD_eq_getElem?_getD, List.getElem?_eq_getElem hj]
  exact List.getElem_mem hj
theorem fold_size (x : Array Nat) : ∀ (m : Nat) (a : Array Nat), ((List.replicate m x).foldl (· ++ ·) a).size = a.size + m * x.size
  | 0, a => by simp
  | m + 1, a => by
    rw [List.replicate_succ, List.foldl_cons, fold_size x m, Array.size_append, Nat.succ_mul]
    omega
theorem strRep_len {x : Str} (hx : x.length = 1) {n : Int} (hn : 1 ≤ n) : (strRep x n).length = n.toNat := by
  unfold strRep
  rw [if_neg (by omega)]
  split
  · rename_i h
    rw [hx] at h
    simp at h
    omega
  · show Array.size (List.foldl (fun (x1 x2 : Array Nat) => x1 ++ x2) #[] (List.replicate n.toNat x.cps)) = _
    rw [fold_size]
    have : x.cps.size = 1 := hx
    rw [this]
    simp
theorem ixS2 {k : Nat} {z : Str} {i : Int} (g : GS k z) (hk : k ≤ 1000) (h1 : -(z.length : Int) ≤ i) (h2 : i < z.length) (j : Nat) (hj2 : (j : Int) = if 0 ≤ i then i else i + z.length) : (∀ h : IH, ixQ (.str z) (.int i) h = some (.str ⟨#[z.cps.toList.getD j 0]⟩, h)) ∧ GS 1 ⟨#[z.cps.toList.getD j 0]⟩ := by
  have hz : z.length ≤ 16777216 := Nat.le_trans g.2 (by omega)
  have hl : z.cps.toList.length = z.length := Array.length_toList
  have hj : j < z.cps.toList.length := by split at hj2 <;> omega
  have e : atI z.cps.toList i = some (z.cps.toList.getD j 0) := by
    unfold atI ixN
    have q : z.cps.toList[j]? = some (z.cps.toList.getD j 0) := by
      rw [List.getD_eq_getElem?_getD, List.getElem?_eq_getElem hj]
      rfl
    by_cases h0 : 0 ≤ i
    · rw [if_pos h0] at hj2
      rw [if_pos h0, if_pos (by omega)]
      have : i.toNat = j := by omega
      rw [this]; exact q
    · rw [if_neg h0] at hj2
      rw [if_neg h0, if_pos (by omega)]
      have : (i + (z.cps.toList.length : Int)).toNat = j := by omega
      show z.cps.toList[(i + (z.cps.toList.length : Int)).toNat]? = _
      rw [this]; exact q
  refine ⟨fun h => by simp only [ixQ, if_pos hz, e], strOk_iff.mpr fun d hd => ?_, Nat.le_refl _⟩
  have : d = z.cps.toList.getD j 0 := by simpa using hd
  rw [this]
  refine strOk_iff.mp g.1 _ ?_
  rw [List.getD_eq_getElem?_getD, List.getElem?_eq_getElem hj]
  exact List.getElem_mem hj
theorem strRep_mem {x : Str} {n : Int} {c : Nat} (hc : c ∈ (strRep x n).cps.toList) : c ∈ x.cps.toList := by
  unfold strRep at hc
  split at hc
  · have : Str.empty.cps = #[] := rfl
    rw [this] at hc
    simp at hc
  · split at hc
    · exact hc
    · have : c ∈ ((List.replicate n.toNat x.cps).foldl (· ++ ·) #[]) := by simpa using hc
      rcases mem_foldl _ _ _ _ this with q | q
      · simp at q
      · simpa using q
theorem str_app_cps (a b : Str) : (a ++ b).cps.toList = a.cps.toList ++ b.cps.toList := by
  show (a.cps ++ b.cps).toList = _
  simp
def NamD (h : IH) (k : Nat) (xs : List Str) : Prop := Nam h k xs ∧ xs.Nodup
theorem WO_slX {L : List Str} {n : Nat} {h : IH} {lo hi : Option Int} {Q : IV → IH → Prop} (e : h[n]? = some (.lst (L.map IV.str))) (k : Q (.ref h.length) (h ++ [.lst (((L.drop (HT.sIx L.length 0 lo)).take (HT.sIx L.length L.length hi - HT.sIx L.length 0 lo)).map IV.str)])) : WO (slO lo hi (.ref n) h) Q := by
  rw [slO_ref e, WO_some]
  rw [List.map_take, List.map_drop] at k
  simpa using k
theorem rot_nd {α : Type} {L : List α} (n : L.Nodup) (k m : Nat) : ((L.drop k).take m ++ L.take k).Nodup := by
  have h1 : (L.drop k ++ L.take k).Nodup := by
    refine List.Perm.nodup ?_ n
    conv => lhs; rw [← List.take_append_drop k L]
    exact List.perm_append_comm
  exact h1.sublist (List.Sublist.append (List.take_sublist _ _) (List.Sublist.refl _))
theorem map_ndN {α β : Type} {f : α → β} : ∀ {l : List α}, l.Nodup → (∀ x ∈ l, ∀ y ∈ l, f x = f y → x = y) → (l.map f).Nodup
  | l, n, h => by
    unfold List.Nodup at n ⊢
    rw [List.pairwise_map]
    exact n.imp_of_mem fun {a b} ha hb q e => q (h a ha b hb e)
theorem names_eq (w : Nat) (many : Int) (h : IH) (p : Well h w) (m0 : 0 ≤ many) (m1 : many ≤ 8) : WE (f__law_names [.ref w, .int many] h) fun v h' => ∃ (k : Nat) (xs : List Str), v = .ref k ∧ h.length ≤ k ∧ NamD h' k xs ∧ Well h' w ∧ Dr w h h' := by
  unfold f__law_names b__law_names
  rw [WE_runF]
  have gs : GS 26 "qwertyuiopasdfghjklzxcvbnm" := ⟨by decide +kernel, by decide +kernel⟩
  have gl : Str.length "qwertyuiopasdfghjklzxcvbnm" = 26 := by decide +kernel
  have gn : (Str.cps "qwertyuiopasdfghjklzxcvbnm").toList.Nodup := by decide +kernel
  generalize ("qwertyuiopasdfghjklzxcvbnm" : Str) = sg at gs gl gn
  refine WS.seq (M := fun e1 h1 => h = h1 ∧ e1 = [some (.ref w), some (.int many), some (.str sg), none, none, none, none, none, none]) (by simp) ?_
  rintro _ h1 ⟨rfl, rfl⟩
  refine WS.seq (M := fun e1 h1 => ∃ f : Int, 0 ≤ f ∧ f < 26 ∧ Well h1 w ∧ Dr w h h1 ∧ e1 = [some (.ref w), some (.int many), some (.str sg), some (.int f), none, none, none, none, none]) ?_ ?_
  · simp
    refine (draw_eq w 26 h p (by omega) (by omega)).mono fun v h2 ⟨r, e, a, b, c, d⟩ => ?_
    subst e
    exact ⟨r, a, b, c, d, rfl⟩
  rintro _ h1 ⟨f, f0, f1, p1, d1, rfl⟩
  refine WS.seq (M := fun e1 h2 => ∃ g : Int, 0 ≤ g ∧ g < 3 ∧ Well h2 w ∧ Dr w h h2 ∧ e1 = [some (.ref w), some (.int many), some (.str sg), some (.int f), some (.int g), none, none, none, none]) ?_ ?_
  · simp
    refine (draw_eq w 3 h1 p1 (by omega) (by omega)).mono fun v h2 ⟨r, e, a, b, c, d⟩ => ?_
    subst e
    exact ⟨r, a, b, c, d1.trans d, rfl⟩
  clear p1 d1 h1
  rintro _ h1 ⟨g, g0, g1, p1, d1, rfl⟩
  have fin : ∀ (H : IH) (xs : List Str), Dr w h H → Well H w → xs.length ≤ 16 → (∀ x ∈ xs, GS 32 x) → xs.Nodup → ∃ k : Nat, IV.ref H.length = .ref k ∧ h.length ≤ k ∧ (∃ ys, NamD (H ++ [.lst (xs.map IV.str)]) k ys) ∧ Well (H ++ [.lst (xs.map IV.str)]) w ∧ Dr w h (H ++ [.lst (xs.map IV.str)]) := fun H xs d p hl hg nd =>
    ⟨_, rfl, d.len, ⟨xs, ⟨by simp, hl, hg⟩, nd⟩, p.app _, d.trans (Dr.app _ _ _)⟩
  refine WS.seq (M := fun e1 h2 => h1 = h2 ∧ g ≠ 0 ∧ e1 = [some (.ref w), some (.int many), some (.str sg), some (.int f), some (.int g), none, none, none, none]) ?_ ?_
  · by_cases hg : g = 0
    · subst hg
      let L : List Str := ["and", "or", "not", "then", "grades", "wished", "false", "true"]
      have hL : ∀ x ∈ L, GS 32 x := by
        have : L.all (fun x => PyData.strOk x && decide (x.length ≤ 32)) = true := by decide +kernel
        intro x hx
        have q := List.all_eq_true.mp this x hx
        rw [Bool.and_eq_true] at q
        exact ⟨q.1, of_decide_eq_true q.2⟩
      have l8 : Nat.log2 8 = 3 := by decide +kernel
      have e0 : ∀ t : IH, (h1 ++ .lst (L.map IV.str) :: t)[h1.length]? = some (.lst (L.map IV.str)) := fun t => by simp
      have hLm : ([.str "and", .str "or", .str "not", .str "then", .str "grades", .str "wished", .str "false", .str "true"] : List IV) = L.map IV.str := rfl
      have hLl : L.length = 8 := rfl
      have hLn : L.Nodup := by decide +kernel
      simp
      rw [hLm]
      generalize L = L at *
      refine WO_slX (L := L) (by simp) ?_
      refine WO_slX (L := L) (by simp) ?_
      have hk := fmod_lt f 8 (by omega)
      obtain ⟨k, ek⟩ : ∃ k : Nat, f.fmod 8 = k := ⟨(f.fmod 8).toNat, by omega⟩
      have es : ∀ d, HT.sIx 8 d (some (k : Int)) = k := fun d => by rw [HT.sIx_nat]; omega
      rw [ek, hLl, es, es]
      have en : HT.sIx 8 8 none = 8 := rfl
      have e0 : HT.sIx 8 0 none = 0 := rfl
      rw [en, e0, Nat.sub_zero, List.drop_zero]
      refine WO_ad (L := (L.drop k).take (8 - k)) (M := L.take k) (by simp) (by simp) (by simp; omega) ?_
      refine WO_slX (L := (L.drop k).take (8 - k) ++ L.take k) (by simp) ?_
      have sub : ∀ i j, (((L.drop k).take (8 - k) ++ L.take k).drop i |>.take j).Sublist ((L.drop k).take (8 - k) ++ L.take k) := fun i j => (List.take_sublist _ _).trans (List.drop_sublist _ _)
      refine fin _ _ ((((d1.trans (Dr.app _ _ _)).trans (Dr.app _ _ _)).trans (Dr.app _ _ _)).trans (Dr.app _ _ _)) ((((p1.app _).app _).app _).app _) ?_ (fun x hx => hL x ?_) ((rot_nd hLn k (8 - k)).sublist (sub _ _))
      · refine Nat.le_trans (sub _ _).length_le ?_
        simp
        omega
      · rcases List.mem_append.mp ((sub _ _).subset hx) with q | q
        · exact List.mem_of_mem_drop (List.mem_of_mem_take q)
        · exact List.mem_of_mem_take q
    · simp [hg]
  rintro _ _ ⟨rfl, g2, rfl⟩
  refine WS.seq (M := fun e1 h2 => h1 = h2 ∧ g = 2 ∧ e1 = [some (.ref w), some (.int many), some (.str sg), some (.int f), some (.int g), none, none, none, none]) ?_ ?_
  · by_cases hg : g = 1
    · subst hg
      obtain ⟨ey, gy⟩ := ixS0 (i := f) gs (by omega) (by omega) (by omega)
      obtain ⟨jz, hjz⟩ : ∃ j : Nat, (j : Int) = if 0 ≤ f - 1 then f - 1 else f - 1 + sg.length := ⟨(if 0 ≤ f - 1 then f - 1 else f - 1 + (sg.length : Int)).toNat, by split <;> omega⟩
      obtain ⟨ez, gz⟩ := ixS2 (i := f - 1) gs (by omega) (by omega) (by omega) jz hjz
      have hyz : sg.cps.toList.getD f.toNat 0 ≠ sg.cps.toList.getD jz 0 := by
        have gl2 : sg.cps.toList.length = 26 := by rw [← gl]; exact Array.length_toList
        have a1 : f.toNat < sg.cps.toList.length := by omega
        have a2 : jz < sg.cps.toList.length := by split at hjz <;> omega
        rw [List.getD_eq_getElem?_getD, List.getD_eq_getElem?_getD, List.getElem?_eq_getElem a1, List.getElem?_eq_getElem a2]
        intro e
        have e4 : sg.cps.toList[f.toNat] = sg.cps.toList[jz] := by simpa using e
        have e5 := (List.getElem_inj gn).mp e4
        split at hjz <;> omega
      have hyz2 : ∀ n : Int, strRep ⟨#[sg.cps.toList.getD f.toNat 0]⟩ n ≠ strRep ⟨#[sg.cps.toList.getD jz 0]⟩ 2 := fun n e => by
        have l2 := strRep_len (x := ⟨#[sg.cps.toList.getD jz 0]⟩) rfl (n := 2) (by omega)
        have l3 : (strRep ⟨#[sg.cps.toList.getD jz 0]⟩ 2).cps.toList.length = 2 := by rw [Array.length_toList]; exact l2
        cases q : (strRep ⟨#[sg.cps.toList.getD jz 0]⟩ 2).cps.toList with
        | nil => rw [q] at l3; cases l3
        | cons c r =>
          have m1 : c ∈ (strRep ⟨#[sg.cps.toList.getD jz 0]⟩ 2).cps.toList := by rw [q]; exact List.mem_cons_self
          have m2 := strRep_mem m1
          rw [← e] at m1
          have m3 := strRep_mem m1
          simp only [List.mem_singleton] at m2 m3
          exact hyz (m3.symm.trans m2)
      have z1 : Str.length ⟨#[sg.cps.toList.getD jz 0]⟩ = 1 := rfl
      generalize (⟨#[sg.cps.toList.getD jz 0]⟩ : Str) = z at ez gz hyz2 z1
      have y1 : Str.length ⟨#[sg.cps.toList.getD f.toNat 0]⟩ = 1 := rfl
      generalize (⟨#[sg.cps.toList.getD f.toNat 0]⟩ : Str) = y at ey gy y1 hyz2
      simp
      refine comp_rng (n := 7) (fun k => .str (strRep y ((k : Int) + 2))) (by omega) (fun k h' hk _ => ?_) ?_
      · simp [wipeE, ey]
        rw [mulO_str (by omega) (by rw [y1]; omega)]
        simp
      have ex : ((List.range 7).map fun (k : Nat) => IV.str (strRep y ((k : Int) + 2))) = ((List.range 7).map fun (k : Nat) => strRep y ((k : Int) + 2)).map IV.str := by rw [List.map_map]; rfl
      rw [ex]
      have xl : ((List.range 7).map fun (k : Nat) => strRep y ((k : Int) + 2)).length = 7 := by simp
      have xg : ∀ x ∈ ((List.range 7).map fun (k : Nat) => strRep y ((k : Int) + 2)), GS 32 x := by
        intro x hx
        obtain ⟨k, hk, rfl⟩ := List.mem_map.mp hx
        have hk := List.mem_range.mp hk
        exact (gy.rep _ 9 (by omega) (by omega)).mono (by omega)
      have xn : ((List.range 7).map fun (k : Nat) => strRep y ((k : Int) + 2)).Nodup := by
        refine map_ndN List.nodup_range fun a ha b hb e => ?_
        have h1 := strRep_len y1 (n := (a : Int) + 2) (by omega)
        have h2 := strRep_len y1 (n := (b : Int) + 2) (by omega)
        rw [e] at h1
        omega
      have xz : ∀ x ∈ ((List.range 7).map fun (k : Nat) => strRep y ((k : Int) + 2)), x ≠ strRep z 2 := by
        intro x hx
        obtain ⟨k, hk, rfl⟩ := List.mem_map.mp hx
        exact hyz2 _
      generalize ((List.range 7).map fun (k : Nat) => strRep y ((k : Int) + 2)) = xs at xl xg xn xz
      have sub : ∀ i j, ((xs.drop i).take j).Sublist xs := fun i j => (List.take_sublist _ _).trans (List.drop_sublist _ _)
      refine WO_slX (L := xs) (by simp) ?_
      have sb := sub (HT.sIx xs.length 0 none) (HT.sIx xs.length xs.length (some many) - HT.sIx xs.length 0 none)
      generalize (xs.drop (HT.sIx xs.length 0 none)).take (HT.sIx xs.length xs.length (some many) - HT.sIx xs.length 0 none) = a at sb
      have la := sb.length_le
      have gzz : GS 32 (strRep z 2) := (gz.rep 2 2 (by omega) (by omega)).mono (by omega)
      simp [ez]
      rw [mulO_str (by omega) (by
        have : z.length * (2 : Int).toNat ≤ 1 * 2 := Nat.mul_le_mul gz.2 (by omega)
        omega), WO_some]
      generalize strRep z 2 = zz at xz gzz
      obtain ⟨b, hb1, em⟩ : ∃ b : Nat, b ≤ 1 ∧ (if many = 8 then (1 : Int) else 0) = (b : Nat) := by
        by_cases q : many = 8
        · exact ⟨1, by omega, by rw [if_pos q]; rfl⟩
        · exact ⟨0, by omega, by rw [if_neg q]; rfl⟩
      rw [em, mulO_ref (xs := [.str zz]) (by simp) (by omega) (by simp; omega), WO_some]
      have er : (List.replicate ((b : Nat) : Int).toNat [IV.str zz]).flatten = (List.replicate b zz).map IV.str := by
        have : b = 0 ∨ b = 1 := by omega
        rcases this with q | q <;> subst q <;> simp
      rw [er]
      refine WO_ad (L := a) (M := List.replicate b zz) (by simp) (by simp) (by simp; omega) ?_
      refine fin _ _ (((d1.trans (Dr.app _ _ _)).trans (Dr.app _ _ _)).trans (Dr.app _ _ _)) (((p1.app _).app _).app _) (by simp; omega) (fun x hx => ?_) ?_
      · rcases List.mem_append.mp hx with q | q
        · exact xg x (sb.subset q)
        · rw [(List.mem_replicate.mp q).2]; exact gzz
      · have : b = 0 ∨ b = 1 := by omega
        rcases this with q | q
        · subst q; simpa using xn.sublist sb
        · subst q
          rw [List.nodup_append]
          refine ⟨xn.sublist sb, by simp, fun x hx y hy => ?_⟩
          simp at hy
          subst hy
          exact xz x (sb.subset hx)
    · simp [hg]
      omega
  rintro _ _ ⟨rfl, rfl, rfl⟩
  simp
  refine (draw_eq w 7 h1 p1 (by omega) (by omega)).mono fun v h2 ⟨r, e, r0, r1, p2, d2⟩ => ?_
  subst e
  simp
  refine (draw_eq w (1 + r + 1) h2 p2 (by omega) (by omega)).mono fun v h3 ⟨t, e, t0, t1, p3, d3⟩ => ?_
  subst e
  have d13 := (d1.trans d2).trans d3
  have ga : GS 1 "a" := ⟨by decide +kernel, by decide +kernel⟩
  have gb : GS 1 "b" := ⟨by decide +kernel, by decide +kernel⟩
  refine ⟨by omega, ?_⟩
  generalize ("a" : Str) = sa at ga
  generalize ("b" : Str) = sb at gb
  have q1 : sa.length * t.toNat ≤ 1 * 10 := Nat.mul_le_mul ga.2 (by omega)
  have q2 : sb.length * (1 + r - t).toNat ≤ 1 * 10 := Nat.mul_le_mul gb.2 (by omega)
  have g1 := ga.rep t 8 (by omega) (by omega)
  have g2 := gb.rep (1 + r - t) 8 (by omega) (by omega)
  refine comp_rng (n := many.toNat) (fun k => .str (strRep sa t ++ ⟨#[sg.cps.toList.getD ((f + (k : Int)).fmod 26).toNat 0]⟩ ++ strRep sb (1 + r - t))) (by omega) (fun k h' hk _ => ?_) ?_
  · have hf := fmod_lt (f + k) 26 (by omega)
    obtain ⟨ey, gy⟩ := ixS0 (i := (f + k).fmod 26) gs (by omega) (by omega) (by omega)
    generalize (⟨#[sg.cps.toList.getD ((f + (k : Int)).fmod 26).toNat 0]⟩ : Str) = y at ey gy
    have g12 := g1.app gy
    have l1 := g1.2
    have l2 := g2.2
    have l3 := gy.2
    have l4 := g12.2
    simp [wipeE]
    rw [mulO_str (by omega) (by omega), WO_some, ey, WO_some, addO_str (by omega), WO_some, mulO_str (by omega) (by omega), WO_some, addO_str (by omega), WO_some]
    exact ⟨rfl, rfl⟩
  · have ex : ((List.range many.toNat).map fun (k : Nat) => IV.str (strRep sa t ++ ⟨#[sg.cps.toList.getD ((f + (k : Int)).fmod 26).toNat 0]⟩ ++ strRep sb (1 + r - t))) = ((List.range many.toNat).map fun (k : Nat) => strRep sa t ++ ⟨#[sg.cps.toList.getD ((f + (k : Int)).fmod 26).toNat 0]⟩ ++ strRep sb (1 + r - t)).map IV.str := by rw [List.map_map]; rfl
    rw [ex]
    have xl : ((List.range many.toNat).map fun (k : Nat) => strRep sa t ++ (⟨#[sg.cps.toList.getD ((f + (k : Int)).fmod 26).toNat 0]⟩ : Str) ++ strRep sb (1 + r - t)).length ≤ 16 := by simp; omega
    have xg : ∀ x ∈ ((List.range many.toNat).map fun (k : Nat) => strRep sa t ++ (⟨#[sg.cps.toList.getD ((f + (k : Int)).fmod 26).toNat 0]⟩ : Str) ++ strRep sb (1 + r - t)), GS 32 x := by
      intro x hx
      obtain ⟨k, hk, rfl⟩ := List.mem_map.mp hx
      have hf := fmod_lt (f + k) 26 (by omega)
      obtain ⟨ey, gy⟩ := ixS0 (i := (f + k).fmod 26) gs (by omega) (by omega) (by omega)
      exact ((g1.app gy).app g2).mono (show 1 * 8 + 1 + 1 * 8 ≤ 32 by omega)
    have xn : ((List.range many.toNat).map fun (k : Nat) => strRep sa t ++ (⟨#[sg.cps.toList.getD ((f + (k : Int)).fmod 26).toNat 0]⟩ : Str) ++ strRep sb (1 + r - t)).Nodup := by
      refine map_ndN List.nodup_range fun a ha b hb e => ?_
      have ha := List.mem_range.mp ha
      have hb := List.mem_range.mp hb
      have fa := fmod_lt (f + a) 26 (by omega)
      have fb := fmod_lt (f + b) 26 (by omega)
      have e2 := congrArg (fun z : Str => z.cps.toList) e
      simp only [str_app_cps] at e2
      have e3 := List.append_cancel_left (List.append_cancel_right e2)
      have gl2 : sg.cps.toList.length = 26 := by rw [← gl]; exact Array.length_toList
      have h1 : ((f + (a : Int)).fmod 26).toNat < sg.cps.toList.length := by omega
      have h2 : ((f + (b : Int)).fmod 26).toNat < sg.cps.toList.length := by omega
      rw [List.getD_eq_getElem?_getD, List.getD_eq_getElem?_getD, List.getElem?_eq_getElem h1, List.getElem?_eq_getElem h2] at e3
      have e4 : sg.cps.toList[((f + (a : Int)).fmod 26).toNat] = sg.cps.toList[((f + (b : Int)).fmod 26).toNat] := by simpa using e3
      have e5 := (List.getElem_inj gn).mp e4
      rw [Int.fmod_eq_emod_of_nonneg _ (show (0 : Int) ≤ 26 by omega)] at fa fb
      rw [Int.fmod_eq_emod_of_nonneg _ (show (0 : Int) ≤ 26 by omega), Int.fmod_eq_emod_of_nonneg _ (show (0 : Int) ≤ 26 by omega)] at e5
      omega
    refine ⟨_, rfl, d13.len, ⟨_, ⟨by simp, xl, xg⟩, xn⟩, p3.app _, d13.trans (Dr.app _ _ _)⟩
/-- cells: so many grades below many -/
def CellsOk (many : Int) (cs : List Int) : Prop := ∀ c ∈ cs, 0 ≤ c ∧ c < many
/-- a list of ints drawn: a comprehension over a range -/
theorem draws_eq (w : Nat) (many : Int) (h0 : IH) (env : Env) (i n : Nat) (b : Env → M IV) (Q : IV → IH → Prop) (hn : n < 16777216) (p : Well h0 w)
    (hb : ∀ k : Nat, k < n → ∀ h', Dr w h0 h' → Well h' w → WE (b (env.set i (some (.int k))) h') fun y h'' => Dr w h' h'' ∧ Well h'' w ∧ ∃ c : Int, y = .int c ∧ 0 ≤ c ∧ c < many)
    (hQ : ∀ cs : List Int, cs.length = n → CellsOk many cs → ∀ h', Dr w h0 h' → Well h' w → h'[h0.length]? = some (.lst (cs.map IV.int)) → Q (.ref h0.length) h') : WE (compLoop (rngIt 0 n) (gN i) cYes b env h0.length FU 0 (h0 ++ [.lst []])) Q := by
  have hw := p.lt
  refine comp_dr w hw ((List.range n).map fun k => IV.int (0 + (k : Nat))) (by simp; omega) (fun h' => Well h' w) (fun i ys => ∃ xs : List Int, xs.length = i ∧ ys = xs.map IV.int ∧ CellsOk many xs) hit_rng (p.app _) (fun h' xs q _ => q.put (by omega)) ⟨[], rfl, rfl, by simp [CellsOk]⟩ ?_ (fun i ys ⟨xs, a, b, _⟩ => by subst b; simp; omega) ?_
  · rintro j x ys h' hx ⟨xs, ly, rfl, gx⟩ d _ pw'
    have hi : j < n := by
      have := (List.getElem?_eq_some_iff.mp hx).1
      simpa using this
    have : x = .int (j : Nat) := by
      rw [List.getElem?_map, List.getElem?_range hi] at hx
      simpa using hx.symm
    subst this
    refine ⟨_, rfl, ?_⟩
    simp only [WE_cYes, if_pos]
    refine ⟨Dr.refl _ _, pw', (hb j hi h' d pw').mono fun y h'' ⟨d2, p2, c, ey, g⟩ => ?_⟩
    subst ey
    refine ⟨d2, p2, xs ++ [c], by simp; omega, by simp, fun z hz => ?_⟩
    rcases List.mem_append.mp hz with q | q
    · exact gx z q
    · rw [List.mem_singleton.mp q]; exact g
  · rintro ys h' ⟨xs, ly, rfl, gx⟩ d pw' e
    exact hQ xs (by simp at ly; omega) gx h' d pw' e
theorem ints_ref (w m : Nat) (many : Int) (h0 : IH) (env : Env) (i : Nat) (cs : List Int) (b : Env → M IV) (Q : IV → IH → Prop) (hn : cs.length < 16777216) (p : Well h0 w) (em : h0[m]? = some (.lst (cs.map IV.int))) (hm : m ≠ w)
    (hb : ∀ c ∈ cs, ∀ h', Dr w h0 h' → Well h' w → WE (b (env.set i (some (.int c))) h') fun y h'' => Dr w h' h'' ∧ Well h'' w ∧ ∃ c : Int, y = .int c ∧ 0 ≤ c ∧ c < many)
    (hQ : ∀ ds : List Int, ds.length = cs.length → CellsOk many ds → ∀ h', Dr w h0 h' → Well h' w → h'[h0.length]? = some (.lst (ds.map IV.int)) → Q (.ref h0.length) h') : WE (compLoop (refIt m) (gN i) cYes b env h0.length FU 0 (h0 ++ [.lst []])) Q := by
  have hw := p.lt
  refine comp_dr w hw (cs.map IV.int) (by simp; omega) (fun h' => Well h' w) (fun i ys => ∃ xs : List Int, xs.length = i ∧ ys = xs.map IV.int ∧ CellsOk many xs) (hit_ref em hm) (p.app _) (fun h' xs q _ => q.put (by omega)) ⟨[], rfl, rfl, by simp [CellsOk]⟩ ?_ (fun i ys ⟨xs, a, b, _⟩ => by subst b; simp; omega) ?_
  · rintro j x ys h' hx ⟨xs, ly, rfl, gx⟩ d _ pw'
    rw [List.getElem?_map] at hx
    cases hc : cs[j]? with
    | none => rw [hc] at hx; cases hx
    | some c =>
      rw [hc] at hx
      cases hx
      refine ⟨_, rfl, ?_⟩
      simp only [WE_cYes, if_pos]
      refine ⟨Dr.refl _ _, pw', (hb c (List.mem_of_getElem? hc) h' d pw').mono fun y h'' ⟨d2, p2, c, ey, g⟩ => ?_⟩
      subst ey
      refine ⟨d2, p2, xs ++ [c], by simp; omega, by simp, fun z hz => ?_⟩
      rcases List.mem_append.mp hz with q | q
      · exact gx z q
      · rw [List.mem_singleton.mp q]; exact g
  · rintro ys h' ⟨xs, ly, rfl, gx⟩ d pw' e
    exact hQ xs (by simp at ly; omega) gx h' d pw' e
theorem cells_eq (w : Nat) (many pl : Int) (h : IH) (p : Well h w) (m0 : 1 ≤ many) (m1 : many ≤ 100) (p0 : 0 ≤ pl) (p1 : pl ≤ 2) : WE (f__law_cells [.ref w, .int many, .int pl] h) fun v h' => ∃ cs : List Int, v = .tup (cs.map IV.int) ∧ cs.length = (many ^ pl.toNat).toNat ∧ CellsOk many cs ∧ Well h' w ∧ Dr w h h' := by
  unfold f__law_cells b__law_cells
  rw [WE_runF]
  have lm := Bt.ok (show Bt 10 many by unfold Bt; omega) (show Bt 10 many by unfold Bt; omega) (by omega)
  have mm : 1 ≤ many * many ∧ many * many ≤ 10000 := by
    constructor
    · have := Int.mul_pos (show 0 < many by omega) (show 0 < many by omega); omega
    · have := Int.mul_le_mul m1 m1 (by omega) (by omega); omega
  refine WS.seq (M := fun e1 h1 => ∃ s : Int, s = many ^ pl.toNat ∧ 1 ≤ s ∧ s ≤ 10000 ∧ Well h1 w ∧ Dr w h h1 ∧ e1 = [some (.ref w), some (.int many), some (.int pl), some (.int s), none, none, none, none]) ?_ ?_
  · have : pl = 0 ∨ pl = 1 ∨ pl = 2 := by omega
    have pw := p.app [.lst [.int 1, .int many, .int (many * many)]]
    have dd := Dr.app w h [.lst [.int 1, .int many, .int (many * many)]]
    have ix : ∀ (k : Nat) (v : IV), ([.int 1, .int many, .int (many * many)] : List IV)[k]? = some v → ixQ (.ref h.length) (.int k) (h ++ [.lst [.int 1, .int many, .int (many * many)]]) = some (v, h ++ [.lst [.int 1, .int many, .int (many * many)]]) := fun k v e => ixQ_ref (by simp) e
    have i0 := ix 0 _ rfl
    have i1 := ix 1 _ rfl
    have i2 := ix 2 _ rfl
    have e2 : many ^ 2 = many * many := by rw [Int.pow_succ, Int.pow_succ, Int.pow_zero, Int.one_mul]
    have e1 : many ^ 1 = many := by rw [Int.pow_succ, Int.pow_zero, Int.one_mul]
    simp at i0 i1 i2
    rcases this with e | e | e <;> subst e <;> simp [lm]
    · rw [i0]; simp [pw, dd]
    · rw [i1]; simp [pw, dd, e1]; omega
    · rw [i2]; simp [pw, dd, e2, mm]
  rintro _ h1 ⟨s, es, s0, s1, p2, d1, rfl⟩
  rw [← es]
  clear es lm mm p0 p1
  refine WS.seq (M := fun e1 h2 => ∃ (n : Nat) (ks : List Int), 1 ≤ ks.length ∧ ks.length ≤ 3 ∧ CellsOk many ks ∧ h2[n]? = some (.lst (ks.map IV.int)) ∧ n ≠ w ∧ Well h2 w ∧ Dr w h h2 ∧ e1 = [some (.ref w), some (.int many), some (.int pl), some (.int s), some (.ref n), none, none, none]) ?_ ?_
  · simp
    refine (draw_eq w 3 h1 p2 (by omega) (by omega)).mono fun v h2 ⟨r, e, r0, r1, p3, d3⟩ => ?_
    subst e
    refine ⟨by omega, ?_⟩
    refine draws_eq w many h2 _ _ _ _ _ (by omega) p3 (fun k hk h' d' p' => ?_) fun cs lc ok h' d' p' e' => ?_
    · simp [wipeE]
      refine (draw_eq w many h' p' (by omega) (by omega)).mono fun v h3 ⟨r, e, r0, r1, p3, d3⟩ => ?_
      exact ⟨d3, p3, r, e, r0, r1⟩
    · refine ⟨h2.length, cs, by omega, by omega, ok, e', ?_, p', (d1.trans d3).trans d', rfl⟩
      have := p3.lt
      omega
  clear p2 d1 h1
  rintro _ h1 ⟨n, ks, lk0, lk1, okk, ek, hn, p1, d1, rfl⟩
  refine WS.seq (M := fun e1 h2 => ∃ (m : Nat) (cs : List Int), cs.length = s.toNat ∧ CellsOk many cs ∧ h2[m]? = some (.lst (cs.map IV.int)) ∧ m ≠ w ∧ h2[n]? = some (.lst (ks.map IV.int)) ∧ Well h2 w ∧ Dr w h h2 ∧ e1 = [some (.ref w), some (.int many), some (.int pl), some (.int s), some (.ref n), some (.ref m), none, none]) ?_ ?_
  · simp
    refine ⟨by omega, ?_⟩
    refine draws_eq w many h1 _ _ _ _ _ (by omega) p1 (fun k hk h' d' p' => ?_) fun cs lc ok h' d' p' e' => ?_
    · simp [wipeE]
      refine (draw_eq w many h' p' (by omega) (by omega)).mono fun v h3 ⟨r, e, r0, r1, p3, d3⟩ => ?_
      exact ⟨d3, p3, r, e, r0, r1⟩
    · refine ⟨h1.length, cs, lc, ok, e', ?_, d'.get ek hn, p', d1.trans d', rfl⟩
      have := p1.lt
      omega
  clear p1 d1 ek h1
  rintro _ h1 ⟨m, cs, lc, okc, ec, hm, ek, p1, d1, rfl⟩
  refine WS.seq (M := fun e1 h2 => ∃ (m : Nat) (cs : List Int) (r7 : Option IV), cs.length = s.toNat ∧ CellsOk many cs ∧ h2[m]? = some (.lst (cs.map IV.int)) ∧ Well h2 w ∧ Dr w h h2 ∧ e1 = [some (.ref w), some (.int many), some (.int pl), some (.int s), some (.ref n), some (.ref m), none, r7]) ?_ ?_
  · simp
    refine (draw_eq w 3 h1 p1 (by omega) (by omega)).mono fun v h2 ⟨r, e, r0, r1, p2, d2⟩ => ?_
    subst e
    have ec2 := d2.get ec hm
    have ek2 := d2.get ek hn
    by_cases hr : r = 1
    · simp [hr, seqIt_ref ec2]
      refine ints_ref w m many h2 _ _ cs _ _ (by omega) p2 ec2 hm (fun c hc h' d' p' => ?_) fun ds lds okd h' d' p' e' => ?_
      · have hf := fmod_lt c ks.length (by omega)
        have ekk := d'.get ek2 hn
        have hlt : (c.fmod (ks.length : Int)).toNat < ks.length := by omega
        have hix : ixQ (.ref n) (.int (c.fmod (ks.length : Int))) h' = some (.int ks[(c.fmod (ks.length : Int)).toNat], h') := by
          have := ixQ_ref (k := (c.fmod (ks.length : Int)).toNat) ekk (show (ks.map IV.int)[(c.fmod (ks.length : Int)).toNat]? = some (.int ks[(c.fmod (ks.length : Int)).toNat]) by rw [List.getElem?_map, List.getElem?_eq_getElem hlt]; rfl)
          rw [Int.toNat_of_nonneg hf.1] at this
          exact this
        have hne : (ks.length : Int) ≠ 0 := by omega
        have hlen : lenO [.ref n] h' = some (.int ks.length, h') := by simp only [lenO, seqOf, ekk, List.length_map]
        simp [wipeE, hlen, hne]
        refine ⟨fun e => by simp [e] at lk0, ?_⟩
        rw [hix, WO_some]
        exact ⟨Dr.refl _ _, p', _, rfl, okk _ (List.getElem_mem hlt)⟩
      · exact ⟨_, ds, by omega, okd, e', p', (d1.trans d2).trans d', rfl⟩
    · simp [hr]
      exact ⟨m, cs, lc, okc, ec2, p2, d1.trans d2, rfl⟩
  rintro _ h2 ⟨m, cs, r7, lc, okc, ec, p2, d2, rfl⟩
  simp [tupleO_ref ec]
  exact ⟨cs, rfl, lc, okc, p2, d2⟩
/-- a table: how many grades, the wished ones, the connectives -/
structure Tb where
  many : Int
  wished : List Int
  conns : List (Str × Int × List Int)
def cnI (c : Str × Int × List Int) : IV := .tup [.str c.1, .int c.2.1, .tup (c.2.2.map IV.int)]
def tbI (t : Tb) : IV := .tup [.int t.many, .tup (t.wished.map IV.int), .tup (t.conns.map cnI)]
/-- a connective of a table of so many grades -/
structure CnOk (many : Int) (c : Str × Int × List Int) : Prop where
  nm : GS 40 c.1
  p0 : 0 ≤ c.2.1
  p1 : c.2.1 ≤ 2
  len : c.2.2.length = (many ^ c.2.1.toNat).toNat
  cells : CellsOk many c.2.2
structure TbOk (most : Int) (t : Tb) : Prop where
  m0 : 1 ≤ t.many
  m1 : t.many ≤ most
  wok : CellsOk t.many t.wished
  cok : ∀ c ∈ t.conns, CnOk t.many c
  nc : t.conns.length ≤ 40
  wpw : t.wished.Pairwise (· < ·)
  wl : t.wished.length ≤ 1000
/-- the wished grades: each one below many once, or not -/
theorem wished_eq (w : Nat) (many : Int) (m0 : 0 ≤ many) (m1 : many ≤ 1000) (h0 : IH) (env : Env) (i : Nat) (c : Env → M Bool) (b : Env → M IV) (Q : IV → IH → Prop) (p : Well h0 w)
    (hc : ∀ k : Nat, (k : Int) < many → ∀ h', Dr w h0 h' → Well h' w → WE (c (env.set i (some (.int k))) h') fun _ h'' => Dr w h' h'' ∧ Well h'' w)
    (hb : ∀ k : Nat, (k : Int) < many → ∀ h', WE (b (env.set i (some (.int k))) h') fun y h'' => h'' = h' ∧ y = .int k)
    (hQ : ∀ cs : List Int, cs.Pairwise (· < ·) → CellsOk many cs → cs.length ≤ many.toNat → ∀ h', Dr w h0 h' → Well h' w → h'[h0.length]? = some (.lst (cs.map IV.int)) → Q (.ref h0.length) h') : WE (compLoop (rngIt 0 many.toNat) (gN i) c b env h0.length FU 0 (h0 ++ [.lst []])) Q := by
  have hw := p.lt
  refine comp_dr w hw ((List.range many.toNat).map fun k => IV.int (0 + (k : Nat))) (by simp; omega) (fun h' => Well h' w) (fun i ys => ∃ xs : List Int, xs.length ≤ i ∧ ys = xs.map IV.int ∧ xs.Pairwise (· < ·) ∧ (∀ x ∈ xs, 0 ≤ x ∧ x < i ∧ x < many)) hit_rng (p.app _) (fun h' xs q _ => q.put (by omega)) ⟨[], Nat.le_refl _, rfl, by simp, by simp⟩ ?_ (fun i ys ⟨xs, a, b, _⟩ => by subst b; simp; omega) ?_
  · rintro j x ys h' hx ⟨xs, ly, rfl, pw, gx⟩ d _ pw'
    have hi : j < many.toNat := by
      have := (List.getElem?_eq_some_iff.mp hx).1
      simpa using this
    have : x = .int (j : Nat) := by
      rw [List.getElem?_map, List.getElem?_range hi] at hx
      simpa using hx.symm
    subst this
    refine ⟨_, rfl, (hc j (by omega) h' d pw').mono fun t h1 ⟨d1, p1⟩ => ⟨d1, p1, ?_⟩⟩
    cases t with
    | false => exact ⟨xs, by omega, rfl, pw, fun x hx => by have := gx x hx; omega⟩
    | true =>
      rw [if_pos rfl]
      refine (hb j (by omega) h1).mono fun y h'' ⟨e, ey⟩ => ?_
      subst e ey
      refine ⟨Dr.refl _ _, p1, xs ++ [(j : Int)], by simp; omega, by simp, ?_, fun z hz => ?_⟩
      · rw [List.pairwise_append]
        exact ⟨pw, by simp, fun a ha b hb => by
          rw [List.mem_singleton.mp hb]
          exact (gx a ha).2.1⟩
      · rcases List.mem_append.mp hz with q | q
        · have := gx z q; omega
        · rw [List.mem_singleton.mp q]; omega
  · rintro ys h' ⟨xs, ly, rfl, pw, gx⟩ d pw' e
    exact hQ xs pw (fun x hx => ⟨(gx x hx).1, (gx x hx).2.2⟩) (by simp at ly; omega) h' d pw' e
/-- unlike names, few of them -/
def TbNd (t : Tb) : Prop := t.conns.length ≤ 16 ∧ (t.conns.map (·.1)).Nodup
theorem table_eq (w : Nat) (most some_ : Int) (h : IH) (p : Well h w) (m0 : 1 ≤ most) (m1 : most ≤ 100) (s0 : 0 ≤ some_) (s1 : some_ ≤ 8) : WE (f__law_table [.ref w, .int most, .int some_] h) fun v h' => ∃ t : Tb, v = tbI t ∧ TbOk most t ∧ TbNd t ∧ Well h' w ∧ Dr w h h' := by
  unfold f__law_table b__law_table
  rw [WE_runF]
  refine WS.seq (M := fun e1 h1 => ∃ m : Int, 1 ≤ m ∧ m ≤ most ∧ Well h1 w ∧ Dr w h h1 ∧ e1 = [some (.ref w), some (.int most), some (.int some_), some (.int m), none, none, none, none, none, none]) ?_ ?_
  · simp
    refine (draw_eq w most h p (by omega) (by omega)).mono fun v h2 ⟨r, e, r0, r1, p3, d3⟩ => ?_
    subst e
    exact ⟨1 + r, by omega, by omega, p3, d3, rfl⟩
  rintro _ h1 ⟨m, mm0, mm1, p1, d1, rfl⟩
  refine WS.seq (M := fun e1 h2 => ∃ ws : List Int, CellsOk m ws ∧ (ws.Pairwise (· < ·) ∧ ws.length ≤ 1000) ∧ Well h2 w ∧ Dr w h h2 ∧ e1 = [some (.ref w), some (.int most), some (.int some_), some (.int m), some (.tup (ws.map IV.int)), none, none, none, none, none]) ?_ ?_
  · simp
    refine ⟨by omega, ?_⟩
    refine wished_eq w m (by omega) (by omega) h1 _ _ _ _ _ p1 (fun k hk h' d' p' => ?_) (fun k hk h' => ?_) fun cs pw ok lc h' d' p' e' => ?_
    · simp [wipeE]
      refine (draw_eq w 2 h' p' (by omega) (by omega)).mono fun v h3 ⟨r, e, r0, r1, p3, d3⟩ => ?_
      subst e
      simp
      exact ⟨d3, p3⟩
    · simp [wipeE]
    · simp [tupleO_ref e']
      exact ⟨cs, ok, ⟨pw, by omega⟩, p', d1.trans d', rfl⟩
  clear p1 d1 h1
  rintro _ h1 ⟨ws, okw, pww, p1, d1, rfl⟩
  refine WS.seq (M := fun e1 h2 => ∃ (k : Nat) (xs : List Str), NamD h2 k xs ∧ k ≠ w ∧ Well h2 w ∧ Dr w h h2 ∧ e1 = [some (.ref w), some (.int most), some (.int some_), some (.int m), some (.tup (ws.map IV.int)), some (.ref k), none, none, none, none]) ?_ ?_
  · simp
    refine (draw_eq w (some_ + 1) h1 p1 (by omega) (by omega)).mono fun v h3 ⟨r, e, r0, r1, p3, d3⟩ => ?_
    subst e
    refine (names_eq w r h3 p3 (by omega) (by omega)).mono fun v h4 ⟨k, xs, e, lk, nm, p4, d4⟩ => ?_
    have := p3.lt
    subst e
    exact ⟨k, ⟨xs, nm⟩, by omega, p4, (d1.trans d3).trans d4, rfl⟩
  clear p1 d1 h1
  rintro _ h1 ⟨k, xs, nm, hk, p1, d1, rfl⟩
  obtain ⟨⟨ek, lx, gx⟩, nd⟩ := nm
  have hkl := (List.getElem?_eq_some_iff.mp ek).1
  have hw := p1.lt
  refine WS.seq (M := fun e1 h2 => h2 = h1 ++ [.lst []] ∧ e1 = [some (.ref w), some (.int most), some (.int some_), some (.int m), some (.tup (ws.map IV.int)), some (.ref k), some (.ref h1.length), none, none, none]) (by simp) ?_
  rintro _ _ ⟨rfl, rfl⟩
  refine WS.seq (M := fun e1 h2 => ∃ (cs : List (Str × Int × List Int)) (r7 r8 r9 : Option IV), ((cs.length ≤ 16 ∧ (cs.map (·.1)).Nodup) ∧ ∀ c ∈ cs, CnOk m c) ∧ h2[h1.length]? = some (.lst (cs.map cnI)) ∧ Well h2 w ∧ Dr w h h2 ∧ e1 = [some (.ref w), some (.int most), some (.int some_), some (.int m), some (.tup (ws.map IV.int)), some (.ref k), some (.ref h1.length), r7, r8, r9]) ?_ ?_
  · have ek0 : (h1 ++ [.lst []])[k]? = some (.lst (xs.map IV.str)) := by rw [List.getElem?_append_left hkl]; exact ek
    simp [seqIt_ref ek0, -Prod.exists, -Prod.forall]
    refine WS_list (xs := xs.map IV.str) (n := k) (fun i e1 h2 => ∃ (cs : List (Str × Int × List Int)) (r7 r8 r9 : Option IV), ((cs.length = i ∧ cs.map (·.1) = xs.take i) ∧ ∀ c ∈ cs, CnOk m c) ∧ h2[h1.length]? = some (.lst (cs.map cnI)) ∧ h2[k]? = some (.lst (xs.map IV.str)) ∧ Well h2 w ∧ Dr w h h2 ∧ e1 = [some (.ref w), some (.int most), some (.int some_), some (.int m), some (.tup (ws.map IV.int)), some (.ref k), some (.ref h1.length), r7, r8, r9]) ⟨[], none, none, none, ⟨⟨rfl, by simp⟩, by simp⟩, by simp, ek0, p1.app _, d1.trans (Dr.app _ _ _), rfl⟩ (by simp; omega) (fun _ _ _ ⟨_, _, _, _, _, _, q, _⟩ => q) ?_ ?_
    · rintro i x env h2 hx ⟨cs, r7, r8, r9, ⟨⟨lc, nc⟩, okc⟩, ec, ek2, p2, d2, rfl⟩
      rw [List.getElem?_map] at hx
      cases hz : xs[i]? with
      | none => rw [hz] at hx; cases hx
      | some nm =>
        rw [hz] at hx
        cases hx
        have hi : i < 16 := by have := (List.getElem?_eq_some_iff.mp hz).1; omega
        refine ⟨_, rfl, ?_⟩
        unfold bd__law_table_0
        refine WS.seq (M := fun e1 h3 => ∃ pl : Int, 0 ≤ pl ∧ pl ≤ 2 ∧ Well h3 w ∧ Dr w h2 h3 ∧ e1 = [some (.ref w), some (.int most), some (.int some_), some (.int m), some (.tup (ws.map IV.int)), some (.ref k), some (.ref h1.length), some (.str nm), some (.int pl), r9]) ?_ ?_
        · simp
          refine (draw_eq w 5 _ (p2.app _) (by omega) (by omega)).mono fun v h3 ⟨r, e, r0, r1, p3, d3⟩ => ?_
          subst e
          have e3 : h3[h2.length]? = some (.lst [.int 0, .int 1, .int 1, .int 2, .int 2]) := d3.get (by simp) (by have := p2.lt; omega)
          have ix : ∀ (j : Nat) (v : IV), ([.int 0, .int 1, .int 1, .int 2, .int 2] : List IV)[j]? = some v → ixQ (.ref h2.length) (.int j) h3 = some (v, h3) := fun j v e => ixQ_ref e3 e
          have dd := (Dr.app w h2 [.lst [.int 0, .int 1, .int 1, .int 2, .int 2]]).trans d3
          have : r = 0 ∨ r = 1 ∨ r = 2 ∨ r = 3 ∨ r = 4 := by omega
          have i0 := ix 0 _ rfl
          have i1 := ix 1 _ rfl
          have i2 := ix 2 _ rfl
          have i3 := ix 3 _ rfl
          have i4 := ix 4 _ rfl
          simp at i0 i1 i2 i3 i4
          rcases this with e | e | e | e | e <;> subst e <;> simp [i0, i1, i2, i3, i4, p3, dd]
        rintro _ h3 ⟨pl, q0, q1, p3, d3, rfl⟩
        have ec3 := d3.get ec (by omega)
        have ek3 := d3.get ek2 hk
        simp [tyI_ref ec3, -Prod.exists, -Prod.forall]
        refine (cells_eq w m pl h3 p3 mm0 (by omega) q0 q1).mono fun v h4 ⟨ds, e, ld, okd, p4, d4⟩ => ?_
        subst e
        have ec4 := d4.get ec3 (by omega)
        have ek4 := d4.get ek3 hk
        simp [appO_ref ec4 (by simp; omega), -Prod.exists, -Prod.forall]
        refine ⟨cs ++ [(nm, pl, ds)], ⟨⟨by simp; omega, by rw [List.map_append, nc, List.take_add_one, hz]; rfl⟩, fun c hc => ?_⟩, ?_, ?_, p4.put (by omega), ?_⟩
        · rcases List.mem_append.mp hc with q | q
          · exact okc c q
          · rw [List.mem_singleton.mp q]
            exact ⟨(gx nm (List.mem_of_getElem? hz)).mono (by omega), q0, q1, ld, okd⟩
        · rw [List.getElem?_set_self (List.getElem?_eq_some_iff.mp ec4).1, List.map_append]
          rfl
        · rw [List.getElem?_set_ne (by omega)]
          exact ek4
        · exact ((d2.trans d3).trans d4).put (by have := d1.len; omega)
    · rintro env h2 ⟨cs, r7, r8, r9, ⟨⟨lc, nc⟩, okc⟩, ec, ek2, p2, d2, rfl⟩
      exact ⟨cs, ⟨⟨by simp at lc; omega, by rw [nc]; exact nd.sublist (List.take_sublist _ _)⟩, okc⟩, ec, p2, d2, r7, r8, r9, rfl⟩
  rintro _ h2 ⟨cs, r7, r8, r9, ⟨lc, okc⟩, ec, p2, d2, rfl⟩
  simp [tupleO_ref ec]
  exact ⟨⟨m, ws, cs⟩, rfl, ⟨mm0, mm1, okw, okc, Nat.le_trans lc.1 (by omega), pww.1, pww.2⟩, lc, p2, d2⟩
/-- what was there stays -/
structure Gr (h h' : IH) : Prop where
  len : h.length ≤ h'.length
  at_ : ∀ k, k < h.length → h'[k]? = h[k]?
theorem Gr.refl (h : IH) : Gr h h := ⟨Nat.le_refl _, fun _ _ => rfl⟩
theorem Gr.trans {a b c : IH} (x : Gr a b) (y : Gr b c) : Gr a c := ⟨Nat.le_trans x.len y.len, fun k hk => (y.at_ k (Nat.lt_of_lt_of_le hk x.len)).trans (x.at_ k hk)⟩
theorem Gr.app (h g : IH) : Gr h (h ++ g) := ⟨by rw [List.length_append]; omega, fun k hk => List.getElem?_append_left hk⟩
theorem Gr.dr {h h' : IH} (x : Gr h h') (w : Nat) : Dr w h h' := ⟨x.len, fun k hk _ => x.at_ k hk⟩
theorem Gr.put {h h1 : IH} {n : Nat} {o : IO} (x : Gr h h1) (hn : h.length ≤ n) : Gr h (h1.set n o) := ⟨by rw [List.length_set]; exact x.len, fun k hk => (List.getElem?_set_ne (by omega)).trans (x.at_ k hk)⟩
theorem Gr.get {m : Nat} {a b : IH} {o : IO} (x : Gr a b) (e : a[m]? = some o) : b[m]? = some o := (x.at_ m (List.getElem?_eq_some_iff.mp e).1).trans e
theorem Gr.well {w : Nat} {h h' : IH} (x : Gr h h') (p : Well h w) : Well h' w := by
  obtain ⟨k, a, e, q⟩ := p
  exact ⟨k, a, x.get e, q⟩
theorem well_eq (ns : List Int) (k : Int) (h : IH) (hl : ns.length ≤ 63) (hb : ∀ z ∈ ns, Bt 1048577 z) (k0 : 0 ≤ k) (k1 : k < 1000) : WE (f__law_well [.scr ns, .int k] h) fun v h' => ∃ n : Nat, v = .ref n ∧ h.length ≤ n ∧ Well h' n ∧ Gr h h' := by
  unfold f__law_well b__law_well
  rw [WE_runF]
  refine WS.seq (M := fun e1 h1 => h = h1 ∧ e1 = [some (.scr ns), some (.int k), some (.int 0), none]) (by simp) ?_
  rintro _ h1 ⟨rfl, rfl⟩
  refine WS.seq (M := fun e1 h1 => ∃ (c : Int) (r : Option IV), Bt 1048577 c ∧ Gr h h1 ∧ e1 = [some (.scr ns), some (.int k), some (.int c), r]) ?_ ?_
  · rw [WS_sFor, WE_iSeq]
    simp only [WE_slice, WE_oS, WE_oN, WE_eOp, WE_eC, eVar_at, List.map, List.length, List.replicate, List.cons_append, List.nil_append, List.getElem?_cons_zero, List.getElem?_cons_succ, WE_ok, WO_some, addO_int, slO_scr]
    generalize es : (ns.drop (HT.sIx ns.length 0 (some k))).take (HT.sIx ns.length ns.length (some (k + 1)) - HT.sIx ns.length 0 (some k)) = ms
    have hms : ∀ z ∈ ms, Bt 1048577 z := fun z hz => hb z (by rw [← es] at hz; exact mem_cut hz)
    have hml : ms.length ≤ 63 := by rw [← es]; exact Nat.le_trans (len_cut _ _ _) hl
    rw [seqIt_ref (xs := ms.map IV.int) (by simp)]
    refine WS_list (xs := ms.map IV.int) (n := h.length) (fun i e1 h1 => ∃ (c : Int) (r : Option IV), Bt 1048577 c ∧ h1 = h ++ [.lst (ms.map IV.int)] ∧ e1 = [some (.scr ns), some (.int k), some (.int c), r]) ⟨0, none, Nat.two_pow_pos _, rfl, rfl⟩ (by simp; omega) (fun _ _ _ ⟨_, _, _, e, _⟩ => by rw [e]; simp) ?_ ?_
    · rintro i x env h2 hx ⟨c, r, bc, rfl, rfl⟩
      rw [List.getElem?_map] at hx
      cases hz : ms[i]? with
      | none => rw [hz] at hx; cases hx
      | some z =>
        rw [hz] at hx
        cases hx
        refine ⟨_, rfl, ?_⟩
        unfold bd__law_well_0
        simp
        exact hms z (List.mem_of_getElem? hz)
    · rintro env h2 ⟨c, r, bc, rfl, rfl⟩
      exact ⟨c, r, bc, Gr.app _ _, rfl⟩
  rintro _ h1 ⟨c, r, bc, g1, rfl⟩
  have bc' : Bt 1048578 c := bc.mono (by omega)
  have bn : Bt 1048578 (-c) := by
    unfold Bt at bc' ⊢
    rw [Int.natAbs_neg]
    exact bc'
  have key : ∀ (x a : Int), 0 ≤ a → Bt 1048578 a → (x = 0 ∨ x = 1 ∧ a < 1073741824) → ∃ n : Nat, IV.ref h1.length = .ref n ∧ h.length ≤ n ∧ Well (h1 ++ [.lst [.int x, .int a]]) n ∧ Gr h (h1 ++ [.lst [.int x, .int a]]) := fun x a a0 a1 hx =>
    ⟨h1.length, rfl, g1.len, ⟨x, a, by simp, a0, a1, hx⟩, g1.trans (Gr.app _ _)⟩
  have q1 := fmod_lt c 998244341 (by omega)
  have q2 := fmod_lt (c.fmod 998244341 + 7919 * k) 998244353 (by omega)
  have l1 : Nat.log2 7919 = 12 := by decide +kernel
  have l2 := log2_le (show Bt 10 k by unfold Bt; omega)
  have mk : Nat.log2 7919 + k.natAbs.log2 < 1000000 := by omega
  have fin : ∀ a : Int, 0 ≤ a → a < 1073741824 → Bt 1048578 a := fun a _ _ => (show Bt 30 a by unfold Bt; omega).mono (by omega)
  by_cases c1 : c < 0
  · simp [c1]
    simpa using key 0 (-c) (by omega) bn (.inl rfl)
  · by_cases c2 : 1000000000000000000 ≤ c
    · simp [c1, c2]
      simpa using key 0 c (by omega) bc' (.inl rfl)
    · simp [c1, c2, mk]
      simpa using key 1 ((c.fmod 998244341 + 7919 * k).fmod 998244353 + 3) (by omega) (fin _ (by omega) (by omega)) (.inr ⟨rfl, by omega⟩)
/-- the place of a row of grades -/
def idx (many : Int) (gs : List Int) : Int := gs.foldl (fun p g => p * many + g) 0
theorem idx_app (many : Int) (gs : List Int) (g : Int) : idx many (gs ++ [g]) = idx many gs * many + g := by simp [idx]
theorem idx_lt {many : Int} (m0 : 1 ≤ many) : ∀ (n : Nat) (gs : List Int), gs.length = n → (∀ g ∈ gs, 0 ≤ g ∧ g < many) → 0 ≤ idx many gs ∧ idx many gs < many ^ n
  | 0, gs, e, _ => by
    have := List.eq_nil_of_length_eq_zero e
    subst this
    simp [idx]
  | n + 1, gs, e, h => by
    have hne : gs ≠ [] := fun q => by subst q; simp at e
    obtain ⟨g, rest, rfl⟩ : ∃ g rest, gs = rest ++ [g] := ⟨gs.getLast hne, gs.dropLast, (List.dropLast_concat_getLast hne).symm⟩
    obtain ⟨a, b⟩ := idx_lt m0 n rest (by simpa using e) fun x hx => h x (List.mem_append_left _ hx)
    obtain ⟨c, d⟩ := h g (by simp)
    rw [idx_app, Int.pow_succ]
    constructor
    · have := Int.mul_nonneg a (show 0 ≤ many by omega); omega
    · have := Int.mul_le_mul_of_nonneg_right (show idx many rest ≤ many ^ n - 1 by omega) (show 0 ≤ many by omega)
      rw [Int.sub_mul, Int.one_mul] at this
      omega
def cellAt (many : Int) (cs gs : List Int) : Int := cs.getD (idx many gs).toNat 0
/-- a row of so many grades below many -/
def RowOk (many : Int) (n : Nat) (gs : List Int) : Prop := gs.length = n ∧ ∀ g ∈ gs, 0 ≤ g ∧ g < many
theorem cellAt_get {many : Int} {n : Nat} {cs gs : List Int} (m0 : 1 ≤ many) (hl : cs.length = (many ^ n).toNat) (r : RowOk many n gs) : cs[(idx many gs).toNat]? = some (cellAt many cs gs) ∧ 0 ≤ idx many gs ∧ idx many gs < many ^ n := by
  obtain ⟨a, b⟩ := idx_lt m0 n gs r.1 r.2
  have : (idx many gs).toNat < cs.length := by omega
  refine ⟨?_, a, b⟩
  unfold cellAt
  rw [List.getD_eq_getElem?_getD, List.getElem?_eq_getElem this]
  rfl
theorem cellAt_mem {many : Int} {n : Nat} {cs gs : List Int} (m0 : 1 ≤ many) (hl : cs.length = (many ^ n).toNat) (r : RowOk many n gs) : cellAt many cs gs ∈ cs := List.mem_of_getElem? (cellAt_get m0 hl r).1
theorem foldl_bt {many : Int} (m0 : 1 ≤ many) (m1 : many ≤ 100) {n : Nat} (hn : n ≤ 3) {gs : List Int} (r : RowOk many n gs) (i : Nat) (hi : i ≤ gs.length) : 0 ≤ idx many (gs.take i) ∧ idx many (gs.take i) ≤ 1000000 := by
  obtain ⟨a, b⟩ := idx_lt m0 i (gs.take i) (by rw [List.length_take]; omega) fun g hg => r.2 g (List.mem_of_mem_take hg)
  refine ⟨a, ?_⟩
  have hi3 : i ≤ 3 := by have := r.1; omega
  have : many ^ i ≤ 1000000 := by
    have h2 : many * many ≤ 10000 := by have := Int.mul_le_mul m1 m1 (by omega) (by omega); omega
    have h3 : many * many * many ≤ 1000000 := by have := Int.mul_le_mul h2 m1 (by omega) (by omega); omega
    match i, hi3 with
    | 0, _ => simp
    | 1, _ => rw [Int.pow_succ, Int.pow_zero, Int.one_mul]; omega
    | 2, _ => rw [Int.pow_succ, Int.pow_succ, Int.pow_zero, Int.one_mul]; omega
    | 3, _ => rw [Int.pow_succ, Int.pow_succ, Int.pow_succ, Int.pow_zero, Int.one_mul]; omega
  omega
theorem cell_at_eq {many : Int} {n : Nat} {cs gs : List Int} {k : Nat} {h : IH} (m0 : 1 ≤ many) (m1 : many ≤ 100) (hn : n ≤ 3) (hl : cs.length = (many ^ n).toNat) (r : RowOk many n gs) (e : h[k]? = some (.lst (gs.map IV.int))) :
    f_cell_at [.int many, .tup (cs.map IV.int), .ref k] h = some (.ok (.int (cellAt many cs gs)), h) := by
  refine WE.eq ?_
  unfold f_cell_at b_cell_at
  rw [WE_runF]
  refine WS.seq (M := fun e1 h1 => h = h1 ∧ e1 = [some (.int many), some (.tup (cs.map IV.int)), some (.ref k), some (.int 0), none]) (by simp) ?_
  rintro _ h1 ⟨rfl, rfl⟩
  refine WS.seq (M := fun e1 h1 => ∃ r4, h = h1 ∧ e1 = [some (.int many), some (.tup (cs.map IV.int)), some (.ref k), some (.int (idx many gs)), r4]) ?_ ?_
  · simp [seqIt_ref e]
    refine WS_list (xs := gs.map IV.int) (n := k) (fun i e1 h1 => ∃ r4, h = h1 ∧ e1 = [some (.int many), some (.tup (cs.map IV.int)), some (.ref k), some (.int (idx many (gs.take i))), r4]) ⟨none, rfl, rfl⟩ (by have := r.1; simp; omega) (fun _ _ _ ⟨_, q, _⟩ => by rw [← q]; exact e) ?_ ?_
    · rintro i x env h1 hx ⟨r4, rfl, rfl⟩
      rw [List.getElem?_map] at hx
      cases hz : gs[i]? with
      | none => rw [hz] at hx; cases hx
      | some z =>
        rw [hz] at hx
        cases hx
        refine ⟨_, rfl, ?_⟩
        have hi := (List.getElem?_eq_some_iff.mp hz).1
        obtain ⟨b0, b1⟩ := foldl_bt m0 m1 hn r i (by omega)
        have mk := Bt.ok (show Bt 30 (idx many (gs.take i)) by unfold Bt; omega) (show Bt 30 many by unfold Bt; omega) (by omega)
        have et : gs.take (i + 1) = gs.take i ++ [z] := by rw [List.take_add_one, hz]; rfl
        unfold bd_cell_at_0
        simp [mk, et, idx_app]
    · rintro env h1 ⟨r4, rfl, rfl⟩
      simp
  rintro _ h1 ⟨r4, rfl, rfl⟩
  obtain ⟨g1, g2, g3⟩ := cellAt_get m0 hl r
  have hix : ixQ (.tup (cs.map IV.int)) (.int (idx many gs)) h = some (.int (cellAt many cs gs), h) := by
    have := ixQ_tup (h := h) (k := (idx many gs).toNat) (show (cs.map IV.int)[(idx many gs).toNat]? = some (.int (cellAt many cs gs)) by rw [List.getElem?_map, g1]; rfl)
    rwa [Int.toNat_of_nonneg g2] at this
  simp [hix]
/-! rows -/
def rngI (s : Int) : List Int := (List.range s.toNat).map fun k => ((k : Nat) : Int)
def rowsG (s : Int) : Nat → List (List Int)
  | 0 => [[]]
  | n + 1 => (rowsG s n).flatMap fun r => (rngI s).map fun g => r ++ [g]
def rowI (r : List Int) : IV := .tup (r.map IV.int)
theorem rngI_mem {s g : Int} (h : g ∈ rngI s) : 0 ≤ g ∧ g < s := by
  unfold rngI at h
  obtain ⟨k, hk, rfl⟩ := List.mem_map.mp h
  have := List.mem_range.mp hk
  omega
theorem rowsG_ok (s : Int) : ∀ (n : Nat), ∀ r ∈ rowsG s n, RowOk s n r
  | 0, r, h => by
    rw [rowsG, List.mem_singleton] at h
    subst h
    exact ⟨rfl, by simp⟩
  | n + 1, r, h => by
    rw [rowsG, List.mem_flatMap] at h
    obtain ⟨a, ha, hr⟩ := h
    obtain ⟨g, hg, rfl⟩ := List.mem_map.mp hr
    obtain ⟨l, b⟩ := rowsG_ok s n a ha
    refine ⟨by simp [l], fun x hx => ?_⟩
    rcases List.mem_append.mp hx with q | q
    · exact b x q
    · rw [List.mem_singleton.mp q]; exact rngI_mem hg
theorem rowsG_len (s : Int) : ∀ n : Nat, (rowsG s n).length = s.toNat ^ n
  | 0 => rfl
  | n + 1 => by
    rw [rowsG, List.length_flatMap, Nat.pow_succ]
    have : (List.map (fun a => (List.map (fun g => a ++ [g]) (rngI s)).length) (rowsG s n)) = List.replicate (rowsG s n).length s.toNat := by
      refine List.eq_replicate_iff.mpr ⟨by simp, fun b hb => ?_⟩
      obtain ⟨a, _, rfl⟩ := List.mem_map.mp hb
      simp [rngI]
    rw [this, List.sum_replicate_nat, rowsG_len s n]
theorem range_flat (s : Nat) : ∀ m : Nat, (List.range m).flatMap (fun a => (List.range s).map fun b => a * s + b) = List.range (m * s)
  | 0 => by simp
  | m + 1 => by
    rw [List.range_succ, List.flatMap_append, range_flat s m, Nat.succ_mul, List.range_add]
    simp
theorem rowsG_one (s : Int) : rowsG s 1 = (rngI s).map fun g => [g] := by simp [rowsG]
theorem rowsG_two (s : Int) : rowsG s 2 = (List.range (s.toNat * s.toNat)).map fun p => [((p : Nat) : Int).fdiv s, ((p : Nat) : Int).fmod s] := by
  by_cases hs : s ≤ 0
  · have : s.toNat = 0 := by omega
    simp [rowsG, rngI, this]
  · have e1 : rowsG s 2 = (List.range s.toNat).flatMap fun a => (List.range s.toNat).map fun b => [((a : Nat) : Int), ((b : Nat) : Int)] := by
      rw [rowsG, rowsG_one]
      simp [rngI, List.flatMap_map, Function.comp_def]
    rw [e1, ← range_flat, List.map_flatMap]
    rw [List.flatMap_def, List.flatMap_def]
    refine congrArg List.flatten (List.map_congr_left fun a ha => ?_)
    rw [List.map_map]
    refine List.map_congr_left fun b hb => ?_
    have hb' := List.mem_range.mp hb
    have hss : ((s.toNat : Nat) : Int) = s := Int.toNat_of_nonneg (by omega)
    have q1 : ((a * s.toNat + b : Nat) : Int).fdiv s = a := by
      rw [Int.fdiv_eq_ediv_of_nonneg _ (by omega)]
      rw [Int.natCast_add, Int.natCast_mul, hss, Int.add_comm, Int.add_mul_ediv_right _ _ (by omega), Int.ediv_eq_zero_of_lt (by omega) (by omega)]
      omega
    have q2 : ((a * s.toNat + b : Nat) : Int).fmod s = b := by
      rw [Int.fmod_eq_emod_of_nonneg _ (by omega)]
      rw [Int.natCast_add, Int.natCast_mul, hss, Int.add_comm, Int.add_mul_emod_self_right, Int.emod_eq_of_lt (by omega) (by omega)]
    show [(a : Int), (b : Int)] = [((a * s.toNat + b : Nat) : Int).fdiv s, ((a * s.toNat + b : Nat) : Int).fmod s]
    rw [q1, q2]
theorem addO_tt {xs ys : List IV} {h : IH} (hl : xs.length + ys.length ≤ 1000) : addO (.tup xs) (.tup ys) h = some (.tup (xs ++ ys), h) := by
  unfold addO orO addI addS addL addT
  simp only []
  rw [if_pos (by omega)]
/-- a comprehension over a tuple of ints -/
theorem comp_tint {r : List Int} {i : Nat} {env : Env} {b : Env → M IV} {h : IH} {Q : IV → IH → Prop} (f : Int → Int) (hn : r.length < 16777216)
    (hb : ∀ g h', g ∈ r → WE (b (env.set i (some (.int g))) h') fun y h2 => y = .int (f g) ∧ h2 = h') (hQ : Q (.ref h.length) (h ++ [.lst ((r.map f).map IV.int)])) :
    WE (compLoop ⟨fun i _ => some (Option.map IV.int r[i]?)⟩ (gN i) cYes b env h.length FU 0 (h ++ [.lst []])) Q := by
  have e : (⟨fun i _ => some (Option.map IV.int r[i]?)⟩ : IIt) = ⟨fun i _ => some (r.map IV.int)[i]?⟩ := by
    congr 1
    funext i _
    rw [List.getElem?_map]
  rw [e]
  refine comp_tup (xs := r.map IV.int) (fun x => match x with | .int g => .int (f g) | x => x) (by simpa using hn) (fun x h' hx _ => ?_) ?_
  · obtain ⟨g, hg, rfl⟩ := List.mem_map.mp hx
    exact hb g h' hg
  · rw [List.map_map]
    rw [List.map_map] at hQ
    exact hQ
/-- a comprehension over a tuple whose element changes nothing, any target -/
theorem comp_tupG {α : Type} {xs : List α} (enc F : α → IV) {g : MG} {env : Env} {b : Env → M IV} {h : IH} {Q : IV → IH → Prop} (hn : xs.length < 16777216)
    (hb : ∀ a h', a ∈ xs → ∃ e1, g (enc a) env h' = some e1 ∧ WE (b e1 h') fun y h2 => y = F a ∧ h2 = h') (hQ : Q (.ref h.length) (h ++ [.lst (xs.map F)])) :
    WE (compLoop ⟨fun i _ => some (Option.map enc xs[i]?)⟩ g cYes b env h.length FU 0 (h ++ [.lst []])) Q := by
  refine WE_comp xs.length (fun k h' => h' = h ++ [.lst ((xs.take k).map F)]) ?_ ?_ FU 0 _ (Nat.zero_le _) (by simp) (FU_lt64 (by omega))
  · rintro k h' hk rfl
    have hx : xs[k]? = some xs[k] := List.getElem?_eq_getElem hk
    obtain ⟨e1, eg, w⟩ := hb xs[k] (h ++ [.lst ((xs.take k).map F)]) (List.getElem_mem hk)
    refine ⟨enc xs[k], by show some (Option.map enc xs[k]?) = _; rw [hx]; rfl, e1, eg, ?_⟩
    simp only [WE_cYes, if_pos]
    refine w.mono fun y h2 ⟨ey, eh⟩ => ?_
    subst ey eh
    refine ⟨(xs.take k).map F, by simp, by simp; omega, ?_⟩
    rw [List.set_append_right _ _ (Nat.le_refl _), Nat.sub_self, List.take_add_one, hx, List.map_append]
    rfl
  · rintro h' rfl
    exact ⟨by show some (Option.map enc xs[xs.length]?) = _; simp, by rw [List.take_length]; exact hQ⟩
theorem comp_tupGE {α : Type} {xs : List α} (enc F : α → IV) {g : MG} {env : Env} {b : Env → M IV} {h0 : IH} {n0 : Nat} (h : IH) {Q : IV → IH → Prop} (hn : xs.length < 16777216) (e1 : h0 = h ++ [.lst []]) (e2 : n0 = h.length)
    (hb : ∀ a h', a ∈ xs → ∃ e1, g (enc a) env h' = some e1 ∧ WE (b e1 h') fun y h2 => y = F a ∧ h2 = h') (hQ : Q (.ref h.length) (h ++ [.lst (xs.map F)])) :
    WE (compLoop ⟨fun i _ => some (Option.map enc xs[i]?)⟩ g cYes b env n0 FU 0 h0) Q := by
  subst e1 e2
  exact comp_tupG enc F hn hb hQ
/-- a comprehension over a range that keeps some of its numbers -/
theorem comp_filt {n i : Nat} {env : Env} {c : Env → M Bool} {b : Env → M IV} {h : IH} {Q : IV → IH → Prop} (P : Int → Bool) (hn : n < 16777216)
    (hc : ∀ (k : Nat) h', k < n → WE (c (env.set i (some (.int k))) h') fun t h1 => t = P k ∧ h1 = h')
    (hb : ∀ (k : Nat) h', k < n → WE (b (env.set i (some (.int k))) h') fun y h2 => y = .int k ∧ h2 = h') (hQ : Q (.ref h.length) (h ++ [.lst ((((List.range n).map fun k => ((k : Nat) : Int)).filter P).map IV.int)])) :
    WE (compLoop (rngIt 0 n) (gN i) c b env h.length FU 0 (h ++ [.lst []])) Q := by
  refine WE_comp n (fun k h' => h' = h ++ [.lst ((((List.range k).map fun k => ((k : Nat) : Int)).filter P).map IV.int)]) ?_ ?_ FU 0 _ (Nat.zero_le _) (by simp) (FU_lt64 (by omega))
  · rintro k h' hk rfl
    refine ⟨.int (k : Nat), by unfold rngIt; simp [hk], _, rfl, ?_⟩
    refine (hc k _ hk).mono fun t h1 ⟨et, eh⟩ => ?_
    subst eh
    have er : (((List.range (k + 1)).map fun k => ((k : Nat) : Int)).filter P).map IV.int = (((List.range k).map fun k => ((k : Nat) : Int)).filter P).map IV.int ++ (if P k = true then [.int k] else []) := by
      rw [List.range_succ, List.map_append, List.filter_append, List.map_append]
      congr 1
      cases hP : P (k : Nat) <;> simp [hP]
    cases t with
    | false => 
      rw [er, ← et]
      simp
    | true =>
      rw [if_pos rfl]
      refine (hb k _ hk).mono fun y h2 ⟨ey, eh⟩ => ?_
      subst ey eh
      refine ⟨_, by simp; rfl, ?_, ?_⟩
      · rw [List.length_map]
        refine Nat.lt_of_le_of_lt (List.length_filter_le _ _) ?_
        simp
        omega
      · rw [er, ← et, List.set_append_right _ _ (Nat.le_refl _), Nat.sub_self]
        simp
  · rintro h' rfl
    exact ⟨by unfold rngIt; simp, hQ⟩
theorem inO_ints (x : Int) (ws : List Int) (h : IH) : inO (.int x) (.tup (ws.map IV.int)) h = some (.bl (decide (x ∈ ws)), h) := by
  have e1 : inI (.int x) (ws.map IV.int) = decide (x ∈ ws) := by
    unfold inI
    rw [List.any_map]
    induction ws with
    | nil => simp
    | cons a l ih =>
      rw [List.any_cons, ih]
      simp only [Function.comp, eqI, List.mem_cons]
      by_cases hax : a = x
      · subst hax; simp
      · have : ¬ x = a := fun e => hax e.symm
        simp [hax, this]
  have e2 : (ws.map IV.int).all flatI = true := by simp [flatI]
  unfold inO orO inQ
  simp only [seqOf, e2, e1, flatI]
  simp
theorem sorted_ext : ∀ {a b : List Int}, a.Pairwise (· < ·) → b.Pairwise (· < ·) → (∀ x, x ∈ a ↔ x ∈ b) → a = b
  | [], [], _, _, _ => rfl
  | [], y :: b, _, _, h => absurd ((h y).mpr List.mem_cons_self) (by simp)
  | x :: a, [], _, _, h => absurd ((h x).mp List.mem_cons_self) (by simp)
  | x :: a, y :: b, ha, hb, h => by
    rw [List.pairwise_cons] at ha hb
    have hxy : x = y := by
      rcases List.mem_cons.mp ((h x).mp List.mem_cons_self) with e | e
      · exact e
      · rcases List.mem_cons.mp ((h y).mpr List.mem_cons_self) with e2 | e2
        · exact e2.symm
        · have := ha.1 y e2
          have := hb.1 x e
          omega
    subst hxy
    rw [sorted_ext ha.2 hb.2 fun z => ⟨fun hz => ?_, fun hz => ?_⟩]
    · rcases List.mem_cons.mp ((h z).mp (List.mem_cons_of_mem _ hz)) with e | e
      · have := ha.1 z hz
        omega
      · exact e
    · rcases List.mem_cons.mp ((h z).mpr (List.mem_cons_of_mem _ hz)) with e | e
      · have := hb.1 z hz
        omega
      · exact e
theorem tb_0 (t : Tb) (h : IH) : ixQ (tbI t) (.int 0) h = some (.int t.many, h) := ixQ_tup0
theorem tb_1 (t : Tb) (h : IH) : ixQ (tbI t) (.int 1) h = some (.tup (t.wished.map IV.int), h) := ixQ_tup1
theorem tb_2 (t : Tb) (h : IH) : ixQ (tbI t) (.int 2) h = some (.tup (t.conns.map cnI), h) := ixQ_tup2
theorem cn_0 (c : Str × Int × List Int) (h : IH) : ixQ (cnI c) (.int 0) h = some (.str c.1, h) := ixQ_tup0
theorem cn_1 (c : Str × Int × List Int) (h : IH) : ixQ (cnI c) (.int 1) h = some (.int c.2.1, h) := ixQ_tup1
theorem cn_2 (c : Str × Int × List Int) (h : IH) : ixQ (cnI c) (.int 2) h = some (.tup (c.2.2.map IV.int), h) := ixQ_tup2
theorem cn_at {t : Tb} {k : Nat} {c : Str × Int × List Int} (e : t.conns[k]? = some c) (h : IH) : ixQ (.tup (t.conns.map cnI)) (.int k) h = some (cnI c, h) := ixQ_tup (by rw [List.getElem?_map, e]; rfl)
theorem dats_ints (l : List Int) : dats (l.map IV.int) = some (l.map PyData.int) := dats_map (f := IV.int) (g := PyData.int) (fun c => by simp) l
theorem shp_ints (l : List Int) (k : Nat) : Shp (k + 1) (.list (l.map PyData.int)) := Shp.lst fun d hd => by
  obtain ⟨c, hc, rfl⟩ := List.mem_map.mp hd
  exact Shp.int _ _
theorem put_idx {h : IH} {n : Nat} {xs : List IV} {k : Int} {v : IV} (e : h[n]? = some (.lst xs)) (h0 : 0 ≤ k) (h1 : k < xs.length) : putL (.ref n) (.int k) v h = some (h.set n (.lst (xs.set k.toNat v))) :=
  put_at e (by unfold ixN; rw [if_pos h0, if_pos h1])
theorem ix_ints {cs : List Int} {k : Int} {h : IH} (h0 : 0 ≤ k) (h1 : k < cs.length) : ∃ c, ixQ (.tup (cs.map IV.int)) (.int k) h = some (.int c, h) ∧ c ∈ cs := by
  have hlt : k.toNat < cs.length := by omega
  refine ⟨cs[k.toNat], ?_, List.getElem_mem hlt⟩
  have := ixQ_tup (h := h) (k := k.toNat) (show (cs.map IV.int)[k.toNat]? = some (.int cs[k.toNat]) by rw [List.getElem?_map, List.getElem?_eq_getElem hlt]; rfl)
  rwa [Int.toNat_of_nonneg h0] at this
theorem rows_len9 {m : Int} (m0 : 1 ≤ m) (m1 : m ≤ 9) {pl : Int} (p1 : pl ≤ 2) : (rowsG m pl.toNat).length ≤ 100 := by
  rw [rowsG_len]
  have : pl.toNat = 0 ∨ pl.toNat = 1 ∨ pl.toNat = 2 := by omega
  have h3 : m.toNat ≤ 9 := by omega
  rcases this with e | e | e <;> rw [e]
  · simp
  · simp; omega
  · rw [Nat.pow_succ, Nat.pow_succ, Nat.pow_zero, Nat.one_mul]
    have := Nat.mul_le_mul h3 h3
    omega
theorem getD_mem {ps : List Int} {k : Int} (h0 : 0 ≤ k) (h1 : k < ps.length) : ps[k.toNat]? = some (ps.getD k.toNat 0) ∧ ps.getD k.toNat 0 ∈ ps := by
  have : k.toNat < ps.length := by omega
  rw [List.getD_eq_getElem?_getD, List.getElem?_eq_getElem this]
  exact ⟨rfl, List.getElem_mem this⟩
theorem idxO_ints {ps : List Int} {m : Int} {h : IH} (hm : m ∈ ps) : idxO (.tup (ps.map IV.int)) [.int m] h = some (.int ((ps.idxOf m : Nat) : Int), h) := by
  have e2 : (ps.map IV.int).all flatI = true := by simp [flatI]
  have e3 : (ps.map IV.int).findIdx? (fun z => eqI z (.int m)) = some (ps.idxOf m) := by
    rw [List.findIdx?_map]
    have hf : ((fun z => eqI z (.int m)) ∘ IV.int) = fun x => x == m := by
      funext x
      simp [Function.comp, eqI]
    rw [hf]
    rw [List.findIdx?_eq_some_iff_getElem]
    have hlt : ps.idxOf m < ps.length := List.idxOf_lt_length_of_mem hm
    refine ⟨hlt, by simp, fun j hj => ?_⟩
    have := List.not_of_lt_findIdx (p := fun x => x == m) (xs := ps) (i := j) hj
    simpa using this
  unfold idxO
  simp only [seqOf, e2, flatI, e3]
  simp
theorem ninO_ints (x : Int) (ws : List Int) (h : IH) : ninO (.int x) (.tup (ws.map IV.int)) h = some (.bl (!decide (x ∈ ws)), h) := by
  have e1 : inI (.int x) (ws.map IV.int) = decide (x ∈ ws) := by
    unfold inI
    rw [List.any_map]
    induction ws with
    | nil => simp
    | cons a l ih =>
      rw [List.any_cons, ih]
      simp only [Function.comp, eqI, List.mem_cons]
      by_cases hax : a = x
      · subst hax; simp
      · have : ¬ x = a := fun e => hax e.symm
        simp [hax, this]
  have e2 : (ws.map IV.int).all flatI = true := by simp [flatI]
  unfold ninO orO inQ
  simp only [seqOf, e2, e1, flatI]
  simp
theorem Gr.tl {h g h2 : IH} (d : Dr h.length (h ++ g) h2) : Gr h h2 := ⟨by have := d.len; rw [List.length_append] at this; omega, fun m hm => (d.at_ m (by rw [List.length_append]; omega) (by omega)).trans (List.getElem?_append_left hm)⟩
theorem Gr.dr2 {h h2 h3 : IH} (g : Gr h h2) {n : Nat} (hn : h.length ≤ n) (d : Dr n h2 h3) : Gr h h3 := ⟨Nat.le_trans g.len d.len, fun m hm => (d.at_ m (Nat.lt_of_lt_of_le hm g.len) (by omega)).trans (g.at_ m hm)⟩
def cnD (c : Str × Int × List Int) : PyData := .tuple [.str c.1, .int c.2.1, .tuple (c.2.2.map PyData.int)]
def tbD (t : Tb) : PyData := .tuple [.int t.many, .tuple (t.wished.map PyData.int), .tuple (t.conns.map cnD)]
theorem dat_cn (c : Str × Int × List Int) : dat (cnI c) = some (cnD c) := dat_tup (by simp [dats, dat_tup (dats_ints _)])
theorem dat_tb (t : Tb) : dat (tbI t) = some (tbD t) := dat_tup (by simp [dats, dat_tup (dats_ints _), dat_tup (dats_map (f := cnI) (g := cnD) dat_cn _)])
theorem shp_tb {t : Tb} (h : ∀ c ∈ t.conns, GS 40 c.1) : Shp 4 (tbD t) := by
  have hi : ∀ (l : List Int) (k : Nat), Shp (k + 1) (.tuple (l.map PyData.int)) := fun l k => Shp.tup fun d hd => by
    obtain ⟨c, hc, rfl⟩ := List.mem_map.mp hd
    exact Shp.int _ _
  refine Shp.tup fun d hd => ?_
  simp only [List.mem_cons, List.not_mem_nil, or_false] at hd
  rcases hd with e | e | e <;> subst e
  · exact Shp.int _ _
  · exact hi _ 2
  · refine Shp.tup fun d hd => ?_
    obtain ⟨c, hc, rfl⟩ := List.mem_map.mp hd
    refine Shp.tup fun d hd => ?_
    simp only [List.mem_cons, List.not_mem_nil, or_false] at hd
    rcases hd with e | e | e <;> subst e
    · exact Shp.str (h c hc).1 _
    · exact Shp.int _ _
    · exact hi _ 0
theorem neO_tb {t : Tb} (h : ∀ c ∈ t.conns, GS 40 c.1) (hh : IH) : neO (tbI t) (tbI t) hh = some (.bl false, hh) := by
  have := neO_tt (h := hh) (dat_tb t) (dat_tb t) (k := 4) (by omega) (shp_tb h) (shp_tb h)
  rw [eqv_refl _ (shp_tb h).1] at this
  exact this
theorem rngI_mem' {m x : Int} : x ∈ rngI m ↔ 0 ≤ x ∧ x < m := by
  refine ⟨rngI_mem, fun ⟨a, b⟩ => ?_⟩
  unfold rngI
  exact List.mem_map.mpr ⟨x.toNat, List.mem_range.mpr (by omega), by omega⟩
theorem rngI_pw (m : Int) : (rngI m).Pairwise (· < ·) := by
  unfold rngI
  rw [List.pairwise_map]
  exact List.pairwise_lt_range.imp fun h => by omega
theorem rngI_len (m : Int) : (rngI m).length = m.toNat := by simp [rngI]
theorem rngI_at {m : Int} {k : Nat} (h : (k : Int) < m) : (rngI m)[k]? = some (k : Int) := by
  unfold rngI
  rw [List.getElem?_map, List.getElem?_range (by omega)]
  rfl
theorem rngI_getD {m k : Int} (h0 : 0 ≤ k) (h1 : k < m) : (rngI m).getD k.toNat 0 = k := by
  rw [List.getD_eq_getElem?_getD, rngI_at (by omega)]
  simp
  omega
theorem getD_eq {α : Type} {l m : List α} {d : α} (hl : l.length = m.length) (h : ∀ k, k < l.length → l.getD k d = m.getD k d) : l = m := by
  refine List.ext_getElem hl fun k h1 h2 => ?_
  have := h k h1
  rwa [List.getD_eq_getElem?_getD, List.getD_eq_getElem?_getD, List.getElem?_eq_getElem h1, List.getElem?_eq_getElem h2] at this
theorem getD_map {l : List Int} {f : Int → Int} {k : Nat} (h : k < l.length) : (l.map f).getD k 0 = f (l.getD k 0) := by
  rw [List.getD_eq_getElem?_getD, List.getD_eq_getElem?_getD, List.getElem?_map, List.getElem?_eq_getElem h]
  rfl
theorem map_nd {l : List Int} {f : Int → Int} (n : l.Nodup) (h : ∀ x ∈ l, ∀ y ∈ l, f x = f y → x = y) : (l.map f).Nodup := by
  unfold List.Nodup at n ⊢
  rw [List.pairwise_map]
  exact n.imp_of_mem fun {a b} ha hb q e => q (h a ha b hb e)
theorem flat_get {α β : Type} (f : α → List β) (s : Nat) : ∀ (l : List α), (∀ a ∈ l, (f a).length = s) → ∀ i j, j < s → (l.flatMap f)[i * s + j]? = (l[i]?).bind fun a => (f a)[j]?
  | [], _, i, j, _ => by simp
  | a :: l, h, 0, j, hj => by
    have := h a List.mem_cons_self
    rw [List.flatMap_cons, Nat.zero_mul, Nat.zero_add, List.getElem?_append_left (by omega)]
    simp
  | a :: l, h, i + 1, j, hj => by
    have h1 := h a List.mem_cons_self
    have h2 := flat_get f s l (fun b hb => h b (List.mem_cons_of_mem _ hb)) i j hj
    rw [List.flatMap_cons, List.getElem?_append_right (by rw [h1, Nat.succ_mul]; omega), h1, show (i + 1) * s + j - s = i * s + j by rw [Nat.succ_mul]; omega, h2]
    simp
theorem rowsG_at {m : Int} (n i : Nat) (j : Nat) (hj : j < m.toNat) : (rowsG m (n + 1))[i * m.toNat + j]? = ((rowsG m n)[i]?).map fun r => r ++ [(j : Int)] := by
  rw [rowsG, flat_get _ m.toNat _ (fun a _ => by rw [List.length_map, rngI_len]) i j hj]
  cases (rowsG m n)[i]? with
  | none => rfl
  | some r => simp [rngI_at (m := m) (k := j) (by omega)]
theorem rowsG_get {m : Int} (m0 : 1 ≤ m) : ∀ (n : Nat) (r : List Int), RowOk m n r → (rowsG m n)[(idx m r).toNat]? = some r
  | 0, r, h => by
    have := List.eq_nil_of_length_eq_zero h.1
    subst this
    simp [idx, rowsG]
  | n + 1, r, h => by
    have hr : r ≠ [] := fun e => by rw [e] at h; exact absurd h.1 (by simp)
    obtain ⟨a, g, rfl⟩ : ∃ a g, r = a ++ [g] := ⟨r.dropLast, r.getLast hr, (List.dropLast_concat_getLast hr).symm⟩
    have ha : RowOk m n a := ⟨by have := h.1; simp at this; exact this, fun x hx => h.2 x (List.mem_append_left _ hx)⟩
    have hg := h.2 g (by simp)
    have i0 := (idx_lt m0 n a ha.1 ha.2).1
    have ih := rowsG_get m0 n a ha
    have e : (idx m (a ++ [g])).toNat = (idx m a).toNat * m.toNat + g.toNat := by
      rw [idx_app, Int.toNat_add (Int.mul_nonneg i0 (by omega)) hg.1, Int.toNat_mul i0 (by omega)]
    rw [e, rowsG_at n _ _ (by omega), ih]
    simp
    omega
theorem rowsG_nth {m : Int} (m0 : 1 ≤ m) : ∀ (n i : Nat), i < m.toNat ^ n → ∃ r, (rowsG m n)[i]? = some r ∧ (idx m r).toNat = i
  | 0, i, h => by
    have : i = 0 := by simpa using h
    subst this
    exact ⟨[], by simp [rowsG], by simp [idx]⟩
  | n + 1, i, h => by
    have hm : 0 < m.toNat := by omega
    have h1 : i / m.toNat < m.toNat ^ n := by rw [Nat.pow_succ] at h; exact Nat.div_lt_of_lt_mul (by rw [Nat.mul_comm]; exact h)
    obtain ⟨r, er, ei⟩ := rowsG_nth m0 n (i / m.toNat) h1
    have h2 := Nat.mod_lt i hm
    have h3 : i / m.toNat * m.toNat + i % m.toNat = i := by rw [Nat.mul_comm]; exact Nat.div_add_mod _ _
    have hro := rowsG_ok m n r (List.mem_of_getElem? er)
    have i0 := (idx_lt m0 n r hro.1 hro.2).1
    refine ⟨r ++ [((i % m.toNat : Nat) : Int)], ?_, ?_⟩
    · have := rowsG_at (m := m) n (i / m.toNat) (i % m.toNat) h2
      rw [h3, er] at this
      exact this
    · rw [idx_app, Int.toNat_add (Int.mul_nonneg i0 (by omega)) (by omega), Int.toNat_mul i0 (by omega), ei, Int.toNat_natCast, h3]
theorem cellAt_rows {m : Int} (m0 : 1 ≤ m) {n : Nat} (F : List Int → Int) {r : List Int} (hr : RowOk m n r) : cellAt m ((rowsG m n).map F) r = F r := by
  unfold cellAt
  rw [List.getD_eq_getElem?_getD, List.getElem?_map, rowsG_get m0 n r hr]
  rfl
theorem pow_toNat {m : Int} (m0 : 1 ≤ m) (n : Nat) : (m ^ n).toNat = m.toNat ^ n := by
  have : m = (m.toNat : Int) := by omega
  rw [this, ← Int.natCast_pow, Int.toNat_natCast, Int.toNat_natCast]
theorem cells_ext {m : Int} (m0 : 1 ≤ m) {n : Nat} {cs : List Int} (hl : cs.length = (m ^ n).toNat) : (rowsG m n).map (cellAt m cs) = cs := by
  rw [pow_toNat m0] at hl
  refine getD_eq (d := 0) (by rw [List.length_map, rowsG_len, hl]) fun k hk => ?_
  rw [List.length_map, rowsG_len] at hk
  obtain ⟨r, er, ei⟩ := rowsG_nth m0 n k hk
  rw [List.getD_eq_getElem?_getD, List.getElem?_map, er]
  show cs.getD (idx m r).toNat 0 = _
  rw [ei]
/-! parts by orders -/
/-! lines: letters, and connectives of lines ahead -/
abbrev Ln := Str ⊕ (Str × List Int)
def lnI : Ln → IV
  | .inl x => .str x
  | .inr p => .tup (.str p.1 :: p.2.map IV.int)
def LnOk (t : Tb) (L : List Str) (i : Nat) : Ln → Prop
  | .inl x => x ∈ L
  | .inr p => ∃ c ∈ t.conns, c.1 = p.1 ∧ p.2.length = c.2.1.toNat ∧ CellsOk i p.2
def LsOk (t : Tb) (L : List Str) (ls : List Ln) : Prop := ∀ i l, ls[i]? = some l → LnOk t L i l
def cellsF (t : Tb) (n : Str) : List Int := match t.conns.find? fun c => decide (c.1 = n) with
  | some c => c.2.2
  | none => []
def gradeF (t : Tb) (L : List Str) (row found : List Int) : Ln → Int
  | .inl x => row.getD (L.idxOf x) 0
  | .inr p => cellAt t.many (cellsF t p.1) (p.2.map fun k => found.getD k.toNat 0)
def gradesF (t : Tb) (L : List Str) (row : List Int) (ls : List Ln) : List Int := ls.foldl (fun found l => found ++ [gradeF t L row found l]) []
theorem gradesF_app (t : Tb) (L : List Str) (row : List Int) (ls : List Ln) (l : Ln) : gradesF t L row (ls ++ [l]) = gradesF t L row ls ++ [gradeF t L row (gradesF t L row ls) l] := by
  unfold gradesF
  rw [List.foldl_append]
  rfl
theorem gradesF_len (t : Tb) (L : List Str) (row : List Int) (ls : List Ln) : ∀ n, (gradesF t L row (ls.take n)).length = min n ls.length
  | 0 => by simp [gradesF]
  | n + 1 => by
    rw [List.take_add_one]
    cases e : ls[n]? with
    | none =>
      have := List.getElem?_eq_none_iff.mp e
      rw [Option.toList_none, List.append_nil, gradesF_len t L row ls n]
      omega
    | some l =>
      have := (List.getElem?_eq_some_iff.mp e).1
      rw [Option.toList_some, gradesF_app, List.length_append, gradesF_len t L row ls n]
      simp
      omega
theorem find_nd {cs : List (Str × Int × List Int)} (n : (cs.map (·.1)).Nodup) {c : Str × Int × List Int} (h : c ∈ cs) : cs.find? (fun d => decide (d.1 = c.1)) = some c := by
  induction cs with
  | nil => cases h
  | cons a l ih =>
    rw [List.map_cons, List.nodup_cons] at n
    rw [List.find?_cons]
    rcases List.mem_cons.mp h with e | e
    · subst e; simp
    · have : a.1 ≠ c.1 := fun q => n.1 (q ▸ List.mem_map.mpr ⟨c, e, rfl⟩)
      rw [decide_eq_false this]
      exact ih n.2 e
theorem cellsF_eq {t : Tb} (n : (t.conns.map (·.1)).Nodup) {c : Str × Int × List Int} (h : c ∈ t.conns) : cellsF t c.1 = c.2.2 := by
  unfold cellsF
  rw [find_nd n h]
theorem row_found {m : Int} {found ks : List Int} {n : Nat} (hf : CellsOk m found) (hk : CellsOk found.length ks) (hl : ks.length = n) : RowOk m n (ks.map fun k => found.getD k.toNat 0) := by
  refine ⟨by simpa using hl, fun g hg => ?_⟩
  obtain ⟨k, hk', rfl⟩ := List.mem_map.mp hg
  obtain ⟨a, b⟩ := hk k hk'
  have : k.toNat < found.length := by omega
  rw [List.getD_eq_getElem?_getD, List.getElem?_eq_getElem this]
  exact hf _ (List.getElem_mem this)
theorem row_letter {m : Int} {L : List Str} {row : List Int} (hr : RowOk m L.length row) {x : Str} (hx : x ∈ L) : row[L.idxOf x]? = some (row.getD (L.idxOf x) 0) ∧ 0 ≤ row.getD (L.idxOf x) 0 ∧ row.getD (L.idxOf x) 0 < m := by
  have : L.idxOf x < row.length := by rw [hr.1]; exact List.idxOf_lt_length_of_mem hx
  rw [List.getD_eq_getElem?_getD, List.getElem?_eq_getElem this]
  exact ⟨rfl, hr.2 _ (List.getElem_mem this)⟩
theorem gradesF_ok {t : Tb} {b : Int} (ht : TbOk b t) (nd : (t.conns.map (·.1)).Nodup) {L : List Str} {ls : List Ln} (lo : LsOk t L ls) {row : List Int} (hr : RowOk t.many L.length row) : ∀ n, CellsOk t.many (gradesF t L row (ls.take n))
  | 0 => by simp [gradesF, CellsOk]
  | n + 1 => by
    have ih := gradesF_ok ht nd lo hr n
    have il := gradesF_len t L row ls n
    rw [List.take_add_one]
    cases e : ls[n]? with
    | none => rw [Option.toList_none, List.append_nil]; exact ih
    | some l =>
      have hn := (List.getElem?_eq_some_iff.mp e).1
      rw [Option.toList_some, gradesF_app]
      intro z hz
      rcases List.mem_append.mp hz with q | q
      · exact ih z q
      · rw [List.mem_singleton.mp q]
        have lok := lo n l e
        cases l with
        | inl x => exact (row_letter hr lok).2
        | inr p =>
          obtain ⟨c, hc, ec, lk, ck⟩ := lok
          have e : gradeF t L row (gradesF t L row (ls.take n)) (.inr p) = cellAt t.many (cellsF t p.1) (p.2.map fun k => (gradesF t L row (ls.take n)).getD k.toNat 0) := rfl
          rw [e, ← ec, cellsF_eq nd hc]
          have cok := ht.cok c hc
          exact cok.cells _ (cellAt_mem ht.m0 cok.len (row_found ih (by rw [il, Nat.min_eq_left (by omega)]; exact ck) lk))
def shL (t : Tb) : List (Str × Int) := t.conns.map fun c => (c.1, c.2.1)
theorem shL_at {t u : Tb} (e : shL t = shL u) {k : Nat} {c d : Str × Int × List Int} (ec : t.conns[k]? = some c) (ed : u.conns[k]? = some d) : c.1 = d.1 ∧ c.2.1 = d.2.1 := by
  have : (shL t)[k]? = (shL u)[k]? := by rw [e]
  unfold shL at this
  rw [List.getElem?_map, List.getElem?_map, ec, ed] at this
  simp at this
  exact this
theorem shL_len {t u : Tb} (e : shL t = shL u) : t.conns.length = u.conns.length := by
  have := congrArg List.length e
  simpa [shL] using this
theorem shL_names {t u : Tb} (e : shL t = shL u) : t.conns.map (·.1) = u.conns.map (·.1) := by
  have := congrArg (List.map (·.1)) e
  simpa [shL, Function.comp_def] using this
theorem LsOk.sh {t u : Tb} (e : shL t = shL u) {L : List Str} {ls : List Ln} (lo : LsOk t L ls) : LsOk u L ls := by
  intro i l hl
  have := lo i l hl
  cases l with
  | inl x => exact this
  | inr p =>
    obtain ⟨c, hc, ec, lk, ck⟩ := this
    obtain ⟨k, hk⟩ := List.getElem?_of_mem hc
    have hlt := (List.getElem?_eq_some_iff.mp hk).1
    have hlu : k < u.conns.length := by rw [← shL_len e]; exact hlt
    have hd : u.conns[k]? = some u.conns[k] := List.getElem?_eq_getElem hlu
    obtain ⟨q1, q2⟩ := shL_at e hk hd
    exact ⟨_, List.mem_of_getElem? hd, by rw [← q1, ec], by rw [← q2, lk], ck⟩
/-- a map of grades that connectives keep is kept by lines -/
theorem gradesF_hom {a b : Tb} {k1 : Int} (ha : TbOk k1 a) (e : shL a = shL b) (nd : (a.conns.map (·.1)).Nodup) (f : Int → Int)
    (hf : ∀ (k : Nat) (c d : Str × Int × List Int), a.conns[k]? = some c → b.conns[k]? = some d → ∀ r, RowOk a.many c.2.1.toNat r → f (cellAt a.many c.2.2 r) = cellAt b.many d.2.2 (r.map f))
    {L : List Str} {ls : List Ln} (lo : LsOk a L ls) {row : List Int} (hr : RowOk a.many L.length row) : ∀ n, gradesF b L (row.map f) (ls.take n) = (gradesF a L row (ls.take n)).map f
  | 0 => by simp [gradesF]
  | n + 1 => by
    have ih := gradesF_hom ha e nd f hf lo hr n
    have il := gradesF_len a L row ls n
    have ok := gradesF_ok ha nd lo hr n
    rw [List.take_add_one]
    cases el : ls[n]? with
    | none => rw [Option.toList_none, List.append_nil]; exact ih
    | some l =>
      have hn := (List.getElem?_eq_some_iff.mp el).1
      rw [Option.toList_some, gradesF_app, gradesF_app, ih, List.map_append]
      refine congrArg (fun z => (gradesF a L row (ls.take n)).map f ++ [z]) ?_
      have lok := lo n l el
      cases l with
      | inl x =>
        have h1 := (row_letter hr lok).1
        show (row.map f).getD _ 0 = f (row.getD _ 0)
        rw [List.getD_eq_getElem?_getD (l := row.map f), List.getElem?_map, h1]
        rfl
      | inr p =>
        obtain ⟨c, hc, ec, lk, ck⟩ := lok
        obtain ⟨k, hk⟩ := List.getElem?_of_mem hc
        have hlt := (List.getElem?_eq_some_iff.mp hk).1
        have hlu : k < b.conns.length := by rw [← shL_len e]; exact hlt
        have hd : b.conns[k]? = some b.conns[k] := List.getElem?_eq_getElem hlu
        obtain ⟨q1, q2⟩ := shL_at e hk hd
        have nb : (b.conns.map (·.1)).Nodup := by rw [← shL_names e]; exact nd
        show cellAt b.many (cellsF b p.1) _ = f (cellAt a.many (cellsF a p.1) _)
        rw [← ec, cellsF_eq nd hc, q1, cellsF_eq nb (List.mem_of_getElem? hd)]
        have ck' : CellsOk (gradesF a L row (ls.take n)).length p.2 := by rw [il, Nat.min_eq_left (by omega)]; exact ck
        rw [hf k c _ hk hd _ (row_found ok ck' lk), List.map_map]
        refine congrArg (cellAt b.many _) (List.map_congr_left fun z hz => ?_)
        obtain ⟨z0, z1⟩ := ck' z hz
        have hz : z.toNat < (gradesF a L row (ls.take n)).length := by omega
        simp [List.getD_eq_getElem?_getD, List.getElem?_eq_getElem hz]
/-! the law's gradings -/
def zipD (L : List Str) (row : List Int) : List (Key × IV) := (L.zip row).map fun p => (Sum.inr p.1, .int p.2)
def Dcs (h : IH) (L : List Str) : List Nat → List (List Int) → Prop
  | [], [] => True
  | q :: qs, r :: rs => h[q]? = some (.dK (zipD L r)) ∧ Dcs h L qs rs
  | _, _ => False
theorem Dcs.app {h : IH} {L : List Str} : ∀ {a : List Nat} {b : List (List Int)} {c : List Nat} {d : List (List Int)}, Dcs h L a b → Dcs h L c d → Dcs h L (a ++ c) (b ++ d)
  | [], [], _, _, _, y => y
  | _ :: _, _ :: _, _, _, x, y => ⟨x.1, Dcs.app x.2 y⟩
  | [], _ :: _, _, _, x, _ => x.elim
  | _ :: _, [], _, _, x, _ => x.elim
theorem Dcs.len {h : IH} {L : List Str} : ∀ {a : List Nat} {b : List (List Int)}, Dcs h L a b → a.length = b.length
  | [], [], _ => rfl
  | _ :: _, _ :: _, x => congrArg (· + 1) (Dcs.len x.2)
  | [], _ :: _, x => x.elim
  | _ :: _, [], x => x.elim
theorem Dcs.get {h : IH} {L : List Str} : ∀ {a : List Nat} {b : List (List Int)} {i : Nat} {q : Nat}, Dcs h L a b → a[i]? = some q → ∃ r, b[i]? = some r ∧ h[q]? = some (.dK (zipD L r))
  | [], _, _, _, _, e => by simp at e
  | _ :: _, _ :: _, 0, _, x, e => by simp at e; subst e; exact ⟨_, rfl, x.1⟩
  | _ :: _, _ :: _, i + 1, q, x, e => by
    obtain ⟨r, e1, e2⟩ := Dcs.get (i := i) x.2 (by simpa using e)
    exact ⟨r, by simpa using e1, e2⟩
  | _ :: _, [], _, _, x, _ => x.elim
theorem Dcs.dr {h h' : IH} {L : List Str} {n : Nat} {xs : List IV} (d : Dr n h h') (e : h[n]? = some (.lst xs)) : ∀ {a : List Nat} {b : List (List Int)}, Dcs h L a b → Dcs h' L a b
  | [], [], x => x
  | q :: _, _ :: _, x => ⟨d.get x.1 (fun z => by subst z; rw [x.1] at e; cases e), Dcs.dr d e x.2⟩
  | [], _ :: _, x => x.elim
  | _ :: _, [], x => x.elim
theorem Dcs.gr {h h' : IH} {L : List Str} (d : Gr h h') : ∀ {a : List Nat} {b : List (List Int)}, Dcs h L a b → Dcs h' L a b
  | [], [], x => x
  | _ :: _, _ :: _, x => ⟨d.get x.1, Dcs.gr d x.2⟩
  | [], _ :: _, x => x.elim
  | _ :: _, [], x => x.elim
theorem zip_put {L : List Str} {i : Nat} {x : Str} {row : List Int} (nd : L.Nodup) (ex : L[i]? = some x) (hr : row.length = i) (g : Int) : putI (zipD (L.take i) row) (.inr x) (.int g) = zipD (L.take (i + 1)) (row ++ [g]) := by
  have hi := (List.getElem?_eq_some_iff.mp ex).1
  have hx : x ∉ L.take i := by
    intro hm
    obtain ⟨j, hj⟩ := List.getElem?_of_mem hm
    have hji := (List.getElem?_eq_some_iff.mp hj).1
    rw [List.length_take] at hji
    rw [List.getElem?_take_of_lt (by omega)] at hj
    obtain ⟨a1, a2⟩ := List.getElem?_eq_some_iff.mp hj
    obtain ⟨b1, b2⟩ := List.getElem?_eq_some_iff.mp ex
    have := (List.getElem_inj nd).mp (a2.trans b2.symm)
    omega
  unfold putI
  have hn : ((zipD (L.take i) row).any fun kv => decide (kv.1 = Sum.inr x)) = false := by
    rw [List.any_eq_false]
    intro p hp
    unfold zipD at hp
    obtain ⟨⟨a, b⟩, hab, rfl⟩ := List.mem_map.mp hp
    have := (List.of_mem_zip hab).1
    simp only [decide_eq_true_eq]
    intro q
    cases q
    exact hx this
  rw [hn, if_neg (by simp), List.take_add_one, ex]
  unfold zipD
  rw [Option.toList_some, List.zip_append (by rw [List.length_take, hr]; omega)]
  simp
theorem zip_val {L : List Str} {row : List Int} {x : Str} : ∀ (_ : x ∈ L) (_ : row.length = L.length), valI (zipD L row) (.inr x) = some (.int (row.getD (L.idxOf x) 0)) := by
  induction L generalizing row with
  | nil => intro h; cases h
  | cons a l ih =>
    intro hx hl
    cases row with
    | nil => cases hl
    | cons g row =>
      unfold zipD valI
      rw [List.zip_cons_cons, List.map_cons, List.find?_cons]
      by_cases hax : a = x
      · subst hax
        simp
      · have h1 : decide ((Sum.inr a : Key) = Sum.inr x) = false := decide_eq_false fun q => hax (by cases q; rfl)
        simp only [h1]
        have := ih (row := row) ((List.mem_cons.mp hx).resolve_left fun q => hax q.symm) (by simpa using hl)
        unfold zipD valI at this
        rw [this, List.idxOf_cons]
        have h2 : (a == x) = false := by simpa using hax
        rw [h2]
        simp
theorem rowsG_pow {m : Int} {n : Nat} (m1 : m ≤ 9) (hn : n ≤ 3) : (rowsG m n).length ≤ 1000 := by
  rw [rowsG_len]
  have h3 : m.toNat ≤ 9 := by omega
  have : n = 0 ∨ n = 1 ∨ n = 2 ∨ n = 3 := by omega
  rcases this with e | e | e | e <;> rw [e]
  · simp
  · simp; omega
  · have := Nat.mul_le_mul h3 h3
    simp [Nat.pow_succ]; omega
  · have h1 := Nat.mul_le_mul h3 h3
    have h2 := Nat.mul_le_mul h1 h3
    simp [Nat.pow_succ]; omega
theorem rowsG_take {m : Int} {n j : Nat} {row : List Int} (e : (rowsG m n)[j]? = some row) : ((rowsG m n).take (j + 1)).flatMap (fun r => (rngI m).map fun g => r ++ [g]) = ((rowsG m n).take j).flatMap (fun r => (rngI m).map fun g => r ++ [g]) ++ (rngI m).map fun g => row ++ [g] := by
  rw [List.take_add_one, e, Option.toList_some, List.flatMap_append]
  simp
theorem putI_new {kvs : List (Key × IV)} {k : Key} {v : IV} (h : k ∉ kvs.map (·.1)) : putI kvs k v = kvs ++ [(k, v)] := by
  unfold putI
  rw [if_neg]
  rw [Bool.not_eq_true, List.any_eq_false]
  intro p hp q
  exact h (List.mem_map.mpr ⟨p, hp, of_decide_eq_true q⟩)
theorem mergeI_nd : ∀ (b a : List (Key × IV)), ((a ++ b).map (·.1)).Nodup → mergeI a b = a ++ b
  | [], a, _ => by simp [mergeI]
  | p :: b, a, n => by
    have h1 : p.1 ∉ a.map (·.1) := by
      rw [List.map_append, List.nodup_append] at n
      intro hm
      exact n.2.2 p.1 hm p.1 (by simp) rfl
    have := mergeI_nd b (a ++ [p]) (by simpa using n)
    unfold mergeI at this ⊢
    rw [List.foldl_cons, putI_new h1, this]
    simp
theorem comp_itH {α : Type} {xs : List α} (enc F : α → IV) {it : IIt} {g : MG} {env : Env} {b : Env → M IV} {h : IH} {Q : IV → IH → Prop} (hn : xs.length < 16777216) (hit : ∀ i h', Gr h h' → it.nxt i h' = some ((xs.map enc)[i]?))
    (hb : ∀ a h', a ∈ xs → Gr h h' → ∃ e1, g (enc a) env h' = some e1 ∧ WE (b e1 h') fun y h2 => y = F a ∧ h2 = h') (hQ : Q (.ref h.length) (h ++ [.lst (xs.map F)])) :
    WE (compLoop it g cYes b env h.length FU 0 (h ++ [.lst []])) Q := by
  refine WE_comp xs.length (fun k h' => h' = h ++ [.lst ((xs.take k).map F)]) ?_ ?_ FU 0 _ (Nat.zero_le _) (by simp) (FU_lt64 (by omega))
  · rintro k h' hk rfl
    have hx : xs[k]? = some xs[k] := List.getElem?_eq_getElem hk
    obtain ⟨e1, eg, q⟩ := hb xs[k] _ (List.getElem_mem hk) (Gr.app h [.lst ((xs.take k).map F)])
    refine ⟨enc xs[k], by rw [hit k _ (Gr.app _ _), List.getElem?_map, hx]; rfl, e1, eg, ?_⟩
    simp only [WE_cYes, if_pos]
    refine q.mono fun y h2 ⟨ey, eh⟩ => ?_
    subst ey eh
    refine ⟨(xs.take k).map F, by simp, by simp; omega, ?_⟩
    rw [List.set_append_right _ _ (Nat.le_refl _), Nat.sub_self, show xs.take (k + 1) = xs.take k ++ [xs[k]] by rw [List.take_add_one, hx]; rfl]
    simp only [List.set_cons_zero, List.map_append, List.map_cons, List.map_nil]
  · rintro h' rfl
    refine ⟨by rw [hit _ _ (Gr.app _ _)]; simp, ?_⟩
    rw [List.take_length]
    exact hQ
def AllB {α : Type} (l : List α) (f : α → Bool) : Prop := l.all f = true
theorem ixG {gs : List Int} {n : Nat} {k : Int} {h : IH} (e : h[n]? = some (.lst (gs.map IV.int))) (h0 : 0 ≤ k) (h1 : k < gs.length) : ixQ (.ref n) (.int k) h = some (.int (gs.getD k.toNat 0), h) := by
  have hk : k.toNat < gs.length := by omega
  have := ixQ_ref (h := h) (k := k.toNat) (v := .int (gs.getD k.toNat 0)) e (by rw [List.getElem?_map, List.getD_eq_getElem?_getD, List.getElem?_eq_getElem hk]; rfl)
  rwa [Int.toNat_of_nonneg h0] at this
theorem comp_filtG {n i : Nat} {env : Env} {c : Env → M Bool} {b : Env → M IV} {h : IH} {Q : IV → IH → Prop} (P : Int → Bool) (hn : n < 16777216)
    (hc : ∀ (k : Nat) h', k < n → Gr h h' → WE (c (env.set i (some (.int k))) h') fun t h1 => t = P k ∧ h1 = h')
    (hb : ∀ (k : Nat) h', k < n → Gr h h' → WE (b (env.set i (some (.int k))) h') fun y h2 => y = .int k ∧ h2 = h') (hQ : Q (.ref h.length) (h ++ [.lst ((((List.range n).map fun k => ((k : Nat) : Int)).filter P).map IV.int)])) :
    WE (compLoop (rngIt 0 n) (gN i) c b env h.length FU 0 (h ++ [.lst []])) Q := by
  refine WE_comp n (fun k h' => h' = h ++ [.lst ((((List.range k).map fun k => ((k : Nat) : Int)).filter P).map IV.int)]) ?_ ?_ FU 0 _ (Nat.zero_le _) (by simp) (FU_lt64 (by omega))
  · rintro k h' hk rfl
    refine ⟨.int (k : Nat), by unfold rngIt; simp [hk], _, rfl, ?_⟩
    refine (hc k _ hk (Gr.app _ _)).mono fun t h1 ⟨et, eh⟩ => ?_
    subst eh
    have er : (((List.range (k + 1)).map fun k => ((k : Nat) : Int)).filter P).map IV.int = (((List.range k).map fun k => ((k : Nat) : Int)).filter P).map IV.int ++ (if P k = true then [.int k] else []) := by
      rw [List.range_succ, List.map_append, List.filter_append, List.map_append]
      congr 1
      cases hP : P (k : Nat) <;> simp [hP]
    cases t with
    | false => 
      rw [er, ← et]
      simp
    | true =>
      rw [if_pos rfl]
      refine (hb k _ hk (Gr.app _ _)).mono fun y h2 ⟨ey, eh⟩ => ?_
      subst ey eh
      refine ⟨_, by simp; rfl, ?_, ?_⟩
      · rw [List.length_map]
        refine Nat.lt_of_le_of_lt (List.length_filter_le _ _) ?_
        simp
        omega
      · rw [er, ← et, List.set_append_right _ _ (Nat.le_refl _), Nat.sub_self]
        simp
  · rintro h' rfl
    exact ⟨by unfold rngIt; simp, hQ⟩
/-! numbers of alike things, by their first ones -/
section canon
variable {β : Type} [DecidableEq β]
def ddpA (acc l : List β) : List β := l.foldl (fun k b => if b ∈ k then k else k ++ [b]) acc
def ddp (l : List β) : List β := ddpA [] l
def canon (l : List β) : List Int := l.map fun b => (((ddp l).idxOf b : Nat) : Int)
theorem ddpA_cons (acc : List β) (b : β) (l : List β) : ddpA acc (b :: l) = ddpA (if b ∈ acc then acc else acc ++ [b]) l := rfl
theorem ddpA_app (acc l m : List β) : ddpA acc (l ++ m) = ddpA (ddpA acc l) m := by unfold ddpA; rw [List.foldl_append]
theorem ddpA_mem (x : β) : ∀ (l acc : List β), x ∈ ddpA acc l ↔ x ∈ acc ∨ x ∈ l
  | [], acc => by simp [ddpA]
  | b :: l, acc => by
    rw [ddpA_cons, ddpA_mem x l]
    split
    · rename_i h
      rw [List.mem_cons]
      constructor
      · rintro (q | q)
        · exact .inl q
        · exact .inr (.inr q)
      · rintro (q | q | q)
        · exact .inl q
        · subst q; exact .inl h
        · exact .inr q
    · rw [List.mem_append, List.mem_singleton, List.mem_cons, or_assoc]
theorem ddp_mem {x : β} {l : List β} : x ∈ ddp l ↔ x ∈ l := by unfold ddp; rw [ddpA_mem]; simp
theorem ddpA_nd : ∀ (l acc : List β), acc.Nodup → (ddpA acc l).Nodup
  | [], acc, h => h
  | b :: l, acc, h => by
    rw [ddpA_cons]
    refine ddpA_nd l _ ?_
    split
    · exact h
    · rename_i hb
      rw [List.nodup_append]
      refine ⟨h, by simp, fun a ha c hc => ?_⟩
      rw [List.mem_singleton] at hc
      subst hc
      exact fun q => hb (q ▸ ha)
theorem ddp_nd (l : List β) : (ddp l).Nodup := ddpA_nd l [] (by simp)
theorem ddp_snoc (l : List β) (b : β) : ddp (l ++ [b]) = if b ∈ ddp l then ddp l else ddp l ++ [b] := by
  unfold ddp
  rw [ddpA_app]
  rfl
theorem canon_len (l : List β) : (canon l).length = l.length := by simp [canon]
theorem canon_get {l : List β} {i : Nat} {b : β} (e : l[i]? = some b) : (canon l)[i]? = some (((ddp l).idxOf b : Nat) : Int) := by
  unfold canon
  rw [List.getElem?_map, e]
  rfl
theorem idx_inj {l : List β} {a b : β} (ha : a ∈ l) (hb : b ∈ l) (e : l.idxOf a = l.idxOf b) : a = b := by
  have h1 := List.getElem_idxOf (List.idxOf_lt_length_of_mem ha)
  have h2 := List.getElem_idxOf (List.idxOf_lt_length_of_mem hb)
  have h3 : l[l.idxOf a]? = l[l.idxOf b]? := by rw [e]
  rw [List.getElem?_eq_getElem (List.idxOf_lt_length_of_mem ha), List.getElem?_eq_getElem (List.idxOf_lt_length_of_mem hb), h1, h2] at h3
  exact Option.some.inj h3
theorem canon_eq {l : List β} {i j : Nat} {a b : β} (ea : l[i]? = some a) (eb : l[j]? = some b) : (canon l)[i]? = (canon l)[j]? ↔ a = b := by
  rw [canon_get ea, canon_get eb]
  constructor
  · intro h
    have : (ddp l).idxOf a = (ddp l).idxOf b := by
      have := Option.some.inj h
      omega
    exact idx_inj (ddp_mem.mpr (List.mem_of_getElem? ea)) (ddp_mem.mpr (List.mem_of_getElem? eb)) this
  · intro h; rw [h]
variable {γ : Type} [DecidableEq γ]
theorem ddpA_map (f : β → γ) : ∀ (l acc : List β), (∀ a, a ∈ acc ∨ a ∈ l → ∀ b, b ∈ acc ∨ b ∈ l → f a = f b → a = b) → ddpA (acc.map f) (l.map f) = (ddpA acc l).map f
  | [], acc, _ => rfl
  | b :: l, acc, h => by
    rw [List.map_cons, ddpA_cons, ddpA_cons]
    have hm : f b ∈ acc.map f ↔ b ∈ acc := by
      rw [List.mem_map]
      constructor
      · rintro ⟨a, ha, e⟩
        have := h a (.inl ha) b (.inr List.mem_cons_self) e
        subst this
        exact ha
      · intro hb; exact ⟨b, hb, rfl⟩
    by_cases hb : b ∈ acc
    · rw [if_pos (hm.mpr hb), if_pos hb]
      exact ddpA_map f l acc fun a ha c hc => h a (ha.imp id (List.mem_cons_of_mem _)) c (hc.imp id (List.mem_cons_of_mem _))
    · rw [if_neg (fun q => hb (hm.mp q)), if_neg hb]
      have := ddpA_map f l (acc ++ [b]) fun a ha c hc => h a (by
        rcases ha with q | q
        · rcases List.mem_append.mp q with q | q
          · exact .inl q
          · rw [List.mem_singleton.mp q]; exact .inr List.mem_cons_self
        · exact .inr (List.mem_cons_of_mem _ q)) c (by
        rcases hc with q | q
        · rcases List.mem_append.mp q with q | q
          · exact .inl q
          · rw [List.mem_singleton.mp q]; exact .inr List.mem_cons_self
        · exact .inr (List.mem_cons_of_mem _ q))
      rw [List.map_append] at this
      exact this
theorem idx_map (f : β → γ) (x : β) : ∀ (d : List β), (∀ a ∈ d, f a = f x → a = x) → (d.map f).idxOf (f x) = d.idxOf x
  | [], _ => rfl
  | a :: d, h => by
    rw [List.map_cons, List.idxOf_cons, List.idxOf_cons]
    have : (f a == f x) = (a == x) := by
      by_cases q : a = x
      · subst q; simp
      · have : f a ≠ f x := fun z => q (h a List.mem_cons_self z)
        rw [beq_eq_false_iff_ne.mpr this, beq_eq_false_iff_ne.mpr q]
    rw [this, idx_map f x d fun b hb => h b (List.mem_cons_of_mem _ hb)]
theorem canon_map (f : β → γ) (l : List β) (h : ∀ a ∈ l, ∀ b ∈ l, f a = f b → a = b) : canon (l.map f) = canon l := by
  have e : ddp (l.map f) = (ddp l).map f := by
    have := ddpA_map f l [] (fun a ha b hb => h a (by simpa using ha) b (by simpa using hb))
    exact this
  unfold canon
  rw [List.map_map]
  refine List.map_congr_left fun b hb => ?_
  simp only [Function.comp]
  rw [e, idx_map f b (ddp l) fun a ha => h a (ddp_mem.mp ha) b hb]
theorem canon_idem (l : List β) : canon (canon l) = canon l := by
  show canon (l.map fun b => (((ddp l).idxOf b : Nat) : Int)) = _
  refine canon_map _ l fun a ha b hb e => ?_
  have : (ddp l).idxOf a = (ddp l).idxOf b := by omega
  exact idx_inj (ddp_mem.mpr ha) (ddp_mem.mpr hb) this
theorem canon_part {S : List γ} {l : List β} (hl : S.length = l.length) (h : ∀ (i j : Nat) (a b : γ) (x y : β), S[i]? = some a → S[j]? = some b → l[i]? = some x → l[j]? = some y → (a = b ↔ x = y)) : canon S = canon l := by
  cases l with
  | nil =>
    have : S = [] := List.eq_nil_of_length_eq_zero (by simpa using hl)
    subst this
    rfl
  | cons b0 r =>
    have hp : 0 < S.length := by rw [hl]; simp
    have key : S = (b0 :: r).map fun x => S.getD ((b0 :: r).idxOf x) S[0] := by
      refine List.ext_getElem (by rw [List.length_map, hl]) fun i h1 h2 => ?_
      have hi : i < (b0 :: r).length := by rw [← hl]; exact h1
      rw [List.getElem_map]
      have hm := List.getElem_mem hi
      have hj := List.idxOf_lt_length_of_mem hm
      have hj2 : (b0 :: r).idxOf (b0 :: r)[i] < S.length := by rw [hl]; exact hj
      rw [List.getD_eq_getElem?_getD, List.getElem?_eq_getElem hj2]
      have := (h i ((b0 :: r).idxOf (b0 :: r)[i]) _ _ _ _ (List.getElem?_eq_getElem h1) (List.getElem?_eq_getElem hj2) (List.getElem?_eq_getElem hi) (List.getElem?_eq_getElem hj)).mpr (List.getElem_idxOf hj).symm
      exact this
    rw [key]
    refine canon_map _ _ fun a ha b hb e => ?_
    have hja := List.idxOf_lt_length_of_mem ha
    have hjb := List.idxOf_lt_length_of_mem hb
    have hja2 : (b0 :: r).idxOf a < S.length := by rw [hl]; exact hja
    have hjb2 : (b0 :: r).idxOf b < S.length := by rw [hl]; exact hjb
    rw [List.getD_eq_getElem?_getD, List.getElem?_eq_getElem hja2, List.getD_eq_getElem?_getD, List.getElem?_eq_getElem hjb2] at e
    have := (h _ _ _ _ _ _ (List.getElem?_eq_getElem hja2) (List.getElem?_eq_getElem hjb2) (List.getElem?_eq_getElem hja) (List.getElem?_eq_getElem hjb)).mp (by simpa using e)
    rwa [List.getElem_idxOf hja, List.getElem_idxOf hjb] at this
theorem canon_lt {l : List β} {v : Int} (h : v ∈ canon l) : 0 ≤ v ∧ v < (ddp l).length := by
  unfold canon at h
  obtain ⟨b, hb, rfl⟩ := List.mem_map.mp h
  have := List.idxOf_lt_length_of_mem (ddp_mem.mpr hb)
  omega
theorem canon_onto {l : List β} {k : Nat} (h : k < (ddp l).length) : (k : Int) ∈ canon l := by
  unfold canon
  refine List.mem_map.mpr ⟨(ddp l)[k], ddp_mem.mp (List.getElem_mem h), ?_⟩
  rw [(ddp_nd l).idxOf_getElem k h]
end canon
/-- a count of what fits -/
theorem cnt_eq {α : Type} {P Q : α → Bool} : ∀ {l : List α}, (∀ x ∈ l, P x = true → Q x = true) → l.countP P ≤ l.countP Q ∧ (l.countP P = l.countP Q → ∀ x ∈ l, Q x = true → P x = true)
  | [], _ => ⟨Nat.le_refl _, fun _ x hx => absurd hx (by simp)⟩
  | a :: l, h => by
    obtain ⟨h1, h2⟩ := cnt_eq (l := l) fun x hx => h x (List.mem_cons_of_mem _ hx)
    have ha := h a List.mem_cons_self
    rw [List.countP_cons, List.countP_cons]
    cases hp : P a <;> cases hq : Q a
    · simp
      refine ⟨h1, fun e => ⟨?_, h2 e⟩⟩
      intro z; rw [hq] at z; cases z
    · simp
      exact ⟨by omega, fun e => by omega⟩
    · rw [hp, hq] at ha; exact absurd (ha rfl) (by simp)
    · simp [hp]
      exact ⟨h1, h2⟩
def prs (m : Nat) : List (Nat × Nat) := (List.range m).flatMap fun a => (List.range m).map fun b => (a, b)
theorem prs_mem {m a b : Nat} : (a, b) ∈ prs m ↔ a < m ∧ b < m := by
  unfold prs
  rw [List.mem_flatMap]
  constructor
  · rintro ⟨x, hx, h⟩
    obtain ⟨y, hy, e⟩ := List.mem_map.mp h
    cases e
    exact ⟨List.mem_range.mp hx, List.mem_range.mp hy⟩
  · rintro ⟨h1, h2⟩
    exact ⟨a, List.mem_range.mpr h1, List.mem_map.mpr ⟨b, List.mem_range.mpr h2, rfl⟩⟩
def mu (m : Nat) (l : List Int) : Nat := (prs m).countP fun p => decide (l.getD p.1 0 = l.getD p.2 0)
/-! steps of a table -/
abbrev St := Str × Int × Option Int
def oI : Option Int → IV
  | none => .non
  | some g => .int g
def stI (s : St) : IV := .tup [.str s.1, .int s.2.1, oI s.2.2]
def stC (m : Int) (c : Str × Int × List Int) : List St := if c.2.1 = 1 then [(c.1, 0, none)] else if c.2.1 = 2 then (rngI m).flatMap fun o => [(c.1, 0, some o), (c.1, 1, some o)] else []
def stepsF (t : Tb) : List St := t.conns.flatMap (stC t.many)
def StOk (t : Tb) (s : St) : Prop := ∃ c ∈ t.conns, c.1 = s.1 ∧ match s.2.2 with
  | none => c.2.1 = 1
  | some g => c.2.1 = 2 ∧ 0 ≤ g ∧ g < t.many ∧ (s.2.1 = 0 ∨ s.2.1 = 1)
theorem stepsF_ok {t : Tb} {s : St} (h : s ∈ stepsF t) : StOk t s := by
  unfold stepsF at h
  obtain ⟨c, hc, hs⟩ := List.mem_flatMap.mp h
  unfold stC at hs
  split at hs
  · rename_i h1
    rw [List.mem_singleton] at hs
    subst hs
    exact ⟨c, hc, rfl, h1⟩
  · split at hs
    · rename_i h1 h2
      obtain ⟨o, ho, hs⟩ := List.mem_flatMap.mp hs
      have := rngI_mem'.mp ho
      rcases List.mem_cons.mp hs with e | e
      · subst e; exact ⟨c, hc, rfl, h2, this.1, this.2, .inl rfl⟩
      · rw [List.mem_singleton] at e
        subst e
        exact ⟨c, hc, rfl, h2, this.1, this.2, .inr rfl⟩
    · cases hs
theorem stC_len {m : Int} (m1 : m ≤ 9) (c : Str × Int × List Int) : (stC m c).length ≤ 18 := by
  unfold stC
  split
  · simp
  · split
    · have : ∀ l : List Int, (l.flatMap fun o => [((c.1, 0, some o) : St), (c.1, 1, some o)]).length = 2 * l.length := fun l => by
        induction l with
        | nil => rfl
        | cons a l ih => rw [List.flatMap_cons, List.length_append, ih]; simp; omega
      rw [this, rngI_len]
      omega
    · simp
theorem flat_len {α β : Type} {f : α → List β} {k : Nat} (h : ∀ a, (f a).length ≤ k) : ∀ l : List α, (l.flatMap f).length ≤ l.length * k
  | [] => by simp
  | a :: l => by
    have h1 := h a
    have h2 := flat_len h l
    rw [List.flatMap_cons, List.length_append, List.length_cons, Nat.succ_mul]
    omega
theorem all_steps_eq {t : Tb} (ht : TbOk 9 t) (hn : t.conns.length ≤ 16) (h : IH) : WE (f_all_steps [tbI t] h) fun v h' => ∃ n : Nat, v = .ref n ∧ h.length ≤ n ∧ h'[n]? = some (.lst ((stepsF t).map stI)) ∧ Gr h h' := by
  have m0 := ht.m0
  have m1 := ht.m1
  unfold f_all_steps b_all_steps
  rw [WE_runF]
  refine WS.seq (M := fun e1 h1 => h1 = h ++ [.lst []] ∧ e1 = [some (tbI t), some (.ref h.length), none, none, none, none]) (by simp) ?_
  rintro _ h1 ⟨rfl, rfl⟩
  refine WS.seq (M := fun e1 h2 => ∃ r2 r3 r4 r5 : Option IV, h2[h.length]? = some (.lst ((stepsF t).map stI)) ∧ Gr h h2 ∧ e1 = [some (tbI t), some (.ref h.length), r2, r3, r4, r5]) ?_ ?_
  · rw [WS_sFor, WE_iSeq]
    simp only [WE_eOp, WE_eC, eVar_at, List.getElem?_cons_succ, List.getElem?_cons_zero, WE_ok, tb_2, WO_some, seqIt_tup]
    refine WS_tup (xs := t.conns.map cnI) (fun i e1 h2 => ∃ r2 r3 r4 r5 : Option IV, h2[h.length]? = some (.lst (((t.conns.take i).flatMap (stC t.many)).map stI)) ∧ Gr h h2 ∧ e1 = [some (tbI t), some (.ref h.length), r2, r3, r4, r5]) ⟨none, none, none, none, by simp, Gr.app _ _, rfl⟩ (by simp; omega) ?_ ?_
    · rintro i x env h2 hx ⟨r2, r3, r4, r5, e2, g2, rfl⟩
      rw [List.getElem?_map] at hx
      cases hz : t.conns[i]? with
      | none => rw [hz] at hx; cases hx
      | some c =>
        rw [hz] at hx
        cases hx
        have hi := (List.getElem?_eq_some_iff.mp hz).1
        refine ⟨_, rfl, ?_⟩
        have et : t.conns.take (i + 1) = t.conns.take i ++ [c] := by rw [List.take_add_one, hz]; rfl
        have lb := flat_len (stC_len m1) (t.conns.take i)
        rw [List.length_take] at lb
        have hlt := (List.getElem?_eq_some_iff.mp e2).1
        unfold bd_all_steps_1
        by_cases h1 : c.2.1 = 1
        · have es : stC t.many c = [(c.1, 0, none)] := by unfold stC; rw [if_pos h1]
          have h2' : ¬ c.2.1 = 2 := by omega
          refine WS.seq (M := fun e3 h3 => h3 = h2.set h.length (.lst (((t.conns.take (i + 1)).flatMap (stC t.many)).map stI)) ∧ e3 = [some (tbI t), some (.ref h.length), some (.str c.1), some (.int c.2.1), some (.tup (c.2.2.map IV.int)), r5]) ?_ ?_
          · simp [h1, tyI_ref e2]
            rw [appO_ref e2 (by rw [List.length_map]; omega), WO_some]
            rw [et, List.flatMap_append]
            simp [es, stI, oI]
          rintro _ h3 ⟨rfl, rfl⟩
          simp [h2']
          exact ⟨by rw [List.getElem?_set_self hlt], g2.put (Nat.le_refl _)⟩
        · refine WS.seq (M := fun e3 h3 => h2 = h3 ∧ e3 = [some (tbI t), some (.ref h.length), some (.str c.1), some (.int c.2.1), some (.tup (c.2.2.map IV.int)), r5]) (by simp [h1]) ?_
          rintro _ _ ⟨rfl, rfl⟩
          by_cases h2' : c.2.1 = 2
          · have es : stC t.many c = (rngI t.many).flatMap fun o => [(c.1, 0, some o), (c.1, 1, some o)] := by unfold stC; rw [if_neg h1, if_pos h2']
            simp [h2', tb_0]
            refine ⟨by omega, ?_⟩
            refine WS_for t.many.toNat (fun j e3 h3 => ∃ r5 : Option IV, h3[h.length]? = some (.lst ((((t.conns.take i).flatMap (stC t.many)) ++ (((rngI t.many).take j).flatMap fun o => [((c.1, 0, some o) : St), (c.1, 1, some o)])).map stI)) ∧ Gr h h3 ∧ e3 = [some (tbI t), some (.ref h.length), some (.str c.1), some (.int 2), some (.tup (c.2.2.map IV.int)), r5]) ?_ ?_ FU 0 _ _ (Nat.zero_le _) ⟨r5, by simpa using e2, g2, rfl⟩ (FU_lt64 (by omega))
            · rintro j env h3 hj ⟨s5, e3, g3, rfl⟩
              refine ⟨.int (0 + (j : Int)), by unfold rngIt; simp [hj], _, rfl, ?_⟩
              have ej : (rngI t.many).take (j + 1) = (rngI t.many).take j ++ [(j : Int)] := by rw [List.take_add_one, rngI_at (by omega)]; rfl
              have lj : (((rngI t.many).take j).flatMap fun o => [((c.1, 0, some o) : St), (c.1, 1, some o)]).length ≤ ((rngI t.many).take j).length * 2 := flat_len (fun a => by simp) _
              rw [List.length_take, rngI_len] at lj
              have ga := Gr.app h3 [IO.lst [.tup [.str c.1, .int 0, .int j], .tup [.str c.1, .int 1, .int j]]]
              have e4 := ga.get e3
              unfold bd_all_steps_0
              simp [tyI_ref e3]
              rw [extO_ref (xs := (((t.conns.take i).flatMap (stC t.many)) ++ (((rngI t.many).take j).flatMap fun o => [((c.1, 0, some o) : St), (c.1, 1, some o)])).map stI) (ys := [.tup [.str c.1, .int 0, .int j], .tup [.str c.1, .int 1, .int j]]) e4 (by simp) (by rw [List.length_map, List.length_append, List.length_cons, List.length_cons, List.length_nil]; omega), WO_some]
              refine ⟨?_, (g3.trans ga).put (Nat.le_refl _)⟩
              rw [List.getElem?_set_self (List.getElem?_eq_some_iff.mp e4).1, ej, List.flatMap_append]
              simp [stI, oI]
            · rintro env h3 ⟨s5, e3, g3, rfl⟩
              refine ⟨by unfold rngIt; simp, ?_⟩
              have : (rngI t.many).take t.many.toNat = rngI t.many := List.take_of_length_le (by rw [rngI_len]; exact Nat.le_refl _)
              rw [this, ← es] at e3
              refine ⟨?_, g3, _, _, _, _, rfl⟩
              rw [e3, et, List.flatMap_append]
              simp
          · have es : stC t.many c = [] := by unfold stC; rw [if_neg h1, if_neg h2']
            simp [h2']
            refine ⟨?_, g2⟩
            rw [e2, et, List.flatMap_append]
            simp [es]
    · rintro env h2 ⟨r2, r3, r4, r5, e2, g2, rfl⟩
      rw [List.length_map, List.take_length] at e2
      exact ⟨r2, r3, r4, r5, e2, g2, rfl⟩
  rintro _ h2 ⟨r2, r3, r4, r5, e2, g2, rfl⟩
  simp
  exact ⟨e2, g2⟩
theorem cells_of_eq {t : Tb} {b : Int} (ht : TbOk b t) (nd : (t.conns.map (·.1)).Nodup) {c : Str × Int × List Int} (hc : c ∈ t.conns) (h : IH) : WE (f_cells_of [tbI t, .str c.1, .int c.2.1] h) fun v h' => v = .tup (c.2.2.map IV.int) ∧ h' = h := by
  have nc := ht.nc
  obtain ⟨k, hk⟩ := List.getElem?_of_mem hc
  have hkl := (List.getElem?_eq_some_iff.mp hk).1
  unfold f_cells_of b_cells_of
  rw [WE_runF]
  refine WS.seq (M := fun _ _ => False) ?_ (fun _ _ q => q.elim)
  rw [WS_sFor, WE_iSeq]
  simp only [WE_eOp, WE_eC, eVar_at, List.getElem?_cons_succ, List.getElem?_cons_zero, WE_ok, tb_2, WO_some, seqIt_tup]
  refine WS_tup (xs := t.conns.map cnI) (fun i e1 h2 => ∃ r3 r4 r5 : Option IV, i ≤ k ∧ h2 = h ∧ e1 = [some (tbI t), some (.str c.1), some (.int c.2.1), r3, r4, r5]) ⟨none, none, none, Nat.zero_le _, rfl, rfl⟩ (by simp; omega) ?_ ?_
  · rintro i x env h2 hx ⟨r3, r4, r5, hik, rfl, rfl⟩
    rw [List.getElem?_map] at hx
    cases hz : t.conns[i]? with
    | none => rw [hz] at hx; cases hx
    | some d =>
      rw [hz] at hx
      cases hx
      refine ⟨_, rfl, ?_⟩
      unfold bd_cells_of_0
      by_cases hd : d.1 = c.1
      · have hi := (List.getElem?_eq_some_iff.mp hz).1
        have : i = k := by
          have h1 : i < (t.conns.map (·.1)).length := by rw [List.length_map]; exact hi
          have h2 : k < (t.conns.map (·.1)).length := by rw [List.length_map]; exact hkl
          have e : (t.conns.map (·.1))[i]'h1 = (t.conns.map (·.1))[k]'h2 := by
            rw [List.getElem_map, List.getElem_map, (List.getElem?_eq_some_iff.mp hz).2, (List.getElem?_eq_some_iff.mp hk).2]
            exact hd
          exact (List.getElem_inj nd).mp e
        subst this
        rw [hk] at hz
        cases hz
        simp
      · simp [hd]
        have : i ≠ k := fun q => hd (by subst q; rw [hk] at hz; cases hz; rfl)
        omega
  · rintro env h2 ⟨r3, r4, r5, hik, rfl, rfl⟩
    rw [List.length_map] at hik
    omega
def ledF (t : Tb) (s : St) (g : Int) : Int := match s.2.2 with
  | none => cellAt t.many (cellsF t s.1) [g]
  | some o => if s.2.1 = 0 then cellAt t.many (cellsF t s.1) [g, o] else cellAt t.many (cellsF t s.1) [o, g]
theorem led_ok {t : Tb} {b : Int} (ht : TbOk b t) (nd : (t.conns.map (·.1)).Nodup) {s : St} (hs : StOk t s) {g : Int} (g0 : 0 ≤ g) (g1 : g < t.many) : 0 ≤ ledF t s g ∧ ledF t s g < t.many := by
  obtain ⟨c, hc, e1, hs⟩ := hs
  have ck := ht.cok c hc
  unfold ledF
  rw [← e1, cellsF_eq nd hc]
  cases hq : s.2.2 with
  | none =>
    rw [hq] at hs
    simp only at hs ⊢
    exact ck.cells _ (cellAt_mem (n := c.2.1.toNat) ht.m0 ck.len ⟨by rw [hs]; rfl, fun z hz => by rw [List.mem_singleton.mp hz]; exact ⟨g0, g1⟩⟩)
  | some o =>
    rw [hq] at hs
    obtain ⟨h2, o0, o1, _⟩ := hs
    simp only
    have r1 : RowOk t.many c.2.1.toNat [g, o] := ⟨by rw [h2]; rfl, fun z hz => by
      rcases List.mem_cons.mp hz with e | e
      · subst e; exact ⟨g0, g1⟩
      · rw [List.mem_singleton.mp e]; exact ⟨o0, o1⟩⟩
    have r2 : RowOk t.many c.2.1.toNat [o, g] := ⟨by rw [h2]; rfl, fun z hz => by
      rcases List.mem_cons.mp hz with e | e
      · subst e; exact ⟨o0, o1⟩
      · rw [List.mem_singleton.mp e]; exact ⟨g0, g1⟩⟩
    split
    · exact ck.cells _ (cellAt_mem ht.m0 ck.len r1)
    · exact ck.cells _ (cellAt_mem ht.m0 ck.len r2)
theorem led_on_eq {t : Tb} (ht : TbOk 9 t) (nd : (t.conns.map (·.1)).Nodup) {s : St} (hs : StOk t s) {g : Int} (g0 : 0 ≤ g) (g1 : g < t.many) (h : IH) : WE (f_led_on [tbI t, stI s, .int g] h) fun v h' => v = .int (ledF t s g) ∧ Gr h h' := by
  have m0 := ht.m0
  have m1 := ht.m1
  obtain ⟨c, hc, e1, hs⟩ := hs
  have ck := ht.cok c hc
  unfold f_led_on b_led_on
  rw [WE_runF]
  refine WS.seq (M := fun e h1 => h = h1 ∧ e = [some (tbI t), some (stI s), some (.int g), some (.str c.1), some (.int s.2.1), some (oI s.2.2), none]) ?_ ?_
  · simp [stI, gTL, gsCons, gN, gsNil, e1]
  rintro _ h1 ⟨rfl, rfl⟩
  refine WS.seq (M := fun e h1 => h1 = h ++ [.lst [.int g]] ∧ e = [some (tbI t), some (stI s), some (.int g), some (.str c.1), some (.int s.2.1), some (oI s.2.2), some (.ref h.length)]) (by simp) ?_
  rintro _ h1 ⟨rfl, rfl⟩
  have fin : ∀ (h2 : IH) (n : Nat) (row : List Int), Gr h h2 → h2[n]? = some (.lst (row.map IV.int)) → row.length = c.2.1.toNat → (c.2.1 = 1 ∨ c.2.1 = 2) → RowOk t.many c.2.1.toNat row → cellAt t.many c.2.2 row = ledF t s g →
      WS (sRet (eCall f_cell_at (aCons (eOp ixQ (eVar 0) (eC (.int 0))) (aCons (eCall f_cells_of (aCons (eVar 0) (aCons (eVar 3) (aCons (eCB lenO (aCons (eVar 6) (aNil))) (aNil))))) (aCons (eVar 6) (aNil))))) [some (tbI t), some (stI s), some (.int g), some (.str c.1), some (.int s.2.1), some (oI s.2.2), some (.ref n)] h2) (fun _ h' => IV.non = .int (ledF t s g) ∧ Gr h h') (fun v h' => v = .int (ledF t s g) ∧ Gr h h') (fun _ _ => False) (fun _ _ => False) := by
    intro h2 n row g2 e2 lr pl ro ec
    have hl : lenO [.ref n] h2 = some (.int c.2.1, h2) := by
      simp only [lenO, seqOf, lstOf, e2, List.length_map, lr]
      rw [Int.toNat_of_nonneg (by omega)]
    simp [tb_0, hl]
    refine (cells_of_eq ht nd hc h2).mono fun v h3 ⟨ev, eh⟩ => ?_
    subst ev eh
    rw [cell_at_eq m0 (by omega) (by omega) ck.len ro e2]
    simp [ec]
    exact g2
  have ga := Gr.app h [IO.lst [.int g]]
  cases hq : s.2.2 with
  | none =>
    rw [hq] at hs
    simp only at hs
    refine WS.seq (M := fun e h2 => h2 = h ++ [.lst [.int g]] ∧ e = [some (tbI t), some (stI s), some (.int g), some (.str c.1), some (.int s.2.1), some .non, some (.ref h.length)]) (by simp [oI]) ?_
    rintro _ h2 ⟨rfl, rfl⟩
    have := fin (h ++ [.lst [.int g]]) h.length [g] ga (by simp) (by rw [hs]; rfl) (.inl hs) ⟨by rw [hs]; rfl, fun z hz => by rw [List.mem_singleton.mp hz]; exact ⟨g0, g1⟩⟩ (by unfold ledF; rw [hq, ← e1, cellsF_eq nd hc])
    rw [hq] at this
    exact this
  | some o =>
    rw [hq] at hs
    obtain ⟨h2, o0, o1, hp⟩ := hs
    have r1 : RowOk t.many c.2.1.toNat [g, o] := ⟨by rw [h2]; rfl, fun z hz => by
      rcases List.mem_cons.mp hz with e | e
      · subst e; exact ⟨g0, g1⟩
      · rw [List.mem_singleton.mp e]; exact ⟨o0, o1⟩⟩
    have r2 : RowOk t.many c.2.1.toNat [o, g] := ⟨by rw [h2]; rfl, fun z hz => by
      rcases List.mem_cons.mp hz with e | e
      · subst e; exact ⟨o0, o1⟩
      · rw [List.mem_singleton.mp e]; exact ⟨g0, g1⟩⟩
    refine WS.seq (M := fun e h2 => ∃ (n : Nat) (row : List Int), Gr h h2 ∧ h2[n]? = some (.lst (row.map IV.int)) ∧ RowOk t.many c.2.1.toNat row ∧ cellAt t.many c.2.2 row = ledF t s g ∧ e = [some (tbI t), some (stI s), some (.int g), some (.str c.1), some (.int s.2.1), some (.int o), some (.ref n)]) ?_ ?_
    · have hA : (h ++ [IO.lst [.int g]] ++ [.lst [.int g, .int o]] ++ [.lst [.int o, .int g]] ++ [.lst [.ref (h.length + 1), .ref (h.length + 2)]])[h.length + 3]? = some (.lst [.ref (h.length + 1), .ref (h.length + 2)]) := by simp
      have i0 := ixQ_ref (k := 0) (v := .ref (h.length + 1)) hA rfl
      have i1 := ixQ_ref (k := 1) (v := .ref (h.length + 2)) hA rfl
      have gg : Gr h (h ++ [IO.lst [.int g]] ++ [.lst [.int g, .int o]] ++ [.lst [.int o, .int g]] ++ [.lst [.ref (h.length + 1), .ref (h.length + 2)]]) := ((ga.trans (Gr.app _ _)).trans (Gr.app _ _)).trans (Gr.app _ _)
      rcases hp with e | e
      · rw [show ((0 : Nat) : Int) = 0 from rfl] at i0
        simp at i0 gg
        simp [oI, e, i0]
        refine ⟨gg, h.length + 1, [g, o], by simp, r1, ?_, rfl⟩
        unfold ledF
        rw [hq, ← e1, cellsF_eq nd hc, e]
        rfl
      · rw [show ((1 : Nat) : Int) = 1 from rfl] at i1
        simp at i1 gg
        simp [oI, e, i1]
        refine ⟨gg, h.length + 2, [o, g], by simp, r2, ?_, rfl⟩
        unfold ledF
        rw [hq, ← e1, cellsF_eq nd hc, e]
        rfl
    rintro _ h3 ⟨n, row, g3, e3, ro, ec, rfl⟩
    have := fin h3 n row g3 e3 ro.1 (.inr h2) ro ec
    rw [hq] at this
    exact this
/-- unlike things are no more than those that they are among -/
theorem nd_len {α : Type} [DecidableEq α] : ∀ {a b : List α}, a.Nodup → (∀ x ∈ a, x ∈ b) → a.length ≤ b.length
  | [], _, _, _ => Nat.zero_le _
  | x :: a, b, n, h => by
    rw [List.nodup_cons] at n
    have hx := h x List.mem_cons_self
    have := nd_len (a := a) (b := b.erase x) n.2 fun y hy => by
      have hne : y ≠ x := fun e => n.1 (e ▸ hy)
      exact (List.mem_erase_of_ne hne).mpr (h y (List.mem_cons_of_mem _ hy))
    rw [List.length_erase_of_mem hx] at this
    have := List.length_pos_of_mem hx
    rw [List.length_cons]
    omega
/-- things, each of the data of its b -/
def Els {β : Type} (h : IH) (dec : β → PyData) : List IV → List β → Prop
  | [], [] => True
  | x :: xs, b :: bs => (∀ n, 1 ≤ n → toD h n x = some (dec b)) ∧ Els h dec xs bs
  | _, _ => False
section
variable {β : Type} {h : IH} {dec : β → PyData}
theorem Els.len : ∀ {xs : List IV} {bs : List β}, Els h dec xs bs → xs.length = bs.length
  | [], [], _ => rfl
  | _ :: _, _ :: _, e => congrArg (· + 1) (Els.len e.2)
  | [], _ :: _, e => e.elim
  | _ :: _, [], e => e.elim
theorem Els.get : ∀ {xs : List IV} {bs : List β} {i : Nat} {x : IV}, Els h dec xs bs → xs[i]? = some x → ∃ b, bs[i]? = some b ∧ ∀ n, 1 ≤ n → toD h n x = some (dec b)
  | _ :: _, _ :: _, 0, _, e, q => by simp at q; subst q; exact ⟨_, rfl, e.1⟩
  | _ :: _, _ :: _, i + 1, _, e, q => by
    obtain ⟨b, e1, e2⟩ := Els.get (i := i) e.2 (by simpa using q)
    exact ⟨b, by simpa using e1, e2⟩
  | [], _, _, _, _, q => by simp at q
  | _ :: _, [], _, _, e, _ => e.elim
theorem Els.app : ∀ {xs : List IV} {bs : List β} {ys : List IV} {cs : List β}, Els h dec xs bs → Els h dec ys cs → Els h dec (xs ++ ys) (bs ++ cs)
  | [], [], _, _, _, e => e
  | _ :: _, _ :: _, _, _, e, f => ⟨e.1, Els.app e.2 f⟩
  | [], _ :: _, _, _, e, _ => e.elim
  | _ :: _, [], _, _, e, _ => e.elim
theorem Els.toDs : ∀ {xs : List IV} {bs : List β}, Els h dec xs bs → ∀ n, 1 ≤ n → toDs h n xs = some (bs.map dec)
  | [], [], _, n, _ => by rw [L2.Sh.toDs]; rfl
  | x :: xs, b :: bs, e, n, hn => by rw [L2.Sh.toDs, e.1 n hn, Els.toDs e.2 n hn]; rfl
  | [], _ :: _, e, _, _ => e.elim
  | _ :: _, [], e, _, _ => e.elim
end
theorem toD_refs {β : Type} {h : IH} {dec : β → PyData} {k : Nat} {xs : List IV} {bs : List β} (e : h[k]? = some (.lst xs)) (el : Els h dec xs bs) (n : Nat) (hn : 2 ≤ n) : toD h n (.ref k) = some (.list (bs.map dec)) := by
  obtain ⟨m, rfl⟩ : ∃ m, n = m + 1 := ⟨n - 1, by omega⟩
  rw [toD, e]
  simp only [el.toDs m (by omega)]
  rfl
theorem find_dec {β : Type} [DecidableEq β] {dec : β → PyData} (b : β) : ∀ (l : List β), (∀ a ∈ l, PyData.eqv (dec a) (dec b) = decide (a = b)) → b ∈ l → (l.map dec).findIdx? (fun z => PyData.eqv z (dec b)) = some (l.idxOf b)
  | [], _, h => by cases h
  | a :: l, he, hb => by
    rw [List.map_cons, List.findIdx?_cons, he a List.mem_cons_self, List.idxOf_cons]
    by_cases q : a = b
    · subst q; simp
    · have h1 : (a == b) = false := beq_eq_false_iff_ne.mpr q
      rw [decide_eq_false q, h1]
      have := find_dec b l (fun c hc => he c (List.mem_cons_of_mem _ hc)) ((List.mem_cons.mp hb).resolve_left fun z => q z.symm)
      simp [this]
theorem any_dec {β : Type} [DecidableEq β] {dec : β → PyData} (b : β) : ∀ (l : List β), (∀ a ∈ l, PyData.eqv (dec a) (dec b) = decide (a = b)) → (l.map dec).any (fun z => PyData.eqv z (dec b)) = decide (b ∈ l)
  | [], _ => by simp
  | a :: l, he => by
    rw [List.map_cons, List.any_cons, he a List.mem_cons_self, any_dec b l fun c hc => he c (List.mem_cons_of_mem _ hc)]
    by_cases q : a = b
    · subst q; simp
    · have : ¬ b = a := fun z => q z.symm
      simp [q, this]
theorem numbered_eq {β : Type} [DecidableEq β] (dec : β → PyData) (kd : Nat) (hk : kd + 1 ≤ 60) (xs : List IV) (bs : List β) (s : Nat) (h : IH) (es : h[s]? = some (.lst xs)) (hl : bs.length ≤ 1000) (hx : ∀ h', Gr h h' → Els h' dec xs bs) (hs : ∀ b ∈ bs, Shp kd (dec b)) (hi : ∀ a ∈ bs, ∀ b ∈ bs, PyData.eqv (dec a) (dec b) = decide (a = b)) :
    WE (f_numbered [.ref s] h) fun v h' => ∃ n : Nat, v = .ref n ∧ h.length ≤ n ∧ h'[n]? = some (.lst ((canon bs).map IV.int)) ∧ Gr h h' := by
  have ll := (hx h (Gr.refl _)).len
  have hsl := (List.getElem?_eq_some_iff.mp es).1
  unfold f_numbered b_numbered
  rw [WE_runF]
  refine WS.seq (M := fun e1 h1 => h1 = h ++ [.lst []] ∧ e1 = [some (.ref s), some (.ref h.length), none]) (by simp) ?_
  rintro _ h1 ⟨rfl, rfl⟩
  have ga := Gr.app h [IO.lst []]
  refine WS.seq (M := fun e1 h2 => ∃ (ks : List IV) (r2 : Option IV), h2[h.length]? = some (.lst ks) ∧ (∀ h', Gr h h' → Els h' dec ks (ddp bs)) ∧ Gr h h2 ∧ e1 = [some (.ref s), some (.ref h.length), r2]) ?_ ?_
  · rw [WS_sFor, WE_iSeq]
    simp only [eVar_at, List.getElem?_cons_succ, List.getElem?_cons_zero, WE_ok]
    rw [seqIt_ref (ga.get es)]
    refine WS_list (xs := xs) (n := s) (fun i e1 h2 => ∃ (ks : List IV) (r2 : Option IV), h2[h.length]? = some (.lst ks) ∧ (∀ h', Gr h h' → Els h' dec ks (ddp (bs.take i))) ∧ Gr h h2 ∧ e1 = [some (.ref s), some (.ref h.length), r2]) ⟨[], none, by simp, fun _ _ => trivial, ga, rfl⟩ (by omega) (fun _ _ _ ⟨_, _, _, _, g, _⟩ => g.get es) ?_ ?_
    · rintro i x env h2 hxi ⟨ks, r2, e2, ek, g2, rfl⟩
      obtain ⟨b, eb, exd⟩ := (hx h2 g2).get hxi
      have hbm := List.mem_of_getElem? eb
      have lk := (ek h2 g2).len
      have dl : ∀ l : List β, (ddp l).length ≤ l.length := fun l => by
        have := nd_len (ddp_nd l) (b := l) fun x hx => ddp_mem.mp hx
        exact this
      have dl2 := dl (bs.take i)
      rw [List.length_take] at dl2
      have mem_b : ∀ a ∈ ddp (bs.take i), a ∈ bs := fun a ha => List.mem_of_mem_take (ddp_mem.mp ha)
      refine ⟨_, rfl, ?_⟩
      unfold bd_numbered_0
      have e3 := inD_at (f := not) (x := x) (n := h.length) (d := dec b) (ds := (ddp (bs.take i)).map dec) (k := kd + 1) (h := h2) (exd 64 (by omega)) (toD_refs e2 (ek h2 g2) 64 (by omega)) (by omega) ((hs b hbm).mono (by omega)) (Shp.lst fun d hd => by
        obtain ⟨a, ha, rfl⟩ := List.mem_map.mp hd
        exact hs a (mem_b a ha))
      rw [any_dec b _ fun a ha => hi a (mem_b a ha) b hbm] at e3
      have et : bs.take (i + 1) = bs.take i ++ [b] := by rw [List.take_add_one, eb]; rfl
      by_cases hb : b ∈ ddp (bs.take i)
      · simp [e3, hb]
        refine ⟨ks, e2, fun h' g => ?_, g2⟩
        rw [et, ddp_snoc, if_pos hb]
        exact ek h' g
      · simp [e3, hb, tyI_ref e2]
        rw [appO_ref e2 (by omega), WO_some]
        refine ⟨ks ++ [x], ?_, fun h' g => ?_, g2.put (Nat.le_refl _)⟩
        · rw [List.getElem?_set_self (List.getElem?_eq_some_iff.mp e2).1]
        · rw [et, ddp_snoc, if_neg hb]
          refine (ek h' g).app ⟨?_, trivial⟩
          obtain ⟨b2, eb2, exd2⟩ := (hx h' g).get hxi
          rw [eb] at eb2
          cases eb2
          exact exd2
    · rintro env h2 ⟨ks, r2, e2, ek, g2, rfl⟩
      rw [ll, List.take_length] at ek
      exact ⟨ks, r2, e2, ek, g2, rfl⟩
  rintro _ h2 ⟨ks, r2, e2, ek, g2, rfl⟩
  simp [seqIt_ref (g2.get es)]
  have hg2 := (List.getElem?_eq_some_iff.mp e2).1
  have hxs : (List.range bs.length).map (fun i => xs.getD i .non) = xs := by
    refine List.ext_getElem (by simp [ll]) fun i h1 h2 => ?_
    rw [List.getElem_map, List.getElem_range, List.getD_eq_getElem?_getD, List.getElem?_eq_getElem h2]
    rfl
  have hcs : (List.range bs.length).map (fun i => IV.int ((canon bs).getD i 0)) = (canon bs).map IV.int := by
    refine List.ext_getElem (by simp [canon_len]) fun i h1 h2 => ?_
    have h3 : i < (canon bs).length := by simpa using h2
    rw [List.getElem_map, List.getElem_range, List.getD_eq_getElem?_getD, List.getElem?_eq_getElem h3, List.getElem_map]
    rfl
  refine comp_itH (xs := List.range bs.length) (fun i => xs.getD i .non) (fun i => .int ((canon bs).getD i 0)) (by simp; omega) (fun i h' g => by rw [hxs, refIt_nxt (g.get (g2.get es))]) (fun i h' hi' g => ⟨_, rfl, ?_⟩) ?_
  · have hi2 := List.mem_range.mp hi'
    have hxi : xs[i]? = some (xs.getD i .non) := by rw [List.getD_eq_getElem?_getD, List.getElem?_eq_getElem (by omega)]; rfl
    obtain ⟨b, eb, exd⟩ := (hx h' (g2.trans g)).get hxi
    have hbm := List.mem_of_getElem? eb
    have mem_b : ∀ a ∈ ddp bs, a ∈ bs := fun a ha => ddp_mem.mp ha
    have e3 := idxD_at (x := xs.getD i .non) (n := h.length) (d := dec b) (ds := (ddp bs).map dec) (k := kd + 1) (h := h') (exd 64 (by omega)) (toD_refs (g.get e2) (ek h' (g2.trans g)) 64 (by omega)) (by omega) ((hs b hbm).mono (by omega)) (Shp.lst fun d hd => by
      obtain ⟨a, ha, rfl⟩ := List.mem_map.mp hd
      exact hs a (mem_b a ha)) (find_dec b _ (fun a ha => hi a (mem_b a ha) b hbm) (ddp_mem.mpr hbm))
    have e4 : (canon bs).getD i 0 = (((ddp bs).idxOf b : Nat) : Int) := by rw [List.getD_eq_getElem?_getD, canon_get eb]; rfl
    simp [wipeE, tyI_ref (g.get e2), -List.getD_eq_getElem?_getD]
    rw [e3, WO_some, e4]
    simp
  · rw [hcs]
    exact ⟨h2.length, rfl, by have := g2.len; omega, by simp, g2.trans (Gr.app _ _)⟩
/-! images of steps -/
def Lsts (h : IH) : List Nat → List (List Int) → Prop
  | [], [] => True
  | r :: rs, l :: ls => h[r]? = some (.lst (l.map IV.int)) ∧ Lsts h rs ls
  | _, _ => False
theorem Lsts.len {h : IH} : ∀ {a : List Nat} {b : List (List Int)}, Lsts h a b → a.length = b.length
  | [], [], _ => rfl
  | _ :: _, _ :: _, x => congrArg (· + 1) (Lsts.len x.2)
  | [], _ :: _, x => x.elim
  | _ :: _, [], x => x.elim
theorem Lsts.gr {h h' : IH} (d : Gr h h') : ∀ {a : List Nat} {b : List (List Int)}, Lsts h a b → Lsts h' a b
  | [], [], x => x
  | _ :: _, _ :: _, x => ⟨d.get x.1, Lsts.gr d x.2⟩
  | [], _ :: _, x => x.elim
  | _ :: _, [], x => x.elim
theorem Lsts.get {h : IH} : ∀ {a : List Nat} {b : List (List Int)} {i q : Nat}, Lsts h a b → a[i]? = some q → ∃ r, b[i]? = some r ∧ h[q]? = some (.lst (r.map IV.int))
  | [], _, _, _, _, e => by simp at e
  | _ :: _, _ :: _, 0, _, x, e => by simp at e; subst e; exact ⟨_, rfl, x.1⟩
  | _ :: _, _ :: _, i + 1, q, x, e => by
    obtain ⟨r, e1, e2⟩ := Lsts.get (i := i) x.2 (by simpa using e)
    exact ⟨r, by simpa using e1, e2⟩
  | _ :: _, [], _, _, x, _ => x.elim
theorem Lsts.app {h : IH} : ∀ {a : List Nat} {b : List (List Int)} {c : List Nat} {d : List (List Int)}, Lsts h a b → Lsts h c d → Lsts h (a ++ c) (b ++ d)
  | [], [], _, _, _, y => y
  | _ :: _, _ :: _, _, _, x, y => ⟨x.1, Lsts.app x.2 y⟩
  | [], _ :: _, _, _, x, _ => x.elim
  | _ :: _, [], _, _, x, _ => x.elim
def imF (t : Tb) (s : St) : List Int := (rngI t.many).map (ledF t s)
theorem Lsts.dr {h h' : IH} {n : Nat} (d : Dr n h h') : ∀ {a : List Nat} {b : List (List Int)}, (∀ r ∈ a, r ≠ n) → Lsts h a b → Lsts h' a b
  | [], [], _, x => x
  | r :: _, _ :: _, q, x => ⟨d.get x.1 (q r List.mem_cons_self), Lsts.dr d (fun z hz => q z (List.mem_cons_of_mem _ hz)) x.2⟩
  | [], _ :: _, _, x => x.elim
  | _ :: _, [], _, x => x.elim
theorem Lsts.zip {h : IH} : ∀ {a : List Nat} {b : List (List Int)} {p : Nat × List Int}, Lsts h a b → p ∈ a.zip b → h[p.1]? = some (.lst (p.2.map IV.int))
  | [], [], _, _, e => by simp at e
  | _ :: _, _ :: _, p, x, e => by
    rw [List.zip_cons_cons] at e
    rcases List.mem_cons.mp e with q | q
    · subst q; exact x.1
    · exact Lsts.zip x.2 q
  | [], _ :: _, _, x, _ => x.elim
  | _ :: _, [], _, x, _ => x.elim
/-- a comprehension whose parts may make new things -/
theorem comp_grow {α : Type} {xs : List α} (enc : α → IV) {it : IIt} {g : MG} {env : Env} {b : Env → M IV} {h : IH} {Q : IV → IH → Prop} (J : Nat → List IV → IH → Prop) (hn : xs.length < 16777216) (hit : ∀ i h', Gr h h' → it.nxt i h' = some ((xs.map enc)[i]?))
    (hJd : ∀ i ys a b, J i ys a → Dr h.length a b → J i ys b) (hJ0 : ∀ a, J 0 [] a) (hJl : ∀ i ys a, J i ys a → ys.length ≤ i)
    (hb : ∀ i x ys h', xs[i]? = some x → J i ys h' → Gr h h' → h.length < h'.length → ∃ e1, g (enc x) env h' = some e1 ∧ WE (b e1 h') fun y h2 => Gr h' h2 ∧ J (i + 1) (ys ++ [y]) h2)
    (hQ : ∀ ys h', J xs.length ys h' → Gr h h' → h.length < h'.length → h'[h.length]? = some (.lst ys) → Q (.ref h.length) h') :
    WE (compLoop it g cYes b env h.length FU 0 (h ++ [.lst []])) Q := by
  refine WE_comp xs.length (fun i h' => Gr h h' ∧ h.length < h'.length ∧ ∃ ys, J i ys h' ∧ h'[h.length]? = some (.lst ys)) ?_ ?_ FU 0 _ (Nat.zero_le _) ⟨Gr.app _ _, by simp, [], hJ0 _, by simp⟩ (FU_lt64 (by omega))
  · rintro i h' hi ⟨gr, hl, ys, j, e⟩
    have hx : xs[i]? = some xs[i] := List.getElem?_eq_getElem hi
    obtain ⟨e1, eg, q⟩ := hb i xs[i] ys h' hx j gr hl
    refine ⟨enc xs[i], by rw [hit i _ gr, List.getElem?_map, hx]; rfl, e1, eg, ?_⟩
    simp only [WE_cYes, if_pos]
    refine q.mono fun y h2 ⟨g2, j2⟩ => ?_
    have e2 := g2.get e
    have := hJl i ys h' j
    refine ⟨ys, e2, by omega, (gr.trans g2).put (Nat.le_refl _), ?_, ys ++ [y], hJd _ _ _ _ j2 (Dr.refl _ _).put_n, List.getElem?_set_self (List.getElem?_eq_some_iff.mp e2).1⟩
    rw [List.length_set]
    have := g2.len
    omega
  · rintro h' ⟨gr, hl, ys, j, e⟩
    exact ⟨by rw [hit _ _ gr]; simp, hQ ys h' j gr hl e⟩
theorem hit_range {m : Int} {h : IH} : ∀ i h', Gr h h' → (rngIt 0 m.toNat).nxt i h' = some (((rngI m).map IV.int)[i]?) := by
  intro i h' _
  unfold rngIt rngI
  by_cases hi : i < m.toNat
  · simp [hi]
  · simp [hi]
theorem images_of_eq {t : Tb} (ht : TbOk 9 t) (nd : (t.conns.map (·.1)).Nodup) (hn : t.conns.length ≤ 16) (h : IH) : WE (f_images_of [tbI t] h) fun v h' => ∃ (n : Nat) (rs : List Nat), v = .ref n ∧ h'[n]? = some (.lst (((stepsF t).zip rs).map fun p => .tup [stI p.1, .ref p.2])) ∧ rs.length = (stepsF t).length ∧ Lsts h' rs ((stepsF t).map (imF t)) ∧ Gr h h' := by
  have m0 := ht.m0
  have m1 := ht.m1
  have sl : (stepsF t).length ≤ 288 := by
    have := flat_len (stC_len (m := t.many) m1) t.conns
    unfold stepsF
    omega
  unfold f_images_of b_images_of
  simp
  refine (all_steps_eq ht hn h).mono fun v h1 ⟨n, ev, hln, en, g1⟩ => ?_
  subst ev
  rw [seqIt_ref en]
  have hnl := (List.getElem?_eq_some_iff.mp en).1
  refine comp_grow (xs := stepsF t) stI (fun i ys a => ∃ rs : List Nat, rs.length = i ∧ i ≤ (stepsF t).length ∧ ys = (((stepsF t).take i).zip rs).map (fun p => .tup [stI p.1, .ref p.2]) ∧ Lsts a rs (((stepsF t).take i).map (imF t)) ∧ ∀ r ∈ rs, r ≠ h1.length) (by omega) (fun i h' g => by rw [refIt_nxt (g.get en)]) ?_ ?_ ?_ ?_ ?_
  · rintro i ys a b ⟨rs, l1, l2, l3, l4, l5⟩ d
    exact ⟨rs, l1, l2, l3, l4.dr d l5, l5⟩
  · intro a
    exact ⟨[], rfl, Nat.zero_le _, rfl, trivial, by simp⟩
  · rintro i ys a ⟨rs, l1, l2, l3, l4, l5⟩
    subst l3
    rw [List.length_map, List.length_zip]
    omega
  · rintro i s ys h2 hs ⟨rs, l1, l2, l3, l4, l5⟩ g2 hl2
    have hso := stepsF_ok (List.mem_of_getElem? hs)
    have hi := (List.getElem?_eq_some_iff.mp hs).1
    refine ⟨_, rfl, ?_⟩
    simp [wipeE, tb_0]
    refine ⟨by omega, ?_⟩
    refine comp_grow (xs := rngI t.many) IV.int (fun j zs a => j ≤ (rngI t.many).length ∧ zs = ((rngI t.many).take j).map fun g => .int (ledF t s g)) (by rw [rngI_len]; omega) hit_range ?_ ?_ ?_ ?_ ?_
    · rintro j zs a b q _; exact q
    · intro a; exact ⟨Nat.zero_le _, rfl⟩
    · rintro j zs a ⟨q1, q2⟩; subst q2; simp; omega
    · rintro j g zs h3 hg ⟨q1, q2⟩ g3 _
      have hgm := rngI_mem'.mp (List.mem_of_getElem? hg)
      have hj := (List.getElem?_eq_some_iff.mp hg).1
      refine ⟨_, rfl, ?_⟩
      simp [wipeE]
      refine (led_on_eq ht nd hso hgm.1 hgm.2 h3).mono fun v h4 ⟨ev, g4⟩ => ?_
      subst ev
      refine ⟨g4, by omega, ?_⟩
      rw [q2, ← List.map_take, List.take_add_one, hg]
      simp
    · rintro zs h3 ⟨q1, q2⟩ g3 hl3 e3
      rw [List.take_length] at q2
      have e3' : h3[h2.length]? = some (.lst ((imF t s).map IV.int)) := by rw [e3, q2]; unfold imF; rw [List.map_map]; rfl
      refine ⟨g3, rs ++ [h2.length], by simp [l1], by omega, ?_, ?_, fun r hr => ?_⟩
      · rw [l3, List.take_add_one, hs, Option.toList_some, List.zip_append (by rw [List.length_take]; omega)]
        simp
      · rw [← List.map_take, List.take_add_one, hs, Option.toList_some, List.map_append]
        exact (l4.gr g3).app ⟨e3', trivial⟩
      · rcases List.mem_append.mp hr with q | q
        · exact l5 r q
        · rw [List.mem_singleton.mp q]; omega
  · rintro ys h2 ⟨rs, l1, l2, l3, l4, l5⟩ g2 hl2 e2
    rw [List.take_length] at l3 l4
    subst l3
    exact ⟨h1.length, rfl, rs, e2, l1, l4, g1.trans g2⟩
def num0 (t : Tb) : List Int := canon ((rngI t.many).map fun g => decide (g ∈ t.wished))
def sgF (t : Tb) (nums : List Int) (g : Int) : List Int := (stepsF t).map fun s => nums.getD (ledF t s g).toNat 0
def itF (t : Tb) (nums : List Int) : List Int := canon ((rngI t.many).map fun g => nums.getD g.toNat 0 :: sgF t nums g)
def itK (t : Tb) : Nat → List Int
  | 0 => num0 t
  | k + 1 => itF t (itK t k)
theorem itK_len {t : Tb} (m0 : 1 ≤ t.many) : ∀ k, (itK t k).length = t.many.toNat
  | 0 => by unfold itK num0; rw [canon_len, List.length_map, rngI_len]
  | k + 1 => by unfold itK itF; rw [canon_len, List.length_map, rngI_len]
theorem itK_canon (t : Tb) : ∀ k, canon (itK t k) = itK t k
  | 0 => canon_idem _
  | k + 1 => canon_idem _
theorem itK_same {t : Tb} {j k : Nat} (hj : itF t (itK t j) = itK t j) (hk : itF t (itK t k) = itK t k) : itK t j = itK t k := by
  have key : ∀ {a : Nat}, itF t (itK t a) = itK t a → ∀ b, itK t (a + b) = itK t a := fun {a} ha b => by
    induction b with
    | zero => rfl
    | succ b ih =>
      show itF t (itK t (a + b)) = _
      rw [ih, ha]
  rcases Nat.le_total j k with q | q
  · have := key hj (k - j)
    rw [show j + (k - j) = k by omega] at this
    exact this.symm
  · have := key hk (j - k)
    rw [show k + (j - k) = j by omega] at this
    exact this
theorem map_at {m : Int} {β : Type} {f : Int → β} {a : Nat} (ha : a < m.toNat) : ((rngI m).map f)[a]? = some (f a) := by
  rw [List.getElem?_map, rngI_at (by omega)]
  rfl
theorem canon_rel {m : Int} {β : Type} [DecidableEq β] {f : Int → β} {a b : Nat} (ha : a < m.toNat) (hb : b < m.toNat) : (canon ((rngI m).map f)).getD a 0 = (canon ((rngI m).map f)).getD b 0 ↔ f a = f b := by
  have e1 := map_at (f := f) ha
  have e2 := map_at (f := f) hb
  rw [← canon_eq e1 e2, List.getD_eq_getElem?_getD, List.getD_eq_getElem?_getD, canon_get e1, canon_get e2]
  simp
theorem itF_ref {t : Tb} {nums : List Int} {a b : Nat} (ha : a < t.many.toNat) (hb : b < t.many.toNat) (e : (itF t nums).getD a 0 = (itF t nums).getD b 0) : nums.getD a 0 = nums.getD b 0 ∧ sgF t nums a = sgF t nums b := by
  have := (canon_rel ha hb).mp e
  rw [Int.toNat_natCast, Int.toNat_natCast] at this
  exact List.cons_eq_cons.mp this
theorem itF_mu {t : Tb} {nums : List Int} (hl : nums.length = t.many.toNat) (hc : canon nums = nums) : mu t.many.toNat (itF t nums) ≤ mu t.many.toNat nums ∧ (mu t.many.toNat (itF t nums) = mu t.many.toNat nums → itF t nums = nums) := by
  have hll : (itF t nums).length = t.many.toNat := by unfold itF; rw [canon_len, List.length_map, rngI_len]
  have key := cnt_eq (l := prs t.many.toNat) (P := fun p => decide ((itF t nums).getD p.1 0 = (itF t nums).getD p.2 0)) (Q := fun p => decide (nums.getD p.1 0 = nums.getD p.2 0)) fun p hp h => by
    obtain ⟨a, b⟩ := p
    obtain ⟨ha, hb⟩ := prs_mem.mp hp
    exact decide_eq_true (itF_ref ha hb (of_decide_eq_true h)).1
  refine ⟨key.1, fun e => ?_⟩
  have k2 := key.2 e
  have hci : canon (itF t nums) = itF t nums := by unfold itF; exact canon_idem _
  have fin := canon_part (S := itF t nums) (l := nums) (by rw [hll, hl]) fun i j a b x y ha hb hx hy => ?_
  · rw [hci, hc] at fin
    exact fin
  have hi := (List.getElem?_eq_some_iff.mp ha).1
  have hj := (List.getElem?_eq_some_iff.mp hb).1
  rw [hll] at hi hj
  have ea : (itF t nums).getD i 0 = a := by rw [List.getD_eq_getElem?_getD, ha]; rfl
  have eb : (itF t nums).getD j 0 = b := by rw [List.getD_eq_getElem?_getD, hb]; rfl
  have ex : nums.getD i 0 = x := by rw [List.getD_eq_getElem?_getD, hx]; rfl
  have ey : nums.getD j 0 = y := by rw [List.getD_eq_getElem?_getD, hy]; rfl
  rw [← ea, ← eb, ← ex, ← ey]
  exact ⟨fun q => (itF_ref hi hj q).1, fun q => of_decide_eq_true (k2 (i, j) (prs_mem.mpr ⟨hi, hj⟩) (decide_eq_true q))⟩
theorem itK_wish {t : Tb} : ∀ (k : Nat) {a b : Nat}, a < t.many.toNat → b < t.many.toNat → (itK t k).getD a 0 = (itK t k).getD b 0 → ((a : Int) ∈ t.wished ↔ (b : Int) ∈ t.wished)
  | 0, a, b, ha, hb, e => by
    have := (canon_rel ha hb).mp e
    exact decide_eq_decide.mp this
  | k + 1, a, b, ha, hb, e => itK_wish k ha hb (itF_ref ha hb e).1
theorem els_bl (h : IH) : ∀ bs : List Bool, Els h PyData.bool (bs.map IV.bl) bs
  | [] => trivial
  | b :: bs => ⟨fun n _ => by rw [toD], els_bl h bs⟩
theorem els_ls {h : IH} : ∀ {rs : List Nat} {ls : List (List Int)}, Lsts h rs ls → Els h (fun l : List Int => PyData.list (l.map PyData.int)) (rs.map IV.ref) ls
  | [], [], _ => trivial
  | r :: rs, l :: ls, x => ⟨fun n hn => by
      obtain ⟨m, rfl⟩ : ∃ m, n = m + 1 := ⟨n - 1, by omega⟩
      rw [toD, x.1]
      simp only [toDs_dats h m (dats_ints l)]
      rfl, els_ls x.2⟩
  | [], _ :: _, x => x.elim
  | _ :: _, [], x => x.elim
theorem eqv_ints : ∀ a b : List Int, PyData.eqvAll (a.map PyData.int) (b.map PyData.int) = decide (a = b)
  | [], [] => by simp [PyData.eqvAll]
  | [], _ :: _ => by simp [PyData.eqvAll]
  | _ :: _, [] => by simp [PyData.eqvAll]
  | x :: a, y :: b => by
    rw [List.map_cons, List.map_cons, PyData.eqvAll, eqv_ints a b]
    have : PyData.eqv (.int x) (.int y) = decide (x = y) := by
      simp [PyData.eqv]
      rfl
    rw [this]
    by_cases h1 : x = y <;> by_cases h2 : a = b <;> simp [h1, h2]
theorem eqO_ints {a b : Nat} {xs ys : List Int} {h : IH} (ea : h[a]? = some (.lst (xs.map IV.int))) (eb : h[b]? = some (.lst (ys.map IV.int))) : eqO (.ref a) (.ref b) h = some (.bl (decide (xs = ys)), h) := by
  rw [eqO_ll ea eb (dats_ints xs) (dats_ints ys) (k := 1) (by omega) (shp_ints xs 0) (shp_ints ys 0), eqv_ints]
def ptF (t : Tb) (nums : List Int) (k : Int) : List Int := (rngI t.many).filter fun g => decide (nums.getD g.toNat 0 = k)
def npF (nums : List Int) : Int := match nums with
  | [] => 0
  | a :: l => maxI a l + 1
def partsI (t : Tb) (nums : List Int) : IV := .tup ((rngI (npF nums)).map fun k => .tup ((ptF t nums k).map IV.int))
theorem npF_eq {nums : List Int} (hne : nums ≠ []) (hc : canon nums = nums) : npF nums = (ddp nums).length ∧ 1 ≤ npF nums := by
  cases nums with
  | nil => exact absurd rfl hne
  | cons a l =>
    have w := maxI_le l a
    have hm : maxI a l ∈ a :: l := by
      rcases w.2 with q | q
      · rw [q]; exact List.mem_cons_self
      · exact List.mem_cons_of_mem _ q
    have h1 := canon_lt (l := a :: l) (v := maxI a l) (by rw [hc]; exact hm)
    have hd : 0 < (ddp (a :: l)).length := List.length_pos_of_mem (ddp_mem.mpr (List.mem_cons_self (a := a) (l := l)))
    have h2 := canon_onto (l := a :: l) (k := (ddp (a :: l)).length - 1) (by omega)
    rw [hc] at h2
    have h3 : (((ddp (a :: l)).length - 1 : Nat) : Int) ≤ maxI a l := by
      rcases List.mem_cons.mp h2 with q | q
      · rw [q]; exact w.1.1
      · exact w.1.2 _ q
    show maxI a l + 1 = _ ∧ 1 ≤ maxI a l + 1
    omega
def muE (m : Nat) (env : Env) (h : IH) : Nat := match (env[5]? : Option (Option IV)) with
  | some (some (IV.ref n)) => match h[n]? with
    | some (.lst xs) => match intsOf xs with
      | some l => mu m l
      | none => 0
    | _ => 0
  | _ => 0
theorem prs_len (m : Nat) : (prs m).length = m * m := by
  unfold prs
  have : ∀ l : List Nat, (l.flatMap fun a => (List.range m).map fun b => (a, b)).length = l.length * m := fun l => by
    induction l with
    | nil => simp
    | cons a l ih => rw [List.flatMap_cons, List.length_append, ih, List.length_cons, Nat.succ_mul]; simp; omega
  rw [this, List.length_range]
theorem imF_at {t : Tb} {s : St} {g : Int} (g0 : 0 ≤ g) (g1 : g < t.many) : (imF t s).getD g.toNat 0 = ledF t s g := by
  unfold imF
  rw [List.getD_eq_getElem?_getD, map_at (by omega)]
  simp
  rw [Int.max_eq_left g0]
theorem imF_len (t : Tb) (s : St) : (imF t s).length = t.many.toNat := by unfold imF; rw [List.length_map, rngI_len]
theorem zip_sg {t : Tb} {nums : List Int} {rs : List Nat} (hl : rs.length = (stepsF t).length) {g : Int} (g0 : 0 ≤ g) (g1 : g < t.many) : (rs.zip ((stepsF t).map (imF t))).map (fun p => IV.int (nums.getD (p.2.getD g.toNat 0).toNat 0)) = (sgF t nums g).map IV.int := by
  have : (fun p : Nat × List Int => IV.int (nums.getD (p.2.getD g.toNat 0).toNat 0)) = (fun l : List Int => IV.int (nums.getD (l.getD g.toNat 0).toNat 0)) ∘ Prod.snd := rfl
  rw [this, ← List.map_map, List.map_snd_zip (by rw [List.length_map]; omega), List.map_map]
  unfold sgF
  rw [List.map_map]
  refine List.map_congr_left fun s _ => ?_
  simp only [Function.comp]
  rw [imF_at g0 g1]
theorem alike_eq {t : Tb} (ht : TbOk 9 t) (nd : (t.conns.map (·.1)).Nodup) (hn : t.conns.length ≤ 16) (h : IH) : WE (f_alike [tbI t] h) fun v h' => ∃ k : Nat, itF t (itK t k) = itK t k ∧ v = partsI t (itK t k) ∧ Gr h h' := by
  have m0 := ht.m0
  have m1 := ht.m1
  have sl : (stepsF t).length ≤ 288 := by
    have := flat_len (stC_len (m := t.many) m1) t.conns
    unfold stepsF
    omega
  unfold f_alike b_alike
  rw [WE_runF]
  refine WS.seq (M := fun e h1 => h = h1 ∧ e = [some (tbI t), some (.int t.many), some (.tup (t.wished.map IV.int)), some (.tup (t.conns.map cnI)), none, none, none, none, none, none, none, none, none]) (by simp [tbI, gTL, gsCons, gN, gsNil]) ?_
  rintro _ h1 ⟨rfl, rfl⟩
  refine WS.seq (M := fun e h1 => ∃ (n4 : Nat) (rs : List Nat) (r9 r10 : Option IV), h1[n4]? = some (.lst (rs.map IV.ref)) ∧ rs.length = (stepsF t).length ∧ Lsts h1 rs ((stepsF t).map (imF t)) ∧ Gr h h1 ∧ e = [some (tbI t), some (.int t.many), some (.tup (t.wished.map IV.int)), some (.tup (t.conns.map cnI)), some (.ref n4), none, none, none, none, r9, r10, none, none]) ?_ ?_
  · simp
    refine (images_of_eq ht nd hn h).mono fun v h1 ⟨n, rs, ev, en, lr, ls, g1⟩ => ?_
    subst ev
    rw [seqIt_ref en]
    refine comp_itH (xs := (stepsF t).zip rs) (fun p => .tup [stI p.1, .ref p.2]) (fun p => .ref p.2) (by rw [List.length_zip]; omega) (fun i h' g => by rw [refIt_nxt (g.get en)]) (fun a h' ha g => ⟨_, rfl, ?_⟩) ?_
    · simp [wipeE]
    have e : ((stepsF t).zip rs).map (fun p => IV.ref p.2) = rs.map IV.ref := by
      have : (fun p : St × Nat => IV.ref p.2) = IV.ref ∘ Prod.snd := rfl
      rw [this, ← List.map_map, List.map_snd_zip (by omega)]
    rw [e]
    exact ⟨h1.length, rs, by simp, lr, ls.gr (Gr.app _ _), g1.trans (Gr.app _ _), rfl⟩
  rintro _ h1 ⟨n4, rs, r9, r10, e4, lr, ls, g1, rfl⟩
  refine WS.seq (M := fun e h2 => ∃ (n5 : Nat) (r11 : Option IV), h2[n5]? = some (.lst ((itK t 0).map IV.int)) ∧ Gr h1 h2 ∧ e = [some (tbI t), some (.int t.many), some (.tup (t.wished.map IV.int)), some (.tup (t.conns.map cnI)), some (.ref n4), some (.ref n5), none, none, none, r9, r10, r11, none]) ?_ ?_
  · simp
    refine ⟨by omega, ?_⟩
    refine comp_itH (xs := rngI t.many) IV.int (fun g => .bl (decide (g ∈ t.wished))) (by rw [rngI_len]; omega) hit_range (fun a h' ha g => ⟨_, rfl, ?_⟩) ?_
    · simp [wipeE, inO_ints]
    refine (numbered_eq PyData.bool 0 (by omega) _ ((rngI t.many).map fun g => decide (g ∈ t.wished)) h1.length _ (by simp; rfl) (by rw [List.length_map, rngI_len]; omega) (fun h' g => ?_) (fun b _ => Shp.bool b 0) (fun a _ b _ => by
      simp [PyData.eqv]
      cases a <;> cases b <;> rfl)).mono fun v h2 ⟨n5, ev, _, e5, g2⟩ => ?_
    · have := els_bl h' ((rngI t.many).map fun g => decide (g ∈ t.wished))
      rwa [List.map_map] at this
    · subst ev
      exact ⟨n5, e5, (Gr.app _ _).trans g2, rfl⟩
  rintro _ h2 ⟨n5, r11, e5, g2, rfl⟩
  have e42 := g2.get e4
  have ls2 := ls.gr g2
  have g12 := g1.trans g2
  clear g1 g2 e4 ls h1
  refine WS.seq (M := fun e h3 => ∃ (k n5 : Nat) (r6 r7 r10 r11 : Option IV), itF t (itK t k) = itK t k ∧ h3[n5]? = some (.lst ((itK t k).map IV.int)) ∧ Gr h2 h3 ∧ e = [some (tbI t), some (.int t.many), some (.tup (t.wished.map IV.int)), some (.tup (t.conns.map cnI)), some (.ref n4), some (.ref n5), r6, r7, none, r9, r10, r11, none]) ?_ ?_
  · refine WS_while (I := fun e h3 => ∃ (k n5 : Nat) (r6 r7 r10 r11 : Option IV), h3[n5]? = some (.lst ((itK t k).map IV.int)) ∧ Gr h2 h3 ∧ e = [some (tbI t), some (.int t.many), some (.tup (t.wished.map IV.int)), some (.tup (t.conns.map cnI)), some (.ref n4), some (.ref n5), r6, r7, none, r9, r10, r11, none]) (μ := muE t.many.toNat) ?_ FU _ _ ⟨0, n5, none, none, r10, r11, e5, Gr.refl _, rfl⟩ ?_
    · rintro e h3 ⟨k, n5, r6, r7, r10, r11, e5, g3, rfl⟩
      have mu3 : muE t.many.toNat [some (tbI t), some (.int t.many), some (.tup (t.wished.map IV.int)), some (.tup (t.conns.map cnI)), some (.ref n4), some (.ref n5), r6, r7, none, r9, r10, r11, none] h3 = mu t.many.toNat (itK t k) := by
        unfold muE
        simp only [List.getElem?_cons_succ, List.getElem?_cons_zero, e5, intsOf_map]
      rw [mu3]
      refine WE.mono (Q := fun k h' => k = true ∧ h3 = h') (by simp) fun kk h' ⟨ek, eh⟩ => ?_
      subst ek eh
      rw [if_pos rfl]
      have nl := itK_len m0 k
      have hc := itK_canon t k
      have hmu := itF_mu nl hc
      have ek1 : itK t (k + 1) = itF t (itK t k) := rfl
      have e43 := g3.get e42
      have ls3 := ls2.gr g3
      generalize hnums : itK t k = nums at *
      refine WS.seq (M := fun e h4 => ∃ (n6 : Nat) (rs6 : List Nat) (r10 r11 : Option IV), h4[n6]? = some (.lst (rs6.map IV.ref)) ∧ Lsts h4 rs6 ((rngI t.many).map (sgF t nums)) ∧ Gr h3 h4 ∧ e = [some (tbI t), some (.int t.many), some (.tup (t.wished.map IV.int)), some (.tup (t.conns.map cnI)), some (.ref n4), some (.ref n5), some (.ref n6), r7, none, r9, r10, r11, none]) ?_ ?_
      · simp
        refine ⟨by omega, ?_⟩
        refine comp_grow (xs := rngI t.many) IV.int (fun i ys a => ∃ rs6 : List Nat, rs6.length = i ∧ ys = rs6.map IV.ref ∧ Lsts a rs6 (((rngI t.many).take i).map (sgF t nums)) ∧ ∀ r ∈ rs6, r ≠ h3.length) (by rw [rngI_len]; omega) hit_range ?_ ?_ ?_ ?_ ?_
        · rintro i ys a b ⟨rs6, q1, q2, q3, q4⟩ d
          exact ⟨rs6, q1, q2, q3.dr d q4, q4⟩
        · intro a; exact ⟨[], rfl, rfl, trivial, by simp⟩
        · rintro i ys a ⟨rs6, q1, q2, q3, q4⟩; subst q2; simp; omega
        · rintro i g ys h4 hg ⟨rs6, q1, q2, q3, q4⟩ g4 hl4
          have hgm := rngI_mem'.mp (List.mem_of_getElem? hg)
          refine ⟨_, rfl, ?_⟩
          simp [wipeE]
          rw [seqIt_ref (g4.get e43)]
          refine comp_itH (xs := rs.zip ((stepsF t).map (imF t))) (fun p => .ref p.1) (fun p => .int (nums.getD (p.2.getD g.toNat 0).toNat 0)) (by rw [List.length_zip]; omega) (fun i h' g' => by
            rw [refIt_nxt (g'.get (g4.get e43))]
            have : (fun p : Nat × List Int => IV.ref p.1) = IV.ref ∘ Prod.fst := rfl
            rw [this, ← List.map_map, List.map_fst_zip (by rw [List.length_map]; omega)]) (fun p h' hp g' => ⟨_, rfl, ?_⟩) ?_
          · have ep := (ls3.gr (g4.trans g')).zip hp
            obtain ⟨s, hs, ess⟩ := List.mem_map.mp (List.of_mem_zip hp).2
            have hso := stepsF_ok hs
            have hld := led_ok ht nd hso hgm.1 hgm.2
            have hle := imF_at (s := s) hgm.1 hgm.2
            rw [ess] at hle
            have lp : p.2.length = t.many.toNat := by rw [← ess]; exact imF_len t s
            simp [wipeE, -List.getD_eq_getElem?_getD]
            rw [ixG ep hgm.1 (by omega), WO_some, ixG (gs := nums) ((g4.trans g').get e5) (by rw [hle]; exact hld.1) (by rw [hle]; omega), WO_some]
            simp
          rw [zip_sg lr hgm.1 hgm.2]
          refine ⟨Gr.app _ _, rs6 ++ [h4.length], by simp [q1], by simp [q2], ?_, fun r hr => ?_⟩
          · rw [← List.map_take, List.take_add_one, hg, Option.toList_some, List.map_append]
            exact (q3.gr (Gr.app _ _)).app ⟨by simp, trivial⟩
          · rcases List.mem_append.mp hr with q | q
            · exact q4 r q
            · rw [List.mem_singleton.mp q]; omega
        · rintro ys h4 ⟨rs6, q1, q2, q3, q4⟩ g4 hl4 e4
          rw [List.take_length] at q3
          subst q2
          first | exact ⟨h3.length, rs6, e4, q3, g4, rfl⟩ | exact ⟨h3.length, rs6, e4, q3, g4, _, _, rfl⟩
      rintro _ h4 ⟨n6, rs6, r10, r11, e6, ls6, g4, rfl⟩
      have l6 := ls6.len
      rw [List.length_map, rngI_len] at l6
      refine WS.seq (M := fun e h5 => ∃ (n7 : Nat) (r11 : Option IV), h5[n7]? = some (.lst ((itF t nums).map IV.int)) ∧ Gr h4 h5 ∧ e = [some (tbI t), some (.int t.many), some (.tup (t.wished.map IV.int)), some (.tup (t.conns.map cnI)), some (.ref n4), some (.ref n5), some (.ref n6), some (.ref n7), none, r9, r10, r11, none]) ?_ ?_
      · simp
        refine ⟨by omega, ?_⟩
        refine comp_grow (xs := rngI t.many) IV.int (fun i ys a => ∃ rs7 : List Nat, rs7.length = i ∧ ys = rs7.map IV.ref ∧ Lsts a rs7 (((rngI t.many).take i).map fun g => nums.getD g.toNat 0 :: sgF t nums g) ∧ ∀ r ∈ rs7, r ≠ h4.length) (by rw [rngI_len]; omega) hit_range ?_ ?_ ?_ ?_ ?_
        · rintro i ys a b ⟨rs7, q1, q2, q3, q4⟩ d
          exact ⟨rs7, q1, q2, q3.dr d q4, q4⟩
        · intro a; exact ⟨[], rfl, rfl, trivial, by simp⟩
        · rintro i ys a ⟨rs7, q1, q2, q3, q4⟩; subst q2; simp; omega
        · rintro i g ys h5 hg ⟨rs7, q1, q2, q3, q4⟩ g5 hl5
          have hgm := rngI_mem'.mp (List.mem_of_getElem? hg)
          refine ⟨_, rfl, ?_⟩
          have h6 : rs6[g.toNat]? = some (rs6.getD g.toNat 0) := by rw [List.getD_eq_getElem?_getD, List.getElem?_eq_getElem (by omega)]; rfl
          obtain ⟨row, erow, er6⟩ := (ls6.gr g5).get h6
          rw [map_at (by omega)] at erow
          have erow : sgF t nums g = row := by
            have := Option.some.inj erow
            rwa [Int.toNat_of_nonneg hgm.1] at this
          subst erow
          have gA := Gr.app h5 [IO.lst [.int (nums.getD g.toNat 0)]]
          have i6 := ixQ_ref (h := h5 ++ [IO.lst [.int (nums.getD g.toNat 0)]]) (k := g.toNat) (v := .ref (rs6.getD g.toNat 0)) (gA.get (g5.get e6)) (by rw [List.getElem?_map, h6]; rfl)
          rw [Int.toNat_of_nonneg hgm.1] at i6
          simp [wipeE, -List.getD_eq_getElem?_getD]
          rw [ixG (gs := nums) ((g4.trans g5).get e5) hgm.1 (by omega), WO_some]
          rw [i6, WO_some, addO_ref (xs := [.int (nums.getD g.toNat 0)]) (ys := (sgF t nums g).map IV.int) (by simp) (gA.get er6) (by simp [sgF]; omega), WO_some]
          refine ⟨gA.trans (Gr.app _ _), rs7 ++ [h5.length + 1], by simp [q1], by simp [q2], ?_, fun r hr => ?_⟩
          · rw [← List.map_take, List.take_add_one, hg, Option.toList_some, List.map_append]
            exact (q3.gr (gA.trans (Gr.app _ _))).app ⟨by simp, trivial⟩
          · rcases List.mem_append.mp hr with q | q
            · exact q4 r q
            · rw [List.mem_singleton.mp q]; omega
        · rintro ys h5 ⟨rs7, q1, q2, q3, q4⟩ g5 hl5 e7
          rw [List.take_length] at q3
          subst q2
          refine (numbered_eq (fun l : List Int => PyData.list (l.map PyData.int)) 1 (by omega) _ ((rngI t.many).map fun g => nums.getD g.toNat 0 :: sgF t nums g) h4.length h5 e7 (by rw [List.length_map, rngI_len]; omega) (fun h' g => els_ls (q3.gr g)) (fun b _ => shp_ints b 0) (fun a _ b _ => by rw [PyData.eqv, eqv_ints])).mono fun v h6 ⟨n7, ev, _, e7, g6⟩ => ?_
          subst ev
          first | exact ⟨n7, e7, g5.trans g6, rfl⟩ | exact ⟨n7, e7, g5.trans g6, _, rfl⟩
      rintro _ h5 ⟨n7, r11, e7, g5, rfl⟩
      have g35 := g4.trans g5
      by_cases he : itF t nums = nums
      · simp
        rw [eqO_ints e7 (g35.get e5), WO_some, decide_eq_true he]
        simp
        exact ⟨k, by rw [hnums]; exact he, by rw [hnums]; exact g35.get e5, g3.trans g35⟩
      · simp
        rw [eqO_ints e7 (g35.get e5), WO_some, decide_eq_false he]
        simp
        refine ⟨⟨⟨k + 1, by rw [ek1]; exact e7⟩, g3.trans g35⟩, ?_⟩
        have mu5 : ∀ e6 : Option IV, muE t.many.toNat [some (tbI t), some (.int t.many), some (.tup (t.wished.map IV.int)), some (.tup (t.conns.map cnI)), some (.ref n4), some (.ref n7), some (.ref n6), some (.ref n7), none, r9, r10, e6, none] h5 = mu t.many.toNat (itF t nums) := fun _ => by
          unfold muE
          simp only [List.getElem?_cons_succ, List.getElem?_cons_zero, e7, intsOf_map]
        rw [mu5]
        rcases Nat.lt_or_eq_of_le hmu.1 with q | q
        · exact q
        · exact absurd (hmu.2 q) he
    · refine FU_lt64 ?_
      have mu0 : muE t.many.toNat [some (tbI t), some (.int t.many), some (.tup (t.wished.map IV.int)), some (.tup (t.conns.map cnI)), some (.ref n4), some (.ref n5), none, none, none, r9, r10, r11, none] h2 = mu t.many.toNat (itK t 0) := by
        unfold muE
        simp only [List.getElem?_cons_succ, List.getElem?_cons_zero, e5, intsOf_map]
      rw [mu0]
      have : mu t.many.toNat (itK t 0) ≤ (prs t.many.toNat).length := List.countP_le_length
      rw [prs_len] at this
      have := Nat.mul_le_mul (show t.many.toNat ≤ 9 by omega) (show t.many.toNat ≤ 9 by omega)
      omega
  rintro _ h3 ⟨k, n5, r6, r7, r10, r11, hfix, e5, g3, rfl⟩
  have nl := itK_len m0 k
  have hc := itK_canon t k
  generalize hnums : itK t k = nums at *
  have hne : nums ≠ [] := fun q => by rw [q] at nl; simp at nl; omega
  obtain ⟨a, l, enl⟩ : ∃ a l, nums = a :: l := by
    cases nums with
    | nil => exact absurd rfl hne
    | cons a l => exact ⟨a, l, rfl⟩
  have np := npF_eq hne hc
  have npl : npF nums = maxI a l + 1 := by rw [enl]; rfl
  have dl : (ddp nums).length ≤ nums.length := nd_len (ddp_nd nums) fun x hx => ddp_mem.mp hx
  refine WS.seq (M := fun e h4 => ∃ (n8 : Nat) (r6 r7 r10 r11 r12 : Option IV), h4[n8]? = some (.lst ((rngI (npF nums)).map fun k => .tup ((ptF t nums k).map IV.int))) ∧ Gr h3 h4 ∧ e = [some (tbI t), some (.int t.many), some (.tup (t.wished.map IV.int)), some (.tup (t.conns.map cnI)), some (.ref n4), some (.ref n5), r6, r7, some (.ref n8), r9, r10, r11, r12]) ?_ ?_
  · have e5' := e5
    rw [enl] at e5'
    simp
    rw [maxL_ref e5', WO_some]
    simp
    rw [← npl]
    refine ⟨by omega, ?_⟩
    refine comp_grow (xs := rngI (npF nums)) IV.int (fun i ys _ => ys = ((rngI (npF nums)).take i).map fun k => .tup ((ptF t nums k).map IV.int)) (by rw [rngI_len]; omega) hit_range ?_ ?_ ?_ ?_ ?_
    · rintro i ys a b q _; exact q
    · intro a; rfl
    · rintro i ys a q; subst q; simp; omega
    · rintro i g ys h4 hg q g4 hl4
      refine ⟨_, rfl, ?_⟩
      simp [wipeE]
      refine ⟨by omega, ?_⟩
      refine comp_filtG (n := t.many.toNat) (fun x => decide (nums.getD x.toNat 0 = g)) (by omega) (fun j h' hj g' => ?_) (fun j h' hj g' => ?_) ?_
      · simp [wipeE, -List.getD_eq_getElem?_getD]
        rw [ixG (gs := nums) ((g4.trans g').get e5) (by omega) (by omega), WO_some]
        simp
      · simp [wipeE]
      · rw [tupleO_ref (xs := (((List.range t.many.toNat).map fun k => ((k : Nat) : Int)).filter fun x => decide (nums.getD x.toNat 0 = g)).map IV.int) (by simp), WO_some]
        refine ⟨Gr.app _ _, ?_⟩
        rw [q, ← List.map_take, List.take_add_one, hg, Option.toList_some, List.map_append]
        rfl
    · rintro ys h4 q g4 hl4 e8
      rw [List.take_length] at q
      subst q
      exact ⟨h3.length, e8, g4, rfl⟩
  rintro _ h4 ⟨n8, r6, r7, r10, r11, r12, e8, g4, rfl⟩
  simp [tupleO_ref e8]
  exact ⟨k, by rw [hnums]; exact hfix, by rw [hnums]; rfl, g12.trans (g3.trans g4)⟩
/-- the numbers that alike tells -/
structure Alk (t : Tb) (nums : List Int) : Prop where
  len : nums.length = t.many.toNat
  np0 : 1 ≤ npF nums
  np1 : npF nums ≤ t.many
  lt : ∀ g, 0 ≤ g → g < t.many → 0 ≤ nums.getD g.toNat 0 ∧ nums.getD g.toNat 0 < npF nums
  onto : ∀ k, 0 ≤ k → k < npF nums → ∃ g, 0 ≤ g ∧ g < t.many ∧ nums.getD g.toNat 0 = k
  wish : ∀ a b, 0 ≤ a → a < t.many → 0 ≤ b → b < t.many → nums.getD a.toNat 0 = nums.getD b.toNat 0 → (a ∈ t.wished ↔ b ∈ t.wished)
  stab : ∀ s ∈ stepsF t, ∀ a b, 0 ≤ a → a < t.many → 0 ≤ b → b < t.many → nums.getD a.toNat 0 = nums.getD b.toNat 0 → nums.getD (ledF t s a).toNat 0 = nums.getD (ledF t s b).toNat 0
theorem alk_of {t : Tb} (m0 : 1 ≤ t.many) {k : Nat} (hfix : itF t (itK t k) = itK t k) : Alk t (itK t k) := by
  have nl := itK_len m0 k
  have hc := itK_canon t k
  have hw := fun {a b : Nat} => itK_wish (t := t) k (a := a) (b := b)
  generalize itK t k = nums at *
  have hne : nums ≠ [] := fun q => by rw [q] at nl; simp at nl; omega
  have np := npF_eq hne hc
  have dl : (ddp nums).length ≤ nums.length := nd_len (ddp_nd nums) fun x hx => ddp_mem.mp hx
  have at_ : ∀ g : Int, 0 ≤ g → g < t.many → nums.getD g.toNat 0 ∈ nums := fun g g0 g1 => by
    have : g.toNat < nums.length := by omega
    rw [List.getD_eq_getElem?_getD, List.getElem?_eq_getElem this]
    exact List.getElem_mem this
  refine ⟨nl, np.2, by omega, fun g g0 g1 => ?_, fun k k0 k1 => ?_, fun a b a0 a1 b0 b1 e => ?_, fun s hs a b a0 a1 b0 b1 e => ?_⟩
  · have := canon_lt (l := nums) (v := nums.getD g.toNat 0) (by rw [hc]; exact at_ g g0 g1)
    omega
  · have := canon_onto (l := nums) (k := k.toNat) (by omega)
    rw [hc, Int.toNat_of_nonneg k0] at this
    obtain ⟨i, hi⟩ := List.getElem?_of_mem this
    have hil := (List.getElem?_eq_some_iff.mp hi).1
    refine ⟨i, by omega, by omega, ?_⟩
    rw [List.getD_eq_getElem?_getD, Int.toNat_natCast, hi]
    rfl
  · have := hw (a := a.toNat) (b := b.toNat) (by omega) (by omega) e
    rwa [Int.toNat_of_nonneg a0, Int.toNat_of_nonneg b0] at this
  · have := (itF_ref (t := t) (nums := nums) (a := a.toNat) (b := b.toNat) (by omega) (by omega) (by rw [hfix]; exact e)).2
    rw [Int.toNat_of_nonneg a0, Int.toNat_of_nonneg b0] at this
    unfold sgF at this
    exact List.map_inj_left.mp this s hs
theorem pt_mem {t : Tb} {nums : List Int} {k g : Int} : g ∈ ptF t nums k ↔ (0 ≤ g ∧ g < t.many) ∧ nums.getD g.toNat 0 = k := by
  unfold ptF
  rw [List.mem_filter, rngI_mem', decide_eq_true_iff]
def fstF (t : Tb) (nums : List Int) (k : Int) : Int := (ptF t nums k).headD 0
theorem fst_ok {t : Tb} {nums : List Int} (A : Alk t nums) {k : Int} (k0 : 0 ≤ k) (k1 : k < npF nums) : (0 ≤ fstF t nums k ∧ fstF t nums k < t.many) ∧ nums.getD (fstF t nums k).toNat 0 = k ∧ ∃ l, ptF t nums k = fstF t nums k :: l := by
  obtain ⟨g, g0, g1, e⟩ := A.onto k k0 k1
  have hm : g ∈ ptF t nums k := pt_mem.mpr ⟨⟨g0, g1⟩, e⟩
  cases hp : ptF t nums k with
  | nil => rw [hp] at hm; cases hm
  | cons a l =>
    have : a ∈ ptF t nums k := by rw [hp]; exact List.mem_cons_self
    have := pt_mem.mp this
    have ef : fstF t nums k = a := by unfold fstF; rw [hp]; rfl
    rw [ef]
    exact ⟨this.1, this.2, l, rfl⟩
theorem home_idx {np : Int} {v : Int} {n : Nat} {h : IH} (v0 : 0 ≤ v) (v1 : v < np) (e : h[n]? = some (.lst ((rngI np).map fun k => IV.bl (decide (v = k))))) : idxO (.ref n) [.bl true] h = some (.int v, h) := by
  have e2 : ((rngI np).map fun k => IV.bl (decide (v = k))).all flatI = true := by simp [flatI]
  have e3 : ((rngI np).map fun k => IV.bl (decide (v = k))).findIdx? (fun z => eqI z (.bl true)) = some v.toNat := by
    rw [List.findIdx?_eq_some_iff_getElem]
    have hl : v.toNat < ((rngI np).map fun k => IV.bl (decide (v = k))).length := by rw [List.length_map, rngI_len]; omega
    have at_ : ∀ j (hj : j < ((rngI np).map fun k => IV.bl (decide (v = k))).length), ((rngI np).map fun k => IV.bl (decide (v = k)))[j] = IV.bl (decide (v = (j : Int))) := fun j hj => by
      rw [List.length_map, rngI_len] at hj
      have := map_at (m := np) (f := fun k => IV.bl (decide (v = k))) hj
      exact (List.getElem?_eq_some_iff.mp this).2
    refine ⟨hl, ?_, fun j hj => ?_⟩
    · rw [at_, Int.toNat_of_nonneg v0]
      simp [eqI]
    · rw [at_]
      have : ¬ v = (j : Int) := by omega
      simp [eqI, this]
  unfold idxO
  simp only [seqOf, lstOf, e, e2, flatI, e3]
  simp
  exact Int.max_eq_left v0
/-- [[g in part for part in parts].index(True) for g in range(many)] -/
theorem homes_comp {t : Tb} {nums : List Int} (A : Alk t nums) (m1 : t.many ≤ 9) {env : Env} {b : Env → M IV} {i0 : Nat} {h : IH} {Q : IV → IH → Prop}
    (hb : ∀ g h', 0 ≤ g → g < t.many → Gr h h' → WE (b (env.set i0 (some (.int g))) h') fun y h2 => Gr h' h2 ∧ y = .int (nums.getD g.toNat 0))
    (hQ : ∀ h', Gr h h' → h'[h.length]? = some (.lst (nums.map IV.int)) → Q (.ref h.length) h') :
    WE (compLoop (rngIt 0 t.many.toNat) (gN i0) cYes b env h.length FU 0 (h ++ [.lst []])) Q := by
  refine comp_grow (xs := rngI t.many) IV.int (fun i ys _ => ys = ((rngI t.many).take i).map fun g => .int (nums.getD g.toNat 0)) (by rw [rngI_len]; omega) hit_range ?_ ?_ ?_ ?_ ?_
  · rintro i ys a b q _; exact q
  · intro a; rfl
  · rintro i ys a q; subst q; rw [List.length_map, List.length_take]; omega
  · rintro i g ys h4 hg q g4 hl4
    have hgm := rngI_mem'.mp (List.mem_of_getElem? hg)
    refine ⟨_, rfl, (hb g h4 hgm.1 hgm.2 g4).mono fun y h5 ⟨g5, ey⟩ => ⟨g5, ?_⟩⟩
    subst ey q
    rw [List.take_add_one, hg, Option.toList_some, List.map_append]
    rfl
  · rintro ys h4 q g4 hl4 e8
    rw [List.take_length] at q
    subst q
    refine hQ h4 g4 ?_
    rw [e8]
    congr 2
    refine List.ext_getElem (by rw [List.length_map, List.length_map, rngI_len, A.len]) fun i h1 h2 => ?_
    have hi : i < t.many.toNat := by rw [List.length_map, rngI_len] at h1; exact h1
    have h3 : i < nums.length := by rw [A.len]; exact hi
    have := map_at (m := t.many) (f := fun g => IV.int (nums.getD g.toNat 0)) hi
    rw [(List.getElem?_eq_some_iff.mp this).2, List.getElem_map, Int.toNat_natCast, List.getD_eq_getElem?_getD, List.getElem?_eq_getElem h3]
    rfl
def shC (t : Tb) (nums : List Int) (c : Str × Int × List Int) : Str × Int × List Int := (c.1, c.2.1, (rowsG (npF nums) c.2.1.toNat).map fun r => nums.getD (cellAt t.many c.2.2 (r.map (fstF t nums))).toNat 0)
def shF (t : Tb) (nums : List Int) : Tb := ⟨npF nums, (rngI (npF nums)).filter fun k => decide (fstF t nums k ∈ t.wished), t.conns.map (shC t nums)⟩
theorem row_fst {t : Tb} {nums : List Int} (A : Alk t nums) {n : Nat} {r : List Int} (hr : RowOk (npF nums) n r) : RowOk t.many n (r.map (fstF t nums)) := by
  refine ⟨by simpa using hr.1, fun g hg => ?_⟩
  obtain ⟨k, hk, rfl⟩ := List.mem_map.mp hg
  exact (fst_ok A (hr.2 k hk).1 (hr.2 k hk).2).1
theorem shF_ok {t : Tb} (ht : TbOk 9 t) {nums : List Int} (A : Alk t nums) : TbOk 9 (shF t nums) ∧ shL (shF t nums) = shL t := by
  have m1 := ht.m1
  have p1 := A.np1
  refine ⟨⟨A.np0, by show npF nums ≤ 9; omega, ?_, ?_, by show (t.conns.map _).length ≤ 40; rw [List.length_map]; exact ht.nc, (rngI_pw _).filter _, ?_⟩, ?_⟩
  · intro x hx
    exact rngI_mem'.mp (List.mem_filter.mp hx).1
  · intro c hc
    obtain ⟨d, hd, rfl⟩ := List.mem_map.mp hc
    have ck := ht.cok d hd
    refine ⟨ck.nm, ck.p0, ck.p1, ?_, ?_⟩
    · show ((rowsG _ _).map _).length = (npF nums ^ d.2.1.toNat).toNat
      rw [List.length_map, rowsG_len, pow_toNat A.np0]
    · intro x hx
      obtain ⟨r, hr, rfl⟩ := List.mem_map.mp hx
      have := ck.cells _ (cellAt_mem ht.m0 ck.len (row_fst A (rowsG_ok _ _ r hr)))
      exact A.lt _ this.1 this.2
  · refine Nat.le_trans (List.length_filter_le _ _) ?_
    rw [rngI_len]
    omega
  · unfold shL
    show (t.conns.map _).map _ = _
    rw [List.map_map]
    rfl
theorem step_uni {t : Tb} {c : Str × Int × List Int} (hc : c ∈ t.conns) (h1 : c.2.1 = 1) : ((c.1, 0, none) : St) ∈ stepsF t := by
  unfold stepsF
  refine List.mem_flatMap.mpr ⟨c, hc, ?_⟩
  unfold stC
  rw [if_pos h1]
  exact List.mem_singleton.mpr rfl
theorem step_bin {t : Tb} {c : Str × Int × List Int} (hc : c ∈ t.conns) (h2 : c.2.1 = 2) {o : Int} (o0 : 0 ≤ o) (o1 : o < t.many) : ((c.1, 0, some o) : St) ∈ stepsF t ∧ ((c.1, 1, some o) : St) ∈ stepsF t := by
  have : ∀ p ∈ [((c.1, 0, some o) : St), (c.1, 1, some o)], p ∈ stepsF t := fun p hp => by
    unfold stepsF
    refine List.mem_flatMap.mpr ⟨c, hc, ?_⟩
    unfold stC
    rw [if_neg (by omega), if_pos h2]
    exact List.mem_flatMap.mpr ⟨o, rngI_mem'.mpr ⟨o0, o1⟩, hp⟩
  exact ⟨this _ (by simp), this _ (by simp)⟩
/-- rows of alike grades lead to alike grades -/
theorem row_alike {t : Tb} (ht : TbOk 9 t) (nd : (t.conns.map (·.1)).Nodup) {nums : List Int} (A : Alk t nums) {c : Str × Int × List Int} (hc : c ∈ t.conns) {r q : List Int} (hr : RowOk t.many c.2.1.toNat r) (hq : RowOk t.many c.2.1.toNat q) (e : r.map (fun g => nums.getD g.toNat 0) = q.map fun g => nums.getD g.toNat 0) :
    nums.getD (cellAt t.many c.2.2 r).toNat 0 = nums.getD (cellAt t.many c.2.2 q).toNat 0 := by
  have ck := ht.cok c hc
  have cf := cellsF_eq nd hc
  have p0 := ck.p0
  have p1 := ck.p1
  have : c.2.1 = 0 ∨ c.2.1 = 1 ∨ c.2.1 = 2 := by omega
  rcases this with h | h | h
  · rw [h] at hr hq
    have e1 := List.eq_nil_of_length_eq_zero (l := r) hr.1
    have e2 := List.eq_nil_of_length_eq_zero (l := q) hq.1
    rw [e1, e2]
  · rw [h] at hr hq
    match r, q, hr, hq, e with
    | [x], [y], hr, hq, e =>
      have hx := hr.2 x (by simp)
      have hy := hq.2 y (by simp)
      have s := A.stab _ (step_uni hc h) x y hx.1 hx.2 hy.1 hy.2 (by simpa using e)
      unfold ledF at s
      simp only [cf] at s
      exact s
    | [], _, hr, _, _ => exact absurd hr.1 (by simp)
    | _ :: _ :: _, _, hr, _, _ => exact absurd hr.1 (by simp)
    | [_], [], _, hq, _ => exact absurd hq.1 (by simp)
    | [_], _ :: _ :: _, _, hq, _ => exact absurd hq.1 (by simp)
  · rw [h] at hr hq
    match r, q, hr, hq, e with
    | [x, x2], [y, y2], hr, hq, e =>
      have hx := hr.2 x (by simp)
      have hx2 := hr.2 x2 (by simp)
      have hy := hq.2 y (by simp)
      have hy2 := hq.2 y2 (by simp)
      rw [List.map_cons, List.map_cons, List.map_cons, List.map_cons] at e
      have e' := List.cons_eq_cons.mp e
      have e'' := (List.cons_eq_cons.mp e'.2).1
      have s1 := A.stab _ (step_bin hc h hx2.1 hx2.2).1 x y hx.1 hx.2 hy.1 hy.2 e'.1
      have s2 := A.stab _ (step_bin hc h hy.1 hy.2).2 x2 y2 hx2.1 hx2.2 hy2.1 hy2.2 e''
      unfold ledF at s1 s2
      simp only [cf] at s1 s2
      simp at s1 s2
      simp
      exact s1.trans s2
    | [], _, hr, _, _ => exact absurd hr.1 (by simp)
    | [_], _, hr, _, _ => exact absurd hr.1 (by simp)
    | _ :: _ :: _ :: _, _, hr, _, _ => exact absurd hr.1 (by simp)
    | [_, _], [], _, hq, _ => exact absurd hq.1 (by simp)
    | [_, _], [_], _, hq, _ => exact absurd hq.1 (by simp)
    | [_, _], _ :: _ :: _ :: _, _, hq, _ => exact absurd hq.1 (by simp)
theorem parts_at {t : Tb} {nums : List Int} {k : Int} (k0 : 0 ≤ k) (k1 : k < npF nums) (h : IH) : ixQ (partsI t nums) (.int k) h = some (.tup ((ptF t nums k).map IV.int), h) := by
  have := map_at (m := npF nums) (f := fun k => IV.tup ((ptF t nums k).map IV.int)) (a := k.toNat) (by omega)
  rw [Int.toNat_of_nonneg k0] at this
  have := ixQ_tup (h := h) (k := k.toNat) this
  rwa [Int.toNat_of_nonneg k0] at this
/-- the inner part of homes -/
theorem home_inner {t : Tb} {nums : List Int} (A : Alk t nums) (m1 : t.many ≤ 9) {g : Int} (g0 : 0 ≤ g) (g1 : g < t.many) {env : Env} {b : Env → M IV} {i0 : Nat} {h : IH}
    (hb : ∀ k h', 0 ≤ k → k < npF nums → WE (b (env.set i0 (some (.tup ((ptF t nums k).map IV.int)))) h') fun y h2 => y = .bl (decide (g ∈ ptF t nums k)) ∧ h2 = h') :
    WE (compLoop ⟨fun i _ => some ((rngI (npF nums)).map fun k => IV.tup ((ptF t nums k).map IV.int))[i]?⟩ (gN i0) cYes b env h.length FU 0 (h ++ [.lst []])) fun v h' => v = .ref h.length ∧ Gr h h' ∧ tyI "list" h' (.ref h.length) = true ∧ idxO (.ref h.length) [.bl true] h' = some (.int (nums.getD g.toNat 0), h') := by
  have p1 := A.np1
  have lt := A.lt g g0 g1
  refine comp_itH (xs := rngI (npF nums)) (fun k => IV.tup ((ptF t nums k).map IV.int)) (fun k => .bl (decide (g ∈ ptF t nums k))) (by rw [rngI_len]; omega) (fun i h' _ => rfl) (fun k h' hk _ => ⟨_, rfl, hb k h' (rngI_mem'.mp hk).1 (rngI_mem'.mp hk).2⟩) ?_
  have e : (rngI (npF nums)).map (fun k => IV.bl (decide (g ∈ ptF t nums k))) = (rngI (npF nums)).map fun k => IV.bl (decide (nums.getD g.toNat 0 = k)) := by
    refine List.map_congr_left fun k _ => ?_
    refine congrArg IV.bl (decide_eq_decide.mpr ?_)
    rw [pt_mem]
    exact ⟨fun q => q.2, fun q => ⟨⟨g0, g1⟩, q⟩⟩
  rw [e]
  have el : (h ++ [IO.lst ((rngI (npF nums)).map fun k => IV.bl (decide (nums.getD g.toNat 0 = k)))])[h.length]? = some (.lst ((rngI (npF nums)).map fun k => IV.bl (decide (nums.getD g.toNat 0 = k)))) := by simp
  exact ⟨rfl, Gr.app _ _, tyI_ref el, home_idx lt.1 lt.2 el⟩
/-- what the law's homs are -/
structure Hom (less big : Tb) (f : Int → Int) : Prop where
  sh : shL less = shL big
  ok : ∀ g, 0 ≤ g → g < less.many → 0 ≤ f g ∧ f g < big.many
  cell : ∀ (k : Nat) (c d : Str × Int × List Int), less.conns[k]? = some c → big.conns[k]? = some d → ∀ r, RowOk less.many c.2.1.toNat r → f (cellAt less.many c.2.2 r) = cellAt big.many d.2.2 (r.map f)
  wished : (rngI less.many).filter (fun k => decide (f k ∈ big.wished)) = less.wished
theorem hom_shrunk {t : Tb} (ht : TbOk 9 t) (nd : (t.conns.map (·.1)).Nodup) {nums : List Int} (A : Alk t nums) : Hom t (shF t nums) (fun g => nums.getD g.toNat 0) := by
  obtain ⟨ok, sh⟩ := shF_ok ht A
  have back : ∀ {n : Nat} {r : List Int}, RowOk (npF nums) n r → (r.map (fstF t nums)).map (fun g => nums.getD g.toNat 0) = r := fun {n r} hr => by
    rw [List.map_map]
    conv => rhs; rw [← List.map_id r]
    refine List.map_congr_left fun k hk => ?_
    exact (fst_ok A (hr.2 k hk).1 (hr.2 k hk).2).2.1
  refine ⟨sh.symm, fun g g0 g1 => A.lt g g0 g1, fun k c d hc hd r hr => ?_, ?_⟩
  · have : d = shC t nums c := by
      have : (t.conns.map (shC t nums))[k]? = some d := hd
      rw [List.getElem?_map, hc] at this
      exact (Option.some.inj this).symm
    subst this
    have hrf : RowOk (npF nums) c.2.1.toNat (r.map fun g => nums.getD g.toNat 0) := by
      refine ⟨by simpa using hr.1, fun g hg => ?_⟩
      obtain ⟨z, hz, rfl⟩ := List.mem_map.mp hg
      exact A.lt z (hr.2 z hz).1 (hr.2 z hz).2
    show _ = cellAt (npF nums) ((rowsG _ _).map _) _
    rw [cellAt_rows A.np0 _ hrf]
    exact row_alike ht nd A (List.mem_of_getElem? hc) hr (row_fst A hrf) (back hrf).symm
  · refine sorted_ext ((rngI_pw _).filter _) ht.wpw fun x => ?_
    rw [List.mem_filter, rngI_mem', decide_eq_true_iff]
    have key : 0 ≤ x ∧ x < t.many → (nums.getD x.toNat 0 ∈ (shF t nums).wished ↔ x ∈ t.wished) := fun hx => by
      have h1 := A.lt x hx.1 hx.2
      have h2 := fst_ok A h1.1 h1.2
      show _ ∈ (rngI _).filter _ ↔ _
      rw [List.mem_filter, rngI_mem', decide_eq_true_iff]
      have := A.wish _ x h2.1.1 h2.1.2 hx.1 hx.2 h2.2.1
      exact ⟨fun q => this.mp q.2, fun q => ⟨h1, this.mpr q⟩⟩
    exact ⟨fun q => (key q.1).mp q.2, fun q => ⟨ht.wok x q, (key (ht.wok x q)).mpr q⟩⟩
theorem ixT {cs : List Int} {k : Int} {h : IH} (h1 : k.toNat < cs.length) (h0 : 0 ≤ k) : ixQ (.tup (cs.map IV.int)) (.int k) h = some (.int (cs.getD k.toNat 0), h) := by
  have := ixQ_tup (h := h) (xs := cs.map IV.int) (k := k.toNat) (v := .int (cs.getD k.toNat 0)) (by rw [List.getElem?_map, List.getD_eq_getElem?_getD, List.getElem?_eq_getElem h1]; rfl)
  rwa [Int.toNat_of_nonneg h0] at this
theorem filter_nd {cs : List (Str × Int × List Int)} (n : (cs.map (·.1)).Nodup) {c : Str × Int × List Int} (h : c ∈ cs) : cs.filter (fun d => decide (d.1 = c.1)) = [c] := by
  induction cs with
  | nil => cases h
  | cons d cs ih =>
    rw [List.map_cons, List.nodup_cons] at n
    rcases List.mem_cons.mp h with e | hm
    · subst e
      rw [List.filter_cons_of_pos (by simp)]
      have : cs.filter (fun d => decide (d.1 = c.1)) = [] := by
        rw [List.filter_eq_nil_iff]
        intro x hx
        simp
        intro e
        exact n.1 (by rw [← e]; exact List.mem_map.mpr ⟨x, hx, rfl⟩)
      rw [this]
    · rw [List.filter_cons_of_neg (by simp; intro e; exact n.1 (by rw [e]; exact List.mem_map.mpr ⟨c, hm, rfl⟩))]
      exact ih n.2 hm
/-- a comprehension with a test that changes nothing -/
theorem comp_filtC {α : Type} {xs : List α} (enc : α → IV) (P : α → Bool) (F : α → IV) {it : IIt} {g : MG} {env : Env} {c : Env → M Bool} {b : Env → M IV} {h : IH} {Q : IV → IH → Prop} (hn : xs.length < 16777216)
    (hit : ∀ i h', it.nxt i h' = some ((xs.map enc)[i]?))
    (hs : ∀ a h', a ∈ xs → ∃ e1, g (enc a) env h' = some e1 ∧ WE (c e1 h') fun t h1 => t = P a ∧ h1 = h' ∧ (P a = true → WE (b e1 h') fun y h2 => y = F a ∧ h2 = h'))
    (hQ : Q (.ref h.length) (h ++ [.lst ((xs.filter P).map F)])) :
    WE (compLoop it g c b env h.length FU 0 (h ++ [.lst []])) Q := by
  refine WE_comp xs.length (fun k h' => h' = h ++ [.lst (((xs.take k).filter P).map F)]) ?_ ?_ FU 0 _ (Nat.zero_le _) (by simp) (FU_lt64 (by omega))
  · rintro k h' hk rfl
    have hx : xs[k]? = some xs[k] := List.getElem?_eq_getElem hk
    obtain ⟨e1, eg, w⟩ := hs xs[k] (h ++ [.lst (((xs.take k).filter P).map F)]) (List.getElem_mem hk)
    refine ⟨enc xs[k], by rw [hit, List.getElem?_map, hx]; rfl, e1, eg, ?_⟩
    refine w.mono fun t h1 ⟨et, eh, wb⟩ => ?_
    subst eh
    have er : (((xs.take (k + 1)).filter P).map F) = ((xs.take k).filter P).map F ++ (if P xs[k] = true then [F xs[k]] else []) := by
      rw [List.take_add_one, hx, Option.toList_some, List.filter_append, List.map_append]
      congr 1
      cases hP : P xs[k] <;> simp [hP]
    cases t with
    | false => rw [er, ← et]; simp
    | true =>
      rw [if_pos rfl]
      refine (wb et.symm).mono fun y h2 ⟨ey, eh⟩ => ?_
      subst ey eh
      refine ⟨_, by simp; rfl, ?_, ?_⟩
      · rw [List.length_map]
        refine Nat.lt_of_le_of_lt (List.length_filter_le _ _) ?_
        rw [List.length_take]
        omega
      · rw [er, ← et, List.set_append_right _ _ (Nat.le_refl _), Nat.sub_self]
        simp
  · rintro h' rfl
    refine ⟨by rw [hit, List.getElem?_map, List.getElem?_eq_none (Nat.le_refl _)]; rfl, ?_⟩
    rw [List.take_length]
    exact hQ
theorem for0 {g : MG} {b : MS} {env : Env} {h : IH} {N B C : Env → IH → Prop} {R : IV → IH → Prop} (q : N env h) : WS (forLoop (rngIt 0 0) g b FU 0 env h) N R B C := by
  refine WS_for 0 (fun _ e h' => e = env ∧ h' = h) (fun i _ _ hi => absurd hi (Nat.not_lt_zero _)) ?_ FU 0 _ _ (Nat.zero_le _) ⟨rfl, rfl⟩ (FU_lt64 (by omega))
  rintro env h ⟨rfl, rfl⟩
  exact ⟨by unfold rngIt; simp, q⟩
def kyP (m : Int) (p : Nat) : Int × Int := ((p : Int).fdiv m, (p : Int).fmod m)
def kyL (m : Int) (p : Nat) : List Int := [(p : Int).fdiv m, (p : Int).fmod m]
def dD (m : Int) (n : Nat) (D : Int → Int → Bool) : List (List Int × IV) := (List.range n).map fun p => (kyL m p, IV.bl (D (kyP m p).1 (kyP m p).2))
theorem ky_div {m : Int} (m0 : 1 ≤ m) (p : Nat) : (p : Int) = (kyP m p).1 * m + (kyP m p).2 ∧ 0 ≤ (kyP m p).1 ∧ 0 ≤ (kyP m p).2 ∧ (kyP m p).2 < m := by
  have h1 := Int.fdiv_eq_ediv_of_nonneg (p : Int) (show (0 : Int) ≤ m by omega)
  have h2 := Int.fmod_eq_emod_of_nonneg (p : Int) (show (0 : Int) ≤ m by omega)
  have h3 := Int.mul_ediv_add_emod (p : Int) m
  have h4 := Int.emod_nonneg (p : Int) (show m ≠ 0 by omega)
  have h5 := Int.emod_lt_of_pos (p : Int) (show (0 : Int) < m by omega)
  have h6 := Int.ediv_nonneg (show (0 : Int) ≤ p by omega) (show (0 : Int) ≤ m by omega)
  simp only [kyP, h1, h2]
  refine ⟨?_, h6, h4, h5⟩
  rw [Int.mul_comm]
  omega
theorem ky_inj {m : Int} (m0 : 1 ≤ m) {p q : Nat} (e : kyL m p = kyL m q) : p = q := by
  have h1 := (ky_div m0 p).1
  have h2 := (ky_div m0 q).1
  have e1 : (kyP m p).1 = (kyP m q).1 := by simp only [kyL, List.cons.injEq] at e; exact e.1
  have e2 : (kyP m p).2 = (kyP m q).2 := by simp only [kyL, List.cons.injEq] at e; exact e.2.1
  rw [e1, e2, ← h2] at h1
  omega
theorem ky_lt {m : Int} (m0 : 1 ≤ m) {p : Nat} (hp : p < m.toNat * m.toNat) : (kyP m p).1 < m := by
  obtain ⟨h1, h2, h3, h4⟩ := ky_div m0 p
  have hm : ((m.toNat : Nat) : Int) = m := Int.toNat_of_nonneg (by omega)
  have hp2 : (p : Int) < m * m := by
    have : (p : Int) < ((m.toNat * m.toNat : Nat) : Int) := by omega
    push_cast at this
    rwa [hm] at this
  false_or_by_contra
  rename_i hc
  have : m * m ≤ (kyP m p).1 * m := Int.mul_le_mul_of_nonneg_right (by omega) (by omega)
  omega
theorem ky_ex {m a b : Int} (m0 : 1 ≤ m) (a0 : 0 ≤ a) (a1 : a < m) (b0 : 0 ≤ b) (b1 : b < m) : ∃ p, p < m.toNat * m.toNat ∧ kyP m p = (a, b) := by
  have hm : ((m.toNat : Nat) : Int) = m := Int.toNat_of_nonneg (by omega)
  have q0 : 0 ≤ a * m + b := by have := Int.mul_nonneg a0 (show (0 : Int) ≤ m by omega); omega
  have q1 : a * m + b < m * m := by
    have : (a + 1) * m ≤ m * m := Int.mul_le_mul_of_nonneg_right (by omega) (by omega)
    rw [Int.add_mul] at this
    omega
  have e1 : (a * m + b) / m = a := by
    rw [Int.add_comm, Int.add_mul_ediv_right _ _ (by omega), Int.ediv_eq_zero_of_lt b0 b1]; omega
  have e2 : (a * m + b) % m = b := by
    rw [Int.add_comm, Int.add_mul_emod_self_right, Int.emod_eq_of_lt b0 b1]
  refine ⟨(a * m + b).toNat, ?_, ?_⟩
  · have : (((a * m + b).toNat : Nat) : Int) < ((m.toNat * m.toNat : Nat) : Int) := by
      push_cast
      rw [hm, Int.toNat_of_nonneg q0]
      exact q1
    omega
  · unfold kyP
    rw [Int.toNat_of_nonneg q0, Int.fdiv_eq_ediv_of_nonneg _ (show (0 : Int) ≤ m by omega), Int.fmod_eq_emod_of_nonneg _ (show (0 : Int) ≤ m by omega), e1, e2]
theorem kyL_eq {m : Int} {p : Nat} : kyL m p = [(kyP m p).1, (kyP m p).2] := rfl
theorem valI_of {κ : Type} [DecidableEq κ] {v : IV} {k : κ} : ∀ {kvs : List (κ × IV)}, (∃ kv ∈ kvs, kv.1 = k) → (∀ kv ∈ kvs, kv.1 = k → kv.2 = v) → valI kvs k = some v
  | [], ⟨_, h, _⟩, _ => by cases h
  | p :: kvs, ⟨kv, hm, hk⟩, ha => by
    unfold valI
    rw [List.find?_cons]
    by_cases q : p.1 = k
    · rw [decide_eq_true q]
      have := ha p List.mem_cons_self q
      simp [this]
    · rw [decide_eq_false q]
      rcases List.mem_cons.mp hm with e | hm
      · subst e; exact absurd hk q
      · exact valI_of ⟨kv, hm, hk⟩ fun kv h => ha kv (List.mem_cons_of_mem _ h)
theorem dD_val {m a b : Int} {D : Int → Int → Bool} (m0 : 1 ≤ m) (a0 : 0 ≤ a) (a1 : a < m) (b0 : 0 ≤ b) (b1 : b < m) : valI (dD m (m.toNat * m.toNat) D) [a, b] = some (.bl (D a b)) := by
  obtain ⟨p, hp, e⟩ := ky_ex m0 a0 a1 b0 b1
  refine valI_of ⟨(kyL m p, _), List.mem_map.mpr ⟨p, List.mem_range.mpr hp, rfl⟩, by rw [kyL_eq, e]⟩ fun kv hkv hk => ?_
  obtain ⟨q, _, rfl⟩ := List.mem_map.mp hkv
  rw [kyL_eq] at hk
  simp only [List.cons.injEq] at hk
  show IV.bl (D (kyP m q).1 (kyP m q).2) = _
  rw [hk.1, hk.2.1]
def upD (D : Int → Int → Bool) (a b : Int) : Int → Int → Bool := fun x y => if x = a ∧ y = b then true else D x y
theorem dD_put {m a b : Int} {D : Int → Int → Bool} (m0 : 1 ≤ m) (a0 : 0 ≤ a) (a1 : a < m) (b0 : 0 ≤ b) (b1 : b < m) : putI (dD m (m.toNat * m.toNat) D) [a, b] (.bl true) = dD m (m.toNat * m.toNat) (upD D a b) := by
  obtain ⟨p, hp, e⟩ := ky_ex m0 a0 a1 b0 b1
  unfold putI
  have hany : ((dD m (m.toNat * m.toNat) D).any fun kv => decide (kv.1 = [a, b])) = true :=
    List.any_eq_true.mpr ⟨(kyL m p, .bl (D (kyP m p).1 (kyP m p).2)), List.mem_map.mpr ⟨p, List.mem_range.mpr hp, rfl⟩, decide_eq_true (by rw [kyL_eq, e])⟩
  rw [if_pos hany]
  unfold dD
  rw [List.map_map]
  refine List.map_congr_left fun q _ => ?_
  simp only [Function.comp, kyL_eq, List.cons.injEq, and_true, upD]
  split <;> rfl
theorem dD_new {m : Int} {D : Int → Int → Bool} (m0 : 1 ≤ m) (n : Nat) {v : IV} (hv : v = .bl (D (kyP m n).1 (kyP m n).2)) : putI (dD m n D) (kyL m n) v = dD m (n + 1) D := by
  unfold putI
  rw [if_neg]
  · unfold dD
    rw [List.range_succ, List.map_append, hv]
    rfl
  · intro h
    obtain ⟨kv, hkv, hk⟩ := List.any_eq_true.mp h
    obtain ⟨q, hq, rfl⟩ := List.mem_map.mp hkv
    have := ky_inj m0 (of_decide_eq_true hk)
    have := List.mem_range.mp hq
    omega
theorem prsOf_map : ∀ l : List (Int × Int), prsOf (l.map fun p => [p.1, p.2]) = some l
  | [] => rfl
  | p :: l => by rw [List.map_cons, prsOf, prsOf_map l]; rfl
theorem dD_prs (m : Int) (n : Nat) (D : Int → Int → Bool) : prsOf ((dD m n D).map (·.1)) = some ((List.range n).map (kyP m)) := by
  have : (dD m n D).map (·.1) = ((List.range n).map (kyP m)).map fun p => [p.1, p.2] := by
    unfold dD
    rw [List.map_map, List.map_map]
    rfl
  rw [this, prsOf_map]
theorem prs_all {m a b : Int} (m0 : 1 ≤ m) : (a, b) ∈ srtP ((List.range (m.toNat * m.toNat)).map (kyP m)) ↔ (0 ≤ a ∧ a < m) ∧ 0 ≤ b ∧ b < m := by
  rw [(srtP_perm _).mem_iff, List.mem_map]
  constructor
  · rintro ⟨p, hp, e⟩
    have hp := List.mem_range.mp hp
    have h1 := ky_div m0 p
    have h2 := ky_lt m0 hp
    rw [e] at h1 h2
    exact ⟨⟨h1.2.1, h2⟩, h1.2.2.1, h1.2.2.2⟩
  · rintro ⟨⟨a0, a1⟩, b0, b1⟩
    obtain ⟨p, hp, e⟩ := ky_ex m0 a0 a1 b0 b1
    exact ⟨p, List.mem_range.mpr hp, e⟩
/-! the law of it -/
def numAt (nums : List Int) (g : Int) : Int := nums.getD g.toNat 0
def SndD (t : Tb) (nums : List Int) (D : Int → Int → Bool) : Prop := ∀ a b, 0 ≤ a → a < t.many → 0 ≤ b → b < t.many → D a b = true → numAt nums a ≠ numAt nums b
def BasD (t : Tb) (D : Int → Int → Bool) : Prop := ∀ a b, 0 ≤ a → a < t.many → 0 ≤ b → b < t.many → D a b = false → (a ∈ t.wished ↔ b ∈ t.wished)
def CloD (t : Tb) (D : Int → Int → Bool) : Prop := ∀ a b, 0 ≤ a → a < t.many → 0 ≤ b → b < t.many → D a b = false → ∀ s ∈ stepsF t, D (ledF t s a) (ledF t s b) = false
theorem unl_same {t : Tb} (ht : TbOk 9 t) (nd : (t.conns.map (·.1)).Nodup) {D : Int → Int → Bool} (bas : BasD t D) (clo : CloD t D) : ∀ (k : Nat) (a b : Int), 0 ≤ a → a < t.many → 0 ≤ b → b < t.many → D a b = false → numAt (itK t k) a = numAt (itK t k) b
  | 0, a, b, a0, a1, b0, b1, e => by
    have m0 := ht.m0
    have := (canon_rel (m := t.many) (f := fun g => decide (g ∈ t.wished)) (a := a.toNat) (b := b.toNat) (by omega) (by omega)).mpr (by
      rw [Int.toNat_of_nonneg a0, Int.toNat_of_nonneg b0]
      exact decide_eq_decide.mpr (bas a b a0 a1 b0 b1 e))
    exact this
  | k + 1, a, b, a0, a1, b0, b1, e => by
    have m0 := ht.m0
    refine (canon_rel (m := t.many) (f := fun g => numAt (itK t k) g :: sgF t (itK t k) g) (a := a.toNat) (b := b.toNat) (by omega) (by omega)).mpr ?_
    rw [Int.toNat_of_nonneg a0, Int.toNat_of_nonneg b0]
    have h1 := unl_same ht nd bas clo k a b a0 a1 b0 b1 e
    have h2 : sgF t (itK t k) a = sgF t (itK t k) b := by
      unfold sgF
      refine List.map_congr_left fun s hs => ?_
      have la := led_ok ht nd (stepsF_ok hs) a0 a1
      have lb := led_ok ht nd (stepsF_ok hs) b0 b1
      exact unl_same ht nd bas clo k _ _ la.1 la.2 lb.1 lb.2 (clo a b a0 a1 b0 b1 e s hs)
    rw [h1, h2]
theorem unl_dec {t : Tb} (ht : TbOk 9 t) (nd : (t.conns.map (·.1)).Nodup) {k : Nat} {D : Int → Int → Bool} (snd : SndD t (itK t k) D) (bas : BasD t D) (clo : CloD t D) {a b : Int} (a0 : 0 ≤ a) (a1 : a < t.many) (b0 : 0 ≤ b) (b1 : b < t.many) :
    D a b = !decide (numAt (itK t k) a = numAt (itK t k) b) := by
  cases e : D a b with
  | true =>
    rw [decide_eq_false (snd a b a0 a1 b0 b1 e)]
    rfl
  | false =>
    rw [decide_eq_true (unl_same ht nd bas clo k a b a0 a1 b0 b1 e)]
    rfl
/-! how many are like -/
def cntD (kvs : List (List Int × IV)) : Nat := kvs.countP fun kv => match kv.2 with
  | .bl false => true
  | _ => false
def muU (n4 : Nat) (env : Env) (h : IH) : Nat := (match h[n4]? with
  | some (.dT kvs) => 2 * cntD kvs
  | _ => 0) + match (env[7]? : Option (Option IV)) with
  | some (some (.bl true)) => 1
  | _ => 0
theorem cntD_eq (m : Int) (n : Nat) (D : Int → Int → Bool) : cntD (dD m n D) = (List.range n).countP fun p => !D (kyP m p).1 (kyP m p).2 := by
  unfold cntD dD
  rw [List.countP_map]
  refine List.countP_congr fun p _ => ?_
  simp only [Function.comp]
  cases D (kyP m p).1 (kyP m p).2 <;> simp
theorem cntD_up {m a b : Int} {D : Int → Int → Bool} (m0 : 1 ≤ m) (a0 : 0 ≤ a) (a1 : a < m) (b0 : 0 ≤ b) (b1 : b < m) (e : D a b = false) : cntD (dD m (m.toNat * m.toNat) (upD D a b)) < cntD (dD m (m.toNat * m.toNat) D) := by
  rw [cntD_eq, cntD_eq]
  have key := cnt_eq (l := List.range (m.toNat * m.toNat)) (P := fun p => !upD D a b (kyP m p).1 (kyP m p).2) (Q := fun p => !D (kyP m p).1 (kyP m p).2) (fun p _ h => by
    unfold upD at h
    split at h
    · cases h
    · exact h)
  obtain ⟨p, hp, ep⟩ := ky_ex m0 a0 a1 b0 b1
  rcases Nat.lt_or_eq_of_le key.1 with q | q
  · exact q
  · have := key.2 q p (List.mem_range.mpr hp) (by simp [ep, e])
    rw [ep] at this
    simp [upD] at this
/-- one walk over the pairs -/
def PassI (t : Tb) (nums : List Int) (D : Int → Int → Bool) (nh : Nat) (h2 : IH) (n6 : Nat) (ps : List (Int × Int)) (r3 r5 r9 : Option IV) (i : Nat) (e' : Env) (h' : IH) : Prop := ∃ (D' : Int → Int → Bool) (ch : Bool) (r6 r8 r10 : Option IV), (SndD t nums D' ∧ (∀ a b, D a b = true → D' a b = true) ∧ (ch = false → D' = D ∧ ∀ q ∈ ps.take i, D q.1 q.2 = false → ∀ s ∈ stepsF t, D (ledF t s q.1) (ledF t s q.2) = false) ∧ (ch = true → cntD (dD t.many (t.many.toNat * t.many.toNat) D') < cntD (dD t.many (t.many.toNat * t.many.toNat) D))) ∧ h'[h2.length]? = some (.dT (dD t.many (t.many.toNat * t.many.toNat) D')) ∧ h'[n6]? = some (.lst (ps.map tupP)) ∧ Dr h2.length (h2 ++ [.dT []]) h' ∧ e' = [some (tbI t), some (.int t.many), some (.ref nh), r3, some (.ref h2.length), r5, r6, some (.bl ch), r8, r9, r10]
theorem ddp_rng {nums : List Int} (hne : nums ≠ []) (hc : canon nums = nums) : ddp nums = rngI (npF nums) := by
  have np := npF_eq hne hc
  refine List.ext_getElem? fun j => ?_
  by_cases hj : j < (ddp nums).length
  · rw [rngI_at (by omega)]
    have e : (ddp nums)[j]? = some (ddp nums)[j] := List.getElem?_eq_getElem hj
    have hv : (ddp nums)[j] ∈ nums := ddp_mem.mp (List.getElem_mem hj)
    obtain ⟨i, hi⟩ := List.getElem?_of_mem hv
    have h1 := canon_get hi
    rw [hc, hi] at h1
    have h2 : (ddp nums).idxOf (ddp nums)[j] = j := List.Nodup.idxOf_getElem (ddp_nd nums) j hj
    rw [h2] at h1
    rw [e, Option.some.inj h1]
  · rw [List.getElem?_eq_none (by omega), List.getElem?_eq_none (by rw [rngI_len]; omega)]
theorem neO_ints {a b : Nat} {xs ys : List Int} {h : IH} (ea : h[a]? = some (.lst (xs.map IV.int))) (eb : h[b]? = some (.lst (ys.map IV.int))) : neO (.ref a) (.ref b) h = some (.bl (!decide (xs = ys)), h) := by
  have := neO_ll ea eb (dats_ints xs) (dats_ints ys) (k := 1) (by omega) (shp_ints xs 0) (shp_ints ys 0)
  rw [this]
  simp [PyData.eqv, eqv_ints]
theorem even_place {t : Tb} (m0 : 1 ≤ t.many) (m1 : t.many ≤ 9) (hs : List Int) (lh : hs.length = t.many.toNat) (w n3 n4 n8 : Nat) (hne : n3 ≠ w ∧ n8 ≠ w ∧ n3 ≠ n8) (nm : IV) (pl : IV) (cs : List Int) (okc : CellsOk t.many cs) (lc : (cs.length : Int) ≤ t.many * t.many) (fs : List Int) (okf : CellsOk t.many fs) (hp : fs.length < cs.length) (h : IH) (p : Well h w)
    (e3 : h[n3]? = some (.lst (hs.map IV.int))) (e8 : h[n8]? = some (.lst (fs.map IV.int))) (r2 r10 r11 r12 r13 r14 r15 r16 : Option IV) (N : Env → IH → Prop) (R : IV → IH → Prop) (B C : Env → IH → Prop)
    (hN : ∀ h' x r10 r11 r12 r13, h'[n8]? = some (.lst ((fs ++ [x]).map IV.int)) → 0 ≤ x → x < t.many → (∀ a, a < h.length → a ≠ n8 → a ≠ w → h'[a]? = h[a]?) → h.length ≤ h'.length → Well h' w → N [some (.ref w), some (tbI t), r2, some (.ref n3), some (.ref n4), some nm, some pl, some (.tup (cs.map IV.int)), some (.ref n8), some (.int fs.length), r10, r11, r12, r13, r14, r15, r16] h') :
    WS (bd__law_even_0 [some (.ref w), some (tbI t), r2, some (.ref n3), some (.ref n4), some nm, some pl, some (.tup (cs.map IV.int)), some (.ref n8), some (.int fs.length), r10, r11, r12, r13, r14, r15, r16] h) N R B C := by
  have hwl := p.lt
  have lm := log2_le (show Bt 10 t.many by unfold Bt; omega)
  have mm : t.many * t.many ≤ 81 := by
    have := Int.mul_le_mul m1 m1 (by omega) (by omega)
    omega
  have hc81 : cs.length ≤ 81 := by omega
  have dv : ∀ q : Nat, q < cs.length → (0 ≤ (q : Int).fdiv t.many ∧ (q : Int).fdiv t.many < t.many) ∧ 0 ≤ (q : Int).fmod t.many ∧ (q : Int).fmod t.many < t.many := fun q hq => by
    rw [Int.fdiv_eq_ediv_of_nonneg _ (show (0 : Int) ≤ t.many by omega), Int.fmod_eq_emod_of_nonneg _ (show (0 : Int) ≤ t.many by omega)]
    exact ⟨⟨Int.ediv_nonneg (by omega) (by omega), Int.ediv_lt_of_lt_mul (by omega) (by omega)⟩, Int.emod_nonneg _ (by omega), Int.emod_lt_of_pos _ (by omega)⟩
  have hx : ∀ {h' : IH} {g : Int}, h'[n3]? = some (.lst (hs.map IV.int)) → 0 ≤ g → g < t.many → ixQ (.ref n3) (.int g) h' = some (.int (hs.getD g.toNat 0), h') := fun e g0 g1 => ixG (gs := hs) e g0 (by omega)
  have lp := log2_le (show Bt 10 (fs.length : Int) by unfold Bt; omega)
  unfold bd__law_even_0
  have dq := dv fs.length hp
  let u : Int := hs.getD ((fs.length : Int).fdiv t.many).toNat 0
  let v : Int := hs.getD ((fs.length : Int).fmod t.many).toNat 0
  refine WS.seq (M := fun e h1 => h1 = h ++ [.lst [.int u, .int v]] ∧ e = [some (.ref w), some (tbI t), r2, some (.ref n3), some (.ref n4), some nm, some pl, some (.tup (cs.map IV.int)), some (.ref n8), some (.int fs.length), some (.ref h.length), r11, r12, r13, r14, r15, r16]) ?_ ?_
  · simp [tb_0, -List.getD_eq_getElem?_getD]
    repeat (refine ⟨by omega, ?_⟩)
    rw [hx e3 dq.1.1 dq.1.2, WO_some]
    simp [tb_0, -List.getD_eq_getElem?_getD]
    repeat (refine ⟨by omega, ?_⟩)
    rw [hx e3 dq.2.1 dq.2.2, WO_some]
    simp [u, v]
  rintro _ h1 ⟨rfl, rfl⟩
  have g1 := Gr.app h [IO.lst [.int u, .int v]]
  have e10 : (h ++ [IO.lst [.int u, .int v]])[h.length]? = some (.lst ([u, v].map IV.int)) := by simp
  generalize h ++ [IO.lst [.int u, .int v]] = h1 at g1 e10
  have e31 := g1.get e3
  have e81 := g1.get e8
  have p1 := g1.well p
  have h0l := g1.len
  have hl1 := (List.getElem?_eq_some_iff.mp e10).1
  -- the same ones
  refine WS.seq (M := fun e h2 => ∃ (n11 : Nat) (ks : List Int), h2[n11]? = some (.lst (ks.map IV.int)) ∧ (∀ k ∈ ks, 0 ≤ k ∧ k < fs.length) ∧ ks.length ≤ fs.length ∧ Dr w h1 h2 ∧ Well h2 w ∧ e = [some (.ref w), some (tbI t), r2, some (.ref n3), some (.ref n4), some nm, some pl, some (.tup (cs.map IV.int)), some (.ref n8), some (.int fs.length), some (.ref h.length), some (.ref n11), r12, r13, r14, r15, r16]) ?_ ?_
  · simp
    refine ⟨by omega, ?_⟩
    refine comp_dr w p1.lt ((List.range fs.length).map fun k => IV.int (0 + (k : Nat))) (by simp; omega) (fun h' => Well h' w) (fun i ys => ∃ ks : List Int, ks.length ≤ i ∧ ys = ks.map IV.int ∧ ∀ k ∈ ks, 0 ≤ k ∧ k < fs.length) hit_rng (p1.app _) (fun h' xs q _ => q.put (by have := p1.lt; omega)) ⟨[], Nat.le_refl _, rfl, by simp⟩ ?_ (fun i ys ⟨ks, a, b, _⟩ => by subst b; simp; omega) ?_
    · rintro j x ys h' hxx ⟨ks, lk, rfl, gk⟩ d _ pw'
      have hj : j < fs.length := by
        have := (List.getElem?_eq_some_iff.mp hxx).1
        simpa using this
      have : x = .int (j : Nat) := by
        rw [List.getElem?_map, List.getElem?_range hj] at hxx
        simpa using hxx.symm
      subst this
      have dj := dv j (by omega)
      have lj := log2_le (show Bt 10 (j : Int) by unfold Bt; omega)
      have e3' := d.get e31 hne.1
      refine ⟨_, rfl, ?_⟩
      simp [wipeE, tb_0, -List.getD_eq_getElem?_getD]
      repeat (refine ⟨by omega, ?_⟩)
      rw [hx e3' dj.1.1 dj.1.2, WO_some]
      try simp [tb_0, -List.getD_eq_getElem?_getD]
      repeat (refine ⟨by omega, ?_⟩)
      rw [hx e3' dj.2.1 dj.2.2, WO_some]
      try simp [-List.getD_eq_getElem?_getD]
      have ga := Gr.app h' [IO.lst [.int (hs.getD ((j : Int).fdiv t.many).toNat 0), .int (hs.getD ((j : Int).fmod t.many).toNat 0)]]
      have ex : (h' ++ [IO.lst [.int (hs.getD ((j : Int).fdiv t.many).toNat 0), .int (hs.getD ((j : Int).fmod t.many).toNat 0)]])[h'.length]? = some (.lst ([hs.getD ((j : Int).fdiv t.many).toNat 0, hs.getD ((j : Int).fmod t.many).toNat 0].map IV.int)) := by simp
      have ey := ga.get (d.get e10 (by omega))
      rw [eqO_ints ex ey, WO_some]
      refine ⟨ga.dr w, pw'.app _, ?_⟩
      split
      · exact ⟨Dr.refl _ _, pw'.app _, ks ++ [(j : Int)], by simp; omega, by simp, fun k hk => by
          rcases List.mem_append.mp hk with q | q
          · exact gk k q
          · rw [List.mem_singleton.mp q]; omega⟩
      · exact ⟨ks, by omega, rfl, gk⟩
    · rintro ys h' ⟨ks, lk, rfl, gk⟩ d pw' e
      simp at lk
      exact ⟨h1.length, ks, e, gk, lk, d, pw', rfl⟩
  rintro _ h2 ⟨n11, ks, e11, gk, lk, d2, p2, rfl⟩
  have e32 := d2.get e31 hne.1
  have e82 := d2.get e81 hne.2.1
  refine WS.seq (M := fun e h3 => h2 = h3 ∧ e = [some (.ref w), some (tbI t), r2, some (.ref n3), some (.ref n4), some nm, some pl, some (.tup (cs.map IV.int)), some (.ref n8), some (.int fs.length), some (.ref h.length), some (.ref n11), some (.int (cs.getD fs.length 0)), r13, r14, r15, r16]) ?_ ?_
  · have := ixT (cs := cs) (k := fs.length) (h := h2) (by simpa using hp) (by omega)
    simp [-List.getD_eq_getElem?_getD]
    rw [this, WO_some]
    simp
  rintro _ _ ⟨rfl, rfl⟩
  have cm : ∀ q : Nat, q < cs.length → 0 ≤ cs.getD q 0 ∧ cs.getD q 0 < t.many := fun q hq => by
    rw [List.getD_eq_getElem?_getD, List.getElem?_eq_getElem hq]
    exact okc _ (List.getElem_mem hq)
  have fm : ∀ q : Nat, q < fs.length → 0 ≤ fs.getD q 0 ∧ fs.getD q 0 < t.many := fun q hq => by
    rw [List.getD_eq_getElem?_getD, List.getElem?_eq_getElem hq]
    exact okf _ (List.getElem_mem hq)
  refine WS.seq (M := fun e h3 => ∃ (x : Int) (r13 : Option IV), (0 ≤ x ∧ x < t.many) ∧ Gr h2 h3 ∧ e = [some (.ref w), some (tbI t), r2, some (.ref n3), some (.ref n4), some nm, some pl, some (.tup (cs.map IV.int)), some (.ref n8), some (.int fs.length), some (.ref h.length), some (.ref n11), some (.int x), r13, r14, r15, r16]) ?_ ?_
  · obtain ⟨P, hP⟩ : ∃ P : Env → IH → Prop, ∀ e h3, P e h3 ↔ ∃ (x : Int) (r13 : Option IV), (0 ≤ x ∧ x < t.many) ∧ Gr h2 h3 ∧ e = [some (.ref w), some (tbI t), r2, some (.ref n3), some (.ref n4), some nm, some pl, some (.tup (cs.map IV.int)), some (.ref n8), some (.int fs.length), some (.ref h.length), some (.ref n11), some (.int x), r13, r14, r15, r16] := ⟨_, fun _ _ => Iff.rfl⟩
    refine WS.mono (N := P) (R := fun _ _ => False) (B := fun _ _ => False) (C := fun _ _ => False) ?_ (fun e h q => (hP e h).mp q) (fun _ _ q => q.elim) (fun _ _ q => q.elim) (fun _ _ q => q.elim)
    have ga := Gr.app h2 [IO.lst []]
    have ex : (h2 ++ [IO.lst []])[h2.length]? = some (.lst (([] : List Int).map IV.int)) := by simp
    simp [-List.getD_eq_getElem?_getD]
    rw [neO_ints (ga.get e11) ex, WO_some]
    generalize h2 ++ [IO.lst []] = h3 at ga ex
    cases ks with
    | nil =>
      simp [-List.getD_eq_getElem?_getD]
      exact (hP _ _).mpr ⟨_, _, cm _ hp, ga, rfl⟩
    | cons k0 ks =>
      have hk0 := gk k0 List.mem_cons_self
      have f0 := fm k0.toNat (by omega)
      simp [tb_0, -List.getD_eq_getElem?_getD]
      refine ⟨by omega, ?_⟩
      refine comp_filtG (fun o => decide (hs.getD o.toNat 0 = hs.getD (fs.getD k0.toNat 0).toNat 0)) (by omega) (fun j h' hj g => ?_) (fun j h' hj g => ?_) ?_
      · have e3' := g.get (ga.get e32)
        simp [wipeE, -List.getD_eq_getElem?_getD]
        have i0 := ixQ_ref (k := 0) (v := .int k0) (g.get (ga.get e11)) rfl
        rw [show ((0 : Nat) : Int) = 0 from rfl] at i0
        rw [hx e3' (by omega) (by omega), WO_some, i0, WO_some, ixG (gs := fs) (g.get (ga.get e82)) hk0.1 hk0.2, WO_some, hx e3' f0.1 f0.2, WO_some]
        simp [-List.getD_eq_getElem?_getD]
      · simp [wipeE]
      · have hmem : fs.getD k0.toNat 0 ∈ ((List.range t.many.toNat).map fun k => ((k : Nat) : Int)).filter fun o => decide (hs.getD o.toNat 0 = hs.getD (fs.getD k0.toNat 0).toNat 0) := by
          rw [List.mem_filter]
          exact ⟨rngI_mem'.mpr f0, decide_eq_true rfl⟩
        have hall : ∀ z ∈ ((List.range t.many.toNat).map fun k => ((k : Nat) : Int)).filter fun o => decide (hs.getD o.toNat 0 = hs.getD (fs.getD k0.toNat 0).toNat 0), 0 ≤ z ∧ z < t.many := fun z hz => rngI_mem'.mp (List.mem_filter.mp hz).1
        have hlen : (((List.range t.many.toNat).map fun k => ((k : Nat) : Int)).filter fun o => decide (hs.getD o.toNat 0 = hs.getD (fs.getD k0.toNat 0).toNat 0)).length ≤ 9 := by
          refine Nat.le_trans (List.length_filter_le _ _) ?_
          simp; omega
        generalize ((List.range t.many.toNat).map fun k => ((k : Nat) : Int)).filter (fun o => decide (hs.getD o.toNat 0 = hs.getD (fs.getD k0.toNat 0).toNat 0)) = ns at hmem hall hlen
        have hpos := List.length_pos_of_mem hmem
        have gb := Gr.app h3 [IO.lst (ns.map IV.int)]
        have eb : (h3 ++ [IO.lst (ns.map IV.int)])[h3.length]? = some (.lst (ns.map IV.int)) := by simp
        generalize h3 ++ [IO.lst (ns.map IV.int)] = h4 at gb eb
        have hl : lenO [.ref h3.length] h4 = some (.int ns.length, h4) := by simp only [lenO, seqOf, lstOf, eb, List.length_map]
        have ic := ixT (cs := cs) (k := fs.length) (h := h4) (by simpa using hp) (by omega)
        have cq := cm _ hp
        have lq := log2_le (show Bt 10 (cs.getD fs.length 0) by unfold Bt; omega)
        have ln := log2_le (show Bt 10 (ns.length : Int) by unfold Bt; omega)
        try simp [-List.getD_eq_getElem?_getD]
        rw [ic, WO_some, hl, WO_some]
        simp [-List.getD_eq_getElem?_getD]
        have fl := fmod_lt (cs.getD fs.length 0) ns.length (by omega)
        repeat (refine ⟨by omega, ?_⟩)
        rw [ixG (gs := ns) eb fl.1 fl.2, WO_some]
        refine ⟨List.length_pos_iff.mp hpos, (hP _ _).mpr ⟨_, _, hall _ (getD_mem fl.1 fl.2).2, ga.trans gb, rfl⟩⟩
  rintro _ h3 ⟨x, r13, ⟨x0, x1⟩, g3, rfl⟩
  have e83 := g3.get e82
  simp [tyI_ref e83]
  rw [appO_ref e83 (by simp; omega), WO_some]
  have d12 : Dr w h h2 := (g1.dr w).trans d2
  have l2 := d12.len
  have l3 := g3.len
  have h8l := (List.getElem?_eq_some_iff.mp e8).1
  refine hN _ x _ _ _ _ ?_ x0 x1 (fun a ha h8 haw => ?_) (by rw [List.length_set]; omega) ((g3.well p2).put hne.2.1)
  · rw [List.getElem?_set_self (List.getElem?_eq_some_iff.mp e83).1]
    simp
  · rw [List.getElem?_set_ne (Ne.symm h8)]
    exact (g3.at_ a (by omega)).trans (d12.at_ a ha haw)
theorem even_eq {w : Nat} {t : Tb} (ht : TbOk 9 t) (hnd : TbNd t) (h : IH) (p : Well h w) : WE (f__law_even [.ref w, tbI t] h) fun v h' => ∃ t' : Tb, v = tbI t' ∧ TbOk 9 t' ∧ TbNd t' ∧ Well h' w ∧ Dr w h h' := by
  have m0 := ht.m0
  have m1 := ht.m1
  have mm : t.many * t.many ≤ 81 := by
    have := Int.mul_le_mul m1 m1 (by omega) (by omega)
    omega
  unfold f__law_even b__law_even
  rw [WE_runF]
  refine WS.seq (M := fun e h1 => ∃ s : Int, (1 ≤ s ∧ s ≤ 9) ∧ Well h1 w ∧ Dr w h h1 ∧ e = [some (.ref w), some (tbI t), some (.int s), none, none, none, none, none, none, none, none, none, none, none, none, none, none]) ?_ ?_
  · simp [tb_0]
    refine (draw_eq w t.many h p (by omega) (by omega)).mono fun v h1 ⟨r, e, r0, r1, p1, d1⟩ => ?_
    subst e
    exact ⟨1 + r, by omega, p1, d1, rfl⟩
  rintro _ h1 ⟨s, ⟨s0, s1⟩, p1, d1, rfl⟩
  refine WS.seq (M := fun e h2 => ∃ (n3 : Nat) (hs : List Int), h2[n3]? = some (.lst (hs.map IV.int)) ∧ hs.length = t.many.toNat ∧ CellsOk s hs ∧ n3 ≠ w ∧ Well h2 w ∧ Dr w h h2 ∧ e = [some (.ref w), some (tbI t), some (.int s), some (.ref n3), none, none, none, none, none, none, none, none, none, none, none, none, none]) ?_ ?_
  · simp [tb_0]
    refine ⟨by omega, ?_⟩
    refine draws_eq w s h1 _ _ t.many.toNat _ _ (by omega) p1 (fun k hk h' d' p' => ?_) fun cs lc okc h' d' p' e' => ?_
    · simp [wipeE]
      refine (draw_eq w s h' p' (by omega) (by omega)).mono fun v h3 ⟨r, e, r0, r1, p3, d3⟩ => ?_
      subst e
      exact ⟨d3, p3, r, rfl, r0, r1⟩
    · have := p1.lt
      exact ⟨h1.length, cs, e', lc, okc, by omega, p', d1.trans d', rfl⟩
  clear p1 d1 h1
  rintro _ h2 ⟨n3, hs, e3, lh, okh, hn3, p2, d2, rfl⟩
  have h3l := (List.getElem?_eq_some_iff.mp e3).1
  refine WS.seq (M := fun e h4 => h4 = h2 ++ [.lst []] ∧ e = [some (.ref w), some (tbI t), some (.int s), some (.ref n3), some (.ref h2.length), none, none, none, none, none, none, none, none, none, none, none, none]) (by simp) ?_
  rintro _ h4 ⟨rfl, rfl⟩
  have hw2 := p2.lt
  have nc := hnd.1
  refine WS.seq (M := fun e h5 => ∃ (cs : List (Str × Int × List Int)) (r5 r6 r7 r8 r9 r10 r11 r12 r13 : Option IV), (cs.map (·.1) = t.conns.map (·.1) ∧ ∀ c ∈ cs, CnOk t.many c) ∧ h5[h2.length]? = some (.lst (cs.map cnI)) ∧ h5[n3]? = some (.lst (hs.map IV.int)) ∧ Well h5 w ∧ Dr w h h5 ∧ e = [some (.ref w), some (tbI t), some (.int s), some (.ref n3), some (.ref h2.length), r5, r6, r7, r8, r9, r10, r11, r12, r13, none, none, none]) ?_ ?_
  · rw [WS_sFor, WE_iSeq]
    simp only [WE_eOp, WE_eC, eVar_at, List.getElem?_cons_succ, List.getElem?_cons_zero, WE_ok, tb_2, WO_some, seqIt_tup]
    refine WS_tup (xs := t.conns.map cnI) (fun i e h5 => ∃ (cs : List (Str × Int × List Int)) (r5 r6 r7 r8 r9 r10 r11 r12 r13 : Option IV), (cs.map (·.1) = (t.conns.take i).map (·.1) ∧ ∀ c ∈ cs, CnOk t.many c) ∧ h5[h2.length]? = some (.lst (cs.map cnI)) ∧ h5[n3]? = some (.lst (hs.map IV.int)) ∧ (Well h5 w ∧ h2.length < h5.length) ∧ Dr w h h5 ∧ e = [some (.ref w), some (tbI t), some (.int s), some (.ref n3), some (.ref h2.length), r5, r6, r7, r8, r9, r10, r11, r12, r13, none, none, none]) ⟨[], none, none, none, none, none, none, none, none, none, ⟨rfl, by simp⟩, by simp, (Gr.app h2 _).get e3, ⟨p2.app _, by simp⟩, d2.trans (Dr.app _ _ _), rfl⟩ (by simp; omega) ?_ ?_
    · rintro i x env h5 hx ⟨cs, r5, r6, r7, r8, r9, r10, r11, r12, r13, ⟨nc1, okc⟩, e4, e3', ⟨p5, l5⟩, d5, rfl⟩
      rw [List.getElem?_map] at hx
      cases hz : t.conns[i]? with
      | none => rw [hz] at hx; cases hx
      | some c =>
        rw [hz] at hx
        cases hx
        have hi := (List.getElem?_eq_some_iff.mp hz).1
        have ck := ht.cok c (List.mem_of_getElem? hz)
        have cl : (c.2.2.length : Int) ≤ t.many * t.many := by
          have : c.2.1 = 0 ∨ c.2.1 = 1 ∨ c.2.1 = 2 := by have := ck.p0; have := ck.p1; omega
          have h1 : 1 * 1 ≤ t.many * t.many := Int.mul_le_mul m0 m0 (by omega) (by omega)
          have h2 : t.many * 1 ≤ t.many * t.many := Int.mul_le_mul_of_nonneg_left m0 (by omega)
          rw [ck.len]
          rcases this with q | q | q <;> rw [q]
          · simp; omega
          · simp [Int.pow_succ]; omega
          · show ((t.many ^ 2).toNat : Int) ≤ _
            rw [Int.pow_succ, Int.pow_succ, Int.pow_zero, Int.one_mul, Int.toNat_of_nonneg (by omega)]
            exact Int.le_refl _
        have lc : cs.length ≤ 16 := by
          have := congrArg List.length nc1
          rw [List.length_map, List.length_map, List.length_take] at this
          omega
        refine ⟨_, rfl, ?_⟩
        unfold bd__law_even_1
        refine WS.seq (M := fun e h6 => h6 = h5 ++ [.lst []] ∧ e = [some (.ref w), some (tbI t), some (.int s), some (.ref n3), some (.ref h2.length), some (.str c.1), some (.int c.2.1), some (.tup (c.2.2.map IV.int)), some (.ref h5.length), r9, r10, r11, r12, r13, none, none, none]) (by simp) ?_
        rintro _ h6 ⟨rfl, rfl⟩
        have hw5 := p5.lt
        refine WS.seq (M := fun e h7 => ∃ (fs : List Int) (r9 r10 r11 r12 r13 : Option IV), (fs.length = c.2.2.length ∧ CellsOk t.many fs) ∧ h7[h5.length]? = some (.lst (fs.map IV.int)) ∧ (∀ a, a < h5.length → a ≠ w → h7[a]? = h5[a]?) ∧ h5.length < h7.length ∧ Well h7 w ∧ e = [some (.ref w), some (tbI t), some (.int s), some (.ref n3), some (.ref h2.length), some (.str c.1), some (.int c.2.1), some (.tup (c.2.2.map IV.int)), some (.ref h5.length), r9, r10, r11, r12, r13, none, none, none]) ?_ ?_
        · have hl : ∀ hh : IH, lenO [.tup (c.2.2.map IV.int)] hh = some (.int c.2.2.length, hh) := fun hh => by simp only [lenO, seqOf, List.length_map]
          simp [hl]
          refine ⟨by omega, ?_⟩
          refine WS_for c.2.2.length (fun j e h7 => ∃ (fs : List Int) (r9 r10 r11 r12 r13 : Option IV), (fs.length = j ∧ CellsOk t.many fs) ∧ h7[h5.length]? = some (.lst (fs.map IV.int)) ∧ (∀ a, a < h5.length → a ≠ w → h7[a]? = h5[a]?) ∧ h5.length < h7.length ∧ Well h7 w ∧ e = [some (.ref w), some (tbI t), some (.int s), some (.ref n3), some (.ref h2.length), some (.str c.1), some (.int c.2.1), some (.tup (c.2.2.map IV.int)), some (.ref h5.length), r9, r10, r11, r12, r13, none, none, none]) ?_ ?_ FU 0 _ _ (Nat.zero_le _) ⟨[], r9, r10, r11, r12, r13, ⟨rfl, by intro z hz; cases hz⟩, by simp, fun a ha _ => List.getElem?_append_left ha, by simp, p5.app _, rfl⟩ (FU_lt64 (by omega))
          · rintro j env h7 hj ⟨fs, r9, r10, r11, r12, r13, ⟨lf, okf⟩, e8, k7, l7, p7, rfl⟩
            refine ⟨.int (0 + (j : Int)), by unfold rngIt; simp [hj], _, rfl, ?_⟩
            have hw5 := p5.lt
            subst lf
            have e37 : h7[n3]? = some (.lst (hs.map IV.int)) := (k7 n3 (by omega) hn3).trans e3'
            have hn8 : n3 ≠ h5.length := by omega
            have key := even_place m0 m1 hs lh w n3 h2.length h5.length ⟨hn3, by omega, hn8⟩ (.str c.1) (.int c.2.1) c.2.2 ck.cells cl fs okf hj h7 p7 e37 e8 (some (.int s)) r10 r11 r12 r13 none none none
            simp only [List.set_cons_succ, List.set_cons_zero, Int.zero_add]
            refine key _ _ _ _ fun h' x s10 s11 s12 s13 e8' x0 x1 k' l' p' => ?_
            exact ⟨fs ++ [x], _, s10, s11, s12, s13, ⟨by simp, fun z hz => by
              rcases List.mem_append.mp hz with q | q
              · exact okf z q
              · rw [List.mem_singleton.mp q]; exact ⟨x0, x1⟩⟩, e8', fun a ha haw => (k' a (by omega) (by omega) haw).trans (k7 a ha haw), by omega, p', rfl⟩
          · rintro env h7 ⟨fs, r9, r10, r11, r12, r13, a1, a2, a3, a4, a5, rfl⟩
            refine ⟨by unfold rngIt; simp, ?_⟩
            exact ⟨fs, a1, a2, a3, a4, a5, r9, r10, r11, r12, r13, rfl⟩
        rintro _ h7 ⟨fs, r9, r10, r11, r12, r13, ⟨lf, okf⟩, e8, k7, l7, p7, rfl⟩
        have e47 : h7[h2.length]? = some (.lst (cs.map cnI)) := (k7 _ l5 (by omega)).trans e4
        have e37 : h7[n3]? = some (.lst (hs.map IV.int)) := (k7 n3 (by omega) hn3).trans e3'
        simp [tyI_ref e47]
        rw [tupleO_ref e8, WO_some]
        try simp
        rw [appO_ref e47 (by simp; omega), WO_some]
        have ck' : CnOk t.many (c.1, c.2.1, fs) := ⟨ck.nm, ck.p0, ck.p1, by rw [← ck.len]; exact lf, okf⟩
        have hl2 := d2.len
        have d7 : Dr w h h7 := d5.trans ⟨by omega, fun a ha haw => k7 a ha haw⟩
        have key : ∀ cs' : List (Str × Int × List Int), cs' = cs ++ [(c.1, c.2.1, fs)] → (cs'.map (·.1) = List.take (i + 1) (t.conns.map (·.1)) ∧ ∀ z ∈ cs', CnOk t.many z) := fun cs' e => by
          subst e
          refine ⟨?_, fun z hz => ?_⟩
          · rw [List.map_append, nc1, ← List.map_take, List.take_add_one, hz, Option.toList_some, List.map_append]
            rfl
          · rcases List.mem_append.mp hz with q | q
            · exact okc z q
            · rw [List.mem_singleton.mp q]; exact ck'
        have k1 := key _ rfl
        refine ⟨cs ++ [(c.1, c.2.1, fs)], ⟨k1.1, fun a b d hm => k1.2 _ hm⟩, ?_, ?_, ⟨p7.put (by omega), by rw [List.length_set]; omega⟩, d7.put (by omega)⟩
        · rw [List.getElem?_set_self (List.getElem?_eq_some_iff.mp e47).1, List.map_append]
          rfl
        · rw [List.getElem?_set_ne (by omega)]
          exact e37
    · rintro env h5 ⟨cs, r5, r6, r7, r8, r9, r10, r11, r12, r13, ⟨nc1, okc⟩, e4, e3', ⟨p5, l5⟩, d5, rfl⟩
      rw [List.length_map, List.take_length] at nc1
      exact ⟨cs, r5, r6, r7, r8, r9, r10, r11, r12, r13, ⟨nc1, okc⟩, e4, e3', p5, d5, rfl⟩
  rintro _ h5 ⟨cs, r5, r6, r7, r8, r9, r10, r11, r12, r13, ⟨nc1, okc⟩, e4, e3', p5, d5, rfl⟩
  have lcs : cs.length = t.conns.length := by
    have := congrArg List.length nc1
    rwa [List.length_map, List.length_map] at this
  refine WS.seq (M := fun e h6 => Gr h5 h6 ∧ e = [some (.ref w), some (tbI t), some (.int s), some (.ref n3), some (.ref h2.length), r5, r6, r7, r8, r9, r10, r11, r12, r13, some (.tup (((rngI t.many).filter fun g => decide ((hs.getD g.toNat 0).fmod 2 = 1)).map IV.int)), none, none]) ?_ ?_
  · simp [tb_0]
    refine ⟨by omega, ?_⟩
    refine comp_filtG (fun g => decide ((hs.getD g.toNat 0).fmod 2 = 1)) (by omega) (fun j h' hj g => ?_) (fun j h' hj g => ?_) ?_
    · have hg := getD_mem (ps := hs) (k := (j : Int)) (by omega) (by omega)
      have hb := okh _ hg.2
      have lb := log2_le (show Bt 10 (hs.getD (j : Int).toNat 0) by unfold Bt; omega)
      simp [wipeE, -List.getD_eq_getElem?_getD]
      rw [ixG (gs := hs) (g.get e3') (by omega) (by omega), WO_some]
      simp [-List.getD_eq_getElem?_getD]
      try (repeat (refine ⟨by omega, ?_⟩))
      try rfl
    · simp [wipeE]
    · rw [tupleO_ref (xs := ((rngI t.many).filter fun g => decide ((hs.getD g.toNat 0).fmod 2 = 1)).map IV.int) (by simp [rngI]), WO_some]
      exact ⟨Gr.app _ _, rfl⟩
  rintro _ h6 ⟨g6, rfl⟩
  simp [tb_0]
  rw [tupleO_ref (g6.get e4), WO_some]
  refine ⟨⟨t.many, (rngI t.many).filter fun g => decide ((hs.getD g.toNat 0).fmod 2 = 1), cs⟩, rfl, ?_, ?_, g6.well p5, d5.trans (g6.dr w)⟩
  · refine ⟨m0, m1, fun z hz => rngI_mem'.mp (List.mem_filter.mp hz).1, okc, by show cs.length ≤ 40; omega, (rngI_pw t.many).sublist List.filter_sublist, ?_⟩
    show ((rngI t.many).filter _).length ≤ 1000
    refine Nat.le_trans (List.length_filter_le _ _) ?_
    rw [rngI_len]
    omega
  · exact ⟨by show cs.length ≤ 16; omega, by show (cs.map (·.1)).Nodup; rw [nc1]; exact hnd.2⟩
theorem drawn_eq (w : Nat) (most some_ : Int) (m0 : 1 ≤ most) (m1 : most ≤ 9) (s0 : 0 ≤ some_) (s1 : some_ ≤ 8) (h : IH) (p : Well h w) : WE (f__law_drawn [.ref w, .int most, .int some_] h) fun v h' => ∃ t : Tb, v = tbI t ∧ TbOk 9 t ∧ TbNd t ∧ Well h' w ∧ Dr w h h' := by
  unfold f__law_drawn b__law_drawn
  rw [WE_runF]
  refine WS.seq (M := fun e h1 => ∃ t : Tb, TbOk 9 t ∧ TbNd t ∧ Well h1 w ∧ Dr w h h1 ∧ e = [some (.ref w), some (.int most), some (.int some_), some (tbI t)]) ?_ ?_
  · simp
    refine (table_eq w most some_ h p (by omega) (by omega) (by omega) (by omega)).mono fun v h1 ⟨t, e, ok, lc, p1, d1⟩ => ?_
    subst e
    exact ⟨t, ⟨ok.m0, by have := ok.m1; omega, ok.wok, ok.cok, ok.nc, ok.wpw, ok.wl⟩, lc, p1, d1, rfl⟩
  rintro _ h1 ⟨t, ok, lc, p1, d1, rfl⟩
  refine WS.seq (M := fun e h1 => ∃ t : Tb, TbOk 9 t ∧ TbNd t ∧ Well h1 w ∧ Dr w h h1 ∧ e = [some (.ref w), some (.int most), some (.int some_), some (tbI t)]) ?_ ?_
  · simp
    refine (draw_eq w 2 h1 p1 (by omega) (by omega)).mono fun v h2 ⟨r, e, r0, r1, p2, d2⟩ => ?_
    subst e
    by_cases hr : r = 1
    · simp [hr]
      refine (even_eq ok lc h2 p2).mono fun v h3 ⟨u, e, oku, lu, p3, d3⟩ => ?_
      subst e
      exact ⟨u, oku, lu, p3, (d1.trans d2).trans d3, rfl⟩
    · simp [hr]
      exact ⟨t, ok, lc, p2, d1.trans d2, rfl⟩
  rintro _ h2 ⟨t, ok, lc, p2, d2, rfl⟩
  simp
  exact ⟨t, rfl, ok, lc, p2, d2⟩

/-- a comprehension of values; the heap may grow -/
theorem comp_mapG {α : Type} {xs : List α} (enc F : α → IV) {it : IIt} {g : MG} {env : Env} {b : Env → M IV} {h : IH} {Q : IV → IH → Prop} (hn : xs.length < 16777216) (hit : ∀ i h', Gr h h' → it.nxt i h' = some ((xs.map enc)[i]?))
    (hb : ∀ a h', a ∈ xs → Gr h h' → h.length < h'.length → ∃ e1, g (enc a) env h' = some e1 ∧ WE (b e1 h') fun y h2 => y = F a ∧ Gr h' h2) (hQ : ∀ h', Gr h h' → h'[h.length]? = some (.lst (xs.map F)) → Q (.ref h.length) h') :
    WE (compLoop it g cYes b env h.length FU 0 (h ++ [.lst []])) Q := by
  refine WE_comp xs.length (fun k h' => Gr h h' ∧ h'[h.length]? = some (.lst ((xs.take k).map F))) ?_ ?_ FU 0 _ (Nat.zero_le _) ⟨Gr.app _ _, by simp⟩ (FU_lt64 (by omega))
  · rintro k h' hk ⟨gr, e⟩
    have hx : xs[k]? = some xs[k] := List.getElem?_eq_getElem hk
    obtain ⟨e1, eg, w⟩ := hb xs[k] h' (List.getElem_mem hk) gr (List.getElem?_eq_some_iff.mp e).1
    refine ⟨enc xs[k], by rw [hit k h' gr, List.getElem?_map, hx]; rfl, e1, eg, ?_⟩
    simp only [WE_cYes, if_pos]
    refine w.mono fun y h2 ⟨ey, g2⟩ => ?_
    subst ey
    have e2 := g2.get e
    refine ⟨_, e2, by simp; omega, (gr.trans g2).put (Nat.le_refl _), ?_⟩
    rw [List.getElem?_set_self (List.getElem?_eq_some_iff.mp e2).1, List.take_add_one, hx, Option.toList_some, List.map_append]
    rfl
  · rintro h' ⟨gr, e⟩
    rw [List.take_length] at e
    exact ⟨by rw [hit _ h' gr]; simp, hQ h' gr e⟩
theorem hit_rngG {n : Nat} {h : IH} : ∀ i h', Gr h h' → (rngIt 0 n).nxt i h' = some (((List.range n).map fun k : Nat => IV.int (k : Int))[i]?) := fun i h' _ => by
  unfold rngIt
  by_cases hi : i < n
  · simp [hi]
  · simp [hi]
theorem hit_refG {xs : List IV} {n : Nat} {h : IH} (e : h[n]? = some (.lst xs)) : ∀ i h', Gr h h' → (refIt n).nxt i h' = some xs[i]? := fun i h' g => refIt_nxt (g.get e)

/-! lines: letters, and connectives of lines ahead -/
def knownD (t : Tb) : List (Key × IV) := t.conns.map fun c => (Sum.inr c.1, .tup (c.2.2.map IV.int))
theorem known_nd {t : Tb} (n : (t.conns.map (·.1)).Nodup) : ((knownD t).map (·.1)).Nodup := by
  unfold knownD
  rw [List.map_map]
  have : (t.conns.map ((fun p : Key × IV => p.1) ∘ fun c => (Sum.inr c.1, IV.tup (c.2.2.map IV.int)))) = (t.conns.map (·.1)).map fun x => (Sum.inr x : Key) := by rw [List.map_map]; rfl
  rw [this]
  exact map_ndN n fun x _ y _ e => by cases e; rfl
theorem known_val {t : Tb} (n : (t.conns.map (·.1)).Nodup) {c : Str × Int × List Int} (h : c ∈ t.conns) : valI (knownD t) (.inr c.1) = some (.tup (c.2.2.map IV.int)) := by
  have := find_nd n h
  unfold valI knownD
  rw [List.find?_map]
  have e : ((fun kv : Key × IV => decide (kv.1 = Sum.inr c.1)) ∘ fun c : Str × Int × List Int => ((Sum.inr c.1 : Key), IV.tup (c.2.2.map IV.int))) = fun d => decide (d.1 = c.1) := by
    funext d
    simp only [Function.comp]
    refine decide_eq_decide.mpr ⟨fun q => Sum.inr.inj q, fun q => by rw [q]⟩
  rw [e, this]
  rfl
theorem pairs_known (t : Tb) : pairsI (t.conns.map fun c => .tup [.str c.1, .tup (c.2.2.map IV.int)]) = some (knownD t) := by
  unfold knownD
  induction t.conns with
  | nil => rfl
  | cons c l ih =>
    rw [List.map_cons, List.map_cons, pairsI, ih]
    rfl
theorem grades_eq {t : Tb} (ht : TbOk 9 t) (nd : (t.conns.map (·.1)).Nodup) {L : List Str} {ls : List Ln} (lo : LsOk t L ls) (hls : ls.length ≤ 1000) (hpl : ∀ l ∈ ls, True) {row : List Int} (hr : RowOk t.many L.length row) (nl g : Nat) (h : IH) (el : h[nl]? = some (.lst (ls.map lnI))) (eg : h[g]? = some (.dK (zipD L row))) :
    WE (f__law_grades [tbI t, .ref nl, .ref g] h) fun v h' => ∃ n : Nat, v = .ref n ∧ h.length ≤ n ∧ h'[n]? = some (.lst ((gradesF t L row ls).map IV.int)) ∧ Gr h h' := by
  have nc := ht.nc
  have m0 := ht.m0
  have m1 := ht.m1
  unfold f__law_grades b__law_grades
  rw [WE_runF]
  refine WS.seq (M := fun e1 h1 => ∃ (nk : Nat) (r6 r7 r8 : Option IV), h1[nk]? = some (.dK (knownD t)) ∧ Gr h h1 ∧ e1 = [some (tbI t), some (.ref nl), some (.ref g), some (.ref nk), none, none, r6, r7, r8, none]) ?_ ?_
  · simp [tb_2, seqIt_tup]
    refine comp_tupG (xs := t.conns) cnI (fun c => .tup [.str c.1, .tup (c.2.2.map IV.int)]) (by omega) (fun a h' _ => ⟨_, rfl, ?_⟩) ?_
    · simp [wipeE]
    rw [dict_of (xs := t.conns.map fun c => .tup [.str c.1, .tup (c.2.2.map IV.int)]) (by simp) (pairs_known t), WO_some]
    rw [mergeI_nd _ [] (by simpa using known_nd nd)]
    refine ⟨_, by simp, (Gr.app _ _).trans (Gr.app _ _), rfl⟩
  rintro _ h1 ⟨nk, r6, r7, r8, ek, g1, rfl⟩
  refine WS.seq (M := fun e1 h2 => h2 = h1 ++ [.lst []] ∧ e1 = [some (tbI t), some (.ref nl), some (.ref g), some (.ref nk), some (.ref h1.length), none, r6, r7, r8, none]) (by simp) ?_
  rintro _ h2 ⟨rfl, rfl⟩
  have ga := Gr.app h1 [.lst []]
  have hnl := (List.getElem?_eq_some_iff.mp (g1.get el)).1
  have hg := (List.getElem?_eq_some_iff.mp (g1.get eg)).1
  have hnk := (List.getElem?_eq_some_iff.mp ek).1
  refine WS.seq (M := fun e2 h2 => ∃ (r5 r9 : Option IV), h2[h1.length]? = some (.lst ((gradesF t L row ls).map IV.int)) ∧ Dr h1.length (h1 ++ [.lst []]) h2 ∧ e2 = [some (tbI t), some (.ref nl), some (.ref g), some (.ref nk), some (.ref h1.length), r5, r6, r7, r8, r9]) ?_ ?_
  · rw [WS_sFor, WE_iSeq]
    simp only [eVar_at, List.getElem?_cons_succ, List.getElem?_cons_zero, WE_ok]
    rw [seqIt_ref (ga.get (g1.get el))]
    refine WS_list (xs := ls.map lnI) (n := nl) (fun i e2 h2 => ∃ (r5 r9 : Option IV), h2[h1.length]? = some (.lst ((gradesF t L row (ls.take i)).map IV.int)) ∧ Dr h1.length (h1 ++ [.lst []]) h2 ∧ e2 = [some (tbI t), some (.ref nl), some (.ref g), some (.ref nk), some (.ref h1.length), r5, r6, r7, r8, r9]) ⟨none, none, by simp [gradesF], Dr.refl _ _, rfl⟩ (by simp; omega) (fun _ _ _ ⟨_, _, _, d, _⟩ => d.get (ga.get (g1.get el)) (by omega)) ?_ ?_
    · rintro i x env h2 hx ⟨r5, r9, e2, d2, rfl⟩
      rw [List.getElem?_map] at hx
      cases hz : ls[i]? with
      | none => rw [hz] at hx; cases hx
      | some z =>
        rw [hz] at hx
        cases hx
        have hi := (List.getElem?_eq_some_iff.mp hz).1
        have il := gradesF_len t L row ls i
        have ok := gradesF_ok ht nd lo hr i
        have eg2 := d2.get (ga.get (g1.get eg)) (by omega)
        have ek2 := d2.get (ga.get ek) (by omega)
        have et : gradesF t L row (ls.take (i + 1)) = gradesF t L row (ls.take i) ++ [gradeF t L row (gradesF t L row (ls.take i)) z] := by
          rw [List.take_add_one, hz, Option.toList_some, gradesF_app]
        have lok := lo i z hz
        refine ⟨_, rfl, ?_⟩
        unfold bd__law_grades_0
        cases z with
        | inl y =>
          have e3 := dg_at (h := h2) (y := .str y) eg2 rfl (zip_val lok (by rw [hr.1]))
          simp [lnI, tyI_ref e2]
          rw [e3, WO_some, appO_ref e2 (by simp; omega), WO_some]
          refine ⟨?_, d2.put_n⟩
          rw [List.getElem?_set_self (List.getElem?_eq_some_iff.mp e2).1, et]
          simp [gradeF]
        | inr p =>
          obtain ⟨c, hc, ec, lk, ck⟩ := lok
          have cok := ht.cok c hc
          have ck' : CellsOk (gradesF t L row (ls.take i)).length p.2 := by rw [il, Nat.min_eq_left (by omega)]; exact ck
          have hrow := row_found ok ck' lk
          have e3 := dg_at (h := h2) (y := .str p.1) ek2 rfl (by rw [← ec]; exact known_val nd hc)
          have sl : slO (some 1) none (.tup (.str p.1 :: p.2.map IV.int)) h2 = some (.tup (p.2.map IV.int), h2) := by
            have s1 : HT.sIx (p.2.length + 1) 0 (some 1) = 1 := by rw [show (some (1 : Int)) = some ((1 : Nat) : Int) from rfl, HT.sIx_nat]; omega
            simp only [slO, List.length_cons, List.length_map, s1, HT.sIx]
            simp
            exact List.take_of_length_le (by simp)
          have ix0 : ixQ (.tup (.str p.1 :: p.2.map IV.int)) (.int 0) h2 = some (.str p.1, h2) := ixQ_tup0
          have hcl : f__law_cell = f_cell_at := rfl
          simp [lnI, tyI_ref e2, tb_0, e3, sl, seqIt_tup, -List.getElem?_map]
          refine comp_itH (xs := p.2) IV.int (fun k => .int ((gradesF t L row (ls.take i)).getD k.toNat 0)) (by have := cok.p1; omega) (fun i h' _ => rfl) (fun k h' hk gk => ⟨_, rfl, ?_⟩) ?_
          · obtain ⟨k0, k1⟩ := ck' k hk
            have hkn : k.toNat < (gradesF t L row (ls.take i)).length := by omega
            have := ixQ_ref (h := h') (k := k.toNat) (v := .int ((gradesF t L row (ls.take i)).getD k.toNat 0)) (gk.get e2) (by rw [List.getElem?_map, List.getD_eq_getElem?_getD, List.getElem?_eq_getElem hkn]; rfl)
            rw [Int.toNat_of_nonneg k0] at this
            simp [wipeE, this]
          rw [show (p.2.map fun k => IV.int ((gradesF t L row (ls.take i)).getD k.toNat 0)) = (p.2.map fun k => (gradesF t L row (ls.take i)).getD k.toNat 0).map IV.int by rw [List.map_map]; rfl]
          rw [hcl, cell_at_eq m0 (by omega) (by have := cok.p1; omega) cok.len hrow (by simp)]
          have e4 := (Gr.app h2 [.lst ((p.2.map fun k => (gradesF t L row (ls.take i)).getD k.toNat 0).map IV.int)]).get e2
          simp only [WE_ok]
          rw [appO_ref e4 (by simp; omega), WO_some]
          refine ⟨?_, (d2.trans (Dr.app _ _ _)).put_n⟩
          rw [List.getElem?_set_self (List.getElem?_eq_some_iff.mp e4).1, et]
          simp [gradeF, ← ec, cellsF_eq nd hc]
    · rintro env h2 ⟨r5, r9, e2, d2, rfl⟩
      rw [List.length_map, List.take_length] at e2
      exact ⟨r5, r9, e2, d2, rfl⟩
  rintro _ h2 ⟨r5, r9, e2, d2, rfl⟩
  simp
  exact ⟨g1.len, e2, g1.trans (Gr.tl d2)⟩

/-! the law's lines -/
theorem conns_nilN (l : List (Str × Int × List Int)) (hl : ∀ c ∈ l, GS 40 c.1) (h : IH) : neO (.tup (l.map cnI)) (.tup []) h = some (.bl (!decide (l = [])), h) := by
  have sd : Shp 4 (.tuple (l.map cnD)) := by
    have := (shp_tb (t := ⟨0, [], l⟩) hl)
    refine ⟨?_, ?_⟩
    · have q := this.1
      unfold tbD at q
      simp only [PyData.canLay0, PyData.canLayAll0, Bool.and_eq_true] at q
      rw [PyData.canLay0]
      exact q.2.2.1
    · have q := this.2
      unfold tbD at q
      simp only [PyData.depth, PyData.depthAll] at q
      rw [PyData.depth]
      omega
  rw [neO_tt (dat_tup (dats_map (f := cnI) (g := cnD) dat_cn l)) (dat_tup (by simp [dats] : dats [] = some [])) (k := 4) (by omega) sd ⟨by simp [PyData.canLay0, PyData.canLayAll0], by simp [PyData.depth, PyData.depthAll]⟩]
  cases l <;> simp [PyData.eqv, PyData.eqvAll]
def lnD : Ln → PyData
  | .inl x => .str x
  | .inr p => .tuple (.str p.1 :: p.2.map PyData.int)
theorem dat_ln : ∀ l : Ln, dat (lnI l) = some (lnD l)
  | .inl x => by simp [lnI, lnD]
  | .inr p => dat_tup (by simp only [dats, dat_str, dats_ints])
def LnG (l : Ln) : Prop := match l with
  | .inl x => GS 40 x
  | .inr p => GS 40 p.1
theorem shp_ln : ∀ {l : Ln}, LnG l → Shp 1 (lnD l)
  | .inl x, h => Shp.str h.1 1
  | .inr p, h => Shp.tup fun d hd => by
    rcases List.mem_cons.mp hd with e | e
    · subst e; exact Shp.str h.1 0
    · obtain ⟨c, hc, rfl⟩ := List.mem_map.mp e
      exact Shp.int _ _
theorem lines_ne {ls : List Ln} (hne : ls ≠ []) (hg : ∀ l ∈ ls, LnG l) {a b : Nat} {h : IH} (ea : h[a]? = some (.lst (ls.map lnI))) (eb : h[b]? = some (.lst [])) : neO (.ref a) (.ref b) h = some (.bl true, h) := by
  rw [neO_ll ea eb (dats_map (f := lnI) (g := lnD) dat_ln ls) (by simp [dats] : dats [] = some []) (k := 2) (by omega) (Shp.lst fun d hd => by
    obtain ⟨c, hc, rfl⟩ := List.mem_map.mp hd
    exact shp_ln (hg c hc)) (Shp.lst (ds := []) fun d hd => by cases hd)]
  cases ls with
  | nil => exact absurd rfl hne
  | cons a l => simp [PyData.eqvAll]
/-- the lines that the law draws -/
structure Lns (t : Tb) (L : List Str) (most : Nat) (ls : List Ln) : Prop where
  ok : LsOk t L ls
  ne : ls ≠ []
  len : ls.length ≤ most
  gs : ∀ l ∈ ls, LnG l
theorem lines_eq (w : Nat) {t : Tb} (ht : TbOk 9 t) {L : List Str} (hne : L ≠ []) (hL : L.length ≤ 3) (gL : ∀ x ∈ L, GS 40 x) (k : Nat) (more : Int) (h : IH) (p : Well h w) (hk : k ≠ w) (ek : h[k]? = some (.lst (L.map IV.str))) (r0 : 0 ≤ more) (r1 : more ≤ 100) :
    WE (f__law_lines [.ref w, tbI t, .ref k, .int more] h) fun v h' => ∃ (n : Nat) (ls : List Ln), v = .ref n ∧ h.length ≤ n ∧ h'[n]? = some (.lst (ls.map lnI)) ∧ Lns t L 103 ls ∧ Well h' w ∧ Dr w h h' := by
  have hw := p.lt
  have nc := ht.nc
  unfold f__law_lines b__law_lines
  rw [WE_runF]
  refine WS.seq (M := fun e1 h1 => h1 = h ++ [.lst (L.map IV.str)] ∧ e1 = [some (.ref w), some (tbI t), some (.ref k), some (.int more), some (.ref h.length), none, none, none, none, none]) ?_ ?_
  · simp [listO, seqOf, lstOf, ek]
  rintro _ h1 ⟨rfl, rfl⟩
  have e0 : (L.map Sum.inl).map lnI = L.map IV.str := by rw [List.map_map]; rfl
  have ok0 : LsOk t L (L.map Sum.inl) := by
    intro i l hl
    rw [List.getElem?_map] at hl
    cases hz : L[i]? with
    | none => rw [hz] at hl; cases hl
    | some z => rw [hz] at hl; cases hl; exact List.mem_of_getElem? hz
  have gs0 : ∀ l ∈ (L.map Sum.inl : List Ln), LnG l := fun l hl => by
    obtain ⟨x, hx, rfl⟩ := List.mem_map.mp hl
    exact gL x hx
  refine WS.seq (M := fun e1 h2 => ∃ (ls : List Ln) (r5 r6 r7 r8 r9 : Option IV), h2[h.length]? = some (.lst (ls.map lnI)) ∧ Lns t L 103 ls ∧ Well h2 w ∧ Dr w h h2 ∧ e1 = [some (.ref w), some (tbI t), some (.ref k), some (.int more), some (.ref h.length), r5, r6, r7, r8, r9]) ?_ ?_
  · have em : ∃ m : Nat, more * (if t.conns = [] then 0 else 1) = m ∧ m ≤ 100 ∧ (m ≠ 0 → t.conns ≠ []) := by
      by_cases hc : t.conns = []
      · exact ⟨0, by simp [hc], by omega, fun q => absurd rfl q⟩
      · exact ⟨more.toNat, by simp [hc]; omega, by omega, fun _ => hc⟩
    obtain ⟨m, em, hm, hmc⟩ := em
    have mk := Bt.ok (show Bt 10 more by unfold Bt; omega) (show Bt 10 (if t.conns = [] then (0 : Int) else 1) by unfold Bt; split <;> omega) (by omega)
    simp [tb_2, conns_nilN t.conns (fun c hc => (ht.cok c hc).nm)]
    refine ⟨mk, ?_⟩
    simp only [em]
    refine ⟨by omega, ?_⟩
    refine WS_for m (fun i e1 h2 => ∃ (ls : List Ln) (r5 r6 r7 r8 r9 : Option IV), h2[h.length]? = some (.lst (ls.map lnI)) ∧ Lns t L (L.length + i) ls ∧ Well h2 w ∧ Dr w h h2 ∧ e1 = [some (.ref w), some (tbI t), some (.ref k), some (.int more), some (.ref h.length), r5, r6, r7, r8, r9]) ?_ ?_ FU 0 _ _ (Nat.zero_le _) ⟨L.map Sum.inl, none, none, none, none, none, by simp [e0], ⟨ok0, by simpa using hne, by simp, gs0⟩, p.app _, Dr.app _ _ _, rfl⟩ (FU_lt64 (by omega))
    · rintro i env h2 hi ⟨ls, r5, r6, r7, r8, r9, e2, lk, p2, d2, rfl⟩
      refine ⟨.int (0 + (i : Int)), by unfold rngIt; simp [hi], _, rfl, ?_⟩
      have hcn := hmc (by omega)
      have hcl : 0 < t.conns.length := List.length_pos_iff.mpr hcn
      have hlen : ∀ h : IH, lenO [.tup (t.conns.map cnI)] h = some (.int t.conns.length, h) := fun h => by simp only [lenO, seqOf, List.length_map]
      unfold bd__law_lines_0
      refine WS.seq (M := fun e3 h3 => ∃ c : Str × Int × List Int, c ∈ t.conns ∧ Well h3 w ∧ Dr w h2 h3 ∧ e3 = [some (.ref w), some (tbI t), some (.ref k), some (.int more), some (.ref h.length), some (.int i), some (.str c.1), some (.int c.2.1), some (.tup (c.2.2.map IV.int)), r9]) ?_ ?_
      · simp [tb_2, hlen, -Prod.exists, -Prod.forall]
        refine (draw_eq w t.conns.length h2 p2 (by omega) (by omega)).mono fun v h3 ⟨r, e, q0, q1, p3, d3⟩ => ?_
        subst e
        have hr : r.toNat < t.conns.length := by omega
        have ec := cn_at (t := t) (List.getElem?_eq_getElem hr) h3
        rw [Int.toNat_of_nonneg q0] at ec
        rw [ec, WO_some]
        exact ⟨t.conns[r.toNat], List.getElem_mem hr, p3, d3, by simp [cnI, gTL, gsCons, gN, gsNil]⟩
      rintro _ h3 ⟨c, hc, p3, d3, rfl⟩
      have ck := ht.cok c hc
      have e3 := d3.get e2 (by omega)
      have ga := Gr.app h3 [.lst []]
      have ne := lines_ne lk.ne lk.gs (ga.get e3) (b := h3.length) (by simp)
      simp
      rw [ne, WO_some]
      have e4 := ga.get e3
      have p4 := p3.app [.lst []]
      have d4 := (d2.trans d3).trans (Dr.app w h3 [.lst []])
      generalize h3 ++ [IO.lst []] = h4 at e4 p4 d4
      simp [tyI_ref e4, -Prod.exists, -Prod.forall]
      refine ⟨by have := ck.p1; have := ck.p0; omega, ?_⟩
      refine draws_eq w ls.length h4 _ _ c.2.1.toNat _ _ (by have := ck.p1; omega) p4 (fun k hk h' d' p' => ?_) fun cs lc okc h' d' p' e' => ?_
      · have e5 := d'.get e4 (by omega)
        have hl : lenO [.ref h.length] h' = some (.int ls.length, h') := by simp only [lenO, seqOf, lstOf, e5, List.length_map]
        simp [wipeE, hl]
        refine (draw_eq w ls.length h' p' (by have := List.length_pos_iff.mpr lk.ne; omega) (by have := lk.len; omega)).mono fun v h6 ⟨r, e, q0, q1, p6, d6⟩ => ?_
        subst e
        exact ⟨d6, p6, r, rfl, q0, q1⟩
      · have e5 := d'.get e4 (by omega)
        rw [tupleO_ref e', WO_some, addO_tt (by simp; have := ck.p1; omega), WO_some, appO_ref e5 (by simp; have := lk.len; omega), WO_some]
        have hlt := (List.getElem?_eq_some_iff.mp e5).1
        refine ⟨ls ++ [.inr (c.1, cs)], ?_, ⟨?_, by simp, by have := lk.len; simp; omega, fun l hl => ?_⟩, p'.put (by omega), (d4.trans d').put (Nat.le_refl _)⟩
        · rw [List.getElem?_set_self hlt]
          simp [lnI]
        · intro j l hl
          by_cases hj : j < ls.length
          · rw [List.getElem?_append_left hj] at hl
            exact lk.ok j l hl
          · have hj2 : j = ls.length := by
              have := (List.getElem?_eq_some_iff.mp hl).1
              simp at this
              omega
            subst hj2
            rw [List.getElem?_append_right (Nat.le_refl _)] at hl
            simp at hl
            subst hl
            exact ⟨c, hc, rfl, lc, okc⟩
        · rcases List.mem_append.mp hl with q | q
          · exact lk.gs l q
          · rw [List.mem_singleton.mp q]; exact ck.nm
    · rintro env h2 ⟨ls, r5, r6, r7, r8, r9, e2, lk, p2, d2, rfl⟩
      refine ⟨by unfold rngIt; simp, ?_⟩
      exact ⟨ls, e2, ⟨lk.ok, lk.ne, by have := lk.len; omega, lk.gs⟩, p2, d2, _, _, _, _, _, rfl⟩
  rintro _ h2 ⟨ls, r5, r6, r7, r8, r9, e2, lk, p2, d2, rfl⟩
  simp
  exact ⟨ls, e2, lk, p2, d2⟩

def premF (t : Tb) (g ps : List Int) : Bool := ps.all fun p => decide (g.getD p.toNat 0 ∈ t.wished)
def folT (t : Tb) (L : List Str) (ls : List Ln) (ps : List Int) (goal : Int) (row : List Int) : Bool := !(premF t (gradesF t L row ls) ps && !decide ((gradesF t L row ls).getD goal.toNat 0 ∈ t.wished))
def followsF (t : Tb) (L : List Str) (ls : List Ln) (ps : List Int) (goal : Int) : Bool := (rowsG t.many L.length).all (folT t L ls ps goal)
theorem prem_comp {t : Tb} {gr ps : List Int} {np i0 : Nat} {h : IH} {env : Env} {b : Env → M IV} (ep : h[np]? = some (.lst (ps.map IV.int))) (hp : ps.length < 1000)
    (hb : ∀ a h', a ∈ ps → Gr h h' → WE (b (env.set i0 (some (.int a))) h') fun y h2 => y = .bl (decide (gr.getD a.toNat 0 ∈ t.wished)) ∧ h2 = h') :
    WE (compLoop (refIt np) (gN i0) cYes b env h.length FU 0 (h ++ [.lst []])) fun v h' => v = .ref h.length ∧ Gr h h' ∧ allO (fun bs => bs.all id) [.ref h.length] h' = some (.bl (premF t gr ps), h') := by
  refine comp_itH (xs := ps) IV.int (fun a => .bl (decide (gr.getD a.toNat 0 ∈ t.wished))) (by omega) (fun i h' g => by rw [refIt_nxt (g.get ep)]) (fun a h' ha g => ⟨_, rfl, hb a h' ha g⟩) ?_
  refine ⟨rfl, Gr.app _ _, ?_⟩
  rw [allO_at (bs := ps.map fun a => decide (gr.getD a.toNat 0 ∈ t.wished)) (by simp)]
  simp [premF, List.all_map, Function.comp_def]
theorem zip_map {L : List Str} {f : Int → Int} : ∀ {row : List Int}, L.Nodup → row.length = L.length → pairsI (L.map fun x => .tup [.str x, .int (f (row.getD (L.idxOf x) 0))]) = some (zipD L (row.map f)) := by
  induction L with
  | nil => intro row _ _; rfl
  | cons a l ih =>
    intro row nd hl
    cases row with
    | nil => cases hl
    | cons g row =>
      rw [List.nodup_cons] at nd
      have ih := ih (row := row) nd.2 (by simpa using hl)
      have e : (l.map fun x => IV.tup [.str x, .int (f ((g :: row).getD ((a :: l).idxOf x) 0))]) = l.map fun x => IV.tup [.str x, .int (f (row.getD (l.idxOf x) 0))] := by
        refine List.map_congr_left fun x hx => ?_
        have hax : (a == x) = false := by
          have : a ≠ x := fun q => nd.1 (q ▸ hx)
          simpa using this
        rw [List.idxOf_cons, hax]
        simp
      rw [List.map_cons, e, pairsI, ih]
      simp [keyI, zipD]
theorem zipD_nd {L : List Str} (nd : L.Nodup) {row : List Int} (hl : row.length = L.length) : ((zipD L row).map (·.1)).Nodup := by
  unfold zipD
  rw [List.map_map]
  have : (L.zip row).map ((fun p : Key × IV => p.1) ∘ fun p => (Sum.inr p.1, IV.int p.2)) = ((L.zip row).map Prod.fst).map fun x => (Sum.inr x : Key) := by rw [List.map_map]; rfl
  rw [this, List.map_fst_zip (by omega)]
  exact map_ndN nd fun x _ y _ e => Sum.inr.inj e
theorem zipD_len {L : List Str} {row : List Int} : (zipD L row).length ≤ L.length := by
  unfold zipD
  rw [List.length_map, List.length_zip]
  omega
theorem Hom.grades {a b : Tb} {f : Int → Int} (H : Hom a b f) (ha : TbOk 9 a) (nd : (a.conns.map (·.1)).Nodup) {L : List Str} {ls : List Ln} (lo : LsOk a L ls) {row : List Int} (hr : RowOk a.many L.length row) : gradesF b L (row.map f) ls = (gradesF a L row ls).map f := by
  have := gradesF_hom ha H.sh nd f H.cell lo hr ls.length
  rwa [List.take_length] at this
theorem Hom.row {a b : Tb} {f : Int → Int} (H : Hom a b f) {n : Nat} {row : List Int} (hr : RowOk a.many n row) : RowOk b.many n (row.map f) := by
  refine ⟨by simpa using hr.1, fun g hg => ?_⟩
  obtain ⟨k, hk, rfl⟩ := List.mem_map.mp hg
  exact H.ok k (hr.2 k hk).1 (hr.2 k hk).2
theorem ints_ne {a b : Nat} {xs : List Int} {h : IH} (ea : h[a]? = some (.lst (xs.map IV.int))) (eb : h[b]? = some (.lst (xs.map IV.int))) : neO (.ref a) (.ref b) h = some (.bl false, h) := by
  have s : Shp 1 (.list (xs.map PyData.int)) := shp_ints xs 0
  have := neO_ll ea eb (dats_ints xs) (dats_ints xs) (k := 1) (by omega) s s
  have e := eqv_refl _ s.1
  rw [PyData.eqv] at e
  rw [e] at this
  exact this
theorem ints_eq2 {a b : Nat} {xs : List Int} {h : IH} (ea : h[a]? = some (.lst (xs.map IV.int))) (eb : h[b]? = some (.lst (xs.map IV.int))) : eqO (.ref a) (.ref b) h = some (.bl true, h) := by
  have s : Shp 1 (.list (xs.map PyData.int)) := shp_ints xs 0
  have := eqO_ll ea eb (dats_ints xs) (dats_ints xs) (k := 1) (by omega) s s
  have e := eqv_refl _ s.1
  rw [PyData.eqv] at e
  rw [e] at this
  exact this
def Wok (t : Tb) (L : List Str) (ls : List Ln) (row : List Int) (p : Int) : Prop := (gradesF t L row ls).getD p.toNat 0 ∈ t.wished
theorem rowsG_mem {m : Int} (m0 : 1 ≤ m) {n : Nat} {r : List Int} : r ∈ rowsG m n ↔ RowOk m n r :=
  ⟨fun h => rowsG_ok m n r h, fun h => List.mem_of_getElem? (rowsG_get m0 n r h)⟩
theorem prem_iff {t : Tb} {L : List Str} {ls : List Ln} {row ps : List Int} : premF t (gradesF t L row ls) ps = true ↔ ∀ p ∈ ps, Wok t L ls row p := by
  unfold premF
  rw [List.all_eq_true]
  constructor
  · intro h p hp
    have := h p hp
    simpa [Wok] using this
  · intro h p hp
    have := h p hp
    simpa [Wok] using this
theorem follows_iff {t : Tb} (m0 : 1 ≤ t.many) {L : List Str} {ls : List Ln} {ps : List Int} {goal : Int} : followsF t L ls ps goal = true ↔ ∀ row, RowOk t.many L.length row → (∀ p ∈ ps, Wok t L ls row p) → Wok t L ls row goal := by
  unfold followsF
  rw [List.all_eq_true]
  have key : ∀ row, folT t L ls ps goal row = true ↔ ((∀ p ∈ ps, Wok t L ls row p) → Wok t L ls row goal) := fun row => by
    unfold folT
    rw [← prem_iff]
    unfold Wok
    cases premF t (gradesF t L row ls) ps <;> simp
  exact ⟨fun h row hr => (key row).mp (h row ((rowsG_mem m0).mpr hr)), fun h row hr => (key row).mpr (h row ((rowsG_mem m0).mp hr))⟩
theorem Hom.wok {a b : Tb} {f : Int → Int} (H : Hom a b f) (ha : TbOk 9 a) (nd : (a.conns.map (·.1)).Nodup) {L : List Str} {ls : List Ln} (lo : LsOk a L ls) {row : List Int} (hr : RowOk a.many L.length row) {q : Int} (q0 : 0 ≤ q) (q1 : q < ls.length) : Wok a L ls row q ↔ Wok b L ls (row.map f) q := by
  have gok := gradesF_ok ha nd lo hr ls.length
  have gl := gradesF_len a L row ls ls.length
  rw [List.take_length] at gok gl
  have hq : q.toNat < (gradesF a L row ls).length := by omega
  have hm : (gradesF a L row ls).getD q.toNat 0 ∈ gradesF a L row ls := by
    rw [List.getD_eq_getElem?_getD, List.getElem?_eq_getElem hq]
    exact List.getElem_mem hq
  have hb := gok _ hm
  unfold Wok
  rw [H.grades ha nd lo hr, getD_map hq]
  conv => lhs; rw [← H.wished]
  rw [List.mem_filter, rngI_mem', decide_eq_true_iff]
  exact ⟨fun q => q.2, fun q => ⟨hb, q⟩⟩
theorem Hom.follows {a b : Tb} {f : Int → Int} (H : Hom a b f) (ha : TbOk 9 a) (hb : TbOk 9 b) (nd : (a.conns.map (·.1)).Nodup) {L : List Str} {ls : List Ln} (lo : LsOk a L ls) {ps : List Int} (okp : CellsOk ls.length ps) {goal : Int} (q0 : 0 ≤ goal) (q1 : goal < ls.length) :
    followsF b L ls ps goal = true → followsF a L ls ps goal = true := by
  rw [follows_iff ha.m0, follows_iff hb.m0]
  intro h row hr hp
  rw [H.wok ha nd lo hr q0 q1]
  exact h _ (H.row hr) fun q hq => (H.wok ha nd lo hr (okp q hq).1 (okp q hq).2).mp (hp q hq)

theorem shrunk_follows {t : Tb} (ht : TbOk 9 t) (nd : (t.conns.map (·.1)).Nodup) {nums : List Int} (A : Alk t nums) {L : List Str} {ls : List Ln} (lo : LsOk t L ls) {ps : List Int} (okp : CellsOk ls.length ps) {goal : Int} (q0 : 0 ≤ goal) (q1 : goal < ls.length) :
    followsF (shF t nums) L ls ps goal = followsF t L ls ps goal := by
  obtain ⟨ok, sh⟩ := shF_ok ht A
  have H := hom_shrunk ht nd A
  rw [Bool.eq_iff_iff]
  refine ⟨H.follows ht ok nd lo okp q0 q1, ?_⟩
  rw [follows_iff ht.m0, follows_iff ok.m0]
  intro h row hr hp
  have hr : RowOk (npF nums) L.length row := hr
  have hr2 := row_fst A hr
  have e : (row.map (fstF t nums)).map (fun g => nums.getD g.toNat 0) = row := by
    rw [List.map_map]
    conv => rhs; rw [← List.map_id row]
    refine List.map_congr_left fun k hk => ?_
    exact (fst_ok A (hr.2 k hk).1 (hr.2 k hk).2).2.1
  have w := fun {q : Int} (a : 0 ≤ q) (b : q < ls.length) => H.wok ht nd lo hr2 a b
  rw [e] at w
  exact (w q0 q1).mp (h _ hr2 fun q hq => (w (okp q hq).1 (okp q hq).2).mpr (hp q hq))
/-! the law's tables -/
theorem div_mod_ok {p m : Int} (m0 : 1 ≤ m) (m1 : m ≤ 9) (p0 : 0 ≤ p) (hp : p < m * m) : (0 ≤ p.fdiv m ∧ p.fdiv m < m) ∧ 0 ≤ p.fmod m ∧ p.fmod m < m := by
  refine ⟨?_, fmod_lt p m (by omega)⟩
  rw [Int.fdiv_eq_ediv_of_nonneg _ (by omega)]
  exact ⟨Int.ediv_nonneg p0 (by omega), Int.ediv_lt_of_lt_mul (by omega) hp⟩
theorem erow {t : Tb} (ht : TbOk 9 t) {home : List Int} (hh : home.length = t.many.toNat) {c : Str × Int × List Int} (hc : CnOk t.many c) (p : Nat) (hp : p < c.2.2.length) (h : IH) (r0 r2 r4 r5 r6 r10 r11 r12 r13 r14 r15 r16 : Option IV) (n3 n8 : Nat) (hne : n3 ≠ n8) (xs : List Int) (e3 : h[n3]? = some (.lst (home.map IV.int))) (ex : h[n8]? = some (.lst (xs.map IV.int))) (hx : xs.length = p) (okx : CellsOk t.many xs)
    (N : Env → IH → Prop) (R : IV → IH → Prop) (B C : Env → IH → Prop)
    (hN : ∀ h' r10 r11 r12 r13 r15 r16 (v : Int), Dr n8 h h' → 0 ≤ v ∧ v < t.many → h'[n8]? = some (.lst ((xs ++ [v]).map IV.int)) → N [r0, some (tbI t), r2, some (.ref n3), r4, r5, r6, some (.tup (c.2.2.map IV.int)), some (.ref n8), some (.int p), r10, r11, r12, r13, r14, r15, r16] h') :
    WS (bd__law_even_0 [r0, some (tbI t), r2, some (.ref n3), r4, r5, r6, some (.tup (c.2.2.map IV.int)), some (.ref n8), some (.int p), r10, r11, r12, r13, r14, r15, r16] h) N R B C := by
  have m0 := ht.m0
  have m1 := ht.m1
  have hne0 : t.many ≠ 0 := by omega
  have ldv : t.many.natAbs.log2 < 9000 := by have := log2_le (show Bt 10 t.many by unfold Bt; omega); omega
  have hn8 := (List.getElem?_eq_some_iff.mp ex).1
  have hn3 := (List.getElem?_eq_some_iff.mp e3).1
  have cl : (c.2.2.length : Int) ≤ t.many * t.many := by
    have := hc.len
    have p0 := hc.p0
    have p1 := hc.p1
    have hmm := Int.mul_le_mul_of_nonneg_left m0 (show 0 ≤ t.many by omega)
    have : c.2.1 = 0 ∨ c.2.1 = 1 ∨ c.2.1 = 2 := by omega
    rcases this with e | e | e <;> rw [e] at this
    · rw [hc.len, e]; simp; omega
    · rw [hc.len, e, show ((1 : Int).toNat) = 1 from rfl, Int.pow_succ, Int.pow_zero, Int.one_mul]; omega
    · rw [hc.len, e, show ((2 : Int).toNat) = 2 from rfl, Int.pow_succ, Int.pow_succ, Int.pow_zero, Int.one_mul]; omega
  have cl81 : c.2.2.length ≤ 81 := by
    have := Int.mul_le_mul_of_nonneg_left m1 (show 0 ≤ t.many by omega)
    omega
  have dm : ∀ q : Nat, q ≤ p → (0 ≤ (q : Int).fdiv t.many ∧ (q : Int).fdiv t.many < t.many) ∧ 0 ≤ (q : Int).fmod t.many ∧ (q : Int).fmod t.many < t.many := fun q hq => div_mod_ok m0 m1 (by omega) (by omega)
  have hix : ∀ (h' : IH), h'[n3]? = some (.lst (home.map IV.int)) → ∀ k, 0 ≤ k → k < t.many → ixQ (.ref n3) (.int k) h' = some (.int (home.getD k.toNat 0), h') := fun h' e k k0 k1 => ixG (gs := home) e k0 (by omega)
  have cell : 0 ≤ c.2.2.getD p 0 ∧ c.2.2.getD p 0 < t.many := by
    refine hc.cells _ ?_
    rw [List.getD_eq_getElem?_getD, List.getElem?_eq_getElem hp]
    exact List.getElem_mem hp
  have cix : ∀ h' : IH, ixQ (.tup (c.2.2.map IV.int)) (.int p) h' = some (.int (c.2.2.getD p 0), h') := fun h' => ixQ_tup (by rw [List.getElem?_map, List.getD_eq_getElem?_getD, List.getElem?_eq_getElem hp]; rfl)
  have dp := dm p (Nat.le_refl _)
  unfold bd__law_even_0
  refine WS.seq (M := fun e h1 => h1 = h ++ [.lst [.int (home.getD ((p : Int).fdiv t.many).toNat 0), .int (home.getD ((p : Int).fmod t.many).toNat 0)]] ∧ e = [r0, some (tbI t), r2, some (.ref n3), r4, r5, r6, some (.tup (c.2.2.map IV.int)), some (.ref n8), some (.int p), some (.ref h.length), r11, r12, r13, r14, r15, r16]) ?_ ?_
  · simp [tb_0, hne0, ldv, -List.getD_eq_getElem?_getD]
    rw [hix h e3 _ dp.1.1 dp.1.2, WO_some]
    simp [hne0, -List.getD_eq_getElem?_getD]
    rw [hix h e3 _ dp.2.1 dp.2.2, WO_some]
    simp
  rintro _ h1 ⟨rfl, rfl⟩
  have g1 := Gr.app h [IO.lst [.int (home.getD ((p : Int).fdiv t.many).toNat 0), .int (home.getD ((p : Int).fmod t.many).toNat 0)]]
  have eF : (h ++ [IO.lst [.int (home.getD ((p : Int).fdiv t.many).toNat 0), .int (home.getD ((p : Int).fmod t.many).toNat 0)]])[h.length]? = some (.lst ([home.getD ((p : Int).fdiv t.many).toNat 0, home.getD ((p : Int).fmod t.many).toNat 0].map IV.int)) := by simp
  generalize h ++ [IO.lst [.int (home.getD ((p : Int).fdiv t.many).toNat 0), .int (home.getD ((p : Int).fmod t.many).toNat 0)]] = h1 at g1 eF
  have hh1 := g1.len
  refine WS.seq (M := fun e h2 => ∃ (n11 : Nat) (ss : List Int) (r15 : Option IV), h2[n11]? = some (.lst (ss.map IV.int)) ∧ (∀ x ∈ ss, 0 ≤ x ∧ x < (p : Int)) ∧ Gr h1 h2 ∧ e = [r0, some (tbI t), r2, some (.ref n3), r4, r5, r6, some (.tup (c.2.2.map IV.int)), some (.ref n8), some (.int p), some (.ref h.length), some (.ref n11), r12, r13, r14, r15, r16]) ?_ ?_
  · simp
    refine ⟨by omega, ?_⟩
    refine WE_comp p (fun i h' => Gr h1 h' ∧ h1.length < h'.length ∧ ∃ ss : List Int, ss.length ≤ i ∧ (∀ x ∈ ss, 0 ≤ x ∧ x < (p : Int)) ∧ h'[h1.length]? = some (.lst (ss.map IV.int))) ?_ ?_ FU 0 _ (Nat.zero_le _) ⟨Gr.app _ _, by simp, [], by simp, by simp, by simp⟩ (FU_lt64 (by omega))
    · rintro i h' hi ⟨g', hl', ss, l1, l2, l3⟩
      refine ⟨.int (0 + (i : Int)), by unfold rngIt; simp [hi], _, rfl, ?_⟩
      have di := dm i (by omega)
      have e3' := g'.get (g1.get e3)
      simp [wipeE, tb_0, hne0, ldv, -List.getD_eq_getElem?_getD]
      rw [hix h' e3' _ di.1.1 di.1.2, WO_some]
      try simp [hne0, -List.getD_eq_getElem?_getD]
      rw [hix h' e3' _ di.2.1 di.2.2, WO_some]
      have gA := Gr.app h' [IO.lst [.int (home.getD ((i : Int).fdiv t.many).toNat 0), .int (home.getD ((i : Int).fmod t.many).toNat 0)]]
      rw [eqO_ints (xs := [home.getD ((i : Int).fdiv t.many).toNat 0, home.getD ((i : Int).fmod t.many).toNat 0]) (by simp) (gA.get (g'.get eF)), WO_some]
      have e5 := gA.get l3
      have gB := g'.trans gA
      generalize decide ([home.getD ((i : Int).fdiv t.many).toNat 0, home.getD ((i : Int).fmod t.many).toNat 0] = [home.getD ((p : Int).fdiv t.many).toNat 0, home.getD ((p : Int).fmod t.many).toNat 0]) = bb
      cases bb with
      | false =>
        simp [-List.getD_eq_getElem?_getD]
        exact ⟨gB, by omega, ss, by omega, l2, e5⟩
      | true =>
        simp [-List.getD_eq_getElem?_getD]
        refine ⟨ss.map IV.int, e5, by simp; omega, gB.put (Nat.le_refl _), by omega, ss ++ [(i : Int)], by simp; omega, fun x hx => ?_, ?_⟩
        · rcases List.mem_append.mp hx with q | q
          · exact l2 x q
          · rw [List.mem_singleton.mp q]; omega
        · rw [List.getElem?_set_self (List.getElem?_eq_some_iff.mp e5).1]
          simp
    · rintro h' ⟨g', hl', ss, l1, l2, l3⟩
      refine ⟨by unfold rngIt; simp, ?_⟩
      exact ⟨h1.length, ss, l3, l2, g', rfl⟩
  rintro _ h2 ⟨n11, ss, s15, e11, okS, g2, rfl⟩
  refine WS.seq (M := fun e h3 => h2 = h3 ∧ e = [r0, some (tbI t), r2, some (.ref n3), r4, r5, r6, some (.tup (c.2.2.map IV.int)), some (.ref n8), some (.int p), some (.ref h.length), some (.ref n11), some (.int (c.2.2.getD p 0)), r13, r14, s15, r16]) ?_ ?_
  · simp [-List.getD_eq_getElem?_getD]
    rw [cix h2, WO_some]
    simp
  rintro _ _ ⟨rfl, rfl⟩
  have g12 := g1.trans g2
  refine WS.seq (M := fun e h3 => ∃ (v : Int) (r13 r16 : Option IV), (0 ≤ v ∧ v < t.many) ∧ Gr h2 h3 ∧ e = [r0, some (tbI t), r2, some (.ref n3), r4, r5, r6, some (.tup (c.2.2.map IV.int)), some (.ref n8), some (.int p), some (.ref h.length), some (.ref n11), some (.int v), r13, r14, s15, r16]) ?_ ?_
  · have gA := Gr.app h2 [IO.lst []]
    have en : neO (.ref n11) (.ref h2.length) (h2 ++ [IO.lst []]) = some (.bl (!decide (ss = [])), h2 ++ [IO.lst []]) := by
      rw [neO_ll (xs := ss.map IV.int) (ys := ([] : List Int).map IV.int) (gA.get e11) (by simp) (dats_ints ss) (dats_ints []) (k := 1) (by omega) (shp_ints ss 0) (shp_ints [] 0), eqv_ints]
    simp [-List.getD_eq_getElem?_getD]
    rw [en, WO_some]
    by_cases hs : ss = []
    · simp [hs, -List.getD_eq_getElem?_getD]
      exact ⟨cell, gA⟩
    · simp only [hs, decide_false, Bool.not_false]
      simp [-List.getD_eq_getElem?_getD]
      have hsl := List.length_pos_iff.mpr hs
      have s0 := okS (ss.getD 0 0) (by rw [List.getD_eq_getElem?_getD, List.getElem?_eq_getElem hsl]; exact List.getElem_mem hsl)
      have ex2 := gA.get (g12.get ex)
      have e32 := gA.get (g12.get e3)
      have e112 := gA.get e11
      have f0 : 0 ≤ xs.getD (ss.getD 0 0).toNat 0 ∧ xs.getD (ss.getD 0 0).toNat 0 < t.many := by
        have : (ss.getD 0 0).toNat < xs.length := by omega
        refine okx _ ?_
        rw [List.getD_eq_getElem?_getD, List.getElem?_eq_getElem this]
        exact List.getElem_mem this
      generalize h2 ++ [IO.lst []] = h3 at gA ex2 e32 e112
      simp [tb_0, -List.getD_eq_getElem?_getD]
      refine ⟨by omega, ?_⟩
      refine comp_filtG (n := t.many.toNat) (fun k => decide (home.getD k.toNat 0 = home.getD (xs.getD (ss.getD 0 0).toNat 0).toNat 0)) (by omega) (fun j h' hj g' => ?_) (fun j h' hj g' => ?_) ?_
      · have i1 := ixG (gs := ss) (k := 0) (g'.get e112) (by omega) (by omega)
        simp [wipeE, -List.getD_eq_getElem?_getD]
        rw [hix h' (g'.get e32) j (by omega) (by omega), WO_some]
        simp [-List.getD_eq_getElem?_getD]
        rw [i1, WO_some]
        simp [-List.getD_eq_getElem?_getD]
        rw [ixG (gs := xs) (g'.get ex2) s0.1 (by omega), WO_some, hix h' (g'.get e32) _ f0.1 f0.2, WO_some]
        simp
      · simp [wipeE]
      have hmem : xs.getD (ss.getD 0 0).toNat 0 ∈ (((List.range t.many.toNat).map fun k => ((k : Nat) : Int)).filter fun k => decide (home.getD k.toNat 0 = home.getD (xs.getD (ss.getD 0 0).toNat 0).toNat 0)) := List.mem_filter.mpr ⟨rngI_mem'.mpr f0, by simp⟩
      have hin : ∀ x ∈ (((List.range t.many.toNat).map fun k => ((k : Nat) : Int)).filter fun k => decide (home.getD k.toNat 0 = home.getD (xs.getD (ss.getD 0 0).toNat 0).toNat 0)), 0 ≤ x ∧ x < t.many := fun x hx => rngI_mem'.mp (List.mem_filter.mp hx).1
      generalize (((List.range t.many.toNat).map fun k => ((k : Nat) : Int)).filter fun k => decide (home.getD k.toNat 0 = home.getD (xs.getD (ss.getD 0 0).toNat 0).toNat 0)) = near at hmem hin
      have hnl := List.length_pos_of_mem hmem
      have gC := Gr.app h3 [IO.lst (near.map IV.int)]
      have eN : (h3 ++ [IO.lst (near.map IV.int)])[h3.length]? = some (.lst (near.map IV.int)) := by simp
      generalize h3 ++ [IO.lst (near.map IV.int)] = h4 at gC eN
      have hl : lenO [.ref h3.length] h4 = some (.int near.length, h4) := by simp only [lenO, seqOf, lstOf, eN, List.length_map]
      have hnz : (near.length : Int) ≠ 0 := by omega
      have fm := fmod_lt (c.2.2.getD p 0) near.length (by omega)
      have hfin := hin (near.getD ((c.2.2.getD p 0).fmod near.length).toNat 0) (by
        have : ((c.2.2.getD p 0).fmod near.length).toNat < near.length := by omega
        rw [List.getD_eq_getElem?_getD, List.getElem?_eq_getElem this]
        exact List.getElem_mem this)
      have hne2 : ¬ near = [] := List.length_pos_iff.mp hnl
      rw [cix h4, WO_some, hl, WO_some]
      simp [hne2, -List.getD_eq_getElem?_getD]
      rw [ixG (gs := near) eN fm.1 fm.2, WO_some]
      exact ⟨_, hfin, gA.trans gC, rfl⟩
  rintro _ h3 ⟨v, s13, s16, hv, g3, rfl⟩
  have ex3 := g3.get (g12.get ex)
  simp [tyI_ref ex3]
  rw [appO_ref ex3 (by simp; omega), WO_some]
  refine hN _ _ _ _ _ _ _ v ((g12.trans g3).dr n8).put_n hv ?_
  rw [List.getElem?_set_self (List.getElem?_eq_some_iff.mp ex3).1]
  simp

theorem nd_mem_inj {α β : Type} (f : α → β) : ∀ {l : List α}, (l.map f).Nodup → ∀ {a b : α}, a ∈ l → b ∈ l → f a = f b → a = b
  | [], _, _, _, h, _, _ => by cases h
  | x :: l, n, a, b, ha, hb, e => by
    rw [List.map_cons, List.nodup_cons] at n
    rcases List.mem_cons.mp ha with q | q <;> rcases List.mem_cons.mp hb with r | r
    · rw [q, r]
    · subst q
      exact absurd (List.mem_map.mpr ⟨b, r, e.symm⟩) n.1
    · subst r
      exact absurd (List.mem_map.mpr ⟨a, q, e⟩) n.1
    · exact nd_mem_inj f n.2 q r e
theorem fix_ex (t : Tb) (m0 : 1 ≤ t.many) : ∃ k, itF t (itK t k) = itK t k := by
  have key : ∀ n k, mu t.many.toNat (itK t k) ≤ n → ∃ j, itF t (itK t j) = itK t j := by
    intro n
    induction n with
    | zero =>
      intro k hk
      have := itF_mu (itK_len m0 k) (itK_canon t k)
      exact ⟨k, this.2 (by omega)⟩
    | succ n ih =>
      intro k hk
      have := itF_mu (itK_len m0 k) (itK_canon t k)
      by_cases e : mu t.many.toNat (itF t (itK t k)) = mu t.many.toNat (itK t k)
      · exact ⟨k, this.2 e⟩
      · exact ih (k + 1) (by show mu _ (itF t (itK t k)) ≤ n; omega)
  exact key _ 0 (Nat.le_refl _)
def walkF (t : Tb) (ss : List St) (g : Int) : Int := ss.foldl (fun g s => ledF t s g) g
theorem walk_ok {t : Tb} {b : Int} (ht : TbOk b t) (nd : (t.conns.map (·.1)).Nodup) : ∀ {ss : List St}, (∀ s ∈ ss, s ∈ stepsF t) → ∀ {g : Int}, 0 ≤ g → g < t.many → 0 ≤ walkF t ss g ∧ walkF t ss g < t.many
  | [], _, g, g0, g1 => ⟨g0, g1⟩
  | s :: ss, h, g, g0, g1 => by
    have := led_ok ht nd (stepsF_ok (h s List.mem_cons_self)) g0 g1
    exact walk_ok ht nd (ss := ss) (fun x hx => h x (List.mem_cons_of_mem _ hx)) this.1 this.2
theorem walk_app (t : Tb) (ss : List St) (s : St) (g : Int) : walkF t (ss ++ [s]) g = ledF t s (walkF t ss g) := by simp [walkF]
theorem walk_stab {t : Tb} {b : Int} (ht : TbOk b t) (nd : (t.conns.map (·.1)).Nodup) {nums : List Int} (A : Alk t nums) : ∀ {ss : List St}, (∀ s ∈ ss, s ∈ stepsF t) → ∀ {x y : Int}, 0 ≤ x → x < t.many → 0 ≤ y → y < t.many → nums.getD x.toNat 0 = nums.getD y.toNat 0 → nums.getD (walkF t ss x).toNat 0 = nums.getD (walkF t ss y).toNat 0
  | [], _, x, y, _, _, _, _, e => e
  | s :: ss, h, x, y, x0, x1, y0, y1, e => by
    have hs := h s List.mem_cons_self
    have lx := led_ok ht nd (stepsF_ok hs) x0 x1
    have ly := led_ok ht nd (stepsF_ok hs) y0 y1
    exact walk_stab ht nd A (ss := ss) (fun x hx => h x (List.mem_cons_of_mem _ hx)) lx.1 lx.2 ly.1 ly.2 (A.stab s hs x y x0 x1 y0 y1 e)
/-- the pairs that were come to, each with its way -/
abbrev Way := (Int × Int) × List St
def wayI (e : Way) : List Int × IV := ([e.1.1, e.1.2], .tup (e.2.map stI))
def prI (p : Int × Int) : IV := .tup [.int p.1, .int p.2]
structure WaysOk (t : Tb) (x y : Int) (W : List Way) (A : List (Int × Int)) : Prop where
  nd : (W.map (·.1)).Nodup
  rg : ∀ e ∈ W, (0 ≤ e.1.1 ∧ e.1.1 < t.many) ∧ 0 ≤ e.1.2 ∧ e.1.2 < t.many
  st : ∀ e ∈ W, (∀ s ∈ e.2, s ∈ stepsF t) ∧ walkF t e.2 x = e.1.1 ∧ walkF t e.2 y = e.1.2 ∧ e.2.length ≤ W.length
  hd : (x, y) ∈ W.map (·.1)
  ah : ∀ p ∈ A, p ∈ W.map (·.1)
  al : A.length ≤ W.length
theorem WaysOk.len {t : Tb} {x y : Int} {W : List Way} {A : List (Int × Int)} (h : WaysOk t x y W A) (m0 : 1 ≤ t.many) (m1 : t.many ≤ 9) : W.length ≤ 81 := by
  have h1 : ((W.map (·.1)).map fun p : Int × Int => (p.1.toNat, p.2.toNat)).Nodup := by
    refine map_ndN h.nd fun p hp q hq e => ?_
    obtain ⟨a, ha, rfl⟩ := List.mem_map.mp hp
    obtain ⟨b, hb, rfl⟩ := List.mem_map.mp hq
    have r1 := h.rg a ha
    have r2 := h.rg b hb
    simp only [Prod.mk.injEq] at e
    ext <;> omega
  have h2 := nd_len h1 (b := prs t.many.toNat) fun p hp => by
    obtain ⟨q, hq, rfl⟩ := List.mem_map.mp hp
    obtain ⟨a, ha, rfl⟩ := List.mem_map.mp hq
    have r1 := h.rg a ha
    exact prs_mem.mpr ⟨by omega, by omega⟩
  rw [List.length_map, List.length_map, prs_len] at h2
  have : t.many.toNat * t.many.toNat ≤ 9 * 9 := Nat.mul_le_mul (by omega) (by omega)
  omega
/-- a pair whose images are all there, for the first n steps -/
def DoneN (t : Tb) (W : List Way) (n : Nat) (p : Int × Int) : Prop := (p.1 ∈ t.wished ↔ p.2 ∈ t.wished) ∧ ∀ s ∈ (stepsF t).take n, (ledF t s p.1, ledF t s p.2) ∈ W.map (·.1)
theorem valI_way {W : List Way} (nd : (W.map (·.1)).Nodup) {e : Way} (he : e ∈ W) : valI (W.map wayI) [e.1.1, e.1.2] = some (.tup (e.2.map stI)) := by
  refine valI_of ⟨wayI e, List.mem_map_of_mem he, rfl⟩ fun kv hkv ek => ?_
  obtain ⟨f, hf, rfl⟩ := List.mem_map.mp hkv
  have e1 : f.1 = e.1 := by
    have : [f.1.1, f.1.2] = [e.1.1, e.1.2] := ek
    simp only [List.cons.injEq, and_true] at this
    ext
    · exact this.1
    · exact this.2
  have : f = e := nd_mem_inj (·.1) nd hf he e1
  rw [this]
  rfl
theorem valI_way_none {W : List Way} {p : Int × Int} (h : p ∉ W.map (·.1)) : valI (W.map wayI) [p.1, p.2] = none := by
  unfold valI
  rw [Option.map_eq_none_iff, List.find?_eq_none]
  intro kv hkv
  obtain ⟨f, hf, rfl⟩ := List.mem_map.mp hkv
  simp only [decide_eq_true_eq]
  intro e
  refine h (List.mem_map.mpr ⟨f, hf, ?_⟩)
  have : [f.1.1, f.1.2] = [p.1, p.2] := e
  simp only [List.cons.injEq, and_true] at this
  ext
  · exact this.1
  · exact this.2
theorem way_isSome {W : List Way} (nd : (W.map (·.1)).Nodup) (p : Int × Int) : (valI (W.map wayI) [p.1, p.2]).isSome = decide (p ∈ W.map (·.1)) := by
  by_cases h : p ∈ W.map (·.1)
  · obtain ⟨e, he, rfl⟩ := List.mem_map.mp h
    rw [valI_way nd he, decide_eq_true h]
    rfl
  · rw [valI_way_none h, decide_eq_false h]
    rfl
theorem put_way {W : List Way} {p : Int × Int} (h : p ∉ W.map (·.1)) (ss : List St) : putI (W.map wayI) [p.1, p.2] (.tup (ss.map stI)) = (W ++ [(p, ss)]).map wayI := by
  unfold putI
  rw [any_some, valI_way_none h]
  simp [wayI]
theorem dats_prs (l : List (Int × Int)) : dats (l.map prI) = some (l.map fun p => PyData.tuple [.int p.1, .int p.2]) := dats_map (fun p => dat_tup (by simp [dats])) l
theorem ahead_ne {A : List (Int × Int)} {a b : Nat} {h : IH} (ea : h[a]? = some (.lst (A.map prI))) (eb : h[b]? = some (.lst [])) : neO (.ref a) (.ref b) h = some (.bl (!decide (A = [])), h) := by
  have s : ∀ l : List (Int × Int), Shp 2 (.list (l.map fun p => PyData.tuple [.int p.1, .int p.2])) := fun l => Shp.lst fun d hd => by
    obtain ⟨p, hp, rfl⟩ := List.mem_map.mp hd
    exact Shp.tup fun d hd => by
      simp at hd
      rcases hd with e | e <;> subst e <;> exact Shp.int _ _
  rw [neO_ll ea eb (dats_prs A) (by simp [dats] : dats [] = some []) (k := 2) (by omega) (s A) (s [])]
  cases A with
  | nil => simp [PyData.eqvAll]
  | cons a A => simp [PyData.eqvAll]
theorem popO_prs {n : Nat} {p : Int × Int} {A : List (Int × Int)} {h : IH} (e : h[n]? = some (.lst ((p :: A).map prI))) (h2 : A.length < 1000000) : popO (.ref n) [.int 0] h = some (prI p, h.set n (.lst (A.map prI))) := by
  have hs : seqIndex? 0 ((p :: A).map prI).length = some 0 := by
    unfold seqIndex?
    simp
  simp only [popO, e]
  rw [if_pos (by omega)]
  simp only [hs]
  rfl

structure FrW (a b : Nat) (h h' : IH) : Prop where
  len : h.length ≤ h'.length
  at_ : ∀ k, k < h.length → k ≠ a → k ≠ b → h'[k]? = h[k]?
theorem FrW.refl (a b : Nat) (h : IH) : FrW a b h h := ⟨Nat.le_refl _, fun _ _ _ _ => rfl⟩
theorem FrW.app {a b : Nat} {h h' : IH} (f : FrW a b h h') (g : IH) : FrW a b h (h' ++ g) := ⟨by have := f.len; simp; omega, fun k hk h1 h2 => by
  have := f.len
  rw [List.getElem?_append_left (by omega)]
  exact f.at_ k hk h1 h2⟩
theorem FrW.put {a b n : Nat} {h h' : IH} {o : IO} (f : FrW a b h h') (hn : n = a ∨ n = b) : FrW a b h (h'.set n o) := ⟨by have := f.len; simp; omega, fun k hk h1 h2 => by
  rw [List.getElem?_set_ne (by omega)]
  exact f.at_ k hk h1 h2⟩
theorem FrW.get {a b n : Nat} {h h' : IH} {o : IO} (f : FrW a b h h') (e : h[n]? = some o) (h1 : n ≠ a) (h2 : n ≠ b) : h'[n]? = some o := by
  rw [f.at_ n (List.getElem?_eq_some_iff.mp e).1 h1 h2]; exact e
theorem FrW.gr {a b : Nat} {h0 h h' : IH} (g : Gr h0 h) (f : FrW a b h h') (h1 : h0.length ≤ a) (h2 : h0.length ≤ b) : Gr h0 h' := ⟨by have := f.len; have := g.len; omega, fun k hk => by
  have := g.len
  rw [f.at_ k (by omega) (by omega) (by omega)]
  exact g.at_ k hk⟩
theorem Lsts.frw {a b : Nat} {h h' : IH} (f : FrW a b h h') : ∀ {rs : List Nat} {ls : List (List Int)}, (∀ r ∈ rs, r ≠ a ∧ r ≠ b) → Lsts h rs ls → Lsts h' rs ls
  | [], [], _, _ => trivial
  | r :: rs, l :: ls, hn, q => ⟨f.get q.1 (hn r List.mem_cons_self).1 (hn r List.mem_cons_self).2, Lsts.frw f (fun x hx => hn x (List.mem_cons_of_mem _ hx)) q.2⟩
  | [], _ :: _, _, q => q.elim
  | _ :: _, [], _, q => q.elim
theorem Lsts.lt {h : IH} : ∀ {rs : List Nat} {ls : List (List Int)}, Lsts h rs ls → ∀ r ∈ rs, r < h.length
  | [], [], _, r, hr => by cases hr
  | a :: rs, l :: ls, q, r, hr => by
    rcases List.mem_cons.mp hr with e | e
    · rw [e]; exact (List.getElem?_eq_some_iff.mp q.1).1
    · exact Lsts.lt q.2 r e
  | [], _ :: _, q, _, _ => q.elim
  | _ :: _, [], q, _, _ => q.elim
def muW (nw na : Nat) (_ : Env) (h : IH) : Nat := (match h[nw]? with
  | some (.dT k) => 2 * (81 - k.length)
  | _ => 0) + match h[na]? with
  | some (.lst l) => l.length
  | _ => 0
theorem muW_eq {nw na : Nat} {e : Env} {h : IH} {W : List Way} {A : List (Int × Int)} (h1 : h[nw]? = some (.dT (W.map wayI))) (h2 : h[na]? = some (.lst (A.map prI))) : muW nw na e h = 2 * (81 - W.length) + A.length := by
  unfold muW
  simp only [h1, h2, List.length_map]
theorem DoneN.mono {t : Tb} {W W' : List Way} {n : Nat} {p : Int × Int} (d : DoneN t W n p) (h : ∀ q ∈ W.map (·.1), q ∈ W'.map (·.1)) : DoneN t W' n p := ⟨d.1, fun s hs => h _ (d.2 s hs)⟩
/-- the walk of the images of one pair -/
structure ImI (t : Tb) (x y : Int) (p : Int × Int) (W0 : List Way) (A0 : List (Int × Int)) (i : Nat) (W : List Way) (A : List (Int × Int)) : Prop where
  ok : WaysOk t x y W A
  sub : ∀ q ∈ W0.map (·.1), q ∈ W.map (·.1)
  len : A.length + W0.length = A0.length + W.length
  le : W0.length ≤ W.length
  dn : DoneN t W i p
  old : ∀ q ∈ W.map (·.1), q ∈ A ∨ q = p ∨ DoneN t W (stepsF t).length q
theorem image_eq {t : Tb} (ht : TbOk 9 t) (nd : (t.conns.map (·.1)).Nodup) {x y : Int} {p : Int × Int} {W0 : List Way} {A0 : List (Int × Int)} {i : Nat} {W : List Way} {A : List (Int × Int)} (I : ImI t x y p W0 A0 i W A) (hp : p ∈ W.map (·.1)) {s : St} (hs : (stepsF t)[i]? = some s) {r nw na : Nat} {h : IH} (er : h[r]? = some (.lst ((imF t s).map IV.int))) (ew : h[nw]? = some (.dT (W.map wayI))) (ea : h[na]? = some (.lst (A.map prI))) (hne : nw ≠ na) (r3 r9 : Option IV)
    (N : Env → IH → Prop) (hN : ∀ h' W' A' r9, ImI t x y p W0 A0 (i + 1) W' A' → h'[nw]? = some (.dT (W'.map wayI)) → h'[na]? = some (.lst (A'.map prI)) → FrW nw na h h' → N [some (tbI t), some (.int x), some (.int y), r3, some (.ref nw), some (.ref na), some (prI p), some (stI s), some (.ref r), r9] h') {R : IV → IH → Prop} {B C : Env → IH → Prop} :
    WS (bd_parting_0 [some (tbI t), some (.int x), some (.int y), r3, some (.ref nw), some (.ref na), some (prI p), some (stI s), some (.ref r), r9] h) N R B C := by
  have m0 := ht.m0
  have m1 := ht.m1
  have hsm := List.mem_of_getElem? hs
  obtain ⟨e, he, hep⟩ := List.mem_map.mp hp
  have rg := I.ok.rg e he
  rw [hep] at rg
  have lp := led_ok ht nd (stepsF_ok hsm) rg.1.1 rg.1.2
  have lq := led_ok ht nd (stepsF_ok hsm) rg.2.1 rg.2.2
  have l81 := I.ok.len m0 m1
  have tk : (stepsF t).take (i + 1) = (stepsF t).take i ++ [s] := by rw [List.take_add_one, hs, Option.toList_some]
  unfold bd_parting_0
  refine WS.seq (M := fun e1 h1 => h = h1 ∧ e1 = [some (tbI t), some (.int x), some (.int y), r3, some (.ref nw), some (.ref na), some (prI p), some (stI s), some (.ref r), some (prI (ledF t s p.1, ledF t s p.2))]) ?_ ?_
  · have i1 := ixG (k := p.1) er rg.1.1 (by rw [imF_len]; omega)
    have i2 := ixG (k := p.2) er rg.2.1 (by rw [imF_len]; omega)
    rw [imF_at rg.1.1 rg.1.2] at i1
    rw [imF_at rg.2.1 rg.2.2] at i2
    simp [prI, i1, i2]
  rintro _ _ ⟨rfl, rfl⟩
  have kq : keyT (prI (ledF t s p.1, ledF t s p.2)) = some [ledF t s p.1, ledF t s p.2] := rfl
  have kp : keyT (prI p) = some [p.1, p.2] := rfl
  have dn := way_isSome I.ok.nd (ledF t s p.1, ledF t s p.2)
  by_cases hin : (ledF t s p.1, ledF t s p.2) ∈ W.map (·.1)
  · obtain ⟨f, hf, ef⟩ := List.mem_map.mp hin
    have vv := valI_way I.ok.nd hf
    rw [ef] at vv
    simp [dinT, ew, kq, vv]
    refine hN h W A _ ⟨I.ok, I.sub, I.len, I.le, ⟨I.dn.1, fun s' hs' => ?_⟩, I.old⟩ ew ea (FrW.refl _ _ _)
    rw [tk] at hs'
    rcases List.mem_append.mp hs' with q | q
    · exact I.dn.2 s' q
    · rw [List.mem_singleton.mp q]; exact hin
  · have vp := valI_way I.ok.nd he
    rw [hep] at vp
    have pw := put_way hin (e.2 ++ [s])
    have le2 := (I.ok.st e he)
    have vv := valI_way_none hin
    simp [dinT, ew, kq, vv]
    rw [dgT_at ew kp vp, WO_some]
    rw [show IV.tup [stI s] = .tup ([s].map stI) from rfl, addO_tt (by have := le2.2.2.2; simp; omega), WO_some]
    rw [← List.map_append, putT_at ew kq (by simp; omega), pw]
    have ea' : (h.set nw (.dT ((W ++ [((ledF t s p.1, ledF t s p.2), e.2 ++ [s])]).map wayI)))[na]? = some (.lst (A.map prI)) := by rw [List.getElem?_set_ne hne]; exact ea
    have nwl := (List.getElem?_eq_some_iff.mp ew).1
    have nal := (List.getElem?_eq_some_iff.mp ea').1
    have al := I.ok.al
    simp [tyI_ref ea', -List.map_append]
    rw [appO_ref ea' (by simp; omega), WO_some]
    refine hN _ (W ++ [((ledF t s p.1, ledF t s p.2), e.2 ++ [s])]) (A ++ [(ledF t s p.1, ledF t s p.2)]) _ ⟨⟨?_, fun f hf => ?_, fun f hf => ?_, ?_, fun q hq => ?_, by simp; omega⟩, fun q hq => ?_, ?_, ?_, ⟨I.dn.1, fun s' hs' => ?_⟩, fun q hq => ?_⟩ ?_ ?_ ?_
    · rw [List.map_append, List.nodup_append]
      refine ⟨I.ok.nd, by simp, fun a ha b hb => ?_⟩
      simp at hb
      subst hb
      intro z
      subst z
      exact hin ha
    · rcases List.mem_append.mp hf with q | q
      · exact I.ok.rg f q
      · rw [List.mem_singleton.mp q]; exact ⟨lp, lq⟩
    · rcases List.mem_append.mp hf with q | q
      · obtain ⟨a, b, c, d⟩ := I.ok.st f q
        exact ⟨a, b, c, by simp; omega⟩
      · rw [List.mem_singleton.mp q]
        obtain ⟨a, b, c, d⟩ := le2
        refine ⟨fun z hz => ?_, by rw [walk_app, b, hep], by rw [walk_app, c, hep], by simp; omega⟩
        rcases List.mem_append.mp hz with w | w
        · exact a z w
        · rw [List.mem_singleton.mp w]; exact hsm
    · rw [List.map_append]; exact List.mem_append_left _ I.ok.hd
    · rw [List.map_append]
      rcases List.mem_append.mp hq with w | w
      · exact List.mem_append_left _ (I.ok.ah q w)
      · exact List.mem_append_right _ w
    · rw [List.map_append]; exact List.mem_append_left _ (I.sub q hq)
    · have := I.len; simp; omega
    · have := I.le; simp; omega
    · rw [List.map_append]
      rw [tk] at hs'
      rcases List.mem_append.mp hs' with w | w
      · exact List.mem_append_left _ (I.dn.2 s' w)
      · rw [List.mem_singleton.mp w]; exact List.mem_append_right _ (by simp)
    · rw [List.map_append] at hq
      rcases List.mem_append.mp hq with w | w
      · rcases I.old q w with z | z | z
        · exact .inl (List.mem_append_left _ z)
        · exact .inr (.inl z)
        · exact .inr (.inr (z.mono fun q hq => by rw [List.map_append]; exact List.mem_append_left _ hq))
      · exact .inl (List.mem_append_right _ w)
    · rw [List.getElem?_set_ne (by omega), List.getElem?_set_self nwl]
    · rw [List.getElem?_set_self nal, List.map_append]
      rfl
    · exact ((FrW.refl nw na h).put (.inl rfl)).put (.inr rfl)

theorem WaysOk.pop {t : Tb} {x y : Int} {W : List Way} {p : Int × Int} {A : List (Int × Int)} (o : WaysOk t x y W (p :: A)) : WaysOk t x y W A := ⟨o.nd, o.rg, o.st, o.hd, fun q hq => o.ah q (List.mem_cons_of_mem _ hq), by have := o.al; simp at this; omega⟩
theorem done_same {t : Tb} (ht : TbOk 9 t) (nd : (t.conns.map (·.1)).Nodup) {x y : Int} {W : List Way} (o : WaysOk t x y W []) (dn : ∀ q ∈ W.map (·.1), DoneN t W (stepsF t).length q) (k : Nat) : numAt (itK t k) x = numAt (itK t k) y := by
  let D : Int → Int → Bool := fun a b => !decide ((a, b) ∈ W.map (·.1))
  have hD : ∀ a b, D a b = false ↔ (a, b) ∈ W.map (·.1) := fun a b => by simp [D]
  have bas : BasD t D := fun a b _ _ _ _ e => (dn _ ((hD a b).mp e)).1
  have clo : CloD t D := fun a b _ _ _ _ e s hs => (hD _ _).mpr ((dn _ ((hD a b).mp e)).2 s (by rw [List.take_length]; exact hs))
  obtain ⟨e, he, hep⟩ := List.mem_map.mp o.hd
  have rg := o.rg e he
  rw [hep] at rg
  exact unl_same ht nd bas clo k x y rg.1.1 rg.1.2 rg.2.1 rg.2.2 ((hD _ _).mpr o.hd)
/-- what parting tells -/
def PartR (t : Tb) (x y : Int) (v : IV) : Prop := (v = .non ∧ ∀ k, numAt (itK t k) x = numAt (itK t k) y) ∨ ∃ ss : List St, v = .tup (ss.map stI) ∧ (∀ s ∈ ss, s ∈ stepsF t) ∧ ss.length ≤ 81 ∧ ¬ (walkF t ss x ∈ t.wished ↔ walkF t ss y ∈ t.wished)
theorem parting_eq {t : Tb} (ht : TbOk 9 t) (nd : (t.conns.map (·.1)).Nodup) (hn : t.conns.length ≤ 16) {x y : Int} (x0 : 0 ≤ x) (x1 : x < t.many) (y0 : 0 ≤ y) (y1 : y < t.many) (h : IH) :
    WE (f_parting [tbI t, .int x, .int y] h) fun v h' => Gr h h' ∧ PartR t x y v := by
  have m0 := ht.m0
  have m1 := ht.m1
  have sl : (stepsF t).length ≤ 288 := by
    have := flat_len (stC_len (m := t.many) m1) t.conns
    unfold stepsF
    omega
  unfold f_parting b_parting
  rw [WE_runF]
  refine WS.seq (M := fun e h1 => ∃ (n : Nat) (rs : List Nat), h1[n]? = some (.lst (((stepsF t).zip rs).map fun p => .tup [stI p.1, .ref p.2])) ∧ rs.length = (stepsF t).length ∧ Lsts h1 rs ((stepsF t).map (imF t)) ∧ Gr h h1 ∧ e = [some (tbI t), some (.int x), some (.int y), some (.ref n), none, none, none, none, none, none]) ?_ ?_
  · simp
    refine (images_of_eq ht nd hn h).mono fun v h1 ⟨n, rs, ev, e1, lr, ls, g1⟩ => ?_
    exact ⟨n, rs, e1, lr, ls, g1, by rw [ev]⟩
  rintro _ h1 ⟨ni, rs, e1, lrs, ls1, g1, rfl⟩
  have hni := (List.getElem?_eq_some_iff.mp e1).1
  refine WS.seq (M := fun e h2 => h2 = h1 ++ [.dT [([x, y], .tup [])]] ∧ e = [some (tbI t), some (.int x), some (.int y), some (.ref ni), some (.ref h1.length), none, none, none, none, none]) ?_ ?_
  · rw [WS_sAsg]
    refine WE_eDispT ?_
    simp [keyT, intsOf]
  rintro _ _ ⟨rfl, rfl⟩
  refine WS.seq (M := fun e h2 => h2 = h1 ++ [.dT [([x, y], .tup [])]] ++ [.lst [prI (x, y)]] ∧ e = [some (tbI t), some (.int x), some (.int y), some (.ref ni), some (.ref h1.length), some (.ref (h1.length + 1)), none, none, none, none]) (by simp [prI]) ?_
  rintro _ h2 ⟨eh2, rfl⟩
  have ew2 : h2[h1.length]? = some (.dT (([((x, y), [])] : List Way).map wayI)) := by rw [eh2]; simp [wayI]
  have ea2 : h2[h1.length + 1]? = some (.lst ([(x, y)].map prI)) := by rw [eh2]; simp
  have g2 : Gr h1 h2 := by rw [eh2]; exact (Gr.app _ _).trans (Gr.app _ _)
  have ei2 := g2.get e1
  have ls2 := Lsts.gr g2 ls1
  have hrs : ∀ r ∈ rs, r ≠ h1.length ∧ r ≠ h1.length + 1 := fun r hr => by
    have := Lsts.lt ls1 r hr
    omega
  have gh2 := g1.trans g2
  clear eh2 ls1 e1
  have hne : h1.length ≠ h1.length + 1 := by omega
  have gln := g1.len
  have hne2 : ni ≠ h1.length ∧ ni ≠ h1.length + 1 := by omega
  have gl1 : h.length ≤ h1.length := gln
  have gl2 : h.length ≤ h1.length + 1 := by omega
  generalize h1.length = nw at *
  generalize nw + 1 = na at *
  clear g1 g2 hni gln
  refine WS.seq (M := fun e h3 => Gr h h3 ∧ (∀ k, numAt (itK t k) x = numAt (itK t k) y)) ?_ ?_
  · refine WS_while (fun e h3 => ∃ (W : List Way) (A : List (Int × Int)) (r6 r7 r8 r9 : Option IV), WaysOk t x y W A ∧ (∀ q ∈ W.map (·.1), q ∈ A ∨ DoneN t W (stepsF t).length q) ∧ h3[nw]? = some (.dT (W.map wayI)) ∧ h3[na]? = some (.lst (A.map prI)) ∧ FrW nw na h2 h3 ∧ e = [some (tbI t), some (.int x), some (.int y), some (.ref ni), some (.ref nw), some (.ref na), r6, r7, r8, r9]) (muW nw na) ?_ FU _ h2
      ⟨[((x, y), [])], [(x, y)], none, none, none, none, ⟨by simp, by simp; omega, by simp [walkF], by simp, by simp, by simp⟩, by simp, ew2, ea2, FrW.refl _ _ _, rfl⟩ (FU_lt64 (by rw [muW_eq ew2 ea2]; simp))
    rintro env h3 ⟨W, A, r6, r7, r8, r9, ok, dn, ew, ea, fr, rfl⟩
    have hna := (List.getElem?_eq_some_iff.mp ea).1
    have hnw := (List.getElem?_eq_some_iff.mp ew).1
    have ga := Gr.app h3 [.lst []]
    have tst := ahead_ne (ga.get ea) (b := h3.length) (by simp)
    simp only [WE_tyB, WE_eOp, WE_eLst, WE_aNil, eVar_at, List.getElem?_cons_succ, List.getElem?_cons_zero, List.length_nil]
    rw [if_pos (by omega), tst, WO_some]
    have mu0 := muW_eq (e := [some (tbI t), some (.int x), some (.int y), some (.ref ni), some (.ref nw), some (.ref na), r6, r7, r8, r9]) ew ea
    cases A with
    | nil =>
      simp
      exact ⟨fr.gr gh2 gl1 gl2 |>.trans ga, fun k => done_same ht nd ok (fun q hq => (dn q hq).resolve_left (by simp)) k⟩
    | cons p A =>
      simp only [reduceCtorEq, decide_false, Bool.not_false, if_true]
      have ew3 := ga.get ew
      have ea3 := ga.get ea
      have fr3 := fr.app [.lst []]
      generalize hh4 : h3 ++ [IO.lst []] = h4 at *
      have l81 := ok.len m0 m1
      have hal := ok.al
      refine WS.seq (M := fun e h5 => h5 = h4.set na (.lst (A.map prI)) ∧ e = [some (tbI t), some (.int x), some (.int y), some (.ref ni), some (.ref nw), some (.ref na), some (prI p), r7, r8, r9]) ?_ ?_
      · simp [tyI_ref ea3]
        have := popO_prs ea3 (by simp at hal; omega)
        rw [this, WO_some]
        simp
      rintro _ h5 ⟨eh5, rfl⟩
      have hna4 := (List.getElem?_eq_some_iff.mp ea3).1
      have ea5 : h5[na]? = some (.lst (A.map prI)) := by rw [eh5, List.getElem?_set_self hna4]
      have ew5 : h5[nw]? = some (.dT (W.map wayI)) := by rw [eh5, List.getElem?_set_ne (Ne.symm hne)]; exact ew3
      have fr5 : FrW nw na h2 h5 := by rw [eh5]; exact fr3.put (.inr rfl)
      clear eh5 hh4 ga ea3 ew3 fr3 hna4
      have hp : p ∈ W.map (·.1) := ok.ah p List.mem_cons_self
      obtain ⟨ep, hep, epp⟩ := List.mem_map.mp hp
      have vp := valI_way ok.nd hep
      rw [epp] at vp
      have stp := ok.st ep hep
      rw [epp] at stp
      have wi : ∀ hh : IH, ixQ (prI p) (.int 0) hh = some (.int p.1, hh) ∧ ixQ (prI p) (.int 1) hh = some (.int p.2, hh) := fun hh => ⟨ixQ_tup0, ixQ_tup1⟩
      refine WS.seq (M := fun e h6 => (p.1 ∈ t.wished ↔ p.2 ∈ t.wished) ∧ h5 = h6 ∧ e = [some (tbI t), some (.int x), some (.int y), some (.ref ni), some (.ref nw), some (.ref na), some (prI p), r7, r8, r9]) ?_ ?_
      · simp [wi, tb_1, inO_ints]
        by_cases c1 : p.1 ∈ t.wished <;> by_cases c2 : p.2 ∈ t.wished <;> simp [c1, c2]
        all_goals
          rw [dgT_at ew5 (k := [p.1, p.2]) rfl vp, WO_some]
          refine ⟨fr5.gr gh2 gl1 gl2, .inr ⟨ep.2, rfl, stp.1, by omega, ?_⟩⟩
          rw [stp.2.1, stp.2.2.1]
          simp [c1, c2]
      rintro _ _ ⟨wish, rfl, rfl⟩
      have ei5 := fr5.get ei2 hne2.1 hne2.2
      rw [WS_sFor, WE_iSeq]
      simp only [eVar_at, List.getElem?_cons_succ, List.getElem?_cons_zero, WE_ok]
      rw [seqIt_ref ei5]
      have I0 : ImI t x y p W A 0 W A := ⟨ok.pop, fun q hq => hq, rfl, Nat.le_refl _, ⟨wish, by simp⟩, fun q hq => by
        rcases dn q hq with z | z
        · rcases List.mem_cons.mp z with w | w
          · exact .inr (.inl w)
          · exact .inl w
        · exact .inr (.inr z)⟩
      refine WS_list (xs := ((stepsF t).zip rs).map fun p => .tup [stI p.1, .ref p.2]) (n := ni) (fun i e h6 => ∃ (W' : List Way) (A' : List (Int × Int)) (r7 r8 r9 : Option IV), ImI t x y p W A i W' A' ∧ h6[nw]? = some (.dT (W'.map wayI)) ∧ h6[na]? = some (.lst (A'.map prI)) ∧ FrW nw na h2 h6 ∧ e = [some (tbI t), some (.int x), some (.int y), some (.ref ni), some (.ref nw), some (.ref na), some (prI p), r7, r8, r9])
        ⟨W, A, r7, r8, r9, I0, ew5, ea5, fr5, rfl⟩ (by simp; omega) (fun _ _ _ ⟨_, _, _, _, _, _, _, _, f, _⟩ => f.get ei2 hne2.1 hne2.2) ?_ ?_
      · rintro i z env h6 hz ⟨W', A', r7, r8, r9, I, ew6, ea6, fr6, rfl⟩
        rw [List.getElem?_map] at hz
        cases hzz : ((stepsF t).zip rs)[i]? with
        | none => rw [hzz] at hz; cases hz
        | some sr =>
          rw [hzz] at hz
          cases hz
          obtain ⟨hs, hr⟩ := List.getElem?_zip_eq_some.mp hzz
          have ls6 := Lsts.frw fr6 hrs ls2
          obtain ⟨row, erow, er⟩ := Lsts.get ls6 hr
          rw [List.getElem?_map, hs] at erow
          cases erow
          refine ⟨_, by simp [gTL, gsCons, gN, gsNil]; rfl, ?_⟩
          refine image_eq ht nd I (I.sub p hp) hs er ew6 ea6 hne _ _ _ (fun h' W'' A'' r9 I' ew' ea' f' => ?_)
          exact ⟨W'', A'', _, _, _, I', ew', ea', ⟨by have := f'.len; have := fr6.len; omega, fun k hk h1 h2 => by
            have := fr6.len
            rw [f'.at_ k (by omega) h1 h2]
            exact fr6.at_ k hk h1 h2⟩, rfl⟩
      · rintro env h6 ⟨W', A', r7, r8, r9, I, ew6, ea6, fr6, rfl⟩
        have hlen : (((stepsF t).zip rs).map fun p => IV.tup [stI p.1, .ref p.2]).length = (stepsF t).length := by simp [lrs]
        rw [hlen] at I
        have l81' := I.ok.len m0 m1
        have ilen := I.len
        have ile := I.le
        refine ⟨⟨W', A', _, _, _, _, I.ok, fun q hq => ?_, ew6, ea6, fr6, rfl⟩, ?_⟩
        · rcases I.old q hq with z | z | z
          · exact .inl z
          · subst z; exact .inr I.dn
          · exact .inr z
        · rw [muW_eq ew6 ea6, mu0]
          simp only [List.length_cons]
          omega
  rintro e h3 ⟨g3, q⟩
  simp
  exact ⟨g3, .inl ⟨rfl, q⟩⟩

theorem home_eq {t : Tb} {nums : List Int} (A : Alk t nums) (m1 : t.many ≤ 9) {g : Int} (g0 : 0 ≤ g) (g1 : g < t.many) (h : IH) : WE (f__law_home [partsI t nums, .int g] h) fun v h' => v = .int (nums.getD g.toNat 0) ∧ Gr h h' := by
  have np1 := A.np1
  have lt := A.lt g g0 g1
  unfold f__law_home b__law_home
  rw [WE_runF]
  simp [partsI, seqIt_tup]
  refine comp_mapG (xs := rngI (npF nums)) (fun k => .tup ((ptF t nums k).map IV.int)) (fun k => .bl (decide (nums.getD g.toNat 0 = k))) (by rw [rngI_len]; omega) (fun i h' _ => by first | rfl | rw [List.getElem?_map]) (fun k h' hk gr lt => ⟨_, rfl, ?_⟩) ?_
  · simp [wipeE]
    rw [inO_ints, WO_some]
    refine ⟨?_, Gr.refl _⟩
    congr 1
    refine decide_eq_decide.mpr ?_
    rw [pt_mem]
    simp only [List.getD_eq_getElem?_getD]
    exact ⟨fun q => q.2, fun q => ⟨⟨g0, g1⟩, q⟩⟩
  · intro h' gr e
    have := home_idx lt.1 lt.2 e
    simp [tyI_ref e]
    simp only [List.getD_eq_getElem?_getD] at this
    rw [this, WO_some]
    exact ⟨rfl, gr⟩
def sp : Str := "p"
def sq : Str := "q"
theorem sp_ne : sp ≠ sq := by decide +kernel
theorem pq_nd : ([sp, sq] : List Str).Nodup := by simp [sp_ne]
theorem disp_pq {x y : IV} {env : Env} {i j : Nat} {h : IH} {Q : IV → IH → Prop} (ei : env[i]? = some (some x)) (ej : env[j]? = some (some y)) {a b : Int} (ex : x = .int a) (ey : y = .int b) (q : Q (.ref h.length) (h ++ [.dK (zipD [sp, sq] [a, b])])) :
    WE (eDisp (pCons (eC (.str "p")) (eVar i) (pCons (eC (.str "q")) (eVar j) (pNil))) env h) Q := by
  subst ex ey
  refine WE_eDisp ?_
  simp only [WE_pCons, WE_pNil, WE_eC, eVar_at, ei, ej]
  refine ⟨[(.inr sp, .int a), (.inr sq, .int b)], rfl, by simp, by simp, ?_⟩
  rw [mergeI_nd _ [] (by simp; exact fun e => sp_ne (by cases e))]
  rw [List.set_append_right _ _ (Nat.le_refl _), Nat.sub_self]
  exact q
theorem len_set {h : IH} : h.length = h.length := rfl
theorem pair_right_eq {t : Tb} (ht : TbOk 9 t) (nd : (t.conns.map (·.1)).Nodup) (hn : t.conns.length ≤ 16) {k : Nat} (hfix : itF t (itK t k) = itK t k) {ls : List Ln} (lo : LsOk t [sp, sq] ls) (hls : ls.length ≤ 1000) {x y : Int} (x0 : 0 ≤ x) (x1 : x < t.many) (y0 : 0 ≤ y) (y1 : y < t.many) (nl : Nat) (h : IH) (el : h[nl]? = some (.lst (ls.map lnI))) :
    WE (f__law_pair_right [tbI t, partsI t (itK t k), .ref nl, .int x, .int y] h) fun v h' => v = .bl true ∧ Gr h h' := by
  have m0 := ht.m0
  have m1 := ht.m1
  have A := alk_of m0 hfix
  have H := hom_shrunk ht nd A
  generalize hnums : itK t k = nums at *
  unfold f__law_pair_right b__law_pair_right
  rw [WE_runF]
  refine WS.seq (M := fun e h1 => Gr h h1 ∧ e = [some (tbI t), some (partsI t nums), some (.ref nl), some (.int x), some (.int y), some (.bl (decide (nums.getD x.toNat 0 = nums.getD y.toNat 0))), none, none, none, none, none, none]) ?_ ?_
  · simp [-List.getD_eq_getElem?_getD]
    refine (home_eq A m1 x0 x1 h).mono fun v h1 ⟨ev, g1⟩ => ?_
    subst ev
    refine (home_eq A m1 y0 y1 h1).mono fun v h2 ⟨ev, g2⟩ => ?_
    subst ev
    simp [-List.getD_eq_getElem?_getD]
    exact g1.trans g2
  rintro _ h1 ⟨g1, rfl⟩
  refine WS.seq (M := fun e h2 => Gr h h2 ∧ ∃ v : IV, (∀ hh : IH, isNO id v .non hh = some (.bl (decide (nums.getD x.toNat 0 = nums.getD y.toNat 0)), hh)) ∧ e = [some (tbI t), some (partsI t nums), some (.ref nl), some (.int x), some (.int y), some (.bl (decide (nums.getD x.toNat 0 = nums.getD y.toNat 0))), some v, none, none, none, none, none]) ?_ ?_
  · simp [-List.getD_eq_getElem?_getD]
    refine (parting_eq ht nd hn x0 x1 y0 y1 h1).mono fun v h2 ⟨g2, pr⟩ => ?_
    refine ⟨g1.trans g2, fun hh => ?_⟩
    rcases pr with ⟨ev, e⟩ | ⟨ss, ev, hs, hl, hw⟩
    · have e := e k
      rw [hnums] at e
      unfold numAt at e
      subst ev
      rw [decide_eq_true e]
      rfl
    · have : ¬ nums.getD x.toNat 0 = nums.getD y.toNat 0 := fun e => by
        have wx := walk_ok ht nd hs x0 x1
        have wy := walk_ok ht nd hs y0 y1
        exact hw (A.wish _ _ wx.1 wx.2 wy.1 wy.2 (walk_stab ht nd A hs x0 x1 y0 y1 e))
      subst ev
      rw [decide_eq_false this]
      rfl
  rintro _ h2 ⟨g2, v, hv, rfl⟩
  generalize hS : decide (nums.getD x.toNat 0 = nums.getD y.toNat 0) = S at *
  refine WS.seq (M := fun e h3 => Gr h h3 ∧ ∃ r7 r8 r9 r10 r11 : Option IV, e = [some (tbI t), some (partsI t nums), some (.ref nl), some (.int x), some (.int y), some (.bl S), some v, r7, r8, r9, r10, r11]) ?_ ?_
  · simp [tb_0]
    refine ⟨by omega, ?_⟩
    refine WS_for t.many.toNat (fun i e h3 => Gr h h3 ∧ ∃ r7 r8 r9 r10 r11 : Option IV, e = [some (tbI t), some (partsI t nums), some (.ref nl), some (.int x), some (.int y), some (.bl S), some v, r7, r8, r9, r10, r11]) ?_ ?_ FU 0 _ _ (Nat.zero_le _) ⟨g2, _, _, _, _, _, rfl⟩ (FU_lt64 (by omega))
    · rintro i env h3 hi ⟨g3, r7, r8, r9, r10, r11, rfl⟩
      refine ⟨.int (0 + (i : Int)), by unfold rngIt; simp [hi], _, rfl, ?_⟩
      have b0 : (0 : Int) ≤ i := by omega
      have b1 : (i : Int) < t.many := by omega
      have rx : ∀ {z : Int}, 0 ≤ z → z < t.many → RowOk t.many ([sp, sq] : List Str).length [z, (i : Int)] := fun z0 z1 => ⟨rfl, fun g hg => by
        simp at hg
        rcases hg with e | e <;> subst e
        · exact ⟨z0, z1⟩
        · exact ⟨b0, b1⟩⟩
      unfold bd__law_pair_right_1
      refine WS.seq (M := fun e h4 => Gr h h4 ∧ ∃ n8, h4[n8]? = some (.lst ((gradesF t [sp, sq] [x, (i : Int)] ls).map IV.int)) ∧ e = [some (tbI t), some (partsI t nums), some (.ref nl), some (.int x), some (.int y), some (.bl S), some v, some (.int i), some (.ref n8), r9, r10, r11]) ?_ ?_
      · simp
        refine disp_pq (a := x) (b := i) rfl rfl rfl rfl ?_
        have ga := Gr.app h3 [.dK (zipD [sp, sq] [x, (i : Int)])]
        refine (grades_eq ht nd lo hls (fun _ _ => trivial) (rx x0 x1) nl h3.length _ ((g3.trans ga).get el) (by simp)).mono fun v h4 ⟨n, ev, _, e4, g4⟩ => ?_
        subst ev
        exact ⟨(g3.trans ga).trans g4, n, e4, rfl⟩
      rintro _ h4 ⟨g4, n8, e8, rfl⟩
      refine WS.seq (M := fun e h5 => Gr h4 h5 ∧ ∃ n9, h5[n9]? = some (.lst ((gradesF t [sp, sq] [y, (i : Int)] ls).map IV.int)) ∧ e = [some (tbI t), some (partsI t nums), some (.ref nl), some (.int x), some (.int y), some (.bl S), some v, some (.int i), some (.ref n8), some (.ref n9), r10, r11]) ?_ ?_
      · simp
        refine disp_pq (a := y) (b := i) rfl rfl rfl rfl ?_
        have ga := Gr.app h4 [.dK (zipD [sp, sq] [y, (i : Int)])]
        refine (grades_eq ht nd lo hls (fun _ _ => trivial) (rx y0 y1) nl h4.length _ ((g4.trans ga).get el) (by simp)).mono fun v h5 ⟨n, ev, _, e5, g5⟩ => ?_
        subst ev
        exact ⟨ga.trans g5, n, e5, rfl⟩
      rintro _ h5 ⟨g5, n9, e9, rfl⟩
      have e8' := g5.get e8
      have g5h := g4.trans g5
      have ll : lenO [.ref nl] h5 = some (.int ls.length, h5) := by simp only [lenO, seqOf, lstOf, g5h.get el, List.length_map]
      -- alike grades give alike grades
      have gX := gradesF_ok ht nd lo (rx x0 x1) ls.length
      have gY := gradesF_ok ht nd lo (rx y0 y1) ls.length
      have lX := gradesF_len t [sp, sq] [x, (i : Int)] ls ls.length
      have lY := gradesF_len t [sp, sq] [y, (i : Int)] ls ls.length
      rw [List.take_length] at gX gY lX lY
      have same : S = true → (gradesF t [sp, sq] [x, (i : Int)] ls).map (fun g => nums.getD g.toNat 0) = (gradesF t [sp, sq] [y, (i : Int)] ls).map (fun g => nums.getD g.toNat 0) := fun e => by
        rw [← hS, decide_eq_true_eq] at e
        rw [← H.grades ht nd lo (rx x0 x1), ← H.grades ht nd lo (rx y0 y1)]
        simp only [List.map_cons, List.map_nil]
        rw [e]
      generalize gradesF t [sp, sq] [x, (i : Int)] ls = gx at *
      generalize gradesF t [sp, sq] [y, (i : Int)] ls = gy at *
      simp [ll]
      refine ⟨by omega, ?_⟩
      refine WS_for ls.length (fun j e h6 => Gr h5 h6 ∧ ∃ r10 r11 : Option IV, e = [some (tbI t), some (partsI t nums), some (.ref nl), some (.int x), some (.int y), some (.bl S), some v, some (.int i), some (.ref n8), some (.ref n9), r10, r11]) ?_ ?_ FU 0 _ _ (Nat.zero_le _) ⟨Gr.refl _, _, _, rfl⟩ (FU_lt64 (by omega))
      · rintro j env h6 hj ⟨g6, r10, r11, rfl⟩
        refine ⟨.int (0 + (j : Int)), by unfold rngIt; simp [hj], _, rfl, ?_⟩
        have i8 := ixG (k := (j : Int)) (g6.get e8') (by omega) (by omega)
        have i9 := ixG (k := (j : Int)) (g6.get e9) (by omega) (by omega)
        have i9g : ∀ {hh : IH}, Gr h6 hh → ixQ (.ref n9) (.int (j : Int)) hh = some (.int (gy.getD (j : Int).toNat 0), hh) := fun g => ixG (k := (j : Int)) (g.get (g6.get e9)) (by omega) (by omega)
        have mx := gX (gx.getD (j : Int).toNat 0) (by rw [List.getD_eq_getElem?_getD, List.getElem?_eq_getElem (by omega)]; exact List.getElem_mem _)
        have my := gY (gy.getD (j : Int).toNat 0) (by rw [List.getD_eq_getElem?_getD, List.getElem?_eq_getElem (by omega)]; exact List.getElem_mem _)
        have smj : S = true → nums.getD (gx.getD (j : Int).toNat 0).toNat 0 = nums.getD (gy.getD (j : Int).toNat 0).toNat 0 := fun e => by
          have := congrArg (fun l => l.getD (j : Int).toNat 0) (same e)
          simp only [Int.toNat_natCast] at this ⊢
          rw [getD_map (by omega), getD_map (by omega)] at this
          exact this
        generalize gx.getD (j : Int).toNat 0 = a at *
        generalize gy.getD (j : Int).toNat 0 = b at *
        unfold bd__law_pair_right_0
        refine WS.seq (M := fun e h7 => h6 = h7 ∧ e = [some (tbI t), some (partsI t nums), some (.ref nl), some (.int x), some (.int y), some (.bl S), some v, some (.int i), some (.ref n8), some (.ref n9), some (.int j), some (.bl (decide (a ∈ t.wished) != decide (b ∈ t.wished)))]) ?_ ?_
        · simp [i8, i9, tb_1, inO_ints]
          by_cases c1 : a ∈ t.wished <;> by_cases c2 : b ∈ t.wished <;> simp [c1, c2]
        rintro _ _ ⟨rfl, rfl⟩
        have wsame : S = true → (decide (a ∈ t.wished) != decide (b ∈ t.wished)) = false := fun e => by
          have := A.wish a b mx.1 mx.2 my.1 my.2 (smj e)
          by_cases c1 : a ∈ t.wished <;> by_cases c2 : b ∈ t.wished <;> simp [c1, c2] at this ⊢
        refine WS.seq (M := fun e h7 => h6 = h7 ∧ e = [some (tbI t), some (partsI t nums), some (.ref nl), some (.int x), some (.int y), some (.bl S), some v, some (.int i), some (.ref n8), some (.ref n9), some (.int j), some (.bl (decide (a ∈ t.wished) != decide (b ∈ t.wished)))]) ?_ ?_
        · cases S with
          | true =>
            rw [wsame rfl]
            simp [truO]
          | false =>
            cases hb : (decide (a ∈ t.wished) != decide (b ∈ t.wished)) <;> simp [truO, hv]
        rintro _ _ ⟨rfl, rfl⟩
        cases S with
        | false =>
          simp [truO]
          exact g6
        | true =>
          simp [truO, i8, i9]
          refine (home_eq A m1 mx.1 mx.2 h6).mono fun v h7 ⟨ev, g7⟩ => ?_
          subst ev
          rw [i9g g7, WO_some]
          refine (home_eq A m1 my.1 my.2 h7).mono fun v h8 ⟨ev, g8⟩ => ?_
          subst ev
          rw [smj rfl]
          simp
          exact (g6.trans g7).trans g8
      · rintro env h6 ⟨g6, r10, r11, rfl⟩
        refine ⟨by unfold rngIt; simp, ?_⟩
        exact ⟨g5h.trans g6, _, _, _, _, _, rfl⟩
    · rintro env h3 ⟨g3, r7, r8, r9, r10, r11, rfl⟩
      refine ⟨by unfold rngIt; simp, ?_⟩
      exact ⟨g3, r7, r8, r9, r10, r11, rfl⟩
  rintro _ h3 ⟨g3, r7, r8, r9, r10, r11, rfl⟩
  simp [hv]
  exact g3
theorem right_eq (w : Nat) (h : IH) (p : Well h w) : WE (f__law_right [.ref w] h) fun v h' => v = .bl true ∧ Dr w h h' := by
  unfold f__law_right b__law_right
  rw [WE_runF]
  refine WS.seq (M := fun e h2 => ∃ t : Tb, TbOk 9 t ∧ TbNd t ∧ Well h2 w ∧ Dr w h h2 ∧ e = [some (.ref w), some (tbI t), none, none, none]) ?_ ?_
  · simp
    refine (drawn_eq w 6 4 (by omega) (by omega) (by omega) (by omega) h p).mono fun v h3 ⟨t, e, ok, lc, p3, d3⟩ => ?_
    subst e
    exact ⟨t, ok, lc, p3, d3, rfl⟩
  rintro _ h2 ⟨t, ok, lc, p2, d2, rfl⟩
  have m0 := ok.m0
  have m1 := ok.m1
  refine WS.seq (M := fun e h3 => ∃ (n : Nat) (ls : List Ln), n ≠ w ∧ Lns t [sp, sq] 103 ls ∧ h3[n]? = some (.lst (ls.map lnI)) ∧ Well h3 w ∧ Dr w h h3 ∧ e = [some (.ref w), some (tbI t), some (.ref n), none, none]) ?_ ?_
  · simp
    have hw := p2.lt
    have ga := Dr.app w h2 [IO.lst [.str "p", .str "q"]]
    refine (draw_eq w 9 _ (p2.app _) (by omega) (by omega)).mono fun v h3 ⟨r, ev, q0, q1, p3, d3⟩ => ?_
    subst ev
    simp
    refine (lines_eq w ok (L := [sp, sq]) (by simp) (by simp) (fun x hx => ?_) h2.length (2 + r) h3 p3 (by omega) (d3.get (by simp [sp, sq]) (by omega)) (by omega) (by omega)).mono fun v h4 ⟨n, ls, ev, hn, en, lk, p4, d4⟩ => ?_
    · simp at hx
      rcases hx with e | e <;> subst e <;> exact ⟨by decide +kernel, by decide +kernel⟩
    subst ev
    have := p3.lt
    exact ⟨n, by omega, ls, lk, en, p4, (d2.trans ga).trans (d3.trans d4), rfl⟩
  clear p2 d2
  rintro _ h3 ⟨n, ls, hn, lk, en, p3, d3, rfl⟩
  have hl := lk.len
  refine WS.seq (M := fun e h4 => ∃ k : Nat, itF t (itK t k) = itK t k ∧ Gr h3 h4 ∧ e = [some (.ref w), some (tbI t), some (.ref n), some (partsI t (itK t k)), none]) ?_ ?_
  · simp
    refine (alike_eq ok lc.2 lc.1 h3).mono fun v h4 ⟨k, hk, ev, g4⟩ => ?_
    subst ev
    exact ⟨k, hk, g4, rfl⟩
  rintro _ h4 ⟨k, hfix, g4, rfl⟩
  refine WS.seq (M := fun e h5 => Dr w h h5 ∧ ∃ r4, e = [some (.ref w), some (tbI t), some (.ref n), some (partsI t (itK t k)), r4]) ?_ ?_
  · simp
    refine WS_for 4 (fun i e h5 => h5[n]? = some (.lst (ls.map lnI)) ∧ Well h5 w ∧ Dr w h h5 ∧ ∃ r4, e = [some (.ref w), some (tbI t), some (.ref n), some (partsI t (itK t k)), r4]) ?_ ?_ FU 0 _ _ (Nat.zero_le _) ⟨g4.get en, g4.well p3, d3.trans (g4.dr w), none, rfl⟩ (FU_lt64 (by omega))
    · rintro i env h5 hi ⟨e5, p5, d5, r4, rfl⟩
      refine ⟨.int (0 + (i : Int)), by unfold rngIt; simp [hi], _, rfl, ?_⟩
      unfold bd__law_right_0
      simp [tb_0]
      refine (draw_eq w t.many h5 p5 (by omega) (by omega)).mono fun v h6 ⟨x, ev, x0, x1, p6, d6⟩ => ?_
      subst ev
      refine (draw_eq w t.many h6 p6 (by omega) (by omega)).mono fun v h7 ⟨y, ev, y0, y1, p7, d7⟩ => ?_
      subst ev
      have e7 := (d6.trans d7).get e5 hn
      refine (pair_right_eq ok lc.2 lc.1 hfix lk.ok (by omega) x0 x1 y0 y1 n h7 e7).mono fun v h8 ⟨ev, g8⟩ => ?_
      subst ev
      simp [truO]
      exact ⟨g8.get e7, g8.well p7, ((d5.trans d6).trans d7).trans (g8.dr w)⟩
    · rintro env h5 ⟨e5, p5, d5, r4, rfl⟩
      refine ⟨by unfold rngIt; simp, ?_⟩
      exact ⟨d5, r4, rfl⟩
  rintro _ h5 ⟨d5, r4, rfl⟩
  simp
  exact d5
theorem pure_law : ∀ ns : List Int, ns.length ≤ 63 → (∀ z ∈ ns, Builtin.Int.intBits z ≤ 1048576) → ∃ h, f_law [.scr ns] [] = some (.ok (.bl true), h) := by
  intro ns hl hb
  suffices w : WE (f_law [.scr ns] []) (fun v _ => v = .bl true) by
    obtain ⟨v, h', e, rfl⟩ := w.out
    exact ⟨h', e⟩
  have hbt : ∀ z ∈ ns, Bt 1048577 z := fun z hz => bt_bits (hb z hz)
  unfold f_law b_law
  have hlen : ∀ h : IH, lenO [.scr ns] h = some (.int ns.length, h) := fun h => by simp only [lenO, seqOf, List.length_map]
  have em : ∃ n : Nat, (if 1 < (if 5 < (ns.length : Int) then (5 : Int) else ns.length) then (if 5 < (ns.length : Int) then (5 : Int) else ns.length) else 1) = n ∧ n ≤ 6 := by
    by_cases c6 : 5 < (ns.length : Int)
    · exact ⟨5, by simp only [if_pos c6]; decide, by omega⟩
    · by_cases c1 : 1 < (ns.length : Int)
      · exact ⟨ns.length, by simp only [if_neg c6, if_pos c1], by omega⟩
      · exact ⟨1, by simp only [if_neg c6, if_neg c1]; rfl, by omega⟩
  obtain ⟨n, en, hn⟩ := em
  simp [hlen, en]
  refine ⟨by omega, ?_⟩
  refine WE_comp n (fun i h' => ∃ k : Nat, k ≤ i ∧ h'[0]? = some (.lst (List.replicate k (.bl true)))) ?_ ?_ FU 0 _ (Nat.zero_le _) ⟨0, by simp, by simp⟩ (FU_lt64 (by omega))
  · rintro i h' hi ⟨k, lb, e⟩
    refine ⟨.int (0 + (i : Int)), by unfold rngIt; simp [hi], _, rfl, ?_⟩
    have h0 := (List.getElem?_eq_some_iff.mp e).1
    simp [wipeE]
    refine (well_eq ns i h' hl hbt (by omega) (by omega)).mono fun v h1 ⟨w, ev, hw, pw, g1⟩ => ?_
    subst ev
    refine (right_eq w h1 pw).mono fun v h2 ⟨ev, d2⟩ => ?_
    subst ev
    have e2 := d2.get (g1.get e) (by omega)
    refine ⟨List.replicate k (.bl true), e2, by simp; omega, k + 1, by omega, ?_⟩
    rw [List.getElem?_set_self (List.getElem?_eq_some_iff.mp e2).1, List.replicate_succ']
  · rintro h' ⟨k, lb, e⟩
    refine ⟨by unfold rngIt; simp, ?_⟩
    rw [allO_at (bs := List.replicate k true) (by rw [List.map_replicate]; exact e), WO_some]
    have : (List.replicate k true).all id = true := List.all_eq_true.mpr fun b hb => (List.mem_replicate.mp hb).2
    rw [this]

structure Tx (K : PySem.W.Frag) (mg : Str → Option Value) : Prop where
  m_abs : mg "abs" = none
  m_all : mg "all" = none
  m_dict : mg "dict" = none
  m_divmod : mg "divmod" = none
  m_int : mg "int" = none
  m_isinstance : mg "isinstance" = none
  m_len : mg "len" = none
  m_list : mg "list" = none
  m_max : mg "max" = none
  m_min : mg "min" = none
  m_range : mg "range" = none
  m_str : mg "str" = none
  m_tuple : mg "tuple" = none
  g__law_draw : mg "_law_draw" = some (.ref (He.ga K "_law_draw"))
  d__law_draw : FnT K "_law_draw" s__law_draw
  g__law_names : mg "_law_names" = some (.ref (He.ga K "_law_names"))
  d__law_names : FnT K "_law_names" s__law_names
  g__law_cells : mg "_law_cells" = some (.ref (He.ga K "_law_cells"))
  d__law_cells : FnT K "_law_cells" s__law_cells
  g__law_table : mg "_law_table" = some (.ref (He.ga K "_law_table"))
  d__law_table : FnT K "_law_table" s__law_table
  g__law_even : mg "_law_even" = some (.ref (He.ga K "_law_even"))
  d__law_even : FnT K "_law_even" s__law_even
  g__law_drawn : mg "_law_drawn" = some (.ref (He.ga K "_law_drawn"))
  d__law_drawn : FnT K "_law_drawn" s__law_drawn
  g__law_lines : mg "_law_lines" = some (.ref (He.ga K "_law_lines"))
  d__law_lines : FnT K "_law_lines" s__law_lines
  g_numbered : mg "numbered" = some (.ref (He.ga K "numbered"))
  d_numbered : FnT K "numbered" s_numbered
  g_all_steps : mg "all_steps" = some (.ref (He.ga K "all_steps"))
  d_all_steps : FnT K "all_steps" s_all_steps
  g_cell_at : mg "cell_at" = some (.ref (He.ga K "cell_at"))
  d_cell_at : FnT K "cell_at" s_cell_at
  g_cells_of : mg "cells_of" = some (.ref (He.ga K "cells_of"))
  d_cells_of : FnT K "cells_of" s_cells_of
  g_led_on : mg "led_on" = some (.ref (He.ga K "led_on"))
  d_led_on : FnT K "led_on" s_led_on
  g_images_of : mg "images_of" = some (.ref (He.ga K "images_of"))
  d_images_of : FnT K "images_of" s_images_of
  g_alike : mg "alike" = some (.ref (He.ga K "alike"))
  d_alike : FnT K "alike" s_alike
  g_parting : mg "parting" = some (.ref (He.ga K "parting"))
  d_parting : FnT K "parting" s_parting
  g__law_home : mg "_law_home" = some (.ref (He.ga K "_law_home"))
  d__law_home : FnT K "_law_home" s__law_home
  g__law_cell : mg "_law_cell" = some (.ref (He.ga K "_law_cell"))
  d__law_cell : FnT K "_law_cell" s__law_cell
  g__law_grades : mg "_law_grades" = some (.ref (He.ga K "_law_grades"))
  d__law_grades : FnT K "_law_grades" s__law_grades
  g__law_pair_right : mg "_law_pair_right" = some (.ref (He.ga K "_law_pair_right"))
  d__law_pair_right : FnT K "_law_pair_right" s__law_pair_right
  g__law_right : mg "_law_right" = some (.ref (He.ga K "_law_right"))
  d__law_right : FnT K "_law_right" s__law_right
  g__law_well : mg "_law_well" = some (.ref (He.ga K "_law_well"))
  d__law_well : FnT K "_law_well" s__law_well
  g_law : mg "law" = some (.ref (He.ga K "law"))
  d_law : FnT K "law" s_law
section
variable {P : Program} {w : World} {K : PySem.W.Frag} {mg : Str → Option Value} {base : Heap}
theorem sc__law_draw : FnScope ["_law_well_here", "_law_many", "_law_found", "_law_turn", "_law_upper", "_law_lower"] ["_law_well_here", "_law_many"] (defScope s__law_draw) := ⟨rfl, rfl, rfl, by decide +kernel, rfl, by decide +kernel, by decide +kernel⟩
theorem ok__law_draw (T : Tx K mg) : Df P w K mg base "_law_draw" 1 ["_law_well_here", "_law_many"] f__law_draw := df_mk T.g__law_draw T.d__law_draw sc__law_draw (fun _ _ _ _ _ _ us hl => match us, hl with | [_, _], _ => rfl) (fun f cdv A outer s H E hr tk hp => ⟨_, by
  exact (sb_cons (ss_if (st_cmp (so_eqK K hr) (se_ixK K (se_var (pv 0)) (se_int) (fun _ _ => rfl)) (se_int) (nomark _)) (sb_cons (ss_asg (i := 2) sc__law_draw.nd rfl (by first | exact .inl rfl | exact .inr rfl) (se_op so_modI (se_ixK K (se_var (pv 0)) (se_int) (fun _ _ => rfl)) (se_var (pv 1))))
  (sb_cons (ss_subL (se_var (pv 0)) (se_int) (se_op so_divI (se_ixK K (se_var (pv 0)) (se_int) (fun _ _ => rfl)) (se_var (pv 1))) (fun a b c => ps_asg a (pg_sub b c set_list)))
  (sb_one (ss_ret (se_var (pv 2)))))) (sb_nil))
  (sb_cons (ss_for hp (by rfl) (si_r1 (by rfl) T.m_range (sa_cons (se_int) (sa_nil))) (sg_name (i := 3) sc__law_draw.nd rfl (by first | exact .inl rfl | exact .inr rfl)) (sb_cons (ss_asgG (se_callB sc_dm (by rfl) T.m_divmod (by decide +kernel) (sa_cons (se_ixK K (se_var (pv 0)) (se_int) (fun _ _ => rfl)) (sa_cons (se_int) (sa_nil)))) (sg_tupLK K (by rfl) (sgs_cons (sg_name (i := 4) sc__law_draw.nd rfl (by first | exact .inl rfl | exact .inr rfl)) (sgs_cons (sg_name (i := 5) sc__law_draw.nd rfl (by first | exact .inl rfl | exact .inr rfl)) (sgs_nil))) (pg_tup (by rfl) (sgs_cons (sg_name (i := 4) sc__law_draw.nd rfl (by first | exact .inl rfl | exact .inr rfl)) (sgs_cons (sg_name (i := 5) sc__law_draw.nd rfl (by first | exact .inl rfl | exact .inr rfl)) (sgs_nil))).pe) (pg_lst (by rfl) (sgs_cons (sg_name (i := 4) sc__law_draw.nd rfl (by first | exact .inl rfl | exact .inr rfl)) (sgs_cons (sg_name (i := 5) sc__law_draw.nd rfl (by first | exact .inl rfl | exact .inr rfl)) (sgs_nil))).pe)) (fun a b => ps_asg a b))
  (sb_one (ss_subL (se_var (pv 0)) (se_int) (se_op so_modI (se_op (so_addK K) (se_op (so_addK K) (se_op so_mul (se_var (pv 5)) (se_int)) (se_op so_mul (se_var (pv 4)) (se_int))) (se_int)) (se_int)) (fun a b c => ps_asg a (pg_sub b c set_list))))))
  (sb_one (ss_ret (se_op so_modI (se_op so_divI (se_ixK K (se_var (pv 0)) (se_int) (fun _ _ => rfl)) (se_int)) (se_var (pv 1)))))))⟩)
theorem sc__law_names : FnScope ["_law_well_here", "_law_many", "_law_signs", "_law_first", "_law_pick", "_law_some", "_law_size", "_law_at", "_law_k"] ["_law_well_here", "_law_many"] (defScope s__law_names) := ⟨rfl, rfl, rfl, by decide +kernel, rfl, by decide +kernel, by decide +kernel⟩
theorem ok__law_names (T : Tx K mg) : Df P w K mg base "_law_names" 2 ["_law_well_here", "_law_many"] f__law_names := df_mk T.g__law_names T.d__law_names sc__law_names (fun _ _ _ _ _ _ us hl => match us, hl with | [_, _], _ => rfl) (fun f cdv A outer s H E hr tk hp => ⟨_, by
  exact (sb_cons (ss_asg (i := 2) sc__law_names.nd rfl (by first | exact .inl rfl | exact .inr rfl) (se_str))
  (sb_cons (ss_asg (i := 3) sc__law_names.nd rfl (by first | exact .inl rfl | exact .inr rfl) (se_callDK (ok__law_draw T) hr tk (sa_cons (se_var (pv 0)) (sa_cons (se_int) (sa_nil))) (aCons_len (aCons_len aNil_len))))
  (sb_cons (ss_asg (i := 4) sc__law_names.nd rfl (by first | exact .inl rfl | exact .inr rfl) (se_callDK (ok__law_draw T) hr tk (sa_cons (se_var (pv 0)) (sa_cons (se_int) (sa_nil))) (aCons_len (aCons_len aNil_len))))
  (sb_cons (ss_if (st_cmp (so_eqK K hr) (se_var (pv 4)) (se_int) (nomark _)) (sb_cons (ss_asg (i := 5) sc__law_names.nd rfl (by first | exact .inl rfl | exact .inr rfl) (se_lst (sa_cons (se_str) (sa_cons (se_str) (sa_cons (se_str) (sa_cons (se_str) (sa_cons (se_str) (sa_cons (se_str) (sa_cons (se_str) (sa_cons (se_str) (sa_nil)))))))))))
  (sb_one (ss_ret (se_sliceK K (se_op (so_addK K) (se_sliceK K (se_var (pv 5)) (so_some (se_op so_modI (se_var (pv 3)) (se_int))) (so_none)) (se_sliceK K (se_var (pv 5)) (so_none) (so_some (se_op so_modI (se_var (pv 3)) (se_int))))) (so_none) (so_some (se_var (pv 1))))))) (sb_nil))
  (sb_cons (ss_if (st_cmp (so_eqK K hr) (se_var (pv 4)) (se_int) (nomark _)) (sb_one (ss_ret (se_op (so_addK K) (se_sliceK K (se_lc (own := [("_law_k", 8)]) (by rfl) sc__law_names.nd (si_r1 (by rfl) T.m_range (sa_cons (se_int) (sa_nil))) (blkOk_by (own := [("_law_k", 8)]) (N := ["_law_well_here", "_law_many", "_law_signs", "_law_first", "_law_pick", "_law_some", "_law_size", "_law_at", "_law_k"]) (sc := (defScope s__law_names)) (by decide +kernel)) (fun _ _ _ _ _ => sg_name (i := 8) sc__law_names.nd rfl (by first | exact .inl rfl | exact .inr rfl)) (gin_name (by decide)) mono_name (fun _ _ _ _ _ => sts_nil) (fun _ _ _ _ _ => se_op so_mul (se_ixK K (se_var (pv 2)) (se_var (pv 3)) (fun _ _ => rfl)) (se_op (so_addK K) (se_var (pv 8)) (se_int)))) (so_none) (so_some (se_var (pv 1)))) (se_op so_mul (se_lst (sa_cons (se_op so_mul (se_ixK K (se_var (pv 2)) (se_op so_subI (se_var (pv 3)) (se_int)) (fun _ _ => rfl)) (se_int)) (sa_nil))) (se_callTy sc_intO (by rfl) T.m_int (by decide +kernel) (sa_cons (se_cmp (so_eqK K hr) (se_var (pv 1)) (se_int) (nomark _)) (sa_nil))))))) (sb_nil))
  (sb_cons (ss_asg (i := 6) sc__law_names.nd rfl (by first | exact .inl rfl | exact .inr rfl) (se_op (so_addK K) (se_int) (se_callDK (ok__law_draw T) hr tk (sa_cons (se_var (pv 0)) (sa_cons (se_int) (sa_nil))) (aCons_len (aCons_len aNil_len)))))
  (sb_cons (ss_asg (i := 7) sc__law_names.nd rfl (by first | exact .inl rfl | exact .inr rfl) (se_callDK (ok__law_draw T) hr tk (sa_cons (se_var (pv 0)) (sa_cons (se_op (so_addK K) (se_var (pv 6)) (se_int)) (sa_nil))) (aCons_len (aCons_len aNil_len))))
  (sb_one (ss_ret (se_lc (own := [("_law_k", 8)]) (by rfl) sc__law_names.nd (si_r1 (by rfl) T.m_range (sa_cons (se_var (pv 1)) (sa_nil))) (blkOk_by (own := [("_law_k", 8)]) (N := ["_law_well_here", "_law_many", "_law_signs", "_law_first", "_law_pick", "_law_some", "_law_size", "_law_at", "_law_k"]) (sc := (defScope s__law_names)) (by decide +kernel)) (fun _ _ _ _ _ => sg_name (i := 8) sc__law_names.nd rfl (by first | exact .inl rfl | exact .inr rfl)) (gin_name (by decide)) mono_name (fun _ _ _ _ _ => sts_nil) (fun _ _ _ _ _ => se_op (so_addK K) (se_op (so_addK K) (se_op so_mul (se_str) (se_var (pv 7))) (se_ixK K (se_var (pv 2)) (se_op so_modI (se_op (so_addK K) (se_var (pv 3)) (se_var (pv 8))) (se_int)) (fun _ _ => rfl))) (se_op so_mul (se_str) (se_op so_subI (se_var (pv 6)) (se_var (pv 7)))))))))))))))⟩)
theorem sc__law_cells : FnScope ["_law_well_here", "_law_many", "_law_places", "_law_size", "_law_kept", "_law_found", "_law_k", "_law_mark"] ["_law_well_here", "_law_many", "_law_places"] (defScope s__law_cells) := ⟨rfl, rfl, rfl, by decide +kernel, rfl, by decide +kernel, by decide +kernel⟩
theorem ok__law_cells (T : Tx K mg) : Df P w K mg base "_law_cells" 2 ["_law_well_here", "_law_many", "_law_places"] f__law_cells := df_mk T.g__law_cells T.d__law_cells sc__law_cells (fun _ _ _ _ _ _ us hl => match us, hl with | [_, _, _], _ => rfl) (fun f cdv A outer s H E hr tk hp => ⟨_, by
  exact (sb_cons (ss_asg (i := 3) sc__law_cells.nd rfl (by first | exact .inl rfl | exact .inr rfl) (se_ixK K (se_lst (sa_cons (se_int) (sa_cons (se_var (pv 1)) (sa_cons (se_op so_mul (se_var (pv 1)) (se_var (pv 1))) (sa_nil))))) (se_var (pv 2)) (fun _ _ => rfl)))
  (sb_cons (by first | exact (ss_setLc (i := 4) (own := [("_law_k", 6)]) (by rfl) sc__law_cells.nd rfl rfl (sw_true rfl rfl rfl (by decide +kernel)) (si_r1 (by rfl) T.m_range (sa_cons (se_op (so_addK K) (se_int) (se_callDK (ok__law_draw T) hr tk (sa_cons (se_var (pv 0)) (sa_cons (se_int) (sa_nil))) (aCons_len (aCons_len aNil_len)))) (sa_nil))) (blkOk_by (own := [("_law_k", 6)]) (N := ["_law_well_here", "_law_many", "_law_places", "_law_size", "_law_kept", "_law_found", "_law_k", "_law_mark"]) (sc := (defScope s__law_cells)) (by decide +kernel)) (fun _ _ _ _ _ => sg_name (i := 6) sc__law_cells.nd rfl (by first | exact .inl rfl | exact .inr rfl)) (gin_name (by decide)) mono_name (fun _ _ _ _ _ => sts_nil) (fun _ _ _ _ _ => se_callDK (ok__law_draw T) hr takes0 (sa_cons (se_var (pv 0)) (sa_cons (se_var (pv 1)) (sa_nil))) (aCons_len (aCons_len aNil_len)))) | exact (ss_asg (i := 4) sc__law_cells.nd rfl (by first | exact .inl rfl | exact .inr rfl) (se_lc (own := [("_law_k", 6)]) (by rfl) sc__law_cells.nd (si_r1 (by rfl) T.m_range (sa_cons (se_op (so_addK K) (se_int) (se_callDK (ok__law_draw T) hr tk (sa_cons (se_var (pv 0)) (sa_cons (se_int) (sa_nil))) (aCons_len (aCons_len aNil_len)))) (sa_nil))) (blkOk_by (own := [("_law_k", 6)]) (N := ["_law_well_here", "_law_many", "_law_places", "_law_size", "_law_kept", "_law_found", "_law_k", "_law_mark"]) (sc := (defScope s__law_cells)) (by decide +kernel)) (fun _ _ _ _ _ => sg_name (i := 6) sc__law_cells.nd rfl (by first | exact .inl rfl | exact .inr rfl)) (gin_name (by decide)) mono_name (fun _ _ _ _ _ => sts_nil) (fun _ _ _ _ _ => se_callDK (ok__law_draw T) hr takes0 (sa_cons (se_var (pv 0)) (sa_cons (se_var (pv 1)) (sa_nil))) (aCons_len (aCons_len aNil_len))))))
  (sb_cons (by first | exact (ss_setLc (i := 5) (own := [("_law_k", 6)]) (by rfl) sc__law_cells.nd rfl rfl (sw_true rfl rfl rfl (by decide +kernel)) (si_r1 (by rfl) T.m_range (sa_cons (se_var (pv 3)) (sa_nil))) (blkOk_by (own := [("_law_k", 6)]) (N := ["_law_well_here", "_law_many", "_law_places", "_law_size", "_law_kept", "_law_found", "_law_k", "_law_mark"]) (sc := (defScope s__law_cells)) (by decide +kernel)) (fun _ _ _ _ _ => sg_name (i := 6) sc__law_cells.nd rfl (by first | exact .inl rfl | exact .inr rfl)) (gin_name (by decide)) mono_name (fun _ _ _ _ _ => sts_nil) (fun _ _ _ _ _ => se_callDK (ok__law_draw T) hr takes0 (sa_cons (se_var (pv 0)) (sa_cons (se_var (pv 1)) (sa_nil))) (aCons_len (aCons_len aNil_len)))) | exact (ss_asg (i := 5) sc__law_cells.nd rfl (by first | exact .inl rfl | exact .inr rfl) (se_lc (own := [("_law_k", 6)]) (by rfl) sc__law_cells.nd (si_r1 (by rfl) T.m_range (sa_cons (se_var (pv 3)) (sa_nil))) (blkOk_by (own := [("_law_k", 6)]) (N := ["_law_well_here", "_law_many", "_law_places", "_law_size", "_law_kept", "_law_found", "_law_k", "_law_mark"]) (sc := (defScope s__law_cells)) (by decide +kernel)) (fun _ _ _ _ _ => sg_name (i := 6) sc__law_cells.nd rfl (by first | exact .inl rfl | exact .inr rfl)) (gin_name (by decide)) mono_name (fun _ _ _ _ _ => sts_nil) (fun _ _ _ _ _ => se_callDK (ok__law_draw T) hr takes0 (sa_cons (se_var (pv 0)) (sa_cons (se_var (pv 1)) (sa_nil))) (aCons_len (aCons_len aNil_len))))))
  (sb_cons (ss_if (st_cmp (so_eqK K hr) (se_callDK (ok__law_draw T) hr tk (sa_cons (se_var (pv 0)) (sa_cons (se_int) (sa_nil))) (aCons_len (aCons_len aNil_len))) (se_int) (nomark _)) (sb_one (by first | exact (ss_setLc (i := 5) (own := [("_law_mark", 7)]) (by rfl) sc__law_cells.nd rfl rfl (sw_true rfl rfl rfl (by decide +kernel)) (si_seqK K (se_var (pv 5))) (blkOk_by (own := [("_law_mark", 7)]) (N := ["_law_well_here", "_law_many", "_law_places", "_law_size", "_law_kept", "_law_found", "_law_k", "_law_mark"]) (sc := (defScope s__law_cells)) (by decide +kernel)) (fun _ _ _ _ _ => sg_name (i := 7) sc__law_cells.nd rfl (by first | exact .inl rfl | exact .inr rfl)) (gin_name (by decide)) mono_name (fun _ _ _ _ _ => sts_nil) (fun _ _ _ _ _ => se_ixK K (se_var (pv 4)) (se_op so_modI (se_var (pv 7)) (se_callB (sc_lenK K) (by rfl) T.m_len (by decide +kernel) (sa_cons (se_var (pv 4)) (sa_nil)))) (fun _ _ => rfl))) | exact (ss_asg (i := 5) sc__law_cells.nd rfl (by first | exact .inl rfl | exact .inr rfl) (se_lc (own := [("_law_mark", 7)]) (by rfl) sc__law_cells.nd (si_seqK K (se_var (pv 5))) (blkOk_by (own := [("_law_mark", 7)]) (N := ["_law_well_here", "_law_many", "_law_places", "_law_size", "_law_kept", "_law_found", "_law_k", "_law_mark"]) (sc := (defScope s__law_cells)) (by decide +kernel)) (fun _ _ _ _ _ => sg_name (i := 7) sc__law_cells.nd rfl (by first | exact .inl rfl | exact .inr rfl)) (gin_name (by decide)) mono_name (fun _ _ _ _ _ => sts_nil) (fun _ _ _ _ _ => se_ixK K (se_var (pv 4)) (se_op so_modI (se_var (pv 7)) (se_callB (sc_lenK K) (by rfl) T.m_len (by decide +kernel) (sa_cons (se_var (pv 4)) (sa_nil)))) (fun _ _ => rfl)))))) (sb_nil))
  (sb_one (ss_ret (se_callTy (sc_tupleK K) (by rfl) T.m_tuple (by decide +kernel) (sa_cons (se_var (pv 5)) (sa_nil)))))))))⟩)
theorem sc__law_table : FnScope ["_law_well_here", "_law_most", "_law_some", "_law_many", "_law_wished", "_law_names_here", "_law_connectives", "_law_name", "_law_places", "_law_mark"] ["_law_well_here", "_law_most", "_law_some"] (defScope s__law_table) := ⟨rfl, rfl, rfl, by decide +kernel, rfl, by decide +kernel, by decide +kernel⟩
theorem ok__law_table (T : Tx K mg) : Df P w K mg base "_law_table" 3 ["_law_well_here", "_law_most", "_law_some"] f__law_table := df_mk T.g__law_table T.d__law_table sc__law_table (fun _ _ _ _ _ _ us hl => match us, hl with | [_, _, _], _ => rfl) (fun f cdv A outer s H E hr tk hp => ⟨_, by
  exact (sb_cons (ss_asg (i := 3) sc__law_table.nd rfl (by first | exact .inl rfl | exact .inr rfl) (se_op (so_addK K) (se_int) (se_callDK (ok__law_draw T) hr tk (sa_cons (se_var (pv 0)) (sa_cons (se_var (pv 1)) (sa_nil))) (aCons_len (aCons_len aNil_len)))))
  (sb_cons (ss_asg (i := 4) sc__law_table.nd rfl (by first | exact .inl rfl | exact .inr rfl) (se_callTy (sc_tupleK K) (by rfl) T.m_tuple (by decide +kernel) (sa_cons (se_lc (own := [("_law_mark", 9)]) (by rfl) sc__law_table.nd (si_r1 (by rfl) T.m_range (sa_cons (se_var (pv 3)) (sa_nil))) (blkOk_by (own := [("_law_mark", 9)]) (N := ["_law_well_here", "_law_most", "_law_some", "_law_many", "_law_wished", "_law_names_here", "_law_connectives", "_law_name", "_law_places", "_law_mark"]) (sc := (defScope s__law_table)) (by decide +kernel)) (fun _ _ _ _ _ => sg_name (i := 9) sc__law_table.nd rfl (by first | exact .inl rfl | exact .inr rfl)) (gin_name (by decide)) mono_name (fun _ _ _ _ _ => sts_one (st_cmp (so_eqK K hr) (se_callDK (ok__law_draw T) hr takes0 (sa_cons (se_var (pv 0)) (sa_cons (se_int) (sa_nil))) (aCons_len (aCons_len aNil_len))) (se_int) (nomark _))) (fun _ _ _ _ _ => se_var (pv 9))) (sa_nil))))
  (sb_cons (ss_asg (i := 5) sc__law_table.nd rfl (by first | exact .inl rfl | exact .inr rfl) (se_callDK (ok__law_names T) hr tk (sa_cons (se_var (pv 0)) (sa_cons (se_callDK (ok__law_draw T) hr tk (sa_cons (se_var (pv 0)) (sa_cons (se_op (so_addK K) (se_var (pv 2)) (se_int)) (sa_nil))) (aCons_len (aCons_len aNil_len))) (sa_nil))) (aCons_len (aCons_len aNil_len))))
  (sb_cons (ss_asg (i := 6) sc__law_table.nd rfl (by first | exact .inl rfl | exact .inr rfl) (se_lst (sa_nil)))
  (sb_cons (ss_for hp (by rfl) (si_seqK K (se_var (pv 5))) (sg_name (i := 7) sc__law_table.nd rfl (by first | exact .inl rfl | exact .inr rfl)) (sb_cons (ss_asg (i := 8) sc__law_table.nd rfl (by first | exact .inl rfl | exact .inr rfl) (se_ixK K (se_lst (sa_cons (se_int) (sa_cons (se_int) (sa_cons (se_int) (sa_cons (se_int) (sa_cons (se_int) (sa_nil))))))) (se_callDK (ok__law_draw T) hr tk (sa_cons (se_var (pv 0)) (sa_cons (se_int) (sa_nil))) (aCons_len (aCons_len aNil_len))) (fun _ _ => rfl)))
  (sb_one (ss_expr (se_MK K sm_append (se_var (pv 6)) (sa_cons (se_tup (sa_cons (se_var (pv 7)) (sa_cons (se_var (pv 8)) (sa_cons (se_callDK (ok__law_cells T) hr tk (sa_cons (se_var (pv 0)) (sa_cons (se_var (pv 3)) (sa_cons (se_var (pv 8)) (sa_nil)))) (aCons_len (aCons_len (aCons_len aNil_len)))) (sa_nil))))) (sa_nil)) (fun a b c => pe_bm PySem.F.plainAttrs_list PySem.F.slot_list_append PySem.F.type_list_append a b c))))))
  (sb_one (ss_ret (se_tup (sa_cons (se_var (pv 3)) (sa_cons (se_var (pv 4)) (sa_cons (se_callTy (sc_tupleK K) (by rfl) T.m_tuple (by decide +kernel) (sa_cons (se_var (pv 6)) (sa_nil))) (sa_nil))))))))))))⟩)
theorem sc__law_even : FnScope ["_law_well_here", "_law_table_here", "_law_size", "_law_home_here", "_law_connectives", "_law_name", "_law_places", "_law_cells_here", "_law_found", "_law_place", "_law_first", "_law_same", "_law_mark", "_law_near", "_law_wished", "_law_number", "_law_one"] ["_law_well_here", "_law_table_here"] (defScope s__law_even) := ⟨rfl, rfl, rfl, by decide +kernel, rfl, by decide +kernel, by decide +kernel⟩
theorem ok__law_even (T : Tx K mg) : Df P w K mg base "_law_even" 2 ["_law_well_here", "_law_table_here"] f__law_even := df_mk T.g__law_even T.d__law_even sc__law_even (fun _ _ _ _ _ _ us hl => match us, hl with | [_, _], _ => rfl) (fun f cdv A outer s H E hr tk hp => ⟨_, by
  exact (sb_cons (ss_asg (i := 2) sc__law_even.nd rfl (by first | exact .inl rfl | exact .inr rfl) (se_op (so_addK K) (se_int) (se_callDK (ok__law_draw T) hr tk (sa_cons (se_var (pv 0)) (sa_cons (se_ixK K (se_var (pv 1)) (se_int) (fun _ _ => rfl)) (sa_nil))) (aCons_len (aCons_len aNil_len)))))
  (sb_cons (by first | exact (ss_setLc (i := 3) (own := [("_law_mark", 12)]) (by rfl) sc__law_even.nd rfl rfl (sw_true rfl rfl rfl (by decide +kernel)) (si_r1 (by rfl) T.m_range (sa_cons (se_ixK K (se_var (pv 1)) (se_int) (fun _ _ => rfl)) (sa_nil))) (blkOk_by (own := [("_law_mark", 12)]) (N := ["_law_well_here", "_law_table_here", "_law_size", "_law_home_here", "_law_connectives", "_law_name", "_law_places", "_law_cells_here", "_law_found", "_law_place", "_law_first", "_law_same", "_law_mark", "_law_near", "_law_wished", "_law_number", "_law_one"]) (sc := (defScope s__law_even)) (by decide +kernel)) (fun _ _ _ _ _ => sg_name (i := 12) sc__law_even.nd rfl (by first | exact .inl rfl | exact .inr rfl)) (gin_name (by decide)) mono_name (fun _ _ _ _ _ => sts_nil) (fun _ _ _ _ _ => se_callDK (ok__law_draw T) hr takes0 (sa_cons (se_var (pv 0)) (sa_cons (se_var (pv 2)) (sa_nil))) (aCons_len (aCons_len aNil_len)))) | exact (ss_asg (i := 3) sc__law_even.nd rfl (by first | exact .inl rfl | exact .inr rfl) (se_lc (own := [("_law_mark", 12)]) (by rfl) sc__law_even.nd (si_r1 (by rfl) T.m_range (sa_cons (se_ixK K (se_var (pv 1)) (se_int) (fun _ _ => rfl)) (sa_nil))) (blkOk_by (own := [("_law_mark", 12)]) (N := ["_law_well_here", "_law_table_here", "_law_size", "_law_home_here", "_law_connectives", "_law_name", "_law_places", "_law_cells_here", "_law_found", "_law_place", "_law_first", "_law_same", "_law_mark", "_law_near", "_law_wished", "_law_number", "_law_one"]) (sc := (defScope s__law_even)) (by decide +kernel)) (fun _ _ _ _ _ => sg_name (i := 12) sc__law_even.nd rfl (by first | exact .inl rfl | exact .inr rfl)) (gin_name (by decide)) mono_name (fun _ _ _ _ _ => sts_nil) (fun _ _ _ _ _ => se_callDK (ok__law_draw T) hr takes0 (sa_cons (se_var (pv 0)) (sa_cons (se_var (pv 2)) (sa_nil))) (aCons_len (aCons_len aNil_len))))))
  (sb_cons (ss_asg (i := 4) sc__law_even.nd rfl (by first | exact .inl rfl | exact .inr rfl) (se_lst (sa_nil)))
  (sb_cons (ss_for hp (by rfl) (si_seqK K (se_ixK K (se_var (pv 1)) (se_int) (fun _ _ => rfl))) (sg_tupLK K (by rfl) (sgs_cons (sg_name (i := 5) sc__law_even.nd rfl (by first | exact .inl rfl | exact .inr rfl)) (sgs_cons (sg_name (i := 6) sc__law_even.nd rfl (by first | exact .inl rfl | exact .inr rfl)) (sgs_cons (sg_name (i := 7) sc__law_even.nd rfl (by first | exact .inl rfl | exact .inr rfl)) (sgs_nil)))) (pg_tup (by rfl) (sgs_cons (sg_name (i := 5) sc__law_even.nd rfl (by first | exact .inl rfl | exact .inr rfl)) (sgs_cons (sg_name (i := 6) sc__law_even.nd rfl (by first | exact .inl rfl | exact .inr rfl)) (sgs_cons (sg_name (i := 7) sc__law_even.nd rfl (by first | exact .inl rfl | exact .inr rfl)) (sgs_nil)))).pe) (pg_lst (by rfl) (sgs_cons (sg_name (i := 5) sc__law_even.nd rfl (by first | exact .inl rfl | exact .inr rfl)) (sgs_cons (sg_name (i := 6) sc__law_even.nd rfl (by first | exact .inl rfl | exact .inr rfl)) (sgs_cons (sg_name (i := 7) sc__law_even.nd rfl (by first | exact .inl rfl | exact .inr rfl)) (sgs_nil)))).pe)) (sb_cons (ss_asg (i := 8) sc__law_even.nd rfl (by first | exact .inl rfl | exact .inr rfl) (se_lst (sa_nil)))
  (sb_cons (ss_for hp (by rfl) (si_r1 (by rfl) T.m_range (sa_cons (se_callB (sc_lenK K) (by rfl) T.m_len (by decide +kernel) (sa_cons (se_var (pv 7)) (sa_nil))) (sa_nil))) (sg_name (i := 9) sc__law_even.nd rfl (by first | exact .inl rfl | exact .inr rfl)) (sb_cons (ss_asg (i := 10) sc__law_even.nd rfl (by first | exact .inl rfl | exact .inr rfl) (se_lst (sa_cons (se_ixK K (se_var (pv 3)) (se_op so_divI (se_var (pv 9)) (se_ixK K (se_var (pv 1)) (se_int) (fun _ _ => rfl))) (fun _ _ => rfl)) (sa_cons (se_ixK K (se_var (pv 3)) (se_op so_modI (se_var (pv 9)) (se_ixK K (se_var (pv 1)) (se_int) (fun _ _ => rfl))) (fun _ _ => rfl)) (sa_nil)))))
  (sb_cons (by first | exact (ss_setLc (i := 11) (own := [("_law_number", 15)]) (by rfl) sc__law_even.nd rfl rfl (sw_true rfl rfl rfl (by decide +kernel)) (si_r1 (by rfl) T.m_range (sa_cons (se_var (pv 9)) (sa_nil))) (blkOk_by (own := [("_law_number", 15)]) (N := ["_law_well_here", "_law_table_here", "_law_size", "_law_home_here", "_law_connectives", "_law_name", "_law_places", "_law_cells_here", "_law_found", "_law_place", "_law_first", "_law_same", "_law_mark", "_law_near", "_law_wished", "_law_number", "_law_one"]) (sc := (defScope s__law_even)) (by decide +kernel)) (fun _ _ _ _ _ => sg_name (i := 15) sc__law_even.nd rfl (by first | exact .inl rfl | exact .inr rfl)) (gin_name (by decide)) mono_name (fun _ _ _ _ _ => sts_one (st_cmp (so_eqK K hr) (se_lst (sa_cons (se_ixK K (se_var (pv 3)) (se_op so_divI (se_var (pv 15)) (se_ixK K (se_var (pv 1)) (se_int) (fun _ _ => rfl))) (fun _ _ => rfl)) (sa_cons (se_ixK K (se_var (pv 3)) (se_op so_modI (se_var (pv 15)) (se_ixK K (se_var (pv 1)) (se_int) (fun _ _ => rfl))) (fun _ _ => rfl)) (sa_nil)))) (se_var (pv 10)) (nomark _))) (fun _ _ _ _ _ => se_var (pv 15))) | exact (ss_asg (i := 11) sc__law_even.nd rfl (by first | exact .inl rfl | exact .inr rfl) (se_lc (own := [("_law_number", 15)]) (by rfl) sc__law_even.nd (si_r1 (by rfl) T.m_range (sa_cons (se_var (pv 9)) (sa_nil))) (blkOk_by (own := [("_law_number", 15)]) (N := ["_law_well_here", "_law_table_here", "_law_size", "_law_home_here", "_law_connectives", "_law_name", "_law_places", "_law_cells_here", "_law_found", "_law_place", "_law_first", "_law_same", "_law_mark", "_law_near", "_law_wished", "_law_number", "_law_one"]) (sc := (defScope s__law_even)) (by decide +kernel)) (fun _ _ _ _ _ => sg_name (i := 15) sc__law_even.nd rfl (by first | exact .inl rfl | exact .inr rfl)) (gin_name (by decide)) mono_name (fun _ _ _ _ _ => sts_one (st_cmp (so_eqK K hr) (se_lst (sa_cons (se_ixK K (se_var (pv 3)) (se_op so_divI (se_var (pv 15)) (se_ixK K (se_var (pv 1)) (se_int) (fun _ _ => rfl))) (fun _ _ => rfl)) (sa_cons (se_ixK K (se_var (pv 3)) (se_op so_modI (se_var (pv 15)) (se_ixK K (se_var (pv 1)) (se_int) (fun _ _ => rfl))) (fun _ _ => rfl)) (sa_nil)))) (se_var (pv 10)) (nomark _))) (fun _ _ _ _ _ => se_var (pv 15)))))
  (sb_cons (ss_asg (i := 12) sc__law_even.nd rfl (by first | exact .inl rfl | exact .inr rfl) (se_ixK K (se_var (pv 7)) (se_var (pv 9)) (fun _ _ => rfl)))
  (sb_cons (ss_if (st_cmp (so_neK K hr) (se_var (pv 11)) (se_lst (sa_nil)) (nomark _)) (sb_cons (by first | exact (ss_setLc (i := 13) (own := [("_law_one", 16)]) (by rfl) sc__law_even.nd rfl rfl (sw_true rfl rfl rfl (by decide +kernel)) (si_r1 (by rfl) T.m_range (sa_cons (se_ixK K (se_var (pv 1)) (se_int) (fun _ _ => rfl)) (sa_nil))) (blkOk_by (own := [("_law_one", 16)]) (N := ["_law_well_here", "_law_table_here", "_law_size", "_law_home_here", "_law_connectives", "_law_name", "_law_places", "_law_cells_here", "_law_found", "_law_place", "_law_first", "_law_same", "_law_mark", "_law_near", "_law_wished", "_law_number", "_law_one"]) (sc := (defScope s__law_even)) (by decide +kernel)) (fun _ _ _ _ _ => sg_name (i := 16) sc__law_even.nd rfl (by first | exact .inl rfl | exact .inr rfl)) (gin_name (by decide)) mono_name (fun _ _ _ _ _ => sts_one (st_cmp (so_eqK K hr) (se_ixK K (se_var (pv 3)) (se_var (pv 16)) (fun _ _ => rfl)) (se_ixK K (se_var (pv 3)) (se_ixK K (se_var (pv 8)) (se_ixK K (se_var (pv 11)) (se_int) (fun _ _ => rfl)) (fun _ _ => rfl)) (fun _ _ => rfl)) (nomark _))) (fun _ _ _ _ _ => se_var (pv 16))) | exact (ss_asg (i := 13) sc__law_even.nd rfl (by first | exact .inl rfl | exact .inr rfl) (se_lc (own := [("_law_one", 16)]) (by rfl) sc__law_even.nd (si_r1 (by rfl) T.m_range (sa_cons (se_ixK K (se_var (pv 1)) (se_int) (fun _ _ => rfl)) (sa_nil))) (blkOk_by (own := [("_law_one", 16)]) (N := ["_law_well_here", "_law_table_here", "_law_size", "_law_home_here", "_law_connectives", "_law_name", "_law_places", "_law_cells_here", "_law_found", "_law_place", "_law_first", "_law_same", "_law_mark", "_law_near", "_law_wished", "_law_number", "_law_one"]) (sc := (defScope s__law_even)) (by decide +kernel)) (fun _ _ _ _ _ => sg_name (i := 16) sc__law_even.nd rfl (by first | exact .inl rfl | exact .inr rfl)) (gin_name (by decide)) mono_name (fun _ _ _ _ _ => sts_one (st_cmp (so_eqK K hr) (se_ixK K (se_var (pv 3)) (se_var (pv 16)) (fun _ _ => rfl)) (se_ixK K (se_var (pv 3)) (se_ixK K (se_var (pv 8)) (se_ixK K (se_var (pv 11)) (se_int) (fun _ _ => rfl)) (fun _ _ => rfl)) (fun _ _ => rfl)) (nomark _))) (fun _ _ _ _ _ => se_var (pv 16)))))
  (sb_one (ss_asg (i := 12) sc__law_even.nd rfl (by first | exact .inl rfl | exact .inr rfl) (se_ixK K (se_var (pv 13)) (se_op so_modI (se_ixK K (se_var (pv 7)) (se_var (pv 9)) (fun _ _ => rfl)) (se_callB (sc_lenK K) (by rfl) T.m_len (by decide +kernel) (sa_cons (se_var (pv 13)) (sa_nil)))) (fun _ _ => rfl))))) (sb_nil))
  (sb_one (ss_expr (se_MK K sm_append (se_var (pv 8)) (sa_cons (se_var (pv 12)) (sa_nil)) (fun a b c => pe_bm PySem.F.plainAttrs_list PySem.F.slot_list_append PySem.F.type_list_append a b c)))))))))
  (sb_one (ss_expr (se_MK K sm_append (se_var (pv 4)) (sa_cons (se_tup (sa_cons (se_var (pv 5)) (sa_cons (se_var (pv 6)) (sa_cons (se_callTy (sc_tupleK K) (by rfl) T.m_tuple (by decide +kernel) (sa_cons (se_var (pv 8)) (sa_nil))) (sa_nil))))) (sa_nil)) (fun a b c => pe_bm PySem.F.plainAttrs_list PySem.F.slot_list_append PySem.F.type_list_append a b c)))))))
  (sb_cons (ss_asg (i := 14) sc__law_even.nd rfl (by first | exact .inl rfl | exact .inr rfl) (se_callTy (sc_tupleK K) (by rfl) T.m_tuple (by decide +kernel) (sa_cons (se_lc (own := [("_law_mark", 12)]) (by rfl) sc__law_even.nd (si_r1 (by rfl) T.m_range (sa_cons (se_ixK K (se_var (pv 1)) (se_int) (fun _ _ => rfl)) (sa_nil))) (blkOk_by (own := [("_law_mark", 12)]) (N := ["_law_well_here", "_law_table_here", "_law_size", "_law_home_here", "_law_connectives", "_law_name", "_law_places", "_law_cells_here", "_law_found", "_law_place", "_law_first", "_law_same", "_law_mark", "_law_near", "_law_wished", "_law_number", "_law_one"]) (sc := (defScope s__law_even)) (by decide +kernel)) (fun _ _ _ _ _ => sg_name (i := 12) sc__law_even.nd rfl (by first | exact .inl rfl | exact .inr rfl)) (gin_name (by decide)) mono_name (fun _ _ _ _ _ => sts_one (st_cmp (so_eqK K hr) (se_op so_modI (se_ixK K (se_var (pv 3)) (se_var (pv 12)) (fun _ _ => rfl)) (se_int)) (se_int) (nomark _))) (fun _ _ _ _ _ => se_var (pv 12))) (sa_nil))))
  (sb_one (ss_ret (se_tup (sa_cons (se_ixK K (se_var (pv 1)) (se_int) (fun _ _ => rfl)) (sa_cons (se_var (pv 14)) (sa_cons (se_callTy (sc_tupleK K) (by rfl) T.m_tuple (by decide +kernel) (sa_cons (se_var (pv 4)) (sa_nil))) (sa_nil))))))))))))⟩)
theorem sc__law_drawn : FnScope ["_law_well_here", "_law_most", "_law_some", "_law_table_here"] ["_law_well_here", "_law_most", "_law_some"] (defScope s__law_drawn) := ⟨rfl, rfl, rfl, by decide +kernel, rfl, by decide +kernel, by decide +kernel⟩
theorem ok__law_drawn (T : Tx K mg) : Df P w K mg base "_law_drawn" 4 ["_law_well_here", "_law_most", "_law_some"] f__law_drawn := df_mk T.g__law_drawn T.d__law_drawn sc__law_drawn (fun _ _ _ _ _ _ us hl => match us, hl with | [_, _, _], _ => rfl) (fun f cdv A outer s H E hr tk hp => ⟨_, by
  exact (sb_cons (ss_asg (i := 3) sc__law_drawn.nd rfl (by first | exact .inl rfl | exact .inr rfl) (se_callDK (ok__law_table T) hr tk (sa_cons (se_var (pv 0)) (sa_cons (se_var (pv 1)) (sa_cons (se_var (pv 2)) (sa_nil)))) (aCons_len (aCons_len (aCons_len aNil_len)))))
  (sb_cons (ss_if (st_cmp (so_eqK K hr) (se_callDK (ok__law_draw T) hr tk (sa_cons (se_var (pv 0)) (sa_cons (se_int) (sa_nil))) (aCons_len (aCons_len aNil_len))) (se_int) (nomark _)) (sb_one (ss_asg (i := 3) sc__law_drawn.nd rfl (by first | exact .inl rfl | exact .inr rfl) (se_callDK (ok__law_even T) hr tk (sa_cons (se_var (pv 0)) (sa_cons (se_var (pv 3)) (sa_nil))) (aCons_len (aCons_len aNil_len))))) (sb_nil))
  (sb_one (ss_ret (se_var (pv 3))))))⟩)
theorem sc__law_lines : FnScope ["_law_well_here", "_law_table_here", "_law_letters", "_law_more", "_law_lines_here", "_law_turn", "_law_name", "_law_places", "_law_cells_here", "_law_k"] ["_law_well_here", "_law_table_here", "_law_letters", "_law_more"] (defScope s__law_lines) := ⟨rfl, rfl, rfl, by decide +kernel, rfl, by decide +kernel, by decide +kernel⟩
theorem ok__law_lines (T : Tx K mg) : Df P w K mg base "_law_lines" 2 ["_law_well_here", "_law_table_here", "_law_letters", "_law_more"] f__law_lines := df_mk T.g__law_lines T.d__law_lines sc__law_lines (fun _ _ _ _ _ _ us hl => match us, hl with | [_, _, _, _], _ => rfl) (fun f cdv A outer s H E hr tk hp => ⟨_, by
  exact (sb_cons (ss_asg (i := 4) sc__law_lines.nd rfl (by first | exact .inl rfl | exact .inr rfl) (se_callTy (sc_listK K) (by rfl) T.m_list (by decide +kernel) (sa_cons (se_var (pv 2)) (sa_nil))))
  (sb_cons (ss_for hp (by rfl) (si_r1 (by rfl) T.m_range (sa_cons (se_op so_mul (se_var (pv 3)) (se_callTy sc_intO (by rfl) T.m_int (by decide +kernel) (sa_cons (se_cmp (so_neK K hr) (se_ixK K (se_var (pv 1)) (se_int) (fun _ _ => rfl)) (se_tup (sa_nil)) (nomark _)) (sa_nil)))) (sa_nil))) (sg_name (i := 5) sc__law_lines.nd rfl (by first | exact .inl rfl | exact .inr rfl)) (sb_cons (ss_asgG (se_ixK K (se_ixK K (se_var (pv 1)) (se_int) (fun _ _ => rfl)) (se_callDK (ok__law_draw T) hr tk (sa_cons (se_var (pv 0)) (sa_cons (se_callB (sc_lenK K) (by rfl) T.m_len (by decide +kernel) (sa_cons (se_ixK K (se_var (pv 1)) (se_int) (fun _ _ => rfl)) (sa_nil))) (sa_nil))) (aCons_len (aCons_len aNil_len))) (fun _ _ => rfl)) (sg_tupLK K (by rfl) (sgs_cons (sg_name (i := 6) sc__law_lines.nd rfl (by first | exact .inl rfl | exact .inr rfl)) (sgs_cons (sg_name (i := 7) sc__law_lines.nd rfl (by first | exact .inl rfl | exact .inr rfl)) (sgs_cons (sg_name (i := 8) sc__law_lines.nd rfl (by first | exact .inl rfl | exact .inr rfl)) (sgs_nil)))) (pg_tup (by rfl) (sgs_cons (sg_name (i := 6) sc__law_lines.nd rfl (by first | exact .inl rfl | exact .inr rfl)) (sgs_cons (sg_name (i := 7) sc__law_lines.nd rfl (by first | exact .inl rfl | exact .inr rfl)) (sgs_cons (sg_name (i := 8) sc__law_lines.nd rfl (by first | exact .inl rfl | exact .inr rfl)) (sgs_nil)))).pe) (pg_lst (by rfl) (sgs_cons (sg_name (i := 6) sc__law_lines.nd rfl (by first | exact .inl rfl | exact .inr rfl)) (sgs_cons (sg_name (i := 7) sc__law_lines.nd rfl (by first | exact .inl rfl | exact .inr rfl)) (sgs_cons (sg_name (i := 8) sc__law_lines.nd rfl (by first | exact .inl rfl | exact .inr rfl)) (sgs_nil)))).pe)) (fun a b => ps_asg a b))
  (sb_one (ss_if (SW.st (sw_or (st_cmp (so_neK K hr) (se_var (pv 4)) (se_lst (sa_nil)) (nomark _)) (sw_or1 (st_cmp (so_eqK K hr) (se_var (pv 7)) (se_int) (nomark _))))) (sb_one (ss_expr (se_MK K sm_append (se_var (pv 4)) (sa_cons (se_op (so_addK K) (se_tup (sa_cons (se_var (pv 6)) (sa_nil))) (se_callTy (sc_tupleK K) (by rfl) T.m_tuple (by decide +kernel) (sa_cons (se_lc (own := [("_law_k", 9)]) (by rfl) sc__law_lines.nd (si_r1 (by rfl) T.m_range (sa_cons (se_var (pv 7)) (sa_nil))) (blkOk_by (own := [("_law_k", 9)]) (N := ["_law_well_here", "_law_table_here", "_law_letters", "_law_more", "_law_lines_here", "_law_turn", "_law_name", "_law_places", "_law_cells_here", "_law_k"]) (sc := (defScope s__law_lines)) (by decide +kernel)) (fun _ _ _ _ _ => sg_name (i := 9) sc__law_lines.nd rfl (by first | exact .inl rfl | exact .inr rfl)) (gin_name (by decide)) mono_name (fun _ _ _ _ _ => sts_nil) (fun _ _ _ _ _ => se_callDK (ok__law_draw T) hr takes0 (sa_cons (se_var (pv 0)) (sa_cons (se_callB (sc_lenK K) (by rfl) T.m_len (by decide +kernel) (sa_cons (se_var (pv 4)) (sa_nil))) (sa_nil))) (aCons_len (aCons_len aNil_len)))) (sa_nil)))) (sa_nil)) (fun a b c => pe_bm PySem.F.plainAttrs_list PySem.F.slot_list_append PySem.F.type_list_append a b c)))) (sb_nil)))))
  (sb_one (ss_ret (se_var (pv 4))))))⟩)
theorem sc_numbered : FnScope ["signs", "known", "sign"] ["signs"] (defScope s_numbered) := ⟨rfl, rfl, rfl, by decide +kernel, rfl, by decide +kernel, by decide +kernel⟩
theorem ok_numbered (T : Tx K mg) : Df P w K mg base "numbered" 1 ["signs"] f_numbered := df_mk T.g_numbered T.d_numbered sc_numbered (fun _ _ _ _ _ _ us hl => match us, hl with | [_], _ => rfl) (fun f cdv A outer s H E hr tk hp => ⟨_, by
  exact (sb_cons (ss_asg (i := 1) sc_numbered.nd rfl (by first | exact .inl rfl | exact .inr rfl) (se_lst (sa_nil)))
  (sb_cons (ss_for hp (by rfl) (si_seqK K (se_var (pv 0))) (sg_name (i := 2) sc_numbered.nd rfl (by first | exact .inl rfl | exact .inr rfl)) (sb_one (ss_if (st_cmp (so_ninD K hr) (se_var (pv 2)) (se_var (pv 1)) (by rfl)) (sb_one (ss_expr (se_MK K sm_append (se_var (pv 1)) (sa_cons (se_var (pv 2)) (sa_nil)) (fun a b c => pe_bm PySem.F.plainAttrs_list PySem.F.slot_list_append PySem.F.type_list_append a b c)))) (sb_nil))))
  (sb_one (ss_ret (se_lc (own := [("sign", 2)]) (by rfl) sc_numbered.nd (si_seqK K (se_var (pv 0))) (blkOk_by (own := [("sign", 2)]) (N := ["signs", "known", "sign"]) (sc := (defScope s_numbered)) (by decide +kernel)) (fun _ _ _ _ _ => sg_name (i := 2) sc_numbered.nd rfl (by first | exact .inl rfl | exact .inr rfl)) (gin_name (by decide)) mono_name (fun _ _ _ _ _ => sts_nil) (fun _ _ _ _ _ => se_MK K (sm_idxD K hr) (se_var (pv 1)) (sa_cons (se_var (pv 2)) (sa_nil)) (fun a b c => pe_bm PySem.F.plainAttrs_list PySem.F.slot_list_index PySem.F.type_list_index a b c)))))))⟩)
theorem sc_all_steps : FnScope ["table", "found", "name", "places", "cells", "other"] ["table"] (defScope s_all_steps) := ⟨rfl, rfl, rfl, by decide +kernel, rfl, by decide +kernel, by decide +kernel⟩
theorem ok_all_steps (T : Tx K mg) : Df P w K mg base "all_steps" 1 ["table"] f_all_steps := df_mk T.g_all_steps T.d_all_steps sc_all_steps (fun _ _ _ _ _ _ us hl => match us, hl with | [_], _ => rfl) (fun f cdv A outer s H E hr tk hp => ⟨_, by
  exact (sb_cons (ss_asg (i := 1) sc_all_steps.nd rfl (by first | exact .inl rfl | exact .inr rfl) (se_lst (sa_nil)))
  (sb_cons (ss_for hp (by rfl) (si_seqK K (se_ixK K (se_var (pv 0)) (se_int) (fun _ _ => rfl))) (sg_tupLK K (by rfl) (sgs_cons (sg_name (i := 2) sc_all_steps.nd rfl (by first | exact .inl rfl | exact .inr rfl)) (sgs_cons (sg_name (i := 3) sc_all_steps.nd rfl (by first | exact .inl rfl | exact .inr rfl)) (sgs_cons (sg_name (i := 4) sc_all_steps.nd rfl (by first | exact .inl rfl | exact .inr rfl)) (sgs_nil)))) (pg_tup (by rfl) (sgs_cons (sg_name (i := 2) sc_all_steps.nd rfl (by first | exact .inl rfl | exact .inr rfl)) (sgs_cons (sg_name (i := 3) sc_all_steps.nd rfl (by first | exact .inl rfl | exact .inr rfl)) (sgs_cons (sg_name (i := 4) sc_all_steps.nd rfl (by first | exact .inl rfl | exact .inr rfl)) (sgs_nil)))).pe) (pg_lst (by rfl) (sgs_cons (sg_name (i := 2) sc_all_steps.nd rfl (by first | exact .inl rfl | exact .inr rfl)) (sgs_cons (sg_name (i := 3) sc_all_steps.nd rfl (by first | exact .inl rfl | exact .inr rfl)) (sgs_cons (sg_name (i := 4) sc_all_steps.nd rfl (by first | exact .inl rfl | exact .inr rfl)) (sgs_nil)))).pe)) (sb_cons (ss_if (st_cmp (so_eqK K hr) (se_var (pv 3)) (se_int) (nomark _)) (sb_one (ss_expr (se_MK K sm_append (se_var (pv 1)) (sa_cons (se_tup (sa_cons (se_var (pv 2)) (sa_cons (se_int) (sa_cons (se_non) (sa_nil))))) (sa_nil)) (fun a b c => pe_bm PySem.F.plainAttrs_list PySem.F.slot_list_append PySem.F.type_list_append a b c)))) (sb_nil))
  (sb_one (ss_if (st_cmp (so_eqK K hr) (se_var (pv 3)) (se_int) (nomark _)) (sb_one (ss_for hp (by rfl) (si_r1 (by rfl) T.m_range (sa_cons (se_ixK K (se_var (pv 0)) (se_int) (fun _ _ => rfl)) (sa_nil))) (sg_name (i := 5) sc_all_steps.nd rfl (by first | exact .inl rfl | exact .inr rfl)) (sb_one (ss_expr (se_MK K sm_extend (se_var (pv 1)) (sa_cons (se_lst (sa_cons (se_tup (sa_cons (se_var (pv 2)) (sa_cons (se_int) (sa_cons (se_var (pv 5)) (sa_nil))))) (sa_cons (se_tup (sa_cons (se_var (pv 2)) (sa_cons (se_int) (sa_cons (se_var (pv 5)) (sa_nil))))) (sa_nil)))) (sa_nil)) (fun a b c => pe_bm PySem.F.plainAttrs_list PySem.F.slot_list_extend PySem.F.type_list_extend a b c)))))) (sb_nil)))))
  (sb_one (ss_ret (se_var (pv 1))))))⟩)
theorem sc_cell_at : FnScope ["many", "cells", "grades", "place", "one"] ["many", "cells", "grades"] (defScope s_cell_at) := ⟨rfl, rfl, rfl, by decide +kernel, rfl, by decide +kernel, by decide +kernel⟩
theorem ok_cell_at (T : Tx K mg) : Df P w K mg base "cell_at" 1 ["many", "cells", "grades"] f_cell_at := df_mk T.g_cell_at T.d_cell_at sc_cell_at (fun _ _ _ _ _ _ us hl => match us, hl with | [_, _, _], _ => rfl) (fun f cdv A outer s H E hr tk hp => ⟨_, by
  exact (sb_cons (ss_asg (i := 3) sc_cell_at.nd rfl (by first | exact .inl rfl | exact .inr rfl) (se_int))
  (sb_cons (ss_for hp (by rfl) (si_seqK K (se_var (pv 2))) (sg_name (i := 4) sc_cell_at.nd rfl (by first | exact .inl rfl | exact .inr rfl)) (sb_one (ss_asg (i := 3) sc_cell_at.nd rfl (by first | exact .inl rfl | exact .inr rfl) (se_op (so_addK K) (se_op so_mul (se_var (pv 3)) (se_var (pv 0))) (se_var (pv 4))))))
  (sb_one (ss_ret (se_ixK K (se_var (pv 1)) (se_var (pv 3)) (fun _ _ => rfl))))))⟩)
theorem sc_cells_of : FnScope ["half", "name", "places", "one", "many", "cells"] ["half", "name", "places"] (defScope s_cells_of) := ⟨rfl, rfl, rfl, by decide +kernel, rfl, by decide +kernel, by decide +kernel⟩
theorem ok_cells_of (T : Tx K mg) : Df P w K mg base "cells_of" 1 ["half", "name", "places"] f_cells_of := df_mk T.g_cells_of T.d_cells_of sc_cells_of (fun _ _ _ _ _ _ us hl => match us, hl with | [_, _, _], _ => rfl) (fun f cdv A outer s H E hr tk hp => ⟨_, by
  exact (sb_cons (ss_for hp (by rfl) (si_seqK K (se_ixK K (se_var (pv 0)) (se_int) (fun _ _ => rfl))) (sg_tupLK K (by rfl) (sgs_cons (sg_name (i := 3) sc_cells_of.nd rfl (by first | exact .inl rfl | exact .inr rfl)) (sgs_cons (sg_name (i := 4) sc_cells_of.nd rfl (by first | exact .inl rfl | exact .inr rfl)) (sgs_cons (sg_name (i := 5) sc_cells_of.nd rfl (by first | exact .inl rfl | exact .inr rfl)) (sgs_nil)))) (pg_tup (by rfl) (sgs_cons (sg_name (i := 3) sc_cells_of.nd rfl (by first | exact .inl rfl | exact .inr rfl)) (sgs_cons (sg_name (i := 4) sc_cells_of.nd rfl (by first | exact .inl rfl | exact .inr rfl)) (sgs_cons (sg_name (i := 5) sc_cells_of.nd rfl (by first | exact .inl rfl | exact .inr rfl)) (sgs_nil)))).pe) (pg_lst (by rfl) (sgs_cons (sg_name (i := 3) sc_cells_of.nd rfl (by first | exact .inl rfl | exact .inr rfl)) (sgs_cons (sg_name (i := 4) sc_cells_of.nd rfl (by first | exact .inl rfl | exact .inr rfl)) (sgs_cons (sg_name (i := 5) sc_cells_of.nd rfl (by first | exact .inl rfl | exact .inr rfl)) (sgs_nil)))).pe)) (sb_one (ss_if (SW.st (sw_and (st_cmp (so_eqK K hr) (se_var (pv 3)) (se_var (pv 1)) (nomark _)) (sw_and1 (st_cmp (so_eqK K hr) (se_var (pv 4)) (se_var (pv 2)) (nomark _))))) (sb_one (ss_ret (se_var (pv 5)))) (sb_nil))))
  (sb_one (ss_ret (se_non))))⟩)
theorem sc_led_on : FnScope ["table", "step", "grade", "name", "place", "other", "grades"] ["table", "step", "grade"] (defScope s_led_on) := ⟨rfl, rfl, rfl, by decide +kernel, rfl, by decide +kernel, by decide +kernel⟩
theorem ok_led_on (T : Tx K mg) : Df P w K mg base "led_on" 2 ["table", "step", "grade"] f_led_on := df_mk T.g_led_on T.d_led_on sc_led_on (fun _ _ _ _ _ _ us hl => match us, hl with | [_, _, _], _ => rfl) (fun f cdv A outer s H E hr tk hp => ⟨_, by
  exact (sb_cons (ss_asgG (se_var (pv 1)) (sg_tupLK K (by rfl) (sgs_cons (sg_name (i := 3) sc_led_on.nd rfl (by first | exact .inl rfl | exact .inr rfl)) (sgs_cons (sg_name (i := 4) sc_led_on.nd rfl (by first | exact .inl rfl | exact .inr rfl)) (sgs_cons (sg_name (i := 5) sc_led_on.nd rfl (by first | exact .inl rfl | exact .inr rfl)) (sgs_nil)))) (pg_tup (by rfl) (sgs_cons (sg_name (i := 3) sc_led_on.nd rfl (by first | exact .inl rfl | exact .inr rfl)) (sgs_cons (sg_name (i := 4) sc_led_on.nd rfl (by first | exact .inl rfl | exact .inr rfl)) (sgs_cons (sg_name (i := 5) sc_led_on.nd rfl (by first | exact .inl rfl | exact .inr rfl)) (sgs_nil)))).pe) (pg_lst (by rfl) (sgs_cons (sg_name (i := 3) sc_led_on.nd rfl (by first | exact .inl rfl | exact .inr rfl)) (sgs_cons (sg_name (i := 4) sc_led_on.nd rfl (by first | exact .inl rfl | exact .inr rfl)) (sgs_cons (sg_name (i := 5) sc_led_on.nd rfl (by first | exact .inl rfl | exact .inr rfl)) (sgs_nil)))).pe)) (fun a b => ps_asg a b))
  (sb_cons (ss_asg (i := 6) sc_led_on.nd rfl (by first | exact .inl rfl | exact .inr rfl) (se_lst (sa_cons (se_var (pv 2)) (sa_nil))))
  (sb_cons (ss_if (st_cmp so_notN (se_var (pv 5)) (se_non) (nomark _)) (sb_one (ss_asg (i := 6) sc_led_on.nd rfl (by first | exact .inl rfl | exact .inr rfl) (se_ixK K (se_lst (sa_cons (se_lst (sa_cons (se_var (pv 2)) (sa_cons (se_var (pv 5)) (sa_nil)))) (sa_cons (se_lst (sa_cons (se_var (pv 5)) (sa_cons (se_var (pv 2)) (sa_nil)))) (sa_nil)))) (se_var (pv 4)) (fun _ _ => rfl)))) (sb_nil))
  (sb_one (ss_ret (se_callDK (ok_cell_at T) hr tk (sa_cons (se_ixK K (se_var (pv 0)) (se_int) (fun _ _ => rfl)) (sa_cons (se_callDK (ok_cells_of T) hr tk (sa_cons (se_var (pv 0)) (sa_cons (se_var (pv 3)) (sa_cons (se_callB (sc_lenK K) (by rfl) T.m_len (by decide +kernel) (sa_cons (se_var (pv 6)) (sa_nil))) (sa_nil)))) (aCons_len (aCons_len (aCons_len aNil_len)))) (sa_cons (se_var (pv 6)) (sa_nil)))) (aCons_len (aCons_len (aCons_len aNil_len)))))))))⟩)
theorem sc_images_of : FnScope ["table", "step", "grade"] ["table"] (defScope s_images_of) := ⟨rfl, rfl, rfl, by decide +kernel, rfl, by decide +kernel, by decide +kernel⟩
theorem ok_images_of (T : Tx K mg) : Df P w K mg base "images_of" 3 ["table"] f_images_of := df_mk T.g_images_of T.d_images_of sc_images_of (fun _ _ _ _ _ _ us hl => match us, hl with | [_], _ => rfl) (fun f cdv A outer s H E hr tk hp => ⟨_, by
  exact (sb_one (ss_ret (se_lc (own := [("step", 1)]) (by rfl) sc_images_of.nd (si_seqK K (se_callDK (ok_all_steps T) hr tk (sa_cons (se_var (pv 0)) (sa_nil)) (aCons_len aNil_len))) (blkOk_by (own := [("step", 1)]) (N := ["table", "step", "grade"]) (sc := (defScope s_images_of)) (by decide +kernel)) (fun _ _ _ _ _ => sg_name (i := 1) sc_images_of.nd rfl (by first | exact .inl rfl | exact .inr rfl)) (gin_name (by decide)) mono_name (fun _ _ _ _ _ => sts_nil) (fun _ _ _ _ _ => se_tup (sa_cons (se_var (pv 1)) (sa_cons (se_lc (own := [("grade", 2)]) (by rfl) sc_images_of.nd (si_r1 (by rfl) T.m_range (sa_cons (se_ixK K (se_var (pv 0)) (se_int) (fun _ _ => rfl)) (sa_nil))) (blkOk_by (own := [("grade", 2)]) (N := ["table", "step", "grade"]) (by rfl)) (fun _ _ _ _ _ => sg_name (i := 2) sc_images_of.nd rfl (by first | exact .inl rfl | exact .inr rfl)) (gin_name (by decide)) mono_name (fun _ _ _ _ _ => sts_nil) (fun _ _ _ _ _ => se_callDK (ok_led_on T) hr takes0 (sa_cons (se_var (pv 0)) (sa_cons (se_var (pv 1)) (sa_cons (se_var (pv 2)) (sa_nil)))) (aCons_len (aCons_len (aCons_len aNil_len))))) (sa_nil)))))))⟩)
theorem sc_alike : FnScope ["table", "many", "wished", "connectives", "images", "numbers", "signs", "more", "parts", "step", "image", "grade", "k"] ["table"] (defScope s_alike) := ⟨rfl, rfl, rfl, by decide +kernel, rfl, by decide +kernel, by decide +kernel⟩
theorem ok_alike (T : Tx K mg) : Df P w K mg base "alike" 4 ["table"] f_alike := df_mk T.g_alike T.d_alike sc_alike (fun _ _ _ _ _ _ us hl => match us, hl with | [_], _ => rfl) (fun f cdv A outer s H E hr tk hp => ⟨_, by
  exact (sb_cons (ss_asgG (se_var (pv 0)) (sg_tupLK K (by rfl) (sgs_cons (sg_name (i := 1) sc_alike.nd rfl (by first | exact .inl rfl | exact .inr rfl)) (sgs_cons (sg_name (i := 2) sc_alike.nd rfl (by first | exact .inl rfl | exact .inr rfl)) (sgs_cons (sg_name (i := 3) sc_alike.nd rfl (by first | exact .inl rfl | exact .inr rfl)) (sgs_nil)))) (pg_tup (by rfl) (sgs_cons (sg_name (i := 1) sc_alike.nd rfl (by first | exact .inl rfl | exact .inr rfl)) (sgs_cons (sg_name (i := 2) sc_alike.nd rfl (by first | exact .inl rfl | exact .inr rfl)) (sgs_cons (sg_name (i := 3) sc_alike.nd rfl (by first | exact .inl rfl | exact .inr rfl)) (sgs_nil)))).pe) (pg_lst (by rfl) (sgs_cons (sg_name (i := 1) sc_alike.nd rfl (by first | exact .inl rfl | exact .inr rfl)) (sgs_cons (sg_name (i := 2) sc_alike.nd rfl (by first | exact .inl rfl | exact .inr rfl)) (sgs_cons (sg_name (i := 3) sc_alike.nd rfl (by first | exact .inl rfl | exact .inr rfl)) (sgs_nil)))).pe)) (fun a b => ps_asg a b))
  (sb_cons (by first | exact (ss_setLc (i := 4) (own := [("step", 9), ("image", 10)]) (by rfl) sc_alike.nd rfl rfl (sw_true rfl rfl rfl (by decide +kernel)) (si_seqK K (se_callDK (ok_images_of T) hr tk (sa_cons (se_var (pv 0)) (sa_nil)) (aCons_len aNil_len))) (blkOk_by (own := [("step", 9), ("image", 10)]) (N := ["table", "many", "wished", "connectives", "images", "numbers", "signs", "more", "parts", "step", "image", "grade", "k"]) (sc := (defScope s_alike)) (by decide +kernel)) (fun _ _ _ _ _ => sg_tupLK K (by rfl) (sgs_cons (sg_name (i := 9) sc_alike.nd rfl (by first | exact .inl rfl | exact .inr rfl)) (sgs_cons (sg_name (i := 10) sc_alike.nd rfl (by first | exact .inl rfl | exact .inr rfl)) (sgs_nil))) (pg_tup (by rfl) (sgs_cons (sg_name (i := 9) sc_alike.nd rfl (by first | exact .inl rfl | exact .inr rfl)) (sgs_cons (sg_name (i := 10) sc_alike.nd rfl (by first | exact .inl rfl | exact .inr rfl)) (sgs_nil))).pe) (pg_lst (by rfl) (sgs_cons (sg_name (i := 9) sc_alike.nd rfl (by first | exact .inl rfl | exact .inr rfl)) (sgs_cons (sg_name (i := 10) sc_alike.nd rfl (by first | exact .inl rfl | exact .inr rfl)) (sgs_nil))).pe)) (gin_tupL (gsin_cons (gin_name (by decide)) (gsin_cons (gin_name (by decide)) (gsin_nil) mono_name) mono_name)) (mono_tupL (monos_cons mono_name (monos_cons mono_name monos_nil))) (fun _ _ _ _ _ => sts_nil) (fun _ _ _ _ _ => se_var (pv 10))) | exact (ss_asg (i := 4) sc_alike.nd rfl (by first | exact .inl rfl | exact .inr rfl) (se_lc (own := [("step", 9), ("image", 10)]) (by rfl) sc_alike.nd (si_seqK K (se_callDK (ok_images_of T) hr tk (sa_cons (se_var (pv 0)) (sa_nil)) (aCons_len aNil_len))) (blkOk_by (own := [("step", 9), ("image", 10)]) (N := ["table", "many", "wished", "connectives", "images", "numbers", "signs", "more", "parts", "step", "image", "grade", "k"]) (sc := (defScope s_alike)) (by decide +kernel)) (fun _ _ _ _ _ => sg_tupLK K (by rfl) (sgs_cons (sg_name (i := 9) sc_alike.nd rfl (by first | exact .inl rfl | exact .inr rfl)) (sgs_cons (sg_name (i := 10) sc_alike.nd rfl (by first | exact .inl rfl | exact .inr rfl)) (sgs_nil))) (pg_tup (by rfl) (sgs_cons (sg_name (i := 9) sc_alike.nd rfl (by first | exact .inl rfl | exact .inr rfl)) (sgs_cons (sg_name (i := 10) sc_alike.nd rfl (by first | exact .inl rfl | exact .inr rfl)) (sgs_nil))).pe) (pg_lst (by rfl) (sgs_cons (sg_name (i := 9) sc_alike.nd rfl (by first | exact .inl rfl | exact .inr rfl)) (sgs_cons (sg_name (i := 10) sc_alike.nd rfl (by first | exact .inl rfl | exact .inr rfl)) (sgs_nil))).pe)) (gin_tupL (gsin_cons (gin_name (by decide)) (gsin_cons (gin_name (by decide)) (gsin_nil) mono_name) mono_name)) (mono_tupL (monos_cons mono_name (monos_cons mono_name monos_nil))) (fun _ _ _ _ _ => sts_nil) (fun _ _ _ _ _ => se_var (pv 10)))))
  (sb_cons (ss_asg (i := 5) sc_alike.nd rfl (by first | exact .inl rfl | exact .inr rfl) (se_callDK (ok_numbered T) hr tk (sa_cons (se_lc (own := [("grade", 11)]) (by rfl) sc_alike.nd (si_r1 (by rfl) T.m_range (sa_cons (se_var (pv 1)) (sa_nil))) (blkOk_by (own := [("grade", 11)]) (N := ["table", "many", "wished", "connectives", "images", "numbers", "signs", "more", "parts", "step", "image", "grade", "k"]) (sc := (defScope s_alike)) (by decide +kernel)) (fun _ _ _ _ _ => sg_name (i := 11) sc_alike.nd rfl (by first | exact .inl rfl | exact .inr rfl)) (gin_name (by decide)) mono_name (fun _ _ _ _ _ => sts_nil) (fun _ _ _ _ _ => se_cmp (so_inK K) (se_var (pv 11)) (se_var (pv 2)) (by rfl))) (sa_nil)) (aCons_len aNil_len)))
  (sb_cons (ss_while hp (st_truthK K (se_bl)) (sb_cons (by first | exact (ss_setLc (i := 6) (own := [("grade", 11)]) (by rfl) sc_alike.nd rfl rfl (sw_true rfl rfl rfl (by decide +kernel)) (si_r1 (by rfl) T.m_range (sa_cons (se_var (pv 1)) (sa_nil))) (blkOk_by (own := [("grade", 11)]) (N := ["table", "many", "wished", "connectives", "images", "numbers", "signs", "more", "parts", "step", "image", "grade", "k"]) (sc := (defScope s_alike)) (by decide +kernel)) (fun _ _ _ _ _ => sg_name (i := 11) sc_alike.nd rfl (by first | exact .inl rfl | exact .inr rfl)) (gin_name (by decide)) mono_name (fun _ _ _ _ _ => sts_nil) (fun _ _ _ _ _ => se_lc (own := [("image", 10)]) (by rfl) sc_alike.nd (si_seqK K (se_var (pv 4))) (blkOk_by (own := [("image", 10)]) (N := ["table", "many", "wished", "connectives", "images", "numbers", "signs", "more", "parts", "step", "image", "grade", "k"]) (by rfl)) (fun _ _ _ _ _ => sg_name (i := 10) sc_alike.nd rfl (by first | exact .inl rfl | exact .inr rfl)) (gin_name (by decide)) mono_name (fun _ _ _ _ _ => sts_nil) (fun _ _ _ _ _ => se_ixK K (se_var (pv 5)) (se_ixK K (se_var (pv 10)) (se_var (pv 11)) (fun _ _ => rfl)) (fun _ _ => rfl)))) | exact (ss_asg (i := 6) sc_alike.nd rfl (by first | exact .inl rfl | exact .inr rfl) (se_lc (own := [("grade", 11)]) (by rfl) sc_alike.nd (si_r1 (by rfl) T.m_range (sa_cons (se_var (pv 1)) (sa_nil))) (blkOk_by (own := [("grade", 11)]) (N := ["table", "many", "wished", "connectives", "images", "numbers", "signs", "more", "parts", "step", "image", "grade", "k"]) (sc := (defScope s_alike)) (by decide +kernel)) (fun _ _ _ _ _ => sg_name (i := 11) sc_alike.nd rfl (by first | exact .inl rfl | exact .inr rfl)) (gin_name (by decide)) mono_name (fun _ _ _ _ _ => sts_nil) (fun _ _ _ _ _ => se_lc (own := [("image", 10)]) (by rfl) sc_alike.nd (si_seqK K (se_var (pv 4))) (blkOk_by (own := [("image", 10)]) (N := ["table", "many", "wished", "connectives", "images", "numbers", "signs", "more", "parts", "step", "image", "grade", "k"]) (by rfl)) (fun _ _ _ _ _ => sg_name (i := 10) sc_alike.nd rfl (by first | exact .inl rfl | exact .inr rfl)) (gin_name (by decide)) mono_name (fun _ _ _ _ _ => sts_nil) (fun _ _ _ _ _ => se_ixK K (se_var (pv 5)) (se_ixK K (se_var (pv 10)) (se_var (pv 11)) (fun _ _ => rfl)) (fun _ _ => rfl))))))
  (sb_cons (ss_asg (i := 7) sc_alike.nd rfl (by first | exact .inl rfl | exact .inr rfl) (se_callDK (ok_numbered T) hr tk (sa_cons (se_lc (own := [("grade", 11)]) (by rfl) sc_alike.nd (si_r1 (by rfl) T.m_range (sa_cons (se_var (pv 1)) (sa_nil))) (blkOk_by (own := [("grade", 11)]) (N := ["table", "many", "wished", "connectives", "images", "numbers", "signs", "more", "parts", "step", "image", "grade", "k"]) (sc := (defScope s_alike)) (by decide +kernel)) (fun _ _ _ _ _ => sg_name (i := 11) sc_alike.nd rfl (by first | exact .inl rfl | exact .inr rfl)) (gin_name (by decide)) mono_name (fun _ _ _ _ _ => sts_nil) (fun _ _ _ _ _ => se_op (so_addK K) (se_lst (sa_cons (se_ixK K (se_var (pv 5)) (se_var (pv 11)) (fun _ _ => rfl)) (sa_nil))) (se_ixK K (se_var (pv 6)) (se_var (pv 11)) (fun _ _ => rfl)))) (sa_nil)) (aCons_len aNil_len)))
  (sb_cons (ss_if (st_cmp (so_eqK K hr) (se_var (pv 7)) (se_var (pv 5)) (nomark _)) (sb_one (ss_break)) (sb_nil))
  (sb_one (ss_asg (i := 5) sc_alike.nd rfl (by first | exact .inl rfl | exact .inr rfl) (se_var (pv 7))))))))
  (sb_cons (by first | exact (ss_setLc (i := 8) (own := [("k", 12)]) (by rfl) sc_alike.nd rfl rfl (sw_true rfl rfl rfl (by decide +kernel)) (si_r1 (by rfl) T.m_range (sa_cons (se_op (so_addK K) (se_callB (sc_maxL K rfl) (by rfl) T.m_max (by decide +kernel) (sa_cons (se_var (pv 5)) (sa_nil))) (se_int)) (sa_nil))) (blkOk_by (own := [("k", 12)]) (N := ["table", "many", "wished", "connectives", "images", "numbers", "signs", "more", "parts", "step", "image", "grade", "k"]) (sc := (defScope s_alike)) (by decide +kernel)) (fun _ _ _ _ _ => sg_name (i := 12) sc_alike.nd rfl (by first | exact .inl rfl | exact .inr rfl)) (gin_name (by decide)) mono_name (fun _ _ _ _ _ => sts_nil) (fun _ _ _ _ _ => se_callTy (sc_tupleK K) (by rfl) T.m_tuple (by decide +kernel) (sa_cons (se_lc (own := [("grade", 11)]) (by rfl) sc_alike.nd (si_r1 (by rfl) T.m_range (sa_cons (se_var (pv 1)) (sa_nil))) (blkOk_by (own := [("grade", 11)]) (N := ["table", "many", "wished", "connectives", "images", "numbers", "signs", "more", "parts", "step", "image", "grade", "k"]) (by rfl)) (fun _ _ _ _ _ => sg_name (i := 11) sc_alike.nd rfl (by first | exact .inl rfl | exact .inr rfl)) (gin_name (by decide)) mono_name (fun _ _ _ _ _ => sts_one (st_cmp (so_eqK K hr) (se_ixK K (se_var (pv 5)) (se_var (pv 11)) (fun _ _ => rfl)) (se_var (pv 12)) (nomark _))) (fun _ _ _ _ _ => se_var (pv 11))) (sa_nil)))) | exact (ss_asg (i := 8) sc_alike.nd rfl (by first | exact .inl rfl | exact .inr rfl) (se_lc (own := [("k", 12)]) (by rfl) sc_alike.nd (si_r1 (by rfl) T.m_range (sa_cons (se_op (so_addK K) (se_callB (sc_maxL K rfl) (by rfl) T.m_max (by decide +kernel) (sa_cons (se_var (pv 5)) (sa_nil))) (se_int)) (sa_nil))) (blkOk_by (own := [("k", 12)]) (N := ["table", "many", "wished", "connectives", "images", "numbers", "signs", "more", "parts", "step", "image", "grade", "k"]) (sc := (defScope s_alike)) (by decide +kernel)) (fun _ _ _ _ _ => sg_name (i := 12) sc_alike.nd rfl (by first | exact .inl rfl | exact .inr rfl)) (gin_name (by decide)) mono_name (fun _ _ _ _ _ => sts_nil) (fun _ _ _ _ _ => se_callTy (sc_tupleK K) (by rfl) T.m_tuple (by decide +kernel) (sa_cons (se_lc (own := [("grade", 11)]) (by rfl) sc_alike.nd (si_r1 (by rfl) T.m_range (sa_cons (se_var (pv 1)) (sa_nil))) (blkOk_by (own := [("grade", 11)]) (N := ["table", "many", "wished", "connectives", "images", "numbers", "signs", "more", "parts", "step", "image", "grade", "k"]) (by rfl)) (fun _ _ _ _ _ => sg_name (i := 11) sc_alike.nd rfl (by first | exact .inl rfl | exact .inr rfl)) (gin_name (by decide)) mono_name (fun _ _ _ _ _ => sts_one (st_cmp (so_eqK K hr) (se_ixK K (se_var (pv 5)) (se_var (pv 11)) (fun _ _ => rfl)) (se_var (pv 12)) (nomark _))) (fun _ _ _ _ _ => se_var (pv 11))) (sa_nil))))))
  (sb_one (ss_ret (se_callTy (sc_tupleK K) (by rfl) T.m_tuple (by decide +kernel) (sa_cons (se_var (pv 8)) (sa_nil))))))))))⟩)
theorem sc_parting : FnScope ["table", "one", "other", "images", "ways", "ahead", "pair", "step", "image", "behind"] ["table", "one", "other"] (defScope s_parting) := ⟨rfl, rfl, rfl, by decide +kernel, rfl, by decide +kernel, by decide +kernel⟩
theorem ok_parting (T : Tx K mg) : Df P w K mg base "parting" 4 ["table", "one", "other"] f_parting := df_mk T.g_parting T.d_parting sc_parting (fun _ _ _ _ _ _ us hl => match us, hl with | [_, _, _], _ => rfl) (fun f cdv A outer s H E hr tk hp => ⟨_, by
  exact (sb_cons (ss_asg (i := 3) sc_parting.nd rfl (by first | exact .inl rfl | exact .inr rfl) (se_callDK (ok_images_of T) hr tk (sa_cons (se_var (pv 0)) (sa_nil)) (aCons_len aNil_len)))
  (sb_cons (ss_asg (i := 4) sc_parting.nd rfl (by first | exact .inl rfl | exact .inr rfl) (se_dispT K hr (se_tup (sa_cons (se_var (pv 1)) (sa_cons (se_var (pv 2)) (sa_nil)))) (se_tup (sa_nil))))
  (sb_cons (ss_asg (i := 5) sc_parting.nd rfl (by first | exact .inl rfl | exact .inr rfl) (se_lst (sa_cons (se_tup (sa_cons (se_var (pv 1)) (sa_cons (se_var (pv 2)) (sa_nil)))) (sa_nil))))
  (sb_cons (ss_while hp (st_cmp (so_neK K hr) (se_var (pv 5)) (se_lst (sa_nil)) (nomark _)) (sb_cons (ss_asg (i := 6) sc_parting.nd rfl (by first | exact .inl rfl | exact .inr rfl) (se_MK K sm_pop (se_var (pv 5)) (sa_cons (se_int) (sa_nil)) (fun a b c => pe_bm PySem.F.plainAttrs_list PySem.F.slot_list_pop PySem.F.type_list_pop a b c)))
  (sb_cons (ss_if (st_cmp (so_neK K hr) (se_cmp (so_inK K) (se_ixK K (se_var (pv 6)) (se_int) (fun _ _ => rfl)) (se_ixK K (se_var (pv 0)) (se_int) (fun _ _ => rfl)) (by rfl)) (se_cmp (so_inK K) (se_ixK K (se_var (pv 6)) (se_int) (fun _ _ => rfl)) (se_ixK K (se_var (pv 0)) (se_int) (fun _ _ => rfl)) (by rfl)) (nomark _)) (sb_one (ss_ret (se_dgT K hr (se_var (pv 4)) (se_var (pv 6)) (fun _ _ => rfl)))) (sb_nil))
  (sb_one (ss_for hp (by rfl) (si_seqK K (se_var (pv 3))) (sg_tupLK K (by rfl) (sgs_cons (sg_name (i := 7) sc_parting.nd rfl (by first | exact .inl rfl | exact .inr rfl)) (sgs_cons (sg_name (i := 8) sc_parting.nd rfl (by first | exact .inl rfl | exact .inr rfl)) (sgs_nil))) (pg_tup (by rfl) (sgs_cons (sg_name (i := 7) sc_parting.nd rfl (by first | exact .inl rfl | exact .inr rfl)) (sgs_cons (sg_name (i := 8) sc_parting.nd rfl (by first | exact .inl rfl | exact .inr rfl)) (sgs_nil))).pe) (pg_lst (by rfl) (sgs_cons (sg_name (i := 7) sc_parting.nd rfl (by first | exact .inl rfl | exact .inr rfl)) (sgs_cons (sg_name (i := 8) sc_parting.nd rfl (by first | exact .inl rfl | exact .inr rfl)) (sgs_nil))).pe)) (sb_cons (ss_asg (i := 9) sc_parting.nd rfl (by first | exact .inl rfl | exact .inr rfl) (se_tup (sa_cons (se_ixK K (se_var (pv 8)) (se_ixK K (se_var (pv 6)) (se_int) (fun _ _ => rfl)) (fun _ _ => rfl)) (sa_cons (se_ixK K (se_var (pv 8)) (se_ixK K (se_var (pv 6)) (se_int) (fun _ _ => rfl)) (fun _ _ => rfl)) (sa_nil)))))
  (sb_one (ss_if (st_cmp (so_dninT K hr) (se_var (pv 9)) (se_var (pv 4)) (by rfl)) (sb_cons (ss_subT K (se_var (pv 4)) (se_var (pv 9)) (se_op (so_addK K) (se_dgT K hr (se_var (pv 4)) (se_var (pv 6)) (fun _ _ => rfl)) (se_tup (sa_cons (se_var (pv 7)) (sa_nil)))) (fun a b c => ps_asg a (pg_sub b c (set_dT (hu_of hr)))))
  (sb_one (ss_expr (se_MK K sm_append (se_var (pv 5)) (sa_cons (se_var (pv 9)) (sa_nil)) (fun a b c => pe_bm PySem.F.plainAttrs_list PySem.F.slot_list_append PySem.F.type_list_append a b c))))) (sb_nil)))))))))
  (sb_one (ss_ret (se_non)))))))⟩)
theorem sc__law_home : FnScope ["_law_parts", "_law_mark", "_law_part"] ["_law_parts", "_law_mark"] (defScope s__law_home) := ⟨rfl, rfl, rfl, by decide +kernel, rfl, by decide +kernel, by decide +kernel⟩
theorem ok__law_home (T : Tx K mg) : Df P w K mg base "_law_home" 1 ["_law_parts", "_law_mark"] f__law_home := df_mk T.g__law_home T.d__law_home sc__law_home (fun _ _ _ _ _ _ us hl => match us, hl with | [_, _], _ => rfl) (fun f cdv A outer s H E hr tk hp => ⟨_, by
  exact (sb_one (ss_ret (se_idxK K (se_lc (own := [("_law_part", 2)]) (by rfl) sc__law_home.nd (si_seqK K (se_var (pv 0))) (blkOk_by (own := [("_law_part", 2)]) (N := ["_law_parts", "_law_mark", "_law_part"]) (sc := (defScope s__law_home)) (by decide +kernel)) (fun _ _ _ _ _ => sg_name (i := 2) sc__law_home.nd rfl (by first | exact .inl rfl | exact .inr rfl)) (gin_name (by decide)) mono_name (fun _ _ _ _ _ => sts_nil) (fun _ _ _ _ _ => se_cmp (so_inK K) (se_var (pv 1)) (se_var (pv 2)) (by rfl))) (sa_cons (se_bl) (sa_nil)) (fun a b => pe_bmU PySem.F.plainAttrs_list PySem.F.slot_list_index PySem.F.type_list_index PySem.F.plainAttrs_tuple PySem.F.slot_tuple_index PySem.F.type_tuple_index mt_index mt_indexT a b))))⟩)
theorem sc__law_cell : FnScope ["_law_many", "_law_cells_here", "_law_grades_here", "_law_place", "_law_mark"] ["_law_many", "_law_cells_here", "_law_grades_here"] (defScope s__law_cell) := ⟨rfl, rfl, rfl, by decide +kernel, rfl, by decide +kernel, by decide +kernel⟩
theorem ok__law_cell (T : Tx K mg) : Df P w K mg base "_law_cell" 1 ["_law_many", "_law_cells_here", "_law_grades_here"] f__law_cell := df_mk T.g__law_cell T.d__law_cell sc__law_cell (fun _ _ _ _ _ _ us hl => match us, hl with | [_, _, _], _ => rfl) (fun f cdv A outer s H E hr tk hp => ⟨_, by
  exact (sb_cons (ss_asg (i := 3) sc__law_cell.nd rfl (by first | exact .inl rfl | exact .inr rfl) (se_int))
  (sb_cons (ss_for hp (by rfl) (si_seqK K (se_var (pv 2))) (sg_name (i := 4) sc__law_cell.nd rfl (by first | exact .inl rfl | exact .inr rfl)) (sb_one (ss_asg (i := 3) sc__law_cell.nd rfl (by first | exact .inl rfl | exact .inr rfl) (se_op (so_addK K) (se_op so_mul (se_var (pv 3)) (se_var (pv 0))) (se_var (pv 4))))))
  (sb_one (ss_ret (se_ixK K (se_var (pv 1)) (se_var (pv 3)) (fun _ _ => rfl))))))⟩)
theorem sc__law_grades : FnScope ["_law_table_here", "_law_lines_here", "_law_grading", "_law_known", "_law_found", "_law_line", "_law_name", "_law_places", "_law_cells_here", "_law_number"] ["_law_table_here", "_law_lines_here", "_law_grading"] (defScope s__law_grades) := ⟨rfl, rfl, rfl, by decide +kernel, rfl, by decide +kernel, by decide +kernel⟩
theorem ok__law_grades (T : Tx K mg) : Df P w K mg base "_law_grades" 2 ["_law_table_here", "_law_lines_here", "_law_grading"] f__law_grades := df_mk T.g__law_grades T.d__law_grades sc__law_grades (fun _ _ _ _ _ _ us hl => match us, hl with | [_, _, _], _ => rfl) (fun f cdv A outer s H E hr tk hp => ⟨_, by
  exact (sb_cons (ss_asg (i := 3) sc__law_grades.nd rfl (by first | exact .inl rfl | exact .inr rfl) (se_callTy (sc_dictK K rfl) (by rfl) T.m_dict (by decide +kernel) (sa_cons (se_lc (own := [("_law_name", 6), ("_law_places", 7), ("_law_cells_here", 8)]) (by rfl) sc__law_grades.nd (si_seqK K (se_ixK K (se_var (pv 0)) (se_int) (fun _ _ => rfl))) (blkOk_by (own := [("_law_name", 6), ("_law_places", 7), ("_law_cells_here", 8)]) (N := ["_law_table_here", "_law_lines_here", "_law_grading", "_law_known", "_law_found", "_law_line", "_law_name", "_law_places", "_law_cells_here", "_law_number"]) (sc := (defScope s__law_grades)) (by decide +kernel)) (fun _ _ _ _ _ => sg_tupLK K (by rfl) (sgs_cons (sg_name (i := 6) sc__law_grades.nd rfl (by first | exact .inl rfl | exact .inr rfl)) (sgs_cons (sg_name (i := 7) sc__law_grades.nd rfl (by first | exact .inl rfl | exact .inr rfl)) (sgs_cons (sg_name (i := 8) sc__law_grades.nd rfl (by first | exact .inl rfl | exact .inr rfl)) (sgs_nil)))) (pg_tup (by rfl) (sgs_cons (sg_name (i := 6) sc__law_grades.nd rfl (by first | exact .inl rfl | exact .inr rfl)) (sgs_cons (sg_name (i := 7) sc__law_grades.nd rfl (by first | exact .inl rfl | exact .inr rfl)) (sgs_cons (sg_name (i := 8) sc__law_grades.nd rfl (by first | exact .inl rfl | exact .inr rfl)) (sgs_nil)))).pe) (pg_lst (by rfl) (sgs_cons (sg_name (i := 6) sc__law_grades.nd rfl (by first | exact .inl rfl | exact .inr rfl)) (sgs_cons (sg_name (i := 7) sc__law_grades.nd rfl (by first | exact .inl rfl | exact .inr rfl)) (sgs_cons (sg_name (i := 8) sc__law_grades.nd rfl (by first | exact .inl rfl | exact .inr rfl)) (sgs_nil)))).pe)) (gin_tupL (gsin_cons (gin_name (by decide)) (gsin_cons (gin_name (by decide)) (gsin_cons (gin_name (by decide)) (gsin_nil) mono_name) mono_name) mono_name)) (mono_tupL (monos_cons mono_name (monos_cons mono_name (monos_cons mono_name monos_nil)))) (fun _ _ _ _ _ => sts_nil) (fun _ _ _ _ _ => se_tup (sa_cons (se_var (pv 6)) (sa_cons (se_var (pv 8)) (sa_nil))))) (sa_nil))))
  (sb_cons (ss_asg (i := 4) sc__law_grades.nd rfl (by first | exact .inl rfl | exact .inr rfl) (se_lst (sa_nil)))
  (sb_cons (ss_for hp (by rfl) (si_seqK K (se_var (pv 1))) (sg_name (i := 5) sc__law_grades.nd rfl (by first | exact .inl rfl | exact .inr rfl)) (sb_one (ss_if (st_truthK K (se_isiK K (T := "str") T.m_isinstance T.m_str (se_var (pv 5)) (by decide +kernel) (by rfl) (pe_bltn (by rfl) T.m_str (by decide +kernel) rfl) (fun pb pa => pe_callB call_isi (by rfl) T.m_isinstance (by decide +kernel) (pa_cons pa (pa_cons pb pa_nil))))) (sb_one (ss_expr (se_MK K sm_append (se_var (pv 4)) (sa_cons (se_dg hr (se_var (pv 2)) (se_var (pv 5)) (fun _ _ => rfl)) (sa_nil)) (fun a b c => pe_bm PySem.F.plainAttrs_list PySem.F.slot_list_append PySem.F.type_list_append a b c)))) (sb_one (ss_expr (se_MK K sm_append (se_var (pv 4)) (sa_cons (se_callDK (ok__law_cell T) hr tk (sa_cons (se_ixK K (se_var (pv 0)) (se_int) (fun _ _ => rfl)) (sa_cons (se_dg hr (se_var (pv 3)) (se_ixK K (se_var (pv 5)) (se_int) (fun _ _ => rfl)) (fun _ _ => rfl)) (sa_cons (se_lc (own := [("_law_number", 9)]) (by rfl) sc__law_grades.nd (si_seqK K (se_sliceK K (se_var (pv 5)) (so_some (se_int)) (so_none))) (blkOk_by (own := [("_law_number", 9)]) (N := ["_law_table_here", "_law_lines_here", "_law_grading", "_law_known", "_law_found", "_law_line", "_law_name", "_law_places", "_law_cells_here", "_law_number"]) (sc := (defScope s__law_grades)) (by decide +kernel)) (fun _ _ _ _ _ => sg_name (i := 9) sc__law_grades.nd rfl (by first | exact .inl rfl | exact .inr rfl)) (gin_name (by decide)) mono_name (fun _ _ _ _ _ => sts_nil) (fun _ _ _ _ _ => se_ixK K (se_var (pv 4)) (se_var (pv 9)) (fun _ _ => rfl))) (sa_nil)))) (aCons_len (aCons_len (aCons_len aNil_len)))) (sa_nil)) (fun a b c => pe_bm PySem.F.plainAttrs_list PySem.F.slot_list_append PySem.F.type_list_append a b c)))))))
  (sb_one (ss_ret (se_var (pv 4)))))))⟩)
theorem sc__law_pair_right : FnScope ["_law_table_here", "_law_parts", "_law_lines_here", "_law_one", "_law_other", "_law_same", "_law_steps", "_law_beside", "_law_first", "_law_second", "_law_k", "_law_parted"] ["_law_table_here", "_law_parts", "_law_lines_here", "_law_one", "_law_other"] (defScope s__law_pair_right) := ⟨rfl, rfl, rfl, by decide +kernel, rfl, by decide +kernel, by decide +kernel⟩
theorem ok__law_pair_right (T : Tx K mg) : Df P w K mg base "_law_pair_right" 5 ["_law_table_here", "_law_parts", "_law_lines_here", "_law_one", "_law_other"] f__law_pair_right := df_mk T.g__law_pair_right T.d__law_pair_right sc__law_pair_right (fun _ _ _ _ _ _ us hl => match us, hl with | [_, _, _, _, _], _ => rfl) (fun f cdv A outer s H E hr tk hp => ⟨_, by
  exact (sb_cons (ss_asg (i := 5) sc__law_pair_right.nd rfl (by first | exact .inl rfl | exact .inr rfl) (se_cmp (so_eqK K hr) (se_callDK (ok__law_home T) hr tk (sa_cons (se_var (pv 1)) (sa_cons (se_var (pv 3)) (sa_nil))) (aCons_len (aCons_len aNil_len))) (se_callDK (ok__law_home T) hr tk (sa_cons (se_var (pv 1)) (sa_cons (se_var (pv 4)) (sa_nil))) (aCons_len (aCons_len aNil_len))) (nomark _)))
  (sb_cons (ss_asg (i := 6) sc__law_pair_right.nd rfl (by first | exact .inl rfl | exact .inr rfl) (se_callDK (ok_parting T) hr tk (sa_cons (se_var (pv 0)) (sa_cons (se_var (pv 3)) (sa_cons (se_var (pv 4)) (sa_nil)))) (aCons_len (aCons_len (aCons_len aNil_len)))))
  (sb_cons (ss_for hp (by rfl) (si_r1 (by rfl) T.m_range (sa_cons (se_ixK K (se_var (pv 0)) (se_int) (fun _ _ => rfl)) (sa_nil))) (sg_name (i := 7) sc__law_pair_right.nd rfl (by first | exact .inl rfl | exact .inr rfl)) (sb_cons (ss_asg (i := 8) sc__law_pair_right.nd rfl (by first | exact .inl rfl | exact .inr rfl) (se_callDK (ok__law_grades T) hr tk (sa_cons (se_var (pv 0)) (sa_cons (se_var (pv 2)) (sa_cons (se_disp (sps_cons (se_str) (se_var (pv 3)) (sps_cons (se_str) (se_var (pv 7)) (sps_nil)))) (sa_nil)))) (aCons_len (aCons_len (aCons_len aNil_len)))))
  (sb_cons (ss_asg (i := 9) sc__law_pair_right.nd rfl (by first | exact .inl rfl | exact .inr rfl) (se_callDK (ok__law_grades T) hr tk (sa_cons (se_var (pv 0)) (sa_cons (se_var (pv 2)) (sa_cons (se_disp (sps_cons (se_str) (se_var (pv 4)) (sps_cons (se_str) (se_var (pv 7)) (sps_nil)))) (sa_nil)))) (aCons_len (aCons_len (aCons_len aNil_len)))))
  (sb_one (ss_for hp (by rfl) (si_r1 (by rfl) T.m_range (sa_cons (se_callB (sc_lenK K) (by rfl) T.m_len (by decide +kernel) (sa_cons (se_var (pv 2)) (sa_nil))) (sa_nil))) (sg_name (i := 10) sc__law_pair_right.nd rfl (by first | exact .inl rfl | exact .inr rfl)) (sb_cons (ss_asg (i := 11) sc__law_pair_right.nd rfl (by first | exact .inl rfl | exact .inr rfl) (se_cmp (so_neK K hr) (se_cmp (so_inK K) (se_ixK K (se_var (pv 8)) (se_var (pv 10)) (fun _ _ => rfl)) (se_ixK K (se_var (pv 0)) (se_int) (fun _ _ => rfl)) (by rfl)) (se_cmp (so_inK K) (se_ixK K (se_var (pv 9)) (se_var (pv 10)) (fun _ _ => rfl)) (se_ixK K (se_var (pv 0)) (se_int) (fun _ _ => rfl)) (by rfl)) (nomark _)))
  (sb_cons (ss_if (SW.st (sw_and (st_truthK K (se_var (pv 11))) (sw_and1 (SW.st (sw_or (st_truthK K (se_var (pv 5))) (sw_or1 (st_cmp so_isN (se_var (pv 6)) (se_non) (nomark _)))))))) (sb_one (ss_ret (se_bl))) (sb_nil))
  (sb_one (ss_if (SW.st (sw_and (st_truthK K (se_var (pv 5))) (sw_and1 (st_cmp (so_neK K hr) (se_callDK (ok__law_home T) hr tk (sa_cons (se_var (pv 1)) (sa_cons (se_ixK K (se_var (pv 8)) (se_var (pv 10)) (fun _ _ => rfl)) (sa_nil))) (aCons_len (aCons_len aNil_len))) (se_callDK (ok__law_home T) hr tk (sa_cons (se_var (pv 1)) (sa_cons (se_ixK K (se_var (pv 9)) (se_var (pv 10)) (fun _ _ => rfl)) (sa_nil))) (aCons_len (aCons_len aNil_len))) (nomark _))))) (sb_one (ss_ret (se_bl))) (sb_nil))))))))))
  (sb_one (ss_ret (se_cmp (so_eqK K hr) (se_var (pv 5)) (se_cmp so_isN (se_var (pv 6)) (se_non) (nomark _)) (nomark _)))))))⟩)
theorem sc__law_right : FnScope ["_law_well_here", "_law_table_here", "_law_lines_here", "_law_parts", "_law_turn"] ["_law_well_here"] (defScope s__law_right) := ⟨rfl, rfl, rfl, by decide +kernel, rfl, by decide +kernel, by decide +kernel⟩
theorem ok__law_right (T : Tx K mg) : Df P w K mg base "_law_right" 6 ["_law_well_here"] f__law_right := df_mk T.g__law_right T.d__law_right sc__law_right (fun _ _ _ _ _ _ us hl => match us, hl with | [_], _ => rfl) (fun f cdv A outer s H E hr tk hp => ⟨_, by
  exact (sb_cons (ss_asg (i := 1) sc__law_right.nd rfl (by first | exact .inl rfl | exact .inr rfl) (se_callDK (ok__law_drawn T) hr tk (sa_cons (se_var (pv 0)) (sa_cons (se_int) (sa_cons (se_int) (sa_nil)))) (aCons_len (aCons_len (aCons_len aNil_len)))))
  (sb_cons (ss_asg (i := 2) sc__law_right.nd rfl (by first | exact .inl rfl | exact .inr rfl) (se_callDK (ok__law_lines T) hr tk (sa_cons (se_var (pv 0)) (sa_cons (se_var (pv 1)) (sa_cons (se_lst (sa_cons (se_str) (sa_cons (se_str) (sa_nil)))) (sa_cons (se_op (so_addK K) (se_int) (se_callDK (ok__law_draw T) hr tk (sa_cons (se_var (pv 0)) (sa_cons (se_int) (sa_nil))) (aCons_len (aCons_len aNil_len)))) (sa_nil))))) (aCons_len (aCons_len (aCons_len (aCons_len aNil_len))))))
  (sb_cons (ss_asg (i := 3) sc__law_right.nd rfl (by first | exact .inl rfl | exact .inr rfl) (se_callDK (ok_alike T) hr tk (sa_cons (se_var (pv 1)) (sa_nil)) (aCons_len aNil_len)))
  (sb_cons (ss_for hp (by rfl) (si_r1 (by rfl) T.m_range (sa_cons (se_int) (sa_nil))) (sg_name (i := 4) sc__law_right.nd rfl (by first | exact .inl rfl | exact .inr rfl)) (sb_one (ss_if (st_not (st_truthK K (se_callDK (ok__law_pair_right T) hr tk (sa_cons (se_var (pv 1)) (sa_cons (se_var (pv 3)) (sa_cons (se_var (pv 2)) (sa_cons (se_callDK (ok__law_draw T) hr tk (sa_cons (se_var (pv 0)) (sa_cons (se_ixK K (se_var (pv 1)) (se_int) (fun _ _ => rfl)) (sa_nil))) (aCons_len (aCons_len aNil_len))) (sa_cons (se_callDK (ok__law_draw T) hr tk (sa_cons (se_var (pv 0)) (sa_cons (se_ixK K (se_var (pv 1)) (se_int) (fun _ _ => rfl)) (sa_nil))) (aCons_len (aCons_len aNil_len))) (sa_nil)))))) (aCons_len (aCons_len (aCons_len (aCons_len (aCons_len aNil_len)))))))) (sb_one (ss_ret (se_bl))) (sb_nil))))
  (sb_one (ss_ret (se_bl)))))))⟩)
theorem sc__law_well : FnScope ["_law_script", "_law_place", "_law_cell_here", "_law_one"] ["_law_script", "_law_place"] (defScope s__law_well) := ⟨rfl, rfl, rfl, by decide +kernel, rfl, by decide +kernel, by decide +kernel⟩
theorem ok__law_well (T : Tx K mg) : Df P w K mg base "_law_well" 1 ["_law_script", "_law_place"] f__law_well := df_mk T.g__law_well T.d__law_well sc__law_well (fun _ _ _ _ _ _ us hl => match us, hl with | [_, _], _ => rfl) (fun f cdv A outer s H E hr tk hp => ⟨_, by
  exact (sb_cons (ss_asg (i := 2) sc__law_well.nd rfl (by first | exact .inl rfl | exact .inr rfl) (se_int))
  (sb_cons (ss_for hp (by rfl) (si_seqK K (se_sliceK K (se_var (pv 0)) (so_some (se_var (pv 1))) (so_some (se_op (so_addK K) (se_var (pv 1)) (se_int))))) (sg_name (i := 3) sc__law_well.nd rfl (by first | exact .inl rfl | exact .inr rfl)) (sb_one (ss_asg (i := 2) sc__law_well.nd rfl (by first | exact .inl rfl | exact .inr rfl) (se_var (pv 3)))))
  (sb_cons (ss_if (SW.st (sw_or (st_cmp so_lt (se_var (pv 2)) (se_int) (nomark _)) (sw_or1 (st_cmp so_ge (se_var (pv 2)) (se_op so_powI (se_int) (se_int)) (nomark _))))) (sb_one (ss_ret (se_lst (sa_cons (se_int) (sa_cons (se_callB sc_abs (by rfl) T.m_abs (by decide +kernel) (sa_cons (se_var (pv 2)) (sa_nil))) (sa_nil)))))) (sb_nil))
  (sb_one (ss_ret (se_lst (sa_cons (se_int) (sa_cons (se_op (so_addK K) (se_op so_modI (se_op (so_addK K) (se_op so_modI (se_var (pv 2)) (se_int)) (se_op so_mul (se_int) (se_var (pv 1)))) (se_int)) (se_int)) (sa_nil)))))))))⟩)
theorem sc_law : FnScope ["_law_script", "_law_k"] ["_law_script"] (defScope s_law) := ⟨rfl, rfl, rfl, by decide +kernel, rfl, by decide +kernel, by decide +kernel⟩
theorem ok_law (T : Tx K mg) : Df P w K mg base "law" 7 ["_law_script"] f_law := df_mk T.g_law T.d_law sc_law (fun _ _ _ _ _ _ us hl => match us, hl with | [_], _ => rfl) (fun f cdv A outer s H E hr tk hp => ⟨_, by
  exact (sb_one (ss_ret (se_callB (sc_allK K rfl) (by rfl) T.m_all (by decide +kernel) (sa_cons (se_lc (own := [("_law_k", 1)]) (by rfl) sc_law.nd (si_r1 (by rfl) T.m_range (sa_cons (se_callB (sc_max rfl) (by rfl) T.m_max (by decide +kernel) (sa_cons (se_int) (sa_cons (se_callB (sc_min rfl) (by rfl) T.m_min (by decide +kernel) (sa_cons (se_callB (sc_lenK K) (by rfl) T.m_len (by decide +kernel) (sa_cons (se_var (pv 0)) (sa_nil))) (sa_cons (se_int) (sa_nil)))) (sa_nil)))) (sa_nil))) (blkOk_by (own := [("_law_k", 1)]) (N := ["_law_script", "_law_k"]) (sc := (defScope s_law)) (by decide +kernel)) (fun _ _ _ _ _ => sg_name (i := 1) sc_law.nd rfl (by first | exact .inl rfl | exact .inr rfl)) (gin_name (by decide)) mono_name (fun _ _ _ _ _ => sts_nil) (fun _ _ _ _ _ => se_callDK (ok__law_right T) hr takes0 (sa_cons (se_callDK (ok__law_well T) hr takes0 (sa_cons (se_var (pv 0)) (sa_cons (se_var (pv 1)) (sa_nil))) (aCons_len (aCons_len aNil_len))) (sa_nil)) (aCons_len aNil_len))) (sa_nil)))))⟩)
end
def fn : List He.DefD := [⟨("_law_draw", none), "_law_draw", "_law_draw", defArgs s__law_draw, defBody s__law_draw, defScope s__law_draw, [], []⟩, ⟨("_law_names", none), "_law_names", "_law_names", defArgs s__law_names, defBody s__law_names, defScope s__law_names, [], []⟩, ⟨("_law_cells", none), "_law_cells", "_law_cells", defArgs s__law_cells, defBody s__law_cells, defScope s__law_cells, [], []⟩, ⟨("_law_table", none), "_law_table", "_law_table", defArgs s__law_table, defBody s__law_table, defScope s__law_table, [], []⟩, ⟨("_law_even", none), "_law_even", "_law_even", defArgs s__law_even, defBody s__law_even, defScope s__law_even, [], []⟩, ⟨("_law_drawn", none), "_law_drawn", "_law_drawn", defArgs s__law_drawn, defBody s__law_drawn, defScope s__law_drawn, [], []⟩, ⟨("_law_lines", none), "_law_lines", "_law_lines", defArgs s__law_lines, defBody s__law_lines, defScope s__law_lines, [], []⟩, ⟨("numbered", none), "numbered", "numbered", defArgs s_numbered, defBody s_numbered, defScope s_numbered, [], []⟩, ⟨("all_steps", none), "all_steps", "all_steps", defArgs s_all_steps, defBody s_all_steps, defScope s_all_steps, [], []⟩, ⟨("cell_at", none), "cell_at", "cell_at", defArgs s_cell_at, defBody s_cell_at, defScope s_cell_at, [], []⟩, ⟨("cells_of", none), "cells_of", "cells_of", defArgs s_cells_of, defBody s_cells_of, defScope s_cells_of, [], []⟩, ⟨("led_on", none), "led_on", "led_on", defArgs s_led_on, defBody s_led_on, defScope s_led_on, [], []⟩, ⟨("images_of", none), "images_of", "images_of", defArgs s_images_of, defBody s_images_of, defScope s_images_of, [], []⟩, ⟨("alike", none), "alike", "alike", defArgs s_alike, defBody s_alike, defScope s_alike, [], []⟩, ⟨("parting", none), "parting", "parting", defArgs s_parting, defBody s_parting, defScope s_parting, [], []⟩, ⟨("_law_home", none), "_law_home", "_law_home", defArgs s__law_home, defBody s__law_home, defScope s__law_home, [], []⟩, ⟨("_law_cell", none), "_law_cell", "_law_cell", defArgs s__law_cell, defBody s__law_cell, defScope s__law_cell, [], []⟩, ⟨("_law_grades", none), "_law_grades", "_law_grades", defArgs s__law_grades, defBody s__law_grades, defScope s__law_grades, [], []⟩, ⟨("_law_pair_right", none), "_law_pair_right", "_law_pair_right", defArgs s__law_pair_right, defBody s__law_pair_right, defScope s__law_pair_right, [], []⟩, ⟨("_law_right", none), "_law_right", "_law_right", defArgs s__law_right, defBody s__law_right, defScope s__law_right, [], []⟩, ⟨("_law_well", none), "_law_well", "_law_well", defArgs s__law_well, defBody s__law_well, defScope s__law_well, [], []⟩, ⟨("law", none), "law", "law", defArgs s_law, defBody s_law, defScope s_law, [], []⟩]
def fa : List He.Fa := [.glo "_law_draw", .glo "_law_names", .glo "_law_cells", .glo "_law_table", .glo "_law_even", .glo "_law_drawn", .glo "_law_lines", .glo "numbered", .glo "all_steps", .glo "cell_at", .glo "cells_of", .glo "led_on", .glo "images_of", .glo "alike", .glo "parting", .glo "_law_home", .glo "_law_cell", .glo "_law_grades", .glo "_law_pair_right", .glo "_law_right", .glo "_law_well", .glo "law", .free "abs", .free "all", .free "dict", .free "divmod", .free "int", .free "isinstance", .free "len", .free "list", .free "max", .free "min", .free "range", .free "str", .free "tuple"]
def exB (K : PySem.W.Frag) : List Bool := []
abbrev R : PySem.W.OpenRow := PySem.W.OpenLaw.row PySem.Challenge.rw_truthgrades_k34_whole_sayings_part_grade
def exA (K : PySem.W.Frag) : Bool := (exB K).all id
abbrev hk : PySem.W.Hook := He.hookX 6 fa fn [] [] exA
def ob (s : PySem.W.SharedT) : He.AlX := He.obsX 6 fa fn [] [] exA (HandSHeadRun.getT s)
theorem ob_eq (s : PySem.W.SharedT) : ob s = hk.obs s.abs := He.obsX_eq (HandSHeadRun.getT_eq s)
def loose : List Str := (["cells_of", "cell_at", "all_steps", "led_on", "images_of", "numbered", "alike", "parting", "_law_well", "_law_draw", "_law_names", "_law_cells", "_law_table", "_law_even", "_law_cell", "_law_lines", "_law_grades", "_law_drawn", "_law_home", "_law_pair_right", "_law_right"] : List Str)
theorem run (w : World) : HandSHeadRun.RunEq R (PySem.W.view R.prog [24]) hk ob 6000 loose w := by
  intro os
  kernel_rfl
theorem txt {K : PySem.W.Frag} {h : Heap} {mg : Str → Option Value} (X : K.In h) (G : h.Ns mainGlobals mg) (c : He.SaysD fa fn K) (e : exA K = true) : Tx K mg := by
  have eb : ∀ b ∈ exB K, b = true := fun b hb => List.all_eq_true.mp e b hb
  exact {
    m_abs := He.free_ok X G (c.fact 22 (f := .free "abs") rfl)
    m_all := He.free_ok X G (c.fact 23 (f := .free "all") rfl)
    m_dict := He.free_ok X G (c.fact 24 (f := .free "dict") rfl)
    m_divmod := He.free_ok X G (c.fact 25 (f := .free "divmod") rfl)
    m_int := He.free_ok X G (c.fact 26 (f := .free "int") rfl)
    m_isinstance := He.free_ok X G (c.fact 27 (f := .free "isinstance") rfl)
    m_len := He.free_ok X G (c.fact 28 (f := .free "len") rfl)
    m_list := He.free_ok X G (c.fact 29 (f := .free "list") rfl)
    m_max := He.free_ok X G (c.fact 30 (f := .free "max") rfl)
    m_min := He.free_ok X G (c.fact 31 (f := .free "min") rfl)
    m_range := He.free_ok X G (c.fact 32 (f := .free "range") rfl)
    m_str := He.free_ok X G (c.fact 33 (f := .free "str") rfl)
    m_tuple := He.free_ok X G (c.fact 34 (f := .free "tuple") rfl)
    g__law_draw := He.glo_ok X G (c.fact 0 (f := .glo "_law_draw") rfl)
    d__law_draw := c.def_ 0 (d := ⟨("_law_draw", none), "_law_draw", "_law_draw", defArgs s__law_draw, defBody s__law_draw, defScope s__law_draw, [], []⟩) rfl
    g__law_names := He.glo_ok X G (c.fact 1 (f := .glo "_law_names") rfl)
    d__law_names := c.def_ 1 (d := ⟨("_law_names", none), "_law_names", "_law_names", defArgs s__law_names, defBody s__law_names, defScope s__law_names, [], []⟩) rfl
    g__law_cells := He.glo_ok X G (c.fact 2 (f := .glo "_law_cells") rfl)
    d__law_cells := c.def_ 2 (d := ⟨("_law_cells", none), "_law_cells", "_law_cells", defArgs s__law_cells, defBody s__law_cells, defScope s__law_cells, [], []⟩) rfl
    g__law_table := He.glo_ok X G (c.fact 3 (f := .glo "_law_table") rfl)
    d__law_table := c.def_ 3 (d := ⟨("_law_table", none), "_law_table", "_law_table", defArgs s__law_table, defBody s__law_table, defScope s__law_table, [], []⟩) rfl
    g__law_even := He.glo_ok X G (c.fact 4 (f := .glo "_law_even") rfl)
    d__law_even := c.def_ 4 (d := ⟨("_law_even", none), "_law_even", "_law_even", defArgs s__law_even, defBody s__law_even, defScope s__law_even, [], []⟩) rfl
    g__law_drawn := He.glo_ok X G (c.fact 5 (f := .glo "_law_drawn") rfl)
    d__law_drawn := c.def_ 5 (d := ⟨("_law_drawn", none), "_law_drawn", "_law_drawn", defArgs s__law_drawn, defBody s__law_drawn, defScope s__law_drawn, [], []⟩) rfl
    g__law_lines := He.glo_ok X G (c.fact 6 (f := .glo "_law_lines") rfl)
    d__law_lines := c.def_ 6 (d := ⟨("_law_lines", none), "_law_lines", "_law_lines", defArgs s__law_lines, defBody s__law_lines, defScope s__law_lines, [], []⟩) rfl
    g_numbered := He.glo_ok X G (c.fact 7 (f := .glo "numbered") rfl)
    d_numbered := c.def_ 7 (d := ⟨("numbered", none), "numbered", "numbered", defArgs s_numbered, defBody s_numbered, defScope s_numbered, [], []⟩) rfl
    g_all_steps := He.glo_ok X G (c.fact 8 (f := .glo "all_steps") rfl)
    d_all_steps := c.def_ 8 (d := ⟨("all_steps", none), "all_steps", "all_steps", defArgs s_all_steps, defBody s_all_steps, defScope s_all_steps, [], []⟩) rfl
    g_cell_at := He.glo_ok X G (c.fact 9 (f := .glo "cell_at") rfl)
    d_cell_at := c.def_ 9 (d := ⟨("cell_at", none), "cell_at", "cell_at", defArgs s_cell_at, defBody s_cell_at, defScope s_cell_at, [], []⟩) rfl
    g_cells_of := He.glo_ok X G (c.fact 10 (f := .glo "cells_of") rfl)
    d_cells_of := c.def_ 10 (d := ⟨("cells_of", none), "cells_of", "cells_of", defArgs s_cells_of, defBody s_cells_of, defScope s_cells_of, [], []⟩) rfl
    g_led_on := He.glo_ok X G (c.fact 11 (f := .glo "led_on") rfl)
    d_led_on := c.def_ 11 (d := ⟨("led_on", none), "led_on", "led_on", defArgs s_led_on, defBody s_led_on, defScope s_led_on, [], []⟩) rfl
    g_images_of := He.glo_ok X G (c.fact 12 (f := .glo "images_of") rfl)
    d_images_of := c.def_ 12 (d := ⟨("images_of", none), "images_of", "images_of", defArgs s_images_of, defBody s_images_of, defScope s_images_of, [], []⟩) rfl
    g_alike := He.glo_ok X G (c.fact 13 (f := .glo "alike") rfl)
    d_alike := c.def_ 13 (d := ⟨("alike", none), "alike", "alike", defArgs s_alike, defBody s_alike, defScope s_alike, [], []⟩) rfl
    g_parting := He.glo_ok X G (c.fact 14 (f := .glo "parting") rfl)
    d_parting := c.def_ 14 (d := ⟨("parting", none), "parting", "parting", defArgs s_parting, defBody s_parting, defScope s_parting, [], []⟩) rfl
    g__law_home := He.glo_ok X G (c.fact 15 (f := .glo "_law_home") rfl)
    d__law_home := c.def_ 15 (d := ⟨("_law_home", none), "_law_home", "_law_home", defArgs s__law_home, defBody s__law_home, defScope s__law_home, [], []⟩) rfl
    g__law_cell := He.glo_ok X G (c.fact 16 (f := .glo "_law_cell") rfl)
    d__law_cell := c.def_ 16 (d := ⟨("_law_cell", none), "_law_cell", "_law_cell", defArgs s__law_cell, defBody s__law_cell, defScope s__law_cell, [], []⟩) rfl
    g__law_grades := He.glo_ok X G (c.fact 17 (f := .glo "_law_grades") rfl)
    d__law_grades := c.def_ 17 (d := ⟨("_law_grades", none), "_law_grades", "_law_grades", defArgs s__law_grades, defBody s__law_grades, defScope s__law_grades, [], []⟩) rfl
    g__law_pair_right := He.glo_ok X G (c.fact 18 (f := .glo "_law_pair_right") rfl)
    d__law_pair_right := c.def_ 18 (d := ⟨("_law_pair_right", none), "_law_pair_right", "_law_pair_right", defArgs s__law_pair_right, defBody s__law_pair_right, defScope s__law_pair_right, [], []⟩) rfl
    g__law_right := He.glo_ok X G (c.fact 19 (f := .glo "_law_right") rfl)
    d__law_right := c.def_ 19 (d := ⟨("_law_right", none), "_law_right", "_law_right", defArgs s__law_right, defBody s__law_right, defScope s__law_right, [], []⟩) rfl
    g__law_well := He.glo_ok X G (c.fact 20 (f := .glo "_law_well") rfl)
    d__law_well := c.def_ 20 (d := ⟨("_law_well", none), "_law_well", "_law_well", defArgs s__law_well, defBody s__law_well, defScope s__law_well, [], []⟩) rfl
    g_law := He.glo_ok X G (c.fact 21 (f := .glo "law") rfl)
    d_law := c.def_ 21 (d := ⟨("law", none), "law", "law", defArgs s_law, defBody s_law, defScope s_law, [], []⟩) rfl
  }
end L2.Sh.Q

open PySem PySem.W PySem.Calls PyProof.Rows
set_option maxRecDepth 100000 in
set_option maxHeartbeats 0 in
theorem PySem.Challenge.cw_truthgrades_k34_whole_sayings_part_grade_holds : PySem.Challenge.rw_truthgrades_k34_whole_sayings_part_grade.Holds := by
  w_on; o_law
  refine HandSHeadRun.head_any (r := OpenLaw.row PySem.Challenge.rw_truthgrades_k34_whole_sayings_part_grade) (q := view (OpenLaw.row PySem.Challenge.rw_truthgrades_k34_whole_sayings_part_grade).prog [24]) (H := L2.Sh.Q.hk) (ob := L2.Sh.Q.ob) (M := 6000) (loose := L2.Sh.Q.loose) (d := HandSHeadRun.topDef (OpenLaw.row PySem.Challenge.rw_truthgrades_k34_whole_sayings_part_grade).prog 24) (kwd := []) L2.Sh.Q.ob_eq
    (by kernel_rfl) (fun s => by kernel_rfl) L2.Sh.Q.run (by kernel_rfl) (by kernel_rfl) (by kernel_rfl) (by rfl) (by first | assumption | decide +kernel) (by decide +kernel) ⟨rfl, rfl, rfl, rfl, rfl, by decide +kernel⟩ ?hw ?hc
  case hw => w_witness2
  case hc =>
    refine L2.Sh.walk_ofEB (l := PySem.Challenge.rw_truthgrades_k34_whole_sayings_part_grade) (n := 63) (k := 7) (x := "_law_script") rfl (by decide) (by kernel_rfl) ⟨rfl, by decide, by decide⟩ ?F
    intro w mg fa h Y G hmg0
    obtain ⟨K, KX, c⟩ := Y
    have hmg : mg ("law" : PySem.Str) = some (.ref fa) := by
      have e : (HandSHeadRun.topDef (OpenLaw.row PySem.Challenge.rw_truthgrades_k34_whole_sayings_part_grade).prog 24).name = ("law" : PySem.Str) := by kernel_rfl
      rw [← e]
      exact hmg0
    have T := L2.Sh.Q.txt KX G c.t.d c.more
    obtain ⟨fd, FD⟩ := T.d_law
    have eA := hmg.symm.trans T.g_law
    cases eA
    have b := L2.FunD.bindsA (ps := ["_law_script"]) FD fun _ _ _ _ _ _ us hl => match us, hl with | [_], _ => rfl
    refine ⟨K, fd, L2.Sh.spLaw K, KX, fun s u => b s [u] rfl, fun H a ns hl hb ho hs => ⟨a, ns, rfl, L2.Sh.stl_of ho hs, hl, hb, fun _ => .inr trivial, fun _ => rfl⟩, fun base _ _ => ?_⟩
    obtain ⟨oc, od, dV, kV, doc, pm, an, cdv, ct, osl, e1, lk, _⟩ := FD.ex
    exact L2.Sh.law_fin ((L2.Sh.Q.ok_law (P := (PySem.Challenge.rw_truthgrades_k34_whole_sayings_part_grade).prog) (w := w) (base := base) T).lk _ hmg fd ⟨oc, od, osl, lk⟩) L2.Sh.Q.pure_law

