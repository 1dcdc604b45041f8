import PyProof.Rows.All
import Wide.All
import OpenK.AllK
import Wide.FinOn
import HandS.ForMost
import HandS.ForExc
import KE.KDictKeyed
import KE.KeyNested
import KE.SortKeyHeap
import HandS.Text
import HandS.List
import HandS.TupAny
import HandS.Deep
import HandS.Flow
import HandS.Conv
import HandS.Style
import HandS.TupLen
import HandS.IsInst
import HandS.ExcOwn
import HandS.SortKw
import HandS.RaiseMore
import HandS.Strs
import HandS.Comp
import HandS.Iter
import HandS.SetBool
import HandS.SetKeys
import HandS.DictComp
import HandS.Words
import HandS.Nested
import HandS.ClsMeth
import KE.KSuper
import HandS.HeadHook4
import HandS.Head2
import HandS.HeadEnd
import HandS.ExcInit
import KE.KExcSuper
import HandS.CallSlots
import HandS.ExcField
import PySem.Challenge.RW_badvalues_k57_refused_parts
import Wide.Once
set_option Elab.async false
set_option Elab.async false
set_option linter.all false
set_option maxRecDepth 100000
set_option maxHeartbeats 4000000
/-! values as trees, owned containers, and how they stand in the abstract heap -/
namespace Dv
open PySem PySem.Spec PyProof.Rows L2

inductive D where
  | non
  | bl (b : Bool)
  | int (i : Int)
  | str (x : Str)
  | tup (ds : List D)
  | lst (ds : List D)
  | dct (ks vs : List D)
  | obj (c : Str) (ns : List Str) (vs : List D)
deriving Inhabited

/-- what a slot or a temporary holds: a frozen tree, or a container that nobody else holds -/
inductive SV where
  | un
  | v (d : D)
  | ol (ds : List D)
  | od (ks vs : List D)
  | oi (c : Str) (ns : List Str) (vs : List D)
deriving Inhabited

def SV.d : SV → D
  | .un => .non
  | .v d => d
  | .ol ds => .lst ds
  | .od ks vs => .dct ks vs
  | .oi c ns vs => .obj c ns vs

mutual
def keyOf : D → Option NestedKey
  | .non => some .none
  | .bl b => some (.num (if b = true then 1 else 0))
  | .int i => some (.num i)
  | .str x => some (.text x)
  | .tup ds => (keysOf ds).map .tup
  | .lst _ => none
  | .dct _ _ => none
  | .obj _ _ _ => none
def keysOf : List D → Option (List NestedKey)
  | [] => some []
  | d :: ds => match keyOf d, keysOf ds with
    | some k, some ks => some (k :: ks)
    | _, _ => none
end

/-- the world of a representation -/
structure RC where
  P : Program
  w : World
  K : PySem.W.Frag
  mg : Str → Option Value
abbrev rc (X : Cx) : RC := ⟨X.prog, X.w, X.K, X.mg⟩

/-- a dict with nested tuples as keys, by its own object alone -/
def DTab (R : RC) (a : Addr) (es : List (NestedKey × Addr × V)) : HO := .ext fun h =>
  es.length ≤ sizeLine ∧ (a == sysModules) = false ∧ ∃ xs : List (NestedKey × Addr × Value),
    Paired (fun (p : NestedKey × Addr × V) (q : NestedKey × Addr × Value) => p.1 = q.1 ∧ p.2.1 = q.2.1 ∧ RelV p.2.2 q.2.2) es xs ∧
    (∀ x ∈ xs, x.1.depth ≤ 8) ∧ ∃ o en ep, h.get? a = some o ∧ o.ExactDict ∧ o.data = .dict en ep ∧ en.toList = xs.map (entryOfKey (nestedKind R.P R.w)) ∧ (xs.map (·.1)).Nodup

/-- a dict of the written part, its keys texts -/
def WrDict (R : RC) (a : Addr) (kvs : List (Str × V)) : Prop :=
  (a == sysModules) = false ∧ kvs.length ≤ sizeLine ∧ (kvs.map (·.1)).Nodup ∧ ∃ (es : Array DictEntry) (n : Nat), R.K.lookup a = some ⟨.type "dict", none, .dict es n, #[]⟩ ∧ PySem.W.KeysLit R.w.params es.toList ∧
    Paired (fun (p : Str × V) (e : DictEntry) => (∃ t, e.key = .str p.1 t) ∧ RelV p.2 e.val) kvs es.toList

/-- a tuple that says that it has no dict of its own -/
def SqF (K : PySem.W.Frag) (H : Hp) (a : Addr) (xs : List V) : Prop :=
  (∃ o : Obj, o.dict = none ∧ H a = some (.frz o (.tup xs))) ∨
    ∃ (o : Obj) (its : Array Value) (n : Nat), K.lookup a = some o ∧ o.cls = .type "tuple" ∧ o.dict = none ∧ o.data = .seq its n ∧ its.size ≤ sizeLine ∧ Vals xs its.toList
theorem SqF.sqT {K : PySem.W.Frag} {H : Hp} {a : Addr} {xs : List V} (h : SqF K H a xs) : SqT K H a xs := by
  rcases h with ⟨o, _, h⟩ | ⟨o, its, n, h1, h2, h3, h4, h5, h6⟩
  · exact .inl (.inr ⟨o, h⟩)
  · exact .inr ⟨o, its, n, h1, h2, h4, h5, h6⟩
def kD : Key → D
  | .inl i => .int i
  | .inr x => .str x

mutual
inductive Rep (R : RC) (V₀ : Hp) : V → D → Prop
  | non : Rep R V₀ .non .non
  | bl (b) : Rep R V₀ (.bl b) (.bl b)
  | int (i) : Rep R V₀ (.int i) (.int i)
  | str (x) : Rep R V₀ (.str x) (.str x)
  | tup {a vs ds} : SqF R.K V₀ a vs → Reps R V₀ vs ds → Rep R V₀ (.ref a) (.tup ds)
  | lst {a vs ds} : Rd V₀ a (.lst vs) → Reps R V₀ vs ds → Rep R V₀ (.ref a) (.lst ds)
  | dK {a} {kvs : List (Key × V)} {ds} : Rd V₀ a (.dK kvs) → Reps R V₀ (kvs.map (·.2)) ds → Rep R V₀ (.ref a) (.dct (kvs.map fun p => kD p.1) ds)
  | dT {a} {es : List (NestedKey × Addr × V)} {ks ds} : Rd V₀ a (DTab R a es) → Reps R V₀ (es.map fun e => .ref e.2.1) ks → keysOf ks = some (es.map (·.1)) →
      Reps R V₀ (es.map (·.2.2)) ds → Rep R V₀ (.ref a) (.dct ks ds)
  | dW {a} {kvs : List (Str × V)} {ds} : WrDict R a kvs → Reps R V₀ (kvs.map (·.2)) ds → Rep R V₀ (.ref a) (.dct (kvs.map fun p => .str p.1) ds)
  | obj {a c C dx} {fs : List (Str × V)} {ds} : R.mg c = some (.ref C) → V₀ a = some (.ins C dx fs) → Reps R V₀ (fs.map (·.2)) ds → Rep R V₀ (.ref a) (.obj c (fs.map (·.1)) ds)
inductive Reps (R : RC) (V₀ : Hp) : List V → List D → Prop
  | nil : Reps R V₀ [] []
  | cons {v d vs ds} : Rep R V₀ v d → Reps R V₀ vs ds → Reps R V₀ (v :: vs) (d :: ds)
end

/-- what can be read there can be read here (an instance: as it stands) -/
structure Sub (V₀ V₁ : Hp) : Prop where
  rd : ∀ b u, Rd V₀ b u → Rd V₁ b u
  ins : ∀ b C dx fs, V₀ b = some (.ins C dx fs) → V₁ b = some (.ins C dx fs)
  tp : ∀ b o xs, V₀ b = some (.frz o (.tup xs)) → V₁ b = some (.frz o (.tup xs))
theorem Sub.refl (V₀ : Hp) : Sub V₀ V₀ := ⟨fun _ _ h => h, fun _ _ _ _ h => h, fun _ _ _ h => h⟩
theorem Sub.trans {V₀ V₁ V₂ : Hp} (a : Sub V₀ V₁) (b : Sub V₁ V₂) : Sub V₀ V₂ := ⟨fun c o h => b.rd c o (a.rd c o h), fun c C dx fs h => b.ins c C dx fs (a.ins c C dx fs h), fun c o xs h => b.tp c o xs (a.tp c o xs h)⟩
theorem Sub.of {V₀ V₁ : Hp} (h : ∀ b o, V₀ b = some o → V₁ b = some o) : Sub V₀ V₁ := ⟨fun b u r => by
  rcases r with r | ⟨o, r⟩
  · exact .inl (h _ _ r)
  · exact .inr ⟨o, h _ _ r⟩, fun b C dx fs r => h _ _ r, fun b o xs r => h _ _ r⟩
theorem Sub.sqL {K : PySem.W.Frag} {V₀ V₁ : Hp} {a : Addr} {xs : List V} (s : Sub V₀ V₁) (h : SqL K V₀ a xs) : SqL K V₁ a xs := h.imp (s.rd _ _) id
theorem Sub.sqF {K : PySem.W.Frag} {V₀ V₁ : Hp} {a : Addr} {xs : List V} (s : Sub V₀ V₁) (h : SqF K V₀ a xs) : SqF K V₁ a xs := h.imp (fun ⟨o, h1, h2⟩ => ⟨o, h1, s.tp _ _ _ h2⟩) id
theorem Sub.sqT {K : PySem.W.Frag} {V₀ V₁ : Hp} {a : Addr} {xs : List V} (s : Sub V₀ V₁) (h : SqF K V₀ a xs) : SqT K V₁ a xs := (s.sqF h).sqT

section
variable {R : RC} {V₀ V₁ : Hp}
mutual
theorem Rep.mono (s : Sub V₀ V₁) : ∀ {v : V} {d : D}, Rep R V₀ v d → Rep R V₁ v d
  | _, _, .non => .non
  | _, _, .bl b => .bl b
  | _, _, .int i => .int i
  | _, _, .str x => .str x
  | _, _, .tup h r => .tup (s.sqF h) (Reps.mono s r)
  | _, _, .lst h r => .lst (s.rd _ _ h) (Reps.mono s r)
  | _, _, .dK h r => .dK (s.rd _ _ h) (Reps.mono s r)
  | _, _, .dT h r1 k r2 => .dT (s.rd _ _ h) (Reps.mono s r1) k (Reps.mono s r2)
  | _, _, .dW h r => .dW h (Reps.mono s r)
  | _, _, .obj m h r => .obj m (s.ins _ _ _ _ h) (Reps.mono s r)
theorem Reps.mono (s : Sub V₀ V₁) : ∀ {vs : List V} {ds : List D}, Reps R V₀ vs ds → Reps R V₁ vs ds
  | _, _, .nil => .nil
  | _, _, .cons h r => .cons (Rep.mono s h) (Reps.mono s r)
end
theorem Reps.length : ∀ {vs : List V} {ds : List D}, Reps R V₀ vs ds → vs.length = ds.length
  | _, _, .nil => rfl
  | _, _, .cons _ r => congrArg (· + 1) (Reps.length r)
theorem Reps.get : ∀ {vs : List V} {ds : List D} {i : Nat} {d : D}, Reps R V₀ vs ds → ds[i]? = some d → ∃ v, vs[i]? = some v ∧ Rep R V₀ v d
  | _, _, _, _, .nil, h => by simp at h
  | _, _, 0, _, .cons h _, e => by simp at e; subst e; exact ⟨_, rfl, h⟩
  | _, _, i + 1, d, .cons _ r, e => by
    obtain ⟨v, h1, h2⟩ := Reps.get (i := i) (d := d) r (by simpa using e)
    exact ⟨v, by simpa using h1, h2⟩
theorem Reps.get' : ∀ {vs : List V} {ds : List D} {i : Nat} {v : V}, Reps R V₀ vs ds → vs[i]? = some v → ∃ d, ds[i]? = some d ∧ Rep R V₀ v d
  | _, _, _, _, .nil, h => by simp at h
  | _, _, 0, _, .cons h _, e => by simp at e; subst e; exact ⟨_, rfl, h⟩
  | _, _, i + 1, d, .cons _ r, e => by
    obtain ⟨v, h1, h2⟩ := Reps.get' (i := i) (v := d) r (by simpa using e)
    exact ⟨v, by simpa using h1, h2⟩
theorem Reps.append : ∀ {vs : List V} {ds : List D} {us : List V} {es : List D}, Reps R V₀ vs ds → Reps R V₀ us es → Reps R V₀ (vs ++ us) (ds ++ es)
  | _, _, _, _, .nil, s => s
  | _, _, _, _, .cons h r, s => .cons h (Reps.append r s)
theorem Reps.take : ∀ {vs : List V} {ds : List D} (n : Nat), Reps R V₀ vs ds → Reps R V₀ (vs.take n) (ds.take n)
  | _, _, 0, _ => .nil
  | _, _, _ + 1, .nil => .nil
  | _, _, n + 1, .cons h r => .cons h (Reps.take n r)
theorem Reps.drop : ∀ {vs : List V} {ds : List D} (n : Nat), Reps R V₀ vs ds → Reps R V₀ (vs.drop n) (ds.drop n)
  | _, _, 0, r => r
  | _, _, _ + 1, .nil => .nil
  | _, _, n + 1, .cons _ r => Reps.drop n r
theorem Reps.reverse {vs : List V} {ds : List D} (r : Reps R V₀ vs ds) : Reps R V₀ vs.reverse ds.reverse := by
  have : ∀ {vs : List V} {ds : List D}, Reps R V₀ vs ds → ∀ {us : List V} {es : List D}, Reps R V₀ us es → Reps R V₀ (vs.reverseAux us) (ds.reverseAux es) := by
    intro vs
    induction vs with
    | nil => intro ds r us es q; cases r; exact q
    | cons v vs ih => intro ds r us es q; cases r with | cons h r => exact ih r (.cons h q)
  exact this r .nil
theorem Reps.set : ∀ {vs : List V} {ds : List D} (i : Nat) {v : V} {d : D}, Reps R V₀ vs ds → Rep R V₀ v d → Reps R V₀ (vs.set i v) (ds.set i d)
  | _, _, _, _, _, .nil, _ => .nil
  | _, _, 0, _, _, .cons _ r, h => .cons h r
  | _, _, i + 1, _, _, .cons q r, h => .cons q (Reps.set i r h)
theorem Reps.one {v : V} {d : D} (h : Rep R V₀ v d) : Reps R V₀ [v] [d] := .cons h .nil
theorem Reps.cons_inv {vs : List V} {d : D} {ds : List D} (r : Reps R V₀ vs (d :: ds)) : ∃ v us, vs = v :: us ∧ Rep R V₀ v d ∧ Reps R V₀ us ds := by
  cases r with | cons h q => exact ⟨_, _, rfl, h, q⟩
theorem Reps.nil_inv {vs : List V} (r : Reps R V₀ vs []) : vs = [] := by cases r; rfl
end

/-! ### the visible heap -/
open Classical in
noncomputable def vis (Z : Addr → Prop) (L : List Addr) (H : Hp) : Hp := fun b => if Z b ∨ b ∈ L then none else H b
theorem vis_some {Z : Addr → Prop} {L : List Addr} {H : Hp} {b : Addr} {o : HO} (h : vis Z L H b = some o) : ¬ Z b ∧ b ∉ L ∧ H b = some o := by
  unfold vis at h
  split at h
  · cases h
  · rename_i n
    exact ⟨fun z => n (.inl z), fun z => n (.inr z), h⟩
theorem vis_of {Z : Addr → Prop} {L : List Addr} {H : Hp} {b : Addr} {o : HO} (h1 : ¬ Z b) (h2 : b ∉ L) (h3 : H b = some o) : vis Z L H b = some o := by
  unfold vis
  rw [if_neg (fun z => z.elim h1 h2)]
  exact h3
theorem vis_sub (Z : Addr → Prop) (L : List Addr) (H : Hp) : Sub (vis Z L H) H := .of fun _ _ h => (vis_some h).2.2

/-! ### entries -/
inductive Ent (R : RC) (V₀ H : Hp) : Option V → SV → List Addr → Prop
  | un (o) : Ent R V₀ H o .un []
  | v {x d} : Rep R V₀ x d → Ent R V₀ H (some x) (.v d) []
  | ol {a xs ds} : H a = some (.lst xs) → Reps R V₀ xs ds → Ent R V₀ H (some (.ref a)) (.ol ds) [a]
  | odK {a} {kvs : List (Key × V)} {ds} : H a = some (.dK kvs) → Reps R V₀ (kvs.map (·.2)) ds → Ent R V₀ H (some (.ref a)) (.od (kvs.map fun p => kD p.1) ds) [a]
  | odT {a} {es : List (NestedKey × Addr × V)} {ks ds} : es ≠ [] → H a = some (DTab R a es) → Reps R V₀ (es.map fun e => .ref e.2.1) ks → keysOf ks = some (es.map (·.1)) →
      Reps R V₀ (es.map (·.2.2)) ds → Ent R V₀ H (some (.ref a)) (.od ks ds) [a]
  | oi {a c C dx} {fs : List (Str × V)} {ds} : R.mg c = some (.ref C) → H a = some (.ins C dx fs) → Reps R V₀ (fs.map (·.2)) ds → Ent R V₀ H (some (.ref a)) (.oi c (fs.map (·.1)) ds) [a]
inductive Ents (R : RC) (V₀ H : Hp) : List (Option V) → List SV → List Addr → Prop
  | nil : Ents R V₀ H [] [] []
  | cons {o s as os ss bs} : Ent R V₀ H o s as → Ents R V₀ H os ss bs → Ents R V₀ H (o :: os) (s :: ss) (as ++ bs)

section
variable {R : RC} {V₀ V₁ H H' : Hp}
theorem Ent.mono {o : Option V} {s : SV} {as : List Addr} (e : Ent R V₀ H o s as) (hs : Sub V₀ V₁) (hh : ∀ a ∈ as, ∀ u, H a = some u → H' a = some u) : Ent R V₁ H' o s as := by
  cases e with
  | un o => exact .un o
  | v r => exact .v (r.mono hs)
  | ol h r => exact .ol (hh _ (List.mem_singleton.mpr rfl) _ h) (r.mono hs)
  | odK h r => exact .odK (hh _ (List.mem_singleton.mpr rfl) _ h) (r.mono hs)
  | odT hne h r k q => exact .odT hne (hh _ (List.mem_singleton.mpr rfl) _ h) (r.mono hs) k (q.mono hs)
  | oi m h r => exact .oi m (hh _ (List.mem_singleton.mpr rfl) _ h) (r.mono hs)
theorem Ents.mono : ∀ {os : List (Option V)} {ss : List SV} {as : List Addr}, Ents R V₀ H os ss as → Sub V₀ V₁ → (∀ a ∈ as, ∀ u, H a = some u → H' a = some u) → Ents R V₁ H' os ss as
  | _, _, _, .nil, _, _ => .nil
  | _, _, _, .cons e r, hs, hh => .cons (e.mono hs fun a h => hh a (List.mem_append_left _ h)) (r.mono hs fun a h => hh a (List.mem_append_right _ h))
/-- every owned address is tracked -/
theorem Ent.tracked {o : Option V} {s : SV} {as : List Addr} (e : Ent R V₀ H o s as) : ∀ a ∈ as, ∃ u, H a = some u := by
  cases e with
  | un o => exact fun _ h => nomatch h
  | v r => exact fun _ h => nomatch h
  | ol h r => intro a m; rw [List.mem_singleton.mp m]; exact ⟨_, h⟩
  | odK h r => intro a m; rw [List.mem_singleton.mp m]; exact ⟨_, h⟩
  | odT hne h r k q => intro a m; rw [List.mem_singleton.mp m]; exact ⟨_, h⟩
  | oi c h r => intro a m; rw [List.mem_singleton.mp m]; exact ⟨_, h⟩
theorem Ents.tracked : ∀ {os : List (Option V)} {ss : List SV} {as : List Addr}, Ents R V₀ H os ss as → ∀ a ∈ as, ∃ u, H a = some u
  | _, _, _, .nil, _, h => nomatch h
  | _, _, _, .cons e r, a, h => (List.mem_append.mp h).elim (e.tracked a) (r.tracked a)
theorem Ents.length : ∀ {os : List (Option V)} {ss : List SV} {as : List Addr}, Ents R V₀ H os ss as → os.length = ss.length
  | _, _, _, .nil => rfl
  | _, _, _, .cons _ r => congrArg (· + 1) r.length
/-- ownership is given up -/
theorem Ent.freeze {x : V} {s : SV} {as : List Addr} (e : Ent R V₀ H (some x) s as) (hu : s ≠ .un) (hs : Sub V₀ V₁) (hv : ∀ a ∈ as, ∀ u, H a = some u → V₁ a = some u) : Rep R V₁ x s.d := by
  cases e with
  | un o => exact absurd rfl hu
  | v r => exact r.mono hs
  | ol h r => exact .lst (.inl (hv _ (List.mem_singleton.mpr rfl) _ h)) (r.mono hs)
  | odK h r => exact .dK (.inl (hv _ (List.mem_singleton.mpr rfl) _ h)) (r.mono hs)
  | odT hne h r k q => exact .dT (.inl (hv _ (List.mem_singleton.mpr rfl) _ h)) (r.mono hs) k (q.mono hs)
  | oi m h r => exact .obj m (hv _ (List.mem_singleton.mpr rfl) _ h) (r.mono hs)
theorem Ents.at : ∀ {os : List (Option V)} {ss : List SV} {as : List Addr} {i : Nat} {s : SV}, Ents R V₀ H os ss as → ss[i]? = some s →
    ∃ o l m r, as = l ++ m ++ r ∧ os[i]? = some o ∧ Ent R V₀ H o s m ∧ ∀ {V₁ H' : Hp} {o' : Option V} {s' : SV} {m' : List Addr}, Sub V₀ V₁ → (∀ a ∈ l ++ r, ∀ u, H a = some u → H' a = some u) → Ent R V₁ H' o' s' m' → Ents R V₁ H' (os.set i o') (ss.set i s') (l ++ m' ++ r)
  | _, _, _, _, _, .nil, h => by simp at h
  | _, _, _, 0, _, .cons (bs := bs) (as := as) e r, h => by
    simp at h; subst h
    refine ⟨_, [], as, bs, by simp, rfl, e, fun hs hh e' => ?_⟩
    simpa using Ents.cons e' (r.mono hs fun a h => hh a (by simpa using h))
  | _, _, _, i + 1, s, .cons (as := as0) e r, h => by
    obtain ⟨o, l, m, q, e1, e2, e3, f⟩ := Ents.at (i := i) (s := s) r (by simpa using h)
    refine ⟨o, as0 ++ l, m, q, by rw [e1]; simp [List.append_assoc], by simpa using e2, e3, fun hs hh e' => ?_⟩
    have z := f hs (fun a h => hh a (by rcases List.mem_append.mp h with h | h; exact List.mem_append_left _ (List.mem_append_right _ h); exact List.mem_append_right _ h)) e'
    have y := Ents.cons (e.mono hs fun a h => hh a (List.mem_append_left _ (List.mem_append_left _ h))) z
    simpa [List.append_assoc] using y
end

/-! ### the relation of a state: H₀ the heap at the entry (all of it is kept), Z what may not be leant on -/
structure RlO (R : RC) (Z : Addr → Prop) (H₀ H : Hp) (L : List Addr) (os : List (Option V)) (ss : List SV) : Prop where
  ents : Ents R (vis Z L H) H os ss L
  nd : L.Nodup
  fresh : ∀ a ∈ L, H₀ a = none
  same : Same H₀ H
  zd : ∀ b, Z b → H₀ b ≠ none
def Rl (R : RC) (Z : Addr → Prop) (H₀ H : Hp) (os : List (Option V)) (ss : List SV) : Prop := ∃ L, RlO R Z H₀ H L os ss

theorem vis_congr {Z : Addr → Prop} {L L' : List Addr} {H : Hp} (h : ∀ b, b ∈ L ↔ b ∈ L') : vis Z L H = vis Z L' H := by
  funext b
  unfold vis
  by_cases hb : Z b ∨ b ∈ L
  · rw [if_pos hb, if_pos (hb.imp id (h b).mp)]
  · rw [if_neg hb, if_neg (fun z => hb (z.imp id (h b).mpr))]
/-- fewer hidden, a greater heap -/
theorem vis_mono {Z : Addr → Prop} {L L' : List Addr} {H H' : Hp} (h : ∀ b o, ¬ Z b → b ∉ L → H b = some o → b ∉ L' ∧ H' b = some o) : Sub (vis Z L H) (vis Z L' H') := .of fun b o e => by
  obtain ⟨h1, h2, h3⟩ := vis_some e
  obtain ⟨h4, h5⟩ := h b o h1 h2 h3
  exact vis_of h1 h4 h5

section
variable {R : RC} {V₀ H : Hp}
theorem Ents.split : ∀ {os : List (Option V)} {ss : List SV} {os' : List (Option V)} {ss' : List SV} {L : List Addr}, os.length = ss.length → Ents R V₀ H (os ++ os') (ss ++ ss') L →
    ∃ as bs, L = as ++ bs ∧ Ents R V₀ H os ss as ∧ Ents R V₀ H os' ss' bs
  | [], [], _, _, L, _, h => ⟨[], L, rfl, .nil, h⟩
  | [], _ :: _, _, _, _, e, _ => by simp at e
  | _ :: _, [], _, _, _, e, _ => by simp at e
  | o :: os, s :: ss, os', ss', L, e, h => by
    cases h with
    | cons h r =>
      obtain ⟨as', bs, e1, e2, e3⟩ := Ents.split (by simpa using e) r
      exact ⟨_ ++ as', bs, by rw [e1, List.append_assoc], .cons h e2, e3⟩
theorem Ents.app : ∀ {os : List (Option V)} {ss : List SV} {os' : List (Option V)} {ss' : List SV} {as bs : List Addr}, Ents R V₀ H os ss as → Ents R V₀ H os' ss' bs → Ents R V₀ H (os ++ os') (ss ++ ss') (as ++ bs)
  | _, _, _, _, _, _, .nil, h => h
  | _, _, _, _, _, _, .cons e r, h => by
    have := Ents.cons e (Ents.app r h)
    rw [← List.append_assoc] at this
    exact this
end

section
variable {R : RC} {Z : Addr → Prop} {H₀ H H' : Hp} {L : List Addr} {os os' : List (Option V)} {ss ss' : List SV} {x y : V} {s t : SV} {i : Nat}
theorem RlO.notZ (r : RlO R Z H₀ H L os ss) {a : Addr} (h : a ∈ L) : ¬ Z a := fun z => r.zd a z (r.fresh a h)
theorem RlO.owned (r : RlO R Z H₀ H L os ss) {a : Addr} (h : a ∈ L) : ∃ u, H a = some u := r.ents.tracked a h
theorem RlO.zdH (r : RlO R Z H₀ H L os ss) {b : Addr} (h : Z b) : H b ≠ none := by
  cases e : H₀ b with
  | none => exact absurd e (r.zd b h)
  | some u => rw [r.same b u e]; exact fun z => nomatch z
theorem RlO.of (ents : Ents R (vis Z L H) H os ss L) (r : RlO R Z H₀ H L os' ss') : RlO R Z H₀ H L os ss := ⟨ents, r.nd, r.fresh, r.same, r.zd⟩
/-- the entries in another order: what is owned is the same -/
theorem RlO.perm {L' : List Addr} (r : RlO R Z H₀ H L os ss) (p : L.Perm L') (e : Ents R (vis Z L H) H os' ss' L') : RlO R Z H₀ H L' os' ss' := by
  have q : vis Z L H = vis Z L' H := vis_congr fun b => p.mem_iff
  rw [q] at e
  exact ⟨e, p.nodup_iff.mp r.nd, fun a h => r.fresh a (p.mem_iff.mpr h), r.same, r.zd⟩
/-- the heap has grown -/
theorem RlO.grows (r : RlO R Z H₀ H L os ss) (h : Same H H') : RlO R Z H₀ H' L os ss :=
  ⟨r.ents.mono (vis_mono fun b o _ hb e => ⟨hb, h b o e⟩) fun a _ u e => h a u e, r.nd, r.fresh, r.same.trans h, r.zd⟩
/-- .. and a new thing is held -/
theorem RlO.grow {cs : List Addr} (r : RlO R Z H₀ H L os ss) (h : Same H H') (hn : ∀ c ∈ cs, H c = none) (nd : cs.Nodup) (e : Ent R (vis Z (cs ++ L) H') H' (some x) s cs) : RlO R Z H₀ H' (cs ++ L) (some x :: os) (s :: ss) where
  ents := .cons e (r.ents.mono (vis_mono fun b o _ hb e => ⟨fun m => by
      rcases List.mem_append.mp m with m | m
      · rw [hn b m] at e; cases e
      · exact hb m, h b o e⟩) fun a _ u e => h a u e)
  nd := List.nodup_append.mpr ⟨nd, r.nd, fun a ha b hb e => by
    subst e
    obtain ⟨u, q⟩ := r.owned hb
    rw [hn a ha] at q; cases q⟩
  fresh := fun a m => by
    rcases List.mem_append.mp m with m | m
    · exact r.same.free (hn a m)
    · exact r.fresh a m
  same := r.same.trans h
  zd := r.zd
theorem RlO.val (r : RlO R Z H₀ H L os ss) {d : D} (e : Rep R (vis Z L H) x d) : RlO R Z H₀ H L (some x :: os) (.v d :: ss) := .of (.cons (as := []) (.v e) r.ents) r
theorem Rl.any (r : Rl R Z H₀ H os ss) {d : D} (e : ∀ V₀, Rep R V₀ x d) : Rl R Z H₀ H (some x :: os) (.v d :: ss) := let ⟨L, r⟩ := r; ⟨L, r.val (e _)⟩
/-- a temporary is dropped -/
theorem RlO.drop {o : Option V} (r : RlO R Z H₀ H L (o :: os) (s :: ss)) : ∃ L', (∀ b ∈ L', b ∈ L) ∧ RlO R Z H₀ H L' os ss := by
  obtain ⟨e, nd, fr, sm, zd⟩ := r
  cases e with
  | @cons _ _ as _ _ bs e q =>
    exact ⟨bs, fun b h => List.mem_append_right _ h, q.mono (vis_mono fun b o _ hb e => ⟨fun m => hb (List.mem_append_right _ m), e⟩) fun _ _ _ h => h, (List.nodup_append.mp nd).2.1, fun a h => fr a (List.mem_append_right _ h), sm, zd⟩
theorem Rl.drop {o : Option V} (r : Rl R Z H₀ H (o :: os) (s :: ss)) : Rl R Z H₀ H os ss := let ⟨_, r⟩ := r; let ⟨L, _, r⟩ := r.drop; ⟨L, r⟩
theorem Rl.drops : ∀ {as : List (Option V)} {ts : List SV}, as.length = ts.length → Rl R Z H₀ H (as ++ os) (ts ++ ss) → Rl R Z H₀ H os ss
  | [], [], _, r => r
  | [], _ :: _, e, _ => by simp at e
  | _ :: _, [], e, _ => by simp at e
  | _ :: as, _ :: ts, e, r => Rl.drops (by simpa using e) (Rl.drop r)
/-- ownership is given up -/
theorem RlO.fz (r : RlO R Z H₀ H L os ss) (h : ss[i]? = some s) (hu : s ≠ .un) : ∃ x, os[i]? = some (some x) ∧ ∃ L', (∀ b ∈ L', b ∈ L) ∧ RlO R Z H₀ H L' os (ss.set i (.v s.d)) := by
  obtain ⟨o, l, m, q, e1, e2, e3, f⟩ := r.ents.at h
  have ho : ∃ x, o = some x := by cases e3 <;> first | exact absurd rfl hu | exact ⟨_, rfl⟩
  obtain ⟨x, rfl⟩ := ho
  refine ⟨x, e2, l ++ q, fun b hb => ?_, ?_, ?_, fun a ha => r.fresh a ?_, r.same, r.zd⟩
  · rw [e1]; rcases List.mem_append.mp hb with hb | hb
    · exact List.mem_append_left _ (List.mem_append_left _ hb)
    · exact List.mem_append_right _ hb
  · have sb : Sub (vis Z L H) (vis Z (l ++ q) H) := vis_mono fun b o _ hb e => ⟨fun z => hb (by
      rw [e1]; rcases List.mem_append.mp z with z | z
      · exact List.mem_append_left _ (List.mem_append_left _ z)
      · exact List.mem_append_right _ z), e⟩
    have rp : Rep R (vis Z (l ++ q) H) x s.d := e3.freeze hu sb fun a ha u e => vis_of (r.notZ (by rw [e1]; exact List.mem_append_left _ (List.mem_append_right _ ha))) (fun z => by
      have nd := r.nd
      rw [e1] at nd
      have n1 := List.nodup_append.mp nd
      rcases List.mem_append.mp z with z | z
      · exact (List.nodup_append.mp n1.1).2.2 a z a ha rfl
      · exact n1.2.2 a (List.mem_append_right _ ha) a z rfl) e
    have z := f (V₁ := vis Z (l ++ q) H) (H' := H) (o' := some x) (s' := .v s.d) (m' := []) sb (fun _ _ _ h => h) (.v rp)
    rw [List.append_nil] at z
    have so : os.set i (some x) = os := by
      obtain ⟨hi, e⟩ := List.getElem?_eq_some_iff.mp e2
      rw [← e]
      exact List.set_getElem_self hi
    rw [so] at z
    exact z
  · have nd := r.nd
    rw [e1] at nd
    exact nd.sublist ((List.sublist_append_left l m).append_right q)
  · rw [e1]; rcases List.mem_append.mp ha with ha | ha
    · exact List.mem_append_left _ (List.mem_append_left _ ha)
    · exact List.mem_append_right _ ha
theorem Rl.fz (r : Rl R Z H₀ H os ss) (h : ss[i]? = some s) (hu : s ≠ .un) : Rl R Z H₀ H os (ss.set i (.v s.d)) :=
  let ⟨_, r⟩ := r; let ⟨_, _, L, _, r⟩ := r.fz h hu; ⟨L, r⟩
theorem RlO.fz0 (r : RlO R Z H₀ H L (some x :: os) (s :: ss)) (hu : s ≠ .un) : ∃ L', (∀ b ∈ L', b ∈ L) ∧ RlO R Z H₀ H L' (some x :: os) (.v s.d :: ss) := by
  obtain ⟨_, _, L', h1, h2⟩ := r.fz (i := 0) rfl hu
  exact ⟨L', h1, h2⟩
/-- what a frozen entry holds -/
theorem RlO.rep (r : RlO R Z H₀ H L os ss) {d : D} (h : ss[i]? = some (.v d)) : ∃ x, os[i]? = some (some x) ∧ Rep R (vis Z L H) x d := by
  obtain ⟨o, l, m, q, e1, e2, e3, f⟩ := r.ents.at h
  cases e3 with
  | v e => exact ⟨_, e2, e⟩
theorem RlO.ent (r : RlO R Z H₀ H L os ss) (h : ss[i]? = some s) (hu : s ≠ .un) : ∃ x m, os[i]? = some (some x) ∧ (∀ b ∈ m, b ∈ L) ∧ Ent R (vis Z L H) H (some x) s m := by
  obtain ⟨o, l, m, q, e1, e2, e3, f⟩ := r.ents.at h
  have ho : ∃ x, o = some x := by cases e3 <;> first | exact absurd rfl hu | exact ⟨_, rfl⟩
  obtain ⟨x, rfl⟩ := ho
  exact ⟨x, m, e2, fun b hb => by rw [e1]; exact List.mem_append_left _ (List.mem_append_right _ hb), e3⟩
/-- a frozen entry is read: one more temporary -/
theorem Rl.dup (r : Rl R Z H₀ H os ss) {d : D} (h : ss[i]? = some (.v d)) : ∃ x, os[i]? = some (some x) ∧ Rl R Z H₀ H (some x :: os) (.v d :: ss) := by
  obtain ⟨L, r⟩ := r
  obtain ⟨x, h1, h2⟩ := r.rep h
  exact ⟨x, h1, L, r.val h2⟩
theorem Ents.rot {V₀ : Hp} {as bs os : List (Option V)} {ts us ss : List SV} (h1 : as.length = ts.length) (h2 : bs.length = us.length) (e : Ents R V₀ H (as ++ (bs ++ os)) (ts ++ (us ++ ss)) L) : ∃ L', L.Perm L' ∧ Ents R V₀ H (bs ++ (as ++ os)) (us ++ (ts ++ ss)) L' := by
  obtain ⟨a, q, rfl, e1, e2⟩ := e.split h1
  obtain ⟨b, c, rfl, e3, e4⟩ := e2.split h2
  refine ⟨b ++ (a ++ c), ?_, e3.app (e1.app e4)⟩
  rw [← List.append_assoc, ← List.append_assoc]
  exact List.perm_append_comm.append_right c
theorem Rl.rot {as bs os : List (Option V)} {ts us ss : List SV} (h1 : as.length = ts.length) (h2 : bs.length = us.length) (r : Rl R Z H₀ H (as ++ (bs ++ os)) (ts ++ (us ++ ss))) : Rl R Z H₀ H (bs ++ (as ++ os)) (us ++ (ts ++ ss)) := by
  obtain ⟨L, r⟩ := r
  obtain ⟨L', p, e⟩ := r.ents.rot h1 h2
  exact ⟨L', r.perm p e⟩
theorem Rl.swap {a b : Option V} (r : Rl R Z H₀ H (a :: b :: os) (s :: t :: ss)) : Rl R Z H₀ H (b :: a :: os) (t :: s :: ss) := Rl.rot (as := [a]) (bs := [b]) (ts := [s]) (us := [t]) rfl rfl r
/-- a slot is forgotten -/
theorem RlO.set {o' : Option V} {s' : SV} (r : RlO R Z H₀ H L (o' :: os) (s' :: ss)) (hi : i < ss.length) : ∃ L', RlO R Z H₀ H L' (os.set i o') (ss.set i s') := by
  obtain ⟨e, nd, fr, sm, zd⟩ := r
  cases e with
  | @cons _ _ as _ _ bs e q =>
    obtain ⟨o, l, m, r, e1, e2, e3, f⟩ := q.at (i := i) (s := ss[i]) (by rw [List.getElem?_eq_getElem hi])
    have mem : ∀ b, b ∈ l ++ as ++ r → b ∈ as ++ bs := fun b hb => by
      rw [e1]
      simp only [List.mem_append] at hb ⊢
      rcases hb with (hb | hb) | hb
      · exact .inr (.inl (.inl hb))
      · exact .inl hb
      · exact .inr (.inr hb)
    have sb : Sub (vis Z (as ++ bs) H) (vis Z (l ++ as ++ r) H) := vis_mono fun b o _ hb e => ⟨fun z => hb (mem b z), e⟩
    refine ⟨l ++ as ++ r, f sb (fun _ _ _ h => h) (e.mono sb fun _ _ _ h => h), ?_, fun a ha => fr a (mem a ha), sm, zd⟩
    rw [e1] at nd
    have p : (as ++ (l ++ m ++ r)).Perm (l ++ as ++ m ++ r) := by
      have q : (as ++ l).Perm (l ++ as) := List.perm_append_comm
      simpa only [List.append_assoc] using (q.append_right (m ++ r))
    have nd' := p.nodup_iff.mp nd
    exact nd'.sublist ((List.sublist_append_left (l ++ as) m).append_right r)
theorem Rl.set {o' : Option V} {s' : SV} (r : Rl R Z H₀ H (o' :: os) (s' :: ss)) (hi : i < ss.length) : Rl R Z H₀ H (os.set i o') (ss.set i s') :=
  let ⟨_, r⟩ := r; r.set hi
theorem Rl.wipe (r : Rl R Z H₀ H os ss) (o : Option V) (hi : i < ss.length) : Rl R Z H₀ H (os.set i o) (ss.set i .un) := by
  obtain ⟨L, r⟩ := r
  exact Rl.set ⟨L, .of (.cons (as := []) (.un o) r.ents) r⟩ hi
/-- all temporaries frozen -/
theorem RlO.fzAll : ∀ {vs : List V} {ts : List SV} {L : List Addr} {os : List (Option V)} {ss : List SV}, vs.length = ts.length → (∀ t ∈ ts, t ≠ .un) → RlO R Z H₀ H L (vs.map some ++ os) (ts ++ ss) →
    ∃ L', (∀ b ∈ L', b ∈ L) ∧ RlO R Z H₀ H L' os ss ∧ Reps R (vis Z L' H) vs (ts.map SV.d)
  | [], [], L, os, ss, _, _, r => ⟨L, fun _ h => h, r, .nil⟩
  | [], _ :: _, _, _, _, e, _, _ => by simp at e
  | _ :: _, [], _, _, _, e, _, _ => by simp at e
  | v :: vs, t :: ts, L, os, ss, e, hu, r => by
    obtain ⟨L1, h1, r1⟩ := RlO.fz0 r (hu t List.mem_cons_self)
    obtain ⟨x, hx, rp⟩ := r1.rep (i := 0) rfl
    cases (Option.some.inj (Option.some.inj hx) : v = x)
    obtain ⟨L2, h2, r2⟩ := r1.drop
    obtain ⟨L3, h3, r3, q⟩ := RlO.fzAll (by simpa using e) (fun t h => hu t (List.mem_cons_of_mem _ h)) r2
    refine ⟨L3, fun b h => h1 b (h2 b (h3 b h)), r3, .cons (rp.mono (vis_mono fun b o _ hb e => ⟨fun z => hb (h2 b (h3 b z)), e⟩)) q⟩
/-- a new list is held -/
theorem RlO.newL (r : RlO R Z H₀ H L os ss) {vs : List V} {ds : List D} (q : Reps R (vis Z L H) vs ds) {p : Addr} (hp : H p = none) : Rl R Z H₀ (upd H p (.lst vs)) (some (.ref p) :: os) (.ol ds :: ss) := by
  have sm : Same H (upd H p (.lst vs)) := fun b o e => by rw [upd_ne (ne_of_none e hp)]; exact e
  refine ⟨[p] ++ L, r.grow sm (fun c hc => by rw [List.mem_singleton.mp hc]; exact hp) (by simp) (.ol upd_same (q.mono (vis_mono fun b o _ hb e => ⟨fun m => ?_, sm b o e⟩)))⟩
  rcases List.mem_append.mp m with m | m
  · rw [List.mem_singleton.mp m, hp] at e; cases e
  · exact hb m
/-- a new frozen thing -/
theorem RlO.newT (r : RlO R Z H₀ H L os ss) {vs : List V} {ds : List D} {ob : Obj} (hob : ob.dict = none) (q : Reps R (vis Z L H) vs ds) {p : Addr} (hp : H p = none) : Rl R Z H₀ (upd H p (.frz ob (.tup vs))) (some (.ref p) :: os) (.v (.tup ds) :: ss) := by
  have sm : Same H (upd H p (.frz ob (.tup vs))) := fun b o e => by rw [upd_ne (ne_of_none e hp)]; exact e
  have r' := r.grows sm
  have sb : Sub (vis Z L H) (vis Z L (upd H p (.frz ob (.tup vs)))) := vis_mono fun b o _ hb e => ⟨hb, sm b o e⟩
  refine ⟨L, r'.val (.tup (.inl ⟨ob, hob, vis_of (fun z => r.zdH z hp) (fun m => ?_) upd_same⟩) (q.mono sb))⟩
  obtain ⟨u, e⟩ := r.owned m
  rw [hp] at e; cases e
end
end Dv

set_option Elab.async false
set_option linter.all false
set_option maxRecDepth 100000
set_option maxHeartbeats 4000000
/-! a small language of plain functions over trees: its meaning -/
namespace Dv
open PySem PySem.Spec PyProof.Rows L2

inductive Res (α : Type) where
  | ok (a : α)
  | exc (c : Str) (ns : List Str) (vs : List D)
  | fail
def Res.bind {α β : Type} (x : Res α) (f : α → Res β) : Res β := match x with
  | .ok a => f a
  | .exc c ns vs => .exc c ns vs
  | .fail => .fail
def Res.map {α β : Type} (g : α → β) (x : Res α) : Res β := match x with
  | .ok a => .ok (g a)
  | .exc c ns vs => .exc c ns vs
  | .fail => .fail
instance : Monad Res where
  pure := .ok
  bind := Res.bind
section
variable {α β γ : Type}
@[simp] theorem Res.ok_bind (a : α) (f : α → Res β) : (Res.ok a >>= f) = f a := rfl
@[simp] theorem Res.exc_bind (c : Str) (ns : List Str) (vs : List D) (f : α → Res β) : (Res.exc c ns vs >>= f) = .exc c ns vs := rfl
@[simp] theorem Res.fail_bind (f : α → Res β) : (Res.fail >>= f) = .fail := rfl
@[simp] theorem Res.pure_eq (a : α) : (pure a : Res α) = .ok a := rfl
@[simp] theorem Res.bind_eq (x : Res α) (f : α → Res β) : x.bind f = (x >>= f) := rfl
theorem Res.bind_ok {x : Res α} {f : α → Res β} {b : β} (h : (x >>= f) = .ok b) : ∃ a, x = .ok a ∧ f a = .ok b := by
  cases x with
  | ok a => exact ⟨a, rfl, h⟩
  | exc c ns vs => cases h
  | fail => cases h
theorem Res.bind_exc {x : Res α} {f : α → Res β} {c : Str} {ns : List Str} {vs : List D} (h : (x >>= f) = .exc c ns vs) : x = .exc c ns vs ∨ ∃ a, x = .ok a ∧ f a = .exc c ns vs := by
  cases x with
  | ok a => exact .inr ⟨a, rfl, h⟩
  | exc c ns vs => exact .inl (by rw [Res.exc_bind] at h; injection h with h1 h2 h3; rw [h1, h2, h3])
  | fail => cases h
end
def Res.ofOpt {α : Type} : Option α → Res α
  | some a => .ok a
  | none => .fail
@[simp] theorem Res.ofOpt_some {α : Type} (a : α) : Res.ofOpt (some a) = .ok a := rfl

abbrev AEnv := List SV

/-! ### data -/
mutual
def dat : D → Option PyData
  | .non => some .none
  | .bl b => some (.bool b)
  | .int i => some (.int i)
  | .str x => some (.str x)
  | .tup ds => (dats ds).map .tuple
  | .lst ds => (dats ds).map .list
  | .dct _ _ => none
  | .obj _ _ _ => none
def dats : List D → Option (List PyData)
  | [] => some []
  | d :: ds => match dat d, dats ds with
    | some k, some ks => some (k :: ks)
    | _, _ => none
end
/-- == of two data -/
def eqD (x y : D) : Res Bool := match dat x, dat y with
  | some p, some q => if (SeqAt.shaped p && SeqAt.shaped q) = true then .ok (PyData.eqv p q) else .fail
  | _, _ => .fail
/-- is it among them -/
def memD (x : D) (ds : List D) : Res Bool := match dat x, dats ds with
  | some p, some qs => if (SeqAt.shaped p && SeqAt.shaped (.list qs)) = true then .ok (qs.any fun z => PyData.eqv z p) else .fail
  | _, _ => .fail

/-- flat data -/
def flatD : D → Bool
  | .non => true
  | .bl _ => true
  | .int _ => true
  | .str _ => true
  | _ => false
def eqF : D → D → Bool
  | .non, .non => true
  | .bl a, .bl b => a == b
  | .bl a, .int b => (if a = true then 1 else 0) == b
  | .int a, .bl b => a == (if b = true then 1 else 0)
  | .int a, .int b => a == b
  | .str a, .str b => a == b
  | _, _ => false

/-! ### dicts -/
/-- the value at a key -/
def dctAt : List D → List D → NestedKey → Option D
  | k :: ks, v :: vs, x => if keyOf k = some x then some v else dctAt ks vs x
  | _, _, _ => none
/-- stored in its place, or at the end -/
def dctPut (ks vs : List D) (kd d : D) (x : NestedKey) : List D × List D :=
  if (ks.any fun k => decide (keyOf k = some x)) = true then (ks, List.zipWith (fun k v => if keyOf k = some x then d else v) ks vs) else (ks ++ [kd], vs ++ [d])
/-- a key's kind: a text or an int, or a tuple of few levels -/
def flatKey : D → Bool
  | .int _ => true
  | .str _ => true
  | _ => false
/-- texts and whole numbers as keys -/
def keyK : D → Option Key
  | .int i => some (.inl i)
  | .str x => some (.inr x)
  | _ => none
def eqKy : Key → Key → Bool
  | .inl i, .inl j => decide (i = j)
  | .inr x, .inr y => decide (x = y)
  | _, _ => false
def putKy (ks : List Key) (k : Key) : List Key := if ks.any (eqKy k) = true then ks else ks ++ [k]
def setOfD (ds : List D) : List Key := (ds.filterMap keyK).foldl putKy []
def tupKey (d : D) : Bool := match d with
  | .tup _ => match keyOf d with
    | some k => decide (k.depth ≤ 8)
    | none => false
  | _ => false

/-! ### the operations by values -/
inductive P1 where
  | len | list | tuple | int | abs | neg | not | all | isN | notN | bool | str | dict
  | isa (ts : List Str)
  | attr (f : Str)
  | sortS
  | upper
  | set
  deriving DecidableEq
inductive P2 where
  | add | sub | mul | fdiv | mod | pow | band
  | eq | ne | lt | le | gt | ge | mem | nmem
  | idx | max | min | index | count
  deriving DecidableEq

def SV.lst? : SV → Option (List D)
  | .v (.lst ds) => some ds
  | .ol ds => some ds
  | _ => none
def SV.seq? : SV → Option (List D)
  | .v (.lst ds) => some ds
  | .ol ds => some ds
  | .v (.tup ds) => some ds
  | _ => none
def SV.dct? : SV → Option (List D × List D)
  | .v (.dct ks vs) => some (ks, vs)
  | .od ks vs => some (ks, vs)
  | _ => none
def SV.obj? : SV → Option (Str × List Str × List D)
  | .v (.obj c ns vs) => some (c, ns, vs)
  | .oi c ns vs => some (c, ns, vs)
  | _ => none

def fieldAt : List Str → List D → Str → Option D
  | n :: ns, v :: vs, f => if n = f then some v else fieldAt ns vs f
  | _, _, _ => none
def fieldPut : List Str → List D → Str → D → List Str × List D
  | n :: ns, v :: vs, f, d => if n = f then (n :: ns, d :: vs) else
      let r := fieldPut ns vs f d
      (n :: r.1, v :: r.2)
  | _, _, f, d => ([f], [d])

def okSize (n : Nat) : Bool := decide (n ≤ sizeLine)
def ckList (ds : List D) : Res SV := if okSize ds.length = true then .ok (.ol ds) else .fail
def ckTup (ds : List D) : Res SV := if okSize ds.length = true then .ok (.v (.tup ds)) else .fail

def truthD : SV → Res Bool
  | .v .non => .ok false
  | .v (.bl b) => .ok b
  | .v (.int i) => .ok (i != 0)
  | .v (.str x) => if okSize x.length = true then .ok (x.length != 0) else .fail
  | .v (.tup ds) => .ok (!ds.isEmpty)
  | .v (.lst ds) => .ok (!ds.isEmpty)
  | .ol ds => .ok (!ds.isEmpty)
  | _ => .fail

def blsOf : List D → Option (List Bool)
  | [] => some []
  | .bl b :: r => (blsOf r).map (b :: ·)
  | _ => none
def strsOf : List D → Option (List Str)
  | [] => some []
  | .str b :: r => (strsOf r).map (b :: ·)
  | _ => none

def tyN : SV → Option String
  | .v .non => some "NoneType"
  | .v (.bl _) => some "bool"
  | .v (.int _) => some "int"
  | .v (.str _) => some "str"
  | .v (.tup _) => some "tuple"
  | .v (.lst _) => some "list"
  | .ol _ => some "list"
  | _ => none
/-- isinstance with a built-in class -/
def isaD (t : Str) (s : SV) : Option Bool := match tyN s with
  | some a => if t = "str" then some (a == "str") else if t = "int" then some (a == "int" || a == "bool") else if t = "bool" then some (a == "bool") else if t = "list" then some (a == "list") else if t = "tuple" then some (a == "tuple") else none
  | none => none

/-- str(x) -/
def stD : D → Option Str
  | .str x => some x
  | .int i => if i.natAbs.log2 < 1920 then some (Str.ofString (toString i)) else none
  | _ => none
/-- all of them -/
def stAll : List D → Bool
  | [] => true
  | d :: ds => (stD d).isSome && stAll ds
def stLe (a b : D) : Bool := PySem.W.dataLe false (fun d => .str ((stD d).getD ⟨#[]⟩)) a b
def lenD : D → Option Nat
  | .tup ds => some ds.length
  | _ => none
def lenLe (a b : D) : Bool := decide ((lenD a).getD 0 ≤ (lenD b).getD 0)
/-- the first place of an equal one -/
def indexG (p : PyData) : List PyData → Option Nat
  | [] => none
  | q :: r => if PyData.eqv q p = true then some 0 else (indexG p r).map (· + 1)
def indexT (z : Str) : List Str → Option Nat
  | [] => none
  | q :: r => if q = z then some 0 else (indexT z r).map (· + 1)
def indexD (s : SV) (x : D) : Res SV := match s with
  | .v (.tup ds) => match strsOf ds, x with
    | some ys, .str z => match indexT z ys with
      | some j => .ok (.v (.int j))
      | none => .fail
    | _, _ => .fail
  | s => match s.lst? with
    | some ds => match dat x, dats ds with
      | some p, some qs => if (SeqAt.shaped p && SeqAt.shaped (.list qs)) = true then (match indexG p qs with
        | some j => .ok (.v (.int j))
        | none => .fail) else .fail
      | _, _ => .fail
    | none => .fail
def countD (s : SV) (x : D) : Res SV := match s.lst? with
  | some ds => match dat x, dats ds with
    | some p, some qs => if (SeqAt.shaped p && SeqAt.shaped (.list qs)) = true then .ok (.v (.int (qs.countP fun z => PyData.eqv z p))) else .fail
    | _, _ => .fail
  | none => .fail

mutual
def imD : D → Bool
  | .tup ds => imDs ds
  | .lst _ => false
  | .dct _ _ => false
  | .obj _ _ _ => false
  | _ => true
def imDs : List D → Bool
  | [] => true
  | d :: ds => imD d && imDs ds
end
def imS : SV → Bool
  | .v d => imD d
  | .ol ds => imDs ds
  | _ => false

structure GEnv where
  /-- constants of the module -/
  con : Nat → Option (Str × D)
  /-- defs and classes: the name, how many arguments, what they give -/
  fn : Nat → Option (Str × Nat × (List D → Res SV))
  /-- methods (the object is the first argument) -/
  mth : Str → Str → Option (Nat × (List D → Res SV))
  /-- o[k] of the program's own classes -/
  gi : Str → Option (List D → Res SV)
  /-- a class's field that no class of it has as its own name -/
  fld : Str → Str → Bool
  /-- isinstance with the program's own classes -/
  isa : Str → Str → Option Bool

def isNo : SV → Bool
  | .v .non => true
  | _ => false
def op1 (G : GEnv) : P1 → SV → Res SV
  | .len, s => match s with
    | .v (.lst ds) => .ok (.v (.int ds.length))
    | .v (.tup ds) => .ok (.v (.int ds.length))
    | .ol ds => .ok (.v (.int ds.length))
    | .v (.str x) => if okSize x.length = true then .ok (.v (.int x.length)) else .fail
    | .v (.dct ks _) => .ok (.v (.int ks.length))
    | .od ks _ => .ok (.v (.int ks.length))
    | _ => .fail
  | .list, s => match s.seq? with
    | some ds => .ok (.ol ds)
    | none => match s.dct? with
      | some (ks, _) => .ok (.ol ks)
      | none => .fail
  | .tuple, s => match s.seq? with
    | some ds => .ok (.v (.tup ds))
    | none => .fail
  | .int, s => match s with
    | .v (.int i) => .ok (.v (.int i))
    | .v (.bl b) => .ok (.v (.int (if b = true then 1 else 0)))
    | _ => .fail
  | .abs, s => match s with
    | .v (.int i) => .ok (.v (.int (if i < 0 then -i else i)))
    | _ => .fail
  | .neg, s => match s with
    | .v (.int i) => .ok (.v (.int (-i)))
    | _ => .fail
  | .not, s => (truthD s).map fun b => .v (.bl !b)
  | .all, s => match s.lst? with
    | some ds => match blsOf ds with
      | some bs => .ok (.v (.bl (bs.all id)))
      | none => .fail
    | none => .fail
  | .isN, s => .ok (.v (.bl (isNo s)))
  | .notN, s => .ok (.v (.bl (!isNo s)))
  | .bool, s => match s with
    | .v (.int i) => .ok (.v (.bl (i != 0)))
    | .v (.bl b) => .ok (.v (.bl b))
    | _ => .fail
  | .str, s => match stD s.d with
    | some x => .ok (.v (.str x))
    | none => .fail
  | .dict, s => match s.dct? with
    | some (ks, vs) => if ks.all flatKey = true then .ok (.od ks vs) else .fail
    | none => .fail
  | .isa ts, s => match ts with
    | [t] => match s.obj? with
      | some (c, _, _) => match G.isa c t with
        | some b => .ok (.v (.bl b))
        | none => .fail
      | none => match isaD t s with
        | some b => .ok (.v (.bl b))
        | none => .fail
    | _ => .fail
  | .attr f, s => match s.obj? with
    | some (c, ns, vs) => if G.fld c f = true then (match fieldAt ns vs f with
      | some d => .ok (.v d)
      | none => .fail) else .fail
    | none => .fail
  | .sortS, s => match s.lst? with
    | some ds => if (stAll ds && okSize ds.length) = true then .ok (.ol (ds.mergeSort stLe)) else .fail
    | none => .fail
  | .upper, s => match s with
    | .v (.str x) => if x.length ≤ 5592405 then .ok (.v (.str (Txt.upper x))) else .fail
    | _ => .fail
  | .set, _ => .fail

def ixD (ds : List D) (i : Int) : Res SV := match atI ds i with
  | some d => .ok (.v d)
  | none => .fail
def ixS (x : Str) (i : Int) : Res SV := if okSize x.length = true then (match atI x.cps.toList i with
  | some d => .ok (.v (.str ⟨#[d]⟩))
  | none => .fail) else .fail
def blR (r : Res Bool) : Res SV := r.map fun b => .v (.bl b)
/-- a dict has keys of one sort -/
def sameSort (ks : List D) (k : D) : Bool := flatKey k && ks.all flatKey || tupKey k && ks.all tupKey
def dctKeyR (ks vs : List D) (k : D) : Res (Option D) := match keyOf k with
  | some x => if sameSort ks k = true then .ok (dctAt ks vs x) else .fail
  | none => .fail

def op2 (G : GEnv) : P2 → SV → SV → Res SV
  | .add, a, b => match a, b with
    | .v (.int i), .v (.int j) => .ok (.v (.int (i + j)))
    | .v (.str x), .v (.str y) => if okSize (x.length + y.length) = true then .ok (.v (.str (x ++ y))) else .fail
    | .v (.tup x), .v (.tup y) => ckTup (x ++ y)
    | a, b => match a.lst?, b.lst? with
      | some x, some y => ckList (x ++ y)
      | _, _ => .fail
  | .sub, a, b => match a, b with
    | .v (.int i), .v (.int j) => .ok (.v (.int (i - j)))
    | _, _ => .fail
  | .mul, a, b => match a, b with
    | .v (.int i), .v (.int j) => if (-(2 ^ 64) < i ∧ i < 2 ^ 64) ∨ (-(2 ^ 64) < j ∧ j < 2 ^ 64) then .ok (.v (.int (i * j))) else .fail
    | _, _ => .fail
  | .fdiv, a, b => match a, b with
    | .v (.int i), .v (.int j) => if 0 < j ∧ j < 1073741824 then .ok (.v (.int (i / j))) else .fail
    | _, _ => .fail
  | .mod, a, b => match a, b with
    | .v (.int i), .v (.int j) => if 0 < j then .ok (.v (.int (i % j))) else .fail
    | _, _ => .fail
  | .pow, a, b => match a, b with
    | .v (.int i), .v (.int j) => if 0 ≤ j ∧ j ≤ 1000000 ∧ i.natAbs < 2 ^ 64 then .ok (.v (.int (i ^ j.toNat))) else .fail
    | _, _ => .fail
  | .band, a, b => match a, b with
    | .v (.int i), .v (.int j) => .ok (.v (.int (Builtin.bitAnd i j)))
    | _, _ => .fail
  | .eq, a, b => blR (eqD a.d b.d)
  | .ne, a, b => blR ((eqD a.d b.d).map not)
  | .lt, a, b => match a, b with
    | .v (.int i), .v (.int j) => .ok (.v (.bl (decide (i < j))))
    | _, _ => .fail
  | .le, a, b => match a, b with
    | .v (.int i), .v (.int j) => .ok (.v (.bl (decide (i ≤ j))))
    | _, _ => .fail
  | .gt, a, b => match a, b with
    | .v (.int i), .v (.int j) => .ok (.v (.bl (decide (j < i))))
    | _, _ => .fail
  | .ge, a, b => match a, b with
    | .v (.int i), .v (.int j) => .ok (.v (.bl (decide (j ≤ i))))
    | _, _ => .fail
  | .mem, a, b => memR a b
  | .nmem, a, b => (memR a b).map fun s => match s with
    | .v (.bl b) => .v (.bl (!b))
    | s => s
  | .idx, a, b => match a.obj? with
    | some (c, _, _) => match G.gi c with
      | some F => match F [a.d, b.d] with
        | .ok r => if imS r = true then .ok r else .fail
        | _ => .fail
      | none => .fail
    | none => match a.seq?, b with
      | some ds, .v (.int i) => ixD ds i
      | _, _ => match a, b with
        | .v (.str x), .v (.int i) => ixS x i
        | a, b => match a.dct? with
          | some (ks, vs) => match dctKeyR ks vs b.d with
            | .ok (some d) => .ok (.v d)
            | _ => .fail
          | none => .fail
  | .max, a, b => match a, b with
    | .v (.int i), .v (.int j) => .ok (.v (.int (if j > i then j else i)))
    | _, _ => .fail
  | .min, a, b => match a, b with
    | .v (.int i), .v (.int j) => .ok (.v (.int (if j < i then j else i)))
    | _, _ => .fail
  | .index, a, b => indexD a b.d
  | .count, a, b => countD a b.d
where
  memR (a b : SV) : Res SV := match a, b with
    | .v (.str x), .v (.str y) => .ok (.v (.bl (!(Builtin.Str.occurrences y x 0 y.length 1).isEmpty)))
    | a, .v (.tup ds) => if (flatD a.d && ds.all flatD) = true then .ok (.v (.bl (ds.any fun z => eqF z a.d))) else .fail
    | a, b => match b.lst? with
      | some ds => blR (memD a.d ds)
      | none => match b.dct? with
        | some (ks, vs) => blR ((dctKeyR ks vs a.d).map (·.isSome))
        | none => .fail

/-! ### the language -/
inductive Tgt where
  | nm (i : Nat)
  | tp (is : List Nat)
mutual
inductive CE where
  | nev
  | var (i : Nat)
  | lit (d : D)
  | con (k : Nat)
  | p1 (op : P1) (a : CE)
  | p2 (op : P2) (a b : CE)
  | get3 (d k x : CE)
  | mt2 (op : P2) (a b : CE)
  | slice (a : CE) (lo hi : CO)
  | rev (a : CE)
  | lrng (a : CE)
  | and (a b : CE)
  | or (a b : CE)
  | chain (o p : P2) (a b c : CE)
  | tup (as : CL)
  | lst (as : CL)
  | dct (ps : CP)
  | call (k : Nat) (as : CL)
  | mth (o : CE) (m : Str) (as : CL)
  | pop (i : Nat)
  | lc (own : List Nat) (t : Tgt) (it : CI) (ifs : CO) (elt : CE)
  | lc2 (own : List Nat) (t : Tgt) (it : CI) (ifs : CO) (t' : Tgt) (it' : CI) (ifs' : CO) (elt : CE)
  | dc (own : List Nat) (t : Tgt) (it : CI) (k v : CE)
  | sc (own : List Nat) (t : Tgt) (it : CI) (elt : CE)
inductive CO where
  | none
  | some (e : CE)
inductive CL where
  | nil
  | cons (a : CE) (r : CL)
inductive CP where
  | nil
  | cons (k v : CE) (r : CP)
inductive CI where
  | nev
  | seq (e : CE)
  | rng (a : CE)
  | rng2 (a b : CE)
  | enum (a : CE)
  | zip (a b : CE)
  | ckeys (k : Nat)
end
mutual
inductive CS where
  | nev
  | set (i : Nat) (e : CE)
  | tset (is : List Nat) (e : CE)
  | aug (i : Nat) (op : P2) (e : CE)
  | app (i : Nat) (e : CE)
  | ext (i : Nat) (e : CE)
  | put (i : Nat) (k v : CE)
  | upd (i : Nat) (e : CE)
  | fset (i : Nat) (f : Str) (e : CE)
  | clr (i : Nat)
  | expr (e : CE)
  | ret (e : CE)
  | retN
  | cond (c : CE) (a b : CB)
  | forS (t : Tgt) (it : CI) (body : CB)
  | whileS (c : CE) (body : CB)
  | brk | cont | pass
  | raise (k : Nat) (as : CL)
inductive CB where
  | nil
  | cons (s : CS) (r : CB)
end

/-! ### its meaning -/
/-- a name read as a value: what it owned is frozen -/
def rd (α : AEnv) (i : Nat) : Res (SV × AEnv) := match α[i]? with
  | some (.v d) => .ok (.v d, α)
  | some .un => .fail
  | some s => .ok (.v s.d, α.set i (.v s.d))
  | none => .fail
/-- an operand that is a name is looked at as it stands, last -/
def opnd (a : CE) (r : Res (SV × AEnv)) (α : AEnv) : Res (Option SV × AEnv) := match a with
  | .var i => match α[i]? with
    | some .un => .fail
    | some _ => .ok (none, α)
    | none => .fail
  | _ => r.map fun p => (some p.1, p.2)
def fin (a : CE) (o : Option SV) (α : AEnv) : Res SV := match a with
  | .var i => match α[i]? with
    | some .un => .fail
    | some s => .ok s
    | none => .fail
  | _ => .ofOpt o
def asg (t : Tgt) (d : D) (α : AEnv) : Res AEnv := match t with
  | .nm i => if i < α.length then .ok (α.set i (.v d)) else .fail
  | .tp is => match d with
    | .tup ds => go is ds α
    | _ => .fail
where go : List Nat → List D → AEnv → Res AEnv
  | [], [], α => .ok α
  | i :: is, d :: ds, α => if i < α.length then go is ds (α.set i (.v d)) else .fail
  | _, _, _ => .fail
def enumD (n : Nat) : List D → List D
  | [] => []
  | d :: ds => .tup [.int n, d] :: enumD (n + 1) ds
def zipD : List D → List D → List D
  | a :: as, b :: bs => .tup [a, b] :: zipD as bs
  | _, _ => []
def rngD (a : Int) : Nat → List D
  | 0 => []
  | n + 1 => .int a :: rngD (a + 1) n
def small62 (i : Int) : Bool := decide (-(2 ^ 62) ≤ i ∧ i < 2 ^ 62)
def cutD (ds : List D) (lo hi : Option Int) : List D := (ds.drop (HT.sIx ds.length 0 lo)).take (HT.sIx ds.length ds.length hi - HT.sIx ds.length 0 lo)
def seqKind : SV → Option Bool
  | .v (.lst _) => some true
  | .ol _ => some true
  | .v (.tup _) => some false
  | _ => none

def vIx : CE → Option Nat
  | .var i => some i
  | _ => none
/-- the arguments that are names are given up -/
def frz : CL → AEnv → AEnv
  | .nil, α => α
  | .cons a r, α => match vIx a with
    | some i => frz r (α.set i (.v (α.getD i .un).d))
    | none => frz r α
def vars : CL → List Nat
  | .nil => []
  | .cons a r => match vIx a with
    | some i => i :: vars r
    | none => vars r
def fins : CL → List (Option SV) → AEnv → Res (List SV)
  | .nil, _, _ => .ok []
  | .cons a r, o :: os, α => do
    let x ← fin a o α
    let xs ← fins r os α
    .ok (x :: xs)
  | .cons _ _, [], _ => .fail
def sliceD (s : SV) (lo hi : Option SV) : Res SV :=
  let num : Option SV → Res (Option Int) := fun o => match o with
    | none => .ok none
    | some (.v (.int i)) => .ok (some i)
    | _ => .fail
  (num lo).bind fun l => (num hi).bind fun h => match s with
    | .v (.tup ds) => .ok (.v (.tup (cutD ds l h)))
    | s => match s.lst? with
      | some ds => .ok (.ol (cutD ds l h))
      | none => .fail
def revD (s : SV) : Res SV := match s.lst? with
  | some ds => .ok (.ol ds.reverse)
  | none => .fail
/-- the block's own names are empty at its start; what they held comes back behind it -/
def wipeA (α : AEnv) : List Nat → AEnv
  | [] => α
  | i :: is => (wipeA α is).set i .un
def stash (α : AEnv) (own : List Nat) : List SV := own.map fun i => α.getD i .un
def backA (α : AEnv) : List Nat → List SV → AEnv
  | i :: is, s :: ss => backA (α.set i s) is ss
  | _, _ => α
def getD3 (d : SV) (k x : SV) : Res SV := match d.dct? with
  | some (ks, vs) => match dctKeyR ks vs k.d with
    | .ok (some d) => .ok (.v d)
    | .ok none => .ok (.v x.d)
    | _ => .fail
  | none => .fail
/-- the loop of a comprehension: what is found so far -/
def lcGo (turn : D → AEnv → Res (List D × AEnv)) (own : List Nat) : List D → AEnv → Res (List D × AEnv)
  | [], α => .ok ([], α)
  | d :: ds, α => match turn d α with
    | .ok (es, α1) => (lcGo turn own ds (wipeA α1 own)).map fun p => (es ++ p.1, p.2)
    | _ => .fail
/-- .. of a dict's -/
def dcGo (turn : D → AEnv → Res ((D × D) × AEnv)) (own : List Nat) : List D → AEnv → List D × List D → Res ((List D × List D) × AEnv)
  | [], α, r => .ok (r, α)
  | d :: ds, α, r => match turn d α with
    | .ok (p, α1) => match keyOf p.1 with
      | some x => if (flatKey p.1 && decide (r.1.length < sizeLine)) = true then dcGo turn own ds (wipeA α1 own) (dctPut r.1 r.2 p.1 p.2 x) else .fail
      | none => .fail
    | _ => .fail
def evens : List D → List D
  | [] => []
  | [a] => [a]
  | a :: _ :: r => a :: evens r
def mkDct : List D → List D → List D × List D → Res (List D × List D)
  | k :: ks, v :: vs, r => match keyOf k with
    | some x => if sameSort r.1 k = true then mkDct ks vs (dctPut r.1 r.2 k v x) else .fail
    | none => .fail
  | [], [], r => .ok r
  | _, _, _ => .fail

def andK (k : AEnv → Res (SV × AEnv)) (s : SV) (β : AEnv) : Res (SV × AEnv) := match s with
  | .v (.bl true) => k β
  | .v (.bl false) => .ok (.v (.bl false), β)
  | _ => .fail
def orK (k : AEnv → Res (SV × AEnv)) (s : SV) (β : AEnv) : Res (SV × AEnv) := match s with
  | .v (.bl false) => k β
  | .v (.bl true) => .ok (.v (.bl true), β)
  | _ => .fail
mutual
def den (G : GEnv) : CE → AEnv → Res (SV × AEnv)
  | .nev, _ => .fail
  | .var i, α => rd α i
  | .lit d, α => .ok (.v d, α)
  | .con x, α => match G.con x with
    | some (_, d) => .ok (.v d, α)
    | none => .fail
  | .p1 op a, α => do
    let (ra, α1) ← opnd a (den G a α) α
    let x ← fin a ra α1
    let r ← op1 G op x
    .ok (r, α1)
  | .p2 op a b, α => do
    let (ra, α1) ← opnd a (den G a α) α
    let (rb, α2) ← opnd b (den G b α1) α1
    let x ← fin a ra α2
    let y ← fin b rb α2
    let r ← op2 G op x y
    .ok (r, α2)
  | .get3 d k x, α => do
    let (rd, α1) ← opnd d (den G d α) α
    let _ ← (do
      let x ← fin d rd α1
      match x.dct? with
      | some _ => .ok (x, α1)
      | none => .fail)
    let (rk, α2) ← den G k α1
    let (rx, α3) ← den G x α2
    let dd ← fin d rd α3
    let r ← getD3 dd rk rx
    .ok (r, α3)
  | .mt2 op a b, α => do
    let (ra, α1) ← opnd a (den G a α) α
    let x0 ← fin a ra α1
    let (rb, α2) ← den G b α1
    let x ← fin a ra α2
    if (decide (seqKind x0 = seqKind x) && (seqKind x0).isSome) = true then
      let r ← op2 G op x rb
      .ok (r, α2)
    else .fail
  | .slice a lo hi, α => do
    let (ra, α1) ← opnd a (den G a α) α
    let (rl, α2) ← denO G lo α1
    let (rh, α3) ← denO G hi α2
    let x ← fin a ra α3
    let r ← sliceD x rl rh
    .ok (r, α3)
  | .rev a, α => do
    let (ra, α1) ← opnd a (den G a α) α
    let x ← fin a ra α1
    let r ← revD x
    .ok (r, α1)
  | .lrng a, α => do
    let (ra, α1) ← den G a α
    match ra with
    | .v (.int n) => if 0 ≤ n ∧ n ≤ 16777216 then .ok (.ol (rngD 0 n.toNat), α1) else .fail
    | _ => .fail
  | .and a b, α => do
    let (ra, α1) ← den G a α
    andK (den G b) ra α1
  | .or a b, α => do
    let (ra, α1) ← den G a α
    orK (den G b) ra α1
  | .chain o p a b c, α => do
    let (ra, α1) ← den G a α
    let (rb, α2) ← den G b α1
    let r ← op2 G o ra rb
    match r with
    | .v (.bl true) =>
      let (rc, α3) ← den G c α2
      let q ← op2 G p rb rc
      .ok (q, α3)
    | .v (.bl false) => .ok (.v (.bl false), α2)
    | _ => .fail
  | .tup as, α => do
    let (rs, α1) ← denL G as α
    let r ← ckTup (rs.map SV.d)
    .ok (r, α1)
  | .lst as, α => do
    let (rs, α1) ← denL G as α
    let r ← ckList (rs.map SV.d)
    .ok (r, α1)
  | .dct ps, α => do
    let (rs, α1) ← denP G ps α
    if (rs.1.map SV.d).all flatKey = true then
      let r ← mkDct (rs.1.map SV.d) (rs.2.map SV.d) ([], [])
      .ok (.od r.1 r.2, α1)
    else .fail
  | .call x as, α => match G.fn x with
    | some (_, n, f) => do
      let (os, α1) ← denA G as α
      let rs ← fins as os α1
      if rs.length = n then
        let r ← f (rs.map SV.d)
        .ok (r, if imS r = true then α1 else frz as α1)
      else .fail
    | none => .fail
  | .mth o m as, α => do
    let (ro, α1) ← den G o α
    match ro.obj? with
    | some (c, ns, vs) => match G.mth c m, fieldAt ns vs m with
      | some (n, f), none =>
        let (rs, α2) ← denL G as α1
        if rs.length + 1 = n then
          let r ← f (ro.d :: rs.map SV.d)
          .ok (r, α2)
        else .fail
      | _, _ => .fail
    | none => .fail
  | .pop i, α => match α[i]? with
    | some (.ol ds) => match ds.getLast? with
      | some d => .ok (.v d, α.set i (.ol ds.dropLast))
      | none => .fail
    | _ => .fail
  | .lc own t it ifs elt, α => do
    let (xs, α1) ← denI G it α
    let (es, α2) ← lcGo (fun d β => do
      let β1 ← asg t d β
      let (c, β2) ← denT G ifs β1
      if c = true then
        let (r, β3) ← den G elt β2
        .ok ([r.d], β3)
      else .ok ([], β2)) own xs (wipeA α1 own)
    if okSize es.length = true then .ok (.ol es, backA α2 own (stash α1 own)) else .fail
  | .lc2 own t it ifs t' it' ifs' elt, α => do
    let (xs, α1) ← denI G it α
    let (es, α2) ← lcGo (fun d β => do
      let β1 ← asg t d β
      let (c, β2) ← denT G ifs β1
      if c = true then
        let (ys, β3) ← denI G it' β2
        lcGo (fun e γ => do
          let γ1 ← asg t' e γ
          let (c', γ2) ← denT G ifs' γ1
          if c' = true then
            let (r, γ3) ← den G elt γ2
            .ok ([r.d], γ3)
          else .ok ([], γ2)) [] ys β3
      else .ok ([], β2)) own xs (wipeA α1 own)
    if okSize es.length = true then .ok (.ol es, backA α2 own (stash α1 own)) else .fail
  | .sc own t it elt, α => do
    let (xs, α1) ← denI G it α
    let (es, α2) ← lcGo (fun d β => do
      let β1 ← asg t d β
      let (r, β2) ← den G elt β1
      .ok ([r.d], β2)) own xs (wipeA α1 own)
    if (es.all flatKey && decide (es.length < 4095)) = true then .ok (.v (.int ((setOfD es).length : Int)), backA α2 own (stash α1 own)) else .fail
  | .dc own t it k v, α => do
    let (xs, α1) ← denI G it α
    let (r, α2) ← dcGo (fun d β => do
      let β1 ← asg t d β
      let (rk, β2) ← den G k β1
      let (rv, β3) ← den G v β2
      .ok ((rk.d, rv.d), β3)) own xs (wipeA α1 own) ([], [])
    .ok (.od r.1 r.2, backA α2 own (stash α1 own))
def denO (G : GEnv) : CO → AEnv → Res (Option SV × AEnv)
  | .none, α => .ok (none, α)
  | .some e, α => do
    let (r, α1) ← den G e α
    .ok (some r, α1)
/-- a test (none: true) -/
def denT (G : GEnv) : CO → AEnv → Res (Bool × AEnv)
  | .none, α => .ok (true, α)
  | .some e, α => do
    let (ra, α1) ← opnd e (den G e α) α
    let x ← fin e ra α1
    let b ← truthD x
    .ok (b, α1)
def denL (G : GEnv) : CL → AEnv → Res (List SV × AEnv)
  | .nil, α => .ok ([], α)
  | .cons a r, α => do
    let (x, α1) ← den G a α
    let (xs, α2) ← denL G r α1
    .ok (x :: xs, α2)
/-- arguments: names are looked at when all are made -/
def denA (G : GEnv) : CL → AEnv → Res (List (Option SV) × AEnv)
  | .nil, α => .ok ([], α)
  | .cons a r, α => do
    let (x, α1) ← opnd a (den G a α) α
    let (xs, α2) ← denA G r α1
    .ok (x :: xs, α2)
def denP (G : GEnv) : CP → AEnv → Res ((List SV × List SV) × AEnv)
  | .nil, α => .ok (([], []), α)
  | .cons k v r, α => do
    let (x, α1) ← den G k α
    let (y, α2) ← den G v α1
    let (zs, α3) ← denP G r α2
    .ok ((x :: zs.1, y :: zs.2), α3)
def denI (G : GEnv) : CI → AEnv → Res (List D × AEnv)
  | .nev, _ => .fail
  | .seq e, α => do
    let (r, α1) ← den G e α
    match r.d with
    | .lst ds => .ok (ds, α1)
    | .tup ds => .ok (ds, α1)
    | .str x => .ok (x.cps.toList.map fun c => .str ⟨#[c]⟩, α1)
    | _ => .fail
  | .rng a, α => do
    let (r, α1) ← den G a α
    match r with
    | .v (.int j) => if small62 j = true then .ok (rngD 0 j.toNat, α1) else .fail
    | _ => .fail
  | .rng2 a b, α => do
    let (r, α1) ← den G a α
    let (q, α2) ← den G b α1
    match r, q with
    | .v (.int i), .v (.int j) => if (small62 i && small62 j) = true then .ok (rngD i (j - i).toNat, α2) else .fail
    | _, _ => .fail
  | .enum a, α => do
    let (r, α1) ← den G a α
    match r.d with
    | .lst ds => .ok (enumD 0 ds, α1)
    | .tup ds => .ok (enumD 0 ds, α1)
    | _ => .fail
  | .zip a b, α => do
    let (r, α1) ← den G a α
    let (q, α2) ← den G b α1
    match r.d, q.d with
    | .lst x, .lst y => .ok (zipD x y, α2)
    | .tup x, .tup y => .ok (zipD x y, α2)
    | _, _ => .fail
  | .ckeys k, α => match G.con k with
    | some (_, .dct ks _) => .ok (ks, α)
    | _ => .fail
end

inductive Fl where
  | nx (α : AEnv)
  | bk (α : AEnv)
  | ct (α : AEnv)
  | rt (r : SV)

def forD (b : D → AEnv → Res Fl) : List D → AEnv → Res Fl
  | [], α => .ok (.nx α)
  | d :: ds, α => match b d α with
    | .ok (.nx α1) => forD b ds α1
    | .ok (.ct α1) => forD b ds α1
    | .ok (.bk α1) => .ok (.nx α1)
    | .ok (.rt r) => .ok (.rt r)
    | .exc c ns vs => .exc c ns vs
    | .fail => .fail
def wh (c : AEnv → Res (Bool × AEnv)) (b : AEnv → Res Fl) : Nat → AEnv → Res Fl
  | 0, _ => .fail
  | n + 1, α => match c α with
    | .ok (true, α1) => match b α1 with
      | .ok (.nx α2) => wh c b n α2
      | .ok (.ct α2) => wh c b n α2
      | .ok (.bk α2) => .ok (.nx α2)
      | .ok (.rt r) => .ok (.rt r)
      | .exc c ns vs => .exc c ns vs
      | .fail => .fail
    | .ok (false, α1) => .ok (.nx α1)
    | .exc c ns vs => .exc c ns vs
    | .fail => .fail
open Classical in
noncomputable def whD (c : AEnv → Res (Bool × AEnv)) (b : AEnv → Res Fl) (α : AEnv) : Res Fl :=
  if h : ∃ n, wh c b n α ≠ .fail then wh c b h.choose α else .fail
theorem wh_succ {c : AEnv → Res (Bool × AEnv)} {b : AEnv → Res Fl} : ∀ (n : Nat) (α : AEnv), wh c b n α ≠ .fail → wh c b (n + 1) α = wh c b n α
  | 0, _, h => absurd rfl h
  | n + 1, α, h => by
    rw [wh]
    rw [wh] at h
    rw [wh]
    cases hc : c α with
    | ok p =>
      obtain ⟨t, α1⟩ := p
      cases t with
      | false => rfl
      | true =>
        rw [hc] at h
        simp only at h ⊢
        cases hb : b α1 with
        | ok f =>
          rw [hb] at h
          cases f with
          | nx α2 => exact wh_succ n α2 h
          | ct α2 => exact wh_succ n α2 h
          | bk α2 => rfl
          | rt r => rfl
        | exc c ns vs => rfl
        | fail => rfl
    | exc c ns vs => rfl
    | fail => rfl
theorem wh_le {c : AEnv → Res (Bool × AEnv)} {b : AEnv → Res Fl} {n : Nat} {α : AEnv} (h : wh c b n α ≠ .fail) : ∀ k, wh c b (n + k) α = wh c b n α
  | 0 => rfl
  | k + 1 => by
    have e := wh_le h k
    rw [← Nat.add_assoc, wh_succ (n + k) α (by rw [e]; exact h), e]
theorem whD_of {c : AEnv → Res (Bool × AEnv)} {b : AEnv → Res Fl} {n : Nat} {α : AEnv} {r : Res Fl} (h : wh c b n α = r) (hr : r ≠ .fail) : whD c b α = r := by
  have ex : ∃ n, wh c b n α ≠ .fail := ⟨n, by rw [h]; exact hr⟩
  unfold whD
  rw [dif_pos ex]
  have h1 := wh_le ex.choose_spec n
  have h2 := wh_le (n := n) (by rw [h]; exact hr) ex.choose
  rw [← h1, Nat.add_comm, h2, h]
theorem whD_ex {c : AEnv → Res (Bool × AEnv)} {b : AEnv → Res Fl} {α : AEnv} {r : Res Fl} (h : whD c b α = r) (hr : r ≠ .fail) : ∃ n, wh c b n α = r := by
  unfold whD at h
  split at h
  · exact ⟨_, h⟩
  · exact absurd h.symm hr

def putSV (s k : SV) (d : D) : Res SV := match s with
  | .od ks vs => match keyOf k.d with
    | some x => if (flatKey k.d && ks.all flatKey && decide (ks.length < sizeLine)) = true then .ok (.od (dctPut ks vs k.d d x).1 (dctPut ks vs k.d d x).2) else .fail
    | none => .fail
  | .ol ds => match k with
    | .v (.int j) => match ixN ds.length j with
      | some n => .ok (.ol (ds.set n d))
      | none => .fail
    | _ => .fail
  | _ => .fail
def augI : P2 → Int → Int → Option Int
  | .add, a, b => some (a + b)
  | .sub, a, b => some (a - b)
  | _, _, _ => none
def isOl : SV → Bool
  | .ol _ => true
  | _ => false
def isUn : SV → Bool
  | .un => true
  | _ => false
mutual
noncomputable def denS (G : GEnv) : CS → AEnv → Res Fl
  | .nev, _ => .fail
  | .set i e, α => do
    let (r, α1) ← den G e α
    if i < α1.length then .ok (.nx (α1.set i r)) else .fail
  | .tset is e, α => do
    let (r, α1) ← den G e α
    let α2 ← asg (.tp is) r.d α1
    .ok (.nx α2)
  | .aug i op e, α => do
    let _ ← fin (.var i) none α
    let (r, α1) ← den G e α
    let x ← fin (.var i) none α1
    match x, r with
    | .v (.int a), .v (.int b) => match augI op a b with
      | some c => .ok (.nx (α1.set i (.v (.int c))))
      | none => .fail
    | _, _ => .fail
  | .app i e, α => if isOl (α.getD i .un) = true then do
      let (r, α1) ← den G e α
      match α1[i]? with
      | some (.ol ds) => if ds.length < sizeLine then .ok (.nx (α1.set i (.ol (ds ++ [r.d])))) else .fail
      | _ => .fail
    else .fail
  | .ext i e, α => if isOl (α.getD i .un) = true then do
      let (r, α1) ← den G e α
      match α1[i]?, r.d with
      | some (.ol ds), .lst es => if ds.length + es.length ≤ sizeLine then .ok (.nx (α1.set i (.ol (ds ++ es)))) else .fail
      | _, _ => .fail
    else .fail
  | .put i k v, α => if isUn (α.getD i .un) = true then .fail else do
    let (rv, α1) ← den G v α
    let (rk, α2) ← den G k α1
    match α2[i]? with
    | some s => do
      let s' ← putSV s rk rv.d
      .ok (.nx (α2.set i s'))
    | none => .fail
  | .upd _ _, _ => .fail
  | .fset i f e, α => if isUn (α.getD i .un) = true then .fail else do
    let (r, α1) ← den G e α
    match α1[i]? with
    | some (.oi c ns vs) => if (G.fld c f && decide (ns.length < 1000)) = true then .ok (.nx (α1.set i (.oi c (fieldPut ns vs f r.d).1 (fieldPut ns vs f r.d).2))) else .fail
    | _ => .fail
  | .clr i, α => match α[i]? with
    | some (.ol _) => .ok (.nx (α.set i (.ol [])))
    | _ => .fail
  | .expr e, α => do
    let (_, α1) ← den G e α
    .ok (.nx α1)
  | .ret e, α => match e with
    | .var i => match α[i]? with
      | some .un => .fail
      | some s => .ok (.rt s)
      | none => .fail
    | e => do
      let (r, _) ← den G e α
      .ok (.rt r)
  | .retN, _ => .ok (.rt (.v .non))
  | .cond c a b, α => do
    let (t, α1) ← denT G (.some c) α
    if t = true then denB G a α1 else denB G b α1
  | .forS t it body, α => do
    let (xs, α1) ← denI G it α
    forD (fun d β => do
      let β1 ← asg t d β
      denB G body β1) xs α1
  | .whileS c body, α => whD (denT G (.some c)) (denB G body) α
  | .brk, α => .ok (.bk α)
  | .cont, α => .ok (.ct α)
  | .pass, α => .ok (.nx α)
  | .raise c as, α => do
    let (rs, _) ← denL G as α
    match G.fn c with
    | some (_, _, f) => match f (rs.map SV.d) with
      | .ok (.oi c ns vs) => .exc c ns vs
      | _ => .fail
    | none => .fail
noncomputable def denB (G : GEnv) : CB → AEnv → Res Fl
  | .nil, α => .ok (.nx α)
  | .cons s r, α => do
    let f ← denS G s α
    match f with
    | .nx α1 => denB G r α1
    | f => .ok f
end
/-- the slots that a statement may set -/
def wT : Tgt → List Nat
  | .nm i => [i]
  | .tp is => is
mutual
def wS : CS → List Nat
  | .set i _ => [i]
  | .tset is _ => is
  | .aug i _ _ => [i]
  | .cond _ a b => wB a ++ wB b
  | .forS t _ b => wT t ++ wB b
  | .whileS _ b => wB b
  | _ => []
def wB : CB → List Nat
  | .nil => []
  | .cons s r => wS s ++ wB r
end
/-- a def's value: its parameters first, n names in all -/
noncomputable def denD (G : GEnv) (n : Nat) (b : CB) (ds : List D) : Res SV := do
  let f ← denB G b (ds.map .v ++ List.replicate (n - ds.length) .un)
  match f with
  | .rt r => .ok r
  | .nx _ => .ok (.v .non)
  | _ => .fail
end Dv

set_option Elab.async false
set_option linter.all false
set_option maxRecDepth 100000
set_option maxHeartbeats 4000000
/-! the operations by values keep what they mean -/
namespace Dv
open PySem PySem.Spec PyProof.Rows L2

structure Amb (Z : Addr → Prop) (L : List Addr) (H : Hp) : Prop where
  zd : ∀ b, Z b → H b ≠ none
  ow : ∀ a ∈ L, ∃ u, H a = some u
  nz : ∀ a ∈ L, ¬ Z a
  nt : ∀ a ∈ L, ∀ o xs, H a ≠ some (.frz o (.tup xs))
/-- an operand -/
def In (R : RC) (Z : Addr → Prop) (L : List Addr) (H : Hp) (x : V) (s : SV) : Prop := s ≠ .un ∧ ∃ as, (∀ a ∈ as, a ∈ L) ∧ Ent R (vis Z L H) H (some x) s as
/-- what is wanted of a result -/
def Out (R : RC) (Z : Addr → Prop) (L : List Addr) (H : Hp) (r : SV) (Q : VK) : Prop :=
  ∀ H' z cs, Same H H' → (∀ c ∈ cs, H c = none) → cs.Nodup → r ≠ .un → Ent R (vis Z (cs ++ L) H') H' (some z) r cs → Q z H'

section
variable {R : RC} {Z : Addr → Prop} {L : List Addr} {H : Hp} {x y : V} {s t r : SV} {Q : VK}
theorem Out.val {d : D} (o : Out R Z L H (.v d) Q) {z : V} (e : Rep R (vis Z L H) z d) : Q z H := o H z [] (Same.refl H) (fun _ h => nomatch h) List.nodup_nil (fun h => nomatch h) (.v e)
theorem Out.bl {b : Bool} (o : Out R Z L H (.v (.bl b)) Q) : Q (.bl b) H := o.val (.bl b)
theorem Out.int {b : Int} (o : Out R Z L H (.v (.int b)) Q) : Q (.int b) H := o.val (.int b)
theorem Out.str {b : Str} (o : Out R Z L H (.v (.str b)) Q) : Q (.str b) H := o.val (.str b)
theorem Out.newL {ds : List D} {xs : List V} (o : Out R Z L H (.ol ds) Q) (q : Reps R (vis Z L H) xs ds) {p : Addr} (hp : H p = none) : Q (.ref p) (upd H p (.lst xs)) := by
  have sm : Same H (upd H p (.lst xs)) := fun b o e => by rw [upd_ne (ne_of_none e hp)]; exact e
  refine o _ _ [p] sm (fun c hc => by rw [List.mem_singleton.mp hc]; exact hp) (by simp) (fun h => nomatch h) (.ol upd_same (q.mono (vis_mono fun b o _ hb e => ⟨fun m => ?_, sm b o e⟩)))
  rcases List.mem_append.mp m with m | m
  · rw [List.mem_singleton.mp m, hp] at e; cases e
  · exact hb m
theorem Out.newT {ds : List D} {xs : List V} {ob : Obj} (o : Out R Z L H (.v (.tup ds)) Q) (hob : ob.dict = none) (A : Amb Z L H) (q : Reps R (vis Z L H) xs ds) {p : Addr} (hp : H p = none) : Q (.ref p) (upd H p (.frz ob (.tup xs))) := by
  have sm : Same H (upd H p (.frz ob (.tup xs))) := fun b o e => by rw [upd_ne (ne_of_none e hp)]; exact e
  have sb : Sub (vis Z L H) (vis Z L (upd H p (.frz ob (.tup xs)))) := vis_mono fun b o _ hb e => ⟨hb, sm b o e⟩
  refine o _ _ [] sm (fun _ h => nomatch h) List.nodup_nil (fun h => nomatch h) (.v (.tup (.inl ⟨ob, hob, vis_of (fun z => A.zd p z hp) (fun m => ?_) upd_same⟩) (q.mono sb)))
  obtain ⟨u, e⟩ := A.ow p m
  rw [hp] at e; cases e
theorem In.val (i : In R Z L H x s) {d : D} (e : s = .v d) : Rep R (vis Z L H) x d := by
  subst e
  obtain ⟨_, _, _, e⟩ := i
  cases e with | v e => exact e
theorem In.int (i : In R Z L H x (.v (.int n))) : x = .int n := by
  have := i.val rfl
  cases this; rfl
theorem In.bl (i : In R Z L H x (.v (.bl n))) : x = .bl n := by
  have := i.val rfl
  cases this; rfl
theorem In.str (i : In R Z L H x (.v (.str n))) : x = .str n := by
  have := i.val rfl
  cases this; rfl
theorem In.tup {ds : List D} (i : In R Z L H x (.v (.tup ds))) : ∃ a xs, x = .ref a ∧ SqT R.K H a xs ∧ Reps R (vis Z L H) xs ds := by
  have := i.val rfl
  cases this with
  | tup h r => exact ⟨_, _, rfl, (vis_sub Z L H).sqT h, r⟩
theorem In.lst {ds : List D} (i : In R Z L H x s) (e : s.lst? = some ds) : ∃ a xs, x = .ref a ∧ Rd H a (.lst xs) ∧ Reps R (vis Z L H) xs ds := by
  obtain ⟨_, _, _, en⟩ := i
  cases en with
  | v e' =>
    cases e' with
    | lst h r =>
      cases e
      exact ⟨_, _, rfl, (vis_sub Z L H).rd _ _ h, r⟩
    | _ => cases e
  | ol h r =>
    cases e
    exact ⟨_, _, rfl, .of h, r⟩
  | _ => cases e
theorem In.seq {ds : List D} (i : In R Z L H x s) (e : s.seq? = some ds) : ∃ a xs, x = .ref a ∧ (SqL R.K H a xs ∨ SqT R.K H a xs) ∧ Reps R (vis Z L H) xs ds := by
  obtain ⟨_, _, _, en⟩ := i
  cases en with
  | v e' =>
    cases e' with
    | lst h r =>
      cases e
      exact ⟨_, _, rfl, .inl (.inl ((vis_sub Z L H).rd _ _ h)), r⟩
    | tup h r =>
      cases e
      exact ⟨_, _, rfl, .inr ((vis_sub Z L H).sqT h), r⟩
    | _ => cases e
  | ol h r =>
    cases e
    exact ⟨_, _, rfl, .inl (.of h), r⟩
  | _ => cases e
theorem okSize_iff {n : Nat} : okSize n = true ↔ n ≤ sizeLine := by unfold okSize; exact decide_eq_true_iff

/-- the rule of an operation on one value, on two -/
def S1 (R : RC) (g : SV → Res SV) : V → Hp → VK → Prop := fun x H Q => ∃ Z L s r, Amb Z L H ∧ In R Z L H x s ∧ g s = .ok r ∧ Out R Z L H r Q
def S2 (R : RC) (g : SV → SV → Res SV) : R2 := fun x y H Q => ∃ Z L s t r, Amb Z L H ∧ In R Z L H x s ∧ In R Z L H y t ∧ g s t = .ok r ∧ Out R Z L H r Q

/-! ### data -/
mutual
theorem dp_of {V₀ : Hp} (sb : Sub V₀ H) : ∀ {v : V} {d : D} {p : PyData}, Rep R V₀ v d → dat d = some p → Dp R.K H v p
  | _, _, _, .non, h => by cases h; exact .non
  | _, _, _, .bl b, h => by cases h; exact .bl b
  | _, _, _, .int i, h => by cases h; exact .int i
  | _, _, _, .str x, h => by cases h; exact .str x
  | _, _, _, .tup (ds := ds) q r, h => by
    rw [dat] at h
    obtain ⟨ps, e, rfl⟩ := Option.map_eq_some_iff.mp h
    exact .tup (sb.sqT q) (dps_of sb r e)
  | _, _, _, .lst (ds := ds) q r, h => by
    rw [dat] at h
    obtain ⟨ps, e, rfl⟩ := Option.map_eq_some_iff.mp h
    exact .lst (.inl (sb.rd _ _ q)) (dps_of sb r e)
  | _, _, _, .dK _ _, h => by rw [dat] at h; cases h
  | _, _, _, .dT _ _ _ _, h => by rw [dat] at h; cases h
  | _, _, _, .dW _ _, h => by rw [dat] at h; cases h
  | _, _, _, .obj _ _ _, h => by rw [dat] at h; cases h
theorem dps_of {V₀ : Hp} (sb : Sub V₀ H) : ∀ {vs : List V} {ds : List D} {ps : List PyData}, Reps R V₀ vs ds → dats ds = some ps → DpAll R.K H vs ps
  | _, _, _, .nil, h => by cases h; exact .nil
  | _, _, _, .cons (d := d) (ds := ds) e r, h => by
    rw [dats] at h
    cases h1 : dat d with
    | none => rw [h1] at h; cases h
    | some p =>
      cases h2 : dats ds with
      | none => rw [h1, h2] at h; cases h
      | some ps =>
        rw [h1, h2] at h
        cases h
        exact .cons (dp_of sb e h1) (dps_of sb r h2)
end
theorem In.dp (i : In R Z L H x s) {p : PyData} (h : dat s.d = some p) : Dp R.K H x p := by
  obtain ⟨hu, as, _, en⟩ := i
  exact dp_of (Sub.refl H) (en.freeze (V₁ := H) hu (vis_sub Z L H) fun _ _ _ e => e) h
theorem eqD_ok {a b : D} {c : Bool} (h : eqD a b = .ok c) : ∃ p q, dat a = some p ∧ dat b = some q ∧ SeqAt.shaped p = true ∧ SeqAt.shaped q = true ∧ c = PyData.eqv p q := by
  unfold eqD at h
  split at h
  · rename_i p q h1 h2
    split at h
    · rename_i hs
      rw [Bool.and_eq_true] at hs
      cases h
      exact ⟨p, q, h1, h2, hs.1, hs.2, rfl⟩
    · cases h
  · cases h
theorem blR_ok {r : Res Bool} {s : SV} (h : blR r = .ok s) : ∃ b, r = .ok b ∧ s = .v (.bl b) := by
  cases r with
  | ok b => cases h; exact ⟨b, rfl, rfl⟩
  | exc c ns vs => cases h
  | fail => cases h
theorem map_ok {α β : Type} {g : α → β} {r : Res α} {s : β} (h : r.map g = .ok s) : ∃ b, r = .ok b ∧ s = g b := by
  cases r with
  | ok b => cases h; exact ⟨b, rfl, rfl⟩
  | exc c ns vs => cases h
  | fail => cases h
theorem ofOpt_ok {α : Type} {o : Option α} {a : α} (h : Res.ofOpt o = .ok a) : o = some a := by
  cases o with
  | none => cases h
  | some b => cases h; rfl
end

/-! ### new tuples, as what they are -/
section
variable {X : Cx}
def rCatF (K : PySem.W.Frag) : R2 := fun x y H Q => ∃ a b xs ys, x = .ref a ∧ y = .ref b ∧ SqT K H a xs ∧ SqT K H b ys ∧ xs.length + ys.length ≤ sizeLine ∧
  (xs = [] → Q (.ref b) H) ∧ (xs ≠ [] → ys = [] → Q (.ref a) H) ∧ ∀ p ob, H p = none → ob.dict = none → Q (.ref p) (upd H p (.frz ob (.tup (xs ++ ys))))
theorem op_catF : OpR X (binaryOp .Add) (rCatF X.K) := by
  intro pins s σ H x y v u Q I rx ry h
  obtain ⟨a, b, xs, ys, rfl, rfl, ha, hb, hz, q0, q1, q2⟩ := h
  by_cases hx : xs = []
  · subst hx
    cases rx
    cases ry
    obtain ⟨its, r1, p1, _⟩ := I.tuple ha
    obtain ⟨its2, r2, p2, _⟩ := I.tuple hb
    cases r1
    exact cat_tup0 p1 p2 ⟨.ref b, H, I, rfl, q0 rfl⟩
  · cases rx
    cases ry
    obtain ⟨its, r1, p1, _⟩ := I.tuple ha
    obtain ⟨its2, r2, p2, _⟩ := I.tuple hb
    refine HT.cat_tup p1 p2 (fun z => hx (r1.nil_iff.mp z)) (fun z => ⟨.ref a, H, I, rfl, q1 hx (r2.nil_iff.mp z)⟩) (fun z => ?_) (by rw [← r1.length, ← r2.length]; exact hz)
    refine ⟨.ref s.heap.objs.size, _, I.laid (t' := s.toks) (o := .frz { cls := .type "tuple", data := .seq (its ++ its2).toArray } (.tup (xs ++ ys))) (fun b ob q => Heap.get?_push_of_some _ q) (Nat.le_refl _) ?_, rfl, q2 _ _ (I.hok.fresh (Nat.le_refl _)) rfl⟩
    exact ⟨Heap.get?_push_size _ rfl, by rw [List.length_append]; exact hz, _, r1.append r2, IsTup.new _ _⟩
def rSlF (K : PySem.W.Frag) : V → Option Int → Option Int → Hp → VK → Prop := fun x lo hi H Q => ∃ a xs, x = .ref a ∧ SqT K H a xs ∧
  (HT.sIx xs.length 0 lo = 0 ∧ HT.sIx xs.length xs.length hi = xs.length → Q (.ref a) H) ∧ ∀ p ob, H p = none → ob.dict = none → Q (.ref p) (upd H p (.frz ob (.tup (cutV xs lo hi))))
theorem sl_tupF : SlR X (rSlF X.K) := by
  intro pins s σ H x v vl vu lo hi sl Q I rx hs pl pu h
  obtain ⟨a, xs, rfl, hx, q1, q2⟩ := h
  cases rx
  obtain ⟨its, r, ht, hz⟩ := I.tuple hx
  have hlen : its.toArray.size = xs.length := by rw [List.size_toArray]; exact r.length.symm
  refine ⟨"tuple", _, PyProof.Rows.slot_tuple_getitem.lookup, ht.typeIs, ?_⟩
  by_cases hw : HT.sIx xs.length 0 lo = 0 ∧ HT.sIx xs.length xs.length hi = xs.length
  · exact getItem_tuple_whole ht hs pl pu (by rw [hlen]; exact hw) ⟨.ref a, H, I, rfl, q1 hw⟩
  · refine HT.getItem_tuple_cut ht hs pl pu (by rw [hlen]; exact hw) ?_ (by rw [hlen]; exact hz)
    rw [hlen]
    refine ⟨.ref s.heap.objs.size, _, I.laid (t' := s.toks) (o := .frz { cls := .type "tuple", data := .seq ((List.drop (HT.sIx xs.length 0 lo) its.toArray.toList).take (HT.sIx xs.length xs.length hi - HT.sIx xs.length 0 lo)).toArray } (.tup (cutV xs lo hi))) (fun b ob q => Heap.get?_push_of_some _ q) (Nat.le_refl _) ?_, rfl, q2 _ _ (I.hok.fresh (Nat.le_refl _)) rfl⟩
    exact ⟨Heap.get?_push_size _ rfl, Nat.le_trans (cutV_length xs lo hi) hz, _, (r.drop (HT.sIx xs.length 0 lo)).take (HT.sIx xs.length xs.length hi - HT.sIx xs.length 0 lo), IsTup.new _ _⟩
theorem call_tupleF : CallR X (.type "tuple") (fun xs H Q => ∃ p ys, xs = [.ref p] ∧ ((SqL X.K H p ys ∧ ∀ l ob, H l = none → ob.dict = none → Q (.ref l) (upd H l (.frz ob (.tup ys)))) ∨ (SqT X.K H p ys ∧ Q (.ref p) H))) := by
  intro pins s σ H xs us Q I r h
  obtain ⟨p, ys, rfl, h⟩ := h
  obtain ⟨u, rfl, rx⟩ := vals1 r
  cases rx
  rcases h with ⟨hq, q⟩ | ⟨hq, q⟩
  · obtain ⟨its, r', pl, hz⟩ := I.list hq
    have hlen := r'.length
    refine call_tuple_list pl.isList (fun h' kp => ?_) (by simp only [List.size_toArray] <;> omega)
    have I1 : Inv X pins σ H { s with heap := h' } := I.kept (t' := s.toks) kp
    have I2 : Inv X pins σ (upd H h'.objs.size (.frz { cls := .type "tuple", data := .seq its.toArray } (.tup ys))) { s with heap := h'.push { cls := .type "tuple", data := .seq its.toArray } } :=
      I1.laid (t' := s.toks) (fun b o e => Heap.get?_push_of_some _ e) (Nat.le_refl _) (show ObjOk X.prog X.w _ _ _ (.frz _ (.tup ys)) from ⟨Heap.get?_push_size _ rfl, hz, its, r', IsTup.new _ _⟩)
    exact ⟨.ref h'.objs.size, _, I2, rfl, q _ _ (I1.hok.fresh (Nat.le_refl _)) rfl⟩
  · obtain ⟨its, r', pl, hz⟩ := I.tuple hq
    exact call_tuple_same pl ⟨.ref p, H, I, rfl, q⟩
def tTupF (t : TA) : TE := fun σ H Q => t σ H fun xs H1 => xs.length ≤ sizeLine ∧ ∀ p ob, H1 p = none → ob.dict = none → Q (.ref p) (upd H1 p (.frz ob (.tup xs)))
theorem pe_tupF {es : List Expr} {t : TA} {x1} {pos : Pos} (h : PA X es t) : PE X (.Tuple es x1 pos) (tTupF t) := by
  refine ⟨fun pins s σ H Q I hq => ?_⟩
  refine wpAny_Tuple_spliced (thn (h.run pos pins s σ H _ I hq) fun us s1 ⟨xs, H1, I1, r, z, q⟩ => ⟨by rw [← r.length]; exact z, ?_⟩)
  have hf : H1 s1.heap.objs.size = none := I1.hok.fresh (Nat.le_refl _)
  refine ⟨.ref s1.heap.objs.size, _, I1.laid (t' := s1.toks) (o := .frz { cls := .type "tuple", data := .seq us.toArray } (.tup xs)) (fun b u e => Heap.get?_push_of_some _ e) (Nat.le_refl _) ?_, rfl, q _ _ hf rfl⟩
  exact ⟨Heap.get?_push_size _ rfl, z, us, r, ⟨_, Heap.get?_push_size _ rfl, rfl, _, rfl⟩⟩
end

section
variable {X : Cx} {G : GEnv}
theorem s_eq (hu : X.A.units + 64 < cLine) : OpR X (compareOp .Eq) (S2 (rc X) (op2 G .eq)) := by
  intro pins s σ H x y v u Q I rx ry h
  obtain ⟨Z, L, sx, sy, r, A, ix, iy, e, o⟩ := h
  obtain ⟨b, e1, rfl⟩ := blR_ok e
  obtain ⟨p, q, h1, h2, h3, h4, rfl⟩ := eqD_ok e1
  exact op_eqD hu pins s σ H x y v u Q I rx ry ⟨p, q, ix.dp h1, iy.dp h2, h3, h4, o.bl⟩
theorem s_ne (hu : X.A.units + 64 < cLine) : OpR X (compareOp .NotEq) (S2 (rc X) (op2 G .ne)) := by
  intro pins s σ H x y v u Q I rx ry h
  obtain ⟨Z, L, sx, sy, r, A, ix, iy, e, o⟩ := h
  obtain ⟨b, e1, rfl⟩ := blR_ok e
  obtain ⟨c, e2, rfl⟩ := map_ok e1
  obtain ⟨p, q, h1, h2, h3, h4, rfl⟩ := eqD_ok e2
  exact op_neD hu pins s σ H x y v u Q I rx ry ⟨p, q, ix.dp h1, iy.dp h2, h3, h4, o.bl⟩
/-- two ints -/
theorem ints_ok {f : Int → Int → Res SV} {s t r : SV} (h : (match s, t with | .v (.int i), .v (.int j) => f i j | _, _ => .fail) = .ok r) : ∃ i j, s = .v (.int i) ∧ t = .v (.int j) ∧ f i j = .ok r := by
  split at h
  · exact ⟨_, _, rfl, rfl, h⟩
  · cases h
theorem s_lt : OpR X (compareOp .Lt) (S2 (rc X) (op2 G .lt)) := by
  intro pins s σ H x y v u Q I rx ry h
  obtain ⟨Z, L, sx, sy, r, A, ix, iy, e, o⟩ := h
  obtain ⟨i, j, rfl, rfl, e⟩ := ints_ok (f := fun i j => .ok (.v (.bl (decide (i < j))))) e
  cases e
  exact op_lt pins s σ H x y v u Q I rx ry ⟨i, j, ix.int, iy.int, o.bl⟩
theorem s_le : OpR X (compareOp .LtE) (S2 (rc X) (op2 G .le)) := by
  intro pins s σ H x y v u Q I rx ry h
  obtain ⟨Z, L, sx, sy, r, A, ix, iy, e, o⟩ := h
  obtain ⟨i, j, rfl, rfl, e⟩ := ints_ok (f := fun i j => .ok (.v (.bl (decide (i ≤ j))))) e
  cases e
  exact op_le pins s σ H x y v u Q I rx ry ⟨i, j, ix.int, iy.int, o.bl⟩
theorem s_gt : OpR X (compareOp .Gt) (S2 (rc X) (op2 G .gt)) := by
  intro pins s σ H x y v u Q I rx ry h
  obtain ⟨Z, L, sx, sy, r, A, ix, iy, e, o⟩ := h
  obtain ⟨i, j, rfl, rfl, e⟩ := ints_ok (f := fun i j => .ok (.v (.bl (decide (j < i))))) e
  cases e
  exact op_gt pins s σ H x y v u Q I rx ry ⟨i, j, ix.int, iy.int, o.bl⟩
theorem s_ge : OpR X (compareOp .GtE) (S2 (rc X) (op2 G .ge)) := by
  intro pins s σ H x y v u Q I rx ry h
  obtain ⟨Z, L, sx, sy, r, A, ix, iy, e, o⟩ := h
  obtain ⟨i, j, rfl, rfl, e⟩ := ints_ok (f := fun i j => .ok (.v (.bl (decide (j ≤ i))))) e
  cases e
  exact op_ge pins s σ H x y v u Q I rx ry ⟨i, j, ix.int, iy.int, o.bl⟩
theorem s_sub : OpR X (binaryOp .Sub) (S2 (rc X) (op2 G .sub)) := by
  intro pins s σ H x y v u Q I rx ry h
  obtain ⟨Z, L, sx, sy, r, A, ix, iy, e, o⟩ := h
  obtain ⟨i, j, rfl, rfl, e⟩ := ints_ok (f := fun i j => .ok (.v (.int (i - j)))) e
  cases e
  exact op_sub pins s σ H x y v u Q I rx ry ⟨i, j, ix.int, iy.int, o.int⟩
theorem s_band : OpR X (binaryOp .BitAnd) (S2 (rc X) (op2 G .band)) := by
  intro pins s σ H x y v u Q I rx ry h
  obtain ⟨Z, L, sx, sy, r, A, ix, iy, e, o⟩ := h
  obtain ⟨i, j, rfl, rfl, e⟩ := ints_ok (f := fun i j => .ok (.v (.int (Builtin.bitAnd i j)))) e
  cases e
  exact op_and pins s σ H x y v u Q I rx ry ⟨i, j, ix.int, iy.int, o.int⟩
theorem ite_ok {α : Type} {c : Prop} [Decidable c] {a : Res α} {r : α} (h : (if c then a else .fail) = .ok r) : c ∧ a = .ok r := by
  split at h
  · exact ⟨‹_›, h⟩
  · cases h
theorem s_mul : OpR X (binaryOp .Mult) (S2 (rc X) (op2 G .mul)) := by
  intro pins s σ H x y v u Q I rx ry h
  obtain ⟨Z, L, sx, sy, r, A, ix, iy, e, o⟩ := h
  obtain ⟨i, j, rfl, rfl, e⟩ := ints_ok (f := fun i j => if (-(2 ^ 64) < i ∧ i < 2 ^ 64) ∨ (-(2 ^ 64) < j ∧ j < 2 ^ 64) then .ok (.v (.int (i * j))) else .fail) e
  obtain ⟨c, e⟩ := ite_ok e
  cases e
  exact op_mul pins s σ H x y v u Q I rx ry ⟨i, j, ix.int, iy.int, c, o.int⟩
theorem s_fdiv : OpR X (binaryOp .FloorDiv) (S2 (rc X) (op2 G .fdiv)) := by
  intro pins s σ H x y v u Q I rx ry h
  obtain ⟨Z, L, sx, sy, r, A, ix, iy, e, o⟩ := h
  obtain ⟨i, j, rfl, rfl, e⟩ := ints_ok (f := fun i j => if 0 < j ∧ j < 1073741824 then .ok (.v (.int (i / j))) else .fail) e
  obtain ⟨c, e⟩ := ite_ok e
  cases e
  exact op_fdiv pins s σ H x y v u Q I rx ry ⟨i, j, ix.int, iy.int, c, o.int⟩
theorem s_mod : OpR X (binaryOp .Mod) (S2 (rc X) (op2 G .mod)) := by
  intro pins s σ H x y v u Q I rx ry h
  obtain ⟨Z, L, sx, sy, r, A, ix, iy, e, o⟩ := h
  obtain ⟨i, j, rfl, rfl, e⟩ := ints_ok (f := fun i j => if 0 < j then .ok (.v (.int (i % j))) else .fail) e
  obtain ⟨c, e⟩ := ite_ok e
  cases e
  exact op_mod pins s σ H x y v u Q I rx ry ⟨i, j, ix.int, iy.int, c, o.int⟩
theorem s_pow : OpR X (binaryOp .Pow) (S2 (rc X) (op2 G .pow)) := by
  intro pins s σ H x y v u Q I rx ry h
  obtain ⟨Z, L, sx, sy, r, A, ix, iy, e, o⟩ := h
  obtain ⟨i, j, rfl, rfl, e⟩ := ints_ok (f := fun i j => if 0 ≤ j ∧ j ≤ 1000000 ∧ i.natAbs < 2 ^ 64 then .ok (.v (.int (i ^ j.toNat))) else .fail) e
  obtain ⟨c, e⟩ := ite_ok e
  cases e
  exact op_pow pins s σ H x y v u Q I rx ry ⟨i, j, ix.int, iy.int, c, o.int⟩
/-- list + list, however they stand -/
theorem op_catS : OpR X (binaryOp .Add) (fun x y H Q => ∃ l b xs zs, x = .ref l ∧ y = .ref b ∧ Rd H l (.lst xs) ∧ Rd H b (.lst zs) ∧ xs.length + zs.length ≤ sizeLine ∧ ∀ p, H p = none → Q (.ref p) (upd H p (.lst (xs ++ zs)))) := by
  intro pins s σ H x y v u Q I rx ry h
  obtain ⟨l, b, xs, zs, rfl, rfl, hH, hB, hz, q⟩ := h
  cases rx
  cases ry
  obtain ⟨z, its, n, r, e⟩ := hH.ok I.hok
  obtain ⟨z2, its2, n2, r2, e2⟩ := hB.ok I.hok
  have hl := r.length
  have hl2 := r2.length
  refine PySem.P.add_list e e2 ?_ (by rw [List.size_toArray, List.size_toArray]; omega)
  have ea : its.toArray ++ its2.toArray = (its ++ its2).toArray := by simp
  rw [ea]
  exact ⟨.ref _, _, I.lnew (t' := s.toks) (r.append r2) (by rw [List.length_append]; omega), rfl, q _ I.fresh⟩
theorem s_add : OpR X (binaryOp .Add) (S2 (rc X) (op2 G .add)) := by
  intro pins s σ H x y v u Q I rx ry h
  obtain ⟨Z, L, sx, sy, r, A, ix, iy, e, o⟩ := h
  simp only [op2] at e
  split at e
  · cases e
    exact op_add pins s σ H x y v u Q I rx ry ⟨_, _, ix.int, iy.int, o.int⟩
  · obtain ⟨c, e⟩ := ite_ok e
    cases e
    exact op_add_str pins s σ H x y v u Q I rx ry ⟨_, _, ix.str, iy.str, okSize_iff.mp c, o.str⟩
  · unfold ckTup at e
    obtain ⟨c, e⟩ := ite_ok e
    cases e
    obtain ⟨a, xs, rfl, h1, q1⟩ := ix.tup
    obtain ⟨b, ys, rfl, h2, q2⟩ := iy.tup
    have c' := okSize_iff.mp c
    rw [List.length_append] at c'
    have l1 := q1.length
    have l2 := q2.length
    refine op_catF pins s σ H _ _ v u Q I rx ry ⟨a, b, xs, ys, rfl, rfl, h1, h2, by omega, fun z => ?_, fun _ z => ?_, fun p ob hp hob => o.newT hob A (q1.append q2) hp⟩
    · subst z
      cases q1
      exact o.val (iy.val rfl)
    · subst z
      cases q2
      rw [List.append_nil] at o
      exact o.val (ix.val rfl)
  · split at e
    · rename_i d1 d2 e1 e2
      unfold ckList at e
      obtain ⟨c, e⟩ := ite_ok e
      cases e
      obtain ⟨a, xs, rfl, h1, q1⟩ := ix.lst e1
      obtain ⟨b, ys, rfl, h2, q2⟩ := iy.lst e2
      have c' := okSize_iff.mp c
      rw [List.length_append] at c'
      have l1 := q1.length
      have l2 := q2.length
      exact op_catS pins s σ H _ _ v u Q I rx ry ⟨a, b, xs, ys, rfl, rfl, h1, h2, by omega, fun p hp => o.newL (q1.append q2) hp⟩
    · cases e
end
end Dv

set_option Elab.async false
set_option linter.all false
set_option maxRecDepth 100000
set_option maxHeartbeats 4000000
/-! dicts: what stands at a key -/
namespace Dv
open PySem PySem.Spec PyProof.Rows L2

/-- the dict at a, at the key u -/
inductive DAt (X : Cx) (s : Shared) (a : Addr) (u : Value) (ov : Option V) : Prop
  | flat {κ : Type} [DecidableEq κ] (knd : KeyKind X.prog X.w κ) (k : κ) (f : κ → Option Value) : knd.is k u = true → s.heap.MapOf knd a f → RelO ov (f k) → DAt X s a u ov
  | deep (k : NestedKey) (xs : List (NestedKey × Addr × Value)) (b : Addr) : u = .ref b → (nestedKind X.prog X.w).is s.heap k b → s.heap.DictOfH (nestedKind X.prog X.w) a xs → RelO ov ((atKey xs k).map (·.2)) → DAt X s a u ov

section
variable {X : Cx} {pins : List (Addr × Obj)} {σ : L2.St} {H : Hp} {s : Shared} {a : Addr} {u : Value} {ov : Option V} {A : Around} {E : Value → Shared → Prop}
theorem room_in1 (hu : A.units + 16 < cLine) : (nestedKind X.prog X.w).room A.in1 := by
  show A.units + 1 + 8 < cLine
  omega
theorem DAt.typeIs (d : DAt X s a u ov) : s.TypeIs (.ref a) "dict" := by
  cases d with
  | flat knd k f h1 h2 h3 => exact h2.typeIs
  | deep k xs b h0 h1 h2 h3 => exact h2.typeIs
theorem DAt.noDict (d : DAt X s a u ov) : ∀ b, Value.ref a = .ref b → ∃ ob, s.heap.get? b = some ob ∧ ob.dict = none := fun b q => by
  cases q
  cases d with
  | flat knd k f h1 h2 h3 =>
    obtain ⟨ob, _, _, e1, e2, _⟩ := h2
    exact ⟨ob, e1, e2.2.1⟩
  | deep k xs b h0 h1 h2 h3 =>
    obtain ⟨ob, _, _, e1, e2, _⟩ := h2
    exact ⟨ob, e1, e2.2.1⟩
theorem DAt.get {v : V} {Q : Value → Shared → Prop} (d : DAt X s a u (some v)) (hu : A.units + 16 < cLine) (I : Inv X pins σ H s) (h : ∀ w' s', Inv X pins σ H s' → RelV v w' → Q w' s') :
    wpAny (model X.prog X.w) A (getItem (.ref a) u) Q E s := by
  cases d with
  | flat knd k f h1 h2 h3 =>
    obtain ⟨w', hw, rw'⟩ := RelO.some_of (v := v) (o := f k) h3
    exact wpAny_getItem_of h1 h2 hw (h w' _ (I.tok _) rw')
  | deep k xs b h0 h1 h2 h3 =>
    subst h0
    obtain ⟨w', hw, rw'⟩ := RelO.some_of (v := v) (o := (atKey xs k).map (·.2)) h3
    obtain ⟨p, hp, hp2⟩ := Option.map_eq_some_iff.mp hw
    refine wpAny_getItem_heap (room_in1 (X := X) hu) h1 h2 hp ?_
    rw [hp2]
    exact h w' _ (I.tok _) rw'
theorem DAt.mem {Q : Value → Shared → Prop} (d : DAt X s a u ov) (hd : (a == sysModules) = false) (hu : A.units + 16 < cLine) (I : Inv X pins σ H s) (h : ∀ s', Inv X pins σ H s' → Q (.bool ov.isSome) s') :
    wpAny (model X.prog X.w) A (compareOp .In u (.ref a)) Q E s := by
  cases d with
  | flat knd k f h1 h2 h3 =>
    refine wpAny_in_of h1 hd h2 ?_
    rw [← h3.isSome_eq]
    exact h _ (I.tok _)
  | deep k xs b h0 h1 h2 h3 =>
    subst h0
    refine wpAny_in_heap (room_in1 (X := X) hu) h1 hd h2 ?_
    have q := h3.isSome_eq
    rw [Option.isSome_map] at q
    rw [← q]
    exact h _ (I.tok _)
theorem DAt.nmem {Q : Value → Shared → Prop} (d : DAt X s a u ov) (hd : (a == sysModules) = false) (hu : A.units + 16 < cLine) (I : Inv X pins σ H s) (h : ∀ s', Inv X pins σ H s' → Q (.bool (!ov.isSome)) s') :
    wpAny (model X.prog X.w) A (compareOp .NotIn u (.ref a)) Q E s := by
  cases d with
  | flat knd k f h1 h2 h3 =>
    refine wpAny_notIn_of h1 hd h2 ?_
    rw [← h3.isSome_eq]
    exact h _ (I.tok _)
  | deep k xs b h0 h1 h2 h3 =>
    subst h0
    refine wpAny_notIn_heap (room_in1 (X := X) hu) h1 hd h2 ?_
    have q := h3.isSome_eq
    rw [Option.isSome_map] at q
    rw [← q]
    exact h _ (I.tok _)
theorem DAt.get3 {d' : V} {r : Value} {Q : Value → Shared → Prop} (d : DAt X s a u ov) (hd : (a == sysModules) = false) (hu : A.units + 16 < cLine) (I : Inv X pins σ H s) (rd : RelV d' r) (h : ∀ w' s', Inv X pins σ H s' → RelV (ov.getD d') w' → Q w' s') :
    wpAny (model X.prog X.w) A (call (.builtin "dict.get") [.ref a, u, r]) Q E s := by
  have hT := d.typeIs
  cases d with
  | flat knd k f h1 h2 h3 =>
    exact call_meetsIn PySem.F.slot_dict_get hT PySem.F.entry_dict_get (PySem.F.args_dict_get_3 _ _ _) (meets_dict_get_default knd a h1 hd r) ⟨_, h2, h _ _ (I.tok _) (h3.getD rd)⟩
  | deep k xs b h0 h1 h2 h3 =>
    subst h0
    exact call_meetsIn PySem.F.slot_dict_get hT PySem.F.entry_dict_get (PySem.F.args_dict_get_3 _ _ _) (meetsH_dict_get_default (nestedKind X.prog X.w) a b hd r) ⟨room_in1 (X := X) hu, k, xs, h1, h2, h _ _ (I.tok _) (h3.getD rd)⟩
end

/-! ### keys in the heap -/
section
variable {X : Cx} {pins : List (Addr × Obj)} {σ : L2.St} {H V₀ : Hp} {s : Shared}
mutual
theorem nk_of (I : Inv X pins σ H s) (sb : Sub V₀ H) : ∀ {v : V} {d : D} {k : NestedKey} {u : Value}, Rep (rc X) V₀ v d → keyOf d = some k → RelV v u → NestedIs s.heap k u
  | _, _, _, _, .non, h, r => by cases h; cases r; exact .none
  | _, _, _, _, .bl b, h, r => by cases h; cases r; exact .bool rfl
  | _, _, _, _, .int i, h, r => by cases h; obtain ⟨t, rfl⟩ := r; exact .int _ _
  | _, _, _, _, .str x, h, r => by cases h; obtain ⟨t, rfl⟩ := r; exact .text _ _
  | _, _, _, _, .tup q e, h, r => by
    rw [keyOf] at h
    obtain ⟨ks, e1, rfl⟩ := Option.map_eq_some_iff.mp h
    cases r
    obtain ⟨its, rv, ⟨o, ho, hc, n, hd⟩, hz⟩ := I.tuple (sb.sqT q)
    exact .tup ho hc hd (nks_of I sb e e1 rv)
  | _, _, _, _, .lst _ _, h, _ => by rw [keyOf] at h; cases h
  | _, _, _, _, .dK _ _, h, _ => by rw [keyOf] at h; cases h
  | _, _, _, _, .dT _ _ _ _, h, _ => by rw [keyOf] at h; cases h
  | _, _, _, _, .dW _ _, h, _ => by rw [keyOf] at h; cases h
  | _, _, _, _, .obj _ _ _, h, _ => by rw [keyOf] at h; cases h
theorem nks_of (I : Inv X pins σ H s) (sb : Sub V₀ H) : ∀ {vs : List V} {ds : List D} {ks : List NestedKey} {us : List Value}, Reps (rc X) V₀ vs ds → keysOf ds = some ks → Vals vs us → NestedAll s.heap ks us
  | _, _, _, _, .nil, h, r => by cases h; cases r; exact .nil
  | _, _, _, _, .cons (d := d) (ds := ds) e q, h, r => by
    rw [keysOf] at h
    cases r with
    | cons r1 r2 =>
      cases h1 : keyOf d with
      | none => rw [h1] at h; cases h
      | some p =>
        cases h2 : keysOf ds with
        | none => rw [h1, h2] at h; cases h
        | some ps =>
          rw [h1, h2] at h
          cases h
          exact .cons (nk_of I sb e h1 r1) (nks_of I sb q h2 r2)
end
theorem tupKey_ok {d : D} (h : tupKey d = true) : ∃ ds k, d = .tup ds ∧ keyOf d = some k ∧ k.depth ≤ 8 := by
  unfold tupKey at h
  split at h
  · split at h
    · rename_i k e
      exact ⟨_, k, rfl, e, of_decide_eq_true h⟩
    · cases h
  · cases h
theorem flatKey_ok {d : D} (h : flatKey d = true) : (∃ i, d = .int i) ∨ ∃ x, d = .str x := by
  cases d <;> first | exact .inl ⟨_, rfl⟩ | exact .inr ⟨_, rfl⟩ | cases h
def nkD : Key → NestedKey
  | .inl i => .num i
  | .inr x => .text x
theorem keyOf_kD (k : Key) : keyOf (kD k) = some (nkD k) := by cases k <;> rfl
theorem kD_flat (k : Key) : flatKey (kD k) = true := by cases k <;> rfl
theorem kD_inj {k k' : Key} (h : keyOf (kD k) = keyOf (kD k')) : k = k' := by
  rw [keyOf_kD, keyOf_kD] at h
  cases k <;> cases k' <;> simp only [nkD, Option.some.injEq, NestedKey.num.injEq, NestedKey.text.injEq, reduceCtorEq] at h <;> rw [h]
theorem tup_not_flat {d : D} (h : tupKey d = true) : flatKey d = false := by
  obtain ⟨ds, k, rfl, _⟩ := tupKey_ok h
  rfl
/-- a dict of texts and ints, looked up -/
theorem at_flat {R : RC} : ∀ {kvs : List (Key × V)} {ds : List D} (k : Key), Reps R V₀ (kvs.map (·.2)) ds →
    (∀ d, dctAt (kvs.map fun p => kD p.1) ds (nkD k) = some d → ∃ v, valV kvs k = some v ∧ Rep R V₀ v d) ∧
    (dctAt (kvs.map fun p => kD p.1) ds (nkD k) = none → valV kvs k = none)
  | [], _, k, r => by
    cases r
    exact ⟨fun d h => by simp [dctAt] at h, fun _ => rfl⟩
  | p :: kvs, _, k, .cons (d := d0) (ds := ds) e r => by
    have ih := at_flat k r
    by_cases h : p.1 = k
    · have h' : keyOf (kD p.1) = some (nkD k) := by rw [h, keyOf_kD]
      rw [List.map_cons, dctAt, if_pos h', valV_pos h]
      exact ⟨fun d q => ⟨_, rfl, by cases q; exact e⟩, fun q => by cases q⟩
    · have h' : ¬ keyOf (kD p.1) = some (nkD k) := fun q => h (kD_inj (by rw [q, keyOf_kD]))
      rw [List.map_cons, dctAt, if_neg h', valV_neg h]
      exact ih
theorem keysOf_map {es : List (NestedKey × Addr × V)} : ∀ {ks : List D}, keysOf ks = some (es.map (·.1)) → ks.map keyOf = es.map fun e => some e.1 := by
  induction es with
  | nil =>
    intro ks h
    cases ks with
    | nil => rfl
    | cons d ds =>
      rw [keysOf] at h
      cases h1 : keyOf d <;> cases h2 : keysOf ds <;> rw [h1, h2] at h <;> simp at h
  | cons e es ih =>
    intro ks h
    cases ks with
    | nil => simp [keysOf] at h
    | cons d ds =>
      rw [keysOf] at h
      cases h1 : keyOf d with
      | none => rw [h1] at h; cases h
      | some p =>
        cases h2 : keysOf ds with
        | none => rw [h1, h2] at h; cases h
        | some ps =>
          rw [h1, h2] at h
          simp only [List.map_cons, Option.some.injEq, List.cons.injEq] at h
          obtain ⟨e1, e2⟩ := h
          subst e1
          rw [e2] at h2
          rw [List.map_cons, List.map_cons, h1, ih h2]
/-- one of tuples -/
theorem at_deep {R : RC} {Rl : V → Value → Prop} : ∀ {es : List (NestedKey × Addr × V)} {xs : List (NestedKey × Addr × Value)} {ks ds : List D} (k : NestedKey), ks.map keyOf = es.map (fun e => some e.1) → Reps R V₀ (es.map (·.2.2)) ds →
    Paired (fun (p : NestedKey × Addr × V) (q : NestedKey × Addr × Value) => p.1 = q.1 ∧ p.2.1 = q.2.1 ∧ RelV p.2.2 q.2.2) es xs →
    (∀ d, dctAt ks ds k = some d → ∃ v w, (atKey xs k).map (·.2) = some w ∧ RelV v w ∧ Rep R V₀ v d) ∧ (dctAt ks ds k = none → (atKey xs k).map (·.2) = none)
  | [], _, ks, _, k, h, r, .nil => by
    cases r
    cases ks with
    | nil => exact ⟨fun d h => by simp [dctAt] at h, fun _ => rfl⟩
    | cons _ _ => simp at h
  | e :: es, q :: xs, ks, _, k, h, .cons (d := d0) (ds := ds) rp r, .cons ⟨h1, h2, h3⟩ pr => by
    cases ks with
    | nil => simp at h
    | cons kd ks =>
      rw [List.map_cons, List.map_cons, List.cons.injEq] at h
      have ih := at_deep (Rl := Rl) k h.2 r pr
      rw [dctAt]
      by_cases hk : e.1 = k
      · have a1 : (atKey (q :: xs) k).map (·.2) = some q.2.2 := by simp [atKey, List.find?_cons, ← h1, hk]
        rw [if_pos (by rw [h.1, hk]), a1]
        exact ⟨fun d z => ⟨_, _, rfl, h3, by cases z; exact rp⟩, fun z => by cases z⟩
      · have a1 : (atKey (q :: xs) k).map (·.2) = (atKey xs k).map (·.2) := by simp [atKey, List.find?_cons, ← h1, hk]
        rw [if_neg (by rw [h.1]; exact fun z => hk (Option.some.inj z)), a1]
        exact ih

/-- a table of tuples, in the heap -/
theorem tab_at (I : Inv X pins σ H s) {a : Addr} {es : List (NestedKey × Addr × V)} {ks : List D} (sb : Sub V₀ H) (h : Rd H a (DTab (rc X) a es)) (hk : Reps (rc X) V₀ (es.map fun e => .ref e.2.1) ks) (kk : keysOf ks = some (es.map (·.1))) :
    es.length ≤ sizeLine ∧ (a == sysModules) = false ∧ ∃ xs, Paired (fun (p : NestedKey × Addr × V) (q : NestedKey × Addr × Value) => p.1 = q.1 ∧ p.2.1 = q.2.1 ∧ RelV p.2.2 q.2.2) es xs ∧ s.heap.DictOfH (nestedKind X.prog X.w) a xs := by
  obtain ⟨⟨hz, hd, xs, pr, hdep, o, en, ep, ho, hx, hdt, he, nd⟩, _, _⟩ := h.ok I.hok
  refine ⟨hz, hd, xs, pr, o, en, ep, ho, hx, hdt, he, ?_, nd⟩
  have gen : ∀ {es : List (NestedKey × Addr × V)} {xs : List (NestedKey × Addr × Value)} {ks : List D}, Paired (fun (p : NestedKey × Addr × V) (q : NestedKey × Addr × Value) => p.1 = q.1 ∧ p.2.1 = q.2.1 ∧ RelV p.2.2 q.2.2) es xs →
      Reps (rc X) V₀ (es.map fun e => .ref e.2.1) ks → ks.map keyOf = es.map (fun e => some e.1) → ∀ x ∈ xs, NestedIs s.heap x.1 (.ref x.2.1) := by
    intro es xs ks pr
    induction pr generalizing ks with
    | nil => intro _ _ x hx; cases hx
    | @cons p q ps qs h t ih =>
      intro rk mk x hx
      rw [List.map_cons] at rk
      cases rk with
      | cons r1 r2 =>
        rw [List.map_cons, List.map_cons, List.cons.injEq] at mk
        rcases List.mem_cons.mp hx with rfl | hx
        · rw [← h.1, ← h.2.1]
          exact nk_of I sb r1 mk.1 rfl
        · exact ih r2 mk.2 x hx
  exact fun x hx => ⟨gen pr hk (keysOf_map kk) x hx, hdep x hx⟩
/-- an empty dict is a table of tuples -/
theorem empty_at (I : Inv X pins σ H s) {a : Addr} (h : Rd H a (.dK [])) : (a == sysModules) = false ∧ s.heap.DictOfH (nestedKind X.prog X.w) a [] := by
  obtain ⟨z, hd, vs, rel, dd⟩ := dk_rd I.hok h
  cases rel
  obtain ⟨o, es, ep, h1, h2, h3, h4, h5, _⟩ := dd
  refine ⟨hd, o, es, ep, h1, h2, h3, ?_, (fun x h => by cases h), List.nodup_nil⟩
  cases q : es.toList with
  | nil => rfl
  | cons e r => rw [q] at h5; cases h5

/-- what a dict's operand is -/
inductive DKind (R : RC) (V₀ H : Hp) (a : Addr) (ks ds : List D) : Prop
  | k (kvs : List (Key × V)) : Rd H a (.dK kvs) → ks = kvs.map (fun p => kD p.1) → Reps R V₀ (kvs.map (·.2)) ds → DKind R V₀ H a ks ds
  | t (es : List (NestedKey × Addr × V)) : Rd H a (DTab R a es) → Reps R V₀ (es.map fun e => .ref e.2.1) ks → keysOf ks = some (es.map (·.1)) → Reps R V₀ (es.map (·.2.2)) ds → DKind R V₀ H a ks ds
  | w (kvs : List (Str × V)) : WrDict R a kvs → ks = kvs.map (fun p => .str p.1) → Reps R V₀ (kvs.map (·.2)) ds → DKind R V₀ H a ks ds
theorem In.dct {R : RC} {Z : Addr → Prop} {L : List Addr} {H : Hp} {x : V} {sx : SV} {ks ds : List D} (i : In R Z L H x sx) (e : sx.dct? = some (ks, ds)) : ∃ a, x = .ref a ∧ DKind R (vis Z L H) H a ks ds := by
  obtain ⟨_, _, _, en⟩ := i
  cases en with
  | v e' =>
    cases e' with
    | dK h r => cases e; exact ⟨_, rfl, .k _ ((vis_sub Z L H).rd _ _ h) rfl r⟩
    | dT h r k q => cases e; exact ⟨_, rfl, .t _ ((vis_sub Z L H).rd _ _ h) r k q⟩
    | dW h r => cases e; exact ⟨_, rfl, .w _ h rfl r⟩
    | _ => cases e
  | odK h r => cases e; exact ⟨_, rfl, .k _ (.inl h) rfl r⟩
  | odT hne h r k q => cases e; exact ⟨_, rfl, .t _ (.inl h) r k q⟩
  | _ => cases e
theorem RelO.nn {o : Option V} (h : o = none) {w : Option Value} (h' : w = none) : RelO o w := by rw [h, h']; trivial
theorem flat_tups {es : List (NestedKey × Addr × V)} {R : RC} {V₀ : Hp} {ks : List D} (r : Reps R V₀ (es.map fun e => .ref e.2.1) ks) (h : ks.all flatKey = true) : es = [] ∧ ks = [] := by
  cases es with
  | nil => cases r; exact ⟨rfl, rfl⟩
  | cons e es =>
    rw [List.map_cons] at r
    cases r with
    | cons r1 r2 =>
      rw [List.all_cons, Bool.and_eq_true] at h
      rcases flatKey_ok h.1 with ⟨i, rfl⟩ | ⟨x, rfl⟩ <;> cases r1
theorem tups_flat {kvs : List (Key × V)} (h : (kvs.map fun p => kD p.1).all tupKey = true) : kvs = [] := by
  cases kvs with
  | nil => rfl
  | cons p kvs =>
    rw [List.map_cons, List.all_cons, Bool.and_eq_true] at h
    have := tup_not_flat h.1
    rw [kD_flat] at this
    cases this
theorem flat_key {y : V} {t : SV} {R : RC} {Z : Addr → Prop} {L : List Addr} {H : Hp} (iy : In R Z L H y t) (h : flatKey t.d = true) : ∃ k, y = kV k ∧ t.d = kD k ∧ t = .v (kD k) := by
  cases t with
  | v d =>
    rcases flatKey_ok h with ⟨i, e⟩ | ⟨x, e⟩
    · have e' : d = .int i := e
      subst e'
      exact ⟨.inl i, iy.int, rfl, rfl⟩
    · have e' : d = .str x := e
      subst e'
      exact ⟨.inr x, iy.str, rfl, rfl⟩
  | _ => cases h
theorem tup_key {y : V} {t : SV} {R : RC} {Z : Addr → Prop} {L : List Addr} {H : Hp} (iy : In R Z L H y t) (h : tupKey t.d = true) : ∃ b k, y = .ref b ∧ keyOf t.d = some k ∧ k.depth ≤ 8 ∧ Rep R (vis Z L H) y t.d := by
  obtain ⟨ds, k, e, hk, hd⟩ := tupKey_ok h
  cases t with
  | v d =>
    have e' : d = .tup ds := e
    subst e'
    obtain ⟨b, xs, rfl, _, _⟩ := iy.tup
    exact ⟨b, k, rfl, hk, hd, iy.val rfl⟩
  | _ => cases e
theorem at_written {R : RC} : ∀ {kvs : List (Str × V)} {es : Array DictEntry} {ds : List D} (k : Key), Reps R V₀ (kvs.map (·.2)) ds → Paired (fun (p : Str × V) (e : DictEntry) => (∃ t, e.key = .str p.1 t) ∧ RelV p.2 e.val) kvs es.toList →
    (∀ d, dctAt (kvs.map fun p => .str p.1) ds (nkD k) = some d → ∃ v w, findBy keyIs es k = some w ∧ RelV v w ∧ Rep R V₀ v d) ∧ (dctAt (kvs.map fun p => .str p.1) ds (nkD k) = none → findBy keyIs es k = none) := by
  intro kvs es ds k r pr
  obtain ⟨es⟩ := es
  have e0 : findBy keyIs ⟨es⟩ k = (es.find? fun e => keyIs k e.key).map (·.val) := by simp [findBy]
  rw [e0]
  clear e0
  replace pr : Paired (fun (p : Str × V) (e : DictEntry) => (∃ t, e.key = .str p.1 t) ∧ RelV p.2 e.val) kvs es := pr
  induction pr generalizing ds with
  | nil =>
    cases r
    exact ⟨fun d h => by simp [dctAt] at h, fun _ => rfl⟩
  | @cons p e ps es h t ih =>
    rw [List.map_cons] at r
    cases r with
    | @cons _ d0 _ ds r1 r2 =>
      obtain ⟨⟨tk, hk⟩, hv⟩ := h
      rw [List.map_cons, dctAt, List.find?_cons, hk]
      cases k with
      | inl i =>
        have n1 : ¬ keyOf (D.str p.1) = some (nkD (.inl i)) := fun z => by simp [keyOf, nkD] at z
        have n2 : keyIs (.inl i) (.str p.1 tk) = false := rfl
        rw [if_neg n1, n2]
        exact ih r2
      | inr x =>
        by_cases hx : p.1 = x
        · subst hx
          have n1 : keyOf (D.str p.1) = some (nkD (.inr p.1)) := rfl
          rw [if_pos n1, keyIs_str]
          exact ⟨fun d z => ⟨_, _, rfl, hv, by cases z; exact r1⟩, fun z => by cases z⟩
        · have n1 : ¬ keyOf (D.str p.1) = some (nkD (.inr x)) := fun z => by simp [keyOf, nkD] at z; exact hx z
          have n2 : keyIs (.inr x) (.str p.1 tk) = false := by simp [keyIs, Value.isStrOf, hx]
          rw [if_neg n1, n2]
          exact ih r2
/-- the operand dict at the operand key -/
theorem In.dget {Z : Addr → Prop} {L : List Addr} {x y : V} {sx t : SV} {ks ds : List D} {o : Option D} {u : Value} (I : Inv X pins σ H s) (ix : In (rc X) Z L H x sx) (e : sx.dct? = some (ks, ds)) (iy : In (rc X) Z L H y t) (ry : RelV y u)
    (hk : dctKeyR ks ds t.d = .ok o) : ∃ a ov, x = .ref a ∧ (a == sysModules) = false ∧ DAt X s a u ov ∧ ov.isSome = o.isSome ∧ (∀ d, o = some d → ∃ v, ov = some v ∧ Rep (rc X) (vis Z L H) v d) := by
  obtain ⟨a, rfl, dk⟩ := ix.dct e
  obtain ⟨nk, hnk, hk⟩ : ∃ nk, keyOf t.d = some nk ∧ (if sameSort ks t.d = true then Res.ok (dctAt ks ds nk) else .fail) = .ok o := by
    unfold dctKeyR at hk
    cases q : keyOf t.d with
    | none => rw [q] at hk; cases hk
    | some nk => rw [q] at hk; exact ⟨nk, rfl, hk⟩
  obtain ⟨hs, hk⟩ := ite_ok hk
  have ho : o = dctAt ks ds nk := by cases hk; rfl
  unfold sameSort at hs
  rw [Bool.or_eq_true, Bool.and_eq_true, Bool.and_eq_true] at hs
  -- what a look-up by V gives
  have fin : ∀ ov : Option V, ((∀ d, dctAt ks ds nk = some d → ∃ v, ov = some v ∧ Rep (rc X) (vis Z L H) v d) ∧ (dctAt ks ds nk = none → ov = none)) → ov.isSome = o.isSome ∧ ∀ d, o = some d → ∃ v, ov = some v ∧ Rep (rc X) (vis Z L H) v d := fun ov q => by
    subst ho
    cases q' : dctAt ks ds nk with
    | none => rw [q.2 q']; exact ⟨rfl, fun d z => by cases z⟩
    | some d =>
      obtain ⟨v, h1, h2⟩ := q.1 d q'
      rw [h1]
      exact ⟨rfl, fun d' z => by cases z; exact ⟨v, rfl, h2⟩⟩
  rcases hs with ⟨hf, hfs⟩ | ⟨ht, hts⟩
  · obtain ⟨k, rfl, ek, _⟩ := flat_key iy hf
    have enk : nk = nkD k := by rw [ek, keyOf_kD] at hnk; exact (Option.some.inj hnk).symm
    subst enk
    cases dk with
    | k kvs h e2 r =>
      subst e2
      obtain ⟨z, hd, vs, rel, dd⟩ := dk_rd I.hok h
      have q := at_flat k r
      obtain ⟨f1, f2⟩ := fin (valV kvs k) q
      exact ⟨a, valV kvs k, rfl, hd, .flat (mixKind X.prog X.w) k _ (kV_is ry) dd.mapOf (rel.val k), f1, f2⟩
    | t es h r kk r2 =>
      obtain ⟨rfl, rfl⟩ := flat_tups r hfs
      cases r2
      obtain ⟨z, hd, xs, pr, dh⟩ := tab_at I (vis_sub Z L H) h r kk
      cases pr
      obtain ⟨ob, en, ep, g1, g2, g3, g4, g5, g6⟩ := dh
      have en0 : en = #[] := by
        have : en.toList = [] := g4
        simpa using this
      subst en0
      refine ⟨a, none, rfl, hd, .flat (mixKind X.prog X.w) k (fun _ => none) (kV_is ry) ⟨ob, #[], ep, g1, g2, g3, (fun e h => by simp at h), fun _ => rfl⟩ trivial, ?_, ?_⟩
      · rw [ho]; rfl
      · intro d z; rw [ho] at z; cases z
    | w kvs h e2 r =>
      subst e2
      obtain ⟨hd, hz, _, es, n, hl, hlit, pr⟩ := h
      have hm : s.heap.MapOf (mixKind X.prog X.w) a (fun k => findBy keyIs es k) := ⟨_, es, n, I.kIn a _ hl, ⟨rfl, rfl, rfl⟩, rfl, fun e he => by
        obtain ⟨x, t, e1, e2⟩ := hlit.all e (Array.mem_toList_iff.mpr he)
        exact ⟨.inr x, by rw [e1]; exact mixKind_str X.prog X.w x t, e2⟩, fun _ => rfl⟩
      have q := at_written k r pr
      cases q' : dctAt (kvs.map fun p => .str p.1) ds (nkD k) with
      | none => exact ⟨a, none, rfl, hd, .flat (mixKind X.prog X.w) k _ (kV_is ry) hm (by rw [q.2 q']; trivial), by rw [ho, q']; rfl, fun d z => by rw [ho, q'] at z; cases z⟩
      | some d =>
        obtain ⟨v, w, h1, h2, h3⟩ := q.1 d q'
        exact ⟨a, some v, rfl, hd, .flat (mixKind X.prog X.w) k _ (kV_is ry) hm (by rw [h1]; exact h2), by rw [ho, q']; rfl, fun d' z => by rw [ho, q'] at z; cases z; exact ⟨v, rfl, h3⟩⟩
  · obtain ⟨b, k, rfl, ek, hdep, rp⟩ := tup_key iy ht
    have enk : nk = k := by rw [ek] at hnk; exact (Option.some.inj hnk).symm
    subst enk
    have is : (nestedKind X.prog X.w).is s.heap nk b := ⟨nk_of I (vis_sub Z L H) rp ek rfl, hdep⟩
    have eu : u = .ref b := ry
    cases dk with
    | k kvs h e2 r =>
      subst e2
      have e0 := tups_flat hts
      subst e0
      cases r
      obtain ⟨hd, dh⟩ := empty_at I h
      refine ⟨a, none, rfl, hd, .deep nk [] b eu is dh trivial, ?_, ?_⟩
      · rw [ho]; rfl
      · intro d z; rw [ho] at z; cases z
    | t es h r kk r2 =>
      obtain ⟨z, hd, xs, pr, dh⟩ := tab_at I (vis_sub Z L H) h r kk
      have q := at_deep (Rl := RelV) nk (keysOf_map kk) r2 pr
      cases q' : dctAt ks ds nk with
      | none => exact ⟨a, none, rfl, hd, .deep nk xs b eu is dh (by rw [q.2 q']; trivial), by rw [ho, q']; rfl, fun d z => by rw [ho, q'] at z; cases z⟩
      | some d =>
        obtain ⟨v, w, h1, h2, h3⟩ := q.1 d q'
        exact ⟨a, some v, rfl, hd, .deep nk xs b eu is dh (by rw [h1]; exact h2), by rw [ho, q']; rfl, fun d' z => by rw [ho, q'] at z; cases z; exact ⟨v, rfl, h3⟩⟩
    | w kvs h e2 r =>
      subst e2
      have e0 : kvs = [] := by
        cases kvs with
        | nil => rfl
        | cons p kvs =>
          rw [List.map_cons, List.all_cons, Bool.and_eq_true] at hts
          cases hts.1
      subst e0
      cases r
      obtain ⟨hd, hz, _, es, n, hl, hlit, pr⟩ := h
      have en0 : es = #[] := by
        cases q : es.toList with
        | nil => simpa using q
        | cons e r => rw [q] at pr; cases pr
      subst en0
      refine ⟨a, none, rfl, hd, .deep nk [] b eu is ⟨_, #[], n, I.kIn a _ hl, ⟨rfl, rfl, rfl⟩, rfl, rfl, (fun x h => by cases h), List.nodup_nil⟩ trivial, ?_, ?_⟩
      · rw [ho]; rfl
      · intro d z; rw [ho] at z; cases z
end
end Dv

set_option Elab.async false
set_option linter.all false
set_option maxRecDepth 100000
set_option maxHeartbeats 4000000
/-! more operations by values -/
namespace Dv
open PySem PySem.Spec PyProof.Rows L2

section
variable {X : Cx} {G : GEnv} {pins : List (Addr × Obj)} {σ : L2.St} {H V₀ : Hp} {s : Shared}
/-- any dict, raw -/
theorem DKind.raw {a : Addr} {ks ds : List D} (I : Inv X pins σ H s) (sb : Sub V₀ H) (d : DKind (rc X) V₀ H a ks ds) :
    (a == sysModules) = false ∧ ks.length ≤ sizeLine ∧ ∃ o es ep, s.heap.get? a = some o ∧ o.ExactDict ∧ o.data = .dict es ep ∧ es.size = ks.length ∧ ∃ kv : List V, Vals kv (es.toList.map (·.key)) ∧ Reps (rc X) V₀ kv ks := by
  cases d with
  | k kvs h e r =>
    subst e
    obtain ⟨z, lo, vs, rel, dd⟩ := dk_rd I.hok h
    obtain ⟨es, ep, ⟨o, ho, hx, hd⟩, hs, hat⟩ := dd.raw
    refine ⟨lo, by rw [List.length_map]; exact z, o, es, ep, ho, hx, hd, by rw [hs, List.length_map, ← rel.length], kvs.map (fun p => kV p.1), ?_, ?_⟩
    · refine vals_of_at (by simp [hs, rel.length]) fun j x u h1 h2 => ?_
      rw [List.getElem?_map] at h1 h2
      obtain ⟨p, hp, rfl⟩ := Option.map_eq_some_iff.mp h1
      obtain ⟨e, he, rfl⟩ := Option.map_eq_some_iff.mp h2
      rw [Array.getElem?_toList] at he
      obtain ⟨hj, rfl⟩ := Array.getElem?_eq_some_iff.mp he
      have hk := KV.keys rel
      have hv : j < vs.length := by omega
      have hq : vs[j]? = some (p.1, vs[j].2) := by
        have q1 : (kvs.map (·.1))[j]? = some p.1 := by rw [List.getElem?_map, hp]; rfl
        rw [hk, List.getElem?_map, List.getElem?_eq_getElem hv] at q1
        have q2 : vs[j].1 = p.1 := Option.some.inj q1
        rw [List.getElem?_eq_getElem hv, ← q2]
      obtain ⟨h3, _⟩ := hat j hj p.1 _ hq
      exact keyIs_rel h3
    · clear rel hat hs z h r
      induction kvs with
      | nil => exact .nil
      | cons p ps ih =>
        refine .cons ?_ ih
        obtain ⟨k, v⟩ := p
        cases k with
        | inl i => exact .int i
        | inr x => exact .str x
  | t es h r kk r2 =>
    obtain ⟨z, lo, xs, pr, dh⟩ := tab_at I sb h r kk
    obtain ⟨en, ep, ⟨o, ho, hx, hd⟩, hs, hat⟩ := dh.raw
    have hl : es.length = xs.length := Paired.length pr
    have hkl : es.length = ks.length := by have := r.length; simpa using this
    refine ⟨lo, by rw [← hkl]; exact z, o, en, ep, ho, hx, hd, by rw [hs, ← hl, hkl], es.map (fun e => .ref e.2.1), ?_, r⟩
    refine vals_of_at (by simp [hs, hl]) fun j x u h1 h2 => ?_
    rw [List.getElem?_map] at h1 h2
    obtain ⟨p, hp, rfl⟩ := Option.map_eq_some_iff.mp h1
    obtain ⟨e, he, rfl⟩ := Option.map_eq_some_iff.mp h2
    rw [Array.getElem?_toList] at he
    obtain ⟨hj, rfl⟩ := Array.getElem?_eq_some_iff.mp he
    obtain ⟨y, hy, h3, _, _⟩ := hat j hj
    have gen : ∀ {es : List (NestedKey × Addr × V)} {xs : List (NestedKey × Addr × Value)}, Paired (fun (p : NestedKey × Addr × V) (q : NestedKey × Addr × Value) => p.1 = q.1 ∧ p.2.1 = q.2.1 ∧ RelV p.2.2 q.2.2) es xs →
        ∀ (j : Nat) p y, es[j]? = some p → xs[j]? = some y → p.2.1 = y.2.1 := by
      intro es xs pr
      induction pr with
      | nil => intro j p y h; simp at h
      | cons h t ih =>
        intro j p y h1 h2
        cases j with
        | zero => simp at h1 h2; rw [← h1, ← h2]; exact h.2.1
        | succ j => exact ih j p y (by simpa using h1) (by simpa using h2)
    rw [h3, ← gen pr j p y hp hy]
    exact rfl
  | w kvs h e r =>
    subst e
    obtain ⟨lo, z, nd0, es, n, hl, hlit, pr⟩ := h
    clear nd0
    have hn : kvs.length = es.toList.length := Paired.length pr
    refine ⟨lo, by rw [List.length_map]; exact z, _, es, n, I.kIn a _ hl, ⟨rfl, rfl, rfl⟩, rfl, by rw [List.length_map, hn]; simp, kvs.map (fun p => .str p.1), ?_, ?_⟩
    · clear hl hlit hn z r
      generalize es.toList = l at pr ⊢
      induction pr with
      | nil => exact .nil
      | cons h t ih => exact .cons h.1 ih
    · clear hl hlit hn z r pr
      induction kvs with
      | nil => exact .nil
      | cons p ps ih => exact .cons (.str p.1) ih

/-- a list's items, a tuple's: len -/
theorem s_len : CallR X (.builtin "len") (fun xs H Q => ∃ x, xs = [x] ∧ S1 (rc X) (op1 G .len) x H Q) := by
  intro pins s σ H xs us Q I r h
  obtain ⟨x, rfl, Z, L, sx, q, A, ix, e, o⟩ := h
  have lst : ∀ ds, sx.lst? = some ds → q = .v (.int ds.length) → wpAny (model X.prog X.w) X.A (call (.builtin "len") us) (EP X pins σ Q) X.xe s := fun ds e1 e2 => by
    obtain ⟨a, vs, rfl, h1, rp⟩ := ix.lst e1
    subst e2
    rw [← rp.length] at o
    exact call_len pins s σ H _ us Q I r ⟨_, _, rfl, .inl ⟨vs, .inl h1, rfl⟩, o.int⟩
  have dct : ∀ ks ds, sx.dct? = some (ks, ds) → q = .v (.int ks.length) → wpAny (model X.prog X.w) X.A (call (.builtin "len") us) (EP X pins σ Q) X.xe s := fun ks ds e1 e2 => by
    obtain ⟨a, rfl, dk⟩ := ix.dct e1
    subst e2
    obtain ⟨lo, z, ob, es, ep, ho, hx, hd, hs, _⟩ := dk.raw I (vis_sub Z L H)
    obtain ⟨u, rfl, ru⟩ := vals1 r
    obtain rfl : u = Value.ref a := ru
    rw [← hs] at o z
    have hl := line63
    exact call_len_slot (n := es.size) ⟨ob, ho, hx.1⟩ PySem.F.slot_dict_len (fun Q' hq => PySem.call_len_raw lo ⟨ob, ho, hx, hd⟩ hq) (by omega) (by omega) ⟨.int es.size, H, I.tok _, ⟨_, rfl⟩, o.int⟩
  simp only [op1] at e
  split at e
  · cases e; exact lst _ rfl rfl
  · cases e
    obtain ⟨a, vs, rfl, h1, rp⟩ := ix.tup
    rw [← rp.length] at o
    exact call_len pins s σ H _ us Q I r ⟨_, _, rfl, .inr ⟨vs, h1, rfl⟩, o.int⟩
  · cases e; exact lst _ rfl rfl
  · obtain ⟨c, e⟩ := ite_ok e
    cases e
    have := ix.str
    subst this
    exact call_len pins s σ H _ us Q I r ⟨_, _, rfl, ⟨okSize_iff.mp c, rfl⟩, o.int⟩
  · cases e; exact dct _ _ rfl rfl
  · cases e; exact dct _ _ rfl rfl
  · cases e
theorem s_list (hc : X.calm = true) : CallR X (.type "list") (fun xs H Q => ∃ x, xs = [x] ∧ S1 (rc X) (op1 G .list) x H Q) := by
  intro pins s σ H xs us Q I r h
  obtain ⟨x, rfl, Z, L, sx, q, A, ix, e, o⟩ := h
  simp only [op1] at e
  split at e
  · rename_i ds e1
    cases e
    obtain ⟨a, vs, rfl, h1, rp⟩ := ix.seq e1
    exact call_list_of pins s σ H _ us Q I r ⟨a, vs, rfl, h1, fun l hl => o.newL rp hl⟩
  · split at e
    · rename_i ks ds e1
      cases e
      obtain ⟨a, rfl, dk⟩ := ix.dct e1
      obtain ⟨lo, z, ob, es, ep, ho, hx, hd, hs, kv, kvr, rp⟩ := dk.raw I (vis_sub Z L H)
      obtain ⟨u, rfl, ru⟩ := vals1 r
      obtain rfl : u = Value.ref a := ru
      have hl := rp.length
      refine PySem.W.kdl_call (kdl_raw lo hx hd) (I.ok.hd hc) ho (by rw [hs]; exact z) fun h' tk acc' c' hkeep hS hacc => ?_
      refine ⟨.ref s.heap.objs.size, upd H s.heap.objs.size (.lst kv), I.laid hkeep (Nat.le_refl _) (show ObjOk X.prog X.w _ _ _ (.lst kv) from ⟨by rw [hl]; exact z, acc'.toList, c', ?_, ?_⟩), rfl, o.newL rp (I.hok.fresh (Nat.le_refl _))⟩
      · have el : acc'.toList.length = acc'.size := by simp
        refine vals_of_at (by rw [el, hacc.1, hs, hl]) fun j x w h1 h2 => ?_
        obtain ⟨en, he, rfl⟩ := hacc.2 j w (by rw [← Array.getElem?_toList]; exact h2)
        obtain ⟨u', hu', ru'⟩ := kvr.get h1
        rw [List.getElem?_map, Array.getElem?_toList, he] at hu'
        cases hu'
        exact ru'
      · rw [Array.toArray_toList]; exact hS
    · cases e
theorem s_tuple : CallR X (.type "tuple") (fun xs H Q => ∃ x, xs = [x] ∧ S1 (rc X) (op1 G .tuple) x H Q) := by
  intro pins s σ H xs us Q I r h
  obtain ⟨x, rfl, Z, L, sx, q, A, ix, e, o⟩ := h
  simp only [op1] at e
  split at e
  · rename_i ds e1
    cases e
    obtain ⟨_, as, has, en⟩ := ix
    cases en with
    | v e' =>
      cases e' with
      | lst h2 r2 =>
        cases e1
        exact call_tupleF pins s σ H _ us Q I r ⟨_, _, rfl, .inl ⟨.inl ((vis_sub Z L H).rd _ _ h2), fun l ob hl hob => o.newT hob A r2 hl⟩⟩
      | tup h2 r2 =>
        cases e1
        exact call_tupleF pins s σ H _ us Q I r ⟨_, _, rfl, .inr ⟨(vis_sub Z L H).sqT h2, o.val (.tup h2 r2)⟩⟩
      | _ => cases e1
    | ol h2 r2 =>
      cases e1
      exact call_tupleF pins s σ H _ us Q I r ⟨_, _, rfl, .inl ⟨.of h2, fun l ob hl hob => o.newT hob A r2 hl⟩⟩
    | _ => cases e1
  · cases e
theorem s_int : CallR X (.type "int") (fun xs H Q => ∃ x, xs = [x] ∧ S1 (rc X) (op1 G .int) x H Q) := by
  intro pins s σ H xs us Q I r h
  obtain ⟨x, rfl, Z, L, sx, q, A, ix, e, o⟩ := h
  simp only [op1] at e
  split at e
  · cases e
    have := ix.int
    subst this
    exact call_int1 pins s σ H _ us Q I r (.inl ⟨_, rfl, o.int⟩)
  · cases e
    have := ix.bl
    subst this
    exact call_int1 pins s σ H _ us Q I r (.inr ⟨_, rfl, o.int⟩)
  · cases e
theorem s_bool : CallR X (.type "bool") (fun xs H Q => ∃ x, xs = [x] ∧ S1 (rc X) (op1 G .bool) x H Q) := by
  intro pins s σ H xs us Q I r h
  obtain ⟨x, rfl, Z, L, sx, q, A, ix, e, o⟩ := h
  simp only [op1] at e
  split at e
  · cases e
    have := ix.int
    subst this
    exact call_bool1 pins s σ H _ us Q I r (.inl ⟨_, rfl, o.bl⟩)
  · cases e
    have := ix.bl
    subst this
    exact call_bool1 pins s σ H _ us Q I r (.inr ⟨_, rfl, o.bl⟩)
  · cases e
theorem s_abs : CallR X (.builtin "abs") (fun xs H Q => ∃ x, xs = [x] ∧ S1 (rc X) (op1 G .abs) x H Q) := by
  intro pins s σ H xs us Q I r h
  obtain ⟨x, rfl, Z, L, sx, q, A, ix, e, o⟩ := h
  simp only [op1] at e
  split at e
  · cases e
    have := ix.int
    subst this
    exact call_abs pins s σ H _ us Q I r ⟨_, rfl, o.int⟩
  · cases e
theorem bls_of {R : RC} {V₀ : Hp} : ∀ {ds : List D} {bs : List Bool} {vs : List V}, blsOf ds = some bs → Reps R V₀ vs ds → vs = bs.map V.bl
  | [], bs, vs, h, r => by cases h; cases r; rfl
  | .bl b :: ds, bs, _, h, .cons e r => by
    rw [blsOf] at h
    obtain ⟨cs, h1, rfl⟩ := Option.map_eq_some_iff.mp h
    cases e
    rw [bls_of h1 r]
    rfl
  | .non :: _, _, _, h, _ => by cases h
  | .int _ :: _, _, _, h, _ => by cases h
  | .str _ :: _, _, _, h, _ => by cases h
  | .tup _ :: _, _, _, h, _ => by cases h
  | .lst _ :: _, _, _, h, _ => by cases h
  | .dct _ _ :: _, _, _, h, _ => by cases h
  | .obj _ _ _ :: _, _, _, h, _ => by cases h
theorem s_all (hc : X.calm = true) : CallR X (.builtin "all") (fun xs H Q => ∃ x, xs = [x] ∧ S1 (rc X) (op1 G .all) x H Q) := by
  intro pins s σ H xs us Q I r h
  obtain ⟨x, rfl, Z, L, sx, q, A, ix, e, o⟩ := h
  simp only [op1] at e
  split at e
  · rename_i ds e1
    split at e
    · rename_i bs e2
      cases e
      obtain ⟨a, vs, rfl, h1, rp⟩ := ix.lst e1
      have := bls_of e2 rp
      subst this
      exact cr_all hc pins s σ H _ us Q I r ⟨a, bs, rfl, .inl h1, o.bl⟩
    · cases e
  · cases e
theorem s_max (hc : X.calm = true) : CallR X (.builtin "max") (fun xs H Q => ∃ x y, xs = [x, y] ∧ S2 (rc X) (op2 G .max) x y H Q) := by
  intro pins s σ H xs us Q I r h
  obtain ⟨x, y, rfl, Z, L, sx, sy, q, A, ix, iy, e, o⟩ := h
  obtain ⟨i, j, rfl, rfl, e⟩ := ints_ok (f := fun i j => .ok (.v (.int (if j > i then j else i)))) e
  cases e
  have := ix.int
  subst this
  have := iy.int
  subst this
  exact call_max2 hc pins s σ H _ us Q I r ⟨i, j, rfl, o.int⟩
theorem s_min (hc : X.calm = true) : CallR X (.builtin "min") (fun xs H Q => ∃ x y, xs = [x, y] ∧ S2 (rc X) (op2 G .min) x y H Q) := by
  intro pins s σ H xs us Q I r h
  obtain ⟨x, y, rfl, Z, L, sx, sy, q, A, ix, iy, e, o⟩ := h
  obtain ⟨i, j, rfl, rfl, e⟩ := ints_ok (f := fun i j => .ok (.v (.int (if j < i then j else i)))) e
  cases e
  have := ix.int
  subst this
  have := iy.int
  subst this
  exact call_min2 hc pins s σ H _ us Q I r ⟨i, j, rfl, o.int⟩
theorem s_neg : UnR X (unaryOp .USub) (S1 (rc X) (op1 G .neg)) := by
  intro pins s σ H x v Q I r h
  obtain ⟨Z, L, sx, q, A, ix, e, o⟩ := h
  simp only [op1] at e
  split at e
  · cases e
    have := ix.int
    subst this
    exact un_neg pins s σ H _ v Q I r ⟨_, rfl, o.int⟩
  · cases e
/-- a value's truth -/
theorem In.tru {Z : Addr → Prop} {L : List Addr} {x : V} {sx : SV} {b : Bool} (ix : In (rc X) Z L H x sx) (e : truthD sx = .ok b) : TruV X.K x H b := by
  have len0 : ∀ {vs : List V} {ds : List D}, Reps (rc X) (vis Z L H) vs ds → (!ds.isEmpty) = !vs.isEmpty := fun r => by cases r <;> rfl
  have lst : ∀ ds, sx.lst? = some ds → b = !ds.isEmpty → TruV X.K x H b := fun ds e1 e2 => by
    obtain ⟨a, vs, rfl, h1, rp⟩ := ix.lst e1
    exact .inl ⟨vs, .inl h1, by rw [e2, len0 rp]⟩
  unfold truthD at e
  split at e
  · cases e; have := ix.val rfl; cases this; rfl
  · cases e; have := ix.bl; subst this; rfl
  · cases e; have := ix.int; subst this; rfl
  · obtain ⟨c, e⟩ := ite_ok e
    cases e; have := ix.str; subst this
    refine ⟨okSize_iff.mp c, ?_⟩
    rename_i x
    cases x.length <;> simp <;> omega
  · cases e
    obtain ⟨a, vs, rfl, h1, rp⟩ := ix.tup
    exact .inr (.inl ⟨vs, h1, len0 rp⟩)
  · cases e; exact lst _ rfl rfl
  · cases e; exact lst _ rfl rfl
  · cases e
/-- in, not in -/
theorem flat_in {Z : Addr → Prop} {L : List Addr} {x : V} {sx : SV} (ix : In (rc X) Z L H x sx) (h : flatD sx.d = true) : flatV x = true ∧ ∃ d, sx = .v d ∧ Rep (rc X) (vis Z L H) x d := by
  cases sx with
  | v d =>
    have r := ix.val rfl
    refine ⟨?_, d, rfl, r⟩
    cases r <;> first | rfl | cases h
  | un => exact absurd rfl ix.1
  | ol _ => cases h
  | od _ _ => cases h
  | oi _ _ _ => cases h
theorem eqF_of {R : RC} {V₁ : Hp} {x y : V} {d e : D} (r : Rep R V₁ x d) (q : Rep R V₁ y e) (h1 : flatD d = true) (h2 : flatD e = true) : eqV y x = eqF e d := by
  cases r <;> first | cases h1; done | skip
  all_goals (cases q <;> first | cases h2; done | rfl)
theorem inV_of {R : RC} {V₁ : Hp} {x : V} {d : D} (r : Rep R V₁ x d) (h1 : flatD d = true) : ∀ {vs : List V} {ds : List D}, Reps R V₁ vs ds → ds.all flatD = true → vs.all flatV = true ∧ inV x vs = ds.any fun z => eqF z d
  | _, _, .nil, _ => ⟨rfl, rfl⟩
  | _, _, .cons e q, h => by
    rw [List.all_cons, Bool.and_eq_true] at h
    obtain ⟨h3, h4⟩ := inV_of r h1 q h.2
    refine ⟨?_, ?_⟩
    · rw [List.all_cons, Bool.and_eq_true]
      refine ⟨?_, h3⟩
      have := h.1
      cases e <;> first | rfl | cases this
    · show (eqV _ x || inV x _) = _
      rw [h4, eqF_of r e h1 h.1]
      rfl
theorem memD_ok {a : D} {ds : List D} {c : Bool} (h : memD a ds = .ok c) : ∃ p qs, dat a = some p ∧ dats ds = some qs ∧ SeqAt.shaped p = true ∧ SeqAt.shaped (.list qs) = true ∧ c = qs.any fun z => PyData.eqv z p := by
  unfold memD at h
  split at h
  · rename_i p q h1 h2
    split at h
    · rename_i hs
      rw [Bool.and_eq_true] at hs
      cases h
      exact ⟨p, q, h1, h2, hs.1, hs.2, rfl⟩
    · cases h
  · cases h
theorem In.dpl {Z : Addr → Prop} {L : List Addr} {x : V} {sx : SV} {ds : List D} {ps : List PyData} (ix : In (rc X) Z L H x sx) (e : sx.lst? = some ds) (h : dats ds = some ps) : Dp X.K H x (.list ps) := by
  obtain ⟨a, vs, rfl, h1, rp⟩ := ix.lst e
  exact .lst (.inl h1) (dps_of (vis_sub Z L H) rp h)
/-- both, by one proof: neg tells which -/
theorem mem_core (hu : X.A.units + 65 < cLine) {x y : V} {v u : Value} {b : Bool} {Z : Addr → Prop} {L : List Addr} {sx sy : SV} (I : Inv X pins σ H s) (rx : RelV x v) (ry : RelV y u) (A : Amb Z L H) (ix : In (rc X) Z L H x sx) (iy : In (rc X) Z L H y sy)
    (e : op2.memR sx sy = .ok (.v (.bl b))) : (∀ Q : VK, Q (.bl b) H → wpAny (model X.prog X.w) X.A (compareOp .In v u) (EP X pins σ Q) X.xe s) ∧ (∀ Q : VK, Q (.bl !b) H → wpAny (model X.prog X.w) X.A (compareOp .NotIn v u) (EP X pins σ Q) X.xe s) := by
  unfold op2.memR at e
  split at e
  · cases e
    have h1 := ix.str
    have h2 := iy.str
    exact ⟨fun Q q => op_in_str pins s σ H x y v u Q I rx ry ⟨_, _, h1, h2, q⟩, fun Q q => L2.op_notin_str pins s σ H x y v u Q I rx ry ⟨_, _, h1, h2, q⟩⟩
  · obtain ⟨c, e⟩ := ite_ok e
    cases e
    rw [Bool.and_eq_true] at c
    obtain ⟨f1, d, rfl, rp⟩ := flat_in ix c.1
    obtain ⟨a, vs, rfl, h1, rq⟩ := iy.tup
    obtain ⟨g1, g2⟩ := inV_of rp c.1 rq c.2
    refine ⟨fun Q q => op_in_seq pins s σ H x _ v u Q I rx ry ⟨a, vs, rfl, .inr h1, f1, g1, ?_⟩, fun Q q => op_notIn_seq pins s σ H x _ v u Q I rx ry ⟨a, vs, rfl, .inr h1, f1, g1, ?_⟩⟩
    · rw [g2]; exact q
    · rw [g2]; exact q
  · split at e
    · rename_i ds e1
      obtain ⟨c, e2, e3⟩ := blR_ok e
      cases e3
      obtain ⟨p, qs, h1, h2, h3, h4, rfl⟩ := memD_ok e2
      exact ⟨fun Q q => op_inD hu pins s σ H x y v u Q I rx ry ⟨p, qs, ix.dp h1, iy.dpl e1 h2, h3, h4, q⟩, fun Q q => op_notInD hu pins s σ H x y v u Q I rx ry ⟨p, qs, ix.dp h1, iy.dpl e1 h2, h3, h4, q⟩⟩
    · split at e
      · rename_i ks ds e1
        obtain ⟨c, e2, e3⟩ := blR_ok e
        cases e3
        obtain ⟨o, e4, rfl⟩ := map_ok e2
        obtain ⟨a, ov, rfl, lo, dat, hs, _⟩ := In.dget I iy e1 ix rx e4
        obtain rfl : u = Value.ref a := ry
        exact ⟨fun Q q => dat.mem lo (by omega) I fun s' I' => ⟨.bl ov.isSome, H, I', rfl, by rw [hs]; exact q⟩, fun Q q => dat.nmem lo (by omega) I fun s' I' => ⟨.bl (!ov.isSome), H, I', rfl, by rw [hs]; exact q⟩⟩
      · cases e
theorem memR_bl {a b r : SV} (h : op2.memR a b = .ok r) : ∃ c, r = .v (.bl c) := by
  unfold op2.memR at h
  split at h
  · cases h; exact ⟨_, rfl⟩
  · obtain ⟨c, h⟩ := ite_ok h
    cases h; exact ⟨_, rfl⟩
  · split at h
    · obtain ⟨c, _, h⟩ := blR_ok h; exact ⟨c, h⟩
    · split at h
      · obtain ⟨c, _, h⟩ := blR_ok h; exact ⟨c, h⟩
      · cases h
theorem s_in (hu : X.A.units + 65 < cLine) : OpR X (compareOp .In) (S2 (rc X) (op2 G .mem)) := by
  intro pins s σ H x y v u Q I rx ry h
  obtain ⟨Z, L, sx, sy, r, A, ix, iy, e, o⟩ := h
  have e : op2.memR sx sy = .ok r := e
  obtain ⟨c, rfl⟩ := memR_bl e
  exact (mem_core hu I rx ry A ix iy e).1 Q o.bl
theorem s_notin (hu : X.A.units + 65 < cLine) : OpR X (compareOp .NotIn) (S2 (rc X) (op2 G .nmem)) := by
  intro pins s σ H x y v u Q I rx ry h
  obtain ⟨Z, L, sx, sy, r, A, ix, iy, e, o⟩ := h
  obtain ⟨q, e1, rfl⟩ := map_ok (show (op2.memR sx sy).map _ = .ok r from e)
  obtain ⟨c, rfl⟩ := memR_bl e1
  exact (mem_core hu I rx ry A ix iy e1).2 Q o.bl
/-- a[b] -/
theorem atI_reps {R : RC} {V₁ : Hp} {vs : List V} {ds : List D} {i : Int} {d : D} (r : Reps R V₁ vs ds) (h : atI ds i = some d) : ∃ v, atI vs i = some v ∧ Rep R V₁ v d := by
  unfold atI at h ⊢
  rw [r.length]
  obtain ⟨j, h1, h2⟩ := Option.bind_eq_some_iff.mp h
  obtain ⟨v, h3, h4⟩ := r.get h2
  rw [h1]
  exact ⟨v, h3, h4⟩
theorem idx_cases {sx sy r : SV} (e : op2 G .idx sx sy = .ok r) : (∃ c ns vs F, sx.obj? = some (c, ns, vs) ∧ G.gi c = some F ∧ F [sx.d, sy.d] = .ok r ∧ imS r = true) ∨ (∃ ds i d, sx.seq? = some ds ∧ sy = .v (.int i) ∧ atI ds i = some d ∧ r = .v d) ∨ (∃ x i d, sx = .v (.str x) ∧ sy = .v (.int i) ∧ x.length ≤ sizeLine ∧ atI x.cps.toList i = some d ∧ r = .v (.str ⟨#[d]⟩)) ∨
    ∃ ks ds d, sx.dct? = some (ks, ds) ∧ dctKeyR ks ds sy.d = .ok (some d) ∧ r = .v d := by
  simp only [op2] at e
  split at e
  · rename_i c ns vs e0
    left
    split at e
    · rename_i F e1
      split at e
      · rename_i r' e2
        obtain ⟨hi, e⟩ := ite_ok e
        cases e
        exact ⟨c, ns, vs, F, e0, e1, e2, hi⟩
      · cases e
    · cases e
  · right
    split at e
    · rename_i ds i e1
      unfold ixD at e
      split at e
      · rename_i d hd
        cases e
        exact .inl ⟨ds, i, d, e1, rfl, hd, rfl⟩
      · cases e
    · split at e
      · unfold ixS at e
        obtain ⟨c, e⟩ := ite_ok e
        split at e
        · rename_i d hd
          cases e
          exact .inr (.inl ⟨_, _, d, rfl, rfl, okSize_iff.mp c, hd, rfl⟩)
        · cases e
      · split at e
        · rename_i ks ds e1
          split at e
          · rename_i d hk
            cases e
            exact .inr (.inr ⟨ks, ds, d, e1, hk, rfl⟩)
          · cases e
        · cases e
/-- o[k] of the program's own classes -/
def GiOk (X : Cx) (G : GEnv) : Prop := ∀ (value slice : Expr) (pins : List (Addr × Obj)) (s : Shared) (σ : L2.St) (H : Hp) (x y : V) (v u : Value) (Q : VK), Inv X pins σ H s → RelV x v → RelV y u →
  (∃ Z L sx sy r c ns vs F, Amb Z L H ∧ In (rc X) Z L H x sx ∧ In (rc X) Z L H y sy ∧ sx.obj? = some (c, ns, vs) ∧ G.gi c = some F ∧ F [sx.d, sy.d] = .ok r ∧ imS r = true ∧ Out (rc X) Z L H r Q) →
  subscripted slice true v u = runValue (.builtin "lifetime.subscript" ⟨[v, u], []⟩) → wpAny (model X.prog X.w) X.A (subscriptTail value slice v u) (EP X pins σ Q) X.xe s
theorem pe_sub {a b : Expr} {ta tb : TE} {pos : Pos} (hgi : GiOk X G) (hu : X.A.units + 16 < cLine) (hs2 : ∀ v u, subscripted b true v u = runValue (.builtin "lifetime.subscript" ⟨[v, u], []⟩)) (ha : PE X a ta) (hb : PE X b tb) (hs : PlainIx b) : PE X (.Subscript a b pos) (tOp (S2 (rc X) (op2 G .idx)) ta tb) := by
  refine ⟨fun pins s σ H Q I h => ?_⟩
  refine Subscript_ (binT ha hb I h fun v u s2 x y H2 I2 rx ry q => ?_)
  obtain ⟨Z, L, sx, sy, r, A, ix, iy, e, o⟩ := q
  rcases idx_cases e with ⟨c, ns, vs, F, f1, f2, f3, f4⟩ | ⟨ds, i, d, e1, rfl, hd, rfl⟩ | ⟨z, i, d, rfl, rfl, hz, hd, rfl⟩ | ⟨ks, ds, d, e1, hk, rfl⟩
  · exact hgi a b pins s2 σ H2 x y v u Q I2 rx ry ⟨Z, L, sx, sy, r, c, ns, vs, F, A, ix, iy, f1, f2, f3, f4, o⟩ (hs2 v u)
  · obtain ⟨p, vs, rfl, h1, rp⟩ := ix.seq e1
    obtain ⟨w, hw, rw'⟩ := atI_reps rp hd
    have := iy.int
    subst this
    exact ix_seq a b pins s2 σ H2 _ _ v u Q I2 rx ry (h1.elim (fun h => .inl ⟨p, vs, i, w, rfl, rfl, h, hw, o.val rw'⟩) fun h => .inr (.inl ⟨p, vs, i, w, rfl, rfl, h, hw, o.val rw'⟩)) (hs _ _)
  · have := ix.str
    subst this
    have := iy.int
    subst this
    exact ix_seq a b pins s2 σ H2 _ _ v u Q I2 rx ry (.inr (.inr ⟨_, _, d, rfl, rfl, hz, hd, o.str⟩)) (hs _ _)
  · obtain ⟨p, ov, rfl, lo, dat, hss, hv⟩ := In.dget I2 ix e1 iy ry hk
    obtain ⟨w, rfl, rw'⟩ := hv d rfl
    obtain rfl : v = Value.ref p := rx
    exact tail_any dat.typeIs PySem.F.slot_dict_getitem.lookup (dat.get hu I2 fun w' s3 I3 rw2 => ⟨w, H2, I3, rw2, o.val rw'⟩) (hs _ _)
end
end Dv

set_option Elab.async false
set_option linter.all false
set_option maxRecDepth 100000
set_option maxHeartbeats 4000000
/-! expressions: the language's meaning as a reading -/
namespace Dv
open PySem PySem.Spec PyProof.Rows L2

theorem PE.mono {X : Cx} {e : Expr} {t t' : TE} (h : PE X e t) (m : ∀ σ H Q, t' σ H Q → t σ H Q) : PE X e t' := ⟨fun pins s σ H Q I q => h.run pins s σ H Q I (m σ H Q q)⟩
theorem PT.mono {X : Cx} {e : Expr} {t t' : TT} (h : PT X e t) (m : ∀ σ H Q, t' σ H Q → t σ H Q) : PT X e t' := ⟨fun pins s σ H Q I q => h.run pins s σ H Q I (m σ H Q q)⟩
theorem PW.mono {X : Cx} {e : Expr} {t t' : TT} (h : PW X e t) (m : ∀ σ H Q, t' σ H Q → t σ H Q) : PW X e t' := ⟨fun w pins s σ H Q I q => h.run w pins s σ H Q I (m σ H Q q)⟩
theorem PA.mono {X : Cx} {e : List Expr} {t t' : TA} (h : PA X e t) (m : ∀ σ H Q, t' σ H Q → t σ H Q) : PA X e t' := ⟨fun p pins s σ H Q I q => h.run p pins s σ H Q I (m σ H Q q)⟩
theorem PS.mono {X : Cx} {e : Stmt} {t t' : TS} (h : PS X e t) (m : ∀ D σ H, t' D σ H → t D σ H) : PS X e t' := ⟨fun pins s σ H D I q => h.run pins s σ H D I (m D σ H q)⟩
theorem PSs.mono {X : Cx} {e : List Stmt} {t t' : TS} (h : PSs X e t) (m : ∀ D σ H, t' D σ H → t D σ H) : PSs X e t' := ⟨fun pins s σ H D I q => h.run pins s σ H D I (m D σ H q)⟩

/-- what stands at the state: temporaries, then the slots -/
structure Sit (R : RC) (Z : Addr → Prop) (H₀ H : Hp) (tvs : List (Option V)) (σ : L2.St) (ts : List SV) (α : AEnv) : Prop where
  len : tvs.length = ts.length
  rl : Rl R Z H₀ H (tvs ++ σ) (ts ++ α)
section
variable {R : RC} {Z : Addr → Prop} {H₀ H H' : Hp} {tvs : List (Option V)} {σ σ' : L2.St} {ts : List SV} {α α' : AEnv} {x v : V} {r s : SV} {i : Nat}
theorem Sit.lenS (h : Sit R Z H₀ H tvs σ ts α) : σ.length = α.length := by
  obtain ⟨L, r⟩ := h.rl
  have := r.ents.length
  rw [List.length_append, List.length_append, h.len] at this
  omega
theorem Sit.slot (h : Sit R Z H₀ H tvs σ ts α) (e : α[i]? = some s) : (ts ++ α)[ts.length + i]? = some s := by
  rw [List.getElem?_append_right (by omega)]
  simpa using e
theorem Sit.slotV (h : Sit R Z H₀ H tvs σ ts α) {o : Option V} (e : (tvs ++ σ)[ts.length + i]? = some o) : σ[i]? = some o := by
  rw [List.getElem?_append_right (by rw [h.len]; omega)] at e
  rw [h.len] at e
  simpa using e
theorem Sit.held (h : Sit R Z H₀ H tvs σ ts α) (e : α[i]? = some s) (hu : s ≠ .un) : ∃ x, σ[i]? = some (some x) := by
  obtain ⟨L, r⟩ := h.rl
  obtain ⟨x, m, h1, _⟩ := r.ent (h.slot e) hu
  exact ⟨x, h.slotV h1⟩
theorem Sit.push (h : Sit R Z H₀ H tvs σ ts α) {H' : Hp} {o : Option V} {s : SV} (r : Rl R Z H₀ H' (o :: (tvs ++ σ)) (s :: (ts ++ α'))) : Sit R Z H₀ H' (o :: tvs) σ (s :: ts) α' := ⟨by simp [h.len], r⟩
theorem Sit.setA (h : ts.length = tvs.length) {ss : SV} : (ts ++ α).set (ts.length + i) ss = ts ++ α.set i ss := by
  rw [List.set_append, if_neg (by omega)]
  congr 2
  omega
theorem Sit.setO (h : ts.length = tvs.length) {o : Option V} : (tvs ++ σ).set (ts.length + i) o = tvs ++ σ.set i o := by
  rw [List.set_append, if_neg (by omega)]
  congr 2
  omega
theorem Ents.notTup {R : RC} {V₀ H : Hp} : ∀ {os : List (Option V)} {ss : List SV} {as : List Addr}, Ents R V₀ H os ss as → ∀ a ∈ as, ∀ o xs, H a ≠ some (.frz o (.tup xs))
  | _, _, _, .nil, _, h => nomatch h
  | _, _, _, .cons e r, a, h => (List.mem_append.mp h).elim (fun m => by
      cases e with
      | un o => cases m
      | v r => cases m
      | ol h1 r => rw [List.mem_singleton.mp m, h1]; intro o xs z; cases z
      | odK h1 r => rw [List.mem_singleton.mp m, h1]; intro o xs z; cases z
      | odT hne h1 r k q => rw [List.mem_singleton.mp m, h1]; intro o xs z; cases z
      | oi c h1 r => rw [List.mem_singleton.mp m, h1]; intro o xs z; cases z) (r.notTup a)
/-- an operand at hand -/
theorem In.of {L : List Addr} {os : List (Option V)} {ss : List SV} (r : RlO R Z H₀ H L os ss) {j : Nat} (h : ss[j]? = some s) (ho : os[j]? = some (some x)) (hu : s ≠ .un) : In R Z L H x s := by
  obtain ⟨y, m, h1, h2, h3⟩ := r.ent h hu
  rw [ho] at h1
  cases h1
  exact ⟨hu, m, h2, h3⟩
theorem RlO.amb {L : List Addr} {os : List (Option V)} {ss : List SV} (r : RlO R Z H₀ H L os ss) : Amb Z L H := ⟨fun b z => r.zdH z, fun a h => r.owned h, fun a h => r.notZ h, r.ents.notTup⟩
end

def lift (X : Cx) (G : GEnv) (c : CE) : TE := fun σ H Q => ∃ Z H₀ tvs ts α, Sit (rc X) Z H₀ H tvs σ ts α ∧ ∃ r α', den G c α = .ok (r, α') ∧
  ∀ v H', r ≠ .un → Rl (rc X) Z H₀ H' (some v :: (tvs ++ σ)) (r :: (ts ++ α')) → Q v H'
/-- an operand: a name is looked at -/
def lo (X : Cx) (G : GEnv) (c : CE) : TE := match c with
  | .var i => tVar i
  | c => lift X G c
def liftO (X : Cx) (G : GEnv) (c : CE) : TT := fun σ H Q => ∃ Z H₀ tvs ts α, Sit (rc X) Z H₀ H tvs σ ts α ∧ ∃ b α', denT G (.some c) α = .ok (b, α') ∧
  ∀ H', Rl (rc X) Z H₀ H' (tvs ++ σ) (ts ++ α') → Q b H'
/-- where an operand was put: a name's slot, or the temporary -/
def Put (σ : L2.St) (P : List (Option V)) (PS : List SV) (c : CE) (ra : Option SV) (x : V) (k : Nat) : Prop := match c with
  | .var i => σ[i]? = some (some x)
  | _ => ∃ s, ra = some s ∧ s ≠ .un ∧ P[k]? = some (some x) ∧ PS[k]? = some s
def isVar : CE → Bool
  | .var _ => true
  | _ => false
/-- the temporaries behind an operand -/
def plus {α : Type} (c : CE) (x : α) (l : List α) : List α := if isVar c = true then l else x :: l
section
variable {X : Cx} {G : GEnv} {Z : Addr → Prop} {H₀ H H' : Hp} {tvs : List (Option V)} {σ : L2.St} {ts : List SV} {α α' : AEnv} {x v : V} {r s : SV} {i : Nat}
/-- an operand is evaluated -/
theorem lo_of {c : CE} {ra : Option SV} {α1 : AEnv} {K : VK} (h : Sit (rc X) Z H₀ H tvs σ ts α) (e : opnd c (den G c α) α = .ok (ra, α1))
    (k : ∀ x H1 (s : SV), Sit (rc X) Z H₀ H1 (plus c (some x) tvs) σ (plus c s ts) α1 → Put σ (plus c (some x) tvs) (plus c s ts) c ra x 0 → K x H1) : lo X G c σ H K := by
  by_cases hv : ∃ i, c = .var i
  · obtain ⟨i, rfl⟩ := hv
    simp only [opnd] at e
    cases q : α[i]? with
    | none => rw [q] at e; cases e
    | some s =>
      have hu : s ≠ .un := fun z => by rw [q, z] at e; cases e
      have e1 : ra = none ∧ α1 = α := by
        rw [q] at e
        cases s <;> first | exact absurd rfl hu | (cases e; exact ⟨rfl, rfl⟩)
      obtain ⟨rfl, rfl⟩ := e1
      obtain ⟨x, hx⟩ := h.held q hu
      exact ⟨x, hx, k x H .un h hx⟩
  · have hl : lo X G c = lift X G c := by cases c <;> first | exact absurd ⟨_, rfl⟩ hv | rfl
    have hi : isVar c = false := by cases c <;> first | exact absurd ⟨_, rfl⟩ hv | rfl
    have ho : opnd c (den G c α) α = (den G c α).map fun p => (some p.1, p.2) := by cases c <;> first | exact absurd ⟨_, rfl⟩ hv | rfl
    rw [ho] at e
    obtain ⟨⟨r, α2⟩, h1, h2⟩ := map_ok e
    cases h2
    rw [hl]
    refine ⟨Z, H₀, tvs, ts, α, h, r, _, h1, fun v H' hu rl => ?_⟩
    refine k v H' r ?_ ?_
    · unfold plus
      rw [hi]
      exact h.push rl
    · unfold plus
      rw [hi]
      cases c <;> first | exact absurd ⟨_, rfl⟩ hv | exact ⟨r, rfl, hu, rfl, rfl⟩
/-- .. and fetched later -/
theorem fin_of {c : CE} {ra : Option SV} {P : List (Option V)} {PS : List SV} {k : Nat} {L : List Addr} (h : P.length = PS.length) (r : RlO (rc X) Z H₀ H L (P ++ σ) (PS ++ α)) (p : Put σ P PS c ra x k) (e : fin c ra α = .ok s) : In (rc X) Z L H x s := by
  have sl : ∀ i, α[i]? = some s → σ[i]? = some (some x) → s ≠ .un → In (rc X) Z L H x s := fun i h1 h2 hu => by
    refine In.of r (j := PS.length + i) ?_ ?_ hu
    · rw [List.getElem?_append_right (by omega)]; simpa using h1
    · rw [List.getElem?_append_right (by omega), h]; simpa using h2
  have tm : ∀ s', ra = some s' → s' ≠ .un → P[k]? = some (some x) → PS[k]? = some s' → Res.ofOpt ra = .ok s → In (rc X) Z L H x s := fun s' h1 hu h2 h3 e => by
    subst h1
    cases e
    refine In.of r (j := k) ?_ ?_ hu
    · rw [List.getElem?_append_left (List.getElem?_eq_some_iff.mp h3).1]; exact h3
    · rw [List.getElem?_append_left (List.getElem?_eq_some_iff.mp h2).1]; exact h2
  cases c with
  | var i =>
    simp only [fin] at e
    cases q : α[i]? with
    | none => rw [q] at e; cases e
    | some t =>
      have hu : t ≠ .un := fun z => by rw [q, z] at e; cases e
      have : t = s := by
        rw [q] at e
        cases t <;> first | exact absurd rfl hu | (cases e; rfl)
      subst this
      exact sl i q p hu
  | _ =>
    obtain ⟨s', h1, hu, h2, h3⟩ := p
    exact tm s' h1 hu h2 h3 e
/-- a result instead of the temporaries -/
theorem done_of {P : List (Option V)} {PS : List SV} {L : List Addr} {Q : VK} (h : P.length = PS.length) (rr : RlO (rc X) Z H₀ H L (P ++ (tvs ++ σ)) (PS ++ (ts ++ α)))
    (k : ∀ v H', r ≠ .un → Rl (rc X) Z H₀ H' (some v :: (tvs ++ σ)) (r :: (ts ++ α)) → Q v H') : Out (rc X) Z L H r Q := fun H' z cs sm hn nd hu en => by
  have g := rr.grow sm hn nd en
  refine k z H' hu ?_
  have g2 : Rl (rc X) Z H₀ H' ([some z] ++ (P ++ (tvs ++ σ))) ([r] ++ (PS ++ (ts ++ α))) := ⟨_, g⟩
  exact Rl.drops h (Rl.rot (as := [some z]) (ts := [r]) rfl h g2)

theorem plus_len {c : CE} {a : Option V} {b : SV} {l : List (Option V)} {m : List SV} (h : l.length = m.length) : (plus c a l).length = (plus c b m).length := by
  unfold plus
  split
  · exact h
  · simp [h]
theorem plus_app {β : Type} (c : CE) (a : β) (l m : List β) : plus c a l ++ m = (if isVar c = true then [] else [a]) ++ (l ++ m) := by
  unfold plus
  split <;> rfl
/-- one operand -/
theorem use1 {op : P1} {c : CE} {σ : L2.St} {H : Hp} {Q : VK} (h : lift X G (.p1 op c) σ H Q) : lo X G c σ H fun x H1 => S1 (rc X) (op1 G op) x H1 Q := by
  obtain ⟨Z, H₀, tvs, ts, α, h, r, α', e, k⟩ := h
  rw [den] at e
  obtain ⟨⟨ra, α1⟩, e1, e⟩ := Res.bind_ok e
  obtain ⟨x, e2, e⟩ := Res.bind_ok e
  obtain ⟨r', e3, e⟩ := Res.bind_ok e
  cases e
  refine lo_of h e1 fun v H1 s st p => ?_
  obtain ⟨L, rl⟩ := st.rl
  refine ⟨Z, L, x, r, rl.amb, fin_of st.len rl p e2, e3, ?_⟩
  have e4 := plus_app c (some v) tvs σ
  have e5 := plus_app c s ts α'
  rw [e4, e5] at rl
  exact done_of (by split <;> rfl) rl k
/-- two operands -/
theorem Put.up {c : CE} {P : List (Option V)} {PS : List SV} {ra : Option SV} {x : V} {k : Nat} {d : CE} {o : Option V} {s : SV} (p : Put σ P PS c ra x k) : ∃ k', Put σ (plus d o P) (plus d s PS) c ra x k' := by
  unfold plus
  split
  · exact ⟨k, p⟩
  · refine ⟨k + 1, ?_⟩
    cases c <;> exact p
theorem use2 {op : P2} {a b : CE} {σ : L2.St} {H : Hp} {Q : VK} (h : lift X G (.p2 op a b) σ H Q) : lo X G a σ H fun x H1 => lo X G b σ H1 fun y H2 => S2 (rc X) (op2 G op) x y H2 Q := by
  obtain ⟨Z, H₀, tvs, ts, α, h, r, α', e, k⟩ := h
  rw [den] at e
  obtain ⟨⟨ra, α1⟩, e1, e⟩ := Res.bind_ok e
  obtain ⟨⟨rb, α2⟩, e2, e⟩ := Res.bind_ok e
  obtain ⟨x, e3, e⟩ := Res.bind_ok e
  obtain ⟨y, e4, e⟩ := Res.bind_ok e
  obtain ⟨r', e5, e⟩ := Res.bind_ok e
  cases e
  refine lo_of h e1 fun v H1 s st p => ?_
  refine lo_of st e2 fun w H2 t st2 p2 => ?_
  obtain ⟨L, rl⟩ := st2.rl
  obtain ⟨k', p'⟩ := p.up (d := b) (o := some w) (s := t)
  refine ⟨Z, L, x, y, r, rl.amb, fin_of st2.len rl p' e3, fin_of st2.len rl p2 e4, e5, ?_⟩
  have e4 : plus b (some w) (plus a (some v) tvs) ++ σ = ((if isVar b = true then [] else [some w]) ++ (if isVar a = true then [] else [some v])) ++ (tvs ++ σ) := by
    rw [plus_app, plus_app, List.append_assoc]
  have e5 : plus b t (plus a s ts) ++ α' = ((if isVar b = true then [] else [t]) ++ (if isVar a = true then [] else [s])) ++ (ts ++ α') := by
    rw [plus_app, plus_app, List.append_assoc]
  rw [e4, e5] at rl
  exact done_of (by split <;> split <;> rfl) rl k
end
end Dv
namespace Dv
open PySem PySem.Spec PyProof.Rows L2
section
variable {X : Cx} {G : GEnv} {p pos pos' : Pos} {a b e f : Expr} {ca cb cc : CE}

/-! ### names, constants -/
theorem le_var {i : Nat} {x : Str} (h : PE X (.Name x pos) (tVar i)) : PE X (.Name x pos) (lift X G (.var i)) := PE.mono h fun σ H Q q => by
  obtain ⟨Z, H₀, tvs, ts, α, st, r, α', e, k⟩ := q
  simp only [den, rd] at e
  cases q : α[i]? with
  | none => rw [q] at e; cases e
  | some s =>
    have hu : s ≠ .un := fun z => by rw [q, z] at e; cases e
    obtain ⟨x, hx⟩ := st.held q hu
    refine ⟨x, hx, ?_⟩
    have main : ∀ {β : AEnv} {d : D}, Sit (rc X) Z H₀ H tvs σ ts β → β[i]? = some (.v d) → r = .v d → α' = β → Q x H := fun {β d} st h1 h2 h3 => by
      subst h2 h3
      obtain ⟨y, h4, h5⟩ := Rl.dup st.rl (st.slot h1)
      have h6 := st.slotV h4
      rw [hx] at h6
      cases h6
      exact k x H (fun z => nomatch z) h5
    rw [q] at e
    have fr : ∀ {t : SV}, t = s → r = .v t.d → α' = α.set i (.v t.d) → Q x H := fun {t} h0 h1 h2 => by
      subst h0
      have z := Rl.fz st.rl (st.slot q) hu
      rw [Sit.setA st.len.symm] at z
      have hi : i < α.length := (List.getElem?_eq_some_iff.mp q).1
      exact main (β := α.set i (.v t.d)) ⟨st.len, z⟩ (by rw [List.getElem?_set_self hi]) h1 h2
    cases s with
    | un => exact absurd rfl hu
    | v d => cases e; exact main st q rfl rfl
    | ol ds => cases e; exact fr rfl rfl rfl
    | od ks vs => cases e; exact fr rfl rfl rfl
    | oi c ns vs => cases e; exact fr rfl rfl rfl
theorem le_lit {d : D} {v : V} {c : Expr} (h : PE X c (tC v)) (r : ∀ V₀, Rep (rc X) V₀ v d) : PE X c (lift X G (.lit d)) := PE.mono h fun σ H Q q => by
  obtain ⟨Z, H₀, tvs, ts, α, st, r', α', e, k⟩ := q
  cases e
  exact k v H (fun z => nomatch z) (st.rl.any r)
theorem le_con {n : Nat} {x : Str} {d : D} {v : V} {c : Expr} (h : PE X c (tC v)) (hG : G.con n = some (x, d)) (r : ∀ V₀, Rep (rc X) V₀ v d) : PE X c (lift X G (.con n)) := PE.mono h fun σ H Q q => by
  obtain ⟨Z, H₀, tvs, ts, α, st, r', α', e, k⟩ := q
  simp only [den, hG] at e
  cases e
  exact k v H (fun z => nomatch z) (st.rl.any r)

/-! ### operations -/
theorem le_op {op : Operator} {o : P2} (ho : OpR X (binaryOp op) (S2 (rc X) (op2 G o))) (ha : PE X a (lo X G ca)) (hb : PE X b (lo X G cb)) : PE X (.BinOp a op b pos) (lift X G (.p2 o ca cb)) :=
  PE.mono (pe_op ho ha hb) fun _ _ _ q => use2 q
theorem le_cmp {op : CmpOp} {o : P2} (ho : OpR X (compareOp op) (S2 (rc X) (op2 G o))) (ha : PE X a (lo X G ca)) (hb : PE X b (lo X G cb)) (hm : behindInMarks op b = false) : PE X (.Compare a [op] [b] pos) (lift X G (.p2 o ca cb)) :=
  PE.mono (pe_cmpR ho ha hb hm) fun _ _ _ q => use2 q
theorem le_sub (hgi : GiOk X G) (hs2 : ∀ v u, subscripted b true v u = runValue (.builtin "lifetime.subscript" ⟨[v, u], []⟩)) (hu : X.A.units + 16 < cLine) (ha : PE X a (lo X G ca)) (hb : PE X b (lo X G cb)) (hs : PlainIx b) : PE X (.Subscript a b pos) (lift X G (.p2 .idx ca cb)) :=
  PE.mono (pe_sub (G := G) hgi hu hs2 ha hb hs) fun _ _ _ q => use2 q
theorem le_un (ha : PE X a (lo X G ca)) : PE X (.UnaryOp .USub a pos) (lift X G (.p1 .neg ca)) := PE.mono (pe_un (s_neg (G := G)) ha) fun _ _ _ q => use1 q
theorem lo_imp {c : CE} {σ : L2.St} {H : Hp} {K K' : VK} (h : lo X G c σ H K) (m : ∀ x H, K x H → K' x H) : lo X G c σ H K' := by
  cases c with
  | var i => obtain ⟨v, h1, h2⟩ := h; exact ⟨v, h1, m _ _ h2⟩
  | _ =>
    obtain ⟨Z, H₀, tvs, ts, α, st, r, α', e, k⟩ := h
    exact ⟨Z, H₀, tvs, ts, α, st, r, α', e, fun v H' hu rl => m _ _ (k v H' hu rl)⟩
/-- a call of a built-in with one operand -/
theorem le_callB {x : Str} {id : String} {o : P1} (hc : CallR X (.builtin id) (fun xs H Q => ∃ x, xs = [x] ∧ S1 (rc X) (op1 G o) x H Q)) (hg : Gl X x) (hm : X.mg x = none) (hv : bootBuiltins x = some (.builtin id)) (ha : PE X a (lo X G ca)) (hn : x ≠ "__name__") (hdb : (x == ("__debug__" : Str)) = false)
    (he : starEach [a] X.env = [(false, eval a X.env)]) : PE X (.Call (.Name x p) [a] [] pos) (lift X G (.p1 o ca)) := by
  refine PE.mono (pe_callB hc hg hm hv (pa_cons ha pa_nil he) hn hdb he rfl) fun σ H Q q => ?_
  have h := use1 q
  exact lo_imp h fun x H1 z => ⟨x, rfl, z⟩
theorem le_callTy {x : Str} {T : String} {o : P1} (hc : CallR X (.type T) (fun xs H Q => ∃ x, xs = [x] ∧ S1 (rc X) (op1 G o) x H Q)) (hg : Gl X x) (hm : X.mg x = none) (hv : bootBuiltins x = some (.type T)) (ha : PE X a (lo X G ca)) (hn : x ≠ "__name__") (hdb : (x == ("__debug__" : Str)) = false)
    (he : starEach [a] X.env = [(false, eval a X.env)]) : PE X (.Call (.Name x p) [a] [] pos) (lift X G (.p1 o ca)) := by
  refine PE.mono (pe_callTy hc hg hm hv (pa_cons ha pa_nil he) hn hdb he rfl) fun σ H Q q => ?_
  exact lo_imp (use1 q) fun x H1 z => ⟨x, rfl, z⟩
theorem le_callB2 {x : Str} {id : String} {o : P2} (hc : CallR X (.builtin id) (fun xs H Q => ∃ x y, xs = [x, y] ∧ S2 (rc X) (op2 G o) x y H Q)) (hg : Gl X x) (hm : X.mg x = none) (hv : bootBuiltins x = some (.builtin id)) (ha : PE X a (lo X G ca)) (hb : PE X b (lo X G cb)) (hn : x ≠ "__name__") (hdb : (x == ("__debug__" : Str)) = false)
    (he : starEach [a, b] X.env = (false, eval a X.env) :: starEach [b] X.env) (he2 : starEach [b] X.env = [(false, eval b X.env)]) : PE X (.Call (.Name x p) [a, b] [] pos) (lift X G (.p2 o ca cb)) := by
  refine PE.mono (pe_callB hc hg hm hv (pa_cons ha (pa_cons hb pa_nil he2) he) hn hdb he (by rw [he2]; rfl)) fun σ H Q q => ?_
  exact lo_imp (use2 q) fun x H1 z => lo_imp z fun y H2 w => ⟨x, y, rfl, w⟩
theorem le_isN {j : Nat} {pos'} (ha : PE X a (lo X G ca)) : PE X (.Compare a [.Is] [.Constant .none j pos'] pos) (lift X G (.p1 .isN ca)) := by
  refine PE.mono (pe_cmp (pc_isN ha)) fun σ H Q q => ?_
  refine lo_imp (use1 q) fun x H1 ⟨Z, L, s, r, A, ix, e, o⟩ => ?_
  cases e
  have : decide (x = V.non) = isNo s := by
    cases s with
    | un => exact absurd rfl ix.1
    | v d => have r := ix.val rfl; cases r <;> first | rfl | (simp [isNo])
    | ol ds => obtain ⟨a, xs, rfl, _⟩ := ix.lst rfl; simp [isNo]
    | od ks vs => obtain ⟨a, rfl, _⟩ := ix.dct rfl; simp [isNo]
    | oi c ns vs => obtain ⟨_, _, _, en⟩ := ix; cases en; simp [isNo]
  rw [this]
  exact o.bl
theorem le_notN {j : Nat} {pos'} (ha : PE X a (lo X G ca)) : PE X (.Compare a [.IsNot] [.Constant .none j pos'] pos) (lift X G (.p1 .notN ca)) := by
  refine PE.mono (pe_cmp (pc_notN ha)) fun σ H Q q => ?_
  refine lo_imp (use1 q) fun x H1 ⟨Z, L, s, r, A, ix, e, o⟩ => ?_
  cases e
  have : (!decide (x = V.non)) = !isNo s := by
    cases s with
    | un => exact absurd rfl ix.1
    | v d => have r := ix.val rfl; cases r <;> first | rfl | (simp [isNo])
    | ol ds => obtain ⟨a, xs, rfl, _⟩ := ix.lst rfl; simp [isNo]
    | od ks vs => obtain ⟨a, rfl, _⟩ := ix.dct rfl; simp [isNo]
    | oi c ns vs => obtain ⟨_, _, _, en⟩ := ix; cases en; simp [isNo]
  rw [this]
  exact o.bl
theorem le_not (ha : PE X a (lo X G ca)) : PE X (.UnaryOp .Not a pos) (lift X G (.p1 .not ca)) := by
  refine PE.mono (pe_notT ha) fun σ H Q q => ?_
  refine lo_imp (use1 q) fun x H1 ⟨Z, L, s, r, A, ix, e, o⟩ => ?_
  obtain ⟨b, e1, rfl⟩ := map_ok (show (truthD s).map _ = .ok r from e)
  exact ⟨b, ix.tru e1, o.bl⟩

/-! ### and, or, chains -/
theorem seq2 {c : CE} {σ : L2.St} {H : Hp} {Q : VK} {f : SV → AEnv → Res (SV × AEnv)} {Z H₀ tvs ts α} {r : SV} {α' : AEnv} (st : Sit (rc X) Z H₀ H tvs σ ts α) (e : (den G c α >>= fun q => f q.1 q.2) = .ok (r, α'))
    (k : ∀ x H1 s β, s ≠ .un → Rl (rc X) Z H₀ H1 (some x :: (tvs ++ σ)) (s :: (ts ++ β)) → f s β = .ok (r, α') → Q x H1) : lift X G c σ H Q := by
  obtain ⟨⟨s, β⟩, e1, e2⟩ := Res.bind_ok e
  exact ⟨Z, H₀, tvs, ts, α, st, s, β, e1, fun v H' hu rl => k v H' s β hu rl e2⟩
theorem is_bl {R : RC} {Z : Addr → Prop} {H₀ H : Hp} {x : V} {b : Bool} {os : List (Option V)} {ss : List SV} (rl : Rl R Z H₀ H (some x :: os) (.v (.bl b) :: ss)) : x = .bl b := by
  obtain ⟨L, r⟩ := rl
  obtain ⟨y, h1, h2⟩ := r.rep (i := 0) rfl
  cases h1
  cases h2
  rfl
theorem le_and (ha : PE X a (lift X G ca)) (hb : PE X b (lift X G cb)) : PE X (.BoolOp .And [a, b] pos) (lift X G (.and ca cb)) := by
  refine PE.mono (pe_and ha (pe_one hb)) fun σ H Q q => ?_
  obtain ⟨Z, H₀, tvs, ts, α, st, r, α', e, k⟩ := q
  simp only [den] at e
  refine seq2 (f := andK (den G cb)) st e fun x H1 s β hu rl e2 => ?_
  unfold andK at e2
  split at e2
  · have := is_bl rl
    subst this
    exact ⟨true, rfl, ⟨Z, H₀, tvs, ts, β, ⟨st.len, rl.drop⟩, r, α', e2, k⟩⟩
  · have := is_bl rl
    subst this
    cases e2
    exact ⟨false, rfl, k (.bl false) H1 hu rl⟩
  · cases e2
theorem le_or (ha : PE X a (lift X G ca)) (hb : PE X b (lift X G cb)) : PE X (.BoolOp .Or [a, b] pos) (lift X G (.or ca cb)) := by
  refine PE.mono (pe_or ha (pe_one hb)) fun σ H Q q => ?_
  obtain ⟨Z, H₀, tvs, ts, α, st, r, α', e, k⟩ := q
  simp only [den] at e
  refine seq2 (f := orK (den G cb)) st e fun x H1 s β hu rl e2 => ?_
  unfold orK at e2
  split at e2
  · have := is_bl rl
    subst this
    exact ⟨false, rfl, ⟨Z, H₀, tvs, ts, β, ⟨st.len, rl.drop⟩, r, α', e2, k⟩⟩
  · have := is_bl rl
    subst this
    cases e2
    exact ⟨true, rfl, k (.bl true) H1 hu rl⟩
  · cases e2
/-- a longer row of and, or: folded to the right -/
theorem le_andc {rest : List Expr} (ha : PE X a (lift X G ca)) (hb : PE X (.BoolOp .And (b :: rest) pos) (lift X G cb)) : PE X (.BoolOp .And (a :: b :: rest) pos) (lift X G (.and ca cb)) := by
  refine PE.mono (pe_and ha hb) fun σ H Q q => ?_
  obtain ⟨Z, H₀, tvs, ts, α, st, r, α', e, k⟩ := q
  simp only [den] at e
  refine seq2 (f := andK (den G cb)) st e fun x H1 s β hu rl e2 => ?_
  unfold andK at e2
  split at e2
  · have := is_bl rl
    subst this
    exact ⟨true, rfl, ⟨Z, H₀, tvs, ts, β, ⟨st.len, rl.drop⟩, r, α', e2, k⟩⟩
  · have := is_bl rl
    subst this
    cases e2
    exact ⟨false, rfl, k (.bl false) H1 hu rl⟩
  · cases e2
theorem le_orc {rest : List Expr} (ha : PE X a (lift X G ca)) (hb : PE X (.BoolOp .Or (b :: rest) pos) (lift X G cb)) : PE X (.BoolOp .Or (a :: b :: rest) pos) (lift X G (.or ca cb)) := by
  refine PE.mono (pe_or ha hb) fun σ H Q q => ?_
  obtain ⟨Z, H₀, tvs, ts, α, st, r, α', e, k⟩ := q
  simp only [den] at e
  refine seq2 (f := orK (den G cb)) st e fun x H1 s β hu rl e2 => ?_
  unfold orK at e2
  split at e2
  · have := is_bl rl
    subst this
    exact ⟨false, rfl, ⟨Z, H₀, tvs, ts, β, ⟨st.len, rl.drop⟩, r, α', e2, k⟩⟩
  · have := is_bl rl
    subst this
    cases e2
    exact ⟨true, rfl, k (.bl true) H1 hu rl⟩
  · cases e2
theorem le_one {op} (ha : PE X a (lift X G ca)) : PE X (.BoolOp op [a] pos) (lift X G ca) := pe_one ha
end
end Dv

set_option Elab.async false
set_option linter.all false
set_option maxRecDepth 100000
set_option maxHeartbeats 4000000
/-! tests, displays, arguments, calls -/
namespace Dv
open PySem PySem.Spec PyProof.Rows L2

/-- a container that nobody else holds -/
def SV.own : SV → Bool
  | .ol _ => true
  | .od _ _ => true
  | .oi _ _ _ => true
  | _ => false
theorem vis_upd {Z : Addr → Prop} {L : List Addr} {H : Hp} {a : Addr} {o : HO} (h : a ∈ L) : vis Z L (upd H a o) = vis Z L H := by
  funext b
  unfold vis
  by_cases hb : Z b ∨ b ∈ L
  · rw [if_pos hb, if_pos hb]
  · rw [if_neg hb, if_neg hb]
    exact upd_ne fun e => hb (.inr (e ▸ h))
theorem RlO.put {R : RC} {Z : Addr → Prop} {H₀ H : Hp} {L : List Addr} {os : List (Option V)} {ss : List SV} {i : Nat} {s : SV} (r : RlO R Z H₀ H L os ss) (h : ss[i]? = some s) (ow : s.own = true) :
    ∃ a, os[i]? = some (some (.ref a)) ∧ a ∈ L ∧ Ent R (vis Z L H) H (some (.ref a)) s [a] ∧
      ∀ o' s', Ent R (vis Z L H) (upd H a o') (some (.ref a)) s' [a] → RlO R Z H₀ (upd H a o') L os (ss.set i s') := by
  obtain ⟨o, l, m, q, e1, e2, e3, f⟩ := r.ents.at h
  have ha : ∃ a, o = some (.ref a) ∧ m = [a] := by cases e3 <;> first | cases ow; done | exact ⟨_, rfl, rfl⟩
  obtain ⟨a, rfl, rfl⟩ := ha
  have hm : a ∈ L := by rw [e1]; simp
  refine ⟨a, e2, hm, e3, fun o' s' en => ?_⟩
  have sv : vis Z L (upd H a o') = vis Z L H := vis_upd hm
  have nd := r.nd
  rw [e1] at nd
  have na : ∀ b ∈ l ++ q, b ≠ a := fun b hb z => by
    subst z
    have n1 := List.nodup_append.mp nd
    rcases List.mem_append.mp hb with hb | hb
    · exact (List.nodup_append.mp n1.1).2.2 b hb b (List.mem_singleton.mpr rfl) rfl
    · exact n1.2.2 b (List.mem_append_right _ (List.mem_singleton.mpr rfl)) b hb rfl
  have z := f (V₁ := vis Z L H) (H' := upd H a o') (Sub.refl _) (fun b hb u e => by rw [upd_ne (na b hb)]; exact e) en
  have so : os.set i (some (.ref a)) = os := by
    obtain ⟨hi, e⟩ := List.getElem?_eq_some_iff.mp e2
    rw [← e]
    exact List.set_getElem_self hi
  rw [so, ← e1] at z
  refine ⟨by rw [sv]; exact z, r.nd, r.fresh, fun b u e => ?_, r.zd⟩
  have : b ≠ a := fun z => by rw [z, r.fresh a hm] at e; cases e
  rw [upd_ne this]
  exact r.same b u e

section
variable {X : Cx} {G : GEnv} {p pos pos' : Pos} {a b e f : Expr} {ca cb cc : CE}

/-! ### tests -/
theorem lt_tru {σ : L2.St} {H : Hp} {Q : Bool → Hp → Prop} {c : CE} (h : liftO X G c σ H Q) : lo X G c σ H fun x H1 => ∃ k, TruV X.K x H1 k ∧ Q k H1 := by
  obtain ⟨Z, H₀, tvs, ts, α, st, b, α', e, k⟩ := h
  rw [denT] at e
  obtain ⟨⟨ra, α1⟩, e1, e⟩ := Res.bind_ok e
  obtain ⟨x, e2, e⟩ := Res.bind_ok e
  obtain ⟨r', e3, e⟩ := Res.bind_ok e
  cases e
  refine lo_of st e1 fun v H1 s st2 p => ?_
  obtain ⟨L, rl⟩ := st2.rl
  have ix := fin_of st2.len rl p e2
  refine ⟨b, ix.tru e3, k H1 ?_⟩
  have e4 := plus_app c (some v) tvs σ
  have e5 := plus_app c s ts α'
  rw [e4, e5] at rl
  exact Rl.drops (by split <;> rfl) ⟨L, rl⟩
/-- a test by a value -/
def liftV (X : Cx) (G : GEnv) (c : CE) : TT := fun σ H Q => ∃ Z H₀ tvs ts α, Sit (rc X) Z H₀ H tvs σ ts α ∧ ∃ r α' b, den G c α = .ok (r, α') ∧ truthD r = .ok b ∧ ∀ H', Rl (rc X) Z H₀ H' (tvs ++ σ) (ts ++ α') → Q b H'
theorem opnd_nv {c : CE} {r : Res (SV × AEnv)} {α : AEnv} (h : isVar c = false) : opnd c r α = r.map fun p => (some p.1, p.2) := by cases c <;> first | rfl | cases h
theorem fin_nv {c : CE} {o : Option SV} {α : AEnv} (h : isVar c = false) : fin c o α = .ofOpt o := by cases c <;> first | rfl | cases h
theorem lo_nv {c : CE} (h : isVar c = false) : lo X G c = lift X G c := by cases c <;> first | rfl | cases h
/-- two readings of a test that is no name -/
theorem liftO_V {c : CE} {σ : L2.St} {H : Hp} {Q : Bool → Hp → Prop} (hv : isVar c = false) (h : liftO X G c σ H Q) : liftV X G c σ H Q := by
  obtain ⟨Z, H₀, tvs, ts, α, st, b, α', e, k⟩ := h
  rw [denT] at e
  obtain ⟨⟨ra, α1⟩, e1, e⟩ := Res.bind_ok e
  obtain ⟨x, e2, e⟩ := Res.bind_ok e
  obtain ⟨r', e3, e⟩ := Res.bind_ok e
  cases e
  rw [opnd_nv hv] at e1
  obtain ⟨⟨r1, α2⟩, e4, e5⟩ := map_ok e1
  cases e5
  rw [fin_nv hv] at e2
  cases e2
  exact ⟨Z, H₀, tvs, ts, α, st, r1, _, b, e4, e3, k⟩
theorem lt_O (hv : isVar ca = false) (h : PT X a (liftV X G ca)) : PT X a (liftO X G ca) := PT.mono h fun _ _ _ q => liftO_V hv q
theorem lv_lift {c : CE} {σ : L2.St} {H : Hp} {Q : Bool → Hp → Prop} (h : liftV X G c σ H Q) : lift X G c σ H fun x H1 => ∃ k, TruV X.K x H1 k ∧ Q k H1 := by
  obtain ⟨Z, H₀, tvs, ts, α, st, r, α', b, e1, e2, k⟩ := h
  refine ⟨Z, H₀, tvs, ts, α, st, r, α', e1, fun v H1 hu rl => ?_⟩
  have rl' := rl
  obtain ⟨L, rr⟩ := rl
  have ix : In (rc X) Z L H1 v r := In.of rr (j := 0) rfl rfl hu
  exact ⟨b, ix.tru e2, k H1 rl'.drop⟩
theorem lt_plain (ha : PE X a (lift X G ca)) (he : ∀ whole, isTrue a X.env whole = (do let v ← whole; standAt a.pos; holding [v] (truthy v))) : PT X a (liftV X G ca) :=
  PT.mono (pt_truth ha he) fun _ _ _ q => lv_lift q
theorem lt_name {i : Nat} {x : Str} (h : PE X (.Name x pos) (tVar i)) : PT X (.Name x pos) (liftO X G (.var i)) :=
  PT.mono (pt_truth h fun _ => rfl) fun _ _ _ q => lt_tru (c := .var i) q
theorem tru_bl {K : PySem.W.Frag} {b k : Bool} {H : Hp} (h : TruV K (.bl b) H k) : k = b := h
theorem lt_cmp {op : CmpOp} {o : P2} (ho : OpR X (compareOp op) (S2 (rc X) (op2 G o))) (hb2 : ∀ s t r, op2 G o s t = .ok r → ∃ b, r = .v (.bl b)) (ha : PE X a (lo X G ca)) (hb : PE X b (lo X G cb)) (hm : behindInMarks op b = false) : PT X (.Compare a [op] [b] pos) (liftV X G (.p2 o ca cb)) := by
  refine PT.mono (pt_cmpR ho ha hb hm) fun σ H Q q => ?_
  refine lo_imp (use2 (lv_lift q)) fun x H1 z => lo_imp z fun y H2 ⟨Z, L, s, t, r, A, ix, iy, e, o⟩ => ?_
  obtain ⟨b, rfl⟩ := hb2 s t r e
  refine ⟨Z, L, s, t, _, A, ix, iy, e, fun H' z cs sm hn nd hu en => ?_⟩
  obtain ⟨k, hk, q⟩ := o H' z cs sm hn nd hu en
  cases en with
  | v r => cases r; exact ⟨b, rfl, by rw [tru_bl hk] at q; exact q⟩
theorem isN_eq {Z : Addr → Prop} {L : List Addr} {H : Hp} {x : V} {s : SV} (ix : In (rc X) Z L H x s) : decide (x = V.non) = isNo s := by
  cases s with
  | un => exact absurd rfl ix.1
  | v d => have r := ix.val rfl; cases r <;> first | rfl | (simp [isNo])
  | ol ds => obtain ⟨a, xs, rfl, _⟩ := ix.lst rfl; simp [isNo]
  | od ks vs => obtain ⟨a, rfl, _⟩ := ix.dct rfl; simp [isNo]
  | oi c ns vs => obtain ⟨_, _, _, en⟩ := ix; cases en; simp [isNo]
theorem lt_isN {j : Nat} {pos'} (ha : PE X a (lo X G ca)) : PT X (.Compare a [.Is] [.Constant .none j pos'] pos) (liftV X G (.p1 .isN ca)) := by
  refine PT.mono (pt_cmp (pc_isN ha)) fun σ H Q q => ?_
  refine lo_imp (use1 (lv_lift q)) fun x H1 ⟨Z, L, s, r, A, ix, e, o⟩ => ?_
  cases e
  rw [isN_eq ix]
  obtain ⟨k, hk, q⟩ := o.bl
  exact ⟨_, rfl, by rw [tru_bl hk] at q; exact q⟩
theorem lt_notN {j : Nat} {pos'} (ha : PE X a (lo X G ca)) : PT X (.Compare a [.IsNot] [.Constant .none j pos'] pos) (liftV X G (.p1 .notN ca)) := by
  refine PT.mono (pt_cmp (pc_notN ha)) fun σ H Q q => ?_
  refine lo_imp (use1 (lv_lift q)) fun x H1 ⟨Z, L, s, r, A, ix, e, o⟩ => ?_
  cases e
  rw [isN_eq ix]
  obtain ⟨k, hk, q⟩ := o.bl
  exact ⟨_, rfl, by rw [tru_bl hk] at q; exact q⟩
theorem lt_not (ha : PT X a (liftO X G ca)) : PT X (.UnaryOp .Not a pos) (liftV X G (.p1 .not ca)) := by
  refine PT.mono (pt_not ha) fun σ H Q q => ?_
  obtain ⟨Z, H₀, tvs, ts, α, st, r, α', b, e1, e2, k⟩ := q
  simp only [den] at e1
  obtain ⟨⟨rb, α3⟩, e6, e7⟩ := Res.bind_ok e1
  obtain ⟨y, e8, e9⟩ := Res.bind_ok e7
  obtain ⟨z, e10, e11⟩ := Res.bind_ok e9
  cases e11
  obtain ⟨c, e12, rfl⟩ := map_ok (show (truthD y).map _ = .ok r from e10)
  cases e2
  refine ⟨Z, H₀, tvs, ts, α, st, c, _, ?_, fun H' rl => k H' rl⟩
  rw [denT]
  show (opnd ca (den G ca α) α >>= _) = _
  rw [e6]
  show (fin ca rb _ >>= _) = _
  rw [e8]
  show (truthD y >>= _) = _
  rw [e12]
  rfl
theorem lt_andc {rest : List Expr} (ha : PT X a (liftV X G ca)) (hb : PW X (.BoolOp .And (b :: rest) pos) (liftV X G cb)) : PW X (.BoolOp .And (a :: b :: rest) pos) (liftV X G (.and ca cb)) := by
  refine PW.mono (pw_and ha hb) fun σ H Q q => ?_
  obtain ⟨Z, H₀, tvs, ts, α, st, r, α', t, e1, e2, k⟩ := q
  simp only [den] at e1
  obtain ⟨⟨rb, α3⟩, e6, e7⟩ := Res.bind_ok e1
  have e7 : andK (den G cb) rb α3 = .ok (r, α') := e7
  unfold andK at e7
  split at e7
  · exact ⟨Z, H₀, tvs, ts, α, st, _, α3, true, e6, rfl, fun H' rl => ⟨Z, H₀, tvs, ts, α3, ⟨st.len, rl⟩, r, α', t, e7, e2, k⟩⟩
  · cases e7
    cases e2
    exact ⟨Z, H₀, tvs, ts, α, st, _, _, false, e6, rfl, fun H' rl => k H' rl⟩
  · cases e7
theorem lt_orc {rest : List Expr} (ha : PT X a (liftV X G ca)) (hb : PW X (.BoolOp .Or (b :: rest) pos) (liftV X G cb)) : PW X (.BoolOp .Or (a :: b :: rest) pos) (liftV X G (.or ca cb)) := by
  refine PW.mono (pw_or ha hb) fun σ H Q q => ?_
  obtain ⟨Z, H₀, tvs, ts, α, st, r, α', t, e1, e2, k⟩ := q
  simp only [den] at e1
  obtain ⟨⟨rb, α3⟩, e6, e7⟩ := Res.bind_ok e1
  have e7 : orK (den G cb) rb α3 = .ok (r, α') := e7
  unfold orK at e7
  split at e7
  · exact ⟨Z, H₀, tvs, ts, α, st, _, α3, false, e6, rfl, fun H' rl => ⟨Z, H₀, tvs, ts, α3, ⟨st.len, rl⟩, r, α', t, e7, e2, k⟩⟩
  · cases e7
    cases e2
    exact ⟨Z, H₀, tvs, ts, α, st, _, _, true, e6, rfl, fun H' rl => k H' rl⟩
  · cases e7
theorem lt_and1 (ha : PT X a (liftV X G ca)) : PW X (.BoolOp .And [a] pos) (liftV X G ca) := pw_and1 ha
theorem lt_or1 (ha : PT X a (liftV X G ca)) : PW X (.BoolOp .Or [a] pos) (liftV X G ca) := pw_or1 ha

/-! ### chains -/
theorem use_chain {o p : P2} {a b c : CE} {σ : L2.St} {H : Hp} {Q : VK} (ho : ∀ s t r, op2 G o s t = .ok r → ∃ b, r = .v (.bl b)) (h : lift X G (.chain o p a b c) σ H Q) :
    tChain (S2 (rc X) (op2 G o)) (S2 (rc X) (op2 G p)) (lift X G a) (lift X G b) (lift X G c) σ H Q := by
  obtain ⟨Z, H₀, tvs, ts, α, st, r, α', e, k⟩ := h
  simp only [den] at e
  obtain ⟨⟨ra, α1⟩, e1, e⟩ := Res.bind_ok e
  obtain ⟨⟨rb, α2⟩, e2, e⟩ := Res.bind_ok e
  obtain ⟨r1, e3, e⟩ := Res.bind_ok e
  refine ⟨Z, H₀, tvs, ts, α, st, ra, α1, e1, fun x H1 ua rl1 => ?_⟩
  refine ⟨Z, H₀, some x :: tvs, ra :: ts, α1, ⟨by simp [st.len], rl1⟩, rb, α2, e2, fun y H2 ub rl2 => ?_⟩
  obtain ⟨k1, rfl⟩ := ho _ _ _ e3
  have rl2' := rl2
  obtain ⟨L, rr⟩ := rl2
  refine ⟨Z, L, ra, rb, _, rr.amb, In.of rr (j := 1) rfl rfl ua, In.of rr (j := 0) rfl rfl ub, e3, fun H3 z cs sm hn nd hu en => ?_⟩
  have g := rr.grow sm hn nd en
  have ez : z = .bl k1 := by
    cases en with
    | v r => cases r; rfl
  subst ez
  refine ⟨k1, rfl, ?_⟩
  cases k1 with
  | false =>
    have e : Res.ok (SV.v (.bl false), α2) = Res.ok (r, α') := e
    cases e
    refine iteF ?_
    have g2 : Rl (rc X) Z H₀ H3 ([some (.bl false)] ++ ([some y, some x] ++ (tvs ++ σ))) ([.v (.bl false)] ++ ([rb, ra] ++ (ts ++ _))) := ⟨_, g⟩
    exact k _ H3 hu (Rl.drops (as := [some y, some x]) (ts := [rb, ra]) rfl (Rl.rot (as := [some (.bl false)]) (ts := [.v (.bl false)]) (bs := [some y, some x]) (us := [rb, ra]) rfl rfl g2))
  | true =>
    refine iteT ?_
    have e : (den G c α2 >>= fun q => op2 G p rb q.1 >>= fun z => Res.ok (z, q.2)) = Res.ok (r, α') := e
    obtain ⟨⟨rcv, α3⟩, e4, e⟩ := Res.bind_ok e
    obtain ⟨q1, e5, e⟩ := Res.bind_ok e
    cases e
    have g2 : Rl (rc X) Z H₀ H3 (some y :: some x :: (tvs ++ σ)) (rb :: ra :: (ts ++ α2)) := Rl.drop ⟨_, g⟩
    refine ⟨Z, H₀, some y :: some x :: tvs, rb :: ra :: ts, α2, ⟨by simp [st.len], g2⟩, rcv, _, e4, fun w H4 uc rl4 => ?_⟩
    obtain ⟨L4, rr4⟩ := rl4
    refine ⟨Z, L4, rb, rcv, r, rr4.amb, In.of rr4 (j := 1) rfl rfl ub, In.of rr4 (j := 0) rfl rfl uc, e5, ?_⟩
    exact done_of (P := [some w, some y, some x]) (PS := [rcv, rb, ra]) rfl rr4 k
theorem le_chain {op op' : CmpOp} {o o' : P2} {c : Expr} (ho : OpR X (compareOp op) (S2 (rc X) (op2 G o))) (ho' : OpR X (compareOp op') (S2 (rc X) (op2 G o'))) (hb2 : ∀ s t r, op2 G o s t = .ok r → ∃ b, r = .v (.bl b))
    (ha : PE X a (lift X G ca)) (hb : PE X b (lift X G cb)) (hc : PE X c (lift X G cc)) (hm : lastMarks [op, op'] [b, c] = false) : PE X (.Compare a [op, op'] [b, c] pos) (lift X G (.chain o o' ca cb cc)) :=
  PE.mono (pe_chain ho ho' ha hb hc hm) fun _ _ _ q => use_chain hb2 q
theorem tChain_mono {r r' r2 : R2} {ta tb tc : TE} {σ : L2.St} {H : Hp} {Q Q' : VK} (h : tChain r r' ta tb tc σ H Q) : tChain r r' ta tb tc σ H Q := h
end
end Dv

set_option Elab.async false
set_option linter.all false
set_option maxRecDepth 100000
set_option maxHeartbeats 4000000
/-! displays, arguments, calls, attributes, slices -/
namespace Dv
open PySem PySem.Spec PyProof.Rows L2

def liftL (X : Cx) (G : GEnv) (c : CL) : TA := fun σ H Q => ∃ Z H₀ tvs ts α, Sit (rc X) Z H₀ H tvs σ ts α ∧ ∃ rs α', denL G c α = .ok (rs, α') ∧
  ∀ vs H', vs.length = rs.length → (∀ r ∈ rs, r ≠ .un) → Rl (rc X) Z H₀ H' (vs.map some ++ (tvs ++ σ)) (rs ++ (ts ++ α')) → Q vs H'

/-- a def's promise: what its function gives of trees -/
def spOf (R : RC) (n : Nat) (F : List D → Res SV) : Sp := fun vs H Q _ => vs.length = n ∧ ∃ Z ds r, (∀ b, Z b → H b ≠ none) ∧ Reps R (vis Z [] H) vs ds ∧ F ds = .ok r ∧ Out R Z [] H r Q
/-- an __init__'s promise: the fields -/
def spInit (R : RC) (c : Str) (n : Nat) (F : List D → Res SV) : Sp := fun vs H Q _ => vs.length = n + 1 ∧ ∃ Z a C dx ws ds ns es, vs = .ref a :: ws ∧ (∀ b, Z b → H b ≠ none) ∧ Z a ∧ R.mg c = some (.ref C) ∧ H a = some (.ins C dx []) ∧ Reps R (vis Z [] H) ws ds ∧ F ds = .ok (.oi c ns es) ∧
  ∀ (H' : Hp) (dx' : Addr) (fs : List (Str × V)), (∀ b o, b ≠ a → H b = some o → H' b = some o) → H' a = some (.ins C dx' fs) → fs.map (·.1) = ns → Reps R (vis Z [] H') (fs.map (·.2)) es → Q .non H'

/-- what the language's names stand for -/
structure GOk (X : Cx) (G : GEnv) : Prop where
  con : ∀ k x d, G.con k = some (x, d) → ∃ v u, X.mg x = some u ∧ RelV v u ∧ ∀ V₀, Rep (rc X) V₀ v d
  fn : ∀ k x n F, G.fn k = some (x, n, F) → (∃ f fd ps j, ps.length = n ∧ X.mg x = some (.ref f) ∧ PySem.W.keepIn X.K (.ref f) = true ∧ Binds X.K fd ps [] ∧ FnOk X.prog X.w X.K X.mg X.base (L2.CX X.prog X.w) j f fd ps (spOf (rc X) n F) ∧ Room j X.A) ∨
    ∃ C f fd ps j, (∀ ds r, F ds = .ok r → ∃ ns es, r = .oi x ns es) ∧ ps.length = n + 1 ∧ X.mg x = some (.ref C) ∧ Mk X.K C f ∧ Binds X.K fd ps [] ∧ FnOk X.prog X.w X.K X.mg X.base (L2.CX X.prog X.w) j f fd ps (spInit (rc X) x n F) ∧ Room (j + 1) X.A
  mth : ∀ c m n F C, G.mth c m = some (n, F) → X.mg c = some (.ref C) → ∃ f fd ps j, ps.length = n ∧ Cls X.K C ∧ Meth X.K C m f ∧ Binds X.K fd ps [] ∧ FnOk X.prog X.w X.K X.mg X.base (L2.CX X.prog X.w) j f fd ps (spOf (rc X) n F) ∧ Room j X.A
  gi : ∀ c F C, G.gi c = some F → X.mg c = some (.ref C) → ∃ f fd ps j, ps.length = 2 ∧ Meth X.K C "__getitem__" f ∧ PySem.W.fnIn X.K f = true ∧ Binds X.K fd ps [] ∧ FnOk X.prog X.w X.K X.mg X.base (L2.CX X.prog X.w) j f fd ps (spOf (rc X) 2 F) ∧ Room (j + 1) X.A
  fld : ∀ c f C, G.fld c f = true → X.mg c = some (.ref C) → Cls X.K C ∧ NoAttr X.K C f
  isa : ∀ c t b C, G.isa c t = some b → X.mg c = some (.ref C) → ∃ T, X.mg t = some (.ref T) ∧ PySem.W.kitOne X.K (.ref C) (.ref T) = some b ∧ Cls X.K C ∧ PySem.W.findIn X.K (.ref C) "__class__" = some (some (.builtin "object.__class__")) ∧
    PySem.W.specialIn X.K (.builtin "object.__class__") "__get__" = some (some (.builtin "getset_descriptor.__get__")) ∧ PySem.W.takesIn X.K (.builtin "object.__class__") = some true ∧ PySem.W.mroIn X.K C (.type "object") = some true

theorem pass0 {X : Cx} : Passes (L2.CX X.prog X.w) X E0 := passL
section
variable {X : Cx} {G : GEnv} {p pos pos' apos : Pos} {a b e f o : Expr} {es : List Expr} {ca cb cc : CE} {cl : CL}

theorem la_nil : PA X [] (liftL X G .nil) := PA.mono pa_nil fun σ H Q q => by
  obtain ⟨Z, H₀, tvs, ts, α, st, rs, α', e, k⟩ := q
  cases e
  exact k [] H rfl (fun _ h => nomatch h) st.rl
theorem la_cons (ha : PE X e (lift X G ca)) (hr : PA X es (liftL X G cl)) (hs : starEach (e :: es) X.env = (false, eval e X.env) :: starEach es X.env) : PA X (e :: es) (liftL X G (.cons ca cl)) := PA.mono (pa_cons ha hr hs) fun σ H Q q => by
  obtain ⟨Z, H₀, tvs, ts, α, st, rs, α', e, k⟩ := q
  simp only [denL] at e
  obtain ⟨⟨x, α1⟩, e1, e⟩ := Res.bind_ok e
  obtain ⟨⟨xs, α2⟩, e2, e⟩ := Res.bind_ok e
  cases e
  refine ⟨Z, H₀, tvs, ts, α, st, x, α1, e1, fun v H1 hu rl => ?_⟩
  refine ⟨Z, H₀, some v :: tvs, x :: ts, α1, ⟨by simp [st.len], rl⟩, xs, _, e2, fun vs H2 hl hus rl2 => ?_⟩
  refine k (v :: vs) H2 (by simp [hl]) (fun r h => by rcases List.mem_cons.mp h with rfl | h; exact hu; exact hus r h) ?_
  have g : Rl (rc X) Z H₀ H2 (vs.map some ++ ([some v] ++ (tvs ++ σ))) (xs ++ ([x] ++ (ts ++ _))) := rl2
  exact Rl.rot (as := vs.map some) (bs := [some v]) (ts := xs) (us := [x]) (by simp [hl]) rfl g

/-- the temporaries of a display, frozen -/
theorem fz_args {Z : Addr → Prop} {H₀ H : Hp} {vs : List V} {rs : List SV} {os : List (Option V)} {ss : List SV} (hl : vs.length = rs.length) (hu : ∀ r ∈ rs, r ≠ .un) (rl : Rl (rc X) Z H₀ H (vs.map some ++ os) (rs ++ ss)) :
    ∃ L, RlO (rc X) Z H₀ H L os ss ∧ Reps (rc X) (vis Z L H) vs (rs.map SV.d) := by
  obtain ⟨L, r⟩ := rl
  obtain ⟨L', _, h1, h2⟩ := RlO.fzAll hl hu r
  exact ⟨L', h1, h2⟩
theorem le_tup {x1} (h : PA X es (liftL X G cl)) : PE X (.Tuple es x1 pos) (lift X G (.tup cl)) := PE.mono (pe_tupF h) fun σ H Q q => by
  obtain ⟨Z, H₀, tvs, ts, α, st, r, α', e, k⟩ := q
  simp only [den] at e
  obtain ⟨⟨rs, α1⟩, e1, e⟩ := Res.bind_ok e
  obtain ⟨q, e2, e⟩ := Res.bind_ok e
  cases e
  unfold ckTup at e2
  obtain ⟨c, e2⟩ := ite_ok e2
  cases e2
  refine ⟨Z, H₀, tvs, ts, α, st, rs, _, e1, fun vs H1 hl hu rl => ?_⟩
  obtain ⟨L, rr, rp⟩ := fz_args hl hu rl
  refine ⟨by have := okSize_iff.mp c; rw [← rp.length] at this; exact this, fun p ob hp hob => ?_⟩
  exact k _ _ (fun z => nomatch z) (rr.newT hob rp hp)
theorem le_lst (h : PA X es (liftL X G cl)) : PE X (.List es pos) (lift X G (.lst cl)) := PE.mono (pe_lst h) fun σ H Q q => by
  obtain ⟨Z, H₀, tvs, ts, α, st, r, α', e, k⟩ := q
  simp only [den] at e
  obtain ⟨⟨rs, α1⟩, e1, e⟩ := Res.bind_ok e
  obtain ⟨q, e2, e⟩ := Res.bind_ok e
  cases e
  unfold ckList at e2
  obtain ⟨c, e2⟩ := ite_ok e2
  cases e2
  refine ⟨Z, H₀, tvs, ts, α, st, rs, _, e1, fun vs H1 hl hu rl => ?_⟩
  obtain ⟨L, rr, rp⟩ := fz_args hl hu rl
  refine ⟨by have := okSize_iff.mp c; rw [← rp.length] at this; exact this, fun p hp => ?_⟩
  exact k _ _ (fun z => nomatch z) (rr.newL rp hp)

/-! ### calls -/
theorem vis_shift {Z : Addr → Prop} {L cs : List Addr} {H : Hp} : vis (fun b => Z b ∨ b ∈ L) (cs ++ []) H = vis Z (cs ++ L) H := by
  funext b
  unfold vis
  by_cases hb : (Z b ∨ b ∈ L) ∨ b ∈ cs ++ []
  · rw [if_pos hb, if_pos]
    simp only [List.append_nil, List.mem_append] at hb ⊢
    rcases hb with (h | h) | h
    · exact .inl h
    · exact .inr (.inr h)
    · exact .inr (.inl h)
  · rw [if_neg hb, if_neg]
    intro z
    apply hb
    simp only [List.append_nil, List.mem_append] at z ⊢
    rcases z with h | h | h
    · exact .inl (.inl h)
    · exact .inr h
    · exact .inl (.inr h)
theorem vis_shift0 {Z : Addr → Prop} {L : List Addr} {H : Hp} : vis (fun b => Z b ∨ b ∈ L) [] H = vis Z L H := vis_shift (cs := [])
/-- the arguments at hand: what a callee is to be told, and what comes back -/
theorem call_of {Z : Addr → Prop} {H₀ H : Hp} {tvs : List (Option V)} {ts : List SV} {α : AEnv} {σ : L2.St} {vs : List V} {rs : List SV} {r : SV} {F : List D → Res SV} {Q : VK} {E : XK} {n : Nat} (hl : vs.length = rs.length) (hu : ∀ r ∈ rs, r ≠ .un)
    (rl : Rl (rc X) Z H₀ H (vs.map some ++ (tvs ++ σ)) (rs ++ (ts ++ α))) (e : F (rs.map SV.d) = .ok r) (hn : vs.length = n) (k : ∀ v H', r ≠ .un → Rl (rc X) Z H₀ H' (some v :: (tvs ++ σ)) (r :: (ts ++ α)) → Q v H') : spOf (rc X) n F vs H Q E := by
  obtain ⟨L, rr, rp⟩ := fz_args hl hu rl
  refine ⟨hn, fun b => Z b ∨ b ∈ L, rs.map SV.d, r, fun b h => ?_, by rw [vis_shift0]; exact rp, e, fun H' z cs sm hc nd hr en => ?_⟩
  · rcases h with h | h
    · exact rr.zdH h
    · obtain ⟨u, e⟩ := rr.owned h
      rw [e]
      exact fun z => nomatch z
  · rw [vis_shift] at en
    exact k z H' hr ⟨_, rr.grow sm hc nd en⟩
/-- arguments: names are looked at when all are made -/
theorem var_or (c : CE) : (∃ i, c = .var i) ∨ vIx c = none ∧ isVar c = false := by
  cases c <;> first | exact .inl ⟨_, rfl⟩ | exact .inr ⟨rfl, rfl⟩
def PutA (σ : L2.St) (cs : List (Option V)) (ds : List SV) (c : CE) (ra : Option SV) (x : V) : Prop := match vIx c with
  | some i => σ[i]? = some (some x)
  | none => ∃ (s : SV) (k : Nat), ra = some s ∧ cs[k]? = some (some x) ∧ ds[k]? = some s
def PutL (σ : L2.St) (cs : List (Option V)) (ds : List SV) : CL → List (Option SV) → List V → Prop
  | .nil, [], [] => True
  | .cons a r, o :: os, x :: xs => PutA σ cs ds a o x ∧ PutL σ cs ds r os xs
  | _, _, _ => False
def liftA (X : Cx) (G : GEnv) (cl : CL) : TA := fun σ H Q => ∃ Z H₀ tvs ts α, Sit (rc X) Z H₀ H tvs σ ts α ∧ ∃ ro α', denA G cl α = .ok (ro, α') ∧
  ∀ vs H' cs ds, cs.length = ds.length → (∀ s ∈ ds, s ≠ .un) → PutL σ cs ds cl ro vs → Rl (rc X) Z H₀ H' (cs ++ (tvs ++ σ)) (ds ++ (ts ++ α')) → Q vs H'
theorem PutA_nv {σ : L2.St} {cs : List (Option V)} {ds : List SV} {c : CE} {ra : Option SV} {x : V} (h : vIx c = none) : PutA σ cs ds c ra x = ∃ (s : SV) (k : Nat), ra = some s ∧ cs[k]? = some (some x) ∧ ds[k]? = some s := by unfold PutA; rw [h]
theorem Put_nv {σ : L2.St} {cs : List (Option V)} {ds : List SV} {c : CE} {ra : Option SV} {x : V} {k : Nat} (h : isVar c = false) : Put σ cs ds c ra x k = ∃ s, ra = some s ∧ s ≠ .un ∧ cs[k]? = some (some x) ∧ ds[k]? = some s := by cases c <;> first | rfl | cases h
theorem lA_nil : PA X [] (liftA X G .nil) := PA.mono pa_nil fun σ H Q q => by
  obtain ⟨Z, H₀, tvs, ts, α, st, rs, α', e, k⟩ := q
  cases e
  exact k [] H [] [] rfl (fun _ h => nomatch h) trivial st.rl
theorem PutL.up {σ : L2.St} {cs : List (Option V)} {ds : List SV} (cs' : List (Option V)) (ds' : List SV) : ∀ {cl : CL} {xs : List (Option SV)} {vs : List V}, PutL σ cs ds cl xs vs → PutL σ (cs ++ cs') (ds ++ ds') cl xs vs
  | .nil, [], [], h => h
  | .nil, [], _ :: _, p => p.elim
  | .nil, _ :: _, _, p => p.elim
  | .cons _ _, [], _, p => p.elim
  | .cons _ _, _ :: _, [], p => p.elim
  | .cons a r, o :: os, x :: xs, p => by
    refine ⟨?_, PutL.up cs' ds' p.2⟩
    have h1 := p.1
    rcases var_or a with ⟨i, rfl⟩ | ⟨hv, _⟩
    · exact h1
    · rw [PutA_nv hv] at h1 ⊢
      obtain ⟨s1, k1, g1, g2, g3⟩ := h1
      refine ⟨s1, k1, g1, ?_, ?_⟩
      · rw [List.getElem?_append_left (List.getElem?_eq_some_iff.mp g2).1]; exact g2
      · rw [List.getElem?_append_left (List.getElem?_eq_some_iff.mp g3).1]; exact g3
theorem lA_cons (ha : PE X e (lo X G ca)) (hr : PA X es (liftA X G cl)) (hs : starEach (e :: es) X.env = (false, eval e X.env) :: starEach es X.env) : PA X (e :: es) (liftA X G (.cons ca cl)) := PA.mono (pa_cons ha hr hs) fun σ H Q q => by
  obtain ⟨Z, H₀, tvs, ts, α, st, rs, α', e, k⟩ := q
  simp only [denA] at e
  obtain ⟨⟨x, α1⟩, e1, e⟩ := Res.bind_ok e
  obtain ⟨⟨xs, α2⟩, e2, e⟩ := Res.bind_ok e
  cases e
  refine lo_of st e1 fun v H1 s st1 p1 => ?_
  refine ⟨Z, H₀, _, _, α1, st1, xs, _, e2, fun vs H2 cs ds hl hu pl rl => ?_⟩
  rcases var_or ca with ⟨i, rfl⟩ | ⟨hv, hi⟩
  · exact k (v :: vs) H2 cs ds hl hu ⟨p1, pl⟩ rl
  · have e3 : plus ca (some v) tvs = some v :: tvs := by unfold plus; rw [hi]; rfl
    have e4 : plus ca s ts = s :: ts := by unfold plus; rw [hi]; rfl
    rw [e3, e4] at rl
    rw [Put_nv hi, e3, e4] at p1
    obtain ⟨s', h1, hu', h2, h3⟩ := p1
    have h3' : s = s' := by simpa using h3
    subst h3'
    have h1' : x = some s := h1
    subst h1'
    refine k (v :: vs) H2 (cs ++ [some v]) (ds ++ [s]) (by simp [hl]) (fun t ht => ?_) ⟨?_, pl.up _ _⟩ (by rw [List.append_assoc, List.append_assoc]; exact rl)
    · rcases List.mem_append.mp ht with ht | ht
      · exact hu t ht
      · rw [List.mem_singleton.mp ht]; exact hu'
    · rw [PutA_nv hv]
      exact ⟨s, cs.length, rfl, by simp, by rw [hl]; simp⟩
theorem fin_var {i : Nat} {o : Option SV} {α : AEnv} {y : SV} (h : fin (.var i) o α = .ok y) : α[i]? = some y ∧ y ≠ .un := by
  simp only [fin] at h
  cases q : α[i]? with
  | none => rw [q] at h; cases h
  | some t =>
    have hu : t ≠ .un := fun z => by rw [q, z] at h; cases h
    have et : t = y := by
      rw [q] at h
      cases t <;> first | exact absurd rfl hu | (cases h; rfl)
    subst et
    exact ⟨rfl, hu⟩
/-- where the arguments stand -/
theorem at_of {σ : L2.St} {tvs cs : List (Option V)} {ts ds : List SV} {α : AEnv} (h1 : cs.length = ds.length) (h2 : tvs.length = ts.length) (hu : ∀ s ∈ ds, s ≠ .un) : ∀ {cl : CL} {ro : List (Option SV)} {vs : List V} {rs : List SV}, PutL σ cs ds cl ro vs → fins cl ro α = .ok rs →
    Paired (fun (x : V) (s : SV) => s ≠ .un ∧ ∃ j : Nat, (cs ++ (tvs ++ σ))[j]? = some (some x) ∧ (ds ++ (ts ++ α))[j]? = some s) vs rs
  | .nil, [], [], rs, _, e => by cases e; exact .nil
  | .nil, [], _ :: _, _, p, _ => p.elim
  | .nil, _ :: _, _, _, p, _ => p.elim
  | .cons _ _, [], _, _, p, _ => p.elim
  | .cons _ _, _ :: _, [], _, p, _ => p.elim
  | .cons a r, o :: os, x :: xs, rs, p, e => by
    rw [fins] at e
    obtain ⟨y, e1, e⟩ := Res.bind_ok e
    obtain ⟨ys, e2, e⟩ := Res.bind_ok e
    cases e
    refine .cons ?_ (at_of h1 h2 hu p.2 e2)
    have p1 := p.1
    rcases var_or a with ⟨i, rfl⟩ | ⟨hv, hi⟩
    · have p1 : σ[i]? = some (some x) := p1
      obtain ⟨q, hu⟩ := fin_var e1
      refine ⟨hu, cs.length + (tvs.length + i), ?_, ?_⟩
      · rw [List.getElem?_append_right (by omega), List.getElem?_append_right (by omega)]
        simpa using p1
      · rw [List.getElem?_append_right (by omega), List.getElem?_append_right (by omega)]
        rw [show cs.length + (tvs.length + i) - ds.length - ts.length = i from by omega]
        exact q
    · rw [PutA_nv hv] at p1
      obtain ⟨s, k, g1, g2, g3⟩ := p1
      subst g1
      rw [fin_nv hi] at e1
      cases e1
      refine ⟨hu _ (List.mem_of_getElem? g3), k, ?_, ?_⟩
      · rw [List.getElem?_append_left (List.getElem?_eq_some_iff.mp g2).1]; exact g2
      · rw [List.getElem?_append_left (List.getElem?_eq_some_iff.mp g3).1]; exact g3
/-- what cannot be changed stands on tuples alone -/
theorem Rep.im {R : RC} {V₀ V₁ : Hp} (h : ∀ b o xs, V₀ b = some (.frz o (.tup xs)) → V₁ b = some (.frz o (.tup xs))) : ∀ {v : V} {d : D}, Rep R V₀ v d → imD d = true → Rep R V₁ v d := by
  intro v d r
  refine Rep.rec (motive_1 := fun v d _ => imD d = true → Rep R V₁ v d) (motive_2 := fun vs ds _ => imDs ds = true → Reps R V₁ vs ds) ?_ ?_ ?_ ?_ ?_ ?_ ?_ ?_ ?_ ?_ ?_ ?_ r
  · exact fun _ => .non
  · exact fun b _ => .bl b
  · exact fun i _ => .int i
  · exact fun x _ => .str x
  · intro a vs ds q r ih e
    exact .tup (q.imp (fun ⟨o, h1, h2⟩ => ⟨o, h1, h _ _ _ h2⟩) id) (ih (by rw [imD] at e; exact e))
  · intro a vs ds q r ih e; simp [imD] at e
  · intro a kvs ds q r ih e; simp [imD] at e
  · intro a es ks ds q r1 hk r2 ih1 ih2 e; simp [imD] at e
  · intro a kvs ds q r ih e; simp [imD] at e
  · intro a c C dx fs ds m q r ih e; simp [imD] at e
  · exact fun _ => .nil
  · intro v d vs ds r1 r2 ih1 ih2 e
    rw [imDs, Bool.and_eq_true] at e
    exact .cons (ih1 e.1) (ih2 e.2)
theorem Reps.im {R : RC} {V₀ V₁ : Hp} (h : ∀ b o xs, V₀ b = some (.frz o (.tup xs)) → V₁ b = some (.frz o (.tup xs))) : ∀ {vs : List V} {ds : List D}, Reps R V₀ vs ds → imDs ds = true → Reps R V₁ vs ds
  | _, _, .nil, _ => .nil
  | _, _, .cons r q, e => by
    rw [imDs, Bool.and_eq_true] at e
    exact .cons (r.im h e.1) (Reps.im h q e.2)
theorem Ent.widen {R : RC} {Z : Addr → Prop} {L cs : List Addr} {H' : Hp} {z : V} {r : SV} (nt : ∀ a ∈ L, ∀ o xs, H' a ≠ some (.frz o (.tup xs))) (hi : imS r = true) (en : Ent R (vis Z (cs ++ []) H') H' (some z) r cs) : Ent R (vis Z (cs ++ L) H') H' (some z) r cs := by
  have h : ∀ b o xs, vis Z (cs ++ []) H' b = some (.frz o (.tup xs)) → vis Z (cs ++ L) H' b = some (.frz o (.tup xs)) := fun b o xs e => by
    obtain ⟨h1, h2, h3⟩ := vis_some e
    refine vis_of h1 (fun m => ?_) h3
    rcases List.mem_append.mp m with m | m
    · exact h2 (List.mem_append_left _ m)
    · exact nt b m o xs h3
  cases en with
  | un o => exact .un _
  | v r => exact .v (r.im h hi)
  | ol h1 r => exact .ol h1 (r.im h hi)
  | odK h1 r => cases hi
  | odT hne h1 r k q => cases hi
  | oi m h1 r => cases hi
theorem lend_reps {R : RC} {Z : Addr → Prop} {H₀ H : Hp} {L : List Addr} {os : List (Option V)} {ss : List SV} (rr : RlO R Z H₀ H L os ss) : ∀ {vs : List V} {rs : List SV}, Paired (fun (x : V) (s : SV) => s ≠ .un ∧ ∃ j : Nat, os[j]? = some (some x) ∧ ss[j]? = some s) vs rs →
    Reps R (vis Z [] H) vs (rs.map SV.d)
  | _, _, .nil => .nil
  | _, _, .cons ⟨hu, j, h1, h2⟩ t => by
    refine .cons ?_ (lend_reps rr t)
    obtain ⟨y, m, g1, g2, g3⟩ := rr.ent h2 hu
    rw [h1] at g1
    cases g1
    exact g3.freeze hu (vis_mono fun b o _ _ e => ⟨fun z => (nomatch z), e⟩) fun a ha u e => vis_of (rr.notZ (g2 a ha)) (fun z => nomatch z) e
/-- names are given up -/
theorem frz_var (i : Nat) (r : CL) (α : AEnv) : frz (.cons (.var i) r) α = frz r (α.set i (.v (α.getD i .un).d)) := rfl
theorem frz_nv {a : CE} (h : vIx a = none) (r : CL) (α : AEnv) : frz (.cons a r) α = frz r α := by rw [frz, h]
theorem frz_keep : ∀ (cl : CL) (α : AEnv) (i : Nat) (d : D), α[i]? = some (.v d) → (frz cl α)[i]? = some (.v d)
  | .nil, α, i, d, h => h
  | .cons a r, α, i, d, h => by
    rcases var_or a with ⟨j, rfl⟩ | ⟨hv, _⟩
    · rw [frz_var]
      refine frz_keep r _ i d ?_
      by_cases e : j = i
      · subst e
        have hi := (List.getElem?_eq_some_iff.mp h).1
        rw [List.getElem?_set_self hi, List.getD_eq_getElem?_getD, h]
        rfl
      · rw [List.getElem?_set_ne e]
        exact h
    · rw [frz_nv hv]
      exact frz_keep r α i d h
theorem frz_at : ∀ (cl : CL) (α : AEnv) (i : Nat) (s : SV), i ∈ vars cl → α[i]? = some s → (frz cl α)[i]? = some (.v s.d)
  | .nil, α, i, s, m, h => by cases m
  | .cons a r, α, i, s, m, h => by
    rcases var_or a with ⟨j, rfl⟩ | ⟨hv, _⟩
    · rw [frz_var]
      have hi := (List.getElem?_eq_some_iff.mp h).1
      by_cases e : j = i
      · subst e
        refine frz_keep r _ j s.d ?_
        rw [List.getElem?_set_self hi, List.getD_eq_getElem?_getD, h]
        rfl
      · rcases List.mem_cons.mp (show i ∈ j :: vars r from m) with e' | m
        · exact absurd e'.symm e
        · exact frz_at r _ i s m (by rw [List.getElem?_set_ne e]; exact h)
    · rw [frz_nv hv]
      exact frz_at r α i s (by rw [vars, hv] at m; exact m) h
theorem fins_set {α : AEnv} {i : Nat} {d : D} (hi : i < α.length) : ∀ {cl : CL} {ro : List (Option SV)} {rs : List SV}, fins cl ro α = .ok rs → ∃ zs, fins cl ro (α.set i (.v d)) = .ok zs
  | .nil, _, _, _ => ⟨[], by rw [fins]⟩
  | .cons _ _, [], _, e => by rw [fins] at e; cases e
  | .cons a r, o :: os, rs, e => by
    rw [fins] at e
    obtain ⟨y, e1, e⟩ := Res.bind_ok e
    obtain ⟨ys, e2, e⟩ := Res.bind_ok e
    obtain ⟨zs, e3⟩ := fins_set hi e2
    have : ∃ z, fin a o (α.set i (.v d)) = .ok z := by
      rcases var_or a with ⟨j, rfl⟩ | ⟨_, hv⟩
      · obtain ⟨q, hu⟩ := fin_var e1
        by_cases ej : i = j
        · subst ej
          exact ⟨.v d, by simp only [fin]; rw [List.getElem?_set_self hi]⟩
        · refine ⟨y, ?_⟩
          simp only [fin] at e1 ⊢
          rw [List.getElem?_set_ne ej]
          exact e1
      · rw [fin_nv hv] at e1 ⊢
        exact ⟨y, e1⟩
    obtain ⟨z, e4⟩ := this
    refine ⟨z :: zs, ?_⟩
    rw [fins, e4]
    show (fins r os _ >>= _) = _
    rw [e3]
    rfl
theorem frz_rl {R : RC} {Z : Addr → Prop} {H₀ H : Hp} {P : List (Option V)} {PS : List SV} {σ : L2.St} (hp : P.length = PS.length) : ∀ (cl : CL) (ro : List (Option SV)) {α : AEnv} {rs : List SV} {L : List Addr}, fins cl ro α = .ok rs → RlO R Z H₀ H L (P ++ σ) (PS ++ α) → ∃ L', RlO R Z H₀ H L' (P ++ σ) (PS ++ frz cl α)
  | .nil, _, _, _, L, _, r => ⟨L, r⟩
  | .cons _ _, [], _, _, _, e, _ => by rw [fins] at e; cases e
  | .cons a q, o :: os, α, rs, L, e, r => by
    rw [fins] at e
    obtain ⟨y, e1, e⟩ := Res.bind_ok e
    obtain ⟨ys, e2, e⟩ := Res.bind_ok e
    rcases var_or a with ⟨i, rfl⟩ | ⟨hv, _⟩
    · obtain ⟨h, hu⟩ := fin_var e1
      have hi := (List.getElem?_eq_some_iff.mp h).1
      have hs : (PS ++ α)[PS.length + i]? = some y := by rw [List.getElem?_append_right (by omega)]; simpa using h
      obtain ⟨_, _, L', _, r'⟩ := r.fz hs hu
      have es : (PS ++ α).set (PS.length + i) (.v y.d) = PS ++ α.set i (.v y.d) := by
        rw [List.set_append, if_neg (by omega)]; congr 2; omega
      rw [es] at r'
      have ed : α.getD i .un = y := by rw [List.getD_eq_getElem?_getD, h]; rfl
      rw [frz_var, ed]
      obtain ⟨zs, ez⟩ := fins_set (d := y.d) hi e2
      exact frz_rl hp q os ez r'
    · rw [frz_nv hv]
      exact frz_rl hp q os e2 r
/-- temporaries in front, given up -/
theorem fz_front {R : RC} {Z : Addr → Prop} {H₀ H : Hp} {os : List (Option V)} {ss : List SV} : ∀ {cs : List (Option V)} {ds : List SV} {L : List Addr}, cs.length = ds.length → (∀ s ∈ ds, s ≠ .un) → ∀ {ps : List (Option V)} {qs : List SV}, ps.length = qs.length → RlO R Z H₀ H L (ps ++ (cs ++ os)) (qs ++ (ds ++ ss)) →
    ∃ L', RlO R Z H₀ H L' (ps ++ (cs ++ os)) (qs ++ (ds.map (fun s => .v s.d) ++ ss))
  | [], [], L, _, _, _, _, _, r => ⟨L, r⟩
  | [], _ :: _, _, h, _, _, _, _, _ => by cases h
  | _ :: _, [], _, h, _, _, _, _, _ => by cases h
  | c :: cs, d :: ds, L, h, hu, ps, qs, hp, r => by
    have hs : (qs ++ (d :: ds ++ ss))[qs.length]? = some d := by rw [List.getElem?_append_right (Nat.le_refl _)]; simp
    obtain ⟨_, _, L', _, r'⟩ := r.fz hs (hu d List.mem_cons_self)
    have es : (qs ++ (d :: ds ++ ss)).set qs.length (.v d.d) = (qs ++ [.v d.d]) ++ (ds ++ ss) := by
      rw [List.set_append, if_neg (by omega)]; simp
    rw [es, show ps ++ (c :: cs ++ os) = (ps ++ [c]) ++ (cs ++ os) from by simp] at r'
    obtain ⟨L'', r''⟩ := fz_front (ps := ps ++ [c]) (qs := qs ++ [.v d.d]) (by simpa using h) (fun s m => hu s (List.mem_cons_of_mem _ m)) (by simp [hp]) r'
    refine ⟨L'', ?_⟩
    have e1 : ps ++ (c :: cs ++ os) = (ps ++ [c]) ++ (cs ++ os) := by simp
    have e2 : qs ++ ((d :: ds).map (fun s => .v s.d) ++ ss) = (qs ++ [.v d.d]) ++ (ds.map (fun s => .v s.d) ++ ss) := by simp
    rw [e1, e2]
    exact r''
theorem given_reps {R : RC} {Z : Addr → Prop} {H₀ H : Hp} {L : List Addr} {P cs : List (Option V)} {PS ds : List SV} {σ : L2.St} {α β : AEnv} (h1 : cs.length = ds.length) (hp : P.length = PS.length) (rβ : RlO R Z H₀ H L (cs ++ (P ++ σ)) (ds.map (fun s => .v s.d) ++ (PS ++ β))) : ∀ {cl : CL} {ro : List (Option SV)} {vs : List V} {rs : List SV},
    PutL σ cs ds cl ro vs → fins cl ro α = .ok rs → (∀ i s, i ∈ vars cl → α[i]? = some s → β[i]? = some (.v s.d)) → Reps R (vis Z L H) vs (rs.map SV.d)
  | .nil, [], [], _, _, e, _ => by cases e; exact .nil
  | .nil, [], _ :: _, _, p, _, _ => p.elim
  | .nil, _ :: _, _, _, p, _, _ => p.elim
  | .cons _ _, [], _, _, p, _, _ => p.elim
  | .cons _ _, _ :: _, [], _, p, _, _ => p.elim
  | .cons a q, o :: os, x :: xs, rs, p, e, hβ => by
    rw [fins] at e
    obtain ⟨y, e1, e⟩ := Res.bind_ok e
    obtain ⟨ys, e2, e⟩ := Res.bind_ok e
    cases e
    have p1 := p.1
    rcases var_or a with ⟨i, rfl⟩ | ⟨hv, hi⟩
    · refine .cons ?_ (given_reps h1 hp rβ p.2 e2 fun i s m h => hβ i s (List.mem_cons_of_mem _ m) h)
      have p1 : σ[i]? = some (some x) := p1
      obtain ⟨h, hu⟩ := fin_var e1
      have hb := hβ i y List.mem_cons_self h
      obtain ⟨z, g1, g2⟩ := rβ.rep (i := ds.length + (PS.length + i)) (d := y.d) (by
        rw [List.getElem?_append_right (by simp), List.getElem?_append_right (by simp)]
        simpa using hb)
      rw [List.getElem?_append_right (by omega), List.getElem?_append_right (by omega), show ds.length + (PS.length + i) - cs.length - P.length = i from by omega, p1] at g1
      cases g1
      exact g2
    · refine .cons ?_ (given_reps h1 hp rβ p.2 e2 fun i s m h => hβ i s (by rw [vars, hv]; exact m) h)
      rw [PutA_nv hv] at p1
      obtain ⟨s, k, g1, g2, g3⟩ := p1
      subst g1
      rw [fin_nv hi] at e1
      cases e1
      have hk := (List.getElem?_eq_some_iff.mp g2).1
      obtain ⟨z, g4, g5⟩ := rβ.rep (i := k) (d := y.d) (by
        rw [List.getElem?_append_left (by simpa [← h1] using hk), List.getElem?_map, g3]
        rfl)
      rw [List.getElem?_append_left hk, g2] at g4
      cases g4
      exact g5
/-- the arguments at hand, names lent -/
theorem lend_of {Z : Addr → Prop} {H₀ H : Hp} {tvs cs : List (Option V)} {ts ds : List SV} {α : AEnv} {σ : L2.St} {vs : List V} {ro : List (Option SV)} {rs : List SV} {r : SV} {F : List D → Res SV} {Q : VK} {E : XK} {n : Nat} (ht : tvs.length = ts.length) (hl : cs.length = ds.length) (hu : ∀ s ∈ ds, s ≠ .un)
    (pl : PutL σ cs ds cl ro vs) (rl : Rl (rc X) Z H₀ H (cs ++ (tvs ++ σ)) (ds ++ (ts ++ α))) (e0 : fins cl ro α = .ok rs) (e : F (rs.map SV.d) = .ok r) (hn : vs.length = n)
    (k : ∀ v H', r ≠ .un → Rl (rc X) Z H₀ H' (some v :: (tvs ++ σ)) (r :: (ts ++ (if imS r = true then α else frz cl α))) → Q v H') : spOf (rc X) n F vs H Q E := by
  by_cases hi : imS r = true
  · rw [if_pos hi] at k
    obtain ⟨L, rr⟩ := rl
    refine ⟨hn, Z, rs.map SV.d, r, fun b h => rr.zdH h, lend_reps rr (at_of hl ht hu pl e0), e, fun H' z as sm hc nd hr en => ?_⟩
    have en' := Ent.widen (L := L) (fun a m o xs h => by
      obtain ⟨u, q⟩ := rr.owned m
      have q2 := sm a u q
      rw [q2] at h
      cases h
      exact rr.ents.notTup a m o xs q) hi en
    have g := rr.grow sm hc nd en'
    refine k z H' hr ?_
    have g2 : Rl (rc X) Z H₀ H' ([some z] ++ (cs ++ (tvs ++ σ))) ([r] ++ (ds ++ (ts ++ α))) := ⟨_, g⟩
    exact Rl.drops hl (Rl.rot (as := [some z]) (ts := [r]) rfl hl g2)
  · rw [if_neg hi] at k
    obtain ⟨L, rr⟩ := rl
    obtain ⟨L1, r1⟩ := fz_front (ps := []) (qs := []) hl hu rfl rr
    have r1' : RlO (rc X) Z H₀ H L1 ((cs ++ tvs) ++ σ) ((ds.map (fun s => .v s.d) ++ ts) ++ α) := by
      rw [List.append_assoc, List.append_assoc]; exact r1
    obtain ⟨L2, r2⟩ := frz_rl (by simp [hl, ht]) cl ro e0 r1'
    rw [List.append_assoc, List.append_assoc] at r2
    have rp := given_reps hl ht r2 pl e0 fun i s m h => frz_at cl α i s m h
    have rl3 : Rl (rc X) Z H₀ H (cs ++ (tvs ++ σ)) (ds.map (fun s => .v s.d) ++ (ts ++ frz cl α)) := ⟨L2, r2⟩
    refine ⟨hn, fun b => Z b ∨ b ∈ L2, rs.map SV.d, r, fun b h => ?_, by rw [vis_shift0]; exact rp, e, fun H' z as sm hc nd hr en => ?_⟩
    · rcases h with h | h
      · exact r2.zdH h
      · obtain ⟨u, e⟩ := r2.owned h
        rw [e]
        exact fun z => nomatch z
    · rw [vis_shift] at en
      have g := r2.grow sm hc nd en
      refine k z H' hr ?_
      have g2 : Rl (rc X) Z H₀ H' ([some z] ++ (cs ++ (tvs ++ σ))) ([r] ++ (ds.map (fun s => .v s.d) ++ (ts ++ frz cl α))) := ⟨_, g⟩
      exact Rl.drops (by simp [hl]) (Rl.rot (as := [some z]) (ts := [r]) rfl (by simp [hl]) g2)
/-- .. or given up -/
theorem given_of {Z : Addr → Prop} {H₀ H : Hp} {tvs cs : List (Option V)} {ts ds : List SV} {α : AEnv} {σ : L2.St} {vs : List V} {ro : List (Option SV)} {rs : List SV} (ht : tvs.length = ts.length) (hl : cs.length = ds.length) (hu : ∀ s ∈ ds, s ≠ .un)
    (pl : PutL σ cs ds cl ro vs) (rl : Rl (rc X) Z H₀ H (cs ++ (tvs ++ σ)) (ds ++ (ts ++ α))) (e0 : fins cl ro α = .ok rs) : ∃ L ds', ds'.length = cs.length ∧ RlO (rc X) Z H₀ H L (cs ++ (tvs ++ σ)) (ds' ++ (ts ++ frz cl α)) ∧ Reps (rc X) (vis Z L H) vs (rs.map SV.d) := by
  obtain ⟨L, rr⟩ := rl
  obtain ⟨L1, r1⟩ := fz_front (ps := []) (qs := []) hl hu rfl rr
  have r1' : RlO (rc X) Z H₀ H L1 ((cs ++ tvs) ++ σ) ((ds.map (fun s => .v s.d) ++ ts) ++ α) := by
    rw [List.append_assoc, List.append_assoc]; exact r1
  obtain ⟨L2, r2⟩ := frz_rl (by simp [hl, ht]) cl ro e0 r1'
  rw [List.append_assoc, List.append_assoc] at r2
  exact ⟨L2, ds.map (fun s => .v s.d), by simp [hl], r2, given_reps hl ht r2 pl e0 fun i s m h => frz_at cl α i s m h⟩
theorem make_of {Z : Addr → Prop} {H₀ H : Hp} {tvs cs : List (Option V)} {ts ds : List SV} {α : AEnv} {σ : L2.St} {vs : List V} {ro : List (Option SV)} {rs : List SV} {r : SV} {F : List D → Res SV} {Q : VK} {E : XK} {n : Nat} {x : Str} {C a dx : Addr} (hm : X.mg x = some (.ref C)) (ht : tvs.length = ts.length) (hl : cs.length = ds.length) (hu : ∀ s ∈ ds, s ≠ .un)
    (pl : PutL σ cs ds cl ro vs) (rl : Rl (rc X) Z H₀ H (cs ++ (tvs ++ σ)) (ds ++ (ts ++ α))) (e0 : fins cl ro α = .ok rs) (e : F (rs.map SV.d) = .ok r) (hr : ∃ ns es, r = .oi x ns es) (hn : vs.length = n) (na : H a = none) (nd : H dx = none) (ne : dx ≠ a) (k : ∀ v H', r ≠ .un → Rl (rc X) Z H₀ H' (some v :: (tvs ++ σ)) (r :: (ts ++ (if imS r = true then α else frz cl α))) → Q v H') :
    spInit (rc X) x n F (.ref a :: vs) (upd (upd H dx (.own a)) a (.ins C dx [])) (fun v H2 => v = .non ∧ Q (.ref a) H2) E := by
  obtain ⟨L, ds', hl', rr, rp⟩ := given_of ht hl hu pl rl e0
  obtain ⟨ns, es, rfl⟩ := hr
  rw [if_neg (by simp [imS])] at k
  have sm : Same H (upd (upd H dx (.own a)) a (.ins C dx [])) := fun b o e => by rw [upd_ne (ne_of_none e na), upd_ne (ne_of_none e nd)]; exact e
  refine ⟨by simp [hn], fun b => (Z b ∨ b ∈ L) ∨ b = a, a, C, dx, vs, rs.map SV.d, ns, es, rfl, fun b h => ?_, .inr rfl, hm, upd_same, rp.mono (.of fun b o e => ?_), e, fun H' dx' fs kp ha hns hes => ⟨rfl, ?_⟩⟩
  · rcases h with (h | h) | h
    · intro z
      cases q : H b with
      | none => exact rr.zdH h q
      | some u => rw [sm b u q] at z; cases z
    · obtain ⟨u, e⟩ := rr.owned h
      rw [sm b u e]
      exact fun z => nomatch z
    · rw [h, upd_same]; exact fun z => nomatch z
  · obtain ⟨h1, h2, h3⟩ := vis_some e
    exact vis_of (fun z => by
      rcases z with (z | z) | z
      · exact h1 z
      · exact h2 z
      · rw [z, na] at h3; cases h3) (by simp) (sm b o h3)
  · have sm' : Same H H' := fun b o e => kp b o (ne_of_none e na) (sm b o e)
    have ev : vis (fun b => (Z b ∨ b ∈ L) ∨ b = a) [] H' = vis Z ([a] ++ L) H' := by
      funext b
      unfold vis
      by_cases hb : ((Z b ∨ b ∈ L) ∨ b = a) ∨ b ∈ ([] : List Addr)
      · rw [if_pos hb, if_pos]
        simp only [List.mem_append, List.mem_singleton]
        rcases hb with ((h | h) | h) | h
        · exact .inl h
        · exact .inr (.inr h)
        · exact .inr (.inl h)
        · cases h
      · rw [if_neg hb, if_neg]
        intro z
        apply hb
        simp only [List.mem_append, List.mem_singleton] at z
        rcases z with h | h | h
        · exact .inl (.inl (.inl h))
        · exact .inl (.inr h)
        · exact .inl (.inl (.inr h))
    rw [ev] at hes
    rw [← hns] at k
    have g : RlO (rc X) Z H₀ H' ([a] ++ L) (some (.ref a) :: (cs ++ (tvs ++ σ))) (.oi x (fs.map (·.1)) es :: (ds' ++ (ts ++ frz cl α))) := rr.grow sm' (fun c hc => by rw [List.mem_singleton.mp hc]; exact na) (by simp) (.oi hm ha hes)
    have g2 : Rl (rc X) Z H₀ H' ([some (.ref a)] ++ (cs ++ (tvs ++ σ))) ([.oi x (fs.map (·.1)) es] ++ (ds' ++ (ts ++ frz cl α))) := ⟨_, g⟩
    exact k (.ref a) H' (fun z => nomatch z) (Rl.drops hl'.symm (Rl.rot (as := [some (.ref a)]) (ts := [.oi x (fs.map (·.1)) es]) rfl hl'.symm g2))
theorem PutL.len {σ : L2.St} {cs : List (Option V)} {ds : List SV} : ∀ {cl : CL} {ro : List (Option SV)} {vs : List V}, PutL σ cs ds cl ro vs → vs.length = ro.length
  | .nil, [], [], _ => rfl
  | .nil, [], _ :: _, p => p.elim
  | .nil, _ :: _, _, p => p.elim
  | .cons _ _, [], _, p => p.elim
  | .cons _ _, _ :: _, [], p => p.elim
  | .cons _ r, _ :: _, _ :: _, p => congrArg (· + 1) (PutL.len (cl := r) p.2)
theorem fins_len : ∀ {cl : CL} {ro : List (Option SV)} {vs : List V} {rs : List SV} {α : AEnv} {σ : L2.St} {cs : List (Option V)} {ds : List SV}, PutL σ cs ds cl ro vs → fins cl ro α = .ok rs → rs.length = vs.length
  | .nil, [], [], _, _, _, _, _, _, e => by cases e; rfl
  | .nil, [], _ :: _, _, _, _, _, _, p, _ => p.elim
  | .nil, _ :: _, _, _, _, _, _, _, p, _ => p.elim
  | .cons _ _, [], _, _, _, _, _, _, p, _ => p.elim
  | .cons _ _, _ :: _, [], _, _, _, _, _, p, _ => p.elim
  | .cons _ r, _ :: _, _ :: _, _, _, _, _, _, p, e => by
    rw [fins] at e
    obtain ⟨y, e1, e⟩ := Res.bind_ok e
    obtain ⟨ys, e2, e⟩ := Res.bind_ok e
    cases e
    have := fins_len p.2 e2
    simp [this]
theorem call_start {n m : Nat} {x : Str} {F : List D → Res SV} (hn : G.fn n = some (x, m, F)) {σ : L2.St} {H : Hp} {Q : VK} (q : lift X G (.call n cl) σ H Q) : ∃ Z H₀ tvs ts α r α' ro rs, Sit (rc X) Z H₀ H tvs σ ts α ∧ denA G cl α = .ok (ro, α') ∧ fins cl ro α' = .ok rs ∧ rs.length = m ∧ F (rs.map SV.d) = .ok r ∧
    ∀ v H', r ≠ .un → Rl (rc X) Z H₀ H' (some v :: (tvs ++ σ)) (r :: (ts ++ (if imS r = true then α' else frz cl α'))) → Q v H' := by
  obtain ⟨Z, H₀, tvs, ts, α, st, r, α', e, k⟩ := q
  simp only [den, hn] at e
  obtain ⟨⟨ro, α1⟩, e1, e⟩ := Res.bind_ok e
  obtain ⟨rs, e2, e⟩ := Res.bind_ok e
  obtain ⟨c, e⟩ := ite_ok e
  obtain ⟨q, e3, e⟩ := Res.bind_ok e
  cases e
  exact ⟨Z, H₀, tvs, ts, α, r, _, ro, rs, st, e1, e2, c, e3, k⟩
theorem le_call {n m : Nat} {x : Str} {F : List D → Res SV} (hG : GOk X G) (hn : G.fn n = some (x, m, F)) (hg : Gl X x) (ha : PA X (e :: es) (liftA X G cl)) (hdb : (x == ("__debug__" : Str)) = false)
    (he : starEach (e :: es) X.env = (false, eval e X.env) :: starEach es X.env) (hpl : (backTo pos (starEach es X.env)).any (·.1) = false) : PE X (.Call (.Name x p) (e :: es) [] pos) (lift X G (.call n cl)) := by
  rcases hG.fn n x m F hn with ⟨f, fd, ps, j, hps, hm, hk, hb, ok, hr⟩ | ⟨C, f, fd, ps, j, hoi, hps, hm, mk, hb, ok, hr⟩
  · refine PE.mono (pe_call ok hr hg hm hk hb .nil pass0 ha hdb he hpl) fun σ H Q q => ?_
    obtain ⟨Z, H₀, tvs, ts, α, r, α', ro, rs, st, e1, e2, hl1, e3, k⟩ := call_start hn q
    refine ⟨Z, H₀, tvs, ts, α, st, ro, α', e1, fun vs H1 cs ds hl hu pl rl => ?_⟩
    show spOf (rc X) m F (vs ++ []) H1 Q E0
    rw [List.append_nil]
    exact lend_of st.len hl hu pl rl e2 e3 (by rw [← fins_len pl e2, hl1]) k
  · refine PE.mono (pe_make mk ok hr hg hm hb .nil pass0 ha hdb he hpl) fun σ H Q q => ?_
    obtain ⟨Z, H₀, tvs, ts, α, r, α', ro, rs, st, e1, e2, hl1, e3, k⟩ := call_start hn q
    refine ⟨Z, H₀, tvs, ts, α, st, ro, α', e1, fun vs H1 cs ds hl hu pl rl x dx nx ndx nex => ?_⟩
    rw [List.append_nil]
    exact make_of hm st.len hl hu pl rl e2 e3 (hoi _ _ e3) (by rw [← fins_len pl e2, hl1]) nx ndx nex k
/-- without arguments -/
theorem le_call0 {n m : Nat} {x : Str} {F : List D → Res SV} (hG : GOk X G) (hn : G.fn n = some (x, m, F)) (hg : Gl X x) (hdb : (x == ("__debug__" : Str)) = false) : PE X (.Call (.Name x p) [] [] pos) (lift X G (.call n .nil)) := by
  have cfn : ∀ {σ : L2.St} {tvs : List (Option V)} {H : Hp} {H₀ : Hp} {Z : Addr → Prop} {ts : List SV} {α : AEnv} {r : SV} {Q : VK} {E : XK}, Sit (rc X) Z H₀ H tvs σ ts α → F [] = .ok r → (∀ v H', r ≠ .un → Rl (rc X) Z H₀ H' (some v :: (tvs ++ σ)) (r :: (ts ++ (if imS r = true then α else frz .nil α))) → Q v H') → 0 = m → spOf (rc X) m F [] H Q E := fun st e k h0 =>
    lend_of (cs := []) (ds := []) (ro := []) (rs := []) (cl := .nil) st.len rfl (fun _ h => nomatch h) trivial st.rl (by rw [fins]) e h0 k
  rcases hG.fn n x m F hn with ⟨f, fd, ps, j, hps, hm, hk, hb, ok, hr⟩ | ⟨C, f, fd, ps, j, hoi, hps, hm, mk, hb, ok, hr⟩
  · refine PE.mono (pe_call0 ok hr hg hm hk hb .nil pass0 hdb) fun σ H Q q => ?_
    obtain ⟨Z, H₀, tvs, ts, α, r, α', ro, rs, st, e1, e2, hl1, e3, k⟩ := call_start hn q
    cases e1
    cases e2
    exact cfn (E := E0) st e3 k hl1
  · refine PE.mono (pe_make0 mk ok hr hg hm hb .nil pass0 hdb) fun σ H Q q => ?_
    obtain ⟨Z, H₀, tvs, ts, α, r, α', ro, rs, st, e1, e2, hl1, e3, k⟩ := call_start hn q
    cases e1
    cases e2
    intro x dx nx ndx nex
    rw [List.append_nil]
    exact make_of (cs := []) (ds := []) (ro := []) (rs := []) (cl := .nil) hm st.len rfl (fun _ h => nomatch h) trivial st.rl (by rw [fins]) e3 (hoi _ _ e3) hl1 nx ndx nex k
/-- o.m(e, ..), o.m() -/
theorem lookup_none : ∀ {fs : List (Str × V)} {ds : List D} {m : Str} {R : RC} {V₀ : Hp}, Reps R V₀ (fs.map (·.2)) ds → fieldAt (fs.map (·.1)) ds m = none → fs.lookup m = none
  | [], _, _, _, _, _, _ => rfl
  | p :: fs, _, m, R, V₀, .cons e r, h => by
    rw [List.map_cons, fieldAt] at h
    by_cases hp : p.1 = m
    · rw [if_pos hp] at h; cases h
    · rw [if_neg hp] at h
      have q : (m == p.1) = false := by simp; exact fun z => hp z.symm
      rw [List.lookup_cons, q]
      exact lookup_none r h
theorem lookup_some : ∀ {fs : List (Str × V)} {ds : List D} {m : Str} {d : D} {R : RC} {V₀ : Hp}, Reps R V₀ (fs.map (·.2)) ds → fieldAt (fs.map (·.1)) ds m = some d → ∃ v, fs.lookup m = some v ∧ Rep R V₀ v d
  | [], _, _, _, _, _, r, h => by cases r; simp [fieldAt] at h
  | p :: fs, _, m, d, R, V₀, .cons e r, h => by
    rw [List.map_cons, fieldAt] at h
    by_cases hp : p.1 = m
    · rw [if_pos hp] at h
      cases h
      have q : (m == p.1) = true := by simp; exact hp.symm
      rw [List.lookup_cons, q]
      exact ⟨_, rfl, e⟩
    · rw [if_neg hp] at h
      have q : (m == p.1) = false := by simp; exact fun z => hp z.symm
      rw [List.lookup_cons, q]
      exact lookup_some r h
theorem In.obj {Z : Addr → Prop} {L : List Addr} {H : Hp} {x : V} {s : SV} {c : Str} {ns : List Str} {ds : List D} (i : In (rc X) Z L H x s) (e : s.obj? = some (c, ns, ds)) :
    ∃ a C dx fs, x = .ref a ∧ X.mg c = some (.ref C) ∧ H a = some (.ins C dx fs) ∧ ns = fs.map (·.1) ∧ Reps (rc X) (vis Z L H) (fs.map (·.2)) ds := by
  obtain ⟨_, _, _, en⟩ := i
  cases en with
  | v e' =>
    cases e' with
    | obj m h r => cases e; exact ⟨_, _, _, _, rfl, m, (vis_some h).2.2, rfl, r⟩
    | _ => cases e
  | oi m h r => cases e; exact ⟨_, _, _, _, rfl, m, h, rfl, r⟩
  | _ => cases e
/-- e.f -/
theorem le_attr (hG : GOk X G) {f' : Str} (ha : PE X a (lo X G ca)) (hb : attributeBase a f' X.env (eval a X.env) = eval a X.env) : PE X (.Attribute a f' pos) (lift X G (.p1 (.attr f') ca)) := by
  refine PE.mono (pe_fld ha hb) fun σ H Q q => ?_
  refine lo_imp (use1 q) fun x H1 ⟨Z, L, s, r, A, ix, e, o⟩ => ?_
  simp only [op1] at e
  split at e
  · rename_i c ns vs e1
    obtain ⟨hf, e⟩ := ite_ok e
    split at e
    · rename_i d hd
      cases e
      obtain ⟨a, C, dx, fs, rfl, hm, hH, rfl, rp⟩ := ix.obj e1
      obtain ⟨h1, h2⟩ := hG.fld _ _ _ hf hm
      obtain ⟨v, hv, rv⟩ := lookup_some rp hd
      exact ⟨a, C, dx, fs, v, rfl, hH, h1, h2, hv, o.val rv⟩
    · cases e
  · cases e
theorem le_mth {m : Str} {pl : Sem Bool} (hG : GOk X G) (ho : PE X o (lift X G ca)) (ha : PA X (e :: es) (liftL X G cl)) (he : starEach (e :: es) X.env = (false, eval e X.env) :: starEach es X.env) (hpl : (backTo pos (starEach es X.env)).any (·.1) = false)
    (ht : eval (.Call (.Attribute o m apos) (e :: es) [] pos) X.env = (do
      let ov ← eval o X.env
      standAt apos.atName
      let (f, first) ← holding [ov] (getMethod ov m pl)
      callWith pos f first (backTo pos (starEach (e :: es) X.env)) (backToKw pos (keywordEach [] X.env)))) :
    PE X (.Call (.Attribute o m apos) (e :: es) [] pos) (lift X G (.mth ca m cl)) := by
  refine ⟨fun pins s σ H Q I q => ?_⟩
  obtain ⟨Z, H₀, tvs, ts, α, st, r, α', e0, k⟩ := q
  simp only [den] at e0
  obtain ⟨⟨ro, α1⟩, e1, e0⟩ := Res.bind_ok e0
  refine PySem.W.methodCall_KW (pl := pl) (thn (ho.run pins s σ H (fun v H1 => ro ≠ .un ∧ Rl (rc X) Z H₀ H1 (some v :: (tvs ++ σ)) (ro :: (ts ++ α1))) I ⟨Z, H₀, tvs, ts, α, st, ro, α1, e1, fun v H1 hu rl => ⟨hu, rl⟩⟩) fun u s1 ⟨x, H1, I1, rx, hu, rl⟩ => ?_) ht
  have rl0 := rl
  obtain ⟨L, rr⟩ := rl
  have ix : In (rc X) Z L H1 x ro := In.of rr (j := 0) rfl rfl hu
  simp only at e0
  split at e0
  · rename_i c ns vs eo
    split at e0
    · rename_i n F hmth hfld
      obtain ⟨a, C, dx, fs, rfl, hm, hH, rfl, rp⟩ := ix.obj eo
      obtain rfl : u = Value.ref a := rx
      obtain ⟨g, fd, ps, j, hps, cl', mt, hb, ok, hr⟩ := hG.mth c m n F C hmth hm
      obtain ⟨⟨rs, α2⟩, e2, e0⟩ := Res.bind_ok e0
      obtain ⟨hn, e0⟩ := ite_ok e0
      obtain ⟨q, e3, e0⟩ := Res.bind_ok e0
      cases e0
      refine getmeth_ok I1 hH cl' mt (lookup_none rp hfld) ?_
      refine PySem.W.callWith_K (first := [.ref a]) (h₀ := X.base) I.ok.mod.kin mt.kp (thn (ha.run pos pins s1 σ H1 (fun vs H2 => spOf (rc X) n F (.ref a :: vs) H2 Q E0) I1 ?_) fun us s2 ⟨vs, H2, I2, rv, q2⟩ => ⟨I2.kIn, ?_⟩) he hpl
      · refine ⟨Z, H₀, some (.ref a) :: tvs, ro :: ts, α1, ⟨by simp [st.len], rl0⟩, rs, _, e2, fun vs H2 hl hus rl2 => ?_⟩
        have g : Rl (rc X) Z H₀ H2 (vs.map some ++ ([some (.ref a)] ++ (tvs ++ σ))) (rs ++ ([ro] ++ (ts ++ _))) := rl2
        have g2 := Rl.rot (as := vs.map some) (bs := [some (.ref a)]) (ts := rs) (us := [ro]) (by simp [hl]) rfl g
        exact call_of (vs := .ref a :: vs) (rs := ro :: rs) (by simp [hl]) (fun r h => by rcases List.mem_cons.mp h with rfl | h; exact hu; exact hus r h) g2 e3 (by simp [hl, hn]) k
      · exact run_fn (us := .ref a :: us) (vs := .ref a :: vs) ok hr hb .nil pass0 I2 (.cons rfl rv) (by rw [List.append_nil]; exact q2)
    · cases e0
  · cases e0
theorem le_mth0 {m : Str} {pl : Sem Bool} (hG : GOk X G) (ho : PE X o (lift X G ca))
    (ht : eval (.Call (.Attribute o m apos) [] [] pos) X.env = (do
      let ov ← eval o X.env
      standAt apos.atName
      let (f, first) ← holding [ov] (getMethod ov m pl)
      callWith pos f first (backTo pos (starEach [] X.env)) (backToKw pos (keywordEach [] X.env)))) :
    PE X (.Call (.Attribute o m apos) [] [] pos) (lift X G (.mth ca m .nil)) := by
  refine ⟨fun pins s σ H Q I q => ?_⟩
  obtain ⟨Z, H₀, tvs, ts, α, st, r, α', e0, k⟩ := q
  simp only [den] at e0
  obtain ⟨⟨ro, α1⟩, e1, e0⟩ := Res.bind_ok e0
  refine PySem.W.methodCall_KW (pl := pl) (thn (ho.run pins s σ H (fun v H1 => ro ≠ .un ∧ Rl (rc X) Z H₀ H1 (some v :: (tvs ++ σ)) (ro :: (ts ++ α1))) I ⟨Z, H₀, tvs, ts, α, st, ro, α1, e1, fun v H1 hu rl => ⟨hu, rl⟩⟩) fun u s1 ⟨x, H1, I1, rx, hu, rl⟩ => ?_) ht
  have rl0 := rl
  obtain ⟨L, rr⟩ := rl
  have ix : In (rc X) Z L H1 x ro := In.of rr (j := 0) rfl rfl hu
  simp only at e0
  split at e0
  · rename_i c ns vs eo
    split at e0
    · rename_i n F hmth hfld
      obtain ⟨a, C, dx, fs, rfl, hm, hH, rfl, rp⟩ := ix.obj eo
      obtain rfl : u = Value.ref a := rx
      obtain ⟨g, fd, ps, j, hps, cl', mt, hb, ok, hr⟩ := hG.mth c m n F C hmth hm
      simp only [denL] at e0
      obtain ⟨⟨rs, α2⟩, e2, e0⟩ := Res.bind_ok e0
      cases e2
      obtain ⟨hn, e0⟩ := ite_ok e0
      obtain ⟨q, e3, e0⟩ := Res.bind_ok e0
      cases e0
      refine getmeth_ok I1 hH cl' mt (lookup_none rp hfld) ?_
      refine PySem.W.callWith_K0 (first := [.ref a]) I1.kIn mt.kp (run_fn (us := [.ref a]) (vs := [.ref a]) ok hr hb .nil pass0 I1 (.cons rfl .nil) ?_)
      rw [List.append_nil]
      exact call_of (vs := [.ref a]) (rs := [ro]) rfl (fun r h => by rw [List.mem_singleton.mp h]; exact hu) rl0 e3 (by simpa using hn) k
    · cases e0
  · cases e0
theorem In.lent {Z : Addr → Prop} {L : List Addr} {H : Hp} {x : V} {s : SV} (A : Amb Z L H) (ix : In (rc X) Z L H x s) : Rep (rc X) (vis Z [] H) x s.d := by
  obtain ⟨hu, as, hs, en⟩ := ix
  exact en.freeze hu (vis_mono fun b o _ _ e => ⟨fun z => (nomatch z), e⟩) fun a ha u e => vis_of (A.nz a (hs a ha)) (fun z => nomatch z) e
theorem gi_ok (hG : GOk X G) : GiOk X G := by
  intro value slice pins s σ H x y v u Q I rx ry ⟨Z, L, sx, sy, r, c, ns, vs, F, A, ix, iy, f1, f2, f3, f4, o⟩ hsl
  have r1 := ix.lent A
  have r2 := iy.lent A
  obtain ⟨a, C, dx, fs, rfl, hm, hH, rfl, rp⟩ := ix.obj f1
  obtain rfl : v = Value.ref a := rx
  obtain ⟨f, fd, ps, j, hps, mt, fi, hb, ok, hr⟩ := hG.gi c F C f2 hm
  obtain ⟨mA, O, _⟩ := ins_get I.hok hH
  obtain ⟨od, J, _⟩ := O.look
  obtain ⟨m, hn, _⟩ := I.loc
  refine PySem.W.sub_K (h₀ := X.base) (L := X.env.locals) (m := m) ⟨hn, fun b o e => (I.bs b o e).1, Nat.le_trans I.ok.bsz I.ok.above⟩ I.ok.mod.kin J mt.at_ fi mt.fn ?_ hsl
  refine wpAny_call (codeAny_mono (ok.run X.A.in1 X.stack s H ⟨[.ref a, u], []⟩ [.ref a, u] [.ref a, y] Q E0 hr.in1 I.env0.in1 (hb s [.ref a, u] I.kIn (by rw [hps]; rfl)) (.cons rfl (.cons ry .nil)) ?_) fun q s' hq => ?_)
  · refine ⟨rfl, Z, [sx.d, sy.d], r, A.zd, .cons r1 (.cons r2 .nil), f3, fun H' z cs sm hc nd hu en => o H' z cs sm hc nd hu (Ent.widen (L := L) (fun b m o xs h => ?_) f4 en)⟩
    obtain ⟨w, hw⟩ := A.ow b m
    rw [sm b w hw] at h
    cases h
    exact A.nt b m o xs hw
  · cases q with
    | error e => exact pass0 pins σ H s e s' I hq
    | ok fl =>
      cases fl with
      | ret w => exact I.after hq
      | next => exact hq.elim
      | brk => exact hq.elim
      | cont => exact hq.elim
end
end Dv

set_option Elab.async false
set_option linter.all false
set_option maxRecDepth 100000
set_option maxHeartbeats 4000000
/-! pop, get, slices, isinstance -/
namespace Dv
open PySem PySem.Spec PyProof.Rows L2
section
variable {X : Cx} {G : GEnv} {p pos pos' apos cpos : Pos} {a b e f o : Expr} {es : List Expr} {ca cb cc : CE} {cl : CL}

/-- x.pop() -/
theorem le_pop {i : Nat} (ho : PE X o (tVar i)) (hbase : attributeBase o "pop" X.env (eval o X.env) = eval o X.env) (hline : (apos.endLine == cpos.line) = true) : PE X (.Call (.Attribute o "pop" apos) [] [] cpos) (lift X G (.pop i)) := by
  refine PE.mono (pe_bm0 PySem.F.plainAttrs_list PySem.F.slot_list_pop PySem.F.type_list_pop mt_pop ho hbase hline) fun σ H Q q => ?_
  obtain ⟨Z, H₀, tvs, ts, α, st, r, α', e, k⟩ := q
  simp only [den] at e
  split at e
  · rename_i ds hi
    split at e
    · rename_i d hd
      cases e
      obtain ⟨L, rr⟩ := st.rl
      obtain ⟨a, h1, hm, en, put⟩ := rr.put (st.slot hi) rfl
      have hx := st.slotV h1
      cases en with
      | @ol _ xs _ hH rp =>
        have hne : ds ≠ [] := fun z => by rw [z] at hd; cases hd
        have hdd : ds[ds.length - 1]? = some d := by rw [← List.getLast?_eq_getElem?]; exact hd
        obtain ⟨v, hv, rv⟩ := rp.get hdd
        rw [← rp.length] at hv
        refine ⟨.ref a, hx, .inl ⟨rfl, xs, .of hH⟩, a, xs, v, rfl, rfl, hH, hv, ?_⟩
        have dl : Reps (rc X) (vis Z L H) xs.dropLast ds.dropLast := by
          have := rp.take (xs.length - 1)
          rw [← List.dropLast_eq_take] at this
          rw [List.dropLast_eq_take (l := ds), ← rp.length]
          exact this
        have g := put (.lst xs.dropLast) (.ol ds.dropLast) (.ol upd_same dl)
        rw [Sit.setA st.len.symm] at g
        exact k v _ (fun z => nomatch z) ⟨L, g.val (by rw [vis_upd hm]; exact rv)⟩
    · cases e
  · cases e

/-- d.get(k, x) -/
theorem use3 {d kk xx : CE} {σ : L2.St} {H : Hp} {Q : VK} (h : lift X G (.get3 d kk xx) σ H Q) :
    lo X G d σ H fun dv H1 => (∃ Z L s ks ds, Amb Z L H1 ∧ In (rc X) Z L H1 dv s ∧ s.dct? = some (ks, ds)) ∧ lift X G kk σ H1 fun kv H2 => lift X G xx σ H2 fun xv H3 => ∃ Z L s t d' r, Amb Z L H3 ∧ In (rc X) Z L H3 dv s ∧ In (rc X) Z L H3 kv t ∧ In (rc X) Z L H3 xv (.v d') ∧ getD3 s t (.v d') = .ok r ∧ Out (rc X) Z L H3 r Q := by
  obtain ⟨Z, H₀, tvs, ts, α, st, r, α', e, k⟩ := h
  simp only [den] at e
  obtain ⟨⟨rd, α1⟩, e1, e⟩ := Res.bind_ok e
  obtain ⟨⟨d0, _⟩, e10, e⟩ := Res.bind_ok e
  obtain ⟨⟨rk, α2⟩, e2, e⟩ := Res.bind_ok e
  obtain ⟨⟨rx, α3⟩, e3, e⟩ := Res.bind_ok e
  obtain ⟨dd, e4, e⟩ := Res.bind_ok e
  obtain ⟨r', e5, e⟩ := Res.bind_ok e
  cases e
  refine lo_of st e1 fun dv H1 s st1 p1 => ⟨?_, Z, H₀, _, _, α1, st1, rk, α2, e2, fun kv H2 uk rl2 => ?_⟩
  · obtain ⟨d1, e11, e12⟩ := Res.bind_ok e10
    obtain ⟨L, rl⟩ := st1.rl
    have ix := fin_of st1.len rl p1 e11
    cases q : d1.dct? with
    | none => rw [q] at e12; cases e12
    | some kv => exact ⟨Z, L, d1, kv.1, kv.2, rl.amb, ix, q⟩
  · refine ⟨Z, H₀, some kv :: _, rk :: _, α2, st1.push rl2, rx, α3, e3, fun xv H3 ux rl3 => ?_⟩
    obtain ⟨L0, rr0⟩ := rl3
    obtain ⟨L, _, rr⟩ := RlO.fz0 rr0 ux
    have p3 : Put σ (some xv :: some kv :: plus d (some dv) tvs) (.v rx.d :: rk :: plus d s ts) d rd dv 2 := by
      cases d <;> exact p1
    have i1 : In (rc X) Z L H3 dv dd := fin_of (P := some xv :: some kv :: plus d (some dv) tvs) (PS := .v rx.d :: rk :: plus d s ts) (by simp [st1.len]) (by exact rr) p3 e4
    refine ⟨Z, L, dd, rk, rx.d, r, rr.amb, i1, In.of rr (j := 1) rfl rfl uk, In.of rr (j := 0) rfl rfl (fun z => nomatch z), e5, ?_⟩
    have q1 : some xv :: (some kv :: plus d (some dv) tvs ++ σ) = (some xv :: some kv :: (if isVar d = true then [] else [some dv])) ++ (tvs ++ σ) := by
      show some xv :: some kv :: (plus d (some dv) tvs ++ σ) = some xv :: some kv :: ((if isVar d = true then [] else [some dv]) ++ (tvs ++ σ))
      rw [plus_app]
    have q2 : SV.v rx.d :: (rk :: plus d s ts ++ α3) = (.v rx.d :: rk :: (if isVar d = true then [] else [s])) ++ (ts ++ α3) := by
      show SV.v rx.d :: rk :: (plus d s ts ++ α3) = .v rx.d :: rk :: ((if isVar d = true then [] else [s]) ++ (ts ++ α3))
      rw [plus_app]
    have rr2 : RlO (rc X) Z H₀ H3 L (some xv :: (some kv :: plus d (some dv) tvs ++ σ)) (SV.v rx.d :: (rk :: plus d s ts ++ α3)) := rr
    rw [q1, q2] at rr2
    exact done_of (by simp; split <;> rfl) rr2 k
theorem le_get3 (hu : X.A.units + 16 < cLine) (ho : PE X o (lo X G ca)) (he : PE X e (lift X G cb)) (hf : PE X f (lift X G cc)) (m : M2 X o "get" apos e f cpos) : PE X (.Call (.Attribute o "get" apos) [e, f] [] cpos) (lift X G (.get3 ca cb cc)) := by
  refine ⟨fun pins s σ H Q I h => ?_⟩
  refine wpAny_Call_method m.base m.few m.line PySem.F.plainAttrs_dict PySem.F.slot_dict_get PySem.F.type_dict_get (thn (ho.run pins s σ H _ I (use3 h)) fun u s1 ⟨x, H1, I1, rx, ⟨Z, L, sx, ks, ds, A, ix, ed⟩, q1⟩ => ?_)
  obtain ⟨a, rfl, dk⟩ := ix.dct ed
  obtain rfl : u = Value.ref a := rx
  obtain ⟨lo1, z, ob, es, ep, hob, hx, hd, hs, _⟩ := dk.raw I1 (vis_sub Z L H1)
  refine ⟨⟨ob, hob, hx.1⟩, fun b q => (by cases q; exact ⟨ob, hob, hx.2.1⟩), ?_⟩
  rw [m.trees]
  refine Calls.callWith_builtin rfl (Calls.evalArgs_plain (Calls.spliced_cons (thn (he.run pins s1 σ H1 _ I1 q1) fun iv s2 ⟨y, H2, I2, ry, q2⟩ =>
    Calls.spliced_cons (thn (hf.run pins s2 σ H2 _ I2 q2) fun fv s3 ⟨zv, H3, I3, rz, Z3, L3, s', t', u', r, A3, i1, i2, i3, e3, out⟩ => Calls.spliced_nil ?_))))
  unfold getD3 at e3
  split at e3
  · rename_i ks3 ds3 ed3
    cases hk : dctKeyR ks3 ds3 t'.d with
    | ok od =>
      rw [hk] at e3
      obtain ⟨a', ov, ea, lo3, dat, hss, hv⟩ := In.dget I3 i1 ed3 i2 ry hk
      cases ea
      cases od with
      | none =>
        cases e3
        have : ov = none := by cases ov with | none => rfl | some _ => cases hss
        subst this
        refine dat.get3 lo3 hu I3 rz fun w' s4 I4 rw' => ⟨zv, H3, I4, rw', ?_⟩
        obtain ⟨hu3, as, hin, en⟩ := i3
        have rp : Rep (rc X) (vis Z3 (L3) H3) zv u' := by
          cases en with
          | v e => exact e
        exact out.val rp
      | some d =>
        cases e3
        obtain ⟨w, rfl, rw'⟩ := hv d rfl
        exact dat.get3 lo3 hu I3 rz fun w' s4 I4 rw2 => ⟨w, H3, I4, rw2, out.val rw'⟩
    | exc c ns vs => rw [hk] at e3; cases e3
    | fail => rw [hk] at e3; cases e3
  · cases e3

/-! ### slices -/
def liftOI (X : Cx) (G : GEnv) (c : CO) : TO := fun σ H Q => ∃ Z H₀ tvs ts α, Sit (rc X) Z H₀ H tvs σ ts α ∧ ∃ r α' i, denO G c α = .ok (r, α') ∧ (r = none ∧ i = none ∨ ∃ n, r = some (.v (.int n)) ∧ i = some n) ∧ ∀ H', Rl (rc X) Z H₀ H' (tvs ++ σ) (ts ++ α') → Q i H'
theorem lp_none : PO X none (liftOI X G .none) := ⟨fun pins s σ H Q I q => by
  obtain ⟨Z, H₀, tvs, ts, α, st, r, α', i, e, hi, k⟩ := q
  cases e
  rcases hi with ⟨_, rfl⟩ | ⟨n, h, _⟩
  · exact po_none.run pins s σ H Q I (k H st.rl)
  · cases h⟩
theorem lp_some (ha : PE X a (lift X G ca)) : PO X (some a) (liftOI X G (.some ca)) := ⟨fun pins s σ H Q I q => by
  obtain ⟨Z, H₀, tvs, ts, α, st, r, α', i, e, hi, k⟩ := q
  simp only [denO] at e
  obtain ⟨⟨r1, α1⟩, e1, e⟩ := Res.bind_ok e
  cases e
  rcases hi with ⟨h, _⟩ | ⟨n, h, rfl⟩
  · cases h
  · cases h
    refine (po_some ha).run pins s σ H Q I ⟨Z, H₀, tvs, ts, α, st, _, _, e1, fun v H' hu rl => ?_⟩
    obtain ⟨L, rr⟩ := rl
    have ix : In (rc X) Z L H' v (.v (.int n)) := In.of rr (j := 0) rfl rfl hu
    exact ⟨n, ix.int, k H' (Rl.drop ⟨L, rr⟩)⟩⟩
theorem Reps.cut {R : RC} {V₀ : Hp} {vs : List V} {ds : List D} (r : Reps R V₀ vs ds) (lo hi : Option Int) : Reps R V₀ (cutV vs lo hi) (cutD ds lo hi) := by
  unfold cutV cutD
  rw [r.length]
  exact (r.drop _).take _
/-- x[lo:hi] of lists and tuples -/
theorem s_slice : SlR X (fun x lo hi H Q => ∃ Z L s r, Amb Z L H ∧ In (rc X) Z L H x s ∧ Out (rc X) Z L H r Q ∧ ((∃ ds, s = .v (.tup ds) ∧ r = .v (.tup (cutD ds lo hi))) ∨ ∃ ds, s.lst? = some ds ∧ r = .ol (cutD ds lo hi))) := by
  intro pins s σ H x v vl vu lo hi sl Q I rx hs pl pu h
  obtain ⟨Z, L, sx, r, A, ix, o, h⟩ := h
  rcases h with ⟨ds, rfl, rfl⟩ | ⟨ds, e, rfl⟩
  · obtain ⟨a, xs, rfl, h1, rp⟩ := ix.tup
    refine sl_tupF pins s σ H _ v vl vu lo hi sl Q I rx hs pl pu ⟨a, xs, rfl, h1, fun hw => ?_, fun p ob hp hob => o.newT hob A (rp.cut lo hi) hp⟩
    refine o.val ?_
    have e : cutD ds lo hi = ds := by
      unfold cutD
      rw [← rp.length, hw.1, hw.2, List.drop_zero, Nat.sub_zero, rp.length, List.take_length]
    rw [e]
    exact ix.val rfl
  · obtain ⟨a, xs, rfl, h1, rp⟩ := ix.lst e
    exact sl_list pins s σ H _ v vl vu lo hi sl Q I rx hs pl pu ⟨a, xs, rfl, .inl h1, fun p hp => o.newL (rp.cut lo hi) hp⟩
theorem num_cases {r : Option SV} {α : AEnv} {i : Option Int} (h : (match r with | none => Res.ok none | some (.v (.int i)) => .ok (some i) | _ => .fail : Res (Option Int)) = .ok i) : r = none ∧ i = none ∨ ∃ n, r = some (.v (.int n)) ∧ i = some n := by
  split at h
  · cases h; exact .inl ⟨rfl, rfl⟩
  · cases h; exact .inr ⟨_, rfl, rfl⟩
  · cases h
theorem use_slice {c : CE} {l h : CO} {σ : L2.St} {H : Hp} {Q : VK} (q : lift X G (.slice c l h) σ H Q) :
    tSl (fun x lo hi H Q => ∃ Z L s r, Amb Z L H ∧ In (rc X) Z L H x s ∧ Out (rc X) Z L H r Q ∧ ((∃ ds, s = .v (.tup ds) ∧ r = .v (.tup (cutD ds lo hi))) ∨ ∃ ds, s.lst? = some ds ∧ r = .ol (cutD ds lo hi))) (lo X G c) (liftOI X G l) (liftOI X G h) σ H Q := by
  obtain ⟨Z, H₀, tvs, ts, α, st, r, α', e, k⟩ := q
  simp only [den] at e
  obtain ⟨⟨ra, α1⟩, e1, e⟩ := Res.bind_ok e
  obtain ⟨⟨rl', α2⟩, e2, e⟩ := Res.bind_ok e
  obtain ⟨⟨rh, α3⟩, e3, e⟩ := Res.bind_ok e
  obtain ⟨x, e4, e⟩ := Res.bind_ok e
  obtain ⟨r', e5, e⟩ := Res.bind_ok e
  cases e
  unfold sliceD at e5
  obtain ⟨i, e6, e5⟩ := Res.bind_ok e5
  obtain ⟨j, e7, e5⟩ := Res.bind_ok e5
  have hi := num_cases (α := α) e6
  have hj := num_cases (α := α) e7
  refine lo_of st e1 fun v H1 s st1 p1 => ?_
  refine ⟨Z, H₀, _, _, α1, st1, rl', α2, i, e2, hi, fun H2 rl2 => ?_⟩
  refine ⟨Z, H₀, _, _, α2, ⟨st1.len, rl2⟩, rh, _, j, e3, hj, fun H3 rl3 => ?_⟩
  obtain ⟨L, rr⟩ := rl3
  refine ⟨Z, L, x, r, rr.amb, fin_of st1.len rr p1 e4, ?_, ?_⟩
  · have q1 := plus_app c (some v) tvs σ
    have q2 := plus_app c s ts α3
    have rr2 := rr
    rw [q1, q2] at rr2
    exact done_of (by split <;> rfl) rr2 k
  · split at e5
    · cases e5; exact .inl ⟨_, rfl, rfl⟩
    · split at e5
      · cases e5; exact .inr ⟨_, ‹_›, rfl⟩
      · cases e5
theorem le_slice {l h : Option Expr} {cl ch : CO} {p2 : Pos} (ha : PE X a (lo X G ca)) (hl : PO X l (liftOI X G cl)) (hh : PO X h (liftOI X G ch)) : PE X (.Subscript a (.Slice l h none p2) pos) (lift X G (.slice ca cl ch)) :=
  PE.mono (pe_slice s_slice ha hl hh) fun _ _ _ q => use_slice q
theorem le_rev {k1 : Nat} {p1 p2 p3 : Pos} (ha : PE X a (lo X G ca)) : PE X (.Subscript a (.Slice none none (some (.UnaryOp .USub (.Constant (.int 1) k1 p1) p2)) p3) pos) (lift X G (.rev ca)) := by
  refine PE.mono (pe_revL ha) fun σ H Q q => ?_
  obtain ⟨Z, H₀, tvs, ts, α, st, r, α', e, k⟩ := q
  simp only [den] at e
  obtain ⟨⟨ra, α1⟩, e1, e⟩ := Res.bind_ok e
  obtain ⟨x, e2, e⟩ := Res.bind_ok e
  obtain ⟨r', e3, e⟩ := Res.bind_ok e
  cases e
  refine lo_of st e1 fun v H1 s st1 p1 => ?_
  obtain ⟨L, rr⟩ := st1.rl
  have ix := fin_of st1.len rr p1 e2
  unfold revD at e3
  split at e3
  · rename_i ds e4
    cases e3
    obtain ⟨a, xs, rfl, h1, rp⟩ := ix.lst e4
    refine ⟨a, xs, rfl, .inl h1, fun p hp => ?_⟩
    have q1 := plus_app ca (some (V.ref a)) tvs σ
    have q2 := plus_app ca s ts α1
    rw [q1, q2] at rr
    exact Out.newL (done_of (by split <;> rfl) rr k) rp.reverse hp
  · cases e3
end
end Dv

set_option Elab.async false
set_option linter.all false
set_option maxRecDepth 100000
set_option maxHeartbeats 4000000
/-! methods of lists and tuples, str, sorted, isinstance -/
namespace Dv
open PySem PySem.Spec PyProof.Rows L2

section
variable {X : Cx} {G : GEnv} {p pos pos' apos cpos : Pos} {a b e f o : Expr} {es : List Expr} {ca cb cc : CE} {cl : CL}
/-! ### a method of a built-in type, by what the value is -/
def tBMG (ty : V → Hp → Prop) (r : V → List V → Hp → VK → Prop) (to : TE) (t : TA) : TE := fun σ H Q => to σ H fun x H1 => ty x H1 ∧ t σ H1 fun xs H2 => r x xs H2 Q
theorem pe_bmG {T : String} {id : String} {name : Str} {ty : V → Hp → Prop} {r : V → List V → Hp → VK → Prop} {to : TE} {t : TA} (pa : PlainAttrs T) (slot : Slot T name id) (hty : typeOf (.builtin id) = pure (.type "method_descriptor")) (hm : MtR X id r)
    (hT : ∀ (pins : List (Addr × Obj)) (s : Shared) (σ : L2.St) (H : Hp) (x : V) (v : Value), Inv X pins σ H s → RelV x v → ty x H → s.TypeIs v T ∧ ∀ a, v = .ref a → ∃ ob, s.heap.get? a = some ob ∧ ob.dict = none)
    (ho : PE X o to) (ha : PA X (e :: es) t)
    (hbase : attributeBase o name X.env (eval o X.env) = eval o X.env)
    (hfew : ((backTo cpos (starEach (e :: es) X.env)).all (fun x => !x.1) && (backToKw cpos (keywordEach [] X.env)).all (fun x => x.1.isSome)
      && decide ((e :: es).length + ([] : List Keyword).length + (if ([] : List Keyword).isEmpty then 0 else 1) < 30)) = true)
    (hline : (apos.endLine == cpos.line) = true) (hs : starEach (e :: es) X.env = (false, eval e X.env) :: starEach es X.env) (hplain : (backTo cpos (starEach es X.env)).any (·.1) = false) :
    PE X (.Call (.Attribute o name apos) (e :: es) [] cpos) (tBMG ty r to t) := by
  refine ⟨fun pins s σ H Q I h => ?_⟩
  refine wpAny_Call_method_late hbase hfew hline rfl (thn (ho.run pins s σ H _ I h) fun v s1 ⟨x, H1, I1, r1, ty, q1⟩ => ?_)
  obtain ⟨h1, h2⟩ := hT _ _ _ _ _ _ I1 r1 ty
  refine ⟨T, id, pa, slot, hty, h1, h2, ?_⟩
  have hA := ha.run cpos pins s1 σ H1 _ I1 q1
  rw [hs] at hA ⊢
  refine Calls.callWith_builtin (by show (false || (backTo cpos (starEach es X.env)).any (·.1)) = false; rw [hplain] <;> rfl) (Calls.evalArgs_plain ?_)
  exact thn hA fun us s2 ⟨vs, H2, I2, r2, q2⟩ => hm pins s2 σ H2 x vs v us Q I2 r1 r2 q2
def tyL (K : PySem.W.Frag) (x : V) (H : Hp) : Prop := ∃ a xs, x = .ref a ∧ SqL K H a xs
def tyT (K : PySem.W.Frag) (x : V) (H : Hp) : Prop := ∃ a xs, x = .ref a ∧ SqF K H a xs
theorem tyL_is (pins : List (Addr × Obj)) (s : Shared) (σ : L2.St) (H : Hp) (x : V) (v : Value) (I : Inv X pins σ H s) (r : RelV x v) (h : tyL X.K x H) : s.TypeIs v "list" ∧ ∀ a, v = .ref a → ∃ ob, s.heap.get? a = some ob ∧ ob.dict = none := by
  obtain ⟨a, xs, rfl, q⟩ := h
  exact tyV_is I r (.inl ⟨rfl, xs, q⟩)
theorem tyT_is (pins : List (Addr × Obj)) (s : Shared) (σ : L2.St) (H : Hp) (x : V) (v : Value) (I : Inv X pins σ H s) (r : RelV x v) (h : tyT X.K x H) : s.TypeIs v "tuple" ∧ ∀ a, v = .ref a → ∃ ob, s.heap.get? a = some ob ∧ ob.dict = none := by
  obtain ⟨a, xs, rfl, q⟩ := h
  obtain rfl : v = Value.ref a := r
  rcases q with ⟨ob, hd, h⟩ | ⟨ob, its, n, h1, h2, h3, _⟩
  · obtain ⟨h1, _, its, _, o2, h2, h3, _⟩ := (show ObjOk X.prog X.w H s.heap a (.frz ob (.tup xs)) from I.hok a _ h)
    rw [h1] at h2
    cases h2
    exact ⟨⟨ob, h1, h3⟩, fun b q => by cases q; exact ⟨ob, h1, hd⟩⟩
  · exact ⟨⟨ob, I.kIn _ _ h1, h2⟩, fun b q => by cases q; exact ⟨ob, I.kIn _ _ h1, h3⟩⟩
/-- the receiver is looked at as it stands; the arguments are made; then it is asked -/
theorem indexG_ok {p : PyData} : ∀ {qs : List PyData} {j : Nat}, indexG p qs = some j → (∃ z, qs[j]? = some z ∧ PyData.eqv z p = true) ∧ ∀ (m : Nat) z, m < j → qs[m]? = some z → PyData.eqv z p = false
  | [], j, h => by cases h
  | q :: r, j, h => by
    rw [indexG] at h
    split at h
    · cases h
      exact ⟨⟨q, rfl, ‹_›⟩, fun m z hm => absurd hm (Nat.not_lt_zero m)⟩
    · rename_i hq
      obtain ⟨i, h1, rfl⟩ := Option.map_eq_some_iff.mp h
      obtain ⟨⟨z, h2, h3⟩, h4⟩ := indexG_ok h1
      refine ⟨⟨z, by simpa using h2, h3⟩, fun m z hm hz => ?_⟩
      cases m with
      | zero => simp at hz; subst hz; simpa using hq
      | succ m => exact h4 m z (by omega) (by simpa using hz)
theorem indexT_ok {p : Str} : ∀ {qs : List Str} {j : Nat}, indexT p qs = some j → qs[j]? = some p ∧ ∀ m, m < j → qs[m]? ≠ some p
  | [], j, h => by cases h
  | q :: r, j, h => by
    rw [indexT] at h
    split at h
    · cases h
      rename_i hq
      exact ⟨by rw [hq]; rfl, fun m hm => absurd hm (Nat.not_lt_zero m)⟩
    · rename_i hq
      obtain ⟨i, h1, rfl⟩ := Option.map_eq_some_iff.mp h
      obtain ⟨h2, h4⟩ := indexT_ok h1
      refine ⟨by simpa using h2, fun m hm hz => ?_⟩
      cases m with
      | zero => simp at hz; exact hq hz
      | succ m => exact h4 m (by omega) (by simpa using hz)
/-- l.count(x), data of any depth -/
def rCountD (K : PySem.W.Frag) : V → List V → Hp → VK → Prop := fun x xs H Q => ∃ (a : Addr) (y : V) (d : PyData) (ds : List PyData), x = V.ref a ∧ xs = [y] ∧ Dp K H (V.ref a) (.list ds) ∧ Dp K H y d ∧
  SeqAt.shaped (.list ds) = true ∧ SeqAt.shaped d = true ∧ Q (.int (ds.countP fun z => PyData.eqv z d : Nat)) H
theorem countP_map_eq {h : Heap} {d : PyData} : ∀ {its : List Value} {ds : List PyData}, its.map (SeqAt.readOf h) = ds → its.countP (fun u => PyData.eqv (SeqAt.readOf h u) d) = ds.countP fun z => PyData.eqv z d := by
  intro its ds e
  subst e
  rw [List.countP_map]
  rfl
theorem mt_countD (hu : X.A.units + 65 < cLine) : MtR X "list.count" (rCountD X.K) := by
  intro pins s σ H x xs v us Q I rx rxs h
  obtain ⟨a, y, d, ds, rfl, rfl, hl, hy, sl, sd, q⟩ := h
  cases rx
  obtain ⟨uy, rfl, ry⟩ := rxs.one
  obtain ⟨bs, r1⟩ := Dp.reads I d y uy hy ry
  have hxs : PyData.canLayAll0 ds = true := SeqAt.canLay_of_shaped sl
  have hroom : X.A.units + 1 + min (PyData.depthAll ds) d.depth < cLine := room_in_shaped sd hu
  cases hl with
  | lst hs ha =>
    obtain ⟨its, rv, ⟨⟨cls, dd, data, sls⟩, n, ho, hc, hdn, hdt⟩, hlen⟩ := I.list hs
    simp only at hc hdt
    subst hc hdt
    obtain ⟨as, h4⟩ := Dp.readsAll I ds _ its ha rv
    have hmap : its.map (SeqAt.readOf s.heap) = ds := SeqAt.readsAll_map ds its as hxs h4
    refine call_meets PySem.F.slot_list_count ⟨_, ho, rfl⟩ PySem.F.entry_list_count (PySem.F.args_list_count_2 _ _)
      (SeqAt.list_countAt a its.toArray n dd sls uy (fun u => PyData.eqv (SeqAt.readOf s.heap u) d)) ⟨ho, SeqAt.items_eqAt (vs := its.toArray) (show ReadsAll s.heap its.toArray.toList ds as from h4) r1 hxs (SeqAt.canLay_of_shaped sd) hroom, ?_⟩
    refine ⟨.int (ds.countP fun z => PyData.eqv z d : Nat), H, I.tok _, ⟨s.toks, ?_⟩, q⟩
    show Value.int ((its.toArray.toList.countP _ : Nat) : Int) s.toks = _
    rw [show its.toArray.toList = its from rfl, countP_map_eq hmap]
theorem map_strs {R : RC} {V₀ : Hp} : ∀ {ds : List D} {ys : List Str} {vs : List V}, strsOf ds = some ys → Reps R V₀ vs ds → vs = ys.map V.str
  | [], _, _, h, r => by cases h; cases r; rfl
  | .str b :: ds, bs, _, h, .cons e r => by
    rw [strsOf] at h
    obtain ⟨cs, h1, rfl⟩ := Option.map_eq_some_iff.mp h
    cases e
    rw [map_strs h1 r]
    rfl
  | .non :: _, _, _, h, _ => by cases h
  | .int _ :: _, _, _, h, _ => by cases h
  | .bl _ :: _, _, _, h, _ => by cases h
  | .tup _ :: _, _, _, h, _ => by cases h
  | .lst _ :: _, _, _, h, _ => by cases h
  | .dct _ _ :: _, _, _, h, _ => by cases h
  | .obj _ _ _ :: _, _, _, h, _ => by cases h

theorem use_mt2 {op : P2} {a b : CE} {σ : L2.St} {H : Hp} {Q : VK} (h : lift X G (.mt2 op a b) σ H Q) : lo X G a σ H fun x H1 => ∃ k, (∃ Z L s, Amb Z L H1 ∧ In (rc X) Z L H1 x s ∧ seqKind s = some k) ∧
    lift X G b σ H1 fun y H2 => ∃ Z L s t r, Amb Z L H2 ∧ In (rc X) Z L H2 x s ∧ In (rc X) Z L H2 y t ∧ seqKind s = some k ∧ op2 G op s t = .ok r ∧ Out (rc X) Z L H2 r Q := by
  obtain ⟨Z, H₀, tvs, ts, α, st, r, α', e, k⟩ := h
  simp only [den] at e
  obtain ⟨⟨ra, α1⟩, e1, e⟩ := Res.bind_ok e
  obtain ⟨x0, e2, e⟩ := Res.bind_ok e
  obtain ⟨⟨rb, α2⟩, e3, e⟩ := Res.bind_ok e
  obtain ⟨x, e4, e⟩ := Res.bind_ok e
  obtain ⟨c, e⟩ := ite_ok e
  obtain ⟨r', e5, e⟩ := Res.bind_ok e
  cases e
  rw [Bool.and_eq_true, decide_eq_true_eq] at c
  obtain ⟨kd, hk⟩ := Option.isSome_iff_exists.mp c.2
  refine lo_of st e1 fun v H1 s st1 p1 => ⟨kd, ?_, Z, H₀, _, _, α1, st1, rb, _, e3, fun w H2 uw rl2 => ?_⟩
  · obtain ⟨L, rr⟩ := st1.rl
    exact ⟨Z, L, x0, rr.amb, fin_of st1.len rr p1 e2, hk⟩
  · obtain ⟨L, rr⟩ := rl2
    have p3 : Put σ (some w :: plus a (some v) tvs) (rb :: plus a s ts) a ra v 1 := by
      rcases var_or a with ⟨i, rfl⟩ | ⟨_, hi⟩
      · exact p1
      · rw [Put_nv hi] at p1 ⊢
        obtain ⟨s', h1, h2, h3, h4⟩ := p1
        exact ⟨s', h1, h2, h3, h4⟩
    refine ⟨Z, L, x, rb, r, rr.amb, fin_of (P := some w :: plus a (some v) tvs) (PS := rb :: plus a s ts) (by simp [st1.len]) rr p3 e4, In.of rr (j := 0) rfl rfl uw, by rw [← c.1]; exact hk, e5, ?_⟩
    have q1 : some w :: (plus a (some v) tvs ++ σ) = (some w :: (if isVar a = true then [] else [some v])) ++ (tvs ++ σ) := by
      show some w :: (plus a (some v) tvs ++ σ) = some w :: ((if isVar a = true then [] else [some v]) ++ (tvs ++ σ))
      rw [plus_app]
    have q2 : rb :: (plus a s ts ++ α2) = (rb :: (if isVar a = true then [] else [s])) ++ (ts ++ α2) := by
      show rb :: (plus a s ts ++ α2) = rb :: ((if isVar a = true then [] else [s]) ++ (ts ++ α2))
      rw [plus_app]
    have rr2 : RlO (rc X) Z H₀ H2 L (some w :: (plus a (some v) tvs ++ σ)) (rb :: (plus a s ts ++ α2)) := rr
    rw [q1, q2] at rr2
    exact done_of (by simp; split <;> rfl) rr2 k
theorem kind_list {Z : Addr → Prop} {L : List Addr} {H : Hp} {x : V} {s : SV} (ix : In (rc X) Z L H x s) (h : seqKind s = some true) : tyL X.K x H ∧ ∃ ds, s.lst? = some ds := by
  have : ∃ ds, s.lst? = some ds := by
    unfold seqKind at h
    split at h <;> first | exact ⟨_, rfl⟩ | cases h
  obtain ⟨ds, e⟩ := this
  obtain ⟨a, xs, rfl, h1, _⟩ := ix.lst e
  exact ⟨⟨a, xs, rfl, .inl h1⟩, ds, e⟩
theorem kind_tup {Z : Addr → Prop} {L : List Addr} {H : Hp} {x : V} {s : SV} (ix : In (rc X) Z L H x s) (h : seqKind s = some false) : tyT X.K x H ∧ ∃ ds, s = .v (.tup ds) := by
  have : ∃ ds, s = .v (.tup ds) := by
    unfold seqKind at h
    split at h <;> first | exact ⟨_, rfl⟩ | cases h
  obtain ⟨ds, rfl⟩ := this
  have := ix.val rfl
  cases this with
  | tup q r => exact ⟨⟨_, _, rfl, (vis_sub Z L H).sqF q⟩, ds, rfl⟩
theorem le_index (hu : X.A.units + 65 < cLine) (ho : PE X o (lo X G ca)) (he : PE X e (lift X G cb)) (m : M1 X o "index" apos e cpos) : PE X (.Call (.Attribute o "index" apos) [e] [] cpos) (lift X G (.mt2 .index ca cb)) := by
  refine ⟨fun pins s σ H Q I h => ?_⟩
  refine wpAny_Call_method_late m.base m.few m.line rfl (thn (ho.run pins s σ H _ I (use_mt2 h)) fun u s1 ⟨x, H1, I1, rx, k, ⟨Z, L, sx, A, ix, hk⟩, q1⟩ => ?_)
  have hA := he.run pins s1 σ H1 _ I1 q1
  cases k with
  | true =>
    obtain ⟨h1, h2⟩ := tyL_is _ _ _ _ _ _ I1 rx (kind_list ix hk).1
    refine ⟨"list", _, PySem.F.plainAttrs_list, PySem.F.slot_list_index, PySem.F.type_list_index, h1, h2, ?_⟩
    rw [m.trees]
    refine Calls.callWith_builtin rfl (Calls.evalArgs_plain (Calls.spliced_cons (thn hA fun iv s2 ⟨y, H2, I2, ry, Z2, L2, s2', t2, r2, A2, i1, i2, k2, e2, out⟩ => Calls.spliced_nil ?_)))
    obtain ⟨_, ds, ed⟩ := kind_list i1 k2
    have e3 : indexD s2' t2.d = .ok r2 := e2
    unfold indexD at e3
    split at e3
    · cases ed
    · rw [ed] at e3
      simp only at e3
      split at e3
      · rename_i p qs hp hq
        obtain ⟨c, e3⟩ := ite_ok e3
        rw [Bool.and_eq_true] at c
        split at e3
        · rename_i j hj
          cases e3
          obtain ⟨⟨z, g1, g2⟩, g3⟩ := indexG_ok hj
          obtain ⟨a, xs, rfl, _, _⟩ := i1.lst ed
          exact mt_indexD hu pins s2 σ H2 _ [y] _ [iv] Q I2 rx (.cons ry .nil) ⟨a, y, p, qs, j, z, rfl, rfl, i1.dpl ed hq, i2.dp hp, c.2, c.1, g1, g2, g3, out.int⟩
        · cases e3
      · cases e3
  | false =>
    obtain ⟨h1, h2⟩ := tyT_is _ _ _ _ _ _ I1 rx (kind_tup ix hk).1
    refine ⟨"tuple", _, PySem.F.plainAttrs_tuple, PySem.F.slot_tuple_index, PySem.F.type_tuple_index, h1, h2, ?_⟩
    rw [m.trees]
    refine Calls.callWith_builtin rfl (Calls.evalArgs_plain (Calls.spliced_cons (thn hA fun iv s2 ⟨y, H2, I2, ry, Z2, L2, s2', t2, r2, A2, i1, i2, k2, e2, out⟩ => Calls.spliced_nil ?_)))
    obtain ⟨_, ds, rfl⟩ := kind_tup i1 k2
    have e3 : indexD (.v (.tup ds)) t2.d = .ok r2 := e2
    simp only [indexD] at e3
    split at e3
    · rename_i ys z hy hz
      split at e3
      · rename_i j hj
        cases e3
        obtain ⟨g1, g2⟩ := indexT_ok hj
        obtain ⟨a, xs, rfl, hq, rp⟩ := i1.tup
        have := map_strs hy rp
        subst this
        have ey : y = .str z := by
          cases t2 with
          | v d => have hz' : d = .str z := hz; subst hz'; exact i2.str
          | _ => cases hz
        subst ey
        exact mt_tup_index pins s2 σ H2 _ [.str z] _ [iv] Q I2 rx (.cons ry .nil) ⟨a, ys, z, j, rfl, rfl, hq, g1, g2, out.int⟩
      · cases e3
    · cases e3
theorem le_count (hu : X.A.units + 65 < cLine) (ho : PE X o (lo X G ca)) (he : PE X e (lift X G cb)) (m : M1 X o "count" apos e cpos) : PE X (.Call (.Attribute o "count" apos) [e] [] cpos) (lift X G (.mt2 .count ca cb)) := by
  refine ⟨fun pins s σ H Q I h => ?_⟩
  refine wpAny_Call_method_late m.base m.few m.line rfl (thn (ho.run pins s σ H _ I (use_mt2 h)) fun u s1 ⟨x, H1, I1, rx, k, ⟨Z, L, sx, A, ix, hk⟩, q1⟩ => ?_)
  have hA := he.run pins s1 σ H1 _ I1 q1
  have cnt : ∀ {s t r : SV}, op2 G .count s t = .ok r → ∃ ds p qs, s.lst? = some ds ∧ dat t.d = some p ∧ dats ds = some qs ∧ SeqAt.shaped p = true ∧ SeqAt.shaped (.list qs) = true ∧ r = .v (.int (qs.countP fun z => PyData.eqv z p)) := by
    intro s t r e
    have e : countD s t.d = .ok r := e
    unfold countD at e
    split at e
    · rename_i ds ed
      split at e
      · rename_i p qs hp hq
        obtain ⟨c, e⟩ := ite_ok e
        rw [Bool.and_eq_true] at c
        cases e
        exact ⟨ds, p, qs, ed, hp, hq, c.1, c.2, rfl⟩
      · cases e
    · cases e
  cases k with
  | true =>
    obtain ⟨h1, h2⟩ := tyL_is _ _ _ _ _ _ I1 rx (kind_list ix hk).1
    refine ⟨"list", _, PySem.F.plainAttrs_list, PySem.F.slot_list_count, PySem.F.type_list_count, h1, h2, ?_⟩
    rw [m.trees]
    refine Calls.callWith_builtin rfl (Calls.evalArgs_plain (Calls.spliced_cons (thn hA fun iv s2 ⟨y, H2, I2, ry, Z2, L2, s2', t2, r2, A2, i1, i2, k2, e2, out⟩ => Calls.spliced_nil ?_)))
    obtain ⟨ds, p, qs, ed, hp, hq, c1, c2, rfl⟩ := cnt e2
    obtain ⟨a, xs, rfl, _, _⟩ := i1.lst ed
    exact mt_countD hu pins s2 σ H2 _ [y] _ [iv] Q I2 rx (.cons ry .nil) ⟨a, y, p, qs, rfl, rfl, i1.dpl ed hq, i2.dp hp, c2, c1, out.int⟩
  | false =>
    obtain ⟨h1, h2⟩ := tyT_is _ _ _ _ _ _ I1 rx (kind_tup ix hk).1
    refine ⟨"tuple", _, PySem.F.plainAttrs_tuple, PySem.F.slot_tuple_count, PySem.F.type_tuple_count, h1, h2, ?_⟩
    rw [m.trees]
    refine Calls.callWith_builtin rfl (Calls.evalArgs_plain (Calls.spliced_cons (thn hA fun iv s2 ⟨y, H2, I2, ry, Z2, L2, s2', t2, r2, A2, i1, i2, k2, e2, out⟩ => Calls.spliced_nil ?_)))
    obtain ⟨ds, p, qs, ed, _⟩ := cnt e2
    obtain ⟨_, ds', rfl⟩ := kind_tup i1 k2
    cases ed

/-! ### upper, str -/
theorem le_upper (ho : PE X o (lo X G ca)) (hbase : attributeBase o "upper" X.env (eval o X.env) = eval o X.env) (hline : (apos.endLine == cpos.line) = true) : PE X (.Call (.Attribute o "upper" apos) [] [] cpos) (lift X G (.p1 .upper ca)) := by
  refine PE.mono (pe_bm0 PySem.F.plainAttrs_str PySem.F.slot_str_upper PySem.F.type_str_upper mt_upper ho hbase hline) fun σ H Q q => ?_
  refine lo_imp (use1 q) fun x H1 ⟨Z, L, s, r, A, ix, e, o⟩ => ?_
  simp only [op1] at e
  split at e
  · obtain ⟨c, e⟩ := ite_ok e
    cases e
    have := ix.str
    subst this
    exact ⟨rfl, _, rfl, rfl, c, o.str⟩
  · cases e
theorem s_str : CallR X (.type "str") (fun xs H Q => ∃ x, xs = [x] ∧ S1 (rc X) (op1 G .str) x H Q) := by
  intro pins s σ H xs us Q I r h
  obtain ⟨x, rfl, Z, L, sx, q, A, ix, e, o⟩ := h
  simp only [op1] at e
  split at e
  · rename_i z hz
    cases e
    cases sx with
    | v d =>
      unfold stD at hz
      simp only [SV.d] at hz
      split at hz
      · cases hz
        have := ix.str
        subst this
        obtain ⟨u, rfl, t, rfl⟩ := vals1 r
        exact PySem.P.str_of_str ⟨.str _, H, I, ⟨t, rfl⟩, o.str⟩
      · split at hz
        · cases hz
          have := ix.int
          subst this
          exact call_str_int pins s σ H _ us Q I r ⟨_, rfl, ‹_›, o.str⟩
        · cases hz
      · cases hz
    | _ => cases hz
  · cases e

/-! ### isinstance -/
def bty (t : Str) : Bool := decide (t = "str" ∨ t = "int" ∨ t = "bool" ∨ t = "list" ∨ t = "tuple")
theorem tyN_six {s : SV} {a : String} (h : tyN s = some a) : a = "NoneType" ∨ a = "bool" ∨ a = "int" ∨ a = "str" ∨ a = "tuple" ∨ a = "list" := by
  unfold tyN at h
  split at h <;> cases h <;> simp
theorem kitB_all : ∀ a ∈ ["NoneType", "bool", "int", "str", "tuple", "list"], kitB a "str" = some (a == "str") ∧ kitB a "int" = some (a == "int" || a == "bool") ∧ kitB a "bool" = some (a == "bool") ∧ kitB a "list" = some (a == "list") ∧ kitB a "tuple" = some (a == "tuple") := by
  decide +kernel
theorem isaD_ok {t : Str} {s : SV} {b : Bool} (h : isaD t s = some b) : bty t = true ∧ ∃ (a : String), tyN s = some a ∧ ∀ T : String, t = Str.ofString T → bty (Str.ofString T) = true → (T = "str" ∨ T = "int" ∨ T = "bool" ∨ T = "list" ∨ T = "tuple") → kitB a T = some b := by
  unfold isaD at h
  split at h
  · rename_i a ha
    have h6 := tyN_six ha
    have hm : a ∈ ["NoneType", "bool", "int", "str", "tuple", "list"] := by simpa using h6
    obtain ⟨k1, k2, k3, k4, k5⟩ := kitB_all a hm
    have e1 : ("str" : Str) ≠ "int" ∧ ("str" : Str) ≠ "bool" ∧ ("str" : Str) ≠ "list" ∧ ("str" : Str) ≠ "tuple" ∧ ("int" : Str) ≠ "bool" ∧ ("int" : Str) ≠ "list" ∧ ("int" : Str) ≠ "tuple" ∧ ("bool" : Str) ≠ "list" ∧ ("bool" : Str) ≠ "tuple" ∧ ("list" : Str) ≠ "tuple" := by decide +kernel
    obtain ⟨n1, n2, n3, n4, n5, n6, n7, n8, n9, n10⟩ := e1
    split at h
    · rename_i c; subst c
      refine ⟨by decide +kernel, a, ha, fun T e _ hT => ?_⟩
      rcases hT with rfl | rfl | rfl | rfl | rfl
      · rw [k1, h]
      · exact absurd e n1
      · exact absurd e n2
      · exact absurd e n3
      · exact absurd e n4
    · split at h
      · rename_i c; subst c
        refine ⟨by decide +kernel, a, ha, fun T e _ hT => ?_⟩
        rcases hT with rfl | rfl | rfl | rfl | rfl
        · exact absurd e.symm n1
        · rw [k2, h]
        · exact absurd e n5
        · exact absurd e n6
        · exact absurd e n7
      · split at h
        · rename_i c; subst c
          refine ⟨by decide +kernel, a, ha, fun T e _ hT => ?_⟩
          rcases hT with rfl | rfl | rfl | rfl | rfl
          · exact absurd e.symm n2
          · exact absurd e.symm n5
          · rw [k3, h]
          · exact absurd e n8
          · exact absurd e n9
        · split at h
          · rename_i c; subst c
            refine ⟨by decide +kernel, a, ha, fun T e _ hT => ?_⟩
            rcases hT with rfl | rfl | rfl | rfl | rfl
            · exact absurd e.symm n3
            · exact absurd e.symm n6
            · exact absurd e.symm n8
            · rw [k4, h]
            · exact absurd e n10
          · split at h
            · rename_i c; subst c
              refine ⟨by decide +kernel, a, ha, fun T e _ hT => ?_⟩
              rcases hT with rfl | rfl | rfl | rfl | rfl
              · exact absurd e.symm n4
              · exact absurd e.symm n7
              · exact absurd e.symm n9
              · exact absurd e.symm n10
              · rw [k5, h]
            · cases h
  · cases h
theorem In.ty {Z : Addr → Prop} {L : List Addr} {H : Hp} {x : V} {s : SV} {a : String} (ix : In (rc X) Z L H x s) (h : tyN s = some a) : TyX X.K H x (.type a) := by
  have lst : ∀ ds, s.lst? = some ds → TyX X.K H x (.type "list") := fun ds e => by
    obtain ⟨a, xs, rfl, h1, _⟩ := ix.lst e
    rcases h1 with h1 | ⟨o, h1⟩
    · exact .base (.lst h1)
    · exact .base (.frz h1)
  unfold tyN at h
  split at h <;> cases h
  · have := ix.val rfl; cases this; exact .base .non
  · have := ix.bl; subst this; exact .base (.bl _)
  · have := ix.int; subst this; exact .base (.int _)
  · have := ix.str; subst this; exact .base (.str _)
  · obtain ⟨a, xs, rfl, h1, _⟩ := ix.tup
    rcases h1 with (h1 | ⟨o, h1⟩) | ⟨o, its, n, h1, h2, _⟩
    · exact .base (.tup h1)
    · exact .fTuple h1
    · exact .kTuple h1 h2
  · exact lst _ rfl
  · exact lst _ rfl
/-- isinstance(x, T), T built-in -/
theorem le_isaB {T : String} {t : Str} {p2 : Pos} (hG : GOk X G) (et : t = Str.ofString T) (hT : T = "str" ∨ T = "int" ∨ T = "bool" ∨ T = "list" ∨ T = "tuple") (hg : Gl X "isinstance") (hm : X.mg "isinstance" = none) (ha : PE X a (lo X G ca)) (ht : PE X (.Name t p2) (tC (.ty T))) (hmt : X.mg t = none)
    (he : starEach [a, .Name t p2] X.env = (false, eval a X.env) :: starEach [.Name t p2] X.env) (he2 : starEach [.Name t p2] X.env = [(false, eval (.Name t p2) X.env)]) : PE X (.Call (.Name "isinstance" p) [a, .Name t p2] [] pos) (lift X G (.p1 (.isa [t]) ca)) := by
  refine PE.mono (pe_callB call_isi hg hm (by decide +kernel) (pa_cons ha (pa_cons ht pa_nil he2) he) (by decide) (by decide) he (by rw [he2]; rfl)) fun σ H Q q => ?_
  refine lo_imp (use1 q) fun x H1 ⟨Z, L, s, r, A, ix, e, o⟩ => ?_
  simp only [op1] at e
  split at e
  · rename_i c ns vs eo
    split at e
    · rename_i b hb
      obtain ⟨a, C, dx, fs, _, hmc, _⟩ := ix.obj eo
      obtain ⟨T, hT, _⟩ := hG.isa c t b C hb hmc
      rw [hmt] at hT; cases hT
    · cases e
  · split at e
    · rename_i b hb
      cases e
      obtain ⟨hbt, a, hn, hk⟩ := isaD_ok hb
      exact ⟨x, .ty T, _, .type T, b, rfl, .ty T, ix.ty hn, kit_ty (hk T et (by rw [← et]; exact hbt) hT), o.bl⟩
    · cases e
/-- .. an own class -/
theorem le_isaO {t : Str} {p2 : Pos} {C0 : Addr} (hG : GOk X G) (hg : Gl X "isinstance") (hm : X.mg "isinstance" = none) (ha : PE X a (lo X G ca)) (hgt : Gl X t) (hmt : X.mg t = some (.ref C0)) (hbt : bty t = false) (hd : (t == ("__debug__" : Str)) = false)
    (he : starEach [a, .Name t p2] X.env = (false, eval a X.env) :: starEach [.Name t p2] X.env) (he2 : starEach [.Name t p2] X.env = [(false, eval (.Name t p2) X.env)]) : PE X (.Call (.Name "isinstance" p) [a, .Name t p2] [] pos) (lift X G (.p1 (.isa [t]) ca)) := by
  refine PE.mono (pe_callB call_isi hg hm (by decide +kernel) (pa_cons ha (pa_cons (pe_glob (v := .ref C0) hgt hmt rfl hd) pa_nil he2) he) (by decide) (by decide) he (by rw [he2]; rfl)) fun σ H Q q => ?_
  refine lo_imp (use1 q) fun x H1 ⟨Z, L, s, r, A, ix, e, o⟩ => ?_
  simp only [op1] at e
  split at e
  · rename_i c ns vs eo
    split at e
    · rename_i b hb
      cases e
      obtain ⟨a, C, dx, fs, rfl, hmc, hH, _⟩ := ix.obj eo
      obtain ⟨T, hT, k, cl, h1, h2, h3, h4⟩ := hG.isa c t b C hb hmc
      rw [hmt] at hT; cases hT
      exact ⟨.ref a, .ref C0, .ref C, .ref C0, b, rfl, .own C0, .base (.ins hH cl h1 h2 h3 h4), k, o.bl⟩
    · cases e
  · split at e
    · rename_i b hb
      rw [(isaD_ok hb).1] at hbt; cases hbt
    · cases e
end
end Dv

set_option Elab.async false
set_option linter.all false
set_option maxRecDepth 100000
set_option maxHeartbeats 4000000
/-! sorted(x, key=str), dict displays, copies of dicts -/
namespace Dv
open PySem PySem.Spec PyProof.Rows L2

section
variable {X : Cx} {G : GEnv} {p pos pos' apos cpos kpos : Pos} {a b e f o : Expr} {es : List Expr} {ca cb cc : CE} {cl : CL}

theorem stAll_mem : ∀ {ds : List D} {d : D}, stAll ds = true → d ∈ ds → ∃ x, stD d = some x
  | d0 :: ds, d, h, m => by
    rw [stAll, Bool.and_eq_true] at h
    rcases List.mem_cons.mp m with rfl | m
    · exact Option.isSome_iff_exists.mp h.1
    · exact stAll_mem h.2 m
theorem stD_call {R : RC} {V₀ : Hp} {v : V} {d : D} {x : Str} {u : Value} {s : Shared} {A : Around} {E : Value → Shared → Prop} (r : Rep R V₀ v d) (h : stD d = some x) (ru : RelV v u) : wpAny (model X.prog X.w) A (call (.type "str") [u]) (PySem.W.KeyPure (.str x) s) E s := by
  unfold stD at h
  split at h
  · cases h
    cases r
    obtain ⟨t, rfl⟩ := ru
    exact PySem.P.str_of_str ⟨s.heap, s.toks, rfl, fun _ _ e => e, .str _ _⟩
  · split at h
    · cases h
      cases r
      obtain ⟨t, rfl⟩ := ru
      exact PySem.P.str_of_int ‹_› ⟨s.heap, s.toks + 1, rfl, fun _ _ e => e, .str _ _⟩
    · cases h
  · cases h
/-- values and what they stand for, as pairs -/
def PR (R : RC) (V₀ : Hp) (u : Value) (p : V × D) : Prop := RelV p.1 u ∧ Rep R V₀ p.1 p.2
theorem pr_of {R : RC} {V₀ : Hp} : ∀ {vs : List V} {ds : List D} {us : List Value}, Reps R V₀ vs ds → Vals vs us → PySem.W.EachIs (PR R V₀) us (vs.zip ds)
  | _, _, _, .nil, .nil => .nil
  | _, _, _, .cons r q, .cons h t => .cons ⟨h, r⟩ (pr_of q t)
theorem of_pr {R : RC} {V₀ : Hp} : ∀ {us : List Value} {ps : List (V × D)}, PySem.W.EachIs (PR R V₀) us ps → Vals (ps.map (·.1)) us ∧ Reps R V₀ (ps.map (·.1)) (ps.map (·.2))
  | _, _, .nil => ⟨.nil, .nil⟩
  | _, _, .cons h t => ⟨.cons h.1 (of_pr t).1, .cons h.2 (of_pr t).2⟩
theorem reps_zip {R : RC} {V₀ : Hp} : ∀ {vs : List V} {ds : List D}, Reps R V₀ vs ds → (vs.zip ds).map (·.2) = ds
  | _, _, .nil => rfl
  | _, _, .cons _ q => by simp [reps_zip q]
def kSt (p : V × D) : PyData := .str ((stD p.2).getD ⟨#[]⟩)
theorem alike_st (ps : List (V × D)) : PySem.W.AllAlike (ps.map kSt) := fun d hd d' hd' => by
  obtain ⟨p, _, rfl⟩ := List.mem_map.mp hd
  obtain ⟨q, _, rfl⟩ := List.mem_map.mp hd'
  rfl
theorem sortable_st (ps : List (V × D)) : PySem.W.Sortable (ps.map kSt) := .inr fun d hd => by
  obtain ⟨p, _, rfl⟩ := List.mem_map.mp hd
  exact ⟨(fun z => nomatch z), (fun _ z => nomatch z)⟩
theorem cr_sortedStr (hu : X.A.units + 16 < cLine) : CallRK X (.builtin "sorted") [Str.ofString "key"] (fun xs zs H Q => ∃ x, xs = [x] ∧ zs = [.ty "str"] ∧ S1 (rc X) (op1 G .sortS) x H Q) := by
  intro pins s σ H xs zs us ws Q I rx rz h
  obtain ⟨x, rfl, rfl, Z, L, sx, r, A, ix, e, o⟩ := h
  simp only [op1] at e
  split at e
  · rename_i ds ed
    obtain ⟨c, e⟩ := ite_ok e
    cases e
    rw [Bool.and_eq_true] at c
    obtain ⟨a, vs, rfl, h1, rp⟩ := ix.lst ed
    obtain ⟨w, rfl, rw'⟩ := vals1 rz
    obtain rfl : w = Value.type "str" := rw'
    obtain rfl := Vals.ref1 rx
    obtain ⟨its, rv, hl, hz⟩ := I.list (.inl h1)
    have hlen : (vs.zip ds).length = vs.length := by rw [List.length_zip, rp.length, Nat.min_self]
    have hmem : ∀ p ∈ vs.zip ds, ∃ x, stD p.2 = some x := fun p hp => stAll_mem c.1 (by rw [← reps_zip rp]; exact List.mem_map_of_mem hp)
    show wpAny _ _ (call (.builtin "sorted") [.ref a] [(Str.ofString "key", .type "str")]) _ _ s
    refine PySem.W.sorted_key_data (R := PR (rc X) (vis Z L H)) (f := .type "str") (b := false) kSt hl.isList (pr_of rp rv) (alike_st _) (sortable_st _) (by rw [hlen]; exact hz)
      (fun p _ => by show X.A.units + 2 + PyData.depth (.str _) < cLine; simp only [PyData.depth]; omega) (PyProof.Rows.ksk_s1 _ _) (fun _ => PyProof.Rows.ksk_l1 _ _) (fun _ => rfl)
      (fun v p hR hp h tk kp => ?_) (fun out c0 h' tk kp hn hg ho he => ?_)
    · obtain ⟨x, hx⟩ := hmem p hp
      have ek : kSt p = .str x := by show PyData.str ((stD p.2).getD ⟨#[]⟩) = _; rw [hx]; rfl
      rw [ek]
      exact stD_call hR.2 hx hR.1
    · obtain ⟨g1, g2⟩ := of_pr he
      have em : ((vs.zip ds).mergeSort (PySem.W.dataLe false kSt)).map (·.2) = ds.mergeSort stLe := by
        have := List.map_mergeSort (r := PySem.W.dataLe false kSt) (s := stLe) (f := fun p : V × D => p.2) (l := vs.zip ds) (fun _ _ _ _ => rfl)
        rw [this, reps_zip rp]
      have gl := g1.length
      refine ⟨.ref (s.heap.objs.size + 1), upd H (s.heap.objs.size + 1) (.lst _), I.laid (t' := tk) kp (Nat.le_succ _) (show ObjOk X.prog X.w _ _ _ (.lst _) from ⟨?_, out, c0, g1, hg⟩), rfl, o.newL (by rw [← em]; exact g2) (I.hok.fresh (Nat.le_succ _))⟩
      rw [gl, ho, hlen]
      exact hz
  · cases e
theorem le_sortS {p2 : Pos} (hu : X.A.units + 16 < cLine) (hg : Gl X "sorted") (hm : X.mg "sorted" = none) (ht : PE X (.Name "str" p2) (tC (.ty "str"))) (ha : PE X a (lo X G ca))
    (he : backTo pos (starEach [a] X.env) = (false, eval a X.env) :: backTo pos (starEach [] X.env)) (hpl : (backTo pos (starEach [a] X.env)).any (·.1) = false) (hs : starEach [a] X.env = (false, eval a X.env) :: starEach [] X.env) :
    PE X (.Call (.Name "sorted" p) [a] [⟨some "key", .Name "str" p2, kpos⟩] pos) (lift X G (.p1 .sortS ca)) := by
  refine PE.mono (pe_callBK (cr_sortedStr (G := G) hu) hg hm (by decide +kernel) (pa_cons ha pa_nil hs) (pk_cons ht pk_nil) (by decide) (by decide) he hpl (by rfl) (by rfl) (by rfl)) fun σ H Q q => ?_
  exact lo_imp (use1 q) fun x H1 z => ⟨x, rfl, rfl, z⟩

/-! ### dicts are written -/
theorem any_kD {kvs : List (Key × V)} {k : Key} : ((kvs.map fun p => kD p.1).any fun j => decide (keyOf j = some (nkD k))) = kvs.any fun kv => decide (kv.1 = k) := by
  rw [List.any_map]
  congr 1
  funext kv
  have : (keyOf (kD kv.1) = some (nkD k)) ↔ kv.1 = k := ⟨fun h => kD_inj (by rw [h, keyOf_kD]), fun h => by rw [h, keyOf_kD]⟩
  exact decide_eq_decide.mpr this
theorem zip_set {R : RC} {V₀ : Hp} {k : Key} {v : V} {d : D} (rv : Rep R V₀ v d) : ∀ {kvs : List (Key × V)} {ds : List D}, Reps R V₀ (kvs.map (·.2)) ds →
    Reps R V₀ ((kvs.map fun kv => if kv.1 = k then (kv.1, v) else kv).map (·.2)) (List.zipWith (fun j w => if keyOf j = some (nkD k) then d else w) (kvs.map fun p => kD p.1) ds)
  | [], _, .nil => .nil
  | p :: kvs, _, .cons r1 r2 => by
    rw [List.map_cons, List.map_cons, List.map_cons, List.zipWith_cons_cons]
    refine .cons ?_ (zip_set rv r2)
    by_cases h : p.1 = k
    · rw [if_pos h, if_pos (by rw [h, keyOf_kD])]
      exact rv
    · rw [if_neg h, if_neg fun z => h (kD_inj (by rw [z, keyOf_kD]))]
      exact r1
theorem put_kD {R : RC} {V₀ : Hp} {kvs : List (Key × V)} {ds : List D} {k : Key} {v : V} {d : D} (r : Reps R V₀ (kvs.map (·.2)) ds) (rv : Rep R V₀ v d) :
    (dctPut (kvs.map fun p => kD p.1) ds (kD k) d (nkD k)).1 = (putK kvs k v).map (fun p => kD p.1) ∧ Reps R V₀ ((putK kvs k v).map (·.2)) (dctPut (kvs.map fun p => kD p.1) ds (kD k) d (nkD k)).2 := by
  unfold dctPut putK
  rw [any_kD]
  split
  · refine ⟨?_, ?_⟩
    · show kvs.map (fun p => kD p.1) = _
      rw [List.map_map]
      refine List.map_congr_left fun p _ => ?_
      show kD p.1 = kD (if p.1 = k then (p.1, v) else p).1
      split <;> rfl
    · exact zip_set rv r
  · refine ⟨by simp, ?_⟩
    rw [List.map_append]
    exact r.append (.cons rv .nil)
/-- the pairs of a display -/
def trsP (X : Cx) (G : GEnv) : CP → List (TE × TE)
  | .nil => []
  | .cons k v r => (lift X G k, lift X G v) :: trsP X G r
def flatV2 : List (V × V) → List V
  | [] => []
  | p :: r => p.1 :: p.2 :: flatV2 r
def flatS2 : List SV → List SV → List SV
  | k :: ks, v :: vs => k :: v :: flatS2 ks vs
  | _, _ => []
theorem pairs_of {Z : Addr → Prop} {H₀ : Hp} {σ : L2.St} : ∀ {cp : CP} {tvs : List (Option V)} {ts : List SV} {α α' : AEnv} {H : Hp} {rs : List SV × List SV} {K : List (V × V) → Hp → Prop}, Sit (rc X) Z H₀ H tvs σ ts α → denP G cp α = .ok (rs, α') →
    (∀ ps H', (flatV2 ps).length = (flatS2 rs.1 rs.2).length → ps.length = rs.1.length → rs.1.length = rs.2.length → (∀ r ∈ flatS2 rs.1 rs.2, r ≠ .un) → Rl (rc X) Z H₀ H' ((flatV2 ps).map some ++ (tvs ++ σ)) (flatS2 rs.1 rs.2 ++ (ts ++ α')) → K ps H') → tPairs (trsP X G cp) σ H K
  | .nil, tvs, ts, α, α', H, rs, K, st, e, k => by
    rw [denP] at e
    cases e
    exact k [] H rfl rfl rfl (fun _ h => nomatch h) st.rl
  | .cons kk vv r, tvs, ts, α, α', H, rs, K, st, e, k => by
    rw [denP] at e
    obtain ⟨⟨x, α1⟩, e1, e⟩ := Res.bind_ok e
    obtain ⟨⟨y, α2⟩, e2, e⟩ := Res.bind_ok e
    obtain ⟨⟨zs, α3⟩, e3, e⟩ := Res.bind_ok e
    cases e
    refine ⟨Z, H₀, tvs, ts, α, st, x, α1, e1, fun v H1 hu rl => ?_⟩
    refine ⟨Z, H₀, some v :: tvs, x :: ts, α1, ⟨by simp [st.len], rl⟩, y, α2, e2, fun w H2 hw rl2 => ?_⟩
    refine pairs_of (tvs := some w :: some v :: tvs) (ts := y :: x :: ts) ⟨by simp [st.len], rl2⟩ e3 fun ps H3 h1 h2 h3 h4 rl3 => ?_
    refine k ((v, w) :: ps) H3 (by simp [flatV2, flatS2, h1]) (by simp [h2]) (by simp [h3]) (fun t ht => ?_) ?_
    · rcases List.mem_cons.mp ht with rfl | ht
      · exact hu
      · rcases List.mem_cons.mp ht with rfl | ht
        · exact hw
        · exact h4 t ht
    · have g : Rl (rc X) Z H₀ H3 ((flatV2 ps).map some ++ ([some w, some v] ++ (tvs ++ σ))) (flatS2 zs.1 zs.2 ++ ([y, x] ++ (ts ++ α'))) := rl3
      have g2 := Rl.rot (as := (flatV2 ps).map some) (bs := [some w, some v]) (ts := flatS2 zs.1 zs.2) (us := [y, x]) (by simp [h1]) rfl g
      exact g2.swap
theorem unflat {R : RC} {V₀ : Hp} : ∀ {ps : List (V × V)} {ks vs : List SV}, ps.length = ks.length → ks.length = vs.length → Reps R V₀ (flatV2 ps) ((flatS2 ks vs).map SV.d) → Reps R V₀ (ps.map (·.1)) (ks.map SV.d) ∧ Reps R V₀ (ps.map (·.2)) (vs.map SV.d)
  | [], [], [], _, _, _ => ⟨.nil, .nil⟩
  | [], [], _ :: _, _, h, _ => by cases h
  | [], _ :: _, _, h, _, _ => by cases h
  | _ :: _, [], _, h, _, _ => by cases h
  | _ :: _, _ :: _, [], _, h, _ => by cases h
  | p :: ps, k :: ks, v :: vs, h1, h2, r => by
    rw [flatV2, flatS2, List.map_cons, List.map_cons] at r
    cases r with
    | cons r1 r =>
      cases r with
      | cons r2 r =>
        obtain ⟨q1, q2⟩ := unflat (by simpa using h1) (by simpa using h2) r
        exact ⟨.cons r1 q1, .cons r2 q2⟩
theorem mk_dct {R : RC} {V₀ : Hp} : ∀ {ps : List (V × V)} {ks vs : List D} {kvs : List (Key × V)} {ds : List D} {r : List D × List D}, Reps R V₀ (ps.map (·.1)) ks → Reps R V₀ (ps.map (·.2)) vs → Reps R V₀ (kvs.map (·.2)) ds → (ks.all flatKey) = true →
    mkDct ks vs (kvs.map (fun p => kD p.1), ds) = .ok r → ∃ more : List (Key × V), ps = more.map (fun kv => (kV kv.1, kv.2)) ∧ r.1 = (mergeK kvs more).map (fun p => kD p.1) ∧ Reps R V₀ ((mergeK kvs more).map (·.2)) r.2
  | [], _, _, kvs, ds, r, r1, r2, rd, _, e => by
    cases r1
    cases r2
    rw [mkDct] at e
    cases e
    exact ⟨[], rfl, rfl, rd⟩
  | p :: ps, _, _, kvs, ds, r, r1, r2, rd, hf, e => by
    rw [List.map_cons] at r1 r2
    cases r1 with
    | @cons _ kd _ ks r1 q1 =>
      cases r2 with
      | @cons _ d _ vs r2 q2 =>
        rw [List.all_cons, Bool.and_eq_true] at hf
        have hk : ∃ k : Key, kd = kD k ∧ p.1 = kV k := by
          rcases flatKey_ok hf.1 with ⟨i, rfl⟩ | ⟨x, rfl⟩
          · cases hp : p.1 <;> rw [hp] at r1 <;> cases r1
            exact ⟨.inl i, rfl, rfl⟩
          · cases hp : p.1 <;> rw [hp] at r1 <;> cases r1
            exact ⟨.inr x, rfl, rfl⟩
        obtain ⟨k, rfl, hp⟩ := hk
        rw [mkDct, keyOf_kD] at e
        obtain ⟨c, e⟩ := ite_ok e
        obtain ⟨g1, g2⟩ := put_kD (k := k) rd r2
        have e' : mkDct ks vs ((putK kvs k p.2).map (fun p => kD p.1), (dctPut (kvs.map fun p => kD p.1) ds (kD k) d (nkD k)).2) = .ok r := by rw [← g1]; exact e
        obtain ⟨more, h1, h2, h3⟩ := mk_dct q1 q2 g2 hf.2 e'
        exact ⟨(k, p.2) :: more, by rw [List.map_cons, ← h1, ← hp], h2, h3⟩
theorem od_nil {R : RC} {V₀ H : Hp} {a : Addr} {as : List Addr} (e : Ent R V₀ H (some (.ref a)) (.od [] []) as) : H a = some (.dK []) := by
  generalize hs : SV.od [] [] = s at e
  generalize ho : some (V.ref a) = o at e
  cases e with
  | odK h r =>
    cases ho
    injection hs with h1 h2
    rename_i kvs ds
    cases kvs with
    | nil => exact h
    | cons _ _ => cases h1
  | odT hne h r k q =>
    injection hs with h1 h2
    subst h1
    rename_i es ds
    cases es with
    | nil => exact absurd rfl hne
    | cons _ _ => cases r
  | _ => cases hs
theorem RlO.newD {R : RC} {Z : Addr → Prop} {H₀ H : Hp} {L : List Addr} {os : List (Option V)} {ss : List SV} (r : RlO R Z H₀ H L os ss) {p : Addr} (hp : H p = none) : Rl R Z H₀ (upd H p (.dK [])) (some (.ref p) :: os) (.od [] [] :: ss) := by
  have sm : Same H (upd H p (.dK [])) := fun b o e => by rw [upd_ne (ne_of_none e hp)]; exact e
  exact ⟨[p] ++ L, r.grow sm (fun c hc => by rw [List.mem_singleton.mp hc]; exact hp) (by simp) (.odK (kvs := []) upd_same .nil)⟩
theorem le_dct0 : PE X (.Dict [] [] pos) (lift X G (.dct .nil)) := PE.mono pe_dnewK fun σ H Q q => by
  obtain ⟨Z, H₀, tvs, ts, α, st, r, α', e, k⟩ := q
  simp only [den, denP] at e
  cases e
  intro p hp
  obtain ⟨L, rr⟩ := st.rl
  exact k _ _ (fun z => nomatch z) (rr.newD hp)
theorem lenP : ∀ {cp : CP} {α : AEnv} {rs : List SV × List SV} {α' : AEnv}, denP G cp α = .ok (rs, α') → rs.1.length = (trsP X G cp).length
  | .nil, α, rs, α', e => by
    rw [denP] at e
    cases e
    rfl
  | .cons k v r, α, rs, α', e => by
    rw [denP] at e
    obtain ⟨⟨x, α1⟩, e1, e⟩ := Res.bind_ok e
    obtain ⟨⟨y, α2⟩, e2, e⟩ := Res.bind_ok e
    obtain ⟨⟨zs, α3⟩, e3, e⟩ := Res.bind_ok e
    cases e
    simp [trsP, lenP e3]
theorem le_dct {keys : List (Option Expr)} {values : List Expr} {cp : CP} (h : PPs X pos keys values (trsP X G cp)) (hall : keys.all (·.isSome) = true) (hl : keys.length = values.length) (h0 : keys ≠ []) (h15 : keys.length ≤ 15) (hn : (trsP X G cp).length ≤ 15) :
    PE X (.Dict keys values pos) (lift X G (.dct cp)) := PE.mono (pe_disp h hall hl h0 h15) fun σ H Q q => by
  obtain ⟨Z, H₀, tvs, ts, α, st, r, α', e, k⟩ := q
  simp only [den] at e
  obtain ⟨⟨rs, α1⟩, e1, e⟩ := Res.bind_ok e
  obtain ⟨hf, e⟩ := ite_ok e
  obtain ⟨r1, e2, e⟩ := Res.bind_ok e
  cases e
  intro p hp
  obtain ⟨L, rr⟩ := st.rl
  have rl1 := rr.newD hp
  refine pairs_of (tvs := some (.ref p) :: tvs) (ts := .od [] [] :: ts) ⟨by simp [st.len], rl1⟩ e1 fun ps H2 h1 h2 h3 h4 rl2 => ?_
  obtain ⟨L2, r2, rp⟩ := fz_args (by simpa using h1) h4 rl2
  obtain ⟨q1, q2⟩ := unflat h2 h3 rp
  have r3 : RlO (rc X) Z H₀ H2 L2 (some (.ref p) :: (tvs ++ σ)) (.od [] [] :: (ts ++ α1)) := r2
  obtain ⟨a, g1, g2, g3, put⟩ := r3.put (i := 0) rfl rfl
  cases g1
  obtain ⟨more, m1, m2, m3⟩ := mk_dct (kvs := []) (ds := []) q1 q2 .nil hf e2
  refine ⟨od_nil g3, more, m1, ?_, ?_⟩
  · have := lenP (X := X) (G := G) e1
    have hm : ps.length = more.length := by rw [m1, List.length_map]
    omega
  · have g := put (.dK (mergeK [] more)) (.od r1.1 r1.2) (by rw [m2]; exact .odK upd_same m3)
    exact k _ _ (fun z => nomatch z) ⟨L2, g⟩

/-! ### dict(d) -/
theorem s_dict : CallR X (.type "dict") (fun xs H Q => ∃ x, xs = [x] ∧ S1 (rc X) (op1 G .dict) x H Q) := by
  intro pins s σ H xs us Q I r h
  obtain ⟨x, rfl, Z, L, sx, q, A, ix, e, o⟩ := h
  simp only [op1] at e
  split at e
  · rename_i ks ds ed
    obtain ⟨hf, e⟩ := ite_ok e
    cases e
    obtain ⟨a, rfl, dk⟩ := ix.dct ed
    obtain ⟨u, rfl, ru⟩ := vals1 r
    obtain rfl : u = Value.ref a := ru
    -- what is made
    have fin : ∀ (kvs : List (Key × V)) (vs : List (Key × Value)), (a == sysModules) = false → kvs.length ≤ sizeLine → KV kvs vs → s.heap.DictOf (mixKind X.prog X.w) a vs → ks = kvs.map (fun p => kD p.1) → Reps (rc X) (vis Z L H) (kvs.map (·.2)) ds →
        wpAny (model X.prog X.w) X.A (call (.type "dict") [.ref a]) (EP X pins σ Q) X.xe s := fun kvs vs hd z rel dd ek rp => by
      subst ek
      refine kt_call_dict hd dd (by rw [← rel.length]; exact z) fun h' dd' hs => ?_
      have hp := I.hok.fresh (Nat.le_refl s.heap.objs.size)
      have sm : Same H (upd H s.heap.objs.size (.dK kvs)) := fun b o e => by rw [upd_ne (ne_of_none e hp)]; exact e
      refine ⟨.ref s.heap.objs.size, _, I.laid (a := s.heap.objs.size) (o := .dK kvs) (t' := s.toks) (fun b q hq => ?_) (Nat.le_refl _) (dk_new z (beq_eq_false_iff_ne.mpr (Ne.symm (Nat.ne_of_lt I.big))) rel dd'), rfl, ?_⟩
      · exact (hs.2 b (Nat.ne_of_lt (Heap.lt_size hq))).trans (Heap.get?_push_of_some _ hq)
      · refine o _ _ [s.heap.objs.size] sm (fun c hc => by rw [List.mem_singleton.mp hc]; exact hp) (by simp) (fun h => nomatch h) (.odK upd_same (rp.mono (vis_mono fun b o _ hb e => ⟨fun m => ?_, sm b o e⟩)))
        rcases List.mem_append.mp m with m | m
        · rw [List.mem_singleton.mp m, hp] at e; cases e
        · exact hb m
    cases dk with
    | k kvs h e2 rp =>
      obtain ⟨z, hd, vs, rel, dd⟩ := dk_rd I.hok h
      exact fin kvs vs hd z rel dd e2 rp
    | t es h rp kk r2 =>
      obtain ⟨rfl, rfl⟩ := flat_tups rp hf
      cases r2
      obtain ⟨z, hd, xs, pr, dh⟩ := tab_at I (vis_sub Z L H) h rp kk
      cases pr
      obtain ⟨ob, en, ep, g1, g2, g3, g4, g5, g6⟩ := dh
      have en0 : en = #[] := by
        have : en.toList = [] := g4
        simpa using this
      subst en0
      exact fin [] [] hd (Nat.zero_le _) .nil ⟨ob, #[], ep, g1, g2, g3, (fun e h => by simp at h), .nil, List.nodup_nil⟩ rfl .nil
    | w kvs h e2 rp =>
      obtain ⟨hd, hz, hnd, es, n, hl, hlit, pr⟩ := h
      have gen : ∀ {kvs : List (Str × V)} {l : List DictEntry}, Paired (fun (p : Str × V) (e : DictEntry) => (∃ t, e.key = .str p.1 t) ∧ RelV p.2 e.val) kvs l → Pairs (mixKind X.prog X.w) l (List.zipWith (fun (p : Str × V) (e : DictEntry) => ((Sum.inr p.1 : Key), e.val)) kvs l) ∧
          KV (kvs.map fun p => ((Sum.inr p.1 : Key), p.2)) (List.zipWith (fun (p : Str × V) (e : DictEntry) => ((Sum.inr p.1 : Key), e.val)) kvs l) ∧ (List.zipWith (fun (p : Str × V) (e : DictEntry) => ((Sum.inr p.1 : Key), e.val)) kvs l).map (·.1) = kvs.map fun p => (Sum.inr p.1 : Key) := by
        intro kvs l pr
        induction pr with
        | nil => exact ⟨.nil, .nil, rfl⟩
        | cons h t ih =>
          obtain ⟨⟨tk, hk⟩, hv⟩ := h
          exact ⟨.cons (by rw [hk]; exact mixKind_str X.prog X.w _ tk) rfl ih.1, .cons ⟨rfl, hv⟩ ih.2.1, by rw [List.zipWith_cons_cons, List.map_cons, List.map_cons, ih.2.2]⟩
      obtain ⟨p1, p2, p3⟩ := gen pr
      refine fin (kvs.map fun p => (Sum.inr p.1, p.2)) _ hd (by rw [List.length_map]; exact hz) p2 ⟨_, es, n, I.kIn a _ hl, ⟨rfl, rfl, rfl⟩, rfl, fun e he => ?_, p1, ?_⟩ (by rw [e2, List.map_map]; rfl) (by rw [List.map_map]; exact rp)
      · obtain ⟨x, t, e1, e2⟩ := hlit.all e (Array.mem_toList_iff.mpr he)
        exact ⟨.inr x, by rw [e1]; exact mixKind_str X.prog X.w x t, e2⟩
      · rw [p3]
        have : (kvs.map fun p => (Sum.inr p.1 : Key)) = (kvs.map (·.1)).map Sum.inr := by rw [List.map_map]; rfl
        rw [this]
        exact List.Pairwise.map _ (fun a b h z => h (Sum.inr.inj z)) hnd
  · cases e
end
end Dv

set_option Elab.async false
set_option linter.all false
set_option maxRecDepth 100000
set_option maxHeartbeats 4000000
/-! what is walked; comprehensions -/
namespace Dv
open PySem PySem.Spec PyProof.Rows L2

section
variable {R : RC} {Z : Addr → Prop} {H₀ H H' : Hp} {L : List Addr} {os P : List (Option V)} {ss PS : List SV} {σ : L2.St} {α : AEnv} {i : Nat}
/-- an entry is taken to the front -/
theorem Rl.take (r : Rl R Z H₀ H os ss) (hl : os.length = ss.length) (i : Nat) : Rl R Z H₀ H (os.getD i none :: os.set i none) (ss.getD i .un :: ss.set i .un) := by
  obtain ⟨L, r⟩ := r
  by_cases hi : i < ss.length
  · obtain ⟨o, l, m, q, e1, e2, e3, f⟩ := r.ents.at (i := i) (s := ss[i]) (List.getElem?_eq_getElem hi)
    have h1 : os.getD i none = o := by rw [List.getD_eq_getElem?_getD, e2]; rfl
    have h2 : ss.getD i .un = ss[i] := by rw [List.getD_eq_getElem?_getD, List.getElem?_eq_getElem hi]; rfl
    rw [h1, h2]
    have z := f (V₁ := vis Z L H) (H' := H) (o' := none) (s' := .un) (m' := []) (Dv.Sub.refl _) (fun _ _ _ h => h) (.un _)
    have y := Ents.cons e3 z
    refine ⟨_, r.perm ?_ y⟩
    rw [e1]
    have p : (l ++ m).Perm (m ++ l) := List.perm_append_comm
    simpa [List.append_assoc] using p.append_right q
  · have h1 : os.getD i none = none := by rw [List.getD_eq_getElem?_getD, List.getElem?_eq_none (by omega)]; rfl
    have h2 : ss.getD i .un = .un := by rw [List.getD_eq_getElem?_getD, List.getElem?_eq_none (by omega)]; rfl
    rw [h1, h2, List.set_eq_of_length_le (by omega), List.set_eq_of_length_le (by omega)]
    exact ⟨L, .of (.cons (as := []) (.un _) r.ents) r⟩
theorem Rl.put' {o : Option V} {s : SV} (r : Rl R Z H₀ H (o :: os) (s :: ss)) (hl : os.length = ss.length) (i : Nat) : Rl R Z H₀ H (os.set i o) (ss.set i s) := by
  by_cases hi : i < ss.length
  · exact Rl.set r hi
  · rw [List.set_eq_of_length_le (by omega), List.set_eq_of_length_le (by omega)]
    exact Rl.drop r
theorem wipeA_len (α : AEnv) : ∀ vs : List Nat, (wipeA α vs).length = α.length
  | [] => rfl
  | v :: vs => by unfold wipeA; rw [List.length_set, wipeA_len α vs]
theorem wipeA_out {i : Nat} : ∀ {vs : List Nat}, i ∉ vs → (wipeA α vs)[i]? = α[i]?
  | [], _ => rfl
  | v :: vs, h => by
    have h1 : v ≠ i := fun e => h (by rw [e]; exact List.mem_cons_self)
    unfold wipeA
    rw [List.getElem?_set_ne h1]
    exact wipeA_out fun m => h (List.mem_cons_of_mem _ m)
theorem wipe_in {i : Nat} : ∀ {vs : List Nat}, i ∈ vs → i < σ.length → (L2.wipe σ vs)[i]? = some none
  | v :: vs, h, hi => by
    unfold wipe
    by_cases e : v = i
    · subst e
      rw [List.getElem?_set_self (by rw [wipe_length]; exact hi)]
    · rw [List.getElem?_set_ne e]
      exact wipe_in ((List.mem_cons.mp h).resolve_left fun z => e z.symm) hi
theorem wipe_ext {σ τ : L2.St} {vs : List Nat} (hl : σ.length = τ.length) (h : ∀ i, i ∉ vs → σ[i]? = τ[i]?) : L2.wipe σ vs = L2.wipe τ vs := by
  refine List.ext_getElem? fun i => ?_
  by_cases m : i ∈ vs
  · by_cases hi : i < σ.length
    · rw [wipe_in m hi, wipe_in m (by omega)]
    · rw [List.getElem?_eq_none (by rw [wipe_length]; omega), List.getElem?_eq_none (by rw [wipe_length]; omega)]
  · rw [wipe_out m, wipe_out m, h i m]
theorem wipe_wipe (vs : List Nat) : L2.wipe (L2.wipe σ vs) vs = L2.wipe σ vs := wipe_ext (wipe_length σ vs) fun i m => wipe_out m
theorem Rl.wipeAll (r : Rl R Z H₀ H (P ++ σ) (PS ++ α)) (hp : P.length = PS.length) : ∀ vs : List Nat, Rl R Z H₀ H (P ++ L2.wipe σ vs) (PS ++ wipeA α vs)
  | [] => r
  | v :: vs => by
    have ih := Rl.wipeAll r hp vs
    have hlen : (P ++ L2.wipe σ vs).length = (PS ++ wipeA α vs).length := by obtain ⟨_, q⟩ := ih; exact q.ents.length
    have z := Rl.take ih hlen (PS.length + v)
    have y := Rl.drop z
    have e1 : (P ++ L2.wipe σ vs).set (PS.length + v) none = P ++ L2.wipe σ (v :: vs) := by
      rw [← hp, List.set_append, if_neg (by omega), Nat.add_sub_cancel_left]; rfl
    have e2 : (PS ++ wipeA α vs).set (PS.length + v) .un = PS ++ wipeA α (v :: vs) := by
      rw [List.set_append, if_neg (by omega), Nat.add_sub_cancel_left]; rfl
    rw [e1, e2] at y
    exact y
theorem Rl.stash (r : Rl R Z H₀ H (P ++ σ) (PS ++ α)) (hp : P.length = PS.length) : ∀ vs : List Nat, vs.Nodup → Rl R Z H₀ H (vs.map (fun i => σ.getD i none) ++ (P ++ L2.wipe σ vs)) (stash α vs ++ (PS ++ wipeA α vs))
  | [], _ => r
  | v :: vs, hn => by
    obtain ⟨hv, hn⟩ := List.nodup_cons.mp hn
    have ih := Rl.stash r hp vs hn
    have hlen : (vs.map (fun i => σ.getD i none) ++ (P ++ L2.wipe σ vs)).length = (Dv.stash α vs ++ (PS ++ wipeA α vs)).length := by obtain ⟨_, q⟩ := ih; exact q.ents.length
    have hst : (Dv.stash α vs).length = vs.length := by unfold Dv.stash; rw [List.length_map]
    have z := Rl.take ih hlen (vs.length + (PS.length + v))
    have g1 : (vs.map (fun i => σ.getD i none) ++ (P ++ L2.wipe σ vs)).getD (vs.length + (PS.length + v)) none = σ.getD v none := by
      rw [List.getD_eq_getElem?_getD, List.getElem?_append_right (by simp), List.getElem?_append_right (by simp; omega)]
      rw [List.length_map, Nat.add_sub_cancel_left, ← hp, Nat.add_sub_cancel_left, wipe_out hv, ← List.getD_eq_getElem?_getD]
    have g2 : (Dv.stash α vs ++ (PS ++ wipeA α vs)).getD (vs.length + (PS.length + v)) .un = α.getD v .un := by
      rw [List.getD_eq_getElem?_getD, List.getElem?_append_right (by rw [hst]; simp), List.getElem?_append_right (by rw [hst]; omega)]
      rw [hst, Nat.add_sub_cancel_left, Nat.add_sub_cancel_left, wipeA_out hv, ← List.getD_eq_getElem?_getD]
    have e1 : (vs.map (fun i => σ.getD i none) ++ (P ++ L2.wipe σ vs)).set (vs.length + (PS.length + v)) none = vs.map (fun i => σ.getD i none) ++ (P ++ L2.wipe σ (v :: vs)) := by
      rw [List.set_append, if_neg (by simp), List.length_map, Nat.add_sub_cancel_left, ← hp, List.set_append, if_neg (by omega), Nat.add_sub_cancel_left]; rfl
    have e2 : (Dv.stash α vs ++ (PS ++ wipeA α vs)).set (vs.length + (PS.length + v)) .un = Dv.stash α vs ++ (PS ++ wipeA α (v :: vs)) := by
      rw [List.set_append, if_neg (by rw [hst]; omega), hst, Nat.add_sub_cancel_left, List.set_append, if_neg (by omega), Nat.add_sub_cancel_left]; rfl
    rw [g1, g2, e1, e2] at z
    exact z
def backO (τ : L2.St) : List Nat → List (Option V) → L2.St
  | i :: is, o :: os => backO (τ.set i o) is os
  | _, _ => τ
theorem backO_eq {σ : L2.St} : ∀ {vs : List Nat} {τ : L2.St}, τ.length = σ.length → (∀ i, i ∉ vs → τ[i]? = σ[i]?) → backO τ vs (vs.map fun i => σ.getD i none) = σ
  | [], τ, hl, h => List.ext_getElem? fun i => h i (by simp)
  | v :: vs, τ, hl, h => by
    rw [List.map_cons, backO]
    refine backO_eq (by rw [List.length_set]; exact hl) fun i m => ?_
    by_cases e : v = i
    · subst e
      by_cases hv : v < σ.length
      · rw [List.getElem?_set_self (by omega), List.getD_eq_getElem?_getD, List.getElem?_eq_getElem hv]; rfl
      · rw [List.getElem?_eq_none (by rw [List.length_set]; omega), List.getElem?_eq_none (by omega)]
    · rw [List.getElem?_set_ne e]
      exact h i fun z => (List.mem_cons.mp z).elim (fun z => e z.symm) m
theorem Rl.back : ∀ {vs : List Nat} {cs : List (Option V)} {es : List SV} {τ : L2.St} {β : AEnv}, cs.length = vs.length → es.length = vs.length → P.length = PS.length → Rl R Z H₀ H (cs ++ (P ++ τ)) (es ++ (PS ++ β)) → Rl R Z H₀ H (P ++ backO τ vs cs) (PS ++ backA β vs es)
  | [], [], [], τ, β, _, _, _, r => r
  | [], _ :: _, _, _, _, h, _, _, _ => by cases h
  | [], [], _ :: _, _, _, _, h, _, _ => by cases h
  | _ :: _, [], _, _, _, h, _, _, _ => by cases h
  | _ :: _, _ :: _, [], _, _, _, h, _, _ => by cases h
  | v :: vs, c :: cs, e :: es, τ, β, h1, h2, hp, r => by
    have h1' : cs.length = vs.length := by simpa using h1
    have h2' : es.length = vs.length := by simpa using h2
    have hlen : (cs ++ (P ++ τ)).length = (es ++ (PS ++ β)).length := by
      obtain ⟨_, q⟩ := r
      have := q.ents.length
      simpa using this
    have z := Rl.put' (os := cs ++ (P ++ τ)) (ss := es ++ (PS ++ β)) r hlen (vs.length + (PS.length + v))
    have e1 : (cs ++ (P ++ τ)).set (vs.length + (PS.length + v)) c = cs ++ (P ++ τ.set v c) := by
      rw [List.set_append, if_neg (by omega), h1', Nat.add_sub_cancel_left, ← hp, List.set_append, if_neg (by omega), Nat.add_sub_cancel_left]
    have e2 : (es ++ (PS ++ β)).set (vs.length + (PS.length + v)) e = es ++ (PS ++ β.set v e) := by
      rw [List.set_append, if_neg (by omega), h2', Nat.add_sub_cancel_left, List.set_append, if_neg (by omega), Nat.add_sub_cancel_left]
    rw [e1, e2] at z
    exact Rl.back (vs := vs) (cs := cs) (es := es) (τ := τ.set v c) (β := β.set v e) h1' h2' hp z
end

/-! ### targets -/
abbrev tgts : Tgt → List Nat := wT
def gs : List Nat → TGs
  | [] => gNil
  | i :: is => gCons (gName i) (gs is)
def tgG (K : PySem.W.Frag) : Tgt → TG
  | .nm i => gName i
  | .tp is => gTup K is.length (gs is)
section
variable {R : RC} {Z : Addr → Prop} {H₀ H H' : Hp} {L : List Addr} {P : List (Option V)} {PS : List SV} {σ : L2.St} {α β : AEnv}
theorem RlO.slotV (r : RlO R Z H₀ H L (P ++ σ) (PS ++ α)) (hp : P.length = PS.length) {x : V} {d : D} (rx : Rep R (vis Z L H) x d) (i : Nat) : ∃ L', (∀ b ∈ L', b ∈ L) ∧ RlO R Z H₀ H L' (P ++ σ.set i (some x)) (PS ++ α.set i (.v d)) := by
  have hlen := r.ents.length
  rw [List.length_append, List.length_append] at hlen
  by_cases hi : i < α.length
  · have e1 : (P ++ σ).set (PS.length + i) (some x) = P ++ σ.set i (some x) := by rw [← hp, List.set_append, if_neg (by omega), Nat.add_sub_cancel_left]
    have e2 : (PS ++ α).set (PS.length + i) (.v d) = PS ++ α.set i (.v d) := by rw [List.set_append, if_neg (by omega), Nat.add_sub_cancel_left]
    obtain ⟨o, l, m, q, g1, g2, g3, f⟩ := r.ents.at (i := PS.length + i) (s := α[i]) (by rw [List.getElem?_append_right (by omega)]; simp [hi])
    have mem : ∀ b, b ∈ l ++ [] ++ q → b ∈ L := fun b hb => by
      rw [g1]
      simp only [List.append_nil, List.mem_append] at hb ⊢
      rcases hb with hb | hb
      · exact .inl (.inl hb)
      · exact .inr hb
    have sb : Sub (vis Z L H) (vis Z (l ++ [] ++ q) H) := vis_mono fun b o _ hb e => ⟨fun z => hb (mem b z), e⟩
    refine ⟨l ++ [] ++ q, mem, ?_⟩
    have z := f (V₁ := vis Z (l ++ [] ++ q) H) (H' := H) (o' := some x) (s' := .v d) (m' := []) sb (fun _ _ _ h => h) (.v (rx.mono sb))
    rw [e1, e2] at z
    refine ⟨z, ?_, fun a ha => r.fresh a (mem a ha), r.same, r.zd⟩
    have nd := r.nd
    rw [g1] at nd
    rw [List.append_nil]
    exact nd.sublist ((List.sublist_append_left l m).append_right q)
  · rw [List.set_eq_of_length_le (by omega), List.set_eq_of_length_le (by omega)]
    exact ⟨L, fun _ h => h, r⟩
theorem gs_use {Q : L2.St → Hp → Prop} (hp : P.length = PS.length) : ∀ {is : List Nat} {ds : List D} {xs : List V} {σ : L2.St} {α β : AEnv} {L : List Addr}, asg.go is ds α = .ok β → RlO R Z H₀ H L (P ++ σ) (PS ++ α) → Reps R (vis Z L H) xs ds →
    (∀ σ', σ'.length = σ.length → (∀ j, j ∉ is → σ'[j]? = σ[j]?) → Rl R Z H₀ H (P ++ σ') (PS ++ β) → Q σ' H) → gs is xs σ H Q
  | [], [], xs, σ, α, β, L, e, r, q, k => by
    rw [asg.go] at e
    cases e
    cases q
    exact ⟨rfl, k σ rfl (fun _ _ => rfl) ⟨L, r⟩⟩
  | [], _ :: _, _, _, _, _, _, e, _, _, _ => by simp [asg.go] at e
  | _ :: _, [], _, _, _, _, _, e, _, _, _ => by simp [asg.go] at e
  | i :: is, d :: ds, xs, σ, α, β, L, e, r, q, k => by
    rw [asg.go] at e
    obtain ⟨c, e⟩ := ite_ok e
    cases q with
    | cons q1 q2 =>
      obtain ⟨L1, hL, r1⟩ := r.slotV hp q1 i
      refine ⟨_, _, rfl, ?_⟩
      show gs is _ (σ.set i (some _)) H Q
      refine gs_use hp e r1 (q2.mono (vis_mono fun b o _ hb e => ⟨fun z => hb (hL b z), e⟩)) fun σ' h1 h2 h3 => k σ' (by rw [h1, List.length_set]) (fun j hj => ?_) h3
      rw [h2 j fun m => hj (List.mem_cons_of_mem _ m), List.getElem?_set_ne fun z => hj (by rw [z]; exact List.mem_cons_self)]
theorem asg_use {Q : L2.St → Hp → Prop} (hp : P.length = PS.length) {t : Tgt} {d : D} {x : V} (e : asg t d α = .ok β) (r : RlO R Z H₀ H L (P ++ σ) (PS ++ α)) (rx : Rep R (vis Z L H) x d)
    (k : ∀ σ', σ'.length = σ.length → (∀ j, j ∉ tgts t → σ'[j]? = σ[j]?) → Rl R Z H₀ H (P ++ σ') (PS ++ β) → Q σ' H) : tgG R.K t x σ H Q := by
  cases t with
  | nm i =>
    rw [asg] at e
    obtain ⟨c, e⟩ := ite_ok e
    cases e
    obtain ⟨L1, _, r1⟩ := r.slotV hp rx i
    exact k _ List.length_set (fun j hj => by rw [List.getElem?_set_ne fun z => hj (by rw [z]; exact List.mem_singleton.mpr rfl)]) ⟨L1, r1⟩
  | tp is =>
    cases d with
    | tup ds =>
      have e : asg.go is ds α = .ok β := e
      cases rx with
      | @tup a xs _ q rp =>
        refine ⟨a, xs, rfl, (vis_sub Z L H).sqT q, ?_, gs_use hp e r rp k⟩
        have go_len : ∀ {is : List Nat} {ds : List D} {α β : AEnv}, asg.go is ds α = .ok β → is.length = ds.length := by
          intro is
          induction is with
          | nil => intro ds α β e; cases ds with
            | nil => rfl
            | cons _ _ => simp [asg.go] at e
          | cons i is ih => intro ds α β e; cases ds with
            | nil => simp [asg.go] at e
            | cons d ds =>
              rw [asg.go] at e
              obtain ⟨_, e⟩ := ite_ok e
              rw [List.length_cons, List.length_cons, ih e]
        rw [rp.length, go_len e]
    | _ => cases e
end
end Dv

set_option Elab.async false
set_option linter.all false
set_option maxRecDepth 100000
set_option maxHeartbeats 4000000
/-! set comprehensions of keys (the kit has them for truth values alone: HandS.SetBool; sck_core turns that proof to SetK) -/
namespace Dv
open PySem PySem.Spec PyProof.Rows L2 PpSet
section
variable {X : Cx}
theorem setk_fresh {h : Heap} {w : World} {P : Program} : (h.push { cls := .type "set", dict := none, data := .set #[] 0 (.fresh 0 0 (!w.params.followText "set-order")) }).SetOf (mixKind P w) h.objs.size (fun _ => false) 0 :=
  ⟨_, #[], 0, _, Heap.get?_push_size _ rfl, ⟨rfl, rfl, rfl⟩, rfl, (fun e he => by simp at he), (fun k => by simp), (by decide), (by rfl), rfl⟩
theorem addk_ok {pins : List (Addr × Obj)} {σ : L2.St} {H : Hp} {s : Shared} {E : Value → Shared → Prop} {b : Addr} {S : Key → Bool} {n : Nat} {k : Key} {u : Value} {Q : Value → Shared → Prop} (I : Inv X pins σ H s) (ru : RelV (kV k) u) (hb : H b = some (SetK X.prog X.w b S n)) (room : n + 1 < scanBound)
    (h : ∀ s', Inv X pins σ (upd H b (SetK X.prog X.w b (fun j => S j || decide (j = k)) (if S k = true then n else n + 1))) s' → Q .none s') : wpAny (model X.prog X.w) X.A (call (.builtin "set.add") [.ref b, u]) Q E s := by
  refine call_set_add (kV_is ru) (key_scan ru) (setK_get I hb) room fun h' sb new => ?_
  have old : ∃ v, h'.get? b = some v := by
    have ⟨o, _, _, _, ho, _⟩ := new
    exact ⟨o, ho⟩
  exact h _ (I.write (e := b) (t' := s.toks + 1) (by rw [hb]; trivial) (.inl rfl) (fun c v hc hv => (sb.2 c hc).trans hv) old (setK_new new))
theorem cr_lenK : CallR X (.builtin "len") (fun xs H Q => ∃ b S n, xs = [V.ref b] ∧ H b = some (SetK X.prog X.w b S n) ∧ Q (.int n) H) := by
  intro pins s σ H xs us Q I r h
  obtain ⟨b, S, n, rfl, hb, q⟩ := h
  cases r with
  | cons r1 rt =>
    cases rt
    cases r1
    obtain ⟨o, es, ep, t, ho, hex, hd, _, _, hlt, hf, rfl⟩ := setK_get I hb
    exact call_len_set ho hex hd hf (by have : scanBound < 2 ^ 63 := by decide
                                        omega) ⟨.int _, H, I.tok _, ⟨_, rfl⟩, q⟩
/-- the turns of a set comprehension, its members keys -/
def tScK (P : Program) (w : World) (wi : TI) (g : TG) (tt : TT) (te : TE) (vs : List Nat) : TE := fun σ H Q => wi σ H fun J H1 => ∀ D, H1 D = none → ∃ W : Nat → Nat → Hp → Prop, (∃ m, W 0 m (upd H1 D (SetK P w D (fun _ => false) 0))) ∧ ∀ i m H, W i m H →
  (J.stop i H ∧ Q (.ref D) H) ∨ (J.go i H ∧ ∃ Nx : Hp → Prop, (∀ H', Nx H' → ∃ m', m' < m ∧ W (i + 1) m' H') ∧ ∀ x H', J.yld i H x H' → g x (L2.wipe σ vs) H' fun σ2 H2 => L2.wipe σ2 vs = L2.wipe σ vs ∧ tt σ2 H2 fun b H3 =>
    if b = true then te σ2 H3 fun y H4 => ∃ (k : Key) (S : Key → Bool) (n : Nat), y = kV k ∧ H4 D = some (SetK P w D S n) ∧ n + 1 < scanBound ∧ Nx (upd H4 D (SetK P w D (fun j => S j || decide (j = k)) (if S k = true then n else n + 1))) else Nx H3)
theorem sck_core {ps : List (Addr × Obj)} {s : Shared} {σ : L2.St} {H : Hp} {Q : VK} {el tgt iter : Expr} {ifs : List Expr} {sco : Scope} {ow : List (PySem.Str × Nat)} {pos pos' : Pos} {wi : TI} {g : TG} {tt : TT} {te : TE} {us : Option (Value → Sem Unit)} {Qf : Value → Shared → Prop}
    (calm : X.calm = true) (nod : X.N.Nodup) (I : Inv X ps σ H s) (pit : PI X tgt iter wi) (bok : BlkOk X.N X.env.scope sco ow)
    (pgs : ∀ (s : Shared) (H : Hp) (C : Addr) (cl : List (PySem.Str × Addr)) (fp : List Addr), PG (X.blk s H sco (compEnvC sco cl C X.env) fp) tgt g) (pts : ∀ (s : Shared) (H : Hp) (C : Addr) (cl : List (PySem.Str × Addr)) (fp : List Addr), PTs (X.blk s H sco (compEnvC sco cl C X.env) fp) ifs tt)
    (pel : ∀ (s : Shared) (H : Hp) (C : Addr) (cl : List (PySem.Str × Addr)) (fp : List Addr), PE (X.blk s H sco (compEnvC sco cl C X.env) fp) el te) (nofold : ∀ x, foldedSetIterable iter X.env x = pure x)
    (h : tScK X.prog X.w wi g tt te (ow.map (·.2)) σ H Q)
    (post : ∀ D C s' m H', Inv X ps σ H' s' → Q (.ref D) H' → s'.heap.Ns C m → FpOk X ps H' C → compPost (model X.prog X.w) X.A X.xe us Qf (.ref D) C (.ok .next) s') :
    wpAny (model X.prog X.w) X.A (comprehension (.SetComp el [⟨tgt, iter, ifs, 0⟩] sco pos) sco X.env pos' (newSet (.type "set")) false (eval iter X.env) us) Qf X.xe s := by
  have frees : ∀ y ∈ sco.names, y.2 = .free → ∃ c, X.env.cells.lookup y.1 = some c := fun y hy e => by
    rcases bok.free y hy e with k | k
    · exact I.ok.has _ (.inl k)
    · exact I.ok.has _ (.inr k)
  refine wpAny_comprehension_free (use := us) rfl nofold (closure_ok frees) bok.kind (fun y hy e => by rw [bok.uniq y hy, e])
    (thn (pit.run ps s σ H _ I h) fun xv s1 hx => thn hx fun itv t2 hh2 => ?_)
  obtain ⟨it, fp, tn, J, J2, e, V2, T, tn2, ff2, q⟩ := hh2
  subst e
  refine newSet_ok (newEnv_comp ?_)
  generalize hD : t2.heap.objs.size = D
  have hDn : J2 D = none := V2.hok.fresh (Nat.le_of_eq hD)
  obtain ⟨W, ⟨m0, ww0⟩, tur⟩ := q D hDn
  -- the new list
  generalize hs3 : ({ t2 with heap := t2.heap.push { cls := .type "set", dict := none, data := .set #[] 0 (.fresh 0 0 (!X.w.params.followText "set-order")) } } : Shared) = t3
  have V3 : Inv X ps σ (upd J2 D (SetK X.prog X.w D (fun _ => false) 0)) t3 := by
    rw [← hs3]
    refine V2.laid (t' := t2.toks) (fun b o e => Heap.get?_push_of_some _ e) (Nat.le_of_eq hD) ?_
    rw [← hD]
    exact setK_new setk_fresh
  have h3 : t3.heap = t2.heap.push { cls := .type "set", dict := none, data := .set #[] 0 (.fresh 0 0 (!X.w.params.followText "set-order")) } := by rw [← hs3]
  have low : ∀ b ∈ fp, b < t2.heap.objs.size := fun b hb => by
    obtain ⟨o, e, _⟩ := T.obj _ _ tn2 b hb
    exact Heap.lt_size e
  have ff3 : ∀ b ∈ fp, FpOk X ps (upd J2 D (SetK X.prog X.w D (fun _ => false) 0)) b ∧ b < t3.heap.objs.size := fun b hb => by
    have hlt := low b hb
    refine ⟨⟨?_, (ff2 b hb).2⟩, by rw [h3, Heap.size_push]; exact Nat.lt_succ_of_lt hlt⟩
    rw [upd_ne (by rw [← hD]; exact Nat.ne_of_lt hlt)]
    exact (ff2 b hb).1
  have tn3 : tn 0 t3.heap := T.keep _ _ _ tn2 fun b _ o e => by rw [h3]; exact Heap.get?_push_of_some _ e
  have V4 := block_start V3 bok nod ff3
  have pg := pgs t3 (upd J2 D (SetK X.prog X.w D (fun _ => false) 0)) t3.heap.objs.size (cellsFrom (t3.heap.objs.size + 1) sco.names (cloFrom X.env.cells sco.names [])) fp
  have pt := pts t3 (upd J2 D (SetK X.prog X.w D (fun _ => false) 0)) t3.heap.objs.size (cellsFrom (t3.heap.objs.size + 1) sco.names (cloFrom X.env.cells sco.names [])) fp
  have pe := pel t3 (upd J2 D (SetK X.prog X.w D (fun _ => false) 0)) t3.heap.objs.size (cellsFrom (t3.heap.objs.size + 1) sco.names (cloFrom X.env.cells sco.names [])) fp
  show codeAny _ _ (.compStart (.SetComp el [⟨tgt, iter, ifs, 0⟩] sco pos) 0 (.ref it) (.ref D) (compEnvC sco (cellsFrom (t3.heap.objs.size + 1) sco.names (cloFrom X.env.cells sco.names [])) t3.heap.objs.size X.env)) (compPost (model X.prog X.w) X.A X.xe us Qf (.ref D) t3.heap.objs.size) { t3 with heap := pushCells (t3.heap.push { cls := .type "dict", data := .dict #[] }) sco.names }
  have nof : ∀ b ∈ fp, (upd J2 D (SetK X.prog X.w D (fun _ => false) 0)) b = none := fun b hb => (ff3 b hb).1.1
  generalize hce : compEnvC sco (cellsFrom (t3.heap.objs.size + 1) sco.names (cloFrom X.env.cells sco.names [])) t3.heap.objs.size X.env = ce at V4 pg pt pe ⊢
  have eL : ce.locals = t3.heap.objs.size := by subst hce; rfl
  generalize hH3 : upd J2 D (SetK X.prog X.w D (fun _ => false) 0) = J3 at V3 V4 pg pt pe ww0 nof ff3
  generalize hs4 : ({ t3 with heap := pushCells (t3.heap.push { cls := .type "dict", data := .dict #[] }) sco.names } : Shared) = t4 at V4 ⊢
  have tn4 : tn 0 t4.heap := T.keep _ _ _ tn3 fun b _ o e => by rw [← hs4]; exact pushCells_keeps _ _ _ _ (Heap.get?_push_of_some _ e)
  have still : ∀ {σ' : L2.St} {H' : Hp} {s' : Shared}, Inv (X.blk t3 J3 sco ce fp) [] σ' H' s' → (∀ b ∈ fp, H' b = none) → ∀ b ∈ fp, FpOk (X.blk t3 J3 sco ce fp) [] H' b := fun {σ' H' s'} I' hn b hb =>
    ⟨hn b hb, (I'.ok.exf b hb).1, I'.ok.exfs b hb, .inl hb, fun x c e => (I'.ok.exf b hb).2 x c e, fun p hp => absurd (show p ∈ ([] : List (Addr × Obj)) ++ [] from hp) (by simp)⟩
  have whole : codeAny (model X.prog X.w) X.A (.compLoop (.SetComp el [⟨tgt, iter, ifs, 0⟩] sco pos) 0 (.ref it) (.ref D) ce) (compPost (model X.prog X.w) X.A X.xe us Qf (.ref D) t3.heap.objs.size) t4 := by
    refine compLoopS_any (fun n s' => ∃ i H', Inv (X.blk t3 J3 sco ce fp) [] (L2.wipe σ (ow.map (·.2))) H' s' ∧ tn i s'.heap ∧ (∀ b ∈ fp, H' b = none) ∧ W i n H') ?_ m0 ⟨0, J3, V4, tn4, nof, ww0⟩
    rintro n t5 ⟨i, J5, V5, tn5, nn5, ww5⟩
    rcases tur i n J5 ww5 with ⟨stop, qq⟩ | ⟨go, Nx, hNx, stp⟩
    · have td := T.done (X.blk t3 J3 sco ce fp) rfl rfl rfl calm i [] t5 _ J5 (fun _ _ => False) V5 (still V5 nn5) tn5 stop
      refine thnF td fun r t6 ⟨hr, V6⟩ => ?_
      subst hr
      -- back in the def's context
      have V7 : Inv X ps σ J5 t6 := V3.call' (ch := fp) V6.os V6.base V6.hok V6.bare fun b hb => ⟨(ff3 b hb).1.2.2.2.1, (ff3 b hb).1.2.1, (ff3 b hb).1.2.2.2.2.1, (ff3 b hb).1.2.2.2.2.2⟩
      have nC : J5 t3.heap.objs.size = none := by
        have z : J5 ce.locals = none := V6.free
        rw [eL] at z
        exact z
      obtain ⟨m, hn, _⟩ := V6.loc
      have hn : t6.heap.Ns ce.locals m := hn
      rw [eL] at hn
      exact post D t3.heap.objs.size t6 m J5 V7 qq hn (V3.fpOk (Nat.le_refl _) nC)
    · have ti := T.item (X.blk t3 J3 sco ce fp) rfl rfl rfl calm i [] t5 _ J5 (fun _ _ => False) V5 (still V5 nn5) tn5 go
      refine thnF ti fun r t6 ⟨u, hr, hh6⟩ => ?_
      subst hr
      refine thnF hh6 fun _ t7 ⟨x, J7, V7, w7, y7, tn7, nn7⟩ => ?_
      have I7' := V7.pinned (still V7 nn7) (T.obj _ _ tn7)
      refine thnF (pg.run _ t7 _ J7 x u _ I7' w7 (stp x J7 y7)) fun _ t8 ⟨σ8, J8, V8, hw8, qq8⟩ => ?_
      refine thnF (pt.run _ t8 σ8 J8 _ V8 qq8) fun b t9 ⟨J9, V9, qq9⟩ => ?_
      -- the turn's end
      have ends : ∀ {s' : Shared} {H' : Hp}, Inv (X.blk t3 J3 sco ce fp) ([] ++ pinsAt fp t7.heap) σ8 H' s' → Nx H' → ∃ m, m < n ∧ ∃ i H', Inv (X.blk t3 J3 sco ce fp) [] (L2.wipe σ (ow.map (·.2))) H' s' ∧ tn i s'.heap ∧ (∀ b ∈ fp, H' b = none) ∧ W i m H' := fun {s' H'} I' nx => by
        obtain ⟨m', hm, w'⟩ := hNx H' nx
        have pn : ∀ b ∈ fp, ∀ o, t7.heap.get? b = some o → s'.heap.get? b = some o ∧ H' b = none := fun b hb o e =>
          let z := I'.pin (b, o) (List.mem_append_right _ (List.mem_append_right _ (mem_pinsAt hb e)))
          ⟨z.1, z.2.1⟩
        have hl : (L2.wipe σ (ow.map (·.2))).length = σ8.length := by rw [← hw8, wipe_length]
        refine ⟨m', hm, i + 1, H', (I'.unpinned (pins := [])).weak hl (fun j v e => ?_), T.keep _ _ _ tn7 fun b hb o e => (pn b hb o e).1, fun b hb => ?_, w'⟩
        · rw [← hw8] at e
          exact (wipe_some e).1
        · obtain ⟨o, e, _⟩ := T.obj _ _ tn7 b hb
          exact (pn b hb o e).2
      cases b with
      | false =>
        simp only [Bool.false_eq_true, if_false] at qq9 ⊢
        exact ends V9 qq9
      | true =>
        simp only [if_true] at qq9 ⊢
        refine thnF (pe.run _ t9 σ8 J9 _ V9 qq9) fun z t10 ⟨yv, J10, V10, w10, cb, S0, n0, ey, hD10, hz10, nx⟩ => ?_
        subst ey
        exact addk_ok (X := X.blk t3 J3 sco ce fp) V10 w10 hD10 hz10 fun t11 V11 => ends V11 nx
  exact codeAny_compStart_set whole (T.self X.A 0 _ _ _ tn4 whole)
/-- as a value -/
theorem pe_sck {el tgt iter : Expr} {ifs : List Expr} {sco : Scope} {ow : List (PySem.Str × Nat)} {pos : Pos} {wi : TI} {g : TG} {tt : TT} {te : TE} (calm : X.calm = true) (nod : X.N.Nodup) (pit : PI X tgt iter wi) (bok : BlkOk X.N X.env.scope sco ow)
    (pgs : ∀ (s : Shared) (H : Hp) (C : Addr) (cl : List (PySem.Str × Addr)) (fp : List Addr), PG (X.blk s H sco (compEnvC sco cl C X.env) fp) tgt g) (pts : ∀ (s : Shared) (H : Hp) (C : Addr) (cl : List (PySem.Str × Addr)) (fp : List Addr), PTs (X.blk s H sco (compEnvC sco cl C X.env) fp) ifs tt)
    (pel : ∀ (s : Shared) (H : Hp) (C : Addr) (cl : List (PySem.Str × Addr)) (fp : List Addr), PE (X.blk s H sco (compEnvC sco cl C X.env) fp) el te) (nofold : ∀ x, foldedSetIterable iter X.env x = pure x := by intro _; rfl) :
    PE X (.SetComp el [⟨tgt, iter, ifs, 0⟩] sco pos) (tScK X.prog X.w wi g tt te (ow.map (·.2))) := by
  refine ⟨fun ps s σ H Q I h => ?_⟩
  rw [eval_SetComp]
  refine sck_core calm nod I pit bok pgs pts pel nofold h fun D C s' m H' I' q hn f => ⟨m, hn, fun h'' sb => ?_⟩
  obtain ⟨f0, f1, ff2, ff3, f4, f5⟩ := f
  exact ⟨.ref D, H', I'.turned (t' := s'.toks) (fun b o hb e => (sb.2 b hb).trans e) f0 f1 ff3 f4 f5, rfl, q⟩
end
end Dv

set_option Elab.async false
set_option linter.all false
set_option maxRecDepth 100000
set_option maxHeartbeats 4000000
/-! iterators, list comprehensions -/
namespace Dv
open PySem PySem.Spec PyProof.Rows L2

/-- J walks ds, while the temporaries cs (holding es) are kept -/
def WalkOk (R : RC) (Z : Addr → Prop) (H₀ : Hp) (J : It) (cs : List (Option V)) (es : List SV) (ds : List D) : Prop :=
  ∀ (Z : Addr → Prop) (H₀ : Hp) (i : Nat) (H : Hp) (os : List (Option V)) (ss : List SV), Rl R Z H₀ H (cs ++ os) (es ++ ss) →
    (∀ d, ds[i]? = some d → J.go i H ∧ ∀ x H', J.yld i H x H' → ∃ L, RlO R Z H₀ H' L (cs ++ os) (es ++ ss) ∧ Rep R (vis Z L H') x d) ∧ (ds.length ≤ i → J.stop i H)
def liftI (X : Cx) (G : GEnv) (c : CI) : TI := fun σ H R => ∃ Z H₀ tvs ts α, Sit (rc X) Z H₀ H tvs σ ts α ∧ ∃ ds α', denI G c α = .ok (ds, α') ∧
  ∀ J H1 cs es, cs.length = es.length → Rl (rc X) Z H₀ H1 (cs ++ (tvs ++ σ)) (es ++ (ts ++ α')) → WalkOk (rc X) Z H₀ J cs es ds → R J H1

section
variable {X : Cx} {G : GEnv} {p pos : Pos} {tg a b e : Expr} {es : List Expr} {ca cb cc : CE}
/-! ### a value that is walked: a list, a tuple, a text -/
def iSeq (K : PySem.W.Frag) (te : TE) : TI := fun σ H R => te σ H fun x H1 => (∃ a, x = .ref a ∧ (∃ xs, SqL K H1 a xs) ∧ R (Itl K a) H1) ∨ (∃ a, x = .ref a ∧ (∃ xs, SqT K H1 a xs) ∧ R (Itt K a) H1) ∨ ∃ y, x = .str y ∧ R (Its y) H1
theorem pi_seq {te : TE} (he : PE X e te) : PI X tg e (iSeq X.K te) := by
  refine ⟨fun pins s σ H R I h => thn (he.run pins s σ H _ I h) fun v s1 ⟨x, H1, I1, r1, q1⟩ => ?_⟩
  rcases q1 with ⟨a, rfl, ⟨xs, hq⟩, q⟩ | ⟨a, rfl, ⟨xs, hq⟩, q⟩ | ⟨y, rfl, q⟩
  · obtain rfl : v = Value.ref a := r1
    obtain ⟨its, _, pl, _⟩ := I1.list hq
    exact wpAny_pyIter_list pl.isList (pi_one (tk := s1.toks) I1 _ (turn_list a _) ⟨_, Heap.get?_push_size _ rfl, rfl, rfl⟩ q)
  · obtain rfl : v = Value.ref a := r1
    obtain ⟨its, _, pl, _⟩ := I1.tuple hq
    exact wpAny_pyIter_tuple (show s1.heap.IsTuple a its.toArray from pl) (pi_one (tk := s1.toks) I1 _ (turn_tuple a _) ⟨_, Heap.get?_push_size _ rfl, rfl, rfl⟩ q)
  · obtain ⟨t, rfl⟩ := r1
    cases hy : y.cps.all (· < 128)
    · exact wpAny_pyIter_wide hy (pi_one (tk := s1.toks) I1 _ (turn_str _ y t "str_iterator" (.inr rfl)) ⟨_, Heap.get?_push_size _ rfl, rfl, rfl⟩ q)
    · exact wpAny_pyIter_ascii hy (pi_one (tk := s1.toks) I1 _ (turn_str _ y t "str_ascii_iterator" (.inl rfl)) ⟨_, Heap.get?_push_size _ rfl, rfl, rfl⟩ q)
theorem walk_list {R : RC} {Z : Addr → Prop} {H₀ : Hp} {a : Addr} {ds : List D} : WalkOk R Z H₀ (Itl R.K a) [some (.ref a)] [.v (.lst ds)] ds := by
  intro Z H₀ i H os ss ⟨L, r⟩
  obtain ⟨y, g1, g2⟩ := r.rep (i := 0) rfl
  cases g1
  cases g2 with
  | @lst _ xs _ h rp =>
    have hs : SqL R.K H a xs := .inl ((vis_sub Z L H).rd _ _ h)
    refine ⟨fun d hd => ?_, fun hi => ⟨xs, hs, by rw [rp.length]; exact hi⟩⟩
    obtain ⟨v, hv, rv⟩ := rp.get hd
    refine ⟨⟨xs, v, hs, hv⟩, fun x H' hy => ?_⟩
    obtain ⟨rfl, hx⟩ := hy
    have := hx xs hs
    rw [hv] at this
    cases this
    exact ⟨L, r, rv⟩
theorem walk_tup {R : RC} {Z : Addr → Prop} {H₀ : Hp} {a : Addr} {ds : List D} : WalkOk R Z H₀ (Itt R.K a) [some (.ref a)] [.v (.tup ds)] ds := by
  intro Z H₀ i H os ss ⟨L, r⟩
  obtain ⟨y, g1, g2⟩ := r.rep (i := 0) rfl
  cases g1
  cases g2 with
  | @tup _ xs _ h rp =>
    have hs : SqT R.K H a xs := (vis_sub Z L H).sqT h
    refine ⟨fun d hd => ?_, fun hi => ⟨xs, hs, by rw [rp.length]; exact hi⟩⟩
    obtain ⟨v, hv, rv⟩ := rp.get hd
    refine ⟨⟨xs, v, hs, hv⟩, fun x H' hy => ?_⟩
    obtain ⟨rfl, hx⟩ := hy
    have := hx xs hs
    rw [hv] at this
    cases this
    exact ⟨L, r, rv⟩
theorem walk_str {R : RC} {Z : Addr → Prop} {H₀ : Hp} {y : Str} : WalkOk R Z H₀ (Its y) [] [] (y.cps.toList.map fun c => .str ⟨#[c]⟩) := by
  intro Z H₀ i H os ss ⟨L, r⟩
  refine ⟨fun d hd => ?_, fun hi => ?_⟩
  · rw [List.getElem?_map] at hd
    obtain ⟨c, hc, rfl⟩ := Option.map_eq_some_iff.mp hd
    rw [Array.getElem?_toList] at hc
    refine ⟨(Array.getElem?_eq_some_iff.mp hc).1, fun x H' hy => ?_⟩
    obtain ⟨rfl, c', hc', rfl⟩ := hy
    rw [hc] at hc'
    cases hc'
    exact ⟨L, r, .str _⟩
  · show y.cps.size ≤ i
    simpa using hi
theorem walk_rng {R : RC} {Z : Addr → Prop} {H₀ : Hp} {lo : Int} {n : Nat} : WalkOk R Z H₀ (Itr lo n) [] [] (rngD lo n) := by
  have gen : ∀ (n : Nat) (lo : Int), (rngD lo n).length = n ∧ ∀ (i : Nat) d, (rngD lo n)[i]? = some d → i < n ∧ d = .int (lo + i) := by
    intro n
    induction n with
    | zero => exact fun lo => ⟨rfl, fun i d h => by simp [rngD] at h⟩
    | succ n ih =>
      intro lo
      refine ⟨by rw [rngD, List.length_cons, (ih _).1], fun i d h => ?_⟩
      rw [rngD] at h
      cases i with
      | zero => simp at h; exact ⟨by omega, by rw [← h]; simp⟩
      | succ i =>
        obtain ⟨h1, h2⟩ := (ih (lo + 1)).2 i d (by simpa using h)
        exact ⟨by omega, by rw [h2]; congr 1; omega⟩
  intro Z H₀ i H os ss ⟨L, r⟩
  refine ⟨fun d hd => ?_, fun hi => ?_⟩
  · obtain ⟨h1, rfl⟩ := (gen n lo).2 i d hd
    refine ⟨h1, fun x H' hy => ?_⟩
    obtain ⟨rfl, rfl⟩ := hy
    exact ⟨L, r, .int _⟩
  · rw [(gen n lo).1] at hi
    exact hi
theorem le_seq (he : PE X e (lift X G ca)) : PI X tg e (liftI X G (.seq ca)) := by
  refine ⟨fun pins s σ H R I h => (pi_seq he).run pins s σ H R I ?_⟩
  obtain ⟨Z, H₀, tvs, ts, α, st, ds, α', e, k⟩ := h
  simp only [denI] at e
  obtain ⟨⟨r, α1⟩, e1, e⟩ := Res.bind_ok e
  refine ⟨Z, H₀, tvs, ts, α, st, r, α1, e1, fun v H1 hu rl => ?_⟩
  obtain ⟨L0, r0⟩ := rl
  obtain ⟨L, _, rr⟩ := RlO.fz0 r0 hu
  obtain ⟨y, g1, g2⟩ := rr.rep (i := 0) rfl
  have g1' : v = y := by simpa using g1
  subst g1'
  simp only at e
  split at e
  · rename_i ds' hd
    cases e
    rw [hd] at rr g2
    cases g2 with
    | @lst a xs _ h rp =>
      exact .inl ⟨a, rfl, ⟨xs, .inl ((vis_sub Z L H1).rd _ _ h)⟩, k _ H1 [some (.ref a)] [.v (.lst _)] rfl ⟨L, rr⟩ walk_list⟩
  · rename_i ds' hd
    cases e
    rw [hd] at rr g2
    cases g2 with
    | @tup a xs _ h rp =>
      exact .inr (.inl ⟨a, rfl, ⟨xs, (vis_sub Z L H1).sqT h⟩, k _ H1 [some (.ref a)] [.v (.tup _)] rfl ⟨L, rr⟩ walk_tup⟩)
  · rename_i y hd
    cases e
    rw [hd] at g2
    cases g2
    exact .inr (.inr ⟨_, rfl, k _ H1 [] [] rfl (Rl.drop ⟨L, rr⟩) walk_str⟩)
  · cases e
theorem small62_iff {i : Int} : small62 i = true ↔ -(2 ^ 62) ≤ i ∧ i < 2 ^ 62 := by unfold small62; exact decide_eq_true_iff
theorem le_rng (hg : Gl X "range") (hm : X.mg "range" = none) (ha : PE X a (lift X G ca)) (hs : starEach [a] X.env = [(false, eval a X.env)]) : PI X tg (.Call (.Name "range" p) [a] [] pos) (liftI X G (.rng ca)) := by
  refine ⟨fun pins s σ H R I h => (pi_range1 hg hm (pa_cons ha pa_nil hs) hs).run pins s σ H R I ?_⟩
  obtain ⟨Z, H₀, tvs, ts, α, st, ds, α', e, k⟩ := h
  simp only [denI] at e
  obtain ⟨⟨r, α1⟩, e1, e⟩ := Res.bind_ok e
  refine ⟨Z, H₀, tvs, ts, α, st, r, α1, e1, fun v H1 hu rl => ?_⟩
  simp only at e
  split at e
  · rename_i j
    obtain ⟨c, e⟩ := ite_ok e
    cases e
    obtain ⟨L, rr⟩ := rl
    have ix : In (rc X) Z L H1 v (.v (.int j)) := In.of rr (j := 0) rfl rfl hu
    have := ix.int
    subst this
    exact ⟨j, rfl, (small62_iff.mp c).1, (small62_iff.mp c).2, k _ H1 [] [] rfl (Rl.drop ⟨L, rr⟩) walk_rng⟩
  · cases e
theorem le_rng2 (hg : Gl X "range") (hm : X.mg "range" = none) (ha : PE X a (lift X G ca)) (hb : PE X b (lift X G cb)) (hs : starEach [a, b] X.env = [(false, eval a X.env), (false, eval b X.env)]) (hs2 : starEach [b] X.env = [(false, eval b X.env)]) : PI X tg (.Call (.Name "range" p) [a, b] [] pos) (liftI X G (.rng2 ca cb)) := by
  refine ⟨fun pins s σ H R I h => (pi_range2 hg hm (pa_cons ha (pa_cons hb pa_nil hs2) (by rw [hs, hs2])) hs hs2).run pins s σ H R I ?_⟩
  obtain ⟨Z, H₀, tvs, ts, α, st, ds, α', e, k⟩ := h
  simp only [denI] at e
  obtain ⟨⟨r, α1⟩, e1, e⟩ := Res.bind_ok e
  obtain ⟨⟨q, α2⟩, e2, e⟩ := Res.bind_ok e
  refine ⟨Z, H₀, tvs, ts, α, st, r, α1, e1, fun v H1 hu rl => ?_⟩
  refine ⟨Z, H₀, some v :: tvs, r :: ts, α1, st.push rl, q, α2, e2, fun w H2 hw rl2 => ?_⟩
  simp only at e
  split at e
  · rename_i i j _
    obtain ⟨c, e⟩ := ite_ok e
    cases e
    rw [Bool.and_eq_true] at c
    obtain ⟨L, rr⟩ := rl2
    have ix : In (rc X) Z L H2 v (.v (.int i)) := In.of rr (j := 1) rfl rfl hu
    have iy : In (rc X) Z L H2 w (.v (.int j)) := In.of rr (j := 0) rfl rfl hw
    have := ix.int
    subst this
    have := iy.int
    subst this
    exact ⟨i, j, rfl, ⟨(small62_iff.mp c.1).1, (small62_iff.mp c.1).2, (small62_iff.mp c.2).1, (small62_iff.mp c.2).2⟩, k _ H2 [] [] rfl (Rl.drop (Rl.drop ⟨L, rr⟩)) walk_rng⟩
  · cases e

/-! ### list(range(n)) -/
theorem reps_rng {R : RC} {V₀ : Hp} : ∀ (n : Nat) (lo : Int) (vs : List V), vs.length = n → (∀ (i : Nat) (v : V), vs[i]? = some v → v = V.int (lo + (i : Nat))) → Reps R V₀ vs (rngD lo n)
  | 0, _, vs, h, _ => by
    cases vs with
    | nil => exact .nil
    | cons _ _ => cases h
  | n + 1, lo, vs, h, k => by
    cases vs with
    | nil => cases h
    | cons v vs =>
      have h0 := k 0 v rfl
      rw [h0, rngD, show lo + ((0 : Nat) : Int) = lo from by simp]
      refine .cons (.int lo) (reps_rng n (lo + 1) vs (by simpa using h) fun i w hw => ?_)
      rw [k (i + 1) w (by simpa using hw)]
      congr 1
      omega
theorem le_lrng {p2 pos2 : Pos} (hc : X.calm = true) (hg : Gl X "list") (hm : X.mg "list" = none) (hg2 : Gl X "range") (hm2 : X.mg "range" = none) (ha : PE X a (lift X G ca)) (hs : starEach [a] X.env = (false, eval a X.env) :: starEach [] X.env) : PE X (.Call (.Name "list" p) [.Call (.Name "range" p2) [a] [] pos2] [] pos) (lift X G (.lrng ca)) := by
  refine PE.mono (pe_listRg hc hg hm (prg_1 hg2 hm2 ha hs) rfl) fun σ H Q q => ?_
  obtain ⟨Z, H₀, tvs, ts, α, st, r, α', e, k⟩ := q
  simp only [den] at e
  obtain ⟨⟨ra, α1⟩, e1, e⟩ := Res.bind_ok e
  refine ⟨Z, H₀, tvs, ts, α, st, ra, α1, e1, fun v H1 hu rl => ?_⟩
  simp only at e
  split at e
  · rename_i n
    obtain ⟨c, e⟩ := ite_ok e
    cases e
    obtain ⟨L, rr⟩ := rl
    have ix : In (rc X) Z L H1 v (.v (.int n)) := In.of rr (j := 0) rfl rfl hu
    have := ix.int
    subst this
    refine ⟨n, rfl, .of_le (Int.le_refl 0) c.2 (by omega) c.1, fun q hq => ?_⟩
    obtain ⟨L2, _, r2⟩ := rr.drop
    exact k _ _ (fun z => nomatch z) (r2.newL (reps_rng _ _ _ (by rw [rgV_length]; congr 1; omega) fun i w hw => by
      unfold rgV at hw
      rw [List.getElem?_map] at hw
      obtain ⟨j, hj, rfl⟩ := Option.map_eq_some_iff.mp hw
      rw [List.getElem?_range (by have := (List.getElem?_eq_some_iff.mp hj).1; simpa using this)] at hj
      cases hj
      rfl) hq)
  · cases e

/-! ### tests of a clause -/
def liftT (X : Cx) (G : GEnv) (c : CO) : TT := fun σ H Q => ∃ Z H₀ tvs ts α, Sit (rc X) Z H₀ H tvs σ ts α ∧ ∃ b α', denT G c α = .ok (b, α') ∧ ∀ H', Rl (rc X) Z H₀ H' (tvs ++ σ) (ts ++ α') → Q b H'
theorem lts_nil : PTs X [] (liftT X G .none) := ⟨fun pins s σ H Q I h => by
  obtain ⟨Z, H₀, tvs, ts, α, st, b, α', e, k⟩ := h
  rw [denT] at e
  cases e
  exact pts_nil.run pins s σ H Q I (k H st.rl)⟩
theorem lts_one {c : Expr} (h : PT X c (liftO X G ca)) : PTs X [c] (liftT X G (.some ca)) := pts_one h

/-! ### [elt for t in it if ..] -/
theorem lc_turns {turn : D → AEnv → Res (List D × AEnv)} {own : List Nat} {d : D} {ds : List D} {α : AEnv} {r : List D × AEnv} (h : lcGo turn own (d :: ds) α = .ok r) : ∃ es α1 r2, turn d α = .ok (es, α1) ∧ lcGo turn own ds (wipeA α1 own) = .ok r2 ∧ r = (es ++ r2.1, r2.2) := by
  rw [lcGo] at h
  split at h
  · rename_i es α1 h1
    obtain ⟨p, h2, rfl⟩ := map_ok h
    exact ⟨es, α1, p, h1, h2, rfl⟩
  · cases h
theorem RlO.rot {R : RC} {Z : Addr → Prop} {H₀ H : Hp} {L : List Addr} {as bs os : List (Option V)} {ts us ss : List SV} (h1 : as.length = ts.length) (h2 : bs.length = us.length) (r : RlO R Z H₀ H L (as ++ (bs ++ os)) (ts ++ (us ++ ss))) :
    ∃ L', vis Z L' H = vis Z L H ∧ RlO R Z H₀ H L' (bs ++ (as ++ os)) (us ++ (ts ++ ss)) := by
  obtain ⟨L', p, e⟩ := r.ents.rot h1 h2
  exact ⟨L', vis_congr fun b => p.symm.mem_iff, r.perm p e⟩
theorem use_lc {own : List Nat} {t : Tgt} {it : CI} {ifs : CO} {elt : CE} {σ : L2.St} {H : Hp} {Q : VK} (h : lift X G (.lc own t it ifs elt) σ H Q) (hnd : own.Nodup) (ht : ∀ i ∈ tgts t, i ∈ own) :
    tLc (liftI X G it) (tgG X.K t) (liftT X G ifs) (lift X G elt) own σ H Q := by
  obtain ⟨Z, H₀, tvs, ts, α, st, r, α', e, k⟩ := h
  simp only [den] at e
  obtain ⟨⟨xs, α1⟩, e1, e⟩ := Res.bind_ok e
  obtain ⟨⟨es, α2⟩, e2, e⟩ := Res.bind_ok e
  obtain ⟨hz, e⟩ := ite_ok e
  cases e
  refine ⟨Z, H₀, tvs, ts, α, st, xs, α1, e1, fun J H1 cs ces hcs rl wk D hD => ?_⟩
  have hsl : (Dv.stash α1 own).length = own.length := by unfold Dv.stash; rw [List.length_map]
  have hP : (cs ++ tvs).length = (ces ++ ts).length := by simp [hcs, st.len]
  have rl0 : Rl (rc X) Z H₀ H1 ((cs ++ tvs) ++ σ) ((ces ++ ts) ++ α1) := by rw [List.append_assoc, List.append_assoc]; exact rl
  have rl1 := Rl.stash rl0 hP own hnd
  generalize hsts : own.map (fun i => σ.getD i none) = sts at rl1
  have hstl : sts.length = own.length := by rw [← hsts, List.length_map]
  have rl2 : Rl (rc X) Z H₀ (upd H1 D (.lst [])) (some (.ref D) :: (sts ++ ((cs ++ tvs) ++ L2.wipe σ own))) (.ol [] :: (Dv.stash α1 own ++ ((ces ++ ts) ++ wipeA α1 own))) := by
    obtain ⟨L, rr⟩ := rl1
    exact rr.newL .nil hD
  refine ⟨fun i m H => m = xs.length - i ∧ ∃ es0 β es', es0 ++ es' = es ∧ lcGo _ own (xs.drop i) β = .ok (es', α2) ∧ Rl (rc X) Z H₀ H (some (.ref D) :: (sts ++ ((cs ++ tvs) ++ L2.wipe σ own))) (.ol es0 :: (Dv.stash α1 own ++ ((ces ++ ts) ++ β))), ⟨_, rfl, [], _, es, rfl, e2, rl2⟩, ?_⟩
  rintro i m H2 ⟨rfl, es0, β, es', hes, hgo, rl3⟩
  have h3 : (some (V.ref D) :: sts).length = (SV.ol es0 :: Dv.stash α1 own).length := by simp [hstl, hsl]
  have rl4 : Rl (rc X) Z H₀ H2 ((some (.ref D) :: sts) ++ (cs ++ (tvs ++ L2.wipe σ own))) ((.ol es0 :: Dv.stash α1 own) ++ (ces ++ (ts ++ β))) := by
    have q := rl3
    rw [List.append_assoc, List.append_assoc] at q
    exact q
  have rl5 := Rl.rot h3 hcs rl4
  obtain ⟨wgo, wstop⟩ := wk _ _ i H2 _ _ rl5
  by_cases hi : i < xs.length
  · right
    have hd : xs[i]? = some xs[i] := List.getElem?_eq_getElem hi
    obtain ⟨g1, g2⟩ := wgo _ hd
    rw [List.drop_eq_getElem_cons hi] at hgo
    obtain ⟨es1, β1, r2, t1, t2, t3⟩ := lc_turns hgo
    obtain ⟨es2, α3⟩ := r2
    injection t3 with t3 t4
    subst t3 t4
    refine ⟨g1, fun H' => Rl (rc X) Z H₀ H' (some (.ref D) :: (sts ++ ((cs ++ tvs) ++ L2.wipe σ own))) (.ol (es0 ++ es1) :: (Dv.stash α1 own ++ ((ces ++ ts) ++ wipeA β1 own))), fun H' nx => ⟨_, by omega, rfl, es0 ++ es1, _, es2, by rw [List.append_assoc]; exact hes, t2, nx⟩, fun x H' hy => ?_⟩
    obtain ⟨L, rr, rx⟩ := g2 x H' hy
    obtain ⟨L', hv, rr'⟩ := rr.rot hcs h3
    rw [← hv] at rx
    have t1' : (asg t xs[i] β >>= fun β1 => denT G ifs β1 >>= fun q => if q.1 = true then den G elt q.2 >>= fun p => .ok ([p.1.d], p.2) else .ok ([], q.2)) = .ok (es1, β1) := t1
    obtain ⟨γ1, u1, t1'⟩ := Res.bind_ok t1'
    obtain ⟨⟨cb, γ2⟩, u2, t1'⟩ := Res.bind_ok t1'
    have hPl : (some (V.ref D) :: (sts ++ (cs ++ tvs))).length = (SV.ol es0 :: (Dv.stash α1 own ++ (ces ++ ts))).length := by simp [hstl, hsl, hcs, st.len]
    have rr2 : RlO (rc X) Z H₀ H' L' ((some (.ref D) :: (sts ++ (cs ++ tvs))) ++ L2.wipe σ own) ((.ol es0 :: (Dv.stash α1 own ++ (ces ++ ts))) ++ β) := by
      have q := rr'
      simpa [List.append_assoc] using q
    refine asg_use hPl u1 rr2 rx fun σ2 l2 k2 rl6 => ?_
    have hw : L2.wipe σ2 own = L2.wipe σ own := by
      rw [← wipe_wipe (σ := σ) own]
      exact wipe_ext l2 fun j hj => k2 j fun m => hj (ht j m)
    refine ⟨hw, Z, H₀, _, _, γ1, ⟨hPl, rl6⟩, cb, γ2, u2, fun H3 rl7 => ?_⟩
    cases cb with
    | false =>
      have t1' : Res.ok (([] : List Dv.D), γ2) = Res.ok (es1, β1) := t1'
      cases t1'
      refine iteF ?_
      have q := Rl.wipeAll rl7 hPl own
      rw [hw] at q
      rw [List.append_nil]
      simpa [List.append_assoc] using q
    | true =>
      refine iteT ?_
      have t1' : (den G elt γ2 >>= fun p => Res.ok ([p.1.d], p.2)) = Res.ok (es1, β1) := t1'
      obtain ⟨⟨rv, γ3⟩, u3, t1'⟩ := Res.bind_ok t1'
      cases t1'
      refine ⟨Z, H₀, _, _, γ2, ⟨hPl, rl7⟩, rv, γ3, u3, fun y H4 hu rl8 => ?_⟩
      obtain ⟨L8, r8⟩ := rl8
      obtain ⟨L9, _, r9⟩ := RlO.fz0 r8 hu
      obtain ⟨y', g3, g4⟩ := r9.rep (i := 0) rfl
      have ey : y = y' := by simpa using g3
      subst ey
      obtain ⟨a, p1, p2, p3, put⟩ := r9.put (i := 1) (s := .ol es0) rfl rfl
      have ea : a = D := by
        have : some (some (V.ref D)) = some (some (V.ref a)) := p1
        cases this
        rfl
      subst ea
      cases p3 with
      | @ol _ acc _ hH rp =>
        refine ⟨acc, hH, ?_, ?_⟩
        · have q1 := okSize_iff.mp hz
          rw [← hes] at q1
          simp only [List.length_append, List.length_cons, List.length_nil] at q1
          have q2 := rp.length
          omega
        · have g := put (.lst (acc ++ [y])) (.ol (es0 ++ [rv.d])) (.ol upd_same (rp.append (.cons g4 .nil)))
          have g5 : Rl (rc X) Z H₀ (upd H4 a (.lst (acc ++ [y]))) ((some (.ref a) :: (sts ++ (cs ++ tvs))) ++ σ2) ((.ol (es0 ++ [rv.d]) :: (Dv.stash α1 own ++ (ces ++ ts))) ++ γ3) := Rl.drop ⟨L9, g⟩
          have q := Rl.wipeAll g5 (by simp [hstl, hsl, hcs, st.len]) own
          rw [hw] at q
          simpa [List.append_assoc] using q
  · left
    rw [List.drop_eq_nil_of_le (by omega)] at hgo
    rw [lcGo] at hgo
    cases hgo
    rw [List.append_nil] at hes
    subst hes
    refine ⟨wstop (by omega), ?_⟩
    have q1 : Rl (rc X) Z H₀ H2 ([some (.ref D)] ++ (sts ++ (tvs ++ L2.wipe σ own))) ([.ol es0] ++ (Dv.stash α1 own ++ (ts ++ α2))) := Rl.drops hcs rl5
    have q2 := Rl.rot (as := [some (.ref D)]) (bs := sts) (ts := [.ol es0]) (us := Dv.stash α1 own) rfl (by rw [hstl, hsl]) q1
    have q3 : Rl (rc X) Z H₀ H2 (sts ++ ((some (.ref D) :: tvs) ++ L2.wipe σ own)) (Dv.stash α1 own ++ ((.ol es0 :: ts) ++ α2)) := q2
    have q4 := Rl.back (vs := own) hstl hsl (by simp [st.len]) q3
    rw [← hsts, backO_eq (L2.wipe_length σ own) (fun i m => wipe_out m)] at q4
    exact k (.ref D) H2 (fun z => nomatch z) q4
theorem le_lc {elt iter : Expr} {ifs : List Expr} {scope : Scope} {own : List (Str × Nat)} {pos : Pos} {t : Tgt} {it : CI} {cifs : CO} {celt : CE} (hc : X.calm = true) (hN : X.N.Nodup) (hi : PI X tg iter (liftI X G it)) (ok : BlkOk X.N X.env.scope scope own)
    (hg : ∀ (s : Shared) (H : Hp) (C : Addr) (cl : List (Str × Addr)) (fp : List Addr), PG (X.blk s H scope (compEnvC scope cl C X.env) fp) tg (tgG X.K t)) (ht : ∀ (s : Shared) (H : Hp) (C : Addr) (cl : List (Str × Addr)) (fp : List Addr), PTs (X.blk s H scope (compEnvC scope cl C X.env) fp) ifs (liftT X G cifs))
    (he : ∀ (s : Shared) (H : Hp) (C : Addr) (cl : List (Str × Addr)) (fp : List Addr), PE (X.blk s H scope (compEnvC scope cl C X.env) fp) elt (lift X G celt)) (hs : ∀ x, foldedSetIterable iter X.env x = pure x) (hnd : (own.map (·.2)).Nodup) (hin : ∀ i ∈ tgts t, i ∈ own.map (·.2)) :
    PE X (.ListComp elt [⟨tg, iter, ifs, 0⟩] scope pos) (lift X G (.lc (own.map (·.2)) t it cifs celt)) :=
  PE.mono (pe_lc hc hN hi ok hg ht he hs) fun _ _ _ q => use_lc q hnd hin
theorem ls_setLc {i : Nat} {y : Str} {py spos : Pos} {elt iter : Expr} {ifs : List Expr} {scope : Scope} {own : List (Str × Nat)} {pos : Pos} {t : Tgt} {it : CI} {cifs : CO} {celt : CE} (hc : X.calm = true) (hN : X.N.Nodup) (hy : X.N[i]? = some y) (hyl : X.env.scope.names.lookup y = some .local)
    (hsw : swapsWith (.ListComp elt [⟨tg, iter, ifs, 0⟩] scope pos) (some (.Name y py)) spos.line X.env = pure true) (hi : PI X tg iter (liftI X G it)) (ok : BlkOk X.N X.env.scope scope own)
    (hg : ∀ (s : Shared) (H : Hp) (C : Addr) (cl : List (Str × Addr)) (fp : List Addr), PG (X.blk s H scope (compEnvC scope cl C X.env) fp) tg (tgG X.K t)) (ht : ∀ (s : Shared) (H : Hp) (C : Addr) (cl : List (Str × Addr)) (fp : List Addr), PTs (X.blk s H scope (compEnvC scope cl C X.env) fp) ifs (liftT X G cifs))
    (he : ∀ (s : Shared) (H : Hp) (C : Addr) (cl : List (Str × Addr)) (fp : List Addr), PE (X.blk s H scope (compEnvC scope cl C X.env) fp) elt (lift X G celt)) (hs : ∀ x, foldedSetIterable iter X.env x = pure x) (hnd : (own.map (·.2)).Nodup) (hin : ∀ i ∈ tgts t, i ∈ own.map (·.2)) :
    PS X (.Assign [.Name y py] (.ListComp elt [⟨tg, iter, ifs, 0⟩] scope pos) spos) (tAsg (lift X G (.lc (own.map (·.2)) t it cifs celt)) (gName i)) :=
  PS.mono (ps_setLc hc hN hy hyl hsw hi ok hg ht he hs) fun _ _ _ q => use_lc q hnd hin
end
end Dv

set_option Elab.async false
set_option linter.all false
set_option maxRecDepth 100000
set_option maxHeartbeats 4000000
/-! a dict is walked by its keys: one that is locked, or one of the written part -/
namespace Dv
open PySem PySem.Spec PyProof.Rows L2
/-- at d stands the dict o; its keys are vs; it stays while H says so -/
def KD (R : RC) (d : Addr) (o : Obj) (vs : List V) (H : Hp) : Prop :=
  (∃ kvs, H d = some (.frz o (.dK kvs)) ∧ vs = kvs.map fun p => kV p.1) ∨ (∃ es, H d = some (.frz o (DTab R d es)) ∧ vs = es.map fun e => .ref e.2.1) ∨
    ∃ kvs, WrDict R d kvs ∧ R.K.lookup d = some o ∧ vs = kvs.map fun p => .str p.1
def KeysAt (o : Obj) (vs : List V) (ep : Nat) : Prop := ∃ es, o.data = .dict es ep ∧ es.size = vs.length ∧ ∀ (i : Nat) (v : V), vs[i]? = some v → ∃ en, es[i]? = some en ∧ RelV v en.key
theorem Paired.at' {α β : Type} {F : α → β → Prop} : ∀ {l₁ : List α} {l₂ : List β} {i : Nat} {a : α}, Paired F l₁ l₂ → l₁[i]? = some a → ∃ b, l₂[i]? = some b ∧ F a b
  | _, _, _, _, .nil, h => by simp at h
  | _, _, 0, _, .cons r _, h => by simp at h; subst h; exact ⟨_, rfl, r⟩
  | _, _, i + 1, a, .cons _ t, h => by
    obtain ⟨b, h1, h2⟩ := Paired.at' (i := i) (a := a) t (by simpa using h)
    exact ⟨b, by simpa using h1, h2⟩
theorem pairs_at {P : Program} {w : World} {l : List DictEntry} {vs : List (Key × Value)} (h : Pairs (mixKind P w) l vs) : ∀ {i : Nat} {k : Key} {u : Value}, vs[i]? = some (k, u) → ∃ en, l[i]? = some en ∧ keyIs k en.key = true := by
  induction h with
  | nil => intro i k u e; simp at e
  | cons h1 _ _ ih =>
    intro i k u e
    cases i with
    | zero => simp at e; subst e; exact ⟨_, rfl, h1⟩
    | succ i =>
      obtain ⟨en', h3, h4⟩ := ih (i := i) (by simpa using e)
      exact ⟨en', by simpa using h3, h4⟩
section
variable {X : Cx} {pins : List (Addr × Obj)} {σ : L2.St} {H : Hp} {s : Shared} {d : Addr} {o : Obj} {vs : List V}
theorem KD.now (k : KD (rc X) d o vs H) (I : Inv X pins σ H s) : (d == sysModules) = false ∧ s.heap.get? d = some o ∧ o.ExactDict ∧ ∃ ep, KeysAt o vs ep := by
  rcases k with ⟨kvs, hd, rfl⟩ | ⟨es, hd, rfl⟩ | ⟨kvs, hw, hl, rfl⟩
  · obtain ⟨hs, hgd, hx, es, ep, us, hdt, hsz, kv, hm⟩ := I.frzK hd
    refine ⟨hs, hgd, hx, ep, es, hdt, by rw [List.length_map, hsz], fun i v hv => ?_⟩
    rw [List.getElem?_map] at hv
    obtain ⟨⟨k, x⟩, hk, rfl⟩ := Option.map_eq_some_iff.mp hv
    obtain ⟨u, hu, ru⟩ := kv_get kv hk
    obtain ⟨o', es', ho', hx', hd', hko, pr, _⟩ := hm
    rw [hgd] at ho'
    cases ho'
    rw [hdt] at hd'
    cases hd'
    obtain ⟨en, h1, h2⟩ := pairs_at pr hu
    exact ⟨en, by simpa using h1, relV_key h2⟩
  · obtain ⟨hgd, hp, _⟩ := I.hok d _ hd
    obtain ⟨hl, hs, xs, pr, hdep, o', en, ep, ho', hx, hdt, he, _⟩ := hp
    rw [hgd] at ho'
    cases ho'
    refine ⟨hs, hgd, hx, ep, en, hdt, ?_, fun i v hv => ?_⟩
    · have h1 : en.toList.length = xs.length := by rw [he, List.length_map]
      have h2 := Paired.length pr
      rw [List.length_map, h2, ← h1, Array.length_toList]
    · rw [List.getElem?_map] at hv
      obtain ⟨e, hk, rfl⟩ := Option.map_eq_some_iff.mp hv
      obtain ⟨q, hq, e1, e2, e3⟩ := Paired.at' pr hk
      have h3 : en.toList[i]? = some (entryOfKey (nestedKind (rc X).P (rc X).w) q) := by rw [he, List.getElem?_map, hq]; rfl
      refine ⟨_, by simpa using h3, ?_⟩
      show Value.ref q.2.1 = Value.ref e.2.1
      rw [e2]
  · obtain ⟨hs, hlen, hnd, es, n, q, kl, pr⟩ := hw
    have q' : X.K.lookup d = some ⟨.type "dict", none, .dict es n, #[]⟩ := q
    have hl' : X.K.lookup d = some o := hl
    rw [q'] at hl'
    cases hl'
    refine ⟨hs, I.kIn _ _ q', ⟨rfl, rfl, rfl⟩, n, es, rfl, ?_, fun i v hv => ?_⟩
    · have := Paired.length pr
      rw [List.length_map, this, Array.length_toList]
    · rw [List.getElem?_map] at hv
      obtain ⟨e, hk, rfl⟩ := Option.map_eq_some_iff.mp hv
      obtain ⟨en, h1, ⟨t, h2⟩, _⟩ := Paired.at' pr hk
      exact ⟨en, by simpa using h1, t, h2⟩
end
/-- the walk -/
def ItD (R : RC) (d : Addr) (o : Obj) (vs : List V) : It :=
  ⟨fun i H => KD R d o vs H ∧ i < vs.length, fun i H x H' => H' = H ∧ vs[i]? = some x, fun i H => KD R d o vs H ∧ vs.length ≤ i⟩
theorem keysAt_ep {o : Obj} {vs : List V} {ep ep' : Nat} (h : KeysAt o vs ep) (h' : KeysAt o vs ep') : ep = ep' := by
  obtain ⟨es, h1, _⟩ := h
  obtain ⟨es', h2, _⟩ := h'
  rw [h1] at h2
  cases h2
  rfl
section
variable {P : Program} {w : World} {K : PySem.W.Frag} {mg : Str → Option Value} {tg : Expr} {d : Addr} {o : Obj} {vs : List V} {ep : Nat}
theorem turn_D (it : Addr) (hk : KeysAt o vs ep) (hmg : ∀ X : Cx, X.prog = P → X.w = w → X.K = K → ∀ H, KD ⟨P, w, K, mg⟩ d o vs H → KD (rc X) d o vs H) : Turn P w K tg (ItD ⟨P, w, K, mg⟩ d o vs) [it] it (fun i h => h.IsKeyIter it d i vs.length ep) where
  mem := by simp
  obj := fun i h st b hb => by
    have e : b = it := by simpa using hb
    subst e
    obtain ⟨oi, e, c, dd⟩ := st
    exact ⟨oi, e, fun v z => by rw [dd] at z; cases z⟩
  keep := fun i h h' st k => let ⟨oi, e, r⟩ := st; ⟨oi, k it (by simp) oi e, r⟩
  item := by
    intro X hP hw hK hc i pins s σ H E I hf st hg
    obtain ⟨hd, hi⟩ := hg
    obtain ⟨f0, f1, f2, f3, f4, f5⟩ := hf it (by simp)
    obtain ⟨hs, hgd, hx, _, _⟩ := (hmg X hP hw hK H hd).now I
    subst hP hw hK
    obtain ⟨es, hdt, hsz, ent⟩ := hk
    obtain ⟨en, hen, hkey⟩ := ent i vs[i] (List.getElem?_eq_getElem hi)
    refine next_key_item st hgd hdt hsz hen fun h' st' sb => ?_
    have I1 : Inv X pins σ H { s with heap := h' } := I.turned (t' := s.toks) (fun b ob hb e => (sb.2 b hb).trans e) f0 f1 f3 f4 f5
    obtain ⟨oi, e, c, dd⟩ := id st'
    exact ⟨en.key, rfl, go_of (s := { s with heap := h' }) e c dd (by decide) ⟨vs[i], H, I1, hkey, ⟨rfl, List.getElem?_eq_getElem hi⟩, st', fun b hb => (hf b hb).1⟩⟩
  done := by
    intro X hP hw hK hc i pins s σ H E I hf st hg
    obtain ⟨hd, hi⟩ := hg
    obtain ⟨f0, f1, f2, f3, f4, f5⟩ := hf it (by simp)
    obtain ⟨hs, hgd, hx, _, _⟩ := (hmg X hP hw hK H hd).now I
    subst hP hw hK
    obtain ⟨es, hdt, hsz, ent⟩ := hk
    exact next_key_end (I.ok.hd hc) st hgd hdt hsz hi fun h' eb => ⟨rfl, I.turned (t' := s.toks) (fun b ob hb e => eb b ob hb e) f0 f1 f3 f4 f5⟩
  self := fun A i s Q E st h => wpAny_pyIter_keyiter st h
end
theorem dtab_eq {R R' : RC} {d : Addr} {es : List (NestedKey × Addr × V)} (h1 : R.P = R'.P) (h2 : R.w = R'.w) : DTab R d es = DTab R' d es := by
  obtain ⟨P, w, K, mg⟩ := R
  obtain ⟨P', w', K', mg'⟩ := R'
  obtain rfl : P = P' := h1
  obtain rfl : w = w' := h2
  rfl
theorem wrd_eq {R R' : RC} {d : Addr} {kvs : List (Str × V)} (h1 : R.K = R'.K) (h2 : R.w = R'.w) : WrDict R d kvs = WrDict R' d kvs := by
  obtain ⟨P, w, K, mg⟩ := R
  obtain ⟨P', w', K', mg'⟩ := R'
  obtain rfl : K = K' := h1
  obtain rfl : w = w' := h2
  rfl
def iDictD (R : RC) (te : TE) : TI := fun σ H Q => te σ H fun x H1 => ∃ d o vs, x = .ref d ∧ KD R d o vs H1 ∧ Q (ItD R d o vs) H1
theorem pi_dictD {X : Cx} {tg e : Expr} {te : TE} (he : PE X e te) : PI X tg e (iDictD (rc X) te) := by
  refine ⟨fun pins s σ H R I h => thn (he.run pins s σ H _ I h) fun u s1 ⟨x, H1, I1, rx, d, o, vs, ex, kd, q⟩ => ?_⟩
  subst ex
  obtain rfl : u = Value.ref d := rx
  obtain ⟨hs, hgd, hx, ep, ka⟩ := kd.now I1
  obtain ⟨es, hdt, hsz, ent⟩ := id ka
  refine iter_keys hs hgd hx hdt (pi_one (tk := s1.toks) I1 _ (turn_D (mg := X.mg) _ ka fun X' hP hw hK H' k => ?_) ⟨_, Heap.get?_push_size _ rfl, rfl, ?_⟩ q)
  · rcases k with k | ⟨es', h1, h2⟩ | ⟨kvs, h1, h2, h3⟩
    · exact .inl k
    · refine .inr (.inl ⟨es', ?_, h2⟩)
      rw [dtab_eq (R := rc X') (R' := ⟨X.prog, X.w, X.K, X.mg⟩) hP hw]
      exact h1
    · refine .inr (.inr ⟨kvs, ?_, ?_, h3⟩)
      · rw [wrd_eq (R := rc X') (R' := ⟨X.prog, X.w, X.K, X.mg⟩) hK hw]
        exact h1
      · show X'.K.lookup d = some o
        rw [hK]
        exact h2
  · rw [hsz]
    rfl
/-- the keys of a constant -/
theorem le_ckeys {X : Cx} {G : GEnv} {k : Nat} {tg : Expr} {x : Str} {p : Pos} {d : D} {v : V} {u : Value} (hd : G.con k = some (x, d)) (hg : Gl X x) (hm : X.mg x = some u) (rv : RelV v u) (rp : ∀ V₀, Rep (rc X) V₀ v d) (h3 : (x == ("__debug__" : Str)) = false) : PI X tg (.Name x p) (liftI X G (.ckeys k)) := by
  refine ⟨fun pins s σ H R I h => (pi_dictD (pe_glob hg hm rv h3)).run pins s σ H R I ?_⟩
  obtain ⟨Z, H₀, tvs, ts, α, st, ds, α', e, kk⟩ := h
  simp only [denI, hd] at e
  cases d with
  | dct ks ws =>
    cases e
    have r0 := rp fun _ => none
    cases r0 with
    | dK h _ => rcases h with h | ⟨_, h⟩ <;> cases h
    | dT h _ _ _ => rcases h with h | ⟨_, h⟩ <;> cases h
    | @dW a kvs _ hw rw =>
      obtain ⟨hs, hlen, hnd, es, n, q, kl, pr⟩ := id hw
      refine ⟨a, ⟨.type "dict", none, .dict es n, #[]⟩, kvs.map fun p => .str p.1, rfl, .inr (.inr ⟨kvs, hw, q, rfl⟩), ?_⟩
      refine kk _ H [] [] rfl st.rl ?_
      intro Z' H₀' i H' os ss rl
      refine ⟨fun d hd => ?_, fun hi => ⟨.inr (.inr ⟨kvs, hw, q, rfl⟩), by simpa using hi⟩⟩
      rw [List.getElem?_map] at hd
      obtain ⟨y, hy, rfl⟩ := Option.map_eq_some_iff.mp hd
      refine ⟨⟨.inr (.inr ⟨kvs, hw, q, rfl⟩), by simpa using (List.getElem?_eq_some_iff.mp hy).1⟩, fun z H2 hz => ?_⟩
      obtain ⟨rfl, hz⟩ := hz
      rw [List.getElem?_map, hy] at hz
      cases hz
      obtain ⟨L, r⟩ := rl
      exact ⟨L, r, .str _⟩
  | _ => cases e
end Dv

set_option Elab.async false
set_option linter.all false
set_option maxRecDepth 100000
set_option maxHeartbeats 4000000
/-! statements -/
namespace Dv
open PySem PySem.Spec PyProof.Rows L2

/-- only these slots may differ -/
def Keep (W : List Nat) (σ σ' : L2.St) : Prop := ∀ j, j ∉ W → σ'[j]? = σ[j]?
theorem Keep.refl (W : List Nat) (σ : L2.St) : Keep W σ σ := fun _ _ => rfl
theorem Keep.trans {W W1 W2 : List Nat} {σ σ1 σ2 : L2.St} (a : Keep W1 σ σ1) (b : Keep W2 σ1 σ2) (h1 : ∀ j ∈ W1, j ∈ W) (h2 : ∀ j ∈ W2, j ∈ W) : Keep W σ σ2 := fun j hj => by
  rw [b j fun m => hj (h2 j m), a j fun m => hj (h1 j m)]
theorem Keep.set {i : Nat} {σ : L2.St} {o : Option V} : Keep [i] σ (σ.set i o) := fun j hj => by
  rw [List.getElem?_set_ne fun e => hj (by rw [e]; exact List.mem_singleton.mpr rfl)]
def FlOk (R : RC) (Z : Addr → Prop) (H₀ : Hp) (tvs : List (Option V)) (ts : List SV) (σ : L2.St) (W : List Nat) (E : Ends) : Fl → Prop
  | .nx α => ∀ σ' H', Keep W σ σ' → Rl R Z H₀ H' (tvs ++ σ') (ts ++ α) → E.nx σ' H'
  | .bk α => ∀ σ' H', Keep W σ σ' → Rl R Z H₀ H' (tvs ++ σ') (ts ++ α) → E.bk σ' H'
  | .ct α => ∀ σ' H', Keep W σ σ' → Rl R Z H₀ H' (tvs ++ σ') (ts ++ α) → E.ct σ' H'
  | .rt r => ∀ v H' os ss, r ≠ .un → Rl R Z H₀ H' (some v :: os) (r :: ss) → E.rt v H'
def liftS (X : Cx) (G : GEnv) (c : CS) : TS := fun E σ H => ∃ Z H₀ tvs ts α, Sit (rc X) Z H₀ H tvs σ ts α ∧ ∃ f, denS G c α = .ok f ∧ FlOk (rc X) Z H₀ tvs ts σ (wS c) E f
def liftB (X : Cx) (G : GEnv) (c : CB) : TS := fun E σ H => ∃ Z H₀ tvs ts α, Sit (rc X) Z H₀ H tvs σ ts α ∧ ∃ f, denB G c α = .ok f ∧ FlOk (rc X) Z H₀ tvs ts σ (wB c) E f
/-- later, with fewer slots -/
theorem FlOk.shift {R : RC} {Z : Addr → Prop} {H₀ : Hp} {tvs : List (Option V)} {ts : List SV} {σ σ1 : L2.St} {W W1 W2 : List Nat} {E : Ends} {f : Fl} (h : FlOk R Z H₀ tvs ts σ W E f) (k : Keep W1 σ σ1) (h1 : ∀ j ∈ W1, j ∈ W) (h2 : ∀ j ∈ W2, j ∈ W) : FlOk R Z H₀ tvs ts σ1 W2 E f := by
  cases f with
  | nx α => exact fun σ' H' q r => h σ' H' (k.trans q h1 h2) r
  | bk α => exact fun σ' H' q r => h σ' H' (k.trans q h1 h2) r
  | ct α => exact fun σ' H' q r => h σ' H' (k.trans q h1 h2) r
  | rt v => exact h

section
variable {X : Cx} {G : GEnv} {p pos pos' apos cpos : Pos} {a b e f o : Expr} {es : List Expr} {st : Stmt} {rest body : List Stmt} {ca cb cc : CE} {c : CS} {cr cr' : CB}
/-- the end of a statement that goes on -/
theorem to_sit {R : RC} {Z : Addr → Prop} {H₀ H : Hp} {tvs : List (Option V)} {σ : L2.St} {ts : List SV} {α : AEnv} (hl : tvs.length = ts.length) (r : Rl R Z H₀ H (tvs ++ σ) (ts ++ α)) : Sit R Z H₀ H tvs σ ts α := ⟨hl, r⟩
theorem lb_nil : PSs X [] (liftB X G .nil) := PSs.mono pss_nil fun E σ H q => by
  obtain ⟨Z, H₀, tvs, ts, α, st, f, e, k⟩ := q
  rw [denB] at e
  cases e
  exact k σ H (.refl _ _) st.rl
theorem lb_cons (h1 : PS X st (liftS X G c)) (h2 : PSs X rest (liftB X G cr)) : PSs X (st :: rest) (liftB X G (.cons c cr)) := PSs.mono (pss_cons h1 h2) fun E σ H q => by
  obtain ⟨Z, H₀, tvs, ts, α, st, f, e, k⟩ := q
  rw [denB] at e
  obtain ⟨g, e1, e⟩ := Res.bind_ok e
  refine ⟨Z, H₀, tvs, ts, α, st, g, e1, ?_⟩
  cases g with
  | nx α1 => exact fun σ' H' q r => ⟨Z, H₀, tvs, ts, α1, ⟨st.len, r⟩, f, e, k.shift q (fun j m => List.mem_append_left _ m) fun j m => List.mem_append_right _ m⟩
  | bk α1 => cases e; exact k.shift (.refl [] σ) (fun j m => (nomatch m)) fun j m => List.mem_append_left _ m
  | ct α1 => cases e; exact k.shift (.refl [] σ) (fun j m => (nomatch m)) fun j m => List.mem_append_left _ m
  | rt r => cases e; exact k
theorem ls_pass : PS X (.Pass pos) (liftS X G .pass) := PS.mono ps_pass fun E σ H q => by
  obtain ⟨Z, H₀, tvs, ts, α, st, f, e, k⟩ := q
  rw [denS] at e
  cases e
  exact k σ H (.refl _ _) st.rl
theorem ls_doc {x : Str} {j : Nat} : PS X (.Expr (.Constant (.str x) j pos) pos') (liftS X G .pass) := PS.mono ps_doc fun E σ H q => by
  obtain ⟨Z, H₀, tvs, ts, α, st, f, e, k⟩ := q
  rw [denS] at e
  cases e
  exact k σ H (.refl _ _) st.rl
theorem ls_brk : PS X (.Break pos) (liftS X G .brk) := PS.mono ps_break fun E σ H q => by
  obtain ⟨Z, H₀, tvs, ts, α, st, f, e, k⟩ := q
  rw [denS] at e
  cases e
  exact k σ H (.refl _ _) st.rl
theorem ls_cont : PS X (.Continue pos) (liftS X G .cont) := PS.mono ps_continue fun E σ H q => by
  obtain ⟨Z, H₀, tvs, ts, α, st, f, e, k⟩ := q
  rw [denS] at e
  cases e
  exact k σ H (.refl _ _) st.rl
theorem ls_expr (he : PE X e (lift X G ca)) (hs : swapsWith e none pos.line X.env = pure false) : PS X (.Expr e pos) (liftS X G (.expr ca)) := PS.mono (ps_expr he hs) fun E σ H q => by
  obtain ⟨Z, H₀, tvs, ts, α, st, f, e, k⟩ := q
  rw [denS] at e
  obtain ⟨⟨r, α1⟩, e1, e⟩ := Res.bind_ok e
  cases e
  exact ⟨Z, H₀, tvs, ts, α, st, r, α1, e1, fun v H1 hu rl => k σ H1 (.refl _ _) rl.drop⟩
theorem ls_retN : PS X (.Return none pos) (liftS X G .retN) := PS.mono ps_retN fun E σ H q => by
  obtain ⟨Z, H₀, tvs, ts, α, st, f, e, k⟩ := q
  rw [denS] at e
  cases e
  exact k .non H _ _ (fun z => nomatch z) (st.rl.any fun _ => .non)
theorem denS_ret {e : CE} {α : AEnv} (h : vIx e = none) : denS G (.ret e) α = (den G e α >>= fun q => .ok (.rt q.1)) := by
  cases e <;> first | (cases h; done) | (rw [denS] <;> first | rfl | (intro i z; cases z))
theorem ls_ret (he : PE X e (lift X G ca)) (hv : vIx ca = none) : PS X (.Return (some e) pos) (liftS X G (.ret ca)) := PS.mono (ps_ret he) fun E σ H q => by
  obtain ⟨Z, H₀, tvs, ts, α, st, f, e, k⟩ := q
  rw [denS_ret hv] at e
  obtain ⟨⟨r, α1⟩, e1, e⟩ := Res.bind_ok e
  cases e
  exact ⟨Z, H₀, tvs, ts, α, st, r, α1, e1, fun v H1 hu rl => k v H1 _ _ hu rl⟩
theorem ls_retV {i : Nat} (he : PE X e (tVar i)) : PS X (.Return (some e) pos) (liftS X G (.ret (.var i))) := PS.mono (ps_ret he) fun E σ H q => by
  obtain ⟨Z, H₀, tvs, ts, α, st, f, e, k⟩ := q
  rw [denS] at e
  cases hq : α[i]? with
  | none => rw [hq] at e; cases e
  | some s =>
    have hu : s ≠ .un := fun z => by rw [hq, z] at e; cases e
    have ef : f = .rt s := by
      rw [hq] at e
      cases s <;> first | exact absurd rfl hu | (cases e; rfl)
    subst ef
    obtain ⟨x, hx⟩ := st.held hq hu
    refine ⟨x, hx, ?_⟩
    have hlen : (tvs ++ σ).length = (ts ++ α).length := by obtain ⟨_, q⟩ := st.rl; exact q.ents.length
    have z := Rl.take st.rl hlen (ts.length + i)
    have g1 : (tvs ++ σ).getD (ts.length + i) none = some x := by
      rw [List.getD_eq_getElem?_getD, List.getElem?_append_right (by rw [st.len]; omega), st.len, Nat.add_sub_cancel_left, hx]; rfl
    have g2 : (ts ++ α).getD (ts.length + i) .un = s := by
      rw [List.getD_eq_getElem?_getD, List.getElem?_append_right (by omega), Nat.add_sub_cancel_left, hq]; rfl
    rw [g1, g2] at z
    exact k x H _ _ hu z
/-- a slot is written -/
theorem to_slot {R : RC} {Z : Addr → Prop} {H₀ H : Hp} {tvs : List (Option V)} {σ : L2.St} {ts : List SV} {α : AEnv} {i : Nat} {o : Option V} {s : SV} (hl : tvs.length = ts.length) (hi : i < α.length) (r : Rl R Z H₀ H (o :: (tvs ++ σ)) (s :: (ts ++ α))) : Rl R Z H₀ H (tvs ++ σ.set i o) (ts ++ α.set i s) := by
  have z := Rl.set (i := ts.length + i) r (by simp [hi])
  rw [Sit.setO hl.symm, Sit.setA hl.symm] at z
  exact z
theorem use_asg {i : Nat} {E : Ends} {σ : L2.St} {H : Hp} (q : liftS X G (.set i ca) E σ H) : tAsg (lift X G ca) (gName i) E σ H := by
  obtain ⟨Z, H₀, tvs, ts, α, st, f, e, k⟩ := q
  rw [denS] at e
  obtain ⟨⟨r, α1⟩, e1, e⟩ := Res.bind_ok e
  obtain ⟨hi, e⟩ := ite_ok e
  cases e
  exact ⟨Z, H₀, tvs, ts, α, st, r, α1, e1, fun v H1 hu rl => k _ H1 .set (to_slot st.len hi rl)⟩
theorem ls_set {i : Nat} {x : Str} (hN : X.N.Nodup) (hi : X.N[i]? = some x) (hx : Loc X.env.scope x) (he : PE X e (lift X G ca)) (hs : swapsWith e (some (.Name x pos')) pos.line X.env = pure false) (hf : X.fn x = true ∨ X.env.scope.names.lookup x = some .local) :
    PS X (.Assign [.Name x pos'] e pos) (liftS X G (.set i ca)) := PS.mono (ps_set hN hi hx he hs hf) fun _ _ _ q => use_asg q
theorem ls_setC {i : Nat} {tg iter elt : Expr} {ifs : List Expr} {scope : Scope} {pos0 py spos : Pos} {y : Str} {own : List Nat} {t : Tgt} {it : CI} {cifs : CO} {celt : CE}
    (h : PS X (.Assign [.Name y py] (.ListComp elt [⟨tg, iter, ifs, 0⟩] scope pos0) spos) (tAsg (lift X G (.lc own t it cifs celt)) (gName i))) : PS X (.Assign [.Name y py] (.ListComp elt [⟨tg, iter, ifs, 0⟩] scope pos0) spos) (liftS X G (.set i (.lc own t it cifs celt))) := PS.mono h fun _ _ _ q => use_asg q
theorem ls_tset {is : List Nat} {tg : Expr} (he : PE X e (lift X G ca)) (hg : PG X tg (tgG X.K (.tp is))) (hs : swapsWithSole [tg] e pos.line X.env = pure false) (hw : swappedStores [tg] e X.env = pure none) (h1 : (assignEach [tg] X.env).map (·.2) = [assign tg X.env]) :
    PS X (.Assign [tg] e pos) (liftS X G (.tset is ca)) := PS.mono (ps_asg he hg hs hw h1) fun E σ H q => by
  obtain ⟨Z, H₀, tvs, ts, α, st, f, e, k⟩ := q
  rw [denS] at e
  obtain ⟨⟨r, α1⟩, e1, e⟩ := Res.bind_ok e
  obtain ⟨α2, e2, e⟩ := Res.bind_ok e
  cases e
  refine ⟨Z, H₀, tvs, ts, α, st, r, α1, e1, fun v H1 hu rl => ?_⟩
  obtain ⟨L, rr⟩ := rl
  obtain ⟨L1, _, r1⟩ := RlO.fz0 rr hu
  obtain ⟨y, g1, g2⟩ := r1.rep (i := 0) rfl
  have ey : v = y := by simpa using g1
  subst ey
  obtain ⟨L2, hL, r2⟩ := r1.drop
  exact asg_use st.len e2 r2 (g2.mono (vis_mono fun b o _ hb e => ⟨fun z => hb (hL b z), e⟩)) fun σ' _ kp rl' => k σ' H1 kp rl'
theorem ls_aug {i : Nat} {x : Str} {op : Operator} {o' : P2} (hN : X.N.Nodup) (hi : X.N[i]? = some x) (hx : Loc X.env.scope x) (he : PE X e (lift X G ca)) (ho : op = .Add ∧ o' = .add ∨ op = .Sub ∧ o' = .sub) (hf : X.fn x = true ∨ X.env.scope.names.lookup x = some .local) :
    PS X (.AugAssign (.Name x pos') op e pos) (liftS X G (.aug i o' ca)) := by
  have main : ∀ (f : Int → Int → Int), PIp X op (ipI f) → (∀ a b : Int, augI o' a b = some (f a b)) →
      PS X (.AugAssign (.Name x pos') op e pos) (liftS X G (.aug i o' ca)) := fun f hp hop => PS.mono (ps_aug hN hi hx he hp hf) fun E σ H q => by
    obtain ⟨Z, H₀, tvs, ts, α, st, fl, e, k⟩ := q
    rw [denS] at e
    obtain ⟨x0, e0, e⟩ := Res.bind_ok e
    obtain ⟨⟨r, α1⟩, e1, e⟩ := Res.bind_ok e
    obtain ⟨x1, e2, e⟩ := Res.bind_ok e
    obtain ⟨q0, hu0⟩ := fin_var e0
    obtain ⟨xv, hxv⟩ := st.held q0 hu0
    refine ⟨xv, hxv, Z, H₀, tvs, ts, α, st, r, α1, e1, fun v H1 hu rl => ?_⟩
    obtain ⟨q1, hu1⟩ := fin_var e2
    split at e
    · rename_i a b _
      rw [hop] at e
      cases e
      obtain ⟨L, rr⟩ := rl
      have hi1 := (List.getElem?_eq_some_iff.mp q1).1
      have ix : In (rc X) Z L H1 v (.v (.int b)) := In.of rr (j := 0) rfl rfl hu
      obtain ⟨y, g1, g2⟩ := rr.rep (i := ts.length + i + 1) (d := .int a) (by
        show (ts ++ α1)[ts.length + i]? = _
        rw [List.getElem?_append_right (by omega), Nat.add_sub_cancel_left]
        exact q1)
      have g1' : (tvs ++ σ)[ts.length + i]? = some (some y) := g1
      rw [List.getElem?_append_right (by rw [st.len]; omega), st.len, Nat.add_sub_cancel_left, hxv] at g1'
      cases g1'
      have h1 := ix.int
      subst h1
      cases g2
      exact ⟨a, b, rfl, rfl, k _ H1 .set (to_slot st.len hi1 (Rl.any (Rl.drop ⟨L, rr⟩) fun _ => .int _))⟩
    · cases e
  rcases ho with ⟨rfl, rfl⟩ | ⟨rfl, rfl⟩
  · exact main _ ip_add fun _ _ => rfl
  · exact main _ ip_sub fun _ _ => rfl
theorem ls_if {t1 t2 : List Stmt} (hc : PT X a (liftO X G ca)) (h1 : PSs X t1 (liftB X G cr)) (h2 : PSs X t2 (liftB X G cr')) : PS X (.If a t1 t2 pos) (liftS X G (.cond ca cr cr')) := PS.mono (ps_if hc h1 h2) fun E σ H q => by
  obtain ⟨Z, H₀, tvs, ts, α, st, f, e, k⟩ := q
  rw [denS] at e
  obtain ⟨⟨t, α1⟩, e1, e⟩ := Res.bind_ok e
  refine ⟨Z, H₀, tvs, ts, α, st, t, α1, e1, fun H1 rl => ?_⟩
  cases t with
  | true => exact iteT ⟨Z, H₀, tvs, ts, α1, ⟨st.len, rl⟩, f, e, k.shift (.refl [] σ) (fun j m => (nomatch m)) fun j m => List.mem_append_left _ m⟩
  | false => exact iteF ⟨Z, H₀, tvs, ts, α1, ⟨st.len, rl⟩, f, e, k.shift (.refl [] σ) (fun j m => (nomatch m)) fun j m => List.mem_append_right _ m⟩

/-! ### loops -/
theorem ls_for {tg iter : Expr} {t : Tgt} {it : CI} (hp : PassesOwn (model X.prog X.w) X.A X.env X.xe) (hc : X.calm = true) (hi : PI X tg iter (liftI X G it)) (hg : PG X tg (tgG X.K t)) (hb : PSs X body (liftB X G cr)) (hs : ∀ x, foldedSetIterable iter X.env x = pure x) :
    PS X (.For tg iter body [] pos) (liftS X G (.forS t it cr)) := PS.mono (ps_for hp hc hi hg hb hs) fun E σ H q => by
  obtain ⟨Z, H₀, tvs, ts, α, st, f, e, k⟩ := q
  rw [denS] at e
  obtain ⟨⟨xs, α1⟩, e1, e⟩ := Res.bind_ok e
  refine ⟨Z, H₀, tvs, ts, α, st, xs, α1, e1, fun J H1 cs ces hcs rl wk => ?_⟩
  have hP : (cs ++ tvs).length = (ces ++ ts).length := by simp [hcs, st.len]
  refine ⟨fun i m σ' H => m = xs.length - i ∧ Keep (wS (.forS t it cr)) σ σ' ∧ ∃ β, forD (fun d β => asg t d β >>= fun β1 => denB G cr β1) (xs.drop i) β = .ok f ∧ Rl (rc X) Z H₀ H (cs ++ (tvs ++ σ')) (ces ++ (ts ++ β)), ⟨_, rfl, .refl _ _, α1, e, rl⟩, ?_⟩
  rintro i m σ2 H2 ⟨rfl, kp2, β, hf, rl2⟩
  obtain ⟨wgo, wstop⟩ := wk _ _ i H2 _ _ rl2
  by_cases hi : i < xs.length
  · right
    have hd : xs[i]? = some xs[i] := List.getElem?_eq_getElem hi
    obtain ⟨g1, g2⟩ := wgo _ hd
    rw [List.drop_eq_getElem_cons hi, forD] at hf
    refine ⟨g1, fun σ' H' => Keep (wS (.forS t it cr)) σ σ' ∧ ∃ β', forD (fun d β => asg t d β >>= fun β1 => denB G cr β1) (xs.drop (i + 1)) β' = .ok f ∧ Rl (rc X) Z H₀ H' (cs ++ (tvs ++ σ')) (ces ++ (ts ++ β')), fun σ' H' ⟨h0, β', h1, h2⟩ => ⟨_, by omega, rfl, h0, β', h1, h2⟩, fun x H' hy => ?_⟩
    obtain ⟨L, rr, rx⟩ := g2 x H' hy
    have step : ∃ g, (asg t xs[i] β >>= fun β1 => denB G cr β1) = .ok g := by
      cases hq : (asg t xs[i] β >>= fun β1 => denB G cr β1) with
      | ok g => exact ⟨g, rfl⟩
      | exc c ns vs => rw [hq] at hf; cases hf
      | fail => rw [hq] at hf; cases hf
    obtain ⟨g, hg⟩ := step
    rw [hg] at hf
    obtain ⟨γ1, u1, u2⟩ := Res.bind_ok hg
    have rr2 : RlO (rc X) Z H₀ H' L ((cs ++ tvs) ++ σ2) ((ces ++ ts) ++ β) := by rw [List.append_assoc, List.append_assoc]; exact rr
    refine asg_use hP u1 rr2 rx fun σ3 _ kp3 rl3 => ?_
    refine ⟨Z, H₀, cs ++ tvs, ces ++ ts, γ1, ⟨hP, rl3⟩, g, u2, ?_⟩
    have m1 : ∀ j ∈ wT t, j ∈ wS (.forS t it cr) := fun j m => List.mem_append_left _ m
    have m2 : ∀ j ∈ wB cr, j ∈ wS (.forS t it cr) := fun j m => List.mem_append_right _ m
    have kp4 : ∀ {σ' : L2.St}, Keep (wB cr) σ3 σ' → Keep (wS (.forS t it cr)) σ σ' := fun q => (kp2.trans (show Keep (wT t) σ2 σ3 from kp3) (fun _ m => m) m1).trans q (fun _ m => m) m2
    cases g with
    | nx α2 => exact fun σ' H' q r => ⟨kp4 q, α2, hf, by rw [List.append_assoc, List.append_assoc] at r; exact r⟩
    | ct α2 => exact fun σ' H' q r => ⟨kp4 q, α2, hf, by rw [List.append_assoc, List.append_assoc] at r; exact r⟩
    | bk α2 =>
      cases hf
      exact fun σ' H' q r => k σ' H' (kp4 q) (by rw [List.append_assoc, List.append_assoc] at r; exact Rl.drops hcs r)
    | rt r =>
      cases hf
      exact k
  · left
    rw [List.drop_eq_nil_of_le (by omega), forD] at hf
    cases hf
    exact ⟨wstop (by omega), k σ2 H2 kp2 (Rl.drops hcs rl2)⟩
theorem ls_while (hp : PassesOwn (model X.prog X.w) X.A X.env X.xe) (hc : PT X a (liftO X G ca)) (hb : PSs X body (liftB X G cr)) : PS X (.While a body [] pos) (liftS X G (.whileS ca cr)) := PS.mono (ps_while hp hc hb) fun E σ H q => by
  obtain ⟨Z, H₀, tvs, ts, α, st, f, e, k⟩ := q
  rw [denS] at e
  obtain ⟨n, hn⟩ := whD_ex e (fun z => nomatch z)
  refine ⟨fun m σ' H => Keep (wB cr) σ σ' ∧ ∃ β, wh (denT G (.some ca)) (denB G cr) m β = .ok f ∧ Rl (rc X) Z H₀ H (tvs ++ σ') (ts ++ β), ⟨n, .refl _ _, α, hn, st.rl⟩, ?_⟩
  rintro m σ2 H2 ⟨kp2, β, hw, rl⟩
  cases m with
  | zero => rw [wh] at hw; cases hw
  | succ m =>
    rw [wh] at hw
    have hex : ∃ t β1, denT G (.some ca) β = .ok (t, β1) := by
      cases hq : denT G (.some ca) β with
      | ok p => exact ⟨p.1, p.2, rfl⟩
      | exc c ns vs => rw [hq] at hw; cases hw
      | fail => rw [hq] at hw; cases hw
    obtain ⟨t, β1, ht⟩ := hex
    rw [ht] at hw
    refine ⟨Z, H₀, tvs, ts, β, ⟨st.len, rl⟩, t, β1, ht, fun H3 rl3 => ?_⟩
    cases t with
    | false =>
      cases hw
      exact iteF (k σ2 H3 kp2 rl3)
    | true =>
      refine iteT ⟨fun σ' H' => Keep (wB cr) σ σ' ∧ ∃ β', wh (denT G (.some ca)) (denB G cr) m β' = .ok f ∧ Rl (rc X) Z H₀ H' (tvs ++ σ') (ts ++ β'), fun σ' H' h => ⟨m, Nat.lt_succ_self m, h⟩, ?_⟩
      simp only at hw
      have step : ∃ g, denB G cr β1 = .ok g := by
        cases hq : denB G cr β1 with
        | ok g => exact ⟨g, rfl⟩
        | exc c ns vs => rw [hq] at hw; cases hw
        | fail => rw [hq] at hw; cases hw
      obtain ⟨g, hg⟩ := step
      rw [hg] at hw
      refine ⟨Z, H₀, tvs, ts, β1, ⟨st.len, rl3⟩, g, hg, ?_⟩
      cases g with
      | nx α2 => exact fun σ' H' q r => ⟨kp2.trans q (fun _ m => m) fun _ m => m, α2, hw, r⟩
      | ct α2 => exact fun σ' H' q r => ⟨kp2.trans q (fun _ m => m) fun _ m => m, α2, hw, r⟩
      | bk α2 => cases hw; exact fun σ' H' q r => k σ' H' (kp2.trans q (fun _ m => m) fun _ m => m) r
      | rt r => cases hw; exact k
end
end Dv

set_option Elab.async false
set_option linter.all false
set_option maxRecDepth 100000
set_option maxHeartbeats 4000000
/-! statements that change a container -/
namespace Dv
open PySem PySem.Spec PyProof.Rows L2

section
variable {X : Cx} {G : GEnv} {p pos pos' apos cpos : Pos} {a b e f o value : Expr} {es : List Expr} {ca cb cc : CE}

theorem isOl_ok {α : AEnv} {i : Nat} (h : isOl (α.getD i .un) = true) : ∃ ds, α[i]? = some (.ol ds) := by
  cases q : α[i]? with
  | none => rw [List.getD_eq_getElem?_getD, q] at h; cases h
  | some s =>
    rw [List.getD_eq_getElem?_getD, q] at h
    cases s <;> first | exact ⟨_, rfl⟩ | cases h
theorem isUn_no {α : AEnv} {i : Nat} (h : ¬ isUn (α.getD i .un) = true) : ∃ s, α[i]? = some s ∧ s ≠ .un := by
  cases q : α[i]? with
  | none => rw [List.getD_eq_getElem?_getD, q] at h; exact absurd rfl h
  | some s =>
    rw [List.getD_eq_getElem?_getD, q] at h
    refine ⟨s, rfl, fun z => ?_⟩
    subst z
    exact h rfl
/-- the slot's list, in the heap, behind n temporaries -/
theorem own_list {Z : Addr → Prop} {H₀ H : Hp} {L : List Addr} {P : List (Option V)} {PS : List SV} {σ : L2.St} {α : AEnv} {i : Nat} {ds : List D} {x : V} (hp : P.length = PS.length) (r : RlO (rc X) Z H₀ H L (P ++ σ) (PS ++ α)) (h : α[i]? = some (.ol ds)) (hx : σ[i]? = some (some x)) :
    ∃ a xs, x = .ref a ∧ H a = some (.lst xs) ∧ Reps (rc X) (vis Z L H) xs ds ∧ ∀ ys es, Reps (rc X) (vis Z L H) ys es → RlO (rc X) Z H₀ (upd H a (.lst ys)) L (P ++ σ) (PS ++ α.set i (.ol es)) := by
  have hs : (PS ++ α)[PS.length + i]? = some (.ol ds) := by rw [List.getElem?_append_right (by omega)]; simpa using h
  obtain ⟨a, g1, g2, g3, put⟩ := r.put hs rfl
  rw [List.getElem?_append_right (by omega), ← hp, Nat.add_sub_cancel_left, hx] at g1
  cases g1
  cases g3 with
  | ol hH rp =>
    refine ⟨_, _, rfl, hH, rp, fun ys es q => ?_⟩
    have g := put (.lst ys) (.ol es) (.ol upd_same q)
    have e2 : (PS ++ α).set (PS.length + i) (.ol es) = PS ++ α.set i (.ol es) := by rw [List.set_append, if_neg (by omega), Nat.add_sub_cancel_left]
    rw [e2] at g
    exact g
theorem ls_app {i : Nat} (ho : PE X o (tVar i)) (he : PE X e (lift X G ca)) (hbase : attributeBase o "append" X.env (eval o X.env) = eval o X.env)
    (hfew : ((backTo cpos (starEach [e] X.env)).all (fun x => !x.1) && (backToKw cpos (keywordEach [] X.env)).all (fun x => x.1.isSome)
      && decide (([e] : List Expr).length + ([] : List Keyword).length + (if ([] : List Keyword).isEmpty then 0 else 1) < 30)) = true)
    (hline : (apos.endLine == cpos.line) = true) (hs : starEach [e] X.env = (false, eval e X.env) :: starEach [] X.env) (hsw : swapsWith (.Call (.Attribute o "append" apos) [e] [] cpos) none pos.line X.env = pure false) :
    PS X (.Expr (.Call (.Attribute o "append" apos) [e] [] cpos) pos) (liftS X G (.app i ca)) := by
  refine PS.mono (ps_expr (pe_bm PySem.F.plainAttrs_list PySem.F.slot_list_append PySem.F.type_list_append mt_append ho (pa_cons he pa_nil hs) hbase hfew hline hs (by rfl)) hsw) fun E σ H q => ?_
  obtain ⟨Z, H₀, tvs, ts, α, st, fl, e, k⟩ := q
  rw [denS] at e
  obtain ⟨hol, e⟩ := ite_ok e
  obtain ⟨⟨r, α1⟩, e1, e⟩ := Res.bind_ok e
  obtain ⟨ds0, h0⟩ := isOl_ok hol
  obtain ⟨x, hx⟩ := st.held h0 (fun z => nomatch z)
  have ty0 : tyV X.K "list" x H := by
    obtain ⟨L, rr⟩ := st.rl
    obtain ⟨a, xs, rfl, hH, _⟩ := own_list st.len rr h0 hx
    exact .inl ⟨rfl, xs, .of hH⟩
  refine ⟨x, hx, ty0, Z, H₀, tvs, ts, α, st, r, α1, e1, fun v H1 hu rl => ?_⟩
  simp only at e
  split at e
  · rename_i ds hds
    obtain ⟨hz, e⟩ := ite_ok e
    cases e
    obtain ⟨L, rr⟩ := rl
    obtain ⟨L1, _, r1⟩ := RlO.fz0 rr hu
    obtain ⟨y, g1, g2⟩ := r1.rep (i := 0) rfl
    have ey : v = y := by simpa using g1
    subst ey
    obtain ⟨a, xs, rfl, hH, rp, put⟩ := own_list (P := some v :: tvs) (PS := .v r.d :: ts) (by simp [st.len]) r1 hds hx
    refine ⟨a, xs, v, rfl, rfl, hH, by rw [rp.length]; exact hz, k σ _ (.refl _ _) ?_⟩
    exact Rl.drop ⟨L1, put _ _ (rp.append (.cons g2 .nil))⟩
  · cases e
theorem mt_extendR : MtR X "list.extend" (fun x vs H Q => ∃ l b xs zs, x = .ref l ∧ vs = [.ref b] ∧ H l = some (.lst xs) ∧ Rd H b (.lst zs) ∧ xs.length + zs.length ≤ sizeLine ∧ Q .non (upd H l (.lst (xs ++ zs)))) := by
  intro pins s σ H x vs v us Q I rx rv h
  obtain ⟨l, b, xs, zs, rfl, rfl, hl, hb, hz, q⟩ := h
  obtain rfl : v = Value.ref l := rx
  obtain ⟨w, rfl, rw'⟩ := rv.one
  obtain rfl : w = Value.ref b := rw'
  obtain ⟨_, i1, n1, r1, e0, e1⟩ := I.lstM hl
  obtain ⟨_, i2, n2, r2, e2⟩ := hb.ok I.hok
  have l1 := r1.length
  have l2 := r2.length
  have sz : i1.toArray.size + i2.toArray.size ≤ sizeLine := by rw [List.size_toArray, List.size_toArray]; omega
  have nl : ¬ (!i1.toArray.isEmpty && Builtin.List.listTooLong (i1.toArray.size + i2.toArray.size)) = true := by
    rw [notLongL sz, Bool.and_false]
    exact fun z => nomatch z
  refine call_meets F.slot_list_extend ⟨_, e1, rfl⟩ F.entry_list_extend (F.args_list_extend_2 _ _) (AutoSeq1.list_extend_list_list_0 l i1.toArray n1 b i2.toArray n2 nl (by omega) (by omega)) ⟨e1, e2, ?_⟩
  exact ⟨.non, _, I.lset (its' := i1 ++ i2) hl e1 (by simp) (r1.append r2) (by rw [List.length_append]; omega), rfl, q⟩
theorem ls_ext {i : Nat} (ho : PE X o (tVar i)) (he : PE X e (lift X G ca)) (hbase : attributeBase o "extend" X.env (eval o X.env) = eval o X.env)
    (hfew : ((backTo cpos (starEach [e] X.env)).all (fun x => !x.1) && (backToKw cpos (keywordEach [] X.env)).all (fun x => x.1.isSome)
      && decide (([e] : List Expr).length + ([] : List Keyword).length + (if ([] : List Keyword).isEmpty then 0 else 1) < 30)) = true)
    (hline : (apos.endLine == cpos.line) = true) (hs : starEach [e] X.env = (false, eval e X.env) :: starEach [] X.env) (hsw : swapsWith (.Call (.Attribute o "extend" apos) [e] [] cpos) none pos.line X.env = pure false) :
    PS X (.Expr (.Call (.Attribute o "extend" apos) [e] [] cpos) pos) (liftS X G (.ext i ca)) := by
  refine PS.mono (ps_expr (pe_bm PySem.F.plainAttrs_list PySem.F.slot_list_extend PySem.F.type_list_extend mt_extendR ho (pa_cons he pa_nil hs) hbase hfew hline hs (by rfl)) hsw) fun E σ H q => ?_
  obtain ⟨Z, H₀, tvs, ts, α, st, fl, e, k⟩ := q
  rw [denS] at e
  obtain ⟨hol, e⟩ := ite_ok e
  obtain ⟨⟨r, α1⟩, e1, e⟩ := Res.bind_ok e
  obtain ⟨ds0, h0⟩ := isOl_ok hol
  obtain ⟨x, hx⟩ := st.held h0 (fun z => nomatch z)
  have ty0 : tyV X.K "list" x H := by
    obtain ⟨L, rr⟩ := st.rl
    obtain ⟨a, xs, rfl, hH, _⟩ := own_list st.len rr h0 hx
    exact .inl ⟨rfl, xs, .of hH⟩
  refine ⟨x, hx, ty0, Z, H₀, tvs, ts, α, st, r, α1, e1, fun v H1 hu rl => ?_⟩
  simp only at e
  split at e
  · rename_i ds es hds hes
    obtain ⟨hz, e⟩ := ite_ok e
    cases e
    obtain ⟨L, rr⟩ := rl
    obtain ⟨L1, _, r1⟩ := RlO.fz0 rr hu
    obtain ⟨y, g1, g2⟩ := r1.rep (i := 0) rfl
    have ey : v = y := by simpa using g1
    subst ey
    obtain ⟨a, xs, rfl, hH, rp, put⟩ := own_list (P := some v :: tvs) (PS := .v r.d :: ts) (by simp [st.len]) r1 hds hx
    rw [hes] at g2
    cases g2 with
    | @lst b zs _ hb rq =>
      refine ⟨a, b, xs, zs, rfl, rfl, hH, (vis_sub Z L1 H1).rd _ _ hb, by rw [rp.length, rq.length]; exact hz, k σ _ (.refl _ _) ?_⟩
      exact Rl.drop ⟨L1, put _ _ (rp.append rq)⟩
  · cases e
theorem ls_clr {i : Nat} (ho : PE X o (tVar i)) (hbase : attributeBase o "clear" X.env (eval o X.env) = eval o X.env) (hline : (apos.endLine == cpos.line) = true) (hsw : swapsWith (.Call (.Attribute o "clear" apos) [] [] cpos) none pos.line X.env = pure false) :
    PS X (.Expr (.Call (.Attribute o "clear" apos) [] [] cpos) pos) (liftS X G (.clr i)) := by
  refine PS.mono (ps_expr (pe_bm0 PySem.F.plainAttrs_list PySem.F.slot_list_clear PySem.F.type_list_clear mt_clear ho hbase hline) hsw) fun E σ H q => ?_
  obtain ⟨Z, H₀, tvs, ts, α, st, fl, e, k⟩ := q
  rw [denS] at e
  split at e
  · rename_i ds hds
    cases e
    obtain ⟨x, hx⟩ := st.held hds (fun z => nomatch z)
    obtain ⟨L, rr⟩ := st.rl
    obtain ⟨a, xs, rfl, hH, rp, put⟩ := own_list st.len rr hds hx
    exact ⟨_, hx, .inl ⟨rfl, xs, .of hH⟩, a, xs, rfl, rfl, hH, k σ _ (.refl _ _) ⟨L, put [] [] .nil⟩⟩
  · cases e

/-! ### o[k] = v -/
def rPutO : TSet := fun o i v H Q => (∃ a kvs k, o = .ref a ∧ H a = some (.dK kvs) ∧ i = kV k ∧ kvs.length < sizeLine ∧ Q (upd H a (.dK (putK kvs k v)))) ∨ rSetL o i v H Q
theorem set_own (hu : X.A.units + 1 < cLine) : PSet X rPutO := by
  intro pins s σ H o i v ov iv u Q I ro ri rv h
  rcases h with ⟨a, kvs, k, rfl, ha, rfl, hz, q⟩ | h
  · obtain rfl : ov = Value.ref a := ro
    exact d_setItem hu I (DPut.k ha hz) ri rv fun s' I' => ⟨_, I', q⟩
  · exact set_list pins s σ H o i v ov iv u Q I ro ri rv h
def sPutG (t : TSet) (td ty tv : TE) : TS := fun E σ H => tv σ H fun v H1 => td σ H1 fun x H2 => ty σ H2 fun y H3 => t x y v H3 fun H4 => E.nx σ H4
theorem ps_putG {t : TSet} {i : Expr} {td ty tv : TE} (ht : PSet X t) (ho : PE X o td) (hi : PE X i ty) (hv : PE X value tv) (hs : swapsWith value (some (.Subscript o i pos')) pos.line X.env = pure false) : PS X (.Assign [.Subscript o i pos'] value pos) (sPutG t td ty tv) :=
  ⟨fun pins s σ H E I h => wpAny_Assign_Subscript (thn (hv.run pins s σ H _ I h) fun r s1 ⟨v, H1, I1, rv, q1⟩ => thn (ho.run pins s1 σ H1 _ I1 q1) fun u s2 ⟨x, H2, I2, rx, q2⟩ =>
    thn (hi.run pins s2 σ H2 _ I2 q2) fun iv s3 ⟨y, H3, I3, ry, q3⟩ => thn (ht pins s3 σ H3 x y v u iv r _ I3 rx ry rv q3) fun _ s4 ⟨H4, I4, q4⟩ => ⟨σ, H4, I4, q4⟩) hs⟩
theorem putSV_ok {s k : SV} {d : D} {r : SV} (h : putSV s k d = .ok r) : (∃ ks vs x, s = .od ks vs ∧ keyOf k.d = some x ∧ flatKey k.d = true ∧ ks.all flatKey = true ∧ ks.length < sizeLine ∧ r = .od (dctPut ks vs k.d d x).1 (dctPut ks vs k.d d x).2) ∨
    ∃ ds j n, s = .ol ds ∧ k = .v (.int j) ∧ ixN ds.length j = some n ∧ r = .ol (ds.set n d) := by
  cases s with
  | od ks vs =>
    left
    have h : (match keyOf k.d with | some x => if (flatKey k.d && ks.all flatKey && decide (ks.length < sizeLine)) = true then Res.ok (SV.od (dctPut ks vs k.d d x).1 (dctPut ks vs k.d d x).2) else .fail | none => .fail) = .ok r := h
    cases hk : keyOf k.d with
    | none => rw [hk] at h; cases h
    | some x =>
      rw [hk] at h
      obtain ⟨c, h⟩ := ite_ok h
      cases h
      rw [Bool.and_eq_true, Bool.and_eq_true, decide_eq_true_eq] at c
      exact ⟨ks, vs, x, rfl, rfl, c.1.1, c.1.2, c.2, rfl⟩
  | ol ds =>
    right
    cases k with
    | v d' =>
      cases d' with
      | int j =>
        have h : (match ixN ds.length j with | some n => Res.ok (SV.ol (ds.set n d)) | none => .fail) = .ok r := h
        cases hn : ixN ds.length j with
        | none => rw [hn] at h; cases h
        | some n =>
          rw [hn] at h
          cases h
          exact ⟨ds, j, n, rfl, rfl, hn, rfl⟩
      | _ => cases h
    | _ => cases h
  | un => cases h
  | v _ => cases h
  | oi _ _ _ => cases h
/-- the slot's dict, in the heap, behind n temporaries -/
theorem own_dict {Z : Addr → Prop} {H₀ H : Hp} {L : List Addr} {P : List (Option V)} {PS : List SV} {σ : L2.St} {α : AEnv} {i : Nat} {ks vs : List D} {x : V} (hp : P.length = PS.length) (r : RlO (rc X) Z H₀ H L (P ++ σ) (PS ++ α)) (h : α[i]? = some (.od ks vs)) (hx : σ[i]? = some (some x)) (hf : ks.all flatKey = true) :
    ∃ (a : Addr) (kvs : List (Key × V)), x = .ref a ∧ H a = some (.dK kvs) ∧ ks = kvs.map (fun p => kD p.1) ∧ Reps (rc X) (vis Z L H) (kvs.map (·.2)) vs ∧ ∀ (kvs' : List (Key × V)) es, Reps (rc X) (vis Z L H) (kvs'.map (·.2)) es → RlO (rc X) Z H₀ (upd H a (.dK kvs')) L (P ++ σ) (PS ++ α.set i (.od (kvs'.map fun p => kD p.1) es)) := by
  have hs : (PS ++ α)[PS.length + i]? = some (.od ks vs) := by rw [List.getElem?_append_right (by omega)]; simpa using h
  obtain ⟨a, g1, g2, g3, put⟩ := r.put hs rfl
  rw [List.getElem?_append_right (by omega), ← hp, Nat.add_sub_cancel_left, hx] at g1
  cases g1
  have fin : ∀ {s : SV} {o : Option V} {as : List Addr}, Ent (rc X) (vis Z L H) H o s as → s = .od ks vs → o = some (.ref a) → ∃ kvs : List (Key × V), H a = some (.dK kvs) ∧ ks = kvs.map (fun p => kD p.1) ∧ Reps (rc X) (vis Z L H) (kvs.map (·.2)) vs := by
    intro s o as en hs ho
    cases en with
    | odK hH rp => cases hs; cases ho; exact ⟨_, hH, rfl, rp⟩
    | odT hne hH r kq q =>
      cases hs
      exact absurd (flat_tups r hf).1 hne
    | _ => cases hs
  obtain ⟨kvs, hH, ek, rp⟩ := fin g3 rfl rfl
  refine ⟨a, kvs, rfl, hH, ek, rp, fun kvs' es q => ?_⟩
  have g := put (.dK kvs') (.od (kvs'.map fun p => kD p.1) es) (.odK upd_same q)
  have e2 : (PS ++ α).set (PS.length + i) (.od (kvs'.map fun p => kD p.1) es) = PS ++ α.set i (.od (kvs'.map fun p => kD p.1) es) := by rw [List.set_append, if_neg (by omega), Nat.add_sub_cancel_left]
  rw [e2] at g
  exact g
theorem ls_put {i : Nat} {kx : Expr} (hu : X.A.units + 1 < cLine) (ho : PE X o (tVar i)) (hk : PE X kx (lift X G ca)) (hv : PE X value (lift X G cb)) (hs : swapsWith value (some (.Subscript o kx pos')) pos.line X.env = pure false) :
    PS X (.Assign [.Subscript o kx pos'] value pos) (liftS X G (.put i ca cb)) := PS.mono (ps_putG (set_own hu) ho hk hv hs) fun E σ H q => by
  obtain ⟨Z, H₀, tvs, ts, α, st, fl, e, k⟩ := q
  rw [denS] at e
  split at e
  · cases e
  · rename_i hun
    obtain ⟨⟨rv, α1⟩, e1, e⟩ := Res.bind_ok e
    obtain ⟨⟨rk, α2⟩, e2, e⟩ := Res.bind_ok e
    obtain ⟨s0, h0, hs0⟩ := isUn_no hun
    obtain ⟨x, hx⟩ := st.held h0 hs0
    refine ⟨Z, H₀, tvs, ts, α, st, rv, α1, e1, fun v H1 hv rl1 => ⟨x, hx, Z, H₀, some v :: tvs, rv :: ts, α1, st.push rl1, rk, α2, e2, fun y H2 hy rl2 => ?_⟩⟩
    have rl3 := Rl.fz (i := 1) rl2 rfl hv
    obtain ⟨L, rr⟩ := rl3
    have rr : RlO (rc X) Z H₀ H2 L ((some y :: some v :: tvs) ++ σ) ((rk :: .v rv.d :: ts) ++ α2) := rr
    obtain ⟨v', g1, rpv⟩ := rr.rep (i := 1) rfl
    have ev : v = v' := by simpa using g1
    subst ev
    have iy : In (rc X) Z L H2 y rk := In.of rr (j := 0) rfl rfl hy
    have hP : (some y :: some v :: tvs).length = (rk :: SV.v rv.d :: ts).length := by simp [st.len]
    have back : ∀ {H' : Hp} {ss : SV}, RlO (rc X) Z H₀ H' L ((some y :: some v :: tvs) ++ σ) ((rk :: .v rv.d :: ts) ++ α2.set i ss) → Rl (rc X) Z H₀ H' (tvs ++ σ) (ts ++ α2.set i ss) := fun r => Rl.drop (Rl.drop ⟨L, r⟩)
    dsimp only at e
    cases hq : α2[i]? with
    | none => rw [hq] at e; cases e
    | some s =>
      rw [hq] at e
      obtain ⟨s', e3, e⟩ := Res.bind_ok (show (putSV s rk rv.d >>= fun s' => Res.ok (Fl.nx (α2.set i s'))) = Res.ok fl from e)
      cases e
      rcases putSV_ok e3 with ⟨ks, vs, nk, rfl, hnk, c1, c2, c3, rfl⟩ | ⟨ds, j, n, rfl, rfl, hn, rfl⟩
      · left
        obtain ⟨kk, rfl, ek, _⟩ := flat_key iy c1
        have enk : nk = nkD kk := by
          rw [ek, keyOf_kD] at hnk
          exact (Option.some.inj hnk).symm
        subst enk
        obtain ⟨a, kvs, rfl, hH, rfl, rp, put⟩ := own_dict hP rr hq hx c2
        refine ⟨a, kvs, kk, rfl, hH, rfl, by simpa using c3, k σ _ (.refl _ _) ?_⟩
        obtain ⟨q1, q2⟩ := put_kD (k := kk) rp rpv
        rw [ek, q1]
        exact back (put _ _ q2)
      · right
        have := iy.int
        subst this
        obtain ⟨a, xs, rfl, hH, rp, put⟩ := own_list hP rr hq hx
        exact ⟨a, xs, j, n, rfl, rfl, hH, by rw [rp.length]; exact hn, k σ _ (.refl _ _) (back (put _ _ (rp.set n rpv)))⟩

/-! ### o.f = v -/
theorem put_fs {R : RC} {V₀ : Hp} {f : Str} {v : V} {d : D} (rv : Rep R V₀ v d) : ∀ {fs : List (Str × V)} {ds : List D}, Reps R V₀ (fs.map (·.2)) ds →
    (fieldPut (fs.map (·.1)) ds f d).1 = (putF f v fs).map (·.1) ∧ Reps R V₀ ((putF f v fs).map (·.2)) (fieldPut (fs.map (·.1)) ds f d).2
  | [], _, r => by
    cases r
    exact ⟨rfl, .cons rv .nil⟩
  | p :: fs, _, r => by
    rw [List.map_cons] at r
    cases r with
    | cons r1 r2 =>
      obtain ⟨q1, q2⟩ := put_fs rv r2
      rw [List.map_cons, fieldPut, putF]
      by_cases h : p.1 = f
      · rw [if_pos h, if_pos h]
        exact ⟨rfl, .cons rv r2⟩
      · rw [if_neg h, if_neg h]
        exact ⟨by simp [q1], .cons r1 q2⟩
/-- the slot's object -/
theorem own_obj {Z : Addr → Prop} {H₀ H : Hp} {L : List Addr} {P : List (Option V)} {PS : List SV} {σ : L2.St} {α : AEnv} {i : Nat} {c : Str} {ns : List Str} {vs : List D} {x : V} (hp : P.length = PS.length) (r : RlO (rc X) Z H₀ H L (P ++ σ) (PS ++ α)) (h : α[i]? = some (.oi c ns vs)) (hx : σ[i]? = some (some x)) :
    ∃ (a C dx : Addr) (fs : List (Str × V)), x = .ref a ∧ X.mg c = some (.ref C) ∧ H a = some (.ins C dx fs) ∧ ns = fs.map (·.1) ∧ Reps (rc X) (vis Z L H) (fs.map (·.2)) vs ∧ ∀ (fs' : List (Str × V)) es, Reps (rc X) (vis Z L H) (fs'.map (·.2)) es → RlO (rc X) Z H₀ (upd H a (.ins C dx fs')) L (P ++ σ) (PS ++ α.set i (.oi c (fs'.map (·.1)) es)) := by
  have hs : (PS ++ α)[PS.length + i]? = some (.oi c ns vs) := by rw [List.getElem?_append_right (by omega)]; simpa using h
  obtain ⟨a, g1, g2, g3, put⟩ := r.put hs rfl
  rw [List.getElem?_append_right (by omega), ← hp, Nat.add_sub_cancel_left, hx] at g1
  cases g1
  have fin : ∀ {s : SV} {o : Option V} {as : List Addr}, Ent (rc X) (vis Z L H) H o s as → s = .oi c ns vs → o = some (.ref a) → ∃ (C dx : Addr) (fs : List (Str × V)), X.mg c = some (.ref C) ∧ H a = some (.ins C dx fs) ∧ ns = fs.map (·.1) ∧ Reps (rc X) (vis Z L H) (fs.map (·.2)) vs := by
    intro s o as en hs ho
    cases en with
    | oi m hH rp => cases hs; cases ho; exact ⟨_, _, _, m, hH, rfl, rp⟩
    | _ => cases hs
  obtain ⟨C, dx, fs, m, hH, ek, rp⟩ := fin g3 rfl rfl
  refine ⟨a, C, dx, fs, rfl, m, hH, ek, rp, fun fs' es q => ?_⟩
  have g := put (.ins C dx fs') (.oi c (fs'.map (·.1)) es) (.oi m upd_same q)
  have e2 : (PS ++ α).set (PS.length + i) (.oi c (fs'.map (·.1)) es) = PS ++ α.set i (.oi c (fs'.map (·.1)) es) := by rw [List.set_append, if_neg (by omega), Nat.add_sub_cancel_left]
  rw [e2] at g
  exact g
theorem ls_fset {i : Nat} {f' : Str} (hG : GOk X G) (ho : PE X o (tVar i)) (hv : PE X value (lift X G ca)) (hs : swapsWith value (some (.Attribute o f' pos')) pos.line X.env = pure false) : PS X (.Assign [.Attribute o f' pos'] value pos) (liftS X G (.fset i f' ca)) := PS.mono (ps_fld ho hv hs) fun E σ H q => by
  obtain ⟨Z, H₀, tvs, ts, α, st, fl, e, k⟩ := q
  rw [denS] at e
  split at e
  · cases e
  · rename_i hun
    obtain ⟨⟨rv, α1⟩, e1, e⟩ := Res.bind_ok e
    obtain ⟨s0, h0, hs0⟩ := isUn_no hun
    obtain ⟨x, hx⟩ := st.held h0 hs0
    refine ⟨Z, H₀, tvs, ts, α, st, rv, α1, e1, fun v H1 hv rl1 => ⟨x, hx, ?_⟩⟩
    dsimp only at e
    cases hq : α1[i]? with
    | none => rw [hq] at e; cases e
    | some so =>
      rw [hq] at e
      cases so with
      | oi c ns vs =>
        obtain ⟨cnd, e⟩ := ite_ok (show (if (G.fld c f' && decide (ns.length < 1000)) = true then Res.ok (Fl.nx (α1.set i (.oi c (fieldPut ns vs f' rv.d).1 (fieldPut ns vs f' rv.d).2))) else .fail) = .ok fl from e)
        cases e
        rw [Bool.and_eq_true, decide_eq_true_eq] at cnd
        obtain ⟨L0, r0⟩ := rl1
        obtain ⟨L, _, rr⟩ := RlO.fz0 r0 hv
        obtain ⟨v', g1, rpv⟩ := rr.rep (i := 0) rfl
        have ev : v = v' := by simpa using g1
        subst ev
        have hP : (some v :: tvs).length = (SV.v rv.d :: ts).length := by simp [st.len]
        obtain ⟨a, C, dx, fs, rfl, m, hH, rfl, rp, put⟩ := own_obj (P := some v :: tvs) (PS := .v rv.d :: ts) hP rr hq hx
        obtain ⟨h1, h2⟩ := hG.fld _ _ _ cnd.1 m
        obtain ⟨q1, q2⟩ := put_fs (f := f') rpv rp
        refine ⟨a, C, dx, fs, rfl, hH, h1, h2, by simpa using cnd.2, k σ _ (.refl _ _) ?_⟩
        rw [q1]
        exact Rl.drop ⟨L, put _ _ q2⟩
      | _ => cases e
end
end Dv

set_option Elab.async false
set_option linter.all false
set_option maxRecDepth 100000
set_option maxHeartbeats 4000000
/-! dict comprehensions, flat keys -/
namespace Dv
open PySem PySem.Spec PyProof.Rows L2
section
variable {X : Cx} {G : GEnv} {p pos : Pos} {tg a b e : Expr} {es : List Expr} {ca cb cc : CE}
theorem dc_turns {turn : D → AEnv → Res ((D × D) × AEnv)} {own : List Nat} {d : D} {ds : List D} {α : AEnv} {r : List D × List D} {q : (List D × List D) × AEnv} (h : dcGo turn own (d :: ds) α r = .ok q) :
    ∃ k v α1 x, turn d α = .ok ((k, v), α1) ∧ keyOf k = some x ∧ flatKey k = true ∧ r.1.length < sizeLine ∧ dcGo turn own ds (wipeA α1 own) (dctPut r.1 r.2 k v x) = .ok q := by
  rw [dcGo] at h
  cases ht : turn d α with
  | ok pr =>
    rw [ht] at h
    obtain ⟨⟨k, v⟩, α1⟩ := pr
    dsimp only at h
    cases hk : keyOf k with
    | none => rw [hk] at h; cases h
    | some x =>
      rw [hk] at h
      obtain ⟨c, h⟩ := ite_ok h
      rw [Bool.and_eq_true, decide_eq_true_eq] at c
      exact ⟨k, v, α1, x, rfl, hk, c.1, c.2, h⟩
  | exc c ns vs => rw [ht] at h; cases h
  | fail => rw [ht] at h; cases h
/-- an owned dict among the entries -/
theorem RlO.ownD {Z : Addr → Prop} {H₀ H : Hp} {L : List Addr} {os : List (Option V)} {ss : List SV} {j : Nat} {ks vs : List D} (r : RlO (rc X) Z H₀ H L os ss) (h : ss[j]? = some (.od ks vs)) (hf : ks.all flatKey = true) :
    ∃ (a : Addr) (kvs : List (Key × V)), os[j]? = some (some (.ref a)) ∧ H a = some (.dK kvs) ∧ ks = kvs.map (fun p => kD p.1) ∧ Reps (rc X) (vis Z L H) (kvs.map (·.2)) vs ∧ ∀ (kvs' : List (Key × V)) es, Reps (rc X) (vis Z L H) (kvs'.map (·.2)) es → RlO (rc X) Z H₀ (upd H a (.dK kvs')) L os (ss.set j (.od (kvs'.map fun p => kD p.1) es)) := by
  obtain ⟨a, g1, g2, g3, put⟩ := r.put h rfl
  have fin : ∀ {s : SV} {o : Option V} {as : List Addr}, Ent (rc X) (vis Z L H) H o s as → s = .od ks vs → o = some (.ref a) → ∃ kvs : List (Key × V), H a = some (.dK kvs) ∧ ks = kvs.map (fun p => kD p.1) ∧ Reps (rc X) (vis Z L H) (kvs.map (·.2)) vs := by
    intro s o as en hs ho
    cases en with
    | odK hH rp => cases hs; cases ho; exact ⟨_, hH, rfl, rp⟩
    | odT hne hH r kq q => cases hs; exact absurd (flat_tups r hf).1 hne
    | _ => cases hs
  obtain ⟨kvs, hH, ek, rp⟩ := fin g3 rfl rfl
  exact ⟨a, kvs, g1, hH, ek, rp, fun kvs' es q => put _ _ (.odK upd_same q)⟩
theorem flats (kvs : List (Key × V)) : (kvs.map fun p => kD p.1).all flatKey = true := by
  rw [List.all_map]
  exact List.all_eq_true.mpr fun p _ => kD_flat p.1
theorem use_dc {own : List Nat} {t : Tgt} {it : CI} {kk vv : CE} {σ : L2.St} {H : Hp} {Q : VK} (h : lift X G (.dc own t it kk vv) σ H Q) (hnd : own.Nodup) (ht : ∀ i ∈ tgts t, i ∈ own) :
    tDc (liftI X G it) (tgG X.K t) tYes (lift X G kk) (lift X G vv) own σ H Q := by
  obtain ⟨Z, H₀, tvs, ts, α, st, r, α', e, k⟩ := h
  simp only [den] at e
  obtain ⟨⟨xs, α1⟩, e1, e⟩ := Res.bind_ok e
  obtain ⟨⟨fin, α2⟩, e2, e⟩ := Res.bind_ok e
  cases e
  refine ⟨Z, H₀, tvs, ts, α, st, xs, α1, e1, fun J H1 cs ces hcs rl wk A hA => ?_⟩
  have hsl : (Dv.stash α1 own).length = own.length := by unfold Dv.stash; rw [List.length_map]
  have hP : (cs ++ tvs).length = (ces ++ ts).length := by simp [hcs, st.len]
  have rl0 : Rl (rc X) Z H₀ H1 ((cs ++ tvs) ++ σ) ((ces ++ ts) ++ α1) := by rw [List.append_assoc, List.append_assoc]; exact rl
  have rl1 := Rl.stash rl0 hP own hnd
  generalize hsts : own.map (fun i => σ.getD i none) = sts at rl1
  have hstl : sts.length = own.length := by rw [← hsts, List.length_map]
  have rl2 : Rl (rc X) Z H₀ (upd H1 A (.dK [])) (some (.ref A) :: (sts ++ ((cs ++ tvs) ++ L2.wipe σ own))) (.od [] [] :: (Dv.stash α1 own ++ ((ces ++ ts) ++ wipeA α1 own))) := by
    obtain ⟨L, rr⟩ := rl1
    exact rr.newD hA
  refine ⟨fun i m H => m = xs.length - i ∧ ∃ cur β, cur.1.all flatKey = true ∧ dcGo _ own (xs.drop i) β cur = .ok (fin, α2) ∧ Rl (rc X) Z H₀ H (some (.ref A) :: (sts ++ ((cs ++ tvs) ++ L2.wipe σ own))) (.od cur.1 cur.2 :: (Dv.stash α1 own ++ ((ces ++ ts) ++ β))), ⟨_, rfl, ([], []), _, rfl, e2, rl2⟩, ?_⟩
  rintro i m H2 ⟨rfl, cur, β, hcf, hgo, rl3⟩
  have h3 : (some (V.ref A) :: sts).length = (SV.od cur.1 cur.2 :: Dv.stash α1 own).length := by simp [hstl, hsl]
  have rl4 : Rl (rc X) Z H₀ H2 ((some (.ref A) :: sts) ++ (cs ++ (tvs ++ L2.wipe σ own))) ((.od cur.1 cur.2 :: Dv.stash α1 own) ++ (ces ++ (ts ++ β))) := by
    have q := rl3
    rw [List.append_assoc, List.append_assoc] at q
    exact q
  have rl5 := Rl.rot h3 hcs rl4
  obtain ⟨wgo, wstop⟩ := wk _ _ i H2 _ _ rl5
  by_cases hi : i < xs.length
  · right
    have hd : xs[i]? = some xs[i] := List.getElem?_eq_getElem hi
    obtain ⟨g1, g2⟩ := wgo _ hd
    rw [List.drop_eq_getElem_cons hi] at hgo
    obtain ⟨kd, vd, β1, nk, t1, hnk, hfk, hlen, t2⟩ := dc_turns hgo
    have nf : (dctPut cur.1 cur.2 kd vd nk).1.all flatKey = true := by
      unfold dctPut
      split
      · exact hcf
      · rw [List.all_append, hcf]; simp [hfk]
    refine ⟨g1, fun H' => Rl (rc X) Z H₀ H' (some (.ref A) :: (sts ++ ((cs ++ tvs) ++ L2.wipe σ own))) (.od (dctPut cur.1 cur.2 kd vd nk).1 (dctPut cur.1 cur.2 kd vd nk).2 :: (Dv.stash α1 own ++ ((ces ++ ts) ++ wipeA β1 own))), fun H' nx => ⟨_, by omega, rfl, dctPut cur.1 cur.2 kd vd nk, _, nf, t2, nx⟩, fun x H' hy => ?_⟩
    obtain ⟨L, rr, rx⟩ := g2 x H' hy
    obtain ⟨L', hv, rr'⟩ := rr.rot hcs h3
    rw [← hv] at rx
    have t1' : (asg t xs[i] β >>= fun β1 => den G kk β1 >>= fun q => den G vv q.2 >>= fun w => .ok ((q.1.d, w.1.d), w.2)) = .ok ((kd, vd), β1) := t1
    obtain ⟨γ1, u1, t1'⟩ := Res.bind_ok t1'
    obtain ⟨⟨rk, γ2⟩, u2, t1'⟩ := Res.bind_ok t1'
    obtain ⟨⟨rv, γ3⟩, u3, t1'⟩ := Res.bind_ok t1'
    cases t1'
    have hPl : (some (V.ref A) :: (sts ++ (cs ++ tvs))).length = (SV.od cur.1 cur.2 :: (Dv.stash α1 own ++ (ces ++ ts))).length := by simp [hstl, hsl, hcs, st.len]
    have rr2 : RlO (rc X) Z H₀ H' L' ((some (.ref A) :: (sts ++ (cs ++ tvs))) ++ L2.wipe σ own) ((.od cur.1 cur.2 :: (Dv.stash α1 own ++ (ces ++ ts))) ++ β) := by
      have q := rr'
      simpa [List.append_assoc] using q
    refine asg_use hPl u1 rr2 rx fun σ2 l2 k2 rl6 => ?_
    have hw : L2.wipe σ2 own = L2.wipe σ own := by
      rw [← wipe_wipe (σ := σ) own]
      exact wipe_ext l2 fun j hj => k2 j fun m => hj (ht j m)
    refine ⟨hw, ?_⟩
    unfold tYes
    dsimp only
    rw [if_pos rfl]
    refine ⟨Z, H₀, _, _, γ1, ⟨hPl, rl6⟩, rk, γ2, u2, fun y H4 hu rl7 => ?_⟩
    refine ⟨Z, H₀, some y :: (some (.ref A) :: (sts ++ (cs ++ tvs))), rk :: (.od cur.1 cur.2 :: (Dv.stash α1 own ++ (ces ++ ts))), γ2, ⟨by simp [hstl, hsl, hcs, st.len], rl7⟩, rv, γ3, u3, fun z H5 hz rl8 => ?_⟩
    obtain ⟨L8, r8⟩ := rl8
    obtain ⟨L9, _, r9⟩ := RlO.fz0 r8 hz
    obtain ⟨z', g3, g4⟩ := r9.rep (i := 0) rfl
    have ez : z = z' := by simpa using g3
    subst ez
    have iy : In (rc X) Z L9 H5 y rk := In.of r9 (j := 1) rfl rfl hu
    obtain ⟨key, rfl, ek, _⟩ := flat_key iy hfk
    have enk : nk = nkD key := by
      have hnk : keyOf rk.d = some nk := hnk
      rw [ek, keyOf_kD] at hnk
      exact (Option.some.inj hnk).symm
    subst enk
    obtain ⟨b, kvs, p1, hH, ekv, rp, put⟩ := r9.ownD (j := 2) (ks := cur.1) (vs := cur.2) rfl hcf
    have eb : b = A := by
      have : some (some (V.ref A)) = some (some (V.ref b)) := p1
      cases this
      rfl
    subst eb
    refine ⟨kvs, key, rfl, hH, ?_, ?_⟩
    · rw [ekv, List.length_map] at hlen
      exact hlen
    · obtain ⟨q1, q2⟩ := put_kD (k := key) rp g4
      have g := put (putK kvs key z) _ q2
      have ep : dctPut cur.1 cur.2 rk.d rv.d (nkD key) = ((putK kvs key z).map (fun p => kD p.1), (dctPut (kvs.map fun p => kD p.1) cur.2 (kD key) rv.d (nkD key)).2) := by
        rw [ek, ekv, ← q1]
      have g5 : Rl (rc X) Z H₀ (upd H5 b (.dK (putK kvs key z))) ((some (.ref b) :: (sts ++ (cs ++ tvs))) ++ σ2) ((.od ((putK kvs key z).map fun p => kD p.1) (dctPut (kvs.map fun p => kD p.1) cur.2 (kD key) rv.d (nkD key)).2 :: (Dv.stash α1 own ++ (ces ++ ts))) ++ γ3) := Rl.drop (Rl.drop ⟨L9, g⟩)
      have q := Rl.wipeAll g5 (by simp [hstl, hsl, hcs, st.len]) own
      rw [hw] at q
      show Rl (rc X) Z H₀ _ _ (.od (dctPut cur.1 cur.2 rk.d rv.d (nkD key)).1 (dctPut cur.1 cur.2 rk.d rv.d (nkD key)).2 :: _)
      rw [ep]
      simpa [List.append_assoc] using q
  · left
    rw [List.drop_eq_nil_of_le (by omega), dcGo] at hgo
    cases hgo
    refine ⟨wstop (by omega), ?_⟩
    have q1 : Rl (rc X) Z H₀ H2 ([some (.ref A)] ++ (sts ++ (tvs ++ L2.wipe σ own))) ([.od fin.1 fin.2] ++ (Dv.stash α1 own ++ (ts ++ α2))) := Rl.drops hcs rl5
    have q2 := Rl.rot (as := [some (.ref A)]) (bs := sts) (ts := [.od fin.1 fin.2]) (us := Dv.stash α1 own) rfl (by rw [hstl, hsl]) q1
    have q3 : Rl (rc X) Z H₀ H2 (sts ++ ((some (.ref A) :: tvs) ++ L2.wipe σ own)) (Dv.stash α1 own ++ ((.od fin.1 fin.2 :: ts) ++ α2)) := q2
    have q4 := Rl.back (vs := own) hstl hsl (by simp [st.len]) q3
    rw [← hsts, backO_eq (L2.wipe_length σ own) (fun i m => wipe_out m)] at q4
    exact k (.ref A) H2 (fun z => nomatch z) q4
theorem le_dc {kx vx iter : Expr} {scope : Scope} {own : List (Str × Nat)} {t : Tgt} {it : CI} {ck cv : CE} (hc : X.calm = true) (hN : X.N.Nodup) (hi : PI X tg iter (liftI X G it)) (ok : BlkOk X.N X.env.scope scope own)
    (hg : ∀ (s : Shared) (H : Hp) (C : Addr) (cl : List (Str × Addr)) (fp : List Addr), PG (X.blk s H scope (compEnvC scope cl C X.env) fp) tg (tgG X.K t)) (hk : ∀ (s : Shared) (H : Hp) (C : Addr) (cl : List (Str × Addr)) (fp : List Addr), PE (X.blk s H scope (compEnvC scope cl C X.env) fp) kx (lift X G ck))
    (hv : ∀ (s : Shared) (H : Hp) (C : Addr) (cl : List (Str × Addr)) (fp : List Addr), PE (X.blk s H scope (compEnvC scope cl C X.env) fp) vx (lift X G cv)) (hs : ∀ x, foldedSetIterable iter X.env x = pure x) (hnd : (own.map (·.2)).Nodup) (hin : ∀ i ∈ tgts t, i ∈ own.map (·.2)) :
    PE X (.DictComp kx vx [⟨tg, iter, [], 0⟩] scope pos) (lift X G (.dc (own.map (·.2)) t it ck cv)) :=
  PE.mono (pe_dc hc hN hi ok hg (fun _ _ _ _ _ => pts_nil) hk hv hs) fun _ _ _ q => use_dc q hnd hin
theorem ps_setDc {i : Nat} {y : Str} {py spos : Pos} {kx vx iter : Expr} {scope : Scope} {own : List (Str × Nat)} {wi : TI} {g : TG} {tk tv : TE} (hc : X.calm = true) (hN : X.N.Nodup) (hy : X.N[i]? = some y) (hyl : X.env.scope.names.lookup y = some .local)
    (hsw : swapsWith (.DictComp kx vx [⟨tg, iter, [], 0⟩] scope pos) (some (.Name y py)) spos.line X.env = pure true) (hi : PI X tg iter wi) (ok : BlkOk X.N X.env.scope scope own)
    (hg : ∀ (s : Shared) (H : Hp) (C : Addr) (cl : List (Str × Addr)) (fp : List Addr), PG (X.blk s H scope (compEnvC scope cl C X.env) fp) tg g) (hk : ∀ (s : Shared) (H : Hp) (C : Addr) (cl : List (Str × Addr)) (fp : List Addr), PE (X.blk s H scope (compEnvC scope cl C X.env) fp) kx tk)
    (hv : ∀ (s : Shared) (H : Hp) (C : Addr) (cl : List (Str × Addr)) (fp : List Addr), PE (X.blk s H scope (compEnvC scope cl C X.env) fp) vx tv) (hs : ∀ x, foldedSetIterable iter X.env x = pure x) :
    PS X (.Assign [.Name y py] (.DictComp kx vx [⟨tg, iter, [], 0⟩] scope pos) spos) (tAsg (tDc wi g tYes tk tv (own.map (·.2))) (gName i)) := by
  refine ⟨fun pins s σ H E I h => ?_⟩
  rw [exec_Assign_Name_used _ _ _ _ hsw]
  refine wpAny_bind (wpAny_standAt (wpAny_bind ?_))
  have start : wpAny (model X.prog X.w) X.A (comprehension (.DictComp kx vx [⟨tg, iter, [], 0⟩] scope pos) scope X.env (firstIterPos [⟨tg, iter, [], 0⟩] pos) newDict false (eval iter X.env) (some (assign (.Name y py) X.env))) (fun _ s' => SP X pins E .next s') X.xe s := by
    refine dc_core (Q := fun x H1 => gName i x σ H1 E.nx) hc hN I hi ok hg (fun _ _ _ _ _ => pts_nil) hk hv hs h fun A B s1 m H1 I1 q hn f => ?_
    show wpAny _ _ (assign (.Name y py) X.env (.ref A)) _ _ _
    obtain ⟨f0, f1, f2, f3, f4, f5⟩ := f
    refine wpAny_assign_Name (store_ok2 (v := V.ref A) I1 hN hy (.inl hyl) rfl (fun s2 I2 ⟨b, sb, hb⟩ => ?_) (.inr hyl))
    have ne : B ≠ b := hb.elim (fun z => by rw [z]; exact f1) fun z e => f4 y b z e.symm
    exact ⟨m, hn.sameBut sb ne, fun h3 sb3 => ⟨_, H1, I2.turned (t' := s2.toks) (fun b o hb e => (sb3.2 b hb).trans e) f0 f1 f3 f4 f5, q⟩⟩
  show wpAny _ X.A (do let _ ← comprehension (.DictComp kx vx [⟨tg, iter, [], 0⟩] scope pos) scope X.env (firstIterPos [⟨tg, iter, [], 0⟩] pos) newDict false (eval iter X.env) (some (assign (.Name y py) X.env))) _ _ s
  exact wpAny_bind (thn start fun _ s' hq => wpAny_pure (wpAny_pure hq))
theorem ls_setD {i : Nat} {kx vx iter : Expr} {scope : Scope} {py spos : Pos} {y : Str} {own : List (Str × Nat)} {t : Tgt} {it : CI} {ck cv : CE} (hc : X.calm = true) (hN : X.N.Nodup) (hy : X.N[i]? = some y) (hyl : X.env.scope.names.lookup y = some .local)
    (hsw : swapsWith (.DictComp kx vx [⟨tg, iter, [], 0⟩] scope pos) (some (.Name y py)) spos.line X.env = pure true) (hi : PI X tg iter (liftI X G it)) (ok : BlkOk X.N X.env.scope scope own)
    (hg : ∀ (s : Shared) (H : Hp) (C : Addr) (cl : List (Str × Addr)) (fp : List Addr), PG (X.blk s H scope (compEnvC scope cl C X.env) fp) tg (tgG X.K t)) (hk : ∀ (s : Shared) (H : Hp) (C : Addr) (cl : List (Str × Addr)) (fp : List Addr), PE (X.blk s H scope (compEnvC scope cl C X.env) fp) kx (lift X G ck))
    (hv : ∀ (s : Shared) (H : Hp) (C : Addr) (cl : List (Str × Addr)) (fp : List Addr), PE (X.blk s H scope (compEnvC scope cl C X.env) fp) vx (lift X G cv)) (hs : ∀ x, foldedSetIterable iter X.env x = pure x) (hnd : (own.map (·.2)).Nodup) (hin : ∀ i ∈ tgts t, i ∈ own.map (·.2)) :
    PS X (.Assign [.Name y py] (.DictComp kx vx [⟨tg, iter, [], 0⟩] scope pos) spos) (liftS X G (.set i (.dc (own.map (·.2)) t it ck cv))) :=
  PS.mono (ps_setDc hc hN hy hyl hsw hi ok hg hk hv hs) fun E σ H q => by
    have h := use_asg q
    exact use_dc h hnd hin
end
end Dv

set_option Elab.async false
set_option linter.all false
set_option maxRecDepth 100000
set_option maxHeartbeats 4000000
/-! len of a set comprehension of keys -/
namespace Dv
open PySem PySem.Spec PyProof.Rows L2
section
variable {R : RC} {Z : Addr → Prop} {H₀ H : Hp} {L : List Addr} {os : List (Option V)} {ss : List SV} {b : Addr} {h h' : HO}
/-- a thing of the code's own, hidden from the tracked ones -/
def veilZ (Z : Addr → Prop) (b : Addr) : Addr → Prop := fun c => Z c ∨ c = b
theorem vis_move {Z' : Addr → Prop} {H' : Hp} (h : ∀ c o, ¬ Z c → c ∉ L → H c = some o → ¬ Z' c ∧ H' c = some o) : Sub (vis Z L H) (vis Z' L H') := .of fun c o e => by
  obtain ⟨h1, h2, h3⟩ := vis_some e
  obtain ⟨h4, h5⟩ := h c o h1 h2 h3
  exact vis_of h4 h2 h5
theorem RlO.veil (r : RlO R Z H₀ H L os ss) (hb : H b = none) : RlO R (veilZ Z b) (upd H₀ b h) (upd H b h) L os ss := by
  have nb : ∀ a ∈ L, a ≠ b := fun a m e => by
    obtain ⟨u, hu⟩ := r.owned m
    rw [e, hb] at hu
    cases hu
  refine ⟨r.ents.mono (vis_move ?_) fun a m u hu => by rw [upd_ne (nb a m)]; exact hu, r.nd, fun a m => by rw [upd_ne (nb a m)]; exact r.fresh a m, fun c o e => ?_, fun c z => ?_⟩
  · intro c o z m e
    have ne : c ≠ b := fun e' => by rw [e', hb] at e; cases e
    exact ⟨fun w => w.elim z ne, by rw [upd_ne ne]; exact e⟩
  · by_cases ne : c = b
    · subst ne
      rw [upd_same] at e ⊢
      exact e
    · rw [upd_ne ne] at e ⊢
      exact r.same _ _ e
  · by_cases ne : c = b
    · subst ne
      rw [upd_same]
      exact fun z => nomatch z
    · rw [upd_ne ne]
      exact r.zd c (z.elim id fun e => absurd e ne)
theorem RlO.reveil (r : RlO R (veilZ Z b) (upd H₀ b h) H L os ss) : H b = some h ∧ RlO R (veilZ Z b) (upd H₀ b h') (upd H b h') L os ss := by
  have hb : H b = some h := r.same b h upd_same
  have nb : ∀ a ∈ L, a ≠ b := fun a m e => by
    have q := r.fresh a m
    rw [e, upd_same] at q
    cases q
  refine ⟨hb, r.ents.mono (vis_move ?_) fun a m u hu => by rw [upd_ne (nb a m)]; exact hu, r.nd, fun a m => ?_, fun c o e => ?_, fun c z => ?_⟩
  · intro c o z m e
    have ne : c ≠ b := fun e' => z (.inr e')
    exact ⟨z, by rw [upd_ne ne]; exact e⟩
  · have q := r.fresh a m
    rw [upd_ne (nb a m)] at q ⊢
    exact q
  · by_cases ne : c = b
    · subst ne
      rw [upd_same] at e ⊢
      exact e
    · rw [upd_ne ne] at e ⊢
      exact r.same _ _ (by rw [upd_ne ne]; exact e)
  · by_cases ne : c = b
    · subst ne
      rw [upd_same]
      exact fun z => nomatch z
    · have q := r.zd c z
      rw [upd_ne ne] at q ⊢
      exact q
theorem RlO.unveil (r : RlO R (veilZ Z b) (upd H₀ b h) H L os ss) (h0 : H₀ b = none) (nz : ¬ Z b) : RlO R Z H₀ H L os ss := by
  have nb : ∀ a ∈ L, a ≠ b := fun a m e => by
    have q := r.fresh a m
    rw [e, upd_same] at q
    cases q
  refine ⟨r.ents.mono (vis_move fun c o z m e => ⟨fun w => z (.inl w), e⟩) fun a m u hu => hu, r.nd, fun a m => ?_, fun c o e => ?_, fun c z => ?_⟩
  · have q := r.fresh a m
    rw [upd_ne (nb a m)] at q
    exact q
  · have ne : c ≠ b := fun e' => by rw [e', h0] at e; cases e
    exact r.same _ _ (by rw [upd_ne ne]; exact e)
  · have ne : c ≠ b := fun e' => nz (e' ▸ z)
    have q := r.zd c (.inl z)
    rw [upd_ne ne] at q
    exact q
end

/-! ### the keys so far -/
theorem eqKy_iff {k k' : Key} : eqKy k k' = true ↔ k = k' := by
  cases k <;> cases k' <;> simp [eqKy]
theorem any_eqKy {ks : List Key} {k : Key} : ks.any (eqKy k) = true ↔ k ∈ ks := by
  rw [List.any_eq_true]
  exact ⟨fun ⟨x, h1, h2⟩ => (eqKy_iff.mp h2) ▸ h1, fun h => ⟨k, h, eqKy_iff.mpr rfl⟩⟩
theorem setOfD_snoc {es : List D} {k : Key} : setOfD (es ++ [kD k]) = putKy (setOfD es) k := by
  unfold setOfD
  rw [List.filterMap_append, List.foldl_append]
  cases k <;> rfl
theorem putKy_len {ks : List Key} {k : Key} : (putKy ks k).length = if ks.any (eqKy k) = true then ks.length else ks.length + 1 := by
  unfold putKy
  split
  · rfl
  · rw [List.length_append]
    rfl
theorem eqKy_dec {j k : Key} : decide (j = k) = eqKy j k := by
  by_cases e : j = k
  · rw [eqKy_iff.mpr e, decide_eq_true e]
  · rw [Bool.eq_false_iff.mpr (fun z => e (eqKy_iff.mp z)), decide_eq_false e]
theorem putKy_mem {ks : List Key} {k j : Key} : (putKy ks k).any (eqKy j) = (ks.any (eqKy j) || decide (j = k)) := by
  rw [eqKy_dec]
  unfold putKy
  split
  · rename_i h
    cases e : eqKy j k with
    | false => rw [Bool.or_false]
    | true => rw [eqKy_iff.mp e, h]; rfl
  · rw [List.any_append]
    simp
theorem setOfD_le (es : List D) : (setOfD es).length ≤ es.length := by
  have gen : ∀ (ks acc : List Key), (ks.foldl putKy acc).length ≤ acc.length + ks.length := by
    intro ks
    induction ks with
    | nil => exact fun acc => Nat.le_refl _
    | cons k ks ih =>
      intro acc
      have h1 := ih (putKy acc k)
      have h2 : (putKy acc k).length ≤ acc.length + 1 := by
        unfold putKy
        split
        · omega
        · simp
      rw [List.foldl_cons, List.length_cons]
      omega
  have h1 := gen (es.filterMap keyK) []
  have h2 := List.length_filterMap_le keyK es
  unfold setOfD
  simp at h1
  omega
/-- the set of the keys met -/
noncomputable def sK (X : Cx) (b : Addr) (es : List D) : HO := SetK X.prog X.w b (fun j => (setOfD es).any (eqKy j)) (setOfD es).length
section
variable {X : Cx} {G : GEnv} {p pos : Pos} {tg a b e : Expr} {es : List Expr} {ca cb cc : CE}
theorem sK_snoc {b : Addr} {es : List D} {k : Key} : SetK X.prog X.w b (fun j => (setOfD es).any (eqKy j) || decide (j = k)) (if (setOfD es).any (eqKy k) = true then (setOfD es).length else (setOfD es).length + 1) = sK X b (es ++ [kD k]) := by
  unfold sK
  rw [setOfD_snoc]
  congr 1
  · funext j
    rw [putKy_mem]
  · rw [putKy_len]
theorem use_sc {own : List Nat} {t : Tgt} {it : CI} {elt : CE} {σ : L2.St} {H : Hp} {Q : VK} (h : lift X G (.sc own t it elt) σ H Q) (hnd : own.Nodup) (ht : ∀ i ∈ tgts t, i ∈ own) :
    tScK X.prog X.w (liftI X G it) (tgG X.K t) tYes (lift X G elt) own σ H (fun x H' => ∃ b S n, [x] = [V.ref b] ∧ H' b = some (SetK X.prog X.w b S n) ∧ Q (.int n) H') := by
  obtain ⟨Z, H₀, tvs, ts, α, st, r, α', e, k⟩ := h
  simp only [den] at e
  obtain ⟨⟨xs, α1⟩, e1, e⟩ := Res.bind_ok e
  obtain ⟨⟨es, α2⟩, e2, e⟩ := Res.bind_ok e
  obtain ⟨hz, e⟩ := ite_ok e
  cases e
  rw [Bool.and_eq_true, decide_eq_true_eq] at hz
  refine ⟨Z, H₀, tvs, ts, α, st, xs, α1, e1, fun J H1 cs ces hcs rl wk A hA => ?_⟩
  have hsl : (Dv.stash α1 own).length = own.length := by unfold Dv.stash; rw [List.length_map]
  have hP : (cs ++ tvs).length = (ces ++ ts).length := by simp [hcs, st.len]
  have rl0 : Rl (rc X) Z H₀ H1 ((cs ++ tvs) ++ σ) ((ces ++ ts) ++ α1) := by rw [List.append_assoc, List.append_assoc]; exact rl
  have nz : ¬ Z A ∧ H₀ A = none := by
    obtain ⟨L, rr⟩ := rl0
    refine ⟨fun z => rr.zdH z hA, ?_⟩
    cases q : H₀ A with
    | none => rfl
    | some u => rw [rr.same _ _ q] at hA; cases hA
  have rl1 := Rl.stash rl0 hP own hnd
  generalize hsts : own.map (fun i => σ.getD i none) = sts at rl1
  have hstl : sts.length = own.length := by rw [← hsts, List.length_map]
  have rl2 : Rl (rc X) (veilZ Z A) (upd H₀ A (sK X A [])) (upd H1 A (sK X A [])) (sts ++ ((cs ++ tvs) ++ L2.wipe σ own)) (Dv.stash α1 own ++ ((ces ++ ts) ++ wipeA α1 own)) := by
    obtain ⟨L, rr⟩ := rl1
    exact ⟨L, rr.veil hA⟩
  refine ⟨fun i m H => m = xs.length - i ∧ ∃ es0 β es', es0 ++ es' = es ∧ lcGo _ own (xs.drop i) β = .ok (es', α2) ∧ Rl (rc X) (veilZ Z A) (upd H₀ A (sK X A es0)) H (sts ++ ((cs ++ tvs) ++ L2.wipe σ own)) (Dv.stash α1 own ++ ((ces ++ ts) ++ β)), ⟨_, rfl, [], _, es, rfl, e2, rl2⟩, ?_⟩
  rintro i m H2 ⟨rfl, es0, β, es', hes, hgo, rl3⟩
  have h3 : sts.length = (Dv.stash α1 own).length := by simp [hstl, hsl]
  have rl4 : Rl (rc X) (veilZ Z A) (upd H₀ A (sK X A es0)) H2 (sts ++ (cs ++ (tvs ++ L2.wipe σ own))) (Dv.stash α1 own ++ (ces ++ (ts ++ β))) := by
    have q := rl3
    rw [List.append_assoc, List.append_assoc] at q
    exact q
  have rl5 := Rl.rot h3 hcs rl4
  obtain ⟨wgo, wstop⟩ := wk _ _ i H2 _ _ rl5
  by_cases hi : i < xs.length
  · right
    have hd : xs[i]? = some xs[i] := List.getElem?_eq_getElem hi
    obtain ⟨g1, g2⟩ := wgo _ hd
    rw [List.drop_eq_getElem_cons hi] at hgo
    obtain ⟨es1, β1, r2, t1, t2, t3⟩ := lc_turns hgo
    obtain ⟨es2, α3⟩ := r2
    injection t3 with t3 t4
    subst t3 t4
    refine ⟨g1, fun H' => Rl (rc X) (veilZ Z A) (upd H₀ A (sK X A (es0 ++ es1))) H' (sts ++ ((cs ++ tvs) ++ L2.wipe σ own)) (Dv.stash α1 own ++ ((ces ++ ts) ++ wipeA β1 own)), fun H' nx => ⟨_, by omega, rfl, es0 ++ es1, _, es2, by rw [List.append_assoc]; exact hes, t2, nx⟩, fun x H' hy => ?_⟩
    obtain ⟨L, rr, rx⟩ := g2 x H' hy
    obtain ⟨L', hv, rr'⟩ := rr.rot hcs h3
    rw [← hv] at rx
    have t1' : (asg t xs[i] β >>= fun β1 => den G elt β1 >>= fun p => .ok ([p.1.d], p.2)) = .ok (es1, β1) := t1
    obtain ⟨γ1, u1, t1'⟩ := Res.bind_ok t1'
    obtain ⟨⟨rv, γ3⟩, u3, t1'⟩ := Res.bind_ok t1'
    cases t1'
    have hPl : (sts ++ (cs ++ tvs)).length = (Dv.stash α1 own ++ (ces ++ ts)).length := by simp [hstl, hsl, hcs, st.len]
    have rr2 : RlO (rc X) (veilZ Z A) (upd H₀ A (sK X A es0)) H' L' ((sts ++ (cs ++ tvs)) ++ L2.wipe σ own) ((Dv.stash α1 own ++ (ces ++ ts)) ++ β) := by
      have q := rr'
      simpa [List.append_assoc] using q
    refine asg_use hPl u1 rr2 rx fun σ2 l2 k2 rl6 => ?_
    have hw : L2.wipe σ2 own = L2.wipe σ own := by
      rw [← wipe_wipe (σ := σ) own]
      exact wipe_ext l2 fun j hj => k2 j fun m => hj (ht j m)
    refine ⟨hw, ?_⟩
    unfold tYes
    dsimp only
    rw [if_pos rfl]
    refine ⟨_, _, _, _, γ1, ⟨hPl, rl6⟩, rv, γ3, u3, fun y H4 hu rl8 => ?_⟩
    obtain ⟨L8, r8⟩ := rl8
    obtain ⟨L9, _, r9⟩ := RlO.fz0 r8 hu
    have iy : In (rc X) (veilZ Z A) L9 H4 y (.v rv.d) := In.of r9 (j := 0) rfl rfl (fun z => nomatch z)
    have hf : flatKey rv.d = true := by
      have q := hz.1
      rw [← hes, List.all_append, List.all_append, Bool.and_eq_true, Bool.and_eq_true] at q
      have q2 := q.2.1
      simpa using q2
    obtain ⟨key, rfl, ek, _⟩ := flat_key iy hf
    have ek : rv.d = kD key := ek
    obtain ⟨L10, _, r10⟩ := r9.drop
    obtain ⟨hA4, r11⟩ := r10.reveil (h' := sK X A (es0 ++ [rv.d]))
    refine ⟨key, _, _, rfl, hA4, ?_, ?_⟩
    · have q1 := setOfD_le es0
      have q2 := hz.2
      rw [← hes, List.length_append] at q2
      have : scanBound = 4096 := rfl
      omega
    · rw [sK_snoc, ← ek]
      have q := Rl.wipeAll ⟨L10, r11⟩ hPl own
      rw [hw] at q
      simpa [List.append_assoc] using q
  · left
    rw [List.drop_eq_nil_of_le (by omega)] at hgo
    rw [lcGo] at hgo
    cases hgo
    rw [List.append_nil] at hes
    subst hes
    refine ⟨wstop (by omega), A, (fun j => (setOfD es0).any (eqKy j)), (setOfD es0).length, rfl, ?_, ?_⟩
    · obtain ⟨L, rr⟩ := rl5
      exact (rr.reveil (h' := sK X A [])).1
    · have rl6 : Rl (rc X) Z H₀ H2 (cs ++ (sts ++ (tvs ++ L2.wipe σ own))) (ces ++ (Dv.stash α1 own ++ (ts ++ α2))) := by
        obtain ⟨L, rr⟩ := rl5
        exact ⟨L, rr.unveil nz.2 nz.1⟩
      have q1 : Rl (rc X) Z H₀ H2 (sts ++ (tvs ++ L2.wipe σ own)) (Dv.stash α1 own ++ (ts ++ α2)) := Rl.drops hcs rl6
      have q4 := Rl.back (vs := own) hstl hsl st.len q1
      rw [← hsts, backO_eq (L2.wipe_length σ own) (fun i m => wipe_out m)] at q4
      obtain ⟨L, q5⟩ := q4
      exact k (.int _) H2 (fun z => nomatch z) ⟨L, q5.val (.int _)⟩
theorem le_lsc {elt iter : Expr} {scope : Scope} {own : List (Str × Nat)} {t : Tgt} {it : CI} {celt : CE} {p1 : Pos} (hc : X.calm = true) (hN : X.N.Nodup) (hgl : Gl X "len") (hm : X.mg "len" = none) (hi : PI X tg iter (liftI X G it)) (ok : BlkOk X.N X.env.scope scope own)
    (hg : ∀ (s : Shared) (H : Hp) (C : Addr) (cl : List (Str × Addr)) (fp : List Addr), PG (X.blk s H scope (compEnvC scope cl C X.env) fp) tg (tgG X.K t))
    (he : ∀ (s : Shared) (H : Hp) (C : Addr) (cl : List (Str × Addr)) (fp : List Addr), PE (X.blk s H scope (compEnvC scope cl C X.env) fp) elt (lift X G celt)) (hs : ∀ x, foldedSetIterable iter X.env x = pure x) (hnd : (own.map (·.2)).Nodup) (hin : ∀ i ∈ tgts t, i ∈ own.map (·.2)) :
    PE X (.Call (.Name "len" p1) [.SetComp elt [⟨tg, iter, [], 0⟩] scope pos] [] p) (lift X G (.sc (own.map (·.2)) t it celt)) := by
  refine PE.mono (pe_callB cr_lenK hgl hm (by decide +kernel) (pa_cons (pe_sck hc hN hi ok hg (fun _ _ _ _ _ => pts_nil) he hs) pa_nil rfl) (by decide) (by decide) rfl rfl) fun σ H Q q => ?_
  exact use_sc q hnd hin
end
end Dv

set_option Elab.async false
set_option linter.all false
set_option maxRecDepth 100000
set_option maxHeartbeats 4000000
/-! from the text to the language: a relation, and that it is right -/
namespace Dv
open PySem PySem.Spec PyProof.Rows L2

/-- what a def's text is read by -/
structure CC where
  N : List Str
  G : GEnv
  cx : Str → Option Nat
  fx : Str → Option Nat
  bn : Str → Bool
  own : Str → Bool
  /-- constants that are walked as dicts -/
  dk : Str → Bool := fun _ => false
/-- a scope and which cells may be written -/
structure Sc where
  sc : Scope
  fX : Str → Bool
structure Good (X : Cx) (C : CC) (c : Sc) : Prop where
  env : X.env.scope = c.sc
  N : X.N = C.N
  nd : X.N.Nodup
  calm : X.calm = true
  fn : X.fn = c.fX
  un : X.A.units + 100 < cLine
  gok : GOk X C.G
  bn : ∀ x, C.bn x = true → X.mg x = none
  cls : ∀ x, C.own x = true → ∃ T, X.mg x = some (.ref T)
  cx : ∀ x k, C.cx x = some k → ∃ d, C.G.con k = some (x, d)
  fx : ∀ x k, C.fx x = some k → C.G.fn k = none ∨ ∃ n F, C.G.fn k = some (x, n, F)

/-! ### small forms -/
def isStar : Expr → Bool
  | .Starred _ _ => true
  | _ => false
def isSlice : Expr → Bool
  | .Slice _ _ _ _ => true
  | _ => false
def isSet : Expr → Bool
  | .Set _ _ _ => true
  | _ => false
def isCall : Expr → Bool
  | .Call _ _ _ _ => true
  | _ => false
def isComp : Expr → Bool
  | .ListComp _ _ _ _ => true
  | .SetComp _ _ _ _ => true
  | .DictComp _ _ _ _ _ => true
  | _ => false
/-- its truth is that of its value -/
def isPlainT : Expr → Bool
  | .UnaryOp _ _ _ => false
  | .BoolOp _ _ _ => false
  | .IfExp _ _ _ _ => false
  | .Compare _ _ _ _ => false
  | _ => true
theorem star_ok {e : Expr} (h : isStar e = false) (es : List Expr) (env : Env) : starEach (e :: es) env = (false, eval e env) :: starEach es env := by
  cases e <;> first | (cases h; done) | rfl
theorem stars_ok : ∀ {es : List Expr}, es.all (fun e => !isStar e) = true → ∀ (pos : Pos) (env : Env), (backTo pos (starEach es env)).any (·.1) = false
  | [], _, _, _ => rfl
  | e :: es, h, pos, env => by
    rw [List.all_cons, Bool.and_eq_true] at h
    rw [star_ok (by simpa using h.1)]
    have := stars_ok h.2 pos env
    show (false || (backTo pos (starEach es env)).any (·.1)) = false
    rw [this]
    rfl
theorem base_ok {o : Expr} (h : isCall o = false) (f : Str) (env : Env) : attributeBase o f env (eval o env) = eval o env := by
  cases o <;> first | (cases h; done) | rfl
theorem ix_ok {b : Expr} (h : isSlice b = false) : PlainIx b := by
  cases b <;> first | (cases h; done) | exact fun _ _ => rfl
theorem ix2_ok {b : Expr} (h : isSlice b = false) : ∀ v u, subscripted b true v u = runValue (.builtin "lifetime.subscript" ⟨[v, u], []⟩) := by
  cases b <;> first | (cases h; done) | exact fun _ _ => rfl
theorem set_ok {e : Expr} (h : isSet e = false) (env : Env) : ∀ x, foldedSetIterable e env x = pure x := by
  cases e <;> first | (cases h; done) | exact fun _ => rfl
theorem plainT_ok {e : Expr} (h : isPlainT e = true) (env : Env) : ∀ whole, isTrue e env whole = (do let v ← whole; standAt e.pos; holding [v] (truthy v)) := by
  cases e <;> first | (cases h; done) | exact fun _ => rfl
theorem mark_ok {op : CmpOp} {e : Expr} (h : isSet e = false) : behindInMarks op e = false := by
  cases e <;> first | (cases h; done) | rfl
theorem swap_ok {e : Expr} (h : isComp e = false) (t : Option Expr) (n : Nat) (env : Env) : swapsWith e t n env = pure false := by
  cases e <;> first | (cases h; done) | rfl
theorem m1_ok {X : Cx} {o e : Expr} {m : Str} {apos cpos : Pos} (ho : isCall o = false) (he : isStar e = false) (hl : (apos.endLine == cpos.line) = true) : M1 X o m apos e cpos :=
  ⟨base_ok ho m X.env, by rw [star_ok he]; rfl, hl, by rw [star_ok he]; rfl⟩
theorem m2_ok {X : Cx} {o e f : Expr} {m : Str} {apos cpos : Pos} (ho : isCall o = false) (he : isStar e = false) (hf : isStar f = false) (hl : (apos.endLine == cpos.line) = true) : M2 X o m apos e f cpos := by
  refine ⟨base_ok ho m X.env, ?_, hl, ?_⟩
  · rw [star_ok he, star_ok hf]; rfl
  · rw [star_ok he, star_ok hf]; rfl

/-! ### operators -/
inductive OpI : Operator → P2 → Prop where
  | add : OpI .Add .add
  | sub : OpI .Sub .sub
  | mul : OpI .Mult .mul
  | fdiv : OpI .FloorDiv .fdiv
  | mod : OpI .Mod .mod
  | pow : OpI .Pow .pow
  | band : OpI .BitAnd .band
inductive CmpI : CmpOp → P2 → Prop where
  | eq : CmpI .Eq .eq
  | ne : CmpI .NotEq .ne
  | lt : CmpI .Lt .lt
  | le : CmpI .LtE .le
  | gt : CmpI .Gt .gt
  | ge : CmpI .GtE .ge
  | mem : CmpI .In .mem
  | nmem : CmpI .NotIn .nmem
inductive B1 : Str → P1 → Prop where
  | len : B1 "len" .len
  | list : B1 "list" .list
  | tuple : B1 "tuple" .tuple
  | int : B1 "int" .int
  | bool : B1 "bool" .bool
  | abs : B1 "abs" .abs
  | all : B1 "all" .all
  | str : B1 "str" .str
  | dict : B1 "dict" .dict
inductive B2 : Str → P2 → Prop where
  | max : B2 "max" .max
  | min : B2 "min" .min
section
variable {X : Cx} {C : CC} {c : Sc} {p pos : Pos} {a b : Expr} {ca cb : CE}
theorem opI_ok {G : GEnv} {op : Operator} {o : P2} (h : OpI op o) : OpR X (binaryOp op) (S2 (rc X) (op2 G o)) := by
  cases h
  · exact s_add
  · exact s_sub
  · exact s_mul
  · exact s_fdiv
  · exact s_mod
  · exact s_pow
  · exact s_band
theorem cmpI_ok {G : GEnv} {op : CmpOp} {o : P2} (hu : X.A.units + 100 < cLine) (h : CmpI op o) : OpR X (compareOp op) (S2 (rc X) (op2 G o)) := by
  cases h
  · exact s_eq (by omega)
  · exact s_ne (by omega)
  · exact s_lt
  · exact s_le
  · exact s_gt
  · exact s_ge
  · exact s_in (by omega)
  · exact s_notin (by omega)
theorem cmpI_bl {G : GEnv} {op : CmpOp} {o : P2} (h : CmpI op o) : ∀ s t r, op2 G o s t = .ok r → ∃ b, r = .v (.bl b) := by
  intro s t r e
  cases h
  · obtain ⟨b, _, rfl⟩ := blR_ok e; exact ⟨b, rfl⟩
  · obtain ⟨b, _, rfl⟩ := blR_ok e; exact ⟨b, rfl⟩
  · obtain ⟨i, j, _, _, e⟩ := ints_ok (f := fun i j => .ok (.v (.bl (decide (i < j))))) e; cases e; exact ⟨_, rfl⟩
  · obtain ⟨i, j, _, _, e⟩ := ints_ok (f := fun i j => .ok (.v (.bl (decide (i ≤ j))))) e; cases e; exact ⟨_, rfl⟩
  · obtain ⟨i, j, _, _, e⟩ := ints_ok (f := fun i j => .ok (.v (.bl (decide (j < i))))) e; cases e; exact ⟨_, rfl⟩
  · obtain ⟨i, j, _, _, e⟩ := ints_ok (f := fun i j => .ok (.v (.bl (decide (j ≤ i))))) e; cases e; exact ⟨_, rfl⟩
  · exact memR_bl e
  · obtain ⟨q, e1, rfl⟩ := map_ok (show (op2.memR s t).map _ = .ok r from e)
    obtain ⟨b, rfl⟩ := memR_bl e1
    exact ⟨!b, rfl⟩
theorem b1_ok {x : Str} {op : P1} (g : Good X C c) (h : B1 x op) (hb : C.bn x = true) (hg : Gl X x) (ha : PE X a (lo X C.G ca)) (hs : isStar a = false) : PE X (.Call (.Name x p) [a] [] pos) (lift X C.G (.p1 op ca)) := by
  have hm := g.bn _ hb
  have he := star_ok hs [] X.env
  cases h
  · exact le_callB s_len hg hm (by decide +kernel) ha (by decide) (by decide) he
  · exact le_callTy (s_list g.calm) hg hm (by decide +kernel) ha (by decide) (by decide) he
  · exact le_callTy s_tuple hg hm (by decide +kernel) ha (by decide) (by decide) he
  · exact le_callTy s_int hg hm (by decide +kernel) ha (by decide) (by decide) he
  · exact le_callTy s_bool hg hm (by decide +kernel) ha (by decide) (by decide) he
  · exact le_callB s_abs hg hm (by decide +kernel) ha (by decide) (by decide) he
  · exact le_callB (s_all g.calm) hg hm (by decide +kernel) ha (by decide) (by decide) he
  · exact le_callTy s_str hg hm (by decide +kernel) ha (by decide) (by decide) he
  · exact le_callTy s_dict hg hm (by decide +kernel) ha (by decide) (by decide) he
theorem b2_ok {x : Str} {op : P2} (g : Good X C c) (h : B2 x op) (hb : C.bn x = true) (hg : Gl X x) (ha : PE X a (lo X C.G ca)) (hbb : PE X b (lo X C.G cb)) (hs : isStar a = false) (hs2 : isStar b = false) : PE X (.Call (.Name x p) [a, b] [] pos) (lift X C.G (.p2 op ca cb)) := by
  have hm := g.bn _ hb
  have he := star_ok hs [b] X.env
  have he2 := star_ok hs2 [] X.env
  cases h
  · exact le_callB2 (s_max g.calm) hg hm (by decide +kernel) ha hbb (by decide) (by decide) he he2
  · exact le_callB2 (s_min g.calm) hg hm (by decide +kernel) ha hbb (by decide) (by decide) he he2
/-- what an expression's reading is to give -/
structure SE (X : Cx) (G : GEnv) (e : Expr) (c : CE) : Prop where
  lf : PE X e (lift X G c)
  op : PE X e (lo X G c)
  tv : PT X e (liftV X G c)
  tt : PT X e (liftO X G c)
theorem SE.mk' {G : GEnv} {e : Expr} {c : CE} (hv : isVar c = false) (h : PE X e (lift X G c)) (ht : PT X e (liftV X G c)) : SE X G e c := ⟨h, by rw [lo_nv hv]; exact h, ht, lt_O hv ht⟩
theorem SE.plain {G : GEnv} {e : Expr} {c : CE} (hv : isVar c = false) (h : PE X e (lift X G c)) (hp : isPlainT e = true) : SE X G e c := .mk' hv h (lt_plain h (plainT_ok hp X.env))
end
theorem chain_bl {G : GEnv} {o p : P2} {a b c : CE} {α α' : AEnv} {r : SV} (hp : ∀ s t r, op2 G p s t = .ok r → ∃ b, r = .v (.bl b)) (e : den G (.chain o p a b c) α = .ok (r, α')) : ∃ b, r = .v (.bl b) := by
  simp only [den] at e
  obtain ⟨⟨ra, α1⟩, e1, e⟩ := Res.bind_ok e
  obtain ⟨⟨rb, α2⟩, e2, e⟩ := Res.bind_ok e
  obtain ⟨r1, e3, e⟩ := Res.bind_ok e
  split at e
  · obtain ⟨⟨rcv, α3⟩, e4, e⟩ := Res.bind_ok e
    obtain ⟨q1, e5, e⟩ := Res.bind_ok e
    cases e
    exact hp _ _ _ e5
  · cases e
    exact ⟨_, rfl⟩
  · cases e
theorem lt_chain {X : Cx} {G : GEnv} {pos : Pos} {a b c : Expr} {ca cb cc : CE} {op op' : CmpOp} {o o' : P2} (ho : OpR X (compareOp op) (S2 (rc X) (op2 G o))) (ho' : OpR X (compareOp op') (S2 (rc X) (op2 G o'))) (hb2 : ∀ s t r, op2 G o s t = .ok r → ∃ b, r = .v (.bl b)) (hb3 : ∀ s t r, op2 G o' s t = .ok r → ∃ b, r = .v (.bl b))
    (ha : PE X a (lift X G ca)) (hb : PE X b (lift X G cb)) (hc : PE X c (lift X G cc)) (hm : lastMarks [op, op'] [b, c] = false) : PT X (.Compare a [op, op'] [b, c] pos) (liftV X G (.chain o o' ca cb cc)) := by
  refine PT.mono (pt_chain ho ho' ha hb hc hm) fun σ H Q q => ?_
  refine use_chain hb2 ?_
  obtain ⟨Z, H₀, tvs, ts, α, st, r, α', t, e1, e2, k⟩ := q
  obtain ⟨b, rfl⟩ := chain_bl hb3 e1
  cases e2
  refine ⟨Z, H₀, tvs, ts, α, st, _, α', e1, fun v H1 hu rl => ⟨_, is_bl rl, k H1 rl.drop⟩⟩

/-! ### the blocks of comprehensions -/
def relS (sc scope : Scope) : Scope := { scope with names := scope.names.map fun (n, k) => if (k == NameKind.free && sc.kind == .function && sc.names.lookup n == some .cell) then (n, NameKind.cell) else (n, k) }
theorem rel_ok {X : Cx} {sc scope : Scope} {Cl : Addr} {cl : List (Str × Addr)} (h : X.env.scope = sc) : (compEnvC scope cl Cl X.env).scope = relS sc scope := by
  subst h
  rfl
theorem Good.blk {X : Cx} {C : CC} {c : Sc} (g : Good X C c) (s : Shared) (H : Hp) (scope : Scope) (Cl : Addr) (cl : List (Str × Addr)) (fp : List Addr) : Good (X.blk s H scope (compEnvC scope cl Cl X.env) fp) C ⟨relS c.sc scope, fun x => scope.names.lookup x == some .cell⟩ where
  env := rel_ok g.env
  N := g.N
  nd := g.nd
  calm := g.calm
  fn := rfl
  un := g.un
  gok := ⟨g.gok.con, g.gok.fn, g.gok.mth, g.gok.gi, g.gok.fld, g.gok.isa⟩
  bn := g.bn
  cls := g.cls
  cx := g.cx
  fx := g.fx
end Dv

set_option Elab.async false
set_option linter.all false
set_option maxRecDepth 100000
set_option maxHeartbeats 4000000
/-! expressions: the relation and its proof -/
namespace Dv
open PySem PySem.Spec PyProof.Rows L2

theorem starsAll : ∀ {es : List Expr}, es.all (fun e => !isStar e) = true → ∀ (pos : Pos) (env : Env), (backTo pos (starEach es env)).all (fun x => !x.1) = true
  | [], _, _, _ => rfl
  | e :: es, h, pos, env => by
    rw [List.all_cons, Bool.and_eq_true] at h
    rw [star_ok (by simpa using h.1)]
    have := starsAll h.2 pos env
    show (true && (backTo pos (starEach es env)).all fun x => !x.1) = true
    rw [this]
    rfl
theorem few_ok {es : List Expr} (h : es.all (fun e => !isStar e) = true) (hn : es.length < 30) (pos : Pos) (env : Env) : methodCallForm (es.length + ([] : List Keyword).length) (backTo pos (starEach es env)) (backToKw pos (keywordEach [] env)) = true := by
  unfold methodCallForm
  rw [starsAll h pos env]
  show (true && true && decide (es.length + 0 + 0 < 30)) = true
  simpa using hn
theorem mth_ok {o : Expr} {es : List Expr} {m : Str} {apos pos : Pos} {env : Env} (ho : isCall o = false) (h : es.all (fun e => !isStar e) = true) (hn : es.length < 30) (hl : (apos.endLine == pos.line) = true) : eval (.Call (.Attribute o m apos) es [] pos) env = (do
      let ov ← eval o env
      standAt apos.atName
      let (f, first) ← holding [ov] (getMethod ov m (do return (← importBound o env).getD true))
      callWith pos f first (backTo pos (starEach es env)) (backToKw pos (keywordEach [] env))) := by
  show (do
    let ov ← attributeBase o m env (eval o env)
    standAt apos.atName
    methodCall o m apos pos env ov (es.length + ([] : List Keyword).length) (backTo pos (starEach es env)) (backToKw pos (keywordEach [] env))) = _
  rw [base_ok ho]
  unfold methodCall calleeOf methodCallPos
  rw [few_ok h hn pos env, hl]
  rfl

theorem dec_or {p q : Prop} [Decidable p] [Decidable q] (h : (decide p || decide q) = true) : p ∨ q := by simpa using h
def Gs (c : Sc) (x : Str) : Prop := c.sc.names.lookup x = some .globalImplicit
/-- targets -/
inductive MGs (C : CC) (c : Sc) : List Expr → List Nat → Prop
  | nil : MGs C c [] []
  | cons {x : Str} {p : Pos} {i : Nat} {es : List Expr} {is : List Nat} : C.N[i]? = some x → L2.Loc c.sc x → (c.fX x = true ∨ c.sc.names.lookup x = some .local) → MGs C c es is → MGs C c (.Name x p :: es) (i :: is)
inductive MG (C : CC) (c : Sc) : Expr → Tgt → Prop
  | nm {x : Str} {p : Pos} {i : Nat} : C.N[i]? = some x → L2.Loc c.sc x → (c.fX x = true ∨ c.sc.names.lookup x = some .local) → MG C c (.Name x p) (.nm i)
  | tp {es : List Expr} {k : Nat} {p : Pos} {is : List Nat} : MGs C c es is → MG C c (.Tuple es k p) (.tp is)
mutual
inductive ME (C : CC) : Sc → Expr → CE → Prop
  | nev {c : Sc} {e : Expr} : ME C c e .nev
  | var {c : Sc} {x : Str} {p : Pos} {i : Nat} : C.N[i]? = some x → L2.Vis c.sc x → (x == ("__debug__" : Str)) = false → (x == ("__classdict__" : Str)) = false → ME C c (.Name x p) (.var i)
  | con {c : Sc} {x : Str} {p : Pos} {k : Nat} : Gs c x → C.cx x = some k → (x == ("__debug__" : Str)) = false → ME C c (.Name x p) (.con k)
  | int {c : Sc} {i : Int} {j : Nat} {p : Pos} : ME C c (.Constant (.int i) j p) (.lit (.int i))
  | str {c : Sc} {x : Str} {j : Nat} {p : Pos} : ME C c (.Constant (.str x) j p) (.lit (.str x))
  | bl {c : Sc} {b : Bool} {j : Nat} {p : Pos} : ME C c (.Constant (.bool b) j p) (.lit (.bl b))
  | non {c : Sc} {j : Nat} {p : Pos} : ME C c (.Constant .none j p) (.lit .non)
  | neg {c : Sc} {a : Expr} {ca : CE} {p : Pos} : ME C c a ca → ME C c (.UnaryOp .USub a p) (.p1 .neg ca)
  | not {c : Sc} {a : Expr} {ca : CE} {p : Pos} : ME C c a ca → ME C c (.UnaryOp .Not a p) (.p1 .not ca)
  | op {c : Sc} {a b : Expr} {ca cb : CE} {o : Operator} {q : P2} {p : Pos} : OpI o q → ME C c a ca → ME C c b cb → ME C c (.BinOp a o b p) (.p2 q ca cb)
  | cmp {c : Sc} {a b : Expr} {ca cb : CE} {o : CmpOp} {q : P2} {p : Pos} : CmpI o q → isSet b = false → ME C c a ca → ME C c b cb → ME C c (.Compare a [o] [b] p) (.p2 q ca cb)
  | isN {c : Sc} {a : Expr} {ca : CE} {j : Nat} {p q : Pos} : ME C c a ca → ME C c (.Compare a [.Is] [.Constant .none j q] p) (.p1 .isN ca)
  | notN {c : Sc} {a : Expr} {ca : CE} {j : Nat} {p q : Pos} : ME C c a ca → ME C c (.Compare a [.IsNot] [.Constant .none j q] p) (.p1 .notN ca)
  | chain {c : Sc} {a b d : Expr} {ca cb cd : CE} {o o' : CmpOp} {q q' : P2} {p : Pos} : CmpI o q → CmpI o' q' → isSet d = false → ME C c a ca → ME C c b cb → ME C c d cd → ME C c (.Compare a [o, o'] [b, d] p) (.chain q q' ca cb cd)
  | and1 {c : Sc} {a : Expr} {ca : CE} {p : Pos} : isVar ca = false → ME C c a ca → ME C c (.BoolOp .And [a] p) ca
  | andc {c : Sc} {a b : Expr} {es : List Expr} {ca cb : CE} {p : Pos} : ME C c a ca → ME C c (.BoolOp .And (b :: es) p) cb → ME C c (.BoolOp .And (a :: b :: es) p) (.and ca cb)
  | or1 {c : Sc} {a : Expr} {ca : CE} {p : Pos} : isVar ca = false → ME C c a ca → ME C c (.BoolOp .Or [a] p) ca
  | orc {c : Sc} {a b : Expr} {es : List Expr} {ca cb : CE} {p : Pos} : ME C c a ca → ME C c (.BoolOp .Or (b :: es) p) cb → ME C c (.BoolOp .Or (a :: b :: es) p) (.or ca cb)
  | sub {c : Sc} {a b : Expr} {ca cb : CE} {p : Pos} : isSlice b = false → ME C c a ca → ME C c b cb → ME C c (.Subscript a b p) (.p2 .idx ca cb)
  | slice {c : Sc} {a : Expr} {l h : Option Expr} {ca : CE} {cl ch : CO} {p q : Pos} : ME C c a ca → MO C c l cl → MO C c h ch → ME C c (.Subscript a (.Slice l h none q) p) (.slice ca cl ch)
  | lrng {c : Sc} {a : Expr} {ca : CE} {p p1 p2 p3 : Pos} : C.bn "list" = true → Gs c "list" → C.bn "range" = true → Gs c "range" → isStar a = false → ME C c a ca → ME C c (.Call (.Name "list" p1) [.Call (.Name "range" p2) [a] [] p3] [] p) (.lrng ca)
  | rev {c : Sc} {a : Expr} {ca : CE} {k : Nat} {p p1 p2 p3 : Pos} : ME C c a ca → ME C c (.Subscript a (.Slice none none (some (.UnaryOp .USub (.Constant (.int 1) k p1) p2)) p3) p) (.rev ca)
  | attr {c : Sc} {a : Expr} {ca : CE} {f : Str} {p : Pos} : isCall a = false → ME C c a ca → ME C c (.Attribute a f p) (.p1 (.attr f) ca)
  | b1 {c : Sc} {a : Expr} {ca : CE} {x : Str} {q : P1} {p p' : Pos} : B1 x q → C.bn x = true → Gs c x → isStar a = false → ME C c a ca → ME C c (.Call (.Name x p') [a] [] p) (.p1 q ca)
  | b2 {c : Sc} {a b : Expr} {ca cb : CE} {x : Str} {q : P2} {p p' : Pos} : B2 x q → C.bn x = true → Gs c x → isStar a = false → isStar b = false → ME C c a ca → ME C c b cb → ME C c (.Call (.Name x p') [a, b] [] p) (.p2 q ca cb)
  | isaB {c : Sc} {a : Expr} {ca : CE} {t : Str} {T : String} {p p' p2 : Pos} : t = Str.ofString T → (T = "str" ∨ T = "int" ∨ T = "bool" ∨ T = "list" ∨ T = "tuple") → C.bn "isinstance" = true → Gs c "isinstance" → C.bn t = true → Gs c t → isStar a = false → ME C c a ca → ME C c (.Call (.Name "isinstance" p') [a, .Name t p2] [] p) (.p1 (.isa [t]) ca)
  | isaO {c : Sc} {a : Expr} {ca : CE} {t : Str} {p p' p2 : Pos} : C.own t = true → bty t = false → C.bn "isinstance" = true → Gs c "isinstance" → Gs c t → (t == ("__debug__" : Str)) = false → isStar a = false → ME C c a ca → ME C c (.Call (.Name "isinstance" p') [a, .Name t p2] [] p) (.p1 (.isa [t]) ca)
  | sortS {c : Sc} {a : Expr} {ca : CE} {p p' p2 kp : Pos} : C.bn "sorted" = true → Gs c "sorted" → C.bn "str" = true → Gs c "str" → isStar a = false → ME C c a ca → ME C c (.Call (.Name "sorted" p') [a] [⟨some "key", .Name "str" p2, kp⟩] p) (.p1 .sortS ca)
  | call {c : Sc} {x : Str} {k : Nat} {es : List Expr} {cl : CL} {p p' : Pos} : C.fx x = some k → Gs c x → (x == ("__debug__" : Str)) = false → es.all (fun e => !isStar e) = true → ML C c es cl → ME C c (.Call (.Name x p') es [] p) (.call k cl)
  | pop {c : Sc} {x : Str} {i : Nat} {p0 apos p : Pos} : C.N[i]? = some x → L2.Vis c.sc x → (x == ("__debug__" : Str)) = false → (x == ("__classdict__" : Str)) = false → (apos.endLine == p.line) = true → ME C c (.Call (.Attribute (.Name x p0) "pop" apos) [] [] p) (.pop i)
  | get3 {c : Sc} {o e f : Expr} {co ce cf : CE} {apos p : Pos} : isCall o = false → isStar e = false → isStar f = false → (apos.endLine == p.line) = true → ME C c o co → ME C c e ce → ME C c f cf → ME C c (.Call (.Attribute o "get" apos) [e, f] [] p) (.get3 co ce cf)
  | index {c : Sc} {o e : Expr} {co ce : CE} {apos p : Pos} : isCall o = false → isStar e = false → (apos.endLine == p.line) = true → ME C c o co → ME C c e ce → ME C c (.Call (.Attribute o "index" apos) [e] [] p) (.mt2 .index co ce)
  | count {c : Sc} {o e : Expr} {co ce : CE} {apos p : Pos} : isCall o = false → isStar e = false → (apos.endLine == p.line) = true → ME C c o co → ME C c e ce → ME C c (.Call (.Attribute o "count" apos) [e] [] p) (.mt2 .count co ce)
  | upper {c : Sc} {o : Expr} {co : CE} {apos p : Pos} : isCall o = false → (apos.endLine == p.line) = true → ME C c o co → ME C c (.Call (.Attribute o "upper" apos) [] [] p) (.p1 .upper co)
  | mth {c : Sc} {o : Expr} {m : Str} {es : List Expr} {co : CE} {cl : CL} {apos p : Pos} : isCall o = false → es.all (fun e => !isStar e) = true → es.length < 30 → (apos.endLine == p.line) = true → ME C c o co → MD C c es cl → ME C c (.Call (.Attribute o m apos) es [] p) (.mth co m cl)
  | tup {c : Sc} {es : List Expr} {k : Nat} {cl : CL} {p : Pos} : es.all (fun e => !isStar e) = true → MD C c es cl → ME C c (.Tuple es k p) (.tup cl)
  | lst {c : Sc} {es : List Expr} {cl : CL} {p : Pos} : es.all (fun e => !isStar e) = true → MD C c es cl → ME C c (.List es p) (.lst cl)
  | dct0 {c : Sc} {p : Pos} : ME C c (.Dict [] [] p) (.dct .nil)
  | dct {c : Sc} {ks : List (Option Expr)} {vs : List Expr} {cp : CP} {p : Pos} : ks ≠ [] → ks.length ≤ 15 → MP C c ks vs cp → ME C c (.Dict ks vs p) (.dct cp)
  | dc {c : Sc} {kx vx tg iter : Expr} {scope : Scope} {own : List (Str × Nat)} {t : Tgt} {it : CI} {ck cv : CE} {p : Pos} : blkC C.N c.sc scope own = true → (own.map (·.2)).Nodup → (∀ i ∈ tgts t, i ∈ own.map (·.2)) → isSet iter = false → MI C c iter it →
      MG C ⟨relS c.sc scope, fun x => scope.names.lookup x == some .cell⟩ tg t → ME C ⟨relS c.sc scope, fun x => scope.names.lookup x == some .cell⟩ kx ck → ME C ⟨relS c.sc scope, fun x => scope.names.lookup x == some .cell⟩ vx cv → ME C c (.DictComp kx vx [⟨tg, iter, [], 0⟩] scope p) (.dc (own.map (·.2)) t it ck cv)
  | sc {c : Sc} {elt tg iter : Expr} {scope : Scope} {own : List (Str × Nat)} {t : Tgt} {it : CI} {celt : CE} {p p1 p2 : Pos} : C.bn "len" = true → Gs c "len" → blkC C.N c.sc scope own = true → (own.map (·.2)).Nodup → (∀ i ∈ tgts t, i ∈ own.map (·.2)) → isSet iter = false → MI C c iter it →
      MG C ⟨relS c.sc scope, fun x => scope.names.lookup x == some .cell⟩ tg t → ME C ⟨relS c.sc scope, fun x => scope.names.lookup x == some .cell⟩ elt celt → ME C c (.Call (.Name "len" p1) [.SetComp elt [⟨tg, iter, [], 0⟩] scope p2] [] p) (.sc (own.map (·.2)) t it celt)
  | lc {c : Sc} {elt tg iter : Expr} {ifs : List Expr} {scope : Scope} {own : List (Str × Nat)} {t : Tgt} {it : CI} {cifs : CO} {celt : CE} {p : Pos} : blkC C.N c.sc scope own = true → (own.map (·.2)).Nodup → (∀ i ∈ tgts t, i ∈ own.map (·.2)) → isSet iter = false → MI C c iter it →
      MG C ⟨relS c.sc scope, fun x => scope.names.lookup x == some .cell⟩ tg t → MT C ⟨relS c.sc scope, fun x => scope.names.lookup x == some .cell⟩ ifs cifs → ME C ⟨relS c.sc scope, fun x => scope.names.lookup x == some .cell⟩ elt celt → ME C c (.ListComp elt [⟨tg, iter, ifs, 0⟩] scope p) (.lc (own.map (·.2)) t it cifs celt)
/-- arguments of a def: names are lent -/
inductive ML (C : CC) : Sc → List Expr → CL → Prop
  | nil {c : Sc} : ML C c [] .nil
  | cons {c : Sc} {e : Expr} {es : List Expr} {ce : CE} {cl : CL} : isStar e = false → ME C c e ce → ML C c es cl → ML C c (e :: es) (.cons ce cl)
/-- items of a display: names are given up -/
inductive MD (C : CC) : Sc → List Expr → CL → Prop
  | nil {c : Sc} : MD C c [] .nil
  | cons {c : Sc} {e : Expr} {es : List Expr} {ce : CE} {cl : CL} : isStar e = false → ME C c e ce → MD C c es cl → MD C c (e :: es) (.cons ce cl)
inductive MP (C : CC) : Sc → List (Option Expr) → List Expr → CP → Prop
  | nil {c : Sc} : MP C c [] [] .nil
  | cons {c : Sc} {k v : Expr} {ks : List (Option Expr)} {vs : List Expr} {ck cv : CE} {cp : CP} : ME C c k ck → ME C c v cv → MP C c ks vs cp → MP C c (some k :: ks) (v :: vs) (.cons ck cv cp)
inductive MO (C : CC) : Sc → Option Expr → CO → Prop
  | none {c : Sc} : MO C c none .none
  | some {c : Sc} {e : Expr} {ce : CE} : ME C c e ce → MO C c (some e) (.some ce)
inductive MT (C : CC) : Sc → List Expr → CO → Prop
  | none {c : Sc} : MT C c [] .none
  | some {c : Sc} {e : Expr} {ce : CE} : ME C c e ce → MT C c [e] (.some ce)
inductive MI (C : CC) : Sc → Expr → CI → Prop
  | nev {c : Sc} {e : Expr} : MI C c e .nev
  | seq {c : Sc} {e : Expr} {ce : CE} : ME C c e ce → MI C c e (.seq ce)
  | rng {c : Sc} {a : Expr} {ca : CE} {p p' : Pos} : C.bn "range" = true → Gs c "range" → isStar a = false → ME C c a ca → MI C c (.Call (.Name "range" p') [a] [] p) (.rng ca)
  | rng2 {c : Sc} {a b : Expr} {ca cb : CE} {p p' : Pos} : C.bn "range" = true → Gs c "range" → isStar a = false → isStar b = false → ME C c a ca → ME C c b cb → MI C c (.Call (.Name "range" p') [a, b] [] p) (.rng2 ca cb)
  | ckeys {c : Sc} {x : Str} {p : Pos} {k : Nat} : Gs c x → C.cx x = some k → (x == ("__debug__" : Str)) = false → MI C c (.Name x p) (.ckeys k)
end

section
variable {X : Cx} {C : CC} {c : Sc}
theorem Good.gl (g : Good X C c) {x : Str} (h : Gs c x) : Gl X x := by
  show X.env.scope.names.lookup x = _
  rw [g.env]
  exact h
theorem Good.vis (g : Good X C c) {x : Str} (h : L2.Vis c.sc x) : L2.Vis X.env.scope x := by rw [g.env]; exact h
theorem Good.loc (g : Good X C c) {x : Str} (h : L2.Loc c.sc x) : L2.Loc X.env.scope x := by rw [g.env]; exact h
theorem Good.wr (g : Good X C c) {x : Str} (h : c.fX x = true ∨ c.sc.names.lookup x = some .local) : X.fn x = true ∨ X.env.scope.names.lookup x = some .local := by rw [g.env, g.fn]; exact h
theorem Good.ty (g : Good X C c) {t : Str} {T : String} {p : Pos} (et : t = Str.ofString T) (hT : T = "str" ∨ T = "int" ∨ T = "bool" ∨ T = "list" ∨ T = "tuple") (hb : C.bn t = true) (h : Gs c t) : PE X (.Name t p) (tC (.ty T)) := by
  subst et
  have hm := g.bn _ hb
  rcases hT with rfl | rfl | rfl | rfl | rfl <;> exact pe_bltn (g.gl h) hm (by decide +kernel) rfl (by decide) (by decide)
theorem names_asg : ∀ {es : List Expr} {is : List Nat}, MGs C c es is → ∀ env : Env, (assignEach es env).length = is.length ∧ (assignEach es env).findIdx? (·.1) = none
  | _, _, .nil, _ => ⟨rfl, rfl⟩
  | _, _, .cons (x := x) (p := p) (es := es) h1 h2 h3 r, env => by
    obtain ⟨q1, q2⟩ := names_asg r env
    refine ⟨by show (assignEach es env).length + 1 = _; rw [q1]; rfl, ?_⟩
    show List.findIdx? (·.1) ((false, assign (.Name x p) env) :: assignEach es env) = none
    rw [List.findIdx?_cons]
    simp [q2]
theorem mgs_ok : ∀ {es : List Expr} {is : List Nat}, MGs C c es is → ∀ {X : Cx}, Good X C c → PGs X es (gs is)
  | _, _, .nil, X, g => pgs_nil
  | _, _, .cons h1 h2 h3 r, X, g => pgs_cons (pg_name g.nd (by rw [g.N]; exact h1) (g.loc h2) (g.wr h3)) (mgs_ok r g) (by rfl)
theorem mg_ok {e : Expr} {t : Tgt} (h : MG C c e t) (g : Good X C c) : PG X e (tgG X.K t) := by
  cases h with
  | nm h1 h2 h3 => exact pg_name g.nd (by rw [g.N]; exact h1) (g.loc h2) (g.wr h3)
  | tp h =>
    obtain ⟨q1, q2⟩ := names_asg h X.env
    exact pg_tup g.calm (mgs_ok h g) q1 q2
end
end Dv

set_option Elab.async false
set_option linter.all false
set_option maxRecDepth 100000
set_option maxHeartbeats 4000000
/-! expressions: the relation is right -/
namespace Dv
open PySem PySem.Spec PyProof.Rows L2

section
variable {C : CC}
theorem pt_of_pw {X : Cx} {e : Expr} {t : TT} (h : PW X e t) : PT X e t := ⟨fun pins s σ H Q I q => h.run _ pins s σ H Q I q⟩
theorem pw_of_pt {X : Cx} {op : BoolOp} {es : List Expr} {p : Pos} {t : TT} (h : PT X (.BoolOp op es p) t) : PW X (.BoolOp op es p) t := ⟨fun _ pins s σ H Q I q => h.run pins s σ H Q I q⟩
theorem lo_var' {X : Cx} {e : Expr} {i : Nat} (h : PE X e (tVar i)) (hp : isPlainT e = true) (hn : ∃ x p, e = .Name x p) : SE X C.G e (.var i) := by
  obtain ⟨x, p, rfl⟩ := hn
  exact ⟨le_var h, h, lt_plain (le_var h) (plainT_ok hp X.env), lt_name h⟩
/-- what the pairs of a display give -/
structure SP (X : Cx) (G : GEnv) (ks : List (Option Expr)) (vs : List Expr) (cp : CP) : Prop where
  run : ∀ pos, PPs X pos ks vs (trsP X G cp)
  all : ks.all (·.isSome) = true
  len : ks.length = vs.length
  ln : (trsP X G cp).length = ks.length
theorem lift_nev {X : Cx} {G : GEnv} {σ : L2.St} {H : Hp} {Q : VK} (h : lift X G .nev σ H Q) : False := by
  obtain ⟨Z, H₀, tvs, ts, α, st, r, α', e, k⟩ := h
  rw [den] at e
  cases e
theorem liftV_nev {X : Cx} {G : GEnv} {σ : L2.St} {H : Hp} {Q : Bool → Hp → Prop} (h : liftV X G .nev σ H Q) : False := by
  obtain ⟨Z, H₀, tvs, ts, α, st, r, α', b, e, _⟩ := h
  rw [den] at e
  cases e
theorem liftI_nev {X : Cx} {G : GEnv} {σ : L2.St} {H : Hp} {Q : It → Hp → Prop} (h : liftI X G .nev σ H Q) : False := by
  obtain ⟨Z, H₀, tvs, ts, α, st, r, α', e, _⟩ := h
  rw [denI] at e
  cases e
mutual
theorem me_ok : ∀ {c : Sc} {e : Expr} {ce : CE}, ME C c e ce → ∀ {X : Cx}, Good X C c → SE X C.G e ce
  | _, _, _, .nev, X, g => .mk' rfl ⟨fun _ _ _ _ _ _ h => (lift_nev h).elim⟩ ⟨fun _ _ _ _ _ _ h => (liftV_nev h).elim⟩
  | _, _, _, .var h1 h2 h3 h4, X, g => lo_var' (pe_var (by rw [g.N]; exact h1) (g.vis h2) h3 h4) rfl ⟨_, _, rfl⟩
  | _, _, _, .con (k := k) h1 h2 h3, X, g => by
    obtain ⟨d, hd⟩ := g.cx _ _ h2
    obtain ⟨v, u, hm, rv, rp⟩ := g.gok.con _ _ _ hd
    exact .plain rfl (le_con (pe_glob (g.gl h1) hm rv h3) hd rp) rfl
  | _, _, _, .int, X, g => .plain rfl (le_lit pe_int fun _ => .int _) rfl
  | _, _, _, .str, X, g => .plain rfl (le_lit pe_str fun _ => .str _) rfl
  | _, _, _, .bl, X, g => .plain rfl (le_lit pe_bl fun _ => .bl _) rfl
  | _, _, _, .non, X, g => .plain rfl (le_lit pe_non fun _ => .non) rfl
  | _, _, _, .neg h, X, g => .mk' rfl (le_un (me_ok h g).op) (lt_plain (le_un (me_ok h g).op) fun _ => rfl)
  | _, _, _, .not h, X, g => .mk' rfl (le_not (me_ok h g).op) (lt_not (me_ok h g).tt)
  | _, _, _, .op ho ha hb, X, g => .plain rfl (le_op (opI_ok ho) (me_ok ha g).op (me_ok hb g).op) rfl
  | _, _, _, .cmp ho hs ha hb, X, g => .mk' rfl (le_cmp (cmpI_ok g.un ho) (me_ok ha g).op (me_ok hb g).op (mark_ok hs)) (lt_cmp (cmpI_ok g.un ho) (cmpI_bl ho) (me_ok ha g).op (me_ok hb g).op (mark_ok hs))
  | _, _, _, .isN ha, X, g => .mk' rfl (le_isN (me_ok ha g).op) (lt_isN (me_ok ha g).op)
  | _, _, _, .notN ha, X, g => .mk' rfl (le_notN (me_ok ha g).op) (lt_notN (me_ok ha g).op)
  | _, _, _, .chain ho ho' hs ha hb hd, X, g => .mk' rfl (le_chain (cmpI_ok g.un ho) (cmpI_ok g.un ho') (cmpI_bl ho) (me_ok ha g).lf (me_ok hb g).lf (me_ok hd g).lf (mark_ok hs))
      (lt_chain (cmpI_ok g.un ho) (cmpI_ok g.un ho') (cmpI_bl ho) (cmpI_bl ho') (me_ok ha g).lf (me_ok hb g).lf (me_ok hd g).lf (mark_ok hs))
  | _, _, _, .and1 hv h, X, g => .mk' hv (le_one (me_ok h g).lf) (pt_of_pw (lt_and1 (me_ok h g).tv))
  | _, _, _, .andc ha hb, X, g => .mk' rfl (le_andc (me_ok ha g).lf (me_ok hb g).lf) (pt_of_pw (lt_andc (me_ok ha g).tv (pw_of_pt (me_ok hb g).tv)))
  | _, _, _, .or1 hv h, X, g => .mk' hv (le_one (me_ok h g).lf) (pt_of_pw (lt_or1 (me_ok h g).tv))
  | _, _, _, .orc ha hb, X, g => .mk' rfl (le_orc (me_ok ha g).lf (me_ok hb g).lf) (pt_of_pw (lt_orc (me_ok ha g).tv (pw_of_pt (me_ok hb g).tv)))
  | _, _, _, .sub hs ha hb, X, g => .plain rfl (le_sub (gi_ok g.gok) (ix2_ok hs) (by have := g.un; omega) (me_ok ha g).op (me_ok hb g).op (ix_ok hs)) rfl
  | _, _, _, .slice ha hl hh, X, g => .plain rfl (le_slice (me_ok ha g).op (mo_ok hl g) (mo_ok hh g)) rfl
  | _, _, _, .lrng h1 h2 h3 h4 hs ha, X, g => .plain rfl (le_lrng g.calm (g.gl h2) (g.bn _ h1) (g.gl h4) (g.bn _ h3) (me_ok ha g).lf (star_ok hs _ X.env)) rfl
  | _, _, _, .rev ha, X, g => .plain rfl (le_rev (me_ok ha g).op) rfl
  | _, _, _, .attr ho ha, X, g => .plain rfl (le_attr g.gok (me_ok ha g).op (base_ok ho _ X.env)) rfl
  | _, _, _, .b1 hb h1 h2 hs ha, X, g => .plain (by cases hb <;> rfl) (b1_ok g hb h1 (g.gl h2) (me_ok ha g).op hs) rfl
  | _, _, _, .b2 hb h1 h2 hs hs' ha ha', X, g => .plain (by cases hb <;> rfl) (b2_ok g hb h1 (g.gl h2) (me_ok ha g).op (me_ok ha' g).op hs hs') rfl
  | _, _, _, .isaB et hT h1 h2 h3 h4 hs ha, X, g => .plain rfl (le_isaB g.gok et hT (g.gl h2) (g.bn _ h1) (me_ok ha g).op (g.ty et hT h3 h4) (g.bn _ h3) (star_ok hs _ X.env) rfl) rfl
  | _, _, _, .isaO h0 hbt h1 h2 h3 h4 hs ha, X, g => by
    obtain ⟨T, hT⟩ := g.cls _ h0
    exact .plain rfl (le_isaO g.gok (g.gl h2) (g.bn _ h1) (me_ok ha g).op (g.gl h3) hT hbt h4 (star_ok hs _ X.env) rfl) rfl
  | _, _, _, .sortS (a := a) h1 h2 h3 h4 hs ha, X, g => by
    have he := star_ok hs [] X.env
    exact .plain rfl (le_sortS (by have := g.un; omega) (g.gl h2) (g.bn _ h1) (g.ty rfl (.inl rfl) h3 h4) (me_ok ha g).op (by rw [he]; rfl) (by rw [he]; rfl) he) rfl
  | _, _, _, .call (es := es) h1 h2 h3 hs ha, X, g => by
    rcases g.fx _ _ h1 with h0 | ⟨n, F, hF⟩
    · exact .plain rfl ⟨fun _ _ _ _ _ _ ⟨_, _, _, _, _, _, _, _, e, _⟩ => by rw [den, h0] at e; cases e⟩ rfl
    have hA := ml_ok ha g
    cases ha with
    | nil => exact .plain rfl (le_call0 g.gok hF (g.gl h2) h3) rfl
    | cons hs1 he hr =>
      rw [List.all_cons, Bool.and_eq_true] at hs
      exact .plain rfl (le_call g.gok hF (g.gl h2) hA h3 (star_ok hs1 _ X.env) (stars_ok hs.2 _ X.env)) rfl
  | _, _, _, .pop h1 h2 h3 h4 hl, X, g => .plain rfl (le_pop (pe_var (by rw [g.N]; exact h1) (g.vis h2) h3 h4) rfl hl) rfl
  | _, _, _, .get3 ho he hf hl h1 h2 h3, X, g => .plain rfl (le_get3 (by have := g.un; omega) (me_ok h1 g).op (me_ok h2 g).lf (me_ok h3 g).lf (m2_ok ho he hf hl)) rfl
  | _, _, _, .index ho he hl h1 h2, X, g => .plain rfl (le_index (by have := g.un; omega) (me_ok h1 g).op (me_ok h2 g).lf (m1_ok ho he hl)) rfl
  | _, _, _, .count ho he hl h1 h2, X, g => .plain rfl (le_count (by have := g.un; omega) (me_ok h1 g).op (me_ok h2 g).lf (m1_ok ho he hl)) rfl
  | _, _, _, .upper ho hl h1, X, g => .plain rfl (le_upper (me_ok h1 g).op (base_ok ho _ X.env) hl) rfl
  | _, _, _, .mth ho hs hn hl h1 h2, X, g => by
    have hA := md_ok h2 g
    have hm := me_ok h1 g
    cases h2 with
    | nil => exact .plain rfl (le_mth0 g.gok hm.lf (mth_ok ho hs hn hl)) rfl
    | cons hs1 he hr =>
      have hs' := hs
      rw [List.all_cons, Bool.and_eq_true] at hs'
      exact .plain rfl (le_mth g.gok hm.lf hA (star_ok hs1 _ X.env) (stars_ok hs'.2 _ X.env) (mth_ok ho hs hn hl)) rfl
  | _, _, _, .tup hs h, X, g => .plain rfl (le_tup (md_ok h g)) rfl
  | _, _, _, .lst hs h, X, g => .plain rfl (le_lst (md_ok h g)) rfl
  | _, _, _, .dct0, X, g => .plain rfl le_dct0 rfl
  | _, _, _, .dct h0 h15 h, X, g => by
    obtain ⟨q1, q2, q3, q4⟩ := mp_ok h g
    exact .plain rfl (le_dct (q1 _) q2 q3 h0 h15 (by rw [q4]; exact h15)) rfl
  | _, _, _, .dc hb hn hin hs h1 h2 h3 h4, X, g => by
    refine .plain rfl (le_dc g.calm g.nd (mi_ok h1 g _) (by rw [g.N, g.env]; exact blkOk_by hb) (fun s H Cl cl fp => mg_ok h2 (g.blk s H _ Cl cl fp)) (fun s H Cl cl fp => (me_ok h3 (g.blk s H _ Cl cl fp)).lf) (fun s H Cl cl fp => (me_ok h4 (g.blk s H _ Cl cl fp)).lf) (set_ok hs X.env) hn hin) rfl
  | _, _, _, .sc l1 l2 hb hn hin hs h1 h2 h3, X, g => by
    refine .plain rfl (le_lsc g.calm g.nd (g.gl l2) (g.bn _ l1) (mi_ok h1 g _) (by rw [g.N, g.env]; exact blkOk_by hb) (fun s H Cl cl fp => mg_ok h2 (g.blk s H _ Cl cl fp)) (fun s H Cl cl fp => (me_ok h3 (g.blk s H _ Cl cl fp)).lf) (set_ok hs X.env) hn hin) rfl
  | _, _, _, .lc hb hn hin hs h1 h2 h3 h4, X, g => by
    refine .plain rfl (le_lc g.calm g.nd (mi_ok h1 g _) (by rw [g.N, g.env]; exact blkOk_by hb) (fun s H Cl cl fp => mg_ok h2 (g.blk s H _ Cl cl fp)) (fun s H Cl cl fp => mt_ok h3 (g.blk s H _ Cl cl fp)) (fun s H Cl cl fp => (me_ok h4 (g.blk s H _ Cl cl fp)).lf) (set_ok hs X.env) hn hin) rfl
theorem ml_ok : ∀ {c : Sc} {es : List Expr} {cl : CL}, ML C c es cl → ∀ {X : Cx}, Good X C c → PA X es (liftA X C.G cl)
  | _, _, _, .nil, X, g => lA_nil
  | _, _, _, .cons hs he hr, X, g => lA_cons (me_ok he g).op (ml_ok hr g) (star_ok hs _ X.env)
theorem md_ok : ∀ {c : Sc} {es : List Expr} {cl : CL}, MD C c es cl → ∀ {X : Cx}, Good X C c → PA X es (liftL X C.G cl)
  | _, _, _, .nil, X, g => la_nil
  | _, _, _, .cons hs he hr, X, g => la_cons (me_ok he g).lf (md_ok hr g) (star_ok hs _ X.env)
theorem mp_ok : ∀ {c : Sc} {ks : List (Option Expr)} {vs : List Expr} {cp : CP}, MP C c ks vs cp → ∀ {X : Cx}, Good X C c → SP X C.G ks vs cp
  | _, _, _, _, .nil, X, g => ⟨fun _ => pps_nil, rfl, rfl, rfl⟩
  | _, _, _, _, .cons hk hv hr, X, g => by
    obtain ⟨q1, q2, q3, q4⟩ := mp_ok hr g
    exact ⟨fun p => pps_cons (me_ok hk g).lf (me_ok hv g).lf (q1 p), by rw [List.all_cons, q2]; rfl, by rw [List.length_cons, List.length_cons, q3], by rw [trsP, List.length_cons, List.length_cons, q4]⟩
theorem mo_ok : ∀ {c : Sc} {e : Option Expr} {co : CO}, MO C c e co → ∀ {X : Cx}, Good X C c → PO X e (liftOI X C.G co)
  | _, _, _, .none, X, g => lp_none
  | _, _, _, .some h, X, g => lp_some (me_ok h g).lf
theorem mt_ok : ∀ {c : Sc} {es : List Expr} {co : CO}, MT C c es co → ∀ {X : Cx}, Good X C c → PTs X es (liftT X C.G co)
  | _, _, _, .none, X, g => lts_nil
  | _, _, _, .some h, X, g => lts_one (me_ok h g).tt
theorem mi_ok : ∀ {c : Sc} {e : Expr} {ci : CI}, MI C c e ci → ∀ {X : Cx}, Good X C c → ∀ tg, PI X tg e (liftI X C.G ci)
  | _, _, _, .nev, X, g, tg => ⟨fun _ _ _ _ _ _ h => (liftI_nev h).elim⟩
  | _, _, _, .seq h, X, g, tg => le_seq (me_ok h g).lf
  | _, _, _, .rng h1 h2 hs ha, X, g, tg => le_rng (g.gl h2) (g.bn _ h1) (me_ok ha g).lf (by rw [star_ok hs]; rfl)
  | _, _, _, .rng2 h1 h2 hs hs' ha hb, X, g, tg => le_rng2 (g.gl h2) (g.bn _ h1) (me_ok ha g).lf (me_ok hb g).lf (by rw [star_ok hs, star_ok hs']; rfl) (by rw [star_ok hs']; rfl)
  | _, _, _, .ckeys h1 h2 h3, X, g, tg => by
    obtain ⟨d, hd⟩ := g.cx _ _ h2
    obtain ⟨v, u, hm, rv, rp⟩ := g.gok.con _ _ _ hd
    exact le_ckeys hd (g.gl h1) hm rv rp h3
end
end
end Dv

set_option Elab.async false
set_option linter.all false
set_option maxRecDepth 100000
set_option maxHeartbeats 4000000
/-! statements: the relation, and that it is right -/
namespace Dv
open PySem PySem.Spec PyProof.Rows L2

/-- is the value of this assignment to a name put there by the block itself -/
def swB (c : Sc) (e : Expr) (t : Str) (p : Pos) : Bool := match e with
  | .ListComp _ _ s q => c.sc.names.lookup t == some .local && p.line == q.line && !(s.names.any fun (n, k) => n == t && (k == .local || k == .cell))
  | .SetComp _ _ s q => c.sc.names.lookup t == some .local && p.line == q.line && !(s.names.any fun (n, k) => n == t && (k == .local || k == .cell))
  | .DictComp _ _ _ s q => c.sc.names.lookup t == some .local && p.line == q.line && !(s.names.any fun (n, k) => n == t && (k == .local || k == .cell))
  | _ => false
theorem swB_ok {X : Cx} {C : CC} {c : Sc} (g : Good X C c) (hk : c.sc.kind = .function) (e : Expr) (t : Str) (p : Pos) (n : Nat) : swapsWith e (some (.Name t p)) n X.env = pure (swB c e t p) := by
  have hb : X.env.blockKind = .function := by
    unfold Env.blockKind
    rw [g.env, hk]
    rfl
  have h2 : X.env.kindOf t = c.sc.names.lookup t := by
    show X.env.scope.names.lookup t = _
    rw [g.env]
  cases e <;> first | rfl | (
    show pure (X.env.blockKind == .function && X.env.kindOf t == some .local && p.line == _ && !_) = _
    rw [hb, h2]
    rfl)
def isTupE : Expr → Bool
  | .Tuple _ _ _ => true
  | _ => false
theorem swap_sub {v o i : Expr} {p : Pos} {n : Nat} {env : Env} : swapsWith v (some (.Subscript o i p)) n env = pure false := by cases v <;> rfl
theorem swap_attr {v o : Expr} {f : Str} {p : Pos} {n : Nat} {env : Env} : swapsWith v (some (.Attribute o f p)) n env = pure false := by cases v <;> rfl
theorem swap_tup {v : Expr} {es : List Expr} {k : Nat} {p : Pos} {n : Nat} {env : Env} : swapsWith v (some (.Tuple es k p)) n env = pure false := by cases v <;> rfl
theorem sole_tup {v : Expr} {es : List Expr} {k : Nat} {p : Pos} {n : Nat} {env : Env} : swapsWithSole [.Tuple es k p] v n env = pure false := by cases v <;> rfl
theorem stores_ok {v : Expr} {es : List Expr} {k : Nat} {p : Pos} {env : Env} (h : isTupE v = false) : swappedStores [.Tuple es k p] v env = pure none := by
  cases v <;> first | (cases h; done) | rfl

inductive AugI : Operator → P2 → Prop where
  | add : AugI .Add .add
  | sub : AugI .Sub .sub
mutual
inductive MS (C : CC) : Sc → Stmt → CS → Prop
  | nev {c : Sc} {s : Stmt} : MS C c s .nev
  | pass {c : Sc} {p : Pos} : MS C c (.Pass p) .pass
  | doc {c : Sc} {x : Str} {j : Nat} {p p' : Pos} : MS C c (.Expr (.Constant (.str x) j p) p') .pass
  | brk {c : Sc} {p : Pos} : MS C c (.Break p) .brk
  | cont {c : Sc} {p : Pos} : MS C c (.Continue p) .cont
  | expr {c : Sc} {e : Expr} {ce : CE} {p : Pos} : isComp e = false → ME C c e ce → MS C c (.Expr e p) (.expr ce)
  | app {c : Sc} {x : Str} {i : Nat} {e : Expr} {ce : CE} {p0 apos cpos p : Pos} : C.N[i]? = some x → L2.Vis c.sc x → (x == ("__debug__" : Str)) = false → (x == ("__classdict__" : Str)) = false → isStar e = false → (apos.endLine == cpos.line) = true → ME C c e ce → MS C c (.Expr (.Call (.Attribute (.Name x p0) "append" apos) [e] [] cpos) p) (.app i ce)
  | ext {c : Sc} {x : Str} {i : Nat} {e : Expr} {ce : CE} {p0 apos cpos p : Pos} : C.N[i]? = some x → L2.Vis c.sc x → (x == ("__debug__" : Str)) = false → (x == ("__classdict__" : Str)) = false → isStar e = false → (apos.endLine == cpos.line) = true → ME C c e ce → MS C c (.Expr (.Call (.Attribute (.Name x p0) "extend" apos) [e] [] cpos) p) (.ext i ce)
  | clr {c : Sc} {x : Str} {i : Nat} {p0 apos cpos p : Pos} : C.N[i]? = some x → L2.Vis c.sc x → (x == ("__debug__" : Str)) = false → (x == ("__classdict__" : Str)) = false → (apos.endLine == cpos.line) = true → MS C c (.Expr (.Call (.Attribute (.Name x p0) "clear" apos) [] [] cpos) p) (.clr i)
  | ret {c : Sc} {e : Expr} {ce : CE} {p : Pos} : vIx ce = none → ME C c e ce → MS C c (.Return (some e) p) (.ret ce)
  | retV {c : Sc} {x : Str} {i : Nat} {p0 p : Pos} : C.N[i]? = some x → L2.Vis c.sc x → (x == ("__debug__" : Str)) = false → (x == ("__classdict__" : Str)) = false → MS C c (.Return (some (.Name x p0)) p) (.ret (.var i))
  | retN {c : Sc} {p : Pos} : MS C c (.Return none p) .retN
  | set {c : Sc} {x : Str} {i : Nat} {e : Expr} {ce : CE} {p0 p : Pos} : c.sc.kind = .function → swB c e x p0 = false → C.N[i]? = some x → L2.Loc c.sc x → (c.fX x = true ∨ c.sc.names.lookup x = some .local) → ME C c e ce → MS C c (.Assign [.Name x p0] e p) (.set i ce)
  | setC {c : Sc} {x : Str} {i : Nat} {p0 p q : Pos} {elt tg iter : Expr} {ifs : List Expr} {scope : Scope} {own : List (Str × Nat)} {t : Tgt} {it : CI} {cifs : CO} {celt : CE} : c.sc.kind = .function → swB c (.ListComp elt [⟨tg, iter, ifs, 0⟩] scope q) x p0 = true → C.N[i]? = some x → c.sc.names.lookup x = some .local →
      blkC C.N c.sc scope own = true → (own.map (·.2)).Nodup → (∀ i ∈ tgts t, i ∈ own.map (·.2)) → isSet iter = false → MI C c iter it →
      MG C ⟨relS c.sc scope, fun x => scope.names.lookup x == some .cell⟩ tg t → MT C ⟨relS c.sc scope, fun x => scope.names.lookup x == some .cell⟩ ifs cifs → ME C ⟨relS c.sc scope, fun x => scope.names.lookup x == some .cell⟩ elt celt →
      MS C c (.Assign [.Name x p0] (.ListComp elt [⟨tg, iter, ifs, 0⟩] scope q) p) (.set i (.lc (own.map (·.2)) t it cifs celt))
  | setD {c : Sc} {x : Str} {i : Nat} {p0 p q : Pos} {kx vx tg iter : Expr} {scope : Scope} {own : List (Str × Nat)} {t : Tgt} {it : CI} {ck cv : CE} : c.sc.kind = .function → swB c (.DictComp kx vx [⟨tg, iter, [], 0⟩] scope q) x p0 = true → C.N[i]? = some x → c.sc.names.lookup x = some .local →
      blkC C.N c.sc scope own = true → (own.map (·.2)).Nodup → (∀ i ∈ tgts t, i ∈ own.map (·.2)) → isSet iter = false → MI C c iter it →
      MG C ⟨relS c.sc scope, fun x => scope.names.lookup x == some .cell⟩ tg t → ME C ⟨relS c.sc scope, fun x => scope.names.lookup x == some .cell⟩ kx ck → ME C ⟨relS c.sc scope, fun x => scope.names.lookup x == some .cell⟩ vx cv → MS C c (.Assign [.Name x p0] (.DictComp kx vx [⟨tg, iter, [], 0⟩] scope q) p) (.set i (.dc (own.map (·.2)) t it ck cv))
  | tset {c : Sc} {es : List Expr} {k : Nat} {is : List Nat} {e : Expr} {ce : CE} {p0 p : Pos} : isTupE e = false → MGs C c es is → ME C c e ce → MS C c (.Assign [.Tuple es k p0] e p) (.tset is ce)
  | aug {c : Sc} {x : Str} {i : Nat} {e : Expr} {ce : CE} {op : Operator} {o : P2} {p0 p : Pos} : AugI op o → C.N[i]? = some x → L2.Loc c.sc x → (c.fX x = true ∨ c.sc.names.lookup x = some .local) → ME C c e ce → MS C c (.AugAssign (.Name x p0) op e p) (.aug i o ce)
  | put {c : Sc} {x : Str} {i : Nat} {k e : Expr} {ck ce : CE} {p0 p1 p : Pos} : C.N[i]? = some x → L2.Vis c.sc x → (x == ("__debug__" : Str)) = false → (x == ("__classdict__" : Str)) = false → ME C c k ck → ME C c e ce → MS C c (.Assign [.Subscript (.Name x p0) k p1] e p) (.put i ck ce)
  | fset {c : Sc} {x : Str} {i : Nat} {f : Str} {e : Expr} {ce : CE} {p0 p1 p : Pos} : C.N[i]? = some x → L2.Vis c.sc x → (x == ("__debug__" : Str)) = false → (x == ("__classdict__" : Str)) = false → ME C c e ce → MS C c (.Assign [.Attribute (.Name x p0) f p1] e p) (.fset i f ce)
  | cond {c : Sc} {e : Expr} {ce : CE} {a b : List Stmt} {ca cb : CB} {p : Pos} : ME C c e ce → MB C c a ca → MB C c b cb → MS C c (.If e a b p) (.cond ce ca cb)
  | forS {c : Sc} {tg iter : Expr} {t : Tgt} {it : CI} {a : List Stmt} {ca : CB} {p : Pos} : isSet iter = false → MI C c iter it → MG C c tg t → MB C c a ca → MS C c (.For tg iter a [] p) (.forS t it ca)
  | whileS {c : Sc} {e : Expr} {ce : CE} {a : List Stmt} {ca : CB} {p : Pos} : ME C c e ce → MB C c a ca → MS C c (.While e a [] p) (.whileS ce ca)
inductive MB (C : CC) : Sc → List Stmt → CB → Prop
  | nil {c : Sc} : MB C c [] .nil
  | cons {c : Sc} {s : Stmt} {r : List Stmt} {cs : CS} {cr : CB} : MS C c s cs → MB C c r cr → MB C c (s :: r) (.cons cs cr)
end
section
variable {C : CC}
theorem liftS_nev {X : Cx} {G : GEnv} {E : Ends} {σ : L2.St} {H : Hp} (h : liftS X G .nev E σ H) : False := by
  obtain ⟨Z, H₀, tvs, ts, α, st, r, e, k⟩ := h
  rw [denS] at e
  cases e
theorem few1 {e : Expr} (h : isStar e = false) (p : Pos) (env : Env) : ((backTo p (starEach [e] env)).all (fun x => !x.1) && (backToKw p (keywordEach [] env)).all (fun x => x.1.isSome)
      && decide (([e] : List Expr).length + ([] : List Keyword).length + (if ([] : List Keyword).isEmpty then 0 else 1) < 30)) = true := by rw [star_ok h]; rfl
mutual
theorem ms_ok : ∀ {c : Sc} {s : Stmt} {cs : CS}, MS C c s cs → ∀ {X : Cx}, Good X C c → PassesOwn (model X.prog X.w) X.A X.env X.xe → PS X s (liftS X C.G cs)
  | _, _, _, .nev, X, g, hp => ⟨fun _ _ _ _ _ _ h => (liftS_nev h).elim⟩
  | _, _, _, .pass, X, g, hp => ls_pass
  | _, _, _, .doc, X, g, hp => ls_doc
  | _, _, _, .brk, X, g, hp => ls_brk
  | _, _, _, .cont, X, g, hp => ls_cont
  | _, _, _, .expr hc h, X, g, hp => ls_expr (me_ok h g).lf (swap_ok hc _ _ X.env)
  | _, _, _, .app h1 h2 h3 h4 hs hl h, X, g, hp => ls_app (pe_var (by rw [g.N]; exact h1) (g.vis h2) h3 h4) (me_ok h g).lf rfl (few1 hs _ X.env) hl (star_ok hs _ X.env) rfl
  | _, _, _, .ext h1 h2 h3 h4 hs hl h, X, g, hp => ls_ext (pe_var (by rw [g.N]; exact h1) (g.vis h2) h3 h4) (me_ok h g).lf rfl (few1 hs _ X.env) hl (star_ok hs _ X.env) rfl
  | _, _, _, .clr h1 h2 h3 h4 hl, X, g, hp => ls_clr (pe_var (by rw [g.N]; exact h1) (g.vis h2) h3 h4) rfl hl rfl
  | _, _, _, .ret hv h, X, g, hp => ls_ret (me_ok h g).lf hv
  | _, _, _, .retV h1 h2 h3 h4, X, g, hp => ls_retV (pe_var (by rw [g.N]; exact h1) (g.vis h2) h3 h4)
  | _, _, _, .retN, X, g, hp => ls_retN
  | _, _, _, .set hk hsw h1 h2 h3 h, X, g, hp => ls_set g.nd (by rw [g.N]; exact h1) (g.loc h2) (me_ok h g).lf (by rw [swB_ok g hk, hsw]) (g.wr h3)
  | _, _, _, .setC hk hsw h1 h2 hb hn hin hs i1 i2 i3 i4, X, g, hp => ls_setC (ls_setLc g.calm g.nd (by rw [g.N]; exact h1) (by rw [g.env]; exact h2) (by rw [swB_ok g hk, hsw]) (mi_ok i1 g _) (by rw [g.N, g.env]; exact blkOk_by hb) (fun s H Cl cl fp => mg_ok i2 (g.blk s H _ Cl cl fp)) (fun s H Cl cl fp => mt_ok i3 (g.blk s H _ Cl cl fp)) (fun s H Cl cl fp => (me_ok i4 (g.blk s H _ Cl cl fp)).lf) (set_ok hs X.env) hn hin)
  | _, _, _, .setD hk hsw h1 h2 hb hn hin hs i1 i2 i3 i4, X, g, hp => ls_setD g.calm g.nd (by rw [g.N]; exact h1) (by rw [g.env]; exact h2) (by rw [swB_ok g hk, hsw]) (mi_ok i1 g _) (by rw [g.N, g.env]; exact blkOk_by hb) (fun s H Cl cl fp => mg_ok i2 (g.blk s H _ Cl cl fp)) (fun s H Cl cl fp => (me_ok i3 (g.blk s H _ Cl cl fp)).lf) (fun s H Cl cl fp => (me_ok i4 (g.blk s H _ Cl cl fp)).lf) (set_ok hs X.env) hn hin
  | _, _, _, .tset ht hg h, X, g, hp => ls_tset (me_ok h g).lf (mg_ok (.tp hg) g) sole_tup (stores_ok ht) rfl
  | _, _, _, .aug ho h1 h2 h3 h, X, g, hp => ls_aug g.nd (by rw [g.N]; exact h1) (g.loc h2) (me_ok h g).lf (by cases ho; exact .inl ⟨rfl, rfl⟩; exact .inr ⟨rfl, rfl⟩) (g.wr h3)
  | _, _, _, .put h1 h2 h3 h4 hk h, X, g, hp => ls_put (by have := g.un; omega) (pe_var (by rw [g.N]; exact h1) (g.vis h2) h3 h4) (me_ok hk g).lf (me_ok h g).lf swap_sub
  | _, _, _, .fset h1 h2 h3 h4 h, X, g, hp => ls_fset g.gok (pe_var (by rw [g.N]; exact h1) (g.vis h2) h3 h4) (me_ok h g).lf swap_attr
  | _, _, _, .cond h ha hb, X, g, hp => ls_if (me_ok h g).tt (mb_ok ha g hp) (mb_ok hb g hp)
  | _, _, _, .forS hs hi ht ha, X, g, hp => ls_for hp g.calm (mi_ok hi g _) (mg_ok ht g) (mb_ok ha g hp) (set_ok hs X.env)
  | _, _, _, .whileS h ha, X, g, hp => ls_while hp (me_ok h g).tt (mb_ok ha g hp)
theorem mb_ok : ∀ {c : Sc} {s : List Stmt} {cb : CB}, MB C c s cb → ∀ {X : Cx}, Good X C c → PassesOwn (model X.prog X.w) X.A X.env X.xe → PSs X s (liftB X C.G cb)
  | _, _, _, .nil, X, g, hp => lb_nil
  | _, _, _, .cons h r, X, g, hp => lb_cons (ms_ok h g hp) (mb_ok r g hp)
end
end
end Dv

set_option Elab.async false
set_option linter.all false
set_option maxRecDepth 100000
set_option maxHeartbeats 4000000
/-! defs: from the body's meaning to the promise -/
namespace Dv
open PySem PySem.Spec PyProof.Rows L2

/-- what the names stand for, at a level -/
structure GAt (P : Program) (w : World) (K : PySem.W.Frag) (mg : Str → Option Value) (base : Heap) (k : Nat) (G : GEnv) : Prop where
  con : ∀ n x d, G.con n = some (x, d) → ∃ v u, mg x = some u ∧ RelV v u ∧ ∀ V₀, Rep ⟨P, w, K, mg⟩ V₀ v d
  fn : ∀ i x n F, G.fn i = some (x, n, F) → (∃ f fd ps j, ps.length = n ∧ mg x = some (.ref f) ∧ PySem.W.keepIn K (.ref f) = true ∧ Binds K fd ps [] ∧ FnOk P w K mg base (L2.CX P w) j f fd ps (spOf ⟨P, w, K, mg⟩ n F) ∧ j ≤ k) ∨
    ∃ C f fd ps j, (∀ ds r, F ds = .ok r → ∃ ns es, r = .oi x ns es) ∧ ps.length = n + 1 ∧ mg x = some (.ref C) ∧ Mk K C f ∧ Binds K fd ps [] ∧ FnOk P w K mg base (L2.CX P w) j f fd ps (spInit ⟨P, w, K, mg⟩ x n F) ∧ j + 1 ≤ k
  mth : ∀ c m n F C, G.mth c m = some (n, F) → mg c = some (.ref C) → ∃ f fd ps j, ps.length = n ∧ Cls K C ∧ Meth K C m f ∧ Binds K fd ps [] ∧ FnOk P w K mg base (L2.CX P w) j f fd ps (spOf ⟨P, w, K, mg⟩ n F) ∧ j ≤ k
  gi : ∀ c F C, G.gi c = some F → mg c = some (.ref C) → ∃ f fd ps j, ps.length = 2 ∧ Meth K C "__getitem__" f ∧ PySem.W.fnIn K f = true ∧ Binds K fd ps [] ∧ FnOk P w K mg base (L2.CX P w) j f fd ps (spOf ⟨P, w, K, mg⟩ 2 F) ∧ j + 1 ≤ k
  fld : ∀ c f C, G.fld c f = true → mg c = some (.ref C) → Cls K C ∧ NoAttr K C f
  isa : ∀ c t b C, G.isa c t = some b → mg c = some (.ref C) → ∃ T, mg t = some (.ref T) ∧ PySem.W.kitOne K (.ref C) (.ref T) = some b ∧ Cls K C ∧ PySem.W.findIn K (.ref C) "__class__" = some (some (.builtin "object.__class__")) ∧
    PySem.W.specialIn K (.builtin "object.__class__") "__get__" = some (some (.builtin "getset_descriptor.__get__")) ∧ PySem.W.takesIn K (.builtin "object.__class__") = some true ∧ PySem.W.mroIn K C (.type "object") = some true
theorem GAt.ok {X : Cx} {G : GEnv} {k : Nat} (g : GAt X.prog X.w X.K X.mg X.base k G) (r : Room k X.A) : GOk X G where
  con := g.con
  fn := fun i x n F h => by
    rcases g.fn i x n F h with ⟨f, fd, ps, j, h1, h2, h3, h4, h5, h6⟩ | ⟨C, f, fd, ps, j, h0, h1, h2, h3, h4, h5, h6⟩
    · exact .inl ⟨f, fd, ps, j, h1, h2, h3, h4, h5, r.mono h6⟩
    · exact .inr ⟨C, f, fd, ps, j, h0, h1, h2, h3, h4, h5, r.mono h6⟩
  mth := fun c m n F C h h' => by
    obtain ⟨f, fd, ps, j, h1, h2, h3, h4, h5, h6⟩ := g.mth c m n F C h h'
    exact ⟨f, fd, ps, j, h1, h2, h3, h4, h5, r.mono h6⟩
  gi := fun c F C h h' => by
    obtain ⟨f, fd, ps, j, h1, h2, h3, h4, h5, h6⟩ := g.gi c F C h h'
    exact ⟨f, fd, ps, j, h1, h2, h3, h4, h5, r.mono h6⟩
  fld := g.fld
  isa := g.isa
/-- what a module tells of its names -/
structure CAt (mg : Str → Option Value) (C : CC) : Prop where
  bn : ∀ x, C.bn x = true → mg x = none
  cls : ∀ x, C.own x = true → ∃ T, mg x = some (.ref T)
  cx : ∀ x k, C.cx x = some k → ∃ d, C.G.con k = some (x, d)
  fx : ∀ x k, C.fx x = some k → C.G.fn k = none ∨ ∃ n F, C.G.fn k = some (x, n, F)

section
variable {P : Program} {w : World} {K : PySem.W.Frag} {mg : Str → Option Value} {base : Heap}
theorem good_of {CX : CXT} {N ps : List Str} {qual : Str} {scope : Scope} {f : Addr} {cd : Value} {A : Around} {outer : List Env} {s : Shared} {H : Hp} {E : XK} {k : Nat} {C : CC} (hN : C.N = N) (nd : N.Nodup) (r : Room k (A.deeper (envOfC qual scope s.heap.objs.size f cd))) (g : GAt P w K mg base k C.G) (c : CAt mg C) :
    Good (cxOf CX P w K mg base N qual scope f cd A outer s H E).nox C ⟨scope, fun _ => true⟩ where
  env := rfl
  N := hN.symm
  nd := nd
  calm := rfl
  fn := rfl
  un := by have := r.un; show (A.deeper _).units + 100 < cLine; omega
  gok := GAt.ok (X := (cxOf CX P w K mg base N qual scope f cd A outer s H E).nox) g r
  bn := c.bn
  cls := c.cls
  cx := c.cx
  fx := c.fx
theorem ents_vals {R : RC} {V₀ H : Hp} {os : List (Option V)} {ss : List SV} : ∀ {vs : List V} {ds : List D}, Reps R V₀ vs ds → Ents R V₀ H os ss [] → Ents R V₀ H (vs.map some ++ os) (ds.map SV.v ++ ss) []
  | _, _, .nil, e => e
  | _, _, .cons r q, e => .cons (as := []) (.v r) (ents_vals q e)
theorem ents_un {R : RC} {V₀ H : Hp} : ∀ n : Nat, Ents R V₀ H (List.replicate n none) (List.replicate n .un) []
  | 0 => .nil
  | n + 1 => .cons (as := []) (.un none) (ents_un n)
/-- the entry of a def -/
theorem sit_start {R : RC} {Z : Addr → Prop} {H : Hp} {N : List Str} {vs : List V} {ds : List D} (hz : ∀ b, Z b → H b ≠ none) (rp : Reps R (vis Z [] H) vs ds) : Sit R Z H H [] (start N vs) [] (ds.map .v ++ List.replicate (N.length - ds.length) .un) := by
  refine ⟨rfl, [], ?_, List.nodup_nil, fun a h => (nomatch h), Same.refl H, hz⟩
  show Ents R (vis Z [] H) H (vs.map some ++ List.replicate (N.length - vs.length) none) _ []
  rw [rp.length]
  exact ents_vals rp (ents_un _)
theorem denD_ok {G : GEnv} {n : Nat} {b : CB} {ds : List D} {r : SV} (h : denD G n b ds = .ok r) : ∃ f, denB G b (ds.map .v ++ List.replicate (n - ds.length) .un) = .ok f ∧ (f = .rt r ∨ ∃ α, f = .nx α ∧ r = .v .non) := by
  unfold denD at h
  obtain ⟨f, h1, h2⟩ := Res.bind_ok h
  refine ⟨f, h1, ?_⟩
  cases f with
  | rt r' => cases h2; exact .inl rfl
  | nx α => cases h2; exact .inr ⟨α, rfl, rfl⟩
  | bk α => cases h2
  | ct α => cases h2
theorem flok_out {R : RC} {Z : Addr → Prop} {H : Hp} {f : Fl} {r : SV} {Q : VK} {σ : L2.St} {W : List Nat} (o : Out R Z [] H r Q) (hf : f = .rt r ∨ ∃ α, f = .nx α ∧ r = .v .non) : FlOk R Z H [] [] σ W { nx := fun _ H' => Q .non H', rt := Q } f := by
  have fin : ∀ {v : V} {H' : Hp} {os : List (Option V)} {ss : List SV}, r ≠ .un → Rl R Z H H' (some v :: os) (r :: ss) → Q v H' := fun {v H' os ss} hu rl => by
    obtain ⟨L, rr⟩ := rl
    obtain ⟨en, nd, fr, sm, zd⟩ := rr
    cases en with
    | @cons _ _ as _ _ bs e q =>
      refine o H' v as sm (fun c hc => fr c (List.mem_append_left _ hc)) (List.nodup_append.mp nd).1 hu (e.mono (vis_mono fun b u _ hb e => ⟨fun m => hb ?_, e⟩) fun _ _ _ h => h)
      rw [List.append_nil] at m
      exact List.mem_append_left _ m
  rcases hf with rfl | ⟨α, rfl, rfl⟩
  · exact fun v H' os ss hu rl => fin hu rl
  · exact fun σ' H' _ rl => fin (fun z => nomatch z) (rl.any fun _ => .non)
/-- a def keeps its promise -/
theorem def_ok {x qual : Str} {st : Stmt} {f : Addr} {fd : FuncData} {N ps : List Str} {k : Nat} {C : CC} {cb : CB} (F : Fun K x qual st f fd) (S : FnScope N ps (defScope st)) (g : GAt P w K mg base k C.G) (c : CAt mg C) (hN : C.N = N) (h : MB C ⟨defScope st, fun _ => true⟩ (defBody st) cb) :
    FnOk P w K mg base (L2.CX P w) (k + 1) f fd ps (spOf ⟨P, w, K, mg⟩ ps.length (denD C.G N.length cb)) := by
  obtain ⟨oc, od, kV, doc, pm, an, cdv, ct, osl, rfl, lk, hcd⟩ := F.ex
  refine fn_of lk hcd S (fun vs H Q E q => q.1) fun A outer s H vs Q E hr hsp => ?_
  have gd := good_of (CX := L2.CX P w) (ps := ps) (qual := qual) (scope := defScope st) (f := f) (cd := cdv) (A := A) (outer := outer) (s := s) (H := H) (E := E) hN S.nd hr g c
  refine ⟨_, (mb_ok h gd PassesOwn.never).nox, ?_⟩
  obtain ⟨hl, Z, ds, r, hz, rp, e, o⟩ := hsp
  obtain ⟨fl, e1, hf⟩ := denD_ok e
  exact ⟨Z, H, [], [], _, sit_start hz rp, fl, e1, flok_out o hf⟩

/-! ### an __init__ -/
/-- the fields that a new object of the class x gets -/
noncomputable def denN (G : GEnv) (x : Str) (n : Nat) (b : CB) (ds : List D) : Res SV := do
  let f ← denB G b (.oi x [] [] :: (ds.map .v ++ List.replicate (n - (ds.length + 1)) .un))
  match f with
  | .nx (.oi c ns es :: _) => if c = x then .ok (.oi c ns es) else .fail
  | _ => .fail
theorem denN_ok {G : GEnv} {x : Str} {n : Nat} {b : CB} {ds : List D} {r : SV} (h : denN G x n b ds = .ok r) : ∃ ns es α, denB G b (.oi x [] [] :: (ds.map .v ++ List.replicate (n - (ds.length + 1)) .un)) = .ok (.nx (.oi x ns es :: α)) ∧ r = .oi x ns es := by
  unfold denN at h
  obtain ⟨f, h1, h2⟩ := Res.bind_ok h
  cases f with
  | nx α =>
    cases α with
    | nil => cases h2
    | cons s α =>
      cases s with
      | oi c ns es =>
        obtain ⟨hc, h2⟩ := ite_ok (show (if c = x then Res.ok (SV.oi c ns es) else .fail) = .ok r from h2)
        cases h2
        subst hc
        exact ⟨ns, es, α, h1, rfl⟩
      | _ => cases h2
  | _ => cases h2
theorem init_okR {x qual : Str} {params : Arguments} {body : List Stmt} {scope : Scope} {dV kV doc pm cdv ct oc : Value} {an od : Option Addr} {osl : Array (Option Value)} {f : Addr} {N ps : List Str} {k : Nat} {C : CC} {cb : CB} {cn : Str} {n : Nat} (lk : K.lookup f = some ⟨oc, od, .func (PySem.W.fnOf x qual params body scope dV kV doc pm an cdv ct), osl⟩) (hcd : PySem.W.codeIn K cdv qual = true) (S : FnScope N ps scope) (g : GAt P w K mg base k C.G) (c : CAt mg C) (hN : C.N = N) (hn : ps.length = n + 1) (hw : 0 ∉ wB cb) (h : MB C ⟨scope, fun _ => true⟩ body cb) :
    FnOk P w K mg base (L2.CX P w) (k + 1) f (PySem.W.fnOf x qual params body scope dV kV doc pm an cdv ct) ps (spInit ⟨P, w, K, mg⟩ cn n (denN C.G cn N.length cb)) := by
  refine fn_of lk hcd S (fun vs H Q E q => by rw [q.1, hn]) fun A outer s H vs Q E hr hsp => ?_
  have gd := good_of (CX := L2.CX P w) (ps := ps) (qual := qual) (scope := scope) (f := f) (cd := cdv) (A := A) (outer := outer) (s := s) (H := H) (E := E) hN S.nd hr g c
  refine ⟨_, (mb_ok h gd PassesOwn.never).nox, ?_⟩
  obtain ⟨hl, Z, a, Ca, dx, ws, ds, ns, es, rfl, hz, za, hm, hH, rp, e, o⟩ := hsp
  obtain ⟨ns', es', α, e1, e2⟩ := denN_ok e
  cases e2
  -- the entry without the new object
  let H₀ : Hp := fun b => if b = a then none else H b
  let Z₀ : Addr → Prop := fun b => Z b ∧ b ≠ a
  have hne : ∀ b, b ≠ a → H₀ b = H b := fun b q => if_neg q
  have hna : H₀ a = none := if_pos rfl
  have sm0 : Same H₀ H := fun b u q => by
    by_cases eb : b = a
    · subst eb; rw [hna] at q; cases q
    · rw [hne b eb] at q; exact q
  have sb : Sub (vis Z [] H) (vis Z₀ [a] H) := .of fun b u q => by
    obtain ⟨q1, q2, q3⟩ := vis_some q
    exact vis_of (fun z => q1 z.1) (fun m => q1 (by rw [List.mem_singleton.mp m]; exact za)) q3
  have st0 : Sit ⟨P, w, K, mg⟩ Z₀ H₀ H [] (start N (.ref a :: ws)) [] (.oi cn [] [] :: (ds.map .v ++ List.replicate (N.length - (ds.length + 1)) .un)) := by
    refine ⟨rfl, [a] ++ [], ?_, by simp, fun b m => by rw [List.mem_singleton.mp m]; exact hna, sm0, fun b z => by rw [hne b z.2]; exact hz b z.1⟩
    have en : Ents ⟨P, w, K, mg⟩ (vis Z₀ ([a] ++ []) H) H (ws.map some ++ List.replicate (N.length - (ws.length + 1)) none) (ds.map SV.v ++ List.replicate (N.length - (ds.length + 1)) .un) [] := by
      rw [rp.length]
      exact ents_vals (rp.mono (by simpa using sb)) (ents_un _)
    exact .cons (.oi (fs := []) hm hH .nil) en
  refine ⟨Z₀, H₀, [], [], _, st0, _, e1, fun σ' H' kp rl => ?_⟩
  obtain ⟨L, rr⟩ := rl
  have rr : RlO ⟨P, w, K, mg⟩ Z₀ H₀ H' L σ' (.oi cn ns es :: α) := rr
  have k0 : σ'[0]? = some (some (.ref a)) := kp 0 hw
  have sm := rr.same
  obtain ⟨b, g1, g2, g3, put⟩ := rr.put (i := 0) rfl rfl
  rw [k0] at g1
  cases g1
  have fin : ∀ {s : SV} {o : Option V} {as : List Addr}, Ent ⟨P, w, K, mg⟩ (vis Z₀ L H') H' o s as → s = .oi cn ns es → o = some (.ref a) → ∃ (Cb db : Addr) (fs : List (Str × V)), mg cn = some (.ref Cb) ∧ H' a = some (.ins Cb db fs) ∧ ns = fs.map (·.1) ∧ Reps ⟨P, w, K, mg⟩ (vis Z₀ L H') (fs.map (·.2)) es := by
    intro s o as en hs ho
    cases en with
    | oi m hH rp => cases hs; cases ho; exact ⟨_, _, _, m, hH, rfl, rp⟩
    | _ => cases hs
  obtain ⟨Cb, db, fs, m, hH', e3, rp'⟩ := fin g3 rfl rfl
  have ec : Cb = Ca := by
    have z : mg cn = some (.ref Ca) := hm
    rw [m] at z
    cases z
    rfl
  subst ec
  refine o H' db fs (fun b u hb q => sm b u (by rw [hne b hb]; exact q)) hH' e3.symm (rp'.mono (.of fun b u q => ?_))
  obtain ⟨q1, q2, q3⟩ := vis_some q
  exact vis_of (fun z => q1 ⟨z, fun e => q2 (by rw [e]; exact g2)⟩) (fun m => (nomatch m)) q3
theorem init_ok {x qual : Str} {st : Stmt} {f : Addr} {fd : FuncData} {N ps : List Str} {k : Nat} {C : CC} {cb : CB} {cn : Str} {n : Nat} (F : Fun K x qual st f fd) (S : FnScope N ps (defScope st)) (g : GAt P w K mg base k C.G) (c : CAt mg C) (hN : C.N = N) (hn : ps.length = n + 1) (hw : 0 ∉ wB cb) (h : MB C ⟨defScope st, fun _ => true⟩ (defBody st) cb) :
    FnOk P w K mg base (L2.CX P w) (k + 1) f fd ps (spInit ⟨P, w, K, mg⟩ cn n (denN C.G cn N.length cb)) := by
  obtain ⟨oc, od, kV, doc, pm, an, cdv, ct, osl, rfl, lk, hcd⟩ := F.ex
  exact init_okR lk hcd S g c hN hn hw h
end
end Dv

set_option Elab.async false
set_option linter.all false
set_option maxRecDepth 100000
set_option maxHeartbeats 4000000
/-! the reading of a text is found -/
namespace Dv
open PySem PySem.Spec PyProof.Rows L2

instance decVis (sc : Scope) (x : Str) : Decidable (L2.Vis sc x) := by unfold L2.Vis; infer_instance
instance decLoc (sc : Scope) (x : Str) : Decidable (L2.Loc sc x) := by unfold L2.Loc; infer_instance
instance decGs (c : Sc) (x : Str) : Decidable (Gs c x) := by unfold Gs; infer_instance
abbrev FE (C : CC) (c : Sc) (e : Expr) := { ce : CE // ME C c e ce }
abbrev FS (C : CC) (c : Sc) (s : Stmt) := { cs : CS // MS C c s cs }
def nvE {C : CC} {c : Sc} {e : Expr} : FE C c e := ⟨.nev, .nev⟩
def nvS {C : CC} {c : Sc} {s : Stmt} : FS C c s := ⟨.nev, .nev⟩
/-- a name's slot -/
structure Slot' (C : CC) (c : Sc) (x : Str) where
  i : Nat
  at_ : C.N[i]? = some x
  vis : L2.Vis c.sc x
  nd : (x == ("__debug__" : Str)) = false
  nc : (x == ("__classdict__" : Str)) = false
def fSlot (C : CC) (c : Sc) (x : Str) : Option (Slot' C c x) :=
  if h1 : C.N[C.N.idxOf x]? = some x then if h2 : L2.Vis c.sc x then if h3 : (x == ("__debug__" : Str)) = false then if h4 : (x == ("__classdict__" : Str)) = false then some ⟨_, h1, h2, h3, h4⟩ else none else none else none else none
structure Wr (C : CC) (c : Sc) (x : Str) where
  i : Nat
  at_ : C.N[i]? = some x
  loc : L2.Loc c.sc x
  wr : c.fX x = true ∨ c.sc.names.lookup x = some .local
def fWr (C : CC) (c : Sc) (x : Str) : Option (Wr C c x) :=
  if h1 : C.N[C.N.idxOf x]? = some x then if h2 : L2.Loc c.sc x then if h3 : c.fX x = true ∨ c.sc.names.lookup x = some .local then some ⟨_, h1, h2, h3⟩ else none else none else none
def fName (C : CC) (c : Sc) (x : Str) (p : Pos) : FE C c (.Name x p) := match fSlot C c x with
  | some s => ⟨.var s.i, .var s.at_ s.vis s.nd s.nc⟩
  | none => match h : C.cx x with
    | some k => if h1 : Gs c x then if h2 : (x == ("__debug__" : Str)) = false then ⟨.con k, .con h1 h h2⟩ else nvE else nvE
    | none => nvE
def fOp : (o : Operator) → Option { q : P2 // OpI o q }
  | .Add => some ⟨_, .add⟩
  | .Sub => some ⟨_, .sub⟩
  | .Mult => some ⟨_, .mul⟩
  | .FloorDiv => some ⟨_, .fdiv⟩
  | .Mod => some ⟨_, .mod⟩
  | .Pow => some ⟨_, .pow⟩
  | .BitAnd => some ⟨_, .band⟩
  | _ => none
def fCmp : (o : CmpOp) → Option { q : P2 // CmpI o q }
  | .Eq => some ⟨_, .eq⟩
  | .NotEq => some ⟨_, .ne⟩
  | .Lt => some ⟨_, .lt⟩
  | .LtE => some ⟨_, .le⟩
  | .Gt => some ⟨_, .gt⟩
  | .GtE => some ⟨_, .ge⟩
  | .In => some ⟨_, .mem⟩
  | .NotIn => some ⟨_, .nmem⟩
  | _ => none
def fAug : (o : Operator) → Option { q : P2 // AugI o q }
  | .Add => some ⟨_, .add⟩
  | .Sub => some ⟨_, .sub⟩
  | _ => none
def fB1 (x : Str) : Option { q : P1 // B1 x q } :=
  if h : x = "len" then some ⟨.len, h ▸ .len⟩ else if h : x = "list" then some ⟨.list, h ▸ .list⟩ else if h : x = "tuple" then some ⟨.tuple, h ▸ .tuple⟩ else
  if h : x = "int" then some ⟨.int, h ▸ .int⟩ else if h : x = "bool" then some ⟨.bool, h ▸ .bool⟩ else if h : x = "abs" then some ⟨.abs, h ▸ .abs⟩ else
  if h : x = "all" then some ⟨.all, h ▸ .all⟩ else if h : x = "str" then some ⟨.str, h ▸ .str⟩ else if h : x = "dict" then some ⟨.dict, h ▸ .dict⟩ else none
def fB2 (x : Str) : Option { q : P2 // B2 x q } :=
  if h : x = "max" then some ⟨.max, h ▸ .max⟩ else if h : x = "min" then some ⟨.min, h ▸ .min⟩ else none
def fT' (t : Str) : Option { T : String // t = Str.ofString T ∧ (T = "str" ∨ T = "int" ∨ T = "bool" ∨ T = "list" ∨ T = "tuple") } :=
  if h : t = "str" then some ⟨"str", h, by decide⟩ else if h : t = "int" then some ⟨"int", h, by decide⟩ else if h : t = "bool" then some ⟨"bool", h, by decide⟩ else
  if h : t = "list" then some ⟨"list", h, by decide⟩ else if h : t = "tuple" then some ⟨"tuple", h, by decide⟩ else none
def fGs (C : CC) (c : Sc) : (es : List Expr) → Option { is : List Nat // MGs C c es is }
  | [] => some ⟨[], .nil⟩
  | .Name x p :: es => match fWr C c x, fGs C c es with
    | some w, some r => some ⟨w.i :: r.1, .cons w.at_ w.loc w.wr r.2⟩
    | _, _ => none
  | _ :: _ => none
def fG (C : CC) (c : Sc) : (e : Expr) → Option { t : Tgt // MG C c e t }
  | .Name x p => match fWr C c x with
    | some w => some ⟨.nm w.i, .nm w.at_ w.loc w.wr⟩
    | none => none
  | .Tuple es k p => match fGs C c es with
    | some r => some ⟨.tp r.1, .tp r.2⟩
    | none => none
  | _ => none
def ownOf (N : List Str) (scope : Scope) : List (Str × Nat) := scope.names.filterMap fun (y, k) => if (k == .local || k == .cell) && decide (y ∈ N) then some (y, N.idxOf y) else none
mutual
def fE (C : CC) : Nat → (c : Sc) → (e : Expr) → FE C c e
  | 0, _, _ => nvE
  | n + 1, c, e => match e with
    | .Name x p => fName C c x p
    | .Constant (.int i) j p => ⟨_, .int⟩
    | .Constant (.str x) j p => ⟨_, .str⟩
    | .Constant (.bool b) j p => ⟨_, .bl⟩
    | .Constant .none j p => ⟨_, .non⟩
    | .UnaryOp .USub a p => ⟨_, .neg (fE C n c a).2⟩
    | .UnaryOp .Not a p => ⟨_, .not (fE C n c a).2⟩
    | .BinOp a o b p => match fOp o with
      | some q => ⟨_, .op q.2 (fE C n c a).2 (fE C n c b).2⟩
      | none => nvE
    | .Compare a [.Is] [.Constant .none j q] p => ⟨_, .isN (fE C n c a).2⟩
    | .Compare a [.IsNot] [.Constant .none j q] p => ⟨_, .notN (fE C n c a).2⟩
    | .Compare a [o] [b] p => match fCmp o with
      | some q => if h : isSet b = false then ⟨_, .cmp q.2 h (fE C n c a).2 (fE C n c b).2⟩ else nvE
      | none => nvE
    | .Compare a [o, o'] [b, d] p => match fCmp o, fCmp o' with
      | some q, some q' => if h : isSet d = false then ⟨_, .chain q.2 q'.2 h (fE C n c a).2 (fE C n c b).2 (fE C n c d).2⟩ else nvE
      | _, _ => nvE
    | .BoolOp op es p => fBo C n c op es p
    | .Subscript a s p => fSub C n c a s p
    | .Attribute a f p => if h : isCall a = false then ⟨_, .attr h (fE C n c a).2⟩ else nvE
    | .Call f es kws p => fCall C n c f es kws p
    | .Tuple es k p => if h : es.all (fun e => !isStar e) = true then match fD C n c es with
      | some r => ⟨_, .tup h r.2⟩
      | none => nvE
      else nvE
    | .List es p => if h : es.all (fun e => !isStar e) = true then match fD C n c es with
      | some r => ⟨_, .lst h r.2⟩
      | none => nvE
      else nvE
    | .Dict [] [] p => ⟨_, .dct0⟩
    | .Dict ks vs p => if h0 : ks ≠ [] then if h : ks.length ≤ 15 then match fP C n c ks vs with
      | some r => ⟨_, .dct h0 h r.2⟩
      | none => nvE
      else nvE else nvE
    | .DictComp kx vx [⟨tg, iter, [], 0⟩] scope p =>
      let c' : Sc := ⟨relS c.sc scope, fun x => scope.names.lookup x == some .cell⟩
      let own := ownOf C.N scope
      match fG C c' tg with
      | some t => if h1 : blkC C.N c.sc scope own = true then if h2 : (own.map (·.2)).Nodup then if h3 : ∀ i ∈ tgts t.1, i ∈ own.map (·.2) then if h4 : isSet iter = false then
          ⟨_, .dc h1 h2 h3 h4 (fI C n c iter).2 t.2 (fE C n c' kx).2 (fE C n c' vx).2⟩ else nvE else nvE else nvE else nvE
      | none => nvE
    | .ListComp elt [⟨tg, iter, ifs, 0⟩] scope p =>
      let c' : Sc := ⟨relS c.sc scope, fun x => scope.names.lookup x == some .cell⟩
      let own := ownOf C.N scope
      match fG C c' tg, fTs C n c' ifs with
      | some t, some ts => if h1 : blkC C.N c.sc scope own = true then if h2 : (own.map (·.2)).Nodup then if h3 : ∀ i ∈ tgts t.1, i ∈ own.map (·.2) then if h4 : isSet iter = false then
          ⟨_, .lc h1 h2 h3 h4 (fI C n c iter).2 t.2 ts.2 (fE C n c' elt).2⟩ else nvE else nvE else nvE else nvE
      | _, _ => nvE
    | _ => nvE
def fBo (C : CC) : Nat → (c : Sc) → (op : BoolOp) → (es : List Expr) → (p : Pos) → FE C c (.BoolOp op es p)
  | 0, _, _, _, _ => nvE
  | n + 1, c, .And, [a], p => let r := fE C n c a
    if h : isVar r.1 = false then ⟨r.1, .and1 h r.2⟩ else nvE
  | n + 1, c, .And, a :: b :: es, p => ⟨_, .andc (fE C n c a).2 (fBo C n c .And (b :: es) p).2⟩
  | n + 1, c, .Or, [a], p => let r := fE C n c a
    if h : isVar r.1 = false then ⟨r.1, .or1 h r.2⟩ else nvE
  | n + 1, c, .Or, a :: b :: es, p => ⟨_, .orc (fE C n c a).2 (fBo C n c .Or (b :: es) p).2⟩
  | n + 1, c, _, [], p => nvE
def fSub (C : CC) : Nat → (c : Sc) → (a s : Expr) → (p : Pos) → FE C c (.Subscript a s p)
  | 0, _, _, _, _ => nvE
  | n + 1, c, a, s, p => match s with
    | .Slice none none (some (.UnaryOp .USub (.Constant (.int 1) k p1) p2)) p3 => ⟨_, .rev (fE C n c a).2⟩
    | .Slice l h none q => ⟨_, .slice (fE C n c a).2 (fO C n c l).2 (fO C n c h).2⟩
    | s => if h : isSlice s = false then ⟨_, .sub h (fE C n c a).2 (fE C n c s).2⟩ else nvE
def fO (C : CC) : Nat → (c : Sc) → (e : Option Expr) → { co : CO // MO C c e co }
  | _, _, none => ⟨.none, .none⟩
  | 0, _, some e => ⟨_, .some .nev⟩
  | n + 1, c, some e => ⟨_, .some (fE C n c e).2⟩
def fTs (C : CC) : Nat → (c : Sc) → (es : List Expr) → Option { co : CO // MT C c es co }
  | _, _, [] => some ⟨.none, .none⟩
  | n + 1, c, [e] => some ⟨_, .some (fE C n c e).2⟩
  | _, _, _ => none
def fD (C : CC) : Nat → (c : Sc) → (es : List Expr) → Option { cl : CL // MD C c es cl }
  | _, _, [] => some ⟨.nil, .nil⟩
  | 0, _, _ :: _ => none
  | n + 1, c, e :: es => if h : isStar e = false then match fD C n c es with
    | some r => some ⟨_, .cons h (fE C n c e).2 r.2⟩
    | none => none
    else none
def fL (C : CC) : Nat → (c : Sc) → (es : List Expr) → Option { cl : CL // ML C c es cl }
  | _, _, [] => some ⟨.nil, .nil⟩
  | 0, _, _ :: _ => none
  | n + 1, c, e :: es => if h : isStar e = false then match fL C n c es with
    | some r => some ⟨_, .cons h (fE C n c e).2 r.2⟩
    | none => none
    else none
def fP (C : CC) : Nat → (c : Sc) → (ks : List (Option Expr)) → (vs : List Expr) → Option { cp : CP // MP C c ks vs cp }
  | _, _, [], [] => some ⟨.nil, .nil⟩
  | n + 1, c, some k :: ks, v :: vs => match fP C n c ks vs with
    | some r => some ⟨_, .cons (fE C n c k).2 (fE C n c v).2 r.2⟩
    | none => none
  | _, _, _, _ => none
def fI (C : CC) : Nat → (c : Sc) → (e : Expr) → { ci : CI // MI C c e ci }
  | 0, _, _ => ⟨.nev, .nev⟩
  | n + 1, c, e => match e with
    | .Call (.Name x p') [a] [] p => if hx : x = "range" then if h1 : C.bn "range" = true then if h2 : Gs c "range" then if h3 : isStar a = false then by rw [hx]; exact ⟨_, .rng h1 h2 h3 (fE C n c a).2⟩ else ⟨.nev, .nev⟩ else ⟨.nev, .nev⟩ else ⟨.nev, .nev⟩
      else ⟨_, .seq (fE C n c (.Call (.Name x p') [a] [] p)).2⟩
    | .Call (.Name x p') [a, b] [] p => if hx : x = "range" then if h1 : C.bn "range" = true then if h2 : Gs c "range" then if h3 : isStar a = false then if h4 : isStar b = false then by rw [hx]; exact ⟨_, .rng2 h1 h2 h3 h4 (fE C n c a).2 (fE C n c b).2⟩ else ⟨.nev, .nev⟩ else ⟨.nev, .nev⟩ else ⟨.nev, .nev⟩ else ⟨.nev, .nev⟩
      else ⟨_, .seq (fE C n c (.Call (.Name x p') [a, b] [] p)).2⟩
    | .Name x p => (match h : C.cx x with
      | some k => if h0 : C.dk x = true ∧ fSlot C c x = none then (if h1 : Gs c x then if h2 : (x == ("__debug__" : Str)) = false then ⟨.ckeys k, .ckeys h1 h h2⟩ else ⟨.nev, .nev⟩ else ⟨.nev, .nev⟩) else ⟨_, .seq (fE C n c (.Name x p)).2⟩
      | none => ⟨_, .seq (fE C n c (.Name x p)).2⟩)
    | e => ⟨_, .seq (fE C n c e).2⟩
def fCall (C : CC) : Nat → (c : Sc) → (f : Expr) → (es : List Expr) → (kws : List Keyword) → (p : Pos) → FE C c (.Call f es kws p)
  | 0, _, _, _, _, _ => nvE
  | n + 1, c, f, es, kws, p => match f with
    | .Name x p' => fCn C n c x p' es kws p
    | .Attribute o m apos => fCm C n c o m apos es kws p
    | _ => nvE
def fCn (C : CC) : Nat → (c : Sc) → (x : Str) → (p' : Pos) → (es : List Expr) → (kws : List Keyword) → (p : Pos) → FE C c (.Call (.Name x p') es kws p)
  | 0, _, _, _, _, _, _ => nvE
  | n + 1, c, x, p', es, [], p => match hk : C.fx x with
    | some k => if h1 : Gs c x then if h2 : (x == ("__debug__" : Str)) = false then if h3 : es.all (fun e => !isStar e) = true then match fL C n c es with
      | some r => ⟨_, .call hk h1 h2 h3 r.2⟩
      | none => nvE
      else nvE else nvE else nvE
    | none => match es with
      | [.Call (.Name y p2) [a] [] p3] => if hx : x = "list" ∧ y = "range" then by
          rw [hx.1, hx.2]
          exact if h1 : C.bn "list" = true then if h2 : Gs c "list" then if h3 : C.bn "range" = true then if h4 : Gs c "range" then if h5 : isStar a = false then ⟨_, .lrng h1 h2 h3 h4 h5 (fE C n c a).2⟩ else nvE else nvE else nvE else nvE else nvE
        else match fB1 x with
        | some q => if h1 : C.bn x = true then if h2 : Gs c x then ⟨_, .b1 q.2 h1 h2 rfl (fE C n c (.Call (.Name y p2) [a] [] p3)).2⟩ else nvE else nvE
        | none => nvE
      | [.SetComp elt [⟨tg, iter, [], 0⟩] scope p2] => if hx : x = "len" then by
          rw [hx]
          exact
            let c' : Sc := ⟨relS c.sc scope, fun x => scope.names.lookup x == some .cell⟩
            let own := ownOf C.N scope
            match fG C c' tg with
            | some t => if l1 : C.bn "len" = true then if l2 : Gs c "len" then if h1 : blkC C.N c.sc scope own = true then if h2 : (own.map (·.2)).Nodup then if h3 : ∀ i ∈ tgts t.1, i ∈ own.map (·.2) then if h4 : isSet iter = false then
                ⟨_, .sc l1 l2 h1 h2 h3 h4 (fI C n c iter).2 t.2 (fE C n c' elt).2⟩ else nvE else nvE else nvE else nvE else nvE else nvE
            | none => nvE
        else nvE
      | [a] => match fB1 x with
        | some q => if h1 : C.bn x = true then if h2 : Gs c x then if h3 : isStar a = false then ⟨_, .b1 q.2 h1 h2 h3 (fE C n c a).2⟩ else nvE else nvE else nvE
        | none => nvE
      | [a, b] => if hx : x = "isinstance" then match b with
          | .Name t p2 => by
            rw [hx]
            exact match fT' t with
            | some T => if h1 : C.bn "isinstance" = true then if h2 : Gs c "isinstance" then if h3 : C.bn t = true then if h4 : Gs c t then if h5 : isStar a = false then ⟨_, .isaB T.2.1 T.2.2 h1 h2 h3 h4 h5 (fE C n c a).2⟩ else nvE else nvE else nvE else nvE else nvE
            | none => if h0 : C.own t = true then if hb : bty t = false then if h1 : C.bn "isinstance" = true then if h2 : Gs c "isinstance" then if h3 : Gs c t then if h4 : (t == ("__debug__" : Str)) = false then if h5 : isStar a = false then ⟨_, .isaO h0 hb h1 h2 h3 h4 h5 (fE C n c a).2⟩ else nvE else nvE else nvE else nvE else nvE else nvE else nvE
          | _ => nvE
        else match fB2 x with
        | some q => if h1 : C.bn x = true then if h2 : Gs c x then if h3 : isStar a = false then if h4 : isStar b = false then ⟨_, .b2 q.2 h1 h2 h3 h4 (fE C n c a).2 (fE C n c b).2⟩ else nvE else nvE else nvE else nvE
        | none => nvE
      | _ => nvE
  | n + 1, c, x, p', [a], [⟨some kw, .Name t p2, kp⟩], p => if hx : x = "sorted" then if hkw : kw = "key" then if ht : t = "str" then by
      rw [hx, hkw, ht]
      exact if h1 : C.bn "sorted" = true then if h2 : Gs c "sorted" then if h3 : C.bn "str" = true then if h4 : Gs c "str" then if h5 : isStar a = false then ⟨_, .sortS h1 h2 h3 h4 h5 (fE C n c a).2⟩ else nvE else nvE else nvE else nvE else nvE
      else nvE else nvE else nvE
  | _, _, _, _, _, _, _ => nvE
def fCm (C : CC) : Nat → (c : Sc) → (o : Expr) → (m : Str) → (apos : Pos) → (es : List Expr) → (kws : List Keyword) → (p : Pos) → FE C c (.Call (.Attribute o m apos) es kws p)
  | 0, _, _, _, _, _, _, _ => nvE
  | n + 1, c, o, m, apos, es, [], p => if hl : (apos.endLine == p.line) = true then if ho : isCall o = false then
      if hm : m = "pop" ∧ es = [] then match o with
        | .Name x p0 => match fSlot C c x with
          | some s => by rw [hm.1, hm.2]; exact ⟨_, .pop s.at_ s.vis s.nd s.nc hl⟩
          | none => nvE
        | _ => nvE
      else if hm : m = "upper" ∧ es = [] then by rw [hm.1, hm.2]; exact ⟨_, .upper ho hl (fE C n c o).2⟩
      else match es with
        | [e] => if hm : m = "index" then if h1 : isStar e = false then by rw [hm]; exact ⟨_, .index ho h1 hl (fE C n c o).2 (fE C n c e).2⟩ else nvE
          else if hm : m = "count" then if h1 : isStar e = false then by rw [hm]; exact ⟨_, .count ho h1 hl (fE C n c o).2 (fE C n c e).2⟩ else nvE
          else if h2 : isStar e = false then ⟨_, .mth ho (by simp [h2]) (by simp) hl (fE C n c o).2 (.cons h2 (fE C n c e).2 .nil)⟩ else nvE
        | [e, f] => if hm : m = "get" then if h1 : isStar e = false then if h2 : isStar f = false then by rw [hm]; exact ⟨_, .get3 ho h1 h2 hl (fE C n c o).2 (fE C n c e).2 (fE C n c f).2⟩ else nvE else nvE
          else if h1 : isStar e = false then if h2 : isStar f = false then ⟨_, .mth ho (by simp [h1, h2]) (by simp) hl (fE C n c o).2 (.cons h1 (fE C n c e).2 (.cons h2 (fE C n c f).2 .nil))⟩ else nvE else nvE
        | es => if h1 : es.all (fun e => !isStar e) = true then if h2 : es.length < 30 then match fD C n c es with
          | some r => ⟨_, .mth ho h1 h2 hl (fE C n c o).2 r.2⟩
          | none => nvE
          else nvE else nvE
    else nvE else nvE
  | _, _, _, _, _, _, _, _ => nvE
end
end Dv
namespace Dv
open PySem PySem.Spec PyProof.Rows L2
def nvB : List Stmt → CB
  | [] => .nil
  | _ :: ss => .cons .nev (nvB ss)
theorem nvB_ok {C : CC} {c : Sc} : ∀ ss : List Stmt, MB C c ss (nvB ss)
  | [] => .nil
  | _ :: ss => .cons .nev (nvB_ok ss)
mutual
def fSt (C : CC) : Nat → (c : Sc) → (s : Stmt) → FS C c s
  | 0, _, _ => nvS
  | n + 1, c, s => match s with
    | .Pass p => ⟨_, .pass⟩
    | .Break p => ⟨_, .brk⟩
    | .Continue p => ⟨_, .cont⟩
    | .Expr (.Constant (.str x) j p) p' => ⟨_, .doc⟩
    | .Expr e p => fEx C n c e p
    | .Return none p => ⟨_, .retN⟩
    | .Return (some (.Name x p0)) p => match fSlot C c x with
      | some s => ⟨_, .retV s.at_ s.vis s.nd s.nc⟩
      | none => let r := fName C c x p0
        if h : vIx r.1 = none then ⟨_, .ret h r.2⟩ else nvS
    | .Return (some e) p => let r := fE C n c e
      if h : vIx r.1 = none then ⟨.ret r.1, .ret h r.2⟩ else nvS
    | .Assign [.Name x p0] (.ListComp elt [⟨tg, iter, ifs, 0⟩] scope q) p =>
      let c' : Sc := ⟨relS c.sc scope, fun x => scope.names.lookup x == some .cell⟩
      let own := ownOf C.N scope
      if hk : c.sc.kind = .function then
        if hb : swB c (.ListComp elt [⟨tg, iter, ifs, 0⟩] scope q) x p0 = true then
          if h0 : C.N[C.N.idxOf x]? = some x then if hl : c.sc.names.lookup x = some .local then
            match fG C c' tg, fTs C n c' ifs with
            | some t, some ts => if h1 : blkC C.N c.sc scope own = true then if h2 : (own.map (·.2)).Nodup then if h3 : ∀ i ∈ tgts t.1, i ∈ own.map (·.2) then if h4 : isSet iter = false then
                ⟨_, .setC hk hb h0 hl h1 h2 h3 h4 (fI C n c iter).2 t.2 ts.2 (fE C n c' elt).2⟩ else nvS else nvS else nvS else nvS
            | _, _ => nvS
            else nvS else nvS
        else match fWr C c x with
          | some w => if hb' : swB c (.ListComp elt [⟨tg, iter, ifs, 0⟩] scope q) x p0 = false then ⟨_, .set hk hb' w.at_ w.loc w.wr (fE C n c (.ListComp elt [⟨tg, iter, ifs, 0⟩] scope q)).2⟩ else nvS
          | none => nvS
      else nvS
    | .Assign [.Name x p0] (.DictComp kx vx [⟨tg, iter, [], 0⟩] scope q) p =>
      let c' : Sc := ⟨relS c.sc scope, fun x => scope.names.lookup x == some .cell⟩
      let own := ownOf C.N scope
      if hk : c.sc.kind = .function then
        if hb : swB c (.DictComp kx vx [⟨tg, iter, [], 0⟩] scope q) x p0 = true then
          if h0 : C.N[C.N.idxOf x]? = some x then if hl : c.sc.names.lookup x = some .local then
            match fG C c' tg with
            | some t => if h1 : blkC C.N c.sc scope own = true then if h2 : (own.map (·.2)).Nodup then if h3 : ∀ i ∈ tgts t.1, i ∈ own.map (·.2) then if h4 : isSet iter = false then
                ⟨_, .setD hk hb h0 hl h1 h2 h3 h4 (fI C n c iter).2 t.2 (fE C n c' kx).2 (fE C n c' vx).2⟩ else nvS else nvS else nvS else nvS
            | none => nvS
            else nvS else nvS
        else match fWr C c x with
          | some w => if hb' : swB c (.DictComp kx vx [⟨tg, iter, [], 0⟩] scope q) x p0 = false then ⟨_, .set hk hb' w.at_ w.loc w.wr (fE C n c (.DictComp kx vx [⟨tg, iter, [], 0⟩] scope q)).2⟩ else nvS
          | none => nvS
      else nvS
    | .Assign [.Name x p0] e p => if hk : c.sc.kind = .function then if hb : swB c e x p0 = false then match fWr C c x with
      | some w => ⟨_, .set hk hb w.at_ w.loc w.wr (fE C n c e).2⟩
      | none => nvS
      else nvS else nvS
    | .Assign [.Tuple es k p0] e p => if h : isTupE e = false then match fGs C c es with
      | some r => ⟨_, .tset h r.2 (fE C n c e).2⟩
      | none => nvS
      else nvS
    | .Assign [.Subscript (.Name x p0) k p1] e p => match fSlot C c x with
      | some s => ⟨_, .put s.at_ s.vis s.nd s.nc (fE C n c k).2 (fE C n c e).2⟩
      | none => nvS
    | .Assign [.Attribute (.Name x p0) f p1] e p => match fSlot C c x with
      | some s => ⟨_, .fset s.at_ s.vis s.nd s.nc (fE C n c e).2⟩
      | none => nvS
    | .AugAssign (.Name x p0) op e p => match fAug op, fWr C c x with
      | some q, some w => ⟨_, .aug q.2 w.at_ w.loc w.wr (fE C n c e).2⟩
      | _, _ => nvS
    | .If e a b p => ⟨_, .cond (fE C n c e).2 (fBk C n c a).2 (fBk C n c b).2⟩
    | .For tg iter a [] p => match fG C c tg with
      | some t => if h : isSet iter = false then ⟨_, .forS h (fI C n c iter).2 t.2 (fBk C n c a).2⟩ else nvS
      | none => nvS
    | .While e a [] p => ⟨_, .whileS (fE C n c e).2 (fBk C n c a).2⟩
    | _ => nvS
def fEx (C : CC) : Nat → (c : Sc) → (e : Expr) → (p : Pos) → FS C c (.Expr e p)
  | 0, _, _, _ => nvS
  | n + 1, c, e, p => match e with
    | .Call (.Attribute (.Name x p0) m apos) [a] [] cpos =>
      if hl : (apos.endLine == cpos.line) = true then
        if hm : m = "append" then if h1 : isStar a = false then match fSlot C c x with
          | some s => by rw [hm]; exact ⟨_, .app s.at_ s.vis s.nd s.nc h1 hl (fE C n c a).2⟩
          | none => nvS
          else nvS
        else if hm : m = "extend" then if h1 : isStar a = false then match fSlot C c x with
          | some s => by rw [hm]; exact ⟨_, .ext s.at_ s.vis s.nd s.nc h1 hl (fE C n c a).2⟩
          | none => nvS
          else nvS
        else ⟨_, .expr rfl (fE C n c (.Call (.Attribute (.Name x p0) m apos) [a] [] cpos)).2⟩
      else nvS
    | .Call (.Attribute (.Name x p0) m apos) [] [] cpos =>
      if hm : m = "clear" then if hl : (apos.endLine == cpos.line) = true then match fSlot C c x with
          | some s => by rw [hm]; exact ⟨_, .clr s.at_ s.vis s.nd s.nc hl⟩
          | none => nvS
        else nvS
      else ⟨_, .expr rfl (fE C n c (.Call (.Attribute (.Name x p0) m apos) [] [] cpos)).2⟩
    | e => if h : isComp e = false then ⟨_, .expr h (fE C n c e).2⟩ else nvS
def fBk (C : CC) : Nat → (c : Sc) → (ss : List Stmt) → { cb : CB // MB C c ss cb }
  | _, _, [] => ⟨.nil, .nil⟩
  | 0, c, s :: ss => ⟨nvB (s :: ss), nvB_ok _⟩
  | n + 1, c, s :: ss => ⟨_, .cons (fSt C n c s).2 (fBk C n c ss).2⟩
end
end Dv

set_option Elab.async false
set_option linter.all false
set_option maxRecDepth 100000
set_option maxHeartbeats 4000000
/-! a def's names: the parameters, the other names of its own, those of its blocks -/
namespace Dv
open PySem
def locs (sc : Scope) : List Str := sc.names.filterMap fun (y, k) => if k == .local || k == .cell then some y else none
mutual
def cnE : Nat → Expr → List Str
  | 0, _ => []
  | n + 1, e => match e with
    | .BoolOp _ es _ => cnL n es
    | .BinOp a _ b _ => cnE n a ++ cnE n b
    | .UnaryOp _ a _ => cnE n a
    | .IfExp a b c _ => cnE n a ++ cnE n b ++ cnE n c
    | .Dict ks vs _ => cnO n ks ++ cnL n vs
    | .Set es _ _ => cnL n es
    | .ListComp e gs sc _ => locs sc ++ cnE n e ++ cnG n gs
    | .SetComp e gs sc _ => locs sc ++ cnE n e ++ cnG n gs
    | .DictComp k v gs sc _ => locs sc ++ cnE n k ++ cnE n v ++ cnG n gs
    | .Compare a _ es _ => cnE n a ++ cnL n es
    | .Call f es kws _ => cnE n f ++ cnL n es ++ cnK n kws
    | .Attribute a _ _ => cnE n a
    | .Subscript a b _ => cnE n a ++ cnE n b
    | .List es _ => cnL n es
    | .Tuple es _ _ => cnL n es
    | .Slice a b c _ => cnO n [a, b, c]
    | _ => []
def cnL : Nat → List Expr → List Str
  | _, [] => []
  | 0, _ => []
  | n + 1, e :: es => cnE n e ++ cnL n es
def cnO : Nat → List (Option Expr) → List Str
  | _, [] => []
  | 0, _ => []
  | n + 1, some e :: es => cnE n e ++ cnO n es
  | n + 1, none :: es => cnO n es
def cnK : Nat → List Keyword → List Str
  | _, [] => []
  | 0, _ => []
  | n + 1, k :: es => cnE n k.value ++ cnK n es
def cnG : Nat → List Comprehension → List Str
  | _, [] => []
  | 0, _ => []
  | n + 1, g :: es => cnE n g.iter ++ cnL n g.ifs ++ cnG n es
end
mutual
def cnS : Nat → Stmt → List Str
  | 0, _ => []
  | n + 1, s => match s with
    | .Expr e _ => cnE n e
    | .Return (some e) _ => cnE n e
    | .Assign ts e _ => cnL n ts ++ cnE n e
    | .AugAssign t _ e _ => cnE n t ++ cnE n e
    | .If e a b _ => cnE n e ++ cnB n a ++ cnB n b
    | .For _ i a b _ => cnE n i ++ cnB n a ++ cnB n b
    | .While e a b _ => cnE n e ++ cnB n a ++ cnB n b
    | .Raise (some e) _ _ => cnE n e
    | .Try a hs b c _ => cnB n a ++ cnB n b ++ cnB n c
    | _ => []
def cnB : Nat → List Stmt → List Str
  | _, [] => []
  | 0, _ => []
  | n + 1, e :: es => cnS n e ++ cnB n es
end
def uniq : List Str → List Str
  | [] => []
  | x :: r => x :: (uniq r).filter fun y => !(y == x)
/-- the parameters' names -/
def parsOf (s : Stmt) : List Str := (L2.defArgs s).args.map (·.arg)
def namesOf (s : Stmt) : List Str := uniq (parsOf s ++ locs (L2.defScope s) ++ cnB 200 (L2.defBody s))
/-- the reading of a def -/
def readDef (C : CC) (s : Stmt) : { cb : CB // MB C ⟨L2.defScope s, fun _ => true⟩ (L2.defBody s) cb } := fBk C 200 ⟨L2.defScope s, fun _ => true⟩ (L2.defBody s)
end Dv

set_option Elab.async false
set_option linter.all false
set_option maxRecDepth 100000
set_option maxHeartbeats 4000000
/-! a method whose body is `return super().m(x)` -/
namespace Dv
open PySem PySem.Spec PyProof.Rows L2 NdefX ClX
/-- what it promises: what the next class's method promises -/
def spSup (C : Addr) (sp2 : Sp) : Sp := fun vs H Q E => ∃ a dx fs v, vs = [.ref a, v] ∧ H a = some (.ins C dx fs) ∧ ∀ E', sp2 vs H Q E'
section
variable {P : Program} {w : World} {K : PySem.W.Frag} {mg : Str → Option Value} {base : Heap} {k : Nat} {f f2 cc cda D C : Addr} {name qual m self x : Str} {params : Arguments} {scope : Scope} {dV kV doc pm ct oc : Value} {an od : Option Addr} {osl : Array (Option Value)}
  {p0 p1 apos px cpos rp : Pos} {sp2 : Sp} {file : Str} {tf : Tok} {vs : Array Value} {cdD : ClassData} {ccl cl : Value} {cdd cld : Option Addr} {ccs csl : Array (Option Value)} {ar : Arg}
theorem sup_form {o : Expr} {env : Env} (hl : (apos.endLine == cpos.line) = true) : eval (.Call (.Attribute o m apos) [.Name x px] [] cpos) env = (do
      let ov ← attributeBase o m env (eval o env)
      standAt apos.atName
      let (f, first) ← holding [ov] (getMethod ov m (do return (← importBound o env).getD true))
      callWith cpos f first (backTo cpos (starEach [.Name x px] env)) []) := by
  show (do
    let ov ← attributeBase o m env (eval o env)
    standAt apos.atName
    methodCall o m apos cpos env ov 1 (backTo cpos (starEach [.Name x px] env)) (backToKw cpos (keywordEach [] env))) = _
  unfold methodCall calleeOf methodCallPos
  rw [show methodCallForm 1 (backTo cpos (starEach [.Name x px] env)) (backToKw cpos (keywordEach [] env)) = true from rfl, hl]
  rfl
theorem fn_super (hla : (apos.endLine == cpos.line) = true) (hx1 : (x == ("__debug__" : Str)) = false) (hx2 : (x == ("__classdict__" : Str)) = false) (hfi : PySem.W.fnIn K f2 = true) (lk : K.lookup f = some ⟨oc, od, .func (PySem.W.ksFn name qual params [.Return (some (.Call (.Attribute (.Call (.Name "super" p0) [] [] p1) m apos) [.Name x px] [] cpos)) rp] scope dV kV doc pm an (.ref cda) ct cc), osl⟩)
    (hcd : PySem.W.codeIn K (.ref cda) qual = true) (S : NScope [self, x, "__class__"] [self, x] ["__class__"] scope) (F2 : FnR P w K mg base (L2.CX P w) k f2 sp2)
    (hp : (params.posonlyargs ++ params.args).head? = some ar) (har : ar.arg = self)
    (hcode : K.lookup cda = some ⟨ccl, cdd, .fields vs, ccs⟩) (hvs : vs[2]? = some (.str file tf)) (hfile : ((P.main.file : Str) == file) = true)
    (hcell : K.lookup cc = some ⟨cl, cld, .cell (some (.ref D)), csl⟩) (hD : PySem.W.clsIn K D = some cdD) (hsub : PySem.W.mroIn K C (.ref D) = some true)
    (ho : PySem.W.nsIn K PySem.cStatics "thirdparty.any" = some none) (hm : PySem.W.ks_superIn K C D m = some (some (.ref f2))) (ht : PySem.W.typeIn K (.ref f2) = some (.type "function")) (hn : (m == ("__class__" : Str)) = false)
    (hks : scope.names.lookup ("super" : Str) = some .globalImplicit) (htop : (P.main.scope.names.lookup ("super" : Str)).isSome = false) (hsm : mg "super" = none) :
    FnOk P w K mg base (L2.CX P w) (k + 1) f (PySem.W.ksFn name qual params [.Return (some (.Call (.Attribute (.Call (.Name "super" p0) [] [] p1) m apos) [.Name x px] [] cpos)) rp] scope dV kV doc pm an (.ref cda) ct cc) [self, x] (spSup C sp2) := by
  refine ⟨fun vs H Q E ⟨a, dx, fs, v, e, _⟩ => by rw [e]; rfl, fun A outer s H args us vs Q E hr e0 hb r hsp => ?_⟩
  have KX : K.In s.heap := e0.mod.kin.keeps fun b o e => (e0.bs b o e).1
  have lim : s.heap.NoLimit := e0.mod.nolimit.keeps fun b o e => (e0.bs b o e).1
  refine ks_codeAny_call_defAt hr.depth (KX _ _ lk) rfl lim (PySem.W.codeRec_of KX hcd) rfl hb S.nocell (fun y hy => S.par _ (List.of_mem_zip hy).1) (fun h₁ hns kp => ?_) S.co S.gen S.kind
  obtain ⟨a, dx, fs, v, rfl, hH, hs2⟩ := hsp
  let F : NF := ⟨name, qual, params, [.Return (some (.Call (.Attribute (.Call (.Name "super" p0) [] [] p1) m apos) [.Name x px] [] cpos)) rp], scope, [("__class__", cc)], cda⟩
  have hcb : base.get? cc = some ⟨cl, cld, .cell (some (.ref D)), csl⟩ := e0.mod.kin _ _ hcell
  have one : ∀ {y : Str} {c : Addr}, F.cl.lookup y = some c → y = "__class__" ∧ c = cc := fun {y c} e => by
    have e : (if y == ("__class__" : Str) then some cc else none) = some c := by
      rw [← e]
      show _ = List.lookup y [("__class__", cc)]
      rw [List.lookup]
      cases y == ("__class__" : Str) <;> rfl
    split at e
    · rename_i h
      cases e
      exact ⟨eq_of_beq h, rfl⟩
    · cases e
  have CA : CellsAt F.cl ["__class__"] [some (.ref D)] s.heap H := by
    refine ⟨rfl, fun y c e => ?_, fun y z c e1 e2 => ?_, fun i y e => ?_⟩
    · rw [(one e).2]
      exact ⟨(e0.bs cc _ hcb).2, some (.ref D), _, KX _ _ hcell, rfl⟩
    · rw [(one e1).1, (one e2).1]
    · cases i with
      | succ i => cases e
      | zero =>
        cases e
        refine ⟨cc, ?_, fun v' e' => ?_⟩
        · show List.lookup ("__class__" : Str) [("__class__", cc)] = some cc
          rw [List.lookup]
          simp
        · cases e'
          exact ⟨.ref D, rfl, _, KX _ _ hcell, rfl⟩
  have hl : [V.ref a, v].length = [self, x].length := rfl
  have I : Inv (ncx (L2.CX P w) P w K mg base [self, x, "__class__"] F f A outer s H E) [] (startF [self, x, "__class__"] [V.ref a, v] [some (.ref D)]) H { s with heap := h₁, toks := s.toks + ([self, x].zip us).length } := inv_startN S hr.hd e0 hl r CA hns kp
  refine ks_wpAt_execs_cons (ks_wpAt_Return_some (ks_wpAt_MethodCall ?_ (sup_form hla)))
  refine ks_wpAt_super_base (f := f) (cc := cda) hks (S.frk _ (by simp)) hn rfl (I.kIn _ _ lk) rfl hp rfl (I.kIn _ _ hcode) rfl hvs hfile htop ?_
  · obtain ⟨mb, b1, b2⟩ := I.mod.blt
    refine PySem.W.ks_loadName_global S.kind hks (Calls.loadGlobal_builtin (mg := mg) (mb := mb) (v := .type "super") (by have q := I.mod.glob.keeps I.bk; exact q) hsm (b1.keeps I.bk) ((b2 "super" (by decide)).trans (by decide +kernel)) ⟨rfl, ?_⟩)
    refine PySem.wpAny_loadName_free S.kind (S.frk _ (by simp)) rfl ⟨_, I.kIn _ _ hcell, rfl⟩ ?_
    rw [har]
    refine wpAny_loadName_local S.kind (S.par _ (by simp)) hns (v := .ref a) ?_ ?_
    · have ndP : [self, x].Nodup := (List.nodup_append.mp (show ([self, x] ++ [("__class__" : Str)]).Nodup from S.nd)).1
      obtain ⟨u, hu, ru⟩ := r.get (i := 0) rfl
      obtain rfl : u = Value.ref a := ru
      exact zip_look ndP rfl hu
    obtain ⟨oD, hD1, hD2⟩ : ∃ oD, h₁.get? D = some oD ∧ oD.data = .cls cdD := by
      have XK := I.kIn
      unfold PySem.W.clsIn at hD
      split at hD
      · rename_i ho
        cases hD
        exact ⟨_, XK _ _ ho, rfl⟩
      · cases hD
    refine ks_wpAny_isType_cls hD1 hD2 ⟨rfl, ?_⟩
    obtain ⟨mA, O, _⟩ := ins_get I.hok hH
    obtain ⟨odx, J, _⟩ := O.look
    have XK := I.kIn
    refine ks_wpAny_call_super hD1 hD2 J.at_ J.cls (fun c e => ?_) (PySem.W.looks_mroIn XK hsub) (fun h' e kp2 => ?_)
    · cases e
    have I2 := pin_new (t' := s.toks + ([self, x].zip us).length) I kp2 (Nat.le_refl _) e (fun v z => nomatch z)
    have X2 := I2.kIn
    cases hc : PySem.W.clsIn K C with
    | none => unfold PySem.W.ks_superIn at hm; rw [hc] at hm; cases hm
    | some cd =>
      unfold PySem.W.ks_superIn at hm
      rw [hc] at hm
      obtain ⟨of, hof, hofc⟩ : ∃ of, h'.get? f2 = some of ∧ of.cls = .type "function" := by
        have ht' : (K.lookup f2).map (·.cls) = some (.type "function") := ht
        cases z : K.lookup f2 with
        | none => rw [z] at ht'; cases ht'
        | some of => rw [z] at ht'; exact ⟨of, X2 _ _ z, Option.some.inj ht'⟩
      obtain ⟨mA2, O2, _⟩ := ins_get I2.hok hH
      obtain ⟨odx2, J2, _⟩ := O2.look
      refine ks_wpAny_getMethod_super e (PySem.W.looks_opaque X2 ho) (l₀ := cd.mro) ?_ rfl X2 hm hof hofc (PySem.W.ks_ne X2 J2 hc) hn ?_
      · exact fun A Q E s k q => wpAny_bind ((PySem.W.looks_clsIn X2 hc) A _ E s k (wpAny_pure q))
      have I3 := met_new (g := f2) (C := a) I2
      have hpa := pa_cons (pe_var (X := ncx (L2.CX P w) P w K mg base [self, x, "__class__"] F f A outer s H E) (pos := px) (i := 1) rfl (.inl (S.par x (by simp))) hx1 hx2) pa_nil rfl
      refine callwith_cm I3 (base_none I2 (Nat.le_refl _)) hfi (thn (hpa.run cpos _ _ _ _ (fun vs' H' => [v] = vs' ∧ H = H') I3 ⟨v, rfl, rfl, rfl⟩) fun us' s3 hq => ?_) rfl rfl
      obtain ⟨vs', H3, I4, rv, rfl, rfl⟩ := hq
      refine ⟨⟨pin_at I4, I4.kIn⟩, ?_⟩
      have never : Passes (L2.CX P w) (ncx (L2.CX P w) P w K mg base [self, x, "__class__"] F f A outer s H E) (fun _ _ _ => False) := fun _ _ _ _ _ _ _ ⟨_, _, _, _, _, _, _, _, _, _, _, _, q⟩ => q.elim
      have z := run_cm F2 (hr.deeper _) never I4 rv (hs2 _)
      refine thn z fun u s4 ⟨y, H4, I5, ry, q⟩ => ?_
      exact ⟨y, H4, I5.os, I5.bare, I5.base, I5.hok, ry, q⟩
end
end Dv

set_option Elab.async false
set_option linter.all false
set_option maxRecDepth 100000
set_option maxHeartbeats 4000000
/-! what the top leaves: facts read off a part of the heap -/
namespace Dv
open PySem PySem.Spec PyProof.Rows L2 He

/-- a stored value as the layer has it -/
def vOf : Value → V
  | .bool b => .bl b
  | .int i _ => .int i
  | .str x _ => .str x
  | .ref a => .ref a
  | _ => .non
mutual
/-- a constant of the top, no dict -/
def repC (K : PySem.W.Frag) (u : Value) : D → Bool
  | .non => (match u with
    | .none => true
    | _ => false)
  | .bl b => (match u with
    | .bool c => b == c
    | _ => false)
  | .int i => (match u with
    | .int j _ => decide (i = j)
    | _ => false)
  | .str x => (match u with
    | .str y _ => decide (x = y)
    | _ => false)
  | .tup ds => (match u with
    | .ref a => (match K.lookup a with
      | some ⟨.type c, none, .seq its _, _⟩ => decide (c = "tuple") && (decide (its.size ≤ sizeLine) && repCs K its.toList ds)
      | _ => false)
    | _ => false)
  | .lst _ => false
  | .dct _ _ => false
  | .obj _ _ _ => false
def repCs (K : PySem.W.Frag) : List Value → List D → Bool
  | [], [] => true
  | u :: us, d :: ds => repC K u d && repCs K us ds
  | _, _ => false
end
section
variable {P : Program} {w : World} {K : PySem.W.Frag} {mg : Str → Option Value}
mutual
theorem repC_ok : ∀ (d : D) (u : Value), repC K u d = true → RelV (vOf u) u ∧ ∀ V₀, Rep ⟨P, w, K, mg⟩ V₀ (vOf u) d
  | .non, u, h => by cases u <;> first | (cases h; done) | exact ⟨rfl, fun _ => .non⟩
  | .bl b, u, h => by
    cases u <;> first | (cases h; done) | skip
    rename_i c
    have e : b = c := eq_of_beq h
    subst e
    exact ⟨rfl, fun _ => .bl _⟩
  | .int i, u, h => by
    cases u <;> first | (cases h; done) | skip
    rename_i j t
    have e : i = j := of_decide_eq_true h
    subst e
    exact ⟨⟨t, rfl⟩, fun _ => .int _⟩
  | .str x, u, h => by
    cases u <;> first | (cases h; done) | skip
    rename_i y t
    have e : x = y := of_decide_eq_true h
    subst e
    exact ⟨⟨t, rfl⟩, fun _ => .str _⟩
  | .tup ds, u, h => by
    cases u <;> first | (cases h; done) | skip
    rename_i a
    have h1 : (match K.lookup a with
      | some ⟨.type c, none, .seq its _, _⟩ => decide (c = "tuple") && (decide (its.size ≤ sizeLine) && repCs K its.toList ds)
      | _ => false) = true := h
    refine ⟨rfl, fun V₀ => ?_⟩
    cases q : K.lookup a with
    | none => rw [q] at h1; cases h1
    | some o =>
      obtain ⟨oc, od, dt, osl⟩ := o
      rw [q] at h1
      cases oc with
      | type c =>
        cases od with
        | some _ => cases dt <;> cases h1
        | none =>
          cases dt with
          | seq its n =>
            obtain ⟨h2, h3⟩ := ba (show (decide (c = "tuple") && (decide (its.size ≤ sizeLine) && repCs K its.toList ds)) = true from h1)
            obtain ⟨h4, h5⟩ := ba h3
            obtain ⟨h6, h7⟩ := repCs_ok ds its.toList h5
            exact .tup (.inr ⟨_, its, n, q, congrArg Value.type (of_decide_eq_true h2), rfl, rfl, of_decide_eq_true h4, h6⟩) (h7 V₀)
          | _ => cases h1
      | _ => cases od <;> cases dt <;> cases h1
  | .lst _, u, h => by cases h
  | .dct _ _, u, h => by cases h
  | .obj _ _ _, u, h => by cases h
theorem repCs_ok : ∀ (ds : List D) (us : List Value), repCs K us ds = true → Vals (us.map vOf) us ∧ ∀ V₀, Reps ⟨P, w, K, mg⟩ V₀ (us.map vOf) ds
  | [], [], _ => ⟨.nil, fun _ => .nil⟩
  | [], _ :: _, h => by cases h
  | _ :: _, [], h => by cases h
  | d :: ds, u :: us, h => by
    obtain ⟨h1, h2⟩ := ba (show (repC K u d && repCs K us ds) = true from h)
    obtain ⟨h3, h4⟩ := repC_ok d u h1
    obtain ⟨h5, h6⟩ := repCs_ok ds us h2
    exact ⟨.cons h3 h5, fun V₀ => .cons (h4 V₀) (h6 V₀)⟩
end
/-- a module's name stands for the constant -/
structure ConOk (P : Program) (w : World) (K : PySem.W.Frag) (mg : Str → Option Value) (x : Str) (d : D) : Prop where
  ex : ∃ v u, mg x = some u ∧ RelV v u ∧ ∀ V₀, Rep ⟨P, w, K, mg⟩ V₀ v d
def conC (K : PySem.W.Frag) (x : Str) (d : D) : Bool := match PySem.W.nsIn K mainGlobals x with
  | some (some u) => repC K u d
  | _ => false
theorem conC_ok {h : Heap} (X : K.In h) (G : h.Ns mainGlobals mg) {x : Str} {d : D} (c : conC K x d = true) : ConOk P w K mg x d := by
  unfold conC at c
  cases q : PySem.W.nsIn K mainGlobals x with
  | none => rw [q] at c; cases c
  | some o =>
    rw [q] at c
    cases o with
    | none => cases c
    | some u =>
      obtain ⟨h1, h2⟩ := repC_ok (P := P) (w := w) (mg := mg) d u c
      exact ⟨_, u, PySem.W.mg_of X G q, h1, h2⟩
/-- a dict of the top, its keys texts -/
def tabC (K : PySem.W.Frag) (x : Str) (ks : List Str) (vs : List D) : Bool := match K.lookup (ga K x) with
  | some ⟨_, _, .dict es _, _⟩ => decide (es.size ≤ sizeLine) && (decide ks.Nodup && (decide (es.toList.length = ks.length) && repCs K (es.toList.map (·.val)) vs))
  | _ => false
theorem keys_of {Q : Params} : ∀ {l : List DictEntry} {ks : List Str}, l.map He.keyOf = keysIn Q ks → Paired (fun (k : Str) (e : DictEntry) => ∃ t, e.key = .str k t) ks l
  | [], [], _ => .nil
  | [], _ :: _, h => by cases h
  | _ :: _, [], h => by cases h
  | e :: l, k :: ks, h => by
    have h1 : He.keyOf e :: l.map He.keyOf = some (k, PyData.keyHash Q k) :: keysIn Q ks := h
    injection h1 with h2 h3
    refine .cons ?_ (keys_of h3)
    unfold He.keyOf at h2
    split at h2
    · rename_i x t q
      have h4 := Option.some.inj h2
      obtain ⟨h5, h6⟩ := Prod.mk.inj h4
      exact ⟨t, by rw [q, h5]⟩
    · cases h2
theorem pair_tab : ∀ {l : List DictEntry} {ks : List Str}, Paired (fun (k : Str) (e : DictEntry) => ∃ t, e.key = .str k t) ks l → Vals (l.map fun e => vOf e.val) (l.map (·.val)) →
    Paired (fun (p : Str × V) (e : DictEntry) => (∃ t, e.key = .str p.1 t) ∧ RelV p.2 e.val) (ks.zip (l.map fun e => vOf e.val)) l
  | [], [], .nil, _ => .nil
  | e :: l, k :: ks, .cons h r, .cons hv rv => .cons ⟨h, hv⟩ (pair_tab r rv)
theorem dicW_at {a : Addr} {ks : List (Option (Str × Int))} (h : dicW K a = some ks) : ∃ es n, K.lookup a = some ⟨.type "dict", none, .dict es n, #[]⟩ ∧ es.toList.map He.keyOf = ks ∧ (a == sysModules) = false := by
  unfold dicW at h
  cases q : K.lookup a with
  | none => rw [q] at h; cases h
  | some o =>
    obtain ⟨oc, od, dt, osl⟩ := o
    rw [q] at h
    cases oc with
    | type c =>
      cases od with
      | some _ => cases dt <;> cases h
      | none =>
        cases dt with
        | dict es n =>
          have h1 : (match decide (c = "dict") && (osl.isEmpty && !(a == sysModules)) with
            | true => some (es.toList.map He.keyOf)
            | false => none) = some ks := h
          cases z : decide (c = "dict") && (osl.isEmpty && !(a == sysModules)) with
          | false => rw [z] at h1; cases h1
          | true =>
            rw [z] at h1
            obtain ⟨z1, z2⟩ := ba z
            obtain ⟨z3, z4⟩ := ba z2
            have e1 : c = "dict" := of_decide_eq_true z1
            have e2 : osl = #[] := Array.isEmpty_iff.mp z3
            subst e1 e2
            exact ⟨es, n, rfl, Option.some.inj h1, by simpa using z4⟩
        | _ => cases h
    | _ => cases od <;> cases dt <;> cases h
theorem tabC_ok {h : Heap} (X : K.In h) (G : h.Ns mainGlobals mg) {x : Str} {ks : List Str} {vs : List D} (hg : (Fa.glo x).ok K = true) (hd : dicW K (ga K x) = some (keysIn w.params ks)) (c : tabC K x ks vs = true) : ConOk P w K mg x (.dct (ks.map .str) vs) := by
  obtain ⟨es, n, q, hk, hs⟩ := dicW_at hd
  unfold tabC at c
  rw [q] at c
  obtain ⟨c1, c2⟩ := ba c
  obtain ⟨c3, c4⟩ := ba c2
  obtain ⟨c5, c6⟩ := ba c4
  have hn : es.toList.length = ks.length := of_decide_eq_true c5
  obtain ⟨v1, v2⟩ := repCs_ok (P := P) (w := w) (mg := mg) vs _ c6
  have v1' : Vals (es.toList.map fun e => vOf e.val) (es.toList.map (·.val)) := by rw [List.map_map] at v1; exact v1
  have e1 : (ks.zip (es.toList.map fun e => vOf e.val)).map (·.1) = ks := by
    rw [List.map_fst_zip]
    simp [hn]
  have e2 : (ks.zip (es.toList.map fun e => vOf e.val)).map (·.2) = es.toList.map fun e => vOf e.val := by
    rw [List.map_snd_zip]
    simp [hn]
  refine ⟨.ref (ga K x), .ref (ga K x), glo_ok X G hg, rfl, fun V₀ => ?_⟩
  have ed : (D.dct (ks.map .str) vs) = .dct ((ks.zip (es.toList.map fun e => vOf e.val)).map fun p => .str p.1) vs := by
    have : (ks.zip (es.toList.map fun e => vOf e.val)).map (fun p => D.str p.1) = ((ks.zip (es.toList.map fun e => vOf e.val)).map (·.1)).map .str := by simp [List.map_map]
    rw [this, e1]
  rw [ed]
  have kl : PySem.W.KeysLit w.params es.toList := keysLit_of hk
  refine .dW (R := ⟨P, w, K, mg⟩) (kvs := ks.zip (es.toList.map fun e => vOf e.val)) ⟨hs, ?_, by rw [e1]; exact of_decide_eq_true c3, es, n, q, kl, pair_tab (keys_of hk) v1'⟩ ?_
  · have := of_decide_eq_true c1
    simp [hn]
    have h2 : es.size = es.toList.length := by simp
    omega
  · rw [e2]
    have := v2 V₀
    rw [List.map_map] at this
    exact this
end
end Dv

set_option Elab.async false
set_option linter.all false
set_option maxRecDepth 100000
set_option maxHeartbeats 4000000
/-! methods that say super(), the Hook -/
namespace Dv
open PySem PySem.Spec PyProof.Rows L2 He NdefX ClX

abbrev SupW : Type := Option (Str × Str × Arguments × FuncBody × Scope × Addr × List Str × Addr)
def supW (K : PySem.W.Frag) (p : Str × Option Str) : SupW := match K.lookup (fAd K p) with
  | some ⟨_, _, .func fd, _⟩ => some (fd.name, fd.qualname, fd.params, fd.body, fd.scope, fd.globals, fd.closure.map (·.1), fd.builtins)
  | _ => none
/-- a method m of the class c whose body is `return super().m(x)`; nxt: the next class that has m -/
structure SupD where
  c : Str
  m : Str
  nxt : Str
  qual : Str
  params : Arguments
  body : List Stmt
  scope : Scope
def SupD.val (d : SupD) : SupW := some (d.m, d.qual, d.params, .stmts d.body, d.scope, mainGlobals, ["__class__"], builtinsNs)
def cellB (K : PySem.W.Frag) (cc D : Addr) : Bool := match K.lookup cc with
  | some ⟨_, _, .cell (some (.ref E)), _⟩ => decide (E = D)
  | _ => false
def fileB (K : PySem.W.Frag) (cda : Addr) (file : Str) : Bool := match K.lookup cda with
  | some ⟨_, _, .fields vs, _⟩ => (match (vs[2]? : Option Value) with
    | some (.str f _) => file == f
    | _ => false)
  | _ => false
def supB (file : Str) (K : PySem.W.Frag) (d : SupD) : Bool := match K.lookup (fAd K (d.c, some d.m)) with
  | some ⟨_, _, .func fd, _⟩ => (match fd.closure, fd.code, fd.defaults with
    | [(_, cc)], .ref cda, .none => cellB K cc (ga K d.c) && (fileB K cda file && (PySem.W.codeIn K (.ref cda) d.qual && ((PySem.W.clsIn K (ga K d.c)).isSome && (decide (PySem.W.mroIn K (ga K d.c) (.ref (ga K d.c)) = some true) &&
        (decide (PySem.W.nsIn K PySem.cStatics "thirdparty.any" = some none) && (eqO (PySem.W.ks_superIn K (ga K d.c) (ga K d.c) d.m) (some (some (.ref (fAd K (d.nxt, some d.m))))) && (decide (PySem.W.typeIn K (.ref (fAd K (d.nxt, some d.m))) = some (.type "function")) && PySem.W.fnIn K (fAd K (d.nxt, some d.m)))))))))
    | _, _, _ => false)
  | _ => false
theorem cellB_ok {K : PySem.W.Frag} {cc D : Addr} (h : cellB K cc D = true) : ∃ cl cld csl, K.lookup cc = some ⟨cl, cld, .cell (some (.ref D)), csl⟩ := by
  unfold cellB at h
  cases q : K.lookup cc with
  | none => rw [q] at h; cases h
  | some o =>
    obtain ⟨oc, od, dt, osl⟩ := o
    rw [q] at h
    cases dt with
    | cell v =>
      cases v with
      | none => cases h
      | some v =>
        cases v with
        | ref E =>
          have e : E = D := of_decide_eq_true h
          subst e
          exact ⟨_, _, _, rfl⟩
        | _ => cases h
    | _ => cases h
theorem fileB_ok {K : PySem.W.Frag} {cda : Addr} {file : Str} (h : fileB K cda file = true) : ∃ ccl cdd vs ccs f tf, K.lookup cda = some ⟨ccl, cdd, .fields vs, ccs⟩ ∧ vs[2]? = some (.str f tf) ∧ (file == f) = true := by
  unfold fileB at h
  cases q : K.lookup cda with
  | none => rw [q] at h; cases h
  | some o =>
    obtain ⟨oc, od, dt, osl⟩ := o
    rw [q] at h
    cases dt with
    | fields vs =>
      have h2 : (match (vs[2]? : Option Value) with
        | some (.str f _) => file == f
        | _ => false) = true := h
      cases q2 : vs[2]? with
      | none => rw [q2] at h2; cases h2
      | some v =>
        rw [q2] at h2
        cases v with
        | str f tf => exact ⟨_, _, _, _, f, tf, rfl, q2, h2⟩
        | _ => cases h2
    | _ => cases h
section
variable {P : Program} {w : World} {K : PySem.W.Frag} {mg : Str → Option Value} {base : Heap} {k : Nat} {d : SupD} {self x : Str} {p0 p1 apos px cpos rp : Pos} {sp2 : Sp} {ar : Arg}
theorem sup_fn (e : supW K (d.c, some d.m) = d.val) (b : supB P.main.file K d = true)
    (hbody : d.body = [.Return (some (.Call (.Attribute (.Call (.Name "super" p0) [] [] p1) d.m apos) [.Name x px] [] cpos)) rp])
    (hla : (apos.endLine == cpos.line) = true) (hx1 : (x == ("__debug__" : Str)) = false) (hx2 : (x == ("__classdict__" : Str)) = false) (S : NScope [self, x, "__class__"] [self, x] ["__class__"] d.scope)
    (F2 : FnR P w K mg base (L2.CX P w) k (fAd K (d.nxt, some d.m)) sp2) (hp : (d.params.posonlyargs ++ d.params.args).head? = some ar) (har : ar.arg = self) (hn : (d.m == ("__class__" : Str)) = false)
    (hks : d.scope.names.lookup ("super" : Str) = some .globalImplicit) (htop : (P.main.scope.names.lookup ("super" : Str)).isSome = false) (hsm : mg "super" = none)
    (hbind : ∀ (kV doc pm : Value) (an : Option Addr) (cdv ct : Value) (cc : Addr) (us : List Value), us.length = 2 → bindArgs (PySem.W.ksFn d.m d.qual d.params d.body d.scope .none kV doc pm an cdv ct cc) ⟨us, []⟩ = pure ([self, x].zip us)) :
    ∃ fd, FnOk P w K mg base (L2.CX P w) (k + 1) (fAd K (d.c, some d.m)) fd [self, x] (spSup (ga K d.c) sp2) ∧ Binds K fd [self, x] [] := by
  unfold supB at b
  unfold supW at e
  cases q : K.lookup (fAd K (d.c, some d.m)) with
  | none => rw [q] at b; cases b
  | some o =>
    obtain ⟨oc, od, dt, osl⟩ := o
    rw [q] at b e
    cases dt with
    | func fd =>
      obtain ⟨n1, n2, n3, n4, n5, n6, n7, n8, n9, n10, n11, n12, n13, n14, n15⟩ := fd
      have e2 : (some (n1, n2, n3, n4, n5, n6, n7.map (·.1), n15) : SupW) = some (d.m, d.qual, d.params, FuncBody.stmts d.body, d.scope, mainGlobals, [("__class__" : Str)], builtinsNs) := e
      simp only [Option.some.injEq, Prod.mk.injEq] at e2
      obtain ⟨h1, h2, h3, h4, h5, h6, h7, h8⟩ := e2
      subst h1 h2 h3 h4 h5 h6 h8
      match n7, h7, n13, n8, b with
      | [(y, cc)], h7, .ref cda, .none, b =>
        have ey : y = ("__class__" : Str) := by simpa using h7
        subst ey
        obtain ⟨b1, b⟩ := ba b
        obtain ⟨b2, b⟩ := ba b
        obtain ⟨b3, b⟩ := ba b
        obtain ⟨b4, b⟩ := ba b
        obtain ⟨b5, b⟩ := ba b
        obtain ⟨b6, b⟩ := ba b
        obtain ⟨b7, b⟩ := ba b
        obtain ⟨b8, b9⟩ := ba b
        obtain ⟨cl, cld, csl, q1⟩ := cellB_ok b1
        obtain ⟨ccl, cdd, vs, ccs, f, tf, q2, q3, q4⟩ := fileB_ok b2
        obtain ⟨cdD, q5⟩ := Option.isSome_iff_exists.mp b4
        refine ⟨_, ?_, Binds.all fun us hl => hbind n9 n10 n11 n12 (.ref cda) n14 cc us hl⟩
        rw [hbody] at q ⊢
        exact fn_super hla hx1 hx2 b9 q b3 S F2 hp har q2 q3 q4 q1 q5 (of_decide_eq_true b5) (of_decide_eq_true b6) (eqO_ok b7) (of_decide_eq_true b8) hn hks htop hsm
    | _ => cases b
/-! ### the Hook -/
abbrev AlV : Type := AlT × Bool × List SupW
def obsV (file : Str) (fa : List Fa) (fn : List DefD) (ts : List Tab) (sd : List SupD) (ex : PySem.W.Frag → Bool) (K : PySem.W.Frag) : AlV := (obsT fa fn ts K, ex K && sd.all (supB file K), sd.map fun d => supW K (d.c, some d.m))
def valV' (fn : List DefD) (ts : List Tab) (sd : List SupD) (w : World) : AlV := (valT fn ts w, true, sd.map SupD.val)
/-- no list is told: the script's list is none of them -/
def isLst (o : Obj) : Bool := match o.cls with
  | .type c => c == "list"
  | _ => false
/-- what the objects at these addresses name -/
def nextA (g : Addr → Option Obj) (p : Obj → Bool) (as : List Addr) : List Addr := as.flatMap fun a => match g a with
  | some o => (match p o with
    | true => refsD o
    | false => [])
  | none => []
def isDictO (o : Obj) : Bool := match o.data with
  | .dict _ _ => true
  | _ => false
def isFunO (o : Obj) : Bool := match o.data with
  | .func _ => true
  | _ => false
/-- the module's names, what they name, the classes' methods, their codes -/
def addrV (g : Addr → Option Obj) : List Addr :=
  let a1 := nextA g (fun _ => true) [mainGlobals]
  let a2 := nextA g (fun _ => true) a1
  let a3 := nextA g isDictO a2
  let a4 := nextA g isFunO a3
  mainGlobals :: (a1 ++ (a3 ++ (a2 ++ (a4 ++ [PySem.cStatics]))))
def frV (n : Nat) (g : Addr → Option Obj) : PySem.W.Frag := (frG g (addrV g)).filter fun q => !isLst q.2
def NoLst (K : PySem.W.Frag) : Prop := ∀ a o, K.lookup a = some o → isLst o = false
theorem frV_mem {n : Nat} {g : Addr → Option Obj} {a : Addr} {o : Obj} (h : (frV n g).lookup a = some o) : g a = some o ∧ isLst o = false := by
  obtain ⟨h1, h2⟩ := List.mem_filter.mp (lookup_mem h)
  exact ⟨frG_mem h1, by simpa using h2⟩
structure SaysV (file : Str) (fa : List Fa) (fn : List DefD) (ts : List Tab) (sd : List SupD) (ex : PySem.W.Frag → Bool) (w : World) (K : PySem.W.Frag) : Prop where
  t : SaysT fa fn ts w K
  ex : ex K = true
  supB : ∀ d ∈ sd, supB file K d = true
  supW : ∀ d ∈ sd, supW K (d.c, some d.m) = d.val
theorem saysV_of {file : Str} {fa : List Fa} {fn : List DefD} {ts : List Tab} {sd : List SupD} {ex : PySem.W.Frag → Bool} (e : obsV file fa fn ts sd ex K = valV' fn ts sd w) : SaysV file fa fn ts sd ex w K := by
  have e1 : obsT fa fn ts K = valT fn ts w := congrArg (fun z : AlV => z.1) e
  have e2 : (ex K && sd.all (supB file K)) = true := congrArg (fun z : AlV => z.2.1) e
  have e3 : (sd.map fun d => supW K (d.c, some d.m)) = sd.map SupD.val := congrArg (fun z : AlV => z.2.2) e
  obtain ⟨h1, h2⟩ := ba e2
  refine ⟨e1, h1, fun d m => List.all_eq_true.mp h2 d m, fun d m => ?_⟩
  exact List.map_inj_left.mp e3 d m
def hookV (file : Str) (n : Nat) (fa : List Fa) (fn : List DefD) (ts : List Tab) (sd : List SupD) (ex : PySem.W.Frag → Bool) : PySem.W.Hook where
  α := AlV
  obs := fun s => obsV file fa fn ts sd ex (frV n s.heap.get?)
  val := fun w => valV' fn ts sd w
  says := fun w h => ∃ K : PySem.W.Frag, K.In h ∧ NoLst K ∧ SaysV file fa fn ts sd ex w K
  of := fun _ _ e => ⟨_, fun _ _ e => (frV_mem e).1, fun _ _ e => (frV_mem e).2, saysV_of e⟩
  keeps := fun _ _ _ ⟨K, hK, n, c⟩ k => ⟨K, PySem.W.Frag.In.keeps hK k, n, c⟩
theorem obsV_eq {file : Str} {n : Nat} {fa : List Fa} {fn : List DefD} {ts : List Tab} {sd : List SupD} {ex : PySem.W.Frag → Bool} {g : Addr → Option Obj} {s : Shared} (h : ∀ a, g a = s.heap.get? a) : obsV file fa fn ts sd ex (frV n g) = (hookV file n fa fn ts sd ex).obs s := by
  have e : g = s.heap.get? := funext h
  rw [e] <;> rfl
end
end Dv

set_option linter.all false
namespace Dv
def bk : List CS → CB
  | [] => .nil
  | s :: r => .cons s (bk r)
end Dv

set_option linter.all false
set_option maxRecDepth 100000
namespace Dv
open PySem

/-- 0:k -/
def cb__wall : CB := (bk [
  .whileS (.lit (.bl true)) (bk [
    .pass])])

/-- 0:self, 1:standing -/
def cb_Kind___init__ : CB := (bk [
  .fset 0 "standing" (.var 1)])

/-- 0:self, 1:width -/
def cb_Chosen_choices : CB := (bk [
  .ret (.lrng (.p2 .idx (.con 0) (.var 1)))])

/-- 0:self, 1:book -/
def cb_Spread_rank : CB := (bk [
  .ret (.lit (.int 2))])

/-- 0:self, 1:width -/
def cb_Word_choices : CB := (bk [
  .ret (.lst (.cons (.p1 (.attr "standing") (.var 0)) .nil))])

/-- 0:self, 1:book -/
def cb_Word_rank : CB := (bk [
  .ret (.lit (.int 0))])

/-- 0:self, 1:width -/
def cb_AnyMark_choices : CB := (bk [
  .ret .nev])

/-- 0:self, 1:book -/
def cb_AnyMark_rank : CB := (bk [
  .ret (.p1 .int (.p2 .eq (.p2 .idx (.var 1) (.lit (.str "step"))) (.lit (.str "keep"))))])

/-- 0:self, 1:width -/
def cb_BadMark_choices : CB := (bk [
  .ret .nev])

/-- 0:self, 1:book -/
def cb_BadMark_rank : CB := (bk [
  .ret .nev])

/-- 0:standing -/
def cb_kind_of : CB := (bk [
  .cond (.p1 .not (.p1 (.isa ["str"]) (.var 0))) (bk [
    .ret (.call 4 (.cons (.var 0) .nil))]) .nil,
  .cond (.p2 .eq (.var 0) (.lit (.str "any"))) (bk [
    .ret (.call 5 (.cons (.var 0) .nil))]) .nil,
  .ret (.call 6 (.cons (.var 0) .nil))])

/-- 0:width -/
def cb_all_words : CB := (bk [
  .ret (.lrng (.p2 .idx (.con 0) (.var 0)))])

/-- 0:book -/
def cb_parts_marks : CB := (bk [
  .ret (.or (.p2 .eq (.p2 .idx (.var 0) (.lit (.str "step"))) (.lit (.str "choose"))) (.p2 .eq (.p2 .idx (.var 0) (.lit (.str "select"))) (.lit (.str "keep"))))])

/-- 0:book, 1:width, 2:marks, 3:.0, 4:mark -/
def cb_standings : CB := (bk [
  .set 2 (.lc [3, 4] (.nm 4) (.seq (.tup (.cons (.lit (.str "any")) (.cons (.lit (.str "bad")) .nil)))) (.some (.or (.p2 .eq (.p2 .idx (.var 0) (.lit (.str "over"))) (.var 4)) (.p2 .eq (.p2 .idx (.var 0) (.lit (.str "fresh"))) (.var 4)))) (.var 4)),
  .ret (.p2 .add (.call 8 (.cons (.var 1) .nil)) (.var 2))])

/-- 0:book, 1:one, 2:other -/
def cb_may_stand : CB := (bk [
  .cond (.or (.p2 .eq (.var 1) (.var 2)) (.p2 .eq (.var 2) (.lit (.str "bad")))) (bk [
    .ret (.lit (.bl true))]) .nil,
  .cond (.p2 .eq (.var 2) (.lit (.str "any"))) (bk [
    .ret (.or (.p2 .ne (.var 1) (.lit (.str "bad"))) (.p1 .not (.call 9 (.cons (.var 0) .nil))))]) .nil,
  .ret (.lit (.bl false))])

/-- 0:book, 1:standing -/
def cb_telling_look : CB := (bk [
  .cond (.p1 .not (.p1 (.isa ["str"]) (.var 1))) (bk [
    .ret (.tup (.cons (.var 1) (.cons (.var 1) (.cons (.lit (.int 0)) .nil))))]) .nil,
  .ret (.tup (.cons (.lit (.int 0)) (.cons (.lit (.int 1)) (.cons (.p1 .int (.and (.p2 .eq (.var 1) (.lit (.str "bad"))) (.call 9 (.cons (.var 0) .nil)))) .nil))))])

/-- 0:sign, 1:one, 2:other -/
def cb_exact_result : CB := (bk [
  .cond (.p2 .eq (.p2 .idx (.var 0) (.lit (.int 0))) (.lit (.str "+"))) (bk [
    .ret (.p2 .add (.var 1) (.var 2))]) .nil,
  .cond (.p2 .eq (.p2 .idx (.var 0) (.lit (.int 0))) (.lit (.str "-"))) (bk [
    .ret (.p2 .sub (.var 1) (.var 2))]) .nil,
  .cond (.p2 .eq (.var 0) (.lit (.str "*"))) (bk [
    .ret (.p2 .mul (.var 1) (.var 2))]) .nil,
  .cond (.p2 .eq (.var 0) (.lit (.str "&"))) (bk [
    .ret (.p2 .band (.var 1) (.var 2))]) .nil,
  .cond (.p2 .eq (.var 0) (.lit (.str "="))) (bk [
    .ret (.p1 .int (.p2 .eq (.var 1) (.var 2)))]) .nil,
  .ret (.p1 .int (.p2 .lt (.var 1) (.var 2)))])

/-- 0:rule, 1:width, 2:word -/
def cb_arising : CB := (bk [
  .cond (.p2 .eq (.var 0) (.lit (.str "once"))) (bk [
    .ret (.call 8 (.cons (.var 1) .nil))]) .nil,
  .cond (.p2 .mem (.var 0) (.tup (.cons (.lit (.str "wrap")) (.cons (.lit (.str "zero")) .nil)))) (bk [
    .ret (.lst (.cons (.var 2) .nil))]) .nil,
  .ret (.lst (.cons (.var 0) .nil))])

/-- 0:book, 1:width, 2:sign, 3:x, 4:y, 5:first, 6:second, 7:rank, 8:found, 9:one, 10:other, 11:result, 12:word, 13:outcomes, 14:outcome -/
def cb_step_outcomes : CB := (bk [
  .set 5 (.call 7 (.cons (.var 3) .nil)),
  .set 6 (.call 7 (.cons (.var 4) .nil)),
  .set 7 (.p2 .max (.p1 .int (.mth (.var 5) "rank" (.cons (.var 0) .nil))) (.p1 .int (.mth (.var 6) "rank" (.cons (.var 0) .nil)))),
  .set 8 (.lst .nil),
  .forS (.nm 9) (.seq (.mth (.var 5) "choices" (.cons (.var 1) .nil))) (bk [
    .forS (.nm 10) (.seq (.mth (.var 6) "choices" (.cons (.var 1) .nil))) (bk [
      .set 11 (.call 14 (.cons (.var 2) (.cons (.var 9) (.cons (.var 10) .nil)))),
      .set 12 (.p2 .mod (.var 11) (.p2 .idx (.con 0) (.var 1))),
      .set 13 (.lst (.cons (.p2 .idx (.lst (.cons (.var 12) (.cons (.lit (.str "any")) (.cons (.lit (.str "bad")) .nil)))) (.var 7)) .nil)),
      .cond (.and (.p2 .eq (.p1 .len (.var 2)) (.lit (.int 2))) (.p2 .ne (.var 11) (.var 12))) (bk [
        .set 13 (.call 15 (.cons (.p2 .idx (.var 0) (.lit (.str "over"))) (.cons (.var 1) (.cons (.var 12) .nil))))]) .nil,
      .forS (.nm 14) (.seq (.var 13)) (bk [
        .cond (.p2 .nmem (.var 14) (.var 8)) (bk [
          .app 8 (.var 14)]) .nil])])]),
  .ret (.var 8)])

/-- 0:rule, 1:standing, 2:width -/
def cb_taken : CB := (bk [
  .cond (.p1 .not (.p1 (.isa ["str"]) (.var 1))) (bk [
    .ret (.lst (.cons (.var 1) .nil))]) .nil,
  .cond (.p2 .eq (.var 0) (.lit (.str "choose"))) (bk [
    .ret (.call 8 (.cons (.var 2) .nil))]) .nil,
  .cond (.p2 .eq (.var 0) (.lit (.str "keep"))) (bk [
    .ret (.lst (.cons (.var 1) .nil))]) .nil,
  .ret (.lst (.cons (.lit (.str "wrong")) .nil))])

/-- 0:book, 1:condition, 2:arms -/
def cb_selected : CB := (bk [
  .cond (.p1 .not (.p1 (.isa ["str"]) (.var 1))) (bk [
    .ret (.lst (.cons (.p2 .idx (.var 2) (.p1 .int (.p2 .eq (.var 1) (.lit (.int 0))))) .nil))]) .nil,
  .cond (.p2 .eq (.p2 .idx (.var 0) (.lit (.str "select"))) (.lit (.str "wrong"))) (bk [
    .ret (.lst (.cons (.lit (.str "wrong")) .nil))]) .nil,
  .cond (.and (.p2 .eq (.p2 .idx (.var 0) (.lit (.str "select"))) (.lit (.str "keep"))) (.p2 .eq (.var 1) (.lit (.str "bad")))) (bk [
    .ret (.lst (.cons (.lit (.str "bad")) .nil))]) .nil,
  .ret (.var 2)])

/-- 0:piece, 1:state, 2:letter -/
def cb_held : CB := (bk [
  .ret (.p2 .idx (.p2 .idx (.var 1) (.lit (.int 1))) (.mt2 .index (.p1 (.attr "registers") (.var 0)) (.var 2)))])

/-- 0:piece, 1:start, 2:given, 3:.0, 4:k, 5:x, 6:m -/
def cb_first_state : CB := (bk [
  .set 2 (.dc [3, 4] (.nm 4) (.rng (.p1 .len (.p1 (.attr "inputs") (.var 0)))) (.p2 .idx (.p1 (.attr "inputs") (.var 0)) (.var 4)) (.p2 .idx (.var 1) (.var 4))),
  .ret (.tup (.cons (.lit (.int 0)) (.cons (.p1 .tuple (.lc [3, 5] (.nm 5) (.seq (.p1 (.attr "registers") (.var 0))) .none (.get3 (.var 2) (.var 5) (.lit (.int 0))))) (.cons (.p1 .tuple (.lc [3, 6] (.nm 6) (.seq (.p1 (.attr "cells") (.var 0))) .none (.lit (.non)))) .nil))))])

/-- 0:piece, 1:state, 2:letter, 3:standing, 4:at -/
def cb_with_register : CB := (bk [
  .set 4 (.mt2 .index (.p1 (.attr "registers") (.var 0)) (.var 2)),
  .ret (.tup (.cons (.p2 .add (.p2 .idx (.var 1) (.lit (.int 0))) (.lit (.int 1))) (.cons (.p2 .add (.p2 .add (.slice (.p2 .idx (.var 1) (.lit (.int 1))) .none (.some (.var 4))) (.tup (.cons (.var 3) .nil))) (.slice (.p2 .idx (.var 1) (.lit (.int 1))) (.some (.p2 .add (.var 4) (.lit (.int 1)))) .none)) (.cons (.p2 .idx (.var 1) (.lit (.int 2))) .nil))))])

/-- 0:piece, 1:state, 2:standing -/
def cb_answered : CB := (bk [
  .ret (.call 21 (.cons (.var 0) (.cons (.var 1) (.cons (.p2 .idx (.p2 .idx (.p1 (.attr "code") (.var 0)) (.p2 .idx (.var 1) (.lit (.int 0)))) (.lit (.int 1))) (.cons (.var 2) .nil)))))])

/-- 0:book, 1:piece, 2:state, 3:instruction, 4:word, 5:content, 6:one, 7:other, 8:standing -/
def cb_results : CB := (bk [
  .set 4 (.p2 .idx (.var 3) (.lit (.int 0))),
  .cond (.p2 .eq (.var 4) (.lit (.str "put"))) (bk [
    .ret (.lst (.cons (.p2 .mod (.p2 .idx (.var 3) (.lit (.int 2))) (.p2 .idx (.con 0) (.p1 (.attr "width") (.var 1)))) .nil))]) .nil,
  .cond (.p2 .eq (.var 4) (.lit (.str "load"))) (bk [
    .set 5 (.p2 .idx (.p2 .idx (.var 2) (.lit (.int 2))) (.mt2 .index (.p1 (.attr "cells") (.var 1)) (.p2 .idx (.var 3) (.lit (.int 2))))),
    .cond (.p1 .isN (.var 5)) (bk [
      .ret (.call 15 (.cons (.p2 .idx (.var 0) (.lit (.str "fresh"))) (.cons (.p1 (.attr "width") (.var 1)) (.cons (.lit (.int 0)) .nil))))]) .nil,
    .ret (.lst (.cons (.var 5) .nil))]) .nil,
  .cond (.p2 .eq (.var 4) (.lit (.str "step"))) (bk [
    .set 6 (.call 19 (.cons (.var 1) (.cons (.var 2) (.cons (.p2 .idx (.var 3) (.lit (.int 3))) .nil)))),
    .set 7 (.call 19 (.cons (.var 1) (.cons (.var 2) (.cons (.p2 .idx (.var 3) (.lit (.int 4))) .nil)))),
    .ret (.call 16 (.cons (.var 0) (.cons (.p1 (.attr "width") (.var 1)) (.cons (.p2 .idx (.var 3) (.lit (.int 2))) (.cons (.var 6) (.cons (.var 7) .nil))))))]) .nil,
  .set 8 (.call 19 (.cons (.var 1) (.cons (.var 2) (.cons (.p2 .idx (.var 3) (.lit (.int 2))) .nil)))),
  .cond (.p2 .eq (.var 4) (.lit (.str "merge"))) (bk [
    .ret (.call 17 (.cons (.p2 .idx (.var 0) (.lit (.str "merge"))) (.cons (.var 8) (.cons (.p1 (.attr "width") (.var 1)) .nil))))]) .nil,
  .cond (.p2 .eq (.var 4) (.lit (.str "firm"))) (bk [
    .ret (.call 17 (.cons (.lit (.str "choose")) (.cons (.var 8) (.cons (.p1 (.attr "width") (.var 1)) .nil))))]) .nil,
  .ret (.call 18 (.cons (.var 0) (.cons (.var 8) (.cons (.lst (.cons (.call 19 (.cons (.var 1) (.cons (.var 2) (.cons (.p2 .idx (.var 3) (.lit (.int 3))) .nil)))) (.cons (.call 19 (.cons (.var 1) (.cons (.var 2) (.cons (.p2 .idx (.var 3) (.lit (.int 4))) .nil)))) .nil))) .nil))))])

/-- 0:piece, 1:state, 2:cell, 3:standing, 4:at -/
def cb_stored : CB := (bk [
  .set 4 (.mt2 .index (.p1 (.attr "cells") (.var 0)) (.var 2)),
  .ret (.tup (.cons (.p2 .add (.p2 .idx (.var 1) (.lit (.int 0))) (.lit (.int 1))) (.cons (.p2 .idx (.var 1) (.lit (.int 1))) (.cons (.p2 .add (.p2 .add (.slice (.p2 .idx (.var 1) (.lit (.int 2))) .none (.some (.var 4))) (.tup (.cons (.var 3) .nil))) (.slice (.p2 .idx (.var 1) (.lit (.int 2))) (.some (.p2 .add (.var 4) (.lit (.int 1)))) .none)) .nil))))])

/-- 0:piece, 1:state, 2:instruction, 3:outcome, 4:word, 5:point -/
def cb_effect : CB := (bk [
  .set 4 (.p2 .idx (.var 2) (.lit (.int 0))),
  .cond (.p2 .eq (.var 3) (.lit (.str "wrong"))) (bk [
    .ret (.tup (.cons (.tup (.cons (.lit (.str "wrong")) .nil)) (.cons (.lit (.non)) .nil)))]) .nil,
  .cond (.p2 .eq (.var 4) (.lit (.str "print"))) (bk [
    .ret (.tup (.cons (.tup (.cons (.lit (.str "print")) (.cons (.var 3) .nil))) (.cons (.tup (.cons (.p2 .add (.p2 .idx (.var 1) (.lit (.int 0))) (.lit (.int 1))) (.cons (.p2 .idx (.var 1) (.lit (.int 1))) (.cons (.p2 .idx (.var 1) (.lit (.int 2))) .nil)))) .nil)))]) .nil,
  .cond (.p2 .eq (.var 4) (.lit (.str "test"))) (bk [
    .set 5 (.p2 .add (.p2 .idx (.var 1) (.lit (.int 0))) (.lit (.int 1))),
    .cond (.p2 .eq (.var 3) (.lit (.int 0))) (bk [
      .set 5 (.p2 .idx (.var 2) (.lit (.int 2)))]) .nil,
    .ret (.tup (.cons (.lit (.non)) (.cons (.tup (.cons (.var 5) (.cons (.p2 .idx (.var 1) (.lit (.int 1))) (.cons (.p2 .idx (.var 1) (.lit (.int 2))) .nil)))) .nil)))]) .nil,
  .cond (.p2 .eq (.var 4) (.lit (.str "store"))) (bk [
    .ret (.tup (.cons (.lit (.non)) (.cons (.call 24 (.cons (.var 0) (.cons (.var 1) (.cons (.p2 .idx (.var 2) (.lit (.int 1))) (.cons (.var 3) .nil))))) .nil)))]) .nil,
  .ret (.tup (.cons (.lit (.non)) (.cons (.call 21 (.cons (.var 0) (.cons (.var 1) (.cons (.p2 .idx (.var 2) (.lit (.int 1))) (.cons (.var 3) .nil))))) .nil)))])

/-- 0:book, 1:piece, 2:state, 3:instruction, 4:word -/
def cb_outcomes_of : CB := (bk [
  .set 4 (.p2 .idx (.var 3) (.lit (.int 0))),
  .cond (.p2 .mem (.var 4) (.tup (.cons (.lit (.str "print")) (.cons (.lit (.str "test")) .nil)))) (bk [
    .ret (.call 17 (.cons (.p2 .idx (.var 0) (.var 4)) (.cons (.call 19 (.cons (.var 1) (.cons (.var 2) (.cons (.p2 .idx (.var 3) (.lit (.int 1))) .nil)))) (.cons (.p1 (.attr "width") (.var 1)) .nil))))]) .nil,
  .cond (.p2 .eq (.var 4) (.lit (.str "store"))) (bk [
    .ret (.call 17 (.cons (.p2 .idx (.var 0) (.lit (.str "store"))) (.cons (.call 19 (.cons (.var 1) (.cons (.var 2) (.cons (.p2 .idx (.var 3) (.lit (.int 2))) .nil)))) (.cons (.p1 (.attr "width") (.var 1)) .nil))))]) .nil,
  .ret (.call 23 (.cons (.var 0) (.cons (.var 1) (.cons (.var 2) (.cons (.var 3) .nil)))))])

/-- 0:book, 1:piece, 2:state, 3:instruction, 4:found, 5:outcome, 6:move, 7:.0, 8:x -/
def cb_moves : CB := (bk [
  .cond (.p2 .eq (.p2 .idx (.var 2) (.lit (.int 0))) (.p1 .len (.p1 (.attr "code") (.var 1)))) (bk [
    .ret (.lst (.cons (.tup (.cons (.tup (.cons (.lit (.str "end")) (.cons (.p1 .tuple (.lc [7, 8] (.nm 8) (.seq (.p1 (.attr "outputs") (.var 1))) .none (.call 19 (.cons (.var 1) (.cons (.var 2) (.cons (.var 8) .nil)))))) .nil))) (.cons (.lit (.non)) .nil))) .nil))]) .nil,
  .set 3 (.p2 .idx (.p1 (.attr "code") (.var 1)) (.p2 .idx (.var 2) (.lit (.int 0)))),
  .cond (.p2 .eq (.p2 .idx (.var 3) (.lit (.int 0))) (.lit (.str "jump"))) (bk [
    .ret (.lst (.cons (.tup (.cons (.lit (.non)) (.cons (.tup (.cons (.p2 .idx (.var 3) (.lit (.int 1))) (.cons (.p2 .idx (.var 2) (.lit (.int 1))) (.cons (.p2 .idx (.var 2) (.lit (.int 2))) .nil)))) .nil))) .nil))]) .nil,
  .cond (.p2 .eq (.p2 .idx (.var 3) (.lit (.int 0))) (.lit (.str "ask"))) (bk [
    .ret (.lst (.cons (.tup (.cons (.tup (.cons (.lit (.str "ask")) (.cons (.p2 .idx (.var 3) (.lit (.int 2))) (.cons (.call 19 (.cons (.var 1) (.cons (.var 2) (.cons (.p2 .idx (.var 3) (.lit (.int 3))) .nil)))) .nil)))) (.cons (.var 2) .nil))) .nil))]) .nil,
  .set 4 (.lst .nil),
  .forS (.nm 5) (.seq (.call 26 (.cons (.var 0) (.cons (.var 1) (.cons (.var 2) (.cons (.var 3) .nil)))))) (bk [
    .set 6 (.call 25 (.cons (.var 1) (.cons (.var 2) (.cons (.var 3) (.cons (.var 5) .nil))))),
    .cond (.p2 .nmem (.var 6) (.var 4)) (bk [
      .app 4 (.var 6)]) .nil]),
  .ret (.var 4)])

/-- 0:self, 1:row, 2:rule -/
def cb_BadRow___init__ : CB := (bk [
  .expr .nev,
  .fset 0 "row" (.var 1),
  .fset 0 "rule" (.var 2)])

/-- 0:self, 1:point -/
def cb_BadPiece___init__ : CB := (bk [
  .expr .nev,
  .fset 0 "point" (.var 1)])

/-- 0:members, 1:count, 2:rows, 3:turn, 4:.0, 5:row, 6:member -/
def cb_all_starts : CB := (bk [
  .set 2 (.lst (.cons (.tup .nil) .nil)),
  .forS (.nm 3) (.rng (.var 1)) (bk [
    .nev]),
  .ret (.var 2)])

/-- 0:side, 1:states, 2:found, 3:left, 4:state, 5:event, 6:after, 7:.0, 8:standing -/
def cb_graph_of : CB := (bk [
  .set 2 (.dct .nil),
  .set 3 (.p1 .list (.var 1)),
  .whileS (.var 3) (bk [
    .set 4 (.pop 3),
    .cond (.p2 .nmem (.var 4) (.var 2)) (bk [
      .put 2 (.var 4) (.call 27 (.cons (.p2 .idx (.var 0) (.lit (.int 0))) (.cons (.p2 .idx (.var 0) (.lit (.int 1))) (.cons (.var 4) .nil)))),
      .forS (.tp [5, 6]) (.seq (.p2 .idx (.var 2) (.var 4))) (bk [
        .cond (.and (.p1 .notN (.var 5)) (.p2 .eq (.p2 .idx (.var 5) (.lit (.int 0))) (.lit (.str "ask")))) (bk [
          .ext 3 (.lc [7, 8] (.nm 8) (.seq (.call 10 (.cons (.p2 .idx (.var 0) (.lit (.int 0))) (.cons (.p1 (.attr "width") (.p2 .idx (.var 0) (.lit (.int 1)))) .nil)))) .none (.call 22 (.cons (.p2 .idx (.var 0) (.lit (.int 1))) (.cons (.var 4) (.cons (.var 8) .nil)))))]) (bk [
          .cond (.p1 .notN (.var 6)) (bk [
            .app 3 (.var 6)]) .nil])])]) .nil]),
  .ret (.var 2)])

/-- 0:graph, 1:states, 2:found, 3:left, 4:state, 5:.0, 6:event, 7:after -/
def cb_followers : CB := (bk [
  .set 2 (.dct .nil),
  .set 3 (.p1 .list (.var 1)),
  .whileS (.var 3) (bk [
    .set 4 (.pop 3),
    .cond (.p2 .nmem (.var 4) (.var 2)) (bk [
      .put 2 (.var 4) (.lit (.bl true)),
      .ext 3 (.lc [5, 6, 7] (.tp [6, 7]) (.seq (.p2 .idx (.var 0) (.var 4))) (.some (.p1 .isN (.var 6))) (.var 7))]) .nil]),
  .ret (.p1 .tuple (.p1 .sortS (.p1 .list (.var 2))))])

/-- 0:graph, 1:links, 2:alive, 3:turn, 4:kept, 5:.0, 6:state, 7:event, 8:after -/
def cb_endless : CB := (bk [
  .set 1 (.dc [5, 6] (.nm 6) (.seq (.var 0)) (.var 6) (.lc [5, 7, 8] (.tp [7, 8]) (.seq (.p2 .idx (.var 0) (.var 6))) (.some (.p1 .isN (.var 7))) (.var 8))),
  .set 2 (.p1 .list (.var 0)),
  .forS (.nm 3) (.rng (.p1 .len (.var 0))) (bk [
    .set 4 (.dc [5, 6] (.nm 6) (.seq (.var 2)) (.var 6) (.lit (.bl true))),
    .set 2 (.lc [5, 6] (.nm 6) (.seq (.p1 .list (.var 4))) (.some (.p2 .gt (.p1 .len (.lc [5, 8] (.nm 8) (.seq (.p2 .idx (.var 1) (.var 6))) (.some (.p2 .mem (.var 8) (.var 4))) (.var 8))) (.lit (.int 0)))) (.var 6)),
    .cond (.p2 .eq (.p1 .len (.var 2)) (.p1 .len (.var 4))) (bk [
      .brk]) .nil]),
  .ret (.dc [5, 6] (.nm 6) (.seq (.var 2)) (.var 6) (.lit (.bl true)))])

/-- 0:book, 1:event, 2:heard, 3:.0, 4:one, 5:other -/
def cb_matches : CB := (bk [
  .cond (.p2 .ne (.p2 .idx (.var 1) (.lit (.int 0))) (.p2 .idx (.var 2) (.lit (.int 0)))) (bk [
    .ret (.lit (.bl false))]) .nil,
  .cond (.p2 .eq (.p2 .idx (.var 1) (.lit (.int 0))) (.lit (.str "ask"))) (bk [
    .ret (.and (.p2 .eq (.p2 .idx (.var 1) (.lit (.int 1))) (.p2 .idx (.var 2) (.lit (.int 1)))) (.call 11 (.cons (.var 0) (.cons (.p2 .idx (.var 1) (.lit (.int 2))) (.cons (.p2 .idx (.var 2) (.lit (.int 2))) .nil)))))]) .nil,
  .cond (.p2 .eq (.p2 .idx (.var 1) (.lit (.int 0))) (.lit (.str "end"))) (bk [
    .ret (.p1 .all (.lc [3, 4, 5] (.tp [4, 5]) (.seq .nev) .none (.call 11 (.cons (.var 0) (.cons (.var 4) (.cons (.var 5) .nil))))))]) .nil,
  .ret (.p2 .eq (.var 1) (.var 2))])

/-- 0:book, 1:event, 2:.0, 3:standing -/
def cb_told : CB := (bk [
  .cond (.p2 .eq (.p2 .idx (.var 1) (.lit (.int 0))) (.lit (.str "ask"))) (bk [
    .ret (.tup (.cons (.lit (.str "ask")) (.cons (.p2 .idx (.var 1) (.lit (.int 1))) (.cons (.call 13 (.cons (.var 0) (.cons (.p2 .idx (.var 1) (.lit (.int 2))) .nil))) .nil))))]) .nil,
  .cond (.p2 .eq (.p2 .idx (.var 1) (.lit (.int 0))) (.lit (.str "end"))) (bk [
    .ret (.tup (.cons (.lit (.str "end")) (.cons (.p1 .tuple (.lc [2, 3] (.nm 3) (.seq (.p2 .idx (.var 1) (.lit (.int 1)))) .none (.call 13 (.cons (.var 0) (.cons (.var 3) .nil))))) .nil)))]) .nil,
  .ret (.var 1)])

/-- 0:graph, 1:states, 2:.0, 3:state, 4:move -/
def cb_loud_moves : CB := (bk [
  .ret .nev])

/-- 0:self, 1:plain, 2:made, 3:starts, 4:.0, 5:start -/
def cb_Sides___init__ : CB := (bk [
  .fset 0 "plain" (.var 1),
  .fset 0 "made" (.var 2),
  .fset 0 "plain_graph" (.call 35 (.cons (.var 1) (.cons (.lc [4, 5] (.nm 5) (.seq (.var 3)) .none (.call 20 (.cons (.p2 .idx (.var 1) (.lit (.int 1))) (.cons (.var 5) .nil)))) .nil))),
  .fset 0 "made_graph" (.call 35 (.cons (.var 2) (.cons (.lc [4, 5] (.nm 5) (.seq (.var 3)) .none (.call 20 (.cons (.p2 .idx (.var 2) (.lit (.int 1))) (.cons (.var 5) .nil)))) .nil))),
  .fset 0 "plain_alive" (.call 37 (.cons (.p1 (.attr "plain_graph") (.var 0)) .nil)),
  .fset 0 "made_alive" (.call 37 (.cons (.p1 (.attr "made_graph") (.var 0)) .nil))])

/-- 0:self, 1:starts, 2:found, 3:start, 4:others -/
def cb_Sides_first_arrivals : CB := (bk [
  .set 2 (.lst .nil),
  .forS (.nm 3) (.seq (.var 1)) (bk [
    .set 4 (.call 36 (.cons (.p1 (.attr "plain_graph") (.var 0)) (.cons (.lst (.cons (.call 20 (.cons (.p2 .idx (.p1 (.attr "plain") (.var 0)) (.lit (.int 1))) (.cons (.var 3) .nil))) .nil)) .nil))),
    .app 2 (.tup (.cons (.lit (.non)) (.cons (.var 3) (.cons (.lit (.non)) (.cons (.tup (.cons (.call 20 (.cons (.p2 .idx (.p1 (.attr "made") (.var 0)) (.lit (.int 1))) (.cons (.var 3) .nil))) (.cons (.var 4) .nil))) .nil)))))]),
  .ret (.var 2)])

/-- 0:self, 1:others, 2:loud, 3:idle, 4:free, 5:.0, 6:state -/
def cb_Sides_entry : CB := (bk [
  .set 2 (.call 40 (.cons (.p1 (.attr "plain_graph") (.var 0)) (.cons (.var 1) .nil))),
  .set 3 (.p2 .gt (.p1 .len (.lc [5, 6] (.nm 6) (.seq (.var 1)) (.some (.p2 .mem (.var 6) (.p1 (.attr "plain_alive") (.var 0)))) (.var 6))) (.lit (.int 0))),
  .set 4 (.or (.p2 .mem (.tup (.cons (.tup (.cons (.lit (.str "wrong")) .nil)) (.cons (.lit (.non)) .nil))) (.var 2)) (.and (.p2 .eq (.p2 .idx (.p2 .idx (.p1 (.attr "plain") (.var 0)) (.lit (.int 0))) (.lit (.str "idle"))) (.lit (.str "wrong"))) .nev)),
  .ret (.tup (.cons (.var 1) (.cons (.var 2) (.cons (.var 4) (.cons (.var 3) .nil)))))])

/-- 0:self, 1:loud, 2:event, 3:behind, 4:found, 5:standing, 6:asking, 7:.0, 8:heard, 9:after, 10:one -/
def cb_Sides_follow : CB := (bk [
  .set 3 (.lc [7, 8, 9] (.tp [8, 9]) (.seq (.var 1)) (.some (.call 38 (.cons (.p2 .idx (.p1 (.attr "made") (.var 0)) (.lit (.int 0))) (.cons (.var 2) (.cons (.var 8) .nil))))) (.var 9)),
  .cond (.or (.p2 .eq (.p2 .idx (.var 2) (.lit (.int 0))) (.lit (.str "wrong"))) (.p2 .eq (.p1 .len (.var 3)) (.lit (.int 0)))) (bk [
    .ret (.lit (.non))]) .nil,
  .cond (.p2 .eq (.p2 .idx (.var 2) (.lit (.int 0))) (.lit (.str "print"))) (bk [
    .ret (.lst (.cons (.tup (.cons (.lit (.non)) (.cons (.call 36 (.cons (.p1 (.attr "plain_graph") (.var 0)) (.cons (.var 3) .nil))) .nil))) .nil))]) .nil,
  .cond (.p2 .eq (.p2 .idx (.var 2) (.lit (.int 0))) (.lit (.str "end"))) (bk [
    .ret (.lst .nil)]) .nil,
  .set 4 (.lst .nil),
  .forS (.nm 5) (.seq (.call 10 (.cons (.p2 .idx (.p1 (.attr "made") (.var 0)) (.lit (.int 0))) (.cons (.p1 (.attr "width") (.p2 .idx (.p1 (.attr "made") (.var 0)) (.lit (.int 1)))) .nil)))) (bk [
    .set 6 (.lc [7, 10] (.nm 10) (.seq (.var 3)) .none (.call 22 (.cons (.p2 .idx (.p1 (.attr "plain") (.var 0)) (.lit (.int 1))) (.cons (.var 10) (.cons (.var 5) .nil))))),
    .app 4 (.tup (.cons (.var 5) (.cons (.call 36 (.cons (.p1 (.attr "plain_graph") (.var 0)) (.cons (.var 6) .nil))) .nil)))]),
  .ret (.var 4)])

/-- 0:self, 1:state, 2:plain_idle -/
def cb_Sides_idle_event : CB := (bk [
  .cond (.and (.p2 .mem (.var 1) (.p1 (.attr "made_alive") (.var 0))) (.p2 .eq (.p2 .idx (.p2 .idx (.p1 (.attr "made") (.var 0)) (.lit (.int 0))) (.lit (.str "idle"))) (.lit (.str "wrong")))) (bk [
    .ret (.tup (.cons (.lit (.str "wrong")) .nil))]) .nil,
  .cond (.and (.p2 .mem (.var 1) (.p1 (.attr "made_alive") (.var 0))) (.p1 .not (.var 2))) (bk [
    .ret (.tup (.cons (.lit (.str "idle")) .nil))]) .nil,
  .ret (.lit (.non))])

/-- 0:made, 1:key, 2:event, 3:after, 4:rows, 5:shown, 6:.0, 7:answer, 8:others -/
def cb_ways_on : CB := (bk [
  .cond (.p2 .ne (.p2 .idx (.var 2) (.lit (.int 0))) (.lit (.str "ask"))) (bk [
    .ret (.lc [6, 7, 8] (.tp [7, 8]) (.seq (.var 4)) .none (.tup (.cons (.var 1) (.cons (.var 2) (.cons (.lit (.non)) (.cons (.tup (.cons (.var 3) (.cons (.var 8) .nil))) .nil))))))]) .nil,
  .set 5 (.call 39 (.cons (.p2 .idx (.var 0) (.lit (.int 0))) (.cons (.var 2) .nil))),
  .ret (.lc [6, 7, 8] (.tp [7, 8]) (.seq (.var 4)) .none (.tup (.cons (.var 1) (.cons (.var 5) (.cons (.var 7) (.cons (.tup (.cons (.call 22 (.cons (.p2 .idx (.var 0) (.lit (.int 1))) (.cons (.p2 .idx (.var 1) (.lit (.int 0))) (.cons (.var 7) .nil)))) (.cons (.var 8) .nil))) .nil))))))])

/-- 0:origin, 1:pair, 2:last, 3:events, 4:answers, 5:before, 6:event, 7:answer -/
def cb_traced : CB := (bk [
  .set 3 (.lst (.cons (.var 2) .nil)),
  .set 4 (.lst .nil),
  .whileS (.p1 .notN (.p2 .idx (.p2 .idx (.var 0) (.var 1)) (.lit (.int 0)))) (bk [
    .tset [5, 6, 7] (.p2 .idx (.var 0) (.var 1)),
    .cond (.p1 .notN (.var 6)) (bk [
      .app 3 (.var 6)]) .nil,
    .cond (.p1 .notN (.var 7)) (bk [
      .app 4 (.var 7)]) .nil,
    .set 1 (.var 5)]),
  .ret (.tup (.cons (.p2 .idx (.p2 .idx (.var 0) (.var 1)) (.lit (.int 1))) (.cons (.p1 .tuple (.rev (.var 4))) (.cons (.p1 .tuple (.rev (.var 3))) .nil))))])

/-- 0:plain, 1:made, 2:starts, 3:sides, 4:numbers, 5:entries, 6:origin, 7:followed, 8:arrivals, 9:level, 10:before, 11:event, 12:answer, 13:pair, 14:key, 15:at, 16:after, 17:last, 18:.0, 19:one -/
def cb_compare : CB := (bk [
  .set 3 (.call 41 (.cons (.var 0) (.cons (.var 1) (.cons (.var 2) .nil)))),
  .set 4 (.dct .nil),
  .set 5 (.lst .nil),
  .set 6 (.dct .nil),
  .set 7 (.dct .nil),
  .set 8 (.p1 .list (.mth (.var 3) "first_arrivals" (.cons (.var 2) .nil))),
  .whileS (.var 8) (bk [
    .set 9 (.lst .nil),
    .forS (.tp [10, 11, 12, 13]) (.seq (.var 8)) (bk [
      .cond (.p2 .nmem (.p2 .idx (.var 13) (.lit (.int 1))) (.var 4)) (bk [
        .put 4 (.p2 .idx (.var 13) (.lit (.int 1))) (.p1 .len (.var 5)),
        .app 5 (.mth (.var 3) "entry" (.cons (.p2 .idx (.var 13) (.lit (.int 1))) .nil))]) .nil,
      .set 14 (.tup (.cons (.p2 .idx (.var 13) (.lit (.int 0))) (.cons (.p2 .idx (.var 4) (.p2 .idx (.var 13) (.lit (.int 1)))) .nil))),
      .cond (.p2 .nmem (.var 14) (.var 6)) (bk [
        .put 6 (.var 14) (.tup (.cons (.var 10) (.cons (.var 11) (.cons (.var 12) .nil)))),
        .app 9 (.var 14)]) .nil]),
    .set 15 (.lit (.int 0)),
    .whileS (.p2 .lt (.var 15) (.p1 .len (.var 9))) (bk [
      .forS (.tp [11, 16]) (.seq (.p2 .idx (.p1 (.attr "made_graph") (.var 3)) (.p2 .idx (.p2 .idx (.var 9) (.var 15)) (.lit (.int 0))))) (bk [
        .cond (.and (.p1 .isN (.var 11)) (.and (.p1 .not (.p2 .idx (.p2 .idx (.var 5) (.p2 .idx (.p2 .idx (.var 9) (.var 15)) (.lit (.int 1)))) (.lit (.int 2)))) (.p2 .nmem (.tup (.cons (.var 16) (.cons (.p2 .idx (.p2 .idx (.var 9) (.var 15)) (.lit (.int 1))) .nil))) (.var 6)))) (bk [
          .put 6 (.tup (.cons (.var 16) (.cons (.p2 .idx (.p2 .idx (.var 9) (.var 15)) (.lit (.int 1))) .nil))) (.tup (.cons (.p2 .idx (.var 9) (.var 15)) (.cons (.lit (.non)) (.cons (.lit (.non)) .nil)))),
          .app 9 (.tup (.cons (.var 16) (.cons (.p2 .idx (.p2 .idx (.var 9) (.var 15)) (.lit (.int 1))) .nil)))]) .nil]),
      .aug 15 .add (.lit (.int 1))]),
    .set 8 (.lst .nil),
    .forS (.nm 14) (.seq (.lc [18, 19] (.nm 19) (.seq (.var 9)) (.some (.p1 .not (.p2 .idx (.p2 .idx (.var 5) (.p2 .idx (.var 19) (.lit (.int 1)))) (.lit (.int 2))))) (.var 19))) (bk [
      .set 17 (.mth (.var 3) "idle_event" (.cons (.p2 .idx (.var 14) (.lit (.int 0))) (.cons (.p2 .idx (.p2 .idx (.var 5) (.p2 .idx (.var 14) (.lit (.int 1)))) (.lit (.int 3))) .nil))),
      .forS (.tp [11, 16]) (.seq (.call 40 (.cons (.p1 (.attr "made_graph") (.var 3)) (.cons (.lst (.cons (.p2 .idx (.var 14) (.lit (.int 0))) .nil)) .nil)))) (bk [
        .cond (.p2 .nmem (.tup (.cons (.p2 .idx (.var 14) (.lit (.int 1))) (.cons (.var 11) .nil))) (.var 7)) (bk [
          .put 7 (.tup (.cons (.p2 .idx (.var 14) (.lit (.int 1))) (.cons (.var 11) .nil))) (.mth (.var 3) "follow" (.cons (.p2 .idx (.p2 .idx (.var 5) (.p2 .idx (.var 14) (.lit (.int 1)))) (.lit (.int 1))) (.cons (.var 11) .nil)))]) .nil,
        .cond (.p1 .isN (.p2 .idx (.var 7) (.tup (.cons (.p2 .idx (.var 14) (.lit (.int 1))) (.cons (.var 11) .nil))))) (bk [
          .set 17 (.call 39 (.cons (.p2 .idx (.var 1) (.lit (.int 0))) (.cons (.var 11) .nil)))]) (bk [
          .ext 8 (.call 42 (.cons (.var 1) (.cons (.var 14) (.cons (.var 11) (.cons (.var 16) (.cons (.p2 .idx (.var 7) (.tup (.cons (.p2 .idx (.var 14) (.lit (.int 1))) (.cons (.var 11) .nil)))) .nil))))))])]),
      .cond (.p1 .notN (.var 17)) (bk [
        .ret (.tup (.cons (.lit (.non)) (.cons (.call 43 (.cons (.var 6) (.cons (.var 14) (.cons (.var 17) .nil)))) .nil)))]) .nil])]),
  .ret (.tup (.cons (.p1 .tuple (.lc [18, 14] (.nm 14) (.seq (.var 6)) .none (.tup (.cons (.p2 .idx (.var 14) (.lit (.int 0))) (.cons (.p2 .idx (.p2 .idx (.var 5) (.p2 .idx (.var 14) (.lit (.int 1)))) (.lit (.int 0))) .nil))))) (.cons (.lit (.non)) .nil)))])

/-- 0:self -/
def cb_Verdict___bool__ : CB := (bk [
  .ret (.lit (.bl false))])

/-- 0:self, 1:table -/
def cb_Holds___init__ : CB := (bk [
  .fset 0 "table" (.var 1)])

/-- 0:self -/
def cb_Holds___bool__ : CB := (bk [
  .ret (.lit (.bl true))])

/-- 0:self, 1:start, 2:answers, 3:events -/
def cb_Fails___init__ : CB := (bk [
  .fset 0 "start" (.var 1),
  .fset 0 "answers" (.var 2),
  .fset 0 "events" (.var 3)])

/-- 0:self -/
def cb_Fails___bool__ : CB := (bk [
  .ret (.lit (.bl false))])

/-- 0:book, 1:plain, 2:made, 3:starts, 4:table, 5:witness -/
def cb_judged : CB := (bk [
  .set 3 (.call 34 (.cons (.call 10 (.cons (.var 0) (.cons (.p1 (.attr "width") (.var 1)) .nil))) (.cons (.p1 .len (.p1 (.attr "inputs") (.var 1))) .nil))),
  .tset [4, 5] (.call 44 (.cons (.tup (.cons (.var 0) (.cons (.var 1) .nil))) (.cons (.tup (.cons (.var 0) (.cons (.var 2) .nil))) (.cons (.var 3) .nil)))),
  .cond (.p1 .isN (.var 5)) (bk [
    .ret (.call 46 (.cons (.var 4) .nil))]) .nil,
  .ret (.call 47 (.cons (.p2 .idx (.var 5) (.lit (.int 0))) (.cons (.p2 .idx (.var 5) (.lit (.int 1))) (.cons (.p2 .idx (.var 5) (.lit (.int 2))) .nil))))])

/-- 0:self, 1:rows, 2:row, 3:.0 -/
def cb_Book___init__ : CB := (bk [
  .fset 0 "table" (.dc [3, 2] (.nm 2) (.seq (.con 1)) (.var 2) (.p2 .idx (.p2 .idx (.con 1) (.var 2)) (.lit (.int 0)))),
  .forS (.nm 2) (.seq (.var 1)) (bk [
    .put 0 (.var 2) (.p2 .idx (.var 1) (.var 2))])])

/-- 0:self, 1:row -/
def cb_Book___getitem__ : CB := (bk [
  .cond (.p2 .nmem (.var 1) (.p1 (.attr "table") (.var 0))) (bk [
    .nev]) .nil,
  .ret (.p2 .idx (.p1 (.attr "table") (.var 0)) (.var 1))])

/-- 0:self, 1:row, 2:rule -/
def cb_Book___setitem__ : CB := (bk [
  .cond (.or (.p2 .nmem (.var 1) (.p1 (.attr "table") (.var 0))) (.p2 .nmem (.var 2) (.p2 .idx (.con 1) (.var 1)))) (bk [
    .nev]) .nil,
  .nev])

/-- 0:self -/
def cb_Book___iter__ : CB := (bk [
  .ret .nev])

/-- 0:self, 1:other -/
def cb_Book___eq__ : CB := (bk [
  .ret (.and (.p1 (.isa ["Book"]) (.var 1)) (.p2 .eq (.p1 (.attr "table") (.var 0)) (.p1 (.attr "table") (.var 1))))])

/-- 0:self, 1:other, 2:.0, 3:row -/
def cb_Book___le__ : CB := (bk [
  .cond (.p1 .not (.p1 (.isa ["Book"]) (.var 1))) (bk [
    .ret .nev]) .nil,
  .ret (.p1 .all (.lc [2, 3] (.nm 3) (.seq (.con 1)) .none (.p2 .le (.mt2 .index (.p2 .idx (.con 1) (.var 3)) (.p2 .idx (.p1 (.attr "table") (.var 0)) (.var 3))) (.mt2 .index (.p2 .idx (.con 1) (.var 3)) (.p2 .idx (.p1 (.attr "table") (.var 1)) (.var 3))))))])

/-- 0:self, 1:p -/
def cb_Book___contains__ : CB := (bk [
  .ret (.p1 (.isa ["Holds"]) (.call 49 (.cons (.var 0) (.cons (.p1 (.attr "plain") (.var 1)) (.cons (.p1 (.attr "made") (.var 1)) .nil)))))])

/-- 0:self, 1:rows -/
def cb_Book_twin : CB := (bk [
  .expr (.call 0 (.cons (.lit (.int 0)) .nil))])

/-- 0:row -/
def cb_Book_rules : CB := (bk [
  .cond (.p2 .nmem (.var 0) (.con 1)) (bk [
    .nev]) .nil,
  .ret (.p2 .idx (.con 1) (.var 0))])

/-- 0:cls -/
def cb_Book_new : CB := (bk [
  .expr (.call 0 (.cons (.lit (.int 1)) .nil))])

/-- 0:part, 1:letters -/
def cb_one_of : CB := (bk [
  .ret (.and (.p1 (.isa ["str"]) (.var 0)) (.and (.p2 .eq (.p1 .len (.var 0)) (.lit (.int 1))) (.p2 .mem (.var 0) (.var 1))))])

/-- 0:part, 1:most -/
def cb_within : CB := (bk [
  .ret (.and (.p1 (.isa ["int"]) (.var 0)) (.and (.p1 .not (.p1 (.isa ["bool"]) (.var 0))) (.chain .le .le (.lit (.int 0)) (.var 0) (.var 1))))])

/-- 0:part, 1:letter, 2:size -/
def cb_fits : CB := (bk [
  .cond (.p2 .eq (.var 1) (.lit (.str "r"))) (bk [
    .ret (.call 53 (.cons (.var 0) (.cons (.con 2) .nil)))]) .nil,
  .cond (.p2 .eq (.var 1) (.lit (.str "m"))) (bk [
    .ret (.call 53 (.cons (.var 0) (.cons (.con 3) .nil)))]) .nil,
  .cond (.p2 .eq (.var 1) (.lit (.str "k"))) (bk [
    .ret (.call 54 (.cons (.var 0) (.cons (.lit (.int 7)) .nil)))]) .nil,
  .cond (.p2 .eq (.var 1) (.lit (.str "p"))) (bk [
    .ret (.call 54 (.cons (.var 0) (.cons (.var 2) .nil)))]) .nil,
  .ret (.and (.p1 (.isa ["str"]) (.var 0)) (.p2 .mem (.var 0) (.con 4)))])

/-- 0:instruction, 1:size, 2:form, 3:.0, 4:k -/
def cb_valid : CB := (bk [
  .cond (.or (.p2 .eq (.p1 .len (.var 0)) (.lit (.int 0))) (.p2 .nmem (.p2 .idx (.var 0) (.lit (.int 0))) (.con 7))) (bk [
    .ret (.lit (.bl false))]) .nil,
  .set 2 (.p2 .idx (.con 7) (.p2 .idx (.var 0) (.lit (.int 0)))),
  .cond (.p2 .ne (.p1 .len (.var 0)) (.p2 .add (.p1 .len (.var 2)) (.lit (.int 1)))) (bk [
    .ret (.lit (.bl false))]) .nil,
  .ret (.p1 .all (.lc [3, 4] (.nm 4) (.rng (.p1 .len (.var 2))) .none (.call 55 (.cons (.p2 .idx (.var 0) (.p2 .add (.var 4) (.lit (.int 1)))) (.cons (.p2 .idx (.var 2) (.var 4)) (.cons (.var 1) .nil))))))])

/-- 0:code, 1:letter, 2:found, 3:instruction, 4:form, 5:k -/
def cb_named : CB := (bk [
  .set 2 (.dct .nil),
  .forS (.nm 3) (.seq (.var 0)) (bk [
    .set 4 (.p2 .idx (.con 7) (.p2 .idx (.var 3) (.lit (.int 0)))),
    .forS (.nm 5) (.rng (.p1 .len (.var 4))) (bk [
      .cond (.and (.p2 .eq (.p2 .idx (.var 4) (.var 5)) (.var 1)) (.or (.p2 .eq (.var 1) (.lit (.str "r"))) (.p2 .ne (.p2 .idx (.var 3) (.lit (.int 0))) (.lit (.str "ask"))))) (bk [
        .put 2 (.p2 .idx (.var 3) (.p2 .add (.var 5) (.lit (.int 1)))) (.lit (.bl true))]) .nil])]),
  .ret (.p1 .list (.var 2))])

/-- 0:self, 1:width, 2:code, 3:inputs, 4:outputs, 5:point, 6:row, 7:most, 8:good, 9:letters, 10:.0, 11:x -/
def cb_Piece___init__ : CB := (bk [
  .cond (.or (.p1 .not (.call 54 (.cons (.var 1) (.cons (.lit (.int 3)) .nil)))) (.or (.p2 .eq (.var 1) (.lit (.int 0))) (.p2 .gt (.p1 .len (.var 2)) (.con 6)))) (bk [
    .nev]) .nil,
  .forS (.nm 5) (.rng (.p1 .len (.var 2))) (bk [
    .cond (.p1 .not (.call 56 (.cons (.p2 .idx (.var 2) (.var 5)) (.cons (.p1 .len (.var 2)) .nil)))) (bk [
      .nev]) .nil]),
  .forS (.tp [6, 7]) (.seq (.tup (.cons (.tup (.cons (.var 3) (.cons (.lit (.int 3)) .nil))) (.cons (.tup (.cons (.var 4) (.cons (.lit (.int 2)) .nil))) .nil)))) (bk [
    .set 8 (.lc [10, 11] (.nm 11) (.seq (.var 6)) (.some (.call 53 (.cons (.var 11) (.cons (.con 2) .nil)))) (.var 11)),
    .cond (.or (.p2 .ne (.p1 .len (.var 8)) (.p1 .len (.var 6))) (.or (.p2 .ne (.sc [10, 11] (.nm 11) (.seq (.var 8)) (.var 11)) (.p1 .len (.var 6))) (.p2 .gt (.p1 .len (.var 6)) (.var 7)))) (bk [
      .nev]) .nil]),
  .set 9 (.p2 .add (.p2 .add (.call 57 (.cons (.var 2) (.cons (.lit (.str "r")) .nil))) (.p1 .list (.var 3))) (.p1 .list (.var 4))),
  .fset 0 "width" (.var 1),
  .fset 0 "code" (.p1 .tuple (.var 2)),
  .fset 0 "inputs" (.p1 .tuple (.var 3)),
  .fset 0 "outputs" (.p1 .tuple (.var 4)),
  .fset 0 "registers" (.p1 .tuple (.p1 .sortS (.p1 .list (.dc [10, 11] (.nm 11) (.seq (.var 9)) (.var 11) (.lit (.bl true)))))),
  .fset 0 "cells" (.p1 .tuple (.p1 .sortS (.call 57 (.cons (.var 2) (.cons (.lit (.str "m")) .nil))))),
  .cond (.p2 .gt (.p2 .add (.p1 .len (.p1 (.attr "registers") (.var 0))) (.p1 .len (.p1 (.attr "cells") (.var 0)))) (.p2 .idx (.con 5) (.var 1))) (bk [
    .nev]) .nil])

end Dv

set_option linter.all false
set_option maxRecDepth 100000
set_option maxHeartbeats 1000000
namespace Dv
open PySem
theorem chars_inj : ∀ (a b : List Char), a.map Char.toNat = b.map Char.toNat → a = b
  | [], [], _ => rfl
  | [], _ :: _, h => by simp at h
  | _ :: _, [], h => by simp at h
  | x :: a, y :: b, h => by
    simp only [List.map_cons, List.cons.injEq] at h
    rw [chars_inj a b h.2]
    have : x.val.toNat = y.val.toNat := h.1
    rw [Char.ext (UInt32.toNat_inj.mp this)]
theorem ofS_inj (a b : String) : (Str.ofString a = Str.ofString b) = (a = b) := by
  rw [Str.ofString_eq_toList, Str.ofString_eq_toList]
  refine propext ⟨fun h => ?_, fun h => by rw [h]⟩
  have h1 := congrArg Str.cps h
  have h2 : a.toList.map Char.toNat = b.toList.map Char.toNat := by simpa using h1
  exact String.toList_inj.mp (chars_inj _ _ h2)
theorem ofS_ok (a : String) : PyData.strOk (Str.ofString a) = true := by
  rw [Str.ofString_eq_toList]
  unfold PyData.strOk
  simp only [List.all_toArray, List.all_map, List.all_eq_true, Function.comp]
  intro c _
  have := c.valid
  simp only [UInt32.isValidChar, Nat.isValidChar] at this
  have h2 : c.toNat = c.val.toNat := rfl
  simp only [decide_eq_true_eq]
  omega

/-! ### data without truth values -/
mutual
def niceB : D → Bool
  | .non => true
  | .bl _ => false
  | .int _ => true
  | .str x => PyData.strOk x
  | .tup ds => nicesB ds
  | .lst ds => nicesB ds
  | .dct _ _ => false
  | .obj _ _ _ => false
def nicesB : List D → Bool
  | [] => true
  | d :: ds => niceB d && nicesB ds
end
mutual
def dep : D → Nat
  | .tup ds => deps ds + 1
  | .lst ds => deps ds + 1
  | _ => 0
def deps : List D → Nat
  | [] => 0
  | d :: ds => max (dep d) (deps ds)
end
mutual
theorem nice_dat : ∀ (d : D), niceB d = true → ∃ p, dat d = some p ∧ p.canLay0 = true ∧ p.depth = dep d
  | .non, _ => ⟨_, rfl, rfl, rfl⟩
  | .int i, _ => ⟨_, rfl, rfl, rfl⟩
  | .str x, h => ⟨_, rfl, h, rfl⟩
  | .tup ds, h => by
    obtain ⟨ps, h1, h2, h3⟩ := nices_dat ds h
    exact ⟨.tuple ps, by rw [dat, h1]; rfl, h2, by rw [PyData.depth, dep, h3]⟩
  | .lst ds, h => by
    obtain ⟨ps, h1, h2, h3⟩ := nices_dat ds h
    exact ⟨.list ps, by rw [dat, h1]; rfl, h2, by rw [PyData.depth, dep, h3]⟩
theorem nices_dat : ∀ (ds : List D), nicesB ds = true → ∃ ps, dats ds = some ps ∧ PyData.canLayAll0 ps = true ∧ PyData.depthAll ps = deps ds
  | [], _ => ⟨[], rfl, rfl, rfl⟩
  | d :: ds, h => by
    rw [nicesB, Bool.and_eq_true] at h
    obtain ⟨p, h1, h2, h3⟩ := nice_dat d h.1
    obtain ⟨ps, h4, h5, h6⟩ := nices_dat ds h.2
    exact ⟨p :: ps, by rw [dats, h1, h4], by rw [PyData.canLayAll0, h2, h5]; rfl, by rw [PyData.depthAll, deps, h3, h6]⟩
end
mutual
theorem nice_eqv : ∀ (d e : D), niceB d = true → niceB e = true → ∀ p q, dat d = some p → dat e = some q → (PyData.eqv p q = true ↔ d = e)
  | .non, e, _, he, p, q, hp, hq => by
    cases hp
    cases e with
    | non => cases hq; exact ⟨fun _ => rfl, fun _ => rfl⟩
    | int i => cases hq; exact ⟨fun h => by simp [PyData.eqv] at h, fun h => by cases h⟩
    | str i => cases hq; exact ⟨fun h => by simp [PyData.eqv] at h, fun h => by cases h⟩
    | tup ds => obtain ⟨ps, h1, _⟩ := nices_dat ds he; rw [dat, h1] at hq; cases hq; exact ⟨fun h => by simp [PyData.eqv] at h, fun h => by cases h⟩
    | lst ds => obtain ⟨ps, h1, _⟩ := nices_dat ds he; rw [dat, h1] at hq; cases hq; exact ⟨fun h => by simp [PyData.eqv] at h, fun h => by cases h⟩
    | _ => cases he
  | .int i, e, _, he, p, q, hp, hq => by
    cases hp
    cases e with
    | non => cases hq; exact ⟨fun h => by simp [PyData.eqv] at h, fun h => by cases h⟩
    | int j => cases hq; simp [PyData.eqv]
    | str i => cases hq; exact ⟨fun h => by simp [PyData.eqv] at h, fun h => by cases h⟩
    | tup ds => obtain ⟨ps, h1, _⟩ := nices_dat ds he; rw [dat, h1] at hq; cases hq; exact ⟨fun h => by simp [PyData.eqv] at h, fun h => by cases h⟩
    | lst ds => obtain ⟨ps, h1, _⟩ := nices_dat ds he; rw [dat, h1] at hq; cases hq; exact ⟨fun h => by simp [PyData.eqv] at h, fun h => by cases h⟩
    | _ => cases he
  | .str i, e, _, he, p, q, hp, hq => by
    cases hp
    cases e with
    | non => cases hq; exact ⟨fun h => by simp [PyData.eqv] at h, fun h => by cases h⟩
    | int j => cases hq; exact ⟨fun h => by simp [PyData.eqv] at h, fun h => by cases h⟩
    | str i => cases hq; simp [PyData.eqv]
    | tup ds => obtain ⟨ps, h1, _⟩ := nices_dat ds he; rw [dat, h1] at hq; cases hq; exact ⟨fun h => by simp [PyData.eqv] at h, fun h => by cases h⟩
    | lst ds => obtain ⟨ps, h1, _⟩ := nices_dat ds he; rw [dat, h1] at hq; cases hq; exact ⟨fun h => by simp [PyData.eqv] at h, fun h => by cases h⟩
    | _ => cases he
  | .tup ds, e, hd, he, p, q, hp, hq => by
    obtain ⟨ps, h1, _⟩ := nices_dat ds hd
    rw [dat, h1] at hp
    cases hp
    cases e with
    | non => cases hq; exact ⟨fun h => by simp [PyData.eqv] at h, fun h => by cases h⟩
    | int j => cases hq; exact ⟨fun h => by simp [PyData.eqv] at h, fun h => by cases h⟩
    | str i => cases hq; exact ⟨fun h => by simp [PyData.eqv] at h, fun h => by cases h⟩
    | tup es =>
      obtain ⟨qs, h2, _⟩ := nices_dat es he
      rw [dat, h2] at hq
      cases hq
      have := nices_eqv ds es hd he ps qs h1 h2
      rw [PyData.eqv, this, D.tup.injEq]
    | lst es => obtain ⟨qs, h2, _⟩ := nices_dat es he; rw [dat, h2] at hq; cases hq; exact ⟨fun h => by simp [PyData.eqv] at h, fun h => by cases h⟩
    | _ => cases he
  | .lst ds, e, hd, he, p, q, hp, hq => by
    obtain ⟨ps, h1, _⟩ := nices_dat ds hd
    rw [dat, h1] at hp
    cases hp
    cases e with
    | non => cases hq; exact ⟨fun h => by simp [PyData.eqv] at h, fun h => by cases h⟩
    | int j => cases hq; exact ⟨fun h => by simp [PyData.eqv] at h, fun h => by cases h⟩
    | str i => cases hq; exact ⟨fun h => by simp [PyData.eqv] at h, fun h => by cases h⟩
    | tup es => obtain ⟨qs, h2, _⟩ := nices_dat es he; rw [dat, h2] at hq; cases hq; exact ⟨fun h => by simp [PyData.eqv] at h, fun h => by cases h⟩
    | lst es =>
      obtain ⟨qs, h2, _⟩ := nices_dat es he
      rw [dat, h2] at hq
      cases hq
      have := nices_eqv ds es hd he ps qs h1 h2
      rw [PyData.eqv, this, D.lst.injEq]
    | _ => cases he
theorem nices_eqv : ∀ (ds es : List D), nicesB ds = true → nicesB es = true → ∀ ps qs, dats ds = some ps → dats es = some qs → (PyData.eqvAll ps qs = true ↔ ds = es)
  | [], es, _, he, ps, qs, hp, hq => by
    cases hp
    cases es with
    | nil => cases hq; exact ⟨fun _ => rfl, fun _ => rfl⟩
    | cons e es =>
      rw [nicesB, Bool.and_eq_true] at he
      obtain ⟨p, h1, _⟩ := nice_dat e he.1
      obtain ⟨qs', h2, _⟩ := nices_dat es he.2
      rw [dats, h1, h2] at hq
      cases hq
      exact ⟨fun h => by simp [PyData.eqvAll] at h, fun h => by cases h⟩
  | d :: ds, es, hd, he, ps, qs, hp, hq => by
    rw [nicesB, Bool.and_eq_true] at hd
    obtain ⟨p, h1, _⟩ := nice_dat d hd.1
    obtain ⟨ps', h2, _⟩ := nices_dat ds hd.2
    rw [dats, h1, h2] at hp
    cases hp
    cases es with
    | nil => cases hq; exact ⟨fun h => by simp [PyData.eqvAll] at h, fun h => by cases h⟩
    | cons e es =>
      rw [nicesB, Bool.and_eq_true] at he
      obtain ⟨q, h3, _⟩ := nice_dat e he.1
      obtain ⟨qs', h4, _⟩ := nices_dat es he.2
      rw [dats, h3, h4] at hq
      cases hq
      rw [PyData.eqvAll, Bool.and_eq_true, nice_eqv d e hd.1 he.1 p q h1 h3, nices_eqv ds es hd.2 he.2 ps' qs' h2 h4, List.cons.injEq]
end
/-- data of few levels without truth values -/
def Nice (d : D) : Prop := niceB d = true ∧ dep d ≤ 60
def Nices (ds : List D) : Prop := nicesB ds = true ∧ deps ds ≤ 60
theorem nices_mem : ∀ {ds : List D}, Nices ds → ∀ d ∈ ds, Nice d
  | e :: ds, h, d, m => by
    obtain ⟨h1, h2⟩ := h
    rw [nicesB, Bool.and_eq_true] at h1
    rw [deps] at h2
    rcases List.mem_cons.mp m with rfl | m
    · exact ⟨h1.1, by omega⟩
    · exact nices_mem ⟨h1.2, by omega⟩ d m
theorem nices_of : ∀ {ds : List D}, (∀ d ∈ ds, Nice d) → Nices ds
  | [], _ => ⟨rfl, Nat.zero_le _⟩
  | e :: ds, h => by
    obtain ⟨h1, h2⟩ := h e List.mem_cons_self
    obtain ⟨h3, h4⟩ := nices_of fun d m => h d (List.mem_cons_of_mem _ m)
    exact ⟨by rw [nicesB, h1, h3]; rfl, by rw [deps]; omega⟩
theorem nice_shaped {d : D} (h : Nice d) : ∃ p, dat d = some p ∧ SeqAt.shaped p = true := by
  obtain ⟨p, h1, h2, h3⟩ := nice_dat d h.1
  exact ⟨p, h1, by unfold SeqAt.shaped; rw [h2, h3]; have := h.2; simp; omega⟩
theorem nices_shaped {ds : List D} (h : Nices ds) : ∃ ps, dats ds = some ps ∧ SeqAt.shaped (.list ps) = true := by
  obtain ⟨p, h1, h2, h3⟩ := nices_dat ds h.1
  exact ⟨p, h1, by unfold SeqAt.shaped; rw [PyData.canLay0, PyData.depth, h2, h3]; have := h.2; simp; omega⟩
open Classical in
theorem eqD_nice {d e : D} (hd : Nice d) (he : Nice e) : eqD d e = .ok (decide (d = e)) := by
  obtain ⟨p, h1, h2⟩ := nice_shaped hd
  obtain ⟨q, h3, h4⟩ := nice_shaped he
  unfold eqD
  rw [h1, h3]
  simp only [h2, h4, Bool.and_self, if_true]
  have := nice_eqv d e hd.1 he.1 p q h1 h3
  congr 1
  by_cases z : d = e
  · rw [this.mpr z, decide_eq_true z]
  · rw [decide_eq_false z]
    cases q2 : PyData.eqv p q with
    | true => exact absurd (this.mp q2) z
    | false => rfl
open Classical in
theorem any_nice {x : D} {p : PyData} (hx : niceB x = true) (hp : dat x = some p) : ∀ {ds : List D} {ps : List PyData}, nicesB ds = true → dats ds = some ps → (ps.any fun z => PyData.eqv z p) = decide (x ∈ ds)
  | [], ps, _, h => by cases h; simp
  | d :: ds, ps, hd, h => by
    rw [nicesB, Bool.and_eq_true] at hd
    obtain ⟨q, h1, _⟩ := nice_dat d hd.1
    obtain ⟨qs, h2, _⟩ := nices_dat ds hd.2
    rw [dats, h1, h2] at h
    cases h
    rw [List.any_cons, any_nice hx hp hd.2 h2]
    have := nice_eqv d x hd.1 hx q p h1 hp
    rw [show PyData.eqv q p = decide (d = x) from by rw [Bool.eq_iff_iff, this, decide_eq_true_eq]]
    rw [Bool.eq_iff_iff]
    simp only [Bool.or_eq_true, decide_eq_true_eq, List.mem_cons]
    exact ⟨fun z => z.imp Eq.symm id, fun z => z.imp Eq.symm id⟩
open Classical in
theorem memD_nice {x : D} {ds : List D} (hx : Nice x) (hd : Nices ds) : memD x ds = .ok (decide (x ∈ ds)) := by
  obtain ⟨p, h1, h2⟩ := nice_shaped hx
  obtain ⟨q, h3, h4⟩ := nices_shaped hd
  unfold memD
  rw [h1, h3]
  simp only [h2, h4, Bool.and_self, if_true]
  rw [any_nice hx.1 h1 hd.1 h3]
end Dv

set_option linter.all false
set_option maxRecDepth 100000
set_option maxHeartbeats 1000000
/-! running the meaning of a text, step by step, by rewriting -/
namespace Dv
open PySem
variable {G : GEnv} {α α1 : AEnv} {a b c d k x e : CE} {as r : CL} {op o p : P2} {s t : SV} {i n : Nat}

def isV : CE → Bool
  | .var _ => true
  | _ => false
/-- an operand -/
def dO (G : GEnv) (a : CE) (α : AEnv) : Res (Option SV × AEnv) := opnd a (den G a α) α
def kO : Res (SV × AEnv) → Res (Option SV × AEnv) := Res.map fun p => (some p.1, p.2)
@[simp] theorem kO_ok : kO (.ok (s, α)) = .ok (some s, α) := Eq.trans rfl rfl
theorem dO_nv (h : isV a = false) : dO G a α = kO (den G a α) := by
  cases a <;> first | (cases h; done) | rfl
def kVa : Option SV → AEnv → Res (Option SV × AEnv)
  | some .un, _ => .fail
  | some _, α => .ok (none, α)
  | none, _ => .fail
@[simp] theorem dO_var : dO G (.var i) α = kVa α[i]? α := by
  unfold dO opnd kVa
  simp only []
  cases h : α[i]? with
  | none => simp only [h]
  | some s => cases s <;> simp only [h]
@[simp] theorem kV_v {y : D} : kVa (some (.v y)) α = .ok (none, α) := Eq.trans rfl rfl
@[simp] theorem kV_ol {y : List D} : kVa (some (.ol y)) α = .ok (none, α) := Eq.trans rfl rfl
@[simp] theorem kV_od {y z : List D} : kVa (some (.od y z)) α = .ok (none, α) := Eq.trans rfl rfl
@[simp] theorem kV_oi {f : Str} {y : List Str} {z : List D} : kVa (some (.oi f y z)) α = .ok (none, α) := Eq.trans rfl rfl
def kF : Option SV → Res SV
  | some .un => .fail
  | some s => .ok s
  | none => .fail
@[simp] theorem kF_v {y : D} : kF (some (.v y)) = .ok (.v y) := Eq.trans rfl rfl
@[simp] theorem kF_ol {y : List D} : kF (some (.ol y)) = .ok (.ol y) := Eq.trans rfl rfl
@[simp] theorem kF_od {y z : List D} : kF (some (.od y z)) = .ok (.od y z) := Eq.trans rfl rfl
@[simp] theorem kF_oi {f : Str} {y : List Str} {z : List D} : kF (some (.oi f y z)) = .ok (.oi f y z) := Eq.trans rfl rfl
@[simp] theorem fin_varE {o : Option SV} : fin (.var i) o α = kF α[i]? := by
  unfold fin kF
  simp only [] <;> (cases h : α[i]? with
    | none => simp only [h]
    | some s => cases s <;> simp only [h])
theorem fin_some : fin a (some s) α = (match isV a with | true => fin a (some s) α | false => .ok s) := by cases a <;> rfl
def rdK : Option SV → AEnv → Nat → Res (SV × AEnv)
  | some (.v d), α, _ => .ok (.v d, α)
  | some .un, _, _ => .fail
  | some s, α, i => .ok (.v s.d, α.set i (.v s.d))
  | none, _, _ => .fail
@[simp] theorem den_var : den G (.var i) α = rdK α[i]? α i := by
  rw [den]
  unfold rd rdK
  cases h : α[i]? with
  | none => simp only [h]
  | some s => cases s <;> simp only [h]
@[simp] theorem rdK_v {y : D} : rdK (some (.v y)) α i = .ok (.v y, α) := rfl
@[simp] theorem rdK_ol {y : List D} : rdK (some (.ol y)) α i = .ok (.v (.lst y), α.set i (.v (.lst y))) := rfl
@[simp] theorem rdK_od {y z : List D} : rdK (some (.od y z)) α i = .ok (.v (.dct y z), α.set i (.v (.dct y z))) := rfl
@[simp] theorem rdK_oi {f : Str} {y : List Str} {z : List D} : rdK (some (.oi f y z)) α i = .ok (.v (.obj f y z), α.set i (.v (.obj f y z))) := rfl
@[simp] theorem den_lit {y : D} : den G (.lit y) α = .ok (.v y, α) := by rw [den]
def kCon : Option (Str × D) → AEnv → Res (SV × AEnv)
  | some (_, d), α => .ok (.v d, α)
  | none, _ => .fail
@[simp] theorem den_con : den G (.con i) α = kCon (G.con i) α := by
  rw [den]
  unfold kCon
  cases h : G.con i with
  | none => simp only [h]
  | some q => obtain ⟨_, _⟩ := q; simp only [h]
@[simp] theorem kCon_ok {f : Str} {y : D} : kCon (some (f, y)) α = .ok (.v y, α) := Eq.trans rfl rfl
/-- the end of an operation -/
def kE (α : AEnv) : Res SV → Res (SV × AEnv) := Res.map fun s => (s, α)
@[simp] theorem kE_ok : kE α (.ok s) = .ok (s, α) := Eq.trans rfl rfl
-- one operand
def kP1b (G : GEnv) (op : P1) (α : AEnv) : Res SV → Res (SV × AEnv)
  | .ok x => kE α (op1 G op x)
  | .exc c n v => .exc c n v
  | .fail => .fail
@[simp] theorem kP1b_ok {op : P1} : kP1b G op α (.ok s) = kE α (op1 G op s) := Eq.trans rfl rfl
def kP1 (G : GEnv) (op : P1) (a : CE) : Res (Option SV × AEnv) → Res (SV × AEnv)
  | .ok (o, α1) => kP1b G op α1 (fin a o α1)
  | .exc c n v => .exc c n v
  | .fail => .fail
@[simp] theorem kP1_ok {op : P1} {o : Option SV} : kP1 G op a (.ok (o, α)) = kP1b G op α (fin a o α) := Eq.trans rfl rfl
theorem res_map {β γ : Type} {f : β → γ} (x : Res β) : (x >>= fun y => Res.ok (f y)) = x.map f := by cases x <;> rfl
@[simp] theorem den_p1 {op : P1} : den G (.p1 op a) α = kP1 G op a (dO G a α) := by
  rw [den]
  show (dO G a α >>= _) = _
  cases h : dO G a α with
  | ok q =>
    obtain ⟨o, α1⟩ := q
    simp only [Res.ok_bind, kP1_ok]
    cases h2 : fin a o α1 with
    | ok x => simp only [Res.ok_bind, kP1b_ok]; exact res_map _
    | exc => rfl
    | fail => rfl
  | exc => rfl
  | fail => rfl
-- two
def kP2d (G : GEnv) (op : P2) (α : AEnv) (x : SV) : Res SV → Res (SV × AEnv)
  | .ok y => kE α (op2 G op x y)
  | .exc c n v => .exc c n v
  | .fail => .fail
@[simp] theorem kP2d_ok {y : SV} : kP2d G op α s (.ok y) = kE α (op2 G op s y) := Eq.trans rfl rfl
def kP2c (G : GEnv) (op : P2) (b : CE) (ob : Option SV) (α : AEnv) : Res SV → Res (SV × AEnv)
  | .ok x => kP2d G op α x (fin b ob α)
  | .exc c n v => .exc c n v
  | .fail => .fail
@[simp] theorem kP2c_ok {ob : Option SV} : kP2c G op b ob α (.ok s) = kP2d G op α s (fin b ob α) := Eq.trans rfl rfl
def kP2b (G : GEnv) (op : P2) (a b : CE) (oa : Option SV) : Res (Option SV × AEnv) → Res (SV × AEnv)
  | .ok (ob, α) => kP2c G op b ob α (fin a oa α)
  | .exc c n v => .exc c n v
  | .fail => .fail
@[simp] theorem kP2b_ok {oa ob : Option SV} : kP2b G op a b oa (.ok (ob, α)) = kP2c G op b ob α (fin a oa α) := Eq.trans rfl rfl
def kP2 (G : GEnv) (op : P2) (a b : CE) : Res (Option SV × AEnv) → Res (SV × AEnv)
  | .ok (oa, α) => kP2b G op a b oa (dO G b α)
  | .exc c n v => .exc c n v
  | .fail => .fail
@[simp] theorem kP2_ok {oa : Option SV} : kP2 G op a b (.ok (oa, α)) = kP2b G op a b oa (dO G b α) := Eq.trans rfl rfl
@[simp] theorem den_p2 : den G (.p2 op a b) α = kP2 G op a b (dO G a α) := by
  rw [den]
  show (dO G a α >>= _) = _
  cases h : dO G a α with
  | ok q =>
    obtain ⟨oa, α1⟩ := q
    simp only [Res.ok_bind, kP2_ok]
    show (dO G b α1 >>= _) = _
    cases h1 : dO G b α1 with
    | ok q =>
      obtain ⟨ob, α2⟩ := q
      simp only [Res.ok_bind, kP2b_ok]
      cases h2 : fin a oa α2 with
      | ok x =>
        simp only [Res.ok_bind, kP2c_ok]
        cases h3 : fin b ob α2 with
        | ok y => simp only [Res.ok_bind, kP2d_ok]; exact res_map _
        | exc => rfl
        | fail => rfl
      | exc => rfl
      | fail => rfl
    | exc => rfl
    | fail => rfl
  | exc => rfl
  | fail => rfl

/-- split the meaning of a block of steps -/
theorem bnd {β γ : Type} {x : Res β} {f : β → Res γ} {g : Res β → Res γ} (h : ∀ y, f y = g (.ok y)) (h1 : ∀ c n v, g (.exc c n v) = .exc c n v) (h2 : g .fail = .fail) : (x >>= f) = g x := by
  cases x with
  | ok y => exact h y
  | exc c n v => exact (h1 c n v).symm
  | fail => exact h2.symm
/-- what is done with a result: an error passes -/
def kk {β γ : Type} (f : β → Res γ) : Res β → Res γ
  | .ok y => f y
  | .exc c n v => .exc c n v
  | .fail => .fail
theorem kk_eq {β γ : Type} {x : Res β} {f : β → Res γ} : (x >>= f) = kk f x := by cases x <;> rfl
-- get3
def kG3d (x : SV) (ds : Res SV) (k : SV) (α : AEnv) : Res (SV × AEnv) := kk (fun y => kE α (getD3 y k x)) ds
@[simp] theorem kG3d_ok {y : SV} : kG3d s (.ok y) t α = kE α (getD3 y t s) := Eq.trans rfl rfl
def kG3c (d : CE) (od : Option SV) (k : SV) : Res (SV × AEnv) → Res (SV × AEnv) := kk fun q => kG3d q.1 (fin d od q.2) k q.2
@[simp] theorem kG3c_ok {o : Option SV} : kG3c d o t (.ok (s, α)) = kG3d s (fin d o α) t α := Eq.trans rfl rfl
def kG3b (G : GEnv) (d x : CE) (od : Option SV) : Res (SV × AEnv) → Res (SV × AEnv) := kk fun q => kG3c d od q.1 (den G x q.2)
@[simp] theorem kG3b_ok {o : Option SV} : kG3b G d x o (.ok (s, α)) = kG3c d o s (den G x α) := Eq.trans rfl rfl
def kG3a (G : GEnv) (d k x : CE) (od : Option SV) (α : AEnv) : Res SV → Res (SV × AEnv) := kk fun y => match y.dct? with
  | some _ => kG3b G d x od (den G k α)
  | none => .fail
@[simp] theorem kG3a_ok {o : Option SV} {y : SV} : kG3a G d k x o α (.ok y) = match y.dct? with
  | some _ => kG3b G d x o (den G k α)
  | none => .fail := rfl
def kG3 (G : GEnv) (d k x : CE) : Res (Option SV × AEnv) → Res (SV × AEnv) := kk fun q => kG3a G d k x q.1 q.2 (fin d q.1 q.2)
@[simp] theorem kG3_ok {o : Option SV} : kG3 G d k x (.ok (o, α)) = kG3a G d k x o α (fin d o α) := Eq.trans rfl rfl
@[simp] theorem den_get3 : den G (.get3 d k x) α = kG3 G d k x (dO G d α) := by
  rw [den]
  show (dO G d α >>= _) = _
  rw [kk_eq]
  unfold kG3
  congr 1
  funext ⟨o, α1⟩
  simp only [kk_eq]
  unfold kG3a
  cases fin d o α1 with
  | exc => rfl
  | fail => rfl
  | ok y =>
    simp only [kk]
    cases y.dct? with
    | none => rfl
    | some z =>
      simp only []
      unfold kG3b
      congr 1
-- x.m(y) of lists and tuples
def kM2d (G : GEnv) (op : P2) (x0 y : SV) (α : AEnv) : Res SV → Res (SV × AEnv) := kk fun x => if (decide (seqKind x0 = seqKind x) && (seqKind x0).isSome) = true then kE α (op2 G op x y) else .fail
@[simp] theorem kM2d_ok {y z : SV} : kM2d G op z y α (.ok s) = if (decide (seqKind z = seqKind s) && (seqKind z).isSome) = true then kE α (op2 G op s y) else .fail := Eq.trans rfl rfl
def kM2c (G : GEnv) (op : P2) (a : CE) (oa : Option SV) (x0 : SV) : Res (SV × AEnv) → Res (SV × AEnv) := kk fun q => kM2d G op x0 q.1 q.2 (fin a oa q.2)
@[simp] theorem kM2c_ok {o : Option SV} {z : SV} : kM2c G op a o z (.ok (s, α)) = kM2d G op z s α (fin a o α) := Eq.trans rfl rfl
def kM2b (G : GEnv) (op : P2) (a b : CE) (oa : Option SV) (α : AEnv) : Res SV → Res (SV × AEnv) := kk fun x0 => kM2c G op a oa x0 (den G b α)
@[simp] theorem kM2b_ok {o : Option SV} : kM2b G op a b o α (.ok s) = kM2c G op a o s (den G b α) := Eq.trans rfl rfl
def kM2 (G : GEnv) (op : P2) (a b : CE) : Res (Option SV × AEnv) → Res (SV × AEnv) := kk fun q => kM2b G op a b q.1 q.2 (fin a q.1 q.2)
@[simp] theorem kM2_ok {o : Option SV} : kM2 G op a b (.ok (o, α)) = kM2b G op a b o α (fin a o α) := Eq.trans rfl rfl
@[simp] theorem den_mt2 : den G (.mt2 op a b) α = kM2 G op a b (dO G a α) := by
  rw [den]
  show (dO G a α >>= _) = _
  rw [kk_eq]
  unfold kM2
  congr 1
-- slices
def kSld (ra rb : Option SV) (α : AEnv) : Res SV → Res (SV × AEnv) := kk fun x => kE α (sliceD x ra rb)
@[simp] theorem kSld_ok {u v : Option SV} : kSld u v α (.ok s) = kE α (sliceD s u v) := Eq.trans rfl rfl
def kSlc (a : CE) (oa : Option SV) (rl : Option SV) : Res (Option SV × AEnv) → Res (SV × AEnv) := kk fun q => kSld rl q.1 q.2 (fin a oa q.2)
@[simp] theorem kSlc_ok {o u v : Option SV} : kSlc a o u (.ok (v, α)) = kSld u v α (fin a o α) := Eq.trans rfl rfl
def kSlb (G : GEnv) (a : CE) (hi : CO) (oa : Option SV) : Res (Option SV × AEnv) → Res (SV × AEnv) := kk fun q => kSlc a oa q.1 (denO G hi q.2)
@[simp] theorem kSlb_ok {hi : CO} {o u : Option SV} : kSlb G a hi o (.ok (u, α)) = kSlc a o u (denO G hi α) := Eq.trans rfl rfl
def kSl (G : GEnv) (a : CE) (lo hi : CO) : Res (Option SV × AEnv) → Res (SV × AEnv) := kk fun q => kSlb G a hi q.1 (denO G lo q.2)
@[simp] theorem kSl_ok {lo hi : CO} {o : Option SV} : kSl G a lo hi (.ok (o, α)) = kSlb G a hi o (denO G lo α) := Eq.trans rfl rfl
@[simp] theorem den_slice {lo hi : CO} : den G (.slice a lo hi) α = kSl G a lo hi (dO G a α) := by
  rw [den]
  show (dO G a α >>= _) = _
  rw [kk_eq]
  unfold kSl
  congr 1
def kOs : Res (SV × AEnv) → Res (Option SV × AEnv) := kk fun q => .ok (some q.1, q.2)
@[simp] theorem kOs_ok : kOs (.ok (s, α)) = .ok (some s, α) := Eq.trans rfl rfl
@[simp] theorem denO_none : denO G .none α = .ok (none, α) := by rw [denO]
@[simp] theorem denO_some : denO G (.some e) α = kOs (den G e α) := by
  rw [denO, kk_eq]
  rfl
-- reversed, list of a range
def kRev (α : AEnv) : Res SV → Res (SV × AEnv) := kk fun x => kE α (revD x)
@[simp] theorem kRev_ok : kRev α (.ok s) = kE α (revD s) := Eq.trans rfl rfl
def kRv (a : CE) : Res (Option SV × AEnv) → Res (SV × AEnv) := kk fun q => kRev q.2 (fin a q.1 q.2)
@[simp] theorem kRv_ok {o : Option SV} : kRv a (.ok (o, α)) = kRev α (fin a o α) := Eq.trans rfl rfl
@[simp] theorem den_rev : den G (.rev a) α = kRv a (dO G a α) := by
  rw [den]
  show (dO G a α >>= _) = _
  rw [kk_eq]
  unfold kRv
  congr 1
def kLr : Res (SV × AEnv) → Res (SV × AEnv) := kk fun q => match q.1 with
  | .v (.int n) => if 0 ≤ n ∧ n ≤ 16777216 then .ok (.ol (rngD 0 n.toNat), q.2) else .fail
  | _ => .fail
@[simp] theorem kLr_ok {n : Int} : kLr (.ok (.v (.int n), α)) = if 0 ≤ n ∧ n ≤ 16777216 then .ok (.ol (rngD 0 n.toNat), α) else .fail := Eq.trans rfl rfl
@[simp] theorem den_lrng : den G (.lrng a) α = kLr (den G a α) := by
  rw [den, kk_eq]
  rfl
-- and, or, chains
def kAnd (G : GEnv) (b : CE) : Res (SV × AEnv) → Res (SV × AEnv) := kk fun q => andK (den G b) q.1 q.2
@[simp] theorem kAnd_ok {t : Bool} : kAnd G b (.ok (.v (.bl t), α)) = if t = true then den G b α else .ok (.v (.bl false), α) := by cases t <;> rfl
@[simp] theorem den_and : den G (.and a b) α = kAnd G b (den G a α) := by
  rw [den, kk_eq]
  rfl
def kOr (G : GEnv) (b : CE) : Res (SV × AEnv) → Res (SV × AEnv) := kk fun q => orK (den G b) q.1 q.2
@[simp] theorem kOr_ok {t : Bool} : kOr G b (.ok (.v (.bl t), α)) = if t = true then .ok (.v (.bl true), α) else den G b α := by cases t <;> rfl
@[simp] theorem den_or : den G (.or a b) α = kOr G b (den G a α) := by
  rw [den, kk_eq]
  rfl
def kC3 (G : GEnv) (p : P2) (y : SV) : Res (SV × AEnv) → Res (SV × AEnv) := kk fun q => kE q.2 (op2 G p y q.1)
@[simp] theorem kC3_ok {y : SV} : kC3 G p y (.ok (s, α)) = kE α (op2 G p y s) := Eq.trans rfl rfl
def kC2b (G : GEnv) (p : P2) (c : CE) (y : SV) (α : AEnv) : Res SV → Res (SV × AEnv) := kk fun r => match r with
  | .v (.bl true) => kC3 G p y (den G c α)
  | .v (.bl false) => .ok (.v (.bl false), α)
  | _ => .fail
@[simp] theorem kC2b_ok {y : SV} {t : Bool} : kC2b G p c y α (.ok (.v (.bl t))) = if t = true then kC3 G p y (den G c α) else .ok (.v (.bl false), α) := by cases t <;> rfl
def kC2 (G : GEnv) (o p : P2) (c : CE) (x : SV) : Res (SV × AEnv) → Res (SV × AEnv) := kk fun q => kC2b G p c q.1 q.2 (op2 G o x q.1)
@[simp] theorem kC2_ok {y : SV} : kC2 G o p c y (.ok (s, α)) = kC2b G p c s α (op2 G o y s) := Eq.trans rfl rfl
def kC1 (G : GEnv) (o p : P2) (b c : CE) : Res (SV × AEnv) → Res (SV × AEnv) := kk fun q => kC2 G o p c q.1 (den G b q.2)
@[simp] theorem kC1_ok : kC1 G o p b c (.ok (s, α)) = kC2 G o p c s (den G b α) := Eq.trans rfl rfl
@[simp] theorem den_chain : den G (.chain o p a b c) α = kC1 G o p b c (den G a α) := by
  rw [den, kk_eq]
  unfold kC1
  congr 1
-- displays
def kTup : Res (List SV × AEnv) → Res (SV × AEnv) := kk fun q => kE q.2 (ckTup (q.1.map SV.d))
@[simp] theorem kTup_ok {l : List SV} : kTup (.ok (l, α)) = kE α (ckTup (l.map SV.d)) := Eq.trans rfl rfl
@[simp] theorem den_tup {l : CL} : den G (.tup l) α = kTup (denL G l α) := by
  rw [den, kk_eq]
  unfold kTup
  congr 1
def kLst : Res (List SV × AEnv) → Res (SV × AEnv) := kk fun q => kE q.2 (ckList (q.1.map SV.d))
@[simp] theorem kLst_ok {l : List SV} : kLst (.ok (l, α)) = kE α (ckList (l.map SV.d)) := Eq.trans rfl rfl
@[simp] theorem den_lst {l : CL} : den G (.lst l) α = kLst (denL G l α) := by
  rw [den, kk_eq]
  unfold kLst
  congr 1
def kDctb (α : AEnv) : Res (List D × List D) → Res (SV × AEnv) := kk fun r => .ok (.od r.1 r.2, α)
@[simp] theorem kDctb_ok {y z : List D} : kDctb α (.ok (y, z)) = .ok (.od y z, α) := Eq.trans rfl rfl
def kDct : Res ((List SV × List SV) × AEnv) → Res (SV × AEnv) := kk fun q => if (q.1.1.map SV.d).all flatKey = true then kDctb q.2 (mkDct (q.1.1.map SV.d) (q.1.2.map SV.d) ([], [])) else .fail
@[simp] theorem kDct_ok {y z : List SV} : kDct (.ok ((y, z), α)) = if (y.map SV.d).all flatKey = true then kDctb α (mkDct (y.map SV.d) (z.map SV.d) ([], [])) else .fail := Eq.trans rfl rfl
@[simp] theorem den_dct {l : CP} : den G (.dct l) α = kDct (denP G l α) := by
  rw [den, kk_eq]
  unfold kDct
  congr 1
def kL2 (x : SV) : Res (List SV × AEnv) → Res (List SV × AEnv) := kk fun q => .ok (x :: q.1, q.2)
@[simp] theorem kL2_ok {l : List SV} : kL2 s (.ok (l, α)) = .ok (s :: l, α) := Eq.trans rfl rfl
def kL (G : GEnv) (r : CL) : Res (SV × AEnv) → Res (List SV × AEnv) := kk fun q => kL2 q.1 (denL G r q.2)
@[simp] theorem kL_ok : kL G r (.ok (s, α)) = kL2 s (denL G r α) := Eq.trans rfl rfl
@[simp] theorem denL_nil : denL G .nil α = .ok ([], α) := by rw [denL]
@[simp] theorem denL_cons : denL G (.cons a r) α = kL G r (den G a α) := by
  rw [denL, kk_eq]
  unfold kL
  congr 1
def kP2p (x y : SV) : Res ((List SV × List SV) × AEnv) → Res ((List SV × List SV) × AEnv) := kk fun q => .ok ((x :: q.1.1, y :: q.1.2), q.2)
@[simp] theorem kP2p_ok {l m : List SV} : kP2p s t (.ok ((l, m), α)) = .ok ((s :: l, t :: m), α) := Eq.trans rfl rfl
def kPp (G : GEnv) (r : CP) (x : SV) : Res (SV × AEnv) → Res ((List SV × List SV) × AEnv) := kk fun q => kP2p x q.1 (denP G r q.2)
@[simp] theorem kPp_ok {r : CP} : kPp G r t (.ok (s, α)) = kP2p t s (denP G r α) := Eq.trans rfl rfl
def kPk (G : GEnv) (v : CE) (r : CP) : Res (SV × AEnv) → Res ((List SV × List SV) × AEnv) := kk fun q => kPp G r q.1 (den G v q.2)
@[simp] theorem kPk_ok {r : CP} : kPk G e r (.ok (s, α)) = kPp G r s (den G e α) := Eq.trans rfl rfl
@[simp] theorem denP_nil : denP G .nil α = .ok (([], []), α) := by rw [denP]
@[simp] theorem denP_cons {r : CP} : denP G (.cons k e r) α = kPk G e r (den G k α) := by
  rw [denP, kk_eq]
  unfold kPk
  congr 1
-- calls
def kA2 (x : Option SV) : Res (List (Option SV) × AEnv) → Res (List (Option SV) × AEnv) := kk fun q => .ok (x :: q.1, q.2)
@[simp] theorem kA2_ok {x : Option SV} {l : List (Option SV)} : kA2 x (.ok (l, α)) = .ok (x :: l, α) := Eq.trans rfl rfl
def kA (G : GEnv) (r : CL) : Res (Option SV × AEnv) → Res (List (Option SV) × AEnv) := kk fun q => kA2 q.1 (denA G r q.2)
@[simp] theorem kA_ok {x : Option SV} : kA G r (.ok (x, α)) = kA2 x (denA G r α) := Eq.trans rfl rfl
@[simp] theorem denA_nil : denA G .nil α = .ok ([], α) := by rw [denA]
@[simp] theorem denA_cons : denA G (.cons a r) α = kA G r (dO G a α) := by
  rw [denA]
  show (dO G a α >>= _) = _
  rw [kk_eq]
  unfold kA
  congr 1
def kFs2 (x : SV) : Res (List SV) → Res (List SV) := kk fun l => .ok (x :: l)
@[simp] theorem kFs2_ok {l : List SV} : kFs2 s (.ok l) = .ok (s :: l) := Eq.trans rfl rfl
def kFs (r : CL) (os : List (Option SV)) (α : AEnv) : Res SV → Res (List SV) := kk fun x => kFs2 x (fins r os α)
@[simp] theorem kFs_ok {os : List (Option SV)} : kFs r os α (.ok s) = kFs2 s (fins r os α) := Eq.trans rfl rfl
@[simp] theorem fins_nil {os : List (Option SV)} : fins .nil os α = .ok [] := by cases os <;> rfl
@[simp] theorem fins_cons {x : Option SV} {os : List (Option SV)} : fins (.cons a r) (x :: os) α = kFs r os α (fin a x α) := by
  rw [fins, kk_eq]
  unfold kFs
  congr 1
def kCc (as : CL) (α : AEnv) : Res SV → Res (SV × AEnv) := kk fun r => .ok (r, if imS r = true then α else frz as α)
@[simp] theorem kCc_ok : kCc as α (.ok s) = .ok (s, if imS s = true then α else frz as α) := Eq.trans rfl rfl
def kCb (as : CL) (n : Nat) (f : List D → Res SV) (α : AEnv) : Res (List SV) → Res (SV × AEnv) := kk fun rs => if rs.length = n then kCc as α (f (rs.map SV.d)) else .fail
@[simp] theorem kCb_ok {f : List D → Res SV} {rs : List SV} : kCb as n f α (.ok rs) = if rs.length = n then kCc as α (f (rs.map SV.d)) else .fail := Eq.trans rfl rfl
def kCa (as : CL) (n : Nat) (f : List D → Res SV) : Res (List (Option SV) × AEnv) → Res (SV × AEnv) := kk fun q => kCb as n f q.2 (fins as q.1 q.2)
@[simp] theorem kCa_ok {f : List D → Res SV} {os : List (Option SV)} : kCa as n f (.ok (os, α)) = kCb as n f α (fins as os α) := Eq.trans rfl rfl
def kCall (G : GEnv) (as : CL) (α : AEnv) : Option (Str × Nat × (List D → Res SV)) → Res (SV × AEnv)
  | some (_, n, f) => kCa as n f (denA G as α)
  | none => .fail
@[simp] theorem kCall_some {y : Str} {f : List D → Res SV} : kCall G as α (some (y, n, f)) = kCa as n f (denA G as α) := Eq.trans rfl rfl
@[simp] theorem den_call : den G (.call i as) α = kCall G as α (G.fn i) := by
  rw [den]
  cases h : G.fn i with
  | none => rfl
  | some q =>
    obtain ⟨y, n, f⟩ := q
    simp only [kk_eq]
    unfold kCall kCa
    congr 1
-- methods
def kMe (α : AEnv) : Res SV → Res (SV × AEnv) := kE α
@[simp] theorem kMe_ok : kMe α (.ok s) = .ok (s, α) := Eq.trans rfl rfl
def kMd (n : Nat) (f : List D → Res SV) (o : SV) : Res (List SV × AEnv) → Res (SV × AEnv) := kk fun q => if q.1.length + 1 = n then kMe q.2 (f (o.d :: q.1.map SV.d)) else .fail
@[simp] theorem kMd_ok {f : List D → Res SV} {rs : List SV} : kMd n f s (.ok (rs, α)) = if rs.length + 1 = n then kMe α (f (s.d :: rs.map SV.d)) else .fail := Eq.trans rfl rfl
def kMc (G : GEnv) (as : CL) (o : SV) (α : AEnv) : Option (Nat × (List D → Res SV)) → Option D → Res (SV × AEnv)
  | some (n, f), none => kMd n f o (denL G as α)
  | _, _ => .fail
@[simp] theorem kMc_some {f : List D → Res SV} : kMc G as s α (some (n, f)) none = kMd n f s (denL G as α) := Eq.trans rfl rfl
def kMb (G : GEnv) (m : Str) (as : CL) (o : SV) (α : AEnv) : Option (Str × List Str × List D) → Res (SV × AEnv)
  | some (c, ns, vs) => kMc G as o α (G.mth c m) (fieldAt ns vs m)
  | none => .fail
@[simp] theorem kMb_some {m c : Str} {ns : List Str} {vs : List D} : kMb G m as s α (some (c, ns, vs)) = kMc G as s α (G.mth c m) (fieldAt ns vs m) := Eq.trans rfl rfl
def kMth (G : GEnv) (m : Str) (as : CL) : Res (SV × AEnv) → Res (SV × AEnv) := kk fun q => kMb G m as q.1 q.2 q.1.obj?
@[simp] theorem kMth_ok {m : Str} : kMth G m as (.ok (s, α)) = kMb G m as s α s.obj? := Eq.trans rfl rfl
@[simp] theorem den_mth {m : Str} : den G (.mth e m as) α = kMth G m as (den G e α) := by
  rw [den, kk_eq]
  unfold kMth
  congr 1
def kPop (i : Nat) (α : AEnv) : Option SV → Res (SV × AEnv)
  | some (.ol ds) => match ds.getLast? with
    | some d => .ok (.v d, α.set i (.ol ds.dropLast))
    | none => .fail
  | _ => .fail
@[simp] theorem kPop_ol {ds : List D} : kPop i α (some (.ol ds)) = match ds.getLast? with
    | some d => .ok (.v d, α.set i (.ol ds.dropLast))
    | none => .fail := rfl
@[simp] theorem den_pop : den G (.pop i) α = kPop i α α[i]? := by
  rw [den]
  unfold kPop
  cases α[i]? with
  | none => rfl
  | some s => cases s <;> rfl
end Dv

set_option linter.all false
set_option maxRecDepth 100000
set_option maxHeartbeats 1000000
namespace Dv
open PySem
variable {G : GEnv} {α α1 : AEnv} {a b c d k x e : CE} {as : CL} {s t : SV} {i n : Nat}
-- tests
def kTb (α : AEnv) : Res Bool → Res (Bool × AEnv) := kk fun b => .ok (b, α)
@[simp] theorem kTb_ok {y : Bool} : kTb α (.ok y) = .ok (y, α) := Eq.trans rfl rfl
def kTa (α : AEnv) : Res SV → Res (Bool × AEnv) := kk fun x => kTb α (truthD x)
@[simp] theorem kTa_ok : kTa α (.ok s) = kTb α (truthD s) := Eq.trans rfl rfl
def kT (e : CE) : Res (Option SV × AEnv) → Res (Bool × AEnv) := kk fun q => kTa q.2 (fin e q.1 q.2)
@[simp] theorem kT_ok {o : Option SV} : kT e (.ok (o, α)) = kTa α (fin e o α) := Eq.trans rfl rfl
@[simp] theorem denT_none : denT G .none α = .ok (true, α) := by rw [denT]
@[simp] theorem denT_some : denT G (.some e) α = kT e (dO G e α) := by
  rw [denT]
  show (dO G e α >>= _) = _
  rw [kk_eq]
  unfold kT
  congr 1
-- what is walked
def kIs : Res (SV × AEnv) → Res (List D × AEnv) := kk fun q => match q.1.d with
  | .lst ds => .ok (ds, q.2)
  | .tup ds => .ok (ds, q.2)
  | .str x => .ok (x.cps.toList.map fun c => .str ⟨#[c]⟩, q.2)
  | _ => .fail
@[simp] theorem kIs_v {ds : List D} : kIs (.ok (.v (.lst ds), α)) = .ok (ds, α) := Eq.trans rfl rfl
@[simp] theorem kIs_ol {ds : List D} : kIs (.ok (.ol ds, α)) = .ok (ds, α) := Eq.trans rfl rfl
@[simp] theorem kIs_tup {ds : List D} : kIs (.ok (.v (.tup ds), α)) = .ok (ds, α) := Eq.trans rfl rfl
@[simp] theorem kIs_str {x : Str} : kIs (.ok (.v (.str x), α)) = .ok (x.cps.toList.map fun c => .str ⟨#[c]⟩, α) := Eq.trans rfl rfl
@[simp] theorem denI_seq : denI G (.seq e) α = kIs (den G e α) := by
  rw [denI, kk_eq]
  rfl
def kIr : Res (SV × AEnv) → Res (List D × AEnv) := kk fun q => match q.1 with
  | .v (.int j) => if small62 j = true then .ok (rngD 0 j.toNat, q.2) else .fail
  | _ => .fail
@[simp] theorem kIr_ok {j : Int} : kIr (.ok (.v (.int j), α)) = if small62 j = true then .ok (rngD 0 j.toNat, α) else .fail := Eq.trans rfl rfl
@[simp] theorem denI_rng : denI G (.rng e) α = kIr (den G e α) := by
  rw [denI, kk_eq]
  rfl
def kIr2b (x : SV) : Res (SV × AEnv) → Res (List D × AEnv) := kk fun q => match x, q.1 with
  | .v (.int i), .v (.int j) => if (small62 i && small62 j) = true then .ok (rngD i (j - i).toNat, q.2) else .fail
  | _, _ => .fail
@[simp] theorem kIr2b_ok {i j : Int} : kIr2b (.v (.int i)) (.ok (.v (.int j), α)) = if (small62 i && small62 j) = true then .ok (rngD i (j - i).toNat, α) else .fail := Eq.trans rfl rfl
def kIr2 (G : GEnv) (b : CE) : Res (SV × AEnv) → Res (List D × AEnv) := kk fun q => kIr2b q.1 (den G b q.2)
@[simp] theorem kIr2_ok : kIr2 G b (.ok (s, α)) = kIr2b s (den G b α) := Eq.trans rfl rfl
@[simp] theorem denI_rng2 : denI G (.rng2 a b) α = kIr2 G b (den G a α) := by
  rw [denI, kk_eq]
  unfold kIr2
  congr 1
-- list comprehensions
def lcE (G : GEnv) (elt : CE) : Res (Bool × AEnv) → Res (List D × AEnv) := kk fun q => if q.1 = true then (den G elt q.2).bind fun p => .ok ([p.1.d], p.2) else .ok ([], q.2)
def lcV : Res (SV × AEnv) → Res (List D × AEnv) := kk fun p => .ok ([p.1.d], p.2)
@[simp] theorem lcV_ok : lcV (.ok (s, α)) = .ok ([s.d], α) := rfl
@[simp] theorem lcE_ok {y : Bool} : lcE G e (.ok (y, α)) = if y = true then lcV (den G e α) else .ok ([], α) := rfl
def lcA (G : GEnv) (ifs : CO) (elt : CE) : Res AEnv → Res (List D × AEnv) := kk fun β => lcE G elt (denT G ifs β)
@[simp] theorem lcA_ok {ifs : CO} : lcA G ifs e (.ok α) = lcE G e (denT G ifs α) := rfl
/-- one turn -/
def lcT (G : GEnv) (t : Tgt) (ifs : CO) (elt : CE) (d : D) (β : AEnv) : Res (List D × AEnv) := lcA G ifs elt (asg t d β)
def kLcb (α : AEnv) (own : List Nat) : Res (List D × AEnv) → Res (SV × AEnv) := kk fun q => if okSize q.1.length = true then .ok (.ol q.1, backA q.2 own (stash α own)) else .fail
@[simp] theorem kLcb_ok {own : List Nat} {es : List D} {β : AEnv} : kLcb α own (.ok (es, β)) = if okSize es.length = true then .ok (.ol es, backA β own (stash α own)) else .fail := Eq.trans rfl rfl
def kLc (G : GEnv) (own : List Nat) (t : Tgt) (ifs : CO) (elt : CE) : Res (List D × AEnv) → Res (SV × AEnv) := kk fun q => kLcb q.2 own (lcGo (lcT G t ifs elt) own q.1 (wipeA q.2 own))
@[simp] theorem kLc_ok {own : List Nat} {t : Tgt} {ifs : CO} {ds : List D} : kLc G own t ifs e (.ok (ds, α)) = kLcb α own (lcGo (lcT G t ifs e) own ds (wipeA α own)) := Eq.trans rfl rfl
@[simp] theorem den_lc {own : List Nat} {t : Tgt} {it : CI} {ifs : CO} : den G (.lc own t it ifs e) α = kLc G own t ifs e (denI G it α) := by
  rw [den, kk_eq]
  unfold kLc
  congr 1
-- dict comprehensions
def dcV2 (x : SV) : Res (SV × AEnv) → Res ((D × D) × AEnv) := kk fun q => .ok ((x.d, q.1.d), q.2)
@[simp] theorem dcV2_ok {y : SV} : dcV2 y (.ok (s, α)) = .ok ((y.d, s.d), α) := rfl
def dcV (G : GEnv) (v : CE) : Res (SV × AEnv) → Res ((D × D) × AEnv) := kk fun q => dcV2 q.1 (den G v q.2)
@[simp] theorem dcV_ok : dcV G e (.ok (s, α)) = dcV2 s (den G e α) := rfl
def dcA (G : GEnv) (k v : CE) : Res AEnv → Res ((D × D) × AEnv) := kk fun β => dcV G v (den G k β)
@[simp] theorem dcA_ok : dcA G k e (.ok α) = dcV G e (den G k α) := rfl
def dcT (G : GEnv) (t : Tgt) (k v : CE) (d : D) (β : AEnv) : Res ((D × D) × AEnv) := dcA G k v (asg t d β)
def kDcb (α : AEnv) (own : List Nat) : Res ((List D × List D) × AEnv) → Res (SV × AEnv) := kk fun q => .ok (.od q.1.1 q.1.2, backA q.2 own (stash α own))
@[simp] theorem kDcb_ok {own : List Nat} {y z : List D} {β : AEnv} : kDcb α own (.ok ((y, z), β)) = .ok (.od y z, backA β own (stash α own)) := Eq.trans rfl rfl
def kDc (G : GEnv) (own : List Nat) (t : Tgt) (k v : CE) : Res (List D × AEnv) → Res (SV × AEnv) := kk fun q => kDcb q.2 own (dcGo (dcT G t k v) own q.1 (wipeA q.2 own) ([], []))
@[simp] theorem kDc_ok {own : List Nat} {t : Tgt} {ds : List D} : kDc G own t k e (.ok (ds, α)) = kDcb α own (dcGo (dcT G t k e) own ds (wipeA α own) ([], [])) := Eq.trans rfl rfl
@[simp] theorem den_dc {own : List Nat} {t : Tgt} {it : CI} : den G (.dc own t it k e) α = kDc G own t k e (denI G it α) := by
  rw [den, kk_eq]
  unfold kDc
  congr 1
-- len of a set comprehension
def scA (G : GEnv) (elt : CE) : Res AEnv → Res (List D × AEnv) := kk fun β => lcV (den G elt β)
@[simp] theorem scA_ok : scA G e (.ok α) = lcV (den G e α) := rfl
def scT (G : GEnv) (t : Tgt) (elt : CE) (d : D) (β : AEnv) : Res (List D × AEnv) := scA G elt (asg t d β)
def kScb (α : AEnv) (own : List Nat) : Res (List D × AEnv) → Res (SV × AEnv) := kk fun q => if (q.1.all flatKey && decide (q.1.length < 4095)) = true then .ok (.v (.int ((setOfD q.1).length : Int)), backA q.2 own (stash α own)) else .fail
@[simp] theorem kScb_ok {own : List Nat} {es : List D} {β : AEnv} : kScb α own (.ok (es, β)) = if (es.all flatKey && decide (es.length < 4095)) = true then .ok (.v (.int ((setOfD es).length : Int)), backA β own (stash α own)) else .fail := Eq.trans rfl rfl
def kSc (G : GEnv) (own : List Nat) (t : Tgt) (elt : CE) : Res (List D × AEnv) → Res (SV × AEnv) := kk fun q => kScb q.2 own (lcGo (scT G t elt) own q.1 (wipeA q.2 own))
@[simp] theorem kSc_ok {own : List Nat} {t : Tgt} {ds : List D} : kSc G own t e (.ok (ds, α)) = kScb α own (lcGo (scT G t e) own ds (wipeA α own)) := Eq.trans rfl rfl
@[simp] theorem den_sc {own : List Nat} {t : Tgt} {it : CI} : den G (.sc own t it e) α = kSc G own t e (denI G it α) := by
  rw [den, kk_eq]
  unfold kSc
  congr 1
/-! ### statements -/
variable {r : List CS} {cs : CS} {ca cb cr : CB}
noncomputable def kB (G : GEnv) (r : CB) : Res Fl → Res Fl := kk fun f => match f with
  | .nx α => denB G r α
  | f => .ok f
@[simp] theorem kB_nx : kB G cr (.ok (.nx α)) = denB G cr α := Eq.trans rfl rfl
@[simp] theorem kB_rt : kB G cr (.ok (.rt s)) = .ok (.rt s) := Eq.trans rfl rfl
@[simp] theorem kB_bk : kB G cr (.ok (.bk α)) = .ok (.bk α) := Eq.trans rfl rfl
@[simp] theorem kB_ct : kB G cr (.ok (.ct α)) = .ok (.ct α) := Eq.trans rfl rfl
@[simp] theorem denB_nil : denB G .nil α = .ok (.nx α) := by rw [denB]
@[simp] theorem denB_bk0 : denB G (bk []) α = .ok (.nx α) := by rw [bk, denB]
@[simp] theorem denB_bk : denB G (bk (cs :: r)) α = kB G (bk r) (denS G cs α) := by
  rw [bk, denB, kk_eq]
  unfold kB
  congr 1
def kSet (i : Nat) : Res (SV × AEnv) → Res Fl := kk fun q => if i < q.2.length then .ok (.nx (q.2.set i q.1)) else .fail
@[simp] theorem kSet_ok : kSet i (.ok (s, α)) = if i < α.length then .ok (.nx (α.set i s)) else .fail := Eq.trans rfl rfl
@[simp] theorem denS_set : denS G (.set i e) α = kSet i (den G e α) := by
  rw [denS, kk_eq]
  rfl
def kNx : Res AEnv → Res Fl := kk fun α => .ok (.nx α)
@[simp] theorem kNx_ok : kNx (.ok α) = .ok (.nx α) := Eq.trans rfl rfl
def kTs (is : List Nat) : Res (SV × AEnv) → Res Fl := kk fun q => kNx (asg (.tp is) q.1.d q.2)
@[simp] theorem kTs_ok {is : List Nat} : kTs is (.ok (s, α)) = kNx (asg (.tp is) s.d α) := Eq.trans rfl rfl
@[simp] theorem denS_tset {is : List Nat} : denS G (.tset is e) α = kTs is (den G e α) := by
  rw [denS, kk_eq]
  unfold kTs
  congr 1
def kAg2 (i : Nat) (op : P2) (r : SV) (α : AEnv) : Res SV → Res Fl := kk fun x => match x, r with
  | .v (.int a), .v (.int b) => match augI op a b with
    | some c => .ok (.nx (α.set i (.v (.int c))))
    | none => .fail
  | _, _ => .fail
@[simp] theorem kAg2_ok {op : P2} {y z : Int} : kAg2 i op (.v (.int z)) α (.ok (.v (.int y))) = match augI op y z with
    | some c => .ok (.nx (α.set i (.v (.int c))))
    | none => .fail := rfl
def kAg1 (i : Nat) (op : P2) : Res (SV × AEnv) → Res Fl := kk fun q => kAg2 i op q.1 q.2 (fin (.var i) none q.2)
@[simp] theorem kAg1_ok {op : P2} : kAg1 i op (.ok (s, α)) = kAg2 i op s α (fin (.var i) none α) := Eq.trans rfl rfl
def kAg (G : GEnv) (i : Nat) (op : P2) (e : CE) (α : AEnv) : Res SV → Res Fl := kk fun _ => kAg1 i op (den G e α)
@[simp] theorem kAg_ok {op : P2} : kAg G i op e α (.ok s) = kAg1 i op (den G e α) := Eq.trans rfl rfl
@[simp] theorem denS_aug {op : P2} : denS G (.aug i op e) α = kAg G i op e α (fin (.var i) none α) := by
  rw [denS, kk_eq]
  unfold kAg
  congr 1
def kAp2 (i : Nat) (r : SV) (α : AEnv) : Option SV → Res Fl
  | some (.ol ds) => if ds.length < sizeLine then .ok (.nx (α.set i (.ol (ds ++ [r.d])))) else .fail
  | _ => .fail
@[simp] theorem kAp2_ol {ds : List D} : kAp2 i s α (some (.ol ds)) = if ds.length < sizeLine then .ok (.nx (α.set i (.ol (ds ++ [s.d])))) else .fail := Eq.trans rfl rfl
def kAp (i : Nat) : Res (SV × AEnv) → Res Fl := kk fun q => kAp2 i q.1 q.2 q.2[i]?
@[simp] theorem kAp_ok : kAp i (.ok (s, α)) = kAp2 i s α α[i]? := Eq.trans rfl rfl
@[simp] theorem denS_app : denS G (.app i e) α = if isOl (α.getD i .un) = true then kAp i (den G e α) else .fail := by
  rw [denS, kk_eq]
  congr 1
def kEx2 (i : Nat) (α : AEnv) : Option SV → D → Res Fl
  | some (.ol ds), .lst es => if ds.length + es.length ≤ sizeLine then .ok (.nx (α.set i (.ol (ds ++ es)))) else .fail
  | _, _ => .fail
@[simp] theorem kEx2_ol {ds es : List D} : kEx2 i α (some (.ol ds)) (.lst es) = if ds.length + es.length ≤ sizeLine then .ok (.nx (α.set i (.ol (ds ++ es)))) else .fail := Eq.trans rfl rfl
def kEx (i : Nat) : Res (SV × AEnv) → Res Fl := kk fun q => kEx2 i q.2 q.2[i]? q.1.d
@[simp] theorem kEx_ok : kEx i (.ok (s, α)) = kEx2 i α α[i]? s.d := Eq.trans rfl rfl
@[simp] theorem denS_ext : denS G (.ext i e) α = if isOl (α.getD i .un) = true then kEx i (den G e α) else .fail := by
  rw [denS, kk_eq]
  congr 1
def kPt4 (i : Nat) (α : AEnv) : Res SV → Res Fl := kk fun s => .ok (.nx (α.set i s))
@[simp] theorem kPt4_ok : kPt4 i α (.ok s) = .ok (.nx (α.set i s)) := Eq.trans rfl rfl
def kPt3 (i : Nat) (k v : SV) (α : AEnv) : Option SV → Res Fl
  | some s => kPt4 i α (putSV s k v.d)
  | none => .fail
@[simp] theorem kPt3_some {y z : SV} : kPt3 i y z α (some s) = kPt4 i α (putSV s y z.d) := Eq.trans rfl rfl
def kPt2 (i : Nat) (v : SV) : Res (SV × AEnv) → Res Fl := kk fun q => kPt3 i q.1 v q.2 q.2[i]?
@[simp] theorem kPt2_ok {y : SV} : kPt2 i y (.ok (s, α)) = kPt3 i s y α α[i]? := Eq.trans rfl rfl
def kPt (G : GEnv) (i : Nat) (k : CE) : Res (SV × AEnv) → Res Fl := kk fun q => kPt2 i q.1 (den G k q.2)
@[simp] theorem kPt_ok : kPt G i k (.ok (s, α)) = kPt2 i s (den G k α) := Eq.trans rfl rfl
@[simp] theorem denS_put : denS G (.put i k e) α = if isUn (α.getD i .un) = true then .fail else kPt G i k (den G e α) := by
  rw [denS, kk_eq]
  congr 1
def kFs3 (G : GEnv) (i : Nat) (f : Str) (r : SV) (α : AEnv) : Option SV → Res Fl
  | some (.oi c ns vs) => if (G.fld c f && decide (ns.length < 1000)) = true then .ok (.nx (α.set i (.oi c (fieldPut ns vs f r.d).1 (fieldPut ns vs f r.d).2))) else .fail
  | _ => .fail
@[simp] theorem kFs3_oi {f c : Str} {ns : List Str} {vs : List D} : kFs3 G i f s α (some (.oi c ns vs)) = if (G.fld c f && decide (ns.length < 1000)) = true then .ok (.nx (α.set i (.oi c (fieldPut ns vs f s.d).1 (fieldPut ns vs f s.d).2))) else .fail := Eq.trans rfl rfl
def kFst (G : GEnv) (i : Nat) (f : Str) : Res (SV × AEnv) → Res Fl := kk fun q => kFs3 G i f q.1 q.2 q.2[i]?
@[simp] theorem kFst_ok {f : Str} : kFst G i f (.ok (s, α)) = kFs3 G i f s α α[i]? := Eq.trans rfl rfl
@[simp] theorem denS_fset {f : Str} : denS G (.fset i f e) α = if isUn (α.getD i .un) = true then .fail else kFst G i f (den G e α) := by
  rw [denS, kk_eq]
  congr 1
def kClr (i : Nat) (α : AEnv) : Option SV → Res Fl
  | some (.ol _) => .ok (.nx (α.set i (.ol [])))
  | _ => .fail
@[simp] theorem kClr_ol {ds : List D} : kClr i α (some (.ol ds)) = .ok (.nx (α.set i (.ol []))) := Eq.trans rfl rfl
@[simp] theorem denS_clr : denS G (.clr i) α = kClr i α α[i]? := by
  rw [denS]
  unfold kClr
  cases α[i]? with
  | none => rfl
  | some s => cases s <;> rfl
def kXp : Res (SV × AEnv) → Res Fl := kk fun q => .ok (.nx q.2)
@[simp] theorem kXp_ok : kXp (.ok (s, α)) = .ok (.nx α) := Eq.trans rfl rfl
@[simp] theorem denS_expr : denS G (.expr e) α = kXp (den G e α) := by
  rw [denS, kk_eq]
  rfl
def kRt : Res (SV × AEnv) → Res Fl := kk fun q => .ok (.rt q.1)
@[simp] theorem kRt_ok : kRt (.ok (s, α)) = .ok (.rt s) := Eq.trans rfl rfl
def kRtv : Option SV → Res Fl
  | some .un => .fail
  | some s => .ok (.rt s)
  | none => .fail
@[simp] theorem kRtv_v {y : D} : kRtv (some (.v y)) = .ok (.rt (.v y)) := Eq.trans rfl rfl
@[simp] theorem kRtv_ol {y : List D} : kRtv (some (.ol y)) = .ok (.rt (.ol y)) := Eq.trans rfl rfl
@[simp] theorem kRtv_od {y z : List D} : kRtv (some (.od y z)) = .ok (.rt (.od y z)) := Eq.trans rfl rfl
@[simp] theorem kRtv_oi {f : Str} {y : List Str} {z : List D} : kRtv (some (.oi f y z)) = .ok (.rt (.oi f y z)) := Eq.trans rfl rfl
@[simp] theorem denS_retv : denS G (.ret (.var i)) α = kRtv α[i]? := by
  rw [denS]
  unfold kRtv
  cases α[i]? with
  | none => rfl
  | some s => cases s <;> rfl
theorem denS_ret' (h : isV e = false) : denS G (.ret e) α = kRt (den G e α) := by
  cases e <;> first
    | (cases h; done)
    | (rw [denS, kk_eq] <;> first | rfl | (intro i z; cases z))
@[simp] theorem denS_retN : denS G .retN α = .ok (.rt (.v .non)) := by rw [denS]
noncomputable def kIf (G : GEnv) (a b : CB) : Res (Bool × AEnv) → Res Fl := kk fun q => if q.1 = true then denB G a q.2 else denB G b q.2
@[simp] theorem kIf_ok {y : Bool} : kIf G ca cb (.ok (y, α)) = if y = true then denB G ca α else denB G cb α := Eq.trans rfl rfl
@[simp] theorem denS_cond : denS G (.cond e ca cb) α = kIf G ca cb (denT G (.some e) α) := by
  rw [denS, kk_eq]
  rfl
noncomputable def forB (G : GEnv) (t : Tgt) (b : CB) (d : D) (β : AEnv) : Res Fl := kk (fun β1 => denB G b β1) (asg t d β)
noncomputable def kFor (G : GEnv) (t : Tgt) (b : CB) : Res (List D × AEnv) → Res Fl := kk fun q => forD (forB G t b) q.1 q.2
@[simp] theorem kFor_ok {t : Tgt} {ds : List D} : kFor G t cb (.ok (ds, α)) = forD (forB G t cb) ds α := Eq.trans rfl rfl
@[simp] theorem denS_for {t : Tgt} {it : CI} : denS G (.forS t it cb) α = kFor G t cb (denI G it α) := by
  rw [denS, kk_eq]
  unfold kFor
  congr 1
@[simp] theorem denS_while : denS G (.whileS e cb) α = whD (denT G (.some e)) (denB G cb) α := by rw [denS]
@[simp] theorem denS_brk : denS G .brk α = .ok (.bk α) := by rw [denS]
@[simp] theorem denS_cont : denS G .cont α = .ok (.ct α) := by rw [denS]
@[simp] theorem denS_pass : denS G .pass α = .ok (.nx α) := by rw [denS]
def kDD : Res Fl → Res SV := kk fun f => match f with
  | .rt r => .ok r
  | .nx _ => .ok (.v .non)
  | _ => .fail
@[simp] theorem kDD_rt : kDD (.ok (.rt s)) = .ok s := Eq.trans rfl rfl
@[simp] theorem kDD_nx : kDD (.ok (.nx α)) = .ok (.v .non) := Eq.trans rfl rfl
theorem denD_eq {ds : List D} : denD G n cb ds = kDD (denB G cb (ds.map .v ++ List.replicate (n - ds.length) .un)) := by
  unfold denD
  rw [kk_eq]
  rfl
def kDN (x : Str) : Res Fl → Res SV := kk fun f => match f with
  | .nx (.oi c ns es :: _) => if c = x then .ok (.oi c ns es) else .fail
  | _ => .fail
@[simp] theorem asg_nm {y : D} : asg (.nm i) y α = if i < α.length then .ok (α.set i (.v y)) else .fail := rfl
section
variable {o1 : P1} {o2 o2b : P2} {l : CL} {lo hi : CO} {cp : CP} {m : Str} {own : List Nat} {t tb : Tgt} {it itb : CI} {d : D} {a b c : CE}
@[simp] theorem dO_lit : dO G (.lit d) α = kO (den G (.lit d) α) := rfl
@[simp] theorem fin_lit : fin (.lit d) (some s) α = .ok s := rfl
@[simp] theorem frz_lit : frz (.cons (.lit d) l) α = frz l α := rfl
@[simp] theorem ret_lit : denS G (.ret (.lit d)) α = kRt (den G (.lit d) α) := denS_ret' rfl
@[simp] theorem dO_con : dO G (.con n) α = kO (den G (.con n) α) := rfl
@[simp] theorem fin_con : fin (.con n) (some s) α = .ok s := rfl
@[simp] theorem frz_con : frz (.cons (.con n) l) α = frz l α := rfl
@[simp] theorem ret_con : denS G (.ret (.con n)) α = kRt (den G (.con n) α) := denS_ret' rfl
@[simp] theorem dO_p1 : dO G (.p1 o1 a) α = kO (den G (.p1 o1 a) α) := rfl
@[simp] theorem fin_p1 : fin (.p1 o1 a) (some s) α = .ok s := rfl
@[simp] theorem frz_p1 : frz (.cons (.p1 o1 a) l) α = frz l α := rfl
@[simp] theorem ret_p1 : denS G (.ret (.p1 o1 a)) α = kRt (den G (.p1 o1 a) α) := denS_ret' rfl
@[simp] theorem dO_p2 : dO G (.p2 o2 a b) α = kO (den G (.p2 o2 a b) α) := rfl
@[simp] theorem fin_p2 : fin (.p2 o2 a b) (some s) α = .ok s := rfl
@[simp] theorem frz_p2 : frz (.cons (.p2 o2 a b) l) α = frz l α := rfl
@[simp] theorem ret_p2 : denS G (.ret (.p2 o2 a b)) α = kRt (den G (.p2 o2 a b) α) := denS_ret' rfl
@[simp] theorem dO_get3 : dO G (.get3 a b c) α = kO (den G (.get3 a b c) α) := rfl
@[simp] theorem fin_get3 : fin (.get3 a b c) (some s) α = .ok s := rfl
@[simp] theorem frz_get3 : frz (.cons (.get3 a b c) l) α = frz l α := rfl
@[simp] theorem ret_get3 : denS G (.ret (.get3 a b c)) α = kRt (den G (.get3 a b c) α) := denS_ret' rfl
@[simp] theorem dO_mt2 : dO G (.mt2 o2 a b) α = kO (den G (.mt2 o2 a b) α) := rfl
@[simp] theorem fin_mt2 : fin (.mt2 o2 a b) (some s) α = .ok s := rfl
@[simp] theorem frz_mt2 : frz (.cons (.mt2 o2 a b) l) α = frz l α := rfl
@[simp] theorem ret_mt2 : denS G (.ret (.mt2 o2 a b)) α = kRt (den G (.mt2 o2 a b) α) := denS_ret' rfl
@[simp] theorem dO_slice : dO G (.slice a lo hi) α = kO (den G (.slice a lo hi) α) := rfl
@[simp] theorem fin_slice : fin (.slice a lo hi) (some s) α = .ok s := rfl
@[simp] theorem frz_slice : frz (.cons (.slice a lo hi) l) α = frz l α := rfl
@[simp] theorem ret_slice : denS G (.ret (.slice a lo hi)) α = kRt (den G (.slice a lo hi) α) := denS_ret' rfl
@[simp] theorem dO_rev : dO G (.rev a) α = kO (den G (.rev a) α) := rfl
@[simp] theorem fin_rev : fin (.rev a) (some s) α = .ok s := rfl
@[simp] theorem frz_rev : frz (.cons (.rev a) l) α = frz l α := rfl
@[simp] theorem ret_rev : denS G (.ret (.rev a)) α = kRt (den G (.rev a) α) := denS_ret' rfl
@[simp] theorem dO_lrng : dO G (.lrng a) α = kO (den G (.lrng a) α) := rfl
@[simp] theorem fin_lrng : fin (.lrng a) (some s) α = .ok s := rfl
@[simp] theorem frz_lrng : frz (.cons (.lrng a) l) α = frz l α := rfl
@[simp] theorem ret_lrng : denS G (.ret (.lrng a)) α = kRt (den G (.lrng a) α) := denS_ret' rfl
@[simp] theorem dO_and : dO G (.and a b) α = kO (den G (.and a b) α) := rfl
@[simp] theorem fin_and : fin (.and a b) (some s) α = .ok s := rfl
@[simp] theorem frz_and : frz (.cons (.and a b) l) α = frz l α := rfl
@[simp] theorem ret_and : denS G (.ret (.and a b)) α = kRt (den G (.and a b) α) := denS_ret' rfl
@[simp] theorem dO_or : dO G (.or a b) α = kO (den G (.or a b) α) := rfl
@[simp] theorem fin_or : fin (.or a b) (some s) α = .ok s := rfl
@[simp] theorem frz_or : frz (.cons (.or a b) l) α = frz l α := rfl
@[simp] theorem ret_or : denS G (.ret (.or a b)) α = kRt (den G (.or a b) α) := denS_ret' rfl
@[simp] theorem dO_chain : dO G (.chain o2 o2b a b c) α = kO (den G (.chain o2 o2b a b c) α) := rfl
@[simp] theorem fin_chain : fin (.chain o2 o2b a b c) (some s) α = .ok s := rfl
@[simp] theorem frz_chain : frz (.cons (.chain o2 o2b a b c) l) α = frz l α := rfl
@[simp] theorem ret_chain : denS G (.ret (.chain o2 o2b a b c)) α = kRt (den G (.chain o2 o2b a b c) α) := denS_ret' rfl
@[simp] theorem dO_tup : dO G (.tup l) α = kO (den G (.tup l) α) := rfl
@[simp] theorem fin_tup : fin (.tup l) (some s) α = .ok s := rfl
@[simp] theorem frz_tup : frz (.cons (.tup l) l) α = frz l α := rfl
@[simp] theorem ret_tup : denS G (.ret (.tup l)) α = kRt (den G (.tup l) α) := denS_ret' rfl
@[simp] theorem dO_lst : dO G (.lst l) α = kO (den G (.lst l) α) := rfl
@[simp] theorem fin_lst : fin (.lst l) (some s) α = .ok s := rfl
@[simp] theorem frz_lst : frz (.cons (.lst l) l) α = frz l α := rfl
@[simp] theorem ret_lst : denS G (.ret (.lst l)) α = kRt (den G (.lst l) α) := denS_ret' rfl
@[simp] theorem dO_dct : dO G (.dct cp) α = kO (den G (.dct cp) α) := rfl
@[simp] theorem fin_dct : fin (.dct cp) (some s) α = .ok s := rfl
@[simp] theorem frz_dct : frz (.cons (.dct cp) l) α = frz l α := rfl
@[simp] theorem ret_dct : denS G (.ret (.dct cp)) α = kRt (den G (.dct cp) α) := denS_ret' rfl
@[simp] theorem dO_call : dO G (.call n l) α = kO (den G (.call n l) α) := rfl
@[simp] theorem fin_call : fin (.call n l) (some s) α = .ok s := rfl
@[simp] theorem frz_call : frz (.cons (.call n l) l) α = frz l α := rfl
@[simp] theorem ret_call : denS G (.ret (.call n l)) α = kRt (den G (.call n l) α) := denS_ret' rfl
@[simp] theorem dO_mth : dO G (.mth a m l) α = kO (den G (.mth a m l) α) := rfl
@[simp] theorem fin_mth : fin (.mth a m l) (some s) α = .ok s := rfl
@[simp] theorem frz_mth : frz (.cons (.mth a m l) l) α = frz l α := rfl
@[simp] theorem ret_mth : denS G (.ret (.mth a m l)) α = kRt (den G (.mth a m l) α) := denS_ret' rfl
@[simp] theorem dO_pop : dO G (.pop n) α = kO (den G (.pop n) α) := rfl
@[simp] theorem fin_pop : fin (.pop n) (some s) α = .ok s := rfl
@[simp] theorem frz_pop : frz (.cons (.pop n) l) α = frz l α := rfl
@[simp] theorem ret_pop : denS G (.ret (.pop n)) α = kRt (den G (.pop n) α) := denS_ret' rfl
@[simp] theorem dO_lc : dO G (.lc own t it lo a) α = kO (den G (.lc own t it lo a) α) := rfl
@[simp] theorem fin_lc : fin (.lc own t it lo a) (some s) α = .ok s := rfl
@[simp] theorem frz_lc : frz (.cons (.lc own t it lo a) l) α = frz l α := rfl
@[simp] theorem ret_lc : denS G (.ret (.lc own t it lo a)) α = kRt (den G (.lc own t it lo a) α) := denS_ret' rfl
@[simp] theorem dO_lc2 : dO G (.lc2 own t it lo tb itb hi a) α = kO (den G (.lc2 own t it lo tb itb hi a) α) := rfl
@[simp] theorem fin_lc2 : fin (.lc2 own t it lo tb itb hi a) (some s) α = .ok s := rfl
@[simp] theorem frz_lc2 : frz (.cons (.lc2 own t it lo tb itb hi a) l) α = frz l α := rfl
@[simp] theorem ret_lc2 : denS G (.ret (.lc2 own t it lo tb itb hi a)) α = kRt (den G (.lc2 own t it lo tb itb hi a) α) := denS_ret' rfl
@[simp] theorem dO_dc : dO G (.dc own t it a b) α = kO (den G (.dc own t it a b) α) := rfl
@[simp] theorem fin_dc : fin (.dc own t it a b) (some s) α = .ok s := rfl
@[simp] theorem frz_dc : frz (.cons (.dc own t it a b) l) α = frz l α := rfl
@[simp] theorem ret_dc : denS G (.ret (.dc own t it a b)) α = kRt (den G (.dc own t it a b) α) := denS_ret' rfl
@[simp] theorem dO_sc : dO G (.sc own t it a) α = kO (den G (.sc own t it a) α) := rfl
@[simp] theorem fin_sc : fin (.sc own t it a) (some s) α = .ok s := rfl
@[simp] theorem frz_sc : frz (.cons (.sc own t it a) l) α = frz l α := rfl
@[simp] theorem ret_sc : denS G (.ret (.sc own t it a)) α = kRt (den G (.sc own t it a) α) := denS_ret' rfl
end
end Dv

set_option linter.all false
set_option maxRecDepth 100000
set_option maxHeartbeats 1000000
/-! operations on values of known form -/
namespace Dv
open PySem
variable {G : GEnv} {α : AEnv} {s t : SV} {i j : Int} {n : Nat} {ds es ks vs : List D} {x y d : D} {b : Bool} {z w : Str}
@[simp] theorem ofS_inj' (a b : String) : (Str.ofString a = Str.ofString b) ↔ (a = b) := by rw [ofS_inj]
@[simp] theorem SV.d_v : (SV.v x).d = x := rfl
@[simp] theorem SV.d_ol : (SV.ol ds).d = .lst ds := rfl
@[simp] theorem SV.d_od : (SV.od ks vs).d = .dct ks vs := rfl
@[simp] theorem SV.d_oi {c : Str} {ns : List Str} : (SV.oi c ns vs).d = .obj c ns vs := rfl
theorem nice_str (a : String) : Nice (.str (Str.ofString a)) := ⟨ofS_ok a, Nat.zero_le _⟩
theorem nice_int (i : Int) : Nice (.int i) := ⟨rfl, Nat.zero_le _⟩
theorem nice_non : Nice .non := ⟨rfl, Nat.zero_le _⟩
theorem nice_st {z : Str} (h : PyData.strOk z = true) : Nice (.str z) := ⟨h, Nat.zero_le _⟩
open Classical in
theorem eqD_st {z w : Str} (hz : PyData.strOk z = true) (hw : PyData.strOk w = true) : eqD (.str z) (.str w) = .ok (decide (z = w)) := by
  rw [eqD_nice (nice_st hz) (nice_st hw)]
  congr 1
  simp
@[simp] theorem eqD_ss (a b : String) : eqD (.str (Str.ofString a)) (.str (Str.ofString b)) = .ok (decide (a = b)) := by
  rw [eqD_st (ofS_ok a) (ofS_ok b)]
  congr 1
  simp
@[simp] theorem eqD_is (i : Int) (b : String) : eqD (.int i) (.str (Str.ofString b)) = .ok false := by
  rw [eqD_nice (nice_int i) (nice_str b)]
  simp
@[simp] theorem eqD_si (i : Int) (b : String) : eqD (.str (Str.ofString b)) (.int i) = .ok false := by
  rw [eqD_nice (nice_str b) (nice_int i)]
  simp
@[simp] theorem eqD_ii (i j : Int) : eqD (.int i) (.int j) = .ok (decide (i = j)) := by
  rw [eqD_nice (nice_int i) (nice_int j)]
  simp
@[simp] theorem eqD_bb (a b : Bool) : eqD (.bl a) (.bl b) = .ok (a == b) := by
  unfold eqD
  simp only [dat]
  cases a <;> cases b <;> rfl
-- truth
@[simp] theorem truth_bl : truthD (.v (.bl b)) = .ok b := rfl
@[simp] theorem truth_int : truthD (.v (.int i)) = .ok (i != 0) := rfl
@[simp] theorem truth_non : truthD (.v .non) = .ok false := rfl
@[simp] theorem truth_ol : truthD (.ol ds) = .ok (!ds.isEmpty) := rfl
@[simp] theorem truth_lst : truthD (.v (.lst ds)) = .ok (!ds.isEmpty) := rfl
@[simp] theorem truth_tup : truthD (.v (.tup ds)) = .ok (!ds.isEmpty) := rfl
-- one operand
@[simp] theorem op1_len_ol : op1 G .len (.ol ds) = .ok (.v (.int ds.length)) := rfl
@[simp] theorem op1_len_lst : op1 G .len (.v (.lst ds)) = .ok (.v (.int ds.length)) := rfl
@[simp] theorem op1_len_tup : op1 G .len (.v (.tup ds)) = .ok (.v (.int ds.length)) := rfl
@[simp] theorem op1_len_dct : op1 G .len (.v (.dct ks vs)) = .ok (.v (.int ks.length)) := rfl
@[simp] theorem op1_len_od : op1 G .len (.od ks vs) = .ok (.v (.int ks.length)) := rfl
@[simp] theorem op1_len_str : op1 G .len (.v (.str z)) = if okSize z.length = true then .ok (.v (.int z.length)) else .fail := rfl
@[simp] theorem op1_list_ol : op1 G .list (.ol ds) = .ok (.ol ds) := rfl
@[simp] theorem op1_list_lst : op1 G .list (.v (.lst ds)) = .ok (.ol ds) := rfl
@[simp] theorem op1_list_tup : op1 G .list (.v (.tup ds)) = .ok (.ol ds) := rfl
@[simp] theorem op1_list_dct : op1 G .list (.v (.dct ks vs)) = .ok (.ol ks) := rfl
@[simp] theorem op1_list_od : op1 G .list (.od ks vs) = .ok (.ol ks) := rfl
@[simp] theorem op1_tuple_ol : op1 G .tuple (.ol ds) = .ok (.v (.tup ds)) := rfl
@[simp] theorem op1_tuple_lst : op1 G .tuple (.v (.lst ds)) = .ok (.v (.tup ds)) := rfl
@[simp] theorem op1_tuple_tup : op1 G .tuple (.v (.tup ds)) = .ok (.v (.tup ds)) := rfl
@[simp] theorem op1_int_int : op1 G .int (.v (.int i)) = .ok (.v (.int i)) := rfl
@[simp] theorem op1_int_bl : op1 G .int (.v (.bl b)) = .ok (.v (.int (if b = true then 1 else 0))) := rfl
@[simp] theorem op1_abs : op1 G .abs (.v (.int i)) = .ok (.v (.int (if i < 0 then -i else i))) := rfl
@[simp] theorem op1_neg : op1 G .neg (.v (.int i)) = .ok (.v (.int (-i))) := rfl
def blN : Res Bool → Res SV := Res.map fun b => .v (.bl !b)
@[simp] theorem blN_ok : blN (.ok b) = .ok (.v (.bl !b)) := rfl
@[simp] theorem op1_not : op1 G .not s = blN (truthD s) := rfl
@[simp] theorem op1_isN : op1 G .isN s = .ok (.v (.bl (isNo s))) := rfl
@[simp] theorem op1_notN : op1 G .notN s = .ok (.v (.bl (!isNo s))) := rfl
@[simp] theorem isNo_non : isNo (.v .non) = true := rfl
@[simp] theorem isNo_int : isNo (.v (.int i)) = false := rfl
@[simp] theorem isNo_str : isNo (.v (.str z)) = false := rfl
@[simp] theorem isNo_tup : isNo (.v (.tup ds)) = false := rfl
@[simp] theorem isNo_bl : isNo (.v (.bl b)) = false := rfl
@[simp] theorem op1_str_str : op1 G .str (.v (.str z)) = .ok (.v (.str z)) := rfl
@[simp] theorem op1_isa_int_str : op1 G (.isa [Str.ofString "str"]) (.v (.int i)) = .ok (.v (.bl false)) := by simp [op1, SV.obj?, isaD, tyN]
@[simp] theorem op1_isa_str_str : op1 G (.isa [Str.ofString "str"]) (.v (.str z)) = .ok (.v (.bl true)) := by simp [op1, SV.obj?, isaD, tyN]
@[simp] theorem op1_isa_non_str : op1 G (.isa [Str.ofString "str"]) (.v .non) = .ok (.v (.bl false)) := by simp [op1, SV.obj?, isaD, tyN]
@[simp] theorem op1_isa_tup_str : op1 G (.isa [Str.ofString "str"]) (.v (.tup ds)) = .ok (.v (.bl false)) := by simp [op1, SV.obj?, isaD, tyN]
@[simp] theorem op1_isa_int_int : op1 G (.isa [Str.ofString "int"]) (.v (.int i)) = .ok (.v (.bl true)) := by simp [op1, SV.obj?, isaD, tyN]
@[simp] theorem op1_isa_str_int : op1 G (.isa [Str.ofString "int"]) (.v (.str z)) = .ok (.v (.bl false)) := by simp [op1, SV.obj?, isaD, tyN]
@[simp] theorem op1_isa_int_bool : op1 G (.isa [Str.ofString "bool"]) (.v (.int i)) = .ok (.v (.bl false)) := by simp [op1, SV.obj?, isaD, tyN]
@[simp] theorem op1_isa_bl_bool : op1 G (.isa [Str.ofString "bool"]) (.v (.bl b)) = .ok (.v (.bl true)) := by simp [op1, SV.obj?, isaD, tyN]
@[simp] theorem op1_isa_tup_tuple : op1 G (.isa [Str.ofString "tuple"]) (.v (.tup ds)) = .ok (.v (.bl true)) := by simp [op1, SV.obj?, isaD, tyN]
@[simp] theorem op1_isa_lst_list : op1 G (.isa [Str.ofString "list"]) (.v (.lst ds)) = .ok (.v (.bl true)) := by simp [op1, SV.obj?, isaD, tyN]
@[simp] theorem op1_isa_ol_list : op1 G (.isa [Str.ofString "list"]) (.ol ds) = .ok (.v (.bl true)) := by simp [op1, SV.obj?, isaD, tyN]
def atR : Option D → Res SV
  | some d => .ok (.v d)
  | none => .fail
@[simp] theorem atR_some : atR (some d) = .ok (.v d) := rfl
def fldR (g : Bool) : Option D → Res SV := fun o => if g = true then atR o else .fail
@[simp] theorem fldR_ok {o : Option D} : fldR true o = atR o := rfl
@[simp] theorem op1_attr_obj {f c : Str} {ns : List Str} : op1 G (.attr f) (.v (.obj c ns vs)) = fldR (G.fld c f) (fieldAt ns vs f) := by
  simp only [op1, SV.obj?, fldR, atR] <;> (cases fieldAt ns vs f <;> rfl)
@[simp] theorem op1_attr_oi {f c : Str} {ns : List Str} : op1 G (.attr f) (.oi c ns vs) = fldR (G.fld c f) (fieldAt ns vs f) := by
  simp only [op1, SV.obj?, fldR, atR] <;> (cases fieldAt ns vs f <;> rfl)
@[simp] theorem fieldAt_cons {f c : Str} {ns : List Str} : fieldAt (c :: ns) (d :: vs) f = if c = f then some d else fieldAt ns vs f := rfl
@[simp] theorem fieldAt_nil {f : Str} : fieldAt [] vs f = none := rfl
@[simp] theorem op1_dict_dct : op1 G .dict (.v (.dct ks vs)) = if ks.all flatKey = true then .ok (.od ks vs) else .fail := rfl
@[simp] theorem op1_dict_od : op1 G .dict (.od ks vs) = if ks.all flatKey = true then .ok (.od ks vs) else .fail := rfl
-- two operands
@[simp] theorem op2_add_int : op2 G .add (.v (.int i)) (.v (.int j)) = .ok (.v (.int (i + j))) := rfl
@[simp] theorem op2_add_tup : op2 G .add (.v (.tup ds)) (.v (.tup es)) = ckTup (ds ++ es) := rfl
@[simp] theorem op2_add_ol : op2 G .add (.ol ds) (.ol es) = ckList (ds ++ es) := rfl
@[simp] theorem op2_add_lo : op2 G .add (.v (.lst ds)) (.ol es) = ckList (ds ++ es) := rfl
@[simp] theorem op2_add_ovl : op2 G .add (.ol ds) (.v (.lst es)) = ckList (ds ++ es) := rfl
@[simp] theorem op2_add_ll : op2 G .add (.v (.lst ds)) (.v (.lst es)) = ckList (ds ++ es) := rfl
@[simp] theorem op2_sub : op2 G .sub (.v (.int i)) (.v (.int j)) = .ok (.v (.int (i - j))) := rfl
@[simp] theorem op2_mul : op2 G .mul (.v (.int i)) (.v (.int j)) = if (-(2 ^ 64) < i ∧ i < 2 ^ 64) ∨ (-(2 ^ 64) < j ∧ j < 2 ^ 64) then .ok (.v (.int (i * j))) else .fail := rfl
@[simp] theorem op2_fdiv : op2 G .fdiv (.v (.int i)) (.v (.int j)) = if 0 < j ∧ j < 1073741824 then .ok (.v (.int (i / j))) else .fail := rfl
@[simp] theorem op2_mod : op2 G .mod (.v (.int i)) (.v (.int j)) = if 0 < j then .ok (.v (.int (i % j))) else .fail := rfl
@[simp] theorem op2_pow : op2 G .pow (.v (.int i)) (.v (.int j)) = if 0 ≤ j ∧ j ≤ 1000000 ∧ i.natAbs < 2 ^ 64 then .ok (.v (.int (i ^ j.toNat))) else .fail := rfl
@[simp] theorem op2_band : op2 G .band (.v (.int i)) (.v (.int j)) = .ok (.v (.int (Builtin.bitAnd i j))) := rfl
@[simp] theorem blR_ok' : blR (.ok b) = .ok (.v (.bl b)) := rfl
@[simp] theorem op2_eq : op2 G .eq s t = blR (eqD s.d t.d) := rfl
@[simp] theorem op2_ne : op2 G .ne s t = blN (eqD s.d t.d) := by
  show blR ((eqD s.d t.d).map not) = _
  cases eqD s.d t.d <;> rfl
@[simp] theorem op2_lt : op2 G .lt (.v (.int i)) (.v (.int j)) = .ok (.v (.bl (decide (i < j)))) := rfl
@[simp] theorem op2_le : op2 G .le (.v (.int i)) (.v (.int j)) = .ok (.v (.bl (decide (i ≤ j)))) := rfl
@[simp] theorem op2_gt : op2 G .gt (.v (.int i)) (.v (.int j)) = .ok (.v (.bl (decide (j < i)))) := rfl
@[simp] theorem op2_ge : op2 G .ge (.v (.int i)) (.v (.int j)) = .ok (.v (.bl (decide (j ≤ i)))) := rfl
@[simp] theorem op2_max : op2 G .max (.v (.int i)) (.v (.int j)) = .ok (.v (.int (if j > i then j else i))) := rfl
@[simp] theorem op2_min : op2 G .min (.v (.int i)) (.v (.int j)) = .ok (.v (.int (if j < i then j else i))) := rfl
@[simp] theorem op2_index : op2 G .index s t = indexD s t.d := rfl
@[simp] theorem op2_count : op2 G .count s t = countD s t.d := rfl
@[simp] theorem op2_mem : op2 G .mem s t = op2.memR s t := rfl
def negR : Res SV → Res SV := Res.map fun s => match s with
    | .v (.bl b) => .v (.bl (!b))
    | s => s
@[simp] theorem negR_ok : negR (.ok (.v (.bl b))) = .ok (.v (.bl !b)) := rfl
@[simp] theorem op2_nmem : op2 G .nmem s t = negR (op2.memR s t) := rfl
@[simp] theorem memR_ol : op2.memR s (.ol ds) = blR (memD s.d ds) := by
  cases s with
  | v x => cases x <;> rfl
  | _ => rfl
@[simp] theorem memR_lst : op2.memR s (.v (.lst ds)) = blR (memD s.d ds) := by
  cases s with
  | v x => cases x <;> rfl
  | _ => rfl
@[simp] theorem memR_tup : op2.memR s (.v (.tup ds)) = if (flatD s.d && ds.all flatD) = true then .ok (.v (.bl (ds.any fun z => eqF z s.d))) else .fail := by
  cases s with
  | v x => cases x <;> rfl
  | _ => rfl
def isS : Res (Option D) → Res SV := Res.map fun o => .v (.bl o.isSome)
@[simp] theorem isS_ok {o : Option D} : isS (.ok o) = .ok (.v (.bl o.isSome)) := rfl
@[simp] theorem memR_dct : op2.memR s (.v (.dct ks vs)) = isS (dctKeyR ks vs s.d) := by
  have h : ∀ r : Res (Option D), blR (r.map (·.isSome)) = isS r := fun r => by cases r <;> rfl
  cases s with
  | v x => cases x <;> exact h _
  | _ => exact h _
@[simp] theorem memR_od : op2.memR s (.od ks vs) = isS (dctKeyR ks vs s.d) := by
  have h : ∀ r : Res (Option D), blR (r.map (·.isSome)) = isS r := fun r => by cases r <;> rfl
  cases s with
  | v x => cases x <;> exact h _
  | _ => exact h _
@[simp] theorem memR_str : op2.memR (.v (.str z)) (.v (.str w)) = .ok (.v (.bl (!(Builtin.Str.occurrences w z 0 w.length 1).isEmpty))) := rfl
@[simp] theorem flat_int : flatD (.int i) = true := rfl
@[simp] theorem flat_str : flatD (.str z) = true := rfl
@[simp] theorem flat_non : flatD .non = true := rfl
@[simp] theorem flat_bl : flatD (.bl b) = true := rfl
@[simp] theorem flat_tup : flatD (.tup ds) = false := rfl
@[simp] theorem eqF_ss : eqF (.str z) (.str w) = (z == w) := rfl
@[simp] theorem eqF_ii : eqF (.int i) (.int j) = (i == j) := rfl
@[simp] theorem eqF_si : eqF (.str z) (.int j) = false := rfl
@[simp] theorem eqF_is : eqF (.int j) (.str z) = false := rfl
@[simp] theorem beq_ofS (a b : String) : (Str.ofString a == Str.ofString b) = (a == b) := by
  rw [Bool.eq_iff_iff]; simp
-- subscripts
@[simp] theorem op2_idx_lst : op2 G .idx (.v (.lst ds)) (.v (.int i)) = ixD ds i := rfl
@[simp] theorem op2_idx_tup : op2 G .idx (.v (.tup ds)) (.v (.int i)) = ixD ds i := rfl
@[simp] theorem op2_idx_ol : op2 G .idx (.ol ds) (.v (.int i)) = ixD ds i := rfl
@[simp] theorem op2_idx_str : op2 G .idx (.v (.str z)) (.v (.int i)) = ixS z i := rfl
def dgR : Res (Option D) → Res SV
  | .ok (some d) => .ok (.v d)
  | _ => .fail
@[simp] theorem dgR_ok : dgR (.ok (some d)) = .ok (.v d) := rfl
@[simp] theorem op2_idx_dct : op2 G .idx (.v (.dct ks vs)) t = dgR (dctKeyR ks vs t.d) := by
  show (match dctKeyR ks vs t.d with
            | .ok (some d) => Res.ok (SV.v d)
            | _ => .fail) = _
  unfold dgR
  rfl
@[simp] theorem op2_idx_od : op2 G .idx (.od ks vs) t = dgR (dctKeyR ks vs t.d) := by
  show (match dctKeyR ks vs t.d with
            | .ok (some d) => Res.ok (SV.v d)
            | _ => .fail) = _
  unfold dgR
  rfl
theorem ixD_eq : ixD ds i = atR (L2.atI ds i) := by
  unfold ixD atR
  cases h : L2.atI ds i <;> simp only [h]
open L2 in
theorem atI_nat {β : Type} {l : List β} {n : Nat} : L2.atI l (n : Int) = l[n]? := by
  unfold L2.atI L2.ixN
  rw [if_pos (by omega)]
  by_cases h : n < l.length
  · rw [if_pos (by omega)]; simp
  · rw [if_neg (by omega)]
    simp only [Option.bind_none]
    rw [List.getElem?_eq_none (by omega)]
@[simp] theorem ixD_nat : ixD ds (n : Int) = atR ds[n]? := by rw [ixD_eq, atI_nat]
@[simp] theorem ixD_0 : ixD ds 0 = atR ds[0]? := ixD_nat (n := 0)
@[simp] theorem ixD_1 : ixD ds 1 = atR ds[1]? := ixD_nat (n := 1)
@[simp] theorem ixD_lit : ixD ds (no_index (OfNat.ofNat n : Int)) = atR ds[(OfNat.ofNat n : Nat)]? := ixD_nat (n := n)
@[simp] theorem ckTup_def : ckTup ds = if okSize ds.length = true then .ok (.v (.tup ds)) else .fail := rfl
@[simp] theorem ckList_def : ckList ds = if okSize ds.length = true then .ok (.ol ds) else .fail := rfl
@[simp] theorem okSize_def : okSize n = decide (n ≤ 16777216) := by unfold okSize; rw [sizeLine_eq]
@[simp] theorem sizeL : sizeLine = 16777216 := sizeLine_eq

-- freezing
@[simp] theorem imS_v : imS (.v x) = imD x := rfl
@[simp] theorem imS_ol : imS (.ol ds) = imDs ds := rfl
@[simp] theorem imS_od : imS (.od ks vs) = false := rfl
@[simp] theorem imS_oi {c : Str} {ns : List Str} : imS (.oi c ns vs) = false := rfl
@[simp] theorem imD_int : imD (.int i) = true := rfl
@[simp] theorem imD_str : imD (.str z) = true := rfl
@[simp] theorem imD_bl : imD (.bl b) = true := rfl
@[simp] theorem imD_non : imD .non = true := rfl
@[simp] theorem imD_tup : imD (.tup ds) = imDs ds := rfl
@[simp] theorem imD_lst : imD (.lst ds) = false := rfl
@[simp] theorem imD_dct : imD (.dct ks vs) = false := rfl
@[simp] theorem imD_obj {c : Str} {ns : List Str} : imD (.obj c ns vs) = false := rfl
@[simp] theorem imDs_nil : imDs [] = true := rfl
@[simp] theorem imDs_cons : imDs (d :: ds) = (imD d && imDs ds) := rfl
theorem imDs_all : ∀ {ds : List D}, imDs ds = ds.all imD
  | [] => rfl
  | _ :: _ => by rw [imDs, List.all_cons, imDs_all]
@[simp] theorem frz_nil : frz .nil α = α := rfl
@[simp] theorem frz_varE {r : CL} {m : Nat} : frz (.cons (.var m) r) α = frz r (α.set m (.v (α.getD m .un).d)) := rfl

@[simp] theorem wipeA_nil : wipeA α [] = α := rfl
@[simp] theorem wipeA_cons {is : List Nat} {m : Nat} : wipeA α (m :: is) = (wipeA α is).set m .un := rfl
@[simp] theorem stash_def {is : List Nat} : stash α is = is.map fun i => α.getD i .un := rfl
@[simp] theorem backA_nil {l : List SV} : backA α [] l = α := by cases l <;> rfl
@[simp] theorem backA_cons {is : List Nat} {m : Nat} {l : List SV} : backA α (m :: is) (s :: l) = backA (α.set m s) is l := rfl
@[simp] theorem isOl_ol : isOl (.ol ds) = true := rfl
@[simp] theorem isUn_v : isUn (.v x) = false := rfl
@[simp] theorem isUn_ol : isUn (.ol ds) = false := rfl
@[simp] theorem isUn_od : isUn (.od ks vs) = false := rfl
@[simp] theorem isUn_oi {c : Str} {ns : List Str} : isUn (.oi c ns vs) = false := rfl
@[simp] theorem SV.obj_v {c : Str} {ns : List Str} : (SV.v (.obj c ns vs)).obj? = some (c, ns, vs) := rfl
@[simp] theorem SV.obj_oi {c : Str} {ns : List Str} : (SV.oi c ns vs).obj? = some (c, ns, vs) := rfl
@[simp] theorem SV.dct_v : (SV.v (.dct ks vs)).dct? = some (ks, vs) := rfl
@[simp] theorem SV.dct_od : (SV.od ks vs).dct? = some (ks, vs) := rfl
@[simp] theorem sk_lst : seqKind (.v (.lst ds)) = some true := rfl
@[simp] theorem sk_ol : seqKind (.ol ds) = some true := rfl
@[simp] theorem sk_tup : seqKind (.v (.tup ds)) = some false := rfl
-- dicts by texts and ints
@[simp] theorem keyOf_str : keyOf (.str z) = some (.text z) := rfl
@[simp] theorem keyOf_int : keyOf (.int i) = some (.num i) := rfl
@[simp] theorem flatKey_str : flatKey (.str z) = true := rfl
@[simp] theorem flatKey_int : flatKey (.int i) = true := rfl
@[simp] theorem flatKey_tup : flatKey (.tup ds) = false := rfl
@[simp] theorem flatKey_non : flatKey .non = false := rfl
@[simp] theorem tupKey_str : tupKey (.str z) = false := rfl
@[simp] theorem tupKey_int : tupKey (.int i) = false := rfl
@[simp] theorem sameSort_str : sameSort ks (.str z) = ks.all flatKey := by simp [sameSort]
@[simp] theorem sameSort_int : sameSort ks (.int i) = ks.all flatKey := by simp [sameSort]
@[simp] theorem dctKeyR_str : dctKeyR ks vs (.str z) = if ks.all flatKey = true then .ok (dctAt ks vs (.text z)) else .fail := by
  simp [dctKeyR]
@[simp] theorem dctKeyR_int : dctKeyR ks vs (.int i) = if ks.all flatKey = true then .ok (dctAt ks vs (.num i)) else .fail := by
  simp [dctKeyR]
@[simp] theorem dctAt_nil {q : NestedKey} : dctAt [] vs q = none := rfl
@[simp] theorem dctAt_ss : dctAt (.str z :: ks) (d :: vs) (.text w) = if z = w then some d else dctAt ks vs (.text w) := by
  simp [dctAt]
@[simp] theorem dctAt_is : dctAt (.int i :: ks) (d :: vs) (.text w) = dctAt ks vs (.text w) := by
  simp [dctAt]
@[simp] theorem dctAt_si : dctAt (.str z :: ks) (d :: vs) (.num j) = dctAt ks vs (.num j) := by
  simp [dctAt]
@[simp] theorem dctAt_ii : dctAt (.int i :: ks) (d :: vs) (.num j) = if i = j then some d else dctAt ks vs (.num j) := by
  simp [dctAt]
end Dv

set_option linter.all false
set_option maxRecDepth 100000
set_option maxHeartbeats 1000000
/-! loops -/
namespace Dv
open PySem
variable {G : GEnv} {α β : AEnv}
/-- a loop that goes through -/
theorem forD_fold {σ : Type} {b : D → AEnv → Res Fl} (f : σ → D → σ) (R : σ → AEnv → Prop) : ∀ (ds : List D) (s : σ) (α : AEnv), R s α → (∀ d ∈ ds, ∀ s α, R s α → ∃ α', (b d α = .ok (.nx α') ∨ b d α = .ok (.ct α')) ∧ R (f s d) α') → ∃ α', forD b ds α = .ok (.nx α') ∧ R (ds.foldl f s) α'
  | [], s, α, h, _ => ⟨α, rfl, h⟩
  | d :: ds, s, α, h, st => by
    obtain ⟨α1, e, h1⟩ := st d List.mem_cons_self s α h
    obtain ⟨α2, e2, h2⟩ := forD_fold f R ds (f s d) α1 h1 fun d' m => st d' (List.mem_cons_of_mem _ m)
    refine ⟨α2, ?_, h2⟩
    rw [forD]
    rcases e with e | e <;> rw [e] <;> exact e2
/-- .. by an invariant over what has been taken -/
theorem forD_inv {b : D → AEnv → Res Fl} (R : List D → AEnv → Prop) : ∀ (ds pre : List D) (α : AEnv), R pre α → (∀ pre d post, pre ++ d :: post = (pre : List D) ++ (d :: post) → True) → (∀ d ∈ ds, ∀ pre α, R pre α → ∃ α', (b d α = .ok (.nx α') ∨ b d α = .ok (.ct α')) ∧ R (pre ++ [d]) α') → ∃ α', forD b ds α = .ok (.nx α') ∧ R (pre ++ ds) α'
  | [], pre, α, h, _, _ => ⟨α, rfl, by rw [List.append_nil]; exact h⟩
  | d :: ds, pre, α, h, t, st => by
    obtain ⟨α1, e, h1⟩ := st d List.mem_cons_self pre α h
    obtain ⟨α2, e2, h2⟩ := forD_inv R ds (pre ++ [d]) α1 h1 t fun d' m => st d' (List.mem_cons_of_mem _ m)
    refine ⟨α2, ?_, by rw [List.append_assoc] at h2; exact h2⟩
    rw [forD]
    rcases e with e | e <;> rw [e] <;> exact e2
theorem forB_nm {i : Nat} {b : CB} {d : D} : forB G (.nm i) b d β = if i < β.length then denB G b (β.set i (.v d)) else .fail := by
  unfold forB
  rw [asg_nm]
  split <;> rfl
theorem forB_def {t : Tgt} {b : CB} {d : D} {β' : AEnv} (h : asg t d β = .ok β') : forB G t b d β = denB G b β' := by
  unfold forB
  rw [h]
  rfl
/-- a comprehension whose turns leave nothing behind -/
theorem lcGo_flat {turn : D → AEnv → Res (List D × AEnv)} {own : List Nat} (g : D → List D) : ∀ (ds : List D) (β : AEnv), (∀ d ∈ ds, ∃ β1, turn d β = .ok (g d, β1) ∧ wipeA β1 own = β) → lcGo turn own ds β = .ok (ds.flatMap g, β)
  | [], β, _ => rfl
  | d :: ds, β, h => by
    obtain ⟨β1, e1, e2⟩ := h d List.mem_cons_self
    rw [lcGo, e1]
    simp only
    rw [e2, lcGo_flat g ds β fun d' m => h d' (List.mem_cons_of_mem _ m)]
    rfl
theorem lcGo_map {turn : D → AEnv → Res (List D × AEnv)} {own : List Nat} (g : D → D) (ds : List D) (β : AEnv) (h : ∀ d ∈ ds, ∃ β1, turn d β = .ok ([g d], β1) ∧ wipeA β1 own = β) : lcGo turn own ds β = .ok (ds.map g, β) := by
  rw [lcGo_flat (fun d => [g d]) ds β h]
  congr 2
  induction ds with
  | nil => rfl
  | cons d ds ih => rw [List.flatMap_cons, ih fun d' m => h d' (List.mem_cons_of_mem _ m)]; rfl
theorem lcGo_filter {turn : D → AEnv → Res (List D × AEnv)} {own : List Nat} (p : D → Bool) (ds : List D) (β : AEnv) (h : ∀ d ∈ ds, ∃ β1, turn d β = .ok (if p d = true then [d] else [], β1) ∧ wipeA β1 own = β) : lcGo turn own ds β = .ok (ds.filter p, β) := by
  rw [lcGo_flat (fun d => if p d = true then [d] else []) ds β h]
  congr 2
  clear h
  induction ds with
  | nil => rfl
  | cons d ds ih =>
    rw [List.flatMap_cons, ih, List.filter_cons]
    split <;> rfl
theorem rngD_eq (n : Nat) : ∀ a : Nat, rngD (a : Int) n = (List.range n).map fun i => .int ((a + i : Nat) : Int) := by
  induction n with
  | zero => exact fun a => rfl
  | succ n ih =>
    intro a
    rw [rngD, List.range_succ_eq_map, List.map_cons, List.map_map]
    have := ih (a + 1)
    rw [show ((a : Int) + 1) = ((a + 1 : Nat) : Int) by omega, this]
    congr 1
    refine List.map_congr_left fun i _ => ?_
    show D.int _ = D.int _
    congr 1
    simp
    omega
theorem rngD_0 (n : Nat) : rngD 0 n = (List.range n).map fun i => .int (i : Int) := by
  have := rngD_eq n 0
  simp only [Nat.zero_add] at this
  exact this
theorem small62_nat {n : Nat} (h : n ≤ 16777216) : small62 (n : Int) = true := by
  unfold small62
  simp
  omega
theorem sm62 {i : Int} (h : -(2 ^ 62) ≤ i ∧ i < 2 ^ 62) : small62 i = true := by
  unfold small62
  simpa using h
open Classical in
/-- put at the end if it is not there -/
noncomputable def insD (l : List D) (d : D) : List D := if d ∈ l then l else l ++ [d]
noncomputable def dedup (l : List D) : List D := l.foldl insD []
theorem insD_mem {l : List D} {d x : D} : x ∈ insD l d ↔ x ∈ l ∨ x = d := by
  unfold insD
  split
  · rename_i h
    exact ⟨.inl, fun z => z.elim id fun e => e ▸ h⟩
  · simp
theorem insD_nodup {l : List D} {d : D} (h : l.Nodup) : (insD l d).Nodup := by
  unfold insD
  split
  · exact h
  · rename_i n
    rw [List.nodup_append]
    exact ⟨h, by simp, fun a ha b hb e => by simp at hb; subst hb; subst e; exact n ha⟩
theorem foldl_insD_mem {x : D} : ∀ {l acc : List D}, x ∈ l.foldl insD acc ↔ x ∈ acc ∨ x ∈ l
  | [], acc => by simp
  | d :: l, acc => by
    rw [List.foldl_cons, foldl_insD_mem, insD_mem, List.mem_cons]
    exact ⟨fun h => h.elim (fun h => h.elim .inl fun e => .inr (.inl e)) fun h => .inr (.inr h), fun h => h.elim (fun h => .inl (.inl h)) fun h => h.elim (fun e => .inl (.inr e)) .inr⟩
theorem dedup_mem {l : List D} {x : D} : x ∈ dedup l ↔ x ∈ l := by
  unfold dedup
  rw [foldl_insD_mem]
  simp
theorem foldl_insD_nodup : ∀ {l acc : List D}, acc.Nodup → (l.foldl insD acc).Nodup
  | [], acc, h => h
  | d :: l, acc, h => by rw [List.foldl_cons]; exact foldl_insD_nodup (insD_nodup h)
theorem dedup_nodup (l : List D) : (dedup l).Nodup := foldl_insD_nodup List.nodup_nil
theorem insD_len (l : List D) (d : D) : (insD l d).length ≤ l.length + 1 := by
  unfold insD
  split <;> simp
theorem foldl_insD_len : ∀ (l acc : List D), (l.foldl insD acc).length ≤ acc.length + l.length
  | [], acc => by simp
  | d :: l, acc => by
    rw [List.foldl_cons]
    have := foldl_insD_len l (insD acc d)
    have := insD_len acc d
    simp
    omega
end Dv

set_option Elab.async false
set_option linter.all false
set_option maxRecDepth 100000
set_option maxHeartbeats 4000000
/-! the class Book: what its __setitem__ does -/
namespace Dv
open PySem PySem.Spec PyProof.Rows L2
abbrev sO (x : String) : Str := Str.ofString x
def rowsT : List (String × List String) := [("over", ["wrap", "once", "any", "bad", "wrong"]), ("fresh", ["zero", "once", "any", "bad", "wrong"]), ("step", ["choose", "keep"]), ("select", ["choose", "keep", "wrong"]),
  ("merge", ["choose", "keep"]), ("store", ["choose", "keep", "wrong"]), ("print", ["choose", "wrong"]), ("test", ["choose", "wrong"]), ("idle", ["stay", "wrong"])]
def rowKs : List D := rowsT.map fun p => .str (sO p.1)
def ROWSd : D := .dct rowKs (rowsT.map fun p => .tup (p.2.map fun r => .str (sO r)))
/-- a rule of the row -/
def RuleOk (row rule : Str) : Prop := ∃ p ∈ rowsT, row = sO p.1 ∧ ∃ r ∈ p.2, rule = sO r
theorem any_lit {r : String} : ∀ {l : List String}, r ∈ l → ((l.map fun r => D.str (sO r)).any fun z => eqF z (.str (sO r))) = true
  | x :: l, h => by
    rw [List.map_cons, List.any_cons, Bool.or_eq_true]
    rcases List.mem_cons.mp h with rfl | h
    · exact .inl (by simp)
    · exact .inr (any_lit h)
theorem all_flat (l : List String) : (l.map fun r => D.str (sO r)).all flatD = true := by
  simp [List.all_map]
theorem rows_at {p : String × List String} (hp : p ∈ rowsT) : dctKeyR rowKs (rowsT.map fun p => .tup (p.2.map fun r => .str (sO r))) (.str (sO p.1)) = .ok (some (.tup (p.2.map fun r => .str (sO r)))) := by
  simp only [rowsT, List.mem_cons, List.not_mem_nil, or_false] at hp
  rcases hp with rfl | rfl | rfl | rfl | rfl | rfl | rfl | rfl | rfl <;> simp [rowKs, rowsT]
theorem den_rule {G : GEnv} {s0 : SV} {row rule : Str} {n : Str} (hcon : G.con 1 = some (n, ROWSd)) (h : RuleOk row rule) : denT G (.some (.p2 .nmem (.var 2) (.p2 .idx (.con 1) (.var 1)))) [s0, .v (.str row), .v (.str rule)] = .ok (false, [s0, .v (.str row), .v (.str rule)]) := by
  obtain ⟨p, hp, rfl, r, hr, rfl⟩ := h
  have e := rows_at hp
  simp [hcon, ROWSd, e, all_flat, -List.all_map, -List.any_map]
  exact ⟨_, ⟨r, hr, rfl⟩, by simp⟩
/-- what __setitem__ promises: the rule is a rule of the row, the row is there -/
def spSI (C : Addr) : Sp := fun vs H Q _ => ∃ a dx t kvs row rule, vs = [.ref a, .str row, .str rule] ∧ H a = some (.ins C dx [("table", .ref t)]) ∧ H t = some (.dK kvs) ∧ (valV kvs (Sum.inr row : Key)).isSome = true ∧ RuleOk row rule ∧ kvs.length < sizeLine ∧
  ∀ H', (∀ b u, b ≠ t → H b = some u → H' b = some u) → H' t = some (.dK (putK kvs (Sum.inr row : Key) (.str rule))) → Q .non H'
section
variable {P : Program} {w : World} {K : PySem.W.Frag} {mg : Str → Option Value} {base : Heap} {k : Nat} {f Cb : Addr} {fd : FuncData} {qual : Str} {st : Stmt} {C : CC} {rs : Stmt} {n : Str}
  {p1 p2 p3 p4 p5 p6 p7 p8 p9 p10 p11 q1 q2 q3 q4 q5 q6 : Pos}
theorem setitem_ok (F : Fun K "__setitem__" qual st f fd) (S : FnScope ["self", "row", "rule"] ["self", "row", "rule"] (defScope st)) (g : GAt P w K mg base k C.G) (c : CAt mg C) (hN : C.N = (["self", "row", "rule"] : List Str)) (hcx : C.cx "ROWS" = some 1) (hcon : C.G.con 1 = some (n, ROWSd))
    (cl : Cls K Cb) (nt : NoAttr K Cb "table") (hgs : Gs ⟨defScope st, fun _ => true⟩ "ROWS") (v1 : L2.Vis (defScope st) "row") (v2 : L2.Vis (defScope st) "rule") (v0 : L2.Vis (defScope st) "self")
    (hb : defBody st = [.If (.BoolOp .Or [.Compare (.Name "row" p1) [.NotIn] [.Attribute (.Name "self" p2) "table" p3] p4, .Compare (.Name "rule" p5) [.NotIn] [.Subscript (.Name "ROWS" p6) (.Name "row" p7) p8] p9] p10) [rs] [] p11,
      .Assign [.Subscript (.Attribute (.Name "self" q1) "table" q2) (.Name "row" q3) q4] (.Name "rule" q5) q6]) :
    FnOk P w K mg base (L2.CX P w) (k + 1) f fd ["self", "row", "rule"] (spSI Cb) := by
  obtain ⟨oc, od, kV, doc, pm, an, cdv, ct, osl, rfl, lk, hcd⟩ := F.ex
  refine fn_of lk hcd S (fun vs H Q E ⟨a, dx, t, kvs, row, rule, e, _⟩ => by rw [e]; rfl) fun A outer s H vs Q E hr hsp => ?_
  have gd := good_of (CX := L2.CX P w) (ps := ["self", "row", "rule"]) (qual := qual) (scope := defScope st) (f := f) (cd := cdv) (A := A) (outer := outer) (s := s) (H := H) (E := E) hN S.nd hr g c
  have hu : (cxOf (L2.CX P w) P w K mg base ["self", "row", "rule"] qual (defScope st) f cdv A outer s H E).A.units + 1 < cLine := by
    have := gd.un
    show (A.deeper _).units + 1 < cLine
    have e : (A.deeper (envOfC qual (defScope st) s.heap.objs.size f cdv)).units + 100 < cLine := this
    omega
  rw [hb]
  have mB : ME C ⟨defScope st, fun _ => true⟩ (.Compare (.Name "rule" p5) [.NotIn] [.Subscript (.Name "ROWS" p6) (.Name "row" p7) p8] p9) (.p2 .nmem (.var 2) (.p2 .idx (.con 1) (.var 1))) :=
    .cmp .nmem rfl (.var (by rw [hN]; rfl) v2 (by decide) (by decide)) (.sub rfl (.con hgs hcx (by decide)) (.var (by rw [hN]; rfl) v1 (by decide) (by decide)))
  have pB := (me_ok mB gd).tt
  refine ⟨_, PSs.nox (pss_cons (ps_if (PW.pt (pw_or (pt_cmp (pc_dnotin hu (pe_var (i := 1) rfl v1) (pe_fld (pe_var (i := 0) rfl v0) rfl)) rfl) (pw_or1 pB))) (pss_one (ps_never (st := rs))) pss_nil) (pss_one (ps_dput hu (pe_fld (pe_var (i := 0) rfl v0) rfl) (pe_var (i := 1) rfl v1) (pe_var (i := 2) rfl v2) rfl))), ?_⟩
  obtain ⟨a, dx, t, kvs, row, rule, rfl, hH, ht, hin, hrule, hlen, hQ⟩ := hsp
  refine ⟨_, rfl, _, rfl, a, Cb, dx, _, _, rfl, hH, cl, nt, rfl, t, _, rfl, DGet.k (k := (Sum.inr row : Key)) ht, _, rfl, ?_⟩
  rw [hin]
  refine ⟨fun b => H b ≠ none, H, [], [], [.un, .v (.str row), .v (.str rule)], ⟨rfl, [], ?_, List.nodup_nil, fun a h => (nomatch h), Same.refl H, fun b hb => hb⟩, false, _, den_rule hcon hrule, fun H1 rl => ?_⟩
  · exact .cons (as := []) (.un _) (.cons (as := []) (.v (.str _)) (.cons (as := []) (.v (.str _)) .nil))
  · obtain ⟨L, rr⟩ := rl
    have sm := rr.same
    refine ⟨_, rfl, _, rfl, a, Cb, dx, _, _, rfl, sm _ _ hH, cl, nt, rfl, _, rfl, t, _, rfl, DPut.k (k := (Sum.inr row : Key)) (sm _ _ ht) hlen, ?_⟩
    refine hQ _ (fun b u hb e => ?_) upd_same
    rw [upd_ne hb]
    exact sm _ _ e
end
end Dv

set_option Elab.async false
set_option linter.all false
set_option maxRecDepth 100000
set_option maxHeartbeats 4000000
/-! the class Book: what its __init__ does -/
namespace Dv
open PySem PySem.Spec PyProof.Rows L2
abbrev Tb : Type := List (Str × Str)
def tab0 : Tb := rowsT.map fun p => (sO p.1, sO (p.2.headD ""))
def tabPut (T : Tb) (p : Str × Str) : Tb := T.map fun q => if q.1 = p.1 then (q.1, p.2) else q
def bookTab (ps : Tb) : Tb := ps.foldl tabPut tab0
def tabK (T : Tb) : List (Key × V) := T.map fun q => ((Sum.inr q.1 : Key), V.str q.2)
def tabD (T : Tb) : D := .dct (T.map fun q => .str q.1) (T.map fun q => .str q.2)
theorem tabPut_keys (T : Tb) (p : Str × Str) : (tabPut T p).map (·.1) = T.map (·.1) := by
  unfold tabPut
  rw [List.map_map]
  refine List.map_congr_left fun q _ => ?_
  show (if q.1 = p.1 then (q.1, p.2) else q).1 = q.1
  split <;> rfl
theorem fold_keys (ps : Tb) : ∀ T : Tb, (ps.foldl tabPut T).map (·.1) = T.map (·.1) := by
  induction ps with
  | nil => exact fun T => rfl
  | cons p ps ih => exact fun T => by rw [List.foldl_cons, ih, tabPut_keys]
theorem tabK_put {T : Tb} {p : Str × Str} (h : p.1 ∈ T.map (·.1)) : putK (tabK T) (Sum.inr p.1 : Key) (.str p.2) = tabK (tabPut T p) := by
  unfold putK
  have ha : ((tabK T).any fun kv => decide (kv.1 = (Sum.inr p.1 : Key))) = true := by
    obtain ⟨q, hq, e⟩ := List.mem_map.mp h
    rw [List.any_eq_true]
    refine ⟨(Sum.inr q.1, .str q.2), List.mem_map_of_mem (f := fun q : Str × Str => ((Sum.inr q.1 : Key), V.str q.2)) hq, ?_⟩
    simp [e]
  rw [if_pos ha]
  unfold tabK tabPut
  rw [List.map_map, List.map_map]
  refine List.map_congr_left fun q _ => ?_
  show (if (Sum.inr q.1 : Key) = Sum.inr p.1 then ((Sum.inr q.1 : Key), V.str p.2) else (Sum.inr q.1, V.str q.2)) = ((Sum.inr (if q.1 = p.1 then (q.1, p.2) else q).1 : Key), V.str (if q.1 = p.1 then (q.1, p.2) else q).2)
  by_cases e : q.1 = p.1
  · rw [if_pos e, if_pos (congrArg Sum.inr e)]
  · rw [if_neg e, if_neg (fun z => e (Sum.inr.inj z))]
theorem tabK_has {T : Tb} {k : Str} (h : k ∈ T.map (·.1)) : (valV (tabK T) (Sum.inr k : Key)).isSome = true := by
  unfold valV
  rw [Option.isSome_map, List.find?_isSome]
  obtain ⟨q, hq, e⟩ := List.mem_map.mp h
  exact ⟨(Sum.inr q.1, .str q.2), List.mem_map_of_mem (f := fun q : Str × Str => ((Sum.inr q.1 : Key), V.str q.2)) hq, by simp [e]⟩
theorem rule_key {r s : Str} (h : RuleOk r s) : r ∈ tab0.map (·.1) := by
  obtain ⟨p, hp, rfl, _⟩ := h
  unfold tab0
  rw [List.map_map]
  exact List.mem_map_of_mem (f := fun p : String × List String => sO p.1) hp
structure RowsOk (ps : Tb) : Prop where
  nd : (ps.map (·.1)).Nodup
  ok : ∀ p ∈ ps, RuleOk p.1 p.2
def bookD (T : Tb) : D := .obj "Book" ["table"] [tabD T]
open Classical in
noncomputable def bookInit (ds : List D) : Res SV := if h : ∃ ps : Tb, ds = [tabD ps] ∧ RowsOk ps then .ok (.oi "Book" ["table"] [tabD (bookTab h.choose)]) else .fail
theorem tabD_inj : ∀ {T U : Tb}, (T.map fun q => D.str q.1) = (U.map fun q => D.str q.1) → (T.map fun q => D.str q.2) = (U.map fun q => D.str q.2) → T = U
  | [], [], _, _ => rfl
  | [], _ :: _, h, _ => by simp at h
  | _ :: _, [], h, _ => by simp at h
  | (a, b) :: T, (c, d) :: U, h, k => by
    simp only [List.map_cons, List.cons.injEq, D.str.injEq] at h k
    rw [tabD_inj h.2 k.2, h.1, k.1]
theorem bookInit_eq {ps : Tb} (h : RowsOk ps) : bookInit [tabD ps] = .ok (.oi "Book" ["table"] [tabD (bookTab ps)]) := by
  unfold bookInit
  have ex : ∃ qs : Tb, [tabD ps] = [tabD qs] ∧ RowsOk qs := ⟨ps, rfl, h⟩
  rw [dif_pos ex]
  have e : ps = ex.choose := by
    have e0 := ex.choose_spec.1
    injection e0 with e1 _
    unfold tabD at e1
    injection e1 with e2 e3
    exact tabD_inj e2 e3
  exact congrArg (fun z => Res.ok (SV.oi "Book" ["table"] [tabD (bookTab z)])) e.symm
theorem bookInit_ok {ds : List D} {r : SV} (h : bookInit ds = .ok r) : ∃ ps, ds = [tabD ps] ∧ RowsOk ps ∧ r = .oi "Book" ["table"] [tabD (bookTab ps)] := by
  unfold bookInit at h
  split at h
  · rename_i ex
    cases h
    exact ⟨ex.choose, ex.choose_spec.1, ex.choose_spec.2, rfl⟩
  · cases h
/-! ### o[k] = v of an own class -/
def tSetOwn (C : Addr) (sp : Sp) : TSet := fun o i v H Q => ∃ a dx fs, o = .ref a ∧ H a = some (.ins C dx fs) ∧ sp [o, i, v] H (fun _ H' => Q H') E0
theorem set_ownB {X : Cx} {C f : Addr} {fd : FuncData} {ps : List Str} {sp : Sp} {j : Nat} (mt : Meth X.K C "__setitem__" f) (nq : PySem.W.noSeq X.K C = true) (hb : Binds X.K fd ps []) (ok : FnOk X.prog X.w X.K X.mg X.base (L2.CX X.prog X.w) j f fd ps sp) (hr : Room j X.A) : PSet X (tSetOwn C sp) := by
  intro pins s σ H o i v ov iv u Q I ro ri rv ⟨a, dx, fs, e, hH, hs⟩
  subst e
  obtain rfl : ov = Value.ref a := ro
  obtain ⟨mA, O, _⟩ := ins_get I.hok hH
  obtain ⟨od, J, _⟩ := O.look
  obtain ⟨m, hn, _⟩ := I.loc
  refine PySem.W.ksp_setItem (h₀ := X.base) (L := X.env.locals) (m := m) ⟨hn, fun b o e => (I.bs b o e).1, Nat.le_trans I.ok.bsz I.ok.above⟩ I.ok.mod.kin J nq mt.at_ mt.fn ?_
  refine wpAny_mono (run_fn (us := [.ref a, iv, u]) (vs := [.ref a, i, v]) ok hr hb .nil pass0 I (.cons rfl (.cons ri (.cons rv .nil))) (by rw [List.append_nil]; exact hs)) (fun w s' ⟨x, H', I', _, q⟩ => ⟨H', I', q⟩) fun _ _ z => z
/-! ### the table of a new book -/
def ceTab : CE := .dc [3, 2] (.nm 2) (.ckeys 1) (.var 2) (.p2 .idx (.p2 .idx (.con 1) (.var 2)) (.lit (.int 0)))
@[simp] theorem denI_ckeys {G : GEnv} {α : AEnv} {n : Str} {k : Nat} {ks vs : List D} (h : G.con k = some (n, .dct ks vs)) : denI G (.ckeys k) α = .ok (ks, α) := by
  rw [denI, h]
theorem den_tab {G : GEnv} {n : Str} (hcon : G.con 1 = some (n, ROWSd)) : den G ceTab [.un, .un, .un, .un] = .ok (.od (tab0.map fun q => .str q.1) (tab0.map fun q => .str q.2), [.un, .un, .un, .un]) := by
  simp [ceTab, denI_ckeys (show G.con 1 = some (n, .dct _ _) from hcon), hcon, ROWSd, rowKs, rowsT, tab0, dcGo, dcT, dctPut]
end Dv

set_option Elab.async false
set_option linter.all false
set_option maxRecDepth 100000
set_option maxHeartbeats 4000000
/-! Book.__init__ -/
namespace Dv
open PySem PySem.Spec PyProof.Rows L2
theorem PS.or {X : Cx} {st : Stmt} {t u : TS} (h1 : PS X st t) (h2 : PS X st u) : PS X st (fun D σ H => t D σ H ∨ u D σ H) :=
  ⟨fun pins s σ H D I h => h.elim (h1.run pins s σ H D I) (h2.run pins s σ H D I)⟩
abbrev cIdx : CE := .p2 .idx (.var 1) (.var 2)
theorem tab_look : ∀ {ps : Tb}, (ps.map (·.1)).Nodup → ∀ {p : Str × Str}, p ∈ ps → dctAt (ps.map fun q => .str q.1) (ps.map fun q => .str q.2) (.text p.1) = some (.str p.2)
  | q :: ps, nd, p, h => by
    rw [List.map_cons, List.nodup_cons] at nd
    rw [List.map_cons, List.map_cons, dctAt_ss]
    rcases List.mem_cons.mp h with rfl | h
    · rw [if_pos rfl]
    · rw [if_neg (fun e => nd.1 (by rw [e]; exact List.mem_map_of_mem h))]
      exact tab_look nd.2 h
theorem den_cIdx {G : GEnv} {s0 s3 : SV} {ps : Tb} (nd : (ps.map (·.1)).Nodup) {p : Str × Str} (h : p ∈ ps) : den G cIdx [s0, .v (tabD ps), .v (.str p.1), s3] = .ok (.v (.str p.2), [s0, .v (tabD ps), .v (.str p.1), s3]) := by
  have e := tab_look nd h
  have hf : (ps.map fun q => D.str q.1).all flatKey = true := by simp [List.all_map]
  simp only [cIdx, tabD, den_p2, dO_var, List.getElem?_cons_succ, List.getElem?_cons_zero, kV_v, kP2_ok, kP2b_ok, fin_varE, kF_v, kP2c_ok, kP2d_ok, op2_idx_dct, SV.d_v, dctKeyR_str, hf, if_true, e, dgR_ok, kE_ok]
section
variable {R : RC} {V₀ H : Hp} {d : Addr} {ps : Tb}
theorem kd_str : ∀ {kvs : List (Key × V)} {ps : Tb}, (kvs.map fun p => kD p.1) = ps.map (fun q => D.str q.1) → (kvs.map fun p => kV p.1) = ps.map fun q => V.str q.1
  | [], [], _ => rfl
  | [], _ :: _, h => by simp at h
  | _ :: _, [], h => by simp at h
  | (k, v) :: kvs, q :: ps, h => by
    simp only [List.map_cons, List.cons.injEq] at h ⊢
    refine ⟨?_, kd_str h.2⟩
    cases k with
    | inl i => cases h.1
    | inr x =>
      have := h.1
      simp only [kD, D.str.injEq] at this
      rw [this]
      rfl
def isDct : HO → Prop
  | .dK _ => True
  | .ext _ => True
  | _ => False
/-- the rows given: walkable now, or to be locked -/
theorem rows_kd (r : Rep R V₀ (.ref d) (tabD ps)) (hs : ∀ b u, V₀ b = some u → H b = some u) : (∃ o, KD R d o (ps.map fun q => .str q.1) H) ∨ ∃ u, V₀ d = some u ∧ Mut (some u) ∧ isDct u ∧ ∀ od H', H' d = some (.frz od u) → KD R d od (ps.map fun q => .str q.1) H' := by
  generalize e : tabD ps = D at r
  unfold tabD at e
  cases r with
  | @dK _ kvs ds h rp =>
    injection e with e1 e2
    have e3 := kd_str e1.symm
    rcases h with h | ⟨o, h⟩
    · exact .inr ⟨_, h, trivial, trivial, fun od H' h' => .inl ⟨kvs, h', e3.symm⟩⟩
    · exact .inl ⟨o, .inl ⟨kvs, hs _ _ h, e3.symm⟩⟩
  | @dT _ es ks ds h rk hk rp =>
    injection e with e1 e2
    subst e1
    have e0 : es = [] ∧ ps = [] := by
      cases es with
      | nil =>
        cases ps with
        | nil => exact ⟨rfl, rfl⟩
        | cons p ps => cases rk
      | cons e es =>
        cases ps with
        | nil => cases rk
        | cons p ps => cases rk with | cons h _ => cases h
    obtain ⟨rfl, rfl⟩ := e0
    rcases h with h | ⟨o, h⟩
    · exact .inr ⟨_, h, trivial, trivial, fun od H' h' => .inr (.inl ⟨[], h', rfl⟩)⟩
    · exact .inl ⟨o, .inr (.inl ⟨[], hs _ _ h, rfl⟩)⟩
  | @dW _ kvs ds hw rp =>
    injection e with e1 e2
    obtain ⟨h1, h2, h3, es, n, q, kl, pr⟩ := id hw
    have e3 : (kvs.map fun p => V.str p.1) = ps.map fun q => V.str q.1 := by
      have : ∀ {kvs : List (Str × V)} {ps : Tb}, (ps.map fun q => D.str q.1) = kvs.map (fun p => D.str p.1) → (kvs.map fun p => V.str p.1) = ps.map fun q => V.str q.1 := by
        intro kvs
        induction kvs with
        | nil => intro ps h; cases ps with
          | nil => rfl
          | cons _ _ => simp at h
        | cons k kvs ih => intro ps h; cases ps with
          | nil => simp at h
          | cons p ps =>
            simp only [List.map_cons, List.cons.injEq, D.str.injEq] at h ⊢
            exact ⟨by rw [h.1], ih h.2⟩
      exact this e1
    exact .inl ⟨_, .inr (.inr ⟨kvs, hw, q, e3.symm⟩)⟩
  | tup => cases e
  | lst => cases e
  | obj => cases e
theorem KD.keeps {H' : Hp} {o : Obj} {vs : List V} (k : KD R d o vs H) (h : ∀ u, H d = some u → H' d = some u) : KD R d o vs H' := by
  rcases k with ⟨kvs, h1, h2⟩ | ⟨es, h1, h2⟩ | k
  · exact .inl ⟨kvs, h _ h1, h2⟩
  · exact .inr (.inl ⟨es, h _ h1, h2⟩)
  · exact .inr (.inr k)
theorem KD.keepsT {t : Addr} {z : List (Key × V)} {H' : Hp} {o : Obj} {vs : List V} (k : KD R d o vs H) (ht : H t = some (.dK z)) (h : ∀ b u, b ≠ t → H b = some u → H' b = some u) : KD R d o vs H' := by
  rcases k with ⟨kvs, h1, h2⟩ | ⟨es, h1, h2⟩ | k
  · exact .inl ⟨kvs, h _ _ (fun e => by rw [e, ht] at h1; cases h1) h1, h2⟩
  · exact .inr (.inl ⟨es, h _ _ (fun e => by rw [e, ht] at h1; cases h1) h1, h2⟩)
  · exact .inr (.inr k)
end
theorem book_keys (ps : Tb) : (bookTab ps).map (·.1) = tab0.map (·.1) := fold_keys ps tab0
theorem take_fold {ps : Tb} {i : Nat} {p : Str × Str} (h : ps[i]? = some p) : bookTab (ps.take (i + 1)) = tabPut (bookTab (ps.take i)) p := by
  unfold bookTab
  have hi := (List.getElem?_eq_some_iff.mp h).1
  rw [List.take_add_one, h]
  simp [List.foldl_append]
theorem tab_len (ps : Tb) : (tabK (bookTab ps)).length < sizeLine := by
  have h1 := congrArg List.length (book_keys ps)
  rw [List.length_map, List.length_map] at h1
  unfold tabK
  rw [List.length_map, h1, sizeLine_eq]
  decide
section
variable {X : Cx} {G : GEnv}
/-- the loop over the rows that are given -/
theorem rows_loop {Z : Addr → Prop} {D : Ends} {a d t Cb dx : Addr} {o2 o3 : Option V} {o : Obj} {ps : Tb} {Hs : Hp} (kd : KD (rc X) d o (ps.map fun q => .str q.1) Hs) (ha : Hs a = some (.ins Cb dx [("table", .ref t)])) (ht : Hs t = some (.dK (tabK tab0))) (hps : RowsOk ps) (ta : t ≠ a)
    (hrep : ∀ H', (∀ b u, b ≠ t → Hs b = some u → H' b = some u) → Rep (rc X) (vis Z [] H') (.ref d) (tabD ps) ∧ ∀ b, Z b → H' b ≠ none)
    (hend : ∀ σ' H', (∀ b u, b ≠ t → Hs b = some u → H' b = some u) → H' t = some (.dK (tabK (bookTab ps))) → D.nx σ' H') :
    tFor (iDictD (rc X) (tVar 1)) (gName 2) (tAsg (lift X G cIdx) (gSub (tVar 0) (tVar 2) (tSetOwn Cb (spSI Cb)))) D [some (.ref a), some (.ref d), o2, o3] Hs := by
  refine ⟨.ref d, rfl, d, o, _, rfl, kd, fun i m σ H => m = ps.length - i ∧ (∃ o2, σ = [some (.ref a), some (.ref d), o2, o3]) ∧ (∀ b u, b ≠ t → Hs b = some u → H b = some u) ∧ H t = some (.dK (tabK (bookTab (ps.take i)))), ⟨_, rfl, ⟨_, rfl⟩, fun b u _ h => h, ht⟩, ?_⟩
  rintro i m σ H ⟨rfl, ⟨o2', rfl⟩, hk, htt⟩
  have kd' : KD (rc X) d o (ps.map fun q => .str q.1) H := kd.keepsT ht hk
  by_cases hi : i < ps.length
  · right
    refine ⟨⟨kd', by simpa using hi⟩, fun σ' H' => (∃ o2, σ' = [some (.ref a), some (.ref d), o2, o3]) ∧ (∀ b u, b ≠ t → Hs b = some u → H' b = some u) ∧ H' t = some (.dK (tabK (bookTab (ps.take (i + 1))))), fun σ' H' ⟨h1, h2, h3⟩ => ⟨ps.length - (i + 1), by omega, rfl, h1, h2, h3⟩, ?_⟩
    rintro x H' ⟨rfl, hx⟩
    have hp : ps[i]? = some ps[i] := List.getElem?_eq_getElem hi
    have hx' : x = .str ps[i].1 := by
      rw [List.getElem?_map, hp] at hx
      exact (Option.some.inj hx).symm
    subst hx'
    obtain ⟨r1, hz⟩ := hrep H' hk
    have hm : ps[i] ∈ ps := List.getElem_mem hi
    refine ⟨Z, H', [], [], [.un, .v (tabD ps), .v (.str ps[i].1), .un], ⟨rfl, [], ?_, List.nodup_nil, fun a h => (nomatch h), Same.refl H', hz⟩, _, _, den_cIdx hps.nd hm, fun v H1 hu rl => ?_⟩
    · exact .cons (as := []) (.un _) (.cons (as := []) (.v r1) (.cons (as := []) (.v (.str _)) (.cons (as := []) (.un _) .nil)))
    · obtain ⟨L, rr⟩ := rl
      obtain ⟨y, g1, g2⟩ := rr.rep (i := 0) rfl
      have g1' : v = y := by simpa using g1
      subst g1'
      cases g2
      have sm := rr.same
      refine ⟨_, rfl, _, rfl, a, dx, _, rfl, sm _ _ (hk _ _ (fun z => ta z.symm) ha), a, dx, t, _, ps[i].1, ps[i].2, rfl, sm _ _ (hk _ _ (fun z => ta z.symm) ha), sm _ _ htt, ?_, hps.ok _ hm, tab_len _, fun H2 k2 t2 => ?_⟩
      · exact tabK_has (by rw [book_keys]; exact rule_key (hps.ok _ hm))
      · refine ⟨⟨_, rfl⟩, fun b u hb h => k2 b u hb (sm _ _ (hk b u hb h)), ?_⟩
        rw [t2, tabK_put (by rw [book_keys]; exact rule_key (hps.ok _ hm)), take_fold hp]
  · left
    refine ⟨⟨kd', by simpa using hi⟩, hend _ _ hk ?_⟩
    rw [htt, List.take_of_length_le (by omega)]
end
end Dv

set_option Elab.async false
set_option linter.all false
set_option maxRecDepth 100000
set_option maxHeartbeats 4000000
/-! Book.__init__: the promise -/
namespace Dv
open PySem PySem.Spec PyProof.Rows L2
/-- what the table's display leaves -/
theorem ent_tab {R : RC} {V₀ H : Hp} {v : V} {as : List Addr} {T : Tb} (hT : T ≠ []) (e : Ent R V₀ H (some v) (.od (T.map fun q => .str q.1) (T.map fun q => .str q.2)) as) : ∃ t, v = .ref t ∧ as = [t] ∧ H t = some (.dK (tabK T)) := by
  generalize hs : SV.od (T.map fun q => .str q.1) (T.map fun q => .str q.2) = s at e
  cases e with
  | @odK a kvs ds h rp =>
    injection hs with e1 e2
    refine ⟨a, rfl, rfl, ?_⟩
    rw [h]
    congr 2
    subst e2
    clear h hT
    revert kvs
    induction T with
    | nil => intro kvs e1 rp; cases kvs with
      | nil => rfl
      | cons _ _ => simp at e1
    | cons q T ih =>
      intro kvs e1 rp
      cases kvs with
      | nil => simp at e1
      | cons kv kvs =>
        simp only [List.map_cons, List.cons.injEq] at e1
        cases rp with
        | cons r1 r2 =>
          show kv :: kvs = ((Sum.inr q.1 : Key), V.str q.2) :: tabK T
          rw [ih e1.2 r2]
          congr 1
          obtain ⟨k, v⟩ := kv
          have r1' : Rep R V₀ v (.str q.2) := r1
          cases r1'
          cases k with
          | inl i => cases e1.1
          | inr x =>
            have := e1.1
            simp only [kD, D.str.injEq] at this
            rw [this]
  | @odT a es ks ds hne h rk hk rp =>
    injection hs with e1 e2
    subst e1
    cases T with
    | nil => exact absurd rfl hT
    | cons q T =>
      cases es with
      | nil => exact absurd rfl hne
      | cons e es => cases rk with | cons h _ => cases h
  | un => cases hs
  | v => cases hs
  | ol => cases hs
  | oi => cases hs
section
variable {P : Program} {w : World} {K : PySem.W.Frag} {mg : Str → Option Value} {base : Heap} {k j : Nat} {f f2 Cb : Addr} {fd fd2 : FuncData} {qual : Str} {st : Stmt} {C : CC} {n : Str} {eT : Expr} {sps : List Str}
  {p1 p2 p3 p4 p5 p6 q1 q2 q3 q4 q5 q6 q7 : Pos}
theorem bookinit_ok (F : Fun K "__init__" qual st f fd) (S : FnScope ["self", "rows", "row", ".0"] ["self", "rows"] (defScope st)) (g : GAt P w K mg base k C.G) (c : CAt mg C) (hN : C.N = (["self", "rows", "row", ".0"] : List Str)) (hcon : C.G.con 1 = some (n, ROWSd))
    (hmB : mg "Book" = some (.ref Cb)) (cl : Cls K Cb) (nt : NoAttr K Cb "table") (mt : Meth K Cb "__setitem__" f2) (nq : PySem.W.noSeq K Cb = true) (hb2 : Binds K fd2 sps []) (ok2 : FnOk P w K mg base (L2.CX P w) j f2 fd2 sps (spSI Cb)) (hj : j ≤ k)
    (hME : ME C ⟨defScope st, fun _ => true⟩ eT ceTab) (v0 : L2.Vis (defScope st) "self") (v1 : L2.Vis (defScope st) "rows") (v2 : L2.Vis (defScope st) "row") (l2 : L2.Loc (defScope st) "row")
    (hb : defBody st = [.Assign [.Attribute (.Name "self" p1) "table" p2] eT p3, .For (.Name "row" p4) (.Name "rows" p5) [.Assign [.Subscript (.Name "self" q1) (.Name "row" q2) q3] (.Subscript (.Name "rows" q4) (.Name "row" q5) q6) q7] [] p6]) :
    FnOk P w K mg base (L2.CX P w) (k + 1) f fd ["self", "rows"] (spInit ⟨P, w, K, mg⟩ "Book" 1 bookInit) := by
  obtain ⟨oc, od, kV, doc, pm, an, cdv, ct, osl, rfl, lk, hcd⟩ := F.ex
  refine fn_of lk hcd S (fun vs H Q E q => by rw [q.1]; rfl) fun A outer s H vs Q E hr hsp => ?_
  have gd := good_of (CX := L2.CX P w) (ps := ["self", "rows"]) (qual := qual) (scope := defScope st) (f := f) (cd := cdv) (A := A) (outer := outer) (s := s) (H := H) (E := E) hN S.nd hr g c
  rw [hb]
  have pT := (me_ok hME gd).lf
  have mR : ME C ⟨defScope st, fun _ => true⟩ (.Subscript (.Name "rows" q4) (.Name "row" q5) q6) cIdx := .sub rfl (.var (by rw [hN]; rfl) v1 (by decide) (by decide)) (.var (by rw [hN]; rfl) v2 (by decide) (by decide))
  have pR := (me_ok mR gd).lf
  have hr2 : Room j (cxOf (L2.CX P w) P w K mg base ["self", "rows", "row", ".0"] qual (defScope st) f cdv A outer s H E).nox.A := hr.mono hj
  have hfor : PS (cxOf (L2.CX P w) P w K mg base ["self", "rows", "row", ".0"] qual (defScope st) f cdv A outer s H E).nox (.For (.Name "row" p4) (.Name "rows" p5) [.Assign [.Subscript (.Name "self" q1) (.Name "row" q2) q3] (.Subscript (.Name "rows" q4) (.Name "row" q5) q6) q7] [] p6) _ :=
    ps_for PassesOwn.never rfl (pi_dictD (pe_var (i := 1) rfl v1)) (pg_name (i := 2) S.nd rfl l2 (.inl rfl)) (pss_one (ps_asg pR (pg_sub (pe_var (i := 0) rfl v0) (pe_var (i := 2) rfl v2) (set_ownB mt nq hb2 ok2 hr2))))
  refine ⟨_, PSs.nox (pss_cons (ps_fld (pe_var (i := 0) rfl v0) pT swap_attr) (pss_one (PS.or hfor (ps_lock hfor)))), ?_⟩
  obtain ⟨hl, Z, a, Ca, dx, ws, ds, ns, es, rfl, hz, za, hm, hH, rp, e, o⟩ := hsp
  have eC : Ca = Cb := by
    have h1 : mg "Book" = some (.ref Ca) := hm
    rw [hmB] at h1
    cases h1
    rfl
  subst eC
  obtain ⟨ps, rfl, hps, er⟩ := bookInit_ok e
  cases er
  obtain ⟨x, us, rfl, rx, ru⟩ := (show ∃ x us, ws = x :: us ∧ Rep ⟨P, w, K, mg⟩ (vis Z [] H) x (tabD ps) ∧ Reps ⟨P, w, K, mg⟩ (vis Z [] H) us [] from rp.cons_inv)
  cases ru
  obtain ⟨d, rfl⟩ : ∃ d, x = .ref d := by
    generalize hD : tabD ps = DD at rx
    unfold tabD at hD
    cases rx <;> first | exact ⟨_, rfl⟩ | cases hD
  -- self.table = {..}
  refine ⟨Z, H, [], [], [.un, .un, .un, .un], ⟨rfl, [], ?_, List.nodup_nil, fun a h => (nomatch h), Same.refl H, hz⟩, _, _, den_tab hcon, fun v H1 hu rl => ?_⟩
  · exact .cons (as := []) (.un _) (.cons (as := []) (.un _) (.cons (as := []) (.un _) (.cons (as := []) (.un _) .nil)))
  obtain ⟨L, rr⟩ := rl
  have sm := rr.same
  obtain ⟨t, rfl, htf, ht⟩ : ∃ t, v = .ref t ∧ H t = none ∧ H1 t = some (.dK (tabK tab0)) := by
    have en := rr.ents
    cases en with
    | @cons _ _ as _ _ bs en q =>
      obtain ⟨t, h1, h2, h3⟩ := ent_tab (by decide) en
      exact ⟨t, h1, rr.fresh t (List.mem_append_left _ (by rw [h2]; exact List.mem_singleton.mpr rfl)), h3⟩
  have ta : t ≠ a := fun z => by rw [z, hH] at htf; cases htf
  refine ⟨.ref a, rfl, a, Ca, dx, [], rfl, sm _ _ hH, cl, nt, by decide, ?_⟩
  -- the heap ahead of the loop
  have sv : ∀ b u, vis Z [] H b = some u → upd H1 a (.ins Ca dx (putF "table" (.ref t) [])) b = some u := fun b u q => by
    obtain ⟨q1, q2, q3⟩ := vis_some q
    rw [upd_ne (fun z => q1 (by rw [z]; exact za))]
    exact sm _ _ q3
  have h2a : upd H1 a (.ins Ca dx (putF "table" (.ref t) [])) a = some (.ins Ca dx [("table", .ref t)]) := upd_same
  have h2t : upd H1 a (.ins Ca dx (putF "table" (.ref t) [])) t = some (.dK (tabK tab0)) := by rw [upd_ne ta]; exact ht
  have hst : start ["self", "rows", "row", ".0"] [.ref a, .ref d] = [some (.ref a), some (.ref d), none, none] := rfl
  -- the end: the promise's own
  have fin : ∀ H' : Hp, (∀ b u, b ≠ a → H b = some u → H' b = some u) → H' a = some (.ins Ca dx [("table", .ref t)]) → H' t = some (.dK (tabK (bookTab ps))) → Q .non H' := fun H' h1 h2 h3 => by
    refine o H' dx [("table", .ref t)] h1 h2 rfl (.cons ?_ .nil)
    have hv : vis Z [] H' t = some (.dK (tabK (bookTab ps))) := vis_of (fun z => hz t z htf) (fun z => nomatch z) h3
    have e1 : tabD (bookTab ps) = .dct ((tabK (bookTab ps)).map fun p => kD p.1) ((bookTab ps).map fun q => .str q.2) := by
      unfold tabD tabK
      rw [List.map_map]
      rfl
    rw [e1]
    refine .dK (.inl hv) ?_
    unfold tabK
    rw [List.map_map]
    generalize bookTab ps = T
    induction T with
    | nil => exact .nil
    | cons q T ih => exact .cons (.str _) ih
  rw [hst]
  rcases rows_kd rx sv with ⟨ob, kd⟩ | ⟨u, hu0, mu, isd, kd⟩
  · refine .inl (rows_loop (Z := Z) kd h2a h2t hps ta (fun H' hk => ⟨rx.mono (.of fun b u q => ?_), fun b z q => ?_⟩) fun σ' H' hk h3 => fin H' (fun b u hb q => ?_) (hk _ _ ta.symm h2a) h3)
    · obtain ⟨q1, q2, q3⟩ := vis_some q
      exact vis_of q1 q2 (hk _ _ (fun z => by rw [z, htf] at q3; cases q3) (sv _ _ q))
    · by_cases e : b = t
      · rw [e] at z; exact hz t z htf
      · by_cases e2 : b = a
        · rw [e2, hk _ _ ta.symm h2a] at q; cases q
        · cases hb : H b with
          | none => exact hz b z hb
          | some u =>
            have : H' b = some u := hk _ _ e (by rw [upd_ne e2]; exact sm _ _ hb)
            rw [this] at q; cases q
    · have hbt : b ≠ t := fun z => by rw [z, htf] at q; cases q
      exact hk _ _ hbt (by rw [upd_ne hb]; exact sm _ _ q)
  · obtain ⟨d1, d2, d3⟩ := vis_some hu0
    have hda : d ≠ a := fun z => d1 (by rw [z]; exact za)
    have hdt : d ≠ t := fun z => by rw [z, htf] at d3; cases d3
    refine .inr ⟨d, u, sv _ _ hu0, mu, fun od => ?_⟩
    have l_d : upd (upd H1 a (.ins Ca dx (putF "table" (.ref t) []))) d (.frz od u) d = some (.frz od u) := upd_same
    have l_o : ∀ b, b ≠ d → upd (upd H1 a (.ins Ca dx (putF "table" (.ref t) []))) d (.frz od u) b = upd H1 a (.ins Ca dx (putF "table" (.ref t) [])) b := fun b h => upd_ne h
    have kb : ∀ {H' : Hp}, (∀ b u', b ≠ t → upd (upd H1 a (.ins Ca dx (putF "table" (.ref t) []))) d (.frz od u) b = some u' → H' b = some u') → ∀ b x, b ≠ d → vis Z [] H b = some x → vis Z [] H' b = some x := fun hk b x hb q => by
      obtain ⟨q1, q2, q3⟩ := vis_some q
      exact vis_of q1 q2 (hk _ _ (fun z => by rw [z, htf] at q3; cases q3) (by rw [l_o _ hb]; exact sv _ _ q))
    refine rows_loop (Z := Z) (kd od _ l_d) (by rw [l_o _ hda.symm]; exact h2a) (by rw [l_o _ hdt.symm]; exact h2t) hps ta (fun H' hk => ⟨rx.mono ⟨fun b u' q => ?_, fun b C' dx' fs q => ?_, fun b ob xs q => ?_⟩, fun b z q => ?_⟩) fun σ' H' hk h3 => ?_
    · by_cases e : b = d
      · subst e
        rcases q with q | ⟨ob, q⟩
        · rw [hu0] at q
          cases q
          exact .inr ⟨od, vis_of d1 d2 (hk _ _ hdt l_d)⟩
        · rw [hu0] at q
          cases q
          exact isd.elim
      · rcases q with q | ⟨ob, q⟩
        · exact .inl (kb hk _ _ e q)
        · exact .inr ⟨ob, kb hk _ _ e q⟩
    · by_cases e : b = d
      · rw [e, hu0] at q; cases q; exact isd.elim
      · exact kb hk _ _ e q
    · by_cases e : b = d
      · rw [e, hu0] at q; cases q; exact isd.elim
      · exact kb hk _ _ e q
    · by_cases e : b = t
      · rw [e] at z; exact hz t z htf
      · by_cases e2 : b = a
        · rw [e2, hk _ _ ta.symm (by rw [l_o _ hda.symm]; exact h2a)] at q; cases q
        · by_cases e3 : b = d
          · rw [e3] at z; exact d1 z
          · cases hb : H b with
            | none => exact hz b z hb
            | some u' =>
              have : H' b = some u' := hk _ _ e (by rw [l_o _ e3, upd_ne e2]; exact sm _ _ hb)
              rw [this] at q; cases q
    · have h4 : H' d = some (.frz od u) := hk _ _ hdt l_d
      refine ⟨h4, fin _ (fun b u' hb q => ?_) ?_ ?_⟩
      · have hbt : b ≠ t := fun z => by rw [z, htf] at q; cases q
        by_cases e3 : b = d
        · rw [e3, upd_same]
          rw [e3, d3] at q
          exact q
        · rw [upd_ne e3]
          exact hk _ _ hbt (by rw [l_o _ e3, upd_ne hb]; exact sm _ _ q)
      · rw [upd_ne hda.symm]
        exact hk _ _ ta.symm (by rw [l_o _ hda.symm]; exact h2a)
      · rw [upd_ne hdt.symm]
        exact h3
end
end Dv

set_option Elab.async false
set_option linter.all false
set_option maxRecDepth 100000
set_option maxHeartbeats 4000000
/-! from a text's reading to the promise, for a def as the head tells it -/
namespace Dv
open PySem PySem.Spec PyProof.Rows L2 He
/-- a def's slots are as a def's are to be -/
def fscB (N ps : List Str) (sc : Scope) : Bool := decide (sc.kind = .function) && (!sc.isCoroutine && (!sc.isGenerator && (decide N.Nodup && (decide (N.take ps.length = ps) && (ps.all (fun x => decide (sc.names.lookup x = some .local) || decide (sc.names.lookup x = some .cell)) && sc.names.all (fun y => !decide (y.2 = .free)))))))
theorem fscB_ok {N ps : List Str} {sc : Scope} (h : fscB N ps sc = true) : FnScope N ps sc := by
  unfold fscB at h
  obtain ⟨h1, h⟩ := ba h
  obtain ⟨h2, h⟩ := ba h
  obtain ⟨h3, h⟩ := ba h
  obtain ⟨h4, h⟩ := ba h
  obtain ⟨h5, h⟩ := ba h
  obtain ⟨h6, h7⟩ := ba h
  refine ⟨of_decide_eq_true h1, by simpa using h2, by simpa using h3, of_decide_eq_true h4, of_decide_eq_true h5, fun x hx => ?_, fun y hy => ?_⟩
  · have := List.all_eq_true.mp h6 x hx
    rw [Bool.or_eq_true] at this
    exact this.imp of_decide_eq_true of_decide_eq_true
  · have := List.all_eq_true.mp h7 y hy
    simpa using this
section
variable {P : Program} {w : World} {K : PySem.W.Frag} {mg : Str → Option Value} {base : Heap} {x qual : Str} {params : Arguments} {body : List Stmt} {scope : Scope} {dvs : List V} {kws : List (Str × V)} {f : Addr} {fd : FuncData} {N ps : List Str} {k np nn : Nat} {C : CC} {cb : CB}
theorem fun_ofD {st : Stmt} (F : FunD K x qual (defArgs st) (defBody st) (defScope st) [] kws f fd) : Fun K x qual st f fd := by
  obtain ⟨oc, od, dV, kV, doc, pm, an, cdv, ct, osl, e, lk, hcd, hD, hK⟩ := F.ex
  rcases hD with ⟨_, rfl⟩ | ⟨e, _⟩
  · exact ⟨⟨oc, od, kV, doc, pm, an, cdv, ct, osl, e, lk, hcd⟩, F.kp⟩
  · exact absurd rfl e
theorem def_okD (F : FunD K x qual params body scope dvs kws f fd) (S : fscB N ps scope = true) (g : GAt P w K mg base k C.G) (c : CAt mg C) (hN : C.N = N) (h : MB C ⟨scope, fun _ => true⟩ body cb) (hp : ps.length = np) (hn : N.length = nn) :
    FnOk P w K mg base (L2.CX P w) (k + 1) f fd ps (spOf ⟨P, w, K, mg⟩ np (denD C.G nn cb)) := by
  subst hp hn
  obtain ⟨oc, od, dV, kV, doc, pm, an, cdv, ct, osl, rfl, lk, hcd, hD, hK⟩ := F.ex
  have S' := fscB_ok S
  refine fn_of lk hcd S' (fun vs H Q E q => q.1) fun A outer s H vs Q E hr hsp => ?_
  have gd := good_of (CX := L2.CX P w) (ps := ps) (qual := qual) (scope := scope) (f := f) (cd := cdv) (A := A) (outer := outer) (s := s) (H := H) (E := E) hN S'.nd hr g c
  refine ⟨_, (mb_ok h gd PassesOwn.never).nox, ?_⟩
  obtain ⟨hl, Z, ds, r, hz, rp, e, o⟩ := hsp
  obtain ⟨fl, e1, hf⟩ := denD_ok e
  exact ⟨Z, H, [], [], _, sit_start hz rp, fl, e1, flok_out o hf⟩
/-- .. with its promise's function given -/
theorem def_okF {F' : List D → Res SV} (F : FunD K x qual params body scope dvs kws f fd) (S : fscB N ps scope = true) (g : GAt P w K mg base k C.G) (c : CAt mg C) (hN : C.N = N) (h : ∃ r : { cb : CB // MB C ⟨scope, fun _ => true⟩ body cb }, r.1 = cb) (hp : ps.length = np) (hn : N.length = nn) (hF : F' = denD C.G nn cb) :
    FnOk P w K mg base (L2.CX P w) (k + 1) f fd ps (spOf ⟨P, w, K, mg⟩ np F') := by
  obtain ⟨⟨cb', hm⟩, rfl⟩ := h
  rw [hF]
  exact def_okD F S g c hN hm hp hn
theorem init_okD {cn : Str} {n : Nat} (F : FunD K x qual params body scope dvs kws f fd) (S : fscB N ps scope = true) (g : GAt P w K mg base k C.G) (c : CAt mg C) (hN : C.N = N) (hn : ps.length = n + 1) (hw : 0 ∉ wB cb) (h : MB C ⟨scope, fun _ => true⟩ body cb) (hnn : N.length = nn) :
    FnOk P w K mg base (L2.CX P w) (k + 1) f fd ps (spInit ⟨P, w, K, mg⟩ cn n (denN C.G cn nn cb)) := by
  subst hnn
  obtain ⟨oc, od, dV, kV, doc, pm, an, cdv, ct, osl, rfl, lk, hcd, hD, hK⟩ := F.ex
  exact init_okR lk hcd (fscB_ok S) g c hN hn hw h
/-- .. with its promise's function given -/
theorem init_okF {F' : List D → Res SV} {cn : Str} {n : Nat} (F : FunD K x qual params body scope dvs kws f fd) (S : fscB N ps scope = true) (g : GAt P w K mg base k C.G) (c : CAt mg C) (hN : C.N = N) (hn : ps.length = n + 1) (hw : 0 ∉ wB cb)
    (h : ∃ r : { cb : CB // MB C ⟨scope, fun _ => true⟩ body cb }, r.1 = cb) (hnn : N.length = nn) (hF : F' = denN C.G cn nn cb) :
    FnOk P w K mg base (L2.CX P w) (k + 1) f fd ps (spInit ⟨P, w, K, mg⟩ cn n F') := by
  obtain ⟨⟨cb', hm⟩, rfl⟩ := h
  rw [hF]
  exact init_okD F S g c hN hn hw hm hnn
theorem denN_is {G : GEnv} {cn : Str} {ds : List D} {r : SV} (h : denN G cn nn cb ds = .ok r) : ∃ ns es, r = .oi cn ns es := by
  obtain ⟨ns, es, _, _, e⟩ := denN_ok h
  exact ⟨ns, es, e⟩
/-- a method whose object is of the class c -/
def guardO (c : Str) (F : List D → Res SV) (ds : List D) : Res SV := match ds with
  | .obj c' ns vs :: r => if c' = c then F (.obj c' ns vs :: r) else .fail
  | _ => .fail
theorem guardO_ok {c : Str} {F : List D → Res SV} {ns : List Str} {vs r : List D} : guardO c F (.obj c ns vs :: r) = F (.obj c ns vs :: r) := by simp [guardO]
theorem spSup_of {R : RC} {c : Str} {Cc : Addr} {F : List D → Res SV} (hm : R.mg c = some (.ref Cc)) : ∀ (vs : List V) (H : Hp) (Q : VK) (E : XK), spOf R 2 (guardO c F) vs H Q E → spSup Cc (spOf R 2 F) vs H Q E := by
  rintro vs H Q E ⟨hl, Z, ds, r, hz, rp, e, o⟩
  unfold guardO at e
  split at e
  · rename_i c' ns es rr
    split at e
    · rename_i hc
      subst hc
      cases rp with
      | cons r1 r2 =>
        rename_i v us
        generalize hD : D.obj c' ns es = DD at r1
        cases r1 with
        | @obj a _ C dx fs _ m h rq =>
          injection hD with h1 h2 h3
          subst h1
          rw [hm] at m
          cases m
          obtain ⟨_, _, h'⟩ := vis_some h
          match us, r2, hl with
          | [v], r2, hl =>
            refine ⟨a, dx, fs, v, rfl, h', fun E' => ⟨rfl, Z, _, r, hz, .cons (v := .ref a) ?_ r2, e, o⟩⟩
            rw [h2, h3]
            exact .obj hm h rq
        | _ => cases hD
    · cases e
  · cases e
/-- the arguments of a def with defaults, all of them given -/
theorem FunD.bindsAll (F : FunD K x qual params body scope dvs kws f fd) (hne : dvs ≠ [])
    (h : ∀ (dV kV doc pm : Value) (an : Option Addr) (cdv ct : Value) (us : List Value), us.length = ps.length → ∃ k : Option (Array Value) → Sem (List (Str × Value)), bindArgs (PySem.W.fnOf x qual params body scope dV kV doc pm an cdv ct) ⟨us, []⟩ = (seqItems? dV >>= k) ∧ ∀ l : List Value, l.length = dvs.length → k (some l.toArray) = pure (ps.zip us)) : Binds K fd ps [] := by
  obtain ⟨oc, od, dV, kV, doc, pm, an, cdv, ct, osl, rfl, lk, hcd, hD, hK⟩ := F.ex
  intro s us X hl
  rw [List.append_nil] at hl ⊢
  obtain ⟨kk, h1, h2⟩ := h dV kV doc pm an cdv ct us hl
  rcases hD with ⟨e, _⟩ | ⟨_, T, o, its, n, e, lo, hd, hv⟩
  · exact absurd e hne
  · subst e
    refine .of_defaults rfl (X _ _ lo) hd h1 ?_
    exact h2 its hv.length.symm
end
end Dv

set_option Elab.async false
set_option linter.all false
set_option maxRecDepth 100000
set_option maxHeartbeats 4000000
/-! what the names stand for, by levels: a level more for each call within a call -/
namespace Dv
open PySem PySem.Spec PyProof.Rows L2 He
abbrev FnT : Type := Nat × Str × Nat × (List D → Res SV)
abbrev MtT : Type := (Str × Str) × Nat × (List D → Res SV)
/-- the tables: C of what calls the level below, P of what calls the one below that -/
structure Tabs where
  con : Nat → Option (Str × D)
  fnC : GEnv → List FnT
  fnP : GEnv → List FnT
  mtC : GEnv → List MtT
  mtP : GEnv → List MtT
  giP : GEnv → List (Str × (List D → Res SV))
  fld : Str → Str → Bool
  isa : Str → Str → Option Bool
def mkG (T : Tabs) (c : GEnv) (p : Option GEnv) : GEnv where
  con := T.con
  fn := fun i => (T.fnC c ++ (match p with
    | some p => T.fnP p
    | none => [])).lookup i
  mth := fun a m => (T.mtC c ++ (match p with
    | some p => T.mtP p
    | none => [])).lookup (a, m)
  gi := fun a => (match p with
    | some p => T.giP p
    | none => []).lookup a
  fld := T.fld
  isa := T.isa
def gv0 (T : Tabs) : GEnv where
  con := T.con
  fn := fun _ => none
  mth := fun _ _ => none
  gi := fun _ => none
  fld := T.fld
  isa := T.isa
def Gv (T : Tabs) : Nat → GEnv
  | 0 => gv0 T
  | 1 => mkG T (gv0 T) none
  | k + 2 => mkG T (Gv T (k + 1)) (some (Gv T k))
theorem lookup_mem' {α β : Type} [BEq α] [LawfulBEq α] {a : α} {b : β} : ∀ {l : List (α × β)}, l.lookup a = some b → (a, b) ∈ l
  | [], h => by cases h
  | (c, d) :: r, h => by
    rw [List.lookup_cons] at h
    cases q : (a == c) with
    | true =>
      rw [q] at h
      cases h
      rw [beq_iff_eq.mp q]
      exact List.mem_cons_self
    | false =>
      rw [q] at h
      exact List.mem_cons_of_mem _ (lookup_mem' h)
section
variable (P : Program) (w : World) (K : PySem.W.Frag) (mg : Str → Option Value) (base : Heap)
def FnE (k : Nat) (e : FnT) : Prop := ∃ f fd ps j, ps.length = e.2.2.1 ∧ mg e.2.1 = some (.ref f) ∧ PySem.W.keepIn K (.ref f) = true ∧ Binds K fd ps [] ∧ FnOk P w K mg base (L2.CX P w) j f fd ps (spOf ⟨P, w, K, mg⟩ e.2.2.1 e.2.2.2) ∧ j ≤ k
def ClE (k : Nat) (e : FnT) : Prop := ∃ C f fd ps j, (∀ ds r, e.2.2.2 ds = .ok r → ∃ ns es, r = .oi e.2.1 ns es) ∧ ps.length = e.2.2.1 + 1 ∧ mg e.2.1 = some (.ref C) ∧ Mk K C f ∧ Binds K fd ps [] ∧ FnOk P w K mg base (L2.CX P w) j f fd ps (spInit ⟨P, w, K, mg⟩ e.2.1 e.2.2.1 e.2.2.2) ∧ j + 1 ≤ k
def MtE (k : Nat) (e : MtT) : Prop := ∀ C, mg e.1.1 = some (.ref C) → ∃ f fd ps j, ps.length = e.2.1 ∧ Cls K C ∧ Meth K C e.1.2 f ∧ Binds K fd ps [] ∧ FnOk P w K mg base (L2.CX P w) j f fd ps (spOf ⟨P, w, K, mg⟩ e.2.1 e.2.2) ∧ j ≤ k
def GiE (k : Nat) (e : Str × (List D → Res SV)) : Prop := ∀ C, mg e.1 = some (.ref C) → ∃ f fd ps j, ps.length = 2 ∧ Meth K C "__getitem__" f ∧ PySem.W.fnIn K f = true ∧ Binds K fd ps [] ∧ FnOk P w K mg base (L2.CX P w) j f fd ps (spOf ⟨P, w, K, mg⟩ 2 e.2) ∧ j + 1 ≤ k
structure TabsOk (T : Tabs) : Prop where
  con : ∀ n x d, T.con n = some (x, d) → ConOk P w K mg x d
  fnC : ∀ k l, GAt P w K mg base l (Gv T k) → ∀ e ∈ T.fnC (Gv T k), FnE P w K mg base (l + 1) e
  fnP : ∀ k l, GAt P w K mg base l (Gv T k) → ∀ e ∈ T.fnP (Gv T k), ClE P w K mg base (l + 3) e
  mtC : ∀ k l, GAt P w K mg base l (Gv T k) → ∀ e ∈ T.mtC (Gv T k), MtE P w K mg base (l + 1) e
  mtP : ∀ k l, GAt P w K mg base l (Gv T k) → ∀ e ∈ T.mtP (Gv T k), MtE P w K mg base (l + 2) e
  giP : ∀ k l, GAt P w K mg base l (Gv T k) → ∀ e ∈ T.giP (Gv T k), GiE P w K mg base (l + 2) e
  fld : ∀ c f C, T.fld c f = true → mg c = some (.ref C) → Cls K C ∧ NoAttr K C f
  isa : ∀ c t b C, T.isa c t = some b → mg c = some (.ref C) → ∃ T, mg t = some (.ref T) ∧ PySem.W.kitOne K (.ref C) (.ref T) = some b ∧ Cls K C ∧ PySem.W.findIn K (.ref C) "__class__" = some (some (.builtin "object.__class__")) ∧
    PySem.W.specialIn K (.builtin "object.__class__") "__get__" = some (some (.builtin "getset_descriptor.__get__")) ∧ PySem.W.takesIn K (.builtin "object.__class__") = some true ∧ PySem.W.mroIn K C (.type "object") = some true
end
section
variable {P : Program} {w : World} {K : PySem.W.Frag} {mg : Str → Option Value} {base : Heap} {T : Tabs}
theorem gat0 (h : TabsOk P w K mg base T) : GAt P w K mg base 0 (gv0 T) where
  con := fun n x d e => (h.con n x d e).ex
  fn := fun i x n F e => (nomatch e)
  mth := fun c m n F C e => (nomatch e)
  gi := fun c F C e => (nomatch e)
  fld := h.fld
  isa := h.isa
theorem FnE.mono {k l : Nat} {e : FnT} (h : FnE P w K mg base k e) (hl : k ≤ l) : FnE P w K mg base l e := by
  obtain ⟨f, fd, ps, j, h1, h2, h3, h4, h5, h6⟩ := h
  exact ⟨f, fd, ps, j, h1, h2, h3, h4, h5, Nat.le_trans h6 hl⟩
theorem ClE.mono {k l : Nat} {e : FnT} (h : ClE P w K mg base k e) (hl : k ≤ l) : ClE P w K mg base l e := by
  obtain ⟨C, f, fd, ps, j, h0, h1, h2, h3, h4, h5, h6⟩ := h
  exact ⟨C, f, fd, ps, j, h0, h1, h2, h3, h4, h5, Nat.le_trans h6 hl⟩
theorem MtE.mono {k l : Nat} {e : MtT} (h : MtE P w K mg base k e) (hl : k ≤ l) : MtE P w K mg base l e := fun C hC => by
  obtain ⟨f, fd, ps, j, h1, h2, h3, h4, h5, h6⟩ := h C hC
  exact ⟨f, fd, ps, j, h1, h2, h3, h4, h5, Nat.le_trans h6 hl⟩
theorem GiE.mono {k l : Nat} {e : Str × (List D → Res SV)} (h : GiE P w K mg base k e) (hl : k ≤ l) : GiE P w K mg base l e := fun C hC => by
  obtain ⟨f, fd, ps, j, h1, h2, h3, h4, h5, h6⟩ := h C hC
  exact ⟨f, fd, ps, j, h1, h2, h3, h4, h5, Nat.le_trans h6 hl⟩
theorem GAt.mono {k l : Nat} {G : GEnv} (g : GAt P w K mg base k G) (hl : k ≤ l) : GAt P w K mg base l G where
  con := g.con
  fn := fun i x n F h => by
    rcases g.fn i x n F h with ⟨f, fd, ps, j, h1, h2, h3, h4, h5, h6⟩ | ⟨C, f, fd, ps, j, h0, h1, h2, h3, h4, h5, h6⟩
    · exact .inl ⟨f, fd, ps, j, h1, h2, h3, h4, h5, Nat.le_trans h6 hl⟩
    · exact .inr ⟨C, f, fd, ps, j, h0, h1, h2, h3, h4, h5, Nat.le_trans h6 hl⟩
  mth := fun c m n F C h h' => by
    obtain ⟨f, fd, ps, j, h1, h2, h3, h4, h5, h6⟩ := g.mth c m n F C h h'
    exact ⟨f, fd, ps, j, h1, h2, h3, h4, h5, Nat.le_trans h6 hl⟩
  gi := fun c F C h h' => by
    obtain ⟨f, fd, ps, j, h1, h2, h3, h4, h5, h6⟩ := g.gi c F C h h'
    exact ⟨f, fd, ps, j, h1, h2, h3, h4, h5, Nat.le_trans h6 hl⟩
  fld := g.fld
  isa := g.isa
theorem gat_mk (h : TabsOk P w K mg base T) {k l : Nat} (g1 : GAt P w K mg base l (Gv T k)) (p : Option GEnv) (g2 : ∀ q, p = some q → ∃ j i, l = i + 2 ∧ q = Gv T j ∧ GAt P w K mg base i (Gv T j)) : GAt P w K mg base (l + 2) (mkG T (Gv T k) p) where
  con := fun n x d e => (h.con n x d e).ex
  fn := fun i x n F e => by
    rcases List.mem_append.mp (lookup_mem' e) with m | m
    · exact .inl ((h.fnC k l g1 _ m).mono (by omega))
    · cases p with
      | none => cases m
      | some q =>
        obtain ⟨j, i', rfl, rfl, g⟩ := g2 q rfl
        obtain ⟨C, f, fd, ps, jj, h0, h1, h2, h3, h4, h5, h6⟩ := (h.fnP j i' g (i, x, n, F) m).mono (show i' + 3 ≤ i' + 2 + 2 by omega)
        exact .inr ⟨C, f, fd, ps, jj, h0, h1, h2, h3, h4, h5, h6⟩
  mth := fun c m n F C e hm => by
    rcases List.mem_append.mp (lookup_mem' e) with m' | m'
    · exact (h.mtC k l g1 ((c, m), n, F) m').mono (show l + 1 ≤ l + 2 by omega) C hm
    · cases p with
      | none => cases m'
      | some q =>
        obtain ⟨j, i', rfl, rfl, g⟩ := g2 q rfl
        exact (h.mtP j i' g ((c, m), n, F) m').mono (show i' + 2 ≤ i' + 2 + 2 by omega) C hm
  gi := fun c F C e hm => by
    have m' := lookup_mem' e
    cases p with
    | none => cases m'
    | some q =>
      obtain ⟨j, i', rfl, rfl, g⟩ := g2 q rfl
      exact (h.giP j i' g (c, F) m').mono (show i' + 2 ≤ i' + 2 + 2 by omega) C hm
  fld := h.fld
  isa := h.isa
theorem gat_all (h : TabsOk P w K mg base T) : ∀ k, GAt P w K mg base (2 * k) (Gv T k) ∧ GAt P w K mg base (2 * (k + 1)) (Gv T (k + 1))
  | 0 => ⟨gat0 h, gat_mk h (k := 0) (gat0 h) none fun q e => (nomatch e)⟩
  | k + 1 => by
    obtain ⟨h1, h2⟩ := gat_all h k
    exact ⟨h2, gat_mk h (k := k + 1) (l := 2 * (k + 1)) h2 (some (Gv T k)) fun q e => ⟨k, 2 * k, by omega, by cases e; rfl, h1⟩⟩
/-! ### one entry each -/
variable {file : Str} {fa : List Fa} {fn : List DefD} {ts : List Tab} {sd : List SupD} {ex : PySem.W.Frag → Bool} {h : Heap} {k np nn : Nat} {N ps : List Str} {C : CC} {cb : CB} {params : Arguments} {body : List Stmt} {scope : Scope} {x : Str}
theorem fn_ent (c : SaysV file fa fn ts sd ex w K) (X : K.In h) (G : h.Ns mainGlobals mg) (i : Nat) (hd : fn[i]? = some ⟨(x, none), x, x, params, body, scope, [], []⟩) (hf : Fa.glo x ∈ fa) (g : GAt P w K mg base k C.G) (cc : CAt mg C) (hN : C.N = N) (S : fscB N ps scope = true)
    (hr : ∃ r : { cb : CB // MB C ⟨scope, fun _ => true⟩ body cb }, r.1 = cb) (hp : ps.length = np) (hn : N.length = nn) (F : List D → Res SV) (hF : F = denD C.G nn cb)
    (hb : ∀ (kV doc pm : Value) (an : Option Addr) (cdv ct : Value) (us : List Value), us.length = np → bindArgs (PySem.W.fnOf x x params body scope .none kV doc pm an cdv ct) ⟨us, []⟩ = pure (ps.zip us)) (n : Nat) : FnE P w K mg base (k + 1) (n, x, np, F) := by
  obtain ⟨fd, F1⟩ := c.t.d.def_ i hd
  exact ⟨ga K x, fd, ps, k + 1, hp, glo_ok X G (c.t.d.facts hf), F1.kp, F1.bindsN fun kV doc pm an cdv ct us hl => hb kV doc pm an cdv ct us (by rw [hl, hp]), def_okF F1 S g cc hN hr hp hn hF, Nat.le_refl _⟩
/-- a method of a class -/
theorem mt_ent {cn m q : Str} (c : SaysV file fa fn ts sd ex w K) (X : K.In h) (G : h.Ns mainGlobals mg) (i : Nat) (hd : fn[i]? = some ⟨(cn, some m), m, q, params, body, scope, [], []⟩) (hf : Fa.glo cn ∈ fa) (hc : Fa.cls cn ∈ fa) (hm : Fa.meth cn m ∈ fa) (g : GAt P w K mg base k C.G) (cc : CAt mg C) (hN : C.N = N) (S : fscB N ps scope = true)
    (hr : ∃ r : { cb : CB // MB C ⟨scope, fun _ => true⟩ body cb }, r.1 = cb) (hp : ps.length = np) (hn : N.length = nn) (F : List D → Res SV) (hF : F = denD C.G nn cb)
    (hb : ∀ (kV doc pm : Value) (an : Option Addr) (cdv ct : Value) (us : List Value), us.length = np → bindArgs (PySem.W.fnOf m q params body scope .none kV doc pm an cdv ct) ⟨us, []⟩ = pure (ps.zip us)) : MtE P w K mg base (k + 1) ((cn, m), np, F) := by
  intro C' hC'
  have e := glo_ok X G (c.t.d.facts hf)
  rw [show mg (cn, m).1 = mg cn from rfl, e] at hC'
  cases hC'
  obtain ⟨fd, F1⟩ := c.t.d.def_ i hd
  have c1 := c.t.d.facts hc
  have m1 := c.t.d.facts hm
  obtain ⟨m2, m3⟩ := ba m1
  obtain ⟨m4, m5⟩ := ba m3
  obtain ⟨a1, a2⟩ := ba c1
  obtain ⟨a3, a4⟩ := ba a2
  obtain ⟨a5, a6⟩ := ba a4
  exact ⟨ma K (ga K cn) m, fd, ps, k + 1, hp, ⟨a1, a3, a5, eqO_ok a6⟩, ⟨eqO_ok m2, m4, m5⟩, F1.bindsN fun kV doc pm an cdv ct us hl => hb kV doc pm an cdv ct us (by rw [hl, hp]), def_okF F1 S g cc hN hr hp hn hF, Nat.le_refl _⟩
end
end Dv

set_option Elab.async false
set_option linter.all false
set_option maxRecDepth 100000
set_option maxHeartbeats 4000000
/-! classes, super(), o[k], Book -/
namespace Dv
open PySem PySem.Spec PyProof.Rows L2 He NdefX
section
variable {P : Program} {w : World} {K : PySem.W.Frag} {mg : Str → Option Value} {base : Heap} {T : Tabs}
variable {file : Str} {fa : List Fa} {fn : List DefD} {ts : List Tab} {sd : List SupD} {ex : PySem.W.Frag → Bool} {h : Heap} {k np nn : Nat} {N ps : List Str} {C : CC} {cb : CB} {params : Arguments} {body : List Stmt} {scope : Scope} {x cn m q nxt : Str} {dfl : List He.Dv}
theorem mk_of (c : SaysV file fa fn ts sd ex w K) (hm : Fa.mkr cn ∈ fa) : Mk K (ga K cn) (ma K (ga K cn) "__init__") := by
  have m1 := c.t.d.facts hm
  obtain ⟨m2, m3⟩ := ba m1
  obtain ⟨m4, m5⟩ := ba m3
  obtain ⟨m6, m7⟩ := ba m5
  exact ⟨m2, eqO_ok m4, m6, m7⟩
theorem cls_of (c : SaysV file fa fn ts sd ex w K) (hc : Fa.cls cn ∈ fa) : Cls K (ga K cn) := by
  have c1 := c.t.d.facts hc
  obtain ⟨a1, a2⟩ := ba c1
  obtain ⟨a3, a4⟩ := ba a2
  obtain ⟨a5, a6⟩ := ba a4
  exact ⟨a1, a3, a5, eqO_ok a6⟩
theorem meth_of (c : SaysV file fa fn ts sd ex w K) (hm : Fa.meth cn m ∈ fa) : Meth K (ga K cn) m (ma K (ga K cn) m) := by
  have m1 := c.t.d.facts hm
  obtain ⟨m2, m3⟩ := ba m1
  obtain ⟨m4, m5⟩ := ba m3
  exact ⟨eqO_ok m2, m4, m5⟩
theorem noat_of {f : Str} (c : SaysV file fa fn ts sd ex w K) (hm : Fa.noat cn f ∈ fa) : NoAttr K (ga K cn) f := eqO_ok (c.t.d.facts hm)
theorem cl_ent (c : SaysV file fa fn ts sd ex w K) (X : K.In h) (G : h.Ns mainGlobals mg) (i : Nat) (hd : fn[i]? = some ⟨(cn, some "__init__"), "__init__", q, params, body, scope, dfl, []⟩) (hf : Fa.glo cn ∈ fa) (hm : Fa.mkr cn ∈ fa) (g : GAt P w K mg base k C.G) (cc : CAt mg C) (hN : C.N = N) (S : fscB N ps scope = true)
    (hr : ∃ r : { cb : CB // MB C ⟨scope, fun _ => true⟩ body cb }, r.1 = cb) (hp : ps.length = np + 1) (hn : N.length = nn) (hw : 0 ∉ wB cb) (F : List D → Res SV) (hF : F = denN C.G cn nn cb)
    (hb : ∀ fd, FunD K "__init__" q params body scope (dfl.map (He.Dv.v K)) [] (ma K (ga K cn) "__init__") fd → Binds K fd ps []) (n : Nat) : ClE P w K mg base (k + 2) (n, cn, np, F) := by
  obtain ⟨fd, F1⟩ := c.t.d.def_ i hd
  exact ⟨ga K cn, ma K (ga K cn) "__init__", fd, ps, k + 1, fun ds r e => denN_is (by rw [hF] at e; exact e), hp, glo_ok X G (c.t.d.facts hf), mk_of c hm, hb fd F1, init_okF F1 S g cc hN hp hw hr hn hF, Nat.le_refl _⟩
theorem gi_ent (c : SaysV file fa fn ts sd ex w K) (X : K.In h) (G : h.Ns mainGlobals mg) (i : Nat) (hd : fn[i]? = some ⟨(cn, some "__getitem__"), "__getitem__", q, params, body, scope, [], []⟩) (hf : Fa.glo cn ∈ fa) (hm : Fa.meth cn "__getitem__" ∈ fa) (hfi : PySem.W.fnIn K (ma K (ga K cn) "__getitem__") = true) (g : GAt P w K mg base k C.G) (cc : CAt mg C) (hN : C.N = N) (S : fscB N ps scope = true)
    (hr : ∃ r : { cb : CB // MB C ⟨scope, fun _ => true⟩ body cb }, r.1 = cb) (hp : ps.length = 2) (hn : N.length = nn) (F : List D → Res SV) (hF : F = denD C.G nn cb)
    (hb : ∀ (kV doc pm : Value) (an : Option Addr) (cdv ct : Value) (us : List Value), us.length = 2 → bindArgs (PySem.W.fnOf "__getitem__" q params body scope .none kV doc pm an cdv ct) ⟨us, []⟩ = pure (ps.zip us)) : GiE P w K mg base (k + 2) (cn, F) := by
  intro C' hC'
  have e := glo_ok X G (c.t.d.facts hf)
  rw [show mg (cn, F).1 = mg cn from rfl, e] at hC'
  cases hC'
  obtain ⟨fd, F1⟩ := c.t.d.def_ i hd
  exact ⟨ma K (ga K cn) "__getitem__", fd, ps, k + 1, hp, meth_of c hm, hfi, F1.bindsN fun kV doc pm an cdv ct us hl => hb kV doc pm an cdv ct us (by rw [hl, hp]), def_okF F1 S g cc hN hr hp hn hF, Nat.le_refl _⟩
/-- `return super().m(x)` -/
theorem sup_ent {d : SupD} {self px : Str} {p0 p1 apos pxp cpos rp : Pos} {ar : Arg} (c : SaysV P.main.file fa fn ts sd ex w K) (X : K.In h) (G : h.Ns mainGlobals mg) (hds : d ∈ sd) (i : Nat) (hd : fn[i]? = some ⟨(d.nxt, some d.m), d.m, q, params, body, scope, [], []⟩) (hf : Fa.glo d.c ∈ fa) (hc : Fa.cls d.c ∈ fa) (hm : Fa.meth d.c d.m ∈ fa) (g : GAt P w K mg base k C.G) (cc : CAt mg C) (hN : C.N = N) (S : fscB N ps scope = true)
    (hr : ∃ r : { cb : CB // MB C ⟨scope, fun _ => true⟩ body cb }, r.1 = cb) (hp : ps.length = 2) (hn : N.length = nn) (F : List D → Res SV) (hF : F = denD C.G nn cb)
    (hb : ∀ (kV doc pm : Value) (an : Option Addr) (cdv ct : Value) (us : List Value), us.length = 2 → bindArgs (PySem.W.fnOf d.m q params body scope .none kV doc pm an cdv ct) ⟨us, []⟩ = pure (ps.zip us))
    (hbody : d.body = [.Return (some (.Call (.Attribute (.Call (.Name "super" p0) [] [] p1) d.m apos) [.Name px pxp] [] cpos)) rp]) (hla : (apos.endLine == cpos.line) = true) (hx1 : (px == ("__debug__" : Str)) = false) (hx2 : (px == ("__classdict__" : Str)) = false)
    (SN : nscB [self, px, "__class__"] [self, px] ["__class__"] d.scope = true) (hpar : (d.params.posonlyargs ++ d.params.args).head? = some ar) (har : ar.arg = self) (hn1 : (d.m == ("__class__" : Str)) = false)
    (hks : d.scope.names.lookup ("super" : Str) = some .globalImplicit) (htop : (P.main.scope.names.lookup ("super" : Str)).isSome = false) (hsm : Fa.free "super" ∈ fa)
    (hbind : ∀ (kV doc pm : Value) (an : Option Addr) (cdv ct : Value) (cl : Addr) (us : List Value), us.length = 2 → bindArgs (PySem.W.ksFn d.m d.qual d.params d.body d.scope .none kV doc pm an cdv ct cl) ⟨us, []⟩ = pure ([self, px].zip us)) :
    MtE P w K mg base (k + 2) ((d.c, d.m), 2, guardO d.c F) := by
  intro C' hC'
  have e := glo_ok X G (c.t.d.facts hf)
  rw [show mg ((d.c, d.m), 2, guardO d.c F).1.1 = mg d.c from rfl, e] at hC'
  cases hC'
  obtain ⟨fd, F1⟩ := c.t.d.def_ i hd
  have ok2 := def_okF F1 S g cc hN hr hp hn hF
  have b2 : Binds K fd ps [] := F1.bindsN fun kV doc pm an cdv ct us hl => hb kV doc pm an cdv ct us (by rw [hl, hp])
  have r2 : FnR P w K mg base (L2.CX P w) (k + 1) (fAd K (d.nxt, some d.m)) (spOf ⟨P, w, K, mg⟩ 2 F) := (ok2.raw b2 .nil).imp fun vs H Q E q => by rw [List.append_nil]; exact q
  obtain ⟨fd', ok3, b3⟩ := sup_fn (c.supW d hds) (c.supB d hds) hbody hla hx1 hx2 (nscope_by SN) r2 hpar har hn1 hks htop (free_ok X G (c.t.d.facts hsm)) hbind
  exact ⟨_, fd', _, k + 2, rfl, cls_of c hc, meth_of c hm, b3, ok3.imp (spSup_of e), Nat.le_refl _⟩
end
end Dv

set_option Elab.async false
set_option linter.all false
set_option maxRecDepth 100000
set_option maxHeartbeats 4000000
/-! the end: the law's call -/
namespace Dv
open PySem PySem.Spec PyProof.Rows L2 He
theorem walk_any {l : PySem.W.OpenLaw} {n k : Nat} {q : Program} {loose : List Str} {XP : (Str → Option Value) → Heap → Prop} {YP : World → Heap → Prop} {d : DefRec} {x : Str}
    (hn : l.most = some n) (hn2 : n ≤ sizeLine) (hdf : d.params.defaults = []) (hr : Room k callerA)
    (F : ∀ (w : World) (mg : Str → Option Value) (fa : Addr) (h : Heap), YP w h → h.Ns mainGlobals mg → mg d.name = some (.ref fa) →
      ∃ (K : PySem.W.Frag) (fd : FuncData) (sp : Sp), K.In h ∧ (∀ (s : Shared) (u : Value), BindsTo s fd ⟨[u], []⟩ [(x, u)]) ∧
        (∀ (H : Hp) (a : Addr) (ns : List Int), ns.length ≤ n → Only H → SqL K H a (ns.map V.int) → sp [.ref a] H (fun v _ => v = .bl true) fun _ _ _ => False) ∧
        ∀ base : Heap, K.In base → base.Ns mainGlobals mg → FnOk l.prog w K mg base (L2.CX l.prog w) k fa fd [x] sp) :
    PySem.W.WalkO q loose XP YP l.row.toRowW d [] (fun f vs => PySem.call f vs) := by
  refine Att.attach_call hn hdf fun w s₀ s₁ mg mb fa o pm cd doc a vs ns G Y ho hd hcd hmg hobj hints hlen hg => ?_
  obtain ⟨K, fd, sp, KX, hb, hsp, hF⟩ := F w mg fa _ Y G.T.g hmg
  refine law_call KX G.T.g G.T.b G.T.builtins G.T.nolimit hg hobj hints (Nat.le_trans hlen hn2) hr hF hb (fun H hO hS => hsp H a ns hlen hO hS) fun H e s' => ?_
  intro hc
  obtain ⟨_, _, _, _, _, _, _, _, _, _, _, _, z⟩ := hc
  exact z
theorem law_sp {P : Program} {w : World} {K : PySem.W.Frag} {mg : Str → Option Value} {F : List D → Res SV} (hK : NoLst K) {n : Nat} (hF : ∀ ns : List Int, ns.length ≤ n → F [.lst (ns.map .int)] = .ok (.v (.bl true))) (H : Hp) (a : Addr) (ns : List Int) (hl : ns.length ≤ n) (hS : SqL K H a (ns.map V.int)) :
    spOf ⟨P, w, K, mg⟩ 1 F [.ref a] H (fun v _ => v = .bl true) fun _ _ _ => False := by
  have hR : Rd H a (.lst (ns.map V.int)) := by
    rcases hS with h | ⟨o, its, m, h1, h2, _⟩
    · exact h
    · have := hK a o h1
      unfold isLst at this
      rw [h2] at this
      simp at this
  have hv : vis (fun _ => False) [] H = H := by
    funext b
    unfold vis
    rw [if_neg (by simp)]
  refine ⟨rfl, fun _ => False, [.lst (ns.map .int)], _, fun b z => z.elim, .cons (.lst (by rw [hv]; exact hR) ?_) .nil, hF ns hl, fun H' z cs sm hc nd hu en => ?_⟩
  · induction ns with
    | nil => exact .nil
    | cons i ns ih => exact .cons (.int i) (by
        have gen : ∀ l : List Int, Reps ⟨P, w, K, mg⟩ (vis (fun _ => False) [] H) (l.map V.int) (l.map D.int) := by
          intro l
          induction l with
          | nil => exact .nil
          | cons i l ih => exact .cons (.int i) ih
        exact gen ns)
  · cases en with
    | v r => cases r; rfl
end Dv

set_option Elab.async false
set_option linter.all false
set_option maxRecDepth 100000
set_option maxHeartbeats 4000000
/-! errors of the program: __init__ with super().__init__("..") and fields -/
namespace Dv
open PySem PySem.Spec PyProof.Rows L2 NdefX ClX

section
variable {X : Cx} {pins : List (Addr × Obj)} {σ : L2.St} {H : Hp} {s : Shared} {a C u : Addr} {E : Value → Shared → Prop}
/-- ValueError.__init__ bound to the new object, called -/
theorem mw_call {us : List Value} {Q : Value → Shared → Prop} {A : Around} (T : OexC X.K C) (I : Inv X pins σ H s) (e : H a = some (exo a C none)) (hu : s.heap.get? u = some (PySem.W.kxs_mw "ValueError.__init__" a)) (hl : us.length ≤ sizeLine) (h : ∀ s', Inv X pins σ H s' → Q .none s') :
    wpAny (model X.prog X.w) A (call (.ref u) us) Q E s := by
  obtain ⟨nm, q, N, bs, bm, sn, sub, ab, col, dd, k0, k1, k2, k3, k5, hC, hbm⟩ := T.cls
  obtain ⟨t1, ho⟩ := exo_at I.hok e
  have hC' := I.kIn _ _ hC
  obtain ⟨hp, g, d, t, os⟩ := s
  refine wpAny_call (codeAny_of_tree ?_)
  show wpAny _ A.in1 (callAny (.ref u) ⟨us, []⟩) _ _ _
  simp only [callAny]
  refine wpAny_bind (wpAny_load hu ?_)
  simp only [PySem.W.kxs_mw, show (Value.type "method-wrapper" == Value.type "method" || Value.type "method-wrapper" == Value.type "builtin_function_or_method" || Value.type "method-wrapper" == Value.type "method-wrapper") = true by decide, if_true]
  refine PySem.W.KFB.if_so (by decide) ?_
  refine wpAny_bind (PySem.W.check_bound_init F.excBase_ValueError.toExcCallFacts hC' ho rfl ?_)
  refine wpAny_bind (wpAny_pure (wpAny_pure ?_))
  refine ⟨plainId_quiet F.excBase_ValueError.init.plain _, codeAny_builtin F.excBase_ValueError.initEntry ?_⟩
  refine PySem.W.exc_init_tree (cls := .ref C) (t0 := t1) (dv := none) (c2 := .none) (c3 := .none) (b4 := .bool false) ho hl fun h' k e' t' => ?_
  have J := I.write (t' := t) (x := a) (e := a) (o := exo a C none) (by rw [e]; exact True.intro) (.inl rfl) k ⟨_, e'⟩ (exo_ok e')
  have eu : upd H a (exo a C none) = H := by
    funext b
    by_cases hb : b = a
    · rw [hb, upd_same, e]
    · rw [upd_ne hb]
  rw [eu] at J
  exact h _ J
end

/-! ### the fields -/
/-- self.f = x, for each of the fields; the first one's slot is k -/
inductive FA (N : List Str) (sc : Scope) : Nat → List Stmt → List Str → Prop
  | nil {k : Nat} : FA N sc k [] []
  | cons {k : Nat} {self x f : Str} {p0 p1 p2 p3 : Pos} {ss : List Stmt} {fs : List Str} : N[0]? = some self → N[k]? = some x → L2.Vis sc self → L2.Vis sc x → (self == ("__debug__" : Str)) = false → (self == ("__classdict__" : Str)) = false → (x == ("__debug__" : Str)) = false → (x == ("__classdict__" : Str)) = false →
      FA N sc (k + 1) ss fs → FA N sc k (.Assign [.Attribute (.Name self p0) f p1] (.Name x p2) p3 :: ss) (f :: fs)
theorem swap_nm {x : Str} {p : Pos} {t : Option Expr} {n : Nat} {env : Env} : swapsWith (.Name x p) t n env = pure false := rfl
theorem fa_more {X : Cx} {C : Addr} (T : OexC X.K C) : ∀ {k : Nat} {ss : List Stmt} {fs : List Str}, FA X.N X.env.scope k ss fs → (∀ f ∈ fs, PySem.W.findIn X.K (.ref C) f = some none) →
    PSs X ss (fun D σ H => ∃ (a dx : Addr) (es : List (Str × V)) (ws : List V), σ[0]? = some (some (.ref a)) ∧ ws.length = fs.length ∧ (∀ j w, ws[j]? = some w → σ[k + j]? = some (some w)) ∧ dx ≠ a ∧ H a = some (exo a C (some dx)) ∧ H dx = some (exd dx es) ∧ es.length + fs.length ≤ 900 ∧
      ∀ H2, H2 dx = some (exd dx ((fs.zip ws).reverse ++ es)) → (∀ b, b ≠ dx → H2 b = H b) → D.nx σ H2)
  | _, _, _, .nil, _ => PSs.mono pss_nil fun D σ H ⟨a, dx, es, ws, h0, hl, hw, ne, ha, hd, hz, q⟩ => by
      exact q H (by simpa using hd) fun _ _ => rfl
  | k, _, _, .cons (p0 := q0) (p2 := q2) (f := f) (fs := fs) h1 h2 v1 v2 a1 a2 a3 a4 r, hno => by
    have hv := pe_var (X := X) (pos := q0) h1 v1 a1 a2
    have hx := pe_var (X := X) (pos := q2) h2 v2 a3 a4
    refine PSs.mono (pss_cons (ps_ost hv hx swap_nm) (fa_more T r fun f hf => hno f (List.mem_cons_of_mem _ hf))) fun D σ H ⟨a, dx, es, ws, h0, hl, hw, ne, ha, hd, hz, q⟩ => ?_
    cases ws with
    | nil => cases hl
    | cons w ws =>
      refine ⟨w, by simpa using hw 0 w rfl, .ref a, h0, a, C, rfl, T, hno f List.mem_cons_self, .inr ⟨dx, es, ha, hd, by simp at hz; omega, ?_⟩⟩
      refine ⟨a, dx, (f, w) :: es, ws, h0, by simpa using hl, fun j w' e => ?_, ne, by rw [upd_ne (Ne.symm ne)]; exact ha, upd_same, by simp at hz ⊢; omega, fun H2 e1 e2 => q H2 ?_ fun b hb => ?_⟩
      · have := hw (j + 1) w' (by simpa using e)
        rw [show k + 1 + j = k + (j + 1) by omega]
        exact this
      · rw [e1]
        simp
      · rw [e2 b hb, upd_ne hb]
/-- the first field is there -/
theorem fa_first {X : Cx} {C : Addr} (T : OexC X.K C) {k : Nat} {ss : List Stmt} {f : Str} {fs : List Str} (h : FA X.N X.env.scope k ss (f :: fs)) (hno : ∀ g ∈ f :: fs, PySem.W.findIn X.K (.ref C) g = some none) :
    PSs X ss (fun D σ H => ∃ (a : Addr) (ws : List V), σ[0]? = some (some (.ref a)) ∧ ws.length = fs.length + 1 ∧ (∀ j w, ws[j]? = some w → σ[k + j]? = some (some w)) ∧ H a = some (exo a C none) ∧ fs.length ≤ 800 ∧
      ∀ dx H2, H dx = none → dx ≠ a → H2 a = some (exo a C (some dx)) → H2 dx = some (exd dx (((f :: fs).zip ws).reverse)) → (∀ b, b ≠ dx → b ≠ a → H2 b = H b) → D.nx σ H2) := by
  cases h with
  | @cons _ _ _ _ q0 _ q2 _ _ _ h1 h2 v1 v2 a1 a2 a3 a4 r =>
    have hv := pe_var (X := X) (pos := q0) h1 v1 a1 a2
    have hx := pe_var (X := X) (pos := q2) h2 v2 a3 a4
    refine PSs.mono (pss_cons (ps_ost hv hx swap_nm) (fa_more T r fun g hg => hno g (List.mem_cons_of_mem _ hg))) fun D σ H ⟨a, ws, h0, hl, hw, ha, hz, q⟩ => ?_
    cases ws with
    | nil => cases hl
    | cons w ws =>
      refine ⟨w, by simpa using hw 0 w rfl, .ref a, h0, a, C, rfl, T, hno f List.mem_cons_self, .inl ⟨ha, fun dx hdx hne => ?_⟩⟩
      refine ⟨a, dx, [(f, w)], ws, h0, by simpa using hl, fun j w' e => ?_, hne, upd_same, by rw [upd_ne hne, upd_same], by simp; omega, fun H2 e1 e2 => q dx H2 hdx hne ?_ ?_ fun b hb hba => ?_⟩
      · have := hw (j + 1) w' (by simpa using e)
        rw [show k + 1 + j = k + (j + 1) by omega]
        exact this
      · rw [e2 a (Ne.symm hne), upd_same]
      · rw [e1]; simp
      · rw [e2 b hb, upd_ne hba, upd_ne hb]
/-- what an error's __init__ promises -/
def spErr (K : PySem.W.Frag) (C : Addr) (fs : List Str) : Sp := fun vs H Q _ => ∃ (a : Addr) (ws : List V), vs = .ref a :: ws ∧ ws.length = fs.length ∧ H a = some (exo a C none) ∧
  ∀ dx H2, H dx = none → dx ≠ a → H2 a = some (exo a C (some dx)) → H2 dx = some (exd dx ((fs.zip ws).reverse)) → (∀ b, b ≠ dx → b ≠ a → H2 b = H b) → Q .non H2
section
variable {P : Program} {w : World} {K : PySem.W.Frag} {mg : Str → Option Value} {base : Heap} {k : Nat} {f cc cda C : Addr} {name qual self : Str} {xs fs : List Str} {f0 : Str} {params : Arguments} {scope : Scope} {dV kV doc pm ct oc : Value} {an od : Option Addr} {osl : Array (Option Value)}
  {p0 p1 apos cpos pc pe : Pos} {j : Nat} {msg : Str} {rest : List Stmt} {file : Str} {tf : Tok} {vs : Array Value} {cdD : ClassData} {ccl cl : Value} {ccd cld : Option Addr} {ccs csl : Array (Option Value)} {ar : Arg}
theorem supi_form {o : Expr} {env : Env} (hl : (apos.endLine == cpos.line) = true) : eval (.Call (.Attribute o "__init__" apos) [.Constant (.str msg) j pc] [] cpos) env = (do
      let ov ← attributeBase o "__init__" env (eval o env)
      standAt apos.atName
      let (f, first) ← holding [ov] (getMethod ov "__init__" (do return (← importBound o env).getD true))
      callWith cpos f first (backTo cpos (starEach [.Constant (.str msg) j pc] env)) []) := by
  show (do
    let ov ← attributeBase o "__init__" env (eval o env)
    standAt apos.atName
    methodCall o "__init__" apos cpos env ov 1 (backTo cpos (starEach [.Constant (.str msg) j pc] env)) (backToKw cpos (keywordEach [] env))) = _
  unfold methodCall calleeOf methodCallPos
  rw [show methodCallForm 1 (backTo cpos (starEach [.Constant (.str msg) j pc] env)) (backToKw cpos (keywordEach [] env)) = true from rfl, hl]
  rfl
theorem err_init (hla : (apos.endLine == cpos.line) = true) (lk : K.lookup f = some ⟨oc, od, .func (PySem.W.ksFn name qual params (.Expr (.Call (.Attribute (.Call (.Name "super" p0) [] [] p1) "__init__" apos) [.Constant (.str msg) j pc] [] cpos) pe :: rest) scope dV kV doc pm an (.ref cda) ct cc), osl⟩)
    (hcd : PySem.W.codeIn K (.ref cda) qual = true) (S : NScope (self :: xs ++ [("__class__" : Str)]) (self :: xs) ["__class__"] scope) (T : OexC K C)
    (hp : (params.posonlyargs ++ params.args).head? = some ar) (har : ar.arg = self)
    (hcode : K.lookup cda = some ⟨ccl, ccd, .fields vs, ccs⟩) (hvs : vs[2]? = some (.str file tf)) (hfile : ((P.main.file : Str) == file) = true)
    (hcell : K.lookup cc = some ⟨cl, cld, .cell (some (.ref C)), csl⟩) (hD : PySem.W.clsIn K C = some cdD) (hsub : PySem.W.mroIn K C (.ref C) = some true)
    (ho : PySem.W.nsIn K PySem.cStatics "thirdparty.any" = some none) (hm : PySem.W.ks_superIn K C C "__init__" = some (some (.builtin "ValueError.__init__"))) (hB : PySem.W.subIn K (.ref C) (.type "ValueError") = some true)
    (hks : scope.names.lookup ("super" : Str) = some .globalImplicit) (htop : (P.main.scope.names.lookup ("super" : Str)).isSome = false) (hsm : mg "super" = none)
    (fa : FA (self :: xs ++ [("__class__" : Str)]) scope 1 rest (f0 :: fs)) (hxs : xs.length = fs.length + 1) (hfl : fs.length ≤ 800) (hno : ∀ g ∈ f0 :: fs, PySem.W.findIn K (.ref C) g = some none) :
    FnOk P w K mg base (L2.CX P w) (k + 1) f (PySem.W.ksFn name qual params (.Expr (.Call (.Attribute (.Call (.Name "super" p0) [] [] p1) "__init__" apos) [.Constant (.str msg) j pc] [] cpos) pe :: rest) scope dV kV doc pm an (.ref cda) ct cc) (self :: xs) (spErr K C (f0 :: fs)) := by
  refine ⟨fun vs H Q E ⟨a, ws, e, hl, _⟩ => by rw [e]; simp [hl, hxs], fun A outer s H args us vs Q E hr e0 hb r hsp => ?_⟩
  have KX : K.In s.heap := e0.mod.kin.keeps fun b o e => (e0.bs b o e).1
  have lim : s.heap.NoLimit := e0.mod.nolimit.keeps fun b o e => (e0.bs b o e).1
  refine ks_codeAny_call_defAt hr.depth (KX _ _ lk) rfl lim (PySem.W.codeRec_of KX hcd) rfl hb S.nocell (fun y hy => S.par _ (List.of_mem_zip hy).1) (fun h₁ hns kp => ?_) S.co S.gen S.kind
  obtain ⟨a, ws, rfl, hwl, hH, hq⟩ := hsp
  let F : NF := ⟨name, qual, params, .Expr (.Call (.Attribute (.Call (.Name "super" p0) [] [] p1) "__init__" apos) [.Constant (.str msg) j pc] [] cpos) pe :: rest, scope, [("__class__", cc)], cda⟩
  have hcb : base.get? cc = some ⟨cl, cld, .cell (some (.ref C)), csl⟩ := e0.mod.kin _ _ hcell
  have one : ∀ {y : Str} {c : Addr}, F.cl.lookup y = some c → y = "__class__" ∧ c = cc := fun {y c} e => by
    have e : (if y == ("__class__" : Str) then some cc else none) = some c := by
      rw [← e]
      show _ = List.lookup y [("__class__", cc)]
      rw [List.lookup]
      cases y == ("__class__" : Str) <;> rfl
    split at e
    · rename_i h
      cases e
      exact ⟨eq_of_beq h, rfl⟩
    · cases e
  have CA : CellsAt F.cl ["__class__"] [some (.ref C)] s.heap H := by
    refine ⟨rfl, fun y c e => ?_, fun y z c e1 e2 => ?_, fun i y e => ?_⟩
    · rw [(one e).2]
      exact ⟨(e0.bs cc _ hcb).2, some (.ref C), _, KX _ _ hcell, rfl⟩
    · rw [(one e1).1, (one e2).1]
    · cases i with
      | succ i => cases e
      | zero =>
        cases e
        refine ⟨cc, ?_, fun v' e' => ?_⟩
        · show List.lookup ("__class__" : Str) [("__class__", cc)] = some cc
          rw [List.lookup]
          simp
        · cases e'
          exact ⟨.ref C, rfl, _, KX _ _ hcell, rfl⟩
  have hl : (V.ref a :: ws).length = (self :: xs).length := by simp [hwl, hxs]
  have I : Inv (ncx (L2.CX P w) P w K mg base (self :: xs ++ [("__class__" : Str)]) F f A outer s H E) [] (startF (self :: xs ++ [("__class__" : Str)]) (V.ref a :: ws) [some (.ref C)]) H { s with heap := h₁, toks := s.toks + ((self :: xs).zip us).length } := inv_startN S hr.hd e0 hl r CA hns kp
  obtain ⟨u0, us', rfl⟩ : ∃ u0 us', us = u0 :: us' := by
    cases r with
    | cons h t => exact ⟨_, _, rfl⟩
  have hu0 : u0 = Value.ref a := by
    cases r with
    | cons h t => exact h
  refine ks_wpAt_execs_cons (ks_wpAt_Expr_any (ks_wpAt_MethodCall ?_ (supi_form hla)) (by show (scope.kind == .module && _) = false; rw [S.kind]; rfl) rfl)
  refine ks_wpAt_super_base (f := f) (cc := cda) hks (S.frk _ (by simp)) rfl rfl (I.kIn _ _ lk) rfl hp rfl (I.kIn _ _ hcode) rfl hvs hfile htop ?_
  obtain ⟨mb, b1, b2⟩ := I.mod.blt
  refine PySem.W.ks_loadName_global S.kind hks (Calls.loadGlobal_builtin (mg := mg) (mb := mb) (v := .type "super") (by have q := I.mod.glob.keeps I.bk; exact q) hsm (b1.keeps I.bk) ((b2 "super" (by decide)).trans (by decide +kernel)) ⟨rfl, ?_⟩)
  refine PySem.wpAny_loadName_free S.kind (S.frk _ (by simp)) rfl ⟨_, I.kIn _ _ hcell, rfl⟩ ?_
  rw [har]
  refine wpAny_loadName_local S.kind (S.par _ (by simp)) hns (v := .ref a) ?_ ?_
  · have ndP : (self :: xs).Nodup := (List.nodup_append.mp (show ((self :: xs) ++ [("__class__" : Str)]).Nodup from S.nd)).1
    exact zip_look (i := 0) ndP rfl (by rw [hu0]; rfl)
  obtain ⟨oD, hD1, hD2⟩ : ∃ oD, h₁.get? C = some oD ∧ oD.data = .cls cdD := by
    have XK := I.kIn
    unfold PySem.W.clsIn at hD
    split at hD
    · rename_i ho
      cases hD
      exact ⟨_, XK _ _ ho, rfl⟩
    · cases hD
  refine ks_wpAny_isType_cls hD1 hD2 ⟨rfl, ?_⟩
  obtain ⟨t1, hox⟩ := exo_at I.hok hH
  have XK := I.kIn
  refine ks_wpAny_call_super hD1 hD2 hox rfl (fun c e => ?_) (PySem.W.looks_mroIn XK hsub) (fun h' e kp2 => ?_)
  · cases e
  have I2 := pin_new (t' := s.toks + ((self :: xs).zip (u0 :: us')).length) I kp2 (Nat.le_refl _) e (fun v z => nomatch z)
  have X2 := I2.kIn
  obtain ⟨t2, hox2⟩ := exo_at I2.hok hH
  have IA : PySem.W.InstAt h' a { cls := .ref C, dict := none, data := .fields #[.ref t2, .none, .none, .none, .bool false, .none] } C none := ⟨hox2, rfl, rfl, trivial⟩
  unfold PySem.W.ks_superIn at hm
  rw [hD] at hm
  refine PySem.W.kxs_getMethod PySem.W.kxs_ValueError e (PySem.W.looks_opaque X2 ho) (l₀ := cdD.mro) ?_ rfl X2 hm (IA.type.andThen (PySem.W.looks_subIn X2 hB)) (PySem.W.ks_ne X2 IA hD) rfl ?_
  · exact fun A Q E s k q => wpAny_bind ((PySem.W.looks_clsIn X2 hD) A _ E s k (wpAny_pure q))
  have I3 := pin_new (t' := s.toks + ((self :: xs).zip (u0 :: us')).length + 1) I2 (h' := h'.push (PySem.W.kxs_mw "ValueError.__init__" a)) (o := PySem.W.kxs_mw "ValueError.__init__" a) (fun _ _ z => Heap.get?_push_of_some _ z) (Nat.le_refl _) (Heap.get?_push_size h' rfl) (fun v z => nomatch z)
  have hpa := pa_cons (pe_str (X := ncx (L2.CX P w) P w K mg base (self :: xs ++ [("__class__" : Str)]) F f A outer s H E) (x := msg) (j := j) (pos := pc)) pa_nil rfl
  have hst : ∀ env, starEach [Expr.Constant (.str msg) j pc] env = [(false, eval (.Constant (.str msg) j pc) env)] := fun _ => rfl
  refine PySem.W.kxs_callWith (i := "ValueError.__init__") (x := a) (by rw [hst]; rfl) (PySem.Calls.evalArgs_plain (thn (hpa.run cpos _ _ _ _ (fun vs' H' => vs' = [V.str msg] ∧ H' = H) I3 ⟨rfl, rfl⟩) fun us' s3 hz => ?_))
  obtain ⟨vs', H3, I4, rv, rfl, rfl⟩ := hz
  refine ⟨pin_at I4, ?_⟩
  refine mw_call T I4 hH (pin_at I4) (show us'.length ≤ sizeLine by rw [← rv.length]; exact (by decide : 1 ≤ sizeLine)) fun s5 I5 => ?_
  have hrest := fa_first (X := ncx (L2.CX P w) P w K mg base (self :: xs ++ [("__class__" : Str)]) F f A outer s H3 E) T fa hno
  refine PySem.wpAt_of_wpAny (wpAny_mono (hrest.run _ s5 _ H3 { nx := fun _ H' => Q .non H', rt := Q } I5 ⟨a, ws, ?_, by simpa using hwl, fun i w' e' => ?_, hH, hfl, fun dx H2 e1 e2 e3 e4 e5 => hq dx H2 e1 e2 e3 e4 e5⟩) (fun fl s' hs => ?_) fun e s' hs => hs)
  · rfl
  · have hi : i < ws.length := (List.getElem?_eq_some_iff.mp e').1
    show (startF _ _ _)[1 + i]? = _
    unfold startF
    rw [List.getElem?_append_left (by simp; omega), show 1 + i = i + 1 by omega]
    simp [e']
  · cases fl with
    | ret u =>
      obtain ⟨v, σ', H', J, rv', q⟩ := hs
      exact ⟨v, H', J.os, J.bare, J.base, J.hok, rv', q⟩
    | next =>
      obtain ⟨σ', H', J, q⟩ := hs
      exact ⟨.non, H', J.os, J.bare, J.base, J.hok, rfl, q⟩
    | brk =>
      obtain ⟨_, _, _, q⟩ := hs
      exact q.elim
    | cont =>
      obtain ⟨_, _, _, q⟩ := hs
      exact q.elim
end
end Dv

set_option Elab.async false
set_option linter.all false
set_option maxRecDepth 100000
set_option maxHeartbeats 4000000
/-! statements that may raise: their meaning, and what they promise -/
namespace Dv
open PySem PySem.Spec PyProof.Rows L2

/-! ### errors as values -/
/-- an error in the air: its class, its dict -/
def ExV (R : RC) (V₀ H : Hp) (c : Str) (ns : List Str) (vs : List D) (cls : Value) (d : Option Addr) : Prop :=
  ∃ (C dx : Addr) (fs : List (Str × V)), R.mg c = some (.ref C) ∧ cls = .ref C ∧ d = some dx ∧ H dx = some (.xd fs) ∧ fs.map (·.1) = ns ∧ Reps R V₀ (fs.map (·.2)) vs
/-- what is wished of an error, from the entry on -/
def OutX (R : RC) (Z : Addr → Prop) (H₀ : Hp) (c : Str) (ns : List Str) (vs : List D) (E : XK) : Prop :=
  ∀ H' cls d, Rl R Z H₀ H' [] [] → ExV R (vis Z [] H') H' c ns vs cls d → E cls d H'
theorem ExV.mono {R : RC} {V₀ V₁ H : Hp} {c : Str} {ns : List Str} {vs : List D} {cls : Value} {d : Option Addr} (s : Sub V₀ V₁) (h : ExV R V₀ H c ns vs cls d) : ExV R V₁ H c ns vs cls d := by
  obtain ⟨C, dx, fs, h1, h2, h3, h4, h5, h6⟩ := h
  exact ⟨C, dx, fs, h1, h2, h3, h4, h5, h6.mono s⟩
/-- nothing is held any more -/
theorem Rl.none {R : RC} {Z : Addr → Prop} {H₀ H : Hp} {os : List (Option V)} {ss : List SV} (r : Rl R Z H₀ H os ss) : Rl R Z H₀ H [] [] := by
  obtain ⟨L, r⟩ := r
  exact ⟨[], .nil, List.nodup_nil, fun a h => (nomatch h), r.same, r.zd⟩

/-- a def's promise, errors told -/
def spOfX (R : RC) (n : Nat) (F : List D → Res SV) : Sp := fun vs H Q E => vs.length = n ∧ ∃ Z ds, (∀ b, Z b → H b ≠ none) ∧ Reps R (vis Z [] H) vs ds ∧
  ((∃ r, F ds = .ok r ∧ Out R Z [] H r Q) ∨ ∃ c ns es, F ds = .exc c ns es ∧ OutX R Z H c ns es E)
theorem spOf_X {R : RC} {n : Nat} {F : List D → Res SV} : ∀ vs H Q E, spOf R n F vs H Q E → spOfX R n F vs H Q E := fun vs H Q E ⟨h1, Z, ds, r, h2, h3, h4, h5⟩ => ⟨h1, Z, ds, h2, h3, .inl ⟨r, h4, h5⟩⟩
/-- an __init__'s promise, errors told -/
def spInitX (R : RC) (c : Str) (n : Nat) (F : List D → Res SV) : Sp := fun vs H Q E => vs.length = n + 1 ∧ ∃ Z a C dx ws ds, vs = .ref a :: ws ∧ (∀ b, Z b → H b ≠ none) ∧ Z a ∧ R.mg c = some (.ref C) ∧ H a = some (.ins C dx []) ∧ Reps R (vis Z [] H) ws ds ∧
  ((∃ ns es, F ds = .ok (.oi c ns es) ∧ ∀ (H' : Hp) (dx' : Addr) (fs : List (Str × V)), (∀ b o, b ≠ a → H b = some o → H' b = some o) → H' a = some (.ins C dx' fs) → fs.map (·.1) = ns → Reps R (vis Z [] H') (fs.map (·.2)) es → Q .non H') ∨
    ∃ c' ns es, F ds = .exc c' ns es ∧ ∀ H' cls d, (∀ b o, b ≠ a → H b = some o → H' b = some o) → ExV R (vis Z [] H') H' c' ns es cls d → E cls d H')
theorem spInit_X {R : RC} {c : Str} {n : Nat} {F : List D → Res SV} : ∀ vs H Q E, spInit R c n F vs H Q E → spInitX R c n F vs H Q E := fun vs H Q E ⟨h1, Z, a, C, dx, ws, ds, ns, es, h2, h3, h4, h5, h6, h7, h8, h9⟩ => ⟨h1, Z, a, C, dx, ws, ds, h2, h3, h4, h5, h6, h7, .inl ⟨ns, es, h8, h9⟩⟩

/-! ### the language -/
/-- what an except suite does with the error's field f -/
inductive XH where
  /-- return (e.f,) -/
  | tup (f : Str)
  /-- return e.f == a - b (numbers) -/
  | eqs (f : Str) (a b : Int)
mutual
inductive XS where
  | pl (s : CS)
  | raise (c : Str) (as : CL)
  | callX (k : Nat) (as : CL)
  | cond (c : CE) (a b : XB)
  | forS (t : Tgt) (it : CI) (b : XB)
  | tryA (b : XB) (c : Str) (i : Nat) (h : XH)
inductive XB where
  | nil
  | cons (s : XS) (r : XB)
end
def noX {α : Type} : Res α → Res α
  | .ok a => .ok a
  | _ => .fail
theorem noX_ok {α : Type} {r : Res α} {a : α} (h : noX r = .ok a) : r = .ok a := by
  cases r with
  | ok b => exact h
  | _ => cases h
@[simp] theorem noX_ok' {α : Type} (a : α) : noX (.ok a : Res α) = .ok a := rfl
theorem noX_ne {α : Type} {r : Res α} {c : Str} {ns : List Str} {vs : List D} : noX r ≠ .exc c ns vs := by cases r <;> simp [noX]
/-- a call that may raise -/
def callXR (G : GEnv) (k : Nat) (as : CL) (α : AEnv) : Res Fl := match G.fn k with
  | some (_, n, f) => do
    let (os, α1) ← noX (denA G as α)
    let rs ← noX (fins as os α1)
    if rs.length = n then
      let r ← f (rs.map SV.d)
      .ok (.nx (if imS r = true then α1 else frz as α1))
    else .fail
  | none => .fail
def suiteR (h : XH) (ns : List Str) (vs : List D) : Res Fl := match h with
  | .tup f => match fieldAt ns vs f with
    | some d => .ok (.rt (.v (.tup [d])))
    | none => .fail
  | .eqs f a b => match fieldAt ns vs f with
    | some (.int i) => .ok (.rt (.v (.bl (decide (i = a - b)))))
    | _ => .fail
mutual
/-- er: the errors' fields, in the order of the arguments -/
noncomputable def denXS (G : GEnv) (er : Str → Option (List Str)) : XS → AEnv → Res Fl
  | .pl s, α => noX (denS G s α)
  | .raise c as, α => match er c with
    | some fs => do
      let (rs, _) ← noX (denL G as α)
      if rs.length = fs.length then .exc c fs.reverse (rs.map SV.d).reverse else .fail
    | none => .fail
  | .callX k as, α => callXR G k as α
  | .cond c a b, α => do
    let (t, α1) ← noX (denT G (.some c) α)
    if t = true then denXB G er a α1 else denXB G er b α1
  | .forS t it body, α => do
    let (xs, α1) ← noX (denI G it α)
    forD (fun d β => do
      let β1 ← noX (asg t d β)
      denXB G er body β1) xs α1
  | .tryA b c i h, α => match denXB G er b α with
    | .ok f => .ok f
    | .exc c' ns vs => if c' = c then suiteR h ns vs else .fail
    | .fail => .fail
noncomputable def denXB (G : GEnv) (er : Str → Option (List Str)) : XB → AEnv → Res Fl
  | .nil, α => .ok (.nx α)
  | .cons s r, α => do
    let f ← denXS G er s α
    match f with
    | .nx α1 => denXB G er r α1
    | f => .ok f
end
mutual
def wXS : XS → List Nat
  | .pl s => wS s
  | .raise _ _ => []
  | .callX _ _ => []
  | .cond _ a b => wXB a ++ wXB b
  | .forS t _ b => wT t ++ wXB b
  | .tryA b _ i _ => i :: wXB b
def wXB : XB → List Nat
  | .nil => []
  | .cons s r => wXS s ++ wXB r
end

/-! ### readings -/
/-- what is wished: of the flow, and of an error -/
def FlX (R : RC) (Z : Addr → Prop) (H₀ : Hp) (tvs : List (Option V)) (ts : List SV) (σ : L2.St) (W : List Nat) (E : Ends) (Wx : WX) (r : Res Fl) : Prop := (∃ f, r = .ok f ∧ FlOk R Z H₀ tvs ts σ W E f) ∨
  ∃ c ns vs, r = .exc c ns vs ∧ ∀ σ' H' cls d, Keep W σ σ' → Rl R Z H₀ H' [] [] → ExV R (vis Z [] H') H' c ns vs cls d → Wx cls d σ' H'
def liftXS (X : Cx) (G : GEnv) (er : Str → Option (List Str)) (Wx : WX) (c : XS) : TS := fun E σ H => ∃ Z H₀ tvs ts α, Sit (rc X) Z H₀ H tvs σ ts α ∧ FlX (rc X) Z H₀ tvs ts σ (wXS c) E Wx (denXS G er c α)
def liftXB (X : Cx) (G : GEnv) (er : Str → Option (List Str)) (Wx : WX) (c : XB) : TS := fun E σ H => ∃ Z H₀ tvs ts α, Sit (rc X) Z H₀ H tvs σ ts α ∧ FlX (rc X) Z H₀ tvs ts σ (wXB c) E Wx (denXB G er c α)
theorem FlX.shift {R : RC} {Z : Addr → Prop} {H₀ : Hp} {tvs : List (Option V)} {ts : List SV} {σ σ1 : L2.St} {W W1 W2 : List Nat} {E : Ends} {Wx : WX} {r : Res Fl} (h : FlX R Z H₀ tvs ts σ W E Wx r) (k : Keep W1 σ σ1) (h1 : ∀ j ∈ W1, j ∈ W) (h2 : ∀ j ∈ W2, j ∈ W) : FlX R Z H₀ tvs ts σ1 W2 E Wx r := by
  rcases h with ⟨f, e, h⟩ | ⟨c, ns, vs, e, h⟩
  · exact .inl ⟨f, e, h.shift k h1 h2⟩
  · exact .inr ⟨c, ns, vs, e, fun σ' H' cls d q rl x => h σ' H' cls d (k.trans q h1 h2) rl x⟩
theorem Res.bind_X {α β : Type} {x : Res α} {f : α → Res β} {c : Str} {ns : List Str} {vs : List D} (h : (noX x >>= f) = .exc c ns vs) : ∃ a, x = .ok a ∧ f a = .exc c ns vs := by
  cases x with
  | ok a => exact ⟨a, rfl, h⟩
  | _ => cases h
theorem Res.bind_O {α β : Type} {x : Res α} {f : α → Res β} {b : β} (h : (noX x >>= f) = .ok b) : ∃ a, x = .ok a ∧ f a = .ok b := by
  cases x with
  | ok a => exact ⟨a, rfl, h⟩
  | _ => cases h
/-- a first part that raises nothing -/
theorem FlX.bind {R : RC} {Z : Addr → Prop} {H₀ : Hp} {tvs : List (Option V)} {ts : List SV} {σ : L2.St} {W : List Nat} {E : Ends} {Wx : WX} {α : Type} {x : Res α} {f : α → Res Fl} (h : FlX R Z H₀ tvs ts σ W E Wx (noX x >>= f)) : ∃ a, x = .ok a ∧ FlX R Z H₀ tvs ts σ W E Wx (f a) := by
  rcases h with ⟨g, e, h⟩ | ⟨c, ns, vs, e, h⟩
  · obtain ⟨a, e1, e2⟩ := Res.bind_O e
    exact ⟨a, e1, .inl ⟨g, e2, h⟩⟩
  · obtain ⟨a, e1, e2⟩ := Res.bind_X e
    exact ⟨a, e1, .inr ⟨c, ns, vs, e2, h⟩⟩
section
variable {X : Cx} {G : GEnv} {er : Str → Option (List Str)} {Wx : WX} {p pos pos' apos cpos : Pos} {a b e f o : Expr} {es : List Expr} {st : Stmt} {rest body : List Stmt} {ca cb cc : CE} {c : XS} {cr cr' : XB} {cl : CL}
theorem lx_pl {c : CS} (h : PS X st (liftS X G c)) : PS X st (liftXS X G er Wx (.pl c)) := PS.mono h fun E σ H q => by
  obtain ⟨Z, H₀, tvs, ts, α, st, q⟩ := q
  rw [denXS] at q
  rcases q with ⟨f, e, h⟩ | ⟨c, ns, vs, e, h⟩
  · exact ⟨Z, H₀, tvs, ts, α, st, f, noX_ok e, h⟩
  · exact absurd e noX_ne
theorem lxb_nil : PSs X [] (liftXB X G er Wx .nil) := PSs.mono pss_nil fun E σ H q => by
  obtain ⟨Z, H₀, tvs, ts, α, st, q⟩ := q
  rw [denXB] at q
  rcases q with ⟨f, e, k⟩ | ⟨c, ns, vs, e, h⟩
  · cases e
    exact k σ H (.refl _ _) st.rl
  · cases e
theorem lxb_cons (h1 : PS X st (liftXS X G er Wx c)) (h2 : PSs X rest (liftXB X G er Wx cr)) : PSs X (st :: rest) (liftXB X G er Wx (.cons c cr)) := PSs.mono (pss_cons h1 h2) fun E σ H q => by
  obtain ⟨Z, H₀, tvs, ts, α, st, q⟩ := q
  rw [denXB] at q
  refine ⟨Z, H₀, tvs, ts, α, st, ?_⟩
  cases hd : denXS G er c α with
  | ok g =>
    rw [hd] at q
    refine .inl ⟨g, rfl, ?_⟩
    cases g with
    | nx α1 => exact fun σ' H' k r => ⟨Z, H₀, tvs, ts, α1, ⟨st.len, r⟩, FlX.shift q k (fun j m => List.mem_append_left _ m) fun j m => List.mem_append_right _ m⟩
    | bk α1 =>
      rcases q with ⟨f, e, h⟩ | ⟨c, ns, vs, e, h⟩
      · cases e; exact h.shift (.refl [] σ) (fun j m => (nomatch m)) fun j m => List.mem_append_left _ m
      · cases e
    | ct α1 =>
      rcases q with ⟨f, e, h⟩ | ⟨c, ns, vs, e, h⟩
      · cases e; exact h.shift (.refl [] σ) (fun j m => (nomatch m)) fun j m => List.mem_append_left _ m
      · cases e
    | rt r =>
      rcases q with ⟨f, e, h⟩ | ⟨c, ns, vs, e, h⟩
      · cases e; exact h
      · cases e
  | exc c' ns' vs' =>
    rw [hd] at q
    rcases q with ⟨f, e, h⟩ | ⟨c, ns, vs, e, h⟩
    · cases e
    · cases e
      exact .inr ⟨c', ns', vs', rfl, fun σ' H' cls d k => h σ' H' cls d (k.trans (.refl [] σ') (fun j m => List.mem_append_left _ m) fun j m => (nomatch m))⟩
  | fail =>
    rw [hd] at q
    rcases q with ⟨f, e, h⟩ | ⟨c, ns, vs, e, h⟩ <;> cases e
theorem lx_if {t1 t2 : List Stmt} (hc : PT X a (liftO X G ca)) (h1 : PSs X t1 (liftXB X G er Wx cr)) (h2 : PSs X t2 (liftXB X G er Wx cr')) : PS X (.If a t1 t2 pos) (liftXS X G er Wx (.cond ca cr cr')) := PS.mono (ps_if hc h1 h2) fun E σ H q => by
  obtain ⟨Z, H₀, tvs, ts, α, st, q⟩ := q
  rw [denXS] at q
  obtain ⟨⟨t, α1⟩, e1, q⟩ := q.bind
  refine ⟨Z, H₀, tvs, ts, α, st, t, α1, e1, fun H1 rl => ?_⟩
  cases t with
  | true => exact iteT ⟨Z, H₀, tvs, ts, α1, ⟨st.len, rl⟩, FlX.shift q (.refl [] σ) (fun j m => (nomatch m)) fun j m => List.mem_append_left _ m⟩
  | false => exact iteF ⟨Z, H₀, tvs, ts, α1, ⟨st.len, rl⟩, FlX.shift q (.refl [] σ) (fun j m => (nomatch m)) fun j m => List.mem_append_right _ m⟩
theorem lx_for {tg iter : Expr} {t : Tgt} {it : CI} (hp : PassesOwn (model X.prog X.w) X.A X.env X.xe) (hc : X.calm = true) (hi : PI X tg iter (liftI X G it)) (hg : PG X tg (tgG X.K t)) (hb : PSs X body (liftXB X G er Wx cr)) (hs : ∀ x, foldedSetIterable iter X.env x = pure x) :
    PS X (.For tg iter body [] pos) (liftXS X G er Wx (.forS t it cr)) := PS.mono (ps_for hp hc hi hg hb hs) fun E σ H q => by
  obtain ⟨Z, H₀, tvs, ts, α, st, q⟩ := q
  rw [denXS] at q
  obtain ⟨⟨xs, α1⟩, e1, q⟩ := q.bind
  refine ⟨Z, H₀, tvs, ts, α, st, xs, α1, e1, fun J H1 cs ces hcs rl wk => ?_⟩
  have hP : (cs ++ tvs).length = (ces ++ ts).length := by simp [hcs, st.len]
  let FB : D → AEnv → Res Fl := fun d β => noX (asg t d β) >>= fun β1 => denXB G er cr β1
  refine ⟨fun i m σ' H => m = xs.length - i ∧ Keep (wXS (.forS t it cr)) σ σ' ∧ ∃ β, FlX (rc X) Z H₀ tvs ts σ (wXS (.forS t it cr)) E Wx (forD FB (xs.drop i) β) ∧ Rl (rc X) Z H₀ H (cs ++ (tvs ++ σ')) (ces ++ (ts ++ β)), ⟨_, rfl, .refl _ _, α1, q, rl⟩, ?_⟩
  rintro i m σ2 H2 ⟨rfl, kp2, β, hf, rl2⟩
  obtain ⟨wgo, wstop⟩ := wk _ _ i H2 _ _ rl2
  by_cases hi : i < xs.length
  · right
    have hd : xs[i]? = some xs[i] := List.getElem?_eq_getElem hi
    obtain ⟨g1, g2⟩ := wgo _ hd
    rw [List.drop_eq_getElem_cons hi, forD] at hf
    refine ⟨g1, fun σ' H' => Keep (wXS (.forS t it cr)) σ σ' ∧ ∃ β', FlX (rc X) Z H₀ tvs ts σ (wXS (.forS t it cr)) E Wx (forD FB (xs.drop (i + 1)) β') ∧ Rl (rc X) Z H₀ H' (cs ++ (tvs ++ σ')) (ces ++ (ts ++ β')), fun σ' H' ⟨h0, β', h1, h2⟩ => ⟨_, by omega, rfl, h0, β', h1, h2⟩, fun x H' hy => ?_⟩
    obtain ⟨L, rr, rx⟩ := g2 x H' hy
    have u : ∃ γ1, asg t xs[i] β = .ok γ1 := by
      cases hq : asg t xs[i] β with
      | ok g => exact ⟨g, rfl⟩
      | _ =>
        exfalso
        have z : FB xs[i] β = .fail := by show (noX (asg t xs[i] β) >>= _) = _; rw [hq]; rfl
        rw [z] at hf
        rcases hf with ⟨_, e, _⟩ | ⟨_, _, _, e, _⟩ <;> cases e
    obtain ⟨γ1, u1⟩ := u
    have hF : FB xs[i] β = denXB G er cr γ1 := by show (noX (asg t xs[i] β) >>= _) = _; rw [u1]; rfl
    rw [hF] at hf
    have rr2 : RlO (rc X) Z H₀ H' L ((cs ++ tvs) ++ σ2) ((ces ++ ts) ++ β) := by rw [List.append_assoc, List.append_assoc]; exact rr
    refine asg_use hP u1 rr2 rx fun σ3 _ kp3 rl3 => ?_
    refine ⟨Z, H₀, cs ++ tvs, ces ++ ts, γ1, ⟨hP, rl3⟩, ?_⟩
    have m1 : ∀ j ∈ wT t, j ∈ wXS (.forS t it cr) := fun j m => List.mem_append_left _ m
    have m2 : ∀ j ∈ wXB cr, j ∈ wXS (.forS t it cr) := fun j m => List.mem_append_right _ m
    have kp4 : ∀ {σ' : L2.St}, Keep (wXB cr) σ3 σ' → Keep (wXS (.forS t it cr)) σ σ' := fun q => (kp2.trans (show Keep (wT t) σ2 σ3 from kp3) (fun _ m => m) m1).trans q (fun _ m => m) m2
    cases hq : denXB G er cr γ1 with
    | ok g =>
      rw [hq] at hf
      refine .inl ⟨g, rfl, ?_⟩
      cases g with
      | nx α2 => exact fun σ' H' q r => ⟨kp4 q, α2, hf, by rw [List.append_assoc, List.append_assoc] at r; exact r⟩
      | ct α2 => exact fun σ' H' q r => ⟨kp4 q, α2, hf, by rw [List.append_assoc, List.append_assoc] at r; exact r⟩
      | bk α2 =>
        rcases hf with ⟨f, e, k⟩ | ⟨_, _, _, e, _⟩
        · cases e
          exact fun σ' H' q r => k σ' H' (kp4 q) (by rw [List.append_assoc, List.append_assoc] at r; exact Rl.drops hcs r)
        · cases e
      | rt r =>
        rcases hf with ⟨f, e, k⟩ | ⟨_, _, _, e, _⟩
        · cases e
          exact k
        · cases e
    | exc c' ns' vs' =>
      rw [hq] at hf
      rcases hf with ⟨f, e, k⟩ | ⟨c, ns, vs, e, k⟩
      · cases e
      · cases e
        exact .inr ⟨c', ns', vs', rfl, fun σ' H' cls d q => k σ' H' cls d (kp4 q)⟩
    | fail =>
      rw [hq] at hf
      rcases hf with ⟨_, e, _⟩ | ⟨_, _, _, e, _⟩ <;> cases e
  · left
    rw [List.drop_eq_nil_of_le (by omega), forD] at hf
    rcases hf with ⟨f, e, k⟩ | ⟨_, _, _, e, _⟩
    · cases e
      exact ⟨wstop (by omega), k σ2 H2 kp2 (Rl.drops hcs rl2)⟩
    · cases e
end
end Dv

set_option Elab.async false
set_option linter.all false
set_option maxRecDepth 100000
set_option maxHeartbeats 4000000
/-! raise, calls that may raise, try .. except .. as e: return .. -/
namespace Dv
open PySem PySem.Spec PyProof.Rows L2

/-- what is known of an error's class -/
structure ErrAt (P : Program) (w : World) (K : PySem.W.Frag) (mg : Str → Option Value) (base : Heap) (k : Nat) (c : Str) (fs : List Str) : Prop where
  ex : ∃ C fI fd ps j, mg c = some (.ref C) ∧ OexC K C ∧ PySem.W.findIn K (.ref C) "__init__" = some (some (.ref fI)) ∧ PySem.W.typeIn K (.ref fI) = some (.type "function") ∧ FnOk P w K mg base (L2.CX P w) j fI fd ps (spErr K C fs) ∧ Binds K fd ps [] ∧ j + 1 ≤ k ∧
    XfC K C ∧ (∀ f ∈ fs, PySem.W.findIn K (.ref C) f = some none) ∧ PySem.W.exmOne K (.ref C) (.ref C) = some true
theorem ErrAt.mono {P : Program} {w : World} {K : PySem.W.Frag} {mg : Str → Option Value} {base : Heap} {k l : Nat} {c : Str} {fs : List Str} (h : ErrAt P w K mg base k c fs) (hl : k ≤ l) : ErrAt P w K mg base l c fs := by
  obtain ⟨C, fI, fd, ps, j, h1, h2, h3, h4, h5, h6, h7, h8⟩ := h.ex
  exact ⟨C, fI, fd, ps, j, h1, h2, h3, h4, h5, h6, Nat.le_trans h7 hl, h8⟩
/-- what the names stand for where errors are told -/
structure GOkX (X : Cx) (G : GEnv) (er : Str → Option (List Str)) (xf : Nat → Bool) : Prop where
  er : ∀ c fs, er c = some fs → ∃ k, ErrAt X.prog X.w X.K X.mg X.base k c fs ∧ Room k X.A
  fn : ∀ k x n F, xf k = true → G.fn k = some (x, n, F) → (∃ f fd ps j, ps.length = n ∧ X.mg x = some (.ref f) ∧ PySem.W.keepIn X.K (.ref f) = true ∧ Binds X.K fd ps [] ∧ FnOk X.prog X.w X.K X.mg X.base (L2.CX X.prog X.w) j f fd ps (spOfX (rc X) n F) ∧ Room j X.A) ∨
    ∃ C f fd ps j, (∀ ds r, F ds = .ok r → ∃ ns es, r = .oi x ns es) ∧ ps.length = n + 1 ∧ X.mg x = some (.ref C) ∧ Mk X.K C f ∧ Binds X.K fd ps [] ∧ FnOk X.prog X.w X.K X.mg X.base (L2.CX X.prog X.w) j f fd ps (spInitX (rc X) x n F) ∧ Room (j + 1) X.A

section
variable {X : Cx} {G : GEnv} {er : Str → Option (List Str)} {xf : Nat → Bool} {Wx : WX} {p pos pos' apos cpos : Pos} {a b e f o : Expr} {es : List Expr} {st : Stmt} {rest body : List Stmt} {ca cb cc : CE} {cr cr' : XB} {cl : CL} {c : Str}
theorem zip_fst {β : Type} : ∀ {fs : List Str} {ws : List β}, fs.length = ws.length → (fs.zip ws).map (·.1) = fs
  | [], [], _ => rfl
  | _ :: _, _ :: _, h => by simp only [List.zip_cons_cons, List.map_cons]; rw [zip_fst (by simpa using h)]
  | [], _ :: _, h => by cases h
  | _ :: _, [], h => by cases h
theorem zip_snd {β : Type} : ∀ {fs : List Str} {ws : List β}, fs.length = ws.length → (fs.zip ws).map (·.2) = ws
  | [], [], _ => rfl
  | _ :: _, _ :: _, h => by simp only [List.zip_cons_cons, List.map_cons]; rw [zip_snd (by simpa using h)]
  | [], _ :: _, h => by cases h
  | _ :: _, [], h => by cases h
/-- raise C(e, ..) -/
theorem lx_raise (hG : GOkX X G er xf) {fs : List Str} (hc : er c = some fs) (hcalm : X.calm = true) (tk : Takes X Wx) (hg : Gl X c) (hdb : (c == ("__debug__" : Str)) = false) (ha : PA X (e :: es) (liftL X G cl))
    (he : starEach (e :: es) X.env = (false, eval e X.env) :: starEach es X.env) (hpl : (backTo pos' (starEach es X.env)).any (·.1) = false) (hf1 : fs.length ≤ 900) :
    PS X (.Raise (some (.Call (.Name c p) (e :: es) [] pos')) none pos) (liftXS X G er Wx (.raise c cl)) := by
  obtain ⟨k, hE, hr⟩ := hG.er c fs hc
  obtain ⟨C, fI, fd, ps, j, h1, T, h3, h4, ok, hb, hk, _⟩ := hE.ex
  refine PS.mono (ps_raise hcalm tk (pmk_oex T h3 h4 ok (hr.mono hk) hb .nil passL hg h1 ha hdb he hpl)) fun E σ H q => ?_
  obtain ⟨Z, H₀, tvs, ts, α, st, q⟩ := q
  rw [denXS, hc] at q
  obtain ⟨⟨rs, α1⟩, e1, q⟩ := FlX.bind q
  refine ⟨Z, H₀, tvs, ts, α, st, rs, α1, e1, fun vs H1 hl hu rl => ?_⟩
  dsimp only at q
  by_cases hlen : rs.length = fs.length
  · rw [if_pos hlen] at q
    rcases q with ⟨_, z, _⟩ | ⟨c', ns, es', z, q⟩
    · cases z
    · cases z
      refine ⟨by omega, fun a na => ⟨a, vs ++ [], rfl, by simp; omega, upd_same, fun d H2 nd hne e1 e2 e3 => ⟨rfl, d, _, e1, e2, ?_, ?_⟩⟩⟩
      · rw [upd_ne hne] at nd; exact nd
      · rw [upd_ne hne] at nd
        have keep : ∀ b o, H1 b = some o → upd (del H2 a) d (.xd ((fs.zip (vs ++ [])).reverse)) b = some o := fun b o q => by
          have n1 : b ≠ a := fun z => by rw [z, na] at q; cases q
          have n2 : b ≠ d := fun z => by rw [z, nd] at q; cases q
          rw [upd_ne n2, del_ne n1, e3 b n2 n1, upd_ne n1]
          exact q
        obtain ⟨L, rr, rp⟩ := fz_args hl hu rl
        refine q σ _ _ _ (.refl _ _) ⟨[], .nil, List.nodup_nil, fun a h => (nomatch h), rr.same.trans keep, rr.zd⟩ ⟨C, d, _, h1, rfl, rfl, upd_same, ?_, ?_⟩
        · rw [List.append_nil, List.map_reverse, zip_fst (by omega)]
        · have rp2 := (rp.mono (vis_mono (L' := []) fun b o _ hb q => ⟨List.not_mem_nil, keep b o q⟩)).reverse
          rw [List.append_nil] at rp2 ⊢
          rw [List.map_reverse, zip_snd (by omega)]
          exact rp2
  · rw [if_neg hlen] at q
    rcases q with ⟨_, z, _⟩ | ⟨_, _, _, z, _⟩ <;> cases z

/-! ### calls -/
theorem run_makeS {C f : Addr} {fd : FuncData} {ps : List Str} {k : Nat} {sp : Sp} {CX : CXT} {dvs : List V} {ds : List Value} {E : L2.St → XK} {pins : List (Addr × Obj)} {σ : L2.St} {H : Hp} {s : Shared} {Q : VK} {us : List Value} {vs : List V} (M : Mk X.K C f) (F : FnOk X.prog X.w X.K X.mg X.base CX k f fd ps sp) (hr : Room (k + 1) X.A) (hb : Binds X.K fd ps ds) (hd : Vals dvs ds)
    (hx : PassesAt CX X σ (E σ)) (I : Inv X pins σ H s) (r : Vals vs us)
    (h : ∀ x dx, H x = none → H dx = none → dx ≠ x → sp (.ref x :: (vs ++ dvs)) (upd (upd H dx (.own x)) x (.ins C dx [])) (fun v H2 => v = .non ∧ Q (.ref x) H2) (E σ)) :
    wpAny (model X.prog X.w) X.A (call (.ref C) us) (EP X pins σ Q) X.xe s := by
  have hq := h (s.heap.objs.size + 1) s.heap.objs.size (I.hok.fresh (Nat.le_succ _)) (I.hok.fresh (Nat.le_refl _)) (Nat.ne_of_lt (Nat.lt_succ_self _))
  have I2 := Inv.made (C := C) I
  have r2 : Vals (V.ref (s.heap.objs.size + 1) :: (vs ++ dvs)) (Value.ref (s.heap.objs.size + 1) :: (us ++ ds)) := .cons rfl (r.append hd)
  have hl : (Value.ref (s.heap.objs.size + 1) :: us ++ ds).length = ps.length := by
    have e := r2.length
    rw [F.len _ _ _ _ hq] at e
    exact e.symm
  refine wpAny_call (make_map (f := f) I.kIn M.makes M.init (beq_iff_eq.mp M.fn) (codeAny_mono (F.run _ X.stack _ _ ⟨Value.ref (s.heap.objs.size + 1) :: us, []⟩ (Value.ref (s.heap.objs.size + 1) :: (us ++ ds)) _ _ (E σ) (hr.make C us [])
    (I2.env0.make C us []) (hb _ (Value.ref (s.heap.objs.size + 1) :: us) I2.kIn hl) r2 hq) fun r s' hq' => ?_))
  cases r with
  | error e => exact hx pins _ _ e s' I2 hq'
  | ok fl =>
    cases fl with
    | ret u =>
      obtain ⟨v, H', I3, rv, ev, q3⟩ := I2.after hq'
      subst ev
      exact ⟨rv, ⟨V.ref (s.heap.objs.size + 1), H', I3, rfl, q3⟩⟩
    | next => exact False.elim hq'
    | brk => exact False.elim hq'
    | cont => exact False.elim hq'
def tMakeS (C : Addr) (sp : Sp) (E : L2.St → XK) (t : TA) : TE := fun σ H Q => t σ H fun vs H1 => ∀ x dx, H1 x = none → H1 dx = none → dx ≠ x → sp (.ref x :: (vs ++ [])) (upd (upd H1 dx (.own x)) x (.ins C dx [])) (fun v H2 => v = .non ∧ Q (.ref x) H2) (E σ)
theorem pe_makeS {C f : Addr} {fd : FuncData} {ps : List Str} {k : Nat} {sp : Sp} {CX : CXT} {E : L2.St → XK} {x : Str} {t : TA} (M : Mk X.K C f) (F : FnOk X.prog X.w X.K X.mg X.base CX k f fd ps sp) (hr : Room (k + 1) X.A) (hg : Gl X x) (hm : X.mg x = some (.ref C)) (hb : Binds X.K fd ps []) (hx : ∀ σ, PassesAt CX X σ (E σ))
    (ha : PA X (e :: es) t) (hdb : (x == ("__debug__" : Str)) = false) (he : starEach (e :: es) X.env = (false, eval e X.env) :: starEach es X.env) (hpl : (backTo pos (starEach es X.env)).any (·.1) = false) :
    PE X (.Call (.Name x p) (e :: es) [] pos) (tMakeS C sp E t) := by
  refine ⟨fun pins s σ H Q I h => ?_⟩
  refine wpAny_Call_Name_kw (ld_glob I hg hm ?_ hdb)
  refine PySem.W.callWith_K (h₀ := X.base) I.ok.mod.kin M.kp (thn (ha.run pos pins s σ H _ I h) fun us s1 ⟨vs, H1, I1, r, q⟩ => ⟨I1.kIn, ?_⟩) he hpl
  exact run_makeS M F hr hb .nil (hx σ) I1 r q
/-- f(e, ..) as a statement, f may raise -/
theorem lx_callX (hG : GOkX X G er xf) {k : Nat} {x : Str} (hxf : xf k = true) (hk : G.fn k = none ∨ ∃ n F, G.fn k = some (x, n, F)) (tk : Takes X Wx) (hg : Gl X x) (hdb : (x == ("__debug__" : Str)) = false) (ha : PA X (e :: es) (liftA X G cl))
    (he : starEach (e :: es) X.env = (false, eval e X.env) :: starEach es X.env) (hpl : (backTo pos' (starEach es X.env)).any (·.1) = false) :
    PS X (.Expr (.Call (.Name x p) (e :: es) [] pos') pos) (liftXS X G er Wx (.callX k cl)) := by
  rcases hk with hk | ⟨n, F, hk⟩
  · refine ⟨fun pins s σ H D I h => ?_⟩
    obtain ⟨Z, H₀, tvs, ts, α, st, q⟩ := h
    rw [denXS, callXR, hk] at q
    rcases q with ⟨_, z, _⟩ | ⟨_, _, _, z, _⟩ <;> cases z
  have start : ∀ {E : Ends} {σ : L2.St} {H : Hp}, liftXS X G er Wx (.callX k cl) E σ H → ∃ Z H₀ tvs ts α ro α1 rs, Sit (rc X) Z H₀ H tvs σ ts α ∧ denA G cl α = .ok (ro, α1) ∧ fins cl ro α1 = .ok rs ∧ rs.length = n ∧
      FlX (rc X) Z H₀ tvs ts σ [] E Wx (F (rs.map SV.d) >>= fun r => .ok (.nx (if imS r = true then α1 else frz cl α1))) := fun {E σ H} q => by
    obtain ⟨Z, H₀, tvs, ts, α, st, q⟩ := q
    rw [denXS, callXR, hk] at q
    obtain ⟨⟨ro, α1⟩, e1, q⟩ := FlX.bind q
    obtain ⟨rs, e2, q⟩ := FlX.bind q
    by_cases hlen : rs.length = n
    · rw [if_pos hlen] at q
      exact ⟨Z, H₀, tvs, ts, α, ro, α1, rs, st, e1, e2, hlen, q⟩
    · rw [if_neg hlen] at q
      rcases q with ⟨_, z, _⟩ | ⟨_, _, _, z, _⟩ <;> cases z
  have bind2 : ∀ {Z : Addr → Prop} {H₀ : Hp} {tvs : List (Option V)} {ts : List SV} {σ : L2.St} {E : Ends} {α1 : AEnv} {y : Res SV}, FlX (rc X) Z H₀ tvs ts σ [] E Wx (y >>= fun r => .ok (.nx (if imS r = true then α1 else frz cl α1))) →
      (∃ r, y = .ok r ∧ ∀ σ' H', Keep [] σ σ' → Rl (rc X) Z H₀ H' (tvs ++ σ') (ts ++ (if imS r = true then α1 else frz cl α1)) → E.nx σ' H') ∨
        ∃ c ns vs, y = .exc c ns vs ∧ ∀ σ' H' cls d, Keep [] σ σ' → Rl (rc X) Z H₀ H' [] [] → ExV (rc X) (vis Z [] H') H' c ns vs cls d → Wx cls d σ' H' := fun {Z H₀ tvs ts σ E α1 y} q => by
    cases y with
    | ok r =>
      rcases q with ⟨f, z, q⟩ | ⟨_, _, _, z, _⟩
      · cases z; exact .inl ⟨r, rfl, q⟩
      · cases z
    | exc c ns vs =>
      rcases q with ⟨f, z, q⟩ | ⟨_, _, _, z, q⟩
      · cases z
      · cases z; exact .inr ⟨c, ns, vs, rfl, q⟩
    | fail => rcases q with ⟨_, z, _⟩ | ⟨_, _, _, z, _⟩ <;> cases z
  rcases hG.fn k x n F hxf hk with ⟨f, fd, ps, j, hps, hm, hkp, hb, ok, hr⟩ | ⟨C, f, fd, ps, j, hoi, hps, hm, mk, hb, ok, hr⟩
  · refine PS.mono (ps_expr (pe_callSD (E := fun σ cls d H' => Wx cls d σ H') ok hr hg hm hkp hb .nil (fun σ => passAt tk σ) ha hdb he hpl) rfl) fun E σ H q => ?_
    obtain ⟨Z, H₀, tvs, ts, α, ro, α1, rs, st, e1, e2, hl1, q⟩ := start q
    refine ⟨Z, H₀, tvs, ts, α, st, ro, α1, e1, fun vs H1 cs ds hl hu pl rl => ?_⟩
    show spOfX (rc X) n F (vs ++ []) H1 _ _
    rw [List.append_nil]
    rcases bind2 q with ⟨r, y1, q⟩ | ⟨c, ns, es, y1, q⟩
    · exact spOf_X _ _ _ _ (lend_of st.len hl hu pl rl e2 y1 (by rw [← fins_len pl e2, hl1]) fun v H' _ rl' => q σ H' (.refl _ _) rl'.drop)
    · obtain ⟨L, ds', hl', rr, rp⟩ := given_of st.len hl hu pl rl e2
      refine ⟨by rw [← fins_len pl e2, hl1], fun b => Z b ∨ b ∈ L, _, fun b h => ?_, by rw [vis_shift0]; exact rp, .inr ⟨c, ns, es, y1, fun H' cls d rl' xv => q σ H' cls d (.refl _ _) ?_ (xv.mono (.of fun b o e => ?_))⟩⟩
      · rcases h with h | h
        · exact rr.zdH h
        · obtain ⟨u, e⟩ := rr.owned h
          rw [e]
          exact fun z => nomatch z
      · obtain ⟨L', r'⟩ := rl'
        exact ⟨[], .nil, List.nodup_nil, fun a h => (nomatch h), rr.same.trans r'.same, rr.zd⟩
      · obtain ⟨h1, h2, h3⟩ := vis_some e
        exact vis_of (fun z => h1 (.inl z)) List.not_mem_nil h3
  · refine PS.mono (ps_expr (pe_makeS (E := fun σ cls d H' => Wx cls d σ H') mk ok hr hg hm hb (fun σ => passAt tk σ) ha hdb he hpl) rfl) fun E σ H q => ?_
    obtain ⟨Z, H₀, tvs, ts, α, ro, α1, rs, st, e1, e2, hl1, q⟩ := start q
    refine ⟨Z, H₀, tvs, ts, α, st, ro, α1, e1, fun vs H1 cs ds hl hu pl rl z dz nx ndx nex => ?_⟩
    rw [List.append_nil]
    rcases bind2 q with ⟨r, y1, q⟩ | ⟨c, ns, es, y1, q⟩
    · exact spInit_X _ _ _ _ (make_of hm st.len hl hu pl rl e2 y1 (hoi _ _ y1) (by rw [← fins_len pl e2, hl1]) nx ndx nex fun v H' _ rl' => q σ H' (.refl _ _) rl'.drop)
    · obtain ⟨L, ds', hl', rr, rp⟩ := given_of st.len hl hu pl rl e2
      have sm : Same H1 (upd (upd H1 dz (.own z)) z (.ins C dz [])) := fun b o e => by rw [upd_ne (ne_of_none e nx), upd_ne (ne_of_none e ndx)]; exact e
      refine ⟨by simp [← fins_len pl e2, hl1], fun b => (Z b ∨ b ∈ L) ∨ b = z, z, C, dz, vs, rs.map SV.d, rfl, fun b h => ?_, .inr rfl, hm, upd_same, rp.mono (.of fun b o e => ?_), .inr ⟨c, ns, es, y1, fun H' cls d kp xv => q σ H' cls d (.refl _ _) ?_ (xv.mono (.of fun b o e => ?_))⟩⟩
      · rcases h with (h | h) | h
        · intro z
          cases q : H1 b with
          | none => exact rr.zdH h q
          | some u => rw [sm b u q] at z; cases z
        · obtain ⟨u, e⟩ := rr.owned h
          rw [sm b u e]
          exact fun z => nomatch z
        · rw [h, upd_same]; exact fun z => nomatch z
      · obtain ⟨h1, h2, h3⟩ := vis_some e
        refine vis_of (fun z => ?_) List.not_mem_nil (sm b o h3)
        rcases z with (z | z) | z
        · exact h1 z
        · exact h2 z
        · rw [z, nx] at h3; cases h3
      · have sm' : Same H1 H' := fun b o e => kp b o (ne_of_none e nx) (sm b o e)
        exact ⟨[], .nil, List.nodup_nil, fun a h => (nomatch h), rr.same.trans sm', rr.zd⟩
      · obtain ⟨h1, h2, h3⟩ := vis_some e
        exact vis_of (fun z => h1 (.inl (.inl z))) List.not_mem_nil h3

/-! ### try: .. except C as n: return .. -/
/-- the suite's text -/
inductive MH (n : Str) : List Stmt → XH → Prop
  | tup {f : Str} {k : Nat} {p0 p1 p2 p3 : Pos} : MH n [.Return (some (.Tuple [.Attribute (.Name n p0) f p1] k p2)) p3] (.tup f)
  | eqs {f : Str} {a b : Int} {j1 j2 : Nat} {p0 p1 p2 p3 p4 p5 p6 : Pos} : MH n [.Return (some (.Compare (.Attribute (.Name n p0) f p1) [.Eq] [.BinOp (.Constant (.int a) j1 p2) .Sub (.Constant (.int b) j2 p3) p4] p5)) p6] (.eqs f a b)
def hF : XH → Str
  | .tup f => f
  | .eqs f _ _ => f
theorem xd_at : ∀ {fs : List (Str × V)} {vs : List D} {f : Str} {d : D} {R : RC} {V₀ : Hp}, Reps R V₀ (fs.map (·.2)) vs → fieldAt (fs.map (·.1)) vs f = some d → ∃ v, fs.lookup f = some v ∧ Rep R V₀ v d := lookup_some
def tSuite (R : RC) (i : Nat) (C : Addr) (h : XH) (a : Addr) (cls : Value) (dd : Option Addr) : TS := fun E σ H => σ[i]? = some (some (.ref a)) ∧ cls = .ref C ∧ ∃ (Z : Addr → Prop) (H₀ : Hp) (dx : Addr) (fs : List (Str × V)) (vs : List D) (r : SV), dd = some dx ∧ H dx = some (.xd fs) ∧ Rl R Z H₀ H [] [] ∧ Reps R (vis Z [] H) (fs.map (·.2)) vs ∧ suiteR h (fs.map (·.1)) vs = .ok (.rt r) ∧
      ∀ v H', Rl R Z H₀ H' [some v] [r] → E.rt v H'
theorem Takes.len {X : Cx} {W : WX} (t : Takes X W) : Takes X (fun cls d σ H => σ.length = X.N.length → W cls d σ H) := fun u s' ⟨a, B, sI, pins, σ, H, cls, d, e, I, nb, up, sky, na, os, ag, w⟩ =>
  t u s' ⟨a, B, sI, pins, σ, H, cls, d, e, I, nb, up, sky, na, os, ag, w I.len⟩
theorem suite_ok {i : Nat} {n : Str} {C a : Addr} {oe : Obj} {pn : List (Addr × Obj)} {ss : List Stmt} {h : XH} {dd : Option Addr} {cls : Value} (T : XfC X.K C) (hno : PySem.W.findIn X.K (.ref C) (hF h) = some none) (hz : Zc cls dd oe) (hf : ∃ vs, oe.data = .fields vs)
    (hi : X.N[i]? = some n) (hv : L2.Vis X.env.scope n) (h3 : (n == ("__debug__" : Str)) = false) (h4 : (n == ("__classdict__" : Str)) = false) (hm : MH n ss h) :
    PSs (X.suite a ((a, oe) :: pn)) ss (tSuite (rc X) i C h a cls dd) := by
  have hn : ∀ p, PE (X.suite a ((a, oe) :: pn)) (.Name n p) (tVar i) := fun p => pe_var (X := X.suite a ((a, oe) :: pn)) hi hv h3 h4
  cases hm with
  | @tup f _ p0 p1 p2 p3 =>
    have hx := pe_xf (X := X) (pos := p1) (n := f) T hno hz hf (hn p0) rfl
    refine PSs.mono (pss_cons (ps_ret (pe_tupF (pa_cons hx pa_nil rfl))) pss_nil) fun E σ H q => ?_
    obtain ⟨h0, ec, Z, H₀, dx, fs, vs, r, ed, hd, rl, rp, e, k⟩ := q
    unfold suiteR at e
    dsimp only at e
    split at e
    · rename_i d hq
      cases e
      obtain ⟨v, l, rv⟩ := xd_at rp hq
      refine ⟨.ref a, h0, rfl, ec, dx, fs, v, ed, hd, l, ?_⟩
      refine ⟨show 1 ≤ sizeLine by decide, fun q ob hq2 hob => ?_⟩
      obtain ⟨L, rr⟩ := rl
      cases L with
      | cons _ _ => cases rr.ents
      | nil => exact k _ _ (rr.newT hob (.one rv) hq2)
    · cases e
  | @eqs f a' b' _ _ p0 p1 p2 p3 p4 p5 p6 =>
    have hx := pe_xf (X := X) (pos := p1) (n := f) T hno hz hf (hn p0) rfl
    refine PSs.mono (pss_cons (ps_ret (pe_cmpR op_eq hx (pe_op op_sub pe_int pe_int) rfl)) pss_nil) fun E σ H q => ?_
    obtain ⟨h0, ec, Z, H₀, dx, fs, vs, r, ed, hd, rl, rp, e, k⟩ := q
    unfold suiteR at e
    dsimp only at e
    split at e
    · rename_i z hq
      cases e
      obtain ⟨v, l, rv⟩ := xd_at rp hq
      cases rv
      refine ⟨.ref a, h0, rfl, ec, dx, fs, _, ed, hd, l, ?_⟩
      refine ⟨_, _, rfl, rfl, rfl, ?_⟩
      have e2 : decide (V.int z = V.int (a' - b')) = decide (z = a' - b') := by simp
      rw [e2]
      exact k _ _ (rl.any fun _ => .bl _)
    · cases e
theorem lx_try {i : Nat} {n : Str} {np : Pos} {h : XH} {s0 : Stmt} {ss : List Stmt} {fs : List Str} (hG : GOkX X G er xf) (hc : er c = some fs) (hfs : hF h ∈ fs) (hst : X.stack = X.env :: X.outer) (hfr : X.env.frame = some X.env.locals) (hN : X.N.Nodup) (hi : X.N[i]? = some n) (hln : X.env.kindOf n = some .local)
    (h3 : (n == ("__debug__" : Str)) = false) (h4 : (n == ("__classdict__" : Str)) = false) (hg : Gl X c) (hdb : (c == ("__debug__" : Str)) = false) (tk : Takes X Wx) (hm : MH n (s0 :: ss) h)
    (hb : ∀ (W : WX) (pn : List (Addr × Obj)) (xe : Value → Shared → Prop), Takes (X.tr pn xe) W → PassesOwn (model X.prog X.w) X.A X.env xe → PSs (X.tr pn xe) body (liftXB X G er W cr)) :
    PS X (.Try body [.ExceptHandler (some (.Name c np)) (some n) (s0 :: ss) pos'] [] [] pos) (liftXS X G er Wx (.tryA cr c i h)) := by
  obtain ⟨k, hE, hr⟩ := hG.er c fs hc
  obtain ⟨C, fI, fd, ps, j, h1, T, _, _, _, _, _, T2, hno, hex⟩ := hE.ex
  refine PS.mono (ps_try_as (tb := fun W => liftXB X G er (fun cls d σ H => σ.length = X.N.length → W cls d σ H) cr) (ts := tSuite (rc X) i C h) (c := .ref C) hst hfr hN hi hln ⟨hg, hdb, .inl h1⟩ tk (fun W pn xe t own => hb _ pn xe (Takes.len t) own) fun a oe cls d pn hz hf => ?_) ?_
  · exact suite_ok T2 (hno _ hfs) hz hf hi (.inl hln) h3 h4 hm
  · intro E σ H q
    obtain ⟨Z, H₀, tvs, ts, α, st, q⟩ := q
    refine ⟨Z, H₀, tvs, ts, α, st, ?_⟩
    rw [denXS] at q
    cases hd : denXB G er cr α with
    | ok f =>
      rw [hd] at q
      rcases q with ⟨g, e, q⟩ | ⟨_, _, _, z, _⟩
      · cases e
        exact .inl ⟨f, rfl, q.shift (.refl [] σ) (fun j m => (nomatch m)) fun j m => List.mem_cons_of_mem _ m⟩
      · cases z
    | exc c' ns vs =>
      rw [hd] at q
      refine .inr ⟨c', ns, vs, rfl, fun σ' H' cls d kp rl xv hlen => ?_⟩
      dsimp only at q
      by_cases hcc : c' = c
      · rw [if_pos hcc] at q
        subst hcc
        obtain ⟨C', dx, fs', x1, x2, x3, x4, x5, x6⟩ := xv
        have eC : C' = C := by
          have z : X.mg c' = some (.ref C') := x1
          rw [h1] at z
          cases z
          rfl
        subst eC
        subst x2
        subst x3
        subst x5
        refine ⟨true, hex, fun _ a na => ?_, fun z => (nomatch z)⟩
        have rt : ∃ r, suiteR h (fs'.map (·.1)) vs = .ok (.rt r) ∧ ∀ v H' os ss, r ≠ .un → Rl (rc X) Z H₀ H' (some v :: os) (r :: ss) → E.rt v H' := by
          rcases q with ⟨g, e, q⟩ | ⟨_, _, _, z, _⟩
          · have : ∃ r, g = .rt r := by
              unfold suiteR at e
              split at e <;> split at e <;> first | (cases e; done) | (cases e; exact ⟨_, rfl⟩)
            obtain ⟨r, rfl⟩ := this
            exact ⟨r, e, q⟩
          · unfold suiteR at z
            split at z <;> split at z <;> cases z
        obtain ⟨r, e1, k1⟩ := rt
        have hil : i < σ'.length := by rw [hlen]; exact (List.getElem?_eq_some_iff.mp hi).1
        refine ⟨by rw [List.getElem?_set_self hil], rfl, Z, H₀, dx, fs', vs, r, rfl, x4, rl, x6, e1, fun v H'' rl' => k1 v H'' [] [] ?_ rl'⟩
        intro z
        subst z
        unfold suiteR at e1
        split at e1 <;> split at e1 <;> cases e1
      · rw [if_neg hcc] at q
        rcases q with ⟨_, z, _⟩ | ⟨_, _, _, z, _⟩ <;> cases z
    | fail =>
      rw [hd] at q
      rcases q with ⟨_, z, _⟩ | ⟨_, _, _, z, _⟩ <;> cases z
end
end Dv

set_option Elab.async false
set_option linter.all false
set_option maxRecDepth 100000
set_option maxHeartbeats 4000000
/-! from the text to statements that may raise -/
namespace Dv
open PySem PySem.Spec PyProof.Rows L2 He

mutual
inductive MXS (C : CC) (er : Str → Option (List Str)) (xf : Nat → Bool) : Sc → Stmt → XS → Prop
  | pl {c : Sc} {s : Stmt} {cs : CS} : MS C c s cs → MXS C er xf c s (.pl cs)
  | raise {c : Sc} {x : Str} {fs : List Str} {e : Expr} {es : List Expr} {cl : CL} {p p' pos : Pos} : er x = some fs → fs.length ≤ 900 → Gs c x → (x == ("__debug__" : Str)) = false → isStar e = false → es.all (fun e => !isStar e) = true → MD C c (e :: es) cl → MXS C er xf c (.Raise (some (.Call (.Name x p) (e :: es) [] p')) none pos) (.raise x cl)
  | callX {c : Sc} {x : Str} {k : Nat} {e : Expr} {es : List Expr} {cl : CL} {p p' pos : Pos} : xf k = true → C.fx x = some k → Gs c x → (x == ("__debug__" : Str)) = false → isStar e = false → es.all (fun e => !isStar e) = true → ML C c (e :: es) cl → MXS C er xf c (.Expr (.Call (.Name x p) (e :: es) [] p') pos) (.callX k cl)
  | cond {c : Sc} {e : Expr} {ce : CE} {a b : List Stmt} {ca cb : XB} {p : Pos} : ME C c e ce → MXB C er xf c a ca → MXB C er xf c b cb → MXS C er xf c (.If e a b p) (.cond ce ca cb)
  | forS {c : Sc} {tg iter : Expr} {t : Tgt} {it : CI} {a : List Stmt} {ca : XB} {p : Pos} : isSet iter = false → MI C c iter it → MG C c tg t → MXB C er xf c a ca → MXS C er xf c (.For tg iter a [] p) (.forS t it ca)
  | tryA {c : Sc} {body ss : List Stmt} {s0 : Stmt} {cb : XB} {x n : Str} {i : Nat} {h : XH} {fs : List Str} {np pos pos' : Pos} : er x = some fs → hF h ∈ fs → C.N[i]? = some n → c.sc.names.lookup n = some .local → (n == ("__debug__" : Str)) = false → (n == ("__classdict__" : Str)) = false → Gs c x → (x == ("__debug__" : Str)) = false → MH n (s0 :: ss) h → MXB C er xf c body cb →
      MXS C er xf c (.Try body [.ExceptHandler (some (.Name x np)) (some n) (s0 :: ss) pos'] [] [] pos) (.tryA cb x i h)
inductive MXB (C : CC) (er : Str → Option (List Str)) (xf : Nat → Bool) : Sc → List Stmt → XB → Prop
  | nil {c : Sc} : MXB C er xf c [] .nil
  | cons {c : Sc} {s : Stmt} {r : List Stmt} {cs : XS} {cr : XB} : MXS C er xf c s cs → MXB C er xf c r cr → MXB C er xf c (s :: r) (.cons cs cr)
end
structure GoodX (X : Cx) (C : CC) (er : Str → Option (List Str)) (xf : Nat → Bool) (c : Sc) : Prop where
  g : Good X C c
  x : GOkX X C.G er xf
  st : X.stack = X.env :: X.outer
  fr : X.env.frame = some X.env.locals
section
variable {X : Cx} {C : CC} {er : Str → Option (List Str)} {xf : Nat → Bool}
theorem Good.tr {c : Sc} (g : Good X C c) (pn : List (Addr × Obj)) (xe : Value → Shared → Prop) : Good (X.tr pn xe) C c where
  env := g.env
  N := g.N
  nd := g.nd
  calm := g.calm
  fn := g.fn
  un := g.un
  gok := ⟨g.gok.con, g.gok.fn, g.gok.mth, g.gok.gi, g.gok.fld, g.gok.isa⟩
  bn := g.bn
  cls := g.cls
  cx := g.cx
  fx := g.fx
theorem GoodX.tr {c : Sc} (g : GoodX X C er xf c) (pn : List (Addr × Obj)) (xe : Value → Shared → Prop) : GoodX (X.tr pn xe) C er xf c := ⟨g.g.tr pn xe, ⟨g.x.er, g.x.fn⟩, g.st, g.fr⟩
mutual
theorem mxs_ok : ∀ {c : Sc} {s : Stmt} {cs : XS}, MXS C er xf c s cs → ∀ {X : Cx} {W : WX}, GoodX X C er xf c → Takes X W → PassesOwn (model X.prog X.w) X.A X.env X.xe → PS X s (liftXS X C.G er W cs)
  | _, _, _, .pl h, X, W, g, tk, hp => lx_pl (ms_ok h g.g hp)
  | _, _, _, .raise h1 h2 h3 h4 h5 h6 h7, X, W, g, tk, hp => lx_raise g.x h1 g.g.calm tk (g.g.gl h3) h4 (md_ok h7 g.g) (star_ok h5 _ X.env) (stars_ok h6 _ X.env) h2
  | _, _, _, .callX h1 h2 h3 h4 h5 h6 h7, X, W, g, tk, hp => lx_callX g.x h1 (g.g.fx _ _ h2) tk (g.g.gl h3) h4 (ml_ok h7 g.g) (star_ok h5 _ X.env) (stars_ok h6 _ X.env)
  | _, _, _, .cond h ha hb, X, W, g, tk, hp => lx_if (me_ok h g.g).tt (mxb_ok ha g tk hp) (mxb_ok hb g tk hp)
  | _, _, _, .forS hs hi ht ha, X, W, g, tk, hp => lx_for hp g.g.calm (mi_ok hi g.g _) (mg_ok ht g.g) (mxb_ok ha g tk hp) (set_ok hs X.env)
  | _, _, _, .tryA h1 h2 h3 h4 h5 h6 h7 h8 h9 hb, X, W, g, tk, hp => lx_try g.x h1 h2 g.st g.fr g.g.nd (by rw [g.g.N]; exact h3) (by show X.env.scope.names.lookup _ = _; rw [g.g.env]; exact h4) h5 h6 (g.g.gl h7) h8 tk h9 fun W' pn xe t own => mxb_ok hb (g.tr pn xe) t own
theorem mxb_ok : ∀ {c : Sc} {s : List Stmt} {cb : XB}, MXB C er xf c s cb → ∀ {X : Cx} {W : WX}, GoodX X C er xf c → Takes X W → PassesOwn (model X.prog X.w) X.A X.env X.xe → PSs X s (liftXB X C.G er W cb)
  | _, _, _, .nil, X, W, g, tk, hp => lxb_nil
  | _, _, _, .cons h r, X, W, g, tk, hp => lxb_cons (mxs_ok h g tk hp) (mxb_ok r g tk hp)
end
end

/-! ### defs -/
/-- what the names stand for, at a level, where errors are told -/
structure XAt (P : Program) (w : World) (K : PySem.W.Frag) (mg : Str → Option Value) (base : Heap) (k : Nat) (G : GEnv) (er : Str → Option (List Str)) (xf : Nat → Bool) : Prop where
  er : ∀ c fs, er c = some fs → ErrAt P w K mg base k c fs
  fn : ∀ i x n F, xf i = true → G.fn i = some (x, n, F) → (∃ f fd ps j, ps.length = n ∧ mg x = some (.ref f) ∧ PySem.W.keepIn K (.ref f) = true ∧ Binds K fd ps [] ∧ FnOk P w K mg base (L2.CX P w) j f fd ps (spOfX ⟨P, w, K, mg⟩ n F) ∧ j ≤ k) ∨
    ∃ C f fd ps j, (∀ ds r, F ds = .ok r → ∃ ns es, r = .oi x ns es) ∧ ps.length = n + 1 ∧ mg x = some (.ref C) ∧ Mk K C f ∧ Binds K fd ps [] ∧ FnOk P w K mg base (L2.CX P w) j f fd ps (spInitX ⟨P, w, K, mg⟩ x n F) ∧ j + 1 ≤ k
theorem XAt.ok {X : Cx} {G : GEnv} {k : Nat} {er : Str → Option (List Str)} {xf : Nat → Bool} (g : XAt X.prog X.w X.K X.mg X.base k G er xf) (r : Room k X.A) : GOkX X G er xf where
  er := fun c fs h => ⟨k, g.er c fs h, r⟩
  fn := fun i x n F h0 h => by
    rcases g.fn i x n F h0 h with ⟨f, fd, ps, j, h1, h2, h3, h4, h5, h6⟩ | ⟨C, f, fd, ps, j, h0, h1, h2, h3, h4, h5, h6⟩
    · exact .inl ⟨f, fd, ps, j, h1, h2, h3, h4, h5, r.mono h6⟩
    · exact .inr ⟨C, f, fd, ps, j, h0, h1, h2, h3, h4, h5, r.mono h6⟩
/-- a def's value where errors are told -/
noncomputable def denDX (G : GEnv) (er : Str → Option (List Str)) (n : Nat) (b : XB) (ds : List D) : Res SV := do
  let f ← denXB G er b (ds.map .v ++ List.replicate (n - ds.length) .un)
  match f with
  | .rt r => .ok r
  | .nx _ => .ok (.v .non)
  | _ => .fail
/-- the fields of a new object where errors are told: an error's fields are flat -/
noncomputable def denNX (G : GEnv) (er : Str → Option (List Str)) (x : Str) (n : Nat) (b : XB) (ds : List D) : Res SV := match denXB G er b (.oi x [] [] :: (ds.map .v ++ List.replicate (n - (ds.length + 1)) .un)) with
  | .ok (.nx (.oi c ns es :: _)) => if c = x then .ok (.oi c ns es) else .fail
  | .exc c ns vs => if vs.all flatD = true then .exc c ns vs else .fail
  | _ => .fail
theorem flat_rep {R : RC} {V₀ V₁ : Hp} {v : V} {d : D} (r : Rep R V₀ v d) (h : flatD d = true) : Rep R V₁ v d := by
  cases r <;> first | (cases h; done) | skip
  · exact .non
  · exact .bl _
  · exact .int _
  · exact .str _
theorem flat_reps {R : RC} {V₀ V₁ : Hp} : ∀ {vs : List V} {ds : List D}, Reps R V₀ vs ds → ds.all flatD = true → Reps R V₁ vs ds
  | _, _, .nil, _ => .nil
  | _, _, .cons r q, h => by
    rw [List.all_cons, Bool.and_eq_true] at h
    exact .cons (flat_rep r h.1) (flat_reps q h.2)
section
variable {P : Program} {w : World} {K : PySem.W.Frag} {mg : Str → Option Value} {base : Heap} {x qual : Str} {params : Arguments} {body : List Stmt} {scope : Scope} {dvs : List V} {kws : List (Str × V)} {f : Addr} {fd : FuncData} {N ps : List Str} {k np nn : Nat} {C : CC} {cb : XB} {er : Str → Option (List Str)} {xf : Nat → Bool}
theorem def_okX (F : FunD K x qual params body scope dvs kws f fd) (S : fscB N ps scope = true) (g : GAt P w K mg base k C.G) (gx : XAt P w K mg base k C.G er xf) (c : CAt mg C) (hN : C.N = N) (h : MXB C er xf ⟨scope, fun _ => true⟩ body cb) (hp : ps.length = np) (hn : N.length = nn) :
    FnOk P w K mg base (L2.CX P w) (k + 1) f fd ps (spOfX ⟨P, w, K, mg⟩ np (denDX C.G er nn cb)) := by
  subst hp hn
  obtain ⟨oc, od, dV, kV, doc, pm, an, cdv, ct, osl, rfl, lk, hcd, hD, hK⟩ := F.ex
  have S' := fscB_ok S
  refine fn_of lk hcd S' (fun vs H Q E q => q.1) fun A outer s H vs Q E hr hsp => ?_
  have gd := good_of (CX := L2.CX P w) (ps := ps) (qual := qual) (scope := scope) (f := f) (cd := cdv) (A := A) (outer := outer) (s := s) (H := H) (E := E) hN S'.nd hr g c
  let X0 : Cx := cxOf (L2.CX P w) P w K mg base N qual scope f cdv A outer s H E
  have g0 : Good X0 C ⟨scope, fun _ => true⟩ := ⟨gd.env, gd.N, gd.nd, gd.calm, gd.fn, gd.un, ⟨gd.gok.con, gd.gok.fn, gd.gok.mth, gd.gok.gi, gd.gok.fld, gd.gok.isa⟩, gd.bn, gd.cls, gd.cx, gd.fx⟩
  have gX : GoodX X0 C er xf ⟨scope, fun _ => true⟩ := ⟨g0, XAt.ok (X := X0) gx hr, rfl, rfl⟩
  have tk : Takes X0 (fun cls d _ H => E cls d H) := takes_of rfl rfl rfl rfl
  refine ⟨_, mxb_ok h gX tk (passes_of rfl), ?_⟩
  obtain ⟨hl, Z, ds, hz, rp, q⟩ := hsp
  refine ⟨Z, H, [], [], _, sit_start hz rp, ?_⟩
  rcases q with ⟨r, e, o⟩ | ⟨c', ns, es, e, o⟩
  · unfold denDX at e
    obtain ⟨fl, e1, e2⟩ := Res.bind_ok e
    refine .inl ⟨fl, e1, flok_out o ?_⟩
    cases fl with
    | rt r' => cases e2; exact .inl rfl
    | nx α => cases e2; exact .inr ⟨α, rfl, rfl⟩
    | bk α => cases e2
    | ct α => cases e2
  · unfold denDX at e
    rcases Res.bind_exc e with e | ⟨fl, _, e2⟩
    · exact .inr ⟨c', ns, es, e, fun σ' H' cls d _ rl xv => o H' cls d rl xv⟩
    · cases fl <;> cases e2
theorem init_okX {cn : Str} {n : Nat} (F : FunD K x qual params body scope dvs kws f fd) (S : fscB N ps scope = true) (g : GAt P w K mg base k C.G) (gx : XAt P w K mg base k C.G er xf) (c : CAt mg C) (hN : C.N = N) (hn : ps.length = n + 1) (hw : 0 ∉ wXB cb) (h : MXB C er xf ⟨scope, fun _ => true⟩ body cb) (hnn : N.length = nn) :
    FnOk P w K mg base (L2.CX P w) (k + 1) f fd ps (spInitX ⟨P, w, K, mg⟩ cn n (denNX C.G er cn nn cb)) := by
  subst hnn
  obtain ⟨oc, od, dV, kV, doc, pm, an, cdv, ct, osl, rfl, lk, hcd, hD, hK⟩ := F.ex
  have S' := fscB_ok S
  refine fn_of lk hcd S' (fun vs H Q E q => by rw [q.1, hn]) fun A outer s H vs Q E hr hsp => ?_
  have gd := good_of (CX := L2.CX P w) (ps := ps) (qual := qual) (scope := scope) (f := f) (cd := cdv) (A := A) (outer := outer) (s := s) (H := H) (E := E) hN S'.nd hr g c
  let X0 : Cx := cxOf (L2.CX P w) P w K mg base N qual scope f cdv A outer s H E
  have g0 : Good X0 C ⟨scope, fun _ => true⟩ := ⟨gd.env, gd.N, gd.nd, gd.calm, gd.fn, gd.un, ⟨gd.gok.con, gd.gok.fn, gd.gok.mth, gd.gok.gi, gd.gok.fld, gd.gok.isa⟩, gd.bn, gd.cls, gd.cx, gd.fx⟩
  have gX : GoodX X0 C er xf ⟨scope, fun _ => true⟩ := ⟨g0, XAt.ok (X := X0) gx hr, rfl, rfl⟩
  have tk : Takes X0 (fun cls d _ H => E cls d H) := takes_of rfl rfl rfl rfl
  refine ⟨_, mxb_ok h gX tk (passes_of rfl), ?_⟩
  obtain ⟨hl, Z, a, Ca, dx, ws, ds, rfl, hz, za, hm, hH, rp, q⟩ := hsp
  -- the entry without the new object
  let H₀ : Hp := fun b => if b = a then none else H b
  let Z₀ : Addr → Prop := fun b => Z b ∧ b ≠ a
  have hne : ∀ b, b ≠ a → H₀ b = H b := fun b q => if_neg q
  have hna : H₀ a = none := if_pos rfl
  have sm0 : Same H₀ H := fun b u q => by
    by_cases eb : b = a
    · subst eb; rw [hna] at q; cases q
    · rw [hne b eb] at q; exact q
  have sb : Sub (vis Z [] H) (vis Z₀ [a] H) := .of fun b u q => by
    obtain ⟨q1, q2, q3⟩ := vis_some q
    exact vis_of (fun z => q1 z.1) (fun m => q1 (by rw [List.mem_singleton.mp m]; exact za)) q3
  have st0 : Sit ⟨P, w, K, mg⟩ Z₀ H₀ H [] (start N (.ref a :: ws)) [] (.oi cn [] [] :: (ds.map .v ++ List.replicate (N.length - (ds.length + 1)) .un)) := by
    refine ⟨rfl, [a] ++ [], ?_, by simp, fun b m => by rw [List.mem_singleton.mp m]; exact hna, sm0, fun b z => by rw [hne b z.2]; exact hz b z.1⟩
    have en : Ents ⟨P, w, K, mg⟩ (vis Z₀ ([a] ++ []) H) H (ws.map some ++ List.replicate (N.length - (ws.length + 1)) none) (ds.map SV.v ++ List.replicate (N.length - (ds.length + 1)) .un) [] := by
      rw [rp.length]
      exact ents_vals (rp.mono (by simpa using sb)) (ents_un _)
    exact .cons (.oi (fs := []) hm hH .nil) en
  refine ⟨Z₀, H₀, [], [], _, st0, ?_⟩
  rcases q with ⟨ns, es, e, o⟩ | ⟨c', ns, es, e, o⟩
  · unfold denNX at e
    split at e
    · rename_i c1 ns1 es1 α e1
      obtain ⟨hc, e2⟩ := ite_ok e
      cases e2
      refine .inl ⟨_, e1, fun σ' H' kp rl => ?_⟩
      obtain ⟨L, rr⟩ := rl
      have rr : RlO ⟨P, w, K, mg⟩ Z₀ H₀ H' L σ' (.oi cn ns es :: α) := rr
      have k0 : σ'[0]? = some (some (.ref a)) := kp 0 hw
      have sm := rr.same
      obtain ⟨b, g1, g2, g3, put⟩ := rr.put (i := 0) rfl rfl
      rw [k0] at g1
      cases g1
      have fin : ∀ {s : SV} {o : Option V} {as : List Addr}, Ent ⟨P, w, K, mg⟩ (vis Z₀ L H') H' o s as → s = .oi cn ns es → o = some (.ref a) → ∃ (Cb db : Addr) (fs : List (Str × V)), mg cn = some (.ref Cb) ∧ H' a = some (.ins Cb db fs) ∧ ns = fs.map (·.1) ∧ Reps ⟨P, w, K, mg⟩ (vis Z₀ L H') (fs.map (·.2)) es := by
        intro s o as en hs ho
        cases en with
        | oi m hH rp => cases hs; cases ho; exact ⟨_, _, _, m, hH, rfl, rp⟩
        | _ => cases hs
      obtain ⟨Cb, db, fs, m, hH', e3, rp'⟩ := fin g3 rfl rfl
      have ec : Cb = Ca := by
        have z : mg cn = some (.ref Ca) := hm
        rw [m] at z
        cases z
        rfl
      subst ec
      refine o H' db fs (fun b u hb q => sm b u (by rw [hne b hb]; exact q)) hH' e3.symm (rp'.mono (.of fun b u q => ?_))
      obtain ⟨q1, q2, q3⟩ := vis_some q
      exact vis_of (fun z => q1 ⟨z, fun e => q2 (by rw [e]; exact g2)⟩) (fun m => (nomatch m)) q3
    · split at e <;> cases e
    · cases e
  · unfold denNX at e
    split at e
    · split at e <;> cases e
    · rename_i c1 ns1 es1 e1
      split at e
      · rename_i hfl
        cases e
        refine .inr ⟨c', ns, es, e1, fun σ' H' cls d _ rl xv => o H' cls d (fun b u hb q => ?_) ?_⟩
        · obtain ⟨L, r⟩ := rl
          exact r.same b u (by rw [hne b hb]; exact q)
        · obtain ⟨C', dx', fs, x1, x2, x3, x4, x5, x6⟩ := xv
          exact ⟨C', dx', fs, x1, x2, x3, x4, x5, flat_reps x6 hfl⟩
      · cases e
    · cases e
end
end Dv

set_option Elab.async false
set_option linter.all false
set_option maxRecDepth 100000
set_option maxHeartbeats 4000000
/-! errors of the program, as the top leaves them -/
namespace Dv
open PySem PySem.Spec PyProof.Rows L2 He NdefX ClX

/-- the class as an exception's class is to be -/
def oexB (K : PySem.W.Frag) (C : Addr) : Bool := (match K.lookup C with
  | some ⟨.type t, _, .cls cd, sl⟩ => decide (t = "type") && (match cd.mro, sl.toList with
    | .ref C' :: bm, [_, _, _, _, some (.builtin n), _] => decide (C' = C) && (decide (n = "ValueError.__new__") && (!cd.hasDel && (cd.hasDict && PySem.HandSPX.refsVE bm)))
    | _, _ => false)
  | _ => false) && (eqO (PySem.W.findIn K (.ref C) "__setattr__") (some (some (.builtin "object.__setattr__"))) && (decide (PySem.W.subIn K (.ref C) (.type "BaseException") = some true) && (decide (PySem.W.typeIn K (.ref C) = some (.type "type")) && PySem.W.keepIn K (.ref C))))
theorem oexB_ok {K : PySem.W.Frag} {C : Addr} (h : oexB K C = true) : OexC K C := by
  unfold oexB at h
  obtain ⟨h1, h2⟩ := ba h
  obtain ⟨h3, h4⟩ := ba h2
  obtain ⟨h5, h6⟩ := ba h4
  obtain ⟨h7, h8⟩ := ba h6
  refine ⟨?_, eqO_ok h3, of_decide_eq_true h5, of_decide_eq_true h7, h8⟩
  cases q : K.lookup C with
  | none => rw [q] at h1; cases h1
  | some o =>
    obtain ⟨oc, od, dt, osl⟩ := o
    rw [q] at h1
    cases oc with
    | type t =>
      cases dt with
      | cls cd =>
        obtain ⟨g1, g2⟩ := ba (show (decide (t = "type") && (match cd.mro, osl.toList with
          | .ref C' :: bm, [_, _, _, _, some (.builtin n), _] => decide (C' = C) && (decide (n = "ValueError.__new__") && (!cd.hasDel && (cd.hasDict && PySem.HandSPX.refsVE bm)))
          | _, _ => false)) = true from h1)
        have et : t = "type" := of_decide_eq_true g1
        obtain ⟨nm, bs, mro, ns, qn, hd, sn, sub, ab, col, del⟩ := cd
        split at g2
        · rename_i C' bm k0 k1 k2 k3 n k5 hm hs
          obtain ⟨g3, g4⟩ := ba g2
          obtain ⟨g5, g6⟩ := ba g4
          obtain ⟨g7, g8⟩ := ba g6
          obtain ⟨g9, g10⟩ := ba g8
          have e1 : C' = C := of_decide_eq_true g3
          have e2 : n = "ValueError.__new__" := of_decide_eq_true g5
          dsimp only at hm g7 g9
          have e3 : del = false := by simpa using g7
          subst e1 e2 et hm e3
          subst g9
          have hsl : osl = #[k0, k1, k2, k3, some (.builtin "ValueError.__new__"), k5] := by
            obtain ⟨l⟩ := osl
            simp only at hs
            rw [hs]
          subst hsl
          exact ⟨_, _, _, _, _, _, _, _, _, _, _, _, _, _, _, rfl, g10⟩
        · cases g2
      | _ => cases h1
    | _ => cases dt <;> cases h1
/-- an error's class and its __init__ (d.nxt plays no part) -/
def errB (file : Str) (K : PySem.W.Frag) (d : SupD) (fs : List Str) : Bool := (match K.lookup (fAd K (d.c, some "__init__")) with
  | some ⟨_, _, .func fd, _⟩ => (match fd.closure, fd.code, fd.defaults with
    | [(_, cc)], .ref cda, .none => cellB K cc (ga K d.c) && (fileB K cda file && (PySem.W.codeIn K (.ref cda) d.qual && ((PySem.W.clsIn K (ga K d.c)).isSome && (decide (PySem.W.mroIn K (ga K d.c) (.ref (ga K d.c)) = some true) &&
        (decide (PySem.W.nsIn K PySem.cStatics "thirdparty.any" = some none) && (eqO (PySem.W.ks_superIn K (ga K d.c) (ga K d.c) "__init__") (some (some (.builtin "ValueError.__init__"))) && decide (PySem.W.subIn K (.ref (ga K d.c)) (.type "ValueError") = some true)))))))
    | _, _, _ => false)
  | _ => false) && (oexB K (ga K d.c) && (xfB K (ga K d.c) && (decide (PySem.W.exmOne K (.ref (ga K d.c)) (.ref (ga K d.c)) = some true) && (fs.all (fun f => decide (PySem.W.findIn K (.ref (ga K d.c)) f = some none)) &&
    (eqO (PySem.W.findIn K (.ref (ga K d.c)) "__init__") (some (some (.ref (fAd K (d.c, some "__init__"))))) && decide (PySem.W.typeIn K (.ref (fAd K (d.c, some "__init__"))) = some (.type "function")))))))
section
variable {P : Program} {w : World} {K : PySem.W.Frag} {mg : Str → Option Value} {base : Heap} {k : Nat} {d : SupD} {self : Str} {xs fs : List Str} {f0 : Str} {p0 p1 apos cpos pc pe : Pos} {j : Nat} {msg : Str} {rest : List Stmt} {ar : Arg}
theorem err_at (hd : d.m = "__init__") (hmg : mg d.c = some (.ref (ga K d.c))) (e : supW K (d.c, some d.m) = d.val) (b : errB P.main.file K d (f0 :: fs) = true)
    (hbody : d.body = .Expr (.Call (.Attribute (.Call (.Name "super" p0) [] [] p1) "__init__" apos) [.Constant (.str msg) j pc] [] cpos) pe :: rest)
    (hla : (apos.endLine == cpos.line) = true) (S : NScope (self :: xs ++ [("__class__" : Str)]) (self :: xs) ["__class__"] d.scope)
    (hp : (d.params.posonlyargs ++ d.params.args).head? = some ar) (har : ar.arg = self)
    (hks : d.scope.names.lookup ("super" : Str) = some .globalImplicit) (htop : (P.main.scope.names.lookup ("super" : Str)).isSome = false) (hsm : mg "super" = none)
    (fa : FA (self :: xs ++ [("__class__" : Str)]) d.scope 1 rest (f0 :: fs)) (hxs : xs.length = fs.length + 1) (hfl : fs.length ≤ 800)
    (hbind : ∀ (kV doc pm : Value) (an : Option Addr) (cdv ct : Value) (cc : Addr) (us : List Value), us.length = (self :: xs).length → bindArgs (PySem.W.ksFn d.m d.qual d.params d.body d.scope .none kV doc pm an cdv ct cc) ⟨us, []⟩ = pure ((self :: xs).zip us)) :
    ErrAt P w K mg base 2 d.c (f0 :: fs) := by
  unfold errB at b
  obtain ⟨b, c1⟩ := ba b
  obtain ⟨c1, c2⟩ := ba c1
  obtain ⟨c2, c3⟩ := ba c2
  obtain ⟨c3, c4⟩ := ba c3
  obtain ⟨c4, c5⟩ := ba c4
  obtain ⟨c5, c6⟩ := ba c5
  unfold supW at e
  rw [hd] at e
  have hno : ∀ g ∈ f0 :: fs, PySem.W.findIn K (.ref (ga K d.c)) g = some none := fun g hg => of_decide_eq_true (List.all_eq_true.mp c4 g hg)
  cases q : K.lookup (fAd K (d.c, some "__init__")) with
  | none => rw [q] at b; cases b
  | some o =>
    obtain ⟨oc, od, dt, osl⟩ := o
    rw [q] at b e
    cases dt with
    | func fd =>
      obtain ⟨n1, n2, n3, n4, n5, n6, n7, n8, n9, n10, n11, n12, n13, n14, n15⟩ := fd
      have e2 : (some (n1, n2, n3, n4, n5, n6, n7.map (·.1), n15) : SupW) = some (d.m, d.qual, d.params, FuncBody.stmts d.body, d.scope, mainGlobals, [("__class__" : Str)], builtinsNs) := e
      simp only [Option.some.injEq, Prod.mk.injEq] at e2
      obtain ⟨h1, h2, h3, h4, h5, h6, h7, h8⟩ := e2
      subst h1 h2 h3 h4 h5 h6 h8
      match n7, h7, n13, n8, b with
      | [(y, cc)], h7, .ref cda, .none, b =>
        have ey : y = ("__class__" : Str) := by simpa using h7
        subst ey
        obtain ⟨b1, b⟩ := ba b
        obtain ⟨b2, b⟩ := ba b
        obtain ⟨b3, b⟩ := ba b
        obtain ⟨b4, b⟩ := ba b
        obtain ⟨b5, b⟩ := ba b
        obtain ⟨b6, b⟩ := ba b
        obtain ⟨b7, b8⟩ := ba b
        obtain ⟨cl, cld, csl, q1⟩ := cellB_ok b1
        obtain ⟨ccl, cdd, vs, ccs, f, tf, q2, q3, q4⟩ := fileB_ok b2
        obtain ⟨cdD, q5⟩ := Option.isSome_iff_exists.mp b4
        refine ⟨ga K d.c, _, _, self :: xs, 1, hmg, oexB_ok c1, eqO_ok c5, of_decide_eq_true c6, ?_, Binds.all fun us hl => hbind n9 n10 n11 n12 (.ref cda) n14 cc us hl, Nat.le_refl _, xfB_ok c2, hno, of_decide_eq_true c3⟩
        rw [hbody] at q ⊢
        exact err_init (k := 0) hla q b3 S (oexB_ok c1) hp har q2 q3 q4 q1 q5 (of_decide_eq_true b5) (of_decide_eq_true b6) (eqO_ok b7) (of_decide_eq_true b8) hks htop hsm fa hxs hfl hno
    | _ => cases b
end
/-! ### the Hook, with errors -/
structure SaysE (file : Str) (ed : List (SupD × List Str)) (K : PySem.W.Frag) : Prop where
  b : ∀ d ∈ ed, errB file K d.1 d.2 = true
  w : ∀ d ∈ ed, supW K (d.1.c, some d.1.m) = d.1.val
def hookE (file : Str) (n : Nat) (fa : List Fa) (fn : List DefD) (ts : List Tab) (sd : List SupD) (ed : List (SupD × List Str)) (ex : PySem.W.Frag → Bool) : PySem.W.Hook where
  α := AlV × Bool × List SupW
  obs := fun s => (obsV file fa fn ts sd ex (frV n s.heap.get?), ed.all (fun d => errB file (frV n s.heap.get?) d.1 d.2), ed.map fun d => supW (frV n s.heap.get?) (d.1.c, some d.1.m))
  val := fun w => (valV' fn ts sd w, true, ed.map fun d => d.1.val)
  says := fun w h => ∃ K : PySem.W.Frag, K.In h ∧ NoLst K ∧ SaysV file fa fn ts sd ex w K ∧ SaysE file ed K
  of := fun _ _ e => by
    have e1 := congrArg (fun z : AlV × Bool × List SupW => z.1) e
    have e2 := congrArg (fun z : AlV × Bool × List SupW => z.2.1) e
    have e3 := congrArg (fun z : AlV × Bool × List SupW => z.2.2) e
    refine ⟨_, fun _ _ e => (frV_mem e).1, fun _ _ e => (frV_mem e).2, saysV_of e1, ⟨fun d m => List.all_eq_true.mp e2 d m, fun d m => List.map_inj_left.mp e3 d m⟩⟩
  keeps := fun _ _ _ ⟨K, hK, n, c, ce⟩ k => ⟨K, PySem.W.Frag.In.keeps hK k, n, c, ce⟩
theorem obsE_eq {file : Str} {n : Nat} {fa : List Fa} {fn : List DefD} {ts : List Tab} {sd : List SupD} {ed : List (SupD × List Str)} {ex : PySem.W.Frag → Bool} {g : Addr → Option Obj} {s : Shared} (h : ∀ a, g a = s.heap.get? a) :
    (obsV file fa fn ts sd ex (frV n g), ed.all (fun d => errB file (frV n g) d.1 d.2), ed.map fun d => supW (frV n g) (d.1.c, some d.1.m)) = (hookE file n fa fn ts sd ed ex).obs s := by
  have e : g = s.heap.get? := funext h
  rw [e] <;> rfl
end Dv

set_option Elab.async false
set_option linter.all false
set_option maxRecDepth 100000
set_option maxHeartbeats 4000000
/-! the reading of a text that may raise is found; entries of the tables -/
namespace Dv
open PySem PySem.Spec PyProof.Rows L2 He

mutual
/-- is there a statement that is not read -/
def nvSt : CS → Bool
  | .nev => true
  | .cond _ a b => nvBk a || nvBk b
  | .forS _ _ b => nvBk b
  | .whileS _ b => nvBk b
  | _ => false
def nvBk : CB → Bool
  | .nil => false
  | .cons s r => nvSt s || nvBk r
end
def fMH (n : Str) : (ss : List Stmt) → Option { h : XH // MH n ss h }
  | [.Return (some (.Tuple [.Attribute (.Name m p0) f p1] k p2)) p3] => if h : m = n then some ⟨.tup f, by rw [h]; exact .tup⟩ else none
  | [.Return (some (.Compare (.Attribute (.Name m p0) f p1) [.Eq] [.BinOp (.Constant (.int a) j1 p2) .Sub (.Constant (.int b) j2 p3) p4] p5)) p6] => if h : m = n then some ⟨.eqs f a b, by rw [h]; exact .eqs⟩ else none
  | _ => none
abbrev FX (C : CC) (er : Str → Option (List Str)) (xf : Nat → Bool) (c : Sc) (s : Stmt) := { cs : XS // MXS C er xf c s cs }
mutual
def fXS (C : CC) (er : Str → Option (List Str)) (xf : Nat → Bool) : Nat → (c : Sc) → (s : Stmt) → FX C er xf c s
  | 0, _, _ => ⟨.pl .nev, .pl .nev⟩
  | n + 1, c, s => match s with
    | .Raise (some (.Call (.Name x p) (e :: es) [] p')) none pos => match h : er x with
      | some fs => if h1 : fs.length ≤ 900 then if h2 : Gs c x then if h3 : (x == ("__debug__" : Str)) = false then if h4 : isStar e = false then if h5 : es.all (fun e => !isStar e) = true then match fD C n c (e :: es) with
        | some r => ⟨.raise x r.1, .raise h h1 h2 h3 h4 h5 r.2⟩
        | none => ⟨.pl .nev, .pl .nev⟩
        else ⟨.pl .nev, .pl .nev⟩ else ⟨.pl .nev, .pl .nev⟩ else ⟨.pl .nev, .pl .nev⟩ else ⟨.pl .nev, .pl .nev⟩ else ⟨.pl .nev, .pl .nev⟩
      | none => ⟨.pl .nev, .pl .nev⟩
    | .Expr (.Call (.Name x p) (e :: es) [] p') pos => match h : C.fx x with
      | some k => if h0 : xf k = true then if h2 : Gs c x then if h3 : (x == ("__debug__" : Str)) = false then if h4 : isStar e = false then if h5 : es.all (fun e => !isStar e) = true then match fL C n c (e :: es) with
        | some r => ⟨.callX k r.1, .callX h0 h h2 h3 h4 h5 r.2⟩
        | none => ⟨.pl .nev, .pl .nev⟩
        else ⟨.pl .nev, .pl .nev⟩ else ⟨.pl .nev, .pl .nev⟩ else ⟨.pl .nev, .pl .nev⟩ else ⟨.pl .nev, .pl .nev⟩ else
          let r := fSt C n c (.Expr (.Call (.Name x p) (e :: es) [] p') pos)
          ⟨.pl r.1, .pl r.2⟩
      | none =>
          let r := fSt C n c (.Expr (.Call (.Name x p) (e :: es) [] p') pos)
          ⟨.pl r.1, .pl r.2⟩
    | .If e a b p =>
      let r := fSt C n c (.If e a b p)
      if nvSt r.1 = true then ⟨.cond (fE C n c e).1 (fXB C er xf n c a).1 (fXB C er xf n c b).1, .cond (fE C n c e).2 (fXB C er xf n c a).2 (fXB C er xf n c b).2⟩ else ⟨.pl r.1, .pl r.2⟩
    | .For tg iter a [] p =>
      let r := fSt C n c (.For tg iter a [] p)
      if nvSt r.1 = true then (match fG C c tg with
        | some t => if h : isSet iter = false then ⟨.forS t.1 (fI C n c iter).1 (fXB C er xf n c a).1, .forS h (fI C n c iter).2 t.2 (fXB C er xf n c a).2⟩ else ⟨.pl .nev, .pl .nev⟩
        | none => ⟨.pl .nev, .pl .nev⟩) else ⟨.pl r.1, .pl r.2⟩
    | .Try body [.ExceptHandler (some (.Name x np)) (some m) (s0 :: ss) pos'] [] [] pos => match h : er x, fMH m (s0 :: ss) with
      | some fs, some hh => if h1 : hF hh.1 ∈ fs then if h2 : C.N[C.N.idxOf m]? = some m then if h3 : c.sc.names.lookup m = some .local then if h4 : (m == ("__debug__" : Str)) = false then if h5 : (m == ("__classdict__" : Str)) = false then if h6 : Gs c x then if h7 : (x == ("__debug__" : Str)) = false then
          ⟨.tryA (fXB C er xf n c body).1 x (C.N.idxOf m) hh.1, .tryA h h1 h2 h3 h4 h5 h6 h7 hh.2 (fXB C er xf n c body).2⟩ else ⟨.pl .nev, .pl .nev⟩ else ⟨.pl .nev, .pl .nev⟩ else ⟨.pl .nev, .pl .nev⟩ else ⟨.pl .nev, .pl .nev⟩ else ⟨.pl .nev, .pl .nev⟩ else ⟨.pl .nev, .pl .nev⟩ else ⟨.pl .nev, .pl .nev⟩
      | _, _ => ⟨.pl .nev, .pl .nev⟩
    | s =>
      let r := fSt C n c s
      ⟨.pl r.1, .pl r.2⟩
def fXB (C : CC) (er : Str → Option (List Str)) (xf : Nat → Bool) : Nat → (c : Sc) → (ss : List Stmt) → { cb : XB // MXB C er xf c ss cb }
  | _, _, [] => ⟨.nil, .nil⟩
  | 0, c, s :: ss => ⟨.cons (.pl .nev) (fXB C er xf 0 c ss).1, .cons (.pl .nev) (fXB C er xf 0 c ss).2⟩
  | n + 1, c, s :: ss => ⟨.cons (fXS C er xf n c s).1 (fXB C er xf n c ss).1, .cons (fXS C er xf n c s).2 (fXB C er xf n c ss).2⟩
end
def readDefX (C : CC) (er : Str → Option (List Str)) (xf : Nat → Bool) (s : Stmt) : { cb : XB // MXB C er xf ⟨L2.defScope s, fun _ => true⟩ (L2.defBody s) cb } := fXB C er xf 200 ⟨L2.defScope s, fun _ => true⟩ (L2.defBody s)

/-! ### entries -/
section
variable (P : Program) (w : World) (K : PySem.W.Frag) (mg : Str → Option Value) (base : Heap)
def FnEX (k : Nat) (e : FnT) : Prop := ∃ f fd ps j, ps.length = e.2.2.1 ∧ mg e.2.1 = some (.ref f) ∧ PySem.W.keepIn K (.ref f) = true ∧ Binds K fd ps [] ∧ FnOk P w K mg base (L2.CX P w) j f fd ps (spOfX ⟨P, w, K, mg⟩ e.2.2.1 e.2.2.2) ∧ j ≤ k
def ClEX (k : Nat) (e : FnT) : Prop := ∃ C f fd ps j, (∀ ds r, e.2.2.2 ds = .ok r → ∃ ns es, r = .oi e.2.1 ns es) ∧ ps.length = e.2.2.1 + 1 ∧ mg e.2.1 = some (.ref C) ∧ Mk K C f ∧ Binds K fd ps [] ∧ FnOk P w K mg base (L2.CX P w) j f fd ps (spInitX ⟨P, w, K, mg⟩ e.2.1 e.2.2.1 e.2.2.2) ∧ j + 1 ≤ k
end
section
variable {P : Program} {w : World} {K : PySem.W.Frag} {mg : Str → Option Value} {base : Heap} {T : Tabs}
theorem FnEX.mono {k l : Nat} {e : FnT} (h : FnEX P w K mg base k e) (hl : k ≤ l) : FnEX P w K mg base l e := by
  obtain ⟨f, fd, ps, j, h1, h2, h3, h4, h5, h6⟩ := h
  exact ⟨f, fd, ps, j, h1, h2, h3, h4, h5, Nat.le_trans h6 hl⟩
theorem ClEX.mono {k l : Nat} {e : FnT} (h : ClEX P w K mg base k e) (hl : k ≤ l) : ClEX P w K mg base l e := by
  obtain ⟨C, f, fd, ps, j, h0, h1, h2, h3, h4, h5, h6⟩ := h
  exact ⟨C, f, fd, ps, j, h0, h1, h2, h3, h4, h5, Nat.le_trans h6 hl⟩
theorem FnEX.e {k : Nat} {e : FnT} (h : FnEX P w K mg base k e) : FnE P w K mg base k e := by
  obtain ⟨f, fd, ps, j, h1, h2, h3, h4, h5, h6⟩ := h
  exact ⟨f, fd, ps, j, h1, h2, h3, h4, h5.imp spOf_X, h6⟩
theorem ClEX.e {k : Nat} {e : FnT} (h : ClEX P w K mg base k e) : ClE P w K mg base k e := by
  obtain ⟨C, f, fd, ps, j, h0, h1, h2, h3, h4, h5, h6⟩ := h
  exact ⟨C, f, fd, ps, j, h0, h1, h2, h3, h4, h5.imp spInit_X, h6⟩
variable {file : Str} {fa : List Fa} {fn : List DefD} {ts : List Tab} {sd : List SupD} {ex : PySem.W.Frag → Bool} {h : Heap} {k np nn : Nat} {N ps : List Str} {C : CC} {cb : XB} {params : Arguments} {body : List Stmt} {scope : Scope} {x cn q : Str} {er : Str → Option (List Str)} {xf : Nat → Bool} {dfl : List He.Dv}
theorem denNX_is {G : GEnv} {cn : Str} {ds : List D} {r : SV} (h : denNX G er cn nn cb ds = .ok r) : ∃ ns es, r = .oi cn ns es := by
  unfold denNX at h
  split at h
  · obtain ⟨h1, h⟩ := ite_ok h
    cases h
    subst h1
    exact ⟨_, _, rfl⟩
  · split at h <;> cases h
  · cases h
theorem fn_entX (c : SaysV file fa fn ts sd ex w K) (X : K.In h) (G : h.Ns mainGlobals mg) (i : Nat) (hd : fn[i]? = some ⟨(x, none), x, x, params, body, scope, [], []⟩) (hf : Fa.glo x ∈ fa) (g : GAt P w K mg base k C.G) (gx : XAt P w K mg base k C.G er xf) (cc : CAt mg C) (hN : C.N = N) (S : fscB N ps scope = true)
    (hr : ∃ r : { cb : XB // MXB C er xf ⟨scope, fun _ => true⟩ body cb }, r.1 = cb) (hp : ps.length = np) (hn : N.length = nn) (F : List D → Res SV) (hF : F = denDX C.G er nn cb)
    (hb : ∀ (kV doc pm : Value) (an : Option Addr) (cdv ct : Value) (us : List Value), us.length = np → bindArgs (PySem.W.fnOf x x params body scope .none kV doc pm an cdv ct) ⟨us, []⟩ = pure (ps.zip us)) (n : Nat) : FnEX P w K mg base (k + 1) (n, x, np, F) := by
  obtain ⟨fd, F1⟩ := c.t.d.def_ i hd
  obtain ⟨⟨cb', hm⟩, rfl⟩ := hr
  refine ⟨ga K x, fd, ps, k + 1, hp, glo_ok X G (c.t.d.facts hf), F1.kp, F1.bindsN fun kV doc pm an cdv ct us hl => hb kV doc pm an cdv ct us (by rw [hl, hp]), ?_, Nat.le_refl _⟩
  show FnOk P w K mg base (L2.CX P w) (k + 1) (ga K x) fd ps (spOfX ⟨P, w, K, mg⟩ np F)
  rw [hF]
  exact def_okX F1 S g gx cc hN hm hp hn
theorem cl_entX (c : SaysV file fa fn ts sd ex w K) (X : K.In h) (G : h.Ns mainGlobals mg) (i : Nat) (hd : fn[i]? = some ⟨(cn, some "__init__"), "__init__", q, params, body, scope, dfl, []⟩) (hf : Fa.glo cn ∈ fa) (hm : Fa.mkr cn ∈ fa) (g : GAt P w K mg base k C.G) (gx : XAt P w K mg base k C.G er xf) (cc : CAt mg C) (hN : C.N = N) (S : fscB N ps scope = true)
    (hr : ∃ r : { cb : XB // MXB C er xf ⟨scope, fun _ => true⟩ body cb }, r.1 = cb) (hp : ps.length = np + 1) (hn : N.length = nn) (hw : 0 ∉ wXB cb) (F : List D → Res SV) (hF : F = denNX C.G er cn nn cb)
    (hb : ∀ fd, FunD K "__init__" q params body scope (dfl.map (He.Dv.v K)) [] (ma K (ga K cn) "__init__") fd → Binds K fd ps []) (n : Nat) : ClEX P w K mg base (k + 2) (n, cn, np, F) := by
  obtain ⟨fd, F1⟩ := c.t.d.def_ i hd
  obtain ⟨⟨cb', hmx⟩, rfl⟩ := hr
  refine ⟨ga K cn, ma K (ga K cn) "__init__", fd, ps, k + 1, fun ds r e => denNX_is (nn := nn) (cb := cb') (G := C.G) (er := er) (by rw [hF] at e; exact e), hp, glo_ok X G (c.t.d.facts hf), mk_of c hm, hb fd F1, ?_, Nat.le_refl _⟩
  show FnOk P w K mg base (L2.CX P w) (k + 1) (ma K (ga K cn) "__init__") fd ps (spInitX ⟨P, w, K, mg⟩ cn np F)
  rw [hF]
  exact init_okX F1 S g gx cc hN hp hw hmx hn
end
/-- the tables where errors are told -/
structure TabsX (P : Program) (w : World) (K : PySem.W.Frag) (mg : Str → Option Value) (base : Heap) (T : Tabs) (er : Str → Option (List Str)) (xf : Nat → Bool) : Prop where
  con : ∀ n x d, T.con n = some (x, d) → ConOk P w K mg x d
  errs : ∀ c fs, er c = some fs → ErrAt P w K mg base 2 c fs
  fnC : ∀ k l, 2 ≤ l → GAt P w K mg base l (Gv T k) → XAt P w K mg base l (Gv T k) er xf → ∀ e ∈ T.fnC (Gv T k), FnE P w K mg base (l + 1) e ∧ (xf e.1 = true → FnEX P w K mg base (l + 1) e)
  fnP : ∀ k l, 2 ≤ l → GAt P w K mg base l (Gv T k) → XAt P w K mg base l (Gv T k) er xf → ∀ e ∈ T.fnP (Gv T k), ClE P w K mg base (l + 3) e ∧ (xf e.1 = true → ClEX P w K mg base (l + 3) e)
  mtC : ∀ k l, GAt P w K mg base l (Gv T k) → ∀ e ∈ T.mtC (Gv T k), MtE P w K mg base (l + 1) e
  mtP : ∀ k l, GAt P w K mg base l (Gv T k) → ∀ e ∈ T.mtP (Gv T k), MtE P w K mg base (l + 2) e
  giP : ∀ k l, GAt P w K mg base l (Gv T k) → ∀ e ∈ T.giP (Gv T k), GiE P w K mg base (l + 2) e
  fld : ∀ c f C, T.fld c f = true → mg c = some (.ref C) → Cls K C ∧ NoAttr K C f
  isa : ∀ c t b C, T.isa c t = some b → mg c = some (.ref C) → ∃ T, mg t = some (.ref T) ∧ PySem.W.kitOne K (.ref C) (.ref T) = some b ∧ Cls K C ∧ PySem.W.findIn K (.ref C) "__class__" = some (some (.builtin "object.__class__")) ∧
    PySem.W.specialIn K (.builtin "object.__class__") "__get__" = some (some (.builtin "getset_descriptor.__get__")) ∧ PySem.W.takesIn K (.builtin "object.__class__") = some true ∧ PySem.W.mroIn K C (.type "object") = some true
section
variable {P : Program} {w : World} {K : PySem.W.Frag} {mg : Str → Option Value} {base : Heap} {T : Tabs} {er : Str → Option (List Str)} {xf : Nat → Bool}
theorem XAt.mono {k l : Nat} {G : GEnv} (g : XAt P w K mg base k G er xf) (hl : k ≤ l) : XAt P w K mg base l G er xf where
  er := fun c fs h => (g.er c fs h).mono hl
  fn := fun i x n F h0 h => by
    rcases g.fn i x n F h0 h with ⟨f, fd, ps, j, h1, h2, h3, h4, h5, h6⟩ | ⟨C, f, fd, ps, j, h0, h1, h2, h3, h4, h5, h6⟩
    · exact .inl ⟨f, fd, ps, j, h1, h2, h3, h4, h5, Nat.le_trans h6 hl⟩
    · exact .inr ⟨C, f, fd, ps, j, h0, h1, h2, h3, h4, h5, Nat.le_trans h6 hl⟩
theorem xat0 (h : TabsX P w K mg base T er xf) : GAt P w K mg base 2 (gv0 T) ∧ XAt P w K mg base 2 (gv0 T) er xf :=
  ⟨{ con := fun n x d e => (h.con n x d e).ex
     fn := fun i x n F e => (nomatch e)
     mth := fun c m n F C e => (nomatch e)
     gi := fun c F C e => (nomatch e)
     fld := h.fld
     isa := h.isa }, ⟨h.errs, fun i x n F _ e => (nomatch e)⟩⟩
theorem xat_mk (h : TabsX P w K mg base T er xf) {k l : Nat} (hl : 2 ≤ l) (g1 : GAt P w K mg base l (Gv T k)) (x1 : XAt P w K mg base l (Gv T k) er xf) (p : Option GEnv) (g2 : ∀ q, p = some q → ∃ j i, l = i + 2 ∧ 2 ≤ i ∧ q = Gv T j ∧ GAt P w K mg base i (Gv T j) ∧ XAt P w K mg base i (Gv T j) er xf) :
    GAt P w K mg base (l + 2) (mkG T (Gv T k) p) ∧ XAt P w K mg base (l + 2) (mkG T (Gv T k) p) er xf := by
  refine ⟨{
    con := fun n x d e => (h.con n x d e).ex
    fn := fun i x n F e => ?_
    mth := fun c m n F C e hm => ?_
    gi := fun c F C e hm => ?_
    fld := h.fld
    isa := h.isa }, ⟨fun c fs e => (h.errs c fs e).mono (by omega), fun i x n F hx e => ?_⟩⟩
  · rcases List.mem_append.mp (lookup_mem' e) with m | m
    · exact .inl ((h.fnC k l hl g1 x1 _ m).1.mono (by omega))
    · cases p with
      | none => cases m
      | some q =>
        obtain ⟨j, i', rfl, hi, rfl, g, gx⟩ := g2 q rfl
        obtain ⟨C, f, fd, ps, jj, h0, h1, h2, h3, h4, h5, h6⟩ := (h.fnP j i' hi g gx (i, x, n, F) m).1.mono (show i' + 3 ≤ i' + 2 + 2 by omega)
        exact .inr ⟨C, f, fd, ps, jj, h0, h1, h2, h3, h4, h5, h6⟩
  · rcases List.mem_append.mp (lookup_mem' e) with m' | m'
    · exact (h.mtC k l g1 ((c, m), n, F) m').mono (show l + 1 ≤ l + 2 by omega) C hm
    · cases p with
      | none => cases m'
      | some q =>
        obtain ⟨j, i', rfl, hi, rfl, g, gx⟩ := g2 q rfl
        exact (h.mtP j i' g ((c, m), n, F) m').mono (show i' + 2 ≤ i' + 2 + 2 by omega) C hm
  · have m' := lookup_mem' e
    cases p with
    | none => cases m'
    | some q =>
      obtain ⟨j, i', rfl, hi, rfl, g, gx⟩ := g2 q rfl
      exact (h.giP j i' g (c, F) m').mono (show i' + 2 ≤ i' + 2 + 2 by omega) C hm
  · rcases List.mem_append.mp (lookup_mem' e) with m | m
    · exact .inl (((h.fnC k l hl g1 x1 _ m).2 hx).mono (by omega))
    · cases p with
      | none => cases m
      | some q =>
        obtain ⟨j, i', rfl, hi, rfl, g, gx⟩ := g2 q rfl
        obtain ⟨C, f, fd, ps, jj, h0, h1, h2, h3, h4, h5, h6⟩ := ((h.fnP j i' hi g gx (i, x, n, F) m).2 hx).mono (show i' + 3 ≤ i' + 2 + 2 by omega)
        exact .inr ⟨C, f, fd, ps, jj, h0, h1, h2, h3, h4, h5, h6⟩
theorem xat_all (h : TabsX P w K mg base T er xf) : ∀ k, (GAt P w K mg base (2 * k + 2) (Gv T k) ∧ XAt P w K mg base (2 * k + 2) (Gv T k) er xf) ∧ (GAt P w K mg base (2 * (k + 1) + 2) (Gv T (k + 1)) ∧ XAt P w K mg base (2 * (k + 1) + 2) (Gv T (k + 1)) er xf)
  | 0 => ⟨xat0 h, xat_mk h (k := 0) (l := 2) (Nat.le_refl _) (xat0 h).1 (xat0 h).2 none fun q e => (nomatch e)⟩
  | k + 1 => by
    obtain ⟨h1, h2⟩ := xat_all h k
    exact ⟨h2, xat_mk h (k := k + 1) (l := 2 * (k + 1) + 2) (by omega) h2.1 h2.2 (some (Gv T k)) fun q e => ⟨k, 2 * k + 2, by omega, by omega, by cases e; rfl, h1⟩⟩
end
end Dv

namespace Dv
def xb : List XS → XB
  | [] => .nil
  | s :: r => .cons s (xb r)
end Dv

set_option linter.all false
set_option maxRecDepth 100000
namespace Dv
open PySem

/-- 0:self, 1:width, 2:code, 3:inputs, 4:outputs, 5:point, 6:row, 7:most, 8:good, 9:letters, 10:.0, 11:x -/
def cx_Piece___init__ : XB := (xb [
  .cond (.or (.p1 .not (.call 54 (.cons (.var 1) (.cons (.lit (.int 3)) .nil)))) (.or (.p2 .eq (.var 1) (.lit (.int 0))) (.p2 .gt (.p1 .len (.var 2)) (.con 6)))) (xb [
    .raise "BadPiece" (.cons (.p1 .neg (.lit (.int 1))) .nil)]) .nil,
  .forS (.nm 5) (.rng (.p1 .len (.var 2))) (xb [
    .cond (.p1 .not (.call 56 (.cons (.p2 .idx (.var 2) (.var 5)) (.cons (.p1 .len (.var 2)) .nil)))) (xb [
      .raise "BadPiece" (.cons (.var 5) .nil)]) .nil]),
  .forS (.tp [6, 7]) (.seq (.tup (.cons (.tup (.cons (.var 3) (.cons (.lit (.int 3)) .nil))) (.cons (.tup (.cons (.var 4) (.cons (.lit (.int 2)) .nil))) .nil)))) (xb [
    .pl (.set 8 (.lc [10, 11] (.nm 11) (.seq (.var 6)) (.some (.call 53 (.cons (.var 11) (.cons (.con 2) .nil)))) (.var 11))),
    .cond (.or (.p2 .ne (.p1 .len (.var 8)) (.p1 .len (.var 6))) (.or (.p2 .ne (.sc [10, 11] (.nm 11) (.seq (.var 8)) (.var 11)) (.p1 .len (.var 6))) (.p2 .gt (.p1 .len (.var 6)) (.var 7)))) (xb [
      .raise "BadPiece" (.cons (.p1 .neg (.lit (.int 1))) .nil)]) .nil]),
  .pl (.set 9 (.p2 .add (.p2 .add (.call 57 (.cons (.var 2) (.cons (.lit (.str "r")) .nil))) (.p1 .list (.var 3))) (.p1 .list (.var 4)))),
  .pl (.fset 0 "width" (.var 1)),
  .pl (.fset 0 "code" (.p1 .tuple (.var 2))),
  .pl (.fset 0 "inputs" (.p1 .tuple (.var 3))),
  .pl (.fset 0 "outputs" (.p1 .tuple (.var 4))),
  .pl (.fset 0 "registers" (.p1 .tuple (.p1 .sortS (.p1 .list (.dc [10, 11] (.nm 11) (.seq (.var 9)) (.var 11) (.lit (.bl true))))))),
  .pl (.fset 0 "cells" (.p1 .tuple (.p1 .sortS (.call 57 (.cons (.var 2) (.cons (.lit (.str "m")) .nil)))))),
  .cond (.p2 .gt (.p2 .add (.p1 .len (.p1 (.attr "registers") (.var 0))) (.p1 .len (.p1 (.attr "cells") (.var 0)))) (.p2 .idx (.con 5) (.var 1))) (xb [
    .raise "BadPiece" (.cons (.p1 .neg (.lit (.int 1))) .nil)]) .nil])

/-- 0:_law_script, 1:_law_count, 2:_law_draws_here, 3:_law_seed, 4:_law_at, 5:_law_cell, 6:_law_k, 7:_law_one, 8:_law_two -/
def cb__law_draws : CB := (bk [
  .set 2 (.lst .nil),
  .set 3 (.p2 .add (.lit (.int 17)) (.p1 .len (.var 0))),
  .forS (.nm 4) (.rng (.p1 .len (.var 0))) (bk [
    .set 5 (.p1 .abs (.p2 .idx (.var 0) (.var 4))),
    .set 3 (.p2 .mod (.p1 .int (.p2 .add (.p2 .mul (.var 3) (.lit (.int 31))) (.p2 .mod (.p1 .int (.var 5)) (.lit (.int 1000003))))) (.lit (.int 2147483647))),
    .cond (.p2 .ge (.var 5) (.p2 .pow (.lit (.int 10)) (.lit (.int 18)))) (bk [
      .forS (.nm 6) (.rng (.lit (.int 60))) (bk [
        .cond (.p2 .gt (.var 5) (.lit (.int 0))) (bk [
          .app 2 (.p2 .mod (.p1 .int (.var 5)) (.lit (.int 23328))),
          .set 5 (.p2 .fdiv (.var 5) (.lit (.int 23328)))]) .nil])]) (bk [
      .forS (.nm 6) (.rng (.lit (.int 3))) (bk [
        .set 7 (.p2 .mod (.p1 .int (.p2 .add (.p2 .add (.p2 .add (.p2 .mul (.var 5) (.lit (.int 48271))) (.p2 .mul (.var 6) (.lit (.int 69621)))) (.p2 .mul (.var 4) (.lit (.int 7919)))) (.lit (.int 11)))) (.lit (.int 2147483647))),
        .set 8 (.p2 .mod (.p1 .int (.p2 .add (.p2 .mul (.var 7) (.lit (.int 16807))) (.p2 .fdiv (.var 7) (.lit (.int 65536))))) (.lit (.int 2147483629))),
        .app 2 (.p2 .mod (.p1 .int (.p2 .fdiv (.var 8) (.lit (.int 7)))) (.lit (.int 23328)))])])]),
  .forS (.nm 6) (.rng (.var 1)) (bk [
    .set 7 (.p2 .mod (.p1 .int (.p2 .add (.p2 .add (.p2 .mul (.var 3) (.lit (.int 48271))) (.p2 .mul (.var 6) (.lit (.int 69621)))) (.lit (.int 5)))) (.lit (.int 2147483647))),
    .set 8 (.p2 .mod (.p1 .int (.p2 .add (.p2 .mul (.var 7) (.lit (.int 16807))) (.p2 .fdiv (.var 7) (.lit (.int 65536))))) (.lit (.int 2147483629))),
    .app 2 (.p2 .mod (.p1 .int (.p2 .fdiv (.var 8) (.lit (.int 7)))) (.lit (.int 23328)))]),
  .ret (.slice (.var 2) .none (.some (.var 1)))])

/-- 0:_law_draw, 1:_law_size, 2:_law_names, 3:_law_cells, 4:_law_holes, 5:_law_kinds, 6:_law_signs, 7:_law_x, 8:_law_y, 9:_law_z, 10:_law_rest, 11:_law_m, 12:_law_rows -/
def cb__law_row_of : CB := (bk [
  .set 6 (.lst (.cons (.lit (.str "+")) (.cons (.lit (.str "-")) (.cons (.lit (.str "*")) (.cons (.lit (.str "&")) (.cons (.lit (.str "=")) (.cons (.lit (.str "<")) (.cons (.lit (.str "+!")) (.cons (.lit (.str "-!")) .nil))))))))),
  .set 7 (.p2 .idx (.var 2) (.p2 .mod (.p1 .int (.p2 .fdiv (.var 0) (.lit (.int 12)))) (.p1 .len (.var 2)))),
  .set 8 (.p2 .idx (.var 2) (.p2 .mod (.p1 .int (.p2 .fdiv (.var 0) (.lit (.int 36)))) (.p1 .len (.var 2)))),
  .set 9 (.p2 .idx (.var 2) (.p2 .mod (.p1 .int (.p2 .fdiv (.var 0) (.lit (.int 108)))) (.p1 .len (.var 2)))),
  .set 10 (.p2 .mod (.p1 .int (.p2 .fdiv (.var 0) (.lit (.int 324)))) (.lit (.int 72))),
  .set 11 (.p2 .idx (.var 3) (.p2 .mod (.p1 .int (.var 10)) (.p1 .len (.var 3)))),
  .set 12 (.dct (.cons (.lit (.str "put")) (.tup (.cons (.lit (.str "put")) (.cons (.var 7) (.cons (.p2 .mod (.p1 .int (.var 10)) (.lit (.int 8))) .nil)))) (.cons (.lit (.str "step")) (.tup (.cons (.lit (.str "step")) (.cons (.var 7) (.cons (.p2 .idx (.var 6) (.p2 .mod (.p1 .int (.var 10)) (.lit (.int 8)))) (.cons (.var 8) (.cons (.var 9) .nil)))))) .nil))),
  .put 12 (.lit (.str "vow")) (.tup (.cons (.lit (.str "step")) (.cons (.var 7) (.cons (.p2 .idx (.var 6) (.p2 .add (.lit (.int 6)) (.p2 .mod (.p1 .int (.var 10)) (.lit (.int 2))))) (.cons (.var 8) (.cons (.var 9) .nil)))))),
  .put 12 (.lit (.str "select")) (.tup (.cons (.lit (.str "select")) (.cons (.var 7) (.cons (.var 8) (.cons (.var 9) (.cons (.p2 .idx (.var 2) (.p2 .mod (.p1 .int (.var 10)) (.p1 .len (.var 2)))) .nil)))))),
  .put 12 (.lit (.str "merge")) (.tup (.cons (.lit (.str "merge")) (.cons (.var 7) (.cons (.var 8) .nil)))),
  .put 12 (.lit (.str "firm")) (.tup (.cons (.lit (.str "firm")) (.cons (.var 7) (.cons (.var 8) .nil)))),
  .put 12 (.lit (.str "store")) (.tup (.cons (.lit (.str "store")) (.cons (.var 11) (.cons (.var 8) .nil)))),
  .put 12 (.lit (.str "load")) (.tup (.cons (.lit (.str "load")) (.cons (.var 7) (.cons (.var 11) .nil)))),
  .put 12 (.lit (.str "print")) (.tup (.cons (.lit (.str "print")) (.cons (.var 8) .nil))),
  .put 12 (.lit (.str "test")) (.tup (.cons (.lit (.str "test")) (.cons (.var 8) (.cons (.p2 .mod (.p1 .int (.var 10)) (.p2 .add (.var 1) (.lit (.int 1)))) .nil)))),
  .put 12 (.lit (.str "jump")) (.tup (.cons (.lit (.str "jump")) (.cons (.p2 .mod (.p1 .int (.var 10)) (.p2 .add (.var 1) (.lit (.int 1)))) .nil))),
  .put 12 (.lit (.str "ask")) (.tup (.cons (.lit (.str "ask")) (.cons (.var 7) (.cons (.p2 .idx (.var 4) (.p2 .mod (.p1 .int (.var 10)) (.p1 .len (.var 4)))) (.cons (.var 8) .nil))))),
  .ret (.p2 .idx (.var 12) (.p2 .idx (.var 5) (.p2 .mod (.p2 .mod (.p1 .int (.var 0)) (.lit (.int 12))) (.p1 .len (.var 5)))))])

/-- 0:_law_word, 1:_law_forms -/
def cb__law_form : CB := (bk [
  .set 1 (.dct (.cons (.lit (.str "put")) (.lit (.str "rk")) (.cons (.lit (.str "step")) (.lit (.str "rsrr")) (.cons (.lit (.str "select")) (.lit (.str "rrrr")) (.cons (.lit (.str "merge")) (.lit (.str "rr")) (.cons (.lit (.str "firm")) (.lit (.str "rr")) (.cons (.lit (.str "store")) (.lit (.str "mr")) (.cons (.lit (.str "load")) (.lit (.str "rm")) .nil)))))))),
  .put 1 (.lit (.str "print")) (.lit (.str "r")),
  .put 1 (.lit (.str "test")) (.lit (.str "rp")),
  .put 1 (.lit (.str "jump")) (.lit (.str "p")),
  .put 1 (.lit (.str "ask")) (.lit (.str "rmr")),
  .ret (.p2 .idx (.var 1) (.var 0))])

/-- 0:_law_place, 1:_law_size, 2:_law_draw, 3:_law_number, 4:_law_signs -/
def cb__law_wrong_part : CB := (bk [
  .set 3 (.p1 .int (.p2 .fdiv (.var 2) (.lit (.int 16)))),
  .cond (.p2 .eq (.var 0) (.lit (.str "r"))) (bk [
    .ret (.p2 .idx (.lst (.cons (.lit (.str "")) (.cons (.lit (.str "ab")) (.cons (.lit (.str "A")) (.cons (.lit (.str "1")) (.cons (.lit (.str "_")) (.cons (.lit (.str "{")) (.cons (.lit (.str "`")) (.cons (.lit (.str " ")) (.cons (.lit (.str "aa")) (.cons (.lit (.str "Z")) (.cons (.lit (.str "+")) (.cons (.lit (.str "a ")) (.cons (.lit (.str "0")) (.cons (.lit (.str "M")) (.cons (.lit (.str "-")) (.cons (.lit (.str "any")) .nil))))))))))))))))) (.p2 .mod (.p1 .int (.var 2)) (.lit (.int 16))))]) .nil,
  .cond (.p2 .eq (.var 0) (.lit (.str "m"))) (bk [
    .ret (.p2 .idx (.lst (.cons (.lit (.str "")) (.cons (.lit (.str "MN")) (.cons (.lit (.str "m")) (.cons (.lit (.str "1")) (.cons (.lit (.str "_")) (.cons (.lit (.str "[")) (.cons (.lit (.str "@")) (.cons (.lit (.str " ")) (.cons (.lit (.str "MM")) (.cons (.lit (.str "a")) (.cons (.lit (.str "+")) (.cons (.lit (.str "M ")) (.cons (.lit (.str "0")) (.cons (.lit (.str "z")) (.cons (.lit (.str "-")) (.cons (.lit (.str "bad")) .nil))))))))))))))))) (.p2 .mod (.p1 .int (.var 2)) (.lit (.int 16))))]) .nil,
  .cond (.p2 .eq (.var 0) (.lit (.str "s"))) (bk [
    .set 4 (.lst (.cons (.lit (.str "")) (.cons (.lit (.str "++")) (.cons (.lit (.str "*!")) (.cons (.lit (.str "&!")) (.cons (.lit (.str "=!")) (.cons (.lit (.str "<!")) (.cons (.lit (.str "!")) (.cons (.lit (.str "/")) (.cons (.lit (.str ">")) (.cons (.lit (.str "+ ")) (.cons (.lit (.str "!+")) (.cons (.lit (.str "==")) (.cons (.lit (.str "<=")) (.cons (.lit (.str "--")) (.cons (.lit (.str "-+")) (.cons (.lit (.str "a")) .nil))))))))))))))))),
    .ret (.p2 .idx (.var 4) (.p2 .mod (.p1 .int (.var 2)) (.lit (.int 16))))]) .nil,
  .cond (.p2 .eq (.var 0) (.lit (.str "k"))) (bk [
    .ret (.p2 .idx (.lst (.cons (.lit (.int 8)) (.cons (.p2 .sub (.lit (.int 0)) (.lit (.int 1))) (.cons (.p2 .add (.lit (.int 9)) (.p2 .mod (.p1 .int (.var 3)) (.lit (.int 1000)))) (.cons (.p2 .sub (.p2 .sub (.lit (.int 0)) (.lit (.int 2))) (.p2 .mod (.p1 .int (.var 3)) (.lit (.int 1000)))) .nil))))) (.p2 .mod (.p1 .int (.var 2)) (.lit (.int 4))))]) .nil,
  .ret (.p2 .idx (.lst (.cons (.p2 .add (.var 1) (.lit (.int 1))) (.cons (.p2 .sub (.lit (.int 0)) (.lit (.int 1))) (.cons (.p2 .add (.p2 .add (.var 1) (.lit (.int 2))) (.p2 .mod (.p1 .int (.var 3)) (.lit (.int 1000)))) (.cons (.p2 .sub (.p2 .sub (.lit (.int 0)) (.lit (.int 2))) (.p2 .mod (.p1 .int (.var 3)) (.lit (.int 1000)))) .nil))))) (.p2 .mod (.p1 .int (.var 2)) (.lit (.int 4))))])

/-- 0:_law_width, 1:_law_code, 2:_law_ins, 3:_law_ends, 4:e -/
def cx__law_refusal : XB := (xb [
  .tryA (xb [
    .callX 58 (.cons (.var 0) (.cons (.var 1) (.cons (.var 2) (.cons (.var 3) .nil))))]) "BadPiece" 4 (.tup "point"),
  .pl (.ret (.tup .nil))])

/-- 0:_law_row, 1:_law_size, 2:_law_draws_here, 3:_law_at, 4:_law_form_here, 5:_law_rows, 6:_law_k, 7:_law_turn, 8:_law_part -/
def cb__law_spoilt : CB := (bk [
  .set 4 (.call 102 (.cons (.p2 .idx (.var 0) (.lit (.int 0))) .nil)),
  .set 5 (.lst (.cons (.p2 .add (.var 0) (.slice (.var 0) (.some (.p2 .sub (.p1 .len (.var 0)) (.lit (.int 1)))) .none)) (.cons (.slice (.var 0) .none (.some (.p2 .sub (.p1 .len (.var 0)) (.lit (.int 1))))) .nil))),
  .forS (.nm 6) (.rng (.p1 .len (.var 4))) (bk [
    .forS (.nm 7) (.rng (.lit (.int 2))) (bk [
      .set 8 (.call 103 (.cons (.p2 .idx (.var 4) (.var 6)) (.cons (.var 1) (.cons (.p2 .idx (.var 2) (.p2 .add (.p2 .add (.var 3) (.p2 .mul (.lit (.int 2)) (.var 6))) (.var 7))) .nil)))),
      .app 5 (.p2 .add (.p2 .add (.slice (.var 0) .none (.some (.p2 .add (.var 6) (.lit (.int 1))))) (.tup (.cons (.var 8) .nil))) (.slice (.var 0) (.some (.p2 .add (.var 6) (.lit (.int 2)))) .none))])]),
  .ret (.var 5)])

/-- 0:_law_width, 1:_law_bad, 2:_law_number, 3:_law_ins, 4:_law_ends -/
def cb__law_behind : CB := (bk [
  .set 3 (.p2 .idx (.lst (.cons (.lst (.cons (.lit (.str "a")) (.cons (.lit (.str "a")) .nil))) (.cons (.lst (.cons (.lit (.str "A")) .nil)) (.cons (.lst (.cons (.lit (.str "a")) (.cons (.lit (.str "b")) (.cons (.lit (.str "c")) (.cons (.lit (.str "d")) .nil))))) (.cons (.lst .nil) (.cons (.lst .nil) (.cons (.lst .nil) (.cons (.lst (.cons (.lit (.str "d")) (.cons (.lit (.str "e")) (.cons (.lit (.str "f")) .nil)))) .nil)))))))) (.p2 .mod (.p1 .int (.var 2)) (.lit (.int 7)))),
  .set 4 (.p2 .idx (.lst (.cons (.lst .nil) (.cons (.lst .nil) (.cons (.lst .nil) (.cons (.lst (.cons (.lit (.str "b")) (.cons (.lit (.str "b")) .nil))) (.cons (.lst (.cons (.lit (.str "")) (.cons (.lit (.str "a")) .nil))) (.cons (.lst (.cons (.lit (.str "a")) (.cons (.lit (.str "b")) (.cons (.lit (.str "c")) .nil)))) (.cons (.lst (.cons (.lit (.str "g")) (.cons (.lit (.str "h")) .nil))) .nil)))))))) (.p2 .mod (.p1 .int (.var 2)) (.lit (.int 7)))),
  .ret (.call 104 (.cons (.var 0) (.cons (.p1 .list (.var 1)) (.cons (.var 3) (.cons (.var 4) .nil)))))])

/-- 0:_law_script, 1:_law_draws_here, 2:_law_width, 3:_law_names, 4:_law_size, 5:_law_every, 6:_law_k, 7:_law_code, 8:_law_point, 9:_law_row, 10:_law_good, 11:_law_spoilt_here, 12:_law_one, 13:_law_bad, 14:.0 -/
def cb_law : CB := (bk [
  .set 1 (.call 100 (.cons (.var 0) (.cons (.lit (.int 60)) .nil))),
  .set 2 (.p2 .add (.lit (.int 1)) (.p2 .mod (.p1 .int (.p2 .idx (.var 1) (.lit (.int 0)))) (.lit (.int 3)))),
  .set 3 (.p2 .idx (.lst (.cons (.lit (.str "abc")) (.cons (.lit (.str "pq")) (.cons (.lit (.str "z")) .nil)))) (.p2 .sub (.var 2) (.lit (.int 1)))),
  .set 4 (.p2 .add (.lit (.int 1)) (.p2 .mod (.p1 .int (.p2 .idx (.var 1) (.lit (.int 1)))) (.lit (.int 6)))),
  .set 5 (.lst (.cons (.lit (.str "put")) (.cons (.lit (.str "step")) (.cons (.lit (.str "vow")) (.cons (.lit (.str "select")) (.cons (.lit (.str "merge")) (.cons (.lit (.str "firm")) (.cons (.lit (.str "store")) (.cons (.lit (.str "load")) (.cons (.lit (.str "print")) (.cons (.lit (.str "test")) (.cons (.lit (.str "jump")) (.cons (.lit (.str "ask")) .nil))))))))))))),
  .set 7 (.lc [14, 6] (.nm 6) (.rng (.var 4)) .none (.call 101 (.cons (.p2 .idx (.var 1) (.p2 .add (.lit (.int 2)) (.var 6))) (.cons (.var 4) (.cons (.var 3) (.cons (.lit (.str "M")) (.cons (.lit (.str "HJ")) (.cons (.var 5) .nil)))))))),
  .set 8 (.p2 .mod (.p1 .int (.p2 .idx (.var 1) (.lit (.int 8)))) (.var 4)),
  .forS (.nm 6) (.rng (.lit (.int 12))) (bk [
    .set 9 (.call 101 (.cons (.p2 .idx (.var 1) (.p2 .add (.lit (.int 9)) (.var 6))) (.cons (.var 4) (.cons (.var 3) (.cons (.lit (.str "M")) (.cons (.lit (.str "HJ")) (.cons (.lst (.cons (.p2 .idx (.var 5) (.var 6)) .nil)) .nil))))))),
    .set 10 (.p1 .list (.var 7)),
    .put 10 (.var 8) (.var 9),
    .cond (.p2 .ne (.call 104 (.cons (.var 2) (.cons (.p1 .list (.var 10)) (.cons (.lst .nil) (.cons (.lst .nil) .nil))))) (.tup .nil)) (bk [
      .ret (.lit (.bl false))]) .nil,
    .set 11 (.call 105 (.cons (.var 9) (.cons (.var 4) (.cons (.var 1) (.cons (.p2 .add (.lit (.int 21)) (.p2 .mod (.p1 .int (.p2 .idx (.var 1) (.p2 .add (.lit (.int 40)) (.var 6)))) (.lit (.int 12)))) .nil))))),
    .forS (.nm 12) (.seq (.var 11)) (bk [
      .set 13 (.p1 .list (.var 7)),
      .put 13 (.var 8) (.var 12),
      .cond (.p2 .ne (.call 104 (.cons (.var 2) (.cons (.p1 .list (.var 13)) (.cons (.lst .nil) (.cons (.lst .nil) .nil))))) (.tup (.cons (.var 8) .nil))) (bk [
        .ret (.lit (.bl false))]) .nil]),
    .set 13 (.p1 .list (.var 7)),
    .put 13 (.var 8) (.p2 .idx (.var 11) (.p2 .mod (.p1 .int (.p2 .idx (.var 1) (.p2 .add (.lit (.int 40)) (.var 6)))) (.p1 .len (.var 11)))),
    .cond (.p2 .ne (.call 106 (.cons (.var 2) (.cons (.var 13) (.cons (.p2 .add (.p2 .idx (.var 1) (.lit (.int 52))) (.var 6)) .nil)))) (.tup (.cons (.var 8) .nil))) (bk [
      .ret (.lit (.bl false))]) .nil]),
  .ret (.lit (.bl true))])

end Dv

set_option linter.all false
set_option maxRecDepth 100000
set_option maxHeartbeats 1000000
/-! running the meaning of a text that may raise, by rewriting -/
namespace Dv
open PySem
variable {G : GEnv} {er : Str → Option (List Str)} {α α1 : AEnv} {e : CE} {as : CL} {s : SV} {i n : Nat} {cr : XB} {cs : XS} {r : List XS}
noncomputable def kXB (G : GEnv) (er : Str → Option (List Str)) (cr : XB) : Res Fl → Res Fl
  | .ok (.nx α) => denXB G er cr α
  | .ok f => .ok f
  | .exc c n v => .exc c n v
  | .fail => .fail
@[simp] theorem kXB_nx : kXB G er cr (.ok (.nx α)) = denXB G er cr α := Eq.trans rfl rfl
@[simp] theorem kXB_rt : kXB G er cr (.ok (.rt s)) = .ok (.rt s) := Eq.trans rfl rfl
@[simp] theorem kXB_bk : kXB G er cr (.ok (.bk α)) = .ok (.bk α) := Eq.trans rfl rfl
@[simp] theorem kXB_ct : kXB G er cr (.ok (.ct α)) = .ok (.ct α) := Eq.trans rfl rfl
@[simp] theorem kXB_exc {c : Str} {n : List Str} {v : List D} : kXB G er cr (.exc c n v) = .exc c n v := Eq.trans rfl rfl
@[simp] theorem denXB_nil : denXB G er .nil α = .ok (.nx α) := by rw [denXB]
@[simp] theorem denXB_xb0 : denXB G er (xb []) α = .ok (.nx α) := by rw [xb, denXB]
@[simp] theorem denXB_xb : denXB G er (xb (cs :: r)) α = kXB G er (xb r) (denXS G er cs α) := by
  rw [xb, denXB]
  cases denXS G er cs α with
  | ok f => cases f <;> rfl
  | _ => rfl
@[simp] theorem denXS_pl {c : CS} : denXS G er (.pl c) α = noX (denS G c α) := by rw [denXS]
noncomputable def kRsb (c : Str) (fs : List Str) : Res (List SV × AEnv) → Res Fl
  | .ok (rs, _) => if rs.length = fs.length then .exc c fs.reverse (rs.map SV.d).reverse else .fail
  | _ => .fail
@[simp] theorem kRsb_ok {c : Str} {fs : List Str} {rs : List SV} : kRsb c fs (.ok (rs, α)) = if rs.length = fs.length then .exc c fs.reverse (rs.map SV.d).reverse else .fail := Eq.trans rfl rfl
noncomputable def kRs (G : GEnv) (c : Str) (as : CL) (α : AEnv) : Option (List Str) → Res Fl
  | some fs => kRsb c fs (denL G as α)
  | none => .fail
@[simp] theorem kRs_some {c : Str} {fs : List Str} : kRs G c as α (some fs) = kRsb c fs (denL G as α) := Eq.trans rfl rfl
@[simp] theorem denXS_raise {c : Str} : denXS G er (.raise c as) α = kRs G c as α (er c) := by
  rw [denXS]
  cases er c with
  | none => rfl
  | some fs =>
    simp only [kRs_some]
    cases denL G as α with
    | ok p => rfl
    | _ => rfl
noncomputable def kXc (as : CL) (α : AEnv) : Res SV → Res Fl
  | .ok r => .ok (.nx (if imS r = true then α else frz as α))
  | .exc c n v => .exc c n v
  | .fail => .fail
@[simp] theorem kXc_ok : kXc as α (.ok s) = .ok (.nx (if imS s = true then α else frz as α)) := Eq.trans rfl rfl
@[simp] theorem kXc_exc {c : Str} {n : List Str} {v : List D} : kXc as α (.exc c n v) = .exc c n v := Eq.trans rfl rfl
noncomputable def kXb (as : CL) (n : Nat) (f : List D → Res SV) (α : AEnv) : Res (List SV) → Res Fl
  | .ok rs => if rs.length = n then kXc as α (f (rs.map SV.d)) else .fail
  | _ => .fail
@[simp] theorem kXb_ok {f : List D → Res SV} {rs : List SV} : kXb as n f α (.ok rs) = if rs.length = n then kXc as α (f (rs.map SV.d)) else .fail := Eq.trans rfl rfl
noncomputable def kXa (as : CL) (n : Nat) (f : List D → Res SV) : Res (List (Option SV) × AEnv) → Res Fl
  | .ok (os, α) => kXb as n f α (fins as os α)
  | _ => .fail
@[simp] theorem kXa_ok {f : List D → Res SV} {os : List (Option SV)} : kXa as n f (.ok (os, α)) = kXb as n f α (fins as os α) := Eq.trans rfl rfl
noncomputable def kXf (G : GEnv) (as : CL) (α : AEnv) : Option (Str × Nat × (List D → Res SV)) → Res Fl
  | some (_, n, f) => kXa as n f (denA G as α)
  | none => .fail
@[simp] theorem kXf_some {y : Str} {f : List D → Res SV} : kXf G as α (some (y, n, f)) = kXa as n f (denA G as α) := Eq.trans rfl rfl
@[simp] theorem denXS_callX : denXS G er (.callX i as) α = kXf G as α (G.fn i) := by
  rw [denXS, callXR]
  cases G.fn i with
  | none => rfl
  | some p =>
    obtain ⟨y, n, f⟩ := p
    simp only [kXf_some]
    cases denA G as α with
    | ok q =>
      obtain ⟨os, α1⟩ := q
      simp only [kXa_ok]
      show (noX (fins as os α1) >>= _) = _
      cases fins as os α1 with
      | ok rs =>
        show (if rs.length = n then _ else _) = if rs.length = n then _ else _
        by_cases hl : rs.length = n
        · rw [if_pos hl, if_pos hl]
          cases f (rs.map SV.d) <;> rfl
        · rw [if_neg hl, if_neg hl]
      | _ => rfl
    | _ => rfl
noncomputable def kXif (G : GEnv) (er : Str → Option (List Str)) (a b : XB) : Res (Bool × AEnv) → Res Fl
  | .ok (t, α) => if t = true then denXB G er a α else denXB G er b α
  | _ => .fail
@[simp] theorem kXif_ok {a b : XB} {t : Bool} : kXif G er a b (.ok (t, α)) = if t = true then denXB G er a α else denXB G er b α := Eq.trans rfl rfl
@[simp] theorem denXS_cond {a b : XB} : denXS G er (.cond e a b) α = kXif G er a b (denT G (.some e) α) := by
  rw [denXS]
  cases denT G (.some e) α with
  | ok p => rfl
  | _ => rfl
noncomputable def forX (G : GEnv) (er : Str → Option (List Str)) (t : Tgt) (b : XB) (d : D) (β : AEnv) : Res Fl := match asg t d β with
  | .ok β1 => denXB G er b β1
  | _ => .fail
noncomputable def kXfor (G : GEnv) (er : Str → Option (List Str)) (t : Tgt) (b : XB) : Res (List D × AEnv) → Res Fl
  | .ok (ds, α) => forD (forX G er t b) ds α
  | _ => .fail
@[simp] theorem kXfor_ok {t : Tgt} {b : XB} {ds : List D} : kXfor G er t b (.ok (ds, α)) = forD (forX G er t b) ds α := Eq.trans rfl rfl
@[simp] theorem denXS_for {t : Tgt} {it : CI} {b : XB} : denXS G er (.forS t it b) α = kXfor G er t b (denI G it α) := by
  rw [denXS]
  cases denI G it α with
  | ok p =>
    obtain ⟨ds, α1⟩ := p
    simp only [kXfor_ok]
    show forD _ ds α1 = forD _ ds α1
    congr 1
    funext d β
    unfold forX
    cases asg t d β <;> rfl
  | _ => rfl
noncomputable def kXtry (c : Str) (h : XH) : Res Fl → Res Fl
  | .ok f => .ok f
  | .exc c' n v => if c' = c then suiteR h n v else .fail
  | .fail => .fail
@[simp] theorem kXtry_ok {c : Str} {h : XH} {f : Fl} : kXtry c h (.ok f) = .ok f := Eq.trans rfl rfl
@[simp] theorem kXtry_exc {c c' : Str} {h : XH} {n : List Str} {v : List D} : kXtry c h (.exc c' n v) = if c' = c then suiteR h n v else .fail := Eq.trans rfl rfl
@[simp] theorem denXS_try {b : XB} {c : Str} {h : XH} : denXS G er (.tryA b c i h) α = kXtry c h (denXB G er b α) := by
  rw [denXS]
  cases denXB G er b α <;> rfl
theorem denDX_eq {b : XB} {ds : List D} : denDX G er n b ds = kDD (denXB G er b (ds.map .v ++ List.replicate (n - ds.length) .un)) := by
  unfold denDX
  cases denXB G er b (ds.map .v ++ List.replicate (n - ds.length) .un) with
  | ok f => cases f <;> rfl
  | _ => rfl
@[simp] theorem kDD_exc {c : Str} {ns : List Str} {v : List D} : kDD (.exc c ns v) = .exc c ns v := Eq.trans rfl rfl
def kDNX (x : Str) : Res Fl → Res SV
  | .ok (.nx (.oi c ns es :: _)) => if c = x then .ok (.oi c ns es) else .fail
  | .exc c ns vs => if vs.all flatD = true then .exc c ns vs else .fail
  | _ => .fail
@[simp] theorem kDNX_ok {x c : Str} {ns : List Str} {es : List D} {r : List SV} : kDNX x (.ok (.nx (.oi c ns es :: r))) = if c = x then .ok (.oi c ns es) else .fail := rfl
@[simp] theorem kDNX_exc {x c : Str} {ns : List Str} {vs : List D} : kDNX x (.exc c ns vs) = if vs.all flatD = true then .exc c ns vs else .fail := rfl
theorem denNX_eq {x : Str} {b : XB} {ds : List D} : denNX G er x n b ds = kDNX x (denXB G er b (.oi x [] [] :: (ds.map .v ++ List.replicate (n - (ds.length + 1)) .un))) := rfl
end Dv

set_option linter.all false
set_option maxRecDepth 100000
set_option maxHeartbeats 1000000
/-! letters, standings, states -/
namespace Dv
open PySem
abbrev dS (s : String) : D := .str (Str.ofString s)
def sg (b i : Nat) : Str := ⟨#[b + i]⟩
def lt (b i : Nat) : D := .str (sg b i)
theorem sg_inj {b i j : Nat} : sg b i = sg b j ↔ i = j := by
  unfold sg
  simp
theorem lt_inj {b i j : Nat} : lt b i = lt b j ↔ i = j := by
  unfold lt
  rw [D.str.injEq, sg_inj]
theorem sg_ok {b i : Nat} (h : b + i < 55296) : PyData.strOk (sg b i) = true := by
  unfold PyData.strOk sg
  simp
  omega
theorem nice_lt {b i : Nat} (h : b + i < 55296) : Nice (lt b i) := ⟨sg_ok h, Nat.zero_le _⟩
theorem strs_lt (b : Nat) : ∀ nm : List Nat, strsOf (nm.map (lt b)) = some (nm.map (sg b))
  | [] => rfl
  | x :: nm => by
    rw [List.map_cons]
    show (strsOf (nm.map (lt b))).map _ = _
    rw [strs_lt b nm]
    rfl
theorem ixT_lt {b x : Nat} : ∀ {nm : List Nat}, x ∈ nm → indexT (sg b x) (nm.map (sg b)) = some (nm.idxOf x)
  | y :: nm, h => by
    rw [List.map_cons, indexT, List.idxOf_cons]
    by_cases e : y = x
    · rw [if_pos (sg_inj.mpr e), e]; simp
    · rw [if_neg (fun z => e (sg_inj.mp z))]
      rcases List.mem_cons.mp h with z | z
      · exact absurd z.symm e
      · rw [ixT_lt z]
        simp [show (y == x) = false from by simpa using e]
theorem idx_tup {b x : Nat} {nm : List Nat} (h : x ∈ nm) : indexD (.v (.tup (nm.map (lt b)))) (lt b x) = .ok (.v (.int (nm.idxOf x : Nat))) := by
  show indexD (.v (.tup (nm.map (lt b)))) (.str (sg b x)) = _
  unfold indexD
  simp only [strs_lt, ixT_lt h]
theorem dats_lt (b : Nat) : ∀ nm : List Nat, dats (nm.map (lt b)) = some (nm.map fun i => .str (sg b i))
  | [] => rfl
  | x :: nm => by
    rw [List.map_cons, dats, dats_lt b nm]
    rfl
theorem ixG_lt {b x : Nat} : ∀ {nm : List Nat}, x ∈ nm → indexG (.str (sg b x)) (nm.map fun i => PyData.str (sg b i)) = some (nm.idxOf x)
  | y :: nm, h => by
    rw [List.map_cons, indexG, List.idxOf_cons]
    by_cases e : y = x
    · rw [if_pos (by simp [PyData.eqv, e]), e]; simp
    · rw [if_neg (by simp [PyData.eqv, sg_inj, e])]
      rcases List.mem_cons.mp h with z | z
      · exact absurd z.symm e
      · rw [ixG_lt z]
        simp [show (y == x) = false from by simpa using e]
theorem nices_lt {b : Nat} {nm : List Nat} (h : ∀ i ∈ nm, b + i < 55296) : Nices (nm.map (lt b)) := nices_of fun d m => by
  obtain ⟨i, hi, rfl⟩ := List.mem_map.mp m
  exact nice_lt (h i hi)
theorem idx_lst0 {b x : Nat} {nm : List Nat} (hs : ∀ i ∈ nm, b + i < 55296) (h : x ∈ nm) {s : SV} (e : s.lst? = some (nm.map (lt b))) (e2 : ∀ ds, s ≠ .v (.tup ds)) : indexD s (lt b x) = .ok (.v (.int (nm.idxOf x : Nat))) := by
  obtain ⟨p, h1, h2⟩ := nice_shaped (nice_lt (hs x h))
  obtain ⟨qs, h3, h4⟩ := nices_shaped (nices_lt hs)
  have e1 : dat (lt b x) = some (.str (sg b x)) := rfl
  rw [e1] at h1
  cases h1
  rw [dats_lt] at h3
  cases h3
  unfold indexD
  cases s with
  | v d =>
    cases d with
    | tup ds => exact absurd rfl (e2 ds)
    | _ =>
      simp only [e, e1, dats_lt, h2, h4, Bool.and_self, if_true, ixG_lt h] <;> rfl
  | _ =>
    simp only [e, e1, dats_lt, h2, h4, Bool.and_self, if_true, ixG_lt h] <;> rfl
theorem idx_lst {b x : Nat} {nm : List Nat} (hs : ∀ i ∈ nm, b + i < 55296) (h : x ∈ nm) : indexD (.v (.lst (nm.map (lt b)))) (lt b x) = .ok (.v (.int (nm.idxOf x : Nat))) := idx_lst0 hs h rfl fun _ z => by cases z
theorem mem_lt {b x : Nat} {nm : List Nat} (hs : ∀ i ∈ nm, b + i < 55296) (hx : b + x < 55296) : memD (lt b x) (nm.map (lt b)) = .ok (decide (x ∈ nm)) := by
  rw [memD_nice (nice_lt hx) (nices_lt hs)]
  congr 1
  rw [decide_eq_decide, List.mem_map]
  exact ⟨fun ⟨y, h1, h2⟩ => lt_inj.mp h2 ▸ h1, fun h => ⟨x, h, rfl⟩⟩
theorem eq_lt {b x y : Nat} (hx : b + x < 55296) (hy : b + y < 55296) : eqD (lt b x) (lt b y) = .ok (decide (x = y)) := by
  rw [eqD_nice (nice_lt hx) (nice_lt hy)]
  congr 1
  rw [decide_eq_decide, lt_inj]
/-! ### the two alphabets -/
theorem abc_cps : (Str.ofString "abcdefghijklmnopqrstuvwxyz").cps.toList = (List.range 26).map (97 + ·) := by decide +kernel
theorem ABC_cps : (Str.ofString "ABCDEFGHIJKLMNOPQRSTUVWXYZ").cps.toList = (List.range 26).map (65 + ·) := by decide +kernel
theorem abc_up : Txt.upper (Str.ofString "abcdefghijklmnopqrstuvwxyz") = Str.ofString "ABCDEFGHIJKLMNOPQRSTUVWXYZ" := by decide +kernel
theorem abc_len : (Str.ofString "abcdefghijklmnopqrstuvwxyz").length = 26 := by decide +kernel
theorem ABC_len : (Str.ofString "ABCDEFGHIJKLMNOPQRSTUVWXYZ").length = 26 := by decide +kernel
theorem ixS_abc {i : Nat} (h : i < 26) : ixS (Str.ofString "abcdefghijklmnopqrstuvwxyz") (i : Int) = .ok (.v (lt 97 i)) := by
  unfold ixS
  rw [abc_len, abc_cps, atI_nat]
  simp [h, lt, sg]
theorem ixS_ABC {i : Nat} (h : i < 26) : ixS (Str.ofString "ABCDEFGHIJKLMNOPQRSTUVWXYZ") (i : Int) = .ok (.v (lt 65 i)) := by
  unfold ixS
  rw [ABC_len, ABC_cps, atI_nat]
  simp [h, lt, sg]
/-! ### cuts -/
theorem cut_take {ds : List D} {n : Nat} : cutD ds none (some (n : Int)) = ds.take n := by
  unfold cutD
  rw [HT.sIx_none, HT.sIx_nat, List.drop_zero, Nat.sub_zero]
  rw [List.take_eq_take_iff]
  omega
theorem cut_drop {ds : List D} {n : Nat} : cutD ds (some (n : Int)) none = ds.drop n := by
  unfold cutD
  rw [HT.sIx_none, HT.sIx_nat]
  rw [List.take_of_length_le (by simp)]
  by_cases h : n ≤ ds.length
  · rw [Nat.min_eq_left h]
  · rw [List.drop_eq_nil_of_le (by omega), List.drop_eq_nil_of_le (by omega)]
theorem sl_tup {ds : List D} {l h : Option SV} {a b : Option Int} (hl : l = a.map fun i => .v (.int i)) (hh : h = b.map fun i => .v (.int i)) : sliceD (.v (.tup ds)) l h = .ok (.v (.tup (cutD ds a b))) := by
  subst hl
  subst hh
  cases a <;> cases b <;> rfl
theorem sl_lst {ds : List D} {l h : Option SV} {a b : Option Int} (hl : l = a.map fun i => .v (.int i)) (hh : h = b.map fun i => .v (.int i)) : sliceD (.v (.lst ds)) l h = .ok (.ol (cutD ds a b)) := by
  subst hl
  subst hh
  cases a <;> cases b <;> rfl
theorem sl_ol {ds : List D} {l h : Option SV} {a b : Option Int} (hl : l = a.map fun i => .v (.int i)) (hh : h = b.map fun i => .v (.int i)) : sliceD (.ol ds) l h = .ok (.ol (cutD ds a b)) := by
  subst hl
  subst hh
  cases a <;> cases b <;> rfl
@[simp] theorem tk_tup {ds : List D} {n : Nat} : sliceD (.v (.tup ds)) none (some (.v (.int n))) = .ok (.v (.tup (ds.take n))) := (sl_tup (a := none) (b := some (n : Int)) rfl rfl).trans (by rw [cut_take])
@[simp] theorem tk_lst {ds : List D} {n : Nat} : sliceD (.v (.lst ds)) none (some (.v (.int n))) = .ok (.ol (ds.take n)) := (sl_lst (a := none) (b := some (n : Int)) rfl rfl).trans (by rw [cut_take])
@[simp] theorem tk_ol {ds : List D} {n : Nat} : sliceD (.ol ds) none (some (.v (.int n))) = .ok (.ol (ds.take n)) := (sl_ol (a := none) (b := some (n : Int)) rfl rfl).trans (by rw [cut_take])
@[simp] theorem dr_tup {ds : List D} {n : Nat} : sliceD (.v (.tup ds)) (some (.v (.int n))) none = .ok (.v (.tup (ds.drop n))) := (sl_tup (a := some (n : Int)) (b := none) rfl rfl).trans (by rw [cut_drop])
@[simp] theorem dr_lst {ds : List D} {n : Nat} : sliceD (.v (.lst ds)) (some (.v (.int n))) none = .ok (.ol (ds.drop n)) := (sl_lst (a := some (n : Int)) (b := none) rfl rfl).trans (by rw [cut_drop])
@[simp] theorem dr_ol {ds : List D} {n : Nat} : sliceD (.ol ds) (some (.v (.int n))) none = .ok (.ol (ds.drop n)) := (sl_ol (a := some (n : Int)) (b := none) rfl rfl).trans (by rw [cut_drop])
@[simp] theorem tk_tup1 {ds : List D} {n : Nat} : sliceD (.v (.tup ds)) none (some (.v (.int (n + 1)))) = .ok (.v (.tup (ds.take (n + 1)))) := tk_tup (n := n + 1)
@[simp] theorem dr_tup1 {ds : List D} {n : Nat} : sliceD (.v (.tup ds)) (some (.v (.int (n + 1)))) none = .ok (.v (.tup (ds.drop (n + 1)))) := dr_tup (n := n + 1)
@[simp] theorem tk_tup' {ds : List D} {n : Nat} : sliceD (.v (.tup ds)) none (some (.v (.int (no_index (OfNat.ofNat n))))) = .ok (.v (.tup (ds.take (OfNat.ofNat n)))) := tk_tup (n := n)
@[simp] theorem dr_tup' {ds : List D} {n : Nat} : sliceD (.v (.tup ds)) (some (.v (.int (no_index (OfNat.ofNat n))))) none = .ok (.v (.tup (ds.drop (OfNat.ofNat n)))) := dr_tup (n := n)
@[simp] theorem tk_lst' {ds : List D} {n : Nat} : sliceD (.v (.lst ds)) none (some (.v (.int (no_index (OfNat.ofNat n))))) = .ok (.ol (ds.take (OfNat.ofNat n))) := tk_lst (n := n)
@[simp] theorem dr_lst' {ds : List D} {n : Nat} : sliceD (.v (.lst ds)) (some (.v (.int (no_index (OfNat.ofNat n))))) none = .ok (.ol (ds.drop (OfNat.ofNat n))) := dr_lst (n := n)
@[simp] theorem tk_ol' {ds : List D} {n : Nat} : sliceD (.ol ds) none (some (.v (.int (no_index (OfNat.ofNat n))))) = .ok (.ol (ds.take (OfNat.ofNat n))) := tk_ol (n := n)
@[simp] theorem dr_ol' {ds : List D} {n : Nat} : sliceD (.ol ds) (some (.v (.int (no_index (OfNat.ofNat n))))) none = .ok (.ol (ds.drop (OfNat.ofNat n))) := dr_ol (n := n)
/-! ### put in if it is not there -/
variable {G : GEnv}
@[simp] theorem rmap_ok {β γ : Type} {f : β → γ} {x : β} : Res.map f (.ok x) = .ok (f x) := rfl
theorem set_self {α : AEnv} {j : Nat} {s : SV} (h : α[j]? = some s) : α.set j s = α := by
  refine List.ext_getElem? fun i => ?_
  rw [List.getElem?_set]
  split
  · rename_i e
    subst e
    obtain ⟨hl, _⟩ := List.getElem?_eq_some_iff.mp h
    rw [if_pos hl, h]
  · rfl
open Classical in
theorem ins_step {α : AEnv} {i j : Nat} {d : D} {l : List D} (hi : α[i]? = some (.v d)) (hj : α[j]? = some (.ol l)) (nd : Nice d) (nl : Nices l) (hl : l.length < 16777216) : denB G (bk [.cond (.p2 .nmem (.var i) (.var j)) (bk [.app j (.var i)]) .nil]) α = .ok (.nx (α.set j (.ol (insD l d)))) := by
  simp only [denB_bk, denS_cond, denT_some, dO_p2, den_p2, dO_var, hi, hj, kV_v, kV_ol, kP2_ok, kP2b_ok, fin_varE, kF_v, kF_ol, kP2c_ok, kP2d_ok, op2_nmem, memR_ol, SV.d_v, memD_nice nd nl, blR_ok', negR_ok, kE_ok, kO_ok, kT_ok, fin_p2, kTa_ok, truth_bl, kTb_ok, kIf_ok]
  by_cases h : d ∈ l
  · simp [h, insD, set_self hj]
  · simp [h, List.getD_eq_getElem?_getD, hj, hi, hl, insD]
end Dv

set_option linter.all false
set_option maxRecDepth 100000
set_option maxHeartbeats 8000000
/-! plain lemmas that need no names: letters, standings, books, pieces, loops -/
namespace Dv
open PySem
def isW (w : Nat) : Prop := w = 1 ∨ w = 2 ∨ w = 3
def wds : Nat → List D
  | 1 => [.int 0, .int 1]
  | 2 => [.int 0, .int 1, .int 2, .int 3]
  | _ => [.int 0, .int 1, .int 2, .int 3, .int 4, .int 5, .int 6, .int 7]
def siz : Nat → Int
  | 1 => 2
  | 2 => 4
  | _ => 8
@[simp] theorem wds_im (w : Nat) : imDs (wds w) = true := by unfold wds; split <;> rfl
def IsWd (w : Nat) (d : D) : Prop := ∃ n : Int, d = .int n ∧ 0 ≤ n ∧ n < siz w
inductive Std | w (n : Int) | any | bad
def Std.d : Std → D
  | .w n => .int n
  | .any => dS "any"
  | .bad => dS "bad"
def Std.ok (w : Nat) : Std → Prop
  | .w n => 0 ≤ n ∧ n < siz w
  | _ => True
def IsStd (w : Nat) (d : D) : Prop := ∃ s : Std, d = s.d ∧ s.ok w
def IsOut (w : Nat) (d : D) : Prop := IsStd w d ∨ d = dS "wrong"
theorem siz_pos (w : Nat) : 0 < siz w := by unfold siz; split <;> omega
theorem wds_wd {w : Nat} (hw : isW w) : ∀ d ∈ wds w, IsWd w d := by
  intro d m
  rcases hw with rfl | rfl | rfl <;> simp [wds] at m <;> rcases m with rfl | rfl | rfl | rfl | rfl | rfl | rfl | rfl <;> exact ⟨_, rfl, by decide, by decide⟩
theorem IsWd.std {w : Nat} {d : D} (h : IsWd w d) : IsStd w d := by
  obtain ⟨n, e, h1, h2⟩ := h
  exact ⟨.w n, e, h1, h2⟩
theorem IsStd.nice {w : Nat} {d : D} (h : IsStd w d) : Nice d := by
  obtain ⟨s, rfl, _⟩ := h
  cases s
  · exact nice_int _
  · exact nice_str _
  · exact nice_str _
theorem IsOut.nice {w : Nat} {d : D} (h : IsOut w d) : Nice d := by
  rcases h with h | rfl
  · exact h.nice
  · exact nice_str _
theorem std_im {w : Nat} {d : D} (h : IsStd w d) : imD d = true := by
  obtain ⟨s, rfl, _⟩ := h
  cases s <;> rfl
def takenM (r : String) (s : Std) (w : Nat) : List D := match s with
  | .w n => [.int n]
  | s => if r = "choose" then wds w else if r = "keep" then [s.d] else [dS "wrong"]
theorem taken_out {w : Nat} (hw : isW w) {r : String} {s : Std} (hs : s.ok w) : ∀ d ∈ takenM r s w, IsOut w d := by
  intro d m
  cases s with
  | w n =>
    simp [takenM] at m
    exact .inl ⟨.w n, m, hs⟩
  | any =>
    simp only [takenM] at m
    split at m
    · exact .inl (wds_wd hw d m).std
    · split at m
      · simp at m
        exact .inl ⟨.any, m, trivial⟩
      · simp at m
        exact .inr m
  | bad =>
    simp only [takenM] at m
    split at m
    · exact .inl (wds_wd hw d m).std
    · split at m
      · simp at m
        exact .inl ⟨.bad, m, trivial⟩
      · simp at m
        exact .inr m
/-- what arises where a rule is asked -/
def arisM (r : String) (w : Nat) (n : Int) : List D := if r = "once" then wds w else if r = "wrap" ∨ r = "zero" then [.int n] else [dS r]
theorem aris_out {w : Nat} (hw : isW w) {r : String} {n : Int} (hr : r ∈ ["wrap", "zero", "once", "any", "bad", "wrong"]) (hn : 0 ≤ n ∧ n < siz w) : ∀ d ∈ arisM r w n, IsOut w d := by
  intro d m
  simp only [List.mem_cons, List.not_mem_nil, or_false] at hr
  rcases hr with rfl | rfl | rfl | rfl | rfl | rfl <;> simp [arisM] at m
  · exact .inl ⟨.w n, m, hn⟩
  · exact .inl ⟨.w n, m, hn⟩
  · exact .inl (wds_wd hw d m).std
  · exact .inl ⟨.any, m, trivial⟩
  · exact .inl ⟨.bad, m, trivial⟩
  · exact .inr m
def giI : Res SV → Res SV
  | .ok r => if imS r = true then .ok r else .fail
  | _ => .fail
@[simp] theorem giI_ok {s : SV} : giI (.ok s) = if imS s = true then .ok s else .fail := rfl
def giR (o k : D) : Option (List D → Res SV) → Res SV
  | some F => giI (F [o, k])
  | none => .fail
@[simp] theorem giR_some {o k : D} {F : List D → Res SV} : giR o k (some F) = giI (F [o, k]) := rfl
@[simp] theorem op2_idx_obj {G : GEnv} {c : Str} {ns : List Str} {vs : List D} {t : SV} : op2 G .idx (.v (.obj c ns vs)) t = giR (.obj c ns vs) t.d (G.gi c) := by
  unfold op2 giR giI
  simp only [SV.obj_v]
  cases G.gi c with
  | none => rfl
  | some F =>
    simp only [SV.d_v] <;> (cases F [.obj c ns vs, t.d] <;> rfl)
theorem denN_eq {G : GEnv} {x : Str} {n : Nat} {b : CB} {ds : List D} : denN G x n b ds = kDN x (denB G b (.oi x [] [] :: (ds.map .v ++ List.replicate (n - (ds.length + 1)) .un))) := by
  unfold denN kDN
  cases denB G b (.oi x [] [] :: (ds.map .v ++ List.replicate (n - (ds.length + 1)) .un)) <;> rfl
structure Bk where
  ov : String
  fr : String
  st : String
  se : String
  me : String
  so : String
  pr : String
  te : String
  id : String
def Bk.T (b : Bk) : Tb := [(sO "over", sO b.ov), (sO "fresh", sO b.fr), (sO "step", sO b.st), (sO "select", sO b.se), (sO "merge", sO b.me), (sO "store", sO b.so), (sO "print", sO b.pr), (sO "test", sO b.te), (sO "idle", sO b.id)]
structure Bk.ok (b : Bk) : Prop where
  ov : b.ov ∈ ["wrap", "once", "any", "bad", "wrong"]
  fr : b.fr ∈ ["zero", "once", "any", "bad", "wrong"]
  st : b.st ∈ ["choose", "keep"]
  se : b.se ∈ ["choose", "keep", "wrong"]
  me : b.me ∈ ["choose", "keep"]
  so : b.so ∈ ["choose", "keep", "wrong"]
  pr : b.pr ∈ ["choose", "wrong"]
  te : b.te ∈ ["choose", "wrong"]
  id : b.id ∈ ["stay", "wrong"]
def Bk.at (b : Bk) : String → String
  | "over" => b.ov
  | "fresh" => b.fr
  | "step" => b.st
  | "select" => b.se
  | "merge" => b.me
  | "store" => b.so
  | "print" => b.pr
  | "test" => b.te
  | _ => b.id
def rowNs : List String := ["over", "fresh", "step", "select", "merge", "store", "print", "test", "idle"]
theorem rows_ok {b : Bk} (hb : b.ok) : RowsOk b.T := by
  refine ⟨?_, fun p hp => ?_⟩
  · simp [Bk.T]
  · simp only [Bk.T, List.mem_cons, List.not_mem_nil, or_false] at hp
    rcases hp with rfl | rfl | rfl | rfl | rfl | rfl | rfl | rfl | rfl
    · exact ⟨_, List.mem_of_getElem (show rowsT[0] = _ from rfl), rfl, _, hb.ov, rfl⟩
    · exact ⟨_, List.mem_of_getElem (show rowsT[1] = _ from rfl), rfl, _, hb.fr, rfl⟩
    · exact ⟨_, List.mem_of_getElem (show rowsT[2] = _ from rfl), rfl, _, hb.st, rfl⟩
    · exact ⟨_, List.mem_of_getElem (show rowsT[3] = _ from rfl), rfl, _, hb.se, rfl⟩
    · exact ⟨_, List.mem_of_getElem (show rowsT[4] = _ from rfl), rfl, _, hb.me, rfl⟩
    · exact ⟨_, List.mem_of_getElem (show rowsT[5] = _ from rfl), rfl, _, hb.so, rfl⟩
    · exact ⟨_, List.mem_of_getElem (show rowsT[6] = _ from rfl), rfl, _, hb.pr, rfl⟩
    · exact ⟨_, List.mem_of_getElem (show rowsT[7] = _ from rfl), rfl, _, hb.te, rfl⟩
    · exact ⟨_, List.mem_of_getElem (show rowsT[8] = _ from rfl), rfl, _, hb.id, rfl⟩
theorem tab_T (b : Bk) : bookTab b.T = b.T := by
  simp [bookTab, Bk.T, tab0, rowsT, tabPut]
/-- the law's own table -/
def tabO (b : Bk) : D := tabD b.T
theorem tab_ix {G : GEnv} (b : Bk) {row : String} (hr : row ∈ rowNs) : op2 G .idx (.v (tabO b)) (.v (dS row)) = .ok (.v (dS (b.at row))) := by
  simp only [rowNs, List.mem_cons, List.not_mem_nil, or_false] at hr
  rcases hr with rfl | rfl | rfl | rfl | rfl | rfl | rfl | rfl | rfl <;> simp [tabO, tabD, Bk.T, Bk.at]
def signs : List String := ["+", "-", "*", "&", "=", "<", "+!", "-!"]
def exactM (g : String) (i j : Int) : Int := if g = "+" ∨ g = "+!" then i + j else if g = "-" ∨ g = "-!" then i - j else if g = "*" then i * j else if g = "&" then Builtin.bitAnd i j else if g = "=" then (if i = j then 1 else 0) else if i < j then 1 else 0
theorem ix_p : ixS (Str.ofString "+") 0 = .ok (.v (dS "+")) := by kernel_rfl
theorem ix_m : ixS (Str.ofString "-") 0 = .ok (.v (dS "-")) := by kernel_rfl
theorem ix_t : ixS (Str.ofString "*") 0 = .ok (.v (dS "*")) := by kernel_rfl
theorem ix_a : ixS (Str.ofString "&") 0 = .ok (.v (dS "&")) := by kernel_rfl
theorem ix_e : ixS (Str.ofString "=") 0 = .ok (.v (dS "=")) := by kernel_rfl
theorem ix_l : ixS (Str.ofString "<") 0 = .ok (.v (dS "<")) := by kernel_rfl
theorem ix_pb : ixS (Str.ofString "+!") 0 = .ok (.v (dS "+")) := by kernel_rfl
theorem ix_mb : ixS (Str.ofString "-!") 0 = .ok (.v (dS "-")) := by kernel_rfl
def sgLen (g : String) : Nat := if g = "+!" ∨ g = "-!" then 2 else 1
theorem sg_len {g : String} (hg : g ∈ signs) : (Str.ofString g).length = sgLen g := by
  simp only [signs, List.mem_cons, List.not_mem_nil, or_false] at hg
  rcases hg with rfl | rfl | rfl | rfl | rfl | rfl | rfl | rfl <;> decide +kernel
theorem forD_eq {σ : Type} {b : D → AEnv → Res Fl} {ds : List D} {α : AEnv} {r : Res Fl} (e : forD b ds α = r) (f : σ → D → σ) (R : σ → AEnv → Prop) (s : σ) (h0 : R s α) (hs : ∀ d ∈ ds, ∀ s α, R s α → ∃ α', (b d α = .ok (.nx α') ∨ b d α = .ok (.ct α')) ∧ R (f s d) α') : ∃ α', r = .ok (.nx α') ∧ R (ds.foldl f s) α' := by
  obtain ⟨α', e1, e2⟩ := forD_fold f R ds s α h0 hs
  exact ⟨α', e.symm.trans e1, e2⟩
theorem nd_len : ∀ {l U : List D}, l.Nodup → (∀ d ∈ l, d ∈ U) → l.length ≤ U.length
  | [], U, _, _ => Nat.zero_le _
  | d :: l, U, nd, hs => by
    obtain ⟨A, B, rfl⟩ := List.append_of_mem (hs d List.mem_cons_self)
    have nd' := List.nodup_cons.mp nd
    have := nd_len (U := A ++ B) nd'.2 fun x hx => by
      have := hs x (List.mem_cons_of_mem _ hx)
      simp only [List.mem_append, List.mem_cons] at this ⊢
      rcases this with h | rfl | h
      · exact .inl h
      · exact absurd hx nd'.1
      · exact .inr h
    simp at this ⊢
    omega
theorem wd_mem {w : Nat} (hw : isW w) {d : D} (hd : IsWd w d) : d ∈ wds w := by
  obtain ⟨n, rfl, h1, h2⟩ := hd
  rcases hw with rfl | rfl | rfl <;> simp [siz] at h2 <;> simp [wds] <;> omega
theorem out_len {w : Nat} (hw : isW w) {l : List D} (nd : l.Nodup) (ho : ∀ d ∈ l, IsOut w d) : l.length < 16777216 := by
  have := nd_len (U := wds w ++ [dS "any", dS "bad", dS "wrong"]) nd fun d m => by
    rcases ho d m with ⟨s, rfl, hs⟩ | rfl
    · cases s with
      | w n => exact List.mem_append_left _ (wd_mem hw ⟨n, rfl, hs⟩)
      | any => simp [Std.d]
      | bad => simp [Std.d]
    · simp
  have : (wds w).length ≤ 8 := by rcases hw with rfl | rfl | rfl <;> decide
  simp at *
  omega
theorem out_nices {w : Nat} {l : List D} (ho : ∀ d ∈ l, IsOut w d) : Nices l := nices_of fun d m => (ho d m).nice
def kindN : Std → String
  | .w _ => "Word"
  | .any => "AnyMark"
  | .bad => "BadMark"
def kindD (s : Std) : D := .obj (Str.ofString (kindN s)) [Str.ofString "standing"] [s.d]
def rkM (b : Bk) : Std → Int
  | .w _ => 0
  | .any => if b.st = "keep" then 1 else 0
  | .bad => 2
def chM (w : Nat) : Std → List D
  | .w n => [.int n]
  | _ => wds w
theorem siz_le (w : Nat) : siz w ≤ 8 := by unfold siz; split <;> omega
theorem exact_eq {G : GEnv} {g : String} (hg : g ∈ signs) {i j : Int} (hi : 0 ≤ i ∧ i < 8) : denD G 3 cb_exact_result [dS g, .int i, .int j] = .ok (.v (.int (exactM g i j))) := by
  have hm : (-(2 ^ 64) < i ∧ i < 2 ^ 64) ∨ (-(2 ^ 64) < j ∧ j < 2 ^ 64) := .inl ⟨by omega, by omega⟩
  rw [denD_eq]
  simp only [signs, List.mem_cons, List.not_mem_nil, or_false] at hg
  rcases hg with rfl | rfl | rfl | rfl | rfl | rfl | rfl | rfl <;> simp [cb_exact_result, ix_p, ix_m, ix_t, ix_a, ix_e, ix_l, ix_pb, ix_mb, exactM, -Int.reducePow]
  rw [if_pos hm]
  simp
/-- the outcomes of one step -/
def isBad : Std → Bool
  | .bad => true
  | _ => false
def isAny : Std → Bool
  | .any => true
  | _ => false
def stepO (b : Bk) (w : Nat) (g : String) (x y : Std) : D → D → List D
  | .int i, .int j => if sgLen g = 2 ∧ exactM g i j ≠ exactM g i j % siz w then arisM b.ov w (exactM g i j % siz w) else if (isBad x || isBad y) = true then [dS "bad"] else if b.st = "keep" ∧ (isAny x || isAny y) = true then [dS "any"] else [.int (exactM g i j % siz w)]
  | _, _ => []
noncomputable def stepM (b : Bk) (w : Nat) (g : String) (x y : Std) : List D := (chM w x).foldl (fun acc i => (chM w y).foldl (fun acc j => (stepO b w g x y i j).foldl insD acc) acc) []
theorem ch_wd {w : Nat} (hw : isW w) {s : Std} (hs : s.ok w) : ∀ d ∈ chM w s, IsWd w d := by
  intro d m
  cases s with
  | w n => simp [chM] at m; exact ⟨n, m, hs⟩
  | any => exact wds_wd hw d m
  | bad => exact wds_wd hw d m
theorem mod_siz (i : Int) (w : Nat) : 0 ≤ i % siz w ∧ i % siz w < siz w := ⟨Int.emod_nonneg _ (by have := siz_pos w; omega), Int.emod_lt_of_pos _ (siz_pos w)⟩
theorem stepO_out {b : Bk} (hb : b.ok) {w : Nat} (hw : isW w) {g : String} {x y : Std} {i j : D} : ∀ d ∈ stepO b w g x y i j, IsOut w d := by
  intro d m
  unfold stepO at m
  split at m
  · split at m
    · refine aris_out hw (r := b.ov) ?_ (mod_siz _ _) d m
      have := hb.ov
      simp only [List.mem_cons, List.not_mem_nil, or_false] at this
      rcases this with e | e | e | e | e <;> simp [e]
    · split at m
      · simp at m
        exact .inl ⟨.bad, m, trivial⟩
      · split at m
        · simp at m
          exact .inl ⟨.any, m, trivial⟩
        · simp at m
          exact .inl ⟨.w _, m, mod_siz _ _⟩
  · simp at m
/-- lists of outcomes, each once -/
def OutL (w : Nat) (l : List D) : Prop := l.Nodup ∧ ∀ d ∈ l, IsOut w d
theorem OutL.ins {w : Nat} {l : List D} {d : D} (h : OutL w l) (hd : IsOut w d) : OutL w (insD l d) := ⟨insD_nodup h.1, fun x m => by
  rcases insD_mem.mp m with m | rfl
  · exact h.2 x m
  · exact hd⟩
theorem OutL.fold {w : Nat} : ∀ {l acc : List D}, OutL w acc → (∀ d ∈ l, IsOut w d) → OutL w (l.foldl insD acc)
  | [], _, h, _ => h
  | d :: l, acc, h, hd => OutL.fold (l := l) (h.ins (hd d List.mem_cons_self)) fun x m => hd x (List.mem_cons_of_mem _ m)
theorem OutL.fold2 {w : Nat} {b : Bk} (hb : b.ok) (hw : isW w) {g : String} {x y : Std} {i : D} : ∀ {l acc : List D}, OutL w acc → OutL w (l.foldl (fun acc j => (stepO b w g x y i j).foldl insD acc) acc)
  | [], _, h => h
  | d :: l, acc, h => OutL.fold2 hb hw (l := l) (h.fold (stepO_out hb hw))
theorem OutL.fold3 {w : Nat} {b : Bk} (hb : b.ok) (hw : isW w) {g : String} {x y : Std} {ys : List D} : ∀ {l acc : List D}, OutL w acc → OutL w (l.foldl (fun acc i => ys.foldl (fun acc j => (stepO b w g x y i j).foldl insD acc) acc) acc)
  | [], _, h => h
  | d :: l, acc, h => OutL.fold3 hb hw (l := l) (h.fold2 hb hw)
theorem step_out {w : Nat} {b : Bk} (hb : b.ok) (hw : isW w) {g : String} {x y : Std} : OutL w (stepM b w g x y) := OutL.fold3 hb hw ⟨List.nodup_nil, fun _ m => nomatch m⟩
/-- the last loop of a step -/
theorem ins_loop {G : GEnv} {w : Nat} (hw : isW w) {i j : Nat} (hij : i ≠ j) {os : List D} (ho : ∀ d ∈ os, IsOut w d) {acc : List D} (ha : OutL w acc) {α : AEnv} (hi : i < α.length) (hj : α[j]? = some (.ol acc)) : ∃ s, forD (forB G (.nm i) (bk [.cond (.p2 .nmem (.var i) (.var j)) (bk [.app j (.var i)]) .nil])) os α = .ok (.nx ((α.set j (.ol (os.foldl insD acc))).set i s)) := by
  have hj2 : j < α.length := by
    obtain ⟨z, _⟩ := List.getElem?_eq_some_iff.mp hj
    exact z
  obtain ⟨α', e, s, ha', e2⟩ := forD_fold (b := forB G (.nm i) (bk [.cond (.p2 .nmem (.var i) (.var j)) (bk [.app j (.var i)]) .nil])) insD (fun l β => ∃ s, OutL w l ∧ β = (α.set j (.ol l)).set i s) os acc α ⟨α[i], ha, by rw [set_self hj, List.set_getElem_self]⟩ fun d hd l β ⟨s, hl, e⟩ => by
    subst e
    refine ⟨_, .inl ?_, .v d, hl.ins (ho d hd), rfl⟩
    rw [forB_nm, if_pos (by simpa using hi), List.set_set]
    rw [ins_step (d := d) (l := l) (by simp [hi]) (by simp [List.getElem?_set, hij, hj2]) (ho d hd).nice (out_nices hl.2) (out_len hw hl.1 hl.2)]
    congr 2
    rw [List.set_comm _ _ hij, List.set_set]
  exact ⟨s, by rw [e, e2]⟩
theorem rk_max (b : Bk) (x y : Std) : (if rkM b y > rkM b x then rkM b y else rkM b x) = if (isBad x || isBad y) = true then 2 else if b.st = "keep" ∧ (isAny x || isAny y) = true then 1 else 0 := by
  cases x <;> cases y <;> simp [rkM, isBad, isAny] <;> split <;> simp [*]
def pickM (b : Bk) (x y : Std) (d : D) : D := if (isBad x || isBad y) = true then dS "bad" else if b.st = "keep" ∧ (isAny x || isAny y) = true then dS "any" else d
theorem pick_ix (b : Bk) (x y : Std) (d : D) : ixD [d, D.str (Str.ofString "any"), D.str (Str.ofString "bad")] (if rkM b x < rkM b y then rkM b y else rkM b x) = .ok (.v (pickM b x y d)) := by
  unfold pickM
  by_cases e : b.st = "keep" <;> cases x <;> cases y <;> simp [rkM, isBad, isAny, e]
theorem stepO_pick (b : Bk) (w : Nat) (g : String) (x y : Std) (i j : Int) : stepO b w g x y (.int i) (.int j) = if sgLen g = 2 ∧ exactM g i j ≠ exactM g i j % siz w then arisM b.ov w (exactM g i j % siz w) else [pickM b x y (.int (exactM g i j % siz w))] := by
  unfold stepO pickM
  simp only []
  split
  · rfl
  · split
    · rfl
    · split <;> rfl
theorem taken_ch (w : Nat) (x : Std) : takenM "choose" x w = chM w x := by
  cases x <;> simp [takenM, chM]
inductive Ins
  | put (x : Nat) (v : Int)
  | step (x : Nat) (g : String) (y z : Nat)
  | sel (x y z t : Nat)
  | merge (x y : Nat)
  | firm (x y : Nat)
  | store (m x : Nat)
  | load (x m : Nat)
  | prt (x : Nat)
  | tst (x : Nat) (p : Nat)
  | jump (p : Nat)
  | ask (x m y : Nat)
def Ins.d : Ins → D
  | .put x v => .tup [dS "put", lt 97 x, .int v]
  | .step x g y z => .tup [dS "step", lt 97 x, dS g, lt 97 y, lt 97 z]
  | .sel x y z t => .tup [dS "select", lt 97 x, lt 97 y, lt 97 z, lt 97 t]
  | .merge x y => .tup [dS "merge", lt 97 x, lt 97 y]
  | .firm x y => .tup [dS "firm", lt 97 x, lt 97 y]
  | .store m x => .tup [dS "store", lt 65 m, lt 97 x]
  | .load x m => .tup [dS "load", lt 97 x, lt 65 m]
  | .prt x => .tup [dS "print", lt 97 x]
  | .tst x p => .tup [dS "test", lt 97 x, .int p]
  | .jump p => .tup [dS "jump", .int p]
  | .ask x m y => .tup [dS "ask", lt 97 x, lt 65 m, lt 97 y]
def Ins.ok (nm cl : List Nat) (n : Nat) : Ins → Prop
  | .put x v => x ∈ nm ∧ 0 ≤ v ∧ v < 8
  | .step x g y z => x ∈ nm ∧ g ∈ signs ∧ y ∈ nm ∧ z ∈ nm
  | .sel x y z t => x ∈ nm ∧ y ∈ nm ∧ z ∈ nm ∧ t ∈ nm
  | .merge x y => x ∈ nm ∧ y ∈ nm
  | .firm x y => x ∈ nm ∧ y ∈ nm
  | .store m x => m ∈ cl ∧ x ∈ nm
  | .load x m => x ∈ nm ∧ m ∈ cl
  | .prt x => x ∈ nm
  | .tst x p => x ∈ nm ∧ p ≤ n
  | .jump p => p ≤ n
  | .ask x m y => x ∈ nm ∧ m < 26 ∧ y ∈ nm
structure Pc where
  w : Nat
  code : List Ins
  ins : List Nat
  outs : List Nat
  nm : List Nat
  cl : List Nat
structure Pc.ok (p : Pc) : Prop where
  w : isW p.w
  code : ∀ i ∈ p.code, i.ok p.nm p.cl p.code.length
  nm : ∀ x ∈ p.nm, x < 26
  cl : ∀ x ∈ p.cl, x < 26
  nml : p.nm.length ≤ 26
  cll : p.cl.length ≤ 26
  ins : ∀ x ∈ p.ins, x ∈ p.nm
  outs : ∀ x ∈ p.outs, x ∈ p.nm
  insl : p.ins.length ≤ 3
  outsl : p.outs.length ≤ 2
  len : p.code.length ≤ 24
def Pc.d (p : Pc) : D := .obj (Str.ofString "Piece") [Str.ofString "width", Str.ofString "code", Str.ofString "inputs", Str.ofString "outputs", Str.ofString "registers", Str.ofString "cells"]
  [.int p.w, .tup (p.code.map Ins.d), .tup (p.ins.map (lt 97)), .tup (p.outs.map (lt 97)), .tup (p.nm.map (lt 97)), .tup (p.cl.map (lt 65))]
def Pc.own (p : Pc) : D := .dct [dS "width", dS "code", dS "inputs", dS "outputs", dS "names", dS "cells"]
  [.int p.w, .lst (p.code.map Ins.d), .lst (p.ins.map (lt 97)), .lst (p.outs.map (lt 97)), .lst (p.nm.map (lt 97)), .lst (p.cl.map (lt 65))]
def cD : Option Std → D
  | some s => s.d
  | none => .non
/-- where one is: the point, what each register holds, what each cell holds -/
structure Sta where
  pt : Nat
  r : List Std
  c : List (Option Std)
structure Sta.ok (s : Sta) (p : Pc) : Prop where
  pt : s.pt ≤ p.code.length
  r : s.r.length = p.nm.length
  c : s.c.length = p.cl.length
  ro : ∀ x ∈ s.r, x.ok p.w
  co : ∀ x ∈ s.c, ∀ y, x = some y → y.ok p.w
def Sta.R (s : Sta) : List D := s.r.map Std.d
def Sta.C (s : Sta) : List D := s.c.map cD
def Sta.d (s : Sta) : D := .tup [.int s.pt, .tup s.R, .tup s.C]
/-- what a register holds -/
def hl (p : Pc) (s : Sta) (x : Nat) : Std := (s.r[p.nm.idxOf x]?).getD .any
theorem hl_at {p : Pc} {s : Sta} (hs : s.ok p) {x : Nat} (hx : x ∈ p.nm) : s.R[p.nm.idxOf x]? = some (hl p s x).d := by
  have hl' : p.nm.idxOf x < s.r.length := by rw [hs.r]; exact List.idxOf_lt_length_of_mem hx
  unfold Sta.R hl
  rw [List.getElem?_map, List.getElem?_eq_getElem hl']
  rfl
theorem hl_ok {p : Pc} {s : Sta} (hs : s.ok p) {x : Nat} (hx : x ∈ p.nm) : (hl p s x).ok p.w := by
  have hl' : p.nm.idxOf x < s.r.length := by rw [hs.r]; exact List.idxOf_lt_length_of_mem hx
  unfold hl
  rw [List.getElem?_eq_getElem hl']
  exact hs.ro _ (List.getElem_mem hl')
def ce (p : Pc) (s : Sta) (m : Nat) : Option Std := (s.c[p.cl.idxOf m]?).getD none
theorem ce_at {p : Pc} {s : Sta} (hs : s.ok p) {x : Nat} (hx : x ∈ p.cl) : s.C[p.cl.idxOf x]? = some (cD (ce p s x)) := by
  have hl' : p.cl.idxOf x < s.c.length := by rw [hs.c]; exact List.idxOf_lt_length_of_mem hx
  unfold Sta.C ce
  rw [List.getElem?_map, List.getElem?_eq_getElem hl']
  rfl
theorem ce_ok {p : Pc} {s : Sta} (hs : s.ok p) {x : Nat} (hx : x ∈ p.cl) : ∀ y, ce p s x = some y → y.ok p.w := by
  have hl' : p.cl.idxOf x < s.c.length := by rw [hs.c]; exact List.idxOf_lt_length_of_mem hx
  unfold ce
  rw [List.getElem?_eq_getElem hl']
  exact hs.co _ (List.getElem_mem hl')
@[simp] theorem im_lt {b i : Nat} : imD (lt b i) = true := rfl
@[simp] theorem im_std {s : Std} : imD s.d = true := by cases s <;> rfl
@[simp] theorem im_lts {b : Nat} {l : List Nat} : imDs (l.map (lt b)) = true := by rw [imDs_all]; simp
@[simp] theorem im_stds {l : List Std} : imDs (l.map Std.d) = true := by rw [imDs_all]; simp
@[simp] theorem im_R {s : Sta} : imDs s.R = true := im_stds
@[simp] theorem im_cD {s : Option Std} : imD (cD s) = true := by cases s <;> simp [cD]
@[simp] theorem im_C {s : Sta} : imDs s.C = true := by unfold Sta.C; rw [imDs_all]; simp
@[simp] theorem im_ins {i : Ins} : imD i.d = true := by cases i <;> simp [Ins.d]
@[simp] theorem im_code {l : List Ins} : imDs (l.map Ins.d) = true := by rw [imDs_all]; simp
/-- one place of a tuple put anew -/
def putL (l : List D) (i : Nat) (d : D) : List D := l.take i ++ [d] ++ l.drop (i + 1)
def selM (b : Bk) (c a1 a2 : Std) : List D := match c with
  | .w n => if n = 0 then [a2.d] else [a1.d]
  | c => if b.se = "wrong" then [dS "wrong"] else if b.se = "keep" ∧ isBad c = true then [dS "bad"] else [a1.d, a2.d]
noncomputable def outsM (b : Bk) (p : Pc) (s : Sta) : Ins → List D
  | .put x v => [.int (v % siz p.w)]
  | .step x g y z => stepM b p.w g (hl p s y) (hl p s z)
  | .sel x y z t => selM b (hl p s y) (hl p s z) (hl p s t)
  | .merge x y => takenM b.me (hl p s y) p.w
  | .firm x y => takenM "choose" (hl p s y) p.w
  | .store m x => takenM b.so (hl p s x) p.w
  | .load x m => match ce p s m with
    | some c => [c.d]
    | none => arisM b.fr p.w 0
  | .prt x => takenM b.pr (hl p s x) p.w
  | .tst x q => takenM b.te (hl p s x) p.w
  | _ => []
def Ins.quiet : Ins → Prop
  | .jump _ => False
  | .ask _ _ _ => False
  | _ => True
def Ins.res : Ins → Prop
  | .jump _ => False
  | .ask _ _ _ => False
  | .store _ _ => False
  | .prt _ => False
  | .tst _ _ => False
  | _ => True
theorem sz_at {w : Nat} (hw : isW w) : atR ([D.int 1, .int 2, .int 4, .int 8][w]?) = .ok (.v (.int (siz w))) := by rcases hw with rfl | rfl | rfl <;> rfl
/-- what an outcome does -/
def Ins.to : Ins → Nat
  | .put x _ => x
  | .step x _ _ _ => x
  | .sel x _ _ _ => x
  | .merge x _ => x
  | .firm x _ => x
  | .load x _ => x
  | _ => 0
open Classical in
noncomputable def effM (p : Pc) (s : Sta) (i : Ins) (o : D) : D := if o = dS "wrong" then .tup [.tup [dS "wrong"], .non] else match i with
  | .prt _ => .tup [.tup [dS "print", o], .tup [.int (s.pt + 1), .tup s.R, .tup s.C]]
  | .tst _ q => .tup [.non, .tup [.int (if o = .int 0 then (q : Int) else s.pt + 1), .tup s.R, .tup s.C]]
  | .store m _ => .tup [.non, .tup [.int (s.pt + 1), .tup s.R, .tup (putL s.C (p.cl.idxOf m) o)]]
  | i => .tup [.non, .tup [.int (s.pt + 1), .tup (putL s.R (p.nm.idxOf i.to) o), .tup s.C]]
theorem to_mem {nm cl : List Nat} {n : Nat} {i : Ins} (hi : i.ok nm cl n) (hr : i.res) : i.to ∈ nm := by
  cases i with
  | put x v => exact hi.1
  | step x g y z => exact hi.1
  | sel x y z t => exact hi.1
  | merge x y => exact hi.1
  | firm x y => exact hi.1
  | load x m => exact hi.1
  | _ => cases hr
noncomputable def movesM (b : Bk) (p : Pc) (s : Sta) : List D := match p.code[s.pt]? with
  | none => [.tup [.tup [dS "end", .tup (p.outs.map fun x => (hl p s x).d)], .non]]
  | some (.jump q) => [.tup [.non, .tup [.int q, .tup s.R, .tup s.C]]]
  | some (.ask x m y) => [.tup [.tup [dS "ask", lt 65 m, (hl p s y).d], s.d]]
  | some i => ((outsM b p s i).map (effM p s i)).foldl insD []
theorem nices20 {n : Nat} : ∀ ds : List D, (∀ d ∈ ds, niceB d = true ∧ dep d ≤ n) → nicesB ds = true ∧ deps ds ≤ n
  | [], _ => ⟨rfl, Nat.zero_le _⟩
  | e :: ds, h => by
    obtain ⟨h1, h2⟩ := h e List.mem_cons_self
    obtain ⟨h3, h4⟩ := nices20 ds fun d m => h d (List.mem_cons_of_mem _ m)
    exact ⟨by rw [nicesB, h1, h3]; rfl, by rw [deps]; omega⟩
/-- data of at most n levels -/
def NL (n : Nat) (d : D) : Prop := niceB d = true ∧ dep d ≤ n
theorem NL.tup {n : Nat} {ds : List D} (hd : ∀ d ∈ ds, NL n d) : NL (n + 1) (.tup ds) := by
  obtain ⟨h1, h2⟩ := nices20 ds hd
  exact ⟨h1, by rw [dep]; omega⟩
theorem NL.mono {n m : Nat} {d : D} (h : NL n d) (hn : n ≤ m) : NL m d := ⟨h.1, Nat.le_trans h.2 hn⟩
theorem NL.nice {n : Nat} {d : D} (h : NL n d) (hn : n ≤ 60) : Nice d := ⟨h.1, Nat.le_trans h.2 hn⟩
theorem nl_std (s : Std) : NL 0 s.d := by cases s <;> first | exact ⟨rfl, Nat.le_refl _⟩ | exact ⟨ofS_ok _, Nat.le_refl _⟩
theorem nl_str (s : String) : NL 0 (dS s) := ⟨ofS_ok _, Nat.le_refl _⟩
theorem nl_int (i : Int) : NL 0 (.int i) := ⟨rfl, Nat.le_refl _⟩
theorem nl_non : NL 0 .non := ⟨rfl, Nat.le_refl _⟩
theorem nl_R (s : Sta) : NL 1 (.tup s.R) := NL.tup fun d m => by
  obtain ⟨x, _, rfl⟩ := List.mem_map.mp m
  exact nl_std x
theorem nl_C (s : Sta) : NL 1 (.tup s.C) := NL.tup fun d m => by
  obtain ⟨x, _, rfl⟩ := List.mem_map.mp m
  cases x with
  | none => exact nl_non
  | some x => exact nl_std x
theorem nl_put {l : List D} {i : Nat} {o : D} (hl : ∀ d ∈ l, NL 0 d) (ho : NL 0 o) : NL 1 (.tup (putL l i o)) := NL.tup fun d m => by
  unfold putL at m
  simp only [List.mem_append, List.mem_cons, List.not_mem_nil, or_false] at m
  rcases m with (m | m) | m
  · exact hl d (List.mem_of_mem_take m)
  · exact m ▸ ho
  · exact hl d (List.mem_of_mem_drop m)
theorem nl_out {w : Nat} {o : D} (h : IsOut w o) : NL 0 o := by
  rcases h with ⟨s, rfl, _⟩ | rfl
  · exact nl_std s
  · exact nl_str _
theorem nl_tup2 {n : Nat} {a b : D} (ha : NL n a) (hb : NL n b) : NL (n + 1) (.tup [a, b]) := NL.tup fun d m => by
  simp only [List.mem_cons, List.not_mem_nil, or_false] at m
  rcases m with rfl | rfl
  · exact ha
  · exact hb
theorem nl_tup1 {n : Nat} {a : D} (ha : NL n a) : NL (n + 1) (.tup [a]) := NL.tup fun d m => by
  simp only [List.mem_cons, List.not_mem_nil, or_false] at m
  subst m
  exact ha
theorem nl_tup3 {n : Nat} {a b c : D} (ha : NL n a) (hb : NL n b) (hc : NL n c) : NL (n + 1) (.tup [a, b, c]) := NL.tup fun d m => by
  simp only [List.mem_cons, List.not_mem_nil, or_false] at m
  rcases m with rfl | rfl | rfl
  · exact ha
  · exact hb
  · exact hc
theorem R_nl (s : Sta) : ∀ d ∈ s.R, NL 0 d := fun d m => by
  obtain ⟨x, _, rfl⟩ := List.mem_map.mp m
  exact nl_std x
theorem C_nl (s : Sta) : ∀ d ∈ s.C, NL 0 d := fun d m => by
  obtain ⟨x, _, rfl⟩ := List.mem_map.mp m
  cases x with
  | none => exact nl_non
  | some x => exact nl_std x
theorem eff_nl {p : Pc} {s : Sta} {i : Ins} {o : D} (ho : IsOut p.w o) : NL 3 (effM p s i o) := by
  have no := nl_out ho
  unfold effM
  split
  · exact nl_tup2 ((nl_tup1 (nl_str _)).mono (by omega)) (nl_non.mono (by omega))
  · cases i <;> simp only [] <;> first
      | exact nl_tup2 ((nl_tup2 (nl_str _) no).mono (by omega)) (nl_tup3 ((nl_int _).mono (by omega)) (nl_R s) (nl_C s))
      | exact nl_tup2 (nl_non.mono (by omega)) (nl_tup3 ((nl_int _).mono (by omega)) (nl_R s) (nl_C s))
      | exact nl_tup2 (nl_non.mono (by omega)) (nl_tup3 ((nl_int _).mono (by omega)) (nl_R s) (nl_put (C_nl s) no))
      | exact nl_tup2 (nl_non.mono (by omega)) (nl_tup3 ((nl_int _).mono (by omega)) (nl_put (R_nl s) no) (nl_C s))
theorem outs_out {b : Bk} (hb : b.ok) {p : Pc} (hp : p.ok) {s : Sta} (hs : s.ok p) {i : Ins} (hi : i.ok p.nm p.cl p.code.length) : ∀ o ∈ outsM b p s i, IsOut p.w o := by
  intro o m
  cases i with
  | put x v =>
    simp [outsM] at m
    exact .inl ⟨.w _, m, mod_siz _ _⟩
  | step x g y z => exact (step_out hb hp.w).2 o m
  | sel x y z t =>
    have a1 : IsOut p.w (hl p s z).d := .inl ⟨_, rfl, hl_ok hs hi.2.2.1⟩
    have a2 : IsOut p.w (hl p s t).d := .inl ⟨_, rfl, hl_ok hs hi.2.2.2⟩
    simp only [outsM] at m
    cases q : hl p s y <;> rw [q] at m <;> simp only [selM] at m
    · split at m <;> (simp at m; subst m; assumption)
    · split at m
      · simp at m; exact .inr m
      · split at m
        · simp at m; exact .inl ⟨.bad, m, trivial⟩
        · simp at m; rcases m with rfl | rfl <;> assumption
    · split at m
      · simp at m; exact .inr m
      · split at m
        · simp at m; exact .inl ⟨.bad, m, trivial⟩
        · simp at m; rcases m with rfl | rfl <;> assumption
  | merge x y => exact taken_out hp.w (hl_ok hs hi.2) o m
  | firm x y => exact taken_out hp.w (hl_ok hs hi.2) o m
  | store n x => exact taken_out hp.w (hl_ok hs hi.2) o m
  | prt x => exact taken_out hp.w (hl_ok hs hi) o m
  | tst x q => exact taken_out hp.w (hl_ok hs hi.1) o m
  | load x n =>
    simp only [outsM] at m
    cases q : ce p s n with
    | none =>
      rw [q] at m
      refine aris_out hp.w (r := b.fr) ?_ ⟨Int.le_refl _, siz_pos _⟩ o m
      have := hb.fr
      simp only [List.mem_cons, List.not_mem_nil, or_false] at this
      rcases this with e | e | e | e | e <;> simp [e]
    | some c =>
      rw [q] at m
      simp at m
      exact .inl ⟨c, m, ce_ok hs hi.2 c q⟩
  | jump q => simp [outsM] at m
  | ask x n y => simp [outsM] at m
theorem outs_len {b : Bk} (hb : b.ok) {p : Pc} (hp : p.ok) {s : Sta} (i : Ins) : (outsM b p s i).length ≤ 11 := by
  have wl : (wds p.w).length ≤ 8 := by rcases hp.w with e | e | e <;> rw [e] <;> decide
  have tk (r : String) (x : Std) : (takenM r x p.w).length ≤ 11 := by
    cases x <;> simp only [takenM] <;> (try split) <;> (try split) <;> first | omega | simp
  have ar (r : String) (n : Int) : (arisM r p.w n).length ≤ 11 := by
    unfold arisM
    split
    · omega
    · split <;> simp
  cases i with
  | put x v => simp [outsM]
  | step x g y z =>
    have := nd_len (U := wds p.w ++ [dS "any", dS "bad", dS "wrong"]) (step_out hb hp.w (g := g) (x := hl p s y) (y := hl p s z)).1 fun d m => by
      rcases (step_out hb hp.w).2 d m with ⟨s, rfl, hs⟩ | rfl
      · cases s with
        | w n => exact List.mem_append_left _ (wd_mem hp.w ⟨n, rfl, hs⟩)
        | any => simp [Std.d]
        | bad => simp [Std.d]
      · simp
    simp at this
    simp only [outsM]
    omega
  | sel x y z t =>
    simp only [outsM]
    cases hl p s y <;> simp only [selM] <;> (try split) <;> (try split) <;> simp
  | load x n =>
    simp only [outsM]
    split
    · simp
    · exact ar _ _
  | _ => first | exact tk _ _ | simp [outsM]
/-- put in what each outcome does -/
theorem eff_fold (p : Pc) (s : Sta) (i : Ins) (l : List D) : l.foldl (fun acc o => insD acc (effM p s i o)) [] = (l.map (effM p s i)).foldl insD [] := by
  rw [List.foldl_map]
theorem code_at {p : Pc} {s : Sta} {i : Ins} (hi : p.code[s.pt]? = some i) : (p.code.map Ins.d)[s.pt]? = some i.d := by
  rw [List.getElem?_map, hi]
  rfl
theorem code_ok {p : Pc} (hp : p.ok) {s : Sta} {i : Ins} (hi : p.code[s.pt]? = some i) : i.ok p.nm p.cl p.code.length := hp.code i (List.mem_of_getElem? hi)
theorem code_lt {p : Pc} {s : Sta} {i : Ins} (hi : p.code[s.pt]? = some i) : s.pt < p.code.length := by
  obtain ⟨z, _⟩ := List.getElem?_eq_some_iff.mp hi
  exact z
/-- what is there so far -/
def MovL (l : List D) : Prop := ∀ d ∈ l, NL 3 d
theorem MovL.ins {l : List D} {d : D} (h : MovL l) (hd : NL 3 d) : MovL (insD l d) := fun x m => by
  rcases insD_mem.mp m with m | rfl
  · exact h x m
  · exact hd
theorem MovL.nices {l : List D} (h : MovL l) : Nices l := nices_of fun d m => (h d m).nice (by omega)
/-- a loop that puts in what f makes of each -/
theorem mov_loop0 {b : D → AEnv → Res Fl} (f : D → D) (env : List D → AEnv → Prop) : ∀ (os acc : List D) (α : AEnv), env acc α → MovL acc → acc.length + os.length ≤ 11 → (∀ d ∈ os, NL 3 (f d)) →
    (∀ d ∈ os, ∀ acc β, env acc β → MovL acc → acc.length ≤ 11 → ∃ β', b d β = .ok (.nx β') ∧ env (insD acc (f d)) β') → ∃ α', forD b os α = .ok (.nx α') ∧ env ((os.map f).foldl insD acc) α'
  | [], acc, α, h, _, _, _, _ => ⟨α, rfl, h⟩
  | d :: os, acc, α, h, hm, hl, hn, st => by
    obtain ⟨β, e1, h1⟩ := st d List.mem_cons_self acc α h hm (by omega)
    have := insD_len acc (f d)
    obtain ⟨β2, e2, h2⟩ := mov_loop0 f env os (insD acc (f d)) β h1 (hm.ins (hn d List.mem_cons_self)) (by simp at hl; omega) (fun x m => hn x (List.mem_cons_of_mem _ m)) fun x m => st x (List.mem_cons_of_mem _ m)
    refine ⟨β2, ?_, h2⟩
    rw [forD, e1]
    exact e2
theorem mov_loop {b : D → AEnv → Res Fl} {os : List D} {α : AEnv} {r : Res Fl} (e : forD b os α = r) (f : D → D) (env : List D → AEnv → Prop) (hα : env [] α) (hn : ∀ d ∈ os, NL 3 (f d)) (hl : os.length ≤ 11)
    (st : ∀ d ∈ os, ∀ acc β, env acc β → MovL acc → acc.length ≤ 11 → ∃ β', b d β = .ok (.nx β') ∧ env (insD acc (f d)) β') : ∃ α', r = .ok (.nx α') ∧ env ((os.map f).foldl insD []) α' := by
  obtain ⟨α', e1, e2⟩ := mov_loop0 f env os [] α hα (fun _ m => nomatch m) (by simpa using hl) hn st
  exact ⟨α', e.symm.trans e1, e2⟩
theorem lcGo_of {X : Type} {turn : D → AEnv → Res (List D × AEnv)} {own : List Nat} (e g : X → D) : ∀ (l : List X) (β : AEnv), (∀ x ∈ l, ∃ β1, turn (e x) β = .ok ([g x], β1) ∧ wipeA β1 own = β) → lcGo turn own (l.map e) β = .ok (l.map g, β)
  | [], β, _ => rfl
  | x :: l, β, h => by
    obtain ⟨β1, e1, e2⟩ := h x List.mem_cons_self
    rw [List.map_cons, lcGo, e1]
    simp only
    rw [e2, lcGo_of e g l β fun y m => h y (List.mem_cons_of_mem _ m)]
    rfl
@[simp] theorem sd0 {G : GEnv} {s : Sta} : op2 G .idx (.v s.d) (.v (.int 0)) = .ok (.v (.int s.pt)) := rfl
@[simp] theorem sd1 {G : GEnv} {s : Sta} : op2 G .idx (.v s.d) (.v (.int 1)) = .ok (.v (.tup s.R)) := rfl
@[simp] theorem sd2 {G : GEnv} {s : Sta} : op2 G .idx (.v s.d) (.v (.int 2)) = .ok (.v (.tup s.C)) := rfl
@[simp] theorem im_sd {s : Sta} : imD s.d = true := by simp [Sta.d]
theorem eff_nm {G : GEnv} {cb : CE} {f : D} {d : D} {i j l : Nat} {acc : List D} {β : AEnv} (hi : i < β.length) (hj : j < β.length) (hij : i ≠ j) (hil : i ≠ l) (hjl : j ≠ l) (he : den G cb (β.set i (.v d)) = .ok (.v f, β.set i (.v d))) (hl : β[l]? = some (.ol acc)) (nf : NL 3 f) (na : MovL acc) (hlen : acc.length ≤ 11) :
    forB G (.nm i) (bk [.set j cb, .cond (.p2 .nmem (.var j) (.var l)) (bk [.app l (.var j)]) .nil]) d β = .ok (.nx (((β.set i (.v d)).set j (.v f)).set l (.ol (insD acc f)))) := by
  rw [forB_nm, if_pos hi, denB_bk, denS_set, he, kSet_ok, if_pos (by simpa using hj), kB_nx]
  exact ins_step (by simp [hj]) (by simp [List.getElem?_set, hil, hjl, hl]) (nf.nice (by omega)) na.nices (by omega)
theorem sg_ne {g : String} (hg : g ∈ signs) (x : Nat) : dS g ≠ lt 97 x := by
  intro e
  have e1 : Str.ofString g = sg 97 x := by injection e
  have e2 : (Str.ofString g).cps.toList = [97 + x] := by rw [e1]; rfl
  have fact (g : String) (l : List Nat) (e0 : (Str.ofString g).cps.toList = l) (hl : ∀ x, l ≠ [97 + x]) : (Str.ofString g).cps.toList ≠ [97 + x] := by rw [e0]; exact hl x
  simp only [signs, List.mem_cons, List.not_mem_nil, or_false] at hg
  rcases hg with rfl | rfl | rfl | rfl | rfl | rfl | rfl | rfl
  · exact fact "+" [43] (by decide +kernel) (fun x => by simp; omega) e2
  · exact fact "-" [45] (by decide +kernel) (fun x => by simp; omega) e2
  · exact fact "*" [42] (by decide +kernel) (fun x => by simp; omega) e2
  · exact fact "&" [38] (by decide +kernel) (fun x => by simp; omega) e2
  · exact fact "=" [61] (by decide +kernel) (fun x => by simp; omega) e2
  · exact fact "<" [60] (by decide +kernel) (fun x => by simp; omega) e2
  · exact fact "+!" [43, 33] (by decide +kernel) (fun x => by simp) e2
  · exact fact "-!" [45, 33] (by decide +kernel) (fun x => by simp) e2
theorem mem_sg {g : String} (hg : g ∈ signs) {nm : List Nat} (hn : ∀ i ∈ nm, 97 + i < 55296) : memD (dS g) (nm.map (lt 97)) = .ok false := by
  rw [memD_nice (nice_str g) (nices_lt hn)]
  congr 1
  rw [decide_eq_false_iff_not, List.mem_map]
  rintro ⟨x, _, e⟩
  exact sg_ne hg x e.symm
theorem nm_ok {p : Pc} (hp : p.ok) : ∀ i ∈ p.nm, 97 + i < 55296 := fun i m => by have := hp.nm i m; omega
theorem cl_ok {p : Pc} (hp : p.ok) : ∀ i ∈ p.cl, 65 + i < 55296 := fun i m => by have := hp.cl i m; omega
theorem mem_nm {p : Pc} (hp : p.ok) {x : Nat} (hx : x ∈ p.nm) : memD (lt 97 x) (p.nm.map (lt 97)) = .ok true := by
  rw [mem_lt (nm_ok hp) (nm_ok hp x hx)]
  simp [hx]
theorem ix_nm {p : Pc} (hp : p.ok) {x : Nat} (hx : x ∈ p.nm) : indexD (.v (.lst (p.nm.map (lt 97)))) (lt 97 x) = .ok (.v (.int (p.nm.idxOf x : Nat))) := idx_lst (nm_ok hp) hx
theorem ix_cl {p : Pc} (hp : p.ok) {x : Nat} (hx : x ∈ p.cl) : indexD (.v (.lst (p.cl.map (lt 65)))) (lt 65 x) = .ok (.v (.int (p.cl.idxOf x : Nat))) := idx_lst (cl_ok hp) hx
@[simp] theorem im_taken {r : String} {s : Std} {w : Nat} : imDs (takenM r s w) = true := by
  cases s <;> simp only [takenM] <;> (try split) <;> (try split) <;> simp
theorem R_len {p : Pc} (hp : p.ok) {s : Sta} (hs : s.ok p) : s.R.length ≤ 26 := by unfold Sta.R; rw [List.length_map, hs.r]; exact hp.nml
theorem C_len {p : Pc} (hp : p.ok) {s : Sta} (hs : s.ok p) : s.C.length ≤ 26 := by unfold Sta.C; rw [List.length_map, hs.c]; exact hp.cll
open Classical in
theorem cnt_nice {x : D} {p : PyData} (hx : niceB x = true) (hp : dat x = some p) : ∀ {ds : List D} {ps : List PyData}, nicesB ds = true → dats ds = some ps → ds.Nodup → (ps.countP fun z => PyData.eqv z p) = if x ∈ ds then 1 else 0
  | [], ps, _, h, _ => by cases h; simp
  | d :: ds, ps, hd, h, nd => by
    rw [nicesB, Bool.and_eq_true] at hd
    obtain ⟨q, h1, _⟩ := nice_dat d hd.1
    obtain ⟨qs, h2, _⟩ := nices_dat ds hd.2
    rw [dats, h1, h2] at h
    cases h
    rw [List.nodup_cons] at nd
    rw [List.countP_cons, cnt_nice hx hp hd.2 h2 nd.2]
    have := nice_eqv d x hd.1 hx q p h1 hp
    by_cases e : d = x
    · subst e
      rw [if_neg nd.1, if_pos (this.mpr rfl)]
      simp
    · have e2 : PyData.eqv q p = false := by
        cases z : PyData.eqv q p with
        | true => exact absurd (this.mp z) e
        | false => rfl
      simp [e2, Ne.symm e, show x ≠ d from fun z => e z.symm]
theorem count_1 {x : D} {ds : List D} (nd : ds.Nodup) (hn : Nices ds) (hx : x ∈ ds) : countD (.v (.lst ds)) x = .ok (.v (.int 1)) := by
  have nx := nices_mem hn x hx
  obtain ⟨p, h1, h2⟩ := nice_shaped nx
  obtain ⟨qs, h3, h4⟩ := nices_shaped hn
  unfold countD
  simp only [SV.lst?, h1, h3, h2, h4, Bool.and_self, if_true]
  rw [cnt_nice nx.1 h1 hn.1 h3 nd, if_pos hx]
  rfl
/-- a state, as the law checks it -/
def St (p : Pc) (d : D) : Prop := ∃ (q : Nat) (R C : List D), d = .tup [.int q, .tup R, .tup C] ∧ q ≤ p.code.length ∧ R.length = p.nm.length ∧ C.length = p.cl.length ∧ (∀ x ∈ R, IsStd p.w x) ∧ ∀ x ∈ C, x = .non ∨ IsStd p.w x
theorem St.im {p : Pc} {d : D} (hd : St p d) : imD d = true := by
  obtain ⟨q, R, C, rfl, h1, h2, h3, h4, h5⟩ := hd
  simp only [imD_tup, imDs_cons, imD_int, imDs_nil, Bool.and_true, Bool.true_and, Bool.and_eq_true]
  rw [imDs_all, imDs_all]
  simp only [List.all_eq_true]
  exact ⟨fun x hx => std_im (h4 x hx), fun x hx => by
    rcases h5 x hx with rfl | hs
    · rfl
    · exact std_im hs⟩
theorem std_of {p : Pc} {o : D} (ho : IsOut p.w o) (hw : o ≠ dS "wrong") : IsStd p.w o := ho.resolve_right hw
theorem putL_len {l : List D} {i : Nat} {o : D} (h : i < l.length) : (putL l i o).length = l.length := by
  unfold putL
  simp
  omega
theorem putL_mem {l : List D} {i : Nat} {o x : D} (h : x ∈ putL l i o) : x ∈ l ∨ x = o := by
  unfold putL at h
  simp only [List.mem_append, List.mem_cons, List.not_mem_nil, or_false] at h
  rcases h with (m | m) | m
  · exact .inl (List.mem_of_mem_take m)
  · exact .inr m
  · exact .inl (List.mem_of_mem_drop m)
theorem R_std {p : Pc} {s : Sta} (hs : s.ok p) : ∀ x ∈ s.R, IsStd p.w x := fun d m => by
  obtain ⟨x, hx, rfl⟩ := List.mem_map.mp m
  exact ⟨x, rfl, hs.ro x hx⟩
theorem C_std {p : Pc} {s : Sta} (hs : s.ok p) : ∀ x ∈ s.C, x = .non ∨ IsStd p.w x := fun d m => by
  obtain ⟨x, hx, rfl⟩ := List.mem_map.mp m
  cases x with
  | none => exact .inl rfl
  | some x => exact .inr ⟨x, rfl, hs.co _ hx x rfl⟩
theorem R_l {p : Pc} {s : Sta} (hs : s.ok p) : s.R.length = p.nm.length := by unfold Sta.R; rw [List.length_map, hs.r]
theorem C_l {p : Pc} {s : Sta} (hs : s.ok p) : s.C.length = p.cl.length := by unfold Sta.C; rw [List.length_map, hs.c]
theorem st_RC {p : Pc} {s : Sta} (hs : s.ok p) {q : Nat} (hq : q ≤ p.code.length) : St p (.tup [.int q, .tup s.R, .tup s.C]) := ⟨q, _, _, rfl, hq, R_l hs, C_l hs, R_std hs, C_std hs⟩
theorem st_d {p : Pc} {s : Sta} (hs : s.ok p) : St p s.d := st_RC hs hs.pt
theorem forD_cnt {b : D → AEnv → Res Fl} (N : Nat) (R : Nat → AEnv → Prop) : ∀ (ds : List D) (n : Nat) (α : AEnv), R n α → n + ds.length ≤ N → (∀ d ∈ ds, ∀ m α, m < N → R m α → ∃ α', b d α = .ok (.nx α') ∧ R (m + 1) α') → ∃ α', forD b ds α = .ok (.nx α') ∧ R (n + ds.length) α'
  | [], n, α, h, _, _ => ⟨α, rfl, h⟩
  | d :: ds, n, α, h, hl, st => by
    obtain ⟨α1, e, h1⟩ := st d List.mem_cons_self n α (by simp at hl; omega) h
    obtain ⟨α2, e2, h2⟩ := forD_cnt N R ds (n + 1) α1 h1 (by simp at hl; omega) fun d' m => st d' (List.mem_cons_of_mem _ m)
    refine ⟨α2, ?_, by simpa [Nat.add_assoc, Nat.add_comm 1] using h2⟩
    rw [forD, e]
    exact e2
theorem forD_cn {b : D → AEnv → Res Fl} {ds : List D} {α : AEnv} {r : Res Fl} (e : forD b ds α = r) (R : Nat → AEnv → Prop) (h0 : R 0 α) (hs : ∀ d ∈ ds, ∀ m α, m < ds.length → R m α → ∃ α', b d α = .ok (.nx α') ∧ R (m + 1) α') : ∃ α', r = .ok (.nx α') ∧ R ds.length α' := by
  obtain ⟨α', e1, e2⟩ := forD_cnt ds.length R ds 0 α h0 (by simp) hs
  exact ⟨α', e.symm.trans e1, by simpa using e2⟩
def dI (l : List Int) : List D := l.map .int
@[simp] theorem dI_len (l : List Int) : (dI l).length = l.length := List.length_map _
theorem dI_app (l : List Int) (i : Int) : dI l ++ [.int i] = dI (l ++ [i]) := by simp [dI]
theorem rngD_len (n : Nat) (a : Int) : (rngD a n).length = n := by
  induction n generalizing a with
  | zero => rfl
  | succ n ih => rw [rngD, List.length_cons, ih]
theorem rngD_mem {n : Nat} {d : D} (h : d ∈ rngD 0 n) : ∃ i : Nat, i < n ∧ d = .int i := by
  rw [rngD_0] at h
  obtain ⟨i, hi, rfl⟩ := List.mem_map.mp h
  exact ⟨i, List.mem_range.mp hi, rfl⟩
theorem ixD_mod {X : Type} (f : X → D) (L : List X) (hL : L ≠ []) (i : Int) : ∃ v ∈ L, ixD (L.map f) (i % (L.length : Int)) = .ok (.v (f v)) := by
  have hl : 0 < L.length := List.length_pos_iff.mpr hL
  have h1 : 0 ≤ i % (L.length : Int) := Int.emod_nonneg _ (by omega)
  have h2 : i % (L.length : Int) < L.length := Int.emod_lt_of_pos _ (by omega)
  have e : i % (L.length : Int) = ((i % (L.length : Int)).toNat : Nat) := by omega
  have h3 : (i % (L.length : Int)).toNat < L.length := by omega
  refine ⟨L[(i % (L.length : Int)).toNat], List.getElem_mem h3, ?_⟩
  have e3 : ixD (L.map f) (((i % (L.length : Int)).toNat : Nat) : Int) = .ok (.v (f L[(i % (L.length : Int)).toNat])) := by
    rw [ixD_nat, List.getElem?_map, List.getElem?_eq_getElem h3]
    rfl
  rw [← e] at e3
  exact e3
def rulL : String → List String
  | "over" => ["wrap", "once", "any", "bad", "wrong"]
  | "fresh" => ["zero", "once", "any", "bad", "wrong"]
  | "step" => ["choose", "keep"]
  | "select" => ["choose", "keep", "wrong"]
  | "merge" => ["choose", "keep"]
  | "store" => ["choose", "keep", "wrong"]
  | "print" => ["choose", "wrong"]
  | "test" => ["choose", "wrong"]
  | _ => ["stay", "wrong"]
theorem forD_step {b : D → AEnv → Res Fl} {d : D} {ds : List D} {α α' : AEnv} (e : b d α = .ok (.nx α')) : forD b (d :: ds) α = forD b ds α' := by rw [forD, e]
theorem put_new {ks : List String} {vs : List D} {r : String} {d : D} (hr : r ∉ ks) : dctPut (ks.map dS) vs (dS r) d (.text (Str.ofString r)) = (ks.map dS ++ [dS r], vs ++ [d]) := by
  unfold dctPut
  rw [if_neg]
  simp
  exact hr
def bkB : CB := bk [
    .set 4 (.call 102 (.cons (.var 3) .nil)),
    .put 2 (.var 3) (.p2 .idx (.var 4) (.p2 .mod (.p1 .int (.p2 .idx (.var 0) (.var 1))) (.p1 .len (.var 4)))),
    .set 1 (.p2 .add (.var 1) (.lit (.int 1)))]
theorem forD_search {b : D → AEnv → Res Fl} (P : D → Prop) (R Q : AEnv → Prop) : ∀ (ds : List D) (α : AEnv), R α → (∀ d ∈ ds, ∀ α, R α → (∃ α', b d α = .ok (.nx α') ∧ R α' ∧ P d) ∨ ∃ α', b d α = .ok (.bk α') ∧ Q α') → ∃ α', forD b ds α = .ok (.nx α') ∧ (Q α' ∨ (R α' ∧ ∀ d ∈ ds, P d))
  | [], α, h, _ => ⟨α, rfl, .inr ⟨h, fun _ m => nomatch m⟩⟩
  | d :: ds, α, h, st => by
    rcases st d List.mem_cons_self α h with ⟨α1, e, h1, p1⟩ | ⟨α1, e, q⟩
    · obtain ⟨α2, e2, h2⟩ := forD_search P R Q ds α1 h1 fun d' m => st d' (List.mem_cons_of_mem _ m)
      refine ⟨α2, by rw [forD, e]; exact e2, h2.imp id fun z => ⟨z.1, fun x m => ?_⟩⟩
      rcases List.mem_cons.mp m with rfl | m
      · exact p1
      · exact z.2 x m
    · exact ⟨α1, by rw [forD, e], .inl q⟩
theorem forD_se {b : D → AEnv → Res Fl} {ds : List D} {α : AEnv} {r : Res Fl} (e : forD b ds α = r) (P : D → Prop) (R Q : AEnv → Prop) (h0 : R α) (st : ∀ d ∈ ds, ∀ α, R α → (∃ α', b d α = .ok (.nx α') ∧ R α' ∧ P d) ∨ ∃ α', b d α = .ok (.bk α') ∧ Q α') : ∃ α', r = .ok (.nx α') ∧ (Q α' ∨ (R α' ∧ ∀ d ∈ ds, P d)) := by
  obtain ⟨α', e1, e2⟩ := forD_search P R Q ds α h0 st
  exact ⟨α', e.symm.trans e1, e2⟩
theorem all26 {l : List Nat} (hl : l.length < 26) (d : Int) (hm : ∀ t : Nat, t < 26 → ((d + t) % 26).toNat ∈ l) : False := by
  have hs : ∀ x ∈ List.range 26, x ∈ l := fun x hx => by
    have hx := List.mem_range.mp hx
    have := hm (((x : Int) - d) % 26).toNat (by omega)
    have e : ((d + (((x : Int) - d) % 26).toNat) % 26).toNat = x := by omega
    rwa [e] at this
  have nl : ∀ (a b : List Nat), a.Nodup → (∀ x ∈ a, x ∈ b) → a.length ≤ b.length := fun a => by
    induction a with
    | nil => exact fun b _ _ => Nat.zero_le _
    | cons y a ih =>
      intro b nd hs
      obtain ⟨A, B, rfl⟩ := List.append_of_mem (hs y List.mem_cons_self)
      have nd' := List.nodup_cons.mp nd
      have := ih (A ++ B) nd'.2 fun x hx => by
        have := hs x (List.mem_cons_of_mem _ hx)
        simp only [List.mem_append, List.mem_cons] at this ⊢
        rcases this with h | rfl | h
        · exact .inl h
        · exact absurd hx nd'.1
        · exact .inr h
      simp at this ⊢
      omega
  have := nl (List.range 26) l List.nodup_range hs
  simp at this
  omega
def allK : List String := ["put", "step", "vow", "select", "merge", "firm", "store", "load", "print", "test", "jump", "ask"]
theorem lcGo_ex {X : Type} {turn : D → AEnv → Res (List D × AEnv)} {own : List Nat} (f : X → D) (M : X → Prop) : ∀ (ds : List D) (β : AEnv), (∀ d ∈ ds, ∃ x, M x ∧ ∃ β1, turn d β = .ok ([f x], β1) ∧ wipeA β1 own = β) → ∃ l : List X, l.length = ds.length ∧ (∀ x ∈ l, M x) ∧ lcGo turn own ds β = .ok (l.map f, β)
  | [], β, _ => ⟨[], rfl, by simp, rfl⟩
  | d :: ds, β, h => by
    obtain ⟨x, hx, β1, e1, e2⟩ := h d List.mem_cons_self
    obtain ⟨l, h1, h2, h3⟩ := lcGo_ex f M ds β fun y m => h y (List.mem_cons_of_mem _ m)
    refine ⟨x :: l, by simp [h1], ?_, ?_⟩
    · intro y hy
      rcases List.mem_cons.mp hy with rfl | hy
      · exact hx
      · exact h2 y hy
    · rw [lcGo, e1]
      simp only
      rw [e2, h3]
      rfl
theorem lcGo_fo {X : Type} {turn : D → AEnv → Res (List D × AEnv)} {own : List Nat} (e : X → D) (p : X → Bool) : ∀ (l : List X) (β : AEnv), (∀ x ∈ l, ∃ β1, turn (e x) β = .ok (if p x = true then [e x] else [], β1) ∧ wipeA β1 own = β) → lcGo turn own (l.map e) β = .ok ((l.filter p).map e, β)
  | [], β, _ => rfl
  | x :: l, β, h => by
    obtain ⟨β1, e1, e2⟩ := h x List.mem_cons_self
    rw [List.map_cons, lcGo, e1]
    simp only
    rw [e2, lcGo_fo e p l β fun y m => h y (List.mem_cons_of_mem _ m), List.filter_cons]
    cases p x <;> rfl
theorem forD_pre {X : Type} {b : D → AEnv → Res Fl} (e : X → D) (L : List X) (R : List X → AEnv → Prop) (st : ∀ pre x post, pre ++ x :: post = L → ∀ α, R pre α → ∃ α', b (e x) α = .ok (.nx α') ∧ R (pre ++ [x]) α') : ∀ (l pre : List X) (α : AEnv), R pre α → pre ++ l = L → ∃ α', forD b (l.map e) α = .ok (.nx α') ∧ R L α'
  | [], pre, α, h, hl => ⟨α, rfl, by rw [List.append_nil] at hl; exact hl ▸ h⟩
  | x :: l, pre, α, h, hl => by
    obtain ⟨α1, e1, h1⟩ := st pre x l hl α h
    obtain ⟨α2, e2, h2⟩ := forD_pre e L R st l (pre ++ [x]) α1 h1 (by rw [List.append_assoc]; exact hl)
    refine ⟨α2, ?_, h2⟩
    rw [List.map_cons, forD, e1]
    exact e2
theorem forD_pr {X : Type} {b : D → AEnv → Res Fl} {e : X → D} {L : List X} {α : AEnv} {r : Res Fl} (e0 : forD b (L.map e) α = r) (R : List X → AEnv → Prop) (h0 : R [] α) (st : ∀ pre x post, pre ++ x :: post = L → ∀ α, R pre α → ∃ α', b (e x) α = .ok (.nx α') ∧ R (pre ++ [x]) α') : ∃ α', r = .ok (.nx α') ∧ R L α' := by
  obtain ⟨α', e1, e2⟩ := forD_pre e L R st L [] α h0 rfl
  exact ⟨α', e0.symm.trans e1, e2⟩
def Ins.regs : Ins → List Nat
  | .put x _ => [x]
  | .step x _ y z => [x, y, z]
  | .sel x y z t => [x, y, z, t]
  | .merge x y => [x, y]
  | .firm x y => [x, y]
  | .store _ x => [x]
  | .load x _ => [x]
  | .prt x => [x]
  | .tst x _ => [x]
  | .jump _ => []
  | .ask x _ y => [x, y]
def Ins.cels : Ins → List Nat
  | .store m _ => [m]
  | .load _ m => [m]
  | _ => []
def inS (z : Str) : Bool := !(Builtin.Str.occurrences (Str.ofString "abcdefghijklmnopqrstuvwxyz") z 0 (Str.ofString "abcdefghijklmnopqrstuvwxyz").length 1).isEmpty
theorem inS_sm {x : Nat} (hx : x < 26) : inS (sg 97 x) = true := by
  have : ∀ x : Fin 26, inS (sg 97 x.val) = true := by decide +kernel
  exact this ⟨x, hx⟩
theorem inS_gr {x : Nat} (hx : x < 26) : inS (sg 65 x) = false := by
  have : ∀ x : Fin 26, inS (sg 65 x.val) = false := by decide +kernel
  exact this ⟨x, hx⟩
theorem inS_sg {g : String} (hg : g ∈ signs) : inS (Str.ofString g) = false := by
  simp only [signs, List.mem_cons, List.not_mem_nil, or_false] at hg
  rcases hg with rfl | rfl | rfl | rfl | rfl | rfl | rfl | rfl <;> decide +kernel
def isIn (G : GEnv) (d : D) (b : Bool) : Prop := ∃ z, op1 G .str (.v d) = .ok (.v (.str z)) ∧ inS z = b
theorem in_sm {G : GEnv} {x : Nat} (hx : x < 26) : op1 G .str (.v (lt 97 x)) = .ok (.v (.str (sg 97 x))) := rfl
theorem in_gr {G : GEnv} {x : Nat} : op1 G .str (.v (lt 65 x)) = .ok (.v (.str (sg 65 x))) := rfl
theorem in_int {G : GEnv} {v : Int} (hv : 0 ≤ v ∧ v < 8) : ∃ z, op1 G .str (.v (.int v)) = .ok (.v (.str z)) ∧ inS z = false := by
  have : ∀ n : Fin 8, ∃ z, stD (.int (n.val : Int)) = some z ∧ inS z = false := by
    intro n
    have e : ((stD (.int (n.val : Int))).map inS) = some false := by
      revert n
      decide +kernel
    cases q : stD (.int (n.val : Int)) with
    | none => rw [q] at e; cases e
    | some z => rw [q] at e; exact ⟨z, rfl, by simpa using e⟩
  obtain ⟨z, h1, h2⟩ := this ⟨v.toNat, by omega⟩
  have e : ((v.toNat : Nat) : Int) = v := by omega
  refine ⟨z, ?_, h2⟩
  show (match stD (.int v) with
    | some x => Res.ok (SV.v (.str x))
    | none => .fail) = _
  simp only at h1
  rw [e] at h1
  rw [h1]
theorem memR_abc {z : Str} : op2.memR (.v (.str z)) (.v (.str (Str.ofString "abcdefghijklmnopqrstuvwxyz"))) = .ok (.v (.bl (inS z))) := rfl
def mkP (w : Nat) (code : List Ins) (ins outs : List Nat) : Pc := ⟨w, code, ins, outs, (List.range 26).filter (fun x => decide (x ∈ ins ++ outs ++ code.flatMap Ins.regs)), (List.range 26).filter fun x => decide (x ∈ code.flatMap Ins.cels)⟩
def Pc.ownV (p : Pc) : List D := [.int p.w, .lst (p.code.map Ins.d), .lst (p.ins.map (lt 97)), .lst (p.outs.map (lt 97)), .lst (p.nm.map (lt 97)), .lst (p.cl.map (lt 65))]
def ownK : List D := [dS "width", dS "code", dS "inputs", dS "outputs", dS "names", dS "cells"]
theorem own_kv (p : Pc) : p.own = .dct ownK p.ownV := rfl
theorem regs_mem {nm cl : List Nat} {n : Nat} {i : Ins} (hi : i.ok nm cl n) : ∀ x ∈ i.regs, x ∈ nm := by
  intro x hx
  cases i <;> simp only [Ins.regs, List.mem_cons, List.not_mem_nil, or_false] at hx <;> simp only [Ins.ok] at hi
  · exact hx ▸ hi.1
  · rcases hx with rfl | rfl | rfl <;> simp [hi]
  · rcases hx with rfl | rfl | rfl | rfl <;> simp [hi]
  · rcases hx with rfl | rfl <;> simp [hi]
  · rcases hx with rfl | rfl <;> simp [hi]
  · exact hx ▸ hi.2
  · exact hx ▸ hi.1
  · exact hx ▸ hi
  · exact hx ▸ hi.1
  · rcases hx with rfl | rfl <;> simp [hi]
theorem cels_mem {nm cl : List Nat} {n : Nat} {i : Ins} (hi : i.ok nm cl n) : ∀ x ∈ i.cels, x ∈ cl := by
  intro x hx
  cases i <;> simp only [Ins.cels, List.mem_cons, List.not_mem_nil, or_false] at hx <;> simp only [Ins.ok] at hi
  · exact hx ▸ hi.1
  · exact hx ▸ hi.2
theorem regs_len (i : Ins) : i.regs.length ≤ 4 := by cases i <;> simp [Ins.regs]
theorem cels_len (i : Ins) : i.cels.length ≤ 1 := by cases i <;> simp [Ins.cels]
theorem regs_fl : ∀ l : List Ins, (l.flatMap Ins.regs).length ≤ 4 * l.length
  | [] => by simp
  | i :: l => by
    have := regs_fl l
    have := regs_len i
    simp only [List.flatMap_cons, List.length_append, List.length_cons]
    omega
theorem cels_fl : ∀ l : List Ins, (l.flatMap Ins.cels).length ≤ l.length
  | [] => by simp
  | i :: l => by
    have := cels_fl l
    have := cels_len i
    simp only [List.flatMap_cons, List.length_append, List.length_cons]
    omega
/-- the parts of a row that are letters -/
theorem parts_eq {G : GEnv} {nm cl : List Nat} (hn : ∀ x ∈ nm, x < 26) (hc : ∀ x ∈ cl, x < 26) {n : Nat} (hn5 : n ≤ 5) {i : Ins} (hi : i.ok nm cl n) {s0 s1 s2 s3 s5 s6 s8 s11 s12 : SV} :
    ∃ parts k, i.d = .tup (.str (Str.ofString k) :: parts) ∧ (∀ (a7 : SV), lcGo (lcT G (.nm 10) (.some (.p2 .mem (.p1 .str (.var 10)) (.var 4))) (.var 10)) [9, 10] parts [s0, s1, s2, s3, .v (.str (Str.ofString "abcdefghijklmnopqrstuvwxyz")), s5, s6, a7, s8, .un, .un, s11, s12] = .ok (i.regs.map (lt 97), [s0, s1, s2, s3, .v (.str (Str.ofString "abcdefghijklmnopqrstuvwxyz")), s5, s6, a7, s8, .un, .un, s11, s12])) ∧
      (k = "store" → ∃ m r, parts = lt 65 m :: r ∧ i.cels = [m]) ∧ (k = "load" → ∃ x m, parts = [x, lt 65 m] ∧ i.cels = [m]) ∧ (k ≠ "store" → k ≠ "load" → i.cels = []) := by
  have I {v : Int} (hv : 0 ≤ v ∧ v < 8) := in_int (G := G) hv
  have S (x : Nat) (hx : x ∈ nm) := inS_sm (hn x hx)
  have C (x : Nat) (hx : x ∈ cl) := inS_gr (hc x hx)
  cases i with
  | put x v =>
    obtain ⟨z, e1, e2⟩ := I hi.2
    exact ⟨_, _, rfl, fun a7 => by simp [lcGo, lcT, in_sm (hn x hi.1), memR_abc, -memR_str, S x hi.1, e1, e2, Ins.regs], by simp, by simp, by simp [Ins.cels]⟩
  | step x g y z => exact ⟨_, _, rfl, fun a7 => by simp [lcGo, lcT, in_sm (hn x hi.1), in_sm (hn y hi.2.2.1), in_sm (hn z hi.2.2.2), memR_abc, -memR_str, S x hi.1, S y hi.2.2.1, S z hi.2.2.2, inS_sg hi.2.1, Ins.regs], by simp, by simp, by simp [Ins.cels]⟩
  | sel x y z t => exact ⟨_, _, rfl, fun a7 => by simp [lcGo, lcT, in_sm (hn x hi.1), in_sm (hn y hi.2.1), in_sm (hn z hi.2.2.1), in_sm (hn t hi.2.2.2), memR_abc, -memR_str, S x hi.1, S y hi.2.1, S z hi.2.2.1, S t hi.2.2.2, Ins.regs], by simp, by simp, by simp [Ins.cels]⟩
  | merge x y => exact ⟨_, _, rfl, fun a7 => by simp [lcGo, lcT, in_sm (hn x hi.1), in_sm (hn y hi.2), memR_abc, -memR_str, S x hi.1, S y hi.2, Ins.regs], by simp, by simp, by simp [Ins.cels]⟩
  | firm x y => exact ⟨_, _, rfl, fun a7 => by simp [lcGo, lcT, in_sm (hn x hi.1), in_sm (hn y hi.2), memR_abc, -memR_str, S x hi.1, S y hi.2, Ins.regs], by simp, by simp, by simp [Ins.cels]⟩
  | store m x => exact ⟨_, _, rfl, fun a7 => by simp [lcGo, lcT, in_sm (hn x hi.2), in_gr, memR_abc, -memR_str, S x hi.2, C m hi.1, Ins.regs], fun _ => ⟨m, _, rfl, rfl⟩, by simp, by simp⟩
  | load x m => exact ⟨_, _, rfl, fun a7 => by simp [lcGo, lcT, in_sm (hn x hi.1), in_gr, memR_abc, -memR_str, S x hi.1, C m hi.2, Ins.regs], by simp, fun _ => ⟨_, m, rfl, rfl⟩, by simp⟩
  | prt x => exact ⟨_, _, rfl, fun a7 => by simp [lcGo, lcT, in_sm (hn x hi), memR_abc, -memR_str, S x hi, Ins.regs], by simp, by simp, by simp [Ins.cels]⟩
  | tst x q =>
    obtain ⟨z, e1, e2⟩ := I (v := (q : Int)) (by have := hi.2; omega)
    exact ⟨_, _, rfl, fun a7 => by simp [lcGo, lcT, in_sm (hn x hi.1), memR_abc, -memR_str, S x hi.1, e1, e2, Ins.regs], by simp, by simp, by simp [Ins.cels]⟩
  | jump q =>
    obtain ⟨z, e1, e2⟩ := I (v := (q : Int)) (by have : q ≤ n := hi; omega)
    exact ⟨_, _, rfl, fun a7 => by simp [lcGo, lcT, memR_abc, -memR_str, e1, e2, Ins.regs], by simp, by simp, by simp [Ins.cels]⟩
  | ask x m y => exact ⟨_, _, rfl, fun a7 => by simp [lcGo, lcT, in_sm (hn x hi.1), in_sm (hn y hi.2.2), in_gr, memR_abc, -memR_str, S x hi.1, S y hi.2.2, inS_gr hi.2.1, Ins.regs], by simp, by simp, by simp [Ins.cels]⟩
theorem ok_mono {nm cl cl' : List Nat} {n : Nat} (hc : ∀ x ∈ cl, x ∈ cl') {i : Ins} (hi : i.ok nm cl n) : i.ok nm cl' n := by
  cases i <;> simp only [Ins.ok] at hi ⊢ <;> first | exact hi | exact ⟨hc _ hi.1, hi.2⟩ | exact ⟨hi.1, hc _ hi.2⟩
def plc : Nat → Nat
  | 1 => 6
  | 2 => 4
  | _ => 3
/-- what the law's draws give: names, cells, holes, a code -/
structure Dr (w : Nat) where
  nm : List Nat
  cl : List Nat
  code : List Ins
  ins : List Nat
  outs : List Nat
structure Dr.ok {w : Nat} (d : Dr w) : Prop where
  nm : ∀ x ∈ d.nm, x < 26
  cl : ∀ x ∈ d.cl, x < 26
  tot : d.nm.length + d.cl.length ≤ plc w
  code : ∀ i ∈ d.code, i.ok d.nm d.cl d.code.length
  len : d.code.length ≤ 24
  ins : d.ins.length ≤ 3
  outs : d.outs.length ≤ 2
  insN : d.ins.Nodup
  outsN : d.outs.Nodup
  insm : ∀ x ∈ d.ins, x ∈ d.nm
  outsm : ∀ x ∈ d.outs, x ∈ d.nm
  cl4 : d.cl.length ≤ 4
theorem put_ol {l : List D} {j : Int} {n : Nat} {d : D} (e : j = n) (hn : n < l.length) : putSV (.ol l) (.v (.int j)) d = .ok (.ol (l.set n d)) := by
  subst e
  unfold putSV
  simp only []
  have : L2.ixN l.length (n : Int) = some n := by
    unfold L2.ixN
    rw [if_pos (by omega), if_pos (by omega)]
    rfl
  rw [this]
theorem lcGo_e {X : Type} {turn : D → AEnv → Res (List D × AEnv)} {own : List Nat} (f : X → D) (M : X → Prop) (βF : AEnv) (R : AEnv → Prop) (hF : R βF) : ∀ (ds : List D) (β : AEnv), R β → (∀ d ∈ ds, ∀ β, R β → ∃ x, M x ∧ ∃ β1, turn d β = .ok ([f x], β1) ∧ wipeA β1 own = βF) → ∃ l : List X, l.length = ds.length ∧ (∀ x ∈ l, M x) ∧ ∃ β', lcGo turn own ds β = .ok (l.map f, β') ∧ (ds ≠ [] → β' = βF)
  | [], β, _, _ => ⟨[], rfl, by simp, β, rfl, fun z => absurd rfl z⟩
  | d :: ds, β, hb, h => by
    obtain ⟨x, hx, β1, e1, e2⟩ := h d List.mem_cons_self β hb
    obtain ⟨l, h1, h2, β', h3, h4⟩ := lcGo_e f M βF R hF ds βF hF fun y m => h y (List.mem_cons_of_mem _ m)
    refine ⟨x :: l, by simp [h1], ?_, β', ?_, fun _ => ?_⟩
    · intro y hy
      rcases List.mem_cons.mp hy with rfl | hy
      · exact hx
      · exact h2 y hy
    · rw [lcGo, e1]
      simp only
      rw [e2, h3]
      rfl
    · cases ds with
      | nil =>
        rw [lcGo] at h3
        injection h3 with h3
        injection h3 with _ h3
        exact h3.symm
      | cons a b => exact h4 (by simp)
theorem lcGo_e' {X : Type} {turn : D → AEnv → Res (List D × AEnv)} {own : List Nat} {ds : List D} {β : AEnv} {r : Res (List D × AEnv)} (e : lcGo turn own ds β = r) (f : X → D) (M : X → Prop) (βF : AEnv) (R : AEnv → Prop) (hF : R βF) (hb : R β) (hd : ds ≠ []) (h : ∀ d ∈ ds, ∀ β, R β → ∃ x, M x ∧ ∃ β1, turn d β = .ok ([f x], β1) ∧ wipeA β1 own = βF) : ∃ l : List X, l.length = ds.length ∧ (∀ x ∈ l, M x) ∧ r = .ok (l.map f, βF) := by
  obtain ⟨l, h1, h2, β', h3, h4⟩ := lcGo_e f M βF R hF ds β hb h
  exact ⟨l, h1, h2, by rw [← e, h3, h4 hd]⟩
theorem within_eq {G : GEnv} {v m : Int} (h0 : 0 ≤ v) (hm : v ≤ m) : denD G 2 cb_within [.int v, .int m] = .ok (.v (.bl true)) := by
  rw [denD_eq]
  simp [cb_within, h0, hm]
def inG (z : Str) : Bool := !(Builtin.Str.occurrences (Str.ofString "ABCDEFGHIJKLMNOPQRSTUVWXYZ") z 0 (Str.ofString "ABCDEFGHIJKLMNOPQRSTUVWXYZ").length 1).isEmpty
theorem inG_gr {x : Nat} (hx : x < 26) : inG (sg 65 x) = true := by
  have : ∀ x : Fin 26, inG (sg 65 x.val) = true := by decide +kernel
  exact this ⟨x, hx⟩
theorem memR_ABC {z : Str} : op2.memR (.v (.str z)) (.v (.str (Str.ofString "ABCDEFGHIJKLMNOPQRSTUVWXYZ"))) = .ok (.v (.bl (inG z))) := rfl
theorem sg_len1 {b i : Nat} : (sg b i).length = 1 := rfl
theorem one_sm {G : GEnv} {x : Nat} (hx : x < 26) : denD G 2 cb_one_of [lt 97 x, .str (Str.ofString "abcdefghijklmnopqrstuvwxyz")] = .ok (.v (.bl true)) := by
  rw [denD_eq]
  unfold lt
  simp [cb_one_of, memR_abc, -memR_str, inS_sm hx, sg_len1]
theorem one_gr {G : GEnv} {x : Nat} (hx : x < 26) : denD G 2 cb_one_of [lt 65 x, .str (Str.ofString "ABCDEFGHIJKLMNOPQRSTUVWXYZ")] = .ok (.v (.bl true)) := by
  rw [denD_eq]
  unfold lt
  simp [cb_one_of, memR_ABC, -memR_str, inG_gr hx, sg_len1]
theorem fl1 : (Str.ofString "rk").length = 2 := by decide +kernel
theorem fl2 : (Str.ofString "rsrr").length = 4 := by decide +kernel
theorem fl3 : (Str.ofString "rrrr").length = 4 := by decide +kernel
theorem fl4 : (Str.ofString "rr").length = 2 := by decide +kernel
theorem fl5 : (Str.ofString "mr").length = 2 := by decide +kernel
theorem fl6 : (Str.ofString "rm").length = 2 := by decide +kernel
theorem fl7 : (Str.ofString "r").length = 1 := by decide +kernel
theorem fl8 : (Str.ofString "rp").length = 2 := by decide +kernel
theorem fl9 : (Str.ofString "p").length = 1 := by decide +kernel
theorem fl10 : (Str.ofString "rmr").length = 3 := by decide +kernel
theorem fa1 : ixS (Str.ofString "rk") 0 = .ok (.v (dS "r")) := by kernel_rfl
theorem fa2 : ixS (Str.ofString "rk") 1 = .ok (.v (dS "k")) := by kernel_rfl
theorem fb1 : ixS (Str.ofString "rsrr") 0 = .ok (.v (dS "r")) := by kernel_rfl
theorem fb2 : ixS (Str.ofString "rsrr") 1 = .ok (.v (dS "s")) := by kernel_rfl
theorem fb3 : ixS (Str.ofString "rsrr") 2 = .ok (.v (dS "r")) := by kernel_rfl
theorem fb4 : ixS (Str.ofString "rsrr") 3 = .ok (.v (dS "r")) := by kernel_rfl
theorem fc1 : ixS (Str.ofString "rrrr") 0 = .ok (.v (dS "r")) := by kernel_rfl
theorem fc2 : ixS (Str.ofString "rrrr") 1 = .ok (.v (dS "r")) := by kernel_rfl
theorem fc3 : ixS (Str.ofString "rrrr") 2 = .ok (.v (dS "r")) := by kernel_rfl
theorem fc4 : ixS (Str.ofString "rrrr") 3 = .ok (.v (dS "r")) := by kernel_rfl
theorem fd1 : ixS (Str.ofString "rr") 0 = .ok (.v (dS "r")) := by kernel_rfl
theorem fd2 : ixS (Str.ofString "rr") 1 = .ok (.v (dS "r")) := by kernel_rfl
theorem fe1 : ixS (Str.ofString "mr") 0 = .ok (.v (dS "m")) := by kernel_rfl
theorem fe2 : ixS (Str.ofString "mr") 1 = .ok (.v (dS "r")) := by kernel_rfl
theorem ff1 : ixS (Str.ofString "rm") 0 = .ok (.v (dS "r")) := by kernel_rfl
theorem ff2 : ixS (Str.ofString "rm") 1 = .ok (.v (dS "m")) := by kernel_rfl
theorem fg1 : ixS (Str.ofString "r") 0 = .ok (.v (dS "r")) := by kernel_rfl
theorem fh1 : ixS (Str.ofString "rp") 0 = .ok (.v (dS "r")) := by kernel_rfl
theorem fh2 : ixS (Str.ofString "rp") 1 = .ok (.v (dS "p")) := by kernel_rfl
theorem fi1 : ixS (Str.ofString "p") 0 = .ok (.v (dS "p")) := by kernel_rfl
theorem fj1 : ixS (Str.ofString "rmr") 0 = .ok (.v (dS "r")) := by kernel_rfl
theorem fj2 : ixS (Str.ofString "rmr") 1 = .ok (.v (dS "m")) := by kernel_rfl
theorem fj3 : ixS (Str.ofString "rmr") 2 = .ok (.v (dS "r")) := by kernel_rfl
theorem al1 {G : GEnv} : op1 G .all (.ol [.bl true]) = .ok (.v (.bl true)) := rfl
theorem al2 {G : GEnv} : op1 G .all (.ol [.bl true, .bl true]) = .ok (.v (.bl true)) := rfl
theorem al3 {G : GEnv} : op1 G .all (.ol [.bl true, .bl true, .bl true]) = .ok (.v (.bl true)) := rfl
theorem al4 {G : GEnv} : op1 G .all (.ol [.bl true, .bl true, .bl true, .bl true]) = .ok (.v (.bl true)) := rfl
def dd (l : List Nat) (x : Nat) : List Nat := if x ∈ l then l else l ++ [x]
theorem dd_mem {l : List Nat} {x y : Nat} : y ∈ dd l x ↔ y ∈ l ∨ y = x := by
  unfold dd
  split
  · rename_i h
    exact ⟨.inl, fun z => z.elim id fun e => e ▸ h⟩
  · simp
theorem dd_nodup {l : List Nat} {x : Nat} (h : l.Nodup) : (dd l x).Nodup := by
  unfold dd
  split
  · exact h
  · rename_i n
    rw [List.nodup_append]
    exact ⟨h, by simp, fun a ha b hb e => by simp at hb; subst hb; subst e; exact n ha⟩
theorem fold_dd_mem {y : Nat} : ∀ {l acc : List Nat}, y ∈ l.foldl dd acc ↔ y ∈ acc ∨ y ∈ l
  | [], acc => by simp
  | d :: l, acc => by
    rw [List.foldl_cons, fold_dd_mem, dd_mem, List.mem_cons]
    exact ⟨fun h => h.elim (fun h => h.elim .inl fun e => .inr (.inl e)) fun h => .inr (.inr h), fun h => h.elim (fun h => .inl (.inl h)) fun h => h.elim (fun e => .inl (.inr e)) .inr⟩
theorem fold_dd_nodup : ∀ {l acc : List Nat}, acc.Nodup → (l.foldl dd acc).Nodup
  | [], acc, h => h
  | d :: l, acc, h => by rw [List.foldl_cons]; exact fold_dd_nodup (dd_nodup h)
def ksD (b : Nat) (l : List Nat) : List D := l.map (lt b)
def vsD (l : List Nat) : List D := l.map fun _ => .bl true
theorem kt_any {b x : Nat} (l : List Nat) : ((ksD b l).any fun k => decide (keyOf k = some (.text (sg b x)))) = decide (x ∈ l) := by
  rw [Bool.eq_iff_iff]
  simp only [List.any_eq_true, decide_eq_true_eq, ksD, List.mem_map]
  constructor
  · rintro ⟨d, ⟨y, hy, rfl⟩, e⟩
    have e2 : keyOf (lt b y) = some (.text (sg b y)) := keyOf_str
    rw [e2] at e
    injection e with e
    injection e with e
    exact sg_inj.mp e ▸ hy
  · exact fun hx => ⟨_, ⟨x, hx, rfl⟩, keyOf_str⟩
theorem zip_true {b x : Nat} : ∀ l : List Nat, List.zipWith (fun k v => if keyOf k = some (.text (sg b x)) then D.bl true else v) (ksD b l) (vsD l) = vsD l
  | [] => rfl
  | y :: l => by
    have := zip_true (b := b) (x := x) l
    simp only [ksD, vsD, List.map_cons, List.zipWith_cons_cons] at this ⊢
    rw [this]
    simp
theorem put_dd {b x : Nat} (l : List Nat) : dctPut (ksD b l) (vsD l) (lt b x) (.bl true) (.text (sg b x)) = (ksD b (dd l x), vsD (dd l x)) := by
  unfold dctPut dd
  rw [kt_any]
  by_cases q : x ∈ l
  · simp only [q, decide_true, if_true, zip_true]
  · simp [q, ksD, vsD]
theorem ks_flat {b : Nat} (l : List Nat) : (ksD b l).all flatKey = true := by simp [ksD, lt]
theorem ks_len {b : Nat} (l : List Nat) : (ksD b l).length = l.length := by simp [ksD]
theorem putSV_dd {b x : Nat} {l : List Nat} (hl : l.length < 16777216) : putSV (.od (ksD b l) (vsD l)) (.v (lt b x)) (.bl true) = .ok (.od (ksD b (dd l x)) (vsD (dd l x))) := by
  unfold putSV
  have e : keyOf (SV.v (lt b x)).d = some (.text (sg b x)) := keyOf_str
  simp only [e]
  rw [if_pos (by simp [ks_flat, ks_len, hl]; exact flatKey_str)]
  simp only [SV.d_v]
  rw [put_dd]
theorem dc_dd {b : Nat} {turn : D → AEnv → Res ((D × D) × AEnv)} {own : List Nat} : ∀ (l acc : List Nat) (β : AEnv), (∀ x ∈ l, ∃ β1, turn (lt b x) β = .ok ((lt b x, .bl true), β1) ∧ wipeA β1 own = β) → acc.length + l.length < 16777216 → dcGo turn own (l.map (lt b)) β (ksD b acc, vsD acc) = .ok ((ksD b (l.foldl dd acc), vsD (l.foldl dd acc)), β)
  | [], acc, β, _, _ => rfl
  | x :: l, acc, β, h, hl => by
    obtain ⟨β1, e1, e2⟩ := h x List.mem_cons_self
    have h2 := dc_dd l (dd acc x) (wipeA β1 own) (b := b) (turn := turn) (own := own) (by rw [e2]; exact fun y m => h y (List.mem_cons_of_mem _ m)) (by
      have : (dd acc x).length ≤ acc.length + 1 := by unfold dd; split <;> simp
      simp at hl
      omega)
    have k1 : keyOf (lt b x) = some (.text (sg b x)) := keyOf_str
    rw [List.map_cons, dcGo, e1]
    simp only [k1]
    rw [if_pos (by simp at hl; simp [ks_len]; exact ⟨flatKey_str, by omega⟩), put_dd, h2, e2]
    rfl
theorem st_le {b : Nat} (hb : b = 97 ∨ b = 65) {i j : Nat} (hi : i < 26) (hj : j < 26) : stLe (lt b i) (lt b j) = decide (i ≤ j) := by
  have f1 : ∀ i j : Fin 26, stLe (lt 97 i.val) (lt 97 j.val) = decide (i.val ≤ j.val) := by decide +kernel
  have f2 : ∀ i j : Fin 26, stLe (lt 65 i.val) (lt 65 j.val) = decide (i.val ≤ j.val) := by decide +kernel
  rcases hb with rfl | rfl
  · exact f1 ⟨i, hi⟩ ⟨j, hj⟩
  · exact f2 ⟨i, hi⟩ ⟨j, hj⟩
theorem sort_eq {b : Nat} (hb : b = 97 ∨ b = 65) {l : List Nat} (nd : l.Nodup) (hl : ∀ x ∈ l, x < 26) : (ksD b l).mergeSort stLe = ((List.range 26).filter fun x => decide (x ∈ l)).map (lt b) := by
  unfold ksD
  rw [← List.map_mergeSort (r := fun i j => decide (i ≤ j)) (fun i hi j hj => (st_le hb (hl i hi) (hl j hj)).symm)]
  congr 1
  refine List.Perm.eq_of_pairwise (le := fun i j => i ≤ j) (fun a b _ _ h1 h2 => Nat.le_antisymm h1 h2) ?_ ?_ ?_
  · have := List.pairwise_mergeSort (le := fun i j : Nat => decide (i ≤ j)) (fun a b c => by simp; omega) (fun a b => by simp; omega) l
    exact this.imp fun h => by simpa using h
  · exact ((List.pairwise_lt_range (n := 26)).imp fun h => Nat.le_of_lt h).filter _
  · refine (List.mergeSort_perm _ _).trans ?_
    rw [List.perm_ext_iff_of_nodup nd (List.nodup_range.filter _)]
    intro x
    simp only [List.mem_filter, List.mem_range, decide_eq_true_eq]
    exact ⟨fun h => ⟨hl x h, h⟩, fun h => h.2⟩
theorem st_all {b : Nat} : ∀ l : List Nat, stAll (ksD b l) = true
  | [] => rfl
  | x :: l => by
    show stAll (lt b x :: ksD b l) = true
    rw [stAll, st_all l]
    rfl
theorem dd_len (l : List Nat) (x : Nat) : (dd l x).length ≤ l.length + 1 := by
  unfold dd
  split <;> simp
theorem fold_dd_len : ∀ (l acc : List Nat), (l.foldl dd acc).length ≤ acc.length + l.length
  | [], acc => by simp
  | x :: l, acc => by
    rw [List.foldl_cons]
    have := fold_dd_len l (dd acc x)
    have := dd_len acc x
    simp
    omega
theorem kk_ok {β γ : Type} {f : β → Res γ} {y : β} : kk f (.ok y) = f y := Eq.trans rfl rfl
theorem nat_nd_len : ∀ {a b : List Nat}, a.Nodup → (∀ x ∈ a, x ∈ b) → a.length ≤ b.length
  | [], b, _, _ => Nat.zero_le _
  | y :: a, b, nd, hs => by
    obtain ⟨A, B, rfl⟩ := List.append_of_mem (hs y List.mem_cons_self)
    have nd' := List.nodup_cons.mp nd
    have := nat_nd_len (b := A ++ B) nd'.2 fun x hx => by
      have := hs x (List.mem_cons_of_mem _ hx)
      simp only [List.mem_append, List.mem_cons] at this ⊢
      rcases this with h | rfl | h
      · exact .inl h
      · exact absurd hx nd'.1
      · exact .inr h
    simp at this ⊢
    omega
theorem mk_nm {w : Nat} {d : Dr w} (hd : d.ok) : ∀ x ∈ (mkP w d.code d.ins d.outs).nm, x ∈ d.nm := by
  intro x hx
  simp only [mkP, List.mem_filter, List.mem_append, List.mem_flatMap, decide_eq_true_eq] at hx
  rcases hx.2 with (m | m) | ⟨i, hi, m⟩
  · exact hd.insm x m
  · exact hd.outsm x m
  · exact regs_mem (hd.code i hi) x m
theorem mk_cl {w : Nat} {d : Dr w} (hd : d.ok) : ∀ x ∈ (mkP w d.code d.ins d.outs).cl, x ∈ d.cl := by
  intro x hx
  simp only [mkP, List.mem_filter, List.mem_flatMap, decide_eq_true_eq] at hx
  obtain ⟨_, i, hi, m⟩ := hx
  exact cels_mem (hd.code i hi) x m
theorem mk_tot {w : Nat} {d : Dr w} (hd : d.ok) : (mkP w d.code d.ins d.outs).nm.length + (mkP w d.code d.ins d.outs).cl.length ≤ plc w := by
  have h1 := nat_nd_len (a := (mkP w d.code d.ins d.outs).nm) (List.nodup_range.filter _) (mk_nm hd)
  have h2 := nat_nd_len (a := (mkP w d.code d.ins d.outs).cl) (List.nodup_range.filter _) (mk_cl hd)
  have := hd.tot
  omega
theorem regs_in {i : Ins} {nm cl nm' cl' : List Nat} {n : Nat} (hi : i.ok nm cl n) (h1 : ∀ x ∈ i.regs, x ∈ nm') (h2 : ∀ x ∈ i.cels, x ∈ cl') : i.ok nm' cl' n := by
  cases i <;> simp only [Ins.ok, Ins.regs, Ins.cels, List.mem_cons, List.not_mem_nil, or_false, forall_eq_or_imp, forall_eq, false_implies, implies_true] at hi h1 h2 ⊢ <;> simp_all
theorem mk_ok {w : Nat} (hw : isW w) {d : Dr w} (hd : d.ok) : (mkP w d.code d.ins d.outs).ok where
  w := hw
  code := fun i hi => regs_in (hd.code i hi) (fun x hx => by
      simp only [mkP, List.mem_filter, List.mem_range, List.mem_append, List.mem_flatMap, decide_eq_true_eq]
      exact ⟨hd.nm x (regs_mem (hd.code i hi) x hx), .inr ⟨i, hi, hx⟩⟩) (fun x hx => by
      simp only [mkP, List.mem_filter, List.mem_range, List.mem_flatMap, decide_eq_true_eq]
      exact ⟨hd.cl x (cels_mem (hd.code i hi) x hx), i, hi, hx⟩)
  nm := fun x hx => hd.nm x (mk_nm hd x hx)
  cl := fun x hx => hd.cl x (mk_cl hd x hx)
  nml := Nat.le_trans (List.length_filter_le _ _) (by simp)
  cll := Nat.le_trans (List.length_filter_le _ _) (by simp)
  ins := fun x hx => by
    simp only [mkP, List.mem_filter, List.mem_range, List.mem_append, decide_eq_true_eq]
    exact ⟨hd.nm x (hd.insm x hx), .inl (.inl hx)⟩
  outs := fun x hx => by
    simp only [mkP, List.mem_filter, List.mem_range, List.mem_append, decide_eq_true_eq]
    exact ⟨hd.nm x (hd.outsm x hx), .inl (.inr hx)⟩
  insl := hd.ins
  outsl := hd.outs
  len := hd.len
def firstV (p : Pc) (ss : List Std) (x : Nat) : Std := match p.ins, ss with
  | [y], [s] => if y = x then s else .w 0
  | _, _ => .w 0
def firstS (p : Pc) (ss : List Std) : D := .tup [.int 0, .tup (p.nm.map fun x => (firstV p ss x).d), .tup (p.cl.map fun _ => .non)]
theorem get_lt {x y : Nat} {s : D} : getD3 (.od [lt 97 y] [s]) (.v (lt 97 x)) (.v (.int 0)) = .ok (.v (if y = x then s else .int 0)) := by
  unfold lt
  by_cases e : y = x <;> simp [getD3, sg_inj, e]
theorem get_nil {x : Nat} : getD3 (.od [] []) (.v (lt 97 x)) (.v (.int 0)) = .ok (.v (.int 0)) := by
  unfold lt
  simp [getD3]
def stds (w : Nat) : List Std := match w with
  | 1 => [.w 0, .w 1, .any, .bad]
  | 2 => [.w 0, .w 1, .w 2, .w 3, .any, .bad]
  | _ => [.w 0, .w 1, .w 2, .w 3, .w 4, .w 5, .w 6, .w 7, .any, .bad]
theorem stds_d {w : Nat} (hw : isW w) : wds w ++ [dS "any", dS "bad"] = (stds w).map Std.d := by rcases hw with rfl | rfl | rfl <;> rfl
theorem stds_ok {w : Nat} (hw : isW w) : ∀ s ∈ stds w, s.ok w := by
  intro s m
  rcases hw with rfl | rfl | rfl <;> simp [stds] at m
  · rcases m with rfl | rfl | rfl | rfl <;> simp [Std.ok, siz]
  · rcases m with rfl | rfl | rfl | rfl | rfl | rfl <;> simp [Std.ok, siz]
  · rcases m with rfl | rfl | rfl | rfl | rfl | rfl | rfl | rfl | rfl | rfl <;> simp [Std.ok, siz]
theorem stds_len {w : Nat} (hw : isW w) : (stds w).length ≤ 10 ∧ (stds w) ≠ [] := by rcases hw with rfl | rfl | rfl <;> simp [stds]
theorem eq_self {d : D} (hd : Nice d) : eqD d d = .ok true := by
  rw [eqD_nice hd hd]
  simp
theorem firstV_ok {p : Pc} {ss : List Std} {w : Nat} (hss : ∀ s ∈ ss, s.ok w) (x : Nat) : (firstV p ss x).ok w := by
  have z : (Std.w 0).ok w := ⟨Int.le_refl _, siz_pos w⟩
  unfold firstV
  split
  · split
    · exact hss _ (by simp)
    · exact z
  · exact z
theorem first_st {p : Pc} {ss : List Std} (hss : ∀ s ∈ ss, s.ok p.w) : St p (firstS p ss) := ⟨0, _, _, rfl, Nat.zero_le _, by simp, by simp, fun x hx => by
  obtain ⟨y, _, rfl⟩ := List.mem_map.mp hx
  exact ⟨_, rfl, firstV_ok hss y⟩, fun x hx => by
  obtain ⟨y, _, rfl⟩ := List.mem_map.mp hx
  exact .inl rfl⟩
theorem first_nice {p : Pc} {ss : List Std} : Nice (firstS p ss) := (nl_tup3 (n := 1) ((nl_int 0).mono (by omega)) (NL.tup fun d m => by
  obtain ⟨y, _, rfl⟩ := List.mem_map.mp m
  exact nl_std _) (NL.tup fun d m => by
  obtain ⟨y, _, rfl⟩ := List.mem_map.mp m
  exact nl_non)).nice (by omega)
theorem nice_lts {b : Nat} {l : List Nat} (hl : ∀ x ∈ l, b + x < 55296) : Nice (.tup (l.map (lt b))) := (NL.tup (n := 0) fun d m => by
  obtain ⟨y, hy, rfl⟩ := List.mem_map.mp m
  exact ⟨sg_ok (hl y hy), Nat.le_refl _⟩).nice (by omega)
end Dv

set_option linter.all false
set_option maxRecDepth 100000
set_option maxHeartbeats 8000000
/-! pieces: the names that Piece.__init__ reaches; instructions that fit -/
namespace Dv
open PySem
structure PGv (G : Nat → GEnv) : Prop where
  f53 : ∀ k, (G (k + 1)).fn 53 = some (Str.ofString "one_of", 2, denD (G k) 2 cb_one_of)
  f54 : ∀ k, (G (k + 1)).fn 54 = some (Str.ofString "within", 2, denD (G k) 2 cb_within)
  f55 : ∀ k, (G (k + 1)).fn 55 = some (Str.ofString "fits", 3, denD (G k) 3 cb_fits)
  f56 : ∀ k, (G (k + 1)).fn 56 = some (Str.ofString "valid", 2, denD (G k) 5 cb_valid)
  f57 : ∀ k, (G (k + 1)).fn 57 = some (Str.ofString "named", 2, denD (G k) 6 cb_named)
  c2 : ∀ k, (G k).con 2 = some (Str.ofString "SMALL", .str (Str.ofString "abcdefghijklmnopqrstuvwxyz"))
  c3 : ∀ k, (G k).con 3 = some (Str.ofString "GREAT", .str (Str.ofString "ABCDEFGHIJKLMNOPQRSTUVWXYZ"))
  c4 : ∀ k, (G k).con 4 = some (Str.ofString "SIGNS", .tup [dS "+", dS "-", dS "*", dS "&", dS "=", dS "<", dS "+!", dS "-!"])
  c5 : ∀ k, (G k).con 5 = some (Str.ofString "PLACES", .tup [.int 0, .int 6, .int 4, .int 3])
  c6 : ∀ k, (G k).con 6 = some (Str.ofString "MOST", .int 24)
  c7 : ∀ k, (G k).con 7 = some (Str.ofString "FORMS", .dct [dS "put", dS "step", dS "select", dS "merge", dS "firm", dS "store", dS "load", dS "print", dS "test", dS "jump", dS "ask"] [dS "rk", dS "rsrr", dS "rrrr", dS "rr", dS "rr", dS "mr", dS "rm", dS "r", dS "rp", dS "p", dS "rmr"])
  d_Piece_width : ∀ k, (G k).fld (Str.ofString "Piece") (Str.ofString "width") = true
  d_Piece_code : ∀ k, (G k).fld (Str.ofString "Piece") (Str.ofString "code") = true
  d_Piece_inputs : ∀ k, (G k).fld (Str.ofString "Piece") (Str.ofString "inputs") = true
  d_Piece_outputs : ∀ k, (G k).fld (Str.ofString "Piece") (Str.ofString "outputs") = true
  d_Piece_registers : ∀ k, (G k).fld (Str.ofString "Piece") (Str.ofString "registers") = true
  d_Piece_cells : ∀ k, (G k).fld (Str.ofString "Piece") (Str.ofString "cells") = true
variable {G : Nat → GEnv} (h : PGv G)
include h in
theorem fits_r (k n : Nat) {x : Nat} (hx : x < 26) : denD (G (k + 1)) 3 cb_fits [lt 97 x, dS "r", .int n] = .ok (.v (.bl true)) := by
  rw [denD_eq]
  simp [cb_fits, h.f53, h.c2, one_sm hx]
include h in
theorem fits_m (k n : Nat) {x : Nat} (hx : x < 26) : denD (G (k + 1)) 3 cb_fits [lt 65 x, dS "m", .int n] = .ok (.v (.bl true)) := by
  rw [denD_eq]
  simp [cb_fits, h.f53, h.c3, one_gr hx]
include h in
theorem fits_k (k n : Nat) {v : Int} (hv : 0 ≤ v ∧ v < 8) : denD (G (k + 1)) 3 cb_fits [.int v, dS "k", .int n] = .ok (.v (.bl true)) := by
  have e := within_eq (G := G k) hv.1 (show v ≤ 7 by omega)
  rw [denD_eq]
  simp [cb_fits, h.f54, e]
include h in
theorem fits_p (k n : Nat) {v : Nat} (hv : v ≤ n) : denD (G (k + 1)) 3 cb_fits [.int v, dS "p", .int n] = .ok (.v (.bl true)) := by
  have e := within_eq (G := G k) (v := (v : Int)) (m := (n : Int)) (by omega) (by omega)
  rw [denD_eq]
  simp [cb_fits, h.f54, e]
include h in
theorem fits_s (k n : Nat) {g : String} (hg : g ∈ signs) : denD (G (k + 1)) 3 cb_fits [dS g, dS "s", .int n] = .ok (.v (.bl true)) := by
  rw [denD_eq]
  simp only [signs, List.mem_cons, List.not_mem_nil, or_false] at hg
  rcases hg with rfl | rfl | rfl | rfl | rfl | rfl | rfl | rfl <;> simp [cb_fits, h.c4]
include h in
theorem valid_eq (k : Nat) {nm cl : List Nat} (hn : ∀ x ∈ nm, x < 26) (hc : ∀ x ∈ cl, x < 26) {n : Nat} {i : Ins} (hi : i.ok nm cl n) : denD (G (k + 2)) 5 cb_valid [i.d, .int n] = .ok (.v (.bl true)) := by
  have s1 : small62 1 = true := by decide
  have s2 : small62 2 = true := by decide
  have s3 : small62 3 = true := by decide
  have s4 : small62 4 = true := by decide
  rw [denD_eq]
  cases i with
  | put x v => simp [cb_valid, Ins.d, h.c7, fl1, s2, rngD, lcGo, lcT, fa1, fa2, h.f55, fits_r h k n (hn x hi.1), fits_k h k n hi.2, al2]
  | step x g y z => simp [cb_valid, Ins.d, h.c7, fl2, s4, rngD, lcGo, lcT, fb1, fb2, fb3, fb4, h.f55, fits_r h k n (hn x hi.1), fits_s h k n hi.2.1, fits_r h k n (hn y hi.2.2.1), fits_r h k n (hn z hi.2.2.2), al4]
  | sel x y z t => simp [cb_valid, Ins.d, h.c7, fl3, s4, rngD, lcGo, lcT, fc1, fc2, fc3, fc4, h.f55, fits_r h k n (hn x hi.1), fits_r h k n (hn y hi.2.1), fits_r h k n (hn z hi.2.2.1), fits_r h k n (hn t hi.2.2.2), al4]
  | merge x y => simp [cb_valid, Ins.d, h.c7, fl4, s2, rngD, lcGo, lcT, fd1, fd2, h.f55, fits_r h k n (hn x hi.1), fits_r h k n (hn y hi.2), al2]
  | firm x y => simp [cb_valid, Ins.d, h.c7, fl4, s2, rngD, lcGo, lcT, fd1, fd2, h.f55, fits_r h k n (hn x hi.1), fits_r h k n (hn y hi.2), al2]
  | store m x => simp [cb_valid, Ins.d, h.c7, fl5, s2, rngD, lcGo, lcT, fe1, fe2, h.f55, fits_m h k n (hc m hi.1), fits_r h k n (hn x hi.2), al2]
  | load x m => simp [cb_valid, Ins.d, h.c7, fl6, s2, rngD, lcGo, lcT, ff1, ff2, h.f55, fits_r h k n (hn x hi.1), fits_m h k n (hc m hi.2), al2]
  | prt x => simp [cb_valid, Ins.d, h.c7, fl7, s1, rngD, lcGo, lcT, fg1, h.f55, fits_r h k n (hn x hi), al1]
  | tst x q => simp [cb_valid, Ins.d, h.c7, fl8, s2, rngD, lcGo, lcT, fh1, fh2, h.f55, fits_r h k n (hn x hi.1), fits_p h k n hi.2, al2]
  | jump q => simp [cb_valid, Ins.d, h.c7, fl9, s1, rngD, lcGo, lcT, fi1, h.f55, fits_p h k n hi, al1]
  | ask x m y => simp [cb_valid, Ins.d, h.c7, fl10, s3, rngD, lcGo, lcT, fj1, fj2, fj3, h.f55, fits_r h k n (hn x hi.1), fits_m h k n hi.2.1, fits_r h k n (hn y hi.2.2), al3]
include h in
theorem named_r (k : Nat) {code : List Ins} (hc : code.length ≤ 24) : denD (G k) 6 cb_named [.lst (code.map Ins.d), dS "r"] = .ok (.ol (ksD 97 ((code.flatMap Ins.regs).foldl dd []))) := by
  have s1 : small62 1 = true := by decide
  have s2 : small62 2 = true := by decide
  have s3 : small62 3 = true := by decide
  have s4 : small62 4 = true := by decide
  rw [denD_eq]
  simp [cb_named, mkDct]
  generalize e1 : forD _ _ _ = r1
  obtain ⟨α1, rfl, t3, t4, t5, rfl⟩ := forD_pr e1 (fun pre β => ∃ t3 t4 t5, β = [.v (.lst (code.map Ins.d)), .v (dS "r"), .od (ksD 97 ((pre.flatMap Ins.regs).foldl dd [])) (vsD ((pre.flatMap Ins.regs).foldl dd [])), t3, t4, t5]) ⟨_, _, _, rfl⟩ (by
    intro pre i post hpre β ⟨t3, t4, t5, e⟩
    subst e
    have pl : pre.length < code.length := by rw [← hpre]; simp
    have b1 := regs_fl pre
    have b2 := cels_fl pre
    have b3 := fold_dd_len (pre.flatMap Ins.regs) []
    have fe : ((pre ++ [i]).flatMap Ins.regs).foldl dd [] = i.regs.foldl dd ((pre.flatMap Ins.regs).foldl dd []) := by rw [List.flatMap_append, List.foldl_append]; simp
    rw [fe]
    generalize (pre.flatMap Ins.regs).foldl dd [] = F at *
    have hF : F.length ≤ 96 := by rw [List.length_nil] at b3; omega
    have P (l : List Nat) (hl : l.length ≤ 130) (x : Nat) := putSV_dd (b := 97) (x := x) (l := l) (by omega)
    cases i with
    | put x v =>
      have p0 := P (F) (by omega) x
      refine ⟨[.v (.lst (code.map Ins.d)), .v (dS "r"), .od (ksD 97 ((Ins.put x v).regs.foldl dd F)) (vsD ((Ins.put x v).regs.foldl dd F)), .v (Ins.put x v).d, .v (dS "rk"), .v (.int 1)], ?_, _, _, _, rfl⟩
      simp [forB_nm, Ins.d, h.c7, fl1, s2, rngD, forD, fa1, fa2, Ins.regs, p0]
    | step x g y z =>
      have p0 := P (F) (by omega) x
      have p1 := P (dd (F) x) (by have := dd_len (F) x; omega) y
      have p2 := P (dd (dd (F) x) y) (by have := dd_len (F) x;  have := dd_len (dd (F) x) y; omega) z
      refine ⟨[.v (.lst (code.map Ins.d)), .v (dS "r"), .od (ksD 97 ((Ins.step x g y z).regs.foldl dd F)) (vsD ((Ins.step x g y z).regs.foldl dd F)), .v (Ins.step x g y z).d, .v (dS "rsrr"), .v (.int 3)], ?_, _, _, _, rfl⟩
      simp [forB_nm, Ins.d, h.c7, fl2, s4, rngD, forD, fb1, fb2, fb3, fb4, Ins.regs, p0, p1, p2]
    | sel x y z t =>
      have p0 := P (F) (by omega) x
      have p1 := P (dd (F) x) (by have := dd_len (F) x; omega) y
      have p2 := P (dd (dd (F) x) y) (by have := dd_len (F) x;  have := dd_len (dd (F) x) y; omega) z
      have p3 := P (dd (dd (dd (F) x) y) z) (by have := dd_len (F) x;  have := dd_len (dd (F) x) y;  have := dd_len (dd (dd (F) x) y) z; omega) t
      refine ⟨[.v (.lst (code.map Ins.d)), .v (dS "r"), .od (ksD 97 ((Ins.sel x y z t).regs.foldl dd F)) (vsD ((Ins.sel x y z t).regs.foldl dd F)), .v (Ins.sel x y z t).d, .v (dS "rrrr"), .v (.int 3)], ?_, _, _, _, rfl⟩
      simp [forB_nm, Ins.d, h.c7, fl3, s4, rngD, forD, fc1, fc2, fc3, fc4, Ins.regs, p0, p1, p2, p3]
    | merge x y =>
      have p0 := P (F) (by omega) x
      have p1 := P (dd (F) x) (by have := dd_len (F) x; omega) y
      refine ⟨[.v (.lst (code.map Ins.d)), .v (dS "r"), .od (ksD 97 ((Ins.merge x y).regs.foldl dd F)) (vsD ((Ins.merge x y).regs.foldl dd F)), .v (Ins.merge x y).d, .v (dS "rr"), .v (.int 1)], ?_, _, _, _, rfl⟩
      simp [forB_nm, Ins.d, h.c7, fl4, s2, rngD, forD, fd1, fd2, Ins.regs, p0, p1]
    | firm x y =>
      have p0 := P (F) (by omega) x
      have p1 := P (dd (F) x) (by have := dd_len (F) x; omega) y
      refine ⟨[.v (.lst (code.map Ins.d)), .v (dS "r"), .od (ksD 97 ((Ins.firm x y).regs.foldl dd F)) (vsD ((Ins.firm x y).regs.foldl dd F)), .v (Ins.firm x y).d, .v (dS "rr"), .v (.int 1)], ?_, _, _, _, rfl⟩
      simp [forB_nm, Ins.d, h.c7, fl4, s2, rngD, forD, fd1, fd2, Ins.regs, p0, p1]
    | store m x =>
      have p0 := P (F) (by omega) x
      refine ⟨[.v (.lst (code.map Ins.d)), .v (dS "r"), .od (ksD 97 ((Ins.store m x).regs.foldl dd F)) (vsD ((Ins.store m x).regs.foldl dd F)), .v (Ins.store m x).d, .v (dS "mr"), .v (.int 1)], ?_, _, _, _, rfl⟩
      simp [forB_nm, Ins.d, h.c7, fl5, s2, rngD, forD, fe1, fe2, Ins.regs, p0]
    | load x m =>
      have p0 := P (F) (by omega) x
      refine ⟨[.v (.lst (code.map Ins.d)), .v (dS "r"), .od (ksD 97 ((Ins.load x m).regs.foldl dd F)) (vsD ((Ins.load x m).regs.foldl dd F)), .v (Ins.load x m).d, .v (dS "rm"), .v (.int 1)], ?_, _, _, _, rfl⟩
      simp [forB_nm, Ins.d, h.c7, fl6, s2, rngD, forD, ff1, ff2, Ins.regs, p0]
    | prt x =>
      have p0 := P (F) (by omega) x
      refine ⟨[.v (.lst (code.map Ins.d)), .v (dS "r"), .od (ksD 97 ((Ins.prt x).regs.foldl dd F)) (vsD ((Ins.prt x).regs.foldl dd F)), .v (Ins.prt x).d, .v (dS "r"), .v (.int 0)], ?_, _, _, _, rfl⟩
      simp [forB_nm, Ins.d, h.c7, fl7, s1, rngD, forD, fg1, Ins.regs, p0]
    | tst x q =>
      have p0 := P (F) (by omega) x
      refine ⟨[.v (.lst (code.map Ins.d)), .v (dS "r"), .od (ksD 97 ((Ins.tst x q).regs.foldl dd F)) (vsD ((Ins.tst x q).regs.foldl dd F)), .v (Ins.tst x q).d, .v (dS "rp"), .v (.int 1)], ?_, _, _, _, rfl⟩
      simp [forB_nm, Ins.d, h.c7, fl8, s2, rngD, forD, fh1, fh2, Ins.regs, p0]
    | jump q =>
      refine ⟨[.v (.lst (code.map Ins.d)), .v (dS "r"), .od (ksD 97 ((Ins.jump q).regs.foldl dd F)) (vsD ((Ins.jump q).regs.foldl dd F)), .v (Ins.jump q).d, .v (dS "p"), .v (.int 0)], ?_, _, _, _, rfl⟩
      simp [forB_nm, Ins.d, h.c7, fl9, s1, rngD, forD, fi1, Ins.regs]
    | ask x m y =>
      have p0 := P (F) (by omega) x
      have p1 := P (dd (F) x) (by have := dd_len (F) x; omega) y
      refine ⟨[.v (.lst (code.map Ins.d)), .v (dS "r"), .od (ksD 97 ((Ins.ask x m y).regs.foldl dd F)) (vsD ((Ins.ask x m y).regs.foldl dd F)), .v (Ins.ask x m y).d, .v (dS "rmr"), .v (.int 2)], ?_, _, _, _, rfl⟩
      simp [forB_nm, Ins.d, h.c7, fl10, s3, rngD, forD, fj1, fj2, fj3, Ins.regs, p0, p1]
    )
  simp
include h in
theorem named_m (k : Nat) {code : List Ins} (hc : code.length ≤ 24) : denD (G k) 6 cb_named [.lst (code.map Ins.d), dS "m"] = .ok (.ol (ksD 65 ((code.flatMap Ins.cels).foldl dd []))) := by
  have s1 : small62 1 = true := by decide
  have s2 : small62 2 = true := by decide
  have s3 : small62 3 = true := by decide
  have s4 : small62 4 = true := by decide
  rw [denD_eq]
  simp [cb_named, mkDct]
  generalize e1 : forD _ _ _ = r1
  obtain ⟨α1, rfl, t3, t4, t5, rfl⟩ := forD_pr e1 (fun pre β => ∃ t3 t4 t5, β = [.v (.lst (code.map Ins.d)), .v (dS "m"), .od (ksD 65 ((pre.flatMap Ins.cels).foldl dd [])) (vsD ((pre.flatMap Ins.cels).foldl dd [])), t3, t4, t5]) ⟨_, _, _, rfl⟩ (by
    intro pre i post hpre β ⟨t3, t4, t5, e⟩
    subst e
    have pl : pre.length < code.length := by rw [← hpre]; simp
    have b1 := regs_fl pre
    have b2 := cels_fl pre
    have b3 := fold_dd_len (pre.flatMap Ins.cels) []
    have fe : ((pre ++ [i]).flatMap Ins.cels).foldl dd [] = i.cels.foldl dd ((pre.flatMap Ins.cels).foldl dd []) := by rw [List.flatMap_append, List.foldl_append]; simp
    rw [fe]
    generalize (pre.flatMap Ins.cels).foldl dd [] = F at *
    have hF : F.length ≤ 96 := by rw [List.length_nil] at b3; omega
    have P (l : List Nat) (hl : l.length ≤ 130) (x : Nat) := putSV_dd (b := 65) (x := x) (l := l) (by omega)
    cases i with
    | put x v =>
      refine ⟨[.v (.lst (code.map Ins.d)), .v (dS "m"), .od (ksD 65 ((Ins.put x v).cels.foldl dd F)) (vsD ((Ins.put x v).cels.foldl dd F)), .v (Ins.put x v).d, .v (dS "rk"), .v (.int 1)], ?_, _, _, _, rfl⟩
      simp [forB_nm, Ins.d, h.c7, fl1, s2, rngD, forD, fa1, fa2, Ins.cels]
    | step x g y z =>
      refine ⟨[.v (.lst (code.map Ins.d)), .v (dS "m"), .od (ksD 65 ((Ins.step x g y z).cels.foldl dd F)) (vsD ((Ins.step x g y z).cels.foldl dd F)), .v (Ins.step x g y z).d, .v (dS "rsrr"), .v (.int 3)], ?_, _, _, _, rfl⟩
      simp [forB_nm, Ins.d, h.c7, fl2, s4, rngD, forD, fb1, fb2, fb3, fb4, Ins.cels]
    | sel x y z t =>
      refine ⟨[.v (.lst (code.map Ins.d)), .v (dS "m"), .od (ksD 65 ((Ins.sel x y z t).cels.foldl dd F)) (vsD ((Ins.sel x y z t).cels.foldl dd F)), .v (Ins.sel x y z t).d, .v (dS "rrrr"), .v (.int 3)], ?_, _, _, _, rfl⟩
      simp [forB_nm, Ins.d, h.c7, fl3, s4, rngD, forD, fc1, fc2, fc3, fc4, Ins.cels]
    | merge x y =>
      refine ⟨[.v (.lst (code.map Ins.d)), .v (dS "m"), .od (ksD 65 ((Ins.merge x y).cels.foldl dd F)) (vsD ((Ins.merge x y).cels.foldl dd F)), .v (Ins.merge x y).d, .v (dS "rr"), .v (.int 1)], ?_, _, _, _, rfl⟩
      simp [forB_nm, Ins.d, h.c7, fl4, s2, rngD, forD, fd1, fd2, Ins.cels]
    | firm x y =>
      refine ⟨[.v (.lst (code.map Ins.d)), .v (dS "m"), .od (ksD 65 ((Ins.firm x y).cels.foldl dd F)) (vsD ((Ins.firm x y).cels.foldl dd F)), .v (Ins.firm x y).d, .v (dS "rr"), .v (.int 1)], ?_, _, _, _, rfl⟩
      simp [forB_nm, Ins.d, h.c7, fl4, s2, rngD, forD, fd1, fd2, Ins.cels]
    | store m x =>
      have p0 := P (F) (by omega) m
      refine ⟨[.v (.lst (code.map Ins.d)), .v (dS "m"), .od (ksD 65 ((Ins.store m x).cels.foldl dd F)) (vsD ((Ins.store m x).cels.foldl dd F)), .v (Ins.store m x).d, .v (dS "mr"), .v (.int 1)], ?_, _, _, _, rfl⟩
      simp [forB_nm, Ins.d, h.c7, fl5, s2, rngD, forD, fe1, fe2, Ins.cels, p0]
    | load x m =>
      have p0 := P (F) (by omega) m
      refine ⟨[.v (.lst (code.map Ins.d)), .v (dS "m"), .od (ksD 65 ((Ins.load x m).cels.foldl dd F)) (vsD ((Ins.load x m).cels.foldl dd F)), .v (Ins.load x m).d, .v (dS "rm"), .v (.int 1)], ?_, _, _, _, rfl⟩
      simp [forB_nm, Ins.d, h.c7, fl6, s2, rngD, forD, ff1, ff2, Ins.cels, p0]
    | prt x =>
      refine ⟨[.v (.lst (code.map Ins.d)), .v (dS "m"), .od (ksD 65 ((Ins.prt x).cels.foldl dd F)) (vsD ((Ins.prt x).cels.foldl dd F)), .v (Ins.prt x).d, .v (dS "r"), .v (.int 0)], ?_, _, _, _, rfl⟩
      simp [forB_nm, Ins.d, h.c7, fl7, s1, rngD, forD, fg1, Ins.cels]
    | tst x q =>
      refine ⟨[.v (.lst (code.map Ins.d)), .v (dS "m"), .od (ksD 65 ((Ins.tst x q).cels.foldl dd F)) (vsD ((Ins.tst x q).cels.foldl dd F)), .v (Ins.tst x q).d, .v (dS "rp"), .v (.int 1)], ?_, _, _, _, rfl⟩
      simp [forB_nm, Ins.d, h.c7, fl8, s2, rngD, forD, fh1, fh2, Ins.cels]
    | jump q =>
      refine ⟨[.v (.lst (code.map Ins.d)), .v (dS "m"), .od (ksD 65 ((Ins.jump q).cels.foldl dd F)) (vsD ((Ins.jump q).cels.foldl dd F)), .v (Ins.jump q).d, .v (dS "p"), .v (.int 0)], ?_, _, _, _, rfl⟩
      simp [forB_nm, Ins.d, h.c7, fl9, s1, rngD, forD, fi1, Ins.cels]
    | ask x m y =>
      refine ⟨[.v (.lst (code.map Ins.d)), .v (dS "m"), .od (ksD 65 ((Ins.ask x m y).cels.foldl dd F)) (vsD ((Ins.ask x m y).cels.foldl dd F)), .v (Ins.ask x m y).d, .v (dS "rmr"), .v (.int 2)], ?_, _, _, _, rfl⟩
      simp [forB_nm, Ins.d, h.c7, fl10, s3, rngD, forD, fj1, fj2, fj3, Ins.cels]
    )
  simp
theorem set_nd {b : Nat} {L : List Nat} (hL : L.Nodup) : (setOfD (L.map (lt b))).length = L.length := by
  have fm : ∀ L : List Nat, (L.map (lt b)).filterMap keyK = L.map fun x => .inr (sg b x) := by
    intro L
    induction L with
    | nil => rfl
    | cons x L ih => rw [List.map_cons, List.filterMap_cons, ih]; rfl
  have key : ∀ (L : List Nat) (acc : List Nat), (∀ x ∈ L, x ∉ acc) → L.Nodup → (L.map fun x => (Sum.inr (sg b x) : L2.Key)).foldl putKy (acc.map fun x => .inr (sg b x)) = (acc ++ L).map fun x => .inr (sg b x) := by
    intro L
    induction L with
    | nil => intro acc _ _; simp
    | cons x L ih =>
      intro acc h1 h2
      have nd := List.nodup_cons.mp h2
      rw [List.map_cons, List.foldl_cons]
      have pk : putKy (acc.map fun x => (Sum.inr (sg b x) : L2.Key)) (.inr (sg b x)) = (acc ++ [x]).map fun x => .inr (sg b x) := by
        unfold putKy
        rw [if_neg]
        · simp
        · intro hh
          obtain ⟨y, hy, e⟩ := List.any_eq_true.mp hh
          obtain ⟨z, hz, rfl⟩ := List.mem_map.mp hy
          have e2 : sg b x = sg b z := of_decide_eq_true e
          exact h1 x List.mem_cons_self (sg_inj.mp e2 ▸ hz)
      rw [pk, ih (acc ++ [x]) (fun y hy m => by
        rcases List.mem_append.mp m with m | m
        · exact h1 y (List.mem_cons_of_mem _ hy) m
        · rw [List.mem_singleton.mp m] at hy; exact nd.1 hy) nd.2]
      simp
  unfold setOfD
  rw [fm]
  have := key L [] (fun _ _ m => (nomatch m)) hL
  rw [show (([] : List Nat).map fun x => (Sum.inr (sg b x) : L2.Key)) = [] from rfl] at this
  rw [this]
  simp
include h in
theorem init_eq (k : Nat) {w : Nat} (hw : isW w) {d : Dr w} (hd : d.ok) : denN (G (k + 3)) (Str.ofString "Piece") 12 cb_Piece___init__ [.int w, .lst (d.code.map Ins.d), .lst (d.ins.map (lt 97)), .lst (d.outs.map (lt 97))] = .ok (.oi (Str.ofString "Piece") [Str.ofString "width", Str.ofString "code", Str.ofString "inputs", Str.ofString "outputs", Str.ofString "registers", Str.ofString "cells"]
  [.int w, .tup (d.code.map Ins.d), .tup (d.ins.map (lt 97)), .tup (d.outs.map (lt 97)), .tup ((mkP w d.code d.ins d.outs).nm.map (lt 97)), .tup ((mkP w d.code d.ins d.outs).cl.map (lt 65))]) := by
  have hl := hd.len
  have wi : denD (G (k + 2)) 2 cb_within [.int w, .int 3] = .ok (.v (.bl true)) := within_eq (by omega) (by rcases hw with rfl | rfl | rfl <;> decide)
  have w0 : ¬ w = 0 := by rcases hw with rfl | rfl | rfl <;> decide
  have sm : small62 (d.code.length : Int) = true := small62_nat (by omega)
  rw [denN_eq]
  simp [cb_Piece___init__, h.f54, wi, w0, h.c6, sm, show ¬ ((24 : Int) < (d.code.length : Int)) by omega]
  generalize e1 : forD _ _ _ = r1
  obtain ⟨α1, rfl, s5, rfl⟩ := forD_eq e1 (fun (_ : Unit) _ => ()) (fun _ β => ∃ s5, β = [.oi (Str.ofString "Piece") [] [], .v (.int w), .v (.lst (d.code.map Ins.d)), .v (.lst (d.ins.map (lt 97))), .v (.lst (d.outs.map (lt 97))), s5, .un, .un, .un, .un, .un, .un]) () ⟨_, rfl⟩ (by
    intro x hx _ β ⟨s5, e⟩
    subst e
    obtain ⟨i, hi, rfl⟩ := rngD_mem hx
    have gi : (d.code.map Ins.d)[i]? = some (d.code[i]).d := by rw [List.getElem?_map, List.getElem?_eq_getElem hi]; rfl
    have ve := valid_eq h k hd.nm hd.cl (hd.code _ (List.getElem_mem hi))
    refine ⟨[.oi (Str.ofString "Piece") [] [], .v (.int w), .v (.lst (d.code.map Ins.d)), .v (.lst (d.ins.map (lt 97))), .v (.lst (d.outs.map (lt 97))), .v (.int i), .un, .un, .un, .un, .un, .un], .inl ?_, _, rfl⟩
    simp [forB_nm, gi, h.f56, ve])
  have gF (L : List Nat) (hL : ∀ x ∈ L, x < 26) (s6 s7 s8 : SV) := lcGo_fo (turn := lcT (G (k + 3)) (.nm 11) (.some (.call 53 (.cons (.var 11) (.cons (.con 2) .nil)))) (.var 11)) (own := [10, 11]) (lt 97) (fun _ => true) L [.oi (Str.ofString "Piece") [] [], .v (.int w), .v (.lst (d.code.map Ins.d)), .v (.lst (d.ins.map (lt 97))), .v (.lst (d.outs.map (lt 97))), s5, s6, s7, s8, .un, .un, .un] (fun x hx => ⟨[.oi (Str.ofString "Piece") [] [], .v (.int w), .v (.lst (d.code.map Ins.d)), .v (.lst (d.ins.map (lt 97))), .v (.lst (d.outs.map (lt 97))), s5, s6, s7, s8, .un, .un, .v (lt 97 x)], by
    simp [lcT, h.f53, h.c2, one_sm (hL x hx)], rfl⟩)
  have sF (L : List Nat) (s6 s7 s8 : SV) := lcGo_of (turn := scT (G (k + 3)) (.nm 11) (.var 11)) (own := [10, 11]) (lt 97) (lt 97) L [.oi (Str.ofString "Piece") [] [], .v (.int w), .v (.lst (d.code.map Ins.d)), .v (.lst (d.ins.map (lt 97))), .v (.lst (d.outs.map (lt 97))), s5, s6, s7, s8, .un, .un, .un] (fun x hx => ⟨[.oi (Str.ofString "Piece") [] [], .v (.int w), .v (.lst (d.code.map Ins.d)), .v (.lst (d.ins.map (lt 97))), .v (.lst (d.outs.map (lt 97))), s5, s6, s7, s8, .un, .un, .v (lt 97 x)], by
    simp [scT], rfl⟩)
  have ft (L : List Nat) : L.filter (fun _ => true) = L := List.filter_eq_self.mpr fun _ _ => rfl
  have so (L : List Nat) (hL : L.Nodup) : (setOfD (L.map (lt 97))).length = L.length := set_nd hL
  have fk (L : List Nat) : (L.map (lt 97)).all flatKey = true := ks_flat (b := 97) L
  have i26 : ∀ x ∈ d.ins, x < 26 := fun x m => hd.nm x (hd.insm x m)
  have o26 : ∀ x ∈ d.outs, x < 26 := fun x m => hd.nm x (hd.outsm x m)
  have il := hd.ins
  have ol := hd.outs
  obtain ⟨RR, hRR⟩ : ∃ RR, RR = (d.code.flatMap Ins.regs).foldl dd [] := ⟨_, rfl⟩
  obtain ⟨CC, hCC⟩ : ∃ CC, CC = (d.code.flatMap Ins.cels).foldl dd [] := ⟨_, rfl⟩
  have nr := named_r h (k + 2) hl
  have nmm := named_m h (k + 2) hl
  rw [← hRR] at nr
  rw [← hCC] at nmm
  have r1l := regs_fl d.code
  have c1l := cels_fl d.code
  have rl : RR.length ≤ 96 := by rw [hRR]; have := fold_dd_len (d.code.flatMap Ins.regs) []; rw [List.length_nil] at this; omega
  have cl' : CC.length ≤ 24 := by rw [hCC]; have := fold_dd_len (d.code.flatMap Ins.cels) []; rw [List.length_nil] at this; omega
  obtain ⟨LL, hLL⟩ : ∃ LL, LL = RR ++ d.ins ++ d.outs := ⟨_, rfl⟩
  have lst : ksD 97 RR ++ (d.ins.map (lt 97) ++ d.outs.map (lt 97)) = LL.map (lt 97) := by rw [hLL]; simp [ksD]
  have Ll : LL.length ≤ 130 := by rw [hLL]; simp; omega
  have dcF (o0 o1 o2 o3 o4 o5 o6 o7 o8 o9 : SV) := dc_dd (b := 97) (turn := dcT (G (k + 3)) (.nm 11) (.var 11) (.lit (.bl true))) (own := [10, 11]) LL [] [o0, o1, o2, o3, o4, o5, o6, o7, o8, o9, .un, .un] (fun x hx => ⟨[o0, o1, o2, o3, o4, o5, o6, o7, o8, o9, .un, .v (lt 97 x)], by
    simp [dcT], rfl⟩) (by simp; omega)
  have dcF' (o0 o1 o2 o3 o4 o5 o6 o7 o8 o9 : SV) : dcGo (dcT (G (k + 3)) (.nm 11) (.var 11) (.lit (.bl true))) [10, 11] (LL.map (lt 97)) [o0, o1, o2, o3, o4, o5, o6, o7, o8, o9, .un, .un] ([], []) = _ := dcF o0 o1 o2 o3 o4 o5 o6 o7 o8 o9
  have FFl := fold_dd_len LL []
  have LLm : ∀ x, x ∈ LL.foldl dd [] ↔ x ∈ d.ins ++ d.outs ++ d.code.flatMap Ins.regs := fun x => by
    rw [fold_dd_mem, hLL, hRR]
    simp only [List.mem_append, fold_dd_mem, List.not_mem_nil, false_or]
    exact ⟨fun h => h.elim (fun h => h.elim (fun h => .inr h) fun h => .inl (.inl h)) fun h => .inl (.inr h), fun h => h.elim (fun h => h.elim (fun h => .inl (.inr h)) fun h => .inr h) fun h => .inl (.inl h)⟩
  have r26 : ∀ x ∈ d.code.flatMap Ins.regs, x < 26 := fun x hx => by
    obtain ⟨i, hi, m⟩ := List.mem_flatMap.mp hx
    exact hd.nm x (regs_mem (hd.code i hi) x m)
  have c26 : ∀ x ∈ d.code.flatMap Ins.cels, x < 26 := fun x hx => by
    obtain ⟨i, hi, m⟩ := List.mem_flatMap.mp hx
    exact hd.cl x (cels_mem (hd.code i hi) x m)
  have srt : (ksD 97 (LL.foldl dd [])).mergeSort stLe = (mkP w d.code d.ins d.outs).nm.map (lt 97) := by
    rw [sort_eq (.inl rfl) (fold_dd_nodup List.nodup_nil) fun x hx => by
      have := (LLm x).mp hx
      simp only [List.mem_append] at this
      rcases this with (m | m) | m
      · exact i26 x m
      · exact o26 x m
      · exact r26 x m]
    exact congrArg (List.map (lt 97)) (List.filter_congr fun x _ => decide_eq_decide.mpr (LLm x))
  have srtC : (ksD 65 CC).mergeSort stLe = (mkP w d.code d.ins d.outs).cl.map (lt 65) := by
    have cm : ∀ x, x ∈ CC ↔ x ∈ d.code.flatMap Ins.cels := fun x => by rw [hCC, fold_dd_mem]; simp
    rw [sort_eq (.inr rfl) (by rw [hCC]; exact fold_dd_nodup List.nodup_nil) fun x hx => c26 x ((cm x).mp hx)]
    exact congrArg (List.map (lt 65)) (List.filter_congr fun x _ => decide_eq_decide.mpr (cm x))
  generalize LL.foldl dd [] = FF at *
  have sS : op1 (G (k + 3)) .sortS (.ol (ksD 97 FF)) = .ok (.ol ((mkP w d.code d.ins d.outs).nm.map (lt 97))) := by
    show (if (stAll (ksD 97 FF) && okSize (ksD 97 FF).length) = true then Res.ok (SV.ol ((ksD 97 FF).mergeSort stLe)) else .fail) = _
    rw [srt, st_all, ks_len, if_pos (by rw [List.length_nil] at FFl; simp; omega)]
  have sC : op1 (G (k + 3)) .sortS (.ol (ksD 65 CC)) = .ok (.ol ((mkP w d.code d.ins d.outs).cl.map (lt 65))) := by
    show (if (stAll (ksD 65 CC) && okSize (ksD 65 CC).length) = true then Res.ok (SV.ol ((ksD 65 CC).mergeSort stLe)) else .fail) = _
    rw [srtC, st_all, ks_len, if_pos (by simp; omega)]
  have tot := mk_tot hd
  have hpl : atR ([D.int 0, .int 6, .int 4, .int 3][w]?) = .ok (.v (.int (plc w))) := by rcases hw with rfl | rfl | rfl <;> rfl
  generalize (mkP w d.code d.ins d.outs).nm = NN at *
  generalize (mkP w d.code d.ins d.outs).cl = KK at *
  simp [forD, forB, kk_ok, asg, asg.go, gF _ i26, gF _ o26, sF, ft, so _ hd.insN, so _ hd.outsN, fk, show d.ins.length ≤ 16777216 by omega, show d.outs.length ≤ 16777216 by omega, show d.ins.length < 4095 by omega, show d.outs.length < 4095 by omega, show ¬ ((3 : Int) < (d.ins.length : Int)) by omega, show ¬ ((2 : Int) < (d.outs.length : Int)) by omega, h.f57, nr, nmm, ks_len, show RR.length + d.ins.length ≤ 16777216 by omega, show RR.length + (d.ins.length + d.outs.length) ≤ 16777216 by omega, show LL.length ≤ 16777216 by omega, lst, dcF', sS, sC, hpl, h.c5, h.d_Piece_width, h.d_Piece_code, h.d_Piece_inputs, h.d_Piece_outputs, h.d_Piece_registers, h.d_Piece_cells, fieldPut]
  rw [if_neg (by omega)]
  simp [kDN, kk]
end Dv

set_option linter.all false
set_option maxRecDepth 100000
set_option maxHeartbeats 8000000
/-! a text that may raise gives what the text without its raises gives -/
namespace Dv
open PySem
mutual
inductive RefS : CS → XS → Prop
  | nev {x : XS} : RefS .nev x
  | pl {s : CS} : RefS s (.pl s)
  | cond {c : CE} {a b : CB} {a' b' : XB} : RefB a a' → RefB b b' → RefS (.cond c a b) (.cond c a' b')
  | forS {t : Tgt} {it : CI} {a : CB} {a' : XB} : RefB a a' → RefS (.forS t it a) (.forS t it a')
inductive RefB : CB → XB → Prop
  | nil : RefB .nil .nil
  | cons {s : CS} {r : CB} {s' : XS} {r' : XB} : RefS s s' → RefB r r' → RefB (.cons s r) (.cons s' r')
end
section
variable {G : GEnv} {er : Str → Option (List Str)}
theorem forD_ref {b b' : D → AEnv → Res Fl} (h : ∀ d α f, b d α = .ok f → b' d α = .ok f) : ∀ (ds : List D) (α : AEnv) (f : Fl), forD b ds α = .ok f → forD b' ds α = .ok f
  | [], α, f, e => e
  | d :: ds, α, f, e => by
    rw [forD] at e ⊢
    cases q : b d α with
    | ok g =>
      rw [q] at e
      rw [h d α g q]
      cases g with
      | nx α1 => exact forD_ref h ds α1 f e
      | ct α1 => exact forD_ref h ds α1 f e
      | bk α1 => exact e
      | rt r => exact e
    | _ => rw [q] at e; cases e
mutual
theorem refS_ok : ∀ {s : CS} {x : XS}, RefS s x → ∀ {α : AEnv} {f : Fl}, denS G s α = .ok f → denXS G er x α = .ok f
  | _, _, .nev, α, f, e => by rw [denS] at e; cases e
  | _, _, .pl, α, f, e => by rw [denXS, e]; rfl
  | _, _, .cond ha hb, α, f, e => by
    rw [denS] at e
    rw [denXS]
    obtain ⟨⟨t, α1⟩, e1, e⟩ := Res.bind_ok e
    rw [e1]
    show (if t = true then _ else _) = _
    cases t with
    | true => exact refB_ok ha e
    | false => exact refB_ok hb e
  | _, _, .forS (t := t) ha, α, f, e => by
    rw [denS] at e
    rw [denXS]
    obtain ⟨⟨xs, α1⟩, e1, e⟩ := Res.bind_ok e
    rw [e1]
    refine forD_ref (fun d β g q => ?_) xs α1 f e
    obtain ⟨β1, q1, q⟩ := Res.bind_ok q
    show (noX (asg t d β) >>= _) = _
    rw [q1]
    exact refB_ok ha q
theorem refB_ok : ∀ {s : CB} {x : XB}, RefB s x → ∀ {α : AEnv} {f : Fl}, denB G s α = .ok f → denXB G er x α = .ok f
  | _, _, .nil, α, f, e => by rw [denB] at e; rw [denXB]; exact e
  | _, _, .cons hs hr, α, f, e => by
    rw [denB] at e
    rw [denXB]
    obtain ⟨g, e1, e⟩ := Res.bind_ok e
    rw [refS_ok hs e1]
    cases g with
    | nx α1 => exact refB_ok hr e
    | _ => exact e
end
theorem refN {x : Str} {n : Nat} {b : CB} {b' : XB} {ds : List D} {r : SV} (hr : RefB b b') (e : denN G x n b ds = .ok r) : denNX G er x n b' ds = .ok r := by
  obtain ⟨ns, es, α, e1, rfl⟩ := denN_ok e
  rw [denNX_eq, refB_ok hr e1]
  simp
end
theorem ref_init : RefB cb_Piece___init__ cx_Piece___init__ := by
  unfold cb_Piece___init__ cx_Piece___init__
  refine .cons (.cond (.cons .nev .nil) .nil) (.cons (.forS (.cons (.cond (.cons .nev .nil) .nil) .nil)) (.cons (.forS (.cons .pl (.cons (.cond (.cons .nev .nil) .nil) .nil))) (.cons .pl (.cons .pl (.cons .pl (.cons .pl (.cons .pl (.cons .pl (.cons .pl (.cons (.cond (.cons .nev .nil) .nil) .nil))))))))))
variable {G : Nat → GEnv} (h : PGv G) {er : Str → Option (List Str)}
include h in
theorem init_good (k : Nat) {w : Nat} (hw : isW w) {d : Dr w} (hd : d.ok) : denNX (G (k + 3)) er (Str.ofString "Piece") 12 cx_Piece___init__ [.int w, .lst (d.code.map Ins.d), .lst (d.ins.map (lt 97)), .lst (d.outs.map (lt 97))] = .ok (.oi (Str.ofString "Piece") [Str.ofString "width", Str.ofString "code", Str.ofString "inputs", Str.ofString "outputs", Str.ofString "registers", Str.ofString "cells"]
  [.int w, .tup (d.code.map Ins.d), .tup (d.ins.map (lt 97)), .tup (d.outs.map (lt 97)), .tup ((mkP w d.code d.ins d.outs).nm.map (lt 97)), .tup ((mkP w d.code d.ins d.outs).cl.map (lt 65))]) := refN ref_init (init_eq h k hw hd)
/-- a loop whose turn p raises -/
theorem forD_exc {b : D → AEnv → Res Fl} {c : Str} {ns : List Str} {vs : List D} (R : Nat → AEnv → Prop) : ∀ (n : Nat) (i p : Nat) (α : AEnv), R i α → i ≤ p → p < i + n → (∀ j β, i ≤ j → j < p → R j β → ∃ β', b (.int j) β = .ok (.nx β') ∧ R (j + 1) β') → (∀ β, R p β → b (.int p) β = .exc c ns vs) →
    forD b (rngD i n) α = .exc c ns vs
  | 0, i, p, α, _, h1, h2, _, _ => by omega
  | n + 1, i, p, α, hR, h1, h2, st, ex => by
    rw [rngD, forD]
    by_cases hp : i = p
    · subst hp
      rw [ex α hR]
    · obtain ⟨β', e, hR'⟩ := st i α (Nat.le_refl _) (by omega) hR
      rw [e]
      have := forD_exc R n (i + 1) p β' hR' (by omega) (by omega) (fun j β h3 h4 h5 => st j β (by omega) h4 h5) ex
      simpa using this
include h in
theorem init_bad (k : Nat) {w : Nat} (hw : isW w) {ds : List D} (hl : ds.length ≤ 24) {p : Nat} (hp : p < ds.length) (hv : ∀ (i : Nat) (d : D), i < p → ds[i]? = some d → denD (G (k + 2)) 5 cb_valid [d, .int ds.length] = .ok (.v (.bl true))) (hb : ∀ d, ds[p]? = some d → denD (G (k + 2)) 5 cb_valid [d, .int ds.length] = .ok (.v (.bl false)))
    (he : er (Str.ofString "BadPiece") = some [Str.ofString "point"]) (x y : D) : denNX (G (k + 3)) er (Str.ofString "Piece") 12 cx_Piece___init__ [.int w, .lst ds, x, y] = .exc (Str.ofString "BadPiece") [Str.ofString "point"] [.int p] := by
  have wi : denD (G (k + 2)) 2 cb_within [.int w, .int 3] = .ok (.v (.bl true)) := within_eq (by omega) (by rcases hw with rfl | rfl | rfl <;> decide)
  have w0 : ¬ w = 0 := by rcases hw with rfl | rfl | rfl <;> decide
  have sm : small62 (ds.length : Int) = true := small62_nat (by omega)
  rw [denNX_eq]
  simp [cx_Piece___init__, h.f54, wi, w0, h.c6, sm, show ¬ ((24 : Int) < (ds.length : Int)) by omega]
  rw [show (rngD 0 ds.length) = rngD (0 : Nat) ds.length from rfl, forD_exc (c := Str.ofString "BadPiece") (ns := [Str.ofString "point"]) (vs := [.int p]) (fun _ β => ∃ s5, β = [.oi (Str.ofString "Piece") [] [], .v (.int w), .v (.lst ds), .v x, .v y, s5, .un, .un, .un, .un, .un, .un]) ds.length 0 p _ ⟨_, rfl⟩ (Nat.zero_le _) (by omega) (fun j β _ hj ⟨s5, e⟩ => ?_) (fun β ⟨s5, e⟩ => ?_)]
  · simp
  · subst e
    have hj' : j < ds.length := by omega
    have gi : ds[j]? = some ds[j] := List.getElem?_eq_getElem hj'
    have ve := hv j _ hj gi
    refine ⟨[.oi (Str.ofString "Piece") [] [], .v (.int w), .v (.lst ds), .v x, .v y, .v (.int j), .un, .un, .un, .un, .un, .un], ?_, _, rfl⟩
    simp [forX, gi, h.f56, ve]
  · subst e
    have gi : ds[p]? = some ds[p] := List.getElem?_eq_getElem hp
    have ve := hb _ gi
    simp [forX, gi, h.f56, ve, he]
end Dv

set_option linter.all false
set_option maxRecDepth 100000
set_option maxHeartbeats 8000000
/-! texts that stand in each law: draws, rows -/
namespace Dv
open PySem
def cbS_draws : CB := (bk [
  .set 2 (.lst .nil),
  .set 3 (.p2 .add (.lit (.int 17)) (.p1 .len (.var 0))),
  .forS (.nm 4) (.rng (.p1 .len (.var 0))) (bk [
    .set 5 (.p1 .abs (.p2 .idx (.var 0) (.var 4))),
    .set 3 (.p2 .mod (.p1 .int (.p2 .add (.p2 .mul (.var 3) (.lit (.int 31))) (.p2 .mod (.p1 .int (.var 5)) (.lit (.int 1000003))))) (.lit (.int 2147483647))),
    .cond (.p2 .ge (.var 5) (.p2 .pow (.lit (.int 10)) (.lit (.int 18)))) (bk [
      .forS (.nm 6) (.rng (.lit (.int 60))) (bk [
        .cond (.p2 .gt (.var 5) (.lit (.int 0))) (bk [
          .app 2 (.p2 .mod (.p1 .int (.var 5)) (.lit (.int 23328))),
          .set 5 (.p2 .fdiv (.var 5) (.lit (.int 23328)))]) .nil])]) (bk [
      .forS (.nm 6) (.rng (.lit (.int 3))) (bk [
        .set 7 (.p2 .mod (.p1 .int (.p2 .add (.p2 .add (.p2 .add (.p2 .mul (.var 5) (.lit (.int 48271))) (.p2 .mul (.var 6) (.lit (.int 69621)))) (.p2 .mul (.var 4) (.lit (.int 7919)))) (.lit (.int 11)))) (.lit (.int 2147483647))),
        .set 8 (.p2 .mod (.p1 .int (.p2 .add (.p2 .mul (.var 7) (.lit (.int 16807))) (.p2 .fdiv (.var 7) (.lit (.int 65536))))) (.lit (.int 2147483629))),
        .app 2 (.p2 .mod (.p1 .int (.p2 .fdiv (.var 8) (.lit (.int 7)))) (.lit (.int 23328)))])])]),
  .forS (.nm 6) (.rng (.var 1)) (bk [
    .set 7 (.p2 .mod (.p1 .int (.p2 .add (.p2 .add (.p2 .mul (.var 3) (.lit (.int 48271))) (.p2 .mul (.var 6) (.lit (.int 69621)))) (.lit (.int 5)))) (.lit (.int 2147483647))),
    .set 8 (.p2 .mod (.p1 .int (.p2 .add (.p2 .mul (.var 7) (.lit (.int 16807))) (.p2 .fdiv (.var 7) (.lit (.int 65536))))) (.lit (.int 2147483629))),
    .app 2 (.p2 .mod (.p1 .int (.p2 .fdiv (.var 8) (.lit (.int 7)))) (.lit (.int 23328)))]),
  .ret (.slice (.var 2) .none (.some (.var 1)))])
def cbS_row_of : CB := (bk [
  .set 6 (.lst (.cons (.lit (.str "+")) (.cons (.lit (.str "-")) (.cons (.lit (.str "*")) (.cons (.lit (.str "&")) (.cons (.lit (.str "=")) (.cons (.lit (.str "<")) (.cons (.lit (.str "+!")) (.cons (.lit (.str "-!")) .nil))))))))),
  .set 7 (.p2 .idx (.var 2) (.p2 .mod (.p1 .int (.p2 .fdiv (.var 0) (.lit (.int 12)))) (.p1 .len (.var 2)))),
  .set 8 (.p2 .idx (.var 2) (.p2 .mod (.p1 .int (.p2 .fdiv (.var 0) (.lit (.int 36)))) (.p1 .len (.var 2)))),
  .set 9 (.p2 .idx (.var 2) (.p2 .mod (.p1 .int (.p2 .fdiv (.var 0) (.lit (.int 108)))) (.p1 .len (.var 2)))),
  .set 10 (.p2 .mod (.p1 .int (.p2 .fdiv (.var 0) (.lit (.int 324)))) (.lit (.int 72))),
  .set 11 (.p2 .idx (.var 3) (.p2 .mod (.p1 .int (.var 10)) (.p1 .len (.var 3)))),
  .set 12 (.dct (.cons (.lit (.str "put")) (.tup (.cons (.lit (.str "put")) (.cons (.var 7) (.cons (.p2 .mod (.p1 .int (.var 10)) (.lit (.int 8))) .nil)))) (.cons (.lit (.str "step")) (.tup (.cons (.lit (.str "step")) (.cons (.var 7) (.cons (.p2 .idx (.var 6) (.p2 .mod (.p1 .int (.var 10)) (.lit (.int 8)))) (.cons (.var 8) (.cons (.var 9) .nil)))))) .nil))),
  .put 12 (.lit (.str "vow")) (.tup (.cons (.lit (.str "step")) (.cons (.var 7) (.cons (.p2 .idx (.var 6) (.p2 .add (.lit (.int 6)) (.p2 .mod (.p1 .int (.var 10)) (.lit (.int 2))))) (.cons (.var 8) (.cons (.var 9) .nil)))))),
  .put 12 (.lit (.str "select")) (.tup (.cons (.lit (.str "select")) (.cons (.var 7) (.cons (.var 8) (.cons (.var 9) (.cons (.p2 .idx (.var 2) (.p2 .mod (.p1 .int (.var 10)) (.p1 .len (.var 2)))) .nil)))))),
  .put 12 (.lit (.str "merge")) (.tup (.cons (.lit (.str "merge")) (.cons (.var 7) (.cons (.var 8) .nil)))),
  .put 12 (.lit (.str "firm")) (.tup (.cons (.lit (.str "firm")) (.cons (.var 7) (.cons (.var 8) .nil)))),
  .put 12 (.lit (.str "store")) (.tup (.cons (.lit (.str "store")) (.cons (.var 11) (.cons (.var 8) .nil)))),
  .put 12 (.lit (.str "load")) (.tup (.cons (.lit (.str "load")) (.cons (.var 7) (.cons (.var 11) .nil)))),
  .put 12 (.lit (.str "print")) (.tup (.cons (.lit (.str "print")) (.cons (.var 8) .nil))),
  .put 12 (.lit (.str "test")) (.tup (.cons (.lit (.str "test")) (.cons (.var 8) (.cons (.p2 .mod (.p1 .int (.var 10)) (.p2 .add (.var 1) (.lit (.int 1)))) .nil)))),
  .put 12 (.lit (.str "jump")) (.tup (.cons (.lit (.str "jump")) (.cons (.p2 .mod (.p1 .int (.var 10)) (.p2 .add (.var 1) (.lit (.int 1)))) .nil))),
  .put 12 (.lit (.str "ask")) (.tup (.cons (.lit (.str "ask")) (.cons (.var 7) (.cons (.p2 .idx (.var 4) (.p2 .mod (.p1 .int (.var 10)) (.p1 .len (.var 4)))) (.cons (.var 8) .nil))))),
  .ret (.p2 .idx (.var 12) (.p2 .idx (.var 5) (.p2 .mod (.p2 .mod (.p1 .int (.var 0)) (.lit (.int 12))) (.p1 .len (.var 5)))))])
theorem drawsS {G : GEnv} {c : Nat} (hc : c ≤ 1000) (ns : List Int) (hn : ns.length ≤ 63) : ∃ ds : List Int, ds.length = c ∧ denD G 9 cbS_draws [.lst (dI ns), .int c] = .ok (.ol (dI ds)) := by
  have sm : small62 (ns.length : Int) = true := small62_nat (by omega)
  have sm60 : small62 60 = true := by decide
  have sm3 : small62 3 = true := by decide
  have sm42 : small62 (c : Int) = true := small62_nat (by omega)
  rw [denD_eq]
  show ∃ ds : List Int, ds.length = c ∧ kDD (denB G cbS_draws [.v (.lst (dI ns)), .v (.int c), .un, .un, .un, .un, .un, .un, .un]) = _
  have f1 : denS G (.set 2 (.lst .nil)) [.v (.lst (dI ns)), .v (.int c), .un, .un, .un, .un, .un, .un, .un] = .ok (.nx [.v (.lst (dI ns)), .v (.int c), .ol [], .un, .un, .un, .un, .un, .un]) := by simp
  have f2 : ∃ sd : Int, denS G (.set 3 (.p2 .add (.lit (.int 17)) (.p1 .len (.var 0)))) [.v (.lst (dI ns)), .v (.int c), .ol [], .un, .un, .un, .un, .un, .un] = .ok (.nx [.v (.lst (dI ns)), .v (.int c), .ol [], .v (.int sd), .un, .un, .un, .un, .un]) := ⟨_, by simp; rfl⟩
  obtain ⟨sd, f2⟩ := f2
  rw [cbS_draws, denB_bk, f1, kB_nx, denB_bk, f2, kB_nx]
  simp [sm]
  generalize e1 : forD _ _ _ = r1
  obtain ⟨α1, rfl, acc, seed, s4, s5, s6, s7, s8, hl, rfl⟩ := forD_cn e1 (fun m β => ∃ (acc : List Int) (seed : Int) (s4 s5 s6 s7 s8 : SV), acc.length ≤ 60 * m ∧ β = [.v (.lst (dI ns)), .v (.int c), .ol (dI acc), .v (.int seed), s4, s5, s6, s7, s8]) ⟨[], _, _, _, _, _, _, by simp, rfl⟩ (by
    intro d hd m β hm ⟨acc, seed, s4, s5, s6, s7, s8, hl, e⟩
    subst e
    obtain ⟨i, hi', rfl⟩ := rngD_mem hd
    have gi : (dI ns)[i]? = some (.int ns[i]) := by unfold dI; rw [List.getElem?_map, List.getElem?_eq_getElem hi']; rfl
    rw [rngD_len] at hm
    generalize hv : (if ns[i] < 0 then -ns[i] else ns[i]) = v
    by_cases big : 1000000000000000000 ≤ v
    · simp [forB_nm, gi, hv, big, sm60]
      generalize e2 : forD _ _ _ = r2
      generalize hsd : (seed * 31 + v % 1000003) % 2147483647 = sd2 at e2
      obtain ⟨α1, rfl, acc', v', s6, s7, s8, hl', rfl⟩ := forD_cn e2 (fun m' β => ∃ (acc' : List Int) (v : Int) (s6 s7 s8 : SV), acc'.length ≤ 60 * m + m' ∧ β = [.v (.lst (dI ns)), .v (.int c), .ol (dI acc'), .v (.int sd2), .v (.int i), .v (.int v), s6, s7, s8]) ⟨acc, _, _, _, _, by simpa using hl, rfl⟩ (by
        intro d hd m' β hm' ⟨acc', v', s6, s7, s8, hl', e⟩
        subst e
        rw [rngD_len] at hm'
        by_cases pos : 0 < v'
        · simp [forB_nm, pos, show acc'.length < 16777216 by omega, dI_app]
          exact ⟨acc' ++ [v' % 23328], by simp; omega, rfl⟩
        · simp [forB_nm, pos]
          exact ⟨acc', by omega, rfl⟩)
      rw [rngD_len] at hl'
      simp only [kB_nx, denB_bk0]
      exact ⟨_, rfl, acc', by omega, _, _, _, _, _, _, rfl⟩
    · simp [forB_nm, gi, hv, big, sm3]
      generalize e2 : forD _ _ _ = r2
      generalize hsd : (seed * 31 + v % 1000003) % 2147483647 = sd2 at e2
      obtain ⟨α1, rfl, acc', s6, s7, s8, hl', rfl⟩ := forD_cn e2 (fun m' β => ∃ (acc' : List Int) (s6 s7 s8 : SV), acc'.length ≤ 60 * m + m' ∧ β = [.v (.lst (dI ns)), .v (.int c), .ol (dI acc'), .v (.int sd2), .v (.int i), .v (.int v), s6, s7, s8]) ⟨acc, _, _, _, by simpa using hl, rfl⟩ (by
        intro d hd m' β hm' ⟨acc', s6, s7, s8, hl', e⟩
        subst e
        obtain ⟨j, hj, rfl⟩ := rngD_mem hd
        rw [rngD_len] at hm'
        have g1 : ∃ x : Int, denS G (.set 7 (.p2 .mod (.p1 .int (.p2 .add (.p2 .add (.p2 .add (.p2 .mul (.var 5) (.lit (.int 48271))) (.p2 .mul (.var 6) (.lit (.int 69621)))) (.p2 .mul (.var 4) (.lit (.int 7919)))) (.lit (.int 11)))) (.lit (.int 2147483647)))) [.v (.lst (dI ns)), .v (.int c), .ol (dI acc'), .v (.int sd2), .v (.int i), .v (.int v), .v (.int j), s7, s8] = .ok (.nx [.v (.lst (dI ns)), .v (.int c), .ol (dI acc'), .v (.int sd2), .v (.int i), .v (.int v), .v (.int j), .v (.int x), s8]) := ⟨_, by simp; rfl⟩
        obtain ⟨x, g1⟩ := g1
        rw [forB_nm, if_pos (by simp)]
        show ∃ α', denB G (bk _) [.v (.lst (dI ns)), .v (.int c), .ol (dI acc'), .v (.int sd2), .v (.int i), .v (.int v), .v (.int j), s7, s8] = _ ∧ _
        rw [denB_bk, g1, kB_nx]
        simp [show acc'.length < 16777216 by omega, dI_app]
        generalize (x * 16807 + x / 65536) % 2147483629 = y
        exact ⟨acc' ++ [y / 7 % 23328], by simp; omega, rfl⟩)
      rw [rngD_len] at hl'
      simp only [kB_nx, denB_bk0]
      exact ⟨_, rfl, acc', by omega, _, _, _, _, _, _, rfl⟩)
  rw [rngD_len] at hl
  simp [sm42]
  generalize e2 : forD _ _ _ = r2
  obtain ⟨α1, rfl, acc', s6, s7, s8, hl', hl2, rfl⟩ := forD_cn e2 (fun m' β => ∃ (acc' : List Int) (s6 s7 s8 : SV), m' ≤ acc'.length ∧ acc'.length ≤ 60 * ns.length + m' ∧ β = [.v (.lst (dI ns)), .v (.int c), .ol (dI acc'), .v (.int seed), s4, s5, s6, s7, s8]) ⟨acc, _, _, _, Nat.zero_le _, by simpa using hl, rfl⟩ (by
    intro d hd m' β hm' ⟨acc', s6, s7, s8, hl', hl2, e⟩
    subst e
    obtain ⟨j, hj, rfl⟩ := rngD_mem hd
    rw [rngD_len] at hm'
    have g1 : ∃ x : Int, denS G (.set 7 (.p2 .mod (.p1 .int (.p2 .add (.p2 .add (.p2 .mul (.var 3) (.lit (.int 48271))) (.p2 .mul (.var 6) (.lit (.int 69621)))) (.lit (.int 5)))) (.lit (.int 2147483647)))) [.v (.lst (dI ns)), .v (.int c), .ol (dI acc'), .v (.int seed), s4, s5, .v (.int j), s7, s8] = .ok (.nx [.v (.lst (dI ns)), .v (.int c), .ol (dI acc'), .v (.int seed), s4, s5, .v (.int j), .v (.int x), s8]) := ⟨_, by simp; rfl⟩
    obtain ⟨x, g1⟩ := g1
    rw [forB_nm, if_pos (by simp)]
    show ∃ α', denB G (bk _) [.v (.lst (dI ns)), .v (.int c), .ol (dI acc'), .v (.int seed), s4, s5, .v (.int j), s7, s8] = _ ∧ _
    rw [denB_bk, g1, kB_nx]
    simp [show acc'.length < 16777216 by omega, dI_app]
    generalize (x * 16807 + x / 65536) % 2147483629 = y
    exact ⟨acc' ++ [y / 7 % 23328], by simp; omega, by simp; omega, rfl⟩)
  rw [rngD_len] at hl'
  refine ⟨acc'.take c, by simp; omega, ?_⟩
  simp [dI]
/-- letters in a list or a text -/
structure Lets (G : GEnv) (N : D) (b : Nat) (nm : List Nat) : Prop where
  len : op1 G .len (.v N) = .ok (.v (.int nm.length))
  ix : ∀ i : Int, ∃ v ∈ nm, op2 G .idx (.v N) (.v (.int (i % (nm.length : Int)))) = .ok (.v (lt b v))
theorem lets_lst {G : GEnv} {b : Nat} {nm : List Nat} (h : nm ≠ []) : Lets G (.lst (nm.map (lt b))) b nm := ⟨by simp, fun i => by
  obtain ⟨v, hv, e⟩ := ixD_mod (lt b) nm h i
  exact ⟨v, hv, by simpa using e⟩⟩
theorem rowS {G : GEnv} (draw : Int) {n : Nat} (hn : n ≤ 100) {N C O : D} {nm cl ho : List Nat} {kd : List String} (lN : Lets G N 97 nm) (lC : Lets G C 65 cl) (lO : Lets G O 65 ho) (h1 : nm ≠ []) (h2 : cl ≠ []) (h3 : ho ≠ []) (h4 : kd ≠ []) (hk : ∀ x ∈ kd, x ∈ allK) (hh : ∀ x ∈ ho, x < 26) :
    ∃ i : Ins, i.ok nm cl n ∧ denD G 13 cbS_row_of [.int draw, .int n, N, C, O, .lst (kd.map dS)] = .ok (.v i.d) := by
  obtain ⟨x, hx, ex⟩ := lN.ix (draw / 12)
  obtain ⟨y, hy, ey⟩ := lN.ix (draw / 36)
  obtain ⟨z, hz, ez⟩ := lN.ix (draw / 108)
  have r0 : 0 ≤ draw / 324 % 72 := Int.emod_nonneg _ (by omega)
  generalize hr : draw / 324 % 72 = r at r0
  obtain ⟨m, hm, em⟩ := lC.ix r
  obtain ⟨t, ht, et⟩ := lN.ix r
  obtain ⟨o, hho, eo⟩ := lO.ix r
  obtain ⟨g, hg, eg⟩ := ixD_mod dS signs (by decide) r
  obtain ⟨q, hq, eq⟩ := ixD_mod dS kd h4 (draw % 12)
  have eg' : ixD [dS "+", dS "-", dS "*", dS "&", dS "=", dS "<", dS "+!", dS "-!"] (r % 8) = .ok (.v (dS g)) := eg
  have ev : ∃ g2 ∈ signs, ixD [dS "+", dS "-", dS "*", dS "&", dS "=", dS "<", dS "+!", dS "-!"] (6 + r % 2) = .ok (.v (dS g2)) := by
    have : r % 2 = 0 ∨ r % 2 = 1 := by omega
    rcases this with e | e <;> rw [e]
    · exact ⟨"+!", by decide, rfl⟩
    · exact ⟨"-!", by decide, rfl⟩
  obtain ⟨g2, hg2, ev⟩ := ev
  have p1 : 0 < nm.length := List.length_pos_iff.mpr h1
  have p2 : 0 < cl.length := List.length_pos_iff.mpr h2
  have p3 : 0 < ho.length := List.length_pos_iff.mpr h3
  have p4 : 0 < kd.length := List.length_pos_iff.mpr h4
  have n0 : (0 : Int) < n + 1 := by omega
  obtain ⟨u, hu⟩ : ∃ u : Nat, r % ((n : Int) + 1) = u := ⟨(r % ((n : Int) + 1)).toNat, by have := Int.emod_nonneg r (show (n : Int) + 1 ≠ 0 by omega); omega⟩
  have un : u ≤ n := by have := Int.emod_lt_of_pos r n0; omega
  have qa := hk q hq
  have r8 : 0 ≤ r % 8 ∧ r % 8 < 8 := by omega
  simp only [allK, List.mem_cons, List.not_mem_nil, or_false] at qa
  have main : ∀ i : Ins, i.ok nm cl n → (denD G 13 cbS_row_of [.int draw, .int n, N, C, O, .lst (kd.map dS)] = .ok (.v i.d)) → ∃ i : Ins, i.ok nm cl n ∧ denD G 13 cbS_row_of [.int draw, .int n, N, C, O, .lst (kd.map dS)] = .ok (.v i.d) := fun i a b => ⟨i, a, b⟩
  have val : denD G 13 cbS_row_of [.int draw, .int n, N, C, O, .lst (kd.map dS)] = dgR (dctKeyR [dS "put", dS "step", dS "vow", dS "select", dS "merge", dS "firm", dS "store", dS "load", dS "print", dS "test", dS "jump", dS "ask"]
      [(Ins.put x (r % 8)).d, (Ins.step x g y z).d, (Ins.step x g2 y z).d, (Ins.sel x y z t).d, (Ins.merge x y).d, (Ins.firm x y).d, (Ins.store m y).d, (Ins.load x m).d, (Ins.prt y).d, (Ins.tst y u).d, (Ins.jump u).d, (Ins.ask x o y).d] (dS q)) := by
    rw [denD_eq]
    simp [cbS_row_of, lN.len, lC.len, lO.len, p1, p2, p3, p4, n0, ex, ey, ez, hr, em, et, eo, eg', ev, eq, hu, mkDct, dctPut, putSV]
    rcases qa with rfl | rfl | rfl | rfl | rfl | rfl | rfl | rfl | rfl | rfl | rfl | rfl <;> simp [Ins.d]
  rw [val]
  rcases qa with rfl | rfl | rfl | rfl | rfl | rfl | rfl | rfl | rfl | rfl | rfl | rfl
  · exact ⟨.put x (r % 8), ⟨hx, r8⟩, by simp⟩
  · exact ⟨.step x g y z, ⟨hx, hg, hy, hz⟩, by simp⟩
  · exact ⟨.step x g2 y z, ⟨hx, hg2, hy, hz⟩, by simp⟩
  · exact ⟨.sel x y z t, ⟨hx, hy, hz, ht⟩, by simp⟩
  · exact ⟨.merge x y, ⟨hx, hy⟩, by simp⟩
  · exact ⟨.firm x y, ⟨hx, hy⟩, by simp⟩
  · exact ⟨.store m y, ⟨hm, hy⟩, by simp⟩
  · exact ⟨.load x m, ⟨hx, hm⟩, by simp⟩
  · exact ⟨.prt y, hy, by simp⟩
  · exact ⟨.tst y u, ⟨hy, un⟩, by simp⟩
  · exact ⟨.jump u, un, by simp⟩
  · exact ⟨.ask x o y, ⟨hx, hh o hho, hy⟩, by simp⟩
end Dv

set_option linter.all false
set_option maxRecDepth 100000
set_option maxHeartbeats 8000000
/-! k57: parts that fit and parts that do not -/
namespace Dv
open PySem
variable {G : Nat → GEnv} (h : PGv G)
def badR : List String := ["", "ab", "A", "1", "_", "{", "`", " ", "aa", "Z", "+", "a ", "0", "M", "-", "any"]
def badM : List String := ["", "MN", "m", "1", "_", "[", "@", " ", "MM", "a", "+", "M ", "0", "z", "-", "bad"]
def badS : List String := ["", "++", "*!", "&!", "=!", "<!", "!", "/", ">", "+ ", "!+", "==", "<=", "--", "-+", "a"]
/-- a part that its place does not take -/
def BadP (l : String) (n : Nat) (d : D) : Prop := (l = "r" ∧ ∃ s ∈ badR, d = dS s) ∨ (l = "m" ∧ ∃ s ∈ badM, d = dS s) ∨ (l = "s" ∧ ∃ s ∈ badS, d = dS s) ∨ (l = "k" ∧ ∃ v : Int, (v < 0 ∨ 7 < v) ∧ d = .int v) ∨ (l = "p" ∧ ∃ v : Int, (v < 0 ∨ (n : Int) < v) ∧ d = .int v)
theorem within_no {G : GEnv} {v m : Int} (hv : v < 0 ∨ m < v) : denD G 2 cb_within [.int v, .int m] = .ok (.v (.bl false)) := by
  rw [denD_eq]
  rcases hv with hv | hv
  · simp [cb_within, show ¬ 0 ≤ v by omega]
  · by_cases h0 : 0 ≤ v
    · simp [cb_within, h0, show ¬ v ≤ m by omega]
    · simp [cb_within, h0]
theorem one_smN {G : GEnv} {s : String} (hs : s ∈ badR) : denD G 2 cb_one_of [dS s, .str (Str.ofString "abcdefghijklmnopqrstuvwxyz")] = .ok (.v (.bl false)) := by
  simp only [badR, List.mem_cons, List.not_mem_nil, or_false] at hs
  have hlen : ∀ s ∈ badR, ((Str.ofString s).length == 1 && inS (Str.ofString s)) = false := by decide +kernel
  have hz : ∀ s ∈ badR, (Str.ofString s).length ≤ 16777216 := by decide +kernel
  have m : s ∈ badR := by simp only [badR, List.mem_cons, List.not_mem_nil, or_false]; exact hs
  have e := hlen s m
  have z := hz s m
  clear hs hlen hz m
  rw [denD_eq]
  by_cases q : (Str.ofString s).length = 1
  · rw [q] at e
    have e2 : inS (Str.ofString s) = false := by simpa using e
    simp [cb_one_of, memR_abc, -memR_str, q, e2]
  · simp [cb_one_of, z, show ¬ ((Str.ofString s).length : Int) = 1 by omega]
theorem one_grN {G : GEnv} {s : String} (hs : s ∈ badM) : denD G 2 cb_one_of [dS s, .str (Str.ofString "ABCDEFGHIJKLMNOPQRSTUVWXYZ")] = .ok (.v (.bl false)) := by
  have hlen : ∀ s ∈ badM, ((Str.ofString s).length == 1 && inG (Str.ofString s)) = false := by decide +kernel
  have hz : ∀ s ∈ badM, (Str.ofString s).length ≤ 16777216 := by decide +kernel
  have e := hlen s hs
  have z := hz s hs
  clear hs hlen hz
  rw [denD_eq]
  by_cases q : (Str.ofString s).length = 1
  · rw [q] at e
    have e2 : inG (Str.ofString s) = false := by simpa using e
    simp [cb_one_of, memR_ABC, -memR_str, q, e2]
  · simp [cb_one_of, z, show ¬ ((Str.ofString s).length : Int) = 1 by omega]
include h in
theorem fits_no (k n : Nat) {l : String} {d : D} (hd : BadP l n d) : denD (G (k + 1)) 3 cb_fits [d, dS l, .int n] = .ok (.v (.bl false)) := by
  rw [denD_eq]
  rcases hd with ⟨rfl, s, hs, rfl⟩ | ⟨rfl, s, hs, rfl⟩ | ⟨rfl, s, hs, rfl⟩ | ⟨rfl, v, hv, rfl⟩ | ⟨rfl, v, hv, rfl⟩
  · simp [cb_fits, h.f53, h.c2, one_smN hs]
  · simp [cb_fits, h.f53, h.c3, one_grN hs]
  · simp only [badS, List.mem_cons, List.not_mem_nil, or_false] at hs
    rcases hs with rfl | rfl | rfl | rfl | rfl | rfl | rfl | rfl | rfl | rfl | rfl | rfl | rfl | rfl | rfl | rfl <;> simp [cb_fits, h.c4]
  · simp [cb_fits, h.f54, within_no (G := G k) (show v < 0 ∨ 7 < v from hv)]
  · simp [cb_fits, h.f54, within_no (G := G k) hv]
end Dv

set_option linter.all false
set_option maxRecDepth 100000
set_option maxHeartbeats 8000000
/-! k57: instructions that are valid, and such that are not -/
namespace Dv
open PySem
variable {G : Nat → GEnv} (h : PGv G)
def Ins.wd : Ins → String
  | .put _ _ => "put" | .step _ _ _ _ => "step" | .sel _ _ _ _ => "select" | .merge _ _ => "merge" | .firm _ _ => "firm" | .store _ _ => "store" | .load _ _ => "load" | .prt _ => "print" | .tst _ _ => "test" | .jump _ => "jump" | .ask _ _ _ => "ask"
def Ins.fm : Ins → List String
  | .put _ _ => ["r", "k"] | .step _ _ _ _ => ["r", "s", "r", "r"] | .sel _ _ _ _ => ["r", "r", "r", "r"] | .merge _ _ => ["r", "r"] | .firm _ _ => ["r", "r"] | .store _ _ => ["m", "r"] | .load _ _ => ["r", "m"] | .prt _ => ["r"] | .tst _ _ => ["r", "p"] | .jump _ => ["p"] | .ask _ _ _ => ["r", "m", "r"]
def Ins.fs : Ins → String
  | .put _ _ => "rk" | .step _ _ _ _ => "rsrr" | .sel _ _ _ _ => "rrrr" | .merge _ _ => "rr" | .firm _ _ => "rr" | .store _ _ => "mr" | .load _ _ => "rm" | .prt _ => "r" | .tst _ _ => "rp" | .jump _ => "p" | .ask _ _ _ => "rmr"
def Ins.ps : Ins → List D
  | .put x v => [lt 97 x, .int v] | .step x g y z => [lt 97 x, dS g, lt 97 y, lt 97 z] | .sel x y z t => [lt 97 x, lt 97 y, lt 97 z, lt 97 t] | .merge x y => [lt 97 x, lt 97 y] | .firm x y => [lt 97 x, lt 97 y] | .store m x => [lt 65 m, lt 97 x]
  | .load x m => [lt 97 x, lt 65 m] | .prt x => [lt 97 x] | .tst x q => [lt 97 x, .int q] | .jump q => [.int q] | .ask x m y => [lt 97 x, lt 65 m, lt 97 y]
theorem ins_d (i : Ins) : i.d = .tup (dS i.wd :: i.ps) := by cases i <;> rfl
theorem ps_len (i : Ins) : i.ps.length = i.fm.length := by cases i <;> rfl
theorem len1 {β : Type} {l : List β} (e : l.length = 1) : ∃ a, l = [a] := match l, e with | [a], _ => ⟨a, rfl⟩
theorem len2 {β : Type} {l : List β} (e : l.length = 2) : ∃ a b, l = [a, b] := match l, e with | [a, b], _ => ⟨a, b, rfl⟩
theorem len3 {β : Type} {l : List β} (e : l.length = 3) : ∃ a b c, l = [a, b, c] := match l, e with | [a, b, c], _ => ⟨a, b, c, rfl⟩
theorem len4 {β : Type} {l : List β} (e : l.length = 4) : ∃ a b c d, l = [a, b, c, d] := match l, e with | [a, b, c, d], _ => ⟨a, b, c, d, rfl⟩
theorem alb1 {G : GEnv} {a : Bool} : op1 G .all (.ol [.bl a]) = .ok (.v (.bl a)) := by cases a <;> rfl
theorem alb2 {G : GEnv} {a b : Bool} : op1 G .all (.ol [.bl a, .bl b]) = .ok (.v (.bl (a && b))) := by cases a <;> cases b <;> rfl
theorem alb3 {G : GEnv} {a b c : Bool} : op1 G .all (.ol [.bl a, .bl b, .bl c]) = .ok (.v (.bl (a && (b && c)))) := by cases a <;> cases b <;> cases c <;> rfl
theorem alb4 {G : GEnv} {a b c d : Bool} : op1 G .all (.ol [.bl a, .bl b, .bl c, .bl d]) = .ok (.v (.bl (a && (b && (c && d))))) := by cases a <;> cases b <;> cases c <;> cases d <;> rfl
include h in
theorem val_gen (k n : Nat) (i : Ins) (ps : List D) (bs : List Bool) (hl : ps.length = i.fm.length) (hb : bs.length = i.fm.length) (hf : ∀ (j : Nat) (p : D) (l : String) (b : Bool), ps[j]? = some p → i.fm[j]? = some l → bs[j]? = some b → denD (G (k + 1)) 3 cb_fits [p, dS l, .int n] = .ok (.v (.bl b))) :
    denD (G (k + 2)) 5 cb_valid [.tup (dS i.wd :: ps), .int n] = .ok (.v (.bl (bs.all id))) := by
  have s1 : small62 1 = true := by decide
  have s2 : small62 2 = true := by decide
  have s3 : small62 3 = true := by decide
  have s4 : small62 4 = true := by decide
  rw [denD_eq]
  cases i with
  | put x v =>
    obtain ⟨a, b, rfl⟩ := len2 hl
    obtain ⟨p, q, rfl⟩ := len2 hb
    simp [cb_valid, Ins.wd, h.c7, fl1, s2, rngD, lcGo, lcT, fa1, fa2, h.f55, hf 0 a "r" p rfl rfl rfl, hf 1 b "k" q rfl rfl rfl, alb2]
  | step x g y z =>
    obtain ⟨a, b, c, d, rfl⟩ := len4 hl
    obtain ⟨p, q, r, t, rfl⟩ := len4 hb
    simp [cb_valid, Ins.wd, h.c7, fl2, s4, rngD, lcGo, lcT, fb1, fb2, fb3, fb4, h.f55, hf 0 a "r" p rfl rfl rfl, hf 1 b "s" q rfl rfl rfl, hf 2 c "r" r rfl rfl rfl, hf 3 d "r" t rfl rfl rfl, alb4]
  | sel x y z t =>
    obtain ⟨a, b, c, d, rfl⟩ := len4 hl
    obtain ⟨p, q, r, t, rfl⟩ := len4 hb
    simp [cb_valid, Ins.wd, h.c7, fl3, s4, rngD, lcGo, lcT, fc1, fc2, fc3, fc4, h.f55, hf 0 a "r" p rfl rfl rfl, hf 1 b "r" q rfl rfl rfl, hf 2 c "r" r rfl rfl rfl, hf 3 d "r" t rfl rfl rfl, alb4]
  | merge x y =>
    obtain ⟨a, b, rfl⟩ := len2 hl
    obtain ⟨p, q, rfl⟩ := len2 hb
    simp [cb_valid, Ins.wd, h.c7, fl4, s2, rngD, lcGo, lcT, fd1, fd2, h.f55, hf 0 a "r" p rfl rfl rfl, hf 1 b "r" q rfl rfl rfl, alb2]
  | firm x y =>
    obtain ⟨a, b, rfl⟩ := len2 hl
    obtain ⟨p, q, rfl⟩ := len2 hb
    simp [cb_valid, Ins.wd, h.c7, fl4, s2, rngD, lcGo, lcT, fd1, fd2, h.f55, hf 0 a "r" p rfl rfl rfl, hf 1 b "r" q rfl rfl rfl, alb2]
  | store m x =>
    obtain ⟨a, b, rfl⟩ := len2 hl
    obtain ⟨p, q, rfl⟩ := len2 hb
    simp [cb_valid, Ins.wd, h.c7, fl5, s2, rngD, lcGo, lcT, fe1, fe2, h.f55, hf 0 a "m" p rfl rfl rfl, hf 1 b "r" q rfl rfl rfl, alb2]
  | load x m =>
    obtain ⟨a, b, rfl⟩ := len2 hl
    obtain ⟨p, q, rfl⟩ := len2 hb
    simp [cb_valid, Ins.wd, h.c7, fl6, s2, rngD, lcGo, lcT, ff1, ff2, h.f55, hf 0 a "r" p rfl rfl rfl, hf 1 b "m" q rfl rfl rfl, alb2]
  | prt x =>
    obtain ⟨a, rfl⟩ := len1 hl
    obtain ⟨p, rfl⟩ := len1 hb
    simp [cb_valid, Ins.wd, h.c7, fl7, s1, rngD, lcGo, lcT, fg1, h.f55, hf 0 a "r" p rfl rfl rfl, alb1]
  | tst x q =>
    obtain ⟨a, b, rfl⟩ := len2 hl
    obtain ⟨p, q, rfl⟩ := len2 hb
    simp [cb_valid, Ins.wd, h.c7, fl8, s2, rngD, lcGo, lcT, fh1, fh2, h.f55, hf 0 a "r" p rfl rfl rfl, hf 1 b "p" q rfl rfl rfl, alb2]
  | jump q =>
    obtain ⟨a, rfl⟩ := len1 hl
    obtain ⟨p, rfl⟩ := len1 hb
    simp [cb_valid, Ins.wd, h.c7, fl9, s1, rngD, lcGo, lcT, fi1, h.f55, hf 0 a "p" p rfl rfl rfl, alb1]
  | ask x m y =>
    obtain ⟨a, b, c, rfl⟩ := len3 hl
    obtain ⟨p, q, r, rfl⟩ := len3 hb
    simp [cb_valid, Ins.wd, h.c7, fl10, s3, rngD, lcGo, lcT, fj1, fj2, fj3, h.f55, hf 0 a "r" p rfl rfl rfl, hf 1 b "m" q rfl rfl rfl, hf 2 c "r" r rfl rfl rfl, alb3]
theorem fs_len (i : Ins) : (Str.ofString i.fs).length = i.fm.length := by cases i <;> first | exact fl1 | exact fl2 | exact fl3 | exact fl4 | exact fl5 | exact fl6 | exact fl7 | exact fl8 | exact fl9 | exact fl10
include h in
/-- another number of parts -/
theorem val_len (k n : Nat) (i : Ins) (ps : List D) (hl : ps.length ≠ i.fm.length) : denD (G (k + 2)) 5 cb_valid [.tup (dS i.wd :: ps), .int n] = .ok (.v (.bl false)) := by
  have hne : ¬ ((ps.length : Int) + 1 = (i.fm.length : Int) + 1) := by omega
  have h0 : ¬ ((ps.length : Int) + 1 = 0) := by omega
  rw [denD_eq]
  have e := fs_len i
  have z : i.fm.length ≤ 16777216 := by cases i <;> simp [Ins.fm]
  cases i <;> simp only [Ins.fs] at e z <;> simp [cb_valid, Ins.wd, h.c7, e, h0, hne, z]
theorem fm_ix (i : Ins) (j : Nat) (l : String) (e : i.fm[j]? = some l) : ixS (Str.ofString i.fs) j = .ok (.v (dS l)) := by
  have hj : j < 4 := by
    have := (List.getElem?_eq_some_iff.mp e).1
    cases i <;> simp only [Ins.fm, List.length_cons, List.length_nil] at this <;> omega
  match j, hj, e with
  | 0, _, e => cases i <;> (cases e; first | exact fa1 | exact fb1 | exact fc1 | exact fd1 | exact fe1 | exact ff1 | exact fg1 | exact fh1 | exact fi1 | exact fj1)
  | 1, _, e => cases i <;> first | (cases e; done) | (cases e; first | exact fa2 | exact fb2 | exact fc2 | exact fd2 | exact fe2 | exact ff2 | exact fh2 | exact fj2)
  | 2, _, e => cases i <;> first | (cases e; done) | (cases e; first | exact fb3 | exact fc3 | exact fj3)
  | 3, _, e => cases i <;> first | (cases e; done) | (cases e; first | exact fb4 | exact fc4)
end Dv

set_option linter.all false
set_option maxRecDepth 100000
set_option maxHeartbeats 8000000
/-! k57: the law's functions -/
namespace Dv
open PySem
structure PG57 (G : Nat → GEnv) (er : Str → Option (List Str)) : Prop extends PGv G where
  f100 : ∀ k, (G (k + 1)).fn 100 = some (Str.ofString "_law_draws", 2, denD (G k) 9 cb__law_draws)
  f101 : ∀ k, (G (k + 1)).fn 101 = some (Str.ofString "_law_row_of", 6, denD (G k) 13 cb__law_row_of)
  f102 : ∀ k, (G (k + 1)).fn 102 = some (Str.ofString "_law_form", 1, denD (G k) 2 cb__law_form)
  f103 : ∀ k, (G (k + 1)).fn 103 = some (Str.ofString "_law_wrong_part", 3, denD (G k) 5 cb__law_wrong_part)
  f104 : ∀ k, (G (k + 1)).fn 104 = some (Str.ofString "_law_refusal", 4, denDX (G k) er 5 cx__law_refusal)
  f105 : ∀ k, (G (k + 1)).fn 105 = some (Str.ofString "_law_spoilt", 4, denD (G k) 9 cb__law_spoilt)
  f106 : ∀ k, (G (k + 1)).fn 106 = some (Str.ofString "_law_behind", 3, denD (G k) 5 cb__law_behind)
  f58 : ∀ k, (G (k + 2)).fn 58 = some (Str.ofString "Piece", 4, denNX (G k) er (Str.ofString "Piece") 12 cx_Piece___init__)
  e0 : er (Str.ofString "BadPiece") = some [Str.ofString "point"]
variable {G : Nat → GEnv} {er : Str → Option (List Str)} (h : PG57 G er)
theorem form_eq {G : GEnv} (i : Ins) : denD G 2 cb__law_form [dS i.wd] = .ok (.v (dS i.fs)) := by
  rw [denD_eq]
  cases i <;> simp [cb__law_form, Ins.wd, Ins.fs, mkDct, dctPut, putSV]
theorem ixL16 {X : Type} (f : X → D) (L : List X) (n : Int) (hn : (L.length : Int) = n) (h0 : 0 < n) (i : Int) : ∃ v ∈ L, ixD (L.map f) (i % n) = .ok (.v (f v)) := by
  subst hn
  exact ixD_mod f L (by intro z; subst z; simp at h0) i
theorem wrong_eq {G : GEnv} {l : String} (hl : l ∈ ["r", "m", "s", "k", "p"]) (n : Nat) (x : Int) : ∃ d, denD G 5 cb__law_wrong_part [dS l, .int n, .int x] = .ok (.v d) ∧ BadP l n d := by
  rw [denD_eq]
  have m0 : 0 ≤ x / 16 % 1000 := Int.emod_nonneg _ (by omega)
  simp only [List.mem_cons, List.not_mem_nil, or_false] at hl
  rcases hl with rfl | rfl | rfl | rfl | rfl
  · obtain ⟨v, hv, e⟩ := ixL16 dS badR 16 rfl (by omega) x
    have e' : ixD [dS "", dS "ab", dS "A", dS "1", dS "_", dS "{", dS "`", dS " ", dS "aa", dS "Z", dS "+", dS "a ", dS "0", dS "M", dS "-", dS "any"] (x % 16) = _ := e
    exact ⟨dS v, by simp [cb__law_wrong_part, e'], .inl ⟨rfl, v, hv, rfl⟩⟩
  · obtain ⟨v, hv, e⟩ := ixL16 dS badM 16 rfl (by omega) x
    have e' : ixD [dS "", dS "MN", dS "m", dS "1", dS "_", dS "[", dS "@", dS " ", dS "MM", dS "a", dS "+", dS "M ", dS "0", dS "z", dS "-", dS "bad"] (x % 16) = _ := e
    exact ⟨dS v, by simp [cb__law_wrong_part, e'], .inr (.inl ⟨rfl, v, hv, rfl⟩)⟩
  · obtain ⟨v, hv, e⟩ := ixL16 dS badS 16 rfl (by omega) x
    have e' : ixD [dS "", dS "++", dS "*!", dS "&!", dS "=!", dS "<!", dS "!", dS "/", dS ">", dS "+ ", dS "!+", dS "==", dS "<=", dS "--", dS "-+", dS "a"] (x % 16) = _ := e
    exact ⟨dS v, by simp [cb__law_wrong_part, e'], .inr (.inr (.inl ⟨rfl, v, hv, rfl⟩))⟩
  · obtain ⟨v, hv, e⟩ := ixL16 D.int [8, -1, 9 + x / 16 % 1000, -2 - x / 16 % 1000] 4 rfl (by omega) x
    have e' : ixD [D.int 8, D.int (-1), D.int (9 + x / 16 % 1000), D.int (-2 - x / 16 % 1000)] (x % 4) = _ := e
    refine ⟨.int v, by simp [cb__law_wrong_part, e'], .inr (.inr (.inr (.inl ⟨rfl, v, ?_, rfl⟩)))⟩
    simp only [List.mem_cons, List.not_mem_nil, or_false] at hv
    omega
  · obtain ⟨v, hv, e⟩ := ixL16 D.int [(n : Int) + 1, -1, (n : Int) + 2 + x / 16 % 1000, -2 - x / 16 % 1000] 4 rfl (by omega) x
    have e' : ixD [D.int ((n : Int) + 1), D.int (-1), D.int ((n : Int) + 2 + x / 16 % 1000), D.int (-2 - x / 16 % 1000)] (x % 4) = _ := e
    refine ⟨.int v, by simp [cb__law_wrong_part, e'], .inr (.inr (.inr (.inr ⟨rfl, v, ?_, rfl⟩)))⟩
    simp only [List.mem_cons, List.not_mem_nil, or_false] at hv
    omega
include h in
theorem refuse_good (k : Nat) {w : Nat} (hw : isW w) {d : Dr w} (hd : d.ok) : denDX (G (k + 5)) er 5 cx__law_refusal [.int w, .lst (d.code.map Ins.d), .lst (d.ins.map (lt 97)), .lst (d.outs.map (lt 97))] = .ok (.v (.tup [])) := by
  have e := init_good (er := er) h.toPGv k hw hd
  rw [denDX_eq]
  simp [cx__law_refusal, h.f58, e]
include h in
theorem refuse_bad (k : Nat) {w : Nat} (hw : isW w) {ds : List D} (hl : ds.length ≤ 24) {p : Nat} (hp : p < ds.length) (hv : ∀ (i : Nat) (d : D), i < p → ds[i]? = some d → denD (G (k + 2)) 5 cb_valid [d, .int ds.length] = .ok (.v (.bl true))) (hb : ∀ d, ds[p]? = some d → denD (G (k + 2)) 5 cb_valid [d, .int ds.length] = .ok (.v (.bl false)))
    (x y : List D) : denDX (G (k + 5)) er 5 cx__law_refusal [.int w, .lst ds, .lst x, .lst y] = .ok (.v (.tup [.int p])) := by
  have e := init_bad h.toPGv k hw hl hp hv hb h.e0 (.lst x) (.lst y)
  rw [denDX_eq]
  simp [cx__law_refusal, h.f58, e, suiteR, fieldAt]
end Dv

set_option linter.all false
set_option maxRecDepth 100000
set_option maxHeartbeats 1000000
/-! k57: spoilt instructions, the law -/
namespace Dv
open PySem
variable {G : Nat → GEnv} {er : Str → Option (List Str)} (h : PG57 G er)
/-- an instruction that no place takes -/
def BadI (G : Nat → GEnv) (n : Nat) (d : D) : Prop := ∀ k, denD (G (k + 2)) 5 cb_valid [d, .int n] = .ok (.v (.bl false))
theorem fm_ok (i : Ins) {l : String} (hl : l ∈ i.fm) : l ∈ ["r", "m", "s", "k", "p"] := by
  have : ∀ l ∈ i.fm, l ∈ ["r", "m", "s", "k", "p"] := by cases i <;> (simp only [Ins.fm]; decide)
  exact this l hl
theorem fm_pos (i : Ins) : 1 ≤ i.fm.length ∧ i.fm.length ≤ 4 := by cases i <;> simp [Ins.fm]
/-- each part fits its place -/
theorem ps_fit {G : Nat → GEnv} (h : PGv G) (k : Nat) {nm cl : List Nat} (hn : ∀ x ∈ nm, x < 26) (hc : ∀ x ∈ cl, x < 26) {n : Nat} {i : Ins} (hi : i.ok nm cl n) {j : Nat} {p : D} {l : String} (e1 : i.ps[j]? = some p) (e2 : i.fm[j]? = some l) : denD (G (k + 1)) 3 cb_fits [p, dS l, .int n] = .ok (.v (.bl true)) := by
  have hj : j < 4 := by
    have := (List.getElem?_eq_some_iff.mp e2).1
    have := (fm_pos i).2
    omega
  cases i with
  | put x v =>
    match j, hj, e1, e2 with
    | 0, _, e1, e2 => cases e1; cases e2; exact fits_r h k n (hn _ hi.1)
    | 1, _, e1, e2 => cases e1; cases e2; exact fits_k h k n hi.2
    | 2 , _, e1, e2 => cases e2
    | 3, _, e1, e2 => cases e2
  | step x g y z =>
    match j, hj, e1, e2 with
    | 0, _, e1, e2 => cases e1; cases e2; exact fits_r h k n (hn _ hi.1)
    | 1, _, e1, e2 => cases e1; cases e2; exact fits_s h k n hi.2.1
    | 2, _, e1, e2 => cases e1; cases e2; exact fits_r h k n (hn _ hi.2.2.1)
    | 3, _, e1, e2 => cases e1; cases e2; exact fits_r h k n (hn _ hi.2.2.2)
  | sel x y z t =>
    match j, hj, e1, e2 with
    | 0, _, e1, e2 => cases e1; cases e2; exact fits_r h k n (hn _ hi.1)
    | 1, _, e1, e2 => cases e1; cases e2; exact fits_r h k n (hn _ hi.2.1)
    | 2, _, e1, e2 => cases e1; cases e2; exact fits_r h k n (hn _ hi.2.2.1)
    | 3, _, e1, e2 => cases e1; cases e2; exact fits_r h k n (hn _ hi.2.2.2)
  | merge x y =>
    match j, hj, e1, e2 with
    | 0, _, e1, e2 => cases e1; cases e2; exact fits_r h k n (hn _ hi.1)
    | 1, _, e1, e2 => cases e1; cases e2; exact fits_r h k n (hn _ hi.2)
    | 2 , _, e1, e2 => cases e2
    | 3, _, e1, e2 => cases e2
  | firm x y =>
    match j, hj, e1, e2 with
    | 0, _, e1, e2 => cases e1; cases e2; exact fits_r h k n (hn _ hi.1)
    | 1, _, e1, e2 => cases e1; cases e2; exact fits_r h k n (hn _ hi.2)
    | 2 , _, e1, e2 => cases e2
    | 3, _, e1, e2 => cases e2
  | store m x =>
    match j, hj, e1, e2 with
    | 0, _, e1, e2 => cases e1; cases e2; exact fits_m h k n (hc _ hi.1)
    | 1, _, e1, e2 => cases e1; cases e2; exact fits_r h k n (hn _ hi.2)
    | 2 , _, e1, e2 => cases e2
    | 3, _, e1, e2 => cases e2
  | load x m =>
    match j, hj, e1, e2 with
    | 0, _, e1, e2 => cases e1; cases e2; exact fits_r h k n (hn _ hi.1)
    | 1, _, e1, e2 => cases e1; cases e2; exact fits_m h k n (hc _ hi.2)
    | 2 , _, e1, e2 => cases e2
    | 3, _, e1, e2 => cases e2
  | prt x =>
    match j, hj, e1, e2 with
    | 0, _, e1, e2 => cases e1; cases e2; exact fits_r h k n (hn _ hi)
    | 1 , _, e1, e2 => cases e2
    | 2 , _, e1, e2 => cases e2
    | 3, _, e1, e2 => cases e2
  | tst x q =>
    match j, hj, e1, e2 with
    | 0, _, e1, e2 => cases e1; cases e2; exact fits_r h k n (hn _ hi.1)
    | 1, _, e1, e2 => cases e1; cases e2; exact fits_p h k n hi.2
    | 2 , _, e1, e2 => cases e2
    | 3, _, e1, e2 => cases e2
  | jump q =>
    match j, hj, e1, e2 with
    | 0, _, e1, e2 => cases e1; cases e2; exact fits_p h k n hi
    | 1 , _, e1, e2 => cases e2
    | 2 , _, e1, e2 => cases e2
    | 3, _, e1, e2 => cases e2
  | ask x m y =>
    match j, hj, e1, e2 with
    | 0, _, e1, e2 => cases e1; cases e2; exact fits_r h k n (hn _ hi.1)
    | 1, _, e1, e2 => cases e1; cases e2; exact fits_m h k n hi.2.1
    | 2, _, e1, e2 => cases e1; cases e2; exact fits_r h k n (hn _ hi.2.2)
    | 3, _, e1, e2 => cases e2
theorem bad_part {G : Nat → GEnv} (h : PGv G) {nm cl : List Nat} (hn : ∀ x ∈ nm, x < 26) (hc : ∀ x ∈ cl, x < 26) {n : Nat} {i : Ins} (hi : i.ok nm cl n) {j : Nat} {l : String} (e2 : i.fm[j]? = some l) {d : D} (hd : BadP l n d) : BadI G n (.tup (dS i.wd :: i.ps.set j d)) := fun k => by
  have hj : j < i.fm.length := (List.getElem?_eq_some_iff.mp e2).1
  have e := val_gen h k n i (i.ps.set j d) ((List.replicate i.fm.length true).set j false) (by simp [ps_len]) (by simp) (fun m p l' b q1 q2 q3 => by
    by_cases e : j = m
    · subst e
      rw [e2] at q2
      cases q2
      rw [List.getElem?_set_self (by rw [ps_len]; exact hj)] at q1
      rw [List.getElem?_set_self (by simpa using hj)] at q3
      cases q1
      cases q3
      exact fits_no h k n hd
    · rw [List.getElem?_set_ne e] at q1 q3
      rw [List.getElem?_replicate] at q3
      split at q3
      · cases q3
        exact ps_fit h k hn hc hi q1 q2
      · cases q3)
  rw [e]
  have : ((List.replicate i.fm.length true).set j false).all id = false := by
    rw [List.all_eq_false]
    exact ⟨false, List.mem_of_getElem? (List.getElem?_set_self (by simpa using hj)), by simp⟩
  rw [this]
theorem ps_im (i : Ins) : ∀ d ∈ i.ps, imD d = true := by
  intro d hd
  cases i <;> simp only [Ins.ps, List.mem_cons, List.not_mem_nil, or_false] at hd <;> rcases hd with rfl | rfl | rfl | rfl <;> rfl
theorem badP_im {l : String} {n : Nat} {d : D} (h : BadP l n d) : imD d = true := by
  rcases h with ⟨_, s, _, rfl⟩ | ⟨_, s, _, rfl⟩ | ⟨_, s, _, rfl⟩ | ⟨_, v, _, rfl⟩ | ⟨_, v, _, rfl⟩ <;> rfl
theorem tup_im {l : List D} (h : ∀ d ∈ l, imD d = true) : imD (.tup l) = true := by
  show imDs l = true
  rw [imDs_all, List.all_eq_true]
  exact h
theorem set_cut {l : List D} {j : Nat} {d : D} (hj : j < l.length) : l.take j ++ [d] ++ l.drop (j + 1) = l.set j d := by
  rw [List.set_eq_take_append_cons_drop, if_pos hj]
  simp
include h in
theorem spoilt_eq (k : Nat) {nm cl : List Nat} (hn : ∀ x ∈ nm, x < 26) (hc : ∀ x ∈ cl, x < 26) {n : Nat} {i : Ins} (hi : i.ok nm cl n) {ds : List Int} (hd : ds.length = 60) {a : Nat} (ha : a ≤ 40) :
    ∃ L : List D, L ≠ [] ∧ L.length ≤ 20 ∧ (∀ d ∈ L, BadI G n d ∧ imD d = true) ∧ denD (G (k + 1)) 9 cb__law_spoilt [i.d, .int n, .lst (dI ds), .int a] = .ok (.ol L) := by
  obtain ⟨l1, l4⟩ := fm_pos i
  have pl := ps_len i
  have f1 := form_eq (G := G k) i
  have sm2 : small62 2 = true := by decide
  have smf : small62 (i.fm.length : Int) = true := small62_nat (by omega)
  have ef := fs_len i
  have hz : i.fm.length ≤ 16777216 := by omega
  have bA : BadI G n (.tup (dS i.wd :: (i.ps ++ (dS i.wd :: i.ps).drop i.ps.length))) := fun k => val_len h.toPGv k n i _ (by simp; omega)
  have bB : BadI G n (.tup ((dS i.wd :: i.ps).take i.ps.length)) := by
    cases hp : i.ps with
    | nil => rw [hp] at pl; simp at pl; omega
    | cons p r =>
      intro k
      have := val_len h.toPGv k n i ((p :: r).take r.length) (by rw [hp] at pl; simp at pl ⊢; omega)
      simpa using this
  have wim : ∀ d ∈ dS i.wd :: i.ps, imD d = true := fun d m => (List.mem_cons.mp m).elim (fun e => by rw [e]; rfl) (ps_im i d)
  have hw0 : ((dS i.wd :: i.ps).length : Int) - 1 = (i.ps.length : Int) := by simp
  rw [denD_eq, ins_d]
  have hz2 : i.ps.length ≤ 16777214 := by omega
  simp [cb__law_spoilt, h.f102, f1, smf, ef, hz, hz2]
  generalize e1 : forD _ _ _ = r1
  obtain ⟨α1, rfl, L, s6, s7, s8, hl, hne, hb, rfl⟩ := forD_cn e1 (fun m β => ∃ (L : List D) (s6 s7 s8 : SV), L.length ≤ 2 + 2 * m ∧ L ≠ [] ∧ (∀ d ∈ L, BadI G n d ∧ imD d = true) ∧ β = [.v (.tup (dS i.wd :: i.ps)), .v (.int n), .v (.lst (dI ds)), .v (.int a), .v (dS i.fs), .ol L, s6, s7, s8]) ⟨_, _, _, _, by simp, by simp, by
      intro d hd
      rcases List.mem_cons.mp hd with rfl | hd
      · exact ⟨bA, tup_im fun d m => (List.mem_cons.mp m).elim (fun e => by rw [e]; rfl) fun m => (List.mem_append.mp m).elim (ps_im i d) fun m => wim d (List.mem_of_mem_drop m)⟩
      · rw [List.mem_singleton.mp hd]; exact ⟨bB, tup_im fun d m => wim d (List.mem_of_mem_take m)⟩, rfl⟩ (by
    intro d hd m β hm ⟨L, s6, s7, s8, hl, hne, hb, e⟩
    subst e
    obtain ⟨j, hj, rfl⟩ := rngD_mem hd
    rw [rngD_len] at hm
    simp [forB_nm, sm2]
    generalize e2 : forD _ _ _ = r2
    obtain ⟨α2, rfl, L', s7', s8', hl', hne', hb', rfl⟩ := forD_cn e2 (fun m' β => ∃ (L' : List D) (s7 s8 : SV), L'.length ≤ 2 + 2 * m + m' ∧ L' ≠ [] ∧ (∀ d ∈ L', BadI G n d ∧ imD d = true) ∧ β = [.v (.tup (dS i.wd :: i.ps)), .v (.int n), .v (.lst (dI ds)), .v (.int a), .v (dS i.fs), .ol L', .v (.int j), s7, s8]) ⟨L, _, _, by omega, hne, hb, rfl⟩ (by
      intro d hd m' β hm' ⟨L', s7, s8, hl', hne', hb', e⟩
      subst e
      obtain ⟨t, ht, rfl⟩ := rngD_mem hd
      rw [rngD_len] at hm'
      obtain ⟨l, hfl⟩ : ∃ l, i.fm[j]? = some l := ⟨_, List.getElem?_eq_getElem (by simpa using hj)⟩
      have e3 := fm_ix i j l hfl
      have hjm : j < i.fm.length := by simpa using hj
      obtain ⟨x, hx⟩ : ∃ x : Int, (dI ds)[a + 2 * j + t]? = some (.int x) := ⟨ds[a + 2 * j + t]'(by omega), by unfold dI; rw [List.getElem?_map, List.getElem?_eq_getElem (by omega)]; rfl⟩
      have hix : ixD (dI ds) ((a : Int) + 2 * (j : Int) + (t : Int)) = .ok (.v (.int x)) := by
        rw [show (a : Int) + 2 * (j : Int) + (t : Int) = ((a + 2 * j + t : Nat) : Int) by omega, ixD_nat, hx]
        rfl
      have hs2 : sliceD (.v (.tup (dS i.wd :: i.ps))) (some (.v (.int ((j : Int) + 2)))) none = .ok (.v (.tup (i.ps.drop (j + 1)))) := by
        rw [show (j : Int) + 2 = ((j + 2 : Nat) : Int) by omega, sl_tup (l := some (.v (.int ((j + 2 : Nat) : Int)))) (h := none) (a := some ((j + 2 : Nat) : Int)) (b := none) rfl rfl, cut_drop]
        rfl
      obtain ⟨d', e4, hbd⟩ := wrong_eq (G := G k) (fm_ok i (List.mem_of_getElem? hfl)) n x
      have hset := set_cut (l := i.ps) (j := j) (d := d') (by omega)
      have bN := bad_part h.toPGv hn hc hi hfl hbd
      rw [← hset] at bN
      refine ⟨[.v (.tup (dS i.wd :: i.ps)), .v (.int n), .v (.lst (dI ds)), .v (.int a), .v (dS i.fs), .ol (L' ++ [.tup (dS i.wd :: (i.ps.take j ++ [d'] ++ i.ps.drop (j + 1)))]), .v (.int j), .v (.int t), .v d'], ?_, _, _, _, ?_, ?_, ?_, rfl⟩
      · simp [forB_nm, e3, h.f103, hix, e4, hs2, show min j i.ps.length = j by omega, show j ≤ 16777214 by omega, show j + (i.ps.length - (j + 1) + 1) ≤ 16777215 by omega, show L'.length < 16777216 by omega]
      · simp; omega
      · simp
      · intro d hd
        rcases List.mem_append.mp hd with hd | hd
        · exact hb' d hd
        · rw [List.mem_singleton.mp hd]
          refine ⟨bN, tup_im fun d m => (List.mem_cons.mp m).elim (fun e => by rw [e]; rfl) fun m => ?_⟩
          rw [hset] at m
          exact (List.mem_or_eq_of_mem_set m).elim (ps_im i d) fun e => by rw [e]; exact badP_im hbd)
    rw [rngD_len] at hl'
    simp only [kB_nx, denB_bk0]
    exact ⟨_, rfl, L', by omega, hne', hb', _, _, _, rfl⟩)
  rw [rngD_len] at hl
  exact ⟨L, hne, by omega, hb, by simp⟩
end Dv

set_option linter.all false
set_option maxRecDepth 100000
set_option maxHeartbeats 1000000
/-! k57: the law -/
namespace Dv
open PySem
variable {G : Nat → GEnv} {er : Str → Option (List Str)} (h : PG57 G er)
theorem ixS3 (i : Int) : ∃ v ∈ [0, 1, 2], ixS (Str.ofString "abc") (i % 3) = .ok (.v (lt 97 v)) := by
  have : i % 3 = 0 ∨ i % 3 = 1 ∨ i % 3 = 2 := by omega
  rcases this with e | e | e <;> rw [e]
  · exact ⟨0, by simp, by kernel_rfl⟩
  · exact ⟨1, by simp, by kernel_rfl⟩
  · exact ⟨2, by simp, by kernel_rfl⟩
theorem ixS2 (i : Int) : ∃ v ∈ [15, 16], ixS (Str.ofString "pq") (i % 2) = .ok (.v (lt 97 v)) := by
  have : i % 2 = 0 ∨ i % 2 = 1 := by omega
  rcases this with e | e <;> rw [e]
  · exact ⟨15, by simp, by kernel_rfl⟩
  · exact ⟨16, by simp, by kernel_rfl⟩
theorem ixS1 (i : Int) : ∃ v ∈ [25], ixS (Str.ofString "z") (i % 1) = .ok (.v (lt 97 v)) := by
  rw [show i % 1 = 0 by omega]
  exact ⟨25, by simp, by kernel_rfl⟩
theorem ixSM (i : Int) : ∃ v ∈ [12], ixS (Str.ofString "M") (i % 1) = .ok (.v (lt 65 v)) := by
  rw [show i % 1 = 0 by omega]
  exact ⟨12, by simp, by kernel_rfl⟩
theorem ixSH (i : Int) : ∃ v ∈ [7, 9], ixS (Str.ofString "HJ") (i % 2) = .ok (.v (lt 65 v)) := by
  have : i % 2 = 0 ∨ i % 2 = 1 := by omega
  rcases this with e | e <;> rw [e]
  · exact ⟨7, by simp, by kernel_rfl⟩
  · exact ⟨9, by simp, by kernel_rfl⟩
theorem letsS {G : GEnv} {b : Nat} {s : String} {nm : List Nat} {m : Int} (hl : (Str.ofString s).length = nm.length) (hm : (nm.length : Int) = m) (h9 : nm.length ≤ 9) (hi : ∀ i : Int, ∃ v ∈ nm, ixS (Str.ofString s) (i % m) = .ok (.v (lt b v))) : Lets G (dS s) b nm := by
  subst hm
  refine ⟨?_, fun i => ?_⟩
  · show op1 G .len (.v (.str (Str.ofString s))) = _
    simp [hl, show nm.length ≤ 16777216 by omega]
  · obtain ⟨v, hv, e⟩ := hi i
    exact ⟨v, hv, e⟩
def nmS (w : Nat) : String := match w with
  | 1 => "abc" | 2 => "pq" | _ => "z"
def nmL (w : Nat) : List Nat := match w with
  | 1 => [0, 1, 2] | 2 => [15, 16] | _ => [25]
theorem lets_nm {G : GEnv} {w : Nat} (hw : isW w) : Lets G (dS (nmS w)) 97 (nmL w) := by
  rcases hw with rfl | rfl | rfl
  · exact letsS (by decide +kernel) rfl (by decide) ixS3
  · exact letsS (by decide +kernel) rfl (by decide) ixS2
  · exact letsS (by decide +kernel) rfl (by decide) ixS1
theorem lets_M {G : GEnv} : Lets G (dS "M") 65 [12] := letsS (by decide +kernel) rfl (by decide) ixSM
theorem lets_H {G : GEnv} : Lets G (dS "HJ") 65 [7, 9] := letsS (by decide +kernel) rfl (by decide) ixSH
include h in
theorem behind_eq (k : Nat) {w : Nat} (hw : isW w) {ds : List D} (hl : ds.length ≤ 24) {p : Nat} (hp : p < ds.length) (hv : ∀ (i : Nat) (d : D), i < p → ds[i]? = some d → denD (G (k + 2)) 5 cb_valid [d, .int ds.length] = .ok (.v (.bl true))) (hb : ∀ d, ds[p]? = some d → denD (G (k + 2)) 5 cb_valid [d, .int ds.length] = .ok (.v (.bl false)))
    (num : Int) : denD (G (k + 6)) 5 cb__law_behind [.int w, .lst ds, .int num] = .ok (.v (.tup [.int p])) := by
  obtain ⟨v1, _, g1⟩ := ixL16 D.lst [[dS "a", dS "a"], [dS "A"], [dS "a", dS "b", dS "c", dS "d"], [], [], [], [dS "d", dS "e", dS "f"]] 7 rfl (by omega) num
  obtain ⟨v2, _, g2⟩ := ixL16 D.lst [[], [], [], [dS "b", dS "b"], [dS "", dS "a"], [dS "a", dS "b", dS "c"], [dS "g", dS "h"]] 7 rfl (by omega) num
  have g1' : ixD [D.lst [dS "a", dS "a"], D.lst [dS "A"], D.lst [dS "a", dS "b", dS "c", dS "d"], D.lst [], D.lst [], D.lst [], D.lst [dS "d", dS "e", dS "f"]] (num % 7) = _ := g1
  have g2' : ixD [D.lst [], D.lst [], D.lst [], D.lst [dS "b", dS "b"], D.lst [dS "", dS "a"], D.lst [dS "a", dS "b", dS "c"], D.lst [dS "g", dS "h"]] (num % 7) = _ := g2
  have e := refuse_bad h k hw hl hp hv hb v1 v2
  rw [denD_eq]
  simp [cb__law_behind, g1', g2', h.f104, e]
include h in
theorem law57 (k : Nat) (ns : List Int) (hn : ns.length ≤ 63) : denD (G (k + 8)) 15 cb_law [.lst (dI ns)] = .ok (.v (.bl true)) := by
  obtain ⟨ds, hd, e1⟩ := drawsS (G := G (k + 7)) (c := 60) (by omega) ns hn
  have e1' : denD (G (k + 7)) 9 cb__law_draws [.lst (dI ns), .int 60] = .ok (.ol (dI ds)) := e1
  obtain ⟨E, hD⟩ : ∃ E : Nat → Int, ∀ n, n < 60 → (dI ds)[n]? = some (.int (E n)) := ⟨fun n => ds.getD n 0, fun n hn => by
    unfold dI
    show _ = some (D.int (ds.getD n 0))
    rw [List.getElem?_map, List.getD_eq_getElem?_getD, List.getElem?_eq_getElem (by omega)]
    rfl⟩
  obtain ⟨w, hw', hw⟩ : ∃ w : Nat, 1 + E 0 % 3 = w ∧ isW w := ⟨(1 + E 0 % 3).toNat, by omega, by unfold isW; omega⟩
  obtain ⟨n, hn', n1, n6⟩ : ∃ n : Nat, 1 + E 1 % 6 = n ∧ 1 ≤ n ∧ n ≤ 6 := ⟨(1 + E 1 % 6).toNat, by omega, by omega, by omega⟩
  obtain ⟨p, hp', hp⟩ : ∃ p : Nat, E 8 % (n : Int) = p ∧ p < n := ⟨(E 8 % (n : Int)).toNat, by have := Int.emod_nonneg (E 8) (show (n : Int) ≠ 0 by omega); omega, by have := Int.emod_lt_of_pos (E 8) (show (0 : Int) < n by omega); have := Int.emod_nonneg (E 8) (show (n : Int) ≠ 0 by omega); omega⟩
  have nm0 : nmL w ≠ [] := by rcases hw with rfl | rfl | rfl <;> decide
  have nm26 : ∀ x ∈ nmL w, x < 26 := by rcases hw with rfl | rfl | rfl <;> decide
  have cl26 : ∀ x ∈ [12], x < 26 := by decide
  have tot : (nmL w).length + 1 ≤ plc w := by rcases hw with rfl | rfl | rfl <;> decide
  have row (x : Int) (kd : List String) (k0 : kd ≠ []) (hk : ∀ x ∈ kd, x ∈ allK) : ∃ i : Ins, i.ok (nmL w) [12] n ∧ denD (G (k + 7)) 13 cb__law_row_of [.int x, .int n, dS (nmS w), dS "M", dS "HJ", .lst (kd.map dS)] = .ok (.v i.d) := rowS (G := G (k + 7)) x (n := n) (by omega) (lets_nm (G := G (k + 7)) hw) lets_M lets_H nm0 (by decide) (by decide) k0 hk (by decide)
  have nme : ixD [D.str (Str.ofString "abc"), D.str (Str.ofString "pq"), D.str (Str.ofString "z")] ((w : Int) - 1) = .ok (.v (dS (nmS w))) := by
    rcases hw with rfl | rfl | rfl <;> rfl
  have smn : small62 (n : Int) = true := small62_nat (by omega)
  have sm12 : small62 12 = true := by decide
  have n0 : (0 : Int) < n := by omega
  have akD : allK.map dS = [D.str (Str.ofString "put"), D.str (Str.ofString "step"), D.str (Str.ofString "vow"), D.str (Str.ofString "select"), D.str (Str.ofString "merge"), D.str (Str.ofString "firm"), D.str (Str.ofString "store"), D.str (Str.ofString "load"), D.str (Str.ofString "print"), D.str (Str.ofString "test"), D.str (Str.ofString "jump"), D.str (Str.ofString "ask")] := rfl
  rw [denD_eq]
  simp [cb_law, h.f100, e1', hD, hw', hn', nme, smn]
  rw [← akD]
  generalize e2 : lcGo _ _ _ _ = r2
  obtain ⟨code, k1, k2, rfl⟩ := lcGo_e' e2 Ins.d (fun i => i.ok (nmL w) [12] n) [.v (.lst (dI ns)), .ol (dI ds), .v (.int w), .v (dS (nmS w)), .v (.int n), .ol (allK.map dS), .un, .un, .un, .un, .un, .un, .un, .un, .un]
    (fun β => β = [.v (.lst (dI ns)), .ol (dI ds), .v (.int w), .v (dS (nmS w)), .v (.int n), .ol (allK.map dS), .un, .un, .un, .un, .un, .un, .un, .un, .un]) rfl rfl (by intro e; have := congrArg List.length e; rw [rngD_len] at this; simp at this; omega) (by
      intro d hdm β hβ
      obtain ⟨i, hi, rfl⟩ := rngD_mem hdm
      have e7 : ixD (dI ds) (2 + (i : Int)) = .ok (.v (.int (E (2 + i)))) := by
        rw [show 2 + (i : Int) = ((2 + i : Nat) : Int) by omega, ixD_nat, hD _ (by omega)]
        rfl
      obtain ⟨r, hr1, hr2⟩ := row (E (2 + i)) allK (by decide) (fun x h => h)
      refine ⟨r, hr1, [.v (.lst (dI ns)), .ol (dI ds), .v (.int w), .v (dS (nmS w)), .v (.int n), .ol (allK.map dS), .v (.int i), .un, .un, .un, .un, .un, .un, .un, .un], ?_, rfl⟩
      subst hβ
      have im : imD r.d = true := by rw [ins_d]; exact tup_im fun d m => (List.mem_cons.mp m).elim (fun e => by rw [e]; rfl) (ps_im r d)
      simp [lcT, e7, h.f101, hr2, im])
  rw [rngD_len] at k1
  simp [k1, show n ≤ 16777216 by omega, hD, show 0 < n by omega, hp', sm12]
  -- a code with an instruction put in
  have okr (r : Ins) (hr : r.ok (nmL w) [12] n) : ({ nm := nmL w, cl := [12], code := code.set p r, ins := [], outs := [] } : Dr w).ok := ⟨nm26, cl26, tot, fun i hi => by
      rw [show (code.set p r).length = n by simp [k1]]
      exact (List.mem_or_eq_of_mem_set hi).elim (k2 i) fun e => by rw [e]; exact hr, by simp [k1]; omega, by simp, by simp, by simp, by simp, by simp, by simp, by simp⟩
  have setm (r : Ins) : (code.map Ins.d).set p r.d = (code.set p r).map Ins.d := by rw [List.map_set]
  have good (r : Ins) (hr : r.ok (nmL w) [12] n) : denDX (G (k + 7)) er 5 cx__law_refusal [.int w, .lst ((code.map Ins.d).set p r.d), .lst [], .lst []] = .ok (.v (.tup [])) := by
    have e := refuse_good h (k + 2) hw (okr r hr)
    simp only [List.map_nil] at e
    rw [setm]
    exact e
  have vv (d : D) (kk : Nat) : ∀ (i : Nat) (d' : D), i < p → ((code.map Ins.d).set p d)[i]? = some d' → denD (G (kk + 2)) 5 cb_valid [d', .int ((code.map Ins.d).set p d).length] = .ok (.v (.bl true)) := fun i d' hi e => by
    rw [List.getElem?_set_ne (by omega), List.getElem?_map] at e
    obtain ⟨c, hc, rfl⟩ := Option.map_eq_some_iff.mp e
    rw [show ((code.map Ins.d).set p d).length = n by simp [k1]]
    exact valid_eq h.toPGv kk nm26 cl26 (k2 c (List.mem_of_getElem? hc))
  have bb (d : D) (hd : BadI G n d) (kk : Nat) : ∀ d', ((code.map Ins.d).set p d)[p]? = some d' → denD (G (kk + 2)) 5 cb_valid [d', .int ((code.map Ins.d).set p d).length] = .ok (.v (.bl false)) := fun d' e => by
    rw [List.getElem?_set_self (by simp [k1]; exact hp)] at e
    cases e
    rw [show ((code.map Ins.d).set p d).length = n by simp [k1]]
    exact hd kk
  have lenS (d : D) : ((code.map Ins.d).set p d).length = n := by simp [k1]
  have badc (d : D) (hd : BadI G n d) : denDX (G (k + 7)) er 5 cx__law_refusal [.int w, .lst ((code.map Ins.d).set p d), .lst [], .lst []] = .ok (.v (.tup [.int p])) := by
    have e := refuse_bad h (k + 2) hw (by rw [lenS]; omega) (by rw [lenS]; exact hp) (vv d (k + 2)) (bb d hd (k + 2)) [] []
    exact e
  have badb (d : D) (hd : BadI G n d) (num : Int) : denD (G (k + 7)) 5 cb__law_behind [.int w, .lst ((code.map Ins.d).set p d), .int num] = .ok (.v (.tup [.int p])) :=
    behind_eq h (k + 1) hw (by rw [lenS]; omega) (by rw [lenS]; exact hp) (vv d (k + 1)) (bb d hd (k + 1)) num
  have puts (d : D) : putSV (.ol (code.map Ins.d)) (.v (.int p)) d = .ok (.ol ((code.map Ins.d).set p d)) := put_ol rfl (by simp [k1]; exact hp)
  have q0 : eqD (.tup []) (.tup []) = .ok true := eq_self ⟨rfl, by decide⟩
  have q1 : eqD (.tup [.int p]) (.tup [.int p]) = .ok true := eq_self ⟨rfl, by simp [dep, deps]⟩
  generalize e3 : forD _ _ _ = r3
  obtain ⟨α3, rfl, s6, s9, s10, s11, s12, s13, rfl⟩ := forD_cn e3 (fun _ β => ∃ s6 s9 s10 s11 s12 s13 : SV, β = [.v (.lst (dI ns)), .ol (dI ds), .v (.int w), .v (dS (nmS w)), .v (.int n), .ol (allK.map dS), s6, .ol (code.map Ins.d), .v (.int p), s9, s10, s11, s12, s13, .un]) ⟨_, _, _, _, _, _, rfl⟩ (by
    intro d hdm m β hm ⟨s6, s9, s10, s11, s12, s13, e⟩
    subst e
    obtain ⟨q, hq, rfl⟩ := rngD_mem hdm
    obtain ⟨kd, hk1, hk2⟩ : ∃ kd, allK[q]? = some kd ∧ kd ∈ allK := ⟨allK[q]'(show q < 12 by simpa using hq), List.getElem?_eq_getElem _, List.getElem_mem _⟩
    have e9 : ixD (dI ds) (9 + (q : Int)) = .ok (.v (.int (E (9 + q)))) := by
      rw [show 9 + (q : Int) = ((9 + q : Nat) : Int) by omega, ixD_nat, hD _ (by omega)]
      rfl
    have e40 : ixD (dI ds) (40 + (q : Int)) = .ok (.v (.int (E (40 + q)))) := by
      rw [show 40 + (q : Int) = ((40 + q : Nat) : Int) by omega, ixD_nat, hD _ (by omega)]
      rfl
    have ek : (allK.map dS)[q]? = some (dS kd) := by rw [List.getElem?_map, hk1]; rfl
    obtain ⟨r, hr1, hr2⟩ := row (E (9 + q)) [kd] (by simp) (fun x hx => by rw [List.mem_singleton.mp hx]; exact hk2)
    have im : imD r.d = true := by rw [ins_d]; exact tup_im fun d m => (List.mem_cons.mp m).elim (fun e => by rw [e]; rfl) (ps_im r d)
    obtain ⟨a, ha', ha⟩ : ∃ a : Nat, 21 + E (40 + q) % 12 = a ∧ a ≤ 40 := ⟨(21 + E (40 + q) % 12).toNat, by omega, by omega⟩
    obtain ⟨L, L0, L20, Lb, eL⟩ := spoilt_eq h (k + 6) nm26 cl26 hr1 hd ha
    have imL : imDs L = true := by rw [imDs_all, List.all_eq_true]; exact fun d m => (Lb d m).2
    have hr2' : denD (G (k + 7)) 13 cb__law_row_of [.int (E (9 + q)), .int n, dS (nmS w), .str (Str.ofString "M"), .str (Str.ofString "HJ"), .lst [dS kd]] = .ok (.v r.d) := hr2
    have eL' : denD (G (k + 7)) 9 cb__law_spoilt [r.d, .int n, .lst (dI ds), .int a] = .ok (.ol L) := eL
    simp [forB_nm, e9, ek, h.f101, hr2', im, puts, h.f104, good r hr1, q0, e40, ha', h.f105, eL', imL]
    generalize e4 : forD _ _ _ = r4
    obtain ⟨α4, rfl, t12, t13, rfl⟩ := forD_cn e4 (fun _ β => ∃ t12 t13 : SV, β = [.v (.lst (dI ns)), .ol (dI ds), .v (.int w), .v (dS (nmS w)), .v (.int n), .ol (allK.map dS), .v (.int q), .ol (code.map Ins.d), .v (.int p), .v r.d, .ol ((code.map Ins.d).set p r.d), .v (.lst L), t12, t13, .un]) ⟨_, _, rfl⟩ (by
      intro d hdm m β hm ⟨t12, t13, e⟩
      subst e
      refine ⟨[.v (.lst (dI ns)), .ol (dI ds), .v (.int w), .v (dS (nmS w)), .v (.int n), .ol (allK.map dS), .v (.int q), .ol (code.map Ins.d), .v (.int p), .v r.d, .ol ((code.map Ins.d).set p r.d), .v (.lst L), .v d, .ol ((code.map Ins.d).set p d), .un], ?_, _, _, rfl⟩
      simp [forB_nm, puts, h.f104, badc d (Lb d hdm).1, q1])
    obtain ⟨d, hdm, eix⟩ := ixD_mod (fun d : D => d) L L0 (E (40 + q))
    rw [List.map_id'] at eix
    simp [e40, eix, hD, puts, h.f106, badb d (Lb d hdm).1, q1, show 0 < L.length from List.length_pos_iff.mpr L0])
  simp
end Dv

set_option Elab.async false
set_option linter.all false
set_option maxRecDepth 100000
set_option maxHeartbeats 0
namespace Dv
namespace LW
open PySem PySem.Spec PyProof.Rows L2 He
abbrev LP : Program := PySem.Challenge.pw_badvalues_k57_refused_parts
abbrev LR : PySem.W.OpenRow := PySem.W.OpenLaw.row PySem.Challenge.rw_badvalues_k57_refused_parts
def st (i : Nat) : Stmt := LP.main.body.getD i (.Pass ⟨0, 0, 0, 0⟩)

def cv_SMALL : D := .str "abcdefghijklmnopqrstuvwxyz"
def cv_GREAT : D := .str "ABCDEFGHIJKLMNOPQRSTUVWXYZ"
def cv_SIGNS : D := .tup [.str "+", .str "-", .str "*", .str "&", .str "=", .str "<", .str "+!", .str "-!"]
def cv_PLACES : D := .tup [.int 0, .int 6, .int 4, .int 3]
def cv_MOST : D := .int 24
def ck_FORMS : List Str := ["put", "step", "select", "merge", "firm", "store", "load", "print", "test", "jump", "ask"]
def cw_FORMS : List D := [.str "rk", .str "rsrr", .str "rrrr", .str "rr", .str "rr", .str "mr", .str "rm", .str "r", .str "rp", .str "p", .str "rmr"]
def cv_FORMS : D := .dct (ck_FORMS.map .str) cw_FORMS
def conL : List (Nat × Str × D) := [(2, ("SMALL" : Str), cv_SMALL), (3, ("GREAT" : Str), cv_GREAT), (4, ("SIGNS" : Str), cv_SIGNS), (5, ("PLACES" : Str), cv_PLACES), (6, ("MOST" : Str), cv_MOST), (7, ("FORMS" : Str), cv_FORMS)]
def conN : List (Str × Nat) := [(("SMALL" : Str), 2), (("GREAT" : Str), 3), (("SIGNS" : Str), 4), (("PLACES" : Str), 5), (("MOST" : Str), 6), (("FORMS" : Str), 7)]
def fnN : List (Str × Nat) := ([(("one_of" : Str), 53), (("within" : Str), 54), (("fits" : Str), 55), (("valid" : Str), 56), (("named" : Str), 57), (("_law_draws" : Str), 100), (("_law_row_of" : Str), 101), (("_law_form" : Str), 102), (("_law_wrong_part" : Str), 103), (("_law_refusal" : Str), 104), (("_law_spoilt" : Str), 105), (("_law_behind" : Str), 106), (("law" : Str), 107), (("Piece" : Str), 58)] : List (Str × Nat))
def bnL : List Str := ["len", "range", "list", "tuple", "int", "bool", "abs", "all", "str", "dict", "max", "min", "isinstance", "sorted"]
def CCo (G : GEnv) (N : List Str) : CC := ⟨N, G, fun x => conN.lookup x, fun x => fnN.lookup x, fun x => bnL.contains x, fun _ => false, fun x => x == "ROWS"⟩
def erL : List (Str × List Str) := [("BadPiece", ["point"])]
def erT (c : Str) : Option (List Str) := erL.lookup c
def xfL : List Nat := [58]
def xfT (k : Nat) : Bool := xfL.contains k
noncomputable def fnC (c : GEnv) : List FnT := ([(53, ("one_of" : Str), 2, denD c 2 cb_one_of),
  (54, ("within" : Str), 2, denD c 2 cb_within),
  (55, ("fits" : Str), 3, denD c 3 cb_fits),
  (56, ("valid" : Str), 2, denD c 5 cb_valid),
  (57, ("named" : Str), 2, denD c 6 cb_named),
  (100, ("_law_draws" : Str), 2, denD c 9 cb__law_draws),
  (101, ("_law_row_of" : Str), 6, denD c 13 cb__law_row_of),
  (102, ("_law_form" : Str), 1, denD c 2 cb__law_form),
  (103, ("_law_wrong_part" : Str), 3, denD c 5 cb__law_wrong_part),
  (104, ("_law_refusal" : Str), 4, denDX c erT 5 cx__law_refusal),
  (105, ("_law_spoilt" : Str), 4, denD c 9 cb__law_spoilt),
  (106, ("_law_behind" : Str), 3, denD c 5 cb__law_behind),
  (107, ("law" : Str), 1, denD c 15 cb_law)] : List FnT)
noncomputable def fnP (p : GEnv) : List FnT := [
  (58, ("Piece" : Str), 4, denNX p erT "Piece" 12 cx_Piece___init__)]
noncomputable def mtC (c : GEnv) : List MtT := [
  ]
noncomputable def mtP (p : GEnv) : List MtT := [
  ]
noncomputable def giP (p : GEnv) : List (Str × (List D → Res SV)) := []
def fldL : List (Str × Str) := [("Piece", "width"), ("Piece", "code"), ("Piece", "inputs"), ("Piece", "outputs"), ("Piece", "registers"), ("Piece", "cells")]
noncomputable def TT : Tabs := ⟨fun k => conL.lookup k, fnC, fnP, mtC, mtP, giP, fun c f => fldL.contains (c, f), fun _ _ => none⟩
def glL : List Str := (["one_of", "within", "fits", "valid", "named", "_law_draws", "_law_row_of", "_law_form", "_law_wrong_part", "_law_refusal", "_law_spoilt", "_law_behind", "law", "Piece", "BadPiece", "FORMS"] : List Str)
def clL : List Str := ["Piece"]
def meL : List (Str × Str) := []
def fa : List Fa := glL.map Fa.glo ++ ((("super" : Str) :: bnL).map Fa.free ++ (clL.map Fa.cls ++ (clL.map Fa.mkr ++ (fldL.map (fun p => Fa.noat p.1 p.2) ++ meL.map fun p => Fa.meth p.1 p.2))))
def fn : List DefD := ([⟨("one_of", none), "one_of", "one_of", defArgs (st 10), defBody (st 10), defScope (st 10), [], []⟩,
  ⟨("within", none), "within", "within", defArgs (st 11), defBody (st 11), defScope (st 11), [], []⟩,
  ⟨("fits", none), "fits", "fits", defArgs (st 12), defBody (st 12), defScope (st 12), [], []⟩,
  ⟨("valid", none), "valid", "valid", defArgs (st 13), defBody (st 13), defScope (st 13), [], []⟩,
  ⟨("named", none), "named", "named", defArgs (st 14), defBody (st 14), defScope (st 14), [], []⟩,
  ⟨("_law_draws", none), "_law_draws", "_law_draws", defArgs (st 17), defBody (st 17), defScope (st 17), [], []⟩,
  ⟨("_law_row_of", none), "_law_row_of", "_law_row_of", defArgs (st 18), defBody (st 18), defScope (st 18), [], []⟩,
  ⟨("_law_form", none), "_law_form", "_law_form", defArgs (st 19), defBody (st 19), defScope (st 19), [], []⟩,
  ⟨("_law_wrong_part", none), "_law_wrong_part", "_law_wrong_part", defArgs (st 20), defBody (st 20), defScope (st 20), [], []⟩,
  ⟨("_law_refusal", none), "_law_refusal", "_law_refusal", defArgs (st 21), defBody (st 21), defScope (st 21), [], []⟩,
  ⟨("_law_spoilt", none), "_law_spoilt", "_law_spoilt", defArgs (st 22), defBody (st 22), defScope (st 22), [], []⟩,
  ⟨("_law_behind", none), "_law_behind", "_law_behind", defArgs (st 23), defBody (st 23), defScope (st 23), [], []⟩,
  ⟨("law", none), "law", "law", defArgs (st 24), defBody (st 24), defScope (st 24), [], []⟩,
  ⟨("Piece", some "__init__"), "__init__", "Piece.__init__", defArgs (inClass (st 15) 0), defBody (inClass (st 15) 0), defScope (inClass (st 15) 0), [.adr (dflAt ("Piece", some "__init__") 0), .adr (dflAt ("Piece", some "__init__") 1)], []⟩] : List DefD)
def sd : List SupD := []
def ed0 : SupD := ⟨"BadPiece", "__init__", "", "BadPiece.__init__", defArgs (inClass (st 2) 0), defBody (inClass (st 2) 0), defScope (inClass (st 2) 0)⟩
def ed : List (SupD × List Str) := [(ed0, ["point"])]
def ts : List Tab := [(fun K => ga K "FORMS", ck_FORMS)]
def exL : List (PySem.W.Frag → Bool) := [fun K => conC K "SMALL" cv_SMALL, fun K => conC K "GREAT" cv_GREAT, fun K => conC K "SIGNS" cv_SIGNS, fun K => conC K "PLACES" cv_PLACES, fun K => conC K "MOST" cv_MOST, fun K => tabC K "FORMS" ck_FORMS cw_FORMS]
def ex (K : PySem.W.Frag) : Bool := exL.all fun e => e K
def loose0 : List Str := ["__name__", "BadValuesError", "BadPiece", "SMALL", "GREAT", "SIGNS", "PLACES", "MOST", "FORMS", "one_of", "within", "fits", "valid", "named", "Piece", "_law_draws", "_law_row_of", "_law_form", "_law_wrong_part", "_law_refusal", "_law_spoilt", "_law_behind"]
def loose : List Str := loose0
abbrev hk : PySem.W.Hook := hookE LP.main.file 4 fa fn ts sd ed ex
def ob (s : PySem.W.SharedT) : AlV × Bool × List SupW := (obsV LP.main.file fa fn ts sd ex (frV 4 (HandSHeadRun.getT s)), ed.all (fun d => errB LP.main.file (frV 4 (HandSHeadRun.getT s)) d.1 d.2), ed.map fun d => supW (frV 4 (HandSHeadRun.getT s)) (d.1.c, some d.1.m))
theorem ob_eq (s : PySem.W.SharedT) : ob s = hk.obs s.abs := obsE_eq (HandSHeadRun.getT_eq s)

end LW
end Dv

set_option linter.all false
set_option maxRecDepth 100000
set_option maxHeartbeats 8000000
/-! k57: the names of the law are those -/
namespace Dv
namespace LW
open PySem
theorem pg57 : PG57 (fun k => Gv TT (k + 1)) erT where
  f53 := fun k => by rfl
  f54 := fun k => by rfl
  f55 := fun k => by rfl
  f56 := fun k => by rfl
  f57 := fun k => by rfl
  c2 := fun k => by cases k <;> rfl
  c3 := fun k => by cases k <;> rfl
  c4 := fun k => by cases k <;> rfl
  c5 := fun k => by cases k <;> rfl
  c6 := fun k => by cases k <;> rfl
  c7 := fun k => by cases k <;> rfl
  d_Piece_width := fun k => by cases k <;> rfl
  d_Piece_code := fun k => by cases k <;> rfl
  d_Piece_inputs := fun k => by cases k <;> rfl
  d_Piece_outputs := fun k => by cases k <;> rfl
  d_Piece_registers := fun k => by cases k <;> rfl
  d_Piece_cells := fun k => by cases k <;> rfl
  f100 := fun k => by rfl
  f101 := fun k => by rfl
  f102 := fun k => by rfl
  f103 := fun k => by rfl
  f104 := fun k => by rfl
  f105 := fun k => by rfl
  f106 := fun k => by rfl
  f58 := fun k => by rfl
  e0 := by decide +kernel
theorem law_true (ns : List Int) (h : ns.length ≤ 63) : denD (Gv TT 30) 15 cb_law [.lst (ns.map .int)] = .ok (.v (.bl true)) := law57 pg57 21 ns h
end LW
end Dv

set_option Elab.async false
set_option linter.all false
set_option maxRecDepth 100000
set_option maxHeartbeats 0
namespace Dv
namespace LW
open PySem PySem.Spec PyProof.Rows L2 He
theorem runF (w : World) : HandSHeadRun.RunEq LR (PySem.W.view LR.prog [24]) hk ob 30000 loose (w.withFollow "special-get-raises" false) := by
  intro os
  kernel_rfl
theorem runT (w : World) : HandSHeadRun.RunEq LR (PySem.W.view LR.prog [24]) hk ob 30000 loose (w.withFollow "special-get-raises" true) := by
  intro os
  kernel_rfl
theorem run (w : World) : HandSHeadRun.RunEq LR (PySem.W.view LR.prog [24]) hk ob 30000 loose w := PySem.W.byRow2 "special-get-raises" runF runT w
end LW
end Dv

set_option Elab.async false
set_option linter.all false
set_option maxRecDepth 100000
set_option maxHeartbeats 0
namespace Dv
namespace LW
open PySem PySem.Spec PyProof.Rows L2 He NdefX
section
variable {P : Program} {w : World} {K : PySem.W.Frag} {mg : Str → Option Value} {base : Heap} {h : Heap} {k l : Nat}
theorem m_glo {x : Str} (hx : x ∈ glL) : Fa.glo x ∈ fa := List.mem_append_left _ (List.mem_map_of_mem hx)
theorem m_free {x : Str} (hx : x ∈ ((("super" : Str) :: bnL) : List Str)) : Fa.free x ∈ fa := List.mem_append_right _ (List.mem_append_left _ (List.mem_map_of_mem hx))
theorem m_cls {x : Str} (hx : x ∈ clL) : Fa.cls x ∈ fa := List.mem_append_right _ (List.mem_append_right _ (List.mem_append_left _ (List.mem_map_of_mem hx)))
theorem m_mkr {x : Str} (hx : x ∈ clL) : Fa.mkr x ∈ fa := List.mem_append_right _ (List.mem_append_right _ (List.mem_append_right _ (List.mem_append_left _ (List.mem_map_of_mem hx))))
theorem m_noat {c f : Str} (hx : (c, f) ∈ fldL) : Fa.noat c f ∈ fa := List.mem_append_right _ (List.mem_append_right _ (List.mem_append_right _ (List.mem_append_right _ (List.mem_append_left _ (List.mem_map_of_mem (f := fun p : Str × Str => Fa.noat p.1 p.2) hx)))))
theorem m_meth {c f : Str} (hx : (c, f) ∈ meL) : Fa.meth c f ∈ fa := List.mem_append_right _ (List.mem_append_right _ (List.mem_append_right _ (List.mem_append_right _ (List.mem_append_right _ (List.mem_map_of_mem (f := fun p : Str × Str => Fa.meth p.1 p.2) hx)))))
theorem nth {α : Type} {l : List α} (i : Nat) {x : α} (h : l[i]? = some x) : x ∈ l := List.mem_of_getElem? h
theorem ex_at (c : SaysV LP.main.file fa fn ts sd ex w K) (i : Nat) {e : PySem.W.Frag → Bool} (h : exL[i]? = some e) : e K = true := List.all_eq_true.mp c.ex e (List.mem_of_getElem? h)
theorem cat (c : SaysV LP.main.file fa fn ts sd ex w K) (X : K.In h) (G : h.Ns mainGlobals mg) (k : Nat) (N : List Str) : CAt mg (CCo (Gv TT k) N) where
  bn := fun x hx => free_ok X G (c.t.d.facts (m_free (List.mem_cons_of_mem _ (by simpa [CCo] using hx))))
  cls := fun x hx => (nomatch hx)
  cx := fun x i hx => by
    have m := lookup_mem' (show conN.lookup x = some i from hx)
    have e : ∀ e ∈ conN, ∃ d, (Gv TT k).con e.2 = some (e.1, d) := by
      have e0 : (Gv TT k).con = TT.con := by
        cases k with
        | zero => rfl
        | succ k => cases k <;> rfl
      rw [e0]
      exact List.forall_mem_cons.mpr ⟨⟨_, rfl⟩, List.forall_mem_cons.mpr ⟨⟨_, rfl⟩, List.forall_mem_cons.mpr ⟨⟨_, rfl⟩, List.forall_mem_cons.mpr ⟨⟨_, rfl⟩, List.forall_mem_cons.mpr ⟨⟨_, rfl⟩, List.forall_mem_cons.mpr ⟨⟨_, rfl⟩, List.forall_mem_nil _⟩⟩⟩⟩⟩⟩
    exact e (x, i) m
  fx := fun x i hx => by
    have m := lookup_mem' (show fnN.lookup x = some i from hx)
    cases q : (Gv TT k).fn i with
    | none => exact .inl q
    | some r =>
      obtain ⟨y, n, F⟩ := r
      have all : ∀ j y n F, (Gv TT k).fn j = some (y, n, F) → (y, j) ∈ fnN := by
        intro j y n F hq
        have hin : (j, y, n, F) ∈ fnC (gv0 TT) ++ fnP (gv0 TT) ∨ ∃ c p, (j, y, n, F) ∈ fnC c ++ fnP p := by
          cases k with
          | zero => cases hq
          | succ k =>
            cases k with
            | zero => exact .inr ⟨gv0 TT, gv0 TT, List.mem_append_left _ (by have z := lookup_mem' hq; simpa [TT] using z)⟩
            | succ k => exact .inr ⟨Gv TT (k + 1), Gv TT k, lookup_mem' hq⟩
        have gen : ∀ c p, (j, y, n, F) ∈ fnC c ++ fnP p → (y, j) ∈ fnN := by
          intro c p z
          have z2 : (y, j) ∈ (fnC c ++ fnP p).map fun e => (e.2.1, e.1) := List.mem_map_of_mem (f := fun e : FnT => (e.2.1, e.1)) z
          exact z2
        rcases hin with z | ⟨c, p, z⟩
        · exact gen _ _ z
        · exact gen _ _ z
      have m2 := all i y n F q
      have inj : ∀ a ∈ fnN, ∀ b ∈ fnN, a.2 = b.2 → a.1 = b.1 := by decide +kernel
      have := inj _ m _ m2 rfl
      exact .inr ⟨n, F, by rw [show x = y from this]; exact q⟩

theorem e_one_of (c : SaysV LP.main.file fa fn ts sd ex w K) (X : K.In h) (G : h.Ns mainGlobals mg) (g : GAt P w K mg base l (Gv TT k)) : FnE P w K mg base (l + 1) (53, ("one_of" : Str), 2, denD (Gv TT k) 2 cb_one_of) :=
  fn_ent (N := namesOf (st 10)) (ps := parsOf (st 10)) (nn := 2) (C := CCo (Gv TT k) (namesOf (st 10))) c X G 0 rfl (m_glo (nth 0 rfl)) g (cat c X G k _) rfl (by kernel_rfl) ⟨readDef (CCo (Gv TT k) (namesOf (st 10))) (st 10), by kernel_rfl⟩ (by kernel_rfl) (by kernel_rfl) _ rfl (fun _ _ _ _ _ _ us hl => match us, hl with | [_, _], _ => by kernel_rfl) _
theorem e_within (c : SaysV LP.main.file fa fn ts sd ex w K) (X : K.In h) (G : h.Ns mainGlobals mg) (g : GAt P w K mg base l (Gv TT k)) : FnE P w K mg base (l + 1) (54, ("within" : Str), 2, denD (Gv TT k) 2 cb_within) :=
  fn_ent (N := namesOf (st 11)) (ps := parsOf (st 11)) (nn := 2) (C := CCo (Gv TT k) (namesOf (st 11))) c X G 1 rfl (m_glo (nth 1 rfl)) g (cat c X G k _) rfl (by kernel_rfl) ⟨readDef (CCo (Gv TT k) (namesOf (st 11))) (st 11), by kernel_rfl⟩ (by kernel_rfl) (by kernel_rfl) _ rfl (fun _ _ _ _ _ _ us hl => match us, hl with | [_, _], _ => by kernel_rfl) _
theorem e_fits (c : SaysV LP.main.file fa fn ts sd ex w K) (X : K.In h) (G : h.Ns mainGlobals mg) (g : GAt P w K mg base l (Gv TT k)) : FnE P w K mg base (l + 1) (55, ("fits" : Str), 3, denD (Gv TT k) 3 cb_fits) :=
  fn_ent (N := namesOf (st 12)) (ps := parsOf (st 12)) (nn := 3) (C := CCo (Gv TT k) (namesOf (st 12))) c X G 2 rfl (m_glo (nth 2 rfl)) g (cat c X G k _) rfl (by kernel_rfl) ⟨readDef (CCo (Gv TT k) (namesOf (st 12))) (st 12), by kernel_rfl⟩ (by kernel_rfl) (by kernel_rfl) _ rfl (fun _ _ _ _ _ _ us hl => match us, hl with | [_, _, _], _ => by kernel_rfl) _
theorem e_valid (c : SaysV LP.main.file fa fn ts sd ex w K) (X : K.In h) (G : h.Ns mainGlobals mg) (g : GAt P w K mg base l (Gv TT k)) : FnE P w K mg base (l + 1) (56, ("valid" : Str), 2, denD (Gv TT k) 5 cb_valid) :=
  fn_ent (N := namesOf (st 13)) (ps := parsOf (st 13)) (nn := 5) (C := CCo (Gv TT k) (namesOf (st 13))) c X G 3 rfl (m_glo (nth 3 rfl)) g (cat c X G k _) rfl (by kernel_rfl) ⟨readDef (CCo (Gv TT k) (namesOf (st 13))) (st 13), by kernel_rfl⟩ (by kernel_rfl) (by kernel_rfl) _ rfl (fun _ _ _ _ _ _ us hl => match us, hl with | [_, _], _ => by kernel_rfl) _
theorem e_named (c : SaysV LP.main.file fa fn ts sd ex w K) (X : K.In h) (G : h.Ns mainGlobals mg) (g : GAt P w K mg base l (Gv TT k)) : FnE P w K mg base (l + 1) (57, ("named" : Str), 2, denD (Gv TT k) 6 cb_named) :=
  fn_ent (N := namesOf (st 14)) (ps := parsOf (st 14)) (nn := 6) (C := CCo (Gv TT k) (namesOf (st 14))) c X G 4 rfl (m_glo (nth 4 rfl)) g (cat c X G k _) rfl (by kernel_rfl) ⟨readDef (CCo (Gv TT k) (namesOf (st 14))) (st 14), by kernel_rfl⟩ (by kernel_rfl) (by kernel_rfl) _ rfl (fun _ _ _ _ _ _ us hl => match us, hl with | [_, _], _ => by kernel_rfl) _
theorem e__law_draws (c : SaysV LP.main.file fa fn ts sd ex w K) (X : K.In h) (G : h.Ns mainGlobals mg) (g : GAt P w K mg base l (Gv TT k)) : FnE P w K mg base (l + 1) (100, ("_law_draws" : Str), 2, denD (Gv TT k) 9 cb__law_draws) :=
  fn_ent (N := namesOf (st 17)) (ps := parsOf (st 17)) (nn := 9) (C := CCo (Gv TT k) (namesOf (st 17))) c X G 5 rfl (m_glo (nth 5 rfl)) g (cat c X G k _) rfl (by kernel_rfl) ⟨readDef (CCo (Gv TT k) (namesOf (st 17))) (st 17), by kernel_rfl⟩ (by kernel_rfl) (by kernel_rfl) _ rfl (fun _ _ _ _ _ _ us hl => match us, hl with | [_, _], _ => by kernel_rfl) _
theorem e__law_row_of (c : SaysV LP.main.file fa fn ts sd ex w K) (X : K.In h) (G : h.Ns mainGlobals mg) (g : GAt P w K mg base l (Gv TT k)) : FnE P w K mg base (l + 1) (101, ("_law_row_of" : Str), 6, denD (Gv TT k) 13 cb__law_row_of) :=
  fn_ent (N := namesOf (st 18)) (ps := parsOf (st 18)) (nn := 13) (C := CCo (Gv TT k) (namesOf (st 18))) c X G 6 rfl (m_glo (nth 6 rfl)) g (cat c X G k _) rfl (by kernel_rfl) ⟨readDef (CCo (Gv TT k) (namesOf (st 18))) (st 18), by kernel_rfl⟩ (by kernel_rfl) (by kernel_rfl) _ rfl (fun _ _ _ _ _ _ us hl => match us, hl with | [_, _, _, _, _, _], _ => by kernel_rfl) _
theorem e__law_form (c : SaysV LP.main.file fa fn ts sd ex w K) (X : K.In h) (G : h.Ns mainGlobals mg) (g : GAt P w K mg base l (Gv TT k)) : FnE P w K mg base (l + 1) (102, ("_law_form" : Str), 1, denD (Gv TT k) 2 cb__law_form) :=
  fn_ent (N := namesOf (st 19)) (ps := parsOf (st 19)) (nn := 2) (C := CCo (Gv TT k) (namesOf (st 19))) c X G 7 rfl (m_glo (nth 7 rfl)) g (cat c X G k _) rfl (by kernel_rfl) ⟨readDef (CCo (Gv TT k) (namesOf (st 19))) (st 19), by kernel_rfl⟩ (by kernel_rfl) (by kernel_rfl) _ rfl (fun _ _ _ _ _ _ us hl => match us, hl with | [_], _ => by kernel_rfl) _
theorem e__law_wrong_part (c : SaysV LP.main.file fa fn ts sd ex w K) (X : K.In h) (G : h.Ns mainGlobals mg) (g : GAt P w K mg base l (Gv TT k)) : FnE P w K mg base (l + 1) (103, ("_law_wrong_part" : Str), 3, denD (Gv TT k) 5 cb__law_wrong_part) :=
  fn_ent (N := namesOf (st 20)) (ps := parsOf (st 20)) (nn := 5) (C := CCo (Gv TT k) (namesOf (st 20))) c X G 8 rfl (m_glo (nth 8 rfl)) g (cat c X G k _) rfl (by kernel_rfl) ⟨readDef (CCo (Gv TT k) (namesOf (st 20))) (st 20), by kernel_rfl⟩ (by kernel_rfl) (by kernel_rfl) _ rfl (fun _ _ _ _ _ _ us hl => match us, hl with | [_, _, _], _ => by kernel_rfl) _
theorem e__law_refusal (c : SaysV LP.main.file fa fn ts sd ex w K) (X : K.In h) (G : h.Ns mainGlobals mg) (g : GAt P w K mg base l (Gv TT k)) (gx : XAt P w K mg base l (Gv TT k) erT xfT) : FnEX P w K mg base (l + 1) (104, ("_law_refusal" : Str), 4, denDX (Gv TT k) erT 5 cx__law_refusal) :=
  fn_entX (N := namesOf (st 21)) (ps := parsOf (st 21)) (nn := 5) (C := CCo (Gv TT k) (namesOf (st 21))) c X G 9 rfl (m_glo (nth 9 rfl)) g gx (cat c X G k _) rfl (by kernel_rfl) ⟨readDefX (CCo (Gv TT k) (namesOf (st 21))) erT xfT (st 21), by kernel_rfl⟩ (by kernel_rfl) (by kernel_rfl) _ rfl (fun _ _ _ _ _ _ us hl => match us, hl with | [_, _, _, _], _ => by kernel_rfl) _
theorem e__law_spoilt (c : SaysV LP.main.file fa fn ts sd ex w K) (X : K.In h) (G : h.Ns mainGlobals mg) (g : GAt P w K mg base l (Gv TT k)) : FnE P w K mg base (l + 1) (105, ("_law_spoilt" : Str), 4, denD (Gv TT k) 9 cb__law_spoilt) :=
  fn_ent (N := namesOf (st 22)) (ps := parsOf (st 22)) (nn := 9) (C := CCo (Gv TT k) (namesOf (st 22))) c X G 10 rfl (m_glo (nth 10 rfl)) g (cat c X G k _) rfl (by kernel_rfl) ⟨readDef (CCo (Gv TT k) (namesOf (st 22))) (st 22), by kernel_rfl⟩ (by kernel_rfl) (by kernel_rfl) _ rfl (fun _ _ _ _ _ _ us hl => match us, hl with | [_, _, _, _], _ => by kernel_rfl) _
theorem e__law_behind (c : SaysV LP.main.file fa fn ts sd ex w K) (X : K.In h) (G : h.Ns mainGlobals mg) (g : GAt P w K mg base l (Gv TT k)) : FnE P w K mg base (l + 1) (106, ("_law_behind" : Str), 3, denD (Gv TT k) 5 cb__law_behind) :=
  fn_ent (N := namesOf (st 23)) (ps := parsOf (st 23)) (nn := 5) (C := CCo (Gv TT k) (namesOf (st 23))) c X G 11 rfl (m_glo (nth 11 rfl)) g (cat c X G k _) rfl (by kernel_rfl) ⟨readDef (CCo (Gv TT k) (namesOf (st 23))) (st 23), by kernel_rfl⟩ (by kernel_rfl) (by kernel_rfl) _ rfl (fun _ _ _ _ _ _ us hl => match us, hl with | [_, _, _], _ => by kernel_rfl) _
theorem e_law (c : SaysV LP.main.file fa fn ts sd ex w K) (X : K.In h) (G : h.Ns mainGlobals mg) (g : GAt P w K mg base l (Gv TT k)) : FnE P w K mg base (l + 1) (107, ("law" : Str), 1, denD (Gv TT k) 15 cb_law) :=
  fn_ent (N := namesOf (st 24)) (ps := parsOf (st 24)) (nn := 15) (C := CCo (Gv TT k) (namesOf (st 24))) c X G 12 rfl (m_glo (nth 12 rfl)) g (cat c X G k _) rfl (by kernel_rfl) ⟨readDef (CCo (Gv TT k) (namesOf (st 24))) (st 24), by kernel_rfl⟩ (by kernel_rfl) (by kernel_rfl) _ rfl (fun _ _ _ _ _ _ us hl => match us, hl with | [_], _ => by kernel_rfl) _
theorem e_Piece (c : SaysV LP.main.file fa fn ts sd ex w K) (X : K.In h) (G : h.Ns mainGlobals mg) (g : GAt P w K mg base l (Gv TT k)) (gx : XAt P w K mg base l (Gv TT k) erT xfT) : ClEX P w K mg base (l + 2) (58, ("Piece" : Str), 4, denNX (Gv TT k) erT "Piece" 12 cx_Piece___init__) :=
  cl_entX (N := namesOf (inClass (st 15) 0)) (ps := parsOf (inClass (st 15) 0)) (nn := 12) (C := CCo (Gv TT k) (namesOf (inClass (st 15) 0))) c X G 13 rfl (m_glo (nth 13 rfl)) (m_mkr (nth 0 rfl)) g gx (cat c X G k _) rfl (by kernel_rfl) ⟨readDefX (CCo (Gv TT k) (namesOf (inClass (st 15) 0))) erT xfT (inClass (st 15) 0), by kernel_rfl⟩ (by kernel_rfl) (by kernel_rfl) (by decide +kernel) _ rfl (fun fd F => Dv.FunD.bindsAll F (by intro z; cases z) (by intro _ _ _ _ _ _ _ us hl; exact match us, (show us.length = 5 from hl) with | [_, _, _, _, _], _ => ⟨_, rfl, fun l hl => match l, (show l.length = 2 from hl) with | [_, _], _ => by kernel_rfl⟩)) _
theorem tab_at (c : SaysV LP.main.file fa fn ts sd ex w K) (i : Nat) {t : Tab} (h : ts[i]? = some t) : dicW K (t.1 K) = some (keysIn w.params t.2) := by
  have e : ts.map (fun t => dicW K (t.1 K)) = ts.map fun t => some (keysIn w.params t.2) := congrArg (fun z : AlT => z.2) c.t
  have e2 : (ts.map fun t => dicW K (t.1 K))[i]? = (ts.map fun t => some (keysIn w.params t.2))[i]? := by rw [e]
  rw [List.getElem?_map, List.getElem?_map, h] at e2
  exact Option.some.inj e2
theorem err0 (c : SaysV LP.main.file fa fn ts sd ex w K) (ce : SaysE LP.main.file ed K) (X : K.In h) (G : h.Ns mainGlobals mg) : ErrAt LP w K mg base 2 "BadPiece" ["point"] :=
  err_at (d := ed0) (self := "self") (xs := ["point"]) (f0 := "point") (fs := []) rfl (glo_ok X G (c.t.d.facts (m_glo (nth 14 rfl)))) (ce.w _ (nth 0 rfl)) (ce.b _ (nth 0 rfl)) rfl rfl (nscope_by (by kernel_rfl)) rfl rfl rfl (by kernel_rfl) (free_ok X G (c.t.d.facts (m_free (nth 0 rfl)))) (.cons rfl rfl (.inl rfl) (.inl rfl) (by decide) (by decide) (by decide) (by decide) (.nil)) rfl (by decide) (fun _ _ _ _ _ _ _ us hl => match us, hl with | [_, _], _ => by kernel_rfl)
theorem errs (c : SaysV LP.main.file fa fn ts sd ex w K) (ce : SaysE LP.main.file ed K) (X : K.In h) (G : h.Ns mainGlobals mg) : ∀ x fs, erT x = some fs → ErrAt LP w K mg base 2 x fs := fun x fs e => by
  have all : ∀ p ∈ erL, ErrAt LP w K mg base 2 p.1 p.2 := List.forall_mem_cons.mpr ⟨err0 c ce X G,
    List.forall_mem_nil _⟩
  exact all _ (lookup_mem' e)
/-- everything that the names stand for -/
theorem tabsOk (c : SaysV LP.main.file fa fn ts sd ex w K) (ce : SaysE LP.main.file ed K) (X : K.In h) (G : h.Ns mainGlobals mg) : TabsX LP w K mg base TT erT xfT where
  con := fun n x d e => by
    have m := lookup_mem' (show conL.lookup n = some (x, d) from e)
    have all : ∀ e ∈ conL, ConOk LP w K mg e.2.1 e.2.2 := List.forall_mem_cons.mpr ⟨conC_ok X G (ex_at c 0 rfl),
    List.forall_mem_cons.mpr ⟨conC_ok X G (ex_at c 1 rfl),
    List.forall_mem_cons.mpr ⟨conC_ok X G (ex_at c 2 rfl),
    List.forall_mem_cons.mpr ⟨conC_ok X G (ex_at c 3 rfl),
    List.forall_mem_cons.mpr ⟨conC_ok X G (ex_at c 4 rfl),
    List.forall_mem_cons.mpr ⟨tabC_ok X G (c.t.d.facts (m_glo (nth 15 rfl))) (tab_at c 0 rfl) (ex_at c 5 rfl),
    List.forall_mem_nil _⟩⟩⟩⟩⟩⟩
    exact all (n, x, d) m
  errs := errs c ce X G
  fnC := fun k l hl g gx => List.forall_mem_cons.mpr ⟨⟨e_one_of c X G g, fun z => Bool.noConfusion (show false = true from z)⟩,
    List.forall_mem_cons.mpr ⟨⟨e_within c X G g, fun z => Bool.noConfusion (show false = true from z)⟩,
    List.forall_mem_cons.mpr ⟨⟨e_fits c X G g, fun z => Bool.noConfusion (show false = true from z)⟩,
    List.forall_mem_cons.mpr ⟨⟨e_valid c X G g, fun z => Bool.noConfusion (show false = true from z)⟩,
    List.forall_mem_cons.mpr ⟨⟨e_named c X G g, fun z => Bool.noConfusion (show false = true from z)⟩,
    List.forall_mem_cons.mpr ⟨⟨e__law_draws c X G g, fun z => Bool.noConfusion (show false = true from z)⟩,
    List.forall_mem_cons.mpr ⟨⟨e__law_row_of c X G g, fun z => Bool.noConfusion (show false = true from z)⟩,
    List.forall_mem_cons.mpr ⟨⟨e__law_form c X G g, fun z => Bool.noConfusion (show false = true from z)⟩,
    List.forall_mem_cons.mpr ⟨⟨e__law_wrong_part c X G g, fun z => Bool.noConfusion (show false = true from z)⟩,
    List.forall_mem_cons.mpr ⟨⟨(e__law_refusal c X G g gx).e, fun _ => e__law_refusal c X G g gx⟩,
    List.forall_mem_cons.mpr ⟨⟨e__law_spoilt c X G g, fun z => Bool.noConfusion (show false = true from z)⟩,
    List.forall_mem_cons.mpr ⟨⟨e__law_behind c X G g, fun z => Bool.noConfusion (show false = true from z)⟩,
    List.forall_mem_cons.mpr ⟨⟨e_law c X G g, fun z => Bool.noConfusion (show false = true from z)⟩,
    List.forall_mem_nil _⟩⟩⟩⟩⟩⟩⟩⟩⟩⟩⟩⟩⟩
  fnP := fun k l hl g gx => List.forall_mem_cons.mpr ⟨⟨((e_Piece c X G g gx).mono (by omega)).e, fun _ => (e_Piece c X G g gx).mono (by omega)⟩,
    List.forall_mem_nil _⟩
  mtC := fun k l g => List.forall_mem_nil _
  mtP := fun k l g => List.forall_mem_nil _
  giP := fun k l g => List.forall_mem_nil _
  fld := fun a f C' hf hC => by
    have m : (a, f) ∈ fldL := by simpa [TT] using hf
    have hcl : a ∈ clL := by
      have all : ∀ p ∈ fldL, p.1 ∈ clL := by decide +kernel
      exact all _ m
    have hgl : a ∈ glL := by
      have all : ∀ p ∈ clL, p ∈ glL := by decide +kernel
      exact all _ hcl
    have e := glo_ok X G (c.t.d.facts (m_glo hgl))
    rw [e] at hC
    cases hC
    exact ⟨cls_of c (m_cls hcl), noat_of c (m_noat m)⟩
  isa := fun _ _ _ _ e => (nomatch e)
end
end LW
end Dv

set_option Elab.async false
set_option linter.all false
set_option maxRecDepth 100000
set_option maxHeartbeats 0
namespace Dv
namespace LW
open PySem PySem.Spec PyProof.Rows L2 He
theorem law_facts {w : World} {K : PySem.W.Frag} {h : Heap} {mg : Str → Option Value} {f : Addr} (n : Nat) (hlaw : ∀ ns : List Int, ns.length ≤ 63 → denD (Gv TT n) 15 cb_law [.lst (ns.map .int)] = .ok (.v (.bl true))) (X : K.In h) (nl : NoLst K) (G : h.Ns mainGlobals mg) (hfa : mg ("law" : Str) = some (.ref f)) (c : SaysV LP.main.file fa fn ts sd ex w K) (ce : SaysE LP.main.file ed K) :
    ∃ (K : PySem.W.Frag) (fd : FuncData) (sp : Sp), K.In h ∧ (∀ (s : Shared) (u : Value), BindsTo s fd ⟨[u], []⟩ [(("_law_script" : Str), u)]) ∧
        (∀ (H : Hp) (a : Addr) (ns : List Int), ns.length ≤ 63 → Only H → SqL K H a (ns.map V.int) → sp [.ref a] H (fun v _ => v = .bl true) fun _ _ _ => False) ∧
        ∀ base : Heap, K.In base → base.Ns mainGlobals mg → FnOk LP w K mg base (L2.CX LP w) (2 * n + 2 + 1) f fd ["_law_script"] sp := by
  obtain ⟨fd, F1⟩ := c.t.d.def_ 12 (d := ⟨("law", none), "law", "law", defArgs (st 24), defBody (st 24), defScope (st 24), [], []⟩) rfl
  have e := hfa.symm.trans (glo_ok X G (c.t.d.facts (m_glo (x := "law") (nth 12 rfl))))
  cases e
  have b := FunD.bindsA (ps := ["_law_script"]) F1 fun _ _ _ _ _ _ us hl => match us, hl with | [_], _ => by kernel_rfl
  refine ⟨K, fd, spOf ⟨LP, w, K, mg⟩ 1 (denD (Gv TT n) 15 cb_law), X, fun s u => b s [u] rfl, fun H a ns hl _ hS => law_sp nl hlaw H a ns hl hS, fun base kb nb => ?_⟩
  have g := (xat_all (tabsOk (base := base) c ce X G) n).1.1
  exact def_okF (N := namesOf (st 24)) (ps := ["_law_script"]) (nn := 15) (C := CCo (Gv TT n) (namesOf (st 24))) F1 (by kernel_rfl) g (cat c X G n _) rfl ⟨readDef (CCo (Gv TT n) (namesOf (st 24))) (st 24), by kernel_rfl⟩ rfl (by kernel_rfl) rfl
end LW
end Dv
open PySem PySem.W PySem.Calls PyProof.Rows
theorem PySem.Challenge.cw_badvalues_k57_refused_parts_holds : PySem.Challenge.rw_badvalues_k57_refused_parts.Holds := by
  w_on; o_law
  refine HandSHeadRun.head_any (r := OpenLaw.row PySem.Challenge.rw_badvalues_k57_refused_parts) (q := view (OpenLaw.row PySem.Challenge.rw_badvalues_k57_refused_parts).prog [24]) (H := Dv.LW.hk) (ob := Dv.LW.ob) (M := 30000) (loose := Dv.LW.loose) (d := HandSHeadRun.topDef (OpenLaw.row PySem.Challenge.rw_badvalues_k57_refused_parts).prog 24) (kwd := []) Dv.LW.ob_eq
    (by kernel_rfl) (fun s => by kernel_rfl) Dv.LW.run (by kernel_rfl) (by kernel_rfl) (by kernel_rfl) (by rfl) (by first | assumption | decide +kernel) (by decide +kernel) ⟨rfl, rfl, rfl, rfl, rfl, by decide +kernel⟩ ?hw ?hc
  case hw => w_witness2
  case hc =>
    refine Dv.walk_any (l := PySem.Challenge.rw_badvalues_k57_refused_parts) (n := 63) (k := 2 * 30 + 2 + 1) (x := "_law_script") rfl (by decide) (by kernel_rfl) ⟨rfl, by decide, by decide⟩ ?F
    intro w mg fa h Y G hmg0
    obtain ⟨K, KX, nl, c, ce⟩ := Y
    have hmg : mg ("law" : PySem.Str) = some (.ref fa) := by
      have e : (HandSHeadRun.topDef (OpenLaw.row PySem.Challenge.rw_badvalues_k57_refused_parts).prog 24).name = ("law" : PySem.Str) := by kernel_rfl
      rw [← e]
      exact hmg0
    exact Dv.LW.law_facts 30 Dv.LW.law_true KX nl G hmg c ce

