import PyProof.Rows.All
import Wide.All
import OpenK.AllK
import Wide.FinOn
import HandS.ForMost
import HandS.Exc
import HandS.Wide
import HandS.Gcd
import HandS.TupAny
import HandS.Deep
import HandS.Style
import HandS.WordsExc
import HandS.Flow
import HandS.Zip
import HandS.Rev
import KE.SortData
import HandS.IsInst
import HandS.TupLen
import HandS.WordsDict
import HandS.More
import HandS.Walk
import PyProof.ReprReads
import PyProof.ReprRoads
import HandS.DeepEq
import HandS.OwnEq
import HandS.Ends
import HandS.ExcInit
import HandS.ExcIs
import HandS.ExcField
import HandS.ExcValue
import HandS.Defaults
import PySem.Challenge.RW_unwaited_k00_errors_and_fractions
import KE.RegKIsAll
set_option Elab.async false
set_option linter.all false
set_option maxRecDepth 100000 -- deep terms
set_option maxHeartbeats 4000000 -- long walks
/-! The data layer, part A: pure data, what stands for it in the abstract heap, owned trees, states and steps. -/
namespace DL
open PySem L2

abbrev D := PyData
abbrev Frg := PySem.W.Frag

/-! ### data in the heap -/
def keyD : Key → D
  | .inl i => .int i
  | .inr x => .str x

/-- the frozen part stands in the heap; a dict may be locked there -/
def GLe (G H : Hp) : Prop := ∀ a o, G a = some o → H a = some o ∨ ((∀ b u, o ≠ .frz b u) ∧ ∃ b, H a = some (.frz b o))
theorem GLe.refl (G : Hp) : GLe G G := fun _ _ h => .inl h
theorem GLe.rd {G H : Hp} (g : GLe G H) {a : Addr} {u : HO} (h : Rd G a u) : Rd H a u := by
  rcases h with h | ⟨o, h⟩
  · rcases g a u h with q | ⟨_, b, q⟩
    · exact .inl q
    · exact .inr ⟨b, q⟩
  · rcases g a _ h with q | ⟨n, _, _⟩
    · exact .inr ⟨o, q⟩
    · exact absurd rfl (n o u)
theorem GLe.some {G H : Hp} (g : GLe G H) {a : Addr} (h : G a ≠ none) : H a ≠ none := by
  cases e : G a with
  | none => exact absurd e h
  | some o =>
    rcases g a o e with q | ⟨_, b, q⟩
    · rw [q]; exact fun z => nomatch z
    · rw [q]; exact fun z => nomatch z
theorem GLe.sqL {K : Frg} {G H : Hp} (g : GLe G H) {a : Addr} {xs : List V} (h : SqL K G a xs) : SqL K H a xs := by
  rcases h with h | h
  · exact .inl (g.rd h)
  · exact .inr h
theorem GLe.sqT {K : Frg} {G H : Hp} (g : GLe G H) {a : Addr} {xs : List V} (h : SqT K G a xs) : SqT K H a xs := by
  rcases h with h | h
  · exact .inl (g.rd h)
  · exact .inr h
/-- a list: tracked, or an object of the module, plain -/
def SqX (K : Frg) (H : Hp) (a : Addr) (xs : List V) : Prop := Rd H a (.lst xs) ∨ ∃ (its : List Value) (n : Nat), K.lookup a = some { cls := .type "list", data := .seq its.toArray n } ∧ its.length ≤ sizeLine ∧ Vals xs its
theorem SqX.l {K : Frg} {H : Hp} {a : Addr} {xs : List V} (h : SqX K H a xs) : SqL K H a xs := by
  rcases h with h | ⟨its, n, e, l, r⟩
  · exact .inl h
  · exact .inr ⟨_, its.toArray, n, e, rfl, rfl, rfl, by simpa using l, by simpa using r⟩
theorem GLe.sqX {K : Frg} {G H : Hp} (g : GLe G H) {a : Addr} {xs : List V} (h : SqX K G a xs) : SqX K H a xs := by
  rcases h with h | h
  · exact .inl (g.rd h)
  · exact .inr h
theorem same_gle {G G' : Hp} (h : Same G G') : GLe G G' := fun a o e => .inl (h a o e)

mutual
inductive Den (K : Frg) (G : Hp) : V → D → Prop
  | non : Den K G .non .none
  | bl (b : Bool) : Den K G (.bl b) (.bool b)
  | int (i : Int) : Den K G (.int i) (.int i)
  | str (x : Str) : Den K G (.str x) (.str x)
  | lst {a : Addr} {xs : List V} {ds : List D} : SqX K G a xs → DenL K G xs ds → Den K G (.ref a) (.list ds)
  | tup {a : Addr} {xs : List V} {ds : List D} : SqT K G a xs → DenL K G xs ds → Den K G (.ref a) (.tuple ds)
  | dk {a : Addr} {ks : List (Key × V)} {kvs : List (D × D)} : Rd G a (.dK ks) → DenK K G ks kvs → Den K G (.ref a) (.dict kvs)
  | dt {a : Addr} {ks : List (List Key × V)} {kvs : List (D × D)} : Rd G a (.dT ks) → DenT K G ks kvs → Den K G (.ref a) (.dict kvs)
inductive DenL (K : Frg) (G : Hp) : List V → List D → Prop
  | nil : DenL K G [] []
  | cons {v : V} {vs : List V} {d : D} {ds : List D} : Den K G v d → DenL K G vs ds → DenL K G (v :: vs) (d :: ds)
inductive DenK (K : Frg) (G : Hp) : List (Key × V) → List (D × D) → Prop
  | nil : DenK K G [] []
  | cons {k : Key} {v : V} {ks : List (Key × V)} {d : D} {kvs : List (D × D)} : Den K G v d → DenK K G ks kvs → DenK K G ((k, v) :: ks) ((keyD k, d) :: kvs)
inductive DenT (K : Frg) (G : Hp) : List (List Key × V) → List (D × D) → Prop
  | nil : DenT K G [] []
  | cons {k : List Key} {v : V} {ks : List (List Key × V)} {d : D} {kvs : List (D × D)} : Den K G v d → DenT K G ks kvs → DenT K G ((k, v) :: ks) ((.tuple (k.map keyD), d) :: kvs)
end

section
variable {K : Frg} {G H : Hp}
mutual
theorem Den.up (g : GLe G H) : ∀ {v : V} {d : D}, Den K G v d → Den K H v d
  | _, _, .non => .non
  | _, _, .bl b => .bl b
  | _, _, .int i => .int i
  | _, _, .str x => .str x
  | _, _, .lst s l => .lst (g.sqX s) (l.up g)
  | _, _, .tup s l => .tup (g.sqT s) (l.up g)
  | _, _, .dk s l => .dk (g.rd s) (l.up g)
  | _, _, .dt s l => .dt (g.rd s) (l.up g)
theorem DenL.up (g : GLe G H) : ∀ {v : List V} {d : List D}, DenL K G v d → DenL K H v d
  | _, _, .nil => .nil
  | _, _, .cons h t => .cons (h.up g) (t.up g)
theorem DenK.up (g : GLe G H) : ∀ {v : List (Key × V)} {d : List (D × D)}, DenK K G v d → DenK K H v d
  | _, _, .nil => .nil
  | _, _, .cons h t => .cons (h.up g) (t.up g)
theorem DenT.up (g : GLe G H) : ∀ {v : List (List Key × V)} {d : List (D × D)}, DenT K G v d → DenT K H v d
  | _, _, .nil => .nil
  | _, _, .cons h t => .cons (h.up g) (t.up g)
end
theorem DenL.length : ∀ {v : List V} {d : List D}, DenL K G v d → v.length = d.length
  | _, _, .nil => rfl
  | _, _, .cons _ t => congrArg (· + 1) t.length
theorem DenL.get : ∀ {vs : List V} {ds : List D} {i : Nat} {d : D}, DenL K G vs ds → ds[i]? = some d → ∃ v, vs[i]? = some v ∧ Den K G v d
  | _, _, 0, _, .cons h _, e => by cases e; exact ⟨_, rfl, h⟩
  | _, _, i + 1, d, .cons _ t, e => DenL.get (i := i) t e
theorem DenL.getV : ∀ {vs : List V} {ds : List D} {i : Nat} {v : V}, DenL K G vs ds → vs[i]? = some v → ∃ d, ds[i]? = some d ∧ Den K G v d
  | _, _, 0, _, .cons h _, e => by cases e; exact ⟨_, rfl, h⟩
  | _, _, i + 1, d, .cons _ t, e => DenL.getV (i := i) t e
theorem DenL.append : ∀ {vs ws : List V} {ds es : List D}, DenL K G vs ds → DenL K G ws es → DenL K G (vs ++ ws) (ds ++ es)
  | _, _, _, _, .nil, t => t
  | _, _, _, _, .cons h t, s => .cons h (t.append s)
theorem DenL.take : ∀ {vs : List V} {ds : List D} (n : Nat), DenL K G vs ds → DenL K G (vs.take n) (ds.take n)
  | _, _, 0, _ => .nil
  | _, _, _ + 1, .nil => .nil
  | _, _, n + 1, .cons h t => .cons h (t.take n)
theorem DenL.drop : ∀ {vs : List V} {ds : List D} (n : Nat), DenL K G vs ds → DenL K G (vs.drop n) (ds.drop n)
  | _, _, 0, h => h
  | _, _, _ + 1, .nil => .nil
  | _, _, n + 1, .cons _ t => t.drop n
theorem DenL.set {v : V} {d : D} (q : Den K G v d) : ∀ {vs : List V} {ds : List D} (n : Nat), DenL K G vs ds → DenL K G (vs.set n v) (ds.set n d)
  | _, _, _, .nil => .nil
  | _, _, 0, .cons _ t => .cons q t
  | _, _, n + 1, .cons h t => .cons h (t.set q n)
theorem DenL.eraseIdx : ∀ {vs : List V} {ds : List D} (n : Nat), DenL K G vs ds → DenL K G (vs.eraseIdx n) (ds.eraseIdx n)
  | _, _, _, .nil => .nil
  | _, _, 0, .cons _ t => t
  | _, _, n + 1, .cons h t => .cons h (t.eraseIdx n)
theorem DenL.dropLast : ∀ {vs : List V} {ds : List D}, DenL K G vs ds → DenL K G vs.dropLast ds.dropLast
  | _, _, .nil => .nil
  | _, _, .cons _ .nil => .nil
  | _, _, .cons h (.cons h2 t) => .cons h (DenL.dropLast (.cons h2 t))
theorem DenL.reverse {vs : List V} {ds : List D} (h : DenL K G vs ds) : DenL K G vs.reverse ds.reverse := by
  induction h using DenL.rec (motive_1 := fun _ _ _ => True) (motive_3 := fun _ _ _ => True) (motive_4 := fun _ _ _ => True) <;> first
    | trivial
    | exact .nil
    | (rename_i h _ _ ih; rw [List.reverse_cons, List.reverse_cons]; exact ih.append (.cons h .nil))
/-- data without a heap -/
def flat : D → Bool
  | .none | .bool _ | .int _ | .str _ => true
  | _ => false
theorem Den.flat {v : V} {d : D} (h : Den K G v d) (f : flat d = true) (G' : Hp) : Den K G' v d := by
  cases h <;> first
    | exact .non
    | exact .bl _
    | exact .int _
    | exact .str _
    | exact absurd f (by simp [DL.flat])
theorem Den.of_int {v : V} {i : Int} (h : Den K G v (.int i)) : v = .int i := by cases h; rfl
theorem Den.of_bool {v : V} {b : Bool} (h : Den K G v (.bool b)) : v = .bl b := by cases h; rfl
theorem Den.of_str {v : V} {x : Str} (h : Den K G v (.str x)) : v = .str x := by cases h; rfl
theorem Den.of_none {v : V} (h : Den K G v .none) : v = .non := by cases h; rfl
theorem Den.of_tup {v : V} {ds : List D} (h : Den K G v (.tuple ds)) : ∃ a xs, v = .ref a ∧ SqT K G a xs ∧ DenL K G xs ds := by
  cases h with
  | tup s l => exact ⟨_, _, rfl, s, l⟩
theorem Den.of_lst {v : V} {ds : List D} (h : Den K G v (.list ds)) : ∃ a xs, v = .ref a ∧ SqX K G a xs ∧ DenL K G xs ds := by
  cases h with
  | lst s l => exact ⟨_, _, rfl, s, l⟩
end

/-! ### owned trees -/
inductive T where
  | fz (d : D)
  | ol (ts : List T)
  | ot (ts : List T)
  | od (kvs : List (D × T))

mutual
def T.er : T → D
  | .fz d => d
  | .ol ts => .list (T.erL ts)
  | .ot ts => .tuple (T.erL ts)
  | .od kvs => .dict (T.erK kvs)
def T.erL : List T → List D
  | [] => []
  | t :: r => t.er :: T.erL r
def T.erK : List (D × T) → List (D × D)
  | [] => []
  | (k, t) :: r => (k, t.er) :: T.erK r
end
theorem T.erL_eq : ∀ ts : List T, T.erL ts = ts.map T.er
  | [] => by simp [T.erL]
  | t :: r => by simp [T.erL, T.erL_eq r]
theorem T.erL_fz (ds : List D) : T.erL (ds.map T.fz) = ds := by
  induction ds with
  | nil => simp [T.erL]
  | cons d r ih => simp [T.erL, T.er, ih]
theorem T.erK_fz (ds : List (D × D)) : T.erK (ds.map fun p => (p.1, T.fz p.2)) = ds := by
  induction ds with
  | nil => simp [T.erK]
  | cons d r ih => simp [T.erK, T.er, ih]

mutual
inductive Own (K : Frg) (G H : Hp) : V → T → List Addr → Prop
  | fz {v : V} {d : D} : Den K G v d → Own K G H v (.fz d) []
  | ol {a : Addr} {vs : List V} {ts : List T} {F : List Addr} : H a = some (.lst vs) → OwnL K G H vs ts F → Own K G H (.ref a) (.ol ts) (a :: F)
  | ot {a : Addr} {vs : List V} {ts : List T} {F : List Addr} : SqT K G a vs → OwnL K G H vs ts F → Own K G H (.ref a) (.ot ts) F
  | odk {a : Addr} {ks : List (Key × V)} {kvs : List (D × T)} {F : List Addr} : H a = some (.dK ks) → OwnK K G H ks kvs F → Own K G H (.ref a) (.od kvs) (a :: F)
  | odt {a : Addr} {ks : List (List Key × V)} {kvs : List (D × T)} {F : List Addr} : H a = some (.dT ks) → OwnT K G H ks kvs F → Own K G H (.ref a) (.od kvs) (a :: F)
inductive OwnL (K : Frg) (G H : Hp) : List V → List T → List Addr → Prop
  | nil : OwnL K G H [] [] []
  | cons {v : V} {vs : List V} {t : T} {ts : List T} {F F' : List Addr} : Own K G H v t F → OwnL K G H vs ts F' → OwnL K G H (v :: vs) (t :: ts) (F ++ F')
inductive OwnK (K : Frg) (G H : Hp) : List (Key × V) → List (D × T) → List Addr → Prop
  | nil : OwnK K G H [] [] []
  | cons {k : Key} {v : V} {ks : List (Key × V)} {t : T} {kvs : List (D × T)} {F F' : List Addr} : Own K G H v t F → OwnK K G H ks kvs F' → OwnK K G H ((k, v) :: ks) ((keyD k, t) :: kvs) (F ++ F')
inductive OwnT (K : Frg) (G H : Hp) : List (List Key × V) → List (D × T) → List Addr → Prop
  | nil : OwnT K G H [] [] []
  | cons {k : List Key} {v : V} {ks : List (List Key × V)} {t : T} {kvs : List (D × T)} {F F' : List Addr} : Own K G H v t F → OwnT K G H ks kvs F' → OwnT K G H ((k, v) :: ks) ((.tuple (k.map keyD), t) :: kvs) (F ++ F')
end

section
variable {K : Frg} {G H G' H' : Hp}
/- an owned thing stays while its own objects do -/
mutual
theorem Own.stay (g : GLe G G') : ∀ {v : V} {t : T} {F : List Addr}, (∀ a ∈ F, H' a = H a) → Own K G H v t F → Own K G' H' v t F
  | _, _, _, _, .fz d => .fz (d.up g)
  | _, _, _, k, .ol h l => .ol (by rw [k _ List.mem_cons_self]; exact h) (l.stay g fun a m => k a (List.mem_cons_of_mem _ m))
  | _, _, _, k, .ot h l => .ot (g.sqT h) (l.stay g k)
  | _, _, _, k, .odk h l => .odk (by rw [k _ List.mem_cons_self]; exact h) (l.stay g fun a m => k a (List.mem_cons_of_mem _ m))
  | _, _, _, k, .odt h l => .odt (by rw [k _ List.mem_cons_self]; exact h) (l.stay g fun a m => k a (List.mem_cons_of_mem _ m))
theorem OwnL.stay (g : GLe G G') : ∀ {v : List V} {t : List T} {F : List Addr}, (∀ a ∈ F, H' a = H a) → OwnL K G H v t F → OwnL K G' H' v t F
  | _, _, _, _, .nil => .nil
  | _, _, _, k, .cons h l => .cons (h.stay g fun a m => k a (List.mem_append_left _ m)) (l.stay g fun a m => k a (List.mem_append_right _ m))
theorem OwnK.stay (g : GLe G G') : ∀ {v : List (Key × V)} {t : List (D × T)} {F : List Addr}, (∀ a ∈ F, H' a = H a) → OwnK K G H v t F → OwnK K G' H' v t F
  | _, _, _, _, .nil => .nil
  | _, _, _, k, .cons h l => .cons (h.stay g fun a m => k a (List.mem_append_left _ m)) (l.stay g fun a m => k a (List.mem_append_right _ m))
theorem OwnT.stay (g : GLe G G') : ∀ {v : List (List Key × V)} {t : List (D × T)} {F : List Addr}, (∀ a ∈ F, H' a = H a) → OwnT K G H v t F → OwnT K G' H' v t F
  | _, _, _, _, .nil => .nil
  | _, _, _, k, .cons h l => .cons (h.stay g fun a m => k a (List.mem_append_left _ m)) (l.stay g fun a m => k a (List.mem_append_right _ m))
end
/- what it stands for, by the frozen part and its own objects -/
mutual
theorem Own.den {Z : Hp} (g : GLe G Z) : ∀ {v : V} {t : T} {F : List Addr}, (∀ a ∈ F, Z a = H a) → Own K G H v t F → Den K Z v t.er
  | _, _, _, _, .fz d => by rw [T.er]; exact d.up g
  | _, _, _, k, .ol h l => by rw [T.er]; exact .lst (.inl (.inl (by rw [k _ List.mem_cons_self]; exact h))) (l.den g fun a m => k a (List.mem_cons_of_mem _ m))
  | _, _, _, k, .ot h l => by rw [T.er]; exact .tup (g.sqT h) (l.den g k)
  | _, _, _, k, .odk h l => by rw [T.er]; exact .dk (.inl (by rw [k _ List.mem_cons_self]; exact h)) (l.den g fun a m => k a (List.mem_cons_of_mem _ m))
  | _, _, _, k, .odt h l => by rw [T.er]; exact .dt (.inl (by rw [k _ List.mem_cons_self]; exact h)) (l.den g fun a m => k a (List.mem_cons_of_mem _ m))
theorem OwnL.den {Z : Hp} (g : GLe G Z) : ∀ {v : List V} {t : List T} {F : List Addr}, (∀ a ∈ F, Z a = H a) → OwnL K G H v t F → DenL K Z v (T.erL t)
  | _, _, _, _, .nil => by rw [T.erL]; exact .nil
  | _, _, _, k, .cons h l => by rw [T.erL]; exact .cons (h.den g fun a m => k a (List.mem_append_left _ m)) (l.den g fun a m => k a (List.mem_append_right _ m))
theorem OwnK.den {Z : Hp} (g : GLe G Z) : ∀ {v : List (Key × V)} {t : List (D × T)} {F : List Addr}, (∀ a ∈ F, Z a = H a) → OwnK K G H v t F → DenK K Z v (T.erK t)
  | _, _, _, _, .nil => by rw [T.erK]; exact .nil
  | _, _, _, k, .cons h l => by rw [T.erK]; exact .cons (h.den g fun a m => k a (List.mem_append_left _ m)) (l.den g fun a m => k a (List.mem_append_right _ m))
theorem OwnT.den {Z : Hp} (g : GLe G Z) : ∀ {v : List (List Key × V)} {t : List (D × T)} {F : List Addr}, (∀ a ∈ F, Z a = H a) → OwnT K G H v t F → DenT K Z v (T.erK t)
  | _, _, _, _, .nil => by rw [T.erK]; exact .nil
  | _, _, _, k, .cons h l => by rw [T.erK]; exact .cons (h.den g fun a m => k a (List.mem_append_left _ m)) (l.den g fun a m => k a (List.mem_append_right _ m))
end
/-- an owned object is a list or a dict -/
def box : Option HO → Prop
  | some (.lst _) => True
  | some (.dK _) => True
  | some (.dT _) => True
  | _ => False
mutual
theorem Own.boxes : ∀ {v : V} {t : T} {F : List Addr}, Own K G H v t F → ∀ a ∈ F, box (H a)
  | _, _, _, .fz _, _, m => nomatch m
  | _, _, _, .ol h l, a, m => by
    rcases List.mem_cons.mp m with e | m
    · rw [e, h]; trivial
    · exact l.boxes a m
  | _, _, _, .ot _ l, a, m => l.boxes a m
  | _, _, _, .odk h l, a, m => by
    rcases List.mem_cons.mp m with e | m
    · rw [e, h]; trivial
    · exact l.boxes a m
  | _, _, _, .odt h l, a, m => by
    rcases List.mem_cons.mp m with e | m
    · rw [e, h]; trivial
    · exact l.boxes a m
theorem OwnL.boxes : ∀ {v : List V} {t : List T} {F : List Addr}, OwnL K G H v t F → ∀ a ∈ F, box (H a)
  | _, _, _, .nil, _, m => nomatch m
  | _, _, _, .cons h l, a, m => by
    rcases List.mem_append.mp m with m | m
    · exact h.boxes a m
    · exact l.boxes a m
theorem OwnK.boxes : ∀ {v : List (Key × V)} {t : List (D × T)} {F : List Addr}, OwnK K G H v t F → ∀ a ∈ F, box (H a)
  | _, _, _, .nil, _, m => nomatch m
  | _, _, _, .cons h l, a, m => by
    rcases List.mem_append.mp m with m | m
    · exact h.boxes a m
    · exact l.boxes a m
theorem OwnT.boxes : ∀ {v : List (List Key × V)} {t : List (D × T)} {F : List Addr}, OwnT K G H v t F → ∀ a ∈ F, box (H a)
  | _, _, _, .nil, _, m => nomatch m
  | _, _, _, .cons h l, a, m => by
    rcases List.mem_append.mp m with m | m
    · exact h.boxes a m
    · exact l.boxes a m
end
theorem box_some {o : Option HO} (h : box o) : ∃ u, o = some u := by
  cases o with
  | none => exact h.elim
  | some u => exact ⟨u, rfl⟩
end

/-! ### the slots, a state, a step -/
abbrev Env := List (Option T)
inductive Slots (K : Frg) (G H : Hp) : L2.St → Env → List Addr → Prop
  | nil : Slots K G H [] [] []
  | no {x : Option V} {σ : L2.St} {env : Env} {F : List Addr} : Slots K G H σ env F → Slots K G H (x :: σ) (none :: env) F
  | so {v : V} {t : T} {σ : L2.St} {env : Env} {F F' : List Addr} : Own K G H v t F → Slots K G H σ env F' → Slots K G H (some v :: σ) (some t :: env) (F ++ F')
structure Sta (K : Frg) (G H : Hp) (σ : L2.St) (env : Env) (Fp : List Addr) : Prop where
  le : GLe G H
  sl : Slots K G H σ env Fp
  nd : Fp.Nodup
  ap : ∀ a ∈ Fp, G a = none
structure Step (G H : Hp) (Fp : List Addr) (G' H' : Hp) (Fp' : List Addr) : Prop where
  keep : ∀ a o, H a = some o → a ∉ Fp → H' a = some o
  sub : Same G G'
  frG : ∀ a, G' a ≠ none → G a ≠ none ∨ H a = none ∨ a ∈ Fp ∨ ∃ xs, H a = some (.tup xs)
  frF : ∀ a ∈ Fp', H a = none ∨ a ∈ Fp
theorem Step.refl {G H : Hp} {Fp : List Addr} : Step G H Fp G H Fp := ⟨fun _ _ h _ => h, Same.refl _, fun _ h => .inl h, fun _ h => .inr h⟩
theorem Step.trans {G H G1 H1 G2 H2 : Hp} {F F1 F2 : List Addr} (a : Step G H F G1 H1 F1) (b : Step G1 H1 F1 G2 H2 F2) : Step G H F G2 H2 F2 := by
  refine ⟨fun x o h n => b.keep x o (a.keep x o h n) fun m => ?_, a.sub.trans b.sub, fun x h => ?_, fun x h => ?_⟩
  · rcases a.frF x m with z | z
    · rw [h] at z; cases z
    · exact n z
  · have back : H1 x = none → H x = none ∨ x ∈ F := fun q => by
      by_cases m : x ∈ F
      · exact .inr m
      · cases e : H x with
        | none => exact .inl rfl
        | some o => rw [a.keep x o e m] at q; cases q
    rcases b.frG x h with q | q | q | ⟨xs, q⟩
    · exact a.frG x q
    · rcases back q with z | z
      · exact .inr (.inl z)
      · exact .inr (.inr (.inl z))
    · rcases a.frF x q with z | z
      · exact .inr (.inl z)
      · exact .inr (.inr (.inl z))
    · by_cases m : x ∈ F
      · exact .inr (.inr (.inl m))
      · cases e : H x with
        | none => exact .inr (.inl rfl)
        | some o =>
          have z := a.keep x o e m
          rw [q] at z
          cases z
          exact .inr (.inr (.inr ⟨xs, rfl⟩))
  · rcases b.frF x h with q | q
    · by_cases m : x ∈ F
      · exact .inr m
      · cases e : H x with
        | none => exact .inl rfl
        | some o => rw [a.keep x o e m] at q; cases q
    · exact a.frF x q

/-- new objects, some of them frozen, some tuples frozen: nothing else changes -/
structure Grow (G H G' H' : Hp) : Prop where
  same : Same H H'
  sub : Same G G'
  le : GLe G' H'
  frG : ∀ a, G' a ≠ none → G a ≠ none ∨ H a = none ∨ ∃ xs, H a = some (.tup xs)
section
variable {K : Frg} {G H G' H' G'' H'' : Hp} {σ : L2.St} {env : Env} {Fp : List Addr}
theorem Grow.refl (g : GLe G H) : Grow G H G H := ⟨Same.refl _, Same.refl _, g, fun _ h => .inl h⟩
theorem Grow.step (g : Grow G H G' H') : Step G H Fp G' H' Fp := ⟨fun a o h _ => g.same a o h, g.sub, fun a h => by
  rcases g.frG a h with q | q | q
  · exact .inl q
  · exact .inr (.inl q)
  · exact .inr (.inr (.inr q)), fun _ h => .inr h⟩
theorem Grow.trans (a : Grow G H G' H') (b : Grow G' H' G'' H'') : Grow G H G'' H'' := by
  refine ⟨a.same.trans b.same, a.sub.trans b.sub, b.le, fun x h => ?_⟩
  rcases b.frG x h with q | q | ⟨xs, q⟩
  · exact a.frG x q
  · exact .inr (.inl (a.same.free q))
  · cases e : H x with
    | none => exact .inr (.inl rfl)
    | some o =>
      have z := a.same x o e
      rw [q] at z
      cases z
      exact .inr (.inr ⟨xs, rfl⟩)
theorem Slots.boxes : ∀ {σ : L2.St} {env : Env} {F : List Addr}, Slots K G H σ env F → ∀ a ∈ F, box (H a)
  | _, _, _, .nil, _, m => nomatch m
  | _, _, _, .no r, a, m => r.boxes a m
  | _, _, _, .so h r, a, m => by
    rcases List.mem_append.mp m with m | m
    · exact h.boxes a m
    · exact r.boxes a m
theorem Slots.stay (g : GLe G G') : ∀ {σ : L2.St} {env : Env} {F : List Addr}, (∀ a ∈ F, H' a = H a) → Slots K G H σ env F → Slots K G' H' σ env F
  | _, _, _, _, .nil => .nil
  | _, _, _, k, .no r => .no (r.stay g k)
  | _, _, _, k, .so h r => .so (h.stay g fun a m => k a (List.mem_append_left _ m)) (r.stay g fun a m => k a (List.mem_append_right _ m))
theorem Slots.len : ∀ {σ : L2.St} {env : Env} {F : List Addr}, Slots K G H σ env F → σ.length = env.length
  | _, _, _, .nil => rfl
  | _, _, _, .no r => congrArg (· + 1) r.len
  | _, _, _, .so _ r => congrArg (· + 1) r.len
theorem same_box (s : Same H H') {a : Addr} (b : box (H a)) : H' a = H a := by
  obtain ⟨u, e⟩ := box_some b
  rw [e]; exact s a u e
theorem Sta.grow (S : Sta K G H σ env Fp) (g : Grow G H G' H') : Sta K G' H' σ env Fp := by
  refine ⟨g.le, S.sl.stay (same_gle g.sub) (fun a m => same_box g.same (S.sl.boxes a m)), S.nd, fun a m => ?_⟩
  have b := S.sl.boxes a m
  cases e : G' a with
  | none => rfl
  | some o =>
    rcases g.frG a (by rw [e]; exact fun z => nomatch z) with q | q | ⟨xs, q⟩
    · exact absurd (S.ap a m) q
    · rw [q] at b; exact b.elim
    · rw [q] at b; exact b.elim
/-- the whole heap as it is -/
theorem Sta.view (S : Sta K G H σ env Fp) {v : V} {d : D} (h : Den K G v d) : Den K H v d := h.up S.le
/-- a slot that is known -/
theorem Slots.at : ∀ {σ : L2.St} {env : Env} {F : List Addr} {i : Nat} {t : T}, Slots K G H σ env F → env[i]? = some (some t) → ∃ v F0, σ[i]? = some (some v) ∧ Own K G H v t F0 ∧ ∀ a ∈ F0, a ∈ F
  | _, _, _, 0, _, .so h r, e => by cases e; exact ⟨_, _, rfl, h, fun a m => List.mem_append_left _ m⟩
  | _, _, _, i + 1, t, .so h r, e => by
    obtain ⟨v, F0, e1, o, k⟩ := Slots.at (i := i) r e
    exact ⟨v, F0, e1, o, fun a m => List.mem_append_right _ (k a m)⟩
  | _, _, _, 0, _, .no r, e => by cases e
  | _, _, _, i + 1, t, .no r, e => Slots.at (i := i) r e
end
end DL

/-! The data layer, part B: what code computes on data, judgements, sequencing. -/
namespace DL
open PySem L2

structure Exc where
  cls : Str
  fs : List (Str × D)
inductive Rs (α : Type) where
  | bad
  | ok (a : α) (env : Env)
  | exn (x : Exc) (env : Env)
abbrev M (α : Type) := Env → Rs α
def M.pure {α : Type} (a : α) : M α := fun env => .ok a env
def M.bind {α β : Type} (m : M α) (f : α → M β) : M β := fun env => match m env with
  | .bad => .bad
  | .ok a e => f a e
  | .exn x e => .exn x e
def M.lift {α : Type} (o : Option α) : M α := fun env => match o with
  | none => .bad
  | some a => .ok a env
def M.map {α β : Type} (f : α → β) (m : M α) : M β := m.bind fun a => M.pure (f a)
theorem M.bind_ok {α β : Type} {m : M α} {f : α → M β} {env env' : Env} {a : α} (h : m env = .ok a env') : (m.bind f) env = f a env' := by unfold M.bind; rw [h]
theorem M.bind_bad {α β : Type} {m : M α} {f : α → M β} {env : Env} (h : m env = .bad) : (m.bind f) env = .bad := by unfold M.bind; rw [h]
theorem M.bind_exn {α β : Type} {m : M α} {f : α → M β} {env env' : Env} {x : Exc} (h : m env = .exn x env') : (m.bind f) env = .exn x env' := by unfold M.bind; rw [h]

def ExcOk (K : Frg) (mg : Str → Option Value) (G H : Hp) (x : Exc) (cls : Value) (dd : Option Addr) : Prop :=
  mg x.cls = some cls ∧ match x.fs with
  | [] => dd = none
  | (f, d) :: _ => ∃ a v, dd = some a ∧ H a = some (.xd [(f, v)]) ∧ Den K G v d

def Post {α β : Type} (K : Frg) (mg : Str → Option Value) (W : WX) (Vr : Hp → Hp → β → α → List Addr → Prop) (pu : Bool) (σ : L2.St) (G H : Hp) (Fp : List Addr) (env : Env) (Q : β → Hp → Prop) : Rs α → Prop
  | .bad => False
  | .ok a env' => ∀ b G' H' Fp' Fr, Step G H Fp G' H' (Fr ++ Fp') → Sta K G' H' σ env' Fp' → (Fr ++ Fp').Nodup → (∀ x ∈ Fr, G' x = none) → (pu = true → env' = env ∧ Fp' = Fp ∧ Grow G H G' H') → Vr G' H' b a Fr → Q b H'
  | .exn x env' => ∀ cls dd G' H' Fp', Step G H Fp G' H' Fp' → Sta K G' H' σ env' Fp' → ExcOk K mg G' H' x cls dd → W cls dd σ H'

section
variable {X : Cx} {W : WX} {α β γ δ : Type} {Vr : Hp → Hp → β → α → List Addr → Prop} {Ur : Hp → Hp → δ → γ → List Addr → Prop} {pu pu1 pu2 : Bool} {σ : L2.St} {G H G1 H1 : Hp} {Fp Fp1 : List Addr} {env env1 : Env} {Q : β → Hp → Prop} {R : δ → Hp → Prop}
/-- from a later state on -/
theorem Post.shift {r : Rs α} (h : Post X.K X.mg W Vr (pu1 && pu2) σ G H Fp env Q r) (st : Step G H Fp G1 H1 Fp1) (p : pu1 = true → env1 = env ∧ Fp1 = Fp ∧ Grow G H G1 H1) : Post X.K X.mg W Vr pu2 σ G1 H1 Fp1 env1 Q r := by
  cases r with
  | bad => exact h
  | ok a env' =>
    intro b G' H' Fp' Fr st' S nd ap q v
    refine h b G' H' Fp' Fr (st.trans st') S nd ap (fun z => ?_) v
    obtain ⟨z1, z2⟩ := Bool.and_eq_true_iff.mp z
    obtain ⟨e1, f1, g1⟩ := p z1
    obtain ⟨e2, f2, g2⟩ := q z2
    exact ⟨e2.trans e1, f2.trans f1, g1.trans g2⟩
  | exn x env' => exact fun cls dd G' H' Fp' st' S e => h cls dd G' H' Fp' (st.trans st') S e
/-- one after the other -/
theorem Post.bind {m : M γ} {f : γ → M α} (h : Post X.K X.mg W Vr (pu1 && pu2) σ G H Fp env Q ((m.bind f) env)) (hV : ∀ G H b a Fr, Ur G H b a Fr → Fr = [])
    (k : ∀ a env1 b G1 H1 Fp1, Step G H Fp G1 H1 Fp1 → Sta X.K G1 H1 σ env1 Fp1 → (pu1 = true → env1 = env ∧ Fp1 = Fp ∧ Grow G H G1 H1) → Ur G1 H1 b a [] → Post X.K X.mg W Vr pu2 σ G1 H1 Fp1 env1 Q (f a env1) → R b H1) :
    Post X.K X.mg W Ur pu1 σ G H Fp env R (m env) := by
  cases e : m env with
  | bad => rw [M.bind_bad e] at h; exact h
  | exn x env' => rw [M.bind_exn e] at h; exact h
  | ok a env' =>
    rw [M.bind_ok e] at h
    intro b G' H' Fp' Fr st S nd ap p v
    obtain rfl := hV _ _ _ _ _ v
    exact k a env' b G' H' Fp' st S p v (h.shift st p)
theorem Post.bindE {m : M γ} {f : γ → M α} (h : Post X.K X.mg W Vr (pu1 && pu2) σ G H Fp env Q ((m.bind f) env)) (hV : ∀ G H b a Fr, Ur G H b a Fr → Fr = [])
    (k : ∀ a env1 b G1 H1 Fp1, m env = .ok a env1 → Step G H Fp G1 H1 Fp1 → Sta X.K G1 H1 σ env1 Fp1 → (pu1 = true → env1 = env ∧ Fp1 = Fp ∧ Grow G H G1 H1) → Ur G1 H1 b a [] → Post X.K X.mg W Vr pu2 σ G1 H1 Fp1 env1 Q (f a env1) → R b H1) :
    Post X.K X.mg W Ur pu1 σ G H Fp env R (m env) := by
  cases e : m env with
  | bad => rw [M.bind_bad e] at h; exact h
  | exn x env' => rw [M.bind_exn e] at h; exact h
  | ok a env' =>
    rw [M.bind_ok e] at h
    intro b G' H' Fp' Fr st S nd ap p v
    obtain rfl := hV _ _ _ _ _ v
    exact k a env' b G' H' Fp' e st S p v (h.shift st p)
/-- the end: a value that is there -/
theorem Post.lift {o : Option α} (h : Post X.K X.mg W Vr true σ G H Fp env Q (M.lift o env)) (S : Sta X.K G H σ env Fp) : ∃ a, o = some a ∧ ∀ b G' H' Fr, Grow G H G' H' → Step G H Fp G' H' (Fr ++ Fp) → (Fr ++ Fp).Nodup → (∀ x ∈ Fr, G' x = none) → Vr G' H' b a Fr → Q b H' := by
  cases o with
  | none => exact h.elim
  | some a => exact ⟨a, rfl, fun b G' H' Fr g st nd ap v => h b G' H' Fp Fr st (S.grow g) nd ap (fun _ => ⟨rfl, rfl, g⟩) v⟩
theorem Post.lift0 {o : Option α} (h : Post X.K X.mg W Vr true σ G H Fp env Q (M.lift o env)) (S : Sta X.K G H σ env Fp) : ∃ a, o = some a ∧ ∀ b G' H', Grow G H G' H' → Vr G' H' b a [] → Q b H' := by
  obtain ⟨a, e, k⟩ := h.lift S
  exact ⟨a, e, fun b G' H' g v => k b G' H' [] g g.step S.nd (fun _ m => nomatch m) v⟩
theorem Post.imp {δ : Type} {Wr : Hp → Hp → δ → α → List Addr → Prop} {R : δ → Hp → Prop} {r : Rs α} (h : Post X.K X.mg W Vr pu σ G H Fp env Q r) (k : ∀ b a G' H' Fr, Wr G' H' b a Fr → ∃ c, Vr G' H' c a Fr ∧ (Q c H' → R b H')) : Post X.K X.mg W Wr pu σ G H Fp env R r := by
  cases r with
  | bad => exact h
  | ok a env' =>
    intro b G' H' Fp' Fr st S nd ap q v
    obtain ⟨c, v', kq⟩ := k b a G' H' Fr v
    exact kq (h c G' H' Fp' Fr st S nd ap q v')
  | exn x env' => exact h
theorem Post.pure_less {r : Rs α} (h : Post X.K X.mg W Vr false σ G H Fp env Q r) : Post X.K X.mg W Vr pu σ G H Fp env Q r := by
  cases r with
  | bad => exact h
  | ok a env' => exact fun b G' H' Fp' Fr st S nd ap _ v => h b G' H' Fp' Fr st S nd ap (fun z => nomatch z) v
  | exn x env' => exact h
end

/-! ### judgements -/
inductive Md where
  | view | frz
def VrD (K : Frg) (md : Md) : Hp → Hp → V → D → List Addr → Prop := fun G H v d Fr => Fr = [] ∧ match md with
  | .view => Den K H v d
  | .frz => Den K G v d
def VrT (K : Frg) : Hp → Hp → V → T → List Addr → Prop := fun G H v t Fr => Own K G H v t Fr
def VrB : Hp → Hp → Bool → Bool → List Addr → Prop := fun _ _ b a Fr => Fr = [] ∧ b = a
def VrL (K : Frg) (md : Md) : Hp → Hp → List V → List D → List Addr → Prop := fun G H v d Fr => Fr = [] ∧ match md with
  | .view => DenL K H v d
  | .frz => DenL K G v d
def VrTs (K : Frg) : Hp → Hp → List V → List T → List Addr → Prop := fun G H v t Fr => OwnL K G H v t Fr

section
variable (X : Cx) (W : WX)
/-- an expression computes data -/
def Ex (md : Md) (pu : Bool) (e : Expr) (m : M D) : Prop :=
  ∃ te : TE, PE X e te ∧ ∀ G H σ env Fp Q, Sta X.K G H σ env Fp → Post X.K X.mg W (VrD X.K md) pu σ G H Fp env Q (m env) → te σ H Q
/-- an expression makes an owned tree -/
def Eo (pu : Bool) (e : Expr) (m : M T) : Prop :=
  ∃ te : TE, PE X e te ∧ ∀ G H σ env Fp Q, Sta X.K G H σ env Fp → Post X.K X.mg W (VrT X.K) pu σ G H Fp env Q (m env) → te σ H Q
/-- a test -/
def Et (pu : Bool) (e : Expr) (m : M Bool) : Prop :=
  ∃ tt : TT, PT X e tt ∧ ∀ G H σ env Fp Q, Sta X.K G H σ env Fp → Post X.K X.mg W VrB pu σ G H Fp env Q (m env) → tt σ H Q
/-- a chain of and, or -/
def Ew (pu : Bool) (e : Expr) (m : M Bool) : Prop :=
  ∃ tt : TT, PW X e tt ∧ ∀ G H σ env Fp Q, Sta X.K G H σ env Fp → Post X.K X.mg W VrB pu σ G H Fp env Q (m env) → tt σ H Q
/-- arguments -/
def Ea (md : Md) (pu : Bool) (es : List Expr) (m : M (List D)) : Prop :=
  ∃ ta : TA, PA X es ta ∧ ∀ G H σ env Fp Q, Sta X.K G H σ env Fp → Post X.K X.mg W (VrL X.K md) pu σ G H Fp env Q (m env) → ta σ H Q
def Ey (pu : Bool) (es : List Expr) (m : M (List T)) : Prop :=
  ∃ ta : TA, PA X es ta ∧ ∀ G H σ env Fp Q, Sta X.K G H σ env Fp → Post X.K X.mg W (VrTs X.K) pu σ G H Fp env Q (m env) → ta σ H Q
end

section
variable {X : Cx} {W : WX} {md : Md} {pu pa pb : Bool} {e a b c : Expr} {es : List Expr} {m ma mb : M D} {mt : M T} {pos : Pos}

theorem vrd_nil {K : Frg} {md : Md} : ∀ G H v d Fr, VrD K md G H v d Fr → Fr = [] := fun _ _ _ _ _ h => h.1
theorem vrb_nil : ∀ G H v d Fr, VrB G H v d Fr → Fr = [] := fun _ _ _ _ _ h => h.1
theorem vrl_nil {K : Frg} {md : Md} : ∀ G H v d Fr, VrL K md G H v d Fr → Fr = [] := fun _ _ _ _ _ h => h.1
theorem VrD.den {K : Frg} {md : Md} {G H : Hp} {v : V} {d : D} {Fr : List Addr} (g : GLe G H) (h : VrD K md G H v d Fr) : Den K H v d := by
  cases md with
  | view => exact h.2
  | frz => exact h.2.up g

/-! ### changing a judgement -/
theorem Ex.toView (h : Ex X W .frz pu e m) : Ex X W .view pu e m := by
  obtain ⟨te, p, k⟩ := h
  refine ⟨te, p, fun G H σ env Fp Q S q => k G H σ env Fp Q S ?_⟩
  cases r : m env with
  | bad => rw [r] at q; exact q
  | exn x env' => rw [r] at q; exact q
  | ok d env' =>
    rw [r] at q
    exact fun b G' H' Fp' Fr st S' nd ap p v => q b G' H' Fp' Fr st S' nd ap p ⟨v.1, v.2.up S'.le⟩
theorem Ex.impure (h : Ex X W md pu e m) : Ex X W md false e m := by
  obtain ⟨te, p, k⟩ := h
  exact ⟨te, p, fun G H σ env Fp Q S q => k G H σ env Fp Q S q.pure_less⟩
theorem Eo.impure (h : Eo X W pu e mt) : Eo X W false e mt := by
  obtain ⟨te, p, k⟩ := h
  exact ⟨te, p, fun G H σ env Fp Q S q => k G H σ env Fp Q S q.pure_less⟩
/-- data that has no heap -/
theorem Ex.sc (h : Ex X W .view pu e m) (hs : ∀ env d env', m env = .ok d env' → flat d = true) : Ex X W .frz pu e m := by
  obtain ⟨te, p, k⟩ := h
  refine ⟨te, p, fun G H σ env Fp Q S q => k G H σ env Fp Q S ?_⟩
  cases r : m env with
  | bad => rw [r] at q; exact q
  | exn x env' => rw [r] at q; exact q
  | ok d env' =>
    rw [r] at q
    exact fun b G' H' Fp' Fr st S' nd ap p v => q b G' H' Fp' Fr st S' nd ap p ⟨v.1, Den.flat v.2 (hs _ _ _ r) G'⟩
/-- frozen data as an owned tree -/
theorem Ex.own (h : Ex X W .frz pu e m) : Eo X W pu e (m.map T.fz) := by
  obtain ⟨te, p, k⟩ := h
  refine ⟨te, p, fun G H σ env Fp Q S q => k G H σ env Fp Q S ?_⟩
  unfold M.map at q
  cases r : m env with
  | bad => rw [M.bind_bad r] at q; exact q
  | exn x env' => rw [M.bind_exn r] at q; exact q
  | ok d env' =>
    rw [M.bind_ok r] at q
    exact fun b G' H' Fp' Fr st S' nd ap p v => q b G' H' Fp' Fr st S' nd ap p (by obtain ⟨rfl, v⟩ := v; exact .fz v)

/-- freezing some owned objects -/
def frzAt (G H : Hp) (F : List Addr) : Hp := fun a => if a ∈ F then H a else G a
theorem frzAt_in {G H : Hp} {F : List Addr} {a : Addr} (h : a ∈ F) : frzAt G H F a = H a := by unfold frzAt; rw [if_pos h]
theorem frzAt_out {G H : Hp} {F : List Addr} {a : Addr} (h : a ∉ F) : frzAt G H F a = G a := by unfold frzAt; rw [if_neg h]
theorem frz_same {G H : Hp} {F : List Addr} (ap : ∀ a ∈ F, G a = none) : Same G (frzAt G H F) := fun a o h => by
  by_cases m : a ∈ F
  · rw [ap a m] at h; cases h
  · rw [frzAt_out m]; exact h
theorem frz_le {G H : Hp} {F : List Addr} (g : GLe G H) : GLe (frzAt G H F) H := fun a o h => by
  by_cases m : a ∈ F
  · rw [frzAt_in m] at h; exact .inl h
  · rw [frzAt_out m] at h; exact g a o h
/-- an owned tree is frozen -/
theorem Eo.freeze (h : Eo X W pu e mt) : Ex X W .frz pu e (mt.map T.er) := by
  obtain ⟨te, p, k⟩ := h
  refine ⟨te, p, fun G H σ env Fp Q S q => k G H σ env Fp Q S ?_⟩
  unfold M.map at q
  cases r : mt env with
  | bad => rw [M.bind_bad r] at q; exact q
  | exn x env' => rw [M.bind_exn r] at q; exact q
  | ok t env' =>
    rw [M.bind_ok r] at q
    intro b G' H' Fp' Fr st S' nd ap p v
    have sm : Same G' (frzAt G' H' Fr) := frz_same ap
    have gl : GLe (frzAt G' H' Fr) H' := frz_le S'.le
    have bx : ∀ a ∈ Fr, box (H' a) := v.boxes
    have nin : ∀ a ∈ Fp', a ∉ Fr := fun a m z => (List.nodup_append.mp nd).2.2 a z a m rfl
    have st2 : Step G H Fp (frzAt G' H' Fr) H' ([] ++ Fp') := ⟨st.keep, st.sub.trans sm, fun a ha => by
      by_cases m : a ∈ Fr
      · rcases st.frF a (List.mem_append_left _ m) with z | z
        · exact .inr (.inl z)
        · exact .inr (.inr (.inl z))
      · rw [frzAt_out m] at ha; exact st.frG a ha, fun a m => st.frF a (List.mem_append_right _ m)⟩
    refine q b (frzAt G' H' Fr) H' Fp' [] st2 ⟨gl, S'.sl.stay (same_gle sm) (fun _ _ => rfl), S'.nd, fun a m => ?_⟩ S'.nd (fun _ m => nomatch m) (fun z => ?_) ⟨rfl, v.den (same_gle sm) fun a m => frzAt_in m⟩
    · rw [frzAt_out (nin a m)]; exact S'.ap a m
    · obtain ⟨e1, e2, g⟩ := p z
      refine ⟨e1, e2, g.same, g.sub.trans sm, gl, fun a ha => ?_⟩
      by_cases m : a ∈ Fr
      · rcases st.frF a (List.mem_append_left _ m) with z | z
        · exact .inr (.inl z)
        · exact absurd m (nin a (by rw [e2]; exact z))
      · rw [frzAt_out m] at ha; exact g.frG a ha
/-- a test by a value that is a truth -/
def M.truth (m : M D) : M Bool := m.bind fun d => match d with
  | .bool b => M.pure b
  | _ => fun _ => .bad
end
end DL

/-! The data layer, part C: rules for expressions: names, constants, operators, comparisons, truth, displays. -/
namespace DL
open PySem L2

/-- the heap by which a mode reads -/
def gr (md : Md) (G H : Hp) : Hp := match md with
  | .view => H
  | .frz => G
theorem vrd_gr {K : Frg} {md : Md} {G H : Hp} {v : V} {d : D} {Fr : List Addr} : VrD K md G H v d Fr ↔ Fr = [] ∧ Den K (gr md G H) v d := by cases md <;> exact Iff.rfl
theorem vrl_gr {K : Frg} {md : Md} {G H : Hp} {v : List V} {d : List D} {Fr : List Addr} : VrL K md G H v d Fr ↔ Fr = [] ∧ DenL K (gr md G H) v d := by cases md <;> exact Iff.rfl
theorem gr_le {md : Md} {G H : Hp} (g : GLe G H) : GLe (gr md G H) H := by
  cases md
  · exact GLe.refl _
  · exact g
theorem gle_same {G H H' : Hp} (g : GLe G H) (s : Same H H') : GLe G H' := fun a o h => by
  rcases g a o h with q | ⟨n, b, q⟩
  · exact .inl (s a o q)
  · exact .inr ⟨n, b, s a _ q⟩
theorem grow_gr {K : Frg} {md : Md} {G H G1 H' : Hp} (g : GLe G H) (w : Grow (gr md G H) H G1 H') : ∃ G', Grow G H G' H' ∧ GLe G1 (gr md G' H') := by
  cases md with
  | frz => exact ⟨G1, w, GLe.refl _⟩
  | view => exact ⟨G, ⟨w.same, Same.refl _, gle_same g w.same, fun _ h => .inl h⟩, w.le⟩
/-- what was read before stays -/
theorem gr_stay {K : Frg} {md : Md} {pb : Bool} {G H G2 H2 : Hp} {Fp Fp2 : List Addr} {env env2 : Env} (hm : md = .frz ∨ pb = true) (st : Step G H Fp G2 H2 Fp2) (p : pb = true → env2 = env ∧ Fp2 = Fp ∧ Grow G H G2 H2) : GLe (gr md G H) (gr md G2 H2) := by
  cases md with
  | frz => exact same_gle st.sub
  | view =>
    rcases hm with z | z
    · cases z
    · exact same_gle (p z).2.2.same

/-! ### what readings of operations compute -/
def OpS (K : Frg) (r : R2) (g : D → D → Option D) : Prop := ∀ G H x y d1 d2 d Q, GLe G H → Den K G x d1 → Den K G y d2 → g d1 d2 = some d → (∀ v G' H', Grow G H G' H' → Den K G' v d → Q v H') → r x y H Q
def UnS (K : Frg) (r : V → Hp → VK → Prop) (g : D → Option D) : Prop := ∀ G H x d1 d Q, GLe G H → Den K G x d1 → g d1 = some d → (∀ v G' H', Grow G H G' H' → Den K G' v d → Q v H') → r x H Q
def CaS (K : Frg) (r : List V → Hp → VK → Prop) (g : List D → Option D) : Prop := ∀ G H xs ds d Q, GLe G H → DenL K G xs ds → g ds = some d → (∀ v G' H', Grow G H G' H' → Den K G' v d → Q v H') → r xs H Q
def CaO (K : Frg) (r : List V → Hp → VK → Prop) (g : List D → Option T) : Prop := ∀ G H xs ds t Q, GLe G H → DenL K G xs ds → g ds = some t →
  (∀ v G' H' F, Grow G H G' H' → Own K G' H' v t F → F.Nodup → (∀ a ∈ F, G' a = none ∧ H a = none) → Q v H') → r xs H Q
def OpO (K : Frg) (r : R2) (g : D → D → Option T) : Prop := ∀ G H x y d1 d2 t Q, GLe G H → Den K G x d1 → Den K G y d2 → g d1 d2 = some t →
  (∀ v G' H' F, Grow G H G' H' → Own K G' H' v t F → F.Nodup → (∀ a ∈ F, G' a = none ∧ H a = none) → Q v H') → r x y H Q
/-- the answers have no heap -/
def Flat2 (g : D → D → Option D) : Prop := ∀ a b d, g a b = some d → flat d = true
def Flat1 (g : D → Option D) : Prop := ∀ a d, g a = some d → flat d = true
def FlatL (g : List D → Option D) : Prop := ∀ a d, g a = some d → flat d = true
def orO {α : Type} : Option α → Option α → Option α
  | some a, _ => some a
  | none, b => b
theorem orO_some {α : Type} {a b : Option α} {c : α} (h : orO a b = some c) : a = some c ∨ b = some c := by
  cases a with
  | some x => exact .inl h
  | none => exact .inr h
theorem OpS.or {K : Frg} {r r' : R2} {g g' : D → D → Option D} (h : OpS K r g) (h' : OpS K r' g') : OpS K (fun x y H Q => r x y H Q ∨ r' x y H Q) (fun a b => orO (g a b) (g' a b)) :=
  fun G H x y d1 d2 d Q gl e1 e2 e k => by
    rcases orO_some e with e | e
    · exact .inl (h G H x y d1 d2 d Q gl e1 e2 e k)
    · exact .inr (h' G H x y d1 d2 d Q gl e1 e2 e k)
theorem OpO.or {K : Frg} {r r' : R2} {g g' : D → D → Option T} (h : OpO K r g) (h' : OpO K r' g') : OpO K (fun x y H Q => r x y H Q ∨ r' x y H Q) (fun a b => orO (g a b) (g' a b)) :=
  fun G H x y d1 d2 d Q gl e1 e2 e k => by
    rcases orO_some e with e | e
    · exact .inl (h G H x y d1 d2 d Q gl e1 e2 e k)
    · exact .inr (h' G H x y d1 d2 d Q gl e1 e2 e k)
theorem CaS.or {K : Frg} {r r' : List V → Hp → VK → Prop} {g g' : List D → Option D} (h : CaS K r g) (h' : CaS K r' g') : CaS K (fun xs H Q => r xs H Q ∨ r' xs H Q) (fun a => orO (g a) (g' a)) :=
  fun G H xs ds d Q gl e1 e k => by
    rcases orO_some e with e | e
    · exact .inl (h G H xs ds d Q gl e1 e k)
    · exact .inr (h' G H xs ds d Q gl e1 e k)
theorem CaO.or {K : Frg} {r r' : List V → Hp → VK → Prop} {g g' : List D → Option T} (h : CaO K r g) (h' : CaO K r' g') : CaO K (fun xs H Q => r xs H Q ∨ r' xs H Q) (fun a => orO (g a) (g' a)) :=
  fun G H xs ds d Q gl e1 e k => by
    rcases orO_some e with e | e
    · exact .inl (h G H xs ds d Q gl e1 e k)
    · exact .inr (h' G H xs ds d Q gl e1 e k)
/-- owned, then frozen -/
theorem own_frz {K : Frg} {G H G' H' : Hp} {v : V} {t : T} {F : List Addr} (w : Grow G H G' H') (o : Own K G' H' v t F) (n : ∀ a ∈ F, G' a = none ∧ H a = none) : ∃ G2, Grow G H G2 H' ∧ Den K G2 v t.er := by
  have sm : Same G' (frzAt G' H' F) := frz_same fun a m => (n a m).1
  refine ⟨frzAt G' H' F, ⟨w.same, w.sub.trans sm, frz_le w.le, fun a ha => ?_⟩, o.den (same_gle sm) fun a m => frzAt_in m⟩
  by_cases m : a ∈ F
  · exact .inr (.inl (n a m).2)
  · rw [frzAt_out m] at ha; exact w.frG a ha
theorem CaO.frz {K : Frg} {r : List V → Hp → VK → Prop} {g : List D → Option T} (h : CaO K r g) : CaS K r (fun a => (g a).map T.er) := fun G H xs ds d Q gl e1 e k => by
  have e : (g ds).map T.er = some d := e
  cases q : g ds with
  | none => rw [q] at e; cases e
  | some t =>
    rw [q] at e
    cases e
    refine h G H xs ds t Q gl e1 q fun v G' H' F w o nd n => ?_
    obtain ⟨G2, w2, d2⟩ := own_frz w o n
    exact k v G2 H' w2 d2
theorem OpO.frz {K : Frg} {r : R2} {g : D → D → Option T} (h : OpO K r g) : OpS K r (fun a b => (g a b).map T.er) := fun G H x y d1 d2 d Q gl e1 e2 e k => by
  have e : (g d1 d2).map T.er = some d := e
  cases q : g d1 d2 with
  | none => rw [q] at e; cases e
  | some t =>
    rw [q] at e
    cases e
    refine h G H x y d1 d2 t Q gl e1 e2 q fun v G' H' F w o nd n => ?_
    obtain ⟨G2, w2, d2⟩ := own_frz w o n
    exact k v G2 H' w2 d2
theorem grow_new {G H : Hp} (g : GLe G H) {p : Addr} (hp : H p = none) (o : HO) : Grow G H G (upd H p o) := by
  have s : Same H (upd H p o) := fun a u e => by rw [upd_ne (ne_of_none e hp)]; exact e
  exact ⟨s, Same.refl _, gle_same g s, fun _ h => .inl h⟩
theorem gle_none {G H : Hp} (g : GLe G H) {p : Addr} (hp : H p = none) : G p = none := by
  cases e : G p with
  | none => rfl
  | some o => exact absurd hp (g.some (by rw [e]; exact fun z => nomatch z))
theorem grow_newF {G H : Hp} (g : GLe G H) {p : Addr} (hp : H p = none) (o : HO) : Grow G H (upd G p o) (upd H p o) := by
  have s : Same H (upd H p o) := fun a u e => by rw [upd_ne (ne_of_none e hp)]; exact e
  have s' : Same G (upd G p o) := fun a u e => by rw [upd_ne (ne_of_none e (gle_none g hp))]; exact e
  refine ⟨s, s', fun a u e => ?_, fun a e => ?_⟩
  · by_cases z : a = p
    · subst z; rw [upd_same] at e; cases e; exact .inl upd_same
    · rw [upd_ne z] at e; exact gle_same g s a u e
  · by_cases z : a = p
    · subst z; exact .inr (.inl hp)
    · rw [upd_ne z] at e; exact .inl e
theorem ownL_fz {K : Frg} {G H : Hp} : ∀ {vs : List V} {ds : List D}, DenL K G vs ds → OwnL K G H vs (ds.map T.fz) []
  | _, _, .nil => .nil
  | _, _, .cons h t => .cons (F := []) (F' := []) (.fz h) (ownL_fz t)
theorem ownL_fz' {K : Frg} {G H : Hp} : ∀ {vs : List V} {ds : List D} {F : List Addr}, OwnL K G H vs (ds.map T.fz) F → F = [] ∧ DenL K G vs ds
  | _, [], _, .nil => ⟨rfl, .nil⟩
  | _, d :: ds, _, .cons h t => by
    obtain ⟨e, l⟩ := ownL_fz' t
    cases h with
    | fz q => exact ⟨by rw [e]; rfl, .cons q l⟩
/-- a new list of frozen items -/
theorem new_list {K : Frg} {G H : Hp} (g : GLe G H) {p : Addr} (hp : H p = none) {vs : List V} {ds : List D} (l : DenL K G vs ds) {Q : VK}
    (k : ∀ v G' H' F, Grow G H G' H' → Own K G' H' v (.ol (ds.map T.fz)) F → F.Nodup → (∀ a ∈ F, G' a = none ∧ H a = none) → Q v H') : Q (.ref p) (upd H p (.lst vs)) :=
  k _ _ _ [p] (grow_new g hp _) (.ol upd_same (ownL_fz l)) (by simp) (fun a m => by
    have z : a = p := by simpa using m
    rw [z]
    exact ⟨gle_none g hp, hp⟩)
/-- a new tuple -/
theorem new_tup {K : Frg} {G H : Hp} (g : GLe G H) {p : Addr} (hp : H p = none) {vs : List V} {ds : List D} (l : DenL K G vs ds) {Q : VK}
    (k : ∀ v G' H', Grow G H G' H' → Den K G' v (.tuple ds) → Q v H') : Q (.ref p) (upd H p (.tup vs)) := by
  have w := grow_newF g hp (.tup vs)
  exact k _ _ _ w (.tup (.inl (.inl upd_same)) (l.up (same_gle w.sub)))

def m2 {α : Type} (g : D → D → Option α) (ma mb : M D) : M α := ma.bind fun x => mb.bind fun y => M.lift (g x y)
def m1 {α : Type} (g : D → Option α) (ma : M D) : M α := ma.bind fun x => M.lift (g x)
def mL {α : Type} (g : List D → Option α) (ma : M (List D)) : M α := ma.bind fun x => M.lift (g x)

section
variable {X : Cx} {W : WX} {md : Md} {pu pa pb : Bool} {e a b c : Expr} {es : List Expr} {m ma mb : M D} {ms : M (List D)} {mt : M T} {pos : Pos}

/-! ### operators -/
theorem ex2 {r : R2} {g : D → D → Option D} (hp : ∀ ta tb, PE X a ta → PE X b tb → PE X e (tOp r ta tb)) (hr : OpS X.K r g) (ha : Ex X W md pa a ma) (hb : Ex X W md pb b mb) (hm : md = .frz ∨ pb = true := by first | exact Or.inl rfl | exact Or.inr rfl) : Ex X W md (pa && pb) e (m2 g ma mb) := by
  obtain ⟨ta, p1, k1⟩ := ha
  obtain ⟨tb, p2, k2⟩ := hb
  refine ⟨_, hp _ _ p1 p2, fun G H σ env Fp Q S h => k1 G H σ env Fp _ S (Post.bind h vrd_nil fun d1 env1 v1 G1 H1 Fp1 st1 S1 q1 w1 h1 => ?_)⟩
  refine k2 G1 H1 σ env1 Fp1 _ S1 (Post.bind (pu1 := pb) (pu2 := true) (by rw [Bool.and_true]; exact h1) vrd_nil fun d2 env2 v2 G2 H2 Fp2 st2 S2 q2 w2 h2 => ?_)
  obtain ⟨d, e1, k⟩ := h2.lift0 S2
  refine hr (gr md G2 H2) H2 v1 v2 d1 d2 d Q (gr_le S2.le) ((vrd_gr.mp w1).2.up (gr_stay (K := X.K) hm st2 q2)) (vrd_gr.mp w2).2 e1 fun v G3 H3 w dv => ?_
  obtain ⟨G4, w4, l4⟩ := grow_gr (K := X.K) S2.le w
  exact k v G4 H3 w4 (vrd_gr.mpr ⟨rfl, dv.up l4⟩)
theorem flat_m2 {g : D → D → Option D} (hf : Flat2 g) : ∀ env d env', m2 g ma mb env = .ok d env' → flat d = true := fun env d env' h => by
  unfold m2 M.bind at h
  split at h
  · cases h
  · dsimp only at h
    split at h
    · cases h
    · unfold M.lift at h
      split at h
      · cases h
      · rename_i e1
        cases h
        exact hf _ _ _ e1
    · cases h
  · cases h
theorem ex2s {r : R2} {g : D → D → Option D} (hp : ∀ ta tb, PE X a ta → PE X b tb → PE X e (tOp r ta tb)) (hr : OpS X.K r g) (hf : Flat2 g) (ha : Ex X W md pa a ma) (hb : Ex X W md pb b mb) (hm : md = .frz ∨ pb = true := by first | exact Or.inl rfl | exact Or.inr rfl) : Ex X W .frz (pa && pb) e (m2 g ma mb) := by
  have h := ex2 hp hr ha hb hm
  cases md with
  | frz => exact h
  | view => exact h.sc (flat_m2 hf)
theorem eo2 {r : R2} {g : D → D → Option T} (hp : ∀ ta tb, PE X a ta → PE X b tb → PE X e (tOp r ta tb)) (hr : OpO X.K r g) (ha : Ex X W .frz pa a ma) (hb : Ex X W .frz pb b mb) : Eo X W (pa && pb) e (m2 g ma mb) := by
  obtain ⟨ta, p1, k1⟩ := ha
  obtain ⟨tb, p2, k2⟩ := hb
  refine ⟨_, hp _ _ p1 p2, fun G H σ env Fp Q S h => k1 G H σ env Fp _ S (Post.bind h vrd_nil fun d1 env1 v1 G1 H1 Fp1 st1 S1 q1 w1 h1 => ?_)⟩
  refine k2 G1 H1 σ env1 Fp1 _ S1 (Post.bind (pu1 := pb) (pu2 := true) (by rw [Bool.and_true]; exact h1) vrd_nil fun d2 env2 v2 G2 H2 Fp2 st2 S2 q2 w2 h2 => ?_)
  obtain ⟨t, e1, k⟩ := h2.lift S2
  refine hr G2 H2 v1 v2 d1 d2 t Q S2.le (w1.2.up (same_gle st2.sub)) w2.2 e1 fun v G3 H3 F w o nd n => ?_
  exact k v G3 H3 F w ⟨fun a u z _ => w.same a u z, w.sub, fun a z => by
      rcases w.frG a z with q | q | q
      · exact .inl q
      · exact .inr (.inl q)
      · exact .inr (.inr (.inr q)), fun a z => by
      rcases List.mem_append.mp z with z | z
      · exact .inl (n a z).2
      · exact .inr z⟩ (List.nodup_append.mpr ⟨nd, S2.nd, fun a ma b mb e => by
        subst e
        have z := S2.sl.boxes a mb
        rw [(n a ma).2] at z
        exact z⟩) (fun a m => (n a m).1) o
theorem ex1 {r : V → Hp → VK → Prop} {g : D → Option D} (hp : ∀ ta, PE X a ta → PE X e (tUn r ta)) (hr : UnS X.K r g) (ha : Ex X W md pa a ma) : Ex X W md pa e (m1 g ma) := by
  obtain ⟨ta, p1, k1⟩ := ha
  refine ⟨_, hp _ p1, fun G H σ env Fp Q S h => k1 G H σ env Fp _ S (Post.bind (pu1 := pa) (pu2 := true) (by rw [Bool.and_true]; exact h) vrd_nil fun d1 env1 v1 G1 H1 Fp1 st1 S1 q1 w1 h1 => ?_)⟩
  obtain ⟨d, e1, k⟩ := h1.lift0 S1
  refine hr (gr md G1 H1) H1 v1 d1 d Q (gr_le S1.le) (vrd_gr.mp w1).2 e1 fun v G3 H3 w dv => ?_
  obtain ⟨G4, w4, l4⟩ := grow_gr (K := X.K) S1.le w
  exact k v G4 H3 w4 (vrd_gr.mpr ⟨rfl, dv.up l4⟩)
theorem flat_m1 {g : D → Option D} (hf : Flat1 g) : ∀ env d env', m1 g ma env = .ok d env' → flat d = true := fun env d env' h => by
  unfold m1 M.bind at h
  split at h
  · cases h
  · unfold M.lift at h
    dsimp only at h
    split at h
    · cases h
    · rename_i e1
      cases h
      exact hf _ _ e1
  · cases h
theorem ex1s {r : V → Hp → VK → Prop} {g : D → Option D} (hp : ∀ ta, PE X a ta → PE X e (tUn r ta)) (hr : UnS X.K r g) (hf : Flat1 g) (ha : Ex X W md pa a ma) : Ex X W .frz pa e (m1 g ma) := by
  have h := ex1 hp hr ha
  cases md with
  | frz => exact h
  | view => exact h.sc (flat_m1 hf)
/-! ### calls on values -/
theorem exL {r : List V → Hp → VK → Prop} {g : List D → Option D} (hp : ∀ ta, PA X es ta → PE X e (tCB r ta)) (hr : CaS X.K r g) (ha : Ea X W md pa es ms) : Ex X W md pa e (mL g ms) := by
  obtain ⟨ta, p1, k1⟩ := ha
  refine ⟨_, hp _ p1, fun G H σ env Fp Q S h => k1 G H σ env Fp _ S (Post.bind (pu1 := pa) (pu2 := true) (by rw [Bool.and_true]; exact h) vrl_nil fun d1 env1 v1 G1 H1 Fp1 st1 S1 q1 w1 h1 => ?_)⟩
  obtain ⟨d, e1, k⟩ := h1.lift0 S1
  refine hr (gr md G1 H1) H1 v1 d1 d Q (gr_le S1.le) (vrl_gr.mp w1).2 e1 fun v G3 H3 w dv => ?_
  obtain ⟨G4, w4, l4⟩ := grow_gr (K := X.K) S1.le w
  exact k v G4 H3 w4 (vrd_gr.mpr ⟨rfl, dv.up l4⟩)
theorem flat_mL {g : List D → Option D} (hf : FlatL g) : ∀ env d env', mL g ms env = .ok d env' → flat d = true := fun env d env' h => by
  unfold mL M.bind at h
  split at h
  · cases h
  · unfold M.lift at h
    dsimp only at h
    split at h
    · cases h
    · rename_i e1
      cases h
      exact hf _ _ e1
  · cases h
theorem exLs {r : List V → Hp → VK → Prop} {g : List D → Option D} (hp : ∀ ta, PA X es ta → PE X e (tCB r ta)) (hr : CaS X.K r g) (hf : FlatL g) (ha : Ea X W md pa es ms) : Ex X W .frz pa e (mL g ms) := by
  have h := exL hp hr ha
  cases md with
  | frz => exact h
  | view => exact h.sc (flat_mL hf)
theorem eoL {r : List V → Hp → VK → Prop} {g : List D → Option T} (hp : ∀ ta, PA X es ta → PE X e (tCB r ta)) (hr : CaO X.K r g) (ha : Ea X W .frz pa es ms) : Eo X W pa e (mL g ms) := by
  obtain ⟨ta, p1, k1⟩ := ha
  refine ⟨_, hp _ p1, fun G H σ env Fp Q S h => k1 G H σ env Fp _ S (Post.bind (pu1 := pa) (pu2 := true) (by rw [Bool.and_true]; exact h) vrl_nil fun d1 env1 v1 G1 H1 Fp1 st1 S1 q1 w1 h1 => ?_)⟩
  obtain ⟨t, e1, k⟩ := h1.lift S1
  refine hr G1 H1 v1 d1 t Q S1.le w1.2 e1 fun v G3 H3 F w o nd n => ?_
  exact k v G3 H3 F w ⟨fun a u z _ => w.same a u z, w.sub, fun a z => by
      rcases w.frG a z with q | q | q
      · exact .inl q
      · exact .inr (.inl q)
      · exact .inr (.inr (.inr q)), fun a z => by
      rcases List.mem_append.mp z with z | z
      · exact .inl (n a z).2
      · exact .inr z⟩ (List.nodup_append.mpr ⟨nd, S1.nd, fun a ma b mb e => by
        subst e
        have z := S1.sl.boxes a mb
        rw [(n a ma).2] at z
        exact z⟩) (fun a m => (n a m).1) o
/-! ### arguments -/
def mNil : M (List D) := M.pure []
def mCons (ma : M D) (ms : M (List D)) : M (List D) := ma.bind fun x => ms.bind fun xs => M.pure (x :: xs)
theorem post_pure {α β : Type} {Vr : Hp → Hp → β → α → List Addr → Prop} {σ : L2.St} {G H : Hp} {Fp : List Addr} {env : Env} {Q : β → Hp → Prop} {x : α} {y : β} (h : Post X.K X.mg W Vr pu σ G H Fp env Q (M.pure x env)) (S : Sta X.K G H σ env Fp) (v : Vr G H y x []) : Q y H :=
  h y G H Fp [] Step.refl S S.nd (fun _ m => nomatch m) (fun _ => ⟨rfl, rfl, Grow.refl S.le⟩) v
theorem ea_nil : Ea X W md true [] mNil := ⟨_, pa_nil, fun G H σ env Fp Q S h => post_pure h S (vrl_gr.mpr ⟨rfl, .nil⟩)⟩
theorem ea_cons (ha : Ex X W md pa a ma) (hb : Ea X W md pb es ms) (hm : md = .frz ∨ pb = true := by first | exact Or.inl rfl | exact Or.inr rfl) (hs : starEach (a :: es) X.env = (false, eval a X.env) :: starEach es X.env := by rfl) : Ea X W md (pa && pb) (a :: es) (mCons ma ms) := by
  obtain ⟨ta, p1, k1⟩ := ha
  obtain ⟨tb, p2, k2⟩ := hb
  refine ⟨_, pa_cons p1 p2 hs, fun G H σ env Fp Q S h => k1 G H σ env Fp _ S (Post.bind h vrd_nil fun d1 env1 v1 G1 H1 Fp1 st1 S1 q1 w1 h1 => ?_)⟩
  refine k2 G1 H1 σ env1 Fp1 _ S1 (Post.bind (pu1 := pb) (pu2 := true) (by rw [Bool.and_true]; exact h1) vrl_nil fun d2 env2 v2 G2 H2 Fp2 st2 S2 q2 w2 h2 => ?_)
  exact post_pure h2 S2 (vrl_gr.mpr ⟨rfl, .cons ((vrd_gr.mp w1).2.up (gr_stay (K := X.K) hm st2 q2)) (vrl_gr.mp w2).2⟩)
/-! ### names, constants -/
def mVar (i : Nat) : M D := fun env => match env[i]? with
  | some (some t) => .ok t.er env
  | _ => .bad
/-- a name whose value is frozen -/
def mVarF (i : Nat) : M D := fun env => match env[i]? with
  | some (some (.fz d)) => .ok d env
  | _ => .bad
theorem ev_name {i : Nat} (hp : PE X e (tVar i)) : Ex X W .view true e (mVar i) := by
  refine ⟨_, hp, fun G H σ env Fp Q S h => ?_⟩
  unfold mVar at h
  split at h
  · rename_i t e1
    obtain ⟨v, F0, e2, o, _⟩ := S.sl.at e1
    exact ⟨v, e2, h v G H Fp [] Step.refl S S.nd (fun _ m => nomatch m) (fun _ => ⟨rfl, rfl, Grow.refl S.le⟩) ⟨rfl, o.den S.le fun _ _ => rfl⟩⟩
  · exact h.elim
theorem ef_name {i : Nat} (hp : PE X e (tVar i)) : Ex X W .frz true e (mVarF i) := by
  refine ⟨_, hp, fun G H σ env Fp Q S h => ?_⟩
  unfold mVarF at h
  split at h
  · rename_i d e1
    obtain ⟨v, F0, e2, o, _⟩ := S.sl.at e1
    cases o with
    | fz q => exact ⟨v, e2, h v G H Fp [] Step.refl S S.nd (fun _ m => nomatch m) (fun _ => ⟨rfl, rfl, Grow.refl S.le⟩) ⟨rfl, q⟩⟩
  · exact h.elim
def mC (d : D) : M D := M.pure d
theorem ex_const {v : V} {d : D} (hp : PE X e (tC v)) (hd : ∀ G, Den X.K G v d) : Ex X W .frz true e (mC d) := ⟨_, hp, fun G H σ env Fp Q S h => post_pure h S ⟨rfl, hd G⟩⟩
theorem ex_int {i : Int} {j : Nat} : Ex X W .frz true (.Constant (.int i) j pos) (mC (.int i)) := ex_const pe_int fun _ => .int i
theorem ex_bl {i : Bool} {j : Nat} : Ex X W .frz true (.Constant (.bool i) j pos) (mC (.bool i)) := ex_const pe_bl fun _ => .bl i
theorem ex_non {j : Nat} : Ex X W .frz true (.Constant .none j pos) (mC .none) := ex_const pe_non fun _ => .non
theorem ex_str {x : Str} {j : Nat} : Ex X W .frz true (.Constant (.str x) j pos) (mC (.str x)) := ex_const pe_str fun _ => .str x
end
end DL

/-! The data layer, part D: operators, comparisons, subscripts, slices, len and their like, on data. -/
namespace DL
open PySem L2 PyProof.Rows

/-! ### data for the library's own == -/
mutual
theorem Den.dp {K : Frg} {G : Hp} : ∀ {v : V} {d : D}, Den K G v d → d.canLay0 = true → Dp K G v d
  | _, _, .non, _ => .non
  | _, _, .bl b, _ => .bl b
  | _, _, .int i, _ => .int i
  | _, _, .str x, _ => .str x
  | _, _, .lst s l, h => .lst s.l (l.dp (by simpa [PyData.canLay0] using h))
  | _, _, .tup s l, h => .tup s (l.dp (by simpa [PyData.canLay0] using h))
  | _, _, .dk _ _, h => by simp [PyData.canLay0] at h
  | _, _, .dt _ _, h => by simp [PyData.canLay0] at h
theorem DenL.dp {K : Frg} {G : Hp} : ∀ {v : List V} {d : List D}, DenL K G v d → PyData.canLayAll0 d = true → DpAll K G v d
  | _, _, .nil, _ => .nil
  | _, _, .cons h t, e => by
    simp only [PyData.canLayAll0, Bool.and_eq_true] at e
    exact .cons (h.dp e.1) (t.dp e.2)
end
def shp (d : D) : Bool := SeqAt.shaped d
theorem shp_lay {d : D} (h : shp d = true) : d.canLay0 = true := SeqAt.canLay_of_shaped h

section
variable {X : Cx}
theorem op_fdivB : OpR X (binaryOp .FloorDiv) (rI (fun _ j => j ≠ 0 ∧ j.natAbs.log2 < 9000) fun i j => .int (i.fdiv j)) := opI fun _ _ _ _ _ _ _ hc q => floordiv_int hc.1 q (.inl (PyProof.noPylong_of_log2 hc.2))
theorem op_in_tupD (hu : X.A.units + 65 < cLine) : OpR X (compareOp .In) (fun x y H Q => ∃ d ds, Dp X.K H x d ∧ Dp X.K H y (.tuple ds) ∧ shp d = true ∧ shp (.tuple ds) = true ∧ Q (.bl (ds.any fun z => PyData.eqv z d)) H) := by
  intro pins s σ H x y v u Q I rx ry h
  obtain ⟨d, ds, hd, he, sd, se, q⟩ := h
  obtain ⟨as, r1⟩ := Dp.reads I d x v hd rx
  obtain ⟨bs, r2⟩ := Dp.reads I (.tuple ds) y u he ry
  have hl : PyData.canLayAll0 ds = true := by have z := shp_lay se; simpa [PyData.canLay0] using z
  have hdp : d.depth ≤ 64 := SeqAt.depth_of_shaped sd
  exact SeqAt.in_tuple_reads r2 r1 hl (shp_lay sd) (by have z : min (PyData.depthAll ds) d.depth ≤ d.depth := Nat.min_le_right _ _; omega) ⟨.bl _, H, I, rfl, q⟩
theorem op_notIn_tupD (hu : X.A.units + 65 < cLine) : OpR X (compareOp .NotIn) (fun x y H Q => ∃ d ds, Dp X.K H x d ∧ Dp X.K H y (.tuple ds) ∧ shp d = true ∧ shp (.tuple ds) = true ∧ Q (.bl (!ds.any fun z => PyData.eqv z d)) H) := by
  intro pins s σ H x y v u Q I rx ry h
  obtain ⟨d, ds, hd, he, sd, se, q⟩ := h
  obtain ⟨as, r1⟩ := Dp.reads I d x v hd rx
  obtain ⟨bs, r2⟩ := Dp.reads I (.tuple ds) y u he ry
  have hl : PyData.canLayAll0 ds = true := by have z := shp_lay se; simpa [PyData.canLay0] using z
  have hdp : d.depth ≤ 64 := SeqAt.depth_of_shaped sd
  exact SeqAt.notIn_tuple_reads r2 r1 hl (shp_lay sd) (by have z : min (PyData.depthAll ds) d.depth ≤ d.depth := Nat.min_le_right _ _; omega) ⟨.bl _, H, I, rfl, q⟩
end

/-! ### the functions -/
theorem mul_fits {i j : Int} (h : (i.natAbs < 2 ^ 64 ∨ j.natAbs < 2 ^ 64) ∨ i.natAbs.log2 + j.natAbs.log2 < 1000000) : IntMulOk i j := by
  rcases h with (h | h) | h
  · exact CMul.ok (.inl (by omega))
  · exact CMul.ok (.inr (by omega))
  · exact CMulW.ok h
theorem op_mulD {X : Cx} : OpR X (binaryOp .Mult) (rI (fun i j => (i.natAbs < 2 ^ 64 ∨ j.natAbs < 2 ^ 64) ∨ i.natAbs.log2 + j.natAbs.log2 < 1000000) fun i j => .int (i * j)) := opI fun _ _ _ _ _ _ _ hc q => mul_int q (mul_fits hc)
def dAdd : D → D → Option D
  | .int i, .int j => some (.int (i + j))
  | .str a, .str b => if a.length + b.length ≤ sizeLine then some (.str (a ++ b)) else none
  | .tuple a, .tuple b => if a.length + b.length ≤ sizeLine then some (.tuple (a ++ b)) else none
  | _, _ => none
def dSub : D → D → Option D
  | .int i, .int j => some (.int (i - j))
  | _, _ => none
def dMul : D → D → Option D
  | .int i, .int j => if (i.natAbs < 2 ^ 64 ∨ j.natAbs < 2 ^ 64) ∨ i.natAbs.log2 + j.natAbs.log2 < 1000000 then some (.int (i * j)) else none
  | _, _ => none
def dDiv : D → D → Option D
  | .int i, .int j => if j ≠ 0 ∧ j.natAbs.log2 < 9000 then some (.int (i.fdiv j)) else none
  | _, _ => none
def dMod : D → D → Option D
  | .int i, .int j => if j ≠ 0 then some (.int (i.fmod j)) else none
  | _, _ => none
def dPow : D → D → Option D
  | .int i, .int j => if 0 ≤ j ∧ j ≤ 1000000 ∧ i.natAbs < 2 ^ 64 then some (.int (i ^ j.toNat)) else none
  | _, _ => none
def dNeg : D → Option D
  | .int i => some (.int (-i))
  | _ => none
def dCatL : D → D → Option T
  | .list a, .list b => if a.length + b.length ≤ sizeLine then some (.ol ((a ++ b).map T.fz)) else none
  | _, _ => none
def dEq (a b : D) : Option D := if shp a = true ∧ shp b = true then some (.bool (PyData.eqv a b)) else none
def dNe (a b : D) : Option D := if shp a = true ∧ shp b = true then some (.bool (!PyData.eqv a b)) else none
def dLt : D → D → Option D
  | .int i, .int j => some (.bool (decide (i < j)))
  | _, _ => none
def dLe : D → D → Option D
  | .int i, .int j => some (.bool (decide (i ≤ j)))
  | _, _ => none
def dGt : D → D → Option D
  | .int i, .int j => some (.bool (decide (j < i)))
  | _, _ => none
def dGe : D → D → Option D
  | .int i, .int j => some (.bool (decide (j ≤ i)))
  | _, _ => none
def noneD : D → Bool
  | .none => true
  | _ => false
def dIsN (a b : D) : Option D := match b with
  | .none => some (.bool (noneD a))
  | _ => none
def dNotN (a b : D) : Option D := match b with
  | .none => some (.bool (!noneD a))
  | _ => none
def dIn (x y : D) : Option D := match y with
  | .list ds => if shp x = true ∧ shp (.list ds) = true then some (.bool (ds.any fun z => PyData.eqv z x)) else none
  | .tuple ds => if shp x = true ∧ shp (.tuple ds) = true then some (.bool (ds.any fun z => PyData.eqv z x)) else none
  | _ => none
def dNotIn (x y : D) : Option D := match y with
  | .list ds => if shp x = true ∧ shp (.list ds) = true then some (.bool (!ds.any fun z => PyData.eqv z x)) else none
  | .tuple ds => if shp x = true ∧ shp (.tuple ds) = true then some (.bool (!ds.any fun z => PyData.eqv z x)) else none
  | _ => none
def dIx : D → D → Option D
  | .list ds, .int i => atI ds i
  | .tuple ds, .int i => atI ds i
  | .str z, .int i => if z.length ≤ sizeLine then (atI z.cps.toList i).map fun c => .str ⟨#[c]⟩ else none
  | _, _ => none

theorem orD {g : D → D → Option D} : Flat2 g → Flat2 g := id
theorem flat_dSub : Flat2 dSub := fun a b d h => by
  unfold dSub at h
  split at h <;> cases h
  rfl
theorem flat_dMul : Flat2 dMul := fun a b d h => by
  unfold dMul at h
  split at h
  · split at h <;> cases h
    rfl
  · cases h
theorem flat_dDiv : Flat2 dDiv := fun a b d h => by
  unfold dDiv at h
  split at h
  · split at h <;> cases h
    rfl
  · cases h
theorem flat_dMod : Flat2 dMod := fun a b d h => by
  unfold dMod at h
  split at h
  · split at h <;> cases h
    rfl
  · cases h
theorem flat_dPow : Flat2 dPow := fun a b d h => by
  unfold dPow at h
  split at h
  · split at h <;> cases h
    rfl
  · cases h
theorem flat_dEq : Flat2 dEq := fun a b d h => by
  unfold dEq at h
  split at h <;> cases h
  rfl
theorem flat_dNe : Flat2 dNe := fun a b d h => by
  unfold dNe at h
  split at h <;> cases h
  rfl
theorem flat_dLt : Flat2 dLt := fun a b d h => by
  unfold dLt at h
  split at h <;> cases h
  rfl
theorem flat_dLe : Flat2 dLe := fun a b d h => by
  unfold dLe at h
  split at h <;> cases h
  rfl
theorem flat_dGt : Flat2 dGt := fun a b d h => by
  unfold dGt at h
  split at h <;> cases h
  rfl
theorem flat_dGe : Flat2 dGe := fun a b d h => by
  unfold dGe at h
  split at h <;> cases h
  rfl
theorem flat_dIsN : Flat2 dIsN := fun a b d h => by
  unfold dIsN at h
  split at h <;> cases h
  rfl
theorem flat_dNotN : Flat2 dNotN := fun a b d h => by
  unfold dNotN at h
  split at h <;> cases h
  rfl
theorem flat_dIn : Flat2 dIn := fun a b d h => by
  unfold dIn at h
  split at h
  · split at h <;> cases h
    rfl
  · split at h <;> cases h
    rfl
  · cases h
theorem flat_dNotIn : Flat2 dNotIn := fun a b d h => by
  unfold dNotIn at h
  split at h
  · split at h <;> cases h
    rfl
  · split at h <;> cases h
    rfl
  · cases h

theorem DenL.atI {K : Frg} {G : Hp} {vs : List V} {ds : List D} {i : Int} {d : D} (l : DenL K G vs ds) (h : atI ds i = some d) : ∃ v, atI vs i = some v ∧ Den K G v d := by
  unfold L2.atI at h ⊢
  rw [l.length]
  cases e : ixN ds.length i with
  | none => rw [e] at h; cases h
  | some j =>
    rw [e] at h
    obtain ⟨v, hv, dv⟩ := l.get (i := j) h
    exact ⟨v, hv, dv⟩

section
variable {K : Frg}
theorem os_int {C : Int → Int → Prop} {f : Int → Int → Int} {g : D → D → Option D} (hg : ∀ a b d, g a b = some d → ∃ i j, a = .int i ∧ b = .int j ∧ C i j ∧ d = .int (f i j)) : OpS K (rI C fun i j => .int (f i j)) g := fun G H x y d1 d2 d Q gl e1 e2 e k => by
  obtain ⟨i, j, rfl, rfl, c, rfl⟩ := hg _ _ _ e
  exact ⟨i, j, e1.of_int, e2.of_int, c, k _ G H (Grow.refl gl) (.int _)⟩
theorem os_int0 {f : Int → Int → Int} {g : D → D → Option D} (hg : ∀ a b d, g a b = some d → ∃ i j, a = .int i ∧ b = .int j ∧ d = .int (f i j)) : OpS K (rI0 fun i j => .int (f i j)) g := fun G H x y d1 d2 d Q gl e1 e2 e k => by
  obtain ⟨i, j, rfl, rfl, rfl⟩ := hg _ _ _ e
  exact ⟨i, j, e1.of_int, e2.of_int, k _ G H (Grow.refl gl) (.int _)⟩
theorem os_cmp {f : Int → Int → Bool} {g : D → D → Option D} (hg : ∀ a b d, g a b = some d → ∃ i j, a = .int i ∧ b = .int j ∧ d = .bool (f i j)) : OpS K (rI0 fun i j => .bl (f i j)) g := fun G H x y d1 d2 d Q gl e1 e2 e k => by
  obtain ⟨i, j, rfl, rfl, rfl⟩ := hg _ _ _ e
  exact ⟨i, j, e1.of_int, e2.of_int, k _ G H (Grow.refl gl) (.bl _)⟩
def rAddAll (K : Frg) : R2 := fun x y H Q => rI0 (fun i j => .int (i + j)) x y H Q ∨ (∃ i j, x = .str i ∧ y = .str j ∧ i.length + j.length ≤ sizeLine ∧ Q (.str (i ++ j)) H) ∨ rCatA K x y H Q
theorem os_add : OpS K (rAddAll K) dAdd := fun G H x y d1 d2 d Q gl e1 e2 e k => by
  unfold dAdd at e
  split at e
  · cases e
    exact .inl ⟨_, _, e1.of_int, e2.of_int, k _ G H (Grow.refl gl) (.int _)⟩
  · split at e
    · cases e
      exact .inr (.inl ⟨_, _, e1.of_str, e2.of_str, by assumption, k _ G H (Grow.refl gl) (.str _)⟩)
    · cases e
  · split at e
    · rename_i ds es hz
      cases e
      obtain ⟨a, xs, rfl, sa, la⟩ := e1.of_tup
      obtain ⟨b, ys, rfl, sb, lb⟩ := e2.of_tup
      have na : xs = [] ↔ ds = [] := by rw [← List.length_eq_zero_iff, la.length, List.length_eq_zero_iff]
      have nb : ys = [] ↔ es = [] := by rw [← List.length_eq_zero_iff, lb.length, List.length_eq_zero_iff]
      refine .inr (.inr ⟨a, b, xs, ys, rfl, rfl, gl.sqT sa, gl.sqT sb, by rw [la.length, lb.length]; exact hz, fun z => ?_, fun _ z => ?_, fun _ _ p hp => ?_⟩)
      · have z' := na.mp z
        subst z'
        exact k _ G H (Grow.refl gl) (by simpa using e2)
      · have z' := nb.mp z
        subst z'
        exact k _ G H (Grow.refl gl) (by simpa using e1)
      · exact new_tup gl hp (la.append lb) k
    · cases e
  · cases e
def rCatD : R2 := fun x y H Q => ∃ l b xs zs, x = .ref l ∧ y = .ref b ∧ H l = some (.lst xs) ∧ H b = some (.lst zs) ∧ xs.length + zs.length ≤ sizeLine ∧ ∀ p, H p = none → Q (.ref p) (upd H p (.lst (xs ++ zs)))
theorem os_eq : OpS K (rEqD K) dEq := fun G H x y d1 d2 d Q gl e1 e2 e k => by
  unfold dEq at e
  split at e
  · rename_i h
    cases e
    exact ⟨d1, d2, (e1.up gl).dp (shp_lay h.1), (e2.up gl).dp (shp_lay h.2), h.1, h.2, k _ G H (Grow.refl gl) (.bl _)⟩
  · cases e
theorem os_ne : OpS K (rNeD K) dNe := fun G H x y d1 d2 d Q gl e1 e2 e k => by
  unfold dNe at e
  split at e
  · rename_i h
    cases e
    exact ⟨d1, d2, (e1.up gl).dp (shp_lay h.1), (e2.up gl).dp (shp_lay h.2), h.1, h.2, k _ G H (Grow.refl gl) (.bl _)⟩
  · cases e
theorem non_dec {K : Frg} {G : Hp} {x : V} {d : D} (h : Den K G x d) : decide (x = V.non) = noneD d := by
  cases h <;> rfl
theorem os_isN : OpS K (fun x y H Q => y = .non ∧ Q (.bl (decide (x = .non))) H) dIsN := fun G H x y d1 d2 d Q gl e1 e2 e k => by
  unfold dIsN at e
  split at e
  · cases e
    exact ⟨e2.of_none, by rw [non_dec e1]; exact k _ G H (Grow.refl gl) (.bl _)⟩
  · cases e
theorem os_notN : OpS K (fun x y H Q => y = .non ∧ Q (.bl (!decide (x = .non))) H) dNotN := fun G H x y d1 d2 d Q gl e1 e2 e k => by
  unfold dNotN at e
  split at e
  · cases e
    exact ⟨e2.of_none, by rw [non_dec e1]; exact k _ G H (Grow.refl gl) (.bl _)⟩
  · cases e
def rInAll (K : Frg) : R2 := fun x y H Q => rInD K x y H Q ∨ ∃ d ds, Dp K H x d ∧ Dp K H y (.tuple ds) ∧ shp d = true ∧ shp (.tuple ds) = true ∧ Q (.bl (ds.any fun z => PyData.eqv z d)) H
theorem os_in : OpS K (rInAll K) dIn := fun G H x y d1 d2 d Q gl e1 e2 e k => by
  unfold dIn at e
  split at e
  · split at e
    · rename_i h
      cases e
      exact .inl ⟨d1, _, (e1.up gl).dp (shp_lay h.1), (e2.up gl).dp (shp_lay h.2), h.1, h.2, k _ G H (Grow.refl gl) (.bl _)⟩
    · cases e
  · split at e
    · rename_i h
      cases e
      exact .inr ⟨d1, _, (e1.up gl).dp (shp_lay h.1), (e2.up gl).dp (shp_lay h.2), h.1, h.2, k _ G H (Grow.refl gl) (.bl _)⟩
    · cases e
  · cases e
def rNotInAll (K : Frg) : R2 := fun x y H Q => rNotInD K x y H Q ∨ ∃ d ds, Dp K H x d ∧ Dp K H y (.tuple ds) ∧ shp d = true ∧ shp (.tuple ds) = true ∧ Q (.bl (!ds.any fun z => PyData.eqv z d)) H
theorem os_notIn : OpS K (rNotInAll K) dNotIn := fun G H x y d1 d2 d Q gl e1 e2 e k => by
  unfold dNotIn at e
  split at e
  · split at e
    · rename_i h
      cases e
      exact .inl ⟨d1, _, (e1.up gl).dp (shp_lay h.1), (e2.up gl).dp (shp_lay h.2), h.1, h.2, k _ G H (Grow.refl gl) (.bl _)⟩
    · cases e
  · split at e
    · rename_i h
      cases e
      exact .inr ⟨d1, _, (e1.up gl).dp (shp_lay h.1), (e2.up gl).dp (shp_lay h.2), h.1, h.2, k _ G H (Grow.refl gl) (.bl _)⟩
    · cases e
  · cases e
theorem os_ix : OpS K (rIx K) dIx := fun G H x y d1 d2 d Q gl e1 e2 e k => by
  unfold dIx at e
  split at e
  · obtain ⟨a, xs, rfl, sa, la⟩ := e1.of_lst
    obtain ⟨v, hv, dv⟩ := la.atI e
    exact .inl ⟨a, xs, _, v, rfl, e2.of_int, (gl.sqX sa).l, hv, k _ G H (Grow.refl gl) dv⟩
  · obtain ⟨a, xs, rfl, sa, la⟩ := e1.of_tup
    obtain ⟨v, hv, dv⟩ := la.atI e
    exact .inr (.inl ⟨a, xs, _, v, rfl, e2.of_int, gl.sqT sa, hv, k _ G H (Grow.refl gl) dv⟩)
  · rename_i z i
    split at e
    · rename_i h
      cases q : atI z.cps.toList i with
      | none => rw [q] at e; cases e
      | some c =>
        rw [q] at e
        cases e
        exact .inr (.inr ⟨z, i, c, e1.of_str, e2.of_int, h, q, k _ G H (Grow.refl gl) (.str _)⟩)
    · cases e
  · cases e
theorem us_neg : UnS K (rU fun i => .int (-i)) dNeg := fun G H x d1 d Q gl e1 e k => by
  unfold dNeg at e
  split at e <;> cases e
  exact ⟨_, e1.of_int, k _ G H (Grow.refl gl) (.int _)⟩
end

section
variable {X : Cx} {W : WX} {md : Md} {pu pa pb : Bool} {e a b c : Expr} {es : List Expr} {m ma mb : M D} {ms : M (List D)} {mt : M T} {pos : Pos}
theorem x_add (ha : Ex X W md pa a ma) (hb : Ex X W md pb b mb) (hm : md = .frz ∨ pb = true := by first | exact Or.inl rfl | exact Or.inr rfl) : Ex X W md (pa && pb) (.BinOp a .Add b pos) (m2 dAdd ma mb) :=
  ex2 (fun ta tb p q => pe_op (op_add.or (op_add_str.or op_catA)) p q) os_add ha hb hm
theorem x_sub (ha : Ex X W md pa a ma) (hb : Ex X W md pb b mb) (hm : md = .frz ∨ pb = true := by first | exact Or.inl rfl | exact Or.inr rfl) : Ex X W .frz (pa && pb) (.BinOp a .Sub b pos) (m2 dSub ma mb) :=
  ex2s (fun ta tb p q => pe_op op_sub p q) (os_int0 fun a b d h => by unfold dSub at h; split at h <;> cases h; exact ⟨_, _, rfl, rfl, rfl⟩) flat_dSub ha hb hm
theorem x_mul (ha : Ex X W md pa a ma) (hb : Ex X W md pb b mb) (hm : md = .frz ∨ pb = true := by first | exact Or.inl rfl | exact Or.inr rfl) : Ex X W .frz (pa && pb) (.BinOp a .Mult b pos) (m2 dMul ma mb) :=
  ex2s (fun ta tb p q => pe_op op_mulD p q) (os_int fun a b d h => by
    unfold dMul at h
    split at h
    · split at h <;> cases h
      exact ⟨_, _, rfl, rfl, by assumption, rfl⟩
    · cases h) flat_dMul ha hb hm
theorem x_div (ha : Ex X W md pa a ma) (hb : Ex X W md pb b mb) (hm : md = .frz ∨ pb = true := by first | exact Or.inl rfl | exact Or.inr rfl) : Ex X W .frz (pa && pb) (.BinOp a .FloorDiv b pos) (m2 dDiv ma mb) :=
  ex2s (fun ta tb p q => pe_op op_fdivB p q) (os_int fun a b d h => by
    unfold dDiv at h
    split at h
    · split at h <;> cases h
      exact ⟨_, _, rfl, rfl, by assumption, rfl⟩
    · cases h) flat_dDiv ha hb hm
theorem x_mod (ha : Ex X W md pa a ma) (hb : Ex X W md pb b mb) (hm : md = .frz ∨ pb = true := by first | exact Or.inl rfl | exact Or.inr rfl) : Ex X W .frz (pa && pb) (.BinOp a .Mod b pos) (m2 dMod ma mb) :=
  ex2s (fun ta tb p q => pe_op op_modN p q) (os_int fun a b d h => by
    unfold dMod at h
    split at h
    · split at h <;> cases h
      exact ⟨_, _, rfl, rfl, by assumption, rfl⟩
    · cases h) flat_dMod ha hb hm
theorem x_pow (ha : Ex X W md pa a ma) (hb : Ex X W md pb b mb) (hm : md = .frz ∨ pb = true := by first | exact Or.inl rfl | exact Or.inr rfl) : Ex X W .frz (pa && pb) (.BinOp a .Pow b pos) (m2 dPow ma mb) :=
  ex2s (fun ta tb p q => pe_op op_pow p q) (os_int fun a b d h => by
    unfold dPow at h
    split at h
    · split at h <;> cases h
      exact ⟨_, _, rfl, rfl, by assumption, rfl⟩
    · cases h) flat_dPow ha hb hm
theorem x_neg (ha : Ex X W md pa a ma) : Ex X W .frz pa (.UnaryOp .USub a pos) (m1 dNeg ma) :=
  ex1s (fun ta p => pe_un un_neg p) us_neg (fun a d h => by unfold dNeg at h; split at h <;> cases h; rfl) ha
theorem x_eq (hu : X.A.units + 64 < cLine) (ha : Ex X W md pa a ma) (hb : Ex X W md pb b mb) (hm : md = .frz ∨ pb = true := by first | exact Or.inl rfl | exact Or.inr rfl) : Ex X W .frz (pa && pb) (.Compare a [.Eq] [b] pos) (m2 dEq ma mb) :=
  ex2s (fun ta tb p q => pe_cmpR (op_eqD hu) p q (nomark _)) os_eq flat_dEq ha hb hm
theorem x_ne (hu : X.A.units + 64 < cLine) (ha : Ex X W md pa a ma) (hb : Ex X W md pb b mb) (hm : md = .frz ∨ pb = true := by first | exact Or.inl rfl | exact Or.inr rfl) : Ex X W .frz (pa && pb) (.Compare a [.NotEq] [b] pos) (m2 dNe ma mb) :=
  ex2s (fun ta tb p q => pe_cmpR (op_neD hu) p q (nomark _)) os_ne flat_dNe ha hb hm
theorem x_lt (ha : Ex X W md pa a ma) (hb : Ex X W md pb b mb) (hm : md = .frz ∨ pb = true := by first | exact Or.inl rfl | exact Or.inr rfl) : Ex X W .frz (pa && pb) (.Compare a [.Lt] [b] pos) (m2 dLt ma mb) :=
  ex2s (fun ta tb p q => pe_cmpR op_lt p q (nomark _)) (os_cmp fun a b d h => by unfold dLt at h; split at h <;> cases h; exact ⟨_, _, rfl, rfl, rfl⟩) flat_dLt ha hb hm
theorem x_le (ha : Ex X W md pa a ma) (hb : Ex X W md pb b mb) (hm : md = .frz ∨ pb = true := by first | exact Or.inl rfl | exact Or.inr rfl) : Ex X W .frz (pa && pb) (.Compare a [.LtE] [b] pos) (m2 dLe ma mb) :=
  ex2s (fun ta tb p q => pe_cmpR op_le p q (nomark _)) (os_cmp fun a b d h => by unfold dLe at h; split at h <;> cases h; exact ⟨_, _, rfl, rfl, rfl⟩) flat_dLe ha hb hm
theorem x_gt (ha : Ex X W md pa a ma) (hb : Ex X W md pb b mb) (hm : md = .frz ∨ pb = true := by first | exact Or.inl rfl | exact Or.inr rfl) : Ex X W .frz (pa && pb) (.Compare a [.Gt] [b] pos) (m2 dGt ma mb) :=
  ex2s (fun ta tb p q => pe_cmpR op_gt p q (nomark _)) (os_cmp fun a b d h => by unfold dGt at h; split at h <;> cases h; exact ⟨_, _, rfl, rfl, rfl⟩) flat_dGt ha hb hm
theorem x_ge (ha : Ex X W md pa a ma) (hb : Ex X W md pb b mb) (hm : md = .frz ∨ pb = true := by first | exact Or.inl rfl | exact Or.inr rfl) : Ex X W .frz (pa && pb) (.Compare a [.GtE] [b] pos) (m2 dGe ma mb) :=
  ex2s (fun ta tb p q => pe_cmpR op_ge p q (nomark _)) (os_cmp fun a b d h => by unfold dGe at h; split at h <;> cases h; exact ⟨_, _, rfl, rfl, rfl⟩) flat_dGe ha hb hm
theorem x_isN (ha : Ex X W md pa a ma) (hb : Ex X W md pb b mb) (hm : md = .frz ∨ pb = true := by first | exact Or.inl rfl | exact Or.inr rfl) : Ex X W .frz (pa && pb) (.Compare a [.Is] [b] pos) (m2 dIsN ma mb) :=
  ex2s (fun ta tb p q => pe_cmpR op_isN p q (nomark _)) os_isN flat_dIsN ha hb hm
theorem x_notN (ha : Ex X W md pa a ma) (hb : Ex X W md pb b mb) (hm : md = .frz ∨ pb = true := by first | exact Or.inl rfl | exact Or.inr rfl) : Ex X W .frz (pa && pb) (.Compare a [.IsNot] [b] pos) (m2 dNotN ma mb) :=
  ex2s (fun ta tb p q => pe_cmpR op_notN p q (nomark _)) os_notN flat_dNotN ha hb hm
theorem x_in (hu : X.A.units + 65 < cLine) (hk : behindInMarks .In b = false) (ha : Ex X W md pa a ma) (hb : Ex X W md pb b mb) (hm : md = .frz ∨ pb = true := by first | exact Or.inl rfl | exact Or.inr rfl) : Ex X W .frz (pa && pb) (.Compare a [.In] [b] pos) (m2 dIn ma mb) :=
  ex2s (fun ta tb p q => pe_cmpR ((op_inD hu).or (op_in_tupD hu)) p q hk) os_in flat_dIn ha hb hm
theorem x_notIn (hu : X.A.units + 65 < cLine) (hk : behindInMarks .NotIn b = false) (ha : Ex X W md pa a ma) (hb : Ex X W md pb b mb) (hm : md = .frz ∨ pb = true := by first | exact Or.inl rfl | exact Or.inr rfl) : Ex X W .frz (pa && pb) (.Compare a [.NotIn] [b] pos) (m2 dNotIn ma mb) :=
  ex2s (fun ta tb p q => pe_cmpR ((op_notInD hu).or (op_notIn_tupD hu)) p q hk) os_notIn flat_dNotIn ha hb hm
theorem x_ix (hs : PlainIx b) (ha : Ex X W md pa a ma) (hb : Ex X W md pb b mb) (hm : md = .frz ∨ pb = true := by first | exact Or.inl rfl | exact Or.inr rfl) : Ex X W md (pa && pb) (.Subscript a b pos) (m2 dIx ma mb) :=
  ex2 (fun ta tb p q => pe_ix ix_seq p q hs) os_ix ha hb hm
end
end DL

/-! The data layer, part E: tests, truths, displays, statements, loops. -/
namespace DL
open PySem L2 PyProof.Rows

section
variable {X : Cx} {W : WX} {md : Md} {pu pa pb pc : Bool} {e a b c : Expr} {es rest : List Expr} {m ma mb : M D} {ms : M (List D)} {mt mt' : M T} {mc nc : M Bool} {pos : Pos}

/-! ### tests -/
def tru : D → M Bool
  | .bool b => M.pure b
  | _ => fun _ => .bad
theorem post_test {te : TE} (k : ∀ G H σ env Fp Q, Sta X.K G H σ env Fp → Post X.K X.mg W (VrD X.K md) pu σ G H Fp env Q (m env) → te σ H Q) {G H : Hp} {σ : L2.St} {env : Env} {Fp : List Addr} {Q : Bool → Hp → Prop} (S : Sta X.K G H σ env Fp)
    (h : Post X.K X.mg W VrB pu σ G H Fp env Q ((m.bind tru) env)) : te σ H fun x H1 => ∃ c, x = .bl c ∧ Q c H1 := by
  refine k G H σ env Fp _ S (Post.bind (pu1 := pu) (pu2 := true) (by rw [Bool.and_true]; exact h) vrd_nil fun d env1 v G1 H1 Fp1 st S1 q w h1 => ?_)
  cases d with
  | bool b =>
    have z := (vrd_gr.mp w).2.of_bool
    exact ⟨b, z, post_pure h1 S1 ⟨rfl, rfl⟩⟩
  | _ => exact h1.elim
/-- a value that is a truth, as a test -/
theorem et_val (h : Ex X W md pu e m) (he : ∀ whole, isTrue e X.env whole = (do let v ← whole; standAt e.pos; holding [v] (truthy v)) := by intro _; rfl) : Et X W pu e (m.bind tru) := by
  obtain ⟨te, p, k⟩ := h
  exact ⟨_, pt_val p he, fun G H σ env Fp Q S h => post_test k S h⟩
/-- a comparison as a test -/
theorem et2 {r : R2} {g : D → D → Option D} (hp : ∀ ta tb, PE X a ta → PE X b tb → PT X e (tTest (tOp r ta tb))) (hr : OpS X.K r g) (ha : Ex X W md pa a ma) (hb : Ex X W md pb b mb) (hm : md = .frz ∨ pb = true := by first | exact Or.inl rfl | exact Or.inr rfl) : Et X W (pa && pb) e ((m2 g ma mb).bind tru) := by
  obtain ⟨ta, p1, k1⟩ := ha
  obtain ⟨tb, p2, k2⟩ := hb
  refine ⟨_, hp _ _ p1 p2, fun G H σ env Fp Q S h => post_test (te := tOp r ta tb) (md := md) (fun G H σ env Fp Q S h => k1 G H σ env Fp _ S (Post.bind h vrd_nil fun d1 env1 v1 G1 H1 Fp1 st1 S1 q1 w1 h1 => ?_)) S h⟩
  refine k2 G1 H1 σ env1 Fp1 _ S1 (Post.bind (pu1 := pb) (pu2 := true) (by rw [Bool.and_true]; exact h1) vrd_nil fun d2 env2 v2 G2 H2 Fp2 st2 S2 q2 w2 h2 => ?_)
  obtain ⟨d, e1, k⟩ := h2.lift0 S2
  refine hr (gr md G2 H2) H2 v1 v2 d1 d2 d Q (gr_le S2.le) ((vrd_gr.mp w1).2.up (gr_stay (K := X.K) hm st2 q2)) (vrd_gr.mp w2).2 e1 fun v G3 H3 w dv => ?_
  obtain ⟨G4, w4, l4⟩ := grow_gr (K := X.K) S2.le w
  exact k v G4 H3 w4 (vrd_gr.mpr ⟨rfl, dv.up l4⟩)
theorem t_eq (hu : X.A.units + 64 < cLine) (ha : Ex X W md pa a ma) (hb : Ex X W md pb b mb) (hm : md = .frz ∨ pb = true := by first | exact Or.inl rfl | exact Or.inr rfl) : Et X W (pa && pb) (.Compare a [.Eq] [b] pos) ((m2 dEq ma mb).bind tru) :=
  et2 (fun ta tb p q => pt_cmpR (op_eqD hu) p q (nomark _)) os_eq ha hb hm
theorem t_ne (hu : X.A.units + 64 < cLine) (ha : Ex X W md pa a ma) (hb : Ex X W md pb b mb) (hm : md = .frz ∨ pb = true := by first | exact Or.inl rfl | exact Or.inr rfl) : Et X W (pa && pb) (.Compare a [.NotEq] [b] pos) ((m2 dNe ma mb).bind tru) :=
  et2 (fun ta tb p q => pt_cmpR (op_neD hu) p q (nomark _)) os_ne ha hb hm
theorem t_lt (ha : Ex X W md pa a ma) (hb : Ex X W md pb b mb) (hm : md = .frz ∨ pb = true := by first | exact Or.inl rfl | exact Or.inr rfl) : Et X W (pa && pb) (.Compare a [.Lt] [b] pos) ((m2 dLt ma mb).bind tru) :=
  et2 (fun ta tb p q => pt_cmpR op_lt p q (nomark _)) (os_cmp fun a b d h => by unfold dLt at h; split at h <;> cases h; exact ⟨_, _, rfl, rfl, rfl⟩) ha hb hm
theorem t_le (ha : Ex X W md pa a ma) (hb : Ex X W md pb b mb) (hm : md = .frz ∨ pb = true := by first | exact Or.inl rfl | exact Or.inr rfl) : Et X W (pa && pb) (.Compare a [.LtE] [b] pos) ((m2 dLe ma mb).bind tru) :=
  et2 (fun ta tb p q => pt_cmpR op_le p q (nomark _)) (os_cmp fun a b d h => by unfold dLe at h; split at h <;> cases h; exact ⟨_, _, rfl, rfl, rfl⟩) ha hb hm
theorem t_gt (ha : Ex X W md pa a ma) (hb : Ex X W md pb b mb) (hm : md = .frz ∨ pb = true := by first | exact Or.inl rfl | exact Or.inr rfl) : Et X W (pa && pb) (.Compare a [.Gt] [b] pos) ((m2 dGt ma mb).bind tru) :=
  et2 (fun ta tb p q => pt_cmpR op_gt p q (nomark _)) (os_cmp fun a b d h => by unfold dGt at h; split at h <;> cases h; exact ⟨_, _, rfl, rfl, rfl⟩) ha hb hm
theorem t_ge (ha : Ex X W md pa a ma) (hb : Ex X W md pb b mb) (hm : md = .frz ∨ pb = true := by first | exact Or.inl rfl | exact Or.inr rfl) : Et X W (pa && pb) (.Compare a [.GtE] [b] pos) ((m2 dGe ma mb).bind tru) :=
  et2 (fun ta tb p q => pt_cmpR op_ge p q (nomark _)) (os_cmp fun a b d h => by unfold dGe at h; split at h <;> cases h; exact ⟨_, _, rfl, rfl, rfl⟩) ha hb hm
theorem t_isN (ha : Ex X W md pa a ma) (hb : Ex X W md pb b mb) (hm : md = .frz ∨ pb = true := by first | exact Or.inl rfl | exact Or.inr rfl) : Et X W (pa && pb) (.Compare a [.Is] [b] pos) ((m2 dIsN ma mb).bind tru) :=
  et2 (fun ta tb p q => pt_cmpR op_isN p q (nomark _)) os_isN ha hb hm
theorem t_notN (ha : Ex X W md pa a ma) (hb : Ex X W md pb b mb) (hm : md = .frz ∨ pb = true := by first | exact Or.inl rfl | exact Or.inr rfl) : Et X W (pa && pb) (.Compare a [.IsNot] [b] pos) ((m2 dNotN ma mb).bind tru) :=
  et2 (fun ta tb p q => pt_cmpR op_notN p q (nomark _)) os_notN ha hb hm
theorem t_in (hu : X.A.units + 65 < cLine) (hk : behindInMarks .In b = false) (ha : Ex X W md pa a ma) (hb : Ex X W md pb b mb) (hm : md = .frz ∨ pb = true := by first | exact Or.inl rfl | exact Or.inr rfl) : Et X W (pa && pb) (.Compare a [.In] [b] pos) ((m2 dIn ma mb).bind tru) :=
  et2 (fun ta tb p q => pt_cmpR ((op_inD hu).or (op_in_tupD hu)) p q hk) os_in ha hb hm
theorem t_notIn (hu : X.A.units + 65 < cLine) (hk : behindInMarks .NotIn b = false) (ha : Ex X W md pa a ma) (hb : Ex X W md pb b mb) (hm : md = .frz ∨ pb = true := by first | exact Or.inl rfl | exact Or.inr rfl) : Et X W (pa && pb) (.Compare a [.NotIn] [b] pos) ((m2 dNotIn ma mb).bind tru) :=
  et2 (fun ta tb p q => pt_cmpR ((op_notInD hu).or (op_notIn_tupD hu)) p q hk) os_notIn ha hb hm
theorem Ew.pt (h : Ew X W pu e mc) : Et X W pu e mc := by
  obtain ⟨tt, p, k⟩ := h
  exact ⟨tt, p.pt, k⟩
def tAndM (x y : M Bool) : M Bool := x.bind fun b => if b = true then y else M.pure false
def tOrM (x y : M Bool) : M Bool := x.bind fun b => if b = true then M.pure true else y
def tNotM (x : M Bool) : M Bool := x.bind fun b => M.pure (!b)
theorem w_and1 (h : Et X W pa a mc) : Ew X W pa (.BoolOp .And [a] pos) mc := by
  obtain ⟨tt, p, k⟩ := h
  exact ⟨tt, pw_and1 p, k⟩
theorem w_or1 (h : Et X W pa a mc) : Ew X W pa (.BoolOp .Or [a] pos) mc := by
  obtain ⟨tt, p, k⟩ := h
  exact ⟨tt, pw_or1 p, k⟩
theorem w_and (ha : Et X W pa a mc) (hb : Ew X W pb (.BoolOp .And (b :: rest) pos) nc) : Ew X W (pa && pb) (.BoolOp .And (a :: b :: rest) pos) (tAndM mc nc) := by
  obtain ⟨ta, p1, k1⟩ := ha
  obtain ⟨tb, p2, k2⟩ := hb
  refine ⟨_, pw_and p1 p2, fun G H σ env Fp Q S h => k1 G H σ env Fp _ S (Post.bind h vrb_nil fun d env1 v G1 H1 Fp1 st S1 q w h1 => ?_)⟩
  obtain ⟨_, e1⟩ := w
  subst e1
  cases v with
  | true => exact k2 G1 H1 σ env1 Fp1 Q S1 h1
  | false => exact h1 false G1 H1 Fp1 [] Step.refl S1 S1.nd (fun _ m => nomatch m) (fun _ => ⟨rfl, rfl, Grow.refl S1.le⟩) ⟨rfl, rfl⟩
theorem w_or (ha : Et X W pa a mc) (hb : Ew X W pb (.BoolOp .Or (b :: rest) pos) nc) : Ew X W (pa && pb) (.BoolOp .Or (a :: b :: rest) pos) (tOrM mc nc) := by
  obtain ⟨ta, p1, k1⟩ := ha
  obtain ⟨tb, p2, k2⟩ := hb
  refine ⟨_, pw_or p1 p2, fun G H σ env Fp Q S h => k1 G H σ env Fp _ S (Post.bind h vrb_nil fun d env1 v G1 H1 Fp1 st S1 q w h1 => ?_)⟩
  obtain ⟨_, e1⟩ := w
  subst e1
  cases v with
  | false => exact k2 G1 H1 σ env1 Fp1 Q S1 h1
  | true => exact h1 true G1 H1 Fp1 [] Step.refl S1 S1.nd (fun _ m => nomatch m) (fun _ => ⟨rfl, rfl, Grow.refl S1.le⟩) ⟨rfl, rfl⟩
theorem t_not (ha : Et X W pa a mc) : Et X W pa (.UnaryOp .Not a pos) (tNotM mc) := by
  obtain ⟨ta, p1, k1⟩ := ha
  refine ⟨_, pt_not p1, fun G H σ env Fp Q S h => k1 G H σ env Fp _ S (Post.bind (pu1 := pa) (pu2 := true) (by rw [Bool.and_true]; exact h) vrb_nil fun d env1 v G1 H1 Fp1 st S1 q w h1 => ?_)⟩
  obtain ⟨_, e1⟩ := w
  subst e1
  exact post_pure h1 S1 ⟨rfl, rfl⟩
/-! ### truths as values -/
def bl : Bool → M D := fun b => M.pure (.bool b)
def vAnd (x y : M D) : M D := x.bind fun d => (tru d).bind fun b => if b = true then y else bl false
def vOr (x y : M D) : M D := x.bind fun d => (tru d).bind fun b => if b = true then bl true else y
def vNot (x : M D) : M D := x.bind fun d => (tru d).bind fun b => bl (!b)
theorem x_one {op : BoolOp} (h : Ex X W md pa a ma) : Ex X W md pa (.BoolOp op [a] pos) ma := by
  obtain ⟨te, p, k⟩ := h
  exact ⟨te, pe_one p, k⟩
theorem x_and (ha : Ex X W .frz pa a ma) (hb : Ex X W .frz pb (.BoolOp .And (b :: rest) pos) mb) : Ex X W .frz (pa && pb) (.BoolOp .And (a :: b :: rest) pos) (vAnd ma mb) := by
  obtain ⟨ta, p1, k1⟩ := ha
  obtain ⟨tb, p2, k2⟩ := hb
  refine ⟨_, pe_and p1 p2, fun G H σ env Fp Q S h => k1 G H σ env Fp _ S (Post.bind h vrd_nil fun d env1 v G1 H1 Fp1 st S1 q w h1 => ?_)⟩
  cases d with
  | bool c =>
    refine ⟨c, w.2.of_bool, ?_⟩
    cases c with
    | true => exact k2 G1 H1 σ env1 Fp1 Q S1 h1
    | false => exact h1 (.bl false) G1 H1 Fp1 [] Step.refl S1 S1.nd (fun _ m => nomatch m) (fun _ => ⟨rfl, rfl, Grow.refl S1.le⟩) ⟨rfl, .bl _⟩
  | _ => exact h1.elim
theorem x_or (ha : Ex X W .frz pa a ma) (hb : Ex X W .frz pb (.BoolOp .Or (b :: rest) pos) mb) : Ex X W .frz (pa && pb) (.BoolOp .Or (a :: b :: rest) pos) (vOr ma mb) := by
  obtain ⟨ta, p1, k1⟩ := ha
  obtain ⟨tb, p2, k2⟩ := hb
  refine ⟨_, pe_or p1 p2, fun G H σ env Fp Q S h => k1 G H σ env Fp _ S (Post.bind h vrd_nil fun d env1 v G1 H1 Fp1 st S1 q w h1 => ?_)⟩
  cases d with
  | bool c =>
    refine ⟨c, w.2.of_bool, ?_⟩
    cases c with
    | false => exact k2 G1 H1 σ env1 Fp1 Q S1 h1
    | true => exact h1 (.bl true) G1 H1 Fp1 [] Step.refl S1 S1.nd (fun _ m => nomatch m) (fun _ => ⟨rfl, rfl, Grow.refl S1.le⟩) ⟨rfl, .bl _⟩
  | _ => exact h1.elim
theorem x_not (ha : Ex X W .frz pa a ma) : Ex X W .frz pa (.UnaryOp .Not a pos) (vNot ma) := by
  obtain ⟨ta, p1, k1⟩ := ha
  refine ⟨_, pe_not p1, fun G H σ env Fp Q S h => k1 G H σ env Fp _ S (Post.bind (pu1 := pa) (pu2 := true) (by rw [Bool.and_true]; exact h) vrd_nil fun d env1 v G1 H1 Fp1 st S1 q w h1 => ?_)⟩
  cases d with
  | bool c => exact ⟨c, w.2.of_bool, post_pure h1 S1 ⟨rfl, .bl _⟩⟩
  | _ => exact h1.elim
/-! ### a if t else b -/
def mIf {α : Type} (t : M Bool) (x y : M α) : M α := t.bind fun b => if b = true then x else y
theorem post_if {α β : Type} {Vr : Hp → Hp → β → α → List Addr → Prop} {tt : TT} {ta tb : L2.St → Hp → (β → Hp → Prop) → Prop} {x y : M α}
    (k0 : ∀ G H σ env Fp Q, Sta X.K G H σ env Fp → Post X.K X.mg W VrB pc σ G H Fp env Q (mc env) → tt σ H Q)
    (k1 : ∀ G H σ env Fp Q, Sta X.K G H σ env Fp → Post X.K X.mg W Vr pa σ G H Fp env Q (x env) → ta σ H Q)
    (k2 : ∀ G H σ env Fp Q, Sta X.K G H σ env Fp → Post X.K X.mg W Vr pb σ G H Fp env Q (y env) → tb σ H Q) {G H : Hp} {σ : L2.St} {env : Env} {Fp : List Addr} {Q : β → Hp → Prop} (S : Sta X.K G H σ env Fp)
    (h : Post X.K X.mg W Vr (pc && (pa && pb)) σ G H Fp env Q (mIf mc x y env)) : tt σ H fun b H1 => if b = true then ta σ H1 Q else tb σ H1 Q := by
  refine k0 G H σ env Fp _ S (Post.bind h vrb_nil fun d env1 v G1 H1 Fp1 st S1 q w h1 => ?_)
  obtain ⟨_, e1⟩ := w
  subst e1
  have weak : ∀ {p : Bool} {r : Rs α}, ((pa && pb) = true → p = true) → Post X.K X.mg W Vr (pa && pb) σ G1 H1 Fp1 env1 Q r → Post X.K X.mg W Vr p σ G1 H1 Fp1 env1 Q r := fun {p r} hp hh => by
    cases r with
    | bad => exact hh
    | exn x e' => exact hh
    | ok z e' => exact fun b G' H' Fp' Fr st S nd ap q v => hh b G' H' Fp' Fr st S nd ap (fun z => q (hp z)) v
  cases v with
  | true => exact k1 G1 H1 σ env1 Fp1 Q S1 (weak (fun z => (Bool.and_eq_true_iff.mp z).1) h1)
  | false => exact k2 G1 H1 σ env1 Fp1 Q S1 (weak (fun z => (Bool.and_eq_true_iff.mp z).2) h1)
theorem x_if (hc : Et X W pc c mc) (ha : Ex X W md pa a ma) (hb : Ex X W md pb b mb) : Ex X W md (pc && (pa && pb)) (.IfExp c a b pos) (mIf mc ma mb) := by
  obtain ⟨tc, p0, k0⟩ := hc
  obtain ⟨ta, p1, k1⟩ := ha
  obtain ⟨tb, p2, k2⟩ := hb
  exact ⟨_, pe_ifExp p0 p1 p2, fun G H σ env Fp Q S h => post_if k0 k1 k2 S h⟩
theorem o_if (hc : Et X W pc c mc) (ha : Eo X W pa a mt) (hb : Eo X W pb b mt') : Eo X W (pc && (pa && pb)) (.IfExp c a b pos) (mIf mc mt mt') := by
  obtain ⟨tc, p0, k0⟩ := hc
  obtain ⟨ta, p1, k1⟩ := ha
  obtain ⟨tb, p2, k2⟩ := hb
  exact ⟨_, pe_ifExp p0 p1 p2, fun G H σ env Fp Q S h => post_if k0 k1 k2 S h⟩
/-! ### a op1 b op2 c -/
def m3c (g g' : D → D → Option D) (ma mb mc : M D) : M D := ma.bind fun x => mb.bind fun y => (M.lift (g x y)).bind fun r => (tru r).bind fun k => if k = true then mc.bind fun z => M.lift (g' y z) else bl false
theorem rd_chain {r r' : R2} {g g' : D → D → Option D} {mz : M D} {ta tb tc : TE} (hr : OpS X.K r g) (hr' : OpS X.K r' g') (k1 : ∀ G H σ env Fp Q, Sta X.K G H σ env Fp → Post X.K X.mg W (VrD X.K .frz) pa σ G H Fp env Q (ma env) → ta σ H Q)
    (k2 : ∀ G H σ env Fp Q, Sta X.K G H σ env Fp → Post X.K X.mg W (VrD X.K .frz) pb σ G H Fp env Q (mb env) → tb σ H Q) (k3 : ∀ G H σ env Fp Q, Sta X.K G H σ env Fp → Post X.K X.mg W (VrD X.K .frz) pc σ G H Fp env Q (mz env) → tc σ H Q) :
    ∀ G H σ env Fp Q, Sta X.K G H σ env Fp → Post X.K X.mg W (VrD X.K .frz) (pa && (pb && pc)) σ G H Fp env Q (m3c g g' ma mb mz env) → tChain r r' ta tb tc σ H Q := fun G H σ env Fp Q S h => by
  refine k1 G H σ env Fp _ S (Post.bind h vrd_nil fun d1 env1 v1 G1 H1 Fp1 st1 S1 q1 w1 h1 => ?_)
  refine k2 G1 H1 σ env1 Fp1 _ S1 (Post.bind h1 vrd_nil fun d2 env2 v2 G2 H2 Fp2 st2 S2 q2 w2 h2 => ?_)
  cases e0 : g d1 d2 with
  | none =>
    rw [M.bind_bad (show M.lift (g d1 d2) env2 = .bad by rw [e0]; rfl)] at h2
    exact h2.elim
  | some d =>
    rw [M.bind_ok (show M.lift (g d1 d2) env2 = .ok d env2 by rw [e0]; rfl)] at h2
    refine hr G2 H2 v1 v2 d1 d2 d _ S2.le (w1.2.up (same_gle st2.sub)) w2.2 e0 fun v G3 H3 w dv => ?_
    cases d with
    | bool k =>
      have S3 := S2.grow w
      have st3 : Step G2 H2 Fp2 G3 H3 Fp2 := w.step
      refine ⟨k, dv.of_bool, ?_⟩
      cases k with
      | false =>
        have h3 : Post X.K X.mg W (VrD X.K .frz) pc σ G2 H2 Fp2 env2 Q (.ok (.bool false) env2) := h2
        exact h3 (.bl false) G3 H3 Fp2 [] st3 S3 S3.nd (fun _ m => nomatch m) (fun _ => ⟨rfl, rfl, w⟩) ⟨rfl, .bl _⟩
      | true =>
        have h3 : Post X.K X.mg W (VrD X.K .frz) pc σ G2 H2 Fp2 env2 Q ((mz.bind fun z => M.lift (g' d2 z)) env2) := h2
        have h4 : Post X.K X.mg W (VrD X.K .frz) pc σ G3 H3 Fp2 env2 Q ((mz.bind fun z => M.lift (g' d2 z)) env2) := Post.shift (pu1 := true) (pu2 := pc) (by rw [Bool.true_and]; exact h3) st3 fun _ => ⟨rfl, rfl, w⟩
        refine k3 G3 H3 σ env2 Fp2 _ S3 (Post.bind (pu1 := pc) (pu2 := true) (by rw [Bool.and_true]; exact h4) vrd_nil fun d3 env3 v3 G4 H4 Fp4 st4 S4 q4 w4 h5 => ?_)
        obtain ⟨d', e1, kk⟩ := h5.lift0 S4
        exact hr' G4 H4 v2 v3 d2 d3 d' Q S4.le (w2.2.up (same_gle (st3.sub.trans st4.sub))) w4.2 e1 fun v5 G5 H5 w5 dv5 => kk v5 G5 H5 w5 ⟨rfl, dv5⟩
    | _ => exact h2.elim
end
end DL

/-! The data layer, part F: displays, slots that change, statements, loops. -/
namespace DL
open PySem L2 PyProof.Rows

/-! ### slots -/
section
variable {K : Frg} {G H : Hp}
theorem Slots.put {v : V} {t : T} {Fr : List Addr} (o : Own K G H v t Fr) : ∀ {σ : L2.St} {env : Env} {F : List Addr} (i : Nat), Slots K G H σ env F →
    ∃ F', Slots K G H (σ.set i (some v)) (env.set i (some t)) F' ∧ (∀ a ∈ F', a ∈ Fr ∨ a ∈ F) ∧ ((Fr ++ F).Nodup → F'.Nodup)
  | _, _, _, i, .nil => ⟨[], by simpa using Slots.nil, fun _ m => absurd m (by simp), fun _ => List.nodup_nil⟩
  | _, _, F, 0, .no r => ⟨Fr ++ F, .so o r, fun a m => List.mem_append.mp m, fun n => n⟩
  | _, _, _, 0, .so (F := F1) (F' := F2) h r => ⟨Fr ++ F2, .so o r, fun a m => (List.mem_append.mp m).imp id (List.mem_append_right _), fun n => by
      rw [List.nodup_append] at n ⊢
      refine ⟨n.1, (List.nodup_append.mp n.2.1).2.1, fun a ma b mb => n.2.2 a ma b (List.mem_append_right _ mb)⟩⟩
  | _, _, F, i + 1, .no r => by
    obtain ⟨F', s, k, n⟩ := Slots.put o i r
    exact ⟨F', .no s, k, n⟩
  | _, _, _, i + 1, .so (F := F1) (F' := F2) h r => by
    obtain ⟨F', s, k, n⟩ := Slots.put o i r
    refine ⟨F1 ++ F', .so h s, fun a m => ?_, fun nd => ?_⟩
    · rcases List.mem_append.mp m with m | m
      · exact .inr (List.mem_append_left _ m)
      · exact (k a m).imp id (List.mem_append_right _)
    · rw [List.nodup_append] at nd
      have n2 := List.nodup_append.mp nd.2.1
      refine List.nodup_append.mpr ⟨n2.1, n (List.nodup_append.mpr ⟨nd.1, n2.2.1, fun a ma b mb => nd.2.2 a ma b (List.mem_append_right _ mb)⟩), fun a ma b mb e => ?_⟩
      rcases k b mb with z | z
      · exact nd.2.2 b z a (List.mem_append_left _ ma) e.symm
      · exact n2.2.2 a ma b z e
/-- a slot's thing taken out -/
theorem Slots.take : ∀ {σ : L2.St} {env : Env} {F : List Addr} {i : Nat} {t : T}, Slots K G H σ env F → env[i]? = some (some t) →
    ∃ v F0 F', σ[i]? = some (some v) ∧ Own K G H v t F0 ∧ Slots K G H σ (env.set i none) F' ∧ (∀ a ∈ F0, a ∈ F) ∧ (∀ a ∈ F', a ∈ F) ∧ (F.Nodup → (F0 ++ F').Nodup)
  | _, _, _, 0, _, .so (F := F1) (F' := F2) h r, e => by
    cases e
    exact ⟨_, F1, F2, rfl, h, .no r, fun a m => List.mem_append_left _ m, fun a m => List.mem_append_right _ m, fun n => n⟩
  | _, _, _, 0, _, .no r, e => by cases e
  | _, _, _, i + 1, t, .no r, e => by
    obtain ⟨v, F0, F', e1, o, s, k1, k2, n⟩ := Slots.take (i := i) r e
    exact ⟨v, F0, F', e1, o, .no s, k1, k2, n⟩
  | _, _, _, i + 1, t, .so (F := F1) (F' := F2) h r, e => by
    obtain ⟨v, F0, F', e1, o, s, k1, k2, n⟩ := Slots.take (i := i) r e
    refine ⟨v, F0, F1 ++ F', e1, o, .so h s, fun a m => List.mem_append_right _ (k1 a m), fun a m => ?_, fun nd => ?_⟩
    · rcases List.mem_append.mp m with m | m
      · exact List.mem_append_left _ m
      · exact List.mem_append_right _ (k2 a m)
    · rw [List.nodup_append] at nd
      have z := List.nodup_append.mp (n nd.2.1)
      refine List.nodup_append.mpr ⟨z.1, List.nodup_append.mpr ⟨nd.1, z.2.1, fun a ma b mb => nd.2.2 a ma b (k2 b mb)⟩, fun a ma b mb => ?_⟩
      rcases List.mem_append.mp mb with mb | mb
      · exact fun e => nd.2.2 b mb a (k1 a ma) e.symm
      · exact z.2.2 a ma b mb
/-- .. and put back, the value as it was -/
theorem Slots.back {v : V} {t : T} {F0 : List Addr} (o : Own K G H v t F0) : ∀ {σ : L2.St} {env : Env} {F : List Addr} {i : Nat}, Slots K G H σ env F → σ[i]? = some (some v) →
    ∃ F', Slots K G H σ (env.set i (some t)) F' ∧ (∀ a ∈ F', a ∈ F0 ∨ a ∈ F) ∧ ((F0 ++ F).Nodup → F'.Nodup) := fun {σ env F i} s e => by
  obtain ⟨F', q, k, n⟩ := s.put o i
  have z : σ.set i (some v) = σ := by
    apply List.ext_getElem?
    intro j
    by_cases h : i = j
    · subst h
      have hl : i < σ.length := (List.getElem?_eq_some_iff.mp e).1
      rw [List.getElem?_set_self hl, e]
    · rw [List.getElem?_set_ne h]
  rw [z] at q
  exact ⟨F', q, k, n⟩
theorem Slots.forget : ∀ {σ : L2.St} {env : Env} {F : List Addr} (i : Nat), Slots K G H σ env F → ∃ F', Slots K G H σ (env.set i none) F' ∧ (∀ a ∈ F', a ∈ F) ∧ (F.Nodup → F'.Nodup)
  | _, _, _, i, .nil => ⟨[], by simpa using Slots.nil, fun _ m => absurd m (by simp), fun _ => List.nodup_nil⟩
  | _, _, F, 0, .no r => ⟨F, .no r, fun a m => m, fun n => n⟩
  | _, _, _, 0, .so (F := F1) (F' := F2) h r => ⟨F2, .no r, fun a m => List.mem_append_right _ m, fun n => (List.nodup_append.mp n).2.1⟩
  | _, _, F, i + 1, .no r => by
    obtain ⟨F', s, k, n⟩ := Slots.forget i r
    exact ⟨F', .no s, k, n⟩
  | _, _, _, i + 1, .so (F := F1) (F' := F2) h r => by
    obtain ⟨F', s, k, n⟩ := Slots.forget i r
    refine ⟨F1 ++ F', .so h s, fun a m => ?_, fun nd => ?_⟩
    · rcases List.mem_append.mp m with m | m
      · exact List.mem_append_left _ m
      · exact List.mem_append_right _ (k a m)
    · rw [List.nodup_append] at nd
      exact List.nodup_append.mpr ⟨nd.1, n nd.2.1, fun a ma b mb => nd.2.2 a ma b (k b mb)⟩
end
section
variable {K : Frg} {G H : Hp} {σ : L2.St} {env : Env} {Fp Fr : List Addr} {v : V} {t : T}
theorem Sta.put (S : Sta K G H σ env Fp) (o : Own K G H v t Fr) (nd : (Fr ++ Fp).Nodup) (ap : ∀ a ∈ Fr, G a = none) (i : Nat) : ∃ F', Sta K G H (σ.set i (some v)) (env.set i (some t)) F' ∧ ∀ a ∈ F', a ∈ Fr ++ Fp := by
  obtain ⟨F', s, k, n⟩ := S.sl.put o i
  exact ⟨F', ⟨S.le, s, n nd, fun a m => (k a m).elim (ap a) (S.ap a)⟩, fun a m => List.mem_append.mpr (k a m)⟩
theorem Step.sub_end {G H G' H' : Hp} {F F1 F2 : List Addr} (st : Step G H F G' H' F1) (k : ∀ a ∈ F2, a ∈ F1) : Step G H F G' H' F2 := ⟨st.keep, st.sub, st.frG, fun a m => st.frF a (k a m)⟩
end

/-! ### displays -/
/-- what waits while other code runs -/
theorem pend {G1 H1 G2 H2 : Hp} {Fp1 F2 Fr : List Addr} (st : Step G1 H1 Fp1 G2 H2 F2) (bx : ∀ a ∈ Fr, box (H1 a)) (ap : ∀ a ∈ Fr, G1 a = none) (dj : ∀ a ∈ Fr, a ∉ Fp1) : ∀ a ∈ Fr, H2 a = H1 a ∧ G2 a = none ∧ a ∉ F2 := fun a m => by
  obtain ⟨u, e⟩ := box_some (bx a m)
  refine ⟨by rw [e]; exact st.keep a u e (dj a m), ?_, fun z => ?_⟩
  · cases q : G2 a with
    | none => rfl
    | some o =>
      have b := bx a m
      rcases st.frG a (by rw [q]; exact fun z => nomatch z) with z | z | z | ⟨xs, z⟩
      · exact absurd (ap a m) z
      · rw [z] at e; cases e
      · exact absurd z (dj a m)
      · rw [z] at b; exact b.elim
  · rcases st.frF a z with z | z
    · rw [z] at e; cases e
    · exact dj a m z
theorem Step.more {G H G' H' : Hp} {F F0 F' : List Addr} (st : Step G H F G' H' F') : Step G H (F0 ++ F) G' H' F' :=
  ⟨fun a o h n => st.keep a o h fun m => n (List.mem_append_right _ m), st.sub, fun a h => by
    rcases st.frG a h with z | z | z | z
    · exact .inl z
    · exact .inr (.inl z)
    · exact .inr (.inr (.inl (List.mem_append_right _ z)))
    · exact .inr (.inr (.inr z)), fun a m => (st.frF a m).imp id (List.mem_append_right _)⟩
theorem Step.hold {G H G' H' : Hp} {F F0 F' : List Addr} (st : Step G H F G' H' F') : Step G H (F0 ++ F) G' H' (F0 ++ F') :=
  ⟨st.more.keep, st.sub, st.more.frG, fun a m => by
    rcases List.mem_append.mp m with z | z
    · exact .inr (List.mem_append_left _ z)
    · exact st.more.frF a z⟩
section
variable {X : Cx} {W : WX} {md : Md} {pu pa pb pc : Bool} {e a b c : Expr} {es rest : List Expr} {m ma mb : M D} {ms : M (List D)} {mt mt' : M T} {mts : M (List T)} {mc nc : M Bool} {pos : Pos}
def dTup (ds : List D) : Option D := if ds.length ≤ sizeLine then some (.tuple ds) else none
def dLst (ds : List D) : Option T := if ds.length ≤ sizeLine then some (.ol (ds.map T.fz)) else none
def rTup : List V → Hp → VK → Prop := fun xs H Q => xs.length ≤ sizeLine ∧ ∀ p, H p = none → Q (.ref p) (upd H p (.tup xs))
def rLst : List V → Hp → VK → Prop := fun xs H Q => xs.length ≤ sizeLine ∧ ∀ p, H p = none → Q (.ref p) (upd H p (.lst xs))
theorem cs_tup {K : Frg} : CaS K rTup dTup := fun G H xs ds d Q gl e1 e k => by
  unfold dTup at e
  split at e
  · cases e
    exact ⟨by rw [e1.length]; assumption, fun p hp => new_tup gl hp e1 k⟩
  · cases e
theorem co_lst {K : Frg} : CaO K rLst dLst := fun G H xs ds d Q gl e1 e k => by
  unfold dLst at e
  split at e
  · cases e
    exact ⟨by rw [e1.length]; assumption, fun p hp => new_list gl hp e1 k⟩
  · cases e
theorem x_tup {k : Nat} (ha : Ea X W .frz pa es ms) : Ex X W .frz pa (.Tuple es k pos) (mL dTup ms) := exL (r := rTup) (fun ta p => pe_tup p) cs_tup ha
theorem o_lst (ha : Ea X W .frz pa es ms) : Eo X W pa (.List es pos) (mL dLst ms) := eoL (r := rLst) (fun ta p => pe_lst p) co_lst ha
/-! owned parts -/
def mNilT : M (List T) := M.pure []
def mConsT (ma : M T) (ms : M (List T)) : M (List T) := ma.bind fun x => ms.bind fun xs => M.pure (x :: xs)
theorem ey_nil : Ey X W true [] mNilT := ⟨_, pa_nil, fun G H σ env Fp Q S h => post_pure h S .nil⟩
theorem ey_cons (ha : Eo X W pa a mt) (hb : Ey X W pb es mts) (hs : starEach (a :: es) X.env = (false, eval a X.env) :: starEach es X.env := by rfl) : Ey X W (pa && pb) (a :: es) (mConsT mt mts) := by
  obtain ⟨ta, p1, k1⟩ := ha
  obtain ⟨tb, p2, k2⟩ := hb
  refine ⟨_, pa_cons p1 p2 hs, fun G H σ env Fp Q S h => k1 G H σ env Fp _ S ?_⟩
  unfold mConsT at h
  cases r : mt env with
  | bad => rw [M.bind_bad r] at h; exact h
  | exn x env' => rw [M.bind_exn r] at h; exact h
  | ok t env1 =>
    rw [M.bind_ok r] at h
    intro v1 G1 H1 Fp1 Fr1 st1 S1 nd1 ap1 q1 o1
    have o1 : Own X.K G1 H1 v1 t Fr1 := o1
    have dj : ∀ x ∈ Fr1, x ∉ Fp1 := fun x m z => (List.nodup_append.mp nd1).2.2 x m x z rfl
    refine k2 G1 H1 σ env1 Fp1 _ S1 ?_
    cases r2 : mts env1 with
    | bad => rw [M.bind_bad r2] at h; exact h
    | exn x env' =>
      rw [M.bind_exn r2] at h
      exact fun cls dd G' H' Fp' st' S' e => h cls dd G' H' Fp' (st1.trans st'.more) S' e
    | ok ts env2 =>
      rw [M.bind_ok r2] at h
      intro xs G2 H2 Fp2 Fr2 st2 S2 nd2 ap2 q2 o2
      have P := pend st2 o1.boxes ap1 dj
      refine h (v1 :: xs) G2 H2 Fp2 (Fr1 ++ Fr2) ?_ S2 ?_ ?_ (fun z => ?_) (.cons (o1.stay (same_gle st2.sub) fun x m => (P x m).1) o2)
      · rw [List.append_assoc]; exact st1.trans st2.hold
      · rw [List.append_assoc]
        exact List.nodup_append.mpr ⟨(List.nodup_append.mp nd1).1, nd2, fun x m y n z => (P x m).2.2 (z ▸ n)⟩
      · exact fun x m => (List.mem_append.mp m).elim (fun m => (P x m).2.1) (ap2 x)
      · obtain ⟨z1, z2⟩ := Bool.and_eq_true_iff.mp z
        obtain ⟨e1, f1, g1⟩ := q1 z1
        obtain ⟨e2, f2, g2⟩ := q2 z2
        exact ⟨e2.trans e1, f2.trans f1, g1.trans g2⟩
def tTupO (ts : List T) : Option T := if ts.length ≤ sizeLine then some (.ot ts) else none
def tLstO (ts : List T) : Option T := if ts.length ≤ sizeLine then some (.ol ts) else none
def mLT (g : List T → Option T) (ms : M (List T)) : M T := ms.bind fun x => M.lift (g x)
theorem OwnL.len {K : Frg} {G H : Hp} : ∀ {vs : List V} {ts : List T} {F : List Addr}, OwnL K G H vs ts F → vs.length = ts.length
  | _, _, _, .nil => rfl
  | _, _, _, .cons _ t => congrArg (· + 1) t.len
/-- a display of owned parts -/
theorem eo_disp {g : List T → Option T} {r : List V → Hp → VK → Prop} (hp : ∀ ta, PA X es ta → PE X e (tCB r ta))
    (hr : ∀ G H xs ts F t Q, GLe G H → OwnL X.K G H xs ts F → F.Nodup → (∀ x ∈ F, G x = none) → g ts = some t → (∀ v G' H' F', Grow G H G' H' → Own X.K G' H' v t F' → F'.Nodup → (∀ x ∈ F', G' x = none) → (∀ x ∈ F', x ∈ F ∨ H x = none) → Q v H') → r xs H Q)
    (ha : Ey X W pa es mts) : Eo X W pa e (mLT g mts) := by
  obtain ⟨ta, p1, k1⟩ := ha
  refine ⟨_, hp _ p1, fun G H σ env Fp Q S h => k1 G H σ env Fp _ S ?_⟩
  unfold mLT at h
  cases r1 : mts env with
  | bad => rw [M.bind_bad r1] at h; exact h
  | exn x env' => rw [M.bind_exn r1] at h; exact h
  | ok ts env1 =>
    rw [M.bind_ok r1] at h
    intro xs G1 H1 Fp1 Fr1 st1 S1 nd1 ap1 q1 o1
    cases e1 : g ts with
    | none => rw [e1] at h; exact h.elim
    | some t =>
      rw [e1] at h
      refine hr G1 H1 xs ts Fr1 t Q S1.le o1 (List.nodup_append.mp nd1).1 ap1 e1 fun v G2 H2 F2 w o nd ap sb => ?_
      have S2 := S1.grow w
      have dj : ∀ x ∈ F2, x ∉ Fp1 := fun x m z => by
        rcases sb x m with q | q
        · exact (List.nodup_append.mp nd1).2.2 x q x z rfl
        · have b := S1.sl.boxes x z
          rw [q] at b
          exact b
      refine h v G2 H2 Fp1 F2 (st1.trans ⟨fun a u z _ => w.same a u z, w.sub, fun a z => ?_, fun a z => ?_⟩) S2 (List.nodup_append.mpr ⟨nd, S2.nd, fun x m y n z => dj x m (z ▸ n)⟩) ap (fun z => ?_) o
      · rcases w.frG a z with q | q | q
        · exact .inl q
        · exact .inr (.inl q)
        · exact .inr (.inr (.inr q))
      · rcases List.mem_append.mp z with z | z
        · rcases sb a z with q | q
          · exact .inr (List.mem_append_left _ q)
          · exact .inl q
        · exact .inr (List.mem_append_right _ z)
      · obtain ⟨a1, a2, a3⟩ := q1 z
        exact ⟨a1, a2, a3.trans w⟩
theorem o_lstO (ha : Ey X W pa es mts) : Eo X W pa (.List es pos) (mLT tLstO mts) := eo_disp (r := rLst) (fun ta p => pe_lst p) (fun G H xs ts F t Q gl o nd ap e k => by
  unfold tLstO at e
  split at e
  · cases e
    refine ⟨by rw [o.len]; assumption, fun p hp => ?_⟩
    have w := grow_new gl hp (.lst xs)
    have np : ∀ x ∈ F, x ≠ p := fun x m z => by have b := o.boxes x m; rw [z, hp] at b; exact b
    exact k _ G _ (p :: F) w (.ol upd_same (o.stay (GLe.refl _) fun x m => by rw [upd_ne (np x m)])) (List.nodup_cons.mpr ⟨fun m => np p m rfl, nd⟩) (fun x m => (List.mem_cons.mp m).elim (fun z => z ▸ gle_none gl hp) (ap x)) fun x m => (List.mem_cons.mp m).elim (fun z => .inr (z ▸ hp)) .inl
  · cases e) ha
theorem o_tupO {k : Nat} (ha : Ey X W pa es mts) : Eo X W pa (.Tuple es k pos) (mLT tTupO mts) := eo_disp (r := rTup) (fun ta p => pe_tup p) (fun G H xs ts F t Q gl o nd ap e k => by
  unfold tTupO at e
  split at e
  · cases e
    refine ⟨by rw [o.len]; assumption, fun p hp => ?_⟩
    have w := grow_newF gl hp (.tup xs)
    have np : ∀ x ∈ F, x ≠ p := fun x m z => by have b := o.boxes x m; rw [z, hp] at b; exact b
    exact k _ _ _ F w (.ot (.inl (.inl upd_same)) (o.stay (same_gle w.sub) fun x m => by rw [upd_ne (np x m)])) nd (fun x m => by rw [upd_ne (np x m)]; exact ap x m) fun x m => .inl m
  · cases e) ha
end
end DL

/-! The data layer, part G: statements. -/
namespace DL
open PySem L2 PyProof.Rows

inductive Fl where
  | nx | bk | ct
  | rt (t : T)
/-- slots that no statement stores -/
def Fix (fx : List Nat) (σ σ' : L2.St) : Prop := σ'.length = σ.length ∧ ∀ i ∈ fx, σ'[i]? = σ[i]?
theorem Fix.refl {fx : List Nat} {σ : L2.St} : Fix fx σ σ := ⟨rfl, fun _ _ => rfl⟩
theorem Fix.trans {fx : List Nat} {σ σ1 σ2 : L2.St} (a : Fix fx σ σ1) (b : Fix fx σ1 σ2) : Fix fx σ σ2 := ⟨b.1.trans a.1, fun i m => (b.2 i m).trans (a.2 i m)⟩
theorem Fix.set {fx : List Nat} {σ : L2.St} {i : Nat} {v : Option V} (h : i ∉ fx) : Fix fx σ (σ.set i v) := ⟨List.length_set, fun j m => by
  by_cases z : i = j
  · exact absurd (z ▸ m) h
  · rw [List.getElem?_set_ne z]⟩
def SPost (X : Cx) (W : WX) (fx : List Nat) (σ : L2.St) (G H : Hp) (Fp : List Addr) (Dn : Ends) : Rs Fl → Prop
  | .bad => False
  | .ok .nx env' => ∀ σ' G' H' Fp', Step G H Fp G' H' Fp' → Fix fx σ σ' → Sta X.K G' H' σ' env' Fp' → Dn.nx σ' H'
  | .ok .bk env' => ∀ σ' G' H' Fp', Step G H Fp G' H' Fp' → Fix fx σ σ' → Sta X.K G' H' σ' env' Fp' → Dn.bk σ' H'
  | .ok .ct env' => ∀ σ' G' H' Fp', Step G H Fp G' H' Fp' → Fix fx σ σ' → Sta X.K G' H' σ' env' Fp' → Dn.ct σ' H'
  | .ok (.rt t) env' => ∀ v σ' G' H' Fp' Fr, Step G H Fp G' H' (Fr ++ Fp') → Fix fx σ σ' → Sta X.K G' H' σ' env' Fp' → (Fr ++ Fp').Nodup → (∀ x ∈ Fr, G' x = none) → Own X.K G' H' v t Fr → Dn.rt v H'
  | .exn x env' => ∀ cls dd σ' G' H' Fp', Step G H Fp G' H' Fp' → Fix fx σ σ' → Sta X.K G' H' σ' env' Fp' → ExcOk X.K X.mg G' H' x cls dd → W cls dd σ' H'
section
variable {X : Cx} {W : WX} {fx : List Nat} {σ σ1 : L2.St} {G H G1 H1 : Hp} {Fp F1 : List Addr} {Dn D2 : Ends} {r : Rs Fl}
theorem SPost.shift (h : SPost X W fx σ G H Fp Dn r) (st : Step G H Fp G1 H1 F1) (f : Fix fx σ σ1) : SPost X W fx σ1 G1 H1 F1 Dn r := by
  cases r with
  | bad => exact h
  | exn x e => exact fun cls dd σ' G' H' Fp' s' f' S q => h cls dd σ' G' H' Fp' (st.trans s') (f.trans f') S q
  | ok fl e =>
    cases fl with
    | nx => exact fun σ' G' H' Fp' s' f' S => h σ' G' H' Fp' (st.trans s') (f.trans f') S
    | bk => exact fun σ' G' H' Fp' s' f' S => h σ' G' H' Fp' (st.trans s') (f.trans f') S
    | ct => exact fun σ' G' H' Fp' s' f' S => h σ' G' H' Fp' (st.trans s') (f.trans f') S
    | rt t => exact fun v σ' G' H' Fp' Fr s' f' S n a o => h v σ' G' H' Fp' Fr (st.trans s') (f.trans f') S n a o
/-- an expression, then a statement's rest -/
theorem SPost.expr {α β : Type} {Vr : Hp → Hp → β → α → List Addr → Prop} {pu : Bool} {m : M α} {f : α → M Fl} {env : Env} {R : β → Hp → Prop} (h : SPost X W fx σ G H Fp Dn ((m.bind f) env))
    (k : ∀ a env1 b G1 H1 Fp1 Fr, Step G H Fp G1 H1 (Fr ++ Fp1) → Sta X.K G1 H1 σ env1 Fp1 → (Fr ++ Fp1).Nodup → (∀ x ∈ Fr, G1 x = none) → Vr G1 H1 b a Fr → SPost X W fx σ G1 H1 (Fr ++ Fp1) Dn (f a env1) → R b H1) : Post X.K X.mg W Vr pu σ G H Fp env R (m env) := by
  cases e : m env with
  | bad => rw [M.bind_bad e] at h; exact h
  | exn x env' =>
    rw [M.bind_exn e] at h
    exact fun cls dd G' H' Fp' st S q => h cls dd σ G' H' Fp' st Fix.refl S q
  | ok a env1 =>
    rw [M.bind_ok e] at h
    exact fun b G' H' Fp' Fr st S nd ap _ v => k a env1 b G' H' Fp' Fr st S nd ap v (h.shift st Fix.refl)
end

section
variable (X : Cx) (W : WX) (fx : List Nat)
def DS (st : Stmt) (m : M Fl) : Prop := ∃ ts : TS, PS X st ts ∧ ∀ G H σ env Fp Dn, Sta X.K G H σ env Fp → SPost X W fx σ G H Fp Dn (m env) → ts Dn σ H
def DSs (sts : List Stmt) (m : M Fl) : Prop := ∃ ts : TS, PSs X sts ts ∧ ∀ G H σ env Fp Dn, Sta X.K G H σ env Fp → SPost X W fx σ G H Fp Dn (m env) → ts Dn σ H
end

def mSeq (m n : M Fl) : M Fl := m.bind fun f => match f with
  | .nx => n
  | f => M.pure f
def mNx : M Fl := M.pure .nx
section
variable {X : Cx} {W : WX} {fx : List Nat} {md : Md} {pu pa pb pc : Bool} {e a b c : Expr} {es : List Expr} {m ma mb : M D} {mt : M T} {mts : M (List T)} {mc : M Bool} {pos : Pos} {st : Stmt} {rest ba bb : List Stmt} {n n' : M Fl}
theorem ss_nil : DSs X W fx [] mNx := ⟨_, pss_nil, fun G H σ env Fp Dn S h => h σ G H Fp Step.refl Fix.refl S⟩
theorem ss_cons (h1 : DS X W fx st n) (h2 : DSs X W fx rest n') : DSs X W fx (st :: rest) (mSeq n n') := by
  obtain ⟨t1, p1, k1⟩ := h1
  obtain ⟨t2, p2, k2⟩ := h2
  refine ⟨_, pss_cons p1 p2, fun G H σ env Fp Dn S h => k1 G H σ env Fp _ S ?_⟩
  unfold mSeq at h
  cases r : n env with
  | bad => rw [M.bind_bad r] at h; exact h
  | exn x e' => rw [M.bind_exn r] at h; exact h
  | ok f e' =>
    rw [M.bind_ok r] at h
    cases f with
    | nx => exact fun σ' G' H' Fp' st' f' S' => k2 G' H' σ' e' Fp' Dn S' (h.shift st' f')
    | bk => exact h
    | ct => exact h
    | rt t => exact h
theorem ss_one (h1 : DS X W fx st n) : DSs X W fx [st] n := by
  obtain ⟨t1, p1, k1⟩ := h1
  exact ⟨_, pss_one p1, k1⟩
theorem s_pass : DS X W fx (.Pass pos) mNx := ⟨_, ps_pass, fun G H σ env Fp Dn S h => h σ G H Fp Step.refl Fix.refl S⟩
theorem s_break : DS X W fx (.Break pos) (M.pure .bk) := ⟨_, ps_break, fun G H σ env Fp Dn S h => h σ G H Fp Step.refl Fix.refl S⟩
theorem s_continue : DS X W fx (.Continue pos) (M.pure .ct) := ⟨_, ps_continue, fun G H σ env Fp Dn S h => h σ G H Fp Step.refl Fix.refl S⟩
/-! ### return -/
def mRt (m : M T) : M Fl := m.bind fun t => M.pure (.rt t)
theorem s_ret (h : Eo X W pu e mt) : DS X W fx (.Return (some e) pos) (mRt mt) := by
  obtain ⟨te, p, k⟩ := h
  exact ⟨_, ps_ret p, fun G H σ env Fp Dn S h => k G H σ env Fp _ S (SPost.expr h fun t env1 v G1 H1 Fp1 Fr st1 S1 nd ap o h1 => h1 v σ G1 H1 Fp1 Fr Step.refl Fix.refl S1 nd ap o)⟩
theorem s_retF (h : Ex X W .frz pu e m) : DS X W fx (.Return (some e) pos) (mRt (m.map T.fz)) := s_ret h.own
theorem s_retN : DS X W fx (.Return none pos) (M.pure (.rt (.fz .none))) := ⟨_, ps_retN, fun G H σ env Fp Dn S h => h .non σ G H Fp [] Step.refl Fix.refl S S.nd (fun _ m => nomatch m) (.fz .non)⟩
/-! ### an expression alone -/
def mDrop {α : Type} (m : M α) : M Fl := m.bind fun _ => M.pure .nx
theorem s_expr (h : Eo X W pu e mt) (hs : swapsWith e none pos.line X.env = pure false := by rfl) : DS X W fx (.Expr e pos) (mDrop mt) := by
  obtain ⟨te, p, k⟩ := h
  exact ⟨_, ps_expr p hs, fun G H σ env Fp Dn S h => k G H σ env Fp _ S (SPost.expr h fun t env1 v G1 H1 Fp1 Fr st1 S1 nd ap o h1 => h1 σ G1 H1 Fp1 (Step.refl.sub_end fun a m => List.mem_append_right _ m) Fix.refl S1)⟩
/-! ### if -/
def mIfS (t : M Bool) (x y : M Fl) : M Fl := t.bind fun b => if b = true then x else y
theorem s_if (hc : Et X W pc c mc) (ha : DSs X W fx ba n) (hb : DSs X W fx bb n') : DS X W fx (.If c ba bb pos) (mIfS mc n n') := by
  obtain ⟨tc, p0, k0⟩ := hc
  obtain ⟨ta, p1, k1⟩ := ha
  obtain ⟨tb, p2, k2⟩ := hb
  refine ⟨_, ps_if p0 p1 p2, fun G H σ env Fp Dn S h => k0 G H σ env Fp _ S (SPost.expr h fun d env1 v G1 H1 Fp1 Fr st1 S1 nd ap w h1 => ?_)⟩
  obtain ⟨rfl, rfl⟩ := w
  cases v with
  | true => exact k1 G1 H1 σ env1 Fp1 Dn S1 h1
  | false => exact k2 G1 H1 σ env1 Fp1 Dn S1 h1
/-! ### name = value -/
def mSet (i : Nat) (m : M T) : M Fl := m.bind fun t env => .ok .nx (env.set i (some t))
theorem s_set {i : Nat} {x : Str} {pos' : Pos} (hN : X.N.Nodup) (hi : X.N[i]? = some x) (hx : Loc X.env.scope x) (h : Eo X W pu e mt) (hf : i ∉ fx := by decide) (hs : swapsWith e (some (.Name x pos')) pos.line X.env = pure false := by rfl) (hl : X.fn x = true ∨ X.env.scope.names.lookup x = some .local := by first | exact .inl rfl | exact .inr rfl | assumption) :
    DS X W fx (.Assign [.Name x pos'] e pos) (mSet i mt) := by
  obtain ⟨te, p, k⟩ := h
  refine ⟨_, ps_set hN hi hx p hs hl, fun G H σ env Fp Dn S h => k G H σ env Fp _ S (SPost.expr h fun t env1 v G1 H1 Fp1 Fr st1 S1 nd ap o h1 => ?_)⟩
  obtain ⟨F', S2, sb⟩ := S1.put o nd ap i
  exact h1 _ G1 H1 F' (Step.refl.sub_end sb) (Fix.set hf) S2
/-! ### targets -/
def tParts : T → Option (List T)
  | .fz (.tuple ds) => some (ds.map T.fz)
  | .ot ts => some ts
  | _ => none
/-- a target stores a thing into the slots -/
def DG (X : Cx) (fx : List Nat) (tg : Expr) (f : T → Env → Option Env) : Prop := ∃ g : TG, PG X tg g ∧ ∀ G H σ env Fp v t Fr env1 Q, Sta X.K G H σ env Fp → Own X.K G H v t Fr → (Fr ++ Fp).Nodup → (∀ a ∈ Fr, G a = none) → f t env = some env1 →
  (∀ σ1 F1, Fix fx σ σ1 → Sta X.K G H σ1 env1 F1 → (∀ a ∈ F1, a ∈ Fr ++ Fp) → Q σ1 H) → g v σ H Q
def DGs (X : Cx) (fx : List Nat) (tgs : List Expr) (f : List T → Env → Option Env) : Prop := ∃ g : TGs, PGs X tgs g ∧ ∀ G H σ env Fp vs ts Fr env1 Q, Sta X.K G H σ env Fp → OwnL X.K G H vs ts Fr → (Fr ++ Fp).Nodup → (∀ a ∈ Fr, G a = none) → f ts env = some env1 →
  (∀ σ1 F1, Fix fx σ σ1 → Sta X.K G H σ1 env1 F1 → (∀ a ∈ F1, a ∈ Fr ++ Fp) → Q σ1 H) → g vs σ H Q
def gN (i : Nat) : T → Env → Option Env := fun t env => some (env.set i (some t))
def gNil' : List T → Env → Option Env := fun ts env => match ts with
  | [] => some env
  | _ => none
def gCons' (f : T → Env → Option Env) (g : List T → Env → Option Env) : List T → Env → Option Env := fun ts env => match ts with
  | t :: ts => (f t env).bind (g ts)
  | _ => none
def gT (n : Nat) (g : List T → Env → Option Env) : T → Env → Option Env := fun t env => (tParts t).bind fun ts => if ts.length = n then g ts env else none
theorem g_name {i : Nat} {x : Str} {pos' : Pos} (hN : X.N.Nodup) (hi : X.N[i]? = some x) (hx : Loc X.env.scope x) (hf : i ∉ fx := by decide) (hl : X.fn x = true ∨ X.env.scope.names.lookup x = some .local := by first | exact .inl rfl | exact .inr rfl | assumption) : DG X fx (.Name x pos') (gN i) :=
  ⟨_, pg_name hN hi hx hl, fun G H σ env Fp v t Fr env1 Q S o nd ap e k => by
    cases e
    obtain ⟨F', S2, sb⟩ := S.put o nd ap i
    exact k _ F' (Fix.set hf) S2 sb⟩
theorem gs_nil : DGs X fx [] gNil' := ⟨_, pgs_nil, fun G H σ env Fp vs ts Fr env1 Q S o nd ap e k => by
  cases o with
  | nil =>
    cases e
    exact ⟨rfl, k σ Fp Fix.refl S fun a m => m⟩
  | cons _ _ => cases e⟩
theorem gs_cons {f : T → Env → Option Env} {g : List T → Env → Option Env} (h1 : DG X fx e f) (h2 : DGs X fx es g) (hs : (assignEach (e :: es) X.env).map (·.2) = assign e X.env :: (assignEach es X.env).map (·.2) := by rfl) : DGs X fx (e :: es) (gCons' f g) := by
  obtain ⟨t1, p1, k1⟩ := h1
  obtain ⟨t2, p2, k2⟩ := h2
  refine ⟨_, pgs_cons p1 p2 hs, fun G H σ env Fp vs ts Fr env1 Q S o nd ap e k => ?_⟩
  cases o with
  | nil => cases e
  | cons o1 o2 =>
    rename_i v vs t ts Fa Fb
    have e : (f t env).bind (g ts) = some env1 := e
    cases q : f t env with
    | none => rw [q] at e; cases e
    | some env2 =>
      rw [q] at e
      have e : g ts env2 = some env1 := e
      have nd' : (Fa ++ (Fb ++ Fp)).Nodup := by rw [← List.append_assoc]; exact nd
      have n1 := List.nodup_append.mp nd'
      have n2 := List.nodup_append.mp n1.2.1
      refine ⟨v, vs, rfl, k1 G H σ env Fp v t Fa env2 _ S o1 (List.nodup_append.mpr ⟨n1.1, n2.2.1, fun a ma b mb => n1.2.2 a ma b (List.mem_append_right _ mb)⟩) (fun a m => ap a (List.mem_append_left _ m)) q fun σ1 F1 f1 S1 sb1 => ?_⟩
      refine k2 G H σ1 env2 F1 vs ts Fb env1 Q S1 o2 (List.nodup_append.mpr ⟨n2.1, S1.nd, fun a ma b mb z => ?_⟩) (fun a m => ap a (List.mem_append_right _ m)) e fun σ2 F2 f2 S2 sb2 => k σ2 F2 (f1.trans f2) S2 fun a m => ?_
      · subst z
        rcases List.mem_append.mp (sb1 a mb) with z | z
        · exact n1.2.2 a z a (List.mem_append_left _ ma) rfl
        · exact n2.2.2 a ma a z rfl
      · rcases List.mem_append.mp (sb2 a m) with z | z
        · exact List.mem_append_left _ (List.mem_append_right _ z)
        · rcases List.mem_append.mp (sb1 a z) with z | z
          · exact List.mem_append_left _ (List.mem_append_left _ z)
          · exact List.mem_append_right _ z
theorem g_tup {k n : Nat} {g : List T → Env → Option Env} (hc : X.calm = true) (h : DGs X fx es g) (hn : (assignEach es X.env).length = n := by rfl) (hst : (assignEach es X.env).findIdx? (·.1) = none := by rfl) : DG X fx (.Tuple es k pos) (gT n g) := by
  obtain ⟨t1, p1, k1⟩ := h
  refine ⟨_, pg_tup hc p1 hn hst, fun G H σ env Fp v t Fr env1 Q S o nd ap e kk => ?_⟩
  unfold gT at e
  cases q : tParts t with
  | none => rw [q] at e; cases e
  | some ts =>
    rw [q] at e
    have e : (if ts.length = n then g ts env else none) = some env1 := e
    split at e
    · rename_i hl
      have fin : ∃ a xs, v = .ref a ∧ SqT X.K H a xs ∧ OwnL X.K G H xs ts Fr := by
        cases o with
        | fz dd =>
          cases dd with
          | tup s l =>
            cases q
            exact ⟨_, _, rfl, S.le.sqT s, ownL_fz l⟩
          | _ => cases q
        | ot s l =>
          cases q
          exact ⟨_, _, rfl, S.le.sqT s, l⟩
        | _ => cases q
      obtain ⟨a, xs, rfl, sq, ol⟩ := fin
      exact ⟨a, xs, rfl, sq, by rw [ol.len]; exact hl, k1 G H σ env Fp xs ts Fr env1 Q S ol nd ap e kk⟩
    · cases e
def mAsg (m : M T) (f : T → Env → Option Env) : M Fl := m.bind fun t env => match f t env with
  | some env1 => .ok .nx env1
  | none => .bad
theorem s_asg {tg : Expr} {f : T → Env → Option Env} (h : Eo X W pu e mt) (hg : DG X fx tg f) (hs : swapsWithSole [tg] e pos.line X.env = pure false := by rfl) (hw : swappedStores [tg] e X.env = pure none := by rfl) (h1 : (assignEach [tg] X.env).map (·.2) = [assign tg X.env] := by rfl) :
    DS X W fx (.Assign [tg] e pos) (mAsg mt f) := by
  obtain ⟨te, p, k⟩ := h
  obtain ⟨tt, pg, kg⟩ := hg
  refine ⟨_, ps_asg p pg hs hw h1, fun G H σ env Fp Dn S h => k G H σ env Fp _ S (SPost.expr h fun t env1 v G1 H1 Fp1 Fr st1 S1 nd ap o h1 => ?_)⟩
  cases q : f t env1 with
  | none => rw [q] at h1; exact h1.elim
  | some env2 =>
    rw [q] at h1
    exact kg G1 H1 σ env1 Fp1 v t Fr env2 _ S1 o nd ap q fun σ1 F1 f1 S2 sb => h1 σ1 G1 H1 F1 (Step.refl.sub_end sb) f1 S2
/-- a, b = x, y without a tuple: stored from the right -/
def mPar (i j : Nat) (m : M (List T)) : M Fl := m.bind fun ts env => match ts with
  | [t, u] => .ok .nx ((env.set i (some t)).set j (some u))
  | _ => .bad
theorem s_par {i j : Nat} {x y : Str} {px py pt : Pos} {kt k2 : Nat} {pt2 : Pos} (hc : X.calm = true) (hN : X.N.Nodup) (hi : X.N[i]? = some x) (hj : X.N[j]? = some y) (hij : i ≠ j) (hx : X.env.scope.names.lookup x = some .local) (hy : X.env.scope.names.lookup y = some .local)
    (h : Ey X W pu [a, b] mts) (hw : swappedStores [.Tuple [.Name x px, .Name y py] kt pt] (.Tuple [a, b] k2 pt2) X.env = pure (some [x, y])) (fi : i ∉ fx := by decide) (fj : j ∉ fx := by decide)
    (hs : swapsWithSole [.Tuple [.Name x px, .Name y py] kt pt] (.Tuple [a, b] k2 pt2) pos.line X.env = pure false := by rfl) : DS X W fx (.Assign [.Tuple [.Name x px, .Name y py] kt pt] (.Tuple [a, b] k2 pt2) pos) (mPar i j mts) := by
  obtain ⟨ta, p, k⟩ := h
  refine ⟨_, ps_par hc hN hi hj hij hx hy p hw hs, fun G H σ env Fp Dn S h => k G H σ env Fp _ S (SPost.expr h fun ts env1 vs G1 H1 Fp1 Fr st1 S1 nd ap o h1 => ?_)⟩
  cases o with
  | nil => exact h1.elim
  | cons o1 o2 =>
    cases o2 with
    | nil => exact h1.elim
    | cons o2 o3 =>
      cases o3 with
      | cons _ _ => exact h1.elim
      | nil =>
        rename_i v t Fa w u Fb
        have nd' : (Fa ++ (Fb ++ Fp1)).Nodup := by simpa [List.append_assoc] using nd
        have n1 := List.nodup_append.mp nd'
        have n2 := List.nodup_append.mp n1.2.1
        obtain ⟨F1, S2, sb⟩ := S1.put o1 (List.nodup_append.mpr ⟨n1.1, n2.2.1, fun a ma b mb => n1.2.2 a ma b (List.mem_append_right _ mb)⟩) (fun a m => ap a (List.mem_append_left _ m)) i
        obtain ⟨F2, S3, sb3⟩ := S2.put o2 (List.nodup_append.mpr ⟨n2.1, S2.nd, fun a ma b mb z => by
          subst z
          rcases List.mem_append.mp (sb a mb) with z | z
          · exact n1.2.2 a z a (List.mem_append_left _ ma) rfl
          · exact n2.2.2 a ma a z rfl⟩) (fun a m => ap a (List.mem_append_right _ (List.mem_append_left _ m))) j
        refine ⟨v, w, rfl, h1 _ G1 H1 F2 (Step.refl.sub_end fun a m => ?_) ((Fix.set fi).trans (Fix.set fj)) S3⟩
        simp only [List.append_nil]
        rcases List.mem_append.mp (sb3 a m) with z | z
        · exact List.mem_append_left _ (List.mem_append_right _ z)
        · rcases List.mem_append.mp (sb a z) with z | z
          · exact List.mem_append_left _ (List.mem_append_left _ z)
          · exact List.mem_append_right _ z
end
end DL

/-! The data layer, part H: what loops walk, for, while. -/
namespace DL
open PySem L2 PyProof.Rows RZ

/-- an iterator gives these things, whatever else is done -/
def ItOk (K : Frg) (J : It) (ds : List D) (G : Hp) : Prop := ∀ G' H', Same G G' → GLe G' H' →
  (∀ (i : Nat) d, ds[i]? = some d → J.go i H' ∧ ∀ x H'', J.yld i H' x H'' → ∃ G'', Grow G' H' G'' H'' ∧ Den K G'' x d) ∧ J.stop ds.length H'
def VrI (K : Frg) : Hp → Hp → It → List D → List Addr → Prop := fun G H J ds Fr => Fr = [] ∧ ItOk K J ds G
def Di (X : Cx) (W : WX) (pu : Bool) (tg iter : Expr) (mi : M (List D)) : Prop := ∃ wi : TI, PI X tg iter wi ∧ ∀ G H σ env Fp R, Sta X.K G H σ env Fp → Post X.K X.mg W (VrI X.K) pu σ G H Fp env R (mi env) → wi σ H R
theorem vri_nil {K : Frg} : ∀ G H v d Fr, VrI K G H v d Fr → Fr = [] := fun _ _ _ _ _ h => h.1

section
variable {K : Frg} {G : Hp}
theorem it_list {a : Addr} {xs : List V} {ds : List D} (s : SqL K G a xs) (l : DenL K G xs ds) : ItOk K (Itl K a) ds G := fun G' H' sm gl => by
  have s' : SqL K H' a xs := gl.sqL ((same_gle sm).sqL s)
  refine ⟨fun i d e => ?_, ⟨xs, s', by rw [l.length]; exact Nat.le_refl _⟩⟩
  obtain ⟨v, hv, dv⟩ := l.get e
  refine ⟨⟨xs, v, s', hv⟩, fun x H'' y => ?_⟩
  obtain ⟨rfl, y⟩ := y
  have z := y xs s'
  rw [hv] at z
  cases z
  exact ⟨G', Grow.refl gl, dv.up (same_gle sm)⟩
theorem it_tup {a : Addr} {xs : List V} {ds : List D} (s : SqT K G a xs) (l : DenL K G xs ds) : ItOk K (Itt K a) ds G := fun G' H' sm gl => by
  have s' : SqT K H' a xs := gl.sqT ((same_gle sm).sqT s)
  refine ⟨fun i d e => ?_, ⟨xs, s', by rw [l.length]; exact Nat.le_refl _⟩⟩
  obtain ⟨v, hv, dv⟩ := l.get e
  refine ⟨⟨xs, v, s', hv⟩, fun x H'' y => ?_⟩
  obtain ⟨rfl, y⟩ := y
  have z := y xs s'
  rw [hv] at z
  cases z
  exact ⟨G', Grow.refl gl, dv.up (same_gle sm)⟩
def chars (z : Str) : List D := z.cps.toList.map fun c => .str ⟨#[c]⟩
theorem it_str {z : Str} : ItOk K (Its z) (chars z) G := fun G' H' sm gl => by
  refine ⟨fun i d e => ?_, (by show z.cps.size ≤ (chars z).length; unfold chars; simp)⟩
  unfold chars at e
  rw [List.getElem?_map] at e
  cases q : z.cps.toList[i]? with
  | none => rw [q] at e; cases e
  | some c =>
    rw [q] at e
    cases e
    have q' : z.cps[i]? = some c := by simpa using q
    refine ⟨(Array.getElem?_eq_some_iff.mp q').1, fun x H'' y => ?_⟩
    obtain ⟨rfl, c', hc, rfl⟩ := y
    rw [q'] at hc
    cases hc
    exact ⟨G', Grow.refl gl, .str _⟩
def intsR (lo : Int) (n : Nat) : List D := (List.range n).map fun (i : Nat) => .int (lo + i)
theorem it_rng {lo : Int} {n : Nat} : ItOk K (Itr lo n) (intsR lo n) G := fun G' H' sm gl => by
  refine ⟨fun i d e => ?_, (by show n ≤ (intsR lo n).length; unfold intsR; simp)⟩
  unfold intsR at e
  rw [List.getElem?_map] at e
  cases q : (List.range n)[i]? with
  | none => rw [q] at e; cases e
  | some c =>
    rw [q] at e
    cases e
    obtain ⟨h1, h2⟩ := List.getElem?_eq_some_iff.mp q
    have h3 : i = c := by simpa using h2
    refine ⟨(by have z : i < n := by simpa using h1
                exact z), fun x H'' y => ?_⟩
    obtain ⟨rfl, rfl⟩ := y
    rw [h3]
    exact ⟨G', Grow.refl gl, .int _⟩
def intsC (lo c : Int) (n : Nat) : List D := (List.range n).map fun (i : Nat) => .int (lo + i * c)
theorem it_rngC {lo c : Int} {n : Nat} : ItOk K (Itc lo c n) (intsC lo c n) G := fun G' H' sm gl => by
  refine ⟨fun i d e => ?_, (by show n ≤ (intsC lo c n).length; unfold intsC; simp)⟩
  unfold intsC at e
  rw [List.getElem?_map] at e
  cases q : (List.range n)[i]? with
  | none => rw [q] at e; cases e
  | some c =>
    rw [q] at e
    cases e
    obtain ⟨h1, h2⟩ := List.getElem?_eq_some_iff.mp q
    have h3 : i = c := by simpa using h2
    refine ⟨(by have z : i < n := by simpa using h1
                exact z), fun x H'' y => ?_⟩
    obtain ⟨rfl, rfl⟩ := y
    rw [h3]
    exact ⟨G', Grow.refl gl, .int _⟩
theorem new_pair {G' H' : Hp} (gl : GLe G' H') {T : Addr} (hT : H' T = none) {xs : List V} {ds : List D} (l : DenL K G' xs ds) : ∃ G'', Grow G' H' G'' (upd H' T (.tup xs)) ∧ Den K G'' (.ref T) (.tuple ds) := by
  have w := grow_newF gl hT (.tup xs)
  exact ⟨_, w, .tup (.inl (.inl upd_same)) (l.up (same_gle w.sub))⟩
def pairs (as bs : List D) : List D := (as.zip bs).map fun p => .tuple [p.1, p.2]
theorem it_zipL {a b : Addr} {xs ys : List V} {as bs : List D} (s : SqL K G a xs) (l : DenL K G xs as) (s2 : SqL K G b ys) (l2 : DenL K G ys bs) : ItOk K (Itz K a b) (pairs as bs) G := fun G' H' sm gl => by
  have s' : SqL K H' a xs := gl.sqL ((same_gle sm).sqL s)
  have s2' : SqL K H' b ys := gl.sqL ((same_gle sm).sqL s2)
  refine ⟨fun i d e => ?_, ⟨xs, ys, s', s2', ?_⟩⟩
  · unfold pairs at e
    rw [List.getElem?_map] at e
    cases q : (as.zip bs)[i]? with
    | none => rw [q] at e; cases e
    | some p =>
      rw [q] at e
      cases e
      obtain ⟨p1, p2⟩ := List.getElem?_zip_eq_some.mp q
      obtain ⟨v, hv, dv⟩ := l.get p1
      obtain ⟨u, hu, du⟩ := l2.get p2
      refine ⟨⟨xs, ys, v, u, s', s2', hv, hu⟩, fun x H'' y => ?_⟩
      obtain ⟨T, x1, x2, rfl, hT, rfl, y1, y2⟩ := y
      have z1 := y1 xs s'
      have z2 := y2 ys s2'
      rw [hv] at z1
      rw [hu] at z2
      cases z1
      cases z2
      exact new_pair gl hT (.cons (dv.up (same_gle sm)) (.cons (du.up (same_gle sm)) .nil))
  · unfold pairs
    rw [List.length_map, List.length_zip, l.length, l2.length]
    omega
theorem it_zipT {a b : Addr} {xs ys : List V} {as bs : List D} (s : SqT K G a xs) (l : DenL K G xs as) (s2 : SqT K G b ys) (l2 : DenL K G ys bs) : ItOk K (ItzT K a b) (pairs as bs) G := fun G' H' sm gl => by
  have s' : SqT K H' a xs := gl.sqT ((same_gle sm).sqT s)
  have s2' : SqT K H' b ys := gl.sqT ((same_gle sm).sqT s2)
  refine ⟨fun i d e => ?_, ⟨xs, ys, s', s2', ?_⟩⟩
  · unfold pairs at e
    rw [List.getElem?_map] at e
    cases q : (as.zip bs)[i]? with
    | none => rw [q] at e; cases e
    | some p =>
      rw [q] at e
      cases e
      obtain ⟨p1, p2⟩ := List.getElem?_zip_eq_some.mp q
      obtain ⟨v, hv, dv⟩ := l.get p1
      obtain ⟨u, hu, du⟩ := l2.get p2
      refine ⟨⟨xs, ys, v, u, s', s2', hv, hu⟩, fun x H'' y => ?_⟩
      obtain ⟨T, x1, x2, rfl, hT, rfl, y1, y2⟩ := y
      have z1 := y1 xs s'
      have z2 := y2 ys s2'
      rw [hv] at z1
      rw [hu] at z2
      cases z1
      cases z2
      exact new_pair gl hT (.cons (dv.up (same_gle sm)) (.cons (du.up (same_gle sm)) .nil))
  · unfold pairs
    rw [List.length_map, List.length_zip, l.length, l2.length]
    omega
def nums (as : List D) : List D := as.zipIdx.map fun p => .tuple [.int (p.2 : Nat), p.1]
theorem it_enum {a : Addr} {xs : List V} {as : List D} (s : SqL K G a xs) (l : DenL K G xs as) : ItOk K (Ite K a) (nums as) G := fun G' H' sm gl => by
  have s' : SqL K H' a xs := gl.sqL ((same_gle sm).sqL s)
  refine ⟨fun i d e => ?_, ⟨xs, s', (by
    have z : (nums as).length = as.length := by unfold nums; simp
    rw [z, l.length]
    exact Nat.le_refl _)⟩⟩
  unfold nums at e
  rw [List.getElem?_map] at e
  cases q : (as.zipIdx)[i]? with
  | none => rw [q] at e; cases e
  | some p =>
    rw [q] at e
    cases e
    rw [List.getElem?_zipIdx] at q
    cases q2 : as[i]? with
    | none => rw [q2] at q; cases q
    | some d =>
      rw [q2] at q
      have q : some (d, 0 + i) = some p := q
      cases q
      obtain ⟨v, hv, dv⟩ := l.get q2
      refine ⟨⟨xs, v, s', hv⟩, fun x H'' y => ?_⟩
      obtain ⟨T, x1, rfl, hT, rfl, y1⟩ := y
      have z1 := y1 xs s'
      rw [hv] at z1
      cases z1
      rw [Nat.zero_add]
      exact new_pair gl hT (.cons (.int _) (.cons (dv.up (same_gle sm)) .nil))
end

def seqD : D → Option (List D)
  | .list ds => some ds
  | .tuple ds => some ds
  | .str z => some (chars z)
  | _ => none
def dRng1 : List D → Option (List D)
  | [.int j] => if -(2 ^ 62) ≤ j ∧ j < 2 ^ 62 then some (intsR 0 j.toNat) else none
  | _ => none
def dRng2 : List D → Option (List D)
  | [.int i, .int j] => if -(2 ^ 62) ≤ i ∧ i < 2 ^ 62 ∧ -(2 ^ 62) ≤ j ∧ j < 2 ^ 62 then some (intsR i (j - i).toNat) else none
  | _ => none
def dZip : List D → Option (List D)
  | [.list a, .list b] => some (pairs a b)
  | [.tuple a, .tuple b] => some (pairs a b)
  | _ => none
def dEnum : List D → Option (List D)
  | [.list a] => some (nums a)
  | _ => none
section
variable {X : Cx} {W : WX} {fx : List Nat} {md : Md} {pu pa pb pc : Bool} {e a b c tg iter : Expr} {es : List Expr} {m ma mb : M D} {ms mi : M (List D)} {mt : M T} {mts : M (List T)} {mc : M Bool} {pos : Pos} {st : Stmt} {rest ba bb body : List Stmt} {n n' : M Fl}
def mI (g : D → Option (List D)) (m : M D) : M (List D) := m.bind fun d => M.lift (g d)
def mIL (g : List D → Option (List D)) (m : M (List D)) : M (List D) := m.bind fun d => M.lift (g d)
theorem pi_or {wi wi' : TI} (h : PI X tg iter wi) (h' : PI X tg iter wi') : PI X tg iter (fun σ H R => wi σ H R ∨ wi' σ H R) := ⟨fun pins s σ H R I q => q.elim (h.run pins s σ H R I) (h'.run pins s σ H R I)⟩
/-- a list, a tuple or a text, walked -/
theorem i_seq (h : Ex X W .frz pa e m) : Di X W pa tg e (mI seqD m) := by
  obtain ⟨te, p, k⟩ := h
  refine ⟨_, pi_or (pi_list p) (pi_or (pi_tup p) (pi_str p)), fun G H σ env Fp R S h => ?_⟩
  unfold mI at h
  cases r : m env with
  | bad => rw [M.bind_bad r] at h; exact h.elim
  | exn x e' =>
    rw [M.bind_exn r] at h
    exact .inl (k G H σ env Fp _ S (by rw [r]; exact h))
  | ok d e' =>
    have go : ∀ Q : VK, (∀ v G1 H1 Fp1, Sta X.K G1 H1 σ e' Fp1 → Den X.K G1 v d → Post X.K X.mg W (VrI X.K) true σ G1 H1 Fp1 e' R (M.lift (seqD d) e') → Q v H1) → te σ H Q := fun Q kk =>
      k G H σ env Fp Q S (Post.bindE (pu1 := pa) (pu2 := true) (by rw [Bool.and_true]; exact h) vrd_nil fun d1 env1 v G1 H1 Fp1 e1 st S1 q w h1 => by
        rw [r] at e1
        cases e1
        exact kk v G1 H1 Fp1 S1 w.2 h1)
    cases d with
    | list ds =>
      refine .inl (go _ fun v G1 H1 Fp1 S1 dv h1 => ?_)
      obtain ⟨a, xs, rfl, s, l⟩ := dv.of_lst
      exact ⟨a, rfl, ⟨xs, (S1.le.sqX s).l⟩, post_pure (x := ds) h1 S1 ⟨rfl, it_list s.l l⟩⟩
    | tuple ds =>
      refine .inr (.inl (go _ fun v G1 H1 Fp1 S1 dv h1 => ?_))
      obtain ⟨a, xs, rfl, s, l⟩ := dv.of_tup
      exact ⟨a, rfl, ⟨xs, S1.le.sqT s⟩, post_pure (x := ds) h1 S1 ⟨rfl, it_tup s l⟩⟩
    | str z =>
      refine .inr (.inr (go _ fun v G1 H1 Fp1 S1 dv h1 => ?_))
      exact ⟨z, dv.of_str, post_pure (x := chars z) h1 S1 ⟨rfl, it_str⟩⟩
    | _ => rw [M.bind_ok r] at h; exact h.elim
theorem iter_args {g : List D → Option (List D)} {ta : TA} (k : ∀ G H σ env Fp Q, Sta X.K G H σ env Fp → Post X.K X.mg W (VrL X.K .frz) pa σ G H Fp env Q (ms env) → ta σ H Q) {G H : Hp} {σ : L2.St} {env : Env} {Fp : List Addr} {R : It → Hp → Prop} (S : Sta X.K G H σ env Fp)
    (h : Post X.K X.mg W (VrI X.K) pa σ G H Fp env R (mIL g ms env)) (Q : List V → Hp → Prop) (kk : ∀ vs H1 G1 ds xs, GLe G1 H1 → DenL X.K G1 vs ds → g ds = some xs → (∀ J, ItOk X.K J xs G1 → R J H1) → Q vs H1) : ta σ H Q := by
  unfold mIL at h
  refine k G H σ env Fp Q S (Post.bind (pu1 := pa) (pu2 := true) (by rw [Bool.and_true]; exact h) vrl_nil fun ds env1 vs G1 H1 Fp1 st S1 q w h1 => ?_)
  obtain ⟨xs, e1, kx⟩ := h1.lift0 S1
  exact kk vs H1 G1 ds xs S1.le w.2 e1 fun J hJ => kx J G1 H1 (Grow.refl S1.le) ⟨rfl, hJ⟩
theorem DenL.one {K : Frg} {G : Hp} {vs : List V} {d : D} (h : DenL K G vs [d]) : ∃ v, vs = [v] ∧ Den K G v d := by
  cases h with
  | cons h t => cases t; exact ⟨_, rfl, h⟩
theorem DenL.two {K : Frg} {G : Hp} {vs : List V} {d d' : D} (h : DenL K G vs [d, d']) : ∃ v v', vs = [v, v'] ∧ Den K G v d ∧ Den K G v' d' := by
  cases h with
  | cons h t =>
    obtain ⟨v', rfl, h'⟩ := t.one
    exact ⟨_, _, rfl, h, h'⟩
theorem i_rng1 {p : Pos} (hg : Gl X "range") (hm : X.mg "range" = none) (ha : Ea X W .frz pa [a] ms) (hs : starEach [a] X.env = [(false, eval a X.env)] := by rfl) : Di X W pa tg (.Call (.Name "range" p) [a] [] pos) (mIL dRng1 ms) := by
  obtain ⟨ta, p, k⟩ := ha
  refine ⟨_, pi_range1 hg hm p hs, fun G H σ env Fp R S h => iter_args k S h _ fun vs H1 G1 ds xs gl l e kR => ?_⟩
  unfold dRng1 at e
  split at e
  · split at e
    · rename_i hb
      cases e
      obtain ⟨v, rfl, dv⟩ := l.one
      exact ⟨_, by rw [dv.of_int], hb.1, hb.2, kR _ it_rng⟩
    · cases e
  · cases e
theorem i_rng2 {p : Pos} (hg : Gl X "range") (hm : X.mg "range" = none) (ha : Ea X W .frz pa [a, b] ms) (hs : starEach [a, b] X.env = [(false, eval a X.env), (false, eval b X.env)] := by rfl) (hs2 : starEach [b] X.env = [(false, eval b X.env)] := by rfl) : Di X W pa tg (.Call (.Name "range" p) [a, b] [] pos) (mIL dRng2 ms) := by
  obtain ⟨ta, p, k⟩ := ha
  refine ⟨_, pi_range2 hg hm p hs hs2, fun G H σ env Fp R S h => iter_args k S h _ fun vs H1 G1 ds xs gl l e kR => ?_⟩
  unfold dRng2 at e
  split at e
  · split at e
    · rename_i hb
      cases e
      obtain ⟨v, v', rfl, dv, dv'⟩ := l.two
      exact ⟨_, _, by rw [dv.of_int, dv'.of_int], hb, kR _ it_rng⟩
    · cases e
  · cases e
theorem i_zip {p tpos : Pos} {elts : List Expr} {kk : Nat} (hg : Gl X "zip") (hm : X.mg "zip" = none) (ha : Ea X W .frz pa [a, b] ms) (hs : starEach [a, b] X.env = (false, eval a X.env) :: starEach [b] X.env := by rfl) (hpl : (backTo pos (starEach [b] X.env)).any (·.1) = false := by rfl) :
    Di X W pa (.Tuple elts kk tpos) (.Call (.Name "zip" p) [a, b] [] pos) (mIL dZip ms) := by
  obtain ⟨ta, p, k⟩ := ha
  refine ⟨_, pi_zipA hg hm p hs hpl, fun G H σ env Fp R S h => iter_args k S h _ fun vs H1 G1 ds xs gl l e kR => ?_⟩
  unfold dZip at e
  split at e
  · cases e
    obtain ⟨v, v', rfl, dv, dv'⟩ := l.two
    obtain ⟨a1, x1, rfl, s1, l1⟩ := dv.of_lst
    obtain ⟨a2, x2, rfl, s2, l2⟩ := dv'.of_lst
    exact ⟨a1, a2, x1, x2, rfl, .inl ⟨(gl.sqX s1).l, (gl.sqX s2).l, kR _ (it_zipL s1.l l1 s2.l l2)⟩⟩
  · cases e
    obtain ⟨v, v', rfl, dv, dv'⟩ := l.two
    obtain ⟨a1, x1, rfl, s1, l1⟩ := dv.of_tup
    obtain ⟨a2, x2, rfl, s2, l2⟩ := dv'.of_tup
    exact ⟨a1, a2, x1, x2, rfl, .inr ⟨gl.sqT s1, gl.sqT s2, kR _ (it_zipT s1 l1 s2 l2)⟩⟩
  · cases e
theorem i_enum {p tpos : Pos} {elts : List Expr} {kk : Nat} (hg : Gl X "enumerate") (hm : X.mg "enumerate" = none) (ha : Ea X W .frz pa [a] ms) (hs : starEach [a] X.env = [(false, eval a X.env)] := by rfl) :
    Di X W pa (.Tuple elts kk tpos) (.Call (.Name "enumerate" p) [a] [] pos) (mIL dEnum ms) := by
  obtain ⟨ta, p, k⟩ := ha
  refine ⟨_, pi_enum hg hm p hs, fun G H σ env Fp R S h => iter_args k S h _ fun vs H1 G1 ds xs gl l e kR => ?_⟩
  unfold dEnum at e
  split at e
  · cases e
    obtain ⟨v, rfl, dv⟩ := l.one
    obtain ⟨a1, x1, rfl, s1, l1⟩ := dv.of_lst
    exact ⟨a1, x1, rfl, (gl.sqX s1).l, kR _ (it_enum s1.l l1)⟩
  · cases e

/-! ### for -/
def mFor (f : T → Env → Option Env) (body : M Fl) : List D → M Fl
  | [] => M.pure .nx
  | d :: ds => fun env => match f (.fz d) env with
    | none => .bad
    | some env1 => match body env1 with
      | .bad => .bad
      | .exn x e => .exn x e
      | .ok .nx e => mFor f body ds e
      | .ok .ct e => mFor f body ds e
      | .ok .bk e => .ok .nx e
      | .ok (.rt t) e => .ok (.rt t) e
theorem s_for {f : T → Env → Option Env} (hp : PassesOwn (model X.prog X.w) X.A X.env X.xe) (hc : X.calm = true) (hi : Di X W pa tg iter mi) (hg : DG X fx tg f) (hb : DSs X W fx body n)
    (hs : ∀ x, foldedSetIterable iter X.env x = pure x := by intro _; rfl) : DS X W fx (.For tg iter body [] pos) (mi.bind fun ds => mFor f n ds) := by
  obtain ⟨wi, p, k⟩ := hi
  obtain ⟨g, pg, kg⟩ := hg
  obtain ⟨tb, pb, kb⟩ := hb
  refine ⟨_, ps_for hp hc p pg pb hs, fun G H σ env Fp Dn S h => k G H σ env Fp _ S (SPost.expr h fun ds env1 J G1 H1 Fp1 Fr st1 S1 nd ap w h1 => ?_)⟩
  obtain ⟨rfl, ok⟩ := w
  refine ⟨fun i m σ' H' => i + m = ds.length ∧ ∃ G' env' Fp', Same G1 G' ∧ Sta X.K G' H' σ' env' Fp' ∧ SPost X W fx σ' G' H' Fp' Dn (mFor f n (ds.drop i) env'), ⟨ds.length, by omega, G1, env1, Fp1, Same.refl _, S1, h1⟩, fun i m σ2 H2 hw => ?_⟩
  obtain ⟨hl, G2, env2, Fp2, sm, S2, h2⟩ := hw
  obtain ⟨items, stop⟩ := ok G2 H2 sm S2.le
  by_cases hi : i < ds.length
  · refine .inr ?_
    have e1 : ds[i]? = some ds[i] := List.getElem?_eq_getElem hi
    obtain ⟨go, yl⟩ := items i _ e1
    rw [List.drop_eq_getElem_cons hi] at h2
    refine ⟨go, fun σ' H' => ∃ G' env' Fp', Same G1 G' ∧ Sta X.K G' H' σ' env' Fp' ∧ SPost X W fx σ' G' H' Fp' Dn (mFor f n (ds.drop (i + 1)) env'), fun σ' H' z => ⟨m - 1, by omega, by omega, z⟩, fun x H3 y => ?_⟩
    obtain ⟨G3, w3, dx⟩ := yl x H3 y
    have S3 := S2.grow w3
    unfold mFor at h2
    cases q : f (.fz ds[i]) env2 with
    | none => rw [q] at h2; exact h2.elim
    | some env3 =>
      rw [q] at h2
      dsimp only at h2
      refine kg G3 H3 σ2 env2 Fp2 x (.fz ds[i]) [] env3 _ S3 (.fz dx) S3.nd (fun _ m => nomatch m) q fun σ4 F4 f4 S4 sb4 => ?_
      refine kb G3 H3 σ4 env3 F4 _ S4 ?_
      have st4 : Step G2 H2 Fp2 G3 H3 F4 := (w3.step (Fp := Fp2)).sub_end sb4
      have h3 : SPost X W fx σ4 G3 H3 F4 Dn _ := h2.shift st4 f4
      clear h2
      cases q2 : n env3 with
      | bad => rw [q2] at h3; exact h3
      | exn x e => rw [q2] at h3; exact h3
      | ok fl e =>
        rw [q2] at h3
        cases fl with
        | rt t => exact h3
        | bk => exact h3
        | nx => exact fun σ' G' H' Fp' s' f' S' => ⟨G', e, Fp', sm.trans (w3.sub.trans s'.sub), S', h3.shift s' f'⟩
        | ct => exact fun σ' G' H' Fp' s' f' S' => ⟨G', e, Fp', sm.trans (w3.sub.trans s'.sub), S', h3.shift s' f'⟩
  · have e : i = ds.length := by omega
    subst e
    rw [List.drop_length] at h2
    exact .inl ⟨stop, h2 σ2 G2 H2 Fp2 Step.refl Fix.refl S2⟩
/-! ### while -/
def mWhN (c : M Bool) (body : M Fl) : Nat → M Fl
  | 0 => fun _ => .bad
  | n + 1 => fun env => match c env with
    | .bad => .bad
    | .exn x e => .exn x e
    | .ok false e => .ok .nx e
    | .ok true e => match body e with
      | .bad => .bad
      | .exn x e' => .exn x e'
      | .ok .nx e' => mWhN c body n e'
      | .ok .ct e' => mWhN c body n e'
      | .ok .bk e' => .ok .nx e'
      | .ok (.rt t) e' => .ok (.rt t) e'
open Classical in
noncomputable def mWh (c : M Bool) (body : M Fl) : M Fl := fun env => if h : ∃ n, mWhN c body n env ≠ .bad then mWhN c body (Classical.choose h) env else .bad
theorem mWhN_mono {c : M Bool} {body : M Fl} : ∀ (n k : Nat) (env : Env), mWhN c body n env ≠ .bad → mWhN c body (n + k) env = mWhN c body n env
  | 0, _, _, h => absurd rfl h
  | n + 1, k, env, h => by
    rw [show n + 1 + k = (n + k) + 1 by omega]
    unfold mWhN at h ⊢
    cases e1 : c env with
    | bad => rfl
    | exn x e => rfl
    | ok b e =>
      rw [e1] at h
      cases b with
      | false => rfl
      | true =>
        dsimp only at h ⊢
        cases e2 : body e with
        | bad => rfl
        | exn x e' => rfl
        | ok fl e' =>
          rw [e2] at h
          cases fl with
          | nx => exact mWhN_mono n k _ h
          | ct => exact mWhN_mono n k _ h
          | bk => rfl
          | rt t => rfl
theorem mWh_of {c : M Bool} {body : M Fl} {n : Nat} {env : Env} (h : mWhN c body n env ≠ .bad) : mWh c body env = mWhN c body n env := by
  have hx : ∃ n, mWhN c body n env ≠ .bad := ⟨n, h⟩
  unfold mWh
  rw [dif_pos hx]
  have h2 := Classical.choose_spec hx
  rcases Nat.le_total n (Classical.choose hx) with z | z
  · obtain ⟨k, e⟩ := Nat.le.dest z
    rw [← e]
    exact mWhN_mono n k env h
  · obtain ⟨k, e⟩ := Nat.le.dest z
    have := mWhN_mono (Classical.choose hx) k env h2
    rw [e] at this
    exact this.symm
theorem mWh_bad {c : M Bool} {body : M Fl} {env : Env} (h : ∀ n, mWhN c body n env = .bad) : mWh c body env = .bad := by
  unfold mWh
  rw [dif_neg]
  rintro ⟨n, hn⟩
  exact hn (h n)
/-- one turn more -/
theorem mWh_eq (c : M Bool) (body : M Fl) (env : Env) : mWh c body env = match c env with
    | .bad => .bad
    | .exn x e => .exn x e
    | .ok false e => .ok .nx e
    | .ok true e => match body e with
      | .bad => .bad
      | .exn x e' => .exn x e'
      | .ok .nx e' => mWh c body e'
      | .ok .ct e' => mWh c body e'
      | .ok .bk e' => .ok .nx e'
      | .ok (.rt t) e' => .ok (.rt t) e' := by
  have step : ∀ n, mWhN c body (n + 1) env = match c env with
    | .bad => .bad
    | .exn x e => .exn x e
    | .ok false e => .ok .nx e
    | .ok true e => match body e with
      | .bad => .bad
      | .exn x e' => .exn x e'
      | .ok .nx e' => mWhN c body n e'
      | .ok .ct e' => mWhN c body n e'
      | .ok .bk e' => .ok .nx e'
      | .ok (.rt t) e' => .ok (.rt t) e' := fun n => by rw [mWhN]
  have rest : ∀ e', (∀ n, mWhN c body (n + 1) env = mWhN c body n e') → mWh c body env = mWh c body e' := fun e' z => by
    by_cases h : ∃ n, mWhN c body n e' ≠ .bad
    · obtain ⟨n, hn⟩ := h
      rw [mWh_of hn, mWh_of (n := n + 1) (by rw [z n]; exact hn), z n]
    · have h' : ∀ n, mWhN c body n e' = .bad := fun n => Classical.byContradiction fun q => h ⟨n, q⟩
      rw [mWh_bad h', mWh_bad fun n => by
        cases n with
        | zero => rfl
        | succ n => rw [z n]; exact h' n]
  have leaf : ∀ r, r ≠ Rs.bad → (∀ n, mWhN c body (n + 1) env = r) → mWh c body env = r := fun r hr z => by
    rw [mWh_of (n := 1) (by rw [z 0]; exact hr), z 0]
  have dead : (∀ n, mWhN c body (n + 1) env = .bad) → mWh c body env = .bad := fun z => mWh_bad fun n => by
    cases n with
    | zero => rfl
    | succ n => exact z n
  split
  · rename_i e1
    exact dead fun n => by rw [step n, e1]
  · rename_i e1
    exact leaf _ (fun z => nomatch z) fun n => by rw [step n, e1]
  · rename_i e1
    exact leaf _ (fun z => nomatch z) fun n => by rw [step n, e1]
  · rename_i e1
    split
    · rename_i e2
      exact dead fun n => by rw [step n, e1]; dsimp only; rw [e2]
    · rename_i e2
      exact leaf _ (fun z => nomatch z) fun n => by rw [step n, e1]; dsimp only; rw [e2]
    · rename_i e2
      exact rest _ fun n => by rw [step n, e1]; dsimp only; rw [e2]
    · rename_i e2
      exact rest _ fun n => by rw [step n, e1]; dsimp only; rw [e2]
    · rename_i e2
      exact leaf _ (fun z => nomatch z) fun n => by rw [step n, e1]; dsimp only; rw [e2]
    · rename_i e2
      exact leaf _ (fun z => nomatch z) fun n => by rw [step n, e1]; dsimp only; rw [e2]
theorem s_while (hp : PassesOwn (model X.prog X.w) X.A X.env X.xe) (hc : Et X W pc c mc) (hb : DSs X W fx body n) : DS X W fx (.While c body [] pos) (mWh mc n) := by
  obtain ⟨tc, p0, k0⟩ := hc
  obtain ⟨tb, p1, k1⟩ := hb
  refine ⟨_, ps_while hp p0 p1, fun G H σ env Fp Dn S h => ?_⟩
  have hx : ∃ k, mWhN mc n k env ≠ .bad := Classical.byContradiction fun z => by
    rw [mWh_bad fun k => Classical.byContradiction fun q => z ⟨k, q⟩] at h
    exact h
  obtain ⟨k, hk⟩ := hx
  rw [mWh_of hk] at h
  refine ⟨fun m σ' H' => ∃ G' env' Fp', Sta X.K G' H' σ' env' Fp' ∧ SPost X W fx σ' G' H' Fp' Dn (mWhN mc n m env'), ⟨k, G, env, Fp, S, h⟩, fun m σ1 H1 hw => ?_⟩
  obtain ⟨G1, env1, Fp1, S1, h1⟩ := hw
  cases m with
  | zero => exact h1.elim
  | succ m =>
    unfold mWhN at h1
    refine k0 G1 H1 σ1 env1 Fp1 _ S1 ?_
    cases q : mc env1 with
    | bad => rw [q] at h1; exact h1
    | exn x e =>
      rw [q] at h1
      exact fun cls dd G' H' Fp' s' S' q => h1 cls dd σ1 G' H' Fp' s' Fix.refl S' q
    | ok b e =>
      rw [q] at h1
      intro b' G2 H2 Fp2 Fr st2 S2 nd2 ap2 _ v2
      obtain ⟨rfl, rfl⟩ := v2
      cases b' with
      | false => exact h1 σ1 G2 H2 Fp2 st2 Fix.refl S2
      | true =>
        refine ⟨fun σ' H' => ∃ G' env' Fp', Sta X.K G' H' σ' env' Fp' ∧ SPost X W fx σ' G' H' Fp' Dn (mWhN mc n m env'), fun σ' H' z => ⟨m, Nat.lt_succ_self m, z⟩, ?_⟩
        refine k1 G2 H2 σ1 e Fp2 _ S2 ?_
        dsimp only at h1
        have h3 : SPost X W fx σ1 G2 H2 Fp2 Dn _ := h1.shift st2 Fix.refl
        clear h1
        cases q2 : n e with
        | bad => rw [q2] at h3; exact h3
        | exn x e' => rw [q2] at h3; exact h3
        | ok fl e' =>
          rw [q2] at h3
          cases fl with
          | rt t => exact h3
          | bk => exact h3
          | nx => exact fun σ' G' H' Fp' s' f' S' => ⟨G', e', Fp', S', h3.shift s' f'⟩
          | ct => exact fun σ' G' H' Fp' s' f' S' => ⟨G', e', Fp', S', h3.shift s' f'⟩
end
end DL

/-! The data layer, part I: defs by their bodies, calls. -/
namespace DL
open PySem L2 PyProof.Rows

structure GR (k : Nat) (A : Around) : Prop where
  rm : Room k A
  gd : A.guards = some []
theorem GR.mono {j k : Nat} {A : Around} (r : GR k A) (h : j ≤ k) : GR j A := ⟨r.rm.mono h, r.gd⟩
structure FnG (P : Program) (w : World) (K : Frg) (mg : Str → Option Value) (base : Heap) (k : Nat) (f : Addr) (fd : FuncData) (ps : List Str) (sp : Sp) : Prop where
  len : ∀ vs H Q E, sp vs H Q E → vs.length = ps.length
  run : ∀ (A : Around) (outer : List PySem.Env) (s : Shared) (H : Hp) (args : Args) (us : List Value) (vs : List V) (Q : VK) (E : XK), GR k A → Env0 P w K mg base A outer s H → BindsTo s fd args (ps.zip us) → Vals vs us → sp vs H Q E →
    codeAny (model P w) A (.call (.ref f) args) (CR (L2.CX P w) outer P w H s Q E) s
theorem FnG.mono {P : Program} {w : World} {K : Frg} {mg : Str → Option Value} {base : Heap} {j k : Nat} {f : Addr} {fd : FuncData} {ps : List Str} {sp : Sp} (F : FnG P w K mg base j f fd ps sp) (h : j ≤ k) : FnG P w K mg base k f fd ps sp :=
  ⟨F.len, fun A outer s H args us vs Q E r => F.run A outer s H args us vs Q E (r.mono h)⟩
theorem FnG.imp {P : Program} {w : World} {K : Frg} {mg : Str → Option Value} {base : Heap} {k : Nat} {f : Addr} {fd : FuncData} {ps : List Str} {sp sp' : Sp} (F : FnG P w K mg base k f fd ps sp) (h : ∀ vs H Q E, sp' vs H Q E → sp vs H Q E) : FnG P w K mg base k f fd ps sp' :=
  ⟨fun vs H Q E q => F.len vs H Q E (h _ _ _ _ q), fun A outer s H args us vs Q E r e b v q => F.run A outer s H args us vs Q E r e b v (h _ _ _ _ q)⟩

/-- a def by its body, the guards known -/
theorem fnG_of {P : Program} {w : World} {K : Frg} {mg : Str → Option Value} {base : Heap} {x qual : Str} {st : Stmt} {f : Addr} {fd : FuncData} {N ps : List Str} {k : Nat} {sp : Sp} (F : Fun K x qual st f fd) (S : FnScope N ps (defScope st))
    (len : ∀ vs H Q E, sp vs H Q E → vs.length = ps.length)
    (body : ∀ (cdv : Value) (A : Around) (outer : List PySem.Env) (s : Shared) (H : Hp) (vs : List V) (Q : VK) (E : XK), GR k (A.deeper (envOfC qual (defScope st) s.heap.objs.size f cdv)) → sp vs H Q E →
      ∃ t, PSs (cxOf (L2.CX P w) P w K mg base N qual (defScope st) f cdv A outer s H E) (defBody st) t ∧ t { nx := fun _ H' => Q .non H', rt := Q } (L2.start N vs) H) : FnG P w K mg base (k + 1) f fd ps sp := by
  obtain ⟨oc, od, kV, doc, pm, an, cdv, ct, osl, rfl, lk, code⟩ := F.ex
  refine ⟨len, fun A outer s H args us vs Q E room e0 bind rel hsp => ?_⟩
  have KX : K.In s.heap := e0.mod.kin.keeps fun b o e => (e0.bs b o e).1
  have lim := e0.mod.nolimit.keeps (h' := s.heap) fun b o e => (e0.bs b o e).1
  have kinds : ∀ y ∈ ps.zip us, (defScope st).names.lookup y.1 = some .local ∨ ((defScope st).names.lookup y.1 = some .cell ∧ ((cellsFrom (s.heap.objs.size + 1) (defScope st).names []).lookup y.1).isSome = true) := by
    rintro ⟨n, v⟩ hy
    rcases S.par n (List.of_mem_zip hy).1 with q | q
    · exact .inl q
    · exact .inr ⟨q, PySem.W.cellsFrom_some _ _ _ (.inl q)⟩
  refine codeAny_call_function room.rm.depth (KX _ _ lk) rfl S.co S.gen rfl (PySem.W.codeRec_of KX code) (bind _ _ _ _ ?_)
  refine wpAny_newFunctionEnv_cells S.kind kinds fun env he s1 ic => ?_
  subst he
  refine ⟨lim.keeps ic.toInCall.keep, codeAny_func ?_⟩
  obtain ⟨t, ht, hq⟩ := body cdv A outer s H vs Q E ⟨room.rm.deeper _, room.gd⟩ hsp
  have I := inv_start (CX := L2.CX P w) (E := E) (K := K) (mg := mg) (base := base) S room.rm.hd e0 (len _ _ _ _ hsp) rel ic
  refine wpAny_mono (ht.run [] s1 (L2.start N vs) H _ I hq) (fun fl s' done => ?_) fun e s' z => z
  cases fl with
  | ret u =>
    obtain ⟨v, σ', H', J, rv, q⟩ := done
    exact ⟨v, H', J.os, J.bare, J.base, J.hok, rv, q⟩
  | next =>
    obtain ⟨σ', H', J, q⟩ := done
    exact ⟨V.non, H', J.os, J.bare, J.base, J.hok, rfl, q⟩
  | brk =>
    obtain ⟨_, _, _, q⟩ := done
    exact q.elim
  | cont =>
    obtain ⟨_, _, _, q⟩ := done
    exact q.elim

/-! ### a def that computes a function of data -/
def FPost (K : Frg) (mg : Str → Option Value) (vs : List V) (G H : Hp) (F : List Addr) (Q : VK) (E : XK) : Rs T → Prop
  | .bad => False
  | .ok t env' => ∀ v G' H' Fp' Fr, Step G H F G' H' (Fr ++ Fp') → Sta K G' H' (vs.map some) env' Fp' → (Fr ++ Fp').Nodup → (∀ x ∈ Fr, G' x = none) → Own K G' H' v t Fr → Q v H'
  | .exn x env' => ∀ cls dd G' H' Fp', Step G H F G' H' Fp' → Sta K G' H' (vs.map some) env' Fp' → ExcOk K mg G' H' x cls dd → E cls dd H'
abbrev Sem := Env → Rs T
def spD (K : Frg) (mg : Str → Option Value) (n : Nat) (sem : Sem) : Sp := fun vs H Q E => vs.length = n ∧ ∃ G env Fp, Sta K G H (vs.map some) env Fp ∧ FPost K mg vs G H Fp Q E (sem env)
def keepF : Option T → Option T
  | some (.fz d) => some (.fz d)
  | _ => none
def mixE (p : Nat → Bool) : Env → Env → Env
  | [], _ => []
  | t :: r, [] => keepF t :: mixE (fun i => p (i + 1)) r []
  | t :: r, u :: e => (if p 0 = true then u else keepF t) :: mixE (fun i => p (i + 1)) r e
def SlotOk (K : Frg) (G H : Hp) (x : Option V) (t : Option T) (F : List Addr) : Prop := match t with
  | none => F = []
  | some t => ∃ v, x = some v ∧ Own K G H v t F
theorem slots_cons {K : Frg} {G H : Hp} {x : Option V} {t : Option T} {F F' : List Addr} {σ : L2.St} {env : Env} (h : SlotOk K G H x t F) (r : Slots K G H σ env F') : Slots K G H (x :: σ) (t :: env) (F ++ F') := by
  cases t with
  | none =>
    obtain rfl : F = [] := h
    exact .no r
  | some t =>
    obtain ⟨v, rfl, o⟩ := h
    exact .so o r
theorem slots_uncons {K : Frg} {G H : Hp} {x : Option V} {t : Option T} {F : List Addr} {σ : L2.St} {env : Env} (h : Slots K G H (x :: σ) (t :: env) F) : ∃ F1 F2, F = F1 ++ F2 ∧ SlotOk K G H x t F1 ∧ Slots K G H σ env F2 := by
  cases h with
  | no r => exact ⟨[], _, rfl, rfl, r⟩
  | so o r => exact ⟨_, _, rfl, ⟨_, rfl, o⟩, r⟩
theorem slotOk_keep {K : Frg} {G H G' H' : Hp} (sm : Same G G') {x : Option V} {t : Option T} {F : List Addr} (h : SlotOk K G H x t F) : SlotOk K G' H' x (keepF t) [] := by
  cases t with
  | none => exact rfl
  | some t =>
    obtain ⟨v, rfl, o⟩ := h
    cases o with
    | fz d => exact ⟨v, rfl, .fz (d.up (same_gle sm))⟩
    | _ => exact rfl
theorem mix_slots {K : Frg} {G H G' H' : Hp} (sm : Same G G') : ∀ {vs : List V} {env : Env} {Fp : List Addr} {σ' : L2.St} {e : Env} {F' : List Addr} {p : Nat → Bool}, Slots K G H (vs.map some) env Fp → Slots K G' H' σ' e F' → vs.length ≤ σ'.length →
    (∀ (i : Nat) v, vs[i]? = some v → p i = true → σ'[i]? = some (some v)) → ∃ F2, Slots K G' H' (vs.map some) (mixE p env e) F2 ∧ (∀ a ∈ F2, a ∈ F') ∧ (F'.Nodup → F2.Nodup)
  | [], [], _, _, _, _, _, s, _, _, _ => ⟨[], .nil, (fun _ m => absurd m (by simp)), fun _ => List.nodup_nil⟩
  | [], _ :: _, _, _, _, _, _, s, _, _, _ => by cases s
  | v :: vs, [], _, _, _, _, _, s, _, _, _ => by cases s
  | v :: vs, t :: env, Fp, [], e, F', p, s, s', hl, hp => absurd hl (by simp)
  | v :: vs, t :: env, Fp, x :: σ', [], F', p, s, s', hl, hp => by cases s'
  | v :: vs, t :: env, Fp, x :: σ', u :: e, F', p, s, s', hl, hp => by
    obtain ⟨F1, F2, rfl, h1, r1⟩ := slots_uncons (by simpa using s)
    obtain ⟨E1, E2, rfl, h2, r2⟩ := slots_uncons s'
    obtain ⟨F3, s3, k3, n3⟩ := mix_slots (p := fun i => p (i + 1)) sm r1 r2 (by simpa using hl) fun i v h q => by simpa using hp (i + 1) v (by simpa using h) q
    cases hp0 : p 0 with
    | true =>
      have z : x = some v := by simpa using hp 0 v rfl hp0
      subst z
      refine ⟨E1 ++ F3, ?_, fun a m => ?_, fun n => ?_⟩
      · unfold mixE
        rw [if_pos hp0]
        exact slots_cons h2 s3
      · rcases List.mem_append.mp m with m | m
        · exact List.mem_append_left _ m
        · exact List.mem_append_right _ (k3 a m)
      · have n' := List.nodup_append.mp n
        exact List.nodup_append.mpr ⟨n'.1, n3 n'.2.1, fun a ma b mb => n'.2.2 a ma b (k3 b mb)⟩
    | false =>
      refine ⟨[] ++ F3, ?_, fun a m => List.mem_append_right _ (k3 a (by simpa using m)), fun n => n3 (List.nodup_append.mp n).2.1⟩
      unfold mixE
      rw [if_neg (by rw [hp0]; decide)]
      exact slots_cons (slotOk_keep sm h1) s3
/-- what a def computes, by its body -/
def semOf (fx : List Nat) (k : Nat) (m : M Fl) : Sem := fun env => match m (env ++ List.replicate k none) with
  | .bad => .bad
  | .exn x e => .exn x (mixE (fun i => fx.contains i) env e)
  | .ok .nx e => .ok (.fz .none) (mixE (fun i => fx.contains i) env e)
  | .ok (.rt t) e => .ok t (mixE (fun i => fx.contains i) env e)
  | .ok _ _ => .bad
theorem slots_more {K : Frg} {G H : Hp} {σ : L2.St} {env : Env} {F : List Addr} (s : Slots K G H σ env F) (k : Nat) : Slots K G H (σ ++ List.replicate k none) (env ++ List.replicate k none) F := by
  induction s with
  | nil =>
    induction k with
    | zero => exact .nil
    | succ k ih => exact .no ih
  | no _ ih => exact .no ih
  | so o _ ih => exact .so o ih
theorem def_of {P : Program} {w : World} {K : Frg} {mg : Str → Option Value} {base : Heap} {x qual : Str} {st : Stmt} {f : Addr} {fd : FuncData} {N ps : List Str} {k : Nat} {m : M Fl} {fx : List Nat} (F : Fun K x qual st f fd) (S : FnScope N ps (defScope st))
    (body : ∀ (cdv : Value) (A : Around) (outer : List PySem.Env) (s : Shared) (H : Hp) (E : XK), GR k (A.deeper (envOfC qual (defScope st) s.heap.objs.size f cdv)) →
      DSs (cxOf (L2.CX P w) P w K mg base N qual (defScope st) f cdv A outer s H E) (fun cls d _ H => E cls d H) fx (defBody st) m) : FnG P w K mg base (k + 1) f fd ps (spD K mg ps.length (semOf fx (N.length - ps.length) m)) := by
  refine fnG_of F S (fun vs H Q E h => h.1) fun cdv A outer s H vs Q E room hsp => ?_
  obtain ⟨hl, G, env, Fp, S0, post⟩ := hsp
  obtain ⟨ts, p, kk⟩ := body cdv A outer s H E room
  refine ⟨ts, p, kk G H (L2.start N vs) (env ++ List.replicate (N.length - ps.length) none) Fp _ ⟨S0.le, ?_, S0.nd, S0.ap⟩ ?_⟩
  · unfold L2.start
    rw [hl]
    exact slots_more S0.sl _
  · unfold semOf at post
    have hfix : ∀ {σ' : L2.St}, Fix fx (L2.start N vs) σ' → ∀ (i : Nat) v, vs[i]? = some v → fx.contains i = true → σ'[i]? = some (some v) := fun {σ'} hf i v hv hc => by
      rw [hf.2 i (by simpa using hc)]
      unfold L2.start
      have hi : i < vs.length := (List.getElem?_eq_some_iff.mp hv).1
      rw [List.getElem?_append_left (by simpa using hi), List.getElem?_map, hv]
      rfl
    have hlen : ∀ {G' H' : Hp} {σ' : L2.St} {e : Env} {F' : List Addr}, Fix fx (L2.start N vs) σ' → Sta K G' H' σ' e F' → vs.length ≤ σ'.length := fun {G' H' σ' e F'} hf S' => by
      rw [hf.1]
      unfold L2.start
      rw [List.length_append, List.length_map]
      omega
    cases r : m (env ++ List.replicate (N.length - ps.length) none) with
    | bad => rw [r] at post; exact post
    | exn x e =>
      rw [r] at post
      intro cls dd σ' G' H' Fp' st hf S' q
      obtain ⟨F2, s2, k2, n2⟩ := mix_slots (p := fun i => fx.contains i) st.sub S0.sl S'.sl (hlen hf S') (hfix hf)
      exact post cls dd G' H' F2 (st.sub_end k2) ⟨S'.le, s2, n2 S'.nd, fun a m => S'.ap a (k2 a m)⟩ q
    | ok fl e =>
      rw [r] at post
      cases fl with
      | nx =>
        intro σ' G' H' Fp' st hf S'
        obtain ⟨F2, s2, k2, n2⟩ := mix_slots (p := fun i => fx.contains i) st.sub S0.sl S'.sl (hlen hf S') (hfix hf)
        exact post .non G' H' F2 [] (st.sub_end k2) ⟨S'.le, s2, n2 S'.nd, fun a m => S'.ap a (k2 a m)⟩ (n2 S'.nd) (fun _ m => nomatch m) (.fz .non)
      | rt t =>
        intro v σ' G' H' Fp' Fr st hf S' nd ap o
        obtain ⟨F2, s2, k2, n2⟩ := mix_slots (p := fun i => fx.contains i) st.sub S0.sl S'.sl (hlen hf S') (hfix hf)
        have nd' := List.nodup_append.mp nd
        exact post v G' H' F2 Fr (st.sub_end fun a m => (List.mem_append.mp m).elim (List.mem_append_left _) fun z => List.mem_append_right _ (k2 a z)) ⟨S'.le, s2, n2 S'.nd, fun a m => S'.ap a (k2 a m)⟩
          (List.nodup_append.mpr ⟨nd'.1, n2 S'.nd, fun a ma b mb => nd'.2.2 a ma b (k2 b mb)⟩) ap o
      | bk => exact post.elim
      | ct => exact post.elim
end DL

/-! The data layer, part J: calls of defs. -/
namespace DL
open PySem L2 PyProof.Rows

/-- a def of the module, by what it computes -/
structure Def (P : Program) (w : World) (K : Frg) (mg : Str → Option Value) (base : Heap) (x : Str) (k n : Nat) (sem : Sem) : Prop where
  ex : ∃ f fd ps, mg x = some (.ref f) ∧ PySem.W.keepIn K (.ref f) = true ∧ Binds K fd ps [] ∧ ps.length = n ∧ FnG P w K mg base k f fd ps (spD K mg n sem)
theorem Def.mono {P : Program} {w : World} {K : Frg} {mg : Str → Option Value} {base : Heap} {x : Str} {j k n : Nat} {sem : Sem} (h : Def P w K mg base x j n sem) (l : j ≤ k) : Def P w K mg base x k n sem := by
  obtain ⟨f, fd, ps, a, b, c, d, F⟩ := h.ex
  exact ⟨f, fd, ps, a, b, c, d, F.mono l⟩

section
variable {X : Cx} {W : WX} {fx : List Nat} {md : Md} {pu pa pb pc : Bool} {e a b c tg iter : Expr} {es : List Expr} {m ma mb : M D} {ms mi : M (List D)} {mt : M T} {mts : M (List T)} {mc : M Bool} {p pos : Pos} {x : Str} {k n : Nat} {sem : Sem}
def tCallG (sp : Sp) (W : WX) (t : TA) : TE := fun σ H Q => t σ H fun vs H1 => sp vs H1 Q fun cls d H' => W cls d σ H'
theorem pe_callG {f : Addr} {fd : FuncData} {ps : List Str} {sp : Sp} {t : TA} (F : FnG X.prog X.w X.K X.mg X.base k f fd ps sp) (hr : GR k X.A) (tk : Takes X W) (hg : Gl X x) (hm : X.mg x = some (.ref f)) (hk : PySem.W.keepIn X.K (.ref f) = true) (hb : Binds X.K fd ps [])
    (ha : PA X (e :: es) t) (hdb : (x == ("__debug__" : Str)) = false := by decide) (he : starEach (e :: es) X.env = (false, eval e X.env) :: starEach es X.env := by rfl) (hpl : (backTo pos (starEach es X.env)).any (·.1) = false := by rfl) :
    PE X (.Call (.Name x p) (e :: es) [] pos) (tCallG sp W t) := by
  refine ⟨fun pins s σ H Q I h => wpAny_Call_Name_kw (ld_glob I hg hm ?_ hdb)⟩
  refine PySem.W.callWith_K (h₀ := X.base) I.ok.mod.kin hk (thn (ha.run pos pins s σ H _ I h) fun us s1 ⟨vs, H1, J, rel, q⟩ => ⟨J.kIn, ?_⟩) he hpl
  have hl : (us ++ []).length = ps.length := by rw [List.append_nil, ← rel.length]; exact F.len _ _ _ _ q
  have bind := hb s1 us J.kIn hl
  rw [List.append_nil] at bind
  refine wpAny_call (codeAny_mono (F.run X.A X.stack s1 H1 ⟨us, []⟩ us vs Q _ hr J.env0 bind rel q) fun r s2 out => ?_)
  cases r with
  | error e => exact tk e s2 (XE.of_call J (fun cls d H' h => h) out)
  | ok fl =>
    cases fl with
    | ret u => exact J.after out
    | next => exact out.elim
    | brk => exact out.elim
    | cont => exact out.elim
def mCall (sem : Sem) (ms : M (List D)) : M T := ms.bind fun ds env => match sem (ds.map fun d => some (.fz d)) with
  | .bad => .bad
  | .ok t _ => .ok t env
  | .exn x _ => .exn x env
theorem slots_fz {K : Frg} {G H : Hp} : ∀ {vs : List V} {ds : List D}, DenL K G vs ds → Slots K G H (vs.map some) (ds.map fun d => some (.fz d)) []
  | _, _, .nil => .nil
  | _, _, .cons h t => .so (F := []) (F' := []) (.fz h) (slots_fz t)
theorem step_grow {K : Frg} {G H G' H' : Hp} {F : List Addr} {σ : L2.St} {env : Env} (st : Step G H [] G' H' F) (S : Sta K G' H' σ env F) : Grow G H G' H' :=
  ⟨fun a o h => st.keep a o h (by simp), st.sub, S.le, fun a h => by
    rcases st.frG a h with z | z | z | z
    · exact .inl z
    · exact .inr (.inl z)
    · exact absurd z (by simp)
    · exact .inr (.inr z)⟩
/-- a call, all arguments frozen -/
theorem o_call (D0 : Def X.prog X.w X.K X.mg X.base x k n sem) (hr : GR k X.A) (tk : Takes X W) (hg : Gl X x) (ha : Ea X W .frz pa (e :: es) ms) (hdb : (x == ("__debug__" : Str)) = false := by decide)
    (he : starEach (e :: es) X.env = (false, eval e X.env) :: starEach es X.env := by rfl) (hpl : (backTo pos (starEach es X.env)).any (·.1) = false := by rfl) (hn : ∀ env ds env', ms env = .ok ds env' → ds.length = n) : Eo X W pa (.Call (.Name x p) (e :: es) [] pos) (mCall sem ms) := by
  obtain ⟨f, fd, ps, hm, hk, hb, hps, F⟩ := D0.ex
  obtain ⟨ta, pA, kA⟩ := ha
  refine ⟨_, pe_callG F hr tk hg hm hk hb pA hdb he hpl, fun G H σ env Fp Q S h => ?_⟩
  unfold mCall at h
  refine kA G H σ env Fp _ S (Post.bindE (pu1 := pa) (pu2 := true) (by rw [Bool.and_true]; exact h) vrl_nil fun ds env1 vs G1 H1 Fp1 e1 st S1 q w h1 => ?_)
  have l := w.2
  refine ⟨by rw [l.length]; exact hn _ _ _ e1, G1, ds.map fun d => some (.fz d), [], ⟨S1.le, slots_fz l, List.nodup_nil, fun _ m => absurd m (by simp)⟩, ?_⟩
  cases r : sem (ds.map fun d => some (.fz d)) with
  | bad => rw [r] at h1; exact h1
  | ok t env' =>
    rw [r] at h1
    intro v G2 H2 Fp2 Fr st2 S2 nd ap o
    have w2 := step_grow (st2.sub_end (F2 := Fp2) fun a m => List.mem_append_right _ m) S2
    have S3 := S1.grow w2
    have fresh : ∀ a ∈ Fr, H1 a = none := fun a m => (st2.frF a (List.mem_append_left _ m)).elim id fun z => absurd z (by simp)
    refine h1 v G2 H2 Fp1 Fr ⟨fun a u z _ => w2.same a u z, w2.sub, (w2.step (Fp := Fp1)).frG, fun a m => (List.mem_append.mp m).elim (fun z => .inl (fresh a z)) .inr⟩ S3 (List.nodup_append.mpr ⟨(List.nodup_append.mp nd).1, S3.nd, fun a ma b mb z => ?_⟩) ap (fun _ => ⟨rfl, rfl, w2⟩) o
    subst z
    have bx := S1.sl.boxes a mb
    rw [fresh a ma] at bx
    exact bx
  | exn x env' =>
    rw [r] at h1
    intro cls dd G2 H2 Fp2 st2 S2 ex
    have w2 := step_grow st2 S2
    exact h1 cls dd G2 H2 Fp1 w2.step (S1.grow w2) ex
/-- .. whose first argument, a name, is handed in and changed -/
def mCallB (sem : Sem) (i : Nat) (ms : M (List D)) : M T := ms.bind fun ds env => match env[i]? with
  | some (some t) => match sem (some t :: ds.map fun d => some (.fz d)) with
    | .ok r (some t' :: _) => .ok r (env.set i (some t'))
    | .exn x (some t' :: _) => .exn x (env.set i (some t'))
    | _ => .bad
  | _ => .bad
def mHas (i : Nat) : M Unit := fun env => match env[i]? with
  | some (some _) => .ok () env
  | _ => .bad
theorem o_callB {i : Nat} (D0 : Def X.prog X.w X.K X.mg X.base x k (n + 1) sem) (hr : GR k X.A) (tk : Takes X W) (hg : Gl X x) (h0 : PE X e (tVar i)) (ha : Ea X W .frz pa es ms) (hdb : (x == ("__debug__" : Str)) = false := by decide)
    (he : starEach (e :: es) X.env = (false, eval e X.env) :: starEach es X.env := by rfl) (hpl : (backTo pos (starEach es X.env)).any (·.1) = false := by rfl) (hn : ∀ env ds env', ms env = .ok ds env' → ds.length = n) : Eo X W false (.Call (.Name x p) (e :: es) [] pos) ((mHas i).bind fun _ => mCallB sem i ms) := by
  obtain ⟨f, fd, ps, hm, hk, hb, hps, F⟩ := D0.ex
  obtain ⟨ta, pA, kA⟩ := ha
  refine ⟨_, pe_callG F hr tk hg hm hk hb (pa_cons h0 pA he) hdb he hpl, fun G H σ env Fp Q S h => ?_⟩
  have hv : ∃ v, σ[i]? = some (some v) := by
    unfold M.bind mHas at h
    cases q : env[i]? with
    | none => rw [q] at h; exact h.elim
    | some o =>
      cases o with
      | none => rw [q] at h; exact h.elim
      | some t =>
        obtain ⟨v, F0, e2, _, _⟩ := S.sl.at q
        exact ⟨v, e2⟩
  have h : Post X.K X.mg W (VrT X.K) false σ G H Fp env Q (mCallB sem i ms env) := by
    unfold M.bind mHas at h
    cases q : env[i]? with
    | none => rw [q] at h; exact h.elim
    | some o =>
      cases o with
      | none => rw [q] at h; exact h.elim
      | some t => rw [q] at h; exact h
  obtain ⟨v, hv⟩ := hv
  refine ⟨v, hv, ?_⟩
  unfold mCallB at h
  refine kA G H σ env Fp _ S (Post.pure_less (Post.bindE (pu1 := false) (pu2 := false) h vrl_nil fun ds env1 vs G1 H1 Fp1 e1 st S1 q w h1 => ?_))
  have l := w.2
  cases q : env1[i]? with
  | none => rw [q] at h1; exact h1.elim
  | some o =>
    cases o with
    | none => rw [q] at h1; exact h1.elim
    | some t =>
      rw [q] at h1
      dsimp only at h1
      obtain ⟨v', F0, F', e2, own, rest, in0, inR, ndR⟩ := S1.sl.take q
      rw [hv] at e2
      cases e2
      have nd0 := ndR S1.nd
      have nd1 := List.nodup_append.mp nd0
      have Sc : Sta X.K G1 H1 ((v :: vs).map some) (some t :: ds.map fun d => some (.fz d)) (F0 ++ []) := ⟨S1.le, .so own (slots_fz l), by simpa using nd1.1, fun a m => S1.ap a (in0 a (by simpa using m))⟩
      refine ⟨by rw [List.length_cons, l.length, hn _ _ _ e1], G1, _, _, Sc, ?_⟩
      -- the caller's slots behind the call
      have after : ∀ {G2 H2 : Hp} {t' : T} {env2 : Env} {Fp2 Fr : List Addr}, Step G1 H1 (F0 ++ []) G2 H2 (Fr ++ Fp2) → Sta X.K G2 H2 ((v :: vs).map some) (some t' :: env2) Fp2 → (Fr ++ Fp2).Nodup → (∀ a ∈ Fr, G2 a = none) →
          ∃ F3, Step G1 H1 Fp1 G2 H2 (Fr ++ F3) ∧ Sta X.K G2 H2 σ (env1.set i (some t')) F3 ∧ (Fr ++ F3).Nodup := fun {G2 H2 t' env2 Fp2 Fr} st2 S2 nd ap => by
        obtain ⟨Fa, Fb, rfl, so, _⟩ := slots_uncons (by simpa using S2.sl)
        obtain ⟨v2, e3, o2⟩ := so
        cases e3
        have st2' : Step G1 H1 F0 G2 H2 (Fr ++ (Fa ++ Fb)) := by simpa using st2
        have P := pend (Fr := F') st2' rest.boxes (fun a m => S1.ap a (inR a m)) fun a m z => nd1.2.2 a z a m rfl
        have rest2 := rest.stay (same_gle st2'.sub) fun a m => (P a m).1
        obtain ⟨F3, s3, k3, n3⟩ := rest2.back o2 hv
        have s3' : Slots X.K G2 H2 σ (env1.set i (some t')) F3 := by rw [List.set_set] at s3; exact s3
        have ndP := List.nodup_append.mp nd
        have ndFa := List.nodup_append.mp ndP.2.1
        have n3' : F3.Nodup := n3 (List.nodup_append.mpr ⟨ndFa.1, nd1.2.1, fun a ma b mb z => (P b mb).2.2 (List.mem_append_right _ (List.mem_append_left _ (z ▸ ma)))⟩)
        refine ⟨F3, ⟨fun a u h m => st2'.keep a u h fun z => m (in0 a z), st2'.sub, fun a h => ?_, fun a m => ?_⟩, ⟨S2.le, s3', n3', fun a m => (k3 a m).elim (fun z => S2.ap a (List.mem_append_left _ z)) fun z => (P a z).2.1⟩, List.nodup_append.mpr ⟨ndP.1, n3', fun a ma b mb z => ?_⟩⟩
        · rcases st2'.frG a h with z | z | z | z
          · exact .inl z
          · exact .inr (.inl z)
          · exact .inr (.inr (.inl (in0 a z)))
          · exact .inr (.inr (.inr z))
        · rcases List.mem_append.mp m with m | m
          · exact (st2'.frF a (List.mem_append_left _ m)).imp id (in0 a)
          · rcases k3 a m with z | z
            · exact (st2'.frF a (List.mem_append_right _ (List.mem_append_left _ z))).imp id (in0 a)
            · exact .inr (inR a z)
        · subst z
          rcases k3 a mb with z | z
          · exact ndP.2.2 a ma a (List.mem_append_left _ z) rfl
          · exact (P a z).2.2 (List.mem_append_left _ ma)
      cases r : sem (some t :: ds.map fun d => some (.fz d)) with
      | bad => rw [r] at h1; exact h1
      | ok rt env' =>
        rw [r] at h1
        cases env' with
        | nil => exact h1.elim
        | cons o env2 =>
          cases o with
          | none => exact h1.elim
          | some t' =>
            intro u G2 H2 Fp2 Fr st2 S2 nd ap o
            obtain ⟨F3, st3, S3, nd3⟩ := after st2 S2 nd ap
            exact h1 u G2 H2 F3 Fr st3 S3 nd3 ap (fun z => nomatch z) o
      | exn x env' =>
        rw [r] at h1
        cases env' with
        | nil => exact h1.elim
        | cons o env2 =>
          cases o with
          | none => exact h1.elim
          | some t' =>
            intro cls dd G2 H2 Fp2 st2 S2 ex
            obtain ⟨F3, st3, S3, nd3⟩ := after (Fr := []) st2 S2 (by simpa using S2.nd) (fun _ m => absurd m (by simp))
            exact h1 cls dd G2 H2 F3 st3 S3 ex
end
end DL

/-! The data layer, part K: list comprehensions whose parts change nothing. -/
namespace DL
open PySem L2 PyProof.Rows

def W0 : WX := fun _ _ _ _ => False
/-- the reading that a computation stands for -/
def cE {α β : Type} (K : Frg) (mg : Str → Option Value) (W : WX) (Vr : Hp → Hp → β → α → List Addr → Prop) (pu : Bool) (m : M α) : L2.St → Hp → (β → Hp → Prop) → Prop := fun σ H Q => ∃ G env Fp, Sta K G H σ env Fp ∧ Post K mg W Vr pu σ G H Fp env Q (m env)
section
variable {X : Cx} {W : WX} {fx : List Nat} {md : Md} {pu pa pb pc : Bool} {e a b c tg iter elt : Expr} {es ifs : List Expr} {m ma mb : M D} {ms mi : M (List D)} {mt : M T} {mts : M (List T)} {mc : M Bool} {p pos : Pos} {x : Str} {k n : Nat} {sem : Sem}
theorem Ex.can (h : Ex X W md pu e m) : PE X e (cE X.K X.mg W (VrD X.K md) pu m) := by
  obtain ⟨te, p, k⟩ := h
  exact ⟨fun pins s σ H Q I ⟨G, env, Fp, S, q⟩ => p.run pins s σ H Q I (k G H σ env Fp Q S q)⟩
theorem Eo.can (h : Eo X W pu e mt) : PE X e (cE X.K X.mg W (VrT X.K) pu mt) := by
  obtain ⟨te, p, k⟩ := h
  exact ⟨fun pins s σ H Q I ⟨G, env, Fp, S, q⟩ => p.run pins s σ H Q I (k G H σ env Fp Q S q)⟩
/-- the tests of a clause -/
def Ets (X : Cx) (W : WX) (pu : Bool) (ifs : List Expr) (m : M Bool) : Prop := ∃ tt : TT, PTs X ifs tt ∧ ∀ G H σ env Fp Q, Sta X.K G H σ env Fp → Post X.K X.mg W VrB pu σ G H Fp env Q (m env) → tt σ H Q
theorem ets_nil : Ets X W true [] (M.pure true) := ⟨_, pts_nil, fun G H σ env Fp Q S h => post_pure h S ⟨rfl, rfl⟩⟩
theorem ets_one (h : Et X W pu c mc) : Ets X W pu [c] mc := by
  obtain ⟨tt, p, k⟩ := h
  exact ⟨tt, pts_one p, k⟩
theorem Ets.can (h : Ets X W pu ifs mc) : PTs X ifs (cE X.K X.mg W VrB pu mc) := by
  obtain ⟨te, p, k⟩ := h
  exact ⟨fun pins s σ H Q I ⟨G, env, Fp, S, q⟩ => p.run pins s σ H Q I (k G H σ env Fp Q S q)⟩
/-- the reading of a target -/
def cG (K : Frg) (fx : List Nat) (f : T → Env → Option Env) : TG := fun v σ H Q => ∃ G env Fp t Fr env1, Sta K G H σ env Fp ∧ Own K G H v t Fr ∧ (Fr ++ Fp).Nodup ∧ (∀ a ∈ Fr, G a = none) ∧ f t env = some env1 ∧
  ∀ σ1 F1, Fix fx σ σ1 → Sta K G H σ1 env1 F1 → (∀ a ∈ F1, a ∈ Fr ++ Fp) → Q σ1 H
theorem DG.can {f : T → Env → Option Env} (h : DG X fx tg f) : PG X tg (cG X.K fx f) := by
  obtain ⟨g, p, k⟩ := h
  exact ⟨fun pins s σ H v u Q I r ⟨G, env, Fp, t, Fr, env1, S, o, nd, ap, e, q⟩ => p.run pins s σ H v u Q I r (k G H σ env Fp v t Fr env1 Q S o nd ap e q)⟩
end

/-! ### the block's own names forgotten -/
def wipeE (env : Env) : List Nat → Env
  | [] => env
  | v :: vs => (wipeE env vs).set v none
theorem slots_set_none {K : Frg} {G H : Hp} : ∀ {σ : L2.St} {env : Env} {F : List Addr} (i : Nat) (x : Option V), Slots K G H σ env F → ∃ F', Slots K G H (σ.set i x) (env.set i none) F' ∧ (∀ a ∈ F', a ∈ F) ∧ (F.Nodup → F'.Nodup)
  | _, _, _, i, x, .nil => ⟨[], by simpa using Slots.nil, (fun _ m => absurd m (by simp)), fun _ => List.nodup_nil⟩
  | _, _, F, 0, x, .no r => ⟨F, .no r, fun a m => m, fun n => n⟩
  | _, _, _, 0, x, .so (F := F1) (F' := F2) h r => ⟨F2, .no r, fun a m => List.mem_append_right _ m, fun n => (List.nodup_append.mp n).2.1⟩
  | _, _, F, i + 1, x, .no r => by
    obtain ⟨F', s, k, n⟩ := slots_set_none i x r
    exact ⟨F', .no s, k, n⟩
  | _, _, _, i + 1, x, .so (F := F1) (F' := F2) h r => by
    obtain ⟨F', s, k, n⟩ := slots_set_none i x r
    refine ⟨F1 ++ F', .so h s, fun a m => ?_, fun nd => ?_⟩
    · rcases List.mem_append.mp m with m | m
      · exact List.mem_append_left _ m
      · exact List.mem_append_right _ (k a m)
    · rw [List.nodup_append] at nd
      exact List.nodup_append.mpr ⟨nd.1, n nd.2.1, fun a ma b mb => nd.2.2 a ma b (k b mb)⟩
theorem sta_wipe {K : Frg} {G H : Hp} {σ : L2.St} {env : Env} {Fp : List Addr} (S : Sta K G H σ env Fp) : ∀ vs : List Nat, ∃ F', Sta K G H (wipe σ vs) (wipeE env vs) F' ∧ ∀ a ∈ F', a ∈ Fp
  | [] => ⟨Fp, S, fun _ m => m⟩
  | v :: vs => by
    obtain ⟨F1, S1, k1⟩ := sta_wipe S vs
    obtain ⟨F2, s2, k2, n2⟩ := slots_set_none v none S1.sl
    exact ⟨F2, ⟨S.le, s2, n2 S1.nd, fun a m => S1.ap a (k2 a m)⟩, fun a m => k1 a (k2 a m)⟩
def others (n : Nat) (vs : List Nat) : List Nat := (List.range n).filter fun i => !vs.contains i
theorem wipe_in {σ : L2.St} {i : Nat} : ∀ {vs : List Nat}, i ∈ vs → (wipe σ vs)[i]? = if i < σ.length then some none else none
  | v :: vs, m => by
    unfold wipe
    by_cases e : v = i
    · subst e
      rw [List.getElem?_set, if_pos rfl, wipe_length]
    · rw [List.getElem?_set_ne e]
      exact wipe_in ((List.mem_cons.mp m).resolve_left fun z => e z.symm)
theorem wipe_again {σ σ2 : L2.St} {vs : List Nat} (f : Fix (others σ.length vs) (wipe σ vs) σ2) : wipe σ2 vs = wipe σ vs := by
  have hl : σ2.length = σ.length := f.1.trans (wipe_length σ vs)
  apply List.ext_getElem?
  intro i
  by_cases m : i ∈ vs
  · rw [wipe_in m, wipe_in m, hl]
  · rw [wipe_out m]
    by_cases h : i < σ.length
    · exact f.2 i (List.mem_filter.mpr ⟨List.mem_range.mpr h, by simpa using m⟩)
    · rw [List.getElem?_eq_none (by omega), List.getElem?_eq_none (by rw [wipe_length]; omega)]

/-! ### what a comprehension computes -/
def lcStep (vs : List Nat) (f : T → Env → Option Env) (mc : M Bool) (me : M T) (env : Env) (d : D) : Option (Option T) := match f (.fz d) (wipeE env vs) with
  | none => none
  | some env1 => match mc env1 with
    | .ok false _ => some none
    | .ok true env2 => match me env2 with
      | .ok t _ => some (some t)
      | _ => none
    | _ => none
def lcGo (vs : List Nat) (f : T → Env → Option Env) (mc : M Bool) (me : M T) (env : Env) : List D → Option (List T)
  | [] => some []
  | d :: ds => match lcStep vs f mc me env d with
    | none => none
    | some none => lcGo vs f mc me env ds
    | some (some t) => (lcGo vs f mc me env ds).map (t :: ·)
def mLc (vs : List Nat) (f : T → Env → Option Env) (mc : M Bool) (me : M T) (ds : List D) : M T := fun env => if ds.length ≤ sizeLine then match lcGo vs f mc me env ds with
    | some ts => .ok (.ol ts) env
    | none => .bad
  else .bad
theorem OwnL.snoc {K : Frg} {G H : Hp} : ∀ {vs : List V} {ts : List T} {F : List Addr} {v : V} {t : T} {Fr : List Addr}, OwnL K G H vs ts F → Own K G H v t Fr → OwnL K G H (vs ++ [v]) (ts ++ [t]) (F ++ Fr)
  | _, _, _, _, _, Fr, .nil, o => by
    have z := OwnL.cons o (.nil (K := K) (G := G) (H := H))
    simpa using z
  | _, _, _, _, _, Fr, .cons h t, o => by
    have z := OwnL.cons h (t.snoc o)
    simpa [List.append_assoc] using z

section
variable {X : Cx} {W : WX} {pa : Bool} {tg iter elt : Expr} {ifs : List Expr} {mi : M (List D)} {me : M T} {mc : M Bool} {pos : Pos} {scope : Scope} {own : List (Str × Nat)} {f : T → Env → Option Env}
theorem lc_read {wi : TI} {vs : List Nat} (kI : ∀ G H σ env Fp R, Sta X.K G H σ env Fp → Post X.K X.mg W (VrI X.K) pa σ G H Fp env R (mi env) → wi σ H R) :
    ∀ G H σ env Fp Q, Sta X.K G H σ env Fp → Post X.K X.mg W (VrT X.K) pa σ G H Fp env Q ((mi.bind (mLc vs f mc me)) env) →
      ∀ n, σ.length = n → tLc wi (cG X.K (others n vs) f) (cE X.K X.mg W0 VrB true mc) (cE X.K X.mg W0 (VrT X.K) true me) vs σ H Q := fun G H σ env Fp Q S h n hn => by
  subst hn
  refine kI G H σ env Fp _ S (Post.bind (pu1 := pa) (pu2 := true) (by rw [Bool.and_true]; exact h) vri_nil fun ds env1 J G1 H1 F1 st1 S1 q1 w h1 => ?_)
  have ok := w.2
  unfold mLc at h1
  by_cases hz : ds.length ≤ sizeLine
  case neg => rw [if_neg hz] at h1; exact h1.elim
  rw [if_pos hz] at h1
  cases ht : lcGo vs f mc me env1 ds with
  | none => rw [ht] at h1; exact h1.elim
  | some total =>
    rw [ht] at h1
    intro Dn hD
    obtain ⟨Fw, Sw, kw⟩ := sta_wipe S1 vs
    refine ⟨fun i m H => i + m = ds.length ∧ ∃ G done acc Fa rest, lcGo vs f mc me env1 (ds.drop i) = some rest ∧ total = done ++ rest ∧ Grow G1 H1 G H ∧ H Dn = some (.lst acc) ∧ OwnL X.K G H acc done Fa ∧ (Dn :: Fa).Nodup ∧ (∀ a ∈ Dn :: Fa, G a = none ∧ H1 a = none) ∧ done.length ≤ i,
      ⟨ds.length, by omega, G1, [], [], [], total, by rw [List.drop_zero]; exact ht, rfl, grow_new S1.le hD _, upd_same, .nil, by simp, fun a m => by
        have z : a = Dn := by simpa using m
        rw [z]
        exact ⟨gle_none S1.le hD, hD⟩, Nat.le_refl _⟩, fun i m H2 hw => ?_⟩
    obtain ⟨hl, G2, done, acc, Fa, rest, hr, ht2, gw, hDn, ol, nd, ap, hdl⟩ := hw
    obtain ⟨items, stop⟩ := ok G2 H2 gw.sub gw.le
    by_cases hi : i < ds.length
    · refine .inr ?_
      have e1 : ds[i]? = some ds[i] := List.getElem?_eq_getElem hi
      obtain ⟨go, yl⟩ := items i _ e1
      rw [List.drop_eq_getElem_cons hi] at hr
      refine ⟨go, fun H' => ∃ G done acc Fa rest, lcGo vs f mc me env1 (ds.drop (i + 1)) = some rest ∧ total = done ++ rest ∧ Grow G1 H1 G H' ∧ H' Dn = some (.lst acc) ∧ OwnL X.K G H' acc done Fa ∧ (Dn :: Fa).Nodup ∧ (∀ a ∈ Dn :: Fa, G a = none ∧ H1 a = none) ∧ done.length ≤ i + 1,
        fun H' z => ⟨m - 1, by omega, by omega, z⟩, fun x H3 y => ?_⟩
      obtain ⟨G3, w3, dx⟩ := yl x H3 y
      have gw3 := gw.trans w3
      have S3 := Sw.grow gw3
      unfold lcGo at hr
      cases qs : lcStep vs f mc me env1 ds[i] with
      | none => rw [qs] at hr; cases hr
      | some o =>
        rw [qs] at hr
        unfold lcStep at qs
        cases qf : f (.fz ds[i]) (wipeE env1 vs) with
        | none => rw [qf] at qs; cases qs
        | some envA =>
          rw [qf] at qs
          dsimp only at qs
          -- what grows later leaves the list alone
          have keep : ∀ {G4 H4 : Hp}, Grow G2 H2 G4 H4 → H4 Dn = some (.lst acc) ∧ OwnL X.K G4 H4 acc done Fa ∧ ∀ a ∈ Dn :: Fa, G4 a = none := fun {G4 H4} w4 => by
            have P := pend (Fr := Dn :: Fa) (w4.step (Fp := [])) (fun a m => by
              rcases List.mem_cons.mp m with z | z
              · rw [z, hDn]; trivial
              · exact ol.boxes a z) (fun a m => (ap a m).1) (fun a m => by simp)
            exact ⟨by rw [(P Dn List.mem_cons_self).1]; exact hDn, ol.stay (same_gle w4.sub) fun a m => (P a (List.mem_cons_of_mem _ m)).1, fun a m => (P a m).2.1⟩
          refine ⟨G3, wipeE env1 vs, Fw, .fz ds[i], [], envA, S3, .fz dx, by simpa using S3.nd, (fun _ m => absurd m (by simp)), qf, fun σ4 F4 f4 S4 sb4 => ⟨wipe_again f4, G3, envA, F4, S4, ?_⟩⟩
          cases qc : mc envA with
          | bad => rw [qc] at qs; cases qs
          | exn x e => rw [qc] at qs; cases qs
          | ok bv envB =>
            rw [qc] at qs
            intro b' G5 H5 F5 Fr5 st5 S5 nd5 ap5 pu5 v5
            obtain ⟨rfl, rfl⟩ := v5
            obtain ⟨rfl, rfl, w5⟩ := pu5 rfl
            have w25 := w3.trans w5
            cases b' with
            | false =>
              have z : o = none := by
                cases qs
                rfl
              subst z
              obtain ⟨k1, k2, k3⟩ := keep w25
              rw [if_neg Bool.false_ne_true]
              exact ⟨G5, done, acc, Fa, rest, hr, ht2, gw.trans w25, k1, k2, nd, fun a m => ⟨k3 a m, (ap a m).2⟩, by omega⟩
            | true =>
              rw [if_pos rfl]
              refine ⟨G5, envB, F5, S5, ?_⟩
              dsimp only at qs
              cases qm : me envB with
              | bad => rw [qm] at qs; cases qs
              | exn x e => rw [qm] at qs; cases qs
              | ok t envC =>
                rw [qm] at qs
                have z : o = some t := by
                  cases qs
                  rfl
                subst z
                intro v G6 H6 F6 Fr6 st6 S6 nd6 ap6 pu6 o6
                obtain ⟨rfl, rfl, w6⟩ := pu6 rfl
                have o6 : Own X.K G6 H6 v t Fr6 := o6
                have w26 := w25.trans w6
                obtain ⟨k1, k2, k3⟩ := keep w26
                have fresh : ∀ a ∈ Fr6, H5 a = none := fun a m => (st6.frF a (List.mem_append_left _ m)).elim id fun z => absurd rfl ((List.nodup_append.mp nd6).2.2 a m a z)
                cases qr : lcGo vs f mc me env1 (ds.drop (i + 1)) with
                | none => rw [qr] at hr; cases hr
                | some rest' =>
                  rw [qr] at hr
                  obtain rfl : rest = t :: rest' := by
                    cases hr
                    rfl
                  have bx5 : ∀ a ∈ Dn :: Fa, H5 a ≠ none := fun a m => by
                    obtain ⟨c1, c2, _⟩ := keep w25
                    rcases List.mem_cons.mp m with z | z
                    · rw [z, c1]; exact fun z => nomatch z
                    · obtain ⟨u, e⟩ := box_some (c2.boxes a z)
                      rw [e]; exact fun z => nomatch z
                  have dj : ∀ a ∈ Fr6, a ∉ Dn :: Fa := fun a m z => bx5 a z (fresh a m)
                  have nD : ∀ a, a ∈ Fa ∨ a ∈ Fr6 → a ≠ Dn := fun a m z => by
                    rcases m with m | m
                    · exact (List.nodup_cons.mp nd).1 (z ▸ m)
                    · exact dj a m (z ▸ List.mem_cons_self)
                  refine ⟨acc, k1, by rw [k2.len]; omega, G6, done ++ [t], acc ++ [v], Fa ++ Fr6, rest', rfl, by rw [ht2, List.append_assoc]; rfl, ?_, upd_same, ?_, ?_, ?_, by rw [List.length_append]; simp; omega⟩
                  · have g16 := gw.trans w26
                    refine ⟨fun a u e => ?_, g16.sub, fun a u e => ?_, g16.frG⟩
                    · rw [upd_ne (fun z => by rw [z, hD] at e; cases e)]
                      exact g16.same a u e
                    · have z : a ≠ Dn := fun z => by rw [z, k3 Dn List.mem_cons_self] at e; cases e
                      rcases g16.le a u e with q | q
                      · exact .inl (by rw [upd_ne z]; exact q)
                      · obtain ⟨n1, b, q2⟩ := q
                        exact .inr ⟨n1, b, by rw [upd_ne z]; exact q2⟩
                  · exact (k2.stay (GLe.refl _) fun a m => by rw [upd_ne (nD a (.inl m))]).snoc (o6.stay (GLe.refl _) fun a m => by rw [upd_ne (nD a (.inr m))])
                  · rw [← List.cons_append]
                    exact List.nodup_append.mpr ⟨nd, (List.nodup_append.mp nd6).1, fun a ma b mb z => dj b mb (z ▸ ma)⟩
                  · intro a m
                    rw [← List.cons_append] at m
                    rcases List.mem_append.mp m with m | m
                    · exact ⟨k3 a m, (ap a m).2⟩
                    · exact ⟨ap6 a m, (gw.trans w25).same.free (fresh a m)⟩
    · have e : i = ds.length := by omega
      subst e
      rw [List.drop_length] at hr
      obtain rfl : rest = [] := by
        cases hr
        rfl
      rw [List.append_nil] at ht2
      subst ht2
      refine .inl ⟨stop, ?_⟩
      have S2 := S1.grow gw
      refine h1 (.ref Dn) G2 H2 F1 (Dn :: Fa) ⟨fun a u e _ => gw.same a u e, gw.sub, (gw.step (Fp := F1)).frG, fun a m => ?_⟩ S2 (List.nodup_append.mpr ⟨nd, S2.nd, fun a ma b mb z => ?_⟩) (fun a m => (ap a m).1) (fun _ => ⟨rfl, rfl, gw⟩) (.ol hDn ol)
      · rcases List.mem_append.mp m with m | m
        · exact .inl (ap a m).2
        · exact .inr m
      · subst z
        have bx := S1.sl.boxes a mb
        rw [(ap a ma).2] at bx
        exact bx
theorem pe_len {e : Expr} {te : TE} (h : PE X e te) : PE X e (fun σ H Q => σ.length = X.N.length → te σ H Q) := ⟨fun pins s σ H Q I q => h.run pins s σ H Q I (q I.len)⟩
/-- [elt for tg in iter if ..] -/
theorem o_lc (hc : X.calm = true) (hN : X.N.Nodup) (hi : Di X W pa tg iter mi) (ok : BlkOk X.N X.env.scope scope own)
    (hg : ∀ (s : Shared) (H : Hp) (C : Addr) (cl : List (Str × Addr)) (fp : List Addr), DG (X.blk s H scope (compEnvC scope cl C X.env) fp) (others X.N.length (own.map (·.2))) tg f)
    (ht : ∀ (s : Shared) (H : Hp) (C : Addr) (cl : List (Str × Addr)) (fp : List Addr), Ets (X.blk s H scope (compEnvC scope cl C X.env) fp) W0 true ifs mc)
    (he : ∀ (s : Shared) (H : Hp) (C : Addr) (cl : List (Str × Addr)) (fp : List Addr), Eo (X.blk s H scope (compEnvC scope cl C X.env) fp) W0 true elt me)
    (hf : ∀ x, foldedSetIterable iter X.env x = pure x := by intro _; rfl) : Eo X W pa (.ListComp elt [⟨tg, iter, ifs, 0⟩] scope pos) (mi.bind (mLc (own.map (·.2)) f mc me)) := by
  obtain ⟨wi, pI, kI⟩ := hi
  exact ⟨_, pe_len (pe_lc hc hN pI ok (fun s H C cl fp => (hg s H C cl fp).can) (fun s H C cl fp => (ht s H C cl fp).can) (fun s H C cl fp => (he s H C cl fp).can) hf), fun G H σ env Fp Q S h hl => lc_read kI G H σ env Fp Q S h _ hl⟩
end
end DL

/-! The data layer, part L: built-in functions and types, called. -/
namespace DL
open PySem L2 PyProof.Rows PySem.W

/-! ### sorted -/
def rSortD (K : Frg) : List V → Hp → VK → Prop := fun xs H Q => ∃ (a : Addr) (bs : List (V × D)), xs = [.ref a] ∧ SqL K H a (bs.map (·.1)) ∧ (∀ b ∈ bs, Dp K H b.1 b.2) ∧ AllAlike (bs.map (·.2)) ∧ Sortable (bs.map (·.2)) ∧ bs.length ≤ sizeLine ∧ (∀ b ∈ bs, b.2.depth ≤ 64) ∧
  ∀ p, H p = none → Q (.ref p) (upd H p (.lst ((bs.mergeSort (dataLe false (·.2))).map (·.1))))
theorem each_pairs {X : Cx} {pins : List (Addr × Obj)} {σ : L2.St} {H : Hp} {s : Shared} (I : Inv X pins σ H s) : ∀ {bs : List (V × D)} {us : List Value}, Vals (bs.map (·.1)) us → (∀ b ∈ bs, Dp X.K H b.1 b.2) →
    EachIs (fun u (b : V × D) => RelV b.1 u) us bs ∧ EachIs (fun u (b : V × D) => ∃ as, Reads s.heap u b.2 as) us bs
  | [], _, .nil, _ => ⟨.nil, .nil⟩
  | b :: bs, _, .cons r t, h => by
    obtain ⟨e1, e2⟩ := each_pairs I t fun b m => h b (List.mem_cons_of_mem _ m)
    exact ⟨.cons r e1, .cons (Dp.reads I _ _ _ (h b List.mem_cons_self) r) e2⟩
theorem vals_each {bs : List (V × D)} {us : List Value} (h : EachIs (fun u (b : V × D) => RelV b.1 u) us bs) : Vals (bs.map (·.1)) us := by
  induction h with
  | nil => exact .nil
  | cons r _ ih => exact .cons r ih
theorem call_sortD {X : Cx} (hu : X.A.units + 70 < cLine) : CallR X (.builtin "sorted") (rSortD X.K) := by
  intro pins s σ H vs us Q I r h
  obtain ⟨a, bs, rfl, hs, hd, al, so, hl, hdp, q⟩ := h
  obtain ⟨its, rv, pl, hz⟩ := I.list hs
  rw [Vals.ref1 r]
  obtain ⟨e1, e2⟩ := each_pairs I rv hd
  refine sorted_data (enc := fun b : V × D => b.2) pl.isList e1 e2 al so hl (fun b m => by have := hdp b m; omega) fun out hlen hout => ?_
  obtain ⟨ep, he'⟩ := sortedAll_at s.heap its out.toArray
  have hlen2 : ((bs.mergeSort (dataLe false (fun b : V × D => b.2))).map (·.1)).length ≤ sizeLine := by rw [List.length_map, List.length_mergeSort]; exact hl
  exact ⟨.ref _, upd H (s.heap.objs.size + 1) (.lst _), I.laid (t' := s.toks) (fun _ _ => sortedAll_old) (Nat.le_succ _) ⟨hlen2, out, ep, vals_each hout, he'⟩, rfl, q _ (I.hok.fresh (Nat.le_succ _))⟩
def sortD (ds : List D) : List D := ds.mergeSort (dataLe false id)
def SortOk (ds : List D) : Prop := AllAlike ds ∧ Sortable ds ∧ ds.length ≤ sizeLine ∧ ∀ d ∈ ds, shp d = true
open Classical in
noncomputable def dSorted : List D → Option T
  | [.list ds] => if SortOk ds then some (.ol ((sortD ds).map T.fz)) else none
  | _ => none
theorem denL_zip {K : Frg} {G : Hp} : ∀ {vs : List V} {ds : List D}, DenL K G vs ds → ∀ b ∈ vs.zip ds, Den K G b.1 b.2
  | _, _, .nil, _, m => absurd m (by simp)
  | _, _, .cons h t, b, m => by
    rw [List.zip_cons_cons] at m
    rcases List.mem_cons.mp m with rfl | m
    · exact h
    · exact denL_zip t b m
theorem denL_of {K : Frg} {G : Hp} : ∀ {bs : List (V × D)}, (∀ b ∈ bs, Den K G b.1 b.2) → DenL K G (bs.map (·.1)) (bs.map (·.2))
  | [], _ => .nil
  | b :: bs, h => .cons (h b List.mem_cons_self) (denL_of fun b m => h b (List.mem_cons_of_mem _ m))
theorem co_sorted {K : Frg} : CaO K (rSortD K) dSorted := fun G H xs ds t Q gl l e k => by
  unfold dSorted at e
  split at e
  · rename_i ds
    split at e
    · rename_i ok
      cases e
      obtain ⟨al, so, hl, hs⟩ := ok
      obtain ⟨v, rfl, dv⟩ := l.one
      obtain ⟨a, vs, rfl, s, lv⟩ := dv.of_lst
      have z1 : (vs.zip ds).map (·.1) = vs := List.map_fst_zip (by rw [lv.length]; exact Nat.le_refl _)
      have z2 : (vs.zip ds).map (·.2) = ds := List.map_snd_zip (by rw [lv.length]; exact Nat.le_refl _)
      have z3 : (vs.zip ds).length = ds.length := by rw [List.length_zip, lv.length, Nat.min_self]
      have mem : ∀ b ∈ vs.zip ds, b.2 ∈ ds := fun b m => by
        have q := List.mem_map_of_mem (f := fun b : V × D => b.2) m
        rwa [z2] at q
      refine ⟨a, vs.zip ds, rfl, by rw [z1]; exact (gl.sqX s).l, fun b m => ((denL_zip lv b m).up gl).dp (shp_lay (hs _ (mem b m))), by rw [z2]; exact al, by rw [z2]; exact so, by rw [z3]; exact hl, fun b m => SeqAt.depth_of_shaped (hs _ (mem b m)), fun p hp => ?_⟩
      have z4 : ((vs.zip ds).mergeSort (dataLe false (·.2))).map (·.2) = sortD ds := by
        have q := sort_maps (r := dataLe false (fun b : V × D => b.2)) (s := dataLe false id) (fun b : V × D => b.2) (l := vs.zip ds) (fun _ _ _ _ => rfl)
        rw [z2] at q
        exact q
      have dl : DenL K G (((vs.zip ds).mergeSort (dataLe false (·.2))).map (·.1)) (sortD ds) := by
        rw [← z4]
        exact denL_of fun b m => denL_zip lv b (List.mem_mergeSort.mp m)
      exact new_list gl hp dl k
    · cases e
  · cases e

/-! ### the others -/
def dLen : List D → Option D
  | [.list ds] => some (.int ds.length)
  | [.tuple ds] => some (.int ds.length)
  | [.dict ds] => some (.int ds.length)
  | [.str z] => if z.length ≤ sizeLine then some (.int z.length) else none
  | _ => none
def rLenAll (K : Frg) : List V → Hp → VK → Prop := fun xs H Q => (∃ p ys, xs = [.ref p] ∧ (SqL K H p ys ∨ SqT K H p ys) ∧ Q (.int ys.length) H) ∨ (∃ z, xs = [.str z] ∧ z.length ≤ sizeLine ∧ Q (.int z.length) H) ∨
  (∃ a kvs, xs = [V.ref a] ∧ Rd H a (.dK kvs) ∧ Q (.int kvs.length) H) ∨ (∃ a kvs, xs = [V.ref a] ∧ Rd H a (.dT kvs) ∧ Q (.int kvs.length) H)
theorem call_lenK {X : Cx} : CallR X (.builtin "len") (fun xs H Q => ∃ a kvs, xs = [V.ref a] ∧ Rd H a (.dK kvs) ∧ Q (.int kvs.length) H) := by
  intro pins s σ H xs us Q I r h
  obtain ⟨a, kvs, rfl, ha, q⟩ := h
  obtain ⟨u, rfl, ru⟩ := vals1 r
  cases ru
  exact d_len I ha fun t s' I' => ⟨.int kvs.length, H, I', ⟨t, rfl⟩, q⟩
theorem call_lenT {X : Cx} : CallR X (.builtin "len") (fun xs H Q => ∃ a kvs, xs = [V.ref a] ∧ Rd H a (.dT kvs) ∧ Q (.int kvs.length) H) := by
  intro pins s σ H xs us Q I r h
  obtain ⟨a, kvs, rfl, ha, q⟩ := h
  obtain ⟨u, rfl, ru⟩ := vals1 r
  cases ru
  obtain ⟨z, hd, ys, rel, dd⟩ := dt_rd I.hok ha
  have hl : kvs.length = ys.length := Paired.length rel
  refine call_len_dictH hd dd (by rw [← hl]; rw [sizeLine_eq] at z; omega) ?_
  rw [← hl]
  exact ⟨.int kvs.length, H, I.tok _, ⟨_, rfl⟩, q⟩
theorem DenK.length {K : Frg} {G : Hp} : ∀ {ks : List (Key × V)} {kvs : List (D × D)}, DenK K G ks kvs → ks.length = kvs.length
  | _, _, .nil => rfl
  | _, _, .cons _ t => congrArg (· + 1) t.length
theorem DenT.length {K : Frg} {G : Hp} : ∀ {ks : List (List Key × V)} {kvs : List (D × D)}, DenT K G ks kvs → ks.length = kvs.length
  | _, _, .nil => rfl
  | _, _, .cons _ t => congrArg (· + 1) t.length
theorem Den.of_dict {K : Frg} {G : Hp} {v : V} {kvs : List (D × D)} (h : Den K G v (.dict kvs)) : ∃ a, v = .ref a ∧ ((∃ ks, Rd G a (.dK ks) ∧ DenK K G ks kvs) ∨ ∃ ks, Rd G a (.dT ks) ∧ DenT K G ks kvs) := by
  cases h with
  | dk s l => exact ⟨_, rfl, .inl ⟨_, s, l⟩⟩
  | dt s l => exact ⟨_, rfl, .inr ⟨_, s, l⟩⟩
theorem cs_len {K : Frg} : CaS K (rLenAll K) dLen := fun G H xs ds d Q gl l e k => by
  unfold dLen at e
  split at e
  · cases e
    obtain ⟨v, rfl, dv⟩ := l.one
    obtain ⟨a, vs, rfl, s, lv⟩ := dv.of_lst
    exact .inl ⟨a, vs, rfl, .inl ((gl.sqX s).l), by rw [lv.length]; exact k _ G H (Grow.refl gl) (.int _)⟩
  · cases e
    obtain ⟨v, rfl, dv⟩ := l.one
    obtain ⟨a, vs, rfl, s, lv⟩ := dv.of_tup
    exact .inl ⟨a, vs, rfl, .inr (gl.sqT s), by rw [lv.length]; exact k _ G H (Grow.refl gl) (.int _)⟩
  · cases e
    obtain ⟨v, rfl, dv⟩ := l.one
    obtain ⟨a, rfl, h⟩ := dv.of_dict
    rcases h with ⟨ks, s, lv⟩ | ⟨ks, s, lv⟩
    · exact .inr (.inr (.inl ⟨a, ks, rfl, gl.rd s, by rw [lv.length]; exact k _ G H (Grow.refl gl) (.int _)⟩))
    · exact .inr (.inr (.inr ⟨a, ks, rfl, gl.rd s, by rw [lv.length]; exact k _ G H (Grow.refl gl) (.int _)⟩))
  · split at e
    · cases e
      obtain ⟨v, rfl, dv⟩ := l.one
      exact .inr (.inl ⟨_, by rw [dv.of_str], by assumption, k _ G H (Grow.refl gl) (.int _)⟩)
    · cases e
  · cases e
theorem fl_len : FlatL dLen := fun a d h => by
  unfold dLen at h
  split at h
  · cases h; rfl
  · cases h; rfl
  · cases h; rfl
  · split at h <;> cases h
    rfl
  · cases h
def dAbs : List D → Option D
  | [.int i] => some (.int (if i < 0 then -i else i))
  | _ => none
def dMax2 : List D → Option D
  | [.int i, .int j] => some (.int (if j > i then j else i))
  | _ => none
def dMin2 : List D → Option D
  | [.int i, .int j] => some (.int (if j < i then j else i))
  | _ => none
def dInt : List D → Option D
  | [.int i] => some (.int i)
  | [.bool b] => some (.int (if b then 1 else 0))
  | _ => none
def dStr : List D → Option D
  | [.int i] => if i.natAbs.log2 < 1920 then some (.str (toString i)) else none
  | _ => none
def dGcd : List D → Option D
  | [.int i, .int j] => some (.int ((Nat.gcd i.natAbs j.natAbs : Nat) : Int))
  | _ => none
def intsOf : List D → Option (List Int)
  | [] => some []
  | .int i :: r => (intsOf r).map (i :: ·)
  | _ => none
def boolsOf : List D → Option (List Bool)
  | [] => some []
  | .bool i :: r => (boolsOf r).map (i :: ·)
  | _ => none
def dSum : List D → Option D
  | [.list ds] => (intsOf ds).map fun ns => .int ns.sum
  | _ => none
def maxI : List Int → Int
  | [] => 0
  | [a] => a
  | a :: r => if maxI r > a then maxI r else a
def minI : List Int → Int
  | [] => 0
  | [a] => a
  | a :: r => if minI r < a then minI r else a
def dMaxL : List D → Option D
  | [.list ds] => (intsOf ds).bind fun ns => if ns = [] then none else some (.int (maxI ns))
  | _ => none
def dMinL : List D → Option D
  | [.list ds] => (intsOf ds).bind fun ns => if ns = [] then none else some (.int (minI ns))
  | _ => none
def dAll : List D → Option D
  | [.list ds] => (boolsOf ds).map fun bs => .bool (bs.all id)
  | _ => none
def dAny : List D → Option D
  | [.list ds] => (boolsOf ds).map fun bs => .bool (bs.any id)
  | _ => none
def dTuple : List D → Option D
  | [.list ds] => some (.tuple ds)
  | [.tuple ds] => some (.tuple ds)
  | _ => none
def dList : List D → Option T
  | [.list ds] => some (.ol (ds.map T.fz))
  | [.tuple ds] => some (.ol (ds.map T.fz))
  | _ => none
theorem denL_ints {K : Frg} {G : Hp} : ∀ {ds : List D} {vs : List V} {ns : List Int}, DenL K G vs ds → intsOf ds = some ns → vs = ns.map V.int
  | [], _, _, .nil, e => by cases e; rfl
  | .int i :: ds, _, ns, .cons h t, e => by
    unfold intsOf at e
    cases q : intsOf ds with
    | none => rw [q] at e; cases e
    | some ms =>
      rw [q] at e
      cases e
      rw [h.of_int, denL_ints t q]
      rfl
theorem denL_bools {K : Frg} {G : Hp} : ∀ {ds : List D} {vs : List V} {ns : List Bool}, DenL K G vs ds → boolsOf ds = some ns → vs = ns.map V.bl
  | [], _, _, .nil, e => by cases e; rfl
  | .bool i :: ds, _, ns, .cons h t, e => by
    unfold boolsOf at e
    cases q : boolsOf ds with
    | none => rw [q] at e; cases e
    | some ms =>
      rw [q] at e
      cases e
      rw [h.of_bool, denL_bools t q]
      rfl
theorem maxI_spec : ∀ (ns : List Int), ns ≠ [] → maxI ns ∈ ns ∧ ∀ y ∈ ns, y ≤ maxI ns
  | [], h => absurd rfl h
  | [a], _ => ⟨by simp [maxI], fun y m => by
      have h : y = a := by simpa using m
      simp [maxI, h]⟩
  | a :: b :: r, _ => by
    obtain ⟨h1, h2⟩ := maxI_spec (b :: r) (by simp)
    show (if maxI (b :: r) > a then maxI (b :: r) else a) ∈ _ ∧ ∀ y ∈ _, y ≤ (if maxI (b :: r) > a then maxI (b :: r) else a)
    split
    · refine ⟨List.mem_cons_of_mem _ h1, fun y m => ?_⟩
      rcases List.mem_cons.mp m with rfl | m
      · omega
      · exact h2 y m
    · refine ⟨List.mem_cons_self, fun y m => ?_⟩
      rcases List.mem_cons.mp m with rfl | m
      · exact Int.le_refl _
      · have := h2 y m; omega
theorem minI_spec : ∀ (ns : List Int), ns ≠ [] → minI ns ∈ ns ∧ ∀ y ∈ ns, minI ns ≤ y
  | [], h => absurd rfl h
  | [a], _ => ⟨by simp [minI], fun y m => by
      have h : y = a := by simpa using m
      simp [minI, h]⟩
  | a :: b :: r, _ => by
    obtain ⟨h1, h2⟩ := minI_spec (b :: r) (by simp)
    show (if minI (b :: r) < a then minI (b :: r) else a) ∈ _ ∧ ∀ y ∈ _, (if minI (b :: r) < a then minI (b :: r) else a) ≤ y
    split
    · refine ⟨List.mem_cons_of_mem _ h1, fun y m => ?_⟩
      rcases List.mem_cons.mp m with rfl | m
      · omega
      · exact h2 y m
    · refine ⟨List.mem_cons_self, fun y m => ?_⟩
      rcases List.mem_cons.mp m with rfl | m
      · exact Int.le_refl _
      · have := h2 y m; omega
section
variable {K : Frg}
theorem cs_abs : CaS K (fun xs H Q => ∃ i, xs = [.int i] ∧ Q (.int (if i < 0 then -i else i)) H) dAbs := fun G H xs ds d Q gl l e k => by
  unfold dAbs at e
  split at e <;> cases e
  obtain ⟨v, rfl, dv⟩ := l.one
  exact ⟨_, by rw [dv.of_int], k _ G H (Grow.refl gl) (.int _)⟩
theorem cs_max2 : CaS K (fun xs H Q => ∃ i j, xs = [.int i, .int j] ∧ Q (.int (if j > i then j else i)) H) dMax2 := fun G H xs ds d Q gl l e k => by
  unfold dMax2 at e
  split at e <;> cases e
  obtain ⟨v, v', rfl, dv, dv'⟩ := l.two
  exact ⟨_, _, by rw [dv.of_int, dv'.of_int], k _ G H (Grow.refl gl) (.int _)⟩
theorem cs_min2 : CaS K (fun xs H Q => ∃ i j, xs = [.int i, .int j] ∧ Q (.int (if j < i then j else i)) H) dMin2 := fun G H xs ds d Q gl l e k => by
  unfold dMin2 at e
  split at e <;> cases e
  obtain ⟨v, v', rfl, dv, dv'⟩ := l.two
  exact ⟨_, _, by rw [dv.of_int, dv'.of_int], k _ G H (Grow.refl gl) (.int _)⟩
theorem cs_int : CaS K (fun xs H Q => (∃ i, xs = [.int i] ∧ Q (.int i) H) ∨ ∃ k, xs = [.bl k] ∧ Q (.int (if k then 1 else 0)) H) dInt := fun G H xs ds d Q gl l e k => by
  unfold dInt at e
  split at e <;> cases e
  · obtain ⟨v, rfl, dv⟩ := l.one
    exact .inl ⟨_, by rw [dv.of_int], k _ G H (Grow.refl gl) (.int _)⟩
  · obtain ⟨v, rfl, dv⟩ := l.one
    exact .inr ⟨_, by rw [dv.of_bool], k _ G H (Grow.refl gl) (.int _)⟩
theorem cs_str : CaS K (fun xs H Q => ∃ i, xs = [.int i] ∧ i.natAbs.log2 < 1920 ∧ Q (.str (toString i)) H) dStr := fun G H xs ds d Q gl l e k => by
  unfold dStr at e
  split at e
  · split at e
    · cases e
      obtain ⟨v, rfl, dv⟩ := l.one
      exact ⟨_, by rw [dv.of_int], by assumption, k _ G H (Grow.refl gl) (.str _)⟩
    · cases e
  · cases e
theorem cs_gcd : CaS K rGcd dGcd := fun G H xs ds d Q gl l e k => by
  unfold dGcd at e
  split at e <;> cases e
  obtain ⟨v, v', rfl, dv, dv'⟩ := l.two
  exact ⟨_, _, by rw [dv.of_int, dv'.of_int], k _ G H (Grow.refl gl) (.int _)⟩
theorem cs_sum : CaS K (rSum K) dSum := fun G H xs ds d Q gl l e k => by
  unfold dSum at e
  split at e
  · rename_i ds
    cases q : intsOf ds with
    | none => rw [q] at e; cases e
    | some ns =>
      rw [q] at e
      cases e
      obtain ⟨v, rfl, dv⟩ := l.one
      obtain ⟨a, vs, rfl, s, lv⟩ := dv.of_lst
      exact ⟨a, ns, rfl, by rw [← denL_ints lv q]; exact (gl.sqX s).l, k _ G H (Grow.refl gl) (.int _)⟩
  · cases e
theorem cs_maxL : CaS K (rMax K) dMaxL := fun G H xs ds d Q gl l e k => by
  unfold dMaxL at e
  split at e
  · rename_i ds
    cases q : intsOf ds with
    | none => rw [q] at e; cases e
    | some ns =>
      rw [q] at e
      have e : (if ns = [] then none else some (.int (maxI ns))) = some d := e
      split at e
      · cases e
      · rename_i hne
        cases e
        obtain ⟨v, rfl, dv⟩ := l.one
        obtain ⟨a, vs, rfl, s, lv⟩ := dv.of_lst
        obtain ⟨m1, m2⟩ := maxI_spec ns hne
        refine ⟨a, ns, rfl, by rw [← denL_ints lv q]; exact (gl.sqX s).l, List.length_pos_iff.mpr hne, fun m h1 h2 => ?_⟩
        have : m = maxI ns := Int.le_antisymm (m2 m h1) (h2 _ m1)
        rw [this]
        exact k _ G H (Grow.refl gl) (.int _)
  · cases e
theorem cs_minL : CaS K (rMin K) dMinL := fun G H xs ds d Q gl l e k => by
  unfold dMinL at e
  split at e
  · rename_i ds
    cases q : intsOf ds with
    | none => rw [q] at e; cases e
    | some ns =>
      rw [q] at e
      have e : (if ns = [] then none else some (.int (minI ns))) = some d := e
      split at e
      · cases e
      · rename_i hne
        cases e
        obtain ⟨v, rfl, dv⟩ := l.one
        obtain ⟨a, vs, rfl, s, lv⟩ := dv.of_lst
        obtain ⟨m1, m2⟩ := minI_spec ns hne
        refine ⟨a, ns, rfl, by rw [← denL_ints lv q]; exact (gl.sqX s).l, List.length_pos_iff.mpr hne, fun m h1 h2 => ?_⟩
        have : m = minI ns := Int.le_antisymm (h2 _ m1) (m2 m h1)
        rw [this]
        exact k _ G H (Grow.refl gl) (.int _)
  · cases e
theorem cs_all : CaS K (rAll K) dAll := fun G H xs ds d Q gl l e k => by
  unfold dAll at e
  split at e
  · rename_i ds
    cases q : boolsOf ds with
    | none => rw [q] at e; cases e
    | some ns =>
      rw [q] at e
      cases e
      obtain ⟨v, rfl, dv⟩ := l.one
      obtain ⟨a, vs, rfl, s, lv⟩ := dv.of_lst
      exact ⟨a, ns, rfl, by rw [← denL_bools lv q]; exact (gl.sqX s).l, k _ G H (Grow.refl gl) (.bl _)⟩
  · cases e
theorem cs_any : CaS K (rAny K) dAny := fun G H xs ds d Q gl l e k => by
  unfold dAny at e
  split at e
  · rename_i ds
    cases q : boolsOf ds with
    | none => rw [q] at e; cases e
    | some ns =>
      rw [q] at e
      cases e
      obtain ⟨v, rfl, dv⟩ := l.one
      obtain ⟨a, vs, rfl, s, lv⟩ := dv.of_lst
      exact ⟨a, ns, rfl, by rw [← denL_bools lv q]; exact (gl.sqX s).l, k _ G H (Grow.refl gl) (.bl _)⟩
  · cases e
theorem cs_tuple : CaS K (fun xs H Q => ∃ p ys, xs = [.ref p] ∧ ((SqL K H p ys ∧ ∀ l, H l = none → Q (.ref l) (upd H l (.tup ys))) ∨ (SqT K H p ys ∧ Q (.ref p) H))) dTuple := fun G H xs ds d Q gl l e k => by
  unfold dTuple at e
  split at e
  · cases e
    obtain ⟨v, rfl, dv⟩ := l.one
    obtain ⟨a, vs, rfl, s, lv⟩ := dv.of_lst
    exact ⟨a, vs, rfl, .inl ⟨(gl.sqX s).l, fun p hp => new_tup gl hp lv k⟩⟩
  · cases e
    obtain ⟨v, rfl, dv⟩ := l.one
    obtain ⟨a, vs, rfl, s, lv⟩ := dv.of_tup
    exact ⟨a, vs, rfl, .inr ⟨gl.sqT s, k _ G H (Grow.refl gl) (.tup s lv)⟩⟩
  · cases e
theorem co_list : CaO K (fun xs H Q => ∃ p ys, xs = [.ref p] ∧ (SqL K H p ys ∨ SqT K H p ys) ∧ ∀ l, H l = none → Q (.ref l) (upd H l (.lst ys))) dList := fun G H xs ds d Q gl l e k => by
  unfold dList at e
  split at e
  · cases e
    obtain ⟨v, rfl, dv⟩ := l.one
    obtain ⟨a, vs, rfl, s, lv⟩ := dv.of_lst
    exact ⟨a, vs, rfl, .inl ((gl.sqX s).l), fun p hp => new_list gl hp lv k⟩
  · cases e
    obtain ⟨v, rfl, dv⟩ := l.one
    obtain ⟨a, vs, rfl, s, lv⟩ := dv.of_tup
    exact ⟨a, vs, rfl, .inr (gl.sqT s), fun p hp => new_list gl hp lv k⟩
  · cases e
end
/-- the answers that are numbers or truths -/
theorem fl1 {g : List D → Option D} (h : ∀ a d, g a = some d → (∃ i, d = .int i) ∨ (∃ b, d = .bool b) ∨ ∃ z, d = .str z) : FlatL g := fun a d e => by
  rcases h a d e with ⟨i, rfl⟩ | ⟨b, rfl⟩ | ⟨z, rfl⟩ <;> rfl
section
variable {X : Cx} {W : WX} {md : Md} {pa : Bool} {e a b : Expr} {es : List Expr} {ms : M (List D)} {ma : M D} {x : Str} {p pos : Pos}
theorem xb_s {id : String} {r : List V → Hp → VK → Prop} {g : List D → Option D} (hc : CallR X (.builtin id) r) (hr : CaS X.K r g) (hf : FlatL g) (hg : Gl X x) (hm : X.mg x = none) (hv : bootBuiltins x = some (.builtin id)) (ha : Ea X W md pa (e :: es) ms) (hn : x ≠ "__name__" := by decide) (hdb : (x == ("__debug__" : Str)) = false := by decide)
    (he : starEach (e :: es) X.env = (false, eval e X.env) :: starEach es X.env := by rfl) (hpl : (backTo pos (starEach es X.env)).any (·.1) = false := by rfl) : Ex X W .frz pa (.Call (.Name x p) (e :: es) [] pos) (mL g ms) :=
  exLs (fun ta q => pe_callB hc hg hm hv q hn hdb he hpl) hr hf ha
theorem xt_s {T : String} {r : List V → Hp → VK → Prop} {g : List D → Option D} (hc : CallR X (.type T) r) (hr : CaS X.K r g) (hf : FlatL g) (hg : Gl X x) (hm : X.mg x = none) (hv : bootBuiltins x = some (.type T)) (ha : Ea X W md pa (e :: es) ms) (hn : x ≠ "__name__" := by decide) (hdb : (x == ("__debug__" : Str)) = false := by decide)
    (he : starEach (e :: es) X.env = (false, eval e X.env) :: starEach es X.env := by rfl) (hpl : (backTo pos (starEach es X.env)).any (·.1) = false := by rfl) : Ex X W .frz pa (.Call (.Name x p) (e :: es) [] pos) (mL g ms) :=
  exLs (fun ta q => pe_callTy hc hg hm hv q hn hdb he hpl) hr hf ha
theorem xt_f {T : String} {r : List V → Hp → VK → Prop} {g : List D → Option D} (hc : CallR X (.type T) r) (hr : CaS X.K r g) (hg : Gl X x) (hm : X.mg x = none) (hv : bootBuiltins x = some (.type T)) (ha : Ea X W md pa (e :: es) ms) (hn : x ≠ "__name__" := by decide) (hdb : (x == ("__debug__" : Str)) = false := by decide)
    (he : starEach (e :: es) X.env = (false, eval e X.env) :: starEach es X.env := by rfl) (hpl : (backTo pos (starEach es X.env)).any (·.1) = false := by rfl) : Ex X W md pa (.Call (.Name x p) (e :: es) [] pos) (mL g ms) :=
  exL (fun ta q => pe_callTy hc hg hm hv q hn hdb he hpl) hr ha
theorem ob_ {id : String} {r : List V → Hp → VK → Prop} {g : List D → Option T} (hc : CallR X (.builtin id) r) (hr : CaO X.K r g) (hg : Gl X x) (hm : X.mg x = none) (hv : bootBuiltins x = some (.builtin id)) (ha : Ea X W .frz pa (e :: es) ms) (hn : x ≠ "__name__" := by decide) (hdb : (x == ("__debug__" : Str)) = false := by decide)
    (he : starEach (e :: es) X.env = (false, eval e X.env) :: starEach es X.env := by rfl) (hpl : (backTo pos (starEach es X.env)).any (·.1) = false := by rfl) : Eo X W pa (.Call (.Name x p) (e :: es) [] pos) (mL g ms) :=
  eoL (fun ta q => pe_callB hc hg hm hv q hn hdb he hpl) hr ha
theorem ot_ {T' : String} {r : List V → Hp → VK → Prop} {g : List D → Option T} (hc : CallR X (.type T') r) (hr : CaO X.K r g) (hg : Gl X x) (hm : X.mg x = none) (hv : bootBuiltins x = some (.type T')) (ha : Ea X W .frz pa (e :: es) ms) (hn : x ≠ "__name__" := by decide) (hdb : (x == ("__debug__" : Str)) = false := by decide)
    (he : starEach (e :: es) X.env = (false, eval e X.env) :: starEach es X.env := by rfl) (hpl : (backTo pos (starEach es X.env)).any (·.1) = false := by rfl) : Eo X W pa (.Call (.Name x p) (e :: es) [] pos) (mL g ms) :=
  eoL (fun ta q => pe_callTy hc hg hm hv q hn hdb he hpl) hr ha
/-! by name -/
theorem b_len (hg : Gl X "len") (hm : X.mg "len" = none) (ha : Ea X W md pa [a] ms) (he : starEach [a] X.env = (false, eval a X.env) :: starEach [] X.env := by rfl) (hpl : (backTo pos (starEach [] X.env)).any (·.1) = false := by rfl) : Ex X W .frz pa (.Call (.Name "len" p) [a] [] pos) (mL dLen ms) :=
  xb_s (call_len_seq.or (call_len_str.or (call_lenK.or call_lenT))) cs_len fl_len hg hm PySem.boot_len ha (by decide) (by decide) he hpl
theorem b_abs (hg : Gl X "abs") (hm : X.mg "abs" = none) (ha : Ea X W md pa [a] ms) (he : starEach [a] X.env = (false, eval a X.env) :: starEach [] X.env := by rfl) (hpl : (backTo pos (starEach [] X.env)).any (·.1) = false := by rfl) : Ex X W .frz pa (.Call (.Name "abs" p) [a] [] pos) (mL dAbs ms) :=
  xb_s call_abs cs_abs (fl1 fun a d h => by unfold dAbs at h; split at h <;> cases h; exact .inl ⟨_, rfl⟩) hg hm (by decide +kernel) ha (by decide) (by decide) he hpl
theorem b_max2 (hc : X.calm = true) (hg : Gl X "max") (hm : X.mg "max" = none) (ha : Ea X W md pa [a, b] ms) (he : starEach [a, b] X.env = (false, eval a X.env) :: starEach [b] X.env := by rfl) (hpl : (backTo pos (starEach [b] X.env)).any (·.1) = false := by rfl) : Ex X W .frz pa (.Call (.Name "max" p) [a, b] [] pos) (mL dMax2 ms) :=
  xb_s (call_max2 hc) cs_max2 (fl1 fun a d h => by unfold dMax2 at h; split at h <;> cases h; exact .inl ⟨_, rfl⟩) hg hm (by decide +kernel) ha (by decide) (by decide) he hpl
theorem b_min2 (hc : X.calm = true) (hg : Gl X "min") (hm : X.mg "min" = none) (ha : Ea X W md pa [a, b] ms) (he : starEach [a, b] X.env = (false, eval a X.env) :: starEach [b] X.env := by rfl) (hpl : (backTo pos (starEach [b] X.env)).any (·.1) = false := by rfl) : Ex X W .frz pa (.Call (.Name "min" p) [a, b] [] pos) (mL dMin2 ms) :=
  xb_s (call_min2 hc) cs_min2 (fl1 fun a d h => by unfold dMin2 at h; split at h <;> cases h; exact .inl ⟨_, rfl⟩) hg hm (by decide +kernel) ha (by decide) (by decide) he hpl
theorem fl_bind {o : Option (List Int)} {f : List Int → Int} {d : D} (h : (o.bind fun ns => if ns = [] then none else some (PyData.int (f ns))) = some d) : ∃ i, d = .int i := by
  cases o with
  | none => cases h
  | some ns =>
    have h : (if ns = [] then none else some (PyData.int (f ns))) = some d := h
    split at h <;> cases h
    exact ⟨_, rfl⟩
theorem b_max (hc : X.calm = true) (hg : Gl X "max") (hm : X.mg "max" = none) (ha : Ea X W md pa [a] ms) (he : starEach [a] X.env = (false, eval a X.env) :: starEach [] X.env := by rfl) (hpl : (backTo pos (starEach [] X.env)).any (·.1) = false := by rfl) : Ex X W .frz pa (.Call (.Name "max" p) [a] [] pos) (mL dMaxL ms) :=
  xb_s (cr_max hc) cs_maxL (fl1 fun a d h => by unfold dMaxL at h; split at h; exact .inl (fl_bind h); cases h) hg hm (by decide +kernel) ha (by decide) (by decide) he hpl
theorem b_min (hc : X.calm = true) (hg : Gl X "min") (hm : X.mg "min" = none) (ha : Ea X W md pa [a] ms) (he : starEach [a] X.env = (false, eval a X.env) :: starEach [] X.env := by rfl) (hpl : (backTo pos (starEach [] X.env)).any (·.1) = false := by rfl) : Ex X W .frz pa (.Call (.Name "min" p) [a] [] pos) (mL dMinL ms) :=
  xb_s (cr_min hc) cs_minL (fl1 fun a d h => by unfold dMinL at h; split at h; exact .inl (fl_bind h); cases h) hg hm (by decide +kernel) ha (by decide) (by decide) he hpl
theorem b_sum (hc : X.calm = true) (hg : Gl X "sum") (hm : X.mg "sum" = none) (ha : Ea X W md pa [a] ms) (he : starEach [a] X.env = (false, eval a X.env) :: starEach [] X.env := by rfl) (hpl : (backTo pos (starEach [] X.env)).any (·.1) = false := by rfl) : Ex X W .frz pa (.Call (.Name "sum" p) [a] [] pos) (mL dSum ms) :=
  xb_s (cr_sum hc) cs_sum (fl1 fun a d h => by
    unfold dSum at h
    split at h
    · rename_i ds
      cases q : intsOf ds with
      | none => rw [q] at h; cases h
      | some ns => rw [q] at h; cases h; exact .inl ⟨_, rfl⟩
    · cases h) hg hm (by decide +kernel) ha (by decide) (by decide) he hpl
theorem fl_boolmap {o : Option (List Bool)} {f : List Bool → Bool} {d : D} (h : (o.map fun ns => PyData.bool (f ns)) = some d) : ∃ i, d = .bool i := by
  cases o with
  | none => cases h
  | some ns => cases h; exact ⟨_, rfl⟩
theorem b_all (hc : X.calm = true) (hg : Gl X "all") (hm : X.mg "all" = none) (ha : Ea X W md pa [a] ms) (he : starEach [a] X.env = (false, eval a X.env) :: starEach [] X.env := by rfl) (hpl : (backTo pos (starEach [] X.env)).any (·.1) = false := by rfl) : Ex X W .frz pa (.Call (.Name "all" p) [a] [] pos) (mL dAll ms) :=
  xb_s (cr_all hc) cs_all (fl1 fun a d h => by unfold dAll at h; split at h; exact .inr (.inl (fl_boolmap h)); cases h) hg hm (by decide +kernel) ha (by decide) (by decide) he hpl
theorem b_any (hc : X.calm = true) (hg : Gl X "any") (hm : X.mg "any" = none) (ha : Ea X W md pa [a] ms) (he : starEach [a] X.env = (false, eval a X.env) :: starEach [] X.env := by rfl) (hpl : (backTo pos (starEach [] X.env)).any (·.1) = false := by rfl) : Ex X W .frz pa (.Call (.Name "any" p) [a] [] pos) (mL dAny ms) :=
  xb_s (cr_any hc) cs_any (fl1 fun a d h => by unfold dAny at h; split at h; exact .inr (.inl (fl_boolmap h)); cases h) hg hm (by decide +kernel) ha (by decide) (by decide) he hpl
theorem b_int (hg : Gl X "int") (hm : X.mg "int" = none) (ha : Ea X W md pa [a] ms) (he : starEach [a] X.env = (false, eval a X.env) :: starEach [] X.env := by rfl) (hpl : (backTo pos (starEach [] X.env)).any (·.1) = false := by rfl) : Ex X W .frz pa (.Call (.Name "int" p) [a] [] pos) (mL dInt ms) :=
  xt_s call_int1 cs_int (fl1 fun a d h => by unfold dInt at h; split at h <;> cases h <;> exact .inl ⟨_, rfl⟩) hg hm (by decide +kernel) ha (by decide) (by decide) he hpl
theorem b_str (hg : Gl X "str") (hm : X.mg "str" = none) (ha : Ea X W md pa [a] ms) (he : starEach [a] X.env = (false, eval a X.env) :: starEach [] X.env := by rfl) (hpl : (backTo pos (starEach [] X.env)).any (·.1) = false := by rfl) : Ex X W .frz pa (.Call (.Name "str" p) [a] [] pos) (mL dStr ms) :=
  xt_s call_str_int cs_str (fl1 fun a d h => by
    unfold dStr at h
    split at h
    · split at h <;> cases h
      exact .inr (.inr ⟨_, rfl⟩)
    · cases h) hg hm (by decide +kernel) ha (by decide) (by decide) he hpl
theorem b_gcd (hg : Gl X "gcd") (hm : X.mg "gcd" = some (.builtin "math.gcd")) (ha : Ea X W md pa [a, b] ms) (he : starEach [a, b] X.env = (false, eval a X.env) :: starEach [b] X.env := by rfl) (hpl : (backTo pos (starEach [b] X.env)).any (·.1) = false := by rfl) : Ex X W .frz pa (.Call (.Name "gcd" p) [a, b] [] pos) (mL dGcd ms) :=
  exLs (fun ta q => pe_callBfun cr_gcd hg hm q (by decide) he hpl) cs_gcd (fl1 fun a d h => by unfold dGcd at h; split at h <;> cases h; exact .inl ⟨_, rfl⟩) ha
theorem b_tuple (hg : Gl X "tuple") (hm : X.mg "tuple" = none) (ha : Ea X W md pa [a] ms) (he : starEach [a] X.env = (false, eval a X.env) :: starEach [] X.env := by rfl) (hpl : (backTo pos (starEach [] X.env)).any (·.1) = false := by rfl) : Ex X W md pa (.Call (.Name "tuple" p) [a] [] pos) (mL dTuple ms) :=
  xt_f call_tuple_of cs_tuple hg hm (by decide +kernel) ha (by decide) (by decide) he hpl
theorem b_list (hg : Gl X "list") (hm : X.mg "list" = none) (ha : Ea X W .frz pa [a] ms) (he : starEach [a] X.env = (false, eval a X.env) :: starEach [] X.env := by rfl) (hpl : (backTo pos (starEach [] X.env)).any (·.1) = false := by rfl) : Eo X W pa (.Call (.Name "list" p) [a] [] pos) (mL dList ms) :=
  ot_ call_list_of co_list hg hm (by decide +kernel) ha (by decide) (by decide) he hpl
theorem b_sorted (hu : X.A.units + 70 < cLine) (hg : Gl X "sorted") (hm : X.mg "sorted" = none) (ha : Ea X W .frz pa [a] ms) (he : starEach [a] X.env = (false, eval a X.env) :: starEach [] X.env := by rfl) (hpl : (backTo pos (starEach [] X.env)).any (·.1) = false := by rfl) : Eo X W pa (.Call (.Name "sorted" p) [a] [] pos) (mL dSorted ms) :=
  ob_ (call_sortD hu) co_sorted hg hm (by decide +kernel) ha (by decide) (by decide) he hpl
/-! isinstance of a built-in class -/
def tyD : D → String
  | .none => "NoneType"
  | .bool _ => "bool"
  | .int _ => "int"
  | .str _ => "str"
  | .list _ => "list"
  | .tuple _ => "tuple"
  | .dict _ => "dict"
def isiD (c t : String) : Bool := t == c || (c == "int" && t == "bool")
theorem kit_den {pins : List (Addr × Obj)} {σ : L2.St} {H : Hp} {s : Shared} (I : Inv X pins σ H s) {v : V} {d : D} {u : Value} (h : Den X.K H v d) (rv : RelV v u) :
    ∃ P : Heap → Prop, PySem.W.KitX X.K u (.type (tyD d)) P ∧ P s.heap ∧ u ≠ .builtin "__main__.__loader__#opaque" := by
  cases h with
  | non => exact kit_of I rv (.base .non)
  | bl b => exact kit_of I rv (.base (.bl b))
  | int i => exact kit_of I rv (.base (.int i))
  | str z => exact kit_of I rv (.base (.str z))
  | lst s l =>
    rcases s with (s | ⟨o, s⟩) | ⟨its, n, hk, _⟩
    · exact kit_of I rv (.base (.lst s))
    · exact kit_of I rv (.base (.frz s))
    · cases rv
      exact ⟨_, PySem.W.kitx_list, ⟨_, I.kIn _ _ hk, rfl⟩, fun z => nomatch z⟩
  | tup s l =>
    rcases s with (s | ⟨o, s⟩) | ⟨o, its, n, h1, h2, _⟩
    · exact kit_of I rv (.base (.tup s))
    · exact kit_of I rv (.fTuple s)
    · exact kit_of I rv (.kTuple h1 h2)
  | dk s l =>
    rcases s with s | ⟨o, s⟩
    · exact kit_of I rv (.base (.dK s))
    · exact kit_of I rv (.fDict s)
  | dt sd l =>
    rcases sd with sd | ⟨o, sd⟩
    · exact kit_of I rv (.base (.dT sd))
    · rename_i a ks kvs
      cases (show u = Value.ref a from rv)
      obtain ⟨_, _, _, xs, _, o, es, ep, h1, h2, _⟩ := (show ObjOk X.prog X.w H s.heap a (.frz o (.dT ks)) from I.hok a _ sd)
      exact ⟨_, PySem.W.kitx_dict, ⟨o, h1, h2.1⟩, fun z => nomatch z⟩
theorem call_isiD : CallR X (.builtin "isinstance") (fun xs H Q => ∃ x d c b, xs = [x, .ty c] ∧ Den X.K H x d ∧ kitB (tyD d) c = some b ∧ Q (.bl b) H) := by
  intro pins s σ H xs us Q I r h
  obtain ⟨x, d, c, b, rfl, dx, e, q⟩ := h
  obtain ⟨u1, u2, rfl, r1, r2⟩ := vals2 r
  cases (show u2 = Value.type c from r2)
  obtain ⟨P, Z, pp, hx⟩ := kit_den I dx r1
  exact PySem.W.kia_one Z I.kIn pp (kit_ty e) hx fun tk => ⟨.bl b, H, I.tok tk, rfl, q⟩
def KitOk (c : String) : Prop := ∀ d : D, kitB (tyD d) c = some (isiD c (tyD d))
theorem kit_types {c : String} (h : (["NoneType", "bool", "int", "str", "list", "tuple", "dict"].all fun t => kitB t c == some (isiD c t)) = true) : KitOk c := fun d => by
  simp only [List.all_cons, List.all_nil, Bool.and_true, Bool.and_eq_true, beq_iff_eq] at h
  obtain ⟨h1, h2, h3, h4, h5, h6, h7⟩ := h
  cases d <;> assumption
theorem kit_int : KitOk "int" := kit_types (by decide +kernel)
theorem kit_bool : KitOk "bool" := kit_types (by decide +kernel)
theorem kit_str : KitOk "str" := kit_types (by decide +kernel)
theorem kit_list : KitOk "list" := kit_types (by decide +kernel)
theorem kit_tuple : KitOk "tuple" := kit_types (by decide +kernel)
theorem kit_dict : KitOk "dict" := kit_types (by decide +kernel)
def dIsi (c : String) (d : D) : Option D := some (.bool (isiD c (tyD d)))
theorem b_isi {c : String} {y : Str} {pb : Pos} (kt : KitOk c) (hg : Gl X "isinstance") (hm : X.mg "isinstance" = none) (hy : PE X (.Name y pb) (tC (.ty c))) (ha : Ex X W md pa a ma) (he : starEach [a, .Name y pb] X.env = (false, eval a X.env) :: starEach [.Name y pb] X.env := by rfl)
    (he2 : starEach [.Name y pb] X.env = (false, eval (.Name y pb) X.env) :: starEach [] X.env := by rfl) (hpl : (backTo pos (starEach [.Name y pb] X.env)).any (·.1) = false := by rfl) : Ex X W .frz pa (.Call (.Name "isinstance" p) [a, .Name y pb] [] pos) (m1 (dIsi c) ma) := by
  obtain ⟨ta, pA, kA⟩ := ha
  refine ⟨_, pe_callB call_isiD hg hm PyProof.Rows.boot_isinstance (pa_cons pA (pa_cons hy pa_nil he2) he) (by decide) (by decide) he hpl, fun G H σ env Fp Q S h => ?_⟩
  refine kA G H σ env Fp _ S (Post.bind (pu1 := pa) (pu2 := true) (by rw [Bool.and_true]; exact h) vrd_nil fun d env1 v G1 H1 Fp1 st1 S1 q w h1 => ?_)
  obtain ⟨d', e1, k⟩ := h1.lift0 S1
  cases e1
  exact ⟨v, d, c, _, rfl, w.den S1.le, kt d, k _ G1 H1 (Grow.refl S1.le) ⟨rfl, .bl _⟩⟩
theorem n_ty {y : Str} {c : String} (hg : Gl X y) (hm : X.mg y = none) (hv : bootBuiltins y = some (.type c)) (hn : y ≠ "__name__" := by decide) (hd : (y == ("__debug__" : Str)) = false := by decide) : PE X (.Name y pos) (tC (.ty c)) := pe_bltn hg hm hv rfl hn hd
end
end DL

/-! The data layer, part M: lists: +, slices, methods that change a local list, items stored. -/
namespace DL
open PySem L2 PyProof.Rows

/-! ### list + list, list * int -/
theorem at_sqX {X : Cx} {pins : List (Addr × Obj)} {σ : L2.St} {H : Hp} {s : Shared} {l : Addr} {xs : List V} (I : Inv X pins σ H s) (h : SqX X.K H l xs) : ∃ (its : List Value) (n : Nat), Vals xs its ∧ xs.length = its.length ∧ s.heap.get? l = some { cls := .type "list", data := .seq its.toArray n } := by
  rcases h with h | ⟨its, n, e, _, r⟩
  · obtain ⟨_, its, n, r, e⟩ := (show ObjOk X.prog X.w H s.heap l (.lst xs) from h.ok I.hok)
    exact ⟨its, n, r, r.length, e⟩
  · exact ⟨its, n, r, r.length, I.kIn _ _ e⟩
def rCatR (K : Frg) : R2 := fun x y H Q => ∃ l b xs zs, x = .ref l ∧ y = .ref b ∧ SqX K H l xs ∧ SqX K H b zs ∧ xs.length + zs.length ≤ sizeLine ∧ ∀ p, H p = none → Q (.ref p) (upd H p (.lst (xs ++ zs)))
theorem op_catR {X : Cx} : OpR X (binaryOp .Add) (rCatR X.K) := by
  intro pins s σ H x y v u Q I rx ry h
  obtain ⟨l, b, xs, zs, rfl, rfl, hl, hb, hz, q⟩ := h
  cases rx
  cases ry
  obtain ⟨its, n, r, e1, g1⟩ := at_sqX I hl
  obtain ⟨its2, n2, r2, e2, g2⟩ := at_sqX I hb
  refine PySem.P.add_list g1 g2 ?_ (by rw [List.size_toArray, List.size_toArray]; omega)
  rw [show its.toArray ++ its2.toArray = (its ++ its2).toArray by simp]
  exact ⟨.ref _, _, I.lnew (t' := s.toks) (r.append r2) (by rw [List.length_append]; omega), rfl, q _ I.fresh⟩
theorem oo_cat {K : Frg} : OpO K (rCatR K) dCatL := fun G H x y d1 d2 t Q gl e1 e2 e k => by
  unfold dCatL at e
  split at e
  · split at e
    · cases e
      obtain ⟨a, xs, rfl, s1, l1⟩ := e1.of_lst
      obtain ⟨b, ys, rfl, s2, l2⟩ := e2.of_lst
      exact ⟨a, b, xs, ys, rfl, rfl, gl.sqX s1, gl.sqX s2, by rw [l1.length, l2.length]; assumption, fun p hp => new_list gl hp (l1.append l2) k⟩
    · cases e
  · cases e
/-! ### slices -/
def cutD (ds : List D) (lo hi : Option Int) : List D := (ds.drop (HT.sIx ds.length 0 lo)).take (HT.sIx ds.length ds.length hi - HT.sIx ds.length 0 lo)
theorem DenL.cut {K : Frg} {G : Hp} {vs : List V} {ds : List D} (l : DenL K G vs ds) (lo hi : Option Int) : DenL K G (cutV vs lo hi) (cutD ds lo hi) := by
  unfold cutV cutD
  rw [l.length]
  exact (l.drop _).take _
def dSl (d : D) (lo hi : Option Int) : Option T := match d with
  | .list ds => some (.ol ((cutD ds lo hi).map T.fz))
  | .tuple ds => some (.fz (.tuple (cutD ds lo hi)))
  | .str z => if z.length ≤ sizeLine then some (.fz (.str (cutS z lo hi))) else none
  | _ => none
/-- a bound of a slice -/
def Eb (X : Cx) (W : WX) (e : Option Expr) (m : M (Option Int)) : Prop := ∃ to : TO, PO X e to ∧ ∀ G H σ env Fp Q, Sta X.K G H σ env Fp → Post X.K X.mg W (fun _ _ b a Fr => Fr = [] ∧ b = a) true σ G H Fp env Q (m env) → to σ H Q
def mBd (m : M D) : M (Option Int) := m.bind fun d => match d with
  | .int i => M.pure (some i)
  | _ => fun _ => .bad
section
variable {X : Cx} {W : WX} {fx : List Nat} {md : Md} {pu pa pb pc : Bool} {e a b c tg iter elt : Expr} {lo hi : Option Expr} {es : List Expr} {m ma mb : M D} {ml mh : M (Option Int)} {mts : M (List T)} {p pos p2 : Pos} {mt : M T}
theorem eb_none : Eb X W none (M.pure none) := ⟨_, po_none, fun G H σ env Fp Q S h => post_pure h S ⟨rfl, rfl⟩⟩
theorem eb_some (h : Ex X W md true e m) : Eb X W (some e) (mBd m) := by
  obtain ⟨te, p, k⟩ := h
  refine ⟨_, po_some p, fun G H σ env Fp Q S h => ?_⟩
  unfold mBd at h
  refine k G H σ env Fp _ S (Post.bind (pu1 := true) (pu2 := true) h vrd_nil fun d env1 v G1 H1 Fp1 st S1 q w h1 => ?_)
  cases d with
  | int i => exact ⟨i, (vrd_gr.mp w).2.of_int, post_pure h1 S1 ⟨rfl, rfl⟩⟩
  | _ => exact h1.elim
theorem rel_sl {K : Frg} {G H : Hp} {v : V} {d : D} {lo hi : Option Int} {t : T} {Q : VK} (gl : GLe G H) (dv : Den K G v d) (e : dSl d lo hi = some t)
    (k : ∀ v G' H' F, Grow G H G' H' → Own K G' H' v t F → F.Nodup → (∀ a ∈ F, G' a = none ∧ H a = none) → Q v H') :
    rSlL K v lo hi H Q ∨ L2.rSlA K v lo hi H Q ∨ L2.rSlS v lo hi H Q := by
  unfold dSl at e
  split at e
  · cases e
    obtain ⟨a, xs, rfl, s, l⟩ := dv.of_lst
    exact .inl ⟨a, xs, rfl, (gl.sqX s).l, fun p hp => new_list gl hp (l.cut lo hi) k⟩
  · rename_i ds
    cases e
    obtain ⟨a, xs, rfl, s, l⟩ := dv.of_tup
    refine .inr (.inl ⟨a, xs, rfl, gl.sqT s, fun z => ?_, fun _ p hp => ?_⟩)
    · have ez : cutD ds lo hi = ds := by
        unfold cutD
        rw [← l.length, z.1, z.2, List.drop_zero, Nat.sub_zero, l.length, List.take_length]
      exact k _ G H [] (Grow.refl gl) (.fz (.tup s (by rw [ez]; exact l))) List.nodup_nil (fun _ m => absurd m (by simp))
    · exact new_tup gl hp (l.cut lo hi) fun v G' H' w dv => k v G' H' [] w (.fz dv) List.nodup_nil (fun _ m => absurd m (by simp))
  · split at e
    · cases e
      exact .inr (.inr ⟨_, dv.of_str, by assumption, k _ G H [] (Grow.refl gl) (.fz (.str _)) List.nodup_nil (fun _ m => absurd m (by simp))⟩)
    · cases e
  · cases e
def mSl (ma : M D) (ml mh : M (Option Int)) : M T := ma.bind fun d => ml.bind fun l => mh.bind fun h => M.lift (dSl d l h)
theorem grow_nodup {K : Frg} {G H G' H' : Hp} {σ : L2.St} {env : Env} {Fp F : List Addr} (S : Sta K G H σ env Fp) (w : Grow G H G' H') (nd : F.Nodup) (n : ∀ a ∈ F, G' a = none ∧ H a = none) : (F ++ Fp).Nodup ∧ Step G H Fp G' H' (F ++ Fp) :=
  ⟨List.nodup_append.mpr ⟨nd, S.nd, fun a ma b mb z => by
    subst z
    have bx := S.sl.boxes a mb
    rw [(n a ma).2] at bx
    exact bx⟩, fun a u z _ => w.same a u z, w.sub, (w.step (Fp := Fp)).frG, fun a m => (List.mem_append.mp m).elim (fun z => .inl (n a z).2) .inr⟩
theorem o_slice (ha : Ex X W .frz pa a ma) (hl : Eb X W lo ml) (hh : Eb X W hi mh) : Eo X W pa (.Subscript a (.Slice lo hi none p2) pos) (mSl ma ml mh) := by
  obtain ⟨ta, p1, k1⟩ := ha
  obtain ⟨tl, p2, k2⟩ := hl
  obtain ⟨th, p3, k3⟩ := hh
  refine ⟨_, pe_slice (sl_list.or (sl_tupA.or sl_str)) p1 p2 p3, fun G H σ env Fp Q S h => ?_⟩
  unfold mSl at h
  refine k1 G H σ env Fp _ S (Post.bind (pu1 := pa) (pu2 := true) (by rw [Bool.and_true]; exact h) vrd_nil fun d env1 v G1 H1 Fp1 st S1 q w h1 => ?_)
  refine k2 G1 H1 σ env1 Fp1 _ S1 (Post.bind (pu1 := true) (pu2 := true) h1 (fun _ _ _ _ _ h => h.1) fun l env2 l' G2 H2 Fp2 st2 S2 q2 w2 h2 => ?_)
  refine k3 G2 H2 σ env2 Fp2 _ S2 (Post.bind (pu1 := true) (pu2 := true) h2 (fun _ _ _ _ _ h => h.1) fun h env3 h' G3 H3 Fp3 st3 S3 q3 w3 h3 => ?_)
  obtain ⟨_, rfl⟩ := w2
  obtain ⟨_, rfl⟩ := w3
  obtain ⟨t, e, kk⟩ := h3.lift S3
  refine rel_sl S3.le (w.2.up (same_gle (st2.sub.trans st3.sub))) e fun u G4 H4 F w4 o nd n => ?_
  obtain ⟨n1, n2⟩ := grow_nodup S3 w4 nd n
  exact kk u G4 H4 F w4 n2 n1 (fun a m => (n a m).1) o
theorem o_addL (ha : Ex X W .frz pa a ma) (hb : Ex X W .frz pb b mb) : Eo X W (pa && pb) (.BinOp a .Add b pos) (m2 dCatL ma mb) := eo2 (fun ta tb p q => pe_op op_catR p q) oo_cat ha hb

/-! ### methods that change the list or dict in a slot -/
def MeS (K : Frg) (r : V → List V → Hp → VK → Prop) (g : T → List T → Option (T × T)) : Prop := ∀ G H v t F0 vs ts Fr t' rt Q, GLe G H → Own K G H v t F0 → OwnL K G H vs ts Fr → (F0 ++ Fr).Nodup → (∀ a ∈ F0 ++ Fr, G a = none) → g t ts = some (t', rt) →
  (∀ u H' F' Fres, (∀ b, b ∉ F0 → H' b = H b) → Own K G H' v t' F' → Own K G H' u rt Fres → (Fres ++ F').Nodup → (∀ a ∈ Fres ++ F', a ∈ F0 ++ Fr) → Q u H') → r v vs H Q
def boxy (k : String) (t : T) : Bool := match t with
  | .ol _ => k == "list"
  | .od _ => k == "dict"
  | _ => false
def mBox (k : String) (i : Nat) : M Unit := fun env => match env[i]? with
  | some (some t) => if boxy k t = true then .ok () env else .bad
  | _ => .bad
def mMeth (k : String) (i : Nat) (g : T → List T → Option (T × T)) (ms : M (List T)) : M T := (mBox k i).bind fun _ => ms.bind fun ts env => match env[i]? with
  | some (some t) => match g t ts with
    | some (t', r) => .ok r (env.set i (some t'))
    | none => .bad
  | _ => .bad
theorem boxy_ty {K : Frg} {G H : Hp} {v : V} {t : T} {F : List Addr} {k : String} (o : Own K G H v t F) (h : boxy k t = true) : tyV K k v H := by
  cases o with
  | fz _ => cases h
  | ot _ _ => cases h
  | ol e _ => exact .inl ⟨by simpa [boxy] using h, _, .inl (.inl e)⟩
  | odk e _ => exact .inr (.inr (.inl ⟨by simpa [boxy] using h, .inl ⟨_, e⟩⟩))
  | odt e _ => exact .inr (.inr (.inl ⟨by simpa [boxy] using h, .inr ⟨_, e⟩⟩))
theorem meth_end {r : V → List V → Hp → VK → Prop} {g : T → List T → Option (T × T)} (hr : MeS X.K r g) {i : Nat} {σ : L2.St} {G H G1 H1 : Hp} {Fp Fp1 Fr : List Addr} {env env1 : Env} {v : V} {vs : List V} {ts : List T} {Q : VK} (hv : σ[i]? = some (some v))
    (st1 : Step G H Fp G1 H1 (Fr ++ Fp1)) (S1 : Sta X.K G1 H1 σ env1 Fp1) (nd1 : (Fr ++ Fp1).Nodup) (ap1 : ∀ a ∈ Fr, G1 a = none) (o1 : OwnL X.K G1 H1 vs ts Fr)
    (h1 : Post X.K X.mg W (VrT X.K) false σ G H Fp env Q (match env1[i]? with
      | some (some t) => match g t ts with
        | some (t', r) => .ok r (env1.set i (some t'))
        | none => .bad
      | _ => .bad)) : r v vs H1 Q := by
  cases q : env1[i]? with
  | none => rw [q] at h1; exact h1.elim
  | some o =>
    cases o with
    | none => rw [q] at h1; exact h1.elim
    | some t =>
      rw [q] at h1
      dsimp only at h1
      cases qg : g t ts with
      | none => rw [qg] at h1; exact h1.elim
      | some tr =>
        obtain ⟨t', rt⟩ := tr
        rw [qg] at h1
        dsimp only at h1
        obtain ⟨v', F0, F', e2, own, rest, in0, inR, ndR⟩ := S1.sl.take q
        rw [hv] at e2
        cases e2
        have nd0 := List.nodup_append.mp (ndR S1.nd)
        have ndA := List.nodup_append.mp nd1
        refine hr G1 H1 v t F0 vs ts Fr t' rt Q S1.le own o1 (List.nodup_append.mpr ⟨nd0.1, ndA.1, fun a ma b mb z => ndA.2.2 b mb a (in0 a ma) z.symm⟩) (fun a m => (List.mem_append.mp m).elim (fun z => S1.ap a (in0 a z)) (ap1 a)) qg fun u H2 F2 Fres ch o2 or nd2 sub2 => ?_
        have rest2 := rest.stay (H' := H2) (GLe.refl _) fun a m => ch a fun z => nd0.2.2 a z a m rfl
        obtain ⟨F3, s3, k3, n3⟩ := rest2.back o2 hv
        rw [List.set_set] at s3
        have ndB := List.nodup_append.mp nd2
        have dj : ∀ a, a ∈ F0 ++ Fr → a ∉ F' := fun a m z => by
          rcases List.mem_append.mp m with m | m
          · exact nd0.2.2 a m a z rfl
          · exact ndA.2.2 a m a (inR a z) rfl
        have n3' : F3.Nodup := n3 (List.nodup_append.mpr ⟨ndB.2.1, nd0.2.1, fun a ma b mb z => dj a (sub2 a (List.mem_append_right _ ma)) (z ▸ mb)⟩)
        have inAll : ∀ a, a ∈ F0 ++ Fr → a ∈ Fr ++ Fp1 := fun a m => (List.mem_append.mp m).elim (fun z => List.mem_append_right _ (in0 a z)) (List.mem_append_left _)
        have apAll : ∀ a, a ∈ F0 ++ Fr → G1 a = none := fun a m => (List.mem_append.mp m).elim (fun z => S1.ap a (in0 a z)) (ap1 a)
        have gl2 : GLe G1 H2 := fun a o e => by
          have z : a ∉ F0 := fun m => by rw [S1.ap a (in0 a m)] at e; cases e
          rw [ch a z]
          exact S1.le a o e
        refine h1 u G1 H2 F3 Fres (st1.trans ⟨fun a o e n => by rw [ch a fun z => n (inAll a (List.mem_append_left _ z))]; exact e, Same.refl _, fun _ h => .inl h, fun a m => .inr ?_⟩) ⟨gl2, s3, n3', fun a m => ?_⟩ (List.nodup_append.mpr ⟨ndB.1, n3', fun a ma b mb z => ?_⟩) (fun a m => apAll a (sub2 a (List.mem_append_left _ m))) (fun z => nomatch z) or
        · rcases List.mem_append.mp m with m | m
          · exact inAll a (sub2 a (List.mem_append_left _ m))
          · rcases k3 a m with z | z
            · exact inAll a (sub2 a (List.mem_append_right _ z))
            · exact List.mem_append_right _ (inR a z)
        · rcases k3 a m with z | z
          · exact apAll a (sub2 a (List.mem_append_right _ z))
          · exact S1.ap a (inR a z)
        · subst z
          rcases k3 a mb with z | z
          · exact ndB.2.2 a ma a z rfl
          · exact dj a (sub2 a (List.mem_append_left _ ma)) z
theorem mBox_ok {k : String} {i : Nat} {α β : Type} {Vr : Hp → Hp → β → α → List Addr → Prop} {f : M α} {σ : L2.St} {G H : Hp} {Fp : List Addr} {env : Env} {Q : β → Hp → Prop} (S : Sta X.K G H σ env Fp) (h : Post X.K X.mg W Vr pu σ G H Fp env Q (((mBox k i).bind fun _ => f) env)) :
    (∃ v, σ[i]? = some (some v) ∧ tyV X.K k v H) ∧ Post X.K X.mg W Vr pu σ G H Fp env Q (f env) := by
  unfold M.bind mBox at h
  cases q : env[i]? with
  | none => rw [q] at h; exact h.elim
  | some o =>
    cases o with
    | none => rw [q] at h; exact h.elim
    | some t =>
      rw [q] at h
      dsimp only at h
      by_cases hb : boxy k t = true
      · rw [if_pos hb] at h
        obtain ⟨v, F0, e2, o, _⟩ := S.sl.at q
        exact ⟨⟨v, e2, boxy_ty o hb⟩, h⟩
      · rw [if_neg hb] at h
        exact h.elim
theorem o_meth {i : Nat} {k id : String} {name : Str} {o : Expr} {apos : Pos} {r : V → List V → Hp → VK → Prop} {g : T → List T → Option (T × T)} (pl : PlainAttrs k) (slot : Slot k name id) (hty : typeOf (.builtin id) = pure (.type "method_descriptor")) (hm : MtR X id r) (hr : MeS X.K r g)
    (h0 : PE X o (tVar i)) (ha : Ey X W pa (e :: es) mts) (hbase : attributeBase o name X.env (eval o X.env) = eval o X.env := by rfl)
    (hfew : ((backTo pos (starEach (e :: es) X.env)).all (fun x => !x.1) && (backToKw pos (keywordEach [] X.env)).all (fun x => x.1.isSome) && decide ((e :: es).length + ([] : List Keyword).length + (if ([] : List Keyword).isEmpty then 0 else 1) < 30)) = true := by rfl)
    (hline : (apos.endLine == pos.line) = true := by rfl) (hs : starEach (e :: es) X.env = (false, eval e X.env) :: starEach es X.env := by rfl) (hplain : (backTo pos (starEach es X.env)).any (·.1) = false := by rfl) :
    Eo X W false (.Call (.Attribute o name apos) (e :: es) [] pos) (mMeth k i g mts) := by
  obtain ⟨ta, pA, kA⟩ := ha
  refine ⟨_, pe_bm pl slot hty hm h0 pA hbase hfew hline hs hplain, fun G H σ env Fp Q S h => ?_⟩
  unfold mMeth at h
  obtain ⟨⟨v, hv, ty⟩, h⟩ := mBox_ok S h
  refine ⟨v, hv, ty, kA G H σ env Fp _ S ?_⟩
  cases r1 : mts env with
  | bad => rw [M.bind_bad r1] at h; exact h
  | exn x e' => rw [M.bind_exn r1] at h; exact h
  | ok ts env1 =>
    rw [M.bind_ok r1] at h
    exact fun vs G1 H1 Fp1 Fr st1 S1 nd1 ap1 _ o1 => meth_end hr hv st1 S1 nd1 ap1 o1 h
theorem o_meth0 {i : Nat} {k id : String} {name : Str} {o : Expr} {apos : Pos} {r : V → List V → Hp → VK → Prop} {g : T → List T → Option (T × T)} (pl : PlainAttrs k) (slot : Slot k name id) (hty : typeOf (.builtin id) = pure (.type "method_descriptor")) (hm : MtR X id r) (hr : MeS X.K r g)
    (h0 : PE X o (tVar i)) (hbase : attributeBase o name X.env (eval o X.env) = eval o X.env := by rfl) (hline : (apos.endLine == pos.line) = true := by rfl) : Eo X W false (.Call (.Attribute o name apos) [] [] pos) (mMeth k i g mNilT) := by
  refine ⟨_, pe_bm0 pl slot hty hm h0 hbase hline, fun G H σ env Fp Q S h => ?_⟩
  unfold mMeth at h
  obtain ⟨⟨v, hv, ty⟩, h⟩ := mBox_ok S h
  exact ⟨v, hv, ty, meth_end (Fr := []) hr hv Step.refl S S.nd (fun _ m => absurd m (by simp)) .nil h⟩
end
end DL

/-! The data layer, part N: the methods of lists, items stored, names that are moved or frozen. -/
namespace DL
open PySem L2 PyProof.Rows

theorem OwnL.split {K : Frg} {G H : Hp} : ∀ {vs : List V} {ts : List T} {F : List Addr} (n : Nat) {t : T}, OwnL K G H vs ts F → ts[n]? = some t →
    ∃ v F1 Fn F2, vs[n]? = some v ∧ F = F1 ++ Fn ++ F2 ∧ Own K G H v t Fn ∧ ∀ G' H' v' t' Fn', GLe G G' → (∀ a ∈ F1 ++ F2, H' a = H a) → Own K G' H' v' t' Fn' → OwnL K G' H' (vs.set n v') (ts.set n t') (F1 ++ Fn' ++ F2)
  | _, _, _, 0, t, .cons (F := Fa) (F' := Fb) h r, e => by
    cases e
    refine ⟨_, [], Fa, Fb, rfl, by simp, h, fun G' H' v' t' Fn' g k o => ?_⟩
    exact .cons o (r.stay g fun a m => k a (by simpa using m))
  | _, _, _, n + 1, t, .cons (F := Fa) (F' := Fb) h r, e => by
    obtain ⟨v, F1, Fn, F2, e1, e2, o, k⟩ := r.split n (by simpa using e)
    refine ⟨v, Fa ++ F1, Fn, F2, by simpa using e1, by rw [e2]; simp, o, fun G' H' v' t' Fn' g kk oo => ?_⟩
    have z := k G' H' v' t' Fn' g (fun a m => kk a (by
      rcases List.mem_append.mp m with m | m
      · exact List.mem_append_left _ (List.mem_append_right _ m)
      · exact List.mem_append_right _ m)) oo
    have y : Own K G' H' _ _ Fa := h.stay g fun a m => kk a (List.mem_append_left _ (List.mem_append_left _ m))
    have := OwnL.cons y z
    simpa using this
theorem OwnL.app {K : Frg} {G H : Hp} : ∀ {vs ws : List V} {ts us : List T} {F F' : List Addr}, OwnL K G H vs ts F → OwnL K G H ws us F' → OwnL K G H (vs ++ ws) (ts ++ us) (F ++ F')
  | _, _, _, _, _, _, .nil, r => r
  | _, _, _, _, _, _, .cons h t, r => by
    have := OwnL.cons h (t.app r)
    simpa using this
theorem OwnL.cutAt {K : Frg} {G H : Hp} : ∀ {vs : List V} {ts : List T} {F : List Addr} (n : Nat), OwnL K G H vs ts F → ∃ F1 F2, F = F1 ++ F2 ∧ OwnL K G H (vs.take n) (ts.take n) F1 ∧ OwnL K G H (vs.drop n) (ts.drop n) F2
  | _, _, F, 0, r => ⟨[], F, rfl, by simpa using OwnL.nil, by simpa using r⟩
  | _, _, _, n + 1, .nil => ⟨[], [], rfl, by simpa using OwnL.nil, by simpa using OwnL.nil⟩
  | _, _, _, n + 1, .cons (F := Fa) h t => by
    obtain ⟨F1, F2, e, a, b⟩ := t.cutAt n
    exact ⟨Fa ++ F1, F2, by rw [e]; simp, by simpa using OwnL.cons h a, by simpa using b⟩
theorem OwnL.one {K : Frg} {G H : Hp} {vs : List V} {t : T} {F : List Addr} (h : OwnL K G H vs [t] F) : ∃ v, vs = [v] ∧ Own K G H v t F := by
  cases h with
  | cons h r =>
    cases r
    exact ⟨_, rfl, by simpa using h⟩
theorem OwnL.two {K : Frg} {G H : Hp} {vs : List V} {t u : T} {F : List Addr} (h : OwnL K G H vs [t, u] F) : ∃ v w F1 F2, vs = [v, w] ∧ F = F1 ++ F2 ∧ Own K G H v t F1 ∧ Own K G H w u F2 := by
  cases h with
  | cons h r =>
    obtain ⟨w, rfl, o⟩ := r.one
    exact ⟨_, w, _, _, rfl, rfl, h, o⟩
theorem OwnL.zero {K : Frg} {G H : Hp} {vs : List V} {F : List Addr} (h : OwnL K G H vs [] F) : vs = [] ∧ F = [] := by
  cases h
  exact ⟨rfl, rfl⟩

section
variable {K : Frg}
/-! ### the methods of a list -/
def gApp : T → List T → Option (T × T)
  | .ol ts, [t] => if ts.length < sizeLine then some (.ol (ts ++ [t]), .fz .none) else none
  | _, _ => none
theorem ms_app : MeS K rAppend gApp := by
  intro G H v t F0 vs us Fr t' rt Q gl o ol nd ap e k
  unfold gApp at e
  split at e
  · split at e
    · cases e
      rename_i ts t0 hz
      cases o with
      | @ol a xs ts F1 hx hl =>
      obtain ⟨y, rfl, oy⟩ := ol.one
      refine ⟨a, xs, y, rfl, rfl, hx, by rw [hl.len]; exact hz, ?_⟩
      have ndA := List.nodup_append.mp nd
      have nd1 := List.nodup_cons.mp ndA.1
      have keep : ∀ b, b ≠ a → upd H a (.lst (xs ++ [y])) b = H b := fun b hb => upd_ne hb
      have aF : a ∉ Fr := fun z => ndA.2.2 a List.mem_cons_self a z rfl
      refine k .non _ (a :: (F1 ++ Fr)) [] (fun b hb => keep b fun z => hb (z ▸ List.mem_cons_self)) (.ol upd_same ((hl.stay (GLe.refl _) fun b m => keep b fun z => nd1.1 (z ▸ m)).snoc (oy.stay (GLe.refl _) fun b m => keep b fun z => aF (z ▸ m)))) (.fz .non) ?_ fun b m => by simpa using m
      simpa using nd
    · cases e
  · cases e
def gExt : T → List T → Option (T × T)
  | .ol ts, [.fz (.list ds)] => if ts.length + ds.length ≤ sizeLine then some (.ol (ts ++ ds.map T.fz), .fz .none) else none
  | _, _ => none
def rExtR (K : Frg) : V → List V → Hp → VK → Prop := fun x vs H Q => ∃ l b xs zs, x = .ref l ∧ vs = [.ref b] ∧ H l = some (.lst xs) ∧ SqX K H b zs ∧ (l ≠ b ∨ ∃ o, K.lookup b = some o) ∧ xs.length + zs.length ≤ sizeLine ∧ Q .non (upd H l (.lst (xs ++ zs)))
theorem mt_extR {X : Cx} : MtR X "list.extend" (rExtR X.K) := by
  intro pins s σ H x vs v us Q I rx rv h
  obtain ⟨l, b, xs, zs, rfl, rfl, hH, hB, hne, hz, q⟩ := h
  cases rx
  obtain ⟨u, rfl, ru⟩ := rv.one
  cases ru
  obtain ⟨z, its, n, r, hl, e⟩ := I.lstM hH
  obtain ⟨its2, n2, r2, hl2, e2⟩ := at_sqX I hB
  have hne : l ≠ b := by
    rcases hne with z | ⟨o, e3⟩
    · exact z
    · intro z
      subst z
      have := (I.bs _ _ (I.mod.kin _ _ e3)).2
      rw [hH] at this
      cases this
  have h1 : (!its.toArray.isEmpty && Builtin.List.listTooLong (its.toArray.size + its2.toArray.size)) = false := by
    rw [notLongL (by rw [List.size_toArray, List.size_toArray]; omega), Bool.and_false]
  have h2 := AutoSeq1.list_extend_list_list_0 l its.toArray n b its2.toArray n2 (by rw [h1]; exact Bool.false_ne_true) (by rw [List.size_toArray]; omega) (by rw [List.size_toArray, List.size_toArray]; omega)
  exact call_meets F.slot_list_extend ⟨_, e, rfl⟩ F.entry_list_extend (F.args_list_extend_2 _ _) h2 ⟨e, e2, .non, _, I.lset (its' := its ++ its2) hH e (by simp) (r.append r2) (by rw [List.length_append]; exact hz), rfl, q⟩
theorem ms_ext : MeS K (rExtR K) gExt := by
  intro G H v t F0 vs us Fr t' rt Q gl o ol nd ap e k
  unfold gExt at e
  split at e
  · split at e
    · cases e
      rename_i ts ds hz
      cases o with
      | @ol a xs ts F1 hx hl =>
      obtain ⟨y, rfl, oy⟩ := ol.one
      cases oy with
      | fz dy =>
      obtain ⟨b, zs, rfl, s1, l1⟩ := dy.of_lst
      have nd1 := List.nodup_cons.mp (List.nodup_append.mp nd).1
      have keep : ∀ b, b ≠ a → upd H a (.lst (xs ++ zs)) b = H b := fun b hb => upd_ne hb
      have gn : G a = none := ap a (List.mem_append_left _ List.mem_cons_self)
      refine ⟨a, b, xs, zs, rfl, rfl, hx, gl.sqX s1, ?_, by rw [hl.len, l1.length]; exact hz, ?_⟩
      · rcases s1 with s1 | ⟨its, n, e, _⟩
        · refine .inl fun z => ?_
          subst z
          rcases s1 with q | ⟨u, q⟩
          · rw [gn] at q; cases q
          · rw [gn] at q; cases q
        · exact .inr ⟨_, e⟩
      refine k .non _ (a :: F1) [] (fun b hb => keep b fun z => hb (z ▸ List.mem_cons_self)) (.ol upd_same ?_) (.fz .non) (List.nodup_append.mp nd).1 fun b m => by simpa using m
      have q := (hl.stay (G' := G) (H' := upd H a (.lst (xs ++ zs))) (GLe.refl _) fun b m => keep b fun z => nd1.1 (z ▸ m)).app (ownL_fz l1)
      simpa using q
    · cases e
  · cases e
def gIns : T → List T → Option (T × T)
  | .ol ts, [.fz (.int i), t] => if ts.length < sizeLine ∧ 0 ≤ i ∧ i < 2 ^ 63 then some (.ol (ts.take i.toNat ++ [t] ++ ts.drop i.toNat), .fz .none) else none
  | _, _ => none
def rIns : V → List V → Hp → VK → Prop := fun x vs H Q => ∃ (l : Addr) (xs : List V) (i : Int) (y : V), x = .ref l ∧ vs = [.int i, y] ∧ H l = some (.lst xs) ∧ xs.length < sizeLine ∧ 0 ≤ i ∧ i < 2 ^ 63 ∧
    Q .non (upd H l (.lst (xs.take i.toNat ++ [y] ++ xs.drop i.toNat)))
theorem nd_mid {a : Addr} {A B C : List Addr} (h : (a :: (A ++ B) ++ C).Nodup) : (a :: (A ++ C ++ B)).Nodup := by
  have p : (a :: (A ++ C ++ B)).Perm (a :: (A ++ B) ++ C) := by
    simp only [List.cons_append, List.append_assoc]
    exact (List.Perm.append_left A (List.perm_append_comm)).cons a
  exact p.symm.nodup h
theorem ms_ins : MeS K rIns gIns := by
  intro G H v t F0 vs us Fr t' rt Q gl o ol nd ap e k
  unfold gIns at e
  split at e
  · split at e
    · cases e
      rename_i ts i t0 hz
      cases o with
      | @ol a xs ts F1 hx hl =>
      obtain ⟨iv, y, Fa, Fb, rfl, rfl, oi, oy⟩ := ol.two
      cases oi with
      | fz di =>
      cases di.of_int
      have nd1 := List.nodup_cons.mp (List.nodup_append.mp nd).1
      have keep : ∀ b, b ≠ a → upd H a (.lst (xs.take i.toNat ++ [y] ++ xs.drop i.toNat)) b = H b := fun b hb => upd_ne hb
      have aF : a ∉ Fb := fun z => (List.nodup_append.mp nd).2.2 a List.mem_cons_self a (List.mem_append_right _ z) rfl
      refine ⟨a, xs, i, y, rfl, rfl, hx, by rw [hl.len]; exact hz.1, hz.2.1, hz.2.2, ?_⟩
      obtain ⟨F2, F3, rfl, p1, p2⟩ := (hl.stay (G' := G) (H' := upd H a (.lst (xs.take i.toNat ++ [y] ++ xs.drop i.toNat))) (GLe.refl _) fun b m => keep b fun z => nd1.1 (z ▸ m)).cutAt i.toNat
      refine k .non _ (a :: (F2 ++ Fb ++ F3)) [] (fun b hb => keep b fun z => hb (z ▸ List.mem_cons_self)) (.ol upd_same ((p1.snoc (oy.stay (GLe.refl _) fun b m => keep b fun z => aF (z ▸ m))).app p2)) (.fz .non) ?_ fun b m => ?_
      · exact nd_mid (by simpa using nd)
      · simp at m ⊢
        rcases m with m | m | m | m
        · exact .inl m
        · exact .inr (.inl m)
        · exact .inr (.inr (.inr m))
        · exact .inr (.inr (.inl m))
    · cases e
  · cases e
def gClr : T → List T → Option (T × T)
  | .ol _, [] => some (.ol [], .fz .none)
  | _, _ => none
theorem ms_clr : MeS K rClear gClr := by
  intro G H v t F0 vs us Fr t' rt Q gl o ol nd ap e k
  unfold gClr at e
  split at e
  · cases e
    cases o with
    | @ol a xs ts F1 hx hl =>
    obtain ⟨rfl, rfl⟩ := ol.zero
    refine ⟨a, xs, rfl, rfl, hx, ?_⟩
    exact k .non _ [a] [] (fun b hb => upd_ne fun z => hb (z ▸ List.mem_cons_self)) (.ol upd_same .nil) (.fz .non) (by simp) fun b m => by
      have : b = a := by simpa using m
      simp [this]
  · cases e
/-- taking out -/
theorem take_out {H G : Hp} {a : Addr} {xs : List V} {ts : List T} {F1 : List Addr} {j : Nat} {t : T} (hx : H a = some (.lst xs)) (hl : OwnL K G H xs ts F1) (nd : (a :: F1).Nodup) (e : ts[j]? = some t) :
    ∃ y F F', xs[j]? = some y ∧ Own K G (upd H a (.lst (xs.eraseIdx j))) y t F ∧ OwnL K G (upd H a (.lst (xs.eraseIdx j))) (xs.eraseIdx j) (ts.eraseIdx j) F' ∧ (F ++ (a :: F')).Nodup ∧ ∀ b ∈ F ++ (a :: F'), b ∈ a :: F1 := by
  have nd1 := List.nodup_cons.mp nd
  have hl' := hl.stay (G' := G) (H' := upd H a (.lst (xs.eraseIdx j))) (GLe.refl _) fun b m => upd_ne fun z => nd1.1 (z ▸ m)
  generalize upd H a (.lst (xs.eraseIdx j)) = H' at hl'
  clear hl hx
  have : ∀ {vs : List V} {us : List T} {F1 : List Addr} (j : Nat) (t : T), OwnL K G H' vs us F1 → us[j]? = some t → ∃ y A B C, vs[j]? = some y ∧ F1 = A ++ B ++ C ∧ Own K G H' y t B ∧ OwnL K G H' (vs.eraseIdx j) (us.eraseIdx j) (A ++ C) := by
    intro vs us F1 j
    induction j generalizing vs us F1 with
    | zero =>
      intro t h e
      cases h with
      | nil => cases e
      | cons h r => cases e; exact ⟨_, [], _, _, rfl, rfl, h, by simpa using r⟩
    | succ j ih =>
      intro t h e
      cases h with
      | nil => cases e
      | @cons v0 vs0 t0 ts0 Fa Fb h r =>
        obtain ⟨y, A, B, C, e1, e2, o, l⟩ := ih t r (by simpa using e)
        exact ⟨y, Fa ++ A, B, C, by simpa using e1, by rw [e2]; simp, o, by simpa using OwnL.cons h l⟩
  obtain ⟨y, A, B, C, e1, rfl, o, l⟩ := this j t hl' e
  have p : (B ++ (a :: (A ++ C))).Perm (a :: (A ++ B ++ C)) := by
    refine (List.perm_middle).trans (List.Perm.cons a ?_)
    rw [← List.append_assoc]
    exact List.Perm.append_right C List.perm_append_comm
  exact ⟨y, B, A ++ C, e1, o, l, p.symm.nodup nd, fun b m => p.mem_iff.mp m⟩
def gPop : T → List T → Option (T × T)
  | .ol ts, [] => match ts[ts.length - 1]? with
    | some t => some (.ol ts.dropLast, t)
    | none => none
  | _, _ => none
theorem dropLast_erase {α : Type} : ∀ l : List α, l.dropLast = l.eraseIdx (l.length - 1)
  | [] => rfl
  | [x] => rfl
  | x :: y :: r => by
    have := dropLast_erase (y :: r)
    simp only [List.dropLast_cons₂, List.length_cons, Nat.add_sub_cancel, List.eraseIdx_cons_succ] at this ⊢
    rw [this]
theorem ms_pop : MeS K rPop gPop := by
  intro G H v t F0 vs us Fr t' rt Q gl o ol nd ap e k
  unfold gPop at e
  split at e
  · rename_i ts
    split at e
    · rename_i t0 q0
      cases e
      cases o with
      | @ol a xs ts F1 hx hl =>
      obtain ⟨rfl, rfl⟩ := ol.zero
      obtain ⟨y, F, F', e1, o1, l1, n1, s1⟩ := take_out hx hl (by simpa using nd) q0
      have ez : ts.dropLast = ts.eraseIdx (ts.length - 1) := dropLast_erase ts
      have ex : xs.dropLast = xs.eraseIdx (xs.length - 1) := dropLast_erase xs
      rw [← hl.len] at e1 o1 l1 ez
      refine ⟨a, xs, y, rfl, rfl, hx, e1, ?_⟩
      rw [ex]
      refine k y _ (a :: F') F (fun b hb => upd_ne fun z => hb (z ▸ List.mem_cons_self)) (.ol upd_same (by rw [ez]; exact l1)) o1 n1 fun b m => List.mem_append_left _ (s1 b m)
    · cases e
  · cases e
def gPopAt : T → List T → Option (T × T)
  | .ol ts, [.fz (.int i)] => match ixN ts.length i with
    | some j => match ts[j]? with
      | some t => some (.ol (ts.eraseIdx j), t)
      | none => none
    | none => none
  | _, _ => none
def rPopJ : V → List V → Hp → VK → Prop := fun x vs H Q => ∃ (l : Addr) (xs : List V) (i : Int) (j : Nat) (y : V), x = .ref l ∧ vs = [.int i] ∧ H l = some (.lst xs) ∧ ixN xs.length i = some j ∧ xs[j]? = some y ∧ Q y (upd H l (.lst (xs.eraseIdx j)))
theorem rPopJ_at {X : Cx} {pins : List (Addr × Obj)} {σ : L2.St} {H : Hp} {s : Shared} {x : V} {vs : List V} {Q : VK} (I : Inv X pins σ H s) (h : rPopJ x vs H Q) : rPopAt x vs H Q := by
  obtain ⟨l, xs, i, j, y, e1, e2, hH, hj, hy, q⟩ := h
  obtain ⟨h1, h2, h3, h4⟩ := ixN_seq hj
  have hz : xs.length ≤ sizeLine := (I.lst hH).choose_spec.choose_spec.2.2
  rw [sizeLine_eq] at hz
  exact ⟨l, xs, i, j, y, e1, e2, hH, by omega, by omega, h1, hy, q⟩
theorem mt_popJ {X : Cx} : MtR X "list.pop" rPopJ := fun pins s σ H x vs v us Q I rx rv h => mt_popAt pins s σ H x vs v us Q I rx rv (rPopJ_at I h)
theorem ms_popAt : MeS K rPopJ gPopAt := by
  intro G H v t F0 vs us Fr t' rt Q gl o ol nd ap e k
  unfold gPopAt at e
  split at e
  · rename_i ts i
    split at e
    · rename_i j qj
      split at e
      · rename_i t0 q0
        cases e
        cases o with
        | @ol a xs ts F1 hx hl =>
        obtain ⟨iv, rfl, oi⟩ := ol.one
        cases oi with
        | fz di =>
        cases di.of_int
        obtain ⟨y, F, F', e1, o1, l1, n1, s1⟩ := take_out hx hl (by simpa using nd) q0
        refine ⟨a, xs, i, j, y, rfl, rfl, hx, by rw [hl.len]; exact qj, e1, ?_⟩
        exact k y _ (a :: F') F (fun b hb => upd_ne fun z => hb (z ▸ List.mem_cons_self)) (.ol upd_same l1) o1 n1 fun b m => List.mem_append_left _ (s1 b m)
      · cases e
    · cases e
  · cases e
/-! ### x[i] = e -/
def gSetL : T → List T → Option (T × T)
  | .ol ts, [.fz (.int i), t] => match ixN ts.length i with
    | some j => some (.ol (ts.set j t), .fz .none)
    | none => none
  | _, _ => none
def rSetA (r : TSet) : V → List V → Hp → VK → Prop := fun x vs H Q => match vs with
  | [i, v] => r x i v H fun H' => Q .non H'
  | _ => False
theorem ms_setL : MeS K (rSetA rSetL) gSetL := by
  intro G H v t F0 vs us Fr t' rt Q gl o ol nd ap e k
  unfold gSetL at e
  split at e
  · rename_i ts i t0
    split at e
    · rename_i j qj
      cases e
      cases o with
      | @ol a xs ts F1 hx hl =>
      obtain ⟨iv, y, Fa, Fb, rfl, rfl, oi, oy⟩ := ol.two
      cases oi with
      | fz di =>
      cases di.of_int
      have nd1 := List.nodup_cons.mp (List.nodup_append.mp nd).1
      have keep : ∀ b, b ≠ a → upd H a (.lst (xs.set j y)) b = H b := fun b hb => upd_ne hb
      have aF : a ∉ Fb := fun z => (List.nodup_append.mp nd).2.2 a List.mem_cons_self a (List.mem_append_right _ z) rfl
      have hj : j < ts.length := (ixN_seq qj).2.1
      obtain ⟨y0, A, B, C, e1, rfl, o0, kk⟩ := hl.split j (List.getElem?_eq_getElem hj)
      refine ⟨a, xs, i, j, rfl, rfl, hx, by rw [hl.len]; exact qj, ?_⟩
      have l2 := kk G (upd H a (.lst (xs.set j y))) y t0 Fb (GLe.refl _) (fun b m => keep b fun z => nd1.1 (by
        rw [z] at m
        rcases List.mem_append.mp m with m | m
        · exact List.mem_append_left _ (List.mem_append_left _ m)
        · exact List.mem_append_right _ m)) (oy.stay (GLe.refl _) fun b m => keep b fun z => aF (z ▸ m))
      refine k .non _ (a :: (A ++ Fb ++ C)) [] (fun b hb => keep b fun z => hb (z ▸ List.mem_cons_self)) (.ol upd_same l2) (.fz .non) ?_ fun b m => ?_
      · have p : (a :: (A ++ Fb ++ C) ++ B).Perm (a :: (A ++ B ++ C) ++ ([] ++ Fb)) := by
          simp only [List.cons_append, List.append_assoc, List.nil_append]
          refine ((List.Perm.append_left A ?_)).cons a
          have q1 : (Fb ++ (C ++ B)).Perm ((C ++ B) ++ Fb) := List.perm_append_comm
          have q2 : ((C ++ B) ++ Fb).Perm ((B ++ C) ++ Fb) := List.Perm.append_right Fb List.perm_append_comm
          simpa using q1.trans q2
        exact (List.nodup_append.mp (p.symm.nodup nd)).1
      · simp at m ⊢
        rcases m with m | m | m | m
        · exact .inl m
        · exact .inr (.inl m)
        · exact .inr (.inr (.inr (.inr m)))
        · exact .inr (.inr (.inr (.inl m)))
    · cases e
  · cases e
end

section
variable {X : Cx} {W : WX} {fx : List Nat} {md : Md} {pu pa pb pc : Bool} {e a b c o : Expr} {es : List Expr} {m ma mb mk : M D} {mt : M T} {mts : M (List T)} {mc : M Bool} {pos tpos apos : Pos} {i : Nat}
def mStA (me : M T) (mk : M D) : M (List T) := me.bind fun t => mk.bind fun d => if flat d = true then M.pure [.fz d, t] else fun _ => .bad
def stQ (P : V → V → V → Hp → Prop) (v0 : V) : List V → Hp → Prop := fun vs H => match vs with
  | [iv, v] => P v0 iv v H
  | _ => False
theorem rd_stA {te ti : TE} (k1 : ∀ G H σ env Fp Q, Sta X.K G H σ env Fp → Post X.K X.mg W (VrT X.K) pa σ G H Fp env Q (mt env) → te σ H Q) (k2 : ∀ G H σ env Fp Q, Sta X.K G H σ env Fp → Post X.K X.mg W (VrD X.K .view) true σ G H Fp env Q (mk env) → ti σ H Q)
    {G H : Hp} {σ : L2.St} {env : Env} {Fp : List Addr} {P : V → V → V → Hp → Prop} {i : Nat} {v0 : V} (S : Sta X.K G H σ env Fp) (hv : σ[i]? = some (some v0)) (h : Post X.K X.mg W (VrTs X.K) false σ G H Fp env (stQ P v0) (mStA mt mk env)) :
    te σ H fun v H1 => ∃ x, σ[i]? = some (some x) ∧ ti σ H1 fun iv H2 => P x iv v H2 := by
  refine k1 G H σ env Fp _ S ?_
  unfold mStA at h
  cases r1 : mt env with
  | bad => rw [M.bind_bad r1] at h; exact h
  | exn x e' => rw [M.bind_exn r1] at h; exact h
  | ok t env1 =>
    rw [M.bind_ok r1] at h
    intro v G1 H1 Fp1 Fr st1 S1 nd1 ap1 _ o1
    refine ⟨v0, hv, k2 G1 H1 σ env1 Fp1 _ S1 ?_⟩
    cases r2 : mk env1 with
    | bad => rw [M.bind_bad r2] at h; exact h
    | exn x e' =>
      rw [M.bind_exn r2] at h
      exact fun cls dd G' H' Fp' st' S' q => h cls dd G' H' Fp' ((st1.sub_end fun a m => List.mem_append_right _ m).trans st') S' q
    | ok d env2 =>
      rw [M.bind_ok r2] at h
      intro iv G2 H2 Fp2 Fr2 st2 S2 nd2 ap2 pur w
      obtain ⟨rfl, dv⟩ := w
      obtain ⟨rfl, rfl, gw⟩ := pur rfl
      by_cases hf : flat d = true
      · rw [if_pos hf] at h
        have hold : Step G1 H1 (Fr ++ Fp2) G2 H2 (Fr ++ Fp2) := gw.step
        have own2 : Own X.K G2 H2 v t Fr := o1.stay (same_gle gw.sub) fun a m => same_box gw.same (o1.boxes a m)
        refine h [iv, v] G2 H2 Fp2 ([] ++ (Fr ++ [])) (by simpa using st1.trans hold) S2 (by simpa using nd1) (fun a m => ?_) (fun z => nomatch z) (.cons (.fz (Den.flat dv hf G2)) (.cons own2 .nil))
        have m' : a ∈ Fr := by simpa using m
        have b := o1.boxes a m'
        cases q : G2 a with
        | none => rfl
        | some u =>
          rcases gw.frG a (by rw [q]; exact fun z => nomatch z) with z | z | ⟨xs, z⟩
          · exact absurd (ap1 a m') z
          · rw [z] at b; exact b.elim
          · rw [z] at b; exact b.elim
      · rw [if_neg hf] at h
        exact h.elim
def mStore (k : String) (i : Nat) (g : T → List T → Option (T × T)) (me : M T) (mk : M D) : M Fl := mDrop (mMeth k i g (mStA me mk))
theorem s_store {k : String} {r : TSet} {g : T → List T → Option (T × T)} (hs : PSet X r) (hr : MeS X.K (rSetA r) g) (h0 : PE X o (tVar i)) (hk : Ex X W .view true c mk) (he : Eo X W pu e mt)
    (ha : ∀ v, assign (.Subscript o c tpos) X.env v = (do
      let ov ← holding [v] (eval o X.env)
      let iv ← holding [v, ov] (eval c X.env)
      standAt tpos
      holding [v, ov, iv] (setItem ov iv v)
      release [v, ov, iv] []) := by intro _; rfl)
    (hsw : swapsWithSole [.Subscript o c tpos] e pos.line X.env = pure false := by rfl) (hw : swappedStores [.Subscript o c tpos] e X.env = pure none := by rfl) (h1 : (assignEach [.Subscript o c tpos] X.env).map (·.2) = [assign (.Subscript o c tpos) X.env] := by rfl) :
    DS X W fx (.Assign [.Subscript o c tpos] e pos) (mStore k i g mt mk) := by
  obtain ⟨te, p, k1⟩ := he
  obtain ⟨ti, pi, k2⟩ := hk
  refine ⟨_, ps_asg p (pg_sub h0 pi hs ha) hsw hw h1, fun G H σ env Fp Dn S h => ?_⟩
  unfold mStore mMeth at h
  have h := SPost.expr (pu := false) (Vr := VrT X.K) (R := fun _ H' => Dn.nx σ H') h fun t env1 v G1 H1 Fp1 Fr st1 S1 nd ap o h1 => h1 σ G1 H1 Fp1 (Step.refl.sub_end fun a m => List.mem_append_right _ m) Fix.refl S1
  obtain ⟨⟨v, hv, ty⟩, h⟩ := mBox_ok S h
  refine rd_stA (P := fun x iv y H2 => r x iv y H2 fun H3 => Dn.nx σ H3) k1 k2 S hv ?_
  cases r1 : mStA mt mk env with
  | bad => rw [M.bind_bad r1] at h; exact h
  | exn x e' => rw [M.bind_exn r1] at h; exact h
  | ok ts env1 =>
    rw [M.bind_ok r1] at h
    intro vs G1 H1 Fp1 Fr st1 S1 nd1 ap1 _ o1
    have z := meth_end (Q := fun _ H' => Dn.nx σ H') hr hv st1 S1 nd1 ap1 o1 h
    unfold rSetA at z
    unfold stQ
    split at z
    · exact z
    · exact z.elim
/-! ### x[i] op= e, the item flat -/
def mGetI (i : Nat) (d : D) : M D := fun env => match env[i]?, d with
  | some (some (.ol ts)), .int k => match ixN ts.length k with
    | some j => match ts[j]? with
      | some t => .ok t.er env
      | none => .bad
    | none => .bad
  | _, _ => .bad
def mAugA (op : D → D → Option D) (i : Nat) (mk mb : M D) : M (List T) := mk.bind fun d => (mGetI i d).bind fun o => mb.bind fun y => (M.lift (op o y)).bind fun z => if flat d = true ∧ flat z = true then M.pure [.fz d, .fz z] else fun _ => .bad
def mAugL (op : D → D → Option D) (i : Nat) (mk mb : M D) : M Fl := mDrop (mMeth "list" i gSetL (mAugA op i mk mb))
def tGetL : V → V → Hp → VK → Prop := fun o i H Q => ∃ p xs k x, o = .ref p ∧ i = .int k ∧ H p = some (.lst xs) ∧ atI xs k = some x ∧ Q x H
theorem get_listL : PGet X tGetL := by
  intro pins s σ H o i ov iv Q I ro ri h
  obtain ⟨p, xs, k, x, rfl, rfl, hp, hk, q⟩ := h
  cases ro
  obtain ⟨t, rfl⟩ := ri
  obtain ⟨its, n, r, ho, hz⟩ := I.lst hp
  obtain ⟨j, h1, h2, h3, h4, h5⟩ := atI_get hk
  obtain ⟨w, ew, rw'⟩ := r.get h2
  have hl := r.length
  have hn := line63
  have il : s.heap.IsList p its.toArray := ⟨_, ho, rfl, _, rfl⟩
  by_cases h0 : 0 ≤ k
  · have hj : k.toNat = j := by
      rw [seqIndex_of h0 h5] at h1
      exact Option.some.inj h1
    exact wpAny_getItem_list il h0 (by omega) (by rw [hj]; simpa using ew) ⟨x, H, I, rw', q⟩
  · have hj : (k + (its.toArray.size : Int)).toNat = j := by
      rw [seqIndex_neg (by omega) h4] at h1
      rw [List.size_toArray, ← hl]
      exact Option.some.inj h1
    exact wpAny_getItem_list_neg il (by omega) (by rw [List.size_toArray] <;> omega) (by omega) (by rw [hj]; simpa using ew) ⟨x, H, I, rw', q⟩
def dIAdd : D → D → Option D
  | .int i, .int j => some (.int (i + j))
  | _, _ => none
def dISub : D → D → Option D
  | .int i, .int j => some (.int (i - j))
  | _, _ => none
def IpS (K : Frg) (r : TIp) (g : D → D → Option D) : Prop := ∀ H x y d1 d2 d Q, Den K H x d1 → Den K H y d2 → g d1 d2 = some d → (∀ v, Den K H v d → Q v H) → r x y H Q
theorem is_iadd {K : Frg} : IpS K (ipI fun i j => i + j) dIAdd := fun H x y d1 d2 d Q e1 e2 e k => by
  unfold dIAdd at e
  split at e
  · cases e
    exact ⟨_, _, e1.of_int, e2.of_int, k _ (.int _)⟩
  · cases e
theorem is_isub {K : Frg} : IpS K (ipI fun i j => i - j) dISub := fun H x y d1 d2 d Q e1 e2 e k => by
  unfold dISub at e
  split at e
  · cases e
    exact ⟨_, _, e1.of_int, e2.of_int, k _ (.int _)⟩
  · cases e
theorem s_augL {op : Operator} {tip : TIp} {g : D → D → Option D} (hp : PIp X op tip) (hg : IpS X.K tip g) (h0 : PE X o (tVar i)) (hk : Ex X W .view true c mk) (hb : Ex X W .view true b mb)
    (ha : ∀ ov iv new, augStore c ov iv new = (do holding [new, ov, iv] (setItem ov iv new); release [new, ov, iv] []; pure .next) := by intros; rfl) :
    DS X W fx (.AugAssign (.Subscript o c tpos) op b pos) (mAugL g i mk mb) := by
  obtain ⟨ti, pi, k2⟩ := hk
  obtain ⟨tb, pb, k3⟩ := hb
  refine ⟨_, ps_augS h0 pi get_listL pb hp set_list ha, fun G H σ env Fp Dn S h => ?_⟩
  unfold mAugL mMeth at h
  have h := SPost.expr (pu := false) (Vr := VrT X.K) (R := fun _ H' => Dn.nx σ H') h fun t env1 v G1 H1 Fp1 Fr st1 S1 nd ap o h1 => h1 σ G1 H1 Fp1 (Step.refl.sub_end fun a m => List.mem_append_right _ m) Fix.refl S1
  obtain ⟨⟨v, hv, ty⟩, h⟩ := mBox_ok S h
  refine ⟨v, hv, k2 G H σ env Fp _ S ?_⟩
  cases r1 : mk env with
  | bad => unfold mAugA at h; rw [M.bind_bad (M.bind_bad r1)] at h; exact h
  | exn x e' => unfold mAugA at h; rw [M.bind_exn (M.bind_exn r1)] at h; exact h
  | ok d env1 =>
    intro iv G1 H1 Fp1 Fr1 st1 S1 nd1 ap1 pur1 w1
    obtain ⟨rfl, dv⟩ := w1
    obtain ⟨rfl, rfl, gw1⟩ := pur1 rfl
    unfold mAugA at h
    cases r2 : mGetI i d env1 with
    | bad => rw [M.bind_bad (by rw [M.bind_ok r1]; exact M.bind_bad r2)] at h; exact h.elim
    | exn x e' =>
      unfold mGetI at r2
      repeat (first | split at r2 | cases r2)
    | ok old env2 =>
      obtain ⟨t0, ts, k, j, t, e0, rfl, rfl, hj, ht, rfl, rfl⟩ : ∃ t0 ts k j t, env1[i]? = some (some t0) ∧ t0 = T.ol ts ∧ d = .int k ∧ ixN ts.length k = some j ∧ ts[j]? = some t ∧ old = t.er ∧ env2 = env1 := by
        unfold mGetI at r2
        split at r2
        · rename_i ts k e0
          split at r2
          · split at r2
            · cases r2; exact ⟨_, _, _, _, _, e0, rfl, rfl, by assumption, by assumption, rfl, rfl⟩
            · cases r2
          · cases r2
        · cases r2
      obtain ⟨v', F0, e2, ow, _⟩ := S1.sl.at e0
      rw [hv] at e2
      cases e2
      cases ow with
      | @ol a xs ts F1 hx hl =>
      cases dv.of_int
      obtain ⟨y, A, B, C, e1, rfl, oy, _⟩ := hl.split j ht
      refine ⟨a, xs, k, y, rfl, rfl, hx, ?_, ?_⟩
      · unfold atI
        rw [hl.len, hj]
        exact e1
      · have dy : Den X.K H1 y t.er := oy.den S1.le fun _ _ => rfl
        refine k3 G1 H1 σ env2 Fp1 _ S1 ?_
        cases r3 : mb env2 with
        | bad => rw [M.bind_bad (by rw [M.bind_ok r1, M.bind_ok r2]; exact M.bind_bad r3)] at h; exact h
        | exn x e' =>
          rw [M.bind_exn (by rw [M.bind_ok r1, M.bind_ok r2]; exact M.bind_exn r3)] at h
          exact fun cls dd G' H' Fp' st' S' q => h cls dd G' H' Fp' (gw1.step.trans st') S' q
        | ok z env3 =>
          intro zv G2 H2 Fp2 Fr2 st2 S2 nd2 ap2 pur2 w2
          obtain ⟨rfl, dz⟩ := w2
          obtain ⟨rfl, rfl, gw2⟩ := pur2 rfl
          cases q4 : g t.er z with
          | none =>
            rw [M.bind_bad (by rw [M.bind_ok r1, M.bind_ok r2, M.bind_ok r3]; exact M.bind_bad (by unfold M.lift; rw [q4]))] at h
            exact h.elim
          | some u =>
            refine hg H2 y zv t.er z u _ (dy.up (same_gle gw2.same)) dz q4 fun uv du => ?_
            have r5 : (mk.bind fun d => (mGetI i d).bind fun o => mb.bind fun y => (M.lift (g o y)).bind fun z => if flat d = true ∧ flat z = true then M.pure [T.fz d, T.fz z] else fun _ => .bad) env3 = (if flat (.int k) = true ∧ flat u = true then M.pure [T.fz (.int k), T.fz u] else fun _ => .bad) env3 := by
              rw [M.bind_ok r1, M.bind_ok r2, M.bind_ok r3]
              exact M.bind_ok (by unfold M.lift; rw [q4])
            by_cases hf : flat (.int k) = true ∧ flat u = true
            · rw [if_pos hf] at r5
              rw [M.bind_ok (by rw [r5]; rfl)] at h
              have z := meth_end (Q := fun _ H' => Dn.nx σ H') (vs := [.int k, uv]) (Fr := [] ++ ([] ++ [])) ms_setL hv (by simpa using (gw1.trans gw2).step (Fp := Fp2)) S2 (by simpa using S2.nd) (by simp) (.cons (.fz (.int k)) (.cons (.fz (Den.flat du hf.2 G2)) .nil)) h
              exact z
            · rw [if_neg hf] at r5
              rw [M.bind_bad (by rw [r5])] at h
              exact h.elim
/-! ### name op= e, by data -/
def mAugN (op : D → D → Option D) (i : Nat) (mb : M D) : M Fl := fun env => match env[i]? with
  | some (some (.fz d)) => (mb.bind fun y => (M.lift (op d y)).bind fun z env => .ok .nx (env.set i (some (.fz z)))) env
  | _ => .bad
theorem s_augN {op : Operator} {tip : TIp} {g : D → D → Option D} {x : Str} {px : Pos} (hp : PIp X op tip) (hg : IpS X.K tip g) (hN : X.N.Nodup) (hi : X.N[i]? = some x) (hx : Loc X.env.scope x) (hb : Ex X W .view true b mb)
    (hfl : Flat2 g) (hf : i ∉ fx := by decide) (hl : X.fn x = true ∨ X.env.scope.names.lookup x = some .local := by first | exact .inl rfl | exact .inr rfl | assumption) : DS X W fx (.AugAssign (.Name x px) op b pos) (mAugN g i mb) := by
  obtain ⟨tb, pb, k3⟩ := hb
  refine ⟨_, ps_aug hN hi hx pb hp hl, fun G H σ env Fp Dn S h => ?_⟩
  unfold mAugN at h
  split at h
  · rename_i d e0
    obtain ⟨v, F0, e2, ow, _⟩ := S.sl.at e0
    cases ow with
    | fz dv =>
    refine ⟨v, e2, k3 G H σ env Fp _ S ?_⟩
    cases r3 : mb env with
    | bad => rw [M.bind_bad r3] at h; exact h
    | exn x e' =>
      rw [M.bind_exn r3] at h
      exact fun cls dd G' H' Fp' st' S' q => h cls dd σ G' H' Fp' st' Fix.refl S' q
    | ok z env3 =>
      intro zv G2 H2 Fp2 Fr2 st2 S2 nd2 ap2 pur2 w2
      obtain ⟨rfl, dz⟩ := w2
      obtain ⟨rfl, rfl, gw2⟩ := pur2 rfl
      rw [M.bind_ok r3] at h
      cases q4 : g d z with
      | none => rw [M.bind_bad (by unfold M.lift; rw [q4])] at h; exact h.elim
      | some u =>
        rw [M.bind_ok (a := u) (env' := env3) (by unfold M.lift; rw [q4])] at h
        refine hg H2 v zv d z u _ ((dv.up S.le).up (same_gle gw2.same)) dz q4 fun uv du => ?_
        obtain ⟨F', S', sb⟩ := S2.put (v := uv) (t := .fz u) (Fr := []) (.fz (Den.flat du (hfl _ _ _ q4) G2)) (by simpa using S2.nd) (fun _ m => absurd m (by simp)) i
        exact h (σ.set i (some uv)) G2 H2 F' (gw2.step.sub_end fun a m => by simpa using sb a m) (Fix.set hf) S'
  · exact h.elim
theorem flat_iadd : Flat2 dIAdd := fun a b d h => by
  unfold dIAdd at h
  split at h <;> cases h
  rfl
theorem flat_isub : Flat2 dISub := fun a b d h => by
  unfold dISub at h
  split at h <;> cases h
  rfl
/-! ### a name moved out, a name frozen where it stands -/
def mOut (i : Nat) : M T := fun env => match env[i]? with
  | some (some t) => .ok t (env.set i none)
  | _ => .bad
theorem o_out (hp : PE X e (tVar i)) : Eo X W false e (mOut i) := by
  refine ⟨_, hp, fun G H σ env Fp Q S h => ?_⟩
  unfold mOut at h
  split at h
  · rename_i t e1
    obtain ⟨v, F0, F', e2, o, r, s0, s1, nd⟩ := S.sl.take e1
    exact ⟨v, e2, h v G H F' F0 (Step.refl.sub_end fun a m => (List.mem_append.mp m).elim (s0 a) (s1 a)) ⟨S.le, r, (List.nodup_append.mp (nd S.nd)).2.1, fun a m => S.ap a (s1 a m)⟩ (nd S.nd) (fun a m => S.ap a (s0 a m)) (fun z => nomatch z) o⟩
  · exact h.elim
def mVarZ (i : Nat) : M D := fun env => match env[i]? with
  | some (some t) => .ok t.er (env.set i (some (.fz t.er)))
  | _ => .bad
theorem ez_name (hp : PE X e (tVar i)) : Ex X W .frz false e (mVarZ i) := by
  refine ⟨_, hp, fun G H σ env Fp Q S h => ?_⟩
  unfold mVarZ at h
  split at h
  · rename_i t e1
    obtain ⟨v, F0, F', e2, o, r, s0, s1, nd⟩ := S.sl.take e1
    have sm : Same G (frzAt G H F0) := frz_same fun a m => S.ap a (s0 a m)
    have dn : Den X.K (frzAt G H F0) v t.er := o.den (same_gle sm) fun a m => frzAt_in m
    have nds := List.nodup_append.mp (nd S.nd)
    have ap' : ∀ a ∈ F', frzAt G H F0 a = none := fun a m => by rw [frzAt_out fun z => nds.2.2 a z a m rfl]; exact S.ap a (s1 a m)
    obtain ⟨F3, s3, k3, n3⟩ := (r.stay (G' := frzAt G H F0) (H' := H) (same_gle sm) fun _ _ => rfl).back (F0 := []) (.fz dn) e2
    rw [List.set_set] at s3
    have sub : ∀ a ∈ F3, a ∈ F' := fun a m => (k3 a m).elim (fun z => absurd z (by simp)) id
    refine ⟨v, e2, h v (frzAt G H F0) H F3 [] ⟨fun _ _ h _ => h, sm, fun a z => ?_, fun a m => .inr (s1 a (sub a (by simpa using m)))⟩ ⟨frz_le S.le, s3, n3 (by simpa using nds.2.1), fun a m => ap' a (sub a m)⟩ (by simpa using n3 (by simpa using nds.2.1)) (fun a m => absurd m (by simp)) (fun z => nomatch z) ⟨rfl, dn⟩⟩
    by_cases m : a ∈ F0
    · exact .inr (.inr (.inl (s0 a m)))
    · rw [frzAt_out m] at z; exact .inl z
  · exact h.elim
/-! ### reading + and slices, of lists that may be owned -/
def dCatV (a b : D) : Option D := (dCatL a b).map T.er
theorem x_addL (ha : Ex X W md pa a ma) (hb : Ex X W md pb b mb) (hm : md = .frz ∨ pb = true := by first | exact Or.inl rfl | exact Or.inr rfl) : Ex X W md (pa && pb) (.BinOp a .Add b pos) (m2 dCatV ma mb) :=
  ex2 (fun ta tb p q => pe_op op_catR p q) (OpO.frz oo_cat) ha hb hm
def mSlV (ma : M D) (ml mh : M (Option Int)) : M D := ma.bind fun d => ml.bind fun l => mh.bind fun h => M.lift ((dSl d l h).map T.er)
theorem x_slice {lo hi : Option Expr} {ml mh : M (Option Int)} {p2 : Pos} (ha : Ex X W md pa a ma) (hl : Eb X W lo ml) (hh : Eb X W hi mh) : Ex X W md pa (.Subscript a (.Slice lo hi none p2) pos) (mSlV ma ml mh) := by
  obtain ⟨ta, p1, k1⟩ := ha
  obtain ⟨tl, p2, k2⟩ := hl
  obtain ⟨th, p3, k3⟩ := hh
  refine ⟨_, pe_slice (sl_list.or (sl_tupA.or sl_str)) p1 p2 p3, fun G H σ env Fp Q S h => ?_⟩
  unfold mSlV at h
  refine k1 G H σ env Fp _ S (Post.bind (pu1 := pa) (pu2 := true) (by rw [Bool.and_true]; exact h) vrd_nil fun d env1 v G1 H1 Fp1 st1 S1 q w h1 => ?_)
  refine k2 G1 H1 σ env1 Fp1 _ S1 (Post.bind (pu1 := true) (pu2 := true) h1 (fun _ _ _ _ _ h => h.1) fun l env2 l' G2 H2 Fp2 st2 S2 q2 w2 h2 => ?_)
  refine k3 G2 H2 σ env2 Fp2 _ S2 (Post.bind (pu1 := true) (pu2 := true) h2 (fun _ _ _ _ _ h => h.1) fun h env3 h' G3 H3 Fp3 st3 S3 q3 w3 h3 => ?_)
  obtain ⟨_, rfl⟩ := w2
  obtain ⟨_, rfl⟩ := w3
  obtain ⟨t, e, kk⟩ := h3.lift0 S3
  cases qs : dSl d l' h' with
  | none => rw [qs] at e; cases e
  | some t0 =>
  rw [qs] at e
  cases e
  have up1 := gr_stay (K := X.K) (md := md) (pb := true) (.inr rfl) st2 q2
  have up2 := gr_stay (K := X.K) (md := md) (pb := true) (.inr rfl) st3 q3
  refine rel_sl (gr_le S3.le) (((vrd_gr.mp w).2.up up1).up up2) qs fun u G4 H4 F w4 o nd n => ?_
  obtain ⟨G5, w5, d5⟩ := own_frz w4 o n
  obtain ⟨G6, w6, l6⟩ := grow_gr (K := X.K) S3.le w5
  exact kk u G6 H4 w6 (vrd_gr.mpr ⟨rfl, d5.up l6⟩)
end
end DL

/-! The data layer, part O: what every def's body is handed, lengths of arguments. -/
namespace DL
open PySem L2 PyProof.Rows
theorem GR.units {k : Nat} {A : Around} (r : GR k A) : A.units + 200 < cLine := by have := r.rm.un; omega
theorem hu7_of {k : Nat} {A : Around} (r : GR k A) : A.units + 70 < cLine := by have := r.units; omega
theorem hu4_of {k : Nat} {A : Around} (r : GR k A) : A.units + 64 < cLine := by have := r.units; omega
theorem hu5_of {k : Nat} {A : Around} (r : GR k A) : A.units + 65 < cLine := by have := r.units; omega
theorem hu1_of {k : Nat} {A : Around} (r : GR k A) : A.units + 1 < cLine := by have := r.units; omega
section
variable {P : Program} {w : World} {K : Frg} {mg : Str → Option Value} {base : Heap} {N : List Str} {qual : Str} {sc : Scope}
theorem tk_of (f : Addr) (cdv : Value) (A : Around) (outer : List PySem.Env) (s : Shared) (H : Hp) (E : XK) : Takes (cxOf (L2.CX P w) P w K mg base N qual sc f cdv A outer s H E) (fun cls d _ H => E cls d H) := takes_of rfl rfl rfl rfl
theorem ps_of (f : Addr) (cdv : Value) (A : Around) (outer : List PySem.Env) (s : Shared) (H : Hp) (E : XK) :
    let X := cxOf (L2.CX P w) P w K mg base N qual sc f cdv A outer s H E
    PassesOwn (model X.prog X.w) X.A X.env X.xe := passes_of rfl
end
theorem takes0 {X : Cx} : Takes X W0 := fun u s' ⟨_, _, _, _, _, _, _, _, _, _, _, _, _, _, _, _, w⟩ => w.elim
theorem ln_nil : ∀ env ds env', mNil env = .ok ds env' → ds.length = 0 := fun env ds env' h => by
  unfold mNil M.pure at h
  cases h
  rfl
theorem ln_cons {ma : M D} {ms : M (List D)} {n : Nat} (h : ∀ env ds env', ms env = .ok ds env' → ds.length = n) : ∀ env ds env', mCons ma ms env = .ok ds env' → ds.length = n + 1 := fun env ds env' e => by
  unfold mCons at e
  cases r : ma env with
  | bad => rw [M.bind_bad r] at e; cases e
  | exn x e' => rw [M.bind_exn r] at e; cases e
  | ok d env1 =>
    rw [M.bind_ok r] at e
    cases r2 : ms env1 with
    | bad => rw [M.bind_bad r2] at e; cases e
    | exn x e' => rw [M.bind_exn r2] at e; cases e
    | ok ds2 env2 =>
      rw [M.bind_ok r2] at e
      unfold M.pure at e
      cases e
      rw [List.length_cons, h _ _ _ r2]
theorem others_no {n i : Nat} {vs : List Nat} (h : i ∈ vs) : i ∉ others n vs := fun m => by
  have := (List.mem_filter.mp m).2
  simp [List.contains_iff_mem, h] at this
end DL

/-! The data layer, part P: repr of data, == of data that is the same. -/
namespace DL
open PySem L2 PyProof.Rows

section
variable {X : Cx} {pins : List (Addr × Obj)} {σ : L2.St} {H : Hp} {s : Shared}
/-- the value u stands for d: readable, and its text is d's -/
def Txd (P : Program) (w : World) (h : Heap) (u : Value) (d : D) : Prop := ∃ as bs, Reads h u d as ∧ ReadAtMost h d.depth bs ∧ ReprK P w bs h d.depth u d.shown
def TxdL (P : Program) (w : World) (h : Heap) (us : List Value) (ds : List D) : Prop := ∃ as bs, ReadsAll h us ds as ∧ ReadAtMost h (PyData.depthAll ds) bs ∧ ReprAllK P w bs h (PyData.depthAll ds) us (PyData.shownAll ds)
theorem txd_key {P : Program} {w : World} {h : Heap} {k : Key} {u : Value} (hk : (mixKind P w).is k u = true) (hs : (keyD k).showable = true) (hz : (keyD k).shown.length ≤ sizeLine) : Txd P w h u (keyD k) := by
  rcases keyIs_shape (show keyIs k u = true from hk) with ⟨i, t, rfl, rfl⟩ | ⟨x, t, rfl, rfl⟩
  · exact ⟨[], [], .int i t, (fun _ m => nomatch m), by show ReprK P w [] h (PyData.int i).depth _ (PyData.int i).shown; simp only [PyData.shown]; exact .of_is (ReprIs.int t (by simpa [keyD, PyData.showable] using hs)) _ _ _⟩
  · exact ⟨[], [], .str x t, (fun _ m => nomatch m), by show ReprK P w [] h (PyData.str x).depth _ (PyData.str x).shown; simp only [PyData.shown]; exact .of_is (ReprIs.str x t (by simpa only [keyD, PyData.shown] using hz)) _ _ _⟩
theorem TxdL.cons {P : Program} {w : World} {h : Heap} {u : Value} {us : List Value} {d : D} {ds : List D} (a : Txd P w h u d) (b : TxdL P w h us ds) : TxdL P w h (u :: us) (d :: ds) := by
  obtain ⟨a1, b1, r1, m1, k1⟩ := a
  obtain ⟨a2, b2, r2, m2, k2⟩ := b
  refine ⟨_, b1 ++ b2, .cons r1 r2, fun b hm => ?_, ?_⟩
  · simp only [PyData.depthAll]
    rcases List.mem_append.mp hm with hm | hm
    · obtain ⟨d', as', r', l⟩ := m1 b hm
      exact ⟨d', as', r', Nat.le_trans l (Nat.le_max_left _ _)⟩
    · obtain ⟨d', as', r', l⟩ := m2 b hm
      exact ⟨d', as', r', Nat.le_trans l (Nat.le_max_right _ _)⟩
  · simp only [PyData.depthAll, PyData.shownAll]
    exact .cons ((k1.more fun b hb => List.mem_append_left _ hb).level_le (Nat.le_max_left _ _)) (k2.more_le (fun b hb => List.mem_append_right _ hb) (Nat.le_max_right _ _))
theorem TxdL.nil {P : Program} {w : World} {h : Heap} : TxdL P w h [] [] := ⟨[], [], .nil, (fun _ m => nomatch m), by simp only [PyData.shownAll]; exact .nil⟩
theorem txd_tup {P : Program} {w : World} {h : Heap} {a : Addr} {o : Obj} {its : Array Value} {n : Nat} {ds : List D} (h1 : h.get? a = some o) (h2 : o.cls = .type "tuple") (h3 : o.data = .seq its n) (l : TxdL P w h its.toList ds) : Txd P w h (.ref a) (.tuple ds) := by
  obtain ⟨as, bs, r, m, k⟩ := l
  have r0 : Reads h (.ref a) (.tuple ds) _ := .tuple h1 h2 h3 r
  refine ⟨_, a :: bs, r0, ReadAtMost.cons r0 (by simp only [PyData.depth]; omega) m, ?_⟩
  simp only [PyData.depth, PyData.shown]
  exact ReprK.tuple h1 h2 h3 (not_mem_of_deeper r0 (by simp only [PyData.depth]; omega) m) k
theorem txd_lst {P : Program} {w : World} {h : Heap} {a : Addr} {o : Obj} {its : List Value} {n : Nat} {ds : List D} (h1 : h.get? a = some o) (h2 : o.cls = .type "list") (h3 : o.data = .seq its.toArray n) (l : TxdL P w h its ds) : Txd P w h (.ref a) (.list ds) := by
  obtain ⟨as, bs, r, m, k⟩ := l
  have r0 : Reads h (.ref a) (.list ds) _ := .list h1 h2 h3 r
  refine ⟨_, a :: bs, r0, ReadAtMost.cons r0 (by simp only [PyData.depth]; omega) m, ?_⟩
  simp only [PyData.depth, PyData.shown]
  cases its with
  | nil =>
    cases r
    simp only [PyData.shownAll, listText_nil]
    exact ReprK.listEmpty h1 h2 h3
  | cons x l => exact ReprK.list h1 h2 h3 (not_mem_of_deeper r0 (by simp only [PyData.depth]; omega) m) (by simpa using k.length_eq) fun i y e => k.item i y (by simpa using e)
theorem txd_dict {P : Program} {w : World} {h : Heap} {a : Addr} {o : Obj} {es : Array DictEntry} {n : Nat} {kvs : List (D × D)} (h1 : h.get? a = some o) (h2 : o.cls = .type "dict") (h3 : o.data = .dict es n) (hsys : (a == sysModules) = false)
    (lk : TxdL P w h (es.toList.map (·.key)) (kvs.map (·.1))) (lv : TxdL P w h (es.toList.map (·.val)) (kvs.map (·.2))) : Txd P w h (.ref a) (.dict kvs) := by
  obtain ⟨a1, b1, r1, m1, k1⟩ := lk
  obtain ⟨a2, b2, r2, m2, k2⟩ := lv
  have r0 : Reads h (.ref a) (.dict kvs) _ := .dict h1 h2 h3 r1 r2
  have hb : ReadAtMost h (PyData.depthKv kvs) (b1 ++ b2) := (m1.mono (PyData.depthAll_keys_le kvs)).append (m2.mono (PyData.depthAll_vals_le kvs))
  refine ⟨_, a :: (b1 ++ b2), r0, ReadAtMost.cons r0 (by simp only [PyData.depth]; omega) hb, ?_⟩
  simp only [PyData.depth, PyData.shown, PyData.shownKv_eq]
  exact ReprK.dict h1 h2 h3 hsys (not_mem_of_deeper r0 (by simp only [PyData.depth]; omega) hb) (ReprEntriesK.of_two es.toList _ _ (k1.more_le (fun b hb => List.mem_append_left _ hb) (PyData.depthAll_keys_le kvs)) (k2.more_le (fun b hb => List.mem_append_right _ hb) (PyData.depthAll_vals_le kvs)))
/-- what may be shown -/
def shw (d : D) : Prop := d.showable = true ∧ d.shown.length ≤ sizeLine
theorem shwL_all {ds : List D} : PyData.showableAll ds = true → (∀ t ∈ PyData.shownAll ds, t.length ≤ sizeLine) → ∀ d ∈ ds, shw d := fun h z => by
  induction ds with
  | nil => intro d m; exact absurd m (by simp)
  | cons x r ih =>
    simp only [PyData.showableAll, Bool.and_eq_true] at h
    simp only [PyData.shownAll, List.mem_cons, forall_eq_or_imp] at z
    intro d m
    rcases List.mem_cons.mp m with e | m
    · subst e; exact ⟨h.1, z.1⟩
    · exact ih h.2 z.2 d m
theorem shw_lst {ds : List D} (h : shw (.list ds)) : ∀ d ∈ ds, shw d := shwL_all (by simpa [PyData.showable] using h.1) fun t m => Nat.le_trans (listText_mem_le m) (by simpa only [PyData.shown] using h.2)
theorem shw_tup {ds : List D} (h : shw (.tuple ds)) : ∀ d ∈ ds, shw d := shwL_all (by simpa [PyData.showable] using h.1) fun t m => Nat.le_trans (tupleText_mem_le m) (by simpa only [PyData.shown] using h.2)
theorem shw_dict {kvs : List (D × D)} (h : shw (.dict kvs)) : (∀ d ∈ kvs.map (·.1), shw d) ∧ ∀ d ∈ kvs.map (·.2), shw d := by
  obtain ⟨h1, h2⟩ := PyData.showableKv_split kvs (by simpa [PyData.showable] using h.1)
  have hz : (dictText (PyData.shownKv kvs)).length ≤ sizeLine := by simpa only [PyData.shown] using h.2
  exact ⟨shwL_all h1 fun t ht => let ⟨p, hp, hl⟩ := PyData.shownKv_key_le kvs t ht; Nat.le_trans hl (Nat.le_trans (dictText_mem_le hp) hz), shwL_all h2 fun t ht => let ⟨p, hp, hl⟩ := PyData.shownKv_val_le kvs t ht; Nat.le_trans hl (Nat.le_trans (dictText_mem_le hp) hz)⟩
theorem txd_items {P : Program} {w : World} {h : Heap} : ∀ {ks : List Key} {us : List Value}, ItemsAre (mixKind P w) ks us → (∀ d ∈ ks.map keyD, shw d) → TxdL P w h us (ks.map keyD)
  | _, _, .nil, _ => .nil
  | _, _, .cons a r, hs => .cons (txd_key a (hs _ (by simp)).1 (hs _ (by simp)).2) (txd_items r fun d m => hs d (List.mem_cons_of_mem _ m))
theorem denK_keys {K : Frg} {G : Hp} : ∀ {ks : List (Key × V)} {kvs : List (D × D)}, DenK K G ks kvs → kvs.map (·.1) = ks.map fun p => keyD p.1
  | _, _, .nil => rfl
  | _, _, .cons _ t => by simp [denK_keys t]
theorem denT_keys {K : Frg} {G : Hp} : ∀ {ks : List (List Key × V)} {kvs : List (D × D)}, DenT K G ks kvs → kvs.map (·.1) = ks.map fun p => .tuple (p.1.map keyD)
  | _, _, .nil => rfl
  | _, _, .cons _ t => by simp [denT_keys t]
mutual
theorem Den.txd (I : Inv X pins σ H s) : ∀ {v : V} {d : D}, Den X.K H v d → ∀ {u : Value}, RelV v u → shw d → Txd X.prog X.w s.heap u d
  | _, _, .non, u, r, hs => by
    cases r
    exact ⟨[], [], .none, (fun _ m => nomatch m), by simp only [PyData.shown]; exact .of_is ReprIs.none _ _ _⟩
  | _, _, .bl b, u, r, hs => by
    cases r
    exact ⟨[], [], .bool b, (fun _ m => nomatch m), by simp only [PyData.shown]; exact .of_is (ReprIs.bool b) _ _ _⟩
  | _, _, .int i, u, r, hs => by
    obtain ⟨t, rfl⟩ := r
    exact ⟨[], [], .int i t, (fun _ m => nomatch m), by simp only [PyData.shown]; exact .of_is (ReprIs.int t (by simpa [PyData.showable] using hs.1)) _ _ _⟩
  | _, _, .str x, u, r, hs => by
    obtain ⟨t, rfl⟩ := r
    exact ⟨[], [], .str x t, (fun _ m => nomatch m), by simp only [PyData.shown]; exact .of_is (ReprIs.str x t (by simpa only [PyData.shown] using hs.2)) _ _ _⟩
  | _, _, .lst s1 l, u, r, hs => by
    cases r
    obtain ⟨its, rv, ⟨o, n, ho, hc, _, hd⟩, _⟩ := I.list s1.l
    exact txd_lst ho hc hd (l.txd I rv (shw_lst hs))
  | _, _, .tup s1 l, u, r, hs => by
    cases r
    obtain ⟨its, rv, ⟨o, ho, hc, n, hd⟩, _⟩ := I.tuple s1
    exact txd_tup ho hc hd (by simpa using l.txd I rv (shw_tup hs))
  | _, _, .dk s1 l, u, r, hs => by
    cases r
    obtain ⟨_, hsys, vs, rel, o, es, ep, ho, hc, hd, _, pr, _⟩ := dk_rd I.hok s1
    obtain ⟨hk, hv⟩ := shw_dict hs
    obtain ⟨a, b⟩ := l.txd I rel pr hk hv
    exact txd_dict ho hc.1 hd hsys a b
  | _, _, .dt s1 l, u, r, hs => by
    cases r
    obtain ⟨_, hsys, xs, rel, o, es, ep, ho, hc, hd, he, hi, _⟩ := dt_rd I.hok s1
    obtain ⟨hk, hv⟩ := shw_dict hs
    obtain ⟨a, b⟩ := l.txd I rel hi hk hv
    refine txd_dict ho hc.1 hd hsys ?_ ?_
    · rw [he, List.map_map]; exact a
    · rw [he, List.map_map]; exact b
theorem DenL.txd (I : Inv X pins σ H s) : ∀ {vs : List V} {ds : List D}, DenL X.K H vs ds → ∀ {us : List Value}, Vals vs us → (∀ d ∈ ds, shw d) → TxdL X.prog X.w s.heap us ds
  | _, _, .nil, us, r, hs => by cases r; exact .nil
  | _, _, .cons h t, us, r, hs => by
    cases r with
    | cons a b => exact .cons (h.txd I a (hs _ List.mem_cons_self)) (t.txd I b fun d m => hs d (List.mem_cons_of_mem _ m))
theorem DenK.txd (I : Inv X pins σ H s) : ∀ {ks : List (Key × V)} {kvs : List (D × D)}, DenK X.K H ks kvs → ∀ {vs : List (Key × Value)} {es : List DictEntry}, KV ks vs → Pairs (mixKind X.prog X.w) es vs → (∀ d ∈ kvs.map (·.1), shw d) → (∀ d ∈ kvs.map (·.2), shw d) →
    TxdL X.prog X.w s.heap (es.map (·.key)) (kvs.map (·.1)) ∧ TxdL X.prog X.w s.heap (es.map (·.val)) (kvs.map (·.2))
  | _, _, .nil, vs, es, rel, pr, hk, hv => by
    cases rel
    cases pr
    exact ⟨.nil, .nil⟩
  | _, _, .cons h t, vs, es, rel, pr, hk, hv => by
    cases rel with
    | cons a b =>
      cases pr with
      | cons p1 p2 pr =>
        obtain ⟨z1, z2⟩ := t.txd I b pr (fun d m => hk d (List.mem_cons_of_mem _ m)) fun d m => hv d (List.mem_cons_of_mem _ m)
        have k1 := hk _ List.mem_cons_self
        exact ⟨.cons (txd_key (by have z := p1; rw [← a.1] at z; exact z) k1.1 k1.2) z1, .cons (h.txd I (by have z := a.2; rw [← p2] at z; exact z) (hv _ List.mem_cons_self)) z2⟩
theorem DenT.txd (I : Inv X pins σ H s) : ∀ {ks : List (List Key × V)} {kvs : List (D × D)}, DenT X.K H ks kvs → ∀ {xs : List (List Key × Addr × Value)}, KT H ks xs → (∀ x ∈ xs, (tupleKind (mixKind X.prog X.w)).is s.heap x.1 x.2.1) → (∀ d ∈ kvs.map (·.1), shw d) → (∀ d ∈ kvs.map (·.2), shw d) →
    TxdL X.prog X.w s.heap (xs.map ((·.key) ∘ entryOfKey (tupleKind (mixKind X.prog X.w)))) (kvs.map (·.1)) ∧ TxdL X.prog X.w s.heap (xs.map ((·.val) ∘ entryOfKey (tupleKind (mixKind X.prog X.w)))) (kvs.map (·.2))
  | _, _, .nil, xs, rel, hi, hk, hv => by
    cases rel
    exact ⟨.nil, .nil⟩
  | _, _, .cons h t, xs, rel, hi, hk, hv => by
    cases rel with
    | @cons p q ps qs a b =>
      obtain ⟨z1, z2⟩ := t.txd I b (fun x m => hi x (List.mem_cons_of_mem _ m)) (fun d m => hk d (List.mem_cons_of_mem _ m)) fun d m => hv d (List.mem_cons_of_mem _ m)
      have k1 := hk _ List.mem_cons_self
      obtain ⟨o, items, n, h1, h2, h3, h4⟩ := hi _ List.mem_cons_self
      rw [← a.1] at h4
      exact ⟨.cons (txd_tup h1 h2 h3 (txd_items h4 (shw_tup k1))) z1, .cons (h.txd I a.2.2 (hv _ List.mem_cons_self)) z2⟩
end
theorem call_reprD (I : Inv X pins σ H s) {v : V} {u : Value} {d : D} (dv : Den X.K H v d) (rv : RelV v u) (hs : shw d) (hg : X.A.guards = some []) (hu : X.A.units + (d.depth + 1) < cLine) {E Q : Value → Shared → Prop}
    (q : ∀ h' t tk, (∀ b o, s.heap.get? b = some o → h'.get? b = some o) → Q (.str d.shown t) { s with heap := h', toks := tk }) : wpAny (model X.prog X.w) X.A (call (.builtin "repr") [u]) Q E s := by
  cases dv with
  | non => cases rv; exact P.repr_of_none (by simpa only [PyData.shown] using q s.heap _ _ fun _ _ e => e)
  | bl b => cases rv; exact P.repr_of_bool (by simpa only [PyData.shown] using q s.heap _ _ fun _ _ e => e)
  | int i =>
    obtain ⟨t, rfl⟩ := rv
    exact P.repr_of_int (by simpa [PyData.showable] using hs.1) (by simpa only [PyData.shown] using q s.heap _ _ fun _ _ e => e)
  | str x =>
    obtain ⟨t, rfl⟩ := rv
    exact P.repr_of_str (by simpa only [PyData.shown] using q s.heap _ _ fun _ _ e => e) (by simpa only [PyData.shown] using hs.2)
  | @lst a vs ds s1 l =>
    cases rv
    obtain ⟨its, rv, ⟨o, n, ho, hc, _, hd⟩, _⟩ := I.list s1.l
    obtain ⟨as, bs, r, m, k⟩ := l.txd I rv (shw_lst hs)
    have r0 : Reads s.heap (.ref a) (.list ds) _ := .list ho hc hd r
    have na := not_mem_of_deeper r0 (by simp only [PyData.depth]; omega) m
    have hz : (listText (PyData.shownAll ds)).length ≤ sizeLine := by simpa only [PyData.shown] using hs.2
    simp only [PyData.depth] at hu
    simp only [PyData.shown] at q
    refine call_repr_slot (by omega) ⟨o, ho, hc⟩ F.slot_list_repr.toG ?_
    cases its with
    | nil =>
      cases r
      simp only [PyData.shownAll, listText_nil] at q
      exact call_list_repr_empty ⟨o, ho, hc⟩ ho hd ⟨_, _, rfl, q s.heap _ _ fun _ _ e => e⟩
    | cons x l' => exact call_list_reprK ho hc hd na (by simpa using k.length_eq) (fun i y e => k.item i y (by simpa using e)) hg (fun b _ => Clear.nil b) (by show X.A.units + 1 + _ < _; omega) (fun _ _ e => e) (fun h' t tk hk => ⟨_, _, rfl, q h' t tk hk⟩) hz
  | @tup a vs ds s1 l =>
    cases rv
    obtain ⟨its, rv, ⟨o, ho, hc, n, hd⟩, _⟩ := I.tuple s1
    obtain ⟨as, bs, r, m, k⟩ := l.txd I rv (shw_tup hs)
    have r0 : Reads s.heap (.ref a) (.tuple ds) _ := .tuple ho hc hd (by simpa using r)
    have na := not_mem_of_deeper r0 (by simp only [PyData.depth]; omega) m
    have hz : (tupleText (PyData.shownAll ds)).length ≤ sizeLine := by simpa only [PyData.shown] using hs.2
    simp only [PyData.depth] at hu
    simp only [PyData.shown] at q
    exact call_repr_slot (by omega) ⟨o, ho, hc⟩ F.slot_tuple_repr (call_tuple_reprK ho hc hd na (by simpa using k) hg (fun b _ => Clear.nil b) (by show X.A.units + 1 + _ < _; omega) (fun _ _ e => e) (fun h' t tk hk => ⟨_, _, rfl, q h' t tk hk⟩) hz)
  | @dk a ks kvs s1 l =>
    cases rv
    obtain ⟨_, hsys, vs, rel, o, es, ep, ho, hc, hd, _, pr, _⟩ := dk_rd I.hok s1
    obtain ⟨hk, hv⟩ := shw_dict hs
    obtain ⟨⟨a1, b1, r1, m1, k1⟩, a2, b2, r2, m2, k2⟩ := l.txd I rel pr hk hv
    have r0 : Reads s.heap (.ref a) (.dict kvs) _ := .dict ho hc.1 hd r1 r2
    have hb : ReadAtMost s.heap (PyData.depthKv kvs) (b1 ++ b2) := (m1.mono (PyData.depthAll_keys_le kvs)).append (m2.mono (PyData.depthAll_vals_le kvs))
    have na := not_mem_of_deeper r0 (by simp only [PyData.depth]; omega) hb
    have hz : (dictText (PyData.shownKv kvs)).length ≤ sizeLine := by simpa only [PyData.shown] using hs.2
    simp only [PyData.depth] at hu
    simp only [PyData.shown, PyData.shownKv_eq] at q
    rw [PyData.shownKv_eq] at hz
    refine call_repr_slot (by omega) ⟨o, ho, hc.1⟩ F.slot_dict_repr (call_dict_reprK ho hc.1 hd hsys na (ReprEntriesK.of_two es.toList _ _ (k1.more_le (fun b hb => List.mem_append_left _ hb) (PyData.depthAll_keys_le kvs)) (k2.more_le (fun b hb => List.mem_append_right _ hb) (PyData.depthAll_vals_le kvs))) hg (fun b _ => Clear.nil b) (by show X.A.units + 1 + _ < _; omega) (fun _ _ e => e) (fun h' t tk hk => ⟨_, _, rfl, q h' t tk hk⟩) hz)
  | @dt a ks kvs s1 l =>
    cases rv
    obtain ⟨_, hsys, xs, rel, o, es, ep, ho, hc, hd, he, hi, _⟩ := dt_rd I.hok s1
    obtain ⟨hk, hv⟩ := shw_dict hs
    obtain ⟨⟨a1, b1, r1, m1, k1⟩, a2, b2, r2, m2, k2⟩ := l.txd I rel hi hk hv
    rw [← List.map_map, ← he] at r1 r2 k1 k2
    have r0 : Reads s.heap (.ref a) (.dict kvs) _ := .dict ho hc.1 hd r1 r2
    have hb : ReadAtMost s.heap (PyData.depthKv kvs) (b1 ++ b2) := (m1.mono (PyData.depthAll_keys_le kvs)).append (m2.mono (PyData.depthAll_vals_le kvs))
    have na := not_mem_of_deeper r0 (by simp only [PyData.depth]; omega) hb
    have hz : (dictText (PyData.shownKv kvs)).length ≤ sizeLine := by simpa only [PyData.shown] using hs.2
    simp only [PyData.depth] at hu
    simp only [PyData.shown, PyData.shownKv_eq] at q
    rw [PyData.shownKv_eq] at hz
    refine call_repr_slot (by omega) ⟨o, ho, hc.1⟩ F.slot_dict_repr (call_dict_reprK ho hc.1 hd hsys na (ReprEntriesK.of_two es.toList _ _ (k1.more_le (fun b hb => List.mem_append_left _ hb) (PyData.depthAll_keys_le kvs)) (k2.more_le (fun b hb => List.mem_append_right _ hb) (PyData.depthAll_vals_le kvs))) hg (fun b _ => Clear.nil b) (by show X.A.units + 1 + _ < _; omega) (fun _ _ e => e) (fun h' t tk hk => ⟨_, _, rfl, q h' t tk hk⟩) hz)
open Classical in
noncomputable def dRepr : List D → Option D
  | [d] => if shw d ∧ d.depth ≤ 60 then some (.str d.shown) else none
  | _ => none
def rReprD (K : Frg) : List V → Hp → VK → Prop := fun xs H Q => ∃ v d, xs = [v] ∧ Den K H v d ∧ shw d ∧ d.depth ≤ 60 ∧ Q (.str d.shown) H
theorem cr_repr (hg : X.A.guards = some []) (hu : X.A.units + 70 < cLine) : CallR X (.builtin "repr") (rReprD X.K) := by
  intro pins s σ H xs us Q I r h
  obtain ⟨v, d, rfl, dv, hs, hd, q⟩ := h
  obtain ⟨u, rfl, ru⟩ := vals1 r
  exact call_reprD I dv ru hs hg (by omega) fun h' t tk hk => ⟨.str d.shown, H, I.kept (t' := tk) hk, ⟨t, rfl⟩, q⟩
theorem cs_repr {K : Frg} : CaS K (rReprD K) dRepr := fun G H xs ds d Q gl e1 e k => by
  unfold dRepr at e
  split at e
  · split at e
    · rename_i hc
      cases e
      obtain ⟨v, rfl, dv⟩ := e1.one
      exact ⟨v, _, rfl, dv.up gl, hc.1, hc.2, k _ G H (Grow.refl gl) (.str _)⟩
    · cases e
  · cases e
end
section
variable {X : Cx} {W : WX} {md : Md} {pa : Bool} {a : Expr} {ms : M (List D)} {p pos : Pos}
theorem b_repr (hu : X.A.units + 70 < cLine) (hgd : X.A.guards = some []) (hg : Gl X "repr") (hm : X.mg "repr" = none) (ha : Ea X W md pa [a] ms) (he : starEach [a] X.env = (false, eval a X.env) :: starEach [] X.env := by rfl) (hpl : (backTo pos (starEach [] X.env)).any (·.1) = false := by rfl) : Ex X W .frz pa (.Call (.Name "repr" p) [a] [] pos) (mL dRepr ms) :=
  xb_s (cr_repr hgd hu) cs_repr (fl1 fun a d h => by
    unfold dRepr at h
    split at h
    · split at h
      · cases h; exact .inr (.inr ⟨_, rfl⟩)
      · cases h
    · cases h) hg hm (by decide +kernel) ha (by decide) (by decide) he hpl
end
end DL

/-! The data layer, part Q: == of data that is the same, dicts within. -/
namespace DL
open PySem L2 PyProof.Rows

mutual
/-- no dict whose keys are tuples -/
def nodt : D → Bool
  | .none | .bool _ | .int _ | .str _ => true
  | .list ds => nodtL ds
  | .tuple ds => nodtL ds
  | .dict kvs => nodtK kvs
def nodtL : List D → Bool
  | [] => true
  | d :: r => nodt d && nodtL r
def nodtK : List (D × D) → Bool
  | [] => true
  | (.int _, d) :: r => nodt d && nodtK r
  | (.str _, d) :: r => nodt d && nodtK r
  | _ => false
end
theorem nodtL_mem : ∀ {ds : List D}, nodtL ds = true → ∀ d ∈ ds, nodt d = true
  | [], _, d, m => absurd m (by simp)
  | x :: r, h, d, m => by
    simp only [nodtL, Bool.and_eq_true] at h
    rcases List.mem_cons.mp m with e | m
    · subst e; exact h.1
    · exact nodtL_mem h.2 d m
theorem depthL_mem : ∀ {ds : List D} {n : Nat}, PyData.depthAll ds ≤ n → ∀ d ∈ ds, d.depth ≤ n
  | [], _, _, d, m => absurd m (by simp)
  | x :: r, n, h, d, m => by
    simp only [PyData.depthAll] at h
    rcases List.mem_cons.mp m with e | m
    · subst e; omega
    · exact depthL_mem (by omega) d m
theorem nodtK_mem : ∀ {kvs : List (D × D)}, nodtK kvs = true → ∀ p ∈ kvs, nodt p.2 = true
  | [], _, p, m => absurd m (by simp)
  | (k, x) :: r, h, p, m => by
    cases k with
    | int i =>
      simp only [nodtK, Bool.and_eq_true] at h
      rcases List.mem_cons.mp m with e | m
      · subst e; exact h.1
      · exact nodtK_mem h.2 p m
    | str i =>
      simp only [nodtK, Bool.and_eq_true] at h
      rcases List.mem_cons.mp m with e | m
      · subst e; exact h.1
      · exact nodtK_mem h.2 p m
    | _ => simp [nodtK] at h
theorem depthK_mem : ∀ {kvs : List (D × D)} {n : Nat}, PyData.depthKv kvs ≤ n → ∀ p ∈ kvs, p.2.depth ≤ n
  | [], _, _, p, m => absurd m (by simp)
  | (k, x) :: r, n, h, p, m => by
    simp only [PyData.depthKv] at h
    rcases List.mem_cons.mp m with e | m
    · subst e; show PyData.depth x ≤ n; omega
    · exact depthK_mem (by omega) p m
theorem keyD_inj {a b : Key} (h : keyD a = keyD b) : a = b := by
  cases a <;> cases b <;> simp [keyD] at h <;> rw [h]
section
variable {K : Frg} {G : Hp}
theorem DenK.len : ∀ {ks : List (Key × V)} {kvs : List (D × D)}, DenK K G ks kvs → ks.length = kvs.length
  | _, _, .nil => rfl
  | _, _, .cons _ t => congrArg (· + 1) t.len
theorem denK_both : ∀ {ks ls : List (Key × V)} {kvs : List (D × D)}, DenK K G ks kvs → DenK K G ls kvs → (ls.map (·.1)).Nodup → ∀ p ∈ ks, ∃ u q, valV ls p.1 = some u ∧ q ∈ kvs ∧ Den K G p.2 q.2 ∧ Den K G u q.2
  | _, _, _, .nil, _, _, p, m => absurd m (by simp)
  | _, ls0, _, .cons (k := k) (v := v) h t, h2, nd, p, m => by
    generalize hx : (keyD k, _) = kv at h2
    cases h2 with
    | @cons k' v' ls d' kvs' h' t' =>
      have e1 : k = k' := keyD_inj (Prod.mk.inj hx).1
      have e2 := (Prod.mk.inj hx).2
      subst e1 e2
      rw [List.map_cons, List.nodup_cons] at nd
      rcases List.mem_cons.mp m with e | m
      · subst e
        exact ⟨v', _, valV_pos rfl, List.mem_cons_self, h, h'⟩
      · obtain ⟨u, q, e1, e2, e3, e4⟩ := denK_both t t' nd.2 p m
        refine ⟨u, q, ?_, List.mem_cons_of_mem _ e2, e3, e4⟩
        rw [valV_neg (fun z => nd.1 ?_)]
        · exact e1
        · have z' : k = p.1 := z
          rw [z']
          have : (valV ls p.1).isSome = true := by rw [e1]; rfl
          rw [← valV_any, List.any_eq_true] at this
          obtain ⟨y, hy, hd⟩ := this
          exact List.mem_map.mpr ⟨y, hy, by simpa using hd⟩
end
section
variable {X : Cx} {pins : List (Addr × Obj)} {σ : L2.St} {H : Hp} {s : Shared}
theorem kv_keys {ks : List (Key × V)} {vs : List (Key × Value)} (r : KV ks vs) : ks.map (·.1) = vs.map (·.1) := by
  unfold KV at r
  induction r with
  | nil => rfl
  | cons a _ ih => rw [List.map_cons, List.map_cons, ih, a.1]
/-- the pairs of a dict of ints and texts, or an empty one -/
theorem den_dict (I : Inv X pins σ H s) {v : V} {kvs : List (D × D)} (h : Den X.K H v (.dict kvs)) (n : nodtK kvs = true) : ∃ a ks vs, v = .ref a ∧ DenK X.K H ks kvs ∧ KV ks vs ∧ (a == sysModules) = false ∧ s.heap.DictOf (mixKind X.prog X.w) a vs ∧ (ks.map (·.1)).Nodup := by
  cases h with
  | dk s1 l =>
    obtain ⟨_, hsys, vs, rel, dd⟩ := dk_rd I.hok s1
    have nd : (vs.map (·.1)).Nodup := let ⟨_, _, _, _, _, _, _, _, nd⟩ := dd; nd
    exact ⟨_, _, vs, rfl, l, rel, hsys, dd, by rw [kv_keys rel]; exact nd⟩
  | dt s1 l =>
    obtain ⟨_, hsys, xs, rel, o, es, ep, ho, hc, hd, he, hi, _⟩ := dt_rd I.hok s1
    cases l with
    | nil =>
      cases rel
      have e0 : es = #[] := by
        have : es.toList = [] := by rw [he]; rfl
        simpa using this
      subst e0
      exact ⟨_, [], [], rfl, .nil, .nil, hsys, ⟨o, #[], ep, ho, hc, hd, fun e m => by simp at m, .nil, List.nodup_nil⟩, List.nodup_nil⟩
    | cons _ _ => simp [nodtK] at n
/-- the same data -/
def Sm (K : Frg) (H : Hp) (n : Nat) : V → V → Prop := fun x y => ∃ d, d.depth ≤ n ∧ nodt d = true ∧ Den K H x d ∧ Den K H y d
theorem sm_rc (I : Inv X pins σ H s) {n : Nat} {A : Around} (hu : A.units < cLine) (ih : ∀ x y v u, Sm X.K H n x y → RelV x v → RelV y u → SeqAt.EqP X.prog X.w A.in1 s v u true) {x y : V} {v u : Value} {d : D} (hd : d.depth ≤ n + 1) (nd : nodt d = true) (dx : Den X.K H x d) (dy : Den X.K H y d) (rx : RelV x v) (ry : RelV y u)
    (hf : flat d = false) : ∃ a b, v = .ref a ∧ u = .ref b ∧ ∀ (E Q : Value → Shared → Prop), Q (.bool true) s → wpAny (model X.prog X.w) A (richCompare .Eq v u) Q E s := by
  cases d with
  | list ds =>
    obtain ⟨a, xs, rfl, s1, l1⟩ := dx.of_lst
    obtain ⟨b, ys, rfl, s2, l2⟩ := dy.of_lst
    cases rx
    cases ry
    refine ⟨a, b, rfl, rfl, fun E Q q => ?_⟩
    obtain ⟨us, r1, p1, _⟩ := I.list s1.l
    obtain ⟨ws, r2, p2, _⟩ := I.list s2.l
    simp only [PyData.depth] at hd
    simp only [nodt] at nd
    have hsz : us.toArray.size = ws.toArray.size := by rw [List.size_toArray, List.size_toArray, ← r1.length, ← r2.length, l1.length, l2.length]
    refine SeqAt.rcP_lists (e := fun _ => true) p1.isList p2.isList hsz hu (fun j h1 h2 => ?_) E Q ?_
    · have hj : j < ds.length := by rw [← l1.length, r1.length]; simpa using h1
      obtain ⟨x', e1, d1⟩ := l1.get (List.getElem?_eq_getElem hj)
      obtain ⟨y', e2, d2⟩ := l2.get (List.getElem?_eq_getElem hj)
      obtain ⟨u1, f1, g1⟩ := r1.get e1
      obtain ⟨u2, f2, g2⟩ := r2.get e2
      have z1 : us.toArray[j] = u1 := by
        have := List.getElem?_eq_some_iff.mp f1
        simpa using this.2
      have z2 : ws.toArray[j] = u2 := by
        have := List.getElem?_eq_some_iff.mp f2
        simpa using this.2
      rw [z1, z2]
      exact ih x' y' u1 u2 ⟨_, depthL_mem (by omega) _ (List.getElem_mem hj), nodtL_mem nd _ (List.getElem_mem hj), d1, d2⟩ g1 g2
    · rw [show ((List.range us.toArray.size).all fun _ => true) = true from List.all_eq_true.mpr fun _ _ => rfl]
      exact q
  | tuple ds =>
    obtain ⟨a, xs, rfl, s1, l1⟩ := dx.of_tup
    obtain ⟨b, ys, rfl, s2, l2⟩ := dy.of_tup
    cases rx
    cases ry
    refine ⟨a, b, rfl, rfl, fun E Q q => ?_⟩
    obtain ⟨us, r1, p1, _⟩ := I.tuple s1
    obtain ⟨ws, r2, p2, _⟩ := I.tuple s2
    simp only [PyData.depth] at hd
    simp only [nodt] at nd
    have hsz : us.toArray.size = ws.toArray.size := by rw [List.size_toArray, List.size_toArray, ← r1.length, ← r2.length, l1.length, l2.length]
    refine GQ.rc_tupG hsz hu (fun _ s' => s' = s) p1 p2 (fun j h1 h2 s' hs' => ?_) (fun s' hs' => by rw [hs']; exact q) rfl
    subst hs'
    have hj : j < ds.length := by rw [← l1.length, r1.length]; simpa using h1
    obtain ⟨x', e1, d1⟩ := l1.get (List.getElem?_eq_getElem hj)
    obtain ⟨y', e2, d2⟩ := l2.get (List.getElem?_eq_getElem hj)
    obtain ⟨u1, f1, g1⟩ := r1.get e1
    obtain ⟨u2, f2, g2⟩ := r2.get e2
    have z1 : us.toArray[j] = u1 := by
      have := List.getElem?_eq_some_iff.mp f1
      simpa using this.2
    have z2 : ws.toArray[j] = u2 := by
      have := List.getElem?_eq_some_iff.mp f2
      simpa using this.2
    rw [z1, z2]
    exact ih x' y' u1 u2 ⟨_, depthL_mem (by omega) _ (List.getElem_mem hj), nodtL_mem nd _ (List.getElem_mem hj), d1, d2⟩ g1 g2 E _ ⟨rfl, rfl⟩
  | dict kvs =>
    simp only [PyData.depth] at hd
    simp only [nodt] at nd
    obtain ⟨a, ks, va, rfl, l1, r1, y1, da, _⟩ := den_dict I dx nd
    obtain ⟨b, ls, vb, rfl, l2, r2, y2, db, n2⟩ := den_dict I dy nd
    cases rx
    cases ry
    refine ⟨a, b, rfl, rfl, fun E Q q => ?_⟩
    refine PySem.W.rcP_dicts (knd := mixKind X.prog X.w) (r := true) y1 y2 da db hu (fun _ => hits_run ih r2 r1 fun p hp => ?_) E Q ?_
    · obtain ⟨w, z, e1, e2, e3, e4⟩ := denK_both l1 l2 n2 p hp
      exact ⟨w, e1, _, depthK_mem (by omega) z e2, nodtK_mem nd z e2, e3, e4⟩
    · have e : va.length = vb.length := by rw [← Paired.length r1, ← Paired.length r2, l1.len, l2.len]
      rw [show (va.length == vb.length && true) = true by rw [e]; simp]
      exact q
  | _ => simp [flat] at hf
theorem sm_eqP (I : Inv X pins σ H s) : ∀ (n : Nat) (A : Around), A.units + n < cLine → ∀ (x y : V) (v u : Value), Sm X.K H n x y → RelV x v → RelV y u → SeqAt.EqP X.prog X.w A s v u true
  | n, A, hu, x, y, v, u, ⟨d, hd, nd, dx, dy⟩, rx, ry => by
    by_cases hf : flat d = true
    · have e : x = y ∧ flatB x = true := by
        cases d with
        | none => cases dx; cases dy; exact ⟨rfl, rfl⟩
        | bool b => cases dx; cases dy; exact ⟨rfl, rfl⟩
        | int i => cases dx; cases dy; exact ⟨rfl, rfl⟩
        | str z => cases dx; cases dy; exact ⟨rfl, rfl⟩
        | _ => simp [flat] at hf
      obtain ⟨rfl, f⟩ := e
      exact (eqAt_same rx ry f).eqP
    · have hf : flat d = false := by simpa using hf
      cases n with
      | zero => cases d <;> simp [flat] at hf <;> simp [PyData.depth] at hd
      | succ n =>
        obtain ⟨a, b, rfl, rfl, rc⟩ := sm_rc I (by omega) (sm_eqP I n A.in1 (by show A.units + 1 + n < cLine; omega)) hd nd dx dy rx ry hf
        by_cases e : a = b
        · subst e; exact (SeqAt.EqAt.same _).eqP
        · exact SeqAt.eqP_refs e rc
def rEqSm (K : Frg) : R2 := fun x y H Q => ∃ d, d.depth ≤ 60 ∧ nodt d = true ∧ flat d = false ∧ Den K H x d ∧ Den K H y d ∧ Q (.bl true) H
theorem op_eqSm (hu : X.A.units + 64 < cLine) : OpR X (compareOp .Eq) (rEqSm X.K) := by
  intro pins s σ H x y v u Q I rx ry h
  obtain ⟨d, hd, nd, hf, dx, dy, q⟩ := h
  obtain ⟨a, b, rfl, rfl, rc⟩ := sm_rc (n := 60) I (A := X.A) (by omega) (sm_eqP I 60 X.A.in1 (by show X.A.units + 1 + 60 < cLine; omega)) (by omega) nd dx dy rx ry hf
  exact rc _ _ ⟨.bl true, H, I, rfl, q⟩
open Classical in
/-- a == b: shaped data, or the same data -/
noncomputable def dEqS (a b : D) : Option D := if shp a = true ∧ shp b = true then some (.bool (PyData.eqv a b)) else if a = b ∧ a.depth ≤ 60 ∧ nodt a = true then some (.bool true) else none
end
section
variable {X : Cx} {W : WX} {fx : List Nat} {md : Md} {pa pb : Bool} {a b : Expr} {ma mb : M D} {pos : Pos}
theorem os_eqS : OpS X.K (fun x y H Q => (∃ d e, Dp X.K H x d ∧ Dp X.K H y e ∧ SeqAt.shaped d = true ∧ SeqAt.shaped e = true ∧ Q (.bl (PyData.eqv d e)) H) ∨ rEqSm X.K x y H Q ∨ rEq x y H Q) dEqS := fun G H x y d1 d2 d Q gl e1 e2 e k => by
  unfold dEqS at e
  split at e
  · rename_i hs
    cases e
    exact .inl ⟨d1, d2, (e1.up gl).dp (shp_lay hs.1), (e2.up gl).dp (shp_lay hs.2), hs.1, hs.2, k _ G H (Grow.refl gl) (.bl _)⟩
  · split at e
    · rename_i hs
      cases e
      obtain ⟨rfl, h1, h2⟩ := hs
      have kk := k _ G H (Grow.refl gl) (.bl true)
      by_cases h3 : flat d1 = true
      · have e : x = y ∧ scal x y = true := by
          cases d1 with
          | none => cases e1; cases e2; exact ⟨rfl, rfl⟩
          | bool b => cases e1; cases e2; exact ⟨rfl, rfl⟩
          | int i => cases e1; cases e2; exact ⟨rfl, rfl⟩
          | str z => cases e1; cases e2; exact ⟨rfl, rfl⟩
          | _ => simp [flat] at h3
        obtain ⟨rfl, sc⟩ := e
        exact .inr (.inr ⟨sc, by rw [decide_eq_true rfl]; exact kk⟩)
      · exact .inr (.inl ⟨d1, h1, h2, by simpa using h3, e1.up gl, e2.up gl, kk⟩)
    · cases e
theorem flat_dEqS : Flat2 dEqS := fun a b d h => by
  unfold dEqS at h
  split at h
  · cases h; rfl
  · split at h
    · cases h; rfl
    · cases h
theorem x_eqS (hu : X.A.units + 64 < cLine) (ha : Ex X W md pa a ma) (hb : Ex X W md pb b mb) (hm : md = .frz ∨ pb = true := by first | exact Or.inl rfl | exact Or.inr rfl) : Ex X W .frz (pa && pb) (.Compare a [.Eq] [b] pos) (m2 dEqS ma mb) :=
  ex2s (fun ta tb p q => pe_cmpR ((op_eqD hu).or ((op_eqSm hu).or op_eq)) p q (nomark _)) os_eqS flat_dEqS ha hb hm
theorem t_eqS (hu : X.A.units + 64 < cLine) (ha : Ex X W md pa a ma) (hb : Ex X W md pb b mb) (hm : md = .frz ∨ pb = true := by first | exact Or.inl rfl | exact Or.inr rfl) : Et X W (pa && pb) (.Compare a [.Eq] [b] pos) ((m2 dEqS ma mb).bind tru) :=
  et2 (fun ta tb p q => pt_cmpR ((op_eqD hu).or ((op_eqSm hu).or op_eq)) p q (nomark _)) os_eqS ha hb hm
end
end DL

/-! The data layer, part R: dicts displayed. -/
namespace DL
open PySem L2 PyProof.Rows

def keyO : D → Option Key
  | .int i => some (.inl i)
  | .str x => some (.inr x)
  | _ => none
theorem keyO_D {d : D} {k : Key} (h : keyO d = some k) : keyD k = d := by
  cases d <;> simp [keyO] at h <;> subst h <;> rfl
theorem keyO_den {K : Frg} {G : Hp} {v : V} {d : D} {k : Key} (h : keyO d = some k) (dv : Den K G v d) : v = kV k := by
  cases d <;> simp [keyO] at h <;> subst h <;> cases dv <;> rfl
def pairsO : List (D × D) → Option (List (Key × D))
  | [] => some []
  | (k, d) :: r => match keyO k, pairsO r with
    | some k, some ps => some ((k, d) :: ps)
    | _, _ => none
inductive DenP (K : Frg) (G : Hp) : List (V × V) → List (D × D) → Prop
  | nil : DenP K G [] []
  | cons {x y : V} {ps : List (V × V)} {k d : D} {kds : List (D × D)} : Den K G x k → Den K G y d → DenP K G ps kds → DenP K G ((x, y) :: ps) ((k, d) :: kds)
theorem DenP.up {K : Frg} {G H : Hp} (g : GLe G H) : ∀ {ps : List (V × V)} {kds : List (D × D)}, DenP K G ps kds → DenP K H ps kds
  | _, _, .nil => .nil
  | _, _, .cons a b r => .cons (a.up g) (b.up g) (r.up g)
theorem denP_pairs {K : Frg} {G : Hp} : ∀ {ps : List (V × V)} {kds : List (D × D)} {kvs : List (Key × D)}, DenP K G ps kds → pairsO kds = some kvs →
    ∃ ks : List (Key × V), ps = ks.map (fun kv => (kV kv.1, kv.2)) ∧ ks.map (·.1) = kvs.map (·.1) ∧ ∀ H, OwnK K G H ks (kds.map fun p => (p.1, T.fz p.2)) []
  | _, _, kvs, .nil, e => by
    simp [pairsO] at e
    subst e
    exact ⟨[], rfl, rfl, fun _ => .nil⟩
  | _, _, kvs, .cons (x := x) (y := y) (k := k) a b r, e => by
    unfold pairsO at e
    split at e
    · rename_i k' ps' e1 e2
      cases e
      obtain ⟨ks, z1, z2, z3⟩ := denP_pairs r e2
      refine ⟨(k', y) :: ks, by rw [z1, keyO_den e1 a]; rfl, by simp [z2], fun H => ?_⟩
      have := OwnK.cons (K := K) (G := G) (H := H) (k := k') (F := []) (F' := []) (.fz b) (z3 H)
      rw [keyO_D e1] at this
      exact this
    · cases e
theorem mergeK_app : ∀ (more kvs : List (Key × V)), ((kvs ++ more).map (·.1)).Nodup → mergeK kvs more = kvs ++ more
  | [], kvs, _ => by simp [mergeK]
  | p :: r, kvs, h => by
    have e : putK kvs p.1 p.2 = kvs ++ [p] := by
      rw [putK_new]
      cases q : valV kvs p.1 with
      | none => rfl
      | some u =>
        have : (valV kvs p.1).isSome = true := by rw [q]; rfl
        rw [← valV_any, List.any_eq_true] at this
        obtain ⟨y, hy, hd⟩ := this
        rw [List.map_append, List.nodup_append] at h
        exact absurd (by simpa using hd) (h.2.2 y.1 (List.mem_map.mpr ⟨y, hy, rfl⟩) p.1 (by simp))
    have := mergeK_app r (kvs ++ [p]) (by simpa using h)
    show mergeK (putK kvs p.1 p.2) r = _
    rw [e, this]
    simp
open Classical in
noncomputable def tDisp1 (kds : List (D × D)) : Option T := match pairsO kds with
  | some kvs => if (kvs.map (·.1)).Nodup ∧ kvs.length ≤ 15 then some (.od (kds.map fun p => (p.1, T.fz p.2))) else none
  | none => none
def mPairs : List (M D × M D) → M (List (D × D))
  | [] => M.pure []
  | (mk, mv) :: r => mk.bind fun k => mv.bind fun d => (mPairs r).bind fun ps => M.pure ((k, d) :: ps)
section
variable {X : Cx} {W : WX} {pos : Pos} {k v : Expr} {keys : List (Option Expr)} {vals : List Expr} {mk mv : M D} {ms : List (M D × M D)}
/-- the pairs of a display -/
def Ep (X : Cx) (W : WX) (pos : Pos) (keys : List (Option Expr)) (vals : List Expr) (ms : List (M D × M D)) : Prop :=
  ∃ trs, PPs X pos keys vals trs ∧ ∀ G H σ env Fp Q, Sta X.K G H σ env Fp → Post X.K X.mg W (fun G H b a Fr => Fr = [] ∧ DenP X.K G b a) true σ G H Fp env Q (mPairs ms env) → tPairs trs σ H Q
theorem ep_nil : Ep X W pos [] [] [] := ⟨[], pps_nil, fun G H σ env Fp Q S h => post_pure h S ⟨rfl, .nil⟩⟩
theorem ep_cons (hk : Ex X W .frz true k mk) (hv : Ex X W .frz true v mv) (hr : Ep X W pos keys vals ms) : Ep X W pos (some k :: keys) (v :: vals) ((mk, mv) :: ms) := by
  obtain ⟨tk, p1, k1⟩ := hk
  obtain ⟨tv, p2, k2⟩ := hv
  obtain ⟨tr, p3, k3⟩ := hr
  refine ⟨_, pps_cons p1 p2 p3, fun G H σ env Fp Q S h => k1 G H σ env Fp _ S (Post.bind (pu1 := true) (pu2 := true) h vrd_nil fun d1 env1 v1 G1 H1 Fp1 st1 S1 q1 w1 h1 => ?_)⟩
  refine k2 G1 H1 σ env1 Fp1 _ S1 (Post.bind (pu1 := true) (pu2 := true) h1 vrd_nil fun d2 env2 v2 G2 H2 Fp2 st2 S2 q2 w2 h2 => ?_)
  refine k3 G2 H2 σ env2 Fp2 _ S2 (Post.bind (pu1 := true) (pu2 := true) h2 (fun _ _ _ _ _ h => h.1) fun ps env3 vs G3 H3 Fp3 st3 S3 q3 w3 h3 => ?_)
  exact post_pure h3 S3 ⟨rfl, .cons ((w1.2.up (same_gle st2.sub)).up (same_gle st3.sub)) (w2.2.up (same_gle st3.sub)) w3.2⟩
noncomputable def mDisp (ms : List (M D × M D)) : M T := (mPairs ms).bind fun ps => M.lift (tDisp1 ps)
theorem o_disp (h : Ep X W pos keys vals ms) (hall : keys.all (·.isSome) = true := by rfl) (hl : keys.length = vals.length := by rfl) (h0 : keys ≠ [] := by simp) (h15 : keys.length ≤ 15 := by decide) : Eo X W true (.Dict keys vals pos) (mDisp ms) := by
  obtain ⟨tr, p, kk⟩ := h
  refine ⟨_, pe_disp p hall hl h0 h15, fun G H σ env Fp Q S h => fun a ha => ?_⟩
  have w0 : Grow G H G (upd H a (.dK [])) := grow_new S.le ha _
  have S0 := S.grow w0
  unfold mDisp at h
  refine kk G (upd H a (.dK [])) σ env Fp _ S0 ?_
  cases r : mPairs ms env with
  | bad => rw [M.bind_bad r] at h; exact h
  | exn x e' =>
    rw [M.bind_exn r] at h
    exact fun cls dd G' H' Fp' st S' q => h cls dd G' H' Fp' (w0.step.trans st) S' q
  | ok ps env1 =>
    rw [M.bind_ok r] at h
    intro vs G1 H1 Fp1 Fr st S1 nd ap pur w
    obtain ⟨rfl, dp⟩ := w
    obtain ⟨rfl, rfl, gw⟩ := pur rfl
    have ea : H1 a = some (.dK []) := gw.same a _ upd_same
    refine ⟨ea, ?_⟩
    unfold M.lift at h
    cases q : tDisp1 ps with
    | none => rw [q] at h; exact h.elim
    | some t =>
      rw [q] at h
      unfold tDisp1 at q
      split at q
      · rename_i kvs e1
        split at q
        · rename_i hc
          cases q
          obtain ⟨ks, e2, e3, e4⟩ := denP_pairs dp e1
          have em : mergeK [] ks = ks := by
            rw [mergeK_app ks [] (by simpa [e3] using hc.1)]
            rfl
          refine ⟨ks, e2, by have := congrArg List.length e3; simp at this; rw [this]; exact hc.2, ?_⟩
          rw [em]
          have aG : G1 a = none := by
            cases z : G1 a with
            | none => rfl
            | some o =>
              rcases gw.frG a (by rw [z]; exact fun z => nomatch z) with y | y | ⟨xs, y⟩
              · exact absurd (gle_none S.le ha) y
              · rw [upd_same] at y; cases y
              · rw [upd_same] at y; cases y
          have aF : a ∉ Fp1 := fun m => by
            have b := S.sl.boxes a m
            rw [ha] at b
            exact b
          have keep : ∀ b, b ≠ a → upd H1 a (.dK ks) b = H1 b := fun b hb => upd_ne hb
          have le2 : GLe G1 (upd H1 a (.dK ks)) := fun b o e => by
            rw [keep b fun z => by rw [z, aG] at e; cases e]
            exact gw.le b o e
          have S2 : Sta X.K G1 (upd H1 a (.dK ks)) σ env1 Fp1 := ⟨le2, S1.sl.stay (GLe.refl _) fun b m => keep b fun z => aF (z ▸ m), S1.nd, S1.ap⟩
          have same2 : Same H (upd H1 a (.dK ks)) := fun b o e => by
            have hb : b ≠ a := fun z => by rw [z, ha] at e; cases e
            rw [keep b hb]
            exact gw.same b o (w0.same b o e)
          have frG2 : ∀ b, G1 b ≠ none → G b ≠ none ∨ H b = none ∨ ∃ xs, H b = some (.tup xs) := (w0.trans gw).frG
          have gw2 : Grow G H G1 (upd H1 a (.dK ks)) := ⟨same2, (w0.trans gw).sub, le2, frG2⟩
          have one : ∀ b, b ∈ [a] → b = a := fun b m => by simpa using m
          refine h _ G1 _ Fp1 [a] ⟨fun b o e _ => same2 b o e, gw2.sub, (gw2.step (Fp := Fp1)).frG, fun b m => ?_⟩ S2 (List.nodup_append.mpr ⟨by simp, S1.nd, fun x hx y hy z => aF (by rw [← one x hx, z]; exact hy)⟩) (fun x hx => by rw [one x hx]; exact aG) (fun _ => ⟨rfl, rfl, gw2⟩) (.odk upd_same (e4 _))
          rcases List.mem_append.mp m with m | m
          · rw [one b m]; exact .inl ha
          · exact .inr m
        · cases q
      · cases q
def mDic0 : M T := M.pure (.od [])
theorem o_dic0K : Eo X W true (.Dict [] [] pos) mDic0 := ⟨_, pe_dnewK, fun G H σ env Fp Q S h a ha => by
  have w0 : Grow G H G (upd H a (.dK [])) := grow_new S.le ha _
  obtain ⟨n1, n2⟩ := grow_nodup (F := [a]) S w0 (by simp) fun b m => by
    have : b = a := by simpa using m
    rw [this]; exact ⟨gle_none S.le ha, ha⟩
  exact h _ G _ Fp [a] n2 (S.grow w0) n1 (fun b m => by
    have : b = a := by simpa using m
    rw [this]; exact gle_none S.le ha) (fun _ => ⟨rfl, rfl, w0⟩) (.odk upd_same .nil)⟩
theorem o_dic0T : Eo X W true (.Dict [] [] pos) mDic0 := ⟨_, pe_dnewT, fun G H σ env Fp Q S h a ha => by
  have w0 : Grow G H G (upd H a (.dT [])) := grow_new S.le ha _
  obtain ⟨n1, n2⟩ := grow_nodup (F := [a]) S w0 (by simp) fun b m => by
    have : b = a := by simpa using m
    rw [this]; exact ⟨gle_none S.le ha, ha⟩
  exact h _ G _ Fp [a] n2 (S.grow w0) n1 (fun b m => by
    have : b = a := by simpa using m
    rw [this]; exact gle_none S.le ha) (fun _ => ⟨rfl, rfl, w0⟩) (.odt upd_same .nil)⟩
end
end DL

/-! The data layer, part S: the law's own call, the guards known. -/
namespace DL
open PySem PySem.Spec L2 PyProof.Rows

def ScrO (a : Addr) (us : List Value) : Obj := { cls := .type "list", data := .seq us.toArray }
/-- one abstract heap that holds the script alone: the law's promise there is the law -/
theorem law_in {P : Program} {w : World} {K : Frg} {mg mb : Str → Option Value} {k : Nat} {fa a : Addr} {fd : FuncData} {x : Str} {sp : Sp} {t : Shared} {us : List Value} {H : Hp}
    (inK : K.In t.heap) (nsG : t.heap.Ns mainGlobals mg) (nsB : t.heap.Ns builtinsNs mb) (bt : ∀ y : Str, y ≠ "__name__" → mb y = bootBuiltins y) (nl : t.heap.NoLimit) (gn : t.gens = #[])
    (obj : t.heap.get? a = some (ScrO a us)) (room : GR k callerA) (F : ∀ base : Heap, K.In base → base.Ns mainGlobals mg → FnG P w K mg base k fa fd [x] sp) (bnd : ∀ (s : Shared) (u : Value), BindsTo s fd ⟨[u], []⟩ [(x, u)])
    (only : Only H) (ok : HOk P w H t.heap) (at1 : ∀ b, H b ≠ none → b = a) (nk : H a ≠ none → K.lookup a = none) (q0 : sp [.ref a] H (fun v _ => v = .bl true) fun _ _ _ => False) :
    codeAny (model P w) callerA (.call (.ref fa) ⟨[.ref a], []⟩) (fun r s' => r = .ok (.ret (.bool true)) ∧ OldK t.heap s'.heap ∧ s'.os = t.os ∧ AllBare s'.gens) t := by
  have notdict : ∀ {b : Addr} {o : Obj} {es : Array DictEntry} {ep : Nat}, t.heap.get? b = some o → o.data = .dict es ep → H b = none := by
    intro b o es ep e d
    by_cases z : H b = none
    · exact z
    · have y := at1 b z
      subst y
      rw [obj] at e
      cases e
      cases d
  have nsUp : ∀ {b : Addr} {m : Str → Option Value}, t.heap.Ns b m → (hidT t.heap H).Ns b m := by
    rintro b m ⟨o, es, ep, e, d, r⟩
    exact ⟨o, es, ep, hidT_get e (notdict e d), d, r⟩
  have inK' : K.In (hidT t.heap H) := fun b o e => hidT_get (inK b o e) (Classical.byContradiction fun z => by
    have y := at1 b z
    subst y
    rw [nk z] at e
    cases e)
  obtain ⟨ml, l1, l2⟩ := nl
  have env0 : Env0 P w K mg (hidT t.heap H) callerA [] t H := ⟨rfl, ⟨inK', nsUp nsG, ⟨mb, nsUp nsB, bt⟩, ⟨ml, nsUp l1, l2⟩⟩, fun b o e => of_hidT e, Nat.le_of_eq (hidT_size _ _), trivial, fun b hb => (nomatch (show b ∈ ([] : List Addr) from hb)), ok, .of_eq gn⟩
  have run := (F _ inK' (nsUp nsG)).run callerA [] t H ⟨[.ref a], []⟩ [.ref a] [.ref a] _ _ room env0 (bnd t (.ref a)) (.cons rfl .nil) q0
  refine codeAny_mono run fun r s' out => ?_
  match r, out with
  | .error e, ⟨_, _, _, _, _, _, _, _, _, _, _, _, f⟩ => exact f.elim
  | .ok .next, f => exact f.elim
  | .ok .brk, f => exact f.elim
  | .ok .cont, f => exact f.elim
  | .ok (.ret u), ⟨v, H', os, bare, un, ok', rv, e1⟩ =>
    have e1 : v = .bl true := e1
    subst e1
    have e2 : u = Value.bool true := rv
    subst e2
    refine ⟨rfl, OldK.of_keep fun b o e => ?_, os, bare⟩
    rcases only b with z | ⟨ob, xs, z⟩
    · exact un.keep b o e z (fun y => nomatch (show b ∈ ([] : List Addr) from y)) (by simp)
    · have g1 := (ok b _ z).1
      have g2 := (ok' b _ (un.frzs b ob _ z)).1
      rw [e] at g1
      cases g1
      exact g2
theorem law_callG {P : Program} {w : World} {K : Frg} {mg mb : Str → Option Value} {k : Nat} {fa a : Addr} {fd : FuncData} {x : Str} {sp : Sp} {t : Shared} {us : List Value} {ns : List Int}
    (inK : K.In t.heap) (nsG : t.heap.Ns mainGlobals mg) (nsB : t.heap.Ns builtinsNs mb) (bt : ∀ y : Str, y ≠ "__name__" → mb y = bootBuiltins y) (nl : t.heap.NoLimit) (gn : t.gens = #[])
    (obj : t.heap.get? a = some { cls := .type "list", data := .seq us.toArray }) (hi : IntsAre us ns) (hl : ns.length ≤ sizeLine) (room : GR k callerA) (F : ∀ base : Heap, K.In base → base.Ns mainGlobals mg → FnG P w K mg base k fa fd [x] sp)
    (bnd : ∀ (s : Shared) (u : Value), BindsTo s fd ⟨[u], []⟩ [(x, u)]) (hsp : ∀ H : Hp, Only H → SqX K H a (ns.map V.int) → sp [.ref a] H (fun v _ => v = .bl true) fun _ _ _ => False) :
    codeAny (model P w) callerA (.call (.ref fa) ⟨[.ref a], []⟩) (fun r s' => r = .ok (.ret (.bool true)) ∧ OldK t.heap s'.heap ∧ s'.os = t.os ∧ AllBare s'.gens) t := by
  have rv := vals_ints hi
  have le : us.toArray.size ≤ sizeLine := by
    rw [List.size_toArray, hi.length]
    exact hl
  cases hk : K.lookup a with
  | some o =>
    have e := inK a o hk
    rw [obj] at e
    cases e
    have s0 : SqX K (fun _ => none) a (ns.map V.int) := .inr ⟨us, _, hk, by simpa using le, rv⟩
    have o0 : Only fun _ => none := fun _ => .inl rfl
    exact law_in inK nsG nsB bt nl gn obj room F bnd o0 (fun b u z => nomatch (show (none : Option HO) = some u from z)) (fun b z => absurd rfl z) (fun z => absurd rfl z) (hsp _ o0 s0)
  | none =>
    let H0 : Hp := fun b => if b = a then some (.frz { cls := .type "list", data := .seq us.toArray } (.lst (ns.map V.int))) else none
    have hit : H0 a = some (.frz { cls := .type "list", data := .seq us.toArray } (.lst (ns.map V.int))) := if_pos rfl
    have miss : ∀ b, b ≠ a → H0 b = none := fun b z => if_neg z
    have o0 : Only H0 := fun b => by
      by_cases z : b = a
      · subst z; exact .inr ⟨_, _, hit⟩
      · exact .inl (miss b z)
    have s0 : SqX K H0 a (ns.map V.int) := .inl (.inr ⟨_, hit⟩)
    refine law_in inK nsG nsB bt nl gn obj room F bnd o0 (fun b u z => ?_) (fun b z => Classical.byContradiction fun y => z (miss b y)) (fun _ => hk) (hsp _ o0 s0)
    by_cases y : b = a
    · subst y
      rw [hit] at z
      cases z
      exact ⟨obj, by rw [List.length_map]; exact hl, us, _, rv, obj⟩
    · rw [miss b y] at z
      cases z
/-- nothing tracked but the script: the state in which the law's def is entered -/
theorem den_ints {K : Frg} {G : Hp} : ∀ ns : List Int, DenL K G (ns.map V.int) (ns.map PyData.int)
  | [] => .nil
  | n :: r => .cons (.int n) (den_ints r)
/-- the goal that k_head leaves, from what the law's def computes -/
theorem walk_ofD {l : PySem.W.OpenLaw} {n k : Nat} {q : Program} {loose : List Str} {XP : (Str → Option Value) → Heap → Prop} {YP : World → Heap → Prop} {d : DefRec} {Kf : Params → Frg} {x : Str} {sem : Sem}
    (hn : l.most = some n) (hn2 : n ≤ sizeLine) (hdf : d.params.defaults = []) (room : GR k callerA) (hY : ∀ (w : World) (h : Heap), YP w h → (Kf w.params).In h)
    (F : ∀ (w : World) (mg : Str → Option Value) (fa : Addr) (h : Heap), (Kf w.params).In h → h.Ns mainGlobals mg → mg d.name = some (.ref fa) →
      ∃ fd : FuncData, (∀ (s : Shared) (u : Value), BindsTo s fd ⟨[u], []⟩ [(x, u)]) ∧ ∀ base : Heap, (Kf w.params).In base → base.Ns mainGlobals mg → FnG l.prog w (Kf w.params) mg base k fa fd [x] (spD (Kf w.params) mg 1 sem))
    (ev : ∀ ns : List Int, ns.length ≤ n → ∃ e, sem [some (.fz (.list (ns.map PyData.int)))] = .ok (.fz (.bool true)) e) :
    PySem.W.WalkO q loose XP YP l.row.toRowW d [] (fun f vs => PySem.call f vs) := by
  refine Att.attach_call hn hdf fun w s₀ t mg mb fa o pm cd doc a us ns G Y ho hd hcd hmg obj hi hl gn => ?_
  have inK := hY w _ Y
  obtain ⟨fd, bnd, hF⟩ := F w mg fa _ inK G.T.g hmg
  refine law_callG inK G.T.g G.T.b G.T.builtins G.T.nolimit gn obj hi (Nat.le_trans hl hn2) room hF bnd fun H only sq => ?_
  obtain ⟨e, q⟩ := ev ns hl
  refine ⟨rfl, H, [some (.fz (.list (ns.map PyData.int)))], [], ⟨GLe.refl H, .so (F := []) (F' := []) (.fz (.lst sq (den_ints ns))) .nil, List.nodup_nil, fun _ m => nomatch m⟩, ?_⟩
  rw [q]
  intro v G' H' Fp' Fr _ _ _ _ ow
  cases ow with
  | fz dv => exact dv.of_bool
end DL

/-! The data layer, part T: owned trees handed on: arguments that are moved, items moved out, lists joined. -/
namespace DL
open PySem L2 PyProof.Rows

section
variable {X : Cx} {W : WX} {fx : List Nat} {md : Md} {pu pa pb pc : Bool} {e a b c : Expr} {es : List Expr} {m ma mb : M D} {mt ut : M T} {mts : M (List T)} {p pos : Pos} {x : Str} {k n : Nat} {sem : Sem}
theorem slots_own {K : Frg} {G H : Hp} : ∀ {vs : List V} {ts : List T} {F : List Addr}, OwnL K G H vs ts F → Slots K G H (vs.map some) (ts.map some) F
  | _, _, _, .nil => .nil
  | _, _, _, .cons h t => .so h (slots_own t)
def mCallBO (sem : Sem) (i : Nat) (ms : M (List T)) : M T := ms.bind fun ts env => match env[i]? with
  | some (some t) => match sem (some t :: ts.map some) with
    | .ok r (some t' :: _) => .ok r (env.set i (some t'))
    | .exn x (some t' :: _) => .exn x (env.set i (some t'))
    | _ => .bad
  | _ => .bad
theorem mHas_at {i : Nat} {α β : Type} {Vr : Hp → Hp → β → α → List Addr → Prop} {f : M α} {σ : L2.St} {G H : Hp} {Fp : List Addr} {env : Env} {Q : β → Hp → Prop} (S : Sta X.K G H σ env Fp) (h : Post X.K X.mg W Vr pu σ G H Fp env Q (((mHas i).bind fun _ => f) env)) :
    (∃ v, σ[i]? = some (some v)) ∧ Post X.K X.mg W Vr pu σ G H Fp env Q (f env) := by
  unfold M.bind mHas at h
  cases q : env[i]? with
  | none => rw [q] at h; exact h.elim
  | some o =>
    cases o with
    | none => rw [q] at h; exact h.elim
    | some t =>
      rw [q] at h
      obtain ⟨v, F0, e2, _, _⟩ := S.sl.at q
      exact ⟨⟨v, e2⟩, h⟩
/-- a call whose first argument, a name, is handed in and changed, the others moved -/
theorem o_callBO {i : Nat} (D0 : Def X.prog X.w X.K X.mg X.base x k (n + 1) sem) (hr : GR k X.A) (tk : Takes X W) (hg : Gl X x) (h0 : PE X e (tVar i)) (ha : Ey X W pa es mts) (hdb : (x == ("__debug__" : Str)) = false := by decide)
    (he : starEach (e :: es) X.env = (false, eval e X.env) :: starEach es X.env := by rfl) (hpl : (backTo pos (starEach es X.env)).any (·.1) = false := by rfl) (hn : ∀ env ds env', mts env = .ok ds env' → ds.length = n) : Eo X W false (.Call (.Name x p) (e :: es) [] pos) ((mHas i).bind fun _ => mCallBO sem i mts) := by
  obtain ⟨f, fd, ps, hm, hk, hb, hps, F⟩ := D0.ex
  obtain ⟨ta, pA, kA⟩ := ha
  refine ⟨_, pe_callG F hr tk hg hm hk hb (pa_cons h0 pA he) hdb he hpl, fun G H σ env Fp Q S h => ?_⟩
  obtain ⟨⟨v, hv⟩, h⟩ := mHas_at S h
  refine ⟨v, hv, ?_⟩
  unfold mCallBO at h
  refine kA G H σ env Fp _ S ?_
  cases r0 : mts env with
  | bad => rw [M.bind_bad r0] at h; exact h
  | exn y e' => rw [M.bind_exn r0] at h; exact h
  | ok ts env1 =>
  rw [M.bind_ok r0] at h
  intro vs G1 H1 Fp1 Fr st1 S1 nd1 ap1 _ ol
  cases q : env1[i]? with
  | none => rw [q] at h; exact h.elim
  | some o =>
    cases o with
    | none => rw [q] at h; exact h.elim
    | some t =>
      rw [q] at h
      dsimp only at h
      obtain ⟨v', F0, F', e2, own, rest, in0, inR, ndR⟩ := S1.sl.take q
      rw [hv] at e2
      cases e2
      have nd0 := List.nodup_append.mp (ndR S1.nd)
      have ndA := List.nodup_append.mp nd1
      have ndc : (F0 ++ Fr).Nodup := List.nodup_append.mpr ⟨nd0.1, ndA.1, fun a ma b mb z => ndA.2.2 b mb a (in0 a ma) z.symm⟩
      have Sc : Sta X.K G1 H1 ((v :: vs).map some) (some t :: ts.map some) (F0 ++ Fr) := ⟨S1.le, .so own (slots_own ol), ndc, fun a m => (List.mem_append.mp m).elim (fun z => S1.ap a (in0 a z)) (ap1 a)⟩
      refine ⟨by rw [List.length_cons, ol.len, hn _ _ _ r0], G1, _, _, Sc, ?_⟩
      have dj : ∀ a, a ∈ F0 ++ Fr → a ∉ F' := fun a m z => by
        rcases List.mem_append.mp m with m | m
        · exact nd0.2.2 a m a z rfl
        · exact ndA.2.2 a m a (inR a z) rfl
      have inA : ∀ a, a ∈ F0 ++ Fr → a ∈ Fr ++ Fp1 := fun a m => (List.mem_append.mp m).elim (fun z => List.mem_append_right _ (in0 a z)) (List.mem_append_left _)
      have after : ∀ {G2 H2 : Hp} {t' : T} {env2 : Env} {Fp2 Fq : List Addr}, Step G1 H1 (F0 ++ Fr) G2 H2 (Fq ++ Fp2) → Sta X.K G2 H2 ((v :: vs).map some) (some t' :: env2) Fp2 → (Fq ++ Fp2).Nodup → (∀ a ∈ Fq, G2 a = none) →
          ∃ F3, Step G1 H1 (Fr ++ Fp1) G2 H2 (Fq ++ F3) ∧ Sta X.K G2 H2 σ (env1.set i (some t')) F3 ∧ (Fq ++ F3).Nodup := fun {G2 H2 t' env2 Fp2 Fq} st2 S2 nd ap => by
        obtain ⟨Fa, Fb, rfl, so, _⟩ := slots_uncons (by simpa using S2.sl)
        obtain ⟨v2, e3, o2⟩ := so
        cases e3
        have P := pend (Fr := F') st2 rest.boxes (fun a m => S1.ap a (inR a m)) fun a m z => dj a z m
        have rest2 := rest.stay (same_gle st2.sub) fun a m => (P a m).1
        obtain ⟨F3, s3, k3, n3⟩ := rest2.back o2 hv
        have s3' : Slots X.K G2 H2 σ (env1.set i (some t')) F3 := by rw [List.set_set] at s3; exact s3
        have ndP := List.nodup_append.mp nd
        have ndFa := List.nodup_append.mp ndP.2.1
        have n3' : F3.Nodup := n3 (List.nodup_append.mpr ⟨ndFa.1, nd0.2.1, fun a ma b mb z => (P b mb).2.2 (List.mem_append_right _ (List.mem_append_left _ (z ▸ ma)))⟩)
        refine ⟨F3, ⟨fun a u h m => st2.keep a u h fun z => m (inA a z), st2.sub, fun a h => ?_, fun a m => ?_⟩, ⟨S2.le, s3', n3', fun a m => (k3 a m).elim (fun z => S2.ap a (List.mem_append_left _ z)) fun z => (P a z).2.1⟩, List.nodup_append.mpr ⟨ndP.1, n3', fun a ma b mb z => ?_⟩⟩
        · rcases st2.frG a h with z | z | z | z
          · exact .inl z
          · exact .inr (.inl z)
          · exact .inr (.inr (.inl (inA a z)))
          · exact .inr (.inr (.inr z))
        · rcases List.mem_append.mp m with m | m
          · exact (st2.frF a (List.mem_append_left _ m)).imp id (inA a)
          · rcases k3 a m with z | z
            · exact (st2.frF a (List.mem_append_right _ (List.mem_append_left _ z))).imp id (inA a)
            · exact .inr (List.mem_append_right _ (inR a z))
        · subst z
          rcases k3 a mb with z | z
          · exact ndP.2.2 a ma a (List.mem_append_left _ z) rfl
          · exact (P a z).2.2 (List.mem_append_left _ ma)
      cases r : sem (some t :: ts.map some) with
      | bad => rw [r] at h; exact h
      | ok rt env' =>
        rw [r] at h
        cases env' with
        | nil => exact h.elim
        | cons o env2 =>
          cases o with
          | none => exact h.elim
          | some t' =>
            intro u G2 H2 Fp2 Fq st2 S2 nd ap o
            obtain ⟨F3, st3, S3, nd3⟩ := after st2 S2 nd ap
            exact h u G2 H2 F3 Fq (st1.trans st3) S3 nd3 ap (fun z => nomatch z) o
      | exn y env' =>
        rw [r] at h
        cases env' with
        | nil => exact h.elim
        | cons o env2 =>
          cases o with
          | none => exact h.elim
          | some t' =>
            intro cls dd G2 H2 Fp2 st2 S2 ex
            obtain ⟨F3, st3, S3, nd3⟩ := after (Fq := []) st2 S2 (by simpa using S2.nd) (fun _ m => absurd m (by simp))
            exact h cls dd G2 H2 F3 (st1.trans st3) S3 ex
/-! ### an item moved out of a list that a name holds -/
def mIxO (i : Nat) (m : M D) : M T := (mHas i).bind fun _ => m.bind fun d env => match env[i]?, d with
  | some (some (.ol ts)), .int k => match ixN ts.length k with
    | some j => match ts[j]? with
      | some t => .ok t (env.set i none)
      | none => .bad
    | none => .bad
  | _, _ => .bad
theorem o_ixO {i : Nat} (hs : PlainIx b) (h0 : PE X a (tVar i)) (hb : Ex X W .frz pb b mb) : Eo X W false (.Subscript a b pos) (mIxO i mb) := by
  obtain ⟨tb, p2, k2⟩ := hb
  refine ⟨_, pe_ix ix_list h0 p2 hs, fun G H σ env Fp Q S h => ?_⟩
  unfold mIxO at h
  obtain ⟨⟨v, hv⟩, h⟩ := mHas_at S h
  refine ⟨v, hv, k2 G H σ env Fp _ S ?_⟩
  cases r0 : mb env with
  | bad => rw [M.bind_bad r0] at h; exact h
  | exn y e' => rw [M.bind_exn r0] at h; exact h
  | ok d env1 =>
    rw [M.bind_ok r0] at h
    intro iv G1 H1 Fp1 Fr st1 S1 nd1 ap1 _ w
    obtain ⟨rfl, di⟩ := w
    split at h
    · rename_i ts kk q
      split at h
      · rename_i j qj
        split at h
        · rename_i t qt
          cases di.of_int
          obtain ⟨v', F0, F', e2, own, rest, in0, inR, ndR⟩ := S1.sl.take q
          rw [hv] at e2
          cases e2
          cases own with
          | @ol l xs _ F1 hx hl =>
          obtain ⟨y, A, B, C, e1, rfl, oy, _⟩ := hl.split j qt
          have nd0 := ndR S1.nd
          have sub : ∀ z, z ∈ B → z ∈ l :: (A ++ B ++ C) := fun z m => by simp [m]
          refine ⟨l, xs, kk, y, rfl, rfl, .inl (.inl hx), by unfold atI; rw [hl.len, qj]; exact e1, ?_⟩
          have nd2 := List.nodup_append.mp nd0
          have ndB : B.Nodup := (List.nodup_append.mp (List.nodup_append.mp (List.nodup_cons.mp nd2.1).2).1).2.1
          refine h y G1 H1 F' B (st1.sub_end fun z m => ?_) ⟨S1.le, rest, nd2.2.1, fun z m => S1.ap z (inR z m)⟩ (List.nodup_append.mpr ⟨ndB, nd2.2.1, fun z mz w mw e => nd2.2.2 z (sub z mz) w mw e⟩) (fun z m => S1.ap z (in0 z (sub z m))) (fun z => nomatch z) oy
          rcases List.mem_append.mp m with m | m
          · simpa using in0 z (sub z m)
          · simpa using inR z m
        · exact h.elim
      · exact h.elim
    · exact h.elim
/-! ### two lists joined, their items moved -/
def tCatO : T → T → Option T
  | .ol ts, .ol us => if ts.length + us.length ≤ sizeLine then some (.ol (ts ++ us)) else none
  | _, _ => none
def mAddO (mt ut : M T) : M T := mt.bind fun t => ut.bind fun u => M.lift (tCatO t u)
theorem o_addO (ha : Eo X W pa a mt) (hb : Eo X W pb b ut) : Eo X W false (.BinOp a .Add b pos) (mAddO mt ut) := by
  obtain ⟨ta, p1, k1⟩ := ha
  obtain ⟨tb, p2, k2⟩ := hb
  refine ⟨_, pe_op op_catR p1 p2, fun G H σ env Fp Q S h => k1 G H σ env Fp _ S ?_⟩
  unfold mAddO at h
  cases r : mt env with
  | bad => rw [M.bind_bad r] at h; exact h
  | exn x env' => rw [M.bind_exn r] at h; exact h
  | ok t env1 =>
    rw [M.bind_ok r] at h
    intro v1 G1 H1 Fp1 Fr1 st1 S1 nd1 ap1 _ o1
    have o1 : Own X.K G1 H1 v1 t Fr1 := o1
    have dj : ∀ x ∈ Fr1, x ∉ Fp1 := fun x m z => (List.nodup_append.mp nd1).2.2 x m x z rfl
    refine k2 G1 H1 σ env1 Fp1 _ S1 ?_
    cases r2 : ut env1 with
    | bad => rw [M.bind_bad r2] at h; exact h
    | exn x env' =>
      rw [M.bind_exn r2] at h
      exact fun cls dd G' H' Fp' st' S' e => h cls dd G' H' Fp' (st1.trans st'.more) S' e
    | ok u env2 =>
      rw [M.bind_ok r2] at h
      intro v2 G2 H2 Fp2 Fr2 st2 S2 nd2 ap2 _ o2
      have P := pend st2 o1.boxes ap1 dj
      have o1' : Own X.K G2 H2 v1 t Fr1 := o1.stay (same_gle st2.sub) fun x m => (P x m).1
      have o2 : Own X.K G2 H2 v2 u Fr2 := o2
      unfold M.lift at h
      cases qc : tCatO t u with
      | none => rw [qc] at h; exact h.elim
      | some w =>
        rw [qc] at h
        unfold tCatO at qc
        split at qc
        · rename_i ts us
          split at qc
          · rename_i hz
            cases qc
            cases o1' with
            | @ol a1 xs _ E1 hx hl =>
            cases o2 with
            | @ol a2 ys _ E2 hy hm =>
            refine ⟨a1, a2, xs, ys, rfl, rfl, .inl (.inl hx), .inl (.inl hy), by rw [hl.len, hm.len]; exact hz, fun q hq => ?_⟩
            have ndA := List.nodup_append.mp nd1
            have ndB := List.nodup_append.mp nd2
            have n1 := List.nodup_cons.mp ndA.1
            have n2 := List.nodup_cons.mp ndB.1
            have keep : ∀ b, H2 b ≠ none → upd H2 q (.lst (xs ++ ys)) b = H2 b := fun b hb => upd_ne fun z => hb (z ▸ hq)
            have bx : ∀ {F : List Addr}, (∀ b ∈ F, box (H2 b)) → ∀ b ∈ F, upd H2 q (.lst (xs ++ ys)) b = H2 b := fun hF b m => keep b fun z => by have := hF b m; rw [z] at this; exact this
            have qG : G2 q = none := gle_none S2.le hq
            have w2 : Grow G2 H2 G2 (upd H2 q (.lst (xs ++ ys))) := grow_new S2.le hq _
            have ow : Own X.K G2 (upd H2 q (.lst (xs ++ ys))) (.ref q) _ (q :: (E1 ++ E2)) := .ol upd_same ((hl.stay (GLe.refl _) (bx hl.boxes)).app (hm.stay (GLe.refl _) (bx hm.boxes)))
            have inE : ∀ x ∈ E1 ++ E2, x ∈ (a1 :: E1) ++ (a2 :: E2) := fun x m => by
              rcases List.mem_append.mp m with m | m
              · exact List.mem_append_left _ (List.mem_cons_of_mem _ m)
              · exact List.mem_append_right _ (List.mem_cons_of_mem _ m)
            have dj12 : ∀ x ∈ a1 :: E1, ∀ y ∈ a2 :: E2, x ≠ y := fun x m y n z => (P x m).2.2 (z ▸ List.mem_append_left _ n)
            have ndE : (E1 ++ E2).Nodup := List.nodup_append.mpr ⟨n1.2, n2.2, fun x m y n => dj12 x (List.mem_cons_of_mem _ m) y (List.mem_cons_of_mem _ n)⟩
            have bE : ∀ x ∈ E1 ++ E2, box (H2 x) := fun x m => (List.mem_append.mp m).elim (hl.boxes x) (hm.boxes x)
            have qE : q ∉ E1 ++ E2 := fun m => by have := bE q m; rw [hq] at this; exact this
            have S3 := S2.grow w2
            refine h (.ref q) G2 _ Fp2 (q :: (E1 ++ E2)) ?_ S3 ?_ ?_ (fun z => nomatch z) ow
            · have s12 : Step G H Fp G2 H2 ((a1 :: E1) ++ ((a2 :: E2) ++ Fp2)) := st1.trans st2.hold
              have s13 := s12.trans (w2.step (Fp := (a1 :: E1) ++ ((a2 :: E2) ++ Fp2)))
              refine ⟨s13.keep, s13.sub, s13.frG, fun x m => ?_⟩
              · rcases List.mem_append.mp m with m | m
                · rcases List.mem_cons.mp m with e | m
                  · subst e
                    by_cases y : H x = none
                    · exact .inl y
                    · refine .inr (Classical.byContradiction fun nf => ?_)
                      cases e : H x with
                      | none => exact y e
                      | some o => rw [s12.keep x o e nf] at hq; cases hq
                  · exact s12.frF x (by
                      rcases List.mem_append.mp (inE x m) with z | z
                      · exact List.mem_append_left _ z
                      · exact List.mem_append_right _ (List.mem_append_left _ z))
                · exact s12.frF x (List.mem_append_right _ (List.mem_append_right _ m))
            · refine List.nodup_append.mpr ⟨List.nodup_cons.mpr ⟨qE, ndE⟩, S2.nd, fun x m y n z => ?_⟩
              subst z
              rcases List.mem_cons.mp m with e | m
              · have := S2.sl.boxes x n
                rw [e, hq] at this
                exact this
              · rcases List.mem_append.mp m with m | m
                · exact (P x (List.mem_cons_of_mem _ m)).2.2 (List.mem_append_right _ n)
                · exact ndB.2.2 x (List.mem_cons_of_mem _ m) x n rfl
            · intro x m
              rcases List.mem_cons.mp m with e | m
              · rw [e]; exact qG
              · rcases List.mem_append.mp m with m | m
                · exact (P x (List.mem_cons_of_mem _ m)).2.1
                · exact ap2 x (List.mem_cons_of_mem _ m)
          · cases qc
        · cases qc
/-! ### what is read of an owned thing and is flat -/
def mFl (m : M D) : M D := m.bind fun d => if flat d = true then M.pure d else fun _ => .bad
theorem Ex.fl (h : Ex X W md pu e m) : Ex X W .frz pu e (mFl m) := by
  obtain ⟨te, p, k⟩ := h
  refine ⟨te, p, fun G H σ env Fp Q S q => k G H σ env Fp Q S ?_⟩
  unfold mFl at q
  cases r : m env with
  | bad => rw [M.bind_bad r] at q; exact q
  | exn x env' => rw [M.bind_exn r] at q; exact q
  | ok d env' =>
    rw [M.bind_ok r] at q
    by_cases f : flat d = true
    · rw [if_pos f] at q
      intro b G' H' Fp' Fr st S' nd ap pur v
      exact q b G' H' Fp' Fr st S' nd ap pur ⟨(vrd_gr.mp v).1, Den.flat (vrd_gr.mp v).2 f G'⟩
    · rw [if_neg f] at q
      exact q.elim
theorem lnT_nil : ∀ env ds env', mNilT env = .ok ds env' → ds.length = 0 := fun env ds env' h => by
  unfold mNilT M.pure at h
  cases h
  rfl
theorem lnT_cons {ma : M T} {ms : M (List T)} {n : Nat} (h : ∀ env ds env', ms env = .ok ds env' → ds.length = n) : ∀ env ds env', mConsT ma ms env = .ok ds env' → ds.length = n + 1 := fun env ds env' e => by
  unfold mConsT at e
  cases r : ma env with
  | bad => rw [M.bind_bad r] at e; cases e
  | exn x e' => rw [M.bind_exn r] at e; cases e
  | ok d env1 =>
    rw [M.bind_ok r] at e
    cases r2 : ms env1 with
    | bad => rw [M.bind_bad r2] at e; cases e
    | exn x e' => rw [M.bind_exn r2] at e; cases e
    | ok ds2 env2 =>
      rw [M.bind_ok r2] at e
      unfold M.pure at e
      cases e
      rw [List.length_cons, h _ _ _ r2]
end
end DL

/-! Exceptions of own classes that are held: made, their fields read, isinstance asked of them. -/
namespace DL
open PySem PySem.Spec L2 PyProof.Rows

section
variable {prog : Program} {w : World} {A : Around} {E : Value → Shared → Prop} {s : Shared} {K : Frg} {x C : Addr} {ox : Obj} {od : Option Obj}
/-- __class__ is a data descriptor: the instance's dict is not asked -/
theorem class_found (c : ExcC K C) : PySem.W.findObj K C od "__class__" = some (.bind (.builtin "getset_descriptor.__get__") (.builtin "object.__class__")) := by
  obtain ⟨cd, hc, _⟩ := PySem.W.any_some c.hd
  unfold PySem.W.findObj
  rw [hc, Option.bind_some, c.ha, Option.bind_some]
  simp [c.hn, c.ht]
theorem class_of_exc {Q : Option Value → Shared → Prop} (c : ExcC K C) (kin : K.In s.heap) (J : PySem.W.InstAt s.heap x ox C od) (h : Q (some (.ref C)) { s with toks := s.toks + 1 }) : wpAny (model prog w) A (getAttr? (.ref x) "__class__") Q E s := by
  have found := class_found (od := od) c
  obtain ⟨hp, g, d, t, os⟩ := s
  have T0 := J.type (M := model prog w)
  have T1 := PySem.W.looks_findIn (M := model prog w) kin c.hg
  have T2 := PySem.W.looks_findIn (M := model prog w) kin c.hk
  have T3 := PySem.W.looks_find (M := model prog w) kin J found
  have isb : PySem.W.Looks (model prog w) hp (isInstance (.ref x) (.type "BaseException")) true := T0.andThen (PySem.W.looks_subIn kin c.hs)
  have b2 : (Value.builtin "BaseException.__getattribute__" == Value.builtin "object.__getattribute__") = false := by decide +kernel
  have b1 : (onTheHeap (Value.ref C) && Value.builtin "BaseException.__getattribute__" == Value.builtin "object.__getattribute__") = false := by rw [b2]; rfl
  have b0 : (false && onTheHeap (Value.builtin "BaseException.__getattribute__")) = false := rfl
  unfold getAttr? getAttrBy? getAttrBy
  refine wpAny_bind (wpAny_mkText (wpAny_bind (wpAny_attempt (wpAny_holding (wpAny_bind (T0.at (wpAny_bind (T1.at ?_))))))))
  show wpAny _ _ (if (onTheHeap (Value.ref C) && Value.builtin "BaseException.__getattribute__" == Value.builtin "object.__getattribute__") = true then _ else _) _ _ _
  rw [b1, if_neg Bool.false_ne_true]
  unfold getAttrByItsOwn hookBefore
  refine wpAny_bind ?_
  rw [if_pos (show onTheHeap (Value.ref C) = true from rfl)]
  refine T2.at (wpAny_bind (wpAny_attempt (wpAny_holding ?_)))
  unfold callGetattribute
  rw [b0, if_neg Bool.false_ne_true]
  unfold boundAndCalled
  rw [PySem.F.excAttr_ValueError.ga.bind (.ref x)]
  refine wpAny_bind (wpAny_pure ?_)
  show wpAny _ _ (call (.builtin "BaseException.__getattribute__") [.ref x, .str "__class__" t]) _ _ _
  refine wpAny_call (codeAny_call_builtin PySem.F.excAttr_ValueError.ga.plain PySem.F.entry_bexc_ga (@PySem.W.check_slot (model prog w) _ _ ⟨hp, g, d, t + 1, os⟩ "BaseException.__getattribute__" "BaseException" "__getattribute__" (.ref x) [.str "__class__" t] [] _ (by decide +kernel) (by decide +kernel) isb (PySem.F.args_bexc_ga (.ref x) (.str "__class__" t)) ?_))
  unfold Builtin.«object.__getattribute__»
  refine wpAny_bind (wpAny_of_eq (a := ((Value.ref x : Value), [Value.str "__class__" t])) (by first | rfl | (simp only [slotArgs]; rfl)) (wpAny_bind (wpAny_pure (wpAny_bind (T0.at (wpAny_bind (T3.at ?_)))))))
  show wpAny _ _ (holding [Value.builtin "object.__class__"] (call (.builtin "getset_descriptor.__get__") [.builtin "object.__class__", .ref x, .ref C]) >>= ret) _ _ _
  refine wpAny_bind (wpAny_holding (wpAny_call (PySem.W.class_get (s := ⟨hp, g, d, t + 1, os⟩) (ox := ox) (od := od) kin J c.hm (wpAny_pure ?_))))
  show wpAny _ _ (handedOut (.ref C)) _ _ _
  rw [PySem.W.handedOut_of (v := .ref C) rfl]
  first
    | exact wpAny_pure (wpAny_pure h)
    | exact wpAny_pure h
    | exact wpAny_pure (wpAny_bind (wpAny_pure (wpAny_pure h)))
theorem kitx_held (c : ExcC K C) : PySem.W.KitX K (.ref x) (.ref C) (fun h => ∃ ox od, PySem.W.InstAt h x ox C od) where
  ty := fun _ _ _ ⟨_, _, J⟩ => J.type
  it := fun M h kin _ => by
    obtain ⟨cd, hc, _⟩ := PySem.W.any_some c.hd
    unfold PySem.W.clsIn at hc
    split at hc
    · rename_i o1 o2 o3 o4 look
      intro A' Q' E' s' k q
      unfold isType loadHead
      exact wpAny_bind (wpAny_loadPart (k _ _ (kin _ _ look)) (wpAny_pure q))
    · cases hc
  ne := fun h tp dd its n sl kin got => Bool.eq_false_iff.mpr fun z => by
    have e : C = tp := Value.ref.inj (beq_iff_eq.mp z)
    subst e
    obtain ⟨cd, hc, _⟩ := PySem.W.any_some c.hd
    unfold PySem.W.clsIn at hc
    split at hc
    · rename_i o1 o2 o3 o4 look
      cases (kin _ _ look).symm.trans got
    · cases hc
  ca := fun kin ⟨_, _, J⟩ q => class_of_exc c kin J q
end

section
variable {X : Cx}
/-- e stands for an exception of the class C, made, with fields -/
def Held (H : Hp) (e C : Addr) (fs : List (Str × V)) : Prop := ∃ d, H e = some (exo e C (some d)) ∧ H d = some (exd d fs)
theorem Held.up {H H' : Hp} (s : Same H H') {e C : Addr} {fs : List (Str × V)} (h : Held H e C fs) : Held H' e C fs := by
  obtain ⟨d, h1, h2⟩ := h
  exact ⟨d, s _ _ h1, s _ _ h2⟩
theorem held_at {pins : List (Addr × Obj)} {σ : L2.St} {H : Hp} {s : Shared} (I : Inv X pins σ H s) {e C : Addr} {fs : List (Str × V)} (h : Held H e C fs) : ∃ ox od, PySem.W.InstAt s.heap e ox C (some od) ∧ ∀ f v, fs.lookup f = some v → ∃ u, RelV v u ∧ PySem.W.lookIn f od = some (some u) := by
  obtain ⟨d, h1, h2⟩ := h
  obtain ⟨t1, g1⟩ := exo_at I.hok h1
  obtain ⟨mA, hns, hr⟩ := exd_at I.hok h2
  obtain ⟨od, ho, hl⟩ := lookIn_ns hns
  refine ⟨_, od, ⟨g1, rfl, rfl, ho⟩, fun f v e => ?_⟩
  obtain ⟨u, hu, ru⟩ := RelO.some_of (v := v) (o := mA f) (by rw [← e]; exact hr f)
  exact ⟨u, ru, by rw [hl, hu]⟩
/-- isinstance(e, c): e an exception that is held (with a dict, or without) -/
def rIsH (K : Frg) : List V → Hp → VK → Prop := fun xs H Q => ∃ (e C : Addr) (c : V) (cv : Value) (b : Bool), xs = [.ref e, c] ∧ ExcC K C ∧ ((∃ fs, Held H e C fs) ∨ H e = some (ExO (.ref C) e)) ∧ (∀ u, RelV c u → u = cv) ∧ PySem.W.kitOne K (.ref C) cv = some b ∧ Q (.bl b) H
theorem call_isH : CallR X (.builtin "isinstance") (rIsH X.K) := by
  intro pins s σ H xs us Q I r h
  obtain ⟨e, C, c, cv, b, rfl, cc, hh, hcv, ek, q⟩ := h
  obtain ⟨u1, u2, rfl, r1, r2⟩ := vals2 r
  cases r1
  cases hcv _ r2
  have J : ∃ ox od, PySem.W.InstAt s.heap e ox C od := by
    rcases hh with ⟨fs, hh⟩ | hh
    · obtain ⟨ox, od, j, _⟩ := held_at I hh
      exact ⟨ox, _, j⟩
    · obtain ⟨⟨oe, vs, ho, hz, hd, _⟩, _⟩ := I.hok e _ hh
      obtain ⟨oc, oda, odt, osl⟩ := oe
      obtain ⟨z1, z2⟩ := hz
      dsimp only at z1 z2 hd
      subst z1 z2 hd
      exact ⟨_, none, ho, rfl, rfl, trivial⟩
  exact PySem.W.kia_one (kitx_held cc) I.kIn J ek (fun z => nomatch z) fun tk => ⟨.bl b, H, I.kept (t' := tk) fun _ _ z => z, rfl, q⟩
/-- e.f -/
def tFld (K : Frg) (f : Str) (te : TE) : TE := fun σ H Q => te σ H fun x H1 => ∃ (e C : Addr) (fs : List (Str × V)) (v : V), x = .ref e ∧ Held H1 e C fs ∧ XfC K C ∧ PySem.W.findIn K (.ref C) f = some none ∧ fs.lookup f = some v ∧ Q v H1
theorem pe_hfld {e : Expr} {te : TE} {f : Str} {pos : Pos} (he : PE X e te) (hb : attributeBase e f X.env (eval e X.env) = eval e X.env := by rfl) : PE X (.Attribute e f pos) (tFld X.K f te) := by
  refine ⟨fun pins s σ H Q I h => attr_of hb (thn (he.run pins s σ H _ I h) fun u s1 hh => ?_)⟩
  obtain ⟨x, H1, I1, rx, a, C, fs, v, ex, held, T, hno, hl, q⟩ := hh
  subst ex
  obtain rfl : u = Value.ref a := rx
  obtain ⟨ox, od, J, look⟩ := held_at I1 held
  obtain ⟨u, ru, hu⟩ := look f v hl
  exact HandSPX.exc_get I1.kIn J T.ga T.gg T.exC (PySem.W.findObj_own T.hdC hno rfl hu) (handed_of ru) ⟨v, H1, I1.tok _, ru, q⟩
/-- B.__init__(self, ..), B an own class over ValueError without own __init__ -/
theorem pe_oinit {x : Str} {B : Addr} {e : Expr} {es : List Expr} {ta : TA} {p1 p2 pos : Pos} {pl : PySem.Sem Bool} (hg : Gl X x) (hm : X.mg x = some (.ref B)) (hr : PySem.W.readsIn X.K B (.type "type") = true) (hga : PySem.W.specialIn X.K (.ref B) "__getattribute__" = some (some (.builtin "type.__getattribute__")))
    (vV : PySem.W.findCls X.K (.ref B) (.type "type") "__init__" = some (.val (.builtin "ValueError.__init__"))) (ha : PA X (e :: es) ta)
    (hc : eval (.Call (.Attribute (.Name x p1) "__init__" p2) (e :: es) [] pos) X.env = (do
      let ov ← eval (.Name x p1) X.env
      standAt p2.atName
      let (f, first) ← holding [ov] (getMethod ov "__init__" pl)
      callWith pos f first (backTo pos (starEach (e :: es) X.env)) (backToKw pos (keywordEach [] X.env))) := by rfl) (hdb : (x == ("__debug__" : Str)) = false := by decide)
    (he : starEach (e :: es) X.env = (false, eval e X.env) :: starEach es X.env := by rfl) (hpl : (backTo pos (starEach es X.env)).any (·.1) = false := by rfl) : PE X (.Call (.Attribute (.Name x p1) "__init__" p2) (e :: es) [] pos) (tVeI X.K ta) := by
  refine ⟨fun pins s σ H Q I h => PySem.W.methodCall_KW (ld_glob I hg hm (PySem.W.method_cls I.kIn hga (PySem.W.cls_value I.kIn hr vV (by decide +kernel) ?_)) hdb) hc⟩
  show wpAny _ _ (callWith pos (Value.builtin "ValueError.__init__") [] (backTo pos (starEach (e :: es) X.env)) []) _ _ _
  refine PyProof.Rows.callWith_method1 (thn (ha.run pos pins _ σ H _ (I.tok _) h) fun us s1 hh => ?_) he hpl
  obtain ⟨vs, H1, J, rel, a, C, ws, ev, hl, T, ea, q⟩ := hh
  subst ev
  cases rel with
  | @cons _ u0 _ ur r0 r1 =>
    obtain rfl : u0 = Value.ref a := r0
    exact oinit_ok T J ea (by have := Paired.length r1; rw [sizeLine_eq]; omega) fun s' J' => ⟨.non, H1, J', rfl, q⟩
end
end DL

/-! Exceptions of own classes: made by their own __init__, or without one, and held. -/
namespace DL
open PySem PySem.Spec L2 PyProof.Rows

/-- what an own __init__ does: the thing is kept under one name -/
def spIni (K : Frg) (C : Addr) (f : Str) : Sp := fun vs H Q _ => ∃ (a : Addr) (v : V), vs = [.ref a, v] ∧ OexC K C ∧ PySem.W.findIn K (.ref C) f = some none ∧ H a = some (exo a C none) ∧ ∀ dx, H dx = none → dx ≠ a → Q .non (upd (upd H dx (exd dx [(f, v)])) a (exo a C (some dx)))
/-- C(e): a new exception with its dict -/
def tMkH (C : Addr) (f : Str) (te : TE) : TE := fun σ H Q => te σ H fun v H1 => ∀ a dx, H1 a = none → H1 dx = none → dx ≠ a → Q (.ref a) (upd (upd (upd H1 a (exo a C none)) dx (exd dx [(f, v)])) a (exo a C (some dx)))
section
variable {X : Cx}
/-- a def of a class, as it is called with all its arguments -/
structure Ini (P : Program) (w : World) (K : Frg) (mg : Str → Option Value) (base : Heap) (k : Nat) (C : Addr) (f : Str) : Prop where
  cls : OexC K C
  no : PySem.W.findIn K (.ref C) f = some none
  ex : ∃ fI fd ps, PySem.W.findIn K (.ref C) "__init__" = some (some (.ref fI)) ∧ PySem.W.typeIn K (.ref fI) = some (.type "function") ∧ Binds K fd ps [] ∧ ps.length = 2 ∧ FnOk P w K mg base CX0 k fI fd ps (spIni K C f)
theorem pe_mkH {x f : Str} {C : Addr} {k : Nat} {e : Expr} {te : TE} {p pos : Pos} (T : Ini X.prog X.w X.K X.mg X.base k C f) (hr : Room (k + 1) X.A) (hg : Gl X x) (hm : X.mg x = some (.ref C)) (ha : PE X e te)
    (hdb : (x == ("__debug__" : Str)) = false := by decide) (he : starEach [e] X.env = (false, eval e X.env) :: starEach [] X.env := by rfl) (hpl : (backTo pos (starEach [] X.env)).any (·.1) = false := by rfl) : PE X (.Call (.Name x p) [e] [] pos) (tMkH C f te) := by
  obtain ⟨fI, fd, ps, iC, tI, hb, hps, F1⟩ := T.ex
  obtain ⟨nm, q, N, bs, bm, sn, sub, ab, col, dd, k0, k1, k2, k3, k5, hC, hbm⟩ := T.cls.cls
  refine ⟨fun pins s σ H Q I h => wpAny_Call_Name_kw (ld_glob I hg hm ?_ hdb)⟩
  have pa : PA X [e] (tCons te tNil) := pa_cons ha pa_nil he
  let Q1 : List V → Hp → Prop := fun vs H1 => match vs with
    | [v] => ∀ a dx, H1 a = none → H1 dx = none → dx ≠ a → Q (.ref a) (upd (upd (upd H1 a (exo a C none)) dx (exd dx [(f, v)])) a (exo a C (some dx)))
    | _ => False
  refine PySem.W.callWith_K (h₀ := X.base) I.ok.mod.kin T.cls.kC (thn (pa.run pos pins s σ H Q1 I h) fun us s1 hh => ⟨hh.choose_spec.choose_spec.1.kIn, ?_⟩) he hpl
  obtain ⟨vs, H1, J, rel, q1⟩ := hh
  have one : ∃ v, vs = [v] := by
    match vs, q1 with
    | [v], _ => exact ⟨v, rfl⟩
  obtain ⟨v, rfl⟩ := one
  have q1 : ∀ a dx, H1 a = none → H1 dx = none → dx ≠ a → Q (.ref a) (upd (upd (upd H1 a (exo a C none)) dx (exd dx [(f, v)])) a (exo a C (some dx))) := q1
  obtain ⟨u, rfl, ru⟩ := rel.one
  show wpAny _ _ (call (.ref C) [u]) _ _ _
  obtain ⟨hp, g, dr, tk, os⟩ := s1
  let a := hp.objs.size + 1
  have above : hp.objs.size ≤ a := Nat.le_succ _
  have na : H1 a = none := J.hok.fresh above
  let hp2 := (hp.push (PySem.W.kdv_tup [u])).push (PySem.HandSPX.excO C hp.objs.size)
  have keep : ∀ b o, hp.get? b = some o → hp2.get? b = some o := fun b o e => Heap.get?_push_of_some _ (Heap.get?_push_of_some _ e)
  have got : hp2.get? a = some (PySem.HandSPX.excO C hp.objs.size) := by
    show ((hp.push (PySem.W.kdv_tup [u])).push (PySem.HandSPX.excO C hp.objs.size)).get? (hp.objs.size + 1) = _
    heap_get
  have J2 : Inv X pins σ (upd H1 a (exo a C none)) ⟨hp2, g, dr, tk, os⟩ := J.laid (t' := tk) (a := a) (o := exo a C none) (h' := hp2) keep above (exo_ok got)
  have rel2 : Vals [V.ref a, v] [Value.ref a, u] := .cons rfl (.cons ru .nil)
  have sp1 : spIni X.K C f [V.ref a, v] (upd H1 a (exo a C none)) (fun r H2 => r = .non ∧ Q (.ref a) H2) (fun _ _ _ => False) := by
    refine ⟨a, v, rfl, T.cls, T.no, upd_same, fun dx hd ne => ⟨rfl, q1 a dx na ?_ ne⟩⟩
    rw [upd_ne ne] at hd
    exact hd
  have bnd : BindsTo _ fd ⟨[Value.ref a, u], []⟩ (ps.zip ([Value.ref a, u] ++ [])) := hb ⟨hp2, g, dr, tk, os⟩ [Value.ref a, u] J2.kIn (by rw [hps]; rfl)
  refine wpAny_call (PySem.HandSPX.call_own F.excBase_ValueError (fun Y => PySem.HandSPX.refsVE_contains Y bm hbm) (J.kIn _ _ hC) (PySem.W.looks_findIn J.kIn iC) (fun self => PySem.W.bind_fn J.kIn self tI) (by rw [sizeLine_eq]; simp)
    (codeAny_mono (F1.run _ X.stack _ _ ⟨[Value.ref a, u], []⟩ [Value.ref a, u] _ _ (fun _ _ _ => False) (hr.make C [u] []) (J2.env0.make C [u] []) bnd rel2 sp1) fun r s' out => ?_))
  cases r with
  | error er => exact False.elim out
  | ok fl =>
    cases fl with
    | ret w =>
      obtain ⟨r, H2, I3, rr, q3⟩ := J2.after out
      obtain ⟨rfl, q3⟩ := q3
      exact ⟨rr, .ref a, H2, I3, rfl, q3⟩
    | next => exact False.elim out
    | brk => exact False.elim out
    | cont => exact False.elim out
/-- C(): an own class without own __init__ -/
theorem pe_mk0 {x : Str} {C : Addr} {bmB : List Value} {B newId initId : String} {p pos : Pos} (F : ExcBaseFacts B newId initId bmB) (q : PySem.W.excIn X.K C bmB newId = true) (gC : X.mg x = some (.ref C)) (kC : PySem.W.keepIn X.K (.ref C) = true) (hg : Gl X x)
    (hdb : (x == ("__debug__" : Str)) = false := by decide) : PE X (.Call (.Name x p) [] [] pos) (fun σ H Q => ∀ a, H a = none → Q (.ref a) (upd H a (ExO (.ref C) a))) := by
  refine ⟨fun pins s σ H Q I h => wpAny_Call_Name_kw (ld_glob I hg gC (PySem.W.callWith_K0 I.kIn kC ?_) hdb)⟩
  show wpAny _ _ (call (.ref C) []) _ _ _
  obtain ⟨bm, N, nm, qn, bs, hdct, sn, sub, ab, col, dd, k0, k1, k2, k3, k5, mN, hC, hN, hni, T⟩ := exc_obj I.kIn q
  refine wpAny_call_exc_subT F T hC hN hni (fun h' a hm => ?_) (by show 0 ≤ sizeLine; exact Nat.zero_le _)
  have hn : H a = none := I.hok.gone hm.new
  obtain ⟨t, ht, _, _⟩ := hm.there
  exact ⟨.ref a, upd H a (ExO (.ref C) a), I.laidN hm.keeps hm.new hn (exO_ok ht ⟨rfl, rfl⟩ rfl rfl rfl (show 4 < 6 by decide)), rfl, h a hn⟩
end
/-! ### an own __init__: B.__init__(self, thing); self.f = thing -/
section
variable {P : Program} {w : World} {K : Frg} {mg : Str → Option Value} {base : Heap}
/-- what must be known of the base class B -/
structure BaseI (K : Frg) (mg : Str → Option Value) (b : Str) (B : Addr) : Prop where
  mg : mg b = some (.ref B)
  rd : PySem.W.readsIn K B (.type "type") = true
  ga : PySem.W.specialIn K (.ref B) "__getattribute__" = some (some (.builtin "type.__getattribute__"))
  ini : PySem.W.findCls K (.ref B) (.type "type") "__init__" = some (.val (.builtin "ValueError.__init__"))
end
end DL

namespace DL
open PySem L2 PyProof.Rows
def top (i : Nat) : Stmt := PySem.Challenge.pw_unwaited_k00_errors_and_fractions.main.body.getD i (.Pass ⟨0, 0, 0, 0⟩)

abbrev si_Dead : Stmt := inClass (top 10) 0
theorem sci_Dead : FnScope ["self", "ring"] ["self", "ring"] (defScope si_Dead) := ⟨rfl, rfl, rfl, by decide +kernel, rfl, by decide +kernel, by decide +kernel⟩
theorem oki_Dead {P : Program} {w : World} {K : Frg} {mg : Str → Option Value} {base : Heap} {f B C : Addr} {fd : FuncData} (F : FunD K "__init__" "Dead.__init__" (defArgs si_Dead) (defBody si_Dead) (defScope si_Dead) [.non] [] f fd) (b : BaseI K mg "LoopError" B) : FnOk P w K mg base CX0 1 f fd ["self", "ring"] (spIni K C "ring") := by
  refine F.ok sci_Dead (fun vs H Q E h => ?_) (fun cdv A outer s H vs Q E hr h => ?_)
  · obtain ⟨a, v, rfl, _⟩ := h
    rfl
  · obtain ⟨a, v, rfl, o, no, ha, q⟩ := h
    refine ⟨_, pss_cons (ps_expr (pe_oinit rfl b.mg b.rd b.ga b.ini (pa_cons (pv 0) (pa_cons (pv 1) pa_nil))) rfl) (pss_one (ps_ost (pv 0) (pv 1))), ?_⟩
    exact ⟨_, rfl, _, rfl, a, C, _, rfl, by simp, o, ha, _, rfl, _, rfl, a, C, rfl, o, no, .inl ⟨ha, fun dx n ne => q dx n ne⟩⟩

abbrev si_NoCommand : Stmt := inClass (top 11) 0
theorem sci_NoCommand : FnScope ["self", "line"] ["self", "line"] (defScope si_NoCommand) := ⟨rfl, rfl, rfl, by decide +kernel, rfl, by decide +kernel, by decide +kernel⟩
theorem oki_NoCommand {P : Program} {w : World} {K : Frg} {mg : Str → Option Value} {base : Heap} {f B C : Addr} {fd : FuncData} (F : FunD K "__init__" "NoCommand.__init__" (defArgs si_NoCommand) (defBody si_NoCommand) (defScope si_NoCommand) [.non] [] f fd) (b : BaseI K mg "LoopError" B) : FnOk P w K mg base CX0 1 f fd ["self", "line"] (spIni K C "line") := by
  refine F.ok sci_NoCommand (fun vs H Q E h => ?_) (fun cdv A outer s H vs Q E hr h => ?_)
  · obtain ⟨a, v, rfl, _⟩ := h
    rfl
  · obtain ⟨a, v, rfl, o, no, ha, q⟩ := h
    refine ⟨_, pss_cons (ps_expr (pe_oinit rfl b.mg b.rd b.ga b.ini (pa_cons (pv 0) (pa_cons (pv 1) pa_nil))) rfl) (pss_one (ps_ost (pv 0) (pv 1))), ?_⟩
    exact ⟨_, rfl, _, rfl, a, C, _, rfl, by simp, o, ha, _, rfl, _, rfl, a, C, rfl, o, no, .inl ⟨ha, fun dx n ne => q dx n ne⟩⟩

abbrev si_NoTask : Stmt := inClass (top 12) 0
theorem sci_NoTask : FnScope ["self", "name"] ["self", "name"] (defScope si_NoTask) := ⟨rfl, rfl, rfl, by decide +kernel, rfl, by decide +kernel, by decide +kernel⟩
theorem oki_NoTask {P : Program} {w : World} {K : Frg} {mg : Str → Option Value} {base : Heap} {f B C : Addr} {fd : FuncData} (F : FunD K "__init__" "NoTask.__init__" (defArgs si_NoTask) (defBody si_NoTask) (defScope si_NoTask) [.non] [] f fd) (b : BaseI K mg "LoopError" B) : FnOk P w K mg base CX0 1 f fd ["self", "name"] (spIni K C "name") := by
  refine F.ok sci_NoTask (fun vs H Q E h => ?_) (fun cdv A outer s H vs Q E hr h => ?_)
  · obtain ⟨a, v, rfl, _⟩ := h
    rfl
  · obtain ⟨a, v, rfl, o, no, ha, q⟩ := h
    refine ⟨_, pss_cons (ps_expr (pe_oinit rfl b.mg b.rd b.ga b.ini (pa_cons (pv 0) (pa_cons (pv 1) pa_nil))) rfl) (pss_one (ps_ost (pv 0) (pv 1))), ?_⟩
    exact ⟨_, rfl, _, rfl, a, C, _, rfl, by simp, o, ha, _, rfl, _, rfl, a, C, rfl, o, no, .inl ⟨ha, fun dx n ne => q dx n ne⟩⟩

abbrev si_NoText : Stmt := inClass (top 13) 0
theorem sci_NoText : FnScope ["self", "place"] ["self", "place"] (defScope si_NoText) := ⟨rfl, rfl, rfl, by decide +kernel, rfl, by decide +kernel, by decide +kernel⟩
theorem oki_NoText {P : Program} {w : World} {K : Frg} {mg : Str → Option Value} {base : Heap} {f B C : Addr} {fd : FuncData} (F : FunD K "__init__" "NoText.__init__" (defArgs si_NoText) (defBody si_NoText) (defScope si_NoText) [.non] [] f fd) (b : BaseI K mg "LoopError" B) : FnOk P w K mg base CX0 1 f fd ["self", "place"] (spIni K C "place") := by
  refine F.ok sci_NoText (fun vs H Q E h => ?_) (fun cdv A outer s H vs Q E hr h => ?_)
  · obtain ⟨a, v, rfl, _⟩ := h
    rfl
  · obtain ⟨a, v, rfl, o, no, ha, q⟩ := h
    refine ⟨_, pss_cons (ps_expr (pe_oinit rfl b.mg b.rd b.ga b.ini (pa_cons (pv 0) (pa_cons (pv 1) pa_nil))) rfl) (pss_one (ps_ost (pv 0) (pv 1))), ?_⟩
    exact ⟨_, rfl, _, rfl, a, C, _, rfl, by simp, o, ha, _, rfl, _, rfl, a, C, rfl, o, no, .inl ⟨ha, fun dx n ne => q dx n ne⟩⟩

abbrev si_TooMany : Stmt := inClass (top 15) 0
theorem sci_TooMany : FnScope ["self", "most"] ["self", "most"] (defScope si_TooMany) := ⟨rfl, rfl, rfl, by decide +kernel, rfl, by decide +kernel, by decide +kernel⟩
theorem oki_TooMany {P : Program} {w : World} {K : Frg} {mg : Str → Option Value} {base : Heap} {f B C : Addr} {fd : FuncData} (F : FunD K "__init__" "TooMany.__init__" (defArgs si_TooMany) (defBody si_TooMany) (defScope si_TooMany) [.non] [] f fd) (b : BaseI K mg "LoopError" B) : FnOk P w K mg base CX0 1 f fd ["self", "most"] (spIni K C "most") := by
  refine F.ok sci_TooMany (fun vs H Q E h => ?_) (fun cdv A outer s H vs Q E hr h => ?_)
  · obtain ⟨a, v, rfl, _⟩ := h
    rfl
  · obtain ⟨a, v, rfl, o, no, ha, q⟩ := h
    refine ⟨_, pss_cons (ps_expr (pe_oinit rfl b.mg b.rd b.ga b.ini (pa_cons (pv 0) (pa_cons (pv 1) pa_nil))) rfl) (pss_one (ps_ost (pv 0) (pv 1))), ?_⟩
    exact ⟨_, rfl, _, rfl, a, C, _, rfl, by simp, o, ha, _, rfl, _, rfl, a, C, rfl, o, no, .inl ⟨ha, fun dx n ne => q dx n ne⟩⟩

abbrev si_Unlike : Stmt := inClass (top 16) 0
theorem sci_Unlike : FnScope ["self", "step"] ["self", "step"] (defScope si_Unlike) := ⟨rfl, rfl, rfl, by decide +kernel, rfl, by decide +kernel, by decide +kernel⟩
theorem oki_Unlike {P : Program} {w : World} {K : Frg} {mg : Str → Option Value} {base : Heap} {f B C : Addr} {fd : FuncData} (F : FunD K "__init__" "Unlike.__init__" (defArgs si_Unlike) (defBody si_Unlike) (defScope si_Unlike) [.non] [] f fd) (b : BaseI K mg "LoopError" B) : FnOk P w K mg base CX0 1 f fd ["self", "step"] (spIni K C "step") := by
  refine F.ok sci_Unlike (fun vs H Q E h => ?_) (fun cdv A outer s H vs Q E hr h => ?_)
  · obtain ⟨a, v, rfl, _⟩ := h
    rfl
  · obtain ⟨a, v, rfl, o, no, ha, q⟩ := h
    refine ⟨_, pss_cons (ps_expr (pe_oinit rfl b.mg b.rd b.ga b.ini (pa_cons (pv 0) (pa_cons (pv 1) pa_nil))) rfl) (pss_one (ps_ost (pv 0) (pv 1))), ?_⟩
    exact ⟨_, rfl, _, rfl, a, C, _, rfl, by simp, o, ha, _, rfl, _, rfl, a, C, rfl, o, no, .inl ⟨ha, fun dx n ne => q dx n ne⟩⟩

abbrev si_Wrong : Stmt := inClass (top 17) 0
theorem sci_Wrong : FnScope ["self", "place"] ["self", "place"] (defScope si_Wrong) := ⟨rfl, rfl, rfl, by decide +kernel, rfl, by decide +kernel, by decide +kernel⟩
theorem oki_Wrong {P : Program} {w : World} {K : Frg} {mg : Str → Option Value} {base : Heap} {f B C : Addr} {fd : FuncData} (F : FunD K "__init__" "Wrong.__init__" (defArgs si_Wrong) (defBody si_Wrong) (defScope si_Wrong) [.non] [] f fd) (b : BaseI K mg "LoopError" B) : FnOk P w K mg base CX0 1 f fd ["self", "place"] (spIni K C "place") := by
  refine F.ok sci_Wrong (fun vs H Q E h => ?_) (fun cdv A outer s H vs Q E hr h => ?_)
  · obtain ⟨a, v, rfl, _⟩ := h
    rfl
  · obtain ⟨a, v, rfl, o, no, ha, q⟩ := h
    refine ⟨_, pss_cons (ps_expr (pe_oinit rfl b.mg b.rd b.ga b.ini (pa_cons (pv 0) (pa_cons (pv 1) pa_nil))) rfl) (pss_one (ps_ost (pv 0) (pv 1))), ?_⟩
    exact ⟨_, rfl, _, rfl, a, C, _, rfl, by simp, o, ha, _, rfl, _, rfl, a, C, rfl, o, no, .inl ⟨ha, fun dx n ne => q dx n ne⟩⟩

/-! ### errors: their kinds -/
theorem pe_cls {X : Cx} {x : Str} {c : Addr} {pos : Pos} (hg : Gl X x) (hm : X.mg x = some (.ref c)) (hd : (x == ("__debug__" : Str)) = false := by decide) : PE X (.Name x pos) (tC (.ref c)) := pe_glob (v := .ref c) hg hm rfl hd
theorem szs {n : Nat} (h : n ≤ 1000) : n ≤ sizeLine := by rw [sizeLine_eq]; omega
structure ErrK (K : Frg) (mg : Str → Option Value) (C : Nat → Addr) (B : Addr) : Prop where
  base : BaseI K mg "LoopError" B
  m0 : mg "Wrong" = some (.ref (C 0))
  m1 : mg "NoText" = some (.ref (C 1))
  m2 : mg "Dead" = some (.ref (C 2))
  m3 : mg "TooMany" = some (.ref (C 3))
  m4 : mg "NoTask" = some (.ref (C 4))
  m5 : mg "NoCommand" = some (.ref (C 5))
  m6 : mg "Unlike" = some (.ref (C 6))
  m7 : mg "Nothing" = some (.ref (C 7))
  isi : mg "isinstance" = none
  ve : mg "ValueError" = none
  rng : mg "range" = none
  lst : mg "list" = none
  cc : ∀ i, i < 8 → ExcC K (C i)
  kk : ∀ i j, i < 8 → j < 8 → PySem.W.kitOne K (.ref (C i)) (.ref (C j)) = some (decide (i = j))
  kb : ∀ i, i < 8 → PySem.W.kitOne K (.ref (C i)) (.ref B) = some true
  kv : ∀ i, i < 8 → PySem.W.kitOne K (.ref (C i)) (.type "ValueError") = some true
def IsErr (H : Hp) (e C : Addr) : Prop := (∃ fs, Held H e C fs) ∨ H e = some (ExO (.ref C) e)
theorem IsErr.up {H H' : Hp} (s : Same H H') {e C : Addr} (h : IsErr H e C) : IsErr H' e C := h.elim (fun ⟨fs, h⟩ => .inl ⟨fs, h.up s⟩) fun h => .inr (s _ _ h)
section
variable {P : Program} {w : World} {K : Frg} {mg : Str → Option Value} {base : Heap} {C : Nat → Addr} {B : Addr}
theorem rd_isi {K : Frg} {mg : Str → Option Value} {C : Nat → Addr} {B : Addr} (T : ErrK K mg C B) {i j : Nat} {e : Addr} {σ : L2.St} {H : Hp} {Q : VK} {s : Nat} (hi : i < 8) (hj : j < 8) (hs : σ[s]? = some (some (.ref e))) (he : IsErr H e (C i)) (q : Q (.bl (decide (i = j))) H) :
    tCB (rIsH K) (tCons (tVar s) (tCons (tC (.ref (C j))) tNil)) σ H Q := ⟨_, hs, e, C i, .ref (C j), .ref (C j), _, rfl, T.cc i hi, he, fun _ r => r, T.kk i j hi hj, q⟩
def kindsV (i : Nat) : List V := (List.range 8).map fun j => .bl (decide (i = j))
def spKinds (C : Nat → Addr) : Sp := fun vs H Q _ => ∃ e i, vs = [.ref e] ∧ i < 8 ∧ IsErr H e (C i) ∧ ∀ l H', Same H H' → H l = none → H' l = some (.lst (kindsV i)) → Q (.ref l) H'
abbrev s_kinds : Stmt := top 29
theorem sc_kinds : FnScope ["error", "found"] ["error"] (defScope s_kinds) := ⟨rfl, rfl, rfl, by decide +kernel, rfl, by decide +kernel, by decide +kernel⟩
theorem same_new {H : Hp} {p : Addr} (hp : H p = none) (o : HO) : Same H (upd H p o) := fun a u e => by rw [upd_ne (ne_of_none e hp)]; exact e
theorem ok_kinds {f : Addr} {fd : FuncData} (F : Fun K "_law_kinds" "_law_kinds" s_kinds f fd) (T : ErrK K mg C B) : FnG P w K mg base 1 f fd ["error"] (spKinds C) := by
  refine fnG_of F sc_kinds (fun vs H Q E h => ?_) fun cdv A outer s H vs Q E room h => ?_
  · obtain ⟨e, i, rfl, _⟩ := h
    rfl
  · obtain ⟨e, i, rfl, hi, he, q⟩ := h
    have nd := sc_kinds.nd
    refine ⟨_, pss_cons (ps_set (i := 1) nd rfl (.inl rfl) (pe_lst (pa_cons (pe_callB call_isH rfl T.isi PyProof.Rows.boot_isinstance (pa_cons (pv 0) (pa_cons (pe_cls rfl T.m0) pa_nil)))
        (pa_cons (pe_callB call_isH rfl T.isi PyProof.Rows.boot_isinstance (pa_cons (pv 0) (pa_cons (pe_cls rfl T.m1) pa_nil)))
        (pa_cons (pe_callB call_isH rfl T.isi PyProof.Rows.boot_isinstance (pa_cons (pv 0) (pa_cons (pe_cls rfl T.m2) pa_nil)))
        (pa_cons (pe_callB call_isH rfl T.isi PyProof.Rows.boot_isinstance (pa_cons (pv 0) (pa_cons (pe_cls rfl T.m3) pa_nil))) pa_nil))))))
      (pss_cons (ps_expr (pe_bm PySem.F.plainAttrs_list PySem.F.slot_list_extend PySem.F.type_list_extend mt_extend (pv 1) (pa_cons (pe_lst
        (pa_cons (pe_callB call_isH rfl T.isi PyProof.Rows.boot_isinstance (pa_cons (pv 0) (pa_cons (pe_cls rfl T.m4) pa_nil)))
        (pa_cons (pe_callB call_isH rfl T.isi PyProof.Rows.boot_isinstance (pa_cons (pv 0) (pa_cons (pe_cls rfl T.m5) pa_nil)))
        (pa_cons (pe_callB call_isH rfl T.isi PyProof.Rows.boot_isinstance (pa_cons (pv 0) (pa_cons (pe_cls rfl T.m6) pa_nil))) pa_nil)))) pa_nil)) rfl)
      (pss_one (ps_ret (pe_op op_catR (pv 1) (pe_lst (pa_cons (pe_callB call_isH rfl T.isi PyProof.Rows.boot_isinstance (pa_cons (pv 0) (pa_cons (pe_cls rfl T.m7) pa_nil))) pa_nil)))))), ?_⟩
    have e0 : (L2.start ["error", "found"] [V.ref e])[0]? = some (some (V.ref e)) := rfl
    refine rd_isi T hi (by decide) e0 he (rd_isi T hi (by decide) e0 he (rd_isi T hi (by decide) e0 he (rd_isi T hi (by decide) e0 he ⟨szs (by simp), fun l hl => ?_⟩)))
    have s1 := same_new hl (HO.lst [V.bl (decide (i = 0)), .bl (decide (i = 1)), .bl (decide (i = 2)), .bl (decide (i = 3))])
    have he1 := he.up s1
    refine ⟨.ref l, rfl, .inl ⟨rfl, _, .inl (.inl upd_same)⟩, ?_⟩
    refine rd_isi T hi (by decide) rfl he1 (rd_isi T hi (by decide) rfl he1 (rd_isi T hi (by decide) rfl he1 ⟨szs (by simp), fun b hb => ?_⟩))
    have hlb : l ≠ b := ne_of_none upd_same hb
    have ob : H b = none := by rw [upd_ne hlb.symm] at hb; exact hb
    refine ⟨l, b, _, _, rfl, rfl, (by rw [upd_ne hlb]; exact upd_same), upd_same, szs (by simp), ?_⟩
    refine ⟨.ref l, rfl, ?_⟩
    have s2 : Same H (upd (upd (upd H l (HO.lst [V.bl (decide (i = 0)), .bl (decide (i = 1)), .bl (decide (i = 2)), .bl (decide (i = 3))])) b (HO.lst [V.bl (decide (i = 4)), .bl (decide (i = 5)), .bl (decide (i = 6))])) l (HO.lst ([V.bl (decide (i = 0)), .bl (decide (i = 1)), .bl (decide (i = 2)), .bl (decide (i = 3))] ++ [V.bl (decide (i = 4)), .bl (decide (i = 5)), .bl (decide (i = 6))]))) := fun a u z => by
      rw [upd_ne (ne_of_none z hl), upd_ne (ne_of_none z ob), upd_ne (ne_of_none z hl)]
      exact z
    refine rd_isi T hi (by decide) rfl (he.up s2) ⟨szs (by simp), fun c hc => ?_⟩
    have hlc : l ≠ c := ne_of_none upd_same hc
    refine ⟨l, c, _, _, rfl, rfl, .inl (.inl (by rw [upd_ne hlc]; exact upd_same)), .inl (.inl upd_same), szs (by simp), fun r hr => ?_⟩
    have s3 := same_new hc (HO.lst [V.bl (decide (i = 7))])
    have s4 := same_new hr (HO.lst ([V.bl (decide (i = 0)), .bl (decide (i = 1)), .bl (decide (i = 2)), .bl (decide (i = 3)), .bl (decide (i = 4)), .bl (decide (i = 5)), .bl (decide (i = 6))] ++ [V.bl (decide (i = 7))]))
    refine q r _ ((s2.trans s3).trans s4) ?_ upd_same
    cases z : H r with
    | none => rfl
    | some o => rw [(s2.trans s3) r o z] at hr; cases hr
end

/-! ### errors: made -/
theorem rd_mk {C : Addr} {f : Str} {s : Nat} {v : V} {σ : L2.St} {H : Hp} {Q : VK} (hs : σ[s]? = some (some v)) (q : ∀ e H', Same H H' → Held H' e C [(f, v)] → Q (.ref e) H') : tMkH C f (tVar s) σ H Q :=
  ⟨v, hs, fun a dx ha hd ne => q a _ (fun b o e => by
    rw [upd_ne (ne_of_none e ha), upd_ne (ne_of_none e hd), upd_ne (ne_of_none e ha)]
    exact e) ⟨dx, upd_same, by rw [upd_ne ne, upd_same]⟩⟩
/-- (e, e.f, thing) -/
theorem rd_tr {K : Frg} {C e : Addr} {f : Str} {s t : Nat} {v u : V} {σ : L2.St} {H : Hp} {Q : VK} (hs : σ[s]? = some (some (.ref e))) (ht : σ[t]? = some (some u)) (he : Held H e C [(f, v)]) (xf : XfC K C) (no : PySem.W.findIn K (.ref C) f = some none)
    (q : ∀ p H', Same H H' → H' p = some (.tup [.ref e, v, u]) → Q (.ref p) H') : tTup (tCons (tVar s) (tCons (tFld K f (tVar s)) (tCons (tVar t) tNil))) σ H Q :=
  ⟨_, hs, _, hs, e, C, _, v, rfl, he, xf, no, (by simp [List.lookup]), _, ht, szs (by simp), fun p hp => q p _ (same_new hp _) upd_same⟩
theorem PE.imp' {X : Cx} {e : Expr} {t t' : TE} (h : PE X e t) (k : ∀ σ H Q, t' σ H Q → t σ H Q) : PE X e t' := ⟨fun pins s σ H Q I q => h.run pins s σ H Q I (k σ H Q q)⟩
def tMkV (C : Addr) (f : Str) (s : Nat) : TE := fun σ H Q => ∃ v, σ[s]? = some (some v) ∧ ∀ e H', Same H H' → Held H' e C [(f, v)] → Q (.ref e) H'
def tTrV (K : Frg) (f : Str) (s t : Nat) : TE := fun σ H Q => ∃ e C v u, σ[s]? = some (some (.ref e)) ∧ σ[t]? = some (some u) ∧ Held H e C [(f, v)] ∧ XfC K C ∧ PySem.W.findIn K (.ref C) f = some none ∧ ∀ p H', Same H H' → H' p = some (.tup [.ref e, v, u]) → Q (.ref p) H'
theorem pe_mkV {X : Cx} {x f : Str} {C : Addr} {k s : Nat} {e : Expr} {p pos : Pos} (T : Ini X.prog X.w X.K X.mg X.base k C f) (hr : Room (k + 1) X.A) (hg : Gl X x) (hm : X.mg x = some (.ref C)) (ha : PE X e (tVar s))
    (hdb : (x == ("__debug__" : Str)) = false := by decide) (he : starEach [e] X.env = (false, eval e X.env) :: starEach [] X.env := by rfl) (hpl : (backTo pos (starEach [] X.env)).any (·.1) = false := by rfl) : PE X (.Call (.Name x p) [e] [] pos) (tMkV C f s) :=
  PE.imp' (pe_mkH T hr hg hm ha hdb he hpl) fun σ H Q ⟨v, hs, q⟩ => rd_mk hs q
theorem pe_trV {X : Cx} {f : Str} {s t kt : Nat} {a a' b : Expr} {p pos : Pos} (ha : PE X a (tVar s)) (ha' : PE X a' (tVar s)) (hb : PE X b (tVar t)) (hx : attributeBase a' f X.env (eval a' X.env) = eval a' X.env := by rfl)
    (h1 : starEach [a, .Attribute a' f p, b] X.env = (false, eval a X.env) :: starEach [.Attribute a' f p, b] X.env := by rfl) (h2 : starEach [.Attribute a' f p, b] X.env = (false, eval (.Attribute a' f p) X.env) :: starEach [b] X.env := by rfl) (h3 : starEach [b] X.env = (false, eval b X.env) :: starEach [] X.env := by rfl) :
    PE X (.Tuple [a, .Attribute a' f p, b] kt pos) (tTrV X.K f s t) :=
  PE.imp' (pe_tup (pa_cons ha (pa_cons (pe_hfld ha' hx) (pa_cons hb pa_nil h3) h2) h1)) fun σ H Q ⟨e, C, v, u, z1, z2, z3, z4, z5, q⟩ => rd_tr z1 z2 z3 z4 z5 q
structure ErrD (P : Program) (w : World) (K : Frg) (mg : Str → Option Value) (base : Heap) (C : Nat → Addr) : Prop where
  i0 : Ini P w K mg base 1 (C 0) "place"
  i1 : Ini P w K mg base 1 (C 1) "place"
  i2 : Ini P w K mg base 1 (C 2) "ring"
  i3 : Ini P w K mg base 1 (C 3) "most"
  i4 : Ini P w K mg base 1 (C 4) "name"
  i5 : Ini P w K mg base 1 (C 5) "line"
  i6 : Ini P w K mg base 1 (C 6) "step"
  x : ∀ i, i < 7 → XfC K (C i)
  e7 : PySem.W.excIn K (C 7) [.type "ValueError", .type "Exception", .type "BaseException", .type "object"] "ValueError.__new__" = true
  k7 : PySem.W.keepIn K (.ref (C 7)) = true
/-- which thing the error at place i keeps -/
def thV (v1 v2 : V) (i : Nat) : V := if i = 7 then .non else if i % 2 = 0 ∧ i ≠ 3 ∨ i = 2 then v1 else v2
structure LotAt (C : Nat → Addr) (H : Hp) (l : Addr) (th : Nat → V) : Prop where
  ex : ∃ ts : List Addr, H l = some (.lst (ts.map V.ref)) ∧ ts.length = 8 ∧ ∀ i t, ts[i]? = some t → ∃ e, H t = some (.tup [.ref e, th i, th i]) ∧ IsErr H e (C i)
def thL (v1 v2 : V) : Nat → V
  | 0 => v1 | 1 => v2 | 2 => v1 | 3 => v2 | 4 => v1 | 5 => v2 | 6 => v1
  | _ => .non
def spErrs (C : Nat → Addr) : Sp := fun vs H Q _ => ∃ v1 v2, vs = [v1, v2] ∧ ∀ l H', Same H H' → H l = none → LotAt C H' l (thL v1 v2) → Q (.ref l) H'
section
variable {P : Program} {w : World} {K : Frg} {mg : Str → Option Value} {base : Heap} {C : Nat → Addr} {B : Addr}
abbrev s_errs : Stmt := top 28
abbrev N_errs : List Str := ["one", "two", "wrong", "text", "dead", "many", "task", "line", "unlike", "found"]
theorem sc_errs : FnScope N_errs ["one", "two"] (defScope s_errs) := ⟨rfl, rfl, rfl, by decide +kernel, rfl, by decide +kernel, by decide +kernel⟩
theorem ok_errs {f : Addr} {fd : FuncData} (F : Fun K "_law_errors" "_law_errors" s_errs f fd) (T : ErrK K mg C B) (D : ErrD P w K mg base C) : FnG P w K mg base 3 f fd ["one", "two"] (spErrs C) := by
  refine fnG_of F sc_errs (fun vs H Q E h => ?_) fun cdv A outer s H vs Q E room h => ?_
  · obtain ⟨v1, v2, rfl, _⟩ := h
    rfl
  · obtain ⟨v1, v2, rfl, q⟩ := h
    have nd := sc_errs.nd
    have hr := room.rm
    refine ⟨_, pss_cons (ps_asg (pe_tup (pa_cons (pe_mkV D.i0 hr rfl T.m0 (pv 0)) (pa_cons (pe_mkV D.i1 hr rfl T.m1 (pv 1)) (pa_cons (pe_mkV D.i2 hr rfl T.m2 (pv 0)) (pa_cons (pe_mkV D.i3 hr rfl T.m3 (pv 1)) pa_nil)))))
        (pg_tup rfl (pgs_cons (pg_name (i := 2) nd rfl (.inl rfl)) (pgs_cons (pg_name (i := 3) nd rfl (.inl rfl)) (pgs_cons (pg_name (i := 4) nd rfl (.inl rfl)) (pgs_cons (pg_name (i := 5) nd rfl (.inl rfl)) pgs_nil))))))
      (pss_cons (ps_par3 (i := 6) (j := 7) (l := 8) rfl nd rfl rfl rfl (by decide) (by decide) (by decide) rfl rfl rfl (pa_cons (pe_mkV D.i4 hr rfl T.m4 (pv 0)) (pa_cons (pe_mkV D.i5 hr rfl T.m5 (pv 1)) (pa_cons (pe_mkV D.i6 hr rfl T.m6 (pv 0)) pa_nil))) rfl)
      (pss_cons (ps_set (i := 9) nd rfl (.inl rfl) (pe_lst (pa_cons (pe_trV (pv 2) (pv 2) (pv 0)) (pa_cons (pe_trV (pv 3) (pv 3) (pv 1))
          (pa_cons (pe_trV (pv 4) (pv 4) (pv 0)) (pa_cons (pe_trV (pv 5) (pv 5) (pv 1)) pa_nil))))))
      (pss_cons (ps_expr (pe_bm PySem.F.plainAttrs_list PySem.F.slot_list_extend PySem.F.type_list_extend mt_extend (pv 9) (pa_cons (pe_lst
          (pa_cons (pe_trV (pv 6) (pv 6) (pv 0)) (pa_cons (pe_trV (pv 7) (pv 7) (pv 1)) (pa_cons (pe_trV (pv 8) (pv 8) (pv 0)) pa_nil)))) pa_nil)) rfl)
      (pss_one (ps_ret (pe_op op_catR (pv 9) (pe_lst (pa_cons (pe_tup (pa_cons (pe_mk0 PySem.F.excBase_ValueError D.e7 T.m7 D.k7 rfl) (pa_cons pe_non (pa_cons pe_non pa_nil)))) pa_nil)))))))), ?_⟩
    refine ⟨_, rfl, fun e0 H0 k0 h0 => ?_⟩
    refine ⟨_, rfl, fun e1 H1 k1 h1 => ?_⟩
    refine ⟨_, rfl, fun e2 H2 k2 h2 => ?_⟩
    refine ⟨_, rfl, fun e3 H3 k3 h3 => ?_⟩
    refine ⟨szs (by simp), fun p hp => ?_⟩
    have kp := same_new hp (HO.tup [V.ref e0, .ref e1, .ref e2, .ref e3])
    refine ⟨p, _, rfl, .inl (.inl upd_same), rfl, _, _, rfl, _, _, rfl, _, _, rfl, _, _, rfl, rfl, ?_⟩
    have h0 := h0.up (k1.trans (k2.trans (k3.trans kp)))
    have h1 := h1.up (k2.trans (k3.trans kp))
    have h2 := h2.up (k3.trans kp)
    have h3 := h3.up kp
    have kk : Same H _ := k0.trans (k1.trans (k2.trans (k3.trans kp)))
    clear k0 k1 k2 k3 kp hp
    generalize upd H3 p (HO.tup [V.ref e0, .ref e1, .ref e2, .ref e3]) = G at *
    refine ⟨_, rfl, fun e4 H4 k4 h4 => ?_⟩
    refine ⟨_, rfl, fun e5 H5 k5 h5 => ?_⟩
    refine ⟨_, rfl, fun e6 H6 k6 h6 => ?_⟩
    refine ⟨_, _, _, rfl, ?_⟩
    have h0 := h0.up (k4.trans (k5.trans k6))
    have h1 := h1.up (k4.trans (k5.trans k6))
    have h2 := h2.up (k4.trans (k5.trans k6))
    have h3 := h3.up (k4.trans (k5.trans k6))
    have h4 := h4.up (k5.trans k6)
    have h5 := h5.up k6
    have kk := kk.trans (k4.trans (k5.trans k6))
    clear k4 k5 k6
    refine ⟨_, _, _, _, rfl, rfl, h0, D.x 0 (by decide), D.i0.no, fun t0 G0 k0 q0 => ?_⟩
    refine ⟨_, _, _, _, rfl, rfl, (h1.up k0), D.x 1 (by decide), D.i1.no, fun t1 G1 k1 q1 => ?_⟩
    refine ⟨_, _, _, _, rfl, rfl, (h2.up (k0.trans k1)), D.x 2 (by decide), D.i2.no, fun t2 G2 k2 q2 => ?_⟩
    refine ⟨_, _, _, _, rfl, rfl, (h3.up (k0.trans (k1.trans k2))), D.x 3 (by decide), D.i3.no, fun t3 G3 k3 q3 => ?_⟩
    refine ⟨szs (by simp), fun l hl => ?_⟩
    have kl := same_new hl (HO.lst [V.ref t0, .ref t1, .ref t2, .ref t3])
    have kA : Same H6 (upd G3 l (HO.lst [V.ref t0, .ref t1, .ref t2, .ref t3])) := k0.trans (k1.trans (k2.trans (k3.trans kl)))
    have q0 := kl _ _ (k3 _ _ (k2 _ _ (k1 _ _ q0)))
    have q1 := kl _ _ (k3 _ _ (k2 _ _ q1))
    have q2 := kl _ _ (k3 _ _ q2)
    have q3 := kl _ _ q3
    have ql : (upd G3 l (HO.lst [V.ref t0, .ref t1, .ref t2, .ref t3])) l = some (HO.lst [V.ref t0, .ref t1, .ref t2, .ref t3]) := upd_same
    have nl : H l = none := by
      cases z : H l with
      | none => rfl
      | some o => rw [(k0.trans (k1.trans (k2.trans k3))) l o (kk l o z)] at hl; cases hl
    generalize upd G3 l (HO.lst [V.ref t0, .ref t1, .ref t2, .ref t3]) = G4 at *
    refine ⟨.ref l, rfl, .inl ⟨rfl, _, .inl (.inl ql)⟩, ?_⟩
    refine ⟨_, _, _, _, rfl, rfl, (h4.up kA), D.x 4 (by decide), D.i4.no, fun t4 G5 k4 q4 => ?_⟩
    refine ⟨_, _, _, _, rfl, rfl, (h5.up (kA.trans k4)), D.x 5 (by decide), D.i5.no, fun t5 G6 k5 q5 => ?_⟩
    refine ⟨_, _, _, _, rfl, rfl, (h6.up (kA.trans (k4.trans k5))), D.x 6 (by decide), D.i6.no, fun t6 G7 k6 q6 => ?_⟩
    refine ⟨szs (by simp), fun b hb => ?_⟩
    have kb := same_new hb (HO.lst [V.ref t4, .ref t5, .ref t6])
    have kB : Same G4 (upd G7 b (HO.lst [V.ref t4, .ref t5, .ref t6])) := k4.trans (k5.trans (k6.trans kb))
    have ql2 := kB _ _ ql
    refine ⟨l, b, _, _, rfl, rfl, ql2, upd_same, szs (by simp), ?_⟩
    have q4 := kb _ _ (k6 _ _ (k5 _ _ q4))
    have q5 := kb _ _ (k6 _ _ q5)
    have q6 := kb _ _ q6
    have q0 := kB _ _ q0
    have q1 := kB _ _ q1
    have q2 := kB _ _ q2
    have q3 := kB _ _ q3
    have h0 := h0.up (kA.trans kB)
    have h1 := h1.up (kA.trans kB)
    have h2 := h2.up (kA.trans kB)
    have h3 := h3.up (kA.trans kB)
    have h4 := h4.up (kA.trans kB)
    have h5 := h5.up (kA.trans kB)
    have h6 := h6.up (kA.trans kB)
    have kC : Same H _ := kk.trans (kA.trans kB)
    clear kA kB kk k4 k5 k6 kb k0 k1 k2 k3 kl hb hl ql
    generalize upd G7 b (HO.lst [V.ref t4, .ref t5, .ref t6]) = J at *
    have up8 : ∀ a o, J a = some o → (∀ xs, o ≠ .lst xs) → upd J l (HO.lst ([V.ref t0, .ref t1, .ref t2, .ref t3] ++ [V.ref t4, .ref t5, .ref t6])) a = some o := fun a o z n => by
      rw [upd_ne (fun e => by rw [e, ql2] at z; cases z; exact n _ rfl)]
      exact z
    have uph : ∀ {e c : Addr} {fs : List (Str × V)}, Held J e c fs → Held (upd J l (HO.lst ([V.ref t0, .ref t1, .ref t2, .ref t3] ++ [V.ref t4, .ref t5, .ref t6]))) e c fs := fun {e c fs} ⟨d, z1, z2⟩ => ⟨d, up8 _ _ z1 (fun xs z => nomatch (show HO.ext _ = HO.lst xs from z)), up8 _ _ z2 (fun xs z => nomatch (show HO.ext _ = HO.lst xs from z))⟩
    have upt : ∀ {t : Addr} {xs : List V}, J t = some (.tup xs) → upd J l (HO.lst ([V.ref t0, .ref t1, .ref t2, .ref t3] ++ [V.ref t4, .ref t5, .ref t6])) t = some (.tup xs) := fun z => up8 _ _ z fun xs z => nomatch z
    have q0 := upt q0
    have q1 := upt q1
    have q2 := upt q2
    have q3 := upt q3
    have q4 := upt q4
    have q5 := upt q5
    have q6 := upt q6
    have h0 := uph h0
    have h1 := uph h1
    have h2 := uph h2
    have h3 := uph h3
    have h4 := uph h4
    have h5 := uph h5
    have h6 := uph h6
    have kD : Same H (upd J l (HO.lst ([V.ref t0, .ref t1, .ref t2, .ref t3] ++ [V.ref t4, .ref t5, .ref t6]))) := fun a o z => by
      rw [upd_ne (ne_of_none z nl)]
      exact kC a o z
    have ql : upd J l (HO.lst ([V.ref t0, .ref t1, .ref t2, .ref t3] ++ [V.ref t4, .ref t5, .ref t6])) l = some (HO.lst ([V.ref t0, .ref t1, .ref t2, .ref t3] ++ [V.ref t4, .ref t5, .ref t6])) := upd_same
    generalize upd J l (HO.lst ([V.ref t0, .ref t1, .ref t2, .ref t3] ++ [V.ref t4, .ref t5, .ref t6])) = M at *
    clear up8 uph upt kC ql2
    refine ⟨.ref l, rfl, fun e7 he7 => ⟨szs (by simp), fun t7 ht7 => ⟨szs (by simp), fun c hc => ?_⟩⟩⟩
    have k7 := same_new he7 (ExO (.ref (C 7)) e7)
    have k8 := same_new ht7 (HO.tup [V.ref e7, .non, .non])
    have k9 := same_new hc (HO.lst [V.ref t7])
    have kE := k7.trans (k8.trans k9)
    refine ⟨l, c, _, _, rfl, rfl, .inl (.inl (kE _ _ ql)), .inl (.inl upd_same), szs (by simp), fun r hr => ?_⟩
    have kr := same_new hr (HO.lst ([V.ref t0, .ref t1, .ref t2, .ref t3, .ref t4, .ref t5, .ref t6] ++ [V.ref t7]))
    have kF := kE.trans kr
    refine q r _ (kD.trans kF) ?_ ⟨[t0, t1, t2, t3, t4, t5, t6, t7], upd_same, rfl, fun i t z => ?_⟩
    · cases z : H r with
      | none => rfl
      | some o => rw [kE r o (kD r o z)] at hr; cases hr
    · match i, z with
      | 0, z => cases z; exact ⟨e0, kF _ _ q0, .inl ⟨_, h0.up kF⟩⟩
      | 1, z => cases z; exact ⟨e1, kF _ _ q1, .inl ⟨_, h1.up kF⟩⟩
      | 2, z => cases z; exact ⟨e2, kF _ _ q2, .inl ⟨_, h2.up kF⟩⟩
      | 3, z => cases z; exact ⟨e3, kF _ _ q3, .inl ⟨_, h3.up kF⟩⟩
      | 4, z => cases z; exact ⟨e4, kF _ _ q4, .inl ⟨_, h4.up kF⟩⟩
      | 5, z => cases z; exact ⟨e5, kF _ _ q5, .inl ⟨_, h5.up kF⟩⟩
      | 6, z => cases z; exact ⟨e6, kF _ _ q6, .inl ⟨_, h6.up kF⟩⟩
      | 7, z => cases z; exact ⟨e7, kr _ _ (k9 _ _ upd_same), .inr (kr _ _ (k9 _ _ (k8 _ _ upd_same)))⟩
      | n + 8, z => simp at z
end

/-! ### _law_take -/
abbrev s__law_take : Stmt := top 20
abbrev N__law_take : List Str := ["bag", "many", "begin", "second", "cell", "stirred", "value"]
theorem sc__law_take : FnScope N__law_take ["bag", "many"] (defScope s__law_take) := ⟨rfl, rfl, rfl, by decide +kernel, rfl, by decide +kernel, by decide +kernel⟩
noncomputable def m__law_take : M Fl := mSeq (mIfS ((m2 dEqS (m2 dIx (mVar 0) (mC (.int 0))) (mC (.int 0))).bind tru) (mSeq (mSet 4 ((mFl (m2 dIx (m2 dCatV (mSlV (m2 dIx (mVar 0) (mC (.int 3))) (mBd (m2 dIx (mVar 0) (mC (.int 2)))) (M.pure none)) ((mL dLst (mCons (mC (.int 0)) (mNil))).map T.er)) (mC (.int 0)))).map T.fz))
  (mSeq (mAugL dIAdd 0 (mC (.int 2)) (mC (.int 1)))
  (mSeq (mIfS ((m2 dGe (mVarF 4) (m2 dPow (mC (.int 10)) (mC (.int 18)))).bind tru) (mStore "list" 0 gSetL ((mVarF 4).map T.fz) (mC (.int 0))) (mNx))
  (mSeq (mSet 5 ((m2 dAdd (m2 dAdd (m2 dMul (m2 dIx (mVar 0) (mC (.int 1))) (mC (.int 48271))) (m2 dMod (mL dInt (mCons (mVarF 4) (mNil))) (mC (.int 2147483647)))) (m2 dMul (mC (.int 7919)) (m2 dIx (mVar 0) (mC (.int 2))))).map T.fz))
  (mStore "list" 0 gSetL ((m2 dMod (mL dInt (mCons (mVarF 5) (mNil))) (mC (.int 2147483647))).map T.fz) (mC (.int 1))))))) (mNx))
  (mSeq (mIfS ((m2 dGt (m2 dIx (mVar 0) (mC (.int 0))) (mC (.int 0))).bind tru) (mSeq (mSet 6 ((m2 dMod (mL dInt (mCons (m2 dIx (mVar 0) (mC (.int 0))) (mNil))) (mVarF 1)).map T.fz))
  (mSeq (mStore "list" 0 gSetL ((m2 dDiv (mL dInt (mCons (m2 dIx (mVar 0) (mC (.int 0))) (mNil))) (mVarF 1)).map T.fz) (mC (.int 0)))
  (mRt ((mVarF 6).map T.fz)))) (mNx))
  (mSeq (mSet 2 ((m2 dMod (mL dInt (mCons (m2 dMul (m2 dAdd (m2 dIx (mVar 0) (mC (.int 1))) (mC (.int 1))) (mC (.int 39373))) (mNil))) (mC (.int 1000000007))).map T.fz))
  (mSeq (mSet 3 ((m2 dMod (mL dInt (mCons (m2 dMul (m2 dMod (mL dInt (mCons (m2 dMul (mVarF 2) (mVarF 2)) (mNil))) (mC (.int 998244353))) (mC (.int 30011))) (mNil))) (mC (.int 998244353))).map T.fz))
  (mRt ((m2 dMod (mL dInt (mCons (m2 dDiv (mVarF 3) (mC (.int 7))) (mNil))) (mVarF 1)).map T.fz)))))
noncomputable def sem__law_take : Sem := semOf [0] 5 m__law_take
structure U__law_take (P : Program) (w : World) (K : Frg) (mg : Str → Option Value) (base : Heap) : Prop where
  n_int : mg "int" = none
theorem ok__law_take {P : Program} {w : World} {K : Frg} {mg : Str → Option Value} {base : Heap} {f : Addr} {fd : FuncData} (F : Fun K "_law_take" "_law_take" s__law_take f fd) (T : U__law_take P w K mg base) : FnG P w K mg base 1 f fd ["bag", "many"] (spD K mg 2 sem__law_take) :=
  def_of F sc__law_take fun cdv A outer s H E room => by
    have nd := (sc__law_take).nd
    have hu7 := hu7_of room; have hu4 := hu4_of room; have hu5 := hu5_of room; have tk := tk_of (P := P) (w := w) (K := K) (mg := mg) (base := base) (N := N__law_take) (qual := "_law_take") (sc := defScope s__law_take) f cdv A outer s H E
    have pz := ps_of (P := P) (w := w) (K := K) (mg := mg) (base := base) (N := N__law_take) (qual := "_law_take") (sc := defScope s__law_take) f cdv A outer s H E
    exact (ss_cons (s_if (t_eqS hu4 (x_ix (fun _ _ => rfl) (ev_name (pv 0)) (Ex.toView (ex_int))) (Ex.toView (ex_int))) (ss_cons (s_set nd rfl (.inl rfl) (Ex.own (Ex.fl (x_ix (fun _ _ => rfl) (x_addL (x_slice (x_ix (fun _ _ => rfl) (ev_name (pv 0)) (Ex.toView (ex_int))) (eb_some (x_ix (fun _ _ => rfl) (ev_name (pv 0)) (Ex.toView (ex_int)))) (eb_none)) (Ex.toView (Eo.freeze (o_lst (ea_cons (ex_int) (ea_nil)))))) (Ex.toView (ex_int))))))
    (ss_cons (s_augL ip_add is_iadd (pv 0) (Ex.toView (ex_int)) (Ex.toView (ex_int)))
    (ss_cons (s_if (t_ge (ef_name (pv 4)) (x_pow (ex_int) (ex_int))) (ss_one (s_store set_list ms_setL (pv 0) (Ex.toView (ex_int)) (Ex.own (ef_name (pv 4))))) (ss_nil))
    (ss_cons (s_set nd rfl (.inl rfl) (Ex.own (x_add (x_add (x_mul (x_ix (fun _ _ => rfl) (ev_name (pv 0)) (Ex.toView (ex_int))) (Ex.toView (ex_int))) (x_mod (b_int rfl T.n_int (ea_cons (ef_name (pv 4)) (ea_nil))) (ex_int))) (x_mul (Ex.toView (ex_int)) (x_ix (fun _ _ => rfl) (ev_name (pv 0)) (Ex.toView (ex_int)))))))
    (ss_one (s_store set_list ms_setL (pv 0) (Ex.toView (ex_int)) (Ex.own (x_mod (b_int rfl T.n_int (ea_cons (ef_name (pv 5)) (ea_nil))) (ex_int))))))))) (ss_nil))
    (ss_cons (s_if (t_gt (x_ix (fun _ _ => rfl) (ev_name (pv 0)) (Ex.toView (ex_int))) (Ex.toView (ex_int))) (ss_cons (s_set nd rfl (.inl rfl) (Ex.own (x_mod (b_int rfl T.n_int (ea_cons (x_ix (fun _ _ => rfl) (ev_name (pv 0)) (Ex.toView (ex_int))) (ea_nil))) (ef_name (pv 1)))))
    (ss_cons (s_store set_list ms_setL (pv 0) (Ex.toView (ex_int)) (Ex.own (x_div (b_int rfl T.n_int (ea_cons (x_ix (fun _ _ => rfl) (ev_name (pv 0)) (Ex.toView (ex_int))) (ea_nil))) (ef_name (pv 1)))))
    (ss_one (s_ret (Ex.own (ef_name (pv 6))))))) (ss_nil))
    (ss_cons (s_set nd rfl (.inl rfl) (Ex.own (x_mod (b_int rfl T.n_int (ea_cons (x_mul (x_add (x_ix (fun _ _ => rfl) (ev_name (pv 0)) (Ex.toView (ex_int))) (Ex.toView (ex_int))) (Ex.toView (ex_int))) (ea_nil))) (ex_int))))
    (ss_cons (s_set nd rfl (.inl rfl) (Ex.own (x_mod (b_int rfl T.n_int (ea_cons (x_mul (x_mod (b_int rfl T.n_int (ea_cons (x_mul (ef_name (pv 2)) (ef_name (pv 2))) (ea_nil))) (ex_int)) (ex_int)) (ea_nil))) (ex_int))))
    (ss_one (s_ret (Ex.own (x_mod (b_int rfl T.n_int (ea_cons (x_div (ef_name (pv 3)) (ex_int)) (ea_nil))) (ef_name (pv 1))))))))))
/-! ### _law_some -/
abbrev s__law_some : Stmt := top 21
abbrev N__law_some : List Str := ["bag", "things"]
theorem sc__law_some : FnScope N__law_some ["bag", "things"] (defScope s__law_some) := ⟨rfl, rfl, rfl, by decide +kernel, rfl, by decide +kernel, by decide +kernel⟩
noncomputable def m__law_some : M Fl := mRt ((m2 dIx (mVarF 1) (((mHas 0).bind fun _ => mCallB sem__law_take 0 (mCons (mL dLen (mCons (mVarF 1) (mNil))) (mNil))).map T.er)).map T.fz)
noncomputable def sem__law_some : Sem := semOf [0] 0 m__law_some
structure U__law_some (P : Program) (w : World) (K : Frg) (mg : Str → Option Value) (base : Heap) : Prop where
  n_len : mg "len" = none
  d__law_take : Def P w K mg base "_law_take" 1 2 sem__law_take
theorem ok__law_some {P : Program} {w : World} {K : Frg} {mg : Str → Option Value} {base : Heap} {f : Addr} {fd : FuncData} (F : Fun K "_law_some" "_law_some" s__law_some f fd) (T : U__law_some P w K mg base) : FnG P w K mg base 2 f fd ["bag", "things"] (spD K mg 2 sem__law_some) :=
  def_of F sc__law_some fun cdv A outer s H E room => by
    have nd := (sc__law_some).nd
    have hu7 := hu7_of room; have hu4 := hu4_of room; have hu5 := hu5_of room; have tk := tk_of (P := P) (w := w) (K := K) (mg := mg) (base := base) (N := N__law_some) (qual := "_law_some") (sc := defScope s__law_some) f cdv A outer s H E
    have pz := ps_of (P := P) (w := w) (K := K) (mg := mg) (base := base) (N := N__law_some) (qual := "_law_some") (sc := defScope s__law_some) f cdv A outer s H E
    exact (ss_one (s_ret (Ex.own (x_ix (fun _ _ => rfl) (ef_name (pv 1)) (Eo.freeze (o_callB T.d__law_take (room.mono (by decide)) tk rfl (pv 0) (ea_cons (b_len rfl T.n_len (ea_cons (ef_name (pv 1)) (ea_nil))) (ea_nil)) (hn := ln_cons (ln_nil))))))))
/-! ### _law_alike -/
abbrev s__law_alike : Stmt := top 22
abbrev N__law_alike : List Str := ["found", "due"]
theorem sc__law_alike : FnScope N__law_alike ["found", "due"] (defScope s__law_alike) := ⟨rfl, rfl, rfl, by decide +kernel, rfl, by decide +kernel, by decide +kernel⟩
noncomputable def m__law_alike : M Fl := mRt ((vAnd (m2 dEqS (mVarF 0) (mVarF 1)) (m2 dEqS (mL dRepr (mCons (mVarF 0) (mNil))) (mL dRepr (mCons (mVarF 1) (mNil))))).map T.fz)
noncomputable def sem__law_alike : Sem := semOf [] 0 m__law_alike
structure U__law_alike (P : Program) (w : World) (K : Frg) (mg : Str → Option Value) (base : Heap) : Prop where
  n_repr : mg "repr" = none
theorem ok__law_alike {P : Program} {w : World} {K : Frg} {mg : Str → Option Value} {base : Heap} {f : Addr} {fd : FuncData} (F : Fun K "_law_alike" "_law_alike" s__law_alike f fd) (T : U__law_alike P w K mg base) : FnG P w K mg base 1 f fd ["found", "due"] (spD K mg 2 sem__law_alike) :=
  def_of F sc__law_alike fun cdv A outer s H E room => by
    have nd := (sc__law_alike).nd
    have hu7 := hu7_of room; have hu4 := hu4_of room; have hu5 := hu5_of room; have tk := tk_of (P := P) (w := w) (K := K) (mg := mg) (base := base) (N := N__law_alike) (qual := "_law_alike") (sc := defScope s__law_alike) f cdv A outer s H E
    have pz := ps_of (P := P) (w := w) (K := K) (mg := mg) (base := base) (N := N__law_alike) (qual := "_law_alike") (sc := defScope s__law_alike) f cdv A outer s H E
    exact (ss_one (s_ret (Ex.own (x_and (x_eqS hu4 (ef_name (pv 0)) (ef_name (pv 1))) (x_one (x_eqS hu4 (b_repr hu7 room.gd rfl T.n_repr (ea_cons (ef_name (pv 0)) (ea_nil))) (b_repr hu7 room.gd rfl T.n_repr (ea_cons (ef_name (pv 1)) (ea_nil)))))))))
/-! ### reduced -/
abbrev s_reduced : Stmt := top 2
abbrev N_reduced : List Str := ["n", "d", "by"]
theorem sc_reduced : FnScope N_reduced ["n", "d"] (defScope s_reduced) := ⟨rfl, rfl, rfl, by decide +kernel, rfl, by decide +kernel, by decide +kernel⟩
noncomputable def m_reduced : M Fl := mSeq (mSet 2 ((mL dGcd (mCons (mVarF 0) (mCons (mVarF 1) (mNil)))).map T.fz))
  (mSeq (mIfS ((m2 dLt (mVarF 1) (mC (.int 0))).bind tru) (mSet 2 ((m1 dNeg (mVarF 2)).map T.fz)) (mNx))
  (mRt ((mL dTup (mCons (m2 dDiv (mVarF 0) (mVarF 2)) (mCons (m2 dDiv (mVarF 1) (mVarF 2)) (mNil)))).map T.fz)))
noncomputable def sem_reduced : Sem := semOf [] 1 m_reduced
structure U_reduced (P : Program) (w : World) (K : Frg) (mg : Str → Option Value) (base : Heap) : Prop where
  gcd : mg "gcd" = some (.builtin "math.gcd")
theorem ok_reduced {P : Program} {w : World} {K : Frg} {mg : Str → Option Value} {base : Heap} {f : Addr} {fd : FuncData} (F : Fun K "reduced" "reduced" s_reduced f fd) (T : U_reduced P w K mg base) : FnG P w K mg base 1 f fd ["n", "d"] (spD K mg 2 sem_reduced) :=
  def_of F sc_reduced fun cdv A outer s H E room => by
    have nd := (sc_reduced).nd
    have hu7 := hu7_of room; have hu4 := hu4_of room; have hu5 := hu5_of room; have tk := tk_of (P := P) (w := w) (K := K) (mg := mg) (base := base) (N := N_reduced) (qual := "reduced") (sc := defScope s_reduced) f cdv A outer s H E
    have pz := ps_of (P := P) (w := w) (K := K) (mg := mg) (base := base) (N := N_reduced) (qual := "reduced") (sc := defScope s_reduced) f cdv A outer s H E
    exact (ss_cons (s_set nd rfl (.inl rfl) (Ex.own (b_gcd rfl T.gcd (ea_cons (ef_name (pv 0)) (ea_cons (ef_name (pv 1)) (ea_nil))))))
    (ss_cons (s_if (t_lt (ef_name (pv 1)) (ex_int)) (ss_one (s_set nd rfl (.inl rfl) (Ex.own (x_neg (ef_name (pv 2)))))) (ss_nil))
    (ss_one (s_ret (Ex.own (x_tup (ea_cons (x_div (ef_name (pv 0)) (ef_name (pv 2))) (ea_cons (x_div (ef_name (pv 1)) (ef_name (pv 2))) (ea_nil)))))))))
/-! ### added -/
abbrev s_added : Stmt := top 3
abbrev N_added : List Str := ["one", "other"]
theorem sc_added : FnScope N_added ["one", "other"] (defScope s_added) := ⟨rfl, rfl, rfl, by decide +kernel, rfl, by decide +kernel, by decide +kernel⟩
noncomputable def m_added : M Fl := mRt (mCall sem_reduced (mCons (m2 dAdd (m2 dMul (m2 dIx (mVarF 0) (mC (.int 0))) (m2 dIx (mVarF 1) (mC (.int 1)))) (m2 dMul (m2 dIx (mVarF 1) (mC (.int 0))) (m2 dIx (mVarF 0) (mC (.int 1))))) (mCons (m2 dMul (m2 dIx (mVarF 0) (mC (.int 1))) (m2 dIx (mVarF 1) (mC (.int 1)))) (mNil))))
noncomputable def sem_added : Sem := semOf [] 0 m_added
structure U_added (P : Program) (w : World) (K : Frg) (mg : Str → Option Value) (base : Heap) : Prop where
  d_reduced : Def P w K mg base "reduced" 1 2 sem_reduced
theorem ok_added {P : Program} {w : World} {K : Frg} {mg : Str → Option Value} {base : Heap} {f : Addr} {fd : FuncData} (F : Fun K "added" "added" s_added f fd) (T : U_added P w K mg base) : FnG P w K mg base 2 f fd ["one", "other"] (spD K mg 2 sem_added) :=
  def_of F sc_added fun cdv A outer s H E room => by
    have nd := (sc_added).nd
    have hu7 := hu7_of room; have hu4 := hu4_of room; have hu5 := hu5_of room; have tk := tk_of (P := P) (w := w) (K := K) (mg := mg) (base := base) (N := N_added) (qual := "added") (sc := defScope s_added) f cdv A outer s H E
    have pz := ps_of (P := P) (w := w) (K := K) (mg := mg) (base := base) (N := N_added) (qual := "added") (sc := defScope s_added) f cdv A outer s H E
    exact (ss_one (s_ret (o_call T.d_reduced (room.mono (by decide)) tk rfl (ea_cons (x_add (x_mul (x_ix (fun _ _ => rfl) (ef_name (pv 0)) (ex_int)) (x_ix (fun _ _ => rfl) (ef_name (pv 1)) (ex_int))) (x_mul (x_ix (fun _ _ => rfl) (ef_name (pv 1)) (ex_int)) (x_ix (fun _ _ => rfl) (ef_name (pv 0)) (ex_int)))) (ea_cons (x_mul (x_ix (fun _ _ => rfl) (ef_name (pv 0)) (ex_int)) (x_ix (fun _ _ => rfl) (ef_name (pv 1)) (ex_int))) (ea_nil))) (hn := ln_cons (ln_cons (ln_nil))))))
/-! ### lessened -/
abbrev s_lessened : Stmt := top 4
abbrev N_lessened : List Str := ["one", "other"]
theorem sc_lessened : FnScope N_lessened ["one", "other"] (defScope s_lessened) := ⟨rfl, rfl, rfl, by decide +kernel, rfl, by decide +kernel, by decide +kernel⟩
noncomputable def m_lessened : M Fl := mRt (mCall sem_reduced (mCons (m2 dSub (m2 dMul (m2 dIx (mVarF 0) (mC (.int 0))) (m2 dIx (mVarF 1) (mC (.int 1)))) (m2 dMul (m2 dIx (mVarF 1) (mC (.int 0))) (m2 dIx (mVarF 0) (mC (.int 1))))) (mCons (m2 dMul (m2 dIx (mVarF 0) (mC (.int 1))) (m2 dIx (mVarF 1) (mC (.int 1)))) (mNil))))
noncomputable def sem_lessened : Sem := semOf [] 0 m_lessened
structure U_lessened (P : Program) (w : World) (K : Frg) (mg : Str → Option Value) (base : Heap) : Prop where
  d_reduced : Def P w K mg base "reduced" 1 2 sem_reduced
theorem ok_lessened {P : Program} {w : World} {K : Frg} {mg : Str → Option Value} {base : Heap} {f : Addr} {fd : FuncData} (F : Fun K "lessened" "lessened" s_lessened f fd) (T : U_lessened P w K mg base) : FnG P w K mg base 2 f fd ["one", "other"] (spD K mg 2 sem_lessened) :=
  def_of F sc_lessened fun cdv A outer s H E room => by
    have nd := (sc_lessened).nd
    have hu7 := hu7_of room; have hu4 := hu4_of room; have hu5 := hu5_of room; have tk := tk_of (P := P) (w := w) (K := K) (mg := mg) (base := base) (N := N_lessened) (qual := "lessened") (sc := defScope s_lessened) f cdv A outer s H E
    have pz := ps_of (P := P) (w := w) (K := K) (mg := mg) (base := base) (N := N_lessened) (qual := "lessened") (sc := defScope s_lessened) f cdv A outer s H E
    exact (ss_one (s_ret (o_call T.d_reduced (room.mono (by decide)) tk rfl (ea_cons (x_sub (x_mul (x_ix (fun _ _ => rfl) (ef_name (pv 0)) (ex_int)) (x_ix (fun _ _ => rfl) (ef_name (pv 1)) (ex_int))) (x_mul (x_ix (fun _ _ => rfl) (ef_name (pv 1)) (ex_int)) (x_ix (fun _ _ => rfl) (ef_name (pv 0)) (ex_int)))) (ea_cons (x_mul (x_ix (fun _ _ => rfl) (ef_name (pv 0)) (ex_int)) (x_ix (fun _ _ => rfl) (ef_name (pv 1)) (ex_int))) (ea_nil))) (hn := ln_cons (ln_cons (ln_nil))))))
/-! ### times -/
abbrev s_times : Stmt := top 5
abbrev N_times : List Str := ["one", "other"]
theorem sc_times : FnScope N_times ["one", "other"] (defScope s_times) := ⟨rfl, rfl, rfl, by decide +kernel, rfl, by decide +kernel, by decide +kernel⟩
noncomputable def m_times : M Fl := mRt (mCall sem_reduced (mCons (m2 dMul (m2 dIx (mVarF 0) (mC (.int 0))) (m2 dIx (mVarF 1) (mC (.int 0)))) (mCons (m2 dMul (m2 dIx (mVarF 0) (mC (.int 1))) (m2 dIx (mVarF 1) (mC (.int 1)))) (mNil))))
noncomputable def sem_times : Sem := semOf [] 0 m_times
structure U_times (P : Program) (w : World) (K : Frg) (mg : Str → Option Value) (base : Heap) : Prop where
  d_reduced : Def P w K mg base "reduced" 1 2 sem_reduced
theorem ok_times {P : Program} {w : World} {K : Frg} {mg : Str → Option Value} {base : Heap} {f : Addr} {fd : FuncData} (F : Fun K "times" "times" s_times f fd) (T : U_times P w K mg base) : FnG P w K mg base 2 f fd ["one", "other"] (spD K mg 2 sem_times) :=
  def_of F sc_times fun cdv A outer s H E room => by
    have nd := (sc_times).nd
    have hu7 := hu7_of room; have hu4 := hu4_of room; have hu5 := hu5_of room; have tk := tk_of (P := P) (w := w) (K := K) (mg := mg) (base := base) (N := N_times) (qual := "times") (sc := defScope s_times) f cdv A outer s H E
    have pz := ps_of (P := P) (w := w) (K := K) (mg := mg) (base := base) (N := N_times) (qual := "times") (sc := defScope s_times) f cdv A outer s H E
    exact (ss_one (s_ret (o_call T.d_reduced (room.mono (by decide)) tk rfl (ea_cons (x_mul (x_ix (fun _ _ => rfl) (ef_name (pv 0)) (ex_int)) (x_ix (fun _ _ => rfl) (ef_name (pv 1)) (ex_int))) (ea_cons (x_mul (x_ix (fun _ _ => rfl) (ef_name (pv 0)) (ex_int)) (x_ix (fun _ _ => rfl) (ef_name (pv 1)) (ex_int))) (ea_nil))) (hn := ln_cons (ln_cons (ln_nil))))))
/-! ### compared -/
abbrev s_compared : Stmt := top 6
abbrev N_compared : List Str := ["one", "other", "left", "right"]
theorem sc_compared : FnScope N_compared ["one", "other"] (defScope s_compared) := ⟨rfl, rfl, rfl, by decide +kernel, rfl, by decide +kernel, by decide +kernel⟩
noncomputable def m_compared : M Fl := mSeq (mPar 2 3 (mConsT ((m2 dMul (m2 dIx (mVarF 0) (mC (.int 0))) (m2 dIx (mVarF 1) (mC (.int 1)))).map T.fz) (mConsT ((m2 dMul (m2 dIx (mVarF 1) (mC (.int 0))) (m2 dIx (mVarF 0) (mC (.int 1)))).map T.fz) (mNilT))))
  (mRt ((m2 dSub (mL dInt (mCons (m2 dGt (mVarF 2) (mVarF 3)) (mNil))) (mL dInt (mCons (m2 dLt (mVarF 2) (mVarF 3)) (mNil)))).map T.fz))
noncomputable def sem_compared : Sem := semOf [] 2 m_compared
structure U_compared (P : Program) (w : World) (K : Frg) (mg : Str → Option Value) (base : Heap) : Prop where
  n_int : mg "int" = none
theorem ok_compared {P : Program} {w : World} {K : Frg} {mg : Str → Option Value} {base : Heap} {f : Addr} {fd : FuncData} (F : Fun K "compared" "compared" s_compared f fd) (T : U_compared P w K mg base) : FnG P w K mg base 1 f fd ["one", "other"] (spD K mg 2 sem_compared) :=
  def_of F sc_compared fun cdv A outer s H E room => by
    have nd := (sc_compared).nd
    have hu7 := hu7_of room; have hu4 := hu4_of room; have hu5 := hu5_of room; have tk := tk_of (P := P) (w := w) (K := K) (mg := mg) (base := base) (N := N_compared) (qual := "compared") (sc := defScope s_compared) f cdv A outer s H E
    have pz := ps_of (P := P) (w := w) (K := K) (mg := mg) (base := base) (N := N_compared) (qual := "compared") (sc := defScope s_compared) f cdv A outer s H E
    exact (ss_cons (s_par rfl nd rfl rfl (by decide) rfl rfl (ey_cons (Ex.own (x_mul (x_ix (fun _ _ => rfl) (ef_name (pv 0)) (ex_int)) (x_ix (fun _ _ => rfl) (ef_name (pv 1)) (ex_int)))) (ey_cons (Ex.own (x_mul (x_ix (fun _ _ => rfl) (ef_name (pv 1)) (ex_int)) (x_ix (fun _ _ => rfl) (ef_name (pv 0)) (ex_int)))) (ey_nil))) rfl)
    (ss_one (s_ret (Ex.own (x_sub (b_int rfl T.n_int (ea_cons (x_gt (ef_name (pv 2)) (ef_name (pv 3))) (ea_nil))) (b_int rfl T.n_int (ea_cons (x_lt (ef_name (pv 2)) (ef_name (pv 3))) (ea_nil))))))))
/-! ### fraction_text -/
abbrev s_fraction_text : Stmt := top 7
abbrev N_fraction_text : List Str := ["fraction"]
theorem sc_fraction_text : FnScope N_fraction_text ["fraction"] (defScope s_fraction_text) := ⟨rfl, rfl, rfl, by decide +kernel, rfl, by decide +kernel, by decide +kernel⟩
noncomputable def m_fraction_text : M Fl := mRt ((mIf ((m2 dEqS (m2 dIx (mVarF 0) (mC (.int 1))) (mC (.int 1))).bind tru) (mL dStr (mCons (m2 dIx (mVarF 0) (mC (.int 0))) (mNil))) (m2 dAdd (m2 dAdd (mL dStr (mCons (m2 dIx (mVarF 0) (mC (.int 0))) (mNil))) (mC (.str "/"))) (mL dStr (mCons (m2 dIx (mVarF 0) (mC (.int 1))) (mNil))))).map T.fz)
noncomputable def sem_fraction_text : Sem := semOf [] 0 m_fraction_text
structure U_fraction_text (P : Program) (w : World) (K : Frg) (mg : Str → Option Value) (base : Heap) : Prop where
  n_str : mg "str" = none
theorem ok_fraction_text {P : Program} {w : World} {K : Frg} {mg : Str → Option Value} {base : Heap} {f : Addr} {fd : FuncData} (F : Fun K "fraction_text" "fraction_text" s_fraction_text f fd) (T : U_fraction_text P w K mg base) : FnG P w K mg base 1 f fd ["fraction"] (spD K mg 1 sem_fraction_text) :=
  def_of F sc_fraction_text fun cdv A outer s H E room => by
    have nd := (sc_fraction_text).nd
    have hu7 := hu7_of room; have hu4 := hu4_of room; have hu5 := hu5_of room; have tk := tk_of (P := P) (w := w) (K := K) (mg := mg) (base := base) (N := N_fraction_text) (qual := "fraction_text") (sc := defScope s_fraction_text) f cdv A outer s H E
    have pz := ps_of (P := P) (w := w) (K := K) (mg := mg) (base := base) (N := N_fraction_text) (qual := "fraction_text") (sc := defScope s_fraction_text) f cdv A outer s H E
    exact (ss_one (s_ret (Ex.own (x_if (t_eqS hu4 (x_ix (fun _ _ => rfl) (ef_name (pv 0)) (ex_int)) (ex_int)) (b_str rfl T.n_str (ea_cons (x_ix (fun _ _ => rfl) (ef_name (pv 0)) (ex_int)) (ea_nil))) (x_add (x_add (b_str rfl T.n_str (ea_cons (x_ix (fun _ _ => rfl) (ef_name (pv 0)) (ex_int)) (ea_nil))) (ex_str)) (b_str rfl T.n_str (ea_cons (x_ix (fun _ _ => rfl) (ef_name (pv 0)) (ex_int)) (ea_nil))))))))
/-! ### _law_bag -/
abbrev s__law_bag : Stmt := top 19
abbrev N__law_bag : List Str := ["script", "cell"]
theorem sc__law_bag : FnScope N__law_bag ["script"] (defScope s__law_bag) := ⟨rfl, rfl, rfl, by decide +kernel, rfl, by decide +kernel, by decide +kernel⟩
noncomputable def m__law_bag : M Fl := mRt (mL dLst (mCons (mC (.int 0)) (mCons (mC (.int 1234567891)) (mCons (mC (.int 0)) (mCons (((mI seqD (mSlV (mVarF 0) (M.pure none) (mBd (mC (.int 63))))).bind (mLc [1] (gN 1) (M.pure true) ((mL dAbs (mCons (mVarF 1) (mNil))).map T.fz))).map T.er) (mNil))))))
noncomputable def sem__law_bag : Sem := semOf [] 1 m__law_bag
structure U__law_bag (P : Program) (w : World) (K : Frg) (mg : Str → Option Value) (base : Heap) : Prop where
  n_abs : mg "abs" = none
theorem ok__law_bag {P : Program} {w : World} {K : Frg} {mg : Str → Option Value} {base : Heap} {f : Addr} {fd : FuncData} (F : Fun K "_law_bag" "_law_bag" s__law_bag f fd) (T : U__law_bag P w K mg base) : FnG P w K mg base 1 f fd ["script"] (spD K mg 1 sem__law_bag) :=
  def_of F sc__law_bag fun cdv A outer s H E room => by
    have nd := (sc__law_bag).nd
    have hu7 := hu7_of room; have hu4 := hu4_of room; have hu5 := hu5_of room; have tk := tk_of (P := P) (w := w) (K := K) (mg := mg) (base := base) (N := N__law_bag) (qual := "_law_bag") (sc := defScope s__law_bag) f cdv A outer s H E
    have pz := ps_of (P := P) (w := w) (K := K) (mg := mg) (base := base) (N := N__law_bag) (qual := "_law_bag") (sc := defScope s__law_bag) f cdv A outer s H E
    exact (ss_one (s_ret (o_lst (ea_cons (ex_int) (ea_cons (ex_int) (ea_cons (ex_int) (ea_cons (Eo.freeze (o_lc (own := [("cell", 1)]) rfl nd (i_seq (x_slice (ef_name (pv 0)) (eb_none) (eb_some (ex_int)))) (blkOk_by (N := N__law_bag) (sc := defScope s__law_bag) (by decide +kernel)) (fun _ _ _ _ _ => g_name nd rfl (.inl rfl) (others_no (by decide))) (fun _ _ _ _ _ => ets_nil) (fun _ _ _ _ _ => Ex.own (b_abs rfl T.n_abs (ea_cons (ef_name (pv 1)) (ea_nil)))))) (ea_nil))))))))
/-! ### _law_common_of -/
abbrev s__law_common_of : Stmt := top 24
abbrev N__law_common_of : List Str := ["one", "other"]
theorem sc__law_common_of : FnScope N__law_common_of ["one", "other"] (defScope s__law_common_of) := ⟨rfl, rfl, rfl, by decide +kernel, rfl, by decide +kernel, by decide +kernel⟩
noncomputable def m__law_common_of : M Fl := mSeq (mPar 0 1 (mConsT ((mL dAbs (mCons (mVarF 0) (mNil))).map T.fz) (mConsT ((mL dAbs (mCons (mVarF 1) (mNil))).map T.fz) (mNilT))))
  (mSeq (mWh ((m2 dNe (mVarF 1) (mC (.int 0))).bind tru) (mPar 0 1 (mConsT ((mVarF 1).map T.fz) (mConsT ((m2 dMod (mL dInt (mCons (mVarF 0) (mNil))) (mVarF 1)).map T.fz) (mNilT)))))
  (mRt ((mVarF 0).map T.fz)))
noncomputable def sem__law_common_of : Sem := semOf [] 0 m__law_common_of
structure U__law_common_of (P : Program) (w : World) (K : Frg) (mg : Str → Option Value) (base : Heap) : Prop where
  n_abs : mg "abs" = none
  n_int : mg "int" = none
theorem ok__law_common_of {P : Program} {w : World} {K : Frg} {mg : Str → Option Value} {base : Heap} {f : Addr} {fd : FuncData} (F : Fun K "_law_common_of" "_law_common_of" s__law_common_of f fd) (T : U__law_common_of P w K mg base) : FnG P w K mg base 1 f fd ["one", "other"] (spD K mg 2 sem__law_common_of) :=
  def_of F sc__law_common_of fun cdv A outer s H E room => by
    have nd := (sc__law_common_of).nd
    have hu7 := hu7_of room; have hu4 := hu4_of room; have hu5 := hu5_of room; have tk := tk_of (P := P) (w := w) (K := K) (mg := mg) (base := base) (N := N__law_common_of) (qual := "_law_common_of") (sc := defScope s__law_common_of) f cdv A outer s H E
    have pz := ps_of (P := P) (w := w) (K := K) (mg := mg) (base := base) (N := N__law_common_of) (qual := "_law_common_of") (sc := defScope s__law_common_of) f cdv A outer s H E
    exact (ss_cons (s_par rfl nd rfl rfl (by decide) rfl rfl (ey_cons (Ex.own (b_abs rfl T.n_abs (ea_cons (ef_name (pv 0)) (ea_nil)))) (ey_cons (Ex.own (b_abs rfl T.n_abs (ea_cons (ef_name (pv 1)) (ea_nil)))) (ey_nil))) rfl)
    (ss_cons (s_while pz (t_ne hu4 (ef_name (pv 1)) (ex_int)) (ss_one (s_par rfl nd rfl rfl (by decide) rfl rfl (ey_cons (Ex.own (ef_name (pv 1))) (ey_cons (Ex.own (x_mod (b_int rfl T.n_int (ea_cons (ef_name (pv 0)) (ea_nil))) (ef_name (pv 1)))) (ey_nil))) rfl)))
    (ss_one (s_ret (Ex.own (ef_name (pv 0)))))))
/-! ### _law_reduced -/
abbrev s__law_reduced : Stmt := top 25
abbrev N__law_reduced : List Str := ["n", "d", "common"]
theorem sc__law_reduced : FnScope N__law_reduced ["n", "d"] (defScope s__law_reduced) := ⟨rfl, rfl, rfl, by decide +kernel, rfl, by decide +kernel, by decide +kernel⟩
noncomputable def m__law_reduced : M Fl := mSeq (mAsg ((mIf ((m2 dGt (mVarF 1) (mC (.int 0))).bind tru) (mL dTup (mCons (mVarF 0) (mCons (mVarF 1) (mNil)))) (mL dTup (mCons (m2 dSub (mC (.int 0)) (mVarF 0)) (mCons (m2 dSub (mC (.int 0)) (mVarF 1)) (mNil))))).map T.fz) (gT 2 (gCons' (gN 0) (gCons' (gN 1) (gNil')))))
  (mSeq (mSet 2 (((mCall sem__law_common_of (mCons (mVarF 0) (mCons (mVarF 1) (mNil)))).map T.er).map T.fz))
  (mRt ((mL dTup (mCons (m2 dDiv (mVarF 0) (mVarF 2)) (mCons (m2 dDiv (mVarF 1) (mVarF 2)) (mNil)))).map T.fz)))
noncomputable def sem__law_reduced : Sem := semOf [] 1 m__law_reduced
structure U__law_reduced (P : Program) (w : World) (K : Frg) (mg : Str → Option Value) (base : Heap) : Prop where
  d__law_common_of : Def P w K mg base "_law_common_of" 1 2 sem__law_common_of
theorem ok__law_reduced {P : Program} {w : World} {K : Frg} {mg : Str → Option Value} {base : Heap} {f : Addr} {fd : FuncData} (F : Fun K "_law_reduced" "_law_reduced" s__law_reduced f fd) (T : U__law_reduced P w K mg base) : FnG P w K mg base 2 f fd ["n", "d"] (spD K mg 2 sem__law_reduced) :=
  def_of F sc__law_reduced fun cdv A outer s H E room => by
    have nd := (sc__law_reduced).nd
    have hu7 := hu7_of room; have hu4 := hu4_of room; have hu5 := hu5_of room; have tk := tk_of (P := P) (w := w) (K := K) (mg := mg) (base := base) (N := N__law_reduced) (qual := "_law_reduced") (sc := defScope s__law_reduced) f cdv A outer s H E
    have pz := ps_of (P := P) (w := w) (K := K) (mg := mg) (base := base) (N := N__law_reduced) (qual := "_law_reduced") (sc := defScope s__law_reduced) f cdv A outer s H E
    exact (ss_cons (s_asg (Ex.own (x_if (t_gt (ef_name (pv 1)) (ex_int)) (x_tup (ea_cons (ef_name (pv 0)) (ea_cons (ef_name (pv 1)) (ea_nil)))) (x_tup (ea_cons (x_sub (ex_int) (ef_name (pv 0))) (ea_cons (x_sub (ex_int) (ef_name (pv 1))) (ea_nil)))))) (g_tup rfl (gs_cons (g_name nd rfl (.inl rfl)) (gs_cons (g_name nd rfl (.inl rfl)) (gs_nil)))))
    (ss_cons (s_set nd rfl (.inl rfl) (Ex.own (Eo.freeze (o_call T.d__law_common_of (room.mono (by decide)) tk rfl (ea_cons (ef_name (pv 0)) (ea_cons (ef_name (pv 1)) (ea_nil))) (hn := ln_cons (ln_cons (ln_nil)))))))
    (ss_one (s_ret (Ex.own (x_tup (ea_cons (x_div (ef_name (pv 0)) (ef_name (pv 2))) (ea_cons (x_div (ef_name (pv 1)) (ef_name (pv 2))) (ea_nil)))))))))
/-! ### _law_integer -/
abbrev s__law_integer : Stmt := top 26
abbrev N__law_integer : List Str := ["bag", "many"]
theorem sc__law_integer : FnScope N__law_integer ["bag"] (defScope s__law_integer) := ⟨rfl, rfl, rfl, by decide +kernel, rfl, by decide +kernel, by decide +kernel⟩
noncomputable def m__law_integer : M Fl := mSeq (mSet 1 ((((mHas 0).bind fun _ => mCallB sem__law_some 0 (mCons ((mL dLst (mCons (((mHas 0).bind fun _ => mCallB sem__law_take 0 (mCons (mC (.int 13)) (mNil))).map T.er) (mCons (((mHas 0).bind fun _ => mCallB sem__law_take 0 (mCons (mC (.int 13)) (mNil))).map T.er) (mCons (m2 dSub (m2 dPow (mC (.int 10)) (mC (.int 12))) (((mHas 0).bind fun _ => mCallB sem__law_take 0 (mCons (mC (.int 999)) (mNil))).map T.er)) (mCons (mC (.int 0)) (mCons (m2 dPow (mC (.int 10)) (mC (.int 39))) (mNil))))))).map T.er) (mNil))).map T.er).map T.fz))
  (mRt ((mIf ((m2 dGt (((mHas 0).bind fun _ => mCallB sem__law_take 0 (mCons (mC (.int 3)) (mNil))).map T.er) (mC (.int 0))).bind tru) (mVarF 1) (m2 dSub (mC (.int 0)) (mVarF 1))).map T.fz))
noncomputable def sem__law_integer : Sem := semOf [0] 1 m__law_integer
structure U__law_integer (P : Program) (w : World) (K : Frg) (mg : Str → Option Value) (base : Heap) : Prop where
  d__law_some : Def P w K mg base "_law_some" 2 2 sem__law_some
  d__law_take : Def P w K mg base "_law_take" 1 2 sem__law_take
theorem ok__law_integer {P : Program} {w : World} {K : Frg} {mg : Str → Option Value} {base : Heap} {f : Addr} {fd : FuncData} (F : Fun K "_law_integer" "_law_integer" s__law_integer f fd) (T : U__law_integer P w K mg base) : FnG P w K mg base 3 f fd ["bag"] (spD K mg 1 sem__law_integer) :=
  def_of F sc__law_integer fun cdv A outer s H E room => by
    have nd := (sc__law_integer).nd
    have hu7 := hu7_of room; have hu4 := hu4_of room; have hu5 := hu5_of room; have tk := tk_of (P := P) (w := w) (K := K) (mg := mg) (base := base) (N := N__law_integer) (qual := "_law_integer") (sc := defScope s__law_integer) f cdv A outer s H E
    have pz := ps_of (P := P) (w := w) (K := K) (mg := mg) (base := base) (N := N__law_integer) (qual := "_law_integer") (sc := defScope s__law_integer) f cdv A outer s H E
    exact (ss_cons (s_set nd rfl (.inl rfl) (Ex.own (Eo.freeze (o_callB T.d__law_some (room.mono (by decide)) tk rfl (pv 0) (ea_cons (Eo.freeze (o_lst (ea_cons (Eo.freeze (o_callB T.d__law_take (room.mono (by decide)) tk rfl (pv 0) (ea_cons (ex_int) (ea_nil)) (hn := ln_cons (ln_nil)))) (ea_cons (Eo.freeze (o_callB T.d__law_take (room.mono (by decide)) tk rfl (pv 0) (ea_cons (ex_int) (ea_nil)) (hn := ln_cons (ln_nil)))) (ea_cons (x_sub (x_pow (ex_int) (ex_int)) (Eo.freeze (o_callB T.d__law_take (room.mono (by decide)) tk rfl (pv 0) (ea_cons (ex_int) (ea_nil)) (hn := ln_cons (ln_nil))))) (ea_cons (ex_int) (ea_cons (x_pow (ex_int) (ex_int)) (ea_nil)))))))) (ea_nil)) (hn := ln_cons (ln_nil))))))
    (ss_one (s_ret (Ex.own (x_if (t_gt (Eo.freeze (o_callB T.d__law_take (room.mono (by decide)) tk rfl (pv 0) (ea_cons (ex_int) (ea_nil)) (hn := ln_cons (ln_nil)))) (ex_int)) (ef_name (pv 1)) (x_sub (ex_int) (ef_name (pv 1))))))))
/-! ### _law_fraction -/
abbrev s__law_fraction : Stmt := top 27
abbrev N__law_fraction : List Str := ["bag"]
theorem sc__law_fraction : FnScope N__law_fraction ["bag"] (defScope s__law_fraction) := ⟨rfl, rfl, rfl, by decide +kernel, rfl, by decide +kernel, by decide +kernel⟩
noncomputable def m__law_fraction : M Fl := mRt (mCall sem__law_reduced (mCons (((mHas 0).bind fun _ => mCallB sem__law_integer 0 (mNil)).map T.er) (mCons (m2 dAdd (mC (.int 1)) (((mHas 0).bind fun _ => mCallB sem__law_some 0 (mCons ((mL dLst (mCons (mC (.int 0)) (mCons (((mHas 0).bind fun _ => mCallB sem__law_take 0 (mCons (mC (.int 12)) (mNil))).map T.er) (mCons (((mHas 0).bind fun _ => mCallB sem__law_take 0 (mCons (m2 dPow (mC (.int 10)) (mC (.int 8))) (mNil))).map T.er) (mNil))))).map T.er) (mNil))).map T.er)) (mNil))))
noncomputable def sem__law_fraction : Sem := semOf [0] 0 m__law_fraction
structure U__law_fraction (P : Program) (w : World) (K : Frg) (mg : Str → Option Value) (base : Heap) : Prop where
  d__law_reduced : Def P w K mg base "_law_reduced" 2 2 sem__law_reduced
  d__law_integer : Def P w K mg base "_law_integer" 3 1 sem__law_integer
  d__law_some : Def P w K mg base "_law_some" 2 2 sem__law_some
  d__law_take : Def P w K mg base "_law_take" 1 2 sem__law_take
theorem ok__law_fraction {P : Program} {w : World} {K : Frg} {mg : Str → Option Value} {base : Heap} {f : Addr} {fd : FuncData} (F : Fun K "_law_fraction" "_law_fraction" s__law_fraction f fd) (T : U__law_fraction P w K mg base) : FnG P w K mg base 4 f fd ["bag"] (spD K mg 1 sem__law_fraction) :=
  def_of F sc__law_fraction fun cdv A outer s H E room => by
    have nd := (sc__law_fraction).nd
    have hu7 := hu7_of room; have hu4 := hu4_of room; have hu5 := hu5_of room; have tk := tk_of (P := P) (w := w) (K := K) (mg := mg) (base := base) (N := N__law_fraction) (qual := "_law_fraction") (sc := defScope s__law_fraction) f cdv A outer s H E
    have pz := ps_of (P := P) (w := w) (K := K) (mg := mg) (base := base) (N := N__law_fraction) (qual := "_law_fraction") (sc := defScope s__law_fraction) f cdv A outer s H E
    exact (ss_one (s_ret (o_call T.d__law_reduced (room.mono (by decide)) tk rfl (ea_cons (Eo.freeze (o_callB T.d__law_integer (room.mono (by decide)) tk rfl (pv 0) (ea_nil) (hn := ln_nil))) (ea_cons (x_add (ex_int) (Eo.freeze (o_callB T.d__law_some (room.mono (by decide)) tk rfl (pv 0) (ea_cons (Eo.freeze (o_lst (ea_cons (ex_int) (ea_cons (Eo.freeze (o_callB T.d__law_take (room.mono (by decide)) tk rfl (pv 0) (ea_cons (ex_int) (ea_nil)) (hn := ln_cons (ln_nil)))) (ea_cons (Eo.freeze (o_callB T.d__law_take (room.mono (by decide)) tk rfl (pv 0) (ea_cons (x_pow (ex_int) (ex_int)) (ea_nil)) (hn := ln_cons (ln_nil)))) (ea_nil)))))) (ea_nil)) (hn := ln_cons (ln_nil))))) (ea_nil))) (hn := ln_cons (ln_cons (ln_nil))))))

/-! ### _law_someO -/
abbrev s__law_someO : Stmt := top 21
abbrev N__law_someO : List Str := ["bag", "things"]
theorem sc__law_someO : FnScope N__law_someO ["bag", "things"] (defScope s__law_someO) := ⟨rfl, rfl, rfl, by decide +kernel, rfl, by decide +kernel, by decide +kernel⟩
noncomputable def m__law_someO : M Fl := mRt (mIxO 1 (((mHas 0).bind fun _ => mCallB sem__law_take 0 (mCons (mL dLen (mCons (mVar 1) (mNil))) (mNil))).map T.er))
noncomputable def sem__law_someO : Sem := semOf [0, 1] 0 m__law_someO
structure U__law_someO (P : Program) (w : World) (K : Frg) (mg : Str → Option Value) (base : Heap) : Prop where
  n_len : mg "len" = none
  d__law_take : Def P w K mg base "_law_take" 1 2 sem__law_take
theorem ok__law_someO {P : Program} {w : World} {K : Frg} {mg : Str → Option Value} {base : Heap} {f : Addr} {fd : FuncData} (F : Fun K "_law_some" "_law_some" s__law_someO f fd) (T : U__law_someO P w K mg base) : FnG P w K mg base 2 f fd ["bag", "things"] (spD K mg 2 sem__law_someO) :=
  def_of F sc__law_someO fun cdv A outer s H E room => by
    have nd := (sc__law_someO).nd
    have hu7 := hu7_of room; have hu4 := hu4_of room; have hu5 := hu5_of room; have tk := tk_of (P := P) (w := w) (K := K) (mg := mg) (base := base) (N := N__law_someO) (qual := "_law_some") (sc := defScope s__law_someO) f cdv A outer s H E
    have pz := ps_of (P := P) (w := w) (K := K) (mg := mg) (base := base) (N := N__law_someO) (qual := "_law_some") (sc := defScope s__law_someO) f cdv A outer s H E
    exact (ss_one (s_ret (o_ixO (fun _ _ => rfl) (pv 1) (Eo.freeze (o_callB T.d__law_take (room.mono (by decide)) tk rfl (pv 0) (ea_cons (b_len rfl T.n_len (ea_cons (ev_name (pv 1)) (ea_nil))) (ea_nil)) (hn := ln_cons (ln_nil)))))))
/-! ### _law_oddO -/
abbrev s__law_oddO : Stmt := top 23
abbrev N__law_oddO : List Str := ["bag", "some"]
theorem sc__law_oddO : FnScope N__law_oddO ["bag"] (defScope s__law_oddO) := ⟨rfl, rfl, rfl, by decide +kernel, rfl, by decide +kernel, by decide +kernel⟩
noncomputable def m__law_oddO : M Fl := mSeq (mSet 1 (mLT tLstO (mConsT ((mC .none).map T.fz) (mConsT ((mC (.bool true)).map T.fz) (mConsT ((mC (.bool false)).map T.fz) (mConsT ((mC (.int 0)).map T.fz) (mConsT ((mC (.int 1)).map T.fz) (mConsT ((m1 dNeg (mC (.int 1))).map T.fz) (mConsT ((mC (.int 10000)).map T.fz) (mConsT ((m2 dPow (mC (.int 10)) (mC (.int 39))).map T.fz) (mConsT ((mC (.str "")).map T.fz) (mConsT ((mC (.str "a")).map T.fz) (mConsT ((mC (.str "if")).map T.fz) (mConsT ((mL dTup (mNil)).map T.fz) (mConsT (mL dLst (mNil)) (mConsT (((mDic0).map T.er).map T.fz) (mConsT ((mL dTup (mCons (mC (.str "round")) (mNil))).map T.fz) (mConsT ((mL dTup (mCons (mC (.str "read")) (mCons (mC (.str "a")) (mCons (mC (.int 1)) (mNil))))).map T.fz) (mNilT)))))))))))))))))))
  (mRt ((mHas 0).bind fun _ => mCallBO sem__law_someO 0 (mConsT (mAddO (mOut 1) (mLT tLstO (mConsT ((mL dTup (mCons (mC (.str "number")) (mCons (mC (.int 3)) (mNil)))).map T.fz) (mConsT (mLT tLstO (mConsT ((mC (.str "round")).map T.fz) (mNilT))) (mConsT (((mDisp ((mC (.str "a"), mC (.int 1)) :: [])).map T.er).map T.fz) (mConsT ((mC (.str "a\n")).map T.fz) (mConsT ((mL dTup (mCons (mL dTup (mCons (mC (.str "a")) (mCons (mC (.int 0)) (mNil)))) (mNil))).map T.fz) (mConsT ((mL dTup (mCons (mC (.str "a")) (mCons (mC (.str "b")) (mCons (mC (.int 1)) (mNil))))).map T.fz) (mConsT ((mL dTup (mCons (mC (.int 1)) (mCons (mL dTup (mCons (mC .none) (mNil))) (mNil)))).map T.fz) (mNilT)))))))))) (mNilT))))
noncomputable def sem__law_oddO : Sem := semOf [0] 1 m__law_oddO
structure U__law_oddO (P : Program) (w : World) (K : Frg) (mg : Str → Option Value) (base : Heap) : Prop where
  d__law_someO : Def P w K mg base "_law_some" 2 2 sem__law_someO
theorem ok__law_oddO {P : Program} {w : World} {K : Frg} {mg : Str → Option Value} {base : Heap} {f : Addr} {fd : FuncData} (F : Fun K "_law_odd" "_law_odd" s__law_oddO f fd) (T : U__law_oddO P w K mg base) : FnG P w K mg base 3 f fd ["bag"] (spD K mg 1 sem__law_oddO) :=
  def_of F sc__law_oddO fun cdv A outer s H E room => by
    have nd := (sc__law_oddO).nd
    have hu7 := hu7_of room; have hu4 := hu4_of room; have hu5 := hu5_of room; have tk := tk_of (P := P) (w := w) (K := K) (mg := mg) (base := base) (N := N__law_oddO) (qual := "_law_odd") (sc := defScope s__law_oddO) f cdv A outer s H E
    have pz := ps_of (P := P) (w := w) (K := K) (mg := mg) (base := base) (N := N__law_oddO) (qual := "_law_odd") (sc := defScope s__law_oddO) f cdv A outer s H E
    exact (ss_cons (s_set nd rfl (.inl rfl) (o_lstO (ey_cons (Ex.own (ex_non)) (ey_cons (Ex.own (ex_bl)) (ey_cons (Ex.own (ex_bl)) (ey_cons (Ex.own (ex_int)) (ey_cons (Ex.own (ex_int)) (ey_cons (Ex.own (x_neg (ex_int))) (ey_cons (Ex.own (ex_int)) (ey_cons (Ex.own (x_pow (ex_int) (ex_int))) (ey_cons (Ex.own (ex_str)) (ey_cons (Ex.own (ex_str)) (ey_cons (Ex.own (ex_str)) (ey_cons (Ex.own (x_tup (ea_nil))) (ey_cons (o_lst (ea_nil)) (ey_cons (Ex.own (Eo.freeze (o_dic0K))) (ey_cons (Ex.own (x_tup (ea_cons (ex_str) (ea_nil)))) (ey_cons (Ex.own (x_tup (ea_cons (ex_str) (ea_cons (ex_str) (ea_cons (ex_int) (ea_nil)))))) (ey_nil)))))))))))))))))))
    (ss_one (s_ret (o_callBO T.d__law_someO (room.mono (by decide)) tk rfl (pv 0) (ey_cons (o_addO (o_out (pv 1)) (o_lstO (ey_cons (Ex.own (x_tup (ea_cons (ex_str) (ea_cons (ex_int) (ea_nil))))) (ey_cons (o_lstO (ey_cons (Ex.own (ex_str)) (ey_nil))) (ey_cons (Ex.own (Eo.freeze (o_disp (ep_cons (ex_str) (ex_int) (ep_nil))))) (ey_cons (Ex.own (ex_str)) (ey_cons (Ex.own (x_tup (ea_cons (x_tup (ea_cons (ex_str) (ea_cons (ex_int) (ea_nil)))) (ea_nil)))) (ey_cons (Ex.own (x_tup (ea_cons (ex_str) (ea_cons (ex_str) (ea_cons (ex_int) (ea_nil)))))) (ey_cons (Ex.own (x_tup (ea_cons (ex_int) (ea_cons (x_tup (ea_cons (ex_non) (ea_nil))) (ea_nil))))) (ey_nil)))))))))) (ey_nil)) (hn := lnT_cons (lnT_nil))))))

/-! ### alike: the same data -/
theorem dEqS_same {d : D} (h1 : d.depth ≤ 60) (h2 : nodt d = true) : dEqS d d = some (.bool true) := by
  unfold dEqS
  by_cases s : shp d = true
  · rw [if_pos ⟨s, s⟩, PySem.SeqAt.eqv_refl d (shp_lay s)]
  · rw [if_neg (fun z => s z.1), if_pos ⟨rfl, h1, h2⟩]
structure Gd (d : D) (k : Nat) : Prop where
  dp : d.depth ≤ 60
  nt : nodt d = true
  sh : d.showable = true
  ln : d.shown.length + 3 * k ≤ 1000
theorem alike_same {d : D} {k : Nat} (g : Gd d k) : ∃ e, sem__law_alike [some (.fz d), some (.fz d)] = .ok (.fz (.bool true)) e := by
  have hs : shw d := ⟨g.sh, by have := g.ln; rw [sizeLine_eq]; omega⟩
  have h1 := dEqS_same g.dp g.nt
  have h2 : dRepr [d] = some (.str d.shown) := by
    unfold dRepr
    dsimp only
    rw [if_pos ⟨hs, g.dp⟩]
  have h3 : dEqS (.str d.shown) (.str d.shown) = some (.bool true) := dEqS_same (by simp [PyData.depth]) rfl
  refine ⟨[some (.fz d), some (.fz d)], ?_⟩
  simp [sem__law_alike, semOf, m__law_alike, mRt, M.map, M.bind, vAnd, m2, mL, mCons, mNil, mVarF, M.pure, M.lift, tru, h1, h2, h3, mixE, keepF]

/-! ### errors: are they right -/
theorem textFrom_snoc (t : Str) : ∀ (ts : List Str) (k : Nat) (acc : Str), (PySem.textFrom k acc (ts ++ [t])).length ≤ (PySem.textFrom k acc ts).length + 2 + t.length
  | [], k, acc => by
    show (acc ++ ((if k > 0 then ", " else "" : String) : Str) ++ t : Str).length ≤ acc.length + 2 + t.length
    rw [Str.length_append, Str.length_append]
    have : ((if k > 0 then ", " else "" : String) : Str).length ≤ 2 := by
      split <;> decide
    omega
  | x :: r, k, acc => textFrom_snoc t r (k + 1) _
def isL : D → Bool
  | .list _ => true
  | _ => false
def Sh (k : Nat) (t : T) : Prop := (∃ d, t = .fz d ∧ isL d = false ∧ Gd d 0) ∨ ∃ ds : List D, t = .ol (ds.map T.fz) ∧ Gd (.list ds) k
structure LotS (C : Nat → Addr) (K : Frg) (G H : Hp) (l : Addr) (v1 v2 : V) (t1 t2 : T) (F1 F2 : List Addr) (k : Nat) : Prop where
  lot : LotAt C H l (thL v1 v2)
  o1 : Own K G H v1 t1 F1
  o2 : Own K G H v2 t2 F2
  nd : (l :: (F1 ++ F2)).Nodup
  ap : ∀ a ∈ F1 ++ F2, G a = none
  le : GLe G H
  s1 : Sh k t1
  s2 : Sh k t2
def spRight (C : Nat → Addr) (K : Frg) : Sp := fun vs H Q _ => ∃ (l : Addr) (i : Nat) (v1 v2 : V) (G : Hp) (t1 t2 : T) (F1 F2 : List Addr) (k : Nat), vs = [.ref l, .int (i : Nat)] ∧ i < 8 ∧ LotS C K G H l v1 v2 t1 t2 F1 F2 (k + 1) ∧
  ∀ H' t1' t2', (∀ a o, H a = some o → a ∉ F1 ++ F2 → H' a = some o) → LotS C K G H' l v1 v2 t1' t2' F1 F2 k → Q (.bl true) H'
theorem shown_app (ds : List D) : (PyData.list (ds ++ [PyData.int 0])).shown.length ≤ (PyData.list ds).shown.length + 3 := by
  have e : PyData.shownAll (ds ++ [PyData.int 0]) = PyData.shownAll ds ++ [("0" : Str)] := by
    induction ds with
    | nil => simp [PyData.shownAll, PyData.shown]; decide
    | cons d r ih =>
      show PyData.shownAll (d :: (r ++ [.int 0])) = PyData.shownAll (d :: r) ++ [("0" : Str)]
      simp only [PyData.shownAll, ih, List.cons_append]
  simp only [PyData.shown, e, listText]
  rw [Str.length_append, Str.length_append]
  have := textFrom_snoc "0" (PyData.shownAll ds) 0 "["
  have h1 : ("0" : Str).length = 1 := by decide
  omega
theorem all_app : ∀ ds : List D, (PyData.depthAll (ds ++ [PyData.int 0]) = PyData.depthAll ds) ∧ (nodtL (ds ++ [PyData.int 0]) = nodtL ds) ∧ (PyData.showableAll (ds ++ [PyData.int 0]) = PyData.showableAll ds)
  | [] => by refine ⟨?_, ?_, ?_⟩ <;> simp [PyData.depthAll, PyData.depth, nodtL, nodt, PyData.showableAll, PyData.showable] <;> decide
  | d :: r => by
    obtain ⟨a, b, c⟩ := all_app r
    simp only [List.cons_append, PyData.depthAll, nodtL, PyData.showableAll, a, b, c, and_self]
theorem Gd.app {ds : List D} {k : Nat} (g : Gd (.list ds) (k + 1)) : Gd (.list (ds ++ [PyData.int 0])) k := by
  obtain ⟨a, b, c⟩ := all_app ds
  refine ⟨?_, ?_, ?_, ?_⟩
  · have := g.dp; simp only [PyData.depth] at this ⊢; rw [a]; exact this
  · have := g.nt; simp only [nodt] at this ⊢; rw [b]; exact this
  · have := g.sh; simp only [PyData.showable] at this ⊢; rw [c]; exact this
  · have := g.ln; have := shown_app ds; omega
theorem Gd.less {d : D} {k : Nat} (g : Gd d (k + 1)) : Gd d k := ⟨g.dp, g.nt, g.sh, by have := g.ln; omega⟩
theorem Sh.less {k : Nat} {t : T} (h : Sh (k + 1) t) : Sh k t := h.imp id fun ⟨ds, e, g⟩ => ⟨ds, e, g.less⟩
theorem LotAt.fr {C : Nat → Addr} {H H' : Hp} {l : Addr} {th : Nat → V} (L : LotAt C H l th) (fr : ∀ a o, H a = some o → ((∃ xs, o = .lst xs) → a = l) → H' a = some o) : LotAt C H' l th := by
  obtain ⟨ts, hl, h8, hts⟩ := L.ex
  refine ⟨ts, fr _ _ hl fun _ => rfl, h8, fun i t e => ?_⟩
  obtain ⟨x, ht, he⟩ := hts i t e
  refine ⟨x, fr _ _ ht (fun ⟨xs, z⟩ => nomatch z), ?_⟩
  rcases he with ⟨fs, d, h1, h2⟩ | h
  · exact .inl ⟨fs, d, fr _ _ h1 (fun ⟨xs, z⟩ => nomatch (show HO.ext _ = HO.lst xs from z)), fr _ _ h2 (fun ⟨xs, z⟩ => nomatch (show HO.ext _ = HO.lst xs from z))⟩
  · exact .inr (fr _ _ h (fun ⟨xs, z⟩ => nomatch (show HO.ext _ = HO.lst xs from z)))
section
variable {C : Nat → Addr} {K : Frg} {G H H' : Hp} {l : Addr} {v1 v2 : V} {t1 t2 : T} {F1 F2 : List Addr} {k : Nat}
theorem LotS.up (L : LotS C K G H l v1 v2 t1 t2 F1 F2 (k + 1)) (s : Same H H') : LotS C K G H' l v1 v2 t1 t2 F1 F2 k :=
  ⟨L.lot.fr fun a o e _ => s a o e, L.o1.stay (GLe.refl _) fun a m => same_box s (L.o1.boxes a m), L.o2.stay (GLe.refl _) fun a m => same_box s (L.o2.boxes a m), L.nd, L.ap, gle_same L.le s, L.s1.less, L.s2.less⟩
theorem LotS.same (L : LotS C K G H l v1 v2 t1 t2 F1 F2 k) (s : Same H H') : LotS C K G H' l v1 v2 t1 t2 F1 F2 k :=
  ⟨L.lot.fr fun a o e _ => s a o e, L.o1.stay (GLe.refl _) fun a m => same_box s (L.o1.boxes a m), L.o2.stay (GLe.refl _) fun a m => same_box s (L.o2.boxes a m), L.nd, L.ap, gle_same L.le s, L.s1, L.s2⟩
/-- one thing: data, or a list that nothing else holds -/
theorem thing_of {v : V} {t : T} {F : List Addr} (o : Own K G H v t F) (s : Sh k t) : (∃ d, t = .fz d ∧ isL d = false ∧ Gd d 0 ∧ Den K G v d) ∨ ∃ (a : Addr) (xs : List V) (ds : List D), t = .ol (ds.map T.fz) ∧ v = .ref a ∧ F = [a] ∧ H a = some (.lst xs) ∧ DenL K G xs ds ∧ Gd (.list ds) k := by
  rcases s with ⟨d, rfl, h1, h2⟩ | ⟨ds, rfl, g⟩
  · cases o with
    | fz dv => exact .inl ⟨d, rfl, h1, h2, dv⟩
  · cases o with
    | @ol a xs _ F0 hx hl =>
      obtain ⟨rfl, l⟩ := ownL_fz' hl
      exact .inr ⟨a, xs, ds, rfl, rfl, rfl, hx, l, g⟩
theorem own_list {a : Addr} {xs : List V} {ds : List D} (hx : H a = some (.lst xs)) (l : DenL K G xs ds) : Own K G H (.ref a) (.ol (ds.map T.fz)) [a] := .ol hx (ownL_fz l)
/-- the first thing, or the second, is a list: 0 is put behind it -/
theorem LotS.app1 (L : LotS C K G H l v1 v2 t1 t2 F1 F2 (k + 1)) {a : Addr} {xs : List V} (hv : v1 = .ref a) (hF : F1 = [a]) (hx : H a = some (.lst xs)) {ds : List D} (ld : DenL K G xs ds) (g : Gd (.list ds) (k + 1)) :
    LotS C K G (upd H a (.lst (xs ++ [.int 0]))) l v1 v2 (.ol ((ds ++ [PyData.int 0]).map T.fz)) t2 F1 F2 k := by
  subst hv hF
  have nd := L.nd
  rw [List.nodup_cons, List.nodup_append] at nd
  have al : l ≠ a := fun z => nd.1 (by simp [z])
  have a2 : a ∉ F2 := fun m => nd.2.2.2 a (by simp) a m rfl
  have gn : G a = none := L.ap a (by simp)
  refine ⟨L.lot.fr fun b o e q => ?_, own_list upd_same (ld.append (.cons (.int 0) .nil)), L.o2.stay (GLe.refl _) fun b m => upd_ne fun z => a2 (z ▸ m), L.nd, L.ap, fun b o e => ?_, .inr ⟨_, rfl, g.app⟩, L.s2.less⟩
  · rw [upd_ne fun z => ?_]
    · exact e
    · subst z
      rw [hx] at e
      cases e
      exact al (q ⟨_, rfl⟩).symm
  · rw [upd_ne fun z => by rw [z, gn] at e; cases e]
    exact L.le b o e
theorem LotS.app2 (L : LotS C K G H l v1 v2 t1 t2 F1 F2 (k + 1)) {a : Addr} {xs : List V} (hv : v2 = .ref a) (hF : F2 = [a]) (hx : H a = some (.lst xs)) {ds : List D} (ld : DenL K G xs ds) (g : Gd (.list ds) (k + 1)) :
    LotS C K G (upd H a (.lst (xs ++ [.int 0]))) l v1 v2 t1 (.ol ((ds ++ [PyData.int 0]).map T.fz)) F1 F2 k := by
  subst hv hF
  have nd := L.nd
  rw [List.nodup_cons, List.nodup_append] at nd
  have al : l ≠ a := fun z => nd.1 (by simp [z])
  have a2 : a ∉ F1 := fun m => nd.2.2.2 a m a (by simp) rfl
  have gn : G a = none := L.ap a (by simp)
  refine ⟨L.lot.fr fun b o e q => ?_, L.o1.stay (GLe.refl _) fun b m => upd_ne fun z => a2 (z ▸ m), own_list upd_same (ld.append (.cons (.int 0) .nil)), L.nd, L.ap, fun b o e => ?_, L.s1.less, .inr ⟨_, rfl, g.app⟩⟩
  · rw [upd_ne fun z => ?_]
    · exact e
    · subst z
      rw [hx] at e
      cases e
      exact al (q ⟨_, rfl⟩).symm
  · rw [upd_ne fun z => by rw [z, gn] at e; cases e]
    exact L.le b o e
/-- what the thing at place i is, and what becomes of it -/
theorem LotS.at (L : LotS C K G H l v1 v2 t1 t2 F1 F2 (k + 1)) (i : Nat) : (∃ d, isL d = false ∧ Gd d 0 ∧ Den K H (thL v1 v2 i) d) ∨
    ∃ (a : Addr) (xs : List V) (ds : List D), thL v1 v2 i = .ref a ∧ a ∈ F1 ++ F2 ∧ H a = some (.lst xs) ∧ Den K H (.ref a) (.list ds) ∧ Gd (.list ds) (k + 1) ∧ xs.length = ds.length ∧ Den K (upd H a (.lst (xs ++ [.int 0]))) (.ref a) (.list (ds ++ [PyData.int 0])) ∧
      ∃ t1' t2', LotS C K G (upd H a (.lst (xs ++ [.int 0]))) l v1 v2 t1' t2' F1 F2 k := by
  have one : ∀ {v : V} {t : T} {F : List Addr}, Own K G H v t F → Sh (k + 1) t → (∀ (a : Addr) (xs : List V) (ds : List D), v = .ref a → F = [a] → H a = some (.lst xs) → DenL K G xs ds → Gd (.list ds) (k + 1) → a ∈ F1 ++ F2 ∧ ∃ t1' t2', LotS C K G (upd H a (.lst (xs ++ [.int 0]))) l v1 v2 t1' t2' F1 F2 k) →
      (∃ d, isL d = false ∧ Gd d 0 ∧ Den K H v d) ∨ ∃ (a : Addr) (xs : List V) (ds : List D), v = .ref a ∧ a ∈ F1 ++ F2 ∧ H a = some (.lst xs) ∧ Den K H (.ref a) (.list ds) ∧ Gd (.list ds) (k + 1) ∧ xs.length = ds.length ∧ Den K (upd H a (.lst (xs ++ [.int 0]))) (.ref a) (.list (ds ++ [PyData.int 0])) ∧ ∃ t1' t2', LotS C K G (upd H a (.lst (xs ++ [.int 0]))) l v1 v2 t1' t2' F1 F2 k := by
    intro v t F o s app
    rcases thing_of o s with ⟨d, _, h1, h2, h3⟩ | ⟨a, xs, ds, _, hv, hF, hx, ld, g⟩
    · exact .inl ⟨d, h1, h2, h3.up L.le⟩
    · obtain ⟨m, t1', t2', L'⟩ := app a xs ds hv hF hx ld g
      refine .inr ⟨a, xs, ds, hv, m, hx, .lst (.inl (.inl hx)) (ld.up L.le), g, ld.length, .lst (.inl (.inl upd_same)) ?_, t1', t2', L'⟩
      exact ((ld.append (.cons (.int 0) .nil)).up L'.le)
  have f1 := one L.o1 L.s1 fun a xs ds hv hF hx ld g => ⟨by simp [hF], _, _, L.app1 hv hF hx ld g⟩
  have f2 := one L.o2 L.s2 fun a xs ds hv hF hx ld g => ⟨by simp [hF], _, _, L.app2 hv hF hx ld g⟩
  match i with
  | 0 => exact f1
  | 1 => exact f2
  | 2 => exact f1
  | 3 => exact f2
  | 4 => exact f1
  | 5 => exact f2
  | 6 => exact f1
  | n + 7 => exact .inl ⟨.none, rfl, ⟨by simp [PyData.depth], rfl, by simp [PyData.showable], by simp only [PyData.shown]; decide⟩, .non⟩
end

section
variable {P : Program} {w : World} {K : Frg} {mg : Str → Option Value} {base : Heap} {C : Nat → Addr} {B : Addr}
/-- alike(v, v), whatever stands frozen: the whole heap -/
theorem sp_alike {H : Hp} {Q : VK} {E : XK} {v : V} {d : D} {k : Nat} (dv : Den K H v d) (g : Gd d k) (q : ∀ H', Same H H' → Q (.bl true) H') : spD K mg 2 sem__law_alike [v, v] H Q E := by
  refine ⟨rfl, H, [some (.fz d), some (.fz d)], [], ⟨GLe.refl H, .so (F := []) (F' := []) (.fz dv) (.so (F := []) (F' := []) (.fz dv) .nil), List.nodup_nil, fun _ m => nomatch m⟩, ?_⟩
  obtain ⟨e, he⟩ := alike_same g
  rw [he]
  intro r G' H' Fp' Fr st S nd ap o
  cases o with
  | fz dr =>
    rw [dr.of_bool]
    exact q H' fun a u z => st.keep a u z (fun m => nomatch m)
noncomputable def m_at : M T := (mIL dRng1 (mCons (mC (.int 8)) mNil)).bind (mLc [5] (gN 5) (M.pure true) ((m2 dEqS (mVarF 5) (mVarF 1)).map T.fz))
theorem dEqS_int (a b : Int) : dEqS (.int a) (.int b) = some (.bool (decide (a = b))) := by
  unfold dEqS
  have h : ∀ z : Int, shp (.int z) = true := fun z => by simp [shp, SeqAt.shaped, PyData.canLay0, PyData.depth]
  rw [if_pos ⟨h a, h b⟩]
  have e : PyData.eqv (.int a) (.int b) = decide (a = b) := by
    simp only [PyData.eqv]
    exact Bool.eq_iff_iff.mpr (by simp)
  rw [e]
theorem at_go (i : Int) (env : Env) (h1 : env = [none, some (.fz (.int i)), none, none, none, none]) : ∀ ds : List Int, lcGo [5] (gN 5) (M.pure true) ((m2 dEqS (mVarF 5) (mVarF 1)).map T.fz) env (ds.map PyData.int) = some (ds.map fun j => .fz (.bool (decide (j = i))))
  | [] => rfl
  | j :: r => by
    subst h1
    have ih := at_go i _ rfl r
    have st : lcStep [5] (gN 5) (M.pure true) ((m2 dEqS (mVarF 5) (mVarF 1)).map T.fz) [none, some (.fz (.int i)), none, none, none, none] (.int j) = some (some (.fz (.bool (decide (j = i))))) := by
      simp [lcStep, gN, wipeE, M.pure, M.map, M.bind, m2, mVarF, M.lift, dEqS_int]
    rw [List.map_cons, lcGo, st]
    simp only [ih]
    rfl
def eights : List Int := (List.range 8).map fun j => ((j : Nat) : Int)
theorem at_val (i : Int) : m_at [none, some (.fz (.int i)), none, none, none, none] = .ok (.ol (eights.map fun j => .fz (.bool (decide (j = i))))) [none, some (.fz (.int i)), none, none, none, none] := by
  have e : intsR 0 8 = eights.map PyData.int := by simp [intsR, eights]
  have r : mIL dRng1 (mCons (mC (.int 8)) mNil) [none, some (.fz (.int i)), none, none, none, none] = .ok (eights.map PyData.int) [none, some (.fz (.int i)), none, none, none, none] := by
    simp [mIL, mCons, mC, mNil, M.bind, M.pure, M.lift, dRng1, e]
  unfold m_at
  rw [M.bind_ok r]
  unfold mLc
  rw [if_pos (by simp [eights]; rw [sizeLine_eq]; decide), at_go i _ rfl]
theorem denL_bls {K : Frg} {G : Hp} : ∀ bs : List Bool, DenL K G (bs.map V.bl) (bs.map PyData.bool)
  | [] => .nil
  | b :: r => .cons (.bl b) (denL_bls r)
theorem bls_shp (bs : List Bool) : shp (.list (bs.map PyData.bool)) = true := by
  have h : ∀ bs : List Bool, PyData.canLayAll0 (bs.map PyData.bool) = true ∧ PyData.depthAll (bs.map PyData.bool) = 0 := fun bs => by
    induction bs with
    | nil => exact ⟨by simp [PyData.canLayAll0], by simp [PyData.depthAll]⟩
    | cons b r ih => exact ⟨by simp [PyData.canLayAll0, PyData.canLay0, ih.1], by simp [PyData.depthAll, PyData.depth, ih.2]⟩
  have z := h bs
  simp [shp, SeqAt.shaped, PyData.canLay0, PyData.depth, z.1, z.2]
theorem isi_nl (d : D) (h : isL d = false) : isiD "list" (tyD d) = false := by
  cases d with
  | list ds => simp [isL] at h
  | none => show isiD "list" "NoneType" = false; decide
  | bool b => show isiD "list" "bool" = false; decide
  | int b => show isiD "list" "int" = false; decide
  | str b => show isiD "list" "str" = false; decide
  | tuple b => show isiD "list" "tuple" = false; decide
  | dict b => show isiD "list" "dict" = false; decide
theorem len_shown (ds : List D) : ds.length ≤ (PyData.list ds).shown.length := by
  have e : (PyData.shownAll ds).length = ds.length := by
    induction ds with
    | nil => rfl
    | cons d r ih => simp [PyData.shownAll, ih]
  have h := (PySem.textFrom_len (PyData.shownAll ds) 0 "[").1
  have h1 : ("[" : Str).length = 1 := by decide
  simp only [PyData.shown, listText]
  rw [Str.length_append]
  simp at h
  omega
def kbs (i : Nat) : List Bool := (List.range 8).map fun j => decide (i = j)
theorem kindsV_eq (i : Nat) : kindsV i = (kbs i).map V.bl := by simp [kindsV, kbs]
theorem eights_eq (i : Nat) : (eights.map fun j => PyData.bool (decide (j = (i : Int)))) = (kbs i).map PyData.bool := by
  simp only [eights, kbs, List.map_map]
  refine List.map_congr_left fun j _ => ?_
  show PyData.bool (decide ((j : Int) = (i : Int))) = PyData.bool (decide (i = j))
  congr 1
  exact Bool.eq_iff_iff.mpr (by simp; omega)
abbrev s_right : Stmt := top 30
abbrev N_right : List Str := ["lot", "at", "error", "told", "thing", "place"]
theorem sc_right : FnScope N_right ["lot", "at"] (defScope s_right) := ⟨rfl, rfl, rfl, by decide +kernel, rfl, by decide +kernel, by decide +kernel⟩
/-- a def of the module by a promise of its own -/
structure DefR (P : Program) (w : World) (K : Frg) (mg : Str → Option Value) (base : Heap) (x : Str) (k : Nat) (sp : Sp) : Prop where
  ex : ∃ f fd ps, mg x = some (.ref f) ∧ PySem.W.keepIn K (.ref f) = true ∧ Binds K fd ps [] ∧ FnG P w K mg base k f fd ps sp
theorem Def.r {x : Str} {k n : Nat} {sem : Sem} (h : Def P w K mg base x k n sem) : DefR P w K mg base x k (spD K mg n sem) := by
  obtain ⟨f, fd, ps, a, b, c, _, F⟩ := h.ex
  exact ⟨f, fd, ps, a, b, c, F⟩
theorem pe_callR {X : Cx} {W : WX} {x : Str} {k j : Nat} {sp : Sp} {e : Expr} {es : List Expr} {t : TA} {p pos : Pos} (D : DefR X.prog X.w X.K X.mg X.base x k sp) (hr : GR j X.A) (hk : k ≤ j) (tk : Takes X W) (hg : Gl X x) (ha : PA X (e :: es) t) (hdb : (x == ("__debug__" : Str)) = false := by decide)
    (he : starEach (e :: es) X.env = (false, eval e X.env) :: starEach es X.env := by rfl) (hpl : (backTo pos (starEach es X.env)).any (·.1) = false := by rfl) : PE X (.Call (.Name x p) (e :: es) [] pos) (tCallG sp W t) := by
  obtain ⟨f, fd, ps, hm, kp, hb, F⟩ := D.ex
  exact pe_callG F (hr.mono hk) tk hg hm kp hb ha hdb he hpl
theorem ok_right {f : Addr} {fd : FuncData} (F : Fun K "_law_is_error_right" "_law_is_error_right" s_right f fd) (T : ErrK K mg C B) (dk : DefR P w K mg base "_law_kinds" 1 (spKinds C)) (da : DefR P w K mg base "_law_alike" 1 (spD K mg 2 sem__law_alike)) :
    FnG P w K mg base 2 f fd ["lot", "at"] (spRight C K) := by
  refine fnG_of F sc_right (fun vs H Q E h => ?_) fun cdv A outer s H vs Q E room h => ?_
  · obtain ⟨l, i, v1, v2, G, t1, t2, F1, F2, k, rfl, _⟩ := h
    rfl
  · obtain ⟨l, i, v1, v2, G, t1, t2, F1, F2, k, rfl, hi, L, q⟩ := h
    have nd := sc_right.nd
    have hu4 := hu4_of room
    have tk := tk_of (P := P) (w := w) (K := K) (mg := mg) (base := base) (N := N_right) (qual := "_law_is_error_right") (sc := defScope s_right) f cdv A outer s H E
    let X := cxOf (L2.CX P w) P w K mg base N_right "_law_is_error_right" (defScope s_right) f cdv A outer s H E
    refine ⟨_, pss_cons (ps_asg (pe_ix ix_seq (pv 0) (pv 1) fun _ _ => rfl) (pg_tup rfl (pgs_cons (pg_name (i := 2) nd rfl (.inl rfl)) (pgs_cons (pg_name (i := 3) nd rfl (.inl rfl)) (pgs_cons (pg_name (i := 4) nd rfl (.inl rfl)) pgs_nil)))))
      (pss_cons (ps_if (PW.pt (pw_or (pt_not (pt_val (pe_callB call_isH rfl T.isi PyProof.Rows.boot_isinstance (pa_cons (pv 2) (pa_cons (pe_cls rfl T.base.mg) pa_nil))) (by intro _; rfl))) (pw_or1 (pt_not (pt_val (pe_callB call_isH rfl T.isi PyProof.Rows.boot_isinstance (pa_cons (pv 2) (pa_cons (n_ty rfl T.ve rfl) pa_nil))) (by intro _; rfl)))))) (pss_one (ps_ret pe_bl)) pss_nil)
      (pss_cons (ps_if (PW.pt (pw_or (pt_cmpR (op_neD hu4) (pe_callR dk room (by decide) tk rfl (pa_cons (pv 2) pa_nil)) (Eo.can (mt := m_at) (o_lc (W := W0) (own := [("place", 5)]) rfl nd (i_rng1 rfl T.rng (ea_cons ex_int ea_nil)) (blkOk_by (N := N_right) (sc := defScope s_right) (by decide +kernel)) (fun _ _ _ _ _ => g_name nd rfl (.inl rfl) (others_no (by decide))) (fun _ _ _ _ _ => ets_nil) (fun _ _ _ _ _ => Ex.own (x_eqS hu4 (ef_name (pv 5)) (ef_name (pv 1)))))) (nomark _))
          (pw_or1 (pt_not (pt_val (pe_callR da room (by decide) tk rfl (pa_cons (pv 3) (pa_cons (pv 4) pa_nil))) (by intro _; rfl)))))) (pss_one (ps_ret pe_bl)) pss_nil)
      (pss_cons (ps_if (pt_val (pe_callB call_isiD rfl T.isi PyProof.Rows.boot_isinstance (pa_cons (pv 4) (pa_cons (n_ty rfl T.lst rfl) pa_nil))) (by intro _; rfl)) (pss_one (ps_expr (pe_bm PySem.F.plainAttrs_list PySem.F.slot_list_append PySem.F.type_list_append mt_append (pv 4) (pa_cons pe_int pa_nil)) rfl)) pss_nil)
      (pss_one (ps_ret (pe_callR da room (by decide) tk rfl (pa_cons (pv 3) (pa_cons (pv 4) pa_nil)))))))), ?_⟩
    obtain ⟨ts, hl, h8, hts⟩ := L.lot.ex
    have hit : i < ts.length := by omega
    obtain ⟨e, ht, he⟩ := hts i ts[i] (List.getElem?_eq_getElem hit)
    have hat : atI (ts.map V.ref) (i : Int) = some (.ref ts[i]) := atI_nat (by rw [List.getElem?_map, List.getElem?_eq_getElem hit]; rfl)
    refine ⟨_, rfl, _, rfl, .inl ⟨l, ts.map V.ref, (i : Int), .ref ts[i], rfl, rfl, .inl (.inl hl), hat, ?_⟩⟩
    refine ⟨ts[i], [.ref e, thL v1 v2 i, thL v1 v2 i], rfl, .inl (.inl ht), rfl, _, _, rfl, _, _, rfl, _, _, rfl, rfl, ?_⟩
    refine ⟨_, rfl, e, C i, .ref B, .ref B, true, rfl, T.cc i hi, he, fun _ r => r, T.kb i hi, true, rfl, ?_⟩
    refine iteF ?_
    refine ⟨_, rfl, e, C i, .ty "ValueError", .type "ValueError", true, rfl, T.cc i hi, he, fun _ r => r, T.kv i hi, true, rfl, ?_⟩
    refine iteF ?_
    refine ⟨_, rfl, e, i, rfl, hi, he, fun l' H1 s1 nl hl' => ?_⟩
    refine ⟨H1, [none, some (.fz (.int (i : Int))), none, none, none, none], [], ⟨GLe.refl _, .no (.so (F := []) (F' := []) (.fz (.int _)) (.no (.no (.no (.no .nil))))), List.nodup_nil, fun _ m => nomatch m⟩, ?_⟩
    rw [at_val]
    intro b G2 H2 Fp2 Fr st2 S2 nd2 ap2 _ ow
    have s2 : Same H1 H2 := fun a u z => st2.keep a u z fun m => nomatch m
    have db : Den K H2 b (.list (eights.map fun j => .bool (decide (j = (i : Int))))) := by
      have := ow.den S2.le fun _ _ => rfl
      rw [DL.T.er, DL.T.erL_eq, List.map_map] at this
      exact this
    have da' : Den K H2 (.ref l') (.list ((kbs i).map PyData.bool)) := .lst (.inl (.inl (by rw [s2 _ _ hl', kindsV_eq]))) (denL_bls _)
    have db : Den K H2 b (.list ((kbs i).map PyData.bool)) := by rw [← eights_eq]; exact db
    have hsp := bls_shp (kbs i)
    refine ⟨_, _, da'.dp (shp_lay hsp), db.dp (shp_lay hsp), hsp, hsp, _, rfl, ?_⟩
    rw [PySem.SeqAt.eqv_refl _ (shp_lay hsp)]
    refine iteF ?_
    have s12 := s1.trans s2
    have L2 := L.same s12
    have any : ∃ d kk, Gd d kk ∧ Den K H2 (thL v1 v2 i) d := by
      rcases L2.at i with ⟨d, _, g, dv⟩ | ⟨a, xs, ds, e, _, _, dv, g, _⟩
      · exact ⟨d, 0, g, dv⟩
      · exact ⟨_, _, g, by rw [e]; exact dv⟩
    obtain ⟨d0, kk, g0, dv0⟩ := any
    refine ⟨_, rfl, _, rfl, sp_alike dv0 g0 fun H3 s3 => ?_⟩
    refine ⟨true, rfl, ?_⟩
    refine iteF ?_
    have L3 := L2.same s3
    have s13 := s12.trans s3
    rcases L3.at i with ⟨d, nl, g, dv⟩ | ⟨a, xs, ds, ev, mF, hx, dv, g, hlen, dv2, t1', t2', L4⟩
    · refine ⟨_, rfl, thL v1 v2 i, d, "list", _, rfl, dv, kit_list d, _, rfl, ?_⟩
      have nz := isi_nl d nl
      rw [nz]
      refine iteF ?_
      refine ⟨_, rfl, _, rfl, sp_alike dv g fun H5 s5 => ?_⟩
      exact q H5 t1 t2 (fun a o z _ => s5 _ _ (s13 _ _ z)) (L.up (s13.trans s5))
    · refine ⟨_, rfl, thL v1 v2 i, .list ds, "list", _, rfl, (by rw [ev]; exact dv), kit_list _, _, rfl, ?_⟩
      refine iteT ?_
      have h64 : xs.length < sizeLine := by
        have z := len_shown ds
        have := g.ln
        rw [sizeLine_eq]
        omega
      refine ⟨_, rfl, (by rw [ev]; exact .inl ⟨rfl, _, .inl (.inl hx)⟩), ?_⟩
      refine ⟨a, xs, .int 0, ev, rfl, hx, h64, ?_⟩
      refine ⟨_, rfl, _, rfl, sp_alike (by rw [ev]; exact dv2) g.app fun H5 s5 => ?_⟩
      refine q H5 t1' t2' (fun b o z n => s5 _ _ ?_) (L4.same s5)
      rw [upd_ne (fun z2 => n (by rw [z2]; exact mF))]
      exact s13 _ _ z
end

/-! ### the bag -/
def bagT (a b c : Int) (cells : List Int) : T := .ol [.fz (.int a), .fz (.int b), .fz (.int c), .fz (.list (cells.map PyData.int))]
structure Bag (a b c : Int) (cells : List Int) : Prop where
  a0 : 0 ≤ a
  b0 : 0 ≤ b
  b1 : b < 2147483647
  c0 : 0 ≤ c
  pos : ∀ x ∈ cells, 0 ≤ x
  few : cells.length ≤ 63
def IsBag (t : T) : Prop := ∃ a b c cells, t = bagT a b c cells ∧ Bag a b c cells
section
variable {a b c : Int} {cells : List Int} {env : Env}
theorem bag_er : (bagT a b c cells).er = .list [.int a, .int b, .int c, .list (cells.map PyData.int)] := by
  simp [bagT, T.er, T.erL]
theorem ix4 {x0 x1 x2 x3 : D} : atI [x0, x1, x2, x3] 0 = some x0 ∧ atI [x0, x1, x2, x3] 1 = some x1 ∧ atI [x0, x1, x2, x3] 2 = some x2 ∧ atI [x0, x1, x2, x3] 3 = some x3 := by
  refine ⟨?_, ?_, ?_, ?_⟩ <;> rfl
theorem mV (h : env[0]? = some (some (bagT a b c cells))) : mVar 0 env = .ok (.list [.int a, .int b, .int c, .list (cells.map PyData.int)]) env := by
  unfold mVar
  rw [h]
  simp only [bag_er]
theorem m2_ok {α : Type} {g : D → D → Option α} {ma mb : M D} {e1 e2 : Env} {x y : D} {r : α} (h1 : ma env = .ok x e1) (h2 : mb e1 = .ok y e2) (h : g x y = some r) : m2 g ma mb env = .ok r e2 := by
  unfold m2
  rw [M.bind_ok h1, M.bind_ok h2]
  unfold M.lift
  rw [h]
theorem bag0 (h : env[0]? = some (some (bagT a b c cells))) : m2 dIx (mVar 0) (mC (.int 0)) env = .ok (.int a) env := m2_ok (mV h) rfl ix4.1
theorem bag1 (h : env[0]? = some (some (bagT a b c cells))) : m2 dIx (mVar 0) (mC (.int 1)) env = .ok (.int b) env := m2_ok (mV h) rfl ix4.2.1
theorem bag2 (h : env[0]? = some (some (bagT a b c cells))) : m2 dIx (mVar 0) (mC (.int 2)) env = .ok (.int c) env := m2_ok (mV h) rfl ix4.2.2.1
theorem bag3 (h : env[0]? = some (some (bagT a b c cells))) : m2 dIx (mVar 0) (mC (.int 3)) env = .ok (.list (cells.map PyData.int)) env := m2_ok (mV h) rfl ix4.2.2.2
end
/-- the cell that is taken out of the script: 0 behind its end -/
def cellAt (c : Int) (cells : List Int) : Int := ((cells.drop c.toNat) ++ [0]).headD 0
theorem cellAt_pos {c : Int} {cells : List Int} (h : ∀ x ∈ cells, 0 ≤ x) : 0 ≤ cellAt c cells := by
  unfold cellAt
  cases q : cells.drop c.toNat with
  | nil => simp
  | cons x r => simp; exact h x (List.mem_of_mem_drop (q ▸ List.mem_cons_self))
noncomputable def mCell : M D := mFl (m2 dIx (m2 dCatV (mSlV (m2 dIx (mVar 0) (mC (.int 3))) (mBd (m2 dIx (mVar 0) (mC (.int 2)))) (M.pure none)) ((mL dLst (mCons (mC (.int 0)) (mNil))).map T.er)) (mC (.int 0)))
theorem cut_from (ds : List D) {c : Int} (h : 0 ≤ c) : cutD ds (some c) none = ds.drop c.toNat := by
  unfold cutD
  have e1 : HT.sIx ds.length 0 (some c) = min c.toNat ds.length := by
    show (if c < 0 then (c + (ds.length : Int)).toNat else min c.toNat ds.length) = _
    rw [if_neg (by omega)]
  have e2 : HT.sIx ds.length ds.length none = ds.length := rfl
  rw [e1, e2]
  rcases Nat.le_total c.toNat ds.length with z | z
  · rw [Nat.min_eq_left z, List.take_of_length_le (by simp)]
  · rw [Nat.min_eq_right z, List.drop_of_length_le z, List.drop_length]
    simp
theorem er_fz (ds : List D) : (T.ol (ds.map T.fz)).er = .list ds := by
  rw [T.er, T.erL_fz]
theorem cell_ok {a b c : Int} {cells : List Int} {env : Env} (h : env[0]? = some (some (bagT a b c cells))) (B : Bag a b c cells) : mCell env = .ok (.int (cellAt c cells)) env := by
  have h1 : mSlV (m2 dIx (mVar 0) (mC (.int 3))) (mBd (m2 dIx (mVar 0) (mC (.int 2)))) (M.pure none) env = .ok (.list ((cells.drop c.toNat).map PyData.int)) env := by
    unfold mSlV
    rw [M.bind_ok (bag3 h), M.bind_ok (a := some c) (env' := env) (by unfold mBd; rw [M.bind_ok (bag2 h)]; rfl)]
    rw [M.bind_ok (show (M.pure none : M (Option Int)) env = .ok none env from rfl)]
    unfold M.lift
    dsimp only [dSl]
    rw [cut_from _ B.c0, Option.map_some, er_fz, List.map_drop]
  have h2 : ((mL dLst (mCons (mC (.int 0)) (mNil))).map T.er) env = .ok (.list [.int 0]) env := by
    simp [M.map, M.bind, mL, mCons, mC, mNil, M.pure, M.lift, dLst, T.er, T.erL]
    rw [if_pos (by rw [sizeLine_eq]; decide)]
    simp [T.er, T.erL]
  have h3 : dCatV (.list ((cells.drop c.toNat).map PyData.int)) (.list [.int 0]) = some (.list (((cells.drop c.toNat) ++ [0]).map PyData.int)) := by
    unfold dCatV dCatL
    dsimp only
    rw [if_pos (by
      have := B.few
      rw [sizeLine_eq, List.length_map, List.length_drop]
      simp
      omega)]
    rw [Option.map_some, er_fz, List.map_append]
    rfl
  have h4 : dIx (.list (((cells.drop c.toNat) ++ [0]).map PyData.int)) (.int 0) = some (.int (cellAt c cells)) := by
    unfold dIx cellAt
    cases cells.drop c.toNat with
    | nil => rfl
    | cons x r =>
      refine atI_nat (j := 0) ?_
      simp
  unfold mCell mFl
  rw [M.bind_ok (m2_ok (m2_ok h1 h2 h3) (show mC (.int 0) env = .ok (.int 0) env from rfl) h4)]
  rfl

/-! ### steps of a computation -/
section
variable {env e1 : Env} {a b c : Int} {cells : List Int}
theorem seq_ok {m n : M Fl} (h : m env = .ok .nx e1) : mSeq m n env = n e1 := by unfold mSeq; rw [M.bind_ok h]
theorem seq_rt {m n : M Fl} {t : T} (h : m env = .ok (.rt t) e1) : mSeq m n env = .ok (.rt t) e1 := by unfold mSeq; rw [M.bind_ok h]; rfl
theorem if_t {t : M Bool} {x y : M Fl} (h : t env = .ok true e1) : mIfS t x y env = x e1 := by unfold mIfS; rw [M.bind_ok h]; rfl
theorem if_f {t : M Bool} {x y : M Fl} (h : t env = .ok false e1) : mIfS t x y env = y e1 := by unfold mIfS; rw [M.bind_ok h]; rfl
theorem map_ok {α β : Type} {m : M α} {f : α → β} {x : α} (h : m env = .ok x e1) : (m.map f) env = .ok (f x) e1 := by unfold M.map; rw [M.bind_ok h]; rfl
theorem set_ok {m : M T} {i : Nat} {t : T} (h : m env = .ok t e1) : mSet i m env = .ok .nx (e1.set i (some t)) := by unfold mSet; rw [M.bind_ok h]
theorem rt_ok {m : M T} {t : T} (h : m env = .ok t e1) : mRt m env = .ok (.rt t) e1 := by unfold mRt; rw [M.bind_ok h]; rfl
theorem tru_ok {m : M D} {k : Bool} (h : m env = .ok (.bool k) e1) : (m.bind tru) env = .ok k e1 := by rw [M.bind_ok h]; rfl
theorem c_ok {d : D} : mC d env = .ok d env := rfl
theorem f_ok {i : Nat} {d : D} (h : env[i]? = some (some (.fz d))) : mVarF i env = .ok d env := by unfold mVarF; rw [h]
theorem mL1_ok {α : Type} {g : List D → Option α} {m : M D} {x : D} {r : α} (h : m env = .ok x e1) (hg : g [x] = some r) : mL g (mCons m mNil) env = .ok r e1 := by
  unfold mL mCons
  rw [M.bind_ok (a := [x]) (env' := e1) (by rw [M.bind_ok h]; rfl)]
  unfold M.lift
  rw [hg]
theorem int_ok {m : M D} {i : Int} (h : m env = .ok (.int i) e1) : mL dInt (mCons m mNil) env = .ok (.int i) e1 := mL1_ok h rfl
theorem store_ok' {me : M T} {j v : Int} {t' : T} {t : T} (ht : env[0]? = some (some t)) (hb : boxy "list" t = true) (h : me env = .ok (.fz (.int v)) env) (hg : gSetL t [.fz (.int j), .fz (.int v)] = some (t', .fz .none)) :
    mStore "list" 0 gSetL me (mC (.int j)) env = .ok .nx (env.set 0 (some t')) := by
  unfold mStore mDrop mMeth
  have h1 : mBox "list" 0 env = .ok () env := by unfold mBox; rw [ht]; dsimp only; rw [if_pos hb]
  have h2 : mStA me (mC (.int j)) env = .ok [.fz (.int j), .fz (.int v)] env := by
    unfold mStA
    rw [M.bind_ok h, M.bind_ok (show mC (.int j) env = .ok (.int j) env from rfl)]
    rfl
  rw [M.bind_ok (a := .fz .none) (env' := env.set 0 (some t')) (by rw [M.bind_ok h1, M.bind_ok h2, ht]; dsimp only; rw [hg])]
  rfl
theorem aug_ok {t t' : T} {j v w : Int} {ts : List T} {n : Nat} (ht : env[0]? = some (some t)) (hl : t = .ol ts) (hj : ixN ts.length j = some n) (hn : ts[n]? = some (.fz (.int v))) (hg : gSetL t [.fz (.int j), .fz (.int (v + w))] = some (t', .fz .none)) :
    mAugL dIAdd 0 (mC (.int j)) (mC (.int w)) env = .ok .nx (env.set 0 (some t')) := by
  unfold mAugL mDrop mMeth
  have h1 : mBox "list" 0 env = .ok () env := by unfold mBox; rw [ht]; subst hl; rfl
  have h3 : mGetI 0 (.int j) env = .ok (.int v) env := by
    unfold mGetI
    rw [ht]
    subst hl
    dsimp only
    rw [hj]
    dsimp only
    rw [hn]
    rfl
  have h2 : mAugA dIAdd 0 (mC (.int j)) (mC (.int w)) env = .ok [.fz (.int j), .fz (.int (v + w))] env := by
    unfold mAugA
    rw [M.bind_ok (show mC (.int j) env = .ok (.int j) env from rfl), M.bind_ok h3, M.bind_ok (show mC (.int w) env = .ok (.int w) env from rfl)]
    rfl
  rw [M.bind_ok (a := .fz .none) (env' := env.set 0 (some t')) (by rw [M.bind_ok h1, M.bind_ok h2, ht]; dsimp only; rw [hg])]
  rfl
theorem mul_ok {ma mb : M D} {i j : Int} {e2 : Env} (h1 : ma env = .ok (.int i) e1) (h2 : mb e1 = .ok (.int j) e2) (h : (i.natAbs < 2 ^ 64 ∨ j.natAbs < 2 ^ 64) ∨ i.natAbs.log2 + j.natAbs.log2 < 1000000) : m2 dMul ma mb env = .ok (.int (i * j)) e2 :=
  m2_ok h1 h2 (by unfold dMul; dsimp only; rw [if_pos h])
theorem mod_ok {ma mb : M D} {i j : Int} {e2 : Env} (h1 : ma env = .ok (.int i) e1) (h2 : mb e1 = .ok (.int j) e2) (h : 0 < j) : m2 dMod ma mb env = .ok (.int (i % j)) e2 :=
  m2_ok h1 h2 (by unfold dMod; dsimp only; rw [if_pos (by omega), Int.fmod_eq_emod_of_nonneg _ (by omega)])
theorem div_ok {ma mb : M D} {i j : Int} {e2 : Env} (h1 : ma env = .ok (.int i) e1) (h2 : mb e1 = .ok (.int j) e2) (h : 0 < j) (hl : j.natAbs.log2 < 9000) : m2 dDiv ma mb env = .ok (.int (i / j)) e2 :=
  m2_ok h1 h2 (by unfold dDiv; dsimp only; rw [if_pos ⟨by omega, hl⟩, Int.fdiv_eq_ediv_of_nonneg _ (by omega)])
theorem add_ok {ma mb : M D} {i j : Int} {e2 : Env} (h1 : ma env = .ok (.int i) e1) (h2 : mb e1 = .ok (.int j) e2) : m2 dAdd ma mb env = .ok (.int (i + j)) e2 := m2_ok h1 h2 rfl
theorem sub_ok {ma mb : M D} {i j : Int} {e2 : Env} (h1 : ma env = .ok (.int i) e1) (h2 : mb e1 = .ok (.int j) e2) : m2 dSub ma mb env = .ok (.int (i - j)) e2 := m2_ok h1 h2 rfl
theorem gt_ok {ma mb : M D} {i j : Int} {e2 : Env} (h1 : ma env = .ok (.int i) e1) (h2 : mb e1 = .ok (.int j) e2) : m2 dGt ma mb env = .ok (.bool (decide (i > j))) e2 := m2_ok h1 h2 rfl
theorem ge_ok {ma mb : M D} {i j : Int} {e2 : Env} (h1 : ma env = .ok (.int i) e1) (h2 : mb e1 = .ok (.int j) e2) : m2 dGe ma mb env = .ok (.bool (decide (i ≥ j))) e2 := m2_ok h1 h2 rfl
theorem lt_ok {ma mb : M D} {i j : Int} {e2 : Env} (h1 : ma env = .ok (.int i) e1) (h2 : mb e1 = .ok (.int j) e2) : m2 dLt ma mb env = .ok (.bool (decide (i < j))) e2 := m2_ok h1 h2 rfl
theorem dEqS_ints (a b : Int) : dEqS (.int a) (.int b) = some (.bool (decide (a = b))) := by
  unfold dEqS
  have h : ∀ z : Int, shp (.int z) = true := fun z => by simp [shp, SeqAt.shaped, PyData.canLay0, PyData.depth]
  have e : PyData.eqv (.int a) (.int b) = decide (a = b) := by
    simp only [PyData.eqv]
    exact Bool.eq_iff_iff.mpr (by simp)
  rw [if_pos ⟨h a, h b⟩, e]
theorem eq_ok {ma mb : M D} {i j : Int} {e2 : Env} (h1 : ma env = .ok (.int i) e1) (h2 : mb e1 = .ok (.int j) e2) : m2 dEqS ma mb env = .ok (.bool (decide (i = j))) e2 := m2_ok h1 h2 (dEqS_ints i j)
theorem pow_ok {i j : Int} (h0 : 0 ≤ j) (h1 : j ≤ 1000000) (h2 : i.natAbs < 2 ^ 64) : m2 dPow (mC (.int i)) (mC (.int j)) env = .ok (.int (i ^ j.toNat)) env :=
  m2_ok rfl rfl (by unfold dPow; dsimp only; rw [if_pos ⟨h0, h1, h2⟩])
end

/-! ### take -/
noncomputable def mTake1 : M Fl := mIfS ((m2 dEqS (m2 dIx (mVar 0) (mC (.int 0))) (mC (.int 0))).bind tru) (mSeq (mSet 4 ((mFl (m2 dIx (m2 dCatV (mSlV (m2 dIx (mVar 0) (mC (.int 3))) (mBd (m2 dIx (mVar 0) (mC (.int 2)))) (M.pure none)) ((mL dLst (mCons (mC (.int 0)) (mNil))).map T.er)) (mC (.int 0)))).map T.fz))
  (mSeq (mAugL dIAdd 0 (mC (.int 2)) (mC (.int 1)))
  (mSeq (mIfS ((m2 dGe (mVarF 4) (m2 dPow (mC (.int 10)) (mC (.int 18)))).bind tru) (mStore "list" 0 gSetL ((mVarF 4).map T.fz) (mC (.int 0))) (mNx))
  (mSeq (mSet 5 ((m2 dAdd (m2 dAdd (m2 dMul (m2 dIx (mVar 0) (mC (.int 1))) (mC (.int 48271))) (m2 dMod (mL dInt (mCons (mVarF 4) (mNil))) (mC (.int 2147483647)))) (m2 dMul (mC (.int 7919)) (m2 dIx (mVar 0) (mC (.int 2))))).map T.fz))
  (mStore "list" 0 gSetL ((m2 dMod (mL dInt (mCons (mVarF 5) (mNil))) (mC (.int 2147483647))).map T.fz) (mC (.int 1))))))) (mNx)
noncomputable def mTake2 : M Fl := mIfS ((m2 dGt (m2 dIx (mVar 0) (mC (.int 0))) (mC (.int 0))).bind tru) (mSeq (mSet 6 ((m2 dMod (mL dInt (mCons (m2 dIx (mVar 0) (mC (.int 0))) (mNil))) (mVarF 1)).map T.fz))
  (mSeq (mStore "list" 0 gSetL ((m2 dDiv (mL dInt (mCons (m2 dIx (mVar 0) (mC (.int 0))) (mNil))) (mVarF 1)).map T.fz) (mC (.int 0)))
  (mRt ((mVarF 6).map T.fz)))) (mNx)
noncomputable def mTake3 : M Fl := mSeq (mSet 2 ((m2 dMod (mL dInt (mCons (m2 dMul (m2 dAdd (m2 dIx (mVar 0) (mC (.int 1))) (mC (.int 1))) (mC (.int 39373))) (mNil))) (mC (.int 1000000007))).map T.fz))
  (mSeq (mSet 3 ((m2 dMod (mL dInt (mCons (m2 dMul (m2 dMod (mL dInt (mCons (m2 dMul (mVarF 2) (mVarF 2)) (mNil))) (mC (.int 998244353))) (mC (.int 30011))) (mNil))) (mC (.int 998244353))).map T.fz))
  (mRt ((m2 dMod (mL dInt (mCons (m2 dDiv (mVarF 3) (mC (.int 7))) (mNil))) (mVarF 1)).map T.fz)))
theorem mTake_eq : m__law_take = mSeq mTake1 (mSeq mTake2 mTake3) := rfl
def takeE (t : T) (many : Int) (x y z : Option T) : Env := [some t, some (.fz (.int many)), none, none, x, y, z]
section
variable {t t' : T} {m : Int} {x y z : Option T}
theorem tE0 : List.set (takeE t m x y z) 0 (some t') = takeE t' m x y z := rfl
theorem tE4 : List.set (takeE t m x y z) 4 (some t') = takeE t m (some t') y z := rfl
theorem tE5 : List.set (takeE t m x y z) 5 (some t') = takeE t m x (some t') z := rfl
theorem tE6 : List.set (takeE t m x y z) 6 (some t') = takeE t m x y (some t') := rfl
end
theorem take1 {a b c : Int} {cells : List Int} (B : Bag a b c cells) (many : Int) : ∃ a' b' c' x y, Bag a' b' c' cells ∧ mTake1 (takeE (bagT a b c cells) many none none none) = .ok .nx (takeE (bagT a' b' c' cells) many x y none) := by
  unfold mTake1
  by_cases h0 : a = 0
  · rw [if_t (tru_ok (k := true) (by rw [eq_ok (bag0 rfl) c_ok, decide_eq_true h0]))]
    have cok := cell_ok (c := c) (env := takeE (bagT a b c cells) many none none none) rfl B
    unfold mCell at cok
    rw [seq_ok (set_ok (i := 4) (map_ok cok))]
    rw [tE4]
    have hc := cellAt_pos (c := c) B.pos
    generalize cellAt c cells = cell at *
    rw [seq_ok (aug_ok (t := bagT a b c cells) (t' := bagT a b (c + 1) cells) (n := 2) (v := c) rfl rfl rfl rfl rfl), tE0]
    have B1 : Bag a b (c + 1) cells := ⟨B.a0, B.b0, B.b1, by have := B.c0; omega, B.pos, B.few⟩
    have step : ∃ a', 0 ≤ a' ∧ mIfS ((m2 dGe (mVarF 4) (m2 dPow (mC (.int 10)) (mC (.int 18)))).bind tru) (mStore "list" 0 gSetL ((mVarF 4).map T.fz) (mC (.int 0))) (mNx) (takeE (bagT a b (c + 1) cells) many (some (.fz (.int cell))) none none) = .ok .nx (takeE (bagT a' b (c + 1) cells) many (some (.fz (.int cell))) none none) := by
      by_cases hb : cell ≥ 10 ^ 18
      · refine ⟨cell, hc, ?_⟩
        rw [if_t (tru_ok (k := true) (by rw [ge_ok (f_ok rfl) (pow_ok (by decide) (by decide) (by decide)), decide_eq_true (by simpa using hb)]))]
        rw [store_ok' (t := bagT a b (c + 1) cells) (t' := bagT cell b (c + 1) cells) (v := cell) rfl rfl (map_ok (f_ok rfl)) rfl]
        rfl
      · refine ⟨a, B.a0, ?_⟩
        rw [if_f (tru_ok (k := false) (by rw [ge_ok (f_ok rfl) (pow_ok (by decide) (by decide) (by decide)), decide_eq_false (by simpa using hb)]))]
        rfl
    obtain ⟨a', ha', hs⟩ := step
    rw [seq_ok hs]
    have hb0 := B.b0
    have hc0 := B1.c0
    have e1 : m2 dAdd (m2 dAdd (m2 dMul (m2 dIx (mVar 0) (mC (.int 1))) (mC (.int 48271))) (m2 dMod (mL dInt (mCons (mVarF 4) mNil)) (mC (.int 2147483647)))) (m2 dMul (mC (.int 7919)) (m2 dIx (mVar 0) (mC (.int 2)))) (takeE (bagT a' b (c + 1) cells) many (some (.fz (.int cell))) none none) = .ok (.int (b * 48271 + cell % 2147483647 + 7919 * (c + 1))) (takeE (bagT a' b (c + 1) cells) many (some (.fz (.int cell))) none none) :=
      add_ok (add_ok (mul_ok (bag1 rfl) c_ok (.inl (.inr (by decide)))) (mod_ok (int_ok (f_ok rfl)) c_ok (by decide))) (mul_ok c_ok (bag2 rfl) (.inl (.inl (by decide))))
    rw [seq_ok (set_ok (i := 5) (map_ok e1)), tE5]
    rw [store_ok' (t := bagT a' b (c + 1) cells) (t' := bagT a' ((b * 48271 + cell % 2147483647 + 7919 * (c + 1)) % 2147483647) (c + 1) cells) rfl rfl (map_ok (mod_ok (int_ok (f_ok rfl)) c_ok (by decide))) rfl]
    exact ⟨a', _, c + 1, _, _, ⟨ha', Int.emod_nonneg _ (by decide), Int.emod_lt_of_pos _ (by decide), hc0, B.pos, B.few⟩, rfl⟩
  · rw [if_f (tru_ok (k := false) (by rw [eq_ok (bag0 rfl) c_ok, decide_eq_false h0]))]
    exact ⟨a, b, c, none, none, B, rfl⟩
theorem take2 {a b c : Int} {cells : List Int} (B : Bag a b c cells) {many : Int} (hm : 1 ≤ many) (hl : many.natAbs.log2 < 9000) (x y : Option T) : ∃ n a' t, Bag a' b c cells ∧ 0 ≤ n ∧ n < many ∧ mSeq mTake2 mTake3 (takeE (bagT a b c cells) many x y none) = .ok (.rt (.fz (.int n))) t ∧ t[0]? = some (some (bagT a' b c cells)) := by
  unfold mTake2 mTake3
  by_cases h0 : a > 0
  · refine ⟨a % many, a / many, takeE (bagT (a / many) b c cells) many x y (some (.fz (.int (a % many)))), ⟨Int.ediv_nonneg B.a0 (by omega), B.b0, B.b1, B.c0, B.pos, B.few⟩, Int.emod_nonneg _ (by omega), Int.emod_lt_of_pos _ (by omega), ?_, rfl⟩
    refine seq_rt ?_
    rw [if_t (tru_ok (k := true) (by rw [gt_ok (bag0 rfl) c_ok, decide_eq_true h0]))]
    rw [seq_ok (set_ok (i := 6) (map_ok (mod_ok (int_ok (bag0 rfl)) (f_ok rfl) (by omega)))), tE6]
    rw [seq_ok (store_ok' (t := bagT a b c cells) (t' := bagT (a / many) b c cells) rfl rfl (map_ok (div_ok (int_ok (bag0 rfl)) (f_ok rfl) (by omega) hl)) rfl), tE0]
    exact rt_ok (map_ok (f_ok rfl))
  · have hb0 := B.b0
    have hb1 := B.b1
    have g0 : 0 ≤ (b + 1) * 39373 % 1000000007 := Int.emod_nonneg _ (by decide)
    have g1 : (b + 1) * 39373 % 1000000007 < 1000000007 := Int.emod_lt_of_pos _ (by decide)
    generalize hg : (b + 1) * 39373 % 1000000007 = g at *
    have h0' : 0 ≤ g * g % 998244353 * 30011 % 998244353 := Int.emod_nonneg _ (by decide)
    generalize hh : g * g % 998244353 * 30011 % 998244353 = r at *
    refine ⟨r / 7 % many, a, [some (bagT a b c cells), some (.fz (.int many)), some (.fz (.int g)), some (.fz (.int r)), x, y, none], B, Int.emod_nonneg _ (by omega), Int.emod_lt_of_pos _ (by omega), ?_, rfl⟩
    rw [seq_ok (e1 := takeE (bagT a b c cells) many x y none) (by rw [if_f (tru_ok (k := false) (by rw [gt_ok (bag0 rfl) c_ok, decide_eq_false h0]))]; rfl)]
    have e2 : m2 dMod (mL dInt (mCons (m2 dMul (m2 dAdd (m2 dIx (mVar 0) (mC (.int 1))) (mC (.int 1))) (mC (.int 39373))) mNil)) (mC (.int 1000000007)) (takeE (bagT a b c cells) many x y none) = .ok (.int g) (takeE (bagT a b c cells) many x y none) := by
      rw [mod_ok (int_ok (mul_ok (add_ok (bag1 rfl) c_ok) c_ok (.inl (.inr (by decide))))) c_ok (by decide), hg]
    rw [seq_ok (set_ok (i := 2) (map_ok e2))]
    have e3 : m2 dMod (mL dInt (mCons (m2 dMul (m2 dMod (mL dInt (mCons (m2 dMul (mVarF 2) (mVarF 2)) mNil)) (mC (.int 998244353))) (mC (.int 30011))) mNil)) (mC (.int 998244353)) ((takeE (bagT a b c cells) many x y none).set 2 (some (.fz (.int g)))) = .ok (.int r) ((takeE (bagT a b c cells) many x y none).set 2 (some (.fz (.int g)))) := by
      rw [mod_ok (int_ok (mul_ok (mod_ok (int_ok (mul_ok (f_ok (d := .int g) rfl) (f_ok (d := .int g) rfl) (.inl (.inl (by omega))))) c_ok (by decide)) c_ok (.inl (.inr (by decide))))) c_ok (by decide), hh]
    rw [seq_ok (set_ok (i := 3) (map_ok e3))]
    exact rt_ok (map_ok (mod_ok (int_ok (div_ok (f_ok (d := .int r) rfl) c_ok (by decide) (by decide))) (f_ok (d := .int many) rfl) (by omega)))
/-- _law_take: an integer from 0 on below many, the bag a bag again -/
theorem take_ok {t : T} (B : IsBag t) {many : Int} (hm : 1 ≤ many) (hl : many.natAbs.log2 < 9000) : ∃ n t', IsBag t' ∧ 0 ≤ n ∧ n < many ∧ ∃ e, sem__law_take [some t, some (.fz (.int many))] = .ok (.fz (.int n)) (some t' :: e) := by
  obtain ⟨a, b, c, cells, rfl, B⟩ := B
  obtain ⟨a1, b1, c1, x, y, B1, h1⟩ := take1 B many
  obtain ⟨n, a2, t, B2, n0, n1, h2, h3⟩ := take2 B1 hm hl x y
  refine ⟨n, bagT a2 b1 c1 cells, ⟨_, _, _, _, rfl, B2⟩, n0, n1, [some (.fz (.int many))], ?_⟩
  unfold sem__law_take semOf
  have e0 : ([some (bagT a b c cells), some (.fz (.int many))] ++ List.replicate 5 none : Env) = takeE (bagT a b c cells) many none none none := rfl
  rw [e0, mTake_eq, seq_ok h1, h2]
  dsimp only
  cases t with
  | nil => cases h3
  | cons u r =>
    cases r with
    | nil =>
      cases h3
      rfl
    | cons u2 r2 =>
      cases h3
      rfl

/-! ### some, odd: moved -/
theorem callB_ok {sem : Sem} {i : Nat} {ms : M (List D)} {env env1 : Env} {ds : List D} {t0 t t' r : T} {e : Env} (h0 : env[i]? = some (some t0)) (h : ms env = .ok ds env1) (ht : env1[i]? = some (some t)) (hs : sem (some t :: ds.map fun d => some (.fz d)) = .ok r (some t' :: e)) :
    ((mHas i).bind fun _ => mCallB sem i ms) env = .ok r (env1.set i (some t')) := by
  rw [M.bind_ok (a := ()) (env' := env) (by unfold mHas; rw [h0])]
  unfold mCallB
  rw [M.bind_ok h, ht]
  dsimp only
  rw [hs]
theorem callBO_ok {sem : Sem} {i : Nat} {ms : M (List T)} {env env1 : Env} {ts : List T} {t0 t t' r : T} {e : Env} (h0 : env[i]? = some (some t0)) (h : ms env = .ok ts env1) (ht : env1[i]? = some (some t)) (hs : sem (some t :: ts.map some) = .ok r (some t' :: e)) :
    ((mHas i).bind fun _ => mCallBO sem i ms) env = .ok r (env1.set i (some t')) := by
  rw [M.bind_ok (a := ()) (env' := env) (by unfold mHas; rw [h0])]
  unfold mCallBO
  rw [M.bind_ok h, ht]
  dsimp only
  rw [hs]
theorem one_ok {m : M D} {env e1 : Env} {d : D} (h : m env = .ok d e1) : mCons m mNil env = .ok [d] e1 := by
  unfold mCons
  rw [M.bind_ok h]
  rfl
theorem oneT_ok {m : M T} {env e1 : Env} {d : T} (h : m env = .ok d e1) : mConsT m mNilT env = .ok [d] e1 := by
  unfold mConsT
  rw [M.bind_ok h]
  rfl
theorem log_small {n : Nat} (h : n < 2 ^ 63) : n.log2 < 9000 := by
  by_cases z : n = 0
  · subst z; decide
  · exact Nat.lt_of_lt_of_le ((Nat.log2_lt z).mpr h) (by decide)
/-- _law_some of a list that is moved: one of its items -/
theorem someO_ok {t : T} (B : IsBag t) {ts : List T} (h0 : ts ≠ []) (h1 : ts.length ≤ sizeLine) : ∃ r t', r ∈ ts ∧ IsBag t' ∧ ∃ e, sem__law_someO [some t, some (.ol ts)] = .ok r (some t' :: e) := by
  have hp : 0 < ts.length := List.length_pos_iff.mpr h0
  have hz : ts.length < 2 ^ 63 := by rw [sizeLine_eq] at h1; omega
  obtain ⟨n, t', B', n0, n1, e, he⟩ := take_ok B (many := (ts.length : Int)) (by omega) (by simpa using log_small hz)
  have hn : n.toNat < ts.length := by omega
  refine ⟨ts[n.toNat], t', List.getElem_mem hn, B', [none], ?_⟩
  unfold sem__law_someO semOf
  have hl : mL dLen (mCons (mVar 1) mNil) [some t, some (.ol ts)] = .ok (.int (ts.length : Nat)) [some t, some (.ol ts)] := by
    refine mL1_ok (x := (T.ol ts).er) rfl ?_
    rw [T.er, T.erL_eq]
    simp [dLen]
  have hc := callB_ok (sem := sem__law_take) (i := 0) (env := [some t, some (.ol ts)]) (ms := mCons (mL dLen (mCons (mVar 1) mNil)) mNil) (t0 := t) rfl (one_ok hl) rfl he
  have hi : ixN ts.length n = some n.toNat := by
    unfold ixN
    rw [if_pos n0, if_pos (by omega)]
  have hx : mIxO 1 (((mHas 0).bind fun _ => mCallB sem__law_take 0 (mCons (mL dLen (mCons (mVar 1) mNil)) mNil)).map T.er) [some t, some (.ol ts)] = .ok ts[n.toNat] [some t', none] := by
    unfold mIxO
    rw [M.bind_ok (show mHas 1 [some t, some (.ol ts)] = .ok () [some t, some (.ol ts)] from rfl), M.bind_ok (map_ok hc)]
    show (match ([some t', some (.ol ts)] : Env)[1]?, T.er (.fz (.int n)) with
      | some (some (.ol ts)), .int k => match ixN ts.length k with
        | some j => match ts[j]? with
          | some t => Rs.ok t (([some t', some (.ol ts)] : Env).set 1 none)
          | none => .bad
        | none => .bad
      | _, _ => .bad) = _
    simp only [T.er, List.getElem?_cons_succ, List.getElem?_cons_zero, hi, List.getElem?_eq_getElem hn]
    rfl
  have hm : m__law_someO ([some t, some (.ol ts)] ++ List.replicate 0 none) = .ok (.rt ts[n.toNat]) [some t', none] := rt_ok hx
  rw [hm]
  rfl
noncomputable def mOdd1 : M T := mLT tLstO (mConsT ((mC .none).map T.fz) (mConsT ((mC (.bool true)).map T.fz) (mConsT ((mC (.bool false)).map T.fz) (mConsT ((mC (.int 0)).map T.fz) (mConsT ((mC (.int 1)).map T.fz) (mConsT ((m1 dNeg (mC (.int 1))).map T.fz) (mConsT ((mC (.int 10000)).map T.fz) (mConsT ((m2 dPow (mC (.int 10)) (mC (.int 39))).map T.fz) (mConsT ((mC (.str "")).map T.fz) (mConsT ((mC (.str "a")).map T.fz) (mConsT ((mC (.str "if")).map T.fz) (mConsT ((mL dTup (mNil)).map T.fz) (mConsT (mL dLst (mNil)) (mConsT (((mDic0).map T.er).map T.fz) (mConsT ((mL dTup (mCons (mC (.str "round")) (mNil))).map T.fz) (mConsT ((mL dTup (mCons (mC (.str "read")) (mCons (mC (.str "a")) (mCons (mC (.int 1)) (mNil))))).map T.fz) (mNilT)))))))))))))))))
noncomputable def mOdd2 : M T := mLT tLstO (mConsT ((mL dTup (mCons (mC (.str "number")) (mCons (mC (.int 3)) (mNil)))).map T.fz) (mConsT (mLT tLstO (mConsT ((mC (.str "round")).map T.fz) (mNilT))) (mConsT (((mDisp ((mC (.str "a"), mC (.int 1)) :: [])).map T.er).map T.fz) (mConsT ((mC (.str "a\n")).map T.fz) (mConsT ((mL dTup (mCons (mL dTup (mCons (mC (.str "a")) (mCons (mC (.int 0)) (mNil)))) (mNil))).map T.fz) (mConsT ((mL dTup (mCons (mC (.str "a")) (mCons (mC (.str "b")) (mCons (mC (.int 1)) (mNil))))).map T.fz) (mConsT ((mL dTup (mCons (mC (.int 1)) (mCons (mL dTup (mCons (mC .none) (mNil))) (mNil)))).map T.fz) (mNilT))))))))
theorem mOdd_eq : m__law_oddO = mSeq (mSet 1 mOdd1) (mRt ((mHas 0).bind fun _ => mCallBO sem__law_someO 0 (mConsT (mAddO (mOut 1) mOdd2) mNilT))) := rfl
def odds1 : List T := [.fz .none, .fz (.bool true), .fz (.bool false), .fz (.int 0), .fz (.int 1), .fz (.int (-1)), .fz (.int 10000), .fz (.int (10 ^ 39)), .fz (.str ""), .fz (.str "a"), .fz (.str "if"), .fz (.tuple []), .ol [], .fz (.dict []), .fz (.tuple [.str "round"]), .fz (.tuple [.str "read", .str "a", .int 1])]
def odds2 : List T := [.fz (.tuple [.str "number", .int 3]), .ol [.fz (.str "round")], .fz (.dict [(.str "a", .int 1)]), .fz (.str "a\n"), .fz (.tuple [.tuple [.str "a", .int 0]]), .fz (.tuple [.str "a", .str "b", .int 1]), .fz (.tuple [.int 1, .tuple [.none]])]
theorem sz_le {n : Nat} (h : n ≤ 1000) : n ≤ sizeLine := by rw [sizeLine_eq]; omega
theorem dTup_le {ds : List D} (h : ds.length ≤ 1000) : dTup ds = some (.tuple ds) := by unfold dTup; rw [if_pos (sz_le h)]
theorem dLst_le {ds : List D} (h : ds.length ≤ 1000) : dLst ds = some (.ol (ds.map T.fz)) := by unfold dLst; rw [if_pos (sz_le h)]
theorem lstO_le {ds : List T} (h : ds.length ≤ 1000) : tLstO ds = some (.ol ds) := by unfold tLstO; rw [if_pos (sz_le h)]
theorem odd1_ok (env : Env) : mOdd1 env = .ok (.ol odds1) env := by
  simp (decide := true) [mOdd1, mLT, mL, m1, m2, mConsT, mNilT, mCons, mNil, mC, mDic0, M.map, M.bind, M.pure, M.lift, dTup_le, dLst_le, lstO_le, dNeg, dPow, T.er, T.erK, odds1]
theorem disp_a : tDisp1 [(.str "a", .int 1)] = some (.od [(.str "a", .fz (.int 1))]) := by
  unfold tDisp1
  show (match (some [(Sum.inr "a", PyData.int 1)] : Option (List (Key × D))) with
    | some kvs => _
    | none => none) = _
  dsimp only
  rw [if_pos (by simp)]
  rfl
theorem odd2_ok (env : Env) : mOdd2 env = .ok (.ol odds2) env := by
  simp (decide := true) [mOdd2, mLT, mL, m1, m2, mConsT, mNilT, mCons, mNil, mC, mDic0, mDisp, mPairs, disp_a, M.map, M.bind, M.pure, M.lift, dTup_le, dLst_le, lstO_le, dNeg, dPow, T.er, T.erK, odds2]

/-! ### odd -/
theorem odd_ok {t : T} (B : IsBag t) : ∃ r t', r ∈ odds1 ++ odds2 ∧ IsBag t' ∧ ∃ e, sem__law_oddO [some t] = .ok r (some t' :: e) := by
  obtain ⟨r, t', hr, B', e, he⟩ := someO_ok B (ts := odds1 ++ odds2) (by simp [odds1]) (sz_le (by decide))
  refine ⟨r, t', hr, B', [], ?_⟩
  unfold sem__law_oddO semOf
  have e0 : ([some t] ++ List.replicate 1 none : Env) = [some t, none] := rfl
  have h1 : mSet 1 mOdd1 [some t, none] = .ok .nx [some t, some (.ol odds1)] := set_ok (odd1_ok _)
  have h2 : mAddO (mOut 1) mOdd2 [some t, some (.ol odds1)] = .ok (.ol (odds1 ++ odds2)) [some t, none] := by
    unfold mAddO
    rw [M.bind_ok (show mOut 1 [some t, some (.ol odds1)] = .ok (.ol odds1) [some t, none] from rfl), M.bind_ok (odd2_ok _)]
    unfold M.lift tCatO
    dsimp only
    rw [if_pos (sz_le (by decide))]
  have h3 := callBO_ok (sem := sem__law_someO) (i := 0) (env := [some t, some (.ol odds1)]) (ms := mConsT (mAddO (mOut 1) mOdd2) mNilT) (t0 := t) rfl (oneT_ok h2) rfl he
  rw [e0, mOdd_eq, seq_ok h1, rt_ok h3]
  rfl
def gdB (k : Nat) (d : D) : Bool := decide (d.depth ≤ 50) && nodt d && d.showable && decide (d.shown.length + 3 * k ≤ 900)
def fzD : T → D
  | .fz d => d
  | _ => .none
/-- what odd gives: small data, or a list of small data -/
def oddB (t : T) : Bool := match t with
  | .fz (.list _) => false
  | .fz d => gdB 0 d
  | .ol ts => gdB 8 (.list (ts.map fzD)) && ts.all fun t => match t with
    | .fz _ => true
    | _ => false
  | _ => false
theorem odds_all : (odds1 ++ odds2).all oddB = true := by decide +kernel
theorem gd_of {k : Nat} {d : D} (h : gdB k d = true) : Gd d k := by
  simp only [gdB, Bool.and_eq_true, decide_eq_true_eq] at h
  exact ⟨by omega, h.1.1.2, h.1.2, by omega⟩
theorem gd_wrap {k j : Nat} {d : D} (h : gdB k d = true) (hj : j ≤ 8) : Gd (.list [d]) j := by
  simp only [gdB, Bool.and_eq_true, decide_eq_true_eq] at h
  refine ⟨by simp only [PyData.depth, PyData.depthAll]; omega, by simp only [nodt, nodtL, h.1.1.2, Bool.and_self], by simp only [PyData.showable, PyData.showableAll, h.1.2, Bool.and_self], ?_⟩
  have e : (PyData.list [d]).shown = (("[" : Str) ++ d.shown ++ "]" : Str) := by
    simp only [PyData.shown, PyData.shownAll, listText, textFrom]
    rw [if_neg (by omega)]
    congr 1
  rw [e, Str.length_append, Str.length_append]
  have h1 : ("[" : Str).length = 1 := by decide
  have h2 : ("]" : Str).length = 1 := by decide
  omega
theorem fzD_map : ∀ ts : List T, (ts.all fun t => match t with | .fz _ => true | _ => false) = true → ts = (ts.map fzD).map T.fz ∧ T.erL ts = ts.map fzD
  | [], _ => ⟨rfl, by simp [T.erL]⟩
  | .fz d :: r, h => by
    simp only [List.all_cons, Bool.true_and] at h
    obtain ⟨a, b⟩ := fzD_map r h
    exact ⟨by rw [List.map_cons, List.map_cons, ← a]; rfl, by simp [T.erL, T.er, b, fzD]⟩
  | .ol _ :: r, h => by simp at h
  | .ot _ :: r, h => by simp at h
  | .od _ :: r, h => by simp at h
theorem odd_sh {t : T} (h : oddB t = true) : Sh 8 t ∧ Sh 8 (.ol [.fz t.er]) := by
  unfold oddB at h
  split at h
  · cases h
  · rename_i d hn
    refine ⟨.inl ⟨d, rfl, ?_, gd_of h⟩, .inr ⟨[d], by simp [T.er], gd_wrap h (Nat.le_refl _)⟩⟩
    cases d with
    | list ds => exact absurd rfl (hn ds)
    | _ => rfl
  · rename_i ts
    rw [Bool.and_eq_true] at h
    obtain ⟨a, b⟩ := fzD_map ts h.2
    have e : (T.ol ts).er = .list (ts.map fzD) := by rw [T.er, b]
    exact ⟨.inr ⟨ts.map fzD, by rw [← a], gd_of h.1⟩, .inr ⟨[(T.ol ts).er], rfl, by rw [e]; exact gd_wrap h.1 (Nat.le_refl _)⟩⟩
  · cases h
theorem odd_all {t : T} (h : t ∈ odds1 ++ odds2) : Sh 8 t ∧ Sh 8 (.ol [.fz t.er]) := odd_sh (List.all_eq_true.mp odds_all t h)

/-! ### the law: two lots of errors -/
abbrev s_law : Stmt := top 31
abbrev N_law : List Str := ["script", "bag", "lots", "lot", "great", "near", "far", "turn", "one", "other", "a", "b", "c", "d", "factor", "due", "found", "order", "text", "at"]
theorem sc_law : FnScope N_law ["script"] (defScope s_law) := ⟨rfl, rfl, rfl, by decide +kernel, rfl, by decide +kernel, by decide +kernel⟩
/-- two statements at once -/
def D2 (X : Cx) (W : WX) (fx : List Nat) (s1 s2 : Stmt) (m : M Fl) : Prop := ∃ t1 t2 : TS, PS X s1 t1 ∧ PS X s2 t2 ∧ ∀ G H σ env Fp Dn, Sta X.K G H σ env Fp → SPost X W fx σ G H Fp Dn (m env) → t1 { Dn with nx := t2 Dn } σ H
theorem ss_two {X : Cx} {W : WX} {fx : List Nat} {s1 s2 : Stmt} {rest : List Stmt} {n n' : M Fl} (h1 : D2 X W fx s1 s2 n) (h2 : DSs X W fx rest n') : DSs X W fx (s1 :: s2 :: rest) (mSeq n n') := by
  obtain ⟨t1, t1', p1, p1', k1⟩ := h1
  obtain ⟨t2, p2, k2⟩ := h2
  refine ⟨_, pss_cons p1 (pss_cons p1' p2), fun G H σ env Fp Dn S h => k1 G H σ env Fp { Dn with nx := t2 Dn } S ?_⟩
  unfold mSeq at h
  cases r : n env with
  | bad => rw [M.bind_bad r] at h; exact h
  | exn x e' => rw [M.bind_exn r] at h; exact h
  | ok f e' =>
    rw [M.bind_ok r] at h
    cases f with
    | nx => exact fun σ' G' H' Fp' st' f' S' => k2 G' H' σ' e' Fp' Dn S' (h.shift st' f')
    | bk => exact h
    | ct => exact h
    | rt t => exact h
noncomputable def oddM : M T := (mHas 1).bind fun _ => mCallB sem__law_oddO 1 mNil
noncomputable def mA1 : M (List T) := mConsT oddM (mConsT (mL dLst (mCons (oddM.map T.er) mNil)) mNilT)
noncomputable def mA2 : M (List T) := mConsT (mL dLst (mCons (oddM.map T.er) mNil)) (mConsT oddM mNilT)
def Sh2 (ts : List T) : Prop := ∃ t1 t2, ts = [t1, t2] ∧ Sh 8 t1 ∧ Sh 8 t2
open Classical in
noncomputable def mLots : M Fl := mA1.bind fun ts => mA2.bind fun us env => if env.length = 20 ∧ Sh2 ts ∧ Sh2 us then .ok .nx ((env.set 2 none).set 3 none) else .bad
theorem Slots.lose {K : Frg} {G H : Hp} {x : Option V} : ∀ {σ : L2.St} {env : Env} {F : List Addr} (i : Nat), Slots K G H σ env F → ∃ F', Slots K G H (σ.set i x) (env.set i none) F' ∧ (∀ a ∈ F', a ∈ F) ∧ (F.Nodup → F'.Nodup)
  | _, _, _, _, .nil => ⟨[], by simpa using Slots.nil, (fun _ m => m), fun n => n⟩
  | _, _, F, 0, .no r => ⟨F, .no r, (fun _ m => m), fun n => n⟩
  | _, _, _, 0, .so (F := F1) (F' := F2) _ r => ⟨F2, .no r, fun a m => List.mem_append_right _ m, fun n => (List.nodup_append.mp n).2.1⟩
  | _, _, _, i + 1, .no r => by
    obtain ⟨F', s, a, b⟩ := Slots.lose (x := x) i r
    exact ⟨F', .no s, a, b⟩
  | _, _, _, i + 1, .so (F := F1) (F' := F2) o r => by
    obtain ⟨F', s, a, b⟩ := Slots.lose (x := x) i r
    refine ⟨F1 ++ F', .so o s, fun z m => ?_, fun n => ?_⟩
    · rcases List.mem_append.mp m with m | m
      · exact List.mem_append_left _ m
      · exact List.mem_append_right _ (a z m)
    · have n' := List.nodup_append.mp n
      exact List.nodup_append.mpr ⟨n'.1, b n'.2.1, fun z mz w mw => n'.2.2 z mz w (a w mw)⟩
theorem LotAt.fr2 {C : Nat → Addr} {H H' : Hp} {l : Addr} {th : Nat → V} (L : LotAt C H l th) (fr : ∀ a o, H a = some o → (¬ box (some o) ∨ a = l) → H' a = some o) : LotAt C H' l th := by
  obtain ⟨ts, hl, h8, hts⟩ := L.ex
  refine ⟨ts, fr _ _ hl (.inr rfl), h8, fun i t e => ?_⟩
  obtain ⟨x, ht, he⟩ := hts i t e
  refine ⟨x, fr _ _ ht (.inl fun z => z), ?_⟩
  rcases he with ⟨fs, d, h1, h2⟩ | h
  · exact .inl ⟨fs, d, fr _ _ h1 (.inl fun z => z), fr _ _ h2 (.inl fun z => z)⟩
  · exact .inr (fr _ _ h (.inl fun z => z))
/-- a lot stays while neither it nor its things are touched -/
theorem LotS.fr {C : Nat → Addr} {K : Frg} {G G' H H' : Hp} {l : Addr} {v1 v2 : V} {t1 t2 : T} {F1 F2 : List Addr} {k : Nat} (L : LotS C K G H l v1 v2 t1 t2 F1 F2 k) (sm : Same G G') (le : GLe G' H') (ap : ∀ a ∈ F1 ++ F2, G' a = none) (fr : ∀ a o, H a = some o → (¬ box (some o) ∨ a = l ∨ a ∈ F1 ++ F2) → H' a = some o) :
    LotS C K G' H' l v1 v2 t1 t2 F1 F2 k := by
  have st : ∀ {F : List Addr}, (∀ a ∈ F, a ∈ F1 ++ F2) → (∀ a ∈ F, box (H a)) → ∀ a ∈ F, H' a = H a := fun sub bx a m => by
    obtain ⟨u, e⟩ := box_some (bx a m)
    rw [e]
    exact fr a u e (.inr (.inr (sub a m)))
  exact ⟨L.lot.fr2 fun a o e z => fr a o e (z.imp id .inl), L.o1.stay (same_gle sm) (st (fun a m => List.mem_append_left _ m) L.o1.boxes), L.o2.stay (same_gle sm) (st (fun a m => List.mem_append_right _ m) L.o2.boxes), L.nd, ap, le, L.s1, L.s2⟩
/-- the eight checks of a lot -/
theorem rd_checks {C : Nat → Addr} {K : Frg} {G H : Hp} {σ : L2.St} {l : Addr} {v1 v2 : V} {t1 t2 : T} {F1 F2 : List Addr} {Q : VK} (len : σ.length = 20) (hl : σ[3]? = some (some (.ref l))) (L : LotS C K G H l v1 v2 t1 t2 F1 F2 8)
    (q : ∀ D H' t1' t2', H D = none → H' D = some (.lst []) → (∀ a o, H a = some o → a ∉ F1 ++ F2 → H' a = some o) → LotS C K G H' l v1 v2 t1' t2' F1 F2 0 → Q (.ref D) H') :
    tLc (iRng1 (tCons (tC (.int 8)) tNil)) (gName 19) (tNot (tB (tCallG (spRight C K) W0 (tCons (tVar 3) (tCons (tVar 19) tNil))))) (tVar 19) [19] σ H Q := by
  refine ⟨8, rfl, by decide, by decide, fun D hD => ?_⟩
  have dF : D ∉ F1 ++ F2 := fun m => by
    have b : box (H D) := (List.mem_append.mp m).elim (L.o1.boxes D) (L.o2.boxes D)
    rw [hD] at b
    exact b
  refine lc_range (n := 8) (fun i H' => ∃ t1' t2', LotS C K G H' l v1 v2 t1' t2' F1 F2 (8 - i) ∧ H' D = some (.lst []) ∧ ∀ a o, H a = some o → a ∉ F1 ++ F2 → H' a = some o) ?_ (fun i H' hi ⟨a1, a2, L', hd, fr⟩ => ?_) (fun H' ⟨a1, a2, L', hd, fr⟩ => q D H' a1 a2 hD hd fr L')
  · exact ⟨t1, t2, L.same (same_new hD _), upd_same, fun a o e _ => same_new hD _ a o e⟩
  · refine ⟨by simp [wipe], ?_⟩
    refine ⟨.ref l, by simp [wipe, hl], .int (0 + (i : Int)), by simp [wipe, len], ?_⟩
    refine ⟨l, i, v1, v2, G, a1, a2, F1, F2, 7 - i, by simp, hi, by rw [show 7 - i + 1 = 8 - i by omega]; exact L', fun H2 b1 b2 fr2 L2 => ⟨true, rfl, ?_⟩⟩
    refine ⟨b1, b2, by rw [show 8 - (i + 1) = 7 - i by omega]; exact L2, fr2 _ _ hd dF, fun a o e n => fr2 a o (fr a o e n) n⟩
section
variable {P : Program} {w : World} {K : Frg} {mg : Str → Option Value} {base : Heap} {C : Nat → Addr} {B : Addr}
theorem d_lots {f : Addr} {cdv : Value} {A : Around} {outer : List PySem.Env} {s : Shared} {H : Hp} {E : XK} (room : GR 5 (A.deeper (envOfC "law" (defScope s_law) s.heap.objs.size f cdv))) (T : ErrK K mg C B) (dO : Def P w K mg base "_law_odd" 3 1 sem__law_oddO)
    (dE : DefR P w K mg base "_law_errors" 3 (spErrs C)) (dR : DefR P w K mg base "_law_is_error_right" 2 (spRight C K)) :
    D2 (cxOf (L2.CX P w) P w K mg base N_law "law" (defScope s_law) f cdv A outer s H E) (fun cls d _ H => E cls d H) [] ((defBody s_law).getD 1 (.Pass ⟨0, 0, 0, 0⟩)) ((defBody s_law).getD 2 (.Pass ⟨0, 0, 0, 0⟩)) mLots := by
  have nd := sc_law.nd
  have hu4 := hu4_of room
  have tk := tk_of (P := P) (w := w) (K := K) (mg := mg) (base := base) (N := N_law) (qual := "law") (sc := defScope s_law) f cdv A outer s H E
  have pz := ps_of (P := P) (w := w) (K := K) (mg := mg) (base := base) (N := N_law) (qual := "law") (sc := defScope s_law) f cdv A outer s H E
  let X := cxOf (L2.CX P w) P w K mg base N_law "law" (defScope s_law) f cdv A outer s H E
  let WL : WX := fun cls d _ H => E cls d H
  have odd : ∀ {p pos px : Pos}, Eo X WL false (.Call (.Name "_law_odd" p) [.Name "bag" px] [] pos) oddM := fun {p pos px} => o_callB (k := 3) dO (room.mono (by decide)) tk rfl (pv 1) ea_nil (hn := ln_nil)
  have a1 : ∀ {p pos px p2 pos2 px2 p3 : Pos}, ∃ ta, PA X [.Call (.Name "_law_odd" p) [.Name "bag" px] [] pos, .List [.Call (.Name "_law_odd" p2) [.Name "bag" px2] [] pos2] p3] ta ∧ ∀ G H σ env Fp Q, Sta X.K G H σ env Fp → Post X.K X.mg WL (VrTs X.K) false σ G H Fp env Q (mA1 env) → ta σ H Q := by
    intros
    exact (ey_cons odd (ey_cons (o_lst (ea_cons (Eo.freeze odd) ea_nil)) ey_nil) : Ey X WL false _ mA1)
  have a2 : ∀ {p pos px p2 pos2 px2 p3 : Pos}, ∃ ta, PA X [.List [.Call (.Name "_law_odd" p2) [.Name "bag" px2] [] pos2] p3, .Call (.Name "_law_odd" p) [.Name "bag" px] [] pos] ta ∧ ∀ G H σ env Fp Q, Sta X.K G H σ env Fp → Post X.K X.mg WL (VrTs X.K) false σ G H Fp env Q (mA2 env) → ta σ H Q := by
    intros
    exact (ey_cons (o_lst (ea_cons (Eo.freeze odd) ea_nil)) (ey_cons odd ey_nil) : Ey X WL false _ mA2)
  obtain ⟨ta1, p1, k1⟩ := a1
  obtain ⟨ta2, p2, k2⟩ := a2
  refine ⟨_, _, ps_set (i := 2) nd rfl (.inl rfl) (pe_lst (pa_cons (pe_callR dE room (by decide) tk rfl p1) (pa_cons (pe_callR dE room (by decide) tk rfl p2) pa_nil))),
    ps_for pz rfl (pi_list (pv 2)) (pg_name (i := 3) nd rfl (.inr rfl)) (pss_one (ps_if (pt_cmpR (op_neD hu4) (pe_lc (own := [("at", 19)]) rfl nd (pi_range1 rfl T.rng (pa_cons pe_int pa_nil)) (blkOk_by (N := N_law) (sc := defScope s_law) (by decide +kernel)) (fun _ _ _ _ _ => pg_name (i := 19) nd rfl (.inl rfl))
      (fun _ _ _ _ _ => pts_one (pt_not (pt_val (pe_callR (W := W0) dR room (by decide) takes0 rfl (pa_cons (pv 3) (pa_cons (pv 19) pa_nil))) (by intro _; rfl)))) (fun _ _ _ _ _ => pv 19)) (pe_lst pa_nil) (nomark _)) (pss_one (ps_ret pe_bl)) pss_nil)), fun G H σ env Fp Dn S h => ?_⟩
  unfold mLots at h
  refine k1 G H σ env Fp _ S ?_
  cases r1 : mA1 env with
  | bad => rw [M.bind_bad r1] at h; exact h
  | exn x e' =>
    rw [M.bind_exn r1] at h
    exact fun cls dd G' H' Fp' st S' ex => h cls dd σ G' H' Fp' st Fix.refl S' ex
  | ok ts env1 =>
  rw [M.bind_ok r1] at h
  intro vs G1 H1 Fp1 Fr1 st1 S1 nd1 ap1 _ o1
  have two : ts.length = 2 := lnT_cons (lnT_cons lnT_nil) _ _ _ r1
  obtain ⟨t1, t2, rfl⟩ : ∃ t1 t2, ts = [t1, t2] := by
    match ts, two with
    | [t1, t2], _ => exact ⟨t1, t2, rfl⟩
  obtain ⟨v1, v2, F1, F2, rfl, rfl, ow1, ow2⟩ := OwnL.two o1
  refine ⟨v1, v2, rfl, fun l1 H2 sm1 nl1 lot1 => ?_⟩
  have w12 : Grow G1 H1 G1 H2 := ⟨sm1, Same.refl _, gle_same S1.le sm1, fun _ h => .inl h⟩
  have S2 := S1.grow w12
  refine k2 G1 H2 σ env1 Fp1 _ S2 ?_
  cases r2 : mA2 env1 with
  | bad => rw [M.bind_bad r2] at h; exact h.elim
  | exn x e' =>
    rw [M.bind_exn r2] at h
    exact fun cls dd G' H' Fp' st' S' ex => h cls dd σ G' H' Fp' ((st1.trans (w12.step (Fp := (F1 ++ F2) ++ Fp1))).trans (st'.more (F0 := F1 ++ F2))) Fix.refl S' ex
  | ok us env2 =>
  rw [M.bind_ok r2] at h
  by_cases hn : ¬ (env2.length = 20 ∧ Sh2 [t1, t2] ∧ Sh2 us)
  · rw [if_neg hn] at h; exact h.elim
  have hc := Classical.not_not.mp hn
  rw [if_pos hc] at h
  obtain ⟨hlen, ⟨t1', t2', e12, q1, q2⟩, u1, u2, rfl, q3, q4⟩ := hc
  cases e12
  intro ws G3 H3 Fp3 Fr3 st3 S3 nd3 ap3 _ o3
  obtain ⟨w1, w2, F3, F4, rfl, rfl, ow3, ow4⟩ := OwnL.two o3
  refine ⟨w1, w2, rfl, fun l2 H4 sm2 nl2 lot2 => ⟨szs (by simp), fun p hp => ?_⟩⟩
  have smp := same_new hp (HO.lst [V.ref l1, V.ref l2])
  have hpp : upd H4 p (HO.lst [V.ref l1, V.ref l2]) p = some (HO.lst [V.ref l1, V.ref l2]) := upd_same
  have np : ∀ a o, H3 a = some o → a ≠ p := fun a o e z => by rw [z] at e; rw [sm2 _ _ e] at hp; cases hp
  have sm35 : Same H3 (upd H4 p (HO.lst [V.ref l1, V.ref l2])) := sm2.trans smp
  have lot2 := lot2.fr2 (H' := upd H4 p (HO.lst [V.ref l1, V.ref l2])) fun a o e _ => smp a o e
  have l2p : l2 ≠ p := by
    obtain ⟨ts2, z, _⟩ := lot2.ex
    intro y
    subst y
    obtain ⟨ts2, z2, h8, _⟩ := lot2.ex
    rw [hpp] at z2
    have := congrArg List.length (HO.lst.inj (Option.some.inj z2))
    simp [h8] at this
  generalize upd H4 p (HO.lst [V.ref l1, V.ref l2]) = H5 at *
  -- what is known of the two lots
  have bA1 : ∀ a ∈ F1 ++ F2, box (H1 a) := fun a m => (List.mem_append.mp m).elim (ow1.boxes a) (ow2.boxes a)
  have bA2 : ∀ a ∈ F1 ++ F2, box (H2 a) := fun a m => by rw [same_box sm1 (bA1 a m)]; exact bA1 a m
  have ndA := List.nodup_append.mp nd1
  have PA := pend st3 bA2 ap1 fun a m z => ndA.2.2 a m a z rfl
  have bA3 : ∀ a ∈ F1 ++ F2, box (H3 a) := fun a m => by rw [(PA a m).1]; exact bA2 a m
  have bB3 : ∀ a ∈ F3 ++ F4, box (H3 a) := fun a m => (List.mem_append.mp m).elim (ow3.boxes a) (ow4.boxes a)
  have ndB := List.nodup_append.mp nd3
  have AB : ∀ a, a ∈ F1 ++ F2 → a ∉ F3 ++ F4 := fun a m z => (PA a m).2.2 (List.mem_append_left _ z)
  have l1p : l1 ∉ Fp1 := fun m => by have b := S1.sl.boxes l1 m; rw [nl1] at b; exact b
  have l1A : l1 ∉ F1 ++ F2 := fun m => by have b := bA1 l1 m; rw [nl1] at b; exact b
  have l2A : l2 ∉ F1 ++ F2 := fun m => by have b := bA3 l2 m; rw [nl2] at b; exact b
  have l2B : l2 ∉ F3 ++ F4 := fun m => by have b := bB3 l2 m; rw [nl2] at b; exact b
  have l1B : l1 ∉ F3 ++ F4 := fun m => by
    obtain ⟨ts1, z, _⟩ := lot1.ex
    rcases st3.frF l1 (List.mem_append_left _ m) with y | y
    · rw [z] at y; cases y
    · exact l1p y
  have p3 : H3 p = none := by
    cases z : H3 p with
    | none => rfl
    | some o => exact absurd rfl (np p o z)
  have pA : p ∉ F1 ++ F2 := fun m => by have b := bA3 p m; rw [p3] at b; exact b
  have pB : p ∉ F3 ++ F4 := fun m => by have b := bB3 p m; rw [p3] at b; exact b
  have le5 : GLe G3 H5 := gle_same S3.le sm35
  have up1 : ∀ {F : List Addr}, (∀ a ∈ F, a ∈ F1 ++ F2) → ∀ a ∈ F, H5 a = H1 a := fun sub a m => by
    obtain ⟨u, e⟩ := box_some (bA1 a (sub a m))
    rw [e]
    exact sm35 _ _ (by rw [(PA a (sub a m)).1]; exact sm1 _ _ e)
  have L1 : LotS C K G3 H5 l1 v1 v2 t1 t2 F1 F2 8 := by
    refine ⟨lot1.fr2 fun a o e z => sm35 a o (st3.keep a o e fun m => ?_), ow1.stay (same_gle st3.sub) (up1 fun a m => List.mem_append_left _ m), ow2.stay (same_gle st3.sub) (up1 fun a m => List.mem_append_right _ m), List.nodup_cons.mpr ⟨l1A, ndA.1⟩, fun a m => (PA a m).2.1, le5, q1, q2⟩
    rcases z with z | z
    · have b := S2.sl.boxes a m
      rw [e] at b
      exact z b
    · exact l1p (z ▸ m)
  have L2 : LotS C K G3 H5 l2 w1 w2 u1 u2 F3 F4 8 := ⟨lot2, ow3.stay (GLe.refl _) fun a m => same_box sm35 (bB3 a (List.mem_append_left _ m)), ow4.stay (GLe.refl _) fun a m => same_box sm35 (bB3 a (List.mem_append_right _ m)), List.nodup_cons.mpr ⟨l2B, ndB.1⟩, ap3, le5, q3, q4⟩
  have w35 : Grow G3 H3 G3 H5 := ⟨sm35, Same.refl _, le5, fun _ h => .inl h⟩
  have S5 := S3.grow w35
  have lenσ : σ.length = 20 := S3.sl.len.trans hlen
  have s05 : Step G H Fp G3 H5 ((F1 ++ F2) ++ ((F3 ++ F4) ++ Fp3)) := ((st1.trans (w12.step (Fp := (F1 ++ F2) ++ Fp1))).trans (st3.hold (F0 := F1 ++ F2))).trans w35.step
  -- the walk over the two lots
  refine ⟨.ref p, by simp [lenσ], p, rfl, ⟨_, .inl (.inl hpp)⟩, ?_⟩
  refine for_list (xs := [V.ref l1, V.ref l2]) (fun j σ' H' => (σ' = σ.set 2 (some (.ref p)) ∨ ∃ y, σ' = (σ.set 2 (some (.ref p))).set 3 y) ∧ (∀ a o, H5 a = some o → a ∉ F1 ++ F2 → a ∉ F3 ++ F4 → H' a = some o) ∧
    (∃ a1 a2 k, LotS C K G3 H' l1 v1 v2 a1 a2 F1 F2 k ∧ (j = 0 → k = 8)) ∧ ∃ b1 b2 k, LotS C K G3 H' l2 w1 w2 b1 b2 F3 F4 k ∧ (j ≤ 1 → k = 8)) ⟨.inl rfl, fun a o e _ _ => e, ⟨t1, t2, 8, L1, fun _ => rfl⟩, u1, u2, 8, L2, fun _ => rfl⟩ (fun j σ' H' _ ⟨_, fr, _⟩ => .inl (.inl (fr p _ hpp pA pB))) ?_ ?_
  · rintro j x σ' H' hx ⟨hσ, fr, ⟨a1, a2, k, M1, hk1⟩, b1, b2, k', M2, hk2⟩
    have len' : σ'.length = 20 := by
      rcases hσ with e | ⟨y, e⟩ <;> rw [e] <;> simp [lenσ]
    have hσ' : ∀ x', σ'.set 3 (some x') = σ.set 2 (some (.ref p)) ∨ ∃ y, σ'.set 3 (some x') = (σ.set 2 (some (.ref p))).set 3 y := fun x' => by
      rcases hσ with e | ⟨y, e⟩
      · exact .inr ⟨some x', by rw [e]⟩
      · exact .inr ⟨some x', by rw [e, List.set_set]⟩
    have emp : ∀ {D b : Addr} {H' : Hp}, H' D = some (.lst []) → H' b = none → Dp K (upd H' b (.lst [])) (.ref D) (.list []) ∧ Dp K (upd H' b (.lst [])) (.ref b) (.list []) := fun {D b H'} hD hb => ⟨.lst (.inl (.inl (by rw [upd_ne (ne_of_none hD hb)]; exact hD))) .nil, .lst (.inl (.inl upd_same)) .nil⟩
    have sh0 : SeqAt.shaped (.list []) = true := by decide +kernel
    have ev0 : PyData.eqv (.list []) (.list []) = true := PySem.SeqAt.eqv_refl _ (shp_lay sh0)
    match j, hx with
    | 0, hx =>
      cases hx
      have := hk1 rfl
      subst this
      simp only [gName, tIfS, tTest, tOp]
      refine rd_checks (by simp [len']) (by simp [len']) M1 fun D H6 c1 c2 nD hD fr6 M1' => ⟨szs (by simp), fun b hb => ?_⟩
      obtain ⟨d1, d2⟩ := emp hD hb
      refine ⟨_, _, d1, d2, sh0, sh0, _, rfl, ?_⟩
      rw [ev0]
      refine iteF ?_
      have smb := same_new hb (HO.lst [])
      have bM1 : ∀ a ∈ F1 ++ F2, box (H' a) := fun a m => (List.mem_append.mp m).elim (M1.o1.boxes a) (M1.o2.boxes a)
      refine ⟨hσ' _, fun a o e n1 n2 => smb _ _ (fr6 a o (fr a o e n1 n2) n1), ⟨c1, c2, 0, M1'.same smb, fun z => nomatch z⟩, b1, b2, k', M2.fr (Same.refl _) (gle_same M1'.le smb) M2.ap fun a o e z => smb _ _ (fr6 a o e fun m => ?_), fun _ => hk2 (by decide)⟩
      rcases z with z | z | z
      · have bb := bM1 a m
        rw [e] at bb
        exact z bb
      · exact l2A (z ▸ m)
      · exact AB a m z
    | 1, hx =>
      cases hx
      have := hk2 (by decide)
      subst this
      simp only [gName, tIfS, tTest, tOp]
      refine rd_checks (by simp [len']) (by simp [len']) M2 fun D H6 c1 c2 nD hD fr6 M2' => ⟨szs (by simp), fun b hb => ?_⟩
      obtain ⟨d1, d2⟩ := emp hD hb
      refine ⟨_, _, d1, d2, sh0, sh0, _, rfl, ?_⟩
      rw [ev0]
      refine iteF ?_
      have smb := same_new hb (HO.lst [])
      have bM2 : ∀ a ∈ F3 ++ F4, box (H' a) := fun a m => (List.mem_append.mp m).elim (M2.o1.boxes a) (M2.o2.boxes a)
      refine ⟨hσ' _, fun a o e n1 n2 => smb _ _ (fr6 a o (fr a o e n1 n2) n2), ⟨a1, a2, k, M1.fr (Same.refl _) (gle_same M2'.le smb) M1.ap fun a o e z => smb _ _ (fr6 a o e fun m => ?_), fun z => nomatch z⟩, c1, c2, 0, M2'.same smb, fun z => absurd z (by decide)⟩
      rcases z with z | z | z
      · have bb := bM2 a m
        rw [e] at bb
        exact z bb
      · exact l1B (z ▸ m)
      · exact AB a z m
    | n + 2, hx => simp at hx
  · rintro σ' H' ⟨hσ, fr, ⟨a1, a2, k, M1, _⟩, _⟩
    have st : ∀ a ∈ Fp3, H' a = H5 a := fun a m => by
      obtain ⟨u, e⟩ := box_some (S5.sl.boxes a m)
      rw [e]
      exact fr a u e (fun z => (PA a z).2.2 (List.mem_append_right _ m)) fun z => ndB.2.2 a z a m rfl
    have sl := S5.sl.stay (GLe.refl _) st
    have fin : ∃ F', Slots K G3 H' σ' ((env2.set 2 none).set 3 none) F' ∧ (∀ a ∈ F', a ∈ Fp3) ∧ F'.Nodup ∧ σ'.length = σ.length := by
      obtain ⟨F', s1, k1, n1⟩ := Slots.lose (x := some (V.ref p)) 2 sl
      rcases hσ with rfl | ⟨y, rfl⟩
      · obtain ⟨F'', s2, k2, n2⟩ := s1.forget 3
        exact ⟨F'', s2, fun a m => k1 a (k2 a m), n2 (n1 S5.nd), by simp⟩
      · obtain ⟨F'', s2, k2, n2⟩ := Slots.lose (x := y) 3 s1
        exact ⟨F'', s2, fun a m => k1 a (k2 a m), n2 (n1 S5.nd), by simp⟩
    obtain ⟨F', s', kF, nF, lenF⟩ := fin
    refine h σ' G3 H' F' (s05.trans ⟨fun a o e n => fr a o e (fun z => n (List.mem_append_left _ z)) fun z => n (List.mem_append_right _ (List.mem_append_left _ z)), Same.refl _, fun _ z => .inl z, fun a m => .inr (List.mem_append_right _ (List.mem_append_right _ (kF a m)))⟩) ⟨lenF, fun _ m => nomatch m⟩ ⟨M1.le, s', nF, fun a m => S5.ap a (kF a m)⟩
end

noncomputable def m_law : M Fl := mSeq (mSet 1 (mCall sem__law_bag (mCons (mVarF 0) (mNil))))
  (mSeq (mLots)
  (mSeq (mSet 4 ((m2 dAdd (m2 dPow (mC (.int 10)) (mC (.int 11))) (((mHas 1).bind fun _ => mCallB sem__law_take 1 (mCons (mC (.int 999)) (mNil))).map T.er)).map T.fz))
  (mSeq (mPar 5 6 (mConsT ((mL dTup (mCons (m2 dAdd (mVarF 4) (mC (.int 1))) (mCons (mVarF 4) (mNil)))).map T.fz) (mConsT ((mL dTup (mCons (mVarF 4) (mCons (m2 dSub (mVarF 4) (mC (.int 1))) (mNil)))).map T.fz) (mNilT))))
  (mSeq (mIfS (tNotM (((mCall sem__law_alike (mCons ((mL dLst (mCons ((mCall sem_compared (mCons (mVarF 5) (mCons (mVarF 6) (mNil)))).map T.er) (mCons ((mCall sem_compared (mCons (mVarF 6) (mCons (mVarF 5) (mNil)))).map T.er) (mCons ((mCall sem_compared (mCons (mVarF 5) (mCons (mVarF 5) (mNil)))).map T.er) (mNil))))).map T.er) (mCons ((mL dLst (mCons (m1 dNeg (mC (.int 1))) (mCons (mC (.int 1)) (mCons (mC (.int 0)) (mNil))))).map T.er) (mNil)))).map T.er).bind tru)) (mRt ((mC (.bool false)).map T.fz)) (mNx))
  (mSeq ((mIL dRng1 (mCons (mC (.int 8)) (mNil))).bind fun ds => mFor (gN 7) (mSeq (mPar 8 9 (mConsT ((((mHas 1).bind fun _ => mCallB sem__law_fraction 1 (mNil)).map T.er).map T.fz) (mConsT ((((mHas 1).bind fun _ => mCallB sem__law_fraction 1 (mNil)).map T.er).map T.fz) (mNilT))))
  (mSeq (mAsg ((mVarF 8).map T.fz) (gT 2 (gCons' (gN 10) (gCons' (gN 11) (gNil')))))
  (mSeq (mAsg ((mVarF 9).map T.fz) (gT 2 (gCons' (gN 12) (gCons' (gN 13) (gNil')))))
  (mSeq (mSet 14 ((((mHas 1).bind fun _ => mCallB sem__law_some 1 (mCons ((mL dLst (mCons (mC (.int 1)) (mCons (m1 dNeg (mC (.int 1))) (mCons (mC (.int 6)) (mCons (m1 dNeg (mC (.int 35))) (mNil)))))).map T.er) (mNil))).map T.er).map T.fz))
  (mSeq (mSet 15 (((mL dLst (mCons (mVarF 8) (mCons ((mCall sem__law_reduced (mCons (m2 dAdd (m2 dMul (mVarF 10) (mVarF 13)) (m2 dMul (mVarF 11) (mVarF 12))) (mCons (m2 dMul (mVarF 11) (mVarF 13)) (mNil)))).map T.er) (mCons ((mCall sem__law_reduced (mCons (m2 dSub (m2 dMul (mVarF 10) (mVarF 13)) (m2 dMul (mVarF 11) (mVarF 12))) (mCons (m2 dMul (mVarF 11) (mVarF 13)) (mNil)))).map T.er) (mCons ((mCall sem__law_reduced (mCons (m2 dMul (mVarF 10) (mVarF 12)) (mCons (m2 dMul (mVarF 11) (mVarF 13)) (mNil)))).map T.er) (mNil)))))).map T.er).map T.fz))
  (mSeq (mSet 16 (((mL dLst (mCons ((mCall sem_reduced (mCons (m2 dMul (mVarF 10) (mVarF 14)) (mCons (m2 dMul (mVarF 11) (mVarF 14)) (mNil)))).map T.er) (mCons ((mCall sem_added (mCons (mVarF 8) (mCons (mVarF 9) (mNil)))).map T.er) (mCons ((mCall sem_lessened (mCons (mVarF 8) (mCons (mVarF 9) (mNil)))).map T.er) (mCons ((mCall sem_times (mCons (mVarF 8) (mCons (mVarF 9) (mNil)))).map T.er) (mNil)))))).map T.er).map T.fz))
  (mSeq (mIfS (tNotM (((mCall sem__law_alike (mCons (mVarF 16) (mCons (mVarF 15) (mNil)))).map T.er).bind tru)) (mRt ((mC (.bool false)).map T.fz)) (mNx))
  (mSeq (mSet 17 ((m2 dSub (mL dInt (mCons (m2 dGt (m2 dMul (mVarF 10) (mVarF 13)) (m2 dMul (mVarF 11) (mVarF 12))) (mNil))) (mL dInt (mCons (m2 dLt (m2 dMul (mVarF 10) (mVarF 13)) (m2 dMul (mVarF 11) (mVarF 12))) (mNil)))).map T.fz))
  (mSeq (mSet 18 ((m2 dAdd (mL dStr (mCons (mVarF 10) (mNil))) (mIf ((m2 dNe (mVarF 11) (mC (.int 1))).bind tru) (m2 dAdd (mC (.str "/")) (mL dStr (mCons (mVarF 11) (mNil)))) (mC (.str "")))).map T.fz))
  (mIfS (tNotM (((mCall sem__law_alike (mCons ((mL dLst (mCons ((mCall sem_compared (mCons (mVarF 8) (mCons (mVarF 9) (mNil)))).map T.er) (mCons ((mCall sem_fraction_text (mCons (mVarF 8) (mNil))).map T.er) (mNil)))).map T.er) (mCons ((mL dLst (mCons (mVarF 17) (mCons (mVarF 18) (mNil)))).map T.er) (mNil)))).map T.er).bind tru)) (mRt ((mC (.bool false)).map T.fz)) (mNx))))))))))) ds)
  (mRt ((mC (.bool true)).map T.fz)))))))
noncomputable def sem_law : Sem := semOf [] 19 m_law
structure U_law (P : Program) (w : World) (K : Frg) (mg : Str → Option Value) (base : Heap) (C : Nat → Addr) (B : Addr) : Prop where
  n_range : mg "range" = none
  n_int : mg "int" = none
  n_str : mg "str" = none
  d__law_bag : Def P w K mg base "_law_bag" 1 1 sem__law_bag
  d__law_take : Def P w K mg base "_law_take" 1 2 sem__law_take
  d__law_alike : Def P w K mg base "_law_alike" 1 2 sem__law_alike
  d_compared : Def P w K mg base "compared" 1 2 sem_compared
  d__law_fraction : Def P w K mg base "_law_fraction" 4 1 sem__law_fraction
  d__law_some : Def P w K mg base "_law_some" 2 2 sem__law_some
  d__law_reduced : Def P w K mg base "_law_reduced" 2 2 sem__law_reduced
  d_reduced : Def P w K mg base "reduced" 1 2 sem_reduced
  d_added : Def P w K mg base "added" 2 2 sem_added
  d_lessened : Def P w K mg base "lessened" 2 2 sem_lessened
  d_times : Def P w K mg base "times" 2 2 sem_times
  d_fraction_text : Def P w K mg base "fraction_text" 1 1 sem_fraction_text
  er : ErrK K mg C B
  odd : Def P w K mg base "_law_odd" 3 1 sem__law_oddO
  errs : DefR P w K mg base "_law_errors" 3 (spErrs C)
  right : DefR P w K mg base "_law_is_error_right" 2 (spRight C K)
theorem ok_law {P : Program} {w : World} {K : Frg} {mg : Str → Option Value} {base : Heap} {C : Nat → Addr} {B : Addr} {f : Addr} {fd : FuncData} (F : Fun K "law" "law" s_law f fd) (T : U_law P w K mg base C B) : FnG P w K mg base 6 f fd ["script"] (spD K mg 1 sem_law) :=
  def_of F sc_law fun cdv A outer s H E room => by
    have nd := sc_law.nd
    have hu7 := hu7_of room; have hu4 := hu4_of room; have hu5 := hu5_of room; have tk := tk_of (P := P) (w := w) (K := K) (mg := mg) (base := base) (N := N_law) (qual := "law") (sc := defScope s_law) f cdv A outer s H E
    have pz := ps_of (P := P) (w := w) (K := K) (mg := mg) (base := base) (N := N_law) (qual := "law") (sc := defScope s_law) f cdv A outer s H E
    exact (ss_cons (s_set nd rfl (.inl rfl) (o_call T.d__law_bag (room.mono (by decide)) tk rfl (ea_cons (ef_name (pv 0)) (ea_nil)) (hn := ln_cons (ln_nil))))
    (ss_two (d_lots room T.er T.odd T.errs T.right)
    (ss_cons (s_set nd rfl (.inl rfl) (Ex.own (x_add (x_pow (ex_int) (ex_int)) (Eo.freeze (o_callB T.d__law_take (room.mono (by decide)) tk rfl (pv 1) (ea_cons (ex_int) (ea_nil)) (hn := ln_cons (ln_nil)))))))
    (ss_cons (s_par rfl nd rfl rfl (by decide) rfl rfl (ey_cons (Ex.own (x_tup (ea_cons (x_add (ef_name (pv 4)) (ex_int)) (ea_cons (ef_name (pv 4)) (ea_nil))))) (ey_cons (Ex.own (x_tup (ea_cons (ef_name (pv 4)) (ea_cons (x_sub (ef_name (pv 4)) (ex_int)) (ea_nil))))) (ey_nil))) rfl)
    (ss_cons (s_if (t_not (et_val (Eo.freeze (o_call T.d__law_alike (room.mono (by decide)) tk rfl (ea_cons (Eo.freeze (o_lst (ea_cons (Eo.freeze (o_call T.d_compared (room.mono (by decide)) tk rfl (ea_cons (ef_name (pv 5)) (ea_cons (ef_name (pv 6)) (ea_nil))) (hn := ln_cons (ln_cons (ln_nil))))) (ea_cons (Eo.freeze (o_call T.d_compared (room.mono (by decide)) tk rfl (ea_cons (ef_name (pv 6)) (ea_cons (ef_name (pv 5)) (ea_nil))) (hn := ln_cons (ln_cons (ln_nil))))) (ea_cons (Eo.freeze (o_call T.d_compared (room.mono (by decide)) tk rfl (ea_cons (ef_name (pv 5)) (ea_cons (ef_name (pv 5)) (ea_nil))) (hn := ln_cons (ln_cons (ln_nil))))) (ea_nil)))))) (ea_cons (Eo.freeze (o_lst (ea_cons (x_neg (ex_int)) (ea_cons (ex_int) (ea_cons (ex_int) (ea_nil)))))) (ea_nil))) (hn := ln_cons (ln_cons (ln_nil))))))) (ss_one (s_ret (Ex.own (ex_bl)))) (ss_nil))
    (ss_cons (s_for pz rfl (i_rng1 rfl T.n_range (ea_cons (ex_int) (ea_nil))) (g_name nd rfl (.inl rfl)) (ss_cons (s_par rfl nd rfl rfl (by decide) rfl rfl (ey_cons (Ex.own (Eo.freeze (o_callB T.d__law_fraction (room.mono (by decide)) tk rfl (pv 1) (ea_nil) (hn := ln_nil)))) (ey_cons (Ex.own (Eo.freeze (o_callB T.d__law_fraction (room.mono (by decide)) tk rfl (pv 1) (ea_nil) (hn := ln_nil)))) (ey_nil))) rfl)
    (ss_cons (s_asg (Ex.own (ef_name (pv 8))) (g_tup rfl (gs_cons (g_name nd rfl (.inl rfl)) (gs_cons (g_name nd rfl (.inl rfl)) (gs_nil)))))
    (ss_cons (s_asg (Ex.own (ef_name (pv 9))) (g_tup rfl (gs_cons (g_name nd rfl (.inl rfl)) (gs_cons (g_name nd rfl (.inl rfl)) (gs_nil)))))
    (ss_cons (s_set nd rfl (.inl rfl) (Ex.own (Eo.freeze (o_callB T.d__law_some (room.mono (by decide)) tk rfl (pv 1) (ea_cons (Eo.freeze (o_lst (ea_cons (ex_int) (ea_cons (x_neg (ex_int)) (ea_cons (ex_int) (ea_cons (x_neg (ex_int)) (ea_nil))))))) (ea_nil)) (hn := ln_cons (ln_nil))))))
    (ss_cons (s_set nd rfl (.inl rfl) (Ex.own (Eo.freeze (o_lst (ea_cons (ef_name (pv 8)) (ea_cons (Eo.freeze (o_call T.d__law_reduced (room.mono (by decide)) tk rfl (ea_cons (x_add (x_mul (ef_name (pv 10)) (ef_name (pv 13))) (x_mul (ef_name (pv 11)) (ef_name (pv 12)))) (ea_cons (x_mul (ef_name (pv 11)) (ef_name (pv 13))) (ea_nil))) (hn := ln_cons (ln_cons (ln_nil))))) (ea_cons (Eo.freeze (o_call T.d__law_reduced (room.mono (by decide)) tk rfl (ea_cons (x_sub (x_mul (ef_name (pv 10)) (ef_name (pv 13))) (x_mul (ef_name (pv 11)) (ef_name (pv 12)))) (ea_cons (x_mul (ef_name (pv 11)) (ef_name (pv 13))) (ea_nil))) (hn := ln_cons (ln_cons (ln_nil))))) (ea_cons (Eo.freeze (o_call T.d__law_reduced (room.mono (by decide)) tk rfl (ea_cons (x_mul (ef_name (pv 10)) (ef_name (pv 12))) (ea_cons (x_mul (ef_name (pv 11)) (ef_name (pv 13))) (ea_nil))) (hn := ln_cons (ln_cons (ln_nil))))) (ea_nil)))))))))
    (ss_cons (s_set nd rfl (.inl rfl) (Ex.own (Eo.freeze (o_lst (ea_cons (Eo.freeze (o_call T.d_reduced (room.mono (by decide)) tk rfl (ea_cons (x_mul (ef_name (pv 10)) (ef_name (pv 14))) (ea_cons (x_mul (ef_name (pv 11)) (ef_name (pv 14))) (ea_nil))) (hn := ln_cons (ln_cons (ln_nil))))) (ea_cons (Eo.freeze (o_call T.d_added (room.mono (by decide)) tk rfl (ea_cons (ef_name (pv 8)) (ea_cons (ef_name (pv 9)) (ea_nil))) (hn := ln_cons (ln_cons (ln_nil))))) (ea_cons (Eo.freeze (o_call T.d_lessened (room.mono (by decide)) tk rfl (ea_cons (ef_name (pv 8)) (ea_cons (ef_name (pv 9)) (ea_nil))) (hn := ln_cons (ln_cons (ln_nil))))) (ea_cons (Eo.freeze (o_call T.d_times (room.mono (by decide)) tk rfl (ea_cons (ef_name (pv 8)) (ea_cons (ef_name (pv 9)) (ea_nil))) (hn := ln_cons (ln_cons (ln_nil))))) (ea_nil)))))))))
    (ss_cons (s_if (t_not (et_val (Eo.freeze (o_call T.d__law_alike (room.mono (by decide)) tk rfl (ea_cons (ef_name (pv 16)) (ea_cons (ef_name (pv 15)) (ea_nil))) (hn := ln_cons (ln_cons (ln_nil))))))) (ss_one (s_ret (Ex.own (ex_bl)))) (ss_nil))
    (ss_cons (s_set nd rfl (.inl rfl) (Ex.own (x_sub (b_int rfl T.n_int (ea_cons (x_gt (x_mul (ef_name (pv 10)) (ef_name (pv 13))) (x_mul (ef_name (pv 11)) (ef_name (pv 12)))) (ea_nil))) (b_int rfl T.n_int (ea_cons (x_lt (x_mul (ef_name (pv 10)) (ef_name (pv 13))) (x_mul (ef_name (pv 11)) (ef_name (pv 12)))) (ea_nil))))))
    (ss_cons (s_set nd rfl (.inl rfl) (Ex.own (x_add (b_str rfl T.n_str (ea_cons (ef_name (pv 10)) (ea_nil))) (x_if (t_ne hu4 (ef_name (pv 11)) (ex_int)) (x_add (ex_str) (b_str rfl T.n_str (ea_cons (ef_name (pv 11)) (ea_nil)))) (ex_str)))))
    (ss_one (s_if (t_not (et_val (Eo.freeze (o_call T.d__law_alike (room.mono (by decide)) tk rfl (ea_cons (Eo.freeze (o_lst (ea_cons (Eo.freeze (o_call T.d_compared (room.mono (by decide)) tk rfl (ea_cons (ef_name (pv 8)) (ea_cons (ef_name (pv 9)) (ea_nil))) (hn := ln_cons (ln_cons (ln_nil))))) (ea_cons (Eo.freeze (o_call T.d_fraction_text (room.mono (by decide)) tk rfl (ea_cons (ef_name (pv 8)) (ea_nil)) (hn := ln_cons (ln_nil)))) (ea_nil))))) (ea_cons (Eo.freeze (o_lst (ea_cons (ef_name (pv 17)) (ea_cons (ef_name (pv 18)) (ea_nil))))) (ea_nil))) (hn := ln_cons (ln_cons (ln_nil))))))) (ss_one (s_ret (Ex.own (ex_bl)))) (ss_nil)))))))))))))
    (ss_one (s_ret (Ex.own (ex_bl))))))))))

/-! ### what the law's functions give -/
section
variable {env e1 : Env}
theorem sem_rt {fx : List Nat} {k : Nat} {m : M Fl} {env e : Env} {t : T} (h : m (env ++ List.replicate k none) = .ok (.rt t) e) : ∃ e', semOf fx k m env = .ok t e' := ⟨_, by unfold semOf; rw [h]⟩
theorem call_ok {sem : Sem} {ms : M (List D)} {ds : List D} {r : T} {e : Env} (h : ms env = .ok ds e1) (hs : sem (ds.map fun d => some (.fz d)) = .ok r e) : mCall sem ms env = .ok r e1 := by
  unfold mCall
  rw [M.bind_ok h, hs]
theorem cons_ok {m : M D} {ms : M (List D)} {d : D} {ds : List D} {e2 : Env} (h : m env = .ok d e1) (h' : ms e1 = .ok ds e2) : mCons m ms env = .ok (d :: ds) e2 := by
  unfold mCons
  rw [M.bind_ok h, M.bind_ok h']
  rfl
theorem consT_ok {m : M T} {ms : M (List T)} {d : T} {ds : List T} {e2 : Env} (h : m env = .ok d e1) (h' : ms e1 = .ok ds e2) : mConsT m ms env = .ok (d :: ds) e2 := by
  unfold mConsT
  rw [M.bind_ok h, M.bind_ok h']
  rfl
theorem mL_ok {α : Type} {g : List D → Option α} {ms : M (List D)} {ds : List D} {r : α} (h : ms env = .ok ds e1) (hg : g ds = some r) : mL g ms env = .ok r e1 := by
  unfold mL
  rw [M.bind_ok h]
  unfold M.lift
  rw [hg]
theorem two_ok {ma mb : M D} {a b : D} {e2 : Env} (h1 : ma env = .ok a e1) (h2 : mb e1 = .ok b e2) : mCons ma (mCons mb mNil) env = .ok [a, b] e2 := cons_ok h1 (cons_ok h2 rfl)
theorem tup2_ok {ma mb : M D} {a b : D} {e2 : Env} (h1 : ma env = .ok a e1) (h2 : mb e1 = .ok b e2) : mL dTup (mCons ma (mCons mb mNil)) env = .ok (.tuple [a, b]) e2 := mL_ok (two_ok h1 h2) (dTup_le (by simp))
theorem par_ok {ma mb : M T} {i j : Nat} {t u : T} {e2 : Env} (h1 : ma env = .ok t e1) (h2 : mb e1 = .ok u e2) : mPar i j (mConsT ma (mConsT mb mNilT)) env = .ok .nx ((e2.set i (some t)).set j (some u)) := by
  unfold mPar
  have h : mConsT ma (mConsT mb mNilT) env = .ok [t, u] e2 := consT_ok h1 (consT_ok h2 rfl)
  rw [M.bind_ok h]
theorem abs_ok {m : M D} {i : Int} (h : m env = .ok (.int i) e1) : mL dAbs (mCons m mNil) env = .ok (.int (i.natAbs : Int)) e1 := by
  refine mL1_ok h ?_
  unfold dAbs
  dsimp only
  congr 2
  split <;> omega
theorem dNe_ints (a b : Int) : dNe (.int a) (.int b) = some (.bool (decide (a ≠ b))) := by
  have h : ∀ z : Int, shp (.int z) = true := fun z => by simp [shp, SeqAt.shaped, PyData.canLay0, PyData.depth]
  have e : PyData.eqv (.int a) (.int b) = decide (a = b) := by
    simp only [PyData.eqv]
    exact Bool.eq_iff_iff.mpr (by simp)
  unfold dNe
  rw [if_pos ⟨h a, h b⟩, e]
  simp
theorem ne_ok {ma mb : M D} {i j : Int} {e2 : Env} (h1 : ma env = .ok (.int i) e1) (h2 : mb e1 = .ok (.int j) e2) : m2 dNe ma mb env = .ok (.bool (decide (i ≠ j))) e2 := m2_ok h1 h2 (dNe_ints i j)
theorem mIf_t {α : Type} {t : M Bool} {x y : M α} (h : t env = .ok true e1) : mIf t x y env = x e1 := by unfold mIf; rw [M.bind_ok h]; rfl
theorem mIf_f {α : Type} {t : M Bool} {x y : M α} (h : t env = .ok false e1) : mIf t x y env = y e1 := by unfold mIf; rw [M.bind_ok h]; rfl
end
def e2I (a b : Int) : Env := [some (.fz (.int a)), some (.fz (.int b))]
theorem loop_ok : ∀ (b a : Nat), mWh ((m2 dNe (mVarF 1) (mC (.int 0))).bind tru) (mPar 0 1 (mConsT ((mVarF 1).map T.fz) (mConsT ((m2 dMod (mL dInt (mCons (mVarF 0) (mNil))) (mVarF 1)).map T.fz) (mNilT)))) (e2I a b) = .ok .nx (e2I (Nat.gcd a b : Nat) 0) := by
  intro b
  induction b using Nat.strongRecOn with
  | _ b ih =>
    intro a
    rw [mWh_eq, tru_ok (ne_ok (f_ok rfl) c_ok)]
    by_cases z : b = 0
    · subst z
      simp
    · rw [decide_eq_true (by omega)]
      dsimp only
      rw [par_ok (map_ok (f_ok (env := e2I a b) (i := 1) rfl)) (map_ok (mod_ok (int_ok (f_ok (env := e2I a b) (i := 0) rfl)) (f_ok (env := e2I a b) (i := 1) rfl) (by omega)))]
      dsimp only
      have e : (List.set (List.set (e2I a b) 0 (some (.fz (.int (b : Int))))) 1 (some (.fz (.int ((a : Int) % (b : Int))))) : Env) = e2I b (a % b : Nat) := by
        simp [e2I]
      rw [e, ih (a % b) (Nat.mod_lt _ (by omega)) b, Nat.gcd_comm a b, Nat.gcd_rec b a, Nat.gcd_comm (a % b) b]
theorem common_ok (a b : Int) : ∃ e, sem__law_common_of [some (.fz (.int a)), some (.fz (.int b))] = .ok (.fz (.int (Nat.gcd a.natAbs b.natAbs : Nat))) e := by
  have h : m__law_common_of (e2I a b) = .ok (.rt (.fz (.int (Nat.gcd a.natAbs b.natAbs : Nat)))) (e2I (Nat.gcd a.natAbs b.natAbs : Nat) 0) := by
    unfold m__law_common_of
    rw [seq_ok (par_ok (map_ok (abs_ok (f_ok (env := e2I a b) (i := 0) rfl))) (map_ok (abs_ok (f_ok (env := e2I a b) (i := 1) rfl))))]
    show mSeq _ _ (e2I a.natAbs b.natAbs) = _
    rw [seq_ok (e1 := e2I (Nat.gcd a.natAbs b.natAbs : Nat) 0) (loop_ok b.natAbs a.natAbs)]
    exact rt_ok (map_ok (f_ok rfl))
  exact sem_rt (fx := []) (k := 0) (m := m__law_common_of) (env := e2I a b) h
theorem lg {n k m : Nat} (h : n < 2 ^ k) (hk : k ≤ m) (h0 : 0 < m) : n.log2 < m := by
  by_cases z : n = 0
  · subst z; simpa using h0
  · exact Nat.lt_of_lt_of_le ((Nat.log2_lt z).mpr h) hk
/-- a number pair and its common part -/
structure Rd (n d : Int) (g : Nat) (a b : Int) : Prop where
  hg : Nat.gcd n.natAbs d.natAbs = g
  g0 : 0 < g
  hn : n = g * a
  hd : d = g * b
  co : Nat.gcd a.natAbs b.natAbs = 1
theorem dvd_of {g : Nat} {n : Int} (h : g ∣ n.natAbs) : (g : Int) ∣ n := by
  obtain ⟨k, e⟩ := h
  rcases Int.natAbs_eq n with z | z
  · exact ⟨k, by rw [z, e]; simp⟩
  · exact ⟨-k, by rw [z, e]; simp [Int.mul_neg]⟩
theorem rd_is (n d : Int) (h : d ≠ 0) : ∃ g a b, Rd n d g a b := by
  have g0 : 0 < Nat.gcd n.natAbs d.natAbs := Nat.gcd_pos_of_pos_right _ (by omega)
  obtain ⟨a, ha⟩ : ((Nat.gcd n.natAbs d.natAbs : Nat) : Int) ∣ n := dvd_of (Nat.gcd_dvd_left _ _)
  obtain ⟨b, hb⟩ : ((Nat.gcd n.natAbs d.natAbs : Nat) : Int) ∣ d := dvd_of (Nat.gcd_dvd_right _ _)
  refine ⟨_, a, b, rfl, g0, ha, hb, ?_⟩
  have e1 : n.natAbs = Nat.gcd n.natAbs d.natAbs * a.natAbs := by
    have := congrArg Int.natAbs ha
    rwa [Int.natAbs_mul, Int.natAbs_natCast] at this
  have e2 : d.natAbs = Nat.gcd n.natAbs d.natAbs * b.natAbs := by
    have := congrArg Int.natAbs hb
    rwa [Int.natAbs_mul, Int.natAbs_natCast] at this
  have e3 := Nat.gcd_mul_left (Nat.gcd n.natAbs d.natAbs) a.natAbs b.natAbs
  rw [← e1, ← e2] at e3
  exact Nat.eq_of_mul_eq_mul_left g0 (by rw [← e3]; simp)
theorem Rd.le {n d a b : Int} {g : Nat} (r : Rd n d g a b) : (g : Int) ≤ d.natAbs ∨ d = 0 := by
  by_cases z : d = 0
  · exact .inr z
  · refine .inl ?_
    have := Nat.gcd_le_right (m := n.natAbs) (n := d.natAbs) (by omega)
    rw [r.hg] at this
    omega
theorem Rd.b0 {n d a b : Int} {g : Nat} (r : Rd n d g a b) (h : 0 < d) : 0 < b := by
  have h1 := r.hd
  have h2 := r.g0
  rw [h1] at h
  rcases Int.lt_or_le 0 b with z | z
  · exact z
  · have : (g : Int) * b ≤ 0 := Int.mul_nonpos_of_nonneg_of_nonpos (by omega) z
    omega
/-- the law's own reduced -/
theorem lred_ok {n d a b : Int} {g : Nat} (r : Rd n d g a b) (h : 0 < d) (hs : d.natAbs < 2 ^ 200) : ∃ e, sem__law_reduced [some (.fz (.int n)), some (.fz (.int d))] = .ok (.fz (.tuple [.int a, .int b])) e := by
  obtain ⟨ec, hc⟩ := common_ok n d
  rw [r.hg] at hc
  have hgl : (g : Int).natAbs.log2 < 9000 := by
    refine lg (k := 200) ?_ (by decide) (by decide)
    rcases r.le with z | z <;> omega
  have h : m__law_reduced [some (.fz (.int n)), some (.fz (.int d)), none] = .ok (.rt (.fz (.tuple [.int a, .int b]))) [some (.fz (.int n)), some (.fz (.int d)), some (.fz (.int g))] := by
    unfold m__law_reduced
    have h1 : mAsg ((mIf ((m2 dGt (mVarF 1) (mC (.int 0))).bind tru) (mL dTup (mCons (mVarF 0) (mCons (mVarF 1) (mNil)))) (mL dTup (mCons (m2 dSub (mC (.int 0)) (mVarF 0)) (mCons (m2 dSub (mC (.int 0)) (mVarF 1)) (mNil))))).map T.fz) (gT 2 (gCons' (gN 0) (gCons' (gN 1) (gNil')))) [some (.fz (.int n)), some (.fz (.int d)), none] = .ok .nx [some (.fz (.int n)), some (.fz (.int d)), none] := by
      unfold mAsg
      rw [M.bind_ok (map_ok (x := .tuple [.int n, .int d]) (e1 := [some (.fz (.int n)), some (.fz (.int d)), none]) (by
        rw [mIf_t (tru_ok (k := true) (by rw [gt_ok (f_ok rfl) c_ok, decide_eq_true (by omega)]))]
        exact tup2_ok (f_ok rfl) (f_ok rfl)))]
      rfl
    rw [seq_ok h1]
    rw [seq_ok (set_ok (i := 2) (map_ok (map_ok (call_ok (two_ok (f_ok rfl) (f_ok rfl)) hc))))]
    have g0 := r.g0
    refine rt_ok (map_ok (tup2_ok (e1 := [some (.fz (.int n)), some (.fz (.int d)), some (.fz (.int g))]) ?_ ?_))
    · rw [show PyData.int a = .int (n / g) by rw [r.hn, Int.mul_ediv_cancel_left _ (by omega)]]
      exact div_ok (f_ok rfl) (f_ok rfl) (by omega) hgl
    · rw [show PyData.int b = .int (d / g) by rw [r.hd, Int.mul_ediv_cancel_left _ (by omega)]]
      exact div_ok (f_ok rfl) (f_ok rfl) (by omega) hgl
  exact sem_rt (fx := []) (k := 1) (m := m__law_reduced) (env := [some (.fz (.int n)), some (.fz (.int d))]) h
/-- reduced, of the program -/
theorem red_ok {n d a b : Int} {g : Nat} (r : Rd n d g a b) (h : d ≠ 0) (hs : d.natAbs < 2 ^ 200) : ∃ e, sem_reduced [some (.fz (.int n)), some (.fz (.int d))] = .ok (.fz (if 0 < d then .tuple [.int a, .int b] else .tuple [.int (-a), .int (-b)])) e := by
  have g0 := r.g0
  have hgn : g < 2 ^ 200 := by rcases r.le with z | z <;> omega
  have hg : mL dGcd (mCons (mVarF 0) (mCons (mVarF 1) mNil)) [some (.fz (.int n)), some (.fz (.int d)), none] = .ok (.int g) [some (.fz (.int n)), some (.fz (.int d)), none] :=
    mL_ok (two_ok (f_ok rfl) (f_ok rfl)) (by unfold dGcd; dsimp only; rw [r.hg])
  by_cases p : 0 < d
  · have h : m_reduced [some (.fz (.int n)), some (.fz (.int d)), none] = .ok (.rt (.fz (.tuple [.int a, .int b]))) [some (.fz (.int n)), some (.fz (.int d)), some (.fz (.int g))] := by
      unfold m_reduced
      rw [seq_ok (set_ok (i := 2) (map_ok hg))]
      rw [seq_ok (e1 := [some (.fz (.int n)), some (.fz (.int d)), some (.fz (.int g))]) (by
        rw [if_f (tru_ok (k := false) (by rw [lt_ok (f_ok rfl) c_ok, decide_eq_false (by omega)]))]; rfl)]
      refine rt_ok (map_ok (tup2_ok (e1 := [some (.fz (.int n)), some (.fz (.int d)), some (.fz (.int g))]) ?_ ?_))
      · rw [show PyData.int a = .int (n / g) by rw [r.hn, Int.mul_ediv_cancel_left _ (by omega)]]
        exact div_ok (f_ok rfl) (f_ok rfl) (by omega) (lg (k := 200) (by simpa using hgn) (by decide) (by decide))
      · rw [show PyData.int b = .int (d / g) by rw [r.hd, Int.mul_ediv_cancel_left _ (by omega)]]
        exact div_ok (f_ok rfl) (f_ok rfl) (by omega) (lg (k := 200) (by simpa using hgn) (by decide) (by decide))
    rw [if_pos p]
    exact sem_rt (fx := []) (k := 1) (m := m_reduced) (env := [some (.fz (.int n)), some (.fz (.int d))]) h
  · have dv : ∀ (x y : Int) (i : Nat) (env : Env), x = g * y → mVarF i env = .ok (.int x) env → mVarF 2 env = .ok (.int (-(g : Int))) env → m2 dDiv (mVarF i) (mVarF 2) env = .ok (.int (-y)) env := fun x y i env hx h1 h2 => m2_ok h1 h2 (by
      unfold dDiv
      dsimp only
      rw [if_pos ⟨by omega, lg (k := 200) (by simpa using hgn) (by decide) (by decide)⟩]
      congr 2
      rw [hx, show (g : Int) * y = -(g : Int) * (-y) by rw [Int.neg_mul_neg]]
      exact Int.mul_fdiv_cancel_left _ (by omega))
    have h : m_reduced [some (.fz (.int n)), some (.fz (.int d)), none] = .ok (.rt (.fz (.tuple [.int (-a), .int (-b)]))) [some (.fz (.int n)), some (.fz (.int d)), some (.fz (.int (-(g : Int))))] := by
      unfold m_reduced
      rw [seq_ok (set_ok (i := 2) (map_ok hg))]
      rw [seq_ok (e1 := [some (.fz (.int n)), some (.fz (.int d)), some (.fz (.int (-(g : Int))))]) (by
        rw [if_t (tru_ok (k := true) (by rw [lt_ok (f_ok rfl) c_ok, decide_eq_true (by omega)]))]
        rw [set_ok (map_ok (x := .int (-(g : Int))) (by
          unfold m1
          rw [M.bind_ok (f_ok (i := 2) rfl)]
          rfl))]
        rfl)]
      exact rt_ok (map_ok (tup2_ok (dv n a 0 _ r.hn (f_ok rfl) (f_ok rfl)) (dv d b 1 _ r.hd (f_ok rfl) (f_ok rfl))))
    rw [if_neg p]
    exact sem_rt (fx := []) (k := 1) (m := m_reduced) (env := [some (.fz (.int n)), some (.fz (.int d))]) h

/-! ### numbers and fractions out of the bag -/
theorem some_ok {t : T} (B : IsBag t) {ds : List D} (h0 : ds ≠ []) (h1 : ds.length ≤ 1000) : ∃ d t', d ∈ ds ∧ IsBag t' ∧ ∃ e, sem__law_some [some t, some (.fz (.list ds))] = .ok (.fz d) (some t' :: e) := by
  have hp : 0 < ds.length := List.length_pos_iff.mpr h0
  obtain ⟨n, t', B', n0, n1, e, he⟩ := take_ok B (many := (ds.length : Int)) (by omega) (by simpa using log_small (n := ds.length) (by omega))
  have hn : n.toNat < ds.length := by omega
  refine ⟨ds[n.toNat], t', List.getElem_mem hn, B', [some (.fz (.list ds))], ?_⟩
  have hl : mL dLen (mCons (mVarF 1) mNil) [some t, some (.fz (.list ds))] = .ok (.int (ds.length : Nat)) [some t, some (.fz (.list ds))] := mL1_ok (f_ok rfl) (by simp [dLen])
  have hc := callB_ok (sem := sem__law_take) (i := 0) (env := [some t, some (.fz (.list ds))]) (ms := mCons (mL dLen (mCons (mVarF 1) mNil)) mNil) (t0 := t) rfl (one_ok hl) rfl he
  have hm : m__law_some ([some t, some (.fz (.list ds))] ++ List.replicate 0 none) = .ok (.rt (.fz ds[n.toNat])) [some t', some (.fz (.list ds))] :=
    rt_ok (map_ok (m2_ok (f_ok rfl) (map_ok hc) (by
      have hj := atI_nat (xs := ds) (j := n.toNat) (List.getElem?_eq_getElem hn)
      rw [Int.toNat_of_nonneg n0] at hj
      exact hj)))
  unfold sem__law_some semOf
  rw [hm]
  rfl
theorem takeC {env : Env} {i : Nat} {t : T} (h0 : env[i]? = some (some t)) (B : IsBag t) {k : Int} {mk : M D} (hk : mk env = .ok (.int k) env) (h1 : 1 ≤ k) (hl : k.natAbs.log2 < 9000) : ∃ n t', IsBag t' ∧ 0 ≤ n ∧ n < k ∧
    (((mHas i).bind fun _ => mCallB sem__law_take i (mCons mk mNil)).map T.er) env = .ok (.int n) (env.set i (some t')) := by
  obtain ⟨n, t', B', n0, n1, e, he⟩ := take_ok B h1 hl
  exact ⟨n, t', B', n0, n1, map_ok (callB_ok (t0 := t) h0 (one_ok hk) h0 he)⟩
theorem someC {env env1 : Env} {i : Nat} {t0 t1 : T} {ml : M T} {ds : List D} (h0 : env[i]? = some (some t0)) (hm : ml env = .ok (.ol (ds.map T.fz)) env1) (h1 : env1[i]? = some (some t1)) (B : IsBag t1) (hz : ds ≠ []) (hl : ds.length ≤ 1000) : ∃ d t', d ∈ ds ∧ IsBag t' ∧
    (((mHas i).bind fun _ => mCallB sem__law_some i (mCons (ml.map T.er) mNil)).map T.er) env = .ok d (env1.set i (some t')) := by
  obtain ⟨d, t', hd, B', e, he⟩ := some_ok B hz hl
  exact ⟨d, t', hd, B', map_ok (callB_ok (t0 := t0) h0 (one_ok (d := .list ds) (by rw [map_ok hm, er_fz])) h1 he)⟩
theorem integer_ok {t : T} (B : IsBag t) : ∃ v t', IsBag t' ∧ v.natAbs ≤ 10 ^ 39 ∧ ∃ e, sem__law_integer [some t] = .ok (.fz (.int v)) (some t' :: e) := by
  obtain ⟨n1, t1, B1, a1, b1, h1⟩ := takeC (env := [some t, none]) (i := 0) rfl B (mk := mC (.int 13)) rfl (by decide) (by decide)
  obtain ⟨n2, t2, B2, a2, b2, h2⟩ := takeC (env := [some t1, none]) (i := 0) rfl B1 (mk := mC (.int 13)) rfl (by decide) (by decide)
  obtain ⟨n3, t3, B3, a3, b3, h3⟩ := takeC (env := [some t2, none]) (i := 0) rfl B2 (mk := mC (.int 999)) rfl (by decide) (by decide)
  have hl : (mL dLst (mCons (((mHas 0).bind fun _ => mCallB sem__law_take 0 (mCons (mC (.int 13)) (mNil))).map T.er) (mCons (((mHas 0).bind fun _ => mCallB sem__law_take 0 (mCons (mC (.int 13)) (mNil))).map T.er) (mCons (m2 dSub (m2 dPow (mC (.int 10)) (mC (.int 12))) (((mHas 0).bind fun _ => mCallB sem__law_take 0 (mCons (mC (.int 999)) (mNil))).map T.er)) (mCons (mC (.int 0)) (mCons (m2 dPow (mC (.int 10)) (mC (.int 39))) (mNil))))))) [some t, none] = .ok (.ol (([.int n1, .int n2, .int (10 ^ 12 - n3), .int 0, .int (10 ^ 39)] : List D).map T.fz)) [some t3, none] :=
    mL_ok (cons_ok h1 (cons_ok h2 (cons_ok (sub_ok (pow_ok (by decide) (by decide) (by decide)) h3) (cons_ok c_ok (cons_ok (pow_ok (by decide) (by decide) (by decide)) rfl))))) (dLst_le (by simp))
  obtain ⟨d, t4, hd, B4, h4⟩ := someC (env := [some t, none]) (i := 0) (t0 := t) rfl hl rfl B3 (by simp) (by simp)
  obtain ⟨n5, t5, B5, a5, b5, h5⟩ := takeC (env := [some t4, some (.fz d)]) (i := 0) rfl B4 (mk := mC (.int 3)) rfl (by decide) (by decide)
  obtain ⟨v, rfl, hv⟩ : ∃ v : Int, d = .int v ∧ v.natAbs ≤ 10 ^ 39 := by
    simp only [List.mem_cons, List.not_mem_nil, or_false] at hd
    rcases hd with z | z | z | z | z
    · exact ⟨_, z, by omega⟩
    · exact ⟨_, z, by omega⟩
    · exact ⟨_, z, by omega⟩
    · exact ⟨_, z, by decide⟩
    · exact ⟨_, z, by decide⟩
  refine ⟨if 0 < n5 then v else 0 - v, t5, B5, by split <;> omega, [], ?_⟩
  have hm : m__law_integer ([some t] ++ List.replicate 1 none) = .ok (.rt (.fz (.int (if 0 < n5 then v else 0 - v)))) [some t5, some (.fz (.int v))] := by
    unfold m__law_integer
    show mSeq _ _ [some t, none] = _
    rw [seq_ok (set_ok (i := 1) (map_ok h4))]
    show mRt _ [some t4, some (.fz (.int v))] = _
    refine rt_ok (map_ok ?_)
    by_cases p : 0 < n5
    · rw [mIf_t (tru_ok (k := true) (by rw [gt_ok h5 c_ok, decide_eq_true p])), if_pos p]
      exact f_ok rfl
    · rw [mIf_f (tru_ok (k := false) (by rw [gt_ok h5 c_ok, decide_eq_false p])), if_neg p]
      exact sub_ok c_ok (f_ok rfl)
  unfold sem__law_integer semOf
  rw [hm]
  rfl
structure Frac (a b : Int) : Prop where
  b0 : 0 < b
  b1 : b ≤ 10 ^ 9
  a1 : a.natAbs ≤ 10 ^ 39
  co : Nat.gcd a.natAbs b.natAbs = 1
theorem fraction_ok {t : T} (B : IsBag t) : ∃ a b t', Frac a b ∧ IsBag t' ∧ ∃ e, sem__law_fraction [some t] = .ok (.fz (.tuple [.int a, .int b])) (some t' :: e) := by
  obtain ⟨v, t1, B1, hv, e1, h1⟩ := integer_ok B
  obtain ⟨n2, t2, B2, a2, b2, h2⟩ := takeC (env := [some t1]) (i := 0) rfl B1 (mk := mC (.int 12)) rfl (by decide) (by decide)
  obtain ⟨n3, t3, B3, a3, b3, h3⟩ := takeC (env := [some t2]) (i := 0) rfl B2 (mk := m2 dPow (mC (.int 10)) (mC (.int 8))) (pow_ok (by decide) (by decide) (by decide)) (by decide) (by decide)
  have hl : (mL dLst (mCons (mC (.int 0)) (mCons (((mHas 0).bind fun _ => mCallB sem__law_take 0 (mCons (mC (.int 12)) (mNil))).map T.er) (mCons (((mHas 0).bind fun _ => mCallB sem__law_take 0 (mCons (m2 dPow (mC (.int 10)) (mC (.int 8))) (mNil))).map T.er) (mNil))))) [some t1] = .ok (.ol (([.int 0, .int n2, .int n3] : List D).map T.fz)) [some t3] :=
    mL_ok (cons_ok c_ok (cons_ok h2 (cons_ok h3 rfl))) (dLst_le (by simp))
  obtain ⟨d, t4, hd, B4, h4⟩ := someC (env := [some t1]) (i := 0) (t0 := t1) rfl hl rfl B3 (by simp) (by simp)
  have b3' : n3 < 100000000 := by simpa using b3
  obtain ⟨u, rfl, u0, u1⟩ : ∃ u : Int, d = .int u ∧ 0 ≤ u ∧ u < 100000000 := by
    simp only [List.mem_cons, List.not_mem_nil, or_false] at hd
    rcases hd with z | z | z
    · exact ⟨_, z, by decide, by decide⟩
    · exact ⟨_, z, by omega, by omega⟩
    · exact ⟨_, z, by omega, by omega⟩
  obtain ⟨g, a, b, r⟩ := rd_is v (1 + u) (by omega)
  have hb := r.b0 (by omega)
  have g0 := r.g0
  obtain ⟨ec, hc⟩ := lred_ok r (by omega) (by
    refine Nat.lt_of_lt_of_le (m := 10 ^ 9) ?_ (by decide)
    omega)
  have ha : a.natAbs ≤ v.natAbs := by
    have := congrArg Int.natAbs r.hn
    rw [Int.natAbs_mul, Int.natAbs_natCast] at this
    rw [this]
    exact Nat.le_mul_of_pos_left _ g0
  have hb1 : b.natAbs ≤ (1 + u).natAbs := by
    have := congrArg Int.natAbs r.hd
    rw [Int.natAbs_mul, Int.natAbs_natCast] at this
    rw [this]
    exact Nat.le_mul_of_pos_left _ g0
  refine ⟨a, b, t4, ⟨hb, by omega, by omega, r.co⟩, B4, [], ?_⟩
  have hi : (((mHas 0).bind fun _ => mCallB sem__law_integer 0 (mNil)).map T.er) [some t] = .ok (.int v) [some t1] := map_ok (callB_ok (t0 := t) rfl (ds := []) rfl rfl h1)
  have hm : m__law_fraction ([some t] ++ List.replicate 0 none) = .ok (.rt (.fz (.tuple [.int a, .int b]))) [some t4] :=
    rt_ok (call_ok (two_ok hi (add_ok c_ok h4)) hc)
  unfold sem__law_fraction semOf
  rw [hm]
  rfl

/-! ### what is shown is short -/
theorem num_len {i : Int} {k : Nat} (hk : 0 < k) (h : i.natAbs < 10 ^ k) : (Str.ofString (toString i)).length ≤ k + 1 := by
  have up : ∀ n : Nat, n < 10 ^ k → (toString (n : Int)).length ≤ k := fun n hn => by
    have z := PyProof.Rows.toString_length_le (v := (n : Int)) (by omega) hk (by
      have e : ((10 : Int) ^ k) = ((10 ^ k : Nat) : Int) := by simp
      rw [e]
      exact Int.ofNat_lt.mpr hn)
    rw [PySem.ofString_length] at z
    exact z
  rcases Int.lt_or_le i 0 with z | z
  · obtain ⟨n, rfl⟩ : ∃ n : Nat, i = Int.negSucc n := ⟨(-i - 1).toNat, by omega⟩
    have e : toString (Int.negSucc n) = "-" ++ toString ((n + 1 : Nat) : Int) := rfl
    have := up (n + 1) (by simpa using h)
    rw [PySem.ofString_length, e, String.length_append]
    have h1 : "-".length = 1 := rfl
    omega
  · have := up i.natAbs h
    rw [Int.natAbs_of_nonneg z] at this
    rw [PySem.ofString_length]
    omega
theorem tup2_len {a b : Int} (ha : a.natAbs < 10 ^ 90) (hb : b.natAbs < 10 ^ 90) : (PyData.tuple [.int a, .int b]).shown.length ≤ 186 := by
  have h1 := num_len (by decide) ha
  have h2 := num_len (by decide) hb
  have e : (PyData.tuple [.int a, .int b]).shown = (("(" : Str) ++ (Str.ofString (toString a) ++ (", " : Str) ++ Str.ofString (toString b)) ++ (")" : Str)) := by
    simp only [PyData.shown, PyData.shownAll, tupleText]
    rfl
  rw [e]
  simp only [strLen_append]
  have e1 : ("(" : Str).length = 1 := by decide
  have e2 : (", " : Str).length = 2 := by decide
  have e3 : (")" : Str).length = 1 := by decide
  omega
theorem list_len : ∀ (ts : List Str) (k : Nat) (acc : Str) (m : Nat), (∀ t ∈ ts, t.length ≤ m) → (textFrom k acc ts).length ≤ acc.length + ts.length * (m + 2)
  | [], _, acc, m, _ => by simp [textFrom]
  | t :: r, k, acc, m, h => by
    have ih := list_len r (k + 1) (acc ++ (if k > 0 then ", " else "" : String) ++ t) m fun x hx => h x (List.mem_cons_of_mem _ hx)
    have ht := h t List.mem_cons_self
    have e : (acc ++ (if k > 0 then ", " else "" : String) ++ t).length ≤ acc.length + 2 + t.length := by
      rw [strLen_append, strLen_append]
      have : ((if k > 0 then ", " else "" : String) : Str).length ≤ 2 := by split <;> decide
      omega
    show (textFrom (k + 1) (acc ++ (if k > 0 then ", " else "" : String) ++ t) r).length ≤ _
    rw [List.length_cons, Nat.add_mul]
    omega
theorem lst_len {ds : List D} {m : Nat} (h : ∀ t ∈ PyData.shownAll ds, t.length ≤ m) : (PyData.list ds).shown.length ≤ 2 + (PyData.shownAll ds).length * (m + 2) := by
  simp only [PyData.shown, listText]
  rw [strLen_append]
  have := list_len (PyData.shownAll ds) 0 "[" m h
  have e1 : ("[" : Str).length = 1 := by decide
  have e2 : ("]" : Str).length = 1 := by decide
  omega
theorem show_ok {i : Int} (h : i.natAbs < 10 ^ 90) : i.natAbs.log2 < 1920 := lg (k := 400) (Nat.lt_of_lt_of_le h (by decide)) (by decide) (by decide)
theorem gd_four {a b a1 b1 a2 b2 a3 b3 : Int} (h : ∀ i ∈ [a, b, a1, b1, a2, b2, a3, b3], i.natAbs < 10 ^ 90) : Gd (.list [.tuple [.int a, .int b], .tuple [.int a1, .int b1], .tuple [.int a2, .int b2], .tuple [.int a3, .int b3]]) 0 := by
  simp only [List.mem_cons, List.not_mem_nil, or_false, forall_eq_or_imp, forall_eq] at h
  obtain ⟨h1, h2, h3, h4, h5, h6, h7, h8⟩ := h
  refine ⟨by simp [PyData.depth, PyData.depthAll], rfl, ?_, ?_⟩
  · simp [PyData.showable, PyData.showableAll, show_ok h1, show_ok h2, show_ok h3, show_ok h4, show_ok h5, show_ok h6, show_ok h7, show_ok h8]
  · have z := lst_len (ds := [.tuple [.int a, .int b], .tuple [.int a1, .int b1], .tuple [.int a2, .int b2], .tuple [.int a3, .int b3]]) (m := 186) (by
      simp only [PyData.shownAll, List.mem_cons, List.not_mem_nil, or_false, forall_eq_or_imp, forall_eq]
      exact ⟨tup2_len h1 h2, tup2_len h3 h4, tup2_len h5 h6, tup2_len h7 h8⟩)
    have e : (PyData.shownAll [.tuple [.int a, .int b], .tuple [.int a1, .int b1], .tuple [.int a2, .int b2], .tuple [.int a3, .int b3]]).length = 4 := by simp [PyData.shownAll]
    rw [e] at z
    omega
def okS (x : Str) : Prop := ∀ c ∈ x.cps.toList, c < 16 ^ 8
theorem okS_of (s : String) : okS (Str.ofString s) := fun c h => by
  rw [Str.ofString_eq_toList] at h
  obtain ⟨x, _, rfl⟩ := List.mem_map.mp h
  have := x.val.toNat_lt
  exact this
theorem okS.app {x y : Str} (h : okS x) (h' : okS y) : okS (x ++ y) := fun c m => by
  have e : (x ++ y).cps.toList = x.cps.toList ++ y.cps.toList := by simp [Str.cps_append]
  rw [e] at m
  exact (List.mem_append.mp m).elim (h c) (h' c)
theorem gd_text {i : Int} {x : Str} (hi : i.natAbs < 10 ^ 10) (hx : okS x) (hl : x.length ≤ 60) : Gd (.list [.int i, .str x]) 0 := by
  refine ⟨by simp [PyData.depth, PyData.depthAll], rfl, ?_, ?_⟩
  · have := show_ok (Nat.lt_of_lt_of_le hi (by decide : 10 ^ 10 ≤ 10 ^ 90))
    simp [PyData.showable, PyData.showableAll, this]
  · have z := lst_len (ds := [.int i, .str x]) (m := 602) (by
      simp only [PyData.shownAll, List.mem_cons, List.not_mem_nil, or_false, forall_eq_or_imp, forall_eq, PyData.shown]
      refine ⟨?_, ?_⟩
      · have := num_len (by decide) hi
        exact Nat.le_trans this (by decide)
      · have := PySem.StrLaws.reprText_len x hx
        omega)
    have e : (PyData.list [.int i, .str x]).shown.length ≤ 700 := by
      have e0 : (PyData.list [.int i, .str x]).shown = ((("[" : Str) ++ (("" : String) : Str) ++ Str.ofString (toString i)) ++ (", " : Str) ++ reprText x) ++ ("]" : Str) := by
        simp only [PyData.shown, PyData.shownAll, listText, textFrom]
        rfl
      rw [e0]
      simp only [strLen_append]
      have e1 : ("[" : Str).length = 1 := by decide
      have e2 : ("]" : Str).length = 1 := by decide
      have e3 : (", " : Str).length = 2 := by decide
      have e4 : (("" : String) : Str).length = 0 := by decide
      have := num_len (by decide) hi
      have := PySem.StrLaws.reprText_len x hx
      omega
    omega

/-! ### the bag of a script -/
theorem lc_abs (env : Env) (h : env.length = 2) : ∀ ns : List Int, lcGo [1] (gN 1) (M.pure true) ((mL dAbs (mCons (mVarF 1) (mNil))).map T.fz) env (ns.map PyData.int) = some (ns.map fun i => T.fz (.int (i.natAbs : Int)))
  | [] => rfl
  | i :: r => by
    have ih := lc_abs env h r
    have hs : lcStep [1] (gN 1) (M.pure true) ((mL dAbs (mCons (mVarF 1) (mNil))).map T.fz) env (.int i) = some (some (T.fz (.int (i.natAbs : Int)))) := by
      match env, h with
      | [x, y], _ =>
        have := map_ok (f := T.fz) (abs_ok (m := mVarF 1) (env := [x, some (.fz (.int i))]) (i := i) (f_ok rfl))
        unfold lcStep
        simp only [gN, M.pure, wipeE, List.set, this]
        first | rfl | simp [this] | skip
    simp only [List.map_cons, lcGo, hs, ih, Option.map_some]
theorem cut_to (ds : List D) {k : Nat} (h : ds.length ≤ k) : cutD ds none (some (k : Int)) = ds := by
  unfold cutD
  have e1 : HT.sIx ds.length ds.length (some (k : Int)) = min k ds.length := by
    show (if (k : Int) < 0 then ((k : Int) + (ds.length : Int)).toNat else min (k : Int).toNat ds.length) = _
    rw [if_neg (by omega), Int.toNat_natCast]
  have e2 : HT.sIx ds.length 0 none = 0 := rfl
  rw [e1, e2, Nat.min_eq_right h]
  simp
theorem bag_ok (ns : List Int) (h : ns.length ≤ 63) : ∃ e, sem__law_bag [some (.fz (.list (ns.map PyData.int)))] = .ok (bagT 0 1234567891 0 (ns.map fun i => (i.natAbs : Int))) e := by
  have h1 : mSlV (mVarF 0) (M.pure none) (mBd (mC (.int 63))) [some (.fz (.list (ns.map PyData.int))), none] = .ok (.list (ns.map PyData.int)) [some (.fz (.list (ns.map PyData.int))), none] := by
    unfold mSlV
    rw [M.bind_ok (f_ok (i := 0) (d := .list (ns.map PyData.int)) rfl), M.bind_ok (show (M.pure none : M (Option Int)) [some (.fz (.list (ns.map PyData.int))), none] = .ok none _ from rfl), M.bind_ok (show mBd (mC (.int 63)) [some (.fz (.list (ns.map PyData.int))), none] = .ok (some (63 : Int)) [some (.fz (.list (ns.map PyData.int))), none] from rfl)]
    unfold M.lift
    dsimp only [dSl]
    have := cut_to (ns.map PyData.int) (k := 63) (by simpa using h)
    rw [show (some (63 : Int)) = some ((63 : Nat) : Int) from rfl, this, Option.map_some, er_fz]
  have h2 : (mI seqD (mSlV (mVarF 0) (M.pure none) (mBd (mC (.int 63))))) [some (.fz (.list (ns.map PyData.int))), none] = .ok (ns.map PyData.int) [some (.fz (.list (ns.map PyData.int))), none] := by
    unfold mI
    rw [M.bind_ok h1]
    rfl
  have h3 : (((mI seqD (mSlV (mVarF 0) (M.pure none) (mBd (mC (.int 63))))).bind (mLc [1] (gN 1) (M.pure true) ((mL dAbs (mCons (mVarF 1) (mNil))).map T.fz))).map T.er) [some (.fz (.list (ns.map PyData.int))), none] = .ok (.list ((ns.map fun i => (i.natAbs : Int)).map PyData.int)) [some (.fz (.list (ns.map PyData.int))), none] := by
    have h4 : mLc [1] (gN 1) (M.pure true) ((mL dAbs (mCons (mVarF 1) (mNil))).map T.fz) (ns.map PyData.int) [some (.fz (.list (ns.map PyData.int))), none] = .ok (.ol (((ns.map fun i => (i.natAbs : Int)).map PyData.int).map T.fz)) [some (.fz (.list (ns.map PyData.int))), none] := by
      unfold mLc
      rw [if_pos (by rw [sizeLine_eq, List.length_map]; omega), lc_abs _ rfl ns]
      simp only [List.map_map]
      rfl
    rw [map_ok (e1 := [some (.fz (.list (ns.map PyData.int))), none]) (x := .ol (((ns.map fun i => (i.natAbs : Int)).map PyData.int).map T.fz)) (by rw [M.bind_ok h2]; exact h4), er_fz]
  exact sem_rt (fx := []) (k := 1) (m := m__law_bag) (env := [some (.fz (.list (ns.map PyData.int)))]) (rt_ok (mL_ok (cons_ok c_ok (cons_ok c_ok (cons_ok c_ok (cons_ok h3 rfl)))) (dLst_le (by simp))))
theorem bag_is (ns : List Int) (h : ns.length ≤ 63) : IsBag (bagT 0 1234567891 0 (ns.map fun i => (i.natAbs : Int))) :=
  ⟨_, _, _, _, rfl, by decide, by decide, by decide, by decide, fun x hx => by
    obtain ⟨i, _, rfl⟩ := List.mem_map.mp hx
    omega, by simpa using h⟩
/-! ### the two lots -/
theorem oddC {env : Env} {t : T} (h0 : env[1]? = some (some t)) (B : IsBag t) : ∃ r t', r ∈ odds1 ++ odds2 ∧ IsBag t' ∧ oddM env = .ok r (env.set 1 (some t')) := by
  obtain ⟨r, t', hr, B', e, he⟩ := odd_ok B
  exact ⟨r, t', hr, B', callB_ok (ds := []) h0 rfl h0 he⟩
theorem lots_ok {env : Env} {t : T} (hl : env.length = 20) (h0 : env[1]? = some (some t)) (B : IsBag t) : ∃ t', IsBag t' ∧ mLots env = .ok .nx (((env.set 1 (some t')).set 2 none).set 3 none) := by
  have st : ∀ x : T, (env.set 1 (some x))[1]? = some (some x) := fun x => by simp [hl]
  obtain ⟨r1, t1, m1, B1, h1⟩ := oddC h0 B
  obtain ⟨r2, t2, m2, B2, h2⟩ := oddC (st t1) B1
  rw [List.set_set] at h2
  obtain ⟨r3, t3, m3, B3, h3⟩ := oddC (st t2) B2
  rw [List.set_set] at h3
  obtain ⟨r4, t4, m4, B4, h4⟩ := oddC (st t3) B3
  rw [List.set_set] at h4
  have a1 : mA1 env = .ok [r1, .ol [.fz r2.er]] (env.set 1 (some t2)) := consT_ok h1 (consT_ok (mL_ok (cons_ok (map_ok h2) rfl) (dLst_le (by simp))) rfl)
  have a2 : mA2 (env.set 1 (some t2)) = .ok [.ol [.fz r3.er], r4] (env.set 1 (some t4)) := consT_ok (mL_ok (cons_ok (map_ok h3) rfl) (dLst_le (by simp))) (consT_ok h4 rfl)
  refine ⟨t4, B4, ?_⟩
  unfold mLots
  rw [M.bind_ok a1, M.bind_ok a2, if_pos ⟨by simp [hl], ⟨_, _, rfl, (odd_all m1).1, (odd_all m2).2⟩, ⟨_, _, rfl, (odd_all m3).2, (odd_all m4).1⟩⟩]

/-! ### the checks of one turn -/
noncomputable def mTurn : M Fl := (mSeq (mPar 8 9 (mConsT ((((mHas 1).bind fun _ => mCallB sem__law_fraction 1 (mNil)).map T.er).map T.fz) (mConsT ((((mHas 1).bind fun _ => mCallB sem__law_fraction 1 (mNil)).map T.er).map T.fz) (mNilT))))
  (mSeq (mAsg ((mVarF 8).map T.fz) (gT 2 (gCons' (gN 10) (gCons' (gN 11) (gNil')))))
  (mSeq (mAsg ((mVarF 9).map T.fz) (gT 2 (gCons' (gN 12) (gCons' (gN 13) (gNil')))))
  (mSeq (mSet 14 ((((mHas 1).bind fun _ => mCallB sem__law_some 1 (mCons ((mL dLst (mCons (mC (.int 1)) (mCons (m1 dNeg (mC (.int 1))) (mCons (mC (.int 6)) (mCons (m1 dNeg (mC (.int 35))) (mNil)))))).map T.er) (mNil))).map T.er).map T.fz))
  (mSeq (mSet 15 (((mL dLst (mCons (mVarF 8) (mCons ((mCall sem__law_reduced (mCons (m2 dAdd (m2 dMul (mVarF 10) (mVarF 13)) (m2 dMul (mVarF 11) (mVarF 12))) (mCons (m2 dMul (mVarF 11) (mVarF 13)) (mNil)))).map T.er) (mCons ((mCall sem__law_reduced (mCons (m2 dSub (m2 dMul (mVarF 10) (mVarF 13)) (m2 dMul (mVarF 11) (mVarF 12))) (mCons (m2 dMul (mVarF 11) (mVarF 13)) (mNil)))).map T.er) (mCons ((mCall sem__law_reduced (mCons (m2 dMul (mVarF 10) (mVarF 12)) (mCons (m2 dMul (mVarF 11) (mVarF 13)) (mNil)))).map T.er) (mNil)))))).map T.er).map T.fz))
  (mSeq (mSet 16 (((mL dLst (mCons ((mCall sem_reduced (mCons (m2 dMul (mVarF 10) (mVarF 14)) (mCons (m2 dMul (mVarF 11) (mVarF 14)) (mNil)))).map T.er) (mCons ((mCall sem_added (mCons (mVarF 8) (mCons (mVarF 9) (mNil)))).map T.er) (mCons ((mCall sem_lessened (mCons (mVarF 8) (mCons (mVarF 9) (mNil)))).map T.er) (mCons ((mCall sem_times (mCons (mVarF 8) (mCons (mVarF 9) (mNil)))).map T.er) (mNil)))))).map T.er).map T.fz))
  (mSeq (mIfS (tNotM (((mCall sem__law_alike (mCons (mVarF 16) (mCons (mVarF 15) (mNil)))).map T.er).bind tru)) (mRt ((mC (.bool false)).map T.fz)) (mNx))
  (mSeq (mSet 17 ((m2 dSub (mL dInt (mCons (m2 dGt (m2 dMul (mVarF 10) (mVarF 13)) (m2 dMul (mVarF 11) (mVarF 12))) (mNil))) (mL dInt (mCons (m2 dLt (m2 dMul (mVarF 10) (mVarF 13)) (m2 dMul (mVarF 11) (mVarF 12))) (mNil)))).map T.fz))
  (mSeq (mSet 18 ((m2 dAdd (mL dStr (mCons (mVarF 10) (mNil))) (mIf ((m2 dNe (mVarF 11) (mC (.int 1))).bind tru) (m2 dAdd (mC (.str "/")) (mL dStr (mCons (mVarF 11) (mNil)))) (mC (.str "")))).map T.fz))
  (mIfS (tNotM (((mCall sem__law_alike (mCons ((mL dLst (mCons ((mCall sem_compared (mCons (mVarF 8) (mCons (mVarF 9) (mNil)))).map T.er) (mCons ((mCall sem_fraction_text (mCons (mVarF 8) (mNil))).map T.er) (mNil)))).map T.er) (mCons ((mL dLst (mCons (mVarF 17) (mCons (mVarF 18) (mNil)))).map T.er) (mNil)))).map T.er).bind tru)) (mRt ((mC (.bool false)).map T.fz)) (mNx)))))))))))
theorem law_eq : m_law = mSeq (mSet 1 (mCall sem__law_bag (mCons (mVarF 0) (mNil))))
  (mSeq (mLots)
  (mSeq (mSet 4 ((m2 dAdd (m2 dPow (mC (.int 10)) (mC (.int 11))) (((mHas 1).bind fun _ => mCallB sem__law_take 1 (mCons (mC (.int 999)) (mNil))).map T.er)).map T.fz))
  (mSeq (mPar 5 6 (mConsT ((mL dTup (mCons (m2 dAdd (mVarF 4) (mC (.int 1))) (mCons (mVarF 4) (mNil)))).map T.fz) (mConsT ((mL dTup (mCons (mVarF 4) (mCons (m2 dSub (mVarF 4) (mC (.int 1))) (mNil)))).map T.fz) (mNilT))))
  (mSeq (mIfS (tNotM (((mCall sem__law_alike (mCons ((mL dLst (mCons ((mCall sem_compared (mCons (mVarF 5) (mCons (mVarF 6) (mNil)))).map T.er) (mCons ((mCall sem_compared (mCons (mVarF 6) (mCons (mVarF 5) (mNil)))).map T.er) (mCons ((mCall sem_compared (mCons (mVarF 5) (mCons (mVarF 5) (mNil)))).map T.er) (mNil))))).map T.er) (mCons ((mL dLst (mCons (m1 dNeg (mC (.int 1))) (mCons (mC (.int 1)) (mCons (mC (.int 0)) (mNil))))).map T.er) (mNil)))).map T.er).bind tru)) (mRt ((mC (.bool false)).map T.fz)) (mNx))
  (mSeq ((mIL dRng1 (mCons (mC (.int 8)) (mNil))).bind fun ds => mFor (gN 7) mTurn ds)
  (mRt ((mC (.bool true)).map T.fz))))))) := rfl

def MulOk (i j : Int) : Prop := (i.natAbs < 2 ^ 64 ∨ j.natAbs < 2 ^ 64) ∨ i.natAbs.log2 + j.natAbs.log2 < 1000000
def sg (x y : Int) : Int := (if decide (x > y) = true then 1 else 0) - (if decide (x < y) = true then 1 else 0)
theorem sg_le (x y : Int) : (sg x y).natAbs < 10 ^ 10 := by
  unfold sg
  split <;> split <;> decide
section
variable {env e1 : Env}
theorem ixT {i : Nat} {x y : D} (h : env[i]? = some (some (.fz (.tuple [x, y])))) : m2 dIx (mVarF i) (mC (.int 0)) env = .ok x env ∧ m2 dIx (mVarF i) (mC (.int 1)) env = .ok y env := ⟨m2_ok (f_ok h) c_ok rfl, m2_ok (f_ok h) c_ok rfl⟩
theorem intb_ok {m : M D} {b : Bool} (h : m env = .ok (.bool b) e1) : mL dInt (mCons m mNil) env = .ok (.int (if b = true then 1 else 0)) e1 := mL1_ok h rfl
theorem sg_ok {ma mb ma' mb' : M D} {x y : Int} (h1 : ma env = .ok (.int x) env) (h2 : mb env = .ok (.int y) env) (h3 : ma' env = .ok (.int x) env) (h4 : mb' env = .ok (.int y) env) :
    m2 dSub (mL dInt (mCons (m2 dGt ma mb) mNil)) (mL dInt (mCons (m2 dLt ma' mb') mNil)) env = .ok (.int (sg x y)) env := sub_ok (intb_ok (gt_ok h1 h2)) (intb_ok (lt_ok h3 h4))
end
theorem compared_ok {a b c d : Int} (h1 : MulOk a d) (h2 : MulOk c b) : ∃ e, sem_compared [some (.fz (.tuple [.int a, .int b])), some (.fz (.tuple [.int c, .int d]))] = .ok (.fz (.int (sg (a * d) (c * b)))) e := by
  have A : ∀ u v : Option T, ([some (.fz (.tuple [.int a, .int b])), some (.fz (.tuple [.int c, .int d])), u, v] : Env)[0]? = some (some (.fz (.tuple [.int a, .int b]))) := fun _ _ => rfl
  have B : ∀ u v : Option T, ([some (.fz (.tuple [.int a, .int b])), some (.fz (.tuple [.int c, .int d])), u, v] : Env)[1]? = some (some (.fz (.tuple [.int c, .int d]))) := fun _ _ => rfl
  refine sem_rt (fx := []) (k := 2) (m := m_compared) (env := [some (.fz (.tuple [.int a, .int b])), some (.fz (.tuple [.int c, .int d]))]) (e := [some (.fz (.tuple [.int a, .int b])), some (.fz (.tuple [.int c, .int d])), some (.fz (.int (a * d))), some (.fz (.int (c * b)))]) ?_
  unfold m_compared
  show mSeq _ _ [some (.fz (.tuple [.int a, .int b])), some (.fz (.tuple [.int c, .int d])), none, none] = _
  rw [seq_ok (par_ok (i := 2) (j := 3) (map_ok (mul_ok (ixT (A none none)).1 (ixT (B none none)).2 h1)) (map_ok (mul_ok (ixT (B none none)).1 (ixT (A none none)).2 h2)))]
  exact rt_ok (map_ok (sg_ok (f_ok rfl) (f_ok rfl) (f_ok rfl) (f_ok rfl)))
def ftx (a b : Int) : Str := if b = 1 then Str.ofString (toString a) else Str.ofString (toString a) ++ ("/" : Str) ++ Str.ofString (toString b)
theorem ftx_good {a b : Int} (F : Frac a b) : okS (ftx a b) ∧ (ftx a b).length ≤ 60 := by
  have h1 := num_len (i := a) (k := 40) (by decide) (Nat.lt_of_le_of_lt F.a1 (by decide))
  have h2 := num_len (i := b) (k := 10) (by decide) (by have := F.b1; have := F.b0; omega)
  unfold ftx
  split
  · exact ⟨okS_of _, by omega⟩
  · refine ⟨((okS_of _).app (okS_of _)).app (okS_of _), ?_⟩
    simp only [strLen_append]
    have e1 : ("/" : Str).length = 1 := by decide
    omega
section
variable {env e1 : Env}
theorem str_ok {m : M D} {i : Int} (h : m env = .ok (.int i) e1) (hl : i.natAbs < 10 ^ 90) : mL dStr (mCons m mNil) env = .ok (.str (Str.ofString (toString i))) e1 := mL1_ok h (by unfold dStr; dsimp only; rw [if_pos (show_ok hl)])
theorem cat_ok {ma mb : M D} {x y : Str} {e2 : Env} (h1 : ma env = .ok (.str x) e1) (h2 : mb e1 = .ok (.str y) e2) (h : x.length + y.length ≤ 1000) : m2 dAdd ma mb env = .ok (.str (x ++ y)) e2 := m2_ok h1 h2 (by unfold dAdd; dsimp only; rw [if_pos (by rw [sizeLine_eq]; omega)])
end
theorem Frac.a9 {a b : Int} (F : Frac a b) : a.natAbs < 10 ^ 90 := Nat.lt_of_le_of_lt F.a1 (by decide)
theorem Frac.b9 {a b : Int} (F : Frac a b) : b.natAbs < 10 ^ 90 := by have := F.b1; have := F.b0; exact Nat.lt_of_le_of_lt (show b.natAbs ≤ 10 ^ 9 by omega) (by decide)
theorem Frac.sa {a b : Int} (F : Frac a b) : (Str.ofString (toString a)).length ≤ 41 := num_len (i := a) (k := 40) (by decide) (Nat.lt_of_le_of_lt F.a1 (by decide))
theorem Frac.sb {a b : Int} (F : Frac a b) : (Str.ofString (toString b)).length ≤ 11 := num_len (i := b) (k := 10) (by decide) (by have := F.b1; have := F.b0; omega)
theorem ftext_ok {a b : Int} (F : Frac a b) : ∃ e, sem_fraction_text [some (.fz (.tuple [.int a, .int b]))] = .ok (.fz (.str (ftx a b))) e := by
  refine sem_rt (fx := []) (k := 0) (m := m_fraction_text) (env := [some (.fz (.tuple [.int a, .int b]))]) (e := [some (.fz (.tuple [.int a, .int b]))]) ?_
  unfold m_fraction_text
  show mRt _ [some (.fz (.tuple [.int a, .int b]))] = _
  have A := ixT (env := [some (.fz (.tuple [.int a, .int b]))]) (i := 0) rfl
  have e1 : ("/" : Str).length = 1 := by decide
  have l1 := F.sa
  have l2 := F.sb
  refine rt_ok (map_ok ?_)
  unfold ftx
  by_cases z : b = 1
  · rw [mIf_t (tru_ok (k := true) (by rw [eq_ok A.2 c_ok, decide_eq_true z])), if_pos z]
    exact str_ok A.1 F.a9
  · rw [mIf_f (tru_ok (k := false) (by rw [eq_ok A.2 c_ok, decide_eq_false z])), if_neg z]
    exact cat_ok (cat_ok (str_ok A.1 F.a9) c_ok (by omega)) (str_ok A.2 F.b9) (by rw [strLen_append]; omega)
theorem Rd.le2 {n d a b : Int} {g : Nat} (r : Rd n d g a b) : a.natAbs ≤ n.natAbs ∧ b.natAbs ≤ d.natAbs := by
  have g0 := r.g0
  refine ⟨?_, ?_⟩
  · have := congrArg Int.natAbs r.hn
    rw [Int.natAbs_mul, Int.natAbs_natCast] at this
    rw [this]
    exact Nat.le_mul_of_pos_left _ g0
  · have := congrArg Int.natAbs r.hd
    rw [Int.natAbs_mul, Int.natAbs_natCast] at this
    rw [this]
    exact Nat.le_mul_of_pos_left _ g0
theorem red_pos {n d a b : Int} {g : Nat} (r : Rd n d g a b) (h : 0 < d) (hs : d.natAbs < 2 ^ 200) : ∃ e, sem_reduced [some (.fz (.int n)), some (.fz (.int d))] = .ok (.fz (.tuple [.int a, .int b])) e := by
  have := red_ok r (by omega) hs
  rwa [if_pos h] at this
theorem red_mul {a b f : Int} (F : Frac a b) (hf : f ≠ 0) (hs : (b * f).natAbs < 2 ^ 200) : ∃ e, sem_reduced [some (.fz (.int (a * f))), some (.fz (.int (b * f)))] = .ok (.fz (.tuple [.int a, .int b])) e := by
  have hg : Nat.gcd (a * f).natAbs (b * f).natAbs = f.natAbs := by
    rw [Int.natAbs_mul, Int.natAbs_mul, Nat.gcd_mul_right, F.co, Nat.one_mul]
  have b0 := F.b0
  rcases Int.lt_or_le f 0 with z | z
  · have r : Rd (a * f) (b * f) f.natAbs (-a) (-b) := ⟨hg, by omega, by
      rw [show ((f.natAbs : Nat) : Int) = -f by omega, Int.neg_mul_neg, Int.mul_comm], by
      rw [show ((f.natAbs : Nat) : Int) = -f by omega, Int.neg_mul_neg, Int.mul_comm], by rw [Int.natAbs_neg, Int.natAbs_neg]; exact F.co⟩
    have := red_ok r (by have := Int.mul_neg_of_pos_of_neg b0 z; omega) hs
    rwa [if_neg (by have := Int.mul_neg_of_pos_of_neg b0 z; omega), Int.neg_neg, Int.neg_neg] at this
  · have r : Rd (a * f) (b * f) f.natAbs a b := ⟨hg, by omega, by
      rw [show ((f.natAbs : Nat) : Int) = f by omega, Int.mul_comm], by
      rw [show ((f.natAbs : Nat) : Int) = f by omega, Int.mul_comm], F.co⟩
    exact red_pos r (Int.mul_pos b0 (by omega)) hs
structure FF (a b c d : Int) : Prop where
  m1 : MulOk a d
  m2 : MulOk b c
  m3 : MulOk b d
  m4 : MulOk a c
  m5 : MulOk c b
  pos : 0 < b * d
  sm : (b * d).natAbs < 2 ^ 200
  bd : (b * d).natAbs < 10 ^ 90
  n1 : (a * d + b * c).natAbs < 10 ^ 90
  n2 : (a * d - b * c).natAbs < 10 ^ 90
  n3 : (a * c).natAbs < 10 ^ 90
theorem ff_of {a b c d : Int} (F : Frac a b) (G : Frac c d) : FF a b c d := by
  have f1 := F.b0; have f2 := F.b1; have g1 := G.b0; have g2 := G.b1
  have f3 := F.a1; have g3 := G.a1
  have fb : b.natAbs ≤ 10 ^ 9 := by omega
  have gd : d.natAbs ≤ 10 ^ 9 := by omega
  have q1 : (a * d).natAbs ≤ 10 ^ 39 * 10 ^ 9 := by rw [Int.natAbs_mul]; exact Nat.mul_le_mul f3 gd
  have q2 : (b * c).natAbs ≤ 10 ^ 9 * 10 ^ 39 := by rw [Int.natAbs_mul]; exact Nat.mul_le_mul fb g3
  have q3 : (a * c).natAbs ≤ 10 ^ 39 * 10 ^ 39 := by rw [Int.natAbs_mul]; exact Nat.mul_le_mul f3 g3
  have q4 : (b * d).natAbs ≤ 10 ^ 9 * 10 ^ 9 := by rw [Int.natAbs_mul]; exact Nat.mul_le_mul fb gd
  have sb : b.natAbs < 2 ^ 64 := by omega
  have sd : d.natAbs < 2 ^ 64 := by omega
  have la : a.natAbs.log2 < 1000 := lg (k := 200) (Nat.lt_of_le_of_lt f3 (by decide)) (by decide) (by decide)
  have lc : c.natAbs.log2 < 1000 := lg (k := 200) (Nat.lt_of_le_of_lt g3 (by decide)) (by decide) (by decide)
  exact ⟨.inl (.inr sd), .inl (.inl sb), .inl (.inl sb), .inr (by omega), .inl (.inr sb), Int.mul_pos f1 g1, Nat.lt_of_le_of_lt q4 (by decide), Nat.lt_of_le_of_lt q4 (by decide), by omega, by omega, Nat.lt_of_le_of_lt q3 (by decide)⟩

theorem added_ok {a b c d p q : Int} {g : Nat} (K : FF a b c d) (r : Rd (a * d + b * c) (b * d) g p q) : ∃ e, sem_added [some (.fz (.tuple [.int a, .int b])), some (.fz (.tuple [.int c, .int d]))] = .ok (.fz (.tuple [.int p, .int q])) e := by
  obtain ⟨e, he⟩ := red_pos r K.pos K.sm
  refine sem_rt (fx := []) (k := 0) (m := m_added) (env := [some (.fz (.tuple [.int a, .int b])), some (.fz (.tuple [.int c, .int d]))]) (e := [some (.fz (.tuple [.int a, .int b])), some (.fz (.tuple [.int c, .int d]))]) ?_
  have A := ixT (env := [some (.fz (.tuple [.int a, .int b])), some (.fz (.tuple [.int c, .int d]))]) (i := 0) rfl
  have B := ixT (env := [some (.fz (.tuple [.int a, .int b])), some (.fz (.tuple [.int c, .int d]))]) (i := 1) rfl
  rw [Int.mul_comm b c] at he
  exact rt_ok (call_ok (two_ok (add_ok (mul_ok A.1 B.2 K.m1) (mul_ok B.1 A.2 K.m5)) (mul_ok A.2 B.2 K.m3)) he)
theorem lessened_ok {a b c d p q : Int} {g : Nat} (K : FF a b c d) (r : Rd (a * d - b * c) (b * d) g p q) : ∃ e, sem_lessened [some (.fz (.tuple [.int a, .int b])), some (.fz (.tuple [.int c, .int d]))] = .ok (.fz (.tuple [.int p, .int q])) e := by
  obtain ⟨e, he⟩ := red_pos r K.pos K.sm
  refine sem_rt (fx := []) (k := 0) (m := m_lessened) (env := [some (.fz (.tuple [.int a, .int b])), some (.fz (.tuple [.int c, .int d]))]) (e := [some (.fz (.tuple [.int a, .int b])), some (.fz (.tuple [.int c, .int d]))]) ?_
  have A := ixT (env := [some (.fz (.tuple [.int a, .int b])), some (.fz (.tuple [.int c, .int d]))]) (i := 0) rfl
  have B := ixT (env := [some (.fz (.tuple [.int a, .int b])), some (.fz (.tuple [.int c, .int d]))]) (i := 1) rfl
  rw [Int.mul_comm b c] at he
  exact rt_ok (call_ok (two_ok (sub_ok (mul_ok A.1 B.2 K.m1) (mul_ok B.1 A.2 K.m5)) (mul_ok A.2 B.2 K.m3)) he)
theorem times_ok {a b c d p q : Int} {g : Nat} (K : FF a b c d) (r : Rd (a * c) (b * d) g p q) : ∃ e, sem_times [some (.fz (.tuple [.int a, .int b])), some (.fz (.tuple [.int c, .int d]))] = .ok (.fz (.tuple [.int p, .int q])) e := by
  obtain ⟨e, he⟩ := red_pos r K.pos K.sm
  refine sem_rt (fx := []) (k := 0) (m := m_times) (env := [some (.fz (.tuple [.int a, .int b])), some (.fz (.tuple [.int c, .int d]))]) (e := [some (.fz (.tuple [.int a, .int b])), some (.fz (.tuple [.int c, .int d]))]) ?_
  have A := ixT (env := [some (.fz (.tuple [.int a, .int b])), some (.fz (.tuple [.int c, .int d]))]) (i := 0) rfl
  have B := ixT (env := [some (.fz (.tuple [.int a, .int b])), some (.fz (.tuple [.int c, .int d]))]) (i := 1) rfl
  exact rt_ok (call_ok (two_ok (mul_ok A.1 B.1 K.m4) (mul_ok A.2 B.2 K.m3)) he)

/-! ### one turn, all turns, the law -/
section
variable {env e1 : Env}
theorem seq_go {m n : M Fl} {r : Rs Fl} (h : m env = .ok .nx e1) (h2 : n e1 = r) : mSeq m n env = r := (seq_ok h).trans h2
theorem set_go {m : M T} {n : M Fl} {i : Nat} {t : T} {r : Rs Fl} (h : m env = .ok t e1) (h2 : n (e1.set i (some t)) = r) : mSeq (mSet i m) n env = r := (seq_ok (set_ok h)).trans h2
theorem callE {sem : Sem} {ms : M (List D)} {ds : List D} {d : D} {e : Env} (h : ms env = .ok ds e1) (hs : sem (ds.map fun d => some (.fz d)) = .ok (.fz d) e) : ((mCall sem ms).map T.er) env = .ok d e1 := map_ok (call_ok h hs)
theorem lstC {ms : M (List D)} {ds : List D} (h : ms env = .ok ds e1) (hl : ds.length ≤ 1000) : ((mL dLst ms).map T.er) env = .ok (.list ds) e1 := by rw [map_ok (mL_ok h (dLst_le hl)), er_fz]
theorem alikeC {mx my : M D} {d : D} {k : Nat} {A : M Fl} (h1 : mx env = .ok d env) (h2 : my env = .ok d env) (g : Gd d k) : mIfS (tNotM (((mCall sem__law_alike (mCons mx (mCons my mNil))).map T.er).bind tru)) A mNx env = .ok .nx env := by
  obtain ⟨e, he⟩ := alike_same g
  have h : (((mCall sem__law_alike (mCons mx (mCons my mNil))).map T.er).bind tru) env = .ok true env := tru_ok (id (callE (two_ok h1 h2) he))
  rw [if_f (e1 := env) (by unfold tNotM; first | exact map_ok h | (rw [M.bind_ok h]; rfl))]
  rfl
theorem fracC {t : T} (h0 : env[1]? = some (some t)) (B : IsBag t) : ∃ a b t', Frac a b ∧ IsBag t' ∧ ((((mHas 1).bind fun _ => mCallB sem__law_fraction 1 (mNil)).map T.er).map T.fz) env = .ok (.fz (.tuple [.int a, .int b])) (env.set 1 (some t')) := by
  obtain ⟨a, b, t', F, B', e, he⟩ := fraction_ok B
  exact ⟨a, b, t', F, B', map_ok (map_ok (callB_ok (ds := []) h0 rfl h0 he))⟩
end
theorem str_end (x : Str) : x ++ ("" : Str) = x := Str.ext' (by rw [Str.cps_append]; exact Array.append_empty)
theorem turn_ok {t : T} (B : IsBag t) (x0 x2 x3 x4 x5 x6 x7 x8 x9 x10 x11 x12 x13 x14 x15 x16 x17 x18 x19 : Option T) : ∃ env1 t1, IsBag t1 ∧ env1.length = 20 ∧ env1[1]? = some (some t1) ∧ mTurn [x0, some t, x2, x3, x4, x5, x6, x7, x8, x9, x10, x11, x12, x13, x14, x15, x16, x17, x18, x19] = .ok .nx env1 := by
  obtain ⟨a, b, t1, F, B1, h1⟩ := fracC (env := [x0, some t, x2, x3, x4, x5, x6, x7, x8, x9, x10, x11, x12, x13, x14, x15, x16, x17, x18, x19]) rfl B
  obtain ⟨c, d, t2, G, B2, h2⟩ := fracC (env := [x0, some t1, x2, x3, x4, x5, x6, x7, x8, x9, x10, x11, x12, x13, x14, x15, x16, x17, x18, x19]) rfl B1
  have K := ff_of F G
  have hl : (mL dLst (mCons (mC (.int 1)) (mCons (m1 dNeg (mC (.int 1))) (mCons (mC (.int 6)) (mCons (m1 dNeg (mC (.int 35))) (mNil)))))) [x0, some t2, x2, x3, x4, x5, x6, x7, some (.fz (.tuple [.int a, .int b])), some (.fz (.tuple [.int c, .int d])), some (.fz (.int a)), some (.fz (.int b)), some (.fz (.int c)), some (.fz (.int d)), x14, x15, x16, x17, x18, x19] = .ok (.ol (([.int 1, .int (-1), .int 6, .int (-35)] : List D).map T.fz)) [x0, some t2, x2, x3, x4, x5, x6, x7, some (.fz (.tuple [.int a, .int b])), some (.fz (.tuple [.int c, .int d])), some (.fz (.int a)), some (.fz (.int b)), some (.fz (.int c)), some (.fz (.int d)), x14, x15, x16, x17, x18, x19] := mL_ok (cons_ok c_ok (cons_ok rfl (cons_ok c_ok (cons_ok rfl rfl)))) (dLst_le (by simp))
  obtain ⟨u, t3, hu, B3, h3⟩ := someC (env := [x0, some t2, x2, x3, x4, x5, x6, x7, some (.fz (.tuple [.int a, .int b])), some (.fz (.tuple [.int c, .int d])), some (.fz (.int a)), some (.fz (.int b)), some (.fz (.int c)), some (.fz (.int d)), x14, x15, x16, x17, x18, x19]) (i := 1) (t0 := t2) rfl hl rfl B2 (by simp) (by simp)
  obtain ⟨f, rfl, f0, f1⟩ : ∃ f : Int, u = .int f ∧ f ≠ 0 ∧ f.natAbs ≤ 35 := by
    simp only [List.mem_cons, List.not_mem_nil, or_false] at hu
    rcases hu with z | z | z | z
    · exact ⟨_, z, by decide, by decide⟩
    · exact ⟨_, z, by decide, by decide⟩
    · exact ⟨_, z, by decide, by decide⟩
    · exact ⟨_, z, by decide, by decide⟩
  have fs : f.natAbs < 2 ^ 64 := by omega
  obtain ⟨g1, p1, q1, r1⟩ := rd_is (a * d + b * c) (b * d) (by have := K.pos; omega)
  obtain ⟨g2, p2, q2, r2⟩ := rd_is (a * d - b * c) (b * d) (by have := K.pos; omega)
  obtain ⟨g3, p3, q3, r3⟩ := rd_is (a * c) (b * d) (by have := K.pos; omega)
  obtain ⟨e11, l1⟩ := lred_ok r1 K.pos K.sm
  obtain ⟨e12, l2⟩ := lred_ok r2 K.pos K.sm
  obtain ⟨e13, l3⟩ := lred_ok r3 K.pos K.sm
  obtain ⟨e21, k1⟩ := added_ok K r1
  obtain ⟨e22, k2⟩ := lessened_ok K r2
  obtain ⟨e23, k3⟩ := times_ok K r3
  obtain ⟨e24, k4⟩ := red_mul F f0 (by
    have q : (b * f).natAbs ≤ 10 ^ 9 * 35 := by
      rw [Int.natAbs_mul]
      exact Nat.mul_le_mul (by have := F.b0; have := F.b1; omega) f1
    exact Nat.lt_of_le_of_lt q (by decide))
  obtain ⟨e25, k5⟩ := compared_ok K.m1 K.m5
  rw [Int.mul_comm c b] at k5
  obtain ⟨e26, k6⟩ := ftext_ok F
  have gd1 : Gd (.list [.tuple [.int a, .int b], .tuple [.int p1, .int q1], .tuple [.int p2, .int q2], .tuple [.int p3, .int q3]]) 0 := gd_four (by
    simp only [List.mem_cons, List.not_mem_nil, or_false, forall_eq_or_imp, forall_eq]
    exact ⟨F.a9, F.b9, Nat.lt_of_le_of_lt r1.le2.1 K.n1, Nat.lt_of_le_of_lt r1.le2.2 K.bd, Nat.lt_of_le_of_lt r2.le2.1 K.n2, Nat.lt_of_le_of_lt r2.le2.2 K.bd, Nat.lt_of_le_of_lt r3.le2.1 K.n3, Nat.lt_of_le_of_lt r3.le2.2 K.bd⟩)
  have gd2 : Gd (.list [.int (sg (a * d) (b * c)), .str (ftx a b)]) 0 := gd_text (sg_le _ _) (ftx_good F).1 (ftx_good F).2
  unfold mTurn
  refine ⟨?e, t3, B3, ?l, ?z, ?h⟩
  case h =>
    refine seq_go (par_ok h1 h2) ?_
    show mSeq _ _ [x0, some t2, x2, x3, x4, x5, x6, x7, some (.fz (.tuple [.int a, .int b])), some (.fz (.tuple [.int c, .int d])), x10, x11, x12, x13, x14, x15, x16, x17, x18, x19] = _
    rw [seq_ok (e1 := [x0, some t2, x2, x3, x4, x5, x6, x7, some (.fz (.tuple [.int a, .int b])), some (.fz (.tuple [.int c, .int d])), some (.fz (.int a)), some (.fz (.int b)), x12, x13, x14, x15, x16, x17, x18, x19]) (by
      unfold mAsg
      rw [M.bind_ok (map_ok (f_ok (env := [x0, some t2, x2, x3, x4, x5, x6, x7, some (.fz (.tuple [.int a, .int b])), some (.fz (.tuple [.int c, .int d])), x10, x11, x12, x13, x14, x15, x16, x17, x18, x19]) (i := 8) (d := .tuple [.int a, .int b]) rfl))]
      rfl)]
    rw [seq_ok (e1 := [x0, some t2, x2, x3, x4, x5, x6, x7, some (.fz (.tuple [.int a, .int b])), some (.fz (.tuple [.int c, .int d])), some (.fz (.int a)), some (.fz (.int b)), some (.fz (.int c)), some (.fz (.int d)), x14, x15, x16, x17, x18, x19]) (by
      unfold mAsg
      rw [M.bind_ok (map_ok (f_ok (env := [x0, some t2, x2, x3, x4, x5, x6, x7, some (.fz (.tuple [.int a, .int b])), some (.fz (.tuple [.int c, .int d])), some (.fz (.int a)), some (.fz (.int b)), x12, x13, x14, x15, x16, x17, x18, x19]) (i := 9) (d := .tuple [.int c, .int d]) rfl))]
      rfl)]
    refine set_go (map_ok h3) ?_
    show mSeq _ _ [x0, some t3, x2, x3, x4, x5, x6, x7, some (.fz (.tuple [.int a, .int b])), some (.fz (.tuple [.int c, .int d])), some (.fz (.int a)), some (.fz (.int b)), some (.fz (.int c)), some (.fz (.int d)), some (.fz (.int f)), x15, x16, x17, x18, x19] = _
    refine set_go (map_ok (lstC (ds := [.tuple [.int a, .int b], .tuple [.int p1, .int q1], .tuple [.int p2, .int q2], .tuple [.int p3, .int q3]]) (e1 := [x0, some t3, x2, x3, x4, x5, x6, x7, some (.fz (.tuple [.int a, .int b])), some (.fz (.tuple [.int c, .int d])), some (.fz (.int a)), some (.fz (.int b)), some (.fz (.int c)), some (.fz (.int d)), some (.fz (.int f)), x15, x16, x17, x18, x19]) (cons_ok (f_ok rfl) (cons_ok (id (callE (two_ok (add_ok (mul_ok (f_ok rfl) (f_ok rfl) K.m1) (mul_ok (f_ok rfl) (f_ok rfl) K.m2)) (mul_ok (f_ok rfl) (f_ok rfl) K.m3)) l1)) (cons_ok (id (callE (two_ok (sub_ok (mul_ok (f_ok rfl) (f_ok rfl) K.m1) (mul_ok (f_ok rfl) (f_ok rfl) K.m2)) (mul_ok (f_ok rfl) (f_ok rfl) K.m3)) l2)) (cons_ok (id (callE (two_ok (mul_ok (f_ok rfl) (f_ok rfl) K.m4) (mul_ok (f_ok rfl) (f_ok rfl) K.m3)) l3)) rfl)))) (by simp))) ?_
    show mSeq _ _ [x0, some t3, x2, x3, x4, x5, x6, x7, some (.fz (.tuple [.int a, .int b])), some (.fz (.tuple [.int c, .int d])), some (.fz (.int a)), some (.fz (.int b)), some (.fz (.int c)), some (.fz (.int d)), some (.fz (.int f)), some (.fz (.list [.tuple [.int a, .int b], .tuple [.int p1, .int q1], .tuple [.int p2, .int q2], .tuple [.int p3, .int q3]])), x16, x17, x18, x19] = _
    refine set_go (map_ok (lstC (ds := [.tuple [.int a, .int b], .tuple [.int p1, .int q1], .tuple [.int p2, .int q2], .tuple [.int p3, .int q3]]) (e1 := [x0, some t3, x2, x3, x4, x5, x6, x7, some (.fz (.tuple [.int a, .int b])), some (.fz (.tuple [.int c, .int d])), some (.fz (.int a)), some (.fz (.int b)), some (.fz (.int c)), some (.fz (.int d)), some (.fz (.int f)), some (.fz (.list [.tuple [.int a, .int b], .tuple [.int p1, .int q1], .tuple [.int p2, .int q2], .tuple [.int p3, .int q3]])), x16, x17, x18, x19]) (cons_ok (id (callE (two_ok (mul_ok (f_ok rfl) (f_ok rfl) (.inl (.inr fs))) (mul_ok (f_ok rfl) (f_ok rfl) (.inl (.inr fs)))) k4)) (cons_ok (id (callE (two_ok (f_ok rfl) (f_ok rfl)) k1)) (cons_ok (id (callE (two_ok (f_ok rfl) (f_ok rfl)) k2)) (cons_ok (id (callE (two_ok (f_ok rfl) (f_ok rfl)) k3)) rfl)))) (by simp))) ?_
    show mSeq _ _ [x0, some t3, x2, x3, x4, x5, x6, x7, some (.fz (.tuple [.int a, .int b])), some (.fz (.tuple [.int c, .int d])), some (.fz (.int a)), some (.fz (.int b)), some (.fz (.int c)), some (.fz (.int d)), some (.fz (.int f)), some (.fz (.list [.tuple [.int a, .int b], .tuple [.int p1, .int q1], .tuple [.int p2, .int q2], .tuple [.int p3, .int q3]])), some (.fz (.list [.tuple [.int a, .int b], .tuple [.int p1, .int q1], .tuple [.int p2, .int q2], .tuple [.int p3, .int q3]])), x17, x18, x19] = _
    refine seq_go (alikeC (d := .list [.tuple [.int a, .int b], .tuple [.int p1, .int q1], .tuple [.int p2, .int q2], .tuple [.int p3, .int q3]]) (f_ok rfl) (f_ok rfl) gd1) ?_
    refine set_go (map_ok (x := .int (sg (a * d) (b * c))) (e1 := [x0, some t3, x2, x3, x4, x5, x6, x7, some (.fz (.tuple [.int a, .int b])), some (.fz (.tuple [.int c, .int d])), some (.fz (.int a)), some (.fz (.int b)), some (.fz (.int c)), some (.fz (.int d)), some (.fz (.int f)), some (.fz (.list [.tuple [.int a, .int b], .tuple [.int p1, .int q1], .tuple [.int p2, .int q2], .tuple [.int p3, .int q3]])), some (.fz (.list [.tuple [.int a, .int b], .tuple [.int p1, .int q1], .tuple [.int p2, .int q2], .tuple [.int p3, .int q3]])), x17, x18, x19]) (sg_ok (mul_ok (f_ok rfl) (f_ok rfl) K.m1) (mul_ok (f_ok rfl) (f_ok rfl) K.m2) (mul_ok (f_ok rfl) (f_ok rfl) K.m1) (mul_ok (f_ok rfl) (f_ok rfl) K.m2))) ?_
    show mSeq _ _ [x0, some t3, x2, x3, x4, x5, x6, x7, some (.fz (.tuple [.int a, .int b])), some (.fz (.tuple [.int c, .int d])), some (.fz (.int a)), some (.fz (.int b)), some (.fz (.int c)), some (.fz (.int d)), some (.fz (.int f)), some (.fz (.list [.tuple [.int a, .int b], .tuple [.int p1, .int q1], .tuple [.int p2, .int q2], .tuple [.int p3, .int q3]])), some (.fz (.list [.tuple [.int a, .int b], .tuple [.int p1, .int q1], .tuple [.int p2, .int q2], .tuple [.int p3, .int q3]])), some (.fz (.int (sg (a * d) (b * c)))), x18, x19] = _
    have htx : (m2 dAdd (mL dStr (mCons (mVarF 10) (mNil))) (mIf ((m2 dNe (mVarF 11) (mC (.int 1))).bind tru) (m2 dAdd (mC (.str "/")) (mL dStr (mCons (mVarF 11) (mNil)))) (mC (.str "")))) [x0, some t3, x2, x3, x4, x5, x6, x7, some (.fz (.tuple [.int a, .int b])), some (.fz (.tuple [.int c, .int d])), some (.fz (.int a)), some (.fz (.int b)), some (.fz (.int c)), some (.fz (.int d)), some (.fz (.int f)), some (.fz (.list [.tuple [.int a, .int b], .tuple [.int p1, .int q1], .tuple [.int p2, .int q2], .tuple [.int p3, .int q3]])), some (.fz (.list [.tuple [.int a, .int b], .tuple [.int p1, .int q1], .tuple [.int p2, .int q2], .tuple [.int p3, .int q3]])), some (.fz (.int (sg (a * d) (b * c)))), x18, x19] = .ok (.str (ftx a b)) [x0, some t3, x2, x3, x4, x5, x6, x7, some (.fz (.tuple [.int a, .int b])), some (.fz (.tuple [.int c, .int d])), some (.fz (.int a)), some (.fz (.int b)), some (.fz (.int c)), some (.fz (.int d)), some (.fz (.int f)), some (.fz (.list [.tuple [.int a, .int b], .tuple [.int p1, .int q1], .tuple [.int p2, .int q2], .tuple [.int p3, .int q3]])), some (.fz (.list [.tuple [.int a, .int b], .tuple [.int p1, .int q1], .tuple [.int p2, .int q2], .tuple [.int p3, .int q3]])), some (.fz (.int (sg (a * d) (b * c)))), x18, x19] := by
      have l1 := F.sa
      have l2 := F.sb
      have e1 : ("/" : Str).length = 1 := by decide
      have e0 : ("" : Str).length = 0 := by decide
      unfold ftx
      by_cases z : b = 1
      · rw [if_pos z, show Str.ofString (toString a) = Str.ofString (toString a) ++ ("" : Str) from (str_end _).symm]
        refine cat_ok (str_ok (f_ok rfl) F.a9) ?_ (by omega)
        rw [mIf_f (tru_ok (k := false) (by rw [ne_ok (f_ok (i := 11) (d := .int b) rfl) c_ok, decide_eq_false (by omega)]))]
        rfl
      · rw [if_neg z, Str.append_assoc]
        refine cat_ok (str_ok (f_ok rfl) F.a9) ?_ (by rw [strLen_append]; omega)
        rw [mIf_t (tru_ok (k := true) (by rw [ne_ok (f_ok (i := 11) (d := .int b) rfl) c_ok, decide_eq_true z]))]
        exact cat_ok c_ok (str_ok (f_ok rfl) F.b9) (by omega)
    refine set_go (map_ok htx) ?_
    show mIfS _ _ _ [x0, some t3, x2, x3, x4, x5, x6, x7, some (.fz (.tuple [.int a, .int b])), some (.fz (.tuple [.int c, .int d])), some (.fz (.int a)), some (.fz (.int b)), some (.fz (.int c)), some (.fz (.int d)), some (.fz (.int f)), some (.fz (.list [.tuple [.int a, .int b], .tuple [.int p1, .int q1], .tuple [.int p2, .int q2], .tuple [.int p3, .int q3]])), some (.fz (.list [.tuple [.int a, .int b], .tuple [.int p1, .int q1], .tuple [.int p2, .int q2], .tuple [.int p3, .int q3]])), some (.fz (.int (sg (a * d) (b * c)))), some (.fz (.str (ftx a b))), x19] = _
    refine alikeC (env := [x0, some t3, x2, x3, x4, x5, x6, x7, some (.fz (.tuple [.int a, .int b])), some (.fz (.tuple [.int c, .int d])), some (.fz (.int a)), some (.fz (.int b)), some (.fz (.int c)), some (.fz (.int d)), some (.fz (.int f)), some (.fz (.list [.tuple [.int a, .int b], .tuple [.int p1, .int q1], .tuple [.int p2, .int q2], .tuple [.int p3, .int q3]])), some (.fz (.list [.tuple [.int a, .int b], .tuple [.int p1, .int q1], .tuple [.int p2, .int q2], .tuple [.int p3, .int q3]])), some (.fz (.int (sg (a * d) (b * c)))), some (.fz (.str (ftx a b))), x19]) (d := .list [.int (sg (a * d) (b * c)), .str (ftx a b)]) ?_ ?_ gd2
    · exact (lstC (two_ok (id (callE (two_ok (f_ok rfl) (f_ok rfl)) k5)) (id (callE (cons_ok (f_ok rfl) rfl) k6))) (by simp))
    · exact (lstC (two_ok (f_ok rfl) (f_ok rfl)) (by simp))
  case l => rfl
  case z => rfl
theorem sg_lt {x y : Int} (h : x < y) : sg x y = -1 := by
  have h' : ¬ y < x := by omega
  simp [sg, h, h']
theorem sg_gt {x y : Int} (h : y < x) : sg x y = 1 := by
  have h' : ¬ x < y := by omega
  simp [sg, h, h']
def PE (env : Env) : Prop := env.length = 20 ∧ ∃ t, IsBag t ∧ env[1]? = some (some t)
theorem for_ok : ∀ (ds : List D) (env : Env), PE env → ∃ env1, PE env1 ∧ mFor (gN 7) mTurn ds env = .ok .nx env1
  | [], env, p => ⟨env, p, rfl⟩
  | d :: ds, env, ⟨hl, t, B, h⟩ => by
    have step : ∃ env1 t1, IsBag t1 ∧ env1.length = 20 ∧ env1[1]? = some (some t1) ∧ mTurn (env.set 7 (some (.fz d))) = .ok .nx env1 := by
      match env, hl, h with
      | [x0, x1, x2, x3, x4, x5, x6, x7, x8, x9, x10, x11, x12, x13, x14, x15, x16, x17, x18, x19], _, h =>
        cases h
        exact turn_ok B x0 x2 x3 x4 x5 x6 (some (.fz d)) x8 x9 x10 x11 x12 x13 x14 x15 x16 x17 x18 x19
    obtain ⟨env1, t1, B1, l1, h1, ht⟩ := step
    obtain ⟨env2, p2, h2⟩ := for_ok ds env1 ⟨l1, t1, B1, h1⟩
    refine ⟨env2, p2, ?_⟩
    unfold mFor
    simp only [gN, ht, h2]
theorem law_ev : ∀ ns : List Int, ns.length ≤ 63 → ∃ e, sem_law [some (.fz (.list (ns.map PyData.int)))] = .ok (.fz (.bool true)) e := by
  intro ns hn
  obtain ⟨eb, hb⟩ := bag_ok ns hn
  have B0 := bag_is ns hn
  generalize bagT 0 1234567891 0 (ns.map fun i => (i.natAbs : Int)) = t0 at hb B0
  obtain ⟨t1, B1, h1⟩ := lots_ok (env := [some (.fz (.list (ns.map PyData.int))), some t0, none, none, none, none, none, none, none, none, none, none, none, none, none, none, none, none, none, none]) rfl rfl B0
  obtain ⟨n, t2, B2, n0, n1, h2⟩ := takeC (env := [some (.fz (.list (ns.map PyData.int))), some t1, none, none, none, none, none, none, none, none, none, none, none, none, none, none, none, none, none, none]) (i := 1) rfl B1 (mk := mC (.int 999)) rfl (by decide) (by decide)
  obtain ⟨g, hg, g0, g1⟩ : ∃ g : Int, g = 10 ^ 11 + n ∧ 0 < g ∧ g.natAbs + 1 < 2 ^ 64 := ⟨_, rfl, by omega, by omega⟩
  have near := compared_ok (a := g + 1) (b := g) (c := g) (d := g - 1) (.inl (.inl (by omega))) (.inl (.inl (by omega)))
  have far := compared_ok (a := g) (b := g - 1) (c := g + 1) (d := g) (.inl (.inl (by omega))) (.inl (.inl (by omega)))
  have same := compared_ok (a := g + 1) (b := g) (c := g + 1) (d := g) (.inl (.inl (by omega))) (.inl (.inl (by omega)))
  have q : (g + 1) * (g - 1) = g * g - 1 := by
    rw [Int.add_mul, Int.one_mul, Int.mul_sub, Int.mul_one]
    omega
  have s1 : sg ((g + 1) * (g - 1)) (g * g) = -1 := sg_lt (by omega)
  have s2 : sg (g * g) ((g + 1) * (g - 1)) = 1 := sg_gt (by omega)
  have s3 : sg ((g + 1) * g) ((g + 1) * g) = 0 := by simp [sg]
  rw [s1] at near
  rw [s2] at far
  rw [s3] at same
  obtain ⟨e1, near⟩ := near
  obtain ⟨e2, far⟩ := far
  obtain ⟨e3, same⟩ := same
  have gd : Gd (.list [.int (-1), .int 1, .int 0]) 0 := gd_of (by decide +kernel)
  obtain ⟨ef, ⟨_, _⟩, hf⟩ := for_ok (intsR 0 8) [some (.fz (.list (ns.map PyData.int))), some t2, none, none, some (.fz (.int g)), some (.fz (.tuple [.int (g + 1), .int g])), some (.fz (.tuple [.int g, .int (g - 1)])), none, none, none, none, none, none, none, none, none, none, none, none, none] ⟨rfl, t2, B2, rfl⟩
  refine sem_rt (fx := []) (k := 19) (m := m_law) (env := [some (.fz (.list (ns.map PyData.int)))]) (e := ef) ?_
  rw [law_eq]
  show mSeq _ _ [some (.fz (.list (ns.map PyData.int))), none, none, none, none, none, none, none, none, none, none, none, none, none, none, none, none, none, none, none] = _
  refine set_go (call_ok (cons_ok (f_ok (d := .list (ns.map PyData.int)) rfl) rfl) hb) ?_
  show mSeq _ _ [some (.fz (.list (ns.map PyData.int))), some t0, none, none, none, none, none, none, none, none, none, none, none, none, none, none, none, none, none, none] = _
  rw [seq_ok h1]
  show mSeq _ _ [some (.fz (.list (ns.map PyData.int))), some t1, none, none, none, none, none, none, none, none, none, none, none, none, none, none, none, none, none, none] = _
  refine set_go (map_ok (x := .int g) (by rw [hg]; exact add_ok (pow_ok (by decide) (by decide) (by decide)) h2)) ?_
  show mSeq _ _ [some (.fz (.list (ns.map PyData.int))), some t2, none, none, some (.fz (.int g)), none, none, none, none, none, none, none, none, none, none, none, none, none, none, none] = _
  refine seq_go (par_ok (map_ok (tup2_ok (add_ok (f_ok (i := 4) (d := .int g) rfl) c_ok) (f_ok (i := 4) (d := .int g) rfl))) (map_ok (tup2_ok (f_ok (i := 4) (d := .int g) rfl) (sub_ok (f_ok (i := 4) (d := .int g) rfl) c_ok)))) ?_
  show mSeq _ _ [some (.fz (.list (ns.map PyData.int))), some t2, none, none, some (.fz (.int g)), some (.fz (.tuple [.int (g + 1), .int g])), some (.fz (.tuple [.int g, .int (g - 1)])), none, none, none, none, none, none, none, none, none, none, none, none, none] = _
  refine seq_go (alikeC (d := .list [.int (-1), .int 1, .int 0]) (lstC (cons_ok (id (callE (two_ok (f_ok rfl) (f_ok rfl)) near)) (cons_ok (id (callE (two_ok (f_ok rfl) (f_ok rfl)) far)) (cons_ok (id (callE (two_ok (f_ok rfl) (f_ok rfl)) same)) rfl))) (by simp)) (lstC (cons_ok rfl (cons_ok c_ok (cons_ok c_ok rfl))) (by simp)) gd) ?_
  refine seq_go (e1 := ef) (by rw [M.bind_ok (show (mIL dRng1 (mCons (mC (.int 8)) (mNil))) [some (.fz (.list (ns.map PyData.int))), some t2, none, none, some (.fz (.int g)), some (.fz (.tuple [.int (g + 1), .int g])), some (.fz (.tuple [.int g, .int (g - 1)])), none, none, none, none, none, none, none, none, none, none, none, none, none] = .ok (intsR 0 8) [some (.fz (.list (ns.map PyData.int))), some t2, none, none, some (.fz (.int g)), some (.fz (.tuple [.int (g + 1), .int g])), some (.fz (.tuple [.int g, .int (g - 1)])), none, none, none, none, none, none, none, none, none, none, none, none, none] from by unfold mIL; rfl)]; exact hf) ?_
  exact rt_ok rfl

/-! ### what the top has written -/
def cAt (cs : List Addr) (i : Nat) : Addr := cs.getD i 0
def flds7 : List Str := ["place", "place", "ring", "most", "name", "line", "step"]
open PySem.W in
structure ClsOk (K : Frg) (c B : Addr) : Prop where
  a1 : findIn K (.ref c) "__getattribute__" = some (some (.builtin "BaseException.__getattribute__"))
  a2 : findIn K (.ref c) "__getattr__" = some none
  a3 : subIn K (.ref c) (.type "BaseException") = some true
  a4 : hasDictIn K c = true
  a5 : findIn K (.ref c) "__class__" = some (some (.builtin "object.__class__"))
  a6 : mroIn K c (.type "object") = some true
  a7 : kitOne K (.ref c) (.ref B) = some true
  a8 : kitOne K (.ref c) (.type "ValueError") = some true
  a9 : findIn K (.ref c) "__setattr__" = some (some (.builtin "object.__setattr__"))
  a10 : typeIn K (.ref c) = some (.type "type")
  a11 : keepIn K (.ref c) = true
open PySem.W in
structure KitRow (K : Frg) (c c0 c1 c2 c3 c4 c5 c6 c7 : Addr) (i : Nat) : Prop where
  r0 : kitOne K (.ref c) (.ref c0) = some (decide (i = 0))
  r1 : kitOne K (.ref c) (.ref c1) = some (decide (i = 1))
  r2 : kitOne K (.ref c) (.ref c2) = some (decide (i = 2))
  r3 : kitOne K (.ref c) (.ref c3) = some (decide (i = 3))
  r4 : kitOne K (.ref c) (.ref c4) = some (decide (i = 4))
  r5 : kitOne K (.ref c) (.ref c5) = some (decide (i = 5))
  r6 : kitOne K (.ref c) (.ref c6) = some (decide (i = 6))
  r7 : kitOne K (.ref c) (.ref c7) = some (decide (i = 7))
theorem KitRow.at {K : Frg} {c c0 c1 c2 c3 c4 c5 c6 c7 : Addr} {i : Nat} (h : KitRow K c c0 c1 c2 c3 c4 c5 c6 c7 i) : ∀ j, j < 8 → PySem.W.kitOne K (.ref c) (.ref (cAt [c0, c1, c2, c3, c4, c5, c6, c7] j)) = some (decide (i = j))
  | 0, _ => h.r0
  | 1, _ => h.r1
  | 2, _ => h.r2
  | 3, _ => h.r3
  | 4, _ => h.r4
  | 5, _ => h.r5
  | 6, _ => h.r6
  | 7, _ => h.r7
  | n + 8, h => absurd h (by omega)
theorem byEight {p : Nat → Prop} (h0 : p 0) (h1 : p 1) (h2 : p 2) (h3 : p 3) (h4 : p 4) (h5 : p 5) (h6 : p 6) (h7 : p 7) : ∀ i, i < 8 → p i
  | 0, _ => h0
  | 1, _ => h1
  | 2, _ => h2
  | 3, _ => h3
  | 4, _ => h4
  | 5, _ => h5
  | 6, _ => h6
  | 7, _ => h7
  | n + 8, h => absurd h (by omega)
open PySem.W in
theorem fun_mkD {K : Frg} {x qual : Str} {st : Stmt} {f T : Addr} {oc kV doc pm cdv ct : Value} {od an : Option Addr} {osl : Array (Option Value)} {to : Obj} {tn : Nat} (l : K.lookup f = some ⟨oc, od, .func (fnOf x qual (defArgs st) (defBody st) (defScope st) (.ref T) kV doc pm an cdv ct), osl⟩) (c : codeIn K cdv qual = true) (k : keepIn K (.ref f) = true)
    (lT : K.lookup T = some to) (oT : to.data = .seq #[.none] tn) : FunD K x qual (defArgs st) (defBody st) (defScope st) [.non] [] f (fnOf x qual (defArgs st) (defBody st) (defScope st) (.ref T) kV doc pm an cdv ct) :=
  ⟨⟨oc, od, .ref T, kV, doc, pm, an, cdv, ct, osl, rfl, l, c, .inr ⟨by simp, T, to, [.none], tn, rfl, lT, oT, .cons rfl .nil⟩, .inl rfl⟩, k⟩

theorem all_mk {l : PySem.W.OpenLaw} {w : World} {K : Frg} {h : Heap} {mg : Str → Option Value} {fa : Addr} (X : K.In h) (G : h.Ns mainGlobals mg) (hfa : mg "law" = some (.ref fa))
    {f0 : Addr} {od0 an0 : Option Addr} {sl0 : Array (Option Value)} {oc0 kV0 dc0 pm0 cd0 ct0 : Value}
    {f1 : Addr} {od1 an1 : Option Addr} {sl1 : Array (Option Value)} {oc1 kV1 dc1 pm1 cd1 ct1 : Value}
    {f2 : Addr} {od2 an2 : Option Addr} {sl2 : Array (Option Value)} {oc2 kV2 dc2 pm2 cd2 ct2 : Value}
    {f3 : Addr} {od3 an3 : Option Addr} {sl3 : Array (Option Value)} {oc3 kV3 dc3 pm3 cd3 ct3 : Value}
    {f4 : Addr} {od4 an4 : Option Addr} {sl4 : Array (Option Value)} {oc4 kV4 dc4 pm4 cd4 ct4 : Value}
    {f5 : Addr} {od5 an5 : Option Addr} {sl5 : Array (Option Value)} {oc5 kV5 dc5 pm5 cd5 ct5 : Value}
    {f6 : Addr} {od6 an6 : Option Addr} {sl6 : Array (Option Value)} {oc6 kV6 dc6 pm6 cd6 ct6 : Value}
    {f7 : Addr} {od7 an7 : Option Addr} {sl7 : Array (Option Value)} {oc7 kV7 dc7 pm7 cd7 ct7 : Value}
    {f8 : Addr} {od8 an8 : Option Addr} {sl8 : Array (Option Value)} {oc8 kV8 dc8 pm8 cd8 ct8 : Value}
    {f9 : Addr} {od9 an9 : Option Addr} {sl9 : Array (Option Value)} {oc9 kV9 dc9 pm9 cd9 ct9 : Value}
    {f10 : Addr} {od10 an10 : Option Addr} {sl10 : Array (Option Value)} {oc10 kV10 dc10 pm10 cd10 ct10 : Value}
    {f11 : Addr} {od11 an11 : Option Addr} {sl11 : Array (Option Value)} {oc11 kV11 dc11 pm11 cd11 ct11 : Value}
    {f12 : Addr} {od12 an12 : Option Addr} {sl12 : Array (Option Value)} {oc12 kV12 dc12 pm12 cd12 ct12 : Value}
    {f13 : Addr} {od13 an13 : Option Addr} {sl13 : Array (Option Value)} {oc13 kV13 dc13 pm13 cd13 ct13 : Value}
    {f14 : Addr} {od14 an14 : Option Addr} {sl14 : Array (Option Value)} {oc14 kV14 dc14 pm14 cd14 ct14 : Value}
    {f15 : Addr} {od15 an15 : Option Addr} {sl15 : Array (Option Value)} {oc15 kV15 dc15 pm15 cd15 ct15 : Value}
    {f16 : Addr} {od16 an16 : Option Addr} {sl16 : Array (Option Value)} {oc16 kV16 dc16 pm16 cd16 ct16 : Value}
    {f17 : Addr} {od17 an17 : Option Addr} {sl17 : Array (Option Value)} {oc17 kV17 dc17 pm17 cd17 ct17 : Value}
    {f18 : Addr} {od18 an18 : Option Addr} {sl18 : Array (Option Value)} {oc18 kV18 dc18 pm18 cd18 ct18 : Value}
    {C0 C1 C2 C3 C4 C5 C6 C7 CB : Addr}
    {nm0 : _} {qn0 : _} {N0 : _} {bs0 : _} {bm0 : List Value} {sn0 : _} {sub0 : _} {ab0 : _} {col0 : _} {dd0 : _} {x0_0 : _} {x1_0 : _} {x2_0 : _} {x3_0 : _} {x5_0 : _}
    {g0 T0 : Addr} {god0 gan0 : Option Addr} {gsl0 : Array (Option Value)} {goc0 gkV0 gdc0 gpm0 gcd0 gct0 : Value} {to0 : Obj} {tn0 : Nat}
    {nm1 : _} {qn1 : _} {N1 : _} {bs1 : _} {bm1 : List Value} {sn1 : _} {sub1 : _} {ab1 : _} {col1 : _} {dd1 : _} {x0_1 : _} {x1_1 : _} {x2_1 : _} {x3_1 : _} {x5_1 : _}
    {g1 T1 : Addr} {god1 gan1 : Option Addr} {gsl1 : Array (Option Value)} {goc1 gkV1 gdc1 gpm1 gcd1 gct1 : Value} {to1 : Obj} {tn1 : Nat}
    {nm2 : _} {qn2 : _} {N2 : _} {bs2 : _} {bm2 : List Value} {sn2 : _} {sub2 : _} {ab2 : _} {col2 : _} {dd2 : _} {x0_2 : _} {x1_2 : _} {x2_2 : _} {x3_2 : _} {x5_2 : _}
    {g2 T2 : Addr} {god2 gan2 : Option Addr} {gsl2 : Array (Option Value)} {goc2 gkV2 gdc2 gpm2 gcd2 gct2 : Value} {to2 : Obj} {tn2 : Nat}
    {nm3 : _} {qn3 : _} {N3 : _} {bs3 : _} {bm3 : List Value} {sn3 : _} {sub3 : _} {ab3 : _} {col3 : _} {dd3 : _} {x0_3 : _} {x1_3 : _} {x2_3 : _} {x3_3 : _} {x5_3 : _}
    {g3 T3 : Addr} {god3 gan3 : Option Addr} {gsl3 : Array (Option Value)} {goc3 gkV3 gdc3 gpm3 gcd3 gct3 : Value} {to3 : Obj} {tn3 : Nat}
    {nm4 : _} {qn4 : _} {N4 : _} {bs4 : _} {bm4 : List Value} {sn4 : _} {sub4 : _} {ab4 : _} {col4 : _} {dd4 : _} {x0_4 : _} {x1_4 : _} {x2_4 : _} {x3_4 : _} {x5_4 : _}
    {g4 T4 : Addr} {god4 gan4 : Option Addr} {gsl4 : Array (Option Value)} {goc4 gkV4 gdc4 gpm4 gcd4 gct4 : Value} {to4 : Obj} {tn4 : Nat}
    {nm5 : _} {qn5 : _} {N5 : _} {bs5 : _} {bm5 : List Value} {sn5 : _} {sub5 : _} {ab5 : _} {col5 : _} {dd5 : _} {x0_5 : _} {x1_5 : _} {x2_5 : _} {x3_5 : _} {x5_5 : _}
    {g5 T5 : Addr} {god5 gan5 : Option Addr} {gsl5 : Array (Option Value)} {goc5 gkV5 gdc5 gpm5 gcd5 gct5 : Value} {to5 : Obj} {tn5 : Nat}
    {nm6 : _} {qn6 : _} {N6 : _} {bs6 : _} {bm6 : List Value} {sn6 : _} {sub6 : _} {ab6 : _} {col6 : _} {dd6 : _} {x0_6 : _} {x1_6 : _} {x2_6 : _} {x3_6 : _} {x5_6 : _}
    {g6 T6 : Addr} {god6 gan6 : Option Addr} {gsl6 : Array (Option Value)} {goc6 gkV6 gdc6 gpm6 gcd6 gct6 : Value} {to6 : Obj} {tn6 : Nat}
    (a0 : PySem.W.nsIn K mainGlobals "reduced" = some (some (.ref f0)))
    (l0 : K.lookup f0 = some ⟨oc0, od0, .func (PySem.W.fnOf "reduced" "reduced" (defArgs s_reduced) (defBody s_reduced) (defScope s_reduced) .none kV0 dc0 pm0 an0 cd0 ct0), sl0⟩)
    (c0 : PySem.W.codeIn K cd0 "reduced" = true)
    (k0 : PySem.W.keepIn K (.ref f0) = true)
    (a1 : PySem.W.nsIn K mainGlobals "added" = some (some (.ref f1)))
    (l1 : K.lookup f1 = some ⟨oc1, od1, .func (PySem.W.fnOf "added" "added" (defArgs s_added) (defBody s_added) (defScope s_added) .none kV1 dc1 pm1 an1 cd1 ct1), sl1⟩)
    (c1 : PySem.W.codeIn K cd1 "added" = true)
    (k1 : PySem.W.keepIn K (.ref f1) = true)
    (a2 : PySem.W.nsIn K mainGlobals "lessened" = some (some (.ref f2)))
    (l2 : K.lookup f2 = some ⟨oc2, od2, .func (PySem.W.fnOf "lessened" "lessened" (defArgs s_lessened) (defBody s_lessened) (defScope s_lessened) .none kV2 dc2 pm2 an2 cd2 ct2), sl2⟩)
    (c2 : PySem.W.codeIn K cd2 "lessened" = true)
    (k2 : PySem.W.keepIn K (.ref f2) = true)
    (a3 : PySem.W.nsIn K mainGlobals "times" = some (some (.ref f3)))
    (l3 : K.lookup f3 = some ⟨oc3, od3, .func (PySem.W.fnOf "times" "times" (defArgs s_times) (defBody s_times) (defScope s_times) .none kV3 dc3 pm3 an3 cd3 ct3), sl3⟩)
    (c3 : PySem.W.codeIn K cd3 "times" = true)
    (k3 : PySem.W.keepIn K (.ref f3) = true)
    (a4 : PySem.W.nsIn K mainGlobals "compared" = some (some (.ref f4)))
    (l4 : K.lookup f4 = some ⟨oc4, od4, .func (PySem.W.fnOf "compared" "compared" (defArgs s_compared) (defBody s_compared) (defScope s_compared) .none kV4 dc4 pm4 an4 cd4 ct4), sl4⟩)
    (c4 : PySem.W.codeIn K cd4 "compared" = true)
    (k4 : PySem.W.keepIn K (.ref f4) = true)
    (a5 : PySem.W.nsIn K mainGlobals "fraction_text" = some (some (.ref f5)))
    (l5 : K.lookup f5 = some ⟨oc5, od5, .func (PySem.W.fnOf "fraction_text" "fraction_text" (defArgs s_fraction_text) (defBody s_fraction_text) (defScope s_fraction_text) .none kV5 dc5 pm5 an5 cd5 ct5), sl5⟩)
    (c5 : PySem.W.codeIn K cd5 "fraction_text" = true)
    (k5 : PySem.W.keepIn K (.ref f5) = true)
    (a6 : PySem.W.nsIn K mainGlobals "_law_bag" = some (some (.ref f6)))
    (l6 : K.lookup f6 = some ⟨oc6, od6, .func (PySem.W.fnOf "_law_bag" "_law_bag" (defArgs s__law_bag) (defBody s__law_bag) (defScope s__law_bag) .none kV6 dc6 pm6 an6 cd6 ct6), sl6⟩)
    (c6 : PySem.W.codeIn K cd6 "_law_bag" = true)
    (k6 : PySem.W.keepIn K (.ref f6) = true)
    (a7 : PySem.W.nsIn K mainGlobals "_law_take" = some (some (.ref f7)))
    (l7 : K.lookup f7 = some ⟨oc7, od7, .func (PySem.W.fnOf "_law_take" "_law_take" (defArgs s__law_take) (defBody s__law_take) (defScope s__law_take) .none kV7 dc7 pm7 an7 cd7 ct7), sl7⟩)
    (c7 : PySem.W.codeIn K cd7 "_law_take" = true)
    (k7 : PySem.W.keepIn K (.ref f7) = true)
    (a8 : PySem.W.nsIn K mainGlobals "_law_some" = some (some (.ref f8)))
    (l8 : K.lookup f8 = some ⟨oc8, od8, .func (PySem.W.fnOf "_law_some" "_law_some" (defArgs s__law_some) (defBody s__law_some) (defScope s__law_some) .none kV8 dc8 pm8 an8 cd8 ct8), sl8⟩)
    (c8 : PySem.W.codeIn K cd8 "_law_some" = true)
    (k8 : PySem.W.keepIn K (.ref f8) = true)
    (a9 : PySem.W.nsIn K mainGlobals "_law_alike" = some (some (.ref f9)))
    (l9 : K.lookup f9 = some ⟨oc9, od9, .func (PySem.W.fnOf "_law_alike" "_law_alike" (defArgs s__law_alike) (defBody s__law_alike) (defScope s__law_alike) .none kV9 dc9 pm9 an9 cd9 ct9), sl9⟩)
    (c9 : PySem.W.codeIn K cd9 "_law_alike" = true)
    (k9 : PySem.W.keepIn K (.ref f9) = true)
    (a10 : PySem.W.nsIn K mainGlobals "_law_odd" = some (some (.ref f10)))
    (l10 : K.lookup f10 = some ⟨oc10, od10, .func (PySem.W.fnOf "_law_odd" "_law_odd" (defArgs s__law_oddO) (defBody s__law_oddO) (defScope s__law_oddO) .none kV10 dc10 pm10 an10 cd10 ct10), sl10⟩)
    (c10 : PySem.W.codeIn K cd10 "_law_odd" = true)
    (k10 : PySem.W.keepIn K (.ref f10) = true)
    (a11 : PySem.W.nsIn K mainGlobals "_law_common_of" = some (some (.ref f11)))
    (l11 : K.lookup f11 = some ⟨oc11, od11, .func (PySem.W.fnOf "_law_common_of" "_law_common_of" (defArgs s__law_common_of) (defBody s__law_common_of) (defScope s__law_common_of) .none kV11 dc11 pm11 an11 cd11 ct11), sl11⟩)
    (c11 : PySem.W.codeIn K cd11 "_law_common_of" = true)
    (k11 : PySem.W.keepIn K (.ref f11) = true)
    (a12 : PySem.W.nsIn K mainGlobals "_law_reduced" = some (some (.ref f12)))
    (l12 : K.lookup f12 = some ⟨oc12, od12, .func (PySem.W.fnOf "_law_reduced" "_law_reduced" (defArgs s__law_reduced) (defBody s__law_reduced) (defScope s__law_reduced) .none kV12 dc12 pm12 an12 cd12 ct12), sl12⟩)
    (c12 : PySem.W.codeIn K cd12 "_law_reduced" = true)
    (k12 : PySem.W.keepIn K (.ref f12) = true)
    (a13 : PySem.W.nsIn K mainGlobals "_law_integer" = some (some (.ref f13)))
    (l13 : K.lookup f13 = some ⟨oc13, od13, .func (PySem.W.fnOf "_law_integer" "_law_integer" (defArgs s__law_integer) (defBody s__law_integer) (defScope s__law_integer) .none kV13 dc13 pm13 an13 cd13 ct13), sl13⟩)
    (c13 : PySem.W.codeIn K cd13 "_law_integer" = true)
    (k13 : PySem.W.keepIn K (.ref f13) = true)
    (a14 : PySem.W.nsIn K mainGlobals "_law_fraction" = some (some (.ref f14)))
    (l14 : K.lookup f14 = some ⟨oc14, od14, .func (PySem.W.fnOf "_law_fraction" "_law_fraction" (defArgs s__law_fraction) (defBody s__law_fraction) (defScope s__law_fraction) .none kV14 dc14 pm14 an14 cd14 ct14), sl14⟩)
    (c14 : PySem.W.codeIn K cd14 "_law_fraction" = true)
    (k14 : PySem.W.keepIn K (.ref f14) = true)
    (a15 : PySem.W.nsIn K mainGlobals "_law_errors" = some (some (.ref f15)))
    (l15 : K.lookup f15 = some ⟨oc15, od15, .func (PySem.W.fnOf "_law_errors" "_law_errors" (defArgs s_errs) (defBody s_errs) (defScope s_errs) .none kV15 dc15 pm15 an15 cd15 ct15), sl15⟩)
    (c15 : PySem.W.codeIn K cd15 "_law_errors" = true)
    (k15 : PySem.W.keepIn K (.ref f15) = true)
    (a16 : PySem.W.nsIn K mainGlobals "_law_kinds" = some (some (.ref f16)))
    (l16 : K.lookup f16 = some ⟨oc16, od16, .func (PySem.W.fnOf "_law_kinds" "_law_kinds" (defArgs s_kinds) (defBody s_kinds) (defScope s_kinds) .none kV16 dc16 pm16 an16 cd16 ct16), sl16⟩)
    (c16 : PySem.W.codeIn K cd16 "_law_kinds" = true)
    (k16 : PySem.W.keepIn K (.ref f16) = true)
    (a17 : PySem.W.nsIn K mainGlobals "_law_is_error_right" = some (some (.ref f17)))
    (l17 : K.lookup f17 = some ⟨oc17, od17, .func (PySem.W.fnOf "_law_is_error_right" "_law_is_error_right" (defArgs s_right) (defBody s_right) (defScope s_right) .none kV17 dc17 pm17 an17 cd17 ct17), sl17⟩)
    (c17 : PySem.W.codeIn K cd17 "_law_is_error_right" = true)
    (k17 : PySem.W.keepIn K (.ref f17) = true)
    (a18 : PySem.W.nsIn K mainGlobals "law" = some (some (.ref f18)))
    (l18 : K.lookup f18 = some ⟨oc18, od18, .func (PySem.W.fnOf "law" "law" (defArgs s_law) (defBody s_law) (defScope s_law) .none kV18 dc18 pm18 an18 cd18 ct18), sl18⟩)
    (c18 : PySem.W.codeIn K cd18 "law" = true)
    (k18 : PySem.W.keepIn K (.ref f18) = true)
    (aC0 : PySem.W.nsIn K mainGlobals "Wrong" = some (some (.ref C0)))
    (aC1 : PySem.W.nsIn K mainGlobals "NoText" = some (some (.ref C1)))
    (aC2 : PySem.W.nsIn K mainGlobals "Dead" = some (some (.ref C2)))
    (aC3 : PySem.W.nsIn K mainGlobals "TooMany" = some (some (.ref C3)))
    (aC4 : PySem.W.nsIn K mainGlobals "NoTask" = some (some (.ref C4)))
    (aC5 : PySem.W.nsIn K mainGlobals "NoCommand" = some (some (.ref C5)))
    (aC6 : PySem.W.nsIn K mainGlobals "Unlike" = some (some (.ref C6)))
    (aC7 : PySem.W.nsIn K mainGlobals "Nothing" = some (some (.ref C7)))
    (aCB : PySem.W.nsIn K mainGlobals "LoopError" = some (some (.ref CB)))
    (oC0 : K.lookup C0 = some (excClassObj nm0 qn0 C0 N0 bs0 bm0 true sn0 sub0 ab0 col0 dd0 x0_0 x1_0 x2_0 x3_0 x5_0 "ValueError.__new__"))
    (bC0 : PySem.HandSPX.refsVE bm0 = true)
    (fI0 : PySem.W.findIn K (.ref C0) "__init__" = some (some (.ref g0)))
    (tI0 : PySem.W.typeIn K (.ref g0) = some (.type "function"))
    (lI0 : K.lookup g0 = some ⟨goc0, god0, .func (PySem.W.fnOf "__init__" "Wrong.__init__" (defArgs si_Wrong) (defBody si_Wrong) (defScope si_Wrong) (.ref T0) gkV0 gdc0 gpm0 gan0 gcd0 gct0), gsl0⟩)
    (cI0 : PySem.W.codeIn K gcd0 "Wrong.__init__" = true)
    (kI0 : PySem.W.keepIn K (.ref g0) = true)
    (dT0 : K.lookup T0 = some to0)
    (oT0 : to0.data = .seq #[.none] tn0)
    (oC1 : K.lookup C1 = some (excClassObj nm1 qn1 C1 N1 bs1 bm1 true sn1 sub1 ab1 col1 dd1 x0_1 x1_1 x2_1 x3_1 x5_1 "ValueError.__new__"))
    (bC1 : PySem.HandSPX.refsVE bm1 = true)
    (fI1 : PySem.W.findIn K (.ref C1) "__init__" = some (some (.ref g1)))
    (tI1 : PySem.W.typeIn K (.ref g1) = some (.type "function"))
    (lI1 : K.lookup g1 = some ⟨goc1, god1, .func (PySem.W.fnOf "__init__" "NoText.__init__" (defArgs si_NoText) (defBody si_NoText) (defScope si_NoText) (.ref T1) gkV1 gdc1 gpm1 gan1 gcd1 gct1), gsl1⟩)
    (cI1 : PySem.W.codeIn K gcd1 "NoText.__init__" = true)
    (kI1 : PySem.W.keepIn K (.ref g1) = true)
    (dT1 : K.lookup T1 = some to1)
    (oT1 : to1.data = .seq #[.none] tn1)
    (oC2 : K.lookup C2 = some (excClassObj nm2 qn2 C2 N2 bs2 bm2 true sn2 sub2 ab2 col2 dd2 x0_2 x1_2 x2_2 x3_2 x5_2 "ValueError.__new__"))
    (bC2 : PySem.HandSPX.refsVE bm2 = true)
    (fI2 : PySem.W.findIn K (.ref C2) "__init__" = some (some (.ref g2)))
    (tI2 : PySem.W.typeIn K (.ref g2) = some (.type "function"))
    (lI2 : K.lookup g2 = some ⟨goc2, god2, .func (PySem.W.fnOf "__init__" "Dead.__init__" (defArgs si_Dead) (defBody si_Dead) (defScope si_Dead) (.ref T2) gkV2 gdc2 gpm2 gan2 gcd2 gct2), gsl2⟩)
    (cI2 : PySem.W.codeIn K gcd2 "Dead.__init__" = true)
    (kI2 : PySem.W.keepIn K (.ref g2) = true)
    (dT2 : K.lookup T2 = some to2)
    (oT2 : to2.data = .seq #[.none] tn2)
    (oC3 : K.lookup C3 = some (excClassObj nm3 qn3 C3 N3 bs3 bm3 true sn3 sub3 ab3 col3 dd3 x0_3 x1_3 x2_3 x3_3 x5_3 "ValueError.__new__"))
    (bC3 : PySem.HandSPX.refsVE bm3 = true)
    (fI3 : PySem.W.findIn K (.ref C3) "__init__" = some (some (.ref g3)))
    (tI3 : PySem.W.typeIn K (.ref g3) = some (.type "function"))
    (lI3 : K.lookup g3 = some ⟨goc3, god3, .func (PySem.W.fnOf "__init__" "TooMany.__init__" (defArgs si_TooMany) (defBody si_TooMany) (defScope si_TooMany) (.ref T3) gkV3 gdc3 gpm3 gan3 gcd3 gct3), gsl3⟩)
    (cI3 : PySem.W.codeIn K gcd3 "TooMany.__init__" = true)
    (kI3 : PySem.W.keepIn K (.ref g3) = true)
    (dT3 : K.lookup T3 = some to3)
    (oT3 : to3.data = .seq #[.none] tn3)
    (oC4 : K.lookup C4 = some (excClassObj nm4 qn4 C4 N4 bs4 bm4 true sn4 sub4 ab4 col4 dd4 x0_4 x1_4 x2_4 x3_4 x5_4 "ValueError.__new__"))
    (bC4 : PySem.HandSPX.refsVE bm4 = true)
    (fI4 : PySem.W.findIn K (.ref C4) "__init__" = some (some (.ref g4)))
    (tI4 : PySem.W.typeIn K (.ref g4) = some (.type "function"))
    (lI4 : K.lookup g4 = some ⟨goc4, god4, .func (PySem.W.fnOf "__init__" "NoTask.__init__" (defArgs si_NoTask) (defBody si_NoTask) (defScope si_NoTask) (.ref T4) gkV4 gdc4 gpm4 gan4 gcd4 gct4), gsl4⟩)
    (cI4 : PySem.W.codeIn K gcd4 "NoTask.__init__" = true)
    (kI4 : PySem.W.keepIn K (.ref g4) = true)
    (dT4 : K.lookup T4 = some to4)
    (oT4 : to4.data = .seq #[.none] tn4)
    (oC5 : K.lookup C5 = some (excClassObj nm5 qn5 C5 N5 bs5 bm5 true sn5 sub5 ab5 col5 dd5 x0_5 x1_5 x2_5 x3_5 x5_5 "ValueError.__new__"))
    (bC5 : PySem.HandSPX.refsVE bm5 = true)
    (fI5 : PySem.W.findIn K (.ref C5) "__init__" = some (some (.ref g5)))
    (tI5 : PySem.W.typeIn K (.ref g5) = some (.type "function"))
    (lI5 : K.lookup g5 = some ⟨goc5, god5, .func (PySem.W.fnOf "__init__" "NoCommand.__init__" (defArgs si_NoCommand) (defBody si_NoCommand) (defScope si_NoCommand) (.ref T5) gkV5 gdc5 gpm5 gan5 gcd5 gct5), gsl5⟩)
    (cI5 : PySem.W.codeIn K gcd5 "NoCommand.__init__" = true)
    (kI5 : PySem.W.keepIn K (.ref g5) = true)
    (dT5 : K.lookup T5 = some to5)
    (oT5 : to5.data = .seq #[.none] tn5)
    (oC6 : K.lookup C6 = some (excClassObj nm6 qn6 C6 N6 bs6 bm6 true sn6 sub6 ab6 col6 dd6 x0_6 x1_6 x2_6 x3_6 x5_6 "ValueError.__new__"))
    (bC6 : PySem.HandSPX.refsVE bm6 = true)
    (fI6 : PySem.W.findIn K (.ref C6) "__init__" = some (some (.ref g6)))
    (tI6 : PySem.W.typeIn K (.ref g6) = some (.type "function"))
    (lI6 : K.lookup g6 = some ⟨goc6, god6, .func (PySem.W.fnOf "__init__" "Unlike.__init__" (defArgs si_Unlike) (defBody si_Unlike) (defScope si_Unlike) (.ref T6) gkV6 gdc6 gpm6 gan6 gcd6 gct6), gsl6⟩)
    (cI6 : PySem.W.codeIn K gcd6 "Unlike.__init__" = true)
    (kI6 : PySem.W.keepIn K (.ref g6) = true)
    (dT6 : K.lookup T6 = some to6)
    (oT6 : to6.data = .seq #[.none] tn6)
    (eC0 : ClsOk K C0 CB)
    (eC1 : ClsOk K C1 CB)
    (eC2 : ClsOk K C2 CB)
    (eC3 : ClsOk K C3 CB)
    (eC4 : ClsOk K C4 CB)
    (eC5 : ClsOk K C5 CB)
    (eC6 : ClsOk K C6 CB)
    (eC7 : ClsOk K C7 CB)
    (eR0 : KitRow K C0 C0 C1 C2 C3 C4 C5 C6 C7 0)
    (eR1 : KitRow K C1 C0 C1 C2 C3 C4 C5 C6 C7 1)
    (eR2 : KitRow K C2 C0 C1 C2 C3 C4 C5 C6 C7 2)
    (eR3 : KitRow K C3 C0 C1 C2 C3 C4 C5 C6 C7 3)
    (eR4 : KitRow K C4 C0 C1 C2 C3 C4 C5 C6 C7 4)
    (eR5 : KitRow K C5 C0 C1 C2 C3 C4 C5 C6 C7 5)
    (eR6 : KitRow K C6 C0 C1 C2 C3 C4 C5 C6 C7 6)
    (eR7 : KitRow K C7 C0 C1 C2 C3 C4 C5 C6 C7 7)
    (eF0 : PySem.W.findIn K (.ref C0) "place" = some none)
    (eF1 : PySem.W.findIn K (.ref C1) "place" = some none)
    (eF2 : PySem.W.findIn K (.ref C2) "ring" = some none)
    (eF3 : PySem.W.findIn K (.ref C3) "most" = some none)
    (eF4 : PySem.W.findIn K (.ref C4) "name" = some none)
    (eF5 : PySem.W.findIn K (.ref C5) "line" = some none)
    (eF6 : PySem.W.findIn K (.ref C6) "step" = some none)
    (s1 : PySem.W.specialIn K (.builtin "object.__class__") "__get__" = some (some (.builtin "getset_descriptor.__get__")))
    (s2 : PySem.W.takesIn K (.builtin "object.__class__") = some true)
    (rB : PySem.W.readsIn K CB (.type "type") = true)
    (gB : PySem.W.specialIn K (.ref CB) "__getattribute__" = some (some (.builtin "type.__getattribute__")))
    (iB : PySem.W.findCls K (.ref CB) (.type "type") "__init__" = some (.val (.builtin "ValueError.__init__")))
    (e7 : PySem.W.excIn K C7 [.type "ValueError", .type "Exception", .type "BaseException", .type "object"] "ValueError.__new__" = true)
    (gc : PySem.W.nsIn K mainGlobals "gcd" = some (some (.builtin "math.gcd")))
    (z_int : PySem.W.nsIn K mainGlobals "int" = some none)
    (z_str : PySem.W.nsIn K mainGlobals "str" = some none)
    (z_len : PySem.W.nsIn K mainGlobals "len" = some none)
    (z_abs : PySem.W.nsIn K mainGlobals "abs" = some none)
    (z_repr : PySem.W.nsIn K mainGlobals "repr" = some none)
    (z_isinstance : PySem.W.nsIn K mainGlobals "isinstance" = some none)
    (z_ValueError : PySem.W.nsIn K mainGlobals "ValueError" = some none)
    (z_range : PySem.W.nsIn K mainGlobals "range" = some none)
    (z_list : PySem.W.nsIn K mainGlobals "list" = some none)
    : ∃ fd : FuncData, (∀ (s : Shared) (v : Value), BindsTo s fd ⟨[v], []⟩ [("script", v)]) ∧ ∀ base : Heap, K.In base → base.Ns mainGlobals mg → FnG l.prog w K mg base 6 fa fd ["script"] (spD K mg 1 sem_law) := by
  cases hfa.symm.trans (PySem.W.mg_of X G a18)
  have e1 : ∀ i, i < 8 → ClsOk K (cAt [C0, C1, C2, C3, C4, C5, C6, C7] i) CB := byEight eC0 eC1 eC2 eC3 eC4 eC5 eC6 eC7
  have e2 : ∀ i j, i < 8 → j < 8 → PySem.W.kitOne K (.ref (cAt [C0, C1, C2, C3, C4, C5, C6, C7] i)) (.ref (cAt [C0, C1, C2, C3, C4, C5, C6, C7] j)) = some (decide (i = j)) := fun i j hi hj => byEight (p := fun i => PySem.W.kitOne K (.ref (cAt [C0, C1, C2, C3, C4, C5, C6, C7] i)) (.ref (cAt [C0, C1, C2, C3, C4, C5, C6, C7] j)) = some (decide (i = j))) (eR0.at j hj) (eR1.at j hj) (eR2.at j hj) (eR3.at j hj) (eR4.at j hj) (eR5.at j hj) (eR6.at j hj) (eR7.at j hj) i hi
  have BI : BaseI K mg "LoopError" CB := ⟨PySem.W.mg_of X G aCB, rB, gB, iB⟩
  have EK : ErrK K mg (cAt [C0, C1, C2, C3, C4, C5, C6, C7]) CB := ⟨BI, PySem.W.mg_of X G aC0, PySem.W.mg_of X G aC1, PySem.W.mg_of X G aC2, PySem.W.mg_of X G aC3, PySem.W.mg_of X G aC4, PySem.W.mg_of X G aC5, PySem.W.mg_of X G aC6, PySem.W.mg_of X G aC7, PySem.W.mg_none_of X G z_isinstance, PySem.W.mg_none_of X G z_ValueError, PySem.W.mg_none_of X G z_range, PySem.W.mg_none_of X G z_list, fun i hi => ⟨(e1 i hi).a1, (e1 i hi).a2, (e1 i hi).a3, (e1 i hi).a4, (e1 i hi).a5, s1, s2, (e1 i hi).a6⟩, e2, fun i hi => (e1 i hi).a7, fun i hi => (e1 i hi).a8⟩
  have F0 := fun_mk (st := s_reduced) l0 c0 k0
  have b0 := F0.binds (ps := ["n", "d"]) fun _ _ _ _ _ _ us hl => match us, hl with | [_, _], _ => rfl
  have F1 := fun_mk (st := s_added) l1 c1 k1
  have b1 := F1.binds (ps := ["one", "other"]) fun _ _ _ _ _ _ us hl => match us, hl with | [_, _], _ => rfl
  have F2 := fun_mk (st := s_lessened) l2 c2 k2
  have b2 := F2.binds (ps := ["one", "other"]) fun _ _ _ _ _ _ us hl => match us, hl with | [_, _], _ => rfl
  have F3 := fun_mk (st := s_times) l3 c3 k3
  have b3 := F3.binds (ps := ["one", "other"]) fun _ _ _ _ _ _ us hl => match us, hl with | [_, _], _ => rfl
  have F4 := fun_mk (st := s_compared) l4 c4 k4
  have b4 := F4.binds (ps := ["one", "other"]) fun _ _ _ _ _ _ us hl => match us, hl with | [_, _], _ => rfl
  have F5 := fun_mk (st := s_fraction_text) l5 c5 k5
  have b5 := F5.binds (ps := ["fraction"]) fun _ _ _ _ _ _ us hl => match us, hl with | [_], _ => rfl
  have F6 := fun_mk (st := s__law_bag) l6 c6 k6
  have b6 := F6.binds (ps := ["script"]) fun _ _ _ _ _ _ us hl => match us, hl with | [_], _ => rfl
  have F7 := fun_mk (st := s__law_take) l7 c7 k7
  have b7 := F7.binds (ps := ["bag", "many"]) fun _ _ _ _ _ _ us hl => match us, hl with | [_, _], _ => rfl
  have F8 := fun_mk (st := s__law_some) l8 c8 k8
  have b8 := F8.binds (ps := ["bag", "things"]) fun _ _ _ _ _ _ us hl => match us, hl with | [_, _], _ => rfl
  have F9 := fun_mk (st := s__law_alike) l9 c9 k9
  have b9 := F9.binds (ps := ["found", "due"]) fun _ _ _ _ _ _ us hl => match us, hl with | [_, _], _ => rfl
  have F10 := fun_mk (st := s__law_oddO) l10 c10 k10
  have b10 := F10.binds (ps := ["bag"]) fun _ _ _ _ _ _ us hl => match us, hl with | [_], _ => rfl
  have F11 := fun_mk (st := s__law_common_of) l11 c11 k11
  have b11 := F11.binds (ps := ["one", "other"]) fun _ _ _ _ _ _ us hl => match us, hl with | [_, _], _ => rfl
  have F12 := fun_mk (st := s__law_reduced) l12 c12 k12
  have b12 := F12.binds (ps := ["n", "d"]) fun _ _ _ _ _ _ us hl => match us, hl with | [_, _], _ => rfl
  have F13 := fun_mk (st := s__law_integer) l13 c13 k13
  have b13 := F13.binds (ps := ["bag"]) fun _ _ _ _ _ _ us hl => match us, hl with | [_], _ => rfl
  have F14 := fun_mk (st := s__law_fraction) l14 c14 k14
  have b14 := F14.binds (ps := ["bag"]) fun _ _ _ _ _ _ us hl => match us, hl with | [_], _ => rfl
  have F15 := fun_mk (st := s_errs) l15 c15 k15
  have b15 := F15.binds (ps := ["one", "two"]) fun _ _ _ _ _ _ us hl => match us, hl with | [_, _], _ => rfl
  have F16 := fun_mk (st := s_kinds) l16 c16 k16
  have b16 := F16.binds (ps := ["error"]) fun _ _ _ _ _ _ us hl => match us, hl with | [_], _ => rfl
  have F17 := fun_mk (st := s_right) l17 c17 k17
  have b17 := F17.binds (ps := ["lot", "at"]) fun _ _ _ _ _ _ us hl => match us, hl with | [_, _], _ => rfl
  have F18 := fun_mk (st := s_law) l18 c18 k18
  refine ⟨PySem.W.fnOf "law" "law" (defArgs s_law) (defBody s_law) (defScope s_law) .none kV18 dc18 pm18 an18 cd18 ct18, fun s v => .of_eq rfl, fun base kin ns => ?_⟩
  have ox0 : OexC K C0 := ⟨⟨_, _, _, _, _, _, _, _, _, _, _, _, _, _, _, oC0, bC0⟩, eC0.a9, eC0.a3, eC0.a10, eC0.a11⟩
  have FI0 := fun_mkD (st := si_Wrong) lI0 cI0 kI0 dT0 oT0
  obtain ⟨ds0, hv0, bI0⟩ := FI0.binds1 (ps := ["self", "place"]) 2 1 (by simp) rfl (fun T kV doc pm an cdv ct us its hu hi => match us, its, hu, hi with | [_, _], [_], _, _ => ⟨_, rfl, rfl⟩)
  cases hv0
  have ini0 : Ini l.prog w K mg base 1 C0 "place" := ⟨ox0, eF0, _, _, _, fI0, tI0, bI0, rfl, oki_Wrong FI0 BI⟩
  have ox1 : OexC K C1 := ⟨⟨_, _, _, _, _, _, _, _, _, _, _, _, _, _, _, oC1, bC1⟩, eC1.a9, eC1.a3, eC1.a10, eC1.a11⟩
  have FI1 := fun_mkD (st := si_NoText) lI1 cI1 kI1 dT1 oT1
  obtain ⟨ds1, hv1, bI1⟩ := FI1.binds1 (ps := ["self", "place"]) 2 1 (by simp) rfl (fun T kV doc pm an cdv ct us its hu hi => match us, its, hu, hi with | [_, _], [_], _, _ => ⟨_, rfl, rfl⟩)
  cases hv1
  have ini1 : Ini l.prog w K mg base 1 C1 "place" := ⟨ox1, eF1, _, _, _, fI1, tI1, bI1, rfl, oki_NoText FI1 BI⟩
  have ox2 : OexC K C2 := ⟨⟨_, _, _, _, _, _, _, _, _, _, _, _, _, _, _, oC2, bC2⟩, eC2.a9, eC2.a3, eC2.a10, eC2.a11⟩
  have FI2 := fun_mkD (st := si_Dead) lI2 cI2 kI2 dT2 oT2
  obtain ⟨ds2, hv2, bI2⟩ := FI2.binds1 (ps := ["self", "ring"]) 2 1 (by simp) rfl (fun T kV doc pm an cdv ct us its hu hi => match us, its, hu, hi with | [_, _], [_], _, _ => ⟨_, rfl, rfl⟩)
  cases hv2
  have ini2 : Ini l.prog w K mg base 1 C2 "ring" := ⟨ox2, eF2, _, _, _, fI2, tI2, bI2, rfl, oki_Dead FI2 BI⟩
  have ox3 : OexC K C3 := ⟨⟨_, _, _, _, _, _, _, _, _, _, _, _, _, _, _, oC3, bC3⟩, eC3.a9, eC3.a3, eC3.a10, eC3.a11⟩
  have FI3 := fun_mkD (st := si_TooMany) lI3 cI3 kI3 dT3 oT3
  obtain ⟨ds3, hv3, bI3⟩ := FI3.binds1 (ps := ["self", "most"]) 2 1 (by simp) rfl (fun T kV doc pm an cdv ct us its hu hi => match us, its, hu, hi with | [_, _], [_], _, _ => ⟨_, rfl, rfl⟩)
  cases hv3
  have ini3 : Ini l.prog w K mg base 1 C3 "most" := ⟨ox3, eF3, _, _, _, fI3, tI3, bI3, rfl, oki_TooMany FI3 BI⟩
  have ox4 : OexC K C4 := ⟨⟨_, _, _, _, _, _, _, _, _, _, _, _, _, _, _, oC4, bC4⟩, eC4.a9, eC4.a3, eC4.a10, eC4.a11⟩
  have FI4 := fun_mkD (st := si_NoTask) lI4 cI4 kI4 dT4 oT4
  obtain ⟨ds4, hv4, bI4⟩ := FI4.binds1 (ps := ["self", "name"]) 2 1 (by simp) rfl (fun T kV doc pm an cdv ct us its hu hi => match us, its, hu, hi with | [_, _], [_], _, _ => ⟨_, rfl, rfl⟩)
  cases hv4
  have ini4 : Ini l.prog w K mg base 1 C4 "name" := ⟨ox4, eF4, _, _, _, fI4, tI4, bI4, rfl, oki_NoTask FI4 BI⟩
  have ox5 : OexC K C5 := ⟨⟨_, _, _, _, _, _, _, _, _, _, _, _, _, _, _, oC5, bC5⟩, eC5.a9, eC5.a3, eC5.a10, eC5.a11⟩
  have FI5 := fun_mkD (st := si_NoCommand) lI5 cI5 kI5 dT5 oT5
  obtain ⟨ds5, hv5, bI5⟩ := FI5.binds1 (ps := ["self", "line"]) 2 1 (by simp) rfl (fun T kV doc pm an cdv ct us its hu hi => match us, its, hu, hi with | [_, _], [_], _, _ => ⟨_, rfl, rfl⟩)
  cases hv5
  have ini5 : Ini l.prog w K mg base 1 C5 "line" := ⟨ox5, eF5, _, _, _, fI5, tI5, bI5, rfl, oki_NoCommand FI5 BI⟩
  have ox6 : OexC K C6 := ⟨⟨_, _, _, _, _, _, _, _, _, _, _, _, _, _, _, oC6, bC6⟩, eC6.a9, eC6.a3, eC6.a10, eC6.a11⟩
  have FI6 := fun_mkD (st := si_Unlike) lI6 cI6 kI6 dT6 oT6
  obtain ⟨ds6, hv6, bI6⟩ := FI6.binds1 (ps := ["self", "step"]) 2 1 (by simp) rfl (fun T kV doc pm an cdv ct us its hu hi => match us, its, hu, hi with | [_, _], [_], _, _ => ⟨_, rfl, rfl⟩)
  cases hv6
  have ini6 : Ini l.prog w K mg base 1 C6 "step" := ⟨ox6, eF6, _, _, _, fI6, tI6, bI6, rfl, oki_Unlike FI6 BI⟩
  have ED : ErrD l.prog w K mg base (cAt [C0, C1, C2, C3, C4, C5, C6, C7]) := ⟨ini0, ini1, ini2, ini3, ini4, ini5, ini6, fun i hi => ⟨(e1 i (by omega)).a1, (e1 i (by omega)).a2, (e1 i (by omega)).a3, (e1 i (by omega)).a4⟩, e7, eC7.a11⟩
  have D_take : Def l.prog w K mg base "_law_take" 1 2 sem__law_take := ⟨_, _, _, PySem.W.mg_of X G a7, k7, b7, rfl, ok__law_take F7 ⟨PySem.W.mg_none_of X G z_int⟩⟩
  have D_some : Def l.prog w K mg base "_law_some" 2 2 sem__law_some := ⟨_, _, _, PySem.W.mg_of X G a8, k8, b8, rfl, ok__law_some F8 ⟨PySem.W.mg_none_of X G z_len, D_take⟩⟩
  have D_alike : Def l.prog w K mg base "_law_alike" 1 2 sem__law_alike := ⟨_, _, _, PySem.W.mg_of X G a9, k9, b9, rfl, ok__law_alike F9 ⟨PySem.W.mg_none_of X G z_repr⟩⟩
  have D_reduced : Def l.prog w K mg base "reduced" 1 2 sem_reduced := ⟨_, _, _, PySem.W.mg_of X G a0, k0, b0, rfl, ok_reduced F0 ⟨PySem.W.mg_of X G gc⟩⟩
  have D_added : Def l.prog w K mg base "added" 2 2 sem_added := ⟨_, _, _, PySem.W.mg_of X G a1, k1, b1, rfl, ok_added F1 ⟨D_reduced⟩⟩
  have D_lessened : Def l.prog w K mg base "lessened" 2 2 sem_lessened := ⟨_, _, _, PySem.W.mg_of X G a2, k2, b2, rfl, ok_lessened F2 ⟨D_reduced⟩⟩
  have D_times : Def l.prog w K mg base "times" 2 2 sem_times := ⟨_, _, _, PySem.W.mg_of X G a3, k3, b3, rfl, ok_times F3 ⟨D_reduced⟩⟩
  have D_compared : Def l.prog w K mg base "compared" 1 2 sem_compared := ⟨_, _, _, PySem.W.mg_of X G a4, k4, b4, rfl, ok_compared F4 ⟨PySem.W.mg_none_of X G z_int⟩⟩
  have D_ftext : Def l.prog w K mg base "fraction_text" 1 1 sem_fraction_text := ⟨_, _, _, PySem.W.mg_of X G a5, k5, b5, rfl, ok_fraction_text F5 ⟨PySem.W.mg_none_of X G z_str⟩⟩
  have D_bag : Def l.prog w K mg base "_law_bag" 1 1 sem__law_bag := ⟨_, _, _, PySem.W.mg_of X G a6, k6, b6, rfl, ok__law_bag F6 ⟨PySem.W.mg_none_of X G z_abs⟩⟩
  have D_common : Def l.prog w K mg base "_law_common_of" 1 2 sem__law_common_of := ⟨_, _, _, PySem.W.mg_of X G a11, k11, b11, rfl, ok__law_common_of F11 ⟨PySem.W.mg_none_of X G z_abs, PySem.W.mg_none_of X G z_int⟩⟩
  have D_lred : Def l.prog w K mg base "_law_reduced" 2 2 sem__law_reduced := ⟨_, _, _, PySem.W.mg_of X G a12, k12, b12, rfl, ok__law_reduced F12 ⟨D_common⟩⟩
  have D_integer : Def l.prog w K mg base "_law_integer" 3 1 sem__law_integer := ⟨_, _, _, PySem.W.mg_of X G a13, k13, b13, rfl, ok__law_integer F13 ⟨D_some, D_take⟩⟩
  have D_fraction : Def l.prog w K mg base "_law_fraction" 4 1 sem__law_fraction := ⟨_, _, _, PySem.W.mg_of X G a14, k14, b14, rfl, ok__law_fraction F14 ⟨D_lred, D_integer, D_some, D_take⟩⟩
  have D_someO : Def l.prog w K mg base "_law_some" 2 2 sem__law_someO := ⟨_, _, _, PySem.W.mg_of X G a8, k8, b8, rfl, ok__law_someO F8 ⟨PySem.W.mg_none_of X G z_len, D_take⟩⟩
  have D_odd : Def l.prog w K mg base "_law_odd" 3 1 sem__law_oddO := ⟨_, _, _, PySem.W.mg_of X G a10, k10, b10, rfl, ok__law_oddO F10 ⟨D_someO⟩⟩
  have D_kinds : DefR l.prog w K mg base "_law_kinds" 1 (spKinds (cAt [C0, C1, C2, C3, C4, C5, C6, C7])) := ⟨_, _, _, PySem.W.mg_of X G a16, k16, b16, ok_kinds F16 EK⟩
  have D_errs : DefR l.prog w K mg base "_law_errors" 3 (spErrs (cAt [C0, C1, C2, C3, C4, C5, C6, C7])) := ⟨_, _, _, PySem.W.mg_of X G a15, k15, b15, ok_errs F15 EK ED⟩
  have D_right : DefR l.prog w K mg base "_law_is_error_right" 2 (spRight (cAt [C0, C1, C2, C3, C4, C5, C6, C7]) K) := ⟨_, _, _, PySem.W.mg_of X G a17, k17, b17, ok_right F17 EK D_kinds D_alike.r⟩
  exact ok_law F18 ⟨PySem.W.mg_none_of X G z_range, PySem.W.mg_none_of X G z_int, PySem.W.mg_none_of X G z_str, D_bag, D_take, D_alike, D_compared, D_fraction, D_some, D_lred, D_reduced, D_added, D_lessened, D_times, D_ftext, EK, D_odd, D_errs, D_right⟩
theorem walk {l : PySem.W.OpenLaw} {q : Program} {loose : List Str} {XP : (Str → Option Value) → Heap → Prop} {YP : World → Heap → Prop} {d : DefRec} {K : Params → Frg} (hn : l.most = some 63) (hdf : d.params.defaults = [])
    (hY : ∀ (w : World) (h : Heap), YP w h → (K w.params).In h)
    (F : ∀ (w : World) (mg : Str → Option Value) (fa : Addr) (h : Heap), (K w.params).In h → h.Ns mainGlobals mg → mg d.name = some (.ref fa) →
      ∃ fd : FuncData, (∀ (s : Shared) (u : Value), BindsTo s fd ⟨[u], []⟩ [("script", u)]) ∧ ∀ base : Heap, (K w.params).In base → base.Ns mainGlobals mg → FnG l.prog w (K w.params) mg base 6 fa fd ["script"] (spD (K w.params) mg 1 sem_law)) :
    PySem.W.WalkO q loose XP YP l.row.toRowW d [] (fun f vs => PySem.call f vs) :=
  walk_ofD (n := 63) (k := 6) (x := "script") (sem := sem_law) hn (by decide) hdf ⟨⟨rfl, by decide, by decide⟩, rfl⟩ hY F law_ev

end DL
open PySem PySem.W PyProof.Rows
set_option maxRecDepth 100000 in
set_option maxHeartbeats 0 in
theorem PySem.Challenge.cw_unwaited_k00_errors_and_fractions_holds : PySem.Challenge.rw_unwaited_k00_errors_and_fractions.Holds := by
  w_on; o_law; k_head; (case hw => w_witness2)
  k_fill
  refine DL.walk (l := PySem.Challenge.rw_unwaited_k00_errors_and_fractions) rfl rfl (fun w h Y => PySem.W.kIn_of Y) ?F
  case F =>
    intro w mg fa h KX G hmg
    refine' DL.all_mk KX G hmg ?a0 ?l0 ?c0 ?k0 ?a1 ?l1 ?c1 ?k1 ?a2 ?l2 ?c2 ?k2 ?a3 ?l3 ?c3 ?k3 ?a4 ?l4 ?c4 ?k4 ?a5 ?l5 ?c5 ?k5 ?a6 ?l6 ?c6 ?k6 ?a7 ?l7 ?c7 ?k7 ?a8 ?l8 ?c8 ?k8 ?a9 ?l9 ?c9 ?k9 ?a10 ?l10 ?c10 ?k10 ?a11 ?l11 ?c11 ?k11 ?a12 ?l12 ?c12 ?k12 ?a13 ?l13 ?c13 ?k13 ?a14 ?l14 ?c14 ?k14 ?a15 ?l15 ?c15 ?k15 ?a16 ?l16 ?c16 ?k16 ?a17 ?l17 ?c17 ?k17 ?a18 ?l18 ?c18 ?k18 ?aC0 ?aC1 ?aC2 ?aC3 ?aC4 ?aC5 ?aC6 ?aC7 ?aCB ?oC0 ?bC0 ?fI0 ?tI0 ?lI0 ?cI0 ?kI0 ?dT0 ?oT0 ?oC1 ?bC1 ?fI1 ?tI1 ?lI1 ?cI1 ?kI1 ?dT1 ?oT1 ?oC2 ?bC2 ?fI2 ?tI2 ?lI2 ?cI2 ?kI2 ?dT2 ?oT2 ?oC3 ?bC3 ?fI3 ?tI3 ?lI3 ?cI3 ?kI3 ?dT3 ?oT3 ?oC4 ?bC4 ?fI4 ?tI4 ?lI4 ?cI4 ?kI4 ?dT4 ?oT4 ?oC5 ?bC5 ?fI5 ?tI5 ?lI5 ?cI5 ?kI5 ?dT5 ?oT5 ?oC6 ?bC6 ?fI6 ?tI6 ?lI6 ?cI6 ?kI6 ?dT6 ?oT6 ?eC0 ?eC1 ?eC2 ?eC3 ?eC4 ?eC5 ?eC6 ?eC7 ?eR0 ?eR1 ?eR2 ?eR3 ?eR4 ?eR5 ?eR6 ?eR7 ?eF0 ?eF1 ?eF2 ?eF3 ?eF4 ?eF5 ?eF6 ?s1 ?s2 ?rB ?gB ?iB ?e7 ?gc ?z_int ?z_str ?z_len ?z_abs ?z_repr ?z_isinstance ?z_ValueError ?z_range ?z_list
    (case a0 => k_is); (case l0 => k_is); (case c0 => k_is); (case k0 => k_is)
    (case a1 => k_is); (case l1 => k_is); (case c1 => k_is); (case k1 => k_is)
    (case a2 => k_is); (case l2 => k_is); (case c2 => k_is); (case k2 => k_is)
    (case a3 => k_is); (case l3 => k_is); (case c3 => k_is); (case k3 => k_is)
    (case a4 => k_is); (case l4 => k_is); (case c4 => k_is); (case k4 => k_is)
    (case a5 => k_is); (case l5 => k_is); (case c5 => k_is); (case k5 => k_is)
    (case a6 => k_is); (case l6 => k_is); (case c6 => k_is); (case k6 => k_is)
    (case a7 => k_is); (case l7 => k_is); (case c7 => k_is); (case k7 => k_is)
    (case a8 => k_is); (case l8 => k_is); (case c8 => k_is); (case k8 => k_is)
    (case a9 => k_is); (case l9 => k_is); (case c9 => k_is); (case k9 => k_is)
    (case a10 => k_is); (case l10 => k_is); (case c10 => k_is); (case k10 => k_is)
    (case a11 => k_is); (case l11 => k_is); (case c11 => k_is); (case k11 => k_is)
    (case a12 => k_is); (case l12 => k_is); (case c12 => k_is); (case k12 => k_is)
    (case a13 => k_is); (case l13 => k_is); (case c13 => k_is); (case k13 => k_is)
    (case a14 => k_is); (case l14 => k_is); (case c14 => k_is); (case k14 => k_is)
    (case a15 => k_is); (case l15 => k_is); (case c15 => k_is); (case k15 => k_is)
    (case a16 => k_is); (case l16 => k_is); (case c16 => k_is); (case k16 => k_is)
    (case a17 => k_is); (case l17 => k_is); (case c17 => k_is); (case k17 => k_is)
    (case a18 => k_is); (case l18 => k_is); (case c18 => k_is); (case k18 => k_is)
    (case aC0 => k_is); (case aC1 => k_is); (case aC2 => k_is); (case aC3 => k_is)
    (case aC4 => k_is); (case aC5 => k_is); (case aC6 => k_is); (case aC7 => k_is)
    (case aCB => k_is); (case oC0 => k_is); (case bC0 => rfl); (case fI0 => k_is)
    (case tI0 => k_is); (case lI0 => k_is); (case cI0 => k_is); (case kI0 => k_is)
    (case dT0 => k_is); (case oT0 => rfl); (case oC1 => k_is); (case bC1 => rfl)
    (case fI1 => k_is); (case tI1 => k_is); (case lI1 => k_is); (case cI1 => k_is)
    (case kI1 => k_is); (case dT1 => k_is); (case oT1 => rfl); (case oC2 => k_is)
    (case bC2 => rfl); (case fI2 => k_is); (case tI2 => k_is); (case lI2 => k_is)
    (case cI2 => k_is); (case kI2 => k_is); (case dT2 => k_is); (case oT2 => rfl)
    (case oC3 => k_is); (case bC3 => rfl); (case fI3 => k_is); (case tI3 => k_is)
    (case lI3 => k_is); (case cI3 => k_is); (case kI3 => k_is); (case dT3 => k_is)
    (case oT3 => rfl); (case oC4 => k_is); (case bC4 => rfl); (case fI4 => k_is)
    (case tI4 => k_is); (case lI4 => k_is); (case cI4 => k_is); (case kI4 => k_is)
    (case dT4 => k_is); (case oT4 => rfl); (case oC5 => k_is); (case bC5 => rfl)
    (case fI5 => k_is); (case tI5 => k_is); (case lI5 => k_is); (case cI5 => k_is)
    (case kI5 => k_is); (case dT5 => k_is); (case oT5 => rfl); (case oC6 => k_is)
    (case bC6 => rfl); (case fI6 => k_is); (case tI6 => k_is); (case lI6 => k_is)
    (case cI6 => k_is); (case kI6 => k_is); (case dT6 => k_is); (case oT6 => rfl)
    (case eC0 => refine ⟨?_, ?_, ?_, ?_, ?_, ?_, ?_, ?_, ?_, ?_, ?_⟩ <;> first | k_is | kit_is); (case eC1 => refine ⟨?_, ?_, ?_, ?_, ?_, ?_, ?_, ?_, ?_, ?_, ?_⟩ <;> first | k_is | kit_is); (case eC2 => refine ⟨?_, ?_, ?_, ?_, ?_, ?_, ?_, ?_, ?_, ?_, ?_⟩ <;> first | k_is | kit_is); (case eC3 => refine ⟨?_, ?_, ?_, ?_, ?_, ?_, ?_, ?_, ?_, ?_, ?_⟩ <;> first | k_is | kit_is)
    (case eC4 => refine ⟨?_, ?_, ?_, ?_, ?_, ?_, ?_, ?_, ?_, ?_, ?_⟩ <;> first | k_is | kit_is); (case eC5 => refine ⟨?_, ?_, ?_, ?_, ?_, ?_, ?_, ?_, ?_, ?_, ?_⟩ <;> first | k_is | kit_is); (case eC6 => refine ⟨?_, ?_, ?_, ?_, ?_, ?_, ?_, ?_, ?_, ?_, ?_⟩ <;> first | k_is | kit_is); (case eC7 => refine ⟨?_, ?_, ?_, ?_, ?_, ?_, ?_, ?_, ?_, ?_, ?_⟩ <;> first | k_is | kit_is)
    (case eR0 => refine ⟨?_, ?_, ?_, ?_, ?_, ?_, ?_, ?_⟩ <;> kit_is); (case eR1 => refine ⟨?_, ?_, ?_, ?_, ?_, ?_, ?_, ?_⟩ <;> kit_is); (case eR2 => refine ⟨?_, ?_, ?_, ?_, ?_, ?_, ?_, ?_⟩ <;> kit_is); (case eR3 => refine ⟨?_, ?_, ?_, ?_, ?_, ?_, ?_, ?_⟩ <;> kit_is)
    (case eR4 => refine ⟨?_, ?_, ?_, ?_, ?_, ?_, ?_, ?_⟩ <;> kit_is); (case eR5 => refine ⟨?_, ?_, ?_, ?_, ?_, ?_, ?_, ?_⟩ <;> kit_is); (case eR6 => refine ⟨?_, ?_, ?_, ?_, ?_, ?_, ?_, ?_⟩ <;> kit_is); (case eR7 => refine ⟨?_, ?_, ?_, ?_, ?_, ?_, ?_, ?_⟩ <;> kit_is)
    (case eF0 => k_is); (case eF1 => k_is); (case eF2 => k_is); (case eF3 => k_is)
    (case eF4 => k_is); (case eF5 => k_is); (case eF6 => k_is); (case s1 => k_is)
    (case s2 => k_is); (case rB => k_is); (case gB => k_is); (case iB => k_is)
    (case e7 => k_exc); (case gc => k_is); (case z_int => k_is); (case z_str => k_is)
    (case z_len => k_is); (case z_abs => k_is); (case z_repr => k_is); (case z_isinstance => k_is)
    (case z_ValueError => k_is); (case z_range => k_is); (case z_list => k_is)
