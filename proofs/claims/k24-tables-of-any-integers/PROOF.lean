import PyProof.Rows.All
import Wide.All
import OpenK.AllK
import Wide.FinOn
import HandS.ForMost
import HandS.Exc
import HandS.Wide
import HandS.Gcd
import HandS.TupAny
import HandS.Deep
import HandS.Style
import HandS.WordsExc
import HandS.Flow
import HandS.Zip
import HandS.Rev
import KE.SortData
import HandS.IsInst
import HandS.TupLen
import HandS.WordsDict
import HandS.More
import HandS.Walk
import PyProof.ReprReads
import PyProof.ReprRoads
import HandS.DeepEq
import HandS.OwnEq
import HandS.DictEq
import HandS.Ends
import HandS.TupSets
import HandS.SetKeys
import HandS.Small
import HandS.ListItems
import HandS.Text
import HandS.Star
import HandS.Finally
import HandS.RaiseMore
import HandS.DictComp
import HandS.Conv
import KE.DataCmp
import KE.KDictSum
import KE.DataFind
import PyProof.DictMoreH
import HandS.TupLe
import HandS.JoinGen
import KE.DataMinMax
import HandS.TupMul
import PyProof.LongRange
import PyProof.DictUpdate
import PySem.Challenge.RW_unwaited_k24_tables_of_any_integers
import KE.RegKIsAll
set_option Elab.async false
set_option linter.all false
set_option maxRecDepth 100000 -- deep terms
set_option maxHeartbeats 4000000 -- long walks
/-! The data layer, part A: pure data, what stands for it in the abstract heap, owned trees, states and steps. -/
namespace DL
open PySem L2
abbrev D := PyData
abbrev Frg := PySem.W.Frag
/-! ### data in the heap -/
def keyD : Key → D
  | .inl i => .int i
  | .inr x => .str x
/-- what may be locked: no locked thing, no tuple -/
def NoLk (o : HO) : Prop := (∀ b u, o ≠ .frz b u) ∧ ∀ xs, o ≠ .tup xs
/-- the frozen part stands in the heap; a dict may be locked there -/
def GLe (G H : Hp) : Prop := ∀ a o, G a = some o → H a = some o ∨ (NoLk o ∧ ∃ b, H a = some (.frz b o))
/-- a tuple that is tracked -/
def SqU (G : Hp) (a : Addr) (xs : List V) : Prop := G a = some (.tup xs)
theorem SqU.t {K : Frg} {G : Hp} {a : Addr} {xs : List V} (h : SqU G a xs) : SqT K G a xs := .inl (.inl h)
theorem GLe.sqU {G H : Hp} (g : GLe G H) {a : Addr} {xs : List V} (h : SqU G a xs) : SqU H a xs := by
  rcases g a _ h with q | ⟨n, _⟩
  · exact q
  · exact absurd rfl (n.2 xs)
theorem GLe.refl (G : Hp) : GLe G G := fun _ _ h => .inl h
theorem GLe.rd {G H : Hp} (g : GLe G H) {a : Addr} {u : HO} (h : Rd G a u) : Rd H a u := by
  rcases h with h | ⟨o, h⟩
  · rcases g a u h with q | ⟨_, b, q⟩
    · exact .inl q
    · exact .inr ⟨b, q⟩
  · rcases g a _ h with q | ⟨n, _, _⟩
    · exact .inr ⟨o, q⟩
    · exact absurd rfl (n.1 o u)
theorem GLe.some {G H : Hp} (g : GLe G H) {a : Addr} (h : G a ≠ none) : H a ≠ none := by
  cases e : G a with
  | none => exact absurd e h
  | some o =>
    rcases g a o e with q | ⟨_, b, q⟩
    · rw [q]; exact fun z => nomatch z
    · rw [q]; exact fun z => nomatch z
theorem GLe.sqL {K : Frg} {G H : Hp} (g : GLe G H) {a : Addr} {xs : List V} (h : SqL K G a xs) : SqL K H a xs := by
  rcases h with h | h
  · exact .inl (g.rd h)
  · exact .inr h
theorem GLe.sqT {K : Frg} {G H : Hp} (g : GLe G H) {a : Addr} {xs : List V} (h : SqU G a xs) : SqT K H a xs := (g.sqU h).t
/-- a list: tracked, or an object of the module, plain -/
def SqX (K : Frg) (H : Hp) (a : Addr) (xs : List V) : Prop := Rd H a (.lst xs) ∨ ∃ (its : List Value) (n : Nat), K.lookup a = some { cls := .type "list", data := .seq its.toArray n } ∧ its.length ≤ sizeLine ∧ Vals xs its
theorem SqX.l {K : Frg} {H : Hp} {a : Addr} {xs : List V} (h : SqX K H a xs) : SqL K H a xs := by
  rcases h with h | ⟨its, n, e, l, r⟩
  · exact .inl h
  · exact .inr ⟨_, its.toArray, n, e, rfl, rfl, rfl, by simpa using l, by simpa using r⟩
theorem GLe.sqX {K : Frg} {G H : Hp} (g : GLe G H) {a : Addr} {xs : List V} (h : SqX K G a xs) : SqX K H a xs := by
  rcases h with h | h
  · exact .inl (g.rd h)
  · exact .inr h
theorem same_gle {G G' : Hp} (h : Same G G') : GLe G G' := fun a o e => .inl (h a o e)
mutual
inductive Den (K : Frg) (G : Hp) : V → D → Prop
  | non : Den K G .non .none
  | bl (b : Bool) : Den K G (.bl b) (.bool b)
  | int (i : Int) : Den K G (.int i) (.int i)
  | str (x : Str) : Den K G (.str x) (.str x)
  | lst {a : Addr} {xs : List V} {ds : List D} : SqX K G a xs → DenL K G xs ds → Den K G (.ref a) (.list ds)
  | tup {a : Addr} {xs : List V} {ds : List D} : SqU G a xs → DenL K G xs ds → Den K G (.ref a) (.tuple ds)
  | dk {a : Addr} {ks : List (Key × V)} {kvs : List (D × D)} : Rd G a (.dK ks) → DenK K G ks kvs → Den K G (.ref a) (.dict kvs)
  | dt {a : Addr} {ks : List (List Key × V)} {kvs : List (D × D)} : Rd G a (.dT ks) → DenT K G ks kvs → ks ≠ [] → Den K G (.ref a) (.dict kvs)
inductive DenL (K : Frg) (G : Hp) : List V → List D → Prop
  | nil : DenL K G [] []
  | cons {v : V} {vs : List V} {d : D} {ds : List D} : Den K G v d → DenL K G vs ds → DenL K G (v :: vs) (d :: ds)
inductive DenK (K : Frg) (G : Hp) : List (Key × V) → List (D × D) → Prop
  | nil : DenK K G [] []
  | cons {k : Key} {v : V} {ks : List (Key × V)} {d : D} {kvs : List (D × D)} : Den K G v d → DenK K G ks kvs → DenK K G ((k, v) :: ks) ((keyD k, d) :: kvs)
inductive DenT (K : Frg) (G : Hp) : List (List Key × V) → List (D × D) → Prop
  | nil : DenT K G [] []
  | cons {k : List Key} {v : V} {ks : List (List Key × V)} {d : D} {kvs : List (D × D)} : Den K G v d → DenT K G ks kvs → DenT K G ((k, v) :: ks) ((.tuple (k.map keyD), d) :: kvs)
end
section
variable {K : Frg} {G H : Hp}
mutual
theorem Den.up (g : GLe G H) : ∀ {v : V} {d : D}, Den K G v d → Den K H v d
  | _, _, .non => .non
  | _, _, .bl b => .bl b
  | _, _, .int i => .int i
  | _, _, .str x => .str x
  | _, _, .lst s l => .lst (g.sqX s) (l.up g)
  | _, _, .tup s l => .tup (g.sqU s) (l.up g)
  | _, _, .dk s l => .dk (g.rd s) (l.up g)
  | _, _, .dt s l n => .dt (g.rd s) (l.up g) n
theorem DenL.up (g : GLe G H) : ∀ {v : List V} {d : List D}, DenL K G v d → DenL K H v d
  | _, _, .nil => .nil
  | _, _, .cons h t => .cons (h.up g) (t.up g)
theorem DenK.up (g : GLe G H) : ∀ {v : List (Key × V)} {d : List (D × D)}, DenK K G v d → DenK K H v d
  | _, _, .nil => .nil
  | _, _, .cons h t => .cons (h.up g) (t.up g)
theorem DenT.up (g : GLe G H) : ∀ {v : List (List Key × V)} {d : List (D × D)}, DenT K G v d → DenT K H v d
  | _, _, .nil => .nil
  | _, _, .cons h t => .cons (h.up g) (t.up g)
end
theorem DenL.length : ∀ {v : List V} {d : List D}, DenL K G v d → v.length = d.length
  | _, _, .nil => rfl
  | _, _, .cons _ t => congrArg (· + 1) t.length
theorem DenL.get : ∀ {vs : List V} {ds : List D} {i : Nat} {d : D}, DenL K G vs ds → ds[i]? = some d → ∃ v, vs[i]? = some v ∧ Den K G v d
  | _, _, 0, _, .cons h _, e => by cases e; exact ⟨_, rfl, h⟩
  | _, _, i + 1, d, .cons _ t, e => DenL.get (i := i) t e
theorem DenL.append : ∀ {vs ws : List V} {ds es : List D}, DenL K G vs ds → DenL K G ws es → DenL K G (vs ++ ws) (ds ++ es)
  | _, _, _, _, .nil, t => t
  | _, _, _, _, .cons h t, s => .cons h (t.append s)
theorem DenL.take : ∀ {vs : List V} {ds : List D} (n : Nat), DenL K G vs ds → DenL K G (vs.take n) (ds.take n)
  | _, _, 0, _ => .nil
  | _, _, _ + 1, .nil => .nil
  | _, _, n + 1, .cons h t => .cons h (t.take n)
theorem DenL.drop : ∀ {vs : List V} {ds : List D} (n : Nat), DenL K G vs ds → DenL K G (vs.drop n) (ds.drop n)
  | _, _, 0, h => h
  | _, _, _ + 1, .nil => .nil
  | _, _, n + 1, .cons _ t => t.drop n
theorem DenL.set {v : V} {d : D} (q : Den K G v d) : ∀ {vs : List V} {ds : List D} (n : Nat), DenL K G vs ds → DenL K G (vs.set n v) (ds.set n d)
  | _, _, _, .nil => .nil
  | _, _, 0, .cons _ t => .cons q t
  | _, _, n + 1, .cons h t => .cons h (t.set q n)
theorem DenL.reverse {vs : List V} {ds : List D} (h : DenL K G vs ds) : DenL K G vs.reverse ds.reverse := by
  induction h using DenL.rec (motive_1 := fun _ _ _ => True) (motive_3 := fun _ _ _ => True) (motive_4 := fun _ _ _ => True) <;> first
    | trivial
    | exact .nil
    | (rename_i h _ _ ih; rw [List.reverse_cons, List.reverse_cons]; exact ih.append (.cons h .nil))
/-- data without a heap -/
def flat : D → Bool
  | .none | .bool _ | .int _ | .str _ => true
  | _ => false
theorem Den.flat {v : V} {d : D} (h : Den K G v d) (f : flat d = true) (G' : Hp) : Den K G' v d := by
  cases h <;> first
    | exact .non
    | exact .bl _
    | exact .int _
    | exact .str _
    | exact absurd f (by simp [DL.flat])
theorem Den.of_int {v : V} {i : Int} (h : Den K G v (.int i)) : v = .int i := by cases h; rfl
theorem Den.of_bool {v : V} {b : Bool} (h : Den K G v (.bool b)) : v = .bl b := by cases h; rfl
theorem Den.of_str {v : V} {x : Str} (h : Den K G v (.str x)) : v = .str x := by cases h; rfl
theorem Den.of_tup {v : V} {ds : List D} (h : Den K G v (.tuple ds)) : ∃ a xs, v = .ref a ∧ SqU G a xs ∧ DenL K G xs ds := by
  cases h with
  | tup s l => exact ⟨_, _, rfl, s, l⟩
theorem Den.of_lst {v : V} {ds : List D} (h : Den K G v (.list ds)) : ∃ a xs, v = .ref a ∧ SqX K G a xs ∧ DenL K G xs ds := by
  cases h with
  | lst s l => exact ⟨_, _, rfl, s, l⟩
end
/-! ### owned trees -/
inductive T where
  | fz (d : D)
  | ol (ts : List T)
  | ot (ts : List T)
  | od (kvs : List (D × T))
mutual
def T.er : T → D
  | .fz d => d
  | .ol ts => .list (T.erL ts)
  | .ot ts => .tuple (T.erL ts)
  | .od kvs => .dict (T.erK kvs)
def T.erL : List T → List D
  | [] => []
  | t :: r => t.er :: T.erL r
def T.erK : List (D × T) → List (D × D)
  | [] => []
  | (k, t) :: r => (k, t.er) :: T.erK r
end
theorem T.erL_fz (ds : List D) : T.erL (ds.map T.fz) = ds := by
  induction ds with
  | nil => simp [T.erL]
  | cons d r ih => simp [T.erL, T.er, ih]
mutual
inductive Own (K : Frg) (G H : Hp) : V → T → List Addr → Prop
  | fz {v : V} {d : D} : Den K G v d → Own K G H v (.fz d) []
  | ol {a : Addr} {vs : List V} {ts : List T} {F : List Addr} : H a = some (.lst vs) → OwnL K G H vs ts F → Own K G H (.ref a) (.ol ts) (a :: F)
  | ot {a : Addr} {vs : List V} {ts : List T} {F : List Addr} : SqU G a vs → OwnL K G H vs ts F → Own K G H (.ref a) (.ot ts) F
  | odk {a : Addr} {ks : List (Key × V)} {kvs : List (D × T)} {F : List Addr} : H a = some (.dK ks) → OwnK K G H ks kvs F → Own K G H (.ref a) (.od kvs) (a :: F)
  | odt {a : Addr} {ks : List (List Key × V)} {kvs : List (D × T)} {F : List Addr} : H a = some (.dT ks) → OwnT K G H ks kvs F → ks ≠ [] → Own K G H (.ref a) (.od kvs) (a :: F)
inductive OwnL (K : Frg) (G H : Hp) : List V → List T → List Addr → Prop
  | nil : OwnL K G H [] [] []
  | cons {v : V} {vs : List V} {t : T} {ts : List T} {F F' : List Addr} : Own K G H v t F → OwnL K G H vs ts F' → OwnL K G H (v :: vs) (t :: ts) (F ++ F')
inductive OwnK (K : Frg) (G H : Hp) : List (Key × V) → List (D × T) → List Addr → Prop
  | nil : OwnK K G H [] [] []
  | cons {k : Key} {v : V} {ks : List (Key × V)} {t : T} {kvs : List (D × T)} {F F' : List Addr} : Own K G H v t F → OwnK K G H ks kvs F' → OwnK K G H ((k, v) :: ks) ((keyD k, t) :: kvs) (F ++ F')
inductive OwnT (K : Frg) (G H : Hp) : List (List Key × V) → List (D × T) → List Addr → Prop
  | nil : OwnT K G H [] [] []
  | cons {k : List Key} {v : V} {ks : List (List Key × V)} {t : T} {kvs : List (D × T)} {F F' : List Addr} : Own K G H v t F → OwnT K G H ks kvs F' → OwnT K G H ((k, v) :: ks) ((.tuple (k.map keyD), t) :: kvs) (F ++ F')
end
section
variable {K : Frg} {G H G' H' : Hp}
/- an owned thing stays while its own objects do -/
mutual
theorem Own.stay (g : GLe G G') : ∀ {v : V} {t : T} {F : List Addr}, (∀ a ∈ F, H' a = H a) → Own K G H v t F → Own K G' H' v t F
  | _, _, _, _, .fz d => .fz (d.up g)
  | _, _, _, k, .ol h l => .ol (by rw [k _ List.mem_cons_self]; exact h) (l.stay g fun a m => k a (List.mem_cons_of_mem _ m))
  | _, _, _, k, .ot h l => .ot (g.sqU h) (l.stay g k)
  | _, _, _, k, .odk h l => .odk (by rw [k _ List.mem_cons_self]; exact h) (l.stay g fun a m => k a (List.mem_cons_of_mem _ m))
  | _, _, _, k, .odt h l n => .odt (by rw [k _ List.mem_cons_self]; exact h) (l.stay g fun a m => k a (List.mem_cons_of_mem _ m)) n
theorem OwnL.stay (g : GLe G G') : ∀ {v : List V} {t : List T} {F : List Addr}, (∀ a ∈ F, H' a = H a) → OwnL K G H v t F → OwnL K G' H' v t F
  | _, _, _, _, .nil => .nil
  | _, _, _, k, .cons h l => .cons (h.stay g fun a m => k a (List.mem_append_left _ m)) (l.stay g fun a m => k a (List.mem_append_right _ m))
theorem OwnK.stay (g : GLe G G') : ∀ {v : List (Key × V)} {t : List (D × T)} {F : List Addr}, (∀ a ∈ F, H' a = H a) → OwnK K G H v t F → OwnK K G' H' v t F
  | _, _, _, _, .nil => .nil
  | _, _, _, k, .cons h l => .cons (h.stay g fun a m => k a (List.mem_append_left _ m)) (l.stay g fun a m => k a (List.mem_append_right _ m))
theorem OwnT.stay (g : GLe G G') : ∀ {v : List (List Key × V)} {t : List (D × T)} {F : List Addr}, (∀ a ∈ F, H' a = H a) → OwnT K G H v t F → OwnT K G' H' v t F
  | _, _, _, _, .nil => .nil
  | _, _, _, k, .cons h l => .cons (h.stay g fun a m => k a (List.mem_append_left _ m)) (l.stay g fun a m => k a (List.mem_append_right _ m))
end
/- what it stands for, by the frozen part and its own objects -/
mutual
theorem Own.den {Z : Hp} (g : GLe G Z) : ∀ {v : V} {t : T} {F : List Addr}, (∀ a ∈ F, Z a = H a) → Own K G H v t F → Den K Z v t.er
  | _, _, _, _, .fz d => by rw [T.er]; exact d.up g
  | _, _, _, k, .ol h l => by rw [T.er]; exact .lst (.inl (.inl (by rw [k _ List.mem_cons_self]; exact h))) (l.den g fun a m => k a (List.mem_cons_of_mem _ m))
  | _, _, _, k, .ot h l => by rw [T.er]; exact .tup (g.sqU h) (l.den g k)
  | _, _, _, k, .odk h l => by rw [T.er]; exact .dk (.inl (by rw [k _ List.mem_cons_self]; exact h)) (l.den g fun a m => k a (List.mem_cons_of_mem _ m))
  | _, _, _, k, .odt h l n => by rw [T.er]; exact .dt (.inl (by rw [k _ List.mem_cons_self]; exact h)) (l.den g fun a m => k a (List.mem_cons_of_mem _ m)) n
theorem OwnL.den {Z : Hp} (g : GLe G Z) : ∀ {v : List V} {t : List T} {F : List Addr}, (∀ a ∈ F, Z a = H a) → OwnL K G H v t F → DenL K Z v (T.erL t)
  | _, _, _, _, .nil => by rw [T.erL]; exact .nil
  | _, _, _, k, .cons h l => by rw [T.erL]; exact .cons (h.den g fun a m => k a (List.mem_append_left _ m)) (l.den g fun a m => k a (List.mem_append_right _ m))
theorem OwnK.den {Z : Hp} (g : GLe G Z) : ∀ {v : List (Key × V)} {t : List (D × T)} {F : List Addr}, (∀ a ∈ F, Z a = H a) → OwnK K G H v t F → DenK K Z v (T.erK t)
  | _, _, _, _, .nil => by rw [T.erK]; exact .nil
  | _, _, _, k, .cons h l => by rw [T.erK]; exact .cons (h.den g fun a m => k a (List.mem_append_left _ m)) (l.den g fun a m => k a (List.mem_append_right _ m))
theorem OwnT.den {Z : Hp} (g : GLe G Z) : ∀ {v : List (List Key × V)} {t : List (D × T)} {F : List Addr}, (∀ a ∈ F, Z a = H a) → OwnT K G H v t F → DenT K Z v (T.erK t)
  | _, _, _, _, .nil => by rw [T.erK]; exact .nil
  | _, _, _, k, .cons h l => by rw [T.erK]; exact .cons (h.den g fun a m => k a (List.mem_append_left _ m)) (l.den g fun a m => k a (List.mem_append_right _ m))
end
/-- an owned object is a list or a dict -/
def box : Option HO → Prop
  | some (.lst _) => True
  | some (.dK _) => True
  | some (.dT _) => True
  | _ => False
mutual
theorem Own.boxes : ∀ {v : V} {t : T} {F : List Addr}, Own K G H v t F → ∀ a ∈ F, box (H a)
  | _, _, _, .fz _, _, m => nomatch m
  | _, _, _, .ol h l, a, m => by
    rcases List.mem_cons.mp m with e | m
    · rw [e, h]; trivial
    · exact l.boxes a m
  | _, _, _, .ot _ l, a, m => l.boxes a m
  | _, _, _, .odk h l, a, m => by
    rcases List.mem_cons.mp m with e | m
    · rw [e, h]; trivial
    · exact l.boxes a m
  | _, _, _, .odt h l _, a, m => by
    rcases List.mem_cons.mp m with e | m
    · rw [e, h]; trivial
    · exact l.boxes a m
theorem OwnL.boxes : ∀ {v : List V} {t : List T} {F : List Addr}, OwnL K G H v t F → ∀ a ∈ F, box (H a)
  | _, _, _, .nil, _, m => nomatch m
  | _, _, _, .cons h l, a, m => by
    rcases List.mem_append.mp m with m | m
    · exact h.boxes a m
    · exact l.boxes a m
theorem OwnK.boxes : ∀ {v : List (Key × V)} {t : List (D × T)} {F : List Addr}, OwnK K G H v t F → ∀ a ∈ F, box (H a)
  | _, _, _, .nil, _, m => nomatch m
  | _, _, _, .cons h l, a, m => by
    rcases List.mem_append.mp m with m | m
    · exact h.boxes a m
    · exact l.boxes a m
theorem OwnT.boxes : ∀ {v : List (List Key × V)} {t : List (D × T)} {F : List Addr}, OwnT K G H v t F → ∀ a ∈ F, box (H a)
  | _, _, _, .nil, _, m => nomatch m
  | _, _, _, .cons h l, a, m => by
    rcases List.mem_append.mp m with m | m
    · exact h.boxes a m
    · exact l.boxes a m
end
theorem box_some {o : Option HO} (h : box o) : ∃ u, o = some u := by
  cases o with
  | none => exact h.elim
  | some u => exact ⟨u, rfl⟩
end
/-! ### the slots, a state, a step -/
abbrev Env := List (Option T)
inductive Slots (K : Frg) (G H : Hp) : L2.St → Env → List Addr → Prop
  | nil : Slots K G H [] [] []
  | no {x : Option V} {σ : L2.St} {env : Env} {F : List Addr} : Slots K G H σ env F → Slots K G H (x :: σ) (none :: env) F
  | so {v : V} {t : T} {σ : L2.St} {env : Env} {F F' : List Addr} : Own K G H v t F → Slots K G H σ env F' → Slots K G H (some v :: σ) (some t :: env) (F ++ F')
structure Sta (K : Frg) (G H : Hp) (σ : L2.St) (env : Env) (Fp : List Addr) : Prop where
  le : GLe G H
  sl : Slots K G H σ env Fp
  nd : Fp.Nodup
  ap : ∀ a ∈ Fp, G a = none
structure Step (G H : Hp) (Fp : List Addr) (G' H' : Hp) (Fp' : List Addr) : Prop where
  keep : ∀ a o, H a = some o → a ∉ Fp → H' a = some o
  sub : Same G G'
  frG : ∀ a, G' a ≠ none → G a ≠ none ∨ H a = none ∨ a ∈ Fp ∨ ∃ xs, H a = some (.tup xs)
  frF : ∀ a ∈ Fp', H a = none ∨ a ∈ Fp
theorem Step.refl {G H : Hp} {Fp : List Addr} : Step G H Fp G H Fp := ⟨fun _ _ h _ => h, Same.refl _, fun _ h => .inl h, fun _ h => .inr h⟩
theorem Step.trans {G H G1 H1 G2 H2 : Hp} {F F1 F2 : List Addr} (a : Step G H F G1 H1 F1) (b : Step G1 H1 F1 G2 H2 F2) : Step G H F G2 H2 F2 := by
  refine ⟨fun x o h n => b.keep x o (a.keep x o h n) fun m => ?_, a.sub.trans b.sub, fun x h => ?_, fun x h => ?_⟩
  · rcases a.frF x m with z | z
    · rw [h] at z; cases z
    · exact n z
  · have back : H1 x = none → H x = none ∨ x ∈ F := fun q => by
      by_cases m : x ∈ F
      · exact .inr m
      · cases e : H x with
        | none => exact .inl rfl
        | some o => rw [a.keep x o e m] at q; cases q
    rcases b.frG x h with q | q | q | ⟨xs, q⟩
    · exact a.frG x q
    · rcases back q with z | z
      · exact .inr (.inl z)
      · exact .inr (.inr (.inl z))
    · rcases a.frF x q with z | z
      · exact .inr (.inl z)
      · exact .inr (.inr (.inl z))
    · by_cases m : x ∈ F
      · exact .inr (.inr (.inl m))
      · cases e : H x with
        | none => exact .inr (.inl rfl)
        | some o =>
          have z := a.keep x o e m
          rw [q] at z
          cases z
          exact .inr (.inr (.inr ⟨xs, rfl⟩))
  · rcases b.frF x h with q | q
    · by_cases m : x ∈ F
      · exact .inr m
      · cases e : H x with
        | none => exact .inl rfl
        | some o => rw [a.keep x o e m] at q; cases q
    · exact a.frF x q
/-- new objects, some of them frozen, some tuples frozen: nothing else changes -/
structure Grow (G H G' H' : Hp) : Prop where
  same : Same H H'
  sub : Same G G'
  le : GLe G' H'
  frG : ∀ a, G' a ≠ none → G a ≠ none ∨ H a = none ∨ ∃ xs, H a = some (.tup xs)
section
variable {K : Frg} {G H G' H' G'' H'' : Hp} {σ : L2.St} {env : Env} {Fp : List Addr}
theorem Grow.refl (g : GLe G H) : Grow G H G H := ⟨Same.refl _, Same.refl _, g, fun _ h => .inl h⟩
theorem Grow.step (g : Grow G H G' H') : Step G H Fp G' H' Fp := ⟨fun a o h _ => g.same a o h, g.sub, fun a h => by
  rcases g.frG a h with q | q | q
  · exact .inl q
  · exact .inr (.inl q)
  · exact .inr (.inr (.inr q)), fun _ h => .inr h⟩
theorem Grow.trans (a : Grow G H G' H') (b : Grow G' H' G'' H'') : Grow G H G'' H'' := by
  refine ⟨a.same.trans b.same, a.sub.trans b.sub, b.le, fun x h => ?_⟩
  rcases b.frG x h with q | q | ⟨xs, q⟩
  · exact a.frG x q
  · exact .inr (.inl (a.same.free q))
  · cases e : H x with
    | none => exact .inr (.inl rfl)
    | some o =>
      have z := a.same x o e
      rw [q] at z
      cases z
      exact .inr (.inr ⟨xs, rfl⟩)
theorem Slots.boxes : ∀ {σ : L2.St} {env : Env} {F : List Addr}, Slots K G H σ env F → ∀ a ∈ F, box (H a)
  | _, _, _, .nil, _, m => nomatch m
  | _, _, _, .no r, a, m => r.boxes a m
  | _, _, _, .so h r, a, m => by
    rcases List.mem_append.mp m with m | m
    · exact h.boxes a m
    · exact r.boxes a m
theorem Slots.stay (g : GLe G G') : ∀ {σ : L2.St} {env : Env} {F : List Addr}, (∀ a ∈ F, H' a = H a) → Slots K G H σ env F → Slots K G' H' σ env F
  | _, _, _, _, .nil => .nil
  | _, _, _, k, .no r => .no (r.stay g k)
  | _, _, _, k, .so h r => .so (h.stay g fun a m => k a (List.mem_append_left _ m)) (r.stay g fun a m => k a (List.mem_append_right _ m))
theorem Slots.len : ∀ {σ : L2.St} {env : Env} {F : List Addr}, Slots K G H σ env F → σ.length = env.length
  | _, _, _, .nil => rfl
  | _, _, _, .no r => congrArg (· + 1) r.len
  | _, _, _, .so _ r => congrArg (· + 1) r.len
theorem same_box (s : Same H H') {a : Addr} (b : box (H a)) : H' a = H a := by
  obtain ⟨u, e⟩ := box_some b
  rw [e]; exact s a u e
theorem Sta.grow (S : Sta K G H σ env Fp) (g : Grow G H G' H') : Sta K G' H' σ env Fp := by
  refine ⟨g.le, S.sl.stay (same_gle g.sub) (fun a m => same_box g.same (S.sl.boxes a m)), S.nd, fun a m => ?_⟩
  have b := S.sl.boxes a m
  cases e : G' a with
  | none => rfl
  | some o =>
    rcases g.frG a (by rw [e]; exact fun z => nomatch z) with q | q | ⟨xs, q⟩
    · exact absurd (S.ap a m) q
    · rw [q] at b; exact b.elim
    · rw [q] at b; exact b.elim
/-- the whole heap as it is -/
theorem Sta.view (S : Sta K G H σ env Fp) {v : V} {d : D} (h : Den K G v d) : Den K H v d := h.up S.le
/-- a slot that is known -/
theorem Slots.at : ∀ {σ : L2.St} {env : Env} {F : List Addr} {i : Nat} {t : T}, Slots K G H σ env F → env[i]? = some (some t) → ∃ v F0, σ[i]? = some (some v) ∧ Own K G H v t F0 ∧ ∀ a ∈ F0, a ∈ F
  | _, _, _, 0, _, .so h r, e => by cases e; exact ⟨_, _, rfl, h, fun a m => List.mem_append_left _ m⟩
  | _, _, _, i + 1, t, .so h r, e => by
    obtain ⟨v, F0, e1, o, k⟩ := Slots.at (i := i) r e
    exact ⟨v, F0, e1, o, fun a m => List.mem_append_right _ (k a m)⟩
  | _, _, _, 0, _, .no r, e => by cases e
  | _, _, _, i + 1, t, .no r, e => Slots.at (i := i) r e
end
end DL
/-! The data layer, part B: what code computes on data, judgements, sequencing. -/
namespace DL
open PySem L2
structure Exc where
  cls : Str
  fs : List (Str × D)
inductive Rs (α : Type) where
  | bad
  | ok (a : α) (env : Env)
  | exn (x : Exc) (env : Env)
abbrev M (α : Type) := Env → Rs α
def M.pure {α : Type} (a : α) : M α := fun env => .ok a env
def M.bind {α β : Type} (m : M α) (f : α → M β) : M β := fun env => match m env with
  | .bad => .bad
  | .ok a e => f a e
  | .exn x e => .exn x e
def M.lift {α : Type} (o : Option α) : M α := fun env => match o with
  | none => .bad
  | some a => .ok a env
def M.map {α β : Type} (f : α → β) (m : M α) : M β := m.bind fun a => M.pure (f a)
theorem M.bind_ok {α β : Type} {m : M α} {f : α → M β} {env env' : Env} {a : α} (h : m env = .ok a env') : (m.bind f) env = f a env' := by unfold M.bind; rw [h]
theorem M.bind_bad {α β : Type} {m : M α} {f : α → M β} {env : Env} (h : m env = .bad) : (m.bind f) env = .bad := by unfold M.bind; rw [h]
theorem M.bind_exn {α β : Type} {m : M α} {f : α → M β} {env env' : Env} {x : Exc} (h : m env = .exn x env') : (m.bind f) env = .exn x env' := by unfold M.bind; rw [h]
def ExcOk (K : Frg) (mg : Str → Option Value) (G H : Hp) (x : Exc) (cls : Value) (dd : Option Addr) : Prop :=
  mg x.cls = some cls ∧ match x.fs with
  | [] => dd = none
  | (f, d) :: _ => ∃ a v, dd = some a ∧ H a = some (.xd [(f, v)]) ∧ Den K G v d
def Post {α β : Type} (K : Frg) (mg : Str → Option Value) (W : WX) (Vr : Hp → Hp → β → α → List Addr → Prop) (pu : Bool) (σ : L2.St) (G H : Hp) (Fp : List Addr) (env : Env) (Q : β → Hp → Prop) : Rs α → Prop
  | .bad => False
  | .ok a env' => ∀ b G' H' Fp' Fr, Step G H Fp G' H' (Fr ++ Fp') → Sta K G' H' σ env' Fp' → (Fr ++ Fp').Nodup → (∀ x ∈ Fr, G' x = none) → (pu = true → env' = env ∧ Fp' = Fp ∧ Grow G H G' H') → Vr G' H' b a Fr → Q b H'
  | .exn x env' => ∀ cls dd G' H' Fp', Step G H Fp G' H' Fp' → Sta K G' H' σ env' Fp' → ExcOk K mg G' H' x cls dd → W cls dd σ H'
section
variable {X : Cx} {W : WX} {α β γ δ : Type} {Vr : Hp → Hp → β → α → List Addr → Prop} {Ur : Hp → Hp → δ → γ → List Addr → Prop} {pu pu1 pu2 : Bool} {σ : L2.St} {G H G1 H1 : Hp} {Fp Fp1 : List Addr} {env env1 : Env} {Q : β → Hp → Prop} {R : δ → Hp → Prop}
/-- from a later state on -/
theorem Post.shift {r : Rs α} (h : Post X.K X.mg W Vr (pu1 && pu2) σ G H Fp env Q r) (st : Step G H Fp G1 H1 Fp1) (p : pu1 = true → env1 = env ∧ Fp1 = Fp ∧ Grow G H G1 H1) : Post X.K X.mg W Vr pu2 σ G1 H1 Fp1 env1 Q r := by
  cases r with
  | bad => exact h
  | ok a env' =>
    intro b G' H' Fp' Fr st' S nd ap q v
    refine h b G' H' Fp' Fr (st.trans st') S nd ap (fun z => ?_) v
    obtain ⟨z1, z2⟩ := Bool.and_eq_true_iff.mp z
    obtain ⟨e1, f1, g1⟩ := p z1
    obtain ⟨e2, f2, g2⟩ := q z2
    exact ⟨e2.trans e1, f2.trans f1, g1.trans g2⟩
  | exn x env' => exact fun cls dd G' H' Fp' st' S e => h cls dd G' H' Fp' (st.trans st') S e
/-- one after the other -/
theorem Post.bind {m : M γ} {f : γ → M α} (h : Post X.K X.mg W Vr (pu1 && pu2) σ G H Fp env Q ((m.bind f) env)) (hV : ∀ G H b a Fr, Ur G H b a Fr → Fr = [])
    (k : ∀ a env1 b G1 H1 Fp1, Step G H Fp G1 H1 Fp1 → Sta X.K G1 H1 σ env1 Fp1 → (pu1 = true → env1 = env ∧ Fp1 = Fp ∧ Grow G H G1 H1) → Ur G1 H1 b a [] → Post X.K X.mg W Vr pu2 σ G1 H1 Fp1 env1 Q (f a env1) → R b H1) :
    Post X.K X.mg W Ur pu1 σ G H Fp env R (m env) := by
  cases e : m env with
  | bad => rw [M.bind_bad e] at h; exact h
  | exn x env' => rw [M.bind_exn e] at h; exact h
  | ok a env' =>
    rw [M.bind_ok e] at h
    intro b G' H' Fp' Fr st S nd ap p v
    obtain rfl := hV _ _ _ _ _ v
    exact k a env' b G' H' Fp' st S p v (h.shift st p)
theorem Post.bindE {m : M γ} {f : γ → M α} (h : Post X.K X.mg W Vr (pu1 && pu2) σ G H Fp env Q ((m.bind f) env)) (hV : ∀ G H b a Fr, Ur G H b a Fr → Fr = [])
    (k : ∀ a env1 b G1 H1 Fp1, m env = .ok a env1 → Step G H Fp G1 H1 Fp1 → Sta X.K G1 H1 σ env1 Fp1 → (pu1 = true → env1 = env ∧ Fp1 = Fp ∧ Grow G H G1 H1) → Ur G1 H1 b a [] → Post X.K X.mg W Vr pu2 σ G1 H1 Fp1 env1 Q (f a env1) → R b H1) :
    Post X.K X.mg W Ur pu1 σ G H Fp env R (m env) := by
  cases e : m env with
  | bad => rw [M.bind_bad e] at h; exact h
  | exn x env' => rw [M.bind_exn e] at h; exact h
  | ok a env' =>
    rw [M.bind_ok e] at h
    intro b G' H' Fp' Fr st S nd ap p v
    obtain rfl := hV _ _ _ _ _ v
    exact k a env' b G' H' Fp' e st S p v (h.shift st p)
/-- the end: a value that is there -/
theorem Post.lift {o : Option α} (h : Post X.K X.mg W Vr true σ G H Fp env Q (M.lift o env)) (S : Sta X.K G H σ env Fp) : ∃ a, o = some a ∧ ∀ b G' H' Fr, Grow G H G' H' → Step G H Fp G' H' (Fr ++ Fp) → (Fr ++ Fp).Nodup → (∀ x ∈ Fr, G' x = none) → Vr G' H' b a Fr → Q b H' := by
  cases o with
  | none => exact h.elim
  | some a => exact ⟨a, rfl, fun b G' H' Fr g st nd ap v => h b G' H' Fp Fr st (S.grow g) nd ap (fun _ => ⟨rfl, rfl, g⟩) v⟩
theorem Post.lift0 {o : Option α} (h : Post X.K X.mg W Vr true σ G H Fp env Q (M.lift o env)) (S : Sta X.K G H σ env Fp) : ∃ a, o = some a ∧ ∀ b G' H', Grow G H G' H' → Vr G' H' b a [] → Q b H' := by
  obtain ⟨a, e, k⟩ := h.lift S
  exact ⟨a, e, fun b G' H' g v => k b G' H' [] g g.step S.nd (fun _ m => nomatch m) v⟩
theorem Post.imp {δ : Type} {Wr : Hp → Hp → δ → α → List Addr → Prop} {R : δ → Hp → Prop} {r : Rs α} (h : Post X.K X.mg W Vr pu σ G H Fp env Q r) (k : ∀ b a G' H' Fr, Wr G' H' b a Fr → ∃ c, Vr G' H' c a Fr ∧ (Q c H' → R b H')) : Post X.K X.mg W Wr pu σ G H Fp env R r := by
  cases r with
  | bad => exact h
  | ok a env' =>
    intro b G' H' Fp' Fr st S nd ap q v
    obtain ⟨c, v', kq⟩ := k b a G' H' Fr v
    exact kq (h c G' H' Fp' Fr st S nd ap q v')
  | exn x env' => exact h
theorem Post.pure_less {r : Rs α} (h : Post X.K X.mg W Vr false σ G H Fp env Q r) : Post X.K X.mg W Vr pu σ G H Fp env Q r := by
  cases r with
  | bad => exact h
  | ok a env' => exact fun b G' H' Fp' Fr st S nd ap _ v => h b G' H' Fp' Fr st S nd ap (fun z => nomatch z) v
  | exn x env' => exact h
end
/-! ### judgements -/
inductive Md where
  | view | frz
def VrD (K : Frg) (md : Md) : Hp → Hp → V → D → List Addr → Prop := fun G H v d Fr => Fr = [] ∧ match md with
  | .view => Den K H v d
  | .frz => Den K G v d
def VrT (K : Frg) : Hp → Hp → V → T → List Addr → Prop := fun G H v t Fr => Own K G H v t Fr
def VrB : Hp → Hp → Bool → Bool → List Addr → Prop := fun _ _ b a Fr => Fr = [] ∧ b = a
def VrL (K : Frg) (md : Md) : Hp → Hp → List V → List D → List Addr → Prop := fun G H v d Fr => Fr = [] ∧ match md with
  | .view => DenL K H v d
  | .frz => DenL K G v d
def VrTs (K : Frg) : Hp → Hp → List V → List T → List Addr → Prop := fun G H v t Fr => OwnL K G H v t Fr
section
variable (X : Cx) (W : WX)
/-- an expression computes data -/
def Ex (md : Md) (pu : Bool) (e : Expr) (m : M D) : Prop :=
  ∃ te : TE, PE X e te ∧ ∀ G H σ env Fp Q, Sta X.K G H σ env Fp → Post X.K X.mg W (VrD X.K md) pu σ G H Fp env Q (m env) → te σ H Q
/-- an expression makes an owned tree -/
def Eo (pu : Bool) (e : Expr) (m : M T) : Prop :=
  ∃ te : TE, PE X e te ∧ ∀ G H σ env Fp Q, Sta X.K G H σ env Fp → Post X.K X.mg W (VrT X.K) pu σ G H Fp env Q (m env) → te σ H Q
/-- a test -/
def Et (pu : Bool) (e : Expr) (m : M Bool) : Prop :=
  ∃ tt : TT, PT X e tt ∧ ∀ G H σ env Fp Q, Sta X.K G H σ env Fp → Post X.K X.mg W VrB pu σ G H Fp env Q (m env) → tt σ H Q
/-- a chain of and, or -/
def Ew (pu : Bool) (e : Expr) (m : M Bool) : Prop :=
  ∃ tt : TT, PW X e tt ∧ ∀ G H σ env Fp Q, Sta X.K G H σ env Fp → Post X.K X.mg W VrB pu σ G H Fp env Q (m env) → tt σ H Q
/-- arguments -/
def Ea (md : Md) (pu : Bool) (es : List Expr) (m : M (List D)) : Prop :=
  ∃ ta : TA, PA X es ta ∧ ∀ G H σ env Fp Q, Sta X.K G H σ env Fp → Post X.K X.mg W (VrL X.K md) pu σ G H Fp env Q (m env) → ta σ H Q
def Ey (pu : Bool) (es : List Expr) (m : M (List T)) : Prop :=
  ∃ ta : TA, PA X es ta ∧ ∀ G H σ env Fp Q, Sta X.K G H σ env Fp → Post X.K X.mg W (VrTs X.K) pu σ G H Fp env Q (m env) → ta σ H Q
end
section
variable {X : Cx} {W : WX} {md : Md} {pu pa pb : Bool} {e a b c : Expr} {es : List Expr} {m ma mb : M D} {mt : M T} {pos : Pos}
theorem vrd_nil {K : Frg} {md : Md} : ∀ G H v d Fr, VrD K md G H v d Fr → Fr = [] := fun _ _ _ _ _ h => h.1
theorem vrb_nil : ∀ G H v d Fr, VrB G H v d Fr → Fr = [] := fun _ _ _ _ _ h => h.1
theorem vrl_nil {K : Frg} {md : Md} : ∀ G H v d Fr, VrL K md G H v d Fr → Fr = [] := fun _ _ _ _ _ h => h.1
theorem VrD.den {K : Frg} {md : Md} {G H : Hp} {v : V} {d : D} {Fr : List Addr} (g : GLe G H) (h : VrD K md G H v d Fr) : Den K H v d := by
  cases md with
  | view => exact h.2
  | frz => exact h.2.up g
/-! ### changing a judgement -/
theorem Ex.toView (h : Ex X W .frz pu e m) : Ex X W .view pu e m := by
  obtain ⟨te, p, k⟩ := h
  refine ⟨te, p, fun G H σ env Fp Q S q => k G H σ env Fp Q S ?_⟩
  cases r : m env with
  | bad => rw [r] at q; exact q
  | exn x env' => rw [r] at q; exact q
  | ok d env' =>
    rw [r] at q
    exact fun b G' H' Fp' Fr st S' nd ap p v => q b G' H' Fp' Fr st S' nd ap p ⟨v.1, v.2.up S'.le⟩
theorem Ex.impure (h : Ex X W md pu e m) : Ex X W md false e m := by
  obtain ⟨te, p, k⟩ := h
  exact ⟨te, p, fun G H σ env Fp Q S q => k G H σ env Fp Q S q.pure_less⟩
theorem Eo.impure (h : Eo X W pu e mt) : Eo X W false e mt := by
  obtain ⟨te, p, k⟩ := h
  exact ⟨te, p, fun G H σ env Fp Q S q => k G H σ env Fp Q S q.pure_less⟩
/-- data that has no heap -/
theorem Ex.sc (h : Ex X W .view pu e m) (hs : ∀ env d env', m env = .ok d env' → flat d = true) : Ex X W .frz pu e m := by
  obtain ⟨te, p, k⟩ := h
  refine ⟨te, p, fun G H σ env Fp Q S q => k G H σ env Fp Q S ?_⟩
  cases r : m env with
  | bad => rw [r] at q; exact q
  | exn x env' => rw [r] at q; exact q
  | ok d env' =>
    rw [r] at q
    exact fun b G' H' Fp' Fr st S' nd ap p v => q b G' H' Fp' Fr st S' nd ap p ⟨v.1, Den.flat v.2 (hs _ _ _ r) G'⟩
/-- frozen data as an owned tree -/
theorem Ex.own (h : Ex X W .frz pu e m) : Eo X W pu e (m.map T.fz) := by
  obtain ⟨te, p, k⟩ := h
  refine ⟨te, p, fun G H σ env Fp Q S q => k G H σ env Fp Q S ?_⟩
  unfold M.map at q
  cases r : m env with
  | bad => rw [M.bind_bad r] at q; exact q
  | exn x env' => rw [M.bind_exn r] at q; exact q
  | ok d env' =>
    rw [M.bind_ok r] at q
    exact fun b G' H' Fp' Fr st S' nd ap p v => q b G' H' Fp' Fr st S' nd ap p (by obtain ⟨rfl, v⟩ := v; exact .fz v)
/-- freezing some owned objects -/
def frzAt (G H : Hp) (F : List Addr) : Hp := fun a => if a ∈ F then H a else G a
theorem frzAt_in {G H : Hp} {F : List Addr} {a : Addr} (h : a ∈ F) : frzAt G H F a = H a := by unfold frzAt; rw [if_pos h]
theorem frzAt_out {G H : Hp} {F : List Addr} {a : Addr} (h : a ∉ F) : frzAt G H F a = G a := by unfold frzAt; rw [if_neg h]
theorem frz_same {G H : Hp} {F : List Addr} (ap : ∀ a ∈ F, G a = none) : Same G (frzAt G H F) := fun a o h => by
  by_cases m : a ∈ F
  · rw [ap a m] at h; cases h
  · rw [frzAt_out m]; exact h
theorem frz_le {G H : Hp} {F : List Addr} (g : GLe G H) : GLe (frzAt G H F) H := fun a o h => by
  by_cases m : a ∈ F
  · rw [frzAt_in m] at h; exact .inl h
  · rw [frzAt_out m] at h; exact g a o h
/-- an owned tree is frozen -/
theorem Eo.freeze (h : Eo X W pu e mt) : Ex X W .frz pu e (mt.map T.er) := by
  obtain ⟨te, p, k⟩ := h
  refine ⟨te, p, fun G H σ env Fp Q S q => k G H σ env Fp Q S ?_⟩
  unfold M.map at q
  cases r : mt env with
  | bad => rw [M.bind_bad r] at q; exact q
  | exn x env' => rw [M.bind_exn r] at q; exact q
  | ok t env' =>
    rw [M.bind_ok r] at q
    intro b G' H' Fp' Fr st S' nd ap p v
    have sm : Same G' (frzAt G' H' Fr) := frz_same ap
    have gl : GLe (frzAt G' H' Fr) H' := frz_le S'.le
    have bx : ∀ a ∈ Fr, box (H' a) := v.boxes
    have nin : ∀ a ∈ Fp', a ∉ Fr := fun a m z => (List.nodup_append.mp nd).2.2 a z a m rfl
    have st2 : Step G H Fp (frzAt G' H' Fr) H' ([] ++ Fp') := ⟨st.keep, st.sub.trans sm, fun a ha => by
      by_cases m : a ∈ Fr
      · rcases st.frF a (List.mem_append_left _ m) with z | z
        · exact .inr (.inl z)
        · exact .inr (.inr (.inl z))
      · rw [frzAt_out m] at ha; exact st.frG a ha, fun a m => st.frF a (List.mem_append_right _ m)⟩
    refine q b (frzAt G' H' Fr) H' Fp' [] st2 ⟨gl, S'.sl.stay (same_gle sm) (fun _ _ => rfl), S'.nd, fun a m => ?_⟩ S'.nd (fun _ m => nomatch m) (fun z => ?_) ⟨rfl, v.den (same_gle sm) fun a m => frzAt_in m⟩
    · rw [frzAt_out (nin a m)]; exact S'.ap a m
    · obtain ⟨e1, e2, g⟩ := p z
      refine ⟨e1, e2, g.same, g.sub.trans sm, gl, fun a ha => ?_⟩
      by_cases m : a ∈ Fr
      · rcases st.frF a (List.mem_append_left _ m) with z | z
        · exact .inr (.inl z)
        · exact absurd m (nin a (by rw [e2]; exact z))
      · rw [frzAt_out m] at ha; exact g.frG a ha
/-- a test by a value that is a truth -/
def M.truth (m : M D) : M Bool := m.bind fun d => match d with
  | .bool b => M.pure b
  | _ => fun _ => .bad
end
end DL
/-! The data layer, part C: rules for expressions: names, constants, operators, comparisons, truth, displays. -/
namespace DL
open PySem L2
/-- the heap by which a mode reads -/
def gr (md : Md) (G H : Hp) : Hp := match md with
  | .view => H
  | .frz => G
theorem vrd_gr {K : Frg} {md : Md} {G H : Hp} {v : V} {d : D} {Fr : List Addr} : VrD K md G H v d Fr ↔ Fr = [] ∧ Den K (gr md G H) v d := by cases md <;> exact Iff.rfl
theorem vrl_gr {K : Frg} {md : Md} {G H : Hp} {v : List V} {d : List D} {Fr : List Addr} : VrL K md G H v d Fr ↔ Fr = [] ∧ DenL K (gr md G H) v d := by cases md <;> exact Iff.rfl
theorem gr_le {md : Md} {G H : Hp} (g : GLe G H) : GLe (gr md G H) H := by
  cases md
  · exact GLe.refl _
  · exact g
theorem gle_same {G H H' : Hp} (g : GLe G H) (s : Same H H') : GLe G H' := fun a o h => by
  rcases g a o h with q | ⟨n, b, q⟩
  · exact .inl (s a o q)
  · exact .inr ⟨n, b, s a _ q⟩
theorem grow_gr {K : Frg} {md : Md} {G H G1 H' : Hp} (g : GLe G H) (w : Grow (gr md G H) H G1 H') : ∃ G', Grow G H G' H' ∧ GLe G1 (gr md G' H') := by
  cases md with
  | frz => exact ⟨G1, w, GLe.refl _⟩
  | view => exact ⟨G, ⟨w.same, Same.refl _, gle_same g w.same, fun _ h => .inl h⟩, w.le⟩
/-- what was read before stays -/
theorem gr_stay {K : Frg} {md : Md} {pb : Bool} {G H G2 H2 : Hp} {Fp Fp2 : List Addr} {env env2 : Env} (hm : md = .frz ∨ pb = true) (st : Step G H Fp G2 H2 Fp2) (p : pb = true → env2 = env ∧ Fp2 = Fp ∧ Grow G H G2 H2) : GLe (gr md G H) (gr md G2 H2) := by
  cases md with
  | frz => exact same_gle st.sub
  | view =>
    rcases hm with z | z
    · cases z
    · exact same_gle (p z).2.2.same
/-! ### what readings of operations compute -/
def OpS (K : Frg) (r : R2) (g : D → D → Option D) : Prop := ∀ G H x y d1 d2 d Q, GLe G H → Den K G x d1 → Den K G y d2 → g d1 d2 = some d → (∀ v G' H', Grow G H G' H' → Den K G' v d → Q v H') → r x y H Q
def UnS (K : Frg) (r : V → Hp → VK → Prop) (g : D → Option D) : Prop := ∀ G H x d1 d Q, GLe G H → Den K G x d1 → g d1 = some d → (∀ v G' H', Grow G H G' H' → Den K G' v d → Q v H') → r x H Q
def CaS (K : Frg) (r : List V → Hp → VK → Prop) (g : List D → Option D) : Prop := ∀ G H xs ds d Q, GLe G H → DenL K G xs ds → g ds = some d → (∀ v G' H', Grow G H G' H' → Den K G' v d → Q v H') → r xs H Q
def CaO (K : Frg) (r : List V → Hp → VK → Prop) (g : List D → Option T) : Prop := ∀ G H xs ds t Q, GLe G H → DenL K G xs ds → g ds = some t →
  (∀ v G' H' F, Grow G H G' H' → Own K G' H' v t F → F.Nodup → (∀ a ∈ F, G' a = none ∧ H a = none) → Q v H') → r xs H Q
def OpO (K : Frg) (r : R2) (g : D → D → Option T) : Prop := ∀ G H x y d1 d2 t Q, GLe G H → Den K G x d1 → Den K G y d2 → g d1 d2 = some t →
  (∀ v G' H' F, Grow G H G' H' → Own K G' H' v t F → F.Nodup → (∀ a ∈ F, G' a = none ∧ H a = none) → Q v H') → r x y H Q
/-- the answers have no heap -/
def Flat2 (g : D → D → Option D) : Prop := ∀ a b d, g a b = some d → flat d = true
def Flat1 (g : D → Option D) : Prop := ∀ a d, g a = some d → flat d = true
def FlatL (g : List D → Option D) : Prop := ∀ a d, g a = some d → flat d = true
def orO {α : Type} : Option α → Option α → Option α
  | some a, _ => some a
  | none, b => b
theorem orO_some {α : Type} {a b : Option α} {c : α} (h : orO a b = some c) : a = some c ∨ b = some c := by
  cases a with
  | some x => exact .inl h
  | none => exact .inr h
theorem OpS.or {K : Frg} {r r' : R2} {g g' : D → D → Option D} (h : OpS K r g) (h' : OpS K r' g') : OpS K (fun x y H Q => r x y H Q ∨ r' x y H Q) (fun a b => orO (g a b) (g' a b)) :=
  fun G H x y d1 d2 d Q gl e1 e2 e k => by
    rcases orO_some e with e | e
    · exact .inl (h G H x y d1 d2 d Q gl e1 e2 e k)
    · exact .inr (h' G H x y d1 d2 d Q gl e1 e2 e k)
theorem OpO.or {K : Frg} {r r' : R2} {g g' : D → D → Option T} (h : OpO K r g) (h' : OpO K r' g') : OpO K (fun x y H Q => r x y H Q ∨ r' x y H Q) (fun a b => orO (g a b) (g' a b)) :=
  fun G H x y d1 d2 d Q gl e1 e2 e k => by
    rcases orO_some e with e | e
    · exact .inl (h G H x y d1 d2 d Q gl e1 e2 e k)
    · exact .inr (h' G H x y d1 d2 d Q gl e1 e2 e k)
theorem CaS.or {K : Frg} {r r' : List V → Hp → VK → Prop} {g g' : List D → Option D} (h : CaS K r g) (h' : CaS K r' g') : CaS K (fun xs H Q => r xs H Q ∨ r' xs H Q) (fun a => orO (g a) (g' a)) :=
  fun G H xs ds d Q gl e1 e k => by
    rcases orO_some e with e | e
    · exact .inl (h G H xs ds d Q gl e1 e k)
    · exact .inr (h' G H xs ds d Q gl e1 e k)
theorem CaO.or {K : Frg} {r r' : List V → Hp → VK → Prop} {g g' : List D → Option T} (h : CaO K r g) (h' : CaO K r' g') : CaO K (fun xs H Q => r xs H Q ∨ r' xs H Q) (fun a => orO (g a) (g' a)) :=
  fun G H xs ds d Q gl e1 e k => by
    rcases orO_some e with e | e
    · exact .inl (h G H xs ds d Q gl e1 e k)
    · exact .inr (h' G H xs ds d Q gl e1 e k)
/-- owned, then frozen -/
theorem own_frz {K : Frg} {G H G' H' : Hp} {v : V} {t : T} {F : List Addr} (w : Grow G H G' H') (o : Own K G' H' v t F) (n : ∀ a ∈ F, G' a = none ∧ H a = none) : ∃ G2, Grow G H G2 H' ∧ Den K G2 v t.er := by
  have sm : Same G' (frzAt G' H' F) := frz_same fun a m => (n a m).1
  refine ⟨frzAt G' H' F, ⟨w.same, w.sub.trans sm, frz_le w.le, fun a ha => ?_⟩, o.den (same_gle sm) fun a m => frzAt_in m⟩
  by_cases m : a ∈ F
  · exact .inr (.inl (n a m).2)
  · rw [frzAt_out m] at ha; exact w.frG a ha
theorem CaO.frz {K : Frg} {r : List V → Hp → VK → Prop} {g : List D → Option T} (h : CaO K r g) : CaS K r (fun a => (g a).map T.er) := fun G H xs ds d Q gl e1 e k => by
  have e : (g ds).map T.er = some d := e
  cases q : g ds with
  | none => rw [q] at e; cases e
  | some t =>
    rw [q] at e
    cases e
    refine h G H xs ds t Q gl e1 q fun v G' H' F w o nd n => ?_
    obtain ⟨G2, w2, d2⟩ := own_frz w o n
    exact k v G2 H' w2 d2
theorem OpO.frz {K : Frg} {r : R2} {g : D → D → Option T} (h : OpO K r g) : OpS K r (fun a b => (g a b).map T.er) := fun G H x y d1 d2 d Q gl e1 e2 e k => by
  have e : (g d1 d2).map T.er = some d := e
  cases q : g d1 d2 with
  | none => rw [q] at e; cases e
  | some t =>
    rw [q] at e
    cases e
    refine h G H x y d1 d2 t Q gl e1 e2 q fun v G' H' F w o nd n => ?_
    obtain ⟨G2, w2, d2⟩ := own_frz w o n
    exact k v G2 H' w2 d2
theorem grow_new {G H : Hp} (g : GLe G H) {p : Addr} (hp : H p = none) (o : HO) : Grow G H G (upd H p o) := by
  have s : Same H (upd H p o) := fun a u e => by rw [upd_ne (ne_of_none e hp)]; exact e
  exact ⟨s, Same.refl _, gle_same g s, fun _ h => .inl h⟩
theorem gle_none {G H : Hp} (g : GLe G H) {p : Addr} (hp : H p = none) : G p = none := by
  cases e : G p with
  | none => rfl
  | some o => exact absurd hp (g.some (by rw [e]; exact fun z => nomatch z))
theorem grow_newF {G H : Hp} (g : GLe G H) {p : Addr} (hp : H p = none) (o : HO) : Grow G H (upd G p o) (upd H p o) := by
  have s : Same H (upd H p o) := fun a u e => by rw [upd_ne (ne_of_none e hp)]; exact e
  have s' : Same G (upd G p o) := fun a u e => by rw [upd_ne (ne_of_none e (gle_none g hp))]; exact e
  refine ⟨s, s', fun a u e => ?_, fun a e => ?_⟩
  · by_cases z : a = p
    · subst z; rw [upd_same] at e; cases e; exact .inl upd_same
    · rw [upd_ne z] at e; exact gle_same g s a u e
  · by_cases z : a = p
    · subst z; exact .inr (.inl hp)
    · rw [upd_ne z] at e; exact .inl e
theorem ownL_fz {K : Frg} {G H : Hp} : ∀ {vs : List V} {ds : List D}, DenL K G vs ds → OwnL K G H vs (ds.map T.fz) []
  | _, _, .nil => .nil
  | _, _, .cons h t => .cons (F := []) (F' := []) (.fz h) (ownL_fz t)
/-- a new list of frozen items -/
theorem new_list {K : Frg} {G H : Hp} (g : GLe G H) {p : Addr} (hp : H p = none) {vs : List V} {ds : List D} (l : DenL K G vs ds) {Q : VK}
    (k : ∀ v G' H' F, Grow G H G' H' → Own K G' H' v (.ol (ds.map T.fz)) F → F.Nodup → (∀ a ∈ F, G' a = none ∧ H a = none) → Q v H') : Q (.ref p) (upd H p (.lst vs)) :=
  k _ _ _ [p] (grow_new g hp _) (.ol upd_same (ownL_fz l)) (by simp) (fun a m => by
    have z : a = p := by simpa using m
    rw [z]
    exact ⟨gle_none g hp, hp⟩)
/-- a new tuple -/
theorem new_tup {K : Frg} {G H : Hp} (g : GLe G H) {p : Addr} (hp : H p = none) {vs : List V} {ds : List D} (l : DenL K G vs ds) {Q : VK}
    (k : ∀ v G' H', Grow G H G' H' → Den K G' v (.tuple ds) → Q v H') : Q (.ref p) (upd H p (.tup vs)) := by
  have w := grow_newF g hp (.tup vs)
  exact k _ _ _ w (.tup upd_same (l.up (same_gle w.sub)))
def m2 {α : Type} (g : D → D → Option α) (ma mb : M D) : M α := ma.bind fun x => mb.bind fun y => M.lift (g x y)
def m1 {α : Type} (g : D → Option α) (ma : M D) : M α := ma.bind fun x => M.lift (g x)
def mL {α : Type} (g : List D → Option α) (ma : M (List D)) : M α := ma.bind fun x => M.lift (g x)
section
variable {X : Cx} {W : WX} {md : Md} {pu pa pb : Bool} {e a b c : Expr} {es : List Expr} {m ma mb : M D} {ms : M (List D)} {mt : M T} {pos : Pos}
/-! ### operators -/
theorem ex2 {r : R2} {g : D → D → Option D} (hp : ∀ ta tb, PE X a ta → PE X b tb → PE X e (tOp r ta tb)) (hr : OpS X.K r g) (ha : Ex X W md pa a ma) (hb : Ex X W md pb b mb) (hm : md = .frz ∨ pb = true := by first | exact Or.inl rfl | exact Or.inr rfl) : Ex X W md (pa && pb) e (m2 g ma mb) := by
  obtain ⟨ta, p1, k1⟩ := ha
  obtain ⟨tb, p2, k2⟩ := hb
  refine ⟨_, hp _ _ p1 p2, fun G H σ env Fp Q S h => k1 G H σ env Fp _ S (Post.bind h vrd_nil fun d1 env1 v1 G1 H1 Fp1 st1 S1 q1 w1 h1 => ?_)⟩
  refine k2 G1 H1 σ env1 Fp1 _ S1 (Post.bind (pu1 := pb) (pu2 := true) (by rw [Bool.and_true]; exact h1) vrd_nil fun d2 env2 v2 G2 H2 Fp2 st2 S2 q2 w2 h2 => ?_)
  obtain ⟨d, e1, k⟩ := h2.lift0 S2
  refine hr (gr md G2 H2) H2 v1 v2 d1 d2 d Q (gr_le S2.le) ((vrd_gr.mp w1).2.up (gr_stay (K := X.K) hm st2 q2)) (vrd_gr.mp w2).2 e1 fun v G3 H3 w dv => ?_
  obtain ⟨G4, w4, l4⟩ := grow_gr (K := X.K) S2.le w
  exact k v G4 H3 w4 (vrd_gr.mpr ⟨rfl, dv.up l4⟩)
theorem flat_m2 {g : D → D → Option D} (hf : Flat2 g) : ∀ env d env', m2 g ma mb env = .ok d env' → flat d = true := fun env d env' h => by
  unfold m2 M.bind at h
  split at h
  · cases h
  · dsimp only at h
    split at h
    · cases h
    · unfold M.lift at h
      split at h
      · cases h
      · rename_i e1
        cases h
        exact hf _ _ _ e1
    · cases h
  · cases h
theorem ex2s {r : R2} {g : D → D → Option D} (hp : ∀ ta tb, PE X a ta → PE X b tb → PE X e (tOp r ta tb)) (hr : OpS X.K r g) (hf : Flat2 g) (ha : Ex X W md pa a ma) (hb : Ex X W md pb b mb) (hm : md = .frz ∨ pb = true := by first | exact Or.inl rfl | exact Or.inr rfl) : Ex X W .frz (pa && pb) e (m2 g ma mb) := by
  have h := ex2 hp hr ha hb hm
  cases md with
  | frz => exact h
  | view => exact h.sc (flat_m2 hf)
theorem eo2 {r : R2} {g : D → D → Option T} (hp : ∀ ta tb, PE X a ta → PE X b tb → PE X e (tOp r ta tb)) (hr : OpO X.K r g) (ha : Ex X W .frz pa a ma) (hb : Ex X W .frz pb b mb) : Eo X W (pa && pb) e (m2 g ma mb) := by
  obtain ⟨ta, p1, k1⟩ := ha
  obtain ⟨tb, p2, k2⟩ := hb
  refine ⟨_, hp _ _ p1 p2, fun G H σ env Fp Q S h => k1 G H σ env Fp _ S (Post.bind h vrd_nil fun d1 env1 v1 G1 H1 Fp1 st1 S1 q1 w1 h1 => ?_)⟩
  refine k2 G1 H1 σ env1 Fp1 _ S1 (Post.bind (pu1 := pb) (pu2 := true) (by rw [Bool.and_true]; exact h1) vrd_nil fun d2 env2 v2 G2 H2 Fp2 st2 S2 q2 w2 h2 => ?_)
  obtain ⟨t, e1, k⟩ := h2.lift S2
  refine hr G2 H2 v1 v2 d1 d2 t Q S2.le (w1.2.up (same_gle st2.sub)) w2.2 e1 fun v G3 H3 F w o nd n => ?_
  exact k v G3 H3 F w ⟨fun a u z _ => w.same a u z, w.sub, fun a z => by
      rcases w.frG a z with q | q | q
      · exact .inl q
      · exact .inr (.inl q)
      · exact .inr (.inr (.inr q)), fun a z => by
      rcases List.mem_append.mp z with z | z
      · exact .inl (n a z).2
      · exact .inr z⟩ (List.nodup_append.mpr ⟨nd, S2.nd, fun a ma b mb e => by
        subst e
        have z := S2.sl.boxes a mb
        rw [(n a ma).2] at z
        exact z⟩) (fun a m => (n a m).1) o
theorem ex1 {r : V → Hp → VK → Prop} {g : D → Option D} (hp : ∀ ta, PE X a ta → PE X e (tUn r ta)) (hr : UnS X.K r g) (ha : Ex X W md pa a ma) : Ex X W md pa e (m1 g ma) := by
  obtain ⟨ta, p1, k1⟩ := ha
  refine ⟨_, hp _ p1, fun G H σ env Fp Q S h => k1 G H σ env Fp _ S (Post.bind (pu1 := pa) (pu2 := true) (by rw [Bool.and_true]; exact h) vrd_nil fun d1 env1 v1 G1 H1 Fp1 st1 S1 q1 w1 h1 => ?_)⟩
  obtain ⟨d, e1, k⟩ := h1.lift0 S1
  refine hr (gr md G1 H1) H1 v1 d1 d Q (gr_le S1.le) (vrd_gr.mp w1).2 e1 fun v G3 H3 w dv => ?_
  obtain ⟨G4, w4, l4⟩ := grow_gr (K := X.K) S1.le w
  exact k v G4 H3 w4 (vrd_gr.mpr ⟨rfl, dv.up l4⟩)
theorem flat_m1 {g : D → Option D} (hf : Flat1 g) : ∀ env d env', m1 g ma env = .ok d env' → flat d = true := fun env d env' h => by
  unfold m1 M.bind at h
  split at h
  · cases h
  · unfold M.lift at h
    dsimp only at h
    split at h
    · cases h
    · rename_i e1
      cases h
      exact hf _ _ e1
  · cases h
theorem ex1s {r : V → Hp → VK → Prop} {g : D → Option D} (hp : ∀ ta, PE X a ta → PE X e (tUn r ta)) (hr : UnS X.K r g) (hf : Flat1 g) (ha : Ex X W md pa a ma) : Ex X W .frz pa e (m1 g ma) := by
  have h := ex1 hp hr ha
  cases md with
  | frz => exact h
  | view => exact h.sc (flat_m1 hf)
/-! ### calls on values -/
theorem exL {r : List V → Hp → VK → Prop} {g : List D → Option D} (hp : ∀ ta, PA X es ta → PE X e (tCB r ta)) (hr : CaS X.K r g) (ha : Ea X W md pa es ms) : Ex X W md pa e (mL g ms) := by
  obtain ⟨ta, p1, k1⟩ := ha
  refine ⟨_, hp _ p1, fun G H σ env Fp Q S h => k1 G H σ env Fp _ S (Post.bind (pu1 := pa) (pu2 := true) (by rw [Bool.and_true]; exact h) vrl_nil fun d1 env1 v1 G1 H1 Fp1 st1 S1 q1 w1 h1 => ?_)⟩
  obtain ⟨d, e1, k⟩ := h1.lift0 S1
  refine hr (gr md G1 H1) H1 v1 d1 d Q (gr_le S1.le) (vrl_gr.mp w1).2 e1 fun v G3 H3 w dv => ?_
  obtain ⟨G4, w4, l4⟩ := grow_gr (K := X.K) S1.le w
  exact k v G4 H3 w4 (vrd_gr.mpr ⟨rfl, dv.up l4⟩)
theorem flat_mL {g : List D → Option D} (hf : FlatL g) : ∀ env d env', mL g ms env = .ok d env' → flat d = true := fun env d env' h => by
  unfold mL M.bind at h
  split at h
  · cases h
  · unfold M.lift at h
    dsimp only at h
    split at h
    · cases h
    · rename_i e1
      cases h
      exact hf _ _ e1
  · cases h
theorem exLs {r : List V → Hp → VK → Prop} {g : List D → Option D} (hp : ∀ ta, PA X es ta → PE X e (tCB r ta)) (hr : CaS X.K r g) (hf : FlatL g) (ha : Ea X W md pa es ms) : Ex X W .frz pa e (mL g ms) := by
  have h := exL hp hr ha
  cases md with
  | frz => exact h
  | view => exact h.sc (flat_mL hf)
theorem eoL {r : List V → Hp → VK → Prop} {g : List D → Option T} (hp : ∀ ta, PA X es ta → PE X e (tCB r ta)) (hr : CaO X.K r g) (ha : Ea X W .frz pa es ms) : Eo X W pa e (mL g ms) := by
  obtain ⟨ta, p1, k1⟩ := ha
  refine ⟨_, hp _ p1, fun G H σ env Fp Q S h => k1 G H σ env Fp _ S (Post.bind (pu1 := pa) (pu2 := true) (by rw [Bool.and_true]; exact h) vrl_nil fun d1 env1 v1 G1 H1 Fp1 st1 S1 q1 w1 h1 => ?_)⟩
  obtain ⟨t, e1, k⟩ := h1.lift S1
  refine hr G1 H1 v1 d1 t Q S1.le w1.2 e1 fun v G3 H3 F w o nd n => ?_
  exact k v G3 H3 F w ⟨fun a u z _ => w.same a u z, w.sub, fun a z => by
      rcases w.frG a z with q | q | q
      · exact .inl q
      · exact .inr (.inl q)
      · exact .inr (.inr (.inr q)), fun a z => by
      rcases List.mem_append.mp z with z | z
      · exact .inl (n a z).2
      · exact .inr z⟩ (List.nodup_append.mpr ⟨nd, S1.nd, fun a ma b mb e => by
        subst e
        have z := S1.sl.boxes a mb
        rw [(n a ma).2] at z
        exact z⟩) (fun a m => (n a m).1) o
/-! ### arguments -/
def mNil : M (List D) := M.pure []
def mCons (ma : M D) (ms : M (List D)) : M (List D) := ma.bind fun x => ms.bind fun xs => M.pure (x :: xs)
theorem post_pure {α β : Type} {Vr : Hp → Hp → β → α → List Addr → Prop} {σ : L2.St} {G H : Hp} {Fp : List Addr} {env : Env} {Q : β → Hp → Prop} {x : α} {y : β} (h : Post X.K X.mg W Vr pu σ G H Fp env Q (M.pure x env)) (S : Sta X.K G H σ env Fp) (v : Vr G H y x []) : Q y H :=
  h y G H Fp [] Step.refl S S.nd (fun _ m => nomatch m) (fun _ => ⟨rfl, rfl, Grow.refl S.le⟩) v
theorem ea_nil : Ea X W md true [] mNil := ⟨_, pa_nil, fun G H σ env Fp Q S h => post_pure h S (vrl_gr.mpr ⟨rfl, .nil⟩)⟩
theorem ea_cons (ha : Ex X W md pa a ma) (hb : Ea X W md pb es ms) (hm : md = .frz ∨ pb = true := by first | exact Or.inl rfl | exact Or.inr rfl) (hs : starEach (a :: es) X.env = (false, eval a X.env) :: starEach es X.env := by rfl) : Ea X W md (pa && pb) (a :: es) (mCons ma ms) := by
  obtain ⟨ta, p1, k1⟩ := ha
  obtain ⟨tb, p2, k2⟩ := hb
  refine ⟨_, pa_cons p1 p2 hs, fun G H σ env Fp Q S h => k1 G H σ env Fp _ S (Post.bind h vrd_nil fun d1 env1 v1 G1 H1 Fp1 st1 S1 q1 w1 h1 => ?_)⟩
  refine k2 G1 H1 σ env1 Fp1 _ S1 (Post.bind (pu1 := pb) (pu2 := true) (by rw [Bool.and_true]; exact h1) vrl_nil fun d2 env2 v2 G2 H2 Fp2 st2 S2 q2 w2 h2 => ?_)
  exact post_pure h2 S2 (vrl_gr.mpr ⟨rfl, .cons ((vrd_gr.mp w1).2.up (gr_stay (K := X.K) hm st2 q2)) (vrl_gr.mp w2).2⟩)
/-! ### names, constants -/
def mVar (i : Nat) : M D := fun env => match env[i]? with
  | some (some t) => .ok t.er env
  | _ => .bad
/-- a name whose value is frozen -/
def mVarF (i : Nat) : M D := fun env => match env[i]? with
  | some (some (.fz d)) => .ok d env
  | _ => .bad
theorem ev_name {i : Nat} (hp : PE X e (tVar i)) : Ex X W .view true e (mVar i) := by
  refine ⟨_, hp, fun G H σ env Fp Q S h => ?_⟩
  unfold mVar at h
  split at h
  · rename_i t e1
    obtain ⟨v, F0, e2, o, _⟩ := S.sl.at e1
    exact ⟨v, e2, h v G H Fp [] Step.refl S S.nd (fun _ m => nomatch m) (fun _ => ⟨rfl, rfl, Grow.refl S.le⟩) ⟨rfl, o.den S.le fun _ _ => rfl⟩⟩
  · exact h.elim
theorem ef_name {i : Nat} (hp : PE X e (tVar i)) : Ex X W .frz true e (mVarF i) := by
  refine ⟨_, hp, fun G H σ env Fp Q S h => ?_⟩
  unfold mVarF at h
  split at h
  · rename_i d e1
    obtain ⟨v, F0, e2, o, _⟩ := S.sl.at e1
    cases o with
    | fz q => exact ⟨v, e2, h v G H Fp [] Step.refl S S.nd (fun _ m => nomatch m) (fun _ => ⟨rfl, rfl, Grow.refl S.le⟩) ⟨rfl, q⟩⟩
  · exact h.elim
def mC (d : D) : M D := M.pure d
theorem ex_const {v : V} {d : D} (hp : PE X e (tC v)) (hd : ∀ G, Den X.K G v d) : Ex X W .frz true e (mC d) := ⟨_, hp, fun G H σ env Fp Q S h => post_pure h S ⟨rfl, hd G⟩⟩
theorem ex_int {i : Int} {j : Nat} : Ex X W .frz true (.Constant (.int i) j pos) (mC (.int i)) := ex_const pe_int fun _ => .int i
theorem ex_bl {i : Bool} {j : Nat} : Ex X W .frz true (.Constant (.bool i) j pos) (mC (.bool i)) := ex_const pe_bl fun _ => .bl i
theorem ex_non {j : Nat} : Ex X W .frz true (.Constant .none j pos) (mC .none) := ex_const pe_non fun _ => .non
theorem ex_str {x : Str} {j : Nat} : Ex X W .frz true (.Constant (.str x) j pos) (mC (.str x)) := ex_const pe_str fun _ => .str x
end
end DL
/-! The data layer, part D: operators, comparisons, subscripts, slices, len and their like, on data. -/
namespace DL
open PySem L2 PyProof.Rows
/-! ### data for the library's own == -/
mutual
theorem Den.dp {K : Frg} {G : Hp} : ∀ {v : V} {d : D}, Den K G v d → d.canLay0 = true → Dp K G v d
  | _, _, .non, _ => .non
  | _, _, .bl b, _ => .bl b
  | _, _, .int i, _ => .int i
  | _, _, .str x, _ => .str x
  | _, _, .lst s l, h => .lst s.l (l.dp (by simpa [PyData.canLay0] using h))
  | _, _, .tup s l, h => .tup s.t (l.dp (by simpa [PyData.canLay0] using h))
  | _, _, .dk _ _, h => by simp [PyData.canLay0] at h
  | _, _, .dt _ _ _, h => by simp [PyData.canLay0] at h
theorem DenL.dp {K : Frg} {G : Hp} : ∀ {v : List V} {d : List D}, DenL K G v d → PyData.canLayAll0 d = true → DpAll K G v d
  | _, _, .nil, _ => .nil
  | _, _, .cons h t, e => by
    simp only [PyData.canLayAll0, Bool.and_eq_true] at e
    exact .cons (h.dp e.1) (t.dp e.2)
end
def shp (d : D) : Bool := SeqAt.shaped d
theorem shp_lay {d : D} (h : shp d = true) : d.canLay0 = true := SeqAt.canLay_of_shaped h
section
variable {X : Cx}
theorem op_fdivB : OpR X (binaryOp .FloorDiv) (rI (fun _ j => j ≠ 0 ∧ j.natAbs.log2 < 9000) fun i j => .int (i.fdiv j)) := opI fun _ _ _ _ _ _ _ hc q => floordiv_int hc.1 q (.inl (PyProof.noPylong_of_log2 hc.2))
theorem op_in_tupD (hu : X.A.units + 65 < cLine) : OpR X (compareOp .In) (fun x y H Q => ∃ d ds, Dp X.K H x d ∧ Dp X.K H y (.tuple ds) ∧ shp d = true ∧ shp (.tuple ds) = true ∧ Q (.bl (ds.any fun z => PyData.eqv z d)) H) := by
  intro pins s σ H x y v u Q I rx ry h
  obtain ⟨d, ds, hd, he, sd, se, q⟩ := h
  obtain ⟨as, r1⟩ := Dp.reads I d x v hd rx
  obtain ⟨bs, r2⟩ := Dp.reads I (.tuple ds) y u he ry
  have hl : PyData.canLayAll0 ds = true := by have z := shp_lay se; simpa [PyData.canLay0] using z
  have hdp : d.depth ≤ 64 := SeqAt.depth_of_shaped sd
  exact SeqAt.in_tuple_reads r2 r1 hl (shp_lay sd) (by have z : min (PyData.depthAll ds) d.depth ≤ d.depth := Nat.min_le_right _ _; omega) ⟨.bl _, H, I, rfl, q⟩
theorem op_notIn_tupD (hu : X.A.units + 65 < cLine) : OpR X (compareOp .NotIn) (fun x y H Q => ∃ d ds, Dp X.K H x d ∧ Dp X.K H y (.tuple ds) ∧ shp d = true ∧ shp (.tuple ds) = true ∧ Q (.bl (!ds.any fun z => PyData.eqv z d)) H) := by
  intro pins s σ H x y v u Q I rx ry h
  obtain ⟨d, ds, hd, he, sd, se, q⟩ := h
  obtain ⟨as, r1⟩ := Dp.reads I d x v hd rx
  obtain ⟨bs, r2⟩ := Dp.reads I (.tuple ds) y u he ry
  have hl : PyData.canLayAll0 ds = true := by have z := shp_lay se; simpa [PyData.canLay0] using z
  have hdp : d.depth ≤ 64 := SeqAt.depth_of_shaped sd
  exact SeqAt.notIn_tuple_reads r2 r1 hl (shp_lay sd) (by have z : min (PyData.depthAll ds) d.depth ≤ d.depth := Nat.min_le_right _ _; omega) ⟨.bl _, H, I, rfl, q⟩
end
/-! ### the functions -/
theorem mul_fits {i j : Int} (h : (i.natAbs < 2 ^ 64 ∨ j.natAbs < 2 ^ 64) ∨ i.natAbs.log2 + j.natAbs.log2 < 1000000) : IntMulOk i j := by
  rcases h with (h | h) | h
  · exact CMul.ok (.inl (by omega))
  · exact CMul.ok (.inr (by omega))
  · exact CMulW.ok h
theorem op_mulD {X : Cx} : OpR X (binaryOp .Mult) (rI (fun i j => (i.natAbs < 2 ^ 64 ∨ j.natAbs < 2 ^ 64) ∨ i.natAbs.log2 + j.natAbs.log2 < 1000000) fun i j => .int (i * j)) := opI fun _ _ _ _ _ _ _ hc q => mul_int q (mul_fits hc)
def dAdd : D → D → Option D
  | .int i, .int j => some (.int (i + j))
  | .str a, .str b => if a.length + b.length ≤ sizeLine then some (.str (a ++ b)) else none
  | .tuple a, .tuple b => if a.length + b.length ≤ sizeLine then some (.tuple (a ++ b)) else none
  | _, _ => none
def dSub : D → D → Option D
  | .int i, .int j => some (.int (i - j))
  | _, _ => none
def dMul : D → D → Option D
  | .int i, .int j => if (i.natAbs < 2 ^ 64 ∨ j.natAbs < 2 ^ 64) ∨ i.natAbs.log2 + j.natAbs.log2 < 1000000 then some (.int (i * j)) else none
  | _, _ => none
def dDiv : D → D → Option D
  | .int i, .int j => if j ≠ 0 ∧ j.natAbs.log2 < 9000 then some (.int (i.fdiv j)) else none
  | _, _ => none
def dMod : D → D → Option D
  | .int i, .int j => if j ≠ 0 then some (.int (i.fmod j)) else none
  | _, _ => none
def dPow : D → D → Option D
  | .int i, .int j => if 0 ≤ j ∧ j ≤ 1000000 ∧ i.natAbs < 2 ^ 64 then some (.int (i ^ j.toNat)) else none
  | _, _ => none
def dNeg : D → Option D
  | .int i => some (.int (-i))
  | _ => none
def dCatL : D → D → Option T
  | .list a, .list b => if a.length + b.length ≤ sizeLine then some (.ol ((a ++ b).map T.fz)) else none
  | _, _ => none
/-- whether a tuple is the empty one, a list the empty one, whatever lies in it -/
def emp2 : D → D → Option Bool
  | .tuple ds, .tuple [] => some ds.isEmpty
  | .list ds, .list [] => some ds.isEmpty
  | _, _ => none
def dNe (a b : D) : Option D := if shp a = true ∧ shp b = true then some (.bool (!PyData.eqv a b)) else (emp2 a b).map fun e => .bool (!e)
def dLt : D → D → Option D
  | .int i, .int j => some (.bool (decide (i < j)))
  | _, _ => none
def dLe : D → D → Option D
  | .int i, .int j => some (.bool (decide (i ≤ j)))
  | _, _ => none
def dGt : D → D → Option D
  | .int i, .int j => some (.bool (decide (j < i)))
  | _, _ => none
def dGe : D → D → Option D
  | .int i, .int j => some (.bool (decide (j ≤ i)))
  | _, _ => none
def dIn (x y : D) : Option D := match y with
  | .list ds => if shp x = true ∧ shp (.list ds) = true then some (.bool (ds.any fun z => PyData.eqv z x)) else none
  | .tuple ds => if shp x = true ∧ shp (.tuple ds) = true then some (.bool (ds.any fun z => PyData.eqv z x)) else none
  | _ => none
def dNotIn (x y : D) : Option D := match y with
  | .list ds => if shp x = true ∧ shp (.list ds) = true then some (.bool (!ds.any fun z => PyData.eqv z x)) else none
  | .tuple ds => if shp x = true ∧ shp (.tuple ds) = true then some (.bool (!ds.any fun z => PyData.eqv z x)) else none
  | _ => none
def dIx : D → D → Option D
  | .list ds, .int i => atI ds i
  | .tuple ds, .int i => atI ds i
  | .str z, .int i => if z.length ≤ sizeLine then (atI z.cps.toList i).map fun c => .str ⟨#[c]⟩ else none
  | _, _ => none
theorem flat_dSub : Flat2 dSub := fun a b d h => by
  unfold dSub at h
  split at h <;> cases h
  rfl
theorem flat_dMul : Flat2 dMul := fun a b d h => by
  unfold dMul at h
  split at h
  · split at h <;> cases h
    rfl
  · cases h
theorem flat_dDiv : Flat2 dDiv := fun a b d h => by
  unfold dDiv at h
  split at h
  · split at h <;> cases h
    rfl
  · cases h
theorem flat_dMod : Flat2 dMod := fun a b d h => by
  unfold dMod at h
  split at h
  · split at h <;> cases h
    rfl
  · cases h
theorem flat_dPow : Flat2 dPow := fun a b d h => by
  unfold dPow at h
  split at h
  · split at h <;> cases h
    rfl
  · cases h
theorem flat_dNe : Flat2 dNe := fun a b d h => by
  unfold dNe at h
  split at h
  · cases h
    rfl
  · cases e : emp2 a b with
    | none => rw [e] at h; cases h
    | some z => rw [e] at h; cases h; rfl
theorem flat_dLt : Flat2 dLt := fun a b d h => by
  unfold dLt at h
  split at h <;> cases h
  rfl
theorem flat_dGe : Flat2 dGe := fun a b d h => by
  unfold dGe at h
  split at h <;> cases h
  rfl
theorem flat_dIn : Flat2 dIn := fun a b d h => by
  unfold dIn at h
  split at h
  · split at h <;> cases h
    rfl
  · split at h <;> cases h
    rfl
  · cases h
theorem DenL.atI {K : Frg} {G : Hp} {vs : List V} {ds : List D} {i : Int} {d : D} (l : DenL K G vs ds) (h : atI ds i = some d) : ∃ v, atI vs i = some v ∧ Den K G v d := by
  unfold L2.atI at h ⊢
  rw [l.length]
  cases e : ixN ds.length i with
  | none => rw [e] at h; cases h
  | some j =>
    rw [e] at h
    obtain ⟨v, hv, dv⟩ := l.get (i := j) h
    exact ⟨v, hv, dv⟩
section
variable {K : Frg}
theorem os_int {C : Int → Int → Prop} {f : Int → Int → Int} {g : D → D → Option D} (hg : ∀ a b d, g a b = some d → ∃ i j, a = .int i ∧ b = .int j ∧ C i j ∧ d = .int (f i j)) : OpS K (rI C fun i j => .int (f i j)) g := fun G H x y d1 d2 d Q gl e1 e2 e k => by
  obtain ⟨i, j, rfl, rfl, c, rfl⟩ := hg _ _ _ e
  exact ⟨i, j, e1.of_int, e2.of_int, c, k _ G H (Grow.refl gl) (.int _)⟩
theorem os_int0 {f : Int → Int → Int} {g : D → D → Option D} (hg : ∀ a b d, g a b = some d → ∃ i j, a = .int i ∧ b = .int j ∧ d = .int (f i j)) : OpS K (rI0 fun i j => .int (f i j)) g := fun G H x y d1 d2 d Q gl e1 e2 e k => by
  obtain ⟨i, j, rfl, rfl, rfl⟩ := hg _ _ _ e
  exact ⟨i, j, e1.of_int, e2.of_int, k _ G H (Grow.refl gl) (.int _)⟩
theorem os_cmp {f : Int → Int → Bool} {g : D → D → Option D} (hg : ∀ a b d, g a b = some d → ∃ i j, a = .int i ∧ b = .int j ∧ d = .bool (f i j)) : OpS K (rI0 fun i j => .bl (f i j)) g := fun G H x y d1 d2 d Q gl e1 e2 e k => by
  obtain ⟨i, j, rfl, rfl, rfl⟩ := hg _ _ _ e
  exact ⟨i, j, e1.of_int, e2.of_int, k _ G H (Grow.refl gl) (.bl _)⟩
def rAddAll (K : Frg) : R2 := fun x y H Q => rI0 (fun i j => .int (i + j)) x y H Q ∨ (∃ i j, x = .str i ∧ y = .str j ∧ i.length + j.length ≤ sizeLine ∧ Q (.str (i ++ j)) H) ∨ rCatA K x y H Q
theorem os_add : OpS K (rAddAll K) dAdd := fun G H x y d1 d2 d Q gl e1 e2 e k => by
  unfold dAdd at e
  split at e
  · cases e
    exact .inl ⟨_, _, e1.of_int, e2.of_int, k _ G H (Grow.refl gl) (.int _)⟩
  · split at e
    · cases e
      exact .inr (.inl ⟨_, _, e1.of_str, e2.of_str, by assumption, k _ G H (Grow.refl gl) (.str _)⟩)
    · cases e
  · split at e
    · rename_i ds es hz
      cases e
      obtain ⟨a, xs, rfl, sa, la⟩ := e1.of_tup
      obtain ⟨b, ys, rfl, sb, lb⟩ := e2.of_tup
      have na : xs = [] ↔ ds = [] := by rw [← List.length_eq_zero_iff, la.length, List.length_eq_zero_iff]
      have nb : ys = [] ↔ es = [] := by rw [← List.length_eq_zero_iff, lb.length, List.length_eq_zero_iff]
      refine .inr (.inr ⟨a, b, xs, ys, rfl, rfl, gl.sqT sa, gl.sqT sb, by rw [la.length, lb.length]; exact hz, fun z => ?_, fun _ z => ?_, fun _ _ p hp => ?_⟩)
      · have z' := na.mp z
        subst z'
        exact k _ G H (Grow.refl gl) (by simpa using e2)
      · have z' := nb.mp z
        subst z'
        exact k _ G H (Grow.refl gl) (by simpa using e1)
      · exact new_tup gl hp (la.append lb) k
    · cases e
  · cases e
/-- two things, the second one an empty tuple or list, the first one of its kind -/
def EmpR (K : Frg) (H : Hp) (x y : V) (b : Bool) : Prop := ∃ ds, ((Den K H x (.tuple ds) ∧ Den K H y (.tuple [])) ∨ (Den K H x (.list ds) ∧ Den K H y (.list []))) ∧ b = ds.isEmpty
theorem emp2_R {G H : Hp} {x y : V} {a b : D} {e : Bool} (gl : GLe G H) (ha : Den K G x a) (hb : Den K G y b) (h : emp2 a b = some e) : EmpR K H x y e := by
  unfold emp2 at h
  split at h
  · cases h
    exact ⟨_, .inl ⟨ha.up gl, hb.up gl⟩, rfl⟩
  · cases h
    exact ⟨_, .inr ⟨ha.up gl, hb.up gl⟩, rfl⟩
  · cases h
theorem emp_ne {X : Cx} {pins : List (Addr × Obj)} {σ : L2.St} {H : Hp} {s : Shared} {x y : V} {v u : Value} {b : Bool} (hu : X.A.units < cLine) (I : L2.Inv X pins σ H s) (h : EmpR X.K H x y b) (rx : L2.RelV x v) (ry : L2.RelV y u) : SeqAt.RcNeAt X.A s v u (!b) := by
  obtain ⟨ds, h | h, rfl⟩ := h
  · obtain ⟨a, xs, rfl, s1, l1⟩ := h.1.of_tup
    obtain ⟨b, ys, rfl, s2, l2⟩ := h.2.of_tup
    cases rx
    cases ry
    obtain ⟨us, r1, p1, _⟩ := I.tuple s1.t
    obtain ⟨ws, r2, p2, _⟩ := I.tuple s2.t
    have z : ws.length = 0 := by rw [← r2.length, l2.length]; rfl
    have n : us.length = ds.length := by rw [← r1.length, l1.length]
    have e : (!ds.isEmpty) = !((List.range (min us.toArray.size ws.toArray.size)).all (fun _ => true) && us.toArray.size == ws.toArray.size) := by
      rw [List.size_toArray, List.size_toArray, n, z]
      cases ds <;> simp
    rw [e]
    exact SeqAt.RcNeAt.tuples p1 p2 hu fun j h1 h2 => absurd h2 (by rw [List.size_toArray, z]; omega)
  · obtain ⟨a, xs, rfl, s1, l1⟩ := h.1.of_lst
    obtain ⟨b, ys, rfl, s2, l2⟩ := h.2.of_lst
    cases rx
    cases ry
    obtain ⟨us, r1, p1, _⟩ := I.list s1.l
    obtain ⟨ws, r2, p2, _⟩ := I.list s2.l
    have z : ws.length = 0 := by rw [← r2.length, l2.length]; rfl
    have n : us.length = ds.length := by rw [← r1.length, l1.length]
    cases ds with
    | nil =>
      have e : (!([] : List D).isEmpty) = !(List.range us.toArray.size).all (fun _ => true) := by
        rw [List.size_toArray, n]
        rfl
      rw [e]
      exact SeqAt.RcNeAt.lists p1.isList p2.isList (by rw [List.size_toArray, List.size_toArray, n, z]; rfl) hu fun j h1 h2 => absurd h2 (by rw [List.size_toArray, z]; omega)
    | cons d r => exact SeqAt.RcNeAt.lists_lengths p1.isList p2.isList (by rw [List.size_toArray, List.size_toArray, n, z]; rfl) hu
theorem emp_eq {X : Cx} {pins : List (Addr × Obj)} {σ : L2.St} {H : Hp} {s : Shared} {x y : V} {v u : Value} {b : Bool} (hu : X.A.units < cLine) (I : L2.Inv X pins σ H s) (h : EmpR X.K H x y b) (rx : L2.RelV x v) (ry : L2.RelV y u) : SeqAt.RcAt X.A s v u b := by
  obtain ⟨ds, h | h, rfl⟩ := h
  · obtain ⟨a, xs, rfl, s1, l1⟩ := h.1.of_tup
    obtain ⟨b, ys, rfl, s2, l2⟩ := h.2.of_tup
    cases rx
    cases ry
    obtain ⟨us, r1, p1, _⟩ := I.tuple s1.t
    obtain ⟨ws, r2, p2, _⟩ := I.tuple s2.t
    have z : ws.length = 0 := by rw [← r2.length, l2.length]; rfl
    have n : us.length = ds.length := by rw [← r1.length, l1.length]
    have e : ds.isEmpty = ((List.range (min us.toArray.size ws.toArray.size)).all (fun _ => true) && us.toArray.size == ws.toArray.size) := by
      rw [List.size_toArray, List.size_toArray, n, z]
      cases ds <;> simp
    rw [e]
    exact SeqAt.RcAt.tuples p1 p2 hu fun j h1 h2 => absurd h2 (by rw [List.size_toArray, z]; omega)
  · obtain ⟨a, xs, rfl, s1, l1⟩ := h.1.of_lst
    obtain ⟨b, ys, rfl, s2, l2⟩ := h.2.of_lst
    cases rx
    cases ry
    obtain ⟨us, r1, p1, _⟩ := I.list s1.l
    obtain ⟨ws, r2, p2, _⟩ := I.list s2.l
    have z : ws.length = 0 := by rw [← r2.length, l2.length]; rfl
    have n : us.length = ds.length := by rw [← r1.length, l1.length]
    cases ds with
    | nil =>
      have e : ([] : List D).isEmpty = (List.range us.toArray.size).all (fun _ => true) := by
        rw [List.size_toArray, n]
        rfl
      rw [e]
      exact SeqAt.RcAt.lists p1.isList p2.isList (by rw [List.size_toArray, List.size_toArray, n, z]; rfl) hu fun j h1 h2 => absurd h2 (by rw [List.size_toArray, z]; omega)
    | cons d r => exact SeqAt.RcAt.lists_lengths p1.isList p2.isList (by rw [List.size_toArray, List.size_toArray, n, z]; rfl) hu
def rNeE (K : Frg) : R2 := fun x y H Q => ∃ b, EmpR K H x y b ∧ Q (.bl (!b)) H
def rEqE (K : Frg) : R2 := fun x y H Q => ∃ b, EmpR K H x y b ∧ Q (.bl b) H
theorem op_neE {X : Cx} (hu : X.A.units + 64 < cLine) : OpR X (compareOp .NotEq) (rNeE X.K) := by
  intro pins s σ H x y v u Q I rx ry h
  obtain ⟨b, h, q⟩ := h
  exact emp_ne (by omega) I h rx ry _ _ _ _ ⟨.bl _, H, I, rfl, q⟩
theorem op_eqE {X : Cx} (hu : X.A.units + 64 < cLine) : OpR X (compareOp .Eq) (rEqE X.K) := by
  intro pins s σ H x y v u Q I rx ry h
  obtain ⟨b, h, q⟩ := h
  exact emp_eq (by omega) I h rx ry _ _ _ _ ⟨.bl _, H, I, rfl, q⟩
theorem op_neDE {X : Cx} (hu : X.A.units + 64 < cLine) : OpR X (compareOp .NotEq) (fun x y H Q => rNeD X.K x y H Q ∨ rNeE X.K x y H Q) := (op_neD hu).or (op_neE hu)
theorem os_ne : OpS K (fun x y H Q => rNeD K x y H Q ∨ rNeE K x y H Q) dNe := fun G H x y d1 d2 d Q gl e1 e2 e k => by
  unfold dNe at e
  split at e
  · rename_i h
    cases e
    exact .inl ⟨d1, d2, (e1.up gl).dp (shp_lay h.1), (e2.up gl).dp (shp_lay h.2), h.1, h.2, k _ G H (Grow.refl gl) (.bl _)⟩
  · cases z : emp2 d1 d2 with
    | none => rw [z] at e; cases e
    | some b =>
      rw [z] at e
      cases e
      exact .inr ⟨b, emp2_R gl e1 e2 z, k _ G H (Grow.refl gl) (.bl _)⟩
def rInAll (K : Frg) : R2 := fun x y H Q => rInD K x y H Q ∨ ∃ d ds, Dp K H x d ∧ Dp K H y (.tuple ds) ∧ shp d = true ∧ shp (.tuple ds) = true ∧ Q (.bl (ds.any fun z => PyData.eqv z d)) H
theorem os_in : OpS K (rInAll K) dIn := fun G H x y d1 d2 d Q gl e1 e2 e k => by
  unfold dIn at e
  split at e
  · split at e
    · rename_i h
      cases e
      exact .inl ⟨d1, _, (e1.up gl).dp (shp_lay h.1), (e2.up gl).dp (shp_lay h.2), h.1, h.2, k _ G H (Grow.refl gl) (.bl _)⟩
    · cases e
  · split at e
    · rename_i h
      cases e
      exact .inr ⟨d1, _, (e1.up gl).dp (shp_lay h.1), (e2.up gl).dp (shp_lay h.2), h.1, h.2, k _ G H (Grow.refl gl) (.bl _)⟩
    · cases e
  · cases e
def rNotInAll (K : Frg) : R2 := fun x y H Q => rNotInD K x y H Q ∨ ∃ d ds, Dp K H x d ∧ Dp K H y (.tuple ds) ∧ shp d = true ∧ shp (.tuple ds) = true ∧ Q (.bl (!ds.any fun z => PyData.eqv z d)) H
theorem os_notIn : OpS K (rNotInAll K) dNotIn := fun G H x y d1 d2 d Q gl e1 e2 e k => by
  unfold dNotIn at e
  split at e
  · split at e
    · rename_i h
      cases e
      exact .inl ⟨d1, _, (e1.up gl).dp (shp_lay h.1), (e2.up gl).dp (shp_lay h.2), h.1, h.2, k _ G H (Grow.refl gl) (.bl _)⟩
    · cases e
  · split at e
    · rename_i h
      cases e
      exact .inr ⟨d1, _, (e1.up gl).dp (shp_lay h.1), (e2.up gl).dp (shp_lay h.2), h.1, h.2, k _ G H (Grow.refl gl) (.bl _)⟩
    · cases e
  · cases e
theorem os_ix : OpS K (rIx K) dIx := fun G H x y d1 d2 d Q gl e1 e2 e k => by
  unfold dIx at e
  split at e
  · obtain ⟨a, xs, rfl, sa, la⟩ := e1.of_lst
    obtain ⟨v, hv, dv⟩ := la.atI e
    exact .inl ⟨a, xs, _, v, rfl, e2.of_int, (gl.sqX sa).l, hv, k _ G H (Grow.refl gl) dv⟩
  · obtain ⟨a, xs, rfl, sa, la⟩ := e1.of_tup
    obtain ⟨v, hv, dv⟩ := la.atI e
    exact .inr (.inl ⟨a, xs, _, v, rfl, e2.of_int, gl.sqT sa, hv, k _ G H (Grow.refl gl) dv⟩)
  · rename_i z i
    split at e
    · rename_i h
      cases q : atI z.cps.toList i with
      | none => rw [q] at e; cases e
      | some c =>
        rw [q] at e
        cases e
        exact .inr (.inr ⟨z, i, c, e1.of_str, e2.of_int, h, q, k _ G H (Grow.refl gl) (.str _)⟩)
    · cases e
  · cases e
theorem us_neg : UnS K (rU fun i => .int (-i)) dNeg := fun G H x d1 d Q gl e1 e k => by
  unfold dNeg at e
  split at e <;> cases e
  exact ⟨_, e1.of_int, k _ G H (Grow.refl gl) (.int _)⟩
end
section
variable {X : Cx} {W : WX} {md : Md} {pu pa pb : Bool} {e a b c : Expr} {es : List Expr} {m ma mb : M D} {ms : M (List D)} {mt : M T} {pos : Pos}
theorem x_add (ha : Ex X W md pa a ma) (hb : Ex X W md pb b mb) (hm : md = .frz ∨ pb = true := by first | exact Or.inl rfl | exact Or.inr rfl) : Ex X W md (pa && pb) (.BinOp a .Add b pos) (m2 dAdd ma mb) :=
  ex2 (fun ta tb p q => pe_op (op_add.or (op_add_str.or op_catA)) p q) os_add ha hb hm
theorem x_sub (ha : Ex X W md pa a ma) (hb : Ex X W md pb b mb) (hm : md = .frz ∨ pb = true := by first | exact Or.inl rfl | exact Or.inr rfl) : Ex X W .frz (pa && pb) (.BinOp a .Sub b pos) (m2 dSub ma mb) :=
  ex2s (fun ta tb p q => pe_op op_sub p q) (os_int0 fun a b d h => by unfold dSub at h; split at h <;> cases h; exact ⟨_, _, rfl, rfl, rfl⟩) flat_dSub ha hb hm
theorem x_mul (ha : Ex X W md pa a ma) (hb : Ex X W md pb b mb) (hm : md = .frz ∨ pb = true := by first | exact Or.inl rfl | exact Or.inr rfl) : Ex X W .frz (pa && pb) (.BinOp a .Mult b pos) (m2 dMul ma mb) :=
  ex2s (fun ta tb p q => pe_op op_mulD p q) (os_int fun a b d h => by
    unfold dMul at h
    split at h
    · split at h <;> cases h
      exact ⟨_, _, rfl, rfl, by assumption, rfl⟩
    · cases h) flat_dMul ha hb hm
theorem x_div (ha : Ex X W md pa a ma) (hb : Ex X W md pb b mb) (hm : md = .frz ∨ pb = true := by first | exact Or.inl rfl | exact Or.inr rfl) : Ex X W .frz (pa && pb) (.BinOp a .FloorDiv b pos) (m2 dDiv ma mb) :=
  ex2s (fun ta tb p q => pe_op op_fdivB p q) (os_int fun a b d h => by
    unfold dDiv at h
    split at h
    · split at h <;> cases h
      exact ⟨_, _, rfl, rfl, by assumption, rfl⟩
    · cases h) flat_dDiv ha hb hm
theorem x_mod (ha : Ex X W md pa a ma) (hb : Ex X W md pb b mb) (hm : md = .frz ∨ pb = true := by first | exact Or.inl rfl | exact Or.inr rfl) : Ex X W .frz (pa && pb) (.BinOp a .Mod b pos) (m2 dMod ma mb) :=
  ex2s (fun ta tb p q => pe_op op_modN p q) (os_int fun a b d h => by
    unfold dMod at h
    split at h
    · split at h <;> cases h
      exact ⟨_, _, rfl, rfl, by assumption, rfl⟩
    · cases h) flat_dMod ha hb hm
theorem x_pow (ha : Ex X W md pa a ma) (hb : Ex X W md pb b mb) (hm : md = .frz ∨ pb = true := by first | exact Or.inl rfl | exact Or.inr rfl) : Ex X W .frz (pa && pb) (.BinOp a .Pow b pos) (m2 dPow ma mb) :=
  ex2s (fun ta tb p q => pe_op op_pow p q) (os_int fun a b d h => by
    unfold dPow at h
    split at h
    · split at h <;> cases h
      exact ⟨_, _, rfl, rfl, by assumption, rfl⟩
    · cases h) flat_dPow ha hb hm
theorem x_neg (ha : Ex X W md pa a ma) : Ex X W .frz pa (.UnaryOp .USub a pos) (m1 dNeg ma) :=
  ex1s (fun ta p => pe_un un_neg p) us_neg (fun a d h => by unfold dNeg at h; split at h <;> cases h; rfl) ha
theorem x_ne (hu : X.A.units + 64 < cLine) (ha : Ex X W md pa a ma) (hb : Ex X W md pb b mb) (hm : md = .frz ∨ pb = true := by first | exact Or.inl rfl | exact Or.inr rfl) : Ex X W .frz (pa && pb) (.Compare a [.NotEq] [b] pos) (m2 dNe ma mb) :=
  ex2s (fun ta tb p q => pe_cmpR (op_neDE hu) p q (nomark _)) os_ne flat_dNe ha hb hm
theorem x_lt (ha : Ex X W md pa a ma) (hb : Ex X W md pb b mb) (hm : md = .frz ∨ pb = true := by first | exact Or.inl rfl | exact Or.inr rfl) : Ex X W .frz (pa && pb) (.Compare a [.Lt] [b] pos) (m2 dLt ma mb) :=
  ex2s (fun ta tb p q => pe_cmpR op_lt p q (nomark _)) (os_cmp fun a b d h => by unfold dLt at h; split at h <;> cases h; exact ⟨_, _, rfl, rfl, rfl⟩) flat_dLt ha hb hm
theorem x_ge (ha : Ex X W md pa a ma) (hb : Ex X W md pb b mb) (hm : md = .frz ∨ pb = true := by first | exact Or.inl rfl | exact Or.inr rfl) : Ex X W .frz (pa && pb) (.Compare a [.GtE] [b] pos) (m2 dGe ma mb) :=
  ex2s (fun ta tb p q => pe_cmpR op_ge p q (nomark _)) (os_cmp fun a b d h => by unfold dGe at h; split at h <;> cases h; exact ⟨_, _, rfl, rfl, rfl⟩) flat_dGe ha hb hm
theorem x_in (hu : X.A.units + 65 < cLine) (hk : behindInMarks .In b = false) (ha : Ex X W md pa a ma) (hb : Ex X W md pb b mb) (hm : md = .frz ∨ pb = true := by first | exact Or.inl rfl | exact Or.inr rfl) : Ex X W .frz (pa && pb) (.Compare a [.In] [b] pos) (m2 dIn ma mb) :=
  ex2s (fun ta tb p q => pe_cmpR ((op_inD hu).or (op_in_tupD hu)) p q hk) os_in flat_dIn ha hb hm
theorem x_ix (hs : PlainIx b) (ha : Ex X W md pa a ma) (hb : Ex X W md pb b mb) (hm : md = .frz ∨ pb = true := by first | exact Or.inl rfl | exact Or.inr rfl) : Ex X W md (pa && pb) (.Subscript a b pos) (m2 dIx ma mb) :=
  ex2 (fun ta tb p q => pe_ix ix_seq p q hs) os_ix ha hb hm
end
end DL
/-! The data layer, part E: tests, truths, displays, statements, loops. -/
namespace DL
open PySem L2 PyProof.Rows
section
variable {X : Cx} {W : WX} {md : Md} {pu pa pb pc : Bool} {e a b c : Expr} {es rest : List Expr} {m ma mb : M D} {ms : M (List D)} {mt mt' : M T} {mc nc : M Bool} {pos : Pos}
/-! ### tests -/
def tru : D → M Bool
  | .bool b => M.pure b
  | _ => fun _ => .bad
theorem post_test {te : TE} (k : ∀ G H σ env Fp Q, Sta X.K G H σ env Fp → Post X.K X.mg W (VrD X.K md) pu σ G H Fp env Q (m env) → te σ H Q) {G H : Hp} {σ : L2.St} {env : Env} {Fp : List Addr} {Q : Bool → Hp → Prop} (S : Sta X.K G H σ env Fp)
    (h : Post X.K X.mg W VrB pu σ G H Fp env Q ((m.bind tru) env)) : te σ H fun x H1 => ∃ c, x = .bl c ∧ Q c H1 := by
  refine k G H σ env Fp _ S (Post.bind (pu1 := pu) (pu2 := true) (by rw [Bool.and_true]; exact h) vrd_nil fun d env1 v G1 H1 Fp1 st S1 q w h1 => ?_)
  cases d with
  | bool b =>
    have z := (vrd_gr.mp w).2.of_bool
    exact ⟨b, z, post_pure h1 S1 ⟨rfl, rfl⟩⟩
  | _ => exact h1.elim
/-- a value that is a truth, as a test -/
theorem et_val (h : Ex X W md pu e m) (he : ∀ whole, isTrue e X.env whole = (do let v ← whole; standAt e.pos; holding [v] (truthy v)) := by intro _; rfl) : Et X W pu e (m.bind tru) := by
  obtain ⟨te, p, k⟩ := h
  exact ⟨_, pt_val p he, fun G H σ env Fp Q S h => post_test k S h⟩
/-- a comparison as a test -/
theorem et2 {r : R2} {g : D → D → Option D} (hp : ∀ ta tb, PE X a ta → PE X b tb → PT X e (tTest (tOp r ta tb))) (hr : OpS X.K r g) (ha : Ex X W md pa a ma) (hb : Ex X W md pb b mb) (hm : md = .frz ∨ pb = true := by first | exact Or.inl rfl | exact Or.inr rfl) : Et X W (pa && pb) e ((m2 g ma mb).bind tru) := by
  obtain ⟨ta, p1, k1⟩ := ha
  obtain ⟨tb, p2, k2⟩ := hb
  refine ⟨_, hp _ _ p1 p2, fun G H σ env Fp Q S h => post_test (te := tOp r ta tb) (md := md) (fun G H σ env Fp Q S h => k1 G H σ env Fp _ S (Post.bind h vrd_nil fun d1 env1 v1 G1 H1 Fp1 st1 S1 q1 w1 h1 => ?_)) S h⟩
  refine k2 G1 H1 σ env1 Fp1 _ S1 (Post.bind (pu1 := pb) (pu2 := true) (by rw [Bool.and_true]; exact h1) vrd_nil fun d2 env2 v2 G2 H2 Fp2 st2 S2 q2 w2 h2 => ?_)
  obtain ⟨d, e1, k⟩ := h2.lift0 S2
  refine hr (gr md G2 H2) H2 v1 v2 d1 d2 d Q (gr_le S2.le) ((vrd_gr.mp w1).2.up (gr_stay (K := X.K) hm st2 q2)) (vrd_gr.mp w2).2 e1 fun v G3 H3 w dv => ?_
  obtain ⟨G4, w4, l4⟩ := grow_gr (K := X.K) S2.le w
  exact k v G4 H3 w4 (vrd_gr.mpr ⟨rfl, dv.up l4⟩)
theorem t_ne (hu : X.A.units + 64 < cLine) (ha : Ex X W md pa a ma) (hb : Ex X W md pb b mb) (hm : md = .frz ∨ pb = true := by first | exact Or.inl rfl | exact Or.inr rfl) : Et X W (pa && pb) (.Compare a [.NotEq] [b] pos) ((m2 dNe ma mb).bind tru) :=
  et2 (fun ta tb p q => pt_cmpR (op_neDE hu) p q (nomark _)) os_ne ha hb hm
theorem t_lt (ha : Ex X W md pa a ma) (hb : Ex X W md pb b mb) (hm : md = .frz ∨ pb = true := by first | exact Or.inl rfl | exact Or.inr rfl) : Et X W (pa && pb) (.Compare a [.Lt] [b] pos) ((m2 dLt ma mb).bind tru) :=
  et2 (fun ta tb p q => pt_cmpR op_lt p q (nomark _)) (os_cmp fun a b d h => by unfold dLt at h; split at h <;> cases h; exact ⟨_, _, rfl, rfl, rfl⟩) ha hb hm
theorem t_le (ha : Ex X W md pa a ma) (hb : Ex X W md pb b mb) (hm : md = .frz ∨ pb = true := by first | exact Or.inl rfl | exact Or.inr rfl) : Et X W (pa && pb) (.Compare a [.LtE] [b] pos) ((m2 dLe ma mb).bind tru) :=
  et2 (fun ta tb p q => pt_cmpR op_le p q (nomark _)) (os_cmp fun a b d h => by unfold dLe at h; split at h <;> cases h; exact ⟨_, _, rfl, rfl, rfl⟩) ha hb hm
theorem t_gt (ha : Ex X W md pa a ma) (hb : Ex X W md pb b mb) (hm : md = .frz ∨ pb = true := by first | exact Or.inl rfl | exact Or.inr rfl) : Et X W (pa && pb) (.Compare a [.Gt] [b] pos) ((m2 dGt ma mb).bind tru) :=
  et2 (fun ta tb p q => pt_cmpR op_gt p q (nomark _)) (os_cmp fun a b d h => by unfold dGt at h; split at h <;> cases h; exact ⟨_, _, rfl, rfl, rfl⟩) ha hb hm
theorem t_ge (ha : Ex X W md pa a ma) (hb : Ex X W md pb b mb) (hm : md = .frz ∨ pb = true := by first | exact Or.inl rfl | exact Or.inr rfl) : Et X W (pa && pb) (.Compare a [.GtE] [b] pos) ((m2 dGe ma mb).bind tru) :=
  et2 (fun ta tb p q => pt_cmpR op_ge p q (nomark _)) (os_cmp fun a b d h => by unfold dGe at h; split at h <;> cases h; exact ⟨_, _, rfl, rfl, rfl⟩) ha hb hm
theorem t_in (hu : X.A.units + 65 < cLine) (hk : behindInMarks .In b = false) (ha : Ex X W md pa a ma) (hb : Ex X W md pb b mb) (hm : md = .frz ∨ pb = true := by first | exact Or.inl rfl | exact Or.inr rfl) : Et X W (pa && pb) (.Compare a [.In] [b] pos) ((m2 dIn ma mb).bind tru) :=
  et2 (fun ta tb p q => pt_cmpR ((op_inD hu).or (op_in_tupD hu)) p q hk) os_in ha hb hm
theorem t_notIn (hu : X.A.units + 65 < cLine) (hk : behindInMarks .NotIn b = false) (ha : Ex X W md pa a ma) (hb : Ex X W md pb b mb) (hm : md = .frz ∨ pb = true := by first | exact Or.inl rfl | exact Or.inr rfl) : Et X W (pa && pb) (.Compare a [.NotIn] [b] pos) ((m2 dNotIn ma mb).bind tru) :=
  et2 (fun ta tb p q => pt_cmpR ((op_notInD hu).or (op_notIn_tupD hu)) p q hk) os_notIn ha hb hm
theorem Ew.pt (h : Ew X W pu e mc) : Et X W pu e mc := by
  obtain ⟨tt, p, k⟩ := h
  exact ⟨tt, p.pt, k⟩
def tAndM (x y : M Bool) : M Bool := x.bind fun b => if b = true then y else M.pure false
def tOrM (x y : M Bool) : M Bool := x.bind fun b => if b = true then M.pure true else y
def tNotM (x : M Bool) : M Bool := x.bind fun b => M.pure (!b)
theorem w_and1 (h : Et X W pa a mc) : Ew X W pa (.BoolOp .And [a] pos) mc := by
  obtain ⟨tt, p, k⟩ := h
  exact ⟨tt, pw_and1 p, k⟩
theorem w_or1 (h : Et X W pa a mc) : Ew X W pa (.BoolOp .Or [a] pos) mc := by
  obtain ⟨tt, p, k⟩ := h
  exact ⟨tt, pw_or1 p, k⟩
theorem w_and (ha : Et X W pa a mc) (hb : Ew X W pb (.BoolOp .And (b :: rest) pos) nc) : Ew X W (pa && pb) (.BoolOp .And (a :: b :: rest) pos) (tAndM mc nc) := by
  obtain ⟨ta, p1, k1⟩ := ha
  obtain ⟨tb, p2, k2⟩ := hb
  refine ⟨_, pw_and p1 p2, fun G H σ env Fp Q S h => k1 G H σ env Fp _ S (Post.bind h vrb_nil fun d env1 v G1 H1 Fp1 st S1 q w h1 => ?_)⟩
  obtain ⟨_, e1⟩ := w
  subst e1
  cases v with
  | true => exact k2 G1 H1 σ env1 Fp1 Q S1 h1
  | false => exact h1 false G1 H1 Fp1 [] Step.refl S1 S1.nd (fun _ m => nomatch m) (fun _ => ⟨rfl, rfl, Grow.refl S1.le⟩) ⟨rfl, rfl⟩
theorem w_or (ha : Et X W pa a mc) (hb : Ew X W pb (.BoolOp .Or (b :: rest) pos) nc) : Ew X W (pa && pb) (.BoolOp .Or (a :: b :: rest) pos) (tOrM mc nc) := by
  obtain ⟨ta, p1, k1⟩ := ha
  obtain ⟨tb, p2, k2⟩ := hb
  refine ⟨_, pw_or p1 p2, fun G H σ env Fp Q S h => k1 G H σ env Fp _ S (Post.bind h vrb_nil fun d env1 v G1 H1 Fp1 st S1 q w h1 => ?_)⟩
  obtain ⟨_, e1⟩ := w
  subst e1
  cases v with
  | false => exact k2 G1 H1 σ env1 Fp1 Q S1 h1
  | true => exact h1 true G1 H1 Fp1 [] Step.refl S1 S1.nd (fun _ m => nomatch m) (fun _ => ⟨rfl, rfl, Grow.refl S1.le⟩) ⟨rfl, rfl⟩
theorem t_not (ha : Et X W pa a mc) : Et X W pa (.UnaryOp .Not a pos) (tNotM mc) := by
  obtain ⟨ta, p1, k1⟩ := ha
  refine ⟨_, pt_not p1, fun G H σ env Fp Q S h => k1 G H σ env Fp _ S (Post.bind (pu1 := pa) (pu2 := true) (by rw [Bool.and_true]; exact h) vrb_nil fun d env1 v G1 H1 Fp1 st S1 q w h1 => ?_)⟩
  obtain ⟨_, e1⟩ := w
  subst e1
  exact post_pure h1 S1 ⟨rfl, rfl⟩
/-! ### truths as values -/
def bl : Bool → M D := fun b => M.pure (.bool b)
def vAnd (x y : M D) : M D := x.bind fun d => (tru d).bind fun b => if b = true then y else bl false
def vOr (x y : M D) : M D := x.bind fun d => (tru d).bind fun b => if b = true then bl true else y
def vNot (x : M D) : M D := x.bind fun d => (tru d).bind fun b => bl (!b)
theorem x_one {op : BoolOp} (h : Ex X W md pa a ma) : Ex X W md pa (.BoolOp op [a] pos) ma := by
  obtain ⟨te, p, k⟩ := h
  exact ⟨te, pe_one p, k⟩
theorem x_and (ha : Ex X W .frz pa a ma) (hb : Ex X W .frz pb (.BoolOp .And (b :: rest) pos) mb) : Ex X W .frz (pa && pb) (.BoolOp .And (a :: b :: rest) pos) (vAnd ma mb) := by
  obtain ⟨ta, p1, k1⟩ := ha
  obtain ⟨tb, p2, k2⟩ := hb
  refine ⟨_, pe_and p1 p2, fun G H σ env Fp Q S h => k1 G H σ env Fp _ S (Post.bind h vrd_nil fun d env1 v G1 H1 Fp1 st S1 q w h1 => ?_)⟩
  cases d with
  | bool c =>
    refine ⟨c, w.2.of_bool, ?_⟩
    cases c with
    | true => exact k2 G1 H1 σ env1 Fp1 Q S1 h1
    | false => exact h1 (.bl false) G1 H1 Fp1 [] Step.refl S1 S1.nd (fun _ m => nomatch m) (fun _ => ⟨rfl, rfl, Grow.refl S1.le⟩) ⟨rfl, .bl _⟩
  | _ => exact h1.elim
theorem x_or (ha : Ex X W .frz pa a ma) (hb : Ex X W .frz pb (.BoolOp .Or (b :: rest) pos) mb) : Ex X W .frz (pa && pb) (.BoolOp .Or (a :: b :: rest) pos) (vOr ma mb) := by
  obtain ⟨ta, p1, k1⟩ := ha
  obtain ⟨tb, p2, k2⟩ := hb
  refine ⟨_, pe_or p1 p2, fun G H σ env Fp Q S h => k1 G H σ env Fp _ S (Post.bind h vrd_nil fun d env1 v G1 H1 Fp1 st S1 q w h1 => ?_)⟩
  cases d with
  | bool c =>
    refine ⟨c, w.2.of_bool, ?_⟩
    cases c with
    | false => exact k2 G1 H1 σ env1 Fp1 Q S1 h1
    | true => exact h1 (.bl true) G1 H1 Fp1 [] Step.refl S1 S1.nd (fun _ m => nomatch m) (fun _ => ⟨rfl, rfl, Grow.refl S1.le⟩) ⟨rfl, .bl _⟩
  | _ => exact h1.elim
theorem x_not (ha : Ex X W .frz pa a ma) : Ex X W .frz pa (.UnaryOp .Not a pos) (vNot ma) := by
  obtain ⟨ta, p1, k1⟩ := ha
  refine ⟨_, pe_not p1, fun G H σ env Fp Q S h => k1 G H σ env Fp _ S (Post.bind (pu1 := pa) (pu2 := true) (by rw [Bool.and_true]; exact h) vrd_nil fun d env1 v G1 H1 Fp1 st S1 q w h1 => ?_)⟩
  cases d with
  | bool c => exact ⟨c, w.2.of_bool, post_pure h1 S1 ⟨rfl, .bl _⟩⟩
  | _ => exact h1.elim
/-! ### a if t else b -/
def mIf {α : Type} (t : M Bool) (x y : M α) : M α := t.bind fun b => if b = true then x else y
theorem post_if {α β : Type} {Vr : Hp → Hp → β → α → List Addr → Prop} {tt : TT} {ta tb : L2.St → Hp → (β → Hp → Prop) → Prop} {x y : M α}
    (k0 : ∀ G H σ env Fp Q, Sta X.K G H σ env Fp → Post X.K X.mg W VrB pc σ G H Fp env Q (mc env) → tt σ H Q)
    (k1 : ∀ G H σ env Fp Q, Sta X.K G H σ env Fp → Post X.K X.mg W Vr pa σ G H Fp env Q (x env) → ta σ H Q)
    (k2 : ∀ G H σ env Fp Q, Sta X.K G H σ env Fp → Post X.K X.mg W Vr pb σ G H Fp env Q (y env) → tb σ H Q) {G H : Hp} {σ : L2.St} {env : Env} {Fp : List Addr} {Q : β → Hp → Prop} (S : Sta X.K G H σ env Fp)
    (h : Post X.K X.mg W Vr (pc && (pa && pb)) σ G H Fp env Q (mIf mc x y env)) : tt σ H fun b H1 => if b = true then ta σ H1 Q else tb σ H1 Q := by
  refine k0 G H σ env Fp _ S (Post.bind h vrb_nil fun d env1 v G1 H1 Fp1 st S1 q w h1 => ?_)
  obtain ⟨_, e1⟩ := w
  subst e1
  have weak : ∀ {p : Bool} {r : Rs α}, ((pa && pb) = true → p = true) → Post X.K X.mg W Vr (pa && pb) σ G1 H1 Fp1 env1 Q r → Post X.K X.mg W Vr p σ G1 H1 Fp1 env1 Q r := fun {p r} hp hh => by
    cases r with
    | bad => exact hh
    | exn x e' => exact hh
    | ok z e' => exact fun b G' H' Fp' Fr st S nd ap q v => hh b G' H' Fp' Fr st S nd ap (fun z => q (hp z)) v
  cases v with
  | true => exact k1 G1 H1 σ env1 Fp1 Q S1 (weak (fun z => (Bool.and_eq_true_iff.mp z).1) h1)
  | false => exact k2 G1 H1 σ env1 Fp1 Q S1 (weak (fun z => (Bool.and_eq_true_iff.mp z).2) h1)
theorem x_if (hc : Et X W pc c mc) (ha : Ex X W md pa a ma) (hb : Ex X W md pb b mb) : Ex X W md (pc && (pa && pb)) (.IfExp c a b pos) (mIf mc ma mb) := by
  obtain ⟨tc, p0, k0⟩ := hc
  obtain ⟨ta, p1, k1⟩ := ha
  obtain ⟨tb, p2, k2⟩ := hb
  exact ⟨_, pe_ifExp p0 p1 p2, fun G H σ env Fp Q S h => post_if k0 k1 k2 S h⟩
/-! ### a op1 b op2 c -/
def m3c (g g' : D → D → Option D) (ma mb mc : M D) : M D := ma.bind fun x => mb.bind fun y => (M.lift (g x y)).bind fun r => (tru r).bind fun k => if k = true then mc.bind fun z => M.lift (g' y z) else bl false
theorem rd_chain {r r' : R2} {g g' : D → D → Option D} {mz : M D} {ta tb tc : TE} (hr : OpS X.K r g) (hr' : OpS X.K r' g') (k1 : ∀ G H σ env Fp Q, Sta X.K G H σ env Fp → Post X.K X.mg W (VrD X.K .frz) pa σ G H Fp env Q (ma env) → ta σ H Q)
    (k2 : ∀ G H σ env Fp Q, Sta X.K G H σ env Fp → Post X.K X.mg W (VrD X.K .frz) pb σ G H Fp env Q (mb env) → tb σ H Q) (k3 : ∀ G H σ env Fp Q, Sta X.K G H σ env Fp → Post X.K X.mg W (VrD X.K .frz) pc σ G H Fp env Q (mz env) → tc σ H Q) :
    ∀ G H σ env Fp Q, Sta X.K G H σ env Fp → Post X.K X.mg W (VrD X.K .frz) (pa && (pb && pc)) σ G H Fp env Q (m3c g g' ma mb mz env) → tChain r r' ta tb tc σ H Q := fun G H σ env Fp Q S h => by
  refine k1 G H σ env Fp _ S (Post.bind h vrd_nil fun d1 env1 v1 G1 H1 Fp1 st1 S1 q1 w1 h1 => ?_)
  refine k2 G1 H1 σ env1 Fp1 _ S1 (Post.bind h1 vrd_nil fun d2 env2 v2 G2 H2 Fp2 st2 S2 q2 w2 h2 => ?_)
  cases e0 : g d1 d2 with
  | none =>
    rw [M.bind_bad (show M.lift (g d1 d2) env2 = .bad by rw [e0]; rfl)] at h2
    exact h2.elim
  | some d =>
    rw [M.bind_ok (show M.lift (g d1 d2) env2 = .ok d env2 by rw [e0]; rfl)] at h2
    refine hr G2 H2 v1 v2 d1 d2 d _ S2.le (w1.2.up (same_gle st2.sub)) w2.2 e0 fun v G3 H3 w dv => ?_
    cases d with
    | bool k =>
      have S3 := S2.grow w
      have st3 : Step G2 H2 Fp2 G3 H3 Fp2 := w.step
      refine ⟨k, dv.of_bool, ?_⟩
      cases k with
      | false =>
        have h3 : Post X.K X.mg W (VrD X.K .frz) pc σ G2 H2 Fp2 env2 Q (.ok (.bool false) env2) := h2
        exact h3 (.bl false) G3 H3 Fp2 [] st3 S3 S3.nd (fun _ m => nomatch m) (fun _ => ⟨rfl, rfl, w⟩) ⟨rfl, .bl _⟩
      | true =>
        have h3 : Post X.K X.mg W (VrD X.K .frz) pc σ G2 H2 Fp2 env2 Q ((mz.bind fun z => M.lift (g' d2 z)) env2) := h2
        have h4 : Post X.K X.mg W (VrD X.K .frz) pc σ G3 H3 Fp2 env2 Q ((mz.bind fun z => M.lift (g' d2 z)) env2) := Post.shift (pu1 := true) (pu2 := pc) (by rw [Bool.true_and]; exact h3) st3 fun _ => ⟨rfl, rfl, w⟩
        refine k3 G3 H3 σ env2 Fp2 _ S3 (Post.bind (pu1 := pc) (pu2 := true) (by rw [Bool.and_true]; exact h4) vrd_nil fun d3 env3 v3 G4 H4 Fp4 st4 S4 q4 w4 h5 => ?_)
        obtain ⟨d', e1, kk⟩ := h5.lift0 S4
        exact hr' G4 H4 v2 v3 d2 d3 d' Q S4.le (w2.2.up (same_gle (st3.sub.trans st4.sub))) w4.2 e1 fun v5 G5 H5 w5 dv5 => kk v5 G5 H5 w5 ⟨rfl, dv5⟩
    | _ => exact h2.elim
end
end DL
/-! The data layer, part F: displays, slots that change, statements, loops. -/
namespace DL
open PySem L2 PyProof.Rows
/-! ### slots -/
section
variable {K : Frg} {G H : Hp}
theorem Slots.put {v : V} {t : T} {Fr : List Addr} (o : Own K G H v t Fr) : ∀ {σ : L2.St} {env : Env} {F : List Addr} (i : Nat), Slots K G H σ env F →
    ∃ F', Slots K G H (σ.set i (some v)) (env.set i (some t)) F' ∧ (∀ a ∈ F', a ∈ Fr ∨ a ∈ F) ∧ ((Fr ++ F).Nodup → F'.Nodup)
  | _, _, _, i, .nil => ⟨[], by simpa using Slots.nil, fun _ m => absurd m (by simp), fun _ => List.nodup_nil⟩
  | _, _, F, 0, .no r => ⟨Fr ++ F, .so o r, fun a m => List.mem_append.mp m, fun n => n⟩
  | _, _, _, 0, .so (F := F1) (F' := F2) h r => ⟨Fr ++ F2, .so o r, fun a m => (List.mem_append.mp m).imp id (List.mem_append_right _), fun n => by
      rw [List.nodup_append] at n ⊢
      refine ⟨n.1, (List.nodup_append.mp n.2.1).2.1, fun a ma b mb => n.2.2 a ma b (List.mem_append_right _ mb)⟩⟩
  | _, _, F, i + 1, .no r => by
    obtain ⟨F', s, k, n⟩ := Slots.put o i r
    exact ⟨F', .no s, k, n⟩
  | _, _, _, i + 1, .so (F := F1) (F' := F2) h r => by
    obtain ⟨F', s, k, n⟩ := Slots.put o i r
    refine ⟨F1 ++ F', .so h s, fun a m => ?_, fun nd => ?_⟩
    · rcases List.mem_append.mp m with m | m
      · exact .inr (List.mem_append_left _ m)
      · exact (k a m).imp id (List.mem_append_right _)
    · rw [List.nodup_append] at nd
      have n2 := List.nodup_append.mp nd.2.1
      refine List.nodup_append.mpr ⟨n2.1, n (List.nodup_append.mpr ⟨nd.1, n2.2.1, fun a ma b mb => nd.2.2 a ma b (List.mem_append_right _ mb)⟩), fun a ma b mb e => ?_⟩
      rcases k b mb with z | z
      · exact nd.2.2 b z a (List.mem_append_left _ ma) e.symm
      · exact n2.2.2 a ma b z e
/-- a slot's thing taken out -/
theorem Slots.take : ∀ {σ : L2.St} {env : Env} {F : List Addr} {i : Nat} {t : T}, Slots K G H σ env F → env[i]? = some (some t) →
    ∃ v F0 F', σ[i]? = some (some v) ∧ Own K G H v t F0 ∧ Slots K G H σ (env.set i none) F' ∧ (∀ a ∈ F0, a ∈ F) ∧ (∀ a ∈ F', a ∈ F) ∧ (F.Nodup → (F0 ++ F').Nodup)
  | _, _, _, 0, _, .so (F := F1) (F' := F2) h r, e => by
    cases e
    exact ⟨_, F1, F2, rfl, h, .no r, fun a m => List.mem_append_left _ m, fun a m => List.mem_append_right _ m, fun n => n⟩
  | _, _, _, 0, _, .no r, e => by cases e
  | _, _, _, i + 1, t, .no r, e => by
    obtain ⟨v, F0, F', e1, o, s, k1, k2, n⟩ := Slots.take (i := i) r e
    exact ⟨v, F0, F', e1, o, .no s, k1, k2, n⟩
  | _, _, _, i + 1, t, .so (F := F1) (F' := F2) h r, e => by
    obtain ⟨v, F0, F', e1, o, s, k1, k2, n⟩ := Slots.take (i := i) r e
    refine ⟨v, F0, F1 ++ F', e1, o, .so h s, fun a m => List.mem_append_right _ (k1 a m), fun a m => ?_, fun nd => ?_⟩
    · rcases List.mem_append.mp m with m | m
      · exact List.mem_append_left _ m
      · exact List.mem_append_right _ (k2 a m)
    · rw [List.nodup_append] at nd
      have z := List.nodup_append.mp (n nd.2.1)
      refine List.nodup_append.mpr ⟨z.1, List.nodup_append.mpr ⟨nd.1, z.2.1, fun a ma b mb => nd.2.2 a ma b (k2 b mb)⟩, fun a ma b mb => ?_⟩
      rcases List.mem_append.mp mb with mb | mb
      · exact fun e => nd.2.2 b mb a (k1 a ma) e.symm
      · exact z.2.2 a ma b mb
/-- .. and put back, the value as it was -/
theorem Slots.back {v : V} {t : T} {F0 : List Addr} (o : Own K G H v t F0) : ∀ {σ : L2.St} {env : Env} {F : List Addr} {i : Nat}, Slots K G H σ env F → σ[i]? = some (some v) →
    ∃ F', Slots K G H σ (env.set i (some t)) F' ∧ (∀ a ∈ F', a ∈ F0 ∨ a ∈ F) ∧ ((F0 ++ F).Nodup → F'.Nodup) := fun {σ env F i} s e => by
  obtain ⟨F', q, k, n⟩ := s.put o i
  have z : σ.set i (some v) = σ := by
    apply List.ext_getElem?
    intro j
    by_cases h : i = j
    · subst h
      have hl : i < σ.length := (List.getElem?_eq_some_iff.mp e).1
      rw [List.getElem?_set_self hl, e]
    · rw [List.getElem?_set_ne h]
  rw [z] at q
  exact ⟨F', q, k, n⟩
end
section
variable {K : Frg} {G H : Hp} {σ : L2.St} {env : Env} {Fp Fr : List Addr} {v : V} {t : T}
theorem Sta.put (S : Sta K G H σ env Fp) (o : Own K G H v t Fr) (nd : (Fr ++ Fp).Nodup) (ap : ∀ a ∈ Fr, G a = none) (i : Nat) : ∃ F', Sta K G H (σ.set i (some v)) (env.set i (some t)) F' ∧ ∀ a ∈ F', a ∈ Fr ++ Fp := by
  obtain ⟨F', s, k, n⟩ := S.sl.put o i
  exact ⟨F', ⟨S.le, s, n nd, fun a m => (k a m).elim (ap a) (S.ap a)⟩, fun a m => List.mem_append.mpr (k a m)⟩
theorem Step.sub_end {G H G' H' : Hp} {F F1 F2 : List Addr} (st : Step G H F G' H' F1) (k : ∀ a ∈ F2, a ∈ F1) : Step G H F G' H' F2 := ⟨st.keep, st.sub, st.frG, fun a m => st.frF a (k a m)⟩
end
/-! ### displays -/
/-- what waits while other code runs -/
theorem pend {G1 H1 G2 H2 : Hp} {Fp1 F2 Fr : List Addr} (st : Step G1 H1 Fp1 G2 H2 F2) (bx : ∀ a ∈ Fr, box (H1 a)) (ap : ∀ a ∈ Fr, G1 a = none) (dj : ∀ a ∈ Fr, a ∉ Fp1) : ∀ a ∈ Fr, H2 a = H1 a ∧ G2 a = none ∧ a ∉ F2 := fun a m => by
  obtain ⟨u, e⟩ := box_some (bx a m)
  refine ⟨by rw [e]; exact st.keep a u e (dj a m), ?_, fun z => ?_⟩
  · cases q : G2 a with
    | none => rfl
    | some o =>
      have b := bx a m
      rcases st.frG a (by rw [q]; exact fun z => nomatch z) with z | z | z | ⟨xs, z⟩
      · exact absurd (ap a m) z
      · rw [z] at e; cases e
      · exact absurd z (dj a m)
      · rw [z] at b; exact b.elim
  · rcases st.frF a z with z | z
    · rw [z] at e; cases e
    · exact dj a m z
theorem Step.more {G H G' H' : Hp} {F F0 F' : List Addr} (st : Step G H F G' H' F') : Step G H (F0 ++ F) G' H' F' :=
  ⟨fun a o h n => st.keep a o h fun m => n (List.mem_append_right _ m), st.sub, fun a h => by
    rcases st.frG a h with z | z | z | z
    · exact .inl z
    · exact .inr (.inl z)
    · exact .inr (.inr (.inl (List.mem_append_right _ z)))
    · exact .inr (.inr (.inr z)), fun a m => (st.frF a m).imp id (List.mem_append_right _)⟩
theorem Step.hold {G H G' H' : Hp} {F F0 F' : List Addr} (st : Step G H F G' H' F') : Step G H (F0 ++ F) G' H' (F0 ++ F') :=
  ⟨st.more.keep, st.sub, st.more.frG, fun a m => by
    rcases List.mem_append.mp m with z | z
    · exact .inr (List.mem_append_left _ z)
    · exact st.more.frF a z⟩
section
variable {X : Cx} {W : WX} {md : Md} {pu pa pb pc : Bool} {e a b c : Expr} {es rest : List Expr} {m ma mb : M D} {ms : M (List D)} {mt mt' : M T} {mts : M (List T)} {mc nc : M Bool} {pos : Pos}
def dTup (ds : List D) : Option D := if ds.length ≤ sizeLine then some (.tuple ds) else none
def dLst (ds : List D) : Option T := if ds.length ≤ sizeLine then some (.ol (ds.map T.fz)) else none
def rTup : List V → Hp → VK → Prop := fun xs H Q => xs.length ≤ sizeLine ∧ ∀ p, H p = none → Q (.ref p) (upd H p (.tup xs))
def rLst : List V → Hp → VK → Prop := fun xs H Q => xs.length ≤ sizeLine ∧ ∀ p, H p = none → Q (.ref p) (upd H p (.lst xs))
theorem cs_tup {K : Frg} : CaS K rTup dTup := fun G H xs ds d Q gl e1 e k => by
  unfold dTup at e
  split at e
  · cases e
    exact ⟨by rw [e1.length]; assumption, fun p hp => new_tup gl hp e1 k⟩
  · cases e
theorem co_lst {K : Frg} : CaO K rLst dLst := fun G H xs ds d Q gl e1 e k => by
  unfold dLst at e
  split at e
  · cases e
    exact ⟨by rw [e1.length]; assumption, fun p hp => new_list gl hp e1 k⟩
  · cases e
theorem x_tup {k : Nat} (ha : Ea X W .frz pa es ms) : Ex X W .frz pa (.Tuple es k pos) (mL dTup ms) := exL (r := rTup) (fun ta p => pe_tup p) cs_tup ha
theorem o_lst (ha : Ea X W .frz pa es ms) : Eo X W pa (.List es pos) (mL dLst ms) := eoL (r := rLst) (fun ta p => pe_lst p) co_lst ha
/-! owned parts -/
def mNilT : M (List T) := M.pure []
def mConsT (ma : M T) (ms : M (List T)) : M (List T) := ma.bind fun x => ms.bind fun xs => M.pure (x :: xs)
theorem ey_nil : Ey X W true [] mNilT := ⟨_, pa_nil, fun G H σ env Fp Q S h => post_pure h S .nil⟩
theorem ey_cons (ha : Eo X W pa a mt) (hb : Ey X W pb es mts) (hs : starEach (a :: es) X.env = (false, eval a X.env) :: starEach es X.env := by rfl) : Ey X W (pa && pb) (a :: es) (mConsT mt mts) := by
  obtain ⟨ta, p1, k1⟩ := ha
  obtain ⟨tb, p2, k2⟩ := hb
  refine ⟨_, pa_cons p1 p2 hs, fun G H σ env Fp Q S h => k1 G H σ env Fp _ S ?_⟩
  unfold mConsT at h
  cases r : mt env with
  | bad => rw [M.bind_bad r] at h; exact h
  | exn x env' => rw [M.bind_exn r] at h; exact h
  | ok t env1 =>
    rw [M.bind_ok r] at h
    intro v1 G1 H1 Fp1 Fr1 st1 S1 nd1 ap1 q1 o1
    have o1 : Own X.K G1 H1 v1 t Fr1 := o1
    have dj : ∀ x ∈ Fr1, x ∉ Fp1 := fun x m z => (List.nodup_append.mp nd1).2.2 x m x z rfl
    refine k2 G1 H1 σ env1 Fp1 _ S1 ?_
    cases r2 : mts env1 with
    | bad => rw [M.bind_bad r2] at h; exact h
    | exn x env' =>
      rw [M.bind_exn r2] at h
      exact fun cls dd G' H' Fp' st' S' e => h cls dd G' H' Fp' (st1.trans st'.more) S' e
    | ok ts env2 =>
      rw [M.bind_ok r2] at h
      intro xs G2 H2 Fp2 Fr2 st2 S2 nd2 ap2 q2 o2
      have P := pend st2 o1.boxes ap1 dj
      refine h (v1 :: xs) G2 H2 Fp2 (Fr1 ++ Fr2) ?_ S2 ?_ ?_ (fun z => ?_) (.cons (o1.stay (same_gle st2.sub) fun x m => (P x m).1) o2)
      · rw [List.append_assoc]; exact st1.trans st2.hold
      · rw [List.append_assoc]
        exact List.nodup_append.mpr ⟨(List.nodup_append.mp nd1).1, nd2, fun x m y n z => (P x m).2.2 (z ▸ n)⟩
      · exact fun x m => (List.mem_append.mp m).elim (fun m => (P x m).2.1) (ap2 x)
      · obtain ⟨z1, z2⟩ := Bool.and_eq_true_iff.mp z
        obtain ⟨e1, f1, g1⟩ := q1 z1
        obtain ⟨e2, f2, g2⟩ := q2 z2
        exact ⟨e2.trans e1, f2.trans f1, g1.trans g2⟩
def tTupO (ts : List T) : Option T := if ts.length ≤ sizeLine then some (.ot ts) else none
def tLstO (ts : List T) : Option T := if ts.length ≤ sizeLine then some (.ol ts) else none
def mLT (g : List T → Option T) (ms : M (List T)) : M T := ms.bind fun x => M.lift (g x)
theorem OwnL.len {K : Frg} {G H : Hp} : ∀ {vs : List V} {ts : List T} {F : List Addr}, OwnL K G H vs ts F → vs.length = ts.length
  | _, _, _, .nil => rfl
  | _, _, _, .cons _ t => congrArg (· + 1) t.len
/-- a display of owned parts -/
theorem eo_disp {g : List T → Option T} {r : List V → Hp → VK → Prop} (hp : ∀ ta, PA X es ta → PE X e (tCB r ta))
    (hr : ∀ G H xs ts F t Q, GLe G H → OwnL X.K G H xs ts F → F.Nodup → (∀ x ∈ F, G x = none) → g ts = some t → (∀ v G' H' F', Grow G H G' H' → Own X.K G' H' v t F' → F'.Nodup → (∀ x ∈ F', G' x = none) → (∀ x ∈ F', x ∈ F ∨ H x = none) → Q v H') → r xs H Q)
    (ha : Ey X W pa es mts) : Eo X W pa e (mLT g mts) := by
  obtain ⟨ta, p1, k1⟩ := ha
  refine ⟨_, hp _ p1, fun G H σ env Fp Q S h => k1 G H σ env Fp _ S ?_⟩
  unfold mLT at h
  cases r1 : mts env with
  | bad => rw [M.bind_bad r1] at h; exact h
  | exn x env' => rw [M.bind_exn r1] at h; exact h
  | ok ts env1 =>
    rw [M.bind_ok r1] at h
    intro xs G1 H1 Fp1 Fr1 st1 S1 nd1 ap1 q1 o1
    cases e1 : g ts with
    | none => rw [e1] at h; exact h.elim
    | some t =>
      rw [e1] at h
      refine hr G1 H1 xs ts Fr1 t Q S1.le o1 (List.nodup_append.mp nd1).1 ap1 e1 fun v G2 H2 F2 w o nd ap sb => ?_
      have S2 := S1.grow w
      have dj : ∀ x ∈ F2, x ∉ Fp1 := fun x m z => by
        rcases sb x m with q | q
        · exact (List.nodup_append.mp nd1).2.2 x q x z rfl
        · have b := S1.sl.boxes x z
          rw [q] at b
          exact b
      refine h v G2 H2 Fp1 F2 (st1.trans ⟨fun a u z _ => w.same a u z, w.sub, fun a z => ?_, fun a z => ?_⟩) S2 (List.nodup_append.mpr ⟨nd, S2.nd, fun x m y n z => dj x m (z ▸ n)⟩) ap (fun z => ?_) o
      · rcases w.frG a z with q | q | q
        · exact .inl q
        · exact .inr (.inl q)
        · exact .inr (.inr (.inr q))
      · rcases List.mem_append.mp z with z | z
        · rcases sb a z with q | q
          · exact .inr (List.mem_append_left _ q)
          · exact .inl q
        · exact .inr (List.mem_append_right _ z)
      · obtain ⟨a1, a2, a3⟩ := q1 z
        exact ⟨a1, a2, a3.trans w⟩
theorem o_lstO (ha : Ey X W pa es mts) : Eo X W pa (.List es pos) (mLT tLstO mts) := eo_disp (r := rLst) (fun ta p => pe_lst p) (fun G H xs ts F t Q gl o nd ap e k => by
  unfold tLstO at e
  split at e
  · cases e
    refine ⟨by rw [o.len]; assumption, fun p hp => ?_⟩
    have w := grow_new gl hp (.lst xs)
    have np : ∀ x ∈ F, x ≠ p := fun x m z => by have b := o.boxes x m; rw [z, hp] at b; exact b
    exact k _ G _ (p :: F) w (.ol upd_same (o.stay (GLe.refl _) fun x m => by rw [upd_ne (np x m)])) (List.nodup_cons.mpr ⟨fun m => np p m rfl, nd⟩) (fun x m => (List.mem_cons.mp m).elim (fun z => z ▸ gle_none gl hp) (ap x)) fun x m => (List.mem_cons.mp m).elim (fun z => .inr (z ▸ hp)) .inl
  · cases e) ha
theorem o_tupO {k : Nat} (ha : Ey X W pa es mts) : Eo X W pa (.Tuple es k pos) (mLT tTupO mts) := eo_disp (r := rTup) (fun ta p => pe_tup p) (fun G H xs ts F t Q gl o nd ap e k => by
  unfold tTupO at e
  split at e
  · cases e
    refine ⟨by rw [o.len]; assumption, fun p hp => ?_⟩
    have w := grow_newF gl hp (.tup xs)
    have np : ∀ x ∈ F, x ≠ p := fun x m z => by have b := o.boxes x m; rw [z, hp] at b; exact b
    exact k _ _ _ F w (.ot upd_same (o.stay (same_gle w.sub) fun x m => by rw [upd_ne (np x m)])) nd (fun x m => by rw [upd_ne (np x m)]; exact ap x m) fun x m => .inl m
  · cases e) ha
end
end DL
/-! The data layer, part G: statements. -/
namespace DL
open PySem L2 PyProof.Rows
inductive Fl where
  | nx | bk | ct
  | rt (t : T)
/-- slots that no statement stores -/
def Fix (fx : List Nat) (σ σ' : L2.St) : Prop := σ'.length = σ.length ∧ ∀ i ∈ fx, σ'[i]? = σ[i]?
theorem Fix.refl {fx : List Nat} {σ : L2.St} : Fix fx σ σ := ⟨rfl, fun _ _ => rfl⟩
theorem Fix.trans {fx : List Nat} {σ σ1 σ2 : L2.St} (a : Fix fx σ σ1) (b : Fix fx σ1 σ2) : Fix fx σ σ2 := ⟨b.1.trans a.1, fun i m => (b.2 i m).trans (a.2 i m)⟩
theorem Fix.set {fx : List Nat} {σ : L2.St} {i : Nat} {v : Option V} (h : i ∉ fx) : Fix fx σ (σ.set i v) := ⟨List.length_set, fun j m => by
  by_cases z : i = j
  · exact absurd (z ▸ m) h
  · rw [List.getElem?_set_ne z]⟩
def SPost (X : Cx) (W : WX) (fx : List Nat) (σ : L2.St) (G H : Hp) (Fp : List Addr) (Dn : Ends) : Rs Fl → Prop
  | .bad => False
  | .ok .nx env' => ∀ σ' G' H' Fp', Step G H Fp G' H' Fp' → Fix fx σ σ' → Sta X.K G' H' σ' env' Fp' → Dn.nx σ' H'
  | .ok .bk env' => ∀ σ' G' H' Fp', Step G H Fp G' H' Fp' → Fix fx σ σ' → Sta X.K G' H' σ' env' Fp' → Dn.bk σ' H'
  | .ok .ct env' => ∀ σ' G' H' Fp', Step G H Fp G' H' Fp' → Fix fx σ σ' → Sta X.K G' H' σ' env' Fp' → Dn.ct σ' H'
  | .ok (.rt t) env' => ∀ v σ' G' H' Fp' Fr, Step G H Fp G' H' (Fr ++ Fp') → Fix fx σ σ' → Sta X.K G' H' σ' env' Fp' → (Fr ++ Fp').Nodup → (∀ x ∈ Fr, G' x = none) → Own X.K G' H' v t Fr → Dn.rt v H'
  | .exn x env' => ∀ cls dd σ' G' H' Fp', Step G H Fp G' H' Fp' → Fix fx σ σ' → Sta X.K G' H' σ' env' Fp' → ExcOk X.K X.mg G' H' x cls dd → W cls dd σ' H'
section
variable {X : Cx} {W : WX} {fx : List Nat} {σ σ1 : L2.St} {G H G1 H1 : Hp} {Fp F1 : List Addr} {Dn D2 : Ends} {r : Rs Fl}
theorem SPost.shift (h : SPost X W fx σ G H Fp Dn r) (st : Step G H Fp G1 H1 F1) (f : Fix fx σ σ1) : SPost X W fx σ1 G1 H1 F1 Dn r := by
  cases r with
  | bad => exact h
  | exn x e => exact fun cls dd σ' G' H' Fp' s' f' S q => h cls dd σ' G' H' Fp' (st.trans s') (f.trans f') S q
  | ok fl e =>
    cases fl with
    | nx => exact fun σ' G' H' Fp' s' f' S => h σ' G' H' Fp' (st.trans s') (f.trans f') S
    | bk => exact fun σ' G' H' Fp' s' f' S => h σ' G' H' Fp' (st.trans s') (f.trans f') S
    | ct => exact fun σ' G' H' Fp' s' f' S => h σ' G' H' Fp' (st.trans s') (f.trans f') S
    | rt t => exact fun v σ' G' H' Fp' Fr s' f' S n a o => h v σ' G' H' Fp' Fr (st.trans s') (f.trans f') S n a o
/-- an expression, then a statement's rest -/
theorem SPost.expr {α β : Type} {Vr : Hp → Hp → β → α → List Addr → Prop} {pu : Bool} {m : M α} {f : α → M Fl} {env : Env} {R : β → Hp → Prop} (h : SPost X W fx σ G H Fp Dn ((m.bind f) env))
    (k : ∀ a env1 b G1 H1 Fp1 Fr, Step G H Fp G1 H1 (Fr ++ Fp1) → Sta X.K G1 H1 σ env1 Fp1 → (Fr ++ Fp1).Nodup → (∀ x ∈ Fr, G1 x = none) → Vr G1 H1 b a Fr → SPost X W fx σ G1 H1 (Fr ++ Fp1) Dn (f a env1) → R b H1) : Post X.K X.mg W Vr pu σ G H Fp env R (m env) := by
  cases e : m env with
  | bad => rw [M.bind_bad e] at h; exact h
  | exn x env' =>
    rw [M.bind_exn e] at h
    exact fun cls dd G' H' Fp' st S q => h cls dd σ G' H' Fp' st Fix.refl S q
  | ok a env1 =>
    rw [M.bind_ok e] at h
    exact fun b G' H' Fp' Fr st S nd ap _ v => k a env1 b G' H' Fp' Fr st S nd ap v (h.shift st Fix.refl)
end
section
variable (X : Cx) (W : WX) (fx : List Nat)
def DS (st : Stmt) (m : M Fl) : Prop := ∃ ts : TS, PS X st ts ∧ ∀ G H σ env Fp Dn, Sta X.K G H σ env Fp → SPost X W fx σ G H Fp Dn (m env) → ts Dn σ H
def DSs (sts : List Stmt) (m : M Fl) : Prop := ∃ ts : TS, PSs X sts ts ∧ ∀ G H σ env Fp Dn, Sta X.K G H σ env Fp → SPost X W fx σ G H Fp Dn (m env) → ts Dn σ H
end
def mSeq (m n : M Fl) : M Fl := m.bind fun f => match f with
  | .nx => n
  | f => M.pure f
def mNx : M Fl := M.pure .nx
section
variable {X : Cx} {W : WX} {fx : List Nat} {md : Md} {pu pa pb pc : Bool} {e a b c : Expr} {es : List Expr} {m ma mb : M D} {mt : M T} {mts : M (List T)} {mc : M Bool} {pos : Pos} {st : Stmt} {rest ba bb : List Stmt} {n n' : M Fl}
theorem ss_nil : DSs X W fx [] mNx := ⟨_, pss_nil, fun G H σ env Fp Dn S h => h σ G H Fp Step.refl Fix.refl S⟩
theorem ss_cons (h1 : DS X W fx st n) (h2 : DSs X W fx rest n') : DSs X W fx (st :: rest) (mSeq n n') := by
  obtain ⟨t1, p1, k1⟩ := h1
  obtain ⟨t2, p2, k2⟩ := h2
  refine ⟨_, pss_cons p1 p2, fun G H σ env Fp Dn S h => k1 G H σ env Fp _ S ?_⟩
  unfold mSeq at h
  cases r : n env with
  | bad => rw [M.bind_bad r] at h; exact h
  | exn x e' => rw [M.bind_exn r] at h; exact h
  | ok f e' =>
    rw [M.bind_ok r] at h
    cases f with
    | nx => exact fun σ' G' H' Fp' st' f' S' => k2 G' H' σ' e' Fp' Dn S' (h.shift st' f')
    | bk => exact h
    | ct => exact h
    | rt t => exact h
theorem ss_one (h1 : DS X W fx st n) : DSs X W fx [st] n := by
  obtain ⟨t1, p1, k1⟩ := h1
  exact ⟨_, pss_one p1, k1⟩
theorem s_break : DS X W fx (.Break pos) (M.pure .bk) := ⟨_, ps_break, fun G H σ env Fp Dn S h => h σ G H Fp Step.refl Fix.refl S⟩
/-! ### return -/
def mRt (m : M T) : M Fl := m.bind fun t => M.pure (.rt t)
theorem s_ret (h : Eo X W pu e mt) : DS X W fx (.Return (some e) pos) (mRt mt) := by
  obtain ⟨te, p, k⟩ := h
  exact ⟨_, ps_ret p, fun G H σ env Fp Dn S h => k G H σ env Fp _ S (SPost.expr h fun t env1 v G1 H1 Fp1 Fr st1 S1 nd ap o h1 => h1 v σ G1 H1 Fp1 Fr Step.refl Fix.refl S1 nd ap o)⟩
/-! ### an expression alone -/
def mDrop {α : Type} (m : M α) : M Fl := m.bind fun _ => M.pure .nx
theorem s_expr (h : Eo X W pu e mt) (hs : swapsWith e none pos.line X.env = pure false := by rfl) : DS X W fx (.Expr e pos) (mDrop mt) := by
  obtain ⟨te, p, k⟩ := h
  exact ⟨_, ps_expr p hs, fun G H σ env Fp Dn S h => k G H σ env Fp _ S (SPost.expr h fun t env1 v G1 H1 Fp1 Fr st1 S1 nd ap o h1 => h1 σ G1 H1 Fp1 (Step.refl.sub_end fun a m => List.mem_append_right _ m) Fix.refl S1)⟩
/-! ### if -/
def mIfS (t : M Bool) (x y : M Fl) : M Fl := t.bind fun b => if b = true then x else y
theorem s_if (hc : Et X W pc c mc) (ha : DSs X W fx ba n) (hb : DSs X W fx bb n') : DS X W fx (.If c ba bb pos) (mIfS mc n n') := by
  obtain ⟨tc, p0, k0⟩ := hc
  obtain ⟨ta, p1, k1⟩ := ha
  obtain ⟨tb, p2, k2⟩ := hb
  refine ⟨_, ps_if p0 p1 p2, fun G H σ env Fp Dn S h => k0 G H σ env Fp _ S (SPost.expr h fun d env1 v G1 H1 Fp1 Fr st1 S1 nd ap w h1 => ?_)⟩
  obtain ⟨rfl, rfl⟩ := w
  cases v with
  | true => exact k1 G1 H1 σ env1 Fp1 Dn S1 h1
  | false => exact k2 G1 H1 σ env1 Fp1 Dn S1 h1
/-! ### name = value -/
def mSet (i : Nat) (m : M T) : M Fl := m.bind fun t env => .ok .nx (env.set i (some t))
theorem s_set {i : Nat} {x : Str} {pos' : Pos} (hN : X.N.Nodup) (hi : X.N[i]? = some x) (hx : Loc X.env.scope x) (h : Eo X W pu e mt) (hf : i ∉ fx := by decide) (hs : swapsWith e (some (.Name x pos')) pos.line X.env = pure false := by rfl) (hl : X.fn x = true ∨ X.env.scope.names.lookup x = some .local := by first | exact .inl rfl | exact .inr rfl | assumption) :
    DS X W fx (.Assign [.Name x pos'] e pos) (mSet i mt) := by
  obtain ⟨te, p, k⟩ := h
  refine ⟨_, ps_set hN hi hx p hs hl, fun G H σ env Fp Dn S h => k G H σ env Fp _ S (SPost.expr h fun t env1 v G1 H1 Fp1 Fr st1 S1 nd ap o h1 => ?_)⟩
  obtain ⟨F', S2, sb⟩ := S1.put o nd ap i
  exact h1 _ G1 H1 F' (Step.refl.sub_end sb) (Fix.set hf) S2
/-! ### targets -/
def tParts : T → Option (List T)
  | .fz (.tuple ds) => some (ds.map T.fz)
  | .ot ts => some ts
  | _ => none
/-- a target stores a thing into the slots -/
def DG (X : Cx) (fx : List Nat) (tg : Expr) (f : T → Env → Option Env) : Prop := ∃ g : TG, PG X tg g ∧ ∀ G H σ env Fp v t Fr env1 Q, Sta X.K G H σ env Fp → Own X.K G H v t Fr → (Fr ++ Fp).Nodup → (∀ a ∈ Fr, G a = none) → f t env = some env1 →
  (∀ σ1 F1, Fix fx σ σ1 → Sta X.K G H σ1 env1 F1 → (∀ a ∈ F1, a ∈ Fr ++ Fp) → Q σ1 H) → g v σ H Q
def DGs (X : Cx) (fx : List Nat) (tgs : List Expr) (f : List T → Env → Option Env) : Prop := ∃ g : TGs, PGs X tgs g ∧ ∀ G H σ env Fp vs ts Fr env1 Q, Sta X.K G H σ env Fp → OwnL X.K G H vs ts Fr → (Fr ++ Fp).Nodup → (∀ a ∈ Fr, G a = none) → f ts env = some env1 →
  (∀ σ1 F1, Fix fx σ σ1 → Sta X.K G H σ1 env1 F1 → (∀ a ∈ F1, a ∈ Fr ++ Fp) → Q σ1 H) → g vs σ H Q
def gN (i : Nat) : T → Env → Option Env := fun t env => some (env.set i (some t))
def gNil' : List T → Env → Option Env := fun ts env => match ts with
  | [] => some env
  | _ => none
def gCons' (f : T → Env → Option Env) (g : List T → Env → Option Env) : List T → Env → Option Env := fun ts env => match ts with
  | t :: ts => (f t env).bind (g ts)
  | _ => none
def gT (n : Nat) (g : List T → Env → Option Env) : T → Env → Option Env := fun t env => (tParts t).bind fun ts => if ts.length = n then g ts env else none
theorem g_name {i : Nat} {x : Str} {pos' : Pos} (hN : X.N.Nodup) (hi : X.N[i]? = some x) (hx : Loc X.env.scope x) (hf : i ∉ fx := by decide) (hl : X.fn x = true ∨ X.env.scope.names.lookup x = some .local := by first | exact .inl rfl | exact .inr rfl | assumption) : DG X fx (.Name x pos') (gN i) :=
  ⟨_, pg_name hN hi hx hl, fun G H σ env Fp v t Fr env1 Q S o nd ap e k => by
    cases e
    obtain ⟨F', S2, sb⟩ := S.put o nd ap i
    exact k _ F' (Fix.set hf) S2 sb⟩
theorem gs_nil : DGs X fx [] gNil' := ⟨_, pgs_nil, fun G H σ env Fp vs ts Fr env1 Q S o nd ap e k => by
  cases o with
  | nil =>
    cases e
    exact ⟨rfl, k σ Fp Fix.refl S fun a m => m⟩
  | cons _ _ => cases e⟩
theorem gs_cons {f : T → Env → Option Env} {g : List T → Env → Option Env} (h1 : DG X fx e f) (h2 : DGs X fx es g) (hs : (assignEach (e :: es) X.env).map (·.2) = assign e X.env :: (assignEach es X.env).map (·.2) := by rfl) : DGs X fx (e :: es) (gCons' f g) := by
  obtain ⟨t1, p1, k1⟩ := h1
  obtain ⟨t2, p2, k2⟩ := h2
  refine ⟨_, pgs_cons p1 p2 hs, fun G H σ env Fp vs ts Fr env1 Q S o nd ap e k => ?_⟩
  cases o with
  | nil => cases e
  | cons o1 o2 =>
    rename_i v vs t ts Fa Fb
    have e : (f t env).bind (g ts) = some env1 := e
    cases q : f t env with
    | none => rw [q] at e; cases e
    | some env2 =>
      rw [q] at e
      have e : g ts env2 = some env1 := e
      have nd' : (Fa ++ (Fb ++ Fp)).Nodup := by rw [← List.append_assoc]; exact nd
      have n1 := List.nodup_append.mp nd'
      have n2 := List.nodup_append.mp n1.2.1
      refine ⟨v, vs, rfl, k1 G H σ env Fp v t Fa env2 _ S o1 (List.nodup_append.mpr ⟨n1.1, n2.2.1, fun a ma b mb => n1.2.2 a ma b (List.mem_append_right _ mb)⟩) (fun a m => ap a (List.mem_append_left _ m)) q fun σ1 F1 f1 S1 sb1 => ?_⟩
      refine k2 G H σ1 env2 F1 vs ts Fb env1 Q S1 o2 (List.nodup_append.mpr ⟨n2.1, S1.nd, fun a ma b mb z => ?_⟩) (fun a m => ap a (List.mem_append_right _ m)) e fun σ2 F2 f2 S2 sb2 => k σ2 F2 (f1.trans f2) S2 fun a m => ?_
      · subst z
        rcases List.mem_append.mp (sb1 a mb) with z | z
        · exact n1.2.2 a z a (List.mem_append_left _ ma) rfl
        · exact n2.2.2 a ma a z rfl
      · rcases List.mem_append.mp (sb2 a m) with z | z
        · exact List.mem_append_left _ (List.mem_append_right _ z)
        · rcases List.mem_append.mp (sb1 a z) with z | z
          · exact List.mem_append_left _ (List.mem_append_left _ z)
          · exact List.mem_append_right _ z
theorem g_tup {k n : Nat} {g : List T → Env → Option Env} (hc : X.calm = true) (h : DGs X fx es g) (hn : (assignEach es X.env).length = n := by rfl) (hst : (assignEach es X.env).findIdx? (·.1) = none := by rfl) : DG X fx (.Tuple es k pos) (gT n g) := by
  obtain ⟨t1, p1, k1⟩ := h
  refine ⟨_, pg_tup hc p1 hn hst, fun G H σ env Fp v t Fr env1 Q S o nd ap e kk => ?_⟩
  unfold gT at e
  cases q : tParts t with
  | none => rw [q] at e; cases e
  | some ts =>
    rw [q] at e
    have e : (if ts.length = n then g ts env else none) = some env1 := e
    split at e
    · rename_i hl
      have fin : ∃ a xs, v = .ref a ∧ SqT X.K H a xs ∧ OwnL X.K G H xs ts Fr := by
        cases o with
        | fz dd =>
          cases dd with
          | tup s l =>
            cases q
            exact ⟨_, _, rfl, S.le.sqT s, ownL_fz l⟩
          | _ => cases q
        | ot s l =>
          cases q
          exact ⟨_, _, rfl, S.le.sqT s, l⟩
        | _ => cases q
      obtain ⟨a, xs, rfl, sq, ol⟩ := fin
      exact ⟨a, xs, rfl, sq, by rw [ol.len]; exact hl, k1 G H σ env Fp xs ts Fr env1 Q S ol nd ap e kk⟩
    · cases e
def mAsg (m : M T) (f : T → Env → Option Env) : M Fl := m.bind fun t env => match f t env with
  | some env1 => .ok .nx env1
  | none => .bad
theorem s_asg {tg : Expr} {f : T → Env → Option Env} (h : Eo X W pu e mt) (hg : DG X fx tg f) (hs : swapsWithSole [tg] e pos.line X.env = pure false := by rfl) (hw : swappedStores [tg] e X.env = pure none := by rfl) (h1 : (assignEach [tg] X.env).map (·.2) = [assign tg X.env] := by rfl) :
    DS X W fx (.Assign [tg] e pos) (mAsg mt f) := by
  obtain ⟨te, p, k⟩ := h
  obtain ⟨tt, pg, kg⟩ := hg
  refine ⟨_, ps_asg p pg hs hw h1, fun G H σ env Fp Dn S h => k G H σ env Fp _ S (SPost.expr h fun t env1 v G1 H1 Fp1 Fr st1 S1 nd ap o h1 => ?_)⟩
  cases q : f t env1 with
  | none => rw [q] at h1; exact h1.elim
  | some env2 =>
    rw [q] at h1
    exact kg G1 H1 σ env1 Fp1 v t Fr env2 _ S1 o nd ap q fun σ1 F1 f1 S2 sb => h1 σ1 G1 H1 F1 (Step.refl.sub_end sb) f1 S2
/-- a, b = x, y without a tuple: stored from the right -/
def mPar (i j : Nat) (m : M (List T)) : M Fl := m.bind fun ts env => match ts with
  | [t, u] => .ok .nx ((env.set i (some t)).set j (some u))
  | _ => .bad
theorem s_par {i j : Nat} {x y : Str} {px py pt : Pos} {kt k2 : Nat} {pt2 : Pos} (hc : X.calm = true) (hN : X.N.Nodup) (hi : X.N[i]? = some x) (hj : X.N[j]? = some y) (hij : i ≠ j) (hx : X.env.scope.names.lookup x = some .local) (hy : X.env.scope.names.lookup y = some .local)
    (h : Ey X W pu [a, b] mts) (hw : swappedStores [.Tuple [.Name x px, .Name y py] kt pt] (.Tuple [a, b] k2 pt2) X.env = pure (some [x, y])) (fi : i ∉ fx := by decide) (fj : j ∉ fx := by decide)
    (hs : swapsWithSole [.Tuple [.Name x px, .Name y py] kt pt] (.Tuple [a, b] k2 pt2) pos.line X.env = pure false := by rfl) : DS X W fx (.Assign [.Tuple [.Name x px, .Name y py] kt pt] (.Tuple [a, b] k2 pt2) pos) (mPar i j mts) := by
  obtain ⟨ta, p, k⟩ := h
  refine ⟨_, ps_par hc hN hi hj hij hx hy p hw hs, fun G H σ env Fp Dn S h => k G H σ env Fp _ S (SPost.expr h fun ts env1 vs G1 H1 Fp1 Fr st1 S1 nd ap o h1 => ?_)⟩
  cases o with
  | nil => exact h1.elim
  | cons o1 o2 =>
    cases o2 with
    | nil => exact h1.elim
    | cons o2 o3 =>
      cases o3 with
      | cons _ _ => exact h1.elim
      | nil =>
        rename_i v t Fa w u Fb
        have nd' : (Fa ++ (Fb ++ Fp1)).Nodup := by simpa [List.append_assoc] using nd
        have n1 := List.nodup_append.mp nd'
        have n2 := List.nodup_append.mp n1.2.1
        obtain ⟨F1, S2, sb⟩ := S1.put o1 (List.nodup_append.mpr ⟨n1.1, n2.2.1, fun a ma b mb => n1.2.2 a ma b (List.mem_append_right _ mb)⟩) (fun a m => ap a (List.mem_append_left _ m)) i
        obtain ⟨F2, S3, sb3⟩ := S2.put o2 (List.nodup_append.mpr ⟨n2.1, S2.nd, fun a ma b mb z => by
          subst z
          rcases List.mem_append.mp (sb a mb) with z | z
          · exact n1.2.2 a z a (List.mem_append_left _ ma) rfl
          · exact n2.2.2 a ma a z rfl⟩) (fun a m => ap a (List.mem_append_right _ (List.mem_append_left _ m))) j
        refine ⟨v, w, rfl, h1 _ G1 H1 F2 (Step.refl.sub_end fun a m => ?_) ((Fix.set fi).trans (Fix.set fj)) S3⟩
        simp only [List.append_nil]
        rcases List.mem_append.mp (sb3 a m) with z | z
        · exact List.mem_append_left _ (List.mem_append_right _ z)
        · rcases List.mem_append.mp (sb a z) with z | z
          · exact List.mem_append_left _ (List.mem_append_left _ z)
          · exact List.mem_append_right _ z
end
end DL
/-! The data layer, part H: what loops walk, for, while. -/
namespace DL
open PySem L2 PyProof.Rows RZ
/-- an iterator gives these things, whatever else is done -/
def ItOk (K : Frg) (J : It) (ds : List D) (G : Hp) : Prop := ∀ G' H', Same G G' → GLe G' H' →
  (∀ (i : Nat) d, ds[i]? = some d → J.go i H' ∧ ∀ x H'', J.yld i H' x H'' → ∃ G'', Grow G' H' G'' H'' ∧ Den K G'' x d) ∧ J.stop ds.length H'
def VrI (K : Frg) : Hp → Hp → It → List D → List Addr → Prop := fun G H J ds Fr => Fr = [] ∧ ItOk K J ds G
def Di (X : Cx) (W : WX) (pu : Bool) (tg iter : Expr) (mi : M (List D)) : Prop := ∃ wi : TI, PI X tg iter wi ∧ ∀ G H σ env Fp R, Sta X.K G H σ env Fp → Post X.K X.mg W (VrI X.K) pu σ G H Fp env R (mi env) → wi σ H R
theorem vri_nil {K : Frg} : ∀ G H v d Fr, VrI K G H v d Fr → Fr = [] := fun _ _ _ _ _ h => h.1
section
variable {K : Frg} {G : Hp}
theorem it_list {a : Addr} {xs : List V} {ds : List D} (s : SqL K G a xs) (l : DenL K G xs ds) : ItOk K (Itl K a) ds G := fun G' H' sm gl => by
  have s' : SqL K H' a xs := gl.sqL ((same_gle sm).sqL s)
  refine ⟨fun i d e => ?_, ⟨xs, s', by rw [l.length]; exact Nat.le_refl _⟩⟩
  obtain ⟨v, hv, dv⟩ := l.get e
  refine ⟨⟨xs, v, s', hv⟩, fun x H'' y => ?_⟩
  obtain ⟨rfl, y⟩ := y
  have z := y xs s'
  rw [hv] at z
  cases z
  exact ⟨G', Grow.refl gl, dv.up (same_gle sm)⟩
theorem it_tup {a : Addr} {xs : List V} {ds : List D} (s : SqU G a xs) (l : DenL K G xs ds) : ItOk K (Itt K a) ds G := fun G' H' sm gl => by
  have s' : SqT K H' a xs := gl.sqT ((same_gle sm).sqU s)
  refine ⟨fun i d e => ?_, ⟨xs, s', by rw [l.length]; exact Nat.le_refl _⟩⟩
  obtain ⟨v, hv, dv⟩ := l.get e
  refine ⟨⟨xs, v, s', hv⟩, fun x H'' y => ?_⟩
  obtain ⟨rfl, y⟩ := y
  have z := y xs s'
  rw [hv] at z
  cases z
  exact ⟨G', Grow.refl gl, dv.up (same_gle sm)⟩
def chars (z : Str) : List D := z.cps.toList.map fun c => .str ⟨#[c]⟩
theorem it_str {z : Str} : ItOk K (Its z) (chars z) G := fun G' H' sm gl => by
  refine ⟨fun i d e => ?_, (by show z.cps.size ≤ (chars z).length; unfold chars; simp)⟩
  unfold chars at e
  rw [List.getElem?_map] at e
  cases q : z.cps.toList[i]? with
  | none => rw [q] at e; cases e
  | some c =>
    rw [q] at e
    cases e
    have q' : z.cps[i]? = some c := by simpa using q
    refine ⟨(Array.getElem?_eq_some_iff.mp q').1, fun x H'' y => ?_⟩
    obtain ⟨rfl, c', hc, rfl⟩ := y
    rw [q'] at hc
    cases hc
    exact ⟨G', Grow.refl gl, .str _⟩
def intsR (lo : Int) (n : Nat) : List D := (List.range n).map fun (i : Nat) => .int (lo + i)
theorem it_rng {lo : Int} {n : Nat} : ItOk K (Itr lo n) (intsR lo n) G := fun G' H' sm gl => by
  refine ⟨fun i d e => ?_, (by show n ≤ (intsR lo n).length; unfold intsR; simp)⟩
  unfold intsR at e
  rw [List.getElem?_map] at e
  cases q : (List.range n)[i]? with
  | none => rw [q] at e; cases e
  | some c =>
    rw [q] at e
    cases e
    obtain ⟨h1, h2⟩ := List.getElem?_eq_some_iff.mp q
    have h3 : i = c := by simpa using h2
    refine ⟨(by have z : i < n := by simpa using h1
                exact z), fun x H'' y => ?_⟩
    obtain ⟨rfl, rfl⟩ := y
    rw [h3]
    exact ⟨G', Grow.refl gl, .int _⟩
theorem new_pair {G' H' : Hp} (gl : GLe G' H') {T : Addr} (hT : H' T = none) {xs : List V} {ds : List D} (l : DenL K G' xs ds) : ∃ G'', Grow G' H' G'' (upd H' T (.tup xs)) ∧ Den K G'' (.ref T) (.tuple ds) := by
  have w := grow_newF gl hT (.tup xs)
  exact ⟨_, w, .tup upd_same (l.up (same_gle w.sub))⟩
def pairs (as bs : List D) : List D := (as.zip bs).map fun p => .tuple [p.1, p.2]
theorem it_zipL {a b : Addr} {xs ys : List V} {as bs : List D} (s : SqL K G a xs) (l : DenL K G xs as) (s2 : SqL K G b ys) (l2 : DenL K G ys bs) : ItOk K (Itz K a b) (pairs as bs) G := fun G' H' sm gl => by
  have s' : SqL K H' a xs := gl.sqL ((same_gle sm).sqL s)
  have s2' : SqL K H' b ys := gl.sqL ((same_gle sm).sqL s2)
  refine ⟨fun i d e => ?_, ⟨xs, ys, s', s2', ?_⟩⟩
  · unfold pairs at e
    rw [List.getElem?_map] at e
    cases q : (as.zip bs)[i]? with
    | none => rw [q] at e; cases e
    | some p =>
      rw [q] at e
      cases e
      obtain ⟨p1, p2⟩ := List.getElem?_zip_eq_some.mp q
      obtain ⟨v, hv, dv⟩ := l.get p1
      obtain ⟨u, hu, du⟩ := l2.get p2
      refine ⟨⟨xs, ys, v, u, s', s2', hv, hu⟩, fun x H'' y => ?_⟩
      obtain ⟨T, x1, x2, rfl, hT, rfl, y1, y2⟩ := y
      have z1 := y1 xs s'
      have z2 := y2 ys s2'
      rw [hv] at z1
      rw [hu] at z2
      cases z1
      cases z2
      exact new_pair gl hT (.cons (dv.up (same_gle sm)) (.cons (du.up (same_gle sm)) .nil))
  · unfold pairs
    rw [List.length_map, List.length_zip, l.length, l2.length]
    omega
theorem it_zipT {a b : Addr} {xs ys : List V} {as bs : List D} (s : SqU G a xs) (l : DenL K G xs as) (s2 : SqU G b ys) (l2 : DenL K G ys bs) : ItOk K (ItzT K a b) (pairs as bs) G := fun G' H' sm gl => by
  have s' : SqT K H' a xs := gl.sqT ((same_gle sm).sqU s)
  have s2' : SqT K H' b ys := gl.sqT ((same_gle sm).sqU s2)
  refine ⟨fun i d e => ?_, ⟨xs, ys, s', s2', ?_⟩⟩
  · unfold pairs at e
    rw [List.getElem?_map] at e
    cases q : (as.zip bs)[i]? with
    | none => rw [q] at e; cases e
    | some p =>
      rw [q] at e
      cases e
      obtain ⟨p1, p2⟩ := List.getElem?_zip_eq_some.mp q
      obtain ⟨v, hv, dv⟩ := l.get p1
      obtain ⟨u, hu, du⟩ := l2.get p2
      refine ⟨⟨xs, ys, v, u, s', s2', hv, hu⟩, fun x H'' y => ?_⟩
      obtain ⟨T, x1, x2, rfl, hT, rfl, y1, y2⟩ := y
      have z1 := y1 xs s'
      have z2 := y2 ys s2'
      rw [hv] at z1
      rw [hu] at z2
      cases z1
      cases z2
      exact new_pair gl hT (.cons (dv.up (same_gle sm)) (.cons (du.up (same_gle sm)) .nil))
  · unfold pairs
    rw [List.length_map, List.length_zip, l.length, l2.length]
    omega
end
def seqD : D → Option (List D)
  | .list ds => some ds
  | .tuple ds => some ds
  | .str z => some (chars z)
  | _ => none
def dRng1 : List D → Option (List D)
  | [.int j] => if -(2 ^ 62) ≤ j ∧ j < 2 ^ 62 then some (intsR 0 j.toNat) else none
  | _ => none
def dRng2 : List D → Option (List D)
  | [.int i, .int j] => if -(2 ^ 62) ≤ i ∧ i < 2 ^ 62 ∧ -(2 ^ 62) ≤ j ∧ j < 2 ^ 62 then some (intsR i (j - i).toNat) else none
  | _ => none
def dZip : List D → Option (List D)
  | [.list a, .list b] => some (pairs a b)
  | [.tuple a, .tuple b] => some (pairs a b)
  | _ => none
section
variable {X : Cx} {W : WX} {fx : List Nat} {md : Md} {pu pa pb pc : Bool} {e a b c tg iter : Expr} {es : List Expr} {m ma mb : M D} {ms mi : M (List D)} {mt : M T} {mts : M (List T)} {mc : M Bool} {pos : Pos} {st : Stmt} {rest ba bb body : List Stmt} {n n' : M Fl}
def mI (g : D → Option (List D)) (m : M D) : M (List D) := m.bind fun d => M.lift (g d)
def mIL (g : List D → Option (List D)) (m : M (List D)) : M (List D) := m.bind fun d => M.lift (g d)
theorem pi_or {wi wi' : TI} (h : PI X tg iter wi) (h' : PI X tg iter wi') : PI X tg iter (fun σ H R => wi σ H R ∨ wi' σ H R) := ⟨fun pins s σ H R I q => q.elim (h.run pins s σ H R I) (h'.run pins s σ H R I)⟩
/-- a list, a tuple or a text, walked -/
theorem i_seq (h : Ex X W .frz pa e m) : Di X W pa tg e (mI seqD m) := by
  obtain ⟨te, p, k⟩ := h
  refine ⟨_, pi_or (pi_list p) (pi_or (pi_tup p) (pi_str p)), fun G H σ env Fp R S h => ?_⟩
  unfold mI at h
  cases r : m env with
  | bad => rw [M.bind_bad r] at h; exact h.elim
  | exn x e' =>
    rw [M.bind_exn r] at h
    exact .inl (k G H σ env Fp _ S (by rw [r]; exact h))
  | ok d e' =>
    have go : ∀ Q : VK, (∀ v G1 H1 Fp1, Sta X.K G1 H1 σ e' Fp1 → Den X.K G1 v d → Post X.K X.mg W (VrI X.K) true σ G1 H1 Fp1 e' R (M.lift (seqD d) e') → Q v H1) → te σ H Q := fun Q kk =>
      k G H σ env Fp Q S (Post.bindE (pu1 := pa) (pu2 := true) (by rw [Bool.and_true]; exact h) vrd_nil fun d1 env1 v G1 H1 Fp1 e1 st S1 q w h1 => by
        rw [r] at e1
        cases e1
        exact kk v G1 H1 Fp1 S1 w.2 h1)
    cases d with
    | list ds =>
      refine .inl (go _ fun v G1 H1 Fp1 S1 dv h1 => ?_)
      obtain ⟨a, xs, rfl, s, l⟩ := dv.of_lst
      exact ⟨a, rfl, ⟨xs, (S1.le.sqX s).l⟩, post_pure (x := ds) h1 S1 ⟨rfl, it_list s.l l⟩⟩
    | tuple ds =>
      refine .inr (.inl (go _ fun v G1 H1 Fp1 S1 dv h1 => ?_))
      obtain ⟨a, xs, rfl, s, l⟩ := dv.of_tup
      exact ⟨a, rfl, ⟨xs, S1.le.sqT s⟩, post_pure (x := ds) h1 S1 ⟨rfl, it_tup s l⟩⟩
    | str z =>
      refine .inr (.inr (go _ fun v G1 H1 Fp1 S1 dv h1 => ?_))
      exact ⟨z, dv.of_str, post_pure (x := chars z) h1 S1 ⟨rfl, it_str⟩⟩
    | _ => rw [M.bind_ok r] at h; exact h.elim
theorem iter_args {g : List D → Option (List D)} {ta : TA} (k : ∀ G H σ env Fp Q, Sta X.K G H σ env Fp → Post X.K X.mg W (VrL X.K .frz) pa σ G H Fp env Q (ms env) → ta σ H Q) {G H : Hp} {σ : L2.St} {env : Env} {Fp : List Addr} {R : It → Hp → Prop} (S : Sta X.K G H σ env Fp)
    (h : Post X.K X.mg W (VrI X.K) pa σ G H Fp env R (mIL g ms env)) (Q : List V → Hp → Prop) (kk : ∀ vs H1 G1 ds xs, GLe G1 H1 → DenL X.K G1 vs ds → g ds = some xs → (∀ J, ItOk X.K J xs G1 → R J H1) → Q vs H1) : ta σ H Q := by
  unfold mIL at h
  refine k G H σ env Fp Q S (Post.bind (pu1 := pa) (pu2 := true) (by rw [Bool.and_true]; exact h) vrl_nil fun ds env1 vs G1 H1 Fp1 st S1 q w h1 => ?_)
  obtain ⟨xs, e1, kx⟩ := h1.lift0 S1
  exact kk vs H1 G1 ds xs S1.le w.2 e1 fun J hJ => kx J G1 H1 (Grow.refl S1.le) ⟨rfl, hJ⟩
theorem DenL.one {K : Frg} {G : Hp} {vs : List V} {d : D} (h : DenL K G vs [d]) : ∃ v, vs = [v] ∧ Den K G v d := by
  cases h with
  | cons h t => cases t; exact ⟨_, rfl, h⟩
theorem DenL.two {K : Frg} {G : Hp} {vs : List V} {d d' : D} (h : DenL K G vs [d, d']) : ∃ v v', vs = [v, v'] ∧ Den K G v d ∧ Den K G v' d' := by
  cases h with
  | cons h t =>
    obtain ⟨v', rfl, h'⟩ := t.one
    exact ⟨_, _, rfl, h, h'⟩
theorem i_rng1 {p : Pos} (hg : Gl X "range") (hm : X.mg "range" = none) (ha : Ea X W .frz pa [a] ms) (hs : starEach [a] X.env = [(false, eval a X.env)] := by rfl) : Di X W pa tg (.Call (.Name "range" p) [a] [] pos) (mIL dRng1 ms) := by
  obtain ⟨ta, p, k⟩ := ha
  refine ⟨_, pi_range1 hg hm p hs, fun G H σ env Fp R S h => iter_args k S h _ fun vs H1 G1 ds xs gl l e kR => ?_⟩
  unfold dRng1 at e
  split at e
  · split at e
    · rename_i hb
      cases e
      obtain ⟨v, rfl, dv⟩ := l.one
      exact ⟨_, by rw [dv.of_int], hb.1, hb.2, kR _ it_rng⟩
    · cases e
  · cases e
theorem i_rng2 {p : Pos} (hg : Gl X "range") (hm : X.mg "range" = none) (ha : Ea X W .frz pa [a, b] ms) (hs : starEach [a, b] X.env = [(false, eval a X.env), (false, eval b X.env)] := by rfl) (hs2 : starEach [b] X.env = [(false, eval b X.env)] := by rfl) : Di X W pa tg (.Call (.Name "range" p) [a, b] [] pos) (mIL dRng2 ms) := by
  obtain ⟨ta, p, k⟩ := ha
  refine ⟨_, pi_range2 hg hm p hs hs2, fun G H σ env Fp R S h => iter_args k S h _ fun vs H1 G1 ds xs gl l e kR => ?_⟩
  unfold dRng2 at e
  split at e
  · split at e
    · rename_i hb
      cases e
      obtain ⟨v, v', rfl, dv, dv'⟩ := l.two
      exact ⟨_, _, by rw [dv.of_int, dv'.of_int], hb, kR _ it_rng⟩
    · cases e
  · cases e
theorem i_zip {p tpos : Pos} {elts : List Expr} {kk : Nat} (hg : Gl X "zip") (hm : X.mg "zip" = none) (ha : Ea X W .frz pa [a, b] ms) (hs : starEach [a, b] X.env = (false, eval a X.env) :: starEach [b] X.env := by rfl) (hpl : (backTo pos (starEach [b] X.env)).any (·.1) = false := by rfl) :
    Di X W pa (.Tuple elts kk tpos) (.Call (.Name "zip" p) [a, b] [] pos) (mIL dZip ms) := by
  obtain ⟨ta, p, k⟩ := ha
  refine ⟨_, pi_zipA hg hm p hs hpl, fun G H σ env Fp R S h => iter_args k S h _ fun vs H1 G1 ds xs gl l e kR => ?_⟩
  unfold dZip at e
  split at e
  · cases e
    obtain ⟨v, v', rfl, dv, dv'⟩ := l.two
    obtain ⟨a1, x1, rfl, s1, l1⟩ := dv.of_lst
    obtain ⟨a2, x2, rfl, s2, l2⟩ := dv'.of_lst
    exact ⟨a1, a2, x1, x2, rfl, .inl ⟨(gl.sqX s1).l, (gl.sqX s2).l, kR _ (it_zipL s1.l l1 s2.l l2)⟩⟩
  · cases e
    obtain ⟨v, v', rfl, dv, dv'⟩ := l.two
    obtain ⟨a1, x1, rfl, s1, l1⟩ := dv.of_tup
    obtain ⟨a2, x2, rfl, s2, l2⟩ := dv'.of_tup
    exact ⟨a1, a2, x1, x2, rfl, .inr ⟨gl.sqT s1, gl.sqT s2, kR _ (it_zipT s1 l1 s2 l2)⟩⟩
  · cases e
/-! ### for -/
def mFor (f : T → Env → Option Env) (body : M Fl) : List D → M Fl
  | [] => M.pure .nx
  | d :: ds => fun env => match f (.fz d) env with
    | none => .bad
    | some env1 => match body env1 with
      | .bad => .bad
      | .exn x e => .exn x e
      | .ok .nx e => mFor f body ds e
      | .ok .ct e => mFor f body ds e
      | .ok .bk e => .ok .nx e
      | .ok (.rt t) e => .ok (.rt t) e
theorem s_forC {L : Hp → Prop} {f : T → Env → Option Env} (hp : PassesOwn (model X.prog X.w) X.A X.env X.xe) (hc : X.calm = true) (hi : ∃ wi : TI, PI X tg iter wi ∧ ∀ G H σ env Fp R, L G → Sta X.K G H σ env Fp → Post X.K X.mg W (VrI X.K) pa σ G H Fp env R (mi env) → wi σ H R) (hg : DG X fx tg f) (hb : DSs X W fx body n)
    (hs : ∀ x, foldedSetIterable iter X.env x = pure x) : ∃ ts : TS, PS X (.For tg iter body [] pos) ts ∧ ∀ G H σ env Fp Dn, L G → Sta X.K G H σ env Fp → SPost X W fx σ G H Fp Dn ((mi.bind fun ds => mFor f n ds) env) → ts Dn σ H := by
  obtain ⟨wi, p, k⟩ := hi
  obtain ⟨g, pg, kg⟩ := hg
  obtain ⟨tb, pb, kb⟩ := hb
  refine ⟨_, ps_for hp hc p pg pb hs, fun G H σ env Fp Dn l S h => k G H σ env Fp _ l S (SPost.expr h fun ds env1 J G1 H1 Fp1 Fr st1 S1 nd ap w h1 => ?_)⟩
  obtain ⟨rfl, ok⟩ := w
  refine ⟨fun i m σ' H' => i + m = ds.length ∧ ∃ G' env' Fp', Same G1 G' ∧ Sta X.K G' H' σ' env' Fp' ∧ SPost X W fx σ' G' H' Fp' Dn (mFor f n (ds.drop i) env'), ⟨ds.length, by omega, G1, env1, Fp1, Same.refl _, S1, h1⟩, fun i m σ2 H2 hw => ?_⟩
  obtain ⟨hl, G2, env2, Fp2, sm, S2, h2⟩ := hw
  obtain ⟨items, stop⟩ := ok G2 H2 sm S2.le
  by_cases hi : i < ds.length
  · refine .inr ?_
    have e1 : ds[i]? = some ds[i] := List.getElem?_eq_getElem hi
    obtain ⟨go, yl⟩ := items i _ e1
    rw [List.drop_eq_getElem_cons hi] at h2
    refine ⟨go, fun σ' H' => ∃ G' env' Fp', Same G1 G' ∧ Sta X.K G' H' σ' env' Fp' ∧ SPost X W fx σ' G' H' Fp' Dn (mFor f n (ds.drop (i + 1)) env'), fun σ' H' z => ⟨m - 1, by omega, by omega, z⟩, fun x H3 y => ?_⟩
    obtain ⟨G3, w3, dx⟩ := yl x H3 y
    have S3 := S2.grow w3
    unfold mFor at h2
    cases q : f (.fz ds[i]) env2 with
    | none => rw [q] at h2; exact h2.elim
    | some env3 =>
      rw [q] at h2
      dsimp only at h2
      refine kg G3 H3 σ2 env2 Fp2 x (.fz ds[i]) [] env3 _ S3 (.fz dx) S3.nd (fun _ m => nomatch m) q fun σ4 F4 f4 S4 sb4 => ?_
      refine kb G3 H3 σ4 env3 F4 _ S4 ?_
      have st4 : Step G2 H2 Fp2 G3 H3 F4 := (w3.step (Fp := Fp2)).sub_end sb4
      have h3 : SPost X W fx σ4 G3 H3 F4 Dn _ := h2.shift st4 f4
      clear h2
      cases q2 : n env3 with
      | bad => rw [q2] at h3; exact h3
      | exn x e => rw [q2] at h3; exact h3
      | ok fl e =>
        rw [q2] at h3
        cases fl with
        | rt t => exact h3
        | bk => exact h3
        | nx => exact fun σ' G' H' Fp' s' f' S' => ⟨G', e, Fp', sm.trans (w3.sub.trans s'.sub), S', h3.shift s' f'⟩
        | ct => exact fun σ' G' H' Fp' s' f' S' => ⟨G', e, Fp', sm.trans (w3.sub.trans s'.sub), S', h3.shift s' f'⟩
  · have e : i = ds.length := by omega
    subst e
    rw [List.drop_length] at h2
    exact .inl ⟨stop, h2 σ2 G2 H2 Fp2 Step.refl Fix.refl S2⟩
theorem s_for {f : T → Env → Option Env} (hp : PassesOwn (model X.prog X.w) X.A X.env X.xe) (hc : X.calm = true) (hi : Di X W pa tg iter mi) (hg : DG X fx tg f) (hb : DSs X W fx body n)
    (hs : ∀ x, foldedSetIterable iter X.env x = pure x := by intro _; rfl) : DS X W fx (.For tg iter body [] pos) (mi.bind fun ds => mFor f n ds) := by
  obtain ⟨wi, p, k⟩ := hi
  obtain ⟨ts, p1, k1⟩ := s_forC (L := fun _ => True) (pos := pos) hp hc ⟨wi, p, fun G H σ env Fp R _ => k G H σ env Fp R⟩ hg hb hs
  exact ⟨ts, p1, fun G H σ env Fp Dn S h => k1 G H σ env Fp Dn trivial S h⟩
/-! ### while -/
def mWhN (c : M Bool) (body : M Fl) : Nat → M Fl
  | 0 => fun _ => .bad
  | n + 1 => fun env => match c env with
    | .bad => .bad
    | .exn x e => .exn x e
    | .ok false e => .ok .nx e
    | .ok true e => match body e with
      | .bad => .bad
      | .exn x e' => .exn x e'
      | .ok .nx e' => mWhN c body n e'
      | .ok .ct e' => mWhN c body n e'
      | .ok .bk e' => .ok .nx e'
      | .ok (.rt t) e' => .ok (.rt t) e'
open Classical in
noncomputable def mWh (c : M Bool) (body : M Fl) : M Fl := fun env => if h : ∃ n, mWhN c body n env ≠ .bad then mWhN c body (Classical.choose h) env else .bad
theorem mWhN_mono {c : M Bool} {body : M Fl} : ∀ (n k : Nat) (env : Env), mWhN c body n env ≠ .bad → mWhN c body (n + k) env = mWhN c body n env
  | 0, _, _, h => absurd rfl h
  | n + 1, k, env, h => by
    rw [show n + 1 + k = (n + k) + 1 by omega]
    unfold mWhN at h ⊢
    cases e1 : c env with
    | bad => rfl
    | exn x e => rfl
    | ok b e =>
      rw [e1] at h
      cases b with
      | false => rfl
      | true =>
        dsimp only at h ⊢
        cases e2 : body e with
        | bad => rfl
        | exn x e' => rfl
        | ok fl e' =>
          rw [e2] at h
          cases fl with
          | nx => exact mWhN_mono n k _ h
          | ct => exact mWhN_mono n k _ h
          | bk => rfl
          | rt t => rfl
theorem mWh_of {c : M Bool} {body : M Fl} {n : Nat} {env : Env} (h : mWhN c body n env ≠ .bad) : mWh c body env = mWhN c body n env := by
  have hx : ∃ n, mWhN c body n env ≠ .bad := ⟨n, h⟩
  unfold mWh
  rw [dif_pos hx]
  have h2 := Classical.choose_spec hx
  rcases Nat.le_total n (Classical.choose hx) with z | z
  · obtain ⟨k, e⟩ := Nat.le.dest z
    rw [← e]
    exact mWhN_mono n k env h
  · obtain ⟨k, e⟩ := Nat.le.dest z
    have := mWhN_mono (Classical.choose hx) k env h2
    rw [e] at this
    exact this.symm
theorem mWh_bad {c : M Bool} {body : M Fl} {env : Env} (h : ∀ n, mWhN c body n env = .bad) : mWh c body env = .bad := by
  unfold mWh
  rw [dif_neg]
  rintro ⟨n, hn⟩
  exact hn (h n)
theorem s_while (hp : PassesOwn (model X.prog X.w) X.A X.env X.xe) (hc : Et X W pc c mc) (hb : DSs X W fx body n) : DS X W fx (.While c body [] pos) (mWh mc n) := by
  obtain ⟨tc, p0, k0⟩ := hc
  obtain ⟨tb, p1, k1⟩ := hb
  refine ⟨_, ps_while hp p0 p1, fun G H σ env Fp Dn S h => ?_⟩
  have hx : ∃ k, mWhN mc n k env ≠ .bad := Classical.byContradiction fun z => by
    rw [mWh_bad fun k => Classical.byContradiction fun q => z ⟨k, q⟩] at h
    exact h
  obtain ⟨k, hk⟩ := hx
  rw [mWh_of hk] at h
  refine ⟨fun m σ' H' => ∃ G' env' Fp', Sta X.K G' H' σ' env' Fp' ∧ SPost X W fx σ' G' H' Fp' Dn (mWhN mc n m env'), ⟨k, G, env, Fp, S, h⟩, fun m σ1 H1 hw => ?_⟩
  obtain ⟨G1, env1, Fp1, S1, h1⟩ := hw
  cases m with
  | zero => exact h1.elim
  | succ m =>
    unfold mWhN at h1
    refine k0 G1 H1 σ1 env1 Fp1 _ S1 ?_
    cases q : mc env1 with
    | bad => rw [q] at h1; exact h1
    | exn x e =>
      rw [q] at h1
      exact fun cls dd G' H' Fp' s' S' q => h1 cls dd σ1 G' H' Fp' s' Fix.refl S' q
    | ok b e =>
      rw [q] at h1
      intro b' G2 H2 Fp2 Fr st2 S2 nd2 ap2 _ v2
      obtain ⟨rfl, rfl⟩ := v2
      cases b' with
      | false => exact h1 σ1 G2 H2 Fp2 st2 Fix.refl S2
      | true =>
        refine ⟨fun σ' H' => ∃ G' env' Fp', Sta X.K G' H' σ' env' Fp' ∧ SPost X W fx σ' G' H' Fp' Dn (mWhN mc n m env'), fun σ' H' z => ⟨m, Nat.lt_succ_self m, z⟩, ?_⟩
        refine k1 G2 H2 σ1 e Fp2 _ S2 ?_
        dsimp only at h1
        have h3 : SPost X W fx σ1 G2 H2 Fp2 Dn _ := h1.shift st2 Fix.refl
        clear h1
        cases q2 : n e with
        | bad => rw [q2] at h3; exact h3
        | exn x e' => rw [q2] at h3; exact h3
        | ok fl e' =>
          rw [q2] at h3
          cases fl with
          | rt t => exact h3
          | bk => exact h3
          | nx => exact fun σ' G' H' Fp' s' f' S' => ⟨G', e', Fp', S', h3.shift s' f'⟩
          | ct => exact fun σ' G' H' Fp' s' f' S' => ⟨G', e', Fp', S', h3.shift s' f'⟩
end
end DL
/-! The data layer, part I: defs by their bodies, calls. -/
namespace DL
open PySem L2 PyProof.Rows
structure GR (k : Nat) (A : Around) : Prop where
  rm : Room k A
  gd : A.guards = some []
theorem GR.mono {j k : Nat} {A : Around} (r : GR k A) (h : j ≤ k) : GR j A := ⟨r.rm.mono h, r.gd⟩
structure FnG (P : Program) (w : World) (K : Frg) (mg : Str → Option Value) (base : Heap) (k : Nat) (f : Addr) (fd : FuncData) (ps : List Str) (sp : Sp) : Prop where
  len : ∀ vs H Q E, sp vs H Q E → vs.length = ps.length
  run : ∀ (A : Around) (outer : List PySem.Env) (s : Shared) (H : Hp) (args : Args) (us : List Value) (vs : List V) (Q : VK) (E : XK), GR k A → Env0 P w K mg base A outer s H → BindsTo s fd args (ps.zip us) → Vals vs us → sp vs H Q E →
    codeAny (model P w) A (.call (.ref f) args) (CR (L2.CX P w) outer P w H s Q E) s
theorem FnG.mono {P : Program} {w : World} {K : Frg} {mg : Str → Option Value} {base : Heap} {j k : Nat} {f : Addr} {fd : FuncData} {ps : List Str} {sp : Sp} (F : FnG P w K mg base j f fd ps sp) (h : j ≤ k) : FnG P w K mg base k f fd ps sp :=
  ⟨F.len, fun A outer s H args us vs Q E r => F.run A outer s H args us vs Q E (r.mono h)⟩
theorem FnG.imp {P : Program} {w : World} {K : Frg} {mg : Str → Option Value} {base : Heap} {k : Nat} {f : Addr} {fd : FuncData} {ps : List Str} {sp sp' : Sp} (F : FnG P w K mg base k f fd ps sp) (h : ∀ vs H Q E, sp' vs H Q E → sp vs H Q E) : FnG P w K mg base k f fd ps sp' :=
  ⟨fun vs H Q E q => F.len vs H Q E (h _ _ _ _ q), fun A outer s H args us vs Q E r e b v q => F.run A outer s H args us vs Q E r e b v (h _ _ _ _ q)⟩
/-- a def by its body, the guards known -/
theorem fnG_of {P : Program} {w : World} {K : Frg} {mg : Str → Option Value} {base : Heap} {x qual : Str} {st : Stmt} {f : Addr} {fd : FuncData} {N ps : List Str} {k : Nat} {sp : Sp} (F : Fun K x qual st f fd) (S : FnScope N ps (defScope st))
    (len : ∀ vs H Q E, sp vs H Q E → vs.length = ps.length)
    (body : ∀ (cdv : Value) (A : Around) (outer : List PySem.Env) (s : Shared) (H : Hp) (vs : List V) (Q : VK) (E : XK), GR k (A.deeper (envOfC qual (defScope st) s.heap.objs.size f cdv)) → sp vs H Q E →
      ∃ t, PSs (cxOf (L2.CX P w) P w K mg base N qual (defScope st) f cdv A outer s H E) (defBody st) t ∧ t { nx := fun _ H' => Q .non H', rt := Q } (L2.start N vs) H) : FnG P w K mg base (k + 1) f fd ps sp := by
  obtain ⟨oc, od, kV, doc, pm, an, cdv, ct, osl, rfl, lk, code⟩ := F.ex
  refine ⟨len, fun A outer s H args us vs Q E room e0 bind rel hsp => ?_⟩
  have KX : K.In s.heap := e0.mod.kin.keeps fun b o e => (e0.bs b o e).1
  have lim := e0.mod.nolimit.keeps (h' := s.heap) fun b o e => (e0.bs b o e).1
  have kinds : ∀ y ∈ ps.zip us, (defScope st).names.lookup y.1 = some .local ∨ ((defScope st).names.lookup y.1 = some .cell ∧ ((cellsFrom (s.heap.objs.size + 1) (defScope st).names []).lookup y.1).isSome = true) := by
    rintro ⟨n, v⟩ hy
    rcases S.par n (List.of_mem_zip hy).1 with q | q
    · exact .inl q
    · exact .inr ⟨q, PySem.W.cellsFrom_some _ _ _ (.inl q)⟩
  refine codeAny_call_function room.rm.depth (KX _ _ lk) rfl S.co S.gen rfl (PySem.W.codeRec_of KX code) (bind _ _ _ _ ?_)
  refine wpAny_newFunctionEnv_cells S.kind kinds fun env he s1 ic => ?_
  subst he
  refine ⟨lim.keeps ic.toInCall.keep, codeAny_func ?_⟩
  obtain ⟨t, ht, hq⟩ := body cdv A outer s H vs Q E ⟨room.rm.deeper _, room.gd⟩ hsp
  have I := inv_start (CX := L2.CX P w) (E := E) (K := K) (mg := mg) (base := base) S room.rm.hd e0 (len _ _ _ _ hsp) rel ic
  refine wpAny_mono (ht.run [] s1 (L2.start N vs) H _ I hq) (fun fl s' done => ?_) fun e s' z => z
  cases fl with
  | ret u =>
    obtain ⟨v, σ', H', J, rv, q⟩ := done
    exact ⟨v, H', J.os, J.bare, J.base, J.hok, rv, q⟩
  | next =>
    obtain ⟨σ', H', J, q⟩ := done
    exact ⟨V.non, H', J.os, J.bare, J.base, J.hok, rfl, q⟩
  | brk =>
    obtain ⟨_, _, _, q⟩ := done
    exact q.elim
  | cont =>
    obtain ⟨_, _, _, q⟩ := done
    exact q.elim
/-! ### a def that computes a function of data -/
def FPost (K : Frg) (mg : Str → Option Value) (vs : List V) (G H : Hp) (F : List Addr) (Q : VK) (E : XK) : Rs T → Prop
  | .bad => False
  | .ok t env' => ∀ v G' H' Fp' Fr, Step G H F G' H' (Fr ++ Fp') → Sta K G' H' (vs.map some) env' Fp' → (Fr ++ Fp').Nodup → (∀ x ∈ Fr, G' x = none) → Own K G' H' v t Fr → Q v H'
  | .exn x env' => ∀ cls dd G' H' Fp', Step G H F G' H' Fp' → Sta K G' H' (vs.map some) env' Fp' → ExcOk K mg G' H' x cls dd → E cls dd H'
abbrev Sem := Env → Rs T
def spD (K : Frg) (mg : Str → Option Value) (n : Nat) (sem : Sem) : Sp := fun vs H Q E => vs.length = n ∧ ∃ G env Fp, Sta K G H (vs.map some) env Fp ∧ FPost K mg vs G H Fp Q E (sem env)
def keepF : Option T → Option T
  | some (.fz d) => some (.fz d)
  | _ => none
def mixE (p : Nat → Bool) : Env → Env → Env
  | [], _ => []
  | t :: r, [] => keepF t :: mixE (fun i => p (i + 1)) r []
  | t :: r, u :: e => (if p 0 = true then u else keepF t) :: mixE (fun i => p (i + 1)) r e
def SlotOk (K : Frg) (G H : Hp) (x : Option V) (t : Option T) (F : List Addr) : Prop := match t with
  | none => F = []
  | some t => ∃ v, x = some v ∧ Own K G H v t F
theorem slots_cons {K : Frg} {G H : Hp} {x : Option V} {t : Option T} {F F' : List Addr} {σ : L2.St} {env : Env} (h : SlotOk K G H x t F) (r : Slots K G H σ env F') : Slots K G H (x :: σ) (t :: env) (F ++ F') := by
  cases t with
  | none =>
    obtain rfl : F = [] := h
    exact .no r
  | some t =>
    obtain ⟨v, rfl, o⟩ := h
    exact .so o r
theorem slots_uncons {K : Frg} {G H : Hp} {x : Option V} {t : Option T} {F : List Addr} {σ : L2.St} {env : Env} (h : Slots K G H (x :: σ) (t :: env) F) : ∃ F1 F2, F = F1 ++ F2 ∧ SlotOk K G H x t F1 ∧ Slots K G H σ env F2 := by
  cases h with
  | no r => exact ⟨[], _, rfl, rfl, r⟩
  | so o r => exact ⟨_, _, rfl, ⟨_, rfl, o⟩, r⟩
theorem slotOk_keep {K : Frg} {G H G' H' : Hp} (sm : Same G G') {x : Option V} {t : Option T} {F : List Addr} (h : SlotOk K G H x t F) : SlotOk K G' H' x (keepF t) [] := by
  cases t with
  | none => exact rfl
  | some t =>
    obtain ⟨v, rfl, o⟩ := h
    cases o with
    | fz d => exact ⟨v, rfl, .fz (d.up (same_gle sm))⟩
    | _ => exact rfl
theorem mix_slots {K : Frg} {G H G' H' : Hp} (sm : Same G G') : ∀ {vs : List V} {env : Env} {Fp : List Addr} {σ' : L2.St} {e : Env} {F' : List Addr} {p : Nat → Bool}, Slots K G H (vs.map some) env Fp → Slots K G' H' σ' e F' → vs.length ≤ σ'.length →
    (∀ (i : Nat) v, vs[i]? = some v → p i = true → σ'[i]? = some (some v)) → ∃ F2, Slots K G' H' (vs.map some) (mixE p env e) F2 ∧ (∀ a ∈ F2, a ∈ F') ∧ (F'.Nodup → F2.Nodup)
  | [], [], _, _, _, _, _, s, _, _, _ => ⟨[], .nil, (fun _ m => absurd m (by simp)), fun _ => List.nodup_nil⟩
  | [], _ :: _, _, _, _, _, _, s, _, _, _ => by cases s
  | v :: vs, [], _, _, _, _, _, s, _, _, _ => by cases s
  | v :: vs, t :: env, Fp, [], e, F', p, s, s', hl, hp => absurd hl (by simp)
  | v :: vs, t :: env, Fp, x :: σ', [], F', p, s, s', hl, hp => by cases s'
  | v :: vs, t :: env, Fp, x :: σ', u :: e, F', p, s, s', hl, hp => by
    obtain ⟨F1, F2, rfl, h1, r1⟩ := slots_uncons (by simpa using s)
    obtain ⟨E1, E2, rfl, h2, r2⟩ := slots_uncons s'
    obtain ⟨F3, s3, k3, n3⟩ := mix_slots (p := fun i => p (i + 1)) sm r1 r2 (by simpa using hl) fun i v h q => by simpa using hp (i + 1) v (by simpa using h) q
    cases hp0 : p 0 with
    | true =>
      have z : x = some v := by simpa using hp 0 v rfl hp0
      subst z
      refine ⟨E1 ++ F3, ?_, fun a m => ?_, fun n => ?_⟩
      · unfold mixE
        rw [if_pos hp0]
        exact slots_cons h2 s3
      · rcases List.mem_append.mp m with m | m
        · exact List.mem_append_left _ m
        · exact List.mem_append_right _ (k3 a m)
      · have n' := List.nodup_append.mp n
        exact List.nodup_append.mpr ⟨n'.1, n3 n'.2.1, fun a ma b mb => n'.2.2 a ma b (k3 b mb)⟩
    | false =>
      refine ⟨[] ++ F3, ?_, fun a m => List.mem_append_right _ (k3 a (by simpa using m)), fun n => n3 (List.nodup_append.mp n).2.1⟩
      unfold mixE
      rw [if_neg (by rw [hp0]; decide)]
      exact slots_cons (slotOk_keep sm h1) s3
/-- what a def computes, by its body -/
def semOf (fx : List Nat) (k : Nat) (m : M Fl) : Sem := fun env => match m (env ++ List.replicate k none) with
  | .bad => .bad
  | .exn x e => .exn x (mixE (fun i => fx.contains i) env e)
  | .ok .nx e => .ok (.fz .none) (mixE (fun i => fx.contains i) env e)
  | .ok (.rt t) e => .ok t (mixE (fun i => fx.contains i) env e)
  | .ok _ _ => .bad
theorem slots_more {K : Frg} {G H : Hp} {σ : L2.St} {env : Env} {F : List Addr} (s : Slots K G H σ env F) (k : Nat) : Slots K G H (σ ++ List.replicate k none) (env ++ List.replicate k none) F := by
  induction s with
  | nil =>
    induction k with
    | zero => exact .nil
    | succ k ih => exact .no ih
  | no _ ih => exact .no ih
  | so o _ ih => exact .so o ih
theorem def_of {P : Program} {w : World} {K : Frg} {mg : Str → Option Value} {base : Heap} {x qual : Str} {st : Stmt} {f : Addr} {fd : FuncData} {N ps : List Str} {k : Nat} {m : M Fl} {fx : List Nat} (F : Fun K x qual st f fd) (S : FnScope N ps (defScope st))
    (body : ∀ (cdv : Value) (A : Around) (outer : List PySem.Env) (s : Shared) (H : Hp) (E : XK), GR k (A.deeper (envOfC qual (defScope st) s.heap.objs.size f cdv)) →
      DSs (cxOf (L2.CX P w) P w K mg base N qual (defScope st) f cdv A outer s H E) (fun cls d _ H => E cls d H) fx (defBody st) m) : FnG P w K mg base (k + 1) f fd ps (spD K mg ps.length (semOf fx (N.length - ps.length) m)) := by
  refine fnG_of F S (fun vs H Q E h => h.1) fun cdv A outer s H vs Q E room hsp => ?_
  obtain ⟨hl, G, env, Fp, S0, post⟩ := hsp
  obtain ⟨ts, p, kk⟩ := body cdv A outer s H E room
  refine ⟨ts, p, kk G H (L2.start N vs) (env ++ List.replicate (N.length - ps.length) none) Fp _ ⟨S0.le, ?_, S0.nd, S0.ap⟩ ?_⟩
  · unfold L2.start
    rw [hl]
    exact slots_more S0.sl _
  · unfold semOf at post
    have hfix : ∀ {σ' : L2.St}, Fix fx (L2.start N vs) σ' → ∀ (i : Nat) v, vs[i]? = some v → fx.contains i = true → σ'[i]? = some (some v) := fun {σ'} hf i v hv hc => by
      rw [hf.2 i (by simpa using hc)]
      unfold L2.start
      have hi : i < vs.length := (List.getElem?_eq_some_iff.mp hv).1
      rw [List.getElem?_append_left (by simpa using hi), List.getElem?_map, hv]
      rfl
    have hlen : ∀ {G' H' : Hp} {σ' : L2.St} {e : Env} {F' : List Addr}, Fix fx (L2.start N vs) σ' → Sta K G' H' σ' e F' → vs.length ≤ σ'.length := fun {G' H' σ' e F'} hf S' => by
      rw [hf.1]
      unfold L2.start
      rw [List.length_append, List.length_map]
      omega
    cases r : m (env ++ List.replicate (N.length - ps.length) none) with
    | bad => rw [r] at post; exact post
    | exn x e =>
      rw [r] at post
      intro cls dd σ' G' H' Fp' st hf S' q
      obtain ⟨F2, s2, k2, n2⟩ := mix_slots (p := fun i => fx.contains i) st.sub S0.sl S'.sl (hlen hf S') (hfix hf)
      exact post cls dd G' H' F2 (st.sub_end k2) ⟨S'.le, s2, n2 S'.nd, fun a m => S'.ap a (k2 a m)⟩ q
    | ok fl e =>
      rw [r] at post
      cases fl with
      | nx =>
        intro σ' G' H' Fp' st hf S'
        obtain ⟨F2, s2, k2, n2⟩ := mix_slots (p := fun i => fx.contains i) st.sub S0.sl S'.sl (hlen hf S') (hfix hf)
        exact post .non G' H' F2 [] (st.sub_end k2) ⟨S'.le, s2, n2 S'.nd, fun a m => S'.ap a (k2 a m)⟩ (n2 S'.nd) (fun _ m => nomatch m) (.fz .non)
      | rt t =>
        intro v σ' G' H' Fp' Fr st hf S' nd ap o
        obtain ⟨F2, s2, k2, n2⟩ := mix_slots (p := fun i => fx.contains i) st.sub S0.sl S'.sl (hlen hf S') (hfix hf)
        have nd' := List.nodup_append.mp nd
        exact post v G' H' F2 Fr (st.sub_end fun a m => (List.mem_append.mp m).elim (List.mem_append_left _) fun z => List.mem_append_right _ (k2 a z)) ⟨S'.le, s2, n2 S'.nd, fun a m => S'.ap a (k2 a m)⟩
          (List.nodup_append.mpr ⟨nd'.1, n2 S'.nd, fun a ma b mb => nd'.2.2 a ma b (k2 b mb)⟩) ap o
      | bk => exact post.elim
      | ct => exact post.elim
end DL
/-! The data layer, part J: calls of defs. -/
namespace DL
open PySem L2 PyProof.Rows
/-- a def of the module, by what it computes -/
structure Def (P : Program) (w : World) (K : Frg) (mg : Str → Option Value) (base : Heap) (x : Str) (k n : Nat) (sem : Sem) : Prop where
  ex : ∃ f fd ps, mg x = some (.ref f) ∧ PySem.W.keepIn K (.ref f) = true ∧ Binds K fd ps [] ∧ ps.length = n ∧ FnG P w K mg base k f fd ps (spD K mg n sem)
theorem Def.mono {P : Program} {w : World} {K : Frg} {mg : Str → Option Value} {base : Heap} {x : Str} {j k n : Nat} {sem : Sem} (h : Def P w K mg base x j n sem) (l : j ≤ k) : Def P w K mg base x k n sem := by
  obtain ⟨f, fd, ps, a, b, c, d, F⟩ := h.ex
  exact ⟨f, fd, ps, a, b, c, d, F.mono l⟩
section
variable {X : Cx} {W : WX} {fx : List Nat} {md : Md} {pu pa pb pc : Bool} {e a b c tg iter : Expr} {es : List Expr} {m ma mb : M D} {ms mi : M (List D)} {mt : M T} {mts : M (List T)} {mc : M Bool} {p pos : Pos} {x : Str} {k n : Nat} {sem : Sem}
def tCallG (sp : Sp) (W : WX) (t : TA) : TE := fun σ H Q => t σ H fun vs H1 => sp vs H1 Q fun cls d H' => W cls d σ H'
theorem pe_callG {f : Addr} {fd : FuncData} {ps : List Str} {sp : Sp} {t : TA} (F : FnG X.prog X.w X.K X.mg X.base k f fd ps sp) (hr : GR k X.A) (tk : Takes X W) (hg : Gl X x) (hm : X.mg x = some (.ref f)) (hk : PySem.W.keepIn X.K (.ref f) = true) (hb : Binds X.K fd ps [])
    (ha : PA X (e :: es) t) (hdb : (x == ("__debug__" : Str)) = false := by decide) (he : starEach (e :: es) X.env = (false, eval e X.env) :: starEach es X.env := by rfl) (hpl : (backTo pos (starEach es X.env)).any (·.1) = false := by rfl) :
    PE X (.Call (.Name x p) (e :: es) [] pos) (tCallG sp W t) := by
  refine ⟨fun pins s σ H Q I h => wpAny_Call_Name_kw (ld_glob I hg hm ?_ hdb)⟩
  refine PySem.W.callWith_K (h₀ := X.base) I.ok.mod.kin hk (thn (ha.run pos pins s σ H _ I h) fun us s1 ⟨vs, H1, J, rel, q⟩ => ⟨J.kIn, ?_⟩) he hpl
  have hl : (us ++ []).length = ps.length := by rw [List.append_nil, ← rel.length]; exact F.len _ _ _ _ q
  have bind := hb s1 us J.kIn hl
  rw [List.append_nil] at bind
  refine wpAny_call (codeAny_mono (F.run X.A X.stack s1 H1 ⟨us, []⟩ us vs Q _ hr J.env0 bind rel q) fun r s2 out => ?_)
  cases r with
  | error e => exact tk e s2 (XE.of_call J (fun cls d H' h => h) out)
  | ok fl =>
    cases fl with
    | ret u => exact J.after out
    | next => exact out.elim
    | brk => exact out.elim
    | cont => exact out.elim
def mCall (sem : Sem) (ms : M (List D)) : M T := ms.bind fun ds env => match sem (ds.map fun d => some (.fz d)) with
  | .bad => .bad
  | .ok t _ => .ok t env
  | .exn x _ => .exn x env
theorem slots_fz {K : Frg} {G H : Hp} : ∀ {vs : List V} {ds : List D}, DenL K G vs ds → Slots K G H (vs.map some) (ds.map fun d => some (.fz d)) []
  | _, _, .nil => .nil
  | _, _, .cons h t => .so (F := []) (F' := []) (.fz h) (slots_fz t)
theorem step_grow {K : Frg} {G H G' H' : Hp} {F : List Addr} {σ : L2.St} {env : Env} (st : Step G H [] G' H' F) (S : Sta K G' H' σ env F) : Grow G H G' H' :=
  ⟨fun a o h => st.keep a o h (by simp), st.sub, S.le, fun a h => by
    rcases st.frG a h with z | z | z | z
    · exact .inl z
    · exact .inr (.inl z)
    · exact absurd z (by simp)
    · exact .inr (.inr z)⟩
/-- a call, all arguments frozen -/
theorem o_call (D0 : Def X.prog X.w X.K X.mg X.base x k n sem) (hr : GR k X.A) (tk : Takes X W) (hg : Gl X x) (ha : Ea X W .frz pa (e :: es) ms) (hdb : (x == ("__debug__" : Str)) = false := by decide)
    (he : starEach (e :: es) X.env = (false, eval e X.env) :: starEach es X.env := by rfl) (hpl : (backTo pos (starEach es X.env)).any (·.1) = false := by rfl) (hn : ∀ env ds env', ms env = .ok ds env' → ds.length = n) : Eo X W pa (.Call (.Name x p) (e :: es) [] pos) (mCall sem ms) := by
  obtain ⟨f, fd, ps, hm, hk, hb, hps, F⟩ := D0.ex
  obtain ⟨ta, pA, kA⟩ := ha
  refine ⟨_, pe_callG F hr tk hg hm hk hb pA hdb he hpl, fun G H σ env Fp Q S h => ?_⟩
  unfold mCall at h
  refine kA G H σ env Fp _ S (Post.bindE (pu1 := pa) (pu2 := true) (by rw [Bool.and_true]; exact h) vrl_nil fun ds env1 vs G1 H1 Fp1 e1 st S1 q w h1 => ?_)
  have l := w.2
  refine ⟨by rw [l.length]; exact hn _ _ _ e1, G1, ds.map fun d => some (.fz d), [], ⟨S1.le, slots_fz l, List.nodup_nil, fun _ m => absurd m (by simp)⟩, ?_⟩
  cases r : sem (ds.map fun d => some (.fz d)) with
  | bad => rw [r] at h1; exact h1
  | ok t env' =>
    rw [r] at h1
    intro v G2 H2 Fp2 Fr st2 S2 nd ap o
    have w2 := step_grow (st2.sub_end (F2 := Fp2) fun a m => List.mem_append_right _ m) S2
    have S3 := S1.grow w2
    have fresh : ∀ a ∈ Fr, H1 a = none := fun a m => (st2.frF a (List.mem_append_left _ m)).elim id fun z => absurd z (by simp)
    refine h1 v G2 H2 Fp1 Fr ⟨fun a u z _ => w2.same a u z, w2.sub, (w2.step (Fp := Fp1)).frG, fun a m => (List.mem_append.mp m).elim (fun z => .inl (fresh a z)) .inr⟩ S3 (List.nodup_append.mpr ⟨(List.nodup_append.mp nd).1, S3.nd, fun a ma b mb z => ?_⟩) ap (fun _ => ⟨rfl, rfl, w2⟩) o
    subst z
    have bx := S1.sl.boxes a mb
    rw [fresh a ma] at bx
    exact bx
  | exn x env' =>
    rw [r] at h1
    intro cls dd G2 H2 Fp2 st2 S2 ex
    have w2 := step_grow st2 S2
    exact h1 cls dd G2 H2 Fp1 w2.step (S1.grow w2) ex
/-- .. whose first argument, a name, is handed in and changed -/
def mCallB (sem : Sem) (i : Nat) (ms : M (List D)) : M T := ms.bind fun ds env => match env[i]? with
  | some (some t) => match sem (some t :: ds.map fun d => some (.fz d)) with
    | .ok r (some t' :: _) => .ok r (env.set i (some t'))
    | .exn x (some t' :: _) => .exn x (env.set i (some t'))
    | _ => .bad
  | _ => .bad
def mHas (i : Nat) : M Unit := fun env => match env[i]? with
  | some (some _) => .ok () env
  | _ => .bad
theorem o_callB {i : Nat} (D0 : Def X.prog X.w X.K X.mg X.base x k (n + 1) sem) (hr : GR k X.A) (tk : Takes X W) (hg : Gl X x) (h0 : PE X e (tVar i)) (ha : Ea X W .frz pa es ms) (hdb : (x == ("__debug__" : Str)) = false := by decide)
    (he : starEach (e :: es) X.env = (false, eval e X.env) :: starEach es X.env := by rfl) (hpl : (backTo pos (starEach es X.env)).any (·.1) = false := by rfl) (hn : ∀ env ds env', ms env = .ok ds env' → ds.length = n) : Eo X W false (.Call (.Name x p) (e :: es) [] pos) ((mHas i).bind fun _ => mCallB sem i ms) := by
  obtain ⟨f, fd, ps, hm, hk, hb, hps, F⟩ := D0.ex
  obtain ⟨ta, pA, kA⟩ := ha
  refine ⟨_, pe_callG F hr tk hg hm hk hb (pa_cons h0 pA he) hdb he hpl, fun G H σ env Fp Q S h => ?_⟩
  have hv : ∃ v, σ[i]? = some (some v) := by
    unfold M.bind mHas at h
    cases q : env[i]? with
    | none => rw [q] at h; exact h.elim
    | some o =>
      cases o with
      | none => rw [q] at h; exact h.elim
      | some t =>
        obtain ⟨v, F0, e2, _, _⟩ := S.sl.at q
        exact ⟨v, e2⟩
  have h : Post X.K X.mg W (VrT X.K) false σ G H Fp env Q (mCallB sem i ms env) := by
    unfold M.bind mHas at h
    cases q : env[i]? with
    | none => rw [q] at h; exact h.elim
    | some o =>
      cases o with
      | none => rw [q] at h; exact h.elim
      | some t => rw [q] at h; exact h
  obtain ⟨v, hv⟩ := hv
  refine ⟨v, hv, ?_⟩
  unfold mCallB at h
  refine kA G H σ env Fp _ S (Post.pure_less (Post.bindE (pu1 := false) (pu2 := false) h vrl_nil fun ds env1 vs G1 H1 Fp1 e1 st S1 q w h1 => ?_))
  have l := w.2
  cases q : env1[i]? with
  | none => rw [q] at h1; exact h1.elim
  | some o =>
    cases o with
    | none => rw [q] at h1; exact h1.elim
    | some t =>
      rw [q] at h1
      dsimp only at h1
      obtain ⟨v', F0, F', e2, own, rest, in0, inR, ndR⟩ := S1.sl.take q
      rw [hv] at e2
      cases e2
      have nd0 := ndR S1.nd
      have nd1 := List.nodup_append.mp nd0
      have Sc : Sta X.K G1 H1 ((v :: vs).map some) (some t :: ds.map fun d => some (.fz d)) (F0 ++ []) := ⟨S1.le, .so own (slots_fz l), by simpa using nd1.1, fun a m => S1.ap a (in0 a (by simpa using m))⟩
      refine ⟨by rw [List.length_cons, l.length, hn _ _ _ e1], G1, _, _, Sc, ?_⟩
      -- the caller's slots behind the call
      have after : ∀ {G2 H2 : Hp} {t' : T} {env2 : Env} {Fp2 Fr : List Addr}, Step G1 H1 (F0 ++ []) G2 H2 (Fr ++ Fp2) → Sta X.K G2 H2 ((v :: vs).map some) (some t' :: env2) Fp2 → (Fr ++ Fp2).Nodup → (∀ a ∈ Fr, G2 a = none) →
          ∃ F3, Step G1 H1 Fp1 G2 H2 (Fr ++ F3) ∧ Sta X.K G2 H2 σ (env1.set i (some t')) F3 ∧ (Fr ++ F3).Nodup := fun {G2 H2 t' env2 Fp2 Fr} st2 S2 nd ap => by
        obtain ⟨Fa, Fb, rfl, so, _⟩ := slots_uncons (by simpa using S2.sl)
        obtain ⟨v2, e3, o2⟩ := so
        cases e3
        have st2' : Step G1 H1 F0 G2 H2 (Fr ++ (Fa ++ Fb)) := by simpa using st2
        have P := pend (Fr := F') st2' rest.boxes (fun a m => S1.ap a (inR a m)) fun a m z => nd1.2.2 a z a m rfl
        have rest2 := rest.stay (same_gle st2'.sub) fun a m => (P a m).1
        obtain ⟨F3, s3, k3, n3⟩ := rest2.back o2 hv
        have s3' : Slots X.K G2 H2 σ (env1.set i (some t')) F3 := by rw [List.set_set] at s3; exact s3
        have ndP := List.nodup_append.mp nd
        have ndFa := List.nodup_append.mp ndP.2.1
        have n3' : F3.Nodup := n3 (List.nodup_append.mpr ⟨ndFa.1, nd1.2.1, fun a ma b mb z => (P b mb).2.2 (List.mem_append_right _ (List.mem_append_left _ (z ▸ ma)))⟩)
        refine ⟨F3, ⟨fun a u h m => st2'.keep a u h fun z => m (in0 a z), st2'.sub, fun a h => ?_, fun a m => ?_⟩, ⟨S2.le, s3', n3', fun a m => (k3 a m).elim (fun z => S2.ap a (List.mem_append_left _ z)) fun z => (P a z).2.1⟩, List.nodup_append.mpr ⟨ndP.1, n3', fun a ma b mb z => ?_⟩⟩
        · rcases st2'.frG a h with z | z | z | z
          · exact .inl z
          · exact .inr (.inl z)
          · exact .inr (.inr (.inl (in0 a z)))
          · exact .inr (.inr (.inr z))
        · rcases List.mem_append.mp m with m | m
          · exact (st2'.frF a (List.mem_append_left _ m)).imp id (in0 a)
          · rcases k3 a m with z | z
            · exact (st2'.frF a (List.mem_append_right _ (List.mem_append_left _ z))).imp id (in0 a)
            · exact .inr (inR a z)
        · subst z
          rcases k3 a mb with z | z
          · exact ndP.2.2 a ma a (List.mem_append_left _ z) rfl
          · exact (P a z).2.2 (List.mem_append_left _ ma)
      cases r : sem (some t :: ds.map fun d => some (.fz d)) with
      | bad => rw [r] at h1; exact h1
      | ok rt env' =>
        rw [r] at h1
        cases env' with
        | nil => exact h1.elim
        | cons o env2 =>
          cases o with
          | none => exact h1.elim
          | some t' =>
            intro u G2 H2 Fp2 Fr st2 S2 nd ap o
            obtain ⟨F3, st3, S3, nd3⟩ := after st2 S2 nd ap
            exact h1 u G2 H2 F3 Fr st3 S3 nd3 ap (fun z => nomatch z) o
      | exn x env' =>
        rw [r] at h1
        cases env' with
        | nil => exact h1.elim
        | cons o env2 =>
          cases o with
          | none => exact h1.elim
          | some t' =>
            intro cls dd G2 H2 Fp2 st2 S2 ex
            obtain ⟨F3, st3, S3, nd3⟩ := after (Fr := []) st2 S2 (by simpa using S2.nd) (fun _ m => absurd m (by simp))
            exact h1 cls dd G2 H2 F3 st3 S3 ex
end
end DL
/-! The data layer, part K: list comprehensions whose parts change nothing. -/
namespace DL
open PySem L2 PyProof.Rows
def W0 : WX := fun _ _ _ _ => False
/-- the reading that a computation stands for -/
def cE {α β : Type} (K : Frg) (mg : Str → Option Value) (W : WX) (Vr : Hp → Hp → β → α → List Addr → Prop) (pu : Bool) (m : M α) : L2.St → Hp → (β → Hp → Prop) → Prop := fun σ H Q => ∃ G env Fp, Sta K G H σ env Fp ∧ Post K mg W Vr pu σ G H Fp env Q (m env)
section
variable {X : Cx} {W : WX} {fx : List Nat} {md : Md} {pu pa pb pc : Bool} {e a b c tg iter elt : Expr} {es ifs : List Expr} {m ma mb : M D} {ms mi : M (List D)} {mt : M T} {mts : M (List T)} {mc : M Bool} {p pos : Pos} {x : Str} {k n : Nat} {sem : Sem}
theorem Ex.can (h : Ex X W md pu e m) : PE X e (cE X.K X.mg W (VrD X.K md) pu m) := by
  obtain ⟨te, p, k⟩ := h
  exact ⟨fun pins s σ H Q I ⟨G, env, Fp, S, q⟩ => p.run pins s σ H Q I (k G H σ env Fp Q S q)⟩
theorem Eo.can (h : Eo X W pu e mt) : PE X e (cE X.K X.mg W (VrT X.K) pu mt) := by
  obtain ⟨te, p, k⟩ := h
  exact ⟨fun pins s σ H Q I ⟨G, env, Fp, S, q⟩ => p.run pins s σ H Q I (k G H σ env Fp Q S q)⟩
/-- the tests of a clause -/
def Ets (X : Cx) (W : WX) (pu : Bool) (ifs : List Expr) (m : M Bool) : Prop := ∃ tt : TT, PTs X ifs tt ∧ ∀ G H σ env Fp Q, Sta X.K G H σ env Fp → Post X.K X.mg W VrB pu σ G H Fp env Q (m env) → tt σ H Q
theorem ets_nil : Ets X W true [] (M.pure true) := ⟨_, pts_nil, fun G H σ env Fp Q S h => post_pure h S ⟨rfl, rfl⟩⟩
theorem ets_one (h : Et X W pu c mc) : Ets X W pu [c] mc := by
  obtain ⟨tt, p, k⟩ := h
  exact ⟨tt, pts_one p, k⟩
theorem Ets.can (h : Ets X W pu ifs mc) : PTs X ifs (cE X.K X.mg W VrB pu mc) := by
  obtain ⟨te, p, k⟩ := h
  exact ⟨fun pins s σ H Q I ⟨G, env, Fp, S, q⟩ => p.run pins s σ H Q I (k G H σ env Fp Q S q)⟩
/-- the reading of a target -/
def cG (K : Frg) (fx : List Nat) (f : T → Env → Option Env) : TG := fun v σ H Q => ∃ G env Fp t Fr env1, Sta K G H σ env Fp ∧ Own K G H v t Fr ∧ (Fr ++ Fp).Nodup ∧ (∀ a ∈ Fr, G a = none) ∧ f t env = some env1 ∧
  ∀ σ1 F1, Fix fx σ σ1 → Sta K G H σ1 env1 F1 → (∀ a ∈ F1, a ∈ Fr ++ Fp) → Q σ1 H
theorem DG.can {f : T → Env → Option Env} (h : DG X fx tg f) : PG X tg (cG X.K fx f) := by
  obtain ⟨g, p, k⟩ := h
  exact ⟨fun pins s σ H v u Q I r ⟨G, env, Fp, t, Fr, env1, S, o, nd, ap, e, q⟩ => p.run pins s σ H v u Q I r (k G H σ env Fp v t Fr env1 Q S o nd ap e q)⟩
end
/-! ### the block's own names forgotten -/
def wipeE (env : Env) : List Nat → Env
  | [] => env
  | v :: vs => (wipeE env vs).set v none
theorem slots_set_none {K : Frg} {G H : Hp} : ∀ {σ : L2.St} {env : Env} {F : List Addr} (i : Nat) (x : Option V), Slots K G H σ env F → ∃ F', Slots K G H (σ.set i x) (env.set i none) F' ∧ (∀ a ∈ F', a ∈ F) ∧ (F.Nodup → F'.Nodup)
  | _, _, _, i, x, .nil => ⟨[], by simpa using Slots.nil, (fun _ m => absurd m (by simp)), fun _ => List.nodup_nil⟩
  | _, _, F, 0, x, .no r => ⟨F, .no r, fun a m => m, fun n => n⟩
  | _, _, _, 0, x, .so (F := F1) (F' := F2) h r => ⟨F2, .no r, fun a m => List.mem_append_right _ m, fun n => (List.nodup_append.mp n).2.1⟩
  | _, _, F, i + 1, x, .no r => by
    obtain ⟨F', s, k, n⟩ := slots_set_none i x r
    exact ⟨F', .no s, k, n⟩
  | _, _, _, i + 1, x, .so (F := F1) (F' := F2) h r => by
    obtain ⟨F', s, k, n⟩ := slots_set_none i x r
    refine ⟨F1 ++ F', .so h s, fun a m => ?_, fun nd => ?_⟩
    · rcases List.mem_append.mp m with m | m
      · exact List.mem_append_left _ m
      · exact List.mem_append_right _ (k a m)
    · rw [List.nodup_append] at nd
      exact List.nodup_append.mpr ⟨nd.1, n nd.2.1, fun a ma b mb => nd.2.2 a ma b (k b mb)⟩
theorem sta_wipe {K : Frg} {G H : Hp} {σ : L2.St} {env : Env} {Fp : List Addr} (S : Sta K G H σ env Fp) : ∀ vs : List Nat, ∃ F', Sta K G H (wipe σ vs) (wipeE env vs) F' ∧ ∀ a ∈ F', a ∈ Fp
  | [] => ⟨Fp, S, fun _ m => m⟩
  | v :: vs => by
    obtain ⟨F1, S1, k1⟩ := sta_wipe S vs
    obtain ⟨F2, s2, k2, n2⟩ := slots_set_none v none S1.sl
    exact ⟨F2, ⟨S.le, s2, n2 S1.nd, fun a m => S1.ap a (k2 a m)⟩, fun a m => k1 a (k2 a m)⟩
def others (n : Nat) (vs : List Nat) : List Nat := (List.range n).filter fun i => !vs.contains i
theorem wipe_in {σ : L2.St} {i : Nat} : ∀ {vs : List Nat}, i ∈ vs → (wipe σ vs)[i]? = if i < σ.length then some none else none
  | v :: vs, m => by
    unfold wipe
    by_cases e : v = i
    · subst e
      rw [List.getElem?_set, if_pos rfl, wipe_length]
    · rw [List.getElem?_set_ne e]
      exact wipe_in ((List.mem_cons.mp m).resolve_left fun z => e z.symm)
theorem wipe_again {σ σ2 : L2.St} {vs : List Nat} (f : Fix (others σ.length vs) (wipe σ vs) σ2) : wipe σ2 vs = wipe σ vs := by
  have hl : σ2.length = σ.length := f.1.trans (wipe_length σ vs)
  apply List.ext_getElem?
  intro i
  by_cases m : i ∈ vs
  · rw [wipe_in m, wipe_in m, hl]
  · rw [wipe_out m]
    by_cases h : i < σ.length
    · exact f.2 i (List.mem_filter.mpr ⟨List.mem_range.mpr h, by simpa using m⟩)
    · rw [List.getElem?_eq_none (by omega), List.getElem?_eq_none (by rw [wipe_length]; omega)]
/-! ### what a comprehension computes -/
def lcStep (vs : List Nat) (f : T → Env → Option Env) (mc : M Bool) (me : M T) (env : Env) (d : D) : Option (Option T) := match f (.fz d) (wipeE env vs) with
  | none => none
  | some env1 => match mc env1 with
    | .ok false _ => some none
    | .ok true env2 => match me env2 with
      | .ok t _ => some (some t)
      | _ => none
    | _ => none
def lcGo (vs : List Nat) (f : T → Env → Option Env) (mc : M Bool) (me : M T) (env : Env) : List D → Option (List T)
  | [] => some []
  | d :: ds => match lcStep vs f mc me env d with
    | none => none
    | some none => lcGo vs f mc me env ds
    | some (some t) => (lcGo vs f mc me env ds).map (t :: ·)
def mLc (vs : List Nat) (f : T → Env → Option Env) (mc : M Bool) (me : M T) (ds : List D) : M T := fun env => if ds.length ≤ sizeLine then match lcGo vs f mc me env ds with
    | some ts => .ok (.ol ts) env
    | none => .bad
  else .bad
theorem OwnL.snoc {K : Frg} {G H : Hp} : ∀ {vs : List V} {ts : List T} {F : List Addr} {v : V} {t : T} {Fr : List Addr}, OwnL K G H vs ts F → Own K G H v t Fr → OwnL K G H (vs ++ [v]) (ts ++ [t]) (F ++ Fr)
  | _, _, _, _, _, Fr, .nil, o => by
    have z := OwnL.cons o (.nil (K := K) (G := G) (H := H))
    simpa using z
  | _, _, _, _, _, Fr, .cons h t, o => by
    have z := OwnL.cons h (t.snoc o)
    simpa [List.append_assoc] using z
section
variable {X : Cx} {W : WX} {pa : Bool} {tg iter elt : Expr} {ifs : List Expr} {mi : M (List D)} {me : M T} {mc : M Bool} {pos : Pos} {scope : Scope} {own : List (Str × Nat)} {f : T → Env → Option Env}
theorem lc_read {wi : TI} {L : Hp → Prop} {vs : List Nat} (kI : ∀ G H σ env Fp R, L G → Sta X.K G H σ env Fp → Post X.K X.mg W (VrI X.K) pa σ G H Fp env R (mi env) → wi σ H R) :
    ∀ G H σ env Fp Q, L G → Sta X.K G H σ env Fp → Post X.K X.mg W (VrT X.K) pa σ G H Fp env Q ((mi.bind (mLc vs f mc me)) env) →
      ∀ n, σ.length = n → tLc wi (cG X.K (others n vs) f) (cE X.K X.mg W0 VrB true mc) (cE X.K X.mg W0 (VrT X.K) true me) vs σ H Q := fun G H σ env Fp Q l S h n hn => by
  subst hn
  refine kI G H σ env Fp _ l S (Post.bind (pu1 := pa) (pu2 := true) (by rw [Bool.and_true]; exact h) vri_nil fun ds env1 J G1 H1 F1 st1 S1 q1 w h1 => ?_)
  have ok := w.2
  unfold mLc at h1
  by_cases hz : ds.length ≤ sizeLine
  case neg => rw [if_neg hz] at h1; exact h1.elim
  rw [if_pos hz] at h1
  cases ht : lcGo vs f mc me env1 ds with
  | none => rw [ht] at h1; exact h1.elim
  | some total =>
    rw [ht] at h1
    intro Dn hD
    obtain ⟨Fw, Sw, kw⟩ := sta_wipe S1 vs
    refine ⟨fun i m H => i + m = ds.length ∧ ∃ G done acc Fa rest, lcGo vs f mc me env1 (ds.drop i) = some rest ∧ total = done ++ rest ∧ Grow G1 H1 G H ∧ H Dn = some (.lst acc) ∧ OwnL X.K G H acc done Fa ∧ (Dn :: Fa).Nodup ∧ (∀ a ∈ Dn :: Fa, G a = none ∧ H1 a = none) ∧ done.length ≤ i,
      ⟨ds.length, by omega, G1, [], [], [], total, by rw [List.drop_zero]; exact ht, rfl, grow_new S1.le hD _, upd_same, .nil, by simp, fun a m => by
        have z : a = Dn := by simpa using m
        rw [z]
        exact ⟨gle_none S1.le hD, hD⟩, Nat.le_refl _⟩, fun i m H2 hw => ?_⟩
    obtain ⟨hl, G2, done, acc, Fa, rest, hr, ht2, gw, hDn, ol, nd, ap, hdl⟩ := hw
    obtain ⟨items, stop⟩ := ok G2 H2 gw.sub gw.le
    by_cases hi : i < ds.length
    · refine .inr ?_
      have e1 : ds[i]? = some ds[i] := List.getElem?_eq_getElem hi
      obtain ⟨go, yl⟩ := items i _ e1
      rw [List.drop_eq_getElem_cons hi] at hr
      refine ⟨go, fun H' => ∃ G done acc Fa rest, lcGo vs f mc me env1 (ds.drop (i + 1)) = some rest ∧ total = done ++ rest ∧ Grow G1 H1 G H' ∧ H' Dn = some (.lst acc) ∧ OwnL X.K G H' acc done Fa ∧ (Dn :: Fa).Nodup ∧ (∀ a ∈ Dn :: Fa, G a = none ∧ H1 a = none) ∧ done.length ≤ i + 1,
        fun H' z => ⟨m - 1, by omega, by omega, z⟩, fun x H3 y => ?_⟩
      obtain ⟨G3, w3, dx⟩ := yl x H3 y
      have gw3 := gw.trans w3
      have S3 := Sw.grow gw3
      unfold lcGo at hr
      cases qs : lcStep vs f mc me env1 ds[i] with
      | none => rw [qs] at hr; cases hr
      | some o =>
        rw [qs] at hr
        unfold lcStep at qs
        cases qf : f (.fz ds[i]) (wipeE env1 vs) with
        | none => rw [qf] at qs; cases qs
        | some envA =>
          rw [qf] at qs
          dsimp only at qs
          -- what grows later leaves the list alone
          have keep : ∀ {G4 H4 : Hp}, Grow G2 H2 G4 H4 → H4 Dn = some (.lst acc) ∧ OwnL X.K G4 H4 acc done Fa ∧ ∀ a ∈ Dn :: Fa, G4 a = none := fun {G4 H4} w4 => by
            have P := pend (Fr := Dn :: Fa) (w4.step (Fp := [])) (fun a m => by
              rcases List.mem_cons.mp m with z | z
              · rw [z, hDn]; trivial
              · exact ol.boxes a z) (fun a m => (ap a m).1) (fun a m => by simp)
            exact ⟨by rw [(P Dn List.mem_cons_self).1]; exact hDn, ol.stay (same_gle w4.sub) fun a m => (P a (List.mem_cons_of_mem _ m)).1, fun a m => (P a m).2.1⟩
          refine ⟨G3, wipeE env1 vs, Fw, .fz ds[i], [], envA, S3, .fz dx, by simpa using S3.nd, (fun _ m => absurd m (by simp)), qf, fun σ4 F4 f4 S4 sb4 => ⟨wipe_again f4, G3, envA, F4, S4, ?_⟩⟩
          cases qc : mc envA with
          | bad => rw [qc] at qs; cases qs
          | exn x e => rw [qc] at qs; cases qs
          | ok bv envB =>
            rw [qc] at qs
            intro b' G5 H5 F5 Fr5 st5 S5 nd5 ap5 pu5 v5
            obtain ⟨rfl, rfl⟩ := v5
            obtain ⟨rfl, rfl, w5⟩ := pu5 rfl
            have w25 := w3.trans w5
            cases b' with
            | false =>
              have z : o = none := by
                cases qs
                rfl
              subst z
              obtain ⟨k1, k2, k3⟩ := keep w25
              rw [if_neg Bool.false_ne_true]
              exact ⟨G5, done, acc, Fa, rest, hr, ht2, gw.trans w25, k1, k2, nd, fun a m => ⟨k3 a m, (ap a m).2⟩, by omega⟩
            | true =>
              rw [if_pos rfl]
              refine ⟨G5, envB, F5, S5, ?_⟩
              dsimp only at qs
              cases qm : me envB with
              | bad => rw [qm] at qs; cases qs
              | exn x e => rw [qm] at qs; cases qs
              | ok t envC =>
                rw [qm] at qs
                have z : o = some t := by
                  cases qs
                  rfl
                subst z
                intro v G6 H6 F6 Fr6 st6 S6 nd6 ap6 pu6 o6
                obtain ⟨rfl, rfl, w6⟩ := pu6 rfl
                have o6 : Own X.K G6 H6 v t Fr6 := o6
                have w26 := w25.trans w6
                obtain ⟨k1, k2, k3⟩ := keep w26
                have fresh : ∀ a ∈ Fr6, H5 a = none := fun a m => (st6.frF a (List.mem_append_left _ m)).elim id fun z => absurd rfl ((List.nodup_append.mp nd6).2.2 a m a z)
                cases qr : lcGo vs f mc me env1 (ds.drop (i + 1)) with
                | none => rw [qr] at hr; cases hr
                | some rest' =>
                  rw [qr] at hr
                  obtain rfl : rest = t :: rest' := by
                    cases hr
                    rfl
                  have bx5 : ∀ a ∈ Dn :: Fa, H5 a ≠ none := fun a m => by
                    obtain ⟨c1, c2, _⟩ := keep w25
                    rcases List.mem_cons.mp m with z | z
                    · rw [z, c1]; exact fun z => nomatch z
                    · obtain ⟨u, e⟩ := box_some (c2.boxes a z)
                      rw [e]; exact fun z => nomatch z
                  have dj : ∀ a ∈ Fr6, a ∉ Dn :: Fa := fun a m z => bx5 a z (fresh a m)
                  have nD : ∀ a, a ∈ Fa ∨ a ∈ Fr6 → a ≠ Dn := fun a m z => by
                    rcases m with m | m
                    · exact (List.nodup_cons.mp nd).1 (z ▸ m)
                    · exact dj a m (z ▸ List.mem_cons_self)
                  refine ⟨acc, k1, by rw [k2.len]; omega, G6, done ++ [t], acc ++ [v], Fa ++ Fr6, rest', rfl, by rw [ht2, List.append_assoc]; rfl, ?_, upd_same, ?_, ?_, ?_, by rw [List.length_append]; simp; omega⟩
                  · have g16 := gw.trans w26
                    refine ⟨fun a u e => ?_, g16.sub, fun a u e => ?_, g16.frG⟩
                    · rw [upd_ne (fun z => by rw [z, hD] at e; cases e)]
                      exact g16.same a u e
                    · have z : a ≠ Dn := fun z => by rw [z, k3 Dn List.mem_cons_self] at e; cases e
                      rcases g16.le a u e with q | q
                      · exact .inl (by rw [upd_ne z]; exact q)
                      · obtain ⟨n1, b, q2⟩ := q
                        exact .inr ⟨n1, b, by rw [upd_ne z]; exact q2⟩
                  · exact (k2.stay (GLe.refl _) fun a m => by rw [upd_ne (nD a (.inl m))]).snoc (o6.stay (GLe.refl _) fun a m => by rw [upd_ne (nD a (.inr m))])
                  · rw [← List.cons_append]
                    exact List.nodup_append.mpr ⟨nd, (List.nodup_append.mp nd6).1, fun a ma b mb z => dj b mb (z ▸ ma)⟩
                  · intro a m
                    rw [← List.cons_append] at m
                    rcases List.mem_append.mp m with m | m
                    · exact ⟨k3 a m, (ap a m).2⟩
                    · exact ⟨ap6 a m, (gw.trans w25).same.free (fresh a m)⟩
    · have e : i = ds.length := by omega
      subst e
      rw [List.drop_length] at hr
      obtain rfl : rest = [] := by
        cases hr
        rfl
      rw [List.append_nil] at ht2
      subst ht2
      refine .inl ⟨stop, ?_⟩
      have S2 := S1.grow gw
      refine h1 (.ref Dn) G2 H2 F1 (Dn :: Fa) ⟨fun a u e _ => gw.same a u e, gw.sub, (gw.step (Fp := F1)).frG, fun a m => ?_⟩ S2 (List.nodup_append.mpr ⟨nd, S2.nd, fun a ma b mb z => ?_⟩) (fun a m => (ap a m).1) (fun _ => ⟨rfl, rfl, gw⟩) (.ol hDn ol)
      · rcases List.mem_append.mp m with m | m
        · exact .inl (ap a m).2
        · exact .inr m
      · subst z
        have bx := S1.sl.boxes a mb
        rw [(ap a ma).2] at bx
        exact bx
theorem pe_len {e : Expr} {te : TE} (h : PE X e te) : PE X e (fun σ H Q => σ.length = X.N.length → te σ H Q) := ⟨fun pins s σ H Q I q => h.run pins s σ H Q I (q I.len)⟩
/-- [elt for tg in iter if ..] -/
theorem o_lc (hc : X.calm = true) (hN : X.N.Nodup) (hi : Di X W pa tg iter mi) (ok : BlkOk X.N X.env.scope scope own)
    (hg : ∀ (s : Shared) (H : Hp) (C : Addr) (cl : List (Str × Addr)) (fp : List Addr), DG (X.blk s H scope (compEnvC scope cl C X.env) fp) (others X.N.length (own.map (·.2))) tg f)
    (ht : ∀ (s : Shared) (H : Hp) (C : Addr) (cl : List (Str × Addr)) (fp : List Addr), Ets (X.blk s H scope (compEnvC scope cl C X.env) fp) W0 true ifs mc)
    (he : ∀ (s : Shared) (H : Hp) (C : Addr) (cl : List (Str × Addr)) (fp : List Addr), Eo (X.blk s H scope (compEnvC scope cl C X.env) fp) W0 true elt me)
    (hf : ∀ x, foldedSetIterable iter X.env x = pure x := by intro _; rfl) : Eo X W pa (.ListComp elt [⟨tg, iter, ifs, 0⟩] scope pos) (mi.bind (mLc (own.map (·.2)) f mc me)) := by
  obtain ⟨wi, pI, kI⟩ := hi
  exact ⟨_, pe_len (pe_lc hc hN pI ok (fun s H C cl fp => (hg s H C cl fp).can) (fun s H C cl fp => (ht s H C cl fp).can) (fun s H C cl fp => (he s H C cl fp).can) hf), fun G H σ env Fp Q S h hl => lc_read (L := fun _ => True) (fun G H σ env Fp R _ => kI G H σ env Fp R) G H σ env Fp Q trivial S h _ hl⟩
end
end DL
/-! The data layer, part L: built-in functions and types, called. -/
namespace DL
open PySem L2 PyProof.Rows PySem.W
/-! ### sorted -/
def rSortD (K : Frg) : List V → Hp → VK → Prop := fun xs H Q => ∃ (a : Addr) (bs : List (V × D)), xs = [.ref a] ∧ SqL K H a (bs.map (·.1)) ∧ (∀ b ∈ bs, Dp K H b.1 b.2) ∧ AllAlike (bs.map (·.2)) ∧ Sortable (bs.map (·.2)) ∧ bs.length ≤ sizeLine ∧ (∀ b ∈ bs, b.2.depth ≤ 64) ∧
  ∀ p, H p = none → Q (.ref p) (upd H p (.lst ((bs.mergeSort (dataLe false (·.2))).map (·.1))))
theorem each_pairs {X : Cx} {pins : List (Addr × Obj)} {σ : L2.St} {H : Hp} {s : Shared} (I : Inv X pins σ H s) : ∀ {bs : List (V × D)} {us : List Value}, Vals (bs.map (·.1)) us → (∀ b ∈ bs, Dp X.K H b.1 b.2) →
    EachIs (fun u (b : V × D) => RelV b.1 u) us bs ∧ EachIs (fun u (b : V × D) => ∃ as, Reads s.heap u b.2 as) us bs
  | [], _, .nil, _ => ⟨.nil, .nil⟩
  | b :: bs, _, .cons r t, h => by
    obtain ⟨e1, e2⟩ := each_pairs I t fun b m => h b (List.mem_cons_of_mem _ m)
    exact ⟨.cons r e1, .cons (Dp.reads I _ _ _ (h b List.mem_cons_self) r) e2⟩
theorem vals_each {bs : List (V × D)} {us : List Value} (h : EachIs (fun u (b : V × D) => RelV b.1 u) us bs) : Vals (bs.map (·.1)) us := by
  induction h with
  | nil => exact .nil
  | cons r _ ih => exact .cons r ih
theorem call_sortD {X : Cx} (hu : X.A.units + 70 < cLine) : CallR X (.builtin "sorted") (rSortD X.K) := by
  intro pins s σ H vs us Q I r h
  obtain ⟨a, bs, rfl, hs, hd, al, so, hl, hdp, q⟩ := h
  obtain ⟨its, rv, pl, hz⟩ := I.list hs
  rw [Vals.ref1 r]
  obtain ⟨e1, e2⟩ := each_pairs I rv hd
  refine sorted_data (enc := fun b : V × D => b.2) pl.isList e1 e2 al so hl (fun b m => by have := hdp b m; omega) fun out hlen hout => ?_
  obtain ⟨ep, he'⟩ := sortedAll_at s.heap its out.toArray
  have hlen2 : ((bs.mergeSort (dataLe false (fun b : V × D => b.2))).map (·.1)).length ≤ sizeLine := by rw [List.length_map, List.length_mergeSort]; exact hl
  exact ⟨.ref _, upd H (s.heap.objs.size + 1) (.lst _), I.laid (t' := s.toks) (fun _ _ => sortedAll_old) (Nat.le_succ _) ⟨hlen2, out, ep, vals_each hout, he'⟩, rfl, q _ (I.hok.fresh (Nat.le_succ _))⟩
def sortD (ds : List D) : List D := ds.mergeSort (dataLe false id)
def SortOk (ds : List D) : Prop := AllAlike ds ∧ Sortable ds ∧ ds.length ≤ sizeLine ∧ ∀ d ∈ ds, shp d = true
open Classical in
noncomputable def dSorted : List D → Option T
  | [.list ds] => if SortOk ds then some (.ol ((sortD ds).map T.fz)) else none
  | _ => none
theorem denL_zip {K : Frg} {G : Hp} : ∀ {vs : List V} {ds : List D}, DenL K G vs ds → ∀ b ∈ vs.zip ds, Den K G b.1 b.2
  | _, _, .nil, _, m => absurd m (by simp)
  | _, _, .cons h t, b, m => by
    rw [List.zip_cons_cons] at m
    rcases List.mem_cons.mp m with rfl | m
    · exact h
    · exact denL_zip t b m
theorem denL_of {K : Frg} {G : Hp} : ∀ {bs : List (V × D)}, (∀ b ∈ bs, Den K G b.1 b.2) → DenL K G (bs.map (·.1)) (bs.map (·.2))
  | [], _ => .nil
  | b :: bs, h => .cons (h b List.mem_cons_self) (denL_of fun b m => h b (List.mem_cons_of_mem _ m))
theorem co_sorted {K : Frg} : CaO K (rSortD K) dSorted := fun G H xs ds t Q gl l e k => by
  unfold dSorted at e
  split at e
  · rename_i ds
    split at e
    · rename_i ok
      cases e
      obtain ⟨al, so, hl, hs⟩ := ok
      obtain ⟨v, rfl, dv⟩ := l.one
      obtain ⟨a, vs, rfl, s, lv⟩ := dv.of_lst
      have z1 : (vs.zip ds).map (·.1) = vs := List.map_fst_zip (by rw [lv.length]; exact Nat.le_refl _)
      have z2 : (vs.zip ds).map (·.2) = ds := List.map_snd_zip (by rw [lv.length]; exact Nat.le_refl _)
      have z3 : (vs.zip ds).length = ds.length := by rw [List.length_zip, lv.length, Nat.min_self]
      have mem : ∀ b ∈ vs.zip ds, b.2 ∈ ds := fun b m => by
        have q := List.mem_map_of_mem (f := fun b : V × D => b.2) m
        rwa [z2] at q
      refine ⟨a, vs.zip ds, rfl, by rw [z1]; exact (gl.sqX s).l, fun b m => ((denL_zip lv b m).up gl).dp (shp_lay (hs _ (mem b m))), by rw [z2]; exact al, by rw [z2]; exact so, by rw [z3]; exact hl, fun b m => SeqAt.depth_of_shaped (hs _ (mem b m)), fun p hp => ?_⟩
      have z4 : ((vs.zip ds).mergeSort (dataLe false (·.2))).map (·.2) = sortD ds := by
        have q := sort_maps (r := dataLe false (fun b : V × D => b.2)) (s := dataLe false id) (fun b : V × D => b.2) (l := vs.zip ds) (fun _ _ _ _ => rfl)
        rw [z2] at q
        exact q
      have dl : DenL K G (((vs.zip ds).mergeSort (dataLe false (·.2))).map (·.1)) (sortD ds) := by
        rw [← z4]
        exact denL_of fun b m => denL_zip lv b (List.mem_mergeSort.mp m)
      exact new_list gl hp dl k
    · cases e
  · cases e
/-! ### the others -/
def dLen : List D → Option D
  | [.list ds] => some (.int ds.length)
  | [.tuple ds] => some (.int ds.length)
  | [.dict ds] => some (.int ds.length)
  | [.str z] => if z.length ≤ sizeLine then some (.int z.length) else none
  | _ => none
def rLenAll (K : Frg) : List V → Hp → VK → Prop := fun xs H Q => (∃ p ys, xs = [.ref p] ∧ (SqL K H p ys ∨ SqT K H p ys) ∧ Q (.int ys.length) H) ∨ (∃ z, xs = [.str z] ∧ z.length ≤ sizeLine ∧ Q (.int z.length) H) ∨
  (∃ a kvs, xs = [V.ref a] ∧ Rd H a (.dK kvs) ∧ Q (.int kvs.length) H) ∨ (∃ a kvs, xs = [V.ref a] ∧ Rd H a (.dT kvs) ∧ Q (.int kvs.length) H)
theorem call_lenK {X : Cx} : CallR X (.builtin "len") (fun xs H Q => ∃ a kvs, xs = [V.ref a] ∧ Rd H a (.dK kvs) ∧ Q (.int kvs.length) H) := by
  intro pins s σ H xs us Q I r h
  obtain ⟨a, kvs, rfl, ha, q⟩ := h
  obtain ⟨u, rfl, ru⟩ := vals1 r
  cases ru
  exact d_len I ha fun t s' I' => ⟨.int kvs.length, H, I', ⟨t, rfl⟩, q⟩
theorem call_lenT {X : Cx} : CallR X (.builtin "len") (fun xs H Q => ∃ a kvs, xs = [V.ref a] ∧ Rd H a (.dT kvs) ∧ Q (.int kvs.length) H) := by
  intro pins s σ H xs us Q I r h
  obtain ⟨a, kvs, rfl, ha, q⟩ := h
  obtain ⟨u, rfl, ru⟩ := vals1 r
  cases ru
  obtain ⟨z, hd, ys, rel, dd⟩ := dt_rd I.hok ha
  have hl : kvs.length = ys.length := Paired.length rel
  refine call_len_dictH hd dd (by rw [← hl]; rw [sizeLine_eq] at z; omega) ?_
  rw [← hl]
  exact ⟨.int kvs.length, H, I.tok _, ⟨_, rfl⟩, q⟩
theorem DenK.length {K : Frg} {G : Hp} : ∀ {ks : List (Key × V)} {kvs : List (D × D)}, DenK K G ks kvs → ks.length = kvs.length
  | _, _, .nil => rfl
  | _, _, .cons _ t => congrArg (· + 1) t.length
theorem DenT.length {K : Frg} {G : Hp} : ∀ {ks : List (List Key × V)} {kvs : List (D × D)}, DenT K G ks kvs → ks.length = kvs.length
  | _, _, .nil => rfl
  | _, _, .cons _ t => congrArg (· + 1) t.length
theorem Den.of_dict {K : Frg} {G : Hp} {v : V} {kvs : List (D × D)} (h : Den K G v (.dict kvs)) : ∃ a, v = .ref a ∧ ((∃ ks, Rd G a (.dK ks) ∧ DenK K G ks kvs) ∨ ∃ ks, Rd G a (.dT ks) ∧ DenT K G ks kvs) := by
  cases h with
  | dk s l => exact ⟨_, rfl, .inl ⟨_, s, l⟩⟩
  | dt s l _ => exact ⟨_, rfl, .inr ⟨_, s, l⟩⟩
theorem cs_len {K : Frg} : CaS K (rLenAll K) dLen := fun G H xs ds d Q gl l e k => by
  unfold dLen at e
  split at e
  · cases e
    obtain ⟨v, rfl, dv⟩ := l.one
    obtain ⟨a, vs, rfl, s, lv⟩ := dv.of_lst
    exact .inl ⟨a, vs, rfl, .inl ((gl.sqX s).l), by rw [lv.length]; exact k _ G H (Grow.refl gl) (.int _)⟩
  · cases e
    obtain ⟨v, rfl, dv⟩ := l.one
    obtain ⟨a, vs, rfl, s, lv⟩ := dv.of_tup
    exact .inl ⟨a, vs, rfl, .inr (gl.sqT s), by rw [lv.length]; exact k _ G H (Grow.refl gl) (.int _)⟩
  · cases e
    obtain ⟨v, rfl, dv⟩ := l.one
    obtain ⟨a, rfl, h⟩ := dv.of_dict
    rcases h with ⟨ks, s, lv⟩ | ⟨ks, s, lv⟩
    · exact .inr (.inr (.inl ⟨a, ks, rfl, gl.rd s, by rw [lv.length]; exact k _ G H (Grow.refl gl) (.int _)⟩))
    · exact .inr (.inr (.inr ⟨a, ks, rfl, gl.rd s, by rw [lv.length]; exact k _ G H (Grow.refl gl) (.int _)⟩))
  · split at e
    · cases e
      obtain ⟨v, rfl, dv⟩ := l.one
      exact .inr (.inl ⟨_, by rw [dv.of_str], by assumption, k _ G H (Grow.refl gl) (.int _)⟩)
    · cases e
  · cases e
theorem fl_len : FlatL dLen := fun a d h => by
  unfold dLen at h
  split at h
  · cases h; rfl
  · cases h; rfl
  · cases h; rfl
  · split at h <;> cases h
    rfl
  · cases h
def dAbs : List D → Option D
  | [.int i] => some (.int (if i < 0 then -i else i))
  | _ => none
def dMax2 : List D → Option D
  | [.int i, .int j] => some (.int (if j > i then j else i))
  | _ => none
def dInt : List D → Option D
  | [.int i] => some (.int i)
  | [.bool b] => some (.int (if b then 1 else 0))
  | _ => none
def intsOf : List D → Option (List Int)
  | [] => some []
  | .int i :: r => (intsOf r).map (i :: ·)
  | _ => none
def boolsOf : List D → Option (List Bool)
  | [] => some []
  | .bool i :: r => (boolsOf r).map (i :: ·)
  | _ => none
def minI : List Int → Int
  | [] => 0
  | [a] => a
  | a :: r => if minI r < a then minI r else a
def dMinL : List D → Option D
  | [.list ds] => (intsOf ds).bind fun ns => if ns = [] then none else some (.int (minI ns))
  | _ => none
def dAll : List D → Option D
  | [.list ds] => (boolsOf ds).map fun bs => .bool (bs.all id)
  | _ => none
def dTuple : List D → Option D
  | [.list ds] => some (.tuple ds)
  | [.tuple ds] => some (.tuple ds)
  | _ => none
def dList : List D → Option T
  | [.list ds] => some (.ol (ds.map T.fz))
  | [.tuple ds] => some (.ol (ds.map T.fz))
  | _ => none
theorem denL_ints {K : Frg} {G : Hp} : ∀ {ds : List D} {vs : List V} {ns : List Int}, DenL K G vs ds → intsOf ds = some ns → vs = ns.map V.int
  | [], _, _, .nil, e => by cases e; rfl
  | .int i :: ds, _, ns, .cons h t, e => by
    unfold intsOf at e
    cases q : intsOf ds with
    | none => rw [q] at e; cases e
    | some ms =>
      rw [q] at e
      cases e
      rw [h.of_int, denL_ints t q]
      rfl
theorem denL_bools {K : Frg} {G : Hp} : ∀ {ds : List D} {vs : List V} {ns : List Bool}, DenL K G vs ds → boolsOf ds = some ns → vs = ns.map V.bl
  | [], _, _, .nil, e => by cases e; rfl
  | .bool i :: ds, _, ns, .cons h t, e => by
    unfold boolsOf at e
    cases q : boolsOf ds with
    | none => rw [q] at e; cases e
    | some ms =>
      rw [q] at e
      cases e
      rw [h.of_bool, denL_bools t q]
      rfl
theorem minI_spec : ∀ (ns : List Int), ns ≠ [] → minI ns ∈ ns ∧ ∀ y ∈ ns, minI ns ≤ y
  | [], h => absurd rfl h
  | [a], _ => ⟨by simp [minI], fun y m => by
      have h : y = a := by simpa using m
      simp [minI, h]⟩
  | a :: b :: r, _ => by
    obtain ⟨h1, h2⟩ := minI_spec (b :: r) (by simp)
    show (if minI (b :: r) < a then minI (b :: r) else a) ∈ _ ∧ ∀ y ∈ _, (if minI (b :: r) < a then minI (b :: r) else a) ≤ y
    split
    · refine ⟨List.mem_cons_of_mem _ h1, fun y m => ?_⟩
      rcases List.mem_cons.mp m with rfl | m
      · omega
      · exact h2 y m
    · refine ⟨List.mem_cons_self, fun y m => ?_⟩
      rcases List.mem_cons.mp m with rfl | m
      · exact Int.le_refl _
      · have := h2 y m; omega
section
variable {K : Frg}
theorem cs_abs : CaS K (fun xs H Q => ∃ i, xs = [.int i] ∧ Q (.int (if i < 0 then -i else i)) H) dAbs := fun G H xs ds d Q gl l e k => by
  unfold dAbs at e
  split at e <;> cases e
  obtain ⟨v, rfl, dv⟩ := l.one
  exact ⟨_, by rw [dv.of_int], k _ G H (Grow.refl gl) (.int _)⟩
theorem cs_max2 : CaS K (fun xs H Q => ∃ i j, xs = [.int i, .int j] ∧ Q (.int (if j > i then j else i)) H) dMax2 := fun G H xs ds d Q gl l e k => by
  unfold dMax2 at e
  split at e <;> cases e
  obtain ⟨v, v', rfl, dv, dv'⟩ := l.two
  exact ⟨_, _, by rw [dv.of_int, dv'.of_int], k _ G H (Grow.refl gl) (.int _)⟩
theorem cs_int : CaS K (fun xs H Q => (∃ i, xs = [.int i] ∧ Q (.int i) H) ∨ ∃ k, xs = [.bl k] ∧ Q (.int (if k then 1 else 0)) H) dInt := fun G H xs ds d Q gl l e k => by
  unfold dInt at e
  split at e <;> cases e
  · obtain ⟨v, rfl, dv⟩ := l.one
    exact .inl ⟨_, by rw [dv.of_int], k _ G H (Grow.refl gl) (.int _)⟩
  · obtain ⟨v, rfl, dv⟩ := l.one
    exact .inr ⟨_, by rw [dv.of_bool], k _ G H (Grow.refl gl) (.int _)⟩
theorem cs_minL : CaS K (rMin K) dMinL := fun G H xs ds d Q gl l e k => by
  unfold dMinL at e
  split at e
  · rename_i ds
    cases q : intsOf ds with
    | none => rw [q] at e; cases e
    | some ns =>
      rw [q] at e
      have e : (if ns = [] then none else some (.int (minI ns))) = some d := e
      split at e
      · cases e
      · rename_i hne
        cases e
        obtain ⟨v, rfl, dv⟩ := l.one
        obtain ⟨a, vs, rfl, s, lv⟩ := dv.of_lst
        obtain ⟨m1, m2⟩ := minI_spec ns hne
        refine ⟨a, ns, rfl, by rw [← denL_ints lv q]; exact (gl.sqX s).l, List.length_pos_iff.mpr hne, fun m h1 h2 => ?_⟩
        have : m = minI ns := Int.le_antisymm (h2 _ m1) (m2 m h1)
        rw [this]
        exact k _ G H (Grow.refl gl) (.int _)
  · cases e
theorem cs_all : CaS K (rAll K) dAll := fun G H xs ds d Q gl l e k => by
  unfold dAll at e
  split at e
  · rename_i ds
    cases q : boolsOf ds with
    | none => rw [q] at e; cases e
    | some ns =>
      rw [q] at e
      cases e
      obtain ⟨v, rfl, dv⟩ := l.one
      obtain ⟨a, vs, rfl, s, lv⟩ := dv.of_lst
      exact ⟨a, ns, rfl, by rw [← denL_bools lv q]; exact (gl.sqX s).l, k _ G H (Grow.refl gl) (.bl _)⟩
  · cases e
theorem cs_tuple : CaS K (fun xs H Q => ∃ p ys, xs = [.ref p] ∧ ((SqL K H p ys ∧ ∀ l, H l = none → Q (.ref l) (upd H l (.tup ys))) ∨ (SqT K H p ys ∧ Q (.ref p) H))) dTuple := fun G H xs ds d Q gl l e k => by
  unfold dTuple at e
  split at e
  · cases e
    obtain ⟨v, rfl, dv⟩ := l.one
    obtain ⟨a, vs, rfl, s, lv⟩ := dv.of_lst
    exact ⟨a, vs, rfl, .inl ⟨(gl.sqX s).l, fun p hp => new_tup gl hp lv k⟩⟩
  · cases e
    obtain ⟨v, rfl, dv⟩ := l.one
    obtain ⟨a, vs, rfl, s, lv⟩ := dv.of_tup
    exact ⟨a, vs, rfl, .inr ⟨gl.sqT s, k _ G H (Grow.refl gl) (.tup s lv)⟩⟩
  · cases e
theorem co_list : CaO K (fun xs H Q => ∃ p ys, xs = [.ref p] ∧ (SqL K H p ys ∨ SqT K H p ys) ∧ ∀ l, H l = none → Q (.ref l) (upd H l (.lst ys))) dList := fun G H xs ds d Q gl l e k => by
  unfold dList at e
  split at e
  · cases e
    obtain ⟨v, rfl, dv⟩ := l.one
    obtain ⟨a, vs, rfl, s, lv⟩ := dv.of_lst
    exact ⟨a, vs, rfl, .inl ((gl.sqX s).l), fun p hp => new_list gl hp lv k⟩
  · cases e
    obtain ⟨v, rfl, dv⟩ := l.one
    obtain ⟨a, vs, rfl, s, lv⟩ := dv.of_tup
    exact ⟨a, vs, rfl, .inr (gl.sqT s), fun p hp => new_list gl hp lv k⟩
  · cases e
end
/-- the answers that are numbers or truths -/
theorem fl1 {g : List D → Option D} (h : ∀ a d, g a = some d → (∃ i, d = .int i) ∨ (∃ b, d = .bool b) ∨ ∃ z, d = .str z) : FlatL g := fun a d e => by
  rcases h a d e with ⟨i, rfl⟩ | ⟨b, rfl⟩ | ⟨z, rfl⟩ <;> rfl
section
variable {X : Cx} {W : WX} {md : Md} {pa : Bool} {e a b : Expr} {es : List Expr} {ms : M (List D)} {ma : M D} {x : Str} {p pos : Pos}
theorem xb_s {id : String} {r : List V → Hp → VK → Prop} {g : List D → Option D} (hc : CallR X (.builtin id) r) (hr : CaS X.K r g) (hf : FlatL g) (hg : Gl X x) (hm : X.mg x = none) (hv : bootBuiltins x = some (.builtin id)) (ha : Ea X W md pa (e :: es) ms) (hn : x ≠ "__name__" := by decide) (hdb : (x == ("__debug__" : Str)) = false := by decide)
    (he : starEach (e :: es) X.env = (false, eval e X.env) :: starEach es X.env := by rfl) (hpl : (backTo pos (starEach es X.env)).any (·.1) = false := by rfl) : Ex X W .frz pa (.Call (.Name x p) (e :: es) [] pos) (mL g ms) :=
  exLs (fun ta q => pe_callB hc hg hm hv q hn hdb he hpl) hr hf ha
theorem xt_s {T : String} {r : List V → Hp → VK → Prop} {g : List D → Option D} (hc : CallR X (.type T) r) (hr : CaS X.K r g) (hf : FlatL g) (hg : Gl X x) (hm : X.mg x = none) (hv : bootBuiltins x = some (.type T)) (ha : Ea X W md pa (e :: es) ms) (hn : x ≠ "__name__" := by decide) (hdb : (x == ("__debug__" : Str)) = false := by decide)
    (he : starEach (e :: es) X.env = (false, eval e X.env) :: starEach es X.env := by rfl) (hpl : (backTo pos (starEach es X.env)).any (·.1) = false := by rfl) : Ex X W .frz pa (.Call (.Name x p) (e :: es) [] pos) (mL g ms) :=
  exLs (fun ta q => pe_callTy hc hg hm hv q hn hdb he hpl) hr hf ha
theorem xt_f {T : String} {r : List V → Hp → VK → Prop} {g : List D → Option D} (hc : CallR X (.type T) r) (hr : CaS X.K r g) (hg : Gl X x) (hm : X.mg x = none) (hv : bootBuiltins x = some (.type T)) (ha : Ea X W md pa (e :: es) ms) (hn : x ≠ "__name__" := by decide) (hdb : (x == ("__debug__" : Str)) = false := by decide)
    (he : starEach (e :: es) X.env = (false, eval e X.env) :: starEach es X.env := by rfl) (hpl : (backTo pos (starEach es X.env)).any (·.1) = false := by rfl) : Ex X W md pa (.Call (.Name x p) (e :: es) [] pos) (mL g ms) :=
  exL (fun ta q => pe_callTy hc hg hm hv q hn hdb he hpl) hr ha
theorem ob_ {id : String} {r : List V → Hp → VK → Prop} {g : List D → Option T} (hc : CallR X (.builtin id) r) (hr : CaO X.K r g) (hg : Gl X x) (hm : X.mg x = none) (hv : bootBuiltins x = some (.builtin id)) (ha : Ea X W .frz pa (e :: es) ms) (hn : x ≠ "__name__" := by decide) (hdb : (x == ("__debug__" : Str)) = false := by decide)
    (he : starEach (e :: es) X.env = (false, eval e X.env) :: starEach es X.env := by rfl) (hpl : (backTo pos (starEach es X.env)).any (·.1) = false := by rfl) : Eo X W pa (.Call (.Name x p) (e :: es) [] pos) (mL g ms) :=
  eoL (fun ta q => pe_callB hc hg hm hv q hn hdb he hpl) hr ha
theorem ot_ {T' : String} {r : List V → Hp → VK → Prop} {g : List D → Option T} (hc : CallR X (.type T') r) (hr : CaO X.K r g) (hg : Gl X x) (hm : X.mg x = none) (hv : bootBuiltins x = some (.type T')) (ha : Ea X W .frz pa (e :: es) ms) (hn : x ≠ "__name__" := by decide) (hdb : (x == ("__debug__" : Str)) = false := by decide)
    (he : starEach (e :: es) X.env = (false, eval e X.env) :: starEach es X.env := by rfl) (hpl : (backTo pos (starEach es X.env)).any (·.1) = false := by rfl) : Eo X W pa (.Call (.Name x p) (e :: es) [] pos) (mL g ms) :=
  eoL (fun ta q => pe_callTy hc hg hm hv q hn hdb he hpl) hr ha
/-! by name -/
theorem b_len (hg : Gl X "len") (hm : X.mg "len" = none) (ha : Ea X W md pa [a] ms) (he : starEach [a] X.env = (false, eval a X.env) :: starEach [] X.env := by rfl) (hpl : (backTo pos (starEach [] X.env)).any (·.1) = false := by rfl) : Ex X W .frz pa (.Call (.Name "len" p) [a] [] pos) (mL dLen ms) :=
  xb_s (call_len_seq.or (call_len_str.or (call_lenK.or call_lenT))) cs_len fl_len hg hm PySem.boot_len ha (by decide) (by decide) he hpl
theorem b_abs (hg : Gl X "abs") (hm : X.mg "abs" = none) (ha : Ea X W md pa [a] ms) (he : starEach [a] X.env = (false, eval a X.env) :: starEach [] X.env := by rfl) (hpl : (backTo pos (starEach [] X.env)).any (·.1) = false := by rfl) : Ex X W .frz pa (.Call (.Name "abs" p) [a] [] pos) (mL dAbs ms) :=
  xb_s call_abs cs_abs (fl1 fun a d h => by unfold dAbs at h; split at h <;> cases h; exact .inl ⟨_, rfl⟩) hg hm (by decide +kernel) ha (by decide) (by decide) he hpl
theorem b_max2 (hc : X.calm = true) (hg : Gl X "max") (hm : X.mg "max" = none) (ha : Ea X W md pa [a, b] ms) (he : starEach [a, b] X.env = (false, eval a X.env) :: starEach [b] X.env := by rfl) (hpl : (backTo pos (starEach [b] X.env)).any (·.1) = false := by rfl) : Ex X W .frz pa (.Call (.Name "max" p) [a, b] [] pos) (mL dMax2 ms) :=
  xb_s (call_max2 hc) cs_max2 (fl1 fun a d h => by unfold dMax2 at h; split at h <;> cases h; exact .inl ⟨_, rfl⟩) hg hm (by decide +kernel) ha (by decide) (by decide) he hpl
theorem fl_bind {o : Option (List Int)} {f : List Int → Int} {d : D} (h : (o.bind fun ns => if ns = [] then none else some (PyData.int (f ns))) = some d) : ∃ i, d = .int i := by
  cases o with
  | none => cases h
  | some ns =>
    have h : (if ns = [] then none else some (PyData.int (f ns))) = some d := h
    split at h <;> cases h
    exact ⟨_, rfl⟩
theorem b_min (hc : X.calm = true) (hg : Gl X "min") (hm : X.mg "min" = none) (ha : Ea X W md pa [a] ms) (he : starEach [a] X.env = (false, eval a X.env) :: starEach [] X.env := by rfl) (hpl : (backTo pos (starEach [] X.env)).any (·.1) = false := by rfl) : Ex X W .frz pa (.Call (.Name "min" p) [a] [] pos) (mL dMinL ms) :=
  xb_s (cr_min hc) cs_minL (fl1 fun a d h => by unfold dMinL at h; split at h; exact .inl (fl_bind h); cases h) hg hm (by decide +kernel) ha (by decide) (by decide) he hpl
theorem fl_boolmap {o : Option (List Bool)} {f : List Bool → Bool} {d : D} (h : (o.map fun ns => PyData.bool (f ns)) = some d) : ∃ i, d = .bool i := by
  cases o with
  | none => cases h
  | some ns => cases h; exact ⟨_, rfl⟩
theorem b_all (hc : X.calm = true) (hg : Gl X "all") (hm : X.mg "all" = none) (ha : Ea X W md pa [a] ms) (he : starEach [a] X.env = (false, eval a X.env) :: starEach [] X.env := by rfl) (hpl : (backTo pos (starEach [] X.env)).any (·.1) = false := by rfl) : Ex X W .frz pa (.Call (.Name "all" p) [a] [] pos) (mL dAll ms) :=
  xb_s (cr_all hc) cs_all (fl1 fun a d h => by unfold dAll at h; split at h; exact .inr (.inl (fl_boolmap h)); cases h) hg hm (by decide +kernel) ha (by decide) (by decide) he hpl
theorem b_int (hg : Gl X "int") (hm : X.mg "int" = none) (ha : Ea X W md pa [a] ms) (he : starEach [a] X.env = (false, eval a X.env) :: starEach [] X.env := by rfl) (hpl : (backTo pos (starEach [] X.env)).any (·.1) = false := by rfl) : Ex X W .frz pa (.Call (.Name "int" p) [a] [] pos) (mL dInt ms) :=
  xt_s call_int1 cs_int (fl1 fun a d h => by unfold dInt at h; split at h <;> cases h <;> exact .inl ⟨_, rfl⟩) hg hm (by decide +kernel) ha (by decide) (by decide) he hpl
theorem b_tuple (hg : Gl X "tuple") (hm : X.mg "tuple" = none) (ha : Ea X W md pa [a] ms) (he : starEach [a] X.env = (false, eval a X.env) :: starEach [] X.env := by rfl) (hpl : (backTo pos (starEach [] X.env)).any (·.1) = false := by rfl) : Ex X W md pa (.Call (.Name "tuple" p) [a] [] pos) (mL dTuple ms) :=
  xt_f call_tuple_of cs_tuple hg hm (by decide +kernel) ha (by decide) (by decide) he hpl
theorem b_list (hg : Gl X "list") (hm : X.mg "list" = none) (ha : Ea X W .frz pa [a] ms) (he : starEach [a] X.env = (false, eval a X.env) :: starEach [] X.env := by rfl) (hpl : (backTo pos (starEach [] X.env)).any (·.1) = false := by rfl) : Eo X W pa (.Call (.Name "list" p) [a] [] pos) (mL dList ms) :=
  ot_ call_list_of co_list hg hm (by decide +kernel) ha (by decide) (by decide) he hpl
theorem b_sorted (hu : X.A.units + 70 < cLine) (hg : Gl X "sorted") (hm : X.mg "sorted" = none) (ha : Ea X W .frz pa [a] ms) (he : starEach [a] X.env = (false, eval a X.env) :: starEach [] X.env := by rfl) (hpl : (backTo pos (starEach [] X.env)).any (·.1) = false := by rfl) : Eo X W pa (.Call (.Name "sorted" p) [a] [] pos) (mL dSorted ms) :=
  ob_ (call_sortD hu) co_sorted hg hm (by decide +kernel) ha (by decide) (by decide) he hpl
/-! isinstance of a built-in class -/
def tyD : D → String
  | .none => "NoneType"
  | .bool _ => "bool"
  | .int _ => "int"
  | .str _ => "str"
  | .list _ => "list"
  | .tuple _ => "tuple"
  | .dict _ => "dict"
def isiD (c t : String) : Bool := t == c || (c == "int" && t == "bool")
theorem kit_den {pins : List (Addr × Obj)} {σ : L2.St} {H : Hp} {s : Shared} (I : Inv X pins σ H s) {v : V} {d : D} {u : Value} (h : Den X.K H v d) (rv : RelV v u) :
    ∃ P : Heap → Prop, PySem.W.KitX X.K u (.type (tyD d)) P ∧ P s.heap ∧ u ≠ .builtin "__main__.__loader__#opaque" := by
  cases h with
  | non => exact kit_of I rv (.base .non)
  | bl b => exact kit_of I rv (.base (.bl b))
  | int i => exact kit_of I rv (.base (.int i))
  | str z => exact kit_of I rv (.base (.str z))
  | lst s l =>
    rcases s with (s | ⟨o, s⟩) | ⟨its, n, hk, _⟩
    · exact kit_of I rv (.base (.lst s))
    · exact kit_of I rv (.base (.frz s))
    · cases rv
      exact ⟨_, PySem.W.kitx_list, ⟨_, I.kIn _ _ hk, rfl⟩, fun z => nomatch z⟩
  | tup s l =>
    exact kit_of I rv (.base (.tup s))
  | dk s l =>
    rcases s with s | ⟨o, s⟩
    · exact kit_of I rv (.base (.dK s))
    · exact kit_of I rv (.fDict s)
  | @dt a ks kvs sd l _ =>
    rcases sd with sd | ⟨o, sd⟩
    · exact kit_of I rv (.base (.dT sd))
    · cases (show u = Value.ref a from rv)
      obtain ⟨_, _, _, xs, _, o, es, ep, h1, h2, _⟩ := (show ObjOk X.prog X.w H s.heap a (.frz o (.dT ks)) from I.hok a _ sd)
      exact ⟨_, PySem.W.kitx_dict, ⟨o, h1, h2.1⟩, fun z => nomatch z⟩
theorem call_isiD : CallR X (.builtin "isinstance") (fun xs H Q => ∃ x d c b, xs = [x, .ty c] ∧ Den X.K H x d ∧ kitB (tyD d) c = some b ∧ Q (.bl b) H) := by
  intro pins s σ H xs us Q I r h
  obtain ⟨x, d, c, b, rfl, dx, e, q⟩ := h
  obtain ⟨u1, u2, rfl, r1, r2⟩ := vals2 r
  cases (show u2 = Value.type c from r2)
  obtain ⟨P, Z, pp, hx⟩ := kit_den I dx r1
  exact PySem.W.kia_one Z I.kIn pp (kit_ty e) hx fun tk => ⟨.bl b, H, I.tok tk, rfl, q⟩
def KitOk (c : String) : Prop := ∀ d : D, kitB (tyD d) c = some (isiD c (tyD d))
theorem kit_types {c : String} (h : (["NoneType", "bool", "int", "str", "list", "tuple", "dict"].all fun t => kitB t c == some (isiD c t)) = true) : KitOk c := fun d => by
  simp only [List.all_cons, List.all_nil, Bool.and_true, Bool.and_eq_true, beq_iff_eq] at h
  obtain ⟨h1, h2, h3, h4, h5, h6, h7⟩ := h
  cases d <;> assumption
theorem kit_int : KitOk "int" := kit_types (by decide +kernel)
theorem kit_bool : KitOk "bool" := kit_types (by decide +kernel)
theorem kit_str : KitOk "str" := kit_types (by decide +kernel)
theorem kit_tuple : KitOk "tuple" := kit_types (by decide +kernel)
theorem kit_dict : KitOk "dict" := kit_types (by decide +kernel)
def dIsi (c : String) (d : D) : Option D := some (.bool (isiD c (tyD d)))
theorem b_isi {c : String} {y : Str} {pb : Pos} (kt : KitOk c) (hg : Gl X "isinstance") (hm : X.mg "isinstance" = none) (hy : PE X (.Name y pb) (tC (.ty c))) (ha : Ex X W md pa a ma) (he : starEach [a, .Name y pb] X.env = (false, eval a X.env) :: starEach [.Name y pb] X.env := by rfl)
    (he2 : starEach [.Name y pb] X.env = (false, eval (.Name y pb) X.env) :: starEach [] X.env := by rfl) (hpl : (backTo pos (starEach [.Name y pb] X.env)).any (·.1) = false := by rfl) : Ex X W .frz pa (.Call (.Name "isinstance" p) [a, .Name y pb] [] pos) (m1 (dIsi c) ma) := by
  obtain ⟨ta, pA, kA⟩ := ha
  refine ⟨_, pe_callB call_isiD hg hm PyProof.Rows.boot_isinstance (pa_cons pA (pa_cons hy pa_nil he2) he) (by decide) (by decide) he hpl, fun G H σ env Fp Q S h => ?_⟩
  refine kA G H σ env Fp _ S (Post.bind (pu1 := pa) (pu2 := true) (by rw [Bool.and_true]; exact h) vrd_nil fun d env1 v G1 H1 Fp1 st1 S1 q w h1 => ?_)
  obtain ⟨d', e1, k⟩ := h1.lift0 S1
  cases e1
  exact ⟨v, d, c, _, rfl, w.den S1.le, kt d, k _ G1 H1 (Grow.refl S1.le) ⟨rfl, .bl _⟩⟩
theorem n_ty {y : Str} {c : String} (hg : Gl X y) (hm : X.mg y = none) (hv : bootBuiltins y = some (.type c)) (hn : y ≠ "__name__" := by decide) (hd : (y == ("__debug__" : Str)) = false := by decide) : PE X (.Name y pos) (tC (.ty c)) := pe_bltn hg hm hv rfl hn hd
end
end DL
/-! The data layer, part M: lists: +, slices, methods that change a local list, items stored. -/
namespace DL
open PySem L2 PyProof.Rows
/-! ### list + list, list * int -/
theorem at_sqX {X : Cx} {pins : List (Addr × Obj)} {σ : L2.St} {H : Hp} {s : Shared} {l : Addr} {xs : List V} (I : Inv X pins σ H s) (h : SqX X.K H l xs) : ∃ (its : List Value) (n : Nat), Vals xs its ∧ xs.length = its.length ∧ s.heap.get? l = some { cls := .type "list", data := .seq its.toArray n } := by
  rcases h with h | ⟨its, n, e, _, r⟩
  · obtain ⟨_, its, n, r, e⟩ := (show ObjOk X.prog X.w H s.heap l (.lst xs) from h.ok I.hok)
    exact ⟨its, n, r, r.length, e⟩
  · exact ⟨its, n, r, r.length, I.kIn _ _ e⟩
def rCatR (K : Frg) : R2 := fun x y H Q => ∃ l b xs zs, x = .ref l ∧ y = .ref b ∧ SqX K H l xs ∧ SqX K H b zs ∧ xs.length + zs.length ≤ sizeLine ∧ ∀ p, H p = none → Q (.ref p) (upd H p (.lst (xs ++ zs)))
theorem op_catR {X : Cx} : OpR X (binaryOp .Add) (rCatR X.K) := by
  intro pins s σ H x y v u Q I rx ry h
  obtain ⟨l, b, xs, zs, rfl, rfl, hl, hb, hz, q⟩ := h
  cases rx
  cases ry
  obtain ⟨its, n, r, e1, g1⟩ := at_sqX I hl
  obtain ⟨its2, n2, r2, e2, g2⟩ := at_sqX I hb
  refine PySem.P.add_list g1 g2 ?_ (by rw [List.size_toArray, List.size_toArray]; omega)
  rw [show its.toArray ++ its2.toArray = (its ++ its2).toArray by simp]
  exact ⟨.ref _, _, I.lnew (t' := s.toks) (r.append r2) (by rw [List.length_append]; omega), rfl, q _ I.fresh⟩
theorem oo_cat {K : Frg} : OpO K (rCatR K) dCatL := fun G H x y d1 d2 t Q gl e1 e2 e k => by
  unfold dCatL at e
  split at e
  · split at e
    · cases e
      obtain ⟨a, xs, rfl, s1, l1⟩ := e1.of_lst
      obtain ⟨b, ys, rfl, s2, l2⟩ := e2.of_lst
      exact ⟨a, b, xs, ys, rfl, rfl, gl.sqX s1, gl.sqX s2, by rw [l1.length, l2.length]; assumption, fun p hp => new_list gl hp (l1.append l2) k⟩
    · cases e
  · cases e
/-! ### slices -/
def cutD (ds : List D) (lo hi : Option Int) : List D := (ds.drop (HT.sIx ds.length 0 lo)).take (HT.sIx ds.length ds.length hi - HT.sIx ds.length 0 lo)
theorem DenL.cut {K : Frg} {G : Hp} {vs : List V} {ds : List D} (l : DenL K G vs ds) (lo hi : Option Int) : DenL K G (cutV vs lo hi) (cutD ds lo hi) := by
  unfold cutV cutD
  rw [l.length]
  exact (l.drop _).take _
def dSl (d : D) (lo hi : Option Int) : Option T := match d with
  | .list ds => some (.ol ((cutD ds lo hi).map T.fz))
  | .tuple ds => some (.fz (.tuple (cutD ds lo hi)))
  | .str z => if z.length ≤ sizeLine then some (.fz (.str (cutS z lo hi))) else none
  | _ => none
/-- a bound of a slice -/
def Eb (X : Cx) (W : WX) (e : Option Expr) (m : M (Option Int)) : Prop := ∃ to : TO, PO X e to ∧ ∀ G H σ env Fp Q, Sta X.K G H σ env Fp → Post X.K X.mg W (fun _ _ b a Fr => Fr = [] ∧ b = a) true σ G H Fp env Q (m env) → to σ H Q
def mBd (m : M D) : M (Option Int) := m.bind fun d => match d with
  | .int i => M.pure (some i)
  | _ => fun _ => .bad
section
variable {X : Cx} {W : WX} {fx : List Nat} {md : Md} {pu pa pb pc : Bool} {e a b c tg iter elt : Expr} {lo hi : Option Expr} {es : List Expr} {m ma mb : M D} {ml mh : M (Option Int)} {mts : M (List T)} {p pos p2 : Pos} {mt : M T}
theorem eb_none : Eb X W none (M.pure none) := ⟨_, po_none, fun G H σ env Fp Q S h => post_pure h S ⟨rfl, rfl⟩⟩
theorem eb_some (h : Ex X W md true e m) : Eb X W (some e) (mBd m) := by
  obtain ⟨te, p, k⟩ := h
  refine ⟨_, po_some p, fun G H σ env Fp Q S h => ?_⟩
  unfold mBd at h
  refine k G H σ env Fp _ S (Post.bind (pu1 := true) (pu2 := true) h vrd_nil fun d env1 v G1 H1 Fp1 st S1 q w h1 => ?_)
  cases d with
  | int i => exact ⟨i, (vrd_gr.mp w).2.of_int, post_pure h1 S1 ⟨rfl, rfl⟩⟩
  | _ => exact h1.elim
theorem rel_sl {K : Frg} {G H : Hp} {v : V} {d : D} {lo hi : Option Int} {t : T} {Q : VK} (gl : GLe G H) (dv : Den K G v d) (e : dSl d lo hi = some t)
    (k : ∀ v G' H' F, Grow G H G' H' → Own K G' H' v t F → F.Nodup → (∀ a ∈ F, G' a = none ∧ H a = none) → Q v H') :
    rSlL K v lo hi H Q ∨ L2.rSlA K v lo hi H Q ∨ L2.rSlS v lo hi H Q := by
  unfold dSl at e
  split at e
  · cases e
    obtain ⟨a, xs, rfl, s, l⟩ := dv.of_lst
    exact .inl ⟨a, xs, rfl, (gl.sqX s).l, fun p hp => new_list gl hp (l.cut lo hi) k⟩
  · rename_i ds
    cases e
    obtain ⟨a, xs, rfl, s, l⟩ := dv.of_tup
    refine .inr (.inl ⟨a, xs, rfl, gl.sqT s, fun z => ?_, fun _ p hp => ?_⟩)
    · have ez : cutD ds lo hi = ds := by
        unfold cutD
        rw [← l.length, z.1, z.2, List.drop_zero, Nat.sub_zero, l.length, List.take_length]
      exact k _ G H [] (Grow.refl gl) (.fz (.tup s (by rw [ez]; exact l))) List.nodup_nil (fun _ m => absurd m (by simp))
    · exact new_tup gl hp (l.cut lo hi) fun v G' H' w dv => k v G' H' [] w (.fz dv) List.nodup_nil (fun _ m => absurd m (by simp))
  · split at e
    · cases e
      exact .inr (.inr ⟨_, dv.of_str, by assumption, k _ G H [] (Grow.refl gl) (.fz (.str _)) List.nodup_nil (fun _ m => absurd m (by simp))⟩)
    · cases e
  · cases e
def mSl (ma : M D) (ml mh : M (Option Int)) : M T := ma.bind fun d => ml.bind fun l => mh.bind fun h => M.lift (dSl d l h)
theorem grow_nodup {K : Frg} {G H G' H' : Hp} {σ : L2.St} {env : Env} {Fp F : List Addr} (S : Sta K G H σ env Fp) (w : Grow G H G' H') (nd : F.Nodup) (n : ∀ a ∈ F, G' a = none ∧ H a = none) : (F ++ Fp).Nodup ∧ Step G H Fp G' H' (F ++ Fp) :=
  ⟨List.nodup_append.mpr ⟨nd, S.nd, fun a ma b mb z => by
    subst z
    have bx := S.sl.boxes a mb
    rw [(n a ma).2] at bx
    exact bx⟩, fun a u z _ => w.same a u z, w.sub, (w.step (Fp := Fp)).frG, fun a m => (List.mem_append.mp m).elim (fun z => .inl (n a z).2) .inr⟩
theorem o_slice (ha : Ex X W .frz pa a ma) (hl : Eb X W lo ml) (hh : Eb X W hi mh) : Eo X W pa (.Subscript a (.Slice lo hi none p2) pos) (mSl ma ml mh) := by
  obtain ⟨ta, p1, k1⟩ := ha
  obtain ⟨tl, p2, k2⟩ := hl
  obtain ⟨th, p3, k3⟩ := hh
  refine ⟨_, pe_slice (sl_list.or (sl_tupA.or sl_str)) p1 p2 p3, fun G H σ env Fp Q S h => ?_⟩
  unfold mSl at h
  refine k1 G H σ env Fp _ S (Post.bind (pu1 := pa) (pu2 := true) (by rw [Bool.and_true]; exact h) vrd_nil fun d env1 v G1 H1 Fp1 st S1 q w h1 => ?_)
  refine k2 G1 H1 σ env1 Fp1 _ S1 (Post.bind (pu1 := true) (pu2 := true) h1 (fun _ _ _ _ _ h => h.1) fun l env2 l' G2 H2 Fp2 st2 S2 q2 w2 h2 => ?_)
  refine k3 G2 H2 σ env2 Fp2 _ S2 (Post.bind (pu1 := true) (pu2 := true) h2 (fun _ _ _ _ _ h => h.1) fun h env3 h' G3 H3 Fp3 st3 S3 q3 w3 h3 => ?_)
  obtain ⟨_, rfl⟩ := w2
  obtain ⟨_, rfl⟩ := w3
  obtain ⟨t, e, kk⟩ := h3.lift S3
  refine rel_sl S3.le (w.2.up (same_gle (st2.sub.trans st3.sub))) e fun u G4 H4 F w4 o nd n => ?_
  obtain ⟨n1, n2⟩ := grow_nodup S3 w4 nd n
  exact kk u G4 H4 F w4 n2 n1 (fun a m => (n a m).1) o
theorem o_addL (ha : Ex X W .frz pa a ma) (hb : Ex X W .frz pb b mb) : Eo X W (pa && pb) (.BinOp a .Add b pos) (m2 dCatL ma mb) := eo2 (fun ta tb p q => pe_op op_catR p q) oo_cat ha hb
/-! ### methods that change the list or dict in a slot -/
def MeS (K : Frg) (r : V → List V → Hp → VK → Prop) (g : T → List T → Option (T × T)) : Prop := ∀ G H v t F0 vs ts Fr t' rt Q, GLe G H → Own K G H v t F0 → OwnL K G H vs ts Fr → (F0 ++ Fr).Nodup → (∀ a ∈ F0 ++ Fr, G a = none) → g t ts = some (t', rt) →
  (∀ u H' F' Fres, (∀ b, b ∉ F0 → H' b = H b) → Own K G H' v t' F' → Own K G H' u rt Fres → (Fres ++ F').Nodup → (∀ a ∈ Fres ++ F', a ∈ F0 ++ Fr) → Q u H') → r v vs H Q
def boxy (k : String) (t : T) : Bool := match t with
  | .ol _ => k == "list"
  | .od _ => k == "dict"
  | _ => false
def mBox (k : String) (i : Nat) : M Unit := fun env => match env[i]? with
  | some (some t) => if boxy k t = true then .ok () env else .bad
  | _ => .bad
def mMeth (k : String) (i : Nat) (g : T → List T → Option (T × T)) (ms : M (List T)) : M T := (mBox k i).bind fun _ => ms.bind fun ts env => match env[i]? with
  | some (some t) => match g t ts with
    | some (t', r) => .ok r (env.set i (some t'))
    | none => .bad
  | _ => .bad
theorem boxy_ty {K : Frg} {G H : Hp} {v : V} {t : T} {F : List Addr} {k : String} (o : Own K G H v t F) (h : boxy k t = true) : tyV K k v H := by
  cases o with
  | fz _ => cases h
  | ot _ _ => cases h
  | ol e _ => exact .inl ⟨by simpa [boxy] using h, _, .inl (.inl e)⟩
  | odk e _ => exact .inr (.inr (.inl ⟨by simpa [boxy] using h, .inl ⟨_, e⟩⟩))
  | odt e _ _ => exact .inr (.inr (.inl ⟨by simpa [boxy] using h, .inr ⟨_, e⟩⟩))
theorem meth_end {r : V → List V → Hp → VK → Prop} {g : T → List T → Option (T × T)} (hr : MeS X.K r g) {i : Nat} {σ : L2.St} {G H G1 H1 : Hp} {Fp Fp1 Fr : List Addr} {env env1 : Env} {v : V} {vs : List V} {ts : List T} {Q : VK} (hv : σ[i]? = some (some v))
    (st1 : Step G H Fp G1 H1 (Fr ++ Fp1)) (S1 : Sta X.K G1 H1 σ env1 Fp1) (nd1 : (Fr ++ Fp1).Nodup) (ap1 : ∀ a ∈ Fr, G1 a = none) (o1 : OwnL X.K G1 H1 vs ts Fr)
    (h1 : Post X.K X.mg W (VrT X.K) false σ G H Fp env Q (match env1[i]? with
      | some (some t) => match g t ts with
        | some (t', r) => .ok r (env1.set i (some t'))
        | none => .bad
      | _ => .bad)) : r v vs H1 Q := by
  cases q : env1[i]? with
  | none => rw [q] at h1; exact h1.elim
  | some o =>
    cases o with
    | none => rw [q] at h1; exact h1.elim
    | some t =>
      rw [q] at h1
      dsimp only at h1
      cases qg : g t ts with
      | none => rw [qg] at h1; exact h1.elim
      | some tr =>
        obtain ⟨t', rt⟩ := tr
        rw [qg] at h1
        dsimp only at h1
        obtain ⟨v', F0, F', e2, own, rest, in0, inR, ndR⟩ := S1.sl.take q
        rw [hv] at e2
        cases e2
        have nd0 := List.nodup_append.mp (ndR S1.nd)
        have ndA := List.nodup_append.mp nd1
        refine hr G1 H1 v t F0 vs ts Fr t' rt Q S1.le own o1 (List.nodup_append.mpr ⟨nd0.1, ndA.1, fun a ma b mb z => ndA.2.2 b mb a (in0 a ma) z.symm⟩) (fun a m => (List.mem_append.mp m).elim (fun z => S1.ap a (in0 a z)) (ap1 a)) qg fun u H2 F2 Fres ch o2 or nd2 sub2 => ?_
        have rest2 := rest.stay (H' := H2) (GLe.refl _) fun a m => ch a fun z => nd0.2.2 a z a m rfl
        obtain ⟨F3, s3, k3, n3⟩ := rest2.back o2 hv
        rw [List.set_set] at s3
        have ndB := List.nodup_append.mp nd2
        have dj : ∀ a, a ∈ F0 ++ Fr → a ∉ F' := fun a m z => by
          rcases List.mem_append.mp m with m | m
          · exact nd0.2.2 a m a z rfl
          · exact ndA.2.2 a m a (inR a z) rfl
        have n3' : F3.Nodup := n3 (List.nodup_append.mpr ⟨ndB.2.1, nd0.2.1, fun a ma b mb z => dj a (sub2 a (List.mem_append_right _ ma)) (z ▸ mb)⟩)
        have inAll : ∀ a, a ∈ F0 ++ Fr → a ∈ Fr ++ Fp1 := fun a m => (List.mem_append.mp m).elim (fun z => List.mem_append_right _ (in0 a z)) (List.mem_append_left _)
        have apAll : ∀ a, a ∈ F0 ++ Fr → G1 a = none := fun a m => (List.mem_append.mp m).elim (fun z => S1.ap a (in0 a z)) (ap1 a)
        have gl2 : GLe G1 H2 := fun a o e => by
          have z : a ∉ F0 := fun m => by rw [S1.ap a (in0 a m)] at e; cases e
          rw [ch a z]
          exact S1.le a o e
        refine h1 u G1 H2 F3 Fres (st1.trans ⟨fun a o e n => by rw [ch a fun z => n (inAll a (List.mem_append_left _ z))]; exact e, Same.refl _, fun _ h => .inl h, fun a m => .inr ?_⟩) ⟨gl2, s3, n3', fun a m => ?_⟩ (List.nodup_append.mpr ⟨ndB.1, n3', fun a ma b mb z => ?_⟩) (fun a m => apAll a (sub2 a (List.mem_append_left _ m))) (fun z => nomatch z) or
        · rcases List.mem_append.mp m with m | m
          · exact inAll a (sub2 a (List.mem_append_left _ m))
          · rcases k3 a m with z | z
            · exact inAll a (sub2 a (List.mem_append_right _ z))
            · exact List.mem_append_right _ (inR a z)
        · rcases k3 a m with z | z
          · exact apAll a (sub2 a (List.mem_append_right _ z))
          · exact S1.ap a (inR a z)
        · subst z
          rcases k3 a mb with z | z
          · exact ndB.2.2 a ma a z rfl
          · exact dj a (sub2 a (List.mem_append_left _ ma)) z
theorem mBox_ok {k : String} {i : Nat} {α β : Type} {Vr : Hp → Hp → β → α → List Addr → Prop} {f : M α} {σ : L2.St} {G H : Hp} {Fp : List Addr} {env : Env} {Q : β → Hp → Prop} (S : Sta X.K G H σ env Fp) (h : Post X.K X.mg W Vr pu σ G H Fp env Q (((mBox k i).bind fun _ => f) env)) :
    (∃ v, σ[i]? = some (some v) ∧ tyV X.K k v H) ∧ Post X.K X.mg W Vr pu σ G H Fp env Q (f env) := by
  unfold M.bind mBox at h
  cases q : env[i]? with
  | none => rw [q] at h; exact h.elim
  | some o =>
    cases o with
    | none => rw [q] at h; exact h.elim
    | some t =>
      rw [q] at h
      dsimp only at h
      by_cases hb : boxy k t = true
      · rw [if_pos hb] at h
        obtain ⟨v, F0, e2, o, _⟩ := S.sl.at q
        exact ⟨⟨v, e2, boxy_ty o hb⟩, h⟩
      · rw [if_neg hb] at h
        exact h.elim
theorem o_meth {i : Nat} {k id : String} {name : Str} {o : Expr} {apos : Pos} {r : V → List V → Hp → VK → Prop} {g : T → List T → Option (T × T)} (pl : PlainAttrs k) (slot : Slot k name id) (hty : typeOf (.builtin id) = pure (.type "method_descriptor")) (hm : MtR X id r) (hr : MeS X.K r g)
    (h0 : PE X o (tVar i)) (ha : Ey X W pa (e :: es) mts) (hbase : attributeBase o name X.env (eval o X.env) = eval o X.env := by rfl)
    (hfew : ((backTo pos (starEach (e :: es) X.env)).all (fun x => !x.1) && (backToKw pos (keywordEach [] X.env)).all (fun x => x.1.isSome) && decide ((e :: es).length + ([] : List Keyword).length + (if ([] : List Keyword).isEmpty then 0 else 1) < 30)) = true := by rfl)
    (hline : (apos.endLine == pos.line) = true := by rfl) (hs : starEach (e :: es) X.env = (false, eval e X.env) :: starEach es X.env := by rfl) (hplain : (backTo pos (starEach es X.env)).any (·.1) = false := by rfl) :
    Eo X W false (.Call (.Attribute o name apos) (e :: es) [] pos) (mMeth k i g mts) := by
  obtain ⟨ta, pA, kA⟩ := ha
  refine ⟨_, pe_bm pl slot hty hm h0 pA hbase hfew hline hs hplain, fun G H σ env Fp Q S h => ?_⟩
  unfold mMeth at h
  obtain ⟨⟨v, hv, ty⟩, h⟩ := mBox_ok S h
  refine ⟨v, hv, ty, kA G H σ env Fp _ S ?_⟩
  cases r1 : mts env with
  | bad => rw [M.bind_bad r1] at h; exact h
  | exn x e' => rw [M.bind_exn r1] at h; exact h
  | ok ts env1 =>
    rw [M.bind_ok r1] at h
    exact fun vs G1 H1 Fp1 Fr st1 S1 nd1 ap1 _ o1 => meth_end hr hv st1 S1 nd1 ap1 o1 h
end
end DL
/-! The data layer, part N: the methods of lists, items stored, names that are moved or frozen. -/
namespace DL
open PySem L2 PyProof.Rows
theorem OwnL.split {K : Frg} {G H : Hp} : ∀ {vs : List V} {ts : List T} {F : List Addr} (n : Nat) {t : T}, OwnL K G H vs ts F → ts[n]? = some t →
    ∃ v F1 Fn F2, vs[n]? = some v ∧ F = F1 ++ Fn ++ F2 ∧ Own K G H v t Fn ∧ ∀ G' H' v' t' Fn', GLe G G' → (∀ a ∈ F1 ++ F2, H' a = H a) → Own K G' H' v' t' Fn' → OwnL K G' H' (vs.set n v') (ts.set n t') (F1 ++ Fn' ++ F2)
  | _, _, _, 0, t, .cons (F := Fa) (F' := Fb) h r, e => by
    cases e
    refine ⟨_, [], Fa, Fb, rfl, by simp, h, fun G' H' v' t' Fn' g k o => ?_⟩
    exact .cons o (r.stay g fun a m => k a (by simpa using m))
  | _, _, _, n + 1, t, .cons (F := Fa) (F' := Fb) h r, e => by
    obtain ⟨v, F1, Fn, F2, e1, e2, o, k⟩ := r.split n (by simpa using e)
    refine ⟨v, Fa ++ F1, Fn, F2, by simpa using e1, by rw [e2]; simp, o, fun G' H' v' t' Fn' g kk oo => ?_⟩
    have z := k G' H' v' t' Fn' g (fun a m => kk a (by
      rcases List.mem_append.mp m with m | m
      · exact List.mem_append_left _ (List.mem_append_right _ m)
      · exact List.mem_append_right _ m)) oo
    have y : Own K G' H' _ _ Fa := h.stay g fun a m => kk a (List.mem_append_left _ (List.mem_append_left _ m))
    have := OwnL.cons y z
    simpa using this
theorem OwnL.app {K : Frg} {G H : Hp} : ∀ {vs ws : List V} {ts us : List T} {F F' : List Addr}, OwnL K G H vs ts F → OwnL K G H ws us F' → OwnL K G H (vs ++ ws) (ts ++ us) (F ++ F')
  | _, _, _, _, _, _, .nil, r => r
  | _, _, _, _, _, _, .cons h t, r => by
    have := OwnL.cons h (t.app r)
    simpa using this
theorem OwnL.one {K : Frg} {G H : Hp} {vs : List V} {t : T} {F : List Addr} (h : OwnL K G H vs [t] F) : ∃ v, vs = [v] ∧ Own K G H v t F := by
  cases h with
  | cons h r =>
    cases r
    exact ⟨_, rfl, by simpa using h⟩
theorem OwnL.two {K : Frg} {G H : Hp} {vs : List V} {t u : T} {F : List Addr} (h : OwnL K G H vs [t, u] F) : ∃ v w F1 F2, vs = [v, w] ∧ F = F1 ++ F2 ∧ Own K G H v t F1 ∧ Own K G H w u F2 := by
  cases h with
  | cons h r =>
    obtain ⟨w, rfl, o⟩ := r.one
    exact ⟨_, w, _, _, rfl, rfl, h, o⟩
theorem OwnL.zero {K : Frg} {G H : Hp} {vs : List V} {F : List Addr} (h : OwnL K G H vs [] F) : vs = [] ∧ F = [] := by
  cases h
  exact ⟨rfl, rfl⟩
section
variable {K : Frg}
/-! ### the methods of a list -/
def gApp : T → List T → Option (T × T)
  | .ol ts, [t] => if ts.length < sizeLine then some (.ol (ts ++ [t]), .fz .none) else none
  | _, _ => none
def gExt : T → List T → Option (T × T)
  | .ol ts, [.fz (.list ds)] => if ts.length + ds.length ≤ sizeLine then some (.ol (ts ++ ds.map T.fz), .fz .none) else none
  | _, _ => none
def rExtR (K : Frg) : V → List V → Hp → VK → Prop := fun x vs H Q => ∃ l b xs zs, x = .ref l ∧ vs = [.ref b] ∧ H l = some (.lst xs) ∧ SqX K H b zs ∧ (l ≠ b ∨ ∃ o, K.lookup b = some o) ∧ xs.length + zs.length ≤ sizeLine ∧ Q .non (upd H l (.lst (xs ++ zs)))
theorem mt_extR {X : Cx} : MtR X "list.extend" (rExtR X.K) := by
  intro pins s σ H x vs v us Q I rx rv h
  obtain ⟨l, b, xs, zs, rfl, rfl, hH, hB, hne, hz, q⟩ := h
  cases rx
  obtain ⟨u, rfl, ru⟩ := rv.one
  cases ru
  obtain ⟨z, its, n, r, hl, e⟩ := I.lstM hH
  obtain ⟨its2, n2, r2, hl2, e2⟩ := at_sqX I hB
  have hne : l ≠ b := by
    rcases hne with z | ⟨o, e3⟩
    · exact z
    · intro z
      subst z
      have := (I.bs _ _ (I.mod.kin _ _ e3)).2
      rw [hH] at this
      cases this
  have h1 : (!its.toArray.isEmpty && Builtin.List.listTooLong (its.toArray.size + its2.toArray.size)) = false := by
    rw [notLongL (by rw [List.size_toArray, List.size_toArray]; omega), Bool.and_false]
  have h2 := AutoSeq1.list_extend_list_list_0 l its.toArray n b its2.toArray n2 (by rw [h1]; exact Bool.false_ne_true) (by rw [List.size_toArray]; omega) (by rw [List.size_toArray, List.size_toArray]; omega)
  exact call_meets F.slot_list_extend ⟨_, e, rfl⟩ F.entry_list_extend (F.args_list_extend_2 _ _) h2 ⟨e, e2, .non, _, I.lset (its' := its ++ its2) hH e (by simp) (r.append r2) (by rw [List.length_append]; exact hz), rfl, q⟩
theorem ms_ext : MeS K (rExtR K) gExt := by
  intro G H v t F0 vs us Fr t' rt Q gl o ol nd ap e k
  unfold gExt at e
  split at e
  · split at e
    · cases e
      rename_i ts ds hz
      cases o with
      | @ol a xs ts F1 hx hl =>
      obtain ⟨y, rfl, oy⟩ := ol.one
      cases oy with
      | fz dy =>
      obtain ⟨b, zs, rfl, s1, l1⟩ := dy.of_lst
      have nd1 := List.nodup_cons.mp (List.nodup_append.mp nd).1
      have keep : ∀ b, b ≠ a → upd H a (.lst (xs ++ zs)) b = H b := fun b hb => upd_ne hb
      have gn : G a = none := ap a (List.mem_append_left _ List.mem_cons_self)
      refine ⟨a, b, xs, zs, rfl, rfl, hx, gl.sqX s1, ?_, by rw [hl.len, l1.length]; exact hz, ?_⟩
      · rcases s1 with s1 | ⟨its, n, e, _⟩
        · refine .inl fun z => ?_
          subst z
          rcases s1 with q | ⟨u, q⟩
          · rw [gn] at q; cases q
          · rw [gn] at q; cases q
        · exact .inr ⟨_, e⟩
      refine k .non _ (a :: F1) [] (fun b hb => keep b fun z => hb (z ▸ List.mem_cons_self)) (.ol upd_same ?_) (.fz .non) (List.nodup_append.mp nd).1 fun b m => by simpa using m
      have q := (hl.stay (G' := G) (H' := upd H a (.lst (xs ++ zs))) (GLe.refl _) fun b m => keep b fun z => nd1.1 (z ▸ m)).app (ownL_fz l1)
      simpa using q
    · cases e
  · cases e
/-! ### x[i] = e -/
def gSetL : T → List T → Option (T × T)
  | .ol ts, [.fz (.int i), t] => match ixN ts.length i with
    | some j => some (.ol (ts.set j t), .fz .none)
    | none => none
  | _, _ => none
def rSetA (r : TSet) : V → List V → Hp → VK → Prop := fun x vs H Q => match vs with
  | [i, v] => r x i v H fun H' => Q .non H'
  | _ => False
theorem ms_setL : MeS K (rSetA rSetL) gSetL := by
  intro G H v t F0 vs us Fr t' rt Q gl o ol nd ap e k
  unfold gSetL at e
  split at e
  · rename_i ts i t0
    split at e
    · rename_i j qj
      cases e
      cases o with
      | @ol a xs ts F1 hx hl =>
      obtain ⟨iv, y, Fa, Fb, rfl, rfl, oi, oy⟩ := ol.two
      cases oi with
      | fz di =>
      cases di.of_int
      have nd1 := List.nodup_cons.mp (List.nodup_append.mp nd).1
      have keep : ∀ b, b ≠ a → upd H a (.lst (xs.set j y)) b = H b := fun b hb => upd_ne hb
      have aF : a ∉ Fb := fun z => (List.nodup_append.mp nd).2.2 a List.mem_cons_self a (List.mem_append_right _ z) rfl
      have hj : j < ts.length := (ixN_seq qj).2.1
      obtain ⟨y0, A, B, C, e1, rfl, o0, kk⟩ := hl.split j (List.getElem?_eq_getElem hj)
      refine ⟨a, xs, i, j, rfl, rfl, hx, by rw [hl.len]; exact qj, ?_⟩
      have l2 := kk G (upd H a (.lst (xs.set j y))) y t0 Fb (GLe.refl _) (fun b m => keep b fun z => nd1.1 (by
        rw [z] at m
        rcases List.mem_append.mp m with m | m
        · exact List.mem_append_left _ (List.mem_append_left _ m)
        · exact List.mem_append_right _ m)) (oy.stay (GLe.refl _) fun b m => keep b fun z => aF (z ▸ m))
      refine k .non _ (a :: (A ++ Fb ++ C)) [] (fun b hb => keep b fun z => hb (z ▸ List.mem_cons_self)) (.ol upd_same l2) (.fz .non) ?_ fun b m => ?_
      · have p : (a :: (A ++ Fb ++ C) ++ B).Perm (a :: (A ++ B ++ C) ++ ([] ++ Fb)) := by
          simp only [List.cons_append, List.append_assoc, List.nil_append]
          refine ((List.Perm.append_left A ?_)).cons a
          have q1 : (Fb ++ (C ++ B)).Perm ((C ++ B) ++ Fb) := List.perm_append_comm
          have q2 : ((C ++ B) ++ Fb).Perm ((B ++ C) ++ Fb) := List.Perm.append_right Fb List.perm_append_comm
          simpa using q1.trans q2
        exact (List.nodup_append.mp (p.symm.nodup nd)).1
      · simp at m ⊢
        rcases m with m | m | m | m
        · exact .inl m
        · exact .inr (.inl m)
        · exact .inr (.inr (.inr (.inr m)))
        · exact .inr (.inr (.inr (.inl m)))
    · cases e
  · cases e
end
section
variable {X : Cx} {W : WX} {fx : List Nat} {md : Md} {pu pa pb pc : Bool} {e a b c o : Expr} {es : List Expr} {m ma mb mk : M D} {mt : M T} {mts : M (List T)} {mc : M Bool} {pos tpos apos : Pos} {i : Nat}
def mStA (me : M T) (mk : M D) : M (List T) := me.bind fun t => mk.bind fun d => if flat d = true then M.pure [.fz d, t] else fun _ => .bad
def stQ (P : V → V → V → Hp → Prop) (v0 : V) : List V → Hp → Prop := fun vs H => match vs with
  | [iv, v] => P v0 iv v H
  | _ => False
theorem rd_stA {te ti : TE} (k1 : ∀ G H σ env Fp Q, Sta X.K G H σ env Fp → Post X.K X.mg W (VrT X.K) pa σ G H Fp env Q (mt env) → te σ H Q) (k2 : ∀ G H σ env Fp Q, Sta X.K G H σ env Fp → Post X.K X.mg W (VrD X.K .view) true σ G H Fp env Q (mk env) → ti σ H Q)
    {G H : Hp} {σ : L2.St} {env : Env} {Fp : List Addr} {P : V → V → V → Hp → Prop} {i : Nat} {v0 : V} (S : Sta X.K G H σ env Fp) (hv : σ[i]? = some (some v0)) (h : Post X.K X.mg W (VrTs X.K) false σ G H Fp env (stQ P v0) (mStA mt mk env)) :
    te σ H fun v H1 => ∃ x, σ[i]? = some (some x) ∧ ti σ H1 fun iv H2 => P x iv v H2 := by
  refine k1 G H σ env Fp _ S ?_
  unfold mStA at h
  cases r1 : mt env with
  | bad => rw [M.bind_bad r1] at h; exact h
  | exn x e' => rw [M.bind_exn r1] at h; exact h
  | ok t env1 =>
    rw [M.bind_ok r1] at h
    intro v G1 H1 Fp1 Fr st1 S1 nd1 ap1 _ o1
    refine ⟨v0, hv, k2 G1 H1 σ env1 Fp1 _ S1 ?_⟩
    cases r2 : mk env1 with
    | bad => rw [M.bind_bad r2] at h; exact h
    | exn x e' =>
      rw [M.bind_exn r2] at h
      exact fun cls dd G' H' Fp' st' S' q => h cls dd G' H' Fp' ((st1.sub_end fun a m => List.mem_append_right _ m).trans st') S' q
    | ok d env2 =>
      rw [M.bind_ok r2] at h
      intro iv G2 H2 Fp2 Fr2 st2 S2 nd2 ap2 pur w
      obtain ⟨rfl, dv⟩ := w
      obtain ⟨rfl, rfl, gw⟩ := pur rfl
      by_cases hf : flat d = true
      · rw [if_pos hf] at h
        have hold : Step G1 H1 (Fr ++ Fp2) G2 H2 (Fr ++ Fp2) := gw.step
        have own2 : Own X.K G2 H2 v t Fr := o1.stay (same_gle gw.sub) fun a m => same_box gw.same (o1.boxes a m)
        refine h [iv, v] G2 H2 Fp2 ([] ++ (Fr ++ [])) (by simpa using st1.trans hold) S2 (by simpa using nd1) (fun a m => ?_) (fun z => nomatch z) (.cons (.fz (Den.flat dv hf G2)) (.cons own2 .nil))
        have m' : a ∈ Fr := by simpa using m
        have b := o1.boxes a m'
        cases q : G2 a with
        | none => rfl
        | some u =>
          rcases gw.frG a (by rw [q]; exact fun z => nomatch z) with z | z | ⟨xs, z⟩
          · exact absurd (ap1 a m') z
          · rw [z] at b; exact b.elim
          · rw [z] at b; exact b.elim
      · rw [if_neg hf] at h
        exact h.elim
def mStore (k : String) (i : Nat) (g : T → List T → Option (T × T)) (me : M T) (mk : M D) : M Fl := mDrop (mMeth k i g (mStA me mk))
theorem s_store {k : String} {r : TSet} {g : T → List T → Option (T × T)} (hs : PSet X r) (hr : MeS X.K (rSetA r) g) (h0 : PE X o (tVar i)) (hk : Ex X W .view true c mk) (he : Eo X W pu e mt)
    (ha : ∀ v, assign (.Subscript o c tpos) X.env v = (do
      let ov ← holding [v] (eval o X.env)
      let iv ← holding [v, ov] (eval c X.env)
      standAt tpos
      holding [v, ov, iv] (setItem ov iv v)
      release [v, ov, iv] []) := by intro _; rfl)
    (hsw : swapsWithSole [.Subscript o c tpos] e pos.line X.env = pure false := by rfl) (hw : swappedStores [.Subscript o c tpos] e X.env = pure none := by rfl) (h1 : (assignEach [.Subscript o c tpos] X.env).map (·.2) = [assign (.Subscript o c tpos) X.env] := by rfl) :
    DS X W fx (.Assign [.Subscript o c tpos] e pos) (mStore k i g mt mk) := by
  obtain ⟨te, p, k1⟩ := he
  obtain ⟨ti, pi, k2⟩ := hk
  refine ⟨_, ps_asg p (pg_sub h0 pi hs ha) hsw hw h1, fun G H σ env Fp Dn S h => ?_⟩
  unfold mStore mMeth at h
  have h := SPost.expr (pu := false) (Vr := VrT X.K) (R := fun _ H' => Dn.nx σ H') h fun t env1 v G1 H1 Fp1 Fr st1 S1 nd ap o h1 => h1 σ G1 H1 Fp1 (Step.refl.sub_end fun a m => List.mem_append_right _ m) Fix.refl S1
  obtain ⟨⟨v, hv, ty⟩, h⟩ := mBox_ok S h
  refine rd_stA (P := fun x iv y H2 => r x iv y H2 fun H3 => Dn.nx σ H3) k1 k2 S hv ?_
  cases r1 : mStA mt mk env with
  | bad => rw [M.bind_bad r1] at h; exact h
  | exn x e' => rw [M.bind_exn r1] at h; exact h
  | ok ts env1 =>
    rw [M.bind_ok r1] at h
    intro vs G1 H1 Fp1 Fr st1 S1 nd1 ap1 _ o1
    have z := meth_end (Q := fun _ H' => Dn.nx σ H') hr hv st1 S1 nd1 ap1 o1 h
    unfold rSetA at z
    unfold stQ
    split at z
    · exact z
    · exact z.elim
/-! ### x[i] op= e, the item flat -/
def mGetI (i : Nat) (d : D) : M D := fun env => match env[i]?, d with
  | some (some (.ol ts)), .int k => match ixN ts.length k with
    | some j => match ts[j]? with
      | some t => .ok t.er env
      | none => .bad
    | none => .bad
  | _, _ => .bad
def mAugA (op : D → D → Option D) (i : Nat) (mk mb : M D) : M (List T) := mk.bind fun d => (mGetI i d).bind fun o => mb.bind fun y => (M.lift (op o y)).bind fun z => if flat d = true ∧ flat z = true then M.pure [.fz d, .fz z] else fun _ => .bad
def mAugL (op : D → D → Option D) (i : Nat) (mk mb : M D) : M Fl := mDrop (mMeth "list" i gSetL (mAugA op i mk mb))
def tGetL : V → V → Hp → VK → Prop := fun o i H Q => ∃ p xs k x, o = .ref p ∧ i = .int k ∧ H p = some (.lst xs) ∧ atI xs k = some x ∧ Q x H
theorem get_listL : PGet X tGetL := by
  intro pins s σ H o i ov iv Q I ro ri h
  obtain ⟨p, xs, k, x, rfl, rfl, hp, hk, q⟩ := h
  cases ro
  obtain ⟨t, rfl⟩ := ri
  obtain ⟨its, n, r, ho, hz⟩ := I.lst hp
  obtain ⟨j, h1, h2, h3, h4, h5⟩ := atI_get hk
  obtain ⟨w, ew, rw'⟩ := r.get h2
  have hl := r.length
  have hn := line63
  have il : s.heap.IsList p its.toArray := ⟨_, ho, rfl, _, rfl⟩
  by_cases h0 : 0 ≤ k
  · have hj : k.toNat = j := by
      rw [seqIndex_of h0 h5] at h1
      exact Option.some.inj h1
    exact wpAny_getItem_list il h0 (by omega) (by rw [hj]; simpa using ew) ⟨x, H, I, rw', q⟩
  · have hj : (k + (its.toArray.size : Int)).toNat = j := by
      rw [seqIndex_neg (by omega) h4] at h1
      rw [List.size_toArray, ← hl]
      exact Option.some.inj h1
    exact wpAny_getItem_list_neg il (by omega) (by rw [List.size_toArray] <;> omega) (by omega) (by rw [hj]; simpa using ew) ⟨x, H, I, rw', q⟩
def dIAdd : D → D → Option D
  | .int i, .int j => some (.int (i + j))
  | _, _ => none
def dISub : D → D → Option D
  | .int i, .int j => some (.int (i - j))
  | _, _ => none
def IpS (K : Frg) (r : TIp) (g : D → D → Option D) : Prop := ∀ H x y d1 d2 d Q, Den K H x d1 → Den K H y d2 → g d1 d2 = some d → (∀ v, Den K H v d → Q v H) → r x y H Q
theorem is_iadd {K : Frg} : IpS K (ipI fun i j => i + j) dIAdd := fun H x y d1 d2 d Q e1 e2 e k => by
  unfold dIAdd at e
  split at e
  · cases e
    exact ⟨_, _, e1.of_int, e2.of_int, k _ (.int _)⟩
  · cases e
theorem is_isub {K : Frg} : IpS K (ipI fun i j => i - j) dISub := fun H x y d1 d2 d Q e1 e2 e k => by
  unfold dISub at e
  split at e
  · cases e
    exact ⟨_, _, e1.of_int, e2.of_int, k _ (.int _)⟩
  · cases e
theorem s_augL {op : Operator} {tip : TIp} {g : D → D → Option D} (hp : PIp X op tip) (hg : IpS X.K tip g) (h0 : PE X o (tVar i)) (hk : Ex X W .view true c mk) (hb : Ex X W .view true b mb)
    (ha : ∀ ov iv new, augStore c ov iv new = (do holding [new, ov, iv] (setItem ov iv new); release [new, ov, iv] []; pure .next) := by intros; rfl) :
    DS X W fx (.AugAssign (.Subscript o c tpos) op b pos) (mAugL g i mk mb) := by
  obtain ⟨ti, pi, k2⟩ := hk
  obtain ⟨tb, pb, k3⟩ := hb
  refine ⟨_, ps_augS h0 pi get_listL pb hp set_list ha, fun G H σ env Fp Dn S h => ?_⟩
  unfold mAugL mMeth at h
  have h := SPost.expr (pu := false) (Vr := VrT X.K) (R := fun _ H' => Dn.nx σ H') h fun t env1 v G1 H1 Fp1 Fr st1 S1 nd ap o h1 => h1 σ G1 H1 Fp1 (Step.refl.sub_end fun a m => List.mem_append_right _ m) Fix.refl S1
  obtain ⟨⟨v, hv, ty⟩, h⟩ := mBox_ok S h
  refine ⟨v, hv, k2 G H σ env Fp _ S ?_⟩
  cases r1 : mk env with
  | bad => unfold mAugA at h; rw [M.bind_bad (M.bind_bad r1)] at h; exact h
  | exn x e' => unfold mAugA at h; rw [M.bind_exn (M.bind_exn r1)] at h; exact h
  | ok d env1 =>
    intro iv G1 H1 Fp1 Fr1 st1 S1 nd1 ap1 pur1 w1
    obtain ⟨rfl, dv⟩ := w1
    obtain ⟨rfl, rfl, gw1⟩ := pur1 rfl
    unfold mAugA at h
    cases r2 : mGetI i d env1 with
    | bad => rw [M.bind_bad (by rw [M.bind_ok r1]; exact M.bind_bad r2)] at h; exact h.elim
    | exn x e' =>
      unfold mGetI at r2
      repeat (first | split at r2 | cases r2)
    | ok old env2 =>
      obtain ⟨t0, ts, k, j, t, e0, rfl, rfl, hj, ht, rfl, rfl⟩ : ∃ t0 ts k j t, env1[i]? = some (some t0) ∧ t0 = T.ol ts ∧ d = .int k ∧ ixN ts.length k = some j ∧ ts[j]? = some t ∧ old = t.er ∧ env2 = env1 := by
        unfold mGetI at r2
        split at r2
        · rename_i ts k e0
          split at r2
          · split at r2
            · cases r2; exact ⟨_, _, _, _, _, e0, rfl, rfl, by assumption, by assumption, rfl, rfl⟩
            · cases r2
          · cases r2
        · cases r2
      obtain ⟨v', F0, e2, ow, _⟩ := S1.sl.at e0
      rw [hv] at e2
      cases e2
      cases ow with
      | @ol a xs ts F1 hx hl =>
      cases dv.of_int
      obtain ⟨y, A, B, C, e1, rfl, oy, _⟩ := hl.split j ht
      refine ⟨a, xs, k, y, rfl, rfl, hx, ?_, ?_⟩
      · unfold atI
        rw [hl.len, hj]
        exact e1
      · have dy : Den X.K H1 y t.er := oy.den S1.le fun _ _ => rfl
        refine k3 G1 H1 σ env2 Fp1 _ S1 ?_
        cases r3 : mb env2 with
        | bad => rw [M.bind_bad (by rw [M.bind_ok r1, M.bind_ok r2]; exact M.bind_bad r3)] at h; exact h
        | exn x e' =>
          rw [M.bind_exn (by rw [M.bind_ok r1, M.bind_ok r2]; exact M.bind_exn r3)] at h
          exact fun cls dd G' H' Fp' st' S' q => h cls dd G' H' Fp' (gw1.step.trans st') S' q
        | ok z env3 =>
          intro zv G2 H2 Fp2 Fr2 st2 S2 nd2 ap2 pur2 w2
          obtain ⟨rfl, dz⟩ := w2
          obtain ⟨rfl, rfl, gw2⟩ := pur2 rfl
          cases q4 : g t.er z with
          | none =>
            rw [M.bind_bad (by rw [M.bind_ok r1, M.bind_ok r2, M.bind_ok r3]; exact M.bind_bad (by unfold M.lift; rw [q4]))] at h
            exact h.elim
          | some u =>
            refine hg H2 y zv t.er z u _ (dy.up (same_gle gw2.same)) dz q4 fun uv du => ?_
            have r5 : (mk.bind fun d => (mGetI i d).bind fun o => mb.bind fun y => (M.lift (g o y)).bind fun z => if flat d = true ∧ flat z = true then M.pure [T.fz d, T.fz z] else fun _ => .bad) env3 = (if flat (.int k) = true ∧ flat u = true then M.pure [T.fz (.int k), T.fz u] else fun _ => .bad) env3 := by
              rw [M.bind_ok r1, M.bind_ok r2, M.bind_ok r3]
              exact M.bind_ok (by unfold M.lift; rw [q4])
            by_cases hf : flat (.int k) = true ∧ flat u = true
            · rw [if_pos hf] at r5
              rw [M.bind_ok (by rw [r5]; rfl)] at h
              have z := meth_end (Q := fun _ H' => Dn.nx σ H') (vs := [.int k, uv]) (Fr := [] ++ ([] ++ [])) ms_setL hv (by simpa using (gw1.trans gw2).step (Fp := Fp2)) S2 (by simpa using S2.nd) (by simp) (.cons (.fz (.int k)) (.cons (.fz (Den.flat du hf.2 G2)) .nil)) h
              exact z
            · rw [if_neg hf] at r5
              rw [M.bind_bad (by rw [r5])] at h
              exact h.elim
/-! ### name op= e, by data -/
def mAugN (op : D → D → Option D) (i : Nat) (mb : M D) : M Fl := fun env => match env[i]? with
  | some (some (.fz d)) => (mb.bind fun y => (M.lift (op d y)).bind fun z env => .ok .nx (env.set i (some (.fz z)))) env
  | _ => .bad
theorem s_augN {op : Operator} {tip : TIp} {g : D → D → Option D} {x : Str} {px : Pos} (hp : PIp X op tip) (hg : IpS X.K tip g) (hN : X.N.Nodup) (hi : X.N[i]? = some x) (hx : Loc X.env.scope x) (hb : Ex X W .view true b mb)
    (hfl : Flat2 g) (hf : i ∉ fx := by decide) (hl : X.fn x = true ∨ X.env.scope.names.lookup x = some .local := by first | exact .inl rfl | exact .inr rfl | assumption) : DS X W fx (.AugAssign (.Name x px) op b pos) (mAugN g i mb) := by
  obtain ⟨tb, pb, k3⟩ := hb
  refine ⟨_, ps_aug hN hi hx pb hp hl, fun G H σ env Fp Dn S h => ?_⟩
  unfold mAugN at h
  split at h
  · rename_i d e0
    obtain ⟨v, F0, e2, ow, _⟩ := S.sl.at e0
    cases ow with
    | fz dv =>
    refine ⟨v, e2, k3 G H σ env Fp _ S ?_⟩
    cases r3 : mb env with
    | bad => rw [M.bind_bad r3] at h; exact h
    | exn x e' =>
      rw [M.bind_exn r3] at h
      exact fun cls dd G' H' Fp' st' S' q => h cls dd σ G' H' Fp' st' Fix.refl S' q
    | ok z env3 =>
      intro zv G2 H2 Fp2 Fr2 st2 S2 nd2 ap2 pur2 w2
      obtain ⟨rfl, dz⟩ := w2
      obtain ⟨rfl, rfl, gw2⟩ := pur2 rfl
      rw [M.bind_ok r3] at h
      cases q4 : g d z with
      | none => rw [M.bind_bad (by unfold M.lift; rw [q4])] at h; exact h.elim
      | some u =>
        rw [M.bind_ok (a := u) (env' := env3) (by unfold M.lift; rw [q4])] at h
        refine hg H2 v zv d z u _ ((dv.up S.le).up (same_gle gw2.same)) dz q4 fun uv du => ?_
        obtain ⟨F', S', sb⟩ := S2.put (v := uv) (t := .fz u) (Fr := []) (.fz (Den.flat du (hfl _ _ _ q4) G2)) (by simpa using S2.nd) (fun _ m => absurd m (by simp)) i
        exact h (σ.set i (some uv)) G2 H2 F' (gw2.step.sub_end fun a m => by simpa using sb a m) (Fix.set hf) S'
  · exact h.elim
theorem flat_iadd : Flat2 dIAdd := fun a b d h => by
  unfold dIAdd at h
  split at h <;> cases h
  rfl
theorem flat_isub : Flat2 dISub := fun a b d h => by
  unfold dISub at h
  split at h <;> cases h
  rfl
/-! ### a name moved out, a name frozen where it stands -/
def mOut (i : Nat) : M T := fun env => match env[i]? with
  | some (some t) => .ok t (env.set i none)
  | _ => .bad
def mVarZ (i : Nat) : M D := fun env => match env[i]? with
  | some (some t) => .ok t.er (env.set i (some (.fz t.er)))
  | _ => .bad
theorem ez_name (hp : PE X e (tVar i)) : Ex X W .frz false e (mVarZ i) := by
  refine ⟨_, hp, fun G H σ env Fp Q S h => ?_⟩
  unfold mVarZ at h
  split at h
  · rename_i t e1
    obtain ⟨v, F0, F', e2, o, r, s0, s1, nd⟩ := S.sl.take e1
    have sm : Same G (frzAt G H F0) := frz_same fun a m => S.ap a (s0 a m)
    have dn : Den X.K (frzAt G H F0) v t.er := o.den (same_gle sm) fun a m => frzAt_in m
    have nds := List.nodup_append.mp (nd S.nd)
    have ap' : ∀ a ∈ F', frzAt G H F0 a = none := fun a m => by rw [frzAt_out fun z => nds.2.2 a z a m rfl]; exact S.ap a (s1 a m)
    obtain ⟨F3, s3, k3, n3⟩ := (r.stay (G' := frzAt G H F0) (H' := H) (same_gle sm) fun _ _ => rfl).back (F0 := []) (.fz dn) e2
    rw [List.set_set] at s3
    have sub : ∀ a ∈ F3, a ∈ F' := fun a m => (k3 a m).elim (fun z => absurd z (by simp)) id
    refine ⟨v, e2, h v (frzAt G H F0) H F3 [] ⟨fun _ _ h _ => h, sm, fun a z => ?_, fun a m => .inr (s1 a (sub a (by simpa using m)))⟩ ⟨frz_le S.le, s3, n3 (by simpa using nds.2.1), fun a m => ap' a (sub a m)⟩ (by simpa using n3 (by simpa using nds.2.1)) (fun a m => absurd m (by simp)) (fun z => nomatch z) ⟨rfl, dn⟩⟩
    by_cases m : a ∈ F0
    · exact .inr (.inr (.inl (s0 a m)))
    · rw [frzAt_out m] at z; exact .inl z
  · exact h.elim
/-! ### reading + and slices, of lists that may be owned -/
def dCatV (a b : D) : Option D := (dCatL a b).map T.er
theorem x_addL (ha : Ex X W md pa a ma) (hb : Ex X W md pb b mb) (hm : md = .frz ∨ pb = true := by first | exact Or.inl rfl | exact Or.inr rfl) : Ex X W md (pa && pb) (.BinOp a .Add b pos) (m2 dCatV ma mb) :=
  ex2 (fun ta tb p q => pe_op op_catR p q) (OpO.frz oo_cat) ha hb hm
def mSlV (ma : M D) (ml mh : M (Option Int)) : M D := ma.bind fun d => ml.bind fun l => mh.bind fun h => M.lift ((dSl d l h).map T.er)
theorem x_slice {lo hi : Option Expr} {ml mh : M (Option Int)} {p2 : Pos} (ha : Ex X W md pa a ma) (hl : Eb X W lo ml) (hh : Eb X W hi mh) : Ex X W md pa (.Subscript a (.Slice lo hi none p2) pos) (mSlV ma ml mh) := by
  obtain ⟨ta, p1, k1⟩ := ha
  obtain ⟨tl, p2, k2⟩ := hl
  obtain ⟨th, p3, k3⟩ := hh
  refine ⟨_, pe_slice (sl_list.or (sl_tupA.or sl_str)) p1 p2 p3, fun G H σ env Fp Q S h => ?_⟩
  unfold mSlV at h
  refine k1 G H σ env Fp _ S (Post.bind (pu1 := pa) (pu2 := true) (by rw [Bool.and_true]; exact h) vrd_nil fun d env1 v G1 H1 Fp1 st1 S1 q w h1 => ?_)
  refine k2 G1 H1 σ env1 Fp1 _ S1 (Post.bind (pu1 := true) (pu2 := true) h1 (fun _ _ _ _ _ h => h.1) fun l env2 l' G2 H2 Fp2 st2 S2 q2 w2 h2 => ?_)
  refine k3 G2 H2 σ env2 Fp2 _ S2 (Post.bind (pu1 := true) (pu2 := true) h2 (fun _ _ _ _ _ h => h.1) fun h env3 h' G3 H3 Fp3 st3 S3 q3 w3 h3 => ?_)
  obtain ⟨_, rfl⟩ := w2
  obtain ⟨_, rfl⟩ := w3
  obtain ⟨t, e, kk⟩ := h3.lift0 S3
  cases qs : dSl d l' h' with
  | none => rw [qs] at e; cases e
  | some t0 =>
  rw [qs] at e
  cases e
  have up1 := gr_stay (K := X.K) (md := md) (pb := true) (.inr rfl) st2 q2
  have up2 := gr_stay (K := X.K) (md := md) (pb := true) (.inr rfl) st3 q3
  refine rel_sl (gr_le S3.le) (((vrd_gr.mp w).2.up up1).up up2) qs fun u G4 H4 F w4 o nd n => ?_
  obtain ⟨G5, w5, d5⟩ := own_frz w4 o n
  obtain ⟨G6, w6, l6⟩ := grow_gr (K := X.K) S3.le w5
  exact kk u G6 H4 w6 (vrd_gr.mpr ⟨rfl, d5.up l6⟩)
end
end DL
/-! The data layer, part O: what every def's body is handed, lengths of arguments. -/
namespace DL
open PySem L2 PyProof.Rows
theorem GR.units {k : Nat} {A : Around} (r : GR k A) : A.units + 200 < cLine := by have := r.rm.un; omega
theorem hu7_of {k : Nat} {A : Around} (r : GR k A) : A.units + 70 < cLine := by have := r.units; omega
theorem hu4_of {k : Nat} {A : Around} (r : GR k A) : A.units + 64 < cLine := by have := r.units; omega
theorem hu5_of {k : Nat} {A : Around} (r : GR k A) : A.units + 65 < cLine := by have := r.units; omega
section
variable {P : Program} {w : World} {K : Frg} {mg : Str → Option Value} {base : Heap} {N : List Str} {qual : Str} {sc : Scope}
theorem tk_of (f : Addr) (cdv : Value) (A : Around) (outer : List PySem.Env) (s : Shared) (H : Hp) (E : XK) : Takes (cxOf (L2.CX P w) P w K mg base N qual sc f cdv A outer s H E) (fun cls d _ H => E cls d H) := takes_of rfl rfl rfl rfl
theorem ps_of (f : Addr) (cdv : Value) (A : Around) (outer : List PySem.Env) (s : Shared) (H : Hp) (E : XK) :
    let X := cxOf (L2.CX P w) P w K mg base N qual sc f cdv A outer s H E
    PassesOwn (model X.prog X.w) X.A X.env X.xe := passes_of rfl
end
theorem takes0 {X : Cx} : Takes X W0 := fun u s' ⟨_, _, _, _, _, _, _, _, _, _, _, _, _, _, _, _, w⟩ => w.elim
theorem ln_nil : ∀ env ds env', mNil env = .ok ds env' → ds.length = 0 := fun env ds env' h => by
  unfold mNil M.pure at h
  cases h
  rfl
theorem ln_cons {ma : M D} {ms : M (List D)} {n : Nat} (h : ∀ env ds env', ms env = .ok ds env' → ds.length = n) : ∀ env ds env', mCons ma ms env = .ok ds env' → ds.length = n + 1 := fun env ds env' e => by
  unfold mCons at e
  cases r : ma env with
  | bad => rw [M.bind_bad r] at e; cases e
  | exn x e' => rw [M.bind_exn r] at e; cases e
  | ok d env1 =>
    rw [M.bind_ok r] at e
    cases r2 : ms env1 with
    | bad => rw [M.bind_bad r2] at e; cases e
    | exn x e' => rw [M.bind_exn r2] at e; cases e
    | ok ds2 env2 =>
      rw [M.bind_ok r2] at e
      unfold M.pure at e
      cases e
      rw [List.length_cons, h _ _ _ r2]
theorem others_no {n i : Nat} {vs : List Nat} (h : i ∈ vs) : i ∉ others n vs := fun m => by
  have := (List.mem_filter.mp m).2
  simp [List.contains_iff_mem, h] at this
end DL
/-! The data layer, part P: repr of data, == of data that is the same. -/
namespace DL
open PySem L2 PyProof.Rows
section
variable {X : Cx} {pins : List (Addr × Obj)} {σ : L2.St} {H : Hp} {s : Shared}
/-- the value u stands for d: readable, and its text is d's -/
def Txd (P : Program) (w : World) (h : Heap) (u : Value) (d : D) : Prop := ∃ as bs, Reads h u d as ∧ ReadAtMost h d.depth bs ∧ ReprK P w bs h d.depth u d.shown
def TxdL (P : Program) (w : World) (h : Heap) (us : List Value) (ds : List D) : Prop := ∃ as bs, ReadsAll h us ds as ∧ ReadAtMost h (PyData.depthAll ds) bs ∧ ReprAllK P w bs h (PyData.depthAll ds) us (PyData.shownAll ds)
theorem txd_key {P : Program} {w : World} {h : Heap} {k : Key} {u : Value} (hk : (mixKind P w).is k u = true) (hs : (keyD k).showable = true) (hz : (keyD k).shown.length ≤ sizeLine) : Txd P w h u (keyD k) := by
  rcases keyIs_shape (show keyIs k u = true from hk) with ⟨i, t, rfl, rfl⟩ | ⟨x, t, rfl, rfl⟩
  · exact ⟨[], [], .int i t, (fun _ m => nomatch m), by show ReprK P w [] h (PyData.int i).depth _ (PyData.int i).shown; simp only [PyData.shown]; exact .of_is (ReprIs.int t (by simpa [keyD, PyData.showable] using hs)) _ _ _⟩
  · exact ⟨[], [], .str x t, (fun _ m => nomatch m), by show ReprK P w [] h (PyData.str x).depth _ (PyData.str x).shown; simp only [PyData.shown]; exact .of_is (ReprIs.str x t (by simpa only [keyD, PyData.shown] using hz)) _ _ _⟩
theorem TxdL.cons {P : Program} {w : World} {h : Heap} {u : Value} {us : List Value} {d : D} {ds : List D} (a : Txd P w h u d) (b : TxdL P w h us ds) : TxdL P w h (u :: us) (d :: ds) := by
  obtain ⟨a1, b1, r1, m1, k1⟩ := a
  obtain ⟨a2, b2, r2, m2, k2⟩ := b
  refine ⟨_, b1 ++ b2, .cons r1 r2, fun b hm => ?_, ?_⟩
  · simp only [PyData.depthAll]
    rcases List.mem_append.mp hm with hm | hm
    · obtain ⟨d', as', r', l⟩ := m1 b hm
      exact ⟨d', as', r', Nat.le_trans l (Nat.le_max_left _ _)⟩
    · obtain ⟨d', as', r', l⟩ := m2 b hm
      exact ⟨d', as', r', Nat.le_trans l (Nat.le_max_right _ _)⟩
  · simp only [PyData.depthAll, PyData.shownAll]
    exact .cons ((k1.more fun b hb => List.mem_append_left _ hb).level_le (Nat.le_max_left _ _)) (k2.more_le (fun b hb => List.mem_append_right _ hb) (Nat.le_max_right _ _))
theorem TxdL.nil {P : Program} {w : World} {h : Heap} : TxdL P w h [] [] := ⟨[], [], .nil, (fun _ m => nomatch m), by simp only [PyData.shownAll]; exact .nil⟩
theorem txd_tup {P : Program} {w : World} {h : Heap} {a : Addr} {o : Obj} {its : Array Value} {n : Nat} {ds : List D} (h1 : h.get? a = some o) (h2 : o.cls = .type "tuple") (h3 : o.data = .seq its n) (l : TxdL P w h its.toList ds) : Txd P w h (.ref a) (.tuple ds) := by
  obtain ⟨as, bs, r, m, k⟩ := l
  have r0 : Reads h (.ref a) (.tuple ds) _ := .tuple h1 h2 h3 r
  refine ⟨_, a :: bs, r0, ReadAtMost.cons r0 (by simp only [PyData.depth]; omega) m, ?_⟩
  simp only [PyData.depth, PyData.shown]
  exact ReprK.tuple h1 h2 h3 (not_mem_of_deeper r0 (by simp only [PyData.depth]; omega) m) k
theorem txd_lst {P : Program} {w : World} {h : Heap} {a : Addr} {o : Obj} {its : List Value} {n : Nat} {ds : List D} (h1 : h.get? a = some o) (h2 : o.cls = .type "list") (h3 : o.data = .seq its.toArray n) (l : TxdL P w h its ds) : Txd P w h (.ref a) (.list ds) := by
  obtain ⟨as, bs, r, m, k⟩ := l
  have r0 : Reads h (.ref a) (.list ds) _ := .list h1 h2 h3 r
  refine ⟨_, a :: bs, r0, ReadAtMost.cons r0 (by simp only [PyData.depth]; omega) m, ?_⟩
  simp only [PyData.depth, PyData.shown]
  cases its with
  | nil =>
    cases r
    simp only [PyData.shownAll, listText_nil]
    exact ReprK.listEmpty h1 h2 h3
  | cons x l => exact ReprK.list h1 h2 h3 (not_mem_of_deeper r0 (by simp only [PyData.depth]; omega) m) (by simpa using k.length_eq) fun i y e => k.item i y (by simpa using e)
theorem txd_dict {P : Program} {w : World} {h : Heap} {a : Addr} {o : Obj} {es : Array DictEntry} {n : Nat} {kvs : List (D × D)} (h1 : h.get? a = some o) (h2 : o.cls = .type "dict") (h3 : o.data = .dict es n) (hsys : (a == sysModules) = false)
    (lk : TxdL P w h (es.toList.map (·.key)) (kvs.map (·.1))) (lv : TxdL P w h (es.toList.map (·.val)) (kvs.map (·.2))) : Txd P w h (.ref a) (.dict kvs) := by
  obtain ⟨a1, b1, r1, m1, k1⟩ := lk
  obtain ⟨a2, b2, r2, m2, k2⟩ := lv
  have r0 : Reads h (.ref a) (.dict kvs) _ := .dict h1 h2 h3 r1 r2
  have hb : ReadAtMost h (PyData.depthKv kvs) (b1 ++ b2) := (m1.mono (PyData.depthAll_keys_le kvs)).append (m2.mono (PyData.depthAll_vals_le kvs))
  refine ⟨_, a :: (b1 ++ b2), r0, ReadAtMost.cons r0 (by simp only [PyData.depth]; omega) hb, ?_⟩
  simp only [PyData.depth, PyData.shown, PyData.shownKv_eq]
  exact ReprK.dict h1 h2 h3 hsys (not_mem_of_deeper r0 (by simp only [PyData.depth]; omega) hb) (ReprEntriesK.of_two es.toList _ _ (k1.more_le (fun b hb => List.mem_append_left _ hb) (PyData.depthAll_keys_le kvs)) (k2.more_le (fun b hb => List.mem_append_right _ hb) (PyData.depthAll_vals_le kvs)))
/-- what may be shown -/
def shw (d : D) : Prop := d.showable = true ∧ d.shown.length ≤ sizeLine
theorem shwL_all {ds : List D} : PyData.showableAll ds = true → (∀ t ∈ PyData.shownAll ds, t.length ≤ sizeLine) → ∀ d ∈ ds, shw d := fun h z => by
  induction ds with
  | nil => intro d m; exact absurd m (by simp)
  | cons x r ih =>
    simp only [PyData.showableAll, Bool.and_eq_true] at h
    simp only [PyData.shownAll, List.mem_cons, forall_eq_or_imp] at z
    intro d m
    rcases List.mem_cons.mp m with e | m
    · subst e; exact ⟨h.1, z.1⟩
    · exact ih h.2 z.2 d m
theorem shw_lst {ds : List D} (h : shw (.list ds)) : ∀ d ∈ ds, shw d := shwL_all (by simpa [PyData.showable] using h.1) fun t m => Nat.le_trans (listText_mem_le m) (by simpa only [PyData.shown] using h.2)
theorem shw_tup {ds : List D} (h : shw (.tuple ds)) : ∀ d ∈ ds, shw d := shwL_all (by simpa [PyData.showable] using h.1) fun t m => Nat.le_trans (tupleText_mem_le m) (by simpa only [PyData.shown] using h.2)
theorem shw_dict {kvs : List (D × D)} (h : shw (.dict kvs)) : (∀ d ∈ kvs.map (·.1), shw d) ∧ ∀ d ∈ kvs.map (·.2), shw d := by
  obtain ⟨h1, h2⟩ := PyData.showableKv_split kvs (by simpa [PyData.showable] using h.1)
  have hz : (dictText (PyData.shownKv kvs)).length ≤ sizeLine := by simpa only [PyData.shown] using h.2
  exact ⟨shwL_all h1 fun t ht => let ⟨p, hp, hl⟩ := PyData.shownKv_key_le kvs t ht; Nat.le_trans hl (Nat.le_trans (dictText_mem_le hp) hz), shwL_all h2 fun t ht => let ⟨p, hp, hl⟩ := PyData.shownKv_val_le kvs t ht; Nat.le_trans hl (Nat.le_trans (dictText_mem_le hp) hz)⟩
theorem txd_items {P : Program} {w : World} {h : Heap} : ∀ {ks : List Key} {us : List Value}, ItemsAre (mixKind P w) ks us → (∀ d ∈ ks.map keyD, shw d) → TxdL P w h us (ks.map keyD)
  | _, _, .nil, _ => .nil
  | _, _, .cons a r, hs => .cons (txd_key a (hs _ (by simp)).1 (hs _ (by simp)).2) (txd_items r fun d m => hs d (List.mem_cons_of_mem _ m))
theorem denK_keys {K : Frg} {G : Hp} : ∀ {ks : List (Key × V)} {kvs : List (D × D)}, DenK K G ks kvs → kvs.map (·.1) = ks.map fun p => keyD p.1
  | _, _, .nil => rfl
  | _, _, .cons _ t => by simp [denK_keys t]
theorem denT_keys {K : Frg} {G : Hp} : ∀ {ks : List (List Key × V)} {kvs : List (D × D)}, DenT K G ks kvs → kvs.map (·.1) = ks.map fun p => .tuple (p.1.map keyD)
  | _, _, .nil => rfl
  | _, _, .cons _ t => by simp [denT_keys t]
mutual
theorem Den.txd (I : Inv X pins σ H s) : ∀ {v : V} {d : D}, Den X.K H v d → ∀ {u : Value}, RelV v u → shw d → Txd X.prog X.w s.heap u d
  | _, _, .non, u, r, hs => by
    cases r
    exact ⟨[], [], .none, (fun _ m => nomatch m), by simp only [PyData.shown]; exact .of_is ReprIs.none _ _ _⟩
  | _, _, .bl b, u, r, hs => by
    cases r
    exact ⟨[], [], .bool b, (fun _ m => nomatch m), by simp only [PyData.shown]; exact .of_is (ReprIs.bool b) _ _ _⟩
  | _, _, .int i, u, r, hs => by
    obtain ⟨t, rfl⟩ := r
    exact ⟨[], [], .int i t, (fun _ m => nomatch m), by simp only [PyData.shown]; exact .of_is (ReprIs.int t (by simpa [PyData.showable] using hs.1)) _ _ _⟩
  | _, _, .str x, u, r, hs => by
    obtain ⟨t, rfl⟩ := r
    exact ⟨[], [], .str x t, (fun _ m => nomatch m), by simp only [PyData.shown]; exact .of_is (ReprIs.str x t (by simpa only [PyData.shown] using hs.2)) _ _ _⟩
  | _, _, .lst s1 l, u, r, hs => by
    cases r
    obtain ⟨its, rv, ⟨o, n, ho, hc, _, hd⟩, _⟩ := I.list s1.l
    exact txd_lst ho hc hd (l.txd I rv (shw_lst hs))
  | _, _, .tup s1 l, u, r, hs => by
    cases r
    obtain ⟨its, rv, ⟨o, ho, hc, n, hd⟩, _⟩ := I.tuple s1.t
    exact txd_tup ho hc hd (by simpa using l.txd I rv (shw_tup hs))
  | _, _, .dk s1 l, u, r, hs => by
    cases r
    obtain ⟨_, hsys, vs, rel, o, es, ep, ho, hc, hd, _, pr, _⟩ := dk_rd I.hok s1
    obtain ⟨hk, hv⟩ := shw_dict hs
    obtain ⟨a, b⟩ := l.txd I rel pr hk hv
    exact txd_dict ho hc.1 hd hsys a b
  | _, _, .dt s1 l _, u, r, hs => by
    cases r
    obtain ⟨_, hsys, xs, rel, o, es, ep, ho, hc, hd, he, hi, _⟩ := dt_rd I.hok s1
    obtain ⟨hk, hv⟩ := shw_dict hs
    obtain ⟨a, b⟩ := l.txd I rel hi hk hv
    refine txd_dict ho hc.1 hd hsys ?_ ?_
    · rw [he, List.map_map]; exact a
    · rw [he, List.map_map]; exact b
theorem DenL.txd (I : Inv X pins σ H s) : ∀ {vs : List V} {ds : List D}, DenL X.K H vs ds → ∀ {us : List Value}, Vals vs us → (∀ d ∈ ds, shw d) → TxdL X.prog X.w s.heap us ds
  | _, _, .nil, us, r, hs => by cases r; exact .nil
  | _, _, .cons h t, us, r, hs => by
    cases r with
    | cons a b => exact .cons (h.txd I a (hs _ List.mem_cons_self)) (t.txd I b fun d m => hs d (List.mem_cons_of_mem _ m))
theorem DenK.txd (I : Inv X pins σ H s) : ∀ {ks : List (Key × V)} {kvs : List (D × D)}, DenK X.K H ks kvs → ∀ {vs : List (Key × Value)} {es : List DictEntry}, KV ks vs → Pairs (mixKind X.prog X.w) es vs → (∀ d ∈ kvs.map (·.1), shw d) → (∀ d ∈ kvs.map (·.2), shw d) →
    TxdL X.prog X.w s.heap (es.map (·.key)) (kvs.map (·.1)) ∧ TxdL X.prog X.w s.heap (es.map (·.val)) (kvs.map (·.2))
  | _, _, .nil, vs, es, rel, pr, hk, hv => by
    cases rel
    cases pr
    exact ⟨.nil, .nil⟩
  | _, _, .cons h t, vs, es, rel, pr, hk, hv => by
    cases rel with
    | cons a b =>
      cases pr with
      | cons p1 p2 pr =>
        obtain ⟨z1, z2⟩ := t.txd I b pr (fun d m => hk d (List.mem_cons_of_mem _ m)) fun d m => hv d (List.mem_cons_of_mem _ m)
        have k1 := hk _ List.mem_cons_self
        exact ⟨.cons (txd_key (by have z := p1; rw [← a.1] at z; exact z) k1.1 k1.2) z1, .cons (h.txd I (by have z := a.2; rw [← p2] at z; exact z) (hv _ List.mem_cons_self)) z2⟩
theorem DenT.txd (I : Inv X pins σ H s) : ∀ {ks : List (List Key × V)} {kvs : List (D × D)}, DenT X.K H ks kvs → ∀ {xs : List (List Key × Addr × Value)}, KT H ks xs → (∀ x ∈ xs, (tupleKind (mixKind X.prog X.w)).is s.heap x.1 x.2.1) → (∀ d ∈ kvs.map (·.1), shw d) → (∀ d ∈ kvs.map (·.2), shw d) →
    TxdL X.prog X.w s.heap (xs.map ((·.key) ∘ entryOfKey (tupleKind (mixKind X.prog X.w)))) (kvs.map (·.1)) ∧ TxdL X.prog X.w s.heap (xs.map ((·.val) ∘ entryOfKey (tupleKind (mixKind X.prog X.w)))) (kvs.map (·.2))
  | _, _, .nil, xs, rel, hi, hk, hv => by
    cases rel
    exact ⟨.nil, .nil⟩
  | _, _, .cons h t, xs, rel, hi, hk, hv => by
    cases rel with
    | @cons p q ps qs a b =>
      obtain ⟨z1, z2⟩ := t.txd I b (fun x m => hi x (List.mem_cons_of_mem _ m)) (fun d m => hk d (List.mem_cons_of_mem _ m)) fun d m => hv d (List.mem_cons_of_mem _ m)
      have k1 := hk _ List.mem_cons_self
      obtain ⟨o, items, n, h1, h2, h3, h4⟩ := hi _ List.mem_cons_self
      rw [← a.1] at h4
      exact ⟨.cons (txd_tup h1 h2 h3 (txd_items h4 (shw_tup k1))) z1, .cons (h.txd I a.2.2 (hv _ List.mem_cons_self)) z2⟩
end
theorem call_reprD (I : Inv X pins σ H s) {v : V} {u : Value} {d : D} (dv : Den X.K H v d) (rv : RelV v u) (hs : shw d) (hg : X.A.guards = some []) (hu : X.A.units + (d.depth + 1) < cLine) {E Q : Value → Shared → Prop}
    (q : ∀ h' t tk, (∀ b o, s.heap.get? b = some o → h'.get? b = some o) → Q (.str d.shown t) { s with heap := h', toks := tk }) : wpAny (model X.prog X.w) X.A (call (.builtin "repr") [u]) Q E s := by
  cases dv with
  | non => cases rv; exact P.repr_of_none (by simpa only [PyData.shown] using q s.heap _ _ fun _ _ e => e)
  | bl b => cases rv; exact P.repr_of_bool (by simpa only [PyData.shown] using q s.heap _ _ fun _ _ e => e)
  | int i =>
    obtain ⟨t, rfl⟩ := rv
    exact P.repr_of_int (by simpa [PyData.showable] using hs.1) (by simpa only [PyData.shown] using q s.heap _ _ fun _ _ e => e)
  | str x =>
    obtain ⟨t, rfl⟩ := rv
    exact P.repr_of_str (by simpa only [PyData.shown] using q s.heap _ _ fun _ _ e => e) (by simpa only [PyData.shown] using hs.2)
  | @lst a vs ds s1 l =>
    cases rv
    obtain ⟨its, rv, ⟨o, n, ho, hc, _, hd⟩, _⟩ := I.list s1.l
    obtain ⟨as, bs, r, m, k⟩ := l.txd I rv (shw_lst hs)
    have r0 : Reads s.heap (.ref a) (.list ds) _ := .list ho hc hd r
    have na := not_mem_of_deeper r0 (by simp only [PyData.depth]; omega) m
    have hz : (listText (PyData.shownAll ds)).length ≤ sizeLine := by simpa only [PyData.shown] using hs.2
    simp only [PyData.depth] at hu
    simp only [PyData.shown] at q
    refine call_repr_slot (by omega) ⟨o, ho, hc⟩ F.slot_list_repr.toG ?_
    cases its with
    | nil =>
      cases r
      simp only [PyData.shownAll, listText_nil] at q
      exact call_list_repr_empty ⟨o, ho, hc⟩ ho hd ⟨_, _, rfl, q s.heap _ _ fun _ _ e => e⟩
    | cons x l' => exact call_list_reprK ho hc hd na (by simpa using k.length_eq) (fun i y e => k.item i y (by simpa using e)) hg (fun b _ => Clear.nil b) (by show X.A.units + 1 + _ < _; omega) (fun _ _ e => e) (fun h' t tk hk => ⟨_, _, rfl, q h' t tk hk⟩) hz
  | @tup a vs ds s1 l =>
    cases rv
    obtain ⟨its, rv, ⟨o, ho, hc, n, hd⟩, _⟩ := I.tuple s1.t
    obtain ⟨as, bs, r, m, k⟩ := l.txd I rv (shw_tup hs)
    have r0 : Reads s.heap (.ref a) (.tuple ds) _ := .tuple ho hc hd (by simpa using r)
    have na := not_mem_of_deeper r0 (by simp only [PyData.depth]; omega) m
    have hz : (tupleText (PyData.shownAll ds)).length ≤ sizeLine := by simpa only [PyData.shown] using hs.2
    simp only [PyData.depth] at hu
    simp only [PyData.shown] at q
    exact call_repr_slot (by omega) ⟨o, ho, hc⟩ F.slot_tuple_repr (call_tuple_reprK ho hc hd na (by simpa using k) hg (fun b _ => Clear.nil b) (by show X.A.units + 1 + _ < _; omega) (fun _ _ e => e) (fun h' t tk hk => ⟨_, _, rfl, q h' t tk hk⟩) hz)
  | @dk a ks kvs s1 l =>
    cases rv
    obtain ⟨_, hsys, vs, rel, o, es, ep, ho, hc, hd, _, pr, _⟩ := dk_rd I.hok s1
    obtain ⟨hk, hv⟩ := shw_dict hs
    obtain ⟨⟨a1, b1, r1, m1, k1⟩, a2, b2, r2, m2, k2⟩ := l.txd I rel pr hk hv
    have r0 : Reads s.heap (.ref a) (.dict kvs) _ := .dict ho hc.1 hd r1 r2
    have hb : ReadAtMost s.heap (PyData.depthKv kvs) (b1 ++ b2) := (m1.mono (PyData.depthAll_keys_le kvs)).append (m2.mono (PyData.depthAll_vals_le kvs))
    have na := not_mem_of_deeper r0 (by simp only [PyData.depth]; omega) hb
    have hz : (dictText (PyData.shownKv kvs)).length ≤ sizeLine := by simpa only [PyData.shown] using hs.2
    simp only [PyData.depth] at hu
    simp only [PyData.shown, PyData.shownKv_eq] at q
    rw [PyData.shownKv_eq] at hz
    refine call_repr_slot (by omega) ⟨o, ho, hc.1⟩ F.slot_dict_repr (call_dict_reprK ho hc.1 hd hsys na (ReprEntriesK.of_two es.toList _ _ (k1.more_le (fun b hb => List.mem_append_left _ hb) (PyData.depthAll_keys_le kvs)) (k2.more_le (fun b hb => List.mem_append_right _ hb) (PyData.depthAll_vals_le kvs))) hg (fun b _ => Clear.nil b) (by show X.A.units + 1 + _ < _; omega) (fun _ _ e => e) (fun h' t tk hk => ⟨_, _, rfl, q h' t tk hk⟩) hz)
  | @dt a ks kvs s1 l _ =>
    cases rv
    obtain ⟨_, hsys, xs, rel, o, es, ep, ho, hc, hd, he, hi, _⟩ := dt_rd I.hok s1
    obtain ⟨hk, hv⟩ := shw_dict hs
    obtain ⟨⟨a1, b1, r1, m1, k1⟩, a2, b2, r2, m2, k2⟩ := l.txd I rel hi hk hv
    rw [← List.map_map, ← he] at r1 r2 k1 k2
    have r0 : Reads s.heap (.ref a) (.dict kvs) _ := .dict ho hc.1 hd r1 r2
    have hb : ReadAtMost s.heap (PyData.depthKv kvs) (b1 ++ b2) := (m1.mono (PyData.depthAll_keys_le kvs)).append (m2.mono (PyData.depthAll_vals_le kvs))
    have na := not_mem_of_deeper r0 (by simp only [PyData.depth]; omega) hb
    have hz : (dictText (PyData.shownKv kvs)).length ≤ sizeLine := by simpa only [PyData.shown] using hs.2
    simp only [PyData.depth] at hu
    simp only [PyData.shown, PyData.shownKv_eq] at q
    rw [PyData.shownKv_eq] at hz
    refine call_repr_slot (by omega) ⟨o, ho, hc.1⟩ F.slot_dict_repr (call_dict_reprK ho hc.1 hd hsys na (ReprEntriesK.of_two es.toList _ _ (k1.more_le (fun b hb => List.mem_append_left _ hb) (PyData.depthAll_keys_le kvs)) (k2.more_le (fun b hb => List.mem_append_right _ hb) (PyData.depthAll_vals_le kvs))) hg (fun b _ => Clear.nil b) (by show X.A.units + 1 + _ < _; omega) (fun _ _ e => e) (fun h' t tk hk => ⟨_, _, rfl, q h' t tk hk⟩) hz)
open Classical in
noncomputable def dRepr : List D → Option D
  | [d] => if shw d ∧ d.depth ≤ 60 then some (.str d.shown) else none
  | _ => none
def rReprD (K : Frg) : List V → Hp → VK → Prop := fun xs H Q => ∃ v d, xs = [v] ∧ Den K H v d ∧ shw d ∧ d.depth ≤ 60 ∧ Q (.str d.shown) H
theorem cr_repr (hg : X.A.guards = some []) (hu : X.A.units + 70 < cLine) : CallR X (.builtin "repr") (rReprD X.K) := by
  intro pins s σ H xs us Q I r h
  obtain ⟨v, d, rfl, dv, hs, hd, q⟩ := h
  obtain ⟨u, rfl, ru⟩ := vals1 r
  exact call_reprD I dv ru hs hg (by omega) fun h' t tk hk => ⟨.str d.shown, H, I.kept (t' := tk) hk, ⟨t, rfl⟩, q⟩
theorem cs_repr {K : Frg} : CaS K (rReprD K) dRepr := fun G H xs ds d Q gl e1 e k => by
  unfold dRepr at e
  split at e
  · split at e
    · rename_i hc
      cases e
      obtain ⟨v, rfl, dv⟩ := e1.one
      exact ⟨v, _, rfl, dv.up gl, hc.1, hc.2, k _ G H (Grow.refl gl) (.str _)⟩
    · cases e
  · cases e
end
section
variable {X : Cx} {W : WX} {md : Md} {pa : Bool} {a : Expr} {ms : M (List D)} {p pos : Pos}
theorem b_repr (hu : X.A.units + 70 < cLine) (hgd : X.A.guards = some []) (hg : Gl X "repr") (hm : X.mg "repr" = none) (ha : Ea X W md pa [a] ms) (he : starEach [a] X.env = (false, eval a X.env) :: starEach [] X.env := by rfl) (hpl : (backTo pos (starEach [] X.env)).any (·.1) = false := by rfl) : Ex X W .frz pa (.Call (.Name "repr" p) [a] [] pos) (mL dRepr ms) :=
  xb_s (cr_repr hgd hu) cs_repr (fl1 fun a d h => by
    unfold dRepr at h
    split at h
    · split at h
      · cases h; exact .inr (.inr ⟨_, rfl⟩)
      · cases h
    · cases h) hg hm (by decide +kernel) ha (by decide) (by decide) he hpl
end
end DL
/-! The data layer, part QH: == of two dicts whose keys are tuples, the same data. -/
namespace DL
open PySem PySem.Calls PyProof.Rows
section
variable {prog : Program} {w : World} {K : Type} [DecidableEq K] {knd : HeapKind prog w K} {A : Around} {E : Value → Shared → Prop} {s : Shared}
/-- each entry of one stands in the other, equal -/
def AllHit (prog : Program) (w : World) (A : Around) (s : Shared) (xs ys : List (K × Addr × Value)) : Prop := ∀ k b v, (k, b, v) ∈ xs → ∃ c u, (k, c, u) ∈ ys ∧ SeqAt.EqP prog w A s v u true
theorem samePairsH {nm : String} {a b : Addr} {xs ys : List (K × Addr × Value)} {Q : Bool → Shared → Prop} (ha : (a == sysModules) = false) (hb : (b == sysModules) = false)
    (da : s.heap.DictOfH knd a xs) (db : s.heap.DictOfH knd b ys) (hu : knd.room A) (hl : xs.length = ys.length) (hits : AllHit prog w A s xs ys) (h : Q true s) :
    wpAny (model prog w) A (Builtin.Dict.samePairs nm a b) Q E s := by
  obtain ⟨oa, es, ep, hoa, _, hda, hea, hka, hna⟩ := da
  obtain ⟨ob, es', ep', hob, _, hdb, heb, hkb, hnb⟩ := db
  have hla : es.size = xs.length := size_of_entries hea
  have hlb : es'.size = ys.length := size_of_entries heb
  have hsz : es.size = es'.size := by omega
  unfold Builtin.Dict.samePairs Builtin.Dict.showsAll
  rw [if_neg (show ¬ (a == sysModules) = true by rw [ha]; exact Bool.false_ne_true), if_neg (show ¬ (b == sysModules) = true by rw [hb]; exact Bool.false_ne_true)]
  refine wpAny_bind (wpAny_pure (wpAny_bind (wpAny_pure ?_)))
  refine wpAny_bind (wpAny_dictEntries hoa hda ?_)
  dsimp only
  refine wpAny_bind (wpAny_dictEntries hob hdb ?_)
  rw [if_neg (by rw [hsz]; simp)]
  refine wpAny_bind (wpAny_dictEpoch hoa hda ?_)
  refine wpAny_bind ?_
  rw [Std.Legacy.Range.forIn_eq_forIn_range']
  simp only [Std.Legacy.Range.size, Nat.sub_zero, Nat.add_sub_cancel, Nat.div_one]
  refine wpAny_forIn_list _ (fun rest q s' => s' = s ∧ q = (none, ()) ∧ ∃ i, rest = List.range' i (es.size - i) ∧ i ≤ es.size) _ ?_ ?_ _ _ ⟨rfl, rfl, 0, by simp, Nat.zero_le _⟩
  · rintro x rest q s' ⟨rfl, rfl, i, hr, hi⟩
    have hlt : i < es.size := by
      rcases Nat.lt_or_ge i es.size with h | h
      · exact h
      · rw [Nat.sub_eq_zero_of_le h] at hr; simp at hr
    obtain ⟨rfl, hrest⟩ : x = i ∧ rest = List.range' (i + 1) (es.size - (i + 1)) := by
      have e : es.size - i = (es.size - (i + 1)) + 1 := by omega
      rw [e, List.range'_succ] at hr
      injection hr with h1 h2
      exact ⟨h1, h2⟩
    refine wpAny_bind (wpAny_dictEntries hoa hda ?_)
    have hlt' : x < xs.length := by rw [← hla]; exact hlt
    obtain ⟨⟨k, kb, v⟩, hx⟩ : ∃ p, xs[x]? = some p := ⟨_, List.getElem?_eq_getElem hlt'⟩
    have hent : es[x]? = some ⟨knd.hash k, .ref kb, v⟩ := by
      rw [entry_at hea x, hx]
      rfl
    rw [hent]
    have mx : (k, kb, v) ∈ xs := List.mem_of_getElem? hx
    obtain ⟨c, u, mu, he⟩ := hits k kb v mx
    show wpAny _ _ (holding [Value.ref kb, v] _ >>= _) _ _ _
    refine wpAny_bind (wpAny_holding (wpAny_bind (wpAny_dictFind_heap hu (hka _ mx) hob hdb heb hkb hnb ?_ ?_)))
    · intro hno
      obtain ⟨j, hj⟩ := List.mem_iff_getElem?.mp mu
      exact absurd hj (hno j (c, u))
    · intro j p hj
      have ep : p = (c, u) := by
        obtain ⟨j2, hj2⟩ := List.mem_iff_getElem?.mp mu
        have z1 : (ys.map (·.1))[j]? = some k := by rw [List.getElem?_map, hj]; rfl
        have z2 : (ys.map (·.1))[j2]? = some k := by rw [List.getElem?_map, hj2]; rfl
        have lt : j < (ys.map (·.1)).length := (List.getElem?_eq_some_iff.mp z1).1
        have := (List.getElem?_inj lt hnb).mp (z1.trans z2.symm)
        subst this
        rw [hj] at hj2
        exact (Prod.mk.inj (Option.some.inj hj2)).2
      subst ep
      refine wpAny_bind (wpAny_dictEntries hob hdb ?_)
      have hent2 : es'[j]? = some ⟨knd.hash k, .ref c, u⟩ := by
        rw [entry_at heb j, hj]
        rfl
      rw [hent2]
      refine wpAny_holding (he _ _ ?_)
      show wpAny _ _ (if (!true) = true then _ else _) _ _ _
      rw [if_neg (by decide)]
      refine wpAny_bind (wpAny_dictEpoch hoa hda ?_)
      rw [if_neg (by simp)]
      exact wpAny_pure ⟨rfl, rfl, x + 1, hrest, hlt⟩
  · rintro q s' ⟨rfl, rfl, i, hr, hi⟩
    exact wpAny_pure h
theorem rcH_dicts {a b : Addr} {xs ys : List (K × Addr × Value)} (ha : (a == sysModules) = false) (hb : (b == sysModules) = false)
    (da : s.heap.DictOfH knd a xs) (db : s.heap.DictOfH knd b ys) (hu : A.units < cLine) (hr : knd.room A.in1) (hl : xs.length = ys.length) (hits : AllHit prog w A.in1 s xs ys) (E Q : Value → Shared → Prop) (h : Q (.bool true) s) : wpAny (model prog w) A (richCompare .Eq (.ref a) (.ref b)) Q E s := by
  refine wpAny_richCompare_same_room (op := .Eq) da.typeIs db.typeIs PySem.F.slot_dict_eq (wpAny_call_entry PySem.F.slot_dict_eq da.typeIs PySem.F.entry_dict_eq ?_ (PySem.F.args_dict_eq_2 _ _)) hu
  show wpAny _ _ (Builtin.Dict.dictSlotArgs "__eq__" ⟨[.ref a, .ref b], []⟩ >>= _) _ _ s
  refine wpAny_bind ?_
  unfold Builtin.Dict.dictSlotArgs
  refine wpAny_bind (wpAny_notOrdered_dict da.typeIs ?_)
  show wpAny _ _ (pure (Value.ref a, Value.ref b)) _ _ s
  refine wpAny_pure ?_
  refine wpAny_bind (wpAny_isInstance (T := "dict") db.typeIs PySem.F.sub_dict_dict ?_)
  simp only [Bool.not_true, Bool.false_eq_true, if_false]
  refine wpAny_bind (wpAny_pure (wpAny_bind (wpAny_pure ?_)))
  refine wpAny_bind (samePairsH ha hb da db hr hl hits ?_)
  refine wpAny_pure ⟨_, rfl, ?_, ?_⟩
  · exact fun x => nomatch x
  · exact h
end
end DL
/-! The data layer, part QI: == of a tuple of texts and numbers with data of any kind (dicts within it, too). -/
namespace DL
open PySem PySem.SeqAt PySem.MeetsSeq PyProof.Rows
section
variable {A : Around} {s : Shared}
theorem dict_declines {prog : Program} {w : World} {E : Value → Shared → Prop} {a : Addr} {v : Value} {T : String} (ta : s.TypeIs (.ref a) "dict") (tv : s.TypeIs v T) (hs : isSubtype (.type T) (.type "dict") = pure false) (Q : Value → Shared → Prop) (q : Q .notImplemented s) :
    wpAny (model prog w) A (call (.builtin "dict.__eq__") [.ref a, v]) Q E s := by
  refine wpAny_call_entry PySem.F.slot_dict_eq_refl ta PySem.F.entry_dict_eq ?_ (PySem.F.args_dict_eq_2 _ _)
  show wpAny _ _ (Builtin.Dict.dictSlotArgs "__eq__" ⟨[.ref a, v], []⟩ >>= _) _ _ s
  refine wpAny_bind ?_
  unfold Builtin.Dict.dictSlotArgs
  refine wpAny_bind (wpAny_notOrdered_dict ta (wpAny_pure ?_))
  refine wpAny_bind (wpAny_isInstance (T := T) tv hs ?_)
  simp only [Bool.not_false, if_true]
  refine wpAny_bind (wpAny_rule ?_)
  exact wpAny_pure ⟨_, rfl, q⟩
theorem int_declines_dict (b : Int) (u : Tok) (l : Addr) (es : Array DictEntry) (n : Nat) (dd : Option Addr) (sl : Array (Option Value)) :
    Meets (Builtin.«int.__eq__» ⟨[.int b u, .ref l], []⟩) (fun _ R s => s.heap.get? l = some { cls := .type "dict", dict := dd, data := .dict es n, slots := sl } ∧ R (.ok (.ret .notImplemented)) s) :=
  .of_wp fun prog w A R s h => by
    obtain ⟨hp, g, d, tk, os⟩ := s
    obtain ⟨hl, h⟩ := h
    wp_walk using wpAny_loadPart' hl, wpAny_load hl
    exact ⟨_, rfl, h⟩
theorem str_declines_dict (b : Str) (u : Tok) (l : Addr) (es : Array DictEntry) (n : Nat) (dd : Option Addr) (sl : Array (Option Value)) :
    Meets (Builtin.«str.__eq__» ⟨[.str b u, .ref l], []⟩) (fun _ R s => s.heap.get? l = some { cls := .type "dict", dict := dd, data := .dict es n, slots := sl } ∧ R (.ok (.ret .notImplemented)) s) :=
  .of_wp fun prog w A R s h => by
    obtain ⟨hp, g, d, tk, os⟩ := s
    obtain ⟨hl, h⟩ := h
    wp_walk using wpAny_loadPart' hl, wpAny_load hl
    exact ⟨_, rfl, h⟩
theorem tuple_declines_dict (l b : Addr) (items : Array Value) (es : Array DictEntry) (n m : Nat) (dd dd2 : Option Addr) (sl sl2 : Array (Option Value)) :
    Meets (Builtin.«tuple.__eq__» ⟨[.ref l, .ref b], []⟩) (fun _ R s => s.heap.get? l = some { cls := .type "tuple", dict := dd, data := .seq items n, slots := sl } ∧ s.heap.get? b = some { cls := .type "dict", dict := dd2, data := .dict es m, slots := sl2 } ∧ R (.ok (.ret .notImplemented)) s) :=
  .of_wp fun prog w A R s h => by
    obtain ⟨hp, g, d, tk, os⟩ := s
    obtain ⟨hl, hb, h⟩ := h
    have f1 := F.sub_dict_tuple
    wp_walk using wpAny_loadPart' hl, wpAny_loadPart' hb
    exact ⟨_, rfl, h⟩
/-- a dict's object -/
def DObj (s : Shared) (b : Addr) : Prop := ∃ es n dd sl, s.heap.get? b = some { cls := .type "dict", dict := dd, data := .dict es n, slots := sl }
theorem DObj.ty {b : Addr} (h : DObj s b) : s.TypeIs (.ref b) "dict" := by
  obtain ⟨es, n, dd, sl, e⟩ := h
  exact ⟨_, e, rfl⟩
theorem rc_int_dict {b : Addr} (i : Int) (u : Tok) (h : DObj s b) (hu : A.units < cLine) : RcAt A s (.int i u) (.ref b) false := fun prog w E Q hq => by
  have tb := h.ty
  obtain ⟨es, n, dd, sl, e⟩ := h
  exact rc_eq_decline_or (k := false) (typeIs_int s i u) tb (by decide) F.sub_dict_int F.slot_int_eq F.slot_dict_eq_refl
    (fun Q' z => call_meets F.slot_int_eq (typeIs_int s i u) F.entry_int_eq (F.args_int_eq_2 _ _) (int_declines_dict i u b es n dd sl) ⟨e, z⟩)
    (fun Q' z => dict_declines tb (typeIs_int s i u) F.sub_int_dict Q' z) (fun Q' z => wpAny_of_eq rfl z) (.inr hu) hq
theorem rc_str_dict {b : Addr} (i : Str) (u : Tok) (h : DObj s b) (hu : A.units < cLine) : RcAt A s (.str i u) (.ref b) false := fun prog w E Q hq => by
  have tb := h.ty
  obtain ⟨es, n, dd, sl, e⟩ := h
  exact rc_eq_decline_or (k := false) (typeIs_str s i u) tb (by decide) F.sub_dict_str F.slot_str_eq F.slot_dict_eq_refl
    (fun Q' z => call_meets F.slot_str_eq (typeIs_str s i u) F.entry_str_eq (F.args_str_eq_2 _ _) (str_declines_dict i u b es n dd sl) ⟨e, z⟩)
    (fun Q' z => dict_declines tb (typeIs_str s i u) F.sub_str_dict Q' z) (fun Q' z => wpAny_of_eq rfl z) (.inr hu) hq
theorem rc_tup_dict {l b : Addr} {items : Array Value} (hl : s.heap.IsTuple l items) (h : DObj s b) (hu : A.units < cLine) : RcAt A s (.ref l) (.ref b) false := fun prog w E Q hq => by
  have tb := h.ty
  obtain ⟨es, n, dd, sl, e⟩ := h
  obtain ⟨⟨cls, dd1, data, sl1⟩, ho, hc, m, hd⟩ := hl
  simp only at hc hd
  subst hc hd
  have tl : s.TypeIs (.ref l) "tuple" := ⟨_, ho, rfl⟩
  have hne : l ≠ b := fun z => by
    subst z
    have z := Option.some.inj (ho.symm.trans e)
    injection z with z1
    exact absurd z1 (by decide)
  exact rc_eq_decline_or (k := false) tl tb (by decide) F.sub_dict_tuple F.slot_tuple_eq F.slot_dict_eq_refl
    (fun Q' z => call_meets F.slot_tuple_eq tl F.entry_tuple_eq (F.args_tuple_eq_2 _ _) (tuple_declines_dict l b items es m n dd1 dd sl1 sl) ⟨ho, e, z⟩)
    (fun Q' z => dict_declines tb tl F.sub_tuple_dict Q' z) (fun Q' z => wpAny_isSame_ref_other' hne ho e (by simp) z) (.inr hu) hq
theorem eq_int_dict {b : Addr} (i : Int) (u : Tok) (h : DObj s b) (hu : A.units < cLine) : EqAt A s (.int i u) (.ref b) false := fun prog w E Q hq => by
  unfold eqBool
  refine wpAny_holding ?_
  refine wpAny_ite_split (fun z => by cases eq_of_beq z) fun _ => ?_
  exact wpAny_bind (rc_int_dict i u h hu prog w E _ (wpAny_truthy_bool hq))
theorem eq_str_dict {b : Addr} (i : Str) (u : Tok) (h : DObj s b) (hu : A.units < cLine) : EqAt A s (.str i u) (.ref b) false := fun prog w E Q hq => by
  unfold eqBool
  refine wpAny_holding ?_
  refine wpAny_ite_split (fun z => by cases eq_of_beq z) fun _ => ?_
  exact wpAny_bind (rc_str_dict i u h hu prog w E _ (wpAny_truthy_bool hq))
end
end DL
/-! The data layer, part Q: == of data that is the same, dicts within. -/
namespace DL
open PySem L2 PyProof.Rows
mutual
/-- (holds of all data; a dict's keys may be tuples, too) -/
def nodt : D → Bool
  | .none | .bool _ | .int _ | .str _ => true
  | .list ds => nodtL ds
  | .tuple ds => nodtL ds
  | .dict kvs => nodtK kvs
def nodtL : List D → Bool
  | [] => true
  | d :: r => nodt d && nodtL r
def nodtK : List (D × D) → Bool
  | [] => true
  | (_, d) :: r => nodt d && nodtK r
end
theorem nodtL_mem : ∀ {ds : List D}, nodtL ds = true → ∀ d ∈ ds, nodt d = true
  | [], _, d, m => absurd m (by simp)
  | x :: r, h, d, m => by
    simp only [nodtL, Bool.and_eq_true] at h
    rcases List.mem_cons.mp m with e | m
    · subst e; exact h.1
    · exact nodtL_mem h.2 d m
theorem depthL_mem : ∀ {ds : List D} {n : Nat}, PyData.depthAll ds ≤ n → ∀ d ∈ ds, d.depth ≤ n
  | [], _, _, d, m => absurd m (by simp)
  | x :: r, n, h, d, m => by
    simp only [PyData.depthAll] at h
    rcases List.mem_cons.mp m with e | m
    · subst e; omega
    · exact depthL_mem (by omega) d m
theorem nodtK_mem : ∀ {kvs : List (D × D)}, nodtK kvs = true → ∀ p ∈ kvs, nodt p.2 = true
  | [], _, p, m => absurd m (by simp)
  | (k, x) :: r, h, p, m => by
    simp only [nodtK, Bool.and_eq_true] at h
    rcases List.mem_cons.mp m with e | m
    · subst e; exact h.1
    · exact nodtK_mem h.2 p m
theorem depthK_mem : ∀ {kvs : List (D × D)} {n : Nat}, PyData.depthKv kvs ≤ n → ∀ p ∈ kvs, p.2.depth ≤ n
  | [], _, _, p, m => absurd m (by simp)
  | (k, x) :: r, n, h, p, m => by
    simp only [PyData.depthKv] at h
    rcases List.mem_cons.mp m with e | m
    · subst e; show PyData.depth x ≤ n; omega
    · exact depthK_mem (by omega) p m
theorem keyD_inj {a b : Key} (h : keyD a = keyD b) : a = b := by
  cases a <;> cases b <;> simp [keyD] at h <;> rw [h]
section
variable {K : Frg} {G : Hp}
theorem DenK.len : ∀ {ks : List (Key × V)} {kvs : List (D × D)}, DenK K G ks kvs → ks.length = kvs.length
  | _, _, .nil => rfl
  | _, _, .cons _ t => congrArg (· + 1) t.len
theorem denK_both : ∀ {ks ls : List (Key × V)} {kvs : List (D × D)}, DenK K G ks kvs → DenK K G ls kvs → (ls.map (·.1)).Nodup → ∀ p ∈ ks, ∃ u q, valV ls p.1 = some u ∧ q ∈ kvs ∧ Den K G p.2 q.2 ∧ Den K G u q.2
  | _, _, _, .nil, _, _, p, m => absurd m (by simp)
  | _, ls0, _, .cons (k := k) (v := v) h t, h2, nd, p, m => by
    generalize hx : (keyD k, _) = kv at h2
    cases h2 with
    | @cons k' v' ls d' kvs' h' t' =>
      have e1 : k = k' := keyD_inj (Prod.mk.inj hx).1
      have e2 := (Prod.mk.inj hx).2
      subst e1 e2
      rw [List.map_cons, List.nodup_cons] at nd
      rcases List.mem_cons.mp m with e | m
      · subst e
        exact ⟨v', _, valV_pos rfl, List.mem_cons_self, h, h'⟩
      · obtain ⟨u, q, e1, e2, e3, e4⟩ := denK_both t t' nd.2 p m
        refine ⟨u, q, ?_, List.mem_cons_of_mem _ e2, e3, e4⟩
        rw [valV_neg (fun z => nd.1 ?_)]
        · exact e1
        · have z' : k = p.1 := z
          rw [z']
          have : (valV ls p.1).isSome = true := by rw [e1]; rfl
          rw [← valV_any, List.any_eq_true] at this
          obtain ⟨y, hy, hd⟩ := this
          exact List.mem_map.mpr ⟨y, hy, by simpa using hd⟩
end
section
variable {X : Cx} {pins : List (Addr × Obj)} {σ : L2.St} {H : Hp} {s : Shared}
theorem kv_keys {ks : List (Key × V)} {vs : List (Key × Value)} (r : KV ks vs) : ks.map (·.1) = vs.map (·.1) := by
  unfold KV at r
  induction r with
  | nil => rfl
  | cons a _ ih => rw [List.map_cons, List.map_cons, ih, a.1]
theorem DenT.len {K : Frg} {G : Hp} : ∀ {ks : List (List Key × V)} {kvs : List (D × D)}, DenT K G ks kvs → ks.length = kvs.length
  | _, _, .nil => rfl
  | _, _, .cons _ t => congrArg (· + 1) t.len
theorem keys_inj : ∀ {a b : List Key}, a.map keyD = b.map keyD → a = b
  | [], [], _ => rfl
  | [], _ :: _, e => by cases e
  | _ :: _, [], e => by cases e
  | x :: a, y :: b, e => by
    injection e with e1 e2
    rw [keyD_inj e1, keys_inj e2]
theorem denT_both {K : Frg} {G H : Hp} : ∀ {ks ls : List (List Key × V)} {kvs : List (D × D)} {xs ys : List (List Key × Addr × Value)}, DenT K G ks kvs → DenT K G ls kvs → KT H ks xs → KT H ls ys →
    ∀ k b v, (k, b, v) ∈ xs → ∃ c u, (k, c, u) ∈ ys ∧ ∃ q ∈ kvs, ∃ x y, Den K G x q.2 ∧ Den K G y q.2 ∧ RelV x v ∧ RelV y u
  | _, _, _, _, _, .nil, .nil, .nil, _, k, b, v, m => absurd m (by simp)
  | _, _, _, _, _, .cons (k := k1) h1 t1, l2, .cons (b := x1) r1 s1, k2, k, b, v, m => by
    generalize hx : (PyData.tuple (k1.map keyD), _) = kv at l2
    cases l2 with
    | @cons k' v' ls d' kvs' h' t' =>
      have e1 : k1 = k' := keys_inj (PyData.tuple.inj (Prod.mk.inj hx).1)
      have e2 := (Prod.mk.inj hx).2
      subst e1 e2
      cases k2 with
      | @cons _ y1 _ ys r2 s2 =>
        rcases List.mem_cons.mp m with e | m
        · obtain ⟨z1, z2, z3⟩ := r1
          obtain ⟨w1, w2, w3⟩ := r2
          subst e
          have z1 : k1 = k := z1
          have w1 : k1 = y1.1 := w1
          refine ⟨y1.2.1, y1.2.2, ?_, _, List.mem_cons_self, _, _, h1, h', z3, w3⟩
          have : (k, y1.2.1, y1.2.2) = y1 := by rw [← z1, w1]
          rw [this]
          exact List.mem_cons_self
        · obtain ⟨c, u, m1, q, mq, x, y, a1, a2, a3, a4⟩ := denT_both t1 t' s1 s2 k b v m
          exact ⟨c, u, List.mem_cons_of_mem _ m1, q, List.mem_cons_of_mem _ mq, x, y, a1, a2, a3, a4⟩
theorem kt_len {H : Hp} {ks : List (List Key × V)} {xs : List (List Key × Addr × Value)} (r : KT H ks xs) : ks.length = xs.length := Paired.length r
/-- the same data -/
def Sm (K : Frg) (H : Hp) (n : Nat) : V → V → Prop := fun x y => ∃ d, d.depth ≤ n ∧ nodt d = true ∧ Den K H x d ∧ Den K H y d
theorem sm_rc (I : Inv X pins σ H s) {n : Nat} {A : Around} (hu : A.units + 1 < cLine) (ih : ∀ x y v u, Sm X.K H n x y → RelV x v → RelV y u → SeqAt.EqP X.prog X.w A.in1 s v u true) {x y : V} {v u : Value} {d : D} (hd : d.depth ≤ n + 1) (nd : nodt d = true) (dx : Den X.K H x d) (dy : Den X.K H y d) (rx : RelV x v) (ry : RelV y u)
    (hf : flat d = false) : ∃ a b, v = .ref a ∧ u = .ref b ∧ ∀ (E Q : Value → Shared → Prop), Q (.bool true) s → wpAny (model X.prog X.w) A (richCompare .Eq v u) Q E s := by
  cases d with
  | list ds =>
    obtain ⟨a, xs, rfl, s1, l1⟩ := dx.of_lst
    obtain ⟨b, ys, rfl, s2, l2⟩ := dy.of_lst
    cases rx
    cases ry
    refine ⟨a, b, rfl, rfl, fun E Q q => ?_⟩
    obtain ⟨us, r1, p1, _⟩ := I.list s1.l
    obtain ⟨ws, r2, p2, _⟩ := I.list s2.l
    simp only [PyData.depth] at hd
    simp only [nodt] at nd
    have hsz : us.toArray.size = ws.toArray.size := by rw [List.size_toArray, List.size_toArray, ← r1.length, ← r2.length, l1.length, l2.length]
    refine SeqAt.rcP_lists (e := fun _ => true) p1.isList p2.isList hsz (by omega) (fun j h1 h2 => ?_) E Q ?_
    · have hj : j < ds.length := by rw [← l1.length, r1.length]; simpa using h1
      obtain ⟨x', e1, d1⟩ := l1.get (List.getElem?_eq_getElem hj)
      obtain ⟨y', e2, d2⟩ := l2.get (List.getElem?_eq_getElem hj)
      obtain ⟨u1, f1, g1⟩ := r1.get e1
      obtain ⟨u2, f2, g2⟩ := r2.get e2
      have z1 : us.toArray[j] = u1 := by
        have := List.getElem?_eq_some_iff.mp f1
        simpa using this.2
      have z2 : ws.toArray[j] = u2 := by
        have := List.getElem?_eq_some_iff.mp f2
        simpa using this.2
      rw [z1, z2]
      exact ih x' y' u1 u2 ⟨_, depthL_mem (by omega) _ (List.getElem_mem hj), nodtL_mem nd _ (List.getElem_mem hj), d1, d2⟩ g1 g2
    · rw [show ((List.range us.toArray.size).all fun _ => true) = true from List.all_eq_true.mpr fun _ _ => rfl]
      exact q
  | tuple ds =>
    obtain ⟨a, xs, rfl, s1, l1⟩ := dx.of_tup
    obtain ⟨b, ys, rfl, s2, l2⟩ := dy.of_tup
    cases rx
    cases ry
    refine ⟨a, b, rfl, rfl, fun E Q q => ?_⟩
    obtain ⟨us, r1, p1, _⟩ := I.tuple s1.t
    obtain ⟨ws, r2, p2, _⟩ := I.tuple s2.t
    simp only [PyData.depth] at hd
    simp only [nodt] at nd
    have hsz : us.toArray.size = ws.toArray.size := by rw [List.size_toArray, List.size_toArray, ← r1.length, ← r2.length, l1.length, l2.length]
    refine GQ.rc_tupG hsz (by omega) (fun _ s' => s' = s) p1 p2 (fun j h1 h2 s' hs' => ?_) (fun s' hs' => by rw [hs']; exact q) rfl
    subst hs'
    have hj : j < ds.length := by rw [← l1.length, r1.length]; simpa using h1
    obtain ⟨x', e1, d1⟩ := l1.get (List.getElem?_eq_getElem hj)
    obtain ⟨y', e2, d2⟩ := l2.get (List.getElem?_eq_getElem hj)
    obtain ⟨u1, f1, g1⟩ := r1.get e1
    obtain ⟨u2, f2, g2⟩ := r2.get e2
    have z1 : us.toArray[j] = u1 := by
      have := List.getElem?_eq_some_iff.mp f1
      simpa using this.2
    have z2 : ws.toArray[j] = u2 := by
      have := List.getElem?_eq_some_iff.mp f2
      simpa using this.2
    rw [z1, z2]
    exact ih x' y' u1 u2 ⟨_, depthL_mem (by omega) _ (List.getElem_mem hj), nodtL_mem nd _ (List.getElem_mem hj), d1, d2⟩ g1 g2 E _ ⟨rfl, rfl⟩
  | dict kvs =>
    simp only [PyData.depth] at hd
    simp only [nodt] at nd
    have mixed : ∀ {ks : List (Key × V)} {ls : List (List Key × V)}, DenK X.K H ks kvs → DenT X.K H ls kvs → ls ≠ [] → False := fun l1 l2 ne => by
      cases l2 with
      | nil => exact ne rfl
      | @cons kt vt ls' d' kvs' h2 t2 =>
        generalize hx : (PyData.tuple (kt.map keyD), d') = kv at l1
        cases l1 with
        | @cons k1 v1 ks' d1 kvs1 h1 t1 =>
          have e := (Prod.mk.inj hx).1
          cases k1 <;> simp [keyD] at e
    cases dx with
    | @dk a ks _ s1 l1 =>
      cases dy with
      | @dk b ls _ s2 l2 =>
        obtain ⟨_, y1, va, r1, da⟩ := dk_rd I.hok s1
        obtain ⟨_, y2, vb, r2, db⟩ := dk_rd I.hok s2
        have n2 : (ls.map (·.1)).Nodup := by
          rw [kv_keys r2]
          exact let ⟨_, _, _, _, _, _, _, _, n⟩ := db; n
        cases rx
        cases ry
        refine ⟨a, b, rfl, rfl, fun E Q q => ?_⟩
        refine PySem.W.rcP_dicts (knd := mixKind X.prog X.w) (r := true) y1 y2 da db (by omega) (fun _ => hits_run ih r2 r1 fun p hp => ?_) E Q ?_
        · obtain ⟨w, z, e1, e2, e3, e4⟩ := denK_both l1 l2 n2 p hp
          exact ⟨w, e1, _, depthK_mem (by omega) z e2, nodtK_mem nd z e2, e3, e4⟩
        · have e : va.length = vb.length := by rw [← Paired.length r1, ← Paired.length r2, l1.len, l2.len]
          rw [show (va.length == vb.length && true) = true by rw [e]; simp]
          exact q
      | @dt b ls _ s2 l2 ne => exact (mixed l1 l2 ne).elim
    | @dt a ks _ s1 l1 ne =>
      cases dy with
      | @dk b ls _ s2 l2 => exact (mixed l2 l1 ne).elim
      | @dt b ls _ s2 l2 _ =>
        obtain ⟨_, y1, xs, r1, da⟩ := dt_rd I.hok s1
        obtain ⟨_, y2, ys, r2, db⟩ := dt_rd I.hok s2
        cases rx
        cases ry
        refine ⟨a, b, rfl, rfl, fun E Q q => rcH_dicts y1 y2 da db (by omega) (tupleKind_room_in1 hu) (by rw [← kt_len r1, ← kt_len r2, l1.len, l2.len]) (fun k b v m => ?_) E Q q⟩
        obtain ⟨c, u, m1, z, mz, x, y, a1, a2, a3, a4⟩ := denT_both l1 l2 r1 r2 k b v m
        exact ⟨c, u, m1, ih x y v u ⟨_, depthK_mem (by omega) z mz, nodtK_mem nd z mz, a1, a2⟩ a3 a4⟩
  | _ => simp [flat] at hf
theorem sm_eqP (I : Inv X pins σ H s) : ∀ (n : Nat) (A : Around), A.units + n < cLine → ∀ (x y : V) (v u : Value), Sm X.K H n x y → RelV x v → RelV y u → SeqAt.EqP X.prog X.w A s v u true
  | n, A, hu, x, y, v, u, ⟨d, hd, nd, dx, dy⟩, rx, ry => by
    by_cases hf : flat d = true
    · have e : x = y ∧ flatB x = true := by
        cases d with
        | none => cases dx; cases dy; exact ⟨rfl, rfl⟩
        | bool b => cases dx; cases dy; exact ⟨rfl, rfl⟩
        | int i => cases dx; cases dy; exact ⟨rfl, rfl⟩
        | str z => cases dx; cases dy; exact ⟨rfl, rfl⟩
        | _ => simp [flat] at hf
      obtain ⟨rfl, f⟩ := e
      exact (eqAt_same rx ry f).eqP
    · have hf : flat d = false := by simpa using hf
      cases n with
      | zero => cases d <;> simp [flat] at hf <;> simp [PyData.depth] at hd
      | succ n =>
        obtain ⟨a, b, rfl, rfl, rc⟩ := sm_rc I (by omega) (sm_eqP I n A.in1 (by show A.units + 1 + n < cLine; omega)) hd nd dx dy rx ry hf
        by_cases e : a = b
        · subst e; exact (SeqAt.EqAt.same _).eqP
        · exact SeqAt.eqP_refs e rc
def rEqSm (K : Frg) : R2 := fun x y H Q => ∃ d, d.depth ≤ 60 ∧ nodt d = true ∧ flat d = false ∧ Den K H x d ∧ Den K H y d ∧ Q (.bl true) H
theorem op_eqSm (hu : X.A.units + 64 < cLine) : OpR X (compareOp .Eq) (rEqSm X.K) := by
  intro pins s σ H x y v u Q I rx ry h
  obtain ⟨d, hd, nd, hf, dx, dy, q⟩ := h
  obtain ⟨a, b, rfl, rfl, rc⟩ := sm_rc (n := 60) I (A := X.A) (by omega) (sm_eqP I 60 X.A.in1 (by show X.A.units + 1 + 60 < cLine; omega)) (by omega) nd dx dy rx ry hf
  exact rc _ _ ⟨.bl true, H, I, rfl, q⟩
/-! ### a tuple of texts and numbers against data of any kind -/
def atomD : D → Bool
  | .str _ => true
  | .int _ => true
  | _ => false
def rowD : D → Bool
  | .tuple ds => ds.all atomD
  | _ => false
theorem dobj_of {o : Obj} {es : Array DictEntry} {n : Nat} {s : Shared} {b : Addr} (h1 : s.heap.get? b = some o) (h2 : o.ExactDict) (h3 : o.data = .dict es n) : DObj s b := by
  obtain ⟨cls, dd, data, sl⟩ := o
  have h2 := h2.1
  simp only at h2 h3
  subst h2 h3
  exact ⟨es, n, dd, sl, h1⟩
theorem dobj_den {X : Cx} {pins : List (Addr × Obj)} {σ : L2.St} {H : Hp} {s : Shared} {y : V} {kvs : List (D × D)} (I : L2.Inv X pins σ H s) (h : Den X.K H y (.dict kvs)) : ∃ b, y = .ref b ∧ DObj s b := by
  cases h with
  | dk hr hd =>
    obtain ⟨_, _, vs, r, o, es, ep, h1, h2, h3, _⟩ := (show ObjOk X.prog X.w H s.heap _ (.dK _) from rd_of I.hok hr)
    exact ⟨_, rfl, dobj_of h1 h2 h3⟩
  | dt hr hd _ =>
    obtain ⟨_, _, xs, r, o, es, ep, h1, h2, h3, _⟩ := (show ObjOk X.prog X.w H s.heap _ (.dT _) from rd_of I.hok hr)
    exact ⟨_, rfl, dobj_of h1 h2 h3⟩
theorem row_item {X : Cx} {pins : List (Addr × Obj)} {σ : L2.St} {H : Hp} {s : Shared} {A : Around} {x y : V} {v u : Value} {d e : D} (I : L2.Inv X pins σ H s) (hd : atomD d = true) (dx : Den X.K H x d) (dy : Den X.K H y e) (rx : L2.RelV x v) (ry : L2.RelV y u) (hu : A.units < cLine) :
    SeqAt.EqAt A s v u (PyData.eqv d e) := by
  cases dx with
  | str a =>
    obtain ⟨t, rfl⟩ := rx
    cases dy with
    | non => cases ry; exact SeqAt.EqAt.str_none a t
    | bl b => cases ry; exact SeqAt.EqAt.str_bool a t b
    | int i => obtain ⟨w, rfl⟩ := ry; exact SeqAt.EqAt.str_int a t i w
    | str b => obtain ⟨w, rfl⟩ := ry; exact SeqAt.EqAt.str_str a t b w
    | lst s1 l1 =>
      cases ry
      obtain ⟨us, r1, p1, _⟩ := I.list s1.l
      exact SeqAt.EqAt.str_list a t p1.isList hu
    | tup s1 l1 =>
      cases ry
      obtain ⟨us, r1, p1, _⟩ := I.tuple s1.t
      exact SeqAt.EqAt.str_tuple a t p1 hu
    | dk hr hd2 =>
      obtain ⟨b, e, ob⟩ := dobj_den I (.dk hr hd2)
      cases e
      cases ry
      exact eq_str_dict a t ob hu
    | dt hr hd2 hn =>
      obtain ⟨b, e, ob⟩ := dobj_den I (.dt hr hd2 hn)
      cases e
      cases ry
      exact eq_str_dict a t ob hu
  | int a =>
    obtain ⟨t, rfl⟩ := rx
    cases dy with
    | non => cases ry; exact SeqAt.EqAt.int_none a t
    | bl b => cases ry; exact SeqAt.EqAt.int_bool a t b
    | int i => obtain ⟨w, rfl⟩ := ry; exact SeqAt.EqAt.int_int a t i w
    | str b => obtain ⟨w, rfl⟩ := ry; exact SeqAt.EqAt.int_str a t b w
    | lst s1 l1 =>
      cases ry
      obtain ⟨us, r1, p1, _⟩ := I.list s1.l
      exact SeqAt.EqAt.int_list a t p1.isList hu
    | tup s1 l1 =>
      cases ry
      obtain ⟨us, r1, p1, _⟩ := I.tuple s1.t
      exact SeqAt.EqAt.int_tuple a t p1 hu
    | dk hr hd2 =>
      obtain ⟨b, e, ob⟩ := dobj_den I (.dk hr hd2)
      cases e
      cases ry
      exact eq_int_dict a t ob hu
    | dt hr hd2 hn =>
      obtain ⟨b, e, ob⟩ := dobj_den I (.dt hr hd2 hn)
      cases e
      cases ry
      exact eq_int_dict a t ob hu
  | _ => simp [atomD] at hd
theorem valsQ_at : ∀ {xs : List V} {us : List Value} {i : Nat}, Vals xs us → (h : i < us.length) → ∃ x, xs[i]? = some x ∧ L2.RelV x us[i]
  | _, _, i, .nil, h => absurd h (by simp)
  | _, _, 0, .cons r t, h => ⟨_, rfl, r⟩
  | _, _, i + 1, .cons r t, h => by
    obtain ⟨x, e, q⟩ := valsQ_at t (i := i) (by simpa using h)
    exact ⟨x, by simpa using e, by simpa using q⟩
theorem denQ_at {K : Frg} {G : Hp} : ∀ {vs : List V} {ds : List D} {i : Nat} {v : V} {d : D}, DenL K G vs ds → vs[i]? = some v → ds[i]? = some d → Den K G v d
  | _, _, i, v, d, .nil, e, _ => by cases e
  | _, _, 0, v, d, .cons r t, e, f => by
    simp only [List.getElem?_cons_zero, Option.some.injEq] at e f
    subst e f
    exact r
  | _, _, i + 1, v, d, .cons r t, e, f => denQ_at t (by simpa using e) (by simpa using f)
theorem row_any {X : Cx} {pins : List (Addr × Obj)} {σ : L2.St} {H : Hp} {s : Shared} {A : Around} {x y : V} {v u : Value} {ds : List D} {e : D} (I : L2.Inv X pins σ H s) (hd : ds.all atomD = true) (dx : Den X.K H x (.tuple ds)) (dy : Den X.K H y e) (rx : L2.RelV x v) (ry : L2.RelV y u) (hu : A.units + 1 < cLine) :
    SeqAt.RcAt A s v u (PyData.eqv (.tuple ds) e) := by
  obtain ⟨a, xs, rfl, s0, l0⟩ := dx.of_tup
  cases rx
  obtain ⟨us, r0, p0, _⟩ := I.tuple s0.t
  have hu1 : A.units < cLine := by omega
  cases dy with
  | non => cases ry; exact SeqAt.RcAt.tuple_none p0 hu1
  | bl b => cases ry; exact SeqAt.RcAt.tuple_bool b p0 hu1
  | int i => obtain ⟨w, rfl⟩ := ry; exact SeqAt.RcAt.tuple_int i w p0 hu1
  | str b => obtain ⟨w, rfl⟩ := ry; exact SeqAt.RcAt.tuple_str b w p0 hu1
  | lst s1 l1 =>
    cases ry
    obtain ⟨ws, r1, p1, _⟩ := I.list s1.l
    exact SeqAt.RcAt.tuple_list p0 p1.isList hu1
  | dk hr hd2 =>
    obtain ⟨b, e, ob⟩ := dobj_den I (.dk hr hd2)
    cases e
    cases ry
    exact rc_tup_dict p0 ob hu1
  | dt hr hd2 hn =>
    obtain ⟨b, e, ob⟩ := dobj_den I (.dt hr hd2 hn)
    cases e
    cases ry
    exact rc_tup_dict p0 ob hu1
  | @tup b ys es s1 l1 =>
    cases ry
    obtain ⟨ws, r1, p1, _⟩ := I.tuple s1.t
    have n0 : us.length = ds.length := by rw [← r0.length, l0.length]
    have n1 : ws.length = es.length := by rw [← r1.length, l1.length]
    show SeqAt.RcAt A s _ _ (PyData.eqvAll ds es)
    rw [← SeqAt.eqvAll_eq ds es, ← n0, ← n1]
    have z := SeqAt.RcAt.tuples (e := SeqAt.pairEq ds es) p0 p1 hu1 fun j h1 h2 => by
      rw [List.size_toArray] at h1 h2
      obtain ⟨x, ex, rx⟩ := valsQ_at r0 h1
      obtain ⟨y, ey, ry⟩ := valsQ_at r1 h2
      have d1 : j < ds.length := by omega
      have d2 : j < es.length := by omega
      have e1 : SeqAt.pairEq ds es j = PyData.eqv ds[j] es[j] := by
        show PyData.eqv (ds.getD j .none) (es.getD j .none) = _
        rw [List.getD_eq_getElem?_getD, List.getD_eq_getElem?_getD, List.getElem?_eq_getElem d1, List.getElem?_eq_getElem d2]
        rfl
      rw [e1, List.getElem_toArray, List.getElem_toArray]
      exact row_item I (List.all_eq_true.mp hd _ (List.getElem_mem d1)) (denQ_at l0 ex (List.getElem?_eq_getElem d1)) (denQ_at l1 ey (List.getElem?_eq_getElem d2)) rx ry hu
    simpa using z
def rEqRow (K : Frg) : R2 := fun x y H Q => ∃ ds e, ds.all atomD = true ∧ Den K H x (.tuple ds) ∧ Den K H y e ∧ Q (.bl (PyData.eqv (.tuple ds) e)) H
theorem op_eqRow (hu : X.A.units + 64 < cLine) : OpR X (compareOp .Eq) (rEqRow X.K) := by
  intro pins s σ H x y v u Q I rx ry h
  obtain ⟨ds, e, hd, dx, dy, q⟩ := h
  exact row_any I hd dx dy rx ry (by omega) _ _ _ _ ⟨.bl _, H, I, rfl, q⟩
open Classical in
/-- a == b: shaped data, or the same data -/
noncomputable def dEqS (a b : D) : Option D := if shp a = true ∧ shp b = true then some (.bool (PyData.eqv a b)) else if a = b ∧ a.depth ≤ 60 ∧ nodt a = true then some (.bool true) else match emp2 a b with
  | some z => some (.bool z)
  | none => if rowD a = true then some (.bool (PyData.eqv a b)) else none
end
section
variable {X : Cx} {W : WX} {fx : List Nat} {md : Md} {pa pb : Bool} {a b : Expr} {ma mb : M D} {pos : Pos}
theorem os_eqS : OpS X.K (fun x y H Q => (∃ d e, Dp X.K H x d ∧ Dp X.K H y e ∧ SeqAt.shaped d = true ∧ SeqAt.shaped e = true ∧ Q (.bl (PyData.eqv d e)) H) ∨ rEqSm X.K x y H Q ∨ rEq x y H Q ∨ rEqE X.K x y H Q ∨ rEqRow X.K x y H Q) dEqS := fun G H x y d1 d2 d Q gl e1 e2 e k => by
  unfold dEqS at e
  split at e
  · rename_i hs
    cases e
    exact .inl ⟨d1, d2, (e1.up gl).dp (shp_lay hs.1), (e2.up gl).dp (shp_lay hs.2), hs.1, hs.2, k _ G H (Grow.refl gl) (.bl _)⟩
  · split at e
    · rename_i hs
      cases e
      obtain ⟨rfl, h1, h2⟩ := hs
      have kk := k _ G H (Grow.refl gl) (.bl true)
      by_cases h3 : flat d1 = true
      · have e : x = y ∧ scal x y = true := by
          cases d1 with
          | none => cases e1; cases e2; exact ⟨rfl, rfl⟩
          | bool b => cases e1; cases e2; exact ⟨rfl, rfl⟩
          | int i => cases e1; cases e2; exact ⟨rfl, rfl⟩
          | str z => cases e1; cases e2; exact ⟨rfl, rfl⟩
          | _ => simp [flat] at h3
        obtain ⟨rfl, sc⟩ := e
        exact .inr (.inr (.inl ⟨sc, by rw [decide_eq_true rfl]; exact kk⟩))
      · exact .inr (.inl ⟨d1, h1, h2, by simpa using h3, e1.up gl, e2.up gl, kk⟩)
    · split at e
      · rename_i b z
        cases e
        exact .inr (.inr (.inr (.inl ⟨b, emp2_R gl e1 e2 z, k _ G H (Grow.refl gl) (.bl _)⟩)))
      · split at e
        · rename_i hr
          cases e
          unfold rowD at hr
          split at hr
          · exact .inr (.inr (.inr (.inr ⟨_, d2, hr, e1.up gl, e2.up gl, k _ G H (Grow.refl gl) (.bl _)⟩)))
          · cases hr
        · cases e
theorem flat_dEqS : Flat2 dEqS := fun a b d h => by
  unfold dEqS at h
  split at h
  · cases h; rfl
  · split at h
    · cases h; rfl
    · split at h
      · cases h; rfl
      · split at h <;> cases h
        rfl
theorem x_eqS (hu : X.A.units + 64 < cLine) (ha : Ex X W md pa a ma) (hb : Ex X W md pb b mb) (hm : md = .frz ∨ pb = true := by first | exact Or.inl rfl | exact Or.inr rfl) : Ex X W .frz (pa && pb) (.Compare a [.Eq] [b] pos) (m2 dEqS ma mb) :=
  ex2s (fun ta tb p q => pe_cmpR ((op_eqD hu).or ((op_eqSm hu).or (op_eq.or ((op_eqE hu).or (op_eqRow hu))))) p q (nomark _)) os_eqS flat_dEqS ha hb hm
theorem t_eqS (hu : X.A.units + 64 < cLine) (ha : Ex X W md pa a ma) (hb : Ex X W md pb b mb) (hm : md = .frz ∨ pb = true := by first | exact Or.inl rfl | exact Or.inr rfl) : Et X W (pa && pb) (.Compare a [.Eq] [b] pos) ((m2 dEqS ma mb).bind tru) :=
  et2 (fun ta tb p q => pt_cmpR ((op_eqD hu).or ((op_eqSm hu).or (op_eq.or ((op_eqE hu).or (op_eqRow hu))))) p q (nomark _)) os_eqS ha hb hm
end
end DL
/-! The data layer, part R: dicts displayed. -/
namespace DL
open PySem L2 PyProof.Rows
def keyO : D → Option Key
  | .int i => some (.inl i)
  | .str x => some (.inr x)
  | _ => none
theorem keyO_D {d : D} {k : Key} (h : keyO d = some k) : keyD k = d := by
  cases d <;> simp [keyO] at h <;> subst h <;> rfl
theorem keyO_den {K : Frg} {G : Hp} {v : V} {d : D} {k : Key} (h : keyO d = some k) (dv : Den K G v d) : v = kV k := by
  cases d <;> simp [keyO] at h <;> subst h <;> cases dv <;> rfl
def pairsO : List (D × D) → Option (List (Key × D))
  | [] => some []
  | (k, d) :: r => match keyO k, pairsO r with
    | some k, some ps => some ((k, d) :: ps)
    | _, _ => none
inductive DenP (K : Frg) (G : Hp) : List (V × V) → List (D × D) → Prop
  | nil : DenP K G [] []
  | cons {x y : V} {ps : List (V × V)} {k d : D} {kds : List (D × D)} : Den K G x k → Den K G y d → DenP K G ps kds → DenP K G ((x, y) :: ps) ((k, d) :: kds)
theorem DenP.up {K : Frg} {G H : Hp} (g : GLe G H) : ∀ {ps : List (V × V)} {kds : List (D × D)}, DenP K G ps kds → DenP K H ps kds
  | _, _, .nil => .nil
  | _, _, .cons a b r => .cons (a.up g) (b.up g) (r.up g)
theorem denP_pairs {K : Frg} {G : Hp} : ∀ {ps : List (V × V)} {kds : List (D × D)} {kvs : List (Key × D)}, DenP K G ps kds → pairsO kds = some kvs →
    ∃ ks : List (Key × V), ps = ks.map (fun kv => (kV kv.1, kv.2)) ∧ ks.map (·.1) = kvs.map (·.1) ∧ ∀ H, OwnK K G H ks (kds.map fun p => (p.1, T.fz p.2)) []
  | _, _, kvs, .nil, e => by
    simp [pairsO] at e
    subst e
    exact ⟨[], rfl, rfl, fun _ => .nil⟩
  | _, _, kvs, .cons (x := x) (y := y) (k := k) a b r, e => by
    unfold pairsO at e
    split at e
    · rename_i k' ps' e1 e2
      cases e
      obtain ⟨ks, z1, z2, z3⟩ := denP_pairs r e2
      refine ⟨(k', y) :: ks, by rw [z1, keyO_den e1 a]; rfl, by simp [z2], fun H => ?_⟩
      have := OwnK.cons (K := K) (G := G) (H := H) (k := k') (F := []) (F' := []) (.fz b) (z3 H)
      rw [keyO_D e1] at this
      exact this
    · cases e
theorem mergeK_app : ∀ (more kvs : List (Key × V)), ((kvs ++ more).map (·.1)).Nodup → mergeK kvs more = kvs ++ more
  | [], kvs, _ => by simp [mergeK]
  | p :: r, kvs, h => by
    have e : putK kvs p.1 p.2 = kvs ++ [p] := by
      rw [putK_new]
      cases q : valV kvs p.1 with
      | none => rfl
      | some u =>
        have : (valV kvs p.1).isSome = true := by rw [q]; rfl
        rw [← valV_any, List.any_eq_true] at this
        obtain ⟨y, hy, hd⟩ := this
        rw [List.map_append, List.nodup_append] at h
        exact absurd (by simpa using hd) (h.2.2 y.1 (List.mem_map.mpr ⟨y, hy, rfl⟩) p.1 (by simp))
    have := mergeK_app r (kvs ++ [p]) (by simpa using h)
    show mergeK (putK kvs p.1 p.2) r = _
    rw [e, this]
    simp
open Classical in
noncomputable def tDisp1 (kds : List (D × D)) : Option T := match pairsO kds with
  | some kvs => if (kvs.map (·.1)).Nodup ∧ kvs.length ≤ 15 then some (.od (kds.map fun p => (p.1, T.fz p.2))) else none
  | none => none
def mPairs : List (M D × M D) → M (List (D × D))
  | [] => M.pure []
  | (mk, mv) :: r => mk.bind fun k => mv.bind fun d => (mPairs r).bind fun ps => M.pure ((k, d) :: ps)
section
variable {X : Cx} {W : WX} {pos : Pos} {k v : Expr} {keys : List (Option Expr)} {vals : List Expr} {mk mv : M D} {ms : List (M D × M D)}
/-- the pairs of a display -/
def Ep (X : Cx) (W : WX) (pos : Pos) (keys : List (Option Expr)) (vals : List Expr) (ms : List (M D × M D)) : Prop :=
  ∃ trs, PPs X pos keys vals trs ∧ ∀ G H σ env Fp Q, Sta X.K G H σ env Fp → Post X.K X.mg W (fun G H b a Fr => Fr = [] ∧ DenP X.K G b a) true σ G H Fp env Q (mPairs ms env) → tPairs trs σ H Q
theorem ep_nil : Ep X W pos [] [] [] := ⟨[], pps_nil, fun G H σ env Fp Q S h => post_pure h S ⟨rfl, .nil⟩⟩
theorem ep_cons (hk : Ex X W .frz true k mk) (hv : Ex X W .frz true v mv) (hr : Ep X W pos keys vals ms) : Ep X W pos (some k :: keys) (v :: vals) ((mk, mv) :: ms) := by
  obtain ⟨tk, p1, k1⟩ := hk
  obtain ⟨tv, p2, k2⟩ := hv
  obtain ⟨tr, p3, k3⟩ := hr
  refine ⟨_, pps_cons p1 p2 p3, fun G H σ env Fp Q S h => k1 G H σ env Fp _ S (Post.bind (pu1 := true) (pu2 := true) h vrd_nil fun d1 env1 v1 G1 H1 Fp1 st1 S1 q1 w1 h1 => ?_)⟩
  refine k2 G1 H1 σ env1 Fp1 _ S1 (Post.bind (pu1 := true) (pu2 := true) h1 vrd_nil fun d2 env2 v2 G2 H2 Fp2 st2 S2 q2 w2 h2 => ?_)
  refine k3 G2 H2 σ env2 Fp2 _ S2 (Post.bind (pu1 := true) (pu2 := true) h2 (fun _ _ _ _ _ h => h.1) fun ps env3 vs G3 H3 Fp3 st3 S3 q3 w3 h3 => ?_)
  exact post_pure h3 S3 ⟨rfl, .cons ((w1.2.up (same_gle st2.sub)).up (same_gle st3.sub)) (w2.2.up (same_gle st3.sub)) w3.2⟩
noncomputable def mDisp (ms : List (M D × M D)) : M T := (mPairs ms).bind fun ps => M.lift (tDisp1 ps)
theorem o_disp (h : Ep X W pos keys vals ms) (hall : keys.all (·.isSome) = true := by rfl) (hl : keys.length = vals.length := by rfl) (h0 : keys ≠ [] := by simp) (h15 : keys.length ≤ 15 := by decide) : Eo X W true (.Dict keys vals pos) (mDisp ms) := by
  obtain ⟨tr, p, kk⟩ := h
  refine ⟨_, pe_disp p hall hl h0 h15, fun G H σ env Fp Q S h => fun a ha => ?_⟩
  have w0 : Grow G H G (upd H a (.dK [])) := grow_new S.le ha _
  have S0 := S.grow w0
  unfold mDisp at h
  refine kk G (upd H a (.dK [])) σ env Fp _ S0 ?_
  cases r : mPairs ms env with
  | bad => rw [M.bind_bad r] at h; exact h
  | exn x e' =>
    rw [M.bind_exn r] at h
    exact fun cls dd G' H' Fp' st S' q => h cls dd G' H' Fp' (w0.step.trans st) S' q
  | ok ps env1 =>
    rw [M.bind_ok r] at h
    intro vs G1 H1 Fp1 Fr st S1 nd ap pur w
    obtain ⟨rfl, dp⟩ := w
    obtain ⟨rfl, rfl, gw⟩ := pur rfl
    have ea : H1 a = some (.dK []) := gw.same a _ upd_same
    refine ⟨ea, ?_⟩
    unfold M.lift at h
    cases q : tDisp1 ps with
    | none => rw [q] at h; exact h.elim
    | some t =>
      rw [q] at h
      unfold tDisp1 at q
      split at q
      · rename_i kvs e1
        split at q
        · rename_i hc
          cases q
          obtain ⟨ks, e2, e3, e4⟩ := denP_pairs dp e1
          have em : mergeK [] ks = ks := by
            rw [mergeK_app ks [] (by simpa [e3] using hc.1)]
            rfl
          refine ⟨ks, e2, by have := congrArg List.length e3; simp at this; rw [this]; exact hc.2, ?_⟩
          rw [em]
          have aG : G1 a = none := by
            cases z : G1 a with
            | none => rfl
            | some o =>
              rcases gw.frG a (by rw [z]; exact fun z => nomatch z) with y | y | ⟨xs, y⟩
              · exact absurd (gle_none S.le ha) y
              · rw [upd_same] at y; cases y
              · rw [upd_same] at y; cases y
          have aF : a ∉ Fp1 := fun m => by
            have b := S.sl.boxes a m
            rw [ha] at b
            exact b
          have keep : ∀ b, b ≠ a → upd H1 a (.dK ks) b = H1 b := fun b hb => upd_ne hb
          have le2 : GLe G1 (upd H1 a (.dK ks)) := fun b o e => by
            rw [keep b fun z => by rw [z, aG] at e; cases e]
            exact gw.le b o e
          have S2 : Sta X.K G1 (upd H1 a (.dK ks)) σ env1 Fp1 := ⟨le2, S1.sl.stay (GLe.refl _) fun b m => keep b fun z => aF (z ▸ m), S1.nd, S1.ap⟩
          have same2 : Same H (upd H1 a (.dK ks)) := fun b o e => by
            have hb : b ≠ a := fun z => by rw [z, ha] at e; cases e
            rw [keep b hb]
            exact gw.same b o (w0.same b o e)
          have frG2 : ∀ b, G1 b ≠ none → G b ≠ none ∨ H b = none ∨ ∃ xs, H b = some (.tup xs) := (w0.trans gw).frG
          have gw2 : Grow G H G1 (upd H1 a (.dK ks)) := ⟨same2, (w0.trans gw).sub, le2, frG2⟩
          have one : ∀ b, b ∈ [a] → b = a := fun b m => by simpa using m
          refine h _ G1 _ Fp1 [a] ⟨fun b o e _ => same2 b o e, gw2.sub, (gw2.step (Fp := Fp1)).frG, fun b m => ?_⟩ S2 (List.nodup_append.mpr ⟨by simp, S1.nd, fun x hx y hy z => aF (by rw [← one x hx, z]; exact hy)⟩) (fun x hx => by rw [one x hx]; exact aG) (fun _ => ⟨rfl, rfl, gw2⟩) (.odk upd_same (e4 _))
          rcases List.mem_append.mp m with m | m
          · rw [one b m]; exact .inl ha
          · exact .inr m
        · cases q
      · cases q
def mDic0 : M T := M.pure (.od [])
theorem o_dic0K : Eo X W true (.Dict [] [] pos) mDic0 := ⟨_, pe_dnewK, fun G H σ env Fp Q S h a ha => by
  have w0 : Grow G H G (upd H a (.dK [])) := grow_new S.le ha _
  obtain ⟨n1, n2⟩ := grow_nodup (F := [a]) S w0 (by simp) fun b m => by
    have : b = a := by simpa using m
    rw [this]; exact ⟨gle_none S.le ha, ha⟩
  exact h _ G _ Fp [a] n2 (S.grow w0) n1 (fun b m => by
    have : b = a := by simpa using m
    rw [this]; exact gle_none S.le ha) (fun _ => ⟨rfl, rfl, w0⟩) (.odk upd_same .nil)⟩
end
end DL
/-! The data layer, part S: the law's own call, the guards known. -/
namespace DL
open PySem PySem.Spec L2 PyProof.Rows
def ScrO (a : Addr) (us : List Value) : Obj := { cls := .type "list", data := .seq us.toArray }
/-- one abstract heap that holds the script alone: the law's promise there is the law -/
theorem law_in {P : Program} {w : World} {K : Frg} {mg mb : Str → Option Value} {k : Nat} {fa a : Addr} {fd : FuncData} {x : Str} {sp : Sp} {t : Shared} {us : List Value} {H : Hp}
    (inK : K.In t.heap) (nsG : t.heap.Ns mainGlobals mg) (nsB : t.heap.Ns builtinsNs mb) (bt : ∀ y : Str, y ≠ "__name__" → mb y = bootBuiltins y) (nl : t.heap.NoLimit) (gn : t.gens = #[])
    (obj : t.heap.get? a = some (ScrO a us)) (room : GR k callerA) (F : ∀ base : Heap, K.In base → base.Ns mainGlobals mg → FnG P w K mg base k fa fd [x] sp) (bnd : ∀ (s : Shared) (u : Value), BindsTo s fd ⟨[u], []⟩ [(x, u)])
    (only : Only H) (ok : HOk P w H t.heap) (at1 : ∀ b, H b ≠ none → b = a) (nk : H a ≠ none → K.lookup a = none) (q0 : sp [.ref a] H (fun v _ => v = .bl true) fun _ _ _ => False) :
    codeAny (model P w) callerA (.call (.ref fa) ⟨[.ref a], []⟩) (fun r s' => r = .ok (.ret (.bool true)) ∧ OldK t.heap s'.heap ∧ s'.os = t.os ∧ AllBare s'.gens) t := by
  have notdict : ∀ {b : Addr} {o : Obj} {es : Array DictEntry} {ep : Nat}, t.heap.get? b = some o → o.data = .dict es ep → H b = none := by
    intro b o es ep e d
    by_cases z : H b = none
    · exact z
    · have y := at1 b z
      subst y
      rw [obj] at e
      cases e
      cases d
  have nsUp : ∀ {b : Addr} {m : Str → Option Value}, t.heap.Ns b m → (hidT t.heap H).Ns b m := by
    rintro b m ⟨o, es, ep, e, d, r⟩
    exact ⟨o, es, ep, hidT_get e (notdict e d), d, r⟩
  have inK' : K.In (hidT t.heap H) := fun b o e => hidT_get (inK b o e) (Classical.byContradiction fun z => by
    have y := at1 b z
    subst y
    rw [nk z] at e
    cases e)
  obtain ⟨ml, l1, l2⟩ := nl
  have env0 : Env0 P w K mg (hidT t.heap H) callerA [] t H := ⟨rfl, ⟨inK', nsUp nsG, ⟨mb, nsUp nsB, bt⟩, ⟨ml, nsUp l1, l2⟩⟩, fun b o e => of_hidT e, Nat.le_of_eq (hidT_size _ _), trivial, fun b hb => (nomatch (show b ∈ ([] : List Addr) from hb)), ok, .of_eq gn⟩
  have run := (F _ inK' (nsUp nsG)).run callerA [] t H ⟨[.ref a], []⟩ [.ref a] [.ref a] _ _ room env0 (bnd t (.ref a)) (.cons rfl .nil) q0
  refine codeAny_mono run fun r s' out => ?_
  match r, out with
  | .error e, ⟨_, _, _, _, _, _, _, _, _, _, _, _, f⟩ => exact f.elim
  | .ok .next, f => exact f.elim
  | .ok .brk, f => exact f.elim
  | .ok .cont, f => exact f.elim
  | .ok (.ret u), ⟨v, H', os, bare, un, ok', rv, e1⟩ =>
    have e1 : v = .bl true := e1
    subst e1
    have e2 : u = Value.bool true := rv
    subst e2
    refine ⟨rfl, OldK.of_keep fun b o e => ?_, os, bare⟩
    rcases only b with z | ⟨ob, xs, z⟩
    · exact un.keep b o e z (fun y => nomatch (show b ∈ ([] : List Addr) from y)) (by simp)
    · have g1 := (ok b _ z).1
      have g2 := (ok' b _ (un.frzs b ob _ z)).1
      rw [e] at g1
      cases g1
      exact g2
theorem law_callG {P : Program} {w : World} {K : Frg} {mg mb : Str → Option Value} {k : Nat} {fa a : Addr} {fd : FuncData} {x : Str} {sp : Sp} {t : Shared} {us : List Value} {ns : List Int}
    (inK : K.In t.heap) (nsG : t.heap.Ns mainGlobals mg) (nsB : t.heap.Ns builtinsNs mb) (bt : ∀ y : Str, y ≠ "__name__" → mb y = bootBuiltins y) (nl : t.heap.NoLimit) (gn : t.gens = #[])
    (obj : t.heap.get? a = some { cls := .type "list", data := .seq us.toArray }) (hi : IntsAre us ns) (hl : ns.length ≤ sizeLine) (room : GR k callerA) (F : ∀ base : Heap, K.In base → base.Ns mainGlobals mg → FnG P w K mg base k fa fd [x] sp)
    (bnd : ∀ (s : Shared) (u : Value), BindsTo s fd ⟨[u], []⟩ [(x, u)]) (hsp : ∀ H : Hp, Only H → SqX K H a (ns.map V.int) → sp [.ref a] H (fun v _ => v = .bl true) fun _ _ _ => False) :
    codeAny (model P w) callerA (.call (.ref fa) ⟨[.ref a], []⟩) (fun r s' => r = .ok (.ret (.bool true)) ∧ OldK t.heap s'.heap ∧ s'.os = t.os ∧ AllBare s'.gens) t := by
  have rv := vals_ints hi
  have le : us.toArray.size ≤ sizeLine := by
    rw [List.size_toArray, hi.length]
    exact hl
  cases hk : K.lookup a with
  | some o =>
    have e := inK a o hk
    rw [obj] at e
    cases e
    have s0 : SqX K (fun _ => none) a (ns.map V.int) := .inr ⟨us, _, hk, by simpa using le, rv⟩
    have o0 : Only fun _ => none := fun _ => .inl rfl
    exact law_in inK nsG nsB bt nl gn obj room F bnd o0 (fun b u z => nomatch (show (none : Option HO) = some u from z)) (fun b z => absurd rfl z) (fun z => absurd rfl z) (hsp _ o0 s0)
  | none =>
    let H0 : Hp := fun b => if b = a then some (.frz { cls := .type "list", data := .seq us.toArray } (.lst (ns.map V.int))) else none
    have hit : H0 a = some (.frz { cls := .type "list", data := .seq us.toArray } (.lst (ns.map V.int))) := if_pos rfl
    have miss : ∀ b, b ≠ a → H0 b = none := fun b z => if_neg z
    have o0 : Only H0 := fun b => by
      by_cases z : b = a
      · subst z; exact .inr ⟨_, _, hit⟩
      · exact .inl (miss b z)
    have s0 : SqX K H0 a (ns.map V.int) := .inl (.inr ⟨_, hit⟩)
    refine law_in inK nsG nsB bt nl gn obj room F bnd o0 (fun b u z => ?_) (fun b z => Classical.byContradiction fun y => z (miss b y)) (fun _ => hk) (hsp _ o0 s0)
    by_cases y : b = a
    · subst y
      rw [hit] at z
      cases z
      exact ⟨obj, by rw [List.length_map]; exact hl, us, _, rv, obj⟩
    · rw [miss b y] at z
      cases z
/-- nothing tracked but the script: the state in which the law's def is entered -/
theorem den_ints {K : Frg} {G : Hp} : ∀ ns : List Int, DenL K G (ns.map V.int) (ns.map PyData.int)
  | [] => .nil
  | n :: r => .cons (.int n) (den_ints r)
/-- the goal that k_head leaves, from what the law's def computes -/
theorem walk_ofD {l : PySem.W.OpenLaw} {n k : Nat} {q : Program} {loose : List Str} {XP : (Str → Option Value) → Heap → Prop} {YP : World → Heap → Prop} {d : DefRec} {Kf : Params → Frg} {x : Str} {sem : Sem}
    (hn : l.most = some n) (hn2 : n ≤ sizeLine) (hdf : d.params.defaults = []) (room : GR k callerA) (hY : ∀ (w : World) (h : Heap), YP w h → (Kf w.params).In h)
    (F : ∀ (w : World) (mg : Str → Option Value) (fa : Addr) (h : Heap), (Kf w.params).In h → h.Ns mainGlobals mg → mg d.name = some (.ref fa) →
      ∃ fd : FuncData, (∀ (s : Shared) (u : Value), BindsTo s fd ⟨[u], []⟩ [(x, u)]) ∧ ∀ base : Heap, (Kf w.params).In base → base.Ns mainGlobals mg → FnG l.prog w (Kf w.params) mg base k fa fd [x] (spD (Kf w.params) mg 1 sem))
    (ev : ∀ ns : List Int, ns.length ≤ n → ∃ e, sem [some (.fz (.list (ns.map PyData.int)))] = .ok (.fz (.bool true)) e) :
    PySem.W.WalkO q loose XP YP l.row.toRowW d [] (fun f vs => PySem.call f vs) := by
  refine Att.attach_call hn hdf fun w s₀ t mg mb fa o pm cd doc a us ns G Y ho hd hcd hmg obj hi hl gn => ?_
  have inK := hY w _ Y
  obtain ⟨fd, bnd, hF⟩ := F w mg fa _ inK G.T.g hmg
  refine law_callG inK G.T.g G.T.b G.T.builtins G.T.nolimit gn obj hi (Nat.le_trans hl hn2) room hF bnd fun H only sq => ?_
  obtain ⟨e, q⟩ := ev ns hl
  refine ⟨rfl, H, [some (.fz (.list (ns.map PyData.int)))], [], ⟨GLe.refl H, .so (F := []) (F' := []) (.fz (.lst sq (den_ints ns))) .nil, List.nodup_nil, fun _ m => nomatch m⟩, ?_⟩
  rw [q]
  intro v G' H' Fp' Fr _ _ _ _ ow
  cases ow with
  | fz dv => exact dv.of_bool
end DL
/-! The data layer, part T: owned trees handed on: arguments that are moved, items moved out, lists joined. -/
namespace DL
open PySem L2 PyProof.Rows
section
variable {X : Cx} {W : WX} {fx : List Nat} {md : Md} {pu pa pb pc : Bool} {e a b c : Expr} {es : List Expr} {m ma mb : M D} {mt ut : M T} {mts : M (List T)} {p pos : Pos} {x : Str} {k n : Nat} {sem : Sem}
/-! ### an item moved out of a list that a name holds -/
/-! ### two lists joined, their items moved -/
/-! ### what is read of an owned thing and is flat -/
def mFl (m : M D) : M D := m.bind fun d => if flat d = true then M.pure d else fun _ => .bad
theorem Ex.fl (h : Ex X W md pu e m) : Ex X W .frz pu e (mFl m) := by
  obtain ⟨te, p, k⟩ := h
  refine ⟨te, p, fun G H σ env Fp Q S q => k G H σ env Fp Q S ?_⟩
  unfold mFl at q
  cases r : m env with
  | bad => rw [M.bind_bad r] at q; exact q
  | exn x env' => rw [M.bind_exn r] at q; exact q
  | ok d env' =>
    rw [M.bind_ok r] at q
    by_cases f : flat d = true
    · rw [if_pos f] at q
      intro b G' H' Fp' Fr st S' nd ap pur v
      exact q b G' H' Fp' Fr st S' nd ap pur ⟨(vrd_gr.mp v).1, Den.flat (vrd_gr.mp v).2 f G'⟩
    · rw [if_neg f] at q
      exact q.elim
end
end DL
/-! The data layer, part U: a thing that stands under a key of a dict, changed where it stands. -/
namespace DL
open PySem L2 PyProof.Rows
section
variable {K : Frg} {G H : Hp}
/-- is this the key? -/
def kIs : Key → D → Bool
  | .inl i, .int j => decide (j = i)
  | .inr x, .str y => decide (y = x)
  | _, _ => false
theorem kIs_key (k j : Key) : kIs k (keyD j) = decide (j = k) := by
  cases j <;> cases k <;> simp [kIs, keyD]
/-- what stands under a key -/
def atK (k : Key) : List (D × T) → Option T
  | [] => none
  | (j, t) :: r => if kIs k j = true then some t else atK k r
def putK (k : Key) (t' : T) : List (D × T) → List (D × T)
  | [] => []
  | (j, t) :: r => if kIs k j = true then (j, t') :: r else (j, t) :: putK k t' r
def atV (k : Key) : List (Key × V) → Option V
  | [] => none
  | (j, v) :: r => if j = k then some v else atV k r
theorem atV_val (k : Key) : ∀ ks : List (Key × V), atV k ks = valV ks k
  | [] => rfl
  | (j, v) :: r => by
    unfold atV valV
    rw [List.find?_cons]
    by_cases z : j = k
    · rw [if_pos z]
      simp [z]
    · rw [if_neg z, atV_val k r]
      simp [z, valV]
/-- the thing under a key, and the dict again when that thing has changed -/
theorem OwnK.at (k : Key) : ∀ {ks : List (Key × V)} {kvs : List (D × T)} {F : List Addr} {t : T}, OwnK K G H ks kvs F → F.Nodup → atK k kvs = some t →
    ∃ v F1, atV k ks = some v ∧ Own K G H v t F1 ∧ F1.Nodup ∧ (∀ a ∈ F1, a ∈ F) ∧
      ∀ (H' : Hp) (t' : T) (F2 : List Addr), Own K G H' v t' F2 → F2.Nodup → (∀ a ∈ F, a ∉ F1 → H' a = H a) → (∀ a ∈ F2, a ∈ F → a ∈ F1) →
        ∃ F', OwnK K G H' ks (putK k t' kvs) F' ∧ F'.Nodup ∧ ∀ a ∈ F', (a ∈ F ∧ a ∉ F1) ∨ a ∈ F2
  | _, _, _, _, .nil, _, h => nomatch h
  | _, _, _, t, .cons (k := j) (v := v) (ks := ks) (t := u) (kvs := kvs) (F := FA) (F' := FB) o r, nd, h => by
    obtain ⟨n1, n2, n3⟩ := List.nodup_append.mp nd
    unfold atK at h
    by_cases z : kIs k (keyD j) = true
    · rw [if_pos z] at h
      cases h
      refine ⟨v, FA, by unfold atV; rw [if_pos (by rw [kIs_key] at z; exact of_decide_eq_true z)], o, n1, fun a m => List.mem_append_left _ m, fun H' t' F2 o2 nd2 st fr => ?_⟩
      have r2 : OwnK K G H' ks kvs FB := r.stay (fun _ _ e => .inl e) fun a m => st a (List.mem_append_right _ m) fun m1 => n3 a m1 a m rfl
      refine ⟨F2 ++ FB, by unfold putK; rw [if_pos z]; exact .cons o2 r2, List.nodup_append.mpr ⟨nd2, n2, fun a m b m' e => ?_⟩, fun a m => ?_⟩
      · subst e
        exact n3 a (fr a m (List.mem_append_right _ m')) a m' rfl
      · exact (List.mem_append.mp m).elim .inr fun m => .inl ⟨List.mem_append_right _ m, fun z => n3 a z a m rfl⟩
    · rw [if_neg z] at h
      obtain ⟨w, F1, hv, ow, nw, sb, back⟩ := OwnK.at k r n2 h
      refine ⟨w, F1, by unfold atV; rw [if_neg (fun e => z (by rw [kIs_key]; exact decide_eq_true e))]; exact hv, ow, nw, fun a m => List.mem_append_right _ (sb a m), fun H' t' F2 o2 nd2 st fr => ?_⟩
      have out : ∀ a ∈ FA, a ∉ F1 := fun a m m1 => n3 a m a (sb a m1) rfl
      obtain ⟨F', r', nd', sb'⟩ := back H' t' F2 o2 nd2 (fun a m n => st a (List.mem_append_right _ m) n) fun a m m' => fr a m (List.mem_append_right _ m')
      have o' : Own K G H' v u FA := o.stay (fun _ _ e => .inl e) fun a m => st a (List.mem_append_left _ m) (out a m)
      refine ⟨FA ++ F', by unfold putK; rw [if_neg z]; exact .cons o' r', List.nodup_append.mpr ⟨n1, nd', fun a m b m' e => ?_⟩, fun a m => ?_⟩
      · subst e
        rcases sb' a m' with q | q
        · exact n3 a m a q.1 rfl
        · exact out a m (fr a q (List.mem_append_left _ m))
      · rcases List.mem_append.mp m with q | q
        · exact .inl ⟨List.mem_append_left _ q, out a q⟩
        · exact (sb' a q).imp (fun q => ⟨List.mem_append_right _ q.1, q.2⟩) id
/-- a method of the thing under a key -/
def gAt (k : Key) (g : T → List T → Option (T × T)) : T → List T → Option (T × T)
  | .od kvs, ts => (atK k kvs).bind fun t => (g t ts).map fun q => (.od (putK k q.1 kvs), q.2)
  | _, _ => none
end
section
variable {X : Cx} {W : WX} {pa : Bool} {e : Expr} {es : List Expr} {mts : M (List T)} {pos : Pos}
def kOf : D → Option Key
  | .int i => some (.inl i)
  | .str x => some (.inr x)
  | _ => none
theorem kOf_den {K : Frg} {G : Hp} {v : V} {d : D} {k : Key} (h : kOf d = some k) (r : Den K G v d) : v = kV k := by
  cases d <;> simp only [kOf] at h <;> first | cases h | skip
  all_goals (cases r; rfl)
end
/-! ### d[key], read -/
section
variable {K : Frg} {G H : Hp}
def atKD (k : Key) : List (D × D) → Option D
  | [] => none
  | (j, t) :: r => if kIs k j = true then some t else atKD k r
theorem DenK.at (k : Key) : ∀ {ks : List (Key × V)} {kvs : List (D × D)} {d : D}, DenK K G ks kvs → atKD k kvs = some d → ∃ v, atV k ks = some v ∧ Den K G v d
  | _, _, _, .nil, h => nomatch h
  | _, _, d, .cons (k := j) (v := v) (ks := ks) (d := u) (kvs := kvs) o r, h => by
    unfold atKD at h
    rw [kIs_key] at h
    by_cases z : j = k
    · rw [if_pos (decide_eq_true z)] at h
      cases h
      exact ⟨v, by unfold atV; rw [if_pos z], o⟩
    · rw [if_neg (by rw [decide_eq_true_eq]; exact z)] at h
      obtain ⟨w, hw, dw⟩ := DenK.at k r h
      exact ⟨w, by unfold atV; rw [if_neg z]; exact hw, dw⟩
variable {X : Cx} {W : WX} {pa pb : Bool} {md : Md} {a b : Expr} {ma mb : M D} {pos : Pos}
end
end DL
/-! Sets of tuples of keys (whole numbers, texts, mixed): search, adding, laying anew, set(list). -/
namespace SG
open PySem PySem.Spec PyProof.Rows L2
/-! ### values that are no reference -/
section
variable {P : Program} {w : World} {A : Around} {E : Value → Shared → Prop} {s : Shared} {K : Type} [DecidableEq K] {kd : KeyKind P w K}
/-! ### a set of tuples of keys -/
structure SetG (kd : KeyKind P w K) (h : Heap) (a : Addr) (L : List (Addr × List K)) (es : Array (Int × Value)) (ep : Nat) (t : SetTable) : Prop where
  obj : ∃ o, h.get? a = some o ∧ o.ExactSet ∧ o.data = .set es ep t
  rws : es.toList = L.map fun p => (tupleKeyHash kd p.2, Value.ref p.1)
  tb : TabOk t (L.map fun p => tupleKeyHash kd p.2)
  one : (L.map Prod.snd).Nodup
  ks : ∀ p ∈ L, IsTupleKey kd h p.2 p.1
  ld : w.params.followText "set-order" = true ∨ t.led = true
  sp : L.length * 5 < t.mask * 3
  lim : L.length < 64
variable {a : Addr} {L : List (Addr × List K)} {es : Array (Int × Value)} {ep : Nat} {t : SetTable}
theorem SetG.len (R : SetG kd s.heap a L es ep t) : es.size = L.length := by
  have z := congrArg List.length R.rws
  simpa using z
theorem SetG.fit (R : SetG kd s.heap a L es ep t) : t.fits es.size = true := by
  have z1 := R.tb.sz
  have z2 := R.len
  have z3 := R.sp
  rw [List.length_map] at z1
  unfold SetTable.fits SetTable.fill
  rw [R.tb.dm]
  simp
  omega
theorem SetG.row (R : SetG kd s.heap a L es ep t) {i : Nat} {p : Addr × List K} (h : L[i]? = some p) : es[i]? = some (tupleKeyHash kd p.2, Value.ref p.1) := by
  have z : es.toList[i]? = some (tupleKeyHash kd p.2, Value.ref p.1) := by rw [R.rws, List.getElem?_map, h]; rfl
  rwa [Array.getElem?_toList] at z
theorem SetG.kept (R : SetG kd s.heap a L es ep t) : ¬ t.gaveWay = true := by
  unfold SetTable.gaveWay
  rw [mask_odd R.tb.mok]
  simp
end
end SG
/-! Sets of tuples of keys: adding, and set(a list). -/
namespace SG
open PySem PySem.Spec PyProof.Rows L2
section
variable {P : Program} {w : World} {A : Around} {E : Value → Shared → Prop} {s : Shared} {K : Type} [DecidableEq K] {kd : KeyKind P w K} {a : Addr} {L : List (Addr × List K)} {es : Array (Int × Value)} {ep : Nat} {t : SetTable}
end
end SG
/-! set(a list), whatever its items: by what is told of one added item. -/
namespace SG
open PySem PySem.Spec PyProof.Rows L2
section
variable {P : Program} {w : World} {A : Around} {E : Value → Shared → Prop} {s : Shared}
end
end SG
/-! Sets of keys (whole numbers, texts), and sorted(a set). -/
namespace SG
open PySem PySem.Spec PyProof.Rows L2 PySem.W
theorem each_imp {α β : Type} {R S : α → β → Prop} (k : ∀ a b, R a b → S a b) {as : List α} {bs : List β} (h : EachIs R as bs) : EachIs S as bs := by
  induction h with
  | nil => exact .nil
  | cons h1 _ ih => exact .cons (k _ _ h1) ih
theorem each_map1 {α α' β : Type} {R : α' → β → Prop} (f : α → α') {as : List α} {bs : List β} (h : EachIs (fun a b => R (f a) b) as bs) : EachIs R (as.map f) bs := by
  induction h with
  | nil => exact .nil
  | cons h1 _ ih => exact .cons h1 ih
section
variable {P : Program} {w : World} {A : Around} {E : Value → Shared → Prop} {s : Shared} {a : Addr}
/-- the values of the set that stands at a -/
structure SetV (w : World) (h : Heap) (a : Addr) (us : List Value) : Prop where
  ex : ∃ o es ep t, h.get? a = some o ∧ o.ExactSet ∧ o.data = .set es ep t ∧ es.toList.map (·.2) = us ∧ es.size < scanBound ∧ t.fits es.size = true ∧ Ris t.place.toList ∧ (w.params.followText "set-order" = true ∨ t.led = true)
/-- an entry is a key -/
def EKey (P : Program) (w : World) (e : Int × Value) (k : Key) : Prop := (mixKind P w).is k e.2 = true ∧ e.1 = (mixKind P w).hash k
structure SetKy (P : Program) (w : World) (h : Heap) (a : Addr) (js : List Key) : Prop where
  ex : ∃ o es ep t, h.get? a = some o ∧ o.ExactSet ∧ o.data = .set es ep t ∧ EachIs (EKey P w) es.toList js ∧ js.Nodup ∧ es.size < scanBound ∧ t.fits es.size = true ∧ Ris t.place.toList ∧ (w.params.followText "set-order" = true ∨ t.led = true)
theorem SetKy.vals {h : Heap} {js : List Key} (R : SetKy P w h a js) : ∃ us, SetV w h a us ∧ EachIs (fun u k => (mixKind P w).is k u = true) us js := by
  obtain ⟨o, es, ep, t, h1, h2, h3, h4, h5, h6, h7, h8, h9⟩ := R.ex
  exact ⟨_, ⟨o, es, ep, t, h1, h2, h3, rfl, h6, h7, h8, h9⟩, each_map1 (·.2) (each_imp (fun _ _ q => q.1) h4)⟩
theorem SetKy.kept {h h' : Heap} {js : List Key} (R : SetKy P w h a js) (k : ∀ o, h.get? a = some o → h'.get? a = some o) : SetKy P w h' a js := by
  obtain ⟨o, es, ep, t, h1, r⟩ := R.ex
  exact ⟨o, es, ep, t, k o h1, r⟩
/-! ### what a set holds when it is made of a list -/
/-- of some items each once -/
structure Once {α κ : Type} (f : α → κ) (all some : List α) : Prop where
  sub : ∀ x ∈ some, x ∈ all
  has : ∀ x ∈ all, f x ∈ some.map f
  nd : (some.map f).Nodup
theorem Once.nil {α κ : Type} {f : α → κ} : Once f [] ([] : List α) := ⟨(fun _ m => nomatch m), (fun _ m => nomatch m), List.nodup_nil⟩
theorem Once.same {α κ : Type} {f : α → κ} {all some : List α} {x : α} (o : Once f all some) (h : f x ∈ some.map f) : Once f (all ++ [x]) some :=
  ⟨fun y m => List.mem_append_left _ (o.sub y m), fun y m => (List.mem_append.mp m).elim (o.has y) fun z => by rw [List.mem_singleton.mp z]; exact h, o.nd⟩
theorem Once.more {α κ : Type} {f : α → κ} {all some some' : List α} {x : α} (o : Once f all some) (h : f x ∉ some.map f) (p : some'.Perm (x :: some)) : Once f (all ++ [x]) some' := by
  refine ⟨fun y m => ?_, fun y m => ?_, ?_⟩
  · rcases List.mem_cons.mp (p.mem_iff.mp m) with rfl | z
    · exact List.mem_append_right _ (by simp)
    · exact List.mem_append_left _ (o.sub y z)
  · rw [(p.map f).mem_iff, List.map_cons]
    rcases List.mem_append.mp m with z | z
    · exact List.mem_cons_of_mem _ (o.has y z)
    · rw [List.mem_singleton.mp z]; exact List.mem_cons_self
  · rw [(p.map f).nodup_iff, List.map_cons]
    exact List.nodup_cons.mpr ⟨h, o.nd⟩
theorem nd_le {α : Type} : ∀ {l m : List α}, l.Nodup → (∀ x ∈ l, x ∈ m) → l.length ≤ m.length
  | [], _, _, _ => Nat.zero_le _
  | x :: l, m, nd, sub => by
    classical
    obtain ⟨n1, n2⟩ := List.nodup_cons.mp nd
    have p := List.perm_cons_erase (sub x List.mem_cons_self)
    have z : l.length ≤ (m.erase x).length := nd_le n2 fun y my => by
      rcases List.mem_cons.mp (p.mem_iff.mp (sub y (List.mem_cons_of_mem _ my))) with e | q
      · exact absurd (e ▸ my) n1
      · exact q
    rw [p.length_eq, List.length_cons, List.length_cons]
    omega
theorem Once.len {α κ : Type} {f : α → κ} {all some : List α} (o : Once f all some) : some.length ≤ all.length := by
  have nd : some.Nodup := List.Pairwise.of_map f (fun _ _ ne e => ne (congrArg f e)) o.nd
  exact nd_le nd o.sub
theorem SetG.vals {K : Type} [DecidableEq K] {kd : KeyKind P w K} {h : Heap} {L : List (Addr × List K)} {es : Array (Int × Value)} {ep : Nat} {t : SetTable} (R : SetG kd h a L es ep t) : SetV w h a (L.map fun p => Value.ref p.1) := by
  obtain ⟨o, h1, h2, h3⟩ := R.obj
  have sz : es.size = L.length := by simpa using congrArg List.length R.rws
  have z1 := R.tb.sz
  have z2 := R.sp
  have z3 := R.lim
  rw [List.length_map] at z1
  refine ⟨o, es, ep, t, h1, h2, h3, by rw [R.rws, List.map_map]; rfl, by unfold scanBound; omega, ?_, R.tb.ris, R.ld⟩
  unfold SetTable.fits SetTable.fill
  rw [R.tb.dm]
  simp
  omega
/-! ### sorted(a set) -/
end
end SG
/-! The data layer, part V: sorted(set(a list)) of keys and of tuples of keys. -/
namespace DL
open PySem L2 PyProof.Rows PySem.W
/-! ### the order of data, and lists sorted by it -/
theorem toks_keys : ∀ {a b : List Key}, keyToksAll (a.map keyD) = keyToksAll (b.map keyD) → a = b
  | [], [], _ => rfl
  | [], k :: b, h => by simp [keyToksAll] at h
  | k :: a, [], h => by simp [keyToksAll] at h
  | k :: a, j :: b, h => by
    rw [List.map_cons, List.map_cons, keyToksAll, keyToksAll] at h
    cases k with
    | inl i =>
      cases j with
      | inl i' =>
        simp [keyD, keyToks] at h
        obtain ⟨rfl, h2⟩ := h
        rw [toks_keys h2]
      | inr x => simp [keyD, keyToks] at h
    | inr x =>
      cases j with
      | inl i' => simp [keyD, keyToks] at h
      | inr x' =>
        simp [keyD, keyToks] at h
        obtain ⟨e, h2⟩ := h
        obtain rfl : x = x' := by cases x; cases x'; simp_all
        rw [toks_keys h2]
theorem toks_key {a b : Key} (h : keyToks (keyD a) = keyToks (keyD b)) : a = b := by
  have z : keyToksAll ([a].map keyD) = keyToksAll ([b].map keyD) := by simp [keyToksAll, h]
  have q := toks_keys z
  simpa using q
theorem le_anti {a b : D} (h1 : dataLe false id a b = true) (h2 : dataLe false id b a = true) : keyToks a = keyToks b :=
  (listOrd itemOrd).total _ _ (by simpa [dataLe, sortLe] using h2) (by simpa [dataLe, sortLe] using h1)
theorem sortD_pair (ds : List D) : (sortD ds).Pairwise fun a b => dataLe false id a b = true :=
  List.pairwise_mergeSort (fun a b c => (sortLe_total _ _ _).trans a b c) (fun a b => by rw [Bool.or_eq_true]; exact (sortLe_total _ _ _).total a b) ds
theorem sortD_perm (ds : List D) : (sortD ds).Perm ds := List.mergeSort_perm _ _
open Classical in
/-- each once -/
noncomputable def nubD : List D → List D
  | [] => []
  | d :: r => if d ∈ r then nubD r else d :: nubD r
theorem nubD_mem {d : D} : ∀ {ds : List D}, d ∈ nubD ds ↔ d ∈ ds
  | [] => Iff.rfl
  | e :: r => by
    unfold nubD
    split
    · rename_i h
      rw [nubD_mem (ds := r), List.mem_cons]
      exact ⟨.inr, fun z => z.elim (fun q => q ▸ h) id⟩
    · rw [List.mem_cons, nubD_mem (ds := r), List.mem_cons]
theorem nubD_nd : ∀ ds : List D, (nubD ds).Nodup
  | [] => List.nodup_nil
  | e :: r => by
    unfold nubD
    split
    · exact nubD_nd r
    · rename_i h
      exact List.nodup_cons.mpr ⟨fun z => h (nubD_mem.mp z), nubD_nd r⟩
/-! ### a set in the abstract heap -/
section
variable {X : Cx}
end
section
variable {X : Cx} {W : WX} {pa : Bool} {a : Expr} {ms : M (List D)} {p p2 pos pos2 : Pos}
end
end DL
/-! The data layer, part W: what is never reached; freezing for good and for a while; a name hidden while others work. -/
namespace DL
open PySem L2 PyProof.Rows
def mBad {α : Type} : M α := fun _ => .bad
section
variable {X : Cx} {W : WX} {fx : List Nat} {md : Md} {pu : Bool} {e : Expr} {st : Stmt}
/-! ### a slot is frozen from here on -/
def mFrz {α : Type} (i : Nat) (m : M α) : M α := fun env => match env[i]? with
  | some (some t) => m (env.set i (some (.fz t.er)))
  | _ => .bad
/-! ### a slot is frozen while a test runs -/
mutual
/-- no list and no dict within -/
def bf : D → Bool
  | .list _ | .dict _ => false
  | .tuple ds => bfL ds
  | _ => true
def bfL : List D → Bool
  | [] => true
  | d :: r => bf d && bfL r
end
mutual
def T.bf : T → Bool
  | .fz d => DL.bf d
  | .ol ts => T.bfL ts
  | .ot ts => T.bfL ts
  | .od kvs => T.bfK kvs
def T.bfL : List T → Bool
  | [] => true
  | t :: r => t.bf && T.bfL r
def T.bfK : List (D × T) → Bool
  | [] => true
  | (_, t) :: r => t.bf && T.bfK r
end
section
variable {K : Frg} {G H : Hp} {F : List Addr}
end
/-- nothing that was frozen for a while is held anywhere else -/
def Freed (i : Nat) (env env2 : Env) : Prop := ∀ j t, j ≠ i → env2[j]? = some (some t) → t.bf = true ∨ ∃ d, t = .fz d ∧ env[j]? = some (some (.fz d))
end
end DL
/-! The data layer, part X: dicts of keys: stored, asked, made of pairs; chains of comparisons; texts joined; the module's constants. -/
namespace DL
open PySem L2 PyProof.Rows
/-! ### the empty dict is of both kinds -/
section
variable {X : Cx} {pins : List (Addr × Obj)} {σ : L2.St} {H : Hp} {s : Shared} {a : Addr}
theorem emp_dict {P : Program} {w : World} {h : Heap} (ok : HOk P w H h) (e : Rd H a (.dT [])) : (a == sysModules) = false ∧ h.DictOf (mixKind P w) a [] := by
  obtain ⟨z, y, xs, r, o, es, ep, h1, h2, h3, h4, h5⟩ := (show ObjOk P w H h a (.dT []) from rd_of ok e)
  cases r
  have z : es = #[] := by
    have q : es.toList = [] := h4
    simpa using q
  subst z
  exact ⟨y, o, #[], ep, h1, h2, h3, fun e he => by simp at he, .nil, List.nodup_nil⟩
end
/-! ### d[key] = value -/
def setT (k : Key) (t : T) (kvs : List (D × T)) : List (D × T) := match atK k kvs with
  | some _ => putK k t kvs
  | none => kvs ++ [(keyD k, t)]
def allK {α : Type} (kvs : List (D × α)) : Bool := kvs.all fun p => (kOf p.1).isSome
section
variable {K : Frg} {G H : Hp}
theorem OwnK.keys : ∀ {ks : List (Key × V)} {kvs : List (D × T)} {F : List Addr}, OwnK K G H ks kvs F → kvs.map (·.1) = ks.map fun p => keyD p.1
  | _, _, _, .nil => rfl
  | _, _, _, .cons _ t => by rw [List.map_cons, List.map_cons, t.keys]
theorem OwnK.none (k : Key) : ∀ {ks : List (Key × V)} {kvs : List (D × T)} {F : List Addr}, OwnK K G H ks kvs F → atK k kvs = none → ∀ p ∈ ks, p.1 ≠ k
  | _, _, _, .nil, _, p, m => absurd m (by simp)
  | _, _, _, .cons (k := j) _ t, e, p, m => by
    unfold atK at e
    rw [kIs_key] at e
    by_cases z : j = k
    · rw [if_pos (decide_eq_true z)] at e; cases e
    · rw [if_neg (by simpa using z)] at e
      rcases List.mem_cons.mp m with rfl | m
      · exact z
      · exact t.none k e p m
theorem OwnK.snoc {k : Key} {v : V} {t : T} {Fr : List Addr} (o : Own K G H v t Fr) : ∀ {ks : List (Key × V)} {kvs : List (D × T)} {F : List Addr}, OwnK K G H ks kvs F → OwnK K G H (ks ++ [(k, v)]) (kvs ++ [(keyD k, t)]) (F ++ Fr)
  | _, _, _, .nil => by
    have z := OwnK.cons (k := k) o (.nil (K := K) (G := G) (H := H))
    simpa using z
  | _, _, _, .cons (k := j) h r => by
    have z := OwnK.cons (k := j) h (OwnK.snoc (k := k) o r)
    simpa [List.append_assoc] using z
theorem put_none {ks : List (Key × V)} {k : Key} {v : V} (h : ∀ p ∈ ks, p.1 ≠ k) : L2.putK ks k v = ks ++ [(k, v)] := by
  unfold L2.putK
  rw [if_neg]
  intro z
  obtain ⟨p, m, e⟩ := List.any_eq_true.mp z
  exact h p m (of_decide_eq_true e)
theorem put_cons_ne {j k : Key} {x v : V} {ks : List (Key × V)} (h : j ≠ k) (h2 : ∃ p ∈ ks, p.1 = k) : L2.putK ((j, x) :: ks) k v = (j, x) :: L2.putK ks k v := by
  obtain ⟨p, m, e⟩ := h2
  have a1 : (ks.any fun kv => decide (kv.1 = k)) = true := List.any_eq_true.mpr ⟨p, m, decide_eq_true e⟩
  have a2 : (((j, x) :: ks).any fun kv => decide (kv.1 = k)) = true := List.any_eq_true.mpr ⟨p, List.mem_cons_of_mem _ m, decide_eq_true e⟩
  unfold L2.putK
  rw [if_pos a1, if_pos a2, List.map_cons, if_neg h]
theorem put_cons_eq {k : Key} {x v : V} {ks : List (Key × V)} (h : ∀ p ∈ ks, p.1 ≠ k) : L2.putK ((k, x) :: ks) k v = (k, v) :: ks := by
  have a2 : (((k, x) :: ks).any fun kv => decide (kv.1 = k)) = true := List.any_eq_true.mpr ⟨_, List.mem_cons_self, decide_eq_true rfl⟩
  unfold L2.putK
  rw [if_pos a2, List.map_cons, if_pos rfl]
  congr 1
  have z : ks.map (fun kv => if kv.1 = k then (kv.1, v) else kv) = ks.map id := List.map_congr_left fun p m => by rw [if_neg (h p m)]; rfl
  rw [z, List.map_id]
theorem OwnK.hasK {k : Key} {t0 : T} : ∀ {ks : List (Key × V)} {kvs : List (D × T)} {F : List Addr}, OwnK K G H ks kvs F → atK k kvs = some t0 → ∃ p ∈ ks, p.1 = k
  | _, _, _, .nil, e => nomatch e
  | _, _, _, .cons (k := j) _ r, e => by
    unfold atK at e
    rw [kIs_key] at e
    by_cases z : j = k
    · exact ⟨_, List.mem_cons_self, z⟩
    · rw [if_neg (by simpa using z)] at e
      obtain ⟨p, m, e⟩ := r.hasK e
      exact ⟨p, List.mem_cons_of_mem _ m, e⟩
theorem OwnK.putS {k : Key} {v : V} {t t0 : T} {Fr : List Addr} (o : Own K G H v t Fr) : ∀ {ks : List (Key × V)} {kvs : List (D × T)} {F : List Addr}, OwnK K G H ks kvs F → atK k kvs = some t0 → (kvs.map (·.1)).Nodup → (F ++ Fr).Nodup →
    ∃ F', OwnK K G H (L2.putK ks k v) (putK k t kvs) F' ∧ F'.Nodup ∧ ∀ a ∈ F', a ∈ F ∨ a ∈ Fr
  | _, _, _, .nil, q, _, _ => nomatch q
  | _, _, _, .cons (k := j) (v := x) (ks := ks) (t := u) (kvs := kvs) (F := F1) (F' := F2) hx hr, q, nd, ndF => by
    rw [List.map_cons, List.nodup_cons] at nd
    obtain ⟨n1, n2⟩ := nd
    rw [List.append_assoc] at ndF
    obtain ⟨m1, m2, m3⟩ := List.nodup_append.mp ndF
    unfold atK at q
    rw [kIs_key] at q
    by_cases z : j = k
    · subst z
      have none : ∀ p ∈ ks, p.1 ≠ j := fun p m e => n1 (by
        rw [hr.keys]
        exact List.mem_map.mpr ⟨p, m, by rw [e]⟩)
      rw [put_cons_eq none]
      refine ⟨Fr ++ F2, ?_, ?_, fun a m => (List.mem_append.mp m).elim .inr fun z => .inl (List.mem_append_right _ z)⟩
      · unfold putK
        rw [if_pos (by rw [kIs_key]; exact decide_eq_true rfl)]
        exact .cons o hr
      · obtain ⟨a1, a2, a3⟩ := List.nodup_append.mp m2
        exact List.nodup_append.mpr ⟨a2, a1, fun a ma b mb e => a3 b mb a ma e.symm⟩
    · rw [if_neg (by simpa using z)] at q
      obtain ⟨F', r1, r2, r3⟩ := OwnK.putS o hr q n2 m2
      rw [put_cons_ne z (hr.hasK q)]
      refine ⟨F1 ++ F', ?_, List.nodup_append.mpr ⟨m1, r2, fun a ma b mb e => m3 a ma b ((r3 b mb).elim (List.mem_append_left _) (List.mem_append_right _)) e⟩, fun a m => ?_⟩
      · unfold putK
        rw [if_neg (by rw [kIs_key]; simpa using z)]
        exact .cons hx r1
      · rcases List.mem_append.mp m with m | m
        · exact .inl (List.mem_append_left _ m)
        · exact (r3 a m).imp (List.mem_append_right _) id
/-- a key's value stored -/
theorem OwnK.put {k : Key} {v : V} {t : T} {Fr : List Addr} (o : Own K G H v t Fr) {ks : List (Key × V)} {kvs : List (D × T)} {F : List Addr} (h : OwnK K G H ks kvs F) (nd : (kvs.map (·.1)).Nodup) (ndF : (F ++ Fr).Nodup) :
    ∃ F', OwnK K G H (L2.putK ks k v) (setT k t kvs) F' ∧ F'.Nodup ∧ ∀ a ∈ F', a ∈ F ∨ a ∈ Fr := by
  unfold setT
  cases q : atK k kvs with
  | none =>
    rw [put_none (h.none k q)]
    exact ⟨F ++ Fr, h.snoc o, ndF, fun a m => List.mem_append.mp m⟩
  | some t0 => exact h.putS o q nd ndF
theorem OwnT.allK : ∀ {ks : List (List Key × V)} {kvs : List (D × T)} {F : List Addr}, OwnT K G H ks kvs F → DL.allK kvs = true → ks = [] ∧ kvs = [] ∧ F = []
  | _, _, _, .nil, _ => ⟨rfl, rfl, rfl⟩
  | _, _, _, .cons _ _, e => by simp [DL.allK, kOf] at e
theorem OwnK.len : ∀ {ks : List (Key × V)} {kvs : List (D × T)} {F : List Addr}, OwnK K G H ks kvs F → ks.length = kvs.length
  | _, _, _, .nil => rfl
  | _, _, _, .cons _ t => by rw [List.length_cons, List.length_cons, t.len]
end
/-! ### key in d -/
theorem dinE {X : Cx} {pins : List (Addr × Obj)} {σ : L2.St} {H : Hp} {s : Shared} {a : Addr} {k : Key} {u : Value} {A : Around} {E : Value → Shared → Prop} {Q : Value → Shared → Prop} (I : Inv X pins σ H s) (e : Rd H a (.dT [])) (ry : RelV (kV k) u) (h : ∀ s', Inv X pins σ H s' → Q (.bool false) s') :
    wpAny (model X.prog X.w) A (compareOp .In u (.ref a)) Q E s := by
  obtain ⟨hd, dd⟩ := emp_dict I.hok e
  exact wpAny_in_of (kV_is ry) hd dd.mapOf (h _ (I.tok _))
def rInE (neg : Bool) : R2 := fun x y H Q => ∃ a, y = .ref a ∧ ((∃ o, DGet H a x o ∧ Q (.bl (if neg then !o.isSome else o.isSome)) H) ∨ (Rd H a (.dT []) ∧ (∃ k, x = kV k) ∧ Q (.bl neg) H))
theorem op_inE {X : Cx} (hu : X.A.units + 1 < cLine) : OpR X (compareOp .In) (rInE false) := by
  intro pins s σ H x y v u Q I rx ry h
  obtain ⟨a, rfl, h⟩ := h
  obtain rfl : u = Value.ref a := ry
  rcases h with ⟨o, g, q⟩ | ⟨e, ⟨k, rfl⟩, q⟩
  · exact d_in hu I g rx fun s' I' => ⟨.bl _, H, I', rfl, q⟩
  · exact dinE I e rx fun s' I' => ⟨.bl _, H, I', rfl, q⟩
def dInE (neg : Bool) : D → D → Option D
  | d, .dict kvs => (kOf d).bind fun k => if allK kvs = true then some (.bool (if neg then !(atKD k kvs).isSome else (atKD k kvs).isSome)) else none
  | _, _ => none
section
variable {K : Frg} {G H : Hp}
theorem DenK.atO (k : Key) : ∀ {ks : List (Key × V)} {kvs : List (D × D)}, DenK K G ks kvs → (atV k ks).isSome = (atKD k kvs).isSome
  | _, _, .nil => rfl
  | _, _, .cons (k := j) _ r => by
    unfold atV atKD
    rw [kIs_key]
    by_cases z : j = k
    · rw [if_pos z, if_pos (decide_eq_true z)]; rfl
    · rw [if_neg z, if_neg (by simpa using z)]
      exact DenK.atO k r
theorem DenT.allK : ∀ {ks : List (List Key × V)} {kvs : List (D × D)}, DenT K G ks kvs → DL.allK kvs = true → ks = [] ∧ kvs = []
  | _, _, .nil, _ => ⟨rfl, rfl⟩
  | _, _, .cons _ _, e => by simp [DL.allK, kOf] at e
theorem os_inE (neg : Bool) : OpS K (rInE neg) (dInE neg) := fun G H x y d1 d2 d Q gl e1 e2 e kk => by
  unfold dInE at e
  split at e
  · rename_i kvs
    obtain ⟨k, hk, e⟩ := Option.bind_eq_some_iff.mp e
    split at e
    · rename_i alk
      cases e
      obtain rfl := kOf_den hk e1
      cases e2 with
      | dk hr hd =>
        refine ⟨_, rfl, .inl ⟨_, .inl ⟨_, k, gl.rd hr, rfl, rfl⟩, ?_⟩⟩
        rw [← atV_val, hd.atO k]
        exact kk _ G H (Grow.refl gl) (.bl _)
      | dt hr hd _ =>
        obtain ⟨rfl, rfl⟩ := hd.allK alk
        refine ⟨_, rfl, .inr ⟨gl.rd hr, ⟨k, rfl⟩, ?_⟩⟩
        have z := kk (.bl neg) G H (Grow.refl gl)
        cases neg
        · exact z (.bl _)
        · exact z (.bl _)
    · cases e
  · cases e
theorem flat_dInE (neg : Bool) : Flat2 (dInE neg) := fun a b d h => by
  unfold dInE at h
  split at h
  · obtain ⟨k, hk, e⟩ := Option.bind_eq_some_iff.mp h
    split at e <;> cases e
    rfl
  · cases h
end
section
variable {X : Cx} {W : WX} {md : Md} {pa pb pc : Bool} {a b c : Expr} {ma mb mc : M D} {pos : Pos}
theorem x_inE (hu : X.A.units + 65 < cLine) (hk : behindInMarks .In b = false) (ha : Ex X W md pa a ma) (hb : Ex X W md pb b mb) (hm : md = .frz ∨ pb = true := by first | exact Or.inl rfl | exact Or.inr rfl) : Ex X W .frz (pa && pb) (.Compare a [.In] [b] pos) (m2 (dInE false) ma mb) :=
  ex2s (fun ta tb p q => pe_cmpR (op_inE (by omega)) p q hk) (os_inE false) (flat_dInE false) ha hb hm
theorem t_inE (hu : X.A.units + 65 < cLine) (hk : behindInMarks .In b = false) (ha : Ex X W md pa a ma) (hb : Ex X W md pb b mb) (hm : md = .frz ∨ pb = true := by first | exact Or.inl rfl | exact Or.inr rfl) : Et X W (pa && pb) (.Compare a [.In] [b] pos) ((m2 (dInE false) ma mb).bind tru) :=
  et2 (fun ta tb p q => pt_cmpR (op_inE (by omega)) p q hk) (os_inE false) ha hb hm
/-! ### a op1 b op2 c -/
theorem os_le' {K : Frg} : OpS K (rI0 fun i j => .bl (decide (i ≤ j))) dLe := os_cmp fun a b d h => by unfold dLe at h; split at h <;> cases h; exact ⟨_, _, rfl, rfl, rfl⟩
theorem os_lt' {K : Frg} : OpS K (rI0 fun i j => .bl (decide (i < j))) dLt := os_cmp fun a b d h => by unfold dLt at h; split at h <;> cases h; exact ⟨_, _, rfl, rfl, rfl⟩
/-! ### sep.join(..) -/
def strsD : List D → Option (List Str)
  | [] => some []
  | .str x :: r => (strsD r).map (x :: ·)
  | _ => none
/-! ### the module's constants -/
/-! ### a sign in a text -/
end
end DL
/-! The data layer, part Y: list comprehensions whose parts change something. -/
namespace DL
open PySem L2 PyProof.Rows
/-- the same, some more objects standing by -/
theorem Step.frame {G H G' H' : Hp} {F F' : List Addr} (E : List Addr) (st : Step G H F G' H' F') : Step G H (E ++ F) G' H' (E ++ F') :=
  ⟨fun a o h n => st.keep a o h fun m => n (List.mem_append_right _ m), st.sub, fun a h => by
    rcases st.frG a h with z | z | z | z
    · exact .inl z
    · exact .inr (.inl z)
    · exact .inr (.inr (.inl (List.mem_append_right _ z)))
    · exact .inr (.inr (.inr z)), fun a m => by
    rcases List.mem_append.mp m with z | z
    · exact .inr (List.mem_append_left _ z)
    · exact (st.frF a z).imp id (List.mem_append_right _)⟩
/-- names of a block are set back -/
def backE (env : Env) : List Nat → Env → Env
  | [], e => e
  | v :: vs, e => (backE env vs e).set v (env[v]?.join)
def Plain (vs : List Nat) (env : Env) : Prop := ∀ v ∈ vs, ∀ t, env[v]? = some (some t) → ∃ d, t = .fz d
theorem slots_back {K : Frg} {G H G0 H0 : Hp} {σ : L2.St} {env : Env} {F0 : List Addr} (sm : Same G0 G) (S : Slots K G0 H0 σ env F0) : ∀ {vs : List Nat} {e : Env} {F : List Addr}, Plain vs env → Slots K G H (wipe σ vs) e F → F.Nodup →
    ∃ F', Slots K G H σ (backE env vs e) F' ∧ (∀ a ∈ F', a ∈ F) ∧ F'.Nodup
  | [], e, F, _, s, nd => ⟨F, s, fun _ m => m, nd⟩
  | v :: vs, e, F, pl, s, nd => by
    have s : Slots K G H ((wipe σ vs).set v none) e F := s
    -- the slot as the block's others see it
    have step : ∀ x : Option V, (wipe σ vs)[v]? = some x → ∃ F1, Slots K G H (wipe σ vs) (e.set v none) F1 ∧ (∀ a ∈ F1, a ∈ F) ∧ F1.Nodup := fun x hx => by
      obtain ⟨F1, s1, k1, n1⟩ := slots_set_none v x s
      rw [List.set_set] at s1
      have z : (wipe σ vs).set v x = wipe σ vs := by
        apply List.ext_getElem?
        intro j
        by_cases h : v = j
        · subst h
          rw [List.getElem?_set, hx]
          have := (List.getElem?_eq_some_iff.mp hx).1
          simp [this]
        · rw [List.getElem?_set_ne h]
      rw [z] at s1
      exact ⟨F1, s1, k1, n1 nd⟩
    have get : ∃ F1 e1, Slots K G H (wipe σ vs) e1 F1 ∧ (∀ a ∈ F1, a ∈ F) ∧ F1.Nodup ∧ (backE env vs e1).set v (env[v]?.join) = (backE env vs e).set v (env[v]?.join) := by
      cases q : (wipe σ vs)[v]? with
      | none =>
        have z : (wipe σ vs).set v none = wipe σ vs := by
          apply List.set_eq_of_length_le
          exact List.getElem?_eq_none_iff.mp q
        rw [z] at s
        exact ⟨F, e, s, fun _ m => m, nd, rfl⟩
      | some x =>
        obtain ⟨F1, s1, k1, n1⟩ := step x q
        refine ⟨F1, e.set v none, s1, k1, n1, ?_⟩
        have comm : ∀ (ws : List Nat) (e : Env), (backE env ws (e.set v none)).set v (env[v]?.join) = (backE env ws e).set v (env[v]?.join) := by
          intro ws
          induction ws with
          | nil => intro e; unfold backE; rw [List.set_set]
          | cons u us ih =>
            intro e
            unfold backE
            by_cases h : u = v
            · subst h
              rw [List.set_set, List.set_set]
              exact ih e
            · rw [List.set_comm _ _ h, ih, List.set_comm _ _ (Ne.symm h)]
        exact comm vs e
    obtain ⟨F1, e1, s1, k1, n1, eq⟩ := get
    obtain ⟨F2, s2, k2, n2⟩ := slots_back sm S (vs := vs) (fun u m => pl u (List.mem_cons_of_mem _ m)) s1 n1
    unfold backE
    rw [← eq]
    cases q : env[v]? with
    | none =>
      obtain ⟨F3, s3, k3, n3⟩ := slots_set_none v ((σ[v]?).join) s2
      refine ⟨F3, ?_, fun a m => k1 a (k2 a (k3 a m)), n3 n2⟩
      have hl : σ.length ≤ v := by rw [S.len]; exact List.getElem?_eq_none_iff.mp q
      rw [List.set_eq_of_length_le hl] at s3
      exact s3
    | some o =>
      cases o with
      | none =>
        have hl : v < σ.length := by rw [S.len]; exact (List.getElem?_eq_some_iff.mp q).1
        obtain ⟨F3, s3, k3, n3⟩ := slots_set_none v σ[v] s2
        refine ⟨F3, ?_, fun a m => k1 a (k2 a (k3 a m)), n3 n2⟩
        rw [List.set_getElem_self] at s3
        exact s3
      | some t =>
        obtain ⟨d, rfl⟩ := pl v List.mem_cons_self t q
        obtain ⟨u, F4, e4, o4, _⟩ := S.at q
        cases o4 with
        | fz dd =>
          obtain ⟨F3, s3, k3, n3⟩ := s2.back (F0 := []) (i := v) (.fz (dd.up (same_gle sm))) e4
          exact ⟨F3, s3, fun a m => (k3 a m).elim (fun z => absurd z (by simp)) fun z => k1 a (k2 a z), n3 (by simpa using n2)⟩
/-! ### what it computes -/
def lcI (vs : List Nat) (f : T → Env → Option Env) (mc : M Bool) (me : M T) : List D → Env → Option (List T × Env)
  | [], env => some ([], env)
  | d :: ds, env => match f (.fz d) env with
    | none => none
    | some env1 => match mc env1 with
      | .ok false env2 => lcI vs f mc me ds (wipeE env2 vs)
      | .ok true env2 => match me env2 with
        | .ok t env3 => (lcI vs f mc me ds (wipeE env3 vs)).map fun p => (t :: p.1, p.2)
        | _ => none
      | _ => none
open Classical in
noncomputable def mLcI (vs : List Nat) (f : T → Env → Option Env) (mc : M Bool) (me : M T) (ds : List D) : M T := fun env => if ds.length ≤ sizeLine ∧ Plain vs env then match lcI vs f mc me ds (wipeE env vs) with
    | some (ts, e) => .ok (.ol ts) (backE env vs e)
    | none => .bad
  else .bad
section
variable {X : Cx} {W : WX} {pa : Bool} {tg iter elt : Expr} {ifs : List Expr} {mi : M (List D)} {me : M T} {mc : M Bool} {pos : Pos} {scope : Scope} {own : List (Str × Nat)} {f : T → Env → Option Env}
theorem lcI_read {wi : TI} {L : Hp → Prop} {vs : List Nat} (kI : ∀ G H σ env Fp R, L G → Sta X.K G H σ env Fp → Post X.K X.mg W (VrI X.K) pa σ G H Fp env R (mi env) → wi σ H R) :
    ∀ G H σ env Fp Q, L G → Sta X.K G H σ env Fp → Post X.K X.mg W (VrT X.K) false σ G H Fp env Q ((mi.bind (mLcI vs f mc me)) env) →
      ∀ n, σ.length = n → tLc wi (cG X.K (others n vs) f) (cE X.K X.mg W0 VrB false mc) (cE X.K X.mg W0 (VrT X.K) false me) vs σ H Q := fun G H σ env Fp Q l S h n hn => by
  subst hn
  refine kI G H σ env Fp _ l S (Post.bind (pu1 := pa) (pu2 := false) (by rw [Bool.and_false]; exact h) vri_nil fun ds env1 J G1 H1 F1 st1 S1 q1 w h1 => ?_)
  have ok := w.2
  unfold mLcI at h1
  by_cases hz : ds.length ≤ sizeLine ∧ Plain vs env1
  case neg => rw [if_neg hz] at h1; exact h1.elim
  rw [if_pos hz] at h1
  cases ht : lcI vs f mc me ds (wipeE env1 vs) with
  | none => rw [ht] at h1; exact h1.elim
  | some tp =>
    obtain ⟨total, eF⟩ := tp
    rw [ht] at h1
    dsimp only at h1
    intro Dn hD
    obtain ⟨Fw, Sw, kw⟩ := sta_wipe S1 vs
    have nDw : Dn ∉ Fw := fun m => by
      have b := S1.sl.boxes Dn (kw Dn m)
      rw [hD] at b
      exact b
    have gD : G1 Dn = none := gle_none S1.le hD
    have grow0 := grow_new S1.le hD (.lst [])
    have Sw0 := Sw.grow grow0
    refine ⟨fun i m H => i + m = ds.length ∧ ∃ G ew Fw done acc Fa rest, lcI vs f mc me (ds.drop i) ew = some (rest, eF) ∧ total = done ++ rest ∧ Sta X.K G H (wipe σ vs) ew Fw ∧ Step G1 H1 F1 G H ((Dn :: Fa) ++ Fw) ∧ H Dn = some (.lst acc) ∧ OwnL X.K G H acc done Fa ∧ ((Dn :: Fa) ++ Fw).Nodup ∧ (∀ a ∈ Dn :: Fa, G a = none) ∧ done.length ≤ i,
      ⟨ds.length, by omega, G1, wipeE env1 vs, Fw, [], [], [], total, by rw [List.drop_zero]; exact ht, rfl, Sw0, ⟨fun a u e _ => grow0.same a u e, grow0.sub, (grow0.step (Fp := F1)).frG, fun a m => ?_⟩, upd_same, .nil, ?_, fun a m => by
        have z : a = Dn := by simpa using m
        rw [z]
        exact gD, Nat.le_refl _⟩, fun i m H2 hw => ?_⟩
    · rcases List.mem_append.mp m with m | m
      · have z : a = Dn := by simpa using m
        rw [z]; exact .inl hD
      · exact .inr (kw a m)
    · simpa using ⟨nDw, Sw.nd⟩
    obtain ⟨hl, G2, ew, F2, done, acc, Fa, rest, hr, ht2, S2, st2, hDn, ol, nd, ap, hdl⟩ := hw
    obtain ⟨items, stop⟩ := ok G2 H2 st2.sub S2.le
    obtain ⟨ndA, ndF, dj0⟩ := List.nodup_append.mp nd
    have dj2 : ∀ a ∈ Dn :: Fa, a ∉ F2 := fun a m z => dj0 a m a z rfl
    have bxs : ∀ a ∈ Dn :: Fa, box (H2 a) := fun a m => by
      rcases List.mem_cons.mp m with z | z
      · rw [z, hDn]; trivial
      · exact ol.boxes a z
    by_cases hi : i < ds.length
    · refine .inr ?_
      have e1 : ds[i]? = some ds[i] := List.getElem?_eq_getElem hi
      obtain ⟨go, yl⟩ := items i _ e1
      rw [List.drop_eq_getElem_cons hi] at hr
      refine ⟨go, fun H' => ∃ G ew Fw done acc Fa rest, lcI vs f mc me (ds.drop (i + 1)) ew = some (rest, eF) ∧ total = done ++ rest ∧ Sta X.K G H' (wipe σ vs) ew Fw ∧ Step G1 H1 F1 G H' ((Dn :: Fa) ++ Fw) ∧ H' Dn = some (.lst acc) ∧ OwnL X.K G H' acc done Fa ∧ ((Dn :: Fa) ++ Fw).Nodup ∧ (∀ a ∈ Dn :: Fa, G a = none) ∧ done.length ≤ i + 1,
        fun H' z => ⟨m - 1, by omega, by omega, z⟩, fun x H3 y => ?_⟩
      obtain ⟨G3, w3, dx⟩ := yl x H3 y
      have S3 := S2.grow w3
      -- what is kept while the turn runs
      have keep : ∀ {G4 H4 : Hp} {F4 : List Addr}, Step G2 H2 F2 G4 H4 F4 → H4 Dn = some (.lst acc) ∧ OwnL X.K G4 H4 acc done Fa ∧ (∀ a ∈ Dn :: Fa, G4 a = none) ∧ ∀ a ∈ Dn :: Fa, a ∉ F4 := fun {G4 H4 F4} st4 => by
        have P := pend (Fr := Dn :: Fa) st4 bxs ap dj2
        exact ⟨by rw [(P Dn List.mem_cons_self).1]; exact hDn, ol.stay (same_gle st4.sub) fun a m => (P a (List.mem_cons_of_mem _ m)).1, fun a m => (P a m).2.1, fun a m => (P a m).2.2⟩
      unfold lcI at hr
      cases qf : f (.fz ds[i]) ew with
      | none => rw [qf] at hr; cases hr
      | some envA =>
        rw [qf] at hr
        dsimp only at hr
        refine ⟨G3, ew, F2, .fz ds[i], [], envA, S3, .fz dx, by simpa using S3.nd, (fun _ m => absurd m (by simp)), qf, fun σ4 F4 f4 S4 sb4 => ⟨wipe_again f4, G3, envA, F4, S4, ?_⟩⟩
        have st4 : Step G2 H2 F2 G3 H3 F4 := (w3.step (Fp := F2)).sub_end fun a m => by simpa using sb4 a m
        cases qc : mc envA with
        | bad => rw [qc] at hr; cases hr
        | exn x e => rw [qc] at hr; cases hr
        | ok bv envB =>
          rw [qc] at hr
          intro b' G5 H5 F5 Fr5 st5 S5 nd5 ap5 _ v5
          obtain ⟨rfl, rfl⟩ := v5
          rw [List.nil_append] at st5 nd5
          have st25 := st4.trans st5
          cases b' with
          | false =>
            dsimp only at hr
            rw [if_neg Bool.false_ne_true]
            obtain ⟨Fx, Sx, kx⟩ := sta_wipe S5 vs
            rw [wipe_again f4] at Sx
            obtain ⟨k1, k2, k3, k4⟩ := keep st25
            refine ⟨G5, wipeE envB vs, Fx, done, acc, Fa, rest, hr, ht2, Sx, (st2.trans (st25.frame (Dn :: Fa))).sub_end fun a m => ?_, k1, k2, List.nodup_append.mpr ⟨ndA, Sx.nd, fun a ma b mb e => k4 a ma (e ▸ kx b mb)⟩, k3, by omega⟩
            exact (List.mem_append.mp m).elim (List.mem_append_left _) fun z => List.mem_append_right _ (kx a z)
          | true =>
            dsimp only at hr
            rw [if_pos rfl]
            refine ⟨G5, envB, F5, S5, ?_⟩
            cases qm : me envB with
            | bad => rw [qm] at hr; cases hr
            | exn x e => rw [qm] at hr; cases hr
            | ok t envC =>
              rw [qm] at hr
              dsimp only at hr
              obtain ⟨⟨rest', eX⟩, hr2, er⟩ := Option.map_eq_some_iff.mp hr
              injection er with er1 er2
              dsimp only at er1 er2
              subst er2
              subst er1
              intro v G6 H6 F6 Fr6 st6 S6 nd6 ap6 _ o6
              have o6 : Own X.K G6 H6 v t Fr6 := o6
              have st26 := st25.trans st6
              obtain ⟨k1, k2, k3, k4⟩ := keep st26
              obtain ⟨Fx, Sx, kx⟩ := sta_wipe S6 vs
              rw [wipe_again f4] at Sx
              have nd6' := List.nodup_append.mp nd6
              have nDF : ∀ a, a ∈ Fa ∨ a ∈ Fr6 ∨ a ∈ F6 → a ≠ Dn := fun a m z => by
                rcases m with m | m | m
                · exact (List.nodup_cons.mp ndA).1 (z ▸ m)
                · exact k4 Dn List.mem_cons_self (z ▸ List.mem_append_left _ m)
                · exact k4 Dn List.mem_cons_self (z ▸ List.mem_append_right _ m)
              have chg : ∀ a, a ≠ Dn → upd H6 Dn (.lst (acc ++ [v])) a = H6 a := fun a z => upd_ne z
              have gl7 : GLe G6 (upd H6 Dn (.lst (acc ++ [v]))) := fun a u e => by
                have z : a ≠ Dn := fun z => by rw [z, k3 Dn List.mem_cons_self] at e; cases e
                rw [chg a z]
                exact S6.le a u e
              have S7 : Sta X.K G6 (upd H6 Dn (.lst (acc ++ [v]))) (wipe σ vs) (wipeE envC vs) Fx := ⟨gl7, Sx.sl.stay (GLe.refl _) fun a m => chg a (nDF a (.inr (.inr (kx a m)))), Sx.nd, Sx.ap⟩
              have st7 : Step G6 H6 ((Dn :: Fa) ++ (Fr6 ++ F6)) G6 (upd H6 Dn (.lst (acc ++ [v]))) ((Dn :: (Fa ++ Fr6)) ++ Fx) := ⟨fun a u e n => by
                rw [chg a fun z => n (z ▸ List.mem_append_left _ List.mem_cons_self)]; exact e, Same.refl _, fun _ h => .inl h, fun a m => by
                right
                simp only [List.cons_append, List.mem_cons, List.mem_append] at m ⊢
                rcases m with m | ((m | m) | m)
                · exact .inl m
                · exact .inr (.inl m)
                · exact .inr (.inr (.inl m))
                · exact .inr (.inr (.inr (kx a m)))⟩
              refine ⟨acc, k1, by rw [k2.len]; omega, G6, wipeE envC vs, Fx, done ++ [t], acc ++ [v], Fa ++ Fr6, rest', hr2, by rw [ht2, List.append_assoc]; rfl, S7, (st2.trans (st26.frame (Dn :: Fa))).trans st7, upd_same, ?_, ?_, ?_, by rw [List.length_append]; simp; omega⟩
              · exact (k2.stay (GLe.refl _) fun a m => chg a (nDF a (.inl m))).snoc (o6.stay (GLe.refl _) fun a m => chg a (nDF a (.inr (.inl m))))
              · have n1 : ((Dn :: Fa) ++ (Fr6 ++ Fx)).Nodup := by
                  refine List.nodup_append.mpr ⟨ndA, List.nodup_append.mpr ⟨nd6'.1, Sx.nd, fun a ma b mb e => nd6'.2.2 a ma b (kx b mb) e⟩, fun a ma b mb e => ?_⟩
                  subst e
                  rcases List.mem_append.mp mb with z | z
                  · exact k4 a ma (List.mem_append_left _ z)
                  · exact k4 a ma (List.mem_append_right _ (kx a z))
                simpa [List.append_assoc] using n1
              · intro a m
                rcases List.mem_cons.mp m with z | z
                · exact k3 a (z ▸ List.mem_cons_self)
                · rcases List.mem_append.mp z with z | z
                  · exact k3 a (List.mem_cons_of_mem _ z)
                  · exact ap6 a z
    · have e : i = ds.length := by omega
      subst e
      rw [List.drop_length] at hr
      unfold lcI at hr
      injection hr with hr
      injection hr with hr1 hr2
      subst hr1
      subst hr2
      rw [List.append_nil] at ht2
      subst ht2
      refine .inl ⟨stop, ?_⟩
      obtain ⟨F9, s9, k9, n9⟩ := slots_back st2.sub S1.sl hz.2 S2.sl S2.nd
      refine h1 (.ref Dn) G2 H2 F9 (Dn :: Fa) (st2.sub_end fun a m => ?_) ⟨S2.le, s9, n9, fun a m => S2.ap a (k9 a m)⟩ (List.nodup_append.mpr ⟨ndA, n9, fun a ma b mb e => dj0 a ma b (k9 b mb) e⟩) ap (fun z => nomatch z) (.ol hDn ol)
      exact (List.mem_append.mp m).elim (List.mem_append_left _) fun z => List.mem_append_right _ (k9 a z)
/-- [elt for tg in iter if ..], each turn changing what names hold -/
theorem o_lcI (hc : X.calm = true) (hN : X.N.Nodup) (hi : Di X W pa tg iter mi) (ok : BlkOk X.N X.env.scope scope own)
    (hg : ∀ (s : Shared) (H : Hp) (C : Addr) (cl : List (Str × Addr)) (fp : List Addr), DG (X.blk s H scope (compEnvC scope cl C X.env) fp) (others X.N.length (own.map (·.2))) tg f)
    (ht : ∀ (s : Shared) (H : Hp) (C : Addr) (cl : List (Str × Addr)) (fp : List Addr), Ets (X.blk s H scope (compEnvC scope cl C X.env) fp) W0 false ifs mc)
    (he : ∀ (s : Shared) (H : Hp) (C : Addr) (cl : List (Str × Addr)) (fp : List Addr), Eo (X.blk s H scope (compEnvC scope cl C X.env) fp) W0 false elt me)
    (hf : ∀ x, foldedSetIterable iter X.env x = pure x := by intro _; rfl) : Eo X W false (.ListComp elt [⟨tg, iter, ifs, 0⟩] scope pos) (mi.bind (mLcI (own.map (·.2)) f mc me)) := by
  obtain ⟨wi, pI, kI⟩ := hi
  exact ⟨_, pe_len (pe_lc hc hN pI ok (fun s H C cl fp => (hg s H C cl fp).can) (fun s H C cl fp => (ht s H C cl fp).can) (fun s H C cl fp => (he s H C cl fp).can) hf), fun G H σ env Fp Q S h hl => lcI_read (L := fun _ => True) (fun G H σ env Fp R _ => kI G H σ env Fp R) G H σ env Fp Q trivial S h _ hl⟩
end
end DL
/-! The data layer, part Z: list comprehensions of two clauses whose parts change nothing. -/
namespace DL
open PySem L2 PyProof.Rows
/-- the list that grows -/
structure Accs (K : Frg) (Dn : Addr) (G1 H1 G H : Hp) (done : List T) (acc : List V) (Fa : List Addr) : Prop where
  gw : Grow G1 H1 G H
  at_ : H Dn = some (.lst acc)
  ol : OwnL K G H acc done Fa
  nd : (Dn :: Fa).Nodup
  ap : ∀ a ∈ Dn :: Fa, G a = none ∧ H1 a = none
theorem Accs.grow {K : Frg} {Dn : Addr} {G1 H1 G H G' H' : Hp} {done : List T} {acc : List V} {Fa : List Addr} (A : Accs K Dn G1 H1 G H done acc Fa) (w : Grow G H G' H') : Accs K Dn G1 H1 G' H' done acc Fa := by
  have P := pend (Fr := Dn :: Fa) (w.step (Fp := [])) (fun a m => by
    rcases List.mem_cons.mp m with z | z
    · rw [z, A.at_]; trivial
    · exact A.ol.boxes a z) (fun a m => (A.ap a m).1) (fun a m => by simp)
  exact ⟨A.gw.trans w, by rw [(P Dn List.mem_cons_self).1]; exact A.at_, A.ol.stay (same_gle w.sub) fun a m => (P a (List.mem_cons_of_mem _ m)).1, A.nd, fun a m => ⟨(P a m).2.1, (A.ap a m).2⟩⟩
/-- one more item -/
theorem Accs.push {K : Frg} {Dn : Addr} {G1 H1 G H G' H' : Hp} {done : List T} {acc : List V} {Fa Fr : List Addr} {v : V} {t : T} (A : Accs K Dn G1 H1 G H done acc Fa) (w : Grow G H G' H') (o : Own K G' H' v t Fr) (fr : ∀ a ∈ Fr, H a = none ∧ G' a = none) (nd : Fr.Nodup) :
    Accs K Dn G1 H1 G' (upd H' Dn (.lst (acc ++ [v]))) (done ++ [t]) (acc ++ [v]) (Fa ++ Fr) := by
  have B := A.grow w
  have bx : ∀ a ∈ Dn :: Fa, H a ≠ none := fun a m => by
    rcases List.mem_cons.mp m with z | z
    · rw [z, A.at_]; exact fun z => nomatch z
    · obtain ⟨u, e⟩ := box_some (A.ol.boxes a z)
      rw [e]; exact fun z => nomatch z
  have dj : ∀ a ∈ Fr, a ∉ Dn :: Fa := fun a m z => bx a z (fr a m).1
  have nD : ∀ a, a ∈ Fa ∨ a ∈ Fr → a ≠ Dn := fun a m z => by
    rcases m with m | m
    · exact (List.nodup_cons.mp A.nd).1 (z ▸ m)
    · exact dj a m (z ▸ List.mem_cons_self)
  have hD := (A.ap Dn List.mem_cons_self).2
  refine ⟨⟨fun a u e => ?_, B.gw.sub, fun a u e => ?_, B.gw.frG⟩, upd_same, ?_, ?_, ?_⟩
  · rw [upd_ne (fun z => by rw [z, hD] at e; cases e)]
    exact B.gw.same a u e
  · have z : a ≠ Dn := fun z => by rw [z, (B.ap Dn List.mem_cons_self).1] at e; cases e
    rw [upd_ne z]
    exact B.gw.le a u e
  · exact (B.ol.stay (GLe.refl _) fun a m => by rw [upd_ne (nD a (.inl m))]).snoc (o.stay (GLe.refl _) fun a m => by rw [upd_ne (nD a (.inr m))])
  · rw [← List.cons_append]
    exact List.nodup_append.mpr ⟨A.nd, nd, fun a ma b mb z => dj b mb (z ▸ ma)⟩
  · intro a m
    rw [← List.cons_append] at m
    rcases List.mem_append.mp m with m | m
    · exact B.ap a m
    · exact ⟨(fr a m).2, A.gw.same.free (fr a m).1⟩
section
variable {X : Cx} {W : WX} {pa : Bool} {tg iter tg1 iter1 elt : Expr} {ifs ifs1 : List Expr} {mi mi1 : M (List D)} {me : M T} {mc mc1 : M Bool} {pos : Pos} {scope : Scope} {own : List (Str × Nat)} {vs1 : List Nat} {f f1 : T → Env → Option Env}
/-- the reading that a walk stands for -/
def cI (K : Frg) (mg : Str → Option Value) (W : WX) (pu : Bool) (m : M (List D)) : TI := fun σ H R => ∃ G env Fp, Sta K G H σ env Fp ∧ Post K mg W (VrI K) pu σ G H Fp env R (m env)
theorem Di.can (h : Di X W pa tg iter mi) : PI X tg iter (cI X.K X.mg W pa mi) := by
  obtain ⟨wi, p, k⟩ := h
  exact ⟨fun pins s σ H R I ⟨G, env, Fp, S, q⟩ => p.run pins s σ H R I (k G H σ env Fp R S q)⟩
end
end DL
/-! The data layer, part WA: lists of frozen items read where they stand; a loop over such; stars in displays; dicts of pairs, their keys sorted, their items. -/
namespace DL
open PySem L2 PyProof.Rows
/-! ### a list whose items are frozen -/
def VrLi (K : Frg) : Hp → Hp → V → List D → List Addr → Prop := fun G H v ds Fr => Fr = [] ∧ ∃ a xs, v = .ref a ∧ SqX K H a xs ∧ DenL K G xs ds
theorem vrli_nil {K : Frg} : ∀ G H v d Fr, VrLi K G H v d Fr → Fr = [] := fun _ _ _ _ _ h => h.1
def El (X : Cx) (W : WX) (pu : Bool) (e : Expr) (m : M (List D)) : Prop := ∃ te : TE, PE X e te ∧ ∀ G H σ env Fp Q, Sta X.K G H σ env Fp → Post X.K X.mg W (VrLi X.K) pu σ G H Fp env Q (m env) → te σ H Q
def fzs : List T → Option (List D)
  | [] => some []
  | .fz d :: r => (fzs r).map (d :: ·)
  | _ => none
theorem fzs_own {K : Frg} {G H : Hp} : ∀ {vs : List V} {ts : List T} {F : List Addr} {ds : List D}, OwnL K G H vs ts F → fzs ts = some ds → DenL K G vs ds
  | _, [], _, _, .nil, e => by cases e; exact .nil
  | _, t :: ts, _, ds, .cons h r, e => by
    cases t with
    | fz d =>
      obtain ⟨es, e1, rfl⟩ := Option.map_eq_some_iff.mp e
      cases h with
      | fz dd => exact .cons dd (fzs_own r e1)
    | _ => cases e
theorem fzs_map (ds : List D) : fzs (ds.map T.fz) = some ds := by
  induction ds with
  | nil => rfl
  | cons d r ih => rw [List.map_cons]; unfold fzs; rw [ih]; rfl
def mItems (i : Nat) : M (List D) := fun env => match env[i]? with
  | some (some (.ol ts)) => match fzs ts with
    | some ds => .ok ds env
    | none => .bad
  | some (some (.fz (.list ds))) => .ok ds env
  | _ => .bad
section
variable {X : Cx} {W : WX} {fx : List Nat} {md : Md} {pu pa pb pc : Bool} {e a b c tg : Expr} {es : List Expr} {m mb : M D} {ma mc : M (List D)} {ms : M (List D)} {mt : M T} {pos p2 : Pos} {lo hi : Option Expr} {ml mh : M (Option Int)}
theorem el_name {i : Nat} (hp : PE X e (tVar i)) : El X W true e (mItems i) := by
  refine ⟨_, hp, fun G H σ env Fp Q S h => ?_⟩
  unfold mItems at h
  split at h
  · rename_i ts e1
    split at h
    · rename_i ds e2
      obtain ⟨v, F0, e3, o, _⟩ := S.sl.at e1
      cases o with
      | ol hx hl => exact ⟨_, e3, h _ G H Fp [] Step.refl S S.nd (fun _ m => nomatch m) (fun _ => ⟨rfl, rfl, Grow.refl S.le⟩) ⟨rfl, _, _, rfl, .inl (.inl hx), fzs_own hl e2⟩⟩
    · exact h.elim
  · rename_i ds e1
    obtain ⟨v, F0, e3, o, _⟩ := S.sl.at e1
    cases o with
    | fz d =>
      obtain ⟨a, xs, rfl, s, l⟩ := d.of_lst
      exact ⟨_, e3, h _ G H Fp [] Step.refl S S.nd (fun _ m => nomatch m) (fun _ => ⟨rfl, rfl, Grow.refl S.le⟩) ⟨rfl, _, _, rfl, S.le.sqX s, l⟩⟩
  · exact h.elim
def listD : D → Option (List D)
  | .list ds => some ds
  | _ => none
theorem el_frz (h : Ex X W .frz pu e m) : El X W pu e (m.bind fun d => M.lift (listD d)) := by
  obtain ⟨te, p, k⟩ := h
  refine ⟨te, p, fun G H σ env Fp Q S h => k G H σ env Fp _ S (Post.bind (pu1 := pu) (pu2 := true) (by rw [Bool.and_true]; exact h) vrd_nil fun d env1 v G1 H1 Fp1 st1 S1 q1 w1 h1 => ?_)⟩
  obtain ⟨ds, e1, kk⟩ := h1.lift0 S1
  cases d <;> cases e1
  obtain ⟨x, xs, rfl, s, l⟩ := w1.2.of_lst
  exact kk _ G1 H1 (Grow.refl S1.le) ⟨rfl, x, xs, rfl, S1.le.sqX s, l⟩
/-- a + b -/
def mCatE (ma mc : M (List D)) : M T := ma.bind fun x => mc.bind fun y => M.lift (if x.length + y.length ≤ sizeLine then some (.ol ((x ++ y).map T.fz)) else none)
theorem o_catE (ha : El X W pa a ma) (hb : El X W true b mc) : Eo X W pa (.BinOp a .Add b pos) (mCatE ma mc) := by
  obtain ⟨ta, p1, k1⟩ := ha
  obtain ⟨tb, p2, k2⟩ := hb
  refine ⟨_, pe_op op_catR p1 p2, fun G H σ env Fp Q S h => k1 G H σ env Fp _ S (Post.bind (pu1 := pa) (pu2 := true) (by rw [Bool.and_true]; exact h) vrli_nil fun d1 env1 v1 G1 H1 Fp1 st1 S1 q1 w1 h1 => ?_)⟩
  refine k2 G1 H1 σ env1 Fp1 _ S1 (Post.bind (pu1 := true) (pu2 := true) h1 vrli_nil fun d2 env2 v2 G2 H2 Fp2 st2 S2 q2 w2 h2 => ?_)
  obtain ⟨t, e1, k⟩ := h2.lift S2
  obtain ⟨_, x, xs, rfl, s1, l1⟩ := w1
  obtain ⟨_, y, ys, rfl, s2, l2⟩ := w2
  split at e1
  · rename_i hz
    cases e1
    have gw := (q2 rfl).2.2
    have s1' : SqX X.K H2 x xs := (same_gle gw.same).sqX s1
    refine ⟨x, y, xs, ys, rfl, rfl, s1', s2, by rw [l1.length, l2.length]; exact hz, fun p hp => new_list S2.le hp ((l1.up (same_gle st2.sub)).append l2) fun v G3 H3 F w o nd n => ?_⟩
    obtain ⟨n1, n2⟩ := grow_nodup S2 w nd n
    exact k v G3 H3 F w n2 n1 (fun a m => (n a m).1) o
  · cases e1
/-- a[lo:hi] -/
def mSlE (ma : M (List D)) (ml mh : M (Option Int)) : M T := ma.bind fun ds => ml.bind fun l => mh.bind fun h => M.lift (some (.ol ((cutD ds l h).map T.fz)))
/-! ### stars in displays -/
def seqA : D → Option (List D)
  | .list ds => some ds
  | .tuple ds => some ds
  | _ => none
def mStarC (m : M D) (ms : M (List D)) : M (List D) := m.bind fun d => (M.lift (seqA d)).bind fun x => ms.bind fun xs => M.pure (x ++ xs)
end
end DL
/-! The data layer, part WB: a loop over a list that a name owns, the name hidden meanwhile. -/
namespace DL
open PySem L2 PyProof.Rows
section
variable {X : Cx} {W : WX} {fx : List Nat}
end
section
variable {X : Cx} {W : WX} {fx : List Nat} {tg iter e ke : Expr} {body : List Stmt} {n : M Fl} {mk : M D} {pos : Pos} {i : Nat}
end
end DL
/-! The data layer, part WC: dict(pairs), sorted(dict), list(d.items()), d.clear(). -/
namespace DL
open PySem L2 PyProof.Rows PySem.W
/-! ### d.clear() -/
/-! ### dict(a list of pairs) -/
def pairT : T → Option (Key × T)
  | .ot [.fz d, t] => (kOf d).map fun k => (k, t)
  | .fz (.tuple [d, e]) => (kOf d).map fun k => (k, .fz e)
  | _ => none
def pairsT : List T → Option (List (Key × T))
  | [] => some []
  | t :: r => (pairT t).bind fun p => (pairsT r).map (p :: ·)
def listT : T → Option (List T)
  | .ol ts => some ts
  | .fz (.list ds) => some (ds.map T.fz)
  | _ => none
open Classical in
noncomputable def tDictP : List T → Option T
  | [t] => (listT t).bind fun ts => (pairsT ts).bind fun ps => if (ps.map (·.1)).Nodup then some (.od (ps.map fun p => (keyD p.1, p.2))) else none
  | _ => none
section
variable {K : Frg} {G H : Hp}
theorem pair_own {v : V} {t : T} {F : List Addr} {k : Key} {u : T} (gl : GLe G H) (o : Own K G H v t F) (e : pairT t = some (k, u)) : ∃ a y, v = .ref a ∧ SqT K H a [kV k, y] ∧ Own K G H y u F := by
  unfold pairT at e
  split at e
  · obtain ⟨k', hk, e⟩ := Option.map_eq_some_iff.mp e
    cases e
    cases o with
    | ot s l =>
      cases l with
      | @cons x vs _ _ F1 F2 ho hr =>
        cases ho with
        | fz dd =>
          obtain rfl := kOf_den hk dd
          cases hr with
          | @cons y vs2 _ _ F3 F4 hy hn =>
            cases hn
            rw [List.nil_append, List.append_nil]
            exact ⟨_, y, rfl, gl.sqT s, hy⟩
  · obtain ⟨k', hk, e⟩ := Option.map_eq_some_iff.mp e
    cases e
    cases o with
    | fz dd =>
      obtain ⟨a, xs, rfl, s, l⟩ := dd.of_tup
      cases l with
      | cons h1 l =>
        cases l with
        | cons h2 l =>
          cases l
          obtain rfl := kOf_den hk h1
          exact ⟨a, _, rfl, gl.sqT s, .fz h2⟩
  · cases e
theorem pairs_own (gl : GLe G H) : ∀ {vs : List V} {ts : List T} {F : List Addr} {ps : List (Key × T)}, OwnL K G H vs ts F → pairsT ts = some ps →
    ∃ (as : List Addr) (ks : List (Key × V)), vs = as.map V.ref ∧ Paired (fun p kv => SqT K H p [kV kv.1, kv.2]) as ks ∧ OwnK K G H ks (ps.map fun p => (keyD p.1, p.2)) F ∧ ks.map (·.1) = ps.map (·.1)
  | _, [], _, _, .nil, e => by cases e; exact ⟨[], [], rfl, .nil, .nil, rfl⟩
  | _, t :: ts, _, ps, .cons h r, e => by
    unfold pairsT at e
    obtain ⟨⟨k, u⟩, e1, e⟩ := Option.bind_eq_some_iff.mp e
    obtain ⟨qs, e2, rfl⟩ := Option.map_eq_some_iff.mp e
    obtain ⟨a, y, rfl, s, o⟩ := pair_own gl h e1
    obtain ⟨as, ks, rfl, p, ok, ek⟩ := pairs_own gl r e2
    exact ⟨a :: as, (k, y) :: ks, rfl, .cons s p, .cons o ok, by rw [List.map_cons, List.map_cons, ek]⟩
end
def rDictP (K : Frg) : List V → Hp → VK → Prop := fun xs H Q => ∃ (a : Addr) (ps : List Addr) (kvs : List (Key × V)), xs = [.ref a] ∧ SqL K H a (ps.map V.ref) ∧ Paired (fun p kv => SqT K H p [kV kv.1, kv.2]) ps kvs ∧ ∀ p, H p = none → Q (.ref p) (upd H p (.dK (mergeK [] kvs)))
section
variable {X : Cx} {W : WX} {pu pa : Bool} {a e : Expr} {ms : M (List D)} {mts : M (List T)} {m : M D} {p p2 pos pos2 apos : Pos}
theorem o_dictP (hc : X.calm = true) (hg : Gl X "dict") (hm : X.mg "dict" = none) (ha : Ey X W pa [a] mts) (he : starEach [a] X.env = (false, eval a X.env) :: starEach [] X.env := by rfl) (hpl : (backTo pos (starEach [] X.env)).any (·.1) = false := by rfl) :
    Eo X W pa (.Call (.Name "dict" p) [a] [] pos) (mLT tDictP mts) :=
  eo_disp (r := rDictP X.K) (fun ta q => pe_callTy (call_dictP hc) hg hm (by decide +kernel) q (by decide) (by decide) he hpl) (fun G H xs ts F t Q gl o nd ap e kk => by
    unfold tDictP at e
    split at e
    · rename_i t0
      obtain ⟨ts, e1, e⟩ := Option.bind_eq_some_iff.mp e
      obtain ⟨ps, e2, e⟩ := Option.bind_eq_some_iff.mp e
      split at e
      · rename_i hn
        cases e
        have fin : ∀ {l : Addr} {as : List Addr} {ks : List (Key × V)} {F1 : List Addr}, SqL X.K H l (as.map V.ref) → Paired (fun p kv => SqT X.K H p [kV kv.1, kv.2]) as ks → OwnK X.K G H ks (ps.map fun p => (keyD p.1, p.2)) F1 → ks.map (·.1) = ps.map (·.1) → (∀ b ∈ F1, b ∈ F) → F1.Nodup → rDictP X.K [.ref l] H Q := fun {l as ks F1} s pr ok ek sub ndF => by
          refine ⟨l, as, ks, rfl, s, pr, fun q hq => ?_⟩
          have em : mergeK [] ks = ks := by
            have z := mergeK_app ks [] (by simpa [ek] using hn)
            simpa using z
          rw [em]
          have gw := grow_new gl hq (.dK ks)
          have nq : q ∉ F1 := fun m => by
            have b := ok.boxes q m
            rw [hq] at b
            exact b
          refine kk (.ref q) G _ (q :: F1) gw (.odk upd_same (ok.stay (GLe.refl _) fun b m => upd_ne fun z => nq (z ▸ m))) (List.nodup_cons.mpr ⟨nq, ndF⟩) (fun b m => ?_) fun b m => ?_
          · rcases List.mem_cons.mp m with rfl | m
            · exact gle_none gl hq
            · exact ap b (sub b m)
          · rcases List.mem_cons.mp m with rfl | m
            · exact .inr hq
            · exact .inl (sub b m)
        cases o with
        | @cons v vs _ _ Fa Fb h1 h2 =>
          cases h2
          rw [List.append_nil] at *
          unfold listT at e1
          split at e1
          · cases e1
            cases h1 with
            | @ol l ws _ F1 hx hl =>
              obtain ⟨as, ks, rfl, pr, ok, ek⟩ := pairs_own gl hl e2
              exact fin (.inl (.inl hx)) pr ok ek (fun b m => List.mem_cons_of_mem _ m) (List.nodup_cons.mp nd).2
          · cases e1
            cases h1 with
            | fz dd =>
              obtain ⟨l, ws, rfl, s, dl⟩ := dd.of_lst
              obtain ⟨as, ks, rfl, pr, ok, ek⟩ := pairs_own (K := X.K) gl (ownL_fz dl) e2
              exact fin (gl.sqX s).l pr ok ek (fun b m => m) List.nodup_nil
          · cases e1
      · cases e
    · cases e) ha
/-! ### sorted(d) -/
def dSortedD : List D → Option T
  | [.dict kvs] => (strsD (kvs.map (·.1))).bind fun ks => if ks.length < 64 ∧ kvs ≠ [] then some (.ol ((sortD (kvs.map (·.1))).map T.fz)) else none
  | _ => none
/-! ### list(d.items()) -/
end
end DL
/-! The data layer: a name set to a comprehension on one line; three names set at once. -/
namespace DL
open PySem L2 PyProof.Rows
section
variable {X : Cx} {W : WX} {fx : List Nat} {pa pu : Bool} {tg iter elt a b c : Expr} {ifs : List Expr} {mi : M (List D)} {me : M T} {mc : M Bool} {pos spos py : Pos} {scope : Scope} {own : List (Str × Nat)} {f : T → Env → Option Env} {i : Nat} {y : Str} {mts : M (List T)}
theorem ps_len {st : Stmt} {ts : TS} (h : PS X st ts) : PS X st (fun Dn σ H => σ.length = X.N.length → ts Dn σ H) := ⟨fun pins s σ H Dn I q => h.run pins s σ H Dn I (q I.len)⟩
/-- what a thing's reading gives for a name set to it -/
theorem set_by {te : TE} {mt : M T} {G H : Hp} {σ : L2.St} {env : Env} {Fp : List Addr} {Dn : Ends} (hf : i ∉ fx) (S : Sta X.K G H σ env Fp) (h : SPost X W fx σ G H Fp Dn (mSet i mt env))
    (k : ∀ Q, Post X.K X.mg W (VrT X.K) pu σ G H Fp env Q (mt env) → te σ H Q) : tAsg te (gName i) Dn σ H := k _ (SPost.expr h fun t env1 v G1 H1 Fp1 Fr st1 S1 nd ap o h1 => by
  obtain ⟨F', S2, sb⟩ := S1.put o nd ap i
  exact h1 _ G1 H1 F' (Step.refl.sub_end sb) (Fix.set hf) S2)
theorem s_setLc (hc : X.calm = true) (hN : X.N.Nodup) (hy : X.N[i]? = some y) (hyl : X.env.scope.names.lookup y = some .local) (hi : Di X W pa tg iter mi) (ok : BlkOk X.N X.env.scope scope own)
    (hg : ∀ (s : Shared) (H : Hp) (C : Addr) (cl : List (Str × Addr)) (fp : List Addr), DG (X.blk s H scope (compEnvC scope cl C X.env) fp) (others X.N.length (own.map (·.2))) tg f)
    (ht : ∀ (s : Shared) (H : Hp) (C : Addr) (cl : List (Str × Addr)) (fp : List Addr), Ets (X.blk s H scope (compEnvC scope cl C X.env) fp) W0 true ifs mc)
    (he : ∀ (s : Shared) (H : Hp) (C : Addr) (cl : List (Str × Addr)) (fp : List Addr), Eo (X.blk s H scope (compEnvC scope cl C X.env) fp) W0 true elt me)
    (hx : i ∉ fx := by decide) (hsw : swapsWith (.ListComp elt [⟨tg, iter, ifs, 0⟩] scope pos) (some (.Name y py)) spos.line X.env = pure true := by rfl)
    (hf : ∀ x, foldedSetIterable iter X.env x = pure x := by intro _; rfl) : DS X W fx (.Assign [.Name y py] (.ListComp elt [⟨tg, iter, ifs, 0⟩] scope pos) spos) (mSet i (mi.bind (mLc (own.map (·.2)) f mc me))) := by
  obtain ⟨wi, pI, kI⟩ := hi
  exact ⟨_, ps_len (ps_setLc hc hN hy hyl hsw pI ok (fun s H C cl fp => (hg s H C cl fp).can) (fun s H C cl fp => (ht s H C cl fp).can) (fun s H C cl fp => (he s H C cl fp).can) hf),
    fun G H σ env Fp Dn S h hl => set_by hx S h fun Q q => lc_read (L := fun _ => True) (fun G H σ env Fp R _ => kI G H σ env Fp R) G H σ env Fp Q trivial S q _ hl⟩
theorem s_setLcI (hc : X.calm = true) (hN : X.N.Nodup) (hy : X.N[i]? = some y) (hyl : X.env.scope.names.lookup y = some .local) (hi : Di X W pa tg iter mi) (ok : BlkOk X.N X.env.scope scope own)
    (hg : ∀ (s : Shared) (H : Hp) (C : Addr) (cl : List (Str × Addr)) (fp : List Addr), DG (X.blk s H scope (compEnvC scope cl C X.env) fp) (others X.N.length (own.map (·.2))) tg f)
    (ht : ∀ (s : Shared) (H : Hp) (C : Addr) (cl : List (Str × Addr)) (fp : List Addr), Ets (X.blk s H scope (compEnvC scope cl C X.env) fp) W0 false ifs mc)
    (he : ∀ (s : Shared) (H : Hp) (C : Addr) (cl : List (Str × Addr)) (fp : List Addr), Eo (X.blk s H scope (compEnvC scope cl C X.env) fp) W0 false elt me)
    (hx : i ∉ fx := by decide) (hsw : swapsWith (.ListComp elt [⟨tg, iter, ifs, 0⟩] scope pos) (some (.Name y py)) spos.line X.env = pure true := by rfl)
    (hf : ∀ x, foldedSetIterable iter X.env x = pure x := by intro _; rfl) : DS X W fx (.Assign [.Name y py] (.ListComp elt [⟨tg, iter, ifs, 0⟩] scope pos) spos) (mSet i (mi.bind (mLcI (own.map (·.2)) f mc me))) := by
  obtain ⟨wi, pI, kI⟩ := hi
  exact ⟨_, ps_len (ps_setLc hc hN hy hyl hsw pI ok (fun s H C cl fp => (hg s H C cl fp).can) (fun s H C cl fp => (ht s H C cl fp).can) (fun s H C cl fp => (he s H C cl fp).can) hf),
    fun G H σ env Fp Dn S h hl => set_by hx S h fun Q q => lcI_read (L := fun _ => True) (fun G H σ env Fp R _ => kI G H σ env Fp R) G H σ env Fp Q trivial S q _ hl⟩
/-- a, b, c = x, y, z -/
def mPar3 (i j l : Nat) (m : M (List T)) : M Fl := m.bind fun ts env => match ts with
  | [t, u, w] => .ok .nx (((env.set i (some t)).set j (some u)).set l (some w))
  | _ => .bad
end
end DL
/-! The data layer: the block of a comprehension, wherever it stands; a def that is never reached. -/
namespace DL
open PySem L2 PyProof.Rows
theorem fnG_bad {P : Program} {w : World} {K : Frg} {mg : Str → Option Value} {base : Heap} {k n : Nat} {f : Addr} {fd : FuncData} {ps : List Str} (hn : ps.length = n := by rfl) : FnG P w K mg base k f fd ps (spD K mg n fun _ => .bad) :=
  ⟨fun vs H Q E h => h.1.trans hn.symm, fun A outer s H args us vs Q E _ _ _ _ h => h.2.elim fun _ h => h.elim fun _ h => h.elim fun _ h => h.2.elim⟩
section
variable {X : Cx} {W : WX} {md : Md} {pa pb pc : Bool} {a b c : Expr} {ma mb mc : M D} {pos : Pos} {ifs : List Expr} {mt : M Bool}
theorem Ets.impure (h : Ets X W pa ifs mt) : Ets X W false ifs mt := by
  obtain ⟨te, p, k⟩ := h
  exact ⟨te, p, fun G H σ env Fp Q S h => k G H σ env Fp Q S (h.pure_less)⟩
theorem t_leLt (ha : Ex X W .frz pa a ma) (hb : Ex X W .frz pb b mb) (hc : Ex X W .frz pc c mc) (hm : lastMarks [.LtE, .Lt] [b, c] = false := by with_unfolding_all rfl) : Et X W (pa && (pb && pc)) (.Compare a [.LtE, .Lt] [b, c] pos) ((m3c dLe dLt ma mb mc).bind tru) := by
  obtain ⟨ta, p1, k1⟩ := ha
  obtain ⟨tb, p2, k2⟩ := hb
  obtain ⟨tc, p3, k3⟩ := hc
  exact ⟨_, pt_chain op_le op_lt p1 p2 p3 hm, fun G H σ env Fp Q S h => post_test (md := .frz) (rd_chain os_le' os_lt' k1 k2 k3) S h⟩
end
end DL
/-! zip(a, b), each of both a list or a tuple. -/
namespace ZM
open PySem PySem.Spec PyProof.Rows L2
open PySem.Sem (wp)
/-- a list or a tuple -/
inductive Kd | l | t
def Kd.sq : Kd → String
  | .l => "list"
  | .t => "tuple"
def Kd.it : Kd → String
  | .l => "list_iterator"
  | .t => "tuple_iterator"
def Seq (k : Kd) (h : Heap) (a : Addr) (xs : Array Value) : Prop := ∃ o, h.get? a = some o ∧ o.cls = .type k.sq ∧ ∃ n, o.data = .seq xs n
def Itr (k : Kd) (h : Heap) (j a : Addr) (i : Nat) : Prop := ∃ o, h.get? j = some o ∧ o.cls = .type k.it ∧ o.data = .fields #[.ref a, .int i 0]
theorem Seq.up {k : Kd} {h h' : Heap} {a : Addr} {xs : Array Value} (x : Seq k h a xs) (e : ∀ o, h.get? a = some o → h'.get? a = some o) : Seq k h' a xs := by
  obtain ⟨o, p, r⟩ := x
  exact ⟨o, e o p, r⟩
theorem Itr.up {k : Kd} {h h' : Heap} {j a : Addr} {i : Nat} (x : Itr k h j a i) (e : ∀ o, h.get? j = some o → h'.get? j = some o) : Itr k h' j a i := by
  obtain ⟨o, p, r⟩ := x
  exact ⟨o, e o p, r⟩
section
variable {prog : Program} {w : World} {A : Around} {E : Value → Shared → Prop} {s : Shared}
theorem step {k : Kd} {j a : Addr} {i : Nat} {xs : Array Value} {x : Value} {Q : Value → Shared → Prop} (hj : Itr k s.heap j a i) (ha : Seq k s.heap a xs) (hx : xs[i]? = some x)
    (go : ∀ g, Itr k g j a (i + 1) → Heap.SameBut j s.heap g → Q x { s with heap := g }) : wpAny (model prog w) A (Builtin.SmallTypes.nextOf (.ref j)) Q E s := by
  cases k with
  | l => exact wpAny_nextOf_list_item hj ha hx go
  | t => exact RZ.nextOf_tuple_item hj ha hx go
theorem stop {k : Kd} {j a : Addr} {i : Nat} {xs : Array Value} {Q : Value → Shared → Prop} (hd : A.handled = none) (hj : Itr k s.heap j a i) (ha : Seq k s.heap a xs) (hx : xs[i]? = none)
    (go : ∀ g e, Heap.ExtBut j s.heap g → (∃ o, g.get? e = some o ∧ o.cls = .type "StopIteration") → E (.ref e) { s with heap := g }) : wpAny (model prog w) A (Builtin.SmallTypes.nextOf (.ref j)) Q E s := by
  cases k with
  | l => exact wpAny_nextOf_list_end hd hj ha hx go
  | t => exact RZ.nextOf_tuple_end hd hj ha hx go
theorem iter {k : Kd} {a : Addr} {xs : Array Value} {Q : Value → Shared → Prop} (ha : Seq k s.heap a xs) (go : Q (.ref s.heap.objs.size) { s with heap := s.heap.push { cls := .type k.it, data := .fields #[.ref a, .int 0 0] } }) :
    wpAny (model prog w) A (pyIter (.ref a)) Q E s := by
  cases k with
  | l => exact wpAny_pyIter_list ha go
  | t => exact wpAny_pyIter_tuple ha go
/-- the zip and all that is its own, with both iterators at their places -/
structure At (k1 k2 : Kd) (h : Heap) (z P O j1 j2 a1 a2 : Addr) (f : Value) (u v : Value) (n1 n2 : Nat) : Prop where
  z : IsZip h z P O f
  p : IsPair h P (.ref j1) (.ref j2)
  o : IsPair h O u v
  i1 : Itr k1 h j1 a1 n1
  i2 : Itr k2 h j2 a2 n2
/-- all that stands outside the zip stays -/
def Out (z O j1 j2 : Addr) (h g : Heap) : Prop := ∀ c o, c ≠ z → c ≠ O → c ≠ j1 → c ≠ j2 → h.get? c = some o → g.get? c = some o
theorem turn {k1 k2 : Kd} {z P O j1 j2 a1 a2 : Addr} {n1 n2 : Nat} {xs ys : Array Value} {x y u v : Value} {Q : Value → Shared → Prop} (D : ZipApart z P O j1 j2 a1 a2) (T : At k1 k2 s.heap z P O j1 j2 a1 a2 .none u v n1 n2)
    (s1 : Seq k1 s.heap a1 xs) (s2 : Seq k2 s.heap a2 ys) (hx : xs[n1]? = some x) (hy : ys[n2]? = some y)
    (go : ∀ g, At k1 k2 g z P O j1 j2 a1 a2 (rawInt s.heap.objs.size) x y (n1 + 1) (n2 + 1) → IsPair g s.heap.objs.size x y → g.objs.size = s.heap.objs.size + 1 → Out z O j1 j2 s.heap g → Q (.ref s.heap.objs.size) { s with heap := g }) :
    wpAny (model prog w) A (Builtin.«zip.__next__» ⟨[.ref z], []⟩) (fun fin t => ∃ r, fin = .done (.ret r) ∧ Q r t) E s := by
  refine wpAny_bind (m := field (.ref z) 2) (wpAny_field T.z rfl (x := .bool false) rfl ?_)
  refine wpAny_bind (m := field (.ref z) 3) (wpAny_field T.z rfl (x := .ref P) rfl ?_)
  refine wpAny_bind (wpAny_seqItems T.p rfl ?_)
  refine wpAny_bind (m := Builtin.SmallTypes.ownedTupleIsFree (.ref z)) ?_
  unfold Builtin.SmallTypes.ownedTupleIsFree
  refine wpAny_bind (wpAny_field T.z rfl (x := .none) rfl ?_)
  refine wpAny_pure ?_
  simp only [if_true]
  refine wpAny_bind (wpAny_rule (wpAny_bind (wpAny_field T.z rfl (x := .ref O) rfl ?_)))
  refine wpAny_bind (wpAny_setField_rec T.z (by simp) fun gA zA bA => ?_)
  have zA : IsZip gA z P O .ellipsis := zA
  refine wpAny_bind ?_
  simp only [List.zipIdx_cons, List.zipIdx_nil, List.forIn_cons, List.forIn_nil]
  -- the first item
  refine wpAny_bind (wpAny_bind (wpAny_onRaise (wpAny_bind (m := Builtin.SmallTypes.nextOf (.ref j1)) ?_)))
  refine step (T.i1.up fun o e => bA.2 _ D.i1z ▸ e) (s1.up fun o e => bA.2 _ D.l1z ▸ e) hx fun gB iB bB => wpAny_pure ?_
  have oB : IsPair gB O u v := (bB.2 _ D.TOi1).trans ((bA.2 _ D.TOz).trans T.o)
  refine wpAny_bind (wpAny_seqItems oB rfl (wpAny_bind (wpAny_updateSeq_pair oB fun gC oC bC => ?_)))
  have oC : IsPair gC O x v := oC
  refine wpAny_bind (wpAny_letGo (wpAny_pure ?_))
  -- the second item
  refine wpAny_bind (wpAny_bind (wpAny_onRaise (wpAny_bind (m := Builtin.SmallTypes.nextOf (.ref j2)) ?_)))
  have toC : ∀ {c : Addr}, c ≠ z → c ≠ O → c ≠ j1 → ∀ o, s.heap.get? c = some o → gC.get? c = some o := fun c1 c2 c3 o e => (bC.2 _ c2).trans ((bB.2 _ c3).trans ((bA.2 _ c1).trans e))
  refine step (T.i2.up (toC D.i2z D.TOi2.symm D.i12.symm)) (s2.up (toC D.l2z D.l2TO D.l2i1)) hy fun gD iD bD => wpAny_pure ?_
  have oD : IsPair gD O x v := (bD.2 _ D.TOi2).trans oC
  refine wpAny_bind (wpAny_seqItems oD rfl (wpAny_bind (wpAny_updateSeq_pair oD fun gE oE bE => ?_)))
  have oE : IsPair gE O x y := oE
  refine wpAny_bind (wpAny_letGo (wpAny_pure (wpAny_pure ?_)))
  refine wpAny_bind (wpAny_seqItems oE rfl (wpAny_bind (wpAny_newTuple ?_)))
  have toE : ∀ {c : Addr}, c ≠ z → c ≠ O → c ≠ j1 → c ≠ j2 → ∀ o, s.heap.get? c = some o → gE.get? c = some o := fun c1 c2 c3 c4 o e => (bE.2 _ c2).trans ((bD.2 _ c4).trans (toC c1 c2 c3 o e))
  have size : gE.objs.size = s.heap.objs.size := by rw [bE.1, bD.1, bC.1, bB.1, bA.1]
  have zE : IsZip gE z P O .ellipsis := (bE.2 _ D.TOz.symm).trans ((bD.2 _ D.i2z.symm).trans ((bC.2 _ D.TOz.symm).trans ((bB.2 _ D.i1z.symm).trans zA)))
  have iE1 : Itr k1 gE j1 a1 (n1 + 1) := iB.up fun o e => (bE.2 _ D.TOi1.symm).trans ((bD.2 _ D.i12).trans ((bC.2 _ D.TOi1.symm).trans e))
  have iE2 : Itr k2 gE j2 a2 (n2 + 1) := iD.up fun o e => (bE.2 _ D.TOi2.symm).trans e
  have ltz : z < gE.objs.size := Heap.lt_size zE
  refine wpAny_bind (m := Builtin.SmallTypes.ownedTupleHandOut (.ref z) (.ref gE.objs.size)) ?_
  unfold Builtin.SmallTypes.ownedTupleHandOut
  have zF : IsZip (gE.push { cls := .type "tuple", data := .seq #[x, y] }) z P O .ellipsis := Heap.get?_push_of_some _ zE
  refine wpAny_bind (wpAny_setField_rec zF (by simp) fun gG zG bG => ?_)
  have zG : IsZip gG z P O (rawInt gE.objs.size) := zG
  refine wpAny_setField_rec zG (by simp) fun gH zH bH => ?_
  have zH : IsZip gH z P O (rawInt gE.objs.size) := zH
  have far : ∀ {c : Addr}, c ≠ z → ∀ o, gE.get? c = some o → gH.get? c = some o := fun c1 o e => (bH.2 _ c1).trans ((bG.2 _ c1).trans (Heap.get?_push_of_some _ e))
  have tH : IsPair gH gE.objs.size x y := (bH.2 _ (Nat.ne_of_gt ltz)).trans ((bG.2 _ (Nat.ne_of_gt ltz)).trans (Heap.get?_push_size _ rfl))
  have sH : gH.objs.size = gE.objs.size + 1 := by rw [bH.1, bG.1, Heap.size_push]
  rw [size] at zH tH sH
  refine wpAny_pure ⟨_, rfl, ?_⟩
  show Q (.ref gE.objs.size) _
  rw [size]
  exact go gH ⟨zH, far D.TIz _ (toE D.TIz D.TITO D.TIi1 D.TIi2 _ T.p), far D.TOz _ oE, iE1.up (far D.i1z), iE2.up (far D.i2z)⟩ tH sH fun c o c1 c2 c3 c4 e => far c1 o (toE c1 c2 c3 c4 o e)
theorem turnN {k1 k2 : Kd} {z P O j1 j2 a1 a2 : Addr} {n1 n2 : Nat} {xs ys : Array Value} {x y u v : Value} {Q : Option Value → Shared → Prop} (D : ZipApart z P O j1 j2 a1 a2) (T : At k1 k2 s.heap z P O j1 j2 a1 a2 .none u v n1 n2)
    (s1 : Seq k1 s.heap a1 xs) (s2 : Seq k2 s.heap a2 ys) (hx : xs[n1]? = some x) (hy : ys[n2]? = some y)
    (go : ∀ g, At k1 k2 g z P O j1 j2 a1 a2 (rawInt s.heap.objs.size) x y (n1 + 1) (n2 + 1) → IsPair g s.heap.objs.size x y → g.objs.size = s.heap.objs.size + 1 → Out z O j1 j2 s.heap g → Q (some (.ref s.heap.objs.size)) { s with heap := g }) :
    wpAny (model prog w) A (pyNext (.ref z)) Q E s := by
  have ty : s.TypeIs (.ref z) "zip" := ⟨_, T.z, rfl⟩
  unfold pyNext
  refine wpAny_bind (wpAny_attempt (wpAny_callSpecial?_slot (name := Str.ofString "__next__") ty F.slot_zip_next ?_))
  exact wpAny_call_entry F.slot_zip_next ty F.entry_zip_next (turn D T s1 s2 hx hy fun g b1 b2 b3 b4 => wpAny_pure (go g b1 b2 b3 b4)) (F.args_zip_next_1 _)
end
/-! ### zip made -/
abbrev m1 (k : Kd) (h : Heap) (a : Addr) : Heap := h.push { cls := .type k.it, data := .fields #[.ref a, .int 0 0] }
abbrev m2 (k k' : Kd) (h : Heap) (a b : Addr) : Heap := m1 k' (m1 k h a) b
abbrev m3 (k k' : Kd) (h : Heap) (a b : Addr) : Heap := (m2 k k' h a b).push { cls := .type "tuple", data := .seq #[.ref h.objs.size, .ref (m1 k h a).objs.size] }
abbrev m4 (k k' : Kd) (h : Heap) (a b : Addr) : Heap := (m3 k k' h a b).push { cls := .type "tuple", data := .seq #[.none, .none] }
section
variable {prog : Program} {w : World} {A : Around} {E : Value → Shared → Prop} {s : Shared}
end
/-! ### the turns -/
end ZM
namespace DL
open PySem L2 PyProof.Rows
section
variable {K : Frg} {G : Hp}
end
section
variable {X : Cx} {W : WX} {pa : Bool} {a b : Expr} {ms : M (List D)} {pos : Pos}
end
end DL
/-! The data layer: str(x) of an integer or a text. -/
namespace DL
open PySem L2 PyProof.Rows
def dStrA : List D → Option D
  | [.int i] => if i.natAbs.log2 < 1920 then some (.str (toString i)) else none
  | [.str x] => some (.str x)
  | _ => none
section
variable {X : Cx} {W : WX} {md : Md} {pa : Bool} {a : Expr} {ms : M (List D)} {p pos : Pos} {K : Frg}
theorem cs_strA : CaS K (fun xs H Q => (∃ i, xs = [.int i] ∧ i.natAbs.log2 < 1920 ∧ Q (.str (toString i)) H) ∨ ∃ a, xs = [.str a] ∧ Q (.str a) H) dStrA := fun G H xs ds d Q gl l e k => by
  unfold dStrA at e
  split at e
  · split at e
    · cases e
      obtain ⟨v, rfl, dv⟩ := l.one
      exact .inl ⟨_, by rw [dv.of_int], by assumption, k _ G H (Grow.refl gl) (.str _)⟩
    · cases e
  · cases e
    obtain ⟨v, rfl, dv⟩ := l.one
    exact .inr ⟨_, by rw [dv.of_str], k _ G H (Grow.refl gl) (.str _)⟩
  · cases e
theorem b_strA (hg : Gl X "str") (hm : X.mg "str" = none) (ha : Ea X W md pa [a] ms) (he : starEach [a] X.env = (false, eval a X.env) :: starEach [] X.env := by rfl) (hpl : (backTo pos (starEach [] X.env)).any (·.1) = false := by rfl) : Ex X W .frz pa (.Call (.Name "str" p) [a] [] pos) (mL dStrA ms) :=
  xt_s (call_str_int.or SkE.call_str_str) cs_strA (fl1 fun a d h => by
    unfold dStrA at h
    split at h
    · split at h <;> cases h
      exact .inr (.inr ⟨_, rfl⟩)
    · cases h
      exact .inr (.inr ⟨_, rfl⟩)
    · cases h) hg hm (by decide +kernel) ha (by decide) (by decide) he hpl
end
end DL
/-! The data layer: l.extend(t) of a list with a list or a tuple. -/
namespace PySem
open PySem.Sem (wp)
open PySem.AutoSeq1
theorem ext_tup (l : Addr) (xs : Array Value) (n : Nat) (b : Addr) (ys : Array Value) (k : Nat) (dc : Option Addr) (sl : Array (Option Value)) (h0 : ¬(!xs.isEmpty && Builtin.List.listTooLong (xs.size + ys.size)) = true) (h1 : xs.size ≤ sizeLine) (h2 : xs.size + ys.size ≤ sizeLine + 1) :
    Meets (Builtin.«list.extend» ⟨[.ref l, .ref b], []⟩) (fun _ R s => s.heap.get? l = some { cls := .type "list", dict := none, data := .seq xs n, slots := #[] } ∧ s.heap.get? b = some { cls := .type "tuple", dict := dc, data := .seq ys k, slots := sl } ∧
      R (.ok (.ret Value.none)) { s with heap := s.heap.update l (Obj.mapSeq fun x => x ++ ys), toks := s.toks }) := .of_wp fun prog w A R s hyp => by
  obtain ⟨hp, gens, dd, tk, os⟩ := s
  obtain ⟨p, q, fin⟩ := hyp
  have a1 := idx_int
  have a2 := sub_tuple_tuple
  have a3 := sub_list_list
  have a4 := sub_tuple_list
  have a5 := sub_list_tuple
  have sz : (xs ++ ys).size ≤ sizeLine + 1 := by
    rw [Array.size_append]
    exact h2
  wp_walk using (wpAny_updateSeq p rfl (hz := h1) (_hz' := sz)), wpAny_loadPart' p, wpAny_loadPart' q
  exact ⟨_, rfl, fin⟩
end PySem
namespace DL
open PySem L2 PyProof.Rows
def gExtA : T → List T → Option (T × T)
  | .ol ts, [.fz (.list ds)] => if ts.length + ds.length ≤ sizeLine then some (.ol (ts ++ ds.map T.fz), .fz .none) else none
  | .ol ts, [.fz (.tuple ds)] => if ts.length + ds.length ≤ sizeLine then some (.ol (ts ++ ds.map T.fz), .fz .none) else none
  | _, _ => none
def rExtT (K : Frg) : V → List V → Hp → VK → Prop := fun x vs H Q => ∃ l b xs zs, x = .ref l ∧ vs = [.ref b] ∧ H l = some (.lst xs) ∧ SqT K H b zs ∧ xs.length + zs.length ≤ sizeLine ∧ Q .non (upd H l (.lst (xs ++ zs)))
theorem mt_extT {X : Cx} : MtR X "list.extend" (rExtT X.K) := by
  intro pins s σ H x vs v us Q I rx rv h
  obtain ⟨l, b, xs, zs, rfl, rfl, hH, hB, hz, q⟩ := h
  cases rx
  obtain ⟨u, rfl, ru⟩ := rv.one
  cases ru
  obtain ⟨z, its, n, r, hl, e⟩ := I.lstM hH
  obtain ⟨its2, r2, p2, _⟩ := I.tuple hB
  obtain ⟨⟨oc, od, odt, osl⟩, e2, c2, n2, d2⟩ := id p2
  dsimp only at c2 d2
  subst c2
  subst d2
  have lz := r2.length
  have short : (!its.toArray.isEmpty && Builtin.List.listTooLong (its.toArray.size + its2.toArray.size)) = false := by
    rw [notLongL (by rw [List.size_toArray, List.size_toArray]; omega), Bool.and_false]
  have go := ext_tup l its.toArray n b its2.toArray n2 od osl (by rw [short]; exact Bool.false_ne_true) (by rw [List.size_toArray]; omega) (by rw [List.size_toArray, List.size_toArray]; omega)
  exact call_meets F.slot_list_extend ⟨_, e, rfl⟩ F.entry_list_extend (F.args_list_extend_2 _ _) go ⟨e, e2, .non, _, I.lset (its' := its ++ its2) hH e (by simp) (r.append r2) (by rw [List.length_append]; exact hz), rfl, q⟩
def rExtA (K : Frg) : V → List V → Hp → VK → Prop := fun x vs H Q => rExtR K x vs H Q ∨ rExtT K x vs H Q
theorem mt_extA {X : Cx} : MtR X "list.extend" (rExtA X.K) := by
  intro pins s σ H x vs v us Q I rx rv h
  rcases h with h | h
  · exact mt_extR pins s σ H x vs v us Q I rx rv h
  · exact mt_extT pins s σ H x vs v us Q I rx rv h
theorem ms_extA {K : Frg} : MeS K (rExtA K) gExtA := by
  intro G H v t F0 vs us Fr t' rt Q gl o ol nd ap e k
  unfold gExtA at e
  split at e
  · refine .inl (ms_ext G H v _ F0 vs _ Fr t' rt Q gl o ol nd ap ?_ k)
    unfold gExt
    exact e
  · split at e
    · cases e
      rename_i ts ds hz
      cases o with
      | @ol a xs ts F1 hx hl =>
      obtain ⟨y, rfl, oy⟩ := ol.one
      cases oy with
      | fz dy =>
      obtain ⟨b, zs, rfl, s1, l1⟩ := dy.of_tup
      have nd1 := List.nodup_cons.mp (List.nodup_append.mp nd).1
      have keep : ∀ b, b ≠ a → upd H a (.lst (xs ++ zs)) b = H b := fun b hb => upd_ne hb
      refine .inr ⟨a, b, xs, zs, rfl, rfl, hx, gl.sqT s1, by rw [hl.len, l1.length]; exact hz, ?_⟩
      refine k .non _ (a :: F1) [] (fun b hb => keep b fun z => hb (z ▸ List.mem_cons_self)) (.ol upd_same ?_) (.fz .non) (List.nodup_append.mp nd).1 fun b m => by simpa using m
      have q := (hl.stay (G' := G) (H' := upd H a (.lst (xs ++ zs))) (GLe.refl _) fun b m => keep b fun z => nd1.1 (z ▸ m)).app (ownL_fz l1)
      simpa using q
    · cases e
  · cases e
end DL
/-! The data layer: a != b of texts of any signs. -/
namespace DL
open PySem L2 PyProof.Rows
def dNeS : D → D → Option D
  | .str a, .str b => some (.bool (!(a == b)))
  | a, b => dNe a b
section
variable {X : Cx} {W : WX} {md : Md} {pa pb : Bool} {a b : Expr} {ma mb : M D} {pos : Pos}
theorem os_neS {K : Frg} : OpS K (fun x y H Q => (rNeD K x y H Q ∨ rNeE K x y H Q) ∨ rNe x y H Q) dNeS := fun G H x y d1 d2 d Q gl e1 e2 e k => by
  unfold dNeS at e
  split at e
  · cases e
    rename_i u v
    obtain rfl := e1.of_str
    obtain rfl := e2.of_str
    refine .inr ⟨rfl, ?_⟩
    rw [dec_str]
    exact k _ G H (Grow.refl gl) (.bl _)
  · exact .inl (os_ne G H x y _ _ d Q gl e1 e2 e k)
theorem t_neS (hu : X.A.units + 64 < cLine) (ha : Ex X W md pa a ma) (hb : Ex X W md pb b mb) (hm : md = .frz ∨ pb = true := by first | exact Or.inl rfl | exact Or.inr rfl) : Et X W (pa && pb) (.Compare a [.NotEq] [b] pos) ((m2 dNeS ma mb).bind tru) :=
  et2 (fun ta tb p q => pt_cmpR ((op_neDE hu).or op_ne) p q (nomark _)) os_neS ha hb hm
end
end DL
/-! The data layer, part XA: dicts whose keys are tuples of keys. -/
namespace DL
open PySem L2 PyProof.Rows
/-! ### tuple keys -/
def ksOf : List D → Option (List Key)
  | [] => some []
  | d :: r => (kOf d).bind fun k => (ksOf r).map (k :: ·)
def kTOf : D → Option (List Key)
  | .tuple ds => ksOf ds
  | _ => none
theorem kOf_keyD (k : Key) : kOf (keyD k) = some k := by cases k <;> rfl
theorem ksOf_map : ∀ ks : List Key, ksOf (ks.map keyD) = some ks
  | [] => rfl
  | k :: r => by rw [List.map_cons, ksOf, kOf_keyD, ksOf_map r]; rfl
theorem kTOf_tup (ks : List Key) : kTOf (.tuple (ks.map keyD)) = some ks := ksOf_map ks
/-- is this the key? -/
def tIs (ks : List Key) (d : D) : Bool := decide (kTOf d = some ks)
theorem tIs_key (k j : List Key) : tIs k (.tuple (j.map keyD)) = decide (j = k) := by
  unfold tIs
  rw [kTOf_tup]
  by_cases h : j = k <;> simp [h]
def atW (k : List Key) : List (D × T) → Option T
  | [] => none
  | (j, t) :: r => if tIs k j = true then some t else atW k r
def putW (k : List Key) (t' : T) : List (D × T) → List (D × T)
  | [] => []
  | (j, t) :: r => if tIs k j = true then (j, t') :: r else (j, t) :: putW k t' r
def setW (k : List Key) (t : T) (kvs : List (D × T)) : List (D × T) := match atW k kvs with
  | some _ => putW k t kvs
  | none => kvs ++ [(.tuple (k.map keyD), t)]
def atWD (k : List Key) : List (D × D) → Option D
  | [] => none
  | (j, t) :: r => if tIs k j = true then some t else atWD k r
def allW {α : Type} (kvs : List (D × α)) : Bool := kvs.all fun p => (kTOf p.1).isSome
def atVT (k : List Key) : List (List Key × V) → Option V
  | [] => none
  | (j, v) :: r => if j = k then some v else atVT k r
section
variable {K : Frg} {G H : Hp}
theorem OwnT.keys : ∀ {ks : List (List Key × V)} {kvs : List (D × T)} {F : List Addr}, OwnT K G H ks kvs F → kvs.map (·.1) = ks.map fun p => (.tuple (p.1.map keyD) : D)
  | _, _, _, .nil => rfl
  | _, _, _, .cons _ t => by rw [List.map_cons, List.map_cons, t.keys]
theorem OwnT.none (k : List Key) : ∀ {ks : List (List Key × V)} {kvs : List (D × T)} {F : List Addr}, OwnT K G H ks kvs F → atW k kvs = none → ∀ p ∈ ks, p.1 ≠ k
  | _, _, _, .nil, _, p, m => absurd m (by simp)
  | _, _, _, .cons (k := j) _ t, e, p, m => by
    unfold atW at e
    rw [tIs_key] at e
    by_cases z : j = k
    · rw [if_pos (decide_eq_true z)] at e; cases e
    · rw [if_neg (by simpa using z)] at e
      rcases List.mem_cons.mp m with rfl | m
      · exact z
      · exact t.none k e p m
theorem OwnT.snoc {k : List Key} {v : V} {t : T} {Fr : List Addr} (o : Own K G H v t Fr) : ∀ {ks : List (List Key × V)} {kvs : List (D × T)} {F : List Addr}, OwnT K G H ks kvs F → OwnT K G H (ks ++ [(k, v)]) (kvs ++ [(.tuple (k.map keyD), t)]) (F ++ Fr)
  | _, _, _, .nil => by
    have z := OwnT.cons (k := k) o (.nil (K := K) (G := G) (H := H))
    simpa using z
  | _, _, _, .cons (k := j) h r => by
    have z := OwnT.cons (k := j) h (OwnT.snoc (k := k) o r)
    simpa [List.append_assoc] using z
theorem putT_none {ks : List (List Key × V)} {k : List Key} {v : V} (h : ∀ p ∈ ks, p.1 ≠ k) : L2.putK ks k v = ks ++ [(k, v)] := by
  unfold L2.putK
  rw [if_neg]
  intro z
  obtain ⟨p, m, e⟩ := List.any_eq_true.mp z
  exact h p m (of_decide_eq_true e)
theorem putT_cons_ne {j k : List Key} {x v : V} {ks : List (List Key × V)} (h : j ≠ k) (h2 : ∃ p ∈ ks, p.1 = k) : L2.putK ((j, x) :: ks) k v = (j, x) :: L2.putK ks k v := by
  obtain ⟨p, m, e⟩ := h2
  have a1 : (ks.any fun kv => decide (kv.1 = k)) = true := List.any_eq_true.mpr ⟨p, m, decide_eq_true e⟩
  have a2 : (((j, x) :: ks).any fun kv => decide (kv.1 = k)) = true := List.any_eq_true.mpr ⟨p, List.mem_cons_of_mem _ m, decide_eq_true e⟩
  unfold L2.putK
  rw [if_pos a1, if_pos a2, List.map_cons, if_neg h]
theorem putT_cons_eq {k : List Key} {x v : V} {ks : List (List Key × V)} (h : ∀ p ∈ ks, p.1 ≠ k) : L2.putK ((k, x) :: ks) k v = (k, v) :: ks := by
  have a2 : (((k, x) :: ks).any fun kv => decide (kv.1 = k)) = true := List.any_eq_true.mpr ⟨_, List.mem_cons_self, decide_eq_true rfl⟩
  unfold L2.putK
  rw [if_pos a2, List.map_cons, if_pos rfl]
  congr 1
  have z : ks.map (fun kv => if kv.1 = k then (kv.1, v) else kv) = ks.map id := List.map_congr_left fun p m => by rw [if_neg (h p m)]; rfl
  rw [z, List.map_id]
theorem OwnT.hasK {k : List Key} {t0 : T} : ∀ {ks : List (List Key × V)} {kvs : List (D × T)} {F : List Addr}, OwnT K G H ks kvs F → atW k kvs = some t0 → ∃ p ∈ ks, p.1 = k
  | _, _, _, .nil, e => nomatch e
  | _, _, _, .cons (k := j) _ r, e => by
    unfold atW at e
    rw [tIs_key] at e
    by_cases z : j = k
    · exact ⟨_, List.mem_cons_self, z⟩
    · rw [if_neg (by simpa using z)] at e
      obtain ⟨p, m, e⟩ := r.hasK e
      exact ⟨p, List.mem_cons_of_mem _ m, e⟩
theorem OwnT.putS {k : List Key} {v : V} {t t0 : T} {Fr : List Addr} (o : Own K G H v t Fr) : ∀ {ks : List (List Key × V)} {kvs : List (D × T)} {F : List Addr}, OwnT K G H ks kvs F → atW k kvs = some t0 → (kvs.map (·.1)).Nodup → (F ++ Fr).Nodup →
    ∃ F', OwnT K G H (L2.putK ks k v) (putW k t kvs) F' ∧ F'.Nodup ∧ ∀ a ∈ F', a ∈ F ∨ a ∈ Fr
  | _, _, _, .nil, q, _, _ => nomatch q
  | _, _, _, .cons (k := j) (v := x) (ks := ks) (t := u) (kvs := kvs) (F := F1) (F' := F2) hx hr, q, nd, ndF => by
    rw [List.map_cons, List.nodup_cons] at nd
    obtain ⟨n1, n2⟩ := nd
    rw [List.append_assoc] at ndF
    obtain ⟨m1, m2, m3⟩ := List.nodup_append.mp ndF
    unfold atW at q
    rw [tIs_key] at q
    by_cases z : j = k
    · subst z
      have none : ∀ p ∈ ks, p.1 ≠ j := fun p m e => n1 (by
        rw [hr.keys]
        exact List.mem_map.mpr ⟨p, m, by rw [e]⟩)
      rw [putT_cons_eq none]
      refine ⟨Fr ++ F2, ?_, ?_, fun a m => (List.mem_append.mp m).elim .inr fun z => .inl (List.mem_append_right _ z)⟩
      · unfold putW
        rw [if_pos (by rw [tIs_key]; exact decide_eq_true rfl)]
        exact .cons o hr
      · obtain ⟨a1, a2, a3⟩ := List.nodup_append.mp m2
        exact List.nodup_append.mpr ⟨a2, a1, fun a ma b mb e => a3 b mb a ma e.symm⟩
    · rw [if_neg (by simpa using z)] at q
      obtain ⟨F', r1, r2, r3⟩ := OwnT.putS o hr q n2 m2
      rw [putT_cons_ne z (hr.hasK q)]
      refine ⟨F1 ++ F', ?_, List.nodup_append.mpr ⟨m1, r2, fun a ma b mb e => m3 a ma b ((r3 b mb).elim (List.mem_append_left _) (List.mem_append_right _)) e⟩, fun a m => ?_⟩
      · unfold putW
        rw [if_neg (by rw [tIs_key]; simpa using z)]
        exact .cons hx r1
      · rcases List.mem_append.mp m with m | m
        · exact .inl (List.mem_append_left _ m)
        · exact (r3 a m).imp (List.mem_append_right _) id
/-- a key's value stored -/
theorem OwnT.put {k : List Key} {v : V} {t : T} {Fr : List Addr} (o : Own K G H v t Fr) {ks : List (List Key × V)} {kvs : List (D × T)} {F : List Addr} (h : OwnT K G H ks kvs F) (nd : (kvs.map (·.1)).Nodup) (ndF : (F ++ Fr).Nodup) :
    ∃ F', OwnT K G H (L2.putK ks k v) (setW k t kvs) F' ∧ F'.Nodup ∧ ∀ a ∈ F', a ∈ F ∨ a ∈ Fr := by
  unfold setW
  cases q : atW k kvs with
  | none =>
    rw [putT_none (h.none k q)]
    exact ⟨F ++ Fr, h.snoc o, ndF, fun a m => List.mem_append.mp m⟩
  | some t0 => exact h.putS o q nd ndF
theorem OwnT.at (k : List Key) : ∀ {ks : List (List Key × V)} {kvs : List (D × T)} {F : List Addr} {t : T}, OwnT K G H ks kvs F → F.Nodup → atW k kvs = some t →
    ∃ v F1, atVT k ks = some v ∧ Own K G H v t F1 ∧ F1.Nodup ∧ (∀ a ∈ F1, a ∈ F) ∧
      ∀ (H' : Hp) (t' : T) (F2 : List Addr), Own K G H' v t' F2 → F2.Nodup → (∀ a ∈ F, a ∉ F1 → H' a = H a) → (∀ a ∈ F2, a ∈ F → a ∈ F1) →
        ∃ F', OwnT K G H' ks (putW k t' kvs) F' ∧ F'.Nodup ∧ ∀ a ∈ F', (a ∈ F ∧ a ∉ F1) ∨ a ∈ F2
  | _, _, _, _, .nil, _, h => nomatch h
  | _, _, _, t, .cons (k := j) (v := v) (ks := ks) (t := u) (kvs := kvs) (F := FA) (F' := FB) o r, nd, h => by
    obtain ⟨n1, n2, n3⟩ := List.nodup_append.mp nd
    unfold atW at h
    by_cases z : tIs k (.tuple (j.map keyD)) = true
    · rw [if_pos z] at h
      cases h
      refine ⟨v, FA, by unfold atVT; rw [if_pos (by rw [tIs_key] at z; exact of_decide_eq_true z)], o, n1, fun a m => List.mem_append_left _ m, fun H' t' F2 o2 nd2 st fr => ?_⟩
      have r2 : OwnT K G H' ks kvs FB := r.stay (fun _ _ e => .inl e) fun a m => st a (List.mem_append_right _ m) fun m1 => n3 a m1 a m rfl
      refine ⟨F2 ++ FB, by unfold putW; rw [if_pos z]; exact .cons o2 r2, List.nodup_append.mpr ⟨nd2, n2, fun a m b m' e => ?_⟩, fun a m => ?_⟩
      · subst e
        exact n3 a (fr a m (List.mem_append_right _ m')) a m' rfl
      · exact (List.mem_append.mp m).elim .inr fun m => .inl ⟨List.mem_append_right _ m, fun z => n3 a z a m rfl⟩
    · rw [if_neg z] at h
      obtain ⟨w, F1, hv, ow, nw, sb, back⟩ := OwnT.at k r n2 h
      refine ⟨w, F1, by unfold atVT; rw [if_neg (fun e => z (by rw [tIs_key]; exact decide_eq_true e))]; exact hv, ow, nw, fun a m => List.mem_append_right _ (sb a m), fun H' t' F2 o2 nd2 st fr => ?_⟩
      have out : ∀ a ∈ FA, a ∉ F1 := fun a m m1 => n3 a m a (sb a m1) rfl
      obtain ⟨F', r', nd', sb'⟩ := back H' t' F2 o2 nd2 (fun a m n => st a (List.mem_append_right _ m) n) fun a m m' => fr a m (List.mem_append_right _ m')
      have o' : Own K G H' v u FA := o.stay (fun _ _ e => .inl e) fun a m => st a (List.mem_append_left _ m) (out a m)
      refine ⟨FA ++ F', by unfold putW; rw [if_neg z]; exact .cons o' r', List.nodup_append.mpr ⟨n1, nd', fun a m b m' e => ?_⟩, fun a m => ?_⟩
      · subst e
        rcases sb' a m' with q | q
        · exact n3 a m a q.1 rfl
        · exact out a m (fr a q (List.mem_append_left _ m))
      · rcases List.mem_append.mp m with q | q
        · exact .inl ⟨List.mem_append_left _ q, out a q⟩
        · exact (sb' a q).imp (fun q => ⟨List.mem_append_right _ q.1, q.2⟩) id
theorem DenT.at (k : List Key) : ∀ {ks : List (List Key × V)} {kvs : List (D × D)} {d : D}, DenT K G ks kvs → atWD k kvs = some d → ∃ v, atVT k ks = some v ∧ Den K G v d
  | _, _, _, .nil, h => nomatch h
  | _, _, d, .cons (k := j) (v := v) (ks := ks) (d := u) (kvs := kvs) o r, h => by
    unfold atWD at h
    rw [tIs_key] at h
    by_cases z : j = k
    · rw [if_pos (decide_eq_true z)] at h
      cases h
      exact ⟨v, by unfold atVT; rw [if_pos z], o⟩
    · rw [if_neg (by rw [decide_eq_true_eq]; exact z)] at h
      obtain ⟨w, hw, dw⟩ := DenT.at k r h
      exact ⟨w, by unfold atVT; rw [if_neg z]; exact hw, dw⟩
theorem DenT.atO (k : List Key) : ∀ {ks : List (List Key × V)} {kvs : List (D × D)}, DenT K G ks kvs → (atVT k ks).isSome = (atWD k kvs).isSome
  | _, _, .nil => rfl
  | _, _, .cons (k := j) _ r => by
    unfold atVT atWD
    rw [tIs_key]
    by_cases z : j = k
    · rw [if_pos z, if_pos (decide_eq_true z)]; rfl
    · rw [if_neg z, if_neg (by simpa using z)]
      exact DenT.atO k r
theorem OwnT.len : ∀ {ks : List (List Key × V)} {kvs : List (D × T)} {F : List Addr}, OwnT K G H ks kvs F → ks.length = kvs.length
  | _, _, _, .nil => rfl
  | _, _, _, .cons _ t => by rw [List.length_cons, List.length_cons, t.len]
theorem OwnK.allW : ∀ {ks : List (Key × V)} {kvs : List (D × T)} {F : List Addr}, OwnK K G H ks kvs F → DL.allW kvs = true → ks = [] ∧ kvs = [] ∧ F = []
  | _, _, _, .nil, _ => ⟨rfl, rfl, rfl⟩
  | _, _, _, .cons (k := k) _ _, e => by cases k <;> simp [DL.allW, kTOf, keyD] at e
theorem DenK.allW : ∀ {ks : List (Key × V)} {kvs : List (D × D)}, DenK K G ks kvs → DL.allW kvs = true → ks = [] ∧ kvs = []
  | _, _, .nil, _ => ⟨rfl, rfl⟩
  | _, _, .cons (k := k) _ _, e => by cases k <;> simp [DL.allW, kTOf, keyD] at e
end
/-! ### the empty dict of keys is one of tuple keys, too -/
section
variable {X : Cx} {pins : List (Addr × Obj)} {σ : L2.St} {H : Hp} {s : Shared} {a : Addr}
end
/-! ### d[key], read -/
section
variable {K : Frg} {G H : Hp} {X : Cx} {W : WX} {md : Md} {pa pb : Bool} {a b : Expr} {ma mb : M D} {pos : Pos}
def dGetW : D → D → Option D
  | .dict kvs, d => (kTOf d).bind fun k => atWD k kvs
  | _, _ => none
/-! ### key in d -/
/-! ### d[key] = value -/
open Classical in
noncomputable def gSetW : T → List T → Option (T × T)
  | .od kvs, [.fz d, t] => (kTOf d).bind fun k => if (kvs.map (·.1)).Nodup ∧ kvs.length < sizeLine ∧ allW kvs = true then some (.od (setW k t kvs), .fz .none) else none
  | _, _ => none
end
end DL
/-! The data layer, part XB: walks over dicts: all frozen dicts are locked while such a walk goes on. -/
namespace DL
open PySem L2 PyProof.Rows
def isDic : HO → Prop
  | .dK _ => True
  | .dT _ => True
  | _ => False
theorem nf_dK {kvs : List (Key × V)} : ∀ b v, HO.dK kvs ≠ .frz b v := fun _ _ z => nomatch z
theorem nf_dT {kvs : List (List Key × V)} : ∀ b v, HO.dT kvs ≠ .frz b v := fun _ _ z => nomatch z
/-! ### locking many things at once -/
section
variable {X : Cx} {pins : List (Addr × Obj)} {σ : L2.St} {H H' : Hp} {s : Shared}
theorem inv_relock (I : Inv X pins σ H s) (hn : ∀ b, H b = none → H' b = none) (ht : ∀ b xs, H b = some (.tup xs) → H' b = some (.tup xs)) (hf : ∀ b o u, X.H_0 b = some (.frz o u) → H' b = some (.frz o u)) (hb : ∀ b ps, H b = some (.tbl ps) → H' b = some (.tbl ps)) (ok : HOk X.prog X.w H' s.heap) : Inv X pins σ H' s :=
  ⟨I.ok, I.os, I.bare, ⟨I.base.keep, I.base.slot, fun b o e n hx => hn _ (I.base.free b o e n hx), I.base.there, fun b xs e => ht _ _ (I.base.tups b xs e), hf, fun b ps e => let ⟨m, q⟩ := I.base.tbls b ps e; ⟨m, hb _ _ q⟩⟩, I.loc, I.cell, hn _ I.free, fun x c e => hn _ (I.freeC x c e),
    fun p hp => let ⟨e, n, r⟩ := I.pin p hp; ⟨e, hn _ n, r⟩, ok, I.len⟩
def lkH (S : Addr → Bool) (od : Addr → Obj) (H : Hp) : Hp := fun b => if S b = true then (H b).map (.frz (od b)) else H b
def unf : Option HO → Option HO
  | some (.frz _ u) => some u
  | o => o
def ulH (S : Addr → Bool) (H : Hp) : Hp := fun b => if S b = true then unf (H b) else H b
theorem lkH_in {S : Addr → Bool} {od : Addr → Obj} {b : Addr} {u : HO} (h : S b = true) (e : H b = some u) : lkH S od H b = some (.frz (od b) u) := by unfold lkH; rw [if_pos h, e]; rfl
theorem lkH_out {S : Addr → Bool} {od : Addr → Obj} {b : Addr} (h : S b = false) : lkH S od H b = H b := by unfold lkH; rw [if_neg (by rw [h]; exact Bool.false_ne_true)]
theorem ulH_in {S : Addr → Bool} {b : Addr} {o : Obj} {u : HO} (h : S b = true) (e : H b = some (.frz o u)) : ulH S H b = some u := by unfold ulH; rw [if_pos h, e]; rfl
theorem ulH_out {S : Addr → Bool} {b : Addr} (h : S b = false) : ulH S H b = H b := by unfold ulH; rw [if_neg (by rw [h]; exact Bool.false_ne_true)]
theorem inv_lockA (I : Inv X pins σ H s) (S : Addr → Bool) (hS : ∀ b, S b = true → ∃ u, H b = some u ∧ isDic u) : ∃ od, Inv X pins σ (lkH S od H) s := by
  have ex : ∀ b, ∃ o : Obj, S b = true → s.heap.get? b = some o := fun b => by
    cases q : S b with
    | false => exact ⟨{ cls := .type "list", data := .seq #[] }, fun z => nomatch z⟩
    | true =>
      obtain ⟨u, e, d⟩ := hS b q
      have x := I.hok b u e
      cases u with
      | dK kvs => obtain ⟨_, _, _, _, o, _, _, e, _⟩ := x; exact ⟨o, fun _ => e⟩
      | dT kvs => obtain ⟨_, _, _, _, o, _, _, e, _⟩ := x; exact ⟨o, fun _ => e⟩
      | _ => exact d.elim
  obtain ⟨od, hod⟩ := Classical.axiomOfChoice ex
  have nS : ∀ b o, H b = some o → ¬ isDic o → S b = false := fun b o e n => by
    cases q : S b with
    | false => rfl
    | true =>
      obtain ⟨u, e2, d⟩ := hS b q
      rw [e] at e2
      cases e2
      exact absurd d n
  have st : ∀ b o, H b = some o → ¬ isDic o → lkH S od H b = some o := fun b o e n => by rw [lkH_out (nS b o e n)]; exact e
  refine ⟨od, inv_relock I (fun b e => ?_) (fun b xs e => st b _ e id) (fun b o u e => st b _ (I.base.frzs b o u e) id) (fun b ps e => st b _ e id) fun b o e => ?_⟩
  · cases q : S b with
    | false => rw [lkH_out q]; exact e
    | true =>
      obtain ⟨u, e2, _⟩ := hS b q
      rw [e] at e2
      cases e2
  · cases q : S b with
    | false =>
      rw [lkH_out q] at e
      exact (I.hok b o e).stay (fun c v _ q => q) (fun c q => st c _ q id) fun c xs q => st c _ q id
    | true =>
      obtain ⟨u, e2, _⟩ := hS b q
      rw [lkH_in q e2] at e
      cases e
      exact ⟨hod b q, (I.hok b u e2).stay (fun c v _ q => q) (fun c q => st c _ q id) fun c xs q => st c _ q id⟩
theorem inv_unlockA {S : Addr → Bool} {od : Addr → Obj} (I : Inv X pins σ H s) (hS : ∀ b, S b = true → ∃ u, isDic u ∧ H b = some (.frz (od b) u)) (hn : ∀ b, S b = true → ∀ o u, X.H_0 b ≠ some (.frz o u)) : Inv X pins σ (ulH S H) s := by
  have nS : ∀ b o, H b = some o → (∀ o' u', o ≠ .frz o' u') → S b = false := fun b o e n => by
    cases q : S b with
    | false => rfl
    | true =>
      obtain ⟨u, d, e2⟩ := hS b q
      rw [e] at e2
      cases e2
      exact absurd rfl (n _ _)
  have st : ∀ b o, H b = some o → (∀ o' u', o ≠ .frz o' u') → ulH S H b = some o := fun b o e n => by rw [ulH_out (nS b o e n)]; exact e
  refine inv_relock I (fun b e => ?_) (fun b xs e => st b _ e fun _ _ z => nomatch z) (fun b o u e => ?_) (fun b ps e => st b _ e fun _ _ z => nomatch z) fun b o e => ?_
  · cases q : S b with
    | false => rw [ulH_out q]; exact e
    | true =>
      obtain ⟨u, _, e2⟩ := hS b q
      rw [e] at e2
      cases e2
  · cases q : S b with
    | false => rw [ulH_out q]; exact I.base.frzs b o u e
    | true => exact absurd e (hn b q o u)
  · cases q : S b with
    | false =>
      rw [ulH_out q] at e
      exact (I.hok b o e).stay (fun c v _ q => q) (fun c q => st c _ q fun _ _ z => nomatch z) fun c xs q => st c _ q fun _ _ z => nomatch z
    | true =>
      obtain ⟨u, _, e2⟩ := hS b q
      rw [ulH_in q e2] at e
      cases e
      obtain ⟨_, x⟩ := I.hok b _ e2
      exact x.stay (fun c v _ q => q) (fun c q => st c _ q fun _ _ z => nomatch z) fun c xs q => st c _ q fun _ _ z => nomatch z
theorem inv_nofrz (I : Inv X pins σ H s) {S : Addr → Bool} (hS : ∀ b, S b = true → ∃ u, H b = some u ∧ isDic u) : ∀ b, S b = true → ∀ o u, X.H_0 b ≠ some (.frz o u) := fun b q o u e => by
  have z := I.base.frzs b o u e
  obtain ⟨v, e2, d⟩ := hS b q
  rw [z] at e2
  cases e2
  exact d
end
def LkEnd (S : Addr → Bool) (od : Addr → Obj) (H' : Hp) : Prop := ∀ b, S b = true → ∃ u, isDic u ∧ H' b = some (.frz (od b) u)
def tLockA (t : TE) : TE := fun σ H Q => ∃ S : Addr → Bool, (∀ b, S b = true → ∃ u, H b = some u ∧ isDic u) ∧ ∀ od, t σ (lkH S od H) fun v H' => LkEnd S od H' ∧ Q v (ulH S H')
section
variable {X : Cx}
theorem pe_lockA {e : Expr} {t : TE} (h : PE X e t) : PE X e (tLockA t) := by
  refine ⟨fun pins s σ H Q I hw => ?_⟩
  obtain ⟨S, hS, hw⟩ := hw
  obtain ⟨od, I1⟩ := inv_lockA I S hS
  refine thn (h.run pins s σ _ _ I1 (hw od)) fun v s1 ⟨x, H1, I2, r, e2, q⟩ => ?_
  exact ⟨x, _, inv_unlockA I2 e2 (inv_nofrz I hS), r, q⟩
end
/-! ### what stands for data, by what is read -/
structure Rds (G G' : Hp) : Prop where
  rd : ∀ a u, (∀ b v, u ≠ .frz b v) → Rd G a u → Rd G' a u
  tu : ∀ a xs, G a = some (.tup xs) → G' a = some (.tup xs)
section
variable {K : Frg} {G H G' H' : Hp}
theorem Rds.sqX (g : Rds G G') {a : Addr} {xs : List V} (h : SqX K G a xs) : SqX K G' a xs := by
  rcases h with h | h
  · exact .inl (g.rd _ _ (fun _ _ z => nomatch z) h)
  · exact .inr h
mutual
theorem Den.rds (g : Rds G G') : ∀ {v : V} {d : D}, Den K G v d → Den K G' v d
  | _, _, .non => .non
  | _, _, .bl b => .bl b
  | _, _, .int i => .int i
  | _, _, .str x => .str x
  | _, _, .lst s l => .lst (g.sqX s) (l.rds g)
  | _, _, .tup s l => .tup (g.tu _ _ s) (l.rds g)
  | _, _, .dk s l => .dk (g.rd _ _ nf_dK s) (l.rds g)
  | _, _, .dt s l n => .dt (g.rd _ _ nf_dT s) (l.rds g) n
theorem DenL.rds (g : Rds G G') : ∀ {v : List V} {d : List D}, DenL K G v d → DenL K G' v d
  | _, _, .nil => .nil
  | _, _, .cons h t => .cons (h.rds g) (t.rds g)
theorem DenK.rds (g : Rds G G') : ∀ {v : List (Key × V)} {d : List (D × D)}, DenK K G v d → DenK K G' v d
  | _, _, .nil => .nil
  | _, _, .cons h t => .cons (h.rds g) (t.rds g)
theorem DenT.rds (g : Rds G G') : ∀ {v : List (List Key × V)} {d : List (D × D)}, DenT K G v d → DenT K G' v d
  | _, _, .nil => .nil
  | _, _, .cons h t => .cons (h.rds g) (t.rds g)
end
mutual
theorem Own.rds (g : Rds G G') : ∀ {v : V} {t : T} {F : List Addr}, (∀ a ∈ F, H' a = H a) → Own K G H v t F → Own K G' H' v t F
  | _, _, _, _, .fz d => .fz (d.rds g)
  | _, _, _, k, .ol h l => .ol (by rw [k _ List.mem_cons_self]; exact h) (l.rds g fun a m => k a (List.mem_cons_of_mem _ m))
  | _, _, _, k, .ot h l => .ot (g.tu _ _ h) (l.rds g k)
  | _, _, _, k, .odk h l => .odk (by rw [k _ List.mem_cons_self]; exact h) (l.rds g fun a m => k a (List.mem_cons_of_mem _ m))
  | _, _, _, k, .odt h l n => .odt (by rw [k _ List.mem_cons_self]; exact h) (l.rds g fun a m => k a (List.mem_cons_of_mem _ m)) n
theorem OwnL.rds (g : Rds G G') : ∀ {v : List V} {t : List T} {F : List Addr}, (∀ a ∈ F, H' a = H a) → OwnL K G H v t F → OwnL K G' H' v t F
  | _, _, _, _, .nil => .nil
  | _, _, _, k, .cons h l => .cons (h.rds g fun a m => k a (List.mem_append_left _ m)) (l.rds g fun a m => k a (List.mem_append_right _ m))
theorem OwnK.rds (g : Rds G G') : ∀ {v : List (Key × V)} {t : List (D × T)} {F : List Addr}, (∀ a ∈ F, H' a = H a) → OwnK K G H v t F → OwnK K G' H' v t F
  | _, _, _, _, .nil => .nil
  | _, _, _, k, .cons h l => .cons (h.rds g fun a m => k a (List.mem_append_left _ m)) (l.rds g fun a m => k a (List.mem_append_right _ m))
theorem OwnT.rds (g : Rds G G') : ∀ {v : List (List Key × V)} {t : List (D × T)} {F : List Addr}, (∀ a ∈ F, H' a = H a) → OwnT K G H v t F → OwnT K G' H' v t F
  | _, _, _, _, .nil => .nil
  | _, _, _, k, .cons h l => .cons (h.rds g fun a m => k a (List.mem_append_left _ m)) (l.rds g fun a m => k a (List.mem_append_right _ m))
end
theorem Slots.rds (g : Rds G G') : ∀ {σ : L2.St} {env : Env} {F : List Addr}, (∀ a ∈ F, H' a = H a) → Slots K G H σ env F → Slots K G' H' σ env F
  | _, _, _, _, .nil => .nil
  | _, _, _, k, .no r => .no (r.rds g k)
  | _, _, _, k, .so h r => .so (h.rds g fun a m => k a (List.mem_append_left _ m)) (r.rds g fun a m => k a (List.mem_append_right _ m))
end
/-! ### the locked state -/
open Classical
/-- all frozen dicts are locked -/
def LkA (G : Hp) : Prop := ∀ b o, G b = some o → ¬ isDic o
open Classical in
/-- what is to be locked -/
noncomputable def lkS (G H : Hp) : Addr → Bool := fun b => decide (∃ o, G b = some o ∧ isDic o ∧ H b = some o)
open Classical in
noncomputable def lkG (G H1 : Hp) : Hp := fun b => if ∃ o, G b = some o ∧ isDic o then H1 b else G b
section
variable {K : Frg} {G H G' H' : Hp} {od : Addr → Obj} {σ : L2.St} {env : Env} {Fp Fp' : List Addr}
theorem lkS_dic : ∀ b, lkS G H b = true → ∃ u, H b = some u ∧ isDic u := fun b h => by
  unfold lkS at h
  obtain ⟨o, _, d, e⟩ := of_decide_eq_true h
  exact ⟨o, e, d⟩
theorem lkS_G {b : Addr} (h : lkS G H b = true) : ∃ o, G b = some o ∧ isDic o ∧ H b = some o := by
  unfold lkS at h
  exact of_decide_eq_true h
/-- the locked heaps -/
theorem lk_at (g : GLe G H) {b : Addr} {o : HO} (e : G b = some o) (d : isDic o) : ∃ ob, lkG G (lkH (lkS G H) od H) b = some (.frz ob o) ∧ lkH (lkS G H) od H b = some (.frz ob o) ∧ ((lkS G H b = true ∧ ob = od b) ∨ (lkS G H b = false ∧ H b = some (.frz ob o))) := by
  have hg : lkG G (lkH (lkS G H) od H) b = lkH (lkS G H) od H b := by unfold lkG; rw [if_pos ⟨o, e, d⟩]
  rcases g b o e with q | ⟨n, ob, q⟩
  · have hS : lkS G H b = true := by unfold lkS; exact decide_eq_true ⟨o, e, d, q⟩
    exact ⟨od b, by rw [hg, lkH_in hS q], lkH_in hS q, .inl ⟨hS, rfl⟩⟩
  · have hS : lkS G H b = false := by
      cases z : lkS G H b with
      | false => rfl
      | true =>
        obtain ⟨u, e2, d2⟩ := lkS_dic b z
        rw [q] at e2
        cases e2
        exact d2.elim
    exact ⟨ob, by rw [hg, lkH_out hS, q], by rw [lkH_out hS, q], .inr ⟨hS, q⟩⟩
theorem lkG_else {b : Addr} {H1 : Hp} (n : ¬ ∃ o, G b = some o ∧ isDic o) : lkG G H1 b = G b := by unfold lkG; rw [if_neg n]
theorem lkS_else {b : Addr} (n : ¬ ∃ o, G b = some o ∧ isDic o) : lkS G H b = false := by
  cases z : lkS G H b with
  | false => rfl
  | true =>
    obtain ⟨o, e, d, _⟩ := lkS_G z
    exact absurd ⟨o, e, d⟩ n
theorem lk_lka (g : GLe G H) : LkA (lkG G (lkH (lkS G H) od H)) := fun b o e d => by
  by_cases z : ∃ o, G b = some o ∧ isDic o
  · obtain ⟨o2, e2, d2⟩ := z
    obtain ⟨ob, q, _⟩ := lk_at (od := od) g e2 d2
    rw [q] at e
    cases e
    exact d
  · rw [lkG_else z] at e
    exact z ⟨o, e, d⟩
theorem lk_rds (g : GLe G H) : Rds G (lkG G (lkH (lkS G H) od H)) := by
  refine ⟨fun a u nf h => ?_, fun a xs h => ?_⟩
  · rcases h with h | ⟨o, h⟩
    · by_cases d : isDic u
      · obtain ⟨ob, q, _⟩ := lk_at (od := od) g h d
        exact .inr ⟨ob, q⟩
      · refine .inl ?_
        rw [lkG_else fun ⟨o, e, d2⟩ => by rw [h] at e; cases e; exact d d2]
        exact h
    · refine .inr ⟨o, ?_⟩
      rw [lkG_else fun ⟨o, e, d2⟩ => by rw [h] at e; cases e; exact d2]
      exact h
  · rw [lkG_else fun ⟨o, e, d2⟩ => by rw [h] at e; cases e; exact d2]
    exact h
theorem lk_sta (S : Sta K G H σ env Fp) : Sta K (lkG G (lkH (lkS G H) od H)) (lkH (lkS G H) od H) σ env Fp := by
  have nd : ∀ a ∈ Fp, ¬ ∃ o, G a = some o ∧ isDic o := fun a m ⟨o, e, _⟩ => by rw [S.ap a m] at e; cases e
  refine ⟨fun b o e => ?_, S.sl.rds (lk_rds S.le) fun a m => lkH_out (lkS_else (nd a m)), S.nd, fun a m => by rw [lkG_else (nd a m)]; exact S.ap a m⟩
  by_cases z : ∃ o, G b = some o ∧ isDic o
  · obtain ⟨o2, e2, d2⟩ := z
    obtain ⟨ob, q, r, _⟩ := lk_at (od := od) S.le e2 d2
    rw [q] at e
    cases e
    exact .inl r
  · rw [lkG_else z] at e
    rw [lkH_out (lkS_else z)]
    exact S.le b o e
/-- back from the locked state -/
structure Bk (G H : Hp) (od : Addr → Obj) (G' H' : Hp) : Prop where
  sub : Same (lkG G (lkH (lkS G H) od H)) G'
  le : GLe G' H'
open Classical in
noncomputable def bkG (G G' : Hp) : Hp := fun b => if ∃ o, G b = some o ∧ isDic o then G b else G' b
theorem bkG_in {b : Addr} {o : HO} (e : G b = some o) (d : isDic o) : bkG G G' b = some o := by unfold bkG; rw [if_pos ⟨o, e, d⟩]; exact e
theorem bkG_else {b : Addr} (n : ¬ ∃ o, G b = some o ∧ isDic o) : bkG G G' b = G' b := by unfold bkG; rw [if_neg n]
theorem Bk.at (B : Bk G H od G' H') (g : GLe G H) {b : Addr} {o : HO} (e : G b = some o) (d : isDic o) : ∃ ob, G' b = some (.frz ob o) ∧ H' b = some (.frz ob o) ∧ ((lkS G H b = true ∧ ob = od b) ∨ (lkS G H b = false ∧ H b = some (.frz ob o))) := by
  obtain ⟨ob, q, _, r⟩ := lk_at (od := od) g e d
  have q1 := B.sub b _ q
  refine ⟨ob, q1, ?_, r⟩
  rcases B.le b _ q1 with z | ⟨n, _⟩
  · exact z
  · exact absurd rfl (n.1 _ _)
theorem Bk.end (B : Bk G H od G' H') (g : GLe G H) : LkEnd (lkS G H) od H' := fun b h => by
  obtain ⟨o, e, d, _⟩ := lkS_G h
  obtain ⟨ob, _, q, r⟩ := B.at g e d
  rcases r with ⟨_, rfl⟩ | ⟨z, _⟩
  · exact ⟨o, d, q⟩
  · rw [h] at z; cases z
theorem Bk.atH (B : Bk G H od G' H') (g : GLe G H) {b : Addr} {o : HO} (e : G b = some o) (d : isDic o) : ulH (lkS G H) H' b = H b := by
  obtain ⟨ob, _, q, r⟩ := B.at g e d
  rcases r with ⟨z, rfl⟩ | ⟨z, hz⟩
  · obtain ⟨o2, e2, _, h2⟩ := lkS_G z
    rw [e] at e2
    cases e2
    rw [ulH_in z q, h2]
  · rw [ulH_out z, q, hz]
theorem Bk.elH (B : Bk G H od G' H') {b : Addr} (n : ¬ ∃ o, G b = some o ∧ isDic o) : ulH (lkS G H) H' b = H' b := ulH_out (lkS_else n)
theorem Bk.rds (B : Bk G H od G' H') (g : GLe G H) : Rds G' (bkG G G') := by
  refine ⟨fun a u nf h => ?_, fun a xs h => ?_⟩
  · by_cases z : ∃ o, G a = some o ∧ isDic o
    · obtain ⟨o, e, d⟩ := z
      obtain ⟨ob, q, _⟩ := B.at g e d
      refine .inl ?_
      rw [bkG_in e d]
      rcases h with h | ⟨o', h⟩
      · rw [q] at h; cases h; exact absurd rfl (nf _ _)
      · rw [q] at h; cases h; rfl
    · rcases h with h | ⟨o', h⟩
      · exact .inl (by rw [bkG_else z]; exact h)
      · exact .inr ⟨o', by rw [bkG_else z]; exact h⟩
  · rw [bkG_else fun ⟨o, e, d⟩ => by
      obtain ⟨ob, q, _⟩ := B.at g e d
      rw [q] at h; cases h]
    exact h
theorem Bk.gle (B : Bk G H od G' H') (g : GLe G H) : GLe (bkG G G') (ulH (lkS G H) H') := fun b o e => by
  by_cases z : ∃ o, G b = some o ∧ isDic o
  · obtain ⟨o2, e2, d2⟩ := z
    rw [bkG_in e2 d2] at e
    cases e
    rw [B.atH g e2 d2]
    exact g b _ e2
  · rw [bkG_else z] at e
    rw [B.elH z]
    exact B.le b o e
theorem Bk.none (B : Bk G H od G' H') (g : GLe G H) {a : Addr} (h : G' a = none) : (¬ ∃ o, G a = some o ∧ isDic o) ∧ bkG G G' a = none := by
  have z : ¬ ∃ o, G a = some o ∧ isDic o := fun ⟨o, e, d⟩ => by
    obtain ⟨ob, q, _⟩ := B.at g e d
    rw [h] at q; cases q
  exact ⟨z, by rw [bkG_else z]; exact h⟩
theorem Bk.sta (B : Bk G H od G' H') (g : GLe G H) {env' : Env} (S : Sta K G' H' σ env' Fp') : Sta K (bkG G G') (ulH (lkS G H) H') σ env' Fp' :=
  ⟨B.gle g, S.sl.rds (B.rds g) fun a m => B.elH (B.none g (S.ap a m)).1, S.nd, fun a m => (B.none g (S.ap a m)).2⟩
theorem lk_none {b : Addr} (h : lkH (lkS G H) od H b = Option.none) : H b = Option.none := by
  cases z : lkS G H b with
  | false => rw [lkH_out z] at h; exact h
  | true =>
    obtain ⟨u, e, _⟩ := lkS_dic b z
    rw [lkH_in z e] at h; cases h
theorem lk_tup {b : Addr} {xs : List V} (h : lkH (lkS G H) od H b = some (.tup xs)) : H b = some (.tup xs) := by
  cases z : lkS G H b with
  | false => rw [lkH_out z] at h; exact h
  | true =>
    obtain ⟨u, e, _⟩ := lkS_dic b z
    rw [lkH_in z e] at h; cases h
theorem Bk.keep (B : Bk G H od G' H') (g : GLe G H) {a : Addr} {o : HO} (h : H a = some o) (k : ∀ u, lkH (lkS G H) od H a = some u → H' a = some u) : ulH (lkS G H) H' a = some o := by
  by_cases z : ∃ o, G a = some o ∧ isDic o
  · obtain ⟨o2, e2, d2⟩ := z
    rw [B.atH g e2 d2]
    exact h
  · rw [B.elH z]
    exact k o (by rw [lkH_out (lkS_else z)]; exact h)
theorem Bk.same (B : Bk G H od G' H') : Same G (bkG G G') := fun a o e => by
  by_cases z : ∃ o, G a = some o ∧ isDic o
  · obtain ⟨o2, e2, d2⟩ := z
    rw [bkG_in e2 d2, ← e2, e]
  · rw [bkG_else z]
    exact B.sub a o (by rw [lkG_else z]; exact e)
theorem Bk.frG (B : Bk G H od G' H') (g : GLe G H) {P : Addr → Prop} (k : ∀ a, G' a ≠ Option.none → lkG G (lkH (lkS G H) od H) a ≠ Option.none ∨ lkH (lkS G H) od H a = Option.none ∨ P a ∨ ∃ xs, lkH (lkS G H) od H a = some (.tup xs)) :
    ∀ a, bkG G G' a ≠ Option.none → G a ≠ Option.none ∨ H a = Option.none ∨ P a ∨ ∃ xs, H a = some (.tup xs) := fun a h => by
  by_cases z : ∃ o, G a = some o ∧ isDic o
  · obtain ⟨o, e, _⟩ := z
    exact .inl (by rw [e]; exact fun z => nomatch z)
  · rw [bkG_else z] at h
    rcases k a h with q | q | q | ⟨xs, q⟩
    · rw [lkG_else z] at q
      exact .inl q
    · exact .inr (.inl (lk_none q))
    · exact .inr (.inr (.inl q))
    · exact .inr (.inr (.inr ⟨xs, lk_tup q⟩))
theorem bk_step (g : GLe G H) (st : Step (lkG G (lkH (lkS G H) od H)) (lkH (lkS G H) od H) Fp G' H' Fp') (le : GLe G' H') : Step G H Fp (bkG G G') (ulH (lkS G H) H') Fp' := by
  have B : Bk G H od G' H' := ⟨st.sub, le⟩
  exact ⟨fun a o h n => B.keep g h fun u e => st.keep a u e n, B.same, B.frG g st.frG, fun a m => (st.frF a m).imp lk_none id⟩
theorem bk_grow (g : GLe G H) (w : Grow (lkG G (lkH (lkS G H) od H)) (lkH (lkS G H) od H) G' H') : Grow G H (bkG G G') (ulH (lkS G H) H') := by
  have B : Bk G H od G' H' := ⟨w.sub, w.le⟩
  refine ⟨fun a o h => B.keep g h fun u e => w.same a u e, B.same, B.gle g, fun a h => ?_⟩
  rcases B.frG (P := fun _ => False) g (fun a h => by
    rcases w.frG a h with q | q | q
    · exact .inl q
    · exact .inr (.inl q)
    · exact .inr (.inr (.inr q))) a h with q | q | q | q
  · exact .inl q
  · exact .inr (.inl q)
  · exact q.elim
  · exact .inr (.inr q)
end
end DL
/-! The data layer, part XC: dicts walked: keys, values, items; loops and comprehensions over them. -/
namespace DL
open PySem L2 PyProof.Rows
def mNoX {α : Type} (m : M α) : M α := fun env => match m env with
  | .exn _ _ => .bad
  | r => r
section
variable {X : Cx} {W : WX} {fx : List Nat} {pu pa : Bool} {e a b : Expr} {mt : M T} {st : Stmt} {n : M Fl} {pos : Pos}
theorem o_lockX (h : ∃ te, PE X e te ∧ ∀ G H σ env Fp Q, LkA G → Sta X.K G H σ env Fp → Post X.K X.mg W (VrT X.K) pu σ G H Fp env Q (mt env) → te σ H Q) : Eo X W pu e (mNoX mt) := by
  obtain ⟨te, p, k⟩ := h
  refine ⟨tLockA te, pe_lockA p, fun G H σ env Fp Q S h => ⟨lkS G H, lkS_dic, fun od => k _ _ σ env Fp _ (lk_lka S.le) (lk_sta S) ?_⟩⟩
  unfold mNoX at h
  cases r : mt env with
  | bad => rw [r] at h; exact h
  | exn x e => rw [r] at h; exact h.elim
  | ok t env' =>
    rw [r] at h
    intro b G' H' Fp' Fr st S' nd ap pure v
    have B : Bk G H od G' H' := ⟨st.sub, S'.le⟩
    refine ⟨B.end S.le, h b _ _ Fp' Fr (bk_step S.le st S'.le) (B.sta S.le S') nd (fun x m => (B.none S.le (ap x m)).2) (fun z => ?_) ?_⟩
    · obtain ⟨e1, e2, w⟩ := pure z
      exact ⟨e1, e2, bk_grow S.le w⟩
    · exact Own.rds (B.rds S.le) (fun a m => B.elH (B.none S.le (ap a m)).1) v
/-! ### a place that is read -/
def Es (X : Cx) (e : Expr) (f : Env → Option D) : Prop := ∃ te, PE X e te ∧ ∀ G H σ env Fp Q d, Sta X.K G H σ env Fp → f env = some d → (∀ v, Den X.K G v d → Q v H) → te σ H Q
def sVar (i : Nat) : Env → Option D := fun env => match env[i]? with
  | some (some (.fz d)) => some d
  | _ => none
theorem es_name {i : Nat} (hp : PE X e (tVar i)) : Es X e (sVar i) := by
  refine ⟨_, hp, fun G H σ env Fp Q d S h k => ?_⟩
  unfold sVar at h
  split at h
  · rename_i d' e1
    cases h
    obtain ⟨v, F0, e2, o, _⟩ := S.sl.at e1
    cases o with
    | fz q => exact ⟨v, e2, k v q⟩
  · cases h
def sIx (f : Env → Option D) (j : Int) : Env → Option D := fun env => match f env with
  | some (.tuple ds) => atI ds j
  | some (.list ds) => atI ds j
  | _ => none
end
/-! ### what walks over dicts give -/
def DiL (X : Cx) (W : WX) (pu : Bool) (tg iter : Expr) (mi : M (List D)) : Prop := ∃ wi : TI, PI X tg iter wi ∧ ∀ G H σ env Fp R, LkA G → Sta X.K G H σ env Fp → Post X.K X.mg W (VrI X.K) pu σ G H Fp env R (mi env) → wi σ H R
section
variable {K : Frg} {G H : Hp}
theorem lk_get {a : Addr} {o : HO} (l : LkA G) (d : isDic o) (r : Rd G a o) : ∃ ob, G a = some (.frz ob o) := by
  rcases r with r | ⟨ob, r⟩
  · exact absurd d (l _ _ r)
  · exact ⟨ob, r⟩
theorem lk_up {G' H' : Hp} {a : Addr} {ob : Obj} {o : HO} (s : G a = some (.frz ob o)) (sm : Same G G') (gl : GLe G' H') : H' a = some (.frz ob o) := by
  rcases gl a _ (sm a _ s) with q | ⟨n, _⟩
  · exact q
  · exact absurd rfl (n.1 _ _)
theorem den_key {G' : Hp} (k : Key) : Den K G' (kV k) (keyD k) := by
  cases k with
  | inl i => exact .int i
  | inr x => exact .str x
theorem denL_key {G' : Hp} : ∀ ks : List Key, DenL K G' (ks.map kV) (ks.map keyD)
  | [] => .nil
  | k :: r => .cons (den_key k) (denL_key r)
theorem it_keys {a : Addr} {o : Obj} {ks : List (Key × V)} {kvs : List (D × D)} (s : G a = some (.frz o (.dK ks))) (hd : DenK K G ks kvs) : ItOk K (Itk a o ks) (kvs.map (·.1)) G := fun G' H' sm gl => by
  have s' := lk_up s sm gl
  have hl : (kvs.map (·.1)).length = ks.length := by rw [denK_keys hd, List.length_map]
  refine ⟨fun i d e => ⟨⟨s', by have := (List.getElem?_eq_some_iff.mp e).1; omega⟩, fun x H'' y => ?_⟩, ⟨s', by omega⟩⟩
  obtain ⟨rfl, k, v, hk, rfl⟩ := y
  rw [denK_keys hd, List.getElem?_map, hk] at e
  cases e
  exact ⟨G', Grow.refl gl, den_key k⟩
/-- a tuple that stands there, frozen -/
theorem grow_tup {G' H' : Hp} (gl : GLe G' H') {q : Addr} {xs : List V} (h : H' q = some (.tup xs)) : ∃ G'', Grow G' H' G'' H' ∧ G'' q = some (.tup xs) := by
  have st : ∀ b o, G' b = some o → b = q → o = .tup xs := fun b o e z => by
    subst z
    rcases gl b o e with z | ⟨_, ob, z⟩
    · rw [h] at z; cases z; rfl
    · rw [h] at z; cases z
  refine ⟨upd G' q (.tup xs), ⟨Same.refl _, fun b o e => ?_, fun b o e => ?_, fun b n => ?_⟩, upd_same⟩
  · by_cases z : b = q
    · rw [st b o e z, z, upd_same]
    · rw [upd_ne z]; exact e
  · by_cases z : b = q
    · subst z
      rw [upd_same] at e
      cases e
      exact .inl h
    · rw [upd_ne z] at e
      exact gl b o e
  · by_cases z : b = q
    · subst z
      exact .inr (.inr ⟨xs, h⟩)
    · rw [upd_ne z] at n
      exact .inl n
theorem it_keysT {a : Addr} {o : Obj} {ks : List (List Key × V)} {kvs : List (D × D)} (s : G a = some (.frz o (.dT ks))) (hd : DenT K G ks kvs) : ItOk K (Itkt a o ks) (kvs.map (·.1)) G := fun G' H' sm gl => by
  have s' := lk_up s sm gl
  have hl : (kvs.map (·.1)).length = ks.length := by rw [denT_keys hd, List.length_map]
  refine ⟨fun i d e => ⟨⟨s', by have := (List.getElem?_eq_some_iff.mp e).1; omega⟩, fun x H'' y => ?_⟩, ⟨s', by omega⟩⟩
  obtain ⟨rfl, k, v, q, hk, rfl, hq⟩ := y
  rw [denT_keys hd, List.getElem?_map, hk] at e
  cases e
  obtain ⟨G'', w, e2⟩ := grow_tup gl hq
  exact ⟨G'', w, .tup e2 (denL_key k)⟩
end
def mKs (f : Env → Option D) : M (List D) := fun env => match f env with
  | some (.dict kvs) => .ok (kvs.map (·.1)) env
  | _ => .bad
section
variable {X : Cx} {W : WX} {fx : List Nat} {pu pa : Bool} {e tg : Expr} {f : Env → Option D} {apos cpos : Pos}
theorem i_keysL (h : Es X e f) : DiL X W true tg e (mKs f) := by
  obtain ⟨te, p, k⟩ := h
  refine ⟨_, pi_keys p, fun G H σ env Fp R l S h => ?_⟩
  unfold mKs at h
  split at h
  · rename_i kvs hf
    refine k G H σ env Fp _ _ S hf fun v dv => ?_
    cases dv with
    | dk hr hd =>
      obtain ⟨ob, q⟩ := lk_get (o := .dK _) l trivial hr
      exact ⟨_, ob, rfl, .inl ⟨_, lk_up q (Same.refl _) S.le, post_pure (x := kvs.map (·.1)) h S ⟨rfl, it_keys q hd⟩⟩⟩
    | dt hr hd ne =>
      obtain ⟨ob, q⟩ := lk_get (o := .dT _) l trivial hr
      exact ⟨_, ob, rfl, .inr ⟨_, lk_up q (Same.refl _) S.le, post_pure (x := kvs.map (·.1)) h S ⟨rfl, it_keysT q hd⟩⟩⟩
  · exact h.elim
end
end DL
/-! The data layer, part XD: loops and comprehensions that walk a dict. -/
namespace DL
open PySem L2 PyProof.Rows
section
variable {X : Cx} {W : WX} {fx : List Nat} {pa : Bool} {tg iter tg1 iter1 elt : Expr} {ifs ifs1 : List Expr} {mi mi1 : M (List D)} {me : M T} {mc mc1 : M Bool} {pos spos py : Pos} {scope : Scope} {own : List (Str × Nat)} {vs1 : List Nat} {f f1 : T → Env → Option Env} {i : Nat} {y : Str} {body : List Stmt} {n : M Fl}
theorem o_lcK (hc : X.calm = true) (hN : X.N.Nodup) (hi : DiL X W pa tg iter mi) (ok : BlkOk X.N X.env.scope scope own)
    (hg : ∀ (s : Shared) (H : Hp) (C : Addr) (cl : List (Str × Addr)) (fp : List Addr), DG (X.blk s H scope (compEnvC scope cl C X.env) fp) (others X.N.length (own.map (·.2))) tg f)
    (ht : ∀ (s : Shared) (H : Hp) (C : Addr) (cl : List (Str × Addr)) (fp : List Addr), Ets (X.blk s H scope (compEnvC scope cl C X.env) fp) W0 true ifs mc)
    (he : ∀ (s : Shared) (H : Hp) (C : Addr) (cl : List (Str × Addr)) (fp : List Addr), Eo (X.blk s H scope (compEnvC scope cl C X.env) fp) W0 true elt me)
    (hf : ∀ x, foldedSetIterable iter X.env x = pure x := by intro _; rfl) : Eo X W pa (.ListComp elt [⟨tg, iter, ifs, 0⟩] scope pos) (mNoX (mi.bind (mLc (own.map (·.2)) f mc me))) := by
  obtain ⟨wi, pI, kI⟩ := hi
  exact o_lockX ⟨_, pe_len (pe_lc hc hN pI ok (fun s H C cl fp => (hg s H C cl fp).can) (fun s H C cl fp => (ht s H C cl fp).can) (fun s H C cl fp => (he s H C cl fp).can) hf), fun G H σ env Fp Q l S h hl => lc_read (L := LkA) kI G H σ env Fp Q l S h _ hl⟩
end
end DL
/-! The data layer, part XE: dict comprehensions, the keys plain ones or tuples of these. -/
namespace DL
open PySem PySem.Spec L2 PyProof.Rows
section
variable {X : Cx} {pins : List (Addr × Obj)} {σ : L2.St} {H : Hp} {s : Shared}
end
section
variable {X : Cx} {kx vx tg iter : Expr} {ifs : List Expr} {scope : Scope} {own : List (Str × Nat)} {pos : Pos} {wi : TI} {g : TG} {tt : TT} {tk tv : TE}
end
end DL
/-! The data layer, part XF: dict comprehensions. -/
namespace DL
open PySem L2 PyProof.Rows
section
variable {K : Frg} {G H : Hp}
end
section
variable {X : Cx} {W : WX} {pa : Bool} {tg iter kx vx : Expr} {ifs : List Expr} {mi : M (List D)} {mk : M D} {mv : M T} {mc : M Bool} {pos : Pos} {scope : Scope} {own : List (Str × Nat)} {f : T → Env → Option Env}
end
end DL
/-! The data layer, part XG: a slot is frozen while an expression is worked out. -/
namespace DL
open PySem L2 PyProof.Rows
open Classical in
noncomputable def mThawD (i : Nat) (m : M D) : M D := fun env => match env[i]? with
  | some (some t) => match m (env.set i (some (.fz t.er))) with
    | .ok d env2 => if bf d = true ∧ Freed i env env2 then .ok d (env2.set i (some t)) else .bad
    | _ => .bad
  | _ => .bad
open Classical in
noncomputable def mThawO (i : Nat) (m : M T) : M T := fun env => match env[i]? with
  | some (some t) => match m (env.set i (some (.fz t.er))) with
    | .ok d env2 => if d.bf = true ∧ Freed i env env2 then .ok d (env2.set i (some t)) else .bad
    | _ => .bad
  | _ => .bad
section
variable {X : Cx} {W : WX} {pu : Bool} {e : Expr} {i : Nat} {m : M D} {mt : M T}
end
end DL
namespace DL
open PySem L2 PyProof.Rows
def mOr {α : Type} (m1 m2 : M α) : M α := fun env => match m1 env with
  | .bad => m2 env
  | r => r
section
variable {X : Cx} {W : WX} {pu : Bool} {e : Expr} {m1 m2 : M T}
theorem Eo.or (h1 : Eo X W pu e m1) (h2 : Eo X W pu e m2) : Eo X W pu e (mOr m1 m2) := by
  obtain ⟨t1, p1, k1⟩ := h1
  obtain ⟨t2, p2, k2⟩ := h2
  refine ⟨fun σ H Q => t1 σ H Q ∨ t2 σ H Q, ⟨fun pins s σ H Q I q => q.elim (p1.run pins s σ H Q I) (p2.run pins s σ H Q I)⟩, fun G H σ env Fp Q S h => ?_⟩
  unfold mOr at h
  cases r : m1 env with
  | bad => rw [r] at h; exact .inr (k2 G H σ env Fp Q S h)
  | ok t e => rw [r] at h; exact .inl (k1 G H σ env Fp Q S (by rw [r]; exact h))
  | exn x e => rw [r] at h; exact .inl (k1 G H σ env Fp Q S (by rw [r]; exact h))
end
end DL
/-! The data layer, part XH: dict(a list of pairs), the keys tuples of keys. -/
namespace DLM
open PySem PySem.Spec L2 PyProof.Rows
abbrev Ent := List Key × Addr × Value
section
variable {prog : Program} {w : World} {A : Around} {E : Value → Shared → Prop}
abbrev kind (prog : Program) (w : World) := tupleKind (mixKind prog w)
theorem key_move {h h' : Heap} {ks : List Key} {a : Addr} (x : (kind prog w).is h ks a) (m : ∀ o, h.get? a = some o → h'.get? a = some o) : (kind prog w).is h' ks a := by
  obtain ⟨o, its, n, e, r⟩ := x
  exact ⟨o, its, n, m o e, r⟩
theorem dict_move {h h' : Heap} {S : Addr} {acc : List Ent} (x : h.DictOfH (kind prog w) S acc) (m : ∀ o, h.get? S = some o → h'.get? S = some o) (mk : ∀ q ∈ acc, ∀ o, h.get? q.2.1 = some o → h'.get? q.2.1 = some o) : h'.DictOfH (kind prog w) S acc := by
  obtain ⟨o, es, ep, e1, e2, e3, e4, e5, e6⟩ := x
  exact ⟨o, es, ep, m o e1, e2, e3, e4, fun q hq => key_move (e5 q hq) (mk q hq), e6⟩
theorem atKey_no {acc : List Ent} {k : List Key} (h : k ∉ acc.map (·.1)) : atKey acc k = none := by
  unfold atKey
  rw [Option.map_eq_none_iff, List.find?_eq_none]
  intro q m z
  exact h (List.mem_map.mpr ⟨q, m, of_decide_eq_true z⟩)
/-- one pair of the list -/
def PairAt (prog : Program) (w : World) (h : Heap) (S I : Addr) (v : Option Value) (q : Ent) : Prop := ∃ b, v = some (.ref b) ∧ b ≠ S ∧ b ≠ I ∧ IsTup h b #[.ref q.2.1, q.2.2] ∧ (kind prog w).is h q.1 q.2.1 ∧ q.2.1 ≠ S ∧ q.2.1 ≠ I
theorem PairAt.move {h h' : Heap} {S I : Addr} {v : Option Value} {q : Ent} (x : PairAt prog w h S I v q) (m : ∀ b o, b ≠ S → b ≠ I → h.get? b = some o → h'.get? b = some o) : PairAt prog w h' S I v q := by
  obtain ⟨b, e, n1, n2, ⟨o, t1, t2⟩, k, n3, n4⟩ := x
  exact ⟨b, e, n1, n2, ⟨o, m b o n1 n2 t1, t2⟩, key_move k fun o => m _ o n3 n4, n3, n4⟩
theorem fill {R : Result → Shared → Prop} {S I l : Addr} {items : Array Value} {res : Value} (calm : A.handled = none) (roomA : A.in1.units < cLine) (lI : l ≠ I) (SI : S ≠ I) (Sl : S ≠ l) (rest : List Ent) :
    ∀ (i : Nat) (acc : List Ent) (ix : Int) (t : Tok) (s : Shared), items.size = i + rest.length → acc.length + rest.length ≤ sizeLine → ((acc ++ rest).map (·.1)).Nodup → (∀ q ∈ acc, q.2.1 ≠ S ∧ q.2.1 ≠ I) →
      (∀ (j : Nat) (q : Ent), rest[j]? = some q → PairAt prog w s.heap S I items[i + j]? q) → s.heap.IsListIter I l i → s.heap.IsList l items → s.heap.DictOfH (kind prog w) S acc →
      (∀ h' tk, h'.DictOfH (kind prog w) S (acc ++ rest) → (∀ b o, b ≠ S → b ≠ I → s.heap.get? b = some o → h'.get? b = some o) → R (.ok (.ret res)) { s with heap := h', toks := tk }) →
      codeAny (model prog w) A (.builtin "dict.update.loop" ⟨[.ref S, .ref I, .int ix t, res], []⟩) R s := by
  induction rest with
  | nil =>
    intro i acc ix t s size room nd apart pairs iter lst dict fin
    refine codeAny_builtin ud_entry ?_
    rw [Around.under_plainId ud_plain _]
    refine wpAny_bind (wpAny_pyNext_list_end (A := A.in1) calm iter lst (Array.getElem?_eq_none (by simp at size; omega)) fun h1 ext => ?_)
    refine wpAny_bind (wpAny_pure (wpAny_pure ?_))
    have z := fin h1 s.toks
    rw [List.append_nil] at z
    exact z (dict_move dict (fun o e => ext S o SI e) fun q m o e => ext q.2.1 o (apart q m).2 e) fun b o _ n e => ext b o n e
  | cons q rest ih =>
    intro i acc ix t s size room nd apart pairs iter lst dict fin
    obtain ⟨b, eb, bS, bI, tup, key, kS, kI⟩ := pairs 0 q rfl
    rw [List.length_cons] at size room
    refine codeAny_builtin ud_entry ?_
    rw [Around.under_plainId ud_plain _]
    refine wpAny_bind (wpAny_pyNext_list_item (x := .ref b) iter lst (by simpa using eb) fun h1 iter1 same1 => ?_)
    have ext1 := same1.extBut
    have tup1 : IsTup h1 b #[.ref q.2.1, q.2.2] := tup.extBut ext1 bI
    have dict1 := dict_move dict (fun o e => ext1 S o SI e) fun p m o e => ext1 p.2.1 o (apart p m).2 e
    have key1 := key_move key fun o e => ext1 q.2.1 o kI e
    obtain ⟨ob, eo, co, nn, dat⟩ := id tup1
    refine wpAny_bind (wpAny_holding (wpAny_bind (wpAny_tryCatch ?_)))
    unfold Builtin.Dict.pairItems
    refine wpAny_bind (wpAny_typeOf (T := "tuple") ⟨ob, eo, co⟩ ?_)
    rw [if_pos (by first | decide | rfl | simp)]
    refine wpAny_bind (wpAny_seqItems eo dat (wpAny_pure ?_))
    refine wpAny_holding (wpAny_dictSet_heap (hsz := by omega) roomA key1 dict1 fun h2 dict2 same2 => ?_)
    have fresh : q.1 ∉ acc.map (·.1) := fun m => by
      rw [List.map_append, List.map_cons] at nd
      exact (List.nodup_append.mp nd).2.2 q.1 m q.1 List.mem_cons_self rfl
    rw [storedH_new (atKey_no fresh)] at dict2
    have both : ∀ c o, c ≠ S → c ≠ I → s.heap.get? c = some o → h2.get? c = some o := fun c o n1 n2 e => same2.extBut c o n1 (ext1 c o n2 e)
    refine wpAny_pure ⟨plainId_quiet ud_plain _, ih (i + 1) (acc ++ [(q.1, q.2.1, q.2.2)]) (ix + 1) 0 _ (by omega) (by rw [List.length_append, List.length_singleton]; omega) (by simpa using nd) (fun p m => ?_) (fun j p e => ?_) ?_ ?_ dict2 fun h' tk dict' k => ?_⟩
    · rcases List.mem_append.mp m with m | m
      · exact apart p m
      · rw [List.mem_singleton.mp m]
        exact ⟨kS, kI⟩
    · have z := (pairs (j + 1) p (by simpa using e)).move both
      rw [show i + 1 + j = i + (j + 1) by omega]
      exact z
    · exact iter1.at fun o e => same2.extBut I o (Ne.symm SI) e
    · exact (lst.extBut ext1 lI).extBut same2.extBut (Ne.symm Sl)
    · refine fin h' tk ?_ fun c o n1 n2 e => k c o n1 n2 (both c o n1 n2 e)
      rw [List.append_assoc] at dict'
      exact dict'
end
end DLM
namespace DL
open PySem L2 PyProof.Rows
/-! ### in the layer -/
section
variable {K : Frg} {G H : Hp}
end
section
variable {X : Cx}
variable {W : WX} {pa : Bool} {a : Expr} {mts : M (List T)} {p pos : Pos}
end
end DL
/-! The data layer, part XI: o[key].m(args), the arguments worked out while o is frozen. -/
namespace DL
open PySem L2 PyProof.Rows
open Classical in
noncomputable def mMethAtT (bx : String) (i : Nat) (mk : M D) (g : T → List T → Option (T × T)) (ms : M (List T)) : M T := (mHas i).bind fun _ => mk.bind fun d env1 => match kOf d with
  | none => .bad
  | some k => match env1[i]? with
    | some (some (.od kvs)) => match atK k kvs with
      | some t => if boxy bx t = true then (match ms (env1.set i (some (.fz (T.od kvs).er))) with
        | .ok ts env2 => if T.bfL ts = true ∧ Freed i env1 env2 then (match gAt k g (.od kvs) ts with
          | some (t', r) => .ok r (env2.set i (some t'))
          | none => .bad) else .bad
        | _ => .bad) else .bad
      | none => .bad
    | _ => .bad
section
variable {X : Cx} {W : WX} {pa : Bool} {e : Expr} {es : List Expr} {mts : M (List T)} {pos : Pos}
end
end DL
namespace DL
open PySem L2 PyProof.Rows
/-! ### slices whose bounds change something -/
section
variable {X : Cx} {W : WX} {md : Md} {pu pl ph pa : Bool} {e a : Expr} {lo hi : Option Expr} {m ma : M D} {ml mh : M (Option Int)} {pos p2 : Pos}
end
end DL
/-! The data layer, part XJ: o[key] = v where the key is frozen data of any form. -/
namespace DL
open PySem L2 PyProof.Rows
section
variable {X : Cx} {W : WX} {fx : List Nat} {md : Md} {pu pa pb pc : Bool} {e a b c o : Expr} {es : List Expr} {m ma mb mk : M D} {mt : M T} {mts : M (List T)} {mc : M Bool} {pos tpos apos : Pos} {i : Nat}
def mStK (me : M T) (mk : M D) : M (List T) := me.bind fun t => mk.bind fun d => M.pure [.fz d, t]
def mStoreK (k : String) (i : Nat) (g : T → List T → Option (T × T)) (me : M T) (mk : M D) : M Fl := mDrop (mMeth k i g (mStK me mk))
end
end DL
/-! The data layer, part XK: list(d) of a frozen dict. -/
namespace DL
open PySem L2 PyProof.Rows
section
variable {K : Frg} {G H : Hp}
end
section
variable {X : Cx} {W : WX} {pa : Bool} {a : Expr} {ms : M (List D)} {p pos : Pos}
end
end DL
/-! The data layer, part XL: d[key] op= e where the key is frozen data (tuples), the item flat. -/
namespace DL
open PySem L2 PyProof.Rows
section
variable {X : Cx} {W : WX} {fx : List Nat} {c o b : Expr} {mk mb : M D} {pos tpos : Pos} {i : Nat}
def mGetO (i : Nat) (d : D) : M D := fun env => match env[i]? with
  | some (some (.od kvs)) => match dGetW (T.od kvs).er d with
    | some x => .ok x env
    | none => .bad
  | _ => .bad
def mAugB (op : D → D → Option D) (i : Nat) (mk mb : M D) : M (List T) := mk.bind fun d => (mGetO i d).bind fun o => mb.bind fun y => (M.lift (op o y)).bind fun z => if flat z = true then M.pure [.fz d, .fz z] else fun _ => .bad
noncomputable def mAugW (op : D → D → Option D) (i : Nat) (mk mb : M D) : M Fl := mDrop (mMeth "dict" i gSetW (mAugB op i mk mb))
end
end DL
/-! The data layer, part XM: < and > of data (tuples within tuples). -/
namespace DL
open PySem L2 PyProof.Rows
section
variable {X : Cx}
end
section
variable {X : Cx} {W : WX} {md : Md} {pa pb : Bool} {a b : Expr} {ma mb : M D} {pos : Pos}
end
end DL
/-! The data layer, part XN: sorted(d), tuple(d) of a frozen dict whose keys are tuples. -/
namespace DL
open PySem L2 PyProof.Rows PySem.W
section
variable {X : Cx}
end
end DL
/-! The data layer, part XO: sorted(d), tuple(d) of a frozen dict whose keys are tuples, as expressions. -/
namespace DL
open PySem L2 PyProof.Rows PySem.W
/-! ### tuple(d) -/
section
variable {X : Cx}
end
section
variable {X : Cx} {W : WX} {md : Md} {pa : Bool} {a : Expr} {ms : M (List D)} {p pos : Pos}
end
end DL
/-! The data layer, part XP: list.remove by the data. -/
namespace DL
open PySem L2 PyProof.Rows
end DL
/-! The data layer, part XR: sorted(t) of a tuple. -/
namespace DL
open PySem L2 PyProof.Rows PySem.W PySem.Calls
section
variable {prog : Program} {w : World} {A : Around} {E : Value → Shared → Prop} {s : Shared}
theorem collect_tup {l : Addr} {vs : List Value} {Q : List Value → Shared → Prop} (hl : IsTup s.heap l vs.toArray)
    (h : Q vs { s with heap := (s.heap.push (seqObj "list" #[] 0)).update s.heap.objs.size (Obj.mapSeq (· ++ vs.toArray)) }) (hsz : vs.length ≤ sizeLine) :
    wpAny (model prog w) A (collect (.ref l)) Q E s := by
  obtain ⟨o, ho, hc, n, hd⟩ := id hl
  unfold collect
  refine wpAny_bind (wpAny_runValue (codeAny_builtin entry_proto_collect' ?_))
  show wpAny _ _ (do again (.builtin "list.__iadd__" ⟨[← newList [], .ref l], []⟩)) _ _ s
  refine wpAny_bind (wpAny_newList (wpAny_pure ⟨Code.quiet_builtin _ (by decide +kernel), codeAny_builtin entry_list_iadd' ?_⟩))
  show wpAny _ _ (Builtin.List.listExtendWith (.ref s.heap.objs.size) (.ref l) (.ref s.heap.objs.size)) _ _ { s with heap := s.heap.push (seqObj "list" #[] 0) }
  unfold Builtin.List.listExtendWith
  have ho' : (s.heap.push (seqObj "list" #[] 0)).get? l = some o := Heap.get?_push_of_some _ ho
  refine wpAny_bind (wpAny_typeOf (T := "tuple") ⟨o, ho', hc⟩ ?_)
  have ht : (Value.type "tuple" == Value.type "tuple") = true := by rfl
  rw [if_pos (by rw [ht]; simp)]
  refine wpAny_bind (listItems_at ho' hd ?_)
  refine wpAny_bind (listItems_at (xs := #[]) (n := 0) (Heap.get?_push_size _ rfl) rfl ?_)
  rw [if_neg (by simp)]
  refine wpAny_bind (listUpdate_at (xs := #[]) (n := 0) (Heap.get?_push_size _ rfl) rfl ?_ (Nat.zero_le _) (by show (#[] ++ vs.toArray).size ≤ sizeLine + 1; simp only [Array.size_append, List.size_toArray, List.length_nil]; omega))
  refine wpAny_pure ?_
  show wpAny (model prog w) A (do
      let o ← load s.heap.objs.size
      match o.data with
      | .seq xs _ => pure xs.toList
      | _ => unsupported "internal:collect") Q E { s with heap := (s.heap.push (seqObj "list" #[] 0)).update s.heap.objs.size (Obj.mapSeq (· ++ vs.toArray)) }
  refine wpAny_bind (wpAny_load (get?_update_seq (Heap.get?_push_size _ rfl) _) ?_)
  show wpAny _ _ (pure ((#[] : Array Value) ++ vs.toArray).toList) Q E _
  rw [show ((#[] : Array Value) ++ vs.toArray).toList = vs by simp]
  exact wpAny_pure h
theorem sortedT_of {l : Addr} {vs : List Value} {Q : Value → Shared → Prop} (hl : IsTup s.heap l vs.toArray) (hL : vs.length ≤ sizeLine)
    (body : ∀ E' : Value → Shared → Prop, wpAny (model prog w) A.in1.in1 (Builtin.«list.sort» ⟨[.ref (s.heap.objs.size + 1)], []⟩) (fun f s' => f = .done (.ret .none) ∧ Q (.ref (s.heap.objs.size + 1)) s') E' { s with heap := copyHeap s.heap vs }) :
    wpAny (model prog w) A (call (.builtin "sorted") [.ref l]) Q E s := by
  refine Calls.call_function_entry PyProof.Rows.kind_sorted PyProof.Rows.plain_sorted PyProof.Rows.entry_sorted (PyProof.Rows.args_sorted1 _) ?_
  unfold Builtin.«sorted»
  refine wpAny_bind (m := checkCount "sorted" 1 1 _) (wpAny_pure ?_)
  refine wpAny_bind (collect_tup hl ?_ hL)
  refine wpAny_bind (wpAny_newList ?_ hL)
  have hsz : ((s.heap.push (seqObj "list" #[] 0)).update s.heap.objs.size (Obj.mapSeq (· ++ vs.toArray))).objs.size = s.heap.objs.size + 1 := by
    rw [Heap.size_update, size_push']
  show wpAny _ _ _ _ _ { s with heap := copyHeap s.heap vs }
  rw [hsz]
  refine wpAny_bind (wpAny_holding (wpAny_call_entry PyProof.Rows.slot_list_sort ⟨_, copyHeap_at s.heap vs, rfl⟩ PyProof.Rows.entry_list_sort ?body (PyProof.Rows.args_list_sort _)))
  case body =>
    show wpAny (model prog w) A.in1.in1 (Builtin.«list.sort» ⟨[.ref (s.heap.objs.size + 1)], []⟩) _ _ _
    refine wpAny_mono (body _) (fun f s' hf => ?_) fun _ _ e => e
    obtain ⟨rfl, hq⟩ := hf
    exact ⟨_, rfl, wpAny_pure ⟨_, rfl, hq⟩⟩
end
def rSortT (K : Frg) : List V → Hp → VK → Prop := fun xs H Q => ∃ (a : Addr) (bs : List (V × D)), xs = [.ref a] ∧ SqT K H a (bs.map (·.1)) ∧ (∀ b ∈ bs, Dp K H b.1 b.2) ∧ AllAlike (bs.map (·.2)) ∧ Sortable (bs.map (·.2)) ∧ bs.length ≤ sizeLine ∧ (∀ b ∈ bs, b.2.depth ≤ 64) ∧
  ∀ p, H p = none → Q (.ref p) (upd H p (.lst ((bs.mergeSort (dataLe false (·.2))).map (·.1))))
theorem call_sortT {X : Cx} (hu : X.A.units + 70 < cLine) : CallR X (.builtin "sorted") (rSortT X.K) := by
  intro pins s σ H vs us Q I r h
  obtain ⟨a, bs, rfl, hs, hd, al, so, hl, hdp, q⟩ := h
  obtain ⟨its, rv, pl, hz⟩ := I.tuple hs
  rw [Vals.ref1 r]
  obtain ⟨e1, e2⟩ := each_pairs I rv hd
  have hL : its.length ≤ sizeLine := by
    have := rv.length
    rw [List.length_map] at this
    omega
  have er : EachIs (fun v (b : V × D) => ∃ as, Reads (sortingHeap (copyHeap s.heap its) (s.heap.objs.size + 1) its) v b.2 as) its bs := e2.mono fun _ _ ⟨as, r⟩ => ⟨as, PyProof.Rows.Reads.keeps (fun _ _ => sorting_copy_old) r⟩
  have bound : ∀ b ∈ bs, X.A.in1.in1.units + b.2.depth < cLine := fun b m => by
    have := hdp b m
    show X.A.units + 1 + 1 + b.2.depth < cLine
    omega
  refine sortedT_of pl hL fun E' => list_sort_vals (κ := dataKind (sortingHeap (copyHeap s.heap its) (s.heap.objs.size + 1) its) (bs.map (fun b => b.2))) (s := { s with heap := copyHeap s.heap its }) (copyHeap_at s.heap its)
    (SortsAt.data (s := { s with heap := sortingHeap (copyHeap s.heap its) (s.heap.objs.size + 1) its }) (each_map (R := fun v d => ∃ as, Reads (sortingHeap (copyHeap s.heap its) (s.heap.objs.size + 1) its) v d as) (fun b : V × D => b.2) er) al so (bound_map bound)) hL ⟨rfl, ?_⟩
  have eo := sortVals_data (h' := sortingHeap (copyHeap s.heap its) (s.heap.objs.size + 1) its) (enc := fun b : V × D => b.2) false e1 er al
  generalize sortVals (dataKind (sortingHeap (copyHeap s.heap its) (s.heap.objs.size + 1) its) (bs.map (fun b => b.2))) false its its = out at eo
  obtain ⟨ep, he'⟩ := sortedAll_at s.heap its out.toArray
  have hlen2 : ((bs.mergeSort (dataLe false (fun b : V × D => b.2))).map (·.1)).length ≤ sizeLine := by rw [List.length_map, List.length_mergeSort]; exact hl
  exact ⟨.ref _, upd H (s.heap.objs.size + 1) (.lst _), I.laid (t' := s.toks) (fun _ _ => sortedAll_old) (Nat.le_succ _) ⟨hlen2, out, ep, vals_each eo, he'⟩, rfl, q _ (I.hok.fresh (Nat.le_succ _))⟩
open Classical in
noncomputable def dSortTup : List D → Option T
  | [.tuple ds] => if SortOk ds then some (.ol ((sortD ds).map T.fz)) else none
  | _ => none
theorem co_sortT {K : Frg} : CaO K (rSortT K) dSortTup := fun G H xs ds t Q gl l e k => by
  unfold dSortTup at e
  split at e
  · rename_i ds
    split at e
    · rename_i ok
      cases e
      obtain ⟨al, so, hl, hs⟩ := ok
      obtain ⟨v, rfl, dv⟩ := l.one
      obtain ⟨a, vs, rfl, s, lv⟩ := dv.of_tup
      have z1 : (vs.zip ds).map (·.1) = vs := List.map_fst_zip (by rw [lv.length]; exact Nat.le_refl _)
      have z2 : (vs.zip ds).map (·.2) = ds := List.map_snd_zip (by rw [lv.length]; exact Nat.le_refl _)
      have z3 : (vs.zip ds).length = ds.length := by rw [List.length_zip, lv.length, Nat.min_self]
      have mem : ∀ b ∈ vs.zip ds, b.2 ∈ ds := fun b m => by
        have q := List.mem_map_of_mem (f := fun b : V × D => b.2) m
        rwa [z2] at q
      refine ⟨a, vs.zip ds, rfl, by rw [z1]; exact gl.sqT s, fun b m => ((denL_zip lv b m).up gl).dp (shp_lay (hs _ (mem b m))), by rw [z2]; exact al, by rw [z2]; exact so, by rw [z3]; exact hl, fun b m => SeqAt.depth_of_shaped (hs _ (mem b m)), fun p hp => ?_⟩
      have z4 : ((vs.zip ds).mergeSort (dataLe false (·.2))).map (·.2) = sortD ds := by
        have q := sort_maps (r := dataLe false (fun b : V × D => b.2)) (s := dataLe false id) (fun b : V × D => b.2) (l := vs.zip ds) (fun _ _ _ _ => rfl)
        rw [z2] at q
        exact q
      have dl : DenL K G (((vs.zip ds).mergeSort (dataLe false (·.2))).map (·.1)) (sortD ds) := by
        rw [← z4]
        exact denL_of fun b m => denL_zip lv b (List.mem_mergeSort.mp m)
      exact new_list gl hp dl k
    · cases e
  · cases e
section
variable {X : Cx} {W : WX} {pa : Bool} {a : Expr} {ms : M (List D)} {p pos : Pos}
theorem b_sortTup (hu : X.A.units + 70 < cLine) (hg : Gl X "sorted") (hm : X.mg "sorted" = none) (ha : Ea X W .frz pa [a] ms) (he : starEach [a] X.env = (false, eval a X.env) :: starEach [] X.env := by rfl) (hpl : (backTo pos (starEach [] X.env)).any (·.1) = false := by rfl) : Eo X W pa (.Call (.Name "sorted" p) [a] [] pos) (mL dSortTup ms) :=
  ob_ (call_sortT hu) co_sortT hg hm (by decide +kernel) ha (by decide) (by decide) he hpl
end
end DL
/-! The data layer, part XS: a loop over d.get(key, []), d owned, its keys tuples. -/
namespace DL
open PySem L2 PyProof.Rows
section
variable {X : Cx}
end
section
variable {X : Cx} {W : WX} {fx : List Nat} {tg iter e ke : Expr} {body : List Stmt} {n : M Fl} {mk : M D} {pos : Pos} {i : Nat}
end
end DL
/-! The data layer, part XT: d.setdefault(key, value), the keys tuples (at the model's level). -/
namespace DL
open PySem L2 PyProof.Rows
section
variable {X : Cx} {pins : List (Addr × Obj)} {σ : L2.St} {H : Hp} {s : Shared} {A : Around} {E : Value → Shared → Prop} {a b : Addr} {kvs : List (List Key × V)} {k : List Key} {d : V} {r : Value} {Q : Value → Shared → Prop}
end
/-! ### a thing under a tuple key, changed in place -/
def gAtW (k : List Key) (g : T → List T → Option (T × T)) : T → List T → Option (T × T)
  | .od kvs, ts => (atW k kvs).bind fun t => (g t ts).map fun q => (.od (putW k q.1 kvs), q.2)
  | _, _ => none
section
variable {K : Frg}
end
end DL
/-! The data layer, part XU: d.setdefault(key, []).append(x), d owned, its keys tuples. -/
namespace DL
open PySem L2 PyProof.Rows
noncomputable def mSetAppT (i j : Nat) (mk : M D) : M T := fun env => match env[i]?, env[j]? with
  | some (some (.od kvs)), some (some (.fz x)) => (mk.bind fun d env1 => match kTOf d with
    | some k => if allW kvs = true ∧ kvs.length < sizeLine then (match atW k kvs with
      | some _ => (match gAtW k gApp (.od kvs) [.fz x] with
        | some (t', r) => .ok r (env1.set i (some t'))
        | none => .bad)
      | none => (match gSetW (.od kvs) [.fz d, .ol [.fz x]] with
        | some (t', r) => .ok r (env1.set i (some t'))
        | none => .bad)) else .bad
    | none => .bad) env
  | _, _ => .bad
section
variable {X : Cx} {W : WX} {fx : List Nat} {e ke ve : Expr} {mk : M D} {pos lpos apos cpos apos2 cpos2 : Pos} {i j : Nat}
end
end DL
/-! The data layer, part XV: x is True, x is not True, x is False, both truths. -/
namespace DL
open PySem L2 PyProof.Rows
variable {K : Frg}
variable {X : Cx} {W : WX} {a b : Expr} {ma mb : M D} {pos : Pos} {md : Md} {pa pb : Bool}
end DL
/-! The data layer, part XW: t[::-1], x.upper(), text * n. -/
namespace HT
open PySem PySem.Spec PyProof.Rows PySem.W
section
variable {prog : Program} {w : World} {A : Around} {E : Value → Shared → Prop} {s : Shared}
theorem adjust_rev (n : Nat) : Builtin.Slice.sliceAdjust none none (-1) (n : Int) = ((n : Int) - 1, -1) := by
  unfold Builtin.Slice.sliceAdjust
  simp
theorem places_rev (n : Nat) : Builtin.Slice.slicePlaces ((n : Int) - 1) (-1) (-1) = n := by
  unfold Builtin.Slice.slicePlaces
  simp
  omega
theorem sliceApplied_rev {sl : Addr} {vs : Value} {n : Nat} {Q : Int × Int × Nat → Shared → Prop} (hs : s.heap.IsSliceOf sl .none .none vs) (ps : IsPart vs (some (-1)))
    (h : Q ((n : Int) - 1, -1, n) s) : wpAny (model prog w) A (Builtin.Slice.sliceApplied (.ref sl) (pure (n : Int))) Q E s := by
  obtain ⟨os, hos, hcs, hds⟩ := id hs
  unfold Builtin.Slice.sliceApplied Builtin.Slice.sliceFields
  refine wpAny_bind (wpAny_bind (wpAny_field hos hds (x := .none) rfl (wpAny_bind (wpAny_field hos hds (x := .none) rfl (wpAny_bind (wpAny_field hos hds (x := vs) rfl (wpAny_pure ?_)))))))
  refine wpAny_bind (slicePart_ ps ?_)
  show wpAny _ _ (if ((-1 : Int) == 0) = true then _ else _) _ _ s
  rw [if_neg (by decide)]
  refine wpAny_bind (slicePart_none (wpAny_bind (slicePart_none (wpAny_bind (wpAny_pure ?_)))))
  show wpAny _ _ (match Builtin.Slice.sliceAdjust none none (-1) (n : Int) with | (lo, hi) => pure (lo, (-1 : Int), Builtin.Slice.slicePlaces lo hi (-1))) _ _ s
  rw [adjust_rev n]
  show wpAny _ _ (pure ((n : Int) - 1, (-1 : Int), Builtin.Slice.slicePlaces ((n : Int) - 1) (-1) (-1))) _ _ s
  rw [places_rev]
  exact wpAny_pure h
theorem range_get {α : Type} : ∀ l : List α, (List.range l.length).filterMap (fun m => l[m]?) = l
  | [] => rfl
  | x :: r => by
    rw [List.length_cons, List.range_succ_eq_map, List.filterMap_cons]
    simp only [List.getElem?_cons_zero, List.filterMap_map]
    congr 1
    exact range_get r
theorem fm_congr {α β : Type} {f g : α → Option β} : ∀ {l : List α}, (∀ a ∈ l, f a = g a) → l.filterMap f = l.filterMap g
  | [], _ => rfl
  | a :: r, h => by
    rw [List.filterMap_cons, List.filterMap_cons, h a List.mem_cons_self, fm_congr fun b m => h b (List.mem_cons_of_mem _ m)]
theorem pick_rev (xs : Array Value) : ((List.range xs.size).filterMap fun (m : Nat) => xs[((xs.size : Int) - 1 + (m : Int) * -1).toNat]?).toArray = xs.toList.reverse.toArray := by
  have e : (List.range xs.size).filterMap (fun (m : Nat) => xs[((xs.size : Int) - 1 + (m : Int) * -1).toNat]?) = (List.range xs.size).filterMap fun m => xs.toList.reverse[m]? := by
    refine fm_congr fun m mm => ?_
    have hm := List.mem_range.mp mm
    have e1 : ((xs.size : Int) - 1 + (m : Int) * -1).toNat = xs.size - 1 - m := by omega
    rw [e1, List.getElem?_reverse (by rw [Array.length_toList]; exact hm), Array.length_toList, Array.getElem?_toList]
  have z := range_get xs.toList.reverse
  rw [List.length_reverse, Array.length_toList] at z
  rw [e, z]
theorem getItem_tuple_rev {t sl : Addr} {items : Array Value} {vs : Value} {Q : Value → Shared → Prop} (ht : IsTup s.heap t items) (hs : s.heap.IsSliceOf sl .none .none vs) (ps : IsPart vs (some (-1)))
    (h : Q (.ref s.heap.objs.size) { s with heap := s.heap.push { cls := .type "tuple", data := .seq items.toList.reverse.toArray } })
    (hsz : items.size ≤ sizeLine) : wpAny (model prog w) A (getItem (.ref t) (.ref sl)) Q E s := by
  have htake : sizeOk (.seq items.toList.reverse.toArray) := by
    show items.toList.reverse.toArray.size ≤ sizeLine
    rw [List.size_toArray, List.length_reverse, Array.length_toList]
    exact hsz
  obtain ⟨os, hos, hcs, hds⟩ := id hs
  have hTs : s.TypeIs (.ref sl) "slice" := ⟨os, hos, hcs⟩
  unfold getItem
  try with_reducible refine wpAny_holding ?_
  first | refine wpAny_bind (wpAny_pure ?_) | skip
  refine wpAny_bind (wpAny_sequenceKey ht.typeIs (by decide) ?_)
  refine wpAny_bind (wpAny_callSpecial?_slot (name := Str.ofString "__getitem__") ht.typeIs PyProof.Rows.slot_tuple_getitem
    (wpAny_call_entry PyProof.Rows.slot_tuple_getitem ht.typeIs entry_tuple_getitem ?_ (args_tuple_getitem _ _)))
  show wpAny _ _ (Builtin.Tuple.tupleItemsOf (.ref t) >>= _) _ _ s
  refine wpAny_bind (tupleItemsOf_ ht ?_)
  refine wpAny_bind (wpAny_typeOf hTs ?_)
  rw [if_pos (by decide)]
  refine wpAny_bind (sliceApplied_rev hs ps ?_)
  have hno : ¬ ((((items.size : Int) - 1) == 0 && (-1 : Int) == 1 && items.size == items.size) = true) := by simp
  show wpAny _ _ (if (((items.size : Int) - 1) == 0 && (-1 : Int) == 1 && items.size == items.size) = true then _ else _) _ _ s
  rw [if_neg hno, pick_rev]
  first
    | exact wpAny_bind (m := Builtin.Tuple.tupleExact _) (wpAny_newObj_type (wpAny_pure ⟨_, rfl, wpAny_pure h⟩) htake)
    | exact wpAny_bind (m := Builtin.Tuple.tupleExact _) (wpAny_newObj_type (wpAny_bind (wpAny_pure (wpAny_pure ⟨_, rfl, wpAny_pure h⟩))) htake)
    | exact wpAny_bind (wpAny_bind (m := Builtin.Tuple.tupleExact _) (wpAny_newObj_type (wpAny_pure (wpAny_pure ⟨_, rfl, wpAny_pure h⟩)) htake))
    | exact wpAny_bind (wpAny_bind (m := Builtin.Tuple.tupleExact _) (wpAny_newObj_type (wpAny_pure ⟨_, rfl, wpAny_pure h⟩) htake))
end
end HT
namespace L2
open PySem PySem.Spec PyProof.Rows
def tRevT (K : PySem.W.Frag) (te : TE) : TE := fun σ H Q => te σ H fun x H1 => ∃ a xs, x = .ref a ∧ ((SqL K H1 a xs ∧ ∀ p, H1 p = none → Q (.ref p) (upd H1 p (.lst xs.reverse))) ∨ (SqT K H1 a xs ∧ ∀ p, H1 p = none → Q (.ref p) (upd H1 p (.tup xs.reverse))))
theorem pe_revT {X : Cx} {e : Expr} {te : TE} {k : Nat} {p1 p2 p3 pos : Pos} (he : PE X e te) : PE X (.Subscript e (.Slice none none (some (.UnaryOp .USub (.Constant (.int 1) k p1) p2)) p3) pos) (tRevT X.K te) := by
  refine ⟨fun pins s σ H Q I h => ?_⟩
  refine Subscript_ (thn (he.run pins s σ H _ I h) fun v s1 ⟨x, H1, I1, r1, q1⟩ => ?_)
  obtain ⟨a, xs, ex, q⟩ := q1
  subst ex
  cases r1
  have hst : PO X (some (.UnaryOp .USub (.Constant (.int 1) k p1) p2)) (tPart (tUn (rU fun i => .int (-i)) (tC (.int 1)))) := po_some (pe_un un_neg pe_int)
  refine wpAny_Slice (thn (po_none.run pins s1 σ H1 (fun o H2 => o = none ∧ H2 = H1) I1 ⟨rfl, rfl⟩) fun vl s2 ⟨l, H2, I2, pl, el, e2⟩ => ?_)
  subst el e2
  refine thn (po_none.run pins s2 σ H2 (fun o H3 => o = none ∧ H3 = H2) I2 ⟨rfl, rfl⟩) fun vu s3 ⟨u, H3, I3, pu, eu, e3⟩ => ?_
  subst eu e3
  refine thn (hst.run pins s3 σ H3 (fun o H4 => o = some (-1) ∧ H4 = H3) I3 ⟨1, rfl, -1, rfl, rfl, rfl⟩) fun vs s4 ⟨o, H4, I4, ps, eo, e4⟩ => ?_
  subst eo e4
  have I5 : Inv X pins σ H4 { s4 with heap := s4.heap.push { cls := .type "slice", data := .fields #[vl, vu, vs] } } := I4.kept (t' := s4.toks) fun b ob q => Heap.get?_push_of_some _ q
  show wpAny (model X.prog X.w) X.A (subscriptTail e (.Slice none none (some (.UnaryOp .USub (.Constant (.int 1) k p1) p2)) p3) (.ref a) (.ref s4.heap.objs.size)) (EP X pins σ Q) X.xe { s4 with heap := s4.heap.push { cls := .type "slice", data := .fields #[vl, vu, vs] } }
  rcases q with ⟨hx, q⟩ | ⟨hx, q⟩
  · obtain ⟨its, r, ht, hz⟩ := I5.list hx
    have hlen := r.length
    refine tail_any (ops := [.ref a, .ref s4.heap.objs.size]) ht.isList.typeIs (PySem.slot_list_getitem.lookup) ?_ (by with_unfolding_all rfl)
    refine wpAny_getItem_list_slice ht.isList (Heap.IsSliceOf.new _ vl vu vs) pl pu ps (by decide) ?_ (by rw [List.size_toArray]; omega)
    rw [PySem.W.krv_pick]
    refine ⟨.ref _, _, I5.laid (t' := s4.toks) (o := .lst xs.reverse) (fun b ob q => Heap.get?_push_of_some _ q) (Nat.le_refl _) ?_, rfl, q _ (I5.hok.fresh (Nat.le_refl _))⟩
    exact ⟨by rw [List.length_reverse]; exact hz, _, 0, r.reverse, Heap.get?_push_size _ rfl⟩
  · obtain ⟨its, r, ht, hz⟩ := I5.tuple hx
    have hlen := r.length
    cases pl
    cases pu
    refine tail_any (ops := [.ref a, .ref s4.heap.objs.size]) ht.typeIs (PyProof.Rows.slot_tuple_getitem.lookup) ?_ (by with_unfolding_all rfl)
    refine HT.getItem_tuple_rev ht (Heap.IsSliceOf.new _ .none .none vs) ps ?_ (by rw [List.size_toArray]; omega)
    refine ⟨.ref _, _, I5.laid (t' := s4.toks) (o := .tup xs.reverse) (fun b ob q => Heap.get?_push_of_some _ q) (Nat.le_refl _) ?_, rfl, q _ (I5.hok.fresh (Nat.le_refl _))⟩
    exact ⟨by rw [List.length_reverse]; exact hz, _, r.reverse, IsTup.new _ _⟩
end L2
namespace DL
open PySem L2 PyProof.Rows
section
variable {X : Cx} {W : WX} {md : Md} {pa pu : Bool} {e a b : Expr} {ma mb : M D} {pos : Pos}
def rRevT (K : Frg) : V → Hp → VK → Prop := fun x H1 Q => ∃ a xs, x = .ref a ∧ ((SqL K H1 a xs ∧ ∀ p, H1 p = none → Q (.ref p) (upd H1 p (.lst xs.reverse))) ∨ (SqT K H1 a xs ∧ ∀ p, H1 p = none → Q (.ref p) (upd H1 p (.tup xs.reverse))))
/-- t[::-1] -/
def dRev : D → Option D
  | .tuple ds => some (.tuple ds.reverse)
  | _ => none
theorem us_rev {K : Frg} : UnS K (rRevT K) dRev := fun G H x d1 d Q gl e1 e kk => by
  unfold dRev at e
  split at e
  · cases e
    obtain ⟨a, xs, rfl, sa, la⟩ := e1.of_tup
    exact ⟨a, xs, rfl, .inr ⟨gl.sqT sa, fun p hp => new_tup gl hp la.reverse kk⟩⟩
  · cases e
theorem x_rev {k : Nat} {p1 p2 p3 : Pos} (ha : Ex X W md pa a ma) : Ex X W md pa (.Subscript a (.Slice none none (some (.UnaryOp .USub (.Constant (.int 1) k p1) p2)) p3) pos) (m1 dRev ma) :=
  ex1 (fun _ q => pe_revT q) us_rev ha
/-! ### x.upper() -/
def rUpper : V → Hp → VK → Prop := fun x H Q => ∃ z, x = .str z ∧ z.length ≤ 1000000 ∧ Q (.str (Txt.upper z)) H
theorem pe_upper {o : Expr} {p1 p2 : Pos} {to : TE} (ho : PE X o to) (hbase : attributeBase o "upper" X.env (eval o X.env) = eval o X.env) (hline : (p1.endLine == p2.line) = true) : PE X (.Call (.Attribute o "upper" p1) [] [] p2) (tUn rUpper to) := by
  refine ⟨fun pins s σ H Q I h => ?_⟩
  refine J1.ev_upper hbase hline (thn (ho.run pins s σ H _ I h) fun v s1 ⟨x, H1, I1, r1, q1⟩ => ?_)
  obtain ⟨z, rfl, hz, q⟩ := q1
  obtain ⟨t, rfl⟩ := r1
  exact ⟨z, t, rfl, by omega, fun t' k => ⟨.str (Txt.upper z), H1, I1.tok _, ⟨_, rfl⟩, q⟩⟩
def dUpper : D → Option D
  | .str z => if z.length ≤ 1000000 then some (.str (Txt.upper z)) else none
  | _ => none
theorem flat_dUpper : Flat1 dUpper := fun a d h => by
  unfold dUpper at h
  split at h
  · split at h <;> cases h
    rfl
  · cases h
theorem us_upper {K : Frg} : UnS K rUpper dUpper := fun G H x d1 d Q gl e1 e kk => by
  unfold dUpper at e
  split at e
  · split at e
    · cases e
      exact ⟨_, e1.of_str, by assumption, kk _ G H (Grow.refl gl) (.str _)⟩
    · cases e
  · cases e
theorem x_upper {p1 : Pos} (ha : Ex X W md pa a ma) (hbase : attributeBase a "upper" X.env (eval a X.env) = eval a X.env := by rfl) (hline : (p1.endLine == pos.line) = true := by rfl) : Ex X W .frz pa (.Call (.Attribute a "upper" p1) [] [] pos) (m1 dUpper ma) :=
  ex1s (fun _ q => pe_upper q hbase hline) us_upper flat_dUpper ha
/-! ### text * n -/
def repS (z : Str) (n : Nat) : Str := if z.length = 0 then z else ⟨(List.replicate n z.cps).foldl (· ++ ·) #[]⟩
theorem rep_size (z : Str) (n : Nat) : (repS z n).length = z.length * n := by
  unfold repS
  split
  · rename_i h
    rw [h, Nat.zero_mul]
  · have go : ∀ (n : Nat) (acc : Array Nat), ((List.replicate n z.cps).foldl (· ++ ·) acc).size = acc.size + z.cps.size * n := fun n => by
      induction n with
      | zero => intro acc; simp
      | succ n ih =>
        intro acc
        rw [List.replicate_succ, List.foldl_cons, ih, Array.size_append, Nat.mul_succ]
        omega
    have := go n #[]
    show ((List.replicate n z.cps).foldl (· ++ ·) #[]).size = z.cps.size * n
    rw [this]
    simp
def rRepS : R2 := fun x y H Q => ∃ z k, x = .str z ∧ y = .int k ∧ 2 ≤ k ∧ k ≤ 1000 ∧ z.length ≤ 10000 ∧ Q (.str (repS z k.toNat)) H
theorem op_repS : OpR X (binaryOp .Mult) rRepS := by
  intro pins s σ H x y v u Q I rx ry h
  obtain ⟨z, k, rfl, rfl, k2, k3, hz, q⟩ := h
  obtain ⟨t, rfl⟩ := rx
  obtain ⟨t', rfl⟩ := ry
  have small : z.length * k.toNat ≤ 10000 * 1000 := Nat.mul_le_mul hz (by omega)
  refine PySem.P.mul_str (by simp; omega) (fun _ _ => ?_) (fun _ _ => ?_) ?_
  · have : (10000 : Int) ≤ (2 ^ 63 - 1) / k := by
      rw [Int.le_ediv_iff_mul_le (by omega)]
      omega
    omega
  · show decide (z.length * k.toNat > sizeLine) = false
    rw [decide_eq_false]
    rw [sizeLine_eq]
    omega
  · rw [if_neg (by omega)]
    by_cases c : z.length = 0
    · rw [if_pos (by rw [c]; simp)]
      have e : repS z k.toNat = z := if_pos c
      rw [e] at q
      exact ⟨.str z, H, I, ⟨_, rfl⟩, q⟩
    · rw [if_neg (by simp; omega)]
      have e : repS z k.toNat = ⟨(List.replicate k.toNat z.cps).foldl (· ++ ·) #[]⟩ := if_neg c
      have sz := rep_size z k.toNat
      rw [e] at q sz
      exact ⟨by show _ ≤ sizeLine; rw [sz, sizeLine_eq]; omega, .str _, H, I.tok _, ⟨_, rfl⟩, q⟩
def dRepS : D → D → Option D
  | .str z, .int k => if 2 ≤ k ∧ k ≤ 1000 ∧ z.length ≤ 10000 then some (.str (repS z k.toNat)) else none
  | _, _ => none
theorem flat_dRepS : Flat2 dRepS := fun a b d h => by
  unfold dRepS at h
  split at h
  · split at h <;> cases h
    rfl
  · cases h
theorem os_repS {K : Frg} : OpS K rRepS dRepS := fun G H x y d1 d2 d Q gl e1 e2 e k => by
  unfold dRepS at e
  split at e
  · split at e
    · rename_i hs
      cases e
      exact ⟨_, _, e1.of_str, e2.of_int, hs.1, hs.2.1, hs.2.2, k _ G H (Grow.refl gl) (.str _)⟩
    · cases e
  · cases e
theorem x_repS (ha : Ex X W md pa a ma) (hb : Ex X W md pb b mb) (hm : md = .frz ∨ pb = true := by first | exact Or.inl rfl | exact Or.inr rfl) : Ex X W .frz (pa && pb) (.BinOp a .Mult b pos) (m2 dRepS ma mb) :=
  ex2s (fun ta tb p q => pe_op op_repS p q) os_repS flat_dRepS ha hb hm
theorem ss_bad {fx : List Nat} {body : List Stmt} : DSs X W fx body mBad := ⟨fun _ _ _ => False, ⟨fun _ _ _ _ _ _ h => h.elim⟩, fun _ _ _ _ _ _ _ h => h⟩
end
end DL
/-! The data layer: a sign not in a text. -/
namespace DL
open PySem L2 PyProof.Rows
section
variable {X : Cx} {W : WX} {md : Md} {pa pb : Bool} {a b : Expr} {ma mb : M D} {pos : Pos}
end
end DL
/-! The data layer: d.get(key, default), d frozen, its keys tuples. -/
namespace DL
open PySem L2 PyProof.Rows
def dDicW : D → Option D
  | .dict kvs => if allW kvs = true then some .none else none
  | _ => none
def dGet3 : D → D → D → Option D
  | .dict kvs, d, z => (kTOf d).map fun k => (atWD k kvs).getD z
  | _, _, _ => none
def mGet3 (ma mb mc : M D) : M D := ma.bind fun x => (M.lift (dDicW x)).bind fun _ => mb.bind fun y => mc.bind fun z => M.lift (dGet3 x y z)
section
variable {X : Cx} {W : WX} {pa pb pc : Bool} {a b c : Expr} {ma mb mc : M D}
end
end DL
/-! The data layer: min of data. -/
namespace DL
open PySem L2 PyProof.Rows PySem.W
section
variable {prog : Program} {w : World} {A : Around} {E : Value → Shared → Prop} {s : Shared}
end
section
variable {X : Cx}
end
section
variable {X : Cx} {W : WX} {md : Md} {pa : Bool} {e : Expr} {es : List Expr} {ms : M (List D)} {p pos : Pos}
end
end DL
/-! The data layer, part YB: a dict against {}, a tuple times an integer, {key: value} with a tuple as the key. -/
namespace DL
open PySem PySem.Calls PyProof.Rows L2
/-! ### d != {} -/
section
variable {prog : Program} {w : World} {A : Around} {E : Value → Shared → Prop} {s : Shared}
end
section
variable {X : Cx} {W : WX} {md : Md} {pa pb : Bool} {a b : Expr} {ma mb : M D} {pos : Pos}
end
/-! ### a tuple, so many times -/
section
variable {X : Cx} {W : WX} {md : Md} {pa pb : Bool} {a b : Expr} {ma mb : M D} {pos : Pos}
end
/-! ### {key: value}, the key a tuple -/
section
variable {X : Cx} {W : WX} {pos : Pos} {k v : Expr} {ms : List (M D × M D)}
end
end DL
/-! The data layer, part YC: range of two integers of any size; d.update(e), keys that are texts or integers. -/
namespace DL
open PySem L2 PyProof.Rows
/-! ### range(a, b), a and b of any size -/
theorem turn_long {P : Program} {w : World} {K : PySem.W.Frag} {tg : Expr} (it : Addr) (lo : Int) (n : Nat) : Turn P w K tg (Itr lo n) [it] it (fun i h => IsLongIter h it (lo + (i : Nat) * 1) ((n : Int) - (i : Nat)) 1) where
  mem := by simp
  obj := fun i h st b hb => by
    have e : b = it := by simpa using hb
    subst e
    exact ⟨_, st, fun v z => by
      have z' : Data.fields _ = Data.cell v := z
      cases z'⟩
  keep := fun i h h' st k => k it (by simp) _ st
  item := by
    intro X hP hw hK hc i pins s σ H E I hf st hg
    subst hP hw hK
    obtain ⟨f0, f1, f2, f3, f4, f5⟩ := hf it (by simp)
    have W := Walks.longrange (prog := X.prog) (w := X.w) (I.ok.hd hc) it lo 1 n
    refine W.item i s _ _ hg st fun v h' tk hv st' kk => ?_
    obtain ⟨t, rfl⟩ := hv
    have I1 : Inv X pins σ H { s with heap := h', toks := tk } := I.turned (fun b o hb e => kk b o (by simpa using hb) e) f0 f1 f3 f4 f5
    refine ⟨_, rfl, go_of (s := { s with heap := h', toks := tk }) (n := "longrange_iterator") st' rfl rfl (by decide) ⟨.int (lo + i), H, I1, ⟨t, ?_⟩, ⟨rfl, rfl⟩, st', fun b hb => (hf b hb).1⟩⟩
    rw [Int.mul_one]
  done := by
    intro X hP hw hK hc i pins s σ H E I hf st hg
    subst hP hw hK
    obtain ⟨f0, f1, f2, f3, f4, f5⟩ := hf it (by simp)
    exact wpAny_pyNext_long_end (I.ok.hd hc) st (by have : n ≤ i := hg; omega) fun h' eb => ⟨rfl, I.turned (t' := s.toks) (fun b o hb e => eb b o hb e) f0 f1 f3 f4 f5⟩
  self := fun _ _ _ _ _ st h => wpAny_pyIter_longiter st h
theorem range_any {X : Cx} {tg : Expr} {pins : List (Addr × Obj)} {σ : L2.St} {H : Hp} {s : Shared} {R : It → Hp → Prop} {E : Value → Shared → Prop} {lo hi : Int} {t u v : Tok} {tk : Nat} (I : Inv X pins σ H s)
    (q : R (Itr lo (hi - lo).toNat) H) : wpAny (model X.prog X.w) X.A (pyIter (.ref s.heap.objs.size)) (PIE X pins σ tg R) E { s with heap := s.heap.push { cls := .type "range", data := .fields #[.int lo t, .int hi u, .int 1 v] }, toks := tk } := by
  have e1 : lo + ((0 : Nat) : Int) * 1 = lo := by simp
  have e2 : (((hi - lo).toNat : Nat) : Int) - ((0 : Nat) : Int) = Builtin.Range.rangeSize lo hi 1 := by rw [rangeSize_one]; split <;> omega
  have I1 : Inv X pins σ H { s with heap := s.heap.push { cls := .type "range", data := .fields #[.int lo t, .int hi u, .int 1 v] }, toks := tk } := I.kept fun b o e => Heap.get?_push_of_some _ e
  cases sm : Builtin.Range.small lo hi 1 with
  | true =>
    refine wpAny_pyIter_range (IsRange.new ..) sm ?_
    refine ⟨(s.heap.push { cls := .type "range", data := .fields #[.int lo t, .int hi u, .int 1 v] }).objs.size, [(s.heap.push { cls := .type "range", data := .fields #[.int lo t, .int hi u, .int 1 v] }).objs.size], _, _, H, rfl,
      I1.kept (t' := tk) fun b o e => Heap.get?_push_of_some _ e, turn_range _ lo (hi - lo).toNat, ?_, fun b hb => ?_, q⟩
    · show IsRangeIter _ _ (lo + ((0 : Nat) : Int) * 1) ((((hi - lo).toNat : Nat) : Int) - ((0 : Nat) : Int)) 1
      rw [e1, e2]
      exact Heap.get?_push_size _ rfl
    · have e : b = (s.heap.push { cls := .type "range", data := .fields #[.int lo t, .int hi u, .int 1 v] }).objs.size := by simpa using hb
      subst e
      exact I1.fpOk (Nat.le_refl _) (I1.hok.fresh (Nat.le_refl _))
  | false =>
    refine wpAny_pyIter_longrange (IsRange.new ..) sm ?_
    refine ⟨(s.heap.push { cls := .type "range", data := .fields #[.int lo t, .int hi u, .int 1 v] }).objs.size, [(s.heap.push { cls := .type "range", data := .fields #[.int lo t, .int hi u, .int 1 v] }).objs.size], _, _, H, rfl,
      I1.kept (t' := tk) fun b o e => Heap.get?_push_of_some _ e, turn_long _ lo (hi - lo).toNat, ?_, fun b hb => ?_, q⟩
    · show IsLongIter _ _ (lo + ((0 : Nat) : Int) * 1) ((((hi - lo).toNat : Nat) : Int) - ((0 : Nat) : Int)) 1
      rw [e1, e2]
      exact Heap.get?_push_size _ rfl
    · have e : b = (s.heap.push { cls := .type "range", data := .fields #[.int lo t, .int hi u, .int 1 v] }).objs.size := by simpa using hb
      subst e
      exact I1.fpOk (Nat.le_refl _) (I1.hok.fresh (Nat.le_refl _))
def iRng2A (ta : TA) : TI := fun σ H R => ta σ H fun vs H1 => ∃ i j : Int, vs = [.int i, .int j] ∧ R (Itr i (j - i).toNat) H1
theorem pi_range2A {X : Cx} {tg a b : Expr} {ta : TA} {p pos : Pos} (hg : Gl X "range") (hm : X.mg "range" = none) (ha : PA X [a, b] ta) (hs : starEach [a, b] X.env = [(false, eval a X.env), (false, eval b X.env)] := by rfl) (hs2 : starEach [b] X.env = [(false, eval b X.env)] := by rfl) :
    PI X tg (.Call (.Name "range" p) [a, b] [] pos) (iRng2A ta) := by
  refine ⟨fun pins s σ H R I h => ?_⟩
  refine Call_ (ld_blt I hg hm boot_range (PyProof.Rows.callWith_type1 (thn (ha.run pos pins s σ H _ I h) fun us s1 ⟨vs, H1, I1, r1, q1⟩ => ?_) (by rw [hs, hs2]) (by rw [hs2]; rfl)))
  obtain ⟨i, j, e, q⟩ := q1
  subst e
  cases r1 with
  | cons r rr =>
    cases rr with
    | cons r' rr =>
      cases rr
      obtain ⟨t, rfl⟩ := r
      obtain ⟨t', rfl⟩ := r'
      exact call_range_2 (range_any I1 q)
def dRng2A : List D → Option (List D)
  | [.int i, .int j] => some (intsR i (j - i).toNat)
  | _ => none
section
variable {X : Cx} {W : WX} {pa : Bool} {a b tg : Expr} {ms : M (List D)} {p pos : Pos}
theorem i_rng2A (hg : Gl X "range") (hm : X.mg "range" = none) (ha : Ea X W .frz pa [a, b] ms) (hs : starEach [a, b] X.env = [(false, eval a X.env), (false, eval b X.env)] := by rfl) (hs2 : starEach [b] X.env = [(false, eval b X.env)] := by rfl) : Di X W pa tg (.Call (.Name "range" p) [a, b] [] pos) (mIL dRng2A ms) := by
  obtain ⟨ta, p, k⟩ := ha
  refine ⟨_, pi_range2A hg hm p hs hs2, fun G H σ env Fp R S h => iter_args k S h _ fun vs H1 G1 ds xs gl l e kR => ?_⟩
  unfold dRng2A at e
  split at e
  · cases e
    obtain ⟨v, v', rfl, dv, dv'⟩ := l.two
    exact ⟨_, _, by rw [dv.of_int, dv'.of_int], kR _ it_rng⟩
  · cases e
end
/-! ### d.update(e), the keys of e are new -/
theorem d_update {X : Cx} {pins : List (Addr × Obj)} {σ : L2.St} {H : Hp} {s : Shared} {A : Around} {E : Value → Shared → Prop} {a b : Addr} {kvs more : List (Key × V)} {Q : Value → Shared → Prop} (I : Inv X pins σ H s) (e : H a = some (.dK kvs)) (e2 : Rd H b (.dK more)) (ne : a ≠ b) (hz : kvs.length + more.length ≤ sizeLine)
    (h : ∀ s', Inv X pins σ (upd H a (.dK (mergeK kvs more))) s' → Q .none s') : wpAny (model X.prog X.w) A (call (.builtin "dict.update") [.ref a, .ref b]) Q E s := by
  obtain ⟨z, hd, vs, rel, dd⟩ := dk_of I.hok e
  obtain ⟨z2, hd2, ws, rel2, dd2⟩ := dk_rd I.hok e2
  refine call_meetsIn PySem.F.slot_dict_update dd.typeIs PySem.F.entry_dict_update (PySem.F.args_dict_update_2 _ _) (meets_dict_update (mixKind X.prog X.w) a b ne hd2) ⟨vs, ws, dd, dd2, by rw [← rel.length, ← rel2.length]; exact hz, fun h' dd' _ hs => h _ ?_⟩
  have he : ∃ q, h'.get? a = some q := let ⟨q, _, _, hq, _⟩ := dd'; ⟨q, hq⟩
  exact d_write (t' := s.toks) I (by rw [e]; exact True.intro) hs he (dk_new (Nat.le_trans (length_mergeK more kvs) hz) hd (rel2.merge rel) dd')
def rUpdD : V → List V → Hp → VK → Prop := fun x vs H Q => ∃ (a b : Addr) (kvs more : List (Key × V)), x = .ref a ∧ vs = [.ref b] ∧ H a = some (.dK kvs) ∧ Rd H b (.dK more) ∧ a ≠ b ∧ kvs.length + more.length ≤ sizeLine ∧ Q .non (upd H a (.dK (mergeK kvs more)))
theorem mt_updD {X : Cx} : MtR X "dict.update" rUpdD := by
  intro pins s σ H x vs v us Q I rx rv h
  obtain ⟨a, b, kvs, more, rfl, rfl, e, e2, ne, hz, q⟩ := h
  obtain rfl : v = Value.ref a := rx
  obtain ⟨u, rfl, ru⟩ := rv.one
  obtain rfl : u = Value.ref b := ru
  exact d_update I e e2 ne hz fun s' I' => ⟨.non, _, I', rfl, q⟩
open Classical in
noncomputable def gUpdD : T → List T → Option (T × T)
  | .od kvs, [.fz (.dict more)] => if allK kvs = true ∧ allK more = true ∧ (kvs.map (·.1) ++ more.map (·.1)).Nodup ∧ kvs.length + more.length ≤ sizeLine then some (.od (kvs ++ more.map fun p => (p.1, .fz p.2)), .fz .none) else none
  | _, _ => none
section
variable {K : Frg} {G H : Hp}
theorem ownK_fz : ∀ {ks : List (Key × V)} {kvs : List (D × D)}, DenK K G ks kvs → OwnK K G H ks (kvs.map fun p => (p.1, T.fz p.2)) []
  | _, _, .nil => .nil
  | _, _, .cons (k := k) h t => .cons (k := k) (F := []) (F' := []) (.fz h) (ownK_fz t)
theorem OwnK.app : ∀ {ks js : List (Key × V)} {kvs lvs : List (D × T)} {F F' : List Addr}, OwnK K G H ks kvs F → OwnK K G H js lvs F' → OwnK K G H (ks ++ js) (kvs ++ lvs) (F ++ F')
  | _, _, _, _, _, _, .nil, t => t
  | _, _, _, _, _, _, .cons (k := k) h r, t => by
    rw [List.cons_append, List.cons_append, List.append_assoc]
    exact .cons (k := k) h (r.app t)
theorem OwnK.keysD : ∀ {ks : List (Key × V)} {kvs : List (D × T)} {F : List Addr}, OwnK K G H ks kvs F → kvs.map (·.1) = (ks.map (·.1)).map keyD
  | _, _, _, .nil => rfl
  | _, _, _, .cons _ t => by rw [List.map_cons, List.map_cons, List.map_cons, t.keysD]
theorem DenK.keysD : ∀ {ks : List (Key × V)} {kvs : List (D × D)}, DenK K G ks kvs → kvs.map (·.1) = (ks.map (·.1)).map keyD
  | _, _, .nil => rfl
  | _, _, .cons _ t => by rw [List.map_cons, List.map_cons, List.map_cons, t.keysD]
theorem DenK.len' : ∀ {ks : List (Key × V)} {kvs : List (D × D)}, DenK K G ks kvs → ks.length = kvs.length
  | _, _, .nil => rfl
  | _, _, .cons _ t => by rw [List.length_cons, List.length_cons, t.len']
theorem OwnK.len' : ∀ {ks : List (Key × V)} {kvs : List (D × T)} {F : List Addr}, OwnK K G H ks kvs F → ks.length = kvs.length
  | _, _, _, .nil => rfl
  | _, _, _, .cons _ t => by rw [List.length_cons, List.length_cons, t.len']
end
theorem ms_updD {K : Frg} : MeS K rUpdD gUpdD := by
  intro G H v t F0 vs us Fr t' rt Q gl o ol nd ap e kk
  unfold gUpdD at e
  split at e
  · rename_i kvs more
    split at e
    · rename_i ok
      cases e
      obtain ⟨a1, a2, n0, len⟩ := ok
      obtain ⟨y, rfl, oy⟩ := ol.one
      cases oy with
      | fz dy =>
      have dn : ∃ (b : Addr) (js : List (Key × V)), y = .ref b ∧ Rd G b (.dK js) ∧ DenK K G js more := by
        cases dy with
        | dk r l => exact ⟨_, _, rfl, r, l⟩
        | dt r l n => exact absurd (l.allK a2).1 n
      obtain ⟨b, js, rfl, rb, lb⟩ := dn
      cases o with
      | odt _ ho hne => exact absurd (ho.allK a1).1 hne
      | @odk a ks _ F hx ho =>
        have ne : a ≠ b := fun z => by
          subst z
          have z1 := ap a (List.mem_append_left _ List.mem_cons_self)
          rcases rb with q | ⟨ob, q⟩ <;> rw [z1] at q <;> cases q
        have nk : ((ks.map (·.1)) ++ (js.map (·.1))).Nodup := by
          rw [ho.keysD, lb.keysD, ← List.map_append] at n0
          exact List.Pairwise.imp (fun h e => h (congrArg keyD e)) (List.pairwise_map.mp n0)
        have em : mergeK ks js = ks ++ js := mergeK_app js ks (by rw [List.map_append]; exact nk)
        have p1 := (List.nodup_append.mp nd).1
        obtain ⟨q1, q2⟩ := List.nodup_cons.mp p1
        refine ⟨a, b, ks, js, rfl, rfl, hx, gl.rd rb, ne, by rw [ho.len', lb.len']; exact len, ?_⟩
        rw [em]
        have whole : OwnK K G H (ks ++ js) (kvs ++ more.map fun p => (p.1, T.fz p.2)) (F ++ []) := ho.app (ownK_fz lb)
        rw [List.append_nil] at whole
        exact kk .non _ (a :: F) [] (fun c hc => upd_ne fun z => hc (z ▸ List.mem_cons_self)) (.odk upd_same (whole.stay (GLe.refl _) fun c m => upd_ne fun z => q1 (z ▸ m))) (.fz .non) (by simpa using p1) fun c m => by simpa using m
    · cases e
  · cases e
end DL
/-! What a computation comes to: rules for its end. -/
namespace DL
open PySem L2 PyProof.Rows
/-- the computation ends well, and what it gives holds -/
@[irreducible] def Ok {α : Type} (m : M α) (env : Env) (Q : α → Env → Prop) : Prop := match m env with
  | .ok a e => Q a e
  | _ => False
/-- a call's result, nothing changed in place -/
@[irreducible] def Sok (r : Rs T) (Q : T → Prop) : Prop := match r with
  | .ok t _ => Q t
  | _ => False
/-- a call's result, the first argument changed in place -/
@[irreducible] def BOk (r : Rs T) (Q : T → T → Prop) : Prop := match r with
  | .ok r (some t' :: _) => Q r t'
  | _ => False
def oEl {α : Type} (o : Option α) (f : α → Prop) : Prop := match o with
  | some a => f a
  | none => False
def slot (o : Option (Option T)) (f : T → Prop) : Prop := match o with
  | some (some t) => f t
  | _ => False
def fzOf (t : T) (f : D → Prop) : Prop := match t with
  | .fz d => f d
  | _ => False
def nxt (fl : Fl) (a : Prop) (b : Prop) : Prop := match fl with
  | .nx => a
  | _ => b
def flT : Fl → Option T
  | .nx => some (.fz .none)
  | .rt t => some t
  | _ => none
def bol (d : D) (f : Bool → Prop) : Prop := match d with
  | .bool b => f b
  | _ => False
section
variable {α β : Type} {env : Env} {Q : α → Env → Prop} {R : β → Env → Prop}
theorem oEl_some {a : α} {f : α → Prop} : oEl (some a) f = f a := rfl
theorem slot_some {t : T} {f : T → Prop} : slot (some (some t)) f = f t := rfl
theorem fzOf_fz {d : D} {f : D → Prop} : fzOf (.fz d) f = f d := rfl
theorem nxt_nx {a b : Prop} : nxt .nx a b = a := rfl
theorem nxt_rt {a b : Prop} {t : T} : nxt (.rt t) a b = b := rfl
theorem flT_nx : flT .nx = some (.fz .none) := rfl
theorem flT_rt {t : T} : flT (.rt t) = some t := rfl
theorem bol_b {b : Bool} {f : Bool → Prop} : bol (.bool b) f = f b := rfl
theorem Ok.mono {m : M α} {Q' : α → Env → Prop} (h : Ok m env Q) (k : ∀ a e, Q a e → Q' a e) : Ok m env Q' := by
  unfold Ok at h ⊢
  cases q : m env <;> rw [q] at h <;> first | exact k _ _ h | exact h.elim
theorem ok_pure {a : α} : Ok (M.pure a) env Q = Q a env := by unfold Ok; rfl
theorem ok_bind {m : M α} {f : α → M β} : Ok (m.bind f) env R = Ok m env fun a e => Ok (f a) e R := by
  unfold Ok M.bind
  cases m env <;> rfl
theorem ok_map {m : M α} {f : α → β} : Ok (m.map f) env R = Ok m env fun a e => R (f a) e := by
  unfold M.map
  rw [ok_bind]
  unfold Ok
  rfl
theorem ok_lift {o : Option α} : Ok (M.lift o) env Q = oEl o fun a => Q a env := by
  unfold Ok
  cases o <;> rfl
theorem ok_m2 {g : D → D → Option α} {ma mb : M D} : Ok (m2 g ma mb) env Q = Ok ma env fun x e => Ok mb e fun y e => oEl (g x y) fun a => Q a e := by
  unfold m2
  rw [ok_bind]
  simp only [ok_bind, ok_lift]
theorem ok_m1 {g : D → Option α} {ma : M D} : Ok (m1 g ma) env Q = Ok ma env fun x e => oEl (g x) fun a => Q a e := by
  unfold m1
  simp only [ok_bind, ok_lift]
theorem ok_mL {g : List D → Option α} {ms : M (List D)} : Ok (mL g ms) env Q = Ok ms env fun x e => oEl (g x) fun a => Q a e := by
  unfold mL
  simp only [ok_bind, ok_lift]
theorem ok_mLT {g : List T → Option T} {ms : M (List T)} {Q : T → Env → Prop} : Ok (mLT g ms) env Q = Ok ms env fun x e => oEl (g x) fun a => Q a e := by
  unfold mLT
  simp only [ok_bind, ok_lift]
theorem ok_mI {g : D → Option (List D)} {m : M D} {Q : List D → Env → Prop} : Ok (mI g m) env Q = Ok m env fun x e => oEl (g x) fun a => Q a e := by
  unfold mI
  simp only [ok_bind, ok_lift]
theorem ok_mIL {g : List D → Option (List D)} {m : M (List D)} {Q : List D → Env → Prop} : Ok (mIL g m) env Q = Ok m env fun x e => oEl (g x) fun a => Q a e := by
  unfold mIL
  simp only [ok_bind, ok_lift]
theorem ok_nil {Q : List D → Env → Prop} : Ok mNil env Q = Q [] env := by unfold Ok; rfl
theorem ok_cons {a : M D} {ms : M (List D)} {Q : List D → Env → Prop} : Ok (mCons a ms) env Q = Ok a env fun x e => Ok ms e fun xs e => Q (x :: xs) e := by
  unfold mCons
  simp only [ok_bind, ok_pure]
theorem ok_star {a : M D} {ms : M (List D)} {Q : List D → Env → Prop} : Ok (mStarC a ms) env Q = Ok a env fun x e => oEl (seqA x) fun ys => Ok ms e fun xs e => Q (ys ++ xs) e := by
  unfold mStarC
  simp only [ok_bind, ok_pure, ok_lift]
theorem ok_nilT {Q : List T → Env → Prop} : Ok mNilT env Q = Q [] env := by unfold Ok; rfl
theorem ok_consT {a : M T} {ms : M (List T)} {Q : List T → Env → Prop} : Ok (mConsT a ms) env Q = Ok a env fun x e => Ok ms e fun xs e => Q (x :: xs) e := by
  unfold mConsT
  simp only [ok_bind, ok_pure]
theorem ok_C {d : D} {Q : D → Env → Prop} : Ok (mC d) env Q = Q d env := by unfold Ok; rfl
theorem ok_var {i : Nat} {Q : D → Env → Prop} : Ok (mVar i) env Q = slot env[i]? fun t => Q t.er env := by
  unfold Ok mVar slot
  cases env[i]? with
  | none => rfl
  | some o => cases o <;> rfl
theorem ok_varF {i : Nat} {Q : D → Env → Prop} : Ok (mVarF i) env Q = slot env[i]? fun t => fzOf t fun d => Q d env := by
  unfold Ok mVarF slot
  cases env[i]? with
  | none => rfl
  | some o =>
    cases o with
    | none => rfl
    | some t => cases t <;> rfl
theorem ok_varZ {i : Nat} {Q : D → Env → Prop} : Ok (mVarZ i) env Q = slot env[i]? fun t => Q t.er (env.set i (some (.fz t.er))) := by
  unfold Ok mVarZ slot
  cases env[i]? with
  | none => rfl
  | some o => cases o <;> rfl
theorem ok_out {i : Nat} {Q : T → Env → Prop} : Ok (mOut i) env Q = slot env[i]? fun t => Q t (env.set i none) := by
  unfold Ok mOut slot
  cases env[i]? with
  | none => rfl
  | some o => cases o <;> rfl
theorem ok_tru {d : D} {Q : Bool → Env → Prop} : Ok (tru d) env Q = bol d fun b => Q b env := by
  unfold Ok
  cases d <;> rfl
theorem ok_bl {b : Bool} {Q : D → Env → Prop} : Ok (bl b) env Q = Q (.bool b) env := by unfold Ok; rfl
theorem ok_and {x y : M Bool} {Q : Bool → Env → Prop} : Ok (tAndM x y) env Q = Ok x env fun b e => if b = true then Ok y e Q else Q false e := by
  unfold tAndM
  rw [ok_bind]
  congr 1
  funext b e
  unfold Ok
  cases b <;> rfl
theorem ok_or {x y : M Bool} {Q : Bool → Env → Prop} : Ok (tOrM x y) env Q = Ok x env fun b e => if b = true then Q true e else Ok y e Q := by
  unfold tOrM
  rw [ok_bind]
  congr 1
  funext b e
  unfold Ok
  cases b <;> rfl
theorem ok_not {x : M Bool} {Q : Bool → Env → Prop} : Ok (tNotM x) env Q = Ok x env fun b e => Q (!b) e := by
  unfold tNotM
  simp only [ok_bind, ok_pure]
theorem ok_vand {x y : M D} {Q : D → Env → Prop} : Ok (vAnd x y) env Q = Ok x env fun d e => bol d fun b => if b = true then Ok y e Q else Q (.bool false) e := by
  unfold vAnd
  rw [ok_bind]
  congr 1
  funext d e
  rw [ok_bind, ok_tru]
  unfold Ok
  cases d <;> try rfl
  rename_i b
  cases b <;> rfl
theorem ok_vor {x y : M D} {Q : D → Env → Prop} : Ok (vOr x y) env Q = Ok x env fun d e => bol d fun b => if b = true then Q (.bool true) e else Ok y e Q := by
  unfold vOr
  rw [ok_bind]
  congr 1
  funext d e
  rw [ok_bind, ok_tru]
  unfold Ok
  cases d <;> try rfl
  rename_i b
  cases b <;> rfl
theorem ok_vnot {x : M D} {Q : D → Env → Prop} : Ok (vNot x) env Q = Ok x env fun d e => bol d fun b => Q (.bool (!b)) e := by
  unfold vNot
  rw [ok_bind]
  congr 1
  funext d e
  rw [ok_bind, ok_tru]
  unfold Ok
  cases d <;> rfl
theorem ok_if {t : M Bool} {x y : M α} : Ok (mIf t x y) env Q = Ok t env fun b e => if b = true then Ok x e Q else Ok y e Q := by
  unfold mIf
  rw [ok_bind]
  congr 1
  funext b e
  unfold Ok
  cases b <;> rfl
theorem ok_ifS {t : M Bool} {x y : M Fl} {Q : Fl → Env → Prop} : Ok (mIfS t x y) env Q = Ok t env fun b e => if b = true then Ok x e Q else Ok y e Q := by
  unfold mIfS
  rw [ok_bind]
  congr 1
  funext b e
  unfold Ok
  cases b <;> rfl
theorem ok_seq {m n : M Fl} {Q : Fl → Env → Prop} : Ok (mSeq m n) env Q = Ok m env fun fl e => nxt fl (Ok n e Q) (Q fl e) := by
  unfold mSeq
  rw [ok_bind]
  congr 1
  funext fl e
  unfold Ok
  cases fl <;> rfl
theorem ok_nx {Q : Fl → Env → Prop} : Ok mNx env Q = Q .nx env := by unfold Ok; rfl
theorem ok_rt {m : M T} {Q : Fl → Env → Prop} : Ok (mRt m) env Q = Ok m env fun t e => Q (.rt t) e := by
  unfold mRt
  simp only [ok_bind, ok_pure]
theorem ok_drop {m : M α} {Q : Fl → Env → Prop} : Ok (mDrop m) env Q = Ok m env fun _ e => Q .nx e := by
  unfold mDrop
  simp only [ok_bind, ok_pure]
theorem ok_set {i : Nat} {m : M T} {Q : Fl → Env → Prop} : Ok (mSet i m) env Q = Ok m env fun t e => Q .nx (e.set i (some t)) := by
  unfold mSet
  rw [ok_bind]
  unfold Ok
  rfl
def two? (ts : List T) (f : T → T → Prop) : Prop := match ts with
  | [t, u] => f t u
  | _ => False
def three? (ts : List T) (f : T → T → T → Prop) : Prop := match ts with
  | [t, u, v] => f t u v
  | _ => False
theorem ok_par {i j : Nat} {m : M (List T)} {Q : Fl → Env → Prop} : Ok (mPar i j m) env Q = Ok m env fun ts e => two? ts fun t u => Q .nx ((e.set i (some t)).set j (some u)) := by
  unfold mPar
  rw [ok_bind]
  congr 1
  funext ts e
  rcases ts with _ | ⟨t, _ | ⟨u, _ | ⟨v, r⟩⟩⟩ <;> (unfold Ok; rfl)
theorem ok_par3 {i j l : Nat} {m : M (List T)} {Q : Fl → Env → Prop} : Ok (mPar3 i j l m) env Q = Ok m env fun ts e => three? ts fun t u v => Q .nx (((e.set i (some t)).set j (some u)).set l (some v)) := by
  unfold mPar3
  rw [ok_bind]
  congr 1
  funext ts e
  rcases ts with _ | ⟨t, _ | ⟨u, _ | ⟨v, _ | ⟨w, r⟩⟩⟩⟩ <;> (unfold Ok; rfl)
theorem ok_asg {m : M T} {f : T → Env → Option Env} {Q : Fl → Env → Prop} : Ok (mAsg m f) env Q = Ok m env fun t e => oEl (f t e) fun e => Q .nx e := by
  unfold mAsg
  rw [ok_bind]
  congr 1
  funext t e
  unfold Ok
  dsimp only
  cases f t e <;> rfl
theorem ok_fl {m : M D} {Q : D → Env → Prop} : Ok (mFl m) env Q = Ok m env fun d e => flat d = true ∧ Q d e := by
  unfold mFl
  rw [ok_bind]
  congr 1
  funext d e
  by_cases h : flat d = true
  · rw [if_pos h]
    simp only [ok_pure, h, true_and]
  · rw [if_neg h]
    exact propext ⟨fun z => by unfold Ok at z; exact z.elim, fun z => absurd z.1 h⟩
theorem ok_Bd {m : M D} {Q : Option Int → Env → Prop} : Ok (mBd m) env Q = Ok m env fun d e => match d with | .int i => Q (some i) e | _ => False := by
  unfold mBd
  rw [ok_bind]
  congr 1
  funext d e
  unfold Ok
  cases d <;> rfl
theorem ok_slV {a : M D} {l h : M (Option Int)} {Q : D → Env → Prop} : Ok (mSlV a l h) env Q = Ok a env fun d e => Ok l e fun lo e => Ok h e fun hi e => oEl (dSl d lo hi) fun t => Q t.er e := by
  unfold mSlV
  simp only [ok_bind, ok_lift]
  congr 1
  funext d e
  congr 1
  funext lo e
  congr 1
  funext hi e
  cases dSl d lo hi <;> rfl
theorem ok_sl {a : M D} {l h : M (Option Int)} {Q : T → Env → Prop} : Ok (mSl a l h) env Q = Ok a env fun d e => Ok l e fun lo e => Ok h e fun hi e => oEl (dSl d lo hi) fun t => Q t e := by
  unfold mSl
  simp only [ok_bind, ok_lift]
theorem ok_hasI {i : Nat} {Q : Unit → Env → Prop} : Ok (mHas i) env Q = slot env[i]? fun _ => Q () env := by
  unfold Ok mHas slot
  cases env[i]? with
  | none => rfl
  | some o => cases o <;> rfl
theorem ok_call {sem : Sem} {ms : M (List D)} {Q : T → Env → Prop} : Ok (mCall sem ms) env Q = Ok ms env fun ds e => Sok (sem (ds.map fun d => some (.fz d))) fun t => Q t e := by
  unfold mCall
  rw [ok_bind]
  congr 1
  funext ds e
  unfold Ok Sok
  dsimp only
  cases sem (ds.map fun d => some (.fz d)) <;> rfl
theorem ok_callB {sem : Sem} {i : Nat} {ms : M (List D)} {Q : T → Env → Prop} : Ok (mCallB sem i ms) env Q = Ok ms env fun ds e => slot e[i]? fun t => BOk (sem (some t :: ds.map fun d => some (.fz d))) fun r t' => Q r (e.set i (some t')) := by
  unfold mCallB
  rw [ok_bind]
  congr 1
  funext ds e
  unfold Ok BOk slot
  dsimp only
  cases e[i]? with
  | none => rfl
  | some o =>
    cases o with
    | none => rfl
    | some t =>
      dsimp only
      cases sem (some t :: ds.map fun d => some (.fz d)) with
      | bad => rfl
      | exn x e' =>
        rcases e' with _ | ⟨_ | t', r⟩ <;> rfl
      | ok r e' =>
        rcases e' with _ | ⟨_ | t', r⟩ <;> rfl
theorem ok_box {k : String} {i : Nat} {Q : Unit → Env → Prop} : Ok (mBox k i) env Q = slot env[i]? fun t => boxy k t = true ∧ Q () env := by
  unfold Ok mBox slot
  cases env[i]? with
  | none => rfl
  | some o =>
    cases o with
    | none => rfl
    | some t =>
      dsimp only
      by_cases h : boxy k t = true
      · rw [if_pos h]
        simp only [h, true_and]
      · rw [if_neg h]
        exact propext ⟨fun z => z.elim, fun z => h z.1⟩
theorem ok_upd {i : Nat} {g : T → List T → Option (T × T)} {ts : List T} {Q : T → Env → Prop} : Ok (fun env => match env[i]? with
  | some (some t) => match g t ts with
    | some (t', r) => .ok r (env.set i (some t'))
    | none => .bad
  | _ => .bad) env Q = slot env[i]? fun t => oEl (g t ts) fun r => Q r.2 (env.set i (some r.1)) := by
  unfold Ok slot
  dsimp only
  cases env[i]? with
  | none => rfl
  | some o =>
    cases o with
    | none => rfl
    | some t =>
      dsimp only
      cases g t ts <;> rfl
theorem ok_meth {k : String} {i : Nat} {g : T → List T → Option (T × T)} {ms : M (List T)} {Q : T → Env → Prop} : Ok (mMeth k i g ms) env Q = slot env[i]? fun t0 => boxy k t0 = true ∧ Ok ms env fun ts e => slot e[i]? fun t => oEl (g t ts) fun r => Q r.2 (e.set i (some r.1)) := by
  unfold mMeth
  rw [ok_bind, ok_box]
  refine congrArg (slot _) (funext fun t0 => congrArg (_ ∧ ·) ?_)
  rw [ok_bind]
  exact congrArg (Ok ms env) (funext fun ts => funext fun e => ok_upd)
theorem ok_stA {me : M T} {mk : M D} {Q : List T → Env → Prop} : Ok (mStA me mk) env Q = Ok me env fun t e => Ok mk e fun d e => flat d = true ∧ Q [.fz d, t] e := by
  unfold mStA
  simp only [ok_bind]
  congr 1
  funext t e
  congr 1
  funext d e
  by_cases h : flat d = true
  · rw [if_pos h]
    simp only [ok_pure, h, true_and]
  · rw [if_neg h]
    exact propext ⟨fun z => by unfold Ok at z; exact z.elim, fun z => absurd z.1 h⟩
theorem ok_store {k : String} {i : Nat} {g : T → List T → Option (T × T)} {me : M T} {mk : M D} {Q : Fl → Env → Prop} : Ok (mStore k i g me mk) env Q = Ok (mMeth k i g (mStA me mk)) env fun _ e => Q .nx e := ok_drop
theorem ok_augN {op : D → D → Option D} {i : Nat} {mb : M D} {Q : Fl → Env → Prop} : Ok (mAugN op i mb) env Q = slot env[i]? fun t => fzOf t fun d => Ok mb env fun y e => oEl (op d y) fun z => Q .nx (e.set i (some (.fz z))) := by
  unfold Ok mAugN slot
  cases env[i]? with
  | none => rfl
  | some o =>
    cases o with
    | none => rfl
    | some t =>
      cases t <;> try rfl
      rename_i d
      have z : Ok (mb.bind fun y => (M.lift (op d y)).bind fun z env => Rs.ok Fl.nx (List.set env i (some (T.fz z)))) env Q = Ok mb env fun y e => oEl (op d y) fun z => Q .nx (e.set i (some (.fz z))) := by
        rw [ok_bind]
        congr 1
        funext y e
        rw [ok_bind, ok_lift]
        unfold Ok
        rfl
      unfold Ok at z
      exact z
theorem ok_frz {i : Nat} {m : M α} : Ok (mFrz i m) env Q = slot env[i]? fun t => Ok m (env.set i (some (.fz t.er))) Q := by
  unfold Ok mFrz slot
  cases env[i]? with
  | none => rfl
  | some o => cases o <;> rfl
end
/-! ### calls of what is known -/
section
variable {k : Nat} {m : M Fl} {rest : Env} {t : T}
theorem sok_sem {fx : List Nat} {Q : T → Prop} : Sok (semOf fx k m rest) Q = Ok m (rest ++ List.replicate k none) fun fl _ => oEl (flT fl) Q := by
  unfold Sok semOf Ok
  cases m (rest ++ List.replicate k none) with
  | bad => rfl
  | exn x e => rfl
  | ok fl e => cases fl <;> rfl
theorem bok_sem {Q : T → T → Prop} (h : Ok m (some t :: rest ++ List.replicate k none) fun fl e => slot e[0]? fun t' => oEl (flT fl) fun r => Q r t') : BOk (semOf [0] k m (some t :: rest)) Q := by
  unfold BOk semOf
  unfold Ok at h
  cases q : m (some t :: rest ++ List.replicate k none) with
  | bad => rw [q] at h; exact h
  | exn x e => rw [q] at h; exact h
  | ok fl e =>
    rw [q] at h
    dsimp only at h
    have go : ∀ r, flT fl = some r → BOk (.ok r (mixE (fun i => [0].contains i) (some t :: rest) e)) Q := fun r hr => by
      rw [hr] at h
      unfold BOk
      rcases e with _ | ⟨_ | t', e⟩
      · exact h.elim
      · exact h.elim
      · exact h
    unfold BOk at go
    cases fl with
    | nx => exact go _ rfl
    | rt r => exact go _ rfl
    | bk =>
      rcases e with _ | ⟨_ | t', e⟩ <;> exact h.elim
    | ct =>
      rcases e with _ | ⟨_ | t', e⟩ <;> exact h.elim
theorem BOk.mono {r : Rs T} {Q Q' : T → T → Prop} (h : BOk r Q) (k : ∀ r t', Q r t' → Q' r t') : BOk r Q' := by
  unfold BOk at h ⊢
  split at h
  · exact k _ _ h
  · exact h.elim
theorem Sok.mono {r : Rs T} {Q Q' : T → Prop} (h : Sok r Q) (k : ∀ t, Q t → Q' t) : Sok r Q' := by
  unfold Sok at h ⊢
  split at h
  · exact k _ h
  · exact h.elim
end
/-! ### loops -/
theorem ok_for_inv {f : T → Env → Option Env} {body : M Fl} (I : Nat → Env → Prop) : ∀ (ds : List D) (n : Nat) (env : Env), I n env →
    (∀ (i : Nat) d e, ds[i]? = some d → I (n + i) e → oEl (f (.fz d) e) fun e1 => Ok body e1 fun fl e2 => (fl = .nx ∨ fl = .ct) ∧ I (n + i + 1) e2) → Ok (mFor f body ds) env fun fl e => fl = .nx ∧ I (n + ds.length) e
  | [], n, env, h, _ => by unfold Ok; exact ⟨rfl, h⟩
  | d :: ds, n, env, h, k => by
    have k0 := k 0 d env rfl h
    unfold Ok mFor
    cases q : f (.fz d) env with
    | none => rw [q] at k0; exact k0.elim
    | some e1 =>
      rw [q] at k0
      have k0 : Ok body e1 _ := k0
      unfold Ok at k0
      dsimp only
      cases q2 : body e1 with
      | bad => rw [q2] at k0; exact k0.elim
      | exn x e => rw [q2] at k0; exact k0.elim
      | ok fl e2 =>
        rw [q2] at k0
        have z := ok_for_inv I ds (n + 1) e2 k0.2 fun i d' e hd hi => by
          have z := k (i + 1) d' e (by simpa using hd) (by rw [show n + (i + 1) = n + 1 + i by omega]; exact hi)
          rw [show n + (i + 1) + 1 = n + 1 + i + 1 by omega] at z
          exact z
        rw [show n + 1 + ds.length = n + (d :: ds).length by simp; omega] at z
        unfold Ok at z
        rcases k0.1 with rfl | rfl
        · exact z
        · exact z
theorem ok_for {f : T → Env → Option Env} {body : M Fl} {ds : List D} {env : Env} {Q : Fl → Env → Prop} (I : Nat → Env → Prop) (h : I 0 env)
    (k : ∀ (i : Nat) d e, ds[i]? = some d → I i e → oEl (f (.fz d) e) fun e1 => Ok body e1 fun fl e2 => (fl = .nx ∨ fl = .ct) ∧ I (i + 1) e2) (q : ∀ e, I ds.length e → Q .nx e) : Ok (mFor f body ds) env Q :=
  (ok_for_inv I ds 0 env h fun i d e hd hi => by
    rw [Nat.zero_add] at hi ⊢
    exact k i d e hd hi).mono fun fl e ⟨a, b⟩ => by
    subst a
    rw [Nat.zero_add] at b
    exact q e b
/-- a while loop, by a measure -/
theorem ok_while {c : M Bool} {body : M Fl} {Q : Fl → Env → Prop} (I : Nat → Env → Prop) : ∀ (n : Nat) (env : Env), I n env →
    (∀ n e, I n e → Ok c e fun b e1 => if b = true then Ok body e1 fun fl e2 => (fl = .nx ∨ fl = .ct) ∧ ∃ m, m < n ∧ I m e2 else Q .nx e1) → Ok (mWh c body) env Q := by
  intro n env h k
  have fin : ∃ j, Ok (mWhN c body j) env Q := by
    induction n using Nat.strongRecOn generalizing env with
    | _ n ih =>
      have k0 := k n env h
      unfold Ok at k0
      cases q : c env with
      | bad => rw [q] at k0; exact k0.elim
      | exn x e => rw [q] at k0; exact k0.elim
      | ok b e1 =>
        rw [q] at k0
        cases b with
        | false =>
          refine ⟨1, ?_⟩
          unfold Ok mWhN
          rw [q]
          exact k0
        | true =>
          dsimp only at k0
          rw [if_pos rfl] at k0
          cases q2 : body e1 with
          | bad => rw [q2] at k0; exact k0.elim
          | exn x e => rw [q2] at k0; exact k0.elim
          | ok fl e2 =>
            rw [q2] at k0
            obtain ⟨hf, m', hm, hi⟩ := k0
            obtain ⟨j, hj⟩ := ih m' hm e2 hi
            refine ⟨j + 1, ?_⟩
            unfold Ok mWhN
            rw [q]
            dsimp only
            rw [q2]
            unfold Ok at hj
            rcases hf with rfl | rfl
            · exact hj
            · exact hj
  obtain ⟨j, hj⟩ := fin
  have nb : mWhN c body j env ≠ .bad := fun z => by
    unfold Ok at hj
    rw [z] at hj
    exact hj
  unfold Ok
  rw [mWh_of nb]
  unfold Ok at hj
  exact hj
end DL
/-! What a computation comes to: comprehensions, loops over owned lists, things under a key. -/
namespace DL
open PySem L2 PyProof.Rows
theorem million {n : Nat} (h : n ≤ 1000000) : n ≤ sizeLine := by rw [sizeLine_eq]; omega
/-- one turn of a comprehension that changes nothing -/
def LcT (vs : List Nat) (f : T → Env → Option Env) (mc : M Bool) (me : M T) (env : Env) (d : D) (r : Option T) : Prop :=
  oEl (f (.fz d) (wipeE env vs)) fun e1 => Ok mc e1 fun b e2 => if b = true then Ok me e2 (fun t _ => some t = r) else r = none
section
variable {vs : List Nat} {f : T → Env → Option Env} {mc : M Bool} {me : M T} {env : Env} {Q : T → Env → Prop}
theorem lcStep_of {d : D} {r : Option T} (h : LcT vs f mc me env d r) : lcStep vs f mc me env d = some r := by
  unfold LcT at h
  unfold lcStep
  cases q : f (.fz d) (wipeE env vs) with
  | none => rw [q] at h; exact h.elim
  | some e1 =>
    rw [q] at h
    have h : Ok mc e1 _ := h
    unfold Ok at h
    dsimp only
    cases q2 : mc e1 with
    | bad => rw [q2] at h; exact h.elim
    | exn x e => rw [q2] at h; exact h.elim
    | ok b e2 =>
      rw [q2] at h
      cases b with
      | false =>
        dsimp only at h ⊢
        rw [if_neg Bool.false_ne_true] at h
        rw [h]
      | true =>
        dsimp only at h ⊢
        rw [if_pos rfl] at h
        cases q3 : me e2 with
        | bad => rw [q3] at h; exact h.elim
        | exn x e => rw [q3] at h; exact h.elim
        | ok t e =>
          rw [q3] at h
          dsimp only at h ⊢
          rw [h]
theorem lcGo_of (g : D → Option T) : ∀ {ds : List D}, (∀ d ∈ ds, LcT vs f mc me env d (g d)) → lcGo vs f mc me env ds = some (ds.filterMap g)
  | [], _ => rfl
  | d :: ds, k => by
    have i := lcGo_of g (ds := ds) fun d' m => k d' (List.mem_cons_of_mem _ m)
    unfold lcGo
    rw [lcStep_of (k d List.mem_cons_self), List.filterMap_cons]
    cases g d with
    | none => exact i
    | some t =>
      dsimp only
      rw [i]
      rfl
theorem ok_lc {ds : List D} (g : D → Option T) (h : ds.length ≤ 1000000) (k : ∀ d ∈ ds, LcT vs f mc me env d (g d)) (q : Q (.ol (ds.filterMap g)) env) : Ok (mLc vs f mc me ds) env Q := by
  unfold Ok mLc
  rw [if_pos (million h), lcGo_of g k]
  exact q
/-- each turn gives one thing -/
theorem ok_lc1 {ds : List D} (g : D → T) (h : ds.length ≤ 1000000) (k : ∀ d ∈ ds, LcT vs f mc me env d (some (g d))) (q : Q (.ol (ds.map g)) env) : Ok (mLc vs f mc me ds) env Q :=
  ok_lc (fun d => some (g d)) h k (by
    have e : ∀ l : List D, l.filterMap (fun d => some (g d)) = l.map g := fun l => by
      induction l with
      | nil => rfl
      | cons x r ih => rw [List.filterMap_cons, List.map_cons, ih]
    rw [e]
    exact q)
/-- each turn may change what names hold -/
theorem lcI_inv (I : Nat → List T → Env → Prop) : ∀ (ds : List D) (n : Nat) (done : List T) (env : Env), I n done env →
    (∀ (i : Nat) d done e, ds[i]? = some d → I (n + i) done e → oEl (f (.fz d) e) fun e1 => Ok mc e1 fun b e2 => if b = true then Ok me e2 (fun t e3 => I (n + i + 1) (done ++ [t]) (wipeE e3 vs)) else I (n + i + 1) done (wipeE e2 vs)) →
    ∃ ts e, lcI vs f mc me ds env = some (ts, e) ∧ I (n + ds.length) (done ++ ts) e
  | [], n, done, env, h, _ => ⟨[], env, rfl, by simpa using h⟩
  | d :: ds, n, done, env, h, k => by
    have k0 := k 0 d done env rfl h
    have next : ∀ done' e', I (n + 1) done' e' → ∃ ts e, lcI vs f mc me ds e' = some (ts, e) ∧ I (n + (d :: ds).length) (done' ++ ts) e := fun done' e' h' => by
      have z := lcI_inv I ds (n + 1) done' e' h' fun i d' done e hd hi => by
        have z := k (i + 1) d' done e (by simpa using hd) (by rw [show n + (i + 1) = n + 1 + i by omega]; exact hi)
        rw [show n + (i + 1) + 1 = n + 1 + i + 1 by omega] at z
        exact z
      rw [show n + 1 + ds.length = n + (d :: ds).length by simp; omega] at z
      exact z
    unfold lcI
    cases q : f (.fz d) env with
    | none => rw [q] at k0; exact k0.elim
    | some e1 =>
      rw [q] at k0
      have k0 : Ok mc e1 _ := k0
      unfold Ok at k0
      dsimp only
      cases q2 : mc e1 with
      | bad => rw [q2] at k0; exact k0.elim
      | exn x e => rw [q2] at k0; exact k0.elim
      | ok b e2 =>
        rw [q2] at k0
        cases b with
        | false =>
          dsimp only at k0 ⊢
          rw [if_neg Bool.false_ne_true] at k0
          exact next done _ k0
        | true =>
          dsimp only at k0 ⊢
          rw [if_pos rfl] at k0
          cases q3 : me e2 with
          | bad => rw [q3] at k0; exact k0.elim
          | exn x e => rw [q3] at k0; exact k0.elim
          | ok t e3 =>
            rw [q3] at k0
            dsimp only at k0 ⊢
            obtain ⟨ts, e, h1, h2⟩ := next _ _ k0
            refine ⟨t :: ts, e, by rw [h1]; rfl, ?_⟩
            rw [List.append_assoc] at h2
            exact h2
theorem ok_lcI {ds : List D} (I : Nat → List T → Env → Prop) (hl : ds.length ≤ 1000000) (hp : Plain vs env) (h : I 0 [] (wipeE env vs))
    (k : ∀ (i : Nat) d done e, ds[i]? = some d → I i done e → oEl (f (.fz d) e) fun e1 => Ok mc e1 fun b e2 => if b = true then Ok me e2 (fun t e3 => I (i + 1) (done ++ [t]) (wipeE e3 vs)) else I (i + 1) done (wipeE e2 vs))
    (q : ∀ ts e, I ds.length ts e → Q (.ol ts) (backE env vs e)) : Ok (mLcI vs f mc me ds) env Q := by
  obtain ⟨ts, e, h1, h2⟩ := lcI_inv (vs := vs) (f := f) (mc := mc) (me := me) I ds 0 [] (wipeE env vs) h fun i d done e hd hi => by
    rw [Nat.zero_add] at hi ⊢
    exact k i d done e hd hi
  rw [Nat.zero_add, List.nil_append] at h2
  unfold Ok mLcI
  rw [if_pos ⟨million hl, hp⟩, h1]
  exact q ts e h2
end
section
variable {env : Env}
theorem ok_items {i : Nat} {Q : List D → Env → Prop} : Ok (mItems i) env Q = slot env[i]? fun t => match t with
  | .ol ts => oEl (fzs ts) fun ds => Q ds env
  | .fz (.list ds) => Q ds env
  | _ => False := by
  unfold Ok mItems slot
  cases env[i]? with
  | none => rfl
  | some o =>
    cases o with
    | none => rfl
    | some t =>
      cases t with
      | ol ts =>
        dsimp only
        cases fzs ts <;> rfl
      | fz d => cases d <;> rfl
      | _ => rfl
theorem fzs_fz : ∀ ds : List D, fzs (ds.map T.fz) = some ds
  | [] => rfl
  | d :: r => by
    rw [List.map_cons, fzs, fzs_fz r]
    rfl
theorem ok_catE {ma mc : M (List D)} {Q : T → Env → Prop} : Ok (mCatE ma mc) env Q = Ok ma env fun x e => Ok mc e fun y e => oEl (if x.length + y.length ≤ sizeLine then some (.ol ((x ++ y).map T.fz)) else none) fun t => Q t e := by
  unfold mCatE
  simp only [ok_bind, ok_lift]
theorem ok_slE {ma : M (List D)} {ml mh : M (Option Int)} {Q : T → Env → Prop} : Ok (mSlE ma ml mh) env Q = Ok ma env fun ds e => Ok ml e fun lo e => Ok mh e fun hi e => Q (.ol ((cutD ds lo hi).map T.fz)) e := by
  unfold mSlE
  simp only [ok_bind, ok_lift]
  rfl
end
/-- a loop that may return -/
theorem ok_forR {f : T → Env → Option Env} {body : M Fl} {Q : Fl → Env → Prop} : ∀ {ds : List D} {env : Env} (I : Nat → Env → Prop) (R : T → Env → Prop), I 0 env →
    (∀ (i : Nat) d e, ds[i]? = some d → I i e → oEl (f (.fz d) e) fun e1 => Ok body e1 fun fl e2 => match fl with
      | .nx => I (i + 1) e2
      | .ct => I (i + 1) e2
      | .rt t => R t e2
      | .bk => False) → (∀ e, I ds.length e → Q .nx e) → (∀ t e, R t e → Q (.rt t) e) → Ok (mFor f body ds) env Q
  | [], env, I, R, h, _, q, _ => by unfold Ok; exact q env h
  | d :: ds, env, I, R, h, k, q, qr => by
    have k0 := k 0 d env rfl h
    unfold Ok mFor
    cases z : f (.fz d) env with
    | none => rw [z] at k0; exact k0.elim
    | some e1 =>
      rw [z] at k0
      have k0 : Ok body e1 _ := k0
      unfold Ok at k0
      dsimp only
      cases q2 : body e1 with
      | bad => rw [q2] at k0; exact k0.elim
      | exn x e => rw [q2] at k0; exact k0.elim
      | ok fl e2 =>
        rw [q2] at k0
        have next : I 1 e2 → Ok (mFor f body ds) e2 Q := fun h1 => ok_forR (fun i => I (i + 1)) R h1 (fun i d' e hd hi => k (i + 1) d' e (by simpa using hd) hi) (fun e h => q e (by simpa using h)) qr
        unfold Ok at next
        cases fl with
        | nx => exact next k0
        | ct => exact next k0
        | rt t => exact qr t e2 k0
        | bk => exact k0.elim
theorem boxy_ol {ts : List T} : (boxy "list" (.ol ts) = true) = True := by simp [boxy]
theorem boxy_od {kvs : List (D × T)} : (boxy "dict" (.od kvs) = true) = True := by simp [boxy]
theorem erL_nil : T.erL [] = [] := by simp [T.erL]
theorem ok_forN {f : T → Env → Option Env} {body : M Fl} {env : Env} {Q : Fl → Env → Prop} : Ok (mFor f body []) env Q = Q .nx env := by unfold Ok; rfl
/-- how a turn goes on -/
def turnOn (fl : Fl) (go : Prop) (q : Fl → Prop) : Prop := match fl with
  | .nx => go
  | .ct => go
  | .rt t => q (.rt t)
  | .bk => q .nx
theorem turnOn_nx {go : Prop} {q : Fl → Prop} : turnOn .nx go q = go := rfl
theorem turnOn_rt {go : Prop} {q : Fl → Prop} {t : T} : turnOn (.rt t) go q = q (.rt t) := rfl
theorem ok_forC {f : T → Env → Option Env} {body : M Fl} {d : D} {ds : List D} {env : Env} {Q : Fl → Env → Prop} : Ok (mFor f body (d :: ds)) env Q = oEl (f (.fz d) env) fun e1 => Ok body e1 fun fl e2 => turnOn fl (Ok (mFor f body ds) e2 Q) fun fl => Q fl e2 := by
  unfold Ok
  rw [mFor]
  dsimp only
  cases f (.fz d) env with
  | none => rfl
  | some e1 =>
    dsimp only [oEl]
    cases body e1 with
    | bad => rfl
    | exn x e => rfl
    | ok fl e2 => cases fl <;> rfl
theorem sok_is {r : Rs T} {v : T} (h : Sok r fun t => t = v) {Q : T → Prop} : Sok r Q = Q v := by
  unfold Sok at h ⊢
  cases r with
  | bad => exact h.elim
  | exn x e => exact h.elim
  | ok t e =>
    dsimp only at h ⊢
    rw [h]
theorem ok_dic0 {env : Env} {Q : T → Env → Prop} : Ok mDic0 env Q = Q (.od []) env := by unfold Ok; rfl
theorem flat_str {x : Str} : (flat (.str x) = true) = True := by simp [flat]
theorem flat_int {x : Int} : (flat (.int x) = true) = True := by simp [flat]
theorem erL_cons {t : T} {r : List T} : T.erL (t :: r) = t.er :: T.erL r := by rw [T.erL]
end DL
/-! What a computation comes to: walks over dicts, dict comprehensions, what is thawed. -/
namespace DL
open PySem L2 PyProof.Rows
def dct (d : D) (f : List (D × D) → Prop) : Prop := match d with
  | .dict kvs => f kvs
  | _ => False
def odo (t : T) (f : List (D × T) → Prop) : Prop := match t with
  | .od kvs => f kvs
  | _ => False
theorem dct_d {kvs : List (D × D)} {f : List (D × D) → Prop} : dct (.dict kvs) f = f kvs := rfl
theorem odo_d {kvs : List (D × T)} {f : List (D × T) → Prop} : odo (.od kvs) f = f kvs := rfl
section
variable {α : Type} {env : Env}
theorem ok_stK {me : M T} {mk : M D} {Q : List T → Env → Prop} : Ok (mStK me mk) env Q = Ok me env fun t e => Ok mk e fun d e => Q [.fz d, t] e := by
  unfold mStK
  simp only [ok_bind, ok_pure]
theorem ok_storeK {k : String} {i : Nat} {g : T → List T → Option (T × T)} {me : M T} {mk : M D} {Q : Fl → Env → Prop} : Ok (mStoreK k i g me mk) env Q = Ok (mMeth k i g (mStK me mk)) env fun _ e => Q .nx e := ok_drop
theorem ok_noX {m : M α} {Q : α → Env → Prop} : Ok (mNoX m) env Q = Ok m env Q := by
  unfold Ok mNoX
  cases m env <;> rfl
theorem ok_Ks {i : Nat} {Q : List D → Env → Prop} : Ok (mKs (sVar i)) env Q = slot env[i]? fun t => fzOf t fun d => dct d fun kvs => Q (kvs.map (·.1)) env := by
  unfold Ok mKs sVar slot
  cases env[i]? with
  | none => rfl
  | some o =>
    cases o with
    | none => rfl
    | some t =>
      cases t with
      | fz d => cases d <;> rfl
      | _ => rfl
theorem ok_thawD {i : Nat} {m : M D} {Q : D → Env → Prop} : Ok (mThawD i m) env Q = slot env[i]? fun t => Ok m (env.set i (some (.fz t.er))) fun d e => (bf d = true ∧ Freed i env e) ∧ Q d (e.set i (some t)) := by
  unfold Ok mThawD slot
  cases env[i]? with
  | none => rfl
  | some o =>
    cases o with
    | none => rfl
    | some t =>
      dsimp only
      cases m (env.set i (some (.fz t.er))) with
      | bad => rfl
      | exn x e => rfl
      | ok d e =>
        dsimp only
        by_cases h : bf d = true ∧ Freed i env e
        · rw [if_pos h]
          exact propext ⟨fun z => ⟨h, z⟩, fun z => z.2⟩
        · rw [if_neg h]
          exact propext ⟨fun z => z.elim, fun z => h z.1⟩
theorem ok_thawO {i : Nat} {m : M T} {Q : T → Env → Prop} : Ok (mThawO i m) env Q = slot env[i]? fun t => Ok m (env.set i (some (.fz t.er))) fun d e => (d.bf = true ∧ Freed i env e) ∧ Q d (e.set i (some t)) := by
  unfold Ok mThawO slot
  cases env[i]? with
  | none => rfl
  | some o =>
    cases o with
    | none => rfl
    | some t =>
      dsimp only
      cases m (env.set i (some (.fz t.er))) with
      | bad => rfl
      | exn x e => rfl
      | ok d e =>
        dsimp only
        by_cases h : d.bf = true ∧ Freed i env e
        · rw [if_pos h]
          exact propext ⟨fun z => ⟨h, z⟩, fun z => z.2⟩
        · rw [if_neg h]
          exact propext ⟨fun z => z.elim, fun z => h z.1⟩
theorem ok_methAtT {bx : String} {i : Nat} {mk : M D} {g : T → List T → Option (T × T)} {ms : M (List T)} {Q : T → Env → Prop} : Ok (mMethAtT bx i mk g ms) env Q = slot env[i]? fun _ => Ok mk env fun d e1 => oEl (kOf d) fun k => slot e1[i]? fun t => odo t fun kvs => oEl (atK k kvs) fun t1 => boxy bx t1 = true ∧ Ok ms (e1.set i (some (.fz (T.od kvs).er))) fun ts e2 => (T.bfL ts = true ∧ Freed i e1 e2) ∧ oEl (gAt k g (.od kvs) ts) fun r => Q r.2 (e2.set i (some r.1)) := by
  unfold mMethAtT
  rw [ok_bind, ok_hasI]
  refine congrArg (slot _) (funext fun _ => ?_)
  rw [ok_bind]
  refine congrArg (Ok mk env) (funext fun d => funext fun e1 => ?_)
  unfold Ok slot
  cases kOf d with
  | none => rfl
  | some k =>
    dsimp only [oEl]
    cases e1[i]? with
    | none => rfl
    | some o =>
      cases o with
      | none => rfl
      | some t =>
        cases t with
        | od kvs =>
          dsimp only [odo]
          cases atK k kvs with
          | none => rfl
          | some t1 =>
            dsimp only [oEl]
            by_cases hb : boxy bx t1 = true
            · rw [if_pos hb]
              cases ms (e1.set i (some (.fz (T.od kvs).er))) with
              | bad => exact propext ⟨fun z => z.elim, fun z => z.2⟩
              | exn x e => exact propext ⟨fun z => z.elim, fun z => z.2⟩
              | ok ts e2 =>
                dsimp only
                by_cases h : T.bfL ts = true ∧ Freed i e1 e2
                · rw [if_pos h]
                  cases gAt k g (.od kvs) ts with
                  | none => exact propext ⟨fun z => z.elim, fun z => z.2.2⟩
                  | some r => exact propext ⟨fun z => ⟨hb, h, z⟩, fun z => z.2.2⟩
                · rw [if_neg h]
                  exact propext ⟨fun z => z.elim, fun z => h z.2.1⟩
            · rw [if_neg hb]
              exact propext ⟨fun z => z.elim, fun z => hb z.1⟩
        | _ => rfl
theorem ok_getO {i : Nat} {d : D} {Q : D → Env → Prop} : Ok (mGetO i d) env Q = slot env[i]? fun t => odo t fun kvs => oEl (dGetW (T.od kvs).er d) fun x => Q x env := by
  unfold Ok mGetO slot
  cases env[i]? with
  | none => rfl
  | some o =>
    cases o with
    | none => rfl
    | some t =>
      cases t with
      | od kvs =>
        dsimp only [odo]
        cases dGetW (T.od kvs).er d <;> rfl
      | _ => rfl
theorem ok_augB {op : D → D → Option D} {i : Nat} {mk mb : M D} {Q : List T → Env → Prop} : Ok (mAugB op i mk mb) env Q = Ok mk env fun d e => slot e[i]? fun t => odo t fun kvs => oEl (dGetW (T.od kvs).er d) fun o => Ok mb e fun y e => oEl (op o y) fun z => flat z = true ∧ Q [.fz d, .fz z] e := by
  unfold mAugB
  rw [ok_bind]
  refine congrArg (Ok mk env) (funext fun d => funext fun e => ?_)
  rw [ok_bind, ok_getO]
  refine congrArg (slot _) (funext fun t => congrArg (odo t) (funext fun kvs => congrArg (oEl _) (funext fun o => ?_)))
  rw [ok_bind]
  refine congrArg (Ok mb e) (funext fun y => funext fun e => ?_)
  rw [ok_bind, ok_lift]
  refine congrArg (oEl _) (funext fun z => ?_)
  by_cases h : flat z = true
  · rw [if_pos h]
    simp only [ok_pure, h, true_and]
  · rw [if_neg h]
    exact propext ⟨fun q => by unfold Ok at q; exact q.elim, fun q => absurd q.1 h⟩
theorem ok_augW {op : D → D → Option D} {i : Nat} {mk mb : M D} {Q : Fl → Env → Prop} : Ok (mAugW op i mk mb) env Q = Ok (mMeth "dict" i gSetW (mAugB op i mk mb)) env fun _ e => Q .nx e := ok_drop
theorem ok_setApp {i j : Nat} {mk : M D} {Q : T → Env → Prop} : Ok (mSetAppT i j mk) env Q = slot env[i]? fun t => odo t fun kvs => slot env[j]? fun t2 => fzOf t2 fun x => Ok mk env fun d e => oEl (kTOf d) fun k => (allW kvs = true ∧ kvs.length < sizeLine) ∧
    oEl (if (atW k kvs).isSome = true then gAtW k gApp (.od kvs) [.fz x] else gSetW (.od kvs) [.fz d, .ol [.fz x]]) fun r => Q r.2 (e.set i (some r.1)) := by
  unfold Ok mSetAppT slot
  dsimp only
  cases env[i]? with
  | none => rfl
  | some o =>
    cases o with
    | none => rfl
    | some t =>
      cases t with
      | od kvs =>
        cases env[j]? with
        | none => rfl
        | some o2 =>
          cases o2 with
          | none => rfl
          | some t2 =>
            cases t2 with
            | fz x =>
              dsimp only [odo, fzOf]
              unfold M.bind
              cases mk env with
              | bad => rfl
              | exn c e => rfl
              | ok d e =>
                dsimp only
                cases kTOf d with
                | none => rfl
                | some k =>
                  dsimp only [oEl]
                  by_cases h : allW kvs = true ∧ kvs.length < sizeLine
                  · rw [if_pos h]
                    cases atW k kvs with
                    | none =>
                      dsimp only [Option.isSome]
                      rw [if_neg (by decide)]
                      cases gSetW (.od kvs) [.fz d, .ol [.fz x]] with
                      | none => exact propext ⟨fun q => q.elim, fun q => q.2⟩
                      | some r => exact propext ⟨fun q => ⟨h, q⟩, fun q => q.2⟩
                    | some t0 =>
                      dsimp only [Option.isSome]
                      rw [if_pos rfl]
                      cases gAtW k gApp (.od kvs) [.fz x] with
                      | none => exact propext ⟨fun q => q.elim, fun q => q.2⟩
                      | some r => exact propext ⟨fun q => ⟨h, q⟩, fun q => q.2⟩
                  · rw [if_neg h]
                    exact propext ⟨fun q => q.elim, fun q => h q.1⟩
            | _ => rfl
      | _ => rfl
end
theorem two_c {t u : T} {f : T → T → Prop} : two? [t, u] f = f t u := rfl
theorem three_c {t u v : T} {f : T → T → T → Prop} : three? [t, u, v] f = f t u v := rfl
/-- the rules, in one -/
theorem ok_get3 {ma mb mc : M D} {env : Env} {Q : D → Env → Prop} : Ok (mGet3 ma mb mc) env Q = Ok ma env fun x e => oEl (dDicW x) fun _ => Ok mb e fun y e => Ok mc e fun z e => oEl (dGet3 x y z) fun r => Q r e := by
  unfold mGet3
  simp only [ok_bind, ok_lift]
def oks := And.intro @ok_pure <| And.intro @ok_bind <| And.intro @ok_map <| And.intro @ok_lift <| And.intro @ok_m2 <| And.intro @ok_m1 <| And.intro @ok_mL <| And.intro @ok_mLT <| And.intro @ok_mI <| And.intro @ok_mIL <| And.intro @ok_nil <| And.intro @ok_cons <| And.intro @ok_star <| And.intro @ok_nilT <| And.intro @ok_consT <| And.intro @ok_C <| And.intro @ok_var <| And.intro @ok_varF <| And.intro @ok_varZ <| And.intro @ok_out <| And.intro @ok_tru <| And.intro @ok_bl <| And.intro @ok_and <| And.intro @ok_or <| And.intro @ok_not <| And.intro @ok_vand <| And.intro @ok_vor <| And.intro @ok_vnot <| And.intro @ok_if <| And.intro @ok_ifS <| And.intro @ok_seq <| And.intro @ok_nx <| And.intro @ok_rt <| And.intro @ok_drop <| And.intro @ok_set <| And.intro @ok_par <| And.intro @ok_par3 <| And.intro @ok_asg <| And.intro @ok_fl <| And.intro @ok_Bd <| And.intro @ok_slV <| And.intro @ok_sl <| And.intro @ok_hasI <| And.intro @ok_call <| And.intro @ok_callB <| And.intro @ok_meth <| And.intro @ok_stA <| And.intro @ok_store <| And.intro @ok_augN <| And.intro @ok_frz <| And.intro @ok_dic0 <| And.intro @ok_forN <| And.intro @ok_forC <| And.intro @ok_items <| And.intro @ok_catE <| And.intro @ok_slE <| And.intro @ok_stK <| And.intro @ok_storeK <| And.intro @ok_noX <| And.intro @ok_Ks <| And.intro @ok_thawD <| And.intro @ok_thawO <| And.intro @ok_methAtT <| And.intro @ok_getO <| And.intro @ok_augB <| And.intro @ok_augW <| And.intro @ok_setApp <| @ok_if
def oks2 := And.intro @ok_get3 <| And.intro @two_c <| And.intro @three_c <| And.intro @dct_d <| And.intro @odo_d <| And.intro @fzs_fz <| And.intro @oEl_some <| And.intro @slot_some <| And.intro @fzOf_fz <| And.intro @nxt_nx <| And.intro @nxt_rt <| And.intro @turnOn_nx <| And.intro @turnOn_rt <| And.intro @flT_nx <| And.intro @flT_rt <| And.intro @bol_b <| And.intro @T.erL_fz <| And.intro @erL_nil <| And.intro @erL_cons <| And.intro @boxy_ol <| And.intro @boxy_od <| And.intro @flat_str <| And.intro @flat_int <| And.intro @true_and <| And.intro @true_or <| And.intro @List.getElem?_cons_zero.{0} <| And.intro @List.getElem?_cons_succ.{0} <| And.intro @List.set_cons_zero.{0} <| And.intro @List.set_cons_succ.{0} <| And.intro @List.map_cons.{0, 0} <| And.intro @List.map_nil.{0, 0} <| And.intro @List.cons_append.{0} <| And.intro @List.nil_append.{0} <| @List.append_nil.{0}
end DL
namespace DL
open PySem L2 PyProof.Rows
def top (i : Nat) : Stmt := PySem.Challenge.pw_unwaited_k24_tables_of_any_integers.main.body.getD i (.Pass ⟨0, 0, 0, 0⟩)
/-! ### is_integer -/
abbrev s_is_integer : Stmt := top 1
abbrev N_is_integer : List Str := ["thing"]
theorem sc_is_integer : FnScope N_is_integer ["thing"] (defScope s_is_integer) := ⟨rfl, rfl, rfl, by decide +kernel, rfl, by decide +kernel, by decide +kernel⟩
noncomputable def m_is_integer : M Fl := mRt ((vAnd (m1 (dIsi "int") (mVarF 0)) (vNot (m1 (dIsi "bool") (mVarF 0)))).map T.fz)
noncomputable def sem_is_integer : Sem := semOf [] 0 m_is_integer
structure U_is_integer (P : Program) (w : World) (K : Frg) (mg : Str → Option Value) (base : Heap) : Prop where
  n_isinstance : mg "isinstance" = none
  n_int : mg "int" = none
  n_bool : mg "bool" = none
theorem ok_is_integer {P : Program} {w : World} {K : Frg} {mg : Str → Option Value} {base : Heap} {f : Addr} {fd : FuncData} (F : Fun K "is_integer" "is_integer" s_is_integer f fd) (T : U_is_integer P w K mg base) : FnG P w K mg base 1 f fd ["thing"] (spD K mg 1 sem_is_integer) :=
  def_of F sc_is_integer fun cdv A outer s H E room => by
    have nd := (sc_is_integer).nd
    have hu7 := hu7_of room; have hu4 := hu4_of room; have hu5 := hu5_of room; have tk := tk_of (P := P) (w := w) (K := K) (mg := mg) (base := base) (N := N_is_integer) (qual := "is_integer") (sc := defScope s_is_integer) f cdv A outer s H E
    have pz := ps_of (P := P) (w := w) (K := K) (mg := mg) (base := base) (N := N_is_integer) (qual := "is_integer") (sc := defScope s_is_integer) f cdv A outer s H E
    exact (ss_one (s_ret (Ex.own (x_and (b_isi kit_int rfl T.n_isinstance (n_ty rfl T.n_int rfl) (ef_name (pv 0))) (x_one (x_not (b_isi kit_bool rfl T.n_isinstance (n_ty rfl T.n_bool rfl) (ef_name (pv 0)))))))))
/-! ### is_count -/
abbrev s_is_count : Stmt := top 2
abbrev N_is_count : List Str := ["thing"]
theorem sc_is_count : FnScope N_is_count ["thing"] (defScope s_is_count) := ⟨rfl, rfl, rfl, by decide +kernel, rfl, by decide +kernel, by decide +kernel⟩
noncomputable def m_is_count : M Fl := mRt ((vAnd ((mCall sem_is_integer (mCons (mVarF 0) (mNil))).map T.er) (m2 dGe (mVarF 0) (mC (.int 0)))).map T.fz)
noncomputable def sem_is_count : Sem := semOf [] 0 m_is_count
structure U_is_count (P : Program) (w : World) (K : Frg) (mg : Str → Option Value) (base : Heap) : Prop where
  d_is_integer : Def P w K mg base "is_integer" 1 1 sem_is_integer
theorem ok_is_count {P : Program} {w : World} {K : Frg} {mg : Str → Option Value} {base : Heap} {f : Addr} {fd : FuncData} (F : Fun K "is_count" "is_count" s_is_count f fd) (T : U_is_count P w K mg base) : FnG P w K mg base 2 f fd ["thing"] (spD K mg 1 sem_is_count) :=
  def_of F sc_is_count fun cdv A outer s H E room => by
    have nd := (sc_is_count).nd
    have hu7 := hu7_of room; have hu4 := hu4_of room; have hu5 := hu5_of room; have tk := tk_of (P := P) (w := w) (K := K) (mg := mg) (base := base) (N := N_is_count) (qual := "is_count") (sc := defScope s_is_count) f cdv A outer s H E
    have pz := ps_of (P := P) (w := w) (K := K) (mg := mg) (base := base) (N := N_is_count) (qual := "is_count") (sc := defScope s_is_count) f cdv A outer s H E
    exact (ss_one (s_ret (Ex.own (x_and (Eo.freeze (o_call T.d_is_integer (room.mono (by decide)) tk (by rfl) (ea_cons (ef_name (pv 0)) (ea_nil)) (hn := ln_cons (ln_nil)))) (x_one (x_ge (ef_name (pv 0)) (ex_int)))))))
/-! ### _law_bag -/
abbrev s__law_bag : Stmt := top 14
abbrev N__law_bag : List Str := ["script", "cell"]
theorem sc__law_bag : FnScope N__law_bag ["script"] (defScope s__law_bag) := ⟨rfl, rfl, rfl, by decide +kernel, rfl, by decide +kernel, by decide +kernel⟩
noncomputable def m__law_bag : M Fl := mRt (mLT tLstO (mConsT ((mC (.int 0)).map T.fz) (mConsT ((mC (.int 1234567891)).map T.fz) (mConsT ((mC (.int 0)).map T.fz) (mConsT ((mI seqD (mSlV (mVarF 0) (M.pure none) (mBd (mC (.int 63))))).bind (mLc [1] (gN 1) (M.pure true) ((mL dAbs (mCons (mVarF 1) (mNil))).map T.fz))) (mNilT))))))
noncomputable def sem__law_bag : Sem := semOf [] 1 m__law_bag
structure U__law_bag (P : Program) (w : World) (K : Frg) (mg : Str → Option Value) (base : Heap) : Prop where
  n_abs : mg "abs" = none
theorem ok__law_bag {P : Program} {w : World} {K : Frg} {mg : Str → Option Value} {base : Heap} {f : Addr} {fd : FuncData} (F : Fun K "_law_bag" "_law_bag" s__law_bag f fd) (T : U__law_bag P w K mg base) : FnG P w K mg base 1 f fd ["script"] (spD K mg 1 sem__law_bag) :=
  def_of F sc__law_bag fun cdv A outer s H E room => by
    have nd := (sc__law_bag).nd
    have hu7 := hu7_of room; have hu4 := hu4_of room; have hu5 := hu5_of room; have tk := tk_of (P := P) (w := w) (K := K) (mg := mg) (base := base) (N := N__law_bag) (qual := "_law_bag") (sc := defScope s__law_bag) f cdv A outer s H E
    have pz := ps_of (P := P) (w := w) (K := K) (mg := mg) (base := base) (N := N__law_bag) (qual := "_law_bag") (sc := defScope s__law_bag) f cdv A outer s H E
    exact (ss_one (s_ret (o_lstO (ey_cons (Ex.own (ex_int)) (ey_cons (Ex.own (ex_int)) (ey_cons (Ex.own (ex_int)) (ey_cons (o_lc (own := [("cell", 1)]) rfl nd (i_seq (x_slice (ef_name (pv 0)) (eb_none) (eb_some (ex_int)))) (blkOk_by (N := N__law_bag) (sc := defScope s__law_bag) (by decide +kernel)) (fun _ _ _ _ _ => g_name nd rfl (.inl rfl) (others_no (by decide))) (fun _ _ _ _ _ => ets_nil) (fun _ _ _ _ _ => Ex.own (b_abs (by rfl) T.n_abs (ea_cons (ef_name (pv 1)) (ea_nil))))) (ey_nil))))))))
/-! ### _law_take -/
abbrev s__law_take : Stmt := top 15
abbrev N__law_take : List Str := ["bag", "many", "begin", "second", "cell", "stirred", "value"]
theorem sc__law_take : FnScope N__law_take ["bag", "many"] (defScope s__law_take) := ⟨rfl, rfl, rfl, by decide +kernel, rfl, by decide +kernel, by decide +kernel⟩
noncomputable def m__law_take : M Fl := mSeq (mIfS ((m2 dEqS (m2 dIx (mVar 0) (mC (.int 0))) (mC (.int 0))).bind tru) (mSeq (mSet 4 ((mFl (m2 dIx (m2 dCatV (mSlV (m2 dIx (mVar 0) (mC (.int 3))) (mBd (m2 dIx (mVar 0) (mC (.int 2)))) (M.pure none)) ((mL dLst (mCons (mC (.int 0)) (mNil))).map T.er)) (mC (.int 0)))).map T.fz))
  (mSeq (mAugL dIAdd 0 (mC (.int 2)) (mC (.int 1)))
  (mSeq (mIfS ((m2 dGe (mVarF 4) (m2 dPow (mC (.int 10)) (mC (.int 18)))).bind tru) (mStore "list" 0 gSetL ((mVarF 4).map T.fz) (mC (.int 0))) (mNx))
  (mSeq (mSet 5 ((m2 dAdd (m2 dAdd (m2 dMul (m2 dIx (mVar 0) (mC (.int 1))) (mC (.int 48271))) (m2 dMod (mL dInt (mCons (mVarF 4) (mNil))) (mC (.int 2147483647)))) (m2 dMul (mC (.int 7919)) (m2 dIx (mVar 0) (mC (.int 2))))).map T.fz))
  (mStore "list" 0 gSetL ((m2 dMod (mL dInt (mCons (mVarF 5) (mNil))) (mC (.int 2147483647))).map T.fz) (mC (.int 1))))))) (mNx))
  (mSeq (mIfS ((m2 dGt (m2 dIx (mVar 0) (mC (.int 0))) (mC (.int 0))).bind tru) (mSeq (mSet 6 ((m2 dMod (mL dInt (mCons (m2 dIx (mVar 0) (mC (.int 0))) (mNil))) (mVarF 1)).map T.fz))
  (mSeq (mStore "list" 0 gSetL ((m2 dDiv (mL dInt (mCons (m2 dIx (mVar 0) (mC (.int 0))) (mNil))) (mVarF 1)).map T.fz) (mC (.int 0)))
  (mRt ((mVarF 6).map T.fz)))) (mNx))
  (mSeq (mSet 2 ((m2 dMod (mL dInt (mCons (m2 dMul (m2 dAdd (m2 dIx (mVar 0) (mC (.int 1))) (mC (.int 1))) (mC (.int 39373))) (mNil))) (mC (.int 1000000007))).map T.fz))
  (mSeq (mSet 3 ((m2 dMod (mL dInt (mCons (m2 dMul (m2 dMod (mL dInt (mCons (m2 dMul (mVarF 2) (mVarF 2)) (mNil))) (mC (.int 998244353))) (mC (.int 30011))) (mNil))) (mC (.int 998244353))).map T.fz))
  (mRt ((m2 dMod (mL dInt (mCons (m2 dDiv (mVarF 3) (mC (.int 7))) (mNil))) (mVarF 1)).map T.fz)))))
noncomputable def sem__law_take : Sem := semOf [0] 5 m__law_take
structure U__law_take (P : Program) (w : World) (K : Frg) (mg : Str → Option Value) (base : Heap) : Prop where
  n_int : mg "int" = none
theorem ok__law_take {P : Program} {w : World} {K : Frg} {mg : Str → Option Value} {base : Heap} {f : Addr} {fd : FuncData} (F : Fun K "_law_take" "_law_take" s__law_take f fd) (T : U__law_take P w K mg base) : FnG P w K mg base 1 f fd ["bag", "many"] (spD K mg 2 sem__law_take) :=
  def_of F sc__law_take fun cdv A outer s H E room => by
    have nd := (sc__law_take).nd
    have hu7 := hu7_of room; have hu4 := hu4_of room; have hu5 := hu5_of room; have tk := tk_of (P := P) (w := w) (K := K) (mg := mg) (base := base) (N := N__law_take) (qual := "_law_take") (sc := defScope s__law_take) f cdv A outer s H E
    have pz := ps_of (P := P) (w := w) (K := K) (mg := mg) (base := base) (N := N__law_take) (qual := "_law_take") (sc := defScope s__law_take) f cdv A outer s H E
    exact (ss_cons (s_if (t_eqS hu4 (x_ix (fun _ _ => rfl) (ev_name (pv 0)) (Ex.toView (ex_int))) (Ex.toView (ex_int))) (ss_cons (s_set nd rfl (.inl rfl) (Ex.own (Ex.fl (x_ix (fun _ _ => rfl) (x_addL (x_slice (x_ix (fun _ _ => rfl) (ev_name (pv 0)) (Ex.toView (ex_int))) (eb_some (x_ix (fun _ _ => rfl) (ev_name (pv 0)) (Ex.toView (ex_int)))) (eb_none)) (Ex.toView (Eo.freeze (o_lst (ea_cons (ex_int) (ea_nil)))))) (Ex.toView (ex_int))))))
    (ss_cons (s_augL ip_add is_iadd (pv 0) (Ex.toView (ex_int)) (Ex.toView (ex_int)))
    (ss_cons (s_if (t_ge (ef_name (pv 4)) (x_pow (ex_int) (ex_int))) (ss_one (s_store set_list ms_setL (pv 0) (Ex.toView (ex_int)) (Ex.own (ef_name (pv 4))))) (ss_nil))
    (ss_cons (s_set nd rfl (.inl rfl) (Ex.own (x_add (x_add (x_mul (x_ix (fun _ _ => rfl) (ev_name (pv 0)) (Ex.toView (ex_int))) (Ex.toView (ex_int))) (x_mod (b_int (by rfl) T.n_int (ea_cons (ef_name (pv 4)) (ea_nil))) (ex_int))) (x_mul (Ex.toView (ex_int)) (x_ix (fun _ _ => rfl) (ev_name (pv 0)) (Ex.toView (ex_int)))))))
    (ss_one (s_store set_list ms_setL (pv 0) (Ex.toView (ex_int)) (Ex.own (x_mod (b_int (by rfl) T.n_int (ea_cons (ef_name (pv 5)) (ea_nil))) (ex_int))))))))) (ss_nil))
    (ss_cons (s_if (t_gt (x_ix (fun _ _ => rfl) (ev_name (pv 0)) (Ex.toView (ex_int))) (Ex.toView (ex_int))) (ss_cons (s_set nd rfl (.inl rfl) (Ex.own (x_mod (b_int (by rfl) T.n_int (ea_cons (x_ix (fun _ _ => rfl) (ev_name (pv 0)) (Ex.toView (ex_int))) (ea_nil))) (ef_name (pv 1)))))
    (ss_cons (s_store set_list ms_setL (pv 0) (Ex.toView (ex_int)) (Ex.own (x_div (b_int (by rfl) T.n_int (ea_cons (x_ix (fun _ _ => rfl) (ev_name (pv 0)) (Ex.toView (ex_int))) (ea_nil))) (ef_name (pv 1)))))
    (ss_one (s_ret (Ex.own (ef_name (pv 6))))))) (ss_nil))
    (ss_cons (s_set nd rfl (.inl rfl) (Ex.own (x_mod (b_int (by rfl) T.n_int (ea_cons (x_mul (x_add (x_ix (fun _ _ => rfl) (ev_name (pv 0)) (Ex.toView (ex_int))) (Ex.toView (ex_int))) (Ex.toView (ex_int))) (ea_nil))) (ex_int))))
    (ss_cons (s_set nd rfl (.inl rfl) (Ex.own (x_mod (b_int (by rfl) T.n_int (ea_cons (x_mul (x_mod (b_int (by rfl) T.n_int (ea_cons (x_mul (ef_name (pv 2)) (ef_name (pv 2))) (ea_nil))) (ex_int)) (ex_int)) (ea_nil))) (ex_int))))
    (ss_one (s_ret (Ex.own (x_mod (b_int (by rfl) T.n_int (ea_cons (x_div (ef_name (pv 3)) (ex_int)) (ea_nil))) (ef_name (pv 1))))))))))
/-! ### _law_some -/
abbrev s__law_some : Stmt := top 16
abbrev N__law_some : List Str := ["bag", "things"]
theorem sc__law_some : FnScope N__law_some ["bag", "things"] (defScope s__law_some) := ⟨rfl, rfl, rfl, by decide +kernel, rfl, by decide +kernel, by decide +kernel⟩
noncomputable def m__law_some : M Fl := mRt ((m2 dIx (mVarF 1) (((mHas 0).bind fun _ => mCallB sem__law_take 0 (mCons (mL dLen (mCons (mVarF 1) (mNil))) (mNil))).map T.er)).map T.fz)
noncomputable def sem__law_some : Sem := semOf [0] 0 m__law_some
structure U__law_some (P : Program) (w : World) (K : Frg) (mg : Str → Option Value) (base : Heap) : Prop where
  n_len : mg "len" = none
  d__law_take : Def P w K mg base "_law_take" 1 2 sem__law_take
theorem ok__law_some {P : Program} {w : World} {K : Frg} {mg : Str → Option Value} {base : Heap} {f : Addr} {fd : FuncData} (F : Fun K "_law_some" "_law_some" s__law_some f fd) (T : U__law_some P w K mg base) : FnG P w K mg base 2 f fd ["bag", "things"] (spD K mg 2 sem__law_some) :=
  def_of F sc__law_some fun cdv A outer s H E room => by
    have nd := (sc__law_some).nd
    have hu7 := hu7_of room; have hu4 := hu4_of room; have hu5 := hu5_of room; have tk := tk_of (P := P) (w := w) (K := K) (mg := mg) (base := base) (N := N__law_some) (qual := "_law_some") (sc := defScope s__law_some) f cdv A outer s H E
    have pz := ps_of (P := P) (w := w) (K := K) (mg := mg) (base := base) (N := N__law_some) (qual := "_law_some") (sc := defScope s__law_some) f cdv A outer s H E
    exact (ss_one (s_ret (Ex.own (x_ix (fun _ _ => rfl) (ef_name (pv 1)) (Eo.freeze (o_callB T.d__law_take (room.mono (by decide)) tk (by rfl) (pv 0) (ea_cons (b_len (by rfl) T.n_len (ea_cons (ef_name (pv 1)) (ea_nil))) (ea_nil)) (hn := ln_cons (ln_nil))))))))
/-! ### _law_mixed -/
/-! ### _law_alike -/
abbrev s__law_alike : Stmt := top 18
abbrev N__law_alike : List Str := ["found", "due"]
theorem sc__law_alike : FnScope N__law_alike ["found", "due"] (defScope s__law_alike) := ⟨rfl, rfl, rfl, by decide +kernel, rfl, by decide +kernel, by decide +kernel⟩
noncomputable def m__law_alike : M Fl := mRt ((vAnd (m2 dEqS (mVarF 0) (mVarF 1)) (m2 dEqS (mL dRepr (mCons (mVarF 0) (mNil))) (mL dRepr (mCons (mVarF 1) (mNil))))).map T.fz)
noncomputable def sem__law_alike : Sem := semOf [] 0 m__law_alike
structure U__law_alike (P : Program) (w : World) (K : Frg) (mg : Str → Option Value) (base : Heap) : Prop where
  n_repr : mg "repr" = none
theorem ok__law_alike {P : Program} {w : World} {K : Frg} {mg : Str → Option Value} {base : Heap} {f : Addr} {fd : FuncData} (F : Fun K "_law_alike" "_law_alike" s__law_alike f fd) (T : U__law_alike P w K mg base) : FnG P w K mg base 1 f fd ["found", "due"] (spD K mg 2 sem__law_alike) :=
  def_of F sc__law_alike fun cdv A outer s H E room => by
    have nd := (sc__law_alike).nd
    have hu7 := hu7_of room; have hu4 := hu4_of room; have hu5 := hu5_of room; have tk := tk_of (P := P) (w := w) (K := K) (mg := mg) (base := base) (N := N__law_alike) (qual := "_law_alike") (sc := defScope s__law_alike) f cdv A outer s H E
    have pz := ps_of (P := P) (w := w) (K := K) (mg := mg) (base := base) (N := N__law_alike) (qual := "_law_alike") (sc := defScope s__law_alike) f cdv A outer s H E
    exact (ss_one (s_ret (Ex.own (x_and (x_eqS hu4 (ef_name (pv 0)) (ef_name (pv 1))) (x_one (x_eqS hu4 (b_repr hu7 room.gd (by rfl) T.n_repr (ea_cons (ef_name (pv 0)) (ea_nil))) (b_repr hu7 room.gd (by rfl) T.n_repr (ea_cons (ef_name (pv 1)) (ea_nil)))))))))
/-! ### _law_is_int -/
abbrev s__law_is_int : Stmt := top 19
abbrev N__law_is_int : List Str := ["thing"]
theorem sc__law_is_int : FnScope N__law_is_int ["thing"] (defScope s__law_is_int) := ⟨rfl, rfl, rfl, by decide +kernel, rfl, by decide +kernel, by decide +kernel⟩
noncomputable def m__law_is_int : M Fl := mRt ((vAnd (m1 (dIsi "int") (mVarF 0)) (vNot (m1 (dIsi "bool") (mVarF 0)))).map T.fz)
noncomputable def sem__law_is_int : Sem := semOf [] 0 m__law_is_int
structure U__law_is_int (P : Program) (w : World) (K : Frg) (mg : Str → Option Value) (base : Heap) : Prop where
  n_isinstance : mg "isinstance" = none
  n_int : mg "int" = none
  n_bool : mg "bool" = none
theorem ok__law_is_int {P : Program} {w : World} {K : Frg} {mg : Str → Option Value} {base : Heap} {f : Addr} {fd : FuncData} (F : Fun K "_law_is_int" "_law_is_int" s__law_is_int f fd) (T : U__law_is_int P w K mg base) : FnG P w K mg base 1 f fd ["thing"] (spD K mg 1 sem__law_is_int) :=
  def_of F sc__law_is_int fun cdv A outer s H E room => by
    have nd := (sc__law_is_int).nd
    have hu7 := hu7_of room; have hu4 := hu4_of room; have hu5 := hu5_of room; have tk := tk_of (P := P) (w := w) (K := K) (mg := mg) (base := base) (N := N__law_is_int) (qual := "_law_is_int") (sc := defScope s__law_is_int) f cdv A outer s H E
    have pz := ps_of (P := P) (w := w) (K := K) (mg := mg) (base := base) (N := N__law_is_int) (qual := "_law_is_int") (sc := defScope s__law_is_int) f cdv A outer s H E
    exact (ss_one (s_ret (Ex.own (x_and (b_isi kit_int rfl T.n_isinstance (n_ty rfl T.n_int rfl) (ef_name (pv 0))) (x_one (x_not (b_isi kit_bool rfl T.n_isinstance (n_ty rfl T.n_bool rfl) (ef_name (pv 0)))))))))
/-! ### _law_odd -/
abbrev s__law_odd : Stmt := top 20
abbrev N__law_odd : List Str := ["bag", "some"]
theorem sc__law_odd : FnScope N__law_odd ["bag"] (defScope s__law_odd) := ⟨rfl, rfl, rfl, by decide +kernel, rfl, by decide +kernel, by decide +kernel⟩
noncomputable def m__law_odd : M Fl := mSeq (mSet 1 (((mL dLst (mCons (mC .none) (mCons (mC (.bool true)) (mCons (mC (.bool false)) (mCons (mC (.int 0)) (mCons (mC (.int 1)) (mCons (m1 dNeg (mC (.int 1))) (mCons (mC (.int 10000)) (mCons (m2 dPow (mC (.int 10)) (mC (.int 39))) (mCons (mC (.str "")) (mCons (mC (.str "a")) (mCons (mC (.str "if")) (mCons (mL dTup (mNil)) (mCons ((mL dLst (mNil)).map T.er) (mCons ((mDic0).map T.er) (mCons (mL dTup (mCons (mC (.str "round")) (mNil))) (mCons (mL dTup (mCons (mC (.str "read")) (mCons (mC (.str "a")) (mCons (mC (.int 1)) (mNil))))) (mNil)))))))))))))))))).map T.er).map T.fz))
  (mRt ((mHas 0).bind fun _ => mCallB sem__law_some 0 (mCons ((m2 dCatL (mVarF 1) ((mL dLst (mCons (mL dTup (mCons (mC (.str "number")) (mCons (mC (.int 3)) (mNil)))) (mCons ((mL dLst (mCons (mC (.str "round")) (mNil))).map T.er) (mCons ((mDisp ((mC (.str "a"), mC (.int 1)) :: [])).map T.er) (mCons (mC (.str "a\n")) (mCons (mL dTup (mCons (mL dTup (mCons (mC (.str "a")) (mCons (mC (.int 0)) (mNil)))) (mNil))) (mCons (mL dTup (mCons (mC (.str "a")) (mCons (mC (.str "b")) (mCons (mC (.int 1)) (mNil))))) (mCons (mL dTup (mCons (mC (.int 1)) (mCons (mL dTup (mCons (mC .none) (mNil))) (mNil)))) (mNil))))))))).map T.er)).map T.er) (mNil))))
noncomputable def sem__law_odd : Sem := semOf [0] 1 m__law_odd
structure U__law_odd (P : Program) (w : World) (K : Frg) (mg : Str → Option Value) (base : Heap) : Prop where
  d__law_some : Def P w K mg base "_law_some" 2 2 sem__law_some
theorem ok__law_odd {P : Program} {w : World} {K : Frg} {mg : Str → Option Value} {base : Heap} {f : Addr} {fd : FuncData} (F : Fun K "_law_odd" "_law_odd" s__law_odd f fd) (T : U__law_odd P w K mg base) : FnG P w K mg base 3 f fd ["bag"] (spD K mg 1 sem__law_odd) :=
  def_of F sc__law_odd fun cdv A outer s H E room => by
    have nd := (sc__law_odd).nd
    have hu7 := hu7_of room; have hu4 := hu4_of room; have hu5 := hu5_of room; have tk := tk_of (P := P) (w := w) (K := K) (mg := mg) (base := base) (N := N__law_odd) (qual := "_law_odd") (sc := defScope s__law_odd) f cdv A outer s H E
    have pz := ps_of (P := P) (w := w) (K := K) (mg := mg) (base := base) (N := N__law_odd) (qual := "_law_odd") (sc := defScope s__law_odd) f cdv A outer s H E
    exact (ss_cons (s_set nd rfl (.inl rfl) (Ex.own (Eo.freeze (o_lst (ea_cons (ex_non) (ea_cons (ex_bl) (ea_cons (ex_bl) (ea_cons (ex_int) (ea_cons (ex_int) (ea_cons (x_neg (ex_int)) (ea_cons (ex_int) (ea_cons (x_pow (ex_int) (ex_int)) (ea_cons (ex_str) (ea_cons (ex_str) (ea_cons (ex_str) (ea_cons (x_tup (ea_nil)) (ea_cons (Eo.freeze (o_lst (ea_nil))) (ea_cons (Eo.freeze (o_dic0K)) (ea_cons (x_tup (ea_cons (ex_str) (ea_nil))) (ea_cons (x_tup (ea_cons (ex_str) (ea_cons (ex_str) (ea_cons (ex_int) (ea_nil))))) (ea_nil)))))))))))))))))))))
    (ss_one (s_ret (o_callB T.d__law_some (room.mono (by decide)) tk (by rfl) (pv 0) (ea_cons (Eo.freeze (o_addL (ef_name (pv 1)) (Eo.freeze (o_lst (ea_cons (x_tup (ea_cons (ex_str) (ea_cons (ex_int) (ea_nil)))) (ea_cons (Eo.freeze (o_lst (ea_cons (ex_str) (ea_nil)))) (ea_cons (Eo.freeze (o_disp (ep_cons (ex_str) (ex_int) (ep_nil)))) (ea_cons (ex_str) (ea_cons (x_tup (ea_cons (x_tup (ea_cons (ex_str) (ea_cons (ex_int) (ea_nil)))) (ea_nil))) (ea_cons (x_tup (ea_cons (ex_str) (ea_cons (ex_str) (ea_cons (ex_int) (ea_nil))))) (ea_cons (x_tup (ea_cons (ex_int) (ea_cons (x_tup (ea_cons (ex_non) (ea_nil))) (ea_nil)))) (ea_nil)))))))))))) (ea_nil)) (hn := ln_cons (ln_nil))))))
/-! ### _law_bent -/
abbrev s__law_bent : Stmt := top 21
abbrev N__law_bent : List Str := ["bag", "thing", "deep", "way", "at", "items", "key", "value", "menu", "some"]
theorem sc__law_bent : FnScope N__law_bent ["bag", "thing", "deep"] (defScope s__law_bent) := ⟨rfl, rfl, rfl, by decide +kernel, rfl, by decide +kernel, by decide +kernel⟩
noncomputable def m__law_bent (self : Sem) : M Fl := mSeq (mIfS (tOrM ((m2 dEqS (mVarF 2) (mC (.int 0))).bind tru) ((m2 dEqS (((mHas 0).bind fun _ => mCallB sem__law_take 0 (mCons (mC (.int 9)) (mNil))).map T.er) (mC (.int 0))).bind tru)) (mRt ((mHas 0).bind fun _ => mCallB sem__law_odd 0 (mNil))) (mNx))
  (mSeq (mIfS (((mCall sem__law_is_int (mCons (mVarF 1) (mNil))).map T.er).bind tru) (mRt ((mHas 0).bind fun _ => mCallB sem__law_some 0 (mCons ((mL dLst (mCons (m2 dAdd (mVarF 1) (mC (.int 1))) (mCons (m2 dSub (mVarF 1) (mC (.int 1))) (mCons (mC (.int 0)) (mCons (m1 dNeg (mVarF 1)) (mCons (m2 dEqS (mVarF 1) (mC (.int 1))) (mCons (mC .none) (mCons (m2 dSub (mC (.int 10000)) (mVarF 1)) (mCons (mL dStrA (mCons (mVarF 1) (mNil))) (mNil)))))))))).map T.er) (mNil)))) (mNx))
  (mSeq (mIfS (tAndM ((m1 (dIsi "dict") (mVarF 1)).bind tru) ((m2 dNe (mVarF 1) ((mDic0).map T.er)).bind tru)) (mBad) (mNx))
  (mSeq (mIfS ((m1 (dIsi "str") (mVarF 1)).bind tru) (mRt ((mHas 0).bind fun _ => mCallB sem__law_some 0 (mCons ((mL dLst (mCons (m2 dAdd (mVarF 1) (mC (.str "a"))) (mCons (mSlV (mVarF 1) (mBd (mC (.int 1))) (M.pure none)) (mCons (m2 dAdd (mVarF 1) (mC (.str "1"))) (mCons (m1 dUpper (mVarF 1)) (mCons (mC (.str "if")) (mCons (m2 dRepS (mVarF 1) (mC (.int 12))) (mCons (mC (.str "wait")) (mCons (m2 dAdd (mVarF 1) (mC (.str "\n"))) (mNil)))))))))).map T.er) (mNil)))) (mNx))
  (mSeq (mIfS (tOrM (tNotM ((m1 (dIsi "tuple") (mVarF 1)).bind tru)) ((m2 dEqS (mVarF 1) (mL dTup (mNil))).bind tru)) (mRt ((mHas 0).bind fun _ => mCallB sem__law_odd 0 (mNil))) (mNx))
  (mSeq (mPar 3 4 (mConsT ((((mHas 0).bind fun _ => mCallB sem__law_take 0 (mCons (mC (.int 9)) (mNil))).map T.er).map T.fz) (mConsT ((((mHas 0).bind fun _ => mCallB sem__law_take 0 (mCons (mL dLen (mCons (mVarF 1) (mNil))) (mNil))).map T.er).map T.fz) (mNilT))))
  (mSeq (mIfS ((m2 dEqS (mVarF 3) (mC (.int 0))).bind tru) (mSeq (mSet 9 (((mL dLst (mCons ((mL dList (mCons (mVarF 1) (mNil))).map T.er) (mCons (m1 dRev (mVarF 1)) (mCons (m2 dAdd (mSlV (mVarF 1) (M.pure none) (mBd (mVarF 4))) (mSlV (mVarF 1) (mBd (m2 dAdd (mVarF 4) (mC (.int 1)))) (M.pure none))) (mCons (m2 dAdd (mSlV (mVarF 1) (M.pure none) (mBd (m2 dAdd (mVarF 4) (mC (.int 1))))) (mSlV (mVarF 1) (mBd (mVarF 4)) (M.pure none))) (mNil)))))).map T.er).map T.fz))
  (mRt ((mHas 0).bind fun _ => mCallB sem__law_some 0 (mCons ((m2 dCatL (mVarF 9) ((mL dLst (mCons (m2 dAdd (mVarF 1) (mL dTup (mCons (mC .none) (mNil)))) (mNil))).map T.er)).map T.er) (mNil))))) (mNx))
  (mRt ((m2 dAdd (m2 dAdd (mSlV (mVarF 1) (M.pure none) (mBd (mVarF 4))) (mL dTup (mCons (((mHas 0).bind fun _ => mCallB self 0 (mCons (m2 dIx (mVarF 1) (mVarF 4)) (mCons (m2 dSub (mVarF 2) (mC (.int 1))) (mNil)))).map T.er) (mNil)))) (mSlV (mVarF 1) (mBd (m2 dAdd (mVarF 4) (mC (.int 1)))) (M.pure none))).map T.fz))))))))
noncomputable def sem__law_bent : Nat → Sem
  | 0 => fun _ => .bad
  | n + 1 => semOf [0] 7 (m__law_bent (sem__law_bent n))
structure U__law_bent (P : Program) (w : World) (K : Frg) (mg : Str → Option Value) (base : Heap) : Prop where
  n_str : mg "str" = none
  n_isinstance : mg "isinstance" = none
  n_dict : mg "dict" = none
  n_tuple : mg "tuple" = none
  n_len : mg "len" = none
  n_list : mg "list" = none
  d__law_take : Def P w K mg base "_law_take" 1 2 sem__law_take
  d__law_odd : Def P w K mg base "_law_odd" 3 1 sem__law_odd
  d__law_is_int : Def P w K mg base "_law_is_int" 1 1 sem__law_is_int
  d__law_some : Def P w K mg base "_law_some" 2 2 sem__law_some
theorem ok__law_bent {P : Program} {w : World} {K : Frg} {mg : Str → Option Value} {base : Heap} {f : Addr} {fd : FuncData} (F : Fun K "_law_bent" "_law_bent" s__law_bent f fd) (T : U__law_bent P w K mg base) {k : Nat} (hk : 4 ≤ k) {self : Sem} (Dself : Def P w K mg base "_law_bent" k 3 self) : FnG P w K mg base (k + 1) f fd ["bag", "thing", "deep"] (spD K mg 3 (semOf [0] 7 (m__law_bent self))) :=
  def_of F sc__law_bent fun cdv A outer s H E room => by
    have nd := (sc__law_bent).nd
    have hu7 := hu7_of room; have hu4 := hu4_of room; have hu5 := hu5_of room; have tk := tk_of (P := P) (w := w) (K := K) (mg := mg) (base := base) (N := N__law_bent) (qual := "_law_bent") (sc := defScope s__law_bent) f cdv A outer s H E
    have pz := ps_of (P := P) (w := w) (K := K) (mg := mg) (base := base) (N := N__law_bent) (qual := "_law_bent") (sc := defScope s__law_bent) f cdv A outer s H E
    exact (ss_cons (s_if (Ew.pt (w_or (t_eqS hu4 (ef_name (pv 2)) (ex_int)) (w_or1 (t_eqS hu4 (Eo.freeze (o_callB T.d__law_take (room.mono (Nat.le_trans (by decide) hk)) tk (by rfl) (pv 0) (ea_cons (ex_int) (ea_nil)) (hn := ln_cons (ln_nil)))) (ex_int))))) (ss_one (s_ret (o_callB T.d__law_odd (room.mono (Nat.le_trans (by decide) hk)) tk (by rfl) (pv 0) (ea_nil) (hn := ln_nil)))) (ss_nil))
    (ss_cons (s_if (et_val (Eo.freeze (o_call T.d__law_is_int (room.mono (Nat.le_trans (by decide) hk)) tk (by rfl) (ea_cons (ef_name (pv 1)) (ea_nil)) (hn := ln_cons (ln_nil))))) (ss_one (s_ret (o_callB T.d__law_some (room.mono (Nat.le_trans (by decide) hk)) tk (by rfl) (pv 0) (ea_cons (Eo.freeze (o_lst (ea_cons (x_add (ef_name (pv 1)) (ex_int)) (ea_cons (x_sub (ef_name (pv 1)) (ex_int)) (ea_cons (ex_int) (ea_cons (x_neg (ef_name (pv 1))) (ea_cons (x_eqS hu4 (ef_name (pv 1)) (ex_int)) (ea_cons (ex_non) (ea_cons (x_sub (ex_int) (ef_name (pv 1))) (ea_cons (b_strA (by rfl) T.n_str (ea_cons (ef_name (pv 1)) (ea_nil))) (ea_nil))))))))))) (ea_nil)) (hn := ln_cons (ln_nil))))) (ss_nil))
    (ss_cons (s_if (Ew.pt (w_and (et_val (b_isi kit_dict rfl T.n_isinstance (n_ty rfl T.n_dict rfl) (ef_name (pv 1)))) (w_and1 (t_ne hu4 (ef_name (pv 1)) (Eo.freeze (o_dic0K)))))) (ss_bad) (ss_nil))
    (ss_cons (s_if (et_val (b_isi kit_str rfl T.n_isinstance (n_ty rfl T.n_str rfl) (ef_name (pv 1)))) (ss_one (s_ret (o_callB T.d__law_some (room.mono (Nat.le_trans (by decide) hk)) tk (by rfl) (pv 0) (ea_cons (Eo.freeze (o_lst (ea_cons (x_add (ef_name (pv 1)) (ex_str)) (ea_cons (x_slice (ef_name (pv 1)) (eb_some (ex_int)) (eb_none)) (ea_cons (x_add (ef_name (pv 1)) (ex_str)) (ea_cons (x_upper (ef_name (pv 1))) (ea_cons (ex_str) (ea_cons (x_repS (ef_name (pv 1)) (ex_int)) (ea_cons (ex_str) (ea_cons (x_add (ef_name (pv 1)) (ex_str)) (ea_nil))))))))))) (ea_nil)) (hn := ln_cons (ln_nil))))) (ss_nil))
    (ss_cons (s_if (Ew.pt (w_or (t_not (et_val (b_isi kit_tuple rfl T.n_isinstance (n_ty rfl T.n_tuple rfl) (ef_name (pv 1))))) (w_or1 (t_eqS hu4 (ef_name (pv 1)) (x_tup (ea_nil)))))) (ss_one (s_ret (o_callB T.d__law_odd (room.mono (Nat.le_trans (by decide) hk)) tk (by rfl) (pv 0) (ea_nil) (hn := ln_nil)))) (ss_nil))
    (ss_cons (s_par rfl nd rfl rfl (by decide) rfl rfl (ey_cons (Ex.own (Eo.freeze (o_callB T.d__law_take (room.mono (Nat.le_trans (by decide) hk)) tk (by rfl) (pv 0) (ea_cons (ex_int) (ea_nil)) (hn := ln_cons (ln_nil))))) (ey_cons (Ex.own (Eo.freeze (o_callB T.d__law_take (room.mono (Nat.le_trans (by decide) hk)) tk (by rfl) (pv 0) (ea_cons (b_len (by rfl) T.n_len (ea_cons (ef_name (pv 1)) (ea_nil))) (ea_nil)) (hn := ln_cons (ln_nil))))) (ey_nil))) rfl)
    (ss_cons (s_if (t_eqS hu4 (ef_name (pv 3)) (ex_int)) (ss_cons (s_set nd rfl (.inl rfl) (Ex.own (Eo.freeze (o_lst (ea_cons (Eo.freeze (b_list (by rfl) T.n_list (ea_cons (ef_name (pv 1)) (ea_nil)))) (ea_cons (x_rev (ef_name (pv 1))) (ea_cons (x_add (x_slice (ef_name (pv 1)) (eb_none) (eb_some (ef_name (pv 4)))) (x_slice (ef_name (pv 1)) (eb_some (x_add (ef_name (pv 4)) (ex_int))) (eb_none))) (ea_cons (x_add (x_slice (ef_name (pv 1)) (eb_none) (eb_some (x_add (ef_name (pv 4)) (ex_int)))) (x_slice (ef_name (pv 1)) (eb_some (ef_name (pv 4))) (eb_none))) (ea_nil)))))))))
    (ss_one (s_ret (o_callB T.d__law_some (room.mono (Nat.le_trans (by decide) hk)) tk (by rfl) (pv 0) (ea_cons (Eo.freeze (o_addL (ef_name (pv 9)) (Eo.freeze (o_lst (ea_cons (x_add (ef_name (pv 1)) (x_tup (ea_cons (ex_non) (ea_nil)))) (ea_nil)))))) (ea_nil)) (hn := ln_cons (ln_nil)))))) (ss_nil))
    (ss_one (s_ret (Ex.own (x_add (x_add (x_slice (ef_name (pv 1)) (eb_none) (eb_some (ef_name (pv 4)))) (x_tup (ea_cons (Eo.freeze (o_callB Dself room tk (by rfl) (pv 0) (ea_cons (x_ix (fun _ _ => rfl) (ef_name (pv 1)) (ef_name (pv 4))) (ea_cons (x_sub (ef_name (pv 2)) (ex_int)) (ea_nil))) (hn := ln_cons (ln_cons (ln_nil))))) (ea_nil)))) (x_slice (ef_name (pv 1)) (eb_some (x_add (ef_name (pv 4)) (ex_int))) (eb_none)))))))))))))
theorem def__law_bent {P : Program} {w : World} {K : Frg} {mg : Str → Option Value} {base : Heap} {f : Addr} {fd : FuncData} (a : mg "_law_bent" = some (.ref f)) (kp : PySem.W.keepIn K (.ref f) = true) (b : Binds K fd ["bag", "thing", "deep"] []) (F : Fun K "_law_bent" "_law_bent" s__law_bent f fd) (T : U__law_bent P w K mg base) : ∀ n, Def P w K mg base "_law_bent" (4 + n) 3 (sem__law_bent n)
  | 0 => ⟨_, _, _, a, kp, b, rfl, fnG_bad⟩
  | n + 1 => ⟨_, _, _, a, kp, b, rfl, ok__law_bent F T (Nat.le_add_right 4 n) (def__law_bent a kp b F T n)⟩
/-! ### common_divisor -/
abbrev s_common_divisor : Stmt := top 4
abbrev N_common_divisor : List Str := ["one", "other"]
theorem sc_common_divisor : FnScope N_common_divisor ["one", "other"] (defScope s_common_divisor) := ⟨rfl, rfl, rfl, by decide +kernel, rfl, by decide +kernel, by decide +kernel⟩
noncomputable def m_common_divisor : M Fl := mSeq (mPar 0 1 (mConsT ((mL dAbs (mCons (mVarF 0) (mNil))).map T.fz) (mConsT ((mL dAbs (mCons (mVarF 1) (mNil))).map T.fz) (mNilT))))
  (mSeq (mWh ((m2 dNe (mVarF 1) (mC (.int 0))).bind tru) (mPar 0 1 (mConsT ((mVarF 1).map T.fz) (mConsT ((m2 dMod (mVarF 0) (mVarF 1)).map T.fz) (mNilT)))))
  (mRt ((mVarF 0).map T.fz)))
noncomputable def sem_common_divisor : Sem := semOf [] 0 m_common_divisor
structure U_common_divisor (P : Program) (w : World) (K : Frg) (mg : Str → Option Value) (base : Heap) : Prop where
  n_abs : mg "abs" = none
theorem ok_common_divisor {P : Program} {w : World} {K : Frg} {mg : Str → Option Value} {base : Heap} {f : Addr} {fd : FuncData} (F : Fun K "common_divisor" "common_divisor" s_common_divisor f fd) (T : U_common_divisor P w K mg base) : FnG P w K mg base 1 f fd ["one", "other"] (spD K mg 2 sem_common_divisor) :=
  def_of F sc_common_divisor fun cdv A outer s H E room => by
    have nd := (sc_common_divisor).nd
    have hu7 := hu7_of room; have hu4 := hu4_of room; have hu5 := hu5_of room; have tk := tk_of (P := P) (w := w) (K := K) (mg := mg) (base := base) (N := N_common_divisor) (qual := "common_divisor") (sc := defScope s_common_divisor) f cdv A outer s H E
    have pz := ps_of (P := P) (w := w) (K := K) (mg := mg) (base := base) (N := N_common_divisor) (qual := "common_divisor") (sc := defScope s_common_divisor) f cdv A outer s H E
    exact (ss_cons (s_par rfl nd rfl rfl (by decide) rfl rfl (ey_cons (Ex.own (b_abs (by rfl) T.n_abs (ea_cons (ef_name (pv 0)) (ea_nil)))) (ey_cons (Ex.own (b_abs (by rfl) T.n_abs (ea_cons (ef_name (pv 1)) (ea_nil)))) (ey_nil))) rfl)
    (ss_cons (s_while pz (t_ne hu4 (ef_name (pv 1)) (ex_int)) (ss_one (s_par rfl nd rfl rfl (by decide) rfl rfl (ey_cons (Ex.own (ef_name (pv 1))) (ey_cons (Ex.own (x_mod (ef_name (pv 0)) (ef_name (pv 1)))) (ey_nil))) rfl)))
    (ss_one (s_ret (Ex.own (ef_name (pv 0)))))))
/-! ### is_rising -/
abbrev s_is_rising : Stmt := top 6
abbrev N_is_rising : List Str := ["thing", "below", "one", "other", "number"]
theorem sc_is_rising : FnScope N_is_rising ["thing", "below"] (defScope s_is_rising) := ⟨rfl, rfl, rfl, by decide +kernel, rfl, by decide +kernel, by decide +kernel⟩
noncomputable def m_is_rising : M Fl := mSeq (mIfS (tOrM (tNotM ((m1 (dIsi "tuple") (mVarF 0)).bind tru)) (tNotM ((mL dAll (mCons (((mI seqD (mVarF 0)).bind (mLc [4] (gN 4) (M.pure true) ((vAnd ((mCall sem_is_count (mCons (mVarF 4) (mNil))).map T.er) (m2 dLt (mVarF 4) (mVarF 1))).map T.fz))).map T.er) (mNil))).bind tru))) (mRt ((mC (.bool false)).map T.fz)) (mNx))
  (mRt ((mL dAll (mCons (((mIL dZip (mCons (mVarF 0) (mCons (mSlV (mVarF 0) (mBd (mC (.int 1))) (M.pure none)) (mNil)))).bind (mLc [2, 3] (gT 2 (gCons' (gN 2) (gCons' (gN 3) (gNil')))) (M.pure true) ((m2 dLt (mVarF 2) (mVarF 3)).map T.fz))).map T.er) (mNil))).map T.fz))
noncomputable def sem_is_rising : Sem := semOf [] 3 m_is_rising
structure U_is_rising (P : Program) (w : World) (K : Frg) (mg : Str → Option Value) (base : Heap) : Prop where
  n_isinstance : mg "isinstance" = none
  n_tuple : mg "tuple" = none
  n_all : mg "all" = none
  n_zip : mg "zip" = none
  d_is_count : Def P w K mg base "is_count" 2 1 sem_is_count
theorem ok_is_rising {P : Program} {w : World} {K : Frg} {mg : Str → Option Value} {base : Heap} {f : Addr} {fd : FuncData} (F : Fun K "is_rising" "is_rising" s_is_rising f fd) (T : U_is_rising P w K mg base) : FnG P w K mg base 3 f fd ["thing", "below"] (spD K mg 2 sem_is_rising) :=
  def_of F sc_is_rising fun cdv A outer s H E room => by
    have nd := (sc_is_rising).nd
    have hu7 := hu7_of room; have hu4 := hu4_of room; have hu5 := hu5_of room; have tk := tk_of (P := P) (w := w) (K := K) (mg := mg) (base := base) (N := N_is_rising) (qual := "is_rising") (sc := defScope s_is_rising) f cdv A outer s H E
    have pz := ps_of (P := P) (w := w) (K := K) (mg := mg) (base := base) (N := N_is_rising) (qual := "is_rising") (sc := defScope s_is_rising) f cdv A outer s H E
    exact (ss_cons (s_if (Ew.pt (w_or (t_not (et_val (b_isi kit_tuple rfl T.n_isinstance (n_ty rfl T.n_tuple rfl) (ef_name (pv 0))))) (w_or1 (t_not (et_val (b_all (by rfl) (by rfl) T.n_all (ea_cons (Eo.freeze (o_lc (own := [("number", 4)]) rfl nd (i_seq (ef_name (pv 0))) (blkOk_by (N := N_is_rising) (sc := defScope s_is_rising) (by decide +kernel)) (fun _ _ _ _ _ => g_name nd rfl (.inl rfl) (others_no (by decide))) (fun _ _ _ _ _ => ets_nil) (fun _ _ _ _ _ => Ex.own (x_and (Eo.freeze (o_call T.d_is_count (room.mono (by decide)) takes0 (by rfl) (ea_cons (ef_name (pv 4)) (ea_nil)) (hn := ln_cons (ln_nil)))) (x_one (x_lt (ef_name (pv 4)) (ef_name (pv 1)))))))) (ea_nil)))))))) (ss_one (s_ret (Ex.own (ex_bl)))) (ss_nil))
    (ss_one (s_ret (Ex.own (b_all (by rfl) (by rfl) T.n_all (ea_cons (Eo.freeze (o_lc (own := [("one", 2), ("other", 3)]) rfl nd (i_zip (by rfl) T.n_zip (ea_cons (ef_name (pv 0)) (ea_cons (x_slice (ef_name (pv 0)) (eb_some (ex_int)) (eb_none)) (ea_nil)))) (blkOk_by (N := N_is_rising) (sc := defScope s_is_rising) (by decide +kernel)) (fun _ _ _ _ _ => g_tup rfl (gs_cons (g_name nd rfl (.inl rfl) (others_no (by decide))) (gs_cons (g_name nd rfl (.inl rfl) (others_no (by decide))) (gs_nil)))) (fun _ _ _ _ _ => ets_nil) (fun _ _ _ _ _ => Ex.own (x_lt (ef_name (pv 2)) (ef_name (pv 3)))))) (ea_nil)))))))
/-! ### is_table -/
abbrev s_is_table : Stmt := top 7
abbrev N_is_table : List Str := ["thing", "numbers", "begin", "modulus", "remainders", "times", "step", "one"]
theorem sc_is_table : FnScope N_is_table ["thing"] (defScope s_is_table) := ⟨rfl, rfl, rfl, by decide +kernel, rfl, by decide +kernel, by decide +kernel⟩
noncomputable def m_is_table : M Fl := mSeq (mIfS (tOrM (tNotM ((m1 (dIsi "tuple") (mVarF 0)).bind tru)) (tOrM ((m2 dNe (mL dLen (mCons (mVarF 0) (mNil))) (mC (.int 4))).bind tru) (tOrM (tNotM (((mCall sem_is_count (mCons (m2 dIx (mVarF 0) (mC (.int 1))) (mNil))).map T.er).bind tru)) (tNotM (((mCall sem_is_count (mCons (m2 dIx (mVarF 0) (mC (.int 2))) (mNil))).map T.er).bind tru))))) (mRt ((mC (.bool false)).map T.fz)) (mNx))
  (mSeq (mIfS (tOrM ((m2 dEqS (m2 dIx (mVarF 0) (mC (.int 2))) (mC (.int 0))).bind tru) (tOrM (tNotM (((mCall sem_is_rising (mCons (m2 dIx (mVarF 0) (mC (.int 0))) (mCons (m2 dIx (mVarF 0) (mC (.int 1))) (mNil)))).map T.er).bind tru)) (tNotM (((mCall sem_is_rising (mCons (m2 dIx (mVarF 0) (mC (.int 3))) (mCons (m2 dIx (mVarF 0) (mC (.int 2))) (mNil)))).map T.er).bind tru)))) (mRt ((mC (.bool false)).map T.fz)) (mNx))
  (mSeq (mAsg ((mVarF 0).map T.fz) (gT 4 (gCons' (gN 1) (gCons' (gN 2) (gCons' (gN 3) (gCons' (gN 4) (gNil')))))))
  (mSeq (mIfS (tAndM ((m2 dEqS (mVarF 4) (mL dTup (mNil))).bind tru) ((m2 dGt (mVarF 3) (mC (.int 1))).bind tru)) (mRt ((mC (.bool false)).map T.fz)) (mNx))
  (mSeq ((mIL dRng2 (mCons (mC (.int 2)) (mCons (m2 dAdd (mL dLen (mCons (mVarF 4) (mNil))) (mC (.int 1))) (mNil)))).bind fun ds => mFor (gN 5) (mSeq (mSet 6 ((m2 dDiv (mVarF 3) (mVarF 5)).map T.fz))
  (mIfS (tAndM ((m2 dEqS (m2 dMod (mVarF 3) (mVarF 5)) (mC (.int 0))).bind tru) ((mL dAll (mCons (((mI seqD (mVarF 4)).bind (mLc [7] (gN 7) (M.pure true) ((m2 dIn (m2 dMod (m2 dAdd (mVarF 7) (mVarF 6)) (mVarF 3)) (mVarF 4)).map T.fz))).map T.er) (mNil))).bind tru)) (mRt ((mC (.bool false)).map T.fz)) (mNx))) ds)
  (mRt ((vOr (m2 dEqS (mVarF 2) (mC (.int 0))) (m2 dNe (m2 dIn (m2 dSub (mVarF 2) (mC (.int 1))) (mVarF 1)) (m2 dIn (m2 dMod (m2 dSub (mVarF 2) (mC (.int 1))) (mVarF 3)) (mVarF 4)))).map T.fz))))))
noncomputable def sem_is_table : Sem := semOf [] 7 m_is_table
structure U_is_table (P : Program) (w : World) (K : Frg) (mg : Str → Option Value) (base : Heap) : Prop where
  n_isinstance : mg "isinstance" = none
  n_tuple : mg "tuple" = none
  n_len : mg "len" = none
  n_range : mg "range" = none
  n_all : mg "all" = none
  d_is_count : Def P w K mg base "is_count" 2 1 sem_is_count
  d_is_rising : Def P w K mg base "is_rising" 3 2 sem_is_rising
theorem ok_is_table {P : Program} {w : World} {K : Frg} {mg : Str → Option Value} {base : Heap} {f : Addr} {fd : FuncData} (F : Fun K "is_table" "is_table" s_is_table f fd) (T : U_is_table P w K mg base) : FnG P w K mg base 4 f fd ["thing"] (spD K mg 1 sem_is_table) :=
  def_of F sc_is_table fun cdv A outer s H E room => by
    have nd := (sc_is_table).nd
    have hu7 := hu7_of room; have hu4 := hu4_of room; have hu5 := hu5_of room; have tk := tk_of (P := P) (w := w) (K := K) (mg := mg) (base := base) (N := N_is_table) (qual := "is_table") (sc := defScope s_is_table) f cdv A outer s H E
    have pz := ps_of (P := P) (w := w) (K := K) (mg := mg) (base := base) (N := N_is_table) (qual := "is_table") (sc := defScope s_is_table) f cdv A outer s H E
    exact (ss_cons (s_if (Ew.pt (w_or (t_not (et_val (b_isi kit_tuple rfl T.n_isinstance (n_ty rfl T.n_tuple rfl) (ef_name (pv 0))))) (w_or (t_ne hu4 (b_len (by rfl) T.n_len (ea_cons (ef_name (pv 0)) (ea_nil))) (ex_int)) (w_or (t_not (et_val (Eo.freeze (o_call T.d_is_count (room.mono (by decide)) tk (by rfl) (ea_cons (x_ix (fun _ _ => rfl) (ef_name (pv 0)) (ex_int)) (ea_nil)) (hn := ln_cons (ln_nil)))))) (w_or1 (t_not (et_val (Eo.freeze (o_call T.d_is_count (room.mono (by decide)) tk (by rfl) (ea_cons (x_ix (fun _ _ => rfl) (ef_name (pv 0)) (ex_int)) (ea_nil)) (hn := ln_cons (ln_nil))))))))))) (ss_one (s_ret (Ex.own (ex_bl)))) (ss_nil))
    (ss_cons (s_if (Ew.pt (w_or (t_eqS hu4 (x_ix (fun _ _ => rfl) (ef_name (pv 0)) (ex_int)) (ex_int)) (w_or (t_not (et_val (Eo.freeze (o_call T.d_is_rising (room.mono (by decide)) tk (by rfl) (ea_cons (x_ix (fun _ _ => rfl) (ef_name (pv 0)) (ex_int)) (ea_cons (x_ix (fun _ _ => rfl) (ef_name (pv 0)) (ex_int)) (ea_nil))) (hn := ln_cons (ln_cons (ln_nil))))))) (w_or1 (t_not (et_val (Eo.freeze (o_call T.d_is_rising (room.mono (by decide)) tk (by rfl) (ea_cons (x_ix (fun _ _ => rfl) (ef_name (pv 0)) (ex_int)) (ea_cons (x_ix (fun _ _ => rfl) (ef_name (pv 0)) (ex_int)) (ea_nil))) (hn := ln_cons (ln_cons (ln_nil))))))))))) (ss_one (s_ret (Ex.own (ex_bl)))) (ss_nil))
    (ss_cons (s_asg (Ex.own (ef_name (pv 0))) (g_tup rfl (gs_cons (g_name nd rfl (.inl rfl)) (gs_cons (g_name nd rfl (.inl rfl)) (gs_cons (g_name nd rfl (.inr rfl)) (gs_cons (g_name nd rfl (.inr rfl)) (gs_nil)))))))
    (ss_cons (s_if (Ew.pt (w_and (t_eqS hu4 (ef_name (pv 4)) (x_tup (ea_nil))) (w_and1 (t_gt (ef_name (pv 3)) (ex_int))))) (ss_one (s_ret (Ex.own (ex_bl)))) (ss_nil))
    (ss_cons (s_for pz rfl (i_rng2 (by rfl) T.n_range (ea_cons (ex_int) (ea_cons (x_add (b_len (by rfl) T.n_len (ea_cons (ef_name (pv 4)) (ea_nil))) (ex_int)) (ea_nil)))) (g_name nd rfl (.inl rfl)) (ss_cons (s_set nd rfl (.inr rfl) (Ex.own (x_div (ef_name (pv 3)) (ef_name (pv 5)))))
    (ss_one (s_if (Ew.pt (w_and (t_eqS hu4 (x_mod (ef_name (pv 3)) (ef_name (pv 5))) (ex_int)) (w_and1 (et_val (b_all (by rfl) (by rfl) T.n_all (ea_cons (Eo.freeze (o_lc (own := [("one", 7)]) rfl nd (i_seq (ef_name (pv 4))) (blkOk_by (N := N_is_table) (sc := defScope s_is_table) (by decide +kernel)) (fun _ _ _ _ _ => g_name nd rfl (.inl rfl) (others_no (by decide))) (fun _ _ _ _ _ => ets_nil) (fun _ _ _ _ _ => Ex.own (x_in hu5 rfl (x_mod (x_add (ef_name (pv 7)) (ef_name (pv 6))) (ef_name (pv 3))) (ef_name (pv 4)))))) (ea_nil))))))) (ss_one (s_ret (Ex.own (ex_bl)))) (ss_nil)))))
    (ss_one (s_ret (Ex.own (x_or (x_eqS hu4 (ef_name (pv 2)) (ex_int)) (x_one (x_ne hu4 (x_in hu5 rfl (x_sub (ef_name (pv 2)) (ex_int)) (ef_name (pv 1))) (x_in hu5 rfl (x_mod (x_sub (ef_name (pv 2)) (ex_int)) (ef_name (pv 3))) (ef_name (pv 4))))))))))))))
/-! ### least_table -/
abbrev s_least_table : Stmt := top 8
abbrev N_least_table : List Str := ["marks", "begin", "modulus", "turn", "least", "numbers", "remainders", "number", "k"]
theorem sc_least_table : FnScope N_least_table ["marks", "begin", "modulus"] (defScope s_least_table) := ⟨rfl, rfl, rfl, by decide +kernel, rfl, by decide +kernel, by decide +kernel⟩
noncomputable def m_least_table : M Fl := mSeq (mSet 3 (mSl (mVarF 0) (mBd (mVarF 1)) (mBd (m2 dAdd (mVarF 1) (mVarF 2)))))
  (mSeq ((mIL dRng2 (mCons (mC (.int 1)) (mCons (m2 dAdd (mVarF 2) (mC (.int 1))) (mNil)))).bind fun ds => mFor (gN 4) (mIfS (tAndM ((m2 dEqS (m2 dMod (mVarF 2) (mVarF 4)) (mC (.int 0))).bind tru) ((mL dAll (mCons (((mIL dRng1 (mCons (mVarF 2) (mNil))).bind (mLc [8] (gN 8) (M.pure true) ((m2 dEqS (m2 dIx (mVar 3) (mVarF 8)) (m2 dIx (mVar 3) (m2 dMod (mVarF 8) (mVarF 4)))).map T.fz))).map T.er) (mNil))).bind tru)) (M.pure .bk) (mNx)) ds)
  (mSeq (mWh (tAndM ((m2 dGt (mVarF 1) (mC (.int 0))).bind tru) ((m2 dEqS (m2 dIx (mVarF 0) (m2 dSub (mVarF 1) (mC (.int 1)))) (m2 dIx (mVarF 0) (m2 dAdd (m2 dSub (mVarF 1) (mC (.int 1))) (mVarF 4)))).bind tru)) (mAugN dISub 1 (mC (.int 1))))
  (mSeq (mSet 5 ((mL dTuple (mCons (((mIL dRng1 (mCons (mVarF 1) (mNil))).bind (mLc [7] (gN 7) ((m2 dIx (mVarF 0) (mVarF 7)).bind tru) ((mVarF 7).map T.fz))).map T.er) (mNil))).map T.fz))
  (mSeq (mSet 6 ((mIL dRng2 (mCons (mVarF 1) (mCons (m2 dAdd (mVarF 1) (mVarF 4)) (mNil)))).bind (mLc [7] (gN 7) ((m2 dIx (mVarF 0) (mVarF 7)).bind tru) ((m2 dMod (mVarF 7) (mVarF 4)).map T.fz))))
  (mRt ((mL dTup (mCons (mVarF 5) (mCons (mVarF 1) (mCons (mVarF 4) (mCons (mL dTuple (mCons ((mL dSorted (mCons (mVarZ 6) (mNil))).map T.er) (mNil))) (mNil)))))).map T.fz))))))
noncomputable def sem_least_table : Sem := semOf [] 6 m_least_table
structure U_least_table (P : Program) (w : World) (K : Frg) (mg : Str → Option Value) (base : Heap) : Prop where
  n_range : mg "range" = none
  n_all : mg "all" = none
  n_tuple : mg "tuple" = none
  n_sorted : mg "sorted" = none
theorem ok_least_table {P : Program} {w : World} {K : Frg} {mg : Str → Option Value} {base : Heap} {f : Addr} {fd : FuncData} (F : Fun K "least_table" "least_table" s_least_table f fd) (T : U_least_table P w K mg base) : FnG P w K mg base 1 f fd ["marks", "begin", "modulus"] (spD K mg 3 sem_least_table) :=
  def_of F sc_least_table fun cdv A outer s H E room => by
    have nd := (sc_least_table).nd
    have hu7 := hu7_of room; have hu4 := hu4_of room; have hu5 := hu5_of room; have tk := tk_of (P := P) (w := w) (K := K) (mg := mg) (base := base) (N := N_least_table) (qual := "least_table") (sc := defScope s_least_table) f cdv A outer s H E
    have pz := ps_of (P := P) (w := w) (K := K) (mg := mg) (base := base) (N := N_least_table) (qual := "least_table") (sc := defScope s_least_table) f cdv A outer s H E
    exact (ss_cons (s_set nd rfl (.inr rfl) (o_slice (ef_name (pv 0)) (eb_some (ef_name (pv 1))) (eb_some (x_add (ef_name (pv 1)) (ef_name (pv 2))))))
    (ss_cons (s_for pz rfl (i_rng2 (by rfl) T.n_range (ea_cons (ex_int) (ea_cons (x_add (ef_name (pv 2)) (ex_int)) (ea_nil)))) (g_name nd rfl (.inr rfl)) (ss_one (s_if (Ew.pt (w_and (t_eqS hu4 (x_mod (ef_name (pv 2)) (ef_name (pv 4))) (ex_int)) (w_and1 (et_val (b_all (by rfl) (by rfl) T.n_all (ea_cons (Eo.freeze (o_lc (own := [("k", 8)]) rfl nd (i_rng1 (by rfl) T.n_range (ea_cons (ef_name (pv 2)) (ea_nil))) (blkOk_by (N := N_least_table) (sc := defScope s_least_table) (by decide +kernel)) (fun _ _ _ _ _ => g_name nd rfl (.inl rfl) (others_no (by decide))) (fun _ _ _ _ _ => ets_nil) (fun _ _ _ _ _ => Ex.own (x_eqS hu4 (x_ix (fun _ _ => rfl) (ev_name (pv 3)) (Ex.toView (ef_name (pv 8)))) (x_ix (fun _ _ => rfl) (ev_name (pv 3)) (Ex.toView (x_mod (ef_name (pv 8)) (ef_name (pv 4))))))))) (ea_nil))))))) (ss_one (s_break)) (ss_nil))))
    (ss_cons (s_while pz (Ew.pt (w_and (t_gt (ef_name (pv 1)) (ex_int)) (w_and1 (t_eqS hu4 (x_ix (fun _ _ => rfl) (ef_name (pv 0)) (x_sub (ef_name (pv 1)) (ex_int))) (x_ix (fun _ _ => rfl) (ef_name (pv 0)) (x_add (x_sub (ef_name (pv 1)) (ex_int)) (ef_name (pv 4)))))))) (ss_one (s_augN ip_sub is_isub nd rfl (.inl rfl) (Ex.toView (ex_int)) flat_isub)))
    (ss_cons (s_set nd rfl (.inl rfl) (Ex.own (b_tuple (by rfl) T.n_tuple (ea_cons (Eo.freeze (o_lc (own := [("number", 7)]) rfl nd (i_rng1 (by rfl) T.n_range (ea_cons (ef_name (pv 1)) (ea_nil))) (blkOk_by (N := N_least_table) (sc := defScope s_least_table) (by decide +kernel)) (fun _ _ _ _ _ => g_name nd rfl (.inl rfl) (others_no (by decide))) (fun _ _ _ _ _ => ets_one (et_val (x_ix (fun _ _ => rfl) (ef_name (pv 0)) (ef_name (pv 7))))) (fun _ _ _ _ _ => Ex.own (ef_name (pv 7))))) (ea_nil)))))
    (ss_cons (s_setLc (own := [("number", 7)]) rfl nd rfl rfl (i_rng2 (by rfl) T.n_range (ea_cons (ef_name (pv 1)) (ea_cons (x_add (ef_name (pv 1)) (ef_name (pv 4))) (ea_nil)))) (blkOk_by (N := N_least_table) (sc := defScope s_least_table) (by decide +kernel)) (fun _ _ _ _ _ => g_name nd rfl (.inl rfl) (others_no (by decide))) (fun _ _ _ _ _ => ets_one (et_val (x_ix (fun _ _ => rfl) (ef_name (pv 0)) (ef_name (pv 7))))) (fun _ _ _ _ _ => Ex.own (x_mod (ef_name (pv 7)) (ef_name (pv 4)))))
    (ss_one (s_ret (Ex.own (x_tup (ea_cons (ef_name (pv 5)) (ea_cons (ef_name (pv 1)) (ea_cons (ef_name (pv 4)) (ea_cons (b_tuple (by rfl) T.n_tuple (ea_cons (Eo.freeze (b_sorted hu7 (by rfl) T.n_sorted (ea_cons (ez_name (pv 6)) (ea_nil)))) (ea_nil))) (ea_nil))))))))))))))
/-! ### has -/
abbrev s_has : Stmt := top 9
abbrev N_has : List Str := ["table", "number", "numbers", "begin", "modulus", "remainders"]
theorem sc_has : FnScope N_has ["table", "number"] (defScope s_has) := ⟨rfl, rfl, rfl, by decide +kernel, rfl, by decide +kernel, by decide +kernel⟩
noncomputable def m_has : M Fl := mSeq (mAsg ((mVarF 0).map T.fz) (gT 4 (gCons' (gN 2) (gCons' (gN 3) (gCons' (gN 4) (gCons' (gN 5) (gNil')))))))
  (mSeq (mIfS ((m2 dLt (mVarF 1) (mVarF 3)).bind tru) (mRt ((m2 dIn (mVarF 1) (mVarF 2)).map T.fz)) (mNx))
  (mRt ((m2 dIn (m2 dMod (mVarF 1) (mVarF 4)) (mVarF 5)).map T.fz)))
noncomputable def sem_has : Sem := semOf [] 4 m_has
structure U_has (P : Program) (w : World) (K : Frg) (mg : Str → Option Value) (base : Heap) : Prop where
  tt : True
theorem ok_has {P : Program} {w : World} {K : Frg} {mg : Str → Option Value} {base : Heap} {f : Addr} {fd : FuncData} (F : Fun K "has" "has" s_has f fd) (T : U_has P w K mg base) : FnG P w K mg base 1 f fd ["table", "number"] (spD K mg 2 sem_has) :=
  def_of F sc_has fun cdv A outer s H E room => by
    have nd := (sc_has).nd
    have hu7 := hu7_of room; have hu4 := hu4_of room; have hu5 := hu5_of room; have tk := tk_of (P := P) (w := w) (K := K) (mg := mg) (base := base) (N := N_has) (qual := "has") (sc := defScope s_has) f cdv A outer s H E
    have pz := ps_of (P := P) (w := w) (K := K) (mg := mg) (base := base) (N := N_has) (qual := "has") (sc := defScope s_has) f cdv A outer s H E
    exact (ss_cons (s_asg (Ex.own (ef_name (pv 0))) (g_tup rfl (gs_cons (g_name nd rfl (.inl rfl)) (gs_cons (g_name nd rfl (.inl rfl)) (gs_cons (g_name nd rfl (.inl rfl)) (gs_cons (g_name nd rfl (.inl rfl)) (gs_nil)))))))
    (ss_cons (s_if (t_lt (ef_name (pv 1)) (ef_name (pv 3))) (ss_one (s_ret (Ex.own (x_in hu5 rfl (ef_name (pv 1)) (ef_name (pv 2)))))) (ss_nil))
    (ss_one (s_ret (Ex.own (x_in hu5 rfl (x_mod (ef_name (pv 1)) (ef_name (pv 4))) (ef_name (pv 5))))))))
/-! ### next_in -/
abbrev s_next_in : Stmt := top 10
abbrev N_next_in : List Str := ["table", "number", "begin", "modulus", "one"]
theorem sc_next_in : FnScope N_next_in ["table", "number"] (defScope s_next_in) := ⟨rfl, rfl, rfl, by decide +kernel, rfl, by decide +kernel, by decide +kernel⟩
noncomputable def m_next_in : M Fl := mSeq (mPar 2 3 (mConsT ((m2 dIx (mVarF 0) (mC (.int 1))).map T.fz) (mConsT ((m2 dIx (mVarF 0) (mC (.int 2))).map T.fz) (mNilT))))
  (mSeq ((mIL dRng2 (mCons (mL dMax2 (mCons (mC (.int 0)) (mCons (mVarF 1) (mNil)))) (mCons (m2 dAdd (mL dMax2 (mCons (mVarF 2) (mCons (mVarF 1) (mNil)))) (mVarF 3)) (mNil)))).bind fun ds => mFor (gN 4) (mIfS (((mCall sem_has (mCons (mVarF 0) (mCons (mVarF 4) (mNil)))).map T.er).bind tru) (mRt ((mVarF 4).map T.fz)) (mNx)) ds)
  (mRt ((mC .none).map T.fz)))
noncomputable def sem_next_in : Sem := semOf [] 3 m_next_in
structure U_next_in (P : Program) (w : World) (K : Frg) (mg : Str → Option Value) (base : Heap) : Prop where
  n_max : mg "max" = none
  n_range : mg "range" = none
  d_has : Def P w K mg base "has" 1 2 sem_has
theorem ok_next_in {P : Program} {w : World} {K : Frg} {mg : Str → Option Value} {base : Heap} {f : Addr} {fd : FuncData} (F : Fun K "next_in" "next_in" s_next_in f fd) (T : U_next_in P w K mg base) : FnG P w K mg base 2 f fd ["table", "number"] (spD K mg 2 sem_next_in) :=
  def_of F sc_next_in fun cdv A outer s H E room => by
    have nd := (sc_next_in).nd
    have hu7 := hu7_of room; have hu4 := hu4_of room; have hu5 := hu5_of room; have tk := tk_of (P := P) (w := w) (K := K) (mg := mg) (base := base) (N := N_next_in) (qual := "next_in") (sc := defScope s_next_in) f cdv A outer s H E
    have pz := ps_of (P := P) (w := w) (K := K) (mg := mg) (base := base) (N := N_next_in) (qual := "next_in") (sc := defScope s_next_in) f cdv A outer s H E
    exact (ss_cons (s_par rfl nd rfl rfl (by decide) rfl rfl (ey_cons (Ex.own (x_ix (fun _ _ => rfl) (ef_name (pv 0)) (ex_int))) (ey_cons (Ex.own (x_ix (fun _ _ => rfl) (ef_name (pv 0)) (ex_int))) (ey_nil))) rfl)
    (ss_cons (s_for pz rfl (i_rng2 (by rfl) T.n_range (ea_cons (b_max2 (by rfl) (by rfl) T.n_max (ea_cons (ex_int) (ea_cons (ef_name (pv 1)) (ea_nil)))) (ea_cons (x_add (b_max2 (by rfl) (by rfl) T.n_max (ea_cons (ef_name (pv 2)) (ea_cons (ef_name (pv 1)) (ea_nil)))) (ef_name (pv 3))) (ea_nil)))) (g_name nd rfl (.inl rfl)) (ss_one (s_if (et_val (Eo.freeze (o_call T.d_has (room.mono (by decide)) tk (by rfl) (ea_cons (ef_name (pv 0)) (ea_cons (ef_name (pv 4)) (ea_nil))) (hn := ln_cons (ln_cons (ln_nil)))))) (ss_one (s_ret (Ex.own (ef_name (pv 4))))) (ss_nil))))
    (ss_one (s_ret (Ex.own (ex_non))))))
/-! ### moved -/
abbrev s_moved : Stmt := top 11
abbrev N_moved : List Str := ["table", "by", "numbers", "begin", "modulus", "remainders", "number", "one"]
theorem sc_moved : FnScope N_moved ["table", "by"] (defScope s_moved) := ⟨rfl, rfl, rfl, by decide +kernel, rfl, by decide +kernel, by decide +kernel⟩
noncomputable def m_moved : M Fl := mSeq (mAsg ((mVarF 0).map T.fz) (gT 4 (gCons' (gN 2) (gCons' (gN 3) (gCons' (gN 4) (gCons' (gN 5) (gNil')))))))
  (mSeq (mIfS (tAndM ((m2 dEqS (mVarF 2) (mL dTup (mNil))).bind tru) ((m2 dEqS (mVarF 5) (mL dTup (mNil))).bind tru)) (mRt ((mVarF 0).map T.fz)) (mNx))
  (mSeq (mAsg (mLT tTupO (mConsT ((mL dTuple (mCons (((mI seqD (mVarF 2)).bind (mLc [6] (gN 6) (M.pure true) ((m2 dAdd (mVarF 6) (mVarF 1)).map T.fz))).map T.er) (mNil))).map T.fz) (mConsT ((m2 dAdd (mVarF 3) (mVarF 1)).map T.fz) (mNilT)))) (gT 2 (gCons' (gN 2) (gCons' (gN 3) (gNil')))))
  (mSeq (mSet 5 ((mL dTuple (mCons ((mL dSorted (mCons (((mI seqD (mVarF 5)).bind (mLc [7] (gN 7) (M.pure true) ((m2 dMod (m2 dAdd (mVarF 7) (mVarF 1)) (mVarF 4)).map T.fz))).map T.er) (mNil))).map T.er) (mNil))).map T.fz))
  (mSeq (mWh (tAndM ((m2 dGt (mVarF 3) (mC (.int 0))).bind tru) ((m2 dEqS (m2 dIn (m2 dSub (mVarF 3) (mC (.int 1))) (mVarF 2)) (m2 dIn (m2 dMod (m2 dSub (mVarF 3) (mC (.int 1))) (mVarF 4)) (mVarF 5))).bind tru)) (mAugN dISub 3 (mC (.int 1))))
  (mRt ((mL dTup (mCons (mL dTuple (mCons (((mI seqD (mVarF 2)).bind (mLc [6] (gN 6) ((m2 dLt (mVarF 6) (mVarF 3)).bind tru) ((mVarF 6).map T.fz))).map T.er) (mNil))) (mCons (mVarF 3) (mCons (mVarF 4) (mCons (mVarF 5) (mNil)))))).map T.fz))))))
noncomputable def sem_moved : Sem := semOf [] 6 m_moved
structure U_moved (P : Program) (w : World) (K : Frg) (mg : Str → Option Value) (base : Heap) : Prop where
  n_tuple : mg "tuple" = none
  n_sorted : mg "sorted" = none
theorem ok_moved {P : Program} {w : World} {K : Frg} {mg : Str → Option Value} {base : Heap} {f : Addr} {fd : FuncData} (F : Fun K "moved" "moved" s_moved f fd) (T : U_moved P w K mg base) : FnG P w K mg base 1 f fd ["table", "by"] (spD K mg 2 sem_moved) :=
  def_of F sc_moved fun cdv A outer s H E room => by
    have nd := (sc_moved).nd
    have hu7 := hu7_of room; have hu4 := hu4_of room; have hu5 := hu5_of room; have tk := tk_of (P := P) (w := w) (K := K) (mg := mg) (base := base) (N := N_moved) (qual := "moved") (sc := defScope s_moved) f cdv A outer s H E
    have pz := ps_of (P := P) (w := w) (K := K) (mg := mg) (base := base) (N := N_moved) (qual := "moved") (sc := defScope s_moved) f cdv A outer s H E
    exact (ss_cons (s_asg (Ex.own (ef_name (pv 0))) (g_tup rfl (gs_cons (g_name nd rfl (.inl rfl)) (gs_cons (g_name nd rfl (.inr rfl)) (gs_cons (g_name nd rfl (.inr rfl)) (gs_cons (g_name nd rfl (.inl rfl)) (gs_nil)))))))
    (ss_cons (s_if (Ew.pt (w_and (t_eqS hu4 (ef_name (pv 2)) (x_tup (ea_nil))) (w_and1 (t_eqS hu4 (ef_name (pv 5)) (x_tup (ea_nil)))))) (ss_one (s_ret (Ex.own (ef_name (pv 0))))) (ss_nil))
    (ss_cons (s_asg (o_tupO (ey_cons (Ex.own (b_tuple (by rfl) T.n_tuple (ea_cons (Eo.freeze (o_lc (own := [("number", 6)]) rfl nd (i_seq (ef_name (pv 2))) (blkOk_by (N := N_moved) (sc := defScope s_moved) (by decide +kernel)) (fun _ _ _ _ _ => g_name nd rfl (.inl rfl) (others_no (by decide))) (fun _ _ _ _ _ => ets_nil) (fun _ _ _ _ _ => Ex.own (x_add (ef_name (pv 6)) (ef_name (pv 1)))))) (ea_nil)))) (ey_cons (Ex.own (x_add (ef_name (pv 3)) (ef_name (pv 1)))) (ey_nil)))) (g_tup rfl (gs_cons (g_name nd rfl (.inl rfl)) (gs_cons (g_name nd rfl (.inr rfl)) (gs_nil)))))
    (ss_cons (s_set nd rfl (.inl rfl) (Ex.own (b_tuple (by rfl) T.n_tuple (ea_cons (Eo.freeze (b_sorted hu7 (by rfl) T.n_sorted (ea_cons (Eo.freeze (o_lc (own := [("one", 7)]) rfl nd (i_seq (ef_name (pv 5))) (blkOk_by (N := N_moved) (sc := defScope s_moved) (by decide +kernel)) (fun _ _ _ _ _ => g_name nd rfl (.inl rfl) (others_no (by decide))) (fun _ _ _ _ _ => ets_nil) (fun _ _ _ _ _ => Ex.own (x_mod (x_add (ef_name (pv 7)) (ef_name (pv 1))) (ef_name (pv 4)))))) (ea_nil)))) (ea_nil)))))
    (ss_cons (s_while pz (Ew.pt (w_and (t_gt (ef_name (pv 3)) (ex_int)) (w_and1 (t_eqS hu4 (x_in hu5 rfl (x_sub (ef_name (pv 3)) (ex_int)) (ef_name (pv 2))) (x_in hu5 rfl (x_mod (x_sub (ef_name (pv 3)) (ex_int)) (ef_name (pv 4))) (ef_name (pv 5))))))) (ss_one (s_augN ip_sub is_isub nd rfl (.inr rfl) (Ex.toView (ex_int)) flat_isub)))
    (ss_one (s_ret (Ex.own (x_tup (ea_cons (b_tuple (by rfl) T.n_tuple (ea_cons (Eo.freeze (o_lc (own := [("number", 6)]) rfl nd (i_seq (ef_name (pv 2))) (blkOk_by (N := N_moved) (sc := defScope s_moved) (by decide +kernel)) (fun _ _ _ _ _ => g_name nd rfl (.inl rfl) (others_no (by decide))) (fun _ _ _ _ _ => ets_one (t_lt (ef_name (pv 6)) (ef_name (pv 3)))) (fun _ _ _ _ _ => Ex.own (ef_name (pv 6))))) (ea_nil))) (ea_cons (ef_name (pv 3)) (ea_cons (ef_name (pv 4)) (ea_cons (ef_name (pv 5)) (ea_nil))))))))))))))
/-! ### in_both -/
abbrev s_in_both : Stmt := top 12
abbrev N_in_both : List Str := ["one", "other", "begin", "modulus", "marks", "number"]
theorem sc_in_both : FnScope N_in_both ["one", "other"] (defScope s_in_both) := ⟨rfl, rfl, rfl, by decide +kernel, rfl, by decide +kernel, by decide +kernel⟩
noncomputable def m_in_both : M Fl := mSeq (mSet 2 ((mL dMax2 (mCons (m2 dIx (mVarF 0) (mC (.int 1))) (mCons (m2 dIx (mVarF 1) (mC (.int 1))) (mNil)))).map T.fz))
  (mSeq (mSet 3 ((m2 dMul (m2 dDiv (m2 dIx (mVarF 0) (mC (.int 2))) ((mCall sem_common_divisor (mCons (m2 dIx (mVarF 0) (mC (.int 2))) (mCons (m2 dIx (mVarF 1) (mC (.int 2))) (mNil)))).map T.er)) (m2 dIx (mVarF 1) (mC (.int 2)))).map T.fz))
  (mSeq (mSet 4 ((mIL dRng1 (mCons (m2 dAdd (mVarF 2) (mVarF 3)) (mNil))).bind (mLc [5] (gN 5) (M.pure true) ((vAnd ((mCall sem_has (mCons (mVarF 0) (mCons (mVarF 5) (mNil)))).map T.er) ((mCall sem_has (mCons (mVarF 1) (mCons (mVarF 5) (mNil)))).map T.er)).map T.fz))))
  (mRt (mCall sem_least_table (mCons (mVarZ 4) (mCons (mVarF 2) (mCons (mVarF 3) (mNil))))))))
noncomputable def sem_in_both : Sem := semOf [] 4 m_in_both
structure U_in_both (P : Program) (w : World) (K : Frg) (mg : Str → Option Value) (base : Heap) : Prop where
  n_max : mg "max" = none
  n_range : mg "range" = none
  d_common_divisor : Def P w K mg base "common_divisor" 1 2 sem_common_divisor
  d_has : Def P w K mg base "has" 1 2 sem_has
  d_least_table : Def P w K mg base "least_table" 1 3 sem_least_table
theorem ok_in_both {P : Program} {w : World} {K : Frg} {mg : Str → Option Value} {base : Heap} {f : Addr} {fd : FuncData} (F : Fun K "in_both" "in_both" s_in_both f fd) (T : U_in_both P w K mg base) : FnG P w K mg base 2 f fd ["one", "other"] (spD K mg 2 sem_in_both) :=
  def_of F sc_in_both fun cdv A outer s H E room => by
    have nd := (sc_in_both).nd
    have hu7 := hu7_of room; have hu4 := hu4_of room; have hu5 := hu5_of room; have tk := tk_of (P := P) (w := w) (K := K) (mg := mg) (base := base) (N := N_in_both) (qual := "in_both") (sc := defScope s_in_both) f cdv A outer s H E
    have pz := ps_of (P := P) (w := w) (K := K) (mg := mg) (base := base) (N := N_in_both) (qual := "in_both") (sc := defScope s_in_both) f cdv A outer s H E
    exact (ss_cons (s_set nd rfl (.inl rfl) (Ex.own (b_max2 (by rfl) (by rfl) T.n_max (ea_cons (x_ix (fun _ _ => rfl) (ef_name (pv 0)) (ex_int)) (ea_cons (x_ix (fun _ _ => rfl) (ef_name (pv 1)) (ex_int)) (ea_nil))))))
    (ss_cons (s_set nd rfl (.inl rfl) (Ex.own (x_mul (x_div (x_ix (fun _ _ => rfl) (ef_name (pv 0)) (ex_int)) (Eo.freeze (o_call T.d_common_divisor (room.mono (by decide)) tk (by rfl) (ea_cons (x_ix (fun _ _ => rfl) (ef_name (pv 0)) (ex_int)) (ea_cons (x_ix (fun _ _ => rfl) (ef_name (pv 1)) (ex_int)) (ea_nil))) (hn := ln_cons (ln_cons (ln_nil)))))) (x_ix (fun _ _ => rfl) (ef_name (pv 1)) (ex_int)))))
    (ss_cons (s_setLc (own := [("number", 5)]) rfl nd rfl rfl (i_rng1 (by rfl) T.n_range (ea_cons (x_add (ef_name (pv 2)) (ef_name (pv 3))) (ea_nil))) (blkOk_by (N := N_in_both) (sc := defScope s_in_both) (by decide +kernel)) (fun _ _ _ _ _ => g_name nd rfl (.inl rfl) (others_no (by decide))) (fun _ _ _ _ _ => ets_nil) (fun _ _ _ _ _ => Ex.own (x_and (Eo.freeze (o_call T.d_has (room.mono (by decide)) takes0 (by rfl) (ea_cons (ef_name (pv 0)) (ea_cons (ef_name (pv 5)) (ea_nil))) (hn := ln_cons (ln_cons (ln_nil))))) (x_one (Eo.freeze (o_call T.d_has (room.mono (by decide)) takes0 (by rfl) (ea_cons (ef_name (pv 1)) (ea_cons (ef_name (pv 5)) (ea_nil))) (hn := ln_cons (ln_cons (ln_nil)))))))))
    (ss_one (s_ret (o_call T.d_least_table (room.mono (by decide)) tk (by rfl) (ea_cons (ez_name (pv 4)) (ea_cons (ef_name (pv 2)) (ea_cons (ef_name (pv 3)) (ea_nil)))) (hn := ln_cons (ln_cons (ln_cons (ln_nil))))))))))
/-! ### _law_table -/
abbrev s__law_table : Stmt := top 22
abbrev N__law_table : List Str := ["there", "most", "half", "modulus", "turn", "begin", "rests", "n"]
theorem sc__law_table : FnScope N__law_table ["there", "most"] (defScope s__law_table) := ⟨rfl, rfl, rfl, by decide +kernel, rfl, by decide +kernel, by decide +kernel⟩
noncomputable def m__law_table : M Fl := mSeq (mAsg (mLT tTupO (mConsT ((m2 dDiv (mL dInt (mCons (mVarF 1) (mNil))) (mC (.int 2))).map T.fz) (mConsT ((mC (.int 1)).map T.fz) (mNilT)))) (gT 2 (gCons' (gN 2) (gCons' (gN 3) (gNil')))))
  (mSeq ((mIL dRng1 (mCons (mVarF 2) (mNil))).bind fun ds => mFor (gN 4) (mSeq (mIfS ((m2 dEqS (((mIL dRng2 (mCons (mVarF 2) (mCons (m2 dAdd (m2 dSub (mVarF 1) (mVarF 3)) (mC (.int 1))) (mNil)))).bind (mLc [7] (gN 7) ((m2 dNe (m2 (dInE false) (mVarF 7) (mVarF 0)) (m2 (dInE false) (m2 dAdd (mVarF 7) (mVarF 3)) (mVarF 0))).bind tru) ((mC (.int 1)).map T.fz))).map T.er) ((mL dLst (mNil)).map T.er)).bind tru) (M.pure .bk) (mNx))
  (mAugN dIAdd 3 (mC (.int 1)))) ds)
  (mSeq (mSet 5 ((m2 dAdd (m2 dSub (mVarF 1) (mVarF 3)) (mC (.int 1))).map T.fz))
  (mSeq ((mIL dRng1 (mCons (mVarF 5) (mNil))).bind fun ds => mFor (gN 4) (mSeq (mIfS ((m2 dNe (m2 (dInE false) (m2 dSub (mVarF 5) (mC (.int 1))) (mVarF 0)) (m2 (dInE false) (m2 dAdd (m2 dSub (mVarF 5) (mC (.int 1))) (mVarF 3)) (mVarF 0))).bind tru) (M.pure .bk) (mNx))
  (mAugN dISub 5 (mC (.int 1)))) ds)
  (mSeq (mSet 6 (mL dSorted (mCons (((mIL dRng2 (mCons (mVarF 5) (mCons (m2 dAdd (mVarF 5) (mVarF 3)) (mNil)))).bind (mLc [7] (gN 7) ((m2 (dInE false) (mVarF 7) (mVarF 0)).bind tru) ((m2 dMod (mL dInt (mCons (mVarF 7) (mNil))) (mVarF 3)).map T.fz))).map T.er) (mNil))))
  (mRt ((mL dTup (mCons (mL dTuple (mCons ((mL dSorted (mCons ((mNoX ((mKs (sVar 0)).bind (mLc [7] (gN 7) ((m2 dLt (mVarF 7) (mVarF 5)).bind tru) ((mVarF 7).map T.fz)))).map T.er) (mNil))).map T.er) (mNil))) (mCons (mVarF 5) (mCons (mVarF 3) (mCons (mL dTuple (mCons (mVarZ 6) (mNil))) (mNil)))))).map T.fz))))))
noncomputable def sem__law_table : Sem := semOf [] 6 m__law_table
structure U__law_table (P : Program) (w : World) (K : Frg) (mg : Str → Option Value) (base : Heap) : Prop where
  n_int : mg "int" = none
  n_range : mg "range" = none
  n_sorted : mg "sorted" = none
  n_tuple : mg "tuple" = none
theorem ok__law_table {P : Program} {w : World} {K : Frg} {mg : Str → Option Value} {base : Heap} {f : Addr} {fd : FuncData} (F : Fun K "_law_table" "_law_table" s__law_table f fd) (T : U__law_table P w K mg base) : FnG P w K mg base 1 f fd ["there", "most"] (spD K mg 2 sem__law_table) :=
  def_of F sc__law_table fun cdv A outer s H E room => by
    have nd := (sc__law_table).nd
    have hu7 := hu7_of room; have hu4 := hu4_of room; have hu5 := hu5_of room; have tk := tk_of (P := P) (w := w) (K := K) (mg := mg) (base := base) (N := N__law_table) (qual := "_law_table") (sc := defScope s__law_table) f cdv A outer s H E
    have pz := ps_of (P := P) (w := w) (K := K) (mg := mg) (base := base) (N := N__law_table) (qual := "_law_table") (sc := defScope s__law_table) f cdv A outer s H E
    exact (ss_cons (s_asg (o_tupO (ey_cons (Ex.own (x_div (b_int (by rfl) T.n_int (ea_cons (ef_name (pv 1)) (ea_nil))) (ex_int))) (ey_cons (Ex.own (ex_int)) (ey_nil)))) (g_tup rfl (gs_cons (g_name nd rfl (.inl rfl)) (gs_cons (g_name nd rfl (.inr rfl)) (gs_nil)))))
    (ss_cons (s_for pz rfl (i_rng1 (by rfl) T.n_range (ea_cons (ef_name (pv 2)) (ea_nil))) (g_name nd rfl (.inl rfl)) (ss_cons (s_if (t_eqS hu4 (Eo.freeze (o_lc (own := [("n", 7)]) rfl nd (i_rng2 (by rfl) T.n_range (ea_cons (ef_name (pv 2)) (ea_cons (x_add (x_sub (ef_name (pv 1)) (ef_name (pv 3))) (ex_int)) (ea_nil)))) (blkOk_by (N := N__law_table) (sc := defScope s__law_table) (by decide +kernel)) (fun _ _ _ _ _ => g_name nd rfl (.inl rfl) (others_no (by decide))) (fun _ _ _ _ _ => ets_one (t_ne hu4 (x_inE (hu5_of room) rfl (ef_name (pv 7)) (ef_name (pv 0))) (x_inE (hu5_of room) rfl (x_add (ef_name (pv 7)) (ef_name (pv 3))) (ef_name (pv 0))))) (fun _ _ _ _ _ => Ex.own (ex_int)))) (Eo.freeze (o_lst (ea_nil)))) (ss_one (s_break)) (ss_nil))
    (ss_one (s_augN ip_add is_iadd nd rfl (.inr rfl) (Ex.toView (ex_int)) flat_iadd))))
    (ss_cons (s_set nd rfl (.inr rfl) (Ex.own (x_add (x_sub (ef_name (pv 1)) (ef_name (pv 3))) (ex_int))))
    (ss_cons (s_for pz rfl (i_rng1 (by rfl) T.n_range (ea_cons (ef_name (pv 5)) (ea_nil))) (g_name nd rfl (.inl rfl)) (ss_cons (s_if (t_ne hu4 (x_inE (hu5_of room) rfl (x_sub (ef_name (pv 5)) (ex_int)) (ef_name (pv 0))) (x_inE (hu5_of room) rfl (x_add (x_sub (ef_name (pv 5)) (ex_int)) (ef_name (pv 3))) (ef_name (pv 0)))) (ss_one (s_break)) (ss_nil))
    (ss_one (s_augN ip_sub is_isub nd rfl (.inr rfl) (Ex.toView (ex_int)) flat_isub))))
    (ss_cons (s_set nd rfl (.inl rfl) (b_sorted hu7 (by rfl) T.n_sorted (ea_cons (Eo.freeze (o_lc (own := [("n", 7)]) rfl nd (i_rng2 (by rfl) T.n_range (ea_cons (ef_name (pv 5)) (ea_cons (x_add (ef_name (pv 5)) (ef_name (pv 3))) (ea_nil)))) (blkOk_by (N := N__law_table) (sc := defScope s__law_table) (by decide +kernel)) (fun _ _ _ _ _ => g_name nd rfl (.inl rfl) (others_no (by decide))) (fun _ _ _ _ _ => ets_one (t_inE (hu5_of room) rfl (ef_name (pv 7)) (ef_name (pv 0)))) (fun _ _ _ _ _ => Ex.own (x_mod (b_int (by rfl) T.n_int (ea_cons (ef_name (pv 7)) (ea_nil))) (ef_name (pv 3)))))) (ea_nil))))
    (ss_one (s_ret (Ex.own (x_tup (ea_cons (b_tuple (by rfl) T.n_tuple (ea_cons (Eo.freeze (b_sorted hu7 (by rfl) T.n_sorted (ea_cons (Eo.freeze (o_lcK (own := [("n", 7)]) rfl nd (i_keysL (es_name (pv 0))) (blkOk_by (N := N__law_table) (sc := defScope s__law_table) (by decide +kernel)) (fun _ _ _ _ _ => g_name nd rfl (.inl rfl) (others_no (by decide))) (fun _ _ _ _ _ => ets_one (t_lt (ef_name (pv 7)) (ef_name (pv 5)))) (fun _ _ _ _ _ => Ex.own (ef_name (pv 7))))) (ea_nil)))) (ea_nil))) (ea_cons (ef_name (pv 5)) (ea_cons (ef_name (pv 3)) (ea_cons (b_tuple (by rfl) T.n_tuple (ea_cons (ez_name (pv 6)) (ea_nil))) (ea_nil))))))))))))))
/-! ### _law_has -/
abbrev s__law_has : Stmt := top 23
abbrev N__law_has : List Str := ["table", "number", "numbers", "begin", "modulus", "rests"]
theorem sc__law_has : FnScope N__law_has ["table", "number"] (defScope s__law_has) := ⟨rfl, rfl, rfl, by decide +kernel, rfl, by decide +kernel, by decide +kernel⟩
noncomputable def m__law_has : M Fl := mSeq (mAsg ((mVarF 0).map T.fz) (gT 4 (gCons' (gN 2) (gCons' (gN 3) (gCons' (gN 4) (gCons' (gN 5) (gNil')))))))
  (mRt ((vOr (m2 dIn (mVarF 1) (mVarF 2)) (vAnd (m2 dGe (mVarF 1) (mVarF 3)) (m2 dIn (m2 dMod (mL dInt (mCons (mVarF 1) (mNil))) (mVarF 4)) (mVarF 5)))).map T.fz))
noncomputable def sem__law_has : Sem := semOf [] 4 m__law_has
structure U__law_has (P : Program) (w : World) (K : Frg) (mg : Str → Option Value) (base : Heap) : Prop where
  n_int : mg "int" = none
theorem ok__law_has {P : Program} {w : World} {K : Frg} {mg : Str → Option Value} {base : Heap} {f : Addr} {fd : FuncData} (F : Fun K "_law_has" "_law_has" s__law_has f fd) (T : U__law_has P w K mg base) : FnG P w K mg base 1 f fd ["table", "number"] (spD K mg 2 sem__law_has) :=
  def_of F sc__law_has fun cdv A outer s H E room => by
    have nd := (sc__law_has).nd
    have hu7 := hu7_of room; have hu4 := hu4_of room; have hu5 := hu5_of room; have tk := tk_of (P := P) (w := w) (K := K) (mg := mg) (base := base) (N := N__law_has) (qual := "_law_has") (sc := defScope s__law_has) f cdv A outer s H E
    have pz := ps_of (P := P) (w := w) (K := K) (mg := mg) (base := base) (N := N__law_has) (qual := "_law_has") (sc := defScope s__law_has) f cdv A outer s H E
    exact (ss_cons (s_asg (Ex.own (ef_name (pv 0))) (g_tup rfl (gs_cons (g_name nd rfl (.inl rfl)) (gs_cons (g_name nd rfl (.inl rfl)) (gs_cons (g_name nd rfl (.inl rfl)) (gs_cons (g_name nd rfl (.inl rfl)) (gs_nil)))))))
    (ss_one (s_ret (Ex.own (x_or (x_in hu5 rfl (ef_name (pv 1)) (ef_name (pv 2))) (x_one (x_and (x_ge (ef_name (pv 1)) (ef_name (pv 3))) (x_one (x_in hu5 rfl (x_mod (b_int (by rfl) T.n_int (ea_cons (ef_name (pv 1)) (ea_nil))) (ef_name (pv 4))) (ef_name (pv 5)))))))))))
/-! ### _law_drawn_table -/
abbrev s__law_drawn_table : Stmt := top 24
abbrev N__law_drawn_table : List Str := ["bag", "modulus", "begin", "rests", "there", "k", "n"]
theorem sc__law_drawn_table : FnScope N__law_drawn_table ["bag"] (defScope s__law_drawn_table) := ⟨rfl, rfl, rfl, by decide +kernel, rfl, by decide +kernel, by decide +kernel⟩
noncomputable def m__law_drawn_table : M Fl := mSeq (mAsg (mLT tTupO (mConsT ((((mHas 0).bind fun _ => mCallB sem__law_some 0 (mCons ((mL dLst (mCons (mC (.int 2)) (mCons (mC (.int 3)) (mCons (mC (.int 1)) (mCons (mC (.int 4)) (mCons (mC (.int 6)) (mCons (mC (.int 12)) (mCons (mC (.int 35)) (mNil))))))))).map T.er) (mNil))).map T.er).map T.fz) (mConsT ((((mHas 0).bind fun _ => mCallB sem__law_some 0 (mCons ((mL dLst (mCons (mC (.int 3)) (mCons (mC (.int 0)) (mCons (mC (.int 5)) (mCons (mC (.int 1)) (mCons (mC (.int 8)) (mCons (mC (.int 90)) (mNil)))))))).map T.er) (mNil))).map T.er).map T.fz) (mNilT)))) (gT 2 (gCons' (gN 1) (gCons' (gN 2) (gNil')))))
  (mSeq (mSet 3 ((mIL dRng1 (mCons (mVarF 1) (mNil))).bind (mLcI [5] (gN 5) ((m2 dEqS (((mHas 0).bind fun _ => mCallB sem__law_take 0 (mCons (mC (.int 2)) (mNil))).map T.er) (mC (.int 0))).bind tru) ((mVarF 5).map T.fz))))
  (mSeq (mIfS ((m2 dEqS (((mHas 0).bind fun _ => mCallB sem__law_take 0 (mCons (mC (.int 4)) (mNil))).map T.er) (mC (.int 0))).bind tru) (mSet 3 (mL dLst (mNil))) (mNx))
  (mSeq (mSet 4 (mLT tDictP (mConsT ((mIL dRng1 (mCons (mVarF 2) (mNil))).bind (mLcI [6] (gN 6) ((m2 dEqS (((mHas 0).bind fun _ => mCallB sem__law_take 0 (mCons (mC (.int 2)) (mNil))).map T.er) (mC (.int 0))).bind tru) ((mL dTup (mCons (mVarF 6) (mCons (mC (.bool true)) (mNil)))).map T.fz))) (mNilT))))
  (mSeq (mDrop (mMeth "dict" 4 gUpdD (mConsT (((mLT tDictP (mConsT ((mIL dRng2 (mCons (mVarF 2) (mCons (mC (.int 401)) (mNil)))).bind (mLc [6] (gN 6) ((m2 dIn (m2 dMod (mL dInt (mCons (mVarF 6) (mNil))) (mVarF 1)) (mVar 3)).bind tru) ((mL dTup (mCons (mVarF 6) (mCons (mC (.bool true)) (mNil)))).map T.fz))) (mNilT))).map T.er).map T.fz) (mNilT))))
  (mRt (mCall sem__law_table (mCons (mVarZ 4) (mCons (mC (.int 400)) (mNil)))))))))
noncomputable def sem__law_drawn_table : Sem := semOf [0] 6 m__law_drawn_table
structure U__law_drawn_table (P : Program) (w : World) (K : Frg) (mg : Str → Option Value) (base : Heap) : Prop where
  n_range : mg "range" = none
  n_dict : mg "dict" = none
  n_int : mg "int" = none
  d__law_some : Def P w K mg base "_law_some" 2 2 sem__law_some
  d__law_take : Def P w K mg base "_law_take" 1 2 sem__law_take
  d__law_table : Def P w K mg base "_law_table" 1 2 sem__law_table
theorem ok__law_drawn_table {P : Program} {w : World} {K : Frg} {mg : Str → Option Value} {base : Heap} {f : Addr} {fd : FuncData} (F : Fun K "_law_drawn_table" "_law_drawn_table" s__law_drawn_table f fd) (T : U__law_drawn_table P w K mg base) : FnG P w K mg base 3 f fd ["bag"] (spD K mg 1 sem__law_drawn_table) :=
  def_of F sc__law_drawn_table fun cdv A outer s H E room => by
    have nd := (sc__law_drawn_table).nd
    have hu7 := hu7_of room; have hu4 := hu4_of room; have hu5 := hu5_of room; have tk := tk_of (P := P) (w := w) (K := K) (mg := mg) (base := base) (N := N__law_drawn_table) (qual := "_law_drawn_table") (sc := defScope s__law_drawn_table) f cdv A outer s H E
    have pz := ps_of (P := P) (w := w) (K := K) (mg := mg) (base := base) (N := N__law_drawn_table) (qual := "_law_drawn_table") (sc := defScope s__law_drawn_table) f cdv A outer s H E
    exact (ss_cons (s_asg (o_tupO (ey_cons (Ex.own (Eo.freeze (o_callB T.d__law_some (room.mono (by decide)) tk (by rfl) (pv 0) (ea_cons (Eo.freeze (o_lst (ea_cons (ex_int) (ea_cons (ex_int) (ea_cons (ex_int) (ea_cons (ex_int) (ea_cons (ex_int) (ea_cons (ex_int) (ea_cons (ex_int) (ea_nil)))))))))) (ea_nil)) (hn := ln_cons (ln_nil))))) (ey_cons (Ex.own (Eo.freeze (o_callB T.d__law_some (room.mono (by decide)) tk (by rfl) (pv 0) (ea_cons (Eo.freeze (o_lst (ea_cons (ex_int) (ea_cons (ex_int) (ea_cons (ex_int) (ea_cons (ex_int) (ea_cons (ex_int) (ea_cons (ex_int) (ea_nil))))))))) (ea_nil)) (hn := ln_cons (ln_nil))))) (ey_nil)))) (g_tup rfl (gs_cons (g_name nd rfl (.inr rfl)) (gs_cons (g_name nd rfl (.inl rfl)) (gs_nil)))))
    (ss_cons (s_set nd rfl (.inr rfl) (o_lcI (own := [("k", 5)]) rfl nd (i_rng1 (by rfl) T.n_range (ea_cons (ef_name (pv 1)) (ea_nil))) (blkOk_by (N := N__law_drawn_table) (sc := defScope s__law_drawn_table) (by decide +kernel)) (fun _ _ _ _ _ => g_name nd rfl (.inl rfl) (others_no (by decide))) (fun _ _ _ _ _ => ets_one (t_eqS hu4 (Eo.freeze (o_callB T.d__law_take (room.mono (by decide)) takes0 (by rfl) (pv 0) (ea_cons (ex_int) (ea_nil)) (hn := ln_cons (ln_nil)))) (ex_int))) (fun _ _ _ _ _ => Eo.impure (Ex.own (ef_name (pv 5))))))
    (ss_cons (s_if (t_eqS hu4 (Eo.freeze (o_callB T.d__law_take (room.mono (by decide)) tk (by rfl) (pv 0) (ea_cons (ex_int) (ea_nil)) (hn := ln_cons (ln_nil)))) (ex_int)) (ss_one (s_set nd rfl (.inr rfl) (o_lst (ea_nil)))) (ss_nil))
    (ss_cons (s_set nd rfl (.inl rfl) (o_dictP rfl rfl T.n_dict (ey_cons (o_lcI (own := [("n", 6)]) rfl nd (i_rng1 (by rfl) T.n_range (ea_cons (ef_name (pv 2)) (ea_nil))) (blkOk_by (N := N__law_drawn_table) (sc := defScope s__law_drawn_table) (by decide +kernel)) (fun _ _ _ _ _ => g_name nd rfl (.inl rfl) (others_no (by decide))) (fun _ _ _ _ _ => ets_one (t_eqS hu4 (Eo.freeze (o_callB T.d__law_take (room.mono (by decide)) takes0 (by rfl) (pv 0) (ea_cons (ex_int) (ea_nil)) (hn := ln_cons (ln_nil)))) (ex_int))) (fun _ _ _ _ _ => Eo.impure (Ex.own (x_tup (ea_cons (ef_name (pv 6)) (ea_cons (ex_bl) (ea_nil))))))) (ey_nil))))
    (ss_cons (s_expr (o_meth PySem.F.plainAttrs_dict PySem.F.slot_dict_update PySem.F.type_dict_update mt_updD ms_updD (pv 4) (ey_cons (Ex.own (Eo.freeze (o_dictP rfl rfl T.n_dict (ey_cons (o_lc (own := [("n", 6)]) rfl nd (i_rng2 (by rfl) T.n_range (ea_cons (ef_name (pv 2)) (ea_cons (ex_int) (ea_nil)))) (blkOk_by (N := N__law_drawn_table) (sc := defScope s__law_drawn_table) (by decide +kernel)) (fun _ _ _ _ _ => g_name nd rfl (.inl rfl) (others_no (by decide))) (fun _ _ _ _ _ => ets_one (t_in hu5 rfl (Ex.toView (x_mod (b_int (by rfl) T.n_int (ea_cons (ef_name (pv 6)) (ea_nil))) (ef_name (pv 1)))) (ev_name (pv 3)))) (fun _ _ _ _ _ => Ex.own (x_tup (ea_cons (ef_name (pv 6)) (ea_cons (ex_bl) (ea_nil)))))) (ey_nil))))) (ey_nil))))
    (ss_one (s_ret (o_call T.d__law_table (room.mono (by decide)) tk (by rfl) (ea_cons (ez_name (pv 4)) (ea_cons (ex_int) (ea_nil))) (hn := ln_cons (ln_cons (ln_nil)))))))))))
/-! ### _law_are_up -/
abbrev s__law_are_up : Stmt := top 26
abbrev N__law_are_up : List Str := ["thing", "most", "one", "other"]
theorem sc__law_are_up : FnScope N__law_are_up ["thing", "most"] (defScope s__law_are_up) := ⟨rfl, rfl, rfl, by decide +kernel, rfl, by decide +kernel, by decide +kernel⟩
noncomputable def m__law_are_up : M Fl := mSeq (mIfS (tOrM (tNotM ((m1 (dIsi "tuple") (mVarF 0)).bind tru)) ((m2 dNe (((mI seqD (mVarF 0)).bind (mLc [2] (gN 2) (tOrM (tNotM (((mCall sem__law_is_int (mCons (mVarF 2) (mNil))).map T.er).bind tru)) (tNotM ((m3c dLe dLt (mC (.int 0)) (mVarF 2) (mVarF 1)).bind tru))) ((mC (.int 1)).map T.fz))).map T.er) ((mL dLst (mNil)).map T.er)).bind tru)) (mRt ((mC (.bool false)).map T.fz)) (mNx))
  (mRt ((m2 dEqS (((mIL dZip (mCons (mVarF 0) (mCons (mSlV (mVarF 0) (mBd (mC (.int 1))) (M.pure none)) (mNil)))).bind (mLc [2, 3] (gT 2 (gCons' (gN 2) (gCons' (gN 3) (gNil')))) ((m2 dGe (mVarF 2) (mVarF 3)).bind tru) ((mC (.int 1)).map T.fz))).map T.er) ((mL dLst (mNil)).map T.er)).map T.fz))
noncomputable def sem__law_are_up : Sem := semOf [] 2 m__law_are_up
structure U__law_are_up (P : Program) (w : World) (K : Frg) (mg : Str → Option Value) (base : Heap) : Prop where
  n_isinstance : mg "isinstance" = none
  n_tuple : mg "tuple" = none
  n_zip : mg "zip" = none
  d__law_is_int : Def P w K mg base "_law_is_int" 1 1 sem__law_is_int
theorem ok__law_are_up {P : Program} {w : World} {K : Frg} {mg : Str → Option Value} {base : Heap} {f : Addr} {fd : FuncData} (F : Fun K "_law_are_up" "_law_are_up" s__law_are_up f fd) (T : U__law_are_up P w K mg base) : FnG P w K mg base 2 f fd ["thing", "most"] (spD K mg 2 sem__law_are_up) :=
  def_of F sc__law_are_up fun cdv A outer s H E room => by
    have nd := (sc__law_are_up).nd
    have hu7 := hu7_of room; have hu4 := hu4_of room; have hu5 := hu5_of room; have tk := tk_of (P := P) (w := w) (K := K) (mg := mg) (base := base) (N := N__law_are_up) (qual := "_law_are_up") (sc := defScope s__law_are_up) f cdv A outer s H E
    have pz := ps_of (P := P) (w := w) (K := K) (mg := mg) (base := base) (N := N__law_are_up) (qual := "_law_are_up") (sc := defScope s__law_are_up) f cdv A outer s H E
    exact (ss_cons (s_if (Ew.pt (w_or (t_not (et_val (b_isi kit_tuple rfl T.n_isinstance (n_ty rfl T.n_tuple rfl) (ef_name (pv 0))))) (w_or1 (t_ne hu4 (Eo.freeze (o_lc (own := [("one", 2)]) rfl nd (i_seq (ef_name (pv 0))) (blkOk_by (N := N__law_are_up) (sc := defScope s__law_are_up) (by decide +kernel)) (fun _ _ _ _ _ => g_name nd rfl (.inl rfl) (others_no (by decide))) (fun _ _ _ _ _ => ets_one (Ew.pt (w_or (t_not (et_val (Eo.freeze (o_call T.d__law_is_int (room.mono (by decide)) takes0 (by rfl) (ea_cons (ef_name (pv 2)) (ea_nil)) (hn := ln_cons (ln_nil)))))) (w_or1 (t_not (t_leLt (ex_int) (ef_name (pv 2)) (ef_name (pv 1)))))))) (fun _ _ _ _ _ => Ex.own (ex_int)))) (Eo.freeze (o_lst (ea_nil))))))) (ss_one (s_ret (Ex.own (ex_bl)))) (ss_nil))
    (ss_one (s_ret (Ex.own (x_eqS hu4 (Eo.freeze (o_lc (own := [("one", 2), ("other", 3)]) rfl nd (i_zip (by rfl) T.n_zip (ea_cons (ef_name (pv 0)) (ea_cons (x_slice (ef_name (pv 0)) (eb_some (ex_int)) (eb_none)) (ea_nil)))) (blkOk_by (N := N__law_are_up) (sc := defScope s__law_are_up) (by decide +kernel)) (fun _ _ _ _ _ => g_tup rfl (gs_cons (g_name nd rfl (.inl rfl) (others_no (by decide))) (gs_cons (g_name nd rfl (.inl rfl) (others_no (by decide))) (gs_nil)))) (fun _ _ _ _ _ => ets_one (t_ge (ef_name (pv 2)) (ef_name (pv 3)))) (fun _ _ _ _ _ => Ex.own (ex_int)))) (Eo.freeze (o_lst (ea_nil))))))))
/-! ### _law_is_table -/
abbrev s__law_is_table : Stmt := top 25
abbrev N__law_is_table : List Str := ["thing", "numbers", "begin", "modulus", "rests", "times", "part", "k"]
theorem sc__law_is_table : FnScope N__law_is_table ["thing"] (defScope s__law_is_table) := ⟨rfl, rfl, rfl, by decide +kernel, rfl, by decide +kernel, by decide +kernel⟩
noncomputable def m__law_is_table : M Fl := mSeq (mIfS (tOrM (tNotM ((m1 (dIsi "tuple") (mVarF 0)).bind tru)) (tOrM ((m2 dNe (mL dLen (mCons (mVarF 0) (mNil))) (mC (.int 4))).bind tru) (tOrM (tNotM (((mCall sem__law_is_int (mCons (m2 dIx (mVarF 0) (mC (.int 1))) (mNil))).map T.er).bind tru)) (tNotM (((mCall sem__law_is_int (mCons (m2 dIx (mVarF 0) (mC (.int 2))) (mNil))).map T.er).bind tru))))) (mRt ((mC (.bool false)).map T.fz)) (mNx))
  (mSeq (mAsg ((mVarF 0).map T.fz) (gT 4 (gCons' (gN 1) (gCons' (gN 2) (gCons' (gN 3) (gCons' (gN 4) (gNil')))))))
  (mSeq (mIfS (tOrM ((m2 dLt (mVarF 2) (mC (.int 0))).bind tru) (tOrM ((m2 dLt (mVarF 3) (mC (.int 1))).bind tru) (tOrM (tNotM (((mCall sem__law_are_up (mCons (mVarF 1) (mCons (mVarF 2) (mNil)))).map T.er).bind tru)) (tNotM (((mCall sem__law_are_up (mCons (mVarF 4) (mCons (mVarF 3) (mNil)))).map T.er).bind tru))))) (mRt ((mC (.bool false)).map T.fz)) (mNx))
  (mSeq (mIfS (tAndM ((m2 dEqS (mVarF 4) (mL dTup (mNil))).bind tru) ((m2 dGt (mVarF 3) (mC (.int 1))).bind tru)) (mRt ((mC (.bool false)).map T.fz)) (mNx))
  (mSeq ((mIL dRng2 (mCons (mC (.int 2)) (mCons (m2 dAdd (mL dLen (mCons (mVarF 4) (mNil))) (mC (.int 1))) (mNil)))).bind fun ds => mFor (gN 5) (mSeq (mSet 6 ((m2 dDiv (mL dInt (mCons (mVarF 3) (mNil))) (mVarF 5)).map T.fz))
  (mIfS (tAndM ((m2 dEqS (m2 dMul (mVarF 6) (mVarF 5)) (mVarF 3)).bind tru) ((m2 dEqS (((mI seqD (mVarF 4)).bind (mLc [7] (gN 7) ((m2 dNotIn (m2 dMod (mL dInt (mCons (m2 dAdd (mVarF 7) (mVarF 6)) (mNil))) (mVarF 3)) (mVarF 4)).bind tru) ((mC (.int 1)).map T.fz))).map T.er) ((mL dLst (mNil)).map T.er)).bind tru)) (mRt ((mC (.bool false)).map T.fz)) (mNx))) ds)
  (mRt ((vOr (m2 dEqS (mVarF 2) (mC (.int 0))) (m2 dNe (m2 dIn (m2 dSub (mVarF 2) (mC (.int 1))) (mVarF 1)) (m2 dIn (m2 dMod (mL dInt (mCons (m2 dSub (mVarF 2) (mC (.int 1))) (mNil))) (mVarF 3)) (mVarF 4)))).map T.fz))))))
noncomputable def sem__law_is_table : Sem := semOf [] 7 m__law_is_table
structure U__law_is_table (P : Program) (w : World) (K : Frg) (mg : Str → Option Value) (base : Heap) : Prop where
  n_isinstance : mg "isinstance" = none
  n_tuple : mg "tuple" = none
  n_len : mg "len" = none
  n_range : mg "range" = none
  n_int : mg "int" = none
  d__law_is_int : Def P w K mg base "_law_is_int" 1 1 sem__law_is_int
  d__law_are_up : Def P w K mg base "_law_are_up" 2 2 sem__law_are_up
theorem ok__law_is_table {P : Program} {w : World} {K : Frg} {mg : Str → Option Value} {base : Heap} {f : Addr} {fd : FuncData} (F : Fun K "_law_is_table" "_law_is_table" s__law_is_table f fd) (T : U__law_is_table P w K mg base) : FnG P w K mg base 3 f fd ["thing"] (spD K mg 1 sem__law_is_table) :=
  def_of F sc__law_is_table fun cdv A outer s H E room => by
    have nd := (sc__law_is_table).nd
    have hu7 := hu7_of room; have hu4 := hu4_of room; have hu5 := hu5_of room; have tk := tk_of (P := P) (w := w) (K := K) (mg := mg) (base := base) (N := N__law_is_table) (qual := "_law_is_table") (sc := defScope s__law_is_table) f cdv A outer s H E
    have pz := ps_of (P := P) (w := w) (K := K) (mg := mg) (base := base) (N := N__law_is_table) (qual := "_law_is_table") (sc := defScope s__law_is_table) f cdv A outer s H E
    exact (ss_cons (s_if (Ew.pt (w_or (t_not (et_val (b_isi kit_tuple rfl T.n_isinstance (n_ty rfl T.n_tuple rfl) (ef_name (pv 0))))) (w_or (t_ne hu4 (b_len (by rfl) T.n_len (ea_cons (ef_name (pv 0)) (ea_nil))) (ex_int)) (w_or (t_not (et_val (Eo.freeze (o_call T.d__law_is_int (room.mono (by decide)) tk (by rfl) (ea_cons (x_ix (fun _ _ => rfl) (ef_name (pv 0)) (ex_int)) (ea_nil)) (hn := ln_cons (ln_nil)))))) (w_or1 (t_not (et_val (Eo.freeze (o_call T.d__law_is_int (room.mono (by decide)) tk (by rfl) (ea_cons (x_ix (fun _ _ => rfl) (ef_name (pv 0)) (ex_int)) (ea_nil)) (hn := ln_cons (ln_nil))))))))))) (ss_one (s_ret (Ex.own (ex_bl)))) (ss_nil))
    (ss_cons (s_asg (Ex.own (ef_name (pv 0))) (g_tup rfl (gs_cons (g_name nd rfl (.inl rfl)) (gs_cons (g_name nd rfl (.inl rfl)) (gs_cons (g_name nd rfl (.inr rfl)) (gs_cons (g_name nd rfl (.inr rfl)) (gs_nil)))))))
    (ss_cons (s_if (Ew.pt (w_or (t_lt (ef_name (pv 2)) (ex_int)) (w_or (t_lt (ef_name (pv 3)) (ex_int)) (w_or (t_not (et_val (Eo.freeze (o_call T.d__law_are_up (room.mono (by decide)) tk (by rfl) (ea_cons (ef_name (pv 1)) (ea_cons (ef_name (pv 2)) (ea_nil))) (hn := ln_cons (ln_cons (ln_nil))))))) (w_or1 (t_not (et_val (Eo.freeze (o_call T.d__law_are_up (room.mono (by decide)) tk (by rfl) (ea_cons (ef_name (pv 4)) (ea_cons (ef_name (pv 3)) (ea_nil))) (hn := ln_cons (ln_cons (ln_nil)))))))))))) (ss_one (s_ret (Ex.own (ex_bl)))) (ss_nil))
    (ss_cons (s_if (Ew.pt (w_and (t_eqS hu4 (ef_name (pv 4)) (x_tup (ea_nil))) (w_and1 (t_gt (ef_name (pv 3)) (ex_int))))) (ss_one (s_ret (Ex.own (ex_bl)))) (ss_nil))
    (ss_cons (s_for pz rfl (i_rng2 (by rfl) T.n_range (ea_cons (ex_int) (ea_cons (x_add (b_len (by rfl) T.n_len (ea_cons (ef_name (pv 4)) (ea_nil))) (ex_int)) (ea_nil)))) (g_name nd rfl (.inl rfl)) (ss_cons (s_set nd rfl (.inr rfl) (Ex.own (x_div (b_int (by rfl) T.n_int (ea_cons (ef_name (pv 3)) (ea_nil))) (ef_name (pv 5)))))
    (ss_one (s_if (Ew.pt (w_and (t_eqS hu4 (x_mul (ef_name (pv 6)) (ef_name (pv 5))) (ef_name (pv 3))) (w_and1 (t_eqS hu4 (Eo.freeze (o_lc (own := [("k", 7)]) rfl nd (i_seq (ef_name (pv 4))) (blkOk_by (N := N__law_is_table) (sc := defScope s__law_is_table) (by decide +kernel)) (fun _ _ _ _ _ => g_name nd rfl (.inl rfl) (others_no (by decide))) (fun _ _ _ _ _ => ets_one (t_notIn hu5 rfl (x_mod (b_int (by rfl) T.n_int (ea_cons (x_add (ef_name (pv 7)) (ef_name (pv 6))) (ea_nil))) (ef_name (pv 3))) (ef_name (pv 4)))) (fun _ _ _ _ _ => Ex.own (ex_int)))) (Eo.freeze (o_lst (ea_nil))))))) (ss_one (s_ret (Ex.own (ex_bl)))) (ss_nil)))))
    (ss_one (s_ret (Ex.own (x_or (x_eqS hu4 (ef_name (pv 2)) (ex_int)) (x_one (x_ne hu4 (x_in hu5 rfl (x_sub (ef_name (pv 2)) (ex_int)) (ef_name (pv 1))) (x_in hu5 rfl (x_mod (b_int (by rfl) T.n_int (ea_cons (x_sub (ef_name (pv 2)) (ex_int)) (ea_nil))) (ef_name (pv 3))) (ef_name (pv 4))))))))))))))
/-! ### _law_shown -/
abbrev s__law_shown : Stmt := top 27
abbrev N__law_shown : List Str := ["table", "most", "n"]
theorem sc__law_shown : FnScope N__law_shown ["table", "most"] (defScope s__law_shown) := ⟨rfl, rfl, rfl, by decide +kernel, rfl, by decide +kernel, by decide +kernel⟩
noncomputable def m__law_shown : M Fl := mRt (mLT tDictP (mConsT ((mIL dRng1 (mCons (m2 dAdd (mVarF 1) (mC (.int 1))) (mNil))).bind (mLc [2] (gN 2) (((mCall sem__law_has (mCons (mVarF 0) (mCons (mVarF 2) (mNil)))).map T.er).bind tru) ((mL dTup (mCons (mVarF 2) (mCons (mC (.bool true)) (mNil)))).map T.fz))) (mNilT)))
noncomputable def sem__law_shown : Sem := semOf [] 1 m__law_shown
structure U__law_shown (P : Program) (w : World) (K : Frg) (mg : Str → Option Value) (base : Heap) : Prop where
  n_range : mg "range" = none
  n_dict : mg "dict" = none
  d__law_has : Def P w K mg base "_law_has" 1 2 sem__law_has
theorem ok__law_shown {P : Program} {w : World} {K : Frg} {mg : Str → Option Value} {base : Heap} {f : Addr} {fd : FuncData} (F : Fun K "_law_shown" "_law_shown" s__law_shown f fd) (T : U__law_shown P w K mg base) : FnG P w K mg base 2 f fd ["table", "most"] (spD K mg 2 sem__law_shown) :=
  def_of F sc__law_shown fun cdv A outer s H E room => by
    have nd := (sc__law_shown).nd
    have hu7 := hu7_of room; have hu4 := hu4_of room; have hu5 := hu5_of room; have tk := tk_of (P := P) (w := w) (K := K) (mg := mg) (base := base) (N := N__law_shown) (qual := "_law_shown") (sc := defScope s__law_shown) f cdv A outer s H E
    have pz := ps_of (P := P) (w := w) (K := K) (mg := mg) (base := base) (N := N__law_shown) (qual := "_law_shown") (sc := defScope s__law_shown) f cdv A outer s H E
    exact (ss_one (s_ret (o_dictP rfl rfl T.n_dict (ey_cons (o_lc (own := [("n", 2)]) rfl nd (i_rng1 (by rfl) T.n_range (ea_cons (x_add (ef_name (pv 1)) (ex_int)) (ea_nil))) (blkOk_by (N := N__law_shown) (sc := defScope s__law_shown) (by decide +kernel)) (fun _ _ _ _ _ => g_name nd rfl (.inl rfl) (others_no (by decide))) (fun _ _ _ _ _ => ets_one (et_val (Eo.freeze (o_call T.d__law_has (room.mono (by decide)) takes0 (by rfl) (ea_cons (ef_name (pv 0)) (ea_cons (ef_name (pv 2)) (ea_nil))) (hn := ln_cons (ln_cons (ln_nil))))))) (fun _ _ _ _ _ => Ex.own (x_tup (ea_cons (ef_name (pv 2)) (ea_cons (ex_bl) (ea_nil)))))) (ey_nil)))))
/-! ### law -/
abbrev s_law : Stmt := top 28
abbrev N_law : List Str := ["script", "bag", "turn", "one", "other", "by", "shown", "there", "due", "both", "number", "bent", "near", "thing", "later", "again", "n", "k"]
theorem sc_law : FnScope N_law ["script"] (defScope s_law) := ⟨rfl, rfl, rfl, by decide +kernel, rfl, by decide +kernel, by decide +kernel⟩
noncomputable def m_law : M Fl := mSeq (mSet 1 (mCall sem__law_bag (mCons (mVarF 0) (mNil))))
  (mSeq ((mIL dRng1 (mCons (mC (.int 4)) (mNil))).bind fun ds => mFor (gN 2) (mSeq (mAsg (mLT tTupO (mConsT ((((mHas 1).bind fun _ => mCallB sem__law_drawn_table 1 (mNil)).map T.er).map T.fz) (mConsT ((((mHas 1).bind fun _ => mCallB sem__law_drawn_table 1 (mNil)).map T.er).map T.fz) (mConsT ((((mHas 1).bind fun _ => mCallB sem__law_some 1 (mCons ((mL dLst (mCons (mC (.int 1)) (mCons (mC (.int 0)) (mCons (mC (.int 7)) (mCons (mC (.int 40)) (mNil)))))).map T.er) (mNil))).map T.er).map T.fz) (mNilT))))) (gT 3 (gCons' (gN 3) (gCons' (gN 4) (gCons' (gN 5) (gNil'))))))
  (mSeq (mSet 6 ((mL dRepr (mCons ((mL dLst (mCons (mVarF 3) (mCons (mVarF 4) (mNil)))).map T.er) (mNil))).map T.fz))
  (mSeq (mSet 7 (((mCall sem__law_shown (mCons (mVarF 3) (mCons (mC (.int 2000)) (mNil)))).map T.er).map T.fz))
  (mSeq (mSet 8 (((mCall sem__law_table (mCons ((mLT tDictP (mConsT (mNoX ((mKs (sVar 7)).bind (mLc [16] (gN 16) ((m2 dLe (m2 dAdd (mVarF 16) (mVarF 5)) (mC (.int 2000))).bind tru) ((mL dTup (mCons (m2 dAdd (mVarF 16) (mVarF 5)) (mCons (mC (.bool true)) (mNil)))).map T.fz)))) (mNilT))).map T.er) (mCons (mC (.int 2000)) (mNil)))).map T.er).map T.fz))
  (mSeq (mIfS (tNotM (((mCall sem__law_alike (mCons ((mCall sem_moved (mCons (mVarF 3) (mCons (mVarF 5) (mNil)))).map T.er) (mCons (mVarF 8) (mNil)))).map T.er).bind tru)) (mRt ((mC (.bool false)).map T.fz)) (mNx))
  (mSeq (mSet 9 (((mCall sem__law_table (mCons ((mLT tDictP (mConsT (mNoX ((mKs (sVar 7)).bind (mLc [16] (gN 16) (((mCall sem__law_has (mCons (mVarF 4) (mCons (mVarF 16) (mNil)))).map T.er).bind tru) ((mL dTup (mCons (mVarF 16) (mCons (mC (.bool true)) (mNil)))).map T.fz)))) (mNilT))).map T.er) (mCons (mC (.int 2000)) (mNil)))).map T.er).map T.fz))
  (mSeq (mIfS (tNotM (((mCall sem__law_alike (mCons ((mL dLst (mCons ((mCall sem_in_both (mCons (mVarF 3) (mCons (mVarF 4) (mNil)))).map T.er) (mCons ((mCall sem_in_both (mCons (mVarF 4) (mCons (mVarF 3) (mNil)))).map T.er) (mNil)))).map T.er) (mCons ((mL dLst (mCons (mVarF 9) (mCons (mVarF 9) (mNil)))).map T.er) (mNil)))).map T.er).bind tru)) (mRt ((mC (.bool false)).map T.fz)) (mNx))
  (mSeq ((mI seqD (mL dTup (mCons (m1 dNeg (mC (.int 5))) (mCons (m1 dNeg (mC (.int 1))) (mCons (mC (.int 0)) (mCons (mC (.int 3)) (mCons (((mHas 1).bind fun _ => mCallB sem__law_take 1 (mCons (mC (.int 60)) (mNil))).map T.er) (mCons (m2 dPow (mC (.int 10)) (mC (.int 39))) (mCons (m2 dIx (mVarF 3) (mC (.int 1))) (mNil)))))))))).bind fun ds => mFor (gN 10) (mSeq (mIfS (tNotM (((mCall sem__law_alike (mCons ((mCall sem_has (mCons (mVarF 3) (mCons (mVarF 10) (mNil)))).map T.er) (mCons ((mCall sem__law_has (mCons (mVarF 3) (mCons (mVarF 10) (mNil)))).map T.er) (mNil)))).map T.er).bind tru)) (mRt ((mC (.bool false)).map T.fz)) (mNx))
  (mSeq (mSet 14 ((mIL dRng2A (mCons (mL dMax2 (mCons (mC (.int 0)) (mCons (mVarF 10) (mNil)))) (mCons (m2 dAdd (m2 dAdd (m2 dAdd (mL dMax2 (mCons (mC (.int 0)) (mCons (mVarF 10) (mNil)))) (m2 dIx (mVarF 3) (mC (.int 1)))) (m2 dIx (mVarF 3) (mC (.int 2)))) (mC (.int 1))) (mNil)))).bind (mLc [16] (gN 16) (tAndM ((m2 dLt (mVarF 10) (mC (.int 500))).bind tru) (((mCall sem__law_has (mCons (mVarF 3) (mCons (mVarF 16) (mNil)))).map T.er).bind tru)) ((mVarF 16).map T.fz))))
  (mIfS (tAndM ((m2 dLt (mVarF 10) (mC (.int 500))).bind tru) (tNotM (((mCall sem__law_alike (mCons ((mCall sem_next_in (mCons (mVarF 3) (mCons (mVarF 10) (mNil)))).map T.er) (mCons (mIf ((m2 dNe (mVar 14) ((mL dLst (mNil)).map T.er)).bind tru) (mL dMinL (mCons (mVar 14) (mNil))) (mC .none)) (mNil)))).map T.er).bind tru))) (mRt ((mC (.bool false)).map T.fz)) (mNx)))) ds)
  (mSeq (mSet 11 ((mIL dRng1 (mCons (mC (.int 4)) (mNil))).bind (mLcI [15] (gN 15) (M.pure true) ((((mHas 1).bind fun _ => mCallB (sem__law_bent 4) 1 (mCons (mVarF 3) (mCons (mC (.int 3)) (mNil)))).map T.er).map T.fz))))
  (mSeq (mSet 12 (mL dLst (mCons (mL dTup (mCons (m2 dIx (mVarF 3) (mC (.int 0))) (mCons (m2 dIx (mVarF 3) (mC (.int 1))) (mCons (m2 dMul (m2 dIx (mVarF 3) (mC (.int 2))) (mC (.int 2))) (mCons (mL dTuple (mCons ((mL dSortTup (mCons (m2 dAdd (m2 dIx (mVarF 3) (mC (.int 3))) (mL dTuple (mCons (((mI seqD (m2 dIx (mVarF 3) (mC (.int 3)))).bind (mLc [17] (gN 17) (M.pure true) ((m2 dAdd (mVarF 17) (m2 dIx (mVarF 3) (mC (.int 2)))).map T.fz))).map T.er) (mNil)))) (mNil))).map T.er) (mNil))) (mNil)))))) (mCons (m2 dAdd (mSlV (mVarF 3) (M.pure none) (mBd (mC (.int 3)))) (mL dTup (mCons (mSlV (m2 dIx (mVarF 3) (mC (.int 3))) (mBd (mC (.int 1))) (M.pure none)) (mNil)))) (mNil)))))
  (mSeq (mDrop (mMeth "list" 12 gExtA (mConsT (((mL dLst (mCons (mL dTup (mCons (m2 dAdd (m2 dIx (mVarF 3) (mC (.int 0))) (mL dTup (mCons (m2 dIx (mVarF 3) (mC (.int 1))) (mNil)))) (mCons (m2 dAdd (m2 dIx (mVarF 3) (mC (.int 1))) (mC (.int 1))) (mCons (m2 dIx (mVarF 3) (mC (.int 2))) (mCons (m2 dIx (mVarF 3) (mC (.int 3))) (mNil)))))) (mCons ((mL dList (mCons (mVarF 3) (mNil))).map T.er) (mCons (mSlV (mVarF 3) (M.pure none) (mBd (mC (.int 3)))) (mCons (mL dTup (mCons (m2 dIx (mVarF 3) (mC (.int 0))) (mCons (m2 dAdd (m2 dIx (mVarF 3) (mC (.int 1))) (mC (.int 1))) (mCons (m2 dIx (mVarF 3) (mC (.int 2))) (mCons (m2 dIx (mVarF 3) (mC (.int 3))) (mNil)))))) (mNil)))))).map T.er).map T.fz) (mNilT))))
  (mSeq ((mI seqD ((m2 dCatL ((mCatE (((mCatE (((mL dLst (mCons (mVarF 3) (mCons (mVarF 4) (mNil)))).map T.er).bind fun d => M.lift (listD d)) (mItems 11)).map T.er).bind fun d => M.lift (listD d)) (mItems 12)).map T.er) ((mL dLst (mCons (((mHas 1).bind fun _ => mCallB sem__law_odd 1 (mNil)).map T.er) (mNil))).map T.er)).map T.er)).bind fun ds => mFor (gN 13) (mIfS (tNotM (((mCall sem__law_alike (mCons ((mCall sem_is_table (mCons (mVarF 13) (mNil))).map T.er) (mCons ((mCall sem__law_is_table (mCons (mVarF 13) (mNil))).map T.er) (mNil)))).map T.er).bind tru)) (mRt ((mC (.bool false)).map T.fz)) (mNx)) ds)
  (mIfS ((m2 dNeS (mL dRepr (mCons ((mL dLst (mCons (mVarF 3) (mCons (mVarF 4) (mNil)))).map T.er) (mNil))) (mVarF 6)).bind tru) (mRt ((mC (.bool false)).map T.fz)) (mNx)))))))))))))) ds)
  (mRt ((mC (.bool true)).map T.fz)))
noncomputable def sem_law : Sem := semOf [] 17 m_law
structure U_law (P : Program) (w : World) (K : Frg) (mg : Str → Option Value) (base : Heap) : Prop where
  n_range : mg "range" = none
  n_repr : mg "repr" = none
  n_dict : mg "dict" = none
  n_max : mg "max" = none
  n_min : mg "min" = none
  n_tuple : mg "tuple" = none
  n_sorted : mg "sorted" = none
  n_list : mg "list" = none
  d__law_bag : Def P w K mg base "_law_bag" 1 1 sem__law_bag
  d__law_drawn_table : Def P w K mg base "_law_drawn_table" 3 1 sem__law_drawn_table
  d__law_some : Def P w K mg base "_law_some" 2 2 sem__law_some
  d__law_shown : Def P w K mg base "_law_shown" 2 2 sem__law_shown
  d__law_table : Def P w K mg base "_law_table" 1 2 sem__law_table
  d__law_alike : Def P w K mg base "_law_alike" 1 2 sem__law_alike
  d_moved : Def P w K mg base "moved" 1 2 sem_moved
  d__law_has : Def P w K mg base "_law_has" 1 2 sem__law_has
  d_in_both : Def P w K mg base "in_both" 2 2 sem_in_both
  d__law_take : Def P w K mg base "_law_take" 1 2 sem__law_take
  d_has : Def P w K mg base "has" 1 2 sem_has
  d_next_in : Def P w K mg base "next_in" 2 2 sem_next_in
  d__law_bent : Def P w K mg base "_law_bent" 8 3 (sem__law_bent 4)
  d__law_odd : Def P w K mg base "_law_odd" 3 1 sem__law_odd
  d_is_table : Def P w K mg base "is_table" 4 1 sem_is_table
  d__law_is_table : Def P w K mg base "_law_is_table" 3 1 sem__law_is_table
theorem ok_law {P : Program} {w : World} {K : Frg} {mg : Str → Option Value} {base : Heap} {f : Addr} {fd : FuncData} (F : Fun K "law" "law" s_law f fd) (T : U_law P w K mg base) : FnG P w K mg base 9 f fd ["script"] (spD K mg 1 sem_law) :=
  def_of F sc_law fun cdv A outer s H E room => by
    have nd := (sc_law).nd
    have hu7 := hu7_of room; have hu4 := hu4_of room; have hu5 := hu5_of room; have tk := tk_of (P := P) (w := w) (K := K) (mg := mg) (base := base) (N := N_law) (qual := "law") (sc := defScope s_law) f cdv A outer s H E
    have pz := ps_of (P := P) (w := w) (K := K) (mg := mg) (base := base) (N := N_law) (qual := "law") (sc := defScope s_law) f cdv A outer s H E
    exact (ss_cons (s_set nd rfl (.inr rfl) (o_call T.d__law_bag (room.mono (by decide)) tk (by rfl) (ea_cons (ef_name (pv 0)) (ea_nil)) (hn := ln_cons (ln_nil))))
    (ss_cons (s_for pz rfl (i_rng1 (by rfl) T.n_range (ea_cons (ex_int) (ea_nil))) (g_name nd rfl (.inl rfl)) (ss_cons (s_asg (o_tupO (ey_cons (Ex.own (Eo.freeze (o_callB T.d__law_drawn_table (room.mono (by decide)) tk (by rfl) (pv 1) (ea_nil) (hn := ln_nil)))) (ey_cons (Ex.own (Eo.freeze (o_callB T.d__law_drawn_table (room.mono (by decide)) tk (by rfl) (pv 1) (ea_nil) (hn := ln_nil)))) (ey_cons (Ex.own (Eo.freeze (o_callB T.d__law_some (room.mono (by decide)) tk (by rfl) (pv 1) (ea_cons (Eo.freeze (o_lst (ea_cons (ex_int) (ea_cons (ex_int) (ea_cons (ex_int) (ea_cons (ex_int) (ea_nil))))))) (ea_nil)) (hn := ln_cons (ln_nil))))) (ey_nil))))) (g_tup rfl (gs_cons (g_name nd rfl (.inr rfl)) (gs_cons (g_name nd rfl (.inr rfl)) (gs_cons (g_name nd rfl (.inr rfl)) (gs_nil))))))
    (ss_cons (s_set nd rfl (.inl rfl) (Ex.own (b_repr hu7 room.gd (by rfl) T.n_repr (ea_cons (Eo.freeze (o_lst (ea_cons (ef_name (pv 3)) (ea_cons (ef_name (pv 4)) (ea_nil))))) (ea_nil)))))
    (ss_cons (s_set nd rfl (.inl rfl) (Ex.own (Eo.freeze (o_call T.d__law_shown (room.mono (by decide)) tk (by rfl) (ea_cons (ef_name (pv 3)) (ea_cons (ex_int) (ea_nil))) (hn := ln_cons (ln_cons (ln_nil)))))))
    (ss_cons (s_set nd rfl (.inl rfl) (Ex.own (Eo.freeze (o_call T.d__law_table (room.mono (by decide)) tk (by rfl) (ea_cons (Eo.freeze (o_dictP rfl rfl T.n_dict (ey_cons (o_lcK (own := [("n", 16)]) rfl nd (i_keysL (es_name (pv 7))) (blkOk_by (N := N_law) (sc := defScope s_law) (by decide +kernel)) (fun _ _ _ _ _ => g_name nd rfl (.inl rfl) (others_no (by decide))) (fun _ _ _ _ _ => ets_one (t_le (x_add (ef_name (pv 16)) (ef_name (pv 5))) (ex_int))) (fun _ _ _ _ _ => Ex.own (x_tup (ea_cons (x_add (ef_name (pv 16)) (ef_name (pv 5))) (ea_cons (ex_bl) (ea_nil)))))) (ey_nil)))) (ea_cons (ex_int) (ea_nil))) (hn := ln_cons (ln_cons (ln_nil)))))))
    (ss_cons (s_if (t_not (et_val (Eo.freeze (o_call T.d__law_alike (room.mono (by decide)) tk (by rfl) (ea_cons (Eo.freeze (o_call T.d_moved (room.mono (by decide)) tk (by rfl) (ea_cons (ef_name (pv 3)) (ea_cons (ef_name (pv 5)) (ea_nil))) (hn := ln_cons (ln_cons (ln_nil))))) (ea_cons (ef_name (pv 8)) (ea_nil))) (hn := ln_cons (ln_cons (ln_nil))))))) (ss_one (s_ret (Ex.own (ex_bl)))) (ss_nil))
    (ss_cons (s_set nd rfl (.inl rfl) (Ex.own (Eo.freeze (o_call T.d__law_table (room.mono (by decide)) tk (by rfl) (ea_cons (Eo.freeze (o_dictP rfl rfl T.n_dict (ey_cons (o_lcK (own := [("n", 16)]) rfl nd (i_keysL (es_name (pv 7))) (blkOk_by (N := N_law) (sc := defScope s_law) (by decide +kernel)) (fun _ _ _ _ _ => g_name nd rfl (.inl rfl) (others_no (by decide))) (fun _ _ _ _ _ => ets_one (et_val (Eo.freeze (o_call T.d__law_has (room.mono (by decide)) takes0 (by rfl) (ea_cons (ef_name (pv 4)) (ea_cons (ef_name (pv 16)) (ea_nil))) (hn := ln_cons (ln_cons (ln_nil))))))) (fun _ _ _ _ _ => Ex.own (x_tup (ea_cons (ef_name (pv 16)) (ea_cons (ex_bl) (ea_nil)))))) (ey_nil)))) (ea_cons (ex_int) (ea_nil))) (hn := ln_cons (ln_cons (ln_nil)))))))
    (ss_cons (s_if (t_not (et_val (Eo.freeze (o_call T.d__law_alike (room.mono (by decide)) tk (by rfl) (ea_cons (Eo.freeze (o_lst (ea_cons (Eo.freeze (o_call T.d_in_both (room.mono (by decide)) tk (by rfl) (ea_cons (ef_name (pv 3)) (ea_cons (ef_name (pv 4)) (ea_nil))) (hn := ln_cons (ln_cons (ln_nil))))) (ea_cons (Eo.freeze (o_call T.d_in_both (room.mono (by decide)) tk (by rfl) (ea_cons (ef_name (pv 4)) (ea_cons (ef_name (pv 3)) (ea_nil))) (hn := ln_cons (ln_cons (ln_nil))))) (ea_nil))))) (ea_cons (Eo.freeze (o_lst (ea_cons (ef_name (pv 9)) (ea_cons (ef_name (pv 9)) (ea_nil))))) (ea_nil))) (hn := ln_cons (ln_cons (ln_nil))))))) (ss_one (s_ret (Ex.own (ex_bl)))) (ss_nil))
    (ss_cons (s_for pz rfl (i_seq (x_tup (ea_cons (x_neg (ex_int)) (ea_cons (x_neg (ex_int)) (ea_cons (ex_int) (ea_cons (ex_int) (ea_cons (Eo.freeze (o_callB T.d__law_take (room.mono (by decide)) tk (by rfl) (pv 1) (ea_cons (ex_int) (ea_nil)) (hn := ln_cons (ln_nil)))) (ea_cons (x_pow (ex_int) (ex_int)) (ea_cons (x_ix (fun _ _ => rfl) (ef_name (pv 3)) (ex_int)) (ea_nil)))))))))) (g_name nd rfl (.inr rfl)) (ss_cons (s_if (t_not (et_val (Eo.freeze (o_call T.d__law_alike (room.mono (by decide)) tk (by rfl) (ea_cons (Eo.freeze (o_call T.d_has (room.mono (by decide)) tk (by rfl) (ea_cons (ef_name (pv 3)) (ea_cons (ef_name (pv 10)) (ea_nil))) (hn := ln_cons (ln_cons (ln_nil))))) (ea_cons (Eo.freeze (o_call T.d__law_has (room.mono (by decide)) tk (by rfl) (ea_cons (ef_name (pv 3)) (ea_cons (ef_name (pv 10)) (ea_nil))) (hn := ln_cons (ln_cons (ln_nil))))) (ea_nil))) (hn := ln_cons (ln_cons (ln_nil))))))) (ss_one (s_ret (Ex.own (ex_bl)))) (ss_nil))
    (ss_cons (s_setLc (own := [("n", 16)]) rfl nd rfl rfl (i_rng2A rfl T.n_range (ea_cons (b_max2 (by rfl) (by rfl) T.n_max (ea_cons (ex_int) (ea_cons (ef_name (pv 10)) (ea_nil)))) (ea_cons (x_add (x_add (x_add (b_max2 (by rfl) (by rfl) T.n_max (ea_cons (ex_int) (ea_cons (ef_name (pv 10)) (ea_nil)))) (x_ix (fun _ _ => rfl) (ef_name (pv 3)) (ex_int))) (x_ix (fun _ _ => rfl) (ef_name (pv 3)) (ex_int))) (ex_int)) (ea_nil)))) (blkOk_by (N := N_law) (sc := defScope s_law) (by decide +kernel)) (fun _ _ _ _ _ => g_name nd rfl (.inl rfl) (others_no (by decide))) (fun _ _ _ _ _ => ets_one (Ew.pt (w_and (t_lt (ef_name (pv 10)) (ex_int)) (w_and1 (et_val (Eo.freeze (o_call T.d__law_has (room.mono (by decide)) takes0 (by rfl) (ea_cons (ef_name (pv 3)) (ea_cons (ef_name (pv 16)) (ea_nil))) (hn := ln_cons (ln_cons (ln_nil)))))))))) (fun _ _ _ _ _ => Ex.own (ef_name (pv 16))))
    (ss_one (s_if (Ew.pt (w_and (t_lt (ef_name (pv 10)) (ex_int)) (w_and1 (t_not (et_val (Eo.freeze (o_call T.d__law_alike (room.mono (by decide)) tk (by rfl) (ea_cons (Eo.freeze (o_call T.d_next_in (room.mono (by decide)) tk (by rfl) (ea_cons (ef_name (pv 3)) (ea_cons (ef_name (pv 10)) (ea_nil))) (hn := ln_cons (ln_cons (ln_nil))))) (ea_cons (x_if (t_ne hu4 (ev_name (pv 14)) (Ex.toView (Eo.freeze (o_lst (ea_nil))))) (b_min (by rfl) (by rfl) T.n_min (ea_cons (ev_name (pv 14)) (ea_nil))) (ex_non)) (ea_nil))) (hn := ln_cons (ln_cons (ln_nil)))))))))) (ss_one (s_ret (Ex.own (ex_bl)))) (ss_nil))))))
    (ss_cons (s_setLcI (own := [("again", 15)]) rfl nd rfl rfl (i_rng1 (by rfl) T.n_range (ea_cons (ex_int) (ea_nil))) (blkOk_by (N := N_law) (sc := defScope s_law) (by decide +kernel)) (fun _ _ _ _ _ => g_name nd rfl (.inl rfl) (others_no (by decide))) (fun _ _ _ _ _ => Ets.impure (ets_nil)) (fun _ _ _ _ _ => Ex.own (Eo.freeze (o_callB T.d__law_bent (room.mono (by decide)) takes0 (by rfl) (pv 1) (ea_cons (ef_name (pv 3)) (ea_cons (ex_int) (ea_nil))) (hn := ln_cons (ln_cons (ln_nil)))))))
    (ss_cons (s_set nd rfl (.inl rfl) (o_lst (ea_cons (x_tup (ea_cons (x_ix (fun _ _ => rfl) (ef_name (pv 3)) (ex_int)) (ea_cons (x_ix (fun _ _ => rfl) (ef_name (pv 3)) (ex_int)) (ea_cons (x_mul (x_ix (fun _ _ => rfl) (ef_name (pv 3)) (ex_int)) (ex_int)) (ea_cons (b_tuple (by rfl) T.n_tuple (ea_cons (Eo.freeze (b_sortTup hu7 (by rfl) T.n_sorted (ea_cons (x_add (x_ix (fun _ _ => rfl) (ef_name (pv 3)) (ex_int)) (b_tuple (by rfl) T.n_tuple (ea_cons (Eo.freeze (o_lc (own := [("k", 17)]) rfl nd (i_seq (x_ix (fun _ _ => rfl) (ef_name (pv 3)) (ex_int))) (blkOk_by (N := N_law) (sc := defScope s_law) (by decide +kernel)) (fun _ _ _ _ _ => g_name nd rfl (.inl rfl) (others_no (by decide))) (fun _ _ _ _ _ => ets_nil) (fun _ _ _ _ _ => Ex.own (x_add (ef_name (pv 17)) (x_ix (fun _ _ => rfl) (ef_name (pv 3)) (ex_int)))))) (ea_nil)))) (ea_nil)))) (ea_nil))) (ea_nil)))))) (ea_cons (x_add (x_slice (ef_name (pv 3)) (eb_none) (eb_some (ex_int))) (x_tup (ea_cons (x_slice (x_ix (fun _ _ => rfl) (ef_name (pv 3)) (ex_int)) (eb_some (ex_int)) (eb_none)) (ea_nil)))) (ea_nil)))))
    (ss_cons (s_expr (o_meth PySem.F.plainAttrs_list PySem.F.slot_list_extend PySem.F.type_list_extend mt_extA ms_extA (pv 12) (ey_cons (Ex.own (Eo.freeze (o_lst (ea_cons (x_tup (ea_cons (x_add (x_ix (fun _ _ => rfl) (ef_name (pv 3)) (ex_int)) (x_tup (ea_cons (x_ix (fun _ _ => rfl) (ef_name (pv 3)) (ex_int)) (ea_nil)))) (ea_cons (x_add (x_ix (fun _ _ => rfl) (ef_name (pv 3)) (ex_int)) (ex_int)) (ea_cons (x_ix (fun _ _ => rfl) (ef_name (pv 3)) (ex_int)) (ea_cons (x_ix (fun _ _ => rfl) (ef_name (pv 3)) (ex_int)) (ea_nil)))))) (ea_cons (Eo.freeze (b_list (by rfl) T.n_list (ea_cons (ef_name (pv 3)) (ea_nil)))) (ea_cons (x_slice (ef_name (pv 3)) (eb_none) (eb_some (ex_int))) (ea_cons (x_tup (ea_cons (x_ix (fun _ _ => rfl) (ef_name (pv 3)) (ex_int)) (ea_cons (x_add (x_ix (fun _ _ => rfl) (ef_name (pv 3)) (ex_int)) (ex_int)) (ea_cons (x_ix (fun _ _ => rfl) (ef_name (pv 3)) (ex_int)) (ea_cons (x_ix (fun _ _ => rfl) (ef_name (pv 3)) (ex_int)) (ea_nil)))))) (ea_nil)))))))) (ey_nil))))
    (ss_cons (s_for pz rfl (i_seq (Eo.freeze (o_addL (Eo.freeze (o_catE (el_frz (Eo.freeze (o_catE (el_frz (Eo.freeze (o_lst (ea_cons (ef_name (pv 3)) (ea_cons (ef_name (pv 4)) (ea_nil)))))) (el_name (pv 11))))) (el_name (pv 12)))) (Eo.freeze (o_lst (ea_cons (Eo.freeze (o_callB T.d__law_odd (room.mono (by decide)) tk (by rfl) (pv 1) (ea_nil) (hn := ln_nil))) (ea_nil))))))) (g_name nd rfl (.inl rfl)) (ss_one (s_if (t_not (et_val (Eo.freeze (o_call T.d__law_alike (room.mono (by decide)) tk (by rfl) (ea_cons (Eo.freeze (o_call T.d_is_table (room.mono (by decide)) tk (by rfl) (ea_cons (ef_name (pv 13)) (ea_nil)) (hn := ln_cons (ln_nil)))) (ea_cons (Eo.freeze (o_call T.d__law_is_table (room.mono (by decide)) tk (by rfl) (ea_cons (ef_name (pv 13)) (ea_nil)) (hn := ln_cons (ln_nil)))) (ea_nil))) (hn := ln_cons (ln_cons (ln_nil))))))) (ss_one (s_ret (Ex.own (ex_bl)))) (ss_nil))))
    (ss_one (s_if (t_neS hu4 (b_repr hu7 room.gd (by rfl) T.n_repr (ea_cons (Eo.freeze (o_lst (ea_cons (ef_name (pv 3)) (ea_cons (ef_name (pv 4)) (ea_nil))))) (ea_nil))) (ef_name (pv 6))) (ss_one (s_ret (Ex.own (ex_bl)))) (ss_nil))))))))))))))))
    (ss_one (s_ret (Ex.own (ex_bl))))))
end DL
namespace DL
open PySem L2 PyProof.Rows
/-! ### lists that ascend, no thing twice -/
abbrev dle (a b : D) : Prop := PySem.W.dataLe false id a b = true
/-- things that data stands for, told apart by it -/
class Dat (α : Type) where
  d : α → D
  of : D → α
  od : ∀ x, of (d x) = x
  anti : ∀ x y : α, dle (d x) (d y) → dle (d y) (d x) → x = y
theorem Dat.inj {α : Type} [Dat α] {x y : α} (h : Dat.d x = Dat.d y) : x = y := by rw [← Dat.od x, h, Dat.od]
structure Asc {α : Type} [Dat α] (xs : List α) : Prop where
  nd : xs.Nodup
  so : xs.Pairwise fun a b => dle (Dat.d a) (Dat.d b)
theorem Asc.uniq {α : Type} [Dat α] {xs ys : List α} (hx : Asc xs) (hy : Asc ys) (m : ∀ a, a ∈ xs ↔ a ∈ ys) : xs = ys :=
  List.Perm.eq_of_pairwise (le := fun a b => dle (Dat.d a) (Dat.d b)) (fun a b _ _ h1 h2 => Dat.anti a b h1 h2) hx.so hy.so ((List.perm_ext_iff_of_nodup hx.nd hy.nd).mpr m)
theorem Asc.nil {α : Type} [Dat α] : Asc ([] : List α) := ⟨List.nodup_nil, .nil⟩
theorem Asc.sub {α : Type} [Dat α] {xs ys : List α} (h : Asc ys) (s : xs.Sublist ys) : Asc xs := ⟨h.nd.sublist s, h.so.sublist s⟩
instance datStr : Dat Str where
  d := PyData.str
  of := fun d => match d with
    | .str x => x
    | _ => ""
  od := fun _ => rfl
  anti := fun x y h1 h2 => by
    have q := toks_key (a := Sum.inr x) (b := Sum.inr y) (le_anti h1 h2)
    cases q
    rfl
theorem map_dof {α : Type} [Dat α] {l : List D} (h : ∀ d ∈ l, ∃ x : α, d = Dat.d x) : l = (l.map (Dat.of (α := α))).map Dat.d := by
  rw [List.map_map]
  conv => lhs; rw [← List.map_id l]
  refine List.map_congr_left fun d m => ?_
  obtain ⟨x, rfl⟩ := h d m
  show Dat.d x = Dat.d (Dat.of (Dat.d x) : α)
  rw [Dat.od]
/-- the same things, ascending, none twice -/
noncomputable def canon {α : Type} [Dat α] (xs : List α) : List α := (sortD (nubD (xs.map Dat.d))).map Dat.of
section
variable {α : Type} [Dat α]
theorem canon_all (xs : List α) : ∀ d ∈ sortD (nubD (xs.map Dat.d)), ∃ x : α, d = Dat.d x := fun d m => by
  obtain ⟨x, _, rfl⟩ := List.mem_map.mp (nubD_mem.mp ((sortD_perm _).mem_iff.mp m))
  exact ⟨x, rfl⟩
theorem canon_d (xs : List α) : (canon xs).map Dat.d = sortD (nubD (xs.map Dat.d)) := (map_dof (canon_all xs)).symm
theorem canon_mem {xs : List α} {x : α} : x ∈ canon xs ↔ x ∈ xs := by
  constructor
  · intro m
    have z : Dat.d x ∈ (canon xs).map Dat.d := List.mem_map_of_mem m
    rw [canon_d, (sortD_perm _).mem_iff, nubD_mem] at z
    obtain ⟨y, my, e⟩ := List.mem_map.mp z
    rwa [← Dat.inj e]
  · intro m
    have z : Dat.d x ∈ (canon xs).map Dat.d := by
      rw [canon_d, (sortD_perm _).mem_iff, nubD_mem]
      exact List.mem_map_of_mem m
    obtain ⟨y, my, e⟩ := List.mem_map.mp z
    rwa [← Dat.inj e]
theorem canon_asc (xs : List α) : Asc (canon xs) := by
  have nd : ((canon xs).map Dat.d).Nodup := by
    rw [canon_d]
    exact (sortD_perm _).symm.nodup (nubD_nd _)
  refine ⟨nd.of_map _ fun a b h e => h (congrArg Dat.d e), ?_⟩
  have so := sortD_pair (nubD (xs.map Dat.d))
  rw [← canon_d, List.pairwise_map] at so
  exact so
theorem canon_is {xs ys : List α} (h : Asc ys) (m : ∀ a, a ∈ ys ↔ a ∈ xs) : canon xs = ys := (canon_asc xs).uniq h fun a => by rw [canon_mem, m]
/-- sorted, where no thing stands twice -/
theorem sort_canon {xs : List α} (nd : xs.Nodup) : sortD (xs.map Dat.d) = (canon xs).map Dat.d := by
  rw [canon_d]
  have nd2 : (xs.map (Dat.d : α → D)).Nodup := nd.map _ fun a b h e => h (Dat.inj e)
  have e : nubD (xs.map Dat.d) = xs.map (Dat.d : α → D) := by
    generalize xs.map (Dat.d : α → D) = l at nd2
    induction l with
    | nil => rfl
    | cons x r ih =>
      obtain ⟨n1, n2⟩ := List.nodup_cons.mp nd2
      unfold nubD
      rw [if_neg (by simpa using n1), ih n2]
  rw [e]
theorem dSorted_canon {xs : List α} (nd : xs.Nodup) (ok : SortOk (xs.map Dat.d)) : dSorted [.list (xs.map Dat.d)] = some (.ol (((canon xs).map Dat.d).map T.fz)) := by
  unfold dSorted
  dsimp only
  rw [if_pos ok, sort_canon nd]
end
end DL
namespace DL
open PySem L2 PyProof.Rows
/-! ### the bag -/
def bagT (a b c : Int) (cells : List Int) : T := .ol [.fz (.int a), .fz (.int b), .fz (.int c), .ol ((cells.map PyData.int).map T.fz)]
structure Bag (a b c : Int) (cells : List Int) : Prop where
  a0 : 0 ≤ a
  b0 : 0 ≤ b
  b1 : b < 2147483647
  c0 : 0 ≤ c
  pos : ∀ x ∈ cells, 0 ≤ x
  few : cells.length ≤ 63
def IsBag (t : T) : Prop := ∃ a b c cells, t = bagT a b c cells ∧ Bag a b c cells
section
variable {a b c : Int} {cells : List Int} {env : Env}
theorem bag_er : (bagT a b c cells).er = .list [.int a, .int b, .int c, .list (cells.map PyData.int)] := by
  simp only [bagT, T.er, T.erL, T.erL_fz]
theorem ix4 {x0 x1 x2 x3 : D} : atI [x0, x1, x2, x3] 0 = some x0 ∧ atI [x0, x1, x2, x3] 1 = some x1 ∧ atI [x0, x1, x2, x3] 2 = some x2 ∧ atI [x0, x1, x2, x3] 3 = some x3 := by
  refine ⟨?_, ?_, ?_, ?_⟩ <;> rfl
theorem mV (h : env[0]? = some (some (bagT a b c cells))) : mVar 0 env = .ok (.list [.int a, .int b, .int c, .list (cells.map PyData.int)]) env := by
  unfold mVar
  rw [h]
  simp only [bag_er]
theorem m2_ok {α : Type} {g : D → D → Option α} {ma mb : M D} {e1 e2 : Env} {x y : D} {r : α} (h1 : ma env = .ok x e1) (h2 : mb e1 = .ok y e2) (h : g x y = some r) : m2 g ma mb env = .ok r e2 := by
  unfold m2
  rw [M.bind_ok h1, M.bind_ok h2]
  unfold M.lift
  rw [h]
theorem bag0 (h : env[0]? = some (some (bagT a b c cells))) : m2 dIx (mVar 0) (mC (.int 0)) env = .ok (.int a) env := m2_ok (mV h) rfl ix4.1
theorem bag1 (h : env[0]? = some (some (bagT a b c cells))) : m2 dIx (mVar 0) (mC (.int 1)) env = .ok (.int b) env := m2_ok (mV h) rfl ix4.2.1
theorem bag2 (h : env[0]? = some (some (bagT a b c cells))) : m2 dIx (mVar 0) (mC (.int 2)) env = .ok (.int c) env := m2_ok (mV h) rfl ix4.2.2.1
theorem bag3 (h : env[0]? = some (some (bagT a b c cells))) : m2 dIx (mVar 0) (mC (.int 3)) env = .ok (.list (cells.map PyData.int)) env := m2_ok (mV h) rfl ix4.2.2.2
end
/-- the cell that is taken out of the script: 0 behind its end -/
def cellAt (c : Int) (cells : List Int) : Int := ((cells.drop c.toNat) ++ [0]).headD 0
theorem cellAt_pos {c : Int} {cells : List Int} (h : ∀ x ∈ cells, 0 ≤ x) : 0 ≤ cellAt c cells := by
  unfold cellAt
  cases q : cells.drop c.toNat with
  | nil => simp
  | cons x r => simp; exact h x (List.mem_of_mem_drop (q ▸ List.mem_cons_self))
noncomputable def mCell : M D := mFl (m2 dIx (m2 dCatV (mSlV (m2 dIx (mVar 0) (mC (.int 3))) (mBd (m2 dIx (mVar 0) (mC (.int 2)))) (M.pure none)) ((mL dLst (mCons (mC (.int 0)) (mNil))).map T.er)) (mC (.int 0)))
theorem cut_from (ds : List D) {c : Int} (h : 0 ≤ c) : cutD ds (some c) none = ds.drop c.toNat := by
  unfold cutD
  have e1 : HT.sIx ds.length 0 (some c) = min c.toNat ds.length := by
    show (if c < 0 then (c + (ds.length : Int)).toNat else min c.toNat ds.length) = _
    rw [if_neg (by omega)]
  have e2 : HT.sIx ds.length ds.length none = ds.length := rfl
  rw [e1, e2]
  rcases Nat.le_total c.toNat ds.length with z | z
  · rw [Nat.min_eq_left z, List.take_of_length_le (by simp)]
  · rw [Nat.min_eq_right z, List.drop_of_length_le z, List.drop_length]
    simp
theorem er_fz (ds : List D) : (T.ol (ds.map T.fz)).er = .list ds := by
  rw [T.er, T.erL_fz]
theorem cell_ok {a b c : Int} {cells : List Int} {env : Env} (h : env[0]? = some (some (bagT a b c cells))) (B : Bag a b c cells) : mCell env = .ok (.int (cellAt c cells)) env := by
  have h1 : mSlV (m2 dIx (mVar 0) (mC (.int 3))) (mBd (m2 dIx (mVar 0) (mC (.int 2)))) (M.pure none) env = .ok (.list ((cells.drop c.toNat).map PyData.int)) env := by
    unfold mSlV
    rw [M.bind_ok (bag3 h), M.bind_ok (a := some c) (env' := env) (by unfold mBd; rw [M.bind_ok (bag2 h)]; rfl)]
    rw [M.bind_ok (show (M.pure none : M (Option Int)) env = .ok none env from rfl)]
    unfold M.lift
    dsimp only [dSl]
    rw [cut_from _ B.c0, Option.map_some, er_fz, List.map_drop]
  have h2 : ((mL dLst (mCons (mC (.int 0)) (mNil))).map T.er) env = .ok (.list [.int 0]) env := by
    simp [M.map, M.bind, mL, mCons, mC, mNil, M.pure, M.lift, dLst, T.er, T.erL]
    rw [if_pos (by rw [sizeLine_eq]; decide)]
    simp [T.er, T.erL]
  have h3 : dCatV (.list ((cells.drop c.toNat).map PyData.int)) (.list [.int 0]) = some (.list (((cells.drop c.toNat) ++ [0]).map PyData.int)) := by
    unfold dCatV dCatL
    dsimp only
    rw [if_pos (by
      have := B.few
      rw [sizeLine_eq, List.length_map, List.length_drop]
      simp
      omega)]
    rw [Option.map_some, er_fz, List.map_append]
    rfl
  have h4 : dIx (.list (((cells.drop c.toNat) ++ [0]).map PyData.int)) (.int 0) = some (.int (cellAt c cells)) := by
    unfold dIx cellAt
    cases cells.drop c.toNat with
    | nil => rfl
    | cons x r =>
      refine atI_nat (j := 0) ?_
      simp
  unfold mCell mFl
  rw [M.bind_ok (m2_ok (m2_ok h1 h2 h3) (show mC (.int 0) env = .ok (.int 0) env from rfl) h4)]
  rfl
/-! ### steps of a computation -/
section
variable {env e1 : Env} {a b c : Int} {cells : List Int}
theorem seq_ok {m n : M Fl} (h : m env = .ok .nx e1) : mSeq m n env = n e1 := by unfold mSeq; rw [M.bind_ok h]
theorem seq_rt {m n : M Fl} {t : T} (h : m env = .ok (.rt t) e1) : mSeq m n env = .ok (.rt t) e1 := by unfold mSeq; rw [M.bind_ok h]; rfl
theorem if_t {t : M Bool} {x y : M Fl} (h : t env = .ok true e1) : mIfS t x y env = x e1 := by unfold mIfS; rw [M.bind_ok h]; rfl
theorem if_f {t : M Bool} {x y : M Fl} (h : t env = .ok false e1) : mIfS t x y env = y e1 := by unfold mIfS; rw [M.bind_ok h]; rfl
theorem map_ok {α β : Type} {m : M α} {f : α → β} {x : α} (h : m env = .ok x e1) : (m.map f) env = .ok (f x) e1 := by unfold M.map; rw [M.bind_ok h]; rfl
theorem set_ok {m : M T} {i : Nat} {t : T} (h : m env = .ok t e1) : mSet i m env = .ok .nx (e1.set i (some t)) := by unfold mSet; rw [M.bind_ok h]
theorem rt_ok {m : M T} {t : T} (h : m env = .ok t e1) : mRt m env = .ok (.rt t) e1 := by unfold mRt; rw [M.bind_ok h]; rfl
theorem tru_ok {m : M D} {k : Bool} (h : m env = .ok (.bool k) e1) : (m.bind tru) env = .ok k e1 := by rw [M.bind_ok h]; rfl
theorem c_ok {d : D} : mC d env = .ok d env := rfl
theorem f_ok {i : Nat} {d : D} (h : env[i]? = some (some (.fz d))) : mVarF i env = .ok d env := by unfold mVarF; rw [h]
theorem mL1_ok {α : Type} {g : List D → Option α} {m : M D} {x : D} {r : α} (h : m env = .ok x e1) (hg : g [x] = some r) : mL g (mCons m mNil) env = .ok r e1 := by
  unfold mL mCons
  rw [M.bind_ok (a := [x]) (env' := e1) (by rw [M.bind_ok h]; rfl)]
  unfold M.lift
  rw [hg]
theorem int_ok {m : M D} {i : Int} (h : m env = .ok (.int i) e1) : mL dInt (mCons m mNil) env = .ok (.int i) e1 := mL1_ok h rfl
theorem store_ok' {me : M T} {j v : Int} {t' : T} {t : T} (ht : env[0]? = some (some t)) (hb : boxy "list" t = true) (h : me env = .ok (.fz (.int v)) env) (hg : gSetL t [.fz (.int j), .fz (.int v)] = some (t', .fz .none)) :
    mStore "list" 0 gSetL me (mC (.int j)) env = .ok .nx (env.set 0 (some t')) := by
  unfold mStore mDrop mMeth
  have h1 : mBox "list" 0 env = .ok () env := by unfold mBox; rw [ht]; dsimp only; rw [if_pos hb]
  have h2 : mStA me (mC (.int j)) env = .ok [.fz (.int j), .fz (.int v)] env := by
    unfold mStA
    rw [M.bind_ok h, M.bind_ok (show mC (.int j) env = .ok (.int j) env from rfl)]
    rfl
  rw [M.bind_ok (a := .fz .none) (env' := env.set 0 (some t')) (by rw [M.bind_ok h1, M.bind_ok h2, ht]; dsimp only; rw [hg])]
  rfl
theorem aug_ok {t t' : T} {j v w : Int} {ts : List T} {n : Nat} (ht : env[0]? = some (some t)) (hl : t = .ol ts) (hj : ixN ts.length j = some n) (hn : ts[n]? = some (.fz (.int v))) (hg : gSetL t [.fz (.int j), .fz (.int (v + w))] = some (t', .fz .none)) :
    mAugL dIAdd 0 (mC (.int j)) (mC (.int w)) env = .ok .nx (env.set 0 (some t')) := by
  unfold mAugL mDrop mMeth
  have h1 : mBox "list" 0 env = .ok () env := by unfold mBox; rw [ht]; subst hl; rfl
  have h3 : mGetI 0 (.int j) env = .ok (.int v) env := by
    unfold mGetI
    rw [ht]
    subst hl
    dsimp only
    rw [hj]
    dsimp only
    rw [hn]
    rfl
  have h2 : mAugA dIAdd 0 (mC (.int j)) (mC (.int w)) env = .ok [.fz (.int j), .fz (.int (v + w))] env := by
    unfold mAugA
    rw [M.bind_ok (show mC (.int j) env = .ok (.int j) env from rfl), M.bind_ok h3, M.bind_ok (show mC (.int w) env = .ok (.int w) env from rfl)]
    rfl
  rw [M.bind_ok (a := .fz .none) (env' := env.set 0 (some t')) (by rw [M.bind_ok h1, M.bind_ok h2, ht]; dsimp only; rw [hg])]
  rfl
theorem mul_ok {ma mb : M D} {i j : Int} {e2 : Env} (h1 : ma env = .ok (.int i) e1) (h2 : mb e1 = .ok (.int j) e2) (h : (i.natAbs < 2 ^ 64 ∨ j.natAbs < 2 ^ 64) ∨ i.natAbs.log2 + j.natAbs.log2 < 1000000) : m2 dMul ma mb env = .ok (.int (i * j)) e2 :=
  m2_ok h1 h2 (by unfold dMul; dsimp only; rw [if_pos h])
theorem mod_ok {ma mb : M D} {i j : Int} {e2 : Env} (h1 : ma env = .ok (.int i) e1) (h2 : mb e1 = .ok (.int j) e2) (h : 0 < j) : m2 dMod ma mb env = .ok (.int (i % j)) e2 :=
  m2_ok h1 h2 (by unfold dMod; dsimp only; rw [if_pos (by omega), Int.fmod_eq_emod_of_nonneg _ (by omega)])
theorem div_ok {ma mb : M D} {i j : Int} {e2 : Env} (h1 : ma env = .ok (.int i) e1) (h2 : mb e1 = .ok (.int j) e2) (h : 0 < j) (hl : j.natAbs.log2 < 9000) : m2 dDiv ma mb env = .ok (.int (i / j)) e2 :=
  m2_ok h1 h2 (by unfold dDiv; dsimp only; rw [if_pos ⟨by omega, hl⟩, Int.fdiv_eq_ediv_of_nonneg _ (by omega)])
theorem add_ok {ma mb : M D} {i j : Int} {e2 : Env} (h1 : ma env = .ok (.int i) e1) (h2 : mb e1 = .ok (.int j) e2) : m2 dAdd ma mb env = .ok (.int (i + j)) e2 := m2_ok h1 h2 rfl
theorem gt_ok {ma mb : M D} {i j : Int} {e2 : Env} (h1 : ma env = .ok (.int i) e1) (h2 : mb e1 = .ok (.int j) e2) : m2 dGt ma mb env = .ok (.bool (decide (i > j))) e2 := m2_ok h1 h2 rfl
theorem ge_ok {ma mb : M D} {i j : Int} {e2 : Env} (h1 : ma env = .ok (.int i) e1) (h2 : mb e1 = .ok (.int j) e2) : m2 dGe ma mb env = .ok (.bool (decide (i ≥ j))) e2 := m2_ok h1 h2 rfl
theorem dEqS_ints (a b : Int) : dEqS (.int a) (.int b) = some (.bool (decide (a = b))) := by
  unfold dEqS
  have h : ∀ z : Int, shp (.int z) = true := fun z => by simp [shp, SeqAt.shaped, PyData.canLay0, PyData.depth]
  have e : PyData.eqv (.int a) (.int b) = decide (a = b) := by
    simp only [PyData.eqv]
    exact Bool.eq_iff_iff.mpr (by simp)
  rw [if_pos ⟨h a, h b⟩, e]
theorem eq_ok {ma mb : M D} {i j : Int} {e2 : Env} (h1 : ma env = .ok (.int i) e1) (h2 : mb e1 = .ok (.int j) e2) : m2 dEqS ma mb env = .ok (.bool (decide (i = j))) e2 := m2_ok h1 h2 (dEqS_ints i j)
theorem pow_ok {i j : Int} (h0 : 0 ≤ j) (h1 : j ≤ 1000000) (h2 : i.natAbs < 2 ^ 64) : m2 dPow (mC (.int i)) (mC (.int j)) env = .ok (.int (i ^ j.toNat)) env :=
  m2_ok rfl rfl (by unfold dPow; dsimp only; rw [if_pos ⟨h0, h1, h2⟩])
end
/-! ### take -/
noncomputable def mTake1 : M Fl := mIfS ((m2 dEqS (m2 dIx (mVar 0) (mC (.int 0))) (mC (.int 0))).bind tru) (mSeq (mSet 4 ((mFl (m2 dIx (m2 dCatV (mSlV (m2 dIx (mVar 0) (mC (.int 3))) (mBd (m2 dIx (mVar 0) (mC (.int 2)))) (M.pure none)) ((mL dLst (mCons (mC (.int 0)) (mNil))).map T.er)) (mC (.int 0)))).map T.fz))
  (mSeq (mAugL dIAdd 0 (mC (.int 2)) (mC (.int 1)))
  (mSeq (mIfS ((m2 dGe (mVarF 4) (m2 dPow (mC (.int 10)) (mC (.int 18)))).bind tru) (mStore "list" 0 gSetL ((mVarF 4).map T.fz) (mC (.int 0))) (mNx))
  (mSeq (mSet 5 ((m2 dAdd (m2 dAdd (m2 dMul (m2 dIx (mVar 0) (mC (.int 1))) (mC (.int 48271))) (m2 dMod (mL dInt (mCons (mVarF 4) (mNil))) (mC (.int 2147483647)))) (m2 dMul (mC (.int 7919)) (m2 dIx (mVar 0) (mC (.int 2))))).map T.fz))
  (mStore "list" 0 gSetL ((m2 dMod (mL dInt (mCons (mVarF 5) (mNil))) (mC (.int 2147483647))).map T.fz) (mC (.int 1))))))) (mNx)
noncomputable def mTake2 : M Fl := mIfS ((m2 dGt (m2 dIx (mVar 0) (mC (.int 0))) (mC (.int 0))).bind tru) (mSeq (mSet 6 ((m2 dMod (mL dInt (mCons (m2 dIx (mVar 0) (mC (.int 0))) (mNil))) (mVarF 1)).map T.fz))
  (mSeq (mStore "list" 0 gSetL ((m2 dDiv (mL dInt (mCons (m2 dIx (mVar 0) (mC (.int 0))) (mNil))) (mVarF 1)).map T.fz) (mC (.int 0)))
  (mRt ((mVarF 6).map T.fz)))) (mNx)
noncomputable def mTake3 : M Fl := mSeq (mSet 2 ((m2 dMod (mL dInt (mCons (m2 dMul (m2 dAdd (m2 dIx (mVar 0) (mC (.int 1))) (mC (.int 1))) (mC (.int 39373))) (mNil))) (mC (.int 1000000007))).map T.fz))
  (mSeq (mSet 3 ((m2 dMod (mL dInt (mCons (m2 dMul (m2 dMod (mL dInt (mCons (m2 dMul (mVarF 2) (mVarF 2)) (mNil))) (mC (.int 998244353))) (mC (.int 30011))) (mNil))) (mC (.int 998244353))).map T.fz))
  (mRt ((m2 dMod (mL dInt (mCons (m2 dDiv (mVarF 3) (mC (.int 7))) (mNil))) (mVarF 1)).map T.fz)))
theorem mTake_eq : m__law_take = mSeq mTake1 (mSeq mTake2 mTake3) := rfl
def takeE (t : T) (many : Int) (x y z : Option T) : Env := [some t, some (.fz (.int many)), none, none, x, y, z]
section
variable {t t' : T} {m : Int} {x y z : Option T}
theorem tE0 : List.set (takeE t m x y z) 0 (some t') = takeE t' m x y z := rfl
theorem tE4 : List.set (takeE t m x y z) 4 (some t') = takeE t m (some t') y z := rfl
theorem tE5 : List.set (takeE t m x y z) 5 (some t') = takeE t m x (some t') z := rfl
theorem tE6 : List.set (takeE t m x y z) 6 (some t') = takeE t m x y (some t') := rfl
end
theorem take1 {a b c : Int} {cells : List Int} (B : Bag a b c cells) (many : Int) : ∃ a' b' c' x y, Bag a' b' c' cells ∧ mTake1 (takeE (bagT a b c cells) many none none none) = .ok .nx (takeE (bagT a' b' c' cells) many x y none) := by
  unfold mTake1
  by_cases h0 : a = 0
  · rw [if_t (tru_ok (k := true) (by rw [eq_ok (bag0 rfl) c_ok, decide_eq_true h0]))]
    have cok := cell_ok (c := c) (env := takeE (bagT a b c cells) many none none none) rfl B
    unfold mCell at cok
    rw [seq_ok (set_ok (i := 4) (map_ok cok))]
    rw [tE4]
    have hc := cellAt_pos (c := c) B.pos
    generalize cellAt c cells = cell at *
    rw [seq_ok (aug_ok (t := bagT a b c cells) (t' := bagT a b (c + 1) cells) (n := 2) (v := c) rfl rfl rfl rfl rfl), tE0]
    have B1 : Bag a b (c + 1) cells := ⟨B.a0, B.b0, B.b1, by have := B.c0; omega, B.pos, B.few⟩
    have step : ∃ a', 0 ≤ a' ∧ mIfS ((m2 dGe (mVarF 4) (m2 dPow (mC (.int 10)) (mC (.int 18)))).bind tru) (mStore "list" 0 gSetL ((mVarF 4).map T.fz) (mC (.int 0))) (mNx) (takeE (bagT a b (c + 1) cells) many (some (.fz (.int cell))) none none) = .ok .nx (takeE (bagT a' b (c + 1) cells) many (some (.fz (.int cell))) none none) := by
      by_cases hb : cell ≥ 10 ^ 18
      · refine ⟨cell, hc, ?_⟩
        rw [if_t (tru_ok (k := true) (by rw [ge_ok (f_ok rfl) (pow_ok (by decide) (by decide) (by decide)), decide_eq_true (by simpa using hb)]))]
        rw [store_ok' (t := bagT a b (c + 1) cells) (t' := bagT cell b (c + 1) cells) (v := cell) rfl rfl (map_ok (f_ok rfl)) rfl]
        rfl
      · refine ⟨a, B.a0, ?_⟩
        rw [if_f (tru_ok (k := false) (by rw [ge_ok (f_ok rfl) (pow_ok (by decide) (by decide) (by decide)), decide_eq_false (by simpa using hb)]))]
        rfl
    obtain ⟨a', ha', hs⟩ := step
    rw [seq_ok hs]
    have hb0 := B.b0
    have hc0 := B1.c0
    have e1 : m2 dAdd (m2 dAdd (m2 dMul (m2 dIx (mVar 0) (mC (.int 1))) (mC (.int 48271))) (m2 dMod (mL dInt (mCons (mVarF 4) mNil)) (mC (.int 2147483647)))) (m2 dMul (mC (.int 7919)) (m2 dIx (mVar 0) (mC (.int 2)))) (takeE (bagT a' b (c + 1) cells) many (some (.fz (.int cell))) none none) = .ok (.int (b * 48271 + cell % 2147483647 + 7919 * (c + 1))) (takeE (bagT a' b (c + 1) cells) many (some (.fz (.int cell))) none none) :=
      add_ok (add_ok (mul_ok (bag1 rfl) c_ok (.inl (.inr (by decide)))) (mod_ok (int_ok (f_ok rfl)) c_ok (by decide))) (mul_ok c_ok (bag2 rfl) (.inl (.inl (by decide))))
    rw [seq_ok (set_ok (i := 5) (map_ok e1)), tE5]
    rw [store_ok' (t := bagT a' b (c + 1) cells) (t' := bagT a' ((b * 48271 + cell % 2147483647 + 7919 * (c + 1)) % 2147483647) (c + 1) cells) rfl rfl (map_ok (mod_ok (int_ok (f_ok rfl)) c_ok (by decide))) rfl]
    exact ⟨a', _, c + 1, _, _, ⟨ha', Int.emod_nonneg _ (by decide), Int.emod_lt_of_pos _ (by decide), hc0, B.pos, B.few⟩, rfl⟩
  · rw [if_f (tru_ok (k := false) (by rw [eq_ok (bag0 rfl) c_ok, decide_eq_false h0]))]
    exact ⟨a, b, c, none, none, B, rfl⟩
theorem take2 {a b c : Int} {cells : List Int} (B : Bag a b c cells) {many : Int} (hm : 1 ≤ many) (hl : many.natAbs.log2 < 9000) (x y : Option T) : ∃ n a' t, Bag a' b c cells ∧ 0 ≤ n ∧ n < many ∧ mSeq mTake2 mTake3 (takeE (bagT a b c cells) many x y none) = .ok (.rt (.fz (.int n))) t ∧ t[0]? = some (some (bagT a' b c cells)) := by
  unfold mTake2 mTake3
  by_cases h0 : a > 0
  · refine ⟨a % many, a / many, takeE (bagT (a / many) b c cells) many x y (some (.fz (.int (a % many)))), ⟨Int.ediv_nonneg B.a0 (by omega), B.b0, B.b1, B.c0, B.pos, B.few⟩, Int.emod_nonneg _ (by omega), Int.emod_lt_of_pos _ (by omega), ?_, rfl⟩
    refine seq_rt ?_
    rw [if_t (tru_ok (k := true) (by rw [gt_ok (bag0 rfl) c_ok, decide_eq_true h0]))]
    rw [seq_ok (set_ok (i := 6) (map_ok (mod_ok (int_ok (bag0 rfl)) (f_ok rfl) (by omega)))), tE6]
    rw [seq_ok (store_ok' (t := bagT a b c cells) (t' := bagT (a / many) b c cells) rfl rfl (map_ok (div_ok (int_ok (bag0 rfl)) (f_ok rfl) (by omega) hl)) rfl), tE0]
    exact rt_ok (map_ok (f_ok rfl))
  · have hb0 := B.b0
    have hb1 := B.b1
    have g0 : 0 ≤ (b + 1) * 39373 % 1000000007 := Int.emod_nonneg _ (by decide)
    have g1 : (b + 1) * 39373 % 1000000007 < 1000000007 := Int.emod_lt_of_pos _ (by decide)
    generalize hg : (b + 1) * 39373 % 1000000007 = g at *
    have h0' : 0 ≤ g * g % 998244353 * 30011 % 998244353 := Int.emod_nonneg _ (by decide)
    generalize hh : g * g % 998244353 * 30011 % 998244353 = r at *
    refine ⟨r / 7 % many, a, [some (bagT a b c cells), some (.fz (.int many)), some (.fz (.int g)), some (.fz (.int r)), x, y, none], B, Int.emod_nonneg _ (by omega), Int.emod_lt_of_pos _ (by omega), ?_, rfl⟩
    rw [seq_ok (e1 := takeE (bagT a b c cells) many x y none) (by rw [if_f (tru_ok (k := false) (by rw [gt_ok (bag0 rfl) c_ok, decide_eq_false h0]))]; rfl)]
    have e2 : m2 dMod (mL dInt (mCons (m2 dMul (m2 dAdd (m2 dIx (mVar 0) (mC (.int 1))) (mC (.int 1))) (mC (.int 39373))) mNil)) (mC (.int 1000000007)) (takeE (bagT a b c cells) many x y none) = .ok (.int g) (takeE (bagT a b c cells) many x y none) := by
      rw [mod_ok (int_ok (mul_ok (add_ok (bag1 rfl) c_ok) c_ok (.inl (.inr (by decide))))) c_ok (by decide), hg]
    rw [seq_ok (set_ok (i := 2) (map_ok e2))]
    have e3 : m2 dMod (mL dInt (mCons (m2 dMul (m2 dMod (mL dInt (mCons (m2 dMul (mVarF 2) (mVarF 2)) mNil)) (mC (.int 998244353))) (mC (.int 30011))) mNil)) (mC (.int 998244353)) ((takeE (bagT a b c cells) many x y none).set 2 (some (.fz (.int g)))) = .ok (.int r) ((takeE (bagT a b c cells) many x y none).set 2 (some (.fz (.int g)))) := by
      rw [mod_ok (int_ok (mul_ok (mod_ok (int_ok (mul_ok (f_ok (d := .int g) rfl) (f_ok (d := .int g) rfl) (.inl (.inl (by omega))))) c_ok (by decide)) c_ok (.inl (.inr (by decide))))) c_ok (by decide), hh]
    rw [seq_ok (set_ok (i := 3) (map_ok e3))]
    exact rt_ok (map_ok (mod_ok (int_ok (div_ok (f_ok (d := .int r) rfl) c_ok (by decide) (by decide))) (f_ok (d := .int many) rfl) (by omega)))
/-- _law_take: an integer from 0 on below many, the bag a bag again -/
theorem take_ok {t : T} (B : IsBag t) {many : Int} (hm : 1 ≤ many) (hl : many.natAbs.log2 < 9000) : ∃ n t', IsBag t' ∧ 0 ≤ n ∧ n < many ∧ ∃ e, sem__law_take [some t, some (.fz (.int many))] = .ok (.fz (.int n)) (some t' :: e) := by
  obtain ⟨a, b, c, cells, rfl, B⟩ := B
  obtain ⟨a1, b1, c1, x, y, B1, h1⟩ := take1 B many
  obtain ⟨n, a2, t, B2, n0, n1, h2, h3⟩ := take2 B1 hm hl x y
  refine ⟨n, bagT a2 b1 c1 cells, ⟨_, _, _, _, rfl, B2⟩, n0, n1, [some (.fz (.int many))], ?_⟩
  unfold sem__law_take semOf
  have e0 : ([some (bagT a b c cells), some (.fz (.int many))] ++ List.replicate 5 none : Env) = takeE (bagT a b c cells) many none none none := rfl
  rw [e0, mTake_eq, seq_ok h1, h2]
  dsimp only
  cases t with
  | nil => cases h3
  | cons u r =>
    cases r with
    | nil =>
      cases h3
      rfl
    | cons u2 r2 =>
      cases h3
      rfl
/-- the same, for what comes after -/
theorem take_B {t : T} {many : Int} {Q : T → T → Prop} (B : IsBag t) (hm : 1 ≤ many) (hl : many < 2 ^ 63) (k : ∀ n t', IsBag t' → 0 ≤ n → n < many → Q (.fz (.int n)) t') : BOk (sem__law_take [some t, some (.fz (.int many))]) Q := by
  have hz : many.natAbs.log2 < 9000 := by
    by_cases z : many.natAbs = 0
    · omega
    · exact Nat.lt_of_lt_of_le ((Nat.log2_lt z).mpr (by omega : many.natAbs < 2 ^ 63)) (by decide)
  obtain ⟨n, t', B', n0, n1, e, h⟩ := take_ok B hm hz
  unfold BOk
  rw [h]
  exact k n t' B' n0 n1
end DL
namespace DL
open PySem L2 PyProof.Rows
/-! ### some, mixed, the first bag -/
theorem dIx_list {ds : List D} {n : Int} (h0 : 0 ≤ n) (h1 : n < ds.length) : dIx (.list ds) (.int n) = some (ds[n.toNat]'(by omega)) := by
  have hj := atI_nat (xs := ds) (j := n.toNat) (List.getElem?_eq_getElem (by omega))
  rw [Int.toNat_of_nonneg h0] at hj
  exact hj
theorem some_B {t : T} {ds : List D} {Q : T → T → Prop} (B : IsBag t) (h0 : ds ≠ []) (h1 : ds.length ≤ 1000000) (k : ∀ d t', d ∈ ds → IsBag t' → Q (.fz d) t') : BOk (sem__law_some [some t, some (.fz (.list ds))]) Q := by
  have hp : 0 < ds.length := List.length_pos_iff.mpr h0
  unfold sem__law_some m__law_some
  refine bok_sem ?_
  simp -implicitDefEqProofs only [↓oks, oks2, T.er, List.replicate]
  simp -implicitDefEqProofs only [dLen, ↓oks, oks2, T.er, List.replicate]
  refine take_B B (by omega) (by omega) fun n t' B' n0 n1 => ?_
  simp -implicitDefEqProofs only [↓oks, oks2, T.er, List.replicate]
  rw [dIx_list n0 n1]
  simp -implicitDefEqProofs only [↓oks, oks2, T.er, List.replicate]
  exact k _ _ (List.getElem_mem _) B'
/-- the script's cells, as a bag -/
theorem bag_S {ns : List Int} {Q : T → Prop} (h : ns.length ≤ 63) (k : ∀ t, IsBag t → Q t) : Sok (sem__law_bag [some (.fz (.list (ns.map PyData.int)))]) Q := by
  unfold sem__law_bag m__law_bag
  rw [sok_sem]
  simp -implicitDefEqProofs only [↓oks, oks2, T.er, List.replicate]
  have e1 : dSl (.list (ns.map PyData.int)) none (some 63) = some (.ol ((ns.map PyData.int).map T.fz)) := by
    unfold dSl cutD
    dsimp only
    have e1 : HT.sIx (ns.map PyData.int).length 0 none = 0 := rfl
    have e2 : HT.sIx (ns.map PyData.int).length (ns.map PyData.int).length (some 63) = min 63 (ns.map PyData.int).length := rfl
    rw [e1, e2, List.drop_zero, List.take_of_length_le (by simp; omega)]
  rw [e1]
  simp -implicitDefEqProofs only [↓oks, oks2, T.er, List.replicate, T.erL_fz, seqD]
  refine ok_lc1 (fun d => match d with | .int i => .fz (.int (i.natAbs : Int)) | d => .fz d) (by simp; omega) (fun d m => ?_) ?_
  · obtain ⟨i, _, rfl⟩ := List.mem_map.mp m
    unfold LcT
    simp -implicitDefEqProofs only [gN, wipeE, ↓oks, oks2, T.er, List.replicate]
    simp -implicitDefEqProofs [dAbs, oEl, ↓oks, oks2, T.er, List.replicate]
    omega
  · simp -implicitDefEqProofs only [tLstO, List.length_cons, List.length_nil, ↓oks, oks2, T.er, List.replicate]
    rw [if_pos (million (by decide))]
    simp -implicitDefEqProofs only [↓oks, oks2, T.er, List.replicate]
    refine k _ ⟨0, 1234567891, 0, ns.map fun i => (i.natAbs : Int), ?_, ⟨by decide, by decide, by decide, by decide, fun x m => ?_, by simpa using h⟩⟩
    · unfold bagT
      simp [List.map_map, Function.comp]
    · obtain ⟨i, _, rfl⟩ := List.mem_map.mp m
      omega
theorem dLst_le {ds : List D} (h : ds.length ≤ 1000000) : dLst ds = some (.ol (ds.map T.fz)) := by unfold dLst; rw [if_pos (million h)]
theorem dTup_le {ds : List D} (h : ds.length ≤ 1000000) : dTup ds = some (.tuple ds) := by unfold dTup; rw [if_pos (million h)]
theorem dLst0 : dLst [] = some (.ol []) := dLst_le (by simp)
end DL
namespace DL
open PySem L2 PyProof.Rows
/-! ### expressions, tasks, loops -/
inductive Xp where
  | num (n : Int)
  | rnd
  | rd (x : Str) (k : Int)
  | two (s : Str) (a b : Xp)
  | iff (a b c : Xp)
def Xp.d : Xp → D
  | .num n => .tuple [.str "number", .int n]
  | .rnd => .tuple [.str "round"]
  | .rd x k => .tuple [.str "read", .str x, .int k]
  | .two s a b => .tuple [.str "two", .str s, a.d, b.d]
  | .iff a b c => .tuple [.str "if", a.d, b.d, c.d]
def Xp.size : Xp → Nat
  | .num _ | .rnd | .rd _ _ => 1
  | .two _ a b => a.size + b.size + 1
  | .iff a b c => a.size + b.size + c.size + 1
def Xp.reads : Xp → List (Str × Int)
  | .num _ | .rnd => []
  | .rd x k => [(x, k)]
  | .two _ a b => a.reads ++ b.reads
  | .iff a b c => a.reads ++ b.reads ++ c.reads
def TEN : List Str := ["a", "b", "mix", "pump", "z", "sum", "at", "rounds", "iff", "abcdefghijkl", "qvw", "far"]
def SGN : List Str := ["+", "-", "*", "<"]
def Xp.Wf : Xp → Prop
  | .num n => 0 ≤ n ∧ n ≤ 9999
  | .rnd => True
  | .rd x k => x ∈ TEN ∧ 0 ≤ k ∧ k ≤ 16
  | .two s a b => s ∈ SGN ∧ a.Wf ∧ b.Wf
  | .iff a b c => a.Wf ∧ b.Wf ∧ c.Wf
/-! ### data that may be compared -/
theorem ten_ok {x : Str} (h : x ∈ TEN) : PyData.strOk x = true ∧ x.length ≤ 12 ∧ 1 ≤ x.length := by
  have a : TEN.all (fun x => PyData.strOk x && decide (x.length ≤ 12) && decide (1 ≤ x.length)) = true := by decide +kernel
  have z := List.all_eq_true.mp a x h
  simp only [Bool.and_eq_true, decide_eq_true_eq] at z
  exact ⟨z.1.1, z.1.2, z.2⟩
theorem sgn_ok {x : Str} (h : x ∈ SGN) : PyData.strOk x = true ∧ x.length ≤ 1 := by
  have a : SGN.all (fun x => PyData.strOk x && decide (x.length ≤ 1)) = true := by decide +kernel
  have z := List.all_eq_true.mp a x h
  simp only [Bool.and_eq_true, decide_eq_true_eq] at z
  exact z
theorem shp_of {d : D} (h1 : d.canLay0 = true) (h2 : d.depth ≤ 64) : shp d = true := by
  unfold shp SeqAt.shaped
  rw [h1, decide_eq_true h2]
  rfl
theorem Xp.lay : ∀ {e : Xp}, e.Wf → e.d.canLay0 = true
  | .num n, _ => by
    have z : PyData.strOk "number" = true := by decide +kernel
    simp [Xp.d, PyData.canLay0, PyData.canLayAll0, z]
  | .rnd, _ => by
    have z : PyData.strOk "round" = true := by decide +kernel
    simp [Xp.d, PyData.canLay0, PyData.canLayAll0, z]
  | .rd x k, h => by
    have z : PyData.strOk "read" = true := by decide +kernel
    simp [Xp.d, PyData.canLay0, PyData.canLayAll0, z, (ten_ok h.1).1]
  | .two s a b, h => by
    have z : PyData.strOk "two" = true := by decide +kernel
    simp [Xp.d, PyData.canLay0, PyData.canLayAll0, z, (sgn_ok h.1).1, Xp.lay h.2.1, Xp.lay h.2.2]
  | .iff a b c, h => by
    have z : PyData.strOk "if" = true := by decide +kernel
    simp [Xp.d, PyData.canLay0, PyData.canLayAll0, z, Xp.lay h.1, Xp.lay h.2.1, Xp.lay h.2.2]
theorem Xp.deep : ∀ e : Xp, e.d.depth ≤ e.size
  | .num n => by simp [Xp.d, Xp.size, PyData.depth, PyData.depthAll]
  | .rnd => by simp [Xp.d, Xp.size, PyData.depth, PyData.depthAll]
  | .rd x k => by simp [Xp.d, Xp.size, PyData.depth, PyData.depthAll]
  | .two s a b => by
    have := Xp.deep a
    have := Xp.deep b
    simp only [Xp.d, Xp.size, PyData.depth, PyData.depthAll]
    omega
  | .iff a b c => by
    have := Xp.deep a
    have := Xp.deep b
    have := Xp.deep c
    simp only [Xp.d, Xp.size, PyData.depth, PyData.depthAll]
    omega
theorem Xp.shp {e : Xp} (h : e.Wf) (hs : e.size ≤ 50) : DL.shp e.d = true := shp_of (Xp.lay h) (by have := Xp.deep e; omega)
theorem at1 {α : Type} {x y : α} {r : List α} : atI (x :: y :: r) 1 = some y := by
  unfold atI ixN
  rw [if_pos (by omega), if_pos (by simp; omega)]
  rfl
/-! ### the small looks -/
end DL
namespace DL
open PySem L2 PyProof.Rows
/-! ### the parts of an expression, its reads -/
def Xp.parts : Xp → List Xp
  | .two _ a b => [a, b]
  | .iff a b c => [a, b, c]
  | _ => []
end DL
namespace DL
open PySem L2 PyProof.Rows
/-! ### reads: couples of a name and a number -/
def rdD (r : Str × Int) : D := .tuple [.str r.1, .int r.2]
def rdOf : D → Str × Int
  | .tuple [.str x, .int k] => (x, k)
  | _ => ("", 0)
theorem rdOf_rdD (r : Str × Int) : rdOf (rdD r) = r := rfl
theorem perm_map {α β : Type} {f : α → β} {g : β → α} (hg : ∀ x, g (f x) = x) {l : List β} {xs : List α} (p : l.Perm (xs.map f)) : ∃ ys : List α, ys.Perm xs ∧ l = ys.map f := by
  refine ⟨l.map g, ?_, ?_⟩
  · have q := p.map g
    rw [List.map_map] at q
    have e : (g ∘ f) = id := funext hg
    rwa [e, List.map_id] at q
  · rw [List.map_map]
    have e : ∀ x ∈ l, (f ∘ g) x = x := fun x m => by
      obtain ⟨y, _, rfl⟩ := List.mem_map.mp (p.mem_iff.mp m)
      show f (g (f y)) = f y
      rw [hg]
    conv => lhs; rw [← List.map_id l]
    exact List.map_congr_left fun x m => (e x m).symm
def GoodRd (r : Str × Int) : Prop := r.1 ∈ TEN ∧ 0 ≤ r.2 ∧ r.2 ≤ 16
theorem lay_all {α : Type} {f : α → D} : ∀ {xs : List α}, (∀ x ∈ xs, (f x).canLay0 = true) → PyData.canLayAll0 (xs.map f) = true
  | [], _ => rfl
  | x :: r, h => by
    simp only [List.map_cons, PyData.canLayAll0, h x List.mem_cons_self, Bool.true_and]
    exact lay_all fun y m => h y (List.mem_cons_of_mem _ m)
theorem deep_all {α : Type} {f : α → D} {n : Nat} : ∀ {xs : List α}, (∀ x ∈ xs, (f x).depth ≤ n) → PyData.depthAll (xs.map f) ≤ n
  | [], _ => by simp [PyData.depthAll]
  | x :: r, h => by
    have a := h x List.mem_cons_self
    have b := deep_all (n := n) (f := f) (xs := r) fun y m => h y (List.mem_cons_of_mem _ m)
    simp only [List.map_cons, PyData.depthAll]
    omega
theorem shp_list {α : Type} {f : α → D} {xs : List α} (h : ∀ x ∈ xs, (f x).canLay0 = true ∧ (f x).depth ≤ 60) : shp (.list (xs.map f)) = true :=
  shp_of (by simpa [PyData.canLay0] using lay_all fun x m => (h x m).1) (by
    have := deep_all (f := f) (n := 60) fun x m => (h x m).2
    simp only [PyData.depth]
    omega)
theorem shp_tuple {α : Type} {f : α → D} {xs : List α} (h : ∀ x ∈ xs, (f x).canLay0 = true ∧ (f x).depth ≤ 60) : shp (.tuple (xs.map f)) = true :=
  shp_of (by simpa [PyData.canLay0] using lay_all fun x m => (h x m).1) (by
    have := deep_all (f := f) (n := 60) fun x m => (h x m).2
    simp only [PyData.depth]
    omega)
theorem tup_anti {a b : List Key} (h1 : dle (.tuple (a.map keyD)) (.tuple (b.map keyD))) (h2 : dle (.tuple (b.map keyD)) (.tuple (a.map keyD))) : a = b := toks_keys (le_anti h1 h2)
instance datRd : Dat (Str × Int) where
  d := rdD
  of := rdOf
  od := rdOf_rdD
  anti := fun x y h1 h2 => by
    have q := tup_anti (a := [.inr x.1, .inl x.2]) (b := [.inr y.1, .inl y.2]) h1 h2
    injection q with q1 q2
    injection q2 with q2 _
    injection q1 with q1
    injection q2 with q2
    exact Prod.ext q1 q2
end DL
namespace DL
open PySem L2 PyProof.Rows
/-! ### the reads of an expression, as told and as the law goes -/
/-- the reads, ascending -/
noncomputable def Xp.rds (e : Xp) : List (Str × Int) := canon e.reads
end DL
namespace DL
open PySem L2 PyProof.Rows
/-! ### sorting sets of things with one reading -/
def strOf : D → Str
  | .str x => x
  | _ => ""
/-! ### tasks, loops -/
structure Tk where
  x : Str
  n : Int
  e : Xp
def Tk.d (t : Tk) : D := .tuple [.str t.x, .int t.n, t.e.d]
def wtD (w : Str × Str × Int) : D := .tuple [.str w.1, .str w.2.1, .int w.2.2]
structure Lp where
  ts : List Tk
  ws : List (Str × Str × Int)
def Lp.d (L : Lp) : D := .tuple [.tuple (L.ts.map Tk.d), .tuple (L.ws.map wtD)]
/-- a task that may be drawn, or come of one by one read more -/
structure Tk.W0 (t : Tk) : Prop where
  x : t.x ∈ TEN
  n0 : 0 ≤ t.n
  n1 : t.n ≤ 9999
  e : t.e.Wf
  s0 : t.e.size ≤ 10
  r0 : (canon t.e.reads).length ≤ 3
structure Tk.Wf (t : Tk) : Prop extends Tk.W0 t where
  s : t.e.size ≤ 7
  r2 : (canon t.e.reads).length ≤ 2
instance datWt : Dat (Str × Str × Int) where
  d := wtD
  of := fun d => match d with
    | .tuple [.str a, .str b, .int c] => (a, b, c)
    | _ => ("", "", 0)
  od := fun _ => rfl
  anti := fun x y h1 h2 => by
    have q := tup_anti (a := [.inr x.1, .inr x.2.1, .inl x.2.2]) (b := [.inr y.1, .inr y.2.1, .inl y.2.2]) h1 h2
    injection q with q1 q2
    injection q2 with q2 q3
    injection q3 with q3 _
    injection q1 with q1
    injection q2 with q2
    injection q3 with q3
    exact Prod.ext q1 (Prod.ext q2 q3)
/-- no ring of arcs without rounds: a height -/
def Lp.Lv (L : Lp) (ρ : Str → Nat) : Prop := (∀ t ∈ L.ts, ∀ r ∈ t.e.reads, r.2 = 0 → ρ r.1 < ρ t.x) ∧ (∀ w ∈ L.ws, w.2.2 = 0 → ρ w.2.1 < ρ w.1) ∧ ∀ x, ρ x ≤ 8
/-- a loop, live or not -/
structure Lp.W0 (L : Lp) : Prop where
  tk0 : ∀ t ∈ L.ts, t.W0
  asc : Asc (L.ts.map Tk.x)
  few : L.ts.length ≤ 8
  rd : ∀ t ∈ L.ts, ∀ r ∈ t.e.reads, ∃ u ∈ L.ts, u.x = r.1
  ws : ∀ w ∈ L.ws, w.1 ∈ TEN ∧ w.2.1 ∈ TEN ∧ 0 ≤ w.2.2 ∧ w.2.2 ≤ 16
  wn : ∀ w ∈ L.ws, (∃ u ∈ L.ts, u.x = w.1) ∧ ∃ u ∈ L.ts, u.x = w.2.1
  wasc : Asc L.ws
  wl0 : L.ws.length ≤ 33
structure Lp.Wf (L : Lp) : Prop extends Lp.W0 L where
  tk : ∀ t ∈ L.ts, t.Wf
  wl : L.ws.length ≤ 26
  lv : ∃ ρ, L.Lv ρ
instance {L : Lp} : Coe L.Wf L.W0 := ⟨fun h => h.toW0⟩
instance {t : Tk} : Coe t.Wf t.W0 := ⟨fun h => h.toW0⟩
theorem Lp.W0.nd {L : Lp} (h : L.W0) : (L.ts.map Tk.x).Nodup := h.asc.nd
theorem Lp.Wf.nd {L : Lp} (h : L.Wf) : (L.ts.map Tk.x).Nodup := h.asc.nd
end DL
namespace DL
open PySem L2 PyProof.Rows
/-! ### the reads as the law finds them -/
end DL
namespace DL
open PySem L2 PyProof.Rows
/-! ### who is read -/
/-- the readers of a task as they come, and ascending -/
noncomputable def rdLof (ts : List Tk) (x : Str) : List (Str × Int) := ts.flatMap fun t => (t.e.rds.filter fun r => r.1 == x).map fun r => (t.x, r.2)
noncomputable def Lp.rdrs (L : Lp) (x : Str) : List (Str × Int) := canon (rdLof L.ts x)
/-! ### the arcs -/
abbrev Arc := Str × Str × Int
def wArc (w : Arc) : Arc := (w.2.1, w.1, w.2.2)
noncomputable def rArcs (L : Lp) (xs : List Str) : List Arc := xs.flatMap fun x => (L.rdrs x).map fun r => (x, r.1, r.2)
noncomputable def Lp.arcL (L : Lp) : List Arc := L.ws.map wArc ++ rArcs L (L.ts.map Tk.x)
noncomputable def Lp.arcs (L : Lp) : List Arc := canon L.arcL
end DL
namespace DL
open PySem L2 PyProof.Rows
/-! ### dicts of texts -/
def dk (kvs : List (Str × D)) : List (D × T) := kvs.map fun p => (.str p.1, .fz p.2)
def dkD (kvs : List (Str × D)) : List (D × D) := kvs.map fun p => (.str p.1, p.2)
def lk (x : Str) : List (Str × D) → Option D
  | [] => none
  | (y, d) :: r => if y = x then some d else lk x r
theorem lk_mem {x : Str} {d : D} : ∀ {kvs : List (Str × D)}, (x, d) ∈ kvs → (kvs.map (·.1)).Nodup → lk x kvs = some d
  | (y, e) :: r, m, nd => by
    rw [List.map_cons, List.nodup_cons] at nd
    rcases List.mem_cons.mp m with z | m
    · cases z
      rw [lk, if_pos rfl]
    · rw [lk, if_neg fun q : y = x => nd.1 (q ▸ List.mem_map.mpr ⟨(x, d), m, rfl⟩)]
      exact lk_mem m nd.2
/-! ### rings, homes -/
abbrev Ring := Int × List (Str × Int)
def tri (b s o : Int) : D := .tuple [.int b, .int s, .int o]
def hm : Int → List Ring → List (Str × D)
  | _, [] => []
  | b, r :: R => (r.2.map fun m => (m.1, tri b r.1 m.2)) ++ hm (b + r.1) R
theorem rng_ok {n : Nat} (h : n ≤ 1000000) : dRng1 [.int (n : Int)] = some (intsR 0 n) := by
  unfold dRng1
  dsimp only
  have a : -(2 ^ 62 : Int) ≤ (n : Int) := Int.le_trans (by decide) (Int.natCast_nonneg n)
  have b : (n : Int) < 2 ^ 62 := Int.lt_of_le_of_lt (Int.ofNat_le.mpr h) (by decide)
  rw [if_pos ⟨a, b⟩]
  rfl
end DL
namespace DL
open PySem L2 PyProof.Rows
/-! ### the rows of an expression -/
def Lp.first (L : Lp) (x : Str) : Int := ((L.ts.find? fun t => t.x == x).map Tk.n).getD 0
theorem catL_ok {a b : List D} (h : a.length + b.length ≤ 1000000) : dCatL (.list a) (.list b) = some (.ol ((a ++ b).map T.fz)) := by
  unfold dCatL
  dsimp only
  rw [if_pos (million h)]
theorem add_tup {a b : List D} (h : a.length + b.length ≤ 1000000) : dAdd (.tuple a) (.tuple b) = some (.tuple (a ++ b)) := by
  unfold dAdd
  dsimp only
  rw [if_pos (million h)]
theorem dTup1 {x : D} : dTup [x] = some (.tuple [x]) := dTup_le (by simp)
theorem dTup2 {x y : D} : dTup [x, y] = some (.tuple [x, y]) := dTup_le (by simp)
theorem dLst1 {x : D} : dLst [x] = some (.ol [.fz x]) := dLst_le (by simp)
end DL
namespace DL
open PySem L2 PyProof.Rows
/-! ### the text of code -/
theorem num_len {i : Int} {k : Nat} (hk : 0 < k) (h : i.natAbs < 10 ^ k) : (Str.ofString (toString i)).length ≤ k + 1 := by
  have up : ∀ n : Nat, n < 10 ^ k → (toString (n : Int)).length ≤ k := fun n hn => by
    have z := PyProof.Rows.toString_length_le (v := (n : Int)) (by omega) hk (by
      have e : ((10 : Int) ^ k) = ((10 ^ k : Nat) : Int) := by simp
      rw [e]
      exact Int.ofNat_lt.mpr hn)
    rw [PySem.ofString_length] at z
    exact z
  rcases Int.lt_or_le i 0 with z | z
  · obtain ⟨n, rfl⟩ : ∃ n : Nat, i = Int.negSucc n := ⟨(-i - 1).toNat, by omega⟩
    have e : toString (Int.negSucc n) = "-" ++ toString ((n + 1 : Nat) : Int) := rfl
    have := up (n + 1) (by simpa using h)
    rw [PySem.ofString_length, e, String.length_append]
    have h1 : "-".length = 1 := rfl
    omega
  · have := up i.natAbs h
    rw [Int.natAbs_of_nonneg z] at this
    rw [PySem.ofString_length]
    omega
theorem sjoin_len (sep : Str) : ∀ ys : List Str, (Str.join sep ys).length ≤ (ys.map (·.length)).sum + ys.length * sep.length
  | [] => Nat.zero_le _
  | [x] => by
    show x.length ≤ _
    simp
  | x :: y :: r => by
    have ih := sjoin_len sep (y :: r)
    show (x ++ sep ++ Str.join sep (y :: r)).length ≤ _
    rw [strLen_append, strLen_append]
    simp only [List.map_cons, List.sum_cons, List.length_cons] at ih ⊢
    rw [Nat.succ_mul]
    omega
theorem strsD_all : ∀ ys : List Str, strsD (ys.map PyData.str) = some ys
  | [] => rfl
  | y :: r => by
    rw [List.map_cons, strsD, strsD_all r]
    rfl
def itT : D → Str
  | .int i => Str.ofString (toString i)
  | .str x => x
  | _ => ""
def ItemOk (d : D) : Prop := (∃ i, d = .int i ∧ i.natAbs < 10 ^ 5) ∨ ∃ x, d = .str x ∧ x.length ≤ 20 ∧ PyData.strOk x = true
def rowI : D → List D
  | .tuple items => items
  | _ => []
def rowT (d : D) : Str := Txt.join " " ((rowI d).map itT)
def RowOk (d : D) : Prop := ∃ items, d = .tuple items ∧ items.length ≤ 10 ∧ ∀ it ∈ items, ItemOk it
structure DOk (kvs : List (Str × D)) : Prop where
  nd : (kvs.map (·.1)).Nodup
  ten : ∀ p ∈ kvs, p.1 ∈ TEN
  ne : kvs ≠ []
  few : kvs.length ≤ 8
  rows : ∀ p ∈ kvs, ∃ rows, p.2 = .tuple rows ∧ rows.length ≤ 8 ∧ ∀ r ∈ rows, RowOk r
def rowsAt (kvs : List (Str × D)) (x : Str) : List D := match lk x kvs with
  | some (.tuple rows) => rows
  | _ => []
def block (kvs : List (Str × D)) (x : Str) : List Str := (x ++ (":" : Str)) :: (rowsAt kvs x).map rowT
theorem DOk.sorted {kvs : List (Str × D)} (h : DOk kvs) : ∃ ys : List Str, ys.Perm (kvs.map (·.1)) ∧ dSortedD [.dict (dkD kvs)] = some (.ol ((ys.map PyData.str).map T.fz)) ∧ sortD ((kvs.map (·.1)).map PyData.str) = ys.map PyData.str := by
  have e : (dkD kvs).map (·.1) = (kvs.map (·.1)).map PyData.str := by
    unfold dkD
    rw [List.map_map, List.map_map]
    rfl
  obtain ⟨ys, p, e2⟩ := perm_map (f := PyData.str) (g := strOf) (fun _ => rfl) (sortD_perm ((kvs.map (·.1)).map PyData.str))
  refine ⟨ys, p, ?_, e2⟩
  unfold dSortedD
  dsimp only
  rw [e, strsD_all]
  dsimp only [Option.bind]
  have few := h.few
  rw [if_pos ⟨by rw [List.length_map]; omega, fun z => h.ne (by unfold dkD at z; exact List.map_eq_nil_iff.mp z)⟩, e2]
theorem DOk.block {kvs : List (Str × D)} (h : DOk kvs) {x : Str} (hx : x ∈ kvs.map (·.1)) : ∃ rows, lk x kvs = some (.tuple rows) ∧ rows.length ≤ 8 ∧ ∀ r ∈ rows, RowOk r := by
  obtain ⟨p, mp, rfl⟩ := List.mem_map.mp hx
  obtain ⟨rows, e, a, b⟩ := h.rows p mp
  exact ⟨rows, by rw [lk_mem (d := p.2) mp h.nd, e], a, b⟩
end DL
namespace DL
open PySem L2 PyProof.Rows
/-! ### small data: what is shown of it is short -/
mutual
def tot : D → Nat
  | .none => 4
  | .bool _ => 5
  | .int i => if i.natAbs < 10 ^ 6 then 8 else 64
  | .str x => 10 * x.length + 2
  | .list xs => totL xs + 2
  | .tuple xs => totL xs + 3
  | .dict kvs => totK kvs + 2
def totL : List D → Nat
  | [] => 0
  | x :: r => tot x + 2 + totL r
def totK : List (D × D) → Nat
  | [] => 0
  | (k, v) :: r => tot k + 2 + tot v + 2 + totK r
end
mutual
def Smd : D → Prop
  | .none => True
  | .bool _ => True
  | .int i => i.natAbs < 10 ^ 60
  | .str x => PyData.strOk x = true
  | .list xs => SmdL xs
  | .tuple xs => SmdL xs
  | .dict kvs => SmdK kvs
def SmdL : List D → Prop
  | [] => True
  | x :: r => Smd x ∧ SmdL r
def SmdK : List (D × D) → Prop
  | [] => True
  | (k, v) :: r => Smd k ∧ Smd v ∧ SmdK r
end
theorem textFrom_le : ∀ (ts : List Str) (k : Nat) (acc : Str), (textFrom k acc ts).length ≤ acc.length + (ts.map (·.length)).sum + 2 * ts.length
  | [], k, acc => by
    show acc.length ≤ _
    simp
  | t :: r, k, acc => by
    have z := textFrom_le r (k + 1) (acc ++ (if k > 0 then ", " else "" : String) ++ t)
    have e : (((if k > 0 then ", " else "" : String) : Str)).length ≤ 2 := by
      split
      · decide
      · decide
    rw [strLen_append, strLen_append] at z
    show (textFrom (k + 1) (acc ++ (if k > 0 then ", " else "" : String) ++ t) r).length ≤ _
    simp only [List.map_cons, List.sum_cons, List.length_cons]
    omega
theorem repr_le {x : Str} (h : PyData.strOk x = true) : (reprText x).length ≤ 10 * x.length + 2 := by
  refine StrLaws.reprText_len x fun c m => ?_
  unfold PyData.strOk at h
  have z := Array.all_eq_true_iff_forall_mem.mp h c (Array.mem_toList_iff.mp m)
  have z : c < 0x110000 := by simpa using z
  omega
mutual
theorem shown_le : ∀ d : D, Smd d → d.shown.length ≤ tot d ∧ d.showable = true ∧ nodt d = true
  | .none, _ => by
    refine ⟨?_, by simp [PyData.showable], rfl⟩
    simp only [PyData.shown, tot]
    decide
  | .bool b, _ => by
    refine ⟨?_, by simp [PyData.showable], rfl⟩
    simp only [PyData.shown, tot]
    cases b <;> decide
  | .int i, h => by
    have h : i.natAbs < 10 ^ 60 := h
    refine ⟨?_, ?_, rfl⟩
    · simp only [PyData.shown, tot]
      by_cases z : i.natAbs < 10 ^ 6
      · rw [if_pos z]
        exact Nat.le_trans (num_len (by decide) z) (by decide)
      · rw [if_neg z]
        exact Nat.le_trans (num_len (by decide) h) (by decide)
    · simp only [PyData.showable, decide_eq_true_eq]
      by_cases z : i.natAbs = 0
      · rw [z]; decide
      · exact Nat.lt_of_lt_of_le ((Nat.log2_lt z).mpr (Nat.lt_of_lt_of_le h (by decide : 10 ^ 60 ≤ 2 ^ 200))) (by decide)
  | .str x, h => by
    have h : PyData.strOk x = true := h
    refine ⟨?_, by simp [PyData.showable], rfl⟩
    simp only [PyData.shown, tot]
    exact repr_le h
  | .list xs, h => by
    obtain ⟨a, b, c, d⟩ := shownL_le xs h
    refine ⟨?_, by simpa [PyData.showable] using c, by simpa [nodt] using d⟩
    simp only [PyData.shown, tot]
    unfold listText
    have z := textFrom_le (PyData.shownAll xs) 0 "["
    rw [strLen_append]
    have e1 : ("[" : Str).length = 1 := by decide
    have e2 : ("]" : Str).length = 1 := by decide
    omega
  | .tuple xs, h => by
    obtain ⟨a, b, c, d⟩ := shownL_le xs h
    refine ⟨?_, by simpa [PyData.showable] using c, by simpa [nodt] using d⟩
    simp only [PyData.shown, tot]
    unfold tupleText
    have z := sjoin_len ", " (PyData.shownAll xs)
    rw [strLen_append, strLen_append]
    have e1 : ("(" : Str).length = 1 := by decide
    have e2 : (", " : Str).length = 2 := by decide
    have e3 : (((if (PyData.shownAll xs).length == 1 then ",)" else ")" : String) : Str)).length ≤ 2 := by
      split
      · decide
      · decide
    rw [e2] at z
    omega
  | .dict kvs, h => by
    obtain ⟨a, b, c, d⟩ := shownK_le kvs h
    refine ⟨?_, by simpa [PyData.showable] using c, by simpa [nodt] using d⟩
    simp only [PyData.shown, tot]
    unfold dictText
    have z := sjoin_len ", " (PyData.shownKv kvs)
    rw [strLen_append, strLen_append]
    have e1 : ("{" : Str).length = 1 := by decide
    have e4 : ("}" : Str).length = 1 := by decide
    have e2 : (", " : Str).length = 2 := by decide
    rw [e2] at z
    omega
theorem shownL_le : ∀ ds : List D, SmdL ds → ((PyData.shownAll ds).map (·.length)).sum + 2 * (PyData.shownAll ds).length ≤ totL ds ∧ (PyData.shownAll ds).length = ds.length ∧ PyData.showableAll ds = true ∧ nodtL ds = true
  | [], _ => by simp [PyData.shownAll, totL, PyData.showableAll, nodtL]
  | x :: r, h => by
    obtain ⟨a, b, c⟩ := shown_le x h.1
    obtain ⟨a2, b2, c2, d2⟩ := shownL_le r h.2
    refine ⟨?_, by simp [PyData.shownAll, b2], by simp [PyData.showableAll, b, c2], by simp [nodtL, c, d2]⟩
    simp only [PyData.shownAll, totL, List.map_cons, List.sum_cons, List.length_cons]
    omega
theorem shownK_le : ∀ ds : List (D × D), SmdK ds → ((PyData.shownKv ds).map (·.length)).sum + 2 * (PyData.shownKv ds).length ≤ totK ds ∧ (PyData.shownKv ds).length = ds.length ∧ PyData.showableKv ds = true ∧ nodtK ds = true
  | [], _ => by simp [PyData.shownKv, totK, PyData.showableKv, nodtK]
  | (k, v) :: r, h => by
    obtain ⟨a1, b1, c1⟩ := shown_le k h.1
    obtain ⟨a, b, c⟩ := shown_le v h.2.1
    obtain ⟨a2, b2, c2, d2⟩ := shownK_le r h.2.2
    refine ⟨?_, by simp [PyData.shownKv, b2], by simp [PyData.showableKv, b1, b, c2], by simp [nodtK, c, d2]⟩
    simp only [PyData.shownKv, totK, List.map_cons, List.sum_cons, List.length_cons]
    rw [strLen_append, strLen_append]
    have e1 : (": " : Str).length = 2 := by decide
    omega
end
structure Small (d : D) : Prop where
  sm : Smd d
  tot : tot d ≤ 1000000
  dp : d.depth ≤ 50
theorem Small.repr {d : D} (h : Small d) : dRepr [d] = some (.str d.shown) := by
  obtain ⟨a, b, c⟩ := shown_le d h.sm
  unfold dRepr
  dsimp only
  rw [if_pos ⟨⟨b, million (Nat.le_trans a h.tot)⟩, by have := h.dp; omega⟩]
theorem dEqS_same {d : D} (h1 : d.depth ≤ 60) (h2 : nodt d = true) : dEqS d d = some (.bool true) := by
  unfold dEqS
  by_cases s : shp d = true
  · rw [if_pos ⟨s, s⟩, PySem.SeqAt.eqv_refl d (shp_lay s)]
  · rw [if_neg (fun z => s z.1), if_pos ⟨rfl, h1, h2⟩]
theorem alike_S {d : D} {Q : T → Prop} (h : Small d) (q : Q (.fz (.bool true))) : Sok (sem__law_alike [some (.fz d), some (.fz d)]) Q := by
  obtain ⟨a, b, c⟩ := shown_le d h.sm
  have e1 := dEqS_same (by have := h.dp; omega) c
  have e2 : dEqS (.str d.shown) (.str d.shown) = some (.bool true) := dEqS_same (by simp [PyData.depth]) rfl
  unfold sem__law_alike m__law_alike
  rw [sok_sem]
  simp -implicitDefEqProofs only [↓oks, oks2, T.er, List.replicate, e1, if_true, h.repr, e2]
  exact q
end DL
namespace DL
open PySem L2 PyProof.Rows
/-! ### a drawn body -/
theorem intsR_len {lo : Int} {n : Nat} : (intsR lo n).length = n := by simp [intsR]
theorem dTup3 {x y z : D} : dTup [x, y, z] = some (.tuple [x, y, z]) := dTup_le (by simp)
end DL
namespace DL
open PySem L2 PyProof.Rows
/-! ### some names; tasks and waits made into a loop -/
/-- what the reads of the names are, ahead of the loop -/
def RdsOk (ρ : Str → Nat) (xs : List Str) (kvs : List (Str × D)) : Prop := ∀ x ∈ xs, ∃ rs : List (Str × Int), lk x kvs = some (.list (rs.map rdD)) ∧ rs.length ≤ 2 ∧ ∀ r ∈ rs, GoodRd r ∧ r.1 ∈ xs ∧ (r.2 = 0 → ρ r.1 < ρ x)
end DL
namespace DL
open PySem L2 PyProof.Rows
/-! ### a dict of lists of reads, owned -/
def ro (xs : List Str) (f : Str → List (Str × Int)) : List (D × T) := xs.map fun x => (.str x, .ol (((f x).map rdD).map T.fz))
def roD (xs : List Str) (f : Str → List (Str × Int)) : List (Str × D) := xs.map fun x => (x, .list ((f x).map rdD))
theorem lk_ro {xs : List Str} {f : Str → List (Str × Int)} {x : Str} (m : x ∈ xs) : lk x (roD xs f) = some (.list ((f x).map rdD)) := by
  unfold roD
  induction xs with
  | nil => cases m
  | cons y r ih =>
    rw [List.map_cons, lk]
    by_cases z : y = x
    · rw [if_pos z, z]
    · rw [if_neg z]
      exact ih ((List.mem_cons.mp m).resolve_left fun e => z e.symm)
/-- the reads as they are drawn -/
def rk : List Str → Str → Nat
  | [], _ => 0
  | y :: r, x => if y = x then 0 else rk r x + 1
def RF (xs : List Str) (f : Str → List (Str × Int)) : Prop := ∀ x ∈ xs, (f x).length ≤ 2 ∧ ∀ r ∈ f x, GoodRd r ∧ r.1 ∈ xs ∧ (r.2 = 0 → rk xs r.1 < rk xs x)
theorem RF.rds {xs : List Str} {f : Str → List (Str × Int)} (h : RF xs f) : RdsOk (rk xs) xs (roD xs f) := fun x m => ⟨f x, lk_ro m, h x m⟩
end DL
namespace DL
open PySem L2 PyProof.Rows
section
variable {t : T} {many most way : Int} {xs : List Str} {f : Str → List (Str × Int)} {ws : List (Str × Str × Int)} {a b c d e g h : Option T} {Q : Fl → Env → Prop}
end
end DL
namespace DL
open PySem L2 PyProof.Rows
section
variable {t : T} {many most way : Int} {xs : List Str} {f : Str → List (Str × Int)} {ws : List (Str × Str × Int)} {a b c d e g h : Option T} {Q : Fl → Env → Prop}
end
end DL
namespace DL
open PySem L2 PyProof.Rows
section
variable {t : T} {many most way : Int} {xs : List Str} {f : Str → List (Str × Int)} {ws : List (Str × Str × Int)} {a b c d e g h : Option T} {Q : Fl → Env → Prop}
end
end DL
namespace DL
open PySem L2 PyProof.Rows
section
variable {t : T} {many most way : Int} {xs : List Str} {f : Str → List (Str × Int)} {ws : List (Str × Str × Int)} {a b c d e g h : Option T} {Q : Fl → Env → Prop}
end
end DL
namespace DL
open PySem L2 PyProof.Rows
/-! ### what expressions come to -/
def opF (s : Str) (a b : Int) : Int := if s = "<" then (if a < b then 1 else 0) else if s = "+" then (a + b).fmod 10000 else if s = "-" then (a - b).fmod 10000 else (a * b).fmod 10000
def Xp.ev (w : Int) (f : Str → Int → Int) : Xp → Int
  | .num n => n
  | .rnd => w.fmod 10000
  | .rd x k => f x k
  | .two s a b => opF s (a.ev w f) (b.ev w f)
  | .iff a b c => if a.ev w f = 0 then c.ev w f else b.ev w f
end DL
namespace DL
open PySem L2 PyProof.Rows
/-! ### the values meant -/
def Lp.vN (L : Lp) : Nat → Str → Nat → Int
  | 0, _, _ => 0
  | n + 1, x, i => match L.ts.find? fun t => t.x == x with
    | some t => t.e.ev (i : Int) fun y k => if k ≤ (i : Int) then L.vN n y ((i : Int) - k).toNat else L.first y
    | none => 0
def Lp.val (L : Lp) (x : Str) (i : Nat) : Int := L.vN (i * 9 + 10) x i
/-- what the reads of a round are meant to find -/
def Lp.rv (L : Lp) (i : Nat) : Str → Int → Int := fun y k => if k ≤ (i : Int) then L.val y ((i : Int) - k).toNat else L.first y
end DL
namespace DL
open PySem L2 PyProof.Rows
/-! ### dicts whose keys are tuples -/
class TKey (α : Type) extends Dat α where
  ks : α → List Key
  dks : ∀ x : α, toDat.d x = .tuple ((ks x).map keyD)
  kinj : ∀ x y : α, ks x = ks y → x = y
instance tkRd : TKey (Str × Int) where
  toDat := datRd
  ks := fun r => [.inr r.1, .inl r.2]
  dks := fun _ => rfl
  kinj := fun x y e => by
    injection e with q1 q2
    injection q2 with q2 _
    injection q1 with q1
    injection q2 with q2
    exact Prod.ext q1 q2
section
variable {α : Type} [DecidableEq α] [TKey α]
def d2 (kvs : List (α × D)) : List (D × T) := kvs.map fun p => (Dat.d p.1, .fz p.2)
def lk2 (x : α) : List (α × D) → Option D
  | [] => none
  | (y, d) :: r => if y = x then some d else lk2 x r
theorem lk2_mem {x : α} {d : D} : ∀ {kvs : List (α × D)}, (x, d) ∈ kvs → (kvs.map (·.1)).Nodup → lk2 x kvs = some d
  | (y, e) :: r, m, nd => by
    rw [List.map_cons, List.nodup_cons] at nd
    rcases List.mem_cons.mp m with z | m
    · cases z
      rw [lk2, if_pos rfl]
    · rw [lk2, if_neg fun q : y = x => nd.1 (q ▸ List.mem_map.mpr ⟨(x, d), m, rfl⟩)]
      exact lk2_mem m nd.2
end
end DL
namespace DL
open PySem L2 PyProof.Rows
/-! ### the order of the tasks in a round, as the law finds it -/
theorem eqS_nil {ds : List D} (h : shp (.list ds) = true) : dEqS (.list ds) (.list []) = some (.bool ds.isEmpty) := by
  unfold dEqS
  rw [if_pos ⟨h, by decide +kernel⟩]
  cases ds with
  | nil => simp [PyData.eqv, PyData.eqvAll]
  | cons d r => simp [PyData.eqv, PyData.eqvAll]
theorem least {ρ : Str → Nat} : ∀ {xs : List Str}, xs ≠ [] → ∃ x ∈ xs, ∀ y ∈ xs, ρ x ≤ ρ y
  | [], h => absurd rfl h
  | [x], _ => ⟨x, by simp, by simp⟩
  | x :: y :: r, _ => by
    obtain ⟨z, mz, hz⟩ := least (ρ := ρ) (xs := y :: r) (by simp)
    by_cases c : ρ x ≤ ρ z
    · refine ⟨x, List.mem_cons_self, fun w mw => ?_⟩
      rcases List.mem_cons.mp mw with rfl | mw
      · exact Nat.le_refl _
      · exact Nat.le_trans c (hz w mw)
    · refine ⟨z, List.mem_cons_of_mem _ mz, fun w mw => ?_⟩
      rcases List.mem_cons.mp mw with rfl | mw
      · omega
      · exact hz w mw
/-- each task stands behind the tasks that it reads in the same round -/
def Ord (L : Lp) (xs : List Str) : Prop := ∀ (j : Nat) (x : Str), xs[j]? = some x → ∀ t ∈ L.ts, t.x = x → ∀ r ∈ t.e.reads, r.2 = 0 → r.1 ∈ xs.take j
theorem Ord.nil {L : Lp} : Ord L [] := fun j x h => by simp at h
/-- those that wait for nobody among the rest -/
noncomputable def blk (A : List Arc) (left : List Str) (x : Str) : Bool := A.any fun a => a.2.1 == x && decide (a.1 ∈ left)
end DL
namespace DL
open PySem L2 PyProof.Rows
/-! ### the values, as the law works them out -/
abbrev RD := Str × Int
/-- a table of values for all (task, round) that P holds of -/
structure KV (L : Lp) (kvs : List (RD × D)) (P : Str → Nat → Prop) : Prop where
  nd : (kvs.map (·.1)).Nodup
  k : ∀ x (i : Nat), P x i → (x, (i : Int)) ∈ kvs.map (·.1)
  nk : ∀ x (i : Nat), (x, (i : Int)) ∈ kvs.map (·.1) → P x i
  v : ∀ x (i : Nat) d, ((x, (i : Int)), d) ∈ kvs → d = .int (L.val x i)
theorem KV.nil {L : Lp} {P : Str → Nat → Prop} (h : ∀ x i, ¬ P x i) : KV L [] P := ⟨List.nodup_nil, (fun x i p => absurd p (h x i)), (fun x i m => by simp at m), fun x i d m => by simp at m⟩
theorem KV.get {L : Lp} {kvs : List (RD × D)} {P : Str → Nat → Prop} (h : KV L kvs P) {x : Str} {i : Nat} (p : P x i) : lk2 (x, (i : Int)) kvs = some (.int (L.val x i)) := by
  obtain ⟨⟨y, d⟩, m, e⟩ := List.mem_map.mp (h.k x i p)
  dsimp only at e
  subst e
  rw [lk2_mem m h.nd, h.v x i d m]
end DL
namespace DL
open PySem L2 PyProof.Rows
/-! ### the order of the tasks in a round, as the code finds it -/
end DL
namespace DL
open PySem L2 PyProof.Rows
/-! ### dict comprehensions -/
/-! ### a dict of owned lists -/
/-! ### what the reads of a step are told -/
end DL
namespace DL
open PySem L2 PyProof.Rows
/-! ### a key that is there is written anew -/
section
variable {α : Type} [DecidableEq α] [TKey α]
end
/-! ### couples of names -/
def cpD (r : Str × Str) : D := .tuple [.str r.1, .str r.2]
instance datCp : Dat (Str × Str) where
  d := cpD
  of := fun d => match d with
    | .tuple [.str x, .str y] => (x, y)
    | _ => ("", "")
  od := fun _ => rfl
  anti := fun x y h1 h2 => by
    have q := tup_anti (a := [.inr x.1, .inr x.2]) (b := [.inr y.1, .inr y.2]) h1 h2
    injection q with q1 q2
    injection q2 with q2 _
    injection q1 with q1
    injection q2 with q2
    exact Prod.ext q1 q2
instance tkCp : TKey (Str × Str) where
  toDat := datCp
  ks := fun r => [.inr r.1, .inr r.2]
  dks := fun _ => rfl
  kinj := fun x y e => by
    injection e with q1 q2
    injection q2 with q2 _
    injection q1 with q1
    injection q2 with q2
    exact Prod.ext q1 q2
section
variable {α : Type} [DecidableEq α] [TKey α]
end
end DL
namespace DL
open PySem L2 PyProof.Rows
/-! ### comprehensions over what stands for things -/
theorem lcGo_m {α : Type} {vs : List Nat} {f : T → Env → Option Env} {mc : M Bool} {me : M T} {env : Env} (fd : α → D) (g : α → Option T) : ∀ {l : List α}, (∀ a ∈ l, LcT vs f mc me env (fd a) (g a)) → lcGo vs f mc me env (l.map fd) = some (l.filterMap g)
  | [], _ => rfl
  | a :: l, k => by
    have i := lcGo_m fd g (l := l) fun a' m => k a' (List.mem_cons_of_mem _ m)
    rw [List.map_cons]
    unfold lcGo
    rw [lcStep_of (k a List.mem_cons_self), List.filterMap_cons]
    cases g a with
    | none => exact i
    | some t =>
      dsimp only
      rw [i]
      rfl
theorem ok_lcm {α : Type} {vs : List Nat} {f : T → Env → Option Env} {mc : M Bool} {me : M T} {env : Env} {Q : T → Env → Prop} (fd : α → D) (g : α → Option T) {l : List α} (hl : l.length ≤ 1000000) (k : ∀ a ∈ l, LcT vs f mc me env (fd a) (g a)) (q : Q (.ol (l.filterMap g)) env) : Ok (mLc vs f mc me (l.map fd)) env Q := by
  unfold Ok mLc
  rw [if_pos (million (by rwa [List.length_map])), lcGo_m fd g k]
  exact q
theorem fm_gen {α : Type} (p : α → Bool) (f : α → T) : ∀ l : List α, l.filterMap (fun a => if p a = true then some (f a) else none) = (l.filter p).map f
  | [] => rfl
  | a :: r => by
    rw [List.filterMap_cons]
    by_cases z : p a = true
    · rw [if_pos z, List.filter_cons_of_pos z]
      dsimp only
      rw [fm_gen p f r, List.map_cons]
    · rw [if_neg z, List.filter_cons_of_neg z]
      exact fm_gen p f r
/-- a filter of things -/
theorem ok_lcf {α : Type} {vs : List Nat} {f : T → Env → Option Env} {mc : M Bool} {me : M T} {env : Env} {Q : T → Env → Prop} (fd : α → D) (p : α → Bool) (g : α → T) {l : List α} (hl : l.length ≤ 1000000) (k : ∀ a ∈ l, LcT vs f mc me env (fd a) (if p a = true then some (g a) else none)) (q : Q (.ol ((l.filter p).map g)) env) : Ok (mLc vs f mc me (l.map fd)) env Q :=
  ok_lcm fd (fun a => if p a = true then some (g a) else none) hl k (by rw [fm_gen]; exact q)
/-! ### the values as the code works them out -/
end DL
namespace DL
open PySem L2 PyProof.Rows
/-! ### one value; what a step's reads are told -/
theorem dAdd_i {a b : Int} : dAdd (.int a) (.int b) = some (.int (a + b)) := rfl
end DL
namespace DL
open PySem L2 PyProof.Rows
/-! ### any body -/
end DL
namespace DL
open PySem L2 PyProof.Rows
/-! ### how much is shown -/
theorem totL_le {k : Nat} : ∀ {ds : List D}, (∀ d ∈ ds, tot d ≤ k) → totL ds ≤ ds.length * (k + 2)
  | [], _ => by simp [totL]
  | d :: r, h => by
    have a := h d List.mem_cons_self
    have b := totL_le fun x m => h x (List.mem_cons_of_mem _ m)
    rw [totL, List.length_cons, Nat.succ_mul]
    omega
theorem smdL_of : ∀ {ds : List D}, (∀ d ∈ ds, Smd d) → SmdL ds
  | [], _ => trivial
  | d :: r, h => ⟨h d List.mem_cons_self, smdL_of fun x m => h x (List.mem_cons_of_mem _ m)⟩
theorem depL_le {k : Nat} : ∀ {ds : List D}, (∀ d ∈ ds, d.depth ≤ k) → PyData.depthAll ds ≤ k
  | [], _ => by simp [PyData.depthAll]
  | d :: r, h => by
    have a := h d List.mem_cons_self
    have b := depL_le fun x m => h x (List.mem_cons_of_mem _ m)
    simp only [PyData.depthAll]
    omega
structure Sz (d : D) (n k : Nat) : Prop where
  sm : Smd d
  tot : tot d ≤ n
  dp : d.depth ≤ k
theorem sz_tuple {ds : List D} {n k m : Nat} (h : ∀ d ∈ ds, Sz d n k) (hm : ds.length ≤ m) : Sz (.tuple ds) (m * (n + 2) + 3) (k + 1) :=
  ⟨smdL_of fun d m => (h d m).sm, by
    have a := totL_le fun d m => (h d m).tot
    have b := Nat.mul_le_mul_right (n + 2) hm
    rw [tot]
    omega, by
    have a := depL_le fun d m => (h d m).dp
    simp only [PyData.depth]
    omega⟩
theorem sz_list {ds : List D} {n k m : Nat} (h : ∀ d ∈ ds, Sz d n k) (hm : ds.length ≤ m) : Sz (.list ds) (m * (n + 2) + 3) (k + 1) :=
  ⟨smdL_of fun d m => (h d m).sm, by
    have a := totL_le fun d m => (h d m).tot
    have b := Nat.mul_le_mul_right (n + 2) hm
    rw [tot]
    omega, by
    have a := depL_le fun d m => (h d m).dp
    simp only [PyData.depth]
    omega⟩
theorem Sz.le {d : D} {n k n' k' : Nat} (h : Sz d n k) (a : n ≤ n') (b : k ≤ k') : Sz d n' k' := ⟨h.sm, Nat.le_trans h.tot a, Nat.le_trans h.dp b⟩
theorem sz_int {i : Int} (h : i.natAbs < 10 ^ 6) : Sz (.int i) 8 0 := ⟨Nat.lt_trans h (by decide), by rw [tot, if_pos h]; exact Nat.le_refl _, by simp [PyData.depth]⟩
theorem sz_big {i : Int} (h : i.natAbs < 10 ^ 60) : Sz (.int i) 64 0 := ⟨h, by rw [tot]; split <;> decide, by simp [PyData.depth]⟩
theorem Sz.small {d : D} {n k : Nat} (h : Sz d n k) (a : n ≤ 1000000) (b : k ≤ 50) : Small d := ⟨h.sm, Nat.le_trans h.tot a, Nat.le_trans h.dp b⟩
/-! ### what is shown of a loop and its rings -/
/-! ### dict of pairs -/
end DL
namespace DL
open PySem L2 PyProof.Rows
/-! ### a slot frozen for one look -/
def FB (o : Option T) : Prop := ∀ t, o = some t → t.bf = true ∨ ∃ d, t = .fz d
theorem FB.no : FB none := fun t e => nomatch e
theorem FB.fz {d : D} : FB (some (.fz d)) := fun t e => by cases e; exact .inr ⟨d, rfl⟩
theorem FB.bf {t : T} (h : t.bf = true) : FB (some t) := fun u e => by cases e; exact .inl h
theorem gN_at {i : Nat} {d : D} {e : Env} : gN i (.fz d) e = some (e.set i (some (.fz d))) := rfl
def FBs : Env → Prop
  | [] => True
  | o :: r => FB o ∧ FBs r
def FBx : Nat → Env → Prop
  | _, [] => True
  | 0, _ :: r => FBs r
  | i + 1, o :: r => FB o ∧ FBx i r
theorem FBs.at_ : ∀ {e : Env} {j : Nat} {o : Option T}, FBs e → e[j]? = some o → FB o
  | a :: r, 0, o, h, e => by
    have : a = o := by simpa using e
    exact this ▸ h.1
  | a :: r, j + 1, o, h, e => FBs.at_ (e := r) h.2 (by simpa using e)
theorem FBx.at_ : ∀ {i : Nat} {e : Env} {j : Nat} {o : Option T}, FBx i e → j ≠ i → e[j]? = some o → FB o
  | 0, a :: r, 0, o, h, n, e => absurd rfl n
  | 0, a :: r, j + 1, o, h, n, e => FBs.at_ (e := r) h (by simpa using e)
  | i + 1, a :: r, 0, o, h, n, e => by
    have : a = o := by simpa using e
    exact this ▸ h.1
  | i + 1, a :: r, j + 1, o, h, n, e => FBx.at_ (i := i) (e := r) (j := j) h.2 (fun z => n (by rw [z])) (by simpa using e)
/-- a loop that may be broken off -/
theorem ok_forX {f : T → Env → Option Env} {body : M Fl} {Q : Fl → Env → Prop} : ∀ {ds : List D} {env : Env} (I : Nat → Env → Prop) (B : Env → Prop), I 0 env →
    (∀ (i : Nat) d e, ds[i]? = some d → I i e → oEl (f (.fz d) e) fun e1 => Ok body e1 fun fl e2 => match fl with
      | .nx => I (i + 1) e2
      | .ct => I (i + 1) e2
      | .bk => B e2
      | .rt _ => False) → (∀ e, I ds.length e → Q .nx e) → (∀ e, B e → Q .nx e) → Ok (mFor f body ds) env Q
  | [], env, I, B, h, _, q, _ => by unfold Ok; exact q env h
  | d :: ds, env, I, B, h, k, q, qb => by
    have k0 := k 0 d env rfl h
    unfold Ok mFor
    cases z : f (.fz d) env with
    | none => rw [z] at k0; exact k0.elim
    | some e1 =>
      rw [z] at k0
      have k0 : Ok body e1 _ := k0
      unfold Ok at k0
      dsimp only
      cases q2 : body e1 with
      | bad => rw [q2] at k0; exact k0.elim
      | exn x e => rw [q2] at k0; exact k0.elim
      | ok fl e2 =>
        rw [q2] at k0
        have next : I 1 e2 → Ok (mFor f body ds) e2 Q := fun h1 => ok_forX (fun i => I (i + 1)) B h1 (fun i d' e hd hi => k (i + 1) d' e (by simpa using hd) hi) (fun e h => q e (by simpa using h)) qb
        unfold Ok at next
        cases fl with
        | nx => exact next k0
        | ct => exact next k0
        | rt t => exact k0.elim
        | bk => exact qb e2 k0
end DL
namespace DL
open PySem L2 PyProof.Rows
/-! ### odd values, and values bent in one part -/
theorem totL_app : ∀ a b : List D, totL (a ++ b) = totL a + totL b
  | [], b => by simp [totL]
  | x :: r, b => by
    rw [List.cons_append, totL, totL, totL_app r b]
    omega
theorem smdL_app : ∀ {a b : List D}, SmdL a → SmdL b → SmdL (a ++ b)
  | [], _, _, h => h
  | x :: r, _, h, h2 => ⟨h.1, smdL_app h.2 h2⟩
theorem smdL_mem : ∀ {a : List D}, SmdL a → ∀ d ∈ a, Smd d
  | x :: r, h, d, m => by
    rcases List.mem_cons.mp m with rfl | m
    · exact h.1
    · exact smdL_mem h.2 d m
theorem totL_len : ∀ ds : List D, 2 * ds.length ≤ totL ds
  | [] => Nat.zero_le _
  | x :: r => by
    have := totL_len r
    rw [totL, List.length_cons]
    omega
theorem totL_rev (a : List D) : totL a.reverse = totL a := by
  induction a with
  | nil => rfl
  | cons x r ih =>
    rw [List.reverse_cons, totL_app, ih, totL, totL, totL]
    omega
theorem depL_mem {ds : List D} {d : D} (h : d ∈ ds) : d.depth ≤ PyData.depthAll ds := by
  induction ds with
  | nil => cases h
  | cons x r ih =>
    rw [PyData.depthAll]
    rcases List.mem_cons.mp h with rfl | m
    · exact Nat.le_max_left _ _
    · exact Nat.le_trans (ih m) (Nat.le_max_right _ _)
def asciiS (x : Str) : Bool := x.cps.all fun c => decide (c < 128)
theorem ascii_ok {x : Str} (h : asciiS x = true) : PyData.strOk x = true := by
  unfold asciiS at h
  unfold PyData.strOk
  rw [Array.all_eq_true_iff_forall_mem] at h ⊢
  intro c m
  have := h c m
  have : c < 128 := by simpa using this
  simp
  omega
/-- nests of tuples of small things -/
inductive Nst : D → Prop
  | non : Nst .none
  | bl (b : Bool) : Nst (.bool b)
  | int {i : Int} : i.natAbs < 10 ^ 50 → Nst (.int i)
  | str {x : Str} : asciiS x = true → x.length ≤ 100 → Nst (.str x)
  | tup {ds : List D} : (∀ d ∈ ds, Nst d) → ds.length ≤ 1000 → Nst (.tuple ds)
theorem Nst.smd {d : D} (h : Nst d) : Smd d := by
  induction h with
  | non => trivial
  | bl b => trivial
  | int h => exact Nat.lt_trans h (by decide)
  | str h _ => exact ascii_ok h
  | tup _ _ ih => exact smdL_of ih
theorem Nst.lay {d : D} (h : Nst d) : d.canLay0 = true := by
  induction h with
  | non => simp [PyData.canLay0]
  | bl b => simp [PyData.canLay0]
  | int h => simp [PyData.canLay0]
  | str h _ =>
    rw [PyData.canLay0]
    exact ascii_ok h
  | tup _ _ ih =>
    rename_i ds _ _
    rw [PyData.canLay0]
    have go : ∀ l : List D, (∀ d ∈ l, d.canLay0 = true) → PyData.canLayAll0 l = true := fun l => by
      induction l with
      | nil => intro _; rfl
      | cons x r i =>
        intro h
        rw [PyData.canLayAll0, h x List.mem_cons_self, i fun d m => h d (List.mem_cons_of_mem _ m)]
        rfl
    exact go ds ih
/-- an odd value, hung on another one -/
structure Odd (n k : Nat) (d : D) : Prop where
  sm : Smd d
  tot : tot d ≤ n
  dp : d.depth ≤ k
theorem Odd.le {n k n' k' : Nat} {d : D} (h : Odd n k d) (a : n ≤ n') (b : k ≤ k') : Odd n' k' d := ⟨h.sm, Nat.le_trans h.tot a, Nat.le_trans h.dp b⟩
theorem Odd.sz {n k : Nat} {d : D} (h : Odd n k d) : Sz d n k := ⟨h.sm, h.tot, h.dp⟩
theorem dPow39 : dPow (.int 10) (.int 39) = some (.int (10 ^ 39)) := by
  unfold dPow
  dsimp only
  rw [if_pos ⟨by decide, by decide, by decide⟩]
  rfl
theorem dispA {env : Env} {Q : T → Env → Prop} : Ok (mDisp ((mC (.str "a"), mC (.int 1)) :: [])) env Q = Q (.od [(.str "a", .fz (.int 1))]) env := by
  have e : mPairs ((mC (.str "a"), mC (.int 1)) :: []) env = .ok [(.str "a", .int 1)] env := rfl
  unfold mDisp
  rw [ok_bind]
  unfold Ok
  rw [e]
  rfl
theorem dLstK {ds : List D} (h : ds.length ≤ 1000) : dLst ds = some (.ol (ds.map T.fz)) := dLst_le (by omega)
theorem catLK {a b : List D} (h : a.length + b.length ≤ 1000000) : dCatL (.list a) (.list b) = some (.ol ((a ++ b).map T.fz)) := catL_ok h
mutual
/-- how often the word read stands in a value -/
def nrD : D → Nat
  | .str x => if (x == ("read" : Str)) = true then 1 else 0
  | .list xs => nrL xs
  | .tuple xs => nrL xs
  | _ => 0
def nrL : List D → Nat
  | [] => 0
  | x :: r => nrD x + nrL r
end
theorem nrL_app : ∀ a b : List D, nrL (a ++ b) = nrL a + nrL b
  | [], b => by simp [nrL]
  | x :: r, b => by
    rw [List.cons_append, nrL, nrL, nrL_app r b]
    omega
theorem nrL_rev (a : List D) : nrL a.reverse = nrL a := by
  induction a with
  | nil => rfl
  | cons x r ih =>
    rw [List.reverse_cons, nrL_app, ih, nrL, nrL, nrL]
    omega
theorem nrD_str (x : Str) : nrD (.str x) ≤ 1 := by
  rw [nrD]
  split <;> omega
def someOdd : List D := [.none, .bool true, .bool false, .int 0, .int 1, .int (-1), .int 10000, .int (10 ^ 39), .str "", .str "a", .str "if", .tuple [], .list [], .dict [], .tuple [.str "round"], .tuple [.str "read", .str "a", .int 1]]
def moreOdd : List D := [.tuple [.str "number", .int 3], .list [.str "round"], .dict [(.str "a", .int 1)], .str "a\n", .tuple [.tuple [.str "a", .int 0]], .tuple [.str "a", .str "b", .int 1], .tuple [.int 1, .tuple [.none]]]
theorem strs_ok : [("" : Str), "a", "if", "round", "read", "number", "a\n", "b"].all PyData.strOk = true := by decide +kernel
theorem odd_ok : ∀ d ∈ someOdd ++ moreOdd, Odd 600 3 d := by
  have s := List.all_eq_true.mp strs_ok
  have s0 := s "" (by simp)
  have s1 := s "a" (by simp)
  have s2 := s "if" (by simp)
  have s3 := s "round" (by simp)
  have s4 := s "read" (by simp)
  have s5 := s "number" (by simp)
  have s6 := s "a\n" (by simp)
  have s7 := s "b" (by simp)
  have l : ∀ x ∈ [("" : Str), "a", "if", "round", "read", "number", "a\n", "b"], x.length ≤ 6 := by decide +kernel
  have l0 := l "" (by simp)
  have l1 := l "a" (by simp)
  have l2 := l "if" (by simp)
  have l3 := l "round" (by simp)
  have l4 := l "read" (by simp)
  have l5 := l "number" (by simp)
  have l6 := l "a\n" (by simp)
  have l7 := l "b" (by simp)
  have n : ∀ i ∈ [(0 : Int), 1, -1, 10000, 10 ^ 39, 3], i.natAbs < 10 ^ 60 := by decide +kernel
  intro d m
  unfold someOdd moreOdd at m
  simp only [List.cons_append, List.nil_append, List.mem_cons, List.not_mem_nil, or_false] at m
  rcases m with rfl | rfl | rfl | rfl | rfl | rfl | rfl | rfl | rfl | rfl | rfl | rfl | rfl | rfl | rfl | rfl | rfl | rfl | rfl | rfl | rfl | rfl | rfl <;> refine ⟨?_, ?_, ?_⟩ <;> first
    | (simp only [Smd, SmdL, SmdK, s0, s1, s2, s3, s4, s5, s6, s7, and_true, true_and]; done)
    | (simp only [Smd, SmdL, SmdK, s0, s1, s2, s3, s4, s5, s6, s7, and_true, true_and]; decide +kernel)
    | (simp only [tot, totL, totK]; repeat split) <;> omega
    | (simp [PyData.depth, PyData.depthAll, PyData.depthKv])
theorem odd_nr : ∀ d ∈ someOdd ++ moreOdd, nrD d ≤ 1 := fun d m => by
  have a : (someOdd ++ moreOdd).all (fun d => decide (nrD d ≤ 1)) = true := by decide +kernel
  have z := List.all_eq_true.mp a d m
  exact of_decide_eq_true z
theorem odd_N {t : T} {Q : T → T → Prop} (B : IsBag t) (k : ∀ d t', IsBag t' → Odd 600 3 d → nrD d ≤ 1 → Q (.fz d) t') : BOk (sem__law_odd [some t]) Q := by
  have l0 : dLst [] = some (.ol []) := dLst0
  have t0 : dTup [] = some (.tuple []) := dTup_le (by simp)
  have a1 : dLst someOdd = some (.ol (someOdd.map T.fz)) := dLst_le (by decide)
  have a2 : dLst moreOdd = some (.ol (moreOdd.map T.fz)) := dLst_le (by decide)
  have a3 := catLK (a := someOdd) (b := moreOdd) (by decide)
  have l1 : dLst [.str "round"] = some (.ol [.fz (.str "round")]) := dLst1
  have key : ∀ l : List D, l = someOdd ++ moreOdd → BOk (sem__law_some [some t, some (.fz (.list l))]) Q := fun l e => by
    rw [e]
    exact some_B B (by simp [someOdd]) (by decide) fun d t' m B' => k d t' B' (odd_ok d m) (odd_nr d m)
  unfold someOdd at a1
  unfold moreOdd at a2
  unfold someOdd moreOdd at a3 key
  unfold sem__law_odd m__law_odd
  refine bok_sem ?_
  simp -implicitDefEqProofs only [↓oks, oks2, T.er, List.replicate, dPow39, dNeg, l0, l1, t0, dTup1, dTup2, dTup3, dispA, T.erK, a1, a2, a3]
  refine key _ rfl
theorem odd_B {t : T} {Q : T → T → Prop} (B : IsBag t) (k : ∀ d t', IsBag t' → Odd 600 3 d → Q (.fz d) t') : BOk (sem__law_odd [some t]) Q := odd_N B fun d t' B' o _ => k d t' B' o
end DL
namespace DL
open PySem L2 PyProof.Rows
/-! ### values bent in one part -/
theorem ofString_ok (s : String) : PyData.strOk (Str.ofString s) = true := by
  unfold PyData.strOk
  rw [Array.all_eq_true_iff_forall_mem]
  intro c m
  have : ∃ ch : Char, c = ch.toNat := by
    rw [Str.ofString_eq_toList] at m
    simp at m
    obtain ⟨a, _, e⟩ := m
    exact ⟨a, e.symm⟩
  obtain ⟨ch, rfl⟩ := this
  have := ch.valid
  have h : ch.toNat < 0xD800 ∨ (0xDFFF < ch.toNat ∧ ch.toNat < 0x110000) := this
  simp
  omega
theorem int_strOk (i : Int) : PyData.strOk (toString i : String) = true := ofString_ok _
structure Bent (d r : D) : Prop where
  sm : Smd r
  tot : tot r ≤ 2 * tot d + 13000
  dp : r.depth ≤ d.depth + 4
  nr : nrD r ≤ 2 * nrD d + 1
theorem Odd.bent {d r : D} (h : Odd 600 3 r) (n : nrD r ≤ 1) : Bent d r := ⟨h.sm, by have := h.tot; omega, by have := h.dp; omega, by omega⟩
theorem asc_app {x y : Str} (hx : PyData.strOk x = true) (hy : PyData.strOk y = true) : PyData.strOk (x ++ y) = true := by
  unfold PyData.strOk at hx hy ⊢
  rw [Array.all_eq_true_iff_forall_mem] at hx hy ⊢
  intro c m
  have m : c ∈ (x.cps ++ y.cps) := m
  rcases Array.mem_append.mp m with z | z
  · exact hx c z
  · exact hy c z
theorem asc_cut {x : Str} {lo hi : Option Int} (hx : PyData.strOk x = true) : PyData.strOk (cutS x lo hi) = true := by
  unfold PyData.strOk at hx ⊢
  rw [Array.all_eq_true_iff_forall_mem] at hx ⊢
  intro c m
  unfold cutS at m
  have m : c ∈ (((x.cps.toList.drop (HT.sIx x.length 0 lo)).take (HT.sIx x.length x.length hi - HT.sIx x.length 0 lo)).toArray) := m
  rw [List.mem_toArray] at m
  exact hx c (Array.mem_toList_iff.mp (List.mem_of_mem_drop (List.mem_of_mem_take m)))
theorem asc_rep {x : Str} {n : Nat} (hx : PyData.strOk x = true) : PyData.strOk (repS x n) = true := by
  unfold repS
  split
  · exact hx
  · unfold PyData.strOk at hx ⊢
    rw [Array.all_eq_true_iff_forall_mem] at hx ⊢
    have go : ∀ (n : Nat) (acc : Array Nat), (∀ c ∈ acc, decide (c < 0x110000) = true) → ∀ c ∈ (List.replicate n x.cps).foldl (· ++ ·) acc, decide (c < 0x110000) = true := fun n => by
      induction n with
      | zero => intro acc h; simpa using h
      | succ n ih =>
        intro acc h
        rw [List.replicate_succ, List.foldl_cons]
        refine ih _ fun c m => ?_
        rcases Array.mem_append.mp m with z | z
        · exact h c z
        · exact hx c z
    exact go n #[] (fun c m => by simp at m)
theorem upper_ok {x : Str} (hx : asciiS x = true) : PyData.strOk (Txt.upper x) = true ∧ (Txt.upper x).length = x.length := by
  unfold asciiS at hx
  rw [Array.all_eq_true_iff_forall_mem] at hx
  have e := upper_ascii (x := x) fun c m => by simpa using hx c (Array.mem_toList_iff.mp m)
  rw [e]
  constructor
  · unfold PyData.strOk
    rw [Array.all_eq_true_iff_forall_mem]
    intro c m
    obtain ⟨a, ma, rfl⟩ := Array.mem_map.mp m
    have := hx a ma
    have h : a < 128 := by simpa using this
    unfold up1
    split <;> simp <;> omega
  · show (x.cps.map up1).size = x.cps.size
    rw [Array.size_map]
theorem isint_any {d : D} : Sok (sem__law_is_int [some (.fz d)]) fun t => t = .fz (.bool (match d with | .int _ => true | _ => false)) := by
  unfold sem__law_is_int m__law_is_int
  rw [sok_sem]
  cases d with
  | int i =>
    have a : dIsi "int" (.int i) = some (.bool true) := rfl
    have b : dIsi "bool" (.int i) = some (.bool false) := rfl
    simp -implicitDefEqProofs only [↓oks, oks2, T.er, List.replicate, a, b, if_true, Bool.not_false]
  | bool i =>
    have a : dIsi "int" (.bool i) = some (.bool true) := rfl
    have b : dIsi "bool" (.bool i) = some (.bool true) := rfl
    simp -implicitDefEqProofs only [↓oks, oks2, T.er, List.replicate, a, b, if_true, Bool.not_true]
  | none =>
    have a : dIsi "int" .none = some (.bool false) := rfl
    simp -implicitDefEqProofs only [↓oks, oks2, T.er, List.replicate, a, Bool.false_eq_true, if_false]
  | str i =>
    have a : dIsi "int" (.str i) = some (.bool false) := rfl
    simp -implicitDefEqProofs only [↓oks, oks2, T.er, List.replicate, a, Bool.false_eq_true, if_false]
  | list i =>
    have a : dIsi "int" (.list i) = some (.bool false) := rfl
    simp -implicitDefEqProofs only [↓oks, oks2, T.er, List.replicate, a, Bool.false_eq_true, if_false]
  | tuple i =>
    have a : dIsi "int" (.tuple i) = some (.bool false) := rfl
    simp -implicitDefEqProofs only [↓oks, oks2, T.er, List.replicate, a, Bool.false_eq_true, if_false]
  | dict i =>
    have a : dIsi "int" (.dict i) = some (.bool false) := rfl
    simp -implicitDefEqProofs only [↓oks, oks2, T.er, List.replicate, a, Bool.false_eq_true, if_false]
def isTupB : D → Bool
  | .tuple _ => true
  | _ => false
def isStrB : D → Bool
  | .str _ => true
  | _ => false
def isDictB : D → Bool
  | .dict _ => true
  | _ => false
def isBoolB : D → Bool
  | .bool _ => true
  | _ => false
def isIntB : D → Bool
  | .int _ => true
  | _ => false
theorem isi_tupB (d : D) : dIsi "tuple" d = some (.bool (isTupB d)) := by cases d <;> rfl
theorem isi_strB (d : D) : dIsi "str" d = some (.bool (isStrB d)) := by cases d <;> rfl
theorem isi_dictB (d : D) : dIsi "dict" d = some (.bool (isDictB d)) := by cases d <;> rfl
theorem isi_boolB (d : D) : dIsi "bool" d = some (.bool (isBoolB d)) := by cases d <;> rfl
theorem cutD_take {ds : List D} {n : Nat} : cutD ds none (some (n : Int)) = ds.take n := by
  unfold cutD
  rw [HT.sIx_none, HT.sIx_nat, List.drop_zero, Nat.sub_zero]
  by_cases h : n ≤ ds.length
  · rw [Nat.min_eq_left h]
  · rw [Nat.min_eq_right (by omega), List.take_length, List.take_of_length_le (by omega)]
theorem cutD_drop {ds : List D} {n : Nat} : cutD ds (some (n : Int)) none = ds.drop n := cut_from ds (by omega)
theorem slT_take {ds : List D} {n : Nat} : dSl (.tuple ds) none (some (n : Int)) = some (.fz (.tuple (ds.take n))) := by
  show some (T.fz (.tuple (cutD ds none (some (n : Int))))) = _
  rw [cutD_take]
theorem slT_drop {ds : List D} {n : Nat} : dSl (.tuple ds) (some (n : Int)) none = some (.fz (.tuple (ds.drop n))) := by
  show some (T.fz (.tuple (cutD ds (some (n : Int)) none))) = _
  rw [cutD_drop]
theorem bent_of {ds l : List D} (h : Nst (.tuple ds)) (m : ∀ x ∈ l, x ∈ ds) (ht : totL l ≤ 2 * totL ds) (hn : nrL l ≤ 2 * nrL ds) : Bent (.tuple ds) (.tuple l) ∧ Bent (.tuple ds) (.list l) := by
  have sm : SmdL l := smdL_of fun d md => smdL_mem (show SmdL ds from h.smd) d (m d md)
  have dp : PyData.depthAll l ≤ PyData.depthAll ds := depL_le fun d md => depL_mem (m d md)
  refine ⟨⟨sm, ?_, ?_, by rw [nrD, nrD]; omega⟩, ⟨sm, ?_, ?_, by rw [nrD, nrD]; omega⟩⟩
  · rw [tot, tot]; omega
  · rw [PyData.depth, PyData.depth]; omega
  · rw [tot, tot]; omega
  · rw [PyData.depth, PyData.depth]; omega
theorem shp_nil : shp (.tuple []) = true := by simp [shp, SeqAt.shaped, PyData.canLay0, PyData.canLayAll0, PyData.depth, PyData.depthAll]
theorem eq_tupE {ds : List D} (h : shp (.tuple ds) = true) : dEqS (.tuple ds) (.tuple []) = some (.bool ds.isEmpty) := by
  unfold dEqS
  rw [if_pos ⟨h, shp_nil⟩]
  cases ds <;> simp [PyData.eqv, PyData.eqvAll]
theorem dIx_tup {ds : List D} {n : Nat} (h : n < ds.length) : dIx (.tuple ds) (.int (n : Int)) = some ds[n] := by
  have z := dIx_list (ds := ds) (n := (n : Int)) (by omega) (by omega)
  have e : dIx (.tuple ds) (.int (n : Int)) = dIx (.list ds) (.int (n : Int)) := rfl
  rw [e, z]
  rfl
noncomputable def bent1 (self : Sem) : M Fl := mIfS (tOrM ((m2 dEqS (mVarF 2) (mC (.int 0))).bind tru) ((m2 dEqS (((mHas 0).bind fun _ => mCallB sem__law_take 0 (mCons (mC (.int 9)) (mNil))).map T.er) (mC (.int 0))).bind tru)) (mRt ((mHas 0).bind fun _ => mCallB sem__law_odd 0 (mNil))) (mNx)
noncomputable def bent2 (self : Sem) : M Fl := mIfS (((mCall sem__law_is_int (mCons (mVarF 1) (mNil))).map T.er).bind tru) (mRt ((mHas 0).bind fun _ => mCallB sem__law_some 0 (mCons ((mL dLst (mCons (m2 dAdd (mVarF 1) (mC (.int 1))) (mCons (m2 dSub (mVarF 1) (mC (.int 1))) (mCons (mC (.int 0)) (mCons (m1 dNeg (mVarF 1)) (mCons (m2 dEqS (mVarF 1) (mC (.int 1))) (mCons (mC .none) (mCons (m2 dSub (mC (.int 10000)) (mVarF 1)) (mCons (mL dStrA (mCons (mVarF 1) (mNil))) (mNil)))))))))).map T.er) (mNil)))) (mNx)
noncomputable def bent3 (self : Sem) : M Fl := mIfS (tAndM ((m1 (dIsi "dict") (mVarF 1)).bind tru) ((m2 dNe (mVarF 1) ((mDic0).map T.er)).bind tru)) (mBad) (mNx)
noncomputable def bent4 (self : Sem) : M Fl := mIfS ((m1 (dIsi "str") (mVarF 1)).bind tru) (mRt ((mHas 0).bind fun _ => mCallB sem__law_some 0 (mCons ((mL dLst (mCons (m2 dAdd (mVarF 1) (mC (.str "a"))) (mCons (mSlV (mVarF 1) (mBd (mC (.int 1))) (M.pure none)) (mCons (m2 dAdd (mVarF 1) (mC (.str "1"))) (mCons (m1 dUpper (mVarF 1)) (mCons (mC (.str "if")) (mCons (m2 dRepS (mVarF 1) (mC (.int 12))) (mCons (mC (.str "wait")) (mCons (m2 dAdd (mVarF 1) (mC (.str "\n"))) (mNil)))))))))).map T.er) (mNil)))) (mNx)
noncomputable def bent5 (self : Sem) : M Fl := mIfS (tOrM (tNotM ((m1 (dIsi "tuple") (mVarF 1)).bind tru)) ((m2 dEqS (mVarF 1) (mL dTup (mNil))).bind tru)) (mRt ((mHas 0).bind fun _ => mCallB sem__law_odd 0 (mNil))) (mNx)
noncomputable def bent6 (self : Sem) : M Fl := mPar 3 4 (mConsT ((((mHas 0).bind fun _ => mCallB sem__law_take 0 (mCons (mC (.int 9)) (mNil))).map T.er).map T.fz) (mConsT ((((mHas 0).bind fun _ => mCallB sem__law_take 0 (mCons (mL dLen (mCons (mVarF 1) (mNil))) (mNil))).map T.er).map T.fz) (mNilT)))
noncomputable def bent7 (self : Sem) : M Fl := mIfS ((m2 dEqS (mVarF 3) (mC (.int 0))).bind tru) (mSeq (mSet 9 (((mL dLst (mCons ((mL dList (mCons (mVarF 1) (mNil))).map T.er) (mCons (m1 dRev (mVarF 1)) (mCons (m2 dAdd (mSlV (mVarF 1) (M.pure none) (mBd (mVarF 4))) (mSlV (mVarF 1) (mBd (m2 dAdd (mVarF 4) (mC (.int 1)))) (M.pure none))) (mCons (m2 dAdd (mSlV (mVarF 1) (M.pure none) (mBd (m2 dAdd (mVarF 4) (mC (.int 1))))) (mSlV (mVarF 1) (mBd (mVarF 4)) (M.pure none))) (mNil)))))).map T.er).map T.fz)) (mRt ((mHas 0).bind fun _ => mCallB sem__law_some 0 (mCons ((m2 dCatL (mVarF 9) ((mL dLst (mCons (m2 dAdd (mVarF 1) (mL dTup (mCons (mC .none) (mNil)))) (mNil))).map T.er)).map T.er) (mNil))))) (mNx)
noncomputable def bent8 (self : Sem) : M Fl := mRt ((m2 dAdd (m2 dAdd (mSlV (mVarF 1) (M.pure none) (mBd (mVarF 4))) (mL dTup (mCons (((mHas 0).bind fun _ => mCallB self 0 (mCons (m2 dIx (mVarF 1) (mVarF 4)) (mCons (m2 dSub (mVarF 2) (mC (.int 1))) (mNil)))).map T.er) (mNil)))) (mSlV (mVarF 1) (mBd (m2 dAdd (mVarF 4) (mC (.int 1)))) (M.pure none))).map T.fz)
theorem bent_eq (self : Sem) : m__law_bent self = mSeq (bent1 self) (mSeq (bent2 self) (mSeq (bent3 self) (mSeq (bent4 self) (mSeq (bent5 self) (mSeq (bent6 self) (mSeq (bent7 self) (bent8 self))))))) := rfl
theorem bent_B : ∀ (n : Nat) {t : T} {d : D} {deep : Nat} {Q : T → T → Prop}, IsBag t → Nst d → d.depth ≤ 50 → deep < n → (∀ r t', IsBag t' → Bent d r → Q (.fz r) t') → BOk (sem__law_bent n [some t, some (.fz d), some (.fz (.int (deep : Int)))]) Q := by
  intro n
  induction n with
  | zero => intro t d deep Q B h hd hn k; omega
  | succ n ih =>
    intro t d deep Q B h hd hn k
    unfold sem__law_bent
    rw [bent_eq]
    refine bok_sem ?_
    rw [ok_seq]
    have odd : ∀ {t : T} {Q' : T → T → Prop}, IsBag t → (∀ r t', IsBag t' → Bent d r → Q' (.fz r) t') → BOk (sem__law_odd [some t]) Q' := fun B k => odd_N B fun r t' B' o n => k r t' B' (o.bent n)
    unfold bent1
    simp -implicitDefEqProofs only [↓oks, oks2, T.er, List.replicate, dEqS_ints]
    by_cases c0 : (deep : Int) = 0
    · simp -implicitDefEqProofs only [decide_eq_true c0, if_true, ↓oks, oks2, T.er, List.replicate]
      exact odd B fun r t' B' b => k r t' B' b
    simp -implicitDefEqProofs only [decide_eq_false c0, Bool.false_eq_true, if_false, ↓oks, oks2, T.er, List.replicate]
    refine take_B B (by decide) (by decide) fun v t1 B1 v0 v1 => ?_
    simp -implicitDefEqProofs only [↓oks, oks2, T.er, List.replicate, dEqS_ints]
    by_cases c1 : v = 0
    · simp -implicitDefEqProofs only [decide_eq_true c1, if_true, ↓oks, oks2, T.er, List.replicate]
      exact odd B1 fun r t' B' b => k r t' B' b
    simp -implicitDefEqProofs only [decide_eq_false c1, Bool.false_eq_true, if_false, ↓oks, oks2, T.er, List.replicate]
    unfold bent2
    simp -implicitDefEqProofs only [↓oks, oks2, T.er, List.replicate, sok_is isint_any]
    cases h with
    | non =>
      simp -implicitDefEqProofs only [Bool.false_eq_true, if_false, ↓oks, oks2, T.er, List.replicate]
      unfold bent3
      simp -implicitDefEqProofs only [↓oks, oks2, T.er, List.replicate, isi_dictB, isDictB, Bool.false_eq_true, if_false]
      unfold bent4
      simp -implicitDefEqProofs only [↓oks, oks2, T.er, List.replicate, isi_strB, isStrB, Bool.false_eq_true, if_false]
      unfold bent5
      simp -implicitDefEqProofs only [↓oks, oks2, T.er, List.replicate, isi_tupB, isTupB, Bool.not_false, if_true]
      exact odd B1 fun r t' B' b => k r t' B' b
    | bl b =>
      simp -implicitDefEqProofs only [Bool.false_eq_true, if_false, ↓oks, oks2, T.er, List.replicate]
      unfold bent3
      simp -implicitDefEqProofs only [↓oks, oks2, T.er, List.replicate, isi_dictB, isDictB, Bool.false_eq_true, if_false]
      unfold bent4
      simp -implicitDefEqProofs only [↓oks, oks2, T.er, List.replicate, isi_strB, isStrB, Bool.false_eq_true, if_false]
      unfold bent5
      simp -implicitDefEqProofs only [↓oks, oks2, T.er, List.replicate, isi_tupB, isTupB, Bool.not_false, if_true]
      exact odd B1 fun r t' B' b => k r t' B' b
    | int hi =>
      rename_i i
      have big : ∀ j : Int, j.natAbs < 10 ^ 60 → Bent (.int i) (.int j) := fun j hj => ⟨hj, by rw [tot]; split <;> omega, by simp [PyData.depth], by simp [nrD]⟩
      have lg : i.natAbs.log2 < 1920 := by
        by_cases z : i.natAbs = 0
        · rw [z]; decide
        · exact Nat.lt_of_lt_of_le ((Nat.log2_lt z).mpr (Nat.lt_of_lt_of_le hi (by decide : 10 ^ 50 ≤ 2 ^ 200))) (by decide)
      have stA : dStrA [.int i] = some (.str (toString i)) := by
        unfold dStrA
        dsimp only
        rw [if_pos lg]
      simp -implicitDefEqProofs only [if_true, ↓oks, oks2, T.er, List.replicate, dAdd, dSub, dNeg, dEqS_ints, stA, dLstK (show ([PyData.int (i + 1), .int (i - 1), .int 0, .int (-i), .bool (decide (i = 1)), .none, .int (10000 - i), .str (toString i)] : List D).length ≤ 1000 by simp)]
      refine some_B B1 (by simp) (by simp) fun r t2 mr B2 => ?_
      refine k r t2 B2 ?_
      simp only [List.mem_cons, List.not_mem_nil, or_false] at mr
      rcases mr with rfl | rfl | rfl | rfl | rfl | rfl | rfl | rfl
      · exact big _ (by omega)
      · exact big _ (by omega)
      · exact big _ (by decide)
      · exact big _ (by omega)
      · exact ⟨trivial, by rw [tot]; omega, by simp [PyData.depth], by simp [nrD]⟩
      · exact ⟨trivial, by rw [tot]; omega, by simp [PyData.depth], by simp [nrD]⟩
      · exact big _ (by omega)
      · have l := num_len (i := i) (k := 50) (by decide) hi
        refine ⟨?_, ?_, by simp [PyData.depth], by have := nrD_str (Str.ofString (toString i)); exact Nat.le_trans this (by omega)⟩
        · exact int_strOk i
        · have e : tot (.str (Str.ofString (toString i))) = 10 * (Str.ofString (toString i)).length + 2 := by rw [tot]
          rw [e]
          omega
    | str ha hl =>
      rename_i x
      have hx := ascii_ok ha
      obtain ⟨u1, u2⟩ := upper_ok ha
      have s1 : ∀ y ∈ [("a" : Str), "1", "\n", "if", "wait"], PyData.strOk y = true ∧ y.length ≤ 4 := by decide +kernel
      have fin : ∀ y : Str, PyData.strOk y = true → y.length ≤ 1200 → Bent (.str x) (.str y) := fun y h1 h2 => ⟨h1, by rw [tot]; omega, by simp [PyData.depth], by have := nrD_str y; omega⟩
      have ap : ∀ y ∈ [("a" : Str), "1", "\n", "if", "wait"], dAdd (.str x) (.str y) = some (.str (x ++ y)) ∧ Bent (.str x) (.str (x ++ y)) := fun y m => by
        obtain ⟨y1, y2⟩ := s1 y m
        refine ⟨?_, fin _ (asc_app hx y1) (by rw [strLen_append]; omega)⟩
        show (if x.length + y.length ≤ sizeLine then some (PyData.str (x ++ y)) else none) = _
        rw [if_pos (million (by omega))]
      have cu : dSl (.str x) (some 1) none = some (.fz (.str (cutS x (some 1) none))) := by
        show (if x.length ≤ sizeLine then _ else _) = _
        rw [if_pos (million (by omega))]
      have up : dUpper (.str x) = some (.str (Txt.upper x)) := by
        unfold dUpper
        dsimp only
        rw [if_pos (by omega)]
      have rp : dRepS (.str x) (.int 12) = some (.str (repS x 12)) := by
        unfold dRepS
        dsimp only
        rw [if_pos ⟨by decide, by decide, by omega⟩]
        rfl
      simp -implicitDefEqProofs only [Bool.false_eq_true, if_false, ↓oks, oks2, T.er, List.replicate]
      unfold bent3
      simp -implicitDefEqProofs only [↓oks, oks2, T.er, List.replicate, isi_dictB, isDictB, Bool.false_eq_true, if_false]
      unfold bent4
      simp -implicitDefEqProofs only [↓oks, oks2, T.er, List.replicate, isi_strB, isStrB, if_true, (ap "a" (by simp)).1, (ap "1" (by simp)).1, (ap "\n" (by simp)).1, ok_slV, cu, up, rp, dLstK (show ([PyData.str (x ++ "a"), .str (cutS x (some 1) none), .str (x ++ "1"), .str (Txt.upper x), .str "if", .str (repS x 12), .str "wait", .str (x ++ "\n")] : List D).length ≤ 1000 by simp)]
      refine some_B B1 (by simp) (by simp) fun r t2 mr B2 => ?_
      refine k r t2 B2 ?_
      simp only [List.mem_cons, List.not_mem_nil, or_false] at mr
      rcases mr with rfl | rfl | rfl | rfl | rfl | rfl | rfl | rfl
      · exact (ap "a" (by simp)).2
      · exact fin _ (asc_cut hx) (by have := cutS_length x (some 1) none; omega)
      · exact (ap "1" (by simp)).2
      · exact fin _ u1 (by omega)
      · exact fin _ (s1 "if" (by simp)).1 (by have := (s1 "if" (by simp)).2; omega)
      · exact fin _ (asc_rep hx) (by rw [rep_size]; omega)
      · exact fin _ (s1 "wait" (by simp)).1 (by have := (s1 "wait" (by simp)).2; omega)
      · exact (ap "\n" (by simp)).2
    | tup hs hl =>
      rename_i ds
      have hN : Nst (.tuple ds) := .tup hs hl
      have hsh : shp (.tuple ds) = true := shp_of hN.lay (by omega)
      have tup0 : dTup [] = some (.tuple []) := dTup_le (by simp)
      simp -implicitDefEqProofs only [Bool.false_eq_true, if_false, ↓oks, oks2, T.er, List.replicate]
      unfold bent3
      simp -implicitDefEqProofs only [↓oks, oks2, T.er, List.replicate, isi_dictB, isDictB, Bool.false_eq_true, if_false]
      unfold bent4
      simp -implicitDefEqProofs only [↓oks, oks2, T.er, List.replicate, isi_strB, isStrB, Bool.false_eq_true, if_false]
      unfold bent5
      simp -implicitDefEqProofs only [↓oks, oks2, T.er, List.replicate, isi_tupB, isTupB, Bool.not_true, Bool.false_eq_true, if_false, tup0, eq_tupE hsh]
      by_cases ce : ds = []
      · subst ce
        simp -implicitDefEqProofs only [List.isEmpty_nil, if_true, ↓oks, oks2, T.er, List.replicate]
        exact odd B1 fun r t' B' b => k r t' B' b
      rw [List.isEmpty_eq_false_iff.mpr ce]
      have lp : 0 < ds.length := List.length_pos_iff.mpr ce
      simp -implicitDefEqProofs only [Bool.false_eq_true, if_false, ↓oks, oks2, T.er, List.replicate]
      unfold bent6
      simp -implicitDefEqProofs only [↓oks, oks2, T.er, List.replicate]
      refine take_B B1 (by decide) (by decide) fun way t2 B2 w0 w1 => ?_
      simp -implicitDefEqProofs only [↓oks, oks2, T.er, List.replicate, dLen]
      refine take_B B2 (by omega) (by omega) fun at_ t3 B3 a0 a1 => ?_
      obtain ⟨j, rfl⟩ := Int.eq_ofNat_of_zero_le a0
      have hj : j < ds.length := by omega
      simp -implicitDefEqProofs only [↓oks, oks2, T.er, List.replicate]
      unfold bent7
      simp -implicitDefEqProofs only [↓oks, oks2, T.er, List.replicate, dEqS_ints]
      have addT : ∀ a b : List D, a.length + b.length ≤ 1000000 → dAdd (.tuple a) (.tuple b) = some (.tuple (a ++ b)) := fun a b => add_tup
      have ej1 : ((j : Nat) : Int) + 1 = ((j + 1 : Nat) : Int) := by omega
      have tl : (ds.take j).length ≤ 1000 := by rw [List.length_take]; omega
      have tl1 : (ds.take (j + 1)).length ≤ 1000 := by rw [List.length_take]; omega
      have dl : (ds.drop j).length ≤ 1000 := by rw [List.length_drop]; omega
      have dl1 : (ds.drop (j + 1)).length ≤ 1000 := by rw [List.length_drop]; omega
      have dsum : totL ds = totL (ds.take j) + totL (ds.drop j) := by rw [← totL_app, List.take_append_drop]
      have dsum1 : totL ds = totL (ds.take (j + 1)) + totL (ds.drop (j + 1)) := by rw [← totL_app, List.take_append_drop]
      have nsum : nrL ds = nrL (ds.take j) + nrL (ds.drop j) := by rw [← nrL_app, List.take_append_drop]
      have nsum1 : nrL ds = nrL (ds.take (j + 1)) + nrL (ds.drop (j + 1)) := by rw [← nrL_app, List.take_append_drop]
      by_cases cw : way = 0
      · have dl_ : ∀ ds : List D, dList [.tuple ds] = some (.ol (ds.map T.fz)) := fun ds => rfl
        have drv : ∀ ds : List D, dRev (.tuple ds) = some (.tuple ds.reverse) := fun ds => rfl
        simp -implicitDefEqProofs only [decide_eq_true cw, if_true, ↓oks, oks2, T.er, List.replicate, dl_, drv, ok_slV, slT_take, slT_drop, dAdd_i, ej1, addT _ _ (show (ds.take j).length + (ds.drop (j + 1)).length ≤ 1000000 by omega), addT _ _ (show (ds.take (j + 1)).length + (ds.drop j).length ≤ 1000000 by omega), er_fz,
          dLstK (show ([PyData.list ds, .tuple ds.reverse, .tuple (ds.take j ++ ds.drop (j + 1)), .tuple (ds.take (j + 1) ++ ds.drop j)] : List D).length ≤ 1000 by simp), dTup1, addT _ _ (show ds.length + ([PyData.none] : List D).length ≤ 1000000 by simp; omega), dLst1, catLK (show ([PyData.list ds, .tuple ds.reverse, .tuple (ds.take j ++ ds.drop (j + 1)), .tuple (ds.take (j + 1) ++ ds.drop j)] : List D).length + ([PyData.tuple (ds ++ [.none])] : List D).length ≤ 1000000 by simp)]
        refine some_B B3 (by simp) (by simp) fun r t4 mr B4 => ?_
        refine k r t4 B4 ?_
        simp only [List.mem_cons, List.not_mem_nil, or_false] at mr
        rcases mr with rfl | rfl | rfl | rfl | rfl
        · exact (bent_of hN (fun x m => m) (by omega) (by omega)).2
        · exact (bent_of hN (fun x m => List.mem_reverse.mp m) (by rw [totL_rev]; omega) (by rw [nrL_rev]; omega)).1
        · refine (bent_of hN (fun x m => ?_) (by rw [totL_app]; omega) (by rw [nrL_app]; omega)).1
          rcases List.mem_append.mp m with z | z
          · exact List.mem_of_mem_take z
          · exact List.mem_of_mem_drop z
        · refine (bent_of hN (fun x m => ?_) (by rw [totL_app]; omega) (by rw [nrL_app]; omega)).1
          rcases List.mem_append.mp m with z | z
          · exact List.mem_of_mem_take z
          · exact List.mem_of_mem_drop z
        · have sm : SmdL ds := hN.smd
          refine ⟨smdL_app sm ⟨trivial, trivial⟩, ?_, ?_, by simp only [nrD, nrL_app, nrL]; omega⟩
          · rw [tot, tot, totL_app, totL, totL, tot]
            omega
          · rw [PyData.depth, PyData.depth]
            have : PyData.depthAll (ds ++ [PyData.none]) ≤ PyData.depthAll ds := depL_le fun d m => by
              rcases List.mem_append.mp m with z | z
              · exact depL_mem z
              · rw [List.mem_singleton.mp z]
                simp [PyData.depth]
            omega
      · obtain ⟨dp, rfl⟩ : ∃ dp, deep = dp + 1 := ⟨deep - 1, by omega⟩
        have ed : (((dp + 1 : Nat) : Int)) - 1 = (dp : Int) := by omega
        have mj : ds[j] ∈ ds := List.getElem_mem hj
        have jd : ds[j].depth ≤ PyData.depthAll ds := depL_mem mj
        have hd' : PyData.depthAll ds + 1 ≤ 50 := by rw [PyData.depth] at hd; exact hd
        simp -implicitDefEqProofs only [decide_eq_false cw, Bool.false_eq_true, if_false, ↓oks, oks2, T.er, List.replicate]
        unfold bent8
        simp -implicitDefEqProofs only [↓oks, oks2, T.er, List.replicate, ok_slV, slT_take, dIx_tup hj, dSub, ed]
        refine ih B3 (hs _ mj) (by omega) (by omega) fun r t4 B4 b => ?_
        simp -implicitDefEqProofs only [↓oks, oks2, T.er, List.replicate, dTup1, slT_drop, dAdd_i, ej1, addT _ _ (show (ds.take j).length + ([r] : List D).length ≤ 1000000 by simp; omega), addT _ _ (show (ds.take j ++ [r]).length + (ds.drop (j + 1)).length ≤ 1000000 by rw [List.length_append, List.length_singleton]; omega)]
        refine k _ t4 B4 ⟨?_, ?_, ?_, ?_⟩
        · have sm : SmdL ds := hN.smd
          refine smdL_app (smdL_app (smdL_of fun d m => smdL_mem sm d (List.mem_of_mem_take m)) ⟨b.sm, trivial⟩) (smdL_of fun d m => smdL_mem sm d (List.mem_of_mem_drop m))
        · have e0 : ds.drop j = ds[j] :: ds.drop (j + 1) := List.drop_eq_getElem_cons hj
          have := b.tot
          rw [tot, tot, totL_app, totL_app, totL, totL]
          rw [e0, totL] at dsum
          omega
        · have := b.dp
          rw [PyData.depth, PyData.depth]
          have : PyData.depthAll (ds.take j ++ [r] ++ ds.drop (j + 1)) ≤ PyData.depthAll ds + 4 := depL_le fun d m => by
            rcases List.mem_append.mp m with z | z
            · rcases List.mem_append.mp z with z | z
              · have := depL_mem (List.mem_of_mem_take z)
                omega
              · rw [List.mem_singleton.mp z]
                omega
            · have := depL_mem (List.mem_of_mem_drop z)
              omega
          omega
        · have e0 : ds.drop j = ds[j] :: ds.drop (j + 1) := List.drop_eq_getElem_cons hj
          have := b.nr
          rw [e0, nrL] at nsum
          rw [nrD, nrD, nrL_app, nrL_app, nrL, nrL]
          omega
end DL
namespace DL
open PySem L2 PyProof.Rows
/-! ### integers, counts of any value -/
theorem isi_intT (d : D) : dIsi "int" d = some (.bool (isIntB d || isBoolB d)) := by cases d <;> rfl
theorem isinteger_any {d : D} : Sok (sem_is_integer [some (.fz d)]) fun t => t = .fz (.bool (isIntB d)) := by
  unfold sem_is_integer m_is_integer
  rw [sok_sem]
  simp -implicitDefEqProofs only [↓oks, oks2, T.er, List.replicate, isi_intT, isi_boolB]
  cases d <;> simp [isIntB, isBoolB]
def isCntB : D → Bool
  | .int i => decide (0 ≤ i)
  | _ => false
theorem iscount_any {d : D} : Sok (sem_is_count [some (.fz d)]) fun t => t = .fz (.bool (isCntB d)) := by
  unfold sem_is_count m_is_count
  rw [sok_sem]
  simp -implicitDefEqProofs only [↓oks, oks2, T.er, List.replicate, sok_is isinteger_any]
  cases d <;> simp [isIntB, isCntB, dGe, oEl]
theorem lenT (ds : List D) : dLen [.tuple ds] = some (.int (ds.length : Int)) := rfl
end DL
namespace DL
/-! ### sets of integers that come again -/
def Per (S : Nat → Bool) (b m : Nat) : Prop := ∀ n, b ≤ n → S (n + m) = S n
theorem Per.mul {S : Nat → Bool} {b m : Nat} (h : Per S b m) : ∀ (k n : Nat), b ≤ n → S (n + k * m) = S n
  | 0, n, hn => by rw [Nat.zero_mul, Nat.add_zero]
  | k + 1, n, hn => by rw [Nat.succ_mul, ← Nat.add_assoc, h _ (by omega), h.mul k n hn]
theorem Per.cong {S : Nat → Bool} {b m n n' : Nat} (h : Per S b m) (hn : b ≤ n) (hn' : b ≤ n') (e : n % m = n' % m) : S n = S n' := by
  have key : ∀ x y : Nat, b ≤ x → x % m = y % m → x ≤ y → S x = S y := fun x y hx e l => by
    have d1 := Nat.div_add_mod x m
    have d2 := Nat.div_add_mod y m
    have le : x / m ≤ y / m := Nat.div_le_div_right l
    have e3 : y = x + (y / m - x / m) * m := by
      have : m * (y / m) = m * (x / m) + (y / m - x / m) * m := by
        rw [Nat.mul_comm (y / m - x / m) m, ← Nat.mul_add]
        congr 1
        omega
      omega
    rw [e3, h.mul _ x hx]
  rcases Nat.le_total n n' with l | l
  · exact key n n' hn e l
  · exact (key n' n hn' e.symm l).symm
theorem Per.up {S : Nat → Bool} {b c m : Nat} (h : Per S b m) (l : b ≤ c) : Per S c m := fun n hn => h n (Nat.le_trans l hn)
/-- a period from somewhere on is one from where any other one begins -/
theorem Per.back {S : Nat → Bool} {b c m q : Nat} (h : Per S c m) (k : Per S b q) (hq : 0 < q) : Per S b m := fun n hn => by
  have l : c ≤ n + c * q := by
    have : c * 1 ≤ c * q := Nat.mul_le_mul_left c hq
    omega
  rw [← k.mul c (n + m) (by omega), ← k.mul c n hn, show n + m + c * q = n + c * q + m by omega]
  exact h _ l
theorem Per.dvd {S : Nat → Bool} {b m k : Nat} (h : Per S b m) (d : m ∣ k) : Per S b k := fun n hn => by
  obtain ⟨j, rfl⟩ := d
  rw [Nat.mul_comm m j]
  exact h.mul j n hn
/-- the least period, and where it begins -/
structure Tb (S : Nat → Bool) (b m : Nat) : Prop where
  pos : 0 < m
  per : Per S b m
  mn : ∀ p c, 0 < p → Per S c p → m ≤ p
  lb : b = 0 ∨ S (b - 1) ≠ S (b - 1 + m)
theorem Tb.ge {S : Nat → Bool} {b c m : Nat} (h : Tb S b m) (k : Per S c m) : b ≤ c := by
  rcases h.lb with z | z
  · omega
  · by_cases l : b ≤ c
    · exact l
    · exact absurd (k (b - 1) (by omega)).symm z
theorem Tb.dvd {S : Nat → Bool} {b c m p : Nat} (h : Tb S b m) (hp : 0 < p) (k : Per S c p) : m ∣ p := by
  by_cases z : p % m = 0
  · exact Nat.dvd_of_mod_eq_zero z
  · exfalso
    have r : Per S (b + c) (p % m) := fun n hn => by
      have e := Nat.div_add_mod p m
      have e2 : n + p = n + p % m + (p / m) * m := by
        rw [Nat.mul_comm (p / m) m]
        omega
      rw [← h.per.mul (p / m) (n + p % m) (by omega), ← e2]
      exact k n (by omega)
    have := h.mn _ _ (Nat.pos_of_ne_zero z) r
    have := Nat.mod_lt p h.pos
    omega
theorem Tb.uniq {S : Nat → Bool} {b m b' m' : Nat} (h : Tb S b m) (k : Tb S b' m') : b = b' ∧ m = m' := by
  have e : m = m' := Nat.le_antisymm (h.mn _ _ k.pos k.per) (k.mn _ _ h.pos h.per)
  subst e
  exact ⟨Nat.le_antisymm (h.ge k.per) (k.ge h.per), rfl⟩
theorem tb_ex {S : Nat → Bool} {c q : Nat} (hq : 0 < q) (k : Per S c q) : ∃ b m, Tb S b m ∧ b ≤ c ∧ m ∣ q := by
  classical
  have e1 : ∃ p, 0 < p ∧ ∃ c, Per S c p := ⟨q, hq, c, k⟩
  have least : ∀ (P : Nat → Prop), (∃ n, P n) → ∃ n, P n ∧ ∀ j, P j → n ≤ j := fun P ⟨n, hn⟩ => by
    induction n using Nat.strongRecOn with
    | _ n ih =>
      by_cases z : ∃ j, j < n ∧ P j
      · obtain ⟨j, l, hj⟩ := z
        exact ih j l hj
      · exact ⟨n, hn, fun j hj => Nat.le_of_not_lt fun l => z ⟨j, l, hj⟩⟩
  obtain ⟨m, ⟨hm, c', hc'⟩, lm⟩ := least _ e1
  have pm : Per S c m := hc'.back k hq
  obtain ⟨b, hb, lb⟩ := least (fun b => Per S b m) ⟨c, pm⟩
  have T : Tb S b m := ⟨hm, hb, fun p c hp h => lm p ⟨hp, c, h⟩, by
    by_cases z : b = 0
    · exact .inl z
    · refine .inr fun e => ?_
      have := lb (b - 1) fun n hn => by
        by_cases y : n = b - 1
        · subst y
          exact e.symm
        · exact hb n (by omega)
      omega⟩
  exact ⟨b, m, T, lb c pm, T.dvd hq k⟩
/-- one row of numbers tells the period -/
theorem per_window {S : Nat → Bool} {c q half p most : Nat} (k : Per S c q) (hq : 0 < q) (hc : c ≤ half) (hz : half + q + p ≤ most + 1) (w : ∀ n, half ≤ n → n + p ≤ most → S n = S (n + p)) : Per S half p := fun n hn => by
  have l : (n - half) % q < q := Nat.mod_lt _ hq
  have e0 := Nat.div_add_mod (n - half) q
  have e1 : n = half + (n - half) % q + (n - half) / q * q := by
    rw [Nat.mul_comm ((n - half) / q) q]
    omega
  have s1 : S n = S (half + (n - half) % q) := by
    conv => lhs; rw [e1]
    exact k.mul _ _ (by omega)
  have s2 : S (n + p) = S (half + (n - half) % q + p) := by
    have e2 : n + p = half + (n - half) % q + p + (n - half) / q * q := by omega
    rw [e2]
    exact k.mul _ _ (by omega)
  rw [s1, s2]
  exact (w _ (by omega) (by omega)).symm
/-- a turn that comes again by a part of its own -/
theorem per_turn {S : Nat → Bool} {c q l : Nat} (k : Per S c q) (hq : 0 < q) (hl : 0 < l) (d : l ∣ q) : (∀ j, j < q → S (c + j) = S (c + j % l)) ↔ Per S c l := by
  constructor
  · intro w n hn
    have at_ : ∀ x, S (c + x) = S (c + x % l) := fun x => by
      have e1 : S (c + x) = S (c + x % q) := by
        have e0 := Nat.div_add_mod x q
        have e2 : c + x = c + x % q + x / q * q := by
          rw [Nat.mul_comm (x / q) q]
          omega
        conv => lhs; rw [e2]
        exact k.mul _ _ (by omega)
      rw [e1, w _ (Nat.mod_lt _ hq), Nat.mod_mod_of_dvd x d]
    have e3 : n + l = c + (n - c + l) := by omega
    have e4 : n = c + (n - c) := by omega
    rw [e3, at_, Nat.add_mod_right]
    conv => rhs; rw [e4]
    exact (at_ _).symm
  · intro w j _
    have e0 := Nat.div_add_mod j l
    have e2 : c + j = c + j % l + j / l * l := by
      rw [Nat.mul_comm (j / l) l]
      omega
    conv => lhs; rw [e2]
    exact w.mul _ _ (by omega)
/-! ### the numbers of a table -/
def numsN (S : Nat → Bool) (b : Nat) : List Nat := (List.range b).filter S
def restsN (S : Nat → Bool) (b m : Nat) : List Nat := (List.range m).filter fun r => S (r + m * b)
theorem rest_at {S : Nat → Bool} {b m n : Nat} (h : Per S b m) (hm : 0 < m) (hn : b ≤ n) : S (n % m + m * b) = S n :=
  h.cong (by
    have : 1 * b ≤ m * b := Nat.mul_le_mul_right b hm
    omega) hn (by rw [Nat.add_mul_mod_self_left, Nat.mod_mod])
theorem mem_rests {S : Nat → Bool} {b m n : Nat} (h : Per S b m) (hm : 0 < m) (hn : b ≤ n) : n % m ∈ restsN S b m ↔ S n = true := by
  unfold restsN
  rw [List.mem_filter, List.mem_range, rest_at h hm hn]
  exact ⟨fun z => z.2, fun z => ⟨Nat.mod_lt _ hm, z⟩⟩
theorem mem_nums {S : Nat → Bool} {b n : Nat} : n ∈ numsN S b ↔ n < b ∧ S n = true := by
  unfold numsN
  rw [List.mem_filter, List.mem_range]
/-- the rests, taken out of one turn -/
theorem rests_turn {S : Nat → Bool} {b m r : Nat} (h : Per S b m) (hm : 0 < m) : r ∈ restsN S b m ↔ r ∈ ((List.range m).filter fun k => S (b + k)).map fun k => (b + k) % m := by
  rw [List.mem_map]
  constructor
  · intro z
    unfold restsN at z
    rw [List.mem_filter, List.mem_range] at z
    obtain ⟨l, s⟩ := z
    have d0 := Nat.div_add_mod b m
    have lm := Nat.mod_lt b hm
    -- the place of r in the turn
    refine ⟨(r + m - b % m) % m, ?_, ?_⟩
    · rw [List.mem_filter, List.mem_range]
      refine ⟨Nat.mod_lt _ hm, ?_⟩
      have e : (b + (r + m - b % m) % m) % m = r := by
        rw [Nat.add_mod, Nat.mod_mod, ← Nat.add_mod]
        have : b + (r + m - b % m) = r + m * (b / m + 1) := by
          rw [Nat.mul_add]
          omega
        rw [this, Nat.add_mul_mod_self_left, Nat.mod_eq_of_lt l]
      rw [← rest_at h hm (Nat.le_add_right b _), e]
      exact s
    · rw [Nat.add_mod, Nat.mod_mod, ← Nat.add_mod]
      have : b + (r + m - b % m) = r + m * (b / m + 1) := by
        rw [Nat.mul_add]
        omega
      rw [this, Nat.add_mul_mod_self_left, Nat.mod_eq_of_lt l]
  · rintro ⟨k, mk, rfl⟩
    rw [List.mem_filter] at mk
    exact (mem_rests h hm (Nat.le_add_right b k)).mpr mk.2
/-! ### a set moved on -/
def shiftB (S : Nat → Bool) (y : Nat) : Nat → Bool := fun n => decide (y ≤ n) && S (n - y)
theorem per_shift {S : Nat → Bool} {b m y : Nat} (h : Per S b m) : Per (shiftB S y) (b + y) m := fun n hn => by
  unfold shiftB
  rw [show n + m - y = n - y + m by omega, h _ (by omega)]
  simp only [show y ≤ n + m by omega, show y ≤ n by omega]
theorem shift_per {S : Nat → Bool} {c p y : Nat} (h : Per (shiftB S y) c p) : Per S c p := fun n hn => by
  have z := h (n + y) (by omega)
  unfold shiftB at z
  rw [show n + y + p - y = n + p by omega, show n + y - y = n by omega] at z
  simpa [show y ≤ n + y + p by omega, show y ≤ n + y by omega] using z
theorem shift_tb {S : Nat → Bool} {b m y : Nat} (h : Tb S b m) : ∃ b', Tb (shiftB S y) b' m ∧ b' ≤ b + y := by
  obtain ⟨b', m', T, l, d⟩ := tb_ex h.pos (per_shift (y := y) h.per)
  have e : m' = m := Nat.le_antisymm (Nat.le_of_dvd h.pos d) (h.mn _ _ T.pos (shift_per T.per))
  subst e
  exact ⟨b', T, l⟩
/-! ### two sets -/
theorem per_and {S R : Nat → Bool} {b c m p l : Nat} (h : Per S b m) (k : Per R c p) (d1 : m ∣ l) (d2 : p ∣ l) : Per (fun n => S n && R n) (max b c) l := fun n hn => by
  show (S (n + l) && R (n + l)) = (S n && R n)
  rw [h.dvd d1 n (by omega), k.dvd d2 n (by omega)]
/-- the least member from n on stands within one turn -/
theorem next_near {S : Nat → Bool} {b m x n : Nat} (h : Per S b m) (hm : 0 < m) (hx : x ≤ n) (s : S n = true) : ∃ j, x ≤ j ∧ j < max b x + m ∧ S j = true := by
  by_cases l : n < max b x + m
  · exact ⟨n, hx, l, s⟩
  · have e : (n - max b x) % m < m := Nat.mod_lt _ hm
    have e0 := Nat.div_add_mod (n - max b x) m
    refine ⟨max b x + (n - max b x) % m, by omega, by omega, ?_⟩
    have e2 : n = max b x + (n - max b x) % m + (n - max b x) / m * m := by
      rw [Nat.mul_comm ((n - max b x) / m) m]
      omega
    rw [← s]
    conv => rhs; rw [e2]
    exact (h.mul _ _ (by omega)).symm
end DL
namespace DL
open PySem L2 PyProof.Rows
/-! ### lists of integers as data -/
def natD (n : Nat) : D := .int (n : Int)
instance datN : Dat Nat where
  d := natD
  of := fun d => match d with
    | .int i => i.toNat
    | _ => 0
  od := fun _ => rfl
  anti := fun x y h1 h2 => by
    have q := toks_key (a := Sum.inl (x : Int)) (b := Sum.inl (y : Int)) (le_anti h1 h2)
    cases q
    rfl
theorem int_shp (i : Int) : shp (.int i) = true := by simp [shp, SeqAt.shaped, PyData.canLay0, PyData.depth]
theorem int_lay (i : Int) : (PyData.int i).canLay0 = true ∧ (PyData.int i).depth ≤ 60 := ⟨by simp [PyData.canLay0], by simp [PyData.depth]⟩
theorem ints_shpL (is : List Int) : shp (.list (is.map PyData.int)) = true := shp_list fun y m => int_lay y
theorem ints_shpT (is : List Int) : shp (.tuple (is.map PyData.int)) = true := shp_tuple fun y m => int_lay y
theorem int_any {i : Int} {is : List Int} : ((is.map PyData.int).any fun z => PyData.eqv z (.int i)) = decide (i ∈ is) := by
  rw [List.any_map]
  apply Bool.eq_iff_iff.mpr
  rw [List.any_eq_true, decide_eq_true_eq]
  constructor
  · rintro ⟨y, m, e⟩
    have e : y = i := by simpa [PyData.eqv] using e
    exact e ▸ m
  · intro m
    exact ⟨i, m, by simp [PyData.eqv]⟩
theorem int_inT (i : Int) (is : List Int) : dIn (.int i) (.tuple (is.map PyData.int)) = some (.bool (decide (i ∈ is))) := by
  unfold dIn
  dsimp only
  rw [if_pos ⟨int_shp i, ints_shpT is⟩, int_any]
theorem int_ninT (i : Int) (is : List Int) : dNotIn (.int i) (.tuple (is.map PyData.int)) = some (.bool (!decide (i ∈ is))) := by
  unfold dNotIn
  dsimp only
  rw [if_pos ⟨int_shp i, ints_shpT is⟩, int_any]
theorem int_inL (i : Int) (is : List Int) : dIn (.int i) (.list (is.map PyData.int)) = some (.bool (decide (i ∈ is))) := by
  unfold dIn
  dsimp only
  rw [if_pos ⟨int_shp i, ints_shpL is⟩, int_any]
theorem nats_map (ns : List Nat) : ns.map natD = (ns.map fun (n : Nat) => (n : Int)).map PyData.int := by
  rw [List.map_map]
  rfl
theorem mem_cast {n : Nat} {ns : List Nat} : ((n : Int) ∈ ns.map fun (k : Nat) => (k : Int)) ↔ n ∈ ns := by
  rw [List.mem_map]
  exact ⟨fun ⟨k, m, e⟩ => by
    have : k = n := by omega
    exact this ▸ m, fun m => ⟨n, m, rfl⟩⟩
theorem nat_inT (n : Nat) (ns : List Nat) : dIn (.int (n : Int)) (.tuple (ns.map natD)) = some (.bool (decide (n ∈ ns))) := by
  rw [nats_map, int_inT]
  congr 2
  exact decide_eq_decide.mpr mem_cast
theorem nat_inL (n : Nat) (ns : List Nat) : dIn (.int (n : Int)) (.list (ns.map natD)) = some (.bool (decide (n ∈ ns))) := by
  rw [nats_map, int_inL]
  congr 2
  exact decide_eq_decide.mpr mem_cast
theorem int_sortOk {is : List Int} (hl : is.length ≤ 1000000) : SortOk (is.map PyData.int) := by
  refine ⟨fun d m d' m' => ?_, .inr fun d m => ?_, million (by simpa using hl), fun d m => ?_⟩
  · obtain ⟨r, _, rfl⟩ := List.mem_map.mp m
    obtain ⟨s, _, rfl⟩ := List.mem_map.mp m'
    simp [W.alike]
  · obtain ⟨r, _, rfl⟩ := List.mem_map.mp m
    exact ⟨(fun z => nomatch z), (fun ys z => nomatch z)⟩
  · obtain ⟨r, _, rfl⟩ := List.mem_map.mp m
    exact int_shp r
theorem nat_sortOk {ns : List Nat} (hl : ns.length ≤ 1000000) : SortOk (ns.map natD) := by
  rw [nats_map]
  exact int_sortOk (by simpa using hl)
theorem dle_nat {a b : Nat} (h : a ≤ b) : dle (natD a) (natD b) := by
  show (!PySem.W.dataLt (.int (b : Int)) (.int (a : Int))) = true
  have e := congrFun (congrFun (PySem.W.dataLe_int (fun i : Int => i)) (a : Int)) (b : Int)
  have e2 : (!PySem.W.dataLt (.int (b : Int)) (.int (a : Int))) = decide ((a : Int) ≤ (b : Int)) := e
  rw [e2]
  exact decide_eq_true (by omega)
theorem asc_lt {ns : List Nat} (h : ns.Pairwise (· < ·)) : Asc ns := ⟨h.imp fun z => Nat.ne_of_lt z, h.imp fun z => dle_nat (Nat.le_of_lt z)⟩
theorem asc_range (n : Nat) (p : Nat → Bool) : Asc ((List.range n).filter p) := (asc_lt List.pairwise_lt_range).sub List.filter_sublist
theorem asc_nums (S : Nat → Bool) (b : Nat) : Asc (numsN S b) := asc_range b S
theorem asc_rests (S : Nat → Bool) (b m : Nat) : Asc (restsN S b m) := asc_range m _
/-- sorted numbers, told by their members -/
theorem sort_nat {xs ys : List Nat} (nd : xs.Nodup) (hl : xs.length ≤ 1000000) (a : Asc ys) (m : ∀ x, x ∈ ys ↔ x ∈ xs) : dSorted [.list (xs.map natD)] = some (.ol ((ys.map natD).map T.fz)) := by
  have e := dSorted_canon (α := Nat) nd (nat_sortOk hl)
  rw [canon_is a m] at e
  exact e
/-! ### tables as data -/
def tabD (S : Nat → Bool) (b m : Nat) : D := .tuple [.tuple ((numsN S b).map natD), natD b, natD m, .tuple ((restsN S b m).map natD)]
theorem nums_len (S : Nat → Bool) (b : Nat) : (numsN S b).length ≤ b := by
  have := List.length_filter_le S (List.range b)
  unfold numsN
  simpa using this
theorem rests_len (S : Nat → Bool) (b m : Nat) : (restsN S b m).length ≤ m := by
  have := List.length_filter_le (fun r => S (r + m * b)) (List.range m)
  unfold restsN
  simpa using this
/-! ### dicts of numbers -/
def dicN (ns : List Nat) : D := .dict (ns.map fun n => (natD n, .bool true))
theorem allK_nat (ns : List Nat) : allK (ns.map fun n => (natD n, PyData.bool true)) = true := by
  unfold allK
  rw [List.all_eq_true]
  rintro p m
  obtain ⟨n, _, rfl⟩ := List.mem_map.mp m
  rfl
theorem atKD_nat (i : Int) (ns : List Nat) : (atKD (Sum.inl i) (ns.map fun n => (natD n, PyData.bool true))).isSome = decide (i ∈ ns.map fun (k : Nat) => (k : Int)) := by
  induction ns with
  | nil => rfl
  | cons n r ih =>
    rw [List.map_cons, atKD, List.map_cons]
    have e : natD n = keyD (Sum.inl (n : Int)) := rfl
    rw [e, kIs_key]
    by_cases z : (n : Int) = i
    · subst z
      simp
    · have z2 : ¬ (Sum.inl (n : Int) : Key) = Sum.inl i := fun h => z (by cases h; rfl)
      rw [if_neg (by simpa using z2), ih]
      apply decide_eq_decide.mpr
      rw [List.mem_cons]
      exact ⟨.inr, fun h => h.resolve_left fun y => z y.symm⟩
theorem in_dicN (i : Int) (ns : List Nat) : dInE false (.int i) (dicN ns) = some (.bool (decide (i ∈ ns.map fun (k : Nat) => (k : Int)))) := by
  unfold dInE dicN
  show (some (Sum.inl i : Key)).bind _ = _
  rw [Option.bind_some, if_pos (allK_nat ns), ← atKD_nat i ns]
  rfl
def prN (n : Nat) : D := .tuple [natD n, .bool true]
theorem dictN {ns : List Nat} (nd : ns.Nodup) : tDictP [.ol ((ns.map prN).map T.fz)] = some (.od (ns.map fun n => (natD n, T.fz (.bool true)))) := by
  have e : ∀ kvs : List Nat, pairsT ((kvs.map prN).map T.fz) = some (kvs.map fun (p : Nat) => (Sum.inl (p : Int), T.fz (.bool true))) := fun kvs => by
    induction kvs with
    | nil => rfl
    | cons p r ih =>
      rw [List.map_cons, List.map_cons, pairsT, ih]
      rfl
  unfold tDictP
  show ((some ((ns.map prN).map T.fz)).bind fun ts => (pairsT ts).bind fun ps => if (ps.map (·.1)).Nodup then some (T.od (ps.map fun p => (keyD p.1, p.2))) else none) = _
  rw [Option.bind_some, e, Option.bind_some, if_pos ?_]
  · rw [List.map_map]
    rfl
  · rw [List.map_map]
    have z : (ns.map fun (n : Nat) => (Sum.inl (n : Int) : Key)).Nodup := nd.map _ fun a b h e => h (by
      have e2 : (a : Int) = (b : Int) := Sum.inl.inj e
      omega)
    exact z
theorem er_dicN (ns : List Nat) : (T.od (ns.map fun n => (natD n, T.fz (.bool true)))).er = dicN ns := by
  rw [T.er]
  unfold dicN
  congr 1
  induction ns with
  | nil => rfl
  | cons n r ih => rw [List.map_cons, T.erK, ih, List.map_cons, T.er]
end DL
namespace DL
open PySem L2 PyProof.Rows
/-! ### has, common_divisor -/
theorem dMod_nat {n m : Nat} (h : 0 < m) : dMod (.int (n : Int)) (.int (m : Int)) = some (.int ((n % m : Nat) : Int)) := by
  unfold dMod
  dsimp only
  rw [if_pos (by omega), Int.fmod_eq_emod_of_nonneg _ (by omega)]
  congr 2
theorem dMod_int {i : Int} {m : Nat} (h : 0 < m) : dMod (.int i) (.int (m : Int)) = some (.int (i % (m : Int))) := by
  unfold dMod
  dsimp only
  rw [if_pos (by omega), Int.fmod_eq_emod_of_nonneg _ (by omega)]
theorem dDiv_nat {n m : Nat} (h : 0 < m) (hl : m < 2 ^ 62) : dDiv (.int (n : Int)) (.int (m : Int)) = some (.int ((n / m : Nat) : Int)) := by
  unfold dDiv
  dsimp only
  have e : (m : Int).natAbs = m := by omega
  have l : m.log2 < 9000 := Nat.lt_trans ((Nat.log2_lt (by omega)).mpr hl) (by decide)
  rw [if_pos ⟨by omega, by rw [e]; exact l⟩, Int.fdiv_eq_ediv_of_nonneg _ (by omega)]
  congr 2
/-- is this integer a member? -/
def szB (S : Nat → Bool) (i : Int) : Bool := decide (0 ≤ i) && S i.toNat
theorem szB_nat (S : Nat → Bool) (n : Nat) : szB S (n : Int) = S n := by
  unfold szB
  simp
def natsI (ns : List Nat) : List Int := ns.map fun (n : Nat) => (n : Int)
theorem mem_natsI {i : Int} {ns : List Nat} : i ∈ natsI ns ↔ 0 ≤ i ∧ i.toNat ∈ ns := by
  unfold natsI
  rw [List.mem_map]
  constructor
  · rintro ⟨n, m, rfl⟩
    exact ⟨by omega, by simpa using m⟩
  · rintro ⟨h, m⟩
    exact ⟨_, m, by omega⟩
theorem inT_nat (i : Int) (ns : List Nat) : dIn (.int i) (.tuple (ns.map natD)) = some (.bool (decide (i ∈ natsI ns))) := by
  rw [nats_map, int_inT]
  rfl
theorem szB_has {S : Nat → Bool} {b m : Nat} (h : Per S b m) (hm : 0 < m) (i : Int) : (if i < (b : Int) then decide (i ∈ natsI (numsN S b)) else decide (i % (m : Int) ∈ natsI (restsN S b m))) = szB S i := by
  by_cases l : i < (b : Int)
  · rw [if_pos l, Bool.eq_iff_iff, decide_eq_true_eq, mem_natsI, mem_nums]
    unfold szB
    rw [Bool.and_eq_true, decide_eq_true_eq]
    exact ⟨fun z => ⟨z.1, z.2.2⟩, fun z => ⟨z.1, by omega, z.2⟩⟩
  · rw [if_neg l]
    obtain ⟨n, rfl⟩ : ∃ n : Nat, i = (n : Int) := ⟨i.toNat, by omega⟩
    rw [szB_nat, Bool.eq_iff_iff, decide_eq_true_eq, mem_natsI]
    have e : ((n : Int) % (m : Int)).toNat = n % m := by
      rw [← Int.natCast_emod]
      exact Int.toNat_natCast _
    rw [e, mem_rests h hm (by omega)]
    exact ⟨fun z => z.2, fun z => ⟨by rw [← Int.natCast_emod]; omega, z⟩⟩
theorem tab4 {S : Nat → Bool} {b m : Nat} {i j k l : Nat} {e : Env} : gT 4 (gCons' (gN i) (gCons' (gN j) (gCons' (gN k) (gCons' (gN l) gNil')))) (.fz (tabD S b m)) e = some ((((e.set i (some (.fz (.tuple ((numsN S b).map natD))))).set j (some (.fz (natD b)))).set k (some (.fz (natD m)))).set l (some (.fz (.tuple ((restsN S b m).map natD))))) := rfl
theorem has_ok {S : Nat → Bool} {b m : Nat} (h : Per S b m) (hm : 0 < m) (i : Int) : Sok (sem_has [some (.fz (tabD S b m)), some (.fz (.int i))]) fun t => t = .fz (.bool (szB S i)) := by
  have z := szB_has h hm i
  unfold sem_has m_has
  rw [sok_sem]
  simp -implicitDefEqProofs only [↓oks, oks2, T.er, List.replicate, tab4, natD]
  by_cases l : i < (b : Int)
  · rw [if_pos l] at z
    have d1 : dLt (.int i) (.int (b : Int)) = some (.bool true) := by
      show some (PyData.bool (decide (i < (b : Int)))) = _
      rw [decide_eq_true l]
    simp -implicitDefEqProofs only [d1, ↓oks, oks2, T.er, List.replicate, if_true, inT_nat, z]
  · rw [if_neg l] at z
    have d1 : dLt (.int i) (.int (b : Int)) = some (.bool false) := by
      show some (PyData.bool (decide (i < (b : Int)))) = _
      rw [decide_eq_false l]
    simp -implicitDefEqProofs only [d1, ↓oks, oks2, T.er, List.replicate, Bool.false_eq_true, if_false, dMod_int hm, inT_nat, z]
theorem lhas_ok {S : Nat → Bool} {b m : Nat} (h : Per S b m) (hm : 0 < m) (i : Int) : Sok (sem__law_has [some (.fz (tabD S b m)), some (.fz (.int i))]) fun t => t = .fz (.bool (szB S i)) := by
  have z := szB_has h hm i
  unfold sem__law_has m__law_has
  rw [sok_sem]
  simp -implicitDefEqProofs only [↓oks, oks2, T.er, List.replicate, tab4, natD, inT_nat]
  have d0 : dInt [.int i] = some (.int i) := rfl
  by_cases l : i < (b : Int)
  · rw [if_pos l] at z
    have d1 : dGe (.int i) (.int (b : Int)) = some (.bool false) := by
      show some (PyData.bool (decide ((b : Int) ≤ i))) = _
      rw [decide_eq_false (by omega)]
    rw [z]
    cases szB S i
    · simp -implicitDefEqProofs only [d1, ↓oks, oks2, T.er, List.replicate, Bool.false_eq_true, if_false]
    · simp -implicitDefEqProofs only [↓oks, oks2, T.er, List.replicate, if_true]
  · rw [if_neg l] at z
    have d1 : dGe (.int i) (.int (b : Int)) = some (.bool true) := by
      show some (PyData.bool (decide ((b : Int) ≤ i))) = _
      rw [decide_eq_true (by omega)]
    have n1 : decide (i ∈ natsI (numsN S b)) = false := decide_eq_false fun y => by
      obtain ⟨y1, y2⟩ := mem_natsI.mp y
      have := (mem_nums.mp y2).1
      omega
    simp -implicitDefEqProofs only [n1, ↓oks, oks2, T.er, List.replicate, Bool.false_eq_true, if_false, d1, if_true, d0, dMod_int hm, inT_nat, z]
theorem dAbs_nat (n : Nat) : dAbs [.int (n : Int)] = some (.int (n : Int)) := by
  show some (PyData.int (if (n : Int) < 0 then -(n : Int) else (n : Int))) = _
  rw [if_neg (by omega)]
theorem dNe_ints (i j : Int) : dNe (.int i) (.int j) = some (.bool (!decide (i = j))) := by
  unfold dNe
  rw [if_pos ⟨int_shp i, int_shp j⟩]
  congr 3
theorem gcd_ok (a c : Nat) : Sok (sem_common_divisor [some (.fz (.int (a : Int))), some (.fz (.int (c : Int)))]) fun t => t = .fz (.int (Nat.gcd a c : Nat)) := by
  unfold sem_common_divisor m_common_divisor
  rw [sok_sem]
  simp -implicitDefEqProofs only [↓oks, oks2, T.er, List.replicate, dAbs_nat]
  refine ok_while (fun n e => ∃ x y : Nat, n = y ∧ Nat.gcd x y = Nat.gcd a c ∧ e = [some (.fz (.int (x : Int))), some (.fz (.int (y : Int)))]) c _ ⟨a, c, rfl, rfl, rfl⟩ ?_
  rintro y e ⟨x, y', hy, hg, rfl⟩
  subst hy
  simp -implicitDefEqProofs only [↓oks, oks2, T.er, List.replicate, dNe_ints]
  by_cases z : y = 0
  · subst z
    rw [Nat.gcd_zero_right] at hg
    rw [if_neg (by simp), hg]
  · have nz : decide ((y : Int) = 0) = false := decide_eq_false (by omega)
    have py : 0 < y := Nat.pos_of_ne_zero z
    rw [if_pos (by rw [nz]; rfl), dMod_nat py]
    exact ⟨_, Nat.mod_lt _ py, y, x % y, rfl, by rw [← hg, Nat.gcd_comm x y, Nat.gcd_rec y x, Nat.gcd_comm], rfl⟩
end DL
namespace DL
open PySem L2 PyProof.Rows
/-! ### least_table -/
theorem dSub_i (a b : Int) : dSub (.int a) (.int b) = some (.int (a - b)) := rfl
theorem dGt_i (a b : Int) : dGt (.int a) (.int b) = some (.bool (decide (b < a))) := rfl
theorem dLt_i (a b : Int) : dLt (.int a) (.int b) = some (.bool (decide (a < b))) := rfl
theorem dLe_i (a b : Int) : dLe (.int a) (.int b) = some (.bool (decide (a ≤ b))) := rfl
theorem dGe_i (a b : Int) : dGe (.int a) (.int b) = some (.bool (decide (b ≤ a))) := rfl
theorem intsR_nat (b k : Nat) : intsR (b : Int) k = ((List.range k).map fun i => b + i).map natD := by
  unfold intsR natD
  rw [List.map_map]
  apply List.map_congr_left
  intro i _
  simp
theorem intsR0 (n : Nat) : intsR 0 n = (List.range n).map natD := by
  unfold intsR natD
  apply List.map_congr_left
  intro i _
  simp
theorem rng2_ok {b e : Nat} (h : e ≤ 1000000) (hb : b ≤ 1000000) : dRng2 [.int (b : Int), .int (e : Int)] = some (intsR (b : Int) (e - b)) := by
  unfold dRng2
  dsimp only
  have p1 : (1000000 : Int) < 2 ^ 62 := by decide
  have p2 : -(2 ^ 62 : Int) ≤ 0 := by decide
  rw [if_pos ⟨by omega, by omega, by omega, by omega⟩]
  congr 2
  omega
theorem cutD_two {ds : List D} {a b : Nat} (h : a ≤ b) (l : b ≤ ds.length) : cutD ds (some (a : Int)) (some (b : Int)) = (ds.drop a).take (b - a) := by
  unfold cutD
  have e : ∀ (j d : Nat), j ≤ ds.length → HT.sIx ds.length d (some (j : Int)) = j := fun j d hj => by
    unfold HT.sIx
    simp only [Option.getD_some]
    split <;> omega
  rw [e a 0 (by omega), e b _ l]
def boolsD (S : Nat → Bool) (n : Nat) : List D := (List.range n).map fun j => .bool (S j)
theorem boolsD_len (S : Nat → Bool) (n : Nat) : (boolsD S n).length = n := by simp [boolsD]
theorem bools_ix {S : Nat → Bool} {n j : Nat} (h : j < n) : dIx (.list (boolsD S n)) (.int (j : Int)) = some (.bool (S j)) := by
  rw [dIx_list (by omega) (by rw [boolsD_len]; omega)]
  congr 1
  simp [boolsD]
theorem bools_cut (S : Nat → Bool) (c q : Nat) : cutD (boolsD S (c + q)) (some (c : Int)) (some ((c : Int) + (q : Int))) = boolsD (fun k => S (c + k)) q := by
  have e : ((c : Int) + (q : Int)) = ((c + q : Nat) : Int) := by omega
  rw [e, cutD_two (by omega) (by rw [boolsD_len]; exact Nat.le_refl _)]
  apply List.ext_getElem
  · simp [boolsD]
  · intro i h1 h2
    simp [boolsD]
theorem eqB (x y : Bool) : dEqS (.bool x) (.bool y) = some (.bool (x == y)) := by
  cases x <;> cases y <;> (unfold dEqS; rw [if_pos ⟨by decide +kernel, by decide +kernel⟩]; rfl)
theorem all_bools (l : List Bool) : dAll [.list (l.map PyData.bool)] = some (.bool (l.all id)) := by
  show (boolsOf (l.map PyData.bool)).map _ = _
  have e : ∀ l : List Bool, boolsOf (l.map PyData.bool) = some l := fun l => by
    induction l with
    | nil => rfl
    | cons b r ih => rw [List.map_cons, boolsOf, ih]; rfl
  rw [e]
  rfl
theorem erL_ff' {α : Type} (f : α → D) (l : List α) : T.erL (l.map fun a => T.fz (f a)) = l.map f := by
  have e : l.map (fun a => T.fz (f a)) = (l.map f).map T.fz := by rw [List.map_map]; rfl
  rw [e, T.erL_fz]
theorem er_ff' {α : Type} (f : α → D) (l : List α) : (T.ol (l.map fun a => T.fz (f a))).er = .list (l.map f) := by
  have e : l.map (fun a => T.fz (f a)) = (l.map f).map T.fz := by rw [List.map_map]; rfl
  rw [e, er_fz]
theorem intsR_get {b n i : Nat} {d : D} (h : (intsR (b : Int) n)[i]? = some d) : i < n ∧ d = .int ((b + i : Nat) : Int) := by
  rw [intsR_nat, List.getElem?_map, List.getElem?_map] at h
  cases q : (List.range n)[i]? with
  | none => rw [q] at h; cases h
  | some c =>
    rw [q] at h
    cases h
    obtain ⟨h1, h2⟩ := List.getElem?_eq_some_iff.mp q
    have h3 : i = c := by simpa using h2
    rw [h3]
    exact ⟨by simpa [← h3] using h1, rfl⟩
/-- the rests, as they are worked out -/
def turnN (S : Nat → Bool) (b m : Nat) : List Nat := ((List.range m).filter fun k => S (b + k)).map fun k => (b + k) % m
theorem turn_is (S : Nat → Bool) (b m : Nat) : (((List.range m).map fun i => b + i).filter S).map (fun n => n % m) = turnN S b m := by
  unfold turnN
  rw [List.filter_map, List.map_map]
  rfl
theorem turn_nd (S : Nat → Bool) (b m : Nat) : (turnN S b m).Nodup := by
  unfold turnN
  refine List.pairwise_map.mpr (List.Pairwise.imp_of_mem (fun {x y} hx hy ne e => ne ?_) (List.nodup_range.filter _))
  have lx := List.mem_range.mp (List.mem_filter.mp hx).1
  have ly := List.mem_range.mp (List.mem_filter.mp hy).1
  have key : ∀ x y : Nat, x ≤ y → y < m → (b + x) % m = (b + y) % m → x = y := fun x y l ly e => by
    have d1 := Nat.div_add_mod (b + x) m
    have d2 := Nat.div_add_mod (b + y) m
    have d3 : y - x = m * ((b + y) / m - (b + x) / m) := by
      rw [Nat.mul_sub]
      omega
    by_cases z : (b + y) / m - (b + x) / m = 0
    · rw [z, Nat.mul_zero] at d3
      omega
    · have : m * 1 ≤ m * ((b + y) / m - (b + x) / m) := Nat.mul_le_mul_left m (Nat.pos_of_ne_zero z)
      omega
  rcases Nat.le_total x y with l | l
  · exact key x y l ly e
  · exact (key y x l lx e.symm).symm
theorem turn_len (S : Nat → Bool) (b m : Nat) : (turnN S b m).length ≤ m := by
  unfold turnN
  rw [List.length_map]
  have := List.length_filter_le (fun k => S (b + k)) (List.range m)
  simpa using this
theorem turn_sorted {S : Nat → Bool} {b m : Nat} (h : Per S b m) (hm : 0 < m) (hl : m ≤ 1000000) : dSorted [.list ((turnN S b m).map natD)] = some (.ol (((restsN S b m).map natD).map T.fz)) :=
  sort_nat (turn_nd S b m) (Nat.le_trans (turn_len S b m) hl) (asc_rests S b m) fun _ => rests_turn h hm
/-- does the turn come again by l? -/
def againB (S : Nat → Bool) (c q l : Nat) : Bool := (List.range q).all fun k => S (c + k) == S (c + k % l)
theorem againB_iff {S : Nat → Bool} {c q l : Nat} : againB S c q l = true ↔ ∀ j, j < q → S (c + j) = S (c + j % l) := by
  unfold againB
  rw [List.all_eq_true]
  constructor
  · intro h j hj
    exact beq_iff_eq.mp (h j (List.mem_range.mpr hj))
  · intro h j hj
    exact beq_iff_eq.mpr (h j (List.mem_range.mp hj))
theorem least_ok {S : Nat → Bool} {b m c q : Nat} (T0 : Tb S b m) (h : Per S c q) (hq : 0 < q) (hz : c + q ≤ 500000) :
    Sok (sem_least_table [some (.fz (.list (boolsD S (c + q)))), some (.fz (natD c)), some (.fz (natD q))]) fun t => t = .fz (tabD S b m) := by
  have bc : b ≤ c := T0.ge (T0.per.back h hq)
  have mq : m ∣ q := T0.dvd hq h
  have ml : m ≤ q := Nat.le_of_dvd hq mq
  have pc : Per S c m := T0.per.up bc
  unfold sem_least_table m_least_table
  rw [sok_sem]
  have ea : ((c : Int) + (q : Int)) = ((c + q : Nat) : Int) := by omega
  have eq1 : ((q : Int) + 1) = ((q + 1 : Nat) : Int) := by omega
  have r1 : dRng2 [.int (1 : Int), .int ((q + 1 : Nat) : Int)] = some (intsR (1 : Nat) (q + 1 - 1)) := rng2_ok (b := 1) (by omega) (by omega)
  have s1 : dSl (.list (boolsD S (c + q))) (some (c : Int)) (some ((c : Int) + (q : Int))) = some (.ol ((boolsD (fun k => S (c + k)) q).map T.fz)) := by
    show some (T.ol ((cutD _ _ _).map T.fz)) = _
    rw [bools_cut]
  simp -implicitDefEqProofs only [↓oks, oks2, T.er, List.replicate, natD, dAdd_i, s1, eq1, r1]
  have hK : (boolsD (fun k => S (c + k)) q).length = q := boolsD_len _ _
  generalize hT : (boolsD (fun k => S (c + k)) q).map T.fz = tn
  have ern : T.erL tn = boolsD (fun k => S (c + k)) q := by rw [← hT, T.erL_fz]
  generalize hM : PyData.list (boolsD S (c + q)) = mk
  refine ok_forX (fun i e => (∀ l, 0 < l → l ≤ i → l < m) ∧ ∃ x, e = [some (.fz mk), some (.fz (.int (c : Int))), some (.fz (.int (q : Int))), some (.ol tn), x, none, none, none, none])
    (fun e => e = [some (.fz mk), some (.fz (.int (c : Int))), some (.fz (.int (q : Int))), some (.ol tn), some (.fz (.int (m : Int))), none, none, none, none]) ?_ ?_ ?_ ?_
  · exact ⟨fun l h1 h2 => by omega, none, rfl⟩
  · rintro i d e hd ⟨hi, x, rfl⟩
    obtain ⟨iq, rfl⟩ := intsR_get hd
    rw [gN_at, oEl_some]
    have lp : 0 < 1 + i := by omega
    simp -implicitDefEqProofs only [↓oks, oks2, T.er, List.replicate, dMod_nat lp, dEqS_ints]
    by_cases dv : q % (1 + i) = 0
    · have e1 : decide (((q % (1 + i) : Nat) : Int) = 0) = true := decide_eq_true (by omega)
      have e2 : dRng1 [.int (q : Int)] = some (intsR 0 q) := rng_ok (by omega)
      simp -implicitDefEqProofs only [e1, ↓oks, oks2, T.er, List.replicate, if_true, e2, intsR0]
      refine ok_lcf natD (fun _ => true) (fun k => .fz (.bool (S (c + k) == S (c + k % (1 + i))))) (by simpa using (by omega : q ≤ 1000000)) (fun k mk' => ?_) ?_
      · have kq : k < q := List.mem_range.mp mk'
        have kl : k % (1 + i) < q := Nat.lt_of_le_of_lt (Nat.mod_le _ _) kq
        unfold LcT
        simp -implicitDefEqProofs only [↓oks, oks2, T.er, List.replicate, wipeE, gN_at, natD, ern, bools_ix kq, dMod_nat lp, bools_ix kl, eqB, if_true]
      · have ef : (List.range q).filter (fun _ => true) = List.range q := List.filter_eq_self.mpr fun _ _ => rfl
        have eb : (List.range q).map (fun k => PyData.bool (S (c + k) == S (c + k % (1 + i)))) = ((List.range q).map fun k => S (c + k) == S (c + k % (1 + i))).map PyData.bool := by
          rw [List.map_map]
          rfl
        have ec : ((List.range q).map fun k => S (c + k) == S (c + k % (1 + i))).all id = againB S c q (1 + i) := by
          unfold againB
          rw [List.all_map]
          rfl
        rw [ef, er_ff' (fun k => PyData.bool (S (c + k) == S (c + k % (1 + i)))), eb, all_bools, ec, oEl_some, bol_b]
        have dq : (1 + i) ∣ q := Nat.dvd_of_mod_eq_zero dv
        cases ag : againB S c q (1 + i) with
        | true =>
          have p1 : Per S c (1 + i) := (per_turn h hq lp dq).mp (againB_iff.mp ag)
          have m1 := T0.mn _ _ lp p1
          have e9 : 1 + i = m := by
            by_cases z : m ≤ i
            · have := hi m T0.pos z
              omega
            · omega
          simp -implicitDefEqProofs only [if_true, ↓oks, oks2, T.er, List.replicate, e9]
        | false =>
          have ne : 1 + i ≠ m := fun z => by
            rw [z] at ag dq
            rw [againB_iff.mpr ((per_turn h hq T0.pos dq).mpr pc)] at ag
            cases ag
          simp -implicitDefEqProofs only [Bool.false_eq_true, if_false, ↓oks, oks2, T.er, List.replicate]
          exact ⟨fun l l1 l2 => by
            by_cases z : l ≤ i
            · exact hi l l1 z
            · by_cases y : m ≤ i
              · have := hi m T0.pos y
                omega
              · omega, _, rfl⟩
    · have e1 : decide (((q % (1 + i) : Nat) : Int) = 0) = false := decide_eq_false (by omega)
      simp -implicitDefEqProofs only [e1, ↓oks, oks2, T.er, List.replicate, Bool.false_eq_true, if_false]
      have ne : 1 + i ≠ m := fun z => by
        rw [z] at dv
        exact dv (Nat.mod_eq_zero_of_dvd mq)
      exact ⟨fun l l1 l2 => by
        by_cases z : l ≤ i
        · exact hi l l1 z
        · by_cases y : m ≤ i
          · have := hi m T0.pos y
            omega
          · omega, _, rfl⟩
  · rintro e ⟨hi, _⟩
    have el : (intsR ((1 : Nat) : Int) (q + 1 - 1)).length = q := by rw [intsR_len]; omega
    have := hi m T0.pos (by rw [el]; exact ml)
    omega
  · rintro e rfl
    simp -implicitDefEqProofs only [↓oks, oks2, T.er, List.replicate]
    have bx0 : ∀ j : Nat, j < c + q → dIx mk (.int (j : Int)) = some (.bool (S j)) := fun j hj => by rw [← hM, bools_ix hj]
    refine Ok.mono (Q := fun fl e => fl = .nx ∧ e = [some (.fz mk), some (.fz (.int (b : Int))), some (.fz (.int (q : Int))), some (.ol tn), some (.fz (.int (m : Int))), none, none, none, none]) ?_ ?_
    · refine ok_while (fun n e => ∃ x : Nat, b ≤ x ∧ x ≤ c ∧ n = x - b ∧ e = [some (.fz mk), some (.fz (.int (x : Int))), some (.fz (.int (q : Int))), some (.ol tn), some (.fz (.int (m : Int))), none, none, none, none]) (c - b) _ ⟨c, bc, Nat.le_refl _, rfl, rfl⟩ ?_
      rintro n e ⟨x, bx, xc, hn, rfl⟩
      simp -implicitDefEqProofs only [↓oks, oks2, T.er, List.replicate, dGt_i, bol_b]
      by_cases x0 : x = 0
      · have g0 : decide ((0 : Int) < (x : Int)) = false := decide_eq_false (by omega)
        have e0 : b = x := by omega
        simp only [g0, Bool.false_eq_true, if_false, e0, true_and]
      · have g0 : decide ((0 : Int) < (x : Int)) = true := decide_eq_true (by omega)
        have e1 : ((x : Int) - 1) = ((x - 1 : Nat) : Int) := by omega
        have e2 : (((x - 1 : Nat) : Int) + (m : Int)) = ((x - 1 + m : Nat) : Int) := by omega
        have i1 := bx0 (x - 1) (by omega)
        have i2 := bx0 (x - 1 + m) (by omega)
        simp -implicitDefEqProofs only [g0, if_true, ↓oks, oks2, T.er, List.replicate, dSub_i, e1, dAdd_i, e2, i1, i2, eqB, bol_b]
        by_cases xb : x = b
        · have ns : (S (b - 1) == S (b - 1 + m)) = false := by
            rcases T0.lb with z | z
            · omega
            · exact beq_eq_false_iff_ne.mpr z
          simp only [xb, ns, Bool.false_eq_true, if_false, true_and]
        · have ys : (S (x - 1) == S (x - 1 + m)) = true := beq_iff_eq.mpr (T0.per (x - 1) (by omega)).symm
          have d1 : dISub (.int (x : Int)) (.int 1) = some (.int ((x - 1 : Nat) : Int)) := by rw [← e1]; rfl
          simp only [ys, if_true, d1, oEl_some]
          exact ⟨x - b - 1, by omega, x - 1, by omega, by omega, by omega, rfl⟩
    · rintro fl e ⟨rfl, rfl⟩
      have e2 : dRng1 [.int (b : Int)] = some (intsR 0 b) := rng_ok (by omega)
      have ea2 : ((b : Int) + (m : Int)) = ((b + m : Nat) : Int) := by omega
      have r2 : dRng2 [.int (b : Int), .int ((b + m : Nat) : Int)] = some (intsR (b : Int) (b + m - b)) := rng2_ok (by omega) (by omega)
      simp -implicitDefEqProofs only [↓oks, oks2, T.er, List.replicate, e2, intsR0]
      refine ok_lcf natD S (fun k => .fz (natD k)) (by simpa using (by omega : b ≤ 1000000)) (fun k mk' => ?_) ?_
      · have kq : k < b := List.mem_range.mp mk'
        unfold LcT
        simp -implicitDefEqProofs only [↓oks, oks2, T.er, List.replicate, wipeE, gN_at, natD, bx0 k (by omega), bol_b]
        cases S k <;> simp
      · have en : (T.ol (((List.range b).filter S).map fun k => T.fz (natD k))).er = .list ((numsN S b).map natD) := er_ff' natD _
        have et : dTuple [.list ((numsN S b).map natD)] = some (.tuple ((numsN S b).map natD)) := rfl
        rw [en, et]
        simp -implicitDefEqProofs only [↓oks, oks2, T.er, List.replicate, dAdd_i, ea2, r2, intsR_nat, show b + m - b = m by omega]
        refine ok_lcf natD S (fun k => .fz (natD (k % m))) (by simpa using (by omega : m ≤ 1000000)) (fun k mk' => ?_) ?_
        · obtain ⟨j, mj, rfl⟩ := List.mem_map.mp mk'
          have kq : j < m := List.mem_range.mp mj
          unfold LcT
          simp -implicitDefEqProofs only [↓oks, oks2, T.er, List.replicate, wipeE, gN_at, natD, bx0 (b + j) (by omega), bol_b, dMod_nat T0.pos]
          cases S (b + j) <;> simp
        · have en2 : T.erL ((((List.range m).map fun i => b + i).filter S).map fun k => T.fz (natD (k % m))) = (turnN S b m).map natD := by
            rw [← turn_is, List.map_map]
            exact erL_ff' (fun k => natD (k % m)) _
          simp -implicitDefEqProofs only [↓oks, oks2, T.er, List.replicate, en2, turn_sorted T0.per T0.pos (by omega), T.erL_fz]
          have et2 : dTuple [.list ((restsN S b m).map natD)] = some (.tuple ((restsN S b m).map natD)) := rfl
          have e4 : dTup [.tuple ((numsN S b).map natD), .int (b : Int), .int (m : Int), .tuple ((restsN S b m).map natD)] = some (tabD S b m) := dTup_le (by simp)
          rw [et2, oEl_some, e4, oEl_some]
end DL
namespace DL
open PySem L2 PyProof.Rows
/-! ### _law_table -/
theorem inD {S : Nat → Bool} {most j : Nat} (h : j ≤ most) : dInE false (.int (j : Int)) (dicN (numsN S (most + 1))) = some (.bool (S j)) := by
  rw [in_dicN]
  congr 2
  rw [Bool.eq_iff_iff, decide_eq_true_eq]
  show (j : Int) ∈ ((numsN S (most + 1)).map fun (k : Nat) => (k : Int)) ↔ _
  rw [mem_cast, mem_nums]
  exact ⟨fun z => z.2, fun z => ⟨by omega, z⟩⟩
theorem neB (x y : Bool) : dNe (.bool x) (.bool y) = some (.bool (x != y)) := by
  cases x <;> cases y <;> (unfold dNe; rw [if_pos ⟨by decide +kernel, by decide +kernel⟩]; rfl)
theorem ones_eq {α : Type} (l : List α) : T.erL (l.map fun _ => T.fz (PyData.int 1)) = (l.map fun _ => (1 : Int)).map PyData.int := by
  rw [erL_ff' (fun _ => PyData.int 1) l, List.map_map]
  rfl
theorem ones_nil {α : Type} (l : List α) : dEqS (.list ((l.map fun _ => (1 : Int)).map PyData.int)) (.list []) = some (.bool l.isEmpty) := by
  rw [eqS_nil (ints_shpL _)]
  cases l <;> rfl
def rngN (b e : Nat) : List Nat := (List.range (e - b)).map fun i => b + i
theorem mem_rngN {b e n : Nat} : n ∈ rngN b e ↔ b ≤ n ∧ n < e := by
  unfold rngN
  rw [List.mem_map]
  constructor
  · rintro ⟨i, mi, rfl⟩
    have := List.mem_range.mp mi
    omega
  · rintro ⟨h1, h2⟩
    exact ⟨n - b, List.mem_range.mpr (by omega), by omega⟩
theorem rngN_len (b e : Nat) : (rngN b e).length = e - b := by simp [rngN]
/-- where the numbers do not come again by l -/
def oddsN (S : Nat → Bool) (half most l : Nat) : List Nat := (rngN half (most - l + 1)).filter fun n => S n != S (n + l)
theorem oddsN_nil {S : Nat → Bool} {half most l : Nat} : (oddsN S half most l).isEmpty = true ↔ ∀ n, half ≤ n → n < most - l + 1 → S n = S (n + l) := by
  unfold oddsN
  rw [List.isEmpty_iff, List.filter_eq_nil_iff]
  constructor
  · intro h n h1 h2
    have := h n (mem_rngN.mpr ⟨h1, h2⟩)
    simpa using this
  · intro h n mn
    obtain ⟨h1, h2⟩ := mem_rngN.mp mn
    simpa using h n h1 h2
theorem nums_less (S : Nat → Bool) {b n : Nat} (h : b ≤ n) : ((numsN S n).filter fun k => decide (k < b)) = numsN S b := by
  refine (Asc.uniq ((asc_nums S n).sub List.filter_sublist) (asc_nums S b)) fun k => ?_
  rw [List.mem_filter, mem_nums, mem_nums, decide_eq_true_eq]
  constructor
  · exact fun z => ⟨z.2, z.1.2⟩
  · exact fun z => ⟨⟨by omega, z.2⟩, z.1⟩
theorem ltable_ok {S : Nat → Bool} {b m c q half most : Nat} (T0 : Tb S b m) (h : Per S c q) (hq : 0 < q) (hm : half = most / 2) (hc : c ≤ half) (hqh : q ≤ half) (hz : half + 2 * q ≤ most + 1) (hl : most ≤ 100000) :
    Sok (sem__law_table [some (.fz (dicN (numsN S (most + 1)))), some (.fz (natD most))]) fun t => t = .fz (tabD S b m) := by
  have bc : b ≤ c := T0.ge (T0.per.back h hq)
  have mq : m ∣ q := T0.dvd hq h
  have ml : m ≤ q := Nat.le_of_dvd hq mq
  have pos := T0.pos
  unfold sem__law_table m__law_table
  rw [sok_sem]
  have d2 : dDiv (.int (most : Int)) (.int 2) = some (.int (half : Int)) := by
    have := dDiv_nat (n := most) (m := 2) (by omega) (by omega)
    rw [hm]
    exact this
  have dI : ∀ i : Int, dInt [.int i] = some (.int i) := fun i => rfl
  have e1 : dRng1 [.int (half : Int)] = some (intsR 0 half) := rng_ok (by omega)
  have e2 : ∀ a b : D, tTupO [.fz a, .fz b] = some (.ot [.fz a, .fz b]) := fun a b => rfl
  have e3 : ∀ (a b : D) (e : Env), gT 2 (gCons' (gN 2) (gCons' (gN 3) gNil')) (.ot [.fz a, .fz b]) e = some ((e.set 2 (some (.fz a))).set 3 (some (.fz b))) := fun a b e => rfl
  have iD : ∀ j : Nat, j ≤ most → dInE false (.int (j : Int)) (dicN (numsN S (most + 1))) = some (.bool (S j)) := fun j hj => inD hj
  have kD : ∃ kvs, dicN (numsN S (most + 1)) = .dict kvs ∧ kvs.map (·.1) = (numsN S (most + 1)).map natD := ⟨_, rfl, by
    rw [List.map_map]
    rfl⟩
  generalize dicN (numsN S (most + 1)) = dn at iD kD ⊢
  simp -implicitDefEqProofs only [↓oks, oks2, T.er, List.replicate, natD, dI, d2, e2, e3, e1]
  refine ok_forX (fun i e => (∀ l, 0 < l → l ≤ i → l < m) ∧ ∃ x, e = [some (.fz dn), some (.fz (.int (most : Int))), some (.fz (.int (half : Int))), some (.fz (.int ((i + 1 : Nat) : Int))), x, none, none, none])
    (fun e => ∃ x, e = [some (.fz dn), some (.fz (.int (most : Int))), some (.fz (.int (half : Int))), some (.fz (.int (m : Int))), x, none, none, none]) ?_ ?_ ?_ ?_
  · exact ⟨fun l h1 h2 => by omega, none, rfl⟩
  · rintro i d e hd ⟨hi, x, rfl⟩
    have iq : i < half := by
      have := (List.getElem?_eq_some_iff.mp hd).1
      rwa [intsR_len] at this
    rw [gN_at, oEl_some]
    have im : i < m := by
      by_cases z : i = 0
      · omega
      · exact hi i (by omega) (Nat.le_refl _)
    have a1 : ((most : Int) - ((i + 1 : Nat) : Int) + 1) = ((most - (i + 1) + 1 : Nat) : Int) := by omega
    have r1 : dRng2 [.int (half : Int), .int ((most - (i + 1) + 1 : Nat) : Int)] = some (intsR (half : Int) (most - (i + 1) + 1 - half)) := rng2_ok (by omega) (by omega)
    have el : ((List.range (most - (i + 1) + 1 - half)).map fun j => half + j) = rngN half (most - (i + 1) + 1) := rfl
    simp -implicitDefEqProofs only [↓oks, oks2, T.er, List.replicate, dSub_i, dAdd_i, a1, r1, intsR_nat, el]
    refine ok_lcf natD (fun n => S n != S (n + (i + 1))) (fun _ => .fz (.int 1)) (by rw [rngN_len]; omega) (fun n mn => ?_) ?_
    · obtain ⟨n1, n2⟩ := mem_rngN.mp mn
      have a2 : ((n : Int) + ((i + 1 : Nat) : Int)) = ((n + (i + 1) : Nat) : Int) := by omega
      unfold LcT
      simp -implicitDefEqProofs only [↓oks, oks2, T.er, List.replicate, wipeE, gN_at, natD, dAdd_i, a2, iD n (by omega), iD (n + (i + 1)) (by omega), neB, bol_b]
      cases S n != S (n + (i + 1)) <;> simp
    · have en : T.erL (((rngN half (most - (i + 1) + 1)).filter fun n => S n != S (n + (i + 1))).map fun _ => T.fz (PyData.int 1)) = ((oddsN S half most (i + 1)).map fun _ => (1 : Int)).map PyData.int := ones_eq _
      have dl0 : dLst [] = some (.ol []) := dLst0
      simp -implicitDefEqProofs only [↓oks, oks2, T.er, List.replicate, en, dl0, T.erL, ones_nil, bol_b]
      have dA : dIAdd (.int ((i + 1 : Nat) : Int)) (.int 1) = some (.int ((i + 1 + 1 : Nat) : Int)) := rfl
      cases eI : (oddsN S half most (i + 1)).isEmpty with
      | true =>
        rw [if_pos rfl]
        have w := oddsN_nil.mp eI
        have p1 : Per S half (i + 1) := per_window (most := most) h hq hc (by omega) fun n n1 n2 => w n n1 (by omega)
        have m1 := T0.mn _ _ (by omega) p1
        have e9 : i + 1 = m := by omega
        exact ⟨some (.fz d), by rw [e9]⟩
      | false =>
        rw [if_neg (by decide), dA, oEl_some]
        have ne : i + 1 ≠ m := fun z => by
          have : (oddsN S half most (i + 1)).isEmpty = true := oddsN_nil.mpr fun n n1 n2 => by
            rw [z]
            exact (T0.per n (by omega)).symm
          rw [this] at eI
          cases eI
        exact ⟨fun l l1 l2 => by omega, some (.fz d), rfl⟩
  · rintro e ⟨hi, _⟩
    rw [intsR_len] at hi
    have := hi m pos (by omega)
    omega
  · rintro e ⟨x, rfl⟩
    have a1 : ((most : Int) - (m : Int) + 1) = ((most - m + 1 : Nat) : Int) := by omega
    have r1 : dRng1 [.int ((most - m + 1 : Nat) : Int)] = some (intsR 0 (most - m + 1)) := rng_ok (by omega)
    simp -implicitDefEqProofs only [↓oks, oks2, T.er, List.replicate, dSub_i, dAdd_i, a1, r1]
    refine Ok.mono (Q := fun fl e => fl = .nx ∧ ∃ y, e = [some (.fz dn), some (.fz (.int (most : Int))), some (.fz (.int (half : Int))), some (.fz (.int (m : Int))), y, some (.fz (.int (b : Int))), none, none]) ?_ ?_
    refine ok_forX (fun i e => ∃ x : Nat, b ≤ x ∧ x + i = most - m + 1 ∧ ∃ y, e = [some (.fz dn), some (.fz (.int (most : Int))), some (.fz (.int (half : Int))), some (.fz (.int (m : Int))), y, some (.fz (.int (x : Int))), none, none])
      (fun e => ∃ y, e = [some (.fz dn), some (.fz (.int (most : Int))), some (.fz (.int (half : Int))), some (.fz (.int (m : Int))), y, some (.fz (.int (b : Int))), none, none]) ?_ ?_ ?_ ?_
    · exact ⟨most - m + 1, by omega, by omega, x, rfl⟩
    · rintro i d e hd ⟨z, bz, hz2, y, rfl⟩
      have iq : i < most - m + 1 := by
        have := (List.getElem?_eq_some_iff.mp hd).1
        rwa [intsR_len] at this
      rw [gN_at, oEl_some]
      have b1 : ((z : Int) - 1) = ((z - 1 : Nat) : Int) := by omega
      have b2 : (((z - 1 : Nat) : Int) + (m : Int)) = ((z - 1 + m : Nat) : Int) := by omega
      simp -implicitDefEqProofs only [↓oks, oks2, T.er, List.replicate, dSub_i, b1, dAdd_i, b2, iD (z - 1) (by omega), iD (z - 1 + m) (by omega), neB, bol_b]
      by_cases zb : z = b
      · have ns : (S (z - 1) != S (z - 1 + m)) = true := by
          rw [zb]
          rcases T0.lb with q1 | q1
          · omega
          · exact bne_iff_ne.mpr q1
        rw [ns, if_pos rfl]
        exact ⟨some (.fz d), by rw [zb]⟩
      · have ys : (S (z - 1) != S (z - 1 + m)) = false := by
          rw [T0.per (z - 1) (by omega)]
          simp
        have dS : dISub (.int (z : Int)) (.int 1) = some (.int ((z - 1 : Nat) : Int)) := by rw [← b1]; rfl
        rw [ys, if_neg (by decide), dS, oEl_some]
        exact ⟨z - 1, by omega, by omega, some (.fz d), rfl⟩
    · rintro e ⟨z, bz, hz2, y, rfl⟩
      rw [intsR_len] at hz2
      have z0 : z = b := by omega
      rw [z0]
      exact ⟨rfl, y, rfl⟩
    · rintro e ⟨y, rfl⟩
      exact ⟨rfl, y, rfl⟩
    rintro fl e ⟨rfl, y, rfl⟩
    have ea2 : ((b : Int) + (m : Int)) = ((b + m : Nat) : Int) := by omega
    have r2 : dRng2 [.int (b : Int), .int ((b + m : Nat) : Int)] = some (intsR (b : Int) (b + m - b)) := rng2_ok (by omega) (by omega)
    simp -implicitDefEqProofs only [↓oks, oks2, T.er, List.replicate, dAdd_i, ea2, r2, intsR_nat, show b + m - b = m by omega]
    refine ok_lcf natD S (fun k => .fz (natD (k % m))) (by simpa using (by omega : m ≤ 1000000)) (fun k mk' => ?_) ?_
    · obtain ⟨j, mj, rfl⟩ := List.mem_map.mp mk'
      have kq : j < m := List.mem_range.mp mj
      unfold LcT
      simp -implicitDefEqProofs only [↓oks, oks2, T.er, List.replicate, wipeE, gN_at, natD, iD (b + j) (by omega), bol_b, dI, dMod_nat pos]
      cases S (b + j) <;> simp
    · have en2 : T.erL ((((List.range m).map fun i => b + i).filter S).map fun k => T.fz (natD (k % m))) = (turnN S b m).map natD := by
        rw [← turn_is, List.map_map]
        exact erL_ff' (fun k => natD (k % m)) _
      simp -implicitDefEqProofs only [↓oks, oks2, T.er, List.replicate, en2, turn_sorted T0.per pos (by omega), T.erL_fz]
      obtain ⟨kvs, ed, ek⟩ := kD
      rw [ed]
      show Ok (mLc _ _ _ _ (kvs.map (·.1))) _ _
      rw [ek]
      refine ok_lcf natD (fun k => decide (k < b)) (fun k => .fz (natD k)) (Nat.le_trans (nums_len S _) (by omega)) (fun k mk' => ?_) ?_
      · unfold LcT
        have lt : decide ((k : Int) < (b : Int)) = decide (k < b) := decide_eq_decide.mpr (by omega)
        simp -implicitDefEqProofs only [↓oks, oks2, T.er, List.replicate, wipeE, gN_at, natD, dLt_i, lt, bol_b]
        cases decide (k < b) <;> simp
      · rw [nums_less S (by omega : b ≤ most + 1)]
        have en : T.erL ((numsN S b).map fun k => T.fz (natD k)) = (numsN S b).map natD := erL_ff' natD _
        have so : dSorted [.list ((numsN S b).map natD)] = some (.ol (((numsN S b).map natD).map T.fz)) := sort_nat (asc_nums S b).nd (Nat.le_trans (nums_len S _) (by omega)) (asc_nums S b) fun _ => Iff.rfl
        have et : ∀ l : List D, dTuple [.list l] = some (.tuple l) := fun l => rfl
        have e4 : dTup [.tuple ((numsN S b).map natD), .int (b : Int), .int (m : Int), .tuple ((restsN S b m).map natD)] = some (tabD S b m) := dTup_le (by simp)
        simp -implicitDefEqProofs only [↓oks, oks2, T.er, List.replicate, en, so, T.erL_fz, et, e4]
end DL
namespace DL
open PySem L2 PyProof.Rows
/-! ### _law_shown, moved -/
theorem shown_okT {S : Nat → Bool} {b m most : Nat} (h : Per S b m) (hm : 0 < m) (hl : most ≤ 100000) :
    Sok (sem__law_shown [some (.fz (tabD S b m)), some (.fz (natD most))]) fun t => t = .od ((numsN S (most + 1)).map fun n => (natD n, T.fz (.bool true))) := by
  unfold sem__law_shown m__law_shown
  rw [sok_sem]
  have a1 : ((most : Int) + 1) = ((most + 1 : Nat) : Int) := by omega
  have r1 : dRng1 [.int ((most + 1 : Nat) : Int)] = some (intsR 0 (most + 1)) := rng_ok (by omega)
  have e2 : ∀ a b : D, dTup [a, b] = some (.tuple [a, b]) := fun a b => dTup_le (by simp)
  simp -implicitDefEqProofs only [↓oks, oks2, T.er, List.replicate, natD, dAdd_i, a1, r1, intsR0]
  refine ok_lcf natD S (fun k => .fz (prN k)) (by simpa using (by omega : most + 1 ≤ 1000000)) (fun k mk' => ?_) ?_
  · have z := lhas_ok h hm (k : Int)
    unfold LcT
    simp -implicitDefEqProofs only [↓oks, oks2, T.er, List.replicate, wipeE, gN_at, natD, sok_is z, szB_nat, T.er, bol_b, e2]
    cases S k <;> simp [prN, natD]
  · have e : ((List.range (most + 1)).filter S).map (fun k => T.fz (prN k)) = ((numsN S (most + 1)).map prN).map T.fz := by
      rw [List.map_map]
      rfl
    rw [e]
    simp -implicitDefEqProofs only [↓oks, oks2, T.er, List.replicate, dictN (asc_nums S (most + 1)).nd]
    rfl
theorem rests_base {S : Nat → Bool} {b c m : Nat} (h : Per S b m) (hm : 0 < m) (l : b ≤ c) : restsN S c m = restsN S b m := by
  unfold restsN
  apply List.filter_congr
  intro r mr
  have p1 : 1 * b ≤ m * b := Nat.mul_le_mul_right b hm
  have p2 : 1 * c ≤ m * c := Nat.mul_le_mul_right c hm
  exact h.cong (by omega) (by omega) (by rw [Nat.add_mul_mod_self_left, Nat.add_mul_mod_self_left])
/-- the rests moved on -/
def movR (S : Nat → Bool) (b m y : Nat) : List Nat := (restsN S b m).map fun r => (r + y) % m
theorem movR_nd (S : Nat → Bool) (b m y : Nat) : (movR S b m y).Nodup := by
  unfold movR
  refine List.pairwise_map.mpr (List.Pairwise.imp_of_mem (fun {u v} hu hv ne e => ne ?_) (asc_rests S b m).nd)
  have lu := List.mem_range.mp (List.mem_filter.mp hu).1
  have lv := List.mem_range.mp (List.mem_filter.mp hv).1
  have key : ∀ u v : Nat, u ≤ v → v < m → (u + y) % m = (v + y) % m → u = v := fun u v l lv e => by
    have d1 := Nat.div_add_mod (u + y) m
    have d2 := Nat.div_add_mod (v + y) m
    have d3 : v - u = m * ((v + y) / m - (u + y) / m) := by
      rw [Nat.mul_sub]
      omega
    by_cases z : (v + y) / m - (u + y) / m = 0
    · rw [z, Nat.mul_zero] at d3
      omega
    · have : m * 1 ≤ m * ((v + y) / m - (u + y) / m) := Nat.mul_le_mul_left m (Nat.pos_of_ne_zero z)
      omega
  rcases Nat.le_total u v with l | l
  · exact key u v l lv e
  · exact (key v u l lu e.symm).symm
theorem movR_mem {S : Nat → Bool} {b m y r : Nat} (h : Per S b m) (hm : 0 < m) : r ∈ restsN (shiftB S y) (b + y) m ↔ r ∈ movR S b m y := by
  have sh := per_shift (y := y) h
  unfold movR
  rw [List.mem_map]
  constructor
  · intro z
    have lr := List.mem_range.mp (List.mem_filter.mp z).1
    have s := (List.mem_filter.mp z).2
    have p2 : 1 * (b + y) ≤ m * (b + y) := Nat.mul_le_mul_right _ hm
    unfold shiftB at s
    rw [Bool.and_eq_true] at s
    refine ⟨(r + m * (b + y) - y) % m, (mem_rests h hm (by omega)).mpr s.2, ?_⟩
    rw [Nat.add_mod, Nat.mod_mod, ← Nat.add_mod, show r + m * (b + y) - y + y = r + m * (b + y) by omega, Nat.add_mul_mod_self_left, Nat.mod_eq_of_lt lr]
  · rintro ⟨u, mu, rfl⟩
    have s := (List.mem_filter.mp mu).2
    have p1 : 1 * b ≤ m * b := Nat.mul_le_mul_right b hm
    have e : (u + y) % m = (u + m * b + y) % m := by
      rw [show u + m * b + y = u + y + m * b by omega, Nat.add_mul_mod_self_left]
    rw [e]
    refine (mem_rests sh hm (by omega)).mpr ?_
    unfold shiftB
    rw [show u + m * b + y - y = u + m * b by omega, s]
    simp
theorem movR_sorted {S : Nat → Bool} {b b' m y : Nat} (h : Per S b m) (hm : 0 < m) (h' : Per (shiftB S y) b' m) (l : b' ≤ b + y) (hl : m ≤ 1000000) : dSorted [.list ((movR S b m y).map natD)] = some (.ol (((restsN (shiftB S y) b' m).map natD).map T.fz)) :=
  sort_nat (movR_nd S b m y) (by unfold movR; rw [List.length_map]; exact Nat.le_trans (rests_len S b m) hl) (asc_rests _ b' m) fun r => by
    rw [← rests_base h' hm l]
    exact movR_mem h hm
/-- the numbers moved on -/
theorem movN_mem {S : Nat → Bool} {b y n : Nat} : n ∈ (numsN S b).map (fun k => k + y) ↔ n < b + y ∧ shiftB S y n = true := by
  rw [List.mem_map]
  unfold shiftB
  rw [Bool.and_eq_true, decide_eq_true_eq]
  constructor
  · rintro ⟨k, mk, rfl⟩
    obtain ⟨k1, k2⟩ := mem_nums.mp mk
    exact ⟨by omega, by omega, by rw [show k + y - y = k by omega]; exact k2⟩
  · rintro ⟨h1, h2, h3⟩
    exact ⟨n - y, mem_nums.mpr ⟨by omega, h3⟩, by omega⟩
theorem movN_less {S : Nat → Bool} {b b' y : Nat} (l : b' ≤ b + y) : (((numsN S b).map fun k => k + y).filter fun k => decide (k < b')) = numsN (shiftB S y) b' := by
  have a1 : Asc ((numsN S b).map fun k => k + y) := asc_lt (List.pairwise_map.mpr ((List.pairwise_lt_range.filter S).imp fun h => by omega))
  refine (Asc.uniq (a1.sub List.filter_sublist) (asc_nums _ b')) fun k => ?_
  rw [List.mem_filter, movN_mem, mem_nums, decide_eq_true_eq]
  exact ⟨fun z => ⟨z.2, z.1.2⟩, fun z => ⟨⟨by omega, z.2⟩, z.1⟩⟩
theorem nats_shpT (ns : List Nat) : shp (.tuple (ns.map natD)) = true := by
  rw [nats_map]
  exact ints_shpT _
theorem if_and2 {p q : Bool} {A B : Prop} (h : ¬ (p = true ∧ q = true)) : (if p = true then (if q = true then A else B) else (if false = true then A else B)) = B := by
  cases p <;> cases q <;> simp_all
theorem moved_ok {S : Nat → Bool} {b b' m y : Nat} (T0 : Tb S b m) (T1 : Tb (shiftB S y) b' m) (hl : m ≤ 100000) (hb : b + y ≤ 100000) :
    Sok (sem_moved [some (.fz (tabD S b m)), some (.fz (natD y))]) fun t => t = .fz (tabD (shiftB S y) b' m) := by
  have pos := T0.pos
  have l : b' ≤ b + y := T1.ge (per_shift T0.per)
  unfold sem_moved m_moved
  rw [sok_sem]
  have dt0 : dTup [] = some (.tuple []) := dTup_le (by simp)
  simp -implicitDefEqProofs only [↓oks, oks2, T.er, List.replicate, tab4, natD, dt0, eq_tupE (nats_shpT _), bol_b]
  by_cases em : ((numsN S b).map natD).isEmpty = true ∧ ((restsN S b m).map natD).isEmpty = true
  · have no : ∀ n, S n = false := fun n => by
      obtain ⟨h1, h2⟩ := em
      rw [List.isEmpty_iff, List.map_eq_nil_iff] at h1 h2
      cases q : S n with
      | false => rfl
      | true =>
        exfalso
        by_cases z : n < b
        · have := mem_nums.mpr ⟨z, q⟩
          rw [h1] at this
          cases this
        · have := (mem_rests T0.per pos (by omega)).mpr q
          rw [h2] at this
          cases this
    have es : shiftB S y = S := by
      funext n
      unfold shiftB
      rw [no, no, Bool.and_false]
    rw [es] at T1
    simp only [em.1, em.2, if_true]
    rw [es, (T0.uniq T1).1]
  · rw [if_and2 em]
    have e2 : ∀ a b : D, tTupO [.fz a, .fz b] = some (.ot [.fz a, .fz b]) := fun a b => rfl
    have e3 : ∀ (a b : D) (e : Env), gT 2 (gCons' (gN 2) (gCons' (gN 3) gNil')) (.ot [.fz a, .fz b]) e = some ((e.set 2 (some (.fz a))).set 3 (some (.fz b))) := fun a b e => rfl
    have et : ∀ l : List D, dTuple [.list l] = some (.tuple l) := fun l => rfl
    have ab : ((b : Int) + (y : Int)) = ((b + y : Nat) : Int) := by omega
    simp -implicitDefEqProofs only [↓oks, oks2, T.er, List.replicate, seqD]
    refine ok_lcf natD (fun _ => true) (fun k => .fz (natD (k + y))) (Nat.le_trans (nums_len S b) (by omega)) (fun k mk' => ?_) ?_
    · have a2 : ((k : Int) + (y : Int)) = ((k + y : Nat) : Int) := by omega
      unfold LcT
      simp -implicitDefEqProofs only [↓oks, oks2, T.er, List.replicate, wipeE, gN_at, natD, dAdd_i, a2, if_true]
    · have ef : ∀ l : List Nat, l.filter (fun _ => true) = l := fun l => List.filter_eq_self.mpr fun _ _ => rfl
      have en : T.erL ((numsN S b).map fun k => T.fz (natD (k + y))) = ((numsN S b).map fun k => k + y).map natD := by
        rw [erL_ff' (fun k => natD (k + y)), List.map_map]
        rfl
      simp -implicitDefEqProofs only [ef, ↓oks, oks2, T.er, List.replicate, en, et, dAdd_i, ab, e2, e3, seqD]
      refine ok_lcf natD (fun _ => true) (fun k => .fz (natD ((k + y) % m))) (Nat.le_trans (rests_len S b m) (by omega)) (fun k mk' => ?_) ?_
      · have a2 : ((k : Int) + (y : Int)) = ((k + y : Nat) : Int) := by omega
        unfold LcT
        simp -implicitDefEqProofs only [↓oks, oks2, T.er, List.replicate, wipeE, gN_at, natD, dAdd_i, a2, dMod_nat pos, if_true]
      · have en2 : T.erL ((restsN S b m).map fun k => T.fz (natD ((k + y) % m))) = (movR S b m y).map natD := by
          unfold movR
          rw [erL_ff' (fun k => natD ((k + y) % m)), List.map_map]
          rfl
        simp -implicitDefEqProofs only [ef, ↓oks, oks2, T.er, List.replicate, en2, movR_sorted T0.per pos T1.per l (by omega), T.erL_fz, et]
        refine Ok.mono (Q := fun fl e => fl = .nx ∧ e = [some (.fz (tabD S b m)), some (.fz (.int (y : Int))), some (.fz (.tuple (((numsN S b).map fun k => k + y).map natD))), some (.fz (.int (b' : Int))), some (.fz (.int (m : Int))), some (.fz (.tuple ((restsN (shiftB S y) b' m).map natD))), none, none]) ?_ ?_
        · refine ok_while (fun n e => ∃ x : Nat, b' ≤ x ∧ x ≤ b + y ∧ n = x - b' ∧ e = [some (.fz (tabD S b m)), some (.fz (.int (y : Int))), some (.fz (.tuple (((numsN S b).map fun k => k + y).map natD))), some (.fz (.int (x : Int))), some (.fz (.int (m : Int))), some (.fz (.tuple ((restsN (shiftB S y) b' m).map natD))), none, none]) (b + y - b') _ ⟨b + y, l, Nat.le_refl _, rfl, rfl⟩ ?_
          rintro n e ⟨x, bx, xc, hn, rfl⟩
          simp -implicitDefEqProofs only [↓oks, oks2, T.er, List.replicate, dGt_i, bol_b]
          by_cases x0 : x = 0
          · have g0 : decide ((0 : Int) < (x : Int)) = false := decide_eq_false (by omega)
            have e0 : b' = x := by omega
            simp only [g0, Bool.false_eq_true, if_false, e0, true_and]
          · have g0 : decide ((0 : Int) < (x : Int)) = true := decide_eq_true (by omega)
            have e1 : ((x : Int) - 1) = ((x - 1 : Nat) : Int) := by omega
            have n1 : decide (x - 1 ∈ (numsN S b).map fun k => k + y) = shiftB S y (x - 1) := by
              rw [Bool.eq_iff_iff, decide_eq_true_eq, movN_mem]
              exact ⟨fun z => z.2, fun z => ⟨by omega, z⟩⟩
            have n2 : decide ((x - 1) % m ∈ restsN (shiftB S y) b' m) = shiftB S y (x - 1 + m) := by
              rw [Bool.eq_iff_iff, decide_eq_true_eq, ← Nat.add_mod_right, mem_rests T1.per pos (by omega)]
            simp -implicitDefEqProofs only [g0, if_true, ↓oks, oks2, T.er, List.replicate, dSub_i, e1, nat_inT, dMod_nat pos, n1, n2, eqB, bol_b]
            by_cases xb : x = b'
            · have ns : (shiftB S y (b' - 1) == shiftB S y (b' - 1 + m)) = false := by
                rcases T1.lb with z | z
                · omega
                · exact beq_eq_false_iff_ne.mpr z
              simp only [xb, ns, Bool.false_eq_true, if_false, true_and]
            · have ys : (shiftB S y (x - 1) == shiftB S y (x - 1 + m)) = true := beq_iff_eq.mpr (T1.per (x - 1) (by omega)).symm
              have d1 : dISub (.int (x : Int)) (.int 1) = some (.int ((x - 1 : Nat) : Int)) := by rw [← e1]; rfl
              simp only [ys, if_true, d1, oEl_some]
              exact ⟨x - b' - 1, by omega, x - 1, by omega, by omega, by omega, rfl⟩
        · rintro fl e ⟨rfl, rfl⟩
          simp -implicitDefEqProofs only [↓oks, oks2, T.er, List.replicate, seqD]
          refine ok_lcf natD (fun k => decide (k < b')) (fun k => .fz (natD k)) (by rw [List.length_map]; exact Nat.le_trans (nums_len S b) (by omega)) (fun k mk' => ?_) ?_
          · unfold LcT
            have lt : decide ((k : Int) < (b' : Int)) = decide (k < b') := decide_eq_decide.mpr (by omega)
            simp -implicitDefEqProofs only [↓oks, oks2, T.er, List.replicate, wipeE, gN_at, natD, dLt_i, lt, bol_b]
            cases decide (k < b') <;> simp
          · rw [movN_less l]
            have en4 : T.erL ((numsN (shiftB S y) b').map fun k => T.fz (natD k)) = (numsN (shiftB S y) b').map natD := erL_ff' natD _
            have e4 : dTup [.tuple ((numsN (shiftB S y) b').map natD), .int (b' : Int), .int (m : Int), .tuple ((restsN (shiftB S y) b' m).map natD)] = some (tabD (shiftB S y) b' m) := dTup_le (by simp)
            simp -implicitDefEqProofs only [↓oks, oks2, T.er, List.replicate, en4, et, e4]
end DL
namespace DL
open PySem L2 PyProof.Rows
/-! ### in_both, next_in -/
theorem tab_ix (S : Nat → Bool) (b m : Nat) : dIx (tabD S b m) (.int 0) = some (.tuple ((numsN S b).map natD)) ∧ dIx (tabD S b m) (.int 1) = some (.int (b : Int)) ∧ dIx (tabD S b m) (.int 2) = some (.int (m : Int)) ∧ dIx (tabD S b m) (.int 3) = some (.tuple ((restsN S b m).map natD)) := ix4
theorem dMax2_nat (a b : Nat) : dMax2 [.int (a : Int), .int (b : Int)] = some (.int ((max a b : Nat) : Int)) := by
  show some (PyData.int (if (b : Int) > (a : Int) then (b : Int) else (a : Int))) = _
  by_cases h : (b : Int) > (a : Int)
  · rw [if_pos h]
    congr 2
    omega
  · rw [if_neg h]
    congr 2
    omega
theorem dMul_nat {a b : Nat} (h : a < 2 ^ 62) : dMul (.int (a : Int)) (.int (b : Int)) = some (.int ((a * b : Nat) : Int)) := by
  unfold dMul
  dsimp only
  rw [if_pos (.inl (.inl (by
    have : (a : Int).natAbs = a := by omega
    rw [this]
    exact Nat.lt_trans h (by decide))))]
  congr 2
def lcmN (m p : Nat) : Nat := m / Nat.gcd m p * p
theorem lcmN_l {m p : Nat} : m ∣ lcmN m p := by
  unfold lcmN
  have e : m / Nat.gcd m p * p = m * (p / Nat.gcd m p) := by
    obtain ⟨x, hx⟩ := Nat.gcd_dvd_left m p
    obtain ⟨y, hy⟩ := Nat.gcd_dvd_right m p
    by_cases z : Nat.gcd m p = 0
    · rw [z] at hx hy
      simp only [Nat.zero_mul] at hx hy
      rw [z, hx]
      simp
    · have pz : 0 < Nat.gcd m p := Nat.pos_of_ne_zero z
      have e1 : m / Nat.gcd m p = x := Nat.div_eq_of_eq_mul_right pz hx
      have e2 : p / Nat.gcd m p = y := Nat.div_eq_of_eq_mul_right pz hy
      rw [e1, e2]
      conv => lhs; rw [hy]
      conv => rhs; rw [hx]
      rw [← Nat.mul_assoc, Nat.mul_comm x]
  rw [e]
  exact Nat.dvd_mul_right _ _
theorem lcmN_r {m p : Nat} : p ∣ lcmN m p := Nat.dvd_mul_left _ _
theorem lcmN_le (m p : Nat) : lcmN m p ≤ m * p := Nat.mul_le_mul_right p (Nat.div_le_self _ _)
theorem lcmN_pos {m p : Nat} (hm : 0 < m) (hp : 0 < p) : 0 < lcmN m p :=
  Nat.mul_pos (Nat.div_pos (Nat.le_of_dvd hm (Nat.gcd_dvd_left m p)) (Nat.gcd_pos_of_pos_left p hm)) hp
theorem both_ok {S R : Nat → Bool} {b m c p e l : Nat} (T1 : Tb S b m) (T2 : Tb R c p) (T0 : Tb (fun n => S n && R n) e l) (hb : b ≤ 1000) (hc : c ≤ 1000) (hm : m ≤ 500) (hp : p ≤ 500) :
    Sok (sem_in_both [some (.fz (tabD S b m)), some (.fz (tabD R c p))]) fun t => t = .fz (tabD (fun n => S n && R n) e l) := by
  have m0 := T1.pos
  have p0 := T2.pos
  have g0 : 0 < Nat.gcd m p := Nat.gcd_pos_of_pos_left p m0
  have q0 : 0 < lcmN m p := lcmN_pos m0 p0
  have ql : lcmN m p ≤ 250000 := Nat.le_trans (lcmN_le m p) (Nat.mul_le_mul hm hp)
  have gl : Nat.gcd m p ≤ m := Nat.le_of_dvd m0 (Nat.gcd_dvd_left m p)
  have per := per_and T1.per T2.per (lcmN_l (m := m) (p := p)) (lcmN_r (m := m) (p := p))
  unfold sem_in_both m_in_both
  rw [sok_sem]
  have dl : m / Nat.gcd m p ≤ m := Nat.div_le_self _ _
  have em : dMul (.int ((m / Nat.gcd m p : Nat) : Int)) (.int (p : Int)) = some (.int ((lcmN m p : Nat) : Int)) := dMul_nat (by omega)
  have ea : (((max b c : Nat) : Int) + ((lcmN m p : Nat) : Int)) = ((max b c + lcmN m p : Nat) : Int) := by omega
  have r1 : dRng1 [.int ((max b c + lcmN m p : Nat) : Int)] = some (intsR 0 (max b c + lcmN m p)) := rng_ok (by omega)
  have t1 := tab_ix S b m
  have t2 := tab_ix R c p
  simp -implicitDefEqProofs only [↓oks, oks2, T.er, List.replicate, t1.2.1, t2.2.1, t1.2.2.1, t2.2.2.1, dMax2_nat, sok_is (gcd_ok m p), dDiv_nat g0 (by omega), em, dAdd_i, ea, r1, intsR0]
  refine ok_lcf natD (fun _ => true) (fun n => .fz (.bool (S n && R n))) (by simpa using (by omega : max b c + lcmN m p ≤ 1000000)) (fun n mn => ?_) ?_
  · have z1 := has_ok T1.per m0 (n : Int)
    have z2 := has_ok T2.per p0 (n : Int)
    unfold LcT
    simp -implicitDefEqProofs only [↓oks, oks2, T.er, List.replicate, wipeE, gN_at, natD, sok_is z1, sok_is z2, szB_nat]
    cases S n
    · simp
    · simp -implicitDefEqProofs only [↓oks, oks2, T.er, List.replicate, if_true, Bool.true_and, sok_is z2, szB_nat]
  · have ef : ∀ l : List Nat, l.filter (fun _ => true) = l := fun l => List.filter_eq_self.mpr fun _ _ => rfl
    have en : T.erL ((List.range (max b c + lcmN m p)).map fun n => T.fz (.bool (S n && R n))) = boolsD (fun n => S n && R n) (max b c + lcmN m p) := erL_ff' (fun n => PyData.bool (S n && R n)) _
    have z := least_ok T0 per q0 (by omega)
    unfold natD at z
    simp -implicitDefEqProofs only [ef, ↓oks, oks2, T.er, List.replicate, en, sok_is z]
/-- the first member from x on, below hi -/
def NextIs (S : Nat → Bool) (x hi : Nat) (d : D) : Prop :=
  (∃ j, x ≤ j ∧ j < hi ∧ S j = true ∧ (∀ k, x ≤ k → k < j → S k = false) ∧ d = natD j) ∨ ((∀ k, x ≤ k → k < hi → S k = false) ∧ d = .none)
theorem NextIs.uniq {S : Nat → Bool} {x hi hi' : Nat} {d d' : D} (h : NextIs S x hi d) (h' : NextIs S x hi' d') (n : ∀ j, x ≤ j → S j = true → (∃ k, x ≤ k ∧ k < hi ∧ S k = true) ∧ ∃ k, x ≤ k ∧ k < hi' ∧ S k = true) : d = d' := by
  rcases h with ⟨j, a1, a2, a3, a4, rfl⟩ | ⟨a1, rfl⟩
  · rcases h' with ⟨i, b1, b2, b3, b4, rfl⟩ | ⟨b1, rfl⟩
    · have : j = i := by
        rcases Nat.lt_trichotomy j i with z | z | z
        · have := b4 j a1 z
          rw [a3] at this
          cases this
        · exact z
        · have := a4 i b1 z
          rw [b3] at this
          cases this
      rw [this]
    · obtain ⟨_, k, k1, k2, k3⟩ := n j a1 a3
      rw [b1 k k1 k2] at k3
      cases k3
  · rcases h' with ⟨i, b1, b2, b3, b4, rfl⟩ | ⟨b1, rfl⟩
    · obtain ⟨⟨k, k1, k2, k3⟩, _⟩ := n i b1 b3
      rw [a1 k k1 k2] at k3
      cases k3
    · rfl
theorem dMax2_any (a : Nat) (i : Int) : dMax2 [.int (a : Int), .int i] = some (.int ((max a i.toNat : Nat) : Int)) := by
  show some (PyData.int (if i > (a : Int) then i else (a : Int))) = _
  by_cases h : i > (a : Int)
  · rw [if_pos h]
    congr 2
    omega
  · rw [if_neg h]
    congr 2
    omega
theorem next_ok {S : Nat → Bool} {b m : Nat} (h : Per S b m) (hm : 0 < m) (hb : b ≤ 100000) (hl : m ≤ 100000) {i : Int} (hi : i ≤ 100000) :
    Sok (sem_next_in [some (.fz (tabD S b m)), some (.fz (.int i))]) fun t => ∃ d, t = .fz d ∧ NextIs S i.toNat (max b i.toNat + m) d := by
  unfold sem_next_in m_next_in
  rw [sok_sem]
  have t1 := tab_ix S b m
  have z0 : dMax2 [.int (0 : Int), .int i] = some (.int ((i.toNat : Nat) : Int)) := by
    have := dMax2_any 0 i
    rw [Nat.zero_max] at this
    exact this
  have ea : (((max b i.toNat : Nat) : Int) + (m : Int)) = ((max b i.toNat + m : Nat) : Int) := by omega
  have r1 : dRng2 [.int ((i.toNat : Nat) : Int), .int ((max b i.toNat + m : Nat) : Int)] = some (intsR ((i.toNat : Nat) : Int) (max b i.toNat + m - i.toNat)) := rng2_ok (by omega) (by omega)
  simp -implicitDefEqProofs only [↓oks, oks2, T.er, List.replicate, t1.2.1, t1.2.2.1, z0, dMax2_any, dAdd_i, ea, r1]
  refine ok_forR (fun j e => (∀ k, i.toNat ≤ k → k < i.toNat + j → S k = false) ∧ ∃ x, e = [some (.fz (tabD S b m)), some (.fz (.int i)), some (.fz (.int (b : Int))), some (.fz (.int (m : Int))), x]) (fun t _ => ∃ d, t = .fz d ∧ NextIs S i.toNat (max b i.toNat + m) d) ?_ ?_ ?_ ?_
  · exact ⟨fun k k1 k2 => by omega, none, rfl⟩
  · rintro j d e hd ⟨hj, x, rfl⟩
    obtain ⟨jq, rfl⟩ := intsR_get hd
    rw [gN_at, oEl_some]
    have z := has_ok h hm ((i.toNat + j : Nat) : Int)
    simp -implicitDefEqProofs only [↓oks, oks2, T.er, List.replicate, sok_is z, szB_nat, bol_b]
    cases c : S (i.toNat + j) with
    | true =>
      rw [if_pos rfl]
      exact ⟨_, rfl, .inl ⟨i.toNat + j, by omega, by omega, c, hj, rfl⟩⟩
    | false =>
      rw [if_neg (by decide)]
      exact ⟨fun k k1 k2 => by
        by_cases y : k = i.toNat + j
        · rw [y]; exact c
        · exact hj k k1 (by omega), _, rfl⟩
  · rintro e ⟨hj, x, rfl⟩
    rw [intsR_len] at hj
    simp -implicitDefEqProofs only [↓oks, oks2, T.er, List.replicate]
    exact ⟨_, rfl, .inr ⟨fun k k1 k2 => hj k k1 (by omega), rfl⟩⟩
  · rintro t e h
    simp -implicitDefEqProofs only [↓oks, oks2, T.er, List.replicate]
    exact h
end DL
namespace DL
open PySem L2 PyProof.Rows
/-! ### _law_drawn_table -/
def MODS : List Nat := [2, 3, 1, 4, 6, 12, 35]
def BEGS : List Nat := [3, 0, 5, 1, 8, 90]
theorem mods_ok : ∀ M ∈ MODS, 0 < M ∧ M ≤ 35 := by decide
theorem begs_ok : ∀ c ∈ BEGS, c ≤ 90 := by decide
theorem mods_l : dLst [.int 2, .int 3, .int 1, .int 4, .int 6, .int 12, .int 35] = some (.ol ((MODS.map natD).map T.fz)) := dLst_le (ds := MODS.map natD) (by simp [MODS])
theorem begs_l : dLst [.int 3, .int 0, .int 5, .int 1, .int 8, .int 90] = some (.ol ((BEGS.map natD).map T.fz)) := dLst_le (ds := BEGS.map natD) (by simp [BEGS])
def drS (ns rs : List Nat) (c M : Nat) : Nat → Bool := fun n => if n < c then decide (n ∈ ns) else decide (n % M ∈ rs)
theorem drS_per (ns rs : List Nat) (c M : Nat) : Per (drS ns rs c M) c M := fun n hn => by
  unfold drS
  rw [if_neg (by omega), if_neg (by omega), Nat.add_mod_right]
theorem pair_app {ns ms : List Nat} {c : Nat} (h1 : ns.Pairwise (· < ·)) (h2 : ∀ n ∈ ns, n < c) (h3 : ms.Pairwise (· < ·)) (h4 : ∀ n ∈ ms, c ≤ n) : (ns ++ ms).Pairwise (· < ·) :=
  List.pairwise_append.mpr ⟨h1, h3, fun a ma b mb => Nat.lt_of_lt_of_le (h2 a ma) (h4 b mb)⟩
theorem rngN_lt (b e : Nat) : (rngN b e).Pairwise (· < ·) := List.pairwise_map.mpr (List.pairwise_lt_range.imp fun h => by omega)
def drM (rs : List Nat) (c M : Nat) : List Nat := (rngN c 401).filter fun n => decide (n % M ∈ rs)
theorem dr_all {ns rs : List Nat} {c M : Nat} (hc : c ≤ 90) (h1 : ns.Pairwise (· < ·)) (h2 : ∀ n ∈ ns, n < c) : ns ++ drM rs c M = numsN (drS ns rs c M) 401 := by
  have m4 : ∀ n ∈ drM rs c M, c ≤ n := fun n m => (mem_rngN.mp (List.mem_filter.mp m).1).1
  have a1 : Asc (ns ++ drM rs c M) := asc_lt (pair_app h1 h2 ((rngN_lt c 401).filter _) m4)
  refine Asc.uniq a1 (asc_nums _ 401) fun n => ?_
  rw [List.mem_append, mem_nums]
  unfold drM drS
  rw [List.mem_filter, mem_rngN, decide_eq_true_eq]
  constructor
  · rintro (h | ⟨⟨a, b⟩, s⟩)
    · have := h2 n h
      exact ⟨by omega, by rw [if_pos this]; exact decide_eq_true h⟩
    · exact ⟨b, by rw [if_neg (by omega)]; exact decide_eq_true s⟩
  · rintro ⟨a, s⟩
    by_cases l : n < c
    · rw [if_pos l] at s
      exact .inl (of_decide_eq_true s)
    · rw [if_neg l] at s
      exact .inr ⟨⟨by omega, a⟩, of_decide_eq_true s⟩
theorem updN {ns ms : List Nat} (h : (ns ++ ms).Nodup) (hl : ns.length + ms.length ≤ 100000) : gUpdD (.od (ns.map fun n => (natD n, T.fz (.bool true)))) [.fz (dicN ms)] = some (.od ((ns ++ ms).map fun n => (natD n, T.fz (.bool true))), .fz .none) := by
  unfold gUpdD dicN
  dsimp only
  have k1 : allK (ns.map fun n => (natD n, T.fz (.bool true))) = true := by
    unfold allK
    rw [List.all_eq_true]
    rintro p m
    obtain ⟨n, _, rfl⟩ := List.mem_map.mp m
    rfl
  have k3 : ((ns.map fun n => (natD n, T.fz (.bool true))).map (·.1) ++ (ms.map fun n => (natD n, PyData.bool true)).map (·.1)).Nodup := by
    rw [List.map_map, List.map_map]
    show (ns.map natD ++ ms.map natD).Nodup
    rw [← List.map_append]
    exact h.map _ fun a b ne e => ne (Dat.inj (α := Nat) e)
  rw [if_pos ⟨k1, allK_nat ms, k3, million (by simpa using (by omega : ns.length + ms.length ≤ 1000000))⟩, List.map_append, List.map_map]
  rfl
theorem someN_B {t : T} {ns : List Nat} {Q : T → T → Prop} (B : IsBag t) (h0 : ns ≠ []) (h1 : ns.length ≤ 1000) (k : ∀ n t', n ∈ ns → IsBag t' → Q (.fz (.int (n : Int))) t') : BOk (sem__law_some [some t, some (.fz (.list (ns.map natD)))]) Q :=
  some_B B (by simpa using h0) (by rw [List.length_map]; omega) fun d t' md B' => by
    obtain ⟨n, mn, rfl⟩ := List.mem_map.mp md
    exact k n t' mn B'
noncomputable def dt1 : M Fl := mAsg (mLT tTupO (mConsT ((((mHas 0).bind fun _ => mCallB sem__law_some 0 (mCons ((mL dLst (mCons (mC (.int 2)) (mCons (mC (.int 3)) (mCons (mC (.int 1)) (mCons (mC (.int 4)) (mCons (mC (.int 6)) (mCons (mC (.int 12)) (mCons (mC (.int 35)) (mNil))))))))).map T.er) (mNil))).map T.er).map T.fz) (mConsT ((((mHas 0).bind fun _ => mCallB sem__law_some 0 (mCons ((mL dLst (mCons (mC (.int 3)) (mCons (mC (.int 0)) (mCons (mC (.int 5)) (mCons (mC (.int 1)) (mCons (mC (.int 8)) (mCons (mC (.int 90)) (mNil)))))))).map T.er) (mNil))).map T.er).map T.fz) (mNilT)))) (gT 2 (gCons' (gN 1) (gCons' (gN 2) (gNil'))))
noncomputable def dt2 : M Fl := mSet 3 ((mIL dRng1 (mCons (mVarF 1) (mNil))).bind (mLcI [5] (gN 5) ((m2 dEqS (((mHas 0).bind fun _ => mCallB sem__law_take 0 (mCons (mC (.int 2)) (mNil))).map T.er) (mC (.int 0))).bind tru) ((mVarF 5).map T.fz)))
noncomputable def dt3 : M Fl := mIfS ((m2 dEqS (((mHas 0).bind fun _ => mCallB sem__law_take 0 (mCons (mC (.int 4)) (mNil))).map T.er) (mC (.int 0))).bind tru) (mSet 3 (mL dLst (mNil))) (mNx)
noncomputable def dt4 : M Fl := mSet 4 (mLT tDictP (mConsT ((mIL dRng1 (mCons (mVarF 2) (mNil))).bind (mLcI [6] (gN 6) ((m2 dEqS (((mHas 0).bind fun _ => mCallB sem__law_take 0 (mCons (mC (.int 2)) (mNil))).map T.er) (mC (.int 0))).bind tru) ((mL dTup (mCons (mVarF 6) (mCons (mC (.bool true)) (mNil)))).map T.fz))) (mNilT)))
noncomputable def dt5 : M Fl := mDrop (mMeth "dict" 4 gUpdD (mConsT (((mLT tDictP (mConsT ((mIL dRng2 (mCons (mVarF 2) (mCons (mC (.int 401)) (mNil)))).bind (mLc [6] (gN 6) ((m2 dIn (m2 dMod (mL dInt (mCons (mVarF 6) (mNil))) (mVarF 1)) (mVar 3)).bind tru) ((mL dTup (mCons (mVarF 6) (mCons (mC (.bool true)) (mNil)))).map T.fz))) (mNilT))).map T.er).map T.fz) (mNilT)))
noncomputable def dt6 : M Fl := mRt (mCall sem__law_table (mCons (mVarZ 4) (mCons (mC (.int 400)) (mNil))))
noncomputable def dtT : M Fl := mSeq dt4 (mSeq dt5 dt6)
theorem dt_eq : m__law_drawn_table = mSeq dt1 (mSeq dt2 (mSeq dt3 dtT)) := rfl
theorem plain1 {v : Nat} {env : Env} (h : env[v]? = some none) : Plain [v] env := fun w m x e => by
  rw [List.mem_singleton.mp m, h] at e
  cases e
theorem dtT_ok {t : T} {rs : List Nat} {M c : Nat} {R : Fl → Env → Prop} (B : IsBag t) (M0 : 0 < M) (M1 : M ≤ 35) (c1 : c ≤ 90)
    (k : ∀ S b m t' (e : Env), IsBag t' → Per S c M → Tb S b m → R (.rt (.fz (tabD S b m))) (some t' :: e)) :
    Ok dtT [some t, some (.fz (.int (M : Int))), some (.fz (.int (c : Int))), some (.ol ((rs.map natD).map T.fz)), none, none, none] R := by
  unfold dtT dt4
  have r1 : dRng1 [.int (c : Int)] = some (intsR 0 c) := rng_ok (by omega)
  have r2 : dRng2 [.int (c : Int), .int 401] = some (intsR (c : Int) (401 - c)) := rng2_ok (e := 401) (by omega) (by omega)
  have e2 : ∀ a b : D, dTup [a, b] = some (.tuple [a, b]) := fun a b => dTup_le (by simp)
  have dI : ∀ i : Int, dInt [.int i] = some (.int i) := fun i => rfl
  simp -implicitDefEqProofs only [↓oks, oks2, T.er, List.replicate, r1, intsR0]
  refine ok_lcI (fun i done e => ∃ (ns : List Nat) (t' : T), done = ns.map (fun r => T.fz (prN r)) ∧ ns.Pairwise (· < ·) ∧ (∀ n ∈ ns, n < i) ∧ IsBag t' ∧ e = [some t', some (.fz (.int (M : Int))), some (.fz (.int (c : Int))), some (.ol ((rs.map natD).map T.fz)), none, none, none]) (by simpa using (by omega : c ≤ 1000000)) (plain1 rfl) ⟨[], t, rfl, .nil, (fun n m => by cases m), B, rfl⟩ ?_ ?_
  · rintro i d done e hd ⟨ns, t', rfl, np, nl, B', rfl⟩
    have hd' : (intsR ((0 : Nat) : Int) c)[i]? = some d := by rw [intsR_nat]; simpa using hd
    obtain ⟨ic, rfl⟩ := intsR_get hd'
    rw [gN_at, oEl_some]
    simp -implicitDefEqProofs only [↓oks, oks2, T.er, List.replicate]
    refine take_B B' (by omega) (by omega) fun n t2 B2 n0 n1 => ?_
    simp -implicitDefEqProofs only [↓oks, oks2, T.er, List.replicate, dEqS_ints, bol_b, e2, Nat.zero_add]
    by_cases z : n = 0
    · rw [if_pos (decide_eq_true z)]
      refine ⟨ns ++ [i], t2, by rw [List.map_append]; rfl, List.pairwise_append.mpr ⟨np, List.pairwise_singleton _ _, fun a ma b mb => ?_⟩, fun a ma => ?_, B2, rfl⟩
      · rw [List.mem_singleton.mp mb]
        exact nl a ma
      · rcases List.mem_append.mp ma with q | q
        · have := nl a q
          omega
        · rw [List.mem_singleton.mp q]
          omega
    · rw [if_neg (by simpa using z)]
      exact ⟨ns, t2, rfl, np, (fun a ma => by have := nl a ma; omega), B2, rfl⟩
  · rintro ts e ⟨ns, t', rfl, np, nl, B', rfl⟩
    have nl' : ∀ n ∈ ns, n < c := fun n m => by
      have := nl n m
      simpa using this
    have ep : ns.map (fun r => T.fz (prN r)) = (ns.map prN).map T.fz := by
      rw [List.map_map]
      rfl
    have nnd : ns.Nodup := (asc_lt np).nd
    unfold dt5 dt6
    rw [ep]
    have el : ((List.range (401 - c)).map fun j => c + j) = rngN c 401 := rfl
    simp -implicitDefEqProofs only [↓oks, oks2, T.er, List.replicate, dictN nnd, backE, r2, intsR_nat, el]
    refine ok_lcf natD (fun n => decide (n % M ∈ rs)) (fun n => .fz (prN n)) (by rw [rngN_len]; omega) (fun n mn => ?_) ?_
    · unfold LcT
      simp -implicitDefEqProofs only [↓oks, oks2, T.er, List.replicate, wipeE, gN_at, natD, dI, dMod_nat M0, nat_inL, bol_b, e2]
      cases decide (n % M ∈ rs) <;> simp [prN, natD]
    · have mp : ((rngN c 401).filter fun n => decide (n % M ∈ rs)).map (fun n => T.fz (prN n)) = ((drM rs c M).map prN).map T.fz := by
        rw [List.map_map]
        rfl
      have mnd : (drM rs c M).Nodup := (asc_lt ((rngN_lt c 401).filter _)).nd
      have all := dr_all (rs := rs) (M := M) c1 np nl'
      have und : (ns ++ drM rs c M).Nodup := by
        rw [all]
        exact (asc_nums _ 401).nd
      have l1 : ns.length + (drM rs c M).length ≤ 100000 := by
        have e : ns.length + (drM rs c M).length = (numsN (drS ns rs c M) 401).length := by rw [← all, List.length_append]
        rw [e]
        exact Nat.le_trans (nums_len _ _) (by omega)
      have up := updN und l1
      rw [all] at up
      obtain ⟨b, m, T0, bc, md⟩ := tb_ex M0 (drS_per ns rs c M)
      have z := ltable_ok (half := 200) (most := 400) T0 (drS_per ns rs c M) M0 rfl (by omega) (by omega) (by omega) (by omega)
      have z' : Sok (sem__law_table [some (.fz (dicN (numsN (drS ns rs c M) 401))), some (.fz (.int 400))]) fun t => t = .fz (tabD (drS ns rs c M) b m) := z
      rw [mp, dictN mnd, oEl_some, er_dicN]
      have ek := er_dicN (numsN (drS ns rs c M) 401)
      rw [T.er] at ek
      simp -implicitDefEqProofs only [↓oks, oks2, T.er, List.replicate, up, ek, sok_is z']
      exact k _ b m t' _ B' (drS_per ns rs c M) T0
theorem drawn_B {t : T} {Q : T → T → Prop} (B : IsBag t) (k : ∀ S c M b m t', IsBag t' → M ∈ MODS → c ≤ 90 → Per S c M → Tb S b m → Q (.fz (tabD S b m)) t') : BOk (sem__law_drawn_table [some t]) Q := by
  unfold sem__law_drawn_table
  rw [dt_eq]
  refine bok_sem ?_
  unfold dt1 dt2 dt3
  simp -implicitDefEqProofs only [↓oks, oks2, T.er, List.replicate, mods_l, T.erL_fz]
  refine someN_B B (by decide) (by decide) fun M t1 mM B1 => ?_
  simp -implicitDefEqProofs only [↓oks, oks2, T.er, List.replicate, begs_l, T.erL_fz]
  refine someN_B B1 (by decide) (by decide) fun c t2 mc B2 => ?_
  have M0 := (mods_ok M mM).1
  have M1 := (mods_ok M mM).2
  have c1 := begs_ok c mc
  have e2 : ∀ a b : D, tTupO [.fz a, .fz b] = some (.ot [.fz a, .fz b]) := fun a b => rfl
  have e3 : ∀ (a b : D) (e : Env), gT 2 (gCons' (gN 1) (gCons' (gN 2) gNil')) (.ot [.fz a, .fz b]) e = some ((e.set 1 (some (.fz a))).set 2 (some (.fz b))) := fun a b e => rfl
  have r1 : dRng1 [.int (M : Int)] = some (intsR 0 M) := rng_ok (by omega)
  simp -implicitDefEqProofs only [↓oks, oks2, T.er, List.replicate, natD, e2, e3, r1]
  refine ok_lcI (fun i done e => ∃ (rs : List Nat) (t' : T), done = rs.map (fun r => T.fz (natD r)) ∧ IsBag t' ∧ e = [some t', some (.fz (.int (M : Int))), some (.fz (.int (c : Int))), none, none, none, none]) (by rw [intsR_len]; omega) (plain1 rfl) ⟨[], t2, rfl, B2, rfl⟩ ?_ ?_
  · rintro i d done e hd ⟨rs, t', rfl, B', rfl⟩
    have hd' : (intsR ((0 : Nat) : Int) M)[i]? = some d := hd
    obtain ⟨ic, rfl⟩ := intsR_get hd'
    rw [gN_at, oEl_some]
    simp -implicitDefEqProofs only [↓oks, oks2, T.er, List.replicate]
    refine take_B B' (by omega) (by omega) fun n t2 B2 n0 n1 => ?_
    simp -implicitDefEqProofs only [↓oks, oks2, T.er, List.replicate, dEqS_ints, bol_b, Nat.zero_add]
    by_cases z : n = 0
    · rw [if_pos (decide_eq_true z)]
      exact ⟨rs ++ [i], t2, by rw [List.map_append]; rfl, B2, rfl⟩
    · rw [if_neg (by simpa using z)]
      exact ⟨rs, t2, rfl, B2, rfl⟩
  · rintro ts e ⟨rs, t', rfl, B', rfl⟩
    have ep : rs.map (fun r => T.fz (natD r)) = (rs.map natD).map T.fz := by
      rw [List.map_map]
      rfl
    have ej : (some (none : Option T)).join = none := rfl
    rw [ep]
    simp -implicitDefEqProofs only [↓oks, oks2, T.er, List.replicate, backE, ej]
    refine take_B B' (by omega) (by omega) fun n t3 B3 n0 n1 => ?_
    have dl0 : dLst [] = some (.ol []) := dLst0
    simp -implicitDefEqProofs only [↓oks, oks2, T.er, List.replicate, dEqS_ints, bol_b, dl0]
    have fin : ∀ (S : Nat → Bool) b m t' (e : Env), IsBag t' → Per S c M → Tb S b m → slot (some t' :: e)[0]? fun t' => oEl (flT (.rt (.fz (tabD S b m)))) fun r => Q r t' := fun S b m t' e B p T0 => k S c M b m t' B mM c1 p T0
    by_cases z : n = 0
    · rw [if_pos (decide_eq_true z)]
      exact dtT_ok (rs := []) B3 M0 M1 c1 fin
    · rw [if_neg (by simpa using z)]
      exact dtT_ok B3 M0 M1 c1 fin
end DL
namespace DL
open PySem L2 PyProof.Rows
/-! ### is_rising and _law_are_up of any value -/
def cntLt (w : Nat) : D → Bool
  | .int i => decide (0 ≤ i) && decide (i < (w : Int))
  | _ => false
def natOf : D → Nat
  | .int i => i.toNat
  | _ => 0
theorem cntLt_nat {w : Nat} {d : D} (h : cntLt w d = true) : d = natD (natOf d) ∧ natOf d < w := by
  cases d with
  | int i =>
    have h : (decide (0 ≤ i) && decide (i < (w : Int))) = true := h
    rw [Bool.and_eq_true, decide_eq_true_eq, decide_eq_true_eq] at h
    refine ⟨?_, ?_⟩
    · show PyData.int i = PyData.int ((i.toNat : Nat) : Int)
      congr 1
      omega
    · show i.toNat < w
      omega
  | _ => cases h
def stepB (ns : List Nat) : Bool := (ns.zip (ns.drop 1)).all fun p => decide (p.1 < p.2)
def upB (w : Nat) : D → Bool
  | .tuple ds => (ds.all (cntLt w)) && stepB (ds.map natOf)
  | _ => false
theorem all_cnt {w : Nat} {ds : List D} (h : ds.all (cntLt w) = true) : ds = (ds.map natOf).map natD ∧ ∀ n ∈ ds.map natOf, n < w := by
  rw [List.all_eq_true] at h
  constructor
  · rw [List.map_map]
    conv => lhs; rw [← List.map_id ds]
    exact List.map_congr_left fun d m => (cntLt_nat (h d m)).1
  · intro n m
    obtain ⟨d, md, rfl⟩ := List.mem_map.mp m
    exact (cntLt_nat (h d md)).2
theorem zip_nat (ns : List Nat) : pairs (ns.map natD) ((ns.map natD).drop 1) = (ns.zip (ns.drop 1)).map fun p => .tuple [natD p.1, natD p.2] := by
  unfold pairs
  rw [← List.map_drop, List.zip_map, List.map_map]
  rfl
theorem rising_any {d : D} {w : Nat} (hl : tot d ≤ 1000000) : Sok (sem_is_rising [some (.fz d), some (.fz (.int (w : Int)))]) fun t => t = .fz (.bool (upB w d)) := by
  unfold sem_is_rising m_is_rising
  rw [sok_sem]
  simp -implicitDefEqProofs only [↓oks, oks2, T.er, List.replicate, isi_tupB, bol_b]
  cases d with
  | tuple ds =>
    have ll : ds.length ≤ 1000000 := by
      have := totL_len ds
      simp only [tot] at hl
      omega
    have s1 : dSl (.tuple ds) (some 1) none = some (.fz (.tuple (ds.drop 1))) := slT_drop (n := 1)
    simp -implicitDefEqProofs only [isTupB, Bool.not_true, Bool.false_eq_true, if_false, seqD, ↓oks, oks2, T.er, List.replicate]
    refine ok_lc1 (fun x => .fz (.bool (cntLt w x))) ll (fun x mx => ?_) ?_
    · unfold LcT
      simp -implicitDefEqProofs only [↓oks, oks2, T.er, List.replicate, wipeE, gN_at, sok_is iscount_any]
      cases x with
      | int i =>
        simp only [isCntB, cntLt, dLt_i]
        by_cases z : (0 : Int) ≤ i <;> simp [z, oEl]
      | _ => simp [isCntB, cntLt, oEl]
    · have en : T.erL (ds.map fun x => T.fz (.bool (cntLt w x))) = (ds.map (cntLt w)).map PyData.bool := by
        rw [erL_ff' (fun x => PyData.bool (cntLt w x)), List.map_map]
        rfl
      have ea : (ds.map (cntLt w)).all id = ds.all (cntLt w) := by
        rw [List.all_map]
        rfl
      simp -implicitDefEqProofs only [↓oks, oks2, T.er, List.replicate, en, all_bools, ea, bol_b]
      cases ok : ds.all (cntLt w) with
      | false => simp [upB, ok]
      | true =>
        obtain ⟨e1, e2⟩ := all_cnt ok
        have up : upB w (.tuple ds) = stepB (ds.map natOf) := by simp [upB, ok]
        rw [up]
        generalize ds.map natOf = ns at e1 e2
        rw [e1] at ll s1 ⊢
        have z1 : ∀ a b : List D, dZip [.tuple a, .tuple b] = some (pairs a b) := fun a b => rfl
        simp -implicitDefEqProofs only [Bool.not_true, Bool.false_eq_true, if_false, ↓oks, oks2, T.er, List.replicate, s1, z1, zip_nat]
        refine ok_lcf (fun p : Nat × Nat => .tuple [natD p.1, natD p.2]) (fun _ => true) (fun p => .fz (.bool (decide (p.1 < p.2)))) ?_ (fun p mp => ?_) ?_
        · have : (ns.zip (ns.drop 1)).length ≤ ns.length := by
            rw [List.length_zip]
            omega
          rw [List.length_map] at ll
          omega
        · have g2 : ∀ (a b : D) (e : Env), gT 2 (gCons' (gN 2) (gCons' (gN 3) gNil')) (.fz (.tuple [a, b])) e = some ((e.set 2 (some (.fz a))).set 3 (some (.fz b))) := fun a b e => rfl
          have lt : decide ((p.1 : Int) < (p.2 : Int)) = decide (p.1 < p.2) := decide_eq_decide.mpr (by omega)
          unfold LcT
          simp -implicitDefEqProofs only [↓oks, oks2, T.er, List.replicate, wipeE, g2, natD, dLt_i, lt, if_true]
        · have ef : (ns.zip (ns.drop 1)).filter (fun _ => true) = ns.zip (ns.drop 1) := List.filter_eq_self.mpr fun _ _ => rfl
          have en2 : T.erL ((ns.zip (ns.drop 1)).map fun p => T.fz (.bool (decide (p.1 < p.2)))) = ((ns.zip (ns.drop 1)).map fun p => decide (p.1 < p.2)).map PyData.bool := by
            rw [erL_ff' (fun p : Nat × Nat => PyData.bool (decide (p.1 < p.2))), List.map_map]
            rfl
          have es : ((ns.zip (ns.drop 1)).map fun p => decide (p.1 < p.2)).all id = stepB ns := by
            unfold stepB
            rw [List.all_map]
            rfl
          simp -implicitDefEqProofs only [ef, ↓oks, oks2, T.er, List.replicate, en2, all_bools, es]
  | _ => simp [isTupB, upB]
end DL
namespace DL
open PySem L2 PyProof.Rows
theorem filter_neg_nil {α : Type} (p : α → Bool) (l : List α) : (l.filter fun a => !p a).isEmpty = l.all p := by
  rw [Bool.eq_iff_iff, List.isEmpty_iff, List.filter_eq_nil_iff, List.all_eq_true]
  simp
theorem ones_ne {α : Type} (l : List α) : dNe (.list ((l.map fun _ => (1 : Int)).map PyData.int)) (.list []) = some (.bool (!l.isEmpty)) := by
  unfold dNe
  rw [if_pos ⟨ints_shpL _, by decide +kernel⟩]
  cases l <;> simp [PyData.eqv, PyData.eqvAll]
theorem areup_any {d : D} {w : Nat} (hl : tot d ≤ 1000000) : Sok (sem__law_are_up [some (.fz d), some (.fz (.int (w : Int)))]) fun t => t = .fz (.bool (upB w d)) := by
  unfold sem__law_are_up m__law_are_up
  rw [sok_sem]
  simp -implicitDefEqProofs only [↓oks, oks2, T.er, List.replicate, isi_tupB, bol_b]
  cases d with
  | tuple ds =>
    have ll : ds.length ≤ 1000000 := by
      have := totL_len ds
      simp only [tot] at hl
      omega
    have s1 : dSl (.tuple ds) (some 1) none = some (.fz (.tuple (ds.drop 1))) := slT_drop (n := 1)
    have dl0 : dLst [] = some (.ol []) := dLst0
    simp -implicitDefEqProofs only [isTupB, Bool.not_true, Bool.false_eq_true, if_false, seqD, ↓oks, oks2, T.er, List.replicate]
    refine ok_lc (fun x => if (!cntLt w x) = true then some (.fz (.int 1)) else none) ll (fun x mx => ?_) ?_
    · unfold LcT
      simp -implicitDefEqProofs only [↓oks, oks2, T.er, List.replicate, wipeE, gN_at, sok_is isint_any, m3c]
      cases x with
      | int i =>
        simp -implicitDefEqProofs only [cntLt, dLe_i, dLt_i, oEl_some, ↓oks, oks2, T.er, List.replicate, Bool.not_true, Bool.false_eq_true, if_false, bol_b]
        by_cases z : (0 : Int) ≤ i
        · have d0 : decide ((0 : Int) ≤ i) = true := decide_eq_true z
          simp -implicitDefEqProofs only [d0, if_true, ↓oks, oks2, T.er, List.replicate, dLt_i, bol_b, Bool.true_and]
          by_cases y : i < (w : Int) <;> simp [y]
        · have d0 : decide ((0 : Int) ≤ i) = false := decide_eq_false z
          simp -implicitDefEqProofs only [d0, Bool.false_eq_true, if_false, ↓oks, oks2, T.er, List.replicate, bol_b, Bool.false_and]
          simp
      | _ => simp [cntLt, oEl]
    · rw [fm_gen]
      have en : T.erL ((ds.filter fun x => !cntLt w x).map fun _ => T.fz (PyData.int 1)) = ((ds.filter fun x => !cntLt w x).map fun _ => (1 : Int)).map PyData.int := ones_eq _
      simp -implicitDefEqProofs only [↓oks, oks2, T.er, List.replicate, dl0, T.erL, en, ones_ne, filter_neg_nil, bol_b]
      cases ok : ds.all (cntLt w) with
      | false => simp [upB, ok]
      | true =>
        obtain ⟨e1, e2⟩ := all_cnt ok
        have up : upB w (.tuple ds) = stepB (ds.map natOf) := by simp [upB, ok]
        rw [up]
        generalize ds.map natOf = ns at e1 e2
        rw [e1] at ll s1 ⊢
        have z1 : ∀ a b : List D, dZip [.tuple a, .tuple b] = some (pairs a b) := fun a b => rfl
        simp -implicitDefEqProofs only [Bool.not_true, Bool.false_eq_true, if_false, ↓oks, oks2, T.er, List.replicate, s1, z1, zip_nat]
        refine ok_lcf (fun p : Nat × Nat => .tuple [natD p.1, natD p.2]) (fun p => !decide (p.1 < p.2)) (fun _ => .fz (.int 1)) ?_ (fun p mp => ?_) ?_
        · have : (ns.zip (ns.drop 1)).length ≤ ns.length := by
            rw [List.length_zip]
            omega
          rw [List.length_map] at ll
          omega
        · have g2 : ∀ (a b : D) (e : Env), gT 2 (gCons' (gN 2) (gCons' (gN 3) gNil')) (.fz (.tuple [a, b])) e = some ((e.set 2 (some (.fz a))).set 3 (some (.fz b))) := fun a b e => rfl
          have lt : decide ((p.2 : Int) ≤ (p.1 : Int)) = !decide (p.1 < p.2) := by
            rw [← decide_not]
            exact decide_eq_decide.mpr (by omega)
          unfold LcT
          simp -implicitDefEqProofs only [↓oks, oks2, T.er, List.replicate, wipeE, g2, natD, dGe_i, lt, bol_b]
          by_cases y : p.1 < p.2 <;> simp [y]
        · have en2 : T.erL (((ns.zip (ns.drop 1)).filter fun p => !decide (p.1 < p.2)).map fun _ => T.fz (PyData.int 1)) = (((ns.zip (ns.drop 1)).filter fun p => !decide (p.1 < p.2)).map fun _ => (1 : Int)).map PyData.int := ones_eq _
          have es : ((ns.zip (ns.drop 1)).all fun p => decide (p.1 < p.2)) = stepB ns := rfl
          simp -implicitDefEqProofs only [↓oks, oks2, T.er, List.replicate, dl0, en2, T.erL, ones_nil, filter_neg_nil, es]
  | _ => simp [isTupB, upB]
end DL
namespace DL
open PySem L2 PyProof.Rows
/-! ### is_table of any value: what is asked of the four parts -/
def symB (m : Nat) (R : List Nat) (k : Nat) : Bool := decide (m % k = 0) && R.all fun r => decide ((r + m / k) % m ∈ R)
def coreB (N : List Nat) (b m : Nat) (R : List Nat) : Bool := !(R.isEmpty && decide (1 < m)) && (((rngN 2 (R.length + 1)).all fun k => !symB m R k) && (decide (b = 0) || (decide (b - 1 ∈ N) != decide ((b - 1) % m ∈ R))))
noncomputable def it1 : M Fl := mIfS (tOrM (tNotM ((m1 (dIsi "tuple") (mVarF 0)).bind tru)) (tOrM ((m2 dNe (mL dLen (mCons (mVarF 0) (mNil))) (mC (.int 4))).bind tru) (tOrM (tNotM (((mCall sem_is_count (mCons (m2 dIx (mVarF 0) (mC (.int 1))) (mNil))).map T.er).bind tru)) (tNotM (((mCall sem_is_count (mCons (m2 dIx (mVarF 0) (mC (.int 2))) (mNil))).map T.er).bind tru))))) (mRt ((mC (.bool false)).map T.fz)) (mNx)
noncomputable def it2 : M Fl := mIfS (tOrM ((m2 dEqS (m2 dIx (mVarF 0) (mC (.int 2))) (mC (.int 0))).bind tru) (tOrM (tNotM (((mCall sem_is_rising (mCons (m2 dIx (mVarF 0) (mC (.int 0))) (mCons (m2 dIx (mVarF 0) (mC (.int 1))) (mNil)))).map T.er).bind tru)) (tNotM (((mCall sem_is_rising (mCons (m2 dIx (mVarF 0) (mC (.int 3))) (mCons (m2 dIx (mVarF 0) (mC (.int 2))) (mNil)))).map T.er).bind tru)))) (mRt ((mC (.bool false)).map T.fz)) (mNx)
noncomputable def it3 : M Fl := mAsg ((mVarF 0).map T.fz) (gT 4 (gCons' (gN 1) (gCons' (gN 2) (gCons' (gN 3) (gCons' (gN 4) (gNil'))))))
noncomputable def it4 : M Fl := mIfS (tAndM ((m2 dEqS (mVarF 4) (mL dTup (mNil))).bind tru) ((m2 dGt (mVarF 3) (mC (.int 1))).bind tru)) (mRt ((mC (.bool false)).map T.fz)) (mNx)
noncomputable def it5 : M Fl := (mIL dRng2 (mCons (mC (.int 2)) (mCons (m2 dAdd (mL dLen (mCons (mVarF 4) (mNil))) (mC (.int 1))) (mNil)))).bind fun ds => mFor (gN 5) (mSeq (mSet 6 ((m2 dDiv (mVarF 3) (mVarF 5)).map T.fz)) (mIfS (tAndM ((m2 dEqS (m2 dMod (mVarF 3) (mVarF 5)) (mC (.int 0))).bind tru) ((mL dAll (mCons (((mI seqD (mVarF 4)).bind (mLc [7] (gN 7) (M.pure true) ((m2 dIn (m2 dMod (m2 dAdd (mVarF 7) (mVarF 6)) (mVarF 3)) (mVarF 4)).map T.fz))).map T.er) (mNil))).bind tru)) (mRt ((mC (.bool false)).map T.fz)) (mNx))) ds
noncomputable def it6 : M Fl := mRt ((vOr (m2 dEqS (mVarF 2) (mC (.int 0))) (m2 dNe (m2 dIn (m2 dSub (mVarF 2) (mC (.int 1))) (mVarF 1)) (m2 dIn (m2 dMod (m2 dSub (mVarF 2) (mC (.int 1))) (mVarF 3)) (mVarF 4)))).map T.fz)
noncomputable def itZ : M Fl := mSeq it4 (mSeq it5 it6)
theorem it_eq : m_is_table = mSeq it1 (mSeq it2 (mSeq it3 itZ)) := rfl
noncomputable def jt1 : M Fl := mIfS (tOrM (tNotM ((m1 (dIsi "tuple") (mVarF 0)).bind tru)) (tOrM ((m2 dNe (mL dLen (mCons (mVarF 0) (mNil))) (mC (.int 4))).bind tru) (tOrM (tNotM (((mCall sem__law_is_int (mCons (m2 dIx (mVarF 0) (mC (.int 1))) (mNil))).map T.er).bind tru)) (tNotM (((mCall sem__law_is_int (mCons (m2 dIx (mVarF 0) (mC (.int 2))) (mNil))).map T.er).bind tru))))) (mRt ((mC (.bool false)).map T.fz)) (mNx)
noncomputable def jt2 : M Fl := mAsg ((mVarF 0).map T.fz) (gT 4 (gCons' (gN 1) (gCons' (gN 2) (gCons' (gN 3) (gCons' (gN 4) (gNil'))))))
noncomputable def jt3 : M Fl := mIfS (tOrM ((m2 dLt (mVarF 2) (mC (.int 0))).bind tru) (tOrM ((m2 dLt (mVarF 3) (mC (.int 1))).bind tru) (tOrM (tNotM (((mCall sem__law_are_up (mCons (mVarF 1) (mCons (mVarF 2) (mNil)))).map T.er).bind tru)) (tNotM (((mCall sem__law_are_up (mCons (mVarF 4) (mCons (mVarF 3) (mNil)))).map T.er).bind tru))))) (mRt ((mC (.bool false)).map T.fz)) (mNx)
noncomputable def jt4 : M Fl := mIfS (tAndM ((m2 dEqS (mVarF 4) (mL dTup (mNil))).bind tru) ((m2 dGt (mVarF 3) (mC (.int 1))).bind tru)) (mRt ((mC (.bool false)).map T.fz)) (mNx)
noncomputable def jt5 : M Fl := (mIL dRng2 (mCons (mC (.int 2)) (mCons (m2 dAdd (mL dLen (mCons (mVarF 4) (mNil))) (mC (.int 1))) (mNil)))).bind fun ds => mFor (gN 5) (mSeq (mSet 6 ((m2 dDiv (mL dInt (mCons (mVarF 3) (mNil))) (mVarF 5)).map T.fz)) (mIfS (tAndM ((m2 dEqS (m2 dMul (mVarF 6) (mVarF 5)) (mVarF 3)).bind tru) ((m2 dEqS (((mI seqD (mVarF 4)).bind (mLc [7] (gN 7) ((m2 dNotIn (m2 dMod (mL dInt (mCons (m2 dAdd (mVarF 7) (mVarF 6)) (mNil))) (mVarF 3)) (mVarF 4)).bind tru) ((mC (.int 1)).map T.fz))).map T.er) ((mL dLst (mNil)).map T.er)).bind tru)) (mRt ((mC (.bool false)).map T.fz)) (mNx))) ds
noncomputable def jt6 : M Fl := mRt ((vOr (m2 dEqS (mVarF 2) (mC (.int 0))) (m2 dNe (m2 dIn (m2 dSub (mVarF 2) (mC (.int 1))) (mVarF 1)) (m2 dIn (m2 dMod (mL dInt (mCons (m2 dSub (mVarF 2) (mC (.int 1))) (mNil))) (mVarF 3)) (mVarF 4)))).map T.fz)
noncomputable def jtZ : M Fl := mSeq jt4 (mSeq jt5 jt6)
theorem jt_eq : m__law_is_table = mSeq jt1 (mSeq jt2 (mSeq jt3 jtZ)) := rfl
def tE (d : D) (N : List Nat) (b m : Nat) (R : List Nat) (x y z : Option T) : Env := [some (.fz d), some (.fz (.tuple (N.map natD))), some (.fz (.int (b : Int))), some (.fz (.int (m : Int))), some (.fz (.tuple (R.map natD))), x, y, z]
theorem symB_loop {m : Nat} {R : List Nat} {b : Nat} {N : List Nat} (h : ∀ k, 2 ≤ k → k < R.length + 1 → symB m R k = false) (h0 : (R.isEmpty && decide (1 < m)) = false) : coreB N b m R = (decide (b = 0) || (decide (b - 1 ∈ N) != decide ((b - 1) % m ∈ R))) := by
  unfold coreB
  have e : ((rngN 2 (R.length + 1)).all fun k => !symB m R k) = true := by
    rw [List.all_eq_true]
    intro k mk
    obtain ⟨k1, k2⟩ := mem_rngN.mp mk
    rw [h k k1 k2]
    rfl
  rw [h0, e]
  rfl
theorem symB_no {m : Nat} {R : List Nat} {b k : Nat} {N : List Nat} (k1 : 2 ≤ k) (k2 : k < R.length + 1) (h : symB m R k = true) : coreB N b m R = false := by
  unfold coreB
  have e : ((rngN 2 (R.length + 1)).all fun k => !symB m R k) = false := by
    rw [List.all_eq_false]
    exact ⟨k, mem_rngN.mpr ⟨k1, k2⟩, by rw [h]; decide⟩
  rw [e]
  simp
theorem nat_ninT (n : Nat) (ns : List Nat) : dNotIn (.int (n : Int)) (.tuple (ns.map natD)) = some (.bool (!decide (n ∈ ns))) := by
  rw [nats_map, int_ninT]
  congr 3
  exact decide_eq_decide.mpr mem_cast
theorem itZ_ok {d : D} {N R : List Nat} {b m : Nat} {Q : Fl → Env → Prop} (hm : 0 < m) (hl : R.length ≤ 500000) (k : ∀ e, Q (.rt (.fz (.bool (coreB N b m R)))) e) : Ok itZ (tE d N b m R none none none) Q := by
  unfold itZ it4 it5 it6 tE
  have dt0 : dTup [] = some (.tuple []) := dTup_le (by simp)
  have ln : dLen [.tuple (R.map natD)] = some (.int ((R.length : Nat) : Int)) := by rw [lenT, List.length_map]
  have a1 : (((R.length : Nat) : Int) + 1) = ((R.length + 1 : Nat) : Int) := by omega
  have r2 : dRng2 [.int 2, .int ((R.length + 1 : Nat) : Int)] = some (intsR ((2 : Nat) : Int) (R.length + 1 - 2)) := rng2_ok (b := 2) (by omega) (by omega)
  have g1 : decide ((1 : Int) < (m : Int)) = decide (1 < m) := decide_eq_decide.mpr (by omega)
  have em : (R.map natD).isEmpty = R.isEmpty := by cases R <;> rfl
  simp -implicitDefEqProofs only [↓oks, oks2, T.er, List.replicate, dt0, eq_tupE (nats_shpT _), dGt_i, g1, em, bol_b, ln, dAdd_i, a1, r2]
  cases h0 : R.isEmpty && decide (1 < m) with
  | true =>
    rw [Bool.and_eq_true] at h0
    have e : coreB N b m R = false := by simp [coreB, h0.1, h0.2]
    simp only [h0.1, h0.2, if_true]
    rw [← e]
    exact k _
  | false =>
    rw [if_and2 (A := _) (by rw [← Bool.and_eq_true, h0]; decide)]
    refine ok_forR (fun i e => (∀ k, 2 ≤ k → k < 2 + i → symB m R k = false) ∧ ∃ x y, e = tE d N b m R x y none) (fun t _ => t = .fz (.bool (coreB N b m R))) ?_ ?_ ?_ ?_
    · exact ⟨fun k k1 k2 => by omega, none, none, rfl⟩
    · rintro i d' e hd ⟨hi, x, y, rfl⟩
      obtain ⟨iq, rfl⟩ := intsR_get hd
      unfold tE
      rw [gN_at, oEl_some]
      have p2 : 0 < 2 + i := by omega
      simp -implicitDefEqProofs only [↓oks, oks2, T.er, List.replicate, dDiv_nat p2 (by omega), dMod_nat p2, dEqS_ints, bol_b]
      have keep : symB m R (2 + i) = false → ∀ k, 2 ≤ k → k < 2 + (i + 1) → symB m R k = false := fun c k k1 k2 => by
        by_cases z : k = 2 + i
        · rw [z]; exact c
        · exact hi k k1 (by omega)
      by_cases dv : m % (2 + i) = 0
      · have e1 : decide (((m % (2 + i) : Nat) : Int) = 0) = true := decide_eq_true (by omega)
        rw [if_pos e1]
        simp only [seqD, oEl_some]
        refine ok_lcf natD (fun _ => true) (fun r => .fz (.bool (decide ((r + m / (2 + i)) % m ∈ R)))) (by omega) (fun r mr => ?_) ?_
        · have a2 : ((r : Int) + ((m / (2 + i) : Nat) : Int)) = ((r + m / (2 + i) : Nat) : Int) := by omega
          unfold LcT
          simp -implicitDefEqProofs only [↓oks, oks2, T.er, List.replicate, wipeE, gN_at, natD, dAdd_i, a2, dMod_nat hm, nat_inT, if_true]
        · have ef : R.filter (fun _ => true) = R := List.filter_eq_self.mpr fun _ _ => rfl
          have en : T.erL (R.map fun r => T.fz (.bool (decide ((r + m / (2 + i)) % m ∈ R)))) = (R.map fun r => decide ((r + m / (2 + i)) % m ∈ R)).map PyData.bool := by
            rw [erL_ff' (fun r => PyData.bool (decide ((r + m / (2 + i)) % m ∈ R))), List.map_map]
            rfl
          have es : (R.map fun r => decide ((r + m / (2 + i)) % m ∈ R)).all id = symB m R (2 + i) := by
            unfold symB
            rw [List.all_map, decide_eq_true dv, Bool.true_and]
            rfl
          simp -implicitDefEqProofs only [ef, ↓oks, oks2, T.er, List.replicate, en, all_bools, es, bol_b]
          cases c : symB m R (2 + i) with
          | true =>
            rw [if_pos rfl, symB_no (by omega) (by omega) c]
          | false =>
            rw [if_neg (by decide)]
            exact ⟨keep c, _, _, rfl⟩
      · have e1 : decide (((m % (2 + i) : Nat) : Int) = 0) = false := decide_eq_false (by omega)
        have c : symB m R (2 + i) = false := by
          unfold symB
          rw [decide_eq_false dv, Bool.false_and]
        rw [if_neg (by rw [e1]; decide), if_neg (by decide)]
        exact ⟨keep c, _, _, rfl⟩
    · rintro e ⟨hi, x, y, rfl⟩
      rw [intsR_len] at hi
      have z := symB_loop (b := b) (N := N) (fun k k1 k2 => hi k k1 (by omega)) h0
      unfold tE
      simp -implicitDefEqProofs only [↓oks, oks2, T.er, List.replicate, dEqS_ints, bol_b]
      by_cases b0 : b = 0
      · have d0 : decide ((b : Int) = 0) = true := decide_eq_true (by omega)
        have d1 : decide (b = 0) = true := decide_eq_true b0
        rw [d1, Bool.true_or] at z
        rw [if_pos d0, ← z]
        exact k _
      · have d0 : decide ((b : Int) = 0) = false := decide_eq_false (by omega)
        have d1 : decide (b = 0) = false := decide_eq_false b0
        have e1 : ((b : Int) - 1) = ((b - 1 : Nat) : Int) := by omega
        rw [d1, Bool.false_or] at z
        rw [if_neg (by rw [d0]; decide)]
        simp -implicitDefEqProofs only [↓oks, oks2, T.er, List.replicate, dSub_i, e1, nat_inT, dMod_nat hm, neB]
        rw [← z]
        exact k _
    · rintro t e rfl
      exact k e
theorem jtZ_ok {d : D} {N R : List Nat} {b m : Nat} {Q : Fl → Env → Prop} (hm : 0 < m) (hl : R.length ≤ 500000) (k : ∀ e, Q (.rt (.fz (.bool (coreB N b m R)))) e) : Ok jtZ (tE d N b m R none none none) Q := by
  unfold jtZ jt4 jt5 jt6 tE
  have dI : ∀ i : Int, dInt [.int i] = some (.int i) := fun i => rfl
  have dl0 : dLst [] = some (.ol []) := dLst0
  have dt0 : dTup [] = some (.tuple []) := dTup_le (by simp)
  have ln : dLen [.tuple (R.map natD)] = some (.int ((R.length : Nat) : Int)) := by rw [lenT, List.length_map]
  have a1 : (((R.length : Nat) : Int) + 1) = ((R.length + 1 : Nat) : Int) := by omega
  have r2 : dRng2 [.int 2, .int ((R.length + 1 : Nat) : Int)] = some (intsR ((2 : Nat) : Int) (R.length + 1 - 2)) := rng2_ok (b := 2) (by omega) (by omega)
  have g1 : decide ((1 : Int) < (m : Int)) = decide (1 < m) := decide_eq_decide.mpr (by omega)
  have em : (R.map natD).isEmpty = R.isEmpty := by cases R <;> rfl
  simp -implicitDefEqProofs only [↓oks, oks2, T.er, List.replicate, dt0, eq_tupE (nats_shpT _), dGt_i, g1, em, bol_b, ln, dAdd_i, a1, r2]
  cases h0 : R.isEmpty && decide (1 < m) with
  | true =>
    rw [Bool.and_eq_true] at h0
    have e : coreB N b m R = false := by simp [coreB, h0.1, h0.2]
    simp only [h0.1, h0.2, if_true]
    rw [← e]
    exact k _
  | false =>
    rw [if_and2 (A := _) (by rw [← Bool.and_eq_true, h0]; decide)]
    refine ok_forR (fun i e => (∀ k, 2 ≤ k → k < 2 + i → symB m R k = false) ∧ ∃ x y, e = tE d N b m R x y none) (fun t _ => t = .fz (.bool (coreB N b m R))) ?_ ?_ ?_ ?_
    · exact ⟨fun k k1 k2 => by omega, none, none, rfl⟩
    · rintro i d' e hd ⟨hi, x, y, rfl⟩
      obtain ⟨iq, rfl⟩ := intsR_get hd
      unfold tE
      rw [gN_at, oEl_some]
      have p2 : 0 < 2 + i := by omega
      have mu : dMul (.int ((m / (2 + i) : Nat) : Int)) (.int ((2 + i : Nat) : Int)) = some (.int ((m / (2 + i) * (2 + i) : Nat) : Int)) := by
        unfold dMul
        dsimp only
        rw [if_pos (.inl (.inr (by
          have : ((2 + i : Nat) : Int).natAbs = 2 + i := by omega
          rw [this]
          exact Nat.lt_trans (show 2 + i < 1000000 by omega) (by decide))))]
        congr 2
      simp -implicitDefEqProofs only [↓oks, oks2, T.er, List.replicate, dI, dDiv_nat p2 (by omega), mu, dEqS_ints, bol_b]
      have keep : symB m R (2 + i) = false → ∀ k, 2 ≤ k → k < 2 + (i + 1) → symB m R k = false := fun c k k1 k2 => by
        by_cases z : k = 2 + i
        · rw [z]; exact c
        · exact hi k k1 (by omega)
      have dm := Nat.div_add_mod m (2 + i)
      rw [Nat.mul_comm] at dm
      by_cases dv : m % (2 + i) = 0
      · have e1 : decide (((m / (2 + i) * (2 + i) : Nat) : Int) = (m : Int)) = true := decide_eq_true (by omega)
        rw [if_pos e1]
        simp only [seqD, oEl_some]
        refine ok_lcf natD (fun r => !decide ((r + m / (2 + i)) % m ∈ R)) (fun _ => .fz (.int 1)) (by omega) (fun r mr => ?_) ?_
        · have a2 : ((r : Int) + ((m / (2 + i) : Nat) : Int)) = ((r + m / (2 + i) : Nat) : Int) := by omega
          unfold LcT
          simp -implicitDefEqProofs only [↓oks, oks2, T.er, List.replicate, wipeE, gN_at, natD, dAdd_i, a2, dI, dMod_nat hm, nat_ninT, bol_b]
          by_cases z : (r + m / (2 + i)) % m ∈ R <;> simp [z]
        · have en : T.erL ((R.filter fun r => !decide ((r + m / (2 + i)) % m ∈ R)).map fun _ => T.fz (PyData.int 1)) = ((R.filter fun r => !decide ((r + m / (2 + i)) % m ∈ R)).map fun _ => (1 : Int)).map PyData.int := ones_eq _
          have es : (R.all fun r => decide ((r + m / (2 + i)) % m ∈ R)) = symB m R (2 + i) := by
            unfold symB
            rw [decide_eq_true dv, Bool.true_and]
          simp -implicitDefEqProofs only [↓oks, oks2, T.er, List.replicate, dl0, en, T.erL, ones_nil, filter_neg_nil, es, bol_b]
          cases c : symB m R (2 + i) with
          | true =>
            rw [if_pos rfl, symB_no (by omega) (by omega) c]
          | false =>
            rw [if_neg (by decide)]
            exact ⟨keep c, _, _, rfl⟩
      · have e1 : decide (((m / (2 + i) * (2 + i) : Nat) : Int) = (m : Int)) = false := decide_eq_false (by omega)
        have c : symB m R (2 + i) = false := by
          unfold symB
          rw [decide_eq_false dv, Bool.false_and]
        rw [if_neg (by rw [e1]; decide), if_neg (by decide)]
        exact ⟨keep c, _, _, rfl⟩
    · rintro e ⟨hi, x, y, rfl⟩
      rw [intsR_len] at hi
      have z := symB_loop (b := b) (N := N) (fun k k1 k2 => hi k k1 (by omega)) h0
      unfold tE
      simp -implicitDefEqProofs only [↓oks, oks2, T.er, List.replicate, dEqS_ints, bol_b]
      by_cases b0 : b = 0
      · have d0 : decide ((b : Int) = 0) = true := decide_eq_true (by omega)
        have d1 : decide (b = 0) = true := decide_eq_true b0
        rw [d1, Bool.true_or] at z
        rw [if_pos d0, ← z]
        exact k _
      · have d0 : decide ((b : Int) = 0) = false := decide_eq_false (by omega)
        have d1 : decide (b = 0) = false := decide_eq_false b0
        have e1 : ((b : Int) - 1) = ((b - 1 : Nat) : Int) := by omega
        rw [d1, Bool.false_or] at z
        rw [if_neg (by rw [d0]; decide)]
        simp -implicitDefEqProofs only [↓oks, oks2, T.er, List.replicate, dSub_i, e1, nat_inT, dI, dMod_nat hm, neB]
        rw [← z]
        exact k _
    · rintro t e rfl
      exact k e
end DL
namespace DL
open PySem L2 PyProof.Rows
/-! ### is_table of any value, both -/
def natsOf : D → List Nat
  | .tuple ds => ds.map natOf
  | _ => []
def fourB (n b m r : D) : Bool := isCntB b && (isCntB m && (!decide (natOf m = 0) && (upB (natOf b) n && (upB (natOf m) r && coreB (natsOf n) (natOf b) (natOf m) (natsOf r)))))
def tableB : D → Bool
  | .tuple [n, b, m, r] => fourB n b m r
  | _ => false
theorem upB_is {w : Nat} {d : D} (h : upB w d = true) : d = .tuple ((natsOf d).map natD) := by
  cases d with
  | tuple ds =>
    have h : (ds.all (cntLt w) && stepB (ds.map natOf)) = true := h
    rw [Bool.and_eq_true] at h
    show PyData.tuple ds = .tuple ((ds.map natOf).map natD)
    rw [← (all_cnt h.1).1]
  | _ => cases h
theorem cnt_is {d : D} (h : isCntB d = true) : d = .int ((natOf d : Nat) : Int) := by
  cases d with
  | int i =>
    have h : decide (0 ≤ i) = true := h
    have := of_decide_eq_true h
    show PyData.int i = PyData.int ((i.toNat : Nat) : Int)
    congr 1
    omega
  | _ => cases h
theorem len4 {ds : List D} (h : ds.length = 4) : ∃ a b c e, ds = [a, b, c, e] := by
  match ds, h with
  | [a, b, c, e], _ => exact ⟨a, b, c, e, rfl⟩
theorem ix4T (a b c e : D) : dIx (.tuple [a, b, c, e]) (.int 0) = some a ∧ dIx (.tuple [a, b, c, e]) (.int 1) = some b ∧ dIx (.tuple [a, b, c, e]) (.int 2) = some c ∧ dIx (.tuple [a, b, c, e]) (.int 3) = some e := ix4
theorem tableB_len {ds : List D} (h : ds.length ≠ 4) : tableB (.tuple ds) = false := by
  match ds, h with
  | [], _ => rfl
  | [_], _ => rfl
  | [_, _], _ => rfl
  | [_, _, _], _ => rfl
  | [_, _, _, _], h => exact absurd rfl h
  | _ :: _ :: _ :: _ :: _ :: _, _ => rfl
theorem tot4 {a b c e : D} (h : tot (.tuple [a, b, c, e]) ≤ 900000) : tot a ≤ 1000000 ∧ tot e ≤ 1000000 := by
  simp only [tot, totL] at h
  omega
theorem nats_len {w : Nat} {d : D} (h : tot d ≤ 1000000) (u : upB w d = true) : (natsOf d).length ≤ 500000 := by
  cases d with
  | tuple ds =>
    show (ds.map natOf).length ≤ 500000
    rw [List.length_map]
    have := totL_len ds
    simp only [tot] at h
    omega
  | _ => cases u
theorem unp4 (a b c e : D) (env : Env) : gT 4 (gCons' (gN 1) (gCons' (gN 2) (gCons' (gN 3) (gCons' (gN 4) gNil')))) (.fz (.tuple [a, b, c, e])) env = some ((((env.set 1 (some (.fz a))).set 2 (some (.fz b))).set 3 (some (.fz c))).set 4 (some (.fz e))) := rfl
theorem istable_any {d : D} (hl : tot d ≤ 900000) : Sok (sem_is_table [some (.fz d)]) fun t => t = .fz (.bool (tableB d)) := by
  unfold sem_is_table
  rw [it_eq, sok_sem]
  unfold it1
  simp -implicitDefEqProofs only [↓oks, oks2, T.er, List.replicate, isi_tupB, bol_b]
  cases d with
  | tuple ds =>
    by_cases h4 : ds.length = 4
    · obtain ⟨n, b, m, r, rfl⟩ := len4 h4
      obtain ⟨hn, hr⟩ := tot4 hl
      have ix := ix4T n b m r
      have n4 : dNe (.int (4 : Int)) (.int 4) = some (.bool false) := dNe_ints 4 4
      have l4 : dLen [.tuple [n, b, m, r]] = some (.int 4) := rfl
      simp -implicitDefEqProofs only [isTupB, Bool.not_true, Bool.false_eq_true, if_false, ↓oks, oks2, T.er, List.replicate, l4, n4, bol_b, ix.2.1, ix.2.2.1, sok_is iscount_any]
      show _
      unfold it2 it3
      cases cb : isCntB b with
      | false => simp [tableB, fourB, cb]
      | true =>
        cases cm : isCntB m with
        | false => simp [tableB, fourB, cb, cm]
        | true =>
          have eb := cnt_is cb
          have em := cnt_is cm
          have tb : tableB (.tuple [n, b, m, r]) = (!decide (natOf m = 0) && (upB (natOf b) n && (upB (natOf m) r && coreB (natsOf n) (natOf b) (natOf m) (natsOf r)))) := by simp [tableB, fourB, cb, cm]
          rw [tb]
          clear tb
          generalize natOf b = bn at eb ⊢
          generalize natOf m = mn at em ⊢
          subst eb em
          simp -implicitDefEqProofs only [Bool.not_true, Bool.false_eq_true, if_false, ↓oks, oks2, T.er, List.replicate, ix.1, ix.2.1, ix.2.2.1, ix.2.2.2, dEqS_ints, bol_b, sok_is (rising_any hn), sok_is (rising_any hr), unp4]
          by_cases m0 : mn = 0
          · subst m0
            simp
          · have d0 : decide ((mn : Int) = 0) = false := decide_eq_false (by omega)
            have d1 : decide (mn = 0) = false := decide_eq_false m0
            rw [d0, d1, if_neg (by decide)]
            cases u1 : upB bn n with
            | false => simp
            | true =>
              cases u2 : upB mn r with
              | false => simp
              | true =>
                have eN := upB_is u1
                have eR := upB_is u2
                have lR := nats_len hr u2
                simp only [Bool.not_true, Bool.false_eq_true, if_false, Bool.not_false, Bool.true_and]
                clear u1 u2 n4 l4 ix cb cm h4 hl hn hr
                generalize natsOf n = N at eN ⊢
                generalize natsOf r = R at eR lR ⊢
                subst eN eR
                exact itZ_ok (by omega) lR fun e => rfl
    · have ll : ((ds.length : Nat) : Int) ≠ 4 := fun z => h4 (by omega)
      have n4 : dNe (.int ((ds.length : Nat) : Int)) (.int 4) = some (.bool true) := by rw [dNe_ints, decide_eq_false ll]; rfl
      simp -implicitDefEqProofs only [isTupB, Bool.not_true, Bool.false_eq_true, if_false, ↓oks, oks2, T.er, List.replicate, lenT, n4, bol_b, if_true, tableB_len h4]
  | _ => simp [isTupB, tableB]
theorem listable_any {d : D} (hl : tot d ≤ 900000) : Sok (sem__law_is_table [some (.fz d)]) fun t => t = .fz (.bool (tableB d)) := by
  unfold sem__law_is_table
  rw [jt_eq, sok_sem]
  unfold jt1
  simp -implicitDefEqProofs only [↓oks, oks2, T.er, List.replicate, isi_tupB, bol_b]
  cases d with
  | tuple ds =>
    by_cases h4 : ds.length = 4
    · obtain ⟨n, b, m, r, rfl⟩ := len4 h4
      obtain ⟨hn, hr⟩ := tot4 hl
      have ix := ix4T n b m r
      have n4 : dNe (.int (4 : Int)) (.int 4) = some (.bool false) := dNe_ints 4 4
      have l4 : dLen [.tuple [n, b, m, r]] = some (.int 4) := rfl
      simp -implicitDefEqProofs only [isTupB, Bool.not_true, Bool.false_eq_true, if_false, ↓oks, oks2, T.er, List.replicate, l4, n4, bol_b, ix.2.1, ix.2.2.1, sok_is isint_any]
      show _
      unfold jt2 jt3
      cases b with
      | int bi =>
        cases m with
        | int mi =>
          simp -implicitDefEqProofs only [m3c, Bool.not_true, Bool.false_eq_true, if_false, ↓oks, oks2, T.er, List.replicate, unp4, dLt_i, bol_b]
          by_cases b0 : bi < 0
          · have cb : isCntB (.int bi) = false := decide_eq_false (by omega)
            simp [b0, tableB, fourB, cb]
          · by_cases m0 : mi < 1
            · have e : tableB (.tuple [n, .int bi, .int mi, r]) = false := by
                by_cases mz : mi = 0
                · subst mz
                  simp [tableB, fourB, natOf]
                · have cm : isCntB (.int mi) = false := decide_eq_false (by omega)
                  simp [tableB, fourB, cm]
              simp [b0, m0, e]
            · have cb : isCntB (.int bi) = true := decide_eq_true (by omega)
              have cm : isCntB (.int mi) = true := decide_eq_true (by omega)
              have eb := cnt_is cb
              have em := cnt_is cm
              have tb : tableB (.tuple [n, .int bi, .int mi, r]) = (!decide (natOf (.int mi) = 0) && (upB (natOf (.int bi)) n && (upB (natOf (.int mi)) r && coreB (natsOf n) (natOf (.int bi)) (natOf (.int mi)) (natsOf r)))) := by simp [tableB, fourB, cb, cm]
              rw [tb]
              clear tb
              generalize natOf (.int bi) = bn at eb ⊢
              generalize natOf (.int mi) = mn at em ⊢
              injection eb with eb
              injection em with em
              subst eb em
              have g0 : decide ((bn : Int) < 0) = false := decide_eq_false b0
              have g1 : decide ((mn : Int) < 1) = false := decide_eq_false m0
              have d1 : decide (mn = 0) = false := decide_eq_false (by omega)
              simp -implicitDefEqProofs only [g0, g1, d1, Bool.false_eq_true, if_false, ↓oks, oks2, T.er, List.replicate, dLt_i, bol_b, sok_is (areup_any hn), sok_is (areup_any hr)]
              cases u1 : upB bn n with
              | false => simp
              | true =>
                cases u2 : upB mn r with
                | false => simp
                | true =>
                  have eN := upB_is u1
                  have eR := upB_is u2
                  have lR := nats_len hr u2
                  simp only [Bool.not_true, Bool.false_eq_true, if_false, Bool.not_false, Bool.true_and]
                  clear u1 u2 n4 l4 ix cb cm h4 hl hn hr
                  generalize natsOf n = N at eN ⊢
                  generalize natsOf r = R at eR lR ⊢
                  subst eN eR
                  exact jtZ_ok (by omega) lR fun e => rfl
        | _ => simp [m3c, tableB, fourB, isCntB]
      | _ => simp [m3c, tableB, fourB, isCntB]
    · have ll : ((ds.length : Nat) : Int) ≠ 4 := fun z => h4 (by omega)
      have n4 : dNe (.int ((ds.length : Nat) : Int)) (.int 4) = some (.bool true) := by rw [dNe_ints, decide_eq_false ll]; rfl
      simp -implicitDefEqProofs only [isTupB, Bool.not_true, Bool.false_eq_true, if_false, ↓oks, oks2, T.er, List.replicate, lenT, n4, bol_b, if_true, tableB_len h4]
  | _ => simp [isTupB, tableB]
end DL
namespace DL
open PySem L2 PyProof.Rows
noncomputable def lw1 : M Fl := mSet 1 (mCall sem__law_bag (mCons (mVarF 0) (mNil)))
noncomputable def lt1 : M Fl := mAsg (mLT tTupO (mConsT ((((mHas 1).bind fun _ => mCallB sem__law_drawn_table 1 (mNil)).map T.er).map T.fz) (mConsT ((((mHas 1).bind fun _ => mCallB sem__law_drawn_table 1 (mNil)).map T.er).map T.fz) (mConsT ((((mHas 1).bind fun _ => mCallB sem__law_some 1 (mCons ((mL dLst (mCons (mC (.int 1)) (mCons (mC (.int 0)) (mCons (mC (.int 7)) (mCons (mC (.int 40)) (mNil)))))).map T.er) (mNil))).map T.er).map T.fz) (mNilT))))) (gT 3 (gCons' (gN 3) (gCons' (gN 4) (gCons' (gN 5) (gNil')))))
noncomputable def lt2 : M Fl := mSet 6 ((mL dRepr (mCons ((mL dLst (mCons (mVarF 3) (mCons (mVarF 4) (mNil)))).map T.er) (mNil))).map T.fz)
noncomputable def lt3 : M Fl := mSet 7 (((mCall sem__law_shown (mCons (mVarF 3) (mCons (mC (.int 2000)) (mNil)))).map T.er).map T.fz)
noncomputable def lt4 : M Fl := mSet 8 (((mCall sem__law_table (mCons ((mLT tDictP (mConsT (mNoX ((mKs (sVar 7)).bind (mLc [16] (gN 16) ((m2 dLe (m2 dAdd (mVarF 16) (mVarF 5)) (mC (.int 2000))).bind tru) ((mL dTup (mCons (m2 dAdd (mVarF 16) (mVarF 5)) (mCons (mC (.bool true)) (mNil)))).map T.fz)))) (mNilT))).map T.er) (mCons (mC (.int 2000)) (mNil)))).map T.er).map T.fz)
noncomputable def lt5 : M Fl := mIfS (tNotM (((mCall sem__law_alike (mCons ((mCall sem_moved (mCons (mVarF 3) (mCons (mVarF 5) (mNil)))).map T.er) (mCons (mVarF 8) (mNil)))).map T.er).bind tru)) (mRt ((mC (.bool false)).map T.fz)) (mNx)
noncomputable def lt6 : M Fl := mSet 9 (((mCall sem__law_table (mCons ((mLT tDictP (mConsT (mNoX ((mKs (sVar 7)).bind (mLc [16] (gN 16) (((mCall sem__law_has (mCons (mVarF 4) (mCons (mVarF 16) (mNil)))).map T.er).bind tru) ((mL dTup (mCons (mVarF 16) (mCons (mC (.bool true)) (mNil)))).map T.fz)))) (mNilT))).map T.er) (mCons (mC (.int 2000)) (mNil)))).map T.er).map T.fz)
noncomputable def lt7 : M Fl := mIfS (tNotM (((mCall sem__law_alike (mCons ((mL dLst (mCons ((mCall sem_in_both (mCons (mVarF 3) (mCons (mVarF 4) (mNil)))).map T.er) (mCons ((mCall sem_in_both (mCons (mVarF 4) (mCons (mVarF 3) (mNil)))).map T.er) (mNil)))).map T.er) (mCons ((mL dLst (mCons (mVarF 9) (mCons (mVarF 9) (mNil)))).map T.er) (mNil)))).map T.er).bind tru)) (mRt ((mC (.bool false)).map T.fz)) (mNx)
noncomputable def lnb : M Fl := mSeq (mIfS (tNotM (((mCall sem__law_alike (mCons ((mCall sem_has (mCons (mVarF 3) (mCons (mVarF 10) (mNil)))).map T.er) (mCons ((mCall sem__law_has (mCons (mVarF 3) (mCons (mVarF 10) (mNil)))).map T.er) (mNil)))).map T.er).bind tru)) (mRt ((mC (.bool false)).map T.fz)) (mNx)) (mSeq (mSet 14 ((mIL dRng2A (mCons (mL dMax2 (mCons (mC (.int 0)) (mCons (mVarF 10) (mNil)))) (mCons (m2 dAdd (m2 dAdd (m2 dAdd (mL dMax2 (mCons (mC (.int 0)) (mCons (mVarF 10) (mNil)))) (m2 dIx (mVarF 3) (mC (.int 1)))) (m2 dIx (mVarF 3) (mC (.int 2)))) (mC (.int 1))) (mNil)))).bind (mLc [16] (gN 16) (tAndM ((m2 dLt (mVarF 10) (mC (.int 500))).bind tru) (((mCall sem__law_has (mCons (mVarF 3) (mCons (mVarF 16) (mNil)))).map T.er).bind tru)) ((mVarF 16).map T.fz)))) (mIfS (tAndM ((m2 dLt (mVarF 10) (mC (.int 500))).bind tru) (tNotM (((mCall sem__law_alike (mCons ((mCall sem_next_in (mCons (mVarF 3) (mCons (mVarF 10) (mNil)))).map T.er) (mCons (mIf ((m2 dNe (mVar 14) ((mL dLst (mNil)).map T.er)).bind tru) (mL dMinL (mCons (mVar 14) (mNil))) (mC .none)) (mNil)))).map T.er).bind tru))) (mRt ((mC (.bool false)).map T.fz)) (mNx)))
noncomputable def lt8 : M Fl := (mI seqD (mL dTup (mCons (m1 dNeg (mC (.int 5))) (mCons (m1 dNeg (mC (.int 1))) (mCons (mC (.int 0)) (mCons (mC (.int 3)) (mCons (((mHas 1).bind fun _ => mCallB sem__law_take 1 (mCons (mC (.int 60)) (mNil))).map T.er) (mCons (m2 dPow (mC (.int 10)) (mC (.int 39))) (mCons (m2 dIx (mVarF 3) (mC (.int 1))) (mNil)))))))))).bind fun ds => mFor (gN 10) lnb ds
noncomputable def lt9 : M Fl := mSet 11 ((mIL dRng1 (mCons (mC (.int 4)) (mNil))).bind (mLcI [15] (gN 15) (M.pure true) ((((mHas 1).bind fun _ => mCallB (sem__law_bent 4) 1 (mCons (mVarF 3) (mCons (mC (.int 3)) (mNil)))).map T.er).map T.fz)))
noncomputable def lt10 : M Fl := mSet 12 (mL dLst (mCons (mL dTup (mCons (m2 dIx (mVarF 3) (mC (.int 0))) (mCons (m2 dIx (mVarF 3) (mC (.int 1))) (mCons (m2 dMul (m2 dIx (mVarF 3) (mC (.int 2))) (mC (.int 2))) (mCons (mL dTuple (mCons ((mL dSortTup (mCons (m2 dAdd (m2 dIx (mVarF 3) (mC (.int 3))) (mL dTuple (mCons (((mI seqD (m2 dIx (mVarF 3) (mC (.int 3)))).bind (mLc [17] (gN 17) (M.pure true) ((m2 dAdd (mVarF 17) (m2 dIx (mVarF 3) (mC (.int 2)))).map T.fz))).map T.er) (mNil)))) (mNil))).map T.er) (mNil))) (mNil)))))) (mCons (m2 dAdd (mSlV (mVarF 3) (M.pure none) (mBd (mC (.int 3)))) (mL dTup (mCons (mSlV (m2 dIx (mVarF 3) (mC (.int 3))) (mBd (mC (.int 1))) (M.pure none)) (mNil)))) (mNil))))
noncomputable def lt11 : M Fl := mDrop (mMeth "list" 12 gExtA (mConsT (((mL dLst (mCons (mL dTup (mCons (m2 dAdd (m2 dIx (mVarF 3) (mC (.int 0))) (mL dTup (mCons (m2 dIx (mVarF 3) (mC (.int 1))) (mNil)))) (mCons (m2 dAdd (m2 dIx (mVarF 3) (mC (.int 1))) (mC (.int 1))) (mCons (m2 dIx (mVarF 3) (mC (.int 2))) (mCons (m2 dIx (mVarF 3) (mC (.int 3))) (mNil)))))) (mCons ((mL dList (mCons (mVarF 3) (mNil))).map T.er) (mCons (mSlV (mVarF 3) (M.pure none) (mBd (mC (.int 3)))) (mCons (mL dTup (mCons (m2 dIx (mVarF 3) (mC (.int 0))) (mCons (m2 dAdd (m2 dIx (mVarF 3) (mC (.int 1))) (mC (.int 1))) (mCons (m2 dIx (mVarF 3) (mC (.int 2))) (mCons (m2 dIx (mVarF 3) (mC (.int 3))) (mNil)))))) (mNil)))))).map T.er).map T.fz) (mNilT)))
noncomputable def lit : M Fl := mIfS (tNotM (((mCall sem__law_alike (mCons ((mCall sem_is_table (mCons (mVarF 13) (mNil))).map T.er) (mCons ((mCall sem__law_is_table (mCons (mVarF 13) (mNil))).map T.er) (mNil)))).map T.er).bind tru)) (mRt ((mC (.bool false)).map T.fz)) (mNx)
noncomputable def lt12 : M Fl := (mI seqD ((m2 dCatL ((mCatE (((mCatE (((mL dLst (mCons (mVarF 3) (mCons (mVarF 4) (mNil)))).map T.er).bind fun d => M.lift (listD d)) (mItems 11)).map T.er).bind fun d => M.lift (listD d)) (mItems 12)).map T.er) ((mL dLst (mCons (((mHas 1).bind fun _ => mCallB sem__law_odd 1 (mNil)).map T.er) (mNil))).map T.er)).map T.er)).bind fun ds => mFor (gN 13) lit ds
noncomputable def lt13 : M Fl := mIfS ((m2 dNeS (mL dRepr (mCons ((mL dLst (mCons (mVarF 3) (mCons (mVarF 4) (mNil)))).map T.er) (mNil))) (mVarF 6)).bind tru) (mRt ((mC (.bool false)).map T.fz)) (mNx)
noncomputable def lw2 : M Fl := (mIL dRng1 (mCons (mC (.int 4)) (mNil))).bind fun ds => mFor (gN 2) (mSeq lt1 (mSeq lt2 (mSeq lt3 (mSeq lt4 (mSeq lt5 (mSeq lt6 (mSeq lt7 (mSeq lt8 (mSeq lt9 (mSeq lt10 (mSeq lt11 (mSeq lt12 (lt13))))))))))))) ds
noncomputable def lw3 : M Fl := mRt ((mC (.bool true)).map T.fz)
theorem lw_eq : m_law = mSeq lw1 (mSeq lw2 (lw3)) := rfl
theorem tab_sz {S : Nat → Bool} {b m : Nat} (hb : b ≤ 300) (hm : m ≤ 500) : Sz (tabD S b m) 20023 2 := by
  have nz : ∀ ns : List Nat, (∀ n ∈ ns, n < 1000) → ns.length ≤ 500 → Sz (.tuple (ns.map natD)) 5003 1 := fun ns h l => sz_tuple (n := 8) (k := 0) (m := 500) (fun d md => by
    obtain ⟨n, mn, rfl⟩ := List.mem_map.mp md
    have := h n mn
    exact sz_int (by omega)) (by rw [List.length_map]; exact l)
  refine sz_tuple (n := 5003) (k := 1) (m := 4) (fun d md => ?_) (by simp)
  simp only [List.mem_cons, List.not_mem_nil, or_false] at md
  rcases md with rfl | rfl | rfl | rfl
  · exact nz _ (fun n mn => by have := (mem_nums.mp mn).1; omega) (Nat.le_trans (nums_len _ _) (by omega))
  · exact (sz_int (by omega)).le (by decide) (by decide)
  · exact (sz_int (by omega)).le (by decide) (by decide)
  · exact nz _ (fun n mn => by have := List.mem_range.mp (List.mem_filter.mp mn).1; omega) (Nat.le_trans (rests_len _ _ _) (by omega))
theorem tab_nst {S : Nat → Bool} {b m : Nat} (hb : b ≤ 300) (hm : m ≤ 500) : Nst (tabD S b m) := by
  have ni : ∀ n : Nat, n < 1000 → Nst (natD n) := fun n h => .int (Nat.lt_trans (show ((n : Int)).natAbs < 1000 by omega) (by decide))
  have nz : ∀ ns : List Nat, (∀ n ∈ ns, n < 1000) → ns.length ≤ 500 → Nst (.tuple (ns.map natD)) := fun ns h l => .tup (fun d md => by
    obtain ⟨n, mn, rfl⟩ := List.mem_map.mp md
    exact ni n (h n mn)) (by rw [List.length_map]; omega)
  refine .tup (fun d md => ?_) (by simp)
  simp only [List.mem_cons, List.not_mem_nil, or_false] at md
  rcases md with rfl | rfl | rfl | rfl
  · exact nz _ (fun n mn => by have := (mem_nums.mp mn).1; omega) (Nat.le_trans (nums_len _ _) (by omega))
  · exact ni b (by omega)
  · exact ni m (by omega)
  · exact nz _ (fun n mn => by have := List.mem_range.mp (List.mem_filter.mp mn).1; omega) (Nat.le_trans (rests_len _ _ _) (by omega))
/-- one of the drawn tables -/
structure Drt (S : Nat → Bool) (b m : Nat) : Prop where
  tb : Tb S b m
  ex : ∃ c M, M ∈ MODS ∧ c ≤ 90 ∧ Per S c M ∧ b ≤ c ∧ m ∣ M
theorem Drt.le {S : Nat → Bool} {b m : Nat} (h : Drt S b m) : b ≤ 90 ∧ m ≤ 35 ∧ 0 < m := by
  obtain ⟨c, M, mM, c1, p, bc, d⟩ := h.ex
  have := mods_ok M mM
  have := Nat.le_of_dvd this.1 d
  exact ⟨by omega, by omega, h.tb.pos⟩
noncomputable abbrev lE (d0 : D) (t : T) (x2 : Option T) (S : Nat → Bool) (b m : Nat) (R : Nat → Bool) (c p : Nat) (y : Nat) (x6 x7 x8 x9 x10 x11 x12 x13 x14 x15 x16 x17 : Option T) : Env :=
  [some (.fz d0), some t, x2, some (.fz (tabD S b m)), some (.fz (tabD R c p)), some (.fz (natD y)), x6, x7, x8, x9, x10, x11, x12, x13, x14, x15, x16, x17]
section
variable {d0 : D} {t : T} {x2 x6 x7 x8 x9 x10 x11 x12 x13 x14 x15 x16 x17 : Option T} {S R : Nat → Bool} {b m c p y : Nat} {Q : Fl → Env → Prop}
theorem dicN_eq (ns : List Nat) : dicN ns = .dict (ns.map fun n => (natD n, .bool true)) := rfl
theorem keys_dicN (ns : List Nat) : ((ns.map fun n => (natD n, PyData.bool true)).map fun q : D × D => q.1) = ns.map natD := by
  rw [List.map_map]
  rfl
theorem shift_nums {S : Nat → Bool} {y most : Nat} : (((numsN S (most + 1)).filter fun n => decide (n + y ≤ most)).map fun n => n + y) = numsN (shiftB S y) (most + 1) := by
  refine Asc.uniq (asc_lt (List.pairwise_map.mpr (((List.pairwise_lt_range.sublist List.filter_sublist).sublist List.filter_sublist).imp fun h => by omega))) (asc_nums _ _) fun k => ?_
  rw [mem_nums, List.mem_map]
  constructor
  · rintro ⟨n, mn, rfl⟩
    obtain ⟨m1, m2⟩ := List.mem_filter.mp mn
    have := of_decide_eq_true m2
    exact ⟨by omega, by simp [shiftB, (mem_nums.mp m1).2]⟩
  · rintro ⟨k1, k2⟩
    unfold shiftB at k2
    rw [Bool.and_eq_true, decide_eq_true_eq] at k2
    exact ⟨k - y, List.mem_filter.mpr ⟨mem_nums.mpr ⟨by omega, k2.2⟩, decide_eq_true (by omega)⟩, by omega⟩
theorem and_nums {S R : Nat → Bool} {b : Nat} : (numsN S b).filter R = numsN (fun n => S n && R n) b := by
  unfold numsN
  rw [List.filter_filter]
  exact List.filter_congr fun a _ => Bool.and_comm _ _
theorem lt3_ok (h : Drt S b m) (q : Q .nx (lE d0 t x2 S b m R c p y x6 (some (.fz (dicN (numsN S 2001)))) x8 x9 x10 x11 x12 x13 x14 x15 x16 x17)) : Ok lt3 (lE d0 t x2 S b m R c p y x6 x7 x8 x9 x10 x11 x12 x13 x14 x15 x16 x17) Q := by
  have z : Sok (sem__law_shown [some (.fz (tabD S b m)), some (.fz (.int 2000))]) fun t => t = .od ((numsN S (2000 + 1)).map fun n => (natD n, T.fz (.bool true))) := shown_okT (most := 2000) h.tb.per h.tb.pos (by omega)
  have er := er_dicN (numsN S 2001)
  unfold lt3 lE
  simp -implicitDefEqProofs only [↓oks, oks2, T.er, List.replicate, sok_is z]
  rw [T.er] at er
  rw [er]
  exact q
theorem lt4_ok {b' : Nat} (h : Drt S b m) (hy : y ≤ 40) (T1 : Tb (shiftB S y) b' m) (q : Q .nx (lE d0 t x2 S b m R c p y x6 (some (.fz (dicN (numsN S 2001)))) (some (.fz (tabD (shiftB S y) b' m))) x9 x10 x11 x12 x13 x14 x15 x16 x17)) :
    Ok lt4 (lE d0 t x2 S b m R c p y x6 (some (.fz (dicN (numsN S 2001)))) x8 x9 x10 x11 x12 x13 x14 x15 x16 x17) Q := by
  obtain ⟨cc, M, mM, c1, pr, bc, d⟩ := h.ex
  obtain ⟨M0, M1⟩ := mods_ok M mM
  have e2 : ∀ a b : D, dTup [a, b] = some (.tuple [a, b]) := fun a b => dTup_le (by simp)
  have lt := ltable_ok (half := 1000) (most := 2000) T1 (per_shift (y := y) pr) M0 rfl (by omega) (by omega) (by omega) (by omega)
  have lt' : Sok (sem__law_table [some (.fz (dicN (numsN (shiftB S y) 2001))), some (.fz (.int 2000))]) fun t => t = .fz (tabD (shiftB S y) b' m) := lt
  unfold lt4 lE
  simp -implicitDefEqProofs only [↓oks, oks2, T.er, List.replicate, dicN_eq, keys_dicN]
  refine ok_lcf natD (fun n => decide (n + y ≤ 2000)) (fun n => .fz (prN (n + y))) (Nat.le_trans (nums_len S _) (by omega)) (fun n mn => ?_) ?_
  · have a1 : ((n : Int) + (y : Int)) = ((n + y : Nat) : Int) := by omega
    have g1 : decide (((n + y : Nat) : Int) ≤ 2000) = decide (n + y ≤ 2000) := decide_eq_decide.mpr (by omega)
    unfold LcT
    simp -implicitDefEqProofs only [↓oks, oks2, T.er, List.replicate, wipeE, gN_at, natD, dAdd_i, a1, dLe_i, g1, bol_b, e2]
    cases decide (n + y ≤ 2000) <;> simp [prN, natD]
  · have e : ((numsN S 2001).filter fun n => decide (n + y ≤ 2000)).map (fun n => T.fz (prN (n + y))) = ((numsN (shiftB S y) 2001).map prN).map T.fz := by
      rw [← shift_nums (most := 2000), List.map_map, List.map_map]
      rfl
    have er := er_dicN (numsN (shiftB S y) 2001)
    rw [T.er] at er
    rw [e]
    simp -implicitDefEqProofs only [↓oks, oks2, T.er, List.replicate, dictN (asc_nums (shiftB S y) 2001).nd, er, sok_is lt']
    exact q
theorem lt6_ok {b' m' : Nat} (h : Drt S b m) (h2 : Drt R c p) (T1 : Tb (fun n => S n && R n) b' m') (q : Q .nx (lE d0 t x2 S b m R c p y x6 (some (.fz (dicN (numsN S 2001)))) x8 (some (.fz (tabD (fun n => S n && R n) b' m'))) x10 x11 x12 x13 x14 x15 x16 x17)) :
    Ok lt6 (lE d0 t x2 S b m R c p y x6 (some (.fz (dicN (numsN S 2001)))) x8 x9 x10 x11 x12 x13 x14 x15 x16 x17) Q := by
  obtain ⟨cc, M, mM, c1, pr, bc, d⟩ := h.ex
  obtain ⟨cc2, M2, mM2, c2, pr2, bc2, d2⟩ := h2.ex
  obtain ⟨M0, M1⟩ := mods_ok M mM
  have lcm : Nat.lcm M M2 ≤ 420 := (by decide : ∀ a ∈ MODS, ∀ b ∈ MODS, Nat.lcm a b ≤ 420) M mM M2 mM2
  have lp : 0 < Nat.lcm M M2 := Nat.lcm_pos M0 (mods_ok M2 mM2).1
  have pp := per_and pr pr2 (Nat.dvd_lcm_left M M2) (Nat.dvd_lcm_right M M2)
  have e2 : ∀ a b : D, dTup [a, b] = some (.tuple [a, b]) := fun a b => dTup_le (by simp)
  have lt := ltable_ok (half := 1000) (most := 2000) T1 pp lp rfl (by omega) (by omega) (by omega) (by omega)
  have lt' : Sok (sem__law_table [some (.fz (dicN (numsN (fun n => S n && R n) 2001))), some (.fz (.int 2000))]) fun t => t = .fz (tabD (fun n => S n && R n) b' m') := lt
  unfold lt6 lE
  simp -implicitDefEqProofs only [↓oks, oks2, T.er, List.replicate, dicN_eq, keys_dicN]
  refine ok_lcf natD R (fun n => .fz (prN n)) (Nat.le_trans (nums_len S _) (by omega)) (fun n mn => ?_) ?_
  · have z := lhas_ok h2.tb.per h2.tb.pos (n : Int)
    unfold LcT
    simp -implicitDefEqProofs only [↓oks, oks2, T.er, List.replicate, wipeE, gN_at, natD, sok_is z, szB_nat, bol_b, e2]
    cases R n <;> simp [prN, natD]
  · have e : ((numsN S 2001).filter R).map (fun n => T.fz (prN n)) = ((numsN (fun n => S n && R n) 2001).map prN).map T.fz := by
      rw [and_nums, List.map_map]
      rfl
    have er := er_dicN (numsN (fun n => S n && R n) 2001)
    rw [T.er] at er
    rw [e]
    simp -implicitDefEqProofs only [↓oks, oks2, T.er, List.replicate, dictN (asc_nums (fun n => S n && R n) 2001).nd, er, sok_is lt']
    exact q
theorem lt5_ok {b' : Nat} (h : Drt S b m) (hy : y ≤ 40) (T1 : Tb (shiftB S y) b' m) (q : Q .nx (lE d0 t x2 S b m R c p y x6 x7 (some (.fz (tabD (shiftB S y) b' m))) x9 x10 x11 x12 x13 x14 x15 x16 x17)) :
    Ok lt5 (lE d0 t x2 S b m R c p y x6 x7 (some (.fz (tabD (shiftB S y) b' m))) x9 x10 x11 x12 x13 x14 x15 x16 x17) Q := by
  have l := h.le
  have bl : b' ≤ b + y := T1.ge (per_shift h.tb.per)
  have z := moved_ok h.tb T1 (by omega) (by omega)
  unfold lt5 lE
  simp -implicitDefEqProofs only [↓oks, oks2, T.er, List.replicate, sok_is z]
  refine alike_S ((tab_sz (by omega) (by omega)).small (by decide) (by decide)) ?_
  simp -implicitDefEqProofs only [↓oks, oks2, T.er, List.replicate, Bool.not_true, Bool.false_eq_true, if_false]
  exact q
theorem lt7_ok {b' m' : Nat} (h : Drt S b m) (h2 : Drt R c p) (T1 : Tb (fun n => S n && R n) b' m') (q : Q .nx (lE d0 t x2 S b m R c p y x6 x7 x8 (some (.fz (tabD (fun n => S n && R n) b' m'))) x10 x11 x12 x13 x14 x15 x16 x17)) :
    Ok lt7 (lE d0 t x2 S b m R c p y x6 x7 x8 (some (.fz (tabD (fun n => S n && R n) b' m'))) x10 x11 x12 x13 x14 x15 x16 x17) Q := by
  have l := h.le
  have l2 := h2.le
  have z1 := both_ok h.tb h2.tb T1 (by omega) (by omega) (by omega) (by omega)
  have sw : (fun n => R n && S n) = fun n => S n && R n := funext fun n => Bool.and_comm _ _
  have z2 := both_ok h2.tb h.tb (sw ▸ T1) (by omega) (by omega) (by omega) (by omega)
  have z3 : Sok (sem_in_both [some (.fz (tabD R c p)), some (.fz (tabD S b m))]) fun t => t = .fz (tabD (fun n => S n && R n) b' m') := by
    rw [← sw]
    exact z2
  obtain ⟨cc, M, mM, c1, pr, bc, d⟩ := h.ex
  obtain ⟨cc2, M2, mM2, c2, pr2, bc2, d2⟩ := h2.ex
  have lcm : Nat.lcm M M2 ≤ 420 := (by decide : ∀ a ∈ MODS, ∀ b ∈ MODS, Nat.lcm a b ≤ 420) M mM M2 mM2
  have lp : 0 < Nat.lcm M M2 := Nat.lcm_pos (mods_ok M mM).1 (mods_ok M2 mM2).1
  have pp := per_and pr pr2 (Nat.dvd_lcm_left M M2) (Nat.dvd_lcm_right M M2)
  have ml : m' ≤ 420 := Nat.le_trans (T1.mn _ _ lp pp) lcm
  have bl : b' ≤ 90 := Nat.le_trans (T1.ge (T1.per.back pp lp |> fun z => z)) (by omega)
  have l0 : dLst [tabD (fun n => S n && R n) b' m', tabD (fun n => S n && R n) b' m'] = some (.ol ([tabD (fun n => S n && R n) b' m', tabD (fun n => S n && R n) b' m'].map T.fz)) := dLst_le (by simp)
  have sm : Small (.list [tabD (fun n => S n && R n) b' m', tabD (fun n => S n && R n) b' m']) := (sz_list (m := 2) (fun d md => by
    simp only [List.mem_cons, List.not_mem_nil, or_false] at md
    rcases md with rfl | rfl <;> exact tab_sz (by omega) (by omega)) (by simp)).small (by decide) (by decide)
  unfold lt7 lE
  simp -implicitDefEqProofs only [↓oks, oks2, T.er, List.replicate, sok_is z1, sok_is z3, l0, er_fz]
  refine alike_S sm ?_
  simp -implicitDefEqProofs only [↓oks, oks2, T.er, List.replicate, Bool.not_true, Bool.false_eq_true, if_false]
  exact q
/-! ### has and next_in -/
theorem ne_nilL (ds : List D) : dNe (.list ds) (.list []) = some (.bool (!ds.isEmpty)) := by
  unfold dNe
  split
  · cases ds <;> simp [PyData.eqv, PyData.eqvAll]
  · rfl
theorem minI_head : ∀ (r : List Int) (a : Int), (∀ c ∈ r, a ≤ c) → minI (a :: r) = a
  | [], a, _ => rfl
  | c :: r, a, h => by
    have key : ∀ (r : List Int) (c : Int), (∀ x ∈ c :: r, a ≤ x) → a ≤ minI (c :: r) := by
      intro r
      induction r with
      | nil => intro c h; exact h c List.mem_cons_self
      | cons x r ih =>
        intro c h
        unfold minI
        split
        · exact ih x fun y m => h y (List.mem_cons_of_mem _ m)
        · exact h c List.mem_cons_self
    have := key r c h
    unfold minI
    rw [if_neg (by omega)]
theorem intsOf_nat : ∀ ns : List Nat, intsOf (ns.map natD) = some (ns.map fun (n : Nat) => (n : Int))
  | [] => rfl
  | n :: r => by
    show Option.map (fun x => (n : Int) :: x) (intsOf (r.map natD)) = _
    rw [intsOf_nat r]
    rfl
theorem sok_sw {r : Rs T} {P : D → Prop} (h : Sok r fun t => ∃ d, t = T.fz d ∧ P d) : ∃ d, P d ∧ Sok r fun t => t = .fz d := by
  unfold Sok at h ⊢
  cases r with
  | bad => exact h.elim
  | exn x e => exact h.elim
  | ok t e =>
    obtain ⟨d, e1, e2⟩ := h
    exact ⟨d, e2, e1⟩
theorem min_nat {a : Nat} {r : List Nat} (h : ∀ c ∈ r, a < c) : dMinL [.list ((a :: r).map natD)] = some (natD a) := by
  show (intsOf ((a :: r).map natD)).bind (fun ns => if ns = [] then none else some (PyData.int (minI ns))) = _
  rw [intsOf_nat]
  show (if ((a :: r).map fun (n : Nat) => (n : Int)) = [] then none else some (PyData.int (minI ((a :: r).map fun (n : Nat) => (n : Int))))) = _
  rw [if_neg (by simp), List.map_cons, minI_head _ _ fun c m => by
    obtain ⟨k, mk, rfl⟩ := List.mem_map.mp m
    have := h k mk
    omega]
  rfl
theorem num_small {i : Int} (h : i.natAbs < 10 ^ 50) : Small (.int i) := (sz_big (Nat.lt_trans h (by decide))).small (by decide) (by decide)
theorem bool_small (x : Bool) : Small (.bool x) := ⟨trivial, by show tot (.bool _) ≤ _; simp [tot], by show PyData.depth (.bool _) ≤ _; simp [PyData.depth]⟩
theorem lnb_ok {i : Int} (h : Drt S b m) (hi : i = 10 ^ 39 ∨ (i ≤ 200 ∧ -10 ≤ i)) (q : ∀ x14, Q .nx (lE d0 t x2 S b m R c p y x6 x7 x8 x9 (some (.fz (.int i))) x11 x12 x13 x14 x15 x16 x17)) :
    Ok lnb (lE d0 t x2 S b m R c p y x6 x7 x8 x9 (some (.fz (.int i))) x11 x12 x13 x14 x15 x16 x17) Q := by
  have l := h.le
  have z1 := has_ok h.tb.per h.tb.pos i
  have z2 := lhas_ok h.tb.per h.tb.pos i
  have ti := tab_ix S b m
  have mx : dMax2 [.int (0 : Int), .int i] = some (.int ((i.toNat : Nat) : Int)) := by
    have := dMax2_any 0 i
    rw [Nat.zero_max] at this
    exact this
  have rr : dRng2A [.int ((i.toNat : Nat) : Int), .int (((i.toNat : Nat) : Int) + (b : Int) + (m : Int) + 1)] = some (((List.range (b + m + 1)).map fun k => i.toNat + k).map natD) := by
    show some (intsR _ _) = _
    rw [show (((i.toNat : Nat) : Int) + (b : Int) + (m : Int) + 1 - ((i.toNat : Nat) : Int)).toNat = b + m + 1 by omega, intsR_nat]
  unfold lnb lE
  simp -implicitDefEqProofs only [↓oks, oks2, T.er, List.replicate, sok_is z1, sok_is z2]
  refine alike_S (bool_small _) ?_
  simp -implicitDefEqProofs only [↓oks, oks2, T.er, List.replicate, Bool.not_true, Bool.false_eq_true, if_false, mx, ti.2.1, ti.2.2.1, dAdd_i, rr]
  refine ok_lcf natD (fun n => decide (i < 500) && S n) (fun n => .fz (natD n)) (by simpa using (by omega : b + m + 1 ≤ 1000000)) (fun n mn => ?_) ?_
  · have z := lhas_ok h.tb.per h.tb.pos (n : Int)
    unfold LcT
    simp -implicitDefEqProofs only [↓oks, oks2, T.er, List.replicate, wipeE, gN_at, natD, dLt_i, bol_b, sok_is z, szB_nat]
    cases decide (i < 500) <;> cases S n <;> simp
  · simp -implicitDefEqProofs only [↓oks, oks2, T.er, List.replicate, dLt_i, bol_b]
    by_cases i5 : i < 500
    · have d5 : decide (i < 500) = true := decide_eq_true i5
      have nx := next_ok h.tb.per h.tb.pos (by omega) (by omega) (i := i) (by omega)
      obtain ⟨d, nx1, nx2⟩ := sok_sw nx
      simp -implicitDefEqProofs only [d5, if_true, sok_is nx2, Bool.true_and, ↓oks, oks2, T.er, List.replicate]
      have dl0 : dLst [] = some (.ol []) := dLst0
      have near : ∀ j, i.toNat ≤ j → S j = true → (∃ k, i.toNat ≤ k ∧ k < max b i.toNat + m ∧ S k = true) ∧ ∃ k, i.toNat ≤ k ∧ k < i.toNat + (b + m + 1) ∧ S k = true := fun j h1 h2 => by
        obtain ⟨k, k1, k2, k3⟩ := next_near h.tb.per h.tb.pos h1 h2
        exact ⟨⟨k, k1, k2, k3⟩, k, k1, by omega, k3⟩
      have asc : (((List.range (b + m + 1)).map fun k => i.toNat + k).filter S).Pairwise (· < ·) := (List.pairwise_map.mpr (List.pairwise_lt_range.imp fun h => by omega)).sublist List.filter_sublist
      have mem : ∀ k, i.toNat ≤ k → k < i.toNat + (b + m + 1) → S k = true → k ∈ ((List.range (b + m + 1)).map fun k => i.toNat + k).filter S := fun k k1 k2 k3 => List.mem_filter.mpr ⟨List.mem_map.mpr ⟨k - i.toNat, List.mem_range.mpr (by omega), by omega⟩, k3⟩
      have mem2 : ∀ k, k ∈ ((List.range (b + m + 1)).map fun k => i.toNat + k).filter S → i.toNat ≤ k ∧ k < i.toNat + (b + m + 1) ∧ S k = true := fun k mk => by
        obtain ⟨m1, m2⟩ := List.mem_filter.mp mk
        obtain ⟨j, mj, rfl⟩ := List.mem_map.mp m1
        have := List.mem_range.mp mj
        exact ⟨by omega, by omega, m2⟩
      have key : ∃ d', NextIs S i.toNat (i.toNat + (b + m + 1)) d' ∧ Small d' ∧ ((((List.range (b + m + 1)).map fun k => i.toNat + k).filter S = [] ∧ d' = .none) ∨ ∃ a r, ((List.range (b + m + 1)).map fun k => i.toNat + k).filter S = a :: r ∧ d' = natD a ∧ ∀ c ∈ r, a < c) := by
        cases hL : ((List.range (b + m + 1)).map fun k => i.toNat + k).filter S with
        | nil =>
          refine ⟨.none, .inr ⟨fun k k1 k2 => ?_, rfl⟩, ⟨trivial, by show tot .none ≤ _; simp [tot], by show PyData.depth .none ≤ _; simp [PyData.depth]⟩, .inl ⟨rfl, rfl⟩⟩
          cases sk : S k with
          | false => rfl
          | true =>
            have := mem k k1 k2 sk
            rw [hL] at this
            cases this
        | cons a r =>
          rw [hL] at asc
          obtain ⟨a1, a2⟩ := List.pairwise_cons.mp asc
          obtain ⟨m1, m2, m3⟩ := mem2 a (by rw [hL]; exact List.mem_cons_self)
          refine ⟨natD a, .inl ⟨a, m1, m2, m3, fun k k1 k2 => ?_, rfl⟩, num_small (Nat.lt_trans (show ((a : Int)).natAbs < 1000 by omega) (by decide)), .inr ⟨a, r, rfl, rfl, a1⟩⟩
          cases sk : S k with
          | false => rfl
          | true =>
            have mk := mem k k1 (by omega) sk
            rw [hL] at mk
            rcases List.mem_cons.mp mk with e | mk
            · omega
            · have := a1 k mk
              omega
      obtain ⟨d', nd, sd, key⟩ := key
      have e := nx1.uniq nd near
      subst e
      rcases key with ⟨hL, rfl⟩ | ⟨a, r, hL, rfl, lt⟩
      · rw [hL]
        simp -implicitDefEqProofs only [↓oks, oks2, T.er, List.replicate, dl0, T.erL, ne_nilL, bol_b]
        refine alike_S sd ?_
        simp -implicitDefEqProofs only [↓oks, oks2, T.er, List.replicate, Bool.not_true, Bool.false_eq_true, if_false]
        exact q _
      · rw [hL]
        have en : T.erL (r.map fun n => T.fz (natD n)) = r.map natD := erL_ff' natD _
        have mn : dMinL [.list (natD a :: r.map natD)] = some (natD a) := min_nat lt
        have emp : (!(natD a :: r.map natD).isEmpty) = true := rfl
        simp -implicitDefEqProofs only [↓oks, oks2, T.er, List.replicate, dl0, T.erL, ne_nilL, bol_b, en, mn, emp, if_true]
        refine alike_S sd ?_
        simp -implicitDefEqProofs only [↓oks, oks2, T.er, List.replicate, Bool.not_true, Bool.false_eq_true, if_false]
        exact q _
    · have d5 : decide (i < 500) = false := decide_eq_false i5
      simp only [d5, Bool.false_eq_true, if_false]
      exact q _
theorem lt8_ok (h : Drt S b m) (B : IsBag t) (q : ∀ t x10 x14, IsBag t → Q .nx (lE d0 t x2 S b m R c p y x6 x7 x8 x9 x10 x11 x12 x13 x14 x15 x16 x17)) :
    Ok lt8 (lE d0 t x2 S b m R c p y x6 x7 x8 x9 x10 x11 x12 x13 x14 x15 x16 x17) Q := by
  have l := h.le
  have ti := tab_ix S b m
  have n5 : dNeg (.int 5) = some (.int (-5)) := rfl
  have n1 : dNeg (.int 1) = some (.int (-1)) := rfl
  unfold lt8 lE
  simp -implicitDefEqProofs only [↓oks, oks2, T.er, List.replicate, n5, n1]
  refine take_B B (by decide) (by decide) fun n t1 B1 a0 a1 => ?_
  obtain ⟨ds, hds, all⟩ : ∃ ds, dTup [.int (-5), .int (-1), .int 0, .int 3, .int n, .int (10 ^ 39), .int (b : Int)] = some (.tuple ds) ∧ ∀ x ∈ ds, ∃ i : Int, x = .int i ∧ (i = 10 ^ 39 ∨ (i ≤ 200 ∧ -10 ≤ i)) := ⟨_, dTup_le (by simp), fun x mx => by
    simp only [List.mem_cons, List.not_mem_nil, or_false] at mx
    rcases mx with rfl | rfl | rfl | rfl | rfl | rfl | rfl
    · exact ⟨-5, rfl, .inr (by omega)⟩
    · exact ⟨-1, rfl, .inr (by omega)⟩
    · exact ⟨0, rfl, .inr (by omega)⟩
    · exact ⟨3, rfl, .inr (by omega)⟩
    · exact ⟨n, rfl, .inr (by omega)⟩
    · exact ⟨10 ^ 39, rfl, .inl rfl⟩
    · exact ⟨b, rfl, .inr (by omega)⟩⟩
  simp -implicitDefEqProofs only [↓oks, oks2, T.er, List.replicate, dPow39, ti.2.1, hds, seqD]
  refine ok_for (fun i e => ∃ x10 x14, e = lE d0 t1 x2 S b m R c p y x6 x7 x8 x9 x10 x11 x12 x13 x14 x15 x16 x17) ⟨x10, x14, rfl⟩ ?_ ?_
  · rintro i d e hd ⟨y10, y14, rfl⟩
    obtain ⟨N, rfl, u⟩ := all d (List.mem_of_getElem? hd)
    rw [gN_at, oEl_some]
    exact lnb_ok h u fun x14 => ⟨.inl rfl, _, _, rfl⟩
  · rintro e ⟨y10, y14, rfl⟩
    exact q _ _ _ B1
/-- fit for is_table -/
def Fit (d : D) : Prop := Small d ∧ tot d ≤ 900000
theorem Sz.fit {d : D} {n k : Nat} (h : Sz d n k) (a : n ≤ 900000) (b : k ≤ 50) : Fit d := ⟨h.small (by omega) b, Nat.le_trans h.tot a⟩
theorem lt9_ok {x11 x16 x17 : Option T} (h : Drt S b m) (B : IsBag t) (q : ∀ (t : T) (ds : List D), IsBag t → ds.length ≤ 4 → (∀ d ∈ ds, Fit d) → Q .nx (lE d0 t x2 S b m R c p y x6 x7 x8 x9 x10 (some (.ol (ds.map T.fz))) x12 x13 x14 none x16 x17)) :
    Ok lt9 (lE d0 t x2 S b m R c p y x6 x7 x8 x9 x10 x11 x12 x13 x14 none x16 x17) Q := by
  have l := h.le
  have sz := tab_sz (S := S) (b := b) (m := m) (by omega) (by omega)
  have r4 : dRng1 [.int 4] = some (intsR 0 4) := rng_ok (n := 4) (by decide)
  unfold lt9 lE
  simp -implicitDefEqProofs only [↓oks, oks2, T.er, List.replicate, r4]
  refine ok_lcI (fun i done e => ∃ (ds : List D) (t' : T), done = ds.map T.fz ∧ ds.length ≤ i ∧ (∀ d ∈ ds, Fit d) ∧ IsBag t' ∧ e = lE d0 t' x2 S b m R c p y x6 x7 x8 x9 x10 x11 x12 x13 x14 none x16 x17) (by rw [intsR_len]; omega) (plain1 rfl) ⟨[], t, rfl, Nat.le_refl _, (fun d m => nomatch m), B, rfl⟩ ?_ ?_
  · rintro i d done e hd ⟨ds, t', rfl, dl, da, B', rfl⟩
    rw [gN_at, oEl_some]
    unfold lE
    simp -implicitDefEqProofs only [↓oks, oks2, T.er, List.replicate, if_true]
    refine bent_B 4 (deep := 3) B' (tab_nst (by omega) (by omega)) (by have := sz.dp; omega) (by decide) fun r1 t2 B2 hb => ?_
    simp -implicitDefEqProofs only [↓oks, oks2, T.er, List.replicate]
    refine ⟨ds ++ [r1], t2, by rw [List.map_append]; rfl, by rw [List.length_append]; simp; omega, fun x mx => ?_, B2, rfl⟩
    rcases List.mem_append.mp mx with z | z
    · exact da x z
    · rw [List.mem_singleton.mp z]
      exact ⟨⟨hb.sm, by have := hb.tot; have := sz.tot; omega, by have := hb.dp; have := sz.dp; omega⟩, by have := hb.tot; have := sz.tot; omega⟩
  · rintro ts e ⟨ds, t', rfl, dl, da, B', rfl⟩
    have ej : (some (none : Option T)).join = none := rfl
    unfold lE
    simp -implicitDefEqProofs only [↓oks, oks2, T.er, List.replicate, backE, ej]
    exact q t' ds B' (by simpa [intsR_len] using dl) da
theorem sortTup_nat {ns : List Nat} (h : ns.Pairwise (· < ·)) (hl : ns.length ≤ 1000000) : dSortTup [.tuple (ns.map natD)] = some (.ol ((ns.map natD).map T.fz)) := by
  have a := asc_lt h
  have z := sort_nat a.nd hl a fun _ => Iff.rfl
  unfold dSorted at z
  unfold dSortTup
  exact z
theorem row_szN {ns : List Nat} (h : ∀ n ∈ ns, n < 5000) (hl : ns.length ≤ 1000) : Sz (.tuple (ns.map natD)) 10003 1 := sz_tuple (n := 8) (k := 0) (m := 1000) (fun d md => by
  obtain ⟨n, mn, rfl⟩ := List.mem_map.mp md
  have := h n mn
  exact sz_int (by omega)) (by rw [List.length_map]; exact hl)
theorem lt10_ok {x17 : Option T} (h : Drt S b m) (q : ∀ ds : List D, ds.length ≤ 2 → (∀ d ∈ ds, Fit d) → Q .nx (lE d0 t x2 S b m R c p y x6 x7 x8 x9 x10 x11 (some (.ol (ds.map T.fz))) x13 x14 x15 x16 x17)) :
    Ok lt10 (lE d0 t x2 S b m R c p y x6 x7 x8 x9 x10 x11 x12 x13 x14 x15 x16 x17) Q := by
  have l := h.le
  have ti := tab_ix S b m
  have rl := rests_len S b m
  have rm : ∀ n ∈ restsN S b m, n < m := fun n mn => List.mem_range.mp (List.mem_filter.mp mn).1
  have mu : dMul (.int (m : Int)) (.int 2) = some (.int ((m * 2 : Nat) : Int)) := dMul_nat (a := m) (b := 2) (by omega)
  unfold lt10 lE
  simp -implicitDefEqProofs only [↓oks, oks2, T.er, List.replicate, ti.1, ti.2.1, ti.2.2.1, ti.2.2.2, mu, seqD]
  refine ok_lcf natD (fun _ => true) (fun n => .fz (natD (n + m))) (by omega) (fun n mn => ?_) ?_
  · have a1 : ((n : Int) + (m : Int)) = ((n + m : Nat) : Int) := by omega
    unfold LcT
    simp -implicitDefEqProofs only [↓oks, oks2, T.er, List.replicate, wipeE, gN_at, natD, ti.2.2.1, dAdd_i, a1, if_true]
  · have ef : (restsN S b m).filter (fun _ => true) = restsN S b m := List.filter_eq_self.mpr fun _ _ => rfl
    have en : T.erL ((restsN S b m).map fun n => T.fz (natD (n + m))) = ((restsN S b m).map fun n => n + m).map natD := by
      rw [erL_ff' (fun n => natD (n + m)), List.map_map]
      rfl
    have et : ∀ l : List D, dTuple [.list l] = some (.tuple l) := fun l => rfl
    have ea : dAdd (.tuple ((restsN S b m).map natD)) (.tuple (((restsN S b m).map fun n => n + m).map natD)) = some (.tuple ((restsN S b m ++ (restsN S b m).map fun n => n + m).map natD)) := by
      unfold dAdd
      dsimp only
      rw [if_pos (by simp only [List.length_map]; rw [sizeLine_eq]; omega), List.map_append]
    have asc : (restsN S b m ++ (restsN S b m).map fun n => n + m).Pairwise (· < ·) := pair_app (c := m) (List.pairwise_lt_range.sublist List.filter_sublist) rm (List.pairwise_map.mpr ((List.pairwise_lt_range.sublist List.filter_sublist).imp fun h => by omega)) fun n mn => by
      obtain ⟨k, _, rfl⟩ := List.mem_map.mp mn
      omega
    have so := sortTup_nat asc (by rw [List.length_append, List.length_map]; omega)
    have s3 : dSl (tabD S b m) none (some 3) = some (.fz (.tuple [.tuple ((numsN S b).map natD), natD b, natD m])) := slT_take (n := 3)
    have s1 : dSl (.tuple ((restsN S b m).map natD)) (some 1) none = some (.fz (.tuple ((restsN S b m).map natD |>.drop 1))) := slT_drop (n := 1)
    have a3 : ∀ x : D, dAdd (.tuple [.tuple ((numsN S b).map natD), natD b, natD m]) (.tuple [x]) = some (.tuple [.tuple ((numsN S b).map natD), natD b, natD m, x]) := fun x => by
      unfold dAdd
      dsimp only
      rw [if_pos (by rw [sizeLine_eq]; show 4 ≤ 16777216; decide)]
      rfl
    have e1 : ∀ x : D, dTup [x] = some (.tuple [x]) := fun x => dTup_le (by simp)
    have e4 : ∀ x y z w : D, dTup [x, y, z, w] = some (.tuple [x, y, z, w]) := fun x y z w => dTup_le (by simp)
    have nz : Sz (.tuple ((numsN S b).map natD)) 10003 1 := row_szN (fun n mn => by have := (mem_nums.mp mn).1; omega) (Nat.le_trans (nums_len _ _) (by omega))
    have iz : ∀ k : Nat, k < 5000 → Sz (.int (k : Int)) 10003 1 := fun k hk => (sz_int (by omega)).le (by decide) (by decide)
    obtain ⟨ds, hds, dl, all⟩ : ∃ ds : List D, dLst [.tuple [.tuple ((numsN S b).map natD), .int (b : Int), .int ((m * 2 : Nat) : Int), .tuple ((restsN S b m ++ (restsN S b m).map fun n => n + m).map natD)], .tuple [.tuple ((numsN S b).map natD), natD b, natD m, .tuple ((restsN S b m).map natD |>.drop 1)]] = some (.ol (ds.map T.fz)) ∧ ds.length ≤ 2 ∧ ∀ d ∈ ds, Fit d := ⟨_, dLst_le (by simp), by simp, fun d md => by
      simp only [List.mem_cons, List.not_mem_nil, or_false] at md
      rcases md with rfl | rfl
      · exact (sz_tuple (n := 10003) (k := 1) (m := 4) (fun d md => by
          simp only [List.mem_cons, List.not_mem_nil, or_false] at md
          rcases md with rfl | rfl | rfl | rfl
          · exact nz
          · exact iz b (by omega)
          · exact iz (m * 2) (by omega)
          · exact row_szN (fun n mn => by
              rcases List.mem_append.mp mn with z | z
              · have := rm n z; omega
              · obtain ⟨k, mk, rfl⟩ := List.mem_map.mp z
                have := rm k mk; omega) (by rw [List.length_append, List.length_map]; omega)) (by simp)).fit (by decide) (by decide)
      · exact (sz_tuple (n := 10003) (k := 1) (m := 4) (fun d md => by
          simp only [List.mem_cons, List.not_mem_nil, or_false] at md
          rcases md with rfl | rfl | rfl | rfl
          · exact nz
          · exact iz b (by omega)
          · exact iz m (by omega)
          · rw [← List.map_drop]
            exact row_szN (fun n mn => by have := rm n (List.mem_of_mem_drop mn); omega) (by rw [List.length_drop]; omega)) (by simp)).fit (by decide) (by decide)⟩
    simp -implicitDefEqProofs only [↓oks, oks2, T.er, List.replicate, ef, en, et, ea, so, T.erL_fz, e4, s3, s1, e1, a3, ti.2.2.2, hds]
    exact q ds dl all
theorem lt11_ok {ds0 : List D} (h : Drt S b m) (l0 : ds0.length ≤ 2) (f0 : ∀ d ∈ ds0, Fit d) (q : ∀ ds : List D, ds.length ≤ 6 → (∀ d ∈ ds, Fit d) → Q .nx (lE d0 t x2 S b m R c p y x6 x7 x8 x9 x10 x11 (some (.ol (ds.map T.fz))) x13 x14 x15 x16 x17)) :
    Ok lt11 (lE d0 t x2 S b m R c p y x6 x7 x8 x9 x10 x11 (some (.ol (ds0.map T.fz))) x13 x14 x15 x16 x17) Q := by
  have l := h.le
  have ti := tab_ix S b m
  have rl := rests_len S b m
  have rm : ∀ n ∈ restsN S b m, n < m := fun n mn => List.mem_range.mp (List.mem_filter.mp mn).1
  have a1 : ((b : Int) + 1) = ((b + 1 : Nat) : Int) := by omega
  have e1 : ∀ x : D, dTup [x] = some (.tuple [x]) := fun x => dTup_le (by simp)
  have e4 : ∀ x y z w : D, dTup [x, y, z, w] = some (.tuple [x, y, z, w]) := fun x y z w => dTup_le (by simp)
  have ea : dAdd (.tuple ((numsN S b).map natD)) (.tuple [.int (b : Int)]) = some (.tuple ((numsN S b ++ [b]).map natD)) := by
    unfold dAdd
    dsimp only
    have := nums_len S b
    rw [if_pos (by simp only [List.length_map, List.length_cons, List.length_nil]; rw [sizeLine_eq]; omega), List.map_append]
    rfl
  have eb : dList [tabD S b m] = some (.ol ([.tuple ((numsN S b).map natD), natD b, natD m, .tuple ((restsN S b m).map natD)].map T.fz)) := rfl
  have s3 : dSl (tabD S b m) none (some 3) = some (.fz (.tuple [.tuple ((numsN S b).map natD), natD b, natD m])) := slT_take (n := 3)
  have nz : Sz (.tuple ((numsN S b).map natD)) 10003 1 := row_szN (fun n mn => by have := (mem_nums.mp mn).1; omega) (Nat.le_trans (nums_len _ _) (by omega))
  have rz : Sz (.tuple ((restsN S b m).map natD)) 10003 1 := row_szN (fun n mn => by have := rm n mn; omega) (by omega)
  have iz : ∀ k : Nat, k < 5000 → Sz (.int (k : Int)) 10003 1 := fun k hk => (sz_int (by omega)).le (by decide) (by decide)
  have bx : boxy "list" (.ol (ds0.map T.fz)) = true := rfl
  unfold lt11 lE
  simp -implicitDefEqProofs only [↓oks, oks2, T.er, List.replicate, ti.1, ti.2.1, ti.2.2.1, ti.2.2.2, dAdd_i, a1, e1, e4, ea, eb, s3, bx]
  obtain ⟨ds, hds, dl, all⟩ : ∃ ds : List D, dLst [.tuple [.tuple ((numsN S b ++ [b]).map natD), .int ((b + 1 : Nat) : Int), .int (m : Int), .tuple ((restsN S b m).map natD)], .list [.tuple ((numsN S b).map natD), natD b, natD m, .tuple ((restsN S b m).map natD)], .tuple [.tuple ((numsN S b).map natD), natD b, natD m], .tuple [.tuple ((numsN S b).map natD), .int ((b + 1 : Nat) : Int), .int (m : Int), .tuple ((restsN S b m).map natD)]] = some (.ol (ds.map T.fz)) ∧ ds.length ≤ 4 ∧ ∀ d ∈ ds, Fit d := ⟨_, dLst_le (by simp), by simp, fun d md => by
    simp only [List.mem_cons, List.not_mem_nil, or_false] at md
    rcases md with rfl | rfl | rfl | rfl
    · exact (sz_tuple (n := 10003) (k := 1) (m := 4) (fun d md => by
        simp only [List.mem_cons, List.not_mem_nil, or_false] at md
        rcases md with rfl | rfl | rfl | rfl
        · exact row_szN (fun n mn => by
            rcases List.mem_append.mp mn with z | z
            · have := (mem_nums.mp z).1; omega
            · rw [List.mem_singleton.mp z]; omega) (by have := nums_len S b; simp; omega)
        · exact iz (b + 1) (by omega)
        · exact iz m (by omega)
        · exact rz) (by simp)).fit (by decide) (by decide)
    · exact (sz_list (n := 10003) (k := 1) (m := 4) (fun d md => by
        simp only [List.mem_cons, List.not_mem_nil, or_false] at md
        rcases md with rfl | rfl | rfl | rfl
        · exact nz
        · exact iz b (by omega)
        · exact iz m (by omega)
        · exact rz) (by simp)).fit (by decide) (by decide)
    · exact (sz_tuple (n := 10003) (k := 1) (m := 4) (fun d md => by
        simp only [List.mem_cons, List.not_mem_nil, or_false] at md
        rcases md with rfl | rfl | rfl
        · exact nz
        · exact iz b (by omega)
        · exact iz m (by omega)) (by simp)).fit (by decide) (by decide)
    · exact (sz_tuple (n := 10003) (k := 1) (m := 4) (fun d md => by
        simp only [List.mem_cons, List.not_mem_nil, or_false] at md
        rcases md with rfl | rfl | rfl | rfl
        · exact nz
        · exact iz (b + 1) (by omega)
        · exact iz m (by omega)
        · exact rz) (by simp)).fit (by decide) (by decide)⟩
  have ge : gExtA (.ol (ds0.map T.fz)) [.fz (.list ds)] = some (.ol ((ds0 ++ ds).map T.fz), .fz .none) := by
    show (if (ds0.map T.fz).length + ds.length ≤ sizeLine then some (T.ol (ds0.map T.fz ++ ds.map T.fz), T.fz .none) else none) = _
    rw [if_pos (by rw [List.length_map, sizeLine_eq]; omega), List.map_append]
  have fin := q (ds0 ++ ds) (by rw [List.length_append]; omega) fun d md => (List.mem_append.mp md).elim (f0 d) (all d)
  simp -implicitDefEqProofs only [T.erL, T.er, ↓oks, oks2, T.er, List.replicate, hds, T.erL_fz, ge]
  exact fin
theorem lit_ok {d : D} (f : Fit d) (q : Q .nx (lE d0 t x2 S b m R c p y x6 x7 x8 x9 x10 x11 x12 (some (.fz d)) x14 x15 x16 x17)) : Ok lit (lE d0 t x2 S b m R c p y x6 x7 x8 x9 x10 x11 x12 (some (.fz d)) x14 x15 x16 x17) Q := by
  unfold lit lE
  simp -implicitDefEqProofs only [↓oks, oks2, T.er, List.replicate, sok_is (istable_any f.2), sok_is (listable_any f.2)]
  refine alike_S (bool_small _) ?_
  simp -implicitDefEqProofs only [↓oks, oks2, T.er, List.replicate, Bool.not_true, Bool.false_eq_true, if_false]
  exact q
theorem lt12_ok {ds1 ds2 : List D} (h : Drt S b m) (h2 : Drt R c p) (B : IsBag t) (l1 : ds1.length ≤ 4) (f1 : ∀ d ∈ ds1, Fit d) (l2 : ds2.length ≤ 6) (f2 : ∀ d ∈ ds2, Fit d) (q : ∀ t x13, IsBag t → Q .nx (lE d0 t x2 S b m R c p y x6 x7 x8 x9 x10 (some (.ol (ds1.map T.fz))) (some (.ol (ds2.map T.fz))) x13 x14 x15 x16 x17)) :
    Ok lt12 (lE d0 t x2 S b m R c p y x6 x7 x8 x9 x10 (some (.ol (ds1.map T.fz))) (some (.ol (ds2.map T.fz))) x13 x14 x15 x16 x17) Q := by
  have l := h.le
  have l' := h2.le
  have e2 : ∀ a b : D, dLst [a, b] = some (.ol ([a, b].map T.fz)) := fun a b => dLst_le (by simp)
  have e1 : ∀ a : D, dLst [a] = some (.ol ([a].map T.fz)) := fun a => dLst_le (by simp)
  have eC : ∀ a b : List D, a.length + b.length ≤ 1000 → dCatL (.list a) (.list b) = some (.ol ((a ++ b).map T.fz)) := fun a b h => by
    show (if a.length + b.length ≤ sizeLine then some (T.ol ((a ++ b).map T.fz)) else none) = _
    rw [if_pos (by rw [sizeLine_eq]; omega)]
  unfold lt12 lE
  simp -implicitDefEqProofs only [↓oks, oks2, T.er, List.replicate, e2, er_fz, listD, fzs_map]
  rw [if_pos (by rw [sizeLine_eq]; simp; omega)]
  simp -implicitDefEqProofs only [↓oks, oks2, T.er, List.replicate, er_fz, listD, fzs_map]
  rw [if_pos (by rw [sizeLine_eq]; simp; omega)]
  simp -implicitDefEqProofs only [↓oks, oks2, T.er, List.replicate]
  refine odd_B B fun r2 t2 B2 ho => ?_
  have eD := eC ([tabD S b m, tabD R c p] ++ ds1 ++ ds2) [r2] (by simp; omega)
  obtain ⟨ds, hds, all⟩ : ∃ ds : List D, dCatL (.list ([tabD S b m, tabD R c p] ++ ds1 ++ ds2)) (.list [r2]) = some (.ol (ds.map T.fz)) ∧ ∀ d ∈ ds, Fit d := ⟨_, eD, fun d md => by
    simp only [List.mem_cons, List.mem_append, List.not_mem_nil, or_false] at md
    rcases md with (((md | md) | md) | md) | md
    · rw [md]; exact (tab_sz (by omega) (by omega)).fit (by decide) (by decide)
    · rw [md]; exact (tab_sz (by omega) (by omega)).fit (by decide) (by decide)
    · exact f1 d md
    · exact f2 d md
    · rw [md]; exact ho.sz.fit (by decide) (by decide)⟩
  clear eD
  simp only [List.cons_append, List.nil_append] at hds
  simp -implicitDefEqProofs only [↓oks, oks2, T.er, List.replicate, e1, er_fz, hds, seqD]
  refine ok_for (fun i e => ∃ x13, e = lE d0 t2 x2 S b m R c p y x6 x7 x8 x9 x10 (some (.ol (ds1.map T.fz))) (some (.ol (ds2.map T.fz))) x13 x14 x15 x16 x17) ⟨x13, rfl⟩ ?_ ?_
  · rintro i d e hd ⟨y13, rfl⟩
    have md := List.mem_of_getElem? hd
    rw [gN_at, oEl_some]
    exact lit_ok (all d md) ⟨.inl rfl, _, rfl⟩
  · rintro e ⟨y13, rfl⟩
    exact q _ _ B2
theorem dNeS_same (x : Str) : dNeS (.str x) (.str x) = some (.bool false) := by
  unfold dNeS
  simp
noncomputable abbrev l0E (d0 : D) (t : T) (x2 x3 x4 x5 x6 x7 x8 x9 x10 x11 x12 x13 x14 x16 x17 : Option T) : Env := [some (.fz d0), some t, x2, x3, x4, x5, x6, x7, x8, x9, x10, x11, x12, x13, x14, none, x16, x17]
def YS : List Nat := [1, 0, 7, 40]
noncomputable def ltr : M Fl := mSeq lt1 (mSeq lt2 (mSeq lt3 (mSeq lt4 (mSeq lt5 (mSeq lt6 (mSeq lt7 (mSeq lt8 (mSeq lt9 (mSeq lt10 (mSeq lt11 (mSeq lt12 (lt13))))))))))))
theorem ltr_ok {x3 x4 x5 x6 x7 x8 x9 x10 x11 x12 x13 x14 x16 x17 : Option T} (B : IsBag t) (q : ∀ t x3 x4 x5 x6 x7 x8 x9 x10 x11 x12 x13 x14 x16 x17, IsBag t → Q .nx (l0E d0 t x2 x3 x4 x5 x6 x7 x8 x9 x10 x11 x12 x13 x14 x16 x17)) :
    Ok ltr (l0E d0 t x2 x3 x4 x5 x6 x7 x8 x9 x10 x11 x12 x13 x14 x16 x17) Q := by
  have l4 : dLst [.int 1, .int 0, .int 7, .int 40] = some (.ol ((YS.map natD).map T.fz)) := dLst_le (ds := YS.map natD) (by simp [YS])
  have e2 : ∀ a b c : D, tTupO [.fz a, .fz b, .fz c] = some (.ot [.fz a, .fz b, .fz c]) := fun a b c => rfl
  have e3 : ∀ (a b c : D) (e : Env), gT 3 (gCons' (gN 3) (gCons' (gN 4) (gCons' (gN 5) gNil'))) (.ot [.fz a, .fz b, .fz c]) e = some (((e.set 3 (some (.fz a))).set 4 (some (.fz b))).set 5 (some (.fz c))) := fun a b c e => rfl
  unfold ltr
  rw [ok_seq]
  unfold lt1 l0E
  simp -implicitDefEqProofs only [↓oks, oks2, T.er, List.replicate]
  refine drawn_B B fun S c M b m t1 B1 mM c1 p1 T1 => ?_
  simp -implicitDefEqProofs only [↓oks, oks2, T.er, List.replicate]
  refine drawn_B B1 fun R c' M' c2 p t2 B2 mM2 c3 p2 T2 => ?_
  simp -implicitDefEqProofs only [↓oks, oks2, T.er, List.replicate, l4, T.erL_fz]
  refine someN_B B2 (by decide) (by decide) fun y t3 my B3 => ?_
  have y40 : y ≤ 40 := (by decide : ∀ n ∈ YS, n ≤ 40) y my
  have m0 := (mods_ok M mM).1
  have m0' := (mods_ok M' mM2).1
  have h1 : Drt S b m := ⟨T1, c, M, mM, c1, p1, T1.ge (T1.per.back p1 m0), T1.dvd m0 p1⟩
  have h2 : Drt R c2 p := ⟨T2, c', M', mM2, c3, p2, T2.ge (T2.per.back p2 m0'), T2.dvd m0' p2⟩
  have k1 := h1.le
  have k2 := h2.le
  have sm : Small (.list [tabD S b m, tabD R c2 p]) := (sz_list (m := 2) (fun d md => by
    simp only [List.mem_cons, List.not_mem_nil, or_false] at md
    rcases md with rfl | rfl <;> exact tab_sz (by omega) (by omega)) (by simp)).small (by decide) (by decide)
  have eL : dLst [tabD S b m, tabD R c2 p] = some (.ol ([tabD S b m, tabD R c2 p].map T.fz)) := dLst_le (by simp)
  obtain ⟨b', T3, _⟩ := shift_tb (y := y) T1
  obtain ⟨b2, m2, T4, _, _⟩ := tb_ex (Nat.lcm_pos m0 m0') (per_and p1 p2 (Nat.dvd_lcm_left M M') (Nat.dvd_lcm_right M M'))
  simp -implicitDefEqProofs only [↓oks, oks2, T.er, List.replicate, e2, e3]
  unfold lt2
  simp -implicitDefEqProofs only [↓oks, oks2, T.er, List.replicate, eL, er_fz, sm.repr]
  refine lt3_ok (y := y) h1 ?_
  rw [nxt_nx]
  refine lt4_ok h1 y40 T3 ?_
  rw [nxt_nx]
  refine lt5_ok h1 y40 T3 ?_
  rw [nxt_nx]
  refine lt6_ok h1 h2 T4 ?_
  rw [nxt_nx]
  refine lt7_ok h1 h2 T4 ?_
  rw [nxt_nx]
  refine lt8_ok h1 B3 fun t4 x10 x14 B4 => ?_
  rw [nxt_nx]
  refine lt9_ok h1 B4 fun t5 ds1 B5 l1 f1 => ?_
  rw [nxt_nx]
  refine lt10_ok h1 fun ds2 l2 f2 => ?_
  rw [nxt_nx]
  refine lt11_ok h1 l2 f2 fun ds3 l3 f3 => ?_
  rw [nxt_nx]
  refine lt12_ok h1 h2 B5 l1 f1 l3 f3 fun t6 x13 B6 => ?_
  rw [nxt_nx]
  unfold lt13 lE
  simp -implicitDefEqProofs only [↓oks, oks2, T.er, List.replicate, eL, er_fz, sm.repr, dNeS_same, bol_b, Bool.false_eq_true, if_false]
  exact q _ _ _ _ _ _ _ _ _ _ _ _ _ _ _ B6
theorem lw2_ok (B : IsBag t) (q : ∀ e, Q .nx e) : Ok lw2 [some (.fz d0), some t, none, none, none, none, none, none, none, none, none, none, none, none, none, none, none, none] Q := by
  have r4 : dRng1 [.int 4] = some (intsR 0 4) := rng_ok (n := 4) (by decide)
  unfold lw2
  simp -implicitDefEqProofs only [↓oks, oks2, T.er, List.replicate, r4]
  refine ok_for (fun i e => ∃ t x2 x3 x4 x5 x6 x7 x8 x9 x10 x11 x12 x13 x14 x16 x17, IsBag t ∧ e = l0E d0 t x2 x3 x4 x5 x6 x7 x8 x9 x10 x11 x12 x13 x14 x16 x17) ⟨t, none, none, none, none, none, none, none, none, none, none, none, none, none, none, none, B, rfl⟩ ?_ ?_
  · rintro i d e hd ⟨t, x2, x3, x4, x5, x6, x7, x8, x9, x10, x11, x12, x13, x14, x16, x17, B, rfl⟩
    rw [gN_at, oEl_some]
    exact ltr_ok B fun t x3 x4 x5 x6 x7 x8 x9 x10 x11 x12 x13 x14 x16 x17 B => ⟨.inl rfl, _, _, _, _, _, _, _, _, _, _, _, _, _, _, _, _, B, rfl⟩
  · rintro e _
    exact q e
end
theorem varF_at {env : Env} {i : Nat} {d : D} {Q : D → Env → Prop} (h : env[i]? = some (some (.fz d))) : Ok (mVarF i) env Q = Q d env := by rw [ok_varF, h, slot_some, fzOf_fz]
theorem law_ev : ∀ ns : List Int, ns.length ≤ 63 → ∃ e, sem_law [some (.fz (.list (ns.map PyData.int)))] = .ok (.fz (.bool true)) e := by
  intro ns hn
  have z : Sok (sem_law [some (.fz (.list (ns.map PyData.int)))]) fun t => t = .fz (.bool true) := by
    unfold sem_law
    rw [sok_sem, lw_eq, ok_seq]
    unfold lw1
    rw [ok_set, ok_call, ok_cons, varF_at (d := .list (ns.map PyData.int)) rfl, ok_nil]
    refine bag_S hn fun t B => ?_
    rw [nxt_nx, ok_seq]
    refine lw2_ok B fun e => ?_
    rw [nxt_nx]
    unfold lw3
    rw [ok_rt, ok_map, ok_C, flT_rt, oEl_some]
  unfold Sok at z
  cases q : sem_law [some (.fz (.list (ns.map PyData.int)))] with
  | bad => rw [q] at z; exact z.elim
  | exn x e => rw [q] at z; exact z.elim
  | ok t e =>
    rw [q] at z
    exact ⟨e, by rw [show t = _ from z]⟩
end DL
namespace DL
open PySem L2 PyProof.Rows
/-! ### what the top has written -/
theorem all_mk {l : PySem.W.OpenLaw} {w : World} {K : Frg} {h : Heap} {mg : Str → Option Value} {fa : Addr} (X : K.In h) (G : h.Ns mainGlobals mg) (hfa : mg "law" = some (.ref fa))
    {f0 : Addr} {od0 an0 : Option Addr} {sl0 : Array (Option Value)} {oc0 kV0 dc0 pm0 cd0 ct0 : Value}
    {f1 : Addr} {od1 an1 : Option Addr} {sl1 : Array (Option Value)} {oc1 kV1 dc1 pm1 cd1 ct1 : Value}
    {f2 : Addr} {od2 an2 : Option Addr} {sl2 : Array (Option Value)} {oc2 kV2 dc2 pm2 cd2 ct2 : Value}
    {f3 : Addr} {od3 an3 : Option Addr} {sl3 : Array (Option Value)} {oc3 kV3 dc3 pm3 cd3 ct3 : Value}
    {f4 : Addr} {od4 an4 : Option Addr} {sl4 : Array (Option Value)} {oc4 kV4 dc4 pm4 cd4 ct4 : Value}
    {f5 : Addr} {od5 an5 : Option Addr} {sl5 : Array (Option Value)} {oc5 kV5 dc5 pm5 cd5 ct5 : Value}
    {f6 : Addr} {od6 an6 : Option Addr} {sl6 : Array (Option Value)} {oc6 kV6 dc6 pm6 cd6 ct6 : Value}
    {f7 : Addr} {od7 an7 : Option Addr} {sl7 : Array (Option Value)} {oc7 kV7 dc7 pm7 cd7 ct7 : Value}
    {f8 : Addr} {od8 an8 : Option Addr} {sl8 : Array (Option Value)} {oc8 kV8 dc8 pm8 cd8 ct8 : Value}
    {f9 : Addr} {od9 an9 : Option Addr} {sl9 : Array (Option Value)} {oc9 kV9 dc9 pm9 cd9 ct9 : Value}
    {f10 : Addr} {od10 an10 : Option Addr} {sl10 : Array (Option Value)} {oc10 kV10 dc10 pm10 cd10 ct10 : Value}
    {f11 : Addr} {od11 an11 : Option Addr} {sl11 : Array (Option Value)} {oc11 kV11 dc11 pm11 cd11 ct11 : Value}
    {f12 : Addr} {od12 an12 : Option Addr} {sl12 : Array (Option Value)} {oc12 kV12 dc12 pm12 cd12 ct12 : Value}
    {f13 : Addr} {od13 an13 : Option Addr} {sl13 : Array (Option Value)} {oc13 kV13 dc13 pm13 cd13 ct13 : Value}
    {f14 : Addr} {od14 an14 : Option Addr} {sl14 : Array (Option Value)} {oc14 kV14 dc14 pm14 cd14 ct14 : Value}
    {f15 : Addr} {od15 an15 : Option Addr} {sl15 : Array (Option Value)} {oc15 kV15 dc15 pm15 cd15 ct15 : Value}
    {f16 : Addr} {od16 an16 : Option Addr} {sl16 : Array (Option Value)} {oc16 kV16 dc16 pm16 cd16 ct16 : Value}
    {f17 : Addr} {od17 an17 : Option Addr} {sl17 : Array (Option Value)} {oc17 kV17 dc17 pm17 cd17 ct17 : Value}
    {f18 : Addr} {od18 an18 : Option Addr} {sl18 : Array (Option Value)} {oc18 kV18 dc18 pm18 cd18 ct18 : Value}
    {f19 : Addr} {od19 an19 : Option Addr} {sl19 : Array (Option Value)} {oc19 kV19 dc19 pm19 cd19 ct19 : Value}
    {f20 : Addr} {od20 an20 : Option Addr} {sl20 : Array (Option Value)} {oc20 kV20 dc20 pm20 cd20 ct20 : Value}
    {f21 : Addr} {od21 an21 : Option Addr} {sl21 : Array (Option Value)} {oc21 kV21 dc21 pm21 cd21 ct21 : Value}
    {f22 : Addr} {od22 an22 : Option Addr} {sl22 : Array (Option Value)} {oc22 kV22 dc22 pm22 cd22 ct22 : Value}
    {f23 : Addr} {od23 an23 : Option Addr} {sl23 : Array (Option Value)} {oc23 kV23 dc23 pm23 cd23 ct23 : Value}
    (a0 : PySem.W.nsIn K mainGlobals "_law_bag" = some (some (.ref f0)))
    (l0 : K.lookup f0 = some ⟨oc0, od0, .func (PySem.W.fnOf "_law_bag" "_law_bag" (defArgs s__law_bag) (defBody s__law_bag) (defScope s__law_bag) .none kV0 dc0 pm0 an0 cd0 ct0), sl0⟩)
    (c0 : PySem.W.codeIn K cd0 "_law_bag" = true)
    (k0 : PySem.W.keepIn K (.ref f0) = true)
    (a1 : PySem.W.nsIn K mainGlobals "_law_take" = some (some (.ref f1)))
    (l1 : K.lookup f1 = some ⟨oc1, od1, .func (PySem.W.fnOf "_law_take" "_law_take" (defArgs s__law_take) (defBody s__law_take) (defScope s__law_take) .none kV1 dc1 pm1 an1 cd1 ct1), sl1⟩)
    (c1 : PySem.W.codeIn K cd1 "_law_take" = true)
    (k1 : PySem.W.keepIn K (.ref f1) = true)
    (a2 : PySem.W.nsIn K mainGlobals "_law_some" = some (some (.ref f2)))
    (l2 : K.lookup f2 = some ⟨oc2, od2, .func (PySem.W.fnOf "_law_some" "_law_some" (defArgs s__law_some) (defBody s__law_some) (defScope s__law_some) .none kV2 dc2 pm2 an2 cd2 ct2), sl2⟩)
    (c2 : PySem.W.codeIn K cd2 "_law_some" = true)
    (k2 : PySem.W.keepIn K (.ref f2) = true)
    (a3 : PySem.W.nsIn K mainGlobals "_law_table" = some (some (.ref f3)))
    (l3 : K.lookup f3 = some ⟨oc3, od3, .func (PySem.W.fnOf "_law_table" "_law_table" (defArgs s__law_table) (defBody s__law_table) (defScope s__law_table) .none kV3 dc3 pm3 an3 cd3 ct3), sl3⟩)
    (c3 : PySem.W.codeIn K cd3 "_law_table" = true)
    (k3 : PySem.W.keepIn K (.ref f3) = true)
    (a4 : PySem.W.nsIn K mainGlobals "_law_drawn_table" = some (some (.ref f4)))
    (l4 : K.lookup f4 = some ⟨oc4, od4, .func (PySem.W.fnOf "_law_drawn_table" "_law_drawn_table" (defArgs s__law_drawn_table) (defBody s__law_drawn_table) (defScope s__law_drawn_table) .none kV4 dc4 pm4 an4 cd4 ct4), sl4⟩)
    (c4 : PySem.W.codeIn K cd4 "_law_drawn_table" = true)
    (k4 : PySem.W.keepIn K (.ref f4) = true)
    (a5 : PySem.W.nsIn K mainGlobals "_law_has" = some (some (.ref f5)))
    (l5 : K.lookup f5 = some ⟨oc5, od5, .func (PySem.W.fnOf "_law_has" "_law_has" (defArgs s__law_has) (defBody s__law_has) (defScope s__law_has) .none kV5 dc5 pm5 an5 cd5 ct5), sl5⟩)
    (c5 : PySem.W.codeIn K cd5 "_law_has" = true)
    (k5 : PySem.W.keepIn K (.ref f5) = true)
    (a6 : PySem.W.nsIn K mainGlobals "_law_shown" = some (some (.ref f6)))
    (l6 : K.lookup f6 = some ⟨oc6, od6, .func (PySem.W.fnOf "_law_shown" "_law_shown" (defArgs s__law_shown) (defBody s__law_shown) (defScope s__law_shown) .none kV6 dc6 pm6 an6 cd6 ct6), sl6⟩)
    (c6 : PySem.W.codeIn K cd6 "_law_shown" = true)
    (k6 : PySem.W.keepIn K (.ref f6) = true)
    (a7 : PySem.W.nsIn K mainGlobals "_law_alike" = some (some (.ref f7)))
    (l7 : K.lookup f7 = some ⟨oc7, od7, .func (PySem.W.fnOf "_law_alike" "_law_alike" (defArgs s__law_alike) (defBody s__law_alike) (defScope s__law_alike) .none kV7 dc7 pm7 an7 cd7 ct7), sl7⟩)
    (c7 : PySem.W.codeIn K cd7 "_law_alike" = true)
    (k7 : PySem.W.keepIn K (.ref f7) = true)
    (a8 : PySem.W.nsIn K mainGlobals "moved" = some (some (.ref f8)))
    (l8 : K.lookup f8 = some ⟨oc8, od8, .func (PySem.W.fnOf "moved" "moved" (defArgs s_moved) (defBody s_moved) (defScope s_moved) .none kV8 dc8 pm8 an8 cd8 ct8), sl8⟩)
    (c8 : PySem.W.codeIn K cd8 "moved" = true)
    (k8 : PySem.W.keepIn K (.ref f8) = true)
    (a9 : PySem.W.nsIn K mainGlobals "common_divisor" = some (some (.ref f9)))
    (l9 : K.lookup f9 = some ⟨oc9, od9, .func (PySem.W.fnOf "common_divisor" "common_divisor" (defArgs s_common_divisor) (defBody s_common_divisor) (defScope s_common_divisor) .none kV9 dc9 pm9 an9 cd9 ct9), sl9⟩)
    (c9 : PySem.W.codeIn K cd9 "common_divisor" = true)
    (k9 : PySem.W.keepIn K (.ref f9) = true)
    (a10 : PySem.W.nsIn K mainGlobals "has" = some (some (.ref f10)))
    (l10 : K.lookup f10 = some ⟨oc10, od10, .func (PySem.W.fnOf "has" "has" (defArgs s_has) (defBody s_has) (defScope s_has) .none kV10 dc10 pm10 an10 cd10 ct10), sl10⟩)
    (c10 : PySem.W.codeIn K cd10 "has" = true)
    (k10 : PySem.W.keepIn K (.ref f10) = true)
    (a11 : PySem.W.nsIn K mainGlobals "least_table" = some (some (.ref f11)))
    (l11 : K.lookup f11 = some ⟨oc11, od11, .func (PySem.W.fnOf "least_table" "least_table" (defArgs s_least_table) (defBody s_least_table) (defScope s_least_table) .none kV11 dc11 pm11 an11 cd11 ct11), sl11⟩)
    (c11 : PySem.W.codeIn K cd11 "least_table" = true)
    (k11 : PySem.W.keepIn K (.ref f11) = true)
    (a12 : PySem.W.nsIn K mainGlobals "in_both" = some (some (.ref f12)))
    (l12 : K.lookup f12 = some ⟨oc12, od12, .func (PySem.W.fnOf "in_both" "in_both" (defArgs s_in_both) (defBody s_in_both) (defScope s_in_both) .none kV12 dc12 pm12 an12 cd12 ct12), sl12⟩)
    (c12 : PySem.W.codeIn K cd12 "in_both" = true)
    (k12 : PySem.W.keepIn K (.ref f12) = true)
    (a13 : PySem.W.nsIn K mainGlobals "next_in" = some (some (.ref f13)))
    (l13 : K.lookup f13 = some ⟨oc13, od13, .func (PySem.W.fnOf "next_in" "next_in" (defArgs s_next_in) (defBody s_next_in) (defScope s_next_in) .none kV13 dc13 pm13 an13 cd13 ct13), sl13⟩)
    (c13 : PySem.W.codeIn K cd13 "next_in" = true)
    (k13 : PySem.W.keepIn K (.ref f13) = true)
    (a14 : PySem.W.nsIn K mainGlobals "_law_odd" = some (some (.ref f14)))
    (l14 : K.lookup f14 = some ⟨oc14, od14, .func (PySem.W.fnOf "_law_odd" "_law_odd" (defArgs s__law_odd) (defBody s__law_odd) (defScope s__law_odd) .none kV14 dc14 pm14 an14 cd14 ct14), sl14⟩)
    (c14 : PySem.W.codeIn K cd14 "_law_odd" = true)
    (k14 : PySem.W.keepIn K (.ref f14) = true)
    (a15 : PySem.W.nsIn K mainGlobals "_law_is_int" = some (some (.ref f15)))
    (l15 : K.lookup f15 = some ⟨oc15, od15, .func (PySem.W.fnOf "_law_is_int" "_law_is_int" (defArgs s__law_is_int) (defBody s__law_is_int) (defScope s__law_is_int) .none kV15 dc15 pm15 an15 cd15 ct15), sl15⟩)
    (c15 : PySem.W.codeIn K cd15 "_law_is_int" = true)
    (k15 : PySem.W.keepIn K (.ref f15) = true)
    (a16 : PySem.W.nsIn K mainGlobals "_law_bent" = some (some (.ref f16)))
    (l16 : K.lookup f16 = some ⟨oc16, od16, .func (PySem.W.fnOf "_law_bent" "_law_bent" (defArgs s__law_bent) (defBody s__law_bent) (defScope s__law_bent) .none kV16 dc16 pm16 an16 cd16 ct16), sl16⟩)
    (c16 : PySem.W.codeIn K cd16 "_law_bent" = true)
    (k16 : PySem.W.keepIn K (.ref f16) = true)
    (a17 : PySem.W.nsIn K mainGlobals "is_integer" = some (some (.ref f17)))
    (l17 : K.lookup f17 = some ⟨oc17, od17, .func (PySem.W.fnOf "is_integer" "is_integer" (defArgs s_is_integer) (defBody s_is_integer) (defScope s_is_integer) .none kV17 dc17 pm17 an17 cd17 ct17), sl17⟩)
    (c17 : PySem.W.codeIn K cd17 "is_integer" = true)
    (k17 : PySem.W.keepIn K (.ref f17) = true)
    (a18 : PySem.W.nsIn K mainGlobals "is_count" = some (some (.ref f18)))
    (l18 : K.lookup f18 = some ⟨oc18, od18, .func (PySem.W.fnOf "is_count" "is_count" (defArgs s_is_count) (defBody s_is_count) (defScope s_is_count) .none kV18 dc18 pm18 an18 cd18 ct18), sl18⟩)
    (c18 : PySem.W.codeIn K cd18 "is_count" = true)
    (k18 : PySem.W.keepIn K (.ref f18) = true)
    (a19 : PySem.W.nsIn K mainGlobals "is_rising" = some (some (.ref f19)))
    (l19 : K.lookup f19 = some ⟨oc19, od19, .func (PySem.W.fnOf "is_rising" "is_rising" (defArgs s_is_rising) (defBody s_is_rising) (defScope s_is_rising) .none kV19 dc19 pm19 an19 cd19 ct19), sl19⟩)
    (c19 : PySem.W.codeIn K cd19 "is_rising" = true)
    (k19 : PySem.W.keepIn K (.ref f19) = true)
    (a20 : PySem.W.nsIn K mainGlobals "is_table" = some (some (.ref f20)))
    (l20 : K.lookup f20 = some ⟨oc20, od20, .func (PySem.W.fnOf "is_table" "is_table" (defArgs s_is_table) (defBody s_is_table) (defScope s_is_table) .none kV20 dc20 pm20 an20 cd20 ct20), sl20⟩)
    (c20 : PySem.W.codeIn K cd20 "is_table" = true)
    (k20 : PySem.W.keepIn K (.ref f20) = true)
    (a21 : PySem.W.nsIn K mainGlobals "_law_are_up" = some (some (.ref f21)))
    (l21 : K.lookup f21 = some ⟨oc21, od21, .func (PySem.W.fnOf "_law_are_up" "_law_are_up" (defArgs s__law_are_up) (defBody s__law_are_up) (defScope s__law_are_up) .none kV21 dc21 pm21 an21 cd21 ct21), sl21⟩)
    (c21 : PySem.W.codeIn K cd21 "_law_are_up" = true)
    (k21 : PySem.W.keepIn K (.ref f21) = true)
    (a22 : PySem.W.nsIn K mainGlobals "_law_is_table" = some (some (.ref f22)))
    (l22 : K.lookup f22 = some ⟨oc22, od22, .func (PySem.W.fnOf "_law_is_table" "_law_is_table" (defArgs s__law_is_table) (defBody s__law_is_table) (defScope s__law_is_table) .none kV22 dc22 pm22 an22 cd22 ct22), sl22⟩)
    (c22 : PySem.W.codeIn K cd22 "_law_is_table" = true)
    (k22 : PySem.W.keepIn K (.ref f22) = true)
    (a23 : PySem.W.nsIn K mainGlobals "law" = some (some (.ref f23)))
    (l23 : K.lookup f23 = some ⟨oc23, od23, .func (PySem.W.fnOf "law" "law" (defArgs s_law) (defBody s_law) (defScope s_law) .none kV23 dc23 pm23 an23 cd23 ct23), sl23⟩)
    (c23 : PySem.W.codeIn K cd23 "law" = true)
    (k23 : PySem.W.keepIn K (.ref f23) = true)
    (z_abs : PySem.W.nsIn K mainGlobals "abs" = some none)
    (z_all : PySem.W.nsIn K mainGlobals "all" = some none)
    (z_bool : PySem.W.nsIn K mainGlobals "bool" = some none)
    (z_dict : PySem.W.nsIn K mainGlobals "dict" = some none)
    (z_int : PySem.W.nsIn K mainGlobals "int" = some none)
    (z_isinstance : PySem.W.nsIn K mainGlobals "isinstance" = some none)
    (z_len : PySem.W.nsIn K mainGlobals "len" = some none)
    (z_list : PySem.W.nsIn K mainGlobals "list" = some none)
    (z_max : PySem.W.nsIn K mainGlobals "max" = some none)
    (z_min : PySem.W.nsIn K mainGlobals "min" = some none)
    (z_range : PySem.W.nsIn K mainGlobals "range" = some none)
    (z_repr : PySem.W.nsIn K mainGlobals "repr" = some none)
    (z_sorted : PySem.W.nsIn K mainGlobals "sorted" = some none)
    (z_str : PySem.W.nsIn K mainGlobals "str" = some none)
    (z_tuple : PySem.W.nsIn K mainGlobals "tuple" = some none)
    (z_zip : PySem.W.nsIn K mainGlobals "zip" = some none)
    : ∃ fd : FuncData, (∀ (s : Shared) (v : Value), BindsTo s fd ⟨[v], []⟩ [("script", v)]) ∧ ∀ base : Heap, K.In base → base.Ns mainGlobals mg → FnG l.prog w K mg base 9 fa fd ["script"] (spD K mg 1 sem_law) := by
  cases hfa.symm.trans (PySem.W.mg_of X G a23)
  have F0 := fun_mk (st := s__law_bag) l0 c0 k0
  have b0 := F0.binds (ps := ["script"]) fun _ _ _ _ _ _ us hl => match us, hl with | [_], _ => rfl
  have F1 := fun_mk (st := s__law_take) l1 c1 k1
  have b1 := F1.binds (ps := ["bag", "many"]) fun _ _ _ _ _ _ us hl => match us, hl with | [_, _], _ => rfl
  have F2 := fun_mk (st := s__law_some) l2 c2 k2
  have b2 := F2.binds (ps := ["bag", "things"]) fun _ _ _ _ _ _ us hl => match us, hl with | [_, _], _ => rfl
  have F3 := fun_mk (st := s__law_table) l3 c3 k3
  have b3 := F3.binds (ps := ["there", "most"]) fun _ _ _ _ _ _ us hl => match us, hl with | [_, _], _ => rfl
  have F4 := fun_mk (st := s__law_drawn_table) l4 c4 k4
  have b4 := F4.binds (ps := ["bag"]) fun _ _ _ _ _ _ us hl => match us, hl with | [_], _ => rfl
  have F5 := fun_mk (st := s__law_has) l5 c5 k5
  have b5 := F5.binds (ps := ["table", "number"]) fun _ _ _ _ _ _ us hl => match us, hl with | [_, _], _ => rfl
  have F6 := fun_mk (st := s__law_shown) l6 c6 k6
  have b6 := F6.binds (ps := ["table", "most"]) fun _ _ _ _ _ _ us hl => match us, hl with | [_, _], _ => rfl
  have F7 := fun_mk (st := s__law_alike) l7 c7 k7
  have b7 := F7.binds (ps := ["found", "due"]) fun _ _ _ _ _ _ us hl => match us, hl with | [_, _], _ => rfl
  have F8 := fun_mk (st := s_moved) l8 c8 k8
  have b8 := F8.binds (ps := ["table", "by"]) fun _ _ _ _ _ _ us hl => match us, hl with | [_, _], _ => rfl
  have F9 := fun_mk (st := s_common_divisor) l9 c9 k9
  have b9 := F9.binds (ps := ["one", "other"]) fun _ _ _ _ _ _ us hl => match us, hl with | [_, _], _ => rfl
  have F10 := fun_mk (st := s_has) l10 c10 k10
  have b10 := F10.binds (ps := ["table", "number"]) fun _ _ _ _ _ _ us hl => match us, hl with | [_, _], _ => rfl
  have F11 := fun_mk (st := s_least_table) l11 c11 k11
  have b11 := F11.binds (ps := ["marks", "begin", "modulus"]) fun _ _ _ _ _ _ us hl => match us, hl with | [_, _, _], _ => rfl
  have F12 := fun_mk (st := s_in_both) l12 c12 k12
  have b12 := F12.binds (ps := ["one", "other"]) fun _ _ _ _ _ _ us hl => match us, hl with | [_, _], _ => rfl
  have F13 := fun_mk (st := s_next_in) l13 c13 k13
  have b13 := F13.binds (ps := ["table", "number"]) fun _ _ _ _ _ _ us hl => match us, hl with | [_, _], _ => rfl
  have F14 := fun_mk (st := s__law_odd) l14 c14 k14
  have b14 := F14.binds (ps := ["bag"]) fun _ _ _ _ _ _ us hl => match us, hl with | [_], _ => rfl
  have F15 := fun_mk (st := s__law_is_int) l15 c15 k15
  have b15 := F15.binds (ps := ["thing"]) fun _ _ _ _ _ _ us hl => match us, hl with | [_], _ => rfl
  have F16 := fun_mk (st := s__law_bent) l16 c16 k16
  have b16 := F16.binds (ps := ["bag", "thing", "deep"]) fun _ _ _ _ _ _ us hl => match us, hl with | [_, _, _], _ => rfl
  have F17 := fun_mk (st := s_is_integer) l17 c17 k17
  have b17 := F17.binds (ps := ["thing"]) fun _ _ _ _ _ _ us hl => match us, hl with | [_], _ => rfl
  have F18 := fun_mk (st := s_is_count) l18 c18 k18
  have b18 := F18.binds (ps := ["thing"]) fun _ _ _ _ _ _ us hl => match us, hl with | [_], _ => rfl
  have F19 := fun_mk (st := s_is_rising) l19 c19 k19
  have b19 := F19.binds (ps := ["thing", "below"]) fun _ _ _ _ _ _ us hl => match us, hl with | [_, _], _ => rfl
  have F20 := fun_mk (st := s_is_table) l20 c20 k20
  have b20 := F20.binds (ps := ["thing"]) fun _ _ _ _ _ _ us hl => match us, hl with | [_], _ => rfl
  have F21 := fun_mk (st := s__law_are_up) l21 c21 k21
  have b21 := F21.binds (ps := ["thing", "most"]) fun _ _ _ _ _ _ us hl => match us, hl with | [_, _], _ => rfl
  have F22 := fun_mk (st := s__law_is_table) l22 c22 k22
  have b22 := F22.binds (ps := ["thing"]) fun _ _ _ _ _ _ us hl => match us, hl with | [_], _ => rfl
  have F23 := fun_mk (st := s_law) l23 c23 k23
  refine ⟨PySem.W.fnOf "law" "law" (defArgs s_law) (defBody s_law) (defScope s_law) .none kV23 dc23 pm23 an23 cd23 ct23, fun s v => .of_eq rfl, fun base kin ns => ?_⟩
  have D__law_bag : Def l.prog w K mg base "_law_bag" 1 1 sem__law_bag := ⟨_, _, _, PySem.W.mg_of X G a0, k0, b0, rfl, ok__law_bag F0 ⟨PySem.W.mg_none_of X G z_abs⟩⟩
  have D__law_take : Def l.prog w K mg base "_law_take" 1 2 sem__law_take := ⟨_, _, _, PySem.W.mg_of X G a1, k1, b1, rfl, ok__law_take F1 ⟨PySem.W.mg_none_of X G z_int⟩⟩
  have D__law_some : Def l.prog w K mg base "_law_some" 2 2 sem__law_some := ⟨_, _, _, PySem.W.mg_of X G a2, k2, b2, rfl, ok__law_some F2 ⟨PySem.W.mg_none_of X G z_len, D__law_take⟩⟩
  have D__law_table : Def l.prog w K mg base "_law_table" 1 2 sem__law_table := ⟨_, _, _, PySem.W.mg_of X G a3, k3, b3, rfl, ok__law_table F3 ⟨PySem.W.mg_none_of X G z_int, PySem.W.mg_none_of X G z_range, PySem.W.mg_none_of X G z_sorted, PySem.W.mg_none_of X G z_tuple⟩⟩
  have D__law_drawn_table : Def l.prog w K mg base "_law_drawn_table" 3 1 sem__law_drawn_table := ⟨_, _, _, PySem.W.mg_of X G a4, k4, b4, rfl, ok__law_drawn_table F4 ⟨PySem.W.mg_none_of X G z_range, PySem.W.mg_none_of X G z_dict, PySem.W.mg_none_of X G z_int, D__law_some, D__law_take, D__law_table⟩⟩
  have D__law_has : Def l.prog w K mg base "_law_has" 1 2 sem__law_has := ⟨_, _, _, PySem.W.mg_of X G a5, k5, b5, rfl, ok__law_has F5 ⟨PySem.W.mg_none_of X G z_int⟩⟩
  have D__law_shown : Def l.prog w K mg base "_law_shown" 2 2 sem__law_shown := ⟨_, _, _, PySem.W.mg_of X G a6, k6, b6, rfl, ok__law_shown F6 ⟨PySem.W.mg_none_of X G z_range, PySem.W.mg_none_of X G z_dict, D__law_has⟩⟩
  have D__law_alike : Def l.prog w K mg base "_law_alike" 1 2 sem__law_alike := ⟨_, _, _, PySem.W.mg_of X G a7, k7, b7, rfl, ok__law_alike F7 ⟨PySem.W.mg_none_of X G z_repr⟩⟩
  have D_moved : Def l.prog w K mg base "moved" 1 2 sem_moved := ⟨_, _, _, PySem.W.mg_of X G a8, k8, b8, rfl, ok_moved F8 ⟨PySem.W.mg_none_of X G z_tuple, PySem.W.mg_none_of X G z_sorted⟩⟩
  have D_common_divisor : Def l.prog w K mg base "common_divisor" 1 2 sem_common_divisor := ⟨_, _, _, PySem.W.mg_of X G a9, k9, b9, rfl, ok_common_divisor F9 ⟨PySem.W.mg_none_of X G z_abs⟩⟩
  have D_has : Def l.prog w K mg base "has" 1 2 sem_has := ⟨_, _, _, PySem.W.mg_of X G a10, k10, b10, rfl, ok_has F10 ⟨trivial⟩⟩
  have D_least_table : Def l.prog w K mg base "least_table" 1 3 sem_least_table := ⟨_, _, _, PySem.W.mg_of X G a11, k11, b11, rfl, ok_least_table F11 ⟨PySem.W.mg_none_of X G z_range, PySem.W.mg_none_of X G z_all, PySem.W.mg_none_of X G z_tuple, PySem.W.mg_none_of X G z_sorted⟩⟩
  have D_in_both : Def l.prog w K mg base "in_both" 2 2 sem_in_both := ⟨_, _, _, PySem.W.mg_of X G a12, k12, b12, rfl, ok_in_both F12 ⟨PySem.W.mg_none_of X G z_max, PySem.W.mg_none_of X G z_range, D_common_divisor, D_has, D_least_table⟩⟩
  have D_next_in : Def l.prog w K mg base "next_in" 2 2 sem_next_in := ⟨_, _, _, PySem.W.mg_of X G a13, k13, b13, rfl, ok_next_in F13 ⟨PySem.W.mg_none_of X G z_max, PySem.W.mg_none_of X G z_range, D_has⟩⟩
  have D__law_odd : Def l.prog w K mg base "_law_odd" 3 1 sem__law_odd := ⟨_, _, _, PySem.W.mg_of X G a14, k14, b14, rfl, ok__law_odd F14 ⟨D__law_some⟩⟩
  have D__law_is_int : Def l.prog w K mg base "_law_is_int" 1 1 sem__law_is_int := ⟨_, _, _, PySem.W.mg_of X G a15, k15, b15, rfl, ok__law_is_int F15 ⟨PySem.W.mg_none_of X G z_isinstance, PySem.W.mg_none_of X G z_int, PySem.W.mg_none_of X G z_bool⟩⟩
  have D__law_bent : Def l.prog w K mg base "_law_bent" 8 3 (sem__law_bent 4) := def__law_bent (PySem.W.mg_of X G a16) k16 b16 F16 ⟨PySem.W.mg_none_of X G z_str, PySem.W.mg_none_of X G z_isinstance, PySem.W.mg_none_of X G z_dict, PySem.W.mg_none_of X G z_tuple, PySem.W.mg_none_of X G z_len, PySem.W.mg_none_of X G z_list, D__law_take, D__law_odd, D__law_is_int, D__law_some⟩ 4
  have D_is_integer : Def l.prog w K mg base "is_integer" 1 1 sem_is_integer := ⟨_, _, _, PySem.W.mg_of X G a17, k17, b17, rfl, ok_is_integer F17 ⟨PySem.W.mg_none_of X G z_isinstance, PySem.W.mg_none_of X G z_int, PySem.W.mg_none_of X G z_bool⟩⟩
  have D_is_count : Def l.prog w K mg base "is_count" 2 1 sem_is_count := ⟨_, _, _, PySem.W.mg_of X G a18, k18, b18, rfl, ok_is_count F18 ⟨D_is_integer⟩⟩
  have D_is_rising : Def l.prog w K mg base "is_rising" 3 2 sem_is_rising := ⟨_, _, _, PySem.W.mg_of X G a19, k19, b19, rfl, ok_is_rising F19 ⟨PySem.W.mg_none_of X G z_isinstance, PySem.W.mg_none_of X G z_tuple, PySem.W.mg_none_of X G z_all, PySem.W.mg_none_of X G z_zip, D_is_count⟩⟩
  have D_is_table : Def l.prog w K mg base "is_table" 4 1 sem_is_table := ⟨_, _, _, PySem.W.mg_of X G a20, k20, b20, rfl, ok_is_table F20 ⟨PySem.W.mg_none_of X G z_isinstance, PySem.W.mg_none_of X G z_tuple, PySem.W.mg_none_of X G z_len, PySem.W.mg_none_of X G z_range, PySem.W.mg_none_of X G z_all, D_is_count, D_is_rising⟩⟩
  have D__law_are_up : Def l.prog w K mg base "_law_are_up" 2 2 sem__law_are_up := ⟨_, _, _, PySem.W.mg_of X G a21, k21, b21, rfl, ok__law_are_up F21 ⟨PySem.W.mg_none_of X G z_isinstance, PySem.W.mg_none_of X G z_tuple, PySem.W.mg_none_of X G z_zip, D__law_is_int⟩⟩
  have D__law_is_table : Def l.prog w K mg base "_law_is_table" 3 1 sem__law_is_table := ⟨_, _, _, PySem.W.mg_of X G a22, k22, b22, rfl, ok__law_is_table F22 ⟨PySem.W.mg_none_of X G z_isinstance, PySem.W.mg_none_of X G z_tuple, PySem.W.mg_none_of X G z_len, PySem.W.mg_none_of X G z_range, PySem.W.mg_none_of X G z_int, D__law_is_int, D__law_are_up⟩⟩
  exact ok_law F23 ⟨PySem.W.mg_none_of X G z_range, PySem.W.mg_none_of X G z_repr, PySem.W.mg_none_of X G z_dict, PySem.W.mg_none_of X G z_max, PySem.W.mg_none_of X G z_min, PySem.W.mg_none_of X G z_tuple, PySem.W.mg_none_of X G z_sorted, PySem.W.mg_none_of X G z_list, D__law_bag, D__law_drawn_table, D__law_some, D__law_shown, D__law_table, D__law_alike, D_moved, D__law_has, D_in_both, D__law_take, D_has, D_next_in, D__law_bent, D__law_odd, D_is_table, D__law_is_table⟩
theorem walk {l : PySem.W.OpenLaw} {q : Program} {loose : List Str} {XP : (Str → Option Value) → Heap → Prop} {YP : World → Heap → Prop} {d : DefRec} {K : Params → Frg} (hn : l.most = some 63) (hdf : d.params.defaults = [])
    (hY : ∀ (w : World) (h : Heap), YP w h → (K w.params).In h)
    (F : ∀ (w : World) (mg : Str → Option Value) (fa : Addr) (h : Heap), (K w.params).In h → h.Ns mainGlobals mg → mg d.name = some (.ref fa) →
      ∃ fd : FuncData, (∀ (s : Shared) (u : Value), BindsTo s fd ⟨[u], []⟩ [("script", u)]) ∧ ∀ base : Heap, (K w.params).In base → base.Ns mainGlobals mg → FnG l.prog w (K w.params) mg base 9 fa fd ["script"] (spD (K w.params) mg 1 sem_law)) :
    PySem.W.WalkO q loose XP YP l.row.toRowW d [] (fun f vs => PySem.call f vs) :=
  walk_ofD (n := 63) (k := 9) (x := "script") (sem := sem_law) hn (by decide) hdf ⟨⟨rfl, by decide, by decide⟩, rfl⟩ hY F law_ev
end DL
open PySem PySem.W PyProof.Rows
set_option maxRecDepth 100000 in
set_option maxHeartbeats 0 in
theorem PySem.Challenge.cw_unwaited_k24_tables_of_any_integers_holds : PySem.Challenge.rw_unwaited_k24_tables_of_any_integers.Holds := by
  w_on; o_law; k_head; (case hw => w_witness2)
  k_fill
  refine DL.walk (l := PySem.Challenge.rw_unwaited_k24_tables_of_any_integers) rfl rfl (fun w h Y => PySem.W.kIn_of Y) ?F
  case F =>
    intro w mg fa h KX G hmg
    refine' DL.all_mk KX G hmg ?a0 ?l0 ?c0 ?k0 ?a1 ?l1 ?c1 ?k1 ?a2 ?l2 ?c2 ?k2 ?a3 ?l3 ?c3 ?k3 ?a4 ?l4 ?c4 ?k4 ?a5 ?l5 ?c5 ?k5 ?a6 ?l6 ?c6 ?k6 ?a7 ?l7 ?c7 ?k7 ?a8 ?l8 ?c8 ?k8 ?a9 ?l9 ?c9 ?k9 ?a10 ?l10 ?c10 ?k10 ?a11 ?l11 ?c11 ?k11 ?a12 ?l12 ?c12 ?k12 ?a13 ?l13 ?c13 ?k13 ?a14 ?l14 ?c14 ?k14 ?a15 ?l15 ?c15 ?k15 ?a16 ?l16 ?c16 ?k16 ?a17 ?l17 ?c17 ?k17 ?a18 ?l18 ?c18 ?k18 ?a19 ?l19 ?c19 ?k19 ?a20 ?l20 ?c20 ?k20 ?a21 ?l21 ?c21 ?k21 ?a22 ?l22 ?c22 ?k22 ?a23 ?l23 ?c23 ?k23 ?z_abs ?z_all ?z_bool ?z_dict ?z_int ?z_isinstance ?z_len ?z_list ?z_max ?z_min ?z_range ?z_repr ?z_sorted ?z_str ?z_tuple ?z_zip
    (case a0 => k_is); (case l0 => k_is); (case c0 => k_is); (case k0 => k_is)
    (case a1 => k_is); (case l1 => k_is); (case c1 => k_is); (case k1 => k_is)
    (case a2 => k_is); (case l2 => k_is); (case c2 => k_is); (case k2 => k_is)
    (case a3 => k_is); (case l3 => k_is); (case c3 => k_is); (case k3 => k_is)
    (case a4 => k_is); (case l4 => k_is); (case c4 => k_is); (case k4 => k_is)
    (case a5 => k_is); (case l5 => k_is); (case c5 => k_is); (case k5 => k_is)
    (case a6 => k_is); (case l6 => k_is); (case c6 => k_is); (case k6 => k_is)
    (case a7 => k_is); (case l7 => k_is); (case c7 => k_is); (case k7 => k_is)
    (case a8 => k_is); (case l8 => k_is); (case c8 => k_is); (case k8 => k_is)
    (case a9 => k_is); (case l9 => k_is); (case c9 => k_is); (case k9 => k_is)
    (case a10 => k_is); (case l10 => k_is); (case c10 => k_is); (case k10 => k_is)
    (case a11 => k_is); (case l11 => k_is); (case c11 => k_is); (case k11 => k_is)
    (case a12 => k_is); (case l12 => k_is); (case c12 => k_is); (case k12 => k_is)
    (case a13 => k_is); (case l13 => k_is); (case c13 => k_is); (case k13 => k_is)
    (case a14 => k_is); (case l14 => k_is); (case c14 => k_is); (case k14 => k_is)
    (case a15 => k_is); (case l15 => k_is); (case c15 => k_is); (case k15 => k_is)
    (case a16 => k_is); (case l16 => k_is); (case c16 => k_is); (case k16 => k_is)
    (case a17 => k_is); (case l17 => k_is); (case c17 => k_is); (case k17 => k_is)
    (case a18 => k_is); (case l18 => k_is); (case c18 => k_is); (case k18 => k_is)
    (case a19 => k_is); (case l19 => k_is); (case c19 => k_is); (case k19 => k_is)
    (case a20 => k_is); (case l20 => k_is); (case c20 => k_is); (case k20 => k_is)
    (case a21 => k_is); (case l21 => k_is); (case c21 => k_is); (case k21 => k_is)
    (case a22 => k_is); (case l22 => k_is); (case c22 => k_is); (case k22 => k_is)
    (case a23 => k_is); (case l23 => k_is); (case c23 => k_is); (case k23 => k_is)
    (case z_abs => k_is); (case z_all => k_is); (case z_bool => k_is); (case z_dict => k_is)
    (case z_int => k_is); (case z_isinstance => k_is); (case z_len => k_is); (case z_list => k_is)
    (case z_max => k_is); (case z_min => k_is); (case z_range => k_is); (case z_repr => k_is)
    (case z_sorted => k_is); (case z_str => k_is); (case z_tuple => k_is); (case z_zip => k_is)
