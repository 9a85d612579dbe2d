import PyProof.Rows.All
import Wide.All
import OpenK.AllK
import Wide.FinOn
import HandS.ForMost
import HandS.EndTab
import HandS.TupAny
import HandS.Deep
import HandS.Star
import HandS.Conv
import HandS.Walk
import HandS.More
import HandS.Strs
import KE.SortKeyHeap
import HandS.NestedK
import KE.GoesEnum
import HandS.Style
import KE.SortData
import HandS.TupSets
import HandS.SetFor
import KE.KDictKeyed
import PySem.Challenge.RW_enoughlooks_k48_whole_engine_look_by_loo
import PyProof.ReprRoads
import PyProof.FitsInt
import PyProof.Rows.StrDigits
import PyProof.Rows.IntBool
import HandS.ListItems
import HandS.HeadHook4
import HandS.Head0
import HandS.Head1
import HandS.Head2
import HandS.HeadHook1
import HandS.HeadHook2
import HandS.HeadHook3
set_option Elab.async false
set_option linter.all false
set_option autoImplicit false
set_option maxRecDepth 100000
set_option maxHeartbeats 8000000
/-! data, its standing in a heap, the two heaps, the static judgements -/
namespace E
open LamX L2 PyProof.Rows PySem PySem.Spec

inductive D where
  | non | bl (b : Bool) | int (i : Int) | str (s : Str) | tup (xs : List D) | ftp (xs : List D) | lst (xs : List D) | dic (kvs : List (Str × D)) | bag | scr (ns : List Int)

/-- the bag of draws: three ints and the cells' list at c -/
def BagO (a c : Addr) : HO := .ext fun h => ∃ (b0 b1 : Int) (b2 : Nat) (t0 t1 t2 : Tok) (n : Nat), h.get? a = some { cls := .type "list", data := .seq #[.int b0 t0, .int b1 t1, .int (b2 : Int) t2, .ref c] n }

/-- the cells' list -/
def CellsAt (K : PySem.W.Frag) (H : Hp) (c : Addr) : Prop := ∃ ns : List Int, ns.length ≤ 100 ∧ SqL K H c (ns.map V.int)
mutual
inductive Da (K : PySem.W.Frag) (H : Hp) : V → D → Prop
  | non : Da K H .non .non
  | bl (b : Bool) : Da K H (.bl b) (.bl b)
  | int (i : Int) : Da K H (.int i) (.int i)
  | str (x : Str) : Da K H (.str x) (.str x)
  | lst {a : Addr} {xs : List V} {ds : List D} : H a = some (.lst xs) → DaAll K H xs ds → Da K H (.ref a) (.lst ds)
  | tup {a : Addr} {xs : List V} {ds : List D} : SqT K H a xs → DaAll K H xs ds → Da K H (.ref a) (.tup ds)
  | ftp {a : Addr} {o : Obj} {xs : List V} {ds : List D} : H a = some (.frz o (.tup xs)) → o.dict = none → DaAll K H xs ds → Da K H (.ref a) (.ftp ds)
  | dic {a : Addr} {kvs : List (Key × V)} {es : List (Str × D)} : H a = some (.dK kvs) → DaKv K H kvs es → Da K H (.ref a) (.dic es)
  | bag {a c : Addr} : H a = some (BagO a c) → CellsAt K H c → Da K H (.ref a) .bag
  | scr {a : Addr} {ns : List Int} : SqL K H a (ns.map V.int) → Da K H (.ref a) (.scr ns)
inductive DaAll (K : PySem.W.Frag) (H : Hp) : List V → List D → Prop
  | nil : DaAll K H [] []
  | cons {v : V} {vs : List V} {d : D} {ds : List D} : Da K H v d → DaAll K H vs ds → DaAll K H (v :: vs) (d :: ds)
inductive DaKv (K : PySem.W.Frag) (H : Hp) : List (Key × V) → List (Str × D) → Prop
  | nil : DaKv K H [] []
  | cons {k : Str} {v : V} {vs : List (Key × V)} {d : D} {ds : List (Str × D)} : Da K H v d → DaKv K H vs ds → DaKv K H ((.inr k, v) :: vs) ((k, d) :: ds)
end


section
variable {T : List (Addr × Str)} {K : PySem.W.Frag} {H H1 H2 H' B B' : Hp} {a p l : Addr} {o : HO} {xs ys : List V}
theorem rd_ext {u : HO} (g : ExtN H H') (h : Rd H a u) (hu : ∀ ps, u ≠ .tbl ps) : Rd H' a u := by
  rcases h with h | ⟨o, h⟩
  · exact .inl (g a _ h hu)
  · exact .inr ⟨o, g a _ h nofun⟩
theorem sqL_ext (g : ExtN H H') (h : SqL K H a xs) : SqL K H' a xs := h.imp (fun h => rd_ext g h nofun) id
theorem cells_ext (g : ExtN H H') (h : CellsAt K H a) : CellsAt K H' a := by
  obtain ⟨ns, h1, h2⟩ := h
  exact ⟨ns, h1, sqL_ext g h2⟩
theorem sqT_ext (g : ExtN H H') (h : SqT K H a xs) : SqT K H' a xs := h.imp (fun h => rd_ext g h nofun) id
end
mutual
theorem Da.mono {K : PySem.W.Frag} {H H' : Hp} (g : ExtN H H') : ∀ {v : V} {d : D}, Da K H v d → Da K H' v d
  | _, _, .non => .non
  | _, _, .bl b => .bl b
  | _, _, .int i => .int i
  | _, _, .str i => .str i
  | _, _, .lst h a => .lst (g _ _ h nofun) (a.mono g)
  | _, _, .tup h a => .tup (sqT_ext g h) (a.mono g)
  | _, _, .ftp h e a => .ftp (g _ _ h nofun) e (a.mono g)
  | _, _, .dic h a => .dic (g _ _ h nofun) (a.mono g)
  | _, _, .bag h a => .bag (g _ _ h nofun) (cells_ext g a)
  | _, _, .scr h => .scr (sqL_ext g h)
theorem DaAll.mono {K : PySem.W.Frag} {H H' : Hp} (g : ExtN H H') : ∀ {v : List V} {d : List D}, DaAll K H v d → DaAll K H' v d
  | _, _, .nil => .nil
  | _, _, .cons h a => .cons (h.mono g) (a.mono g)
theorem DaKv.mono {K : PySem.W.Frag} {H H' : Hp} (g : ExtN H H') : ∀ {v : List (Key × V)} {d : List (Str × D)}, DaKv K H v d → DaKv K H' v d
  | _, _, .nil => .nil
  | _, _, .cons h a => .cons (h.mono g) (a.mono g)
end
section
variable {K : PySem.W.Frag} {H : Hp}
theorem DaAll.length : ∀ {vs : List V} {ds : List D}, DaAll K H vs ds → vs.length = ds.length
  | _, _, .nil => rfl
  | _, _, .cons _ t => congrArg (· + 1) t.length
theorem DaAll.get : ∀ {vs : List V} {ds : List D} {i : Nat} {d : D}, DaAll K H vs ds → ds[i]? = some d → ∃ v, vs[i]? = some v ∧ Da K H v d
  | _, _, _, _, .nil, e => by simp at e
  | _, _, 0, _, .cons h _, e => by simp at e; subst e; exact ⟨_, rfl, h⟩
  | _, _, i + 1, d, .cons _ t, e => by
    obtain ⟨v, h1, h2⟩ := DaAll.get (i := i) t (by simpa using e)
    exact ⟨v, by simpa using h1, h2⟩
theorem DaAll.getV : ∀ {vs : List V} {ds : List D} {i : Nat} {v : V}, DaAll K H vs ds → vs[i]? = some v → ∃ d, ds[i]? = some d ∧ Da K H v d
  | _, _, _, _, .nil, e => by simp at e
  | _, _, 0, _, .cons h _, e => by simp at e; subst e; exact ⟨_, rfl, h⟩
  | _, _, i + 1, d, .cons _ t, e => by
    obtain ⟨v, h1, h2⟩ := DaAll.getV (i := i) t (by simpa using e)
    exact ⟨v, by simpa using h1, h2⟩
theorem DaAll.append : ∀ {vs us : List V} {ds es : List D}, DaAll K H vs ds → DaAll K H us es → DaAll K H (vs ++ us) (ds ++ es)
  | _, _, _, _, .nil, s => s
  | _, _, _, _, .cons r t, s => .cons r (t.append s)
theorem DaAll.take : ∀ {vs : List V} {ds : List D} (n : Nat), DaAll K H vs ds → DaAll K H (vs.take n) (ds.take n)
  | _, _, 0, _ => by rw [List.take_zero, List.take_zero]; exact .nil
  | _, _, _ + 1, .nil => .nil
  | _, _, n + 1, .cons r t => .cons r (t.take n)
theorem DaAll.drop : ∀ {vs : List V} {ds : List D} (n : Nat), DaAll K H vs ds → DaAll K H (vs.drop n) (ds.drop n)
  | _, _, 0, h => h
  | _, _, _ + 1, .nil => .nil
  | _, _, n + 1, .cons _ t => t.drop n
theorem DaAll.insertIdx {v : V} {d : D} (h : Da K H v d) : ∀ {vs : List V} {ds : List D} (n : Nat), DaAll K H vs ds → DaAll K H (vs.insertIdx n v) (ds.insertIdx n d)
  | _, _, 0, t => by rw [List.insertIdx_zero, List.insertIdx_zero]; exact .cons h t
  | _, _, _ + 1, .nil => by simp [List.insertIdx]; exact .nil
  | _, _, n + 1, .cons r t => by rw [List.insertIdx_succ_cons, List.insertIdx_succ_cons]; exact .cons r (t.insertIdx h n)
theorem DaAll.of_get {vs : List V} {ds : List D} (hl : vs.length = ds.length) (h : ∀ (i : Nat) v d, vs[i]? = some v → ds[i]? = some d → Da K H v d) : DaAll K H vs ds := by
  induction vs generalizing ds with
  | nil => cases ds with | nil => exact .nil | cons _ _ => simp at hl
  | cons v vs ih => cases ds with
    | nil => simp at hl
    | cons d ds => exact .cons (h 0 v d rfl rfl) (ih (by simpa using hl) fun i v d a b => h (i + 1) v d (by simpa using a) (by simpa using b))
theorem daAll_ints : ∀ ns : List Int, DaAll K H (ns.map V.int) (ns.map D.int)
  | [] => .nil
  | n :: ns => .cons (.int n) (daAll_ints ns)
theorem daAll_ints_inv : ∀ {vs : List V} {ns : List Int}, DaAll K H vs (ns.map D.int) → vs = ns.map V.int
  | _, [], h => by cases h; rfl
  | _, n :: ns, h => by
    cases h with
    | cons h t => cases h; rw [daAll_ints_inv t]; rfl
end

/-- all but the tables of code objects stays; the tables only grow; nothing goes -/
structure Gr (T : List (Addr × Str)) (H H' : Hp) : Prop where
  ext : ExtN H H'
  tab : Tabs T H → Tabs T H'
  dom : ∀ a, H' a = none → H a = none

section
variable {T : List (Addr × Str)} {K : PySem.W.Frag} {H H1 H2 H' B B' : Hp} {a p l : Addr} {o : HO} {xs ys : List V}
theorem Gr.refl (H : Hp) : Gr T H H := ⟨.refl H, id, fun _ h => h⟩
theorem Gr.trans (a : Gr T H H1) (b : Gr T H1 H2) : Gr T H H2 := ⟨a.ext.trans b.ext, fun t => b.tab (a.tab t), fun c h => a.dom c (b.dom c h)⟩
theorem Gr.of (h : ∀ b o, H b = some o → H' b = some o) : Gr T H H' := ⟨.of h, fun t => t.ext h, fun a n => by
  cases e : H a with
  | none => rfl
  | some o => rw [h _ _ e] at n; cases n⟩
theorem Gr.new (h : H p = none) : Gr T H (upd H p o) := .of fun b u e => by rw [upd_ne (ne_of_none e h)]; exact e
theorem Gr.isl (g : Gr T H H') (e : H a = some (.lst xs)) : H' a = some (.lst xs) := g.ext a _ e nofun
theorem Gr.ist (g : Gr T H H') (e : H a = some (.tup xs)) : H' a = some (.tup xs) := g.ext a _ e nofun
/-- a known object that the elder heap does not know is changed -/
theorem Gr.mut (g : Gr T H H') (hn : H l = none) (ho : ∃ u, H' l = some u ∧ (∀ ps, u ≠ .tbl ps) ∧ ∀ c q, u ≠ CodeO c q) : Gr T H (upd H' l o) := by
  obtain ⟨u, hu, n1, n2⟩ := ho
  refine ⟨fun b x e n => ?_, fun t p hp => ?_, fun b n => ?_⟩
  · rw [upd_ne (ne_of_none e hn)]; exact g.ext b x e n
  · obtain ⟨ps, h1, h2, h3⟩ := g.tab t p hp
    have e1 : p.1 ≠ l := fun z => by rw [z, hu] at h1; exact n1 ps (Option.some.inj h1)
    refine ⟨ps, by rw [upd_ne e1]; exact h1, h2, fun pos cv hc => ?_⟩
    obtain ⟨c, e, h4⟩ := h3 pos cv hc
    have e2 : c ≠ l := fun z => by rw [z, hu] at h4; exact n2 _ _ (Option.some.inj h4)
    exact ⟨c, e, by rw [upd_ne e2]; exact h4⟩
  · by_cases hb : b = l
    · rw [hb]; exact hn
    · rw [upd_ne hb] at n; exact g.dom b n
theorem mut_l {xs : List V} (h : H' l = some (.lst xs)) : ∃ u, H' l = some u ∧ (∀ ps, u ≠ .tbl ps) ∧ ∀ c q, u ≠ CodeO c q := ⟨_, h, nofun, nofun⟩
theorem mut_d {xs : List (Key × V)} (h : H' l = some (.dK xs)) : ∃ u, H' l = some u ∧ (∀ ps, u ≠ .tbl ps) ∧ ∀ c q, u ≠ CodeO c q := ⟨_, h, nofun, nofun⟩

/-- B: the part of H that stays as it is; from (B, H) to (B', H'): only new objects that may change come to B -/
structure Ge (T : List (Addr × Str)) (B H B' H' : Hp) : Prop where
  gr : Gr T H H'
  ext : ∀ a o, B a = some o → B' a = some o
  sub : ∀ a o, B' a = some o → H' a = some o
  new : ∀ a, Mut (B' a) → B a ≠ none ∨ H a = none
  nt : ∀ a ps, B' a ≠ some (.tbl ps)
/-- the pair as it stands -/
structure Go (T : List (Addr × Str)) (B H : Hp) : Prop where
  sub : ∀ a o, B a = some o → H a = some o
  nt : ∀ a ps, B a ≠ some (.tbl ps)
  tab : Tabs T H
theorem Go.refl (o : Go T B H) : Ge T B H B H := ⟨.refl H, fun _ _ h => h, o.sub, fun a m => .inl fun n => by rw [n] at m; exact m, o.nt⟩
theorem Ge.go (g : Ge T B H B' H') (o : Go T B H) : Go T B' H' := ⟨g.sub, g.nt, g.gr.tab o.tab⟩
theorem Ge.trans {B2 : Hp} (g : Ge T B H B' H') (h : Ge T B' H' B2 H2) : Ge T B H B2 H2 :=
  ⟨g.gr.trans h.gr, fun a o e => h.ext a o (g.ext a o e), h.sub, fun a m => (h.new a m).elim (fun n => (by
    cases q : B' a with
    | none => exact absurd q n
    | some o =>
      have e2 : B2 a = some o := h.ext a o q
      rw [e2] at m
      exact g.new a (by rw [q]; exact m))) fun n => .inr (g.gr.dom a n), h.nt⟩
theorem Ge.extN (g : Ge T B H B' H') : ExtN B B' := .of g.ext
theorem Go.extN (o : Go T B H) : ExtN B H := .of o.sub
theorem Go.grow (o : Go T B H) (g : Gr T H H') : Go T B H' := ⟨fun a u e => g.ext a u (o.sub a u e) fun ps z => o.nt a ps (by rw [← z]; exact e), o.nt, g.tab o.tab⟩
/-- B as it stands -/
theorem Go.ge (o : Go T B H) (g : Gr T H H') : Ge T B H B H' := ⟨g, fun _ _ h => h, (o.grow g).sub, fun a m => .inl fun n => by rw [n] at m; exact m, o.nt⟩
/-- a new object -/
theorem Go.geNew {o' : HO} (o : Go T B H) (hp : H p = none) (hu : ∀ ps, o' ≠ HO.tbl ps) : Ge T B H (upd B p o') (upd H p o') :=
  have nb : B p = none := by
    cases q : B p with
    | none => rfl
    | some u => rw [o.sub _ _ q] at hp; cases hp
  ⟨.new hp, fun a u e => by rw [upd_ne (ne_of_none e nb)]; exact e, fun a u e => by
    by_cases ha : a = p
    · subst ha; rw [upd_same] at e ⊢; exact e
    · rw [upd_ne ha] at e ⊢; exact o.sub a u e, fun a m => by
    by_cases ha : a = p
    · subst ha; exact .inr hp
    · rw [upd_ne ha] at m; exact .inl fun n => by rw [n] at m; exact m, fun a ps z => by
    by_cases ha : a = p
    · subst ha; rw [upd_same] at z; exact hu ps (Option.some.inj z)
    · rw [upd_ne ha] at z; exact o.nt a ps z⟩
theorem Go.nb (o : Go T B H) (hp : H p = none) : B p = none := by
  cases q : B p with
  | none => rfl
  | some u => rw [o.sub _ _ q] at hp; cases hp
end

/-! ### names' values -/
inductive Sl where
  | no | dat (d : D) | own (xs : List D) | ownD (kvs : List (Str × D)) | bag (l : Addr) (vs : List V) (c : Addr)

/-- the slots by data: what stays (in B), lists and dicts of one's own (not in B) -/
structure Sd (K : PySem.W.Frag) (B H : Hp) (σ : L2.St) (ds : List Sl) : Prop where
  dat : ∀ (i : Nat) d, ds[i]? = some (.dat d) → ∃ v, σ[i]? = some (some v) ∧ Da K B v d
  own : ∀ (i : Nat) xs, ds[i]? = some (.own xs) → ∃ l vs, σ[i]? = some (some (.ref l)) ∧ H l = some (.lst vs) ∧ B l = none ∧ DaAll K B vs xs
  ownD : ∀ (i : Nat) xs, ds[i]? = some (.ownD xs) → ∃ l vs, σ[i]? = some (some (.ref l)) ∧ H l = some (.dK vs) ∧ B l = none ∧ DaKv K B vs xs
  inj : ∀ (i j : Nat) xs ys l, ds[i]? = some (.own xs) → ds[j]? = some (.own ys) → σ[i]? = some (some (.ref l)) → σ[j]? = some (some (.ref l)) → i = j
  len : ds.length ≤ σ.length
  bg : ∀ (i : Nat) l vs c, ds[i]? = some (.bag l vs c) → σ[i]? = some (some (.ref l)) ∧ (H l = some (.lst vs) ∧ CellsAt K B c) ∧ B l = none ∧ ∀ (j : Nat) ys, ds[j]? = some (.own ys) → σ[j]? ≠ some (some (.ref l))
section
variable {T : List (Addr × Str)} {K : PySem.W.Frag} {H H1 H2 H' B B' : Hp} {σ : L2.St} {ds : List Sl}
theorem own_free {l : Addr} (g : Ge T B H B' H') (h2 : H l ≠ none) (h3 : B l = none) (hm : Mut (H' l)) : B' l = none := by
  cases q : B' l with
  | none => rfl
  | some o =>
    rw [g.sub _ _ q] at hm
    rcases g.new l (by rw [q]; exact hm) with n | n
    · exact absurd h3 n
    · exact absurd n h2
theorem Sd.grow (s : Sd K B H σ ds) (g : Ge T B H B' H') : Sd K B' H' σ ds := by
  refine ⟨fun i d e => (s.dat i d e).imp fun v h => ⟨h.1, h.2.mono g.extN⟩, fun i xs e => ?_, fun i xs e => ?_, s.inj, s.len, fun i l vs c e => ?_⟩
  · obtain ⟨l, vs, h1, h2, h3, h4⟩ := s.own i xs e
    have hl := g.gr.isl h2
    exact ⟨l, vs, h1, hl, own_free g (by rw [h2]; nofun) h3 (by rw [hl]; trivial), h4.mono g.extN⟩
  · obtain ⟨l, vs, h1, h2, h3, h4⟩ := s.ownD i xs e
    have hl := g.gr.ext _ _ h2 nofun
    exact ⟨l, vs, h1, hl, own_free g (by rw [h2]; nofun) h3 (by rw [hl]; trivial), h4.mono g.extN⟩
  · obtain ⟨h1, ⟨h2, h4⟩, h3, h5⟩ := s.bg i l vs c e
    have hl := g.gr.isl h2
    exact ⟨h1, ⟨hl, cells_ext g.extN h4⟩, own_free g (by rw [h2]; nofun) h3 (by rw [hl]; trivial), h5⟩
end
end E
/-! the static judgements: names, displays, subscripts, operators, tests, calls -/
namespace E
open LamX L2 PyProof.Rows PySem PySem.Spec

def isStar : Expr → Bool
  | .Starred _ _ => true
  | _ => false
theorem se_of {a : Expr} {as : List Expr} {env : Env} (h : isStar a = false) : starEach (a :: as) env = (false, eval a env) :: starEach as env := by
  cases a <;> first | rfl | cases h
/-- an expression's own reading -/
structure wpE (X : Cx) (e : Expr) (σ : L2.St) (H : Hp) (Q : VK) : Prop where
  run : ∀ pins s, Inv X pins σ H s → wpAny (model X.prog X.w) X.A (eval e X.env) (EP X pins σ Q) X.xe s
structure wpT (X : Cx) (e : Expr) (σ : L2.St) (H : Hp) (Q : Bool → Hp → Prop) : Prop where
  run : ∀ pins s, Inv X pins σ H s → wpAny (model X.prog X.w) X.A (isTrue e X.env (eval e X.env)) (TP X pins σ Q) X.xe s
structure wpW (X : Cx) (e : Expr) (σ : L2.St) (H : Hp) (Q : Bool → Hp → Prop) : Prop where
  run : ∀ whole pins s, Inv X pins σ H s → wpAny (model X.prog X.w) X.A (isTrue e X.env whole) (TP X pins σ Q) X.xe s
structure wpA (X : Cx) (es : List Expr) (σ : L2.St) (H : Hp) (Q : List V → Hp → Prop) : Prop where
  run : ∀ pos pins s, Inv X pins σ H s → wpAny (model X.prog X.w) X.A (spliced (backTo pos (starEach es X.env))) (AP X pins σ Q) X.xe s
structure wpSt (X : Cx) (st : Stmt) (D : Ends) (σ : L2.St) (H : Hp) : Prop where
  run : ∀ pins s, Inv X pins σ H s → wpAny (model X.prog X.w) X.A (exec st X.env) (SP X pins D) X.xe s
structure wpSs (X : Cx) (st : List Stmt) (D : Ends) (σ : L2.St) (H : Hp) : Prop where
  run : ∀ pins s, Inv X pins σ H s → wpAny (model X.prog X.w) X.A (execs st X.env) (SP X pins D) X.xe s

section
variable {X : Cx} {e : Expr} {es : List Expr} {st : Stmt} {sts : List Stmt} {σ : L2.St} {H : Hp}
theorem peW : PE X e (wpE X e) := ⟨fun _ _ _ _ _ I h => h.run _ _ I⟩
theorem ptW : PT X e (wpT X e) := ⟨fun _ _ _ _ _ I h => h.run _ _ I⟩
theorem pwW : PW X e (wpW X e) := ⟨fun _ _ _ _ _ _ I h => h.run _ _ _ I⟩
theorem paW : PA X es (wpA X es) := ⟨fun _ _ _ _ _ _ I h => h.run _ _ _ I⟩
theorem psW : PS X st (wpSt X st) := ⟨fun _ _ _ _ _ I h => h.run _ _ I⟩
theorem pssW : PSs X sts (wpSs X sts) := ⟨fun _ _ _ _ _ I h => h.run _ _ I⟩
theorem ofE {t : TE} {Q : VK} (h : PE X e t) (q : t σ H Q) : wpE X e σ H Q := ⟨fun _ _ I => h.run _ _ _ _ _ I q⟩
theorem ofT {t : TT} {Q : Bool → Hp → Prop} (h : PT X e t) (q : t σ H Q) : wpT X e σ H Q := ⟨fun _ _ I => h.run _ _ _ _ _ I q⟩
theorem ofW {t : TT} {Q : Bool → Hp → Prop} (h : PW X e t) (q : t σ H Q) : wpW X e σ H Q := ⟨fun _ _ _ I => h.run _ _ _ _ _ _ I q⟩
theorem ofA {t : TA} {Q : List V → Hp → Prop} (h : PA X es t) (q : t σ H Q) : wpA X es σ H Q := ⟨fun _ _ _ I => h.run _ _ _ _ _ _ I q⟩
theorem ofS {t : TS} {D : Ends} (h : PS X st t) (q : t D σ H) : wpSt X st D σ H := ⟨fun _ _ I => h.run _ _ _ _ _ I q⟩
theorem ofSs {t : TS} {D : Ends} (h : PSs X sts t) (q : t D σ H) : wpSs X sts D σ H := ⟨fun _ _ I => h.run _ _ _ _ _ I q⟩
end

section
variable (X : Cx) (T : List (Addr × Str))
/-- e comes to some data of P, whatever the heap -/
def PN (e : Expr) (ds : List Sl) (P : D → Prop) : Prop := ∀ (B H : Hp) (σ : L2.St), Go T B H → Sd X.K B H σ ds → ∀ Q : VK, (∀ v d B2 H2, Ge T B H B2 H2 → P d → Da X.K B2 v d → Q v H2) → wpE X e σ H Q
/-- e comes to the data d -/
def PD (e : Expr) (ds : List Sl) (d : D) : Prop := ∀ (B H : Hp) (σ : L2.St), Go T B H → Sd X.K B H σ ds → ∀ Q : VK, (∀ v B2 H2, Ge T B H B2 H2 → Da X.K B2 v d → Q v H2) → wpE X e σ H Q
/-- e comes to a new list of these -/
def PL (e : Expr) (ds : List Sl) (d : List D) : Prop := ∀ (B H : Hp) (σ : L2.St), Go T B H → Sd X.K B H σ ds → ∀ Q : VK, (∀ p vs B2 H2, H p = none → Ge T B H B2 H2 → B2 p = none → H2 p = some (.lst vs) → DaAll X.K B2 vs d → Q (.ref p) H2) → wpE X e σ H Q
def PLn (e : Expr) (ds : List Sl) (P : List D → Prop) : Prop := ∀ (B H : Hp) (σ : L2.St), Go T B H → Sd X.K B H σ ds → ∀ Q : VK, (∀ p vs d B2 H2, H p = none → Ge T B H B2 H2 → B2 p = none → P d → H2 p = some (.lst vs) → DaAll X.K B2 vs d → Q (.ref p) H2) → wpE X e σ H Q
def PDs (es : List Expr) (ds : List Sl) (d : List D) : Prop := ∀ (B H : Hp) (σ : L2.St), Go T B H → Sd X.K B H σ ds → ∀ Q : List V → Hp → Prop, (∀ v B2 H2, Ge T B H B2 H2 → DaAll X.K B2 v d → Q v H2) → wpA X es σ H Q
def PNs (es : List Expr) (ds : List Sl) (P : List D → Prop) : Prop := ∀ (B H : Hp) (σ : L2.St), Go T B H → Sd X.K B H σ ds → ∀ Q : List V → Hp → Prop, (∀ v d B2 H2, Ge T B H B2 H2 → P d → DaAll X.K B2 v d → Q v H2) → wpA X es σ H Q
/-- a test -/
def TD (e : Expr) (ds : List Sl) (b : Bool) : Prop := ∀ (B H : Hp) (σ : L2.St), Go T B H → Sd X.K B H σ ds → ∀ Q : Bool → Hp → Prop, (∀ B2 H2, Ge T B H B2 H2 → Q b H2) → wpT X e σ H Q
def WD (e : Expr) (ds : List Sl) (b : Bool) : Prop := ∀ (B H : Hp) (σ : L2.St), Go T B H → Sd X.K B H σ ds → ∀ Q : Bool → Hp → Prop, (∀ B2 H2, Ge T B H B2 H2 → Q b H2) → wpW X e σ H Q
end

section
variable {X : Cx} {T : List (Addr × Str)} {e a b c : Expr} {es as : List Expr} {ds : List Sl} {d da db : D} {dl : List D} {pos p : Pos} {x : Str} {i : Nat}

/-! ### from one form to another -/
theorem PD.pn {P : D → Prop} (h : PD X T e ds d) (hp : P d) : PN X T e ds P := fun B H σ o s Q q => h B H σ o s Q fun v B2 H2 g a => q v d B2 H2 g hp a
theorem PN.pd (h : PN X T e ds (fun x => x = d)) : PD X T e ds d := fun B H σ o s Q q => h B H σ o s Q fun v d' B2 H2 g hd a => by subst hd; exact q v B2 H2 g a
theorem PN.imp {P P' : D → Prop} (h : PN X T e ds P) (hp : ∀ d, P d → P' d) : PN X T e ds P' := fun B H σ o s Q q => h B H σ o s Q fun v d B2 H2 g pd a => q v d B2 H2 g (hp d pd) a
theorem PD.of {d' : D} (h : PD X T e ds d) (he : d = d') : PD X T e ds d' := by subst he; exact h
theorem TD.of {b b' : Bool} (h : TD X T e ds b) (he : b = b') : TD X T e ds b' := by subst he; exact h
theorem PDs.pns {P : List D → Prop} (h : PDs X T es ds dl) (hp : P dl) : PNs X T es ds P := fun B H σ o s Q q => h B H σ o s Q fun v B2 H2 g a => q v dl B2 H2 g hp a
/-- a new list comes to B -/
theorem Ge.take {B H B2 H2 : Hp} {p : Addr} {u : HO} (g : Ge T B H B2 H2) (hp : H p = none) (h2 : H2 p = some u) (hb : B2 p = none) (hu : ∀ ps, u ≠ .tbl ps) : Ge T B H (upd B2 p u) H2 :=
  ⟨g.gr, fun a o e => by
      have e2 := g.ext a o e
      by_cases ha : a = p
      · subst ha; rw [hb] at e2; cases e2
      · rw [upd_ne ha]; exact e2,
   fun a o e => by
      by_cases ha : a = p
      · subst ha; rw [upd_same] at e; rw [← e]; exact h2
      · rw [upd_ne ha] at e; exact g.sub a o e,
   fun a m => by
      by_cases ha : a = p
      · subst ha; exact .inr hp
      · rw [upd_ne ha] at m; exact g.new a m,
   fun a ps z => by
      by_cases ha : a = p
      · subst ha; rw [upd_same] at z; exact hu ps (Option.some.inj z)
      · rw [upd_ne ha] at z; exact g.nt a ps z⟩
theorem ext_take {B2 : Hp} {p : Addr} {u : HO} (hb : B2 p = none) : ExtN B2 (upd B2 p u) := .of fun a o e => by rw [upd_ne (ne_of_none e hb)]; exact e
theorem PL.pd (h : PL X T e ds dl) : PD X T e ds (.lst dl) := fun B H σ o s Q q => h B H σ o s Q fun p vs B2 H2 hp g hb h2 a =>
  q _ (upd B2 p (.lst vs)) H2 (g.take hp h2 hb nofun) (.lst upd_same (a.mono (ext_take hb)))
theorem PLn.pn {P : List D → Prop} (h : PLn X T e ds P) : PN X T e ds (fun d => ∃ l, d = .lst l ∧ P l) := fun B H σ o s Q q => h B H σ o s Q fun p vs d B2 H2 hp g hb hd h2 a =>
  q _ _ (upd B2 p (.lst vs)) H2 (g.take hp h2 hb nofun) ⟨d, rfl, hd⟩ (.lst upd_same (a.mono (ext_take hb)))
theorem PL.pln {P : List D → Prop} (h : PL X T e ds dl) (hp : P dl) : PLn X T e ds P := fun B H σ o s Q q => h B H σ o s Q fun p vs B2 H2 h1 g hb h2 a => q p vs dl B2 H2 h1 g hb hp h2 a
theorem WD.td {b : Bool} (h : WD X T e ds b) : TD X T e ds b := fun B H σ o s Q q => ⟨fun pins st I => (h B H σ o s Q q).run _ pins st I⟩

/-! ### names, constants -/
theorem pd_var (i : Nat) (hd : ds[i]? = some (.dat d) := by rfl) (hN : X.N[i]? = some x := by rfl) (hv : Vis X.env.scope x := by first | exact Or.inl rfl | exact Or.inr (Or.inl rfl) | exact Or.inr (Or.inr rfl)) (h1 : (x == ("__debug__" : Str)) = false := by decide)
    (h2 : (x == ("__classdict__" : Str)) = false := by decide) : PD X T (.Name x pos) ds d := fun B H σ o s Q q => by
  obtain ⟨v, hs, hv'⟩ := s.dat i d hd
  exact ofE (pv i hN hv h1 h2) ⟨v, hs, q v B H o.refl hv'⟩
theorem pd_int {z : Int} {j : Nat} : PD X T (.Constant (.int z) j pos) ds (.int z) := fun B H σ o s Q q => ofE pe_int (q _ B H o.refl (.int z))
theorem pd_str {z : Str} {j : Nat} : PD X T (.Constant (.str z) j pos) ds (.str z) := fun B H σ o s Q q => ofE pe_str (q _ B H o.refl (.str z))
theorem pd_non {j : Nat} : PD X T (.Constant .none j pos) ds .non := fun B H σ o s Q q => ofE pe_non (q _ B H o.refl .non)
theorem pd_bl {z : Bool} {j : Nat} : PD X T (.Constant (.bool z) j pos) ds (.bl z) := fun B H σ o s Q q => ofE pe_bl (q _ B H o.refl (.bl z))

/-! ### argument lists, displays -/
theorem pds_nil : PDs X T [] ds [] := fun B H σ o s Q q => ofA pa_nil (q [] B H o.refl .nil)
theorem pns_cons {P : D → Prop} {R : List D → Prop} {S : List D → Prop} (ha : PN X T a ds P) (hr : PNs X T as ds R) (hS : ∀ x xs, P x → R xs → S (x :: xs)) (hs : starEach (a :: as) X.env = (false, eval a X.env) :: starEach as X.env := by exact se_of rfl) : PNs X T (a :: as) ds S := fun B H σ o s Q q =>
  ofA (pa_cons peW paW hs) (ha B H σ o s _ fun v d B2 H2 g pd hv => hr B2 H2 σ (g.go o) (s.grow g) _ fun vs ds' B3 H3 g3 pr hvs => q _ (d :: ds') B3 H3 (g.trans g3) (hS _ _ pd pr) (.cons (hv.mono g3.extN) hvs))
theorem pds_cons (ha : PD X T a ds da) (hr : PDs X T as ds dl) (hs : starEach (a :: as) X.env = (false, eval a X.env) :: starEach as X.env := by exact se_of rfl) : PDs X T (a :: as) ds (da :: dl) := fun B H σ o s Q q =>
  ofA (pa_cons peW paW hs) (ha B H σ o s _ fun v B2 H2 g hv => hr B2 H2 σ (g.go o) (s.grow g) _ fun vs B3 H3 g3 hvs => q _ B3 H3 (g.trans g3) (.cons (hv.mono g3.extN) hvs))
theorem pds_starT {xs : List D} (ha : PD X T a ds (.tup xs)) (hr : PDs X T as ds dl) (hs : starEach (.Starred a p :: as) X.env = (true, eval a X.env) :: starEach as X.env := by rfl) : PDs X T (.Starred a p :: as) ds (xs ++ dl) := fun B H σ o s Q q =>
  ofA (StX.pa_star peW paW hs) (ha B H σ o s _ fun v B2 H2 g hv => by
    cases hv with
    | tup h1 h2 => exact ⟨_, _, rfl, .inl (sqT_ext (g.go o).extN h1), hr B2 H2 σ (g.go o) (s.grow g) _ fun vs B3 H3 g3 hvs => q _ B3 H3 (g.trans g3) ((h2.mono g3.extN).append hvs)⟩)
theorem pds_starL {xs : List D} (ha : PD X T a ds (.lst xs)) (hr : PDs X T as ds dl) (hs : starEach (.Starred a p :: as) X.env = (true, eval a X.env) :: starEach as X.env := by rfl) : PDs X T (.Starred a p :: as) ds (xs ++ dl) := fun B H σ o s Q q =>
  ofA (StX.pa_star peW paW hs) (ha B H σ o s _ fun v B2 H2 g hv => by
    cases hv with
    | lst h1 h2 => exact ⟨_, _, rfl, .inr (.of ((g.go o).sub _ _ h1)), hr B2 H2 σ (g.go o) (s.grow g) _ fun vs B3 H3 g3 hvs => q _ B3 H3 (g.trans g3) ((h2.mono g3.extN).append hvs)⟩)
theorem pd_tup {k : Nat} (h : PDs X T es ds dl) (hl : dl.length ≤ sizeLine := by exact Nat.le_of_ble_eq_true rfl) : PD X T (.Tuple es k pos) ds (.tup dl) := fun B H σ o s Q q =>
  ofE (pe_tup paW) (h B H σ o s _ fun vs B2 H2 g hvs => ⟨by rw [hvs.length]; exact hl, fun p hp =>
    let g2 := (g.go o).geNew (o' := .tup vs) hp nofun
    q _ _ _ (g.trans g2) (.tup (.of upd_same) (hvs.mono g2.extN))⟩)
theorem pn_tup {k : Nat} {P : List D → Prop} {R : D → Prop} (h : PNs X T es ds P) (hP : ∀ l, P l → l.length ≤ sizeLine ∧ R (.tup l)) : PN X T (.Tuple es k pos) ds R := fun B H σ o s Q q =>
  ofE (pe_tup paW) (h B H σ o s _ fun vs d B2 H2 g hd hvs => ⟨by rw [hvs.length]; exact (hP _ hd).1, fun p hp =>
    let g2 := (g.go o).geNew (o' := .tup vs) hp nofun
    q _ _ _ _ (g.trans g2) (hP _ hd).2 (.tup (.of upd_same) (hvs.mono g2.extN))⟩)
theorem pl_lst (h : PDs X T es ds dl) (hl : dl.length ≤ sizeLine := by exact Nat.le_of_ble_eq_true rfl) : PL X T (.List es pos) ds dl := fun B H σ o s Q q =>
  ofE (pe_lst paW) (h B H σ o s _ fun vs B2 H2 g hvs => ⟨by rw [hvs.length]; exact hl, fun p hp =>
    q p vs B2 (upd H2 p (.lst vs)) (g.gr.dom p hp) (g.trans ((g.go o).ge (.new hp))) ((g.go o).nb hp) upd_same hvs⟩)
theorem pln_lst {P R : List D → Prop} (h : PNs X T es ds P) (hP : ∀ l, P l → l.length ≤ sizeLine ∧ R l) : PLn X T (.List es pos) ds R := fun B H σ o s Q q =>
  ofE (pe_lst paW) (h B H σ o s _ fun vs d B2 H2 g hd hvs => ⟨by rw [hvs.length]; exact (hP _ hd).1, fun p hp =>
    q p vs d B2 (upd H2 p (.lst vs)) (g.gr.dom p hp) (g.trans ((g.go o).ge (.new hp))) ((g.go o).nb hp) (hP _ hd).2 upd_same hvs⟩)

/-! ### the items of tuples and lists -/
theorem daAll_at {K : PySem.W.Frag} {H : Hp} {vs : List V} {xs : List D} {i : Int} (h : DaAll K H vs xs) (e : atI xs i = some d) : ∃ v, atI vs i = some v ∧ Da K H v d := by
  unfold atI at e ⊢
  rw [h.length]
  cases q : ixN xs.length i with
  | none => rw [q] at e; cases e
  | some j =>
    rw [q] at e
    obtain ⟨v, h1, h2⟩ := h.get (i := j) (d := d) e
    exact ⟨v, h1, h2⟩
theorem pn_ix {P R S : D → Prop} (ha : PN X T a ds P) (hb : PN X T b ds R) (h : ∀ x y, P x → R y → ∃ xs i d, (x = .tup xs ∨ x = .lst xs) ∧ y = .int i ∧ atI xs i = some d ∧ S d) (hs : PlainIx b := by exact fun _ _ => rfl) : PN X T (.Subscript a b pos) ds S := fun B H σ o s Q q =>
  ofE (pe_ix ix_seq peW peW hs) (ha B H σ o s _ fun va x B1 H1 g1 px a1 => hb B1 H1 σ (g1.go o) (s.grow g1) _ fun vb y B2 H2 g2 py b2 => by
    obtain ⟨xs, i, d, hx, rfl, hat, sd⟩ := h x y px py
    cases b2
    have a2 := a1.mono g2.extN
    have o2 := g2.go (g1.go o)
    rcases hx with rfl | rfl
    · cases a2 with
      | tup h1 h2 =>
        obtain ⟨v, e, hv⟩ := daAll_at h2 hat
        exact .inr (.inl ⟨_, _, _, v, rfl, rfl, sqT_ext o2.extN h1, e, q v d B2 H2 (g1.trans g2) sd hv⟩)
    · cases a2 with
      | lst h1 h2 =>
        obtain ⟨v, e, hv⟩ := daAll_at h2 hat
        exact .inl ⟨_, _, _, v, rfl, rfl, .of (o2.sub _ _ h1), e, q v d B2 H2 (g1.trans g2) sd hv⟩)
theorem pd_ixT {xs : List D} {i : Int} (ha : PD X T a ds (.tup xs)) (hb : PD X T b ds (.int i)) (h : atI xs i = some d) (hs : PlainIx b := by exact fun _ _ => rfl) : PD X T (.Subscript a b pos) ds d :=
  PN.pd (pn_ix (ha.pn (P := fun x => x = .tup xs) rfl) (hb.pn (P := fun x => x = .int i) rfl) (fun x y hx hy => ⟨xs, i, d, .inl hx, hy, h, rfl⟩) hs)
theorem pd_ixL {xs : List D} {i : Int} (ha : PD X T a ds (.lst xs)) (hb : PD X T b ds (.int i)) (h : atI xs i = some d) (hs : PlainIx b := by exact fun _ _ => rfl) : PD X T (.Subscript a b pos) ds d :=
  PN.pd (pn_ix (ha.pn (P := fun x => x = .lst xs) rfl) (hb.pn (P := fun x => x = .int i) rfl) (fun x y hx hy => ⟨xs, i, d, .inr hx, hy, h, rfl⟩) hs)
/-- t[n:], t[:n] of tuples -/
theorem cutV_to (xs : List V) (n : Nat) : cutV xs none (some (n : Int)) = xs.take n := by
  unfold cutV
  rw [HT.sIx_none, HT.sIx_nat, List.drop_zero, Nat.sub_zero, List.take_eq_take_iff]
  omega
theorem cutV_from (xs : List V) (n : Nat) : cutV xs (some (n : Int)) none = xs.drop n := by
  unfold cutV
  rw [HT.sIx_none, HT.sIx_nat]
  by_cases h : n ≤ xs.length
  · rw [Nat.min_eq_left h]; exact List.take_of_length_le (by rw [List.length_drop]; omega)
  · rw [Nat.min_eq_right (by omega), Nat.sub_self, List.take_zero, List.drop_eq_nil_of_le (by omega)]
theorem sl_tupD {B H : Hp} {va : V} {xs : List D} {lo hi : Option Int} {ys : List D} {Q : VK} (o : Go T B H) (h : Da X.K B va (.tup xs)) (hy : ∀ vs, DaAll X.K B vs xs → (HT.sIx vs.length 0 lo = 0 ∧ HT.sIx vs.length vs.length hi = vs.length → ys = xs) ∧ DaAll X.K B (cutV vs lo hi) ys)
    (q : ∀ v B2 H2, Ge T B H B2 H2 → Da X.K B2 v (.tup ys) → Q v H2) : rSlA X.K va lo hi H Q := by
  cases h with
  | @tup a' vs' _ h1 h2 =>
    obtain ⟨k1, k2⟩ := hy _ h2
    refine ⟨_, _, rfl, sqT_ext o.extN h1, fun w => ?_, fun w p hp => ?_⟩
    · exact q _ B H o.refl (by rw [k1 w]; exact .tup h1 h2)
    · have g2 := o.geNew (o' := .tup (cutV vs' lo hi)) hp nofun
      exact q _ _ _ g2 (.tup (.of upd_same) (k2.mono g2.extN))
theorem pd_slTo {xs : List D} {n : Nat} {p2 : Pos} (ha : PD X T a ds (.tup xs)) (hb : PD X T b ds (.int (n : Int))) : PD X T (.Subscript a (.Slice none (some b) none p2) pos) ds (.tup (xs.take n)) := fun B H σ o s Q q =>
  ofE (pe_slice sl_tupA peW po_none (po_some peW)) (ha B H σ o s _ fun va B1 H1 g1 a1 => hb B1 H1 σ (g1.go o) (s.grow g1) _ fun vb B2 H2 g2 b2 => by
    cases b2
    refine ⟨_, rfl, sl_tupD (g2.go (g1.go o)) (a1.mono g2.extN) (fun vs hv => ⟨fun w => ?_, by rw [cutV_to]; exact hv.take n⟩) fun v B3 H3 g3 a3 => q v B3 H3 ((g1.trans g2).trans g3) a3⟩
    rw [HT.sIx_nat, hv.length] at w
    exact List.take_of_length_le (by omega))
theorem pd_slFrom {xs : List D} {n : Nat} {p2 : Pos} (ha : PD X T a ds (.tup xs)) (hb : PD X T b ds (.int (n : Int))) : PD X T (.Subscript a (.Slice (some b) none none p2) pos) ds (.tup (xs.drop n)) := fun B H σ o s Q q =>
  ofE (pe_slice sl_tupA peW (po_some peW) po_none) (ha B H σ o s _ fun va B1 H1 g1 a1 => hb B1 H1 σ (g1.go o) (s.grow g1) _ fun vb B2 H2 g2 b2 => by
    cases b2
    refine ⟨_, rfl, sl_tupD (g2.go (g1.go o)) (a1.mono g2.extN) (fun vs hv => ⟨fun w => ?_, by rw [cutV_from]; exact hv.drop n⟩) fun v B3 H3 g3 a3 => q v B3 H3 ((g1.trans g2).trans g3) a3⟩
    rw [HT.sIx_nat, hv.length] at w
    by_cases h0 : n = 0
    · rw [h0]; rfl
    · have : xs.length = 0 := by omega
      rw [List.length_eq_zero_iff.mp this]; exact List.drop_nil)
/-- xs[n:], xs[:n] of lists: new -/
theorem pl_slTo {xs : List D} {p2 : Pos} {P : Nat → Prop} (ha : PD X T a ds (.lst xs)) (hb : PN X T b ds (fun d => ∃ n : Nat, d = .int (n : Int) ∧ P n)) : PLn X T (.Subscript a (.Slice none (some b) none p2) pos) ds (fun l => ∃ n, P n ∧ l = xs.take n) := fun B H σ o s Q q =>
  ofE (pe_slice sl_list peW po_none (po_some peW)) (ha B H σ o s _ fun va B1 H1 g1 a1 => hb B1 H1 σ (g1.go o) (s.grow g1) _ fun vb db B2 H2 g2 ⟨n, hn, pn⟩ b2 => by
    subst hn
    cases b2
    have o2 := g2.go (g1.go o)
    cases a1.mono g2.extN with
    | lst h1 h2 =>
      exact ⟨_, rfl, _, _, rfl, .of (o2.sub _ _ h1), fun p hp => q p _ (xs.take n) B2 (upd H2 p _) (g1.gr.dom _ (g2.gr.dom p hp)) ((g1.trans g2).trans (o2.ge (.new hp))) (o2.nb hp) ⟨n, pn, rfl⟩ (by rw [upd_same, cutV_to]) (h2.take n)⟩)
theorem pl_slFrom {xs : List D} {n : Nat} {p2 : Pos} (ha : PD X T a ds (.lst xs)) (hb : PD X T b ds (.int (n : Int))) : PL X T (.Subscript a (.Slice (some b) none none p2) pos) ds (xs.drop n) := fun B H σ o s Q q =>
  ofE (pe_slice sl_list peW (po_some peW) po_none) (ha B H σ o s _ fun va B1 H1 g1 a1 => hb B1 H1 σ (g1.go o) (s.grow g1) _ fun vb B2 H2 g2 b2 => by
    cases b2
    have o2 := g2.go (g1.go o)
    cases a1.mono g2.extN with
    | lst h1 h2 =>
      exact ⟨_, rfl, _, _, rfl, .of (o2.sub _ _ h1), fun p hp => q p _ B2 (upd H2 p _) (g1.gr.dom _ (g2.gr.dom p hp)) ((g1.trans g2).trans (o2.ge (.new hp))) (o2.nb hp) (by rw [upd_same, cutV_from]) (h2.drop n)⟩)

/-! ### operators, comparisons -/
theorem pn_op {op : Operator} {r : R2} {P R S : D → Prop} (ho : OpR X (binaryOp op) r) (ha : PN X T a ds P) (hb : PN X T b ds R)
    (h : ∀ x y B H vx vy (Q : VK), P x → R y → Go T B H → Da X.K B vx x → Da X.K B vy y → (∀ v d B2 H2, Ge T B H B2 H2 → S d → Da X.K B2 v d → Q v H2) → r vx vy H Q) : PN X T (.BinOp a op b pos) ds S := fun B H σ o s Q q =>
  ofE (pe_op ho peW peW) (ha B H σ o s _ fun va x B1 H1 g1 px a1 => hb B1 H1 σ (g1.go o) (s.grow g1) _ fun vb y B2 H2 g2 py b2 =>
    h x y B2 H2 va vb Q px py (g2.go (g1.go o)) (a1.mono g2.extN) b2 fun v d B3 H3 g3 sd hv => q v d B3 H3 ((g1.trans g2).trans g3) sd hv)
theorem pn_int2 {op : Operator} {C : Int → Int → Prop} {g : Int → Int → V} {f : Int → Int → Int} {P R S : D → Prop} (ho : OpR X (binaryOp op) (rI C g)) (hg : ∀ i j, g i j = .int (f i j)) (ha : PN X T a ds P) (hb : PN X T b ds R)
    (h : ∀ x y, P x → R y → ∃ i j, x = .int i ∧ y = .int j ∧ C i j ∧ S (.int (f i j))) : PN X T (.BinOp a op b pos) ds S :=
  pn_op ho ha hb fun x y B H vx vy Q px py o hx hy q => by
    obtain ⟨i, j, rfl, rfl, c, sd⟩ := h x y px py
    cases hx
    cases hy
    exact ⟨i, j, rfl, rfl, c, q _ _ B H o.refl sd (by rw [hg]; exact .int _)⟩
theorem pn_int0 {op : Operator} {g : Int → Int → V} {f : Int → Int → Int} {P R S : D → Prop} (ho : OpR X (binaryOp op) (rI0 g)) (hg : ∀ i j, g i j = .int (f i j)) (ha : PN X T a ds P) (hb : PN X T b ds R)
    (h : ∀ x y, P x → R y → ∃ i j, x = .int i ∧ y = .int j ∧ S (.int (f i j))) : PN X T (.BinOp a op b pos) ds S :=
  pn_op ho ha hb fun x y B H vx vy Q px py o hx hy q => by
    obtain ⟨i, j, rfl, rfl, sd⟩ := h x y px py
    cases hx
    cases hy
    exact ⟨i, j, rfl, rfl, q _ _ B H o.refl sd (by rw [hg]; exact .int _)⟩
theorem pd_add {i j : Int} (ha : PD X T a ds (.int i)) (hb : PD X T b ds (.int j)) : PD X T (.BinOp a .Add b pos) ds (.int (i + j)) :=
  PN.pd (pn_int0 op_add (fun _ _ => rfl) (ha.pn (P := fun x => x = .int i) rfl) (hb.pn (P := fun x => x = .int j) rfl) fun _ _ hx hy => ⟨i, j, hx, hy, rfl⟩)
theorem pd_sub {i j : Int} (ha : PD X T a ds (.int i)) (hb : PD X T b ds (.int j)) : PD X T (.BinOp a .Sub b pos) ds (.int (i - j)) :=
  PN.pd (pn_int0 op_sub (fun _ _ => rfl) (ha.pn (P := fun x => x = .int i) rfl) (hb.pn (P := fun x => x = .int j) rfl) fun _ _ hx hy => ⟨i, j, hx, hy, rfl⟩)
theorem pd_neg {i : Int} (ha : PD X T a ds (.int i)) : PD X T (.UnaryOp .USub a pos) ds (.int (-i)) := fun B H σ o s Q q =>
  ofE (pe_un un_neg peW) (ha B H σ o s _ fun v B1 H1 g1 a1 => by cases a1; exact ⟨i, rfl, q _ B1 H1 g1 (.int _)⟩)
/-- t + u of tuples -/
theorem pd_catT {xs ys : List D} (ha : PD X T a ds (.tup xs)) (hb : PD X T b ds (.tup ys)) (hl : xs.length + ys.length ≤ sizeLine) : PD X T (.BinOp a .Add b pos) ds (.tup (xs ++ ys)) :=
  PN.pd (pn_op op_catA (ha.pn (P := fun x => x = .tup xs) rfl) (hb.pn (P := fun x => x = .tup ys) rfl) fun x y B H vx vy Q px py o hx hy q => by
    subst px py
    cases hx with
    | @tup a' vs' _ h1 h2 => cases hy with
      | @tup b' ws' _ k1 k2 =>
        refine ⟨_, _, _, _, rfl, rfl, sqT_ext o.extN h1, sqT_ext o.extN k1, by rw [h2.length, k2.length]; exact hl, fun e => ?_, fun n e => ?_, fun n m p hp => ?_⟩
        · subst e
          cases h2
          exact q _ _ B H o.refl rfl (.tup k1 k2)
        · subst e
          cases k2
          exact q _ _ B H o.refl rfl (by rw [List.append_nil]; exact .tup h1 h2)
        · have g2 := o.geNew (o' := .tup (vs' ++ ws')) hp nofun
          exact q _ _ _ _ g2 rfl (.tup (.of upd_same) ((h2.append k2).mono g2.extN)))
/-- xs + ys of lists: new -/
theorem pl_cat {xs ys : List D} (ha : PD X T a ds (.lst xs)) (hb : PD X T b ds (.lst ys)) (hl : xs.length + ys.length ≤ sizeLine) : PL X T (.BinOp a .Add b pos) ds (xs ++ ys) := fun B H σ o s Q q =>
  ofE (pe_op op_cat peW peW) (ha B H σ o s _ fun va B1 H1 g1 a1 => hb B1 H1 σ (g1.go o) (s.grow g1) _ fun vb B2 H2 g2 b2 => by
    have o2 := g2.go (g1.go o)
    cases a1.mono g2.extN with
    | @lst a' vs' _ h1 h2 => cases b2 with
      | @lst b' ws' _ k1 k2 =>
        exact ⟨_, _, _, _, rfl, rfl, o2.sub _ _ h1, o2.sub _ _ k1, by rw [h2.length, k2.length]; exact hl, fun p hp =>
          q p _ B2 (upd H2 p _) (g1.gr.dom _ (g2.gr.dom p hp)) ((g1.trans g2).trans (o2.ge (.new hp))) (o2.nb hp) upd_same (h2.append k2)⟩)
theorem pn_cmp {op : CmpOp} {r : R2} {P R S : D → Prop} (ho : OpR X (compareOp op) r) (hm : behindInMarks op b = false) (ha : PN X T a ds P) (hb : PN X T b ds R)
    (h : ∀ x y B H vx vy (Q : VK), P x → R y → Go T B H → Da X.K B vx x → Da X.K B vy y → (∀ k, S (.bl k) → Q (.bl k) H) → r vx vy H Q) : PN X T (.Compare a [op] [b] pos) ds S := fun B H σ o s Q q =>
  ofE (pe_cmpR ho peW peW hm) (ha B H σ o s _ fun va x B1 H1 g1 px a1 => hb B1 H1 σ (g1.go o) (s.grow g1) _ fun vb y B2 H2 g2 py b2 =>
    h x y B2 H2 va vb Q px py (g2.go (g1.go o)) (a1.mono g2.extN) b2 fun k sk => q _ _ B2 H2 (g1.trans g2) sk (.bl k))
/-- what a comparison of two data is -/
def CmpD (X : Cx) (T : List (Addr × Str)) (op : CmpOp) (x y : D) (k : Bool) : Prop :=
  ∃ r, OpR X (compareOp op) r ∧ ∀ B H vx vy (Q : VK), Go T B H → Da X.K B vx x → Da X.K B vy y → Q (.bl k) H → r vx vy H Q
theorem pd_cmp {op : CmpOp} {x y : D} {k : Bool} (c : CmpD X T op x y k) (ha : PD X T a ds x) (hb : PD X T b ds y) (hm : behindInMarks op b = false := by first | exact nobehind _ (by decide) (by decide) | rfl) : PD X T (.Compare a [op] [b] pos) ds (.bl k) := by
  obtain ⟨r, ho, h⟩ := c
  exact PN.pd (pn_cmp ho hm (ha.pn (P := fun z => z = x) rfl) (hb.pn (P := fun z => z = y) rfl) fun x' y' B H vx vy Q px py o hx hy q => by
    subst px py
    exact h B H vx vy Q o hx hy (q k rfl))
theorem td_cmp {op : CmpOp} {x y : D} {k : Bool} (c : CmpD X T op x y k) (ha : PD X T a ds x) (hb : PD X T b ds y) (hm : behindInMarks op b = false := by first | exact nobehind _ (by decide) (by decide) | rfl) : TD X T (.Compare a [op] [b] pos) ds k := fun B H σ o s Q q => by
  obtain ⟨r, ho, h⟩ := c
  exact ofT (pt_cmpR ho peW peW hm) (ha B H σ o s _ fun va B1 H1 g1 a1 => hb B1 H1 σ (g1.go o) (s.grow g1) _ fun vb B2 H2 g2 b2 =>
    h B2 H2 va vb _ (g2.go (g1.go o)) (a1.mono g2.extN) b2 ⟨k, rfl, q B2 H2 (g1.trans g2)⟩)
theorem td_val {k : Bool} (h : PD X T e ds (.bl k)) (he : ∀ whole, isTrue e X.env whole = (do let v ← whole; standAt e.pos; holding [v] (truthy v)) := by intro _; rfl) : TD X T e ds k := fun B H σ o s Q q =>
  ofT (pt_val peW he) (h B H σ o s _ fun v B1 H1 g1 a1 => by cases a1; exact ⟨k, rfl, q B1 H1 g1⟩)
theorem td_not {k : Bool} (h : TD X T a ds k) : TD X T (.UnaryOp .Not a pos) ds (!k) := fun B H σ o s Q q => ofT (pt_not ptW) (h B H σ o s _ fun B1 H1 g1 => q B1 H1 g1)
theorem wd_and1 {k : Bool} (h : TD X T a ds k) : WD X T (.BoolOp .And [a] pos) ds k := fun B H σ o s Q q => ofW (pw_and1 ptW) (h B H σ o s _ fun B1 H1 g1 => q B1 H1 g1)
theorem wd_or1 {k : Bool} (h : TD X T a ds k) : WD X T (.BoolOp .Or [a] pos) ds k := fun B H σ o s Q q => ofW (pw_or1 ptW) (h B H σ o s _ fun B1 H1 g1 => q B1 H1 g1)
theorem wd_and {k k' : Bool} (h : TD X T a ds k) (h' : k = true → WD X T (.BoolOp .And (b :: as) pos) ds k') : WD X T (.BoolOp .And (a :: b :: as) pos) ds (k && k') := fun B H σ o s Q q =>
  ofW (pw_and ptW pwW) (h B H σ o s _ fun B1 H1 g1 => by
    cases k with
    | true => exact iteT (h' rfl B1 H1 σ (g1.go o) (s.grow g1) _ fun B2 H2 g2 => q B2 H2 (g1.trans g2))
    | false => exact iteF (q B1 H1 g1))
theorem wd_or {k k' : Bool} (h : TD X T a ds k) (h' : k = false → WD X T (.BoolOp .Or (b :: as) pos) ds k') : WD X T (.BoolOp .Or (a :: b :: as) pos) ds (k || k') := fun B H σ o s Q q =>
  ofW (pw_or ptW pwW) (h B H σ o s _ fun B1 H1 g1 => by
    cases k with
    | false => exact iteF (h' rfl B1 H1 σ (g1.go o) (s.grow g1) _ fun B2 H2 g2 => q B2 H2 (g1.trans g2))
    | true => exact iteT (q B1 H1 g1))
theorem pd_and1 {op : BoolOp} (h : PD X T a ds d) : PD X T (.BoolOp op [a] pos) ds d := fun B H σ o s Q q => ofE (pe_one peW) (h B H σ o s _ fun v B1 H1 g1 a1 => q v B1 H1 g1 a1)
theorem pd_and {k k' : Bool} (h : PD X T a ds (.bl k)) (h' : k = true → PD X T (.BoolOp .And (b :: as) pos) ds (.bl k')) : PD X T (.BoolOp .And (a :: b :: as) pos) ds (.bl (k && k')) := fun B H σ o s Q q =>
  ofE (pe_and peW peW) (h B H σ o s _ fun v B1 H1 g1 a1 => by
    cases a1
    refine ⟨k, rfl, ?_⟩
    cases k with
    | true => exact iteT (h' rfl B1 H1 σ (g1.go o) (s.grow g1) _ fun v B2 H2 g2 a2 => q v B2 H2 (g1.trans g2) a2)
    | false => exact iteF (q _ B1 H1 g1 (.bl _)))
theorem pd_or {k k' : Bool} (h : PD X T a ds (.bl k)) (h' : k = false → PD X T (.BoolOp .Or (b :: as) pos) ds (.bl k')) : PD X T (.BoolOp .Or (a :: b :: as) pos) ds (.bl (k || k')) := fun B H σ o s Q q =>
  ofE (pe_or peW peW) (h B H σ o s _ fun v B1 H1 g1 a1 => by
    cases a1
    refine ⟨k, rfl, ?_⟩
    cases k with
    | false => exact iteF (h' rfl B1 H1 σ (g1.go o) (s.grow g1) _ fun v B2 H2 g2 a2 => q v B2 H2 (g1.trans g2) a2)
    | true => exact iteT (q _ B1 H1 g1 (.bl _)))
theorem pn_if {k : Bool} {P : D → Prop} (h : TD X T c ds k) (h1 : k = true → PN X T a ds P) (h2 : k = false → PN X T b ds P) : PN X T (.IfExp c a b pos) ds P := fun B H σ o s Q q =>
  ofE (pe_ifExp ptW peW peW) (h B H σ o s _ fun B1 H1 g1 => by
    cases k with
    | true => exact iteT (h1 rfl B1 H1 σ (g1.go o) (s.grow g1) _ fun v d B2 H2 g2 pd a2 => q v d B2 H2 (g1.trans g2) pd a2)
    | false => exact iteF (h2 rfl B1 H1 σ (g1.go o) (s.grow g1) _ fun v d B2 H2 g2 pd a2 => q v d B2 H2 (g1.trans g2) pd a2))
theorem pd_if {k : Bool} (h : TD X T c ds k) (h1 : k = true → PD X T a ds d) (h2 : k = false → PD X T b ds d) : PD X T (.IfExp c a b pos) ds d :=
  PN.pd (pn_if h (fun e => (h1 e).pn rfl) fun e => (h2 e).pn rfl)

/-! which comparisons -/
theorem c_int {op : CmpOp} {f : Int → Int → Bool} {g : Int → Int → V} {i j : Int} (ho : OpR X (compareOp op) (rI0 g)) (hg : g i j = .bl (f i j)) : CmpD X T op (.int i) (.int j) (f i j) :=
  ⟨_, ho, fun B H vx vy Q o hx hy q => by cases hx; cases hy; exact ⟨i, j, rfl, rfl, by rw [hg]; exact q⟩⟩
theorem c_lt {i j : Int} : CmpD X T .Lt (.int i) (.int j) (decide (i < j)) := c_int (f := fun i j => decide (i < j)) op_lt rfl
theorem c_le {i j : Int} : CmpD X T .LtE (.int i) (.int j) (decide (i ≤ j)) := c_int (f := fun i j => decide (i ≤ j)) op_le rfl
theorem c_gt {i j : Int} : CmpD X T .Gt (.int i) (.int j) (decide (j < i)) := c_int (f := fun i j => decide (j < i)) op_gt rfl
theorem c_ge {i j : Int} : CmpD X T .GtE (.int i) (.int j) (decide (j ≤ i)) := c_int (f := fun i j => decide (j ≤ i)) op_ge rfl
theorem c_eqI {i j : Int} : CmpD X T .Eq (.int i) (.int j) (decide (i = j)) := ⟨_, op_eq, fun B H vx vy Q o hx hy q => by cases hx; cases hy; exact ⟨rfl, by rw [dec_int, Bool.beq_eq_decide_eq]; exact q⟩⟩
theorem c_eqS {i j : Str} : CmpD X T .Eq (.str i) (.str j) (decide (i = j)) := ⟨_, op_eq, fun B H vx vy Q o hx hy q => by cases hx; cases hy; exact ⟨rfl, by simpa using q⟩⟩
theorem c_neS {i j : Str} : CmpD X T .NotEq (.str i) (.str j) (!decide (i = j)) := ⟨_, op_ne, fun B H vx vy Q o hx hy q => by cases hx; cases hy; exact ⟨rfl, by simpa using q⟩⟩
theorem c_isN {x : D} : CmpD X T .Is x .non (match x with | .non => true | _ => false) := ⟨_, op_isN, fun B H vx vy Q o hx hy q => by cases hy; cases hx <;> exact ⟨rfl, by simpa using q⟩⟩
theorem c_notN {x : D} : CmpD X T .IsNot x .non (match x with | .non => false | _ => true) := ⟨_, op_notN, fun B H vx vy Q o hx hy q => by cases hy; cases hx <;> exact ⟨rfl, by simpa using q⟩⟩
end
end E
/-! targets, what is walked, comprehensions, statements -/
namespace E
open LamX L2 PyProof.Rows PySem PySem.Spec

/-! ### targets -/
inductive Pat where
  | nm (i : Nat) | tp (ps : List Pat)
mutual
def Pat.tg (K : PySem.W.Frag) : Pat → TG
  | .nm i => gName i
  | .tp ps => gTup K ps.length (Pat.tgs K ps)
def Pat.tgs (K : PySem.W.Frag) : List Pat → TGs
  | [] => gNil
  | p :: ps => gCons (p.tg K) (Pat.tgs K ps)
end
mutual
def Pat.slots : Pat → List Nat
  | .nm i => [i]
  | .tp ps => Pat.slotss ps
def Pat.slotss : List Pat → List Nat
  | [] => []
  | p :: ps => p.slots ++ Pat.slotss ps
end
mutual
def Pat.bind : Pat → D → List Sl → Option (List Sl)
  | .nm i, d, ds => some (ds.set i (.dat d))
  | .tp ps, .tup xs, ds => Pat.binds ps xs ds
  | .tp _, _, _ => none
def Pat.binds : List Pat → List D → List Sl → Option (List Sl)
  | [], [], ds => some ds
  | p :: ps, d :: xs, ds => (p.bind d ds).bind (Pat.binds ps xs)
  | _, _, _ => none
end
def wpG (X : Cx) (tg : Expr) : TG := fun v σ H Q => ∀ pins s u, Inv X pins σ H s → RelV v u → wpAny (model X.prog X.w) X.A (assign tg X.env u) (fun _ s' => ∃ σ' H', Inv X pins σ' H' s' ∧ Q σ' H') X.xe s
theorem pgW {X : Cx} {tg : Expr} : PG X tg (wpG X tg) := ⟨fun _ _ _ _ _ _ _ I r h => h _ _ _ I r⟩
/-- slots that differ at most at vs -/
def Off (vs : List Nat) (σ σ' : L2.St) : Prop := σ'.length = σ.length ∧ ∀ i, i ∉ vs → σ'[i]? = σ[i]?
theorem Off.refl (vs : List Nat) (σ : L2.St) : Off vs σ σ := ⟨rfl, fun _ _ => rfl⟩
theorem Off.mono {vs ws : List Nat} {σ σ' : L2.St} (h : Off vs σ σ') (hs : ∀ i ∈ vs, i ∈ ws) : Off ws σ σ' := ⟨h.1, fun i hi => h.2 i fun z => hi (hs i z)⟩
theorem Off.trans {vs : List Nat} {σ σ' σ2 : L2.St} (a : Off vs σ σ') (b : Off vs σ' σ2) : Off vs σ σ2 := ⟨b.1.trans a.1, fun i hi => (b.2 i hi).trans (a.2 i hi)⟩
theorem wipe_get (σ : L2.St) : ∀ (vs : List Nat) (i : Nat), (wipe σ vs)[i]? = if i ∈ vs then (if i < σ.length then some none else none) else σ[i]?
  | [], i => by simp [wipe]
  | v :: vs, i => by
    unfold wipe
    rw [List.getElem?_set, wipe_get σ vs i, wipe_length]
    by_cases h : v = i
    · subst h; simp
    · have h' : ¬ i = v := fun z => h z.symm
      simp [h, h']
theorem wipe_off {vs : List Nat} {σ σ' : L2.St} (h : Off vs σ σ') : wipe σ' vs = wipe σ vs := by
  apply List.ext_getElem?
  intro i
  rw [wipe_get, wipe_get, h.1]
  by_cases hi : i ∈ vs
  · rw [if_pos hi, if_pos hi]
  · rw [if_neg hi, if_neg hi, h.2 i hi]
theorem off_wipe (vs : List Nat) (σ : L2.St) : Off vs σ (wipe σ vs) := ⟨wipe_length σ vs, fun i hi => by rw [wipe_get, if_neg hi]⟩

section
variable {T : List (Addr × Str)} {K : PySem.W.Frag} {B H : Hp} {σ : L2.St} {ds : List Sl} {d : D} {v : V}
theorem set_get {α : Type} {l : List α} {i j : Nat} {x y : α} (h : (l.set i x)[j]? = some y) : (i = j ∧ y = x ∧ i < l.length) ∨ (i ≠ j ∧ l[j]? = some y) := by
  rw [List.getElem?_set] at h
  by_cases e : i = j
  · subst e
    by_cases hi : i < l.length
    · simp [hi] at h; exact .inl ⟨rfl, h.symm, hi⟩
    · simp [hi] at h
  · simp [e] at h; exact .inr ⟨e, h⟩
theorem Sd.setD (s : Sd K B H σ ds) (i : Nat) (h : Da K B v d) : Sd K B H (σ.set i (some v)) (ds.set i (.dat d)) := by
  have hl := s.len
  refine ⟨fun j d' e => ?_, fun j xs e => ?_, fun j xs e => ?_, fun j k xs ys l e1 e2 f1 f2 => ?_, by simpa using s.len, fun j l xs c e => ?_⟩
  · rcases set_get e with ⟨rfl, e, hi⟩ | ⟨ne, e⟩
    · cases e
      exact ⟨v, by rw [List.getElem?_set_self (by omega)], h⟩
    · obtain ⟨w, h1, h2⟩ := s.dat j d' e
      exact ⟨w, by rw [List.getElem?_set_ne ne]; exact h1, h2⟩
  · rcases set_get e with ⟨_, e, _⟩ | ⟨ne, e⟩
    · cases e
    · rw [List.getElem?_set_ne ne]; exact s.own j xs e
  · rcases set_get e with ⟨_, e, _⟩ | ⟨ne, e⟩
    · cases e
    · rw [List.getElem?_set_ne ne]; exact s.ownD j xs e
  · rcases set_get e1 with ⟨_, e1, _⟩ | ⟨ne1, e1⟩
    · cases e1
    · rcases set_get e2 with ⟨_, e2, _⟩ | ⟨ne2, e2⟩
      · cases e2
      · rw [List.getElem?_set_ne ne1] at f1
        rw [List.getElem?_set_ne ne2] at f2
        exact s.inj j k xs ys l e1 e2 f1 f2
  · rcases set_get e with ⟨_, e, _⟩ | ⟨ne, e⟩
    · cases e
    · obtain ⟨h1, h2, h3, h4⟩ := s.bg j l xs c e
      refine ⟨by rw [List.getElem?_set_ne ne]; exact h1, h2, h3, fun k ys e2 => ?_⟩
      rcases set_get e2 with ⟨_, e2, _⟩ | ⟨ne2, e2⟩
      · cases e2
      · rw [List.getElem?_set_ne ne2]; exact h4 k ys e2
theorem off_set (i : Nat) (x : Option V) (σ : L2.St) : Off [i] σ (σ.set i x) := ⟨by simp, fun j hj => by rw [List.getElem?_set_ne (fun z => hj (by simp [z]))]⟩
/-- own things are younger than the entry -/
def So (H0 : Hp) (σ : L2.St) (ds : List Sl) : Prop := (∀ (i : Nat) l, ((∃ xs, ds[i]? = some (.own xs)) ∨ ∃ xs, ds[i]? = some (.ownD xs)) → σ[i]? = some (some (.ref l)) → H0 l = none) ∧ ∀ (i : Nat) l xs c, ds[i]? = some (.bag l xs c) → ∃ ps, H0 l = some (.tbl ps)
theorem So.set {H0 : Hp} (s : So H0 σ ds) {i : Nat} (v : V) (d : Sl) (hd : ∀ l, ((∃ xs, d = .own xs) ∨ ∃ xs, d = .ownD xs) → v = .ref l → H0 l = none) (hb : ∀ l xs c, d ≠ .bag l xs c := by nofun) : So H0 (σ.set i (some v)) (ds.set i d) := by
  refine ⟨fun j l e f => ?_, fun j l xs c e => ?_⟩
  · have e' : (∃ xs, (ds.set i d)[j]? = some (.own xs)) ∨ (∃ xs, (ds.set i d)[j]? = some (.ownD xs)) := e
    by_cases hj : i = j
    · subst hj
      by_cases hi : i < σ.length
      · rw [List.getElem?_set_self hi] at f
        cases f
        refine hd l ?_ rfl
        rcases e' with ⟨xs, e'⟩ | ⟨xs, e'⟩
        · rcases set_get e' with ⟨_, e2, _⟩ | ⟨n, _⟩
          · exact .inl ⟨xs, e2.symm⟩
          · exact absurd rfl n
        · rcases set_get e' with ⟨_, e2, _⟩ | ⟨n, _⟩
          · exact .inr ⟨xs, e2.symm⟩
          · exact absurd rfl n
      · rw [List.getElem?_eq_none (by simpa using hi)] at f; cases f
    · rw [List.getElem?_set_ne hj] at f
      rw [List.getElem?_set_ne hj] at e'
      exact s.1 j l e' f
  · rcases set_get e with ⟨_, e, _⟩ | ⟨_, e⟩
    · exact absurd e.symm (hb l xs c)
    · exact s.2 j l xs c e
mutual
theorem bind_ok {T : List (Addr × Str)} {K : PySem.W.Frag} {B H : Hp} (o : Go T B H) : ∀ (p : Pat) {σ : L2.St} {ds ds' : List Sl} {d : D} {v : V} {Q : L2.St → Hp → Prop}, Sd K B H σ ds → Da K B v d → p.bind d ds = some ds' → (∀ σ', Sd K B H σ' ds' → Off p.slots σ σ' → (∀ H0, So H0 σ ds → So H0 σ' ds') → Q σ' H) → p.tg K v σ H Q
  | .nm i, σ, ds, ds', d, v, Q, s, h, e, q => by
    simp only [Pat.bind, Option.some.injEq] at e
    subst e
    exact q _ (s.setD i h) (off_set i _ σ) fun H0 so => so.set v _ (fun l e => by rcases e with ⟨_, e⟩ | ⟨_, e⟩ <;> cases e)
  | .tp ps, σ, ds, ds', d, v, Q, s, h, e, q => by
    cases h with
    | tup h1 h2 =>
      simp only [Pat.bind] at e
      refine ⟨_, _, rfl, sqT_ext o.extN h1, ?_, binds_ok o ps s h2 e fun σ' s' f so => q σ' s' f so⟩
      rw [h2.length]
      exact binds_len ps _ _ _ e
    | _ => simp [Pat.bind] at e
theorem binds_ok {T : List (Addr × Str)} {K : PySem.W.Frag} {B H : Hp} (o : Go T B H) : ∀ (ps : List Pat) {σ : L2.St} {ds ds' : List Sl} {xs : List D} {vs : List V} {Q : L2.St → Hp → Prop}, Sd K B H σ ds → DaAll K B vs xs → Pat.binds ps xs ds = some ds' → (∀ σ', Sd K B H σ' ds' → Off (Pat.slotss ps) σ σ' → (∀ H0, So H0 σ ds → So H0 σ' ds') → Q σ' H) → Pat.tgs K ps vs σ H Q
  | [], σ, ds, ds', xs, vs, Q, s, h, e, q => by
    cases h with
    | nil => simp only [Pat.binds, Option.some.injEq] at e; subst e; exact ⟨rfl, q σ s (.refl _ _) fun _ z => z⟩
    | cons _ _ => simp [Pat.binds] at e
  | p :: ps, σ, ds, ds', xs, vs, Q, s, h, e, q => by
    cases h with
    | nil => simp [Pat.binds] at e
    | cons h1 h2 =>
      simp only [Pat.binds] at e
      obtain ⟨ds1, e1, e2⟩ := Option.bind_eq_some_iff.mp e
      exact ⟨_, _, rfl, bind_ok o p s h1 e1 fun σ' s' f so => binds_ok o ps s' h2 e2 fun σ2 s2 f2 so2 => q σ2 s2
        ((f.mono fun i hi => List.mem_append_left _ hi).trans (f2.mono fun i hi => List.mem_append_right _ hi)) fun H0 z => so2 H0 (so H0 z)⟩
theorem binds_len : ∀ (ps : List Pat) (xs : List D) (ds ds' : List Sl), Pat.binds ps xs ds = some ds' → xs.length = ps.length
  | [], [], _, _, _ => rfl
  | [], _ :: _, _, _, e => by simp [Pat.binds] at e
  | _ :: _, [], _, _, e => by simp [Pat.binds] at e
  | p :: ps, x :: xs, ds, ds', e => by
    simp only [Pat.binds] at e
    obtain ⟨ds1, _, e2⟩ := Option.bind_eq_some_iff.mp e
    simp only [List.length_cons]
    rw [binds_len ps xs _ _ e2]
end
/-- a target written so -/
def PatOk (X : Cx) (tg : Expr) (p : Pat) : Prop := PG X tg (p.tg X.K)
def PatsOk (X : Cx) (tg : List Expr) (p : List Pat) : Prop := PGs X tg (Pat.tgs X.K p)
variable {X : Cx} {pos : Pos} {x : Str} {e : Expr} {es : List Expr} {p : Pat} {ps : List Pat}
theorem pat_nm (i : Nat) (hN : X.N.Nodup) (hi : X.N[i]? = some x := by rfl) (hx : Loc X.env.scope x := by first | exact .inl rfl | exact .inr rfl) (hf : X.fn x = true ∨ X.env.scope.names.lookup x = some .local := by first | exact .inl rfl | exact .inr rfl) : PatOk X (.Name x pos) (.nm i) := pg_name hN hi hx hf
theorem pats_nil : PatsOk X [] [] := pgs_nil
theorem pats_cons (h1 : PatOk X e p) (h2 : PatsOk X es ps) (hs : (assignEach (e :: es) X.env).map (·.2) = assign e X.env :: (assignEach es X.env).map (·.2) := by rfl) : PatsOk X (e :: es) (p :: ps) := pgs_cons h1 h2 hs
theorem pat_tp {k : Nat} (h : PatsOk X es ps) (hc : X.calm = true := by rfl) (hn : (assignEach es X.env).length = ps.length := by rfl) (hst : (assignEach es X.env).findIdx? (·.1) = none := by rfl) : PatOk X (.Tuple es k pos) (.tp ps) := pg_tup hc h hn hst
end
end E
/-! what is walked; comprehensions -/
namespace E
open LamX L2 PyProof.Rows PySem PySem.Spec

def wpI (X : Cx) (tg iter : Expr) : TI := fun σ H R => ∀ pins s, Inv X pins σ H s → wpAny (model X.prog X.w) X.A (eval iter X.env) (fun v s1 => wpAny (model X.prog X.w) X.A (pyIter v) (PIE X pins σ tg R) X.xe s1) X.xe s
theorem piW {X : Cx} {tg iter : Expr} : PI X tg iter (wpI X tg iter) := ⟨fun _ _ _ _ _ I h => h _ _ I⟩
theorem ofI {X : Cx} {tg iter : Expr} {t : TI} {σ : L2.St} {H : Hp} {R : It → Hp → Prop} (h : PI X tg iter t) (q : t σ H R) : wpI X tg iter σ H R := fun _ _ I => h.run _ _ _ _ _ I q

/-- the walk J goes through the items, as long as B2 stands -/
structure WalkD (T : List (Addr × Str)) (K : PySem.W.Frag) (J : It) (items : List D) (B2 : Hp) : Prop where
  goes : ∀ i B3 H3, i < items.length → ExtN B2 B3 → Go T B3 H3 → J.go i H3
  stops : ∀ B3 H3, ExtN B2 B3 → Go T B3 H3 → J.stop items.length H3
  yields : ∀ i B3 H3 x H' d, items[i]? = some d → ExtN B2 B3 → Go T B3 H3 → J.yld i H3 x H' → ∃ B', Ge T B3 H3 B' H' ∧ Da K B' x d
/-- iter comes to a walk over some items of P -/
def SrcN (X : Cx) (T : List (Addr × Str)) (tg iter : Expr) (ds : List Sl) (P : List D → Prop) : Prop :=
  ∀ (B H : Hp) (σ : L2.St), Go T B H → Sd X.K B H σ ds → ∀ R : It → Hp → Prop, (∀ J items B2 H2, Ge T B H B2 H2 → P items → WalkD T X.K J items B2 → R J H2) → wpI X tg iter σ H R
abbrev Src (X : Cx) (T : List (Addr × Str)) (tg iter : Expr) (ds : List Sl) (items : List D) : Prop := SrcN X T tg iter ds (fun l => l = items)
section
variable {X : Cx} {T : List (Addr × Str)} {tg iter e a : Expr} {ds : List Sl} {xs : List D} {p pos tpos : Pos} {es : List Expr} {kk : Nat}
theorem walkD_list {K : PySem.W.Frag} {B : Hp} {b : Addr} {vs : List V} (h : B b = some (.lst vs)) (ha : DaAll K B vs xs) : WalkD T K (Itl K b) xs B :=
  have w := walk_list (K := K) (a := b) (xs := vs)
  have at_ : ∀ {B3 H3}, ExtN B B3 → Go T B3 H3 → SqL K H3 b vs := fun e o => .of (o.sub _ _ (e _ _ h nofun))
  ⟨fun i B3 H3 hi e o => w.goes i H3 (by rw [ha.length]; exact hi) (at_ e o), fun B3 H3 e o => by rw [← ha.length]; exact w.stops H3 (at_ e o), fun i B3 H3 x H' d hd e o y => by
    have hi : i < vs.length := by rw [ha.length]; exact (List.getElem?_eq_some_iff.mp hd).1
    obtain ⟨rfl, hx⟩ := w.yields i H3 x H' hi (at_ e o) y
    obtain ⟨d', h1, h2⟩ := ha.getV hx
    rw [hd] at h1; cases h1
    exact ⟨B3, o.refl, h2.mono e⟩⟩
theorem walkD_tup {K : PySem.W.Frag} {B : Hp} {b : Addr} {vs : List V} (h : SqT K B b vs) (ha : DaAll K B vs xs) : WalkD T K (Itt K b) xs B :=
  have w := walk_tup (K := K) (a := b) (xs := vs)
  have at_ : ∀ {B3 H3}, ExtN B B3 → Go T B3 H3 → SqT K H3 b vs := fun e o => sqT_ext o.extN (sqT_ext e h)
  ⟨fun i B3 H3 hi e o => w.goes i H3 (by rw [ha.length]; exact hi) (at_ e o), fun B3 H3 e o => by rw [← ha.length]; exact w.stops H3 (at_ e o), fun i B3 H3 x H' d hd e o y => by
    have hi : i < vs.length := by rw [ha.length]; exact (List.getElem?_eq_some_iff.mp hd).1
    obtain ⟨rfl, hx⟩ := w.yields i H3 x H' hi (at_ e o) y
    obtain ⟨d', h1, h2⟩ := ha.getV hx
    rw [hd] at h1; cases h1
    exact ⟨B3, o.refl, h2.mono e⟩⟩
/-- over a list -/
theorem srcN_list {P : List D → Prop} (h : PN X T iter ds (fun d => ∃ l, d = .lst l ∧ P l)) : SrcN X T tg iter ds P := fun B H σ o s R q =>
  ofI (pi_list peW) (h B H σ o s _ fun v d B2 H2 g ⟨l, hd, pl⟩ a => by
    subst hd
    cases a with
    | lst h1 h2 => exact ⟨_, rfl, ⟨_, .of ((g.go o).sub _ _ h1)⟩, q _ l B2 H2 g pl (walkD_list h1 h2)⟩)
theorem src_list (h : PD X T iter ds (.lst xs)) : Src X T tg iter ds xs := srcN_list (h.pn ⟨xs, rfl, rfl⟩)
theorem src_tup (h : PD X T iter ds (.tup xs)) : Src X T tg iter ds xs := fun B H σ o s R q =>
  ofI (pi_tup peW) (h B H σ o s _ fun v B2 H2 g a => by
    cases a with
    | tup h1 h2 => exact ⟨_, rfl, ⟨_, sqT_ext (g.go o).extN h1⟩, q _ xs B2 H2 g rfl (walkD_tup h1 h2)⟩)
theorem walkD_rng {K : PySem.W.Frag} {B : Hp} {lo : Int} {n : Nat} : WalkD T K (Itr lo n) ((List.range n).map fun i : Nat => D.int (lo + (i : Int))) B :=
  have hl : ((List.range n).map fun i : Nat => D.int (lo + (i : Int))).length = n := by simp
  ⟨fun i B3 H3 hi e o => by rw [hl] at hi; exact hi, fun B3 H3 e o => by rw [hl]; exact Nat.le_refl _, fun i B3 H3 x H' d hd e o y => by
    obtain ⟨rfl, rfl⟩ := y
    rw [List.getElem?_map] at hd
    cases q : (List.range n)[i]? with
    | none => rw [q] at hd; cases hd
    | some j =>
      rw [q] at hd
      have hj : j = i := by
        obtain ⟨h1, h2⟩ := List.getElem?_eq_some_iff.mp q
        rw [List.getElem_range] at h2; exact h2.symm
      subst hj
      cases hd
      exact ⟨B3, o.refl, .int _⟩⟩
/-- range(n) -/
theorem srcN_range1 {P : Int → Prop} (hm : X.mg "range" = none) (h : PN X T a ds (fun d => ∃ n, d = .int n ∧ P n ∧ -(2 ^ 62) ≤ n ∧ n < 2 ^ 62)) (hg : Gl X "range" := by rfl) (hs : starEach [a] X.env = (false, eval a X.env) :: starEach [] X.env := by exact se_of rfl) :
    SrcN X T tg (.Call (.Name "range" p) [a] [] pos) ds (fun l => ∃ n, P n ∧ l = (List.range n.toNat).map fun i : Nat => D.int (0 + (i : Int))) := fun B H σ o s R q =>
  ofI (pi_range1 hg hm (pa_cons peW pa_nil hs) hs) (h B H σ o s _ fun v d B2 H2 g ⟨n, hd, pn, h1, h2⟩ a => by
    subst hd
    cases a
    exact ⟨n, rfl, h1, h2, q _ _ B2 H2 g ⟨n, pn, rfl⟩ walkD_rng⟩)
theorem src_range1 {n : Int} (hm : X.mg "range" = none) (h : PD X T a ds (.int n)) (h1 : -(2 ^ 62) ≤ n) (h2 : n < 2 ^ 62) (hg : Gl X "range" := by rfl) (hs : starEach [a] X.env = (false, eval a X.env) :: starEach [] X.env := by exact se_of rfl) :
    Src X T tg (.Call (.Name "range" p) [a] [] pos) ds ((List.range n.toNat).map fun i : Nat => D.int (0 + (i : Int))) := fun B H σ o s R q =>
  srcN_range1 (P := fun m => m = n) hm (h.pn ⟨n, rfl, rfl, h1, h2⟩) hg hs B H σ o s R fun J items B2 H2 g ⟨m, hm, hi⟩ w => by subst hm; exact q J items B2 H2 g hi w
theorem walkD_pair {K : PySem.W.Frag} {B : Hp} {J : It} {n : Nat} {G : Hp → Prop} {fx fy : Nat → Option V} {gx gy : Nat → D} (w : Walk J n G (YPair fx fy)) (hG : ∀ B3 H3, ExtN B B3 → Go T B3 H3 → G H3) (hx : ∀ i v, i < n → fx i = some v → Da K B v (gx i)) (hy : ∀ i v, i < n → fy i = some v → Da K B v (gy i)) :
    WalkD T K J ((List.range n).map fun i => D.tup [gx i, gy i]) B :=
  have hl : ((List.range n).map fun i => D.tup [gx i, gy i]).length = n := by simp
  ⟨fun i B3 H3 hi e o => w.goes i H3 (by rw [hl] at hi; exact hi) (hG B3 H3 e o), fun B3 H3 e o => by rw [hl]; exact w.stops H3 (hG B3 H3 e o), fun i B3 H3 x H' d hd e o y => by
    have hi : i < n := by rw [← hl]; exact (List.getElem?_eq_some_iff.mp hd).1
    have hd' : D.tup [gx i, gy i] = d := by
      rw [List.getElem?_map, List.getElem?_range hi] at hd
      exact Option.some.inj hd
    subst hd'
    obtain ⟨TT, u, v, rfl, hn, rfl, e1, e2⟩ := w.yields i H3 x H' hi (hG B3 H3 e o) y
    have g := o.geNew (o' := .tup [u, v]) hn nofun
    exact ⟨_, g, .tup (.of upd_same) (.cons (((hx i u hi e1).mono e).mono g.extN) (.cons (((hy i v hi e2).mono e).mono g.extN) .nil))⟩⟩
/-- enumerate(list) -/
theorem src_enumL (hm : X.mg "enumerate" = none) (h : PD X T a ds (.lst xs)) (hg : Gl X "enumerate" := by rfl) (hs : starEach [a] X.env = (false, eval a X.env) :: starEach [] X.env := by exact se_of rfl) :
    Src X T (.Tuple es kk tpos) (.Call (.Name "enumerate" p) [a] [] pos) ds ((List.range xs.length).map fun i : Nat => D.tup [.int (i : Int), xs.getD i .non]) := fun B H σ o s R q =>
  ofI (pi_enum hg hm (pa_cons peW pa_nil hs) hs) (h B H σ o s _ fun v B2 H2 g hv => by
    cases hv with
    | @lst b vs _ h1 h2 =>
      refine ⟨_, _, rfl, .of ((g.go o).sub _ _ h1), q _ _ B2 H2 g rfl ?_⟩
      have w := walk_enum (K := X.K) (a := b) (xs := vs)
      rw [h2.length] at w
      refine walkD_pair (gx := fun i => .int (i : Int)) (gy := fun i => xs.getD i .non) w (fun B3 H3 e o3 => .of (o3.sub _ _ (e _ _ h1 nofun))) (fun i v hi e => ?_) fun i v hi e => ?_
      · cases e; exact .int _
      · obtain ⟨d, e1, e2⟩ := h2.getV e
        rw [List.getD_eq_getElem?_getD, e1]
        exact e2)
/-- zip(list, list) -/
theorem src_zip {ys : List D} {b : Expr} (hm : X.mg "zip" = none) (ha : PD X T a ds (.lst xs)) (hb : PD X T b ds (.lst ys)) (hg : Gl X "zip" := by rfl) (hs : starEach [a, b] X.env = (false, eval a X.env) :: starEach [b] X.env := by exact se_of rfl)
    (hs2 : starEach [b] X.env = (false, eval b X.env) :: starEach [] X.env := by exact se_of rfl) (hpl : (backTo pos (starEach [b] X.env)).any (·.1) = false := by rfl) :
    Src X T (.Tuple es kk tpos) (.Call (.Name "zip" p) [a, b] [] pos) ds ((List.range (min xs.length ys.length)).map fun i : Nat => D.tup [xs.getD i .non, ys.getD i .non]) := fun B H σ o s R q =>
  ofI (pi_zip hg hm (pa_cons peW (pa_cons peW pa_nil hs2) hs) hs hpl) (ha B H σ o s _ fun v B1 H1 g1 hv => hb B1 H1 σ (g1.go o) (s.grow g1) _ fun u B2 H2 g2 hu => by
    have hv := hv.mono g2.extN
    have o2 := g2.go (g1.go o)
    cases hv with
    | @lst b vs _ h1 h2 => cases hu with
      | @lst c us _ k1 k2 =>
        refine ⟨_, _, _, _, rfl, .of (o2.sub _ _ h1), .of (o2.sub _ _ k1), q _ _ B2 H2 (g1.trans g2) rfl ?_⟩
        have w := walk_zip (K := X.K) (a := b) (b := c) (xs := vs) (ys := us) rfl
        rw [h2.length, k2.length] at w
        refine walkD_pair (gx := fun i => xs.getD i .non) (gy := fun i => ys.getD i .non) w (fun B3 H3 e o3 => ⟨.of (o3.sub _ _ (e _ _ h1 nofun)), .of (o3.sub _ _ (e _ _ k1 nofun))⟩) (fun i v hi e => ?_) fun i v hi e => ?_
        · obtain ⟨d, e1, e2⟩ := h2.getV e
          rw [List.getD_eq_getElem?_getD, e1]
          exact e2
        · obtain ⟨d, e1, e2⟩ := k2.getV e
          rw [List.getD_eq_getElem?_getD, e1]
          exact e2)
end

/-! ### comprehensions -/
abbrev Blk (X : Cx) (scope : Scope) (s : Shared) (H : Hp) (C : Addr) (cl : List (Str × Addr)) (fp : List Addr) : Cx := X.blk s H scope (compEnvC scope cl C X.env) fp
/-- in every block of the comprehension -/
def inBlk (X : Cx) (scope : Scope) (P : Cx → Prop) : Prop := ∀ s H C cl fp, P (Blk X scope s H C cl fp)
def wpEb (X : Cx) (scope : Scope) (e : Expr) : TE := fun σ H Q => ∀ s0 H0 C cl fp, wpE (Blk X scope s0 H0 C cl fp) e σ H Q
def wpTb (X : Cx) (scope : Scope) (e : Expr) : TT := fun σ H Q => ∀ s0 H0 C cl fp, wpT (Blk X scope s0 H0 C cl fp) e σ H Q
def wipeD (ds : List Sl) : List Nat → List Sl
  | [] => ds
  | v :: vs => (wipeD ds vs).set v .no
theorem wipeD_len (ds : List Sl) : ∀ vs, (wipeD ds vs).length = ds.length
  | [] => rfl
  | v :: vs => by unfold wipeD; rw [List.length_set, wipeD_len ds vs]
theorem Sd.setN {K : PySem.W.Frag} {B H : Hp} {σ : L2.St} {ds : List Sl} (s : Sd K B H σ ds) (i : Nat) (x : Option V) : Sd K B H (σ.set i x) (ds.set i .no) := by
  refine ⟨fun j d' e => ?_, fun j xs e => ?_, fun j xs e => ?_, fun j k xs ys l e1 e2 f1 f2 => ?_, by simpa using s.len, fun j l xs c e => ?_⟩
  · rcases set_get e with ⟨_, e, _⟩ | ⟨ne, e⟩
    · cases e
    · rw [List.getElem?_set_ne ne]; exact s.dat j d' e
  · rcases set_get e with ⟨_, e, _⟩ | ⟨ne, e⟩
    · cases e
    · rw [List.getElem?_set_ne ne]; exact s.own j xs e
  · rcases set_get e with ⟨_, e, _⟩ | ⟨ne, e⟩
    · cases e
    · rw [List.getElem?_set_ne ne]; exact s.ownD j xs e
  · rcases set_get e1 with ⟨_, e1, _⟩ | ⟨ne1, e1⟩
    · cases e1
    · rcases set_get e2 with ⟨_, e2, _⟩ | ⟨ne2, e2⟩
      · cases e2
      · rw [List.getElem?_set_ne ne1] at f1
        rw [List.getElem?_set_ne ne2] at f2
        exact s.inj j k xs ys l e1 e2 f1 f2
  · rcases set_get e with ⟨_, e, _⟩ | ⟨ne, e⟩
    · cases e
    · obtain ⟨h1, h2, h3, h4⟩ := s.bg j l xs c e
      refine ⟨by rw [List.getElem?_set_ne ne]; exact h1, h2, h3, fun k ys e2 => ?_⟩
      rcases set_get e2 with ⟨_, e2, _⟩ | ⟨ne2, e2⟩
      · cases e2
      · rw [List.getElem?_set_ne ne2]; exact h4 k ys e2
theorem Sd.wipe {K : PySem.W.Frag} {B H : Hp} {σ : L2.St} {ds : List Sl} (s : Sd K B H σ ds) : ∀ vs : List Nat, Sd K B H (L2.wipe σ vs) (wipeD ds vs)
  | [] => s
  | v :: vs => (s.wipe vs).setN v none
/-- the tests behind a clause: none, or one -/
def IfsB (X : Cx) (scope : Scope) (T : List (Addr × Str)) : List Expr → List Sl → Bool → Prop
  | [], _, b => b = true
  | [c], ds, b => inBlk X scope fun Y => TD Y T c ds b
  | _, _, _ => False
def wpIfs (X : Cx) (scope : Scope) : List Expr → TT
  | [] => tYes
  | [c] => wpTb X scope c
  | _ => fun _ _ _ => False
theorem ptsW {X : Cx} {scope : Scope} {s : Shared} {H : Hp} {C : Addr} {cl : List (Str × Addr)} {fp : List Addr} : ∀ ifs, ifs.length ≤ 1 → PTs (Blk X scope s H C cl fp) ifs (wpIfs X scope ifs)
  | [], _ => pts_nil
  | [c], _ => pts_one ⟨fun _ _ _ _ _ I h => (h _ _ _ _ _).run _ _ I⟩
  | _ :: _ :: _, h => by simp at h
section
variable {X : Cx} {T : List (Addr × Str)} {elt tg iter : Expr} {ifs : List Expr} {scope : Scope} {own : List (Str × Nat)} {pos : Pos} {ds : List Sl} {pat : Pat}
/-- a comprehension, as an expression or given to a local name on its line -/
def PLc (X : Cx) (T : List (Addr × Str)) (e : Expr) (ds : List Sl) (P : List D → Prop) : Prop :=
  ∃ t : TE, PE X e t ∧ (∀ {i : Nat} {y : Str} {py spos : Pos}, X.N[i]? = some y → X.env.scope.names.lookup y = some .local → swapsWith e (some (.Name y py)) spos.line X.env = pure true → PS X (.Assign [.Name y py] e spos) (tAsg t (gName i))) ∧
    ∀ (B H : Hp) (σ : L2.St), Go T B H → Sd X.K B H σ ds → ∀ Q : VK, (∀ p vs d B2 H2, H p = none → Ge T B H B2 H2 → B2 p = none → P d → H2 p = some (.lst vs) → DaAll X.K B2 vs d → Q (.ref p) H2) → t σ H Q
theorem PLc.pln {e : Expr} {P : List D → Prop} (h : PLc X T e ds P) : PLn X T e ds P := fun B H σ o s Q q => by
  obtain ⟨t, h1, _, h2⟩ := h
  exact ofE h1 (h2 B H σ o s Q q)
/-- [elt for tg in iter if ..]: I by the turn, the items and what is made so far -/
theorem plc_lc {P0 : List D → Prop} {P : List D → Prop} (I : Nat → List D → List D → Prop) (hsrc : SrcN X T tg iter ds P0) (hp : inBlk X scope fun Y => PatOk Y tg pat) (ok : BlkOk X.N X.env.scope scope own) (hN : X.N.Nodup)
    (hsl : ∀ i ∈ pat.slots, i ∈ own.map (·.2)) (h0 : ∀ items, P0 items → I 0 items [])
    (hstep : ∀ items (i : Nat) d acc, P0 items → items[i]? = some d → I i items acc → ∃ ds', pat.bind d (wipeD ds (own.map (·.2))) = some ds' ∧ ∃ b, IfsB X scope T ifs ds' b ∧
      (b = true → inBlk X scope (fun Y => PN Y T elt ds' (fun e => I (i + 1) items (acc ++ [e]))) ∧ acc.length < sizeLine) ∧ (b = false → I (i + 1) items acc))
    (hend : ∀ items acc, P0 items → I items.length items acc → P acc) (hi1 : ifs.length ≤ 1 := by decide) (hc : X.calm = true := by rfl) (hs : ∀ x, foldedSetIterable iter X.env x = pure x := by intro _; rfl) :
    PLc X T (.ListComp elt [⟨tg, iter, ifs, 0⟩] scope pos) ds P := by
  refine ⟨_, pe_lc (g := pat.tg X.K) (te := wpEb X scope elt) hc hN piW ok (fun s H C cl fp => hp s H C cl fp) (fun s H C cl fp => ptsW ifs hi1) (fun _ _ _ _ _ => ⟨fun _ _ _ _ _ I h => (h _ _ _ _ _).run _ _ I⟩) hs,
    fun hy hl hsw => ps_setLc (g := pat.tg X.K) (te := wpEb X scope elt) hc hN hy hl hsw piW ok (fun s H C cl fp => hp s H C cl fp) (fun s H C cl fp => ptsW ifs hi1) (fun _ _ _ _ _ => ⟨fun _ _ _ _ _ I h => (h _ _ _ _ _).run _ _ I⟩) hs, fun B H σ o s Q q => ?_⟩
  refine hsrc B H σ o s _ fun J items B1 H1 g1 p0 w Dl hD => ?_
  have o1 := g1.go o
  refine ⟨fun i m H' => m = items.length - i ∧ i ≤ items.length ∧ ∃ B' acc vs, Ge T B1 H1 B' H' ∧ B' Dl = none ∧ H' Dl = some (.lst vs) ∧ DaAll X.K B' vs acc ∧ I i items acc,
    ⟨items.length, by simp, Nat.zero_le _, B1, [], [], o1.ge (.new hD), o1.nb hD, upd_same, .nil, h0 items p0⟩, ?_⟩
  rintro i m H' ⟨rfl, hi, B', acc, vs, g, hB, hH, ha, hI⟩
  have o' := g.go o1
  by_cases hlt : i < items.length
  · refine .inr ⟨w.goes i B' H' hlt g.extN o', fun H2 => i + 1 ≤ items.length ∧ ∃ B' acc vs, Ge T B1 H1 B' H2 ∧ B' Dl = none ∧ H2 Dl = some (.lst vs) ∧ DaAll X.K B' vs acc ∧ I (i + 1) items acc,
      fun H2 h2 => ⟨items.length - (i + 1), by omega, rfl, h2⟩, fun x H2 y => ?_⟩
    have hd : items[i]? = some items[i] := List.getElem?_eq_getElem hlt
    obtain ⟨B2, g2, hx⟩ := w.yields i B' H' x H2 _ hd g.extN o' y
    obtain ⟨ds', hb, b, hifs, hy, hn⟩ := hstep items i _ acc p0 hd hI
    have o2 := g2.go o'
    have s2 : Sd X.K B2 H2 (wipe σ (own.map (·.2))) (wipeD ds (own.map (·.2))) := ((((s.grow g1).grow g).wipe _).grow g2)
    refine bind_ok o2 pat s2 hx hb fun σ' s' f _ => ⟨?_, ?_⟩
    · exact wipe_off (f.mono hsl) |>.trans (wipe_off (off_wipe _ σ))
    · have hH2 : H2 Dl = some (.lst vs) := g2.gr.isl hH
      have hB2 : B2 Dl = none := own_free g2 (by rw [hH]; nofun) hB (by rw [hH2]; trivial)
      have ha2 := ha.mono g2.extN
      have go : ∀ B3 H3, Ge T B2 H2 B3 H3 → (if b = true then wpEb X scope elt σ' H3 fun y H4 => ∃ acc, H4 Dl = some (.lst acc) ∧ acc.length < sizeLine ∧ (i + 1 ≤ items.length ∧ ∃ B' acc' vs, Ge T B1 H1 B' (upd H4 Dl (.lst (acc ++ [y]))) ∧ B' Dl = none ∧ (upd H4 Dl (.lst (acc ++ [y]))) Dl = some (.lst vs) ∧ DaAll X.K B' vs acc' ∧ I (i + 1) items acc')
          else (i + 1 ≤ items.length ∧ ∃ B' acc vs, Ge T B1 H1 B' H3 ∧ B' Dl = none ∧ H3 Dl = some (.lst vs) ∧ DaAll X.K B' vs acc ∧ I (i + 1) items acc)) := fun B3 H3 g3 => by
        have hH3 : H3 Dl = some (.lst vs) := g3.gr.isl hH2
        have hB3 : B3 Dl = none := own_free g3 (by rw [hH2]; nofun) hB2 (by rw [hH3]; trivial)
        cases b with
        | false => exact iteF ⟨hlt, B3, acc, vs, (g.trans g2).trans g3, hB3, hH3, ha2.mono g3.extN, hn rfl⟩
        | true =>
          refine iteT fun s0 H0 C cl fp => ?_
          obtain ⟨he, hz⟩ := hy rfl
          refine he s0 H0 C cl fp B3 H3 σ' (g3.go o2) (s'.grow g3) _ fun v d B4 H4 g4 hI4 hv => ?_
          have hH4 : H4 Dl = some (.lst vs) := g4.gr.isl hH3
          have hB4 : B4 Dl = none := own_free g4 (by rw [hH3]; nofun) hB3 (by rw [hH4]; trivial)
          have gA := ((g.trans g2).trans g3).trans g4
          refine ⟨vs, hH4, by rw [ha.length]; exact hz, hlt, B4, acc ++ [d], vs ++ [v], ?_, hB4, upd_same, ((ha2.mono g3.extN).mono g4.extN).append (.cons hv .nil), hI4⟩
          exact ⟨gA.gr.mut hD (mut_l hH4), gA.ext, fun a u e => by rw [upd_ne (ne_of_none e hB4)]; exact gA.sub a u e, gA.new, gA.nt⟩
      revert hifs go
      match ifs, hi1 with
      | [], _ => intro hifs go; cases (show b = true from hifs); exact go B2 H2 o2.refl
      | [c], _ =>
        intro hifs go s0 H0 C cl fp
        exact hifs s0 H0 C cl fp B2 H2 σ' o2 s' _ fun B3 H3 g3 => go B3 H3 g3
      | _ :: _ :: _, h => simp at h
  · have e : i = items.length := by omega
    subst e
    exact .inl ⟨w.stops B' H' g.extN o', q Dl vs acc B' H' (g1.gr.dom _ hD) (g1.trans g) hB (hend items acc p0 hI) hH ha⟩
end
end E
/-! statements, defs, calls -/
namespace E
open LamX L2 PyProof.Rows PySem PySem.Spec

/-- what a block is to reach: what it hands back, the slots behind it, behind break, behind continue -/
structure Out where
  rt : D → Prop := fun _ => False
  nx : List Sl → Prop := fun _ => False
  bk : List Sl → Prop := fun _ => False
  ct : List Sl → Prop := fun _ => False
  ex : Hp → Hp → Prop := fun _ _ => True
structure Here (X : Cx) (T : List (Addr × Str)) (B0 H0 B H : Hp) (σ : L2.St) (ds : List Sl) : Prop where
  go : Go T B H
  ge : Ge T B0 H0 B H
  sd : Sd X.K B H σ ds
  so : So H0 σ ds
def Reach (X : Cx) (T : List (Addr × Str)) (B0 H0 : Hp) (N : List Sl → Prop) (k : L2.St → Hp → Prop) : Prop := ∀ B2 H2 σ2 ds2, N ds2 → Here X T B0 H0 B2 H2 σ2 ds2 → k σ2 H2
structure Dn (X : Cx) (T : List (Addr × Str)) (B0 H0 : Hp) (O : Out) (De : Ends) : Prop where
  rt : ∀ v d B2 H2, Ge T B0 H0 B2 H2 → O.rt d → Da X.K B2 v d → O.ex B2 H2 → De.rt v H2
  nx : Reach X T B0 H0 O.nx De.nx
  bk : Reach X T B0 H0 O.bk De.bk
  ct : Reach X T B0 H0 O.ct De.ct
/-- the block, from slots of these data, reaches O -/
def RG (X : Cx) (T : List (Addr × Str)) (sts : List Stmt) (ds : List Sl) (O : Out) : Prop :=
  ∀ B0 H0 B H σ De, Here X T B0 H0 B H σ ds → Dn X T B0 H0 O De → wpSs X sts De σ H

/-! ### own lists read -/
def Sl.op : Sl → Sl
  | .own xs => .dat (.lst xs)
  | .ownD kvs => .dat (.dic kvs)
  | s => s
def opn (ds : List Sl) : List Sl := ds.map Sl.op
open Classical in
/-- B with one's own things -/
noncomputable def withOwn (B H0 H : Hp) : Hp := fun a => match B a with
  | some o => some o
  | none => if H0 a = none ∧ (∀ ps, H a ≠ some (.tbl ps)) then H a else none
section
variable {X : Cx} {T : List (Addr × Str)} {B0 H0 B H : Hp} {σ : L2.St} {ds : List Sl}
theorem wo_B {a : Addr} {o : HO} (h : B a = some o) : withOwn B H0 H a = some o := by unfold withOwn; rw [h]
theorem wo_own {a : Addr} (h : B a = none) (h0 : H0 a = none) (ht : ∀ ps, H a ≠ some (.tbl ps)) : withOwn B H0 H a = H a := by unfold withOwn; rw [h]; exact if_pos ⟨h0, ht⟩
theorem wo_sub (hs : ∀ a o, B a = some o → H a = some o) {a : Addr} {o : HO} (h : withOwn B H0 H a = some o) : H a = some o := by
  unfold withOwn at h
  cases q : B a with
  | some u => rw [q] at h; rw [hs _ _ q]; exact h
  | none =>
    rw [q] at h
    by_cases hc : H0 a = none ∧ ∀ ps, H a ≠ some (.tbl ps)
    · rw [if_pos hc] at h; exact h
    · rw [if_neg hc] at h; cases h
theorem wo_ext : ExtN B (withOwn B H0 H) := .of fun a o h => wo_B h
theorem wo_nt (hn : ∀ a ps, B a ≠ some (.tbl ps)) (a : Addr) (ps : Array Value) : withOwn B H0 H a ≠ some (.tbl ps) := fun h => by
  unfold withOwn at h
  cases q : B a with
  | some u => rw [q] at h; exact hn a ps (by rw [q]; exact h)
  | none =>
    rw [q] at h
    by_cases hc : H0 a = none ∧ ∀ ps, H a ≠ some (.tbl ps)
    · rw [if_pos hc] at h; exact hc.2 ps h
    · rw [if_neg hc] at h; cases h
theorem Here.opn (h : Here X T B0 H0 B H σ ds) : Here X T B0 H0 (withOwn B H0 H) H σ (opn ds) := by
  refine ⟨⟨fun a o e => wo_sub h.go.sub e, wo_nt h.go.nt, h.go.tab⟩, ⟨h.ge.gr, fun a o e => wo_B (h.ge.ext a o e), fun a o e => wo_sub h.go.sub e, fun a m => ?_, wo_nt h.go.nt⟩, ⟨fun i d e => ?_, fun i xs e => ?_, fun i xs e => ?_, fun i j xs ys l e1 e2 => ?_, ?_, fun i l xs c e => ?_⟩, fun i l e => ?_, fun i l xs c e => ?_⟩
  · cases q : B a with
    | some u => exact h.ge.new a (by rw [q]; rw [wo_B q] at m; exact m)
    | none =>
      unfold withOwn at m
      rw [q] at m
      by_cases hc : H0 a = none ∧ ∀ ps, H a ≠ some (.tbl ps)
      · exact .inr hc.1
      · simp only [if_neg hc] at m; exact m.elim
  · unfold E.opn at e
    rw [List.getElem?_map] at e
    cases q : ds[i]? with
    | none => rw [q] at e; cases e
    | some s =>
      rw [q] at e
      cases s with
      | no => cases e
      | dat d' => cases e; obtain ⟨v, h1, h2⟩ := h.sd.dat i d q; exact ⟨v, h1, h2.mono wo_ext⟩
      | bag l xs c => cases e
      | own xs =>
        cases e
        obtain ⟨l, vs, h1, h2, h3, h4⟩ := h.sd.own i xs q
        exact ⟨_, h1, .lst (by rw [wo_own h3 (h.so.1 i l (.inl ⟨xs, q⟩) h1) (by rw [h2]; nofun)]; exact h2) (h4.mono wo_ext)⟩
      | ownD xs =>
        cases e
        obtain ⟨l, vs, h1, h2, h3, h4⟩ := h.sd.ownD i xs q
        exact ⟨_, h1, .dic (by rw [wo_own h3 (h.so.1 i l (.inr ⟨xs, q⟩) h1) (by rw [h2]; nofun)]; exact h2) (h4.mono wo_ext)⟩
  · exfalso
    unfold E.opn at e
    rw [List.getElem?_map] at e
    cases q : ds[i]? with
    | none => rw [q] at e; cases e
    | some s => rw [q] at e; cases s <;> cases e
  · exfalso
    unfold E.opn at e
    rw [List.getElem?_map] at e
    cases q : ds[i]? with
    | none => rw [q] at e; cases e
    | some s => rw [q] at e; cases s <;> cases e
  · exfalso
    unfold E.opn at e1
    rw [List.getElem?_map] at e1
    cases q : ds[i]? with
    | none => rw [q] at e1; cases e1
    | some s => rw [q] at e1; cases s <;> cases e1
  · unfold E.opn; rw [List.length_map]; exact h.sd.len
  · unfold E.opn at e
    rw [List.getElem?_map] at e
    cases q : ds[i]? with
    | none => rw [q] at e; cases e
    | some s =>
      rw [q] at e
      cases s with
      | bag l' ys c' =>
        cases e
        obtain ⟨h1, ⟨h2, h4⟩, h3, h5⟩ := h.sd.bg i l xs c q
        obtain ⟨ps, h6⟩ := h.so.2 i l xs c q
        refine ⟨h1, ⟨h2, cells_ext wo_ext h4⟩, ?_, fun j ys e => ?_⟩
        · unfold withOwn
          rw [h3]
          exact if_neg fun z => by rw [h6] at z; cases z.1
        · exfalso
          unfold E.opn at e
          rw [List.getElem?_map] at e
          cases q2 : ds[j]? with
          | none => rw [q2] at e; cases e
          | some s => rw [q2] at e; cases s <;> cases e
      | _ => cases e
  · exfalso
    unfold E.opn at e
    rw [List.getElem?_map] at e
    cases q : ds[i]? with
    | none => rw [q] at e; rcases e with ⟨_, e⟩ | ⟨_, e⟩ <;> cases e
    | some s => rw [q] at e; rcases e with ⟨_, e⟩ | ⟨_, e⟩ <;> (cases s <;> cases e)
  · unfold E.opn at e
    rw [List.getElem?_map] at e
    cases q : ds[i]? with
    | none => rw [q] at e; cases e
    | some s =>
      rw [q] at e
      cases s with
      | bag l' ys c' => cases e; exact h.so.2 i l xs c q
      | _ => cases e
theorem Here.grow {B2 H2 : Hp} (h : Here X T B0 H0 B H σ ds) (g : Ge T B H B2 H2) : Here X T B0 H0 B2 H2 σ ds := ⟨g.go h.go, h.ge.trans g, h.sd.grow g, h.so⟩
end
mutual
def D.lf : D → Bool
  | .lst _ => false
  | .dic _ => false
  | .bag => false
  | .scr _ => false
  | .tup xs => D.lfs xs
  | .ftp xs => D.lfs xs
  | _ => true
def D.lfs : List D → Bool
  | [] => true
  | d :: ds => d.lf && D.lfs ds
end
mutual
theorem Da.lfm {K : PySem.W.Frag} {B B' : Hp} (e : ∀ a u, ¬ Mut (some u) → B a = some u → B' a = some u) : ∀ {v : V} {d : D}, d.lf = true → Da K B v d → Da K B' v d
  | _, _, _, .non => .non
  | _, _, _, .bl b => .bl b
  | _, _, _, .int i => .int i
  | _, _, _, .str i => .str i
  | _, _, h, .tup h1 h2 => .tup (h1.imp (fun hs => hs.elim (fun hs => .inl (e _ _ (fun m => m) hs)) fun ⟨o, hs⟩ => .inr ⟨o, e _ _ (fun m => m) hs⟩) id) (h2.lfm e (by simpa [D.lf] using h))
  | _, _, h, .ftp h1 h3 h2 => .ftp (e _ _ (fun m => m) h1) h3 (h2.lfm e (by simpa [D.lf] using h))
  | _, _, h, .lst _ _ => by simp [D.lf] at h
  | _, _, h, .dic _ _ => by simp [D.lf] at h
  | _, _, h, .bag _ _ => by simp [D.lf] at h
  | _, _, h, .scr _ => by simp [D.lf] at h
theorem DaAll.lfm {K : PySem.W.Frag} {B B' : Hp} (e : ∀ a u, ¬ Mut (some u) → B a = some u → B' a = some u) : ∀ {v : List V} {d : List D}, D.lfs d = true → DaAll K B v d → DaAll K B' v d
  | _, _, _, .nil => .nil
  | _, _, h, .cons h1 h2 => by
    simp only [D.lfs, Bool.and_eq_true] at h
    exact .cons (h1.lfm e h.1) (h2.lfm e h.2)
end

section
variable {X : Cx} {T : List (Addr × Str)} {ds : List Sl} {rest : List Stmt} {O : Out} {e c : Expr} {i : Nat} {x : Str} {pos pos' : Pos} {P : D → Prop}
/-- an expression over own things that comes to data without lists -/
def PO' (X : Cx) (T : List (Addr × Str)) (e : Expr) (ds : List Sl) (P : D → Prop) : Prop := ∀ B0 H0 B H σ, Here X T B0 H0 B H σ ds → ∀ Q : VK, (∀ v d B2 H2, Ge T B H B2 H2 → P d → Da X.K B2 v d → Q v H2) → wpE X e σ H Q
theorem PN.po (h : PN X T e ds P) : PO' X T e ds P := fun B0 H0 B H σ hh Q q => h B H σ hh.go hh.sd Q q
open Classical in
/-- B2 without what is one's own -/
noncomputable def lowB (B H B2 : Hp) : Hp := fun a => if B a = none ∧ Mut (H a) then none else B2 a
theorem lowB_out {B H B2 : Hp} {a : Addr} (h : ¬ (B a = none ∧ Mut (H a))) : lowB B H B2 a = B2 a := if_neg h
theorem lowB_some {B H B2 : Hp} {a : Addr} {o : HO} (h : lowB B H B2 a = some o) : B2 a = some o ∧ ¬ (B a = none ∧ Mut (H a)) := by
  by_cases hc : B a = none ∧ Mut (H a)
  · have e : lowB B H B2 a = none := if_pos hc
    rw [e] at h; cases h
  · rw [lowB_out hc] at h; exact ⟨h, hc⟩
theorem mut_nt {o : HO} (m : Mut (some o)) (ps : Array Value) : o ≠ .tbl ps := fun z => by subst z; exact m
theorem PN.opn (h : PN X T e (opn ds) P) (hl : ∀ d, P d → d.lf = true) : PO' X T e ds P := fun B0 H0 B H σ hh Q q => by
  have h2 := hh.opn
  refine h _ H σ h2.go h2.sd Q fun v d B2 H2 g pd a => ?_
  have hT : ∀ {a : Addr} {u : HO}, ¬ Mut (some u) → B2 a = some u → lowB B H B2 a = some u := fun {a u} nm hs => by
    refine (lowB_out fun hc => ?_).trans hs
    cases q3 : H a with
    | none => rw [q3] at hc; exact hc.2
    | some w =>
      have m := hc.2
      rw [q3] at m
      have e1 := g.gr.ext a w q3 (mut_nt m)
      rw [g.sub a u hs] at e1
      cases e1
      exact nm m
  refine q v d (lowB B H B2) H2 ⟨g.gr, fun a o e => ?_, fun a o e => g.sub a o (lowB_some e).1, fun a m => ?_, fun a ps z => g.nt a ps (lowB_some z).1⟩ pd (a.lfm (fun a xs nm hs => hT nm hs) (hl d pd))
  · rw [lowB_out (by rw [e]; exact fun z => nomatch z.1)]
    exact g.ext a o (wo_B e)
  · cases q2 : lowB B H B2 a with
    | none => rw [q2] at m; exact m.elim
    | some u =>
      rw [q2] at m
      obtain ⟨e1, e2⟩ := lowB_some q2
      rcases g.new a (by rw [e1]; exact m) with n | n
      · by_cases hb : B a = none
        · exfalso
          cases q3 : withOwn B H0 H a with
          | none => exact n q3
          | some w =>
            have e3 := g.ext a w q3
            rw [e1] at e3
            cases e3
            exact e2 ⟨hb, by rw [wo_sub hh.go.sub q3]; exact m⟩
        · exact .inl hb
      · exact .inr n
end
end E
/-! statements -/
namespace E
open LamX L2 PyProof.Rows PySem PySem.Spec
section
variable {X : Cx} {T : List (Addr × Str)} {B0 H0 B H B1 H1 : Hp} {σ : L2.St} {ds : List Sl} {rest body body2 : List Stmt} {st : Stmt} {O : Out} {e c a tg iter : Expr} {i : Nat} {x : Str} {pos pos' p : Pos} {P : D → Prop} {De : Ends} {d : D}
theorem ss_cons (h : wpSt X st { De with nx := fun σ' H' => wpSs X rest De σ' H' } σ H) : wpSs X (st :: rest) De σ H := ofSs (pss_cons psW pssW) h
theorem opn_po {b : Bool} (h : TD X T e (opn ds) b) (hh : Here X T B0 H0 B H σ ds) {Q : Bool → Hp → Prop} (q : ∀ H2, Ge T B H B H2 → Q b H2) : wpT X e σ H Q :=
  h _ H σ hh.opn.go hh.opn.sd Q fun B2 H2 g => q H2 (hh.go.ge g.gr)
theorem Here.set {v : V} (h : Here X T B0 H0 B H σ ds) (i : Nat) (hv : Da X.K B v d) : Here X T B0 H0 B H (σ.set i (some v)) (ds.set i (.dat d)) := ⟨h.go, h.ge, h.sd.setD i hv, h.so.set v _ (fun l e => by rcases e with ⟨_, e⟩ | ⟨_, e⟩ <;> cases e)⟩
theorem Here.setNew {p : Addr} {vs : List V} {xs : List D} {B2 H2 : Hp} (h : Here X T B0 H0 B H σ ds) (i : Nat) (hp : H p = none) (g : Ge T B H B2 H2) (hb : B2 p = none) (h2 : H2 p = some (.lst vs)) (ha : DaAll X.K B2 vs xs) : Here X T B0 H0 B2 H2 (σ.set i (some (.ref p))) (ds.set i (.own xs)) := by
  have hg := h.grow g
  have s := hg.sd
  have hl := s.len
  have np : ∀ (j : Nat) l ys, ds[j]? = some (.own ys) → σ[j]? = some (some (.ref l)) → l ≠ p := fun j l ys e f z => by
    obtain ⟨l', vs', f1, f2, _⟩ := h.sd.own j ys e
    rw [f] at f1; cases f1
    rw [z, hp] at f2; cases f2
  refine ⟨hg.go, hg.ge, ⟨fun j d' e => ?_, fun j ys e => ?_, fun j ys e => ?_, fun j k ys zs l e1 e2 f1 f2 => ?_, by simpa using s.len, fun j l ys c e => ?_⟩, hg.so.set _ _ (fun l e z => by cases z; exact h.ge.gr.dom p hp)⟩
  · rcases set_get e with ⟨_, e, _⟩ | ⟨ne, e⟩
    · cases e
    · rw [List.getElem?_set_ne ne]; exact s.dat j d' e
  · rcases set_get e with ⟨rfl, e, hi⟩ | ⟨ne, e⟩
    · cases e
      exact ⟨p, vs, by rw [List.getElem?_set_self (by omega)], h2, hb, ha⟩
    · rw [List.getElem?_set_ne ne]; exact s.own j ys e
  · rcases set_get e with ⟨_, e, _⟩ | ⟨ne, e⟩
    · cases e
    · rw [List.getElem?_set_ne ne]; exact s.ownD j ys e
  · rcases set_get e1 with ⟨r1, e1, hi1⟩ | ⟨ne1, e1⟩
    · rcases set_get e2 with ⟨r2, e2, _⟩ | ⟨ne2, e2⟩
      · exact r1.symm.trans r2
      · subst r1
        rw [List.getElem?_set_self (by omega)] at f1
        rw [List.getElem?_set_ne ne2] at f2
        cases f1
        exact absurd rfl (np k p zs e2 f2)
    · rcases set_get e2 with ⟨r2, e2, hi2⟩ | ⟨ne2, e2⟩
      · subst r2
        rw [List.getElem?_set_self (by omega)] at f2
        rw [List.getElem?_set_ne ne1] at f1
        cases f2
        exact absurd rfl (np j p ys e1 f1)
      · rw [List.getElem?_set_ne ne1] at f1
        rw [List.getElem?_set_ne ne2] at f2
        exact s.inj j k ys zs l e1 e2 f1 f2
  · rcases set_get e with ⟨_, e, _⟩ | ⟨ne, e⟩
    · cases e
    · obtain ⟨k1, k2, k3, k4⟩ := s.bg j l ys c e
      obtain ⟨_, ⟨k5, _⟩, _, _⟩ := h.sd.bg j l ys c e
      refine ⟨by rw [List.getElem?_set_ne ne]; exact k1, k2, k3, fun k zs e2 => ?_⟩
      rcases set_get e2 with ⟨r2, e2, hi2⟩ | ⟨ne2, e2⟩
      · subst r2
        rw [List.getElem?_set_self (by omega)]
        intro z
        cases z
        rw [hp] at k5
        cases k5
      · rw [List.getElem?_set_ne ne2]; exact k4 k zs e2
theorem tabs_upd {l : Addr} {o : HO} (t : Tabs T H) (ho : ∃ u, H l = some u ∧ (∀ ps, u ≠ .tbl ps) ∧ ∀ c q, u ≠ CodeO c q) : Tabs T (upd H l o) := fun p hp => by
  obtain ⟨u, hl, n1, n2⟩ := ho
  obtain ⟨ps, h1, h2, h3⟩ := t p hp
  have e1 : p.1 ≠ l := fun z => by rw [z, hl] at h1; exact n1 ps (Option.some.inj h1)
  refine ⟨ps, by rw [upd_ne e1]; exact h1, h2, fun pos cv hc => ?_⟩
  obtain ⟨c, e, h4⟩ := h3 pos cv hc
  have e2 : c ≠ l := fun z => by rw [z, hl] at h4; exact n2 _ _ (Option.some.inj h4)
  exact ⟨c, e, by rw [upd_ne e2]; exact h4⟩
/-- an own list is written -/
theorem Here.write {l : Addr} {vs vs' : List V} {xs xs' : List D} (h : Here X T B0 H0 B H σ ds) (hi : ds[i]? = some (.own xs)) (hs : σ[i]? = some (some (.ref l))) (hl : H l = some (.lst vs)) (hb : B l = none) (ha : DaAll X.K B vs' xs') :
    Here X T B0 H0 B (upd H l (.lst vs')) σ (ds.set i (.own xs')) := by
  have h0 := h.so.1 i l (.inl ⟨xs, hi⟩) hs
  have sub : ∀ a o, B a = some o → upd H l (.lst vs') a = some o := fun a o e => by rw [upd_ne (ne_of_none e hb)]; exact h.go.sub a o e
  refine ⟨⟨sub, h.go.nt, tabs_upd h.go.tab (mut_l hl)⟩, ⟨h.ge.gr.mut h0 (mut_l hl), h.ge.ext, sub, h.ge.new, h.ge.nt⟩, ⟨fun j d' e => ?_, fun j ys e => ?_, fun j ys e => ?_, fun j k ys zs m e1 e2 f1 f2 => ?_, by simpa using h.sd.len, fun j m ys c e => ?_⟩, fun j m e f => ?_, fun j m ys c e => ?_⟩
  · rcases set_get e with ⟨_, e, _⟩ | ⟨ne, e⟩
    · cases e
    · exact h.sd.dat j d' e
  · rcases set_get e with ⟨rfl, e, hi⟩ | ⟨ne, e⟩
    · cases e
      exact ⟨l, vs', hs, upd_same, hb, ha⟩
    · obtain ⟨m, ws, f1, f2, f3, f4⟩ := h.sd.own j ys e
      have nm : m ≠ l := fun z => by subst z; exact ne (h.sd.inj i j xs ys m hi e hs f1)
      exact ⟨m, ws, f1, by rw [upd_ne nm]; exact f2, f3, f4⟩
  · rcases set_get e with ⟨_, e, _⟩ | ⟨ne, e⟩
    · cases e
    · obtain ⟨m, ws, f1, f2, f3, f4⟩ := h.sd.ownD j ys e
      have nm : m ≠ l := fun z => by rw [z, hl] at f2; cases f2
      exact ⟨m, ws, f1, by rw [upd_ne nm]; exact f2, f3, f4⟩
  · have key : ∀ (j : Nat) ys, (ds.set i (.own xs'))[j]? = some (.own ys) → ∃ ws, ds[j]? = some (.own ws) := fun j ys e => by
      rcases set_get e with ⟨rfl, _, _⟩ | ⟨_, e⟩
      · exact ⟨xs, hi⟩
      · exact ⟨ys, e⟩
    obtain ⟨w1, k1⟩ := key j ys e1
    obtain ⟨w2, k2⟩ := key k zs e2
    exact h.sd.inj j k w1 w2 m k1 k2 f1 f2
  · rcases set_get e with ⟨_, e, _⟩ | ⟨ne, e⟩
    · cases e
    · obtain ⟨k1, ⟨k2, k5⟩, k3, k4⟩ := h.sd.bg j m ys c e
      have nm : m ≠ l := fun z => by subst z; exact k4 i xs hi hs
      refine ⟨k1, ⟨by rw [upd_ne nm]; exact k2, k5⟩, k3, fun k zs e2 => ?_⟩
      rcases set_get e2 with ⟨r2, e2, _⟩ | ⟨_, e2⟩
      · subst r2; exact k4 i xs hi
      · exact k4 k zs e2
  · refine h.so.1 j m ?_ f
    rcases e with ⟨ys, e⟩ | ⟨ys, e⟩
    · rcases set_get e with ⟨rfl, _, _⟩ | ⟨_, e⟩
      · exact .inl ⟨xs, hi⟩
      · exact .inl ⟨ys, e⟩
    · rcases set_get e with ⟨_, e, _⟩ | ⟨_, e⟩
      · cases e
      · exact .inr ⟨ys, e⟩
  · rcases set_get e with ⟨_, e, _⟩ | ⟨_, e⟩
    · cases e
    · exact h.so.2 j m ys c e
theorem Here.writeD {l : Addr} {vs vs' : List (Key × V)} {xs xs' : List (Str × D)} (h : Here X T B0 H0 B H σ ds) (hi : ds[i]? = some (.ownD xs)) (hs : σ[i]? = some (some (.ref l))) (hl : H l = some (.dK vs)) (hb : B l = none) (hu : ∀ (j : Nat) ys, ds[j]? = some (.ownD ys) → j = i) (ha : DaKv X.K B vs' xs') :
    Here X T B0 H0 B (upd H l (.dK vs')) σ (ds.set i (.ownD xs')) := by
  have h0 := h.so.1 i l (.inr ⟨xs, hi⟩) hs
  have sub : ∀ a o, B a = some o → upd H l (.dK vs') a = some o := fun a o e => by rw [upd_ne (ne_of_none e hb)]; exact h.go.sub a o e
  refine ⟨⟨sub, h.go.nt, tabs_upd h.go.tab (mut_d hl)⟩, ⟨h.ge.gr.mut h0 (mut_d hl), h.ge.ext, sub, h.ge.new, h.ge.nt⟩, ⟨fun j d' e => ?_, fun j ys e => ?_, fun j ys e => ?_, fun j k ys zs m e1 e2 f1 f2 => ?_, by simpa using h.sd.len, fun j m ys c e => ?_⟩, fun j m e f => ?_, fun j m ys c e => ?_⟩
  · rcases set_get e with ⟨_, e, _⟩ | ⟨ne, e⟩
    · cases e
    · exact h.sd.dat j d' e
  · rcases set_get e with ⟨_, e, _⟩ | ⟨ne, e⟩
    · cases e
    · obtain ⟨m, ws, f1, f2, f3, f4⟩ := h.sd.own j ys e
      have nm : m ≠ l := fun z => by rw [z, hl] at f2; cases f2
      exact ⟨m, ws, f1, by rw [upd_ne nm]; exact f2, f3, f4⟩
  · rcases set_get e with ⟨rfl, e, hi⟩ | ⟨ne, e⟩
    · cases e
      exact ⟨l, vs', hs, upd_same, hb, ha⟩
    · exact absurd (hu j ys e).symm ne
  · rcases set_get e1 with ⟨_, e1, _⟩ | ⟨_, e1⟩
    · cases e1
    · rcases set_get e2 with ⟨_, e2, _⟩ | ⟨_, e2⟩
      · cases e2
      · exact h.sd.inj j k ys zs m e1 e2 f1 f2
  · rcases set_get e with ⟨_, e, _⟩ | ⟨ne, e⟩
    · cases e
    · obtain ⟨k1, ⟨k2, k5⟩, k3, k4⟩ := h.sd.bg j m ys c e
      have nm : m ≠ l := fun z => by subst z; rw [hl] at k2; cases k2
      refine ⟨k1, ⟨by rw [upd_ne nm]; exact k2, k5⟩, k3, fun k zs e2 => ?_⟩
      rcases set_get e2 with ⟨r2, e2, _⟩ | ⟨_, e2⟩
      · cases e2
      · exact k4 k zs e2
  · refine h.so.1 j m ?_ f
    rcases e with ⟨ys, e⟩ | ⟨ys, e⟩
    · rcases set_get e with ⟨_, e, _⟩ | ⟨_, e⟩
      · cases e
      · exact .inl ⟨ys, e⟩
    · rcases set_get e with ⟨rfl, _, _⟩ | ⟨_, e⟩
      · exact .inr ⟨xs, hi⟩
      · exact .inr ⟨ys, e⟩
  · rcases set_get e with ⟨_, e, _⟩ | ⟨_, e⟩
    · cases e
    · exact h.so.2 j m ys c e
theorem Here.setNewD {p : Addr} {vs : List (Key × V)} {xs : List (Str × D)} {B2 H2 : Hp} (h : Here X T B0 H0 B H σ ds) (i : Nat) (hp : H p = none) (g : Ge T B H B2 H2) (hb : B2 p = none) (h2 : H2 p = some (.dK vs)) (ha : DaKv X.K B2 vs xs) : Here X T B0 H0 B2 H2 (σ.set i (some (.ref p))) (ds.set i (.ownD xs)) := by
  have hg := h.grow g
  have s := hg.sd
  have hl := s.len
  refine ⟨hg.go, hg.ge, ⟨fun j d' e => ?_, fun j ys e => ?_, fun j ys e => ?_, fun j k ys zs l e1 e2 f1 f2 => ?_, by simpa using s.len, fun j l ys c e => ?_⟩, hg.so.set _ _ (fun l e z => by cases z; exact h.ge.gr.dom p hp)⟩
  · rcases set_get e with ⟨_, e, _⟩ | ⟨ne, e⟩
    · cases e
    · rw [List.getElem?_set_ne ne]; exact s.dat j d' e
  · rcases set_get e with ⟨_, e, _⟩ | ⟨ne, e⟩
    · cases e
    · rw [List.getElem?_set_ne ne]; exact s.own j ys e
  · rcases set_get e with ⟨rfl, e, hi⟩ | ⟨ne, e⟩
    · cases e
      exact ⟨p, vs, by rw [List.getElem?_set_self (by omega)], h2, hb, ha⟩
    · rw [List.getElem?_set_ne ne]; exact s.ownD j ys e
  · rcases set_get e1 with ⟨_, e1, _⟩ | ⟨ne1, e1⟩
    · cases e1
    · rcases set_get e2 with ⟨_, e2, _⟩ | ⟨ne2, e2⟩
      · cases e2
      · rw [List.getElem?_set_ne ne1] at f1
        rw [List.getElem?_set_ne ne2] at f2
        exact s.inj j k ys zs l e1 e2 f1 f2
  · rcases set_get e with ⟨_, e, _⟩ | ⟨ne, e⟩
    · cases e
    · obtain ⟨k1, k2, k3, k4⟩ := s.bg j l ys c e
      obtain ⟨_, ⟨k5, _⟩, _, _⟩ := h.sd.bg j l ys c e
      refine ⟨by rw [List.getElem?_set_ne ne]; exact k1, k2, k3, fun k zs e2 => ?_⟩
      rcases set_get e2 with ⟨r2, e2, hi2⟩ | ⟨ne2, e2⟩
      · subst r2
        rw [List.getElem?_set_self (by omega)]
        intro z
        cases z
        rw [hp] at k5
        cases k5
      · rw [List.getElem?_set_ne ne2]; exact k4 k zs e2
/-- an own thing is not changed any more -/
theorem Here.freeze {xs : List D} (h : Here X T B0 H0 B H σ ds) (hi : ds[i]? = some (.own xs)) : ∃ B2, ExtN B B2 ∧ Here X T B0 H0 B2 H σ (ds.set i (.dat (.lst xs))) := by
  obtain ⟨l, vs, h1, h2, h3, h4⟩ := h.sd.own i xs hi
  have h0 := h.so.1 i l (.inl ⟨xs, hi⟩) h1
  have eN : ExtN B (upd B l (.lst vs)) := ext_take h3
  have sub : ∀ a o, upd B l (.lst vs) a = some o → H a = some o := fun a o e => by
    by_cases ha : a = l
    · subst ha; rw [upd_same] at e; rw [← e]; exact h2
    · rw [upd_ne ha] at e; exact h.go.sub a o e
  have nt : ∀ a ps, upd B l (.lst vs) a ≠ some (.tbl ps) := fun a ps z => by
    by_cases ha : a = l
    · subst ha; rw [upd_same] at z; cases z
    · rw [upd_ne ha] at z; exact h.go.nt a ps z
  have nl : ∀ (j : Nat) m ys, i ≠ j → ds[j]? = some (.own ys) → σ[j]? = some (some (.ref m)) → m ≠ l := fun j m ys ne e f z => by
    subst z; exact ne (h.sd.inj i j xs ys m hi e h1 f)
  have out : ∀ j s, (ds.set i (.dat (.lst xs)))[j]? = some s → (∀ d, s ≠ .dat d) → i ≠ j ∧ ds[j]? = some s := fun j s e n => by
    rcases set_get e with ⟨_, e, _⟩ | ⟨ne, e⟩
    · exact absurd e (n _)
    · exact ⟨ne, e⟩
  refine ⟨upd B l (.lst vs), eN, ⟨⟨sub, nt, h.go.tab⟩, ⟨h.ge.gr, fun a o e => ?_, sub, fun a m => ?_, nt⟩, ⟨fun j d' e => ?_, fun j ys e => ?_, fun j ys e => ?_, fun j k ys zs m e1 e2 f1 f2 => ?_, by simpa using h.sd.len, fun j m ys c e => ?_⟩, fun j m e f => ?_, fun j m ys c e => ?_⟩⟩
  · have e2 := h.ge.ext a o e
    rw [upd_ne (ne_of_none e2 h3)]; exact e2
  · by_cases ha : a = l
    · subst ha; exact .inr h0
    · rw [upd_ne ha] at m; exact h.ge.new a m
  · rcases set_get e with ⟨rfl, e, _⟩ | ⟨ne, e⟩
    · cases e
      exact ⟨_, h1, .lst upd_same (h4.mono eN)⟩
    · obtain ⟨v, k1, k2⟩ := h.sd.dat j d' e
      exact ⟨v, k1, k2.mono eN⟩
  · obtain ⟨ne, e⟩ := out j _ e nofun
    obtain ⟨m, ws, f1, f2, f3, f4⟩ := h.sd.own j ys e
    exact ⟨m, ws, f1, f2, by rw [upd_ne (nl j m ys ne e f1)]; exact f3, f4.mono eN⟩
  · obtain ⟨ne, e⟩ := out j _ e nofun
    obtain ⟨m, ws, f1, f2, f3, f4⟩ := h.sd.ownD j ys e
    have nm : m ≠ l := fun z => by rw [z, h2] at f2; cases f2
    exact ⟨m, ws, f1, f2, by rw [upd_ne nm]; exact f3, f4.mono eN⟩
  · exact h.sd.inj j k ys zs m (out j _ e1 nofun).2 (out k _ e2 nofun).2 f1 f2
  · obtain ⟨ne, e⟩ := out j _ e nofun
    obtain ⟨k1, ⟨k2, k5⟩, k3, k4⟩ := h.sd.bg j m ys c e
    have nm : m ≠ l := fun z => by subst z; exact k4 i xs hi h1
    exact ⟨k1, ⟨k2, cells_ext eN k5⟩, by rw [upd_ne nm]; exact k3, fun k zs e2 => k4 k zs (out k _ e2 nofun).2⟩
  · refine h.so.1 j m ?_ f
    rcases e with ⟨ys, e⟩ | ⟨ys, e⟩
    · exact .inl ⟨ys, (out j _ e nofun).2⟩
    · exact .inr ⟨ys, (out j _ e nofun).2⟩
  · exact h.so.2 j m ys c (out j _ e nofun).2
end
end E
/-! the rules of statements -/
namespace E
open LamX L2 PyProof.Rows PySem PySem.Spec
section
variable {X : Cx} {T : List (Addr × Str)} {B0 H0 B H B1 H1 : Hp} {σ : L2.St} {ds : List Sl} {rest body body2 : List Stmt} {st : Stmt} {O : Out} {e c a b tg iter : Expr} {i : Nat} {x : Str} {pos pos' p : Pos} {P : D → Prop} {De : Ends} {d : D}
theorem rg_imp {O' : Out} (h : RG X T body ds O) (h1 : ∀ d, O.rt d → O'.rt d) (h2 : ∀ s, O.nx s → O'.nx s) (h3 : ∀ s, O.bk s → O'.bk s) (h4 : ∀ s, O.ct s → O'.ct s) (h5 : ∀ B H, O.ex B H → O'.ex B H := by exact fun _ _ z => z) : RG X T body ds O' := fun B0 H0 B H σ De hh dn =>
  h B0 H0 B H σ De hh ⟨fun v d B2 H2 g r a x => dn.rt v d B2 H2 g (h1 d r) a (h5 _ _ x), fun B2 H2 s2 d2 n => dn.nx B2 H2 s2 d2 (h2 _ n), fun B2 H2 s2 d2 n => dn.bk B2 H2 s2 d2 (h3 _ n), fun B2 H2 s2 d2 n => dn.ct B2 H2 s2 d2 (h4 _ n)⟩
theorem rg_nil (h : O.nx ds) : RG X T [] ds O := fun B0 H0 B H σ De hh dn => ofSs pss_nil (dn.nx B H σ ds h hh)
theorem rg_break (h : O.bk ds) : RG X T (.Break pos :: rest) ds O := fun B0 H0 B H σ De hh dn => ss_cons (ofS ps_break (dn.bk B H σ ds h hh))
theorem rg_continue (h : O.ct ds) : RG X T (.Continue pos :: rest) ds O := fun B0 H0 B H σ De hh dn => ss_cons (ofS ps_continue (dn.ct B H σ ds h hh))
theorem rg_freeze (i : Nat) {xs : List D} (hi : ds[i]? = some (.own xs)) (k : RG X T rest (ds.set i (.dat (.lst xs))) O) : RG X T rest ds O := fun B0 H0 B H σ De hh dn => by
  obtain ⟨B2, _, h2⟩ := hh.freeze hi
  exact k B0 H0 B2 H σ De h2 dn
theorem rg_asgO (i : Nat) (h : PO' X T e ds P) (hN : X.N.Nodup) (k : ∀ d, P d → RG X T rest (ds.set i (.dat d)) O) (hi : X.N[i]? = some x := by rfl) (hx : Loc X.env.scope x := by first | exact .inl rfl | exact .inr rfl)
    (hs : swapsWith e (some (.Name x pos')) pos.line X.env = pure false := by rfl) (hf : X.fn x = true ∨ X.env.scope.names.lookup x = some .local := by first | exact .inl rfl | exact .inr rfl) : RG X T (.Assign [.Name x pos'] e pos :: rest) ds O := fun B0 H0 B H σ De hh dn =>
  ss_cons (ofS (ps_set hN hi hx peW hs hf) (h B0 H0 B H σ hh _ fun v d B2 H2 g pd a => k d pd B0 H0 B2 H2 _ De ((hh.grow g).set i a) dn))
theorem rg_asgN (i : Nat) (h : PN X T e ds P) (hN : X.N.Nodup) (k : ∀ d, P d → RG X T rest (ds.set i (.dat d)) O) (hi : X.N[i]? = some x := by rfl) (hx : Loc X.env.scope x := by first | exact .inl rfl | exact .inr rfl)
    (hs : swapsWith e (some (.Name x pos')) pos.line X.env = pure false := by rfl) (hf : X.fn x = true ∨ X.env.scope.names.lookup x = some .local := by first | exact .inl rfl | exact .inr rfl) : RG X T (.Assign [.Name x pos'] e pos :: rest) ds O := rg_asgO i h.po hN k hi hx hs hf
theorem rg_asg (i : Nat) (h : PD X T e ds d) (hN : X.N.Nodup) (k : RG X T rest (ds.set i (.dat d)) O) (hi : X.N[i]? = some x := by rfl) (hx : Loc X.env.scope x := by first | exact .inl rfl | exact .inr rfl)
    (hs : swapsWith e (some (.Name x pos')) pos.line X.env = pure false := by rfl) (hf : X.fn x = true ∨ X.env.scope.names.lookup x = some .local := by first | exact .inl rfl | exact .inr rfl) : RG X T (.Assign [.Name x pos'] e pos :: rest) ds O := rg_asgN i (h.pn (P := fun z => z = d) rfl) hN (fun d' e => by subst e; exact k) hi hx hs hf
/-- a new list of one's own -/
theorem rg_asgL (i : Nat) {P : List D → Prop} (h : PLn X T e ds P) (hN : X.N.Nodup) (k : ∀ d, P d → RG X T rest (ds.set i (.own d)) O) (hi : X.N[i]? = some x := by rfl) (hx : Loc X.env.scope x := by first | exact .inl rfl | exact .inr rfl)
    (hs : swapsWith e (some (.Name x pos')) pos.line X.env = pure false := by rfl) (hf : X.fn x = true ∨ X.env.scope.names.lookup x = some .local := by first | exact .inl rfl | exact .inr rfl) : RG X T (.Assign [.Name x pos'] e pos :: rest) ds O := fun B0 H0 B H σ De hh dn =>
  ss_cons (ofS (ps_set hN hi hx peW hs hf) (h B H σ hh.go hh.sd _ fun p vs d B2 H2 hp g hb pd h2 a => k d pd B0 H0 B2 H2 _ De (hh.setNew i hp g hb h2 a) dn))
/-- a comprehension given to a local name on its line: one's own -/
theorem rg_setLc (i : Nat) {P : List D → Prop} (h : PLc X T e ds P) (k : ∀ d, P d → RG X T rest (ds.set i (.own d)) O) (hl : X.env.scope.names.lookup x = some .local) (hsw : swapsWith e (some (.Name x pos')) pos.line X.env = pure true) (hi : X.N[i]? = some x := by rfl) : RG X T (.Assign [.Name x pos'] e pos :: rest) ds O := fun B0 H0 B H σ De hh dn => by
  obtain ⟨t, _, h1, h2⟩ := h
  exact ss_cons (ofS (h1 hi hl hsw) (h2 B H σ hh.go hh.sd _ fun p vs d B2 H2 hp g hb pd hh2 a => k d pd B0 H0 B2 H2 _ De (hh.setNew i hp g hb hh2 a) dn))
/-- a, b = e -/
theorem rg_patN {pat : Pat} (h : PN X T e ds P) (hp : PatOk X tg pat) (k : ∀ d, P d → ∃ ds', pat.bind d ds = some ds' ∧ RG X T rest ds' O)
    (hs : swapsWithSole [tg] e pos.line X.env = pure false := by rfl) (hw : swappedStores [tg] e X.env = pure none := by rfl) (h1 : (assignEach [tg] X.env).map (·.2) = [assign tg X.env] := by rfl) : RG X T (.Assign [tg] e pos :: rest) ds O := fun B0 H0 B H σ De hh dn =>
  ss_cons (ofS (ps_asg (g := pat.tg X.K) peW hp hs hw h1) (h B H σ hh.go hh.sd _ fun v d B2 H2 g pd a => by
    have h2 := hh.grow g
    obtain ⟨ds', hb, k⟩ := k d pd
    exact bind_ok h2.go pat h2.sd a hb fun σ' s' f so => k B0 H0 B2 H2 σ' De ⟨h2.go, h2.ge, s', so H0 h2.so⟩ dn))
theorem rg_pat {ds' : List Sl} {pat : Pat} (h : PD X T e ds d) (hp : PatOk X tg pat) (hb : pat.bind d ds = some ds') (k : RG X T rest ds' O)
    (hs : swapsWithSole [tg] e pos.line X.env = pure false := by rfl) (hw : swappedStores [tg] e X.env = pure none := by rfl) (h1 : (assignEach [tg] X.env).map (·.2) = [assign tg X.env] := by rfl) : RG X T (.Assign [tg] e pos :: rest) ds O :=
  rg_patN (h.pn (P := fun z => z = d) rfl) hp (fun d' e => by subst e; exact ⟨ds', hb, k⟩) hs hw h1
theorem rg_retX (h : PN X T e (opn ds) P) (k : ∀ d, P d → O.rt d) (hx : ∀ B2 H2 σ, Sd X.K B2 H2 σ (opn ds) → O.ex B2 H2) : RG X T (.Return (some e) pos :: rest) ds O := fun B0 H0 B H σ De hh dn =>
  ss_cons (ofS (ps_ret peW) (h _ H σ hh.opn.go hh.opn.sd _ fun v d B2 H2 g pd a => dn.rt v d B2 H2 (hh.opn.ge.trans g) (k d pd) a (hx B2 H2 σ (hh.opn.sd.grow g))))
theorem rg_ret (h : PN X T e (opn ds) P) (k : ∀ d, P d → O.rt d) (hx : ∀ B2 H2, O.ex B2 H2 := by exact fun _ _ => True.intro) : RG X T (.Return (some e) pos :: rest) ds O := rg_retX h k fun B2 H2 _ _ => hx B2 H2
theorem rg_retD (h : PD X T e (opn ds) d) (k : O.rt d) (hx : ∀ B2 H2, O.ex B2 H2 := by exact fun _ _ => True.intro) : RG X T (.Return (some e) pos :: rest) ds O := rg_ret (h.pn (P := fun z => z = d) rfl) (fun _ e => by subst e; exact k) hx
theorem rg_if {k : Bool} (h : TD X T c (opn ds) k) (h1 : k = true → RG X T body ds { O with nx := fun d2 => RG X T rest d2 O }) (h2 : k = false → RG X T body2 ds { O with nx := fun d2 => RG X T rest d2 O }) : RG X T (.If c body body2 pos :: rest) ds O := fun B0 H0 B H σ De hh dn => by
  refine ss_cons (ofS (ps_if ptW pssW pssW) (opn_po h hh fun H2 g => ?_))
  have hh2 := hh.grow g
  have dn2 : Dn X T B0 H0 { O with nx := fun d2 => RG X T rest d2 O } { De with nx := fun σ' H' => wpSs X rest De σ' H' } := ⟨dn.rt, fun B2 H2 s2 d2 n hr => n B0 H0 B2 H2 s2 De hr dn, dn.bk, dn.ct⟩
  cases k with
  | true => exact iteT (h1 rfl B0 H0 B H2 σ _ hh2 dn2)
  | false => exact iteF (h2 rfl B0 H0 B H2 σ _ hh2 dn2)
/-- an if without else -/
theorem rg_when {k : Bool} (h : TD X T c (opn ds) k) (h1 : k = true → RG X T body ds { O with nx := fun d2 => RG X T rest d2 O }) (h2 : k = false → RG X T rest ds O) : RG X T (.If c body [] pos :: rest) ds O := rg_if h h1 fun e => rg_nil (h2 e)
/-- x.append(e) -/
theorem rg_append (i : Nat) {xs : List D} {apos cpos : Pos} (hds : ds[i]? = some (.own xs)) (h : PO' X T e ds P) (hz : xs.length < sizeLine) (k : ∀ d, P d → RG X T rest (ds.set i (.own (xs ++ [d]))) O) (hi : X.N[i]? = some x := by rfl)
    (hv : Vis X.env.scope x := by first | exact Or.inl rfl | exact Or.inr (Or.inl rfl) | exact Or.inr (Or.inr rfl)) (hd1 : (x == ("__debug__" : Str)) = false := by decide) (hd2 : (x == ("__classdict__" : Str)) = false := by decide)
    (hbase : attributeBase (.Name x p) "append" X.env (eval (.Name x p) X.env) = eval (.Name x p) X.env := by rfl) (hfew : ((backTo cpos (starEach [e] X.env)).all (fun x => !x.1) && (backToKw cpos (keywordEach [] X.env)).all (fun x => x.1.isSome)
      && decide ([e].length + ([] : List Keyword).length + (if ([] : List Keyword).isEmpty then 0 else 1) < 30)) = true := by rfl) (hline : (apos.endLine == cpos.line) = true := by rfl) (hs : starEach [e] X.env = (false, eval e X.env) :: starEach [] X.env := by exact se_of rfl)
    (hplain : (backTo cpos (starEach [] X.env)).any (·.1) = false := by rfl) (hsw : swapsWith (.Call (.Attribute (.Name x p) "append" apos) [e] [] cpos) none pos.line X.env = pure false := by rfl) :
    RG X T (.Expr (.Call (.Attribute (.Name x p) "append" apos) [e] [] cpos) pos :: rest) ds O := fun B0 H0 B H σ De hh dn => by
  obtain ⟨l, vs, h1, h2, h3, h4⟩ := hh.sd.own i xs hds
  refine ss_cons (ofS (ps_expr (pe_bm PySem.F.plainAttrs_list PySem.F.slot_list_append PySem.F.type_list_append mt_append (pv i hi hv hd1 hd2) (pa_cons peW pa_nil hs) hbase hfew hline hs hplain) hsw) ?_)
  refine ⟨_, h1, .inl ⟨rfl, _, .of h2⟩, h B0 H0 B H σ hh _ fun v d B2 H2 g pd a => ?_⟩
  have hl := g.gr.isl h2
  have hb := own_free g (by rw [h2]; nofun) h3 (by rw [hl]; trivial)
  exact ⟨l, vs, v, rfl, rfl, hl, by rw [h4.length]; exact hz, k d pd B0 H0 B2 _ σ De ((hh.grow g).write hds h1 hl hb ((h4.mono g.extN).append (.cons a .nil))) dn⟩
/-- x.extend(e), e a list -/
theorem rg_extend (i : Nat) {xs ys : List D} {apos cpos : Pos} (hds : ds[i]? = some (.own xs)) (h : PD X T e ds (.lst ys)) (hz : xs.length + ys.length ≤ sizeLine) (k : RG X T rest (ds.set i (.own (xs ++ ys))) O) (hi : X.N[i]? = some x := by rfl)
    (hv : Vis X.env.scope x := by first | exact Or.inl rfl | exact Or.inr (Or.inl rfl) | exact Or.inr (Or.inr rfl)) (hd1 : (x == ("__debug__" : Str)) = false := by decide) (hd2 : (x == ("__classdict__" : Str)) = false := by decide)
    (hbase : attributeBase (.Name x p) "extend" X.env (eval (.Name x p) X.env) = eval (.Name x p) X.env := by rfl) (hfew : ((backTo cpos (starEach [e] X.env)).all (fun x => !x.1) && (backToKw cpos (keywordEach [] X.env)).all (fun x => x.1.isSome)
      && decide ([e].length + ([] : List Keyword).length + (if ([] : List Keyword).isEmpty then 0 else 1) < 30)) = true := by rfl) (hline : (apos.endLine == cpos.line) = true := by rfl) (hs : starEach [e] X.env = (false, eval e X.env) :: starEach [] X.env := by exact se_of rfl)
    (hplain : (backTo cpos (starEach [] X.env)).any (·.1) = false := by rfl) (hsw : swapsWith (.Call (.Attribute (.Name x p) "extend" apos) [e] [] cpos) none pos.line X.env = pure false := by rfl) :
    RG X T (.Expr (.Call (.Attribute (.Name x p) "extend" apos) [e] [] cpos) pos :: rest) ds O := fun B0 H0 B H σ De hh dn => by
  obtain ⟨l, vs, h1, h2, h3, h4⟩ := hh.sd.own i xs hds
  refine ss_cons (ofS (ps_expr (pe_bm PySem.F.plainAttrs_list PySem.F.slot_list_extend PySem.F.type_list_extend mt_extend (pv i hi hv hd1 hd2) (pa_cons peW pa_nil hs) hbase hfew hline hs hplain) hsw) ?_)
  refine ⟨_, h1, .inl ⟨rfl, _, .of h2⟩, h B H σ hh.go hh.sd _ fun v B2 H2 g a => ?_⟩
  have hl := g.gr.isl h2
  have hb := own_free g (by rw [h2]; nofun) h3 (by rw [hl]; trivial)
  cases a with
  | @lst b ws _ k1 k2 =>
    exact ⟨l, b, vs, ws, rfl, rfl, hl, (g.go hh.go).sub _ _ k1, by rw [h4.length, k2.length]; exact hz, k B0 H0 B2 _ σ De ((hh.grow g).write hds h1 hl hb ((h4.mono g.extN).append k2)) dn⟩
/-- x.insert(n, e) -/
theorem rg_insert (i : Nat) {xs : List D} {apos cpos : Pos} {n : Expr} {R : Nat → Prop} (hds : ds[i]? = some (.own xs)) (hn : PO' X T n ds (fun d => ∃ j : Nat, d = .int (j : Int) ∧ R j ∧ j < 2 ^ 62)) (h : PD X T e ds d) (hz : xs.length < sizeLine) (k : ∀ j, R j → RG X T rest (ds.set i (.own (xs.take j ++ [d] ++ xs.drop j))) O) (hi : X.N[i]? = some x := by rfl)
    (hv : Vis X.env.scope x := by first | exact Or.inl rfl | exact Or.inr (Or.inl rfl) | exact Or.inr (Or.inr rfl)) (hd1 : (x == ("__debug__" : Str)) = false := by decide) (hd2 : (x == ("__classdict__" : Str)) = false := by decide)
    (hbase : attributeBase (.Name x p) "insert" X.env (eval (.Name x p) X.env) = eval (.Name x p) X.env := by rfl) (hfew : ((backTo cpos (starEach [n, e] X.env)).all (fun x => !x.1) && (backToKw cpos (keywordEach [] X.env)).all (fun x => x.1.isSome)
      && decide ([n, e].length + ([] : List Keyword).length + (if ([] : List Keyword).isEmpty then 0 else 1) < 30)) = true := by rfl) (hline : (apos.endLine == cpos.line) = true := by rfl) (hs : starEach [n, e] X.env = (false, eval n X.env) :: starEach [e] X.env := by exact se_of rfl) (hs2 : starEach [e] X.env = (false, eval e X.env) :: starEach [] X.env := by exact se_of rfl)
    (hplain : (backTo cpos (starEach [e] X.env)).any (·.1) = false := by rfl) (hsw : swapsWith (.Call (.Attribute (.Name x p) "insert" apos) [n, e] [] cpos) none pos.line X.env = pure false := by rfl) :
    RG X T (.Expr (.Call (.Attribute (.Name x p) "insert" apos) [n, e] [] cpos) pos :: rest) ds O := fun B0 H0 B H σ De hh dn => by
  obtain ⟨l, vs, h1, h2, h3, h4⟩ := hh.sd.own i xs hds
  refine ss_cons (ofS (ps_expr (pe_bm PySem.F.plainAttrs_list PySem.F.slot_list_insert PySem.F.type_list_insert mt_insert (pv i hi hv hd1 hd2) (pa_cons peW (pa_cons peW pa_nil hs2) hs) hbase hfew hline hs hplain) hsw) ?_)
  refine ⟨_, h1, .inl ⟨rfl, _, .of h2⟩, hn B0 H0 B H σ hh _ fun v d' B2 H2 g ⟨j, hj, rj, lj⟩ a => ?_⟩
  subst hj
  cases a
  have hh2 := hh.grow g
  refine h B2 H2 σ hh2.go hh2.sd _ fun v B3 H3 g3 a3 => ?_
  have gg := g.trans g3
  have hl := gg.gr.isl h2
  have hb := own_free gg (by rw [h2]; nofun) h3 (by rw [hl]; trivial)
  have h4' := h4.mono gg.extN
  refine ⟨l, vs, j, v, rfl, rfl, hl, by rw [h4.length]; exact hz, Int.natCast_nonneg j, by omega, ?_⟩
  exact k j rj B0 H0 B3 _ σ De ((hh.grow gg).write hds h1 hl hb (((h4'.take j).append (.cons a3 .nil)).append (h4'.drop j))) dn
/-- from another base -/
theorem Here.rebase (h : Here X T B0 H0 B H σ ds) : Here X T B H0 B H σ ds := ⟨h.go, ⟨h.ge.gr, fun _ _ e => e, h.go.sub, fun a m => .inl fun n => by rw [n] at m; exact m, h.go.nt⟩, h.sd, h.so⟩
theorem Ge.unbase (g0 : Ge T B0 H0 B1 H1) (g : Ge T B1 H0 B H) : Ge T B0 H0 B H := ⟨g.gr, fun a o e => g.ext a o (g0.ext a o e), g.sub, fun a m => by
  rcases g.new a m with n | n
  · cases q : B1 a with
    | none => exact absurd q n
    | some u =>
      have e := g.ext a u q
      rw [e] at m
      exact g0.new a (by rw [q]; exact m)
  · exact .inr n, g.nt⟩
theorem Here.unbase (g0 : Ge T B0 H0 B1 H1) (h : Here X T B1 H0 B H σ ds) : Here X T B0 H0 B H σ ds := ⟨h.go, g0.unbase h.ge, h.sd, h.so⟩
/-- for tg in iter: I by the items, the turn and the slots -/
theorem rg_for {P0 : List D → Prop} {pat : Pat} (I : List D → Nat → List Sl → Prop) (hsrc : SrcN X T tg iter ds P0) (hp : PatOk X tg pat) (h0 : ∀ items, P0 items → I items 0 ds)
    (hstep : ∀ items (i : Nat) d ds', P0 items → items[i]? = some d → I items i ds' → ∃ ds2, pat.bind d ds' = some ds2 ∧ RG X T body ds2 { rt := O.rt, ex := O.ex, nx := I items (i + 1), ct := I items (i + 1), bk := fun d2 => RG X T rest d2 O })
    (hend : ∀ items ds', P0 items → I items items.length ds' → RG X T rest ds' O) (hpo : PassesOwn (model X.prog X.w) X.A X.env X.xe) (hc : X.calm = true := by rfl) (hs : ∀ x, foldedSetIterable iter X.env x = pure x := by intro _; rfl) :
    RG X T (.For tg iter body [] pos :: rest) ds O := fun B0 H0 B H σ De hh dn => by
  refine ss_cons (ofS (ps_for hpo hc piW hp pssW hs) (hsrc B H σ hh.go hh.sd _ fun J items B1 H1 g1 p0 w => ?_))
  have hh1 := hh.grow g1
  refine ⟨fun i m σ' H' => m = items.length - i ∧ i ≤ items.length ∧ ∃ B' ds', ExtN B1 B' ∧ Here X T B0 H0 B' H' σ' ds' ∧ I items i ds', ⟨items.length, by simp, Nat.zero_le _, B1, ds, .of fun _ _ e => e, hh1, h0 items p0⟩, ?_⟩
  rintro i m σ' H' ⟨rfl, hi, B', ds', ex, hh', hI⟩
  by_cases hlt : i < items.length
  · refine .inr ⟨w.goes i B' H' hlt ex hh'.go, fun σ2 H2 => i + 1 ≤ items.length ∧ ∃ B' ds', ExtN B1 B' ∧ Here X T B0 H0 B' H2 σ2 ds' ∧ I items (i + 1) ds', fun σ2 H2 h2 => ⟨items.length - (i + 1), by omega, rfl, h2⟩, fun x H2 y => ?_⟩
    obtain ⟨B2, g2, hx⟩ := w.yields i B' H' x H2 _ (List.getElem?_eq_getElem hlt) ex hh'.go y
    obtain ⟨ds2, hb, hbody⟩ := hstep items i _ ds' p0 (List.getElem?_eq_getElem hlt) hI
    have hh2 := hh'.grow g2
    have ex2 : ExtN B1 B2 := ex.trans g2.extN
    refine bind_ok hh2.go pat hh2.sd hx hb fun σ3 s3 f so => ?_
    have hh3 : Here X T B0 H0 B2 H2 σ3 ds2 := ⟨hh2.go, hh2.ge, s3, so H0 hh2.so⟩
    refine hbody B2 H0 B2 H2 σ3 _ hh3.rebase ⟨fun v d B3 H3 g3 r a x => dn.rt v d B3 H3 (hh3.ge.unbase g3) r a x, fun B3 H3 s4 d4 n h4 => ?_, fun B3 H3 s4 d4 n h4 => ?_, fun B3 H3 s4 d4 n h4 => ?_⟩
    · exact ⟨hlt, B3, d4, ex2.trans (Ge.extN h4.ge), h4.unbase hh3.ge, n⟩
    · exact n B0 H0 B3 H3 s4 De (h4.unbase hh3.ge) dn
    · exact ⟨hlt, B3, d4, ex2.trans (Ge.extN h4.ge), h4.unbase hh3.ge, n⟩
  · have e : i = items.length := by omega
    subst e
    exact .inl ⟨w.stops B' H' ex hh'.go, hend items ds' p0 hI B0 H0 B' H' σ' De hh' dn⟩
/-- while c: W by a measure and the slots -/
theorem rg_while (W : Nat → List Sl → Prop) (m0 : Nat) (h0 : W m0 ds)
    (hstep : ∀ m ds', W m ds' → ∃ b, TD X T c (opn ds') b ∧ (b = true → RG X T body ds' { rt := O.rt, ex := O.ex, nx := fun d2 => ∃ m', m' < m ∧ W m' d2, ct := fun d2 => ∃ m', m' < m ∧ W m' d2, bk := fun d2 => RG X T rest d2 O }) ∧ (b = false → RG X T rest ds' O))
    (hpo : PassesOwn (model X.prog X.w) X.A X.env X.xe) : RG X T (.While c body [] pos :: rest) ds O := fun B0 H0 B H σ De hh dn => by
  refine ss_cons (ofS (ps_while hpo ptW pssW) ⟨fun m σ' H' => ∃ B' ds', Here X T B0 H0 B' H' σ' ds' ∧ W m ds', ⟨m0, B, ds, hh, h0⟩, ?_⟩)
  rintro m σ' H' ⟨B', ds', hh', hW⟩
  obtain ⟨b, hb, h1, h2⟩ := hstep m ds' hW
  refine opn_po hb hh' fun H2 g => ?_
  have hh2 := hh'.grow g
  cases b with
  | false => exact iteF (h2 rfl B0 H0 B' H2 σ' De hh2 dn)
  | true =>
    refine iteT ⟨fun σ3 H3 => ∃ m', m' < m ∧ ∃ B3 d3, Here X T B0 H0 B3 H3 σ3 d3 ∧ W m' d3, fun σ3 H3 ⟨m', l, r⟩ => ⟨m', l, r⟩, ?_⟩
    refine h1 rfl B0 H0 B' H2 σ' _ hh2 ⟨dn.rt, fun B3 H3 s4 d4 ⟨m', l, n⟩ h4 => ⟨m', l, B3, d4, h4, n⟩, fun B3 H3 s4 d4 n h4 => n B0 H0 B3 H3 s4 De h4 dn, fun B3 H3 s4 d4 ⟨m', l, n⟩ h4 => ⟨m', l, B3, d4, h4, n⟩⟩
end
end E
/-! calls, defs -/
namespace E
open LamX L2 PyProof.Rows PySem PySem.Spec

/-- a def of the top and what it promises -/
def DfOk (P : Program) (w : World) (K : PySem.W.Frag) (mg : Str → Option Value) (base : Heap) (k : Nat) (name : Str) (ps : List Str) (sp : Sp) : Prop :=
  ∃ (f : Addr) (fd : FuncData), FnOk P w K mg base CX0 k f fd ps sp ∧ mg name = some (.ref f) ∧ PySem.W.keepIn K (.ref f) = true ∧ Binds K fd ps []
/-- the promise of a def from data to data: args of x, Pre of x, R x of what is handed back -/
def SpF (T : List (Addr × Str)) (K : PySem.W.Frag) {A : Type} (args : A → List D) (Pre : A → Prop) (R : A → D → Prop) : Sp := fun vs H Q _ =>
  ∃ (B : Hp) (x : A), Go T B H ∧ DaAll K B vs (args x) ∧ Pre x ∧ ∀ v d B2 H2, Ge T B H B2 H2 → R x d → Da K B2 v d → Q v H2
theorem DfOk.mono {P : Program} {w : World} {K : PySem.W.Frag} {mg : Str → Option Value} {base : Heap} {j k : Nat} {name : Str} {ps : List Str} {sp : Sp} (h : DfOk P w K mg base j name ps sp) (l : j ≤ k) : DfOk P w K mg base k name ps sp := by
  obtain ⟨f, fd, F, a⟩ := h
  exact ⟨f, fd, F.mono l, a⟩
theorem DfOk.imp {P : Program} {w : World} {K : PySem.W.Frag} {mg : Str → Option Value} {base : Heap} {k : Nat} {name : Str} {ps : List Str} {sp sp' : Sp} (h : DfOk P w K mg base k name ps sp) (l : ∀ vs H Q E, sp' vs H Q E → sp vs H Q E) : DfOk P w K mg base k name ps sp' := by
  obtain ⟨f, fd, F, a⟩ := h
  exact ⟨f, fd, F.imp l, a⟩
section
variable {X : Cx} {T : List (Addr × Str)} {A : Type} {args : A → List D} {Pre : A → Prop} {R : A → D → Prop} {k : Nat} {name : Str} {ps : List Str} {e : Expr} {es : List Expr} {ds : List Sl} {p pos : Pos} {x : A} {d : D}
theorem pn_call (F : DfOk X.prog X.w X.K X.mg X.base k name ps (SpF T X.K args Pre R)) (hr : Room k X.A) (x : A) (ha : PDs X T (e :: es) ds (args x)) (hp : Pre x) (hg : Gl X name := by rfl) (hdb : (name == ("__debug__" : Str)) = false := by decide)
    (he : starEach (e :: es) X.env = (false, eval e X.env) :: starEach es X.env := by exact se_of rfl) (hpl : (backTo pos (starEach es X.env)).any (·.1) = false := by rfl) : PN X T (.Call (.Name name p) (e :: es) [] pos) ds (R x) := fun B H σ o s Q q => by
  obtain ⟨f, fd, F, hm, hk, hb⟩ := F
  exact ofE (pe_call F hr hg hm hk hb .nil pass0 paW hdb he hpl) (ha B H σ o s _ fun vs B1 H1 g1 a => ⟨B1, x, g1.go o, by rw [List.append_nil]; exact a, hp, fun v d B2 H2 g2 r hv => q v d B2 H2 (g1.trans g2) r hv⟩)
theorem pd_call (F : DfOk X.prog X.w X.K X.mg X.base k name ps (SpF T X.K args Pre R)) (hr : Room k X.A) (x : A) (ha : PDs X T (e :: es) ds (args x)) (hp : Pre x) (hR : ∀ d', R x d' → d' = d) (hg : Gl X name := by rfl) (hdb : (name == ("__debug__" : Str)) = false := by decide)
    (he : starEach (e :: es) X.env = (false, eval e X.env) :: starEach es X.env := by exact se_of rfl) (hpl : (backTo pos (starEach es X.env)).any (·.1) = false := by rfl) : PD X T (.Call (.Name name p) (e :: es) [] pos) ds d :=
  PN.pd ((pn_call F hr x ha hp hg hdb he hpl).imp hR)
/-- arguments of which it is only known what they are among -/
theorem pn_callN {P0 : List D → Prop} {S : D → Prop} (F : DfOk X.prog X.w X.K X.mg X.base k name ps (SpF T X.K args Pre R)) (hr : Room k X.A) (ha : PNs X T (e :: es) ds P0) (hp : ∀ l, P0 l → ∃ x, l = args x ∧ Pre x ∧ ∀ d, R x d → S d) (hg : Gl X name := by rfl) (hdb : (name == ("__debug__" : Str)) = false := by decide)
    (he : starEach (e :: es) X.env = (false, eval e X.env) :: starEach es X.env := by exact se_of rfl) (hpl : (backTo pos (starEach es X.env)).any (·.1) = false := by rfl) : PN X T (.Call (.Name name p) (e :: es) [] pos) ds S := fun B H σ o s Q q => by
  obtain ⟨f, fd, F, hm, hk, hb⟩ := F
  refine ofE (pe_call F hr hg hm hk hb .nil pass0 paW hdb he hpl) (ha B H σ o s _ fun vs l B1 H1 g1 pl a => ?_)
  obtain ⟨x, rfl, px, hS⟩ := hp l pl
  exact ⟨B1, x, g1.go o, by rw [List.append_nil]; exact a, px, fun v d B2 H2 g2 r hv => q v d B2 H2 (g1.trans g2) (hS d r) hv⟩

/-! ### built-ins -/
theorem pd_callB {id : String} {r : List V → Hp → VK → Prop} {dl : List D} (hc : CallR X (.builtin id) r) (hm : X.mg name = none) (hv : bootBuiltins name = some (.builtin id)) (ha : PDs X T (e :: es) ds dl)
    (h : ∀ vs B H (Q : VK), Go T B H → DaAll X.K B vs dl → (∀ v B2 H2, Ge T B H B2 H2 → Da X.K B2 v d → Q v H2) → r vs H Q) (hg : Gl X name := by rfl) (hn : name ≠ "__name__" := by decide) (hdb : (name == ("__debug__" : Str)) = false := by decide)
    (he : starEach (e :: es) X.env = (false, eval e X.env) :: starEach es X.env := by exact se_of rfl) (hpl : (backTo pos (starEach es X.env)).any (·.1) = false := by rfl) : PD X T (.Call (.Name name p) (e :: es) [] pos) ds d := fun B H σ o s Q q =>
  ofE (pe_callB hc hg hm hv paW hn hdb he hpl) (ha B H σ o s _ fun vs B1 H1 g1 a => h vs B1 H1 _ (g1.go o) a fun v B2 H2 g2 hv => q v B2 H2 (g1.trans g2) hv)
theorem pd_callTy {id : String} {r : List V → Hp → VK → Prop} {dl : List D} (hc : CallR X (.type id) r) (hm : X.mg name = none) (hv : bootBuiltins name = some (.type id)) (ha : PDs X T (e :: es) ds dl)
    (h : ∀ vs B H (Q : VK), Go T B H → DaAll X.K B vs dl → (∀ v B2 H2, Ge T B H B2 H2 → Da X.K B2 v d → Q v H2) → r vs H Q) (hg : Gl X name := by rfl) (hn : name ≠ "__name__" := by decide) (hdb : (name == ("__debug__" : Str)) = false := by decide)
    (he : starEach (e :: es) X.env = (false, eval e X.env) :: starEach es X.env := by exact se_of rfl) (hpl : (backTo pos (starEach es X.env)).any (·.1) = false := by rfl) : PD X T (.Call (.Name name p) (e :: es) [] pos) ds d := fun B H σ o s Q q =>
  ofE (pe_callTy hc hg hm hv paW hn hdb he hpl) (ha B H σ o s _ fun vs B1 H1 g1 a => h vs B1 H1 _ (g1.go o) a fun v B2 H2 g2 hv => q v B2 H2 (g1.trans g2) hv)
variable {xs : List D} {a : Expr}
theorem da1 {K : PySem.W.Frag} {B : Hp} {vs : List V} (h : DaAll K B vs [d]) : ∃ v, vs = [v] ∧ Da K B v d := by
  cases h with
  | cons h t => cases t; exact ⟨_, rfl, h⟩
theorem pd_lenT (hm : X.mg "len" = none) (ha : PD X T a ds (.tup xs)) (hg : Gl X "len" := by rfl) (he : starEach [a] X.env = (false, eval a X.env) :: starEach [] X.env := by exact se_of rfl) (hpl : (backTo pos (starEach [] X.env)).any (·.1) = false := by rfl) : PD X T (.Call (.Name "len" p) [a] [] pos) ds (.int xs.length) :=
  pd_callB call_len_seq hm PySem.boot_len (pds_cons ha pds_nil he) (fun vs B H Q o h q => by
    obtain ⟨v, rfl, h'⟩ := da1 h; clear h; revert h'; intro h
    cases h with
    | @tup b ws _ h1 h2 => exact ⟨b, ws, rfl, .inr (sqT_ext o.extN h1), q _ B H o.refl (by rw [h2.length]; exact .int _)⟩) hg (by decide) (by decide) he hpl
theorem pd_lenL (hm : X.mg "len" = none) (ha : PD X T a ds (.lst xs)) (hg : Gl X "len" := by rfl) (he : starEach [a] X.env = (false, eval a X.env) :: starEach [] X.env := by exact se_of rfl) (hpl : (backTo pos (starEach [] X.env)).any (·.1) = false := by rfl) : PD X T (.Call (.Name "len" p) [a] [] pos) ds (.int xs.length) :=
  pd_callB call_len_seq hm PySem.boot_len (pds_cons ha pds_nil he) (fun vs B H Q o h q => by
    obtain ⟨v, rfl, h'⟩ := da1 h; clear h; revert h'; intro h
    cases h with
    | @lst b ws _ h1 h2 => exact ⟨b, ws, rfl, .inl (.of (o.sub _ _ h1)), q _ B H o.refl (by rw [h2.length]; exact .int _)⟩) hg (by decide) (by decide) he hpl
/-- tuple(list) -/
theorem pn_tupleL {P : List D → Prop} (hm : X.mg "tuple" = none) (ha : PN X T a ds (fun d => ∃ l, d = .lst l ∧ P l)) (hg : Gl X "tuple" := by rfl) (he : starEach [a] X.env = (false, eval a X.env) :: starEach [] X.env := by exact se_of rfl) (hpl : (backTo pos (starEach [] X.env)).any (·.1) = false := by rfl) : PN X T (.Call (.Name "tuple" p) [a] [] pos) ds (fun d => ∃ l, d = .tup l ∧ P l) := fun B H σ o s Q q =>
  ofE (pe_callTy call_tuple_of hg hm (by decide +kernel) (pa_cons peW pa_nil he) (by decide) (by decide) he hpl) (ha B H σ o s _ fun v d B1 H1 g1 ⟨l, hd, pl⟩ h => by
    subst hd
    cases h with
    | @lst b ws _ h1 h2 => exact ⟨b, ws, rfl, .inl ⟨.of ((g1.go o).sub _ _ h1), fun t ht => by
        have g2 := (g1.go o).geNew (o' := .tup ws) ht nofun
        exact q _ _ _ _ (g1.trans g2) ⟨l, rfl, pl⟩ (.tup (.of upd_same) (h2.mono g2.extN))⟩⟩)
theorem pd_tupleL (hm : X.mg "tuple" = none) (ha : PD X T a ds (.lst xs)) (hg : Gl X "tuple" := by rfl) (he : starEach [a] X.env = (false, eval a X.env) :: starEach [] X.env := by exact se_of rfl) (hpl : (backTo pos (starEach [] X.env)).any (·.1) = false := by rfl) : PD X T (.Call (.Name "tuple" p) [a] [] pos) ds (.tup xs) :=
  PN.pd ((pn_tupleL (P := fun l => l = xs) hm (ha.pn ⟨xs, rfl, rfl⟩) hg he hpl).imp fun d ⟨l, h1, h2⟩ => by rw [h1, h2])
/-- list(tuple), list(list): new -/
theorem pl_listT (hm : X.mg "list" = none) (ha : PD X T a ds (.tup xs)) (hg : Gl X "list" := by rfl) (he : starEach [a] X.env = (false, eval a X.env) :: starEach [] X.env := by exact se_of rfl) (hpl : (backTo pos (starEach [] X.env)).any (·.1) = false := by rfl) : PL X T (.Call (.Name "list" p) [a] [] pos) ds xs := fun B H σ o s Q q =>
  ofE (pe_callTy call_list_of hg hm (by decide +kernel) (pa_cons peW pa_nil he) (by decide) (by decide) he hpl) (ha B H σ o s _ fun v B1 H1 g1 h => by
    cases h with
    | @tup b ws _ h1 h2 => exact ⟨b, ws, rfl, .inr (sqT_ext (g1.go o).extN h1), fun l hl => q l ws B1 _ (g1.gr.dom _ hl) (g1.trans ((g1.go o).ge (.new hl))) ((g1.go o).nb hl) upd_same h2⟩)
/-- all([..]) of truths -/
theorem bls_inv {K : PySem.W.Frag} {B : Hp} : ∀ {vs : List V} {bs : List Bool}, DaAll K B vs (bs.map D.bl) → vs = bs.map V.bl
  | _, [], h => by cases h; rfl
  | _, b :: bs, h => by
    cases h with
    | cons h t => cases h; rw [bls_inv t]; rfl
theorem pd_all {bs : List Bool} (hm : X.mg "all" = none) (ha : PD X T a ds (.lst (bs.map .bl))) (hc : X.calm = true := by rfl) (hg : Gl X "all" := by rfl) (he : starEach [a] X.env = (false, eval a X.env) :: starEach [] X.env := by exact se_of rfl) (hpl : (backTo pos (starEach [] X.env)).any (·.1) = false := by rfl) : PD X T (.Call (.Name "all" p) [a] [] pos) ds (.bl (bs.all id)) :=
  pd_callB (cr_all hc) hm (by decide +kernel) (pds_cons ha pds_nil he) (fun vs B H Q o h q => by
    obtain ⟨v, rfl, h'⟩ := da1 h; clear h; revert h'; intro h
    cases h with
    | @lst b ws _ h1 h2 => exact ⟨b, bs, rfl, by rw [← bls_inv h2]; exact .of (o.sub _ _ h1), q _ B H o.refl (.bl _)⟩) hg (by decide) (by decide) he hpl
/-- max([..]) of ints -/
theorem pd_max {ns : List Int} {m : Int} (hm : X.mg "max" = none) (ha : PD X T a ds (.lst (ns.map .int))) (h1 : m ∈ ns) (h2 : ∀ y ∈ ns, y ≤ m) (hc : X.calm = true := by rfl) (hg : Gl X "max" := by rfl) (he : starEach [a] X.env = (false, eval a X.env) :: starEach [] X.env := by exact se_of rfl) (hpl : (backTo pos (starEach [] X.env)).any (·.1) = false := by rfl) : PD X T (.Call (.Name "max" p) [a] [] pos) ds (.int m) :=
  pd_callB (cr_max hc) hm (by decide +kernel) (pds_cons ha pds_nil he) (fun vs B H Q o h q => by
    obtain ⟨v, rfl, h'⟩ := da1 h; clear h; revert h'; intro h
    cases h with
    | @lst b ws _ k1 k2 => exact ⟨b, ns, rfl, by rw [← daAll_ints_inv k2]; exact .of (o.sub _ _ k1), List.length_pos_of_mem h1, fun m' e1 e2 => by
        have : m' = m := Int.le_antisymm (h2 m' e1) (e2 m h1)
        subst this
        exact q _ B H o.refl (.int _)⟩) hg (by decide) (by decide) he hpl
theorem pd_intB {b : Bool} (hm : X.mg "int" = none) (ha : PD X T a ds (.bl b)) (hg : Gl X "int" := by rfl) (he : starEach [a] X.env = (false, eval a X.env) :: starEach [] X.env := by exact se_of rfl) (hpl : (backTo pos (starEach [] X.env)).any (·.1) = false := by rfl) : PD X T (.Call (.Name "int" p) [a] [] pos) ds (.int (if b then 1 else 0)) :=
  pd_callTy call_int1 hm (by decide +kernel) (pds_cons ha pds_nil he) (fun vs B H Q o h q => by
    obtain ⟨v, rfl, h'⟩ := da1 h; clear h; revert h'; intro h
    cases h
    exact .inr ⟨b, rfl, q _ B H o.refl (.int _)⟩) hg (by decide) (by decide) he hpl
end

/-! ### a def by its body -/
abbrev dcx (P : Program) (w : World) (K : PySem.W.Frag) (mg : Str → Option Value) (base : Heap) (N : List Str) (q : Str) (sc : Scope) (f : Addr) (cd : Value) (A : Around) (outer : List Env) (s : Shared) (H : Hp) (E : XK) : Cx := (cxOf CX0 P w K mg base N q sc f cd A outer s H E).nox
/-- where a def stands -/
def At (K : PySem.W.Frag) (mg : Str → Option Value) (name : Str) (st : Stmt) (ps : List Str) : Prop := ∃ (f : Addr) (fd : FuncData), Fun K name name st f fd ∧ mg name = some (.ref f) ∧ Binds K fd ps []
theorem start_sd {T : List (Addr × Str)} {K : PySem.W.Frag} {B H : Hp} {vs : List V} {dl : List D} (N : List Str) (h : DaAll K B vs dl) (hN : vs.length ≤ N.length) : Sd K B H (L2.start N vs) (dl.map Sl.dat ++ List.replicate (N.length - dl.length) .no) := by
  have hl := h.length
  have no : ∀ (i : Nat) s, (dl.map Sl.dat ++ List.replicate (N.length - dl.length) Sl.no)[i]? = some s → (∃ d, s = .dat d ∧ dl[i]? = some d) ∨ s = .no := fun i s e => by
    by_cases hi : i < dl.length
    · rw [List.getElem?_append_left (by simpa using hi), List.getElem?_map] at e
      cases q : dl[i]? with
      | none => rw [q] at e; cases e
      | some d => rw [q] at e; cases e; exact .inl ⟨d, rfl, rfl⟩
    · rw [List.getElem?_append_right (by simp; omega), List.getElem?_replicate] at e
      split at e
      · cases e; exact .inr rfl
      · cases e
  refine ⟨fun i d e => ?_, fun i xs e => ?_, fun i xs e => ?_, fun i j xs ys l e1 => ?_, ?_, fun i l xs c e => ?_⟩
  · rcases no i _ e with ⟨d', h1, h2⟩ | h1
    · cases h1
      obtain ⟨v, h3, h4⟩ := h.get h2
      refine ⟨v, ?_, h4⟩
      unfold L2.start
      rw [List.getElem?_append_left (by simpa using (List.getElem?_eq_some_iff.mp h3).1), List.getElem?_map, h3]
      rfl
    · cases h1
  · rcases no i _ e with ⟨d', h1, h2⟩ | h1 <;> cases h1
  · rcases no i _ e with ⟨d', h1, h2⟩ | h1 <;> cases h1
  · rcases no i _ e1 with ⟨d', h1, h2⟩ | h1 <;> cases h1
  · unfold L2.start; simp [hl]
  · rcases no i _ e with ⟨d', h1, h2⟩ | h1 <;> cases h1
theorem start_so {H0 : Hp} {σ : L2.St} {dl : List D} {n : Nat} : So H0 σ (dl.map Sl.dat ++ List.replicate n .no) := by
  have no : ∀ (i : Nat) s, (dl.map Sl.dat ++ List.replicate n Sl.no)[i]? = some s → (∃ d, s = .dat d) ∨ s = .no := fun i s e => by
    have hm := List.mem_of_getElem? e
    rcases List.mem_append.mp hm with m | m
    · obtain ⟨d, _, rfl⟩ := List.mem_map.mp m; exact .inl ⟨d, rfl⟩
    · exact .inr (List.eq_of_mem_replicate m)
  refine ⟨fun i l e => ?_, fun i l xs c e => ?_⟩
  · exfalso
    rcases e with ⟨xs, e⟩ | ⟨xs, e⟩ <;> rcases no i _ e with ⟨d, h⟩ | h <;> cases h
  · exfalso
    rcases no i _ e with ⟨d, h⟩ | h <;> cases h
theorem df_mk {P : Program} {w : World} {K : PySem.W.Frag} {mg : Str → Option Value} {base : Heap} {T : List (Addr × Str)} {A : Type} {args : A → List D} {Pre : A → Prop} {R : A → D → Prop} {k : Nat} {name : Str} {N ps : List Str} {st : Stmt} (F : At K mg name st ps) (S : FnScope N ps (defScope st))
    (hlen : ∀ x, (args x).length = ps.length) (hbody : ∀ (f : Addr) (cd : Value) (A' : Around) (outer : List Env) (s : Shared) (H : Hp) (E : XK), Room k (dcx P w K mg base N name (defScope st) f cd A' outer s H E).A → ∀ x, Pre x →
      RG (dcx P w K mg base N name (defScope st) f cd A' outer s H E) T (defBody st) ((args x).map Sl.dat ++ List.replicate (N.length - ps.length) .no) { rt := R x }) : DfOk P w K mg base (k + 1) name ps (SpF T K args Pre R) := by
  obtain ⟨f, fd, F, hm, hb⟩ := F
  refine ⟨f, fd, F.ok S (fun vs H Q E h => ?_) (fun cdv A' outer s H vs Q E hr h => ?_), hm, F.kp, hb⟩
  · obtain ⟨B, x, _, h, _⟩ := h
    rw [h.length, hlen]
  · obtain ⟨B, x, o, h, px, q⟩ := h
    refine ⟨_, pssW, ?_⟩
    have hpl : ps.length ≤ N.length := by
      have e := congrArg List.length S.pre
      rw [List.length_take] at e
      omega
    have hl : vs.length ≤ N.length := by rw [h.length, hlen]; exact hpl
    have sd := start_sd (T := T) (H := H) N h hl
    rw [hlen] at sd
    exact hbody f cdv A' outer s H E hr x px B H B H (L2.start N vs) _ ⟨o, o.refl, sd, start_so⟩ ⟨fun v d B2 H2 g r a _ => q v d B2 H2 g r a, fun _ _ _ _ n => n.elim, fun _ _ _ _ n => n.elim, fun _ _ _ _ n => n.elim⟩
end E
/-! sorted(xs, key=f), f a function that calls further; sorted(xs) of data -/
namespace E
open PySem PySem.Spec PyProof.Rows L2 LamX PySem.W
section
variable {w : World} {A : Around} {E : Value → Shared → Prop} {s : Shared} {prog : Program}
/-- sorted of a list or a tuple: its new list is sorted in place -/
theorem sorted_any {it : Addr} {Tn : String} {o : Obj} {items : Array Value} {n : Nat} {kw : List (Str × Value)} {Q : Value → Shared → Prop} (hT : Tn = "list" ∨ Tn = "tuple") (ho : s.heap.get? it = some o) (hc : o.cls = .type Tn) (hd : o.data = .seq items n) (hz : items.size ≤ sizeLine)
    (ha1 : argsOk "sorted" ⟨[.ref it], kw⟩) (ha2 : ∀ x, argsOk "list.sort" ⟨[.ref x], kw⟩)
    (body : ∀ (h1 : Heap), (∀ b o', s.heap.get? b = some o' → h1.get? b = some o') → ∀ E' : Value → Shared → Prop,
      wpAny (model prog w) A.in1.in1 (Builtin.«list.sort» ⟨[.ref h1.objs.size], kw⟩) (fun f s' => f = .done (.ret .none) ∧ Q (.ref h1.objs.size) s') E' { s with heap := h1.push (seqObj "list" items 0) }) :
    wpAny (model prog w) A (call (.builtin "sorted") [.ref it] kw) Q E s := by
  refine call_function_entry_kw kind_sorted plain_sorted entry_sorted ha1 ?_; show wpAny (model prog w) A.in1 (Builtin.«sorted» ⟨[.ref it], kw⟩) _ _ s
  unfold Builtin.«sorted»
  have hl : items.toList.length ≤ sizeLine := by rw [Array.length_toList]; exact hz
  refine wpAny_bind (m := checkCount "sorted" 1 1 _) (wpAny_pure ?_); refine wpAny_bind (wpAny_collect_seq it hT ho hc hd (fun h1 k1 => ?_) hz)
  refine wpAny_bind (wpAny_newList ?_ hl)
  have hat : (h1.push (seqObj "list" items.toList.toArray 0)).get? h1.objs.size = some (seqObj "list" items 0) := by
    rw [Array.toArray_toList]; exact Heap.get?_push_size _ rfl
  refine wpAny_bind (wpAny_holding (wpAny_call_entry_kw slot_list_sort ⟨_, hat, rfl⟩ entry_list_sort ?_ (ha2 _)))
  have q := body h1 k1
  rw [show seqObj "list" items 0 = seqObj "list" items.toList.toArray 0 by rw [Array.toArray_toList]] at q
  refine wpAny_mono (q _) (fun f s' hf => ?_) fun _ _ e => e
  obtain ⟨rfl, hq⟩ := hf; exact ⟨_, rfl, wpAny_pure ⟨_, rfl, hq⟩⟩
end

/-! ### the loop over the keys -/
section
variable {X : Cx} {T : List (Addr × Str)} {pins : List (Addr × Obj)} {σ : L2.St} {H : Hp} {s : Shared}
theorem each_vals {β : Type} {fv : β → V} : ∀ {xs : List β} {us : List Value}, Vals (xs.map fv) us → EachIs (fun (u : Value) (x : β) => L2.RelV (fv x) u) us xs
  | [], _, h => by cases h; exact .nil
  | _ :: _, _, h => by
    cases h with
    | cons r t => exact .cons r (each_vals t)
theorem vals_each {β : Type} {fv : β → V} : ∀ {xs : List β} {us : List Value}, EachIs (fun (u : Value) (x : β) => L2.RelV (fv x) u) us xs → Vals (xs.map fv) us
  | _, _, .nil => .nil
  | _, _, .cons r t => .cons r (vals_each t)
theorem ints_each {h : Heap} {β : Type} : ∀ {us : List Value} {xs : List β} {kf : β → Int}, IntsAre us (xs.map kf) → EachIs (fun (v : Value) (d : PyData) => ∃ as, Reads h v d as) us (xs.map fun x => PyData.int (kf x))
  | _, [], _, hi => by cases hi; exact .nil
  | _, x :: xs, kf, hi => by
    cases hi with
    | cons n t hi => exact .cons ⟨_, Reads.int _ _⟩ (ints_each hi)
/-- two own records changed, one of them tracked from now on -/
theorem inv_twoRec {a b : Addr} {o : HO} {h' : Heap} {tk : Nat} (I : Inv X pins σ H s) (fa : FpOk X pins H a) (fb : FpOk X pins H b) (k : ∀ c u, c ≠ a → c ≠ b → s.heap.get? c = some u → h'.get? c = some u)
    (new : ObjOk X.prog X.w (upd H a o) h' a o) : Inv X pins σ (upd H a o) { s with heap := h', toks := tk } := by
  have na : ∀ c u, H c = some u → c ≠ a := fun c u e z => by rw [z, fa.1] at e; cases e
  have nb : ∀ c u, H c = some u → c ≠ b := fun c u e z => by rw [z, fb.1] at e; cases e
  have out : ∀ {c : Addr}, c ∉ [a, b] → c ≠ a ∧ c ≠ b := fun h => ⟨fun z => h (by simp [z]), fun z => h (by simp [z])⟩
  refine I.step (g' := s.gens) (d' := s.drawn) (ch := [a, b]) (fun c hc => ?_) (fun c u _ _ hc e _ => k c u (out hc).1 (out hc).2 e) (fun c u _ _ hc e _ => ⟨u.slots, k c u (out hc).1 (out hc).2 e⟩)
    (fun c u hc e n => by rw [upd_ne (out hc).1]; exact n) (fun c u hc e => ⟨u, k c u (out hc).1 (out hc).2 e⟩) (fun c xs e => by rw [upd_ne (na c _ e)]; exact e) (fun c ob u e => by rw [upd_ne (na c _ e)]; exact e)
    (fun c ps e => ⟨#[], by rw [upd_ne (na c _ e), e]; simp⟩) (fun m hm => ?_) (fun c u e => ?_) I.bare
  · have : c = a ∨ c = b := by simpa using hc
    rcases this with rfl | rfl
    · exact ⟨fa.2.2.2.1, fa.2.1, fa.2.2.2.2.1, fa.2.2.2.2.2⟩
    · exact ⟨fb.2.2.2.1, fb.2.1, fb.2.2.2.2.1, fb.2.2.2.2.2⟩
  · obtain ⟨ob, es, ep, ho, r⟩ := hm
    exact ⟨ob, es, ep, k _ ob (Ne.symm fa.2.1) (Ne.symm fb.2.1) ho, r⟩
  · by_cases hc : c = a
    · subst hc
      rw [upd_same] at e
      cases e
      exact new
    · rw [upd_ne hc] at e
      refine (I.hok c u e).stay (fun d v hd q => k d v ?_ ?_ q) (fun d q => by rw [upd_ne (na d _ q)]; exact q) fun d xs q => by rw [upd_ne (na d _ q)]; exact q
      · rcases hd with z | z
        · rw [z]; exact hc
        · exact na d _ z
      · rcases hd with z | z
        · rw [z]; exact nb c _ e
        · exact nb d _ z
/-- one own record turned, by FpOk -/
theorem inv_rec {a : Addr} {h' : Heap} {tk : Nat} (I : Inv X pins σ H s) (fa : FpOk X pins H a) (k : ∀ c u, c ≠ a → s.heap.get? c = some u → h'.get? c = some u) : Inv X pins σ H { s with heap := h', toks := tk } :=
  I.turned k fa.1 fa.2.1 fa.2.2.2.1 fa.2.2.2.2.1 fa.2.2.2.2.2
theorem sorted_key {it f : Addr} {Tn : String} {o : Obj} {items : Array Value} {n : Nat} {β : Type} {fv : β → V} {xs : List β} {kf : β → Int} {Q : VK} (I : Inv X pins σ H s) (hT : Tn = "list" ∨ Tn = "tuple") (ho : s.heap.get? it = some o) (hc : o.cls = .type Tn) (hd : o.data = .seq items n) (rv : Vals (xs.map fv) items.toList) (hz : xs.length ≤ sizeLine) (hu : X.A.units + 3 < cLine)
    (turn : ∀ (x : β) (u : Value) (pins' : List (Addr × Obj)) (s' : Shared) (H' : Hp), x ∈ xs → L2.RelV (fv x) u → Inv X pins' σ H' s' → Gr T H H' → wpAny (model X.prog X.w) X.A.in1.in1 (call (.ref f) [u]) (fun r s2 => ∃ H2 t, Inv X pins' σ H2 s2 ∧ Gr T H' H2 ∧ r = .int (kf x) t) (fun _ _ => False) s')
    (q : ∀ p H2, H2 p = none → Gr T H H2 → Q (.ref p) (upd H2 p (.lst ((xs.mergeSort fun a b => decide (kf a ≤ kf b)).map fv)))) :
    wpAny (model X.prog X.w) X.A (call (.builtin "sorted") [.ref it] [(Str.ofString "key", .ref f)]) (EP X pins σ Q) X.xe s := by
  have hlen : xs.length = items.size := by
    have z := Vals.length rv
    rw [List.length_map] at z
    rw [z, Array.length_toList]
  refine sorted_any hT ho hc hd (by omega) (ksk_s1 _ _) (fun _ => ksk_l1 _ _) fun h1 k1 E' => ?_
  rw [ksk_t1]
  have I1 : Inv X pins σ H { s with heap := h1 } := I.kept (t' := s.toks) k1
  have hat : (h1.push (seqObj "list" items 0)).get? h1.objs.size = some (seqObj "list" items 0) := Heap.get?_push_size _ rfl
  unfold ksk_tree
  refine wpAny_bind (listItems_at hat rfl ?_)
  refine wpAny_bind (listUpdate_at hat rfl ?_ (by omega) (Nat.zero_le _))
  obtain ⟨e1, he1⟩ : ∃ e1, ((h1.push (seqObj "list" items 0)).update h1.objs.size (Obj.mapSeq fun _ => (#[] : Array Value))).get? h1.objs.size = some (seqObj "list" #[] e1) := ⟨_, get?_update_seq hat fun _ => #[]⟩
  refine wpAny_bind (seqEpoch_at he1 rfl ?_)
  refine wpAny_bind (wpAny_newTuple ?_ (by rw [Array.length_toList]; omega))
  refine wpAny_bind (wpAny_newList ?_ (Nat.zero_le _)); refine wpAny_holding ?_
  generalize hh2 : ((h1.push (seqObj "list" items 0)).update h1.objs.size (Obj.mapSeq fun _ => (#[] : Array Value))).push (seqObj "tuple" items.toList.toArray 0) = h2
  have sz2 : h2.objs.size = h1.objs.size + 2 := by rw [← hh2, Heap.size_push, Heap.size_update, Heap.size_push]
  have k2 : ∀ b u, h1.get? b = some u → h2.get? b = some u := fun b u e => by
    rw [← hh2]
    refine Heap.get?_push_of_some _ ?_
    rw [Heap.get?_update_ne _ _ _ _ (Nat.ne_of_lt (Heap.lt_size e))]
    exact Heap.get?_push_of_some _ e
  have a2 : h2.get? h1.objs.size = some (seqObj "list" #[] e1) := by rw [← hh2]; exact Heap.get?_push_of_some _ he1
  have I3 : Inv X pins σ H { s with heap := h2.push (seqObj "list" [].toArray 0) } := I1.kept (t' := s.toks) fun b u e => Heap.get?_push_of_some _ (k2 b u e)
  have fa : FpOk X pins H h1.objs.size := I1.fpOk (Nat.le_refl _) (I1.hok.fresh (Nat.le_refl _))
  have fk : FpOk X pins H h2.objs.size := I1.fpOk (by show h1.objs.size ≤ _; omega) (I1.hok.fresh (by show h1.objs.size ≤ _; omega))
  have hka : h2.objs.size ≠ h1.objs.size := by omega
  generalize ha' : h1.objs.size = a at *
  generalize hkS : h2.objs.size = kS at *
  have na : H a = none := fa.1
  have nk : H kS = none := fk.1
  -- the loop over the keys
  unfold ksk_rest
  refine wpAny_bind (wpAny_rule ?_); rw [← Array.forIn_toList]
  refine wpAny_bind (ksk_fold (fun i s' => ∃ H' kA e, Inv X pins σ H' s' ∧ Gr T H H' ∧ FpOk X pins H' a ∧ FpOk X pins H' kS ∧ s'.heap.get? kS = some (seqObj "list" kA e) ∧ s'.heap.get? a = some (seqObj "list" #[] e1) ∧ IntsAre kA.toList ((xs.map kf).take i)) items.toList 0 _
    ⟨H, #[], 0, I3, .refl H, fa, fk, by rw [← hkS]; exact Heap.get?_push_size _ rfl, by rw [Heap.get?_push_ne _ _ _ (by rw [hkS]; exact hka.symm)]; exact a2, .nil⟩ ?step ?done)
  case step =>
    rintro j u s' hx ⟨H', kA, e, I', gr', fa', fk', nk', na', hk⟩
    simp only [Nat.zero_add] at hk ⊢
    obtain ⟨x, hxj, ru⟩ : ∃ x, xs[j]? = some x ∧ L2.RelV (fv x) u := by
      have hj : j < xs.length := by rw [hlen, ← Array.length_toList]; exact (List.getElem?_eq_some_iff.mp hx).1
      obtain ⟨u', e1, e2⟩ := Vals.get (i := j) (x := fv xs[j]) rv (by rw [List.getElem?_map, List.getElem?_eq_getElem hj]; rfl)
      rw [hx] at e1; cases e1
      exact ⟨_, List.getElem?_eq_getElem hj, e2⟩
    have hj : j < xs.length := (List.getElem?_eq_some_iff.mp hxj).1
    have ob : ∀ b ∈ [a, kS], ∃ o, s'.heap.get? b = some o ∧ ∀ v, o.data ≠ .cell v := fun b hb => by
      have : b = a ∨ b = kS := by simpa using hb
      rcases this with rfl | rfl
      · exact ⟨_, na', nofun⟩
      · exact ⟨_, nk', nofun⟩
    have Ip := I'.pinned (fp := [a, kS]) (fun b hb => by
      have : b = a ∨ b = kS := by simpa using hb
      rcases this with rfl | rfl
      · exact fa'
      · exact fk') ob
    refine wpAny_bind (wpAny_attempt (wpAny_mono (turn x u _ s' H' (List.mem_of_getElem? hxj) ru Ip gr') (fun v s2 hv => ?_) fun _ _ hF => hF.elim))
    obtain ⟨H2, t, I2, gr2, rfl⟩ := hv
    try dsimp only
    have pa := I2.pin (a, seqObj "list" #[] e1) (List.mem_append_right _ (List.mem_append_right _ (mem_pinsAt (by simp) na')))
    have pk := I2.pin (kS, seqObj "list" kA e) (List.mem_append_right _ (List.mem_append_right _ (mem_pinsAt (by simp) nk')))
    have I2' : Inv X pins σ H2 s2 := I2.unpinned
    have fa2 : FpOk X pins H2 a := ⟨pa.2.1, fa'.2⟩
    have fk2 : FpOk X pins H2 kS := ⟨pk.2.1, fk'.2⟩
    have hkz : kA.size ≤ xs.length := by
      have h1 := hk.length
      rw [Array.length_toList, List.length_take] at h1; omega
    have s1 := Heap.SameBut.update s2.heap kS (Obj.mapSeq (·.push (.int (kf x) t)))
    obtain ⟨c2, hc2⟩ : ∃ c2, (s2.heap.update kS (Obj.mapSeq (·.push (.int (kf x) t)))).get? kS = some (seqObj "list" (kA.push (.int (kf x) t)) c2) := ⟨_, get?_update_seq pk.1 (·.push (.int (kf x) t))⟩
    refine wpAny_bind (listUpdate_at pk.1 rfl ?_ (Nat.le_trans hkz hz) (Nat.le_trans (Nat.le_of_eq (Array.size_push ..)) (Nat.succ_le_succ (Nat.le_trans hkz hz))))
    refine wpAny_pure ⟨rfl, H2, kA.push (.int (kf x) t), c2, inv_rec (tk := s2.toks) I2' fk2 (fun c u hc e => (s1.2 c hc).trans e), gr'.trans gr2, fa2, fk2, hc2, (s1.2 a hka.symm).trans pa.1, ?_⟩
    have ek : (xs.map kf).take (j + 1) = (xs.map kf).take j ++ [kf x] := by rw [List.take_add_one, List.getElem?_map, hxj]; rfl
    have ea : (kA.push (.int (kf x) t)).toList = kA.toList ++ [.int (kf x) t] := by simp
    rw [ek, ea]
    exact ksk_snoc hk
  case done =>
    rintro s' ⟨H', kA, e, I', gr', fa', fk', nk', na', hk⟩
    have hk' : IntsAre kA.toList (xs.map kf) := by
      have e3 : (xs.map kf).take (0 + items.toList.length) = xs.map kf := List.take_of_length_le (by rw [List.length_map]; have z : items.toList.length = items.size := Array.length_toList; omega)
      rw [e3] at hk
      exact hk
    have hsz : kA.size = items.toList.length := by
      have h1 := hk'.length
      rw [Array.length_toList, List.length_map] at h1
      rw [Array.length_toList]
      omega
    refine wpAny_bind (listItems_at nk' rfl ?_); have er : EachIs (fun (v : Value) (d : PyData) => ∃ as, Reads s'.heap v d as) kA.toList (xs.map fun x => PyData.int (kf x)) := ints_each hk'
    have hal : AllAlike (xs.map fun x => PyData.int (kf x)) := fun d hd d' hd' => by
      obtain ⟨x, _, rfl⟩ := List.mem_map.mp hd
      obtain ⟨y, _, rfl⟩ := List.mem_map.mp hd'
      simp [alike]
    have hsk : Sortable (xs.map fun x => PyData.int (kf x)) := .inr fun d hd => by
      obtain ⟨x, _, rfl⟩ := List.mem_map.mp hd
      exact ⟨nofun, nofun⟩
    have S := SortsAt.data (prog := X.prog) (w := X.w) (A := X.A.in1.in1) (s := s') er hal hsk (fun d hd => by
      obtain ⟨x, _, rfl⟩ := List.mem_map.mp hd
      show X.A.units + 1 + 1 + 0 < cLine
      omega)
    -- the heap without the keys' list
    have hh : ∀ c u, c ≠ kS → s'.heap.get? c = some u → (hideAll s'.heap [kS]).get? c = some u := fun c u hc e => hideAll_get _ e (fun z => hc (by simpa using z))
    have hn : (hideAll s'.heap [kS]).get? kS = none := hideAll_none [kS] (by simp)
    have kb : KeepsBut a (hideAll s'.heap [kS]) s'.heap := fun c u hc e => of_hideAll [kS] e
    have fin := keyH_end (b := false) (P := fun (f : PySem.Fin) s2 => f = .done (.ret .none) ∧ EP X pins σ Q (.ref a) s2) (E := E') (vs := items.toList) kb hn nk' na' hka S hsz (by have z : items.toList.length = items.size := Array.length_toList; omega) fun h' tk c kp hD => ⟨rfl, ?_⟩
    · rw [Array.toArray_toList] at fin
      exact fin
    · have hout : EachIs (fun (u : Value) (x : β) => L2.RelV (fv x) u) (sortVals (dataKind s'.heap (xs.map fun x => PyData.int (kf x))) false kA.toList items.toList) (xs.mergeSort (dataLe false fun x => PyData.int (kf x))) :=
        keyedOut_each (fun x : β => PyData.int (kf x)) ⟨s'.heap, kA.toList, hal, rfl, er⟩ (each_vals rv)
      rw [dataLe_int] at hout
      have ln : ((xs.mergeSort fun a b => decide (kf a ≤ kf b)).map fv).length ≤ sizeLine := by rw [List.length_map, List.length_mergeSort]; exact hz
      refine ⟨.ref a, upd H' a (.lst ((xs.mergeSort fun a b => decide (kf a ≤ kf b)).map fv)), inv_twoRec I' fa' fk' (fun c u c1 c2 e => kp c u c1 (hh c u c2 e)) ⟨ln, _, c, vals_each hout, hD⟩, rfl, q a H' fa'.1 gr'⟩
end
end E
/-! a lambda with parameters: made, called; sorted(e, key=lambda p: body) -/
namespace E
open PySem PySem.Spec PyProof.Rows L2 LamX PySem.W
/-- the lambda's object at f -/
def LamO (f : Addr) (q : Str) (params : Arguments) (body : Expr) (scope : Scope) (cl : List (Str × Addr)) (c' : Addr) : HO := .ext fun h => ∃ (pm ctv : Value), h.get? f = some (kla_obj "<lambda>" q params body scope cl pm c' ctv)
section
variable {X : Cx} {T : List (Addr × Str)} {pins : List (Addr × Obj)} {σ : L2.St} {H : Hp} {s : Shared}
theorem inv_lamO {f c' : Addr} {q : Str} {params : Arguments} {body : Expr} {scope : Scope} {cl : List (Str × Addr)} {pm ctv : Value} {h' : Heap} {tk : Nat} (I : Inv X pins σ H s) (hf : f = s.heap.objs.size) (hh : h' = s.heap.push (kla_obj "<lambda>" q params body scope cl pm c' ctv)) :
    Inv X pins σ (upd H f (LamO f q params body scope cl c')) { s with heap := h', toks := tk } := by
  subst hf hh
  have e : (s.heap.push (kla_obj "<lambda>" q params body scope cl pm c' ctv)).get? s.heap.objs.size = some (kla_obj "<lambda>" q params body scope cl pm c' ctv) := Heap.get?_push_size _ rfl
  exact I.laid (a := s.heap.objs.size) (fun _ _ z => Heap.get?_push_of_some _ z) (Nat.le_refl _) ⟨⟨pm, ctv, e⟩, ⟨_, e⟩, fun h1 h2 ⟨p, t, z⟩ st => ⟨p, t, st _ z⟩⟩
theorem lam_mk {c P : Addr} {params : Arguments} {body : Expr} {scope : Scope} {pos : Pos} {E : Value → Shared → Prop} {Q : Value → Shared → Prop} (I : Inv X pins σ H s) (TB : TabB X.base X.mg c P) (hcode : X.env.code = .ref c)
    (hm : (P, X.env.qual ++ "<lambda>") ∈ T) (hun : ∀ p ∈ T, p.1 = P → p.2 = X.env.qual ++ "<lambda>") (hT : Tabs T H) (hdef : defaultsOf params X.env = ([], [])) (hfree : ∀ y ∈ scope.names, y.2 = .free → ∃ c, X.env.cells.lookup y.1 = some c)
    (k : ∀ (f c' : Addr) (H1 : Hp) (s' : Shared), Inv X pins σ H1 s' → Gr T H H1 → H f = none → H1 f = some (LamO f (X.env.qual ++ "<lambda>") params body scope (cloFrom X.env.cells scope.names []) c') → H1 c' = some (CodeO c' (X.env.qual ++ "<lambda>")) → Q (.ref f) s') : wpAny (model X.prog X.w) X.A (eval (.Lambda params body scope pos) X.env) Q E s := by
  obtain ⟨ps, tP, tr, tc⟩ := hT _ hm
  have bP : s.heap.BuiltinsAt X.mg P := TB.bm.keeps I.bk; have oP : s.heap.get? P = some { cls := .none, data := .fields ps } := I.hok P _ tP
  refine kla_eval hdef ?_
  cases cm : codeAmong pos ps.toList with
  | some cv =>
    obtain ⟨c', rfl, hc'⟩ := tc pos cv cm
    refine kla_makeFunctionHit (mg := X.mg) (c := c) (P := P) (ps := ps) (closure_ok hfree) I.ok.glob (I.mod.glob.keeps I.bk) hcode (TB.code.keeps I.bk) oP tr cm bP fun ctv h' tk kp hsz => ?_
    have I1 : Inv X pins σ H { s with heap := h', toks := tk } := I.kept kp
    have nf : H h'.objs.size = none := I1.hok.fresh (Nat.le_refl _)
    exact k h'.objs.size c' _ _ (inv_lamO (s := { s with heap := h', toks := tk }) (f := h'.objs.size) (tk := tk) I1 rfl rfl) (.new nf) nf upd_same (by rw [upd_ne (ne_of_none hc' nf)]; exact hc')
  | none =>
    refine kla_makeFunction (mg := X.mg) (c := c) (P := P) (ps := ps) (closure_ok hfree) I.ok.glob (I.mod.glob.keeps I.bk) hcode (TB.code.keeps I.bk) oP tr cm TB.gP bP fun c' ctv h' tk kp hge hlt hrec htb => ?_
    rcases hrec with ⟨c2, oc, vs, t, e2, hoc, hd, hv⟩
    cases e2
    have nC : H c' = none := I.hok.fresh hge; have I1 := inv_table (t' := tk) (q := X.env.qual ++ "<lambda>") (more := #[rawInt pos.line, rawInt pos.col, .ref c']) (h' := h') I tP (fun b o hb e => kp b o hb e) htb hge ⟨oc, vs, t, hoc, hd, hv⟩
    generalize hH1 : upd (upd H P (.tbl (ps ++ #[rawInt pos.line, rawInt pos.col, .ref c']))) c' (CodeO c' (X.env.qual ++ "<lambda>")) = H1 at I1
    have atC : H1 c' = some (CodeO c' (X.env.qual ++ "<lambda>")) := by rw [← hH1]; exact upd_same
    have atP : H1 P = some (.tbl (ps ++ #[rawInt pos.line, rawInt pos.col, .ref c'])) := by rw [← hH1, upd_ne (ne_of_none tP nC), upd_same]
    have ex : ExtN H H1 := fun b o e n => by
      rw [← hH1, upd_ne (ne_of_none e nC), upd_ne (fun z => n ps (by rw [z, tP] at e; exact (Option.some.inj e).symm))]
      exact e
    have tl : (ps ++ #[rawInt pos.line, rawInt pos.col, .ref c']).toList = ps.toList ++ [rawInt pos.line, rawInt pos.col, .ref c'] := by simp
    have g : Gr T H H1 := by
      refine ⟨ex, fun t0 p hp => ?_, fun b n => ?_⟩
      · by_cases hb : p.1 = P
        · rw [hun p hp hb, hb]
          refine ⟨_, atP, by rw [tl]; exact PySem.TriplesOk_snoc _ _ _ _ tr, fun p' cv hcv => ?_⟩
          rw [tl] at hcv
          rcases among_app _ tr hcv with z | z
          · obtain ⟨c0, e1, e2⟩ := tc p' cv z
            exact ⟨c0, e1, ex _ _ e2 codeO_ne⟩
          · exact ⟨c', z, atC⟩
        · obtain ⟨ps', a1, a2, a3⟩ := t0 p hp
          refine ⟨ps', ?_, a2, fun p' cv hcv => ?_⟩
          · rw [← hH1, upd_ne (ne_of_none a1 nC), upd_ne hb]; exact a1
          · obtain ⟨c0, e1, e2⟩ := a3 p' cv hcv
            exact ⟨c0, e1, ex _ _ e2 codeO_ne⟩
      · cases q : H b with
        | none => rfl
        | some o =>
          exfalso
          rw [← hH1, upd_ne (ne_of_none q nC)] at n
          by_cases hb : b = P
          · rw [hb, upd_same] at n; cases n
          · rw [upd_ne hb, q] at n; cases n
    have nf : H1 h'.objs.size = none := I1.hok.fresh (Nat.le_refl _)
    refine k h'.objs.size c' _ _ (inv_lamO (s := { s with heap := h', toks := tk }) (f := h'.objs.size) (tk := tk) I1 rfl rfl) (g.trans (.new nf)) (g.dom _ nf) upd_same ?_
    rw [upd_ne (ne_of_none atC nf)]; exact atC
/-- the lambda called: from a frame that made it, or a deeper one -/
theorem lam_run {A : Around} {outer : List Env} {s1 : Shared} {H1 : Hp} {f c' : Addr} {q : Str} {params : Arguments} {body : Expr} {scope : Scope} {cl : List (Str × Addr)} {N ps fr : List Str} {us : List Value} {vs : List V} {ws : List (Option V)} {Q : VK} {k : Nat} {P : Program} {w : World} {K : PySem.W.Frag} {mg : Str → Option Value} {base : Heap}
    (hr : Room (k + 1) A) (e0 : Env0 P w K mg base A outer s1 H1) (hf : H1 f = some (LamO f q params body scope cl c')) (hc : H1 c' = some (CodeO c' q)) (S : NdefX.NScope N ps fr scope) (hl : vs.length = ps.length)
    (hbind : ∀ (pm cv ctv : Value) (us : List Value), us.length = ps.length → bindArgs (kla_fn "<lambda>" q params body scope cl pm cv ctv) ⟨us, []⟩ = pure (ps.zip us)) (C : NdefX.CellsAt cl fr ws s1.heap H1) (rv : Vals vs us)
    (hbody : Room k (A.deeper (NdefX.envF ⟨"<lambda>", q, params, [], scope, cl, c'⟩ f s1.heap.objs.size)) → wpE (NdefX.ncx CX0 P w K mg base N ⟨"<lambda>", q, params, [], scope, cl, c'⟩ f A outer s1 H1 E0).nox body (NdefX.startF N vs ws) H1 Q) :
    codeAny (model P w) A (.call (.ref f) ⟨us, []⟩) (CR CX0 outer P w H1 s1 Q E0) s1 := by
  obtain ⟨⟨pm, ctv, of1⟩, _, _⟩ := e0.hok f _ hf
  obtain ⟨⟨oc, xs, t, hoc, hdc, hvc⟩, _, _⟩ := e0.hok c' _ hc
  have lim : s1.heap.NoLimit := e0.mod.nolimit.keeps fun b o e => (e0.bs b o e).1
  refine kla_callFunE hr.depth of1 rfl S.co S.gen rfl ⟨c', oc, xs, t, rfl, hoc, hdc, hvc⟩ ?_
  rw [hbind _ _ _ us (by rw [← Vals.length rv]; exact hl)]
  refine wpAny_pure (wpAny_newFunctionEnv S.nocell (fun ⟨n, _⟩ hy => S.par n (List.of_mem_zip hy).1) (fun h₁ hns hsb => ⟨lim.fresh _ hsb, ?_⟩) S.kind); show codeAny _ _ (.expr body (NdefX.envF ⟨"<lambda>", q, params, [], scope, cl, c'⟩ f s1.heap.objs.size)) _ _
  have kp : ∀ b o, s1.heap.get? b = some o → h₁.get? b = some o := fun b o e => hsb.extBut b o (Nat.ne_of_lt (Heap.lt_size e)) (Heap.get?_push_of_some _ e); have J : Inv (NdefX.ncx CX0 P w K mg base N ⟨"<lambda>", q, params, [], scope, cl, c'⟩ f A outer s1 H1 E0) [] (NdefX.startF N vs ws) H1 { s1 with heap := h₁, toks := s1.toks + (ps.zip us).length } := NdefX.inv_startN S hr.hd e0 hl rv C hns kp
  refine kla_codeExpr (wpAny_mono ((hbody (hr.deeper _)).run [] _ (J.wish _)) (fun v s' hq => ?_) fun e s' hq => hq.elim)
  obtain ⟨w', H', J', r, q⟩ := hq
  exact ⟨w', H', J'.os, J'.bare, J'.base, J'.hok, r, q⟩
end
end E
/-! sorted(e, key=lambda p: body), sorted(e): over data -/
namespace E
open PySem PySem.Spec PyProof.Rows L2 LamX PySem.W

/-! ### data as the library's -/
mutual
def D.py : D → PyData
  | .non => .none
  | .bl b => .bool b
  | .int i => .int i
  | .str s => .str s
  | .tup xs => .tuple (D.pys xs)
  | .ftp xs => .tuple (D.pys xs)
  | .lst xs => .list (D.pys xs)
  | .dic kvs => .dict (D.pyk kvs)
  | .bag => .none
  | .scr _ => .none
def D.pys : List D → List PyData
  | [] => []
  | d :: ds => d.py :: D.pys ds
def D.pyk : List (Str × D) → List (PyData × PyData)
  | [] => []
  | (k, d) :: ds => (.str k, d.py) :: D.pyk ds
end
/- no dict, no bag -/
mutual
def D.pl : D → Bool
  | .dic _ => false
  | .bag => false
  | .scr _ => false
  | .tup xs => D.pls xs
  | .ftp xs => D.pls xs
  | .lst xs => D.pls xs
  | _ => true
def D.pls : List D → Bool
  | [] => true
  | d :: ds => d.pl && D.pls ds
end
theorem pys_map (l : List D) : D.pys l = l.map D.py := by
  induction l with
  | nil => rfl
  | cons d l ih => simp [D.pys, ih]
theorem pls_all (l : List D) : D.pls l = l.all D.pl := by
  induction l with
  | nil => rfl
  | cons d l ih => simp [D.pls, ih]
mutual
theorem Da.dp {K : PySem.W.Frag} {B H : Hp} (s : ∀ a o, B a = some o → H a = some o) : ∀ {v : V} {d : D}, d.pl = true → Da K B v d → Dp K H v d.py
  | _, _, _, .non => .non
  | _, _, _, .bl b => .bl b
  | _, _, _, .int i => .int i
  | _, _, _, .str i => .str i
  | _, _, h, .tup h1 h2 => .tup (sqT_ext (.of s) h1) (h2.dp s (by simpa [D.pl] using h))
  | _, _, h, .ftp h1 _ h2 => .tup (.inl (.inr ⟨_, s _ _ h1⟩)) (h2.dp s (by simpa [D.pl] using h))
  | _, _, h, .lst h1 h2 => .lst (.of (s _ _ h1)) (h2.dp s (by simpa [D.pl] using h))
  | _, _, h, .dic _ _ => by simp [D.pl] at h
  | _, _, h, .bag _ _ => by simp [D.pl] at h
  | _, _, h, .scr _ => by simp [D.pl] at h
theorem DaAll.dp {K : PySem.W.Frag} {B H : Hp} (s : ∀ a o, B a = some o → H a = some o) : ∀ {v : List V} {d : List D}, D.pls d = true → DaAll K B v d → DpAll K H v (D.pys d)
  | _, _, _, .nil => .nil
  | _, _, h, .cons h1 h2 => by
    simp only [D.pls, Bool.and_eq_true] at h
    exact .cons (h1.dp s h.1) (h2.dp s h.2)
end

section
variable {X : Cx} {T : List (Addr × Str)} {e body : Expr} {ds : List Sl} {xs : List D} {p lpos kpos pos : Pos} {params : Arguments} {scope : Scope}
theorem daAll_zip {K : PySem.W.Frag} {B : Hp} : ∀ {vs : List V} {xs : List D}, DaAll K B vs xs → (vs.zip xs).map (·.1) = vs ∧ (vs.zip xs).map (·.2) = xs ∧ ∀ b ∈ vs.zip xs, Da K B b.1 b.2
  | _, _, .nil => ⟨rfl, rfl, by simp⟩
  | _, _, .cons h t => by
    obtain ⟨h1, h2, h3⟩ := daAll_zip t
    refine ⟨by simp [h1], by simp [h2], fun b hb => ?_⟩
    obtain rfl | hb := List.mem_cons.mp hb
    · exact h
    · exact h3 b hb
theorem daAll_of_pairs {K : PySem.W.Frag} {B : Hp} : ∀ (l : List (V × D)), (∀ b ∈ l, Da K B b.1 b.2) → DaAll K B (l.map (·.1)) (l.map (·.2))
  | [], _ => .nil
  | b :: l, h => .cons (h b List.mem_cons_self) (daAll_of_pairs l fun c hc => h c (List.mem_cons_of_mem _ hc))
theorem map_mergeSort {α β : Type} (g : α → β) (le : β → β → Bool) (l : List α) : (l.mergeSort fun a b => le (g a) (g b)).map g = (l.map g).mergeSort le := by
  rw [List.map_mergeSort (f := g) (r := fun a b => le (g a) (g b)) (s := le)]
  intro a _ b _
  rfl
theorem sd_startF {K : PySem.W.Frag} {B H : Hp} {N : List Str} {v : V} {d : D} {ws : List (Option V)} {dc : List D} (h : Da K B v d) (hl : ws.length = dc.length) (hw : ∀ (i : Nat) x, dc[i]? = some x → ∃ u, ws[i]? = some (some u) ∧ Da K B u x) :
    Sd K B H (NdefX.startF N [v] ws) (.dat d :: (dc.map Sl.dat ++ List.replicate (N.length - 1 - dc.length) .no)) := by
  have key : ∀ (i : Nat) x, (Sl.dat d :: (dc.map Sl.dat ++ List.replicate (N.length - 1 - dc.length) .no))[i]? = some x → (i = 0 ∧ x = .dat d) ∨ (∃ j y, i = j + 1 ∧ dc[j]? = some y ∧ x = .dat y) ∨ x = .no := fun i x e => by
    cases i with
    | zero => exact .inl ⟨rfl, by simpa using e.symm⟩
    | succ j =>
      rw [List.getElem?_cons_succ] at e
      by_cases hj : j < (dc.map Sl.dat).length
      · rw [List.getElem?_append_left hj, List.getElem?_map] at e
        obtain ⟨y, h1, h2⟩ := Option.map_eq_some_iff.mp e
        exact .inr (.inl ⟨j, y, rfl, h1, h2.symm⟩)
      · rw [List.getElem?_append_right (by omega)] at e
        exact .inr (.inr (List.eq_of_mem_replicate (List.mem_of_getElem? e)))
  refine ⟨fun i x e => ?_, fun i xs e => ?_, fun i xs e => ?_, fun i j xs ys l e1 e2 => ?_, ?_, fun i l xs c e => ?_⟩
  · rcases key i _ e with ⟨rfl, e⟩ | ⟨j, y, rfl, h1, e⟩ | e
    · cases e; exact ⟨v, rfl, h⟩
    · cases e
      obtain ⟨u, h2, h3⟩ := hw j _ h1
      have hj : j < ws.length := (List.getElem?_eq_some_iff.mp h2).1
      exact ⟨u, by show ([some v] ++ (ws ++ _))[j + 1]? = _; rw [List.singleton_append, List.getElem?_cons_succ, List.getElem?_append_left hj, h2], h3⟩
    · cases e
  · rcases key i _ e with ⟨_, e⟩ | ⟨_, _, _, _, e⟩ | e <;> cases e
  · rcases key i _ e with ⟨_, e⟩ | ⟨_, _, _, _, e⟩ | e <;> cases e
  · rcases key i _ e1 with ⟨_, e⟩ | ⟨_, _, _, _, e⟩ | e <;> cases e
  · simp [NdefX.startF, hl]
  · rcases key i _ e with ⟨_, e⟩ | ⟨_, _, _, _, e⟩ | e <;> cases e
/-- the source of a sort: a list or a tuple -/
inductive SeqD : D → List D → Prop
  | lst (xs : List D) : SeqD (.lst xs) xs
  | tup (xs : List D) : SeqD (.tup xs) xs
theorem pl_sortedKey {d0 : D} {fr : List Str} {N ps : List Str} {js : List Nat} {dc : List D} {c P : Addr} {k : Nat} {kf : D → Int} (hsq : SeqD d0 xs) (he : PD X T e ds d0) (hm : X.mg "sorted" = none) (TB : TabB X.base X.mg c P) (hcode : X.env.code = .ref c) (hmT : (P, X.env.qual ++ "<lambda>") ∈ T) (hun : ∀ p ∈ T, p.1 = P → p.2 = X.env.qual ++ "<lambda>")
    (hr : Room (k + 3) X.A) (S : NdefX.NScope N ps fr scope) (hps : ps.length = 1) (hfree : ∀ y ∈ scope.names, y.2 = .free → X.env.scope.names.lookup y.1 = some .cell ∨ X.env.scope.names.lookup y.1 = some .free) (hfr : ∀ y ∈ fr, (y, NameKind.free) ∈ scope.names) (hjs : js.map (fun j => X.N[j]?) = fr.map some)
    (hdc : js.map (fun j => ds[j]?) = dc.map (fun d => some (.dat d))) (hdef : defaultsOf params X.env = ([], []))
    (hbind : ∀ (q : Str) (cl : List (Str × Addr)) (pm cv ctv : Value) (us : List Value), us.length = ps.length → bindArgs (kla_fn "<lambda>" q params body scope cl pm cv ctv) ⟨us, []⟩ = pure (ps.zip us))
    (hbody : ∀ (cl : List (Str × Addr)) (c' f : Addr) (A : Around) (outer : List Env) (s1 : Shared) (H1 : Hp), Room k (A.deeper (NdefX.envF ⟨"<lambda>", X.env.qual ++ "<lambda>", params, [], scope, cl, c'⟩ f s1.heap.objs.size)) → ∀ x ∈ xs,
      PD (NdefX.ncx CX0 X.prog X.w X.K X.mg X.base N ⟨"<lambda>", X.env.qual ++ "<lambda>", params, [], scope, cl, c'⟩ f A outer s1 H1 E0).nox T body (.dat x :: (dc.map Sl.dat ++ List.replicate (N.length - 1 - dc.length) .no)) (.int (kf x)))
    (hg : Gl X "sorted" := by rfl) (hes : backTo pos (starEach [e] X.env) = (false, eval e X.env) :: backTo pos (starEach [] X.env) := by rfl) (hpl : (backTo pos (starEach [e] X.env)).any (·.1) = false := by rfl) (hs1 : starEach [e] X.env = (false, eval e X.env) :: starEach [] X.env := by exact se_of rfl) :
    PL X T (.Call (.Name "sorted" p) [e] [⟨some "key", .Lambda params body scope lpos, kpos⟩] pos) ds (xs.mergeSort fun a b => decide (kf a ≤ kf b)) := by
  refine fun B H σ o s Q q => ⟨fun pins st I => ?_⟩
  have hfr2 : ∀ (ok : X.Ok), ∀ y ∈ scope.names, y.2 = .free → ∃ c, X.env.cells.lookup y.1 = some c := fun ok y hy e => (hfree y hy e).elim (fun z => ok.has _ (.inl z)) fun z => ok.has _ (.inr z)
  refine wpAny_Call_Name_kw (ld_blt I hg hm (u := .builtin "sorted") (by decide +kernel) ?_ (by decide) (by decide))
  refine PyProof.Rows.callWith_kw (thn (paW.run pos pins st σ H (fun vs H1 => ∃ B1 v, vs = [v] ∧ Ge T B H B1 H1 ∧ Da X.K B1 v d0) I ?_) fun us s1 ⟨vs, H1, I1, r1, B1, v, hv, g1, a1⟩ =>
    thn ((pk_cons (nm := some "key") (kpos := kpos) (e := .Lambda params body scope lpos) (te := fun σ H Q => Tabs T H ∧ ∀ (f c' : Addr) (H1 : Hp), Gr T H H1 → H f = none → H1 f = some (LamO f (X.env.qual ++ "<lambda>") params body scope (cloFrom X.env.cells scope.names []) c') → H1 c' = some (CodeO c' (X.env.qual ++ "<lambda>")) → Q (.ref f) H1)
        ⟨fun pins s σ H Q I h => lam_mk I TB hcode hmT hun h.1 hdef (hfr2 I.ok) fun f c' H1 s' I' g n h1 h2 => ⟨.ref f, H1, I', rfl, h.2 f c' H1 g n h1 h2⟩⟩ pk_nil).run pos pins s1 σ H1
        (fun zs H2 => ∃ f c', zs = [.ref f] ∧ Gr T H1 H2 ∧ H2 f = some (LamO f (X.env.qual ++ "<lambda>") params body scope (cloFrom X.env.cells scope.names []) c') ∧ H2 c' = some (CodeO c' (X.env.qual ++ "<lambda>"))) I1 ?_) fun ws s2 ⟨zs, H2, I2, r2, f, c', hz, g2, hf, hc'⟩ => ?_) hes hpl rfl rfl
  · exact ofA (pa_cons peW pa_nil hs1) (he B H σ o s _ fun v B1 H1 g1 a => ⟨B1, v, rfl, g1, a⟩) |> fun h => h
  · exact ⟨(g1.go o).tab, fun f c' H2 g n h1 h2 => ⟨f, c', rfl, g, h1, h2⟩⟩
  subst hv hz
  obtain ⟨u1, hu1, r1u⟩ : ∃ u1, us = [u1] ∧ L2.RelV v u1 := by
    cases r1 with
    | cons r1 rn => cases rn; exact ⟨_, rfl, r1⟩
  obtain rfl : ws = [.ref f] := by
    cases r2 with
    | cons r2 rn => cases rn; cases r2; rfl
  subst hu1
  have g12 := g1.trans ((g1.go o).ge g2)
  have o2 := g12.go o
  have a2 := a1
  obtain ⟨it, Tn, ob, items, n, vs, hu, hT, ho, hcl, hd, rv, hz, ha⟩ : ∃ it Tn ob items n vs, u1 = .ref it ∧ (Tn = "list" ∨ Tn = "tuple") ∧ s2.heap.get? it = some ob ∧ ob.cls = .type Tn ∧ ob.data = .seq items n ∧ Vals vs items.toList ∧ vs.length ≤ sizeLine ∧ DaAll X.K B1 vs xs := by
    cases hsq with
    | lst xs => cases a1 with
      | lst h1 h2 =>
        obtain ⟨its, rv, ⟨o', n, ho, hc, _, hd⟩, hz⟩ := I2.list (.of (o2.sub _ _ h1))
        exact ⟨_, _, _, _, n, _, r1u, .inl rfl, ho, hc, hd, rv, hz, h2⟩
    | tup xs => cases a1 with
      | tup h1 h2 =>
        obtain ⟨its, rv, ⟨o', ho, hc, n, hd⟩, hz⟩ := I2.tuple (sqT_ext o2.extN h1)
        exact ⟨_, _, _, _, n, _, r1u, .inr rfl, ho, hc, hd, rv, hz, h2⟩
  subst hu
  obtain ⟨z1, z2, z3⟩ := daAll_zip ha
  show wpAny _ _ (call (.builtin "sorted") [.ref it] [(Str.ofString "key", .ref f)]) _ _ _
  refine sorted_key (T := T) (β := V × D) (fv := (·.1)) (xs := vs.zip xs) (kf := fun b => kf b.2) I2 hT ho hcl hd (by rw [z1]; exact rv) (by rw [← List.length_map (f := (·.1)), z1]; exact hz) (by have := hr.units; omega) ?_ ?_
  · intro b u pins' s' H' hb rb I' gr'
    have o3 : Go T B1 H' := o2.grow gr'
    have e1 : H' f = some _ := gr'.ext _ _ hf nofun
    have e2 : H' c' = some _ := gr'.ext _ _ hc' codeO_ne
    have hr2 : Room (k + 1) X.A.in1.in1 := hr.in1.in1
    have CA := NdefX.cells_of I' (NdefX.Caps.made I'.ok hfree hfr hjs)
    have hbx : b.2 ∈ xs := by rw [← z2]; exact List.mem_map_of_mem hb
    have ld : js.length = dc.length := by have := congrArg List.length hdc; simpa using this
    have s3 : Sd X.K B1 H' σ ds := (s.grow g12).grow (o2.ge gr')
    refine wpAny_call (codeAny_mono (lam_run (k := k) (us := [u]) (vs := [b.1]) (Q := fun v H2 => v = .int (kf b.2) ∧ Gr T H' H2) hr2 I'.env0.in1.in1 e1 e2 S (by rw [hps]; rfl) (fun pm cv ctv us hl => hbind _ _ pm cv ctv us hl) CA (.cons rb .nil) fun hroom => ?_) fun r s4 hq => ?_)
    · refine hbody _ c' f _ _ _ _ hroom b.2 hbx B1 H' _ o3 (sd_startF (z3 b hb) (by rw [List.length_map, ld]) fun i x e => ?_) _ fun v B4 H4 g4 a4 => ?_
      · have e3 := congrArg (fun l => l[i]?) hdc
        simp only [List.getElem?_map, e, Option.map_some] at e3
        obtain ⟨j, h1, h2⟩ := Option.map_eq_some_iff.mp e3
        obtain ⟨v, h3, h4⟩ := s3.dat j x h2
        exact ⟨v, by rw [List.getElem?_map, h1]; simp [NdefX.slotAt, h3], h4⟩
      · cases a4; exact ⟨rfl, g4.gr⟩
    · cases r with
      | error e => exact hq.elim
      | ok fl => cases fl with
        | ret u =>
          obtain ⟨v, H5, I5, rv5, e5, g5⟩ := I'.after hq
          subst e5
          obtain ⟨t5, rv5⟩ := rv5
          exact ⟨H5, t5, I5, g5, rv5⟩
        | next => exact hq.elim
        | brk => exact hq.elim
        | cont => exact hq.elim
  · intro p H3 hp gr3
    refine q p _ B1 _ (g1.gr.dom _ (g2.dom _ (gr3.dom _ hp))) (g12.trans (o2.ge (gr3.trans (.new hp)))) ((o2.grow gr3).nb hp) upd_same ?_
    have e := daAll_of_pairs ((vs.zip xs).mergeSort fun a b => decide (kf a.2 ≤ kf b.2)) fun b hb => z3 b (List.mem_mergeSort.mp hb)
    rw [map_mergeSort (fun b : V × D => b.2) (fun a b => decide (kf a ≤ kf b)), z2] at e
    exact e
end
end E
/-! enumerate(tuple) -/
namespace E
open LamX L2 PyProof.Rows PySem PySem.Spec
theorem meets_enumT {v : Value} {o : Obj} {H : Heap → Prop} (B : Begins v o H) :
    Meets (Builtin.«enumerate.__new__» ⟨[.type "enumerate", v], []⟩) (fun _ R s => H s.heap ∧
      R (.ok (.ret (.ref (s.heap.push o).objs.size))) { s with heap := (s.heap.push o).push { cls := .type "enumerate", data := .fields #[.none, .bool false, .ref s.heap.objs.size, rawInt 0, .none, .none] } }) :=
  .of_wp fun prog w A R s h => by
    obtain ⟨hp, g, d, tk, os⟩ := s; obtain ⟨h1, h⟩ := h; have hsub := sub_enumerate; have q1 : ∀ {A' : Around} {E : Value → Shared → Prop} {Q : Value → Shared → Prop}, Q (.ref hp.objs.size) ⟨hp.push o, g, d, tk, os⟩ → wpAny (model prog w) A' (pyIter v) Q E ⟨hp, g, d, tk, os⟩ := fun q => B.iter prog w _ _ ⟨hp, g, d, tk, os⟩ _ h1 q
    wp_walk using q1
    refine wpAny_stack_any fun st => wpAny_pure ?_; split
    · rename_i c _ _ _ _ _; cases (c == Value.type "enumerate")
      · wp_walk using q1
        exact ⟨_, rfl, h⟩
      · wp_walk using q1
        exact ⟨_, rfl, h⟩
    · wp_walk using q1
      exact ⟨_, rfl, h⟩
section
variable {w : World} {A : Around} {E : Value → Shared → Prop} {s : Shared} {prog : Program}
theorem call_enumT {t : Addr} {items : Array Value} {Q : Value → Shared → Prop} (ht : s.heap.IsTuple t items)
    (h : ∀ h', IsEnum h' (s.heap.objs.size + 1) s.heap.objs.size 0 .none → h'.IsTupleIter s.heap.objs.size t 0 → h'.objs.size = s.heap.objs.size + 2 → (∀ b o, s.heap.get? b = some o → h'.get? b = some o) → Q (.ref (s.heap.objs.size + 1)) { s with heap := h' }) :
    wpAny (model prog w) A (call (.type "enumerate") [.ref t]) Q E s := by
  have B := begins_tuple t items; refine callType_new F.called_enumerate (by decide) (F.typeCall_enumerate_1 _) (F.newCall_enumerate_1 _) (fun obj => F.args_object_init_2 obj _) F.entry_enumerate_new
    (meets_enumT B) ⟨ht, ?_⟩
  have hz : (s.heap.push { cls := .type "tuple_iterator", data := .fields #[.ref t, .int 0 0] }).objs.size = s.heap.objs.size + 1 := Heap.size_push ..
  show _ ∧ _
  rw [hz]
  have he : IsEnum ((s.heap.push { cls := .type "tuple_iterator", data := .fields #[.ref t, .int 0 0] }).push { cls := .type "enumerate", data := .fields #[.none, .bool false, .ref s.heap.objs.size, rawInt 0, .none, .none] }) (s.heap.objs.size + 1) s.heap.objs.size 0 .none := by
    have := Heap.get?_push_size (s.heap.push { cls := .type "tuple_iterator", data := .fields #[.ref t, .int 0 0] }) (o := { cls := .type "enumerate", data := .fields #[.none, .bool false, .ref s.heap.objs.size, rawInt 0, .none, .none] }) rfl
    rw [hz] at this; exact this
  exact ⟨⟨_, he, rfl⟩, h _ he ⟨_, Heap.get?_push_of_some _ (Heap.get?_push_size _ rfl), rfl, rfl⟩ (by rw [Heap.size_push, hz]) fun b o y => Heap.get?_push_of_some _ (Heap.get?_push_of_some _ y)⟩
end
/-- the tuple at a, each item in a new pair -/
def Itet (K : PySem.W.Frag) (a : Addr) : It :=
  ⟨fun i H => ∃ (xs : List V) (x : V), SqT K H a xs ∧ xs[i]? = some x, fun i H v H' => ∃ T x, v = .ref T ∧ H T = none ∧ H' = upd H T (.tup [.int (i : Nat), x]) ∧ ∀ xs, SqT K H a xs → xs[i]? = some x, fun i H => ∃ xs : List V, SqT K H a xs ∧ xs.length ≤ i⟩
theorem tup_unique {h : Heap} {t : Addr} {i1 i2 : Array Value} (h1 : h.IsTuple t i1) (h2 : h.IsTuple t i2) : i1 = i2 := by
  obtain ⟨o, a, _, n, b⟩ := h1
  obtain ⟨o', a', _, n', b'⟩ := h2
  rw [a] at a'
  cases a'
  rw [b] at b'
  injection b'
theorem turn_enumT {P : Program} {w : World} {K : PySem.W.Frag} {elts : List Expr} {kk : Nat} {tpos : Pos} (a e it : Addr) (its : Array Value) :
    Turn P w K (.Tuple elts kk tpos) (Itet K a) [e, it] e (fun i h => (∃ old, IsEnum h e it ((i : Nat) : Int) old) ∧ h.IsTupleIter it a i ∧ e ≠ it ∧ a ≠ it ∧ a ≠ e) where
  mem := by simp
  obj := fun i h st b hb => by
    rcases st with ⟨⟨old, he⟩, ⟨o, ho, hc, hd⟩, _⟩
    have e' : b = e ∨ b = it := (by simpa using hb)
    rcases e' with z | z
    · rw [z]; exact ⟨_, he, fun _ q => by cases q⟩
    · rw [z]; exact ⟨o, ho, fun _ q => by cases hd.symm.trans q⟩
  keep := fun i h h' z k => let ⟨⟨o0, e0⟩, i0, n0⟩ := z; ⟨⟨o0, k e (by simp) _ e0⟩, i0.at fun o q => k it (by simp) o q, n0⟩
  item := by
    intro X hP hw hK hc i pins s σ H E I hf st hg; subst hP hw hK
    obtain ⟨⟨old, he⟩, hit, hne, n1, n2⟩ := st
    obtain ⟨xs, x, hq, hx⟩ := hg
    rcases I.tuple hq with ⟨its, rv, p, hz⟩
    obtain ⟨u, hu, ru⟩ := rv.get hx
    have hel : e < s.heap.objs.size := Heap.lt_size he; have hil : it < s.heap.objs.size := by obtain ⟨_, q, _⟩ := hit; exact Heap.lt_size q
    have hi : i < its.toArray.size := by simpa using (List.getElem?_eq_some_iff.mp hu).1
    refine wpAny_pyNext_enum_itemC (Draws.tuple (A := X.A.in1) (I.ok.hd hc) it a n1 its.toArray) he ⟨hit, p⟩ hi hne (by simp only [List.mem_cons, List.not_mem_nil, or_false, not_or]; exact ⟨hne, fun z => n2 z.symm⟩) fun y h' tk hy ho ⟨hit', _⟩ hT hsz hk => ?_
    obtain rfl : y = u := by
      have hu' : its.toArray[i]? = some u := by simpa using hu
      rw [hu'] at hy
      exact (Option.some.inj hy).symm
    refine ⟨_, rfl, wpAny_letOwnedTupleGo_enum (s := { s with heap := h', toks := tk + 1 }) ho fun h'' he' sb => ?_⟩
    have hT2 : h''.get? s.heap.objs.size = some { cls := .type "tuple", data := .seq #[.int i tk, y] } := (sb.2 _ (Nat.ne_of_gt hel)).trans hT; have new : ObjOk X.prog X.w (upd H s.heap.objs.size (.tup [.int (i : Nat), x])) h'' s.heap.objs.size (.tup [.int (i : Nat), x]) :=
      ⟨by show 2 ≤ sizeLine; decide, [.int i tk, y], .cons ⟨_, rfl⟩ (.cons ru .nil), ⟨_, hT2, rfl, _, rfl⟩⟩
    have I1 : Inv X pins σ (upd H s.heap.objs.size (.tup [.int (i : Nat), x])) { s with heap := h'', toks := tk + 1 } := I.turnedNew (ch := [e, it]) (fun b ob hb q => (sb.2 b (fun z => hb (by simp [z]))).trans (hk b ob (fun z => hb (by simp [z])) (fun z => hb (by simp [z])) q)) hf (Nat.le_refl _) new
    refine ⟨.ref s.heap.objs.size, _, I1, rfl, ⟨_, x, rfl, I.hok.fresh (Nat.le_refl _), rfl, fun ys hy => by rw [I.tuple_inj hy hq]; exact hx⟩, ⟨⟨y, ?_⟩, hit'.at fun o q => (sb.2 it (Ne.symm hne)).trans q, hne, n1, n2⟩, fun b hb => ?_⟩
    · have e1 : ((i + 1 : Nat) : Int) = (i : Int) + 1 := (by omega)
      rw [e1]; exact he'
    · have hb' : s.heap.objs.size > b := by
        have e' : b = e ∨ b = it := (by simpa using hb)
        rcases e' with z | z
        · rw [z]; exact hel
        · rw [z]; exact hil
      rw [upd_ne (Nat.ne_of_lt hb')]
      exact (hf b hb).1
  done := by
    intro X hP hw hK hc i pins s σ H E I hf st hg; subst hP hw hK
    obtain ⟨⟨old, he⟩, hit, hne, n1, n2⟩ := st
    obtain ⟨xs, hq, hx⟩ := hg
    rcases I.tuple hq with ⟨its, rv, p, hz⟩
    rcases hf it (by simp) with ⟨f0, f1, f2, f3, f4, f5⟩
    have hl := rv.length
    unfold pyNext; have hT : s.TypeIs (.ref e) "enumerate" := ⟨_, he, rfl⟩; refine wpAny_bind (wpAny_attempt (wpAny_callSpecial?_slot (name := Str.ofString "__next__") hT F.slot_enumerate_next (wpAny_call_entry F.slot_enumerate_next hT F.entry_enumerate_next ?_ (F.args_enumerate_next_1 _))))
    show wpAny _ _ (field (.ref e) 2 >>= _) _ _ _; refine wpAny_bind (wpAny_field he rfl (x := .ref it) rfl ?_)
    refine wpAny_bind (wpAny_nextOf_tuple_end (I.ok.hd hc) hit p (by simp; omega) fun h' x he' hx' => ?_)
    obtain ⟨o, ho, hc⟩ := hx'
    refine wpAny_bind (wpAny_isInstance (T := "StopIteration") (b := true) ⟨o, ho, hc⟩ isSubtype_stop ?_); exact wpAny_pure ⟨rfl, I.turned (t' := s.toks) (fun b o hb q => he' b o hb q) f0 f1 f3 f4 f5⟩
  self := fun A i s Q E z h => let ⟨⟨_, e0⟩, _⟩ := z; wpAny_pyIter_enum e0 h
def iEnumT (K : PySem.W.Frag) (ta : TA) : TI := fun σ H R => ta σ H fun vs H1 => ∃ a xs, vs = [.ref a] ∧ SqT K H1 a xs ∧ R (Itet K a) H1
theorem pi_enumT {X : Cx} {e : Expr} {ta : TA} {p pos tpos : Pos} {elts : List Expr} {kk : Nat} (hg : Gl X "enumerate") (hm : X.mg "enumerate" = none) (ha : PA X [e] ta) (hs : starEach [e] X.env = [(false, eval e X.env)] := by rfl) :
    PI X (.Tuple elts kk tpos) (.Call (.Name "enumerate" p) [e] [] pos) (iEnumT X.K ta) := by
  refine ⟨fun pins s σ H R I h => ?_⟩
  refine Call_ (ld_blt I hg hm boot_enumerate (PyProof.Rows.callWith_type1 (thn (ha.run pos pins s σ H _ I h) fun us s1 ⟨vs, H1, I1, r1, q1⟩ => ?_) hs rfl)); obtain ⟨a, xs, ex, hq, q⟩ := q1
  subst ex
  cases r1 with
  | cons r rr =>
    cases rr
    cases r
    obtain ⟨its, rv, p', hz⟩ := I1.tuple hq
    have hal : a < s1.heap.objs.size := by obtain ⟨o, ho, _⟩ := p'; exact Heap.lt_size ho
    refine call_enumT p' fun h' he hit hsz hk => wpAny_pyIter_enum he ?_
    have I2 : Inv X pins σ H1 { s1 with heap := h' } := I1.kept (t' := s1.toks) hk; refine ⟨s1.heap.objs.size + 1, [s1.heap.objs.size + 1, s1.heap.objs.size], _, _, H1, rfl, I2, turn_enumT a (s1.heap.objs.size + 1) s1.heap.objs.size its.toArray, ⟨⟨.none, he⟩, hit, Nat.succ_ne_self _, Nat.ne_of_lt hal, Nat.ne_of_lt (Nat.lt_succ_of_lt hal)⟩, fun b hb => ?_, q⟩
    have e' : b = s1.heap.objs.size + 1 ∨ b = s1.heap.objs.size := (by simpa using hb); have hle : s1.heap.objs.size ≤ b := by
      rcases e' with z | z
      · rw [z]; exact Nat.le_add_right _ 1
      · rw [z]; exact Nat.le_refl _
    refine I1.fpOk hle ?_; exact I1.hok.fresh hle
theorem walk_enumT {K : PySem.W.Frag} {a : Addr} {xs : List V} : Walk (Itet K a) xs.length (fun H => SqT K H a xs) (YPair (fun i => some (.int (i : Nat))) (fun i => xs[i]?)) :=
  ⟨fun i _ hi q => ⟨xs, xs[i], q, List.getElem?_eq_getElem hi⟩, fun _ q => ⟨xs, q, Nat.le_refl _⟩, fun i H v H' _ q ⟨t, x, h1, h2, h3, h4⟩ => ⟨t, .int (i : Nat), x, h1, h2, h3, rfl, h4 xs q⟩⟩
section
variable {X : Cx} {T : List (Addr × Str)} {a : Expr} {es : List Expr} {ds : List Sl} {xs : List D} {p pos tpos : Pos} {kk : Nat}
theorem src_enumT (hm : X.mg "enumerate" = none) (h : PD X T a ds (.tup xs)) (hg : Gl X "enumerate" := by rfl) (hs : starEach [a] X.env = (false, eval a X.env) :: starEach [] X.env := by exact se_of rfl) :
    Src X T (.Tuple es kk tpos) (.Call (.Name "enumerate" p) [a] [] pos) ds ((List.range xs.length).map fun i : Nat => D.tup [.int (i : Int), xs.getD i .non]) := fun B H σ o s R q =>
  ofI (pi_enumT hg hm (pa_cons peW pa_nil hs) hs) (h B H σ o s _ fun v B2 H2 g hv => by
    cases hv with
    | @tup b vs _ h1 h2 =>
      refine ⟨_, _, rfl, sqT_ext (g.go o).extN h1, q _ _ B2 H2 g rfl ?_⟩
      have w := walk_enumT (K := X.K) (a := b) (xs := vs)
      rw [h2.length] at w
      refine walkD_pair (gx := fun i => .int (i : Int)) (gy := fun i => xs.getD i .non) w (fun B3 H3 e o3 => sqT_ext o3.extN (sqT_ext e h1)) (fun i v hi e => ?_) fun i v hi e => ?_
      · cases e; exact .int _
      · obtain ⟨d, e1, e2⟩ := h2.getV e
        rw [List.getD_eq_getElem?_getD, e1]
        exact e2)
end
end E
/-! more comparisons, in, index, tuple(..) whose class's dict is known to be none, several targets -/
namespace E
open LamX L2 PyProof.Rows PySem PySem.Spec
section
variable {X : Cx} {T : List (Addr × Str)} {e a b : Expr} {es : List Expr} {ds : List Sl} {d x y : D} {xs ys : List D} {p pos pos' apos : Pos}
theorem PD.tup (h : PD X T e ds (.ftp xs)) : PD X T e ds (.tup xs) := fun B H σ o s Q q => h B H σ o s Q fun v B2 H2 g a => by
  cases a with
  | ftp h1 h2 h3 => exact q _ B2 H2 g (.tup (.inl (.inr ⟨_, h1⟩)) h3)
theorem PN.tup {P : List D → Prop} (h : PN X T e ds (fun d => ∃ l, d = .ftp l ∧ P l)) : PN X T e ds (fun d => ∃ l, d = .tup l ∧ P l) := fun B H σ o s Q q => h B H σ o s Q fun v d B2 H2 g ⟨l, hd, pl⟩ a => by
  subst hd
  cases a with
  | ftp h1 h2 h3 => exact q _ _ B2 H2 g ⟨l, rfl, pl⟩ (.tup (.inl (.inr ⟨_, h1⟩)) h3)
/-- tuple(list): a new object of which all is known -/
theorem call_tupF : CallR X (.type "tuple") (fun zs H Q => ∃ p ys, zs = [.ref p] ∧ SqL X.K H p ys ∧ ∀ l o, H l = none → o.dict = none → Q (.ref l) (upd H l (.frz o (.tup ys)))) := by
  intro pins s σ H zs us Q I r h
  obtain ⟨p, ys, rfl, hq, q⟩ := h
  obtain ⟨u, rfl, rx⟩ := vals1 r
  cases rx
  obtain ⟨its, r', pl, hz⟩ := I.list hq
  have hlen := r'.length
  refine call_tuple_list pl.isList (fun h' kp => ?_) (by simp only [List.size_toArray] <;> omega); have I1 : Inv X pins σ H { s with heap := h' } := I.kept (t' := s.toks) kp
  have at' : (h'.push { cls := .type "tuple", data := .seq its.toArray }).get? h'.objs.size = some { cls := .type "tuple", data := .seq its.toArray } := Heap.get?_push_size _ rfl
  have I2 : Inv X pins σ (upd H h'.objs.size (.frz { cls := .type "tuple", data := .seq its.toArray } (.tup ys))) { s with heap := h'.push { cls := .type "tuple", data := .seq its.toArray } } :=
    I1.laid (t' := s.toks) (fun b o e => Heap.get?_push_of_some _ e) (Nat.le_refl _) (show ObjOk X.prog X.w _ _ _ (.frz _ (.tup ys)) from ⟨at', hz, its, r', IsTup.new _ _⟩)
  exact ⟨.ref h'.objs.size, _, I2, rfl, q _ _ (I1.hok.fresh (Nat.le_refl _)) rfl⟩
theorem pn_tupF {P : List D → Prop} (hm : X.mg "tuple" = none) (ha : PN X T a ds (fun d => ∃ l, d = .lst l ∧ P l)) (hg : Gl X "tuple" := by rfl) (he : starEach [a] X.env = (false, eval a X.env) :: starEach [] X.env := by exact se_of rfl) (hpl : (backTo pos (starEach [] X.env)).any (·.1) = false := by rfl) : PN X T (.Call (.Name "tuple" p) [a] [] pos) ds (fun d => ∃ l, d = .ftp l ∧ P l) := fun B H σ o s Q q =>
  ofE (pe_callTy call_tupF hg hm (by decide +kernel) (pa_cons peW pa_nil he) (by decide) (by decide) he hpl) (ha B H σ o s _ fun v d B1 H1 g1 ⟨l, hd, pl⟩ h => by
    subst hd
    cases h with
    | @lst b ws _ h1 h2 => exact ⟨b, ws, rfl, .of ((g1.go o).sub _ _ h1), fun t ob ht hob => by
        have g2 := (g1.go o).geNew (o' := .frz ob (.tup ws)) ht nofun
        exact q _ _ _ _ (g1.trans g2) ⟨l, rfl, pl⟩ (.ftp upd_same hob (h2.mono g2.extN))⟩)

/-! ### deep data -/
theorem c_eqD (hx : x.pl = true) (hy : y.pl = true) (sx : SeqAt.shaped x.py = true) (sy : SeqAt.shaped y.py = true) (hu : X.A.units + 64 < cLine) : CmpD X T .Eq x y (PyData.eqv x.py y.py) :=
  ⟨_, op_eqD hu, fun B H vx vy Q o ax ay q => ⟨_, _, ax.dp o.sub hx, ay.dp o.sub hy, sx, sy, q⟩⟩
theorem c_neD (hx : x.pl = true) (hy : y.pl = true) (sx : SeqAt.shaped x.py = true) (sy : SeqAt.shaped y.py = true) (hu : X.A.units + 64 < cLine) : CmpD X T .NotEq x y (!PyData.eqv x.py y.py) :=
  ⟨_, op_neD hu, fun B H vx vy Q o ax ay q => ⟨_, _, ax.dp o.sub hx, ay.dp o.sub hy, sx, sy, q⟩⟩
/-- is it empty -/
theorem op_eqT0 (hu : X.A.units < cLine) : OpR X (compareOp .Eq) (fun x y H Q => ∃ p q xs, x = .ref p ∧ y = .ref q ∧ SqT X.K H p xs ∧ SqT X.K H q [] ∧ Q (.bl xs.isEmpty) H) := by
  intro pins s σ H x y v u Q I rx ry h
  obtain ⟨p, q, xs, rfl, rfl, h1, h2, k⟩ := h
  cases rx
  cases ry
  obtain ⟨its, r1, t1, _⟩ := I.tuple h1
  obtain ⟨jts, r2, t2, _⟩ := I.tuple h2
  cases r2
  refine SeqAt.eq_tupleAt (e := fun _ => true) t1 t2 hu (fun j _ h2 => absurd h2 (by simp)) ⟨.bl xs.isEmpty, H, I, ?_, k⟩
  cases r1 <;> simp [L2.RelV]
theorem op_neT0 (hu : X.A.units < cLine) : OpR X (compareOp .NotEq) (fun x y H Q => ∃ p q xs, x = .ref p ∧ y = .ref q ∧ SqT X.K H p xs ∧ SqT X.K H q [] ∧ Q (.bl (!xs.isEmpty)) H) := by
  intro pins s σ H x y v u Q I rx ry h
  obtain ⟨p, q, xs, rfl, rfl, h1, h2, k⟩ := h
  cases rx
  cases ry
  obtain ⟨its, r1, t1, _⟩ := I.tuple h1
  obtain ⟨jts, r2, t2, _⟩ := I.tuple h2
  cases r2
  refine SeqAt.RcNeAt.tuples (e := fun _ => true) t1 t2 hu (fun j _ h2 => absurd h2 (by simp)) X.prog X.w _ _ ⟨.bl (!xs.isEmpty), H, I, ?_, k⟩
  cases r1 <;> simp [L2.RelV]
theorem op_eqL0 (hu : X.A.units < cLine) : OpR X (compareOp .Eq) (fun x y H Q => ∃ p q xs, x = .ref p ∧ y = .ref q ∧ SqL X.K H p xs ∧ SqL X.K H q [] ∧ Q (.bl xs.isEmpty) H) := by
  intro pins s σ H x y v u Q I rx ry h
  obtain ⟨p, q, xs, rfl, rfl, h1, h2, k⟩ := h
  cases rx
  cases ry
  obtain ⟨its, r1, t1, _⟩ := I.list h1
  obtain ⟨jts, r2, t2, _⟩ := I.list h2
  cases r2
  cases r1 with
  | nil => exact SeqAt.eq_listAt (e := fun _ => true) t1.isList t2.isList rfl hu (fun j _ h2 => absurd h2 (by simp)) ⟨.bl true, H, I, rfl, k⟩
  | cons r t => exact SeqAt.eq_list_lengthsAt t1.isList t2.isList (by simp) hu ⟨.bl false, H, I, rfl, k⟩
theorem op_neL0 (hu : X.A.units < cLine) : OpR X (compareOp .NotEq) (fun x y H Q => ∃ p q xs, x = .ref p ∧ y = .ref q ∧ SqL X.K H p xs ∧ SqL X.K H q [] ∧ Q (.bl (!xs.isEmpty)) H) := by
  intro pins s σ H x y v u Q I rx ry h
  obtain ⟨p, q, xs, rfl, rfl, h1, h2, k⟩ := h
  cases rx
  cases ry
  obtain ⟨its, r1, t1, _⟩ := I.list h1
  obtain ⟨jts, r2, t2, _⟩ := I.list h2
  cases r2
  cases r1 with
  | nil => exact SeqAt.RcNeAt.lists (e := fun _ => true) t1.isList t2.isList rfl hu (fun j _ h2 => absurd h2 (by simp)) X.prog X.w _ _ ⟨.bl false, H, I, rfl, k⟩
  | cons r t => exact SeqAt.RcNeAt.lists_lengths t1.isList t2.isList (by simp) hu X.prog X.w _ _ ⟨.bl true, H, I, rfl, k⟩
theorem isEmpty_da {K : PySem.W.Frag} {B : Hp} {vs : List V} (h : DaAll K B vs xs) : vs.isEmpty = xs.isEmpty := by cases h <;> rfl
theorem c_eqT0 (hu : X.A.units < cLine) : CmpD X T .Eq (.tup xs) (.tup []) xs.isEmpty := ⟨_, op_eqT0 hu, fun B H vx vy Q o ax ay q => by
  cases ax with
  | tup h1 h2 => cases ay with
    | tup k1 k2 => cases k2; exact ⟨_, _, _, rfl, rfl, sqT_ext o.extN h1, sqT_ext o.extN k1, by rw [isEmpty_da h2]; exact q⟩⟩
theorem c_neT0 (hu : X.A.units < cLine) : CmpD X T .NotEq (.tup xs) (.tup []) (!xs.isEmpty) := ⟨_, op_neT0 hu, fun B H vx vy Q o ax ay q => by
  cases ax with
  | tup h1 h2 => cases ay with
    | tup k1 k2 => cases k2; exact ⟨_, _, _, rfl, rfl, sqT_ext o.extN h1, sqT_ext o.extN k1, by rw [isEmpty_da h2]; exact q⟩⟩
theorem c_eqL0 (hu : X.A.units < cLine) : CmpD X T .Eq (.lst xs) (.lst []) xs.isEmpty := ⟨_, op_eqL0 hu, fun B H vx vy Q o ax ay q => by
  cases ax with
  | lst h1 h2 => cases ay with
    | lst k1 k2 => cases k2; exact ⟨_, _, _, rfl, rfl, .of (o.sub _ _ h1), .of (o.sub _ _ k1), by rw [isEmpty_da h2]; exact q⟩⟩
theorem c_neL0 (hu : X.A.units < cLine) : CmpD X T .NotEq (.lst xs) (.lst []) (!xs.isEmpty) := ⟨_, op_neL0 hu, fun B H vx vy Q o ax ay q => by
  cases ax with
  | lst h1 h2 => cases ay with
    | lst k1 k2 => cases k2; exact ⟨_, _, _, rfl, rfl, .of (o.sub _ _ h1), .of (o.sub _ _ k1), by rw [isEmpty_da h2]; exact q⟩⟩
/-- flat data, as values -/
def D.fv : D → Option V
  | .non => some .non
  | .bl b => some (.bl b)
  | .int i => some (.int i)
  | .str s => some (.str s)
  | _ => none
theorem Da.fvI {K : PySem.W.Frag} {B : Hp} {v w : V} (h : Da K B v d) (e : d.fv = some w) : v = w ∧ flatV w = true := by
  cases h <;> simp [D.fv] at e <;> subst e <;> exact ⟨rfl, rfl⟩
theorem DaAll.fvI {K : PySem.W.Frag} {B : Hp} : ∀ {vs ws : List V} {xs : List D}, DaAll K B vs xs → xs.map D.fv = ws.map some → vs = ws ∧ ws.all flatV = true
  | _, ws, _, .nil, e => by cases ws with | nil => exact ⟨rfl, rfl⟩ | cons _ _ => cases e
  | _, ws, _, .cons h t, e => by
    cases ws with
    | nil => cases e
    | cons w ws =>
      simp only [List.cons.injEq, List.map_cons] at e
      obtain ⟨e1, e2⟩ := h.fvI e.1
      obtain ⟨e3, e4⟩ := t.fvI e.2
      exact ⟨by rw [e1, e3], by simp [e2, e4]⟩
theorem c_inF {w : V} {ws : List V} {k : Bool} (hs : y = .tup xs ∨ y = .lst xs) (hw : x.fv = some w) (hws : xs.map D.fv = ws.map some) (hk : inV w ws = k) : CmpD X T .In x y k := ⟨_, op_in_seq, fun B H vx vy Q o ax ay q => by
  obtain ⟨rfl, fw⟩ := ax.fvI hw
  rcases hs with rfl | rfl
  · cases ay with
    | tup k1 k2 =>
      obtain ⟨rfl, fs⟩ := k2.fvI hws
      exact ⟨_, _, rfl, .inr (sqT_ext o.extN k1), fw, fs, by rw [hk]; exact q⟩
  · cases ay with
    | lst k1 k2 =>
      obtain ⟨rfl, fs⟩ := k2.fvI hws
      exact ⟨_, _, rfl, .inl (.of (o.sub _ _ k1)), fw, fs, by rw [hk]; exact q⟩⟩
theorem c_ninF {w : V} {ws : List V} {k : Bool} (hs : y = .tup xs ∨ y = .lst xs) (hw : x.fv = some w) (hws : xs.map D.fv = ws.map some) (hk : inV w ws = k) : CmpD X T .NotIn x y (!k) := ⟨_, op_notIn_seq, fun B H vx vy Q o ax ay q => by
  obtain ⟨rfl, fw⟩ := ax.fvI hw
  rcases hs with rfl | rfl
  · cases ay with
    | tup k1 k2 =>
      obtain ⟨rfl, fs⟩ := k2.fvI hws
      exact ⟨_, _, rfl, .inr (sqT_ext o.extN k1), fw, fs, by rw [hk]; exact q⟩
  · cases ay with
    | lst k1 k2 =>
      obtain ⟨rfl, fs⟩ := k2.fvI hws
      exact ⟨_, _, rfl, .inl (.of (o.sub _ _ k1)), fw, fs, by rw [hk]; exact q⟩⟩
theorem inV_str {c : Str} : ∀ {l : List Str}, inV (.str c) (l.map V.str) = decide (c ∈ l)
  | [] => rfl
  | a :: l => by
    have h := inV_str (c := c) (l := l)
    unfold inV at h ⊢
    rw [List.map_cons, List.any_cons, h]
    show ((a == c) || _) = _
    rw [Bool.eq_iff_iff]
    rw [Bool.or_eq_true, decide_eq_true_iff, decide_eq_true_iff, beq_iff_eq, List.mem_cons, eq_comm]
theorem inV_int {c : Int} : ∀ {l : List Int}, inV (.int c) (l.map V.int) = decide (c ∈ l)
  | [] => rfl
  | a :: l => by
    have h := inV_int (c := c) (l := l)
    unfold inV at h ⊢
    rw [List.map_cons, List.any_cons, h]
    show ((a == c) || _) = _
    rw [Bool.eq_iff_iff]
    rw [Bool.or_eq_true, decide_eq_true_iff, decide_eq_true_iff, beq_iff_eq, List.mem_cons, eq_comm]
theorem fv_strs (l : List Str) : (l.map D.str).map D.fv = (l.map V.str).map some := by simp [D.fv]
theorem fv_ints (l : List Int) : (l.map D.int).map D.fv = (l.map V.int).map some := by simp [D.fv]
theorem c_inST {c : Str} {l : List Str} : CmpD X T .In (.str c) (.tup (l.map .str)) (decide (c ∈ l)) := c_inF (.inl rfl) rfl (fv_strs l) inV_str
theorem c_inIT {c : Int} {l : List Int} : CmpD X T .In (.int c) (.tup (l.map .int)) (decide (c ∈ l)) := c_inF (.inl rfl) rfl (fv_ints l) inV_int
theorem c_inIL {c : Int} {l : List Int} : CmpD X T .In (.int c) (.lst (l.map .int)) (decide (c ∈ l)) := c_inF (.inr rfl) rfl (fv_ints l) inV_int
theorem c_ninIL {c : Int} {l : List Int} : CmpD X T .NotIn (.int c) (.lst (l.map .int)) (!decide (c ∈ l)) := c_ninF (.inr rfl) rfl (fv_ints l) inV_int
/-- flat == flat, if not of bools and ints -/
theorem c_eqF {v w : V} (hx : x.fv = some v) (hy : y.fv = some w) (hs : scal v w = true) : CmpD X T .Eq x y (decide (v = w)) := ⟨_, op_eq, fun B H vx vy Q o ax ay q => by
  obtain ⟨rfl, _⟩ := ax.fvI hx
  obtain ⟨rfl, _⟩ := ay.fvI hy
  exact ⟨hs, q⟩⟩
/-- d in a tuple or a list, over data -/
theorem op_inD (hu : X.A.units + 66 < cLine) : OpR X (compareOp .In) (fun x y H Q => ∃ (d : PyData) (l : List PyData), Dp X.K H x d ∧ (Dp X.K H y (.tuple l) ∨ Dp X.K H y (.list l)) ∧ SeqAt.shaped d = true ∧ PyData.canLayAll0 l = true ∧ Q (.bl (l.any fun z => PyData.eqv z d)) H) := by
  intro pins s σ H x y v u Q I rx ry h
  obtain ⟨d, l, hd, hl, sd, cl, q⟩ := h
  rcases Dp.reads I d x v hd rx with ⟨as, r1⟩
  have hdep := SeqAt.depth_of_shaped sd
  have hm : min (PyData.depthAll l) d.depth ≤ d.depth := Nat.min_le_right _ _
  rcases hl with hl | hl
  · obtain ⟨bs, r2⟩ := Dp.reads I _ y u hl ry
    exact SeqAt.in_tuple_reads r2 r1 cl (SeqAt.canLay_of_shaped sd) (by omega) ⟨.bl _, H, I, rfl, q⟩
  · obtain ⟨bs, r2⟩ := Dp.reads I _ y u hl ry
    exact SeqAt.in_list_reads r2 r1 cl (SeqAt.canLay_of_shaped sd) (by omega) ⟨.bl _, H, I, rfl, q⟩
theorem c_inD (hs : y = .tup xs ∨ y = .lst xs) (hx : x.pl = true) (hy : D.pls xs = true) (sx : SeqAt.shaped x.py = true) (sy : PyData.canLayAll0 (D.pys xs) = true) (hu : X.A.units + 66 < cLine) : CmpD X T .In x y ((D.pys xs).any fun z => PyData.eqv z x.py) :=
  ⟨_, op_inD hu, fun B H vx vy Q o ax ay q => ⟨_, _, ax.dp o.sub hx, by
    rcases hs with rfl | rfl
    · exact .inl (ay.dp o.sub (by simpa [D.pl] using hy))
    · exact .inr (ay.dp o.sub (by simpa [D.pl] using hy)), sx, sy, q⟩⟩

/-! ### t.index(x) -/
theorem pd_index {l : List Str} {z : Str} {j : Nat} (ha : PD X T a ds (.ftp (l.map .str))) (hb : PD X T b ds (.str z)) (hj : l[j]? = some z) (hno : ∀ m, m < j → l[m]? ≠ some z)
    (hbase : attributeBase a "index" X.env (eval a X.env) = eval a X.env := by rfl)
    (hfew : ((backTo pos (starEach [b] X.env)).all (fun x => !x.1) && (backToKw pos (keywordEach [] X.env)).all (fun x => x.1.isSome) && decide ([b].length + ([] : List Keyword).length + (if ([] : List Keyword).isEmpty then 0 else 1) < 30)) = true := by rfl)
    (hline : (apos.endLine == pos.line) = true := by rfl) (hs : starEach [b] X.env = (false, eval b X.env) :: starEach [] X.env := by exact se_of rfl) (hpl : (backTo pos (starEach [] X.env)).any (·.1) = false := by rfl) :
    PD X T (.Call (.Attribute a "index" apos) [b] [] pos) ds (.int (j : Nat)) := fun B H σ o s Q q => ⟨fun pins st I => by
  refine wpAny_Call_method_late hbase hfew hline rfl (thn ((ha B H σ o s (fun v H1 => ∃ B1, Ge T B H B1 H1 ∧ Da X.K B1 v (.ftp (l.map .str))) (fun v B1 H1 g1 a1 => ⟨B1, g1, a1⟩)).run pins st I) fun v s1 ⟨x, H1, I1, r1, B1, g1, a1⟩ => ?_)
  have o1 := g1.go o
  cases a1 with
  | @ftp at' ob ws _ h1 h2 h3 =>
    have hv : v = .ref at' := r1
    subst hv
    obtain ⟨eo, z1, its, rv, ot, e2, ec, n, ed⟩ := (show ObjOk X.prog X.w H1 s1.heap at' (.frz ob (.tup ws)) from I1.hok _ _ (o1.sub _ _ h1))
    rw [eo] at e2
    cases e2
    have hws : ws = l.map V.str := (h3.fvI (fv_strs l)).1
    refine ⟨"tuple", "tuple.index", PySem.F.plainAttrs_tuple, PySem.F.slot_tuple_index, PySem.F.type_tuple_index, ⟨ob, eo, ec⟩, fun a e => by cases e; exact ⟨ob, eo, h2⟩, ?_⟩
    have hA := paW.run pos pins s1 σ H1 (fun vs H2 => ∃ B2, Ge T B1 H1 B2 H2 ∧ vs = [.str z]) I1 (ofA (pa_cons peW pa_nil hs) (hb B1 H1 σ o1 (s.grow g1) _ fun v B2 H2 g2 a2 => by cases a2; exact ⟨B2, g2, rfl⟩))
    rw [hs] at hA ⊢
    refine Calls.callWith_builtin (by show (false || (backTo pos (starEach [] X.env)).any (·.1)) = false; rw [hpl] <;> rfl) (Calls.evalArgs_plain ?_)
    refine thn hA fun us s2 ⟨vs, H2, I2, r2, B2, g2, hvs⟩ => ?_
    subst hvs
    refine mt_tup_index pins s2 σ H2 (.ref at') [.str z] _ us Q I2 rfl r2 ⟨at', l, z, j, rfl, rfl, ?_, hj, hno, q _ B2 H2 (g1.trans g2) (.int _)⟩
    rw [← hws]
    exact .inl (.inr ⟨ob, (g2.go o1).sub _ _ (g2.ext _ _ h1)⟩)⟩

/-! ### several targets -/
variable {rest : List Stmt} {O : Out} {x1 x2 x3 : Str} {i j k : Nat} {px py pz pt : Pos} {kt k2 : Nat} {pt2 : Pos} {B0 H0 B H : Hp} {σ : L2.St}
theorem rg_par {P : List D → Prop} (i j : Nat) (h : PNs X T [a, b] ds P) (hN : X.N.Nodup) (hP : ∀ l, P l → ∃ d1 d2, l = [d1, d2] ∧ RG X T rest ((ds.set i (.dat d1)).set j (.dat d2)) O) (hij : i ≠ j := by decide) (hi : X.N[i]? = some x1 := by rfl) (hj : X.N[j]? = some x2 := by rfl)
    (hx : X.env.scope.names.lookup x1 = some .local := by rfl) (hy : X.env.scope.names.lookup x2 = some .local := by rfl) (hc : X.calm = true := by rfl)
    (hw : swappedStores [.Tuple [.Name x1 px, .Name x2 py] kt pt] (.Tuple [a, b] k2 pt2) X.env = pure (some [x1, x2]) := by rfl) (hs : swapsWithSole [.Tuple [.Name x1 px, .Name x2 py] kt pt] (.Tuple [a, b] k2 pt2) pos.line X.env = pure false := by rfl) :
    RG X T (.Assign [.Tuple [.Name x1 px, .Name x2 py] kt pt] (.Tuple [a, b] k2 pt2) pos :: rest) ds O := fun B0 H0 B H σ De hh dn =>
  ss_cons (ofS (ps_par hc hN hi hj hij hx hy paW hw hs) (h B H σ hh.go hh.sd _ fun vs l B2 H2 g pl a => by
    obtain ⟨d1, d2, rfl, k⟩ := hP l pl
    cases a with
    | cons a1 a2 => cases a2 with
      | cons a2 a3 =>
        cases a3
        exact ⟨_, _, rfl, k B0 H0 B2 H2 _ De (((hh.grow g).set i a1).set j a2) dn⟩))
/-- .. the second a new list -/
theorem rg_parL {P : D → Prop} {R : List D → Prop} (i j : Nat) (ha : PN X T a ds P) (hb : PLn X T b ds R) (hN : X.N.Nodup) (hP : ∀ d l, P d → R l → RG X T rest ((ds.set i (.dat d)).set j (.own l)) O) (hij : i ≠ j := by decide) (hi : X.N[i]? = some x1 := by rfl) (hj : X.N[j]? = some x2 := by rfl)
    (hx : X.env.scope.names.lookup x1 = some .local := by rfl) (hy : X.env.scope.names.lookup x2 = some .local := by rfl) (hc : X.calm = true := by rfl) (hs1 : starEach [a, b] X.env = (false, eval a X.env) :: starEach [b] X.env := by exact se_of rfl) (hs2 : starEach [b] X.env = (false, eval b X.env) :: starEach [] X.env := by exact se_of rfl)
    (hw : swappedStores [.Tuple [.Name x1 px, .Name x2 py] kt pt] (.Tuple [a, b] k2 pt2) X.env = pure (some [x1, x2]) := by rfl) (hs : swapsWithSole [.Tuple [.Name x1 px, .Name x2 py] kt pt] (.Tuple [a, b] k2 pt2) pos.line X.env = pure false := by rfl) :
    RG X T (.Assign [.Tuple [.Name x1 px, .Name x2 py] kt pt] (.Tuple [a, b] k2 pt2) pos :: rest) ds O := fun B0 H0 B H σ De hh dn =>
  ss_cons (ofS (ps_par hc hN hi hj hij hx hy (pa_cons peW (pa_cons peW pa_nil hs2) hs1) hw hs) (ha B H σ hh.go hh.sd _ fun v d B1 H1 g1 pd a1 => hb B1 H1 σ (g1.go hh.go) (hh.sd.grow g1) _ fun p vs l B2 H2 hp g2 hb2 pl h2 a2 =>
    ⟨_, _, rfl, hP d l pd pl B0 H0 B2 H2 _ De (((hh.grow g1).set i a1).setNew j hp g2 hb2 h2 a2) dn⟩))
/-- .. the first a new list -/
theorem rg_parLf {P : D → Prop} {R : List D → Prop} (i j : Nat) (ha : PLn X T a ds R) (hb : PN X T b ds P) (hN : X.N.Nodup) (hP : ∀ d l, P d → R l → RG X T rest ((ds.set i (.own l)).set j (.dat d)) O) (hij : i ≠ j := by decide) (hi : X.N[i]? = some x1 := by rfl) (hj : X.N[j]? = some x2 := by rfl)
    (hx : X.env.scope.names.lookup x1 = some .local := by rfl) (hy : X.env.scope.names.lookup x2 = some .local := by rfl) (hc : X.calm = true := by rfl) (hs1 : starEach [a, b] X.env = (false, eval a X.env) :: starEach [b] X.env := by exact se_of rfl) (hs2 : starEach [b] X.env = (false, eval b X.env) :: starEach [] X.env := by exact se_of rfl)
    (hw : swappedStores [.Tuple [.Name x1 px, .Name x2 py] kt pt] (.Tuple [a, b] k2 pt2) X.env = pure (some [x1, x2]) := by rfl) (hs : swapsWithSole [.Tuple [.Name x1 px, .Name x2 py] kt pt] (.Tuple [a, b] k2 pt2) pos.line X.env = pure false := by rfl) :
    RG X T (.Assign [.Tuple [.Name x1 px, .Name x2 py] kt pt] (.Tuple [a, b] k2 pt2) pos :: rest) ds O := fun B0 H0 B H σ De hh dn =>
  ss_cons (ofS (ps_par hc hN hi hj hij hx hy (pa_cons peW (pa_cons peW pa_nil hs2) hs1) hw hs) (ha B H σ hh.go hh.sd _ fun p vs l B1 H1 hp g1 hb1 pl h1 a1 => hb B1 H1 σ (g1.go hh.go) (hh.sd.grow g1) _ fun v d B2 H2 g2 pd a2 => by
    have hl := g2.gr.isl h1
    exact ⟨_, _, rfl, hP d l pd pl B0 H0 B2 H2 _ De ((hh.setNew i hp (g1.trans g2) (own_free g2 (by rw [h1]; nofun) hb1 (by rw [hl]; trivial)) hl (a1.mono g2.extN)).set j a2) dn⟩))
/-- three: the last a new list -/
theorem rg_par3L {P : List D → Prop} {R : List D → Prop} {c : Expr} (i j k : Nat) (hb : PLn X T c ds R) (hN : X.N.Nodup) (hP : ∀ l m, P l → R m → ∃ d1 d2, l = [d1, d2] ∧ RG X T rest (((ds.set i (.dat d1)).set j (.dat d2)).set k (.own m)) O)
    (hij : i ≠ j := by decide) (hik : i ≠ k := by decide) (hjk : j ≠ k := by decide) (hi : X.N[i]? = some x1 := by rfl) (hj : X.N[j]? = some x2 := by rfl) (hk : X.N[k]? = some x3 := by rfl)
    (hx : X.env.scope.names.lookup x1 = some .local := by rfl) (hy : X.env.scope.names.lookup x2 = some .local := by rfl) (hz : X.env.scope.names.lookup x3 = some .local := by rfl) (hc : X.calm = true := by rfl)
    (hs1 : starEach [a, b, c] X.env = (false, eval a X.env) :: starEach [b, c] X.env := by exact se_of rfl) (hs2 : starEach [b, c] X.env = (false, eval b X.env) :: starEach [c] X.env := by exact se_of rfl) (hs3 : starEach [c] X.env = (false, eval c X.env) :: starEach [] X.env := by exact se_of rfl)
    (hw : swappedStores [.Tuple [.Name x1 px, .Name x2 py, .Name x3 pz] kt pt] (.Tuple [a, b, c] k2 pt2) X.env = pure (some [x1, x2, x3]) := by rfl) (hs : swapsWithSole [.Tuple [.Name x1 px, .Name x2 py, .Name x3 pz] kt pt] (.Tuple [a, b, c] k2 pt2) pos.line X.env = pure false := by rfl)
    (hab : ∃ Pa Pb : D → Prop, PN X T a ds Pa ∧ PN X T b ds Pb ∧ ∀ d1 d2, Pa d1 → Pb d2 → P [d1, d2]) :
    RG X T (.Assign [.Tuple [.Name x1 px, .Name x2 py, .Name x3 pz] kt pt] (.Tuple [a, b, c] k2 pt2) pos :: rest) ds O := fun B0 H0 B H σ De hh dn => by
  obtain ⟨Pa, Pb, h1, h2, h3⟩ := hab
  exact ss_cons (ofS (ps_par3 hc hN hi hj hk hij hik hjk hx hy hz (pa_cons peW (pa_cons peW (pa_cons peW pa_nil hs3) hs2) hs1) hw hs) (h1 B H σ hh.go hh.sd _ fun v d B1 H1 g1 pd a1 => h2 B1 H1 σ (g1.go hh.go) (hh.sd.grow g1) _ fun u d' B2 H2 g2 pd' a2 =>
    hb B2 H2 σ (g2.go (g1.go hh.go)) ((hh.sd.grow g1).grow g2) _ fun p vs m B3 H3 hp g3 hb3 pm hl3 a3 => by
      obtain ⟨e1, e2, he, kk⟩ := hP _ m (h3 d d' pd pd') pm
      cases he
      exact ⟨_, _, _, rfl, kk B0 H0 B3 H3 _ De (((((hh.grow g1).set i a1).grow g2).set j a2).setNew k hp g3 hb3 hl3 a3) dn⟩))
end
end E
/-! sorted(list of data) -/
namespace E
open PySem PySem.Spec PyProof.Rows L2 LamX PySem.W
section
variable {X : Cx} {T : List (Addr × Str)} {e : Expr} {ds : List Sl} {xs : List D} {p pos : Pos}
/-- what is known of each item: its value, and what it reads as -/
theorem each_of_da {X : Cx} {pins : List (Addr × Obj)} {σ : L2.St} {H B : Hp} {s : Shared} (I : Inv X pins σ H s) (o : Go T B H) : ∀ {vs : List V} {xs : List D} {us : List Value}, DaAll X.K B vs xs → D.pls xs = true → Vals vs us →
    EachIs (fun (u : Value) (b : V × D) => L2.RelV b.1 u) us (vs.zip xs) ∧ EachIs (fun (u : Value) (b : V × D) => ∃ as, Reads s.heap u b.2.py as) us (vs.zip xs)
  | _, _, _, .nil, _, .nil => ⟨.nil, .nil⟩
  | _, _, _, .cons h t, hp, .cons r rs => by
    simp only [D.pls, Bool.and_eq_true] at hp
    obtain ⟨e1, e2⟩ := each_of_da I o t hp.2 rs
    exact ⟨.cons r e1, .cons (Dp.reads I _ _ _ (h.dp o.sub hp.1) r) e2⟩
theorem cr_sortedD (hu : X.A.units + 70 < cLine) (hp : D.pls xs = true) (hal : AllAlike (xs.map D.py)) (hk : Sortable (xs.map D.py)) (hdp : ∀ d ∈ xs, d.py.depth ≤ 64) : CallR X (.builtin "sorted") (fun zs H Q => ∃ a vs B, zs = [.ref a] ∧ Go T B H ∧ H a = some (.lst vs) ∧ DaAll X.K B vs xs ∧
    ∀ p ws, H p = none → DaAll X.K B ws (xs.mergeSort (dataLe false D.py)) → Q (.ref p) (upd H p (.lst ws))) := by
  intro pins s σ H zs us Q I r h
  obtain ⟨a, vs, B, rfl, o, ha, hda, q⟩ := h
  rw [Vals.ref1 r]
  obtain ⟨its, rv, pl, hz⟩ := I.list (.of ha)
  obtain ⟨e1, e2⟩ := each_of_da (T := T) I o hda hp rv
  obtain ⟨z1, z2, z3⟩ := daAll_zip hda
  have hzl : (vs.zip xs).length = its.length := e1.length.symm
  have hm : (vs.zip xs).map (fun b : V × D => b.2.py) = xs.map D.py := by
    have e := congrArg (List.map D.py) z2
    rw [List.map_map] at e
    exact e
  refine sorted_data (bs := vs.zip xs) (enc := fun b : V × D => b.2.py) (R := fun (u : Value) (b : V × D) => L2.RelV b.1 u) (vs := its) pl.isList e1 e2 (by rw [hm]; exact hal) (by rw [hm]; exact hk) (by rw [hzl, ← rv.length]; exact hz) (fun b hb => ?_) fun out hl ho => ?_
  · have hbx : b.2 ∈ xs := by rw [← z2]; exact List.mem_map_of_mem hb
    have := hdp _ hbx
    omega
  · obtain ⟨ep, he⟩ := sortedAll_at s.heap its (List.toArray out)
    have hv : Vals (((vs.zip xs).mergeSort (dataLe false fun b : V × D => b.2.py)).map (fun b => b.1)) out := vals_each ho
    have ln : (((vs.zip xs).mergeSort (dataLe false fun b : V × D => b.2.py)).map (fun b => b.1)).length ≤ sizeLine := by rw [List.length_map, List.length_mergeSort, hzl, ← rv.length]; exact hz
    refine ⟨.ref (s.heap.objs.size + 1), upd H (s.heap.objs.size + 1) (.lst (((vs.zip xs).mergeSort (dataLe false fun b : V × D => b.2.py)).map (fun b => b.1))), I.laid (t' := s.toks) (fun _ _ hb => sortedAll_old hb) (Nat.le_succ _) ⟨ln, out, ep, hv, he⟩, rfl, q _ _ (I.hok.fresh (Nat.le_succ _)) ?_⟩
    have d := daAll_of_pairs ((vs.zip xs).mergeSort (dataLe false fun b : V × D => b.2.py)) fun b hb => z3 b (List.mem_mergeSort.mp hb)
    have e3 : ((vs.zip xs).mergeSort (dataLe false fun b : V × D => b.2.py)).map (·.2) = xs.mergeSort (dataLe false D.py) := by
      rw [← z2, ← map_mergeSort (fun b : V × D => b.2) (dataLe false D.py)] <;> simp only [z2] <;> rfl
    rw [e3] at d
    exact d
theorem pl_sortedD (hm : X.mg "sorted" = none) (he : PD X T e ds (.lst xs)) (hu : X.A.units + 70 < cLine) (hp : D.pls xs = true) (hal : AllAlike (xs.map D.py)) (hk : Sortable (xs.map D.py)) (hdp : ∀ d ∈ xs, d.py.depth ≤ 64)
    (hg : Gl X "sorted" := by rfl) (hes : starEach [e] X.env = (false, eval e X.env) :: starEach [] X.env := by exact se_of rfl) (hpl : (backTo pos (starEach [] X.env)).any (·.1) = false := by rfl) :
    PL X T (.Call (.Name "sorted" p) [e] [] pos) ds (xs.mergeSort (dataLe false D.py)) := fun B H σ o s Q q =>
  ofE (pe_callB (cr_sortedD (T := T) hu hp hal hk hdp) hg hm (by decide +kernel) (pa_cons peW pa_nil hes) (by decide) (by decide) hes hpl) (he B H σ o s _ fun v B1 H1 g1 a => by
    cases a with
    | @lst b ws _ h1 h2 => exact ⟨b, ws, B1, rfl, g1.go o, (g1.go o).sub _ _ h1, h2, fun p ws' hp hw => q p ws' B1 _ (g1.gr.dom _ hp) (g1.trans ((g1.go o).ge (.new hp))) ((g1.go o).nb hp) upd_same hw⟩)
/-! rows of ints -/
abbrev tI (r : List Int) : D := .tup (r.map .int)
theorem pys_ints (r : List Int) : D.pys (r.map .int) = r.map PyData.int := by rw [pys_map, List.map_map]; rfl
theorem pls_ints (r : List Int) : D.pls (r.map .int) = true := by rw [pls_all]; simp [D.pl]
theorem py_tI (r : List Int) : (tI r).py = .tuple (r.map .int) := by show PyData.tuple _ = _; rw [pys_ints]
theorem dataLe_tups {β : Type} (x : β → List Int) : dataLe false (fun b => .tuple ((x b).map .int)) = fun p q => decide (x p ≤ x q) := by
  have h := dataLe_rows x
  rw [← h]
  funext p q
  show (!dataLt (.tuple _) (.tuple _)) = (!dataLt (.list _) (.list _))
  rw [dataLt_tuple, dataLt_list]
theorem alike_rows (rs : List (List Int)) : AllAlike ((rs.map tI).map D.py) := by
  rw [List.map_map]
  refine AllAlike.of fun r r' => ?_
  show alike (tI r).py (tI r').py = true
  rw [py_tI, py_tI]
  exact alike_ints r r'
theorem sortable_rows (rs : List (List Int)) (hne : ∀ r ∈ rs, r ≠ []) : Sortable ((rs.map tI).map D.py) := .inl fun d hd => by
  rw [List.map_map] at hd
  obtain ⟨r, hr, rfl⟩ := List.mem_map.mp hd
  show ∃ x r', (tI r).py = _
  rw [py_tI]
  cases r with
  | nil => exact absurd rfl (hne _ hr)
  | cons a r => exact ⟨_, _, rfl⟩
theorem depth_tI (r : List Int) : (tI r).py.depth ≤ 64 := by
  rw [py_tI, PyData.depth, depth_ints]; decide
theorem pl_sortedRows {rs : List (List Int)} (hm : X.mg "sorted" = none) (he : PD X T e ds (.lst (rs.map tI))) (hu : X.A.units + 70 < cLine) (hne : ∀ r ∈ rs, r ≠ [])
    (hg : Gl X "sorted" := by rfl) (hes : starEach [e] X.env = (false, eval e X.env) :: starEach [] X.env := by exact se_of rfl) (hpl : (backTo pos (starEach [] X.env)).any (·.1) = false := by rfl) :
    PL X T (.Call (.Name "sorted" p) [e] [] pos) ds ((rs.mergeSort fun a b => decide (a ≤ b)).map tI) := by
  have h := pl_sortedD (p := p) (pos := pos) hm he hu (by rw [pls_all]; simp [D.pl, pls_ints]) (alike_rows rs) (sortable_rows rs hne) (fun d hd => by
    obtain ⟨r, _, rfl⟩ := List.mem_map.mp hd
    exact depth_tI r) hg hes hpl
  rw [← map_mergeSort tI (dataLe false D.py)] at h
  have e1 : (fun a b : List Int => dataLe false D.py (tI a) (tI b)) = fun a b => decide (a ≤ b) := by
    rw [← dataLe_tups (fun r : List Int => r)]
    funext a b
    show (!dataLt (tI b).py (tI a).py) = (!dataLt _ _)
    rw [py_tI, py_tI]
  rw [e1] at h
  exact h
end
end E
/-! sorted(set(rows)), any ints -/
namespace E
open PySem PySem.Spec PyProof.Rows L2 LamX PySem.W
section
variable {w : World} {A : Around} {E : Value → Shared → Prop} {s : Shared} {P : Program}
abbrev Rw := Addr × List Int
theorem rw_reads {h : Heap} {q : Rw} (x : TS.TupInts h (.ref q.1) q.2) : Reads h (.ref q.1) (.tuple (q.2.map .int)) [] := by
  obtain ⟨a, xs, e, ⟨o, ho, hc, n, hd⟩, hi⟩ := x
  injection e with e
  subst e
  exact .tuple ho hc hd (IntsAre.reads _ hi)
/-- values that are addresses of members, in members -/
theorem back_rows {L : List Rw} : ∀ {vs : List Value}, (∀ v ∈ vs, v ∈ L.map fun q => Value.ref q.1) → ∃ M : List Rw, vs = M.map (fun q => Value.ref q.1) ∧ ∀ q ∈ M, q ∈ L
  | [], _ => ⟨[], rfl, by simp⟩
  | v :: vs, h => by
    obtain ⟨M, e, hM⟩ := back_rows (vs := vs) fun u hu => h u (List.mem_cons_of_mem _ hu)
    obtain ⟨q, hq, e2⟩ := List.mem_map.mp (h v List.mem_cons_self)
    exact ⟨q :: M, by rw [List.map_cons, ← e, e2], fun r hr => (List.mem_cons.mp hr).elim (fun z => z ▸ hq) (hM r)⟩
theorem each_rows {h : Heap} (R : Rw → Prop) : ∀ {M : List Rw}, (∀ q ∈ M, R q) → EachIs (fun (u : Value) (q : Rw) => u = .ref q.1 ∧ R q) (M.map fun q => Value.ref q.1) M
  | [], _ => .nil
  | q :: M, hM => .cons ⟨rfl, hM q List.mem_cons_self⟩ (each_rows (h := h) R fun r hr => hM r (List.mem_cons_of_mem _ hr))
theorem sorted_setD {a : Addr} {L : List Rw} {es : Array (Int × Value)} {ep : Nat} {t : SetTable} {Q : Value → Shared → Prop} (R : SetTR P w s.heap a L es ep t) (hh : A.handled = none) (hu : A.units + 70 < cLine) (hne : ∀ q ∈ L, q.2 ≠ [])
    (hQ : ∀ s' p (out : Array Value) (c : Nat) (M : List Rw), (∀ b o, s.heap.get? b = some o → s'.heap.get? b = some o) → s'.gens = s.gens → s'.os = s.os → s.heap.objs.size ≤ p →
      s'.heap.get? p = some (seqObj "list" out c) → out.toList = M.map (fun q => Value.ref q.1) → (M.map (·.2)).Nodup → (∀ q, q ∈ M ↔ q ∈ L) → M.Pairwise (fun q r => q.2 ≤ r.2) → M.length < 64 → Q (.ref p) s') : wpAny (model P w) A (call (.builtin "sorted") [.ref a]) Q E s := by
  have hob := R.ob
  obtain ⟨o, ho, hex, hd⟩ := hob
  have hfew := R.few
  have hsize := R.size
  refine Calls.call_function_entry kind_sorted plain_sorted entry_sorted (args_sorted1 _) ?_; unfold Builtin.«sorted»
  refine wpAny_bind (wpAny_pure ?_); refine wpAny_bind (collect_set (A := A.in1) hh ⟨o, ho, hex.1, hd⟩ R.fits (by unfold scanBound; omega) R.tab.ris R.led fun s1 vs k1 hz1 g1 o1 pm => ?_)
  have hrefs : es.toList.map (·.2) = L.map fun q => Value.ref q.1 := by rw [R.rows, L2.rowsOf, List.map_map]; rfl
  rw [hrefs] at pm
  obtain ⟨M0, rfl, hM0⟩ := back_rows (L := L) (vs := vs) fun v hv => pm.mem_iff.mp hv
  have len0 : M0.length = L.length := by have := pm.length_eq; simpa using this
  have uniq : ∀ q ∈ L, ∀ r ∈ L, q.1 = r.1 → q = r := fun q hq r hr e => Prod.ext e ((R.tup q hq).inj (by rw [e]; exact R.tup r hr))
  have mem0 : ∀ q, q ∈ M0 ↔ q ∈ L := fun q => ⟨hM0 q, fun hq => by
    obtain ⟨r, hr, e⟩ := List.mem_map.mp (pm.mem_iff.mpr (List.mem_map.mpr ⟨q, hq, rfl⟩))
    injection e with e
    rwa [← uniq r (hM0 r hr) q hq e]⟩
  have ndL : L.Nodup := nodup_of_map R.nd
  have nd0 : M0.Nodup := by
    have : (L.map fun q => Value.ref q.1).Nodup := List.pairwise_map.mpr (ndL.imp_of_mem fun {q r} hq hr n e => by
      injection e with e
      exact n (uniq q hq r hr e))
    exact nodup_of_map (pm.nodup_iff.mpr this)
  have perm0 : M0.Perm L := (List.perm_ext_iff_of_nodup nd0 ndL).mpr mem0
  refine wpAny_bind (wpAny_newList ?_ (by rw [List.length_map, len0, sizeLine_eq]; omega))
  generalize hh2 : s1.heap.push (seqObj "list" (M0.map fun q => Value.ref q.1).toArray 0) = h2
  have atL : h2.get? s1.heap.objs.size = some (seqObj "list" (M0.map fun q => Value.ref q.1).toArray 0) := by rw [← hh2]; exact Heap.get?_push_size _ rfl
  have old : ∀ b u, s.heap.get? b = some u → h2.get? b = some u := fun b u e => by rw [← hh2]; exact Heap.get?_push_of_some _ (k1 b u e)
  have rd : ∀ q ∈ M0, Reads h2 (.ref q.1) (.tuple (q.2.map .int)) [] := fun q hq => rw_reads (tupInts_of (isT_keep (R.tup q (hM0 q hq)) old))
  refine wpAny_bind (wpAny_holding (list_sort_data (s := { s1 with heap := h2 }) (bs := M0) (enc := fun q : Rw => .tuple (q.2.map .int)) (R := fun u q => u = Value.ref q.1 ∧ q ∈ M0) atL (each_rows (h := h2) (fun q => q ∈ M0) fun q hq => hq)
    ((each_rows (h := h2) (fun q => q ∈ M0) (M := M0) fun q hq => hq).mono fun u q ⟨e, hq⟩ => ⟨[], by rw [e]; exact rd q hq, by simp⟩) (AllAlike.of fun q r => alike_ints _ _) ?_ (by rw [len0, sizeLine_eq]; omega) (fun q hq => ?_) fun out hl ho2 => ?_))
  · refine .inl fun d hd => ?_
    rcases List.mem_map.mp hd with ⟨q, hq, rfl⟩
    cases e : q.2 with
    | nil => exact absurd e (hne q (hM0 q hq))
    | cons x r => exact ⟨_, _, rfl⟩
  · show A.in1.units + 1 + (PyData.tuple (q.2.map .int)).depth < cLine
    rw [PyData.depth, depth_ints]
    show A.units + 1 + 1 + (0 + 1) < cLine
    omega
  · obtain ⟨c, hc⟩ := sortedHeap_at (vs := M0.map fun q => Value.ref q.1) (out := List.toArray out) atL
    have eo : out = (M0.mergeSort (dataLe false fun q : Rw => .tuple (q.2.map .int))).map fun q => Value.ref q.1 := by
      clear hc hl
      generalize M0.mergeSort (dataLe false fun q : Rw => .tuple (q.2.map .int)) = N at ho2
      induction ho2 with
      | nil => rfl
      | cons h t ih => rw [h.1, ih]; rfl
    have hpm := List.mergeSort_perm M0 (dataLe false fun q : Rw => .tuple (q.2.map .int))
    refine wpAny_pure ⟨_, rfl, hQ _ s1.heap.objs.size _ c _ (fun b u e => ?_) g1 o1 hz1 hc eo ?_ (fun q => ?_) ?_ (by rw [hpm.length_eq, len0]; exact hfew)⟩
    · have q := k1 b u e
      have hlt := Heap.lt_size q
      show (sortedHeap h2 s1.heap.objs.size _ _).get? b = some u
      rw [sortedHeap_old (Nat.ne_of_lt hlt) (by rw [← hh2, size_push']; exact Nat.lt_succ_of_lt hlt)]
      exact old b u e
    · exact ((hpm.trans perm0).map (·.2)).nodup_iff.mpr R.nd
    · rw [hpm.mem_iff, mem0]
    · rw [dataLe_tups fun q : Rw => q.2]
      have := List.pairwise_mergeSort (le := fun p q : Rw => decide (p.2 ≤ q.2)) (fun a b c h1 h2 => by
        simp only [decide_eq_true_eq] at h1 h2 ⊢
        exact List.le_trans h1 h2) (fun a b => by
        simp only [Bool.or_eq_true, decide_eq_true_eq]
        exact List.le_total _ _) M0
      exact this.imp fun h => by simpa using h
end
section
variable {X : Cx} {T : List (Addr × Str)} {e : Expr} {ds : List Sl} {p p2 pos pos2 : Pos}
theorem cr_sortedSetD (hc : X.calm = true) (hu : X.A.units + 70 < cLine) : CallR X (.builtin "sorted") (fun zs H Q => ∃ a L, zs = [.ref a] ∧ H a = some (SetTO X.prog X.w a L) ∧ (∀ q ∈ L, SqT X.K H q.1 (q.2.map V.int)) ∧ (∀ q ∈ L, q.2 ≠ []) ∧
    ∀ (M : List Rw) (p : Addr), (M.map (·.2)).Nodup → (∀ q, q ∈ M ↔ q ∈ L) → M.Pairwise (fun q r => q.2 ≤ r.2) → H p = none → Q (.ref p) (upd H p (.lst (M.map fun q => V.ref q.1)))) := by
  intro pins s σ H zs us Q I r h
  obtain ⟨a, L, rfl, ha, hk, hne, q⟩ := h
  have R0 : SetT0 X.prog X.w s.heap a L := (I.hok a _ ha).1; obtain ⟨es, ep, t, R⟩ := R0.full fun p hp => I.isT (hk p hp)
  rw [Vals.ref1 r]
  refine sorted_setD R (I.ok.hd hc) hu hne fun s' p out c M k g o hp hg hout nd mem pw hfew => ?_
  have hn : H p = none := I.hok.fresh hp
  have J : Inv X pins σ (upd H p (.lst (M.map fun q => V.ref q.1))) { s with heap := s'.heap, gens := s'.gens, drawn := s'.drawn, toks := s'.toks } :=
    I.call (ch := []) (Un.laid k hp hn) (I.hok.laid k hp ⟨by rw [List.length_map, sizeLine_eq]; omega, out.toList, c, by rw [hout]; exact vals_of_refs M, hg⟩) (by rw [g]; exact I.bare) (fun _ z => nomatch z)
  have e : s' = { s with heap := s'.heap, gens := s'.gens, drawn := s'.drawn, toks := s'.toks } := by cases s'; cases s; cases o; rfl
  rw [e]
  exact ⟨.ref p, _, J, rfl, q M p nd mem pw hn⟩
theorem rows_inv {K : PySem.W.Frag} {B : Hp} : ∀ {vs : List V} {rs : List (List Int)}, DaAll K B vs (rs.map tI) → ∃ ks : List Rw, vs = ks.map (fun q => V.ref q.1) ∧ rs = ks.map (·.2) ∧ ∀ q ∈ ks, SqT K B q.1 (q.2.map V.int)
  | _, [], h => by cases h; exact ⟨[], rfl, rfl, by simp⟩
  | _, r :: rs, h => by
    cases h with
    | cons h t =>
      obtain ⟨ks, e1, e2, e3⟩ := rows_inv t
      cases h with
      | @tup a xs _ h1 h2 =>
        rw [daAll_ints_inv h2] at h1
        exact ⟨(a, r) :: ks, by rw [e1]; rfl, by rw [e2]; rfl, fun q hq => (List.mem_cons.mp hq).elim (fun z => by rw [z]; exact h1) (e3 q)⟩
theorem rows_mk {K : PySem.W.Frag} {B : Hp} : ∀ (ks : List Rw), (∀ q ∈ ks, SqT K B q.1 (q.2.map V.int)) → DaAll K B (ks.map fun q => V.ref q.1) ((ks.map (·.2)).map tI)
  | [], _ => .nil
  | q :: ks, h => .cons (.tup (h q List.mem_cons_self) (daAll_ints q.2)) (rows_mk ks fun r hr => h r (List.mem_cons_of_mem _ hr))
/-- sorted(set(xs)) of rows -/
theorem pln_sortedSetR {rs : List (List Int)} (hm : X.mg "sorted" = none) (hm2 : X.mg "set" = none) (he : PD X T e ds (.lst (rs.map tI))) (hu : X.A.units + 70 < cLine) (h64 : rs.length < 64) (hne : ∀ r ∈ rs, r ≠ []) (hc : X.calm = true := by rfl)
    (hg : Gl X "sorted" := by rfl) (hg2 : Gl X "set" := by rfl) (hs1 : starEach [e] X.env = (false, eval e X.env) :: starEach [] X.env := by exact se_of rfl)
    (hs2 : starEach [.Call (.Name "set" p2) [e] [] pos2] X.env = (false, eval (.Call (.Name "set" p2) [e] [] pos2) X.env) :: starEach [] X.env := by rfl) (hp1 : (backTo pos2 (starEach [] X.env)).any (·.1) = false := by rfl) (hp2 : (backTo pos (starEach [] X.env)).any (·.1) = false := by rfl) :
    PLn X T (.Call (.Name "sorted" p) [.Call (.Name "set" p2) [e] [] pos2] [] pos) ds (fun l => ∃ rs' : List (List Int), l = rs'.map tI ∧ rs'.Nodup ∧ (∀ r, r ∈ rs' ↔ r ∈ rs) ∧ rs'.Pairwise (· ≤ ·)) := fun B H σ o s Q q =>
  ofE (pe_callB (cr_sortedSetD hc hu) hg hm (by decide +kernel) (pa_cons (pe_callTy (cr_setOfT hc (by omega)) hg2 hm2 (by decide +kernel) (pa_cons peW pa_nil hs1) (by decide) (by decide) hs1 hp1) pa_nil hs2) (by decide) (by decide) hs2 hp2) (he B H σ o s _ fun v B1 H1 g1 a => by
    cases a with
    | @lst b ws _ h1 h2 =>
      have o1 := g1.go o
      obtain ⟨ks, e1, e2, e3⟩ := rows_inv h2
      subst e1 e2
      refine ⟨b, ks, rfl, .of (o1.sub _ _ h1), fun q hq => sqT_ext o1.extN (e3 q hq), by simpa using h64, fun a L hn hs hall => ?_⟩
      have gr2 : Gr T H1 (upd H1 a (SetTO X.prog X.w a L)) := .new hn
      have o2 := o1.grow gr2
      refine ⟨a, L, rfl, upd_same, fun q hq => sqT_ext o2.extN (e3 q (hs q hq)), fun q hq => hne _ (List.mem_map_of_mem (hs q hq)), fun M pp nd mem pw hn2 => ?_⟩
      refine q pp _ ((M.map (·.2)).map tI) B1 _ (g1.gr.dom _ (gr2.dom _ hn2)) (g1.trans (o1.ge (gr2.trans (.new hn2)))) (o2.nb hn2) ⟨_, rfl, nd, fun r => ?_, List.pairwise_map.mpr pw⟩ upd_same (rows_mk M fun q hq => e3 q (hs q ((mem q).mp hq)))
      constructor
      · intro hr
        obtain ⟨q, hq, rfl⟩ := List.mem_map.mp hr
        exact List.mem_map_of_mem (hs q ((mem q).mp hq))
      · intro hr
        obtain ⟨q, hq, rfl⟩ := List.mem_map.mp hr
        obtain ⟨r, hr, e⟩ := List.mem_map.mp (hall q hq)
        rw [← e]
        exact List.mem_map_of_mem ((mem r).mpr hr))
end
end E
/-! sorted(set(ints)) -/
namespace E
open PySem PySem.Spec PyProof.Rows L2 LamX PySem.W
/-- an empty set, as the model makes it -/
abbrev eSet (w : World) : Obj := { cls := .type "set", dict := none, data := .set #[] 0 (.fresh 0 0 (!w.params.followText "set-order")) }
abbrev lIt (l : Addr) : Obj := { cls := .type "list_iterator", data := .fields #[.ref l, .int 0 0] }
section
variable {w : World} {A : Around} {E : Value → Shared → Prop} {s : Shared} {P : Program}
theorem call_set_listI {l : Addr} {items : Array Value} (ns : List Int) {Q : Value → Shared → Prop} (hh : A.handled = none) (hl : s.heap.IsList l items) (hit : IntsAre items.toList ns) (hb : ns.length + 1 < scanBound)
    (k : ∀ (h' : Heap) (tk c : Nat), SetR w h' s.heap.objs.size (fun j => decide (j ∈ ns)) c → c ≤ ns.length → (∀ b o, s.heap.get? b = some o → h'.get? b = some o) → Q (.ref s.heap.objs.size) { s with heap := h', toks := tk }) : wpAny (model P w) A (call (.type "set") [.ref l]) Q E s := by
  have szn : items.size = ns.length := by rw [← Array.length_toList]; exact IntsAre.length hit
  have ⟨c, tl, hmro⟩ := F.called_set.mro
  have mk := F.called_set.made
  have sb := F.called_set.sub
  refine wpAny_call (codeAny_of_tree ?_); show wpAny _ _ (callAny (.type "set") ⟨[.ref l], []⟩) _ _ _
  refine wpAny_pure ⟨Code.quiet_builtin _ (by decide +kernel), codeAny_builtin F.entry_type_call ?_⟩; rw [Around.under_plain (weight_type_call_type "set" [Value.ref l] []) rfl]
  have f1 := F.called_set.notType
  have f2 := F.called_set.canCreate
  have f3 := F.typeCall_set_1 (.ref l)
  repeat any_goals (first | wp_step | assumption)

  generalize hS0 : s.heap.push (eSet w) = hS
  have atS : hS.get? s.heap.objs.size = some (eSet w) := by rw [← hS0]; exact Heap.get?_push_size _ rfl
  have oldS : ∀ b o, s.heap.get? b = some o → hS.get? b = some o := fun b o e => by rw [← hS0]; exact Heap.get?_push_of_some _ e
  have szS : hS.objs.size = s.heap.objs.size + 1 := by rw [← hS0, Heap.size_push]
  refine codeAny_mono (code_set_led1 (.ref l) (E := E) (Q₁ := fun ob s₁ => ob = .ref s.heap.objs.size ∧ s₁ = { s with heap := hS }) ⟨rfl, by rw [← hS0]⟩) fun r s₁ hr => ?_
  cases r with
  | error e => exact hr
  | ok fl =>
    cases fl with
    | ret ob =>
      obtain ⟨rfl, rfl⟩ := hr
      have tyS : Shared.TypeIs { s with heap := hS } (.ref s.heap.objs.size) "set" := ⟨_, atS, rfl⟩
      have g1 := F.called_set.init.lookup
      have g2 := F.called_set.init.bind (.ref s.heap.objs.size)
      repeat any_goals (first | wp_step | assumption)

      refine codeAny_mono (codeAny_call_builtin (R := wants (fun r s₂ => r = .none ∧ ∃ h' tk c, s₂ = { s with heap := h', toks := tk } ∧ SetR w h' s.heap.objs.size (fun j => decide (j ∈ ns)) c ∧ c ≤ ns.length ∧ ∀ b o, s.heap.get? b = some o → h'.get? b = some o) E)
        F.called_set.init.plain F.entry_set_init (check_set_init_1 tyS ?_)) fun r₂ s₂ hr₂ => ?_
      · have ltl : l < s.heap.objs.size := by obtain ⟨o, ho, _⟩ := hl; exact Heap.lt_size ho
        have hlS : hS.IsList l items := hl.at fun o e => oldS l o e
        obtain ⟨⟨oc, od, oda, osl⟩, hol, hcl, nl, hdl⟩ := id hlS
        simp only at hcl hdl
        subst hcl; subst hdl
        have u1 := F.sub_list_set
        have u2 := F.sub_list_frozenset
        have u3 : (Value.type "list" == Value.type "dict") = false := by decide
        unfold Builtin.«set.__init__» noKeywords Builtin.Frozenset.updateFrom; generalize hPI : pyIter = PI
        wp_walk
        subst hPI

        refine wpAny_pyIter_list hlS ?_
        refine wpAny_bind (wpAny_runValue ?_); have nIl : l ≠ hS.objs.size := by rw [szS]; exact Nat.ne_of_lt (Nat.lt_succ_of_lt ltl)
        have nS : s.heap.objs.size ∉ [hS.objs.size, l] := by
          rw [szS]
          simp only [List.mem_cons, List.not_mem_nil, or_false, not_or]
          exact ⟨Nat.ne_of_lt (Nat.lt_succ_self _), Nat.ne_of_gt ltl⟩
        refine set_update_ints ((Walks.list (A := A.in1.in1.in1) (by simp [hh]) _ l nIl items).toS) s.heap.objs.size nS ns szn hb (fun i v hv => ?_) (items.size - 0) 0 _ (by omega) (Nat.zero_le _)
          ⟨⟨_, Heap.get?_push_size _ rfl, rfl, rfl⟩, hlS.at fun o e => Heap.get?_push_of_some _ e⟩ ⟨0, Nat.le_refl 0, setR_new_at (Heap.get?_push_of_some (lIt l) atS)⟩ ?_
        · have hi : i < ns.length := by rw [← szn]; exact (Array.getElem?_eq_some_iff.mp hv).1
          obtain ⟨t, e⟩ := PyProof.Rows.IntsAre.int_at hit i v (by rw [Array.getElem?_toList]; exact hv); exact ⟨ns[i], t, List.getElem?_eq_getElem hi, by rw [e, List.getD_eq_getElem?_getD, List.getElem?_eq_getElem hi]; rfl⟩
        · rintro ⟨h', g', d', tk', os'⟩ c' hm hc' hS'
          obtain rfl : g' = s.gens := hm.gens
          obtain rfl : d' = s.drawn := hm.drawn
          obtain rfl : os' = s.os := hm.os
          show wpAny _ _ _ _ _ _
          refine wpAny_pure ?_
          show wpAny _ _ (ret Value.none) _ _ _
          refine wpAny_pure ⟨rfl, h', tk', c', rfl, hS', by rw [← szn]; exact hc', fun b o e => ?_⟩
          have lb : b < s.heap.objs.size := Heap.lt_size e
          refine hm.heap b o ?_ (Heap.get?_push_of_some _ (oldS b o e))
          simp only [List.mem_cons, List.not_mem_nil, or_false, not_or]
          exact ⟨Nat.ne_of_lt lb, by rw [szS]; exact Nat.ne_of_lt (Nat.lt_succ_of_lt lb)⟩
      · cases r₂ with
        | error e => exact hr₂
        | ok fl₂ =>
          cases fl₂ with
          | ret r =>
            rcases hr₂ with ⟨rfl, h', tk, c', rfl, hS', hc', hk'⟩
            repeat any_goals (first | wp_step | assumption)
            exact k _ _ _ hS' hc' hk'
          | _ => exact hr₂.elim
    | _ => exact hr.elim
end
section
variable {X : Cx} {T : List (Addr × Str)} {e : Expr} {ds : List Sl} {p p2 pos pos2 : Pos}
theorem cr_setI (hc : X.calm = true) : CallR X (.type "set") (fun zs H Q => ∃ (l : Addr) (ns : List Int), zs = [.ref l] ∧ SqL X.K H l (ns.map V.int) ∧ ns.length ≤ 1000 ∧ ∀ a c, H a = none → c ≤ ns.length → Q (.ref a) (upd H a (SetO X.w a (fun j => decide (j ∈ ns)) c))) := by
  intro pins s σ H zs us Q I r h
  obtain ⟨l, ns, rfl, hl, hf, q⟩ := h
  rw [Vals.ref1 r]
  rcases I.list hl with ⟨its, rv, pl, hz⟩
  refine call_set_listI (P := X.prog) (w := X.w) ns (I.ok.hd hc) pl.isList (by simpa using rv.ints) (by unfold scanBound; omega) fun h' tk c R hc kp => ?_
  exact ⟨.ref s.heap.objs.size, _, I.laid (t' := tk) kp (Nat.le_refl _) (setO_new R), rfl, q _ c (I.hok.fresh (Nat.le_refl _)) hc⟩
/-- sorted(set(xs)) of ints -/
theorem pln_sortedSetI {ns : List Int} (hm : X.mg "sorted" = none) (hm2 : X.mg "set" = none) (he : PD X T e ds (.lst (ns.map .int))) (h64 : ns.length < 64) (hc : X.calm = true := by rfl)
    (hg : Gl X "sorted" := by rfl) (hg2 : Gl X "set" := by rfl) (hs1 : starEach [e] X.env = (false, eval e X.env) :: starEach [] X.env := by exact se_of rfl)
    (hs2 : starEach [.Call (.Name "set" p2) [e] [] pos2] X.env = (false, eval (.Call (.Name "set" p2) [e] [] pos2) X.env) :: starEach [] X.env := by rfl) (hp1 : (backTo pos2 (starEach [] X.env)).any (·.1) = false := by rfl) (hp2 : (backTo pos (starEach [] X.env)).any (·.1) = false := by rfl) :
    PLn X T (.Call (.Name "sorted" p) [.Call (.Name "set" p2) [e] [] pos2] [] pos) ds (fun l => ∃ ms : List Int, l = ms.map .int ∧ ms.Pairwise (· < ·) ∧ ∀ m, m ∈ ms ↔ m ∈ ns) := fun B H σ o s Q q =>
  ofE (pe_callB (cr_sortedSet hc) hg hm (by decide +kernel) (pa_cons (pe_callTy (cr_setI hc) hg2 hm2 (by decide +kernel) (pa_cons peW pa_nil hs1) (by decide) (by decide) hs1 hp1) pa_nil hs2) (by decide) (by decide) hs2 hp2) (he B H σ o s _ fun v B1 H1 g1 a => by
    cases a with
    | @lst b ws _ h1 h2 =>
      have o1 := g1.go o
      rw [daAll_ints_inv h2] at h1
      refine ⟨b, ns, rfl, .of (o1.sub _ _ h1), by omega, fun a c hn hcl => ?_⟩
      have gr2 : Gr T H1 (upd H1 a (SetO X.w a (fun j => decide (j ∈ ns)) c)) := .new hn
      have o2 := o1.grow gr2
      refine ⟨a, _, c, rfl, upd_same, by omega, fun ms pp pw mem len hn2 => ?_⟩
      exact q pp _ (ms.map .int) B1 _ (g1.gr.dom _ (gr2.dom _ hn2)) (g1.trans (o1.ge (gr2.trans (.new hn2)))) (o2.nb hn2) ⟨ms, rfl, pw, fun m => (mem m).trans (by simp)⟩ upd_same (daAll_ints ms))
end
end E
/-! comprehensions over known items -/
namespace E
open LamX L2 PyProof.Rows PySem PySem.Spec
theorem Paired.snoc' {α β : Type} {R : α → β → Prop} {x : α} {y : β} (h : R x y) : ∀ {xs : List α} {ys : List β}, Paired R xs ys → Paired R (xs ++ [x]) (ys ++ [y])
  | _, _, .nil => .cons h .nil
  | _, _, .cons r t => .cons r (Paired.snoc' h t)
section
variable {X : Cx} {T : List (Addr × Str)} {e elt tg iter : Expr} {ifs : List Expr} {scope : Scope} {own : List (Str × Nat)} {pos : Pos} {ds : List Sl} {pat : Pat}
theorem PLn.pl {l0 : List D} (h : PLn X T e ds (fun l => l = l0)) : PL X T e ds l0 := fun B H σ o s Q q => h B H σ o s Q fun p vs d B2 H2 hp g hb pd h2 a => by subst pd; exact q p vs B2 H2 hp g hb h2 a
theorem PLc.pl {l0 : List D} (h : PLc X T e ds (fun l => l = l0)) : PL X T e ds l0 := h.pln.pl
theorem PLc.imp {P P' : List D → Prop} (h : PLc X T e ds P) (hp : ∀ d, P d → P' d) : PLc X T e ds P' := by
  obtain ⟨t, h1, h2, h3⟩ := h
  exact ⟨t, h1, h2, fun B H σ o s Q q => h3 B H σ o s Q fun p vs d B2 H2 a1 a2 a3 a4 a5 a6 => q p vs d B2 H2 a1 a2 a3 (hp d a4) a5 a6⟩
/-- [elt for tg in iter if ..] over items that are known: filtered by t, each to g -/
theorem plc_fm {α : Type} {xs : List α} {it g : α → D} {t : α → Bool} (hsrc : Src X T tg iter ds (xs.map it)) (hp : inBlk X scope fun Y => PatOk Y tg pat) (ok : BlkOk X.N X.env.scope scope own) (hN : X.N.Nodup) (hn : xs.length ≤ sizeLine)
    (hstep : ∀ a ∈ xs, ∃ ds', pat.bind (it a) (wipeD ds (own.map (·.2))) = some ds' ∧ IfsB X scope T ifs ds' (t a) ∧ (t a = true → inBlk X scope fun Y => PD Y T elt ds' (g a)))
    (hsl : ∀ i ∈ pat.slots, i ∈ own.map (·.2) := by decide) (hi1 : ifs.length ≤ 1 := by decide) (hc : X.calm = true := by rfl) (hs : ∀ x, foldedSetIterable iter X.env x = pure x := by intro _; rfl) :
    PLc X T (.ListComp elt [⟨tg, iter, ifs, 0⟩] scope pos) ds (fun l => l = (xs.filter t).map g) := by
  refine plc_lc (fun i items acc => acc = ((xs.take i).filter t).map g) hsrc hp ok hN hsl (fun _ _ => rfl) (fun items i d acc hi hd ha => ?_) (fun items acc hi ha => ?_) hi1 hc hs
  · subst hi ha
    rw [List.getElem?_map] at hd
    obtain ⟨a, ha, rfl⟩ := Option.map_eq_some_iff.mp hd
    obtain ⟨ds', h1, h2, h3⟩ := hstep a (List.mem_of_getElem? ha)
    have hlt : i < xs.length := (List.getElem?_eq_some_iff.mp ha).1
    refine ⟨ds', h1, t a, h2, fun e => ⟨fun s H C cl fp => (h3 e s H C cl fp).pn ?_, ?_⟩, fun e => ?_⟩
    · rw [List.take_add_one, ha, List.filter_append]
      simp [e]
    · have : (((xs.take i).filter t).map g).length ≤ i := by
        rw [List.length_map]
        exact Nat.le_trans (List.length_filter_le _ _) (by rw [List.length_take]; omega)
      omega
    · rw [List.take_add_one, ha, List.filter_append]
      simp [e]
  · subst hi ha
    simp
/-- .. each that comes to some data -/
theorem plc_fmN {α : Type} {xs : List α} {it : α → D} {R : α → D → Prop} {t : α → Bool} (hsrc : Src X T tg iter ds (xs.map it)) (hp : inBlk X scope fun Y => PatOk Y tg pat) (ok : BlkOk X.N X.env.scope scope own) (hN : X.N.Nodup) (hn : xs.length ≤ sizeLine)
    (hstep : ∀ a ∈ xs, ∃ ds', pat.bind (it a) (wipeD ds (own.map (·.2))) = some ds' ∧ IfsB X scope T ifs ds' (t a) ∧ (t a = true → inBlk X scope fun Y => PN Y T elt ds' (R a)))
    (hsl : ∀ i ∈ pat.slots, i ∈ own.map (·.2) := by decide) (hi1 : ifs.length ≤ 1 := by decide) (hc : X.calm = true := by rfl) (hs : ∀ x, foldedSetIterable iter X.env x = pure x := by intro _; rfl) :
    PLc X T (.ListComp elt [⟨tg, iter, ifs, 0⟩] scope pos) ds (fun l => Paired R (xs.filter t) l) := by
  refine plc_lc (fun i items acc => Paired R ((xs.take i).filter t) acc) hsrc hp ok hN hsl (fun _ _ => .nil) (fun items i d acc hi hd ha => ?_) (fun items acc hi ha => ?_) hi1 hc hs
  · subst hi
    rw [List.getElem?_map] at hd
    obtain ⟨a, ha', rfl⟩ := Option.map_eq_some_iff.mp hd
    obtain ⟨ds', h1, h2, h3⟩ := hstep a (List.mem_of_getElem? ha')
    have hlt : i < xs.length := (List.getElem?_eq_some_iff.mp ha').1
    refine ⟨ds', h1, t a, h2, fun e => ⟨fun s H C cl fp => (h3 e s H C cl fp).imp fun d hd => ?_, ?_⟩, fun e => ?_⟩
    · rw [List.take_add_one, ha', List.filter_append]
      simp only [Option.toList_some, List.filter_cons, e, if_true, List.filter_nil]
      exact Paired.snoc' hd ha
    · have : acc.length ≤ i := by
        rw [← Paired.length ha]
        exact Nat.le_trans (List.length_filter_le _ _) (by rw [List.length_take]; omega)
      omega
    · rw [List.take_add_one, ha', List.filter_append]
      simpa [e] using ha
  · subst hi
    simpa using ha
end
end E
/-! the questions, plainly; the machine's states -/
namespace E
open PySem L2
structure Atom where
  has : Bool
  name : Str
  own : List Str
structure Qn where
  cols : List Str
  atoms : List Atom
  ranges : List (Str × Option Int × Option Int)
def oi : Option Int → D
  | none => .non
  | some i => .int i
def os : Option Str → D
  | none => .non
  | some i => .str i
abbrev tS (l : List Str) : D := .tup (l.map .str)
abbrev fS (l : List Str) : D := .ftp (l.map .str)
def dN (l : List Nat) : List D := l.map fun n : Nat => .int (n : Int)
abbrev tN (l : List Nat) : D := .tup (dN l)
def Atom.d (a : Atom) : D := .tup [.str (if a.has then "has" else "not"), .str a.name, fS a.own]
def rngD (r : Str × Option Int × Option Int) : D := .tup [.str r.1, oi r.2.1, oi r.2.2]
def Qn.d (q : Qn) : D := .tup [fS q.cols, .tup (q.atoms.map Atom.d), .tup (q.ranges.map rngD)]
def Qn.at (q : Qn) (i : Nat) : Atom := q.atoms.getD i ⟨false, "", []⟩
def Qn.atomsOf (q : Qn) (c : Str) : List Nat := (List.range q.atoms.length).filter fun i => decide (c ∈ (q.at i).own)
def Qn.rangeOf (q : Qn) (c : Str) : Option Int × Option Int := match q.ranges.find? (fun r => decide (r.1 = c)) with
  | some r => r.2
  | none => (none, none)
def Qn.isAbove (q : Qn) (a b : Str) : Bool := if q.atomsOf a = q.atomsOf b then decide (q.cols.idxOf a < q.cols.idxOf b) else (q.atomsOf b).all fun i => decide (i ∈ q.atomsOf a)
def Qn.above (q : Qn) (c : Str) : List Str := q.cols.filter fun a => q.isAbove a c
def Qn.path (q : Qn) (c : Str) : List Str := ((q.above c).mergeSort fun a b => decide ((q.above a).length ≤ (q.above b).length)) ++ [c]
def Qn.parent (q : Qn) (c : Str) : Option Str := (q.path c).dropLast.getLast?
def Qn.kids (q : Qn) (c : Option Str) : List Str := q.cols.filter fun d => decide (q.parent d = c)
def Qn.way (q : Qn) (i : Nat) : List Str := (q.at i).own.mergeSort fun a b => decide ((q.path a).length ≤ (q.path b).length)
def Qn.last (q : Qn) (i : Nat) : Str := (q.way i).getLastD ""
def Qn.thru (q : Qn) (c : Str) : List Nat := (q.atomsOf c).filter fun i => (q.at i).has
def Qn.ends (q : Qn) (c : Str) : List Nat := (q.atomsOf c).filter fun i => !(q.at i).has && decide (q.last i = c)
/-- what the code needs of a question, so as to run -/
structure Gd (q : Qn) : Prop where
  own : ∀ a ∈ q.atoms, a.own ≠ [] ∧ ∀ c ∈ a.own, c ∈ q.cols
  sc : q.cols.length ≤ 1000
  sa : q.atoms.length ≤ 1000
  so : ∀ a ∈ q.atoms, a.own.length ≤ 1000

/-- tables: name, arity, rows -/
abbrev Tbs := List (Str × Nat × List (List Int))
def tbD (t : Nat × List (List Int)) : D := .tup [.int (t.1 : Int), .tup (t.2.map tI)]
def tbsD (tb : Tbs) : D := .dic (tb.map fun t => (t.1, tbD t.2))
def rowsIn (tb : Tbs) (n : Str) : List (List Int) := match tb.find? (fun t => decide (t.1 = n)) with
  | some t => t.2.2
  | none => []
def rowsOf (q : Qn) (tb : Tbs) (i : Nat) : List (List Int) :=
  ((rowsIn tb (q.at i).name).map fun r => (q.way i).map fun c => r.getD ((q.at i).own.idxOf c) 0).mergeSort fun a b => decide (a ≤ b)
/-- .. of the tables -/
structure GT (q : Qn) (tb : Tbs) : Prop where
  has : ∀ a ∈ q.atoms, ∃ t ∈ tb, t.1 = a.name
  row : ∀ a ∈ q.atoms, ∀ r ∈ rowsIn tb a.name, r.length = a.own.length
  few : ∀ a ∈ q.atoms, (rowsIn tb a.name).length ≤ 1000
  nd : (tb.map (·.1)).Nodup
inductive Its where
  | there | away | gap (lo hi : Option Int)
def Its.d : Its → D
  | .there => .tup [.str "there"]
  | .away => .tup [.str "away"]
  | .gap lo hi => .tup [.str "gap", oi lo, oi hi]
inductive Look where
  | at3 (a : Nat) (p : List Int) (x : Option Int) | row (a : Nat) (r : List Int)
def Look.d : Look → D
  | .at3 a p x => .tup [.int (a : Int), tI p, oi x]
  | .row a r => .tup [.int (a : Int), tI r]
def valsBehind (rows : List (List Int)) (p : List Int) : List Int := (rows.filter fun r => decide (r.take p.length = p)).map fun r => r.getD p.length 0
def near (rows : List (List Int)) (p : List Int) : Option Int → Bool × Option Int × Option Int
  | none => (false, none, (valsBehind rows p).head?)
  | some x => (decide (x ∈ valsBehind rows p), ((valsBehind rows p).filter fun v => decide (v < x)).getLast?, ((valsBehind rows p).filter fun v => decide (x < v)).head?)
def tell (R : Nat → List (List Int)) : Look → Its
  | .row a r => if r ∈ R a then .there else .away
  | .at3 a p x => if (near (R a) p x).1 then .there else .gap (near (R a) p x).2.1 (near (R a) p x).2.2

/-! the machine -/
structure Gap where
  a : Nat
  lo : Option Int
  hi : Option Int
def Gap.d (g : Gap) : D := .tup [.int (g.a : Int), oi g.lo, oi g.hi]
def goD : Option Gap → D
  | none => .non
  | some g => g.d
structure Lv where
  gaps : List Gap
  vals : List (Int × D)
  br : List (Int × D)
def pD (p : Int × D) : D := .tup [.int p.1, p.2]
def Lv.d (l : Lv) : D := .tup [.tup (l.gaps.map Gap.d), .tup (l.vals.map pD), .tup (l.br.map pD)]
def Lv.d2 (l : Lv) : D := .tup [.tup (l.gaps.map Gap.d), .tup (l.vals.map pD)]
def Lv.put (l : Lv) (x : Int) (what : D) : D → Lv
  | .non => ⟨l.gaps, l.vals ++ [(x, what)], l.br⟩
  | s => ⟨l.gaps, l.vals ++ [(x, what)], l.br ++ [(x, s)]⟩
def Lv.sz (l : Lv) : Nat := l.gaps.length + l.vals.length + l.br.length
mutual
inductive Cst where
  | has (col : Str) (pre : List Int) (x : Option Int) (place : Nat) (best : Option Gap) (lv : Lv)
  | no (col : Str) (pre : List Int) (x : Int) (place : Nat) (lv : Lv)
  | low (col : Str) (pre : List Int) (x : Int) (lv : Lv) (inner : Sst)
  | fin (col : Str) (pre : List Int) (lv : Lv)
inductive Sst where
  | fin (shape paper : D)
  | run (i : Nat) (parts : List Cst)
end
mutual
def Cst.d : Cst → D
  | .has c p x i b lv => .tup [.str c, tI p, oi x, .str "has", .int (i : Int), goD b, lv.d, .non]
  | .no c p x i lv => .tup [.str c, tI p, .int x, .str "not", .int (i : Int), .non, lv.d, .non]
  | .low c p x lv s => .tup [.str c, tI p, .int x, .str "below", .int 0, .non, lv.d, s.d]
  | .fin c p lv => .tup [.str c, tI p, .non, .str "ended", .int 0, .non, lv.d, .non]
def Sst.d : Sst → D
  | .fin s p => .tup [.str "ended", s, p]
  | .run i ps => .tup [.str "turn", .int (i : Int), .tup (Cst.ds ps)]
def Cst.ds : List Cst → List D
  | [] => []
  | c :: cs => c.d :: Cst.ds cs
end
theorem cds_map (l : List Cst) : Cst.ds l = l.map Cst.d := by
  induction l with
  | nil => rfl
  | cons c l ih => simp [Cst.ds, ih]
def Cst.lv : Cst → Lv
  | .has _ _ _ _ _ l => l
  | .no _ _ _ _ l => l
  | .low _ _ _ l _ => l
  | .fin _ _ l => l
def Cst.col : Cst → Str
  | .has c _ _ _ _ _ => c
  | .no c _ _ _ _ => c
  | .low c _ _ _ _ => c
  | .fin c _ _ => c
def Cst.done : Cst → Bool
  | .fin _ _ _ => true
  | _ => false
def Qn.going (q : Qn) (c : Str) (p : List Int) : Option Int → Lv → Cst
  | none, lv => .fin c p lv
  | some v, lv => match (q.rangeOf c).2 with
    | some h => if h < v then .fin c p lv else .has c p (some v) 0 none lv
    | none => .has c p (some v) 0 none lv
def Qn.start (q : Qn) (p : List Int) (c : Str) : Cst := .has c p (q.rangeOf c).1 0 none ⟨[], [], []⟩
def Qn.sibs (q : Qn) (cols : List Str) (p : List Int) : Sst := if cols = [] then .fin (.tup []) (.tup [.str "all", .tup []]) else .run 0 (cols.map (q.start p))
/-- behind the inner run's new state -/
def Qn.onto (q : Qn) (c : Str) (p : List Int) (x : Int) (lv : Lv) : Sst → Cst
  | .fin s w => q.going c p (some (x + 1)) (lv.put x w s)
  | st => .low c p x lv st
def Qn.below (q : Qn) (c : Str) (p : List Int) (x : Int) (lv : Lv) : Cst := q.onto c p x lv (q.sibs (q.kids (some c)) (p ++ [x]))
def farther (best : Option Gap) (a : Nat) : Its → Option Gap
  | .gap lo hi => match best with
    | none => some ⟨a, lo, hi⟩
    | some b => match b.hi, hi with
      | none, _ => some b
      | some _, none => some ⟨a, lo, hi⟩
      | some y, some z => if y < z then some ⟨a, lo, hi⟩ else some b
  | _ => best
/-- behind the last has look: best is there, or none -/
def Qn.hasEnd (q : Qn) (c : Str) (p : List Int) (lv : Lv) : Option Int → Option Gap → Cst
  | _, some b => q.going c p b.hi ⟨lv.gaps ++ [b], lv.vals, lv.br⟩
  | some x, none => if q.ends c = [] then q.below c p x lv else .no c p x 0 lv
  | none, none => .fin c p lv
/-- what all the steps need -/
structure StOk (q : Qn) (c : Str) (p : List Int) (lv : Lv) : Prop where
  gd : Gd q
  hc : c ∈ q.cols
  lv : lv.sz ≤ 1000000
  hp : p.length ≤ 1000
inductive CB (q : Qn) (SB : Sst → Its → Sst → Prop) : Cst → Its → Cst → Prop
  | hasGo (c p x i b lv its) : StOk q c p lv → i + 1 < (q.thru c).length → CB q SB (.has c p x i b lv) its (.has c p x (i + 1) (farther b ((q.thru c).getD i 0) its) lv)
  | hasEnd (c p x i b lv its) : StOk q c p lv → i + 1 = (q.thru c).length → (x = none → farther b ((q.thru c).getD i 0) its ≠ none) → CB q SB (.has c p x i b lv) its (q.hasEnd c p lv x (farther b ((q.thru c).getD i 0) its))
  | noRow (c p x i lv) : StOk q c p lv → i < (q.ends c).length → CB q SB (.no c p x i lv) .there (q.going c p (some (x + 1)) (lv.put x (.tup [.str "row", .int (((q.ends c).getD i 0 : Nat) : Int)]) .non))
  | noGo (c p x i lv its) : StOk q c p lv → its ≠ .there → i + 1 < (q.ends c).length → CB q SB (.no c p x i lv) its (.no c p x (i + 1) lv)
  | noEnd (c p x i lv its) : StOk q c p lv → its ≠ .there → i + 1 = (q.ends c).length → CB q SB (.no c p x i lv) its (q.below c p x lv)
  | low (c p x lv s its s') : StOk q c p lv → SB s its s' → CB q SB (.low c p x lv s) its (q.onto c p x lv s')
/-- which part is next -/
def nextIx (i : Nat) (parts : List Cst) : Option Nat := (((List.range (parts.length - (i + 1))).map (fun j => i + 1 + j) ++ List.range (i + 1)).filter fun j => match parts[j]? with
  | some c => !c.done
  | none => false).head?
def after (i : Nat) (parts : List Cst) : Sst := match parts[i]? with
  | some c => if c.done && c.lv.br.isEmpty then .fin .non (.tup [.str "one", .int (i : Int), c.lv.d2]) else match nextIx i parts with
    | some j => .run j parts
    | none => .fin (.tup (parts.map fun c => .tup (c.lv.br.map pD))) (.tup [.str "all", .tup (parts.map fun c => c.lv.d2)])
  | none => .run i parts
inductive SB1 (q : Qn) (C : Cst → Its → Cst → Prop) : Sst → Its → Sst → Prop
  | mk (i parts c its c') : parts.length ≤ 1000 → parts[i]? = some c → C c its c' → SB1 q C (.run i parts) its (after i (parts.set i c'))
def SBn (q : Qn) : Nat → Sst → Its → Sst → Prop
  | 0 => fun _ _ _ => False
  | n + 1 => SB1 q (CB q (SBn q n))
/-- what is asked -/
inductive CW (q : Qn) (W : Sst → Look → Prop) : Cst → Look → Prop
  | has (c p x i b lv) : StOk q c p lv → i < (q.thru c).length → CW q W (.has c p x i b lv) (.at3 ((q.thru c).getD i 0) p x)
  | no (c p x i lv) : StOk q c p lv → i < (q.ends c).length → CW q W (.no c p x i lv) (.row ((q.ends c).getD i 0) (p ++ [x]))
  | low (c p x lv s l) : W s l → CW q W (.low c p x lv s) l
inductive SW1 (q : Qn) (C : Cst → Look → Prop) : Sst → Look → Prop
  | mk (i parts c l) : parts[i]? = some c → C c l → SW1 q C (.run i parts) l
def SWn (q : Qn) : Nat → Sst → Look → Prop
  | 0 => fun _ _ => False
  | n + 1 => SW1 q (CW q (SWn q n))
end E
/-! plain facts about data's forms -/
namespace E
open LamX L2 PyProof.Rows PySem PySem.Spec
theorem fits {n : Nat} (h : n ≤ 1000) : n ≤ sizeLine := Nat.le_trans h (by decide)
theorem src_of {X : Cx} {T : List (Addr × Str)} {tg iter : Expr} {ds : List Sl} {xs ys : List D} (h : Src X T tg iter ds xs) (e : xs = ys) : Src X T tg iter ds ys := by subst e; exact h
theorem dN_ints (l : List Nat) : dN l = (l.map fun n : Nat => (n : Int)).map D.int := by unfold dN; rw [List.map_map]; rfl
theorem tN_tI (l : List Nat) : tN l = tI (l.map fun n : Nat => (n : Int)) := by rw [tN, dN_ints]
theorem eqv_ints : ∀ (a b : List Int), PyData.eqvAll (a.map .int) (b.map .int) = decide (a = b)
  | [], [] => rfl
  | [], _ :: _ => rfl
  | _ :: _, [] => rfl
  | x :: a, y :: b => by
    rw [List.map_cons, List.map_cons, PyData.eqvAll, PyData.eqv, eqv_ints a b, Bool.eq_iff_iff]
    simp
theorem lay_ints : ∀ a : List Int, PyData.canLayAll0 (a.map .int) = true
  | [] => rfl
  | x :: a => by rw [List.map_cons, PyData.canLayAll0, lay_ints a]; rfl
theorem shaped_tI (a : List Int) : SeqAt.shaped (tI a).py = true := by
  unfold SeqAt.shaped
  rw [Bool.and_eq_true, decide_eq_true_eq]
  refine ⟨?_, depth_tI a⟩
  rw [py_tI, PyData.canLay0, lay_ints]
theorem pl_tI (a : List Int) : (tI a).pl = true := by show D.pls _ = true; exact pls_ints a
section
variable {X : Cx} {T : List (Addr × Str)} {e a b : Expr} {ds : List Sl}
theorem c_eqTI {a b : List Int} (hu : X.A.units + 64 < cLine) : CmpD X T .Eq (tI a) (tI b) (decide (a = b)) := by
  have h := c_eqD (X := X) (T := T) (x := tI a) (y := tI b) (pl_tI a) (pl_tI b) (shaped_tI a) (shaped_tI b) hu
  rw [py_tI, py_tI, PyData.eqv, eqv_ints] at h
  exact h
theorem natInj {a b : List Nat} (h : a.map (fun n : Nat => (n : Int)) = b.map fun n : Nat => (n : Int)) : a = b := by
  induction a generalizing b with
  | nil => cases b with | nil => rfl | cons _ _ => cases h
  | cons x a ih => cases b with
    | nil => cases h
    | cons y b =>
      simp only [List.cons.injEq, List.map_cons] at h
      rw [ih h.2, Int.ofNat.inj h.1]
theorem c_eqTN {a b : List Nat} (hu : X.A.units + 64 < cLine) : CmpD X T .Eq (tN a) (tN b) (decide (a = b)) := by
  have h := c_eqTI (X := X) (T := T) (a := a.map fun n : Nat => (n : Int)) (b := b.map fun n : Nat => (n : Int)) hu
  rw [← tN_tI, ← tN_tI] at h
  have e : decide (a.map (fun n : Nat => (n : Int)) = b.map fun n : Nat => (n : Int)) = decide (a = b) := by
    rw [Bool.eq_iff_iff, decide_eq_true_iff, decide_eq_true_iff]
    exact ⟨natInj, fun h => by rw [h]⟩
  rw [e] at h
  exact h
theorem mem_nat {n : Nat} {l : List Nat} : ((n : Int) ∈ l.map fun n : Nat => (n : Int)) ↔ n ∈ l := by
  rw [List.mem_map]
  exact ⟨fun ⟨m, h1, h2⟩ => Int.ofNat.inj h2 ▸ h1, fun h => ⟨n, h, rfl⟩⟩
theorem c_inTN {n : Nat} {l : List Nat} : CmpD X T .In (.int (n : Int)) (tN l) (decide (n ∈ l)) := by
  have h := c_inIT (X := X) (T := T) (c := (n : Int)) (l := l.map fun n : Nat => (n : Int))
  rw [← dN_ints] at h
  have e : decide ((n : Int) ∈ l.map fun n : Nat => (n : Int)) = decide (n ∈ l) := by rw [Bool.eq_iff_iff, decide_eq_true_iff, decide_eq_true_iff]; exact mem_nat
  rw [e] at h
  exact h
/-- None, or a text, == .. -/
theorem c_eqOS {a : Option Str} {c : Str} : CmpD X T .Eq (os a) (.str c) (decide (a = some c)) := by
  cases a with
  | none => exact c_eqF (x := .non) (y := .str c) (v := .non) (w := .str c) rfl rfl rfl
  | some b =>
    have h := c_eqS (X := X) (T := T) (i := b) (j := c)
    have e : decide (b = c) = decide (some b = some c) := by rw [Bool.eq_iff_iff, decide_eq_true_iff, decide_eq_true_iff]; exact ⟨fun h => by rw [h], Option.some.inj⟩
    rw [e] at h
    exact h
theorem c_isO {a : Option Str} : CmpD X T .Is (os a) .non (decide (a = none)) := by
  have h := c_isN (X := X) (T := T) (x := os a)
  cases a <;> simpa [os] using h
theorem c_isOi {a : Option Int} : CmpD X T .Is (oi a) .non a.isNone := by
  have h := c_isN (X := X) (T := T) (x := oi a)
  cases a <;> simpa [oi] using h
theorem c_notOi {a : Option Int} : CmpD X T .IsNot (oi a) .non a.isSome := by
  have h := c_notN (X := X) (T := T) (x := oi a)
  cases a <;> simpa [oi] using h
theorem idx_at {l : List Str} {c : Str} (h : c ∈ l) : l[l.idxOf c]? = some c ∧ ∀ m, m < l.idxOf c → l[m]? ≠ some c := by
  have hlt := List.idxOf_lt_length_iff.mpr h
  refine ⟨?_, fun m hm e => ?_⟩
  · rw [List.getElem?_eq_getElem hlt, List.getElem_idxOf hlt]
  · have hm' : m < l.length := Nat.lt_trans hm hlt
    rw [List.getElem?_eq_getElem hm'] at e
    have := List.not_of_lt_findIdx (p := (· == c)) (xs := l) (i := m) hm
    simp at this
    exact this (Option.some.inj e)
end
end E
/-! dicts with texts as keys -/
namespace E
open LamX L2 PyProof.Rows PySem PySem.Spec
def esGet (es : List (Str × D)) (k : Str) : Option D := (es.find? fun p => decide (p.1 = k)).map (·.2)
theorem kv_get {K : PySem.W.Frag} {H : Hp} {k : Str} : ∀ {kvs : List (Key × V)} {es : List (Str × D)}, DaKv K H kvs es → (∀ d, esGet es k = some d → ∃ v, valV kvs (Sum.inr k) = some v ∧ Da K H v d) ∧ (esGet es k = none → valV kvs (Sum.inr k) = none)
  | _, _, .nil => ⟨fun d h => by simp [esGet] at h, fun _ => rfl⟩
  | _, _, .cons (k := k') (d := d') h t => by
    obtain ⟨t1, t2⟩ := kv_get (k := k) t
    by_cases e : k' = k
    · subst e
      refine ⟨fun d hd => ⟨_, valV_pos rfl, ?_⟩, fun hn => ?_⟩
      · simp [esGet] at hd
        subst hd; exact h
      · simp [esGet] at hn
    · have e' : ¬ (Sum.inr k' : Key) = Sum.inr k := fun z => e (Sum.inr.inj z)
      have g : ∀ es : List (Str × D), esGet ((k', d') :: es) k = esGet es k := fun es => by simp [esGet, List.find?_cons, e]
      refine ⟨fun d hd => ?_, fun hn => ?_⟩
      · rw [valV_neg (p := ((Sum.inr k' : Key), _)) e']; exact t1 d (by rw [← g]; exact hd)
      · rw [valV_neg (p := ((Sum.inr k' : Key), _)) e']; exact t2 (by rw [← g]; exact hn)
section
variable {X : Cx} {T : List (Addr × Str)} {a b : Expr} {ds : List Sl} {es : List (Str × D)} {k : Str} {d : D} {pos : Pos}
theorem pd_dget (ha : PD X T a ds (.dic es)) (hb : PD X T b ds (.str k)) (hu : X.A.units + 1 < cLine) (h : esGet es k = some d) (hs : NoSl b := by exact fun _ _ => rfl) : PD X T (.Subscript a b pos) ds d := fun B H σ o s Q q =>
  ofE (pe_dget hu peW peW hs) (ha B H σ o s _ fun va B1 H1 g1 a1 => hb B1 H1 σ (g1.go o) (s.grow g1) _ fun vb B2 H2 g2 b2 => by
    cases b2
    cases a1.mono g2.extN with
    | dic h1 h2 =>
      obtain ⟨v, e1, e2⟩ := (kv_get (k := k) h2).1 d h
      exact ⟨_, v, rfl, by rw [← e1]; exact DGet.k (k := Sum.inr k) ((g2.go (g1.go o)).sub _ _ h1), q v B2 H2 (g1.trans g2) e2⟩)
end
end E
/-! ranges: starred in displays, list(range(..)) -/
namespace E
open LamX L2 PyProof.Rows PySem PySem.Spec
/-- the ints a .. b - 1 as data -/
def rgD (a b : Int) : List D := (List.range (b - a).toNat).map fun i : Nat => D.int (a + (i : Int))
theorem da_rg {K : PySem.W.Frag} {B : Hp} (a b : Int) : DaAll K B (rgV a b) (rgD a b) := by
  unfold rgV rgD
  generalize (b - a).toNat = n
  have h := daAll_ints (K := K) (H := B) ((List.range n).map fun i : Nat => a + (i : Int))
  rw [List.map_map, List.map_map] at h
  exact h
section
variable {X : Cx} {T : List (Addr × Str)} {a b : Expr} {as : List Expr} {ds : List Sl} {dl : List D} {p pp pos pos2 : Pos}
theorem star_rg {pins : List (Addr × Obj)} {σ : L2.St} {H : Hp} {s : Shared} {r : Addr} {i j : Int} {t u v : Tok} {E : Value → Shared → Prop} {Q : List Value → Shared → Prop} (I : Inv X pins σ H s) (hc : X.calm = true) (hr : IsRange s.heap r i j 1 t u v) (ok : RgOk i j)
    (hQ : ∀ us s', Inv X pins σ H s' → Vals (rgV i j) us → Q us s') : PySem.W.StarOf (model X.prog X.w) X.A E (.ref r) Q s := by
  obtain ⟨b1, b2, b3, b4, b5⟩ := ok
  have z : wpAny (model X.prog X.w) X.A (collect (.ref r)) Q E s := collect_range (n := (j - i).toNat) (I.ok.hd hc) hr (small_one b1 b2 b3 b4) (rangeSize_nat i j) b5 fun h' tk acc hk hi => hQ _ _ (I.kept hk) (vals_rg hi)
  unfold PySem.W.StarOf notIterableAtAll; exact wpAny_bind (wpAny_specialOf (show s.TypeIs (.ref r) "range" from ⟨_, hr, rfl⟩) PySem.F.slot_range_iter.lookup (wpAny_pure ⟨rfl, z⟩))
theorem pds_starRg2 {i j : Int} (hm : X.mg "range" = none) (ha : PD X T a ds (.int i)) (hb : PD X T b ds (.int j)) (ok : RgOk i j) (hr : PDs X T as ds dl) (hc : X.calm = true := by rfl) (hg : Gl X "range" := by rfl)
    (hs : starEach (.Starred (.Call (.Name "range" p) [a, b] [] pos) pos2 :: as) X.env = (true, eval (.Call (.Name "range" p) [a, b] [] pos) X.env) :: starEach as X.env := by rfl) (h1 : starEach [a, b] X.env = (false, eval a X.env) :: starEach [b] X.env := by exact se_of rfl) (h2 : starEach [b] X.env = (false, eval b X.env) :: starEach [] X.env := by exact se_of rfl)
    (hp : (backTo pos (starEach [b] X.env)).any (·.1) = false := by rfl) : PDs X T (.Starred (.Call (.Name "range" p) [a, b] [] pos) pos2 :: as) ds (rgD i j ++ dl) := fun B H σ o s Q q => ⟨fun pos3 pins st I =>
  PySem.W.items_star (thn (prg_2 hg hm peW peW h1 h2 hp pins st σ H (fun i' j' H1 => ∃ B1, i' = i ∧ j' = j ∧ Ge T B H B1 H1) I (ha B H σ o s _ fun v B1 H1 g1 a1 => hb B1 H1 σ (g1.go o) (s.grow g1) _ fun u B2 H2 g2 a2 => by
    cases a1; cases a2; exact ⟨i, j, rfl, rfl, B2, rfl, rfl, g1.trans g2⟩)) fun v s1 ⟨r, i', j', t, u, w', H1, ev, hr', I1, B1, e1, e2, g1⟩ => by
    subst ev e1 e2
    refine star_rg I1 hc hr' ok fun us s2 I2 rv => ?_
    refine thn ((hr B1 H1 σ (g1.go o) (s.grow g1) (fun ws H2 => Q (rgV i' j' ++ ws) H2) fun ws B2 H2 g2 aw => q _ B2 H2 (g1.trans g2) ((da_rg i' j').append aw)).run pos3 pins s2 I2) fun ws s3 ⟨vs, H3, I3, r3, q3⟩ => ⟨rgV i' j' ++ vs, H3, I3, rv.append r3, q3⟩) hs⟩
theorem pds_starRg1 {j : Int} (hm : X.mg "range" = none) (hb : PD X T b ds (.int j)) (ok : RgOk 0 j) (hr : PDs X T as ds dl) (hc : X.calm = true := by rfl) (hg : Gl X "range" := by rfl)
    (hs : starEach (.Starred (.Call (.Name "range" p) [b] [] pos) pos2 :: as) X.env = (true, eval (.Call (.Name "range" p) [b] [] pos) X.env) :: starEach as X.env := by rfl) (h2 : starEach [b] X.env = (false, eval b X.env) :: starEach [] X.env := by exact se_of rfl) : PDs X T (.Starred (.Call (.Name "range" p) [b] [] pos) pos2 :: as) ds (rgD 0 j ++ dl) := fun B H σ o s Q q => ⟨fun pos3 pins st I =>
  PySem.W.items_star (thn (prg_1 hg hm peW h2 pins st σ H (fun i' j' H1 => ∃ B1, i' = 0 ∧ j' = j ∧ Ge T B H B1 H1) I (hb B H σ o s _ fun v B1 H1 g1 a1 => by
    cases a1; exact ⟨j, rfl, B1, rfl, rfl, g1⟩)) fun v s1 ⟨r, i', j', t, u, w', H1, ev, hr', I1, B1, e1, e2, g1⟩ => by
    subst ev e1 e2
    refine star_rg I1 hc hr' ok fun us s2 I2 rv => ?_
    refine thn ((hr B1 H1 σ (g1.go o) (s.grow g1) (fun ws H2 => Q (rgV 0 j' ++ ws) H2) fun ws B2 H2 g2 aw => q _ B2 H2 (g1.trans g2) ((da_rg 0 j').append aw)).run pos3 pins s2 I2) fun ws s3 ⟨vs, H3, I3, r3, q3⟩ => ⟨rgV 0 j' ++ vs, H3, I3, rv.append r3, q3⟩) hs⟩
/-- list(range(n)) -/
theorem pl_listRg1 {j : Int} (hm : X.mg "list" = none) (hm2 : X.mg "range" = none) (hb : PD X T b ds (.int j)) (ok : RgOk 0 j) (hc : X.calm = true := by rfl) (hg : Gl X "list" := by rfl) (hg2 : Gl X "range" := by rfl)
    (h1 : starEach [.Call (.Name "range" p) [b] [] pos] X.env = (false, eval (.Call (.Name "range" p) [b] [] pos) X.env) :: starEach [] X.env := by exact se_of rfl) (h2 : starEach [b] X.env = (false, eval b X.env) :: starEach [] X.env := by exact se_of rfl) :
    PL X T (.Call (.Name "list" pp) [.Call (.Name "range" p) [b] [] pos] [] pos2) ds (rgD 0 j) := fun B H σ o s Q q =>
  ofE (pe_listRg hc hg hm (prg_1 hg2 hm2 peW h2) h1) (hb B H σ o s _ fun v B1 H1 g1 a1 => by
    cases a1
    exact ⟨j, rfl, ok, fun l hl => q l _ B1 _ (g1.gr.dom _ hl) (g1.trans ((g1.go o).ge (.new hl))) ((g1.go o).nb hl) upd_same (da_rg 0 j)⟩)
end
end E
/-! in and not in of an empty dict, any key; dict(list of pairs) -/
namespace E
open LamX L2 PyProof.Rows PySem PySem.Spec
/-- what can be hashed, to a depth -/
inductive Hsh : Nat → D → Prop
  | non (n : Nat) : Hsh n .non
  | int (n : Nat) (i : Int) : Hsh n (.int i)
  | str (n : Nat) (s : Str) : Hsh n (.str s)
  | tup (n : Nat) (xs : List D) : (∀ x ∈ xs, Hsh n x) → Hsh (n + 1) (.tup xs)
section
variable {X : Cx} {T : List (Addr × Str)} {pins : List (Addr × Obj)} {σ : L2.St} {H B : Hp} {s : Shared}
theorem nest_all {n : Nat} (ih : ∀ {v : V} {d : D} {u : Value}, Hsh n d → Da X.K B v d → L2.RelV v u → ∃ k, NestedIs s.heap k u ∧ k.depth ≤ n) : ∀ {vs : List V} {ds : List D} {us : List Value}, (∀ x ∈ ds, Hsh n x) → DaAll X.K B vs ds → Vals vs us → ∃ ks, NestedAll s.heap ks us ∧ NestedKey.depthAll ks ≤ n
  | _, _, _, _, .nil, .nil => ⟨[], .nil, Nat.zero_le _⟩
  | _, _, _, h, .cons a t, .cons r rs => by
    obtain ⟨k, h1, h2⟩ := ih (h _ List.mem_cons_self) a r
    obtain ⟨ks, h3, h4⟩ := nest_all ih (fun x hx => h x (List.mem_cons_of_mem _ hx)) t rs
    exact ⟨k :: ks, .cons h1 h3, by simp only [NestedKey.depthAll]; omega⟩
theorem nest_of (I : Inv X pins σ H s) (o : Go T B H) : ∀ (n : Nat) {v : V} {d : D} {u : Value}, Hsh n d → Da X.K B v d → L2.RelV v u → ∃ k, NestedIs s.heap k u ∧ k.depth ≤ n := by
  intro n
  induction n with
  | zero =>
    intro v d u h a r
    cases h with
    | non => cases a; cases r; exact ⟨_, .none, Nat.zero_le _⟩
    | int _ i => cases a; obtain ⟨t, rfl⟩ := r; exact ⟨_, .int _ _, Nat.zero_le _⟩
    | str _ i => cases a; obtain ⟨t, rfl⟩ := r; exact ⟨_, .text _ _, Nat.zero_le _⟩
  | succ n ih =>
    intro v d u h a r
    cases h with
    | non => cases a; cases r; exact ⟨_, .none, Nat.zero_le _⟩
    | int _ i => cases a; obtain ⟨t, rfl⟩ := r; exact ⟨_, .int _ _, Nat.zero_le _⟩
    | str _ i => cases a; obtain ⟨t, rfl⟩ := r; exact ⟨_, .text _ _, Nat.zero_le _⟩
    | tup _ xs hx =>
      cases a with
      | @tup p vs _ h1 h2 =>
        have hu : u = .ref p := r
        subst hu
        obtain ⟨its, rv, ⟨ob, e1, e2, m, e3⟩, _⟩ := I.tuple (sqT_ext o.extN h1)
        obtain ⟨ks, k1, k2⟩ := nest_all (n := n) (s := s) ih hx h2 rv
        exact ⟨.tup ks, .tup e1 e2 e3 k1, by simp only [NestedKey.depth]; omega⟩
end
section
variable {X : Cx} {T : List (Addr × Str)} {x : D}
theorem dictH0 {P : Program} {w : World} {h : Heap} {a : Addr} (hd : h.DictOf (mixKind P w) a []) : h.DictOfH (nestedKind P w) a [] := by
  obtain ⟨o, es, ep, h1, h2, h3, h4, h5, h6⟩ := hd
  refine ⟨o, es, ep, h1, h2, h3, ?_, by simp, by simp⟩
  cases q : es.toList with
  | nil => rfl
  | cons a l => rw [q] at h5; cases h5
theorem op_inE (hu : X.A.units + 16 < cLine) (neg : Bool) (hx : Hsh 8 x) : OpR X (compareOp (if neg then .NotIn else .In)) (fun v y H Q => ∃ a B, y = .ref a ∧ Go T B H ∧ Da X.K B v x ∧ H a = some (.dK []) ∧ (∃ p, v = .ref p) ∧ Q (.bl neg) H) := by
  intro pins s σ H v y u u2 Q I rx ry h
  obtain ⟨a, B, rfl, o, ax, ha, ⟨p, rfl⟩, q⟩ := h
  obtain ⟨z, hd, vs, rel, dd⟩ := dk_of I.hok ha
  cases rel
  obtain ⟨k, h1, h2⟩ := nest_of (s := s) I o 8 hx ax rx
  have hu1 : u = .ref p := rx
  have hu2 : u2 = .ref a := ry
  subst hu1 hu2
  cases neg with
  | false =>
    refine wpAny_in_heap (knd := nestedKind X.prog X.w) (k := k) (show X.A.units + 1 + 8 < cLine by omega) ⟨h1, h2⟩ hd (dictH0 dd) ?_
    exact ⟨.bl false, H, I.tok _, rfl, q⟩
  | true =>
    refine wpAny_notIn_heap (knd := nestedKind X.prog X.w) (k := k) (show X.A.units + 1 + 8 < cLine by omega) ⟨h1, h2⟩ hd (dictH0 dd) ?_
    exact ⟨.bl true, H, I.tok _, rfl, q⟩
theorem c_inE {xs : List D} (hu : X.A.units + 16 < cLine) (hx : Hsh 8 (.tup xs)) : CmpD X T .In (.tup xs) (.dic []) false := ⟨_, op_inE (T := T) hu false hx, fun B H vx vy Q o ax ay q => by
  cases ay with
  | dic h1 h2 => cases h2; exact ⟨_, B, rfl, o, ax, o.sub _ _ h1, by cases ax; exact ⟨_, rfl⟩, q⟩⟩
theorem c_ninE {xs : List D} (hu : X.A.units + 16 < cLine) (hx : Hsh 8 (.tup xs)) : CmpD X T .NotIn (.tup xs) (.dic []) true := ⟨_, op_inE (T := T) hu true hx, fun B H vx vy Q o ax ay q => by
  cases ay with
  | dic h1 h2 => cases h2; exact ⟨_, B, rfl, o, ax, o.sub _ _ h1, by cases ax; exact ⟨_, rfl⟩, q⟩⟩
theorem valV_absent {kvs : List (Key × V)} {k : Key} (h : k ∉ kvs.map (·.1)) : valV kvs k = none := by
  unfold valV
  rw [List.find?_eq_none.mpr (fun p hp => by
    simp only [decide_eq_true_eq]
    exact fun e => h (e ▸ List.mem_map_of_mem hp))]
  rfl
theorem merge_new : ∀ (kvs acc : List (Key × V)), (∀ k ∈ kvs.map (·.1), k ∉ acc.map (·.1)) → (kvs.map (·.1)).Nodup → mergeK acc kvs = acc ++ kvs
  | [], acc, _, _ => by simp [mergeK]
  | p :: kvs, acc, h, nd => by
    have h1 : mergeK acc (p :: kvs) = mergeK (putK acc p.1 p.2) kvs := rfl
    rw [h1, putK_new p.2 (valV_absent (h p.1 (by simp)))]
    rw [List.map_cons, List.nodup_cons] at nd; rw [merge_new kvs _ (fun k hk => ?_) nd.2]
    · simp
    · rw [List.map_append, List.mem_append, not_or]
      refine ⟨h k (by simp only [List.map_cons, List.mem_cons]; exact .inr hk), ?_⟩
      simp only [List.map_cons, List.map_nil, List.mem_singleton]
      exact fun e => nd.1 (e ▸ hk)
def prD (p : Str × D) : D := .tup [.str p.1, p.2]
theorem pairs_da {K : PySem.W.Frag} {B : Hp} : ∀ {vs : List V} {es : List (Str × D)}, DaAll K B vs (es.map prD) → ∃ (ps : List Addr) (kvs : List (Key × V)), vs = ps.map V.ref ∧ Paired (fun p kv => SqT K B p [kV kv.1, kv.2]) ps kvs ∧ DaKv K B kvs es ∧ kvs.map (·.1) = es.map fun e => (Sum.inr e.1 : Key)
  | _, [], h => by cases h; exact ⟨[], [], rfl, .nil, .nil, rfl⟩
  | _, e :: es, h => by
    cases h with
    | cons h t =>
      obtain ⟨ps, kvs, e1, e2, e3, e4⟩ := pairs_da t
      cases h with
      | @tup a xs _ h1 h2 =>
        cases h2 with
        | cons g1 g2 => cases g1; cases g2 with
          | @cons v _ _ _ g2 g3 =>
            cases g3
            exact ⟨a :: ps, (Sum.inr e.1, v) :: kvs, by rw [e1]; rfl, .cons h1 e2, .cons g2 e3, by simp [e4]⟩
theorem pd_dictP {e : Expr} {ds : List Sl} {es : List (Str × D)} {p pos : Pos} (hm : X.mg "dict" = none) (he : PD X T e ds (.lst (es.map prD))) (nd : (es.map (·.1)).Nodup) (hc : X.calm = true := by rfl) (hg : Gl X "dict" := by rfl)
    (h1 : starEach [e] X.env = (false, eval e X.env) :: starEach [] X.env := by exact se_of rfl) (hp : (backTo pos (starEach [] X.env)).any (·.1) = false := by rfl) : PD X T (.Call (.Name "dict" p) [e] [] pos) ds (.dic es) := fun B H σ o s Q q =>
  ofE (pe_callTy (call_dictP hc) hg hm (by decide +kernel) (pa_cons peW pa_nil h1) (by decide) (by decide) h1 hp) (he B H σ o s _ fun v B1 H1 g1 a => by
    cases a with
    | @lst b ws _ h1 h2 =>
      have o1 := g1.go o
      obtain ⟨ps, kvs, e1, e2, e3, e4⟩ := pairs_da h2
      subst e1
      refine ⟨b, ps, kvs, rfl, .of (o1.sub _ _ h1), L2.Paired.mapP e2 fun a b h => sqT_ext o1.extN h, fun t ht => ?_⟩
      have hm : mergeK [] kvs = kvs := by
        rw [merge_new kvs [] (by simp) ?_]
        · rfl
        · rw [e4]
          have h5 : ((es.map (·.1)).map fun s : Str => (Sum.inr s : Key)).Nodup := List.Pairwise.map (R := fun a b : Str => a ≠ b) (S := fun a b : Key => a ≠ b) _ (fun a b h e => h (Sum.inr.inj e)) nd
          rw [List.map_map] at h5
          exact h5
      rw [hm]
      have g2 := o1.geNew (o' := .dK kvs) ht nofun
      exact q _ _ _ (g1.trans g2) (.dic upd_same (e3.mono g2.extN)))
end
end E
/-! the text's defs (written by a program) -/
namespace E
open LamX L2 PyProof.Rows PySem PySem.Spec
def topS (i : Nat) : Stmt := PySem.Challenge.pw_enoughlooks_k48_whole_engine_look_by_loo.main.body.getD i (.Pass ⟨0, 0, 0, 0⟩)
abbrev s_atoms_of : Stmt := topS 1
abbrev N_atoms_of : List Str := ["question", "column", "index", "atom"]
theorem sc_atoms_of : FnScope N_atoms_of ["question", "column"] (defScope s_atoms_of) := ⟨rfl, rfl, rfl, by decide +kernel, rfl, by decide +kernel, by decide +kernel⟩
abbrev s_range_of : Stmt := topS 2
abbrev N_range_of : List Str := ["question", "column", "its", "low", "high"]
theorem sc_range_of : FnScope N_range_of ["question", "column"] (defScope s_range_of) := ⟨rfl, rfl, rfl, by decide +kernel, rfl, by decide +kernel, by decide +kernel⟩
abbrev s_is_above : Stmt := topS 4
abbrev N_is_above : List Str := ["question", "one", "other", "mine", "its", "atom"]
theorem sc_is_above : FnScope N_is_above ["question", "one", "other"] (defScope s_is_above) := ⟨rfl, rfl, rfl, by decide +kernel, rfl, by decide +kernel, by decide +kernel⟩
abbrev s_above_of : Stmt := topS 5
abbrev N_above_of : List Str := ["question", "column", "one"]
theorem sc_above_of : FnScope N_above_of ["question", "column"] (defScope s_above_of) := ⟨rfl, rfl, rfl, by decide +kernel, rfl, by decide +kernel, by decide +kernel⟩
abbrev s_path_of : Stmt := topS 6
abbrev N_path_of : List Str := ["question", "column", "above"]
theorem sc_path_of : FnScope N_path_of ["question", "column"] (defScope s_path_of) := ⟨rfl, rfl, rfl, by decide +kernel, rfl, by decide +kernel, by decide +kernel⟩
abbrev s_parent_of : Stmt := topS 7
abbrev N_parent_of : List Str := ["question", "column", "path"]
theorem sc_parent_of : FnScope N_parent_of ["question", "column"] (defScope s_parent_of) := ⟨rfl, rfl, rfl, by decide +kernel, rfl, by decide +kernel, by decide +kernel⟩
abbrev s_children_of : Stmt := topS 8
abbrev N_children_of : List Str := ["question", "column", "one"]
theorem sc_children_of : FnScope N_children_of ["question", "column"] (defScope s_children_of) := ⟨rfl, rfl, rfl, by decide +kernel, rfl, by decide +kernel, by decide +kernel⟩
abbrev s_roots_of : Stmt := topS 9
abbrev N_roots_of : List Str := ["question", "one"]
theorem sc_roots_of : FnScope N_roots_of ["question"] (defScope s_roots_of) := ⟨rfl, rfl, rfl, by decide +kernel, rfl, by decide +kernel, by decide +kernel⟩
abbrev s_way_of : Stmt := topS 10
abbrev N_way_of : List Str := ["question", "atom"]
theorem sc_way_of : FnScope N_way_of ["question", "atom"] (defScope s_way_of) := ⟨rfl, rfl, rfl, by decide +kernel, rfl, by decide +kernel, by decide +kernel⟩
abbrev s_end_of : Stmt := topS 11
abbrev N_end_of : List Str := ["question", "atom"]
theorem sc_end_of : FnScope N_end_of ["question", "atom"] (defScope s_end_of) := ⟨rfl, rfl, rfl, by decide +kernel, rfl, by decide +kernel, by decide +kernel⟩
abbrev s_through : Stmt := topS 12
abbrev N_through : List Str := ["question", "column", "atom"]
theorem sc_through : FnScope N_through ["question", "column"] (defScope s_through) := ⟨rfl, rfl, rfl, by decide +kernel, rfl, by decide +kernel, by decide +kernel⟩
abbrev s_ending : Stmt := topS 13
abbrev N_ending : List Str := ["question", "column", "some", "atom"]
theorem sc_ending : FnScope N_ending ["question", "column"] (defScope s_ending) := ⟨rfl, rfl, rfl, by decide +kernel, rfl, by decide +kernel, by decide +kernel⟩
abbrev s_way_rows : Stmt := topS 14
abbrev N_way_rows : List Str := ["question", "tables", "atom", "columns", "way", "places", "column", "row", "place"]
theorem sc_way_rows : FnScope N_way_rows ["question", "tables", "atom"] (defScope s_way_rows) := ⟨rfl, rfl, rfl, by decide +kernel, rfl, by decide +kernel, by decide +kernel⟩
abbrev s_begins_with : Stmt := topS 16
abbrev N_begins_with : List Str := ["row", "prefix"]
theorem sc_begins_with : FnScope N_begins_with ["row", "prefix"] (defScope s_begins_with) := ⟨rfl, rfl, rfl, by decide +kernel, rfl, by decide +kernel, by decide +kernel⟩
abbrev s_nearest_by_all : Stmt := topS 17
abbrev N_nearest_by_all : List Str := ["rows", "prefix", "x", "values", "low", "high", "row", "one"]
theorem sc_nearest_by_all : FnScope N_nearest_by_all ["rows", "prefix", "x"] (defScope s_nearest_by_all) := ⟨rfl, rfl, rfl, by decide +kernel, rfl, by decide +kernel, by decide +kernel⟩
abbrev s_told : Stmt := topS 19
abbrev N_told : List Str := ["question", "tables", "look", "rows", "is_known", "low", "high"]
theorem sc_told : FnScope N_told ["question", "tables", "look"] (defScope s_told) := ⟨rfl, rfl, rfl, by decide +kernel, rfl, by decide +kernel, by decide +kernel⟩
abbrev s_farthest : Stmt := topS 21
abbrev N_farthest : List Str := ["best", "atom", "its"]
theorem sc_farthest : FnScope N_farthest ["best", "atom", "its"] (defScope s_farthest) := ⟨rfl, rfl, rfl, by decide +kernel, rfl, by decide +kernel, by decide +kernel⟩
abbrev s_going_on : Stmt := topS 22
abbrev N_going_on : List Str := ["question", "column", "prefix", "x", "level", "high"]
theorem sc_going_on : FnScope N_going_on ["question", "column", "prefix", "x", "level"] (defScope s_going_on) := ⟨rfl, rfl, rfl, by decide +kernel, rfl, by decide +kernel, by decide +kernel⟩
abbrev s_started : Stmt := topS 23
abbrev N_started : List Str := ["question", "column", "prefix"]
theorem sc_started : FnScope N_started ["question", "column", "prefix"] (defScope s_started) := ⟨rfl, rfl, rfl, by decide +kernel, rfl, by decide +kernel, by decide +kernel⟩
abbrev s_put_value : Stmt := topS 24
abbrev N_put_value : List Str := ["level", "x", "what", "shape", "gaps", "values", "branch"]
theorem sc_put_value : FnScope N_put_value ["level", "x", "what", "shape"] (defScope s_put_value) := ⟨rfl, rfl, rfl, by decide +kernel, rfl, by decide +kernel, by decide +kernel⟩
abbrev s_below : Stmt := topS 25
abbrev N_below : List Str := ["question", "state", "column", "prefix", "x", "level", "inner"]
theorem sc_below : FnScope N_below ["question", "state"] (defScope s_below) := ⟨rfl, rfl, rfl, by decide +kernel, rfl, by decide +kernel, by decide +kernel⟩
abbrev s_behind_has : Stmt := topS 26
abbrev N_behind_has : List Str := ["question", "state", "its", "column", "prefix", "x", "_phase", "place", "best", "level", "_inner", "atoms"]
theorem sc_behind_has : FnScope N_behind_has ["question", "state", "its"] (defScope s_behind_has) := ⟨rfl, rfl, rfl, by decide +kernel, rfl, by decide +kernel, by decide +kernel⟩
abbrev s_behind_not : Stmt := topS 27
abbrev N_behind_not : List Str := ["question", "state", "its", "column", "prefix", "x", "_phase", "place", "_best", "level", "_inner", "atoms"]
theorem sc_behind_not : FnScope N_behind_not ["question", "state", "its"] (defScope s_behind_not) := ⟨rfl, rfl, rfl, by decide +kernel, rfl, by decide +kernel, by decide +kernel⟩
abbrev s_column_wanted : Stmt := topS 28
abbrev N_column_wanted : List Str := ["question", "state", "column", "prefix", "x", "phase", "place"]
theorem sc_column_wanted : FnScope N_column_wanted ["question", "state"] (defScope s_column_wanted) := ⟨rfl, rfl, rfl, by decide +kernel, rfl, by decide +kernel, by decide +kernel⟩
abbrev s_column_behind : Stmt := topS 29
abbrev N_column_behind : List Str := ["question", "state", "its", "column", "prefix", "x", "level", "inner"]
theorem sc_column_behind : FnScope N_column_behind ["question", "state", "its"] (defScope s_column_behind) := ⟨rfl, rfl, rfl, by decide +kernel, rfl, by decide +kernel, by decide +kernel⟩
abbrev s_siblings : Stmt := topS 30
abbrev N_siblings : List Str := ["question", "columns", "prefix", "column"]
theorem sc_siblings : FnScope N_siblings ["question", "columns", "prefix"] (defScope s_siblings) := ⟨rfl, rfl, rfl, by decide +kernel, rfl, by decide +kernel, by decide +kernel⟩
abbrev s_siblings_wanted : Stmt := topS 31
abbrev N_siblings_wanted : List Str := ["question", "state"]
theorem sc_siblings_wanted : FnScope N_siblings_wanted ["question", "state"] (defScope s_siblings_wanted) := ⟨rfl, rfl, rfl, by decide +kernel, rfl, by decide +kernel, by decide +kernel⟩
abbrev s_siblings_behind : Stmt := topS 32
abbrev N_siblings_behind : List Str := ["question", "state", "its", "at", "parts", "new", "order", "left", "levels", "one", "part", "level"]
theorem sc_siblings_behind : FnScope N_siblings_behind ["question", "state", "its"] (defScope s_siblings_behind) := ⟨rfl, rfl, rfl, by decide +kernel, rfl, by decide +kernel, by decide +kernel⟩
abbrev s_begin : Stmt := topS 33
abbrev N_begin : List Str := ["question"]
theorem sc_begin : FnScope N_begin ["question"] (defScope s_begin) := ⟨rfl, rfl, rfl, by decide +kernel, rfl, by decide +kernel, by decide +kernel⟩
abbrev s_wanted : Stmt := topS 34
abbrev N_wanted : List Str := ["question", "state"]
theorem sc_wanted : FnScope N_wanted ["question", "state"] (defScope s_wanted) := ⟨rfl, rfl, rfl, by decide +kernel, rfl, by decide +kernel, by decide +kernel⟩
abbrev s_behind : Stmt := topS 35
abbrev N_behind : List Str := ["question", "state", "its"]
theorem sc_behind : FnScope N_behind ["question", "state", "its"] (defScope s_behind) := ⟨rfl, rfl, rfl, by decide +kernel, rfl, by decide +kernel, by decide +kernel⟩
abbrev s_result : Stmt := topS 36
abbrev N_result : List Str := ["question", "state"]
theorem sc_result : FnScope N_result ["question", "state"] (defScope s_result) := ⟨rfl, rfl, rfl, by decide +kernel, rfl, by decide +kernel, by decide +kernel⟩
abbrev s_run_knowing : Stmt := topS 38
abbrev N_run_knowing : List Str := ["question", "tables", "pairs", "kept", "state", "looks", "look"]
theorem sc_run_knowing : FnScope N_run_knowing ["question", "tables", "pairs"] (defScope s_run_knowing) := ⟨rfl, rfl, rfl, by decide +kernel, rfl, by decide +kernel, by decide +kernel⟩
abbrev s_run : Stmt := topS 39
abbrev N_run : List Str := ["question", "tables"]
theorem sc_run : FnScope N_run ["question", "tables"] (defScope s_run) := ⟨rfl, rfl, rfl, by decide +kernel, rfl, by decide +kernel, by decide +kernel⟩
abbrev s_law_bag : Stmt := topS 41
abbrev N_law_bag : List Str := ["_law_script", "_law_cell"]
theorem sc_law_bag : FnScope N_law_bag ["_law_script"] (defScope s_law_bag) := ⟨rfl, rfl, rfl, by decide +kernel, rfl, by decide +kernel, by decide +kernel⟩
abbrev s_law_take : Stmt := topS 42
abbrev N_law_take : List Str := ["_law_bag_here", "_law_many", "_law_cell", "_law_stirred", "_law_value", "_law_begin", "_law_second"]
theorem sc_law_take : FnScope N_law_take ["_law_bag_here", "_law_many"] (defScope s_law_take) := ⟨rfl, rfl, rfl, by decide +kernel, rfl, by decide +kernel, by decide +kernel⟩
abbrev s_law_some : Stmt := topS 43
abbrev N_law_some : List Str := ["_law_bag_here", "_law_things"]
theorem sc_law_some : FnScope N_law_some ["_law_bag_here", "_law_things"] (defScope s_law_some) := ⟨rfl, rfl, rfl, by decide +kernel, rfl, by decide +kernel, by decide +kernel⟩
abbrev s_law_mixed : Stmt := topS 44
abbrev N_law_mixed : List Str := ["_law_bag_here", "_law_things", "_law_found", "_law_thing"]
theorem sc_law_mixed : FnScope N_law_mixed ["_law_bag_here", "_law_things"] (defScope s_law_mixed) := ⟨rfl, rfl, rfl, by decide +kernel, rfl, by decide +kernel, by decide +kernel⟩
abbrev s_law_alike : Stmt := topS 45
abbrev N_law_alike : List Str := ["_law_found", "_law_due"]
theorem sc_law_alike : FnScope N_law_alike ["_law_found", "_law_due"] (defScope s_law_alike) := ⟨rfl, rfl, rfl, by decide +kernel, rfl, by decide +kernel, by decide +kernel⟩
abbrev s_law_forest : Stmt := topS 46
abbrev N_law_forest : List Str := ["_law_bag_here", "_law_many", "_law_found", "_law_at"]
theorem sc_law_forest : FnScope N_law_forest ["_law_bag_here", "_law_many"] (defScope s_law_forest) := ⟨rfl, rfl, rfl, by decide +kernel, rfl, by decide +kernel, by decide +kernel⟩
abbrev s_law_line : Stmt := topS 47
abbrev N_law_line : List Str := ["_law_parents", "_law_at", "_law_found"]
theorem sc_law_line : FnScope N_law_line ["_law_parents", "_law_at"] (defScope s_law_line) := ⟨rfl, rfl, rfl, by decide +kernel, rfl, by decide +kernel, by decide +kernel⟩
abbrev s_law_nested_question : Stmt := topS 48
abbrev N_law_nested_question : List Str := ["_law_bag_here", "_law_most", "_law_names", "_law_parents", "_law_ends", "_law_at", "_law_turn", "_law_tables", "_law_atoms", "_law_word", "_law_table", "_law_columns"]
theorem sc_law_nested_question : FnScope N_law_nested_question ["_law_bag_here", "_law_most"] (defScope s_law_nested_question) := ⟨rfl, rfl, rfl, by decide +kernel, rfl, by decide +kernel, by decide +kernel⟩
abbrev s_law_columns_mixed : Stmt := topS 49
abbrev N_law_columns_mixed : List Str := ["_law_bag_here", "_law_names", "_law_parents", "_law_at", "_law_one"]
theorem sc_law_columns_mixed : FnScope N_law_columns_mixed ["_law_bag_here", "_law_names", "_law_parents", "_law_at"] (defScope s_law_columns_mixed) := ⟨rfl, rfl, rfl, by decide +kernel, rfl, by decide +kernel, by decide +kernel⟩
abbrev s_law_ranges : Stmt := topS 50
abbrev N_law_ranges : List Str := ["_law_bag_here", "_law_columns", "_law_found", "_law_column", "_law_low", "_law_high"]
theorem sc_law_ranges : FnScope N_law_ranges ["_law_bag_here", "_law_columns"] (defScope s_law_ranges) := ⟨rfl, rfl, rfl, by decide +kernel, rfl, by decide +kernel, by decide +kernel⟩
abbrev s_law_tables_for : Stmt := topS 51
abbrev N_law_tables_for : List Str := ["_law_bag_here", "_law_question", "_law_most", "_law_columns", "_law_atoms", "_law_wide", "_law_found", "_law_points", "_law_word", "_law_name", "_law_own", "_law_rows", "_law_rare", "_law_point", "_law_turn", "_law_column"]
theorem sc_law_tables_for : FnScope N_law_tables_for ["_law_bag_here", "_law_question", "_law_most"] (defScope s_law_tables_for) := ⟨rfl, rfl, rfl, by decide +kernel, rfl, by decide +kernel, by decide +kernel⟩
abbrev s_law_atoms_of : Stmt := topS 52
abbrev N_law_atoms_of : List Str := ["_law_question", "_law_column", "_law_index", "_law_atom"]
theorem sc_law_atoms_of : FnScope N_law_atoms_of ["_law_question", "_law_column"] (defScope s_law_atoms_of) := ⟨rfl, rfl, rfl, by decide +kernel, rfl, by decide +kernel, by decide +kernel⟩
abbrev s_law_is_above : Stmt := topS 53
abbrev N_law_is_above : List Str := ["_law_question", "_law_one", "_law_other", "_law_mine", "_law_its", "_law_index"]
theorem sc_law_is_above : FnScope N_law_is_above ["_law_question", "_law_one", "_law_other"] (defScope s_law_is_above) := ⟨rfl, rfl, rfl, by decide +kernel, rfl, by decide +kernel, by decide +kernel⟩
abbrev s_law_path : Stmt := topS 54
abbrev N_law_path : List Str := ["_law_question", "_law_column", "_law_upper", "_law_found", "_law_one", "_law_at", "_law_other"]
theorem sc_law_path : FnScope N_law_path ["_law_question", "_law_column"] (defScope s_law_path) := ⟨rfl, rfl, rfl, by decide +kernel, rfl, by decide +kernel, by decide +kernel⟩
abbrev s_law_children : Stmt := topS 55
abbrev N_law_children : List Str := ["_law_question", "_law_column", "_law_found", "_law_one", "_law_path_here"]
theorem sc_law_children : FnScope N_law_children ["_law_question", "_law_column"] (defScope s_law_children) := ⟨rfl, rfl, rfl, by decide +kernel, rfl, by decide +kernel, by decide +kernel⟩
abbrev s_law_way : Stmt := topS 56
abbrev N_law_way : List Str := ["_law_question", "_law_index", "_law_own", "_law_ends", "_law_column"]
theorem sc_law_way : FnScope N_law_way ["_law_question", "_law_index"] (defScope s_law_way) := ⟨rfl, rfl, rfl, by decide +kernel, rfl, by decide +kernel, by decide +kernel⟩
abbrev s_law_led_rows : Stmt := topS 57
abbrev N_law_led_rows : List Str := ["_law_question", "_law_tables", "_law_index", "_law_word", "_law_name", "_law_own", "_law_places", "_law_column", "_law_row", "_law_at"]
theorem sc_law_led_rows : FnScope N_law_led_rows ["_law_question", "_law_tables", "_law_index"] (defScope s_law_led_rows) := ⟨rfl, rfl, rfl, by decide +kernel, rfl, by decide +kernel, by decide +kernel⟩
abbrev s_law_range_of : Stmt := topS 58
abbrev N_law_range_of : List Str := ["_law_question", "_law_column", "_law_found", "_law_one", "_law_low", "_law_high"]
theorem sc_law_range_of : FnScope N_law_range_of ["_law_question", "_law_column"] (defScope s_law_range_of) := ⟨rfl, rfl, rfl, by decide +kernel, rfl, by decide +kernel, by decide +kernel⟩
abbrev s_law_values_behind : Stmt := topS 59
abbrev N_law_values_behind : List Str := ["_law_rows", "_law_prefix", "_law_size", "_law_row"]
theorem sc_law_values_behind : FnScope N_law_values_behind ["_law_rows", "_law_prefix"] (defScope s_law_values_behind) := ⟨rfl, rfl, rfl, by decide +kernel, rfl, by decide +kernel, by decide +kernel⟩
abbrev s_law_gap : Stmt := topS 60
abbrev N_law_gap : List Str := ["_law_values", "_law_x", "_law_below", "_law_above", "_law_value"]
theorem sc_law_gap : FnScope N_law_gap ["_law_values", "_law_x"] (defScope s_law_gap) := ⟨rfl, rfl, rfl, by decide +kernel, rfl, by decide +kernel, by decide +kernel⟩
abbrev s_law_through : Stmt := topS 61
abbrev N_law_through : List Str := ["_law_question", "_law_column", "_law_has", "_law_ends", "_law_index", "_law_word", "_law_name", "_law_own"]
theorem sc_law_through : FnScope N_law_through ["_law_question", "_law_column"] (defScope s_law_through) := ⟨rfl, rfl, rfl, by decide +kernel, rfl, by decide +kernel, by decide +kernel⟩
abbrev s_law_rows_of : Stmt := topS 62
abbrev N_law_rows_of : List Str := ["_law_question", "_law_tables", "_law_index"]
theorem sc_law_rows_of : FnScope N_law_rows_of ["_law_question", "_law_tables"] (defScope s_law_rows_of) := ⟨rfl, rfl, rfl, by decide +kernel, rfl, by decide +kernel, by decide +kernel⟩
abbrev s_law_sibling_run : Stmt := topS 63
abbrev N_law_sibling_run : List Str := ["_law_question", "_law_rows", "_law_columns", "_law_prefix", "_law_runs", "_law_merged", "_law_turn", "_law_index", "_law_branch", "_law_level", "_law_looks", "_law_column", "_law_one"]
theorem sc_law_sibling_run : FnScope N_law_sibling_run ["_law_question", "_law_rows", "_law_columns", "_law_prefix"] (defScope s_law_sibling_run) := ⟨rfl, rfl, rfl, by decide +kernel, rfl, by decide +kernel, by decide +kernel⟩
abbrev s_law_farthest : Stmt := topS 64
abbrev N_law_farthest : List Str := ["_law_found", "_law_best", "_law_one"]
theorem sc_law_farthest : FnScope N_law_farthest ["_law_found"] (defScope s_law_farthest) := ⟨rfl, rfl, rfl, by decide +kernel, rfl, by decide +kernel, by decide +kernel⟩
abbrev s_law_column_run : Stmt := topS 65
abbrev N_law_column_run : List Str := ["_law_question", "_law_rows", "_law_column", "_law_prefix", "_law_has", "_law_ends", "_law_x", "_law_high", "_law_gaps", "_law_values", "_law_branch", "_law_looks", "_law_lists", "_law_found", "_law_row", "_law_barred", "_law_asked", "_law_shape", "_law_paper", "_law_more", "_law_index", "_law_some_here"]
theorem sc_law_column_run : FnScope N_law_column_run ["_law_question", "_law_rows", "_law_column", "_law_prefix"] (defScope s_law_column_run) := ⟨rfl, rfl, rfl, by decide +kernel, rfl, by decide +kernel, by decide +kernel⟩
abbrev s_law_run : Stmt := topS 66
abbrev N_law_run : List Str := ["_law_question", "_law_tables"]
theorem sc_law_run : FnScope N_law_run ["_law_question", "_law_tables"] (defScope s_law_run) := ⟨rfl, rfl, rfl, by decide +kernel, rfl, by decide +kernel, by decide +kernel⟩
abbrev s_law : Stmt := topS 67
abbrev N_law : List Str := ["_law_script", "_law_bag_here", "_law_turn", "_law_question", "_law_tables", "_law_shown", "_law_due", "_law_told"]
theorem sc_law : FnScope N_law ["_law_script"] (defScope s_law) := ⟨rfl, rfl, rfl, by decide +kernel, rfl, by decide +kernel, by decide +kernel⟩
end E
namespace E
open LamX L2 PyProof.Rows PySem PySem.Spec
/-- no built-in is written over -/
structure Bl (mg : Str → Option Value) : Prop where
  tuple : mg "tuple" = none
  len : mg "len" = none
  list : mg "list" = none
  all : mg "all" = none
  sorted : mg "sorted" = none
  range : mg "range" = none
  enumerate : mg "enumerate" = none
  dict : mg "dict" = none
  int : mg "int" = none
  abs : mg "abs" = none
  max : mg "max" = none
  repr : mg "repr" = none
  set : mg "set" = none
  zip : mg "zip" = none
section
variable {P : Program} {w : World} {K : PySem.W.Frag} {mg : Str → Option Value} {base : Heap} {T : List (Addr × Str)}
theorem atoms_get {q : Qn} {i : Nat} (h : i < q.atoms.length) : (q.atoms.map Atom.d).getD i .non = (q.at i).d := by
  unfold Qn.at
  rw [List.getD_eq_getElem?_getD, List.getD_eq_getElem?_getD, List.getElem?_map, List.getElem?_eq_getElem h]
  rfl
theorem ok_atoms_of (b : Bl mg) (F : At K mg "atoms_of" s_atoms_of ["question", "column"]) : DfOk P w K mg base 1 "atoms_of" ["question", "column"] (SpF T K (fun x : Qn × Str => [x.1.d, .str x.2]) (fun x => Gd x.1) (fun x d => d = tN (x.1.atomsOf x.2))) := by
  refine df_mk F sc_atoms_of (fun _ => rfl) fun f cd A' outer s H E hr x gd => ?_
  obtain ⟨q, c⟩ := x
  have nd := sc_atoms_of.nd
  have h2 : q.atoms.length ≤ 1000 := gd.sa
  refine rg_retD (d := tN (q.atomsOf c)) (pd_tupleL b.tuple (PLc.pl (plc_fm (pat := .tp [.nm 2, .nm 3]) (xs := List.range q.atoms.length) (it := fun i => .tup [.int (i : Nat), (q.at i).d]) (t := fun i => decide (c ∈ (q.at i).own))
    (src_of (src_enumT (xs := q.atoms.map Atom.d) b.enumerate (pd_ixT (pd_var 0) pd_int (atI_nat (j := 1) rfl))) ?_)
    (fun _ _ _ _ _ => pat_tp (pats_cons (pat_nm 2 nd) (pats_cons (pat_nm 3 nd) pats_nil))) (blkOk_by (N := N_atoms_of) (sc := defScope s_atoms_of) (own := [("index", 2), ("atom", 3)]) (by decide +kernel)) nd (by rw [List.length_range]; exact fits h2) fun i hi =>
      ⟨_, rfl, ?_, ?_⟩)).pd) rfl
  · rw [List.length_map]
    exact List.map_congr_left fun i hi => by rw [atoms_get (List.mem_range.mp hi)]
  · exact fun _ _ _ _ _ => td_cmp c_inST (pd_var 1) (pd_ixT (pd_var 3) pd_int (atI_nat (j := 2) rfl)).tup
  · exact fun e _ _ _ _ _ => pd_var 2
theorem ok_range_of (F : At K mg "range_of" s_range_of ["question", "column"]) : DfOk P w K mg base 1 "range_of" ["question", "column"] (SpF T K (fun x : Qn × Str => [x.1.d, .str x.2]) (fun _ => True) (fun x d => d = .tup [oi (x.1.rangeOf x.2).1, oi (x.1.rangeOf x.2).2])) := by
  refine df_mk F sc_range_of (fun _ => rfl) fun f cd A' outer s H E hr x _ => ?_
  obtain ⟨q, c⟩ := x
  have nd := sc_range_of.nd
  refine rg_for (pat := .tp [.nm 2, .nm 3, .nm 4]) (fun _ i ds => ∃ a b c', ds = [.dat q.d, .dat (.str c), a, b, c'] ∧ ∀ r ∈ q.ranges.take i, r.1 ≠ c) (src_tup (xs := q.ranges.map rngD) (pd_ixT (pd_var 0) pd_int (atI_nat (j := 2) rfl)))
    (pat_tp (pats_cons (pat_nm 2 nd) (pats_cons (pat_nm 3 nd) (pats_cons (pat_nm 4 nd) pats_nil)))) (fun _ _ => ⟨_, _, _, rfl, by simp⟩) ?_ ?_ .never
  · rintro items i d ds' rfl hd ⟨a, b, c', rfl, hn⟩
    rw [List.getElem?_map] at hd
    obtain ⟨r, hr, rfl⟩ := Option.map_eq_some_iff.mp hd
    refine ⟨_, rfl, rg_when (k := decide (r.1 = c)) (td_cmp c_eqS (pd_var 2) (pd_var 1)) (fun e => ?_) (fun e => ?_)⟩
    · refine rg_retD (pd_tup (pds_cons (pd_var 3) (pds_cons (pd_var 4) pds_nil))) ?_
      have e : r.1 = c := of_decide_eq_true e
      have : q.ranges.find? (fun r => decide (r.1 = c)) = some r := by
        have hlt := (List.getElem?_eq_some_iff.mp hr).1
        have hsp : q.ranges = q.ranges.take i ++ r :: q.ranges.drop (i + 1) := by
          have h1 := List.drop_eq_getElem_cons hlt
          rw [(List.getElem?_eq_some_iff.mp hr).2] at h1
          rw [← h1, List.take_append_drop]
        rw [hsp, List.find?_append, List.find?_eq_none.mpr (fun r hr => by simpa using hn r hr)]
        simp [e]
      show _ = _
      unfold Qn.rangeOf
      rw [this]
    · refine rg_nil ⟨_, _, _, rfl, fun r' hr' => ?_⟩
      rw [List.take_add_one, hr] at hr'
      rcases List.mem_append.mp hr' with h | h
      · exact hn r' h
      · have : r' = r := by simpa using h
        subst this
        exact of_decide_eq_false e
  · rintro items ds' rfl ⟨a, b, c', rfl, hn⟩
    refine rg_retD (pd_tup (pds_cons pd_non (pds_cons pd_non pds_nil))) ?_
    rw [List.length_map, List.take_length] at hn
    show _ = _
    unfold Qn.rangeOf
    rw [List.find?_eq_none.mpr (fun r hr => by simpa using hn r hr)]
    rfl
end
end E
namespace E
open LamX L2 PyProof.Rows PySem PySem.Spec
section
variable {P : Program} {w : World} {K : PySem.W.Frag} {mg : Str → Option Value} {base : Heap} {T : List (Addr × Str)}
abbrev SpAtoms (T : List (Addr × Str)) (K : PySem.W.Frag) : Sp := SpF T K (fun x : Qn × Str => [x.1.d, .str x.2]) (fun x => Gd x.1) (fun x d => d = tN (x.1.atomsOf x.2))
abbrev SpQ2 (T : List (Addr × Str)) (K : PySem.W.Frag) (R : Qn → Str → D) : Sp := SpF T K (fun x : Qn × Str => [x.1.d, .str x.2]) (fun x => Gd x.1 ∧ x.2 ∈ x.1.cols) (fun x d => d = R x.1 x.2)
theorem ok_is_above (b : Bl mg) (F : At K mg "is_above" s_is_above ["question", "one", "other"]) (A1 : DfOk P w K mg base 1 "atoms_of" ["question", "column"] (SpAtoms T K)) :
    DfOk P w K mg base 2 "is_above" ["question", "one", "other"] (SpF T K (fun x : Qn × Str × Str => [x.1.d, .str x.2.1, .str x.2.2]) (fun x => Gd x.1 ∧ x.2.1 ∈ x.1.cols ∧ x.2.2 ∈ x.1.cols) (fun x d => d = .bl (x.1.isAbove x.2.1 x.2.2))) := by
  refine df_mk F sc_is_above (fun _ => rfl) fun f cd A' outer s H E hr x hx => ?_
  obtain ⟨q, c, e⟩ := x
  obtain ⟨gd, hc, he⟩ := hx
  have nd := sc_is_above.nd
  have h2 : (q.atomsOf e).length ≤ 1000 := by
    have := gd.sa
    unfold Qn.atomsOf
    exact Nat.le_trans (List.length_filter_le _ _) (by rw [List.length_range]; exact this)
  refine rg_pat (pat := .tp [.nm 3, .nm 4]) (d := .tup [tN (q.atomsOf c), tN (q.atomsOf e)]) (pd_tup (pds_cons (pd_call A1 hr (q, c) (pds_cons (pd_var 0) (pds_cons (pd_var 1) pds_nil)) gd fun _ h => h) (pds_cons (pd_call A1 hr (q, e) (pds_cons (pd_var 0) (pds_cons (pd_var 2) pds_nil)) gd fun _ h => h) pds_nil)))
    (pat_tp (pats_cons (pat_nm 3 nd) (pats_cons (pat_nm 4 nd) pats_nil))) rfl ?_
  refine rg_when (k := decide (q.atomsOf c = q.atomsOf e)) (td_cmp (c_eqTN (by have := hr.units; omega)) (pd_var 3) (pd_var 4)) (fun h => ?_) fun h => ?_
  · refine rg_retD (d := .bl (decide ((q.cols.idxOf c : Int) < (q.cols.idxOf e : Int)))) (pd_cmp c_lt (pd_index (l := q.cols) (z := c) (pd_ixT (pd_var 0) pd_int (atI_nat (j := 0) rfl)) (pd_var 1) (idx_at hc).1 (idx_at hc).2) (pd_index (l := q.cols) (z := e) (pd_ixT (pd_var 0) pd_int (atI_nat (j := 0) rfl)) (pd_var 2) (idx_at he).1 (idx_at he).2)) ?_
    show _ = _
    unfold Qn.isAbove
    rw [if_pos (of_decide_eq_true h)]
    simp
  · refine rg_retD (d := .bl ((q.atomsOf e).all fun i => decide (i ∈ q.atomsOf c))) (PD.of (pd_all (bs := (q.atomsOf e).map fun i => decide (i ∈ q.atomsOf c)) b.all (PL.pd (PLc.pl (PLc.imp (plc_fm (pat := .nm 5) (xs := q.atomsOf e) (it := fun n : Nat => .int (n : Int)) (t := fun _ => true) (g := fun i => .bl (decide (i ∈ q.atomsOf c)))
      (src_tup (pd_var 4)) (fun _ _ _ _ _ => pat_nm 5 nd) (blkOk_by (N := N_is_above) (sc := defScope s_is_above) (own := [("atom", 5)]) (by decide +kernel)) nd (fits h2) fun i hi => ⟨_, rfl, ?_, ?_⟩) ?_)))) ?_) ?_
    · rfl
    · exact fun _ _ _ _ _ _ => pd_cmp c_inTN (pd_var 5) (pd_var 3)
    · rintro l rfl
      rw [List.filter_eq_self.mpr (fun _ _ => rfl), List.map_map]
      rfl
    · rw [List.all_map]
      rfl
    · show _ = _
      unfold Qn.isAbove
      rw [if_neg (of_decide_eq_false h)]
theorem ok_above_of (b : Bl mg) (F : At K mg "above_of" s_above_of ["question", "column"])
    (A1 : DfOk P w K mg base 2 "is_above" ["question", "one", "other"] (SpF T K (fun x : Qn × Str × Str => [x.1.d, .str x.2.1, .str x.2.2]) (fun x => Gd x.1 ∧ x.2.1 ∈ x.1.cols ∧ x.2.2 ∈ x.1.cols) (fun x d => d = .bl (x.1.isAbove x.2.1 x.2.2)))) :
    DfOk P w K mg base 3 "above_of" ["question", "column"] (SpQ2 T K fun q c => .lst ((q.above c).map .str)) := by
  refine df_mk F sc_above_of (fun _ => rfl) fun f cd A' outer s H E hr x hx => ?_
  obtain ⟨q, c⟩ := x
  obtain ⟨gd, hc⟩ := hx
  have nd := sc_above_of.nd
  refine rg_retD (d := .lst ((q.above c).map .str)) (PL.pd (PLc.pl (plc_fm (pat := .nm 2) (xs := q.cols) (it := D.str) (t := fun a => q.isAbove a c) (g := D.str)
    (src_tup (pd_ixT (pd_var 0) pd_int (atI_nat (j := 0) rfl)).tup) (fun _ _ _ _ _ => pat_nm 2 nd) (blkOk_by (N := N_above_of) (sc := defScope s_above_of) (own := [("one", 2)]) (by decide +kernel)) nd (fits gd.sc) fun a ha => ⟨_, rfl, ?_, ?_⟩))) rfl
  · exact fun _ _ _ _ _ => td_val (pd_call A1 hr (q, a, c) (pds_cons (pd_var 0) (pds_cons (pd_var 2) (pds_cons (pd_var 1) pds_nil))) ⟨gd, ha, hc⟩ fun _ h => h)
  · exact fun _ _ _ _ _ _ => pd_var 2
end
end E
namespace E
open LamX L2 PyProof.Rows PySem PySem.Spec
/-- where a def stands whose code object is at c -/
def AtC (K : PySem.W.Frag) (mg : Str → Option Value) (name : Str) (st : Stmt) (ps : List Str) (c : Addr) : Prop := ∃ (f : Addr) (fd : FuncData), Fun K name name st f fd ∧ mg name = some (.ref f) ∧ Binds K fd ps [] ∧ fd.code = .ref c
section
variable {P : Program} {w : World} {K : PySem.W.Frag} {mg : Str → Option Value} {base : Heap} {T : List (Addr × Str)}
theorem df_mkC {A : Type} {args : A → List D} {Pre : A → Prop} {R : A → D → Prop} {k : Nat} {name : Str} {N ps : List Str} {st : Stmt} {c : Addr} (F : AtC K mg name st ps c) (S : FnScope N ps (defScope st))
    (hlen : ∀ x, (args x).length = ps.length) (hbody : ∀ (f : Addr) (A' : Around) (outer : List Env) (s : Shared) (H : Hp) (E : XK), Room k (dcx P w K mg base N name (defScope st) f (.ref c) A' outer s H E).A → ∀ x, Pre x →
      RG (dcx P w K mg base N name (defScope st) f (.ref c) A' outer s H E) T (defBody st) ((args x).map Sl.dat ++ List.replicate (N.length - ps.length) .no) { rt := R x }) : DfOk P w K mg base (k + 1) name ps (SpF T K args Pre R) := by
  obtain ⟨f, fd, F, hm, hb, hcode⟩ := F
  refine ⟨f, fd, ?_, hm, F.kp, hb⟩
  rcases F.ex with ⟨oc, od, kV, doc, pm, an, cdv, ct, osl, rfl, lk, hcd⟩
  obtain rfl : cdv = .ref c := hcode
  refine fn_of lk hcd S (fun vs H Q E h => ?_) fun A' outer s H vs Q E hr h => ?_
  · obtain ⟨B, x, _, h, _⟩ := h
    rw [h.length, hlen]
  · obtain ⟨B, x, o, h, px, q⟩ := h
    have hpl : ps.length ≤ N.length := by
      have e := congrArg List.length S.pre
      rw [List.length_take] at e
      omega
    have hl : vs.length ≤ N.length := by rw [h.length, hlen]; exact hpl
    have sd := start_sd (T := T) (H := H) N h hl
    rw [hlen] at sd
    refine ⟨_, pssW.nox, ?_⟩
    exact hbody f A' outer s H E hr x px B H B H (L2.start N vs) _ ⟨o, o.refl, sd, start_so⟩ ⟨fun v d B2 H2 g r a _ => q v d B2 H2 g r a, fun _ _ _ _ n => n.elim, fun _ _ _ _ n => n.elim, fun _ _ _ _ n => n.elim⟩
def freeB (o sc : Scope) : Bool := sc.names.all fun y => !decide (y.2 = .free) || decide (o.names.lookup y.1 = some .cell) || decide (o.names.lookup y.1 = some .free)
theorem free_by {o sc : Scope} (h : freeB o sc = true) : ∀ y ∈ sc.names, y.2 = .free → o.names.lookup y.1 = some .cell ∨ o.names.lookup y.1 = some .free := fun y hy e => by
  have h1 := List.all_eq_true.mp h y hy
  simp only [Bool.or_eq_true, Bool.not_eq_true', decide_eq_false_iff_not, decide_eq_true_eq] at h1
  rcases h1 with (h1 | h1) | h1
  · exact absurd e h1
  · exact .inl h1
  · exact .inr h1
theorem str_sort {l : List Str} {n : Str → Nat} {kf : D → Int} (h : ∀ a, kf (.str a) = (n a : Int)) : ((l.map D.str).mergeSort fun a b => decide (kf a ≤ kf b)) = (l.mergeSort fun a b => decide (n a ≤ n b)).map D.str := by
  rw [← map_mergeSort D.str (fun a b => decide (kf a ≤ kf b))]
  congr 2
  funext a b
  rw [h, h, Bool.eq_iff_iff, decide_eq_true_iff, decide_eq_true_iff]
  omega
/-- a number known of texts -/
def strN (n : Str → Nat) : D → Int
  | .str a => (n a : Int)
  | _ => 0
theorem ok_path_of (b : Bl mg) {c Pt : Addr} (F : AtC K mg "path_of" s_path_of ["question", "column"] c) (TB : TabB base mg c Pt) (hT : (Pt, ("path_of.<locals>.<lambda>" : Str)) ∈ T) (hun : ∀ p ∈ T, p.1 = Pt → p.2 = ("path_of.<locals>.<lambda>" : Str))
    (A1 : DfOk P w K mg base 3 "above_of" ["question", "column"] (SpQ2 T K fun q c => .lst ((q.above c).map .str))) : DfOk P w K mg base 7 "path_of" ["question", "column"] (SpQ2 T K fun q c => tS (q.path c)) := by
  refine df_mkC F sc_path_of (fun _ => rfl) fun f A' outer s H E hr x hx => ?_
  obtain ⟨q, c'⟩ := x
  obtain ⟨gd, hc⟩ := hx
  have nd := sc_path_of.nd
  have hfit : (q.above c').length ≤ 1000 := Nat.le_trans (List.length_filter_le _ _) gd.sc
  refine rg_asg (d := .lst ((q.above c').map .str)) 2 (pd_call A1 (hr.mono (by decide)) (q, c') (pds_cons (pd_var 0) (pds_cons (pd_var 1) pds_nil)) ⟨gd, hc⟩ fun _ h => h) nd ?_
  refine rg_retD (d := tS (q.path c')) (PD.of (pd_tup (pds_starL (PL.pd (pl_sortedKey (k := 3) (N := ["one", "question"]) (ps := ["one"]) (fr := ["question"]) (js := [0]) (dc := [q.d]) (kf := strN fun a => (q.above a).length) (.lst _) (pd_var 2) b.sorted TB rfl hT hun hr (NdefX.nscope_by (by decide +kernel)) rfl (free_by (o := defScope s_path_of) (by decide +kernel)) (by decide +kernel) rfl rfl rfl
    (fun _ _ _ _ _ us hl => match us, hl with | [_], _ => rfl) ?_)) (pds_cons (pd_var 1) pds_nil)) ?_) ?_) rfl
  · intro cl c2 f2 A2 outer2 s1 H1 hroom x hx
    obtain ⟨a, ha, rfl⟩ := List.mem_map.mp hx
    have hac : a ∈ q.cols := (List.mem_filter.mp ha).1
    exact PD.of (pd_lenL b.len (pd_call A1 hroom (q, a) (pds_cons (pd_var 1) (pds_cons (pd_var 0) pds_nil)) ⟨gd, hac⟩ fun _ h => h)) (by rw [List.length_map]; rfl)
  · rw [List.length_append, List.length_mergeSort, List.length_map]
    have : (1001 : Nat) ≤ sizeLine := by decide
    simp only [List.length_nil, List.length_cons]
    omega
  · rw [str_sort (n := fun a => (q.above a).length) fun _ => rfl]
    show D.tup _ = D.tup _
    rw [Qn.path, List.map_append]
    rfl
end
end E
namespace E
open LamX L2 PyProof.Rows PySem PySem.Spec
theorem atI_m2 {α : Type} (l : List α) (y z : α) : atI (l ++ [y, z]) (-2) = some y := by
  unfold atI ixN
  simp only [List.length_append, List.length_cons, List.length_nil]
  rw [if_neg (by omega), if_pos (by omega)]
  have : ((-2 : Int) + ((l.length + (0 + 1 + 1) : Nat) : Int)).toNat = l.length := by omega
  rw [Option.bind_some, this]
  simp
theorem atI_m1 {α : Type} (l : List α) (z : α) : atI (l ++ [z]) (-1) = some z := by
  unfold atI ixN
  simp only [List.length_append, List.length_cons, List.length_nil]
  rw [if_neg (by omega), if_pos (by omega)]
  have : ((-1 : Int) + ((l.length + (0 + 1) : Nat) : Int)).toNat = l.length := by omega
  rw [Option.bind_some, this]
  simp
theorem path_split (q : Qn) (c : Str) : (q.parent c = none ∧ q.path c = [c]) ∨ ∃ l y, q.parent c = some y ∧ q.path c = l ++ [y, c] := by
  unfold Qn.parent Qn.path
  generalize (q.above c).mergeSort _ = l
  rw [List.dropLast_concat]
  rcases List.eq_nil_or_concat l with h | ⟨l', y, h⟩
  · subst h; exact .inl ⟨rfl, rfl⟩
  · subst h
    exact .inr ⟨l', y, by simp, by simp⟩
theorem path_len (q : Qn) (c : Str) (gd : Gd q) : (q.path c).length ≤ 1001 := by
  unfold Qn.path
  rw [List.length_append, List.length_mergeSort]
  have : (q.above c).length ≤ q.cols.length := List.length_filter_le _ _
  have := gd.sc
  simp only [List.length_nil, List.length_cons]
  omega
section
variable {P : Program} {w : World} {K : PySem.W.Frag} {mg : Str → Option Value} {base : Heap} {T : List (Addr × Str)}
abbrev SpPath (T : List (Addr × Str)) (K : PySem.W.Frag) : Sp := SpQ2 T K fun q c => tS (q.path c)
theorem ok_parent_of (b : Bl mg) (F : At K mg "parent_of" s_parent_of ["question", "column"]) (A1 : DfOk P w K mg base 7 "path_of" ["question", "column"] (SpPath T K)) :
    DfOk P w K mg base 8 "parent_of" ["question", "column"] (SpQ2 T K fun q c => os (q.parent c)) := by
  refine df_mk F sc_parent_of (fun _ => rfl) fun f cd A' outer s H E hr x hx => ?_
  obtain ⟨q, c⟩ := x
  obtain ⟨gd, hc⟩ := hx
  have nd := sc_parent_of.nd
  refine rg_asg (d := tS (q.path c)) 2 (pd_call A1 hr (q, c) (pds_cons (pd_var 0) (pds_cons (pd_var 1) pds_nil)) ⟨gd, hc⟩ fun _ h => h) nd ?_
  refine rg_retD (d := os (q.parent c)) (pd_if (k := decide ((1 : Int) < (((q.path c).map D.str).length : Nat))) (td_cmp c_gt (pd_lenT b.len (pd_var 2)) pd_int) (fun h => ?_) fun h => ?_) rfl
  · rcases path_split q c with ⟨_, h2⟩ | ⟨l, y, h1, h2⟩
    · rw [h2] at h; exact absurd h (by simp)
    · rw [h1]
      refine pd_ixT (pd_var 2) (pd_neg pd_int) ?_
      rw [h2, List.map_append]
      exact atI_m2 _ _ _
  · rcases path_split q c with ⟨h1, _⟩ | ⟨l, y, h1, h2⟩
    · rw [h1]; exact pd_non
    · rw [h2, List.length_map, List.length_append] at h
      have := of_decide_eq_false h
      simp only [List.length_cons, List.length_nil] at this
      omega
theorem ok_children_of (b : Bl mg) (F : At K mg "children_of" s_children_of ["question", "column"]) (A1 : DfOk P w K mg base 8 "parent_of" ["question", "column"] (SpQ2 T K fun q c => os (q.parent c))) :
    DfOk P w K mg base 9 "children_of" ["question", "column"] (SpQ2 T K fun q c => tS (q.kids (some c))) := by
  refine df_mk F sc_children_of (fun _ => rfl) fun f cd A' outer s H E hr x hx => ?_
  obtain ⟨q, c⟩ := x
  obtain ⟨gd, hc⟩ := hx
  have nd := sc_children_of.nd
  refine rg_retD (d := tS (q.kids (some c))) (pd_tupleL b.tuple (PL.pd (PLc.pl (plc_fm (pat := .nm 2) (xs := q.cols) (it := D.str) (t := fun a => decide (q.parent a = some c)) (g := D.str)
    (src_tup (pd_ixT (pd_var 0) pd_int (atI_nat (j := 0) rfl)).tup) (fun _ _ _ _ _ => pat_nm 2 nd) (blkOk_by (N := N_children_of) (sc := defScope s_children_of) (own := [("one", 2)]) (by decide +kernel)) nd (fits gd.sc) fun a ha => ⟨_, rfl, ?_, ?_⟩)))) rfl
  · exact fun _ _ _ _ _ => td_cmp c_eqOS (pd_call A1 hr (q, a) (pds_cons (pd_var 0) (pds_cons (pd_var 2) pds_nil)) ⟨gd, ha⟩ fun _ h => h) (pd_var 1)
  · exact fun _ _ _ _ _ _ => pd_var 2
theorem ok_roots_of (b : Bl mg) (F : At K mg "roots_of" s_roots_of ["question"]) (A1 : DfOk P w K mg base 8 "parent_of" ["question", "column"] (SpQ2 T K fun q c => os (q.parent c))) :
    DfOk P w K mg base 9 "roots_of" ["question"] (SpF T K (fun q : Qn => [q.d]) Gd (fun q d => d = tS (q.kids none))) := by
  refine df_mk F sc_roots_of (fun _ => rfl) fun f cd A' outer s H E hr q gd => ?_
  have nd := sc_roots_of.nd
  refine rg_retD (d := tS (q.kids none)) (pd_tupleL b.tuple (PL.pd (PLc.pl (plc_fm (pat := .nm 1) (xs := q.cols) (it := D.str) (t := fun a => decide (q.parent a = none)) (g := D.str)
    (src_tup (pd_ixT (pd_var 0) pd_int (atI_nat (j := 0) rfl)).tup) (fun _ _ _ _ _ => pat_nm 1 nd) (blkOk_by (N := N_roots_of) (sc := defScope s_roots_of) (own := [("one", 1)]) (by decide +kernel)) nd (fits gd.sc) fun a ha => ⟨_, rfl, ?_, ?_⟩)))) rfl
  · exact fun _ _ _ _ _ => td_cmp c_isO (pd_call A1 hr (q, a) (pds_cons (pd_var 0) (pds_cons (pd_var 1) pds_nil)) ⟨gd, ha⟩ fun _ h => h) pd_non
  · exact fun _ _ _ _ _ _ => pd_var 1
theorem at_mem {q : Qn} {i : Nat} (h : i < q.atoms.length) : q.at i ∈ q.atoms := by
  unfold Qn.at
  rw [List.getD_eq_getElem?_getD, List.getElem?_eq_getElem h]
  exact List.getElem_mem h
theorem at_ix {q : Qn} {i : Nat} (h : i < q.atoms.length) : (q.atoms.map Atom.d)[i]? = some (q.at i).d := by
  rw [List.getElem?_map, List.getElem?_eq_getElem h]
  unfold Qn.at
  rw [List.getD_eq_getElem?_getD, List.getElem?_eq_getElem h]
  rfl
abbrev SpWay (T : List (Addr × Str)) (K : PySem.W.Frag) : Sp := SpF T K (fun x : Qn × Nat => [x.1.d, .int (x.2 : Int)]) (fun x => Gd x.1 ∧ x.2 < x.1.atoms.length) (fun x d => d = tS (x.1.way x.2))
theorem ok_way_of (b : Bl mg) {c Pt : Addr} (F : AtC K mg "way_of" s_way_of ["question", "atom"] c) (TB : TabB base mg c Pt) (hT : (Pt, ("way_of.<locals>.<lambda>" : Str)) ∈ T) (hun : ∀ p ∈ T, p.1 = Pt → p.2 = ("way_of.<locals>.<lambda>" : Str))
    (A1 : DfOk P w K mg base 7 "path_of" ["question", "column"] (SpPath T K)) : DfOk P w K mg base 11 "way_of" ["question", "atom"] (SpWay T K) := by
  refine df_mkC F sc_way_of (fun _ => rfl) fun f A' outer s H E hr x hx => ?_
  obtain ⟨q, i⟩ := x
  obtain ⟨gd, hi⟩ := hx
  have nd := sc_way_of.nd
  refine rg_retD (d := tS (q.way i)) (PD.of (pd_tupleL b.tuple (PL.pd (pl_sortedKey (k := 7) (N := ["column", "question"]) (ps := ["column"]) (fr := ["question"]) (js := [0]) (dc := [q.d]) (kf := strN fun a => (q.path a).length) (.tup ((q.at i).own.map .str))
    (pd_ixT (pd_ixT (pd_ixT (pd_var 0) pd_int (atI_nat (j := 1) rfl)) (pd_var 1) (atI_nat (at_ix hi))) pd_int (atI_nat (j := 2) rfl)).tup b.sorted TB rfl hT hun hr (NdefX.nscope_by (by decide +kernel)) rfl (free_by (o := defScope s_way_of) (by decide +kernel)) (by decide +kernel) rfl rfl rfl
    (fun _ _ _ _ _ us hl => match us, hl with | [_], _ => rfl) ?_))) ?_) rfl
  · intro cl c2 f2 A2 outer2 s1 H1 hroom x hx
    obtain ⟨a, ha, rfl⟩ := List.mem_map.mp hx
    exact PD.of (pd_lenT b.len (pd_call A1 hroom (q, a) (pds_cons (pd_var 1) (pds_cons (pd_var 0) pds_nil)) ⟨gd, (gd.own _ (at_mem hi)).2 a ha⟩ fun _ h => h)) (by rw [List.length_map]; rfl)
  · rw [str_sort (n := fun a => (q.path a).length) fun _ => rfl]
    rfl
theorem way_ne {q : Qn} {i : Nat} (gd : Gd q) (hi : i < q.atoms.length) : ∃ l, q.way i = l ++ [q.last i] := by
  have h1 : q.way i ≠ [] := fun h => (gd.own _ (at_mem hi)).1 (by
    have := congrArg List.length h
    unfold Qn.way at this
    rw [List.length_mergeSort] at this
    exact List.length_eq_zero_iff.mp this)
  refine ⟨(q.way i).dropLast, ?_⟩
  unfold Qn.last
  rw [List.getLastD_eq_getLast?, List.getLast?_eq_some_getLast h1]
  exact (List.dropLast_concat_getLast h1).symm
theorem ok_end_of (b : Bl mg) (F : At K mg "end_of" s_end_of ["question", "atom"]) (A1 : DfOk P w K mg base 11 "way_of" ["question", "atom"] (SpWay T K)) :
    DfOk P w K mg base 12 "end_of" ["question", "atom"] (SpF T K (fun x : Qn × Nat => [x.1.d, .int (x.2 : Int)]) (fun x => Gd x.1 ∧ x.2 < x.1.atoms.length) (fun x d => d = .str (x.1.last x.2))) := by
  refine df_mk F sc_end_of (fun _ => rfl) fun f cd A' outer s H E hr x hx => ?_
  obtain ⟨q, i⟩ := x
  obtain ⟨gd, hi⟩ := hx
  obtain ⟨l, hl⟩ := way_ne gd hi
  refine rg_retD (d := .str (q.last i)) (pd_ixT (pd_call A1 hr (q, i) (pds_cons (pd_var 0) (pds_cons (pd_var 1) pds_nil)) ⟨gd, hi⟩ fun _ h => h) (pd_neg pd_int) ?_) rfl
  rw [hl, List.map_append]
  exact atI_m1 _ _
theorem mem_atomsOf {q : Qn} {c : Str} {i : Nat} : i ∈ q.atomsOf c ↔ i < q.atoms.length ∧ c ∈ (q.at i).own := by
  unfold Qn.atomsOf
  simp
theorem atomsOf_len (q : Qn) (c : Str) (gd : Gd q) : (q.atomsOf c).length ≤ 1000 := by
  have := gd.sa
  unfold Qn.atomsOf
  exact Nat.le_trans (List.length_filter_le _ _) (by rw [List.length_range]; exact this)
theorem ok_through (b : Bl mg) (F : At K mg "through" s_through ["question", "column"]) (A1 : DfOk P w K mg base 1 "atoms_of" ["question", "column"] (SpAtoms T K)) :
    DfOk P w K mg base 2 "through" ["question", "column"] (SpF T K (fun x : Qn × Str => [x.1.d, .str x.2]) (fun x => Gd x.1) (fun x d => d = tN (x.1.thru x.2))) := by
  refine df_mk F sc_through (fun _ => rfl) fun f cd A' outer s H E hr x gd => ?_
  obtain ⟨q, c⟩ := x
  have nd := sc_through.nd
  refine rg_retD (d := tN (q.thru c)) (pd_tupleL b.tuple (PL.pd (PLc.pl (plc_fm (pat := .nm 2) (xs := q.atomsOf c) (it := fun n : Nat => .int (n : Int)) (t := fun i => (q.at i).has) (g := fun n : Nat => .int (n : Int))
    (src_tup (pd_call A1 hr (q, c) (pds_cons (pd_var 0) (pds_cons (pd_var 1) pds_nil)) gd fun _ h => h)) (fun _ _ _ _ _ => pat_nm 2 nd) (blkOk_by (N := N_through) (sc := defScope s_through) (own := [("atom", 2)]) (by decide +kernel)) nd (fits (atomsOf_len q c gd)) fun i hi => ⟨_, rfl, ?_, ?_⟩)))) rfl
  · have hi' := (mem_atomsOf.mp hi).1
    exact fun _ _ _ _ _ => (td_cmp c_eqS (pd_ixT (pd_ixT (pd_ixT (pd_var 0) pd_int (atI_nat (j := 1) rfl)) (pd_var 2) (atI_nat (at_ix hi'))) pd_int (atI_nat (j := 0) rfl)) pd_str).of (by cases (q.at i).has <;> decide)
  · exact fun _ _ _ _ _ _ => pd_var 2
theorem ok_ending (b : Bl mg) (F : At K mg "ending" s_ending ["question", "column"]) (A1 : DfOk P w K mg base 1 "atoms_of" ["question", "column"] (SpAtoms T K))
    (A2 : DfOk P w K mg base 12 "end_of" ["question", "atom"] (SpF T K (fun x : Qn × Nat => [x.1.d, .int (x.2 : Int)]) (fun x => Gd x.1 ∧ x.2 < x.1.atoms.length) (fun x d => d = .str (x.1.last x.2)))) :
    DfOk P w K mg base 13 "ending" ["question", "column"] (SpF T K (fun x : Qn × Str => [x.1.d, .str x.2]) (fun x => Gd x.1) (fun x d => d = tN (x.1.ends x.2))) := by
  refine df_mk F sc_ending (fun _ => rfl) fun f cd A' outer s H E hr x gd => ?_
  obtain ⟨q, c⟩ := x
  have nd := sc_ending.nd
  refine rg_setLc (P := fun l => l = dN ((q.atomsOf c).filter fun i => !(q.at i).has)) 2 (plc_fm (pat := .nm 3) (xs := q.atomsOf c) (it := fun n : Nat => .int (n : Int)) (t := fun i => !(q.at i).has) (g := fun n : Nat => .int (n : Int))
    (src_tup (pd_call A1 (hr.mono (by decide)) (q, c) (pds_cons (pd_var 0) (pds_cons (pd_var 1) pds_nil)) gd fun _ h => h)) (fun _ _ _ _ _ => pat_nm 3 nd) (blkOk_by (N := N_ending) (sc := defScope s_ending) (own := [("atom", 3)]) (by decide +kernel)) nd (fits (atomsOf_len q c gd)) fun i hi => ⟨_, rfl, ?_, ?_⟩) (fun l hl => ?_) (by rfl) (sw_true rfl rfl rfl rfl)
  · have hi' := (mem_atomsOf.mp hi).1
    exact fun _ _ _ _ _ => (td_cmp c_eqS (pd_ixT (pd_ixT (pd_ixT (pd_var 0) pd_int (atI_nat (j := 1) rfl)) (pd_var 3) (atI_nat (at_ix hi'))) pd_int (atI_nat (j := 0) rfl)) pd_str).of (by cases (q.at i).has <;> decide)
  · exact fun _ _ _ _ _ _ => pd_var 3
  subst hl
  refine rg_freeze 2 rfl ?_
  refine rg_retD (d := tN (q.ends c)) (pd_tupleL b.tuple (PL.pd (PLc.pl (PLc.imp (plc_fm (pat := .nm 3) (xs := (q.atomsOf c).filter fun i => !(q.at i).has) (it := fun n : Nat => .int (n : Int)) (t := fun i => decide (q.last i = c)) (g := fun n : Nat => .int (n : Int))
    (src_list (pd_var 2)) (fun _ _ _ _ _ => pat_nm 3 nd) (blkOk_by (N := N_ending) (sc := defScope s_ending) (own := [("atom", 3)]) (by decide +kernel)) nd (fits (Nat.le_trans (List.length_filter_le _ _) (atomsOf_len q c gd))) fun i hi => ⟨_, rfl, ?_, ?_⟩) ?_)))) rfl
  · have hi' := (mem_atomsOf.mp (List.mem_filter.mp hi).1).1
    exact fun _ _ _ _ _ => td_cmp c_eqS (pd_call A2 hr (q, i) (pds_cons (pd_var 0) (pds_cons (pd_var 3) pds_nil)) ⟨gd, hi'⟩ fun _ h => h) (pd_var 1)
  · exact fun _ _ _ _ _ _ => pd_var 3
  · rintro l rfl
    rw [List.filter_filter]
    unfold Qn.ends dN
    congr 2
    funext i
    rw [Bool.and_comm]
end
end E
namespace E
open LamX L2 PyProof.Rows PySem PySem.Spec
theorem esGet_tbs (tb : Tbs) (n : Str) : esGet (tb.map fun t => (t.1, tbD t.2)) n = (tb.find? fun t => decide (t.1 = n)).map fun t => tbD t.2 := by
  unfold esGet
  rw [List.find?_map, Option.map_map]
  rfl
theorem tbs_has {tb : Tbs} {n : Str} (h : ∃ t ∈ tb, t.1 = n) : ∃ t : Str × Nat × List (List Int), tb.find? (fun t => decide (t.1 = n)) = some t ∧ rowsIn tb n = t.2.2 ∧ t ∈ tb ∧ t.1 = n := by
  obtain ⟨t, ht, e⟩ := h
  cases q : tb.find? fun t => decide (t.1 = n) with
  | none => exact absurd e (by simpa using List.find?_eq_none.mp q t ht)
  | some u =>
    refine ⟨u, rfl, ?_, List.mem_of_find?_eq_some q, by simpa using List.find?_some q⟩
    unfold rowsIn
    rw [q]
theorem way_perm (q : Qn) (i : Nat) : (q.way i).Perm (q.at i).own := List.mergeSort_perm _ _
theorem way_len (q : Qn) (i : Nat) : (q.way i).length = (q.at i).own.length := (way_perm q i).length_eq
theorem rowsOf_len {q : Qn} {tb : Tbs} {i : Nat} {r : List Int} (h : r ∈ rowsOf q tb i) : r.length = (q.at i).own.length := by
  unfold rowsOf at h
  rw [List.mem_mergeSort] at h
  obtain ⟨r', _, rfl⟩ := List.mem_map.mp h
  rw [List.length_map, way_len]
theorem rowsOf_few {q : Qn} {tb : Tbs} {i : Nat} (g : GT q tb) (h : i < q.atoms.length) : (rowsOf q tb i).length ≤ 1000 := by
  unfold rowsOf
  rw [List.length_mergeSort, List.length_map]
  exact g.few _ (at_mem h)
section
variable {X : Cx} {T : List (Addr × Str)}
theorem c_inRows {r : List Int} {R : List (List Int)} (hu : X.A.units + 66 < cLine) : CmpD X T .In (tI r) (.tup (R.map tI)) (decide (r ∈ R)) := by
  have e1 : D.pys (R.map tI) = R.map fun r => PyData.tuple (r.map .int) := by rw [pys_map, List.map_map]; exact List.map_congr_left fun r _ => py_tI r
  have h := c_inD (X := X) (T := T) (x := tI r) (y := .tup (R.map tI)) (xs := R.map tI) (.inl rfl) (pl_tI r) (by rw [pls_all]; simp [pl_tI]) (shaped_tI r) (by
    rw [e1]
    clear e1
    induction R with
    | nil => rfl
    | cons a R ih => rw [List.map_cons, PyData.canLayAll0, ih, PyData.canLay0, lay_ints]; rfl) hu
  have e : ((D.pys (R.map tI)).any fun z => PyData.eqv z (tI r).py) = decide (r ∈ R) := by
    rw [e1, py_tI, List.any_map, Bool.eq_iff_iff, List.any_eq_true, decide_eq_true_iff]
    constructor
    · rintro ⟨a, ha, h⟩
      have h : PyData.eqv (.tuple (a.map .int)) (.tuple (r.map .int)) = true := h
      rw [PyData.eqv, eqv_ints] at h
      rw [← of_decide_eq_true h]; exact ha
    · intro h
      refine ⟨r, h, ?_⟩
      show PyData.eqv (.tuple (r.map .int)) (.tuple (r.map .int)) = true
      rw [PyData.eqv, eqv_ints]
      simp
  rw [e] at h
  exact h
end
section
variable {P : Program} {w : World} {K : PySem.W.Frag} {mg : Str → Option Value} {base : Heap} {T : List (Addr × Str)}
abbrev SpRows (T : List (Addr × Str)) (K : PySem.W.Frag) : Sp := SpF T K (fun x : Qn × Tbs × Nat => [x.1.d, tbsD x.2.1, .int (x.2.2 : Int)]) (fun x => Gd x.1 ∧ GT x.1 x.2.1 ∧ x.2.2 < x.1.atoms.length) (fun x d => d = .tup ((rowsOf x.1 x.2.1 x.2.2).map tI))
theorem ok_way_rows (b : Bl mg) (F : At K mg "way_rows" s_way_rows ["question", "tables", "atom"]) (A1 : DfOk P w K mg base 11 "way_of" ["question", "atom"] (SpWay T K)) :
    DfOk P w K mg base 12 "way_rows" ["question", "tables", "atom"] (SpRows T K) := by
  refine df_mk F sc_way_rows (fun _ => rfl) fun f cd A' outer s H E hr x hx => ?_
  obtain ⟨q, tb, i⟩ := x
  obtain ⟨gd, gt, hi⟩ := hx
  have nd := sc_way_rows.nd
  obtain ⟨t, ht, hrows, hmem, hnm⟩ := tbs_has (gt.has _ (at_mem hi))
  have hwl : (q.way i).length ≤ 1000 := by rw [way_len]; exact gd.so _ (at_mem hi)
  have hown : ∀ c ∈ q.way i, c ∈ (q.at i).own := fun c hc => (way_perm q i).mem_iff.mp hc
  refine rg_pat (pat := .tp [.nm 3, .nm 4]) (d := .tup [fS (q.at i).own, tS (q.way i)]) (pd_tup (pds_cons (pd_ixT (pd_ixT (pd_ixT (pd_var 0) pd_int (atI_nat (j := 1) rfl)) (pd_var 2) (atI_nat (at_ix hi))) pd_int (atI_nat (j := 2) rfl)) (pds_cons (pd_call A1 hr (q, i) (pds_cons (pd_var 0) (pds_cons (pd_var 2) pds_nil)) ⟨gd, hi⟩ fun _ h => h) pds_nil)))
    (pat_tp (pats_cons (pat_nm 3 nd) (pats_cons (pat_nm 4 nd) pats_nil))) rfl ?_
  refine rg_asg (d := .lst ((q.way i).map fun c => .int (((q.at i).own.idxOf c : Nat) : Int))) 5 (PL.pd (PLc.pl (PLc.imp (plc_fm (pat := .nm 6) (xs := q.way i) (it := D.str) (t := fun _ => true) (g := fun c => .int (((q.at i).own.idxOf c : Nat) : Int))
    (src_tup (pd_var 4)) (fun _ _ _ _ _ => pat_nm 6 nd) (blkOk_by (N := N_way_rows) (sc := defScope s_way_rows) (own := [("column", 6)]) (by decide +kernel)) nd (fits hwl) fun c hc => ⟨_, rfl, ?_, ?_⟩) ?_))) nd ?_
  · rfl
  · exact fun _ _ _ _ _ _ => pd_index (l := (q.at i).own) (pd_var 3) (pd_var 6) (idx_at (hown c hc)).1 (idx_at (hown c hc)).2
  · rintro l rfl
    rw [List.filter_eq_self.mpr fun _ _ => rfl]
  refine rg_retD (d := .tup ((rowsOf q tb i).map tI)) (pd_tupleL b.tuple (PL.pd (pl_sortedRows (rs := (rowsIn tb (q.at i).name).map fun r => (q.way i).map fun c => r.getD ((q.at i).own.idxOf c) 0) b.sorted (PL.pd (PLc.pl (PLc.imp (plc_fm (pat := .nm 7) (xs := rowsIn tb (q.at i).name) (it := tI) (t := fun _ => true) (g := fun r => tI ((q.way i).map fun c => r.getD ((q.at i).own.idxOf c) 0))
    (src_tup (pd_ixT (d := .tup ((rowsIn tb (q.at i).name).map tI)) (pd_dget (d := tbD t.2) (pd_var 1) (pd_ixT (pd_ixT (pd_ixT (pd_var 0) pd_int (atI_nat (j := 1) rfl)) (pd_var 2) (atI_nat (at_ix hi))) pd_int (atI_nat (j := 1) rfl)) (hu_of hr) ?_) pd_int ?_)) (fun _ _ _ _ _ => pat_nm 7 nd) (blkOk_by (N := N_way_rows) (sc := defScope s_way_rows) (own := [("row", 7)]) (by decide +kernel)) nd (fits (gt.few _ (at_mem hi))) fun r hr' => ⟨_, rfl, ?_, ?_⟩) ?_))) (by have := hr.un; omega) ?_))) rfl
  · rw [esGet_tbs, ht]; rfl
  · rw [hrows]; exact atI_nat (j := 1) rfl
  · rfl
  · refine fun _ _ _ _ _ _ => PD.of (pd_tupleL b.tuple (PL.pd (PLc.pl (plc_fm (pat := .nm 8) (xs := q.way i) (it := fun c => .int (((q.at i).own.idxOf c : Nat) : Int)) (t := fun _ => true) (g := fun c => .int (r.getD ((q.at i).own.idxOf c) 0))
      (src_list (pd_var 5)) (fun _ _ _ _ _ => pat_nm 8 nd) (blkOk_by (N := N_way_rows) (sc := relS _ (defScope s_way_rows)) (own := [("place", 8)]) (by decide +kernel)) nd (fits hwl) fun c hc => ⟨_, rfl, ?_, ?_⟩)))) ?_
    · rfl
    · have hlen := gt.row _ (at_mem hi) r hr'
      have hlt : (q.at i).own.idxOf c < r.length := by rw [hlen]; exact List.idxOf_lt_length_iff.mpr (hown c hc)
      refine fun _ _ _ _ _ _ => pd_ixT (pd_var 7) (pd_var 8) (atI_nat ?_)
      rw [List.getElem?_map, List.getD_eq_getElem?_getD, List.getElem?_eq_getElem hlt]
      rfl
    · rw [List.filter_eq_self.mpr (fun _ _ => rfl)]
      show D.tup _ = D.tup _
      rw [List.map_map]
      rfl
  · rintro l rfl
    rw [List.filter_eq_self.mpr (fun _ _ => rfl), List.map_map]
    rfl
  · intro r hr' e
    obtain ⟨r', _, rfl⟩ := List.mem_map.mp hr'
    have := congrArg List.length e
    rw [List.length_map, way_len] at this
    exact (gd.own _ (at_mem hi)).1 (List.length_eq_zero_iff.mp this)
end
end E
namespace E
open LamX L2 PyProof.Rows PySem PySem.Spec
section
variable {P : Program} {w : World} {K : PySem.W.Frag} {mg : Str → Option Value} {base : Heap} {T : List (Addr × Str)}
abbrev SpBeg (T : List (Addr × Str)) (K : PySem.W.Frag) : Sp := SpF T K (fun x : List Int × List Int => [tI x.1, tI x.2]) (fun _ => True) (fun x d => d = .bl (decide (x.1.take x.2.length = x.2)))
theorem ok_begins_with (b : Bl mg) (F : At K mg "begins_with" s_begins_with ["row", "prefix"]) : DfOk P w K mg base 1 "begins_with" ["row", "prefix"] (SpBeg T K) := by
  refine df_mk F sc_begins_with (fun _ => rfl) fun f cd A' outer s H E hr x _ => ?_
  obtain ⟨r, p⟩ := x
  refine rg_retD (d := .bl (decide (r.take p.length = p))) (pd_cmp (c_eqTI (by have := hr.un; omega)) (PD.of (pd_slTo (n := p.length) (pd_var 0) (PD.of (pd_lenT b.len (pd_var 1)) (by rw [List.length_map]))) (by show D.tup _ = D.tup ((r.take p.length).map .int); rw [List.map_take])) (pd_var 1)) rfl
abbrev SpNear (T : List (Addr × Str)) (K : PySem.W.Frag) : Sp := SpF T K (fun x : List (List Int) × List Int × Option Int => [.tup (x.1.map tI), tI x.2.1, oi x.2.2]) (fun x => x.1.length ≤ 1000 ∧ ∀ r ∈ x.1, x.2.1.length < r.length)
  (fun x d => d = .tup [.bl (near x.1 x.2.1 x.2.2).1, oi (near x.1 x.2.1 x.2.2).2.1, oi (near x.1 x.2.1 x.2.2).2.2])
/-- xs[0] if xs != [] else None, xs[-1] .. -/
theorem pd_headO {X : Cx} {a a2 : Expr} {ds : List Sl} {l : List Int} {p1 p2 p3 p4 p5 p6 : Pos} {i j : Nat} (hu : X.A.units < cLine) (ha : PD X T a ds (.lst (l.map .int))) (ha2 : PD X T a2 ds (.lst (l.map .int))) :
    PD X T (.IfExp (.Compare a [.NotEq] [.List [] p4] p1) (.Subscript a2 (.Constant (.int 0) i p5) p2) (.Constant .none j p6) p3) ds (oi l.head?) := by
  refine pd_if (td_cmp (c_neL0 hu) ha (PL.pd (pl_lst pds_nil))) (fun h => ?_) fun h => ?_
  · cases l with
    | nil => exact absurd h (by simp)
    | cons x l => exact pd_ixL ha2 pd_int (atI_nat (j := 0) rfl)
  · cases l with
    | nil => exact pd_non
    | cons x l => exact absurd h (by simp)
theorem pd_lastO {X : Cx} {a a2 : Expr} {ds : List Sl} {l : List Int} {p1 p2 p3 p4 p5 p6 p7 : Pos} {i j : Nat} (hu : X.A.units < cLine) (ha : PD X T a ds (.lst (l.map .int))) (ha2 : PD X T a2 ds (.lst (l.map .int))) :
    PD X T (.IfExp (.Compare a [.NotEq] [.List [] p4] p1) (.Subscript a2 (.UnaryOp .USub (.Constant (.int 1) i p5) p7) p2) (.Constant .none j p6) p3) ds (oi l.getLast?) := by
  refine pd_if (td_cmp (c_neL0 hu) ha (PL.pd (pl_lst pds_nil))) (fun h => ?_) fun h => ?_
  · rcases List.eq_nil_or_concat l with e | ⟨l', x, e⟩
    · subst e; exact absurd h (by simp)
    · subst e
      rw [List.concat_eq_append] at *
      rw [List.getLast?_append]
      refine pd_ixL ha2 (pd_neg pd_int) ?_
      rw [List.map_append]
      exact atI_m1 _ _
  · rcases List.eq_nil_or_concat l with e | ⟨l', x, e⟩
    · subst e; exact pd_non
    · subst e; exact absurd h (by simp)
theorem ok_nearest (b : Bl mg) (F : At K mg "nearest_by_all" s_nearest_by_all ["rows", "prefix", "x"]) (A1 : DfOk P w K mg base 1 "begins_with" ["row", "prefix"] (SpBeg T K)) : DfOk P w K mg base 2 "nearest_by_all" ["rows", "prefix", "x"] (SpNear T K) := by
  refine df_mk F sc_nearest_by_all (fun _ => rfl) fun f cd A' outer s H E hr x hx => ?_
  obtain ⟨R, p, x⟩ := x
  obtain ⟨hR, hlen⟩ := hx
  have nd := sc_nearest_by_all.nd
  have hu : ∀ n, n ≤ 150 → (dcx P w K mg base N_nearest_by_all "nearest_by_all" (defScope s_nearest_by_all) f cd A' outer s H E).A.units + n < cLine := fun n hn => by have := hr.un; omega
  refine rg_setLc (P := fun l => l = (valsBehind R p).map .int) 3 (PLc.imp (plc_fm (pat := .nm 6) (xs := R) (it := tI) (t := fun r => decide (r.take p.length = p)) (g := fun r => .int (r.getD p.length 0))
    (src_tup (pd_var 0)) (fun _ _ _ _ _ => pat_nm 6 nd) (blkOk_by (N := N_nearest_by_all) (sc := defScope s_nearest_by_all) (own := [("row", 6)]) (by decide +kernel)) nd (fits hR) fun r hr' => ⟨_, rfl, ?_, ?_⟩) ?_) (fun l hl => ?_) (by rfl) (sw_true rfl rfl rfl rfl)
  · exact fun _ _ _ _ _ => td_val (pd_call A1 hr (r, p) (pds_cons (pd_var 6) (pds_cons (pd_var 1) pds_nil)) trivial fun _ h => h)
  · have hlt := hlen r hr'
    refine fun _ _ _ _ _ _ => pd_ixT (pd_var 6) (PD.of (pd_lenT b.len (pd_var 1)) (by rw [List.length_map])) (atI_nat (j := p.length) ?_)
    rw [List.getElem?_map, List.getD_eq_getElem?_getD, List.getElem?_eq_getElem hlt]
    rfl
  · rintro l rfl
    unfold valsBehind
    rw [List.map_map]
    rfl
  subst hl
  refine rg_freeze 3 rfl ?_
  have hvl : (valsBehind R p).length ≤ 1000 := by unfold valsBehind; rw [List.length_map]; exact Nat.le_trans (List.length_filter_le _ _) hR
  refine rg_when (k := x.isNone) (td_cmp c_isOi (pd_var 2) pd_non) (fun h => ?_) fun h => ?_
  · obtain rfl : x = none := Option.isNone_iff_eq_none.mp h
    exact rg_retD (pd_tup (pds_cons pd_bl (pds_cons pd_non (pds_cons (pd_headO (hu 0 (by decide)) (pd_var 3) (pd_var 3)) pds_nil)))) rfl
  obtain ⟨v, rfl⟩ : ∃ v, x = some v := Option.isSome_iff_exists.mp (by cases x <;> simp_all)
  refine rg_par (P := fun l => l = [.lst (((valsBehind R p).filter fun u => decide (u < v)).map .int), .lst (((valsBehind R p).filter fun u => decide (v < u)).map .int)]) 4 5 (PDs.pns (pds_cons (PL.pd (PLc.pl (plc_fm (pat := .nm 7) (xs := valsBehind R p) (it := D.int) (t := fun u => decide (u < v)) (g := D.int)
    (src_list (pd_var 3)) (fun _ _ _ _ _ => pat_nm 7 nd) (blkOk_by (N := N_nearest_by_all) (sc := defScope s_nearest_by_all) (own := [("one", 7)]) (by decide +kernel)) nd (fits hvl) fun u hu' => ⟨_, rfl, ?_, ?_⟩))) (pds_cons (PL.pd (PLc.pl (plc_fm (pat := .nm 7) (xs := valsBehind R p) (it := D.int) (t := fun u => decide (v < u)) (g := D.int)
    (src_list (pd_var 3)) (fun _ _ _ _ _ => pat_nm 7 nd) (blkOk_by (N := N_nearest_by_all) (sc := defScope s_nearest_by_all) (own := [("one", 7)]) (by decide +kernel)) nd (fits hvl) fun u hu' => ⟨_, rfl, ?_, ?_⟩))) pds_nil)) rfl) nd (fun l hl => ⟨_, _, hl, ?_⟩)
  · exact fun _ _ _ _ _ => td_cmp c_lt (pd_var 7) (pd_var 2)
  · exact fun _ _ _ _ _ _ => pd_var 7
  · exact fun _ _ _ _ _ => td_cmp c_gt (pd_var 7) (pd_var 2)
  · exact fun _ _ _ _ _ _ => pd_var 7
  exact rg_retD (pd_tup (pds_cons (pd_cmp c_inIL (pd_var 2) (pd_var 3)) (pds_cons (pd_lastO (hu 0 (by decide)) (pd_var 4) (pd_var 4)) (pds_cons (pd_headO (hu 0 (by decide)) (pd_var 5) (pd_var 5)) pds_nil)))) rfl
end
end E
namespace E
open LamX L2 PyProof.Rows PySem PySem.Spec
def Look.ok (q : Qn) : Look → Prop
  | .at3 a p _ => a < q.atoms.length ∧ p.length < (q.at a).own.length
  | .row a _ => a < q.atoms.length
theorem tell_t {R : Nat → List (List Int)} {a : Nat} {p : List Int} {x : Option Int} (h : (near (R a) p x).1 = true) : tell R (.at3 a p x) = .there := if_pos h
theorem tell_f {R : Nat → List (List Int)} {a : Nat} {p : List Int} {x : Option Int} (h : (near (R a) p x).1 = false) : tell R (.at3 a p x) = .gap (near (R a) p x).2.1 (near (R a) p x).2.2 := if_neg (by rw [h]; decide)
theorem tell_rt {R : Nat → List (List Int)} {a : Nat} {r : List Int} (h : r ∈ R a) : tell R (.row a r) = .there := if_pos h
theorem tell_rf {R : Nat → List (List Int)} {a : Nat} {r : List Int} (h : ¬ r ∈ R a) : tell R (.row a r) = .away := if_neg h
section
variable {P : Program} {w : World} {K : PySem.W.Frag} {mg : Str → Option Value} {base : Heap} {T : List (Addr × Str)}
abbrev SpTold (T : List (Addr × Str)) (K : PySem.W.Frag) : Sp := SpF T K (fun x : Qn × Tbs × Look => [x.1.d, tbsD x.2.1, x.2.2.d]) (fun x => Gd x.1 ∧ GT x.1 x.2.1 ∧ x.2.2.ok x.1) (fun x d => d = (tell (rowsOf x.1 x.2.1) x.2.2).d)
theorem ok_told (b : Bl mg) (F : At K mg "told" s_told ["question", "tables", "look"]) (A1 : DfOk P w K mg base 12 "way_rows" ["question", "tables", "atom"] (SpRows T K)) (A2 : DfOk P w K mg base 2 "nearest_by_all" ["rows", "prefix", "x"] (SpNear T K)) :
    DfOk P w K mg base 13 "told" ["question", "tables", "look"] (SpTold T K) := by
  refine df_mk F sc_told (fun _ => rfl) fun f cd A' outer s H E hr x hx => ?_
  obtain ⟨q, tb, l⟩ := x
  obtain ⟨gd, gt, hl⟩ := hx
  have nd := sc_told.nd
  cases l with
  | at3 a p x =>
    obtain ⟨ha, hp⟩ := hl
    refine rg_asg (d := .tup ((rowsOf q tb a).map tI)) 3 (pd_call A1 hr (q, tb, a) (pds_cons (pd_var 0) (pds_cons (pd_var 1) (pds_cons (pd_ixT (xs := [.int (a : Int), tI p, oi x]) (pd_var 2) pd_int (atI_nat (j := 0) rfl)) pds_nil))) ⟨gd, gt, ha⟩ fun _ h => h) nd ?_
    refine rg_when (k := false) (td_cmp c_eqI (pd_lenT (xs := [.int (a : Int), tI p, oi x]) b.len (pd_var 2)) pd_int) (fun h => by cases h) fun _ => ?_
    refine rg_pat (pat := .tp [.nm 4, .nm 5, .nm 6]) (d := .tup [.bl (near (rowsOf q tb a) p x).1, oi (near (rowsOf q tb a) p x).2.1, oi (near (rowsOf q tb a) p x).2.2]) (pd_call A2 (hr.mono (by decide)) (rowsOf q tb a, p, x) (pds_cons (pd_var 3) (pds_cons (pd_ixT (xs := [.int (a : Int), tI p, oi x]) (pd_var 2) pd_int (atI_nat (j := 1) rfl)) (pds_cons (pd_ixT (xs := [.int (a : Int), tI p, oi x]) (pd_var 2) pd_int (atI_nat (j := 2) rfl)) pds_nil)))
      ⟨rowsOf_few gt ha, fun r hr' => by rw [rowsOf_len hr']; exact hp⟩ fun _ h => h) (pat_tp (pats_cons (pat_nm 4 nd) (pats_cons (pat_nm 5 nd) (pats_cons (pat_nm 6 nd) pats_nil)))) rfl ?_
    refine rg_retD (d := (tell (rowsOf q tb) (.at3 a p x)).d) (pd_if (td_val (pd_var 4)) (fun h => ?_) fun h => ?_) rfl
    · exact PD.of (pd_tup (pds_cons pd_str pds_nil)) (by rw [tell_t h]; rfl)
    · exact PD.of (pd_tup (pds_cons pd_str (pds_cons (pd_var 5) (pds_cons (pd_var 6) pds_nil)))) (by rw [tell_f h]; rfl)
  | row a r =>
    refine rg_asg (d := .tup ((rowsOf q tb a).map tI)) 3 (pd_call A1 hr (q, tb, a) (pds_cons (pd_var 0) (pds_cons (pd_var 1) (pds_cons (pd_ixT (xs := [.int (a : Int), tI r]) (pd_var 2) pd_int (atI_nat (j := 0) rfl)) pds_nil))) ⟨gd, gt, hl⟩ fun _ h => h) nd ?_
    refine rg_when (k := true) (td_cmp c_eqI (pd_lenT (xs := [.int (a : Int), tI r]) b.len (pd_var 2)) pd_int) (fun _ => ?_) fun h => by cases h
    refine rg_retD (d := (tell (rowsOf q tb) (.row a r)).d) (pd_if (td_cmp (c_inRows (by have := hr.un; omega)) (pd_ixT (xs := [.int (a : Int), tI r]) (pd_var 2) pd_int (atI_nat (j := 1) rfl)) (pd_var 3)) (fun h => ?_) fun h => ?_) rfl
    · exact PD.of (pd_tup (pds_cons pd_str pds_nil)) (by rw [tell_rt (of_decide_eq_true h)]; rfl)
    · exact PD.of (pd_tup (pds_cons pd_str pds_nil)) (by rw [tell_rf (of_decide_eq_false h)]; rfl)
abbrev SpFar (T : List (Addr × Str)) (K : PySem.W.Frag) : Sp := SpF T K (fun x : Option Gap × Nat × Its => [goD x.1, .int (x.2.1 : Int), x.2.2.d]) (fun _ => True) (fun x d => d = goD (farther x.1 x.2.1 x.2.2))
theorem ok_farthest (b : Bl mg) (F : At K mg "farthest" s_farthest ["best", "atom", "its"]) : DfOk P w K mg base 1 "farthest" ["best", "atom", "its"] (SpFar T K) := by
  refine df_mk F sc_farthest (fun _ => rfl) fun f cd A' outer s H E hr x _ => ?_
  obtain ⟨best, a, its⟩ := x
  cases its with
  | there => exact rg_when (k := true) (td_cmp c_neS (pd_ixT (xs := [.str "there"]) (pd_var 2) pd_int (atI_nat (j := 0) rfl)) pd_str) (fun _ => rg_retD (pd_var 0) rfl) fun h => by cases h
  | away => exact rg_when (k := true) (td_cmp c_neS (pd_ixT (xs := [.str "away"]) (pd_var 2) pd_int (atI_nat (j := 0) rfl)) pd_str) (fun _ => rg_retD (pd_var 0) rfl) fun h => by cases h
  | gap lo hi =>
    refine rg_when (k := false) (td_cmp c_neS (pd_ixT (xs := [.str "gap", oi lo, oi hi]) (pd_var 2) pd_int (atI_nat (j := 0) rfl)) pd_str) (fun h => by cases h) fun _ => ?_
    cases best with
    | none =>
      exact rg_when (k := true) (WD.td (wd_or (k := true) (k' := true) (td_cmp c_isN (pd_var 0) pd_non) fun h => by cases h)) (fun _ => rg_retD (pd_tup (pds_cons (pd_var 1) (pds_cons (pd_ixT (xs := [.str "gap", oi lo, oi hi]) (pd_var 2) pd_int (atI_nat (j := 1) rfl)) (pds_cons (pd_ixT (xs := [.str "gap", oi lo, oi hi]) (pd_var 2) pd_int (atI_nat (j := 2) rfl)) pds_nil)))) rfl) fun h => by cases h
    | some g =>
      obtain ⟨ga, glo, ghi⟩ := g
      cases ghi with
      | none =>
        refine rg_when (k := false) (WD.td (wd_or (k := false) (k' := false) (td_cmp c_isN (pd_var 0) pd_non) fun _ => wd_or1 (WD.td (wd_and (k := false) (k' := true) (td_cmp c_notN (pd_ixT (xs := [.int (ga : Int), oi glo, .non]) (pd_var 0) pd_int (atI_nat (j := 2) rfl)) pd_non) fun h => by cases h)))) (fun h => by cases h) fun _ => ?_
        exact rg_retD (pd_var 0) rfl
      | some y =>
        cases hi with
        | none =>
          refine rg_when (k := true) (WD.td (wd_or (k := false) (k' := true) (td_cmp c_isN (pd_var 0) pd_non) fun _ => wd_or1 (WD.td (wd_and (k := true) (k' := true) (td_cmp c_notN (pd_ixT (xs := [.int (ga : Int), oi glo, .int y]) (pd_var 0) pd_int (atI_nat (j := 2) rfl)) pd_non) fun _ => wd_and1 (WD.td (wd_or (k := true) (k' := true) (td_cmp c_isN (pd_ixT (xs := [.str "gap", oi lo, .non]) (pd_var 2) pd_int (atI_nat (j := 2) rfl)) pd_non) fun h => by cases h)))))) (fun _ => ?_) fun h => by cases h
          exact rg_retD (pd_tup (pds_cons (pd_var 1) (pds_cons (pd_ixT (xs := [.str "gap", oi lo, .non]) (pd_var 2) pd_int (atI_nat (j := 1) rfl)) (pds_cons (pd_ixT (xs := [.str "gap", oi lo, .non]) (pd_var 2) pd_int (atI_nat (j := 2) rfl)) pds_nil)))) rfl
        | some z =>
          refine rg_when (k := decide (y < z)) (TD.of (WD.td (wd_or (k := false) (k' := true && (false || decide (y < z))) (td_cmp c_isN (pd_var 0) pd_non) fun _ => wd_or1 (WD.td (wd_and (k := true) (k' := false || decide (y < z)) (td_cmp c_notN (pd_ixT (xs := [.int (ga : Int), oi glo, .int y]) (pd_var 0) pd_int (atI_nat (j := 2) rfl)) pd_non) fun _ => wd_and1 (WD.td (wd_or (k := false) (k' := decide (y < z)) (td_cmp c_isN (pd_ixT (xs := [.str "gap", oi lo, .int z]) (pd_var 2) pd_int (atI_nat (j := 2) rfl)) pd_non) fun _ =>
            wd_or1 (td_cmp c_gt (pd_ixT (xs := [.str "gap", oi lo, .int z]) (pd_var 2) pd_int (atI_nat (j := 2) rfl)) (pd_ixT (xs := [.int (ga : Int), oi glo, .int y]) (pd_var 0) pd_int (atI_nat (j := 2) rfl))))))))) (by simp)) (fun h => ?_) fun h => ?_
          · refine rg_retD (pd_tup (pds_cons (pd_var 1) (pds_cons (pd_ixT (xs := [.str "gap", oi lo, .int z]) (pd_var 2) pd_int (atI_nat (j := 1) rfl)) (pds_cons (pd_ixT (xs := [.str "gap", oi lo, .int z]) (pd_var 2) pd_int (atI_nat (j := 2) rfl)) pds_nil)))) ?_
            show _ = goD (if y < z then _ else _)
            rw [if_pos (of_decide_eq_true h)]
            rfl
          · refine rg_retD (pd_var 0) ?_
            show _ = goD (if y < z then _ else _)
            rw [if_neg (of_decide_eq_false h)]
end
end E
namespace E
open LamX L2 PyProof.Rows PySem PySem.Spec
def D.isNon : D → Bool
  | .non => true
  | _ => false
theorem put_non {l : Lv} {x : Int} {w s : D} (h : s.isNon = true) : l.put x w s = ⟨l.gaps, l.vals ++ [(x, w)], l.br⟩ := by cases s <;> first | rfl | cases h
theorem put_some {l : Lv} {x : Int} {w s : D} (h : s.isNon = false) : l.put x w s = ⟨l.gaps, l.vals ++ [(x, w)], l.br ++ [(x, s)]⟩ := by cases s <;> first | rfl | cases h
theorem pd_unit {X : Cx} {T : List (Addr × Str)} {ds : List Sl} {k : Nat} {pos : Pos} : PD X T (.Tuple [] k pos) ds (.tup []) := pd_tup pds_nil (Nat.zero_le _)
theorem c_isNon {X : Cx} {T : List (Addr × Str)} {x : D} : CmpD X T .Is x .non x.isNon := by
  have h := c_isN (X := X) (T := T) (x := x)
  cases x <;> exact h
section
variable {P : Program} {w : World} {K : PySem.W.Frag} {mg : Str → Option Value} {base : Heap} {T : List (Addr × Str)}
abbrev SpRange (T : List (Addr × Str)) (K : PySem.W.Frag) : Sp := SpF T K (fun x : Qn × Str => [x.1.d, .str x.2]) (fun _ => True) (fun x d => d = .tup [oi (x.1.rangeOf x.2).1, oi (x.1.rangeOf x.2).2])
abbrev SpGo (T : List (Addr × Str)) (K : PySem.W.Frag) : Sp := SpF T K (fun x : Qn × Str × List Int × Option Int × Lv => [x.1.d, .str x.2.1, tI x.2.2.1, oi x.2.2.2.1, x.2.2.2.2.d]) (fun _ => True) (fun x d => d = (x.1.going x.2.1 x.2.2.1 x.2.2.2.1 x.2.2.2.2).d)
theorem ok_going_on (b : Bl mg) (F : At K mg "going_on" s_going_on ["question", "column", "prefix", "x", "level"]) (A1 : DfOk P w K mg base 1 "range_of" ["question", "column"] (SpRange T K)) : DfOk P w K mg base 2 "going_on" ["question", "column", "prefix", "x", "level"] (SpGo T K) := by
  refine df_mk F sc_going_on (fun _ => rfl) fun f cd A' outer s H E hr x _ => ?_
  obtain ⟨q, c, p, x, lv⟩ := x
  have nd := sc_going_on.nd
  refine rg_asg (d := oi (q.rangeOf c).2) 5 (pd_ixT (pd_call A1 hr (q, c) (pds_cons (pd_var 0) (pds_cons (pd_var 1) pds_nil)) trivial fun _ h => h) pd_int (atI_nat (j := 1) rfl)) nd ?_
  cases x with
  | none =>
    refine rg_when (k := true) (WD.td (wd_or (k := true) (k' := true) (td_cmp c_isN (pd_var 3) pd_non) fun h => by cases h)) (fun _ => ?_) fun h => by cases h
    refine rg_retD (pd_tup (pds_cons (pd_var 1) (pds_cons (pd_var 2) (pds_cons pd_non (pds_cons pd_str (pds_cons pd_int (pds_cons pd_non (pds_cons (pd_var 4) (pds_cons pd_non pds_nil))))))))) ?_
    rfl
  | some v =>
    cases hh : (q.rangeOf c).2 with
    | none =>
      refine rg_when (k := false) (WD.td (wd_or (k := false) (k' := false) (td_cmp c_isN (pd_var 3) pd_non) fun _ => wd_or1 (WD.td (wd_and (k := false) (k' := true) (td_cmp c_notN (pd_var 5) pd_non) fun h => by cases h)))) (fun h => by cases h) fun _ => ?_
      refine rg_retD (pd_tup (pds_cons (pd_var 1) (pds_cons (pd_var 2) (pds_cons (pd_var 3) (pds_cons pd_str (pds_cons pd_int (pds_cons pd_non (pds_cons (pd_var 4) (pds_cons pd_non pds_nil))))))))) ?_
      show _ = (q.going c p (some v) lv).d
      unfold Qn.going
      rw [hh]
      rfl
    | some y =>
      refine rg_when (k := decide (y < v)) (TD.of (WD.td (wd_or (k := false) (k' := true && decide (y < v)) (td_cmp c_isN (pd_var 3) pd_non) fun _ => wd_or1 (WD.td (wd_and (k := true) (k' := decide (y < v)) (td_cmp c_notN (pd_var 5) pd_non) fun _ => wd_and1 (td_cmp c_gt (pd_var 3) (pd_var 5)))))) (by simp)) (fun h => ?_) fun h => ?_
      · refine rg_retD (pd_tup (pds_cons (pd_var 1) (pds_cons (pd_var 2) (pds_cons pd_non (pds_cons pd_str (pds_cons pd_int (pds_cons pd_non (pds_cons (pd_var 4) (pds_cons pd_non pds_nil))))))))) ?_
        show _ = (q.going c p (some v) lv).d
        unfold Qn.going
        rw [hh]
        show _ = (if y < v then _ else _ : Cst).d
        rw [if_pos (of_decide_eq_true h)]
        rfl
      · refine rg_retD (pd_tup (pds_cons (pd_var 1) (pds_cons (pd_var 2) (pds_cons (pd_var 3) (pds_cons pd_str (pds_cons pd_int (pds_cons pd_non (pds_cons (pd_var 4) (pds_cons pd_non pds_nil))))))))) ?_
        show _ = (q.going c p (some v) lv).d
        unfold Qn.going
        rw [hh]
        show _ = (if y < v then _ else _ : Cst).d
        rw [if_neg (of_decide_eq_false h)]
        rfl
abbrev SpStart (T : List (Addr × Str)) (K : PySem.W.Frag) : Sp := SpF T K (fun x : Qn × Str × List Int => [x.1.d, .str x.2.1, tI x.2.2]) (fun _ => True) (fun x d => d = (x.1.start x.2.2 x.2.1).d)
theorem ok_started (b : Bl mg) (F : At K mg "started" s_started ["question", "column", "prefix"]) (A1 : DfOk P w K mg base 1 "range_of" ["question", "column"] (SpRange T K)) : DfOk P w K mg base 2 "started" ["question", "column", "prefix"] (SpStart T K) := by
  refine df_mk F sc_started (fun _ => rfl) fun f cd A' outer s H E hr x _ => ?_
  obtain ⟨q, c, p⟩ := x
  refine rg_retD (pd_tup (pds_cons (pd_var 1) (pds_cons (pd_var 2) (pds_cons (pd_ixT (pd_call A1 hr (q, c) (pds_cons (pd_var 0) (pds_cons (pd_var 1) pds_nil)) trivial fun _ h => h) pd_int (atI_nat (j := 0) rfl)) (pds_cons pd_str (pds_cons pd_int (pds_cons pd_non (pds_cons (pd_tup (pds_cons pd_unit (pds_cons pd_unit (pds_cons pd_unit pds_nil)))) (pds_cons pd_non pds_nil))))))))) ?_
  rfl
abbrev SpPut (T : List (Addr × Str)) (K : PySem.W.Frag) : Sp := SpF T K (fun x : Lv × Int × D × D => [x.1.d, .int x.2.1, x.2.2.1, x.2.2.2]) (fun x => x.1.sz ≤ 1000000) (fun x d => d = (x.1.put x.2.1 x.2.2.1 x.2.2.2).d)
theorem ok_put_value (b : Bl mg) (F : At K mg "put_value" s_put_value ["level", "x", "what", "shape"]) : DfOk P w K mg base 1 "put_value" ["level", "x", "what", "shape"] (SpPut T K) := by
  refine df_mk F sc_put_value (fun _ => rfl) fun f cd A' outer s H E hr x hx => ?_
  obtain ⟨lv, x, what, shape⟩ := x
  have nd := sc_put_value.nd
  have hx : lv.gaps.length + lv.vals.length + lv.br.length ≤ 1000000 := hx
  have hz : (1000002 : Nat) ≤ sizeLine := by decide
  refine rg_pat (pat := .tp [.nm 4, .nm 5, .nm 6]) (d := lv.d) (pd_var 0) (pat_tp (pats_cons (pat_nm 4 nd) (pats_cons (pat_nm 5 nd) (pats_cons (pat_nm 6 nd) pats_nil)))) rfl ?_
  refine rg_retD (d := (lv.put x what shape).d) (PD.of (pd_tup (dl := [.tup (lv.gaps.map Gap.d), .tup (lv.vals.map pD ++ [.tup [.int x, what]]), .tup ((lv.put x what shape).br.map pD)]) (pds_cons (pd_var 4) (pds_cons (pd_tup (pds_starT (pd_var 5) (pds_cons (pd_tup (pds_cons (pd_var 1) (pds_cons (pd_var 2) pds_nil))) pds_nil)) ?_) (pds_cons (pd_if (td_cmp c_isNon (pd_var 3) pd_non) (fun h => ?_) fun h => ?_) pds_nil)))) ?_) rfl
  · simp only [List.length_append, List.length_map, List.length_cons, List.length_nil]; omega
  · rw [put_non h]; exact pd_var 6
  · rw [put_some h]
    refine PD.of (pd_tup (pds_starT (pd_var 6) (pds_cons (pd_tup (pds_cons (pd_var 1) (pds_cons (pd_var 3) pds_nil))) pds_nil)) ?_) ?_
    · simp only [List.length_append, List.length_map, List.length_cons, List.length_nil]; omega
    · show D.tup _ = D.tup _
      rw [List.map_append]
      rfl
  · cases h : shape.isNon with
    | true => rw [put_non h]; unfold Lv.d; simp only [List.map_append]; rfl
    | false => rw [put_some h]; unfold Lv.d; simp only [List.map_append]; rfl
abbrev SpSibs (T : List (Addr × Str)) (K : PySem.W.Frag) : Sp := SpF T K (fun x : Qn × List Str × List Int => [x.1.d, tS x.2.1, tI x.2.2]) (fun x => x.2.1.length ≤ 1000) (fun x d => d = (x.1.sibs x.2.1 x.2.2).d)
theorem ok_siblings (b : Bl mg) (F : At K mg "siblings" s_siblings ["question", "columns", "prefix"]) (A1 : DfOk P w K mg base 2 "started" ["question", "column", "prefix"] (SpStart T K)) : DfOk P w K mg base 3 "siblings" ["question", "columns", "prefix"] (SpSibs T K) := by
  refine df_mk F sc_siblings (fun _ => rfl) fun f cd A' outer s H E hr x hx => ?_
  obtain ⟨q, cols, p⟩ := x
  have nd := sc_siblings.nd
  refine rg_when (k := (cols.map D.str).isEmpty) (td_cmp (c_eqT0 (by have := hr.un; omega)) (pd_var 1) pd_unit) (fun h => ?_) fun h => ?_
  · have e : cols = [] := by cases cols with | nil => rfl | cons _ _ => cases h
    subst e
    exact rg_retD (pd_tup (pds_cons pd_str (pds_cons pd_unit (pds_cons (pd_tup (pds_cons pd_str (pds_cons pd_unit pds_nil))) pds_nil)))) rfl
  · have e : cols ≠ [] := by intro e; subst e; cases h
    refine rg_retD (d := (q.sibs cols p).d) (PD.of (pd_tup (pds_cons pd_str (pds_cons pd_int (pds_cons (pd_tupleL b.tuple (PL.pd (PLc.pl (plc_fm (pat := .nm 3) (xs := cols) (it := D.str) (t := fun _ => true) (g := fun c => (q.start p c).d)
      (src_tup (pd_var 1)) (fun _ _ _ _ _ => pat_nm 3 nd) (blkOk_by (N := N_siblings) (sc := defScope s_siblings) (own := [("column", 3)]) (by decide +kernel)) nd (fits hx) fun c hc => ⟨_, rfl, ?_, ?_⟩)))) pds_nil)))) ?_) rfl
    · rfl
    · exact fun _ _ _ _ _ _ => pd_call A1 hr (q, c, p) (pds_cons (pd_var 0) (pds_cons (pd_var 3) (pds_cons (pd_var 2) pds_nil))) trivial fun _ h => h
    · unfold Qn.sibs
      rw [if_neg e, List.filter_eq_self.mpr (fun _ _ => rfl)]
      show D.tup _ = D.tup [_, _, .tup (Cst.ds _)]
      rw [cds_map, List.map_map]
      rfl
end
end E
namespace E
open LamX L2 PyProof.Rows PySem PySem.Spec
section
variable {P : Program} {w : World} {K : PySem.W.Frag} {mg : Str → Option Value} {base : Heap} {T : List (Addr × Str)}
/-- a column's state, x a number -/
abbrev stD (c : Str) (p : List Int) (x : Int) (lv : Lv) (r : D × D × D × D) : D := .tup [.str c, tI p, .int x, r.1, r.2.1, r.2.2.1, lv.d, r.2.2.2]
theorem tI_snoc (p : List Int) (x : Int) : D.tup (p.map D.int ++ [.int x]) = tI (p ++ [x]) := by rw [tI, List.map_append]; rfl
abbrev SpBelow (T : List (Addr × Str)) (K : PySem.W.Frag) : Sp := SpF T K (fun y : Qn × Str × List Int × Int × Lv × (D × D × D × D) => [y.1.d, stD y.2.1 y.2.2.1 y.2.2.2.1 y.2.2.2.2.1 y.2.2.2.2.2]) (fun y => StOk y.1 y.2.1 y.2.2.1 y.2.2.2.2.1) (fun y d => d = (y.1.below y.2.1 y.2.2.1 y.2.2.2.1 y.2.2.2.2.1).d)
theorem kids_len (q : Qn) (c : Option Str) (gd : Gd q) : (q.kids c).length ≤ 1000 := Nat.le_trans (List.length_filter_le _ _) gd.sc
theorem ok_below (b : Bl mg) (F : At K mg "below" s_below ["question", "state"]) (A1 : DfOk P w K mg base 3 "siblings" ["question", "columns", "prefix"] (SpSibs T K)) (A2 : DfOk P w K mg base 9 "children_of" ["question", "column"] (SpQ2 T K fun q c => tS (q.kids (some c))))
    (A3 : DfOk P w K mg base 2 "going_on" ["question", "column", "prefix", "x", "level"] (SpGo T K)) (A4 : DfOk P w K mg base 1 "put_value" ["level", "x", "what", "shape"] (SpPut T K)) : DfOk P w K mg base 10 "below" ["question", "state"] (SpBelow T K) := by
  refine df_mk F sc_below (fun _ => rfl) fun f cd A' outer s H E hr y hy => ?_
  obtain ⟨q, c, p, x, lv, r3, r4, r5, r7⟩ := y
  obtain ⟨gd, hc, hlv, hp⟩ := hy
  have nd := sc_below.nd
  have hz : (2000 : Nat) ≤ sizeLine := by decide
  refine rg_pat (pat := .tp [.nm 2, .nm 3, .nm 4, .nm 5]) (d := .tup [.str c, tI p, .int x, lv.d]) (PD.of (pd_tup (pds_starT (pd_slTo (n := 3) (xs := [.str c, tI p, .int x, r3, r4, r5, lv.d, r7]) (pd_var 1) pd_int) (pds_cons (pd_ixT (xs := [.str c, tI p, .int x, r3, r4, r5, lv.d, r7]) (pd_var 1) pd_int (atI_nat (j := 6) rfl)) pds_nil))) rfl)
    (pat_tp (pats_cons (pat_nm 2 nd) (pats_cons (pat_nm 3 nd) (pats_cons (pat_nm 4 nd) (pats_cons (pat_nm 5 nd) pats_nil))))) rfl ?_
  refine rg_asg (d := (q.sibs (q.kids (some c)) (p ++ [x])).d) 6 (pd_call A1 (hr.mono (by decide)) (q, q.kids (some c), p ++ [x]) (pds_cons (pd_var 0) (pds_cons (pd_call A2 hr (q, c) (pds_cons (pd_var 0) (pds_cons (pd_var 2) pds_nil)) ⟨gd, hc⟩ fun _ h => h) (pds_cons (PD.of (pd_tup (pds_starT (pd_var 3) (pds_cons (pd_var 4) pds_nil)) ?_) (tI_snoc p x)) pds_nil))) (kids_len q _ gd) fun _ h => h) nd ?_
  · rw [List.length_append, List.length_map]
    show p.length + 1 ≤ _
    have hp : p.length ≤ 1000 := hp
    omega
  have ht : (q.below c p x lv).d = (q.onto c p x lv (q.sibs (q.kids (some c)) (p ++ [x]))).d := rfl
  show RG _ _ _ _ { rt := fun d => d = (q.below c p x lv).d }
  rw [ht]
  generalize q.sibs (q.kids (some c)) (p ++ [x]) = st
  cases st with
  | fin sh pa =>
    refine rg_when (k := true) (td_cmp c_eqS (pd_ixT (xs := [.str "ended", sh, pa]) (pd_var 6) pd_int (atI_nat (j := 0) rfl)) pd_str) (fun _ => ?_) fun h => by cases h
    exact rg_retD (pd_call A3 (hr.mono (by decide)) (q, c, p, some (x + 1), lv.put x pa sh) (pds_cons (pd_var 0) (pds_cons (pd_var 2) (pds_cons (pd_var 3) (pds_cons (pd_add (pd_var 4) pd_int) (pds_cons (pd_call A4 (hr.mono (by decide)) (lv, x, pa, sh) (pds_cons (pd_var 5) (pds_cons (pd_var 4) (pds_cons (pd_ixT (xs := [.str "ended", sh, pa]) (pd_var 6) pd_int (atI_nat (j := 2) rfl)) (pds_cons (pd_ixT (xs := [.str "ended", sh, pa]) (pd_var 6) pd_int (atI_nat (j := 1) rfl)) pds_nil)))) hlv fun _ h => h) pds_nil))))) trivial fun _ h => h) rfl
  | run i ps =>
    refine rg_when (k := false) (td_cmp c_eqS (pd_ixT (xs := [.str "turn", .int (i : Int), .tup (Cst.ds ps)]) (pd_var 6) pd_int (atI_nat (j := 0) rfl)) pd_str) (fun h => by cases h) fun _ => ?_
    exact rg_retD (pd_tup (pds_cons (pd_var 2) (pds_cons (pd_var 3) (pds_cons (pd_var 4) (pds_cons pd_str (pds_cons pd_int (pds_cons pd_non (pds_cons (pd_var 5) (pds_cons (pd_var 6) pds_nil))))))))) rfl
/-- what behind_has makes -/
def Qn.hasStep (q : Qn) (c : Str) (p : List Int) (x : Option Int) (i : Nat) (b : Option Gap) (lv : Lv) (its : Its) : Cst :=
  if i + 1 < (q.thru c).length then .has c p x (i + 1) (farther b ((q.thru c).getD i 0) its) lv else q.hasEnd c p lv x (farther b ((q.thru c).getD i 0) its)
abbrev SpHas (T : List (Addr × Str)) (K : PySem.W.Frag) : Sp := SpF T K (fun y : Qn × Str × List Int × Option Int × Nat × Option Gap × Lv × Its => [y.1.d, (Cst.has y.2.1 y.2.2.1 y.2.2.2.1 y.2.2.2.2.1 y.2.2.2.2.2.1 y.2.2.2.2.2.2.1).d, y.2.2.2.2.2.2.2.d])
  (fun y => StOk y.1 y.2.1 y.2.2.1 y.2.2.2.2.2.2.1 ∧ y.2.2.2.2.1 < (y.1.thru y.2.1).length ∧ (¬ y.2.2.2.2.1 + 1 < (y.1.thru y.2.1).length → y.2.2.2.1 = none → farther y.2.2.2.2.2.1 ((y.1.thru y.2.1).getD y.2.2.2.2.1 0) y.2.2.2.2.2.2.2 ≠ none))
  (fun y d => d = (y.1.hasStep y.2.1 y.2.2.1 y.2.2.2.1 y.2.2.2.2.1 y.2.2.2.2.2.1 y.2.2.2.2.2.2.1 y.2.2.2.2.2.2.2).d)
abbrev SpThru (T : List (Addr × Str)) (K : PySem.W.Frag) : Sp := SpF T K (fun x : Qn × Str => [x.1.d, .str x.2]) (fun x => Gd x.1) (fun x d => d = tN (x.1.thru x.2))
abbrev SpEnds (T : List (Addr × Str)) (K : PySem.W.Frag) : Sp := SpF T K (fun x : Qn × Str => [x.1.d, .str x.2]) (fun x => Gd x.1) (fun x d => d = tN (x.1.ends x.2))
theorem dN_at {l : List Nat} {i : Nat} (h : i < l.length) : (dN l)[i]? = some (.int ((l.getD i 0 : Nat) : Int)) := by
  unfold dN
  rw [List.getElem?_map, List.getD_eq_getElem?_getD, List.getElem?_eq_getElem h]
  rfl
theorem dN_len (l : List Nat) : (dN l).length = l.length := List.length_map ..
theorem ok_behind_has (b : Bl mg) (F : At K mg "behind_has" s_behind_has ["question", "state", "its"]) (A1 : DfOk P w K mg base 2 "through" ["question", "column"] (SpThru T K)) (A2 : DfOk P w K mg base 1 "farthest" ["best", "atom", "its"] (SpFar T K))
    (A3 : DfOk P w K mg base 2 "going_on" ["question", "column", "prefix", "x", "level"] (SpGo T K)) (A4 : DfOk P w K mg base 13 "ending" ["question", "column"] (SpEnds T K)) (A5 : DfOk P w K mg base 10 "below" ["question", "state"] (SpBelow T K)) :
    DfOk P w K mg base 14 "behind_has" ["question", "state", "its"] (SpHas T K) := by
  refine df_mk F sc_behind_has (fun _ => rfl) fun f cd A' outer s H E hr y hy => ?_
  obtain ⟨q, c, p, x, i, best, lv, its⟩ := y
  obtain ⟨so, hi, hx⟩ := hy
  have gd := so.gd
  have nd := sc_behind_has.nd
  have hi : i < (q.thru c).length := hi
  have hlv : lv.gaps.length + lv.vals.length + lv.br.length ≤ 1000000 := so.lv
  have hz : (1000002 : Nat) ≤ sizeLine := by decide
  refine rg_pat (pat := .tp [.nm 3, .nm 4, .nm 5, .nm 6, .nm 7, .nm 8, .nm 9, .nm 10]) (d := (Cst.has c p x i best lv).d) (ds' := [.dat q.d, .dat (Cst.has c p x i best lv).d, .dat its.d, .dat (.str c), .dat (tI p), .dat (oi x), .dat (.str "has"), .dat (.int (i : Int)), .dat (goD best), .dat lv.d, .dat .non, .no]) (pd_var 1)
    (pat_tp (pats_cons (pat_nm 3 nd) (pats_cons (pat_nm 4 nd) (pats_cons (pat_nm 5 nd) (pats_cons (pat_nm 6 nd) (pats_cons (pat_nm 7 nd) (pats_cons (pat_nm 8 nd) (pats_cons (pat_nm 9 nd) (pats_cons (pat_nm 10 nd) pats_nil))))))))) rfl ?_
  refine rg_asg (d := tN (q.thru c)) 11 (pd_call A1 (hr.mono (by decide)) (q, c) (pds_cons (pd_var 0) (pds_cons (pd_var 3) pds_nil)) gd fun _ h => h) nd ?_
  refine rg_asg (d := goD (farther best ((q.thru c).getD i 0) its)) 8 (pd_call A2 (hr.mono (by decide)) (best, (q.thru c).getD i 0, its) (pds_cons (pd_var 8) (pds_cons (pd_ixT (pd_var 11) (pd_var 7) (atI_nat (dN_at hi))) (pds_cons (pd_var 2) pds_nil))) trivial fun _ h => h) nd ?_
  show RG _ _ _ [.dat q.d, .dat (Cst.has c p x i best lv).d, .dat its.d, .dat (.str c), .dat (tI p), .dat (oi x), .dat (.str "has"), .dat (.int (i : Int)), .dat (goD (farther best ((q.thru c).getD i 0) its)), .dat lv.d, .dat .non, .dat (tN (q.thru c))] _
  refine rg_when (k := decide (((i : Int) + 1) < (((dN (q.thru c)).length : Nat) : Int))) (td_cmp c_lt (pd_add (pd_var 7) pd_int) (pd_lenT b.len (pd_var 11))) (fun h => ?_) fun h => ?_
  · have h' : i + 1 < (q.thru c).length := by have := of_decide_eq_true h; rw [dN_len] at this; omega
    refine rg_retD (pd_tup (pds_cons (pd_var 3) (pds_cons (pd_var 4) (pds_cons (pd_var 5) (pds_cons pd_str (pds_cons (pd_add (pd_var 7) pd_int) (pds_cons (pd_var 8) (pds_cons (pd_var 9) (pds_cons pd_non pds_nil))))))))) ?_
    show _ = (q.hasStep c p x i best lv its).d
    unfold Qn.hasStep
    rw [if_pos h']
    rfl
  have h' : ¬ i + 1 < (q.thru c).length := by have := of_decide_eq_false h; rw [dN_len] at this; omega
  have he : (q.hasStep c p x i best lv its) = q.hasEnd c p lv x (farther best ((q.thru c).getD i 0) its) := by unfold Qn.hasStep; rw [if_neg h']
  show RG _ _ _ _ { rt := fun d => d = (q.hasStep c p x i best lv its).d }
  rw [he]
  have hx : x = none → farther best ((q.thru c).getD i 0) its ≠ none := hx h'
  revert hx
  generalize farther best ((q.thru c).getD i 0) its = fb
  intro hx
  cases fb with
  | some g =>
    refine rg_when (k := true) (td_cmp c_notN (pd_var 8) pd_non) (fun _ => ?_) fun h => by cases h
    refine rg_retD (d := (q.going c p g.hi ⟨lv.gaps ++ [g], lv.vals, lv.br⟩).d) (pd_call A3 (hr.mono (by decide)) (q, c, p, g.hi, ⟨lv.gaps ++ [g], lv.vals, lv.br⟩) (pds_cons (pd_var 0) (pds_cons (pd_var 3) (pds_cons (pd_var 4) (pds_cons (pd_ixT (xs := [.int (g.a : Int), oi g.lo, oi g.hi]) (pd_var 8) pd_int (atI_nat (j := 2) rfl)) (pds_cons (PD.of (pd_tup (pds_cons (pd_tup (pds_starT (pd_ixT (xs := [.tup (lv.gaps.map Gap.d), .tup (lv.vals.map pD), .tup (lv.br.map pD)]) (pd_var 9) pd_int (atI_nat (j := 0) rfl)) (pds_cons (pd_var 8) pds_nil)) ?_)
      (pds_cons (pd_ixT (xs := [.tup (lv.gaps.map Gap.d), .tup (lv.vals.map pD), .tup (lv.br.map pD)]) (pd_var 9) pd_int (atI_nat (j := 1) rfl)) (pds_cons (pd_ixT (xs := [.tup (lv.gaps.map Gap.d), .tup (lv.vals.map pD), .tup (lv.br.map pD)]) (pd_var 9) pd_int (atI_nat (j := 2) rfl)) pds_nil)))) ?_) pds_nil))))) trivial fun _ h => h) ?_
    · simp only [List.length_append, List.length_map, List.length_cons, List.length_nil]; omega
    · unfold Lv.d
      simp only [List.map_append]
      rfl
    · cases x <;> rfl
  | none =>
    obtain ⟨v, rfl⟩ : ∃ v, x = some v := by
      cases x with
      | none => exact absurd rfl (hx rfl)
      | some v => exact ⟨v, rfl⟩
    refine rg_when (k := false) (td_cmp c_notN (pd_var 8) pd_non) (fun h => by cases h) fun _ => ?_
    refine rg_when (k := !(dN (q.ends c)).isEmpty) (td_cmp (c_neT0 (by have := hr.un; omega)) (pd_call A4 hr (q, c) (pds_cons (pd_var 0) (pds_cons (pd_var 3) pds_nil)) gd fun _ h => h) pd_unit) (fun h => ?_) fun h => ?_
    · have hne : q.ends c ≠ [] := by intro e; rw [e] at h; cases h
      refine rg_retD (pd_tup (pds_cons (pd_var 3) (pds_cons (pd_var 4) (pds_cons (pd_var 5) (pds_cons pd_str (pds_cons pd_int (pds_cons pd_non (pds_cons (pd_var 9) (pds_cons pd_non pds_nil))))))))) ?_
      show _ = (if q.ends c = [] then _ else _ : Cst).d
      rw [if_neg hne]
      rfl
    · have hne : q.ends c = [] := by
        cases e : q.ends c with
        | nil => rfl
        | cons a l => rw [e] at h; cases h
      refine rg_retD (pd_call A5 (hr.mono (by decide)) (q, c, p, v, lv, (.str "has", .int (i : Int), goD best, .non)) (pds_cons (pd_var 0) (pds_cons (pd_var 1) pds_nil)) so fun _ h => h) ?_
      show _ = (if q.ends c = [] then _ else _ : Cst).d
      rw [if_pos hne]
end
end E
namespace E
open LamX L2 PyProof.Rows PySem PySem.Spec
def Its.isThere : Its → Bool
  | .there => true
  | _ => false
theorem its_facts (t : Its) : t.d.pl = true ∧ SeqAt.shaped t.d.py = true ∧ PyData.eqv t.d.py (D.tup [.str "there"]).py = t.isThere := by
  cases t with
  | there => exact ⟨rfl, by decide +kernel, by decide +kernel⟩
  | away => exact ⟨rfl, by decide +kernel, by decide +kernel⟩
  | gap lo hi =>
    refine ⟨by cases lo <;> cases hi <;> rfl, ?_, ?_⟩
    · have h1 : SeqAt.shaped (D.tup [.str "gap"]).py = true := by decide +kernel
      have hs : PyData.canLay0 (.str "gap") = true := by decide +kernel
      unfold SeqAt.shaped
      rw [Bool.and_eq_true, decide_eq_true_eq]
      refine ⟨?_, ?_⟩
      · show PyData.canLayAll0 [.str "gap", (oi lo).py, (oi hi).py] = true
        rw [PyData.canLayAll0, hs]
        cases lo <;> cases hi <;> rfl
      · cases lo <;> cases hi <;> exact Nat.le_of_ble_eq_true rfl
    · cases lo <;> cases hi <;> simp [Its.d, D.py, D.pys, PyData.eqv, PyData.eqvAll, Its.isThere]
section
variable {P : Program} {w : World} {K : PySem.W.Frag} {mg : Str → Option Value} {base : Heap} {T : List (Addr × Str)}
theorem c_there {X : Cx} (t : Its) (hu : X.A.units + 64 < cLine) : CmpD X T .Eq t.d (.tup [.str "there"]) t.isThere := by
  obtain ⟨h1, h2, h3⟩ := its_facts t
  obtain ⟨k1, k2, _⟩ := its_facts .there
  have h := c_eqD (X := X) (T := T) (x := t.d) (y := .tup [.str "there"]) h1 k1 h2 k2 hu
  rw [h3] at h
  exact h
/-- what behind_not makes -/
def Qn.noStep (q : Qn) (c : Str) (p : List Int) (x : Int) (i : Nat) (lv : Lv) (its : Its) : Cst :=
  if its.isThere then q.going c p (some (x + 1)) (lv.put x (.tup [.str "row", .int (((q.ends c).getD i 0 : Nat) : Int)]) .non)
  else if i + 1 < (q.ends c).length then .no c p x (i + 1) lv else q.below c p x lv
abbrev SpNo (T : List (Addr × Str)) (K : PySem.W.Frag) : Sp := SpF T K (fun y : Qn × Str × List Int × Int × Nat × Lv × Its => [y.1.d, (Cst.no y.2.1 y.2.2.1 y.2.2.2.1 y.2.2.2.2.1 y.2.2.2.2.2.1).d, y.2.2.2.2.2.2.d])
  (fun y => StOk y.1 y.2.1 y.2.2.1 y.2.2.2.2.2.1 ∧ y.2.2.2.2.1 < (y.1.ends y.2.1).length)
  (fun y d => d = (y.1.noStep y.2.1 y.2.2.1 y.2.2.2.1 y.2.2.2.2.1 y.2.2.2.2.2.1 y.2.2.2.2.2.2).d)
theorem ok_behind_not (b : Bl mg) (F : At K mg "behind_not" s_behind_not ["question", "state", "its"]) (A2 : DfOk P w K mg base 1 "put_value" ["level", "x", "what", "shape"] (SpPut T K))
    (A3 : DfOk P w K mg base 2 "going_on" ["question", "column", "prefix", "x", "level"] (SpGo T K)) (A4 : DfOk P w K mg base 13 "ending" ["question", "column"] (SpEnds T K)) (A5 : DfOk P w K mg base 10 "below" ["question", "state"] (SpBelow T K)) :
    DfOk P w K mg base 14 "behind_not" ["question", "state", "its"] (SpNo T K) := by
  refine df_mk F sc_behind_not (fun _ => rfl) fun f cd A' outer s H E hr y hy => ?_
  obtain ⟨q, c, p, x, i, lv, its⟩ := y
  obtain ⟨so, hi⟩ := hy
  have gd := so.gd
  have nd := sc_behind_not.nd
  have hi : i < (q.ends c).length := hi
  refine rg_pat (pat := .tp [.nm 3, .nm 4, .nm 5, .nm 6, .nm 7, .nm 8, .nm 9, .nm 10]) (d := (Cst.no c p x i lv).d) (ds' := [.dat q.d, .dat (Cst.no c p x i lv).d, .dat its.d, .dat (.str c), .dat (tI p), .dat (.int x), .dat (.str "not"), .dat (.int (i : Int)), .dat .non, .dat lv.d, .dat .non, .no]) (pd_var 1)
    (pat_tp (pats_cons (pat_nm 3 nd) (pats_cons (pat_nm 4 nd) (pats_cons (pat_nm 5 nd) (pats_cons (pat_nm 6 nd) (pats_cons (pat_nm 7 nd) (pats_cons (pat_nm 8 nd) (pats_cons (pat_nm 9 nd) (pats_cons (pat_nm 10 nd) pats_nil))))))))) rfl ?_
  refine rg_asg (d := tN (q.ends c)) 11 (pd_call A4 hr (q, c) (pds_cons (pd_var 0) (pds_cons (pd_var 3) pds_nil)) gd fun _ h => h) nd ?_
  show RG _ _ _ [.dat q.d, .dat (Cst.no c p x i lv).d, .dat its.d, .dat (.str c), .dat (tI p), .dat (.int x), .dat (.str "not"), .dat (.int (i : Int)), .dat .non, .dat lv.d, .dat .non, .dat (tN (q.ends c))] _
  refine rg_when (k := its.isThere) (td_cmp (c_there its (by have := hr.un; omega)) (pd_var 2) (pd_tup (pds_cons pd_str pds_nil))) (fun h => ?_) fun h => ?_
  · refine rg_retD (d := (q.going c p (some (x + 1)) (lv.put x (.tup [.str "row", .int (((q.ends c).getD i 0 : Nat) : Int)]) .non)).d) (pd_call A3 (hr.mono (by decide)) (q, c, p, some (x + 1), lv.put x (.tup [.str "row", .int (((q.ends c).getD i 0 : Nat) : Int)]) .non) (pds_cons (pd_var 0) (pds_cons (pd_var 3) (pds_cons (pd_var 4) (pds_cons (pd_add (pd_var 5) pd_int) (pds_cons
      (pd_call A2 (hr.mono (by decide)) (lv, x, .tup [.str "row", .int (((q.ends c).getD i 0 : Nat) : Int)], .non) (pds_cons (pd_var 9) (pds_cons (pd_var 5) (pds_cons (pd_tup (pds_cons pd_str (pds_cons (pd_ixT (pd_var 11) (pd_var 7) (atI_nat (dN_at hi))) pds_nil))) (pds_cons pd_non pds_nil)))) so.lv fun _ h => h) pds_nil))))) trivial fun _ h => h) ?_
    show _ = (q.noStep c p x i lv its).d
    unfold Qn.noStep
    rw [if_pos h]
  refine rg_when (k := decide (((i : Int) + 1) < (((dN (q.ends c)).length : Nat) : Int))) (td_cmp c_lt (pd_add (pd_var 7) pd_int) (pd_lenT b.len (pd_var 11))) (fun h' => ?_) fun h' => ?_
  · have h2 : i + 1 < (q.ends c).length := by have := of_decide_eq_true h'; rw [dN_len] at this; omega
    refine rg_retD (pd_tup (pds_cons (pd_var 3) (pds_cons (pd_var 4) (pds_cons (pd_var 5) (pds_cons pd_str (pds_cons (pd_add (pd_var 7) pd_int) (pds_cons pd_non (pds_cons (pd_var 9) (pds_cons pd_non pds_nil))))))))) ?_
    show _ = (q.noStep c p x i lv its).d
    unfold Qn.noStep
    rw [if_neg (by rw [h]; decide), if_pos h2]
    rfl
  · have h2 : ¬ i + 1 < (q.ends c).length := by have := of_decide_eq_false h'; rw [dN_len] at this; omega
    refine rg_retD (pd_call A5 (hr.mono (by decide)) (q, c, p, x, lv, (.str "not", .int (i : Int), .non, .non)) (pds_cons (pd_var 0) (pds_cons (pd_var 1) pds_nil)) so fun _ h => h) ?_
    show _ = (q.noStep c p x i lv its).d
    unfold Qn.noStep
    rw [if_neg (by rw [h]; decide), if_neg h2]
end
end E
namespace E
open LamX L2 PyProof.Rows PySem PySem.Spec
section
variable {P : Program} {w : World} {K : PySem.W.Frag} {mg : Str → Option Value} {base : Heap} {T : List (Addr × Str)}
abbrev SpCW (T : List (Addr × Str)) (K : PySem.W.Frag) (n : Nat) : Sp := SpF T K (fun y : Qn × Cst × Look => [y.1.d, y.2.1.d]) (fun y => CW y.1 (SWn y.1 n) y.2.1 y.2.2) (fun y d => d = y.2.2.d)
abbrev SpSW (T : List (Addr × Str)) (K : PySem.W.Frag) (n : Nat) : Sp := SpF T K (fun y : Qn × Sst × Look => [y.1.d, y.2.1.d]) (fun y => SWn y.1 n y.2.1 y.2.2) (fun y d => d = y.2.2.d)
theorem ok_column_wanted (b : Bl mg) (n : Nat) (F : At K mg "column_wanted" s_column_wanted ["question", "state"]) (A1 : DfOk P w K mg base 2 "through" ["question", "column"] (SpThru T K)) (A2 : DfOk P w K mg base 13 "ending" ["question", "column"] (SpEnds T K))
    (A3 : DfOk P w K mg base (20 + 2 * n) "siblings_wanted" ["question", "state"] (SpSW T K n)) : DfOk P w K mg base (20 + 2 * n + 1) "column_wanted" ["question", "state"] (SpCW T K n) := by
  refine df_mk F sc_column_wanted (fun _ => rfl) fun f cd A' outer s H E hr y hy => ?_
  obtain ⟨q, st, l⟩ := y
  have nd := sc_column_wanted.nd
  have hz : (2000 : Nat) ≤ sizeLine := by decide
  have hy : CW q (SWn q n) st l := hy
  cases hy with
  | has c p x i bst lv so hi =>
    refine rg_pat (pat := .tp [.nm 2, .nm 3, .nm 4, .nm 5, .nm 6]) (d := .tup [.str c, tI p, oi x, .str "has", .int (i : Int)]) (ds' := [.dat q.d, .dat (Cst.has c p x i bst lv).d, .dat (.str c), .dat (tI p), .dat (oi x), .dat (.str "has"), .dat (.int (i : Int))]) (PD.of (pd_slTo (n := 5) (xs := [.str c, tI p, oi x, .str "has", .int (i : Int), goD bst, lv.d, .non]) (pd_var 1) pd_int) rfl) (pat_tp (pats_cons (pat_nm 2 nd) (pats_cons (pat_nm 3 nd) (pats_cons (pat_nm 4 nd) (pats_cons (pat_nm 5 nd) (pats_cons (pat_nm 6 nd) pats_nil)))))) rfl ?_
    refine rg_when (k := true) (td_cmp c_eqS (pd_var 5) pd_str) (fun _ => ?_) fun h => by cases h
    exact rg_retD (pd_tup (pds_cons (pd_ixT (pd_call A1 (hr.mono (by omega)) (q, c) (pds_cons (pd_var 0) (pds_cons (pd_var 2) pds_nil)) so.gd fun _ h => h) (pd_var 6) (atI_nat (dN_at hi))) (pds_cons (pd_var 3) (pds_cons (pd_var 4) pds_nil)))) rfl
  | no c p x i lv so hi =>
    refine rg_pat (pat := .tp [.nm 2, .nm 3, .nm 4, .nm 5, .nm 6]) (d := .tup [.str c, tI p, .int x, .str "not", .int (i : Int)]) (ds' := [.dat q.d, .dat (Cst.no c p x i lv).d, .dat (.str c), .dat (tI p), .dat (.int x), .dat (.str "not"), .dat (.int (i : Int))]) (PD.of (pd_slTo (n := 5) (xs := [.str c, tI p, .int x, .str "not", .int (i : Int), .non, lv.d, .non]) (pd_var 1) pd_int) rfl) (pat_tp (pats_cons (pat_nm 2 nd) (pats_cons (pat_nm 3 nd) (pats_cons (pat_nm 4 nd) (pats_cons (pat_nm 5 nd) (pats_cons (pat_nm 6 nd) pats_nil)))))) rfl ?_
    refine rg_when (k := false) (td_cmp c_eqS (pd_var 5) pd_str) (fun h => by cases h) fun _ => ?_
    refine rg_when (k := true) (td_cmp c_eqS (pd_var 5) pd_str) (fun _ => ?_) fun h => by cases h
    refine rg_retD (pd_tup (pds_cons (pd_ixT (pd_call A2 (hr.mono (by omega)) (q, c) (pds_cons (pd_var 0) (pds_cons (pd_var 2) pds_nil)) so.gd fun _ h => h) (pd_var 6) (atI_nat (dN_at hi))) (pds_cons (PD.of (pd_tup (pds_starT (pd_var 3) (pds_cons (pd_var 4) pds_nil)) ?_) (tI_snoc p x)) pds_nil))) rfl
    rw [List.length_append, List.length_map]
    show p.length + 1 ≤ _
    have := so.hp
    omega
  | low c p x lv s l hl =>
    refine rg_pat (pat := .tp [.nm 2, .nm 3, .nm 4, .nm 5, .nm 6]) (d := .tup [.str c, tI p, .int x, .str "below", .int 0]) (ds' := [.dat q.d, .dat (Cst.low c p x lv s).d, .dat (.str c), .dat (tI p), .dat (.int x), .dat (.str "below"), .dat (.int 0)]) (PD.of (pd_slTo (n := 5) (xs := [.str c, tI p, .int x, .str "below", .int 0, .non, lv.d, s.d]) (pd_var 1) pd_int) rfl) (pat_tp (pats_cons (pat_nm 2 nd) (pats_cons (pat_nm 3 nd) (pats_cons (pat_nm 4 nd) (pats_cons (pat_nm 5 nd) (pats_cons (pat_nm 6 nd) pats_nil)))))) rfl ?_
    refine rg_when (k := false) (td_cmp c_eqS (pd_var 5) pd_str) (fun h => by cases h) fun _ => ?_
    refine rg_when (k := false) (td_cmp c_eqS (pd_var 5) pd_str) (fun h => by cases h) fun _ => ?_
    exact rg_retD (pd_call A3 hr (q, s, l) (pds_cons (pd_var 0) (pds_cons (pd_ixT (xs := [.str c, tI p, .int x, .str "below", .int 0, .non, lv.d, s.d]) (pd_var 1) pd_int (atI_nat (j := 7) rfl)) pds_nil)) hl fun _ h => h) rfl
theorem ok_siblings_wanted0 (F : At K mg "siblings_wanted" s_siblings_wanted ["question", "state"]) : DfOk P w K mg base (20 + 2 * 0) "siblings_wanted" ["question", "state"] (SpSW T K 0) :=
  df_mk F sc_siblings_wanted (fun _ => rfl) fun f cd A' outer s H E hr y hy => hy.elim
theorem ok_siblings_wanted (n : Nat) (F : At K mg "siblings_wanted" s_siblings_wanted ["question", "state"]) (A1 : DfOk P w K mg base (20 + 2 * n + 1) "column_wanted" ["question", "state"] (SpCW T K n)) : DfOk P w K mg base (20 + 2 * (n + 1)) "siblings_wanted" ["question", "state"] (SpSW T K (n + 1)) := by
  refine df_mk F sc_siblings_wanted (fun _ => rfl) fun f cd A' outer s H E hr y hy => ?_
  obtain ⟨q, st, l⟩ := y
  have hy : SW1 q (CW q (SWn q n)) st l := hy
  cases hy with
  | mk i parts c l hp hc =>
    have hd : (Cst.ds parts)[i]? = some c.d := by rw [cds_map, List.getElem?_map, hp]; rfl
    exact rg_retD (pd_call A1 hr (q, c, l) (pds_cons (pd_var 0) (pds_cons (pd_ixT (pd_ixT (xs := [.str "turn", .int (i : Int), .tup (Cst.ds parts)]) (pd_var 1) pd_int (atI_nat (j := 2) rfl)) (pd_ixT (xs := [.str "turn", .int (i : Int), .tup (Cst.ds parts)]) (pd_var 1) pd_int (atI_nat (j := 1) rfl)) (atI_nat hd)) pds_nil)) hc fun _ h => h) rfl
theorem ok_wanteds (b : Bl mg) (F1 : At K mg "column_wanted" s_column_wanted ["question", "state"]) (F2 : At K mg "siblings_wanted" s_siblings_wanted ["question", "state"]) (A1 : DfOk P w K mg base 2 "through" ["question", "column"] (SpThru T K)) (A2 : DfOk P w K mg base 13 "ending" ["question", "column"] (SpEnds T K)) :
    ∀ n, DfOk P w K mg base (20 + 2 * n) "siblings_wanted" ["question", "state"] (SpSW T K n)
  | 0 => ok_siblings_wanted0 F2
  | n + 1 => ok_siblings_wanted n F2 (ok_column_wanted b n F1 A1 A2 (ok_wanteds b F1 F2 A1 A2 n))
end
end E
namespace E
open LamX L2 PyProof.Rows PySem PySem.Spec
def Cst.ph : Cst → Str
  | .has _ _ _ _ _ _ => "has"
  | .no _ _ _ _ _ => "not"
  | .low _ _ _ _ _ => "below"
  | .fin _ _ _ => "ended"
theorem cst_form (c : Cst) : ∃ a0 a1 a2 a4 a5 a7 : D, c.d = .tup [a0, a1, a2, .str c.ph, a4, a5, c.lv.d, a7] := by
  cases c <;> exact ⟨_, _, _, _, _, _, rfl⟩
theorem cst_ph (c : Cst) : decide (c.ph = ("ended" : Str)) = c.done := by
  cases c with
  | has => exact (by decide : decide (("has" : Str) = "ended") = false)
  | no => exact (by decide : decide (("not" : Str) = "ended") = false)
  | low => exact (by decide : decide (("below" : Str) = "ended") = false)
  | fin => exact (by decide : decide (("ended" : Str) = "ended") = true)
theorem cds_set (l : List Cst) (i : Nat) (c : Cst) (h : i < l.length) : (Cst.ds l).take i ++ c.d :: (Cst.ds l).drop (i + 1) = Cst.ds (l.set i c) := by
  rw [cds_map, cds_map, List.map_set, List.set_eq_take_append_cons_drop, if_pos (by simpa using h)]
theorem cds_at {l : List Cst} {i : Nat} {c : Cst} (h : l[i]? = some c) : (Cst.ds l)[i]? = some c.d := by rw [cds_map, List.getElem?_map, h]; rfl
theorem cds_len (l : List Cst) : (Cst.ds l).length = l.length := by rw [cds_map, List.length_map]
section
variable {P : Program} {w : World} {K : PySem.W.Frag} {mg : Str → Option Value} {base : Heap} {T : List (Addr × Str)}
abbrev SpCB (T : List (Addr × Str)) (K : PySem.W.Frag) (n : Nat) : Sp := SpF T K (fun y : Qn × Cst × Its × Cst => [y.1.d, y.2.1.d, y.2.2.1.d]) (fun y => CB y.1 (SBn y.1 n) y.2.1 y.2.2.1 y.2.2.2) (fun y d => d = y.2.2.2.d)
abbrev SpSB (T : List (Addr × Str)) (K : PySem.W.Frag) (n : Nat) : Sp := SpF T K (fun y : Qn × Sst × Its × Sst => [y.1.d, y.2.1.d, y.2.2.1.d]) (fun y => SBn y.1 n y.2.1 y.2.2.1 y.2.2.2) (fun y d => d = y.2.2.2.d)
theorem ok_column_behind (b : Bl mg) (n : Nat) (F : At K mg "column_behind" s_column_behind ["question", "state", "its"]) (A1 : DfOk P w K mg base 14 "behind_has" ["question", "state", "its"] (SpHas T K)) (A2 : DfOk P w K mg base 14 "behind_not" ["question", "state", "its"] (SpNo T K))
    (A3 : DfOk P w K mg base (20 + 2 * n) "siblings_behind" ["question", "state", "its"] (SpSB T K n)) (A4 : DfOk P w K mg base 2 "going_on" ["question", "column", "prefix", "x", "level"] (SpGo T K)) (A5 : DfOk P w K mg base 1 "put_value" ["level", "x", "what", "shape"] (SpPut T K)) :
    DfOk P w K mg base (20 + 2 * n + 1) "column_behind" ["question", "state", "its"] (SpCB T K n) := by
  refine df_mk F sc_column_behind (fun _ => rfl) fun f cd A' outer s H E hr y hy => ?_
  obtain ⟨q, st, its, st'⟩ := y
  have nd := sc_column_behind.nd
  have hz : (2000 : Nat) ≤ sizeLine := by decide
  have hy : CB q (SBn q n) st its st' := hy
  cases hy with
  | hasGo c p x i bst lv its so hi =>
    refine rg_when (k := true) (td_cmp c_eqS (pd_ixT (xs := [.str c, tI p, oi x, .str "has", .int (i : Int), goD bst, lv.d, .non]) (pd_var 1) pd_int (atI_nat (j := 3) rfl)) pd_str) (fun _ => ?_) fun h => by cases h
    refine rg_retD (pd_call A1 (hr.mono (by omega)) (q, c, p, x, i, bst, lv, its) (pds_cons (pd_var 0) (pds_cons (pd_var 1) (pds_cons (pd_var 2) pds_nil))) ⟨so, Nat.lt_of_succ_lt hi, fun h => absurd hi h⟩ fun _ h => h) ?_
    show (q.hasStep c p x i bst lv its).d = _
    unfold Qn.hasStep
    rw [if_pos hi]
  | hasEnd c p x i bst lv its so hi hx =>
    refine rg_when (k := true) (td_cmp c_eqS (pd_ixT (xs := [.str c, tI p, oi x, .str "has", .int (i : Int), goD bst, lv.d, .non]) (pd_var 1) pd_int (atI_nat (j := 3) rfl)) pd_str) (fun _ => ?_) fun h => by cases h
    refine rg_retD (pd_call A1 (hr.mono (by omega)) (q, c, p, x, i, bst, lv, its) (pds_cons (pd_var 0) (pds_cons (pd_var 1) (pds_cons (pd_var 2) pds_nil))) ⟨so, by show i < (q.thru c).length; omega, fun _ => hx⟩ fun _ h => h) ?_
    show (q.hasStep c p x i bst lv its).d = _
    unfold Qn.hasStep
    rw [if_neg (by omega)]
  | noRow c p x i lv so hi =>
    refine rg_when (k := false) (td_cmp c_eqS (pd_ixT (xs := [.str c, tI p, .int x, .str "not", .int (i : Int), .non, lv.d, .non]) (pd_var 1) pd_int (atI_nat (j := 3) rfl)) pd_str) (fun h => by cases h) fun _ => ?_
    refine rg_when (k := true) (td_cmp c_eqS (pd_ixT (xs := [.str c, tI p, .int x, .str "not", .int (i : Int), .non, lv.d, .non]) (pd_var 1) pd_int (atI_nat (j := 3) rfl)) pd_str) (fun _ => ?_) fun h => by cases h
    exact rg_retD (pd_call A2 (hr.mono (by omega)) (q, c, p, x, i, lv, .there) (pds_cons (pd_var 0) (pds_cons (pd_var 1) (pds_cons (pd_var 2) pds_nil))) ⟨so, hi⟩ fun _ h => h) rfl
  | noGo c p x i lv its so hn hi =>
    refine rg_when (k := false) (td_cmp c_eqS (pd_ixT (xs := [.str c, tI p, .int x, .str "not", .int (i : Int), .non, lv.d, .non]) (pd_var 1) pd_int (atI_nat (j := 3) rfl)) pd_str) (fun h => by cases h) fun _ => ?_
    refine rg_when (k := true) (td_cmp c_eqS (pd_ixT (xs := [.str c, tI p, .int x, .str "not", .int (i : Int), .non, lv.d, .non]) (pd_var 1) pd_int (atI_nat (j := 3) rfl)) pd_str) (fun _ => ?_) fun h => by cases h
    refine rg_retD (pd_call A2 (hr.mono (by omega)) (q, c, p, x, i, lv, its) (pds_cons (pd_var 0) (pds_cons (pd_var 1) (pds_cons (pd_var 2) pds_nil))) ⟨so, Nat.lt_of_succ_lt hi⟩ fun _ h => h) ?_
    show (q.noStep c p x i lv its).d = _
    unfold Qn.noStep
    rw [if_neg (fun e => by cases its <;> first | exact hn rfl | cases e), if_pos hi]
  | noEnd c p x i lv its so hn hi =>
    refine rg_when (k := false) (td_cmp c_eqS (pd_ixT (xs := [.str c, tI p, .int x, .str "not", .int (i : Int), .non, lv.d, .non]) (pd_var 1) pd_int (atI_nat (j := 3) rfl)) pd_str) (fun h => by cases h) fun _ => ?_
    refine rg_when (k := true) (td_cmp c_eqS (pd_ixT (xs := [.str c, tI p, .int x, .str "not", .int (i : Int), .non, lv.d, .non]) (pd_var 1) pd_int (atI_nat (j := 3) rfl)) pd_str) (fun _ => ?_) fun h => by cases h
    refine rg_retD (pd_call A2 (hr.mono (by omega)) (q, c, p, x, i, lv, its) (pds_cons (pd_var 0) (pds_cons (pd_var 1) (pds_cons (pd_var 2) pds_nil))) ⟨so, by show i < (q.ends c).length; omega⟩ fun _ h => h) ?_
    show (q.noStep c p x i lv its).d = _
    unfold Qn.noStep
    rw [if_neg (fun e => by cases its <;> first | exact hn rfl | cases e), if_neg (by omega)]
  | low c p x lv st its st2 so hs =>
    refine rg_when (k := false) (td_cmp c_eqS (pd_ixT (xs := [.str c, tI p, .int x, .str "below", .int 0, .non, lv.d, st.d]) (pd_var 1) pd_int (atI_nat (j := 3) rfl)) pd_str) (fun h => by cases h) fun _ => ?_
    refine rg_when (k := false) (td_cmp c_eqS (pd_ixT (xs := [.str c, tI p, .int x, .str "below", .int 0, .non, lv.d, st.d]) (pd_var 1) pd_int (atI_nat (j := 3) rfl)) pd_str) (fun h => by cases h) fun _ => ?_
    refine rg_pat (pat := .tp [.nm 3, .nm 4, .nm 5, .nm 6]) (d := .tup [.str c, tI p, .int x, lv.d]) (ds' := [.dat q.d, .dat (Cst.low c p x lv st).d, .dat its.d, .dat (.str c), .dat (tI p), .dat (.int x), .dat lv.d, .no]) (PD.of (pd_tup (pds_starT (pd_slTo (n := 3) (xs := [.str c, tI p, .int x, .str "below", .int 0, .non, lv.d, st.d]) (pd_var 1) pd_int) (pds_cons (pd_ixT (xs := [.str c, tI p, .int x, .str "below", .int 0, .non, lv.d, st.d]) (pd_var 1) pd_int (atI_nat (j := 6) rfl)) pds_nil))) rfl)
      (pat_tp (pats_cons (pat_nm 3 nd) (pats_cons (pat_nm 4 nd) (pats_cons (pat_nm 5 nd) (pats_cons (pat_nm 6 nd) pats_nil))))) rfl ?_
    refine rg_asg (d := st2.d) 7 (pd_call A3 hr (q, st, its, st2) (pds_cons (pd_var 0) (pds_cons (pd_ixT (xs := [.str c, tI p, .int x, .str "below", .int 0, .non, lv.d, st.d]) (pd_var 1) pd_int (atI_nat (j := 7) rfl)) (pds_cons (pd_var 2) pds_nil))) hs fun _ h => h) nd ?_
    show RG _ _ _ [.dat q.d, .dat (Cst.low c p x lv st).d, .dat its.d, .dat (.str c), .dat (tI p), .dat (.int x), .dat lv.d, .dat st2.d] _
    cases st2 with
    | fin sh pa =>
      refine rg_when (k := true) (td_cmp c_eqS (pd_ixT (xs := [.str "ended", sh, pa]) (pd_var 7) pd_int (atI_nat (j := 0) rfl)) pd_str) (fun _ => ?_) fun h => by cases h
      exact rg_retD (pd_call A4 (hr.mono (by omega)) (q, c, p, some (x + 1), lv.put x pa sh) (pds_cons (pd_var 0) (pds_cons (pd_var 3) (pds_cons (pd_var 4) (pds_cons (pd_add (pd_var 5) pd_int) (pds_cons (pd_call A5 (hr.mono (by omega)) (lv, x, pa, sh) (pds_cons (pd_var 6) (pds_cons (pd_var 5) (pds_cons (pd_ixT (xs := [.str "ended", sh, pa]) (pd_var 7) pd_int (atI_nat (j := 2) rfl)) (pds_cons (pd_ixT (xs := [.str "ended", sh, pa]) (pd_var 7) pd_int (atI_nat (j := 1) rfl)) pds_nil)))) so.lv fun _ h => h) pds_nil))))) trivial fun _ h => h) rfl
    | run i ps =>
      refine rg_when (k := false) (td_cmp c_eqS (pd_ixT (xs := [.str "turn", .int (i : Int), .tup (Cst.ds ps)]) (pd_var 7) pd_int (atI_nat (j := 0) rfl)) pd_str) (fun h => by cases h) fun _ => ?_
      exact rg_retD (PD.of (pd_tup (pds_starT (pd_slTo (n := 7) (xs := [.str c, tI p, .int x, .str "below", .int 0, .non, lv.d, st.d]) (pd_var 1) pd_int) (pds_cons (pd_var 7) pds_nil))) rfl) rfl
theorem ok_siblings_behind0 (F : At K mg "siblings_behind" s_siblings_behind ["question", "state", "its"]) : DfOk P w K mg base (20 + 2 * 0) "siblings_behind" ["question", "state", "its"] (SpSB T K 0) :=
  df_mk F sc_siblings_behind (fun _ => rfl) fun f cd A' outer s H E hr y hy => hy.elim
/-- the order of the parts -/
def ordN (i n : Nat) : List Nat := (List.range (n - (i + 1))).map (fun j => i + 1 + j) ++ List.range (i + 1)
theorem ord_rg (i n : Nat) (h : i < n) : rgD ((i : Int) + 1) (n : Int) ++ (rgD 0 ((i : Int) + 1) ++ []) = (ordN i n).map fun j : Nat => D.int (j : Int) := by
  unfold rgD ordN
  have e1 : ((n : Int) - ((i : Int) + 1)).toNat = n - (i + 1) := by omega
  have e2 : ((i : Int) + 1 - 0).toNat = i + 1 := by omega
  rw [e1, e2, List.append_nil, List.map_append, List.map_map]
  have f1 : ((List.range (n - (i + 1))).map fun k : Nat => D.int ((i : Int) + 1 + (k : Int))) = (List.range (n - (i + 1))).map ((fun j : Nat => D.int (j : Int)) ∘ fun j => i + 1 + j) := List.map_congr_left fun k _ => congrArg D.int (by omega : (i : Int) + 1 + (k : Int) = ((i + 1 + k : Nat) : Int))
  have f2 : ((List.range (i + 1)).map fun k : Nat => D.int (0 + (k : Int))) = (List.range (i + 1)).map fun j : Nat => D.int (j : Int) := List.map_congr_left fun k _ => congrArg D.int (by omega : 0 + (k : Int) = ((k : Nat) : Int))
  rw [f1, f2]
theorem ok_siblings_behind (b : Bl mg) (n : Nat) (F : At K mg "siblings_behind" s_siblings_behind ["question", "state", "its"]) (A1 : DfOk P w K mg base (20 + 2 * n + 1) "column_behind" ["question", "state", "its"] (SpCB T K n)) :
    DfOk P w K mg base (20 + 2 * (n + 1)) "siblings_behind" ["question", "state", "its"] (SpSB T K (n + 1)) := by
  refine df_mk F sc_siblings_behind (fun _ => rfl) fun f cd A' outer s H E hr y hy => ?_
  obtain ⟨q, st, its, st'⟩ := y
  have nd := sc_siblings_behind.nd
  have hz : (2000 : Nat) ≤ sizeLine := by decide
  have hy : SB1 q (CB q (SBn q n)) st its st' := hy
  cases hy with
  | mk i parts c its c' hps hp hc =>
    have hi : i < parts.length := (List.getElem?_eq_some_iff.mp hp).1
    have hset : (parts.set i c')[i]? = some c' := by rw [List.getElem?_set_self hi]
    have hlen : (parts.set i c').length = parts.length := List.length_set
    obtain ⟨a0, a1, a2, a4, a5, a7, hform⟩ := cst_form c'
    refine rg_pat (pat := .tp [.nm 3, .nm 4]) (d := .tup [.int (i : Int), .tup (Cst.ds parts)]) (ds' := [.dat q.d, .dat (Sst.run i parts).d, .dat its.d, .dat (.int (i : Int)), .dat (.tup (Cst.ds parts)), .no, .no, .no, .no, .no, .no, .no]) (PD.of (pd_slFrom (n := 1) (xs := [.str "turn", .int (i : Int), .tup (Cst.ds parts)]) (pd_var 1) pd_int) rfl)
      (pat_tp (pats_cons (pat_nm 3 nd) (pats_cons (pat_nm 4 nd) pats_nil))) rfl ?_
    refine rg_asg (d := c'.d) 5 (pd_call A1 hr (q, c, its, c') (pds_cons (pd_var 0) (pds_cons (pd_ixT (pd_var 4) (pd_var 3) (atI_nat (cds_at hp))) (pds_cons (pd_var 2) pds_nil))) hc fun _ h => h) nd ?_
    refine rg_asg (d := .tup (Cst.ds (parts.set i c'))) 4 (PD.of (pd_tup (pds_starT (pd_slTo (n := i) (pd_var 4) (pd_var 3)) (pds_cons (pd_var 5) (pds_starT (pd_slFrom (n := i + 1) (pd_var 4) (PD.of (pd_add (pd_var 3) pd_int) (congrArg D.int (by omega : (i : Int) + 1 = ((i + 1 : Nat) : Int))))) pds_nil))) ?_) ?_) nd ?_
    · simp only [List.length_append, List.length_take, List.length_drop, List.length_cons, List.length_nil, cds_len]
      omega
    · rw [List.append_nil, cds_set parts i c' hi]
    show RG _ _ _ [.dat q.d, .dat (Sst.run i parts).d, .dat its.d, .dat (.int (i : Int)), .dat (.tup (Cst.ds (parts.set i c'))), .dat c'.d, .no, .no, .no, .no, .no, .no] _
    revert hset hlen
    generalize parts.set i c' = ps
    intro hset hlen
    show RG _ _ _ _ { rt := fun d => d = (after i ps).d }
    have hfin : ∀ d, (if c'.done && c'.lv.br.isEmpty then Sst.fin .non (.tup [.str "one", .int (i : Int), c'.lv.d2]) else match nextIx i ps with
        | some j => .run j ps
        | none => .fin (.tup (ps.map fun c => .tup (c.lv.br.map pD))) (.tup [.str "all", .tup (ps.map fun c => c.lv.d2)])).d = d → d = (after i ps).d := fun d h => by
      unfold after
      rw [hset]
      exact h.symm
    have hps2 : ps.length ≤ 1000 := by omega
    refine rg_when (k := c'.done && c'.lv.br.isEmpty) (WD.td (wd_and (k := c'.done) (k' := c'.lv.br.isEmpty) ((td_cmp c_eqS (pd_ixT (xs := [a0, a1, a2, .str c'.ph, a4, a5, c'.lv.d, a7]) (PD.of (pd_var 5) hform) pd_int (atI_nat (j := 3) rfl)) pd_str).of (cst_ph c')) fun _ => wd_and1 ((td_cmp (c_eqT0 (by have := hr.un; omega)) (pd_ixT (xs := [.tup (c'.lv.gaps.map Gap.d), .tup (c'.lv.vals.map pD), .tup (c'.lv.br.map pD)]) (pd_ixT (d := c'.lv.d) (xs := [a0, a1, a2, .str c'.ph, a4, a5, c'.lv.d, a7]) (PD.of (pd_var 5) hform) pd_int (atI_nat (j := 6) rfl)) pd_int (atI_nat (j := 2) rfl)) pd_unit).of (by cases c'.lv.br <;> rfl)))) (fun h => ?_) fun h => ?_
    · refine rg_retD (pd_tup (pds_cons pd_str (pds_cons pd_non (pds_cons (pd_tup (pds_cons pd_str (pds_cons (pd_var 3) (pds_cons (pd_slTo (n := 2) (xs := [.tup (c'.lv.gaps.map Gap.d), .tup (c'.lv.vals.map pD), .tup (c'.lv.br.map pD)]) (pd_ixT (d := c'.lv.d) (xs := [a0, a1, a2, .str c'.ph, a4, a5, c'.lv.d, a7]) (PD.of (pd_var 5) hform) pd_int (atI_nat (j := 6) rfl)) pd_int) pds_nil)))) pds_nil)))) (hfin _ ?_)
      rw [if_pos h]
      rfl
    refine rg_asg (d := .lst ((ordN i ps.length).map fun j : Nat => D.int (j : Int))) 6 (PD.of (PL.pd (pl_lst (pds_starRg2 (i := (i : Int) + 1) (j := ((Cst.ds ps).length : Nat)) b.range (pd_add (pd_var 3) pd_int) (pd_lenT b.len (pd_var 4)) (.of_le (by omega) (by rw [cds_len]; omega) (by omega) (by omega)) (pds_starRg1 (j := (i : Int) + 1) b.range (pd_add (pd_var 3) pd_int) (.of_le (by omega) (by omega) (by omega) (by omega)) pds_nil)) ?_)) ?_) nd ?_
    · rw [cds_len, ord_rg i ps.length (by omega), List.length_map]
      unfold ordN
      simp only [List.length_append, List.length_map, List.length_range]
      omega
    · rw [cds_len, ord_rg i ps.length (by omega)]
    show RG _ _ _ [.dat q.d, .dat (Sst.run i parts).d, .dat its.d, .dat (.int (i : Int)), .dat (.tup (Cst.ds ps)), .dat c'.d, .dat (.lst ((ordN i ps.length).map fun j : Nat => D.int (j : Int))), .no, .no, .no, .no, .no] _
    have hord : ∀ j ∈ ordN i ps.length, j < ps.length := fun j hj => by
      unfold ordN at hj
      rcases List.mem_append.mp hj with h | h
      · obtain ⟨k, hk, rfl⟩ := List.mem_map.mp h
        have := List.mem_range.mp hk
        omega
      · have := List.mem_range.mp h
        omega
    have hordl : (ordN i ps.length).length ≤ 1000 := by
      unfold ordN
      simp only [List.length_append, List.length_map, List.length_range]
      omega
    refine rg_setLc (P := fun l => l = dN ((ordN i ps.length).filter fun j => match ps[j]? with | some c => !c.done | none => false)) 7 (plc_fm (pat := .nm 9) (xs := ordN i ps.length) (it := fun j : Nat => D.int (j : Int)) (t := fun j => match ps[j]? with | some c => !c.done | none => false) (g := fun j : Nat => D.int (j : Int))
      (src_list (pd_var 6)) (fun _ _ _ _ _ => pat_nm 9 nd) (blkOk_by (N := N_siblings_behind) (sc := defScope s_siblings_behind) (own := [("one", 9)]) (by decide +kernel)) nd (fits hordl) fun j hj => ⟨_, rfl, ?_, ?_⟩) (fun l hl => ?_) (by rfl) (sw_true rfl rfl rfl rfl)
    · have hj' := hord j hj
      obtain ⟨x0, x1, x2, x4, x5, x7, hf⟩ := cst_form ps[j]
      have hat : (Cst.ds ps)[j]? = some (.tup [x0, x1, x2, .str ps[j].ph, x4, x5, ps[j].lv.d, x7]) := by rw [cds_at (List.getElem?_eq_getElem hj'), hf]
      refine fun _ _ _ _ _ => (td_cmp c_neS (pd_ixT (xs := [x0, x1, x2, .str ps[j].ph, x4, x5, ps[j].lv.d, x7]) (pd_ixT (pd_var 4) (pd_var 9) (atI_nat hat)) pd_int (atI_nat (j := 3) rfl)) pd_str).of ?_
      rw [List.getElem?_eq_getElem hj']
      show (!decide (ps[j].ph = ("ended" : Str))) = !ps[j].done
      rw [cst_ph]
    · exact fun _ _ _ _ _ _ => pd_var 9
    subst hl
    refine rg_freeze 7 rfl ?_
    have hnx : nextIx i ps = ((ordN i ps.length).filter fun j => match ps[j]? with | some c => !c.done | none => false).head? := rfl
    revert hnx
    generalize ((ordN i ps.length).filter fun j => match ps[j]? with | some c => !c.done | none => false) = L
    intro hnx
    rw [if_neg (by rw [h]; decide)] at hfin
    show RG _ _ _ [.dat q.d, .dat (Sst.run i parts).d, .dat its.d, .dat (.int (i : Int)), .dat (.tup (Cst.ds ps)), .dat c'.d, .dat (.lst ((ordN i ps.length).map fun j : Nat => D.int (j : Int))), .dat (.lst (dN L)), .no, .no, .no, .no] _
    refine rg_when (k := (dN L).isEmpty) (td_cmp (c_eqL0 (by have := hr.un; omega)) (pd_var 7) (PL.pd (pl_lst pds_nil))) (fun he => ?_) fun he => ?_
    · obtain rfl : L = [] := by cases L with | nil => rfl | cons _ _ => cases he
      refine rg_setLc (P := fun l => l = ps.map fun c => c.lv.d) 8 (PLc.imp (plc_fm (pat := .nm 10) (xs := ps) (it := Cst.d) (t := fun _ => true) (g := fun c => c.lv.d)
        (src_of (src_tup (pd_var 4)) (cds_map ps)) (fun _ _ _ _ _ => pat_nm 10 nd) (blkOk_by (N := N_siblings_behind) (sc := defScope s_siblings_behind) (own := [("part", 10)]) (by decide +kernel)) nd (fits hps2) fun c hc => ⟨_, rfl, ?_, ?_⟩) ?_) (fun l hl => ?_) (by rfl) (sw_true rfl rfl rfl rfl)
      · rfl
      · obtain ⟨x0, x1, x2, x4, x5, x7, hf⟩ := cst_form c
        exact fun _ _ _ _ _ _ => pd_ixT (xs := [x0, x1, x2, .str c.ph, x4, x5, c.lv.d, x7]) (PD.of (pd_var 10) hf) pd_int (atI_nat (j := 6) rfl)
      · rintro l rfl
        rw [List.filter_eq_self.mpr fun _ _ => rfl]
      subst hl
      refine rg_freeze 8 rfl ?_
      show RG _ _ _ [.dat q.d, .dat (Sst.run i parts).d, .dat its.d, .dat (.int (i : Int)), .dat (.tup (Cst.ds ps)), .dat c'.d, .dat (.lst ((ordN i ps.length).map fun j : Nat => D.int (j : Int))), .dat (.lst (dN [])), .dat (.lst (ps.map fun c => c.lv.d)), .no, .no, .no] _
      refine rg_retD (d := (Sst.fin (.tup (ps.map fun c => .tup (c.lv.br.map pD))) (.tup [.str "all", .tup (ps.map fun c => c.lv.d2)])).d) (pd_tup (pds_cons pd_str (pds_cons (PD.of (pd_tupleL b.tuple (PL.pd (PLc.pl (plc_fm (pat := .nm 11) (xs := ps) (it := fun c => c.lv.d) (t := fun _ => true) (g := fun c => .tup (c.lv.br.map pD))
        (src_list (pd_var 8)) (fun _ _ _ _ _ => pat_nm 11 nd) (blkOk_by (N := N_siblings_behind) (sc := defScope s_siblings_behind) (own := [("level", 11)]) (by decide +kernel)) nd (fits hps2) fun c hc => ⟨_, rfl, ?_, ?_⟩)))) ?_) (pds_cons (pd_tup (pds_cons pd_str (pds_cons (PD.of (pd_tupleL b.tuple (PL.pd (PLc.pl (plc_fm (pat := .nm 11) (xs := ps) (it := fun c => c.lv.d) (t := fun _ => true) (g := fun c => c.lv.d2)
        (src_list (pd_var 8)) (fun _ _ _ _ _ => pat_nm 11 nd) (blkOk_by (N := N_siblings_behind) (sc := defScope s_siblings_behind) (own := [("level", 11)]) (by decide +kernel)) nd (fits hps2) fun c hc => ⟨_, rfl, ?_, ?_⟩)))) ?_) pds_nil))) pds_nil)))) (hfin _ ?_)
      · rfl
      · exact fun _ _ _ _ _ _ => pd_ixT (xs := [.tup (c.lv.gaps.map Gap.d), .tup (c.lv.vals.map pD), .tup (c.lv.br.map pD)]) (pd_var 11) pd_int (atI_nat (j := 2) rfl)
      · rw [List.filter_eq_self.mpr (fun _ _ => rfl)]
      · rfl
      · exact fun _ _ _ _ _ _ => PD.of (pd_slTo (n := 2) (xs := [.tup (c.lv.gaps.map Gap.d), .tup (c.lv.vals.map pD), .tup (c.lv.br.map pD)]) (pd_var 11) pd_int) rfl
      · rw [List.filter_eq_self.mpr (fun _ _ => rfl)]
      · rw [hnx]
        rfl
    · obtain ⟨j, L', rfl⟩ : ∃ j L', L = j :: L' := by
        cases L with
        | nil => cases he
        | cons j L' => exact ⟨j, L', rfl⟩
      refine rg_retD (pd_tup (pds_cons pd_str (pds_cons (pd_ixL (xs := .int (j : Int) :: dN L') (pd_var 7) pd_int (atI_nat (j := 0) rfl)) (pds_cons (pd_var 4) pds_nil)))) (hfin _ ?_)
      rw [hnx]
      rfl
theorem ok_behinds (b : Bl mg) (F1 : At K mg "column_behind" s_column_behind ["question", "state", "its"]) (F2 : At K mg "siblings_behind" s_siblings_behind ["question", "state", "its"]) (A1 : DfOk P w K mg base 14 "behind_has" ["question", "state", "its"] (SpHas T K)) (A2 : DfOk P w K mg base 14 "behind_not" ["question", "state", "its"] (SpNo T K))
    (A4 : DfOk P w K mg base 2 "going_on" ["question", "column", "prefix", "x", "level"] (SpGo T K)) (A5 : DfOk P w K mg base 1 "put_value" ["level", "x", "what", "shape"] (SpPut T K)) : ∀ n, DfOk P w K mg base (20 + 2 * n) "siblings_behind" ["question", "state", "its"] (SpSB T K n)
  | 0 => ok_siblings_behind0 F2
  | n + 1 => ok_siblings_behind b n F2 (ok_column_behind b n F1 A1 A2 (ok_behinds b F1 F2 A1 A2 A4 A5 n) A4 A5)
end
end E
namespace E
open LamX L2 PyProof.Rows PySem PySem.Spec
/-- the machine from a state: the looks it asks, each answered, and what it ends with -/
inductive Runs (q : Qn) (R : Nat → List (List Int)) (n : Nat) : Sst → List Look → D → D → Prop
  | done (s w : D) : Runs q R n (.fin s w) [] s w
  | step (st : Sst) (l : Look) (st' : Sst) (ls : List Look) (s w : D) : SWn q n st l → l.ok q → SBn q n st (tell R l) st' → Runs q R n st' ls s w → Runs q R n st (l :: ls) s w
def loD : Option Look → D
  | none => .non
  | some l => l.d
theorem hsh_ints (n : Nat) (p : List Int) : Hsh (n + 1) (tI p) := .tup _ _ fun x hx => by
  obtain ⟨i, _, rfl⟩ := List.mem_map.mp hx
  exact .int _ _
theorem hsh_oi (n : Nat) (x : Option Int) : Hsh n (oi x) := by cases x <;> first | exact .non _ | exact .int _ _
theorem look_tup (l : Look) : ∃ xs, l.d = .tup xs ∧ Hsh 8 (.tup xs) := by
  cases l with
  | at3 a p x =>
    refine ⟨_, rfl, .tup _ _ fun y hy => ?_⟩
    simp only [List.mem_cons, List.not_mem_nil, or_false] at hy
    rcases hy with rfl | rfl | rfl
    · exact .int _ _
    · exact hsh_ints _ p
    · exact hsh_oi _ x
  | row a r =>
    refine ⟨_, rfl, .tup _ _ fun y hy => ?_⟩
    simp only [List.mem_cons, List.not_mem_nil, or_false] at hy
    rcases hy with rfl | rfl
    · exact .int _ _
    · exact hsh_ints _ r
theorem swn_run {q : Qn} {n : Nat} {st : Sst} {l : Look} (h : SWn q n st l) : ∃ i ps, st = .run i ps := by
  cases n with
  | zero => exact h.elim
  | succ n => cases (show SW1 q (CW q (SWn q n)) st l from h) with
    | mk i parts => exact ⟨i, parts, rfl⟩
section
variable {P : Program} {w : World} {K : PySem.W.Frag} {mg : Str → Option Value} {base : Heap} {T : List (Addr × Str)}
abbrev SpBegin (T : List (Addr × Str)) (K : PySem.W.Frag) : Sp := SpF T K (fun q : Qn => [q.d]) Gd (fun q d => d = (q.sibs (q.kids none) []).d)
theorem ok_begin (b : Bl mg) (F : At K mg "begin" s_begin ["question"]) (A1 : DfOk P w K mg base 3 "siblings" ["question", "columns", "prefix"] (SpSibs T K)) (A2 : DfOk P w K mg base 9 "roots_of" ["question"] (SpF T K (fun q : Qn => [q.d]) Gd (fun q d => d = tS (q.kids none)))) :
    DfOk P w K mg base 10 "begin" ["question"] (SpBegin T K) := by
  refine df_mk F sc_begin (fun _ => rfl) fun f cd A' outer s H E hr q gd => ?_
  exact rg_retD (pd_call A1 (hr.mono (by decide)) (q, q.kids none, []) (pds_cons (pd_var 0) (pds_cons (pd_call A2 hr q (pds_cons (pd_var 0) pds_nil) gd fun _ h => h) (pds_cons pd_unit pds_nil))) (kids_len q _ gd) fun _ h => h) rfl
abbrev SpWanted (T : List (Addr × Str)) (K : PySem.W.Frag) (n : Nat) : Sp := SpF T K (fun y : Qn × Sst × Option Look => [y.1.d, y.2.1.d]) (fun y => (y.2.2 = none ∧ ∃ s w, y.2.1 = .fin s w) ∨ ∃ l, y.2.2 = some l ∧ SWn y.1 n y.2.1 l) (fun y d => d = loD y.2.2)
theorem ok_wanted (b : Bl mg) (n : Nat) (F : At K mg "wanted" s_wanted ["question", "state"]) (A1 : DfOk P w K mg base (20 + 2 * n) "siblings_wanted" ["question", "state"] (SpSW T K n)) : DfOk P w K mg base (20 + 2 * n + 1) "wanted" ["question", "state"] (SpWanted T K n) := by
  refine df_mk F sc_wanted (fun _ => rfl) fun f cd A' outer s H E hr y hy => ?_
  obtain ⟨q, st, o⟩ := y
  rcases hy with ⟨e, sh, pa, e2⟩ | ⟨l, e, hw⟩
  · have e : o = none := e
    have e2 : st = .fin sh pa := e2
    subst e e2
    exact rg_retD (d := .non) (pd_if (k := false) (td_cmp c_eqS (pd_ixT (xs := [.str "ended", sh, pa]) (pd_var 1) pd_int (atI_nat (j := 0) rfl)) pd_str) (fun h => by cases h) fun _ => pd_non) rfl
  · have e : o = some l := e
    subst e
    obtain ⟨i, ps, rfl⟩ := swn_run hw
    exact rg_retD (d := l.d) (pd_if (k := true) (td_cmp c_eqS (pd_ixT (xs := [.str "turn", .int (i : Int), .tup (Cst.ds ps)]) (pd_var 1) pd_int (atI_nat (j := 0) rfl)) pd_str) (fun _ => pd_call A1 hr (q, .run i ps, l) (pds_cons (pd_var 0) (pds_cons (pd_var 1) pds_nil)) hw fun _ h => h) fun h => by cases h) rfl
theorem ok_behind (n : Nat) (F : At K mg "behind" s_behind ["question", "state", "its"]) (A1 : DfOk P w K mg base (20 + 2 * n) "siblings_behind" ["question", "state", "its"] (SpSB T K n)) : DfOk P w K mg base (20 + 2 * n + 1) "behind" ["question", "state", "its"] (SpSB T K n) := by
  refine df_mk F sc_behind (fun _ => rfl) fun f cd A' outer s H E hr y hy => ?_
  obtain ⟨q, st, its, st'⟩ := y
  exact rg_retD (pd_call A1 hr (q, st, its, st') (pds_cons (pd_var 0) (pds_cons (pd_var 1) (pds_cons (pd_var 2) pds_nil))) hy fun _ h => h) rfl
abbrev SpRes (T : List (Addr × Str)) (K : PySem.W.Frag) : Sp := SpF T K (fun y : Qn × D × D => [y.1.d, (Sst.fin y.2.1 y.2.2).d]) (fun _ => True) (fun y d => d = .tup [y.2.1, y.2.2])
theorem ok_result (F : At K mg "result" s_result ["question", "state"]) : DfOk P w K mg base 1 "result" ["question", "state"] (SpRes T K) := by
  refine df_mk F sc_result (fun _ => rfl) fun f cd A' outer s H E hr y hy => ?_
  obtain ⟨q, sh, pa⟩ := y
  exact rg_retD (pd_tup (pds_cons (pd_ixT (xs := [.str "ended", sh, pa]) (pd_var 1) pd_int (atI_nat (j := 1) rfl)) (pds_cons (pd_ixT (xs := [.str "ended", sh, pa]) (pd_var 1) pd_int (atI_nat (j := 2) rfl)) pds_nil))) rfl
/-- a run and what it comes to -/
structure Rn where
  q : Qn
  tb : Tbs
  looks : List Look
  sh : D
  pa : D
def Rn.ok (r : Rn) (n : Nat) : Prop := Gd r.q ∧ GT r.q r.tb ∧ Runs r.q (rowsOf r.q r.tb) n (r.q.sibs (r.q.kids none) []) r.looks r.sh r.pa ∧ r.looks.length ≤ 1000000
def Rn.d (r : Rn) : D := .tup [r.sh, r.pa, .lst (r.looks.map Look.d)]
theorem ok_run_knowing (b : Bl mg) (n : Nat) (F : At K mg "run_knowing" s_run_knowing ["question", "tables", "pairs"]) (A1 : DfOk P w K mg base 10 "begin" ["question"] (SpBegin T K)) (A2 : DfOk P w K mg base (20 + 2 * n + 1) "wanted" ["question", "state"] (SpWanted T K n))
    (A3 : DfOk P w K mg base (20 + 2 * n + 1) "behind" ["question", "state", "its"] (SpSB T K n)) (A4 : DfOk P w K mg base 1 "result" ["question", "state"] (SpRes T K)) (A5 : DfOk P w K mg base 13 "told" ["question", "tables", "look"] (SpTold T K)) :
    DfOk P w K mg base (20 + 2 * n + 2) "run_knowing" ["question", "tables", "pairs"] (SpF T K (fun r : Rn => [r.q.d, tbsD r.tb, .lst []]) (fun r => r.ok n) (fun r d => d = r.d)) := by
  refine df_mk F sc_run_knowing (fun _ => rfl) fun f cd A' outer s H E hr r hok => ?_
  obtain ⟨q, tb, looks, sh, pa⟩ := r
  obtain ⟨gd, gt, hrun, hll⟩ := hok
  have gd : Gd q := gd
  have gt : GT q tb := gt
  have hrun : Runs q (rowsOf q tb) n (q.sibs (q.kids none) []) looks sh pa := hrun
  have hll : looks.length ≤ 1000000 := hll
  have nd := sc_run_knowing.nd
  have hz : (1000002 : Nat) ≤ sizeLine := by decide
  have hu : (dcx P w K mg base N_run_knowing "run_knowing" (defScope s_run_knowing) f cd A' outer s H E).A.units + 16 < cLine := by have := hr.un; omega
  have wantOf : ∀ {st : Sst} {rem : List Look}, Runs q (rowsOf q tb) n st rem sh pa → (rem.head? = none ∧ ∃ s w, st = .fin s w) ∨ ∃ l, rem.head? = some l ∧ SWn q n st l := fun h => by
    cases h with
    | done => exact .inl ⟨rfl, _, _, rfl⟩
    | step l h1 => exact .inr ⟨_, rfl, by assumption⟩
  refine rg_par3L (P := fun l => l = [.dic [], (q.sibs (q.kids none) []).d]) (R := fun l => l = []) 3 4 5 ((pl_lst pds_nil).pln rfl) nd (fun l m hl hm => ⟨_, _, hl, ?_⟩) (hab := ⟨fun d => d = .dic [], fun d => d = (q.sibs (q.kids none) []).d, (pd_dictP (es := []) b.dict (pd_var 2) (by simp)).pn rfl, (pd_call A1 (hr.mono (by omega)) q (pds_cons (pd_var 0) pds_nil) gd fun _ h => h).pn rfl, fun d1 d2 h1 h2 => by rw [h1, h2]⟩)
  subst hm
  show RG _ _ _ [.dat q.d, .dat (tbsD tb), .dat (.lst []), .dat (.dic []), .dat (q.sibs (q.kids none) []).d, .own [], .no] _
  refine rg_asg (d := loD looks.head?) 6 (pd_call A2 hr (q, q.sibs (q.kids none) [], looks.head?) (pds_cons (pd_var 0) (pds_cons (pd_var 4) pds_nil)) (wantOf hrun) fun _ h => h) nd ?_
  show RG _ _ _ [.dat q.d, .dat (tbsD tb), .dat (.lst []), .dat (.dic []), .dat (q.sibs (q.kids none) []).d, .own [], .dat (loD looks.head?)] _
  refine rg_while (fun m ds => ∃ (st : Sst) (dn rem : List Look), ds = [.dat q.d, .dat (tbsD tb), .dat (.lst []), .dat (.dic []), .dat st.d, .own (dn.map Look.d), .dat (loD rem.head?)] ∧ Runs q (rowsOf q tb) n st rem sh pa ∧ rem.length = m ∧ dn ++ rem = looks) looks.length ⟨_, [], looks, rfl, hrun, rfl, rfl⟩ ?_ .never
  rintro m ds' ⟨st, dn, rem, rfl, hr2, rfl, hdn⟩
  cases hr2 with
  | done =>
    refine ⟨false, td_cmp c_notN (pd_var 6) pd_non, (fun h => by cases h), fun _ => ?_⟩
    rw [List.append_nil] at hdn
    subst hdn
    exact rg_retD (PD.of (pd_tup (pds_starT (pd_call A4 (hr.mono (by omega)) (q, sh, pa) (pds_cons (pd_var 0) (pds_cons (pd_var 4) pds_nil)) trivial fun _ h => h) (pds_cons (pd_var 5) pds_nil))) rfl) rfl
  | step _ l st' ls _ _ hw hlo hb hrest =>
    obtain ⟨xs, hx, hh⟩ := look_tup l
    have hld : loD ((l :: ls).head?) = .tup xs := hx
    rw [hld]
    refine ⟨true, td_cmp c_notN (pd_var 6) pd_non, fun _ => ?_, fun h => by cases h⟩
    refine rg_when (k := true) (td_cmp (c_ninE hu hh) (pd_var 6) (pd_var 3)) (fun _ => ?_) fun h => by cases h
    refine rg_append (P := fun d => d = .tup xs) 5 rfl (PN.po (PD.pn (d := .tup xs) (pd_var 6) rfl)) (by
      rw [List.length_map]
      have := congrArg List.length hdn
      rw [List.length_append] at this
      omega) fun d hd => rg_nil ?_
    subst hd
    show RG _ _ _ [.dat q.d, .dat (tbsD tb), .dat (.lst []), .dat (.dic []), .dat st.d, .own (dn.map Look.d ++ [.tup xs]), .dat (.tup xs)] _
    refine rg_asg (d := st'.d) 4 (pd_call A3 hr (q, st, tell (rowsOf q tb) l, st') (pds_cons (pd_var 0) (pds_cons (pd_var 4) (pds_cons (pd_if (k := false) (td_cmp (c_inE hu hh) (pd_var 6) (pd_var 3)) (fun h => by cases h) fun _ => pd_call A5 (hr.mono (by omega)) (q, tb, l) (pds_cons (pd_var 0) (pds_cons (pd_var 1) (pds_cons (PD.of (pd_var 6) hx.symm) pds_nil))) ⟨gd, gt, hlo⟩ fun _ h => h) pds_nil))) hb fun _ h => h) nd ?_
    show RG _ _ _ [.dat q.d, .dat (tbsD tb), .dat (.lst []), .dat (.dic []), .dat st'.d, .own (dn.map Look.d ++ [.tup xs]), .dat (.tup xs)] _
    refine rg_asg (d := loD ls.head?) 6 (pd_call A2 hr (q, st', ls.head?) (pds_cons (pd_var 0) (pds_cons (pd_var 4) pds_nil)) (wantOf hrest) fun _ h => h) nd ?_
    refine rg_nil ⟨ls.length, by simp, st', dn ++ [l], ls, ?_, hrest, rfl, by rw [List.append_assoc]; exact hdn⟩
    rw [List.map_append, List.map_cons, List.map_nil, hx]
    rfl
theorem ok_run (n : Nat) (F : At K mg "run" s_run ["question", "tables"]) (A1 : DfOk P w K mg base (20 + 2 * n + 2) "run_knowing" ["question", "tables", "pairs"] (SpF T K (fun r : Rn => [r.q.d, tbsD r.tb, .lst []]) (fun r => r.ok n) (fun r d => d = r.d))) :
    DfOk P w K mg base (20 + 2 * n + 3) "run" ["question", "tables"] (SpF T K (fun r : Rn => [r.q.d, tbsD r.tb]) (fun r => r.ok n) (fun r d => d = r.d)) := by
  refine df_mk F sc_run (fun _ => rfl) fun f cd A' outer s H E hr r hok => ?_
  exact rg_retD (pd_call A1 hr r (pds_cons (pd_var 0) (pds_cons (pd_var 1) (pds_cons (PL.pd (pl_lst pds_nil)) pds_nil))) hok fun _ h => h) rfl
end
end E
/-! the law's words, plainly -/
namespace E
open PySem L2
/-- what the law's way of asking needs of a question -/
structure Nst (q : Qn) : Prop where
  cnt : ∀ c ∈ q.cols, ((q.above c).map fun a => (q.above a).length).Nodup
  way : ∀ i, i < q.atoms.length → ∃ e, ((q.at i).own.filter fun c => decide ((q.path c).length = (q.at i).own.length)).head? = some e ∧ q.path e = q.way i
theorem filter_sub_len {α : Type} {p r : α → Bool} {l : List α} (h : ∀ x ∈ l, p x = true → r x = true) (hl : (l.filter r).length ≤ (l.filter p).length) : l.filter p = l.filter r := by
  induction l with
  | nil => rfl
  | cons a l ih =>
    have h' : ∀ x ∈ l, p x = true → r x = true := fun x hx => h x (List.mem_cons_of_mem _ hx)
    have hle : (l.filter p).length ≤ (l.filter r).length := by
      clear ih hl h
      induction l with
      | nil => simp
      | cons b l ih =>
        have := ih fun x hx => h' x (List.mem_cons_of_mem _ hx)
        have hb := h' b List.mem_cons_self
        simp only [List.filter_cons]
        cases e : p b with
        | true => simp [hb e]; omega
        | false => simp only [Bool.false_eq_true, if_false]; split <;> simp <;> omega
    simp only [List.filter_cons] at hl ⊢
    cases e : p a with
    | true =>
      have e2 := h a List.mem_cons_self e
      simp only [e, e2, if_true, List.length_cons] at hl ⊢
      rw [ih h' (by omega)]
    | false =>
      simp only [e, Bool.false_eq_true, if_false] at hl ⊢
      cases e2 : r a with
      | true => simp only [e2, if_true, List.length_cons] at hl; omega
      | false =>
        simp only [e2, Bool.false_eq_true, if_false] at hl ⊢
        exact ih h' hl
/-- above, as the law says it -/
theorem isAbove_law (q : Qn) (a b : Str) : q.isAbove a b = (!(decide (a = b) || !((q.atomsOf b).filter fun i => !decide (i ∈ q.atomsOf a)).isEmpty) && (decide ((q.atomsOf b).length < (q.atomsOf a).length) || decide (q.cols.idxOf a < q.cols.idxOf b))) := by
  have hsub : ((q.atomsOf b).filter fun i => !decide (i ∈ q.atomsOf a)).isEmpty = (q.atomsOf b).all fun i => decide (i ∈ q.atomsOf a) := by
    rw [Bool.eq_iff_iff, List.isEmpty_iff, List.filter_eq_nil_iff, List.all_eq_true]
    simp
  rw [hsub]
  unfold Qn.isAbove
  by_cases e : q.atomsOf a = q.atomsOf b
  · rw [if_pos e, e]
    have h1 : ((q.atomsOf b).all fun i => decide (i ∈ q.atomsOf b)) = true := by rw [List.all_eq_true]; intro i hi; simpa using hi
    rw [h1]
    by_cases e2 : a = b
    · subst e2; simp
    · simp [e2]
  · rw [if_neg e]
    have hne : a ≠ b := fun z => e (by rw [z])
    cases h : (q.atomsOf b).all fun i => decide (i ∈ q.atomsOf a) with
    | false => simp [h]
    | true =>
      have hs : ∀ i ∈ q.atomsOf b, i ∈ q.atomsOf a := fun i hi => by simpa using List.all_eq_true.mp h i hi
      have hlt : (q.atomsOf b).length < (q.atomsOf a).length := by
        rcases Nat.lt_or_ge (q.atomsOf b).length (q.atomsOf a).length with h1 | h1
        · exact h1
        · refine absurd (Eq.symm ?_) e
          unfold Qn.atomsOf at h1 hs ⊢
          refine filter_sub_len (fun i hi hp => ?_) h1
          have := hs i (List.mem_filter.mpr ⟨hi, hp⟩)
          exact (List.mem_filter.mp this).2
      simp [hne, hlt]
theorem above_trans {q : Qn} {a b c : Str} (h1 : q.isAbove a b = true) (h2 : q.isAbove b c = true) : q.isAbove a c = true := by
  have key : ∀ {a b : Str}, q.isAbove a b = true → (∀ i ∈ q.atomsOf b, i ∈ q.atomsOf a) := fun {a b} h i hi => by
    unfold Qn.isAbove at h
    by_cases e : q.atomsOf a = q.atomsOf b
    · rw [e]; exact hi
    · rw [if_neg e] at h
      simpa using List.all_eq_true.mp h i hi
  have s1 := key h1
  have s2 := key h2
  unfold Qn.isAbove
  by_cases e : q.atomsOf a = q.atomsOf c
  · rw [if_pos e]
    have len : ∀ {x y : Str}, (∀ i ∈ q.atomsOf y, i ∈ q.atomsOf x) → (∀ i ∈ q.atomsOf x, i ∈ q.atomsOf y) → q.atomsOf x = q.atomsOf y := fun {x y} u v => by
      unfold Qn.atomsOf at u v ⊢
      apply List.filter_congr
      intro i hi
      rw [Bool.eq_iff_iff]
      exact ⟨fun hp => (List.mem_filter.mp (v i (List.mem_filter.mpr ⟨hi, hp⟩))).2, fun hp => (List.mem_filter.mp (u i (List.mem_filter.mpr ⟨hi, hp⟩))).2⟩
    have e1 : q.atomsOf a = q.atomsOf b := len s1 fun i hi => s2 i (e ▸ hi)
    have e2 : q.atomsOf b = q.atomsOf c := e1.symm.trans e
    unfold Qn.isAbove at h1 h2
    rw [if_pos e1] at h1
    rw [if_pos e2] at h2
    simp only [decide_eq_true_eq] at h1 h2 ⊢
    omega
  · rw [if_neg e, List.all_eq_true]
    intro i hi
    simpa using s1 i (s2 i hi)
theorem above_in {q : Qn} {a c : Str} (h : a ∈ q.above c) : (q.above c).filter (fun b => q.isAbove b a) = q.above a := by
  unfold Qn.above at h ⊢
  rw [List.filter_filter]
  apply List.filter_congr
  intro b _
  have ha := (List.mem_filter.mp h).2
  cases e : q.isAbove b a with
  | false => rfl
  | true => rw [above_trans e ha]; rfl
/-- the values once each, upwards -/
def insV (x : Int) : List Int → List Int
  | [] => [x]
  | y :: l => if x < y then x :: y :: l else if x = y then y :: l else y :: insV x l
def uniqV : List Int → List Int
  | [] => []
  | x :: l => insV x (uniqV l)
theorem mem_insV {x y : Int} : ∀ {l : List Int}, y ∈ insV x l ↔ y = x ∨ y ∈ l
  | [] => by simp [insV]
  | z :: l => by
    unfold insV
    split
    · simp
    · split
      · next h => subst h; simp
      · rw [List.mem_cons, mem_insV, List.mem_cons]
        constructor
        · rintro (h | h | h)
          · exact .inr (.inl h)
          · exact .inl h
          · exact .inr (.inr h)
        · rintro (h | h | h)
          · exact .inr (.inl h)
          · exact .inl h
          · exact .inr (.inr h)
theorem mem_uniqV {y : Int} : ∀ {l : List Int}, y ∈ uniqV l ↔ y ∈ l
  | [] => Iff.rfl
  | x :: l => by rw [uniqV, mem_insV, mem_uniqV, List.mem_cons]
theorem pw_insV {x : Int} : ∀ {l : List Int}, l.Pairwise (· < ·) → (insV x l).Pairwise (· < ·)
  | [], _ => by simp [insV]
  | z :: l, h => by
    rcases List.pairwise_cons.mp h with ⟨h1, h2⟩
    unfold insV
    split
    · next hlt =>
      refine List.pairwise_cons.mpr ⟨fun y hy => ?_, h⟩
      obtain rfl | hy := List.mem_cons.mp hy
      · exact hlt
      · exact Int.lt_trans hlt (h1 y hy)
    · split
      · exact h
      · next n1 n2 =>
        refine List.pairwise_cons.mpr ⟨fun y hy => ?_, pw_insV h2⟩
        rcases mem_insV.mp hy with rfl | hy
        · omega
        · exact h1 y hy
theorem pw_uniqV : ∀ l : List Int, (uniqV l).Pairwise (· < ·)
  | [] => .nil
  | _ :: l => pw_insV (pw_uniqV l)
theorem pw_uniq : ∀ {l m : List Int}, l.Pairwise (· < ·) → m.Pairwise (· < ·) → (∀ x, x ∈ l ↔ x ∈ m) → l = m
  | [], [], _, _, _ => rfl
  | [], y :: m, _, _, h => by have := (h y).mpr List.mem_cons_self; cases this
  | x :: l, [], _, _, h => by have := (h x).mp List.mem_cons_self; cases this
  | x :: l, y :: m, hl, hm, h => by
    obtain ⟨l1, l2⟩ := List.pairwise_cons.mp hl
    obtain ⟨m1, m2⟩ := List.pairwise_cons.mp hm
    have e : x = y := by
      rcases List.mem_cons.mp ((h x).mp List.mem_cons_self) with e | e
      · exact e
      · rcases List.mem_cons.mp ((h y).mpr List.mem_cons_self) with e' | e'
        · exact e'.symm
        · have := l1 y e'; have := m1 x e; omega
    subst e
    rw [pw_uniq l2 m2 fun z => ?_]
    constructor
    · intro hz
      rcases List.mem_cons.mp ((h z).mp (List.mem_cons_of_mem _ hz)) with e | e
      · subst e; exact absurd (l1 _ hz) (by omega)
      · exact e
    · intro hz
      rcases List.mem_cons.mp ((h z).mpr (List.mem_cons_of_mem _ hz)) with e | e
      · subst e; exact absurd (m1 _ hz) (by omega)
      · exact e
def lawVals (rows : List (List Int)) (p : List Int) : List Int := uniqV (valsBehind rows p)
def lawGap (vs : List Int) : Option Int → Option Int × Option Int
  | none => (none, vs.head?)
  | some x => ((vs.filter fun v => decide (v < x)).getLast?, (vs.filter fun v => decide (x < v)).head?)
end E
namespace E
open LamX L2 PyProof.Rows PySem PySem.Spec
theorem c_ninLN {X : Cx} {T : List (Addr × Str)} {n : Nat} {l : List Nat} : CmpD X T .NotIn (.int (n : Int)) (.lst (dN l)) (!decide (n ∈ l)) := by
  have h := c_ninIL (X := X) (T := T) (c := (n : Int)) (l := l.map fun n : Nat => (n : Int))
  rw [← dN_ints] at h
  have e : decide ((n : Int) ∈ l.map fun n : Nat => (n : Int)) = decide (n ∈ l) := by rw [Bool.eq_iff_iff, decide_eq_true_iff, decide_eq_true_iff]; exact mem_nat
  rw [e] at h
  exact h
section
variable {P : Program} {w : World} {K : PySem.W.Frag} {mg : Str → Option Value} {base : Heap} {T : List (Addr × Str)}
abbrev SpLAtoms (T : List (Addr × Str)) (K : PySem.W.Frag) : Sp := SpF T K (fun x : Qn × Str => [x.1.d, .str x.2]) (fun x => Gd x.1) (fun x d => d = .lst (dN (x.1.atomsOf x.2)))
theorem ok_law_atoms_of (b : Bl mg) (F : At K mg "_law_atoms_of" s_law_atoms_of ["_law_question", "_law_column"]) : DfOk P w K mg base 1 "_law_atoms_of" ["_law_question", "_law_column"] (SpLAtoms T K) := by
  refine df_mk F sc_law_atoms_of (fun _ => rfl) fun f cd A' outer s H E hr x gd => ?_
  obtain ⟨q, c⟩ := x
  have nd := sc_law_atoms_of.nd
  have h2 : q.atoms.length ≤ 1000 := gd.sa
  refine rg_retD (d := .lst (dN (q.atomsOf c))) (PL.pd (PLc.pl (plc_fm (pat := .tp [.nm 2, .nm 3]) (xs := List.range q.atoms.length) (it := fun i => .tup [.int (i : Nat), (q.at i).d]) (t := fun i => decide (c ∈ (q.at i).own)) (g := fun i : Nat => .int (i : Int))
    (src_of (src_enumT (xs := q.atoms.map Atom.d) b.enumerate (pd_ixT (pd_var 0) pd_int (atI_nat (j := 1) rfl))) ?_)
    (fun _ _ _ _ _ => pat_tp (pats_cons (pat_nm 2 nd) (pats_cons (pat_nm 3 nd) pats_nil))) (blkOk_by (N := N_law_atoms_of) (sc := defScope s_law_atoms_of) (own := [("_law_index", 2), ("_law_atom", 3)]) (by decide +kernel)) nd (by rw [List.length_range]; exact fits h2) fun i hi =>
      ⟨_, rfl, ?_, ?_⟩))) rfl
  · rw [List.length_map]
    exact List.map_congr_left fun i hi => by rw [atoms_get (List.mem_range.mp hi)]
  · exact fun _ _ _ _ _ => td_cmp c_inST (pd_var 1) (pd_ixT (pd_var 3) pd_int (atI_nat (j := 2) rfl)).tup
  · exact fun e _ _ _ _ _ => pd_var 2
abbrev SpLAbove (T : List (Addr × Str)) (K : PySem.W.Frag) : Sp := SpF T K (fun x : Qn × Str × Str => [x.1.d, .str x.2.1, .str x.2.2]) (fun x => Gd x.1 ∧ x.2.1 ∈ x.1.cols ∧ x.2.2 ∈ x.1.cols) (fun x d => d = .bl (x.1.isAbove x.2.1 x.2.2))
theorem ok_law_is_above (b : Bl mg) (F : At K mg "_law_is_above" s_law_is_above ["_law_question", "_law_one", "_law_other"]) (A1 : DfOk P w K mg base 1 "_law_atoms_of" ["_law_question", "_law_column"] (SpLAtoms T K)) :
    DfOk P w K mg base 2 "_law_is_above" ["_law_question", "_law_one", "_law_other"] (SpLAbove T K) := by
  refine df_mk F sc_law_is_above (fun _ => rfl) fun f cd A' outer s H E hr x hx => ?_
  obtain ⟨q, c, e⟩ := x
  obtain ⟨gd, hc, he⟩ := hx
  have nd := sc_law_is_above.nd
  refine rg_pat (pat := .tp [.nm 3, .nm 4]) (d := .tup [.lst (dN (q.atomsOf c)), .lst (dN (q.atomsOf e))]) (pd_tup (pds_cons (pd_call A1 hr (q, c) (pds_cons (pd_var 0) (pds_cons (pd_var 1) pds_nil)) gd fun _ h => h) (pds_cons (pd_call A1 hr (q, e) (pds_cons (pd_var 0) (pds_cons (pd_var 2) pds_nil)) gd fun _ h => h) pds_nil)))
    (pat_tp (pats_cons (pat_nm 3 nd) (pats_cons (pat_nm 4 nd) pats_nil))) rfl ?_
  show RG _ _ _ [.dat q.d, .dat (.str c), .dat (.str e), .dat (.lst (dN (q.atomsOf c))), .dat (.lst (dN (q.atomsOf e))), .no] { rt := fun d => d = .bl (q.isAbove c e) }
  rw [isAbove_law]
  have lens : ∀ l : List Nat, ((dN l).length : Int) = (l.length : Int) := fun l => by rw [dN_len]
  have hne : (dN ((q.atomsOf e).filter fun i => !decide (i ∈ q.atomsOf c))).isEmpty = ((q.atomsOf e).filter fun i => !decide (i ∈ q.atomsOf c)).isEmpty := by unfold dN; rw [List.isEmpty_map]
  refine rg_when (k := decide (c = e) || !((q.atomsOf e).filter fun i => !decide (i ∈ q.atomsOf c)).isEmpty) (WD.td (wd_or (k := decide (c = e)) (k' := !((q.atomsOf e).filter fun i => !decide (i ∈ q.atomsOf c)).isEmpty) (td_cmp c_eqS (pd_var 1) (pd_var 2)) fun _ => wd_or1 ((td_cmp (c_neL0 (by have := hr.un; omega)) (PL.pd (PLc.pl (plc_fm (pat := .nm 5) (xs := q.atomsOf e) (it := fun n : Nat => .int (n : Int)) (t := fun i => !decide (i ∈ q.atomsOf c)) (g := fun n : Nat => .int (n : Int))
    (src_list (pd_var 4)) (fun _ _ _ _ _ => pat_nm 5 nd) (blkOk_by (N := N_law_is_above) (sc := defScope s_law_is_above) (own := [("_law_index", 5)]) (by decide +kernel)) nd (fits (atomsOf_len q e gd)) fun i hi => ⟨_, rfl, ?_, ?_⟩))) (PL.pd (pl_lst pds_nil))).of (congrArg not hne)))) (fun h => ?_) fun h => ?_
  · exact fun _ _ _ _ _ => td_cmp c_ninLN (pd_var 5) (pd_var 3)
  · exact fun _ _ _ _ _ _ => pd_var 5
  · refine rg_retD pd_bl ?_
    show _ = _
    rw [h]
    rfl
  · refine rg_retD (pd_or (k := decide (((dN (q.atomsOf e)).length : Int) < ((dN (q.atomsOf c)).length : Int))) (k' := decide ((q.cols.idxOf c : Int) < (q.cols.idxOf e : Int))) (pd_cmp c_gt (pd_lenL b.len (pd_var 3)) (pd_lenL b.len (pd_var 4))) fun _ => pd_and1 (pd_cmp c_lt (pd_index (l := q.cols) (z := c) (pd_ixT (pd_var 0) pd_int (atI_nat (j := 0) rfl)) (pd_var 1) (idx_at hc).1 (idx_at hc).2) (pd_index (l := q.cols) (z := e) (pd_ixT (pd_var 0) pd_int (atI_nat (j := 0) rfl)) (pd_var 2) (idx_at he).1 (idx_at he).2))) ?_
    show _ = _
    rw [h, lens, lens]
    simp
end
end E
namespace E
open PySem PySem.Spec PyProof.Rows L2 LamX PySem.W
theorem inj_of_nodup {α : Type} {n : α → Nat} : ∀ {l : List α}, (l.map n).Nodup → ∀ a ∈ l, ∀ b ∈ l, n a = n b → a = b
  | [], _, a, ha, _, _, _ => by cases ha
  | x :: l, h, a, ha, b, hb, e => by
    rw [List.map_cons, List.nodup_cons] at h; rcases List.mem_cons.mp ha with h1 | h1
    · rcases List.mem_cons.mp hb with h2 | h2
      · rw [h1, h2]
      · exact absurd (by rw [← h1, e]; exact List.mem_map_of_mem h2) h.1
    · rcases List.mem_cons.mp hb with h2 | h2
      · exact absurd (by rw [← h2, ← e]; exact List.mem_map_of_mem h1) h.1
      · exact inj_of_nodup h.2 a h1 b h2 e
/-- a number and a text -/
abbrev prN (n : Str → Nat) (a : Str) : D := .tup [.int (n a : Int), .str a]
theorem prN_sort {n : Str → Nat} {U : List Str} (h : (U.map n).Nodup) : (U.map (prN n)).mergeSort (dataLe false D.py) = (U.mergeSort fun a b => decide (n a ≤ n b)).map (prN n) := by
  symm
  refine List.map_mergeSort fun a ha b hb => ?_
  show _ = !dataLt (PyData.tuple [.int (n b : Int), .str b]) (.tuple [.int (n a : Int), .str a])
  rw [dataLt_pair (by simp [alike]) (by simp [alike]), dataLt_int]
  by_cases e : n b = n a
  · have e2 : b = a := inj_of_nodup h b hb a ha e
    subst e2
    simp [PyData.eqv]
  · have e3 : ((n b : Int) == (n a : Int)) = false := by rw [beq_eq_false_iff_ne]; omega
    simp only [PyData.eqv, e3, Bool.false_eq_true, if_false]
    rw [Bool.eq_iff_iff, decide_eq_true_iff, Bool.not_eq_true', decide_eq_false_iff_not]
    omega
section
variable {P : Program} {w : World} {K : PySem.W.Frag} {mg : Str → Option Value} {base : Heap} {T : List (Addr × Str)}
abbrev SpLPath (T : List (Addr × Str)) (K : PySem.W.Frag) : Sp := SpF T K (fun x : Qn × Str => [x.1.d, .str x.2]) (fun x => Gd x.1 ∧ Nst x.1 ∧ x.2 ∈ x.1.cols) (fun x d => d = .lst ((x.1.path x.2).map .str))
theorem ok_law_path (b : Bl mg) (F : At K mg "_law_path" s_law_path ["_law_question", "_law_column"]) (A1 : DfOk P w K mg base 2 "_law_is_above" ["_law_question", "_law_one", "_law_other"] (SpLAbove T K)) :
    DfOk P w K mg base 3 "_law_path" ["_law_question", "_law_column"] (SpLPath T K) := by
  refine df_mk F sc_law_path (fun _ => rfl) fun f cd A' outer s H E hr x hx => ?_
  obtain ⟨q, c⟩ := x
  obtain ⟨gd, ns, hc⟩ := hx
  have gd : Gd q := gd
  have hc : c ∈ q.cols := hc
  have nd := sc_law_path.nd
  have hz : (2000 : Nat) ≤ sizeLine := by decide
  have hul : (q.above c).length ≤ 1000 := Nat.le_trans (List.length_filter_le _ _) gd.sc
  have huc : ∀ a ∈ q.above c, a ∈ q.cols := fun a ha => (List.mem_filter.mp ha).1
  refine rg_setLc (P := fun l => l = (q.above c).map .str) 2 (plc_fm (pat := .nm 4) (xs := q.cols) (it := D.str) (t := fun a => q.isAbove a c) (g := D.str)
    (src_tup (pd_ixT (pd_var 0) pd_int (atI_nat (j := 0) rfl)).tup) (fun _ _ _ _ _ => pat_nm 4 nd) (blkOk_by (N := N_law_path) (sc := defScope s_law_path) (own := [("_law_one", 4)]) (by decide +kernel)) nd (fits gd.sc) fun a ha => ⟨_, rfl, ?_, ?_⟩) (fun l hl => ?_) (by rfl) (sw_true rfl rfl rfl rfl)
  · exact fun _ _ _ _ _ => td_val (pd_call A1 hr (q, a, c) (pds_cons (pd_var 0) (pds_cons (pd_var 4) (pds_cons (pd_var 1) pds_nil))) ⟨gd, ha, hc⟩ fun _ h => h)
  · exact fun _ _ _ _ _ _ => pd_var 4
  subst hl
  refine rg_freeze 2 rfl ?_
  refine rg_asgL (P := fun l => l = []) 3 ((pl_lst pds_nil).pln rfl) nd fun l hl => ?_
  subst hl
  show RG _ _ _ [.dat q.d, .dat (.str c), .dat (.lst ((q.above c).map .str)), .own [], .no, .no, .no] _
  refine rg_for (pat := .nm 4) (fun _ i ds => ∃ s4 s5, ds = [.dat q.d, .dat (.str c), .dat (.lst ((q.above c).map .str)), .own (((q.above c).take i).map (prN fun a => (q.above a).length)), s4, s5, .no]) (src_list (pd_var 2)) (pat_nm 4 nd) (fun _ _ => ⟨_, _, rfl⟩) ?_ ?_ .never
  · rintro items i d ds' rfl hd ⟨s4, s5, rfl⟩
    rw [List.getElem?_map] at hd
    obtain ⟨a, ha, rfl⟩ := Option.map_eq_some_iff.mp hd
    have ham : a ∈ q.above c := List.mem_of_getElem? ha
    have hlt : i < (q.above c).length := (List.getElem?_eq_some_iff.mp ha).1
    refine ⟨[.dat q.d, .dat (.str c), .dat (.lst ((q.above c).map .str)), .own (((q.above c).take i).map (prN fun a => (q.above a).length)), .dat (.str a), s5, .no], rfl, ?_⟩
    refine rg_asg (d := .int (((q.above a).length : Nat) : Int)) 5 (PD.of (pd_lenL b.len (PL.pd (PLc.pl (plc_fm (pat := .nm 6) (xs := q.above c) (it := D.str) (t := fun o => q.isAbove o a) (g := D.str)
      (src_list (pd_var 2)) (fun _ _ _ _ _ => pat_nm 6 nd) (blkOk_by (N := N_law_path) (sc := defScope s_law_path) (own := [("_law_other", 6)]) (by decide +kernel)) nd (fits hul) fun o ho => ⟨_, rfl, ?_, ?_⟩)))) ?_) nd ?_
    · exact fun _ _ _ _ _ => td_val (pd_call A1 hr (q, o, a) (pds_cons (pd_var 0) (pds_cons (pd_var 6) (pds_cons (pd_var 4) pds_nil))) ⟨gd, huc o ho, huc a ham⟩ fun _ h => h)
    · exact fun _ _ _ _ _ _ => pd_var 6
    · rw [List.length_map, above_in ham]
    show RG _ _ _ [.dat q.d, .dat (.str c), .dat (.lst ((q.above c).map .str)), .own (((q.above c).take i).map (prN fun a => (q.above a).length)), .dat (.str a), .dat (.int (((q.above a).length : Nat) : Int)), .no] _
    refine rg_append (P := fun d => d = prN (fun a => (q.above a).length) a) 3 rfl (PN.po (PD.pn (d := prN (fun a => (q.above a).length) a) (pd_tup (pds_cons (pd_var 5) (pds_cons (pd_var 4) pds_nil))) rfl)) (by rw [List.length_map, List.length_take]; omega) fun d hd => rg_nil ?_
    subst hd
    refine ⟨.dat (.str a), .dat (.int (((q.above a).length : Nat) : Int)), ?_⟩
    rw [List.take_add_one, ha, List.map_append]
    rfl
  · rintro items ds' rfl ⟨s4, s5, rfl⟩
    rw [List.length_map, List.take_length]; have hcnt := ns.cnt c hc
    refine rg_retD (d := .lst ((q.path c).map .str)) (PL.pd (PLn.pl (PL.pln (pl_cat (xs := ((q.above c).mergeSort fun a b => decide ((q.above a).length ≤ (q.above b).length)).map .str) (ys := [.str c]) (PL.pd (PLc.pl (PLc.imp (plc_fm (pat := .tp [.nm 5, .nm 4]) (xs := (q.above c).mergeSort fun a b => decide ((q.above a).length ≤ (q.above b).length)) (it := prN fun a => (q.above a).length) (t := fun _ => true) (g := D.str)
      (src_of (src_list (PL.pd (pl_sortedD b.sorted (xs := (q.above c).map (prN fun a => (q.above a).length)) (pd_var 3) (by have := hr.un; omega) ?_ ?_ ?_ ?_))) (prN_sort hcnt))
      (fun _ _ _ _ _ => pat_tp (pats_cons (pat_nm 5 nd) (pats_cons (pat_nm 4 nd) pats_nil))) (blkOk_by (N := N_law_path) (sc := defScope s_law_path) (own := [("_law_one", 4), ("_law_at", 5)]) (by decide +kernel)) nd (by rw [List.length_mergeSort]; exact fits hul) fun a ha => ⟨_, rfl, ?_, ?_⟩) ?_))) (PL.pd (pl_lst (pds_cons (pd_var 1) pds_nil))) ?_) ?_))) rfl
    · rw [pls_all]; simp [D.pl, D.pls]
    · rw [List.map_map]
      exact AllAlike.of fun a b => by simp [D.py, D.pys, alike, alikeAll]
    · rw [List.map_map]
      exact Sortable.tuples fun a => ⟨_, _, rfl⟩
    · intro d hd
      obtain ⟨a, _, rfl⟩ := List.mem_map.mp hd
      exact Nat.le_of_ble_eq_true rfl
    · rfl
    · exact fun _ _ _ _ _ _ => pd_var 4
    · rintro l rfl
      rw [List.filter_eq_self.mpr fun _ _ => rfl]
    · rw [List.length_map, List.length_mergeSort]
      show _ + 1 ≤ _
      omega
    · unfold Qn.path
      rw [List.map_append]
      rfl
end
end E
namespace E
open PySem PySem.Spec PyProof.Rows L2 LamX PySem.W
theorem c_eqOO {X : Cx} {T : List (Addr × Str)} {a o : Option Str} : CmpD X T .Eq (os a) (os o) (decide (a = o)) := by
  cases o with
  | some c => exact c_eqOS
  | none => cases a with
    | none => exact c_eqF (x := .non) (y := .non) (v := .non) (w := .non) rfl rfl rfl
    | some b => exact c_eqF (x := .str b) (y := .non) (v := .str b) (w := .non) rfl rfl rfl
section
variable {P : Program} {w : World} {K : PySem.W.Frag} {mg : Str → Option Value} {base : Heap} {T : List (Addr × Str)}
abbrev SpLKids (T : List (Addr × Str)) (K : PySem.W.Frag) : Sp := SpF T K (fun x : Qn × Option Str => [x.1.d, os x.2]) (fun x => Gd x.1 ∧ Nst x.1) (fun x d => d = .lst ((x.1.kids x.2).map .str))
theorem ok_law_children (b : Bl mg) (F : At K mg "_law_children" s_law_children ["_law_question", "_law_column"]) (A1 : DfOk P w K mg base 3 "_law_path" ["_law_question", "_law_column"] (SpLPath T K)) :
    DfOk P w K mg base 4 "_law_children" ["_law_question", "_law_column"] (SpLKids T K) := by
  refine df_mk F sc_law_children (fun _ => rfl) fun f cd A' outer s H E hr x hx => ?_
  obtain ⟨q, o⟩ := x
  obtain ⟨gd, ns⟩ := hx
  have gd : Gd q := gd
  have nd := sc_law_children.nd
  have hsc : q.cols.length ≤ 1000 := gd.sc
  have hz : (2000 : Nat) ≤ sizeLine := by decide
  refine rg_asgL (P := fun l => l = []) 2 ((pl_lst pds_nil).pln rfl) nd fun l hl => ?_
  subst hl
  show RG _ _ _ [.dat q.d, .dat (os o), .own [], .no, .no] _
  refine rg_for (pat := .nm 3) (fun _ i ds => ∃ s3 s4, ds = [.dat q.d, .dat (os o), .own (((q.cols.take i).filter fun d => decide (q.parent d = o)).map .str), s3, s4]) (src_tup (xs := q.cols.map .str) (pd_ixT (pd_var 0) pd_int (atI_nat (j := 0) rfl)).tup) (pat_nm 3 nd) (fun _ _ => ⟨_, _, rfl⟩) ?_ ?_ .never
  · rintro items i d ds' rfl hd ⟨s3, s4, rfl⟩
    rw [List.getElem?_map] at hd
    obtain ⟨a, ha, rfl⟩ := Option.map_eq_some_iff.mp hd
    have hac : a ∈ q.cols := List.mem_of_getElem? ha
    have hlt : i < q.cols.length := (List.getElem?_eq_some_iff.mp ha).1
    refine ⟨[.dat q.d, .dat (os o), .own (((q.cols.take i).filter fun d => decide (q.parent d = o)).map .str), .dat (.str a), s4], rfl, ?_⟩
    refine rg_asg (d := .lst ((q.path a).map .str)) 4 (pd_call A1 hr (q, a) (pds_cons (pd_var 0) (pds_cons (pd_var 3) pds_nil)) ⟨gd, ns, hac⟩ fun _ h => h) nd ?_
    show RG _ _ _ [.dat q.d, .dat (os o), .own (((q.cols.take i).filter fun d => decide (q.parent d = o)).map .str), .dat (.str a), .dat (.lst ((q.path a).map .str))] _
    refine rg_when (k := decide (q.parent a = o)) (td_cmp c_eqOO (pd_if (d := os (q.parent a)) (k := decide ((1 : Int) < (((q.path a).map D.str).length : Nat))) (td_cmp c_gt (pd_lenL b.len (pd_var 4)) pd_int) (fun h => ?_) fun h => ?_) (pd_var 1)) (fun h => ?_) fun h => ?_
    · rcases path_split q a with ⟨_, h2⟩ | ⟨l, y, h1, h2⟩
      · rw [h2] at h; exact absurd h (by simp)
      · rw [h1]
        refine pd_ixL (pd_var 4) (pd_neg pd_int) ?_
        rw [h2, List.map_append]
        exact atI_m2 _ _ _
    · rcases path_split q a with ⟨h1, _⟩ | ⟨l, y, h1, h2⟩
      · rw [h1]; exact pd_non
      · rw [h2, List.length_map, List.length_append] at h
        have := of_decide_eq_false h
        simp only [List.length_cons, List.length_nil] at this
        omega
    · refine rg_append (P := fun d => d = .str a) 2 rfl (PN.po (PD.pn (d := .str a) (pd_var 3) rfl)) ?_ fun d hd => rg_nil (rg_nil ?_)
      · rw [List.length_map]
        have := List.length_filter_le (fun d => decide (q.parent d = o)) (q.cols.take i)
        rw [List.length_take] at this
        omega
      · subst hd
        refine ⟨.dat (.str a), .dat (.lst ((q.path a).map .str)), ?_⟩
        rw [List.take_add_one, ha, List.filter_append, List.map_append]
        simp [h]
    · refine rg_nil ⟨.dat (.str a), .dat (.lst ((q.path a).map .str)), ?_⟩
      rw [List.take_add_one, ha, List.filter_append]
      simp [h]
  · rintro items ds' rfl ⟨s3, s4, rfl⟩
    rw [List.length_map, List.take_length]; exact rg_retD (pd_var 2) rfl
abbrev SpLWay (T : List (Addr × Str)) (K : PySem.W.Frag) : Sp := SpF T K (fun x : Qn × Nat => [x.1.d, .int (x.2 : Int)]) (fun x => Gd x.1 ∧ Nst x.1 ∧ x.2 < x.1.atoms.length) (fun x d => d = .lst ((x.1.way x.2).map .str))
theorem ok_law_way (b : Bl mg) (F : At K mg "_law_way" s_law_way ["_law_question", "_law_index"]) (A1 : DfOk P w K mg base 3 "_law_path" ["_law_question", "_law_column"] (SpLPath T K)) :
    DfOk P w K mg base 4 "_law_way" ["_law_question", "_law_index"] (SpLWay T K) := by
  refine df_mk F sc_law_way (fun _ => rfl) fun f cd A' outer s H E hr x hx => ?_
  obtain ⟨q, i⟩ := x
  obtain ⟨gd, ns, hi⟩ := hx
  have gd : Gd q := gd
  have hi : i < q.atoms.length := hi
  have nd := sc_law_way.nd
  obtain ⟨e, he, hpe⟩ := ns.way i hi
  have hom : ∀ a ∈ (q.at i).own, a ∈ q.cols := (gd.own _ (at_mem hi)).2
  refine rg_asg (d := fS (q.at i).own) 2 (pd_ixT (pd_ixT (pd_ixT (pd_var 0) pd_int (atI_nat (j := 1) rfl)) (pd_var 1) (atI_nat (at_ix hi))) pd_int (atI_nat (j := 2) rfl)) nd ?_
  refine rg_setLc (P := fun l => l = (((q.at i).own.filter fun c => decide ((q.path c).length = (q.at i).own.length)).map .str)) 3 (plc_fm (pat := .nm 4) (xs := (q.at i).own) (it := D.str) (t := fun c => decide ((q.path c).length = (q.at i).own.length)) (g := D.str)
    (src_tup (PD.tup (pd_var 2))) (fun _ _ _ _ _ => pat_nm 4 nd) (blkOk_by (N := N_law_way) (sc := defScope s_law_way) (own := [("_law_column", 4)]) (by decide +kernel)) nd (fits (gd.so _ (at_mem hi))) fun a ha => ⟨_, rfl, ?_, ?_⟩) (fun l hl => ?_) (by rfl) (sw_true rfl rfl rfl rfl)
  · refine fun _ _ _ _ _ => TD.of (td_cmp c_eqI (pd_lenL b.len (pd_call A1 hr (q, a) (pds_cons (pd_var 0) (pds_cons (pd_var 4) pds_nil)) ⟨gd, ns, hom a ha⟩ fun _ h => h)) (pd_lenT b.len (PD.tup (pd_var 2)))) ?_
    rw [List.length_map, List.length_map, Bool.eq_iff_iff, decide_eq_true_iff, decide_eq_true_iff]
    show ((q.path a).length : Int) = _ ↔ _
    omega
  · exact fun _ _ _ _ _ _ => pd_var 4
  subst hl
  have hem : e ∈ (q.at i).own := (List.mem_filter.mp (List.mem_of_mem_head? he)).1
  refine rg_retD (d := .lst ((q.way i).map .str)) (pd_call A1 hr (q, e) (pds_cons (pd_var 0) (pds_cons (pd_ixL (xs := (((q.at i).own.filter fun c => decide ((q.path c).length = (q.at i).own.length)).map .str)) (pd_var 3) pd_int (atI_nat (j := 0) ?_)) pds_nil)) ⟨gd, ns, hom e hem⟩ fun d hd => ?_) rfl
  · rw [List.getElem?_map, ← List.head?_eq_getElem?, he]
    rfl
  · rw [hd, ← hpe]
abbrev SpLLed (T : List (Addr × Str)) (K : PySem.W.Frag) : Sp := SpF T K (fun x : Qn × Tbs × Nat => [x.1.d, tbsD x.2.1, .int (x.2.2 : Int)]) (fun x => Gd x.1 ∧ Nst x.1 ∧ GT x.1 x.2.1 ∧ x.2.2 < x.1.atoms.length) (fun x d => d = .lst ((rowsOf x.1 x.2.1 x.2.2).map tI))
theorem ok_law_led_rows (b : Bl mg) (F : At K mg "_law_led_rows" s_law_led_rows ["_law_question", "_law_tables", "_law_index"]) (A1 : DfOk P w K mg base 4 "_law_way" ["_law_question", "_law_index"] (SpLWay T K)) :
    DfOk P w K mg base 5 "_law_led_rows" ["_law_question", "_law_tables", "_law_index"] (SpLLed T K) := by
  refine df_mk F sc_law_led_rows (fun _ => rfl) fun f cd A' outer s H E hr x hx => ?_
  obtain ⟨q, tb, i⟩ := x
  obtain ⟨gd, ns, gt, hi⟩ := hx
  have gd : Gd q := gd
  have gt : GT q tb := gt
  have hi : i < q.atoms.length := hi
  have nd := sc_law_led_rows.nd
  obtain ⟨t, ht, hrows, hmem, hnm⟩ := tbs_has (gt.has _ (at_mem hi))
  have hwl : (q.way i).length ≤ 1000 := by rw [way_len]; exact gd.so _ (at_mem hi)
  have hown : ∀ c ∈ q.way i, c ∈ (q.at i).own := fun c hc => (way_perm q i).mem_iff.mp hc
  refine rg_pat (pat := .tp [.nm 3, .nm 4, .nm 5]) (d := (q.at i).d) (ds' := [.dat q.d, .dat (tbsD tb), .dat (.int (i : Int)), .dat (.str (if (q.at i).has then "has" else "not")), .dat (.str (q.at i).name), .dat (fS (q.at i).own), .no, .no, .no, .no]) (pd_ixT (pd_ixT (pd_var 0) pd_int (atI_nat (j := 1) rfl)) (pd_var 2) (atI_nat (at_ix hi)))
    (pat_tp (pats_cons (pat_nm 3 nd) (pats_cons (pat_nm 4 nd) (pats_cons (pat_nm 5 nd) pats_nil)))) rfl ?_
  refine rg_asg (d := .lst ((q.way i).map fun c => .int (((q.at i).own.idxOf c : Nat) : Int))) 6 (PL.pd (PLc.pl (PLc.imp (plc_fm (pat := .nm 7) (xs := q.way i) (it := D.str) (t := fun _ => true) (g := fun c => .int (((q.at i).own.idxOf c : Nat) : Int))
    (src_list (pd_call A1 hr (q, i) (pds_cons (pd_var 0) (pds_cons (pd_var 2) pds_nil)) ⟨gd, ns, hi⟩ fun _ h => h)) (fun _ _ _ _ _ => pat_nm 7 nd) (blkOk_by (N := N_law_led_rows) (sc := defScope s_law_led_rows) (own := [("_law_column", 7)]) (by decide +kernel)) nd (fits hwl) fun c hc => ⟨_, rfl, ?_, ?_⟩) ?_))) nd ?_
  · rfl
  · exact fun _ _ _ _ _ _ => pd_index (l := (q.at i).own) (pd_var 5) (pd_var 7) (idx_at (hown c hc)).1 (idx_at (hown c hc)).2
  · rintro l rfl
    rw [List.filter_eq_self.mpr fun _ _ => rfl]
  show RG _ _ _ [.dat q.d, .dat (tbsD tb), .dat (.int (i : Int)), .dat (.str (if (q.at i).has then "has" else "not")), .dat (.str (q.at i).name), .dat (fS (q.at i).own), .dat (.lst ((q.way i).map fun c => .int (((q.at i).own.idxOf c : Nat) : Int))), .no, .no, .no] _
  refine rg_retD (d := .lst ((rowsOf q tb i).map tI)) (PL.pd (pl_sortedRows (rs := (rowsIn tb (q.at i).name).map fun r => (q.way i).map fun c => r.getD ((q.at i).own.idxOf c) 0) b.sorted (PL.pd (PLc.pl (PLc.imp (plc_fm (pat := .nm 8) (xs := rowsIn tb (q.at i).name) (it := tI) (t := fun _ => true) (g := fun r => tI ((q.way i).map fun c => r.getD ((q.at i).own.idxOf c) 0))
    (src_tup (pd_ixT (d := .tup ((rowsIn tb (q.at i).name).map tI)) (pd_dget (d := tbD t.2) (pd_var 1) (pd_var 4) (hu_of hr) ?_) pd_int ?_)) (fun _ _ _ _ _ => pat_nm 8 nd) (blkOk_by (N := N_law_led_rows) (sc := defScope s_law_led_rows) (own := [("_law_row", 8)]) (by decide +kernel)) nd (fits (gt.few _ (at_mem hi))) fun r hr' => ⟨_, rfl, ?_, ?_⟩) ?_))) (by have := hr.un; omega) ?_)) rfl
  · rw [esGet_tbs, ht]; rfl
  · rw [hrows]; exact atI_nat (j := 1) rfl
  · rfl
  · refine fun _ _ _ _ _ _ => PD.of (pd_tupleL b.tuple (PL.pd (PLc.pl (plc_fm (pat := .nm 9) (xs := q.way i) (it := fun c => .int (((q.at i).own.idxOf c : Nat) : Int)) (t := fun _ => true) (g := fun c => .int (r.getD ((q.at i).own.idxOf c) 0))
      (src_list (pd_var 6)) (fun _ _ _ _ _ => pat_nm 9 nd) (blkOk_by (N := N_law_led_rows) (sc := relS _ (defScope s_law_led_rows)) (own := [("_law_at", 9)]) (by decide +kernel)) nd (fits hwl) fun c hc => ⟨_, rfl, ?_, ?_⟩)))) ?_
    · rfl
    · have hlen := gt.row _ (at_mem hi) r hr'
      have hlt : (q.at i).own.idxOf c < r.length := by rw [hlen]; exact List.idxOf_lt_length_iff.mpr (hown c hc)
      refine fun _ _ _ _ _ _ => pd_ixT (pd_var 8) (pd_var 9) (atI_nat ?_)
      rw [List.getElem?_map, List.getD_eq_getElem?_getD, List.getElem?_eq_getElem hlt]
      rfl
    · rw [List.filter_eq_self.mpr (fun _ _ => rfl)]
      show D.tup _ = D.tup _
      rw [List.map_map]
      rfl
  · rintro l rfl
    rw [List.filter_eq_self.mpr (fun _ _ => rfl), List.map_map]
    rfl
  · intro r hr' e
    obtain ⟨r', _, rfl⟩ := List.mem_map.mp hr'
    have := congrArg List.length e
    rw [List.length_map, way_len] at this
    exact (gd.own _ (at_mem hi)).1 (List.length_eq_zero_iff.mp this)
end
end E
namespace E
open PySem PySem.Spec PyProof.Rows L2 LamX PySem.W
def farG (b o : Gap) : Gap := match b.hi, o.hi with
  | none, _ => b
  | some _, none => o
  | some y, some z => if y < z then o else b
def ltO : Option Int → Int → Bool
  | none, _ => false
  | some y, v => decide (v < y)
def gtO : Option Int → Int → Bool
  | none, _ => true
  | some y, v => decide (y < v)
theorem lawGap_some {vs : List Int} {x : Int} : lawGap vs (some x) = ((vs.filter fun v => decide (v < x)).getLast?, (vs.filter fun v => decide (x < v)).head?) := rfl
section
variable {P : Program} {w : World} {K : PySem.W.Frag} {mg : Str → Option Value} {base : Heap} {T : List (Addr × Str)}
theorem ok_law_range_of (b : Bl mg) (F : At K mg "_law_range_of" s_law_range_of ["_law_question", "_law_column"]) : DfOk P w K mg base 1 "_law_range_of" ["_law_question", "_law_column"] (SpF T K (fun x : Qn × Str => [x.1.d, .str x.2]) (fun x => x.1.ranges.length ≤ 1000) (fun x d => d = .tup [oi (x.1.rangeOf x.2).1, oi (x.1.rangeOf x.2).2])) := by
  refine df_mk F sc_law_range_of (fun _ => rfl) fun f cd A' outer s H E hr x hx => ?_
  obtain ⟨q, c⟩ := x
  have hx : q.ranges.length ≤ 1000 := hx
  have nd := sc_law_range_of.nd
  have hu : (dcx P w K mg base N_law_range_of "_law_range_of" (defScope s_law_range_of) f cd A' outer s H E).A.units < cLine := by have := hr.un; omega
  refine rg_setLc (P := fun l => l = (q.ranges.filter fun r => decide (r.1 = c)).map fun r => .tup [oi r.2.1, oi r.2.2]) 2 (plc_fm (pat := .tp [.nm 3, .nm 4, .nm 5]) (xs := q.ranges) (it := rngD) (t := fun r => decide (r.1 = c)) (g := fun r => .tup [oi r.2.1, oi r.2.2])
    (src_tup (pd_ixT (pd_var 0) pd_int (atI_nat (j := 2) rfl))) (fun _ _ _ _ _ => pat_tp (pats_cons (pat_nm 3 nd) (pats_cons (pat_nm 4 nd) (pats_cons (pat_nm 5 nd) pats_nil)))) (blkOk_by (N := N_law_range_of) (sc := defScope s_law_range_of) (own := [("_law_one", 3), ("_law_low", 4), ("_law_high", 5)]) (by decide +kernel)) nd (fits hx) fun r hr' => ⟨_, rfl, ?_, ?_⟩) (fun l hl => ?_) (by rfl) (sw_true rfl rfl rfl rfl)
  · exact fun _ _ _ _ _ => td_cmp c_eqS (pd_var 3) (pd_var 1)
  · exact fun _ _ _ _ _ _ => pd_tup (pds_cons (pd_var 4) (pds_cons (pd_var 5) pds_nil))
  subst hl
  have hh : (q.ranges.filter fun r => decide (r.1 = c)).head? = q.ranges.find? fun r => decide (r.1 = c) := List.head?_filter ..
  refine rg_retD (d := .tup [oi (q.rangeOf c).1, oi (q.rangeOf c).2]) ?_ rfl
  show PD _ _ _ [.dat q.d, .dat (.str c), .dat (.lst ((q.ranges.filter fun r => decide (r.1 = c)).map fun r => .tup [oi r.2.1, oi r.2.2])), .no, .no, .no] _
  unfold Qn.rangeOf
  rw [← hh]
  cases q.ranges.filter fun r => decide (r.1 = c) with
  | nil => exact pd_if (k := false) (td_cmp (c_neL0 hu) (pd_var 2) (PL.pd (pl_lst pds_nil))) (fun h => by cases h) fun _ => pd_tup (pds_cons pd_non (pds_cons pd_non pds_nil))
  | cons r l => exact pd_if (k := true) (td_cmp (c_neL0 hu) (pd_var 2) (PL.pd (pl_lst pds_nil))) (fun _ => pd_ixL (pd_var 2) pd_int (atI_nat (j := 0) rfl)) fun h => by cases h
abbrev SpLVals (T : List (Addr × Str)) (K : PySem.W.Frag) : Sp := SpF T K (fun x : List (List Int) × List Int => [.lst (x.1.map tI), tI x.2]) (fun x => x.1.length < 64 ∧ ∀ r ∈ x.1, x.2.length < r.length) (fun x d => d = .lst ((lawVals x.1 x.2).map .int))
theorem ok_law_values_behind (b : Bl mg) (F : At K mg "_law_values_behind" s_law_values_behind ["_law_rows", "_law_prefix"]) : DfOk P w K mg base 1 "_law_values_behind" ["_law_rows", "_law_prefix"] (SpLVals T K) := by
  refine df_mk F sc_law_values_behind (fun _ => rfl) fun f cd A' outer s H E hr x hx => ?_
  obtain ⟨R, p⟩ := x
  obtain ⟨h64, hlen⟩ := hx
  have h64 : R.length < 64 := h64
  have nd := sc_law_values_behind.nd
  refine rg_asg (d := .int (p.length : Int)) 2 (PD.of (pd_lenT b.len (pd_var 1)) (by rw [List.length_map])) nd ?_
  refine rg_ret (P := fun d => d = .lst ((lawVals R p).map .int)) (PN.imp (PLn.pn (pln_sortedSetI (ns := valsBehind R p) b.sorted b.set (PL.pd (PLc.pl (PLc.imp (plc_fm (pat := .nm 3) (xs := R) (it := tI) (t := fun r => decide (r.take p.length = p)) (g := fun r => .int (r.getD p.length 0))
    (src_list (pd_var 0)) (fun _ _ _ _ _ => pat_nm 3 nd) (blkOk_by (N := N_law_values_behind) (sc := defScope s_law_values_behind) (own := [("_law_row", 3)]) (by decide +kernel)) nd (fits (by omega)) fun r hr' => ⟨_, rfl, ?_, ?_⟩) ?_))) ?_)) fun d hd => ?_) fun d h => h
  · exact fun _ _ _ _ _ => td_cmp (c_eqTI (by have := hr.un; show A'.units + 3 + 64 < _; have h2 : A'.units + 3 + 16 * 0 + 200 < cLine := hr.un; omega)) (PD.of (pd_slTo (n := p.length) (pd_var 3) (pd_var 2)) (by show D.tup _ = D.tup ((r.take p.length).map .int); rw [List.map_take])) (pd_var 1)
  · have hlt := hlen r hr'
    refine fun _ _ _ _ _ _ => pd_ixT (pd_var 3) (pd_var 2) (atI_nat (j := p.length) ?_)
    rw [List.getElem?_map, List.getD_eq_getElem?_getD, List.getElem?_eq_getElem hlt]
    rfl
  · rintro l rfl
    unfold valsBehind
    rw [List.map_map]
    rfl
  · unfold valsBehind
    rw [List.length_map]
    exact Nat.lt_of_le_of_lt (List.length_filter_le _ _) h64
  · obtain ⟨l, rfl, ms, rfl, pw, mem⟩ := hd
    rw [pw_uniq pw (pw_uniqV (valsBehind R p)) fun x => by rw [mem, mem_uniqV]]
    rfl
abbrev SpLGap (T : List (Addr × Str)) (K : PySem.W.Frag) : Sp := SpF T K (fun x : List Int × Option Int => [.lst (x.1.map .int), oi x.2]) (fun x => x.1.length ≤ 1000) (fun x d => d = .tup [oi (lawGap x.1 x.2).1, oi (lawGap x.1 x.2).2])
theorem ok_law_gap (b : Bl mg) (F : At K mg "_law_gap" s_law_gap ["_law_values", "_law_x"]) : DfOk P w K mg base 1 "_law_gap" ["_law_values", "_law_x"] (SpLGap T K) := by
  refine df_mk F sc_law_gap (fun _ => rfl) fun f cd A' outer s H E hr x hx => ?_
  obtain ⟨vs, x⟩ := x
  have hx : vs.length ≤ 1000 := hx
  have nd := sc_law_gap.nd
  have hu : (dcx P w K mg base N_law_gap "_law_gap" (defScope s_law_gap) f cd A' outer s H E).A.units < cLine := by have := hr.un; omega
  refine rg_setLc (P := fun l => l = (vs.filter (ltO x)).map .int) 2 (plc_fm (pat := .nm 4) (xs := vs) (it := D.int) (t := ltO x) (g := D.int)
    (src_list (pd_var 0)) (fun _ _ _ _ _ => pat_nm 4 nd) (blkOk_by (N := N_law_gap) (sc := defScope s_law_gap) (own := [("_law_value", 4)]) (by decide +kernel)) nd (fits hx) fun v hv => ⟨_, rfl, ?_, ?_⟩) (fun l hl => ?_) (by rfl) (sw_true rfl rfl rfl rfl)
  · cases x with
    | none => exact fun _ _ _ _ _ => WD.td (wd_and (k := false) (k' := false) (td_cmp c_notN (pd_var 1) pd_non) fun h => by cases h)
    | some y => exact fun _ _ _ _ _ => WD.td (wd_and (k := true) (k' := decide (v < y)) (td_cmp c_notN (pd_var 1) pd_non) fun _ => wd_and1 (td_cmp c_lt (pd_var 4) (pd_var 1)))
  · exact fun _ _ _ _ _ _ => pd_var 4
  subst hl
  refine rg_freeze 2 rfl ?_
  refine rg_setLc (P := fun l => l = (vs.filter (gtO x)).map .int) 3 (plc_fm (pat := .nm 4) (xs := vs) (it := D.int) (t := gtO x) (g := D.int)
    (src_list (pd_var 0)) (fun _ _ _ _ _ => pat_nm 4 nd) (blkOk_by (N := N_law_gap) (sc := defScope s_law_gap) (own := [("_law_value", 4)]) (by decide +kernel)) nd (fits hx) fun v hv => ⟨_, rfl, ?_, ?_⟩) (fun l hl => ?_) (by rfl) (sw_true rfl rfl rfl rfl)
  · cases x with
    | none => exact fun _ _ _ _ _ => WD.td (wd_or (k := true) (k' := true) (td_cmp c_isN (pd_var 1) pd_non) fun h => by cases h)
    | some y => exact fun _ _ _ _ _ => WD.td (wd_or (k := false) (k' := decide (y < v)) (td_cmp c_isN (pd_var 1) pd_non) fun _ => wd_or1 (td_cmp c_gt (pd_var 4) (pd_var 1)))
  · exact fun _ _ _ _ _ _ => pd_var 4
  subst hl
  refine rg_freeze 3 rfl ?_
  refine rg_retD (pd_tup (pds_cons (pd_lastO hu (pd_var 2) (pd_var 2)) (pds_cons (pd_headO hu (pd_var 3) (pd_var 3)) pds_nil))) ?_
  cases x with
  | none =>
    show D.tup [oi (vs.filter (ltO none)).getLast?, oi (vs.filter (gtO none)).head?] = D.tup [oi none, oi vs.head?]
    rw [List.filter_eq_nil_iff.mpr (by simp [ltO]), List.filter_eq_self.mpr (by simp [gtO])]
    rfl
  | some y => rfl
abbrev SpLFar (T : List (Addr × Str)) (K : PySem.W.Frag) : Sp := SpF T K (fun x : Gap × List Gap => [.lst ((x.1 :: x.2).map Gap.d)]) (fun _ => True) (fun x d => d = (x.2.foldl farG x.1).d)
theorem ok_law_farthest (b : Bl mg) (F : At K mg "_law_farthest" s_law_farthest ["_law_found"]) : DfOk P w K mg base 1 "_law_farthest" ["_law_found"] (SpLFar T K) := by
  refine df_mk F sc_law_farthest (fun _ => rfl) fun f cd A' outer s H E hr x hx => ?_
  obtain ⟨g0, gs⟩ := x
  have nd := sc_law_farthest.nd
  refine rg_asg (d := g0.d) 1 (pd_ixL (xs := (g0 :: gs).map Gap.d) (pd_var 0) pd_int (atI_nat (j := 0) rfl)) nd ?_
  show RG _ _ _ [.dat (.lst ((g0 :: gs).map Gap.d)), .dat g0.d, .no] _
  refine rg_for (pat := .nm 2) (fun _ i ds => ∃ s2, ds = [.dat (.lst ((g0 :: gs).map Gap.d)), .dat ((gs.take i).foldl farG g0).d, s2]) (src_of (src_list (PL.pd (pl_slFrom (n := 1) (xs := (g0 :: gs).map Gap.d) (pd_var 0) pd_int))) (ys := gs.map Gap.d) rfl) (pat_nm 2 nd) (fun _ _ => ⟨_, rfl⟩) ?_ ?_ .never
  · rintro items i d ds' rfl hd ⟨s2, rfl⟩
    rw [List.getElem?_map] at hd
    obtain ⟨g, hg, rfl⟩ := Option.map_eq_some_iff.mp hd
    have hstep : (gs.take (i + 1)).foldl farG g0 = farG ((gs.take i).foldl farG g0) g := by rw [List.take_add_one, hg, List.foldl_append]; rfl
    refine ⟨[.dat (.lst ((g0 :: gs).map Gap.d)), .dat ((gs.take i).foldl farG g0).d, .dat g.d], rfl, ?_⟩
    generalize (gs.take i).foldl farG g0 = B at hstep ⊢
    obtain ⟨ba, blo, bhi⟩ := B
    obtain ⟨ga, glo, ghi⟩ := g
    have eB : (Gap.mk ba blo bhi).d = .tup [.int (ba : Int), oi blo, oi bhi] := rfl
    have eG : (Gap.mk ga glo ghi).d = .tup [.int (ga : Int), oi glo, oi ghi] := rfl
    have keep : ∀ {O : Out}, farG ⟨ba, blo, bhi⟩ ⟨ga, glo, ghi⟩ = ⟨ba, blo, bhi⟩ → ∃ s2, [Sl.dat (.lst ((g0 :: gs).map Gap.d)), .dat (Gap.mk ba blo bhi).d, .dat (Gap.mk ga glo ghi).d] = [Sl.dat (.lst ((g0 :: gs).map Gap.d)), .dat ((gs.take (i + 1)).foldl farG g0).d, s2] := fun {_} h => ⟨_, by rw [hstep, h]⟩
    have take : ∀ {O : Out}, farG ⟨ba, blo, bhi⟩ ⟨ga, glo, ghi⟩ = ⟨ga, glo, ghi⟩ → ∃ s2, [Sl.dat (.lst ((g0 :: gs).map Gap.d)), .dat (Gap.mk ga glo ghi).d, .dat (Gap.mk ga glo ghi).d] = [Sl.dat (.lst ((g0 :: gs).map Gap.d)), .dat ((gs.take (i + 1)).foldl farG g0).d, s2] := fun {_} h => ⟨_, by rw [hstep, h]⟩
    cases bhi with
    | none => exact rg_when (k := false) (WD.td (wd_and (k := false) (k' := false) (td_cmp c_notN (pd_ixT (PD.of (pd_var 1) eB) pd_int (atI_nat (j := 2) rfl)) pd_non) fun h => by cases h)) (fun h => by cases h) fun _ => rg_nil (keep (O := {}) rfl)
    | some y =>
      cases ghi with
      | none =>
        refine rg_when (k := true) (WD.td (wd_and (k := true) (k' := true) (td_cmp c_notN (pd_ixT (PD.of (pd_var 1) eB) pd_int (atI_nat (j := 2) rfl)) pd_non) fun _ => wd_and1 (WD.td (wd_or (k := true) (k' := true) (td_cmp c_isN (pd_ixT (PD.of (pd_var 2) eG) pd_int (atI_nat (j := 2) rfl)) pd_non) fun h => by cases h)))) (fun _ => ?_) fun h => by cases h
        exact rg_asg (d := (Gap.mk ga glo none).d) 1 (pd_var 2) nd (rg_nil (rg_nil (take (O := {}) rfl)))
      | some z =>
        refine rg_when (k := decide (y < z)) (TD.of (WD.td (wd_and (k := true) (k' := false || decide (y < z)) (td_cmp c_notN (pd_ixT (PD.of (pd_var 1) eB) pd_int (atI_nat (j := 2) rfl)) pd_non) fun _ => wd_and1 (WD.td (wd_or (k := false) (k' := decide (y < z)) (td_cmp c_isN (pd_ixT (PD.of (pd_var 2) eG) pd_int (atI_nat (j := 2) rfl)) pd_non) fun _ =>
          wd_or1 (td_cmp c_gt (pd_ixT (PD.of (pd_var 2) eG) pd_int (atI_nat (j := 2) rfl)) (pd_ixT (PD.of (pd_var 1) eB) pd_int (atI_nat (j := 2) rfl))))))) (by simp)) (fun h => ?_) fun h => ?_
        · exact rg_asg (d := (Gap.mk ga glo (some z)).d) 1 (pd_var 2) nd (rg_nil (rg_nil (take (O := {}) (if_pos (of_decide_eq_true h)))))
        · exact rg_nil (keep (O := {}) (if_neg (of_decide_eq_false h)))
  · rintro items ds' rfl ⟨s2, rfl⟩
    rw [List.length_map, List.take_length]; exact rg_retD (pd_var 1) rfl
end
end E
namespace E
open PySem PySem.Spec PyProof.Rows L2 LamX PySem.W
theorem last_own {q : Qn} {i : Nat} (gd : Gd q) (hi : i < q.atoms.length) : q.last i ∈ (q.at i).own := by
  obtain ⟨l, hl⟩ := way_ne gd hi
  exact (way_perm q i).mem_iff.mp (by rw [hl]; simp)
theorem ends_all {q : Qn} (gd : Gd q) (c : Str) : q.ends c = (List.range q.atoms.length).filter fun i => !(q.at i).has && decide (q.last i = c) := by
  unfold Qn.ends Qn.atomsOf
  rw [List.filter_filter]
  apply List.filter_congr
  intro i hi
  have hi' := List.mem_range.mp hi
  cases h : (!(q.at i).has && decide (q.last i = c)) with
  | false => simp
  | true =>
    have : q.last i = c := by simp at h; exact h.2
    have hm := last_own gd hi'
    rw [this] at hm
    simp [hm]
section
variable {P : Program} {w : World} {K : PySem.W.Frag} {mg : Str → Option Value} {base : Heap} {T : List (Addr × Str)}
abbrev SpLThru (T : List (Addr × Str)) (K : PySem.W.Frag) : Sp := SpF T K (fun x : Qn × Str => [x.1.d, .str x.2]) (fun x => Gd x.1 ∧ Nst x.1) (fun x d => d = .tup [.lst (dN (x.1.thru x.2)), .lst (dN (x.1.ends x.2))])
theorem ok_law_through (b : Bl mg) (F : At K mg "_law_through" s_law_through ["_law_question", "_law_column"]) (A1 : DfOk P w K mg base 1 "_law_atoms_of" ["_law_question", "_law_column"] (SpLAtoms T K)) (A2 : DfOk P w K mg base 4 "_law_way" ["_law_question", "_law_index"] (SpLWay T K)) :
    DfOk P w K mg base 5 "_law_through" ["_law_question", "_law_column"] (SpLThru T K) := by
  refine df_mk F sc_law_through (fun _ => rfl) fun f cd A' outer s H E hr x hx => ?_
  obtain ⟨q, c⟩ := x
  obtain ⟨gd, ns⟩ := hx
  have gd : Gd q := gd
  have ns : Nst q := ns
  have nd := sc_law_through.nd
  have hsa : q.atoms.length ≤ 1000 := gd.sa
  have hz : (2000 : Nat) ≤ sizeLine := by decide
  refine rg_setLc (P := fun l => l = dN (q.thru c)) 2 (plc_fm (pat := .nm 4) (xs := q.atomsOf c) (it := fun n : Nat => .int (n : Int)) (t := fun i => (q.at i).has) (g := fun n : Nat => .int (n : Int))
    (src_list (pd_call A1 (hr.mono (by decide)) (q, c) (pds_cons (pd_var 0) (pds_cons (pd_var 1) pds_nil)) gd fun _ h => h)) (fun _ _ _ _ _ => pat_nm 4 nd) (blkOk_by (N := N_law_through) (sc := defScope s_law_through) (own := [("_law_index", 4)]) (by decide +kernel)) nd (fits (atomsOf_len q c gd)) fun i hi => ⟨_, rfl, ?_, ?_⟩) (fun l hl => ?_) (by rfl) (sw_true rfl rfl rfl rfl)
  · have hi' := (mem_atomsOf.mp hi).1
    exact fun _ _ _ _ _ => (td_cmp c_eqS (pd_ixT (pd_ixT (pd_ixT (pd_var 0) pd_int (atI_nat (j := 1) rfl)) (pd_var 4) (atI_nat (at_ix hi'))) pd_int (atI_nat (j := 0) rfl)) pd_str).of (by cases (q.at i).has <;> decide)
  · exact fun _ _ _ _ _ _ => pd_var 4
  subst hl
  refine rg_freeze 2 rfl ?_
  refine rg_asgL (P := fun l => l = []) 3 ((pl_lst pds_nil).pln rfl) nd fun l hl => ?_
  subst hl
  show RG _ _ _ [.dat q.d, .dat (.str c), .dat (.lst (dN (q.thru c))), .own [], .no, .no, .no, .no] _
  refine rg_for (pat := .tp [.nm 4, .tp [.nm 5, .nm 6, .nm 7]]) (fun _ i ds => ∃ s4 s5 s6 s7, ds = [.dat q.d, .dat (.str c), .dat (.lst (dN (q.thru c))), .own (dN ((List.range i).filter fun i => !(q.at i).has && decide (q.last i = c))), s4, s5, s6, s7])
    (src_of (src_enumT (xs := q.atoms.map Atom.d) b.enumerate (pd_ixT (pd_var 0) pd_int (atI_nat (j := 1) rfl))) (ys := (List.range q.atoms.length).map fun i : Nat => .tup [.int (i : Int), (q.at i).d]) ?_)
    (pat_tp (pats_cons (pat_nm 4 nd) (pats_cons (pat_tp (pats_cons (pat_nm 5 nd) (pats_cons (pat_nm 6 nd) (pats_cons (pat_nm 7 nd) pats_nil)))) pats_nil))) (fun _ _ => ⟨_, _, _, _, rfl⟩) ?_ ?_ .never
  · rw [List.length_map]
    exact List.map_congr_left fun i hi => by rw [atoms_get (List.mem_range.mp hi)]
  · rintro items i d ds' rfl hd ⟨s4, s5, s6, s7, rfl⟩
    rw [List.getElem?_map] at hd
    obtain ⟨j, hj, rfl⟩ := Option.map_eq_some_iff.mp hd
    obtain ⟨hi, rfl⟩ : i < q.atoms.length ∧ i = j := by
      have h1 := (List.getElem?_eq_some_iff.mp hj).1
      have h2 := (List.getElem?_eq_some_iff.mp hj).2
      simp at h1 h2
      exact ⟨h1, h2⟩
    obtain ⟨l, hl⟩ := way_ne gd hi
    refine ⟨[.dat q.d, .dat (.str c), .dat (.lst (dN (q.thru c))), .own (dN ((List.range i).filter fun i => !(q.at i).has && decide (q.last i = c))), .dat (.int (i : Int)), .dat (.str (if (q.at i).has then "has" else "not")), .dat (.str (q.at i).name), .dat (fS (q.at i).own)], rfl, ?_⟩
    refine rg_when (k := !(q.at i).has && decide (q.last i = c)) (WD.td (wd_and (k := !(q.at i).has) (k' := decide (q.last i = c)) ((td_cmp c_eqS (pd_var 5) pd_str).of (by cases (q.at i).has <;> decide)) fun _ => wd_and1 (td_cmp c_eqS (pd_ixL (d := .str (q.last i)) (pd_call A2 hr (q, i) (pds_cons (pd_var 0) (pds_cons (pd_var 4) pds_nil)) ⟨gd, ns, hi⟩ fun _ h => h) (pd_neg pd_int) ?_) (pd_var 1)))) (fun h => ?_) fun h => ?_
    · rw [hl, List.map_append]
      exact atI_m1 _ _
    · refine rg_append (P := fun d => d = .int (i : Int)) 3 rfl (PN.po (PD.pn (d := .int (i : Int)) (pd_var 4) rfl)) ?_ fun d hd => rg_nil (rg_nil ?_)
      · rw [dN_len]
        have := List.length_filter_le (fun i => !(q.at i).has && decide (q.last i = c)) (List.range i)
        rw [List.length_range] at this
        omega
      · subst hd
        refine ⟨.dat (.int (i : Int)), .dat (.str (if (q.at i).has then "has" else "not")), .dat (.str (q.at i).name), .dat (fS (q.at i).own), ?_⟩
        rw [List.range_succ, List.filter_append, List.filter_cons_of_pos (p := fun i => !(q.at i).has && decide (q.last i = c)) h]
        unfold dN
        rw [List.map_append]
        rfl
    · refine rg_nil ⟨.dat (.int (i : Int)), .dat (.str (if (q.at i).has then "has" else "not")), .dat (.str (q.at i).name), .dat (fS (q.at i).own), ?_⟩
      rw [List.range_succ, List.filter_append, List.filter_cons_of_neg (p := fun i => !(q.at i).has && decide (q.last i = c)) (by rw [h]; decide), List.filter_nil, List.append_nil]
  · rintro items ds' rfl ⟨s4, s5, s6, s7, rfl⟩
    rw [List.length_map, List.length_range, ← ends_all gd]
    exact rg_retD (pd_tup (pds_cons (pd_var 2) (pds_cons (pd_var 3) pds_nil))) rfl
abbrev rowsD (q : Qn) (tb : Tbs) : D := .lst ((List.range q.atoms.length).map fun i => .lst ((rowsOf q tb i).map tI))
abbrev SpLRows (T : List (Addr × Str)) (K : PySem.W.Frag) : Sp := SpF T K (fun x : Qn × Tbs => [x.1.d, tbsD x.2]) (fun x => Gd x.1 ∧ Nst x.1 ∧ GT x.1 x.2) (fun x d => d = rowsD x.1 x.2)
theorem ok_law_rows_of (b : Bl mg) (F : At K mg "_law_rows_of" s_law_rows_of ["_law_question", "_law_tables"]) (A1 : DfOk P w K mg base 5 "_law_led_rows" ["_law_question", "_law_tables", "_law_index"] (SpLLed T K)) :
    DfOk P w K mg base 6 "_law_rows_of" ["_law_question", "_law_tables"] (SpLRows T K) := by
  refine df_mk F sc_law_rows_of (fun _ => rfl) fun f cd A' outer s H E hr x hx => ?_
  obtain ⟨q, tb⟩ := x
  obtain ⟨gd, ns, gt⟩ := hx
  have gd : Gd q := gd
  have ns : Nst q := ns
  have gt : GT q tb := gt
  have nd := sc_law_rows_of.nd
  have hsa : q.atoms.length ≤ 1000 := gd.sa
  refine rg_retD (d := rowsD q tb) (PL.pd (PLc.pl (PLc.imp (plc_fm (pat := .nm 2) (xs := List.range q.atoms.length) (it := fun i : Nat => .int (i : Int)) (t := fun _ => true) (g := fun i => .lst ((rowsOf q tb i).map tI))
    (src_of (src_range1 (n := ((q.atoms.map Atom.d).length : Nat)) b.range (pd_lenT b.len (pd_ixT (xs := [fS q.cols, .tup (q.atoms.map Atom.d), .tup (q.ranges.map rngD)]) (pd_var 0) pd_int (atI_nat (j := 1) rfl))) (by omega) (by rw [List.length_map]; omega)) ?_) (fun _ _ _ _ _ => pat_nm 2 nd) (blkOk_by (N := N_law_rows_of) (sc := defScope s_law_rows_of) (own := [("_law_index", 2)]) (by decide +kernel)) nd (by rw [List.length_range]; exact fits hsa) fun i hi => ⟨_, rfl, ?_, ?_⟩) ?_))) rfl
  · rw [List.length_map, Int.toNat_natCast]
    exact List.map_congr_left fun k _ => congrArg D.int (by omega : 0 + (k : Int) = (k : Int))
  · rfl
  · exact fun _ _ _ _ _ _ => pd_call A1 hr (q, tb, i) (pds_cons (pd_var 0) (pds_cons (pd_var 1) (pds_cons (pd_var 2) pds_nil))) ⟨gd, ns, gt, List.mem_range.mp hi⟩ fun _ h => h
  · rintro l rfl
    rw [List.filter_eq_self.mpr fun _ _ => rfl]
end
end E
/-! x += n; four own lists at once -/
namespace E
open LamX L2 PyProof.Rows PySem PySem.Spec
section
variable {X : Cx} {T : List (Addr × Str)} {ds : List Sl} {rest : List Stmt} {O : Out} {e a1 a2 a3 a4 tg : Expr} {x : Str} {pos pos' : Pos} {i1 i2 i3 i4 : Nat}
theorem rg_addI (i : Nat) {n m : Int} (hd : ds[i]? = some (.dat (.int n))) (h : PD X T e ds (.int m)) (hN : X.N.Nodup) (k : RG X T rest (ds.set i (.dat (.int (n + m)))) O) (hi : X.N[i]? = some x := by rfl) (hx : Loc X.env.scope x := by first | exact .inl rfl | exact .inr rfl)
    (hf : X.fn x = true ∨ X.env.scope.names.lookup x = some .local := by first | exact .inl rfl | exact .inr rfl) : RG X T (.AugAssign (.Name x pos') .Add e pos :: rest) ds O := fun B0 H0 B H σ De hh dn => by
  obtain ⟨v, hs, hv⟩ := hh.sd.dat i _ hd
  cases hv
  refine ss_cons (ofS (ps_aug hN hi hx peW ip_add hf) ⟨_, hs, h B H σ hh.go hh.sd _ fun w B1 H1 g1 a1 => ?_⟩)
  cases a1
  exact ⟨n, m, rfl, rfl, k B0 H0 B1 H1 _ De ((hh.grow g1).set i (.int _)) dn⟩
theorem rg_own4 {P1 P2 P3 P4 : Pos} {k2 : Nat} {pt2 : Pos} (i1 i2 i3 i4 : Nat) (hp : PatOk X tg (.tp [.nm i1, .nm i2, .nm i3, .nm i4])) (k : RG X T rest ((((ds.set i1 (.own [])).set i2 (.own [])).set i3 (.own [])).set i4 (.own [])) O)
    (hs : swapsWithSole [tg] (.Tuple [.List [] P1, .List [] P2, .List [] P3, .List [] P4] k2 pt2) pos.line X.env = pure false := by rfl) (hw : swappedStores [tg] (.Tuple [.List [] P1, .List [] P2, .List [] P3, .List [] P4] k2 pt2) X.env = pure none := by rfl) (h1 : (assignEach [tg] X.env).map (·.2) = [assign tg X.env] := by rfl) :
    RG X T (.Assign [tg] (.Tuple [.List [] P1, .List [] P2, .List [] P3, .List [] P4] k2 pt2) pos :: rest) ds O := fun B0 H0 B H σ De hh dn => by
  refine ss_cons (ofS (ps_asg (g := (Pat.tp [.nm i1, .nm i2, .nm i3, .nm i4]).tg X.K) (pe_tup (pa_cons (pe_lst pa_nil) (pa_cons (pe_lst pa_nil) (pa_cons (pe_lst pa_nil) (pa_cons (pe_lst pa_nil) pa_nil (se_of rfl)) (se_of rfl)) (se_of rfl)) (se_of rfl))) hp hs hw h1) ?_)
  refine ⟨Nat.zero_le _, fun p1 n1 => ⟨Nat.zero_le _, fun p2 n2 => ⟨Nat.zero_le _, fun p3 n3 => ⟨Nat.zero_le _, fun p4 n4 => ⟨by show 4 ≤ sizeLine; decide, fun t nt => ?_⟩⟩⟩⟩⟩
  have new : ∀ {B H : Hp} {p : Addr}, Go T B H → H p = none → Ge T B H B (upd H p (.lst [])) ∧ B p = none := fun o n => ⟨o.ge (.new n), o.nb n⟩
  have s1 := hh.setNew i1 n1 (new hh.go n1).1 (new hh.go n1).2 (vs := []) (xs := []) upd_same .nil
  have s2 := s1.setNew i2 n2 (new s1.go n2).1 (new s1.go n2).2 (vs := []) (xs := []) upd_same .nil
  have s3 := s2.setNew i3 n3 (new s2.go n3).1 (new s2.go n3).2 (vs := []) (xs := []) upd_same .nil
  have s4 := s3.setNew i4 n4 (new s3.go n4).1 (new s3.go n4).2 (vs := []) (xs := []) upd_same .nil
  have s5 := s4.grow (s4.go.ge (.new (o := .tup [.ref p1, .ref p2, .ref p3, .ref p4]) nt))
  refine ⟨t, [.ref p1, .ref p2, .ref p3, .ref p4], rfl, .of upd_same, rfl, _, _, rfl, _, _, rfl, _, _, rfl, _, _, rfl, rfl, ?_⟩
  exact k B0 H0 B _ _ De s5 dn
end
end E
/-! the law's run, plainly: a relation -/
namespace E
open PySem L2
/-- what the law's walk needs of a question and its tables -/
structure Lc (q : Qn) (tb : Tbs) : Prop where
  gd : Gd q
  ns : Nst q
  gt : GT q tb
  few : ∀ i, i < q.atoms.length → (rowsOf q tb i).length < 64
  rg : q.ranges.length ≤ 1000
def outO (vs : List Int) : Option Int → Bool
  | none => true
  | some v => !decide (v ∈ vs)
section
variable (q : Qn) (R : Nat → List (List Int))
def gapsAt (c : Str) (p : List Int) (x : Option Int) : List Gap := ((q.thru c).filter fun i => outO (lawVals (R i) p) x).map fun i => ⟨i, (lawGap (lawVals (R i) p) x).1, (lawGap (lawVals (R i) p) x).2⟩
def hasLooks (c : Str) (p : List Int) (x : Option Int) : List Look := (q.thru c).map fun i => .at3 i p x
def barred (c : Str) (p : List Int) (v : Int) : List Nat := (q.ends c).filter fun i => decide (p ++ [v] ∈ R i)
def asked (c : Str) (p : List Int) (v : Int) : List Nat := match barred q R c p v with
  | [] => q.ends c
  | b :: _ => (q.ends c).filter fun i => decide (i ≤ b)
def rowLooks (c : Str) (p : List Int) (v : Int) : List Look := (asked q R c p v).map fun i => .row i (p ++ [v])
def inRange (c : Str) : Option Int → Bool
  | none => true
  | some v => match (q.rangeOf c).2 with
    | none => true
    | some h => decide (v ≤ h)
def rowD (b : Nat) : D := .tup [.str "row", .int (b : Int)]
/-- what a column's loop adds from x on -/
inductive Loop (Sub : List Int → D → D → List Look → Prop) (c : Str) (p : List Int) : Option Int → List Gap → List (Int × D) → List (Int × D) → List Look → Prop
  | out (x) : inRange q c x = false → Loop Sub c p x [] [] [] []
  | gapEnd (x g gs) : inRange q c x = true → gapsAt q R c p x = g :: gs → (gs.foldl farG g).hi = none → Loop Sub c p x [gs.foldl farG g] [] [] (hasLooks q c p x)
  | gapGo (x g gs y G V B L) : inRange q c x = true → gapsAt q R c p x = g :: gs → (gs.foldl farG g).hi = some y → Loop Sub c p (some y) G V B L → Loop Sub c p x (gs.foldl farG g :: G) V B (hasLooks q c p x ++ L)
  | row (v b bs G V B L) : inRange q c (some v) = true → gapsAt q R c p (some v) = [] → barred q R c p v = b :: bs → Loop Sub c p (some (v + 1)) G V B L → Loop Sub c p (some v) G ((v, rowD b) :: V) B (hasLooks q c p (some v) ++ (rowLooks q R c p v ++ L))
  | sub (v s w M G V B L) : inRange q c (some v) = true → gapsAt q R c p (some v) = [] → barred q R c p v = [] → Sub (p ++ [v]) s w M → Loop Sub c p (some (v + 1)) G V B L →
      Loop Sub c p (some v) G ((v, w) :: V) (match s with | .non => B | s => (v, s) :: B) (hasLooks q c p (some v) ++ (rowLooks q R c p v ++ (M ++ L)))
/-- what a column's run comes to -/
structure Cr where
  G : List Gap
  V : List (Int × D)
  B : List (Int × D)
  L : List Look
def Cr.lv (r : Cr) : Lv := ⟨r.G, r.V, r.B⟩
def Cr.small (r : Cr) : Prop := r.G.length ≤ 100000 ∧ r.V.length ≤ 100000 ∧ r.B.length ≤ 100000 ∧ r.L.length ≤ 100000
def Cr.d (r : Cr) : D := .tup [.tup (r.B.map pD), r.lv.d2, .lst (r.L.map Look.d)]
def maxL (rs : List Cr) : Nat := rs.foldl (fun m r => max m r.L.length) 0
def lenAt (rs : List Cr) (i : Nat) : Nat := match rs[i]? with
  | some r => r.L.length
  | none => 0
/-- turns and columns, in order -/
def round (rs : List Cr) (t : Nat) : List (Nat × Nat) := ((List.range rs.length).filter fun i => decide (t < lenAt rs i)).map fun i => (t, i)
def evs (rs : List Cr) : List (Nat × Nat) := (List.range (maxL rs)).flatMap (round rs)
def lookAt (rs : List Cr) (e : Nat × Nat) : Look := match rs[e.2]? with
  | some r => r.L.getD e.1 (.row 0 [])
  | none => .row 0 []
def isStop (rs : List Cr) (e : Nat × Nat) : Bool := match rs[e.2]? with
  | some r => decide (e.1 + 1 = r.L.length) && r.B.isEmpty
  | none => false
/-- up to the first that .. -/
def upto {α : Type} (f : α → Bool) : List α → List α × Option α
  | [] => ([], none)
  | e :: l => if f e then ([e], some e) else (e :: (upto f l).1, (upto f l).2)
def oneD (rs : List Cr) (i : Nat) : D := match rs[i]? with
  | some r => .tup [.str "one", .int (i : Int), r.lv.d2]
  | none => .non
def merged (rs : List Cr) : D × D × List Look := match (upto (isStop rs) (evs rs)).2 with
  | some e => (.non, oneD rs e.2, (upto (isStop rs) (evs rs)).1.map (lookAt rs))
  | none => (.tup (rs.map fun r => .tup (r.B.map pD)), .tup [.str "all", .tup (rs.map fun r => r.lv.d2)], (evs rs).map (lookAt rs))
def SRun : Nat → List Str → List Int → D → D → List Look → Prop
  | 0 => fun _ _ _ _ _ => False
  | n + 1 => fun cols p s w L => ∃ rs : List Cr, Paired (fun c r => c ∈ q.cols ∧ r.small ∧ (q.thru c ≠ [] ∧ ∀ i ∈ q.thru c, p.length < (q.at i).own.length) ∧ Loop q R (SRun n (q.kids (some c))) c p (q.rangeOf c).1 r.G r.V r.B r.L) cols rs ∧ merged rs = (s, w, L) ∧ L.length ≤ 100000 ∧ cols.length ≤ 1000 ∧ p.length ≤ 1000
end
theorem upto_none {α : Type} {f : α → Bool} : ∀ {l : List α}, (∀ e ∈ l, f e = false) → upto f l = (l, none)
  | [], _ => rfl
  | e :: l, h => by
    unfold upto
    rw [h e List.mem_cons_self, upto_none fun x hx => h x (List.mem_cons_of_mem _ hx)]
    rfl
theorem upto_at {α : Type} {f : α → Bool} {e : α} {l2 : List α} (he : f e = true) : ∀ {l : List α}, (∀ x ∈ l, f x = false) → upto f (l ++ e :: l2) = (l ++ [e], some e)
  | [], _ => by simp [upto, he]
  | x :: l, h => by
    rw [List.cons_append]
    unfold upto
    rw [h x List.mem_cons_self, upto_at he fun y hy => h y (List.mem_cons_of_mem _ hy)]
    rfl
end E
namespace E
open PySem PySem.Spec PyProof.Rows L2 LamX PySem.W
theorem c_inRowsL {X : Cx} {T : List (Addr × Str)} {r : List Int} {R : List (List Int)} (hu : X.A.units + 66 < cLine) : CmpD X T .In (tI r) (.lst (R.map tI)) (decide (r ∈ R)) := by
  have e1 : D.pys (R.map tI) = R.map fun r => PyData.tuple (r.map .int) := by rw [pys_map, List.map_map]; exact List.map_congr_left fun r _ => py_tI r
  have h := c_inD (X := X) (T := T) (x := tI r) (y := .lst (R.map tI)) (xs := R.map tI) (.inr rfl) (pl_tI r) (by rw [pls_all]; simp [pl_tI]) (shaped_tI r) (by
    rw [e1]
    clear e1
    induction R with
    | nil => rfl
    | cons a R ih => rw [List.map_cons, PyData.canLayAll0, ih, PyData.canLay0, lay_ints]; rfl) hu
  have e : ((D.pys (R.map tI)).any fun z => PyData.eqv z (tI r).py) = decide (r ∈ R) := by
    rw [e1, py_tI, List.any_map, Bool.eq_iff_iff, List.any_eq_true, decide_eq_true_iff]
    constructor
    · rintro ⟨a, ha, h⟩
      have h : PyData.eqv (.tuple (a.map .int)) (.tuple (r.map .int)) = true := h
      rw [PyData.eqv, eqv_ints] at h
      rw [← of_decide_eq_true h]; exact ha
    · intro h
      refine ⟨r, h, ?_⟩
      show PyData.eqv (.tuple (r.map .int)) (.tuple (r.map .int)) = true
      rw [PyData.eqv, eqv_ints]
      simp
  rw [e] at h
  exact h
theorem c_notNon {X : Cx} {T : List (Addr × Str)} {x : D} : CmpD X T .IsNot x .non (!x.isNon) := by
  have h := c_notN (X := X) (T := T) (x := x)
  cases x <;> exact h
def askT (bs : List Nat) (i : Nat) : Bool := match bs with
  | [] => true
  | b :: _ => decide (i ≤ b)
theorem asked_eq {q : Qn} {R : Nat → List (List Int)} {c : Str} {p : List Int} {v : Int} : asked q R c p v = (q.ends c).filter (askT (barred q R c p v)) := by
  unfold asked
  cases barred q R c p v with
  | nil => exact (List.filter_eq_self.mpr (fun _ _ => rfl)).symm
  | cons b bs => rfl
section
variable {P : Program} {w : World} {K : PySem.W.Frag} {mg : Str → Option Value} {base : Heap} {T : List (Addr × Str)}
/-- a sibling run -/
structure Sr where
  q : Qn
  tb : Tbs
  cols : List Str
  p : List Int
  s : D
  w : D
  L : List Look
abbrev SpLS (T : List (Addr × Str)) (K : PySem.W.Frag) (n : Nat) : Sp := SpF T K (fun y : Sr => [y.q.d, rowsD y.q y.tb, .lst (y.cols.map .str), tI y.p]) (fun y => Lc y.q y.tb ∧ SRun y.q (rowsOf y.q y.tb) n y.cols y.p y.s y.w y.L) (fun y d => d = .tup [y.s, y.w, .lst (y.L.map Look.d)])
structure Cc where
  q : Qn
  tb : Tbs
  c : Str
  p : List Int
  r : Cr
def Cc.ok (y : Cc) (n : Nat) : Prop := Lc y.q y.tb ∧ y.c ∈ y.q.cols ∧ y.r.small ∧ y.p.length ≤ 1000 ∧ (y.q.thru y.c ≠ [] ∧ ∀ i ∈ y.q.thru y.c, y.p.length < (y.q.at i).own.length) ∧ Loop y.q (rowsOf y.q y.tb) (SRun y.q (rowsOf y.q y.tb) n (y.q.kids (some y.c))) y.c y.p (y.q.rangeOf y.c).1 y.r.G y.r.V y.r.B y.r.L
abbrev SpLC (T : List (Addr × Str)) (K : PySem.W.Frag) (n : Nat) : Sp := SpF T K (fun y : Cc => [y.q.d, rowsD y.q y.tb, .str y.c, tI y.p]) (fun y => y.ok n) (fun y d => d = y.r.d)
theorem rows_at {q : Qn} {tb : Tbs} {i : Nat} (h : i < q.atoms.length) : ((List.range q.atoms.length).map fun i => D.lst ((rowsOf q tb i).map tI))[i]? = some (.lst ((rowsOf q tb i).map tI)) := by
  rw [List.getElem?_map, List.getElem?_range h]
  rfl
theorem thru_lt {q : Qn} {c : Str} {i : Nat} (h : i ∈ q.thru c) : i < q.atoms.length := (mem_atomsOf.mp (List.mem_filter.mp h).1).1
theorem ends_lt {q : Qn} {c : Str} {i : Nat} (h : i ∈ q.ends c) : i < q.atoms.length := (mem_atomsOf.mp (List.mem_filter.mp h).1).1
theorem thru_len {q : Qn} (c : Str) (gd : Gd q) : (q.thru c).length ≤ 1000 := Nat.le_trans (List.length_filter_le _ _) (atomsOf_len q c gd)
theorem ends_len {q : Qn} (c : Str) (gd : Gd q) : (q.ends c).length ≤ 1000 := Nat.le_trans (List.length_filter_le _ _) (atomsOf_len q c gd)
theorem vals_len (R : List (List Int)) (p : List Int) : (lawVals R p).length ≤ R.length := by
  have h1 : ∀ (x : Int) (l : List Int), (insV x l).length ≤ l.length + 1 := fun x l => by
    induction l with
    | nil => simp [insV]
    | cons y l ih => unfold insV; split <;> (try split) <;> simp <;> omega
  have h2 : ∀ l : List Int, (uniqV l).length ≤ l.length := fun l => by
    induction l with
    | nil => simp [uniqV]
    | cons x l ih => have := h1 x (uniqV l); simp only [uniqV, List.length_cons]; omega
  refine Nat.le_trans (h2 _) ?_
  unfold valsBehind
  rw [List.length_map]
  exact List.length_filter_le _ _
/-- the column's slots -/
abbrev crS (q : Qn) (tb : Tbs) (c : Str) (p : List Int) (x : Option Int) (G : List Gap) (V B : List (Int × D)) (L : List Look) (r : List Sl) : List Sl :=
  .dat q.d :: .dat (rowsD q tb) :: .dat (.str c) :: .dat (tI p) :: .dat (.lst (dN (q.thru c))) :: .dat (.lst (dN (q.ends c))) :: .dat (oi x) :: .dat (oi (q.rangeOf c).2) :: .own (G.map Gap.d) :: .own (V.map pD) :: .own (B.map pD) :: .own (L.map Look.d) :: r
theorem ok_law_column_run (b : Bl mg) (n : Nat) (F : At K mg "_law_column_run" s_law_column_run ["_law_question", "_law_rows", "_law_column", "_law_prefix"]) (A1 : DfOk P w K mg base 5 "_law_through" ["_law_question", "_law_column"] (SpLThru T K))
    (A2 : DfOk P w K mg base 1 "_law_range_of" ["_law_question", "_law_column"] (SpF T K (fun x : Qn × Str => [x.1.d, .str x.2]) (fun x => x.1.ranges.length ≤ 1000) (fun x d => d = .tup [oi (x.1.rangeOf x.2).1, oi (x.1.rangeOf x.2).2])))
    (A3 : DfOk P w K mg base 1 "_law_values_behind" ["_law_rows", "_law_prefix"] (SpLVals T K)) (A4 : DfOk P w K mg base 1 "_law_gap" ["_law_values", "_law_x"] (SpLGap T K)) (A5 : DfOk P w K mg base 1 "_law_farthest" ["_law_found"] (SpLFar T K))
    (A6 : DfOk P w K mg base 4 "_law_children" ["_law_question", "_law_column"] (SpLKids T K)) (A7 : DfOk P w K mg base (20 + 2 * n) "_law_sibling_run" ["_law_question", "_law_rows", "_law_columns", "_law_prefix"] (SpLS T K n)) :
    DfOk P w K mg base (20 + 2 * n + 1) "_law_column_run" ["_law_question", "_law_rows", "_law_column", "_law_prefix"] (SpLC T K n) := by
  refine df_mk F sc_law_column_run (fun _ => rfl) fun f cd A' outer s H E hr y hy => ?_
  obtain ⟨q, tb, c, p, r⟩ := y
  obtain ⟨lc, hc, ⟨hG, hV, hB, hL⟩, hp, ⟨hth, hpl⟩, hloop⟩ := hy
  have lc : Lc q tb := lc
  have hc : c ∈ q.cols := hc
  have hG : r.G.length ≤ 100000 := hG
  have hV : r.V.length ≤ 100000 := hV
  have hB : r.B.length ≤ 100000 := hB
  have hL : r.L.length ≤ 100000 := hL
  have hp : p.length ≤ 1000 := hp
  have hth : q.thru c ≠ [] := hth
  have hpl : ∀ i ∈ q.thru c, p.length < (q.at i).own.length := hpl
  have hloop : Loop q (rowsOf q tb) (SRun q (rowsOf q tb) n (q.kids (some c))) c p (q.rangeOf c).1 r.G r.V r.B r.L := hloop
  have nd := sc_law_column_run.nd
  have hz : (1000000 : Nat) ≤ sizeLine := by decide
  have gd := lc.gd
  refine rg_pat (pat := .tp [.nm 4, .nm 5]) (d := .tup [.lst (dN (q.thru c)), .lst (dN (q.ends c))]) (ds' := [.dat q.d, .dat (rowsD q tb), .dat (.str c), .dat (tI p), .dat (.lst (dN (q.thru c))), .dat (.lst (dN (q.ends c))), .no, .no, .no, .no, .no, .no, .no, .no, .no, .no, .no, .no, .no, .no, .no, .no]) (pd_call A1 (hr.mono (by omega)) (q, c) (pds_cons (pd_var 0) (pds_cons (pd_var 2) pds_nil)) ⟨lc.gd, lc.ns⟩ fun _ h => h)
    (pat_tp (pats_cons (pat_nm 4 nd) (pats_cons (pat_nm 5 nd) pats_nil))) rfl ?_
  refine rg_pat (pat := .tp [.nm 6, .nm 7]) (d := .tup [oi (q.rangeOf c).1, oi (q.rangeOf c).2]) (ds' := [.dat q.d, .dat (rowsD q tb), .dat (.str c), .dat (tI p), .dat (.lst (dN (q.thru c))), .dat (.lst (dN (q.ends c))), .dat (oi (q.rangeOf c).1), .dat (oi (q.rangeOf c).2), .no, .no, .no, .no, .no, .no, .no, .no, .no, .no, .no, .no, .no, .no]) (pd_call A2 (hr.mono (by omega)) (q, c) (pds_cons (pd_var 0) (pds_cons (pd_var 2) pds_nil)) lc.rg fun _ h => h)
    (pat_tp (pats_cons (pat_nm 6 nd) (pats_cons (pat_nm 7 nd) pats_nil))) rfl ?_
  refine rg_own4 8 9 10 11 (pat_tp (pats_cons (pat_nm 8 nd) (pats_cons (pat_nm 9 nd) (pats_cons (pat_nm 10 nd) (pats_cons (pat_nm 11 nd) pats_nil))))) ?_
  show RG _ _ _ (crS q tb c p (q.rangeOf c).1 [] [] [] [] [.no, .no, .no, .no, .no, .no, .no, .no, .no, .no]) _
  have fin : ∀ (x : Option Int) (t0 t1 t2 t3 t4 t5 t6 t7 t8 t9 : Sl), RG (dcx P w K mg base N_law_column_run "_law_column_run" (defScope s_law_column_run) f cd A' outer s H E) T ((defBody s_law_column_run).drop 4) (crS q tb c p x r.G r.V r.B r.L [t0, t1, t2, t3, t4, t5, t6, t7, t8, t9]) { rt := fun d => d = r.d } := fun x t0 t1 t2 t3 t4 t5 t6 t7 t8 t9 => by
    refine rg_retD (d := r.d) (PD.of (pd_tup (pds_cons (pd_tupleL b.tuple (pd_var 10)) (pds_cons (pd_tup (pds_cons (pd_tupleL b.tuple (pd_var 8)) (pds_cons (pd_tupleL b.tuple (pd_var 9)) pds_nil))) (pds_cons (pd_var 11) pds_nil)))) ?_) rfl
    rfl
  refine rg_while (fun m ds => ∃ x G V B L G' V' B' L' t0 t1 t2 t3 t4 t5 t6 t7 t8 t9, ds = crS q tb c p x G V B L [t0, t1, t2, t3, t4, t5, t6, t7, t8, t9] ∧ Loop q (rowsOf q tb) (SRun q (rowsOf q tb) n (q.kids (some c))) c p x G' V' B' L' ∧ r.G = G ++ G' ∧ r.V = V ++ V' ∧ r.B = B ++ B' ∧ r.L = L ++ L' ∧ L'.length = m) r.L.length
    ⟨_, [], [], [], [], _, _, _, _, _, _, _, _, _, _, _, _, _, _, rfl, hloop, rfl, rfl, rfl, rfl, rfl⟩ ?_ .never
  rintro m ds' ⟨x, G, V, B, L, G', V', B', L', t0, t1, t2, t3, t4, t5, t6, t7, t8, t9, rfl, hl, eG, eV, eB, eL, rfl⟩
  refine ⟨inRange q c x, ?_, fun hin => ?_, fun hin => ?_⟩
  · show TD _ _ _ [.dat q.d, .dat (rowsD q tb), .dat (.str c), .dat (tI p), .dat (.lst (dN (q.thru c))), .dat (.lst (dN (q.ends c))), .dat (oi x), .dat (oi (q.rangeOf c).2), .dat (.lst (G.map Gap.d)), .dat (.lst (V.map pD)), .dat (.lst (B.map pD)), .dat (.lst (L.map Look.d)), t0.op, t1.op, t2.op, t3.op, t4.op, t5.op, t6.op, t7.op, t8.op, t9.op] _
    unfold inRange
    cases x with
    | none => exact WD.td (wd_or (k := true) (k' := true) (td_cmp c_isN (pd_var 6) pd_non) fun h => by cases h)
    | some v => cases (q.rangeOf c).2 with
      | none => exact WD.td (wd_or (k := false) (k' := true) (td_cmp c_isN (pd_var 6) pd_non) fun _ => wd_or (k := true) (k' := true) (td_cmp c_isN (pd_var 7) pd_non) fun h => by cases h)
      | some y => exact WD.td (wd_or (k := false) (k' := false || decide (v ≤ y)) (td_cmp c_isN (pd_var 6) pd_non) fun _ => wd_or (k := false) (k' := decide (v ≤ y)) (td_cmp c_isN (pd_var 7) pd_non) fun _ => wd_or1 (td_cmp c_le (pd_var 6) (pd_var 7)))
  · have hRi : ∀ i ∈ q.thru c, (rowsOf q tb i).length < 64 := fun i hi => lc.few i (thru_lt hi)
    have hLle : L.length ≤ 100000 := by have := congrArg List.length eL; rw [List.length_append] at this; omega
    have hGle : G.length ≤ 100000 := by have := congrArg List.length eG; rw [List.length_append] at this; omega
    have hVle : V.length ≤ 100000 := by have := congrArg List.length eV; rw [List.length_append] at this; omega
    have hBle : B.length ≤ 100000 := by have := congrArg List.length eB; rw [List.length_append] at this; omega
    have hthl := thru_len c gd
    have henl := ends_len c gd
    refine rg_setLc (P := fun l => l = (q.thru c).map fun i : Nat => .tup [.int (i : Int), .lst ((lawVals (rowsOf q tb i) p).map .int)]) 12 (PLc.imp (plc_fm (pat := .nm 20) (xs := q.thru c) (it := fun i : Nat => .int (i : Int)) (t := fun _ => true) (g := fun i : Nat => .tup [.int (i : Int), .lst ((lawVals (rowsOf q tb i) p).map .int)])
      (src_list (pd_var 4)) (fun _ _ _ _ _ => pat_nm 20 nd) (blkOk_by (N := N_law_column_run) (sc := defScope s_law_column_run) (own := [("_law_index", 20)]) (by decide +kernel)) nd (fits hthl) fun i hi => ⟨_, rfl, ?_, ?_⟩) ?_) (fun l hl' => ?_) (by rfl) (sw_true rfl rfl rfl rfl)
    · rfl
    · exact fun _ _ _ _ _ _ => pd_tup (pds_cons (pd_var 20) (pds_cons (pd_call A3 (hr.mono (by omega)) (rowsOf q tb i, p) (pds_cons (pd_ixL (pd_var 1) (pd_var 20) (atI_nat (rows_at (thru_lt hi)))) (pds_cons (pd_var 3) pds_nil)) ⟨hRi i hi, fun r' hr' => by rw [rowsOf_len hr']; exact hpl i hi⟩ fun _ h => h) pds_nil))
    · rintro l rfl
      rw [List.filter_eq_self.mpr fun _ _ => rfl]
    subst hl'
    refine rg_freeze 12 rfl ?_
    refine rg_extend (ys := (hasLooks q c p x).map Look.d) 11 rfl (PL.pd (PLc.pl (PLc.imp (plc_fm (pat := .nm 20) (xs := q.thru c) (it := fun i : Nat => .int (i : Int)) (t := fun _ => true) (g := fun i : Nat => (Look.at3 i p x).d)
      (src_list (pd_var 4)) (fun _ _ _ _ _ => pat_nm 20 nd) (blkOk_by (N := N_law_column_run) (sc := defScope s_law_column_run) (own := [("_law_index", 20)]) (by decide +kernel)) nd (fits hthl) fun i hi => ⟨_, rfl, ?_, ?_⟩) ?_))) ?_ ?_
    · rfl
    · exact fun _ _ _ _ _ _ => pd_tup (pds_cons (pd_var 20) (pds_cons (pd_var 3) (pds_cons (pd_var 6) pds_nil)))
    · rintro l rfl
      rw [List.filter_eq_self.mpr fun _ _ => rfl]
      unfold hasLooks
      rw [List.map_map]
      rfl
    · unfold hasLooks
      rw [List.length_map, List.length_map, List.length_map]
      omega
    rw [← List.map_append]
    show RG _ _ _ (crS q tb c p x G V B (L ++ hasLooks q c p x) [.dat (.lst ((q.thru c).map fun i : Nat => .tup [.int (i : Int), .lst ((lawVals (rowsOf q tb i) p).map .int)])), t1, t2, t3, t4, t5, t6, t7, t8, t9]) _
    refine rg_setLc (P := fun l => l = (gapsAt q (rowsOf q tb) c p x).map Gap.d) 13 (PLc.imp (plc_fm (pat := .tp [.nm 20, .nm 21]) (xs := q.thru c) (it := fun i : Nat => .tup [.int (i : Int), .lst ((lawVals (rowsOf q tb i) p).map .int)]) (t := fun i => outO (lawVals (rowsOf q tb i) p) x) (g := fun i => (Gap.mk i (lawGap (lawVals (rowsOf q tb i) p) x).1 (lawGap (lawVals (rowsOf q tb i) p) x).2).d)
      (src_list (pd_var 12)) (fun _ _ _ _ _ => pat_tp (pats_cons (pat_nm 20 nd) (pats_cons (pat_nm 21 nd) pats_nil))) (blkOk_by (N := N_law_column_run) (sc := defScope s_law_column_run) (own := [("_law_index", 20), ("_law_some_here", 21)]) (by decide +kernel)) nd (fits hthl) fun i hi => ⟨_, rfl, ?_, ?_⟩) ?_) (fun l hl' => ?_) (by rfl) (sw_true rfl rfl rfl rfl)
    · cases x with
      | none => exact fun _ _ _ _ _ => WD.td (wd_or (k := true) (k' := true) (td_cmp c_isN (pd_var 6) pd_non) fun h => by cases h)
      | some v => exact fun _ _ _ _ _ => WD.td (wd_or (k := false) (k' := !decide (v ∈ lawVals (rowsOf q tb i) p)) (td_cmp c_isN (pd_var 6) pd_non) fun _ => wd_or1 (td_cmp c_ninIL (pd_var 6) (pd_var 21)))
    · exact fun _ _ _ _ _ _ => PD.of (pd_catT (pd_tup (pds_cons (pd_var 20) pds_nil)) (pd_call A4 (hr.mono (by omega)) (lawVals (rowsOf q tb i) p, x) (pds_cons (pd_var 21) (pds_cons (pd_var 6) pds_nil)) (by have := vals_len (rowsOf q tb i) p; have := hRi i hi; show (lawVals (rowsOf q tb i) p).length ≤ 1000; omega) fun _ h => h) (by show 3 ≤ sizeLine; decide)) rfl
    · rintro l rfl
      unfold gapsAt
      rw [List.map_map]
      rfl
    subst hl'
    refine rg_freeze 13 rfl ?_
    show RG _ _ _ (crS q tb c p x G V B (L ++ hasLooks q c p x) [.dat (.lst ((q.thru c).map fun i : Nat => .tup [.int (i : Int), .lst ((lawVals (rowsOf q tb i) p).map .int)])), .dat (.lst ((gapsAt q (rowsOf q tb) c p x).map Gap.d)), t2, t3, t4, t5, t6, t7, t8, t9]) _
    generalize Sl.dat (.lst ((q.thru c).map fun i : Nat => .tup [.int (i : Int), .lst ((lawVals (rowsOf q tb i) p).map .int)])) = u0
    refine rg_when (k := !((gapsAt q (rowsOf q tb) c p x).map Gap.d).isEmpty) (td_cmp (c_neL0 (by have := hr.un; omega)) (pd_var 13) (PL.pd (pl_lst pds_nil))) (fun hne => ?_) fun hne => ?_
    · obtain ⟨g, gs, hg⟩ : ∃ g gs, gapsAt q (rowsOf q tb) c p x = g :: gs := by
        cases e : gapsAt q (rowsOf q tb) c p x with
        | nil => rw [e] at hne; cases hne
        | cons g gs => exact ⟨g, gs, rfl⟩
      rw [hg]
      refine rg_append (P := fun d => d = (gs.foldl farG g).d) 8 rfl (PN.po (PD.pn (d := (gs.foldl farG g).d) (pd_call A5 (hr.mono (by omega)) (g, gs) (pds_cons (pd_var 13) pds_nil) trivial fun _ h => h) rfl)) (by rw [List.length_map]; omega) fun d hd => ?_
      subst hd
      generalize hb : gs.foldl farG g = bst
      have eM : G.map Gap.d ++ [bst.d] = (G ++ [bst]).map Gap.d := by rw [List.map_append]; rfl
      rw [eM]
      show RG _ _ _ (crS q tb c p x (G ++ [bst]) V B (L ++ hasLooks q c p x) [u0, .dat (.lst ((g :: gs).map Gap.d)), t2, t3, t4, t5, t6, t7, t8, t9]) _
      refine rg_asgO (P := fun d => d = oi bst.hi) 6 (PN.opn (PD.pn (d := oi bst.hi) (pd_ixT (xs := [.int (bst.a : Int), oi bst.lo, oi bst.hi]) (pd_ixL (xs := (G ++ [bst]).map Gap.d) (pd_var 8) (pd_neg pd_int) (by rw [List.map_append]; exact atI_m1 _ _)) pd_int (atI_nat (j := 2) rfl)) rfl) (fun d hd => by subst hd; cases bst.hi <;> rfl)) nd fun d hd => ?_
      subst hd
      show RG _ _ _ (crS q tb c p bst.hi (G ++ [bst]) V B (L ++ hasLooks q c p x) [u0, .dat (.lst ((g :: gs).map Gap.d)), t2, t3, t4, t5, t6, t7, t8, t9]) _
      refine rg_when (k := bst.hi.isNone) (td_cmp c_isOi (pd_var 6) pd_non) (fun hn => ?_) fun hn => ?_
      · have hn : bst.hi = none := Option.isNone_iff_eq_none.mp hn
        cases hl with
        | out _ h => rw [hin] at h; cases h
        | gapEnd _ g2 gs2 h1 h2 h3 =>
          rw [hg] at h2
          cases h2
          rw [hb] at eG
          refine rg_break ?_
          rw [hn]
          simp only [List.append_nil] at eV eB
          rw [← eG, ← eV, ← eB, ← eL]
          exact fin none _ _ _ _ _ _ _ _ _ _
        | gapGo _ g2 gs2 y _ _ _ _ h1 h2 h3 h4 =>
          rw [hg] at h2
          cases h2
          rw [hb, hn] at h3
          cases h3
        | row _ _ _ _ _ _ _ h1 h2 => rw [hg] at h2; cases h2
        | sub _ _ _ _ _ _ _ _ h1 h2 => rw [hg] at h2; cases h2
      · cases hl with
        | out _ h => rw [hin] at h; cases h
        | gapEnd _ g2 gs2 h1 h2 h3 =>
          rw [hg] at h2
          cases h2
          rw [hb] at h3
          rw [h3] at hn
          cases hn
        | gapGo _ g2 gs2 y G2 V2 B2 L2 h1 h2 h3 h4 =>
          rw [hg] at h2
          cases h2
          rw [hb] at h3 eG
          rw [h3]
          refine rg_continue ⟨L2.length, ?_, some y, _, _, _, _, G2, V', B', L2, _, _, _, _, _, _, _, _, _, _, rfl, h4, by rw [eG, List.append_assoc]; rfl, eV, eB, by rw [eL, List.append_assoc], rfl⟩
          rw [List.length_append]
          have : 0 < (hasLooks q c p x).length := by
            unfold hasLooks
            rw [List.length_map]
            exact List.length_pos_iff.mpr hth
          omega
        | row _ _ _ _ _ _ _ h1 h2 => rw [hg] at h2; cases h2
        | sub _ _ _ _ _ _ _ _ h1 h2 => rw [hg] at h2; cases h2
    · have hg : gapsAt q (rowsOf q tb) c p x = [] := by
        cases e : gapsAt q (rowsOf q tb) c p x with
        | nil => rfl
        | cons g gs => rw [e] at hne; cases hne
      obtain ⟨v, rfl⟩ : ∃ v, x = some v := by
        cases x with
        | some v => exact ⟨v, rfl⟩
        | none =>
          exfalso
          unfold gapsAt at hg
          have h0 : (q.thru c).filter (fun i => outO (lawVals (rowsOf q tb i) p) none) = q.thru c := List.filter_eq_self.mpr fun _ _ => rfl
          rw [List.map_eq_nil_iff, h0] at hg
          exact hth hg
      rw [hg]
      have hu : (dcx P w K mg base N_law_column_run "_law_column_run" (defScope s_law_column_run) f cd A' outer s H E).A.units + 66 < cLine := by have := hr.un; omega
      have hu0 : (dcx P w K mg base N_law_column_run "_law_column_run" (defScope s_law_column_run) f cd A' outer s H E).A.units < cLine := by omega
      refine rg_pat (pat := .tp [.nm 14, .nm 15]) (d := .tup [tI (p ++ [v]), .lst (dN (barred q (rowsOf q tb) c p v))]) (ds' := crS q tb c p (some v) G V B (L ++ hasLooks q c p (some v)) [u0, .dat (.lst ([].map Gap.d)), .dat (tI (p ++ [v])), .dat (.lst (dN (barred q (rowsOf q tb) c p v))), t4, t5, t6, t7, t8, t9])
        (pd_tup (pds_cons (PD.of (pd_catT (pd_var 3) (pd_tup (pds_cons (pd_var 6) pds_nil)) ?_) (tI_snoc p v)) (pds_cons (PL.pd (PLc.pl (PLc.imp (plc_fm (pat := .nm 20) (xs := q.ends c) (it := fun i : Nat => .int (i : Int)) (t := fun i => decide (p ++ [v] ∈ rowsOf q tb i)) (g := fun i : Nat => .int (i : Int))
          (src_list (pd_var 5)) (fun _ _ _ _ _ => pat_nm 20 nd) (blkOk_by (N := N_law_column_run) (sc := defScope s_law_column_run) (own := [("_law_index", 20)]) (by decide +kernel)) nd (fits henl) fun i hi => ⟨_, rfl, ?_, ?_⟩) ?_))) pds_nil)))
        (pat_tp (pats_cons (pat_nm 14 nd) (pats_cons (pat_nm 15 nd) pats_nil))) rfl ?_
      · rw [List.length_map]
        show p.length + 1 ≤ _
        omega
      · exact fun _ _ _ _ _ => td_cmp (c_inRowsL (by exact hu)) (PD.of (pd_catT (pd_var 3) (pd_tup (pds_cons (pd_var 6) pds_nil)) (by rw [List.length_map]; show p.length + 1 ≤ _; omega)) (tI_snoc p v)) (pd_ixL (pd_var 1) (pd_var 20) (atI_nat (rows_at (ends_lt hi))))
      · exact fun _ _ _ _ _ _ => pd_var 20
      · rintro l rfl
        rfl
      refine rg_setLc (P := fun l => l = dN (asked q (rowsOf q tb) c p v)) 16 (PLc.imp (plc_fm (pat := .nm 20) (xs := q.ends c) (it := fun i : Nat => .int (i : Int)) (t := askT (barred q (rowsOf q tb) c p v)) (g := fun i : Nat => .int (i : Int))
        (src_list (pd_var 5)) (fun _ _ _ _ _ => pat_nm 20 nd) (blkOk_by (N := N_law_column_run) (sc := defScope s_law_column_run) (own := [("_law_index", 20)]) (by decide +kernel)) nd (fits henl) fun i hi => ⟨_, rfl, ?_, ?_⟩) ?_) (fun l hl' => ?_) (by rfl) (sw_true rfl rfl rfl rfl)
      · cases barred q (rowsOf q tb) c p v with
        | nil => exact fun _ _ _ _ _ => WD.td (wd_or (k := true) (k' := true) (td_cmp (c_eqL0 (xs := dN []) (by exact hu0)) (pd_var 15) (PL.pd (pl_lst pds_nil))) fun h => by cases h)
        | cons b' bs => exact fun _ _ _ _ _ => TD.of (WD.td (wd_or (k := false) (k' := decide ((i : Int) ≤ (b' : Int))) (td_cmp (c_eqL0 (xs := dN (b' :: bs)) (by exact hu0)) (pd_var 15) (PL.pd (pl_lst pds_nil))) fun _ => wd_or1 (td_cmp c_le (pd_var 20) (pd_ixL (xs := .int (b' : Int) :: dN bs) (pd_var 15) pd_int (atI_nat (j := 0) rfl))))) (by simp [askT])
      · exact fun _ _ _ _ _ _ => pd_var 20
      · rintro l rfl
        rw [asked_eq]
        rfl
      subst hl'
      refine rg_freeze 16 rfl ?_
      have hasl : (asked q (rowsOf q tb) c p v).length ≤ 1000 := by rw [asked_eq]; exact Nat.le_trans (List.length_filter_le _ _) henl
      refine rg_extend (ys := (rowLooks q (rowsOf q tb) c p v).map Look.d) 11 rfl (PL.pd (PLc.pl (PLc.imp (plc_fm (pat := .nm 20) (xs := asked q (rowsOf q tb) c p v) (it := fun i : Nat => .int (i : Int)) (t := fun _ => true) (g := fun i : Nat => (Look.row i (p ++ [v])).d)
        (src_list (pd_var 16)) (fun _ _ _ _ _ => pat_nm 20 nd) (blkOk_by (N := N_law_column_run) (sc := defScope s_law_column_run) (own := [("_law_index", 20)]) (by decide +kernel)) nd (fits hasl) fun i hi => ⟨_, rfl, ?_, ?_⟩) ?_))) ?_ ?_
      · rfl
      · exact fun _ _ _ _ _ _ => pd_tup (pds_cons (pd_var 20) (pds_cons (pd_var 14) pds_nil))
      · rintro l rfl
        rw [List.filter_eq_self.mpr fun _ _ => rfl]
        unfold rowLooks
        rw [List.map_map]
        rfl
      · unfold rowLooks hasLooks
        simp only [List.length_map, List.length_append]
        omega
      rw [← List.map_append]
      show RG _ _ _ (crS q tb c p (some v) G V B (L ++ hasLooks q c p (some v) ++ rowLooks q (rowsOf q tb) c p v) [u0, .dat (.lst ([].map Gap.d)), .dat (tI (p ++ [v])), .dat (.lst (dN (barred q (rowsOf q tb) c p v))), .dat (.lst (dN (asked q (rowsOf q tb) c p v))), t5, t6, t7, t8, t9]) _
      have hpos : 0 < (hasLooks q c p (some v)).length := by
        unfold hasLooks
        rw [List.length_map]
        exact List.length_pos_iff.mpr hth
      generalize Sl.dat (.lst (dN (asked q (rowsOf q tb) c p v))) = u4
      refine rg_if (k := !(dN (barred q (rowsOf q tb) c p v)).isEmpty) (td_cmp (c_neL0 (by exact hu0)) (pd_var 15) (PL.pd (pl_lst pds_nil))) (fun hb => ?_) fun hb => ?_
      · cases hl with
        | out _ h => rw [hin] at h; cases h
        | gapEnd _ _ _ h1 h2 => rw [hg] at h2; cases h2
        | gapGo _ _ _ _ _ _ _ _ h1 h2 => rw [hg] at h2; cases h2
        | sub _ _ _ _ _ _ _ _ h1 h2 h3 => rw [h3] at hb; cases hb
        | row _ b' bs _ V2 _ L2 h1 h2 h3 h4 =>
          rw [h3]
          refine rg_append (P := fun d => d = pD (v, rowD b')) 9 rfl (PN.po (PD.pn (d := pD (v, rowD b')) (pd_tup (pds_cons (pd_var 6) (pds_cons (pd_tup (pds_cons pd_str (pds_cons (pd_ixL (xs := .int (b' : Int) :: dN bs) (pd_var 15) pd_int (atI_nat (j := 0) rfl)) pds_nil))) pds_nil))) rfl)) (by rw [List.length_map]; omega) fun d hd => rg_nil ?_
          subst hd
          have eM : V.map pD ++ [pD (v, rowD b')] = (V ++ [(v, rowD b')]).map pD := by rw [List.map_append]; rfl
          rw [eM]
          show RG _ _ _ (crS q tb c p (some v) G (V ++ [(v, rowD b')]) B (L ++ hasLooks q c p (some v) ++ rowLooks q (rowsOf q tb) c p v) [u0, .dat (.lst ([].map Gap.d)), .dat (tI (p ++ [v])), .dat (.lst (dN (b' :: bs))), u4, t5, t6, t7, t8, t9]) _
          refine rg_addI 6 (n := v) (m := 1) rfl pd_int nd (rg_nil ⟨L2.length, ?_, some (v + 1), _, _, _, _, G', V2, B', L2, _, _, _, _, _, _, _, _, _, _, rfl, h4, eG, by rw [eV, List.append_assoc]; rfl, eB, by rw [eL]; simp only [List.append_assoc], rfl⟩)
          simp only [List.length_append]
          omega
      · cases hl with
        | out _ h => rw [hin] at h; cases h
        | gapEnd _ _ _ h1 h2 => rw [hg] at h2; cases h2
        | gapGo _ _ _ _ _ _ _ _ h1 h2 => rw [hg] at h2; cases h2
        | row _ b' bs _ _ _ _ h1 h2 h3 => rw [h3] at hb; cases hb
        | sub _ sh pa M _ V2 B2 L2 h1 h2 h3 h4 h5 =>
          have hMl : L.length + (hasLooks q c p (some v)).length + (rowLooks q (rowsOf q tb) c p v).length + M.length ≤ 100000 := by
            have := congrArg List.length eL
            simp only [List.length_append] at this
            omega
          refine rg_pat (pat := .tp [.nm 17, .nm 18, .nm 19]) (d := .tup [sh, pa, .lst (M.map Look.d)]) (ds' := crS q tb c p (some v) G V B (L ++ hasLooks q c p (some v) ++ rowLooks q (rowsOf q tb) c p v) [u0, .dat (.lst ([].map Gap.d)), .dat (tI (p ++ [v])), .dat (.lst (dN (barred q (rowsOf q tb) c p v))), u4, .dat sh, .dat pa, .dat (.lst (M.map Look.d)), t8, t9])
            (pd_call A7 hr ⟨q, tb, q.kids (some c), p ++ [v], sh, pa, M⟩ (pds_cons (pd_var 0) (pds_cons (pd_var 1) (pds_cons (pd_call A6 (hr.mono (by omega)) (q, some c) (pds_cons (pd_var 0) (pds_cons (pd_var 2) pds_nil)) ⟨lc.gd, lc.ns⟩ fun _ h => h) (pds_cons (pd_var 14) pds_nil)))) ⟨lc, h4⟩ fun _ h => h)
            (pat_tp (pats_cons (pat_nm 17 nd) (pats_cons (pat_nm 18 nd) (pats_cons (pat_nm 19 nd) pats_nil)))) rfl ?_
          refine rg_extend (ys := M.map Look.d) 11 rfl (pd_var 19) (by simp only [List.length_map, List.length_append]; omega) ?_
          rw [← List.map_append]
          refine rg_append (P := fun d => d = pD (v, pa)) 9 rfl (PN.po (PD.pn (d := pD (v, pa)) (pd_tup (pds_cons (pd_var 6) (pds_cons (pd_var 18) pds_nil))) rfl)) (by rw [List.length_map]; omega) fun d hd => ?_
          subst hd
          have eM : V.map pD ++ [pD (v, pa)] = (V ++ [(v, pa)]).map pD := by rw [List.map_append]; rfl
          rw [eM]
          show RG _ _ _ (crS q tb c p (some v) G (V ++ [(v, pa)]) B (L ++ hasLooks q c p (some v) ++ rowLooks q (rowsOf q tb) c p v ++ M) [u0, .dat (.lst ([].map Gap.d)), .dat (tI (p ++ [v])), .dat (.lst (dN (barred q (rowsOf q tb) c p v))), u4, .dat sh, .dat pa, .dat (.lst (M.map Look.d)), t8, t9]) _
          have hB2 : (B ++ (if sh.isNon then [] else [(v, sh)])) ++ B2 = r.B := by
            rw [eB]
            cases sh <;> simp [D.isNon]
          have hBy : ((if sh.isNon then [] else [(v, sh)] : List (Int × D)).map pD) = (if sh.isNon then [] else [pD (v, sh)]) := by cases sh.isNon <;> rfl
          refine rg_extend (ys := (if sh.isNon then [] else [(v, sh)] : List (Int × D)).map pD) 10 rfl (pd_if (k := !sh.isNon) (td_cmp c_notNon (pd_var 17) pd_non) (fun h => PD.of (PL.pd (pl_lst (pds_cons (pd_tup (pds_cons (pd_var 6) (pds_cons (pd_var 17) pds_nil))) pds_nil))) ?_) fun h => PD.of (PL.pd (pl_lst pds_nil)) ?_) ?_ (rg_nil ?_)
          · have : sh.isNon = false := by simpa using h
            rw [this]
            rfl
          · have : sh.isNon = true := by simpa using h
            rw [this]
            rfl
          · rw [hBy, List.length_map]
            split <;> simp <;> omega
          rw [← List.map_append]
          generalize B ++ (if sh.isNon then [] else [(v, sh)]) = B3 at hB2
          show RG _ _ _ (crS q tb c p (some v) G (V ++ [(v, pa)]) B3 (L ++ hasLooks q c p (some v) ++ rowLooks q (rowsOf q tb) c p v ++ M) [u0, .dat (.lst ([].map Gap.d)), .dat (tI (p ++ [v])), .dat (.lst (dN (barred q (rowsOf q tb) c p v))), u4, .dat sh, .dat pa, .dat (.lst (M.map Look.d)), t8, t9]) _
          refine rg_addI 6 (n := v) (m := 1) rfl pd_int nd (rg_nil ⟨L2.length, ?_, some (v + 1), _, _, _, _, G', V2, B2, L2, _, _, _, _, _, _, _, _, _, _, rfl, h5, eG, by rw [eV, List.append_assoc]; rfl, hB2.symm, by rw [eL]; simp only [List.append_assoc], rfl⟩)
          simp only [List.length_append]
          omega
  · cases hl with
    | out _ _ =>
      simp only [List.append_nil] at eG eV eB eL
      rw [← eG, ← eV, ← eB, ← eL]
      exact fin x _ _ _ _ _ _ _ _ _ _
    | gapEnd _ _ _ h => rw [hin] at h; cases h
    | gapGo _ _ _ _ _ _ _ _ h => rw [hin] at h; cases h
    | row _ _ _ _ _ _ _ h => rw [hin] at h; cases h
    | sub _ _ _ _ _ _ _ _ h => rw [hin] at h; cases h
end
end E
namespace E
open PySem PySem.Spec PyProof.Rows L2 LamX PySem.W
theorem upto_app {α : Type} {f : α → Bool} {l2 : List α} : ∀ {l : List α}, (∀ x ∈ l, f x = false) → upto f (l ++ l2) = (l ++ (upto f l2).1, (upto f l2).2)
  | [], _ => rfl
  | x :: l, h => by
    have e : upto f (x :: l ++ l2) = if f x then ([x], some x) else (x :: (upto f (l ++ l2)).1, (upto f (l ++ l2)).2) := rfl
    rw [e, h x List.mem_cons_self, upto_app fun y hy => h y (List.mem_cons_of_mem _ hy)]
    rfl
theorem upto_pos {α : Type} {f : α → Bool} {e : α} {l : List α} : 0 < (upto f (e :: l)).1.length := by
  unfold upto
  split <;> simp
theorem upto_all {α : Type} {f : α → Bool} : ∀ {l : List α}, (upto f l).2 = none → (upto f l).1 = l
  | [], _ => rfl
  | e :: l, h => by
    unfold upto at h ⊢
    split at h
    · cases h
    · next hf =>
      rw [if_neg hf]
      simp only at h ⊢
      rw [upto_all h]
theorem merged_len (rs : List Cr) : (merged rs).2.2.length = (upto (isStop rs) (evs rs)).1.length := by
  unfold merged
  cases e : (upto (isStop rs) (evs rs)).2 with
  | some x => simp
  | none => simp [upto_all e]
/-- the events of the turns before t, and of turn t before column i -/
def evT (rs : List Cr) (t : Nat) : List (Nat × Nat) := (List.range t).flatMap (round rs)
def rndTo (rs : List Cr) (t i : Nat) : List (Nat × Nat) := ((List.range i).filter fun i => decide (t < lenAt rs i)).map fun i => (t, i)
theorem evT_succ (rs : List Cr) (t : Nat) : evT rs (t + 1) = evT rs t ++ round rs t := by
  unfold evT
  rw [List.range_succ, List.flatMap_append]
  simp
theorem rnd_split {rs : List Cr} {t i : Nat} (hi : i < rs.length) (hl : t < lenAt rs i) : ∃ r, round rs t = rndTo rs t i ++ (t, i) :: r := by
  unfold round rndTo
  have h : List.range rs.length = List.range i ++ i :: (List.range (rs.length - (i + 1))).map fun j => i + 1 + j := by
    apply List.ext_getElem
    · simp; omega
    · intro k h1 h2
      rw [List.getElem_range]
      by_cases hk : k < i
      · rw [List.getElem_append_left (by simpa using hk), List.getElem_range]
      · rw [List.getElem_append_right (by simpa using hk)]
        simp only [List.length_range]
        by_cases hk2 : k = i
        · subst hk2; simp
        · rw [List.getElem_cons, dif_neg (by omega), List.getElem_map, List.getElem_range]
          omega
  rw [h, List.filter_append, List.filter_cons_of_pos (by simpa using hl), List.map_append, List.map_cons]
  exact ⟨_, rfl⟩
theorem evs_split {rs : List Cr} {t i : Nat} (ht : t < maxL rs) (hi : i < rs.length) (hl : t < lenAt rs i) : ∃ r, evs rs = (evT rs t ++ rndTo rs t i) ++ (t, i) :: r := by
  obtain ⟨r, hr⟩ := rnd_split hi hl
  have h : List.range (maxL rs) = List.range t ++ t :: (List.range (maxL rs - (t + 1))).map fun j => t + 1 + j := by
    apply List.ext_getElem
    · simp; omega
    · intro k h1 h2
      rw [List.getElem_range]
      by_cases hk : k < t
      · rw [List.getElem_append_left (by simpa using hk), List.getElem_range]
      · rw [List.getElem_append_right (by simpa using hk)]
        simp only [List.length_range]
        by_cases hk2 : k = t
        · subst hk2; simp
        · rw [List.getElem_cons, dif_neg (by omega), List.getElem_map, List.getElem_range]
          omega
  refine ⟨r ++ ((List.range (maxL rs - (t + 1))).map fun j => t + 1 + j).flatMap (round rs), ?_⟩
  unfold evs evT
  rw [h, List.flatMap_append, List.flatMap_cons, hr]
  simp
theorem maxL_foldl : ∀ (rs : List Cr) (m : Nat), (m ≤ rs.foldl (fun m r => max m r.L.length) m) ∧ (∀ r ∈ rs, r.L.length ≤ rs.foldl (fun m r => max m r.L.length) m) ∧ (rs.foldl (fun m r => max m r.L.length) m = m ∨ ∃ r ∈ rs, rs.foldl (fun m r => max m r.L.length) m = r.L.length)
  | [], m => ⟨Nat.le_refl _, by simp, .inl rfl⟩
  | r :: rs, m => by
    obtain ⟨h1, h2, h3⟩ := maxL_foldl rs (max m r.L.length)
    rw [List.foldl_cons]
    refine ⟨by omega, fun x hx => ?_, ?_⟩
    · rcases List.mem_cons.mp hx with rfl | hx
      · omega
      · exact h2 x hx
    · rcases h3 with h3 | ⟨x, hx, h3⟩
      · rw [h3]
        rcases Nat.le_total m r.L.length with h | h
        · exact .inr ⟨r, List.mem_cons_self, by omega⟩
        · exact .inl (by omega)
      · exact .inr ⟨x, List.mem_cons_of_mem _ hx, h3⟩
theorem paired_zip {α β : Type} {F : α → β → Prop} : ∀ {xs : List α} {ys : List β}, Paired F xs ys → (∀ y ∈ xs.zip ys, F y.1 y.2) ∧ (xs.zip ys).map (·.1) = xs ∧ (xs.zip ys).map (·.2) = ys
  | _, _, .nil => ⟨by simp, rfl, rfl⟩
  | _, _, .cons h t => by
    obtain ⟨h1, h2, h3⟩ := paired_zip t
    refine ⟨fun y hy => ?_, by simp [h2], by simp [h3]⟩
    obtain rfl | hy := List.mem_cons.mp hy
    · exact h
    · exact h1 y hy
end E
namespace E
open PySem PySem.Spec PyProof.Rows L2 LamX PySem.W
section
variable {P : Program} {w : World} {K : PySem.W.Frag} {mg : Str → Option Value} {base : Heap} {T : List (Addr × Str)}
theorem ok_law_sibling_run0 (F : At K mg "_law_sibling_run" s_law_sibling_run ["_law_question", "_law_rows", "_law_columns", "_law_prefix"]) : DfOk P w K mg base (20 + 2 * 0) "_law_sibling_run" ["_law_question", "_law_rows", "_law_columns", "_law_prefix"] (SpLS T K 0) :=
  df_mk F sc_law_sibling_run (fun _ => rfl) fun f cd A' outer s H E hr y hy => hy.2.elim
theorem ok_law_sibling_run (b : Bl mg) (n : Nat) (F : At K mg "_law_sibling_run" s_law_sibling_run ["_law_question", "_law_rows", "_law_columns", "_law_prefix"]) (A1 : DfOk P w K mg base (20 + 2 * n + 1) "_law_column_run" ["_law_question", "_law_rows", "_law_column", "_law_prefix"] (SpLC T K n)) :
    DfOk P w K mg base (20 + 2 * (n + 1)) "_law_sibling_run" ["_law_question", "_law_rows", "_law_columns", "_law_prefix"] (SpLS T K (n + 1)) := by
  refine df_mk F sc_law_sibling_run (fun _ => rfl) fun f cd A' outer s H E hr y hy => ?_
  obtain ⟨q, tb, cols, p, sh, pa, LL⟩ := y
  obtain ⟨lc, rs, hpr, hm, hLL, hcl, hp⟩ := hy
  have lc : Lc q tb := lc
  have hm : merged rs = (sh, pa, LL) := hm
  have hLL : LL.length ≤ 100000 := hLL
  have hcl : cols.length ≤ 1000 := hcl
  have hp : p.length ≤ 1000 := hp
  have nd := sc_law_sibling_run.nd
  have hz : (1000000 : Nat) ≤ sizeLine := by decide
  obtain ⟨z1, z2, z3⟩ := paired_zip hpr
  have hrl : rs.length ≤ 1000 := by rw [← Paired.length hpr]; exact hcl
  have hul : (upto (isStop rs) (evs rs)).1.length ≤ 100000 := by rw [← merged_len, hm]; exact hLL
  have hu : (dcx P w K mg base N_law_sibling_run "_law_sibling_run" (defScope s_law_sibling_run) f cd A' outer s H E).A.units < cLine := by have := hr.un; omega
  refine rg_setLc (P := fun l => l = rs.map Cr.d) 4 (PLc.imp (plc_fm (pat := .nm 11) (xs := cols.zip rs) (it := fun y => .str y.1) (t := fun _ => true) (g := fun y => y.2.d)
    (src_of (src_list (xs := cols.map .str) (pd_var 2)) ?_) (fun _ _ _ _ _ => pat_nm 11 nd) (blkOk_by (N := N_law_sibling_run) (sc := defScope s_law_sibling_run) (own := [("_law_column", 11)]) (by decide +kernel)) nd (fits (by rw [List.length_zip]; omega)) fun y hy => ⟨_, rfl, ?_, ?_⟩) ?_) (fun l hl => ?_) (by rfl) (sw_true rfl rfl rfl rfl)
  · have := congrArg (List.map D.str) z2
    rw [List.map_map] at this
    exact this.symm
  · rfl
  · obtain ⟨h1, h2, h3, h4⟩ := z1 y hy
    exact fun _ _ _ _ _ _ => pd_call A1 hr ⟨q, tb, y.1, p, y.2⟩ (pds_cons (pd_var 0) (pds_cons (pd_var 1) (pds_cons (pd_var 11) (pds_cons (pd_var 3) pds_nil)))) ⟨lc, h1, h2, hp, h3, h4⟩ fun _ h => h
  · rintro l rfl
    rw [List.filter_eq_self.mpr fun _ _ => rfl]
    have := congrArg (List.map Cr.d) z3
    rw [List.map_map] at this
    exact this
  subst hl
  refine rg_freeze 4 rfl ?_
  refine rg_asgL (P := fun l => l = []) 5 ((pl_lst pds_nil).pln rfl) nd fun l hl => ?_
  subst hl
  show RG _ _ _ [.dat q.d, .dat (rowsD q tb), .dat (.lst (cols.map .str)), .dat (tI p), .dat (.lst (rs.map Cr.d)), .own [], .no, .no, .no, .no, .no, .no, .no] _
  have lenAt_at : ∀ {i : Nat} {r : Cr}, rs[i]? = some r → lenAt rs i = r.L.length := fun h => by unfold lenAt; rw [h]
  refine rg_for (pat := .nm 6) (fun _ t ds => ∃ s6 s7 s8 s9 s10, ds = [.dat q.d, .dat (rowsD q tb), .dat (.lst (cols.map .str)), .dat (tI p), .dat (.lst (rs.map Cr.d)), .own ((evT rs t).map fun e => (lookAt rs e).d), s6, s7, s8, s9, s10, .no, .no] ∧ ∀ e ∈ evT rs t, isStop rs e = false)
    (src_range1 (n := (maxL rs : Nat)) b.range (pd_max (ns := 0 :: rs.map fun r => (r.L.length : Int)) (m := (maxL rs : Nat)) b.max (PD.of (PL.pd (pl_cat (xs := [.int 0]) (ys := rs.map fun r => .int (r.L.length : Int)) (PL.pd (pl_lst (pds_cons pd_int pds_nil))) (PL.pd (PLc.pl (PLc.imp (plc_fm (pat := .tp [.nm 8, .nm 9, .nm 10]) (xs := rs) (it := Cr.d) (t := fun _ => true) (g := fun r => .int (r.L.length : Int))
      (src_list (pd_var 4)) (fun _ _ _ _ _ => pat_tp (pats_cons (pat_nm 8 nd) (pats_cons (pat_nm 9 nd) (pats_cons (pat_nm 10 nd) pats_nil)))) (blkOk_by (N := N_law_sibling_run) (sc := defScope s_law_sibling_run) (own := [("_law_branch", 8), ("_law_level", 9), ("_law_looks", 10)]) (by decide +kernel)) nd (fits hrl) fun r hr' => ⟨_, rfl, ?_, ?_⟩) ?_))) ?_)) ?_) ?_ ?_) (by omega) ?_) (pat_nm 6 nd) (fun _ _ => ⟨_, _, _, _, _, rfl, by simp [evT]⟩) ?_ ?_ .never
  · rfl
  · exact fun _ _ _ _ _ _ => PD.of (pd_lenL b.len (pd_var 10)) (by rw [List.length_map])
  · rintro l rfl
    rw [List.filter_eq_self.mpr fun _ _ => rfl]
  · simp only [List.length_map, List.length_cons, List.length_nil]
    omega
  · show D.lst _ = D.lst _
    rw [List.map_cons, List.map_map]
    rfl
  · obtain ⟨h1, h2, h3⟩ := maxL_foldl rs 0
    rcases h3 with h3 | ⟨r, hr', h3⟩
    · have h3 : maxL rs = 0 := h3
      rw [h3]; exact List.mem_cons_self
    · have h3 : maxL rs = r.L.length := h3
      rw [h3]
      exact List.mem_cons_of_mem _ (List.mem_map_of_mem (f := fun r : Cr => (r.L.length : Int)) hr')
  · intro y hy
    obtain ⟨h1, h2, h3⟩ := maxL_foldl rs 0
    obtain rfl | hy := List.mem_cons.mp hy
    · omega
    · obtain ⟨r, hr', rfl⟩ := List.mem_map.mp hy
      have : r.L.length ≤ maxL rs := h2 r hr'
      omega
  · have : maxL rs ≤ 100000 := by
      obtain ⟨h1, h2, h3⟩ := maxL_foldl rs 0
      rcases h3 with h3 | ⟨r, hr', h3⟩
      · have h3 : maxL rs = 0 := h3
        omega
      · have h3 : maxL rs = r.L.length := h3
        have hsm : ∀ r ∈ rs, r.L.length ≤ 100000 := fun r hr' => by
          rw [← z3] at hr'
          obtain ⟨y, hy, rfl⟩ := List.mem_map.mp hr'
          exact (z1 y hy).2.1.2.2.2
        have := hsm r hr'
        omega
    omega
  · rintro items t d ds' rfl hd ⟨s6, s7, s8, s9, s10, rfl, hns⟩
    rw [List.getElem?_map] at hd
    obtain ⟨t', ht', hd⟩ := Option.map_eq_some_iff.mp hd
    obtain ⟨htm, rfl⟩ : t < maxL rs ∧ t = t' := by
      have h1 := (List.getElem?_eq_some_iff.mp ht').1
      have h2 := (List.getElem?_eq_some_iff.mp ht').2
      simp at h1 h2
      exact ⟨h1, h2⟩
    obtain rfl : d = .int (t : Int) := by rw [← hd]; exact congrArg D.int (by omega)
    refine ⟨[.dat q.d, .dat (rowsD q tb), .dat (.lst (cols.map .str)), .dat (tI p), .dat (.lst (rs.map Cr.d)), .own ((evT rs t).map fun e => (lookAt rs e).d), .dat (.int (t : Int)), s7, s8, s9, s10, .no, .no], rfl, ?_⟩
    refine rg_for (pat := .tp [.nm 7, .tp [.nm 8, .nm 9, .nm 10]]) (fun _ i ds => ∃ s7 s8 s9 s10, ds = [.dat q.d, .dat (rowsD q tb), .dat (.lst (cols.map .str)), .dat (tI p), .dat (.lst (rs.map Cr.d)), .own ((evT rs t ++ rndTo rs t i).map fun e => (lookAt rs e).d), .dat (.int (t : Int)), s7, s8, s9, s10, .no, .no] ∧ ∀ e ∈ evT rs t ++ rndTo rs t i, isStop rs e = false)
      (src_enumL b.enumerate (pd_var 4)) (pat_tp (pats_cons (pat_nm 7 nd) (pats_cons (pat_tp (pats_cons (pat_nm 8 nd) (pats_cons (pat_nm 9 nd) (pats_cons (pat_nm 10 nd) pats_nil)))) pats_nil))) (fun _ _ => ⟨s7, s8, s9, s10, by simp [rndTo], by simpa [rndTo] using hns⟩) ?_ ?_ .never
    · rintro items i d ds' rfl hd ⟨u7, u8, u9, u10, rfl, hns2⟩
      rw [List.getElem?_map] at hd
      obtain ⟨i', hi', rfl⟩ := Option.map_eq_some_iff.mp hd
      obtain ⟨hi, rfl⟩ : i < rs.length ∧ i = i' := by
        have h1 := (List.getElem?_eq_some_iff.mp hi').1
        have h2 := (List.getElem?_eq_some_iff.mp hi').2
        simp at h1 h2
        exact ⟨h1, h2⟩
      obtain ⟨r, hr0⟩ : ∃ r, rs[i]? = some r := ⟨_, List.getElem?_eq_getElem hi⟩
      have hgd : (rs.map Cr.d).getD i .non = r.d := by rw [List.getD_eq_getElem?_getD, List.getElem?_map, hr0]; rfl
      rw [hgd]
      have hla := lenAt_at hr0
      refine ⟨[.dat q.d, .dat (rowsD q tb), .dat (.lst (cols.map .str)), .dat (tI p), .dat (.lst (rs.map Cr.d)), .own ((evT rs t ++ rndTo rs t i).map fun e => (lookAt rs e).d), .dat (.int (t : Int)), .dat (.int (i : Int)), .dat (.tup (r.B.map pD)), .dat r.lv.d2, .dat (.lst (r.L.map Look.d)), .no, .no], rfl, ?_⟩
      have rnd1 : rndTo rs t (i + 1) = if t < r.L.length then rndTo rs t i ++ [(t, i)] else rndTo rs t i := by
        unfold rndTo
        rw [List.range_succ, List.filter_append]
        by_cases h : t < r.L.length
        · rw [if_pos h, List.filter_cons_of_pos (by rw [hla]; simpa using h), List.map_append]; rfl
        · rw [if_neg h, List.filter_cons_of_neg (by rw [hla]; simpa using h)]; simp
      refine rg_when (k := decide ((t : Int) < (((r.L.map Look.d).length : Nat) : Int))) (td_cmp c_lt (pd_var 6) (pd_lenL b.len (pd_var 10))) (fun h => ?_) fun h => ?_
      · have h : t < r.L.length := by have := of_decide_eq_true h; rw [List.length_map] at this; omega
        obtain ⟨rest, hev⟩ := evs_split htm hi (by rw [hla]; exact h)
        have hlook : lookAt rs (t, i) = r.L[t] := by unfold lookAt; rw [hr0]; simp [List.getD_eq_getElem?_getD, List.getElem?_eq_getElem h]
        have hsz : (evT rs t ++ rndTo rs t i).length < 100000 := by
          rw [hev, upto_app hns2, List.length_append] at hul
          have := upto_pos (f := isStop rs) (e := (t, i)) (l := rest)
          omega
        refine rg_append (P := fun d => d = (lookAt rs (t, i)).d) 5 rfl (PN.po (PD.pn (d := (lookAt rs (t, i)).d) (pd_ixL (pd_var 10) (pd_var 6) (atI_nat (by rw [hlook, List.getElem?_map, List.getElem?_eq_getElem h]; rfl))) rfl)) (by rw [List.length_map]; omega) fun d hd => ?_
        subst hd
        have eM : (evT rs t ++ rndTo rs t i).map (fun e => (lookAt rs e).d) ++ [(lookAt rs (t, i)).d] = (evT rs t ++ rndTo rs t (i + 1)).map fun e => (lookAt rs e).d := by
          rw [rnd1, if_pos h]
          simp
        rw [eM]
        show RG _ _ _ [.dat q.d, .dat (rowsD q tb), .dat (.lst (cols.map .str)), .dat (tI p), .dat (.lst (rs.map Cr.d)), .own ((evT rs t ++ rndTo rs t (i + 1)).map fun e => (lookAt rs e).d), .dat (.int (t : Int)), .dat (.int (i : Int)), .dat (.tup (r.B.map pD)), .dat r.lv.d2, .dat (.lst (r.L.map Look.d)), .no, .no] _
        have hst : isStop rs (t, i) = (decide ((t : Int) = (((r.L.map Look.d).length : Nat) : Int) - 1) && (r.B.map pD).isEmpty) := by
          unfold isStop
          rw [hr0]
          have e1 : decide (t + 1 = r.L.length) = decide ((t : Int) = (((r.L.map Look.d).length : Nat) : Int) - 1) := by
            rw [List.length_map, Bool.eq_iff_iff, decide_eq_true_iff, decide_eq_true_iff]
            omega
          rw [← e1, List.isEmpty_map]
        refine rg_when (k := isStop rs (t, i)) (TD.of (WD.td (wd_and (k := decide ((t : Int) = (((r.L.map Look.d).length : Nat) : Int) - 1)) (k' := (r.B.map pD).isEmpty) (td_cmp c_eqI (pd_var 6) (pd_sub (pd_lenL b.len (pd_var 10)) pd_int)) fun _ => wd_and1 (td_cmp (c_eqT0 hu) (pd_var 8) pd_unit))) hst.symm) (fun hs => ?_) fun hs => rg_nil (rg_nil ⟨_, _, _, _, rfl, fun e he => ?_⟩)
        · refine rg_retD (pd_tup (pds_cons pd_non (pds_cons (pd_tup (pds_cons pd_str (pds_cons (pd_var 7) (pds_cons (pd_var 9) pds_nil)))) (pds_cons (pd_var 5) pds_nil)))) ?_
          have hu1 := upto_at (l2 := rest) hs hns2
          rw [← hev] at hu1
          have hmm : merged rs = (.non, oneD rs i, (evT rs t ++ rndTo rs t i ++ [(t, i)]).map (lookAt rs)) := by unfold merged; rw [hu1]
          rw [hm] at hmm
          have e1 : sh = .non := congrArg (·.1) hmm
          have e2 : pa = oneD rs i := congrArg (·.2.1) hmm
          have e3 : LL = (evT rs t ++ rndTo rs t i ++ [(t, i)]).map (lookAt rs) := congrArg (·.2.2) hmm
          show _ = D.tup [sh, pa, .lst (LL.map Look.d)]
          rw [e1, e2, e3, rnd1, if_pos h, List.map_map]
          unfold oneD
          rw [hr0, List.append_assoc]
          rfl
        · rw [rnd1, if_pos h, ← List.append_assoc] at he
          obtain he | he := List.mem_append.mp he
          · exact hns2 e he
          · rw [List.mem_singleton.mp he]; exact hs
      · have h : ¬ t < r.L.length := by have := of_decide_eq_false h; rw [List.length_map] at this; omega
        refine rg_nil ⟨_, _, _, _, by rw [rnd1, if_neg h], by rw [rnd1, if_neg h]; exact hns2⟩
    · rintro items ds' rfl ⟨u7, u8, u9, u10, rfl, hns2⟩
      have hrd : evT rs t ++ rndTo rs t ((List.range (rs.map Cr.d).length).map fun i : Nat => D.tup [.int (i : Int), (rs.map Cr.d).getD i .non]).length = evT rs (t + 1) := by
        rw [evT_succ, List.length_map, List.length_range, List.length_map]
        rfl
      rw [hrd] at hns2 ⊢
      exact rg_nil ⟨_, _, _, _, _, rfl, hns2⟩
  · rintro items ds' rfl ⟨s6, s7, s8, s9, s10, rfl, hns⟩
    have hev : evT rs ((List.range (maxL rs : Int).toNat).map fun i : Nat => D.int (0 + (i : Int))).length = evs rs := by
      rw [List.length_map, List.length_range, Int.toNat_natCast]
      rfl
    rw [hev] at hns ⊢
    have hmm : merged rs = (.tup (rs.map fun r => .tup (r.B.map pD)), .tup [.str "all", .tup (rs.map fun r => r.lv.d2)], (evs rs).map (lookAt rs)) := by unfold merged; rw [upto_none hns]
    rw [hm] at hmm
    have e1 : sh = _ := congrArg (·.1) hmm
    have e2 : pa = _ := congrArg (·.2.1) hmm
    have e3 : LL = _ := congrArg (·.2.2) hmm
    refine rg_retD (d := .tup [sh, pa, .lst (LL.map Look.d)]) (PD.of (pd_tup (pds_cons (pd_tupleL b.tuple (PL.pd (PLc.pl (plc_fm (pat := .nm 12) (xs := rs) (it := Cr.d) (t := fun _ => true) (g := fun r => .tup (r.B.map pD))
      (src_list (pd_var 4)) (fun _ _ _ _ _ => pat_nm 12 nd) (blkOk_by (N := N_law_sibling_run) (sc := defScope s_law_sibling_run) (own := [("_law_one", 12)]) (by decide +kernel)) nd (fits hrl) fun r hr' => ⟨_, rfl, ?_, ?_⟩)))) (pds_cons (pd_tup (pds_cons pd_str (pds_cons (pd_tupleL b.tuple (PL.pd (PLc.pl (plc_fm (pat := .nm 12) (xs := rs) (it := Cr.d) (t := fun _ => true) (g := fun r => r.lv.d2)
      (src_list (pd_var 4)) (fun _ _ _ _ _ => pat_nm 12 nd) (blkOk_by (N := N_law_sibling_run) (sc := defScope s_law_sibling_run) (own := [("_law_one", 12)]) (by decide +kernel)) nd (fits hrl) fun r hr' => ⟨_, rfl, ?_, ?_⟩)))) pds_nil))) (pds_cons (pd_var 5) pds_nil)))) ?_) rfl
    · rfl
    · exact fun _ _ _ _ _ _ => pd_ixT (xs := [.tup (r.B.map pD), r.lv.d2, .lst (r.L.map Look.d)]) (pd_var 12) pd_int (atI_nat (j := 0) rfl)
    · rfl
    · exact fun _ _ _ _ _ _ => pd_ixT (xs := [.tup (r.B.map pD), r.lv.d2, .lst (r.L.map Look.d)]) (pd_var 12) pd_int (atI_nat (j := 1) rfl)
    · rw [e1, e2, e3, List.filter_eq_self.mpr (fun _ _ => rfl), List.map_map]
      rfl
end
end E
namespace E
open PySem PySem.Spec PyProof.Rows L2 LamX PySem.W
section
variable {P : Program} {w : World} {K : PySem.W.Frag} {mg : Str → Option Value} {base : Heap} {T : List (Addr × Str)}
theorem ok_law_siblings (b : Bl mg) (F : At K mg "_law_sibling_run" s_law_sibling_run ["_law_question", "_law_rows", "_law_columns", "_law_prefix"]) (F2 : At K mg "_law_column_run" s_law_column_run ["_law_question", "_law_rows", "_law_column", "_law_prefix"])
    (A1 : DfOk P w K mg base 5 "_law_through" ["_law_question", "_law_column"] (SpLThru T K)) (A2 : DfOk P w K mg base 1 "_law_range_of" ["_law_question", "_law_column"] (SpF T K (fun x : Qn × Str => [x.1.d, .str x.2]) (fun x => x.1.ranges.length ≤ 1000) (fun x d => d = .tup [oi (x.1.rangeOf x.2).1, oi (x.1.rangeOf x.2).2])))
    (A3 : DfOk P w K mg base 1 "_law_values_behind" ["_law_rows", "_law_prefix"] (SpLVals T K)) (A4 : DfOk P w K mg base 1 "_law_gap" ["_law_values", "_law_x"] (SpLGap T K)) (A5 : DfOk P w K mg base 1 "_law_farthest" ["_law_found"] (SpLFar T K))
    (A6 : DfOk P w K mg base 4 "_law_children" ["_law_question", "_law_column"] (SpLKids T K)) : ∀ n, DfOk P w K mg base (20 + 2 * n) "_law_sibling_run" ["_law_question", "_law_rows", "_law_columns", "_law_prefix"] (SpLS T K n)
  | 0 => ok_law_sibling_run0 F
  | n + 1 => ok_law_sibling_run b n F (ok_law_column_run b n F2 A1 A2 A3 A4 A5 A6 (ok_law_siblings b F F2 A1 A2 A3 A4 A5 A6 n))
theorem ok_law_run (b : Bl mg) (n : Nat) (F : At K mg "_law_run" s_law_run ["_law_question", "_law_tables"]) (A1 : DfOk P w K mg base 6 "_law_rows_of" ["_law_question", "_law_tables"] (SpLRows T K)) (A2 : DfOk P w K mg base 4 "_law_children" ["_law_question", "_law_column"] (SpLKids T K))
    (A3 : DfOk P w K mg base (20 + 2 * n) "_law_sibling_run" ["_law_question", "_law_rows", "_law_columns", "_law_prefix"] (SpLS T K n)) :
    DfOk P w K mg base (20 + 2 * n + 1) "_law_run" ["_law_question", "_law_tables"] (SpF T K (fun r : Rn => [r.q.d, tbsD r.tb]) (fun r => Lc r.q r.tb ∧ SRun r.q (rowsOf r.q r.tb) n (r.q.kids none) [] r.sh r.pa r.looks) (fun r d => d = r.d)) := by
  refine df_mk F sc_law_run (fun _ => rfl) fun f cd A' outer s H E hr r hy => ?_
  obtain ⟨lc, hs⟩ := hy
  exact rg_retD (pd_call A3 hr ⟨r.q, r.tb, r.q.kids none, [], r.sh, r.pa, r.looks⟩ (pds_cons (pd_var 0) (pds_cons (pd_call A1 (hr.mono (by omega)) (r.q, r.tb) (pds_cons (pd_var 0) (pds_cons (pd_var 1) pds_nil)) ⟨lc.gd, lc.ns, lc.gt⟩ fun _ h => h) (pds_cons (pd_call A2 (hr.mono (by omega)) (r.q, none) (pds_cons (pd_var 0) (pds_cons pd_non pds_nil)) ⟨lc.gd, lc.ns⟩ fun _ h => h) (pds_cons pd_unit pds_nil)))) ⟨lc, hs⟩ fun _ h => h) rfl
end
end E
/-! nested questions: their columns, plainly -/
namespace E
open PySem L2
structure Tame (q : Qn) : Prop where
  nd : q.cols.Nodup
  own : ∀ i, i < q.atoms.length → (q.at i).own ≠ [] ∧ (q.at i).own.Nodup ∧ ∀ c ∈ (q.at i).own, c ∈ q.cols
  lam : ∀ c ∈ q.cols, ∀ d ∈ q.cols, ∀ i, i ∈ q.atomsOf c → i ∈ q.atomsOf d → (∀ j ∈ q.atomsOf c, j ∈ q.atomsOf d) ∨ (∀ j ∈ q.atomsOf d, j ∈ q.atomsOf c)
  thru : ∀ c ∈ q.cols, q.thru c ≠ []
  fc : q.cols.length ≤ 5
  fa : q.atoms.length ≤ 8
theorem atomsOf_ext {q : Qn} {x y : Str} (u : ∀ i ∈ q.atomsOf y, i ∈ q.atomsOf x) (v : ∀ i ∈ q.atomsOf x, i ∈ q.atomsOf y) : q.atomsOf x = q.atomsOf y := by
  unfold Qn.atomsOf at u v ⊢
  apply List.filter_congr
  intro i hi
  rw [Bool.eq_iff_iff]
  exact ⟨fun hp => (List.mem_filter.mp (v i (List.mem_filter.mpr ⟨hi, hp⟩))).2, fun hp => (List.mem_filter.mp (u i (List.mem_filter.mpr ⟨hi, hp⟩))).2⟩
theorem above_sub {q : Qn} {a b : Str} (h : q.isAbove a b = true) : ∀ i ∈ q.atomsOf b, i ∈ q.atomsOf a := fun i hi => by
  unfold Qn.isAbove at h
  by_cases e : q.atomsOf a = q.atomsOf b
  · rw [e]; exact hi
  · rw [if_neg e] at h
    simpa using List.all_eq_true.mp h i hi
theorem above_irr {q : Qn} (a : Str) : q.isAbove a a = false := by
  unfold Qn.isAbove
  rw [if_pos rfl]
  simp
theorem above_ne {q : Qn} {a b : Str} (h : q.isAbove a b = true) : a ≠ b := fun e => by
  subst e
  rw [above_irr] at h
  cases h
theorem above_asym {q : Qn} {a b : Str} (h : q.isAbove a b = true) (h2 : q.isAbove b a = true) : False := above_ne (above_trans h h2) rfl
theorem mem_above {q : Qn} {a c : Str} : a ∈ q.above c ↔ a ∈ q.cols ∧ q.isAbove a c = true := List.mem_filter
theorem not_above_self {q : Qn} {a : Str} : ¬ a ∈ q.above a := fun z => by
  have := (mem_above.mp z).2
  rw [above_irr] at this
  cases this
theorem idx_inj {l : List Str} {a b : Str} (ha : a ∈ l) (hb : b ∈ l) (h : l.idxOf a = l.idxOf b) : a = b := by
  have h1 := List.getElem_idxOf (List.idxOf_lt_length_of_mem ha)
  have h2 := List.getElem_idxOf (List.idxOf_lt_length_of_mem hb)
  rw [← h1, ← h2]
  simp only [h]
theorem sub_perm {α : Type} [BEq α] [LawfulBEq α] : ∀ {l m : List α}, l.Nodup → (∀ x ∈ l, x ∈ m) → ∃ r, m.Perm (l ++ r)
  | [], m, _, _ => ⟨m, by simp⟩
  | a :: l, m, nd, h => by
    rcases List.nodup_cons.mp nd with ⟨n1, n2⟩
    have ha := h a List.mem_cons_self
    obtain ⟨r, hr⟩ := sub_perm (m := m.erase a) n2 fun x hx => (List.mem_erase_of_ne (fun e => n1 (by rw [← e]; exact hx))).mpr (h x (List.mem_cons_of_mem _ hx))
    exact ⟨r, (List.perm_cons_erase ha).trans (by rw [List.cons_append]; exact hr.cons a)⟩
theorem sub_len {α : Type} [BEq α] [LawfulBEq α] {l m : List α} (nd : l.Nodup) (h : ∀ x ∈ l, x ∈ m) : l.length ≤ m.length := by
  obtain ⟨r, hr⟩ := sub_perm nd h
  rw [hr.length_eq, List.length_append]
  omega
theorem sub_sum {α : Type} [BEq α] [LawfulBEq α] {l m : List α} (f : α → Nat) (nd : l.Nodup) (h : ∀ x ∈ l, x ∈ m) : (l.map f).sum ≤ (m.map f).sum := by
  obtain ⟨r, hr⟩ := sub_perm nd h
  rw [(hr.map f).sum_nat, List.map_append, List.sum_append]
  omega
theorem same_perm {α : Type} [BEq α] [LawfulBEq α] {l m : List α} (nd : l.Nodup) (nm : m.Nodup) (h : ∀ x, x ∈ l ↔ x ∈ m) : l.Perm m := by
  obtain ⟨r, hr⟩ := sub_perm nd fun x hx => (h x).mp hx
  have h1 := sub_len nm fun x hx => (h x).mpr hx
  have h2 := hr.length_eq
  rw [List.length_append] at h2
  have : r = [] := List.length_eq_zero_iff.mp (by omega)
  subst this
  simpa using hr.symm
theorem mem_thru {q : Qn} {c : Str} {i : Nat} : i ∈ q.thru c ↔ i ∈ q.atomsOf c ∧ (q.at i).has = true := by
  unfold Qn.thru
  simp
theorem pathLen (q : Qn) (c : Str) : (q.path c).length = (q.above c).length + 1 := by
  unfold Qn.path
  simp
/-- how far down -/
def Qn.down (q : Qn) : Option Str → Nat
  | none => 0
  | some c => (q.above c).length + 1
theorem mem_kids {q : Qn} {po : Option Str} {d : Str} : d ∈ q.kids po ↔ d ∈ q.cols ∧ q.parent d = po := by
  unfold Qn.kids
  simp
theorem nd_thru (q : Qn) (c : Str) : (q.thru c).Nodup := by
  unfold Qn.thru Qn.atomsOf
  exact (List.nodup_range.filter _).filter _
section
variable {q : Qn} (t : Tame q)
include t
theorem Tame.cmp {c d : Str} (hc : c ∈ q.cols) (hd : d ∈ q.cols) (ne : c ≠ d) {i : Nat} (h1 : i ∈ q.atomsOf c) (h2 : i ∈ q.atomsOf d) : q.isAbove c d = true ∨ q.isAbove d c = true := by
  unfold Qn.isAbove
  by_cases e : q.atomsOf c = q.atomsOf d
  · rw [if_pos e, if_pos e.symm]
    have : q.cols.idxOf c ≠ q.cols.idxOf d := fun z => ne (idx_inj hc hd z)
    simp only [decide_eq_true_eq]
    omega
  · rw [if_neg e, if_neg fun z => e z.symm]
    rcases t.lam c hc d hd i h1 h2 with h | h
    · exact .inr (by rw [List.all_eq_true]; intro j hj; simpa using h j hj)
    · exact .inl (by rw [List.all_eq_true]; intro j hj; simpa using h j hj)
theorem Tame.ndA (c : Str) : (q.above c).Nodup := t.nd.filter _
theorem Tame.ex_thru {c : Str} (hc : c ∈ q.cols) : ∃ i, i ∈ q.thru c := by
  cases h : q.thru c with
  | nil => exact absurd h (t.thru c hc)
  | cons a l => exact ⟨a, List.mem_cons_self⟩
/-- the number above -/
theorem Tame.lt {a b : Str} (ha : a ∈ q.cols) (h : q.isAbove a b = true) : (q.above a).length < (q.above b).length := by
  have := sub_len (l := a :: q.above a) (m := q.above b) (List.nodup_cons.mpr ⟨not_above_self, t.ndA a⟩) (fun x hx => by
    obtain rfl | hx := List.mem_cons.mp hx
    · exact mem_above.mpr ⟨ha, h⟩
    · exact mem_above.mpr ⟨(mem_above.mp hx).1, above_trans (mem_above.mp hx).2 h⟩)
  simp only [List.length_cons] at this; omega
theorem Tame.len4 {c : Str} (hc : c ∈ q.cols) : (q.above c).length ≤ 4 := by
  have := sub_len (l := c :: q.above c) (m := q.cols) (List.nodup_cons.mpr ⟨not_above_self, t.ndA c⟩) (fun x hx => by
    obtain rfl | hx := List.mem_cons.mp hx
    · exact hc
    · exact (mem_above.mp hx).1)
  have := t.fc
  simp only [List.length_cons] at *
  omega
/-- columns above one column are above one another -/
theorem Tame.chain {a b c : Str} (hc : c ∈ q.cols) (ha : a ∈ q.above c) (hb : b ∈ q.above c) (ne : a ≠ b) : q.isAbove a b = true ∨ q.isAbove b a = true := by
  obtain ⟨i, hi⟩ := t.ex_thru hc
  have hi := (mem_thru.mp hi).1
  exact t.cmp (mem_above.mp ha).1 (mem_above.mp hb).1 ne (above_sub (mem_above.mp ha).2 i hi) (above_sub (mem_above.mp hb).2 i hi)
theorem Tame.cnt : ∀ c ∈ q.cols, ((q.above c).map fun a => (q.above a).length).Nodup := fun c hc => by
  refine List.pairwise_map.mpr ((t.ndA c).imp_of_mem fun {a b} ha hb ne => ?_)
  rcases t.chain hc ha hb ne with h | h
  · have := t.lt (mem_above.mp ha).1 h; omega
  · have := t.lt (mem_above.mp hb).1 h; omega
/-- the parent -/
theorem Tame.parent_none {d : Str} (h : q.parent d = none) : q.above d = [] := by
  unfold Qn.parent Qn.path at h
  rw [List.dropLast_concat, List.getLast?_eq_none_iff] at h
  have := congrArg List.length h
  rw [List.length_mergeSort] at this
  exact List.length_eq_zero_iff.mp this
theorem Tame.parent_some {c d : Str} (hd : d ∈ q.cols) (h : q.parent d = some c) : c ∈ q.cols ∧ q.isAbove c d = true ∧ (q.above d).length = (q.above c).length + 1 := by
  unfold Qn.parent Qn.path at h
  rw [List.dropLast_concat] at h
  have hs := List.pairwise_mergeSort (le := fun a b => decide ((q.above a).length ≤ (q.above b).length)) (fun a b c h1 h2 => by simp only [decide_eq_true_eq] at *; omega) (fun a b => by simp only [Bool.or_eq_true, decide_eq_true_eq]; omega) (q.above d)
  have hm := fun x => List.mem_mergeSort (le := fun a b => decide ((q.above a).length ≤ (q.above b).length)) (a := x) (l := q.above d)
  generalize (q.above d).mergeSort (fun a b => decide ((q.above a).length ≤ (q.above b).length)) = l at h hs hm
  obtain ⟨ys, hl⟩ := List.getLast?_eq_some_iff.mp h
  have hc : c ∈ q.above d := (hm c).mp (by rw [hl]; simp)
  refine ⟨(mem_above.mp hc).1, (mem_above.mp hc).2, ?_⟩
  have hmax : ∀ b ∈ q.above d, (q.above b).length ≤ (q.above c).length := fun b hb => by
    have hb := (hm b).mpr hb
    rw [hl] at hb hs
    obtain hb | hb := List.mem_append.mp hb
    · have := (List.pairwise_append.mp hs).2.2 b hb c (by simp)
      simpa using this
    · rw [List.mem_singleton.mp hb]; exact Nat.le_refl _
  have hp : (q.above d).Perm (c :: q.above c) := same_perm (t.ndA d) (List.nodup_cons.mpr ⟨not_above_self, t.ndA c⟩) fun b => by
    constructor
    · intro hb
      by_cases e : b = c
      · rw [e]; exact List.mem_cons_self
      · rcases t.chain hd hb hc e with h | h
        · exact List.mem_cons_of_mem _ (mem_above.mpr ⟨(mem_above.mp hb).1, h⟩)
        · have h1 := t.lt (mem_above.mp hc).1 h
          have h2 := hmax b hb
          omega
    · intro hb
      obtain rfl | hb := List.mem_cons.mp hb
      · exact hc
      · exact mem_above.mpr ⟨(mem_above.mp hb).1, above_trans (mem_above.mp hb).2 (mem_above.mp hc).2⟩
  rw [hp.length_eq, List.length_cons]
theorem Tame.kid_down {po : Option Str} {d : Str} (h : d ∈ q.kids po) : (q.above d).length = q.down po := by
  obtain ⟨h1, h2⟩ := mem_kids.mp h
  cases po with
  | none => rw [t.parent_none h2]; rfl
  | some c => exact (t.parent_some h1 h2).2.2
theorem Tame.kid_apart {po : Option Str} {d e : Str} (h : d ∈ q.kids po) (h2 : e ∈ q.kids po) (ne : d ≠ e) {i : Nat} (hi : i ∈ q.atomsOf d) : ¬ i ∈ q.atomsOf e := fun hi2 => by
  have e1 := t.kid_down h
  have e2 := t.kid_down h2
  obtain ⟨m1, _⟩ := mem_kids.mp h
  obtain ⟨m2, _⟩ := mem_kids.mp h2
  rcases t.cmp m1 m2 ne hi hi2 with h | h
  · have := t.lt m1 h; omega
  · have := t.lt m2 h; omega
theorem Tame.kid_sub {c d : Str} (h : d ∈ q.kids (some c)) : c ∈ q.cols ∧ ∀ i ∈ q.thru d, i ∈ q.thru c := by
  obtain ⟨m1, m2⟩ := mem_kids.mp h
  obtain ⟨hc, ha, _⟩ := t.parent_some m1 m2
  exact ⟨hc, fun i hi => mem_thru.mpr ⟨above_sub ha i (mem_thru.mp hi).1, (mem_thru.mp hi).2⟩⟩
theorem nd_kids (po : Option Str) : (q.kids po).Nodup := t.nd.filter _
/-- the atoms through the kids of one parent are apart -/
theorem Tame.nd_flat (po : Option Str) : ((q.kids po).flatMap q.thru).Nodup := by
  have h : ∀ l : List Str, l.Nodup → (∀ x ∈ l, x ∈ q.kids po) → (l.flatMap q.thru).Nodup := fun l => by
    induction l with
    | nil => intro _ _; simp
    | cons a l ih =>
      intro n m
      obtain ⟨n1, n2⟩ := List.nodup_cons.mp n
      rw [List.flatMap_cons]
      refine List.nodup_append.mpr ⟨nd_thru q a, ih n2 fun x hx => m x (List.mem_cons_of_mem _ hx), fun i hi j hj e => ?_⟩
      subst e
      obtain ⟨b, hb, hj⟩ := List.mem_flatMap.mp hj
      exact t.kid_apart (m a List.mem_cons_self) (m b (List.mem_cons_of_mem _ hb)) (fun z => n1 (z ▸ hb)) (mem_thru.mp hi).1 (mem_thru.mp hj).1
  exact h _ (nd_kids t po) fun x hx => hx
end
end E
/-! ways of nested questions -/
namespace E
open PySem L2
theorem ex_max {α : Type} (f : α → Nat) : ∀ {l : List α}, l ≠ [] → ∃ e ∈ l, ∀ a ∈ l, f a ≤ f e
  | [], h => absurd rfl h
  | [a], _ => ⟨a, List.mem_cons_self, fun b hb => by rw [List.mem_singleton.mp hb]; exact Nat.le_refl _⟩
  | a :: b :: l, _ => by
    obtain ⟨e, he, hm⟩ := ex_max f (l := b :: l) (by simp)
    rcases Nat.le_total (f a) (f e) with h | h
    · refine ⟨e, List.mem_cons_of_mem _ he, fun x hx => ?_⟩
      obtain rfl | hx := List.mem_cons.mp hx
      · exact h
      · exact hm x hx
    · refine ⟨a, List.mem_cons_self, fun x hx => ?_⟩
      obtain rfl | hx := List.mem_cons.mp hx
      · exact Nat.le_refl _
      · exact Nat.le_trans (hm x hx) h
theorem mem_at {q : Qn} {a : Atom} (h : a ∈ q.atoms) : ∃ i, i < q.atoms.length ∧ q.at i = a := by
  rcases List.mem_iff_getElem.mp h with ⟨i, hi, e⟩
  refine ⟨i, hi, ?_⟩
  unfold Qn.at
  rw [List.getD_eq_getElem?_getD, List.getElem?_eq_getElem hi]; exact e
theorem rows_len (q : Qn) (tb : Tbs) (i : Nat) : ∀ r ∈ rowsOf q tb i, r.length = (q.at i).own.length := fun r hr => by
  unfold rowsOf at hr
  obtain ⟨r', _, rfl⟩ := List.mem_map.mp (List.mem_mergeSort.mp hr)
  rw [List.length_map, way_len]
section
variable {q : Qn} (t : Tame q)
include t
theorem Tame.low {i : Nat} (hi : i < q.atoms.length) : ∃ e ∈ (q.at i).own, (q.at i).own.Perm (e :: q.above e) ∧ ∀ a ∈ (q.at i).own, a ≠ e → q.isAbove a e = true := by
  obtain ⟨hne, hnd, hsub⟩ := t.own i hi
  obtain ⟨e, he, hm⟩ := ex_max (fun c => (q.above c).length) hne
  have hab : ∀ a ∈ (q.at i).own, a ≠ e → q.isAbove a e = true := fun a ha ne => by
    rcases t.cmp (hsub a ha) (hsub e he) ne (mem_atomsOf.mpr ⟨hi, ha⟩) (mem_atomsOf.mpr ⟨hi, he⟩) with h | h
    · exact h
    · have h1 := t.lt (hsub e he) h
      have h2 : (q.above a).length ≤ (q.above e).length := hm a ha
      omega
  refine ⟨e, he, same_perm hnd (List.nodup_cons.mpr ⟨not_above_self, t.ndA e⟩) fun a => ⟨fun ha => ?_, fun ha => ?_⟩, hab⟩
  · by_cases x : a = e
    · rw [x]; exact List.mem_cons_self
    · exact List.mem_cons_of_mem _ (mem_above.mpr ⟨hsub a ha, hab a ha x⟩)
  · obtain rfl | ha := List.mem_cons.mp ha
    · exact he
    · exact (mem_atomsOf.mp (above_sub (mem_above.mp ha).2 i (mem_atomsOf.mpr ⟨hi, he⟩))).2
theorem Tame.path_way {i : Nat} (hi : i < q.atoms.length) {e : Str} (he : (q.at i).own.Perm (e :: q.above e)) (hab : ∀ a ∈ (q.at i).own, a ≠ e → q.isAbove a e = true) : q.path e = q.way i := by
  obtain ⟨hne, hnd, hsub⟩ := t.own i hi
  have heo : e ∈ (q.at i).own := he.mem_iff.mpr List.mem_cons_self
  have inj : ∀ a ∈ (q.at i).own, ∀ b ∈ (q.at i).own, (q.path a).length = (q.path b).length → a = b := fun a ha b hb h => by
    rw [pathLen, pathLen] at h
    by_cases x : a = b
    · exact x
    · rcases t.cmp (hsub a ha) (hsub b hb) x (mem_atomsOf.mpr ⟨hi, ha⟩) (mem_atomsOf.mpr ⟨hi, hb⟩) with h' | h'
      · have := t.lt (hsub a ha) h'; omega
      · have := t.lt (hsub b hb) h'; omega
  have p1 : (q.path e).Perm (q.at i).own := by
    unfold Qn.path
    refine List.Perm.trans ?_ he.symm
    exact (List.perm_append_singleton _ _).trans ((List.mergeSort_perm _ _).cons _)
  have p2 : (q.way i).Perm (q.at i).own := List.mergeSort_perm _ _
  have s2 : (q.way i).Pairwise fun a b => (q.path a).length ≤ (q.path b).length := by
    have := List.pairwise_mergeSort (le := fun a b => decide ((q.path a).length ≤ (q.path b).length)) (fun a b c h1 h2 => by simp only [decide_eq_true_eq] at *; omega) (fun a b => by simp only [Bool.or_eq_true, decide_eq_true_eq]; omega) (q.at i).own
    exact this.imp fun h => by simpa using h
  have s1 : (q.path e).Pairwise fun a b => (q.path a).length ≤ (q.path b).length := by
    have := List.pairwise_mergeSort (le := fun a b => decide ((q.above a).length ≤ (q.above b).length)) (fun a b c h1 h2 => by simp only [decide_eq_true_eq] at *; omega) (fun a b => by simp only [Bool.or_eq_true, decide_eq_true_eq]; omega) (q.above e)
    unfold Qn.path
    refine List.pairwise_append.mpr ⟨this.imp fun {a b} h => ?_, List.pairwise_singleton _ _, fun a ha b hb => ?_⟩
    · have h : (q.above a).length ≤ (q.above b).length := by simpa using h
      have h1 := pathLen q a
      have h2 := pathLen q b
      unfold Qn.path at h1 h2
      omega
    · rw [List.mem_singleton.mp hb]
      have ha := List.mem_mergeSort.mp ha
      have := t.lt (mem_above.mp ha).1 (mem_above.mp ha).2
      have h1 := pathLen q a
      have h2 := pathLen q e
      unfold Qn.path at h1 h2
      omega
  exact List.Perm.eq_of_pairwise (fun a b ha hb h1 h2 => inj a (p1.mem_iff.mp ha) b (p2.mem_iff.mp hb) (Nat.le_antisymm h1 h2)) s1 s2 (p1.trans p2.symm)
theorem Tame.nst : Nst q := by
  refine ⟨t.cnt, fun i hi => ?_⟩
  obtain ⟨e, he, hp, hab⟩ := t.low hi
  have hl : (q.path e).length = (q.at i).own.length := by rw [pathLen, hp.length_eq, List.length_cons]
  have hf : e ∈ (q.at i).own.filter fun c => decide ((q.path c).length = (q.at i).own.length) := List.mem_filter.mpr ⟨he, by simpa using hl⟩
  have hall : ∀ x ∈ (q.at i).own.filter (fun c => decide ((q.path c).length = (q.at i).own.length)), x = e := fun x hx => by
    obtain ⟨h1, h2⟩ := List.mem_filter.mp hx
    have h2 : (q.path x).length = (q.at i).own.length := by simpa using h2
    by_cases z : x = e
    · exact z
    · have h3 := t.lt ((t.own i hi).2.2 x h1) (hab x h1 z)
      rw [pathLen] at h2 hl
      omega
  refine ⟨e, ?_, t.path_way hi hp hab⟩
  cases h : (q.at i).own.filter fun c => decide ((q.path c).length = (q.at i).own.length) with
  | nil => rw [h] at hf; cases hf
  | cons x l => rw [List.head?_cons, hall x (by rw [h]; exact List.mem_cons_self)]
theorem Tame.own5 {i : Nat} (hi : i < q.atoms.length) : (q.at i).own.length ≤ 5 := by
  obtain ⟨hne, hnd, hsub⟩ := t.own i hi
  exact Nat.le_trans (sub_len hnd hsub) t.fc
theorem Tame.gd : Gd q := by
  refine ⟨fun a ha => ?_, Nat.le_trans t.fc (by decide), Nat.le_trans t.fa (by decide), fun a ha => ?_⟩
  · obtain ⟨i, hi, e⟩ := mem_at ha
    have := t.own i hi
    rw [e] at this
    exact ⟨this.1, this.2.2⟩
  · obtain ⟨i, hi, e⟩ := mem_at ha
    have := t.own5 hi
    rw [e] at this
    omega
theorem Tame.thru_len {c : Str} (hc : c ∈ q.cols) {i : Nat} (hi : i ∈ q.atomsOf c) : (q.above c).length < (q.at i).own.length := by
  obtain ⟨h1, h2⟩ := mem_atomsOf.mp hi
  obtain ⟨e, he, hp, hab⟩ := t.low h1
  rw [hp.length_eq, List.length_cons]
  by_cases z : c = e
  · rw [z]; omega
  · have := t.lt hc (hab c h2 z); omega
end
end E
/-! the nearest on sorted rows; what is told, as the law tells it -/
namespace E
open PySem L2
theorem lex_behind : ∀ {p a b : List Int}, a.take p.length = p → b.take p.length = p → p.length < a.length → p.length < b.length → a ≤ b → a.getD p.length 0 ≤ b.getD p.length 0
  | [], x :: a, y :: b, _, _, _, _, h => by
    rcases List.cons_le_cons_iff.mp h with h | h
    · exact Int.le_of_lt h
    · exact Int.le_of_eq h.1
  | z :: p, x :: a, y :: b, h1, h2, l1, l2, h => by
    simp only [List.length_cons, List.take_succ_cons, List.cons.injEq] at h1 h2 l1 l2
    rcases List.cons_le_cons_iff.mp h with h | h
    · rw [h1.1, h2.1] at h; exact absurd h (Int.lt_irrefl _)
    · have := lex_behind h1.2 h2.2 (by omega) (by omega) h.2
      simpa using this
  | [], [], _, _, _, l1, _, _ => by simp at l1
  | [], _ :: _, [], _, _, _, l2, _ => by simp at l2
  | _ :: _, [], _, _, _, l1, _, _ => by simp at l1
  | _ :: _, _ :: _, [], _, _, _, l2, _ => by simp at l2
/-- sorted rows, long enough -/
structure Srt (rows : List (List Int)) (n : Nat) : Prop where
  le : rows.Pairwise (· ≤ ·)
  len : ∀ r ∈ rows, r.length = n
theorem Srt.vals {rows : List (List Int)} {n : Nat} (s : Srt rows n) {p : List Int} (hp : p.length < n) : (valsBehind rows p).Pairwise (· ≤ ·) := by
  unfold valsBehind
  refine List.pairwise_map.mpr ((s.le.filter _).imp_of_mem fun {a b} ha hb h => ?_)
  obtain ⟨a1, a2⟩ := List.mem_filter.mp ha
  obtain ⟨b1, b2⟩ := List.mem_filter.mp hb
  exact lex_behind (by simpa using a2) (by simpa using b2) (by rw [s.len a a1]; exact hp) (by rw [s.len b b1]; exact hp) h
theorem rows_srt (q : Qn) (tb : Tbs) (i : Nat) : Srt (rowsOf q tb i) (q.at i).own.length := by
  refine ⟨?_, rows_len q tb i⟩
  unfold rowsOf
  have := List.pairwise_mergeSort (le := fun a b : List Int => decide (a ≤ b)) (fun a b c h1 h2 => by simp only [decide_eq_true_eq] at *; exact List.le_trans h1 h2) (fun a b => by simp only [Bool.or_eq_true, decide_eq_true_eq]; exact List.le_total a b) ((rowsIn tb (q.at i).name).map fun r => (q.way i).map fun c => r.getD ((q.at i).own.idxOf c) 0)
  exact this.imp fun h => by simpa using h
theorem same_head {l m : List Int} (hl : l.Pairwise (· ≤ ·)) (hm : m.Pairwise (· ≤ ·)) (h : ∀ x, x ∈ l ↔ x ∈ m) : l.head? = m.head? := by
  cases l with
  | nil => cases m with
    | nil => rfl
    | cons y m => have := (h y).mpr List.mem_cons_self; cases this
  | cons x l => cases m with
    | nil => have := (h x).mp List.mem_cons_self; cases this
    | cons y m =>
      obtain ⟨l1, _⟩ := List.pairwise_cons.mp hl
      obtain ⟨m1, _⟩ := List.pairwise_cons.mp hm
      have h1 : y ≤ x := by
        rcases List.mem_cons.mp ((h x).mp List.mem_cons_self) with e | e
        · omega
        · exact m1 x e
      have h2 : x ≤ y := by
        rcases List.mem_cons.mp ((h y).mpr List.mem_cons_self) with e | e
        · omega
        · exact l1 y e
      rw [List.head?_cons, List.head?_cons, Int.le_antisymm h2 h1]
theorem same_last {l m : List Int} (hl : l.Pairwise (· ≤ ·)) (hm : m.Pairwise (· ≤ ·)) (h : ∀ x, x ∈ l ↔ x ∈ m) : l.getLast? = m.getLast? := by
  have key : ∀ {l : List Int} {a : Int}, l.Pairwise (· ≤ ·) → l.getLast? = some a → a ∈ l ∧ ∀ x ∈ l, x ≤ a := fun {l a} hp e => by
    obtain ⟨ys, hl⟩ := List.getLast?_eq_some_iff.mp e
    refine ⟨by rw [hl]; simp, fun x hx => ?_⟩
    rw [hl] at hx hp
    obtain hx | hx := List.mem_append.mp hx
    · exact (List.pairwise_append.mp hp).2.2 x hx a (by simp)
    · rw [List.mem_singleton.mp hx]; exact Int.le_refl _
  cases e1 : l.getLast? with
  | none =>
    rw [List.getLast?_eq_none_iff] at e1
    subst e1
    cases m with
    | nil => rfl
    | cons y m => have := (h y).mpr List.mem_cons_self; cases this
  | some a =>
    obtain ⟨a1, a2⟩ := key hl e1
    cases e2 : m.getLast? with
    | none =>
      rw [List.getLast?_eq_none_iff] at e2
      subst e2
      have := (h a).mp a1
      cases this
    | some b =>
      obtain ⟨b1, b2⟩ := key hm e2
      rw [Int.le_antisymm (b2 a ((h a).mp a1)) (a2 b ((h b).mpr b1))]
theorem lt_le {l : List Int} (h : l.Pairwise (· < ·)) : l.Pairwise (· ≤ ·) := h.imp fun h => Int.le_of_lt h
theorem near_law {rows : List (List Int)} {p : List Int} (hs : (valsBehind rows p).Pairwise (· ≤ ·)) (x : Option Int) : near rows p x = (!outO (lawVals rows p) x, lawGap (lawVals rows p) x) := by
  have hu := lt_le (pw_uniqV (valsBehind rows p))
  cases x with
  | none =>
    show (false, none, (valsBehind rows p).head?) = (false, none, (uniqV (valsBehind rows p)).head?)
    rw [same_head hs hu fun x => (mem_uniqV).symm]
  | some x =>
    show (decide (x ∈ valsBehind rows p), ((valsBehind rows p).filter fun v => decide (v < x)).getLast?, ((valsBehind rows p).filter fun v => decide (x < v)).head?) = (!(!decide (x ∈ uniqV (valsBehind rows p))), ((uniqV (valsBehind rows p)).filter fun v => decide (v < x)).getLast?, ((uniqV (valsBehind rows p)).filter fun v => decide (x < v)).head?)
    have e1 : decide (x ∈ valsBehind rows p) = decide (x ∈ uniqV (valsBehind rows p)) := by rw [decide_eq_decide]; exact mem_uniqV.symm
    rw [Bool.not_not, e1, same_last (hs.filter fun v => decide (v < x)) (hu.filter fun v => decide (v < x)) (fun y => by simp only [List.mem_filter, mem_uniqV]), same_head (hs.filter fun v => decide (x < v)) (hu.filter fun v => decide (x < v)) (fun y => by simp only [List.mem_filter, mem_uniqV])]
/-- one gap against the best so far -/
def bestG : Option Gap → Gap → Option Gap
  | none, g => some g
  | some b, g => some (farG b g)
theorem farther_gap (b : Option Gap) (a : Nat) (lo hi : Option Int) : farther b a (.gap lo hi) = bestG b ⟨a, lo, hi⟩ := by
  cases b with
  | none => rfl
  | some b =>
    cases b with
    | mk ba blo bhi =>
      unfold farther bestG farG
      cases bhi <;> cases hi <;> simp
      split <;> rfl
theorem tell_at {R : Nat → List (List Int)} {a : Nat} {p : List Int} (hs : (valsBehind (R a) p).Pairwise (· ≤ ·)) (x : Option Int) (b : Option Gap) : farther b a (tell R (.at3 a p x)) = if outO (lawVals (R a) p) x then bestG b ⟨a, (lawGap (lawVals (R a) p) x).1, (lawGap (lawVals (R a) p) x).2⟩ else b := by
  show farther b a (if (near (R a) p x).1 then .there else .gap (near (R a) p x).2.1 (near (R a) p x).2.2) = _
  rw [near_law hs]
  cases h : outO (lawVals (R a) p) x with
  | true => simp [farther_gap]
  | false => simp; unfold farther; rfl
theorem best_fold : ∀ (l : List Gap) (b : Option Gap), l.foldl bestG b = match b, l with
    | none, [] => none
    | none, g :: gs => some (gs.foldl farG g)
    | some b, l => some (l.foldl farG b)
  | [], none => rfl
  | [], some b => rfl
  | g :: gs, none => by
    rw [List.foldl_cons]
    show gs.foldl bestG (some g) = _
    rw [best_fold gs (some g)]
  | g :: gs, some b => by
    rw [List.foldl_cons]
    show gs.foldl bestG (some (farG b g)) = _
    rw [best_fold gs (some (farG b g))]
    rfl
theorem far_mem : ∀ (l : List Gap) (b : Gap), l.foldl farG b = b ∨ l.foldl farG b ∈ l
  | [], b => .inl rfl
  | g :: gs, b => by
    rw [List.foldl_cons]
    have h1 : farG b g = b ∨ farG b g = g := by
      unfold farG
      split
      · exact .inl rfl
      · exact .inr rfl
      · split
        · exact .inr rfl
        · exact .inl rfl
    rcases far_mem gs (farG b g) with h | h
    · rcases h1 with e | e
      · rw [e] at h ⊢; exact .inl h
      · rw [e] at h ⊢; exact .inr (by rw [h]; exact List.mem_cons_self)
    · exact .inr (List.mem_cons_of_mem _ h)
end E
/-! the machine goes through a column as the law's loop says -/
namespace E
open PySem L2
section
variable (q : Qn) (R : Nat → List (List Int)) (n : Nat)
inductive CSteps : Cst → List Look → Cst → Prop
  | nil (c) : CSteps c [] c
  | cons (c l c' ls c'') : CW q (SWn q n) c l → l.ok q → CB q (SBn q n) c (tell R l) c' → CSteps c' ls c'' → CSteps c (l :: ls) c''
structure ColOk (c : Str) (p : List Int) : Prop where
  gd : Gd q
  hc : c ∈ q.cols
  hp : p.length ≤ 1000
  ne : q.thru c ≠ []
  at' : ∀ i ∈ q.thru c, i < q.atoms.length ∧ p.length < (q.at i).own.length
  en : ∀ i ∈ q.ends c, i < q.atoms.length
  hs : ∀ i ∈ q.thru c, (valsBehind (R i) p).Pairwise (· ≤ ·)
end
section
variable {q : Qn} {R : Nat → List (List Int)} {n : Nat}
theorem CSteps.app {a b c : Cst} {l m : List Look} (h : CSteps q R n a l b) (h2 : CSteps q R n b m c) : CSteps q R n a (l ++ m) c := by
  induction h with
  | nil c => exact h2
  | cons c l c' ls c'' h1 h2' h3 _ ih => exact .cons _ _ _ _ _ h1 h2' h3 (ih h2)
theorem getD_mid {α : Type} {l pre suf : List α} {a d : α} (h : l = pre ++ a :: suf) : l.getD pre.length d = a ∧ pre.length < l.length := by
  subst h
  simp
def Lv.app (l : Lv) (G : List Gap) (V B : List (Int × D)) : Lv := ⟨l.gaps ++ G, l.vals ++ V, l.br ++ B⟩
theorem put_app (lv : Lv) (v : Int) (w s : D) (G : List Gap) (V B : List (Int × D)) : (lv.put v w s).app G V B = lv.app G ((v, w) :: V) (match s with | .non => B | s => (v, s) :: B) := by
  cases s <;> simp [Lv.put, Lv.app]
theorem put_sz (lv : Lv) (v : Int) (w s : D) : (lv.put v w s).sz ≤ lv.sz + 2 ∧ (s = .non → (lv.put v w s).sz ≤ lv.sz + 1) := by
  cases s <;> simp [Lv.put, Lv.sz] <;> omega
theorem going_is (c : Str) (p : List Int) (y : Int) (lv : Lv) : q.going c p (some y) lv = if inRange q c (some y) then .has c p (some y) 0 none lv else .fin c p lv := by
  unfold Qn.going inRange
  cases h : (q.rangeOf c).2 with
  | none => rfl
  | some z =>
    simp only []
    by_cases z < y
    · rw [if_pos ‹_›, if_neg (by simp; omega)]
    · rw [if_neg ‹_›, if_pos (by simp; omega)]
def stepG (R : Nat → List (List Int)) (p : List Int) (x : Option Int) (b : Option Gap) (a : Nat) : Option Gap := farther b a (tell R (.at3 a p x))
theorem has_steps {c : Str} {p : List Int} (ok : ColOk q R c p) {x : Option Int} {lv : Lv} (hl : lv.sz ≤ 1000000) : ∀ (suf pre : List Nat) (b : Option Gap), q.thru c = pre ++ suf → suf ≠ [] → (x = none → suf.foldl (stepG R p x) b ≠ none) →
    CSteps q R n (.has c p x pre.length b lv) (suf.map fun i => .at3 i p x) (q.hasEnd c p lv x (suf.foldl (stepG R p x) b))
  | [], _, _, _, h, _ => absurd rfl h
  | [a], pre, b, e, _, hn => by
    obtain ⟨g, hlt⟩ := getD_mid (d := 0) e
    have ha := ok.at' a (by rw [e]; simp)
    have hst : StOk q c p lv := ⟨ok.gd, ok.hc, hl, ok.hp⟩
    have hlen : pre.length + 1 = (q.thru c).length := by rw [e]; simp
    have h1 : CW q (SWn q n) (.has c p x pre.length b lv) (.at3 a p x) := by
      have := CW.has (q := q) (W := SWn q n) c p x pre.length b lv hst hlt
      rwa [g] at this
    have h2 : CB q (SBn q n) (.has c p x pre.length b lv) (tell R (.at3 a p x)) (q.hasEnd c p lv x (farther b a (tell R (.at3 a p x)))) := by
      have := CB.hasEnd (q := q) (SB := SBn q n) c p x pre.length b lv (tell R (.at3 a p x)) hst hlen (by rw [g]; exact hn)
      rwa [g] at this
    exact .cons _ _ _ _ _ h1 ha h2 (.nil _)
  | a :: a2 :: suf, pre, b, e, _, hn => by
    obtain ⟨g, hlt⟩ := getD_mid (d := 0) e
    have ha := ok.at' a (by rw [e]; simp)
    have hst : StOk q c p lv := ⟨ok.gd, ok.hc, hl, ok.hp⟩
    have hlen : pre.length + 1 < (q.thru c).length := by rw [e]; simp
    have h1 : CW q (SWn q n) (.has c p x pre.length b lv) (.at3 a p x) := by
      have := CW.has (q := q) (W := SWn q n) c p x pre.length b lv hst hlt
      rwa [g] at this
    have h2 : CB q (SBn q n) (.has c p x pre.length b lv) (tell R (.at3 a p x)) (.has c p x (pre.length + 1) (farther b a (tell R (.at3 a p x))) lv) := by
      have := CB.hasGo (q := q) (SB := SBn q n) c p x pre.length b lv (tell R (.at3 a p x)) hst hlen
      rwa [g] at this
    have ih := has_steps ok hl (a2 :: suf) (pre ++ [a]) (stepG R p x b a) (by rw [e]; simp) (by simp) hn
    rw [List.length_append] at ih
    exact .cons _ _ _ _ _ h1 ha h2 ih
theorem fold_gaps {p : List Int} {x : Option Int} : ∀ (l : List Nat) (b : Option Gap), (∀ i ∈ l, (valsBehind (R i) p).Pairwise (· ≤ ·)) →
    l.foldl (stepG R p x) b = ((l.filter fun i => outO (lawVals (R i) p) x).map fun i => (⟨i, (lawGap (lawVals (R i) p) x).1, (lawGap (lawVals (R i) p) x).2⟩ : Gap)).foldl bestG b
  | [], _, _ => rfl
  | a :: l, b, h => by
    have e : stepG R p x b a = if outO (lawVals (R a) p) x then bestG b ⟨a, (lawGap (lawVals (R a) p) x).1, (lawGap (lawVals (R a) p) x).2⟩ else b := tell_at (h a List.mem_cons_self) x b
    rw [List.foldl_cons, fold_gaps l _ fun i hi => h i (List.mem_cons_of_mem _ hi), e, List.filter_cons]
    cases outO (lawVals (R a) p) x with
    | true => simp
    | false => simp
theorem has_all {c : Str} {p : List Int} (ok : ColOk q R c p) {x : Option Int} {lv : Lv} (hl : lv.sz ≤ 1000000) : CSteps q R n (.has c p x 0 none lv) (hasLooks q c p x) (q.hasEnd c p lv x (match gapsAt q R c p x with | [] => none | g :: gs => some (gs.foldl farG g))) := by
  have hf := fold_gaps (x := x) (q.thru c) none ok.hs
  have e : (match gapsAt q R c p x with | [] => none | g :: gs => some (gs.foldl farG g)) = (q.thru c).foldl (stepG R p x) none := by
    rw [hf, best_fold]
    unfold gapsAt
    split <;> rename_i h <;> rw [h]
  rw [e]
  refine has_steps ok hl (q.thru c) [] none rfl ok.ne fun hx => ?_
  rw [← e]
  subst hx
  unfold gapsAt
  have : (q.thru c).filter (fun i => outO (lawVals (R i) p) none) = q.thru c := List.filter_eq_self.mpr fun _ _ => rfl
  rw [this]
  cases h : q.thru c with
  | nil => exact absurd h ok.ne
  | cons a l => simp
theorem no_none {c : Str} {p : List Int} (ok : ColOk q R c p) {v : Int} {lv : Lv} (hl : lv.sz ≤ 1000000) : ∀ (suf pre : List Nat), q.ends c = pre ++ suf → suf ≠ [] → (∀ i ∈ suf, ¬ (p ++ [v]) ∈ R i) →
    CSteps q R n (.no c p v pre.length lv) (suf.map fun i => .row i (p ++ [v])) (q.below c p v lv)
  | [], _, _, h, _ => absurd rfl h
  | [a], pre, e, _, hn => by
    obtain ⟨g, hlt⟩ := getD_mid (d := 0) e
    have hst : StOk q c p lv := ⟨ok.gd, ok.hc, hl, ok.hp⟩
    have hlen : pre.length + 1 = (q.ends c).length := by rw [e]; simp
    have ht : tell R (.row a (p ++ [v])) = .away := if_neg (hn a List.mem_cons_self)
    have h1 : CW q (SWn q n) (.no c p v pre.length lv) (.row a (p ++ [v])) := by
      have := CW.no (q := q) (W := SWn q n) c p v pre.length lv hst hlt
      rwa [g] at this
    exact .cons _ _ _ _ _ h1 (ok.en a (by rw [e]; simp)) (CB.noEnd c p v pre.length lv _ hst (by rw [ht]; intro h; cases h) hlen) (.nil _)
  | a :: a2 :: suf, pre, e, _, hn => by
    obtain ⟨g, hlt⟩ := getD_mid (d := 0) e
    have hst : StOk q c p lv := ⟨ok.gd, ok.hc, hl, ok.hp⟩
    have hlen : pre.length + 1 < (q.ends c).length := by rw [e]; simp
    have ht : tell R (.row a (p ++ [v])) = .away := if_neg (hn a List.mem_cons_self)
    have h1 : CW q (SWn q n) (.no c p v pre.length lv) (.row a (p ++ [v])) := by
      have := CW.no (q := q) (W := SWn q n) c p v pre.length lv hst hlt
      rwa [g] at this
    have ih := no_none ok hl (a2 :: suf) (pre ++ [a]) (by rw [e]; simp) (by simp) fun i hi => hn i (List.mem_cons_of_mem _ hi)
    rw [List.length_append] at ih
    exact .cons _ _ _ _ _ h1 (ok.en a (by rw [e]; simp)) (CB.noGo c p v pre.length lv _ hst (by rw [ht]; intro h; cases h) hlen) ih
theorem no_bar {c : Str} {p : List Int} (ok : ColOk q R c p) {v : Int} {lv : Lv} (hl : lv.sz ≤ 1000000) {b : Nat} {suf2 : List Nat} (hb : (p ++ [v]) ∈ R b) : ∀ (suf pre : List Nat), q.ends c = pre ++ (suf ++ b :: suf2) → (∀ i ∈ suf, ¬ (p ++ [v]) ∈ R i) →
    CSteps q R n (.no c p v pre.length lv) ((suf ++ [b]).map fun i => .row i (p ++ [v])) (q.going c p (some (v + 1)) (lv.put v (rowD b) .non))
  | [], pre, e, _ => by
    obtain ⟨g, hlt⟩ := getD_mid (d := 0) e
    have hst : StOk q c p lv := ⟨ok.gd, ok.hc, hl, ok.hp⟩
    have ht : tell R (.row b (p ++ [v])) = .there := if_pos hb
    have h1 : CW q (SWn q n) (.no c p v pre.length lv) (.row b (p ++ [v])) := by
      have := CW.no (q := q) (W := SWn q n) c p v pre.length lv hst hlt
      rwa [g] at this
    have h2 : CB q (SBn q n) (.no c p v pre.length lv) (tell R (.row b (p ++ [v]))) (q.going c p (some (v + 1)) (lv.put v (rowD b) .non)) := by
      have := CB.noRow (q := q) (SB := SBn q n) c p v pre.length lv hst hlt
      rw [g] at this
      rw [ht]
      exact this
    exact .cons _ _ _ _ _ h1 (ok.en b (by rw [e]; simp)) h2 (.nil _)
  | a :: suf, pre, e, hn => by
    obtain ⟨g, hlt⟩ := getD_mid (d := 0) e
    have hst : StOk q c p lv := ⟨ok.gd, ok.hc, hl, ok.hp⟩
    have hlen : pre.length + 1 < (q.ends c).length := by rw [e]; simp; omega
    have ht : tell R (.row a (p ++ [v])) = .away := if_neg (hn a List.mem_cons_self)
    have h1 : CW q (SWn q n) (.no c p v pre.length lv) (.row a (p ++ [v])) := by
      have := CW.no (q := q) (W := SWn q n) c p v pre.length lv hst hlt
      rwa [g] at this
    have ih := no_bar (suf2 := suf2) ok hl hb suf (pre ++ [a]) (by rw [e]; simp) fun i hi => hn i (List.mem_cons_of_mem _ hi)
    rw [List.length_append] at ih
    exact .cons _ _ _ _ _ h1 (ok.en a (by rw [e]; simp)) (CB.noGo c p v pre.length lv _ hst (by rw [ht]; intro h; cases h) hlen) ih
theorem ends_up (q : Qn) (c : Str) : (q.ends c).Pairwise (· < ·) := by
  unfold Qn.ends Qn.atomsOf
  exact (List.pairwise_lt_range.filter _).filter _
theorem asked_bar {c : Str} {p : List Int} {v : Int} {b : Nat} {bs : List Nat} (h : barred q R c p v = b :: bs) : ∃ suf suf2, q.ends c = suf ++ b :: suf2 ∧ (∀ i ∈ suf, ¬ (p ++ [v]) ∈ R i) ∧ (p ++ [v]) ∈ R b ∧ asked q R c p v = suf ++ [b] := by
  have h' := h
  unfold barred at h'
  obtain ⟨l1, l2, e, h1, h2, _⟩ := List.filter_eq_cons_iff.mp h'
  refine ⟨l1, l2, e, fun i hi hx => h1 i hi (by simpa using hx), by simpa using h2, ?_⟩
  unfold asked
  rw [h]
  simp only []
  have hp := ends_up q c
  rw [e] at hp ⊢
  obtain ⟨_, hp2, hp3⟩ := List.pairwise_append.mp hp
  rw [List.filter_append, List.filter_eq_self.mpr fun i hi => by have := hp3 i hi b List.mem_cons_self; simp; omega, List.filter_cons_of_pos (by simp), List.filter_eq_nil_iff.mpr fun i hi => by have := (List.pairwise_cons.mp hp2).1 i hi; simp; omega]
theorem onto_run {c : Str} {p : List Int} {x : Int} {lv : Lv} (hst : StOk q c p lv) (st : Sst) (M : List Look) (s w : D) (h : Runs q R n st M s w) : CSteps q R n (q.onto c p x lv st) M (q.going c p (some (x + 1)) (lv.put x w s)) := by
  induction h with
  | done s w => exact .nil _
  | step st l st' ls s w h1 h2 h3 _ ih =>
    have e : q.onto c p x lv st = .low c p x lv st := by
      obtain ⟨i, ps, rfl⟩ := swn_run h1
      rfl
    rw [e]
    exact .cons _ _ _ _ _ (CW.low c p x lv st l h1) h2 (CB.low c p x lv st _ st' hst h3) ih
theorem row_part {c : Str} {p : List Int} (ok : ColOk q R c p) {v : Int} {lv : Lv} (hl : lv.sz ≤ 1000000) (hg : gapsAt q R c p (some v) = []) :
    CSteps q R n (.has c p (some v) 0 none lv) (hasLooks q c p (some v)) (if q.ends c = [] then q.below c p v lv else .no c p v 0 lv) := by
  have h := has_all (n := n) ok (x := some v) hl
  rw [hg] at h
  exact h
theorem loop_steps {c : Str} {p : List Int} (ok : ColOk q R c p) {Sub : List Int → D → D → List Look → Prop} (hsub : ∀ p' s w M, Sub p' s w M → Runs q R n (q.sibs (q.kids (some c)) p') M s w)
    {x : Option Int} {G : List Gap} {V B : List (Int × D)} {L : List Look} (h : Loop q R Sub c p x G V B L) : ∀ lv : Lv, lv.sz + G.length + V.length + B.length ≤ 1000000 →
    (inRange q c x = true → CSteps q R n (.has c p x 0 none lv) L (.fin c p (lv.app G V B))) ∧ (inRange q c x = false → L = [] ∧ G = [] ∧ V = [] ∧ B = []) := by
  have go : ∀ {y : Int} {G : List Gap} {V B : List (Int × D)} {L : List Look} {lv : Lv}, ((inRange q c (some y) = true → CSteps q R n (.has c p (some y) 0 none lv) L (.fin c p (lv.app G V B))) ∧ (inRange q c (some y) = false → L = [] ∧ G = [] ∧ V = [] ∧ B = [])) → CSteps q R n (q.going c p (some y) lv) L (.fin c p (lv.app G V B)) := fun {y G V B L lv} h => by
    rw [going_is]
    cases e : inRange q c (some y) with
    | true => rw [if_pos rfl]; exact h.1 e
    | false =>
      obtain ⟨rfl, rfl, rfl, rfl⟩ := h.2 e
      rw [if_neg (by simp)]
      have : lv.app [] [] [] = lv := by simp [Lv.app]
      rw [this]
      exact .nil _
  induction h with
  | out x h => intro lv _; exact ⟨(fun h2 => by rw [h] at h2; cases h2), fun _ => ⟨rfl, rfl, rfl, rfl⟩⟩
  | gapEnd x g gs h1 h2 h3 =>
    intro lv hl
    refine ⟨fun _ => ?_, (fun h4 => by rw [h1] at h4; cases h4)⟩
    have h := has_all (n := n) ok (x := x) (lv := lv) (by simp at hl; omega)
    rw [h2] at h
    simp only [Qn.hasEnd, h3] at h
    have e : lv.app [gs.foldl farG g] [] [] = ⟨lv.gaps ++ [gs.foldl farG g], lv.vals, lv.br⟩ := by simp [Lv.app]
    rw [e]
    exact h
  | gapGo x g gs y G V B L h1 h2 h3 hL ih =>
    intro lv hl
    refine ⟨fun _ => ?_, (fun h4 => by rw [h1] at h4; cases h4)⟩
    simp only [List.length_cons] at hl
    have h := has_all (n := n) ok (x := x) (lv := lv) (by omega)
    rw [h2] at h
    simp only [Qn.hasEnd, h3] at h
    have e : lv.app (gs.foldl farG g :: G) V B = (⟨lv.gaps ++ [gs.foldl farG g], lv.vals, lv.br⟩ : Lv).app G V B := by simp [Lv.app]
    rw [e]
    exact h.app (go (ih _ (by simp [Lv.sz] at hl ⊢; omega)))
  | row v b bs G V B L h1 h2 h3 hL ih =>
    intro lv hl
    refine ⟨fun _ => ?_, (fun h4 => by rw [h1] at h4; cases h4)⟩
    simp only [List.length_cons] at hl
    obtain ⟨suf, suf2, e1, e2, e3, e4⟩ := asked_bar h3
    have r := row_part (n := n) ok (lv := lv) (by omega) h2
    rw [if_neg (by rw [e1]; simp)] at r
    have r2 := no_bar (n := n) ok (lv := lv) (by omega) e3 suf [] e1 e2
    have e : lv.app G ((v, rowD b) :: V) B = (lv.put v (rowD b) .non).app G V B := by rw [put_app]
    have e5 : rowLooks q R c p v = (suf ++ [b]).map fun i => .row i (p ++ [v]) := by unfold rowLooks; rw [e4]
    have := (put_sz lv v (rowD b) .non).2 rfl
    rw [e, e5]
    exact r.app (r2.app (go (ih _ (by omega))))
  | sub v s w M G V B L h1 h2 h3 hS hL ih =>
    intro lv hl
    refine ⟨fun _ => ?_, (fun h4 => by rw [h1] at h4; cases h4)⟩
    have hle : lv.sz ≤ 1000000 := by omega
    have r := row_part (n := n) ok hle h2
    have hst : StOk q c p lv := ⟨ok.gd, ok.hc, hle, ok.hp⟩
    have r3 := onto_run (x := v) hst _ M s w (hsub _ s w M hS)
    have hz : (lv.put v w s).sz + G.length + V.length + B.length ≤ 1000000 := by
      cases s <;> simp only [Lv.put, Lv.sz, List.length_append, List.length_cons, List.length_nil] at hl ⊢ <;> omega
    have fin := go (ih _ hz)
    rw [put_app] at fin
    have hnb : ∀ i ∈ q.ends c, ¬ (p ++ [v]) ∈ R i := fun i hi hx => by
      have : i ∈ barred q R c p v := List.mem_filter.mpr ⟨hi, by simpa using hx⟩
      rw [h3] at this
      cases this
    have ea : rowLooks q R c p v = (q.ends c).map fun i => .row i (p ++ [v]) := by unfold rowLooks asked; rw [h3]
    by_cases he : q.ends c = []
    · rw [if_pos he] at r
      rw [ea, he]
      exact r.app (r3.app fin)
    · rw [if_neg he] at r
      rw [ea]
      exact r.app ((no_none ok hle (q.ends c) [] rfl he hnb).app (r3.app fin))
end
end E
/-! the machine's turns over siblings are the law's -/
namespace E
open PySem L2
def evsFrom (rs : List Cr) (t i : Nat) : List (Nat × Nat) := ((List.range' i (rs.length - i)).filter fun j => decide (t < lenAt rs j)).map (fun j => (t, j)) ++ (List.range' (t + 1) (maxL rs - (t + 1))).flatMap (round rs)
def outOf (rs : List Cr) : Option (Nat × Nat) → D × D
  | some e => (.non, oneD rs e.2)
  | none => (.tup (rs.map fun r => .tup (r.B.map pD)), .tup [.str "all", .tup (rs.map fun r => r.lv.d2)])
theorem lenAt_le (rs : List Cr) (j : Nat) : lenAt rs j ≤ maxL rs := by
  unfold lenAt
  cases h : rs[j]? with
  | none => exact Nat.zero_le _
  | some r => exact (maxL_foldl rs 0).2.1 r (List.mem_of_getElem? h)
theorem filter_rng {f : Nat → Bool} {s k j : Nat} {rest : List Nat} (h : (List.range' s k).filter f = j :: rest) : s ≤ j ∧ j < s + k ∧ f j = true ∧ (∀ m, s ≤ m → m < j → f m = false) ∧ rest = (List.range' (j + 1) (s + k - (j + 1))).filter f := by
  obtain ⟨l1, l2, e, h1, h2, h3⟩ := List.filter_eq_cons_iff.mp h
  obtain ⟨m, hm, e1, e2⟩ := List.range'_eq_append_iff.mp e
  obtain ⟨e3, e4, e5⟩ := List.range'_eq_cons_iff.mp e2.symm
  subst e1
  subst e5
  refine ⟨by omega, by omega, h2, fun x hx1 hx2 => ?_, ?_⟩
  · have := h1 x (List.mem_range'_1.mpr ⟨hx1, by omega⟩)
    simpa using this
  · rw [← h3]
    congr 2
    omega
theorem filter_rng0 {f : Nat → Bool} {s k : Nat} (h : (List.range' s k).filter f = []) : ∀ m, s ≤ m → m < s + k → f m = false := fun m h1 h2 => by
  have := List.filter_eq_nil_iff.mp h m (List.mem_range'_1.mpr ⟨h1, h2⟩)
  simpa using this
section
variable {q : Qn} {R : Nat → List (List Int)} {n : Nat}
theorem csteps_nil {a b : Cst} (h : CSteps q R n a [] b) : a = b := by cases h; rfl
theorem csteps_cons {a b : Cst} {l : Look} {ls : List Look} (h : CSteps q R n a (l :: ls) b) : a.done = false ∧ CW q (SWn q n) a l ∧ l.ok q ∧ ∃ c', CB q (SBn q n) a (tell R l) c' ∧ CSteps q R n c' ls b := by
  cases h with
  | cons _ _ c' _ _ h1 h2 h3 h4 => exact ⟨by cases h1 <;> rfl, h1, h2, c', h3, h4⟩
variable (q R n) in
structure Parts (rs : List Cr) (p : List Int) (parts : List Cst) (t i : Nat) : Prop where
  len : parts.length = rs.length
  st : ∀ (j : Nat) (r : Cr), rs[j]? = some r → ∃ c' d, parts[j]? = some c' ∧ CSteps q R n c' (r.L.drop (if j < i then t + 1 else t)) (.fin d p r.lv)
theorem drop_same {α : Type} {l : List α} {a b : Nat} (ha : l.length ≤ a) (hb : l.length ≤ b) : l.drop a = l.drop b := by rw [List.drop_of_length_le ha, List.drop_of_length_le hb]
theorem Parts.move {rs : List Cr} {p : List Int} {parts : List Cst} {t i t' i' : Nat} (h : Parts q R n rs p parts t i) (hm : ∀ m, m < rs.length → (if m < i then t + 1 else t) = (if m < i' then t' + 1 else t') ∨ (lenAt rs m ≤ (if m < i then t + 1 else t) ∧ lenAt rs m ≤ (if m < i' then t' + 1 else t'))) : Parts q R n rs p parts t' i' := by
  refine ⟨h.len, fun j r hr => ?_⟩
  obtain ⟨c', d, h1, h2⟩ := h.st j r hr
  refine ⟨c', d, h1, ?_⟩
  have hj := (List.getElem?_eq_some_iff.mp hr).1
  have hlen : lenAt rs j = r.L.length := by unfold lenAt; rw [hr]
  rcases hm j hj with e | ⟨e1, e2⟩
  · rw [← e]; exact h2
  · rw [hlen] at e1 e2
    rw [← drop_same e1 e2]; exact h2
theorem Parts.dn {rs : List Cr} {p : List Int} {parts : List Cst} {t i : Nat} (h : Parts q R n rs p parts t i) {j : Nat} (hj : j < rs.length) : (match parts[j]? with
  | some c => !c.done
  | none => false) = decide ((if j < i then t + 1 else t) < lenAt rs j) := by
  obtain ⟨c', d, h1, h2⟩ := h.st j rs[j] (List.getElem?_eq_getElem hj)
  have hlen : lenAt rs j = rs[j].L.length := by unfold lenAt; rw [List.getElem?_eq_getElem hj]
  rw [h1, hlen]
  generalize (if j < i then t + 1 else t) = k at h2 ⊢
  cases e : rs[j].L.drop k with
  | nil =>
    rw [e] at h2
    rw [csteps_nil h2]
    have := List.drop_eq_nil_iff.mp e
    simp [Cst.done]; omega
  | cons l ls =>
    rw [e] at h2
    have h3 := (csteps_cons h2).1
    have : k < rs[j].L.length := by
      rcases Nat.lt_or_ge k rs[j].L.length with x | x
      · exact x
      · rw [List.drop_of_length_le x] at e; cases e
    simp [h3, this]
theorem nextIx_is {rs : List Cr} {p : List Int} {parts : List Cst} {t i : Nat} (h : Parts q R n rs p parts t (i + 1)) (hi : i < rs.length) : nextIx i parts = ((List.range' (i + 1) (rs.length - (i + 1))).filter (fun j => decide (t < lenAt rs j)) ++ (List.range' 0 (i + 1)).filter (fun j => decide (t + 1 < lenAt rs j))).head? := by
  unfold nextIx
  rw [List.filter_append]
  congr 2
  · rw [← List.range'_eq_map_range, h.len]
    refine List.filter_congr fun j hj => ?_
    have hj := List.mem_range'_1.mp hj
    exact (h.dn (by omega)).trans (by rw [if_neg (by omega)])
  · rw [List.range_eq_range']
    refine List.filter_congr fun j hj => ?_
    have hj := List.mem_range'_1.mp hj
    exact (h.dn (by omega)).trans (by rw [if_pos (by omega)])
/-- what is next -/
theorem next_evs {rs : List Cr} {p : List Int} {parts : List Cst} {t i : Nat} (h : Parts q R n rs p parts t (i + 1)) (hi : i < rs.length) :
    (nextIx i parts = none ∧ evsFrom rs t (i + 1) = [] ∧ ∀ j, lenAt rs j ≤ t + 1) ∨ ∃ t' j, nextIx i parts = some j ∧ evsFrom rs t (i + 1) = (t', j) :: evsFrom rs t' (j + 1) ∧ j < rs.length ∧ t' < lenAt rs j ∧ Parts q R n rs p parts t' j := by
  rw [nextIx_is h hi]
  cases e : (List.range' (i + 1) (rs.length - (i + 1))).filter (fun j => decide (t < lenAt rs j)) with
  | cons j rest =>
    obtain ⟨h1, h2, h3, h4, h5⟩ := filter_rng e
    refine .inr ⟨t, j, rfl, ?_, by omega, by simpa using h3, h.move fun m hm => ?_⟩
    · unfold evsFrom
      rw [e, h5, List.map_cons, List.cons_append]
      congr 5
      omega
    · by_cases c1 : m < i + 1
      · left; rw [if_pos c1, if_pos (by omega)]
      · by_cases c2 : m < j
        · have := h4 m (by omega) c2
          simp only [decide_eq_false_iff_not, Nat.not_lt] at this
          right
          rw [if_neg c1, if_pos c2]
          omega
        · left; rw [if_neg c1, if_neg c2]
  | nil =>
    have hz := filter_rng0 e
    have hz : ∀ m, i + 1 ≤ m → lenAt rs m ≤ t := fun m hm => by
      by_cases c : m < rs.length
      · have := hz m hm (by omega)
        simpa using this
      · unfold lenAt
        rw [List.getElem?_eq_none (by omega)]; exact Nat.zero_le _
    by_cases hT : t + 1 < maxL rs
    · have hR : (List.range' (t + 1) (maxL rs - (t + 1))) = (t + 1) :: List.range' (t + 1 + 1) (maxL rs - (t + 1 + 1)) := by
        have : maxL rs - (t + 1) = (maxL rs - (t + 1 + 1)) + 1 := by omega
        rw [this, List.range'_succ]
      have hsplit : List.range rs.length = List.range' 0 (i + 1) ++ List.range' (i + 1) (rs.length - (i + 1)) := by
        rw [List.range_eq_range']
        have := List.range'_append_1 (s := 0) (m := i + 1) (n := rs.length - (i + 1))
        rw [Nat.zero_add] at this
        rw [this]
        congr 1
        omega
      have hf2 : (List.range' (i + 1) (rs.length - (i + 1))).filter (fun j => decide (t + 1 < lenAt rs j)) = [] := List.filter_eq_nil_iff.mpr fun m hm => by
        have := hz m (List.mem_range'_1.mp hm).1
        simp; omega
      have hr : (List.range rs.length).filter (fun j => decide (t + 1 < lenAt rs j)) = (List.range' 0 (i + 1)).filter (fun j => decide (t + 1 < lenAt rs j)) := by rw [hsplit, List.filter_append, hf2, List.append_nil]
      cases e2 : (List.range' 0 (i + 1)).filter (fun j => decide (t + 1 < lenAt rs j)) with
      | nil =>
        exfalso
        rcases (maxL_foldl rs 0).2.2 with h0 | ⟨r, hr', h0⟩
        · have : maxL rs = 0 := h0
          omega
        · obtain ⟨j, hj, ej⟩ := List.mem_iff_getElem.mp hr'
          have hl : lenAt rs j = maxL rs := by unfold lenAt; rw [List.getElem?_eq_getElem hj, ej]; exact h0.symm
          rw [e2] at hr
          have := List.filter_eq_nil_iff.mp hr j (List.mem_range.mpr hj)
          rw [hl] at this
          simp at this
          omega
      | cons j rest =>
        obtain ⟨h1, h2, h3, h4, h5⟩ := filter_rng e2
        have h3 : t + 1 < lenAt rs j := by simpa using h3
        refine .inr ⟨t + 1, j, rfl, ?_, by omega, h3, h.move fun m hm => ?_⟩
        · unfold evsFrom
          rw [e, List.map_nil, List.nil_append, hR, List.flatMap_cons]
          unfold round
          rw [hr, e2, List.map_cons, List.cons_append]
          congr 3
          rw [h5]
          have : List.range' (j + 1) (rs.length - (j + 1)) = List.range' (j + 1) (0 + (i + 1) - (j + 1)) ++ List.range' (i + 1) (rs.length - (i + 1)) := by
            have := List.range'_append_1 (s := j + 1) (m := 0 + (i + 1) - (j + 1)) (n := rs.length - (i + 1))
            have e3 : j + 1 + (0 + (i + 1) - (j + 1)) = i + 1 := by omega
            rw [e3] at this
            rw [this]
            congr 1
            omega
          rw [this, List.filter_append, hf2, List.append_nil]
        · by_cases c1 : m < i + 1
          · by_cases c2 : m < j
            · have := h4 m (by omega) c2
              simp only [decide_eq_false_iff_not, Nat.not_lt] at this
              right
              rw [if_pos c1, if_pos c2]
              omega
            · left; rw [if_pos c1, if_neg c2]
          · have := hz m (by omega)
            right
            rw [if_neg c1]
            split <;> omega
    · have hall : ∀ j, lenAt rs j ≤ t + 1 := fun j => Nat.le_trans (lenAt_le rs j) (by omega)
      refine .inl ⟨?_, ?_, hall⟩
      · rw [List.nil_append, List.filter_eq_nil_iff.mpr fun m hm => by have := hall m; simp; omega]
        rfl
      · unfold evsFrom
        rw [e, List.map_nil, List.nil_append]
        have : maxL rs - (t + 1) = 0 := by omega
        rw [this]
        rfl
theorem sib_steps {rs : List Cr} {p : List Int} (h1000 : rs.length ≤ 1000) : ∀ (k t i : Nat) (parts : List Cst), Parts q R n rs p parts t i → i < rs.length → t < lenAt rs i → (evsFrom rs t (i + 1)).length = k →
    Runs q R (n + 1) (.run i parts) ((upto (isStop rs) ((t, i) :: evsFrom rs t (i + 1))).1.map (lookAt rs)) (outOf rs (upto (isStop rs) ((t, i) :: evsFrom rs t (i + 1))).2).1 (outOf rs (upto (isStop rs) ((t, i) :: evsFrom rs t (i + 1))).2).2 := by
  intro k
  induction k with
  | zero => ?_
  | succ k ih => ?_
  all_goals
    intro t i parts hP hi ht hk
    have hri : rs[i]? = some rs[i] := List.getElem?_eq_getElem hi
    have hlen : lenAt rs i = rs[i].L.length := by unfold lenAt; rw [hri]
    rw [hlen] at ht
    obtain ⟨c, d, hc, hs⟩ := hP.st i rs[i] hri
    rw [if_neg (Nat.lt_irrefl i), List.drop_eq_getElem_cons ht] at hs
    obtain ⟨hnd, hw, hok, c', hb, hs'⟩ := csteps_cons hs
    have hlook : lookAt rs (t, i) = rs[i].L[t] := by
      unfold lookAt
      simp only [hri]
      rw [List.getD_eq_getElem?_getD, List.getElem?_eq_getElem ht]
      rfl
    have hip : i < parts.length := by rw [hP.len]; exact hi
    have hP' : Parts q R n rs p (parts.set i c') t (i + 1) := ⟨by rw [List.length_set, hP.len], fun j r hr => by
      by_cases e : j = i
      · subst e
        rw [hri] at hr
        cases hr
        exact ⟨c', d, by rw [List.getElem?_set_self hip], by rw [if_pos (Nat.lt_succ_self _)]; exact hs'⟩
      · obtain ⟨c2, d2, h1, h2⟩ := hP.st j r hr
        refine ⟨c2, d2, by rw [List.getElem?_set_ne (fun z => e z.symm)]; exact h1, ?_⟩
        have : (if j < i + 1 then t + 1 else t) = if j < i then t + 1 else t := by
          by_cases z : j < i
          · rw [if_pos z, if_pos (by omega)]
          · rw [if_neg z, if_neg (by omega)]
        rw [this]
        exact h2⟩
    have hset : (parts.set i c')[i]? = some c' := List.getElem?_set_self hip
    have hSW : SWn q (n + 1) (.run i parts) rs[i].L[t] := SW1.mk i parts c _ hc hw
    have hSB : SBn q (n + 1) (.run i parts) (tell R rs[i].L[t]) (after i (parts.set i c')) := SB1.mk i parts c _ c' (by rw [hP.len]; exact h1000) hc hb
    have hstop : isStop rs (t, i) = (c'.done && c'.lv.br.isEmpty) := by
      unfold isStop
      simp only [hri]
      by_cases e : t + 1 = rs[i].L.length
      · rw [List.drop_of_length_le (by omega)] at hs'
        rw [csteps_nil hs']
        simp [e, Cst.done, Cst.lv, Cr.lv]
      · have hl : t + 1 < rs[i].L.length := by omega
        rw [List.drop_eq_getElem_cons hl] at hs'
        rw [(csteps_cons hs').1]
        simp [e]
    unfold upto
    unfold after at hSB
    rw [hset] at hSB
    simp only [] at hSB
    cases hst : isStop rs (t, i) with
    | true =>
      rw [if_pos rfl]
      rw [hst] at hstop
      rw [if_pos hstop.symm] at hSB
      have hdone : t + 1 = rs[i].L.length := by
        unfold isStop at hst
        simp only [hri] at hst
        have := (Bool.and_eq_true _ _).mp hst
        simpa using this.1
      rw [List.drop_of_length_le (by omega)] at hs'
      have hcl := csteps_nil hs'
      have : (Cst.lv c').d2 = rs[i].lv.d2 := by rw [hcl]; rfl
      rw [this] at hSB
      refine .step _ _ _ _ _ _ (by rw [hlook]; exact hSW) (by rw [hlook]; exact hok) (by rw [hlook]; exact hSB) ?_
      show Runs q R (n + 1) _ [] (outOf rs (some (t, i))).1 (outOf rs (some (t, i))).2
      unfold outOf oneD
      simp only [hri]
      exact .done _ _
    | false =>
      rw [if_neg (by simp)]
      rw [hst] at hstop
      rw [if_neg (by rw [← hstop]; simp)] at hSB
      simp only [List.map_cons]
      rcases next_evs hP' hi with ⟨e1, e2, e3⟩ | ⟨t', j, e1, e2, e3, e4, e5⟩
      · rw [e1] at hSB
        simp only [] at hSB
        rw [e2]
        refine .step _ _ _ _ _ _ (by rw [hlook]; exact hSW) (by rw [hlook]; exact hok) (by rw [hlook]; exact hSB) ?_
        have hmap : ∀ (f : Lv → D), (parts.set i c').map (fun c => f c.lv) = rs.map fun r => f r.lv := fun f => by
          apply List.ext_getElem?
          intro j; rw [List.getElem?_map, List.getElem?_map]
          cases hj : rs[j]? with
          | none =>
            have : (parts.set i c')[j]? = none := by
              rw [List.getElem?_eq_none_iff] at hj ⊢; rw [hP'.len]
              exact hj
            rw [this]
            rfl
          | some r =>
            obtain ⟨c2, d2, h1, h2⟩ := hP'.st j r hj
            have hl := e3 j
            unfold lenAt at hl
            rw [hj] at hl
            simp only [] at hl
            have hz : (if j < i + 1 then t + 1 else t) < r.L.length → False := fun z => by
              have h3 := hP'.dn (List.getElem?_eq_some_iff.mp hj).1
              unfold nextIx at e1
              rw [List.head?_eq_none_iff, List.filter_eq_nil_iff] at e1
              have hj' := (List.getElem?_eq_some_iff.mp hj).1
              have hm : j ∈ (List.range ((parts.set i c').length - (i + 1))).map (fun j => i + 1 + j) ++ List.range (i + 1) := by
                rw [hP'.len]
                by_cases z : j < i + 1
                · exact List.mem_append_right _ (List.mem_range.mpr z)
                · exact List.mem_append_left _ (List.mem_map.mpr ⟨j - (i + 1), List.mem_range.mpr (by omega), by omega⟩)
              have hlen2 : lenAt rs j = r.L.length := by unfold lenAt; rw [hj]
              exact e1 j hm (h3.trans (by rw [hlen2]; simpa using z))
            rw [List.drop_of_length_le (Nat.le_of_not_lt hz)] at h2
            rw [h1, csteps_nil h2]
            rfl
        show Runs q R (n + 1) _ [] (outOf rs none).1 (outOf rs none).2
        have m1 := hmap fun l => .tup (l.br.map pD)
        have m2 := hmap fun l => l.d2
        have e9 : ∀ {a b c d : D}, a = b → c = d → Runs q R (n + 1) (.fin a c) [] b d := fun h1 h2 => by rw [h1, h2]; exact .done _ _
        exact e9 (congrArg D.tup m1) (congrArg (fun x => D.tup [.str "all", .tup x]) m2)
      · rw [e1] at hSB
        simp only [] at hSB
        rw [e2]
        rw [e2, List.length_cons] at hk
        refine .step _ _ _ _ _ _ (by rw [hlook]; exact hSW) (by rw [hlook]; exact hok) (by rw [hlook]; exact hSB) ?_
        first
        | exact absurd hk (by omega)
        | exact ih t' j _ e5 e3 e4 (by omega)
end
end E
/-! what the law's run asks, the machine asks -/
namespace E
open PySem L2
theorem paired_get {α β : Type} {F : α → β → Prop} : ∀ {xs : List α} {ys : List β}, Paired F xs ys → ∀ (j : Nat) (y : β), ys[j]? = some y → ∃ x, xs[j]? = some x ∧ F x y
  | _, _, .nil, j, y, h => by simp at h
  | x :: _, y0 :: _, .cons h t, 0, y, e => by
    rw [List.getElem?_cons_zero] at e
    cases e
    exact ⟨x, rfl, h⟩
  | x :: _, y0 :: _, .cons h t, j + 1, y, e => by
    rw [List.getElem?_cons_succ] at e
    obtain ⟨x', h1, h2⟩ := paired_get t j y e
    exact ⟨x', by rw [List.getElem?_cons_succ]; exact h1, h2⟩
theorem merged_is (rs : List Cr) : merged rs = ((outOf rs (upto (isStop rs) (evs rs)).2).1, (outOf rs (upto (isStop rs) (evs rs)).2).2, (upto (isStop rs) (evs rs)).1.map (lookAt rs)) := by
  unfold merged
  cases e : (upto (isStop rs) (evs rs)).2 with
  | some x => rfl
  | none => rw [upto_all e]; rfl
theorem evs_head {rs : List Cr} (h : 0 < rs.length) (hl : 0 < lenAt rs 0) : evs rs = (0, 0) :: evsFrom rs 0 1 := by
  have hm : 0 < maxL rs := Nat.lt_of_lt_of_le hl (lenAt_le rs 0)
  unfold evs evsFrom
  have e1 : List.range (maxL rs) = 0 :: List.range' (0 + 1) (maxL rs - (0 + 1)) := by
    rw [List.range_eq_range']
    have : maxL rs = (maxL rs - 1) + 1 := by omega
    rw [this, List.range'_succ]
    simp
  have e2 : List.range rs.length = 0 :: List.range' 1 (rs.length - 1) := by
    rw [List.range_eq_range']
    have : rs.length = (rs.length - 1) + 1 := by omega
    rw [this, List.range'_succ]
    simp
  rw [e1, List.flatMap_cons]
  conv => lhs; arg 1; unfold round
  rw [e2, List.filter_cons_of_pos (by simpa using hl), List.map_cons, List.cons_append]
theorem srun_runs {q : Qn} {R : Nat → List (List Int)} (hg : Gd q) (hR : ∀ i, Srt (R i) (q.at i).own.length) (hr : ∀ c ∈ q.cols, inRange q c (q.rangeOf c).1 = true) :
    ∀ (n : Nat) (cols : List Str) (p : List Int) (s w : D) (L : List Look), SRun q R n cols p s w L → Runs q R n (q.sibs cols p) L s w := by
  intro n
  induction n with
  | zero => intro cols p s w L h; exact h.elim
  | succ n ih =>
    intro cols p s w L h
    obtain ⟨rs, hp, hm, _, hc1000, hpl⟩ := h
    have hlen := hp.length
    rw [merged_is] at hm
    cases hcs : cols with
    | nil =>
      rw [hcs] at hp
      cases hp
      have e : (evs []) = [] := rfl
      rw [e] at hm
      cases hm
      unfold Qn.sibs
      rw [if_pos rfl]
      exact .done _ _
    | cons c0 cs0 =>
      have key : ∀ (j : Nat) (r : Cr), rs[j]? = some r → ∃ c, cols[j]? = some c ∧ CSteps q R n (q.start p c) r.L (.fin c p r.lv) := fun j r hj => by
        obtain ⟨c, h1, hc, hsm, hth, hL⟩ := paired_get hp j r hj
        have ok : ColOk q R c p := ⟨hg, hc, hpl, hth.1, fun i hi => ⟨(mem_atomsOf.mp (mem_thru.mp hi).1).1, hth.2 i hi⟩, fun i hi => by
          unfold Qn.ends at hi
          exact (mem_atomsOf.mp (List.mem_filter.mp hi).1).1, fun i hi => (hR i).vals (hth.2 i hi)⟩
        have := (loop_steps (n := n) ok (fun p' s w M h => ih _ p' s w M h) hL ⟨[], [], []⟩ (by obtain ⟨s1, s2, s3, s4⟩ := hsm; simp [Lv.sz]; omega)).1 (hr c hc)
        exact ⟨c, h1, this⟩
      have hpos : 0 < rs.length := by rw [← hlen, hcs]; simp
      have hl0 : 0 < lenAt rs 0 := by
        unfold lenAt
        rw [List.getElem?_eq_getElem hpos]
        simp only []
        obtain ⟨c, h1, h2⟩ := key 0 rs[0] (List.getElem?_eq_getElem hpos)
        cases e : rs[0].L with
        | nil => rw [e] at h2; cases csteps_nil h2
        | cons _ _ => simp
      have hP : Parts q R n rs p (cols.map (q.start p)) 0 0 := ⟨by rw [List.length_map, hlen], fun j r hj => by
        obtain ⟨c, h1, h2⟩ := key j r hj
        exact ⟨q.start p c, c, by rw [List.getElem?_map, h1]; rfl, by rw [if_neg (Nat.not_lt_zero _)]; exact h2⟩⟩
      have := sib_steps (by rw [← hlen]; exact hc1000) _ 0 0 _ hP hpos hl0 rfl
      rw [← evs_head hpos hl0] at this
      rw [← hcs]
      have e : q.sibs cols p = .run 0 (cols.map (q.start p)) := by
        unfold Qn.sibs
        rw [if_neg (by rw [hcs]; simp)]
      rw [e]
      injection hm with m1 m2
      injection m2 with m2 m3
      rw [← m1, ← m2, ← m3]
      exact this
end E
/-! data as the library's own data: what repr shows, how long, how deep -/
namespace E
open PySem L2
def D.sl (d : D) : Nat := d.py.shown.length
structure D.Fn (K : Nat) (d : D) : Prop where
  sh : d.py.showable = true
  pl : d.pl = true
  lay : d.py.canLay0 = true
  dp : d.py.depth ≤ K
def sumL (ds : List D) : Nat := (ds.map fun d => d.sl + 2).sum
theorem sumL_nil : sumL [] = 0 := rfl
theorem sumL_cons (d : D) (ds : List D) : sumL (d :: ds) = d.sl + 2 + sumL ds := by simp [sumL]
theorem sumL_app (a b : List D) : sumL (a ++ b) = sumL a + sumL b := by simp [sumL]
theorem piled_pys : ∀ ds : List D, piled (PyData.shownAll (D.pys ds)) = sumL ds
  | [] => by simp only [D.pys, PyData.shownAll]; rfl
  | d :: ds => by
    simp only [D.pys, PyData.shownAll]
    rw [piled_cons, piled_pys ds, sumL_cons]
    rfl
theorem sl_tup (ds : List D) : (D.tup ds).sl ≤ 3 + sumL ds := by
  unfold D.sl
  simp only [D.py, PyData.shown]
  unfold tupleText
  rw [strLen_append, strLen_append, ← piled_pys]
  have h2 : ∀ b : Bool, ((if b then ",)" else ")" : String) : Str).length ≤ 2 := by intro b; cases b <;> decide +kernel
  have h2 := h2 ((PyData.shownAll (D.pys ds)).length == 1)
  have h1 : ("(" : Str).length = 1 := by decide +kernel
  have h3 : (Str.join ", " (PyData.shownAll (D.pys ds))).length ≤ piled (PyData.shownAll (D.pys ds)) := by
    by_cases e : PyData.shownAll (D.pys ds) = []
    · rw [e]; decide +kernel
    · have := join_length_add _ e; omega
  omega
theorem sl_ftp (ds : List D) : (D.ftp ds).sl = (D.tup ds).sl := by
  unfold D.sl
  simp only [D.py]
theorem sl_lst (ds : List D) : (D.lst ds).sl ≤ 2 + sumL ds := by
  unfold D.sl
  simp only [D.py, PyData.shown]
  unfold listText
  rw [strLen_append, ← piled_pys]
  have h1 : ("]" : Str).length = 1 := by decide +kernel
  cases e : PyData.shownAll (D.pys ds) with
  | nil => show ("[" : Str).length + _ ≤ _; rw [h1]; decide +kernel
  | cons t r =>
    have h := textFrom_length_pos r 1 (("[" : Str) ++ (if (0 : Nat) > 0 then ", " else "" : String) ++ t) (Nat.succ_pos 0); show (textFrom 1 (("[" : Str) ++ (if (0 : Nat) > 0 then ", " else "" : String) ++ t) r).length + _ ≤ _
    rw [h, strLen_append, strLen_append, h1, piled_cons]
    have h2 : ("[" : Str).length = 1 := by decide +kernel
    have h3 : ((if (0 : Nat) > 0 then ", " else "" : String) : Str).length = 0 := by decide +kernel
    omega
theorem sl_int {i : Int} (h : i.natAbs < 1000) : (D.int i).sl ≤ 4 := by
  unfold D.sl
  simp only [D.py, PyData.shown]
  rw [PyProof.Rows.ofString_len]
  exact int_text_length_le10 (k := 3) (by omega) (by simpa using h)
theorem sl_non : D.non.sl = 4 := by unfold D.sl; simp only [D.py, PyData.shown]; decide +kernel
theorem sl_str (s : Str) : (D.str s).sl = (reprText s).length := by unfold D.sl; simp only [D.py, PyData.shown]
theorem sl_all : (D.str "all").sl = 5 := by rw [sl_str]; decide +kernel
theorem sl_one : (D.str "one").sl = 5 := by rw [sl_str]; decide +kernel
theorem sl_row : (D.str "row").sl = 5 := by rw [sl_str]; decide +kernel
theorem fn_all {K : Nat} : ∀ {ds : List D}, (∀ d ∈ ds, d.Fn K) → PyData.showableAll (D.pys ds) = true ∧ D.pls ds = true ∧ PyData.canLayAll0 (D.pys ds) = true ∧ PyData.depthAll (D.pys ds) ≤ K
  | [], _ => by simp [D.pys, D.pls, PyData.showableAll, PyData.canLayAll0, PyData.depthAll]
  | d :: ds, h => by
    obtain ⟨h1, h2, h3, h4⟩ := fn_all fun x hx => h x (List.mem_cons_of_mem _ hx)
    obtain ⟨g1, g2, g3, g4⟩ := h d List.mem_cons_self
    simp only [D.pys, D.pls, PyData.showableAll, PyData.canLayAll0, PyData.depthAll, h1, h2, h3, g1, g2, g3]
    exact ⟨rfl, rfl, rfl, by omega⟩
theorem fn_tup {K : Nat} {ds : List D} (h : ∀ d ∈ ds, d.Fn K) : (D.tup ds).Fn (K + 1) := by
  obtain ⟨h1, h2, h3, h4⟩ := fn_all h
  exact ⟨by simp only [D.py, PyData.showable, h1], by simp only [D.pl, h2], by simp only [D.py, PyData.canLay0, h3], by simp only [D.py, PyData.depth]; omega⟩
theorem fn_ftp {K : Nat} {ds : List D} (h : ∀ d ∈ ds, d.Fn K) : (D.ftp ds).Fn (K + 1) := by
  obtain ⟨h1, h2, h3, h4⟩ := fn_all h
  exact ⟨by simp only [D.py, PyData.showable, h1], by simp only [D.pl, h2], by simp only [D.py, PyData.canLay0, h3], by simp only [D.py, PyData.depth]; omega⟩
theorem fn_lst {K : Nat} {ds : List D} (h : ∀ d ∈ ds, d.Fn K) : (D.lst ds).Fn (K + 1) := by
  obtain ⟨h1, h2, h3, h4⟩ := fn_all h
  exact ⟨by simp only [D.py, PyData.showable, h1], by simp only [D.pl, h2], by simp only [D.py, PyData.canLay0, h3], by simp only [D.py, PyData.depth]; omega⟩
theorem fn_int {i : Int} (h : i.natAbs < 1000) {K : Nat} : (D.int i).Fn K := by
  refine ⟨?_, by simp only [D.pl], by simp only [D.py, PyData.canLay0], by simp only [D.py, PyData.depth]; omega⟩
  simp only [D.py, PyData.showable, decide_eq_true_eq]
  by_cases e : i.natAbs = 0
  · rw [e]; decide +kernel
  · have := Nat.log2_lt e (k := 1920)
    exact this.mpr (Nat.lt_of_lt_of_le h (by decide +kernel))
theorem fn_non {K : Nat} : D.non.Fn K := ⟨by simp only [D.py, PyData.showable], by simp only [D.pl], by simp only [D.py, PyData.canLay0], by simp only [D.py, PyData.depth]; omega⟩
theorem fn_str {s : Str} {K : Nat} (h : PyData.strOk s = true := by decide +kernel) : (D.str s).Fn K := ⟨by simp only [D.py, PyData.showable], by simp only [D.pl], by simp only [D.py, PyData.canLay0, h], by simp only [D.py, PyData.depth]; omega⟩
theorem D.Fn.mono {K K' : Nat} {d : D} (h : d.Fn K) (hk : K ≤ K') : d.Fn K' := ⟨h.sh, h.pl, h.lay, Nat.le_trans h.dp hk⟩
end E
/-! how many rows lie behind; sums -/
namespace E
open PySem L2
def cntP (rows : List (List Int)) (p : List Int) : Nat := (rows.filter fun r => decide (r.take p.length = p)).length
def cntGe (rows : List (List Int)) (p : List Int) : Option Int → Nat
  | none => cntP rows p
  | some v => (rows.filter fun r => decide (r.take p.length = p) && decide (v ≤ r.getD p.length 0)).length
theorem len_filter_le {α : Type} {f g : α → Bool} : ∀ {l : List α}, (∀ x ∈ l, f x = true → g x = true) → (l.filter f).length ≤ (l.filter g).length
  | [], _ => Nat.le_refl _
  | a :: l, h => by
    have ih := len_filter_le (f := f) (g := g) fun x hx => h x (List.mem_cons_of_mem _ hx)
    have ha := h a List.mem_cons_self
    simp only [List.filter_cons]
    cases e : f a with
    | true => simp [ha e]; omega
    | false => simp only [Bool.false_eq_true, if_false]; split <;> simp <;> omega
theorem cntGe_le (rows : List (List Int)) (p : List Int) (x : Option Int) : cntGe rows p x ≤ cntP rows p := by
  cases x with
  | none => exact Nat.le_refl _
  | some v => exact len_filter_le fun r _ h => by simp only [Bool.and_eq_true] at h; exact h.1
theorem cntP_le (rows : List (List Int)) (p : List Int) : cntP rows p ≤ rows.length := List.length_filter_le _ _
theorem cntGe_mono {rows : List (List Int)} {p : List Int} {v y : Int} (h : v ≤ y) : cntGe rows p (some y) ≤ cntGe rows p (some v) :=
  len_filter_le fun r _ h2 => by
    simp only [Bool.and_eq_true, decide_eq_true_eq] at h2 ⊢
    exact ⟨h2.1, by omega⟩
theorem take_snoc {r p : List Int} {v : Int} (h : p.length < r.length) : r.take (p ++ [v]).length = p ++ [v] ↔ r.take p.length = p ∧ r.getD p.length 0 = v := by
  have e : r.take (p ++ [v]).length = r.take p.length ++ [r.getD p.length 0] := by
    rw [List.length_append, List.length_singleton, List.take_add_one, List.getD_eq_getElem?_getD, List.getElem?_eq_getElem h]
    rfl
  rw [e]
  constructor
  · intro h2
    have := List.append_inj h2 (by rw [List.length_take]; omega)
    exact ⟨this.1, by simpa using this.2⟩
  · rintro ⟨h1, h2⟩
    rw [h1, h2]
theorem cnt_split {p : List Int} {v : Int} : ∀ {rows : List (List Int)}, (∀ r ∈ rows, p.length < r.length) → cntP rows (p ++ [v]) + cntGe rows p (some (v + 1)) = cntGe rows p (some v)
  | [], _ => rfl
  | r :: rows, h => by
    have ih := cnt_split (p := p) (v := v) fun x hx => h x (List.mem_cons_of_mem _ hx)
    have hr := take_snoc (v := v) (h r List.mem_cons_self)
    simp only [cntP, cntGe] at ih ⊢
    simp only [List.filter_cons]
    by_cases e1 : r.take p.length = p
    · by_cases e2 : r.getD p.length 0 = v
      · have : r.take (p ++ [v]).length = p ++ [v] := hr.mpr ⟨e1, e2⟩
        have h3 : ¬ (v + 1 ≤ r.getD p.length 0) := by omega
        have h4 : v ≤ r.getD p.length 0 := by omega
        simp only [this, e1, h3, h4, decide_true, decide_false, Bool.and_false, Bool.and_true, Bool.false_eq_true, if_true, if_false, List.length_cons]
        omega
      · have : ¬ (r.take (p ++ [v]).length = p ++ [v]) := fun z => e2 (hr.mp z).2
        by_cases h4 : v ≤ r.getD p.length 0
        · have h3 : v + 1 ≤ r.getD p.length 0 := by omega
          simp only [this, e1, h3, h4, decide_true, decide_false, Bool.and_false, Bool.and_true, Bool.false_eq_true, if_true, if_false, List.length_cons]
          omega
        · have h3 : ¬ (v + 1 ≤ r.getD p.length 0) := by omega
          simp only [this, e1, h3, h4, decide_true, decide_false, Bool.and_false, Bool.and_true, Bool.false_eq_true, if_true, if_false, List.length_cons]
          omega
    · have : ¬ (r.take (p ++ [v]).length = p ++ [v]) := fun z => e1 (hr.mp z).1
      simp only [this, e1, decide_false, Bool.false_and, Bool.false_eq_true, if_false]
      omega
theorem cnt_pos {rows : List (List Int)} {p : List Int} {v : Int} (hl : ∀ r ∈ rows, p.length < r.length) (h : v ∈ valsBehind rows p) : 1 ≤ cntP rows (p ++ [v]) := by
  unfold valsBehind at h
  obtain ⟨r, hr, e⟩ := List.mem_map.mp h
  obtain ⟨h1, h2⟩ := List.mem_filter.mp hr
  have : r ∈ rows.filter fun r => decide (r.take (p ++ [v]).length = p ++ [v]) := List.mem_filter.mpr ⟨h1, by simpa using (take_snoc (hl r h1)).mpr ⟨by simpa using h2, e⟩⟩
  exact List.length_pos_of_mem this
theorem vals_mem {rows : List (List Int)} {p : List Int} {v : Int} (hl : ∀ r ∈ rows, p.length < r.length) (h : v ∈ valsBehind rows p) : ∃ r ∈ rows, v ∈ r := by
  unfold valsBehind at h
  obtain ⟨r, hr, e⟩ := List.mem_map.mp h
  obtain ⟨h1, h2⟩ := List.mem_filter.mp hr
  refine ⟨r, h1, ?_⟩
  rw [← e, List.getD_eq_getElem?_getD, List.getElem?_eq_getElem (hl r h1)]
  exact List.getElem_mem _
theorem sum_add {α : Type} (f g : α → Nat) : ∀ l : List α, (l.map fun a => f a + g a).sum = (l.map f).sum + (l.map g).sum
  | [] => rfl
  | a :: l => by simp only [List.map_cons, List.sum_cons, sum_add f g l]; omega
theorem sum_le {α : Type} {f g : α → Nat} : ∀ {l : List α}, (∀ a ∈ l, f a ≤ g a) → (l.map f).sum ≤ (l.map g).sum
  | [], _ => Nat.le_refl _
  | a :: l, h => by
    simp only [List.sum_cons, List.map_cons]
    have := sum_le (f := f) (g := g) fun x hx => h x (List.mem_cons_of_mem _ hx)
    have := h a List.mem_cons_self
    omega
theorem sum_mul {α : Type} (k : Nat) (f : α → Nat) : ∀ l : List α, (l.map fun a => k * f a).sum = k * (l.map f).sum
  | [] => rfl
  | a :: l => by simp only [List.map_cons, List.sum_cons, sum_mul k f l, Nat.mul_add]
theorem sum_const {α : Type} (k : Nat) : ∀ l : List α, (l.map fun _ => k).sum = k * l.length
  | [] => rfl
  | a :: l => by simp only [List.map_cons, List.sum_cons, sum_const k l, List.length_cons, Nat.mul_add]; omega
theorem sum_flat {α β : Type} (f : β → Nat) (g : α → List β) : ∀ l : List α, ((l.flatMap g).map f).sum = (l.map fun a => ((g a).map f).sum).sum
  | [] => rfl
  | a :: l => by simp only [List.flatMap_cons, List.map_append, List.sum_append, List.map_cons, List.sum_cons, sum_flat f g l]
theorem sum_swap {α β : Type} (g : α → β → Nat) (m : List β) : ∀ l : List α, (l.map fun a => (m.map fun b => g a b).sum).sum = (m.map fun b => (l.map fun a => g a b).sum).sum
  | [] => by
    simp only [List.map_nil, List.sum_nil]
    rw [sum_const]
    simp
  | a :: l => by
    simp only [List.map_cons, List.sum_cons, sum_swap g m l]
    rw [← sum_add]
theorem sum_filter {α : Type} (p : α → Bool) (f : α → Nat) : ∀ l : List α, ((l.filter p).map f).sum = (l.map fun a => if p a then f a else 0).sum
  | [] => rfl
  | a :: l => by
    rw [List.filter_cons]
    cases e : p a with
    | true => simp [e, sum_filter p f l]
    | false => simp [e, sum_filter p f l]
/-- the looks of all turns, weighed -/
theorem sum_range (f : Nat → Nat) (n T : Nat) (h : n ≤ T) : ((List.range T).map fun t => if decide (t < n) then f t else 0).sum = ((List.range n).map f).sum := by
  have e : T = n + (T - n) := by omega
  rw [e, List.range_add, List.map_append, List.sum_append]
  have h1 : (List.range n).map (fun t => if decide (t < n) then f t else 0) = (List.range n).map f := List.map_congr_left fun t ht => by
    have := List.mem_range.mp ht
    simp [this]
  have h2 : (((List.range (T - n)).map fun x => n + x).map fun t => if decide (t < n) then f t else 0) = (List.range (T - n)).map fun _ => 0 := by
    rw [List.map_map]
    refine List.map_congr_left fun t _ => ?_
    simp only [Function.comp]
    rw [if_neg (by simp)]
  rw [h1, h2, sum_const]
  simp
theorem range_get {α : Type} (f : α → Nat) (d : α) (l : List α) : ((List.range l.length).map fun t => f (l.getD t d)).sum = (l.map f).sum := by
  congr 1
  apply List.ext_getElem
  · simp
  · intro i h1 h2
    simp only [List.length_map, List.length_range] at h1 h2
    rw [List.getElem_map, List.getElem_range, List.getElem_map, List.getD_eq_getElem?_getD, List.getElem?_eq_getElem h2]
    rfl
theorem sum_evs (f : Look → Nat) (rs : List Cr) : ((evs rs).map fun e => f (lookAt rs e)).sum = (rs.map fun r => (r.L.map f).sum).sum := by
  unfold evs round
  rw [sum_flat]
  have e1 : ∀ t : Nat, ((((List.range rs.length).filter fun i => decide (t < lenAt rs i)).map fun i => (t, i)).map fun e => f (lookAt rs e)).sum = ((List.range rs.length).map fun i => if decide (t < lenAt rs i) then f (lookAt rs (t, i)) else 0).sum := fun t => by
    rw [List.map_map, ← sum_filter (fun i => decide (t < lenAt rs i)) (fun i => f (lookAt rs (t, i)))]
    rfl
  simp only [e1]
  rw [sum_swap (fun t i => if decide (t < lenAt rs i) then f (lookAt rs (t, i)) else 0)]
  have e2 : ∀ i : Nat, ((List.range (maxL rs)).map fun t => if decide (t < lenAt rs i) then f (lookAt rs (t, i)) else 0).sum = ((List.range (lenAt rs i)).map fun t => f (lookAt rs (t, i))).sum := fun i => sum_range (fun t => f (lookAt rs (t, i))) _ _ (lenAt_le rs i)
  simp only [e2]
  congr 1
  apply List.ext_getElem
  · simp
  · intro i h1 h2
    simp only [List.length_map, List.length_range] at h1 h2
    rw [List.getElem_map, List.getElem_range, List.getElem_map]
    have e3 : lenAt rs i = rs[i].L.length := by unfold lenAt; rw [List.getElem?_eq_getElem h1]
    rw [e3, ← range_get f (.row 0 []) rs[i].L]
    congr 1
    refine List.map_congr_left fun t _ => ?_
    unfold lookAt
    simp only [List.getElem?_eq_getElem h1]
theorem upto_sum {α : Type} (g : α → Bool) (f : α → Nat) : ∀ l : List α, ((upto g l).1.map f).sum ≤ (l.map f).sum
  | [] => Nat.le_refl _
  | a :: l => by
    unfold upto
    split
    · simp
    · simp only [List.sum_cons, List.map_cons]
      have := upto_sum g f l
      omega
theorem upto_mem {α : Type} (g : α → Bool) : ∀ (l : List α) (e : α), (upto g l).2 = some e → e ∈ l
  | [], e, h => by cases h
  | a :: l, e, h => by
    unfold upto at h
    split at h
    · cases h; exact List.mem_cons_self
    · exact List.mem_cons_of_mem _ (upto_mem g l e h)
theorem merged_sum (f : Look → Nat) (rs : List Cr) : ((merged rs).2.2.map f).sum ≤ (rs.map fun r => (r.L.map f).sum).sum := by
  rw [merged_is, ← sum_evs]
  simp only [List.map_map]
  exact upto_sum _ _ _
end E
/-! the law's loop comes to an end, and stays small -/
namespace E
open PySem L2
structure Few (q : Qn) (R : Nat → List (List Int)) : Prop where
  srt : ∀ i, Srt (R i) (q.at i).own.length
  few : ∀ i, i < q.atoms.length → (R i).length ≤ 14
  val : ∀ i, i < q.atoms.length → ∀ r ∈ R i, ∀ x ∈ r, -1 ≤ x ∧ x ≤ 7
  rng : ∀ c ∈ q.cols, (q.rangeOf c).1 = none ∨ ∃ v, (q.rangeOf c).1 = some v ∧ -3 ≤ v ∧ v ≤ 8
def mu : Option Int → Nat
  | none => 13
  | some v => (9 - v).toNat
def tot (q : Qn) (R : Nat → List (List Int)) (c : Str) (p : List Int) : Nat := ((q.thru c).map fun i => cntP (R i) p).sum
def wgt (q : Qn) (R : Nat → List (List Int)) (c : Str) (p : List Int) (x : Option Int) : Nat := ((q.thru c).map fun i => cntGe (R i) p x).sum
def Cr.fine (r : Cr) : Nat := sumL (r.G.map Gap.d) + sumL (r.V.map pD) + sumL (r.B.map pD) + sumL (r.L.map Look.d)
structure Cr.Fn (K : Nat) (r : Cr) : Prop where
  g : ∀ g ∈ r.G, g.d.Fn 1
  v : ∀ g ∈ r.V, (pD g).Fn (K + 1)
  b : ∀ g ∈ r.B, (pD g).Fn (K + 1)
  l : ∀ g ∈ r.L, g.d.Fn 2
theorem sl_oi {o : Option Int} (h : ∀ v, o = some v → v.natAbs < 1000) : (oi o).sl ≤ 4 := by
  cases o with
  | none => exact Nat.le_of_eq sl_non
  | some v => exact sl_int (h v rfl)
theorem fn_oi {o : Option Int} {K : Nat} (h : ∀ v, o = some v → v.natAbs < 1000) : (oi o).Fn K := by
  cases o with
  | none => exact fn_non
  | some v => exact fn_int (h v rfl)
theorem sum_tI : ∀ {p : List Int}, (∀ x ∈ p, x.natAbs < 1000) → sumL (p.map D.int) ≤ 6 * p.length
  | [], _ => Nat.le_refl _
  | a :: p, h => by
    have := sum_tI fun x hx => h x (List.mem_cons_of_mem _ hx)
    have := sl_int (h a List.mem_cons_self)
    rw [List.map_cons, sumL_cons, List.length_cons]
    omega
theorem fn_tI {p : List Int} {K : Nat} (h : ∀ x ∈ p, x.natAbs < 1000) : (tI p).Fn (K + 1) := fn_tup fun d hd => by
  obtain ⟨x, hx, rfl⟩ := List.mem_map.mp hd
  exact fn_int (h x hx)
theorem sl_tI {p : List Int} (h : ∀ x ∈ p, x.natAbs < 1000) (hl : p.length ≤ 5) : (tI p).sl ≤ 33 := by
  have := sl_tup (p.map D.int)
  have := sum_tI h
  show (D.tup (p.map D.int)).sl ≤ 33
  omega
theorem fn_two {K : Nat} {a b : D} (h1 : a.Fn K) (h2 : b.Fn K) : (D.tup [a, b]).Fn (K + 1) := fn_tup fun d hd => by
  simp only [List.mem_cons, List.not_mem_nil, or_false] at hd
  rcases hd with rfl | rfl
  · exact h1
  · exact h2
theorem fn_three {K : Nat} {a b c : D} (h1 : a.Fn K) (h2 : b.Fn K) (h3 : c.Fn K) : (D.tup [a, b, c]).Fn (K + 1) := fn_tup fun d hd => by
  simp only [List.mem_cons, List.not_mem_nil, or_false] at hd
  rcases hd with rfl | rfl | rfl
  · exact h1
  · exact h2
  · exact h3
theorem sl_two (a b : D) : (D.tup [a, b]).sl ≤ 7 + a.sl + b.sl := by
  have := sl_tup [a, b]
  rw [sumL_cons, sumL_cons, sumL_nil] at this
  omega
theorem sl_three (a b c : D) : (D.tup [a, b, c]).sl ≤ 9 + a.sl + b.sl + c.sl := by
  have := sl_tup [a, b, c]
  rw [sumL_cons, sumL_cons, sumL_cons, sumL_nil] at this
  omega
theorem look_at {i : Nat} {p : List Int} {x : Option Int} (hi : i < 1000) (h : ∀ x ∈ p, x.natAbs < 1000) (hl : p.length ≤ 5) (hx : ∀ v, x = some v → v.natAbs < 1000) : (Look.at3 i p x).d.sl ≤ 50 ∧ (Look.at3 i p x).d.Fn 2 := by
  have h1 := sl_three (.int (i : Int)) (tI p) (oi x)
  have h2 : (D.int (i : Int)).sl ≤ 4 := sl_int (by omega)
  have h3 := sl_tI h hl
  have h4 := sl_oi hx
  refine ⟨?_, fn_three (fn_int (by omega)) (fn_tI h) (fn_oi hx)⟩
  show (D.tup [.int (i : Int), tI p, oi x]).sl ≤ 50
  omega
theorem look_row {i : Nat} {p : List Int} (hi : i < 1000) (h : ∀ x ∈ p, x.natAbs < 1000) (hl : p.length ≤ 5) : (Look.row i p).d.sl ≤ 50 ∧ (Look.row i p).d.Fn 2 := by
  have h1 := sl_two (.int (i : Int)) (tI p)
  have h2 : (D.int (i : Int)).sl ≤ 4 := sl_int (by omega)
  have h3 := sl_tI h hl
  refine ⟨?_, fn_two (fn_int (by omega)) (fn_tI h)⟩
  show (D.tup [.int (i : Int), tI p]).sl ≤ 50
  omega
theorem sumL_le {ds : List D} {k : Nat} (h : ∀ d ∈ ds, d.sl ≤ k) : sumL ds ≤ (k + 2) * ds.length := by
  unfold sumL
  rw [← sum_const]
  exact sum_le fun d hd => by have := h d hd; omega
theorem filters_le {α : Type} {f g : α → Bool} : ∀ {l : List α}, (∀ x ∈ l, f x = true → g x = false) → (l.filter f).length + (l.filter g).length ≤ l.length
  | [], _ => Nat.le_refl _
  | a :: l, h => by
    have ih := filters_le (f := f) (g := g) fun x hx => h x (List.mem_cons_of_mem _ hx)
    have ha := h a List.mem_cons_self
    simp only [List.filter_cons]
    cases e : f a with
    | true => simp [ha e]; omega
    | false => simp only [Bool.false_eq_true, if_false]; split <;> simp <;> omega
section
variable {q : Qn} {R : Nat → List (List Int)} (t : Tame q) (fw : Few q R)
include t fw
theorem Tame.eight (c : Str) : (q.thru c).length + (q.ends c).length ≤ 8 := by
  unfold Qn.thru Qn.ends
  have h1 := filters_le (l := q.atomsOf c) (f := fun i => (q.at i).has) (g := fun i => !(q.at i).has && decide (q.last i = c)) fun x _ h => by simp [h]
  have h2 : (q.atomsOf c).length ≤ q.atoms.length := by
    unfold Qn.atomsOf
    have := List.length_filter_le (fun i => decide (c ∈ (q.at i).own)) (List.range q.atoms.length)
    simpa using this
  have := t.fa
  omega
theorem Few.vals {c : Str} {p : List Int} (hc : c ∈ q.cols) (hp : p.length = (q.above c).length) {i : Nat} (hi : i ∈ q.thru c) : (∀ r ∈ R i, p.length < r.length) ∧ ∀ v ∈ valsBehind (R i) p, -1 ≤ v ∧ v ≤ 7 := by
  have h1 : ∀ r ∈ R i, p.length < r.length := fun r hr => by
    rw [(fw.srt i).len r hr, hp]
    exact t.thru_len hc (mem_thru.mp hi).1
  refine ⟨h1, fun v hv => ?_⟩
  obtain ⟨r, hr, hm⟩ := vals_mem h1 hv
  exact fw.val i (mem_atomsOf.mp (mem_thru.mp hi).1).1 r hr v hm
theorem Few.gap {c : Str} {p : List Int} (hc : c ∈ q.cols) (hp : p.length = (q.above c).length) {x : Option Int} {g : Gap} (hg : g ∈ gapsAt q R c p x) :
    g.a < 8 ∧ (∀ v, g.lo = some v → -1 ≤ v ∧ v ≤ 7) ∧ (∀ y, g.hi = some y → -1 ≤ y ∧ y ≤ 7 ∧ ∀ v, x = some v → v < y) := by
  unfold gapsAt at hg
  obtain ⟨i, hi, rfl⟩ := List.mem_map.mp hg
  obtain ⟨hi, ho⟩ := List.mem_filter.mp hi
  obtain ⟨hl, hv⟩ := fw.vals t hc hp hi
  have hia := (mem_atomsOf.mp (mem_thru.mp hi).1).1
  have := t.fa
  have hm : ∀ y, y ∈ lawVals (R i) p → -1 ≤ y ∧ y ≤ 7 := fun y hy => hv y (mem_uniqV.mp hy)
  refine ⟨by show i < 8; omega, fun v h => ?_, fun y h => ?_⟩
  · cases x with
    | none => cases h
    | some x =>
      have h : ((lawVals (R i) p).filter fun v => decide (v < x)).getLast? = some v := h
      exact hm v (List.mem_filter.mp (List.mem_of_getLast? h)).1
  · cases x with
    | none =>
      have h : (lawVals (R i) p).head? = some y := h
      obtain ⟨h1, h2⟩ := hm y (List.mem_of_head? h)
      exact ⟨h1, h2, fun _ e => by cases e⟩
    | some x =>
      have h : ((lawVals (R i) p).filter fun v => decide (x < v)).head? = some y := h
      obtain ⟨m1, m2⟩ := List.mem_filter.mp (List.mem_of_head? h)
      obtain ⟨h1, h2⟩ := hm y m1
      exact ⟨h1, h2, fun v e => by cases e; simpa using m2⟩
theorem Few.loop {c : Str} {p : List Int} (hc : c ∈ q.cols) (hp : p.length = (q.above c).length) (hps : ∀ x ∈ p, x.natAbs ≤ 8) {Sub : List Int → D → D → List Look → Prop} {bl bs K : Nat} (hK : 1 ≤ K)
    (hsub : ∀ v, -1 ≤ v → v ≤ 7 → (∀ i ∈ q.thru c, 1 ≤ cntP (R i) (p ++ [v])) → ∃ s w M, Sub (p ++ [v]) s w M ∧ M.length ≤ bl * tot q R c (p ++ [v]) ∧ s.sl + w.sl + sumL (M.map Look.d) ≤ 40 + bs * tot q R c (p ++ [v]) ∧ s.Fn K ∧ w.Fn K ∧ ∀ m ∈ M, m.d.Fn 2) :
    ∀ (m : Nat) (x : Option Int), mu x ≤ m → (x = none ∨ ∃ v, x = some v ∧ -3 ≤ v ∧ v ≤ 8) → ∃ r : Cr, Loop q R Sub c p x r.G r.V r.B r.L ∧ r.G.length ≤ mu x ∧ r.V.length ≤ mu x ∧ r.B.length ≤ mu x ∧
      r.L.length ≤ 8 * mu x + bl * wgt q R c p x ∧ r.fine ≤ 800 * mu x + bs * wgt q R c p x ∧ r.Fn K := by
  have hp4 : p.length ≤ 4 := by rw [hp]; exact t.len4 hc
  have hpb : ∀ x ∈ p, x.natAbs < 1000 := fun x hx => by have := hps x hx; omega
  have h8 := Tame.eight t fw c
  have hthi : ∀ i ∈ q.thru c, i < 8 := fun i hi => by have := (mem_atomsOf.mp (mem_thru.mp hi).1).1; have := t.fa; omega
  have heni : ∀ i ∈ q.ends c, i < 8 := fun i hi => by
    unfold Qn.ends at hi
    have := (mem_atomsOf.mp (List.mem_filter.mp hi).1).1; have := t.fa; omega
  have gapSl : ∀ {x : Option Int} {g : Gap}, g ∈ gapsAt q R c p x → g.d.sl ≤ 21 ∧ g.d.Fn 1 := fun {x g} hg => by
    obtain ⟨g1, g2, g3⟩ := fw.gap t hc hp hg
    have a1 := sl_three (.int (g.a : Int)) (oi g.lo) (oi g.hi)
    have a2 : (D.int (g.a : Int)).sl ≤ 4 := sl_int (by omega)
    have b1 : ∀ v, g.lo = some v → v.natAbs < 1000 := fun v h => by have := g2 v h; omega
    have b2 : ∀ v, g.hi = some v → v.natAbs < 1000 := fun v h => by have := g3 v h; omega
    have a3 := sl_oi b1
    have a4 := sl_oi b2
    refine ⟨?_, fn_three (fn_int (by omega)) (fn_oi b1) (fn_oi b2)⟩
    show (D.tup [.int (g.a : Int), oi g.lo, oi g.hi]).sl ≤ 21
    omega
  intro m
  induction m with
  | zero =>
    intro x hm hx
    exfalso
    rcases hx with rfl | ⟨v, rfl, h1, h2⟩
    · simp [mu] at hm
    · simp only [mu] at hm; omega
  | succ m ih =>
    intro x hm hx
    have hmu : 1 ≤ mu x := by
      rcases hx with rfl | ⟨v, rfl, h1, h2⟩
      · simp [mu]
      · simp only [mu]; omega
    have hxb : ∀ v, x = some v → v.natAbs < 1000 := fun v e => by
      rcases hx with h | ⟨v', h, h1, h2⟩
      · rw [h] at e; cases e
      · rw [h] at e; cases e; omega
    have hasLk : ∀ l ∈ hasLooks q c p x, l.d.sl ≤ 50 ∧ l.d.Fn 2 := fun l hl => by
      unfold hasLooks at hl
      obtain ⟨i, hi, rfl⟩ := List.mem_map.mp hl
      exact look_at (by have := hthi i hi; omega) hpb (by omega) hxb
    have hasLen : (hasLooks q c p x).length = (q.thru c).length := by unfold hasLooks; simp
    have hasSum : sumL ((hasLooks q c p x).map Look.d) ≤ 52 * (q.thru c).length := by
      have := sumL_le (ds := (hasLooks q c p x).map Look.d) (k := 50) fun d hd => by
        obtain ⟨l, hl, rfl⟩ := List.mem_map.mp hd
        exact (hasLk l hl).1
      rwa [List.length_map, hasLen] at this
    cases hr : inRange q c x with
    | false => exact ⟨⟨[], [], [], []⟩, .out x hr, by simp, by simp, by simp, by simp, by simp [Cr.fine, sumL_nil], ⟨by simp, by simp, by simp, by simp⟩⟩
    | true =>
    cases hg : gapsAt q R c p x with
    | cons g gs =>
      have hf : gs.foldl farG g ∈ gapsAt q R c p x := by
        rw [hg]
        rcases far_mem gs g with e | e
        · rw [e]; exact List.mem_cons_self
        · exact List.mem_cons_of_mem _ e
      obtain ⟨s1, s2⟩ := gapSl hf
      cases hh : (gs.foldl farG g).hi with
      | none =>
        refine ⟨⟨[gs.foldl farG g], [], [], hasLooks q c p x⟩, .gapEnd x g gs hr hg hh, by simpa using hmu, by simp, by simp, by simp only [hasLen]; omega, ?_, ⟨fun z hz => by rw [List.mem_singleton.mp hz]; exact s2, by simp, by simp, fun l hl => (hasLk l hl).2⟩⟩
        simp only [Cr.fine, List.map_cons, List.map_nil, sumL_cons, sumL_nil]
        omega
      | some y =>
        obtain ⟨y1, y2, y3⟩ := (fw.gap t hc hp hf).2.2 y hh
        have hmy : mu (some y) + 1 ≤ mu x := by
          cases x with
          | none => simp only [mu]; omega
          | some v => have := y3 v rfl; simp only [mu] at hmu ⊢; omega
        have hwy : wgt q R c p (some y) ≤ wgt q R c p x := by
          unfold wgt
          refine sum_le fun i _ => ?_
          cases x with
          | none => exact cntGe_le _ _ _
          | some v => exact cntGe_mono (Int.le_of_lt (y3 v rfl))
        obtain ⟨r, r1, r2, r3, r4, r5, r6, r7⟩ := ih (some y) (by omega) (.inr ⟨y, rfl, by omega, by omega⟩)
        have e1 := Nat.mul_le_mul_left bl hwy
        have e2 := Nat.mul_le_mul_left bs hwy
        refine ⟨⟨gs.foldl farG g :: r.G, r.V, r.B, hasLooks q c p x ++ r.L⟩, .gapGo x g gs y _ _ _ _ hr hg hh r1, ?_, ?_, ?_, ?_, ?_, ⟨fun z hz => ?_, r7.v, r7.b, fun l hl => ?_⟩⟩
        · simp only [List.length_cons] <;> omega
        · show r.V.length ≤ _; omega
        · show r.B.length ≤ _; omega
        · simp only [List.length_append, hasLen]; omega
        · simp only [Cr.fine, List.map_cons, List.map_append, sumL_cons, sumL_app] at r6 ⊢; omega
        · rcases List.mem_cons.mp hz with rfl | hz
          · exact s2
          · exact r7.g z hz
        · rcases List.mem_append.mp hl with hl | hl
          · exact (hasLk l hl).2
          · exact r7.l l hl
    | nil =>
      have hout : ∀ i ∈ q.thru c, outO (lawVals (R i) p) x = false := fun i hi => by
        unfold gapsAt at hg
        have := List.filter_eq_nil_iff.mp (List.map_eq_nil_iff.mp hg) i hi
        simpa using this
      cases hxe : x with
      | none =>
        exfalso
        obtain ⟨i, hi⟩ := t.ex_thru hc
        have := hout i hi
        rw [hxe] at this
        cases this
      | some v =>
      subst hxe
      have hin : ∀ i ∈ q.thru c, v ∈ valsBehind (R i) p := fun i hi => by
        have := hout i hi
        unfold outO at this
        have this : v ∈ lawVals (R i) p := by simpa using this
        exact mem_uniqV.mp this
      obtain ⟨v1, v2⟩ : -1 ≤ v ∧ v ≤ 7 := by
        obtain ⟨i, hi⟩ := t.ex_thru hc
        exact (fw.vals t hc hp hi).2 v (hin i hi)
      have hmv : mu (some (v + 1)) + 1 = mu (some v) := by simp only [mu]; omega
      have hw : wgt q R c p (some v) = tot q R c (p ++ [v]) + wgt q R c p (some (v + 1)) := by
        unfold wgt tot
        rw [← sum_add]
        congr 1
        exact List.map_congr_left fun i hi => (cnt_split (fw.vals t hc hp hi).1).symm
      have hvb : v.natAbs < 1000 := by omega
      have hpv : ∀ x ∈ p ++ [v], x.natAbs < 1000 := fun x hx => by
        obtain hx | hx := List.mem_append.mp hx
        · exact hpb x hx
        · rw [List.mem_singleton.mp hx]; exact hvb
      have rowLk : ∀ l ∈ rowLooks q R c p v, l.d.sl ≤ 50 ∧ l.d.Fn 2 := fun l hl => by
        unfold rowLooks at hl
        obtain ⟨i, hi, rfl⟩ := List.mem_map.mp hl
        have hi : i ∈ q.ends c := by
          unfold asked at hi
          split at hi
          · exact hi
          · exact (List.mem_filter.mp hi).1
        exact look_row (by have := heni i hi; omega) hpv (by simp; omega)
      have rowLen : (rowLooks q R c p v).length ≤ (q.ends c).length := by
        unfold rowLooks asked
        rw [List.length_map]
        split
        · exact Nat.le_refl _
        · exact List.length_filter_le _ _
      have rowSum : sumL ((rowLooks q R c p v).map Look.d) ≤ 52 * (q.ends c).length := by
        have := sumL_le (ds := (rowLooks q R c p v).map Look.d) (k := 50) fun d hd => by
          obtain ⟨l, hl, rfl⟩ := List.mem_map.mp hd
          exact (rowLk l hl).1
        rw [List.length_map] at this
        omega
      obtain ⟨r, r1, r2, r3, r4, r5, r6, r7⟩ := ih (some (v + 1)) (by omega) (.inr ⟨v + 1, rfl, by omega, by omega⟩)
      rw [hw, Nat.mul_add, Nat.mul_add, ← hmv]
      cases hb : barred q R c p v with
      | cons b bs' =>
        have hb8 : b < 8 := heni b (by
          have : b ∈ barred q R c p v := by rw [hb]; exact List.mem_cons_self
          exact (List.mem_filter.mp this).1)
        have s1 : (rowD b).sl ≤ 16 := by
          have := sl_two (.str "row") (.int (b : Int))
          have := sl_int (i := (b : Int)) (by omega)
          have := sl_row
          show (D.tup [.str "row", .int (b : Int)]).sl ≤ 16
          omega
        have s2 : (rowD b).Fn 1 := fn_two fn_str (fn_int (by omega))
        have s3 := sl_two (.int v) (rowD b)
        have s4 := sl_int hvb
        refine ⟨⟨r.G, (v, rowD b) :: r.V, r.B, hasLooks q c p (some v) ++ (rowLooks q R c p v ++ r.L)⟩, .row v b bs' _ _ _ _ hr hg hb r1, ?_, ?_, ?_, ?_, ?_, ⟨r7.g, fun z hz => ?_, r7.b, fun l hl => ?_⟩⟩
        · show r.G.length ≤ _; omega
        · simp only [List.length_cons] <;> omega
        · show r.B.length ≤ _; omega
        · simp only [List.length_append, hasLen]; omega
        · simp only [Cr.fine, List.map_cons, List.map_append, sumL_cons, sumL_app, pD] at r6 ⊢; omega
        · rcases List.mem_cons.mp hz with rfl | hz
          · exact (fn_two (fn_int hvb) s2).mono (by omega)
          · exact r7.v z hz
        · rcases List.mem_append.mp hl with hl | hl
          · exact (hasLk l hl).2
          · rcases List.mem_append.mp hl with hl | hl
            · exact (rowLk l hl).2
            · exact r7.l l hl
      | nil =>
        obtain ⟨s, w, M, m1, m2, m3, m4, m5, m6⟩ := hsub v v1 v2 fun i hi => cnt_pos (fw.vals t hc hp hi).1 (hin i hi)
        have s3 := sl_two (.int v) w
        have s5 := sl_two (.int v) s
        have s4 := sl_int hvb
        have hL := Loop.sub (Sub := Sub) v s w M _ _ _ _ hr hg hb m1 r1
        have key : ∀ B' : List (Int × D), B'.length ≤ r.B.length + 1 → sumL (B'.map pD) ≤ 13 + s.sl + sumL (r.B.map pD) → (∀ z ∈ B', (pD z).Fn (K + 1)) → Loop q R Sub c p (some v) r.G ((v, w) :: r.V) B' (hasLooks q c p (some v) ++ (rowLooks q R c p v ++ (M ++ r.L))) →
            ∃ r' : Cr, Loop q R Sub c p (some v) r'.G r'.V r'.B r'.L ∧ r'.G.length ≤ mu (some (v + 1)) + 1 ∧ r'.V.length ≤ mu (some (v + 1)) + 1 ∧ r'.B.length ≤ mu (some (v + 1)) + 1 ∧
      r'.L.length ≤ 8 * (mu (some (v + 1)) + 1) + (bl * tot q R c (p ++ [v]) + bl * wgt q R c p (some (v + 1))) ∧ r'.fine ≤ 800 * (mu (some (v + 1)) + 1) + (bs * tot q R c (p ++ [v]) + bs * wgt q R c p (some (v + 1))) ∧ r'.Fn K := fun B' b1 b2 b3 b4 => by
          refine ⟨⟨r.G, (v, w) :: r.V, B', hasLooks q c p (some v) ++ (rowLooks q R c p v ++ (M ++ r.L))⟩, b4, ?_, ?_, ?_, ?_, ?_, ⟨r7.g, fun z hz => ?_, b3, fun l hl => ?_⟩⟩
          · show r.G.length ≤ _; omega
          · simp only [List.length_cons] <;> omega
          · show B'.length ≤ _; omega
          · simp only [List.length_append, hasLen]; omega
          · simp only [Cr.fine, List.map_cons, List.map_append, sumL_cons, sumL_app] at r6 ⊢
            have : (pD (v, w)).sl = (D.tup [.int v, w]).sl := rfl
            omega
          · rcases List.mem_cons.mp hz with rfl | hz
            · exact fn_two (fn_int hvb) m5
            · exact r7.v z hz
          · rcases List.mem_append.mp hl with hl | hl
            · exact (hasLk l hl).2
            · rcases List.mem_append.mp hl with hl | hl
              · exact (rowLk l hl).2
              · rcases List.mem_append.mp hl with hl | hl
                · exact m6 l hl
                · exact r7.l l hl
        refine key _ ?_ ?_ ?_ hL
        · cases s <;> simp
        · have hz : ∀ s : D, sumL (((v, s) :: r.B).map pD) = (D.tup [.int v, s]).sl + 2 + sumL (r.B.map pD) := fun s => by rw [List.map_cons, sumL_cons]; rfl
          cases s <;> first | (simp only []; omega) | (simp only [hz]; omega)
        · have hz : ∀ z ∈ (v, s) :: r.B, (pD z).Fn (K + 1) := fun z hz => by
            obtain rfl | hz := List.mem_cons.mp hz
            · exact fn_two (fn_int hvb) m4
            · exact r7.b z hz
          cases s <;> first | exact r7.b | exact hz
end
end E
/-! the law's run is there, and stays small -/
namespace E
open PySem L2
theorem choose {α β : Type} {P : α → β → Prop} : ∀ {l : List α}, (∀ a ∈ l, ∃ b, P a b) → ∃ bs, Paired P l bs
  | [], _ => ⟨[], .nil⟩
  | a :: l, h => by
    obtain ⟨b, hb⟩ := h a List.mem_cons_self
    obtain ⟨bs, hbs⟩ := choose fun x hx => h x (List.mem_cons_of_mem _ hx)
    exact ⟨b :: bs, .cons hb hbs⟩
theorem paired_sum {α β : Type} {P : α → β → Prop} {f : α → Nat} {g : β → Nat} (h : ∀ a b, P a b → g b ≤ f a) : ∀ {l : List α} {m : List β}, Paired P l m → (m.map g).sum ≤ (l.map f).sum
  | _, _, .nil => Nat.le_refl _
  | _, _, .cons hab t => by
    simp only [List.sum_cons, List.map_cons]
    have := paired_sum h t
    have := h _ _ hab
    omega
theorem Paired.imp {α β : Type} {P Q : α → β → Prop} (h : ∀ a b, P a b → Q a b) : ∀ {l : List α} {m : List β}, Paired P l m → Paired Q l m
  | _, _, .nil => .nil
  | _, _, .cons hab t => .cons (h _ _ hab) (Paired.imp h t)
theorem paired_mem {α β : Type} {P : α → β → Prop} : ∀ {l : List α} {m : List β}, Paired P l m → ∀ b ∈ m, ∃ a ∈ l, P a b
  | _, _, .nil, b, h => by cases h
  | _, _, .cons hab t, b, h => by
    obtain rfl | h := List.mem_cons.mp h
    · exact ⟨_, List.mem_cons_self, hab⟩
    · obtain ⟨a, ha, hp⟩ := paired_mem t b h
      exact ⟨a, List.mem_cons_of_mem _ ha, hp⟩
theorem le_sum {α : Type} (f : α → Nat) : ∀ {l : List α} {a : α}, a ∈ l → f a ≤ (l.map f).sum
  | b :: l, a, h => by
    simp only [List.sum_cons, List.map_cons]
    obtain rfl | h := List.mem_cons.mp h
    · omega
    · have := le_sum f h; omega
theorem sl_d2 (l : Lv) : l.d2.sl ≤ 13 + sumL (l.gaps.map Gap.d) + sumL (l.vals.map pD) := by
  have h1 := sl_two (.tup (l.gaps.map Gap.d)) (.tup (l.vals.map pD))
  have h2 := sl_tup (l.gaps.map Gap.d)
  have h3 := sl_tup (l.vals.map pD)
  show (D.tup [.tup (l.gaps.map Gap.d), .tup (l.vals.map pD)]).sl ≤ _
  omega
theorem fn_d2 {K : Nat} {r : Cr} (h : r.Fn K) (hK : 1 ≤ K) : r.lv.d2.Fn (K + 3) := fn_two (fn_tup (K := K + 1) fun d hd => by
    obtain ⟨g, hg, rfl⟩ := List.mem_map.mp hd
    exact (h.g g hg).mono (by omega)) (fn_tup (K := K + 1) fun d hd => by
    obtain ⟨g, hg, rfl⟩ := List.mem_map.mp hd
    exact h.v g hg)
theorem merged_fine {rs : List Cr} {K : Nat} (hK : 1 ≤ K) (hl : rs.length ≤ 5) (hf : ∀ r ∈ rs, r.Fn K) {s w : D} {L : List Look} (h : merged rs = (s, w, L)) :
    s.sl + w.sl + sumL (L.map Look.d) ≤ 40 + (rs.map fun r => 20 + r.fine).sum ∧ s.Fn (K + 5) ∧ w.Fn (K + 5) ∧ (∀ l ∈ L, l.d.Fn 2) ∧ L.length ≤ (rs.map fun r => r.L.length).sum := by
  have hm := merged_sum (fun l => l.d.sl + 2) rs
  have hn := merged_sum (fun _ => 1) rs
  have hfin : (rs.map fun r => 20 + r.fine).sum = 20 * rs.length + (rs.map fun r => sumL (r.G.map Gap.d) + sumL (r.V.map pD)).sum + (rs.map fun r => sumL (r.B.map pD)).sum + (rs.map fun r => sumL (r.L.map Look.d)).sum := by
    rw [← sum_const 20 rs, ← sum_add, ← sum_add, ← sum_add]
    congr 1
    refine List.map_congr_left fun r _ => ?_
    simp only [Cr.fine]
    omega
  have hL2 : (L.map fun l => l.d.sl + 2).sum = sumL (L.map Look.d) := by unfold sumL; rw [List.map_map]; rfl
  have hR2 : (rs.map fun r => (r.L.map fun l => l.d.sl + 2).sum) = rs.map fun r => sumL (r.L.map Look.d) := List.map_congr_left fun r _ => by unfold sumL; rw [List.map_map]; rfl
  rw [h] at hm hn
  simp only [] at hm hn
  rw [hL2, hR2] at hm
  have hone : ∀ l : List Look, (l.map fun _ => 1).sum = l.length := fun l => by rw [sum_const]; omega
  rw [hone] at hn
  have hn' : L.length ≤ (rs.map fun r => r.L.length).sum := by
    refine Nat.le_trans hn (Nat.le_of_eq ?_)
    congr 1
    exact List.map_congr_left fun r _ => hone r.L
  have hmem : ∀ l ∈ L, l.d.Fn 2 := fun l hlL => by
    rw [merged_is] at h
    injection h with _ h
    injection h with _ h
    rw [← h] at hlL
    obtain ⟨e, he, rfl⟩ := List.mem_map.mp hlL
    have he : e ∈ evs rs := by
      have aux : ∀ (l : List (Nat × Nat)), e ∈ (upto (isStop rs) l).1 → e ∈ l := fun l => by
        induction l with
        | nil => intro h; exact h
        | cons a l ih =>
          unfold upto
          split
          · intro h; simp only [List.mem_singleton] at h; subst h; exact List.mem_cons_self
          · intro h
            obtain rfl | h := List.mem_cons.mp h
            · exact List.mem_cons_self
            · exact List.mem_cons_of_mem _ (ih h)
      exact aux _ he
    unfold evs round at he
    obtain ⟨t, _, he⟩ := List.mem_flatMap.mp he
    obtain ⟨i, hi, rfl⟩ := List.mem_map.mp he
    obtain ⟨hi, ht⟩ := List.mem_filter.mp hi
    have hi := List.mem_range.mp hi
    have ht : t < lenAt rs i := by simpa using ht
    unfold lenAt at ht
    unfold lookAt
    rw [List.getElem?_eq_getElem hi] at ht
    simp only [List.getElem?_eq_getElem hi] at ht ⊢
    rw [List.getD_eq_getElem?_getD, List.getElem?_eq_getElem ht]
    exact (hf _ (List.getElem_mem hi)).l _ (List.getElem_mem ht)
  rw [merged_is] at h
  injection h with h1 h
  injection h with h2 h3
  suffices s.sl + w.sl ≤ 40 + 20 * rs.length + (rs.map fun r => sumL (r.G.map Gap.d) + sumL (r.V.map pD)).sum + (rs.map fun r => sumL (r.B.map pD)).sum ∧ s.Fn (K + 5) ∧ w.Fn (K + 5) by
    refine ⟨?_, this.2.1, this.2.2, hmem, hn'⟩
    rw [hfin]
    omega
  cases he : (upto (isStop rs) (evs rs)).2 with
  | some e =>
    rw [he] at h1 h2
    have h1 : D.non = s := h1
    have h2 : oneD rs e.2 = w := h2
    subst h1
    subst h2
    unfold oneD
    cases hr : rs[e.2]? with
    | none =>
      simp only []
      rw [sl_non]
      exact ⟨by omega, fn_non, fn_non⟩
    | some r =>
      simp only []
      have hi := (List.getElem?_eq_some_iff.mp hr).1
      have hrm := List.mem_of_getElem? hr
      have a1 := sl_three (.str "one") (.int (e.2 : Int)) r.lv.d2
      have a2 := sl_int (i := (e.2 : Int)) (by omega)
      have a3 := sl_d2 r.lv
      have a4 := sl_one
      have a5 := le_sum (fun r : Cr => sumL (r.G.map Gap.d) + sumL (r.V.map pD)) hrm
      simp only [Cr.lv] at a1 a3 a5 ⊢
      rw [sl_non]
      exact ⟨by omega, fn_non, (fn_three fn_str (fn_int (by omega)) (fn_d2 (hf r hrm) hK)).mono (by omega)⟩
  | none =>
    rw [he] at h1 h2
    have h1 : D.tup (rs.map fun r => .tup (r.B.map pD)) = s := h1
    have h2 : D.tup [.str "all", .tup (rs.map fun r => r.lv.d2)] = w := h2
    subst h1
    subst h2
    have a1 := sl_tup (rs.map fun r => D.tup (r.B.map pD))
    have a2 := sl_two (.str "all") (.tup (rs.map fun r => r.lv.d2))
    have a3 := sl_tup (rs.map fun r => r.lv.d2)
    have a4 := sl_all
    have b1 : sumL (rs.map fun r => D.tup (r.B.map pD)) ≤ 5 * rs.length + (rs.map fun r => sumL (r.B.map pD)).sum := by
      rw [← sum_const 5 rs, ← sum_add]
      unfold sumL
      rw [List.map_map]
      refine sum_le fun r _ => ?_
      have := sl_tup (r.B.map pD)
      show (D.tup (r.B.map pD)).sl + 2 ≤ 5 + sumL (r.B.map pD)
      omega
    have b2 : sumL (rs.map fun r => r.lv.d2) ≤ 15 * rs.length + (rs.map fun r => sumL (r.G.map Gap.d) + sumL (r.V.map pD)).sum := by
      rw [← sum_const 15 rs, ← sum_add]
      unfold sumL
      rw [List.map_map]
      refine sum_le fun r _ => ?_
      have := sl_d2 r.lv
      show r.lv.d2.sl + 2 ≤ 15 + (sumL (r.G.map Gap.d) + sumL (r.V.map pD))
      simp only [Cr.lv] at this ⊢
      omega
    refine ⟨by omega, ?_, ?_⟩
    · refine (fn_tup (K := K + 2) fun d hd => ?_).mono (by omega)
      obtain ⟨r, hr, rfl⟩ := List.mem_map.mp hd
      exact fn_tup fun d hd => by
        rcases List.mem_map.mp hd with ⟨b, hb, rfl⟩
        exact (hf r hr).b b hb
    · refine fn_two fn_str (fn_tup (K := K + 3) fun d hd => ?_)
      obtain ⟨r, hr, rfl⟩ := List.mem_map.mp hd
      exact fn_d2 (hf r hr) hK
section
variable {q : Qn} {R : Nat → List (List Int)} (t : Tame q) (fw : Few q R)
include t fw
theorem kids_tot (po : Option Str) (p : List Int) : ((q.kids po).map fun d => tot q R d p).sum ≤ 112 := by
  have e : ((q.kids po).map fun d => tot q R d p).sum = (((q.kids po).flatMap q.thru).map fun i => cntP (R i) p).sum := by rw [sum_flat]; rfl
  rw [e]
  have h1 := sub_sum (l := (q.kids po).flatMap q.thru) (m := List.range q.atoms.length) (fun i => cntP (R i) p) (t.nd_flat po) fun i hi => by
    obtain ⟨d, _, hd⟩ := List.mem_flatMap.mp hi
    exact List.mem_range.mpr (mem_atomsOf.mp (mem_thru.mp hd).1).1
  have h2 : ((List.range q.atoms.length).map fun i => cntP (R i) p).sum ≤ ((List.range q.atoms.length).map fun _ => 14).sum := sum_le fun i hi => Nat.le_trans (cntP_le _ _) (fw.few i (List.mem_range.mp hi))
  rw [sum_const, List.length_range] at h2
  have := t.fa
  omega
theorem kid_tot {c : Str} {p : List Int} : ((q.kids (some c)).map fun d => tot q R d p).sum ≤ tot q R c p := by
  have e : ((q.kids (some c)).map fun d => tot q R d p).sum = (((q.kids (some c)).flatMap q.thru).map fun i => cntP (R i) p).sum := by rw [sum_flat]; rfl
  rw [e]
  exact sub_sum (fun i => cntP (R i) p) (t.nd_flat _) fun i hi => by
    obtain ⟨d, hd, hi⟩ := List.mem_flatMap.mp hi
    exact (t.kid_sub hd).2 i hi
theorem srun_ex : ∀ (n : Nat) (po : Option Str) (p : List Int), n ≤ 6 → 6 ≤ n + p.length → p.length = q.down po → (∀ c, po = some c → c ∈ q.cols) → (∀ x ∈ p, x.natAbs ≤ 8) →
    ∃ s w L, SRun q R n (q.kids po) p s w L ∧ L.length ≤ ((q.kids po).map fun d => 104 + n * 104 * tot q R d p).sum ∧ s.sl + w.sl + sumL (L.map Look.d) ≤ 40 + ((q.kids po).map fun d => 10420 + n * 10420 * tot q R d p).sum ∧
      s.Fn (6 * n) ∧ w.Fn (6 * n) ∧ ∀ l ∈ L, l.d.Fn 2 := by
  intro n
  induction n with
  | zero =>
    intro po p _ h1 h2 h3 _
    exfalso
    cases po with
    | none => simp only [Qn.down] at h2; omega
    | some c =>
      have := t.len4 (h3 c rfl)
      simp only [Qn.down] at h2
      omega
  | succ n ih =>
    intro po p hn h1 h2 h3 h4
    have hex : ∀ d ∈ q.kids po, ∃ r : Cr, (d ∈ q.cols ∧ Loop q R (SRun q R n (q.kids (some d))) d p (q.rangeOf d).1 r.G r.V r.B r.L) ∧ (r.G.length ≤ 13 ∧ r.V.length ≤ 13 ∧ r.B.length ≤ 13) ∧ r.L.length ≤ 104 + (n + 1) * 104 * tot q R d p ∧ 20 + r.fine ≤ 10420 + (n + 1) * 10420 * tot q R d p ∧ r.Fn (6 * n + 1) := fun d hd => by
      have hdc := (mem_kids.mp hd).1
      have hdl := t.kid_down hd
      have hx := fw.rng d hdc
      have hmu : mu (q.rangeOf d).1 ≤ 13 := by
        rcases hx with e | ⟨v, e, e1, e2⟩
        · rw [e]; exact Nat.le_refl _
        · rw [e]; simp only [mu]; omega
      obtain ⟨r, r1, r2, r3, r4, r5, r6, r7⟩ := fw.loop t (Sub := SRun q R n (q.kids (some d))) (bl := (n + 1) * 104) (bs := (n + 1) * 10420) (K := 6 * n + 1) hdc (by rw [hdl]; exact h2) h4 (by omega) (fun v v1 v2 hv => by
        obtain ⟨s, w, M, m1, m2, m3, m4, m5, m6⟩ := ih (some d) (p ++ [v]) (by omega) (by rw [List.length_append]; simp; omega) (by rw [List.length_append, h2]; simp [Qn.down, hdl]) (fun c e => by cases e; exact hdc) (fun x hx => by
          obtain hx | hx := List.mem_append.mp hx
          · exact h4 x hx
          · rw [List.mem_singleton.mp hx]; omega)
        have hpos : ∀ e ∈ q.kids (some d), 1 ≤ tot q R e (p ++ [v]) := fun e he => by
          obtain ⟨i, hi⟩ := t.ex_thru (mem_kids.mp he).1
          have := hv i ((t.kid_sub he).2 i hi)
          have := le_sum (fun i => cntP (R i) (p ++ [v])) hi
          unfold tot
          omega
        have bnd : ∀ a : Nat, ((q.kids (some d)).map fun e => a + n * a * tot q R e (p ++ [v])).sum ≤ (n + 1) * a * tot q R d (p ++ [v]) := fun a => by
          have h5 : ((q.kids (some d)).map fun e => a + n * a * tot q R e (p ++ [v])).sum ≤ ((q.kids (some d)).map fun e => (n + 1) * a * tot q R e (p ++ [v])).sum := sum_le fun e he => by
            have h6 := Nat.mul_le_mul_left a (hpos e he)
            have h7 : (n + 1) * a * tot q R e (p ++ [v]) = n * a * tot q R e (p ++ [v]) + a * tot q R e (p ++ [v]) := by rw [Nat.add_mul n 1 a, Nat.one_mul, Nat.add_mul]
            rw [h7]
            omega
          rw [sum_mul] at h5
          exact Nat.le_trans h5 (Nat.mul_le_mul_left _ (kid_tot t fw))
        exact ⟨s, w, M, m1, Nat.le_trans m2 (bnd 104), by have := bnd 10420; omega, m4.mono (by omega), m5.mono (by omega), m6⟩) 13 _ hmu hx
      have hw : wgt q R d p (q.rangeOf d).1 ≤ tot q R d p := sum_le fun i _ => cntGe_le _ _ _
      have e1 := Nat.mul_le_mul_left ((n + 1) * 104) hw
      have e2 := Nat.mul_le_mul_left ((n + 1) * 10420) hw
      exact ⟨r, ⟨hdc, r1⟩, ⟨by omega, by omega, by omega⟩, by omega, by omega, r7⟩
    obtain ⟨rs, hrs⟩ := choose hex
    have hk5 : (q.kids po).length ≤ 5 := Nat.le_trans (List.length_filter_le _ _) t.fc
    have hlen := hrs.length
    have hK := kids_tot t fw po p
    have hsumL := paired_sum (g := fun r : Cr => r.L.length) (fun _ _ h => h.2.2.1) hrs
    have hsumF := paired_sum (g := fun r : Cr => 20 + r.fine) (fun _ _ h => h.2.2.2.1) hrs
    have hbig : ((q.kids po).map fun d => 104 + (n + 1) * 104 * tot q R d p).sum ≤ 100000 := by
      rw [sum_add, sum_const, sum_mul]
      have h5 : (n + 1) * 104 * ((q.kids po).map fun d => tot q R d p).sum ≤ 624 * 112 := Nat.mul_le_mul (by omega) hK
      omega
    obtain ⟨s, w, L, hm⟩ : ∃ s w L, merged rs = (s, w, L) := ⟨_, _, _, rfl⟩
    obtain ⟨f1, f2, f3, f4, f5⟩ := merged_fine (K := 6 * n + 1) (by omega) (by omega) (fun r hr => by
      obtain ⟨d, _, h⟩ := paired_mem hrs r hr
      exact h.2.2.2.2) hm
    have hpl : p.length ≤ 5 := by
      rw [h2]
      cases po with
      | none => simp [Qn.down]
      | some c => have := t.len4 (h3 c rfl); simp only [Qn.down]; omega
    refine ⟨s, w, L, ⟨rs, ?_, hm, by omega, by omega, by omega⟩, by omega, by omega, f2.mono (by omega), f3.mono (by omega), f4⟩
    have hmem : ∀ r ∈ rs, r.L.length ≤ 100000 := fun r hr => by have := le_sum (fun r : Cr => r.L.length) hr; omega
    have hkm : ∀ {l : List Str} {m : List Cr}, (∀ d ∈ l, d ∈ q.kids po) → (∀ r ∈ m, r.L.length ≤ 100000) → Paired (fun d r => (d ∈ q.cols ∧ Loop q R (SRun q R n (q.kids (some d))) d p (q.rangeOf d).1 r.G r.V r.B r.L) ∧ (r.G.length ≤ 13 ∧ r.V.length ≤ 13 ∧ r.B.length ≤ 13) ∧ r.L.length ≤ 104 + (n + 1) * 104 * tot q R d p ∧ 20 + r.fine ≤ 10420 + (n + 1) * 10420 * tot q R d p ∧ r.Fn (6 * n + 1)) l m →
        Paired (fun c r => c ∈ q.cols ∧ r.small ∧ (q.thru c ≠ [] ∧ ∀ i ∈ q.thru c, p.length < (q.at i).own.length) ∧ Loop q R (SRun q R n (q.kids (some c))) c p (q.rangeOf c).1 r.G r.V r.B r.L) l m := fun {l m} h1' h2' h => by
      induction h with
      | nil => exact .nil
      | cons hab _ ih2 =>
        have hdk := h1' _ List.mem_cons_self
        refine .cons ⟨hab.1.1, ⟨by omega, by omega, by omega, h2' _ List.mem_cons_self⟩, ⟨t.thru _ hab.1.1, fun i hi => by rw [h2, ← t.kid_down hdk]; exact t.thru_len hab.1.1 (mem_thru.mp hi).1⟩, hab.1.2⟩ (ih2 (fun d hd => h1' d (List.mem_cons_of_mem _ hd)) fun r hr => h2' r (List.mem_cons_of_mem _ hr))
    exact hkm (fun d hd => hd) hmem hrs
end
end E
/-! drawn questions are nested -/
namespace E
open PySem L2
/-- u is v, or above it in the forest -/
inductive Anc (ps : List (Option Nat)) : Nat → Nat → Prop
  | refl (u) : u < ps.length → Anc ps u u
  | step (u j v) : ps[v]? = some (some j) → Anc ps u j → Anc ps u v
inductive Line (ps : List (Option Nat)) : Nat → List Nat → Prop
  | root (i) : ps[i]? = some none → Line ps i [i]
  | step (i j l) : ps[i]? = some (some j) → Line ps j l → Line ps i (l ++ [i])
structure Frst (ps : List (Option Nat)) : Prop where
  lt : ∀ i j : Nat, ps[i]? = some (some j) → j < i
theorem Anc.trans {ps : List (Option Nat)} {u v w : Nat} (h1 : Anc ps u v) (h2 : Anc ps v w) : Anc ps u w := by
  induction h2 with
  | refl _ => exact h1
  | step j v e _ ih => exact .step _ _ _ e ih
theorem Anc.cmp {ps : List (Option Nat)} {u v w : Nat} (h1 : Anc ps u w) (h2 : Anc ps v w) : Anc ps u v ∨ Anc ps v u := by
  induction h1 with
  | refl _ => exact .inr h2
  | step j w e h1 ih =>
    cases h2 with
    | refl _ => exact .inl (.step _ _ _ e h1)
    | step j' _ e' h2' =>
      rw [e] at e'
      injection e' with e'
      injection e' with e'
      subst e'
      exact ih h2'
theorem Anc.le {ps : List (Option Nat)} (f : Frst ps) {u v : Nat} (h : Anc ps u v) : u ≤ v := by
  induction h with
  | refl _ => exact Nat.le_refl _
  | step j v e _ ih => have := f.lt _ _ e; omega
theorem Anc.ltl {ps : List (Option Nat)} {u v : Nat} (h : Anc ps u v) (f : Frst ps) : u < ps.length ∧ v < ps.length := by
  induction h with
  | refl h => exact ⟨h, h⟩
  | step j v e _ ih => exact ⟨ih.1, (List.getElem?_eq_some_iff.mp e).1⟩
theorem Line.mem {ps : List (Option Nat)} {v : Nat} {l : List Nat} (h : Line ps v l) : ∀ u, u ∈ l ↔ Anc ps u v := by
  induction h with
  | root i e =>
    intro u
    rw [List.mem_singleton]
    constructor
    · rintro rfl; exact .refl _ (List.getElem?_eq_some_iff.mp e).1
    · intro h
      cases h with
      | refl _ => rfl
      | step j _ e' _ => rw [e] at e'; cases e'
  | step i j l e _ ih =>
    intro u
    rw [List.mem_append, List.mem_singleton, ih]
    constructor
    · rintro (h | rfl)
      · exact .step _ _ _ e h
      · exact .refl _ (List.getElem?_eq_some_iff.mp e).1
    · intro h
      cases h with
      | refl _ => exact .inr rfl
      | step j' _ e' h' =>
        rw [e] at e'
        injection e' with e'
        injection e' with e'
        subst e'
        exact .inl h'
theorem Line.nd {ps : List (Option Nat)} (f : Frst ps) {v : Nat} {l : List Nat} (h : Line ps v l) : l.Nodup := by
  induction h with
  | root i e => simp
  | step i j l e hl ih =>
    refine List.nodup_append.mpr ⟨ih, by simp, fun a ha b hb => ?_⟩
    rw [List.mem_singleton.mp hb]
    have := ((hl.mem a).mp ha).le f
    have := f.lt _ _ e
    omega
def Leaf (ps : List (Option Nat)) (k : Nat) : Prop := k < ps.length ∧ ∀ i : Nat, ps[i]? ≠ some (some k)
theorem leaf_ex {ps : List (Option Nat)} (f : Frst ps) : ∀ (m u : Nat), ps.length ≤ u + m → u < ps.length → ∃ k, Anc ps u k ∧ Leaf ps k
  | 0, u, h1, h2 => by omega
  | m + 1, u, h1, h2 => by
    by_cases h : ∃ i : Nat, ps[i]? = some (some u)
    · obtain ⟨i, hi⟩ := h
      have := f.lt _ _ hi
      obtain ⟨k, k1, k2⟩ := leaf_ex f m i (by omega) (List.getElem?_eq_some_iff.mp hi).1
      exact ⟨k, (Anc.step _ _ _ hi (.refl _ h2)).trans k1, k2⟩
    · exact ⟨u, .refl _ h2, h2, fun i hi => h ⟨i, hi⟩⟩
/-- a question as it is drawn -/
structure Drawn (q : Qn) (names : List Str) (ps : List (Option Nat)) : Prop where
  nd : names.Nodup
  l5 : names.length ≤ 5
  l1 : 1 ≤ names.length
  pl : ps.length = names.length
  fr : Frst ps
  cols : q.cols.Perm names
  own : ∀ a ∈ q.atoms, ∃ k l, Line ps k l ∧ a.own.Perm (l.map fun u => names.getD u "")
  leaf : ∀ k, Leaf ps k → ∃ a ∈ q.atoms, a.has = true ∧ ∃ l, Line ps k l ∧ a.own.Perm (l.map fun u => names.getD u "")
  a8 : q.atoms.length ≤ 8
  rd : ∀ r ∈ q.ranges, r.1 ∈ q.cols
  rb : ∀ r ∈ q.ranges, (∀ v, r.2.1 = some v → -3 ≤ v ∧ v ≤ 2) ∧ (∀ v, r.2.2 = some v → v.natAbs ≤ 6) ∧ ∀ v h, r.2.1 = some v → r.2.2 = some h → v ≤ h
  r5 : q.ranges.length ≤ 5
section
variable {q : Qn} {names : List Str} {ps : List (Option Nat)} (d : Drawn q names ps)
include d
theorem Drawn.inj {u v : Nat} (hu : u < names.length) (hv : v < names.length) (h : names.getD u "" = names.getD v "") : u = v := by
  rw [List.getD_eq_getElem?_getD, List.getD_eq_getElem?_getD, List.getElem?_eq_getElem hu, List.getElem?_eq_getElem hv] at h
  exact (List.getElem_inj d.nd).mp h
theorem Drawn.col {c : Str} (h : c ∈ q.cols) : ∃ u, u < names.length ∧ names.getD u "" = c := by
  obtain ⟨u, hu, e⟩ := List.mem_iff_getElem.mp (d.cols.mem_iff.mp h)
  exact ⟨u, hu, by rw [List.getD_eq_getElem?_getD, List.getElem?_eq_getElem hu]; exact e⟩
theorem Drawn.inOwn {a : Atom} {k : Nat} {l : List Nat} (hl : Line ps k l) (ho : a.own.Perm (l.map fun u => names.getD u "")) {u : Nat} (hu : u < names.length) : names.getD u "" ∈ a.own ↔ Anc ps u k := by
  rw [ho.mem_iff, List.mem_map, ← hl.mem]
  constructor
  · rintro ⟨v, hv, e⟩
    have := (((hl.mem v).mp hv).ltl d.fr).1
    rw [d.pl] at this
    rw [← d.inj this hu e]
    exact hv
  · intro h; exact ⟨u, h, rfl⟩
theorem Drawn.tame : Tame q := by
  have hat : ∀ i, i < q.atoms.length → ∃ k l, Line ps k l ∧ (q.at i).own.Perm (l.map fun u => names.getD u "") := fun i hi => d.own _ (at_mem hi)
  refine ⟨d.cols.nodup_iff.mpr d.nd, fun i hi => ?_, fun c hc e he i h1 h2 => ?_, fun c hc => ?_, by rw [d.cols.length_eq]; exact d.l5, d.a8⟩
  · obtain ⟨k, l, hl, ho⟩ := hat i hi
    have hlt : ∀ u ∈ l, u < names.length := fun u hu => by rw [← d.pl]; exact (((hl.mem u).mp hu).ltl d.fr).1
    refine ⟨fun e => ?_, ho.nodup_iff.mpr ?_, fun c hc => ?_⟩
    · rw [e] at ho
      have := ho.length_eq
      rw [List.length_map] at this
      have : l ≠ [] := by cases hl <;> simp
      cases l with
      | nil => exact this rfl
      | cons _ _ => simp at *
    · exact List.pairwise_map.mpr ((hl.nd d.fr).imp_of_mem fun {a b} ha hb ne e => ne (d.inj (hlt a ha) (hlt b hb) e))
    · obtain ⟨u, hu, rfl⟩ := List.mem_map.mp (ho.mem_iff.mp hc)
      rw [d.cols.mem_iff, List.getD_eq_getElem?_getD, List.getElem?_eq_getElem (hlt u hu)]
      exact List.getElem_mem _
  · obtain ⟨u, hu, rfl⟩ := d.col hc
    obtain ⟨v, hv, rfl⟩ := d.col he
    have key : ∀ {u v : Nat}, u < names.length → v < names.length → Anc ps u v → ∀ j ∈ q.atomsOf (names.getD v ""), j ∈ q.atomsOf (names.getD u "") := fun {u v} hu hv ha j hj => by
      obtain ⟨hj, hm⟩ := mem_atomsOf.mp hj
      obtain ⟨k, l, hl, ho⟩ := hat j hj
      exact mem_atomsOf.mpr ⟨hj, (d.inOwn hl ho hu).mpr (ha.trans ((d.inOwn hl ho hv).mp hm))⟩
    obtain ⟨hi, hm1⟩ := mem_atomsOf.mp h1
    obtain ⟨_, hm2⟩ := mem_atomsOf.mp h2
    obtain ⟨k, l, hl, ho⟩ := hat i hi
    rcases ((d.inOwn hl ho hu).mp hm1).cmp ((d.inOwn hl ho hv).mp hm2) with h | h
    · exact .inr (key hu hv h)
    · exact .inl (key hv hu h)
  · obtain ⟨u, hu, rfl⟩ := d.col hc
    obtain ⟨k, k1, k2⟩ := leaf_ex d.fr ps.length u (by omega) (by rw [d.pl]; exact hu)
    obtain ⟨a, ha, hh, l, hl, ho⟩ := d.leaf k k2
    obtain ⟨i, hi, e⟩ := mem_at ha
    have : i ∈ q.thru (names.getD u "") := mem_thru.mpr ⟨mem_atomsOf.mpr ⟨hi, by rw [e]; exact (d.inOwn hl ho hu).mpr k1⟩, by rw [e]; exact hh⟩
    intro e2
    rw [e2] at this
    cases this
theorem Drawn.rangeCases (c : Str) : q.rangeOf c = (none, none) ∨ ∃ r ∈ q.ranges, q.rangeOf c = r.2 := by
  unfold Qn.rangeOf
  cases h : q.ranges.find? (fun r => decide (r.1 = c)) with
  | none => exact .inl rfl
  | some r => exact .inr ⟨r, List.mem_of_find?_eq_some h, rfl⟩
theorem Drawn.start (c : Str) : inRange q c (q.rangeOf c).1 = true := by
  rcases d.rangeCases c with e | ⟨r, hr, e⟩
  · rw [e]; rfl
  · unfold inRange
    rw [e]
    obtain ⟨b1, b2, b3⟩ := d.rb r hr
    cases e1 : r.2.1 with
    | none => rfl
    | some v =>
      cases e2 : r.2.2 with
      | none => rfl
      | some h => simpa using b3 v h e1 e2
end
/-- the drawn tables -/
structure DrawnT (q : Qn) (tb : Tbs) : Prop where
  gt : GT q tb
  few : ∀ a ∈ q.atoms, (rowsIn tb a.name).length ≤ 14
  val : ∀ a ∈ q.atoms, ∀ r ∈ rowsIn tb a.name, ∀ x ∈ r, -1 ≤ x ∧ x ≤ 7
theorem rowsIn_none {q : Qn} {tb : Tbs} {i : Nat} (h : ¬ i < q.atoms.length) : (q.at i).own = [] := by
  unfold Qn.at; rw [List.getD_eq_getElem?_getD, List.getElem?_eq_none (by omega)]
  rfl
theorem law_ok {q : Qn} {names : List Str} {ps : List (Option Nat)} {tb : Tbs} (d : Drawn q names ps) (g : DrawnT q tb) :
    Lc q tb ∧ ∃ sh pa looks, SRun q (rowsOf q tb) 6 (q.kids none) [] sh pa looks ∧ Runs q (rowsOf q tb) 6 (q.sibs (q.kids none) []) looks sh pa ∧ looks.length ≤ 100000 ∧
      sh.sl + pa.sl + sumL (looks.map Look.d) ≤ 8000000 ∧ sh.Fn 36 ∧ pa.Fn 36 ∧ ∀ l ∈ looks, l.d.Fn 2 := by
  have t := d.tame
  have hmem : ∀ i, i < q.atoms.length → (rowsOf q tb i).length ≤ 14 ∧ ∀ r ∈ rowsOf q tb i, ∀ x ∈ r, -1 ≤ x ∧ x ≤ 7 := fun i hi => by
    have ha := at_mem hi
    unfold rowsOf
    refine ⟨by rw [List.length_mergeSort, List.length_map]; exact g.few _ ha, fun r hr x hx => ?_⟩
    obtain ⟨r', hr', rfl⟩ := List.mem_map.mp (List.mem_mergeSort.mp hr)
    obtain ⟨c, hc, rfl⟩ := List.mem_map.mp hx
    have hco : c ∈ (q.at i).own := (List.mem_mergeSort.mp hc)
    have hl : (q.at i).own.idxOf c < r'.length := by
      rw [g.gt.row _ ha r' hr']
      exact List.idxOf_lt_length_of_mem hco
    rw [List.getD_eq_getElem?_getD, List.getElem?_eq_getElem hl]
    exact g.val _ ha r' hr' _ (List.getElem_mem hl)
  have fw : Few q (rowsOf q tb) := by
    refine ⟨rows_srt q tb, fun i h => (hmem i h).1, fun i h => (hmem i h).2, fun c hc => ?_⟩
    rcases d.rangeCases c with e | ⟨r, hr, e⟩
    · exact .inl (by rw [e])
    · rw [e]
      cases e1 : r.2.1 with
      | none => exact .inl rfl
      | some v => have := (d.rb r hr).1 v e1; exact .inr ⟨v, rfl, by omega, by omega⟩
  obtain ⟨s, w, L, h1, h2, h3, h4, h5, h6⟩ := srun_ex t fw 6 none [] (by omega) (by simp) (by simp [Qn.down]) (by simp) (by simp)
  have hk := kids_tot t fw none []
  have hk5 : (q.kids none).length ≤ 5 := Nat.le_trans (List.length_filter_le _ _) t.fc
  rw [sum_add, sum_const, sum_mul] at h2 h3
  refine ⟨⟨t.gd, t.nst, g.gt, fun i hi => by have := (hmem i hi).1; omega, by have := d.r5; omega⟩, s, w, L, h1, srun_runs t.gd (rows_srt q tb) (fun c _ => d.start c) _ _ _ _ _ _ h1, by omega, by omega, h4, h5, h6⟩
end E
/-! the bag of draws: read, written; its promise for all others -/
namespace E
open LamX L2 PyProof.Rows PySem PySem.Spec
section
variable {X : Cx} {T : List (Addr × Str)} {B0 H0 B H : Hp} {σ : L2.St} {ds : List Sl} {rest : List Stmt} {O : Out} {e a b : Expr} {x : Str} {pos p p2 p3 p4 : Pos} {i j : Nat} {l c : Addr} {vs : List V}
/-- xs[k] at a list, by values -/
theorem get_list0 : PGet X (fun o i H Q => ∃ p xs k v, o = .ref p ∧ i = .int k ∧ SqL X.K H p xs ∧ 0 ≤ k ∧ atI xs k = some v ∧ Q v H) := by
  intro pins s σ H o i ov iv Q I ro ri h
  obtain ⟨p, xs, k, z, rfl, rfl, hq, h0, he, q⟩ := h
  cases ro
  obtain ⟨t, rfl⟩ := ri
  obtain ⟨its, r, pl, hz⟩ := I.list hq
  rcases atI_get he with ⟨j, h1, h2, h3, h4, h5⟩
  obtain ⟨w, ew, rw'⟩ := r.get h2
  have hl := r.length
  have hn := line63
  have hj : k.toNat = j := by
    rw [seqIndex_of h0 h5] at h1
    exact Option.some.inj h1
  exact wpAny_getItem_list pl.isList h0 (by omega) (by rw [hj]; simpa using ew) ⟨z, H, I, rw', q⟩
/-- bag[k], an int -/
theorem pd_bagI (i : Nat) {k n : Int} (hd : ds[i]? = some (.bag l vs c)) (hk : atI vs k = some (.int n)) (hN : X.N[i]? = some x := by rfl) (hv : Vis X.env.scope x := by first | exact Or.inl rfl | exact Or.inr (Or.inl rfl) | exact Or.inr (Or.inr rfl)) (h1 : (x == ("__debug__" : Str)) = false := by decide)
    (h2 : (x == ("__classdict__" : Str)) = false := by decide) : PD X T (.Subscript (.Name x p) (.Constant (.int k) j p2) pos) ds (.int n) := fun B H σ o s Q q => by
  obtain ⟨e1, ⟨e2, e3⟩, e4, e5⟩ := s.bg i l vs c hd
  exact ofE (pe_ix ix_seq (pv i hN hv h1 h2) pe_int (fun _ _ => rfl)) ⟨_, e1, .inl ⟨l, vs, k, .int n, rfl, rfl, .of e2, hk, q _ B H o.refl (.int n)⟩⟩
/-- bag[3][n:] -/
theorem pln_bagS (i : Nat) {k : Int} {n : Nat} (hd : ds[i]? = some (.bag l vs c)) (hk : atI vs k = some (.ref c)) (hb : PD X T b ds (.int (n : Int))) (hN : X.N[i]? = some x := by rfl) (hv : Vis X.env.scope x := by first | exact Or.inl rfl | exact Or.inr (Or.inl rfl) | exact Or.inr (Or.inr rfl)) (h1 : (x == ("__debug__" : Str)) = false := by decide)
    (h2 : (x == ("__classdict__" : Str)) = false := by decide) : PLn X T (.Subscript (.Subscript (.Name x p) (.Constant (.int k) j p2) p3) (.Slice (some b) none none p4) pos) ds (fun d => ∃ ns : List Int, ns.length ≤ 100 ∧ d = ns.map .int) := fun B H σ o s Q q => by
  obtain ⟨e1, ⟨e2, ns, e6, e3⟩, e4, e5⟩ := s.bg i l vs c hd
  refine ofE (pe_slice sl_list (pe_ix ix_seq (pv i hN hv h1 h2) pe_int (fun _ _ => rfl)) (po_some peW) po_none) ⟨_, e1, .inl ⟨l, vs, k, .ref c, rfl, rfl, .of e2, hk, hb B H σ o s _ fun vb B2 H2 g2 b2 => ?_⟩⟩
  cases b2
  have o2 := g2.go o
  refine ⟨_, rfl, c, ns.map V.int, rfl, sqL_ext o2.extN (sqL_ext g2.extN e3), fun p hp => q p _ ((ns.drop n).map D.int) B2 (upd H2 p _) (g2.gr.dom p hp) (g2.trans (o2.ge (.new hp))) (o2.nb hp) ⟨ns.drop n, by rw [List.length_drop]; omega, rfl⟩ (by rw [upd_same, cutV_from, ← List.map_drop]) (daAll_ints _)⟩
/-- xs + ys of lists -/
theorem pln_cat {P R S : List D → Prop} (ha : PN X T a ds (fun d => ∃ l, d = .lst l ∧ P l)) (hb : PN X T b ds (fun d => ∃ l, d = .lst l ∧ R l)) (h : ∀ xs ys, P xs → R ys → xs.length + ys.length ≤ sizeLine ∧ S (xs ++ ys)) : PLn X T (.BinOp a .Add b pos) ds S := fun B H σ o s Q q =>
  ofE (pe_op op_cat peW peW) (ha B H σ o s _ fun va da B1 H1 g1 ⟨xs, ea, pa⟩ a1 => hb B1 H1 σ (g1.go o) (s.grow g1) _ fun vb db B2 H2 g2 ⟨ys, eb, pb⟩ b2 => by
    subst ea; subst eb
    obtain ⟨hl, hs⟩ := h xs ys pa pb
    have o2 := g2.go (g1.go o)
    cases a1.mono g2.extN with
    | @lst a' vs' _ h1 h2 => cases b2 with
      | @lst b' ws' _ k1 k2 =>
        exact ⟨_, _, _, _, rfl, rfl, o2.sub _ _ h1, o2.sub _ _ k1, by rw [h2.length, k2.length]; exact hl, fun p hp =>
          q p _ _ B2 (upd H2 p _) (g1.gr.dom _ (g2.gr.dom p hp)) ((g1.trans g2).trans (o2.ge (.new hp))) (o2.nb hp) hs upd_same (h2.append k2)⟩)
theorem pd_mul {m n : Int} (ha : PD X T a ds (.int m)) (hb : PD X T b ds (.int n)) (h : CMul m n) : PD X T (.BinOp a .Mult b pos) ds (.int (m * n)) :=
  PN.pd (pn_int2 (f := fun i j => i * j) op_mul (fun _ _ => rfl) (ha.pn (P := fun x => x = .int m) rfl) (hb.pn (P := fun x => x = .int n) rfl) fun x y hx hy => ⟨m, n, hx, hy, h, rfl⟩)
theorem pd_mod {m n : Int} (ha : PD X T a ds (.int m)) (hb : PD X T b ds (.int n)) (h : 0 < n) : PD X T (.BinOp a .Mod b pos) ds (.int (m % n)) :=
  PN.pd (pn_int2 (f := fun i j => i % j) op_mod (fun _ _ => rfl) (ha.pn (P := fun x => x = .int m) rfl) (hb.pn (P := fun x => x = .int n) rfl) fun x y hx hy => ⟨m, n, hx, hy, h, rfl⟩)
theorem pd_fdiv {m n : Int} (ha : PD X T a ds (.int m)) (hb : PD X T b ds (.int n)) (h : CDiv m n) : PD X T (.BinOp a .FloorDiv b pos) ds (.int (m / n)) :=
  PN.pd (pn_int2 (f := fun i j => i / j) op_fdiv (fun _ _ => rfl) (ha.pn (P := fun x => x = .int m) rfl) (hb.pn (P := fun x => x = .int n) rfl) fun x y hx hy => ⟨m, n, hx, hy, h, rfl⟩)
theorem pd_pow {m n : Int} (ha : PD X T a ds (.int m)) (hb : PD X T b ds (.int n)) (h : CPow m n) : PD X T (.BinOp a .Pow b pos) ds (.int (m ^ n.toNat)) :=
  PN.pd (pn_int2 (f := fun i j => i ^ j.toNat) op_pow (fun _ _ => rfl) (ha.pn (P := fun x => x = .int m) rfl) (hb.pn (P := fun x => x = .int n) rfl) fun x y hx hy => ⟨m, n, hx, hy, h, rfl⟩)
theorem pd_intI {n : Int} (hm : X.mg "int" = none) (ha : PD X T a ds (.int n)) (hg : Gl X "int" := by rfl) (he : starEach [a] X.env = (false, eval a X.env) :: starEach [] X.env := by exact se_of rfl) (hpl : (backTo pos (starEach [] X.env)).any (·.1) = false := by rfl) : PD X T (.Call (.Name "int" p) [a] [] pos) ds (.int n) :=
  pd_callTy call_int1 hm (by decide +kernel) (pds_cons ha pds_nil he) (fun vs B H Q o h q => by
    obtain ⟨v, rfl, h'⟩ := da1 h; clear h; revert h'; intro h
    cases h
    exact .inl ⟨n, rfl, q _ B H o.refl (.int _)⟩) hg (by decide) (by decide) he hpl
/-! ### the bag's list written -/
theorem Gr.mutB (g : Gr T H0 H) {ps : Array Value} (hn : H0 l = some (.tbl ps)) {u o : HO} (hu : H l = some u) (n1 : ∀ ps, u ≠ .tbl ps) (n2 : ∀ c q, u ≠ CodeO c q) : Gr T H0 (upd H l o) := by
  refine ⟨fun b x e n => ?_, fun t => ?_, fun b n => ?_⟩
  · by_cases hb : b = l
    · subst hb; rw [hn] at e; cases e; exact absurd rfl (n ps)
    · rw [upd_ne hb]; exact g.ext b x e n
  · exact tabs_upd (g.tab t) ⟨u, hu, n1, n2⟩
  · by_cases hb : b = l
    · subst hb; rw [upd_same] at n; cases n
    · rw [upd_ne hb] at n; exact g.dom b n
theorem Here.writeB {ws : List V} (h : Here X T B0 H0 B H σ ds) (hi : ds[i]? = some (.bag l vs c)) (hu : ∀ (j : Nat) l' vs' c', ds[j]? = some (.bag l' vs' c') → j = i) : Here X T B0 H0 B (upd H l (.lst ws)) σ (ds.set i (.bag l ws c)) := by
  obtain ⟨e1, ⟨e2, e3⟩, e4, e5⟩ := h.sd.bg i l vs c hi
  obtain ⟨ps, h0⟩ := h.so.2 i l vs c hi
  have sub : ∀ a o, B a = some o → upd H l (.lst ws) a = some o := fun a o e => by rw [upd_ne (ne_of_none e e4)]; exact h.go.sub a o e
  have gr := h.ge.gr.mutB (o := .lst ws) h0 e2 nofun nofun
  have out : ∀ {j : Nat} {s : Sl}, (ds.set i (.bag l ws c))[j]? = some s → (∀ l v c, s ≠ .bag l v c) → ds[j]? = some s := fun {j s} e n => by
    rcases set_get e with ⟨_, e, _⟩ | ⟨_, e⟩
    · exact absurd e (n _ _ _)
    · exact e
  refine ⟨⟨sub, h.go.nt, tabs_upd h.go.tab (mut_l e2)⟩, ⟨gr, h.ge.ext, sub, h.ge.new, h.ge.nt⟩, ⟨fun j d' e => ?_, fun j ys e => ?_, fun j ys e => ?_, fun j k ys zs m f1 f2 g1 g2 => ?_, by simpa using h.sd.len, fun j m ys d' e => ?_⟩, fun j m e f => ?_, fun j m ys d' e => ?_⟩
  · exact h.sd.dat j d' (out e nofun)
  · have e := out e nofun
    obtain ⟨m, us, f1, f2, f3, f4⟩ := h.sd.own j ys e
    exact ⟨m, us, f1, by rw [upd_ne (fun z => e5 j ys e (by rw [f1, z]))]; exact f2, f3, f4⟩
  · obtain ⟨m, us, f1, f2, f3, f4⟩ := h.sd.ownD j ys (out e nofun)
    have nm : m ≠ l := fun z => by rw [z, e2] at f2; cases f2
    exact ⟨m, us, f1, by rw [upd_ne nm]; exact f2, f3, f4⟩
  · exact h.sd.inj j k ys zs m (out f1 nofun) (out f2 nofun) g1 g2
  · rcases set_get e with ⟨rfl, e, _⟩ | ⟨ne, e⟩
    · cases e
      exact ⟨e1, ⟨upd_same, e3⟩, e4, fun k zs e6 => e5 k zs (out e6 nofun)⟩
    · exact absurd (hu j m ys d' e).symm ne
  · refine h.so.1 j m ?_ f
    rcases e with ⟨ys, e⟩ | ⟨ys, e⟩
    · exact .inl ⟨ys, out e nofun⟩
    · exact .inr ⟨ys, out e nofun⟩
  · rcases set_get e with ⟨rfl, e, _⟩ | ⟨ne, e⟩
    · cases e; exact ⟨ps, h0⟩
    · exact h.so.2 j m ys d' e
/-- bag[k] = e -/
theorem rg_bagSet (i : Nat) {k n : Int} {m : Nat} (hd : ds[i]? = some (.bag l vs c)) (hk : ixN vs.length k = some m) (h : PD X T e ds (.int n)) (hu : ∀ (j : Nat) l' vs' c', ds[j]? = some (.bag l' vs' c') → j = i) (kk : RG X T rest (ds.set i (.bag l (vs.set m (.int n)) c)) O)
    (hN : X.N[i]? = some x := by rfl) (hv : Vis X.env.scope x := by first | exact Or.inl rfl | exact Or.inr (Or.inl rfl) | exact Or.inr (Or.inr rfl)) (h1 : (x == ("__debug__" : Str)) = false := by decide) (h2 : (x == ("__classdict__" : Str)) = false := by decide)
    (hs : swapsWithSole [.Subscript (.Name x p) (.Constant (.int k) j p2) p3] e pos.line X.env = pure false := by rfl) (hw : swappedStores [.Subscript (.Name x p) (.Constant (.int k) j p2) p3] e X.env = pure none := by rfl) (ha : (assignEach [.Subscript (.Name x p) (.Constant (.int k) j p2) p3] X.env).map (·.2) = [assign (.Subscript (.Name x p) (.Constant (.int k) j p2) p3) X.env] := by rfl) :
    RG X T (.Assign [.Subscript (.Name x p) (.Constant (.int k) j p2) p3] e pos :: rest) ds O := fun B0 H0 B H σ De hh dn => by
  refine ss_cons (ofS (ps_asg peW (pg_sub (pv i hN hv h1 h2) pe_int set_list) hs hw ha) (h B H σ hh.go hh.sd _ fun v B1 H1 g1 a1 => ?_))
  cases a1
  have hh1 := hh.grow g1
  obtain ⟨e1, ⟨e2, e3⟩, e4, e5⟩ := hh1.sd.bg i l vs c hd
  exact ⟨_, e1, l, vs, k, m, rfl, rfl, e2, hk, kk B0 H0 B1 _ σ De (hh1.writeB hd hu) dn⟩
/-- bag[k] += 1 -/
theorem rg_bagAug (i : Nat) {k n n2 : Int} {m : Nat} (hd : ds[i]? = some (.bag l vs c)) (hk : ixN vs.length k = some m) (hk2 : atI vs k = some (.int n)) (hk0 : 0 ≤ k) (h : PD X T e ds (.int n2)) (hu : ∀ (j : Nat) l' vs' c', ds[j]? = some (.bag l' vs' c') → j = i) (kk : RG X T rest (ds.set i (.bag l (vs.set m (.int (n + n2))) c)) O)
    (hN : X.N[i]? = some x := by rfl) (hv : Vis X.env.scope x := by first | exact Or.inl rfl | exact Or.inr (Or.inl rfl) | exact Or.inr (Or.inr rfl)) (h1 : (x == ("__debug__" : Str)) = false := by decide) (h2 : (x == ("__classdict__" : Str)) = false := by decide) :
    RG X T (.AugAssign (.Subscript (.Name x p) (.Constant (.int k) j p2) p3) .Add e pos :: rest) ds O := fun B0 H0 B H σ De hh dn => by
  obtain ⟨e1, ⟨e2, e3⟩, e4, e5⟩ := hh.sd.bg i l vs c hd
  refine ss_cons (ofS (ps_augS (pv i hN hv h1 h2) pe_int get_list0 peW ip_add set_list) ⟨_, e1, l, vs, k, .int n, rfl, rfl, .of e2, hk0, hk2, h B H σ hh.go hh.sd _ fun v B1 H1 g1 a1 => ?_⟩)
  cases a1
  have hh1 := hh.grow g1
  obtain ⟨e1, ⟨e2, e3⟩, e4, e5⟩ := hh1.sd.bg i l vs c hd
  exact ⟨n, n2, rfl, rfl, l, vs, k, m, rfl, rfl, e2, hk, kk B0 H0 B1 _ σ De (hh1.writeB hd hu) dn⟩
end
end E
/-! defs that write the bag: their promise at the bag as it stands, and as data -/
namespace E
open LamX L2 PyProof.Rows PySem PySem.Spec
abbrev bagV (n0 n1 : Int) (n2 : Nat) (c : Addr) : List V := [.int n0, .int n1, .int (n2 : Int), .ref c]
/-- the promise, the bag's list known -/
def SpX (T : List (Addr × Str)) (K : PySem.W.Frag) {A : Type} (args : A → List D) (Pre : A → Prop) (R : A → D → Prop) : Sp := fun us H Q _ =>
  ∃ (B : Hp) (x : A) (l c : Addr) (b0 b1 : Int) (b2 : Nat) (vs : List V), us = .ref l :: vs ∧ Go T B H ∧ H l = some (.lst (bagV b0 b1 b2 c)) ∧ B l = none ∧ CellsAt K B c ∧ DaAll K B vs (args x) ∧ Pre x ∧
    ∀ v d B2 H2 n0 n1 (n2 : Nat), Ge T B (upd H l (.tbl #[])) B2 H2 → H2 l = some (.lst (bagV n0 n1 n2 c)) → B2 l = none → R x d → Da K B2 v d → Q v H2
section
variable {T : List (Addr × Str)} {K : PySem.W.Frag} {B H : Hp} {l c : Addr}
theorem start_sdB {vs : List V} {dl : List D} {bs : List V} (N : List Str) (h : DaAll K B vs dl) (hN : vs.length + 1 ≤ N.length) (h1 : H l = some (.lst bs)) (h2 : B l = none) (h3 : CellsAt K B c) :
    Sd K B H (L2.start N (.ref l :: vs)) (.bag l bs c :: (dl.map Sl.dat ++ List.replicate (N.length - (dl.length + 1)) .no)) := by
  have hl := h.length
  have no : ∀ (i : Nat) s, (Sl.bag l bs c :: (dl.map Sl.dat ++ List.replicate (N.length - (dl.length + 1)) Sl.no))[i]? = some s → (i = 0 ∧ s = .bag l bs c) ∨ (∃ d j, i = j + 1 ∧ s = .dat d ∧ dl[j]? = some d) ∨ s = .no := fun i s e => by
    cases i with
    | zero => exact .inl ⟨rfl, by simpa using e.symm⟩
    | succ j =>
      rw [List.getElem?_cons_succ] at e
      by_cases hi : j < dl.length
      · rw [List.getElem?_append_left (by simpa using hi), List.getElem?_map] at e
        cases q : dl[j]? with
        | none => rw [q] at e; cases e
        | some d => rw [q] at e; cases e; exact .inr (.inl ⟨d, j, rfl, rfl, q⟩)
      · rw [List.getElem?_append_right (by simp; omega), List.getElem?_replicate] at e
        split at e
        · cases e; exact .inr (.inr rfl)
        · cases e
  refine ⟨fun i d e => ?_, fun i xs e => ?_, fun i xs e => ?_, fun i j xs ys l e1 => ?_, ?_, fun i l' bs' c' e => ?_⟩
  · rcases no i _ e with ⟨_, h1⟩ | ⟨d', j, hj, h1, h2⟩ | h1
    · cases h1
    · cases h1
      subst hj
      obtain ⟨v, h3, h4⟩ := h.get h2
      refine ⟨v, ?_, h4⟩
      unfold L2.start
      rw [List.getElem?_append_left (by simp; exact (List.getElem?_eq_some_iff.mp h3).1), List.getElem?_map, List.getElem?_cons_succ, h3]
      rfl
    · cases h1
  · rcases no i _ e with ⟨_, h1⟩ | ⟨d', j, hj, h1, h2⟩ | h1 <;> cases h1
  · rcases no i _ e with ⟨_, h1⟩ | ⟨d', j, hj, h1, h2⟩ | h1 <;> cases h1
  · rcases no i _ e1 with ⟨_, h1⟩ | ⟨d', j, hj, h1, h2⟩ | h1 <;> cases h1
  · unfold L2.start; simp [hl]
  · rcases no i _ e with ⟨hi, h4⟩ | ⟨d', j, hj, h4, h5⟩ | h4
    · cases h4
      subst hi
      refine ⟨by unfold L2.start; simp, ⟨h1, h3⟩, h2, fun j ys e2 => ?_⟩
      rcases no j _ e2 with ⟨_, h6⟩ | ⟨d', j', hj, h6, h7⟩ | h6 <;> cases h6
    · cases h4
    · cases h4
theorem start_soB {H0 : Hp} {σ : L2.St} {dl : List D} {n : Nat} {bs : List V} {ps : Array Value} (h0 : H0 l = some (.tbl ps)) : So H0 σ (.bag l bs c :: (dl.map Sl.dat ++ List.replicate n .no)) := by
  have no : ∀ (i : Nat) s, (Sl.bag l bs c :: (dl.map Sl.dat ++ List.replicate n Sl.no))[i]? = some s → s = .bag l bs c ∨ (∃ d, s = .dat d) ∨ s = .no := fun i s e => by
    have hm := List.mem_of_getElem? e
    rcases List.mem_cons.mp hm with m | m
    · exact .inl m
    · rcases List.mem_append.mp m with m | m
      · obtain ⟨d, _, rfl⟩ := List.mem_map.mp m; exact .inr (.inl ⟨d, rfl⟩)
      · exact .inr (.inr (List.eq_of_mem_replicate m))
  refine ⟨fun i l e => ?_, fun i l' xs c' e => ?_⟩
  · exfalso
    rcases e with ⟨xs, e⟩ | ⟨xs, e⟩ <;> rcases no i _ e with h | ⟨d, h⟩ | h <;> cases h
  · rcases no i _ e with h | ⟨d, h⟩ | h
    · cases h; exact ⟨ps, h0⟩
    · cases h
    · cases h
theorem Go.geB {bs : List V} (o : Go T B H) (h1 : H l = some (.lst bs)) : Ge T B (upd H l (.tbl #[])) B H := by
  refine ⟨⟨fun b u e n => ?_, fun _ => o.tab, fun b n => ?_⟩, fun _ _ h => h, o.sub, fun a m => .inl fun n => by rw [n] at m; exact m, o.nt⟩
  · by_cases hb : b = l
    · subst hb; rw [upd_same] at e; cases e; exact absurd rfl (n #[])
    · rw [upd_ne hb] at e; exact e
  · have hb : b ≠ l := fun z => by subst z; rw [h1] at n; cases n
    rw [upd_ne hb]; exact n
end
theorem df_mkB {P : Program} {w : World} {K : PySem.W.Frag} {mg : Str → Option Value} {base : Heap} {T : List (Addr × Str)} {A : Type} {args : A → List D} {Pre : A → Prop} {R : A → D → Prop} {k : Nat} {name : Str} {N ps : List Str} {st : Stmt} (F : At K mg name st ps) (S : FnScope N ps (defScope st))
    (hlen : ∀ x, (args x).length + 1 = ps.length) (hbody : ∀ (f : Addr) (cd : Value) (A' : Around) (outer : List Env) (s : Shared) (H : Hp) (E : XK), Room k (dcx P w K mg base N name (defScope st) f cd A' outer s H E).A → ∀ x, Pre x → ∀ (l c : Addr) (b0 b1 : Int) (b2 : Nat),
      RG (dcx P w K mg base N name (defScope st) f cd A' outer s H E) T (defBody st) (.bag l (bagV b0 b1 b2 c) c :: ((args x).map Sl.dat ++ List.replicate (N.length - ps.length) .no)) { rt := R x, ex := fun B2 H2 => B2 l = none ∧ ∃ n0 n1, ∃ n2 : Nat, H2 l = some (.lst (bagV n0 n1 n2 c)) }) : DfOk P w K mg base (k + 1) name ps (SpX T K args Pre R) := by
  obtain ⟨f, fd, F, hm, hb⟩ := F
  refine ⟨f, fd, F.ok S (fun vs H Q E h => ?_) (fun cdv A' outer s H us Q E hr h => ?_), hm, F.kp, hb⟩
  · obtain ⟨B, x, l, c, b0, b1, b2, vs', rfl, _, _, _, _, h, _⟩ := h
    rw [List.length_cons, h.length, hlen]
  · obtain ⟨B, x, l, c, b0, b1, b2, vs, rfl, o, h1, h2, h3, h, px, q⟩ := h
    refine ⟨_, pssW, ?_⟩
    have hpl : ps.length ≤ N.length := by
      have e := congrArg List.length S.pre
      rw [List.length_take] at e
      omega
    have hl : vs.length + 1 ≤ N.length := by rw [h.length, hlen]; exact hpl
    have sd := start_sdB (H := H) N h hl h1 h2 h3
    rw [hlen] at sd
    exact hbody f cdv A' outer s H E hr x px l c b0 b1 b2 B (upd H l (.tbl #[])) B H (L2.start N (.ref l :: vs)) _ ⟨o, o.geB h1, sd, start_soB (upd_same)⟩
      ⟨fun v d B2 H2 g r a ⟨e1, n0, n1, n2, e2⟩ => q v d B2 H2 n0 n1 n2 g e2 e1 r a, fun _ _ _ _ n => n.elim, fun _ _ _ _ n => n.elim, fun _ _ _ _ n => n.elim⟩

/-! ### data without the bag -/
mutual
def D.nb : D → Bool
  | .bag => false
  | .scr _ => false
  | .tup xs => D.nbs xs
  | .ftp xs => D.nbs xs
  | .lst xs => D.nbs xs
  | .dic kvs => D.nbk kvs
  | _ => true
def D.nbs : List D → Bool
  | [] => true
  | d :: ds => d.nb && D.nbs ds
def D.nbk : List (Str × D) → Bool
  | [] => true
  | (_, d) :: ds => d.nb && D.nbk ds
end
mutual
theorem Da.less {K : PySem.W.Frag} {B B' : Hp} {l : Addr} {φ : Heap → Prop} (hl : B l = some (.ext φ)) (e : ∀ a, a ≠ l → B' a = B a) : ∀ {v : V} {d : D}, d.nb = true → Da K B v d → Da K B' v d
  | _, _, _, .non => .non
  | _, _, _, .bl b => .bl b
  | _, _, _, .int i => .int i
  | _, _, _, .str i => .str i
  | _, _, h, .lst h1 h2 => .lst (by rw [e _ (fun z => by subst z; rw [hl] at h1; cases h1)]; exact h1) (h2.less hl e (by simpa [D.nb] using h))
  | _, _, h, .tup h1 h2 => .tup (h1.imp (fun hs => hs.elim (fun hs => .inl (by rw [e _ (fun z => by subst z; rw [hl] at hs; cases hs)]; exact hs)) fun ⟨o, hs⟩ => .inr ⟨o, by rw [e _ (fun z => by subst z; rw [hl] at hs; cases hs)]; exact hs⟩) id) (h2.less hl e (by simpa [D.nb] using h))
  | _, _, h, .ftp h1 h3 h2 => .ftp (by rw [e _ (fun z => by subst z; rw [hl] at h1; cases h1)]; exact h1) h3 (h2.less hl e (by simpa [D.nb] using h))
  | _, _, h, .dic h1 h2 => .dic (by rw [e _ (fun z => by subst z; rw [hl] at h1; cases h1)]; exact h1) (h2.less hl e (by simpa [D.nb] using h))
  | _, _, h, .bag _ _ => by simp [D.nb] at h
  | _, _, h, .scr _ => by simp [D.nb] at h
theorem DaAll.less {K : PySem.W.Frag} {B B' : Hp} {l : Addr} {φ : Heap → Prop} (hl : B l = some (.ext φ)) (e : ∀ a, a ≠ l → B' a = B a) : ∀ {v : List V} {d : List D}, D.nbs d = true → DaAll K B v d → DaAll K B' v d
  | _, _, _, .nil => .nil
  | _, _, h, .cons h1 h2 => by
    simp only [D.nbs, Bool.and_eq_true] at h
    exact .cons (h1.less hl e h.1) (h2.less hl e h.2)
theorem DaKv.less {K : PySem.W.Frag} {B B' : Hp} {l : Addr} {φ : Heap → Prop} (hl : B l = some (.ext φ)) (e : ∀ a, a ≠ l → B' a = B a) : ∀ {v : List (Key × V)} {d : List (Str × D)}, D.nbk d = true → DaKv K B v d → DaKv K B' v d
  | _, _, _, .nil => .nil
  | _, _, h, .cons h1 h2 => by
    simp only [D.nbk, Bool.and_eq_true] at h
    exact .cons (h1.less hl e h.1) (h2.less hl e h.2)
end
theorem cells_less {K : PySem.W.Frag} {B B' : Hp} {l c : Addr} {φ : Heap → Prop} (hl : B l = some (.ext φ)) (e : ∀ a, a ≠ l → B' a = B a) (h : CellsAt K B c) : CellsAt K B' c := by
  obtain ⟨ns, h1, h2⟩ := h
  exact ⟨ns, h1, h2.imp (fun hs => hs.elim (fun hs => .inl (by rw [e _ (fun z => by subst z; rw [hl] at hs; cases hs)]; exact hs)) fun ⟨o, hs⟩ => .inr ⟨o, by rw [e _ (fun z => by subst z; rw [hl] at hs; cases hs)]; exact hs⟩) id⟩
/-! ### the bag's list and the bag as a thing by what is true of it -/
section
variable {P : Program} {w : World} {H : Hp} {h : Heap} {l c : Addr}
theorem bag_open (k : HOk P w H h) (hl : H l = some (BagO l c)) : ∃ (b0 b1 : Int) (b2 : Nat), HOk P w (upd H l (.lst (bagV b0 b1 b2 c))) h := by
  obtain ⟨⟨b0, b1, b2, t0, t1, t2, n, e⟩, _, _⟩ := k l _ hl
  refine ⟨b0, b1, b2, fun a o ha => ?_⟩
  by_cases z : a = l
  · subst z
    rw [upd_same] at ha
    cases ha
    exact ⟨by show 4 ≤ sizeLine; decide, _, n, .cons ⟨t0, rfl⟩ (.cons ⟨t1, rfl⟩ (.cons ⟨t2, rfl⟩ (.cons rfl .nil))), e⟩
  · rw [upd_ne z] at ha
    exact (k a o ha).stay (fun _ _ _ q => q) (fun b q => by rw [upd_ne (fun y => by subst y; rw [hl] at q; cases q)]; exact q) fun b xs q => by rw [upd_ne (fun y => by subst y; rw [hl] at q; cases q)]; exact q
theorem bag_close {b0 b1 : Int} {b2 : Nat} (k : HOk P w H h) (hl : H l = some (.lst (bagV b0 b1 b2 c))) : HOk P w (upd H l (BagO l c)) h := fun a o ha => by
  by_cases z : a = l
  · subst z
    rw [upd_same] at ha
    cases ha
    obtain ⟨_, its, n, r, e⟩ := k a _ hl
    cases r with
    | cons r0 r => cases r with
      | cons r1 r => cases r with
        | cons r2 r => cases r with
          | cons r3 r =>
            cases r
            obtain ⟨t0, rfl⟩ := r0
            obtain ⟨t1, rfl⟩ := r1
            obtain ⟨t2, rfl⟩ := r2
            cases r3
            refine ⟨⟨b0, b1, b2, t0, t1, t2, n, e⟩, ⟨_, e⟩, ?_⟩
            rintro h1 h2 ⟨a0, a1, a2, u0, u1, u2, m, e1⟩ g
            exact ⟨a0, a1, a2, u0, u1, u2, m, g _ e1⟩
  · rw [upd_ne z] at ha
    exact (k a o ha).stay (fun _ _ _ q => q) (fun b q => by rw [upd_ne (fun y => by subst y; rw [hl] at q; cases q)]; exact q) fun b xs q => by rw [upd_ne (fun y => by subst y; rw [hl] at q; cases q)]; exact q
theorem tabs_open {T : List (Addr × Str)} (k : HOk P w H h) (hl : H l = some (BagO l c)) (t : Tabs T H) (o : HO) : Tabs T (upd H l o) := fun p hp => by
  obtain ⟨⟨b0, b1, b2, t0, t1, t2, n, e⟩, _, _⟩ := k l _ hl
  obtain ⟨ps, h1, h2, h3⟩ := t p hp
  have e1 : p.1 ≠ l := fun z => by rw [z, hl] at h1; cases h1
  refine ⟨ps, by rw [upd_ne e1]; exact h1, h2, fun pos cv hc => ?_⟩
  obtain ⟨d, e2, h4⟩ := h3 pos cv hc
  have e3 : d ≠ l := fun z => by
    subst z
    obtain ⟨⟨oc, vs, tt, k1, k2, _⟩, _, _⟩ := k d _ h4
    rw [e] at k1
    cases k1
    cases k2
  exact ⟨d, e2, by rw [upd_ne e3]; exact h4⟩
end
theorem df_bag {P : Program} {w : World} {K : PySem.W.Frag} {mg : Str → Option Value} {base : Heap} {T : List (Addr × Str)} {A : Type} {args : A → List D} {Pre : A → Prop} {R : A → D → Prop} {k : Nat} {name : Str} {ps : List Str} (F : DfOk P w K mg base k name ps (SpX T K args Pre R))
    (hlen : ∀ x, (args x).length + 1 = ps.length) (hnb : ∀ x, D.nbs (args x) = true) : DfOk P w K mg base k name ps (SpF T K (fun x => .bag :: args x) Pre R) := by
  obtain ⟨f, fd, F, hm, hk, hb⟩ := F
  refine ⟨f, fd, ⟨fun vs H Q E h => ?_, fun A' outer s H as us vs Q E hr he hbd hv hs => ?_⟩, hm, hk, hb⟩
  · obtain ⟨B, x, _, h, _⟩ := h
    rw [h.length, List.length_cons, hlen]
  · obtain ⟨B, x, o, ha, px, q⟩ := hs
    cases ha with
    | cons hd ha =>
    cases hd with
    | @bag l c hB hC =>
    have hl : H l = some (BagO l c) := o.sub _ _ hB
    obtain ⟨b0, b1, b2, hok⟩ := bag_open he.hok hl
    let B1 : Hp := fun a => if a = l then none else B a
    have hB1 : ∀ a, a ≠ l → B1 a = B a := fun a z => if_neg z
    have hB1l : B1 l = none := if_pos rfl
    have nl : ∀ b, H b = none → b ≠ l := fun b e z => by subst z; rw [hl] at e; cases e
    have o1 : Go T B1 (upd H l (.lst (bagV b0 b1 b2 c))) := ⟨fun a u e => by
      have z : a ≠ l := fun z => by subst z; rw [hB1l] at e; cases e
      rw [upd_ne z]; rw [hB1 a z] at e; exact o.sub a u e, fun a ps e => by
      have z : a ≠ l := fun z => by subst z; rw [hB1l] at e; cases e
      rw [hB1 a z] at e; exact o.nt a ps e, tabs_open he.hok hl o.tab _⟩
    refine codeAny_mono (F.run A' outer s (upd H l (.lst (bagV b0 b1 b2 c))) as us _ (fun v H2 => ∃ n0 n1, ∃ n2 : Nat, H2 l = some (.lst (bagV n0 n1 n2 c)) ∧ Q v (upd H2 l (BagO l c))) E hr
      ⟨he.frames, he.mod, fun b u e => ⟨(he.bs b u e).1, by rw [upd_ne (nl b (he.bs b u e).2)]; exact (he.bs b u e).2⟩, he.bsz, he.funs, fun b hbf => by rw [upd_ne (nl b (he.frf b hbf))]; exact he.frf b hbf, hok, he.bare⟩ hbd hv
      ⟨B1, x, l, c, b0, b1, b2, _, rfl, o1, upd_same, hB1l, cells_less hB hB1 hC, ha.less hB hB1 (hnb x), px, fun v d B2 H2 n0 n1 n2 g e1 e2 r a => ⟨n0, n1, n2, e1, ?_⟩⟩) fun r s' hr' => ?_
    · -- the bag is a thing again
      have gB : ∀ a u, B a = some u → upd B2 l (BagO l c) a = some u := fun a u e => by
        by_cases z : a = l
        · subst z; rw [upd_same, ← e, hB]
        · rw [upd_ne z]; exact g.ext a u (by rw [hB1 a z]; exact e)
      have eN : ExtN B2 (upd B2 l (BagO l c)) := ext_take e2
      refine q v d (upd B2 l (BagO l c)) (upd H2 l (BagO l c)) ⟨⟨fun b u e n => ?_, fun t => ?_, fun b n => ?_⟩, gB, fun a u e => ?_, fun a m => ?_, fun a ps e => ?_⟩ r (a.mono eN)
      · by_cases z : b = l
        · subst z; rw [upd_same, ← e, hl]
        · rw [upd_ne z]; exact g.gr.ext b u (by rw [upd_ne z, upd_ne z]; exact e) n
      · refine tabs_upd (g.gr.tab fun p hp => ?_) (mut_l e1)
        have t2 := tabs_open he.hok hl t (.tbl #[]) p hp
        obtain ⟨ps, h1, h2, h3⟩ := t2
        have eq : upd (upd H l (.lst (bagV b0 b1 b2 c))) l (.tbl #[]) = upd H l (.tbl #[]) := by
          funext a
          by_cases z : a = l
          · subst z; rw [upd_same, upd_same]
          · rw [upd_ne z, upd_ne z, upd_ne z]
        rw [eq]
        exact ⟨ps, h1, h2, h3⟩
      · have z : b ≠ l := fun z => by subst z; rw [upd_same] at n; cases n
        rw [upd_ne z] at n
        have := g.gr.dom b n
        rw [upd_ne z, upd_ne z] at this
        exact this
      · by_cases z : a = l
        · subst z; rw [upd_same] at e ⊢; exact e
        · rw [upd_ne z] at e ⊢; exact g.sub a u e
      · by_cases z : a = l
        · subst z; exact .inl (by rw [hB]; nofun)
        · rw [upd_ne z] at m
          rcases g.new a m with n | n
          · exact .inl (by rw [hB1 a z] at n; exact n)
          · rw [upd_ne z, upd_ne z] at n; exact .inr n
      · by_cases z : a = l
        · subst z; rw [upd_same] at e; cases e
        · rw [upd_ne z] at e; exact g.nt a ps e
    · cases r with
      | error e => exact hr'
      | ok fl =>
        cases fl with
        | ret u =>
          obtain ⟨v, H', h1, h2, un, h4, h5, n0, n1, n2, e1, hq⟩ := hr'
          have ne' : ∀ b, b ≠ l → upd H l (.lst (bagV b0 b1 b2 c)) b = H b := fun b z => upd_ne z
          refine ⟨v, upd H' l (BagO l c), h1, h2, ⟨fun b ob e n => un.keep b ob e (by rw [ne' b (nl b n)]; exact n), fun b ob e n => un.slot b ob e (by rw [ne' b (nl b n)]; exact n), fun b ob e n hx => ?_, un.there, fun b xs e => ?_, fun b ob u' e => ?_, fun b ps' e => ?_⟩, bag_close h4 e1, h5, hq⟩
          · rw [upd_ne (nl b n)]; exact un.free b ob e (by rw [ne' b (nl b n)]; exact n) hx
          · have z : b ≠ l := fun z => by subst z; rw [hl] at e; cases e
            rw [upd_ne z]; exact un.tups b xs (by rw [ne' b z]; exact e)
          · have z : b ≠ l := fun z => by subst z; rw [hl] at e; cases e
            rw [upd_ne z]; exact un.frzs b ob u' (by rw [ne' b z]; exact e)
          · have z : b ≠ l := fun z => by subst z; rw [hl] at e; cases e
            obtain ⟨more, hm'⟩ := un.tbls b ps' (by rw [ne' b z]; exact e)
            exact ⟨more, by rw [upd_ne z]; exact hm'⟩
        | _ => exact hr'
end E
namespace E
open LamX L2 PyProof.Rows PySem PySem.Spec
def Sl.nob : Sl → Bool
  | .bag _ _ _ => false
  | _ => true
theorem bag_one {l c : Addr} {vs : List V} {r : List Sl} (h : r.all Sl.nob = true) : ∀ (j : Nat) l' vs' c', (Sl.bag l vs c :: r)[j]? = some (.bag l' vs' c') → j = 0 := fun j l' vs' c' e => by
  cases j with
  | zero => rfl
  | succ j =>
    rw [List.getElem?_cons_succ] at e
    have := List.all_eq_true.mp h _ (List.mem_of_getElem? e)
    cases this
section
variable {P : Program} {w : World} {K : PySem.W.Frag} {mg : Str → Option Value} {base : Heap} {T : List (Addr × Str)}
abbrev SpTake (T : List (Addr × Str)) (K : PySem.W.Frag) : Sp := SpF T K (fun x : Int => [.bag, .int x]) (fun x => 0 < x ∧ x < 1073741824) (fun x d => ∃ m : Int, d = .int m ∧ 0 ≤ m ∧ m < x)
theorem ok_law_takeX (b : Bl mg) (F : At K mg "_law_take" s_law_take ["_law_bag_here", "_law_many"]) : DfOk P w K mg base 1 "_law_take" ["_law_bag_here", "_law_many"] (SpX T K (fun x : Int => [.int x]) (fun x => 0 < x ∧ x < 1073741824) (fun x d => ∃ m : Int, d = .int m ∧ 0 ≤ m ∧ m < x)) := by
  refine df_mkB F sc_law_take (fun _ => rfl) fun f cd A' outer s H E hr x hx l c b0 b1 b2 => ?_
  have nd := sc_law_take.nd
  have fin : ∀ (n0 n1 : Int) (n2 : Nat) (s2 s3 : Sl), s2.nob = true → s3.nob = true → RG (dcx P w K mg base N_law_take "_law_take" (defScope s_law_take) f cd A' outer s H E) T ((defBody s_law_take).drop 1) [.bag l (bagV n0 n1 n2 c) c, .dat (.int x), s2, s3, .no, .no, .no]
      { rt := fun d => ∃ m : Int, d = .int m ∧ 0 ≤ m ∧ m < x, ex := fun B2 H2 => B2 l = none ∧ ∃ n0 n1, ∃ n2 : Nat, H2 l = some (.lst (bagV n0 n1 n2 c)) } := by
    intro n0 n1 n2 s2 s3 g2 g3
    have hex : ∀ (n0 n1 : Int) (n2 : Nat) (s2 s3 s4 s5 s6 : Sl) (B2 H2 : Hp) (σ : L2.St), Sd K B2 H2 σ (opn [.bag l (bagV n0 n1 n2 c) c, .dat (.int x), s2, s3, s4, s5, s6]) → B2 l = none ∧ ∃ n0 n1, ∃ n2 : Nat, H2 l = some (.lst (bagV n0 n1 n2 c)) := fun n0 n1 n2 s2 s3 s4 s5 s6 B2 H2 σ sd => by
      obtain ⟨_, ⟨e2, _⟩, e4, _⟩ := sd.bg 0 l _ c rfl
      exact ⟨e4, n0, n1, n2, e2⟩
    refine rg_when (k := decide (0 < n0)) (td_cmp c_gt (pd_bagI 0 rfl rfl) pd_int) (fun h => ?_) fun h => ?_
    · refine rg_asg 4 (pd_mod (pd_intI b.int (pd_bagI 0 rfl rfl)) (pd_var 1) hx.1) nd ?_
      refine rg_bagSet 0 (k := 0) (m := 0) rfl rfl (pd_fdiv (pd_intI b.int (pd_bagI 0 rfl rfl)) (pd_var 1) ⟨hx.1, hx.2⟩) (bag_one (by show (s2.nob && (s3.nob && true)) = true; rw [g2, g3]; rfl)) ?_
      show RG _ _ _ [.bag l (bagV (n0 / x) n1 n2 c) c, .dat (.int x), s2, s3, .dat (.int (n0 % x)), .no, .no] _
      exact rg_retX (PD.pn (P := fun d => d = .int (n0 % x)) (pd_var 4) rfl) (fun d hd => ⟨_, hd, Int.emod_nonneg _ (by omega), Int.emod_lt_of_pos _ hx.1⟩) (hex _ _ _ _ _ _ _ _)
    · refine rg_asg 5 (pd_mod (pd_intI b.int (pd_mul (pd_add (pd_bagI 0 rfl rfl) pd_int) pd_int (.inr (by decide)))) pd_int (by decide)) nd ?_
      show RG _ _ _ [.bag l (bagV n0 n1 n2 c) c, .dat (.int x), s2, s3, .no, .dat (.int ((n1 + 1) * 39373 % 1000000007)), .no] _
      have hb1 := Int.emod_nonneg ((n1 + 1) * 39373) (b := 1000000007) (by decide)
      have hb2 := Int.emod_lt_of_pos ((n1 + 1) * 39373) (b := 1000000007) (by decide)
      generalize (n1 + 1) * 39373 % 1000000007 = bg at hb1 hb2
      refine rg_asg 6 (pd_mod (pd_intI b.int (pd_mul (pd_mod (pd_intI b.int (pd_mul (pd_var 5) (pd_var 5) (.inl ⟨by omega, by omega⟩))) pd_int (by decide)) pd_int (.inr (by decide)))) pd_int (by decide)) nd ?_
      refine rg_retX (PD.pn (P := fun d => ∃ z : Int, d = .int (z % x)) (pd_mod (pd_intI b.int (pd_fdiv (pd_var 6) pd_int ⟨by decide, by decide⟩)) (pd_var 1) hx.1) ⟨_, rfl⟩) (fun d ⟨z, hd⟩ => ⟨_, hd, Int.emod_nonneg _ (by omega), Int.emod_lt_of_pos _ hx.1⟩) (hex _ _ _ _ _ _ _ _)
  refine rg_when (k := decide (b0 = 0)) (td_cmp c_eqI (pd_bagI 0 rfl rfl) pd_int) (fun h => ?_) fun h => fin b0 b1 b2 .no .no rfl rfl
  refine rg_asgN 2 (P := fun d => ∃ n : Int, d = .int n) (pn_ix (PLn.pn (pln_cat (P := fun l => ∃ ns : List Int, ns.length ≤ 100 ∧ l = ns.map .int) (R := fun l => l = [.int 0]) (S := fun l => ∃ (n : Int) (r : List D), l = .int n :: r) (PLn.pn (pln_bagS 0 rfl rfl (pd_bagI 0 rfl rfl)))
    ((PL.pd (pl_lst (pds_cons pd_int pds_nil))).pn ⟨_, rfl, rfl⟩) (fun xs ys ⟨ns, h1, h2⟩ h3 => ?_))) (pd_int.pn (P := fun d => d = .int 0) rfl) (fun a z ha hz => ?_)) nd (fun d ⟨n, hd⟩ => ?_)
  · subst h2
    subst h3
    refine ⟨by rw [List.length_map]; show _ + 1 ≤ sizeLine; exact Nat.le_trans (Nat.succ_le_succ h1) (by decide), ?_⟩
    cases ns with
    | nil => exact ⟨0, [], rfl⟩
    | cons n ns => exact ⟨n, _, rfl⟩
  · obtain ⟨l', rfl, n, r, rfl⟩ := ha
    exact ⟨_, 0, .int n, .inr rfl, hz, atI_nat (j := 0) rfl, n, rfl⟩
  subst hd
  show RG _ _ _ [.bag l (bagV b0 b1 b2 c) c, .dat (.int x), .dat (.int n), .no, .no, .no, .no] _
  refine rg_bagAug 0 (k := 2) (m := 2) rfl rfl rfl (by decide) pd_int (bag_one rfl) ?_
  show RG _ _ _ [.bag l (bagV b0 b1 (b2 + 1) c) c, .dat (.int x), .dat (.int n), .no, .no, .no, .no] _
  refine rg_when (k := decide ((10 : Int) ^ (18 : Int).toNat ≤ n)) (td_cmp c_ge (pd_var 2) (pd_pow pd_int pd_int ⟨by decide, by decide, by decide⟩)) (fun h => rg_bagSet 0 (k := 0) (m := 0) rfl rfl (pd_var 2) (bag_one rfl) (rg_nil ?_)) fun h => ?_
  · show RG _ _ _ [.bag l (bagV n b1 (b2 + 1) c) c, .dat (.int x), .dat (.int n), .no, .no, .no, .no] _
    refine rg_asg 3 (pd_add (pd_add (pd_mul (pd_bagI 0 rfl rfl) pd_int (.inr (by decide))) (pd_mod (pd_intI b.int (pd_var 2)) pd_int (by decide))) (pd_mul pd_int (pd_bagI 0 rfl rfl) (.inl (by decide)))) nd ?_
    refine rg_bagSet 0 (k := 1) (m := 1) rfl rfl (pd_mod (pd_intI b.int (pd_var 3)) pd_int (by decide)) (bag_one rfl) (rg_nil ?_)
    exact fin _ _ _ _ _ rfl rfl
  · show RG _ _ _ [.bag l (bagV b0 b1 (b2 + 1) c) c, .dat (.int x), .dat (.int n), .no, .no, .no, .no] _
    refine rg_asg 3 (pd_add (pd_add (pd_mul (pd_bagI 0 rfl rfl) pd_int (.inr (by decide))) (pd_mod (pd_intI b.int (pd_var 2)) pd_int (by decide))) (pd_mul pd_int (pd_bagI 0 rfl rfl) (.inl (by decide)))) nd ?_
    refine rg_bagSet 0 (k := 1) (m := 1) rfl rfl (pd_mod (pd_intI b.int (pd_var 3)) pd_int (by decide)) (bag_one rfl) (rg_nil ?_)
    exact fin _ _ _ _ _ rfl rfl
theorem ok_law_take (b : Bl mg) (F : At K mg "_law_take" s_law_take ["_law_bag_here", "_law_many"]) : DfOk P w K mg base 1 "_law_take" ["_law_bag_here", "_law_many"] (SpTake T K) :=
  df_bag (ok_law_takeX b F) (fun _ => rfl) fun _ => rfl
end
end E
/-! a new list of three ints and a list of ints: a bag -/
namespace E
open LamX L2 PyProof.Rows PySem PySem.Spec
theorem df_toBag {P : Program} {w : World} {K : PySem.W.Frag} {mg : Str → Option Value} {base : Heap} {T : List (Addr × Str)} {k : Nat} {name : Str} {ps : List Str} (F : DfOk P w K mg base k name ps (SpF T K (fun ns : List Int => [.scr ns]) (fun _ => True) (fun _ d => ∃ cs : List Int, cs.length ≤ 100 ∧ d = .lst [.int 0, .int 1234567891, .int 0, .lst (cs.map .int)]))) :
    DfOk P w K mg base k name ps (SpF T K (fun ns : List Int => [.scr ns]) (fun _ => True) (fun _ d => d = .bag)) := by
  obtain ⟨f, fd, F, hm, hk, hb⟩ := F
  refine ⟨f, fd, ⟨fun vs H Q E h => ?_, fun A' outer s H as us vs Q E hr he hbd hv hs => ?_⟩, hm, hk, hb⟩
  · obtain ⟨B, x, o, h, px, _⟩ := h
    exact F.len vs H (fun _ _ => True) E ⟨B, x, o, h, px, fun _ _ _ _ _ _ _ => trivial⟩
  obtain ⟨B, x, o, ha, px, q⟩ := hs
  -- a part of B that holds the script alone
  obtain ⟨B1, hsub, ha1, hno⟩ : ∃ B1 : Hp, (∀ a u, B1 a = some u → B a = some u) ∧ DaAll K B1 vs [.scr x] ∧ ∀ a us, B1 a = some (.lst us) → us = x.map V.int := by
    cases ha with
    | cons hd ht =>
      cases ht
      cases hd with
      | @scr a _ h =>
        rcases h with h | h
        · refine ⟨fun b => if b = a then B b else none, fun b u e => ?_, .cons (.scr (.inl ?_)) .nil, fun b us e => ?_⟩
          · simp only [] at e
            split at e
            · exact e
            · cases e
          · rcases h with h | ⟨ob, h⟩
            · exact .inl ((if_pos rfl).trans h)
            · exact .inr ⟨ob, (if_pos rfl).trans h⟩
          · simp only [] at e
            split at e
            · next z =>
              subst z
              rcases h with h | ⟨ob, h⟩
              · rw [h] at e; cases e; rfl
              · rw [h] at e; cases e
            · cases e
        · exact ⟨fun _ => none, nofun, .cons (.scr (.inr h)) .nil, nofun⟩
  have o1 : Go T B1 H := ⟨fun a u e => o.sub a u (hsub a u e), fun a ps e => o.nt a ps (hsub a _ e), o.tab⟩
  refine codeAny_mono (F.run A' outer s H as us vs (fun v H2 => ∃ p c, v = .ref p ∧ H p = none ∧ H2 p = some (.lst (bagV 0 1234567891 0 c)) ∧ Q v (upd H2 p (BagO p c))) E hr he hbd hv ⟨B1, x, o1, ha1, trivial, fun v d B2 H2 g ⟨cs, hcs, hd⟩ hv => ?_⟩) fun r s' hr' => ?_
  · subst hd
    cases hv with
    | @lst p ws _ h1 h2 =>
    obtain ⟨c, hw, hc⟩ : ∃ c, ws = bagV 0 1234567891 0 c ∧ B2 c = some (.lst (cs.map V.int)) := by
      cases h2 with
      | cons a0 h2 => cases h2 with
        | cons a1 h2 => cases h2 with
          | cons a2 h2 => cases h2 with
            | cons a3 h2 =>
              cases h2
              cases a0
              cases a1
              cases a2
              cases a3 with
              | @lst c us' _ k1 k2 => rw [daAll_ints_inv k2] at k1; exact ⟨c, rfl, k1⟩
    subst hw
    have hp : H p = none := by
      rcases g.new p (by rw [h1]; trivial) with n | n
      · exfalso
        cases q1 : B1 p with
        | none => exact n q1
        | some u =>
          have e := g.ext p u q1
          rw [h1] at e
          cases e
          have := hno p _ q1
          cases x with
          | nil => simp [bagV] at this
          | cons x0 x => cases x with
            | nil => simp [bagV] at this
            | cons x1 x => cases x with
              | nil => simp [bagV] at this
              | cons x2 x => cases x with
                | nil => simp [bagV] at this
                | cons x3 x => simp [bagV] at this
      · exact n
    have hBp : B p = none := o.nb hp
    have hcp : c ≠ p := fun z => by
      subst z
      rw [h1] at hc
      cases cs with
      | nil => cases hc
      | cons x0 x => cases x with
        | nil => cases hc
        | cons x1 x => cases x with
          | nil => cases hc
          | cons x2 x => cases x with
            | nil => cases hc
            | cons x3 x => cases hc
    let B3 : Hp := fun a => if a = p then some (BagO p c) else match B a with
      | some u => some u
      | none => B2 a
    have b3p : B3 p = some (BagO p c) := if_pos rfl
    have b3B : ∀ a u, B a = some u → B3 a = some u := fun a u e => by
      have z : a ≠ p := fun z => by subst z; rw [hBp] at e; cases e
      show (if a = p then some (BagO p c) else match B a with | some u => some u | none => B2 a) = some u
      rw [if_neg z, e]
    have b3i : ∀ a u, a ≠ p → B3 a = some u → B a = some u ∨ (B a = none ∧ B2 a = some u) := fun a u z e => by
      have e : (if a = p then some (BagO p c) else match B a with | some u => some u | none => B2 a) = some u := e
      rw [if_neg z] at e
      cases q1 : B a with
      | some y => rw [q1] at e; exact .inl e
      | none => rw [q1] at e; exact .inr ⟨rfl, e⟩
    have sub3 : ∀ a u, B3 a = some u → upd H2 p (BagO p c) a = some u := fun a u e => by
      by_cases z : a = p
      · subst z; rw [b3p] at e; rw [upd_same]; exact e
      · rw [upd_ne z]
        rcases b3i a u z e with e | ⟨_, e⟩
        · exact g.gr.ext a u (o.sub a u e) fun ps y => o.nt a ps (by rw [e, y])
        · exact g.sub a u e
    refine ⟨p, c, rfl, hp, g.sub _ _ h1, q (.ref p) .bag B3 (upd H2 p (BagO p c)) ⟨⟨fun b u e n => ?_, fun t => tabs_upd (g.gr.tab t) (mut_l (g.sub _ _ h1)), fun b n => ?_⟩, b3B, sub3, fun a m => ?_, fun a ps e => ?_⟩ rfl (.bag b3p ⟨cs, hcs, .of ?_⟩)⟩
    · rw [upd_ne (fun z => by subst z; rw [hp] at e; cases e)]
      exact g.gr.ext b u e n
    · by_cases z : b = p
      · subst z; rw [upd_same] at n; cases n
      · rw [upd_ne z] at n; exact g.gr.dom b n
    · by_cases z : a = p
      · subst z; exact .inr hp
      · cases q3 : B3 a with
        | none => rw [q3] at m; exact m.elim
        | some u =>
          rcases b3i a u z q3 with e | ⟨e1, e2⟩
          · exact .inl (by rw [e]; nofun)
          · rw [q3] at m
            rcases g.new a (by rw [e2]; exact m) with n | n
            · cases q1 : B1 a with
              | none => exact absurd q1 n
              | some y => rw [hsub a y q1] at e1; cases e1
            · exact .inr n
    · by_cases z : a = p
      · subst z; rw [b3p] at e; cases e
      · rcases b3i a _ z e with e | ⟨_, e⟩
        · exact o.nt a ps e
        · exact g.nt a ps e
    · cases q1 : B c with
      | some u =>
        have e1 := g.gr.ext c u (o.sub c u q1) fun ps y => o.nt c ps (by rw [q1, y])
        rw [g.sub _ _ hc] at e1
        rw [b3B c u q1, ← e1]
      | none =>
        show (if c = p then some (BagO p c) else match B c with | some u => some u | none => B2 c) = _
        rw [if_neg hcp, q1]
        exact hc
  · cases r with
    | error e => exact hr'
    | ok fl =>
      cases fl with
      | ret u =>
        obtain ⟨v, H', h1, h2, un, h4, h5, p, c, rfl, hp, e1, hq⟩ := hr'
        refine ⟨.ref p, upd H' p (BagO p c), h1, h2, ⟨un.keep, un.slot, fun b ob e n hx => ?_, un.there, fun b xs e => ?_, fun b ob u' e => ?_, fun b ps' e => ?_⟩, bag_close h4 e1, h5, hq⟩
        · have hf := un.free b ob e n hx
          rw [upd_ne (fun z => by subst z; rw [e1] at hf; cases hf)]
          exact hf
        · rw [upd_ne (fun z => by subst z; rw [hp] at e; cases e)]; exact un.tups b xs e
        · rw [upd_ne (fun z => by subst z; rw [hp] at e; cases e)]; exact un.frzs b ob u' e
        · obtain ⟨more, hm'⟩ := un.tbls b ps' e
          exact ⟨more, by rw [upd_ne (fun z => by subst z; rw [hp] at e; cases e)]; exact hm'⟩
      | _ => exact hr'
end E
/-! what the drawing defs need besides: slices of the script, abs, tests not known, dicts of one's own -/
namespace E
open LamX L2 PyProof.Rows PySem PySem.Spec
section
variable {X : Cx} {T : List (Addr × Str)} {B0 H0 B H : Hp} {σ : L2.St} {ds : List Sl} {rest body : List Stmt} {O : Out} {e a b c tg iter : Expr} {x x1 x2 : Str} {pos p p2 px py pt pt2 pos' : Pos} {kt k2 : Nat} {i j : Nat}
theorem pl_scrTo {ns : List Int} {n : Nat} {p2 : Pos} (ha : PD X T a ds (.scr ns)) (hb : PD X T b ds (.int (n : Int))) : PL X T (.Subscript a (.Slice none (some b) none p2) pos) ds ((ns.take n).map .int) := fun B H σ o s Q q =>
  ofE (pe_slice sl_list peW po_none (po_some peW)) (ha B H σ o s _ fun va B1 H1 g1 a1 => hb B1 H1 σ (g1.go o) (s.grow g1) _ fun vb B2 H2 g2 b2 => by
    cases b2
    have o2 := g2.go (g1.go o)
    cases a1.mono g2.extN with
    | scr h => exact ⟨_, rfl, _, _, rfl, sqL_ext o2.extN h, fun p hp => q p _ B2 (upd H2 p _) (g1.gr.dom _ (g2.gr.dom p hp)) ((g1.trans g2).trans (o2.ge (.new hp))) (o2.nb hp) (by rw [upd_same, cutV_to, ← List.map_take]) (daAll_ints _)⟩)
/-- xs[:n] of a list -/
theorem pln_slTo {P : List D → Prop} {R : Nat → Prop} {p2 : Pos} (ha : PN X T a ds (fun d => ∃ l, d = .lst l ∧ P l)) (hb : PN X T b ds (fun d => ∃ n : Nat, d = .int (n : Int) ∧ R n)) : PLn X T (.Subscript a (.Slice none (some b) none p2) pos) ds (fun l => ∃ m n, P m ∧ R n ∧ l = m.take n) := fun B H σ o s Q q =>
  ofE (pe_slice sl_list peW po_none (po_some peW)) (ha B H σ o s _ fun va da B1 H1 g1 ⟨m, hm, pm⟩ a1 => hb B1 H1 σ (g1.go o) (s.grow g1) _ fun vb db B2 H2 g2 ⟨n, hn, rn⟩ b2 => by
    subst hn; subst hm
    cases b2
    have o2 := g2.go (g1.go o)
    cases a1.mono g2.extN with
    | lst h1 h2 =>
      exact ⟨_, rfl, _, _, rfl, .of (o2.sub _ _ h1), fun p hp => q p _ (m.take n) B2 (upd H2 p _) (g1.gr.dom _ (g2.gr.dom p hp)) ((g1.trans g2).trans (o2.ge (.new hp))) (o2.nb hp) ⟨m, n, pm, rn, rfl⟩ (by rw [upd_same, cutV_to]) (h2.take n)⟩)
theorem pd_abs {n : Int} (hm : X.mg "abs" = none) (ha : PD X T a ds (.int n)) (hg : Gl X "abs" := by rfl) (he : starEach [a] X.env = (false, eval a X.env) :: starEach [] X.env := by exact se_of rfl) (hpl : (backTo pos (starEach [] X.env)).any (·.1) = false := by rfl) : PD X T (.Call (.Name "abs" p) [a] [] pos) ds (.int (if n < 0 then -n else n)) :=
  pd_callB call_abs hm (by decide +kernel) (pds_cons ha pds_nil he) (fun vs B H Q o h q => by
    obtain ⟨v, rfl, h'⟩ := da1 h; clear h; revert h'; intro h
    cases h
    exact ⟨n, rfl, q _ B H o.refl (.int _)⟩) hg (by decide) (by decide) he hpl
/-- a test of which the answer is not known -/
def TN (X : Cx) (T : List (Addr × Str)) (e : Expr) (ds : List Sl) : Prop := ∀ (B H : Hp) (σ : L2.St), Go T B H → Sd X.K B H σ ds → ∀ Q : Bool → Hp → Prop, (∀ b B2 H2, Ge T B H B2 H2 → Q b H2) → wpT X e σ H Q
/-- two ints compared, not known which -/
theorem tn_int {op : CmpOp} {f : Int → Int → Bool} {g : Int → Int → V} (ho : OpR X (compareOp op) (rI0 g)) (hg : ∀ i j, g i j = .bl (f i j)) (ha : PN X T a ds (fun d => ∃ n, d = .int n)) (hb : PN X T b ds (fun d => ∃ n, d = .int n)) (hm : behindInMarks op b = false := by first | exact nobehind _ (by decide) (by decide) | rfl) : TN X T (.Compare a [op] [b] pos) ds := fun B H σ o s Q q =>
  ofT (pt_cmpR ho peW peW hm) (ha B H σ o s _ fun va da B1 H1 g1 ⟨n, hn⟩ a1 => hb B1 H1 σ (g1.go o) (s.grow g1) _ fun vb db B2 H2 g2 ⟨m, hm⟩ b2 => by
    subst hn; subst hm
    cases a1
    cases b2
    exact ⟨n, m, rfl, rfl, f n m, hg n m, q _ B2 H2 (g1.trans g2)⟩)
theorem tn_eqI (ha : PN X T a ds (fun d => ∃ n, d = .int n)) (hb : PN X T b ds (fun d => ∃ n, d = .int n)) : TN X T (.Compare a [.Eq] [b] pos) ds := fun B H σ o s Q q =>
  ofT (pt_cmpR op_eq peW peW (by first | exact nobehind _ (by decide) (by decide) | rfl)) (ha B H σ o s _ fun va da B1 H1 g1 ⟨n, hn⟩ a1 => hb B1 H1 σ (g1.go o) (s.grow g1) _ fun vb db B2 H2 g2 ⟨m, hm⟩ b2 => by
    subst hn; subst hm
    cases a1
    cases b2
    exact ⟨rfl, _, rfl, q _ B2 H2 (g1.trans g2)⟩)
theorem tn_lt (ha : PN X T a ds (fun d => ∃ n, d = .int n)) (hb : PN X T b ds (fun d => ∃ n, d = .int n)) : TN X T (.Compare a [.Lt] [b] pos) ds := tn_int (f := fun i j => decide (i < j)) op_lt (fun _ _ => rfl) ha hb
theorem opn_poN (h : TN X T e (opn ds)) (hh : Here X T B0 H0 B H σ ds) {Q : Bool → Hp → Prop} (q : ∀ b H2, Ge T B H B H2 → Q b H2) : wpT X e σ H Q :=
  h _ H σ hh.opn.go hh.opn.sd Q fun b B2 H2 g => q b H2 (hh.go.ge g.gr)
theorem rg_ifN {body2 : List Stmt} (h : TN X T c (opn ds)) (h1 : RG X T body ds { O with nx := fun d2 => RG X T rest d2 O }) (h2 : RG X T body2 ds { O with nx := fun d2 => RG X T rest d2 O }) : RG X T (.If c body body2 pos :: rest) ds O := fun B0 H0 B H σ De hh dn => by
  refine ss_cons (ofS (ps_if ptW pssW pssW) (opn_poN h hh fun k H2 g => ?_))
  have hh2 := hh.grow g
  have dn2 : Dn X T B0 H0 { O with nx := fun d2 => RG X T rest d2 O } { De with nx := fun σ' H' => wpSs X rest De σ' H' } := ⟨dn.rt, fun B2 H2 s2 d2 n hr => n B0 H0 B2 H2 s2 De hr dn, dn.bk, dn.ct⟩
  cases k with
  | true => exact iteT (h1 B0 H0 B H2 σ _ hh2 dn2)
  | false => exact iteF (h2 B0 H0 B H2 σ _ hh2 dn2)
theorem rg_whenN (h : TN X T c (opn ds)) (h1 : RG X T body ds { O with nx := fun d2 => RG X T rest d2 O }) (h2 : RG X T rest ds O) : RG X T (.If c body [] pos :: rest) ds O := rg_ifN h h1 (rg_nil h2)
/-- a comparison's truth, not known which -/
theorem pn_eqI (ha : PN X T a ds (fun d => ∃ n, d = .int n)) (hb : PN X T b ds (fun d => ∃ n, d = .int n)) : PN X T (.Compare a [.Eq] [b] pos) ds (fun d => ∃ k, d = .bl k) :=
  pn_cmp op_eq (by first | exact nobehind _ (by decide) (by decide) | rfl) ha hb fun x y B H vx vy Q ⟨n, hn⟩ ⟨m, hm⟩ o hx hy q => by
    subst hn; subst hm
    cases hx
    cases hy
    exact ⟨rfl, q _ ⟨_, rfl⟩⟩
theorem pn_ifN {P : D → Prop} (h : TN X T c ds) (h1 : PN X T a ds P) (h2 : PN X T b ds P) : PN X T (.IfExp c a b pos) ds P := fun B H σ o s Q q =>
  ofE (pe_ifExp ptW peW peW) (h B H σ o s _ fun k B1 H1 g1 => by
    cases k with
    | true => exact iteT (h1 B1 H1 σ (g1.go o) (s.grow g1) _ fun v d B2 H2 g2 pd a => q v d B2 H2 (g1.trans g2) pd a)
    | false => exact iteF (h2 B1 H1 σ (g1.go o) (s.grow g1) _ fun v d B2 H2 g2 pd a => q v d B2 H2 (g1.trans g2) pd a))
/-- int(truth) -/
theorem pn_intB (hm : X.mg "int" = none) (ha : PN X T a ds (fun d => ∃ k, d = .bl k)) (hg : Gl X "int" := by rfl) (he : starEach [a] X.env = (false, eval a X.env) :: starEach [] X.env := by exact se_of rfl) (hpl : (backTo pos (starEach [] X.env)).any (·.1) = false := by rfl) : PN X T (.Call (.Name "int" p) [a] [] pos) ds (fun d => d = .int 0 ∨ d = .int 1) := fun B H σ o s Q q =>
  ofE (pe_callTy call_int1 hg hm (by decide +kernel) (pa_cons peW pa_nil he) (by decide) (by decide) he hpl) (ha B H σ o s _ fun v d B1 H1 g1 ⟨k, hk⟩ h => by
    subst hk
    cases h
    refine .inr ⟨k, rfl, q _ _ B1 H1 g1 ?_ (.int _)⟩
    cases k
    · exact .inl rfl
    · exact .inr rfl)
/-- an int less a truth -/
theorem op_subIB : OpR X (binaryOp .Sub) (fun x y H Q => ∃ i k, x = .int i ∧ y = .bl k ∧ Q (.int (i - if k = true then 1 else 0)) H) := by
  intro pins s σ H x y v u Q I rx ry h
  obtain ⟨i, k, rfl, rfl, q⟩ := h
  obtain ⟨t, rfl⟩ := rx
  cases ry
  exact PySem.IntBool.sub_int_bool ⟨.int _, H, I.tok _, ⟨_, rfl⟩, q⟩
theorem pd_subIB {n : Int} {k : Bool} (ha : PD X T a ds (.int n)) (hb : PD X T b ds (.bl k)) : PD X T (.BinOp a .Sub b pos) ds (.int (n - if k = true then 1 else 0)) :=
  PN.pd (pn_op op_subIB (ha.pn (P := fun z => z = .int n) rfl) (hb.pn (P := fun z => z = .bl k) rfl) fun x y B H vx vy Q px py o hx hy q => by
    subst px; subst py
    cases hx
    cases hy
    exact ⟨n, k, rfl, rfl, q _ _ B H o.refl rfl (.int _)⟩)
theorem pn_dictP {P : List (Str × D) → Prop} (hm : X.mg "dict" = none) (he : PN X T e ds (fun d => ∃ es : List (Str × D), d = .lst (es.map prD) ∧ (es.map (·.1)).Nodup ∧ P es)) (hc : X.calm = true := by rfl) (hg : Gl X "dict" := by rfl)
    (h1 : starEach [e] X.env = (false, eval e X.env) :: starEach [] X.env := by exact se_of rfl) (hp : (backTo pos (starEach [] X.env)).any (·.1) = false := by rfl) : PN X T (.Call (.Name "dict" p) [e] [] pos) ds (fun d => ∃ es, d = .dic es ∧ P es) := fun B H σ o s Q q =>
  ofE (pe_callTy (call_dictP hc) hg hm (by decide +kernel) (pa_cons peW pa_nil h1) (by decide) (by decide) h1 hp) (he B H σ o s _ fun v d B1 H1 g1 ⟨es, hd, nd, pe⟩ a => by
    subst hd
    cases a with
    | @lst b ws _ h1 h2 =>
      have o1 := g1.go o
      obtain ⟨ps, kvs, e1, e2, e3, e4⟩ := pairs_da h2
      subst e1
      refine ⟨b, ps, kvs, rfl, .of (o1.sub _ _ h1), L2.Paired.mapP e2 fun a b h => sqT_ext o1.extN h, fun t ht => ?_⟩
      have hm : mergeK [] kvs = kvs := by
        rw [merge_new kvs [] (by simp) ?_]
        · rfl
        · rw [e4]
          have h5 : ((es.map (·.1)).map fun s : Str => (Sum.inr s : Key)).Nodup := List.Pairwise.map (R := fun a b : Str => a ≠ b) (S := fun a b : Key => a ≠ b) _ (fun a b h e => h (Sum.inr.inj e)) nd
          rw [List.map_map] at h5
          exact h5
      rw [hm]
      have g2 := o1.geNew (o' := .dK kvs) ht nofun
      exact q _ _ _ _ (g1.trans g2) ⟨es, rfl, pe⟩ (.dic upd_same (e3.mono g2.extN)))
/-! ### dicts of one's own -/
/-- the key k set -/
def esPut (es : List (Str × D)) (k : Str) (d : D) : List (Str × D) := if k ∈ es.map (·.1) then es.map (fun p => if p.1 = k then (k, d) else p) else es ++ [(k, d)]
theorem kv_keys {K : PySem.W.Frag} {H : Hp} : ∀ {kvs : List (Key × V)} {es : List (Str × D)}, DaKv K H kvs es → kvs.map (·.1) = es.map fun p => (Sum.inr p.1 : Key)
  | _, _, .nil => rfl
  | _, _, .cons h t => by simp [kv_keys t]
theorem kv_app {K : PySem.W.Frag} {H : Hp} {k : Str} {v : V} {d : D} (hd : Da K H v d) : ∀ {kvs : List (Key × V)} {es : List (Str × D)}, DaKv K H kvs es → DaKv K H (kvs ++ [(Sum.inr k, v)]) (es ++ [(k, d)])
  | _, _, .nil => .cons hd .nil
  | _, _, .cons h t => .cons h (kv_app hd t)
theorem kv_new {K : PySem.W.Frag} {H : Hp} {k : Str} {v : V} {d : D} {kvs : List (Key × V)} {es : List (Str × D)} (hd : Da K H v d) (h : DaKv K H kvs es) (hn : k ∉ es.map (·.1)) : putK kvs (Sum.inr k) v = kvs ++ [(Sum.inr k, v)] ∧ DaKv K H (kvs ++ [(Sum.inr k, v)]) (es ++ [(k, d)]) := by
  refine ⟨putK_new v (valV_absent fun hm => hn ?_), kv_app hd h⟩
  rw [kv_keys h] at hm
  rcases List.mem_map.mp hm with ⟨p, hp, e⟩
  exact List.mem_map.mpr ⟨p, hp, Sum.inr.inj e⟩
theorem rg_dput (i : Nat) {es : List (Str × D)} {k : Str} {P : D → Prop} (hds : ds[i]? = some (.ownD es)) (hk : PD X T b ds (.str k)) (hv : PO' X T e ds P) (hn : k ∉ es.map (·.1)) (hz : es.length < sizeLine) (hu : X.A.units + 1 < cLine) (honly : ∀ (j : Nat) ys, ds[j]? = some (.ownD ys) → j = i)
    (kk : ∀ d, P d → RG X T rest (ds.set i (.ownD (es ++ [(k, d)]))) O) (hi : X.N[i]? = some x := by rfl) (hvis : Vis X.env.scope x := by first | exact Or.inl rfl | exact Or.inr (Or.inl rfl) | exact Or.inr (Or.inr rfl)) (hd1 : (x == ("__debug__" : Str)) = false := by decide) (hd2 : (x == ("__classdict__" : Str)) = false := by decide)
    (hs : swapsWith e (some (.Subscript (.Name x p) b pos')) pos.line X.env = pure false := by rfl) : RG X T (.Assign [.Subscript (.Name x p) b pos'] e pos :: rest) ds O := fun B0 H0 B H σ De hh dn => by
  refine ss_cons (ofS (ps_dput hu (pv i hi hvis hd1 hd2) peW peW hs) (hv B0 H0 B H σ hh _ fun v d B1 H1 g1 pd a1 => ?_))
  have hh1 := hh.grow g1
  obtain ⟨l, vs, h1, h2, h3, h4⟩ := hh1.sd.ownD i es hds
  refine ⟨_, h1, hk B1 H1 σ hh1.go hh1.sd _ fun kv B2 H2 g2 a2 => ?_⟩
  cases a2
  have hl := g2.gr.ext _ _ h2 nofun
  have hb := own_free g2 (by rw [h2]; nofun) h3 (by rw [hl]; trivial)
  obtain ⟨e1, e2⟩ := kv_new (a1.mono g2.extN) (h4.mono g2.extN) hn
  have hlen : vs.length = es.length := by
    have : ∀ {kvs : List (Key × V)} {es : List (Str × D)}, DaKv X.K B1 kvs es → kvs.length = es.length := fun {kvs es} h => by
      induction kvs generalizing es with
      | nil => cases h; rfl
      | cons _ _ ih => cases h with
        | cons _ t => simp [ih t]
    exact this h4
  refine ⟨l, _, rfl, .k (k := Sum.inr k) hl (by rw [hlen]; exact hz), ?_⟩
  rw [e1]
  exact kk d pd B0 H0 B2 _ σ De ((hh1.grow g2).writeD hds h1 hl hb honly e2) dn
/-- a, b = e, {} -/
theorem rg_parD {P : D → Prop} (i j : Nat) (ha : PN X T a ds P) (hN : X.N.Nodup) (hP : ∀ d, P d → RG X T rest ((ds.set i (.dat d)).set j (.ownD [])) O) (hij : i ≠ j := by decide) (hi : X.N[i]? = some x1 := by rfl) (hj : X.N[j]? = some x2 := by rfl)
    (hx : X.env.scope.names.lookup x1 = some .local := by rfl) (hy : X.env.scope.names.lookup x2 = some .local := by rfl) (hc : X.calm = true := by rfl) (hs1 : starEach [a, .Dict [] [] p2] X.env = (false, eval a X.env) :: starEach [.Dict [] [] p2] X.env := by exact se_of rfl) (hs2 : starEach [.Dict [] [] p2] X.env = (false, eval (.Dict [] [] p2) X.env) :: starEach [] X.env := by exact se_of rfl)
    (hw : swappedStores [.Tuple [.Name x1 px, .Name x2 py] kt pt] (.Tuple [a, .Dict [] [] p2] k2 pt2) X.env = pure (some [x1, x2]) := by rfl) (hs : swapsWithSole [.Tuple [.Name x1 px, .Name x2 py] kt pt] (.Tuple [a, .Dict [] [] p2] k2 pt2) pos.line X.env = pure false := by rfl) :
    RG X T (.Assign [.Tuple [.Name x1 px, .Name x2 py] kt pt] (.Tuple [a, .Dict [] [] p2] k2 pt2) pos :: rest) ds O := fun B0 H0 B H σ De hh dn =>
  ss_cons (ofS (ps_par hc hN hi hj hij hx hy (pa_cons peW (pa_cons pe_dnewK pa_nil hs2) hs1) hw hs) (ha B H σ hh.go hh.sd _ fun v d B1 H1 g1 pd a1 => fun p hp => by
    have hh1 := hh.grow g1
    exact ⟨_, _, rfl, hP d pd B0 H0 B1 _ _ De ((hh1.set i a1).setNewD j hp (hh1.go.ge (.new hp)) (hh1.go.nb hp) upd_same .nil) dn⟩))
theorem items_da {K : PySem.W.Frag} {B : Hp} {H' : Hp} : ∀ {ts : List Addr} {kvs : List (Key × V)} {es : List (Str × D)}, Paired (fun (t : Addr) (q : Key × V) => H' t = some (.tup [kV q.1, q.2])) ts kvs → DaKv K B kvs es → (∀ a o, B a = some o → H' a = some o) → DaAll K H' (ts.map V.ref) (es.map prD)
  | _, _, _, .nil, h, _ => by cases h; exact .nil
  | _, _, _, .cons h t, hk, hB => by
    cases hk with
    | cons h1 h2 => exact .cons (.tup (.of h) (.cons (.str _) (.cons (h1.mono (.of hB)) .nil))) (items_da t h2 hB)
theorem paired_memL {α β : Type} {R S : α → β → Prop} : ∀ {xs : List α} {ys : List β}, Paired R xs ys → (∀ x y, x ∈ xs → R x y → S x y) → Paired S xs ys
  | _, _, .nil, _ => .nil
  | _, _, .cons h t, f => .cons (f _ _ List.mem_cons_self h) (paired_memL t fun x y hx => f x y (List.mem_cons_of_mem _ hx))
/-- list(d.items()) -/
theorem pl_items {es : List (Str × D)} {apos cpos : Pos} (hm : X.mg "list" = none) (ha : PD X T e ds (.dic es)) (hc : X.calm = true := by rfl) (hg : Gl X "list" := by rfl) (hbase : attributeBase e "items" X.env (eval e X.env) = eval e X.env := by rfl) (hline : (apos.endLine == cpos.line) = true := by rfl) (hs : starEach [.Call (.Attribute e "items" apos) [] [] cpos] X.env = (false, eval (.Call (.Attribute e "items" apos) [] [] cpos) X.env) :: starEach [] X.env := by rfl) :
    PL X T (.Call (.Name "list" p) [.Call (.Attribute e "items" apos) [] [] cpos] [] pos) ds (es.map prD) := fun B H σ o s Q q =>
  ofE (LiI.pe_listItems hc peW hg hm (by decide +kernel) hbase hline hs) (ha B H σ o s _ fun v B1 H1 g1 a1 => by
    have o1 := g1.go o
    cases a1 with
    | @dic d kvs _ h1 h2 =>
    refine ⟨d, kvs, rfl, o1.sub _ _ h1, fun H' l ts he hl ht hlt hp hts => ?_⟩
    let B3 : Hp := fun a => match B1 a with
      | some u => some u
      | none => if a ∈ ts then H' a else none
    have bB : ∀ a u, B1 a = some u → B3 a = some u := fun a u e => by
      show (match B1 a with | some u => some u | none => if a ∈ ts then H' a else none) = _
      rw [e]
    have bI : ∀ a u, B3 a = some u → B1 a = some u ∨ (B1 a = none ∧ a ∈ ts ∧ H' a = some u) := fun a u e => by
      have e : (match B1 a with | some u => some u | none => if a ∈ ts then H' a else none) = some u := e
      cases q1 : B1 a with
      | some y => rw [q1] at e; exact .inl e
      | none =>
        rw [q1] at e
        by_cases z : a ∈ ts
        · exact .inr ⟨rfl, z, by simpa [z] using e⟩
        · simp [z] at e
    have bT : ∀ a, a ∈ ts → B3 a = H' a := fun a z => by
      have q1 : B1 a = none := o1.nb (ht a z)
      show (match B1 a with | some u => some u | none => if a ∈ ts then H' a else none) = _
      rw [q1]
      simp [z]
    have tup : ∀ a, a ∈ ts → ∃ ys, H' a = some (.tup ys) := by
      have : ∀ {xs : List Addr} {ys : List (Key × V)}, Paired (fun (t : Addr) (q : Key × V) => H' t = some (.tup [kV q.1, q.2])) xs ys → ∀ a ∈ xs, ∃ ys, H' a = some (.tup ys) := fun {xs ys} h => by
        induction h with
        | nil => intro a h; cases h
        | cons h _ ih =>
          intro a ha
          obtain rfl | ha := List.mem_cons.mp ha
          · exact ⟨_, h⟩
          · exact ih a ha
      exact this hts
    have gg : Ge T B1 H1 B3 H' := ⟨.of he, bB, fun a u e => ?_, fun a m => ?_, fun a ps e => ?_⟩
    · refine q l _ B3 H' (g1.gr.dom _ hl) (g1.trans gg) ?_ hp (items_da (paired_memL hts fun t y ht h => by rw [bT t ht]; exact h) h2 bB)
      cases q1 : B3 l with
      | none => rfl
      | some u =>
        rcases bI l u q1 with e | ⟨_, e, _⟩
        · rw [o1.sub _ _ e] at hl; cases hl
        · exact absurd e hlt
    · rcases bI a u e with e | ⟨_, _, e⟩
      · exact he a u (o1.sub a u e)
      · exact e
    · cases q1 : B3 a with
      | none => rw [q1] at m; exact m.elim
      | some u =>
        rcases bI a u q1 with e | ⟨_, z, e⟩
        · exact .inl (by rw [e]; nofun)
        · obtain ⟨ys, ey⟩ := tup a z
          rw [ey] at e
          cases e
          rw [q1] at m
          exact m.elim
    · rcases bI a _ e with e | ⟨_, z, e⟩
      · exact o1.nt a ps e
      · obtain ⟨ys, ey⟩ := tup a z
        rw [ey] at e
        cases e)
end
end E
namespace E
open LamX L2 PyProof.Rows PySem PySem.Spec
section
variable {P : Program} {w : World} {K : PySem.W.Frag} {mg : Str → Option Value} {base : Heap} {T : List (Addr × Str)}
theorem ok_law_bag (b : Bl mg) (F : At K mg "_law_bag" s_law_bag ["_law_script"]) : DfOk P w K mg base 1 "_law_bag" ["_law_script"] (SpF T K (fun ns : List Int => [.scr ns]) (fun _ => True) (fun _ d => d = .bag)) := by
  refine df_toBag (df_mk F sc_law_bag (fun _ => rfl) fun f cd A' outer s H E hr ns _ => ?_)
  have nd := sc_law_bag.nd
  have hl : (ns.take 63).length ≤ 63 := by rw [List.length_take]; omega
  refine rg_ret (P := fun d => d = .lst [.int 0, .int 1234567891, .int 0, .lst ((ns.take 63).map fun n => D.int (if n < 0 then -n else n))]) (PD.pn (PL.pd (pl_lst (pds_cons pd_int (pds_cons pd_int (pds_cons pd_int (pds_cons (PL.pd (PLc.pl (plc_fm (pat := .nm 1) (xs := ns.take 63) (it := D.int) (t := fun _ => true) (g := fun n => .int (if n < 0 then -n else n))
    (src_list (PL.pd (pl_scrTo (n := 63) (pd_var 0) pd_int))) (fun _ _ _ _ _ => pat_nm 1 nd) (blkOk_by (N := N_law_bag) (sc := defScope s_law_bag) (own := [("_law_cell", 1)]) (by decide +kernel)) nd (Nat.le_trans hl (by decide)) fun n hn => ⟨_, rfl, rfl, fun _ _ _ _ _ _ => pd_abs b.abs (pd_var 1)⟩))) pds_nil)))))) ?_) fun d hd => ⟨(ns.take 63).map fun n => if n < 0 then -n else n, by rw [List.length_map]; omega, by rw [hd, List.map_map]; rfl⟩
  rw [List.filter_eq_self.mpr fun _ _ => rfl]
abbrev SpSome (T : List (Addr × Str)) (K : PySem.W.Frag) : Sp := SpF T K (fun xs : List D => [.bag, .lst xs]) (fun xs => xs ≠ [] ∧ xs.length ≤ 1000) (fun xs d => d ∈ xs)
theorem ok_law_some (b : Bl mg) (F : At K mg "_law_some" s_law_some ["_law_bag_here", "_law_things"]) (A1 : DfOk P w K mg base 1 "_law_take" ["_law_bag_here", "_law_many"] (SpTake T K)) : DfOk P w K mg base 2 "_law_some" ["_law_bag_here", "_law_things"] (SpSome T K) := by
  refine df_mk F sc_law_some (fun _ => rfl) fun f cd A' outer s H E hr xs hx => ?_
  refine rg_ret (P := fun d => d ∈ xs) (pn_ix (PD.pn (P := fun d => d = .lst xs) (pd_var 1) rfl) (pn_call A1 hr (xs.length : Int) (pds_cons (pd_var 0) (pds_cons (pd_lenL b.len (pd_var 1)) pds_nil)) ⟨by have := List.length_pos_iff.mpr hx.1; omega, by omega⟩) fun x y hx' ⟨m, hm, h0, h1⟩ => ?_) fun d hd => hd
  rcases Int.eq_ofNat_of_zero_le h0 with ⟨n, rfl⟩
  have hn : n < xs.length := by omega
  exact ⟨xs, n, xs[n], .inr hx', hm, atI_nat (List.getElem?_eq_getElem hn), List.getElem_mem hn⟩
abbrev SpMixed (T : List (Addr × Str)) (K : PySem.W.Frag) : Sp := SpF T K (fun xs : List D => [.bag, .lst xs]) (fun xs => xs.length ≤ 1000) (fun xs d => ∃ ys, d = .lst ys ∧ ys.Perm xs)
theorem ok_law_mixed (b : Bl mg) (F : At K mg "_law_mixed" s_law_mixed ["_law_bag_here", "_law_things"]) (A1 : DfOk P w K mg base 1 "_law_take" ["_law_bag_here", "_law_many"] (SpTake T K)) : DfOk P w K mg base 2 "_law_mixed" ["_law_bag_here", "_law_things"] (SpMixed T K) := by
  refine df_mk F sc_law_mixed (fun _ => rfl) fun f cd A' outer s H E hr xs hx => ?_
  have nd := sc_law_mixed.nd
  refine rg_asgL 2 (P := fun l => l = []) (PL.pln (pl_lst pds_nil) rfl) nd (fun l hl => ?_)
  subst hl
  refine rg_for (pat := .nm 3) (fun _ i ds => ∃ ys s3, ds = [.dat .bag, .dat (.lst xs), .own ys, s3] ∧ ys.Perm (xs.take i)) (src_list (pd_var 1)) (pat_nm 3 nd) (fun _ _ => ⟨_, _, rfl, by simp⟩) ?_ ?_ .never
  · rintro xs i d ds' rfl hd ⟨ys, s3, rfl, hp⟩
    refine ⟨_, rfl, ?_⟩
    show RG _ _ _ [.dat .bag, .dat (.lst xs), .own ys, .dat d] _
    have hyl : ys.length ≤ 1000 := by rw [hp.length_eq, List.length_take]; omega
    refine rg_insert 2 (xs := ys) (d := d) (R := fun j => j ≤ ys.length) rfl (PN.opn (PN.imp (pn_call A1 hr ((ys.length : Int) + 1) (pds_cons (pd_var 0) (pds_cons (pd_add (pd_lenL b.len (pd_var 2)) pd_int) pds_nil)) ⟨by omega, by omega⟩) fun d' ⟨m, hm, h0, h1⟩ => ?_) fun d' ⟨j, hj, _⟩ => by rw [hj]; rfl) (pd_var 3) (Nat.lt_of_le_of_lt hyl (by decide)) fun j hj => rg_nil ⟨_, _, rfl, ?_⟩
    · obtain ⟨n, rfl⟩ := Int.eq_ofNat_of_zero_le h0
      exact ⟨n, hm, by omega, by omega⟩
    · rw [List.take_add_one, hd]
      refine List.Perm.trans ?_ (hp.append_right [d])
      have e : ys = ys.take j ++ ys.drop j := (List.take_append_drop j ys).symm
      conv => rhs; rw [e]
      rw [List.append_assoc]; rw [List.append_assoc]
      exact List.Perm.append_left _ List.perm_append_comm
  · rintro xs ds' rfl ⟨ys, s3, rfl, hp⟩
    exact rg_ret (PD.pn (P := fun d => d = .lst ys) (pd_var 2) rfl) fun d hd => ⟨ys, hd, by rwa [List.take_length] at hp⟩
def onD : Option Nat → D
  | none => .non
  | some j => .int (j : Int)
abbrev SpForest (T : List (Addr × Str)) (K : PySem.W.Frag) : Sp := SpF T K (fun n : Nat => [.bag, .int (n : Int)]) (fun n => n ≤ 400) (fun n d => ∃ ps : List (Option Nat), d = .lst (ps.map onD) ∧ ps.length = n ∧ Frst ps)
theorem ok_law_forest (b : Bl mg) (F : At K mg "_law_forest" s_law_forest ["_law_bag_here", "_law_many"]) (A1 : DfOk P w K mg base 2 "_law_some" ["_law_bag_here", "_law_things"] (SpSome T K)) : DfOk P w K mg base 3 "_law_forest" ["_law_bag_here", "_law_many"] (SpForest T K) := by
  refine df_mk F sc_law_forest (fun _ => rfl) fun f cd A' outer s H E hr n hn => ?_
  have nd := sc_law_forest.nd
  refine rg_asgL 2 (P := fun l => l = []) (PL.pln (pl_lst pds_nil) rfl) nd (fun l hl => ?_)
  subst hl
  refine rg_for (pat := .nm 3) (fun _ i ds => ∃ (ps : List (Option Nat)) (s3 : Sl), ds = [.dat .bag, .dat (.int (n : Int)), .own (ps.map onD), s3] ∧ ps.length = i ∧ Frst ps) (src_range1 b.range (pd_var 1) (by omega) (by omega)) (pat_nm 3 nd) (fun _ _ => ⟨[], _, rfl, rfl, ⟨fun i j h => by simp at h⟩⟩) ?_ ?_ .never
  · rintro items i d ds' rfl hd ⟨ps, s3, rfl, hl, hf⟩
    have hi : i < n := by
      have := (List.getElem?_eq_some_iff.mp hd).1
      simpa using this
    have hd : d = .int (i : Int) := by
      rw [List.getElem?_map, List.getElem?_range (by simpa using hi)] at hd
      have := Option.some.inj hd
      rw [← this]
      simp
    subst hd
    refine ⟨_, rfl, ?_⟩
    show RG _ _ _ [.dat .bag, .dat (.int (n : Int)), .own (ps.map onD), .dat (.int (i : Int))] _
    have rg : RgOk 0 (i : Int) := ⟨by omega, by omega⟩
    refine rg_append 2 (xs := ps.map onD) rfl (PN.po (PN.imp (P' := fun d => ∃ o : Option Nat, d = onD o ∧ ∀ j, o = some j → j < i) (pn_call A1 hr ((.non :: rgD 0 (i : Int)) ++ rgD 0 (i : Int)) (pds_cons (pd_var 0) (pds_cons (PL.pd (pl_cat (PL.pd (pl_cat (PL.pd (pl_lst (pds_cons pd_non pds_nil))) (PL.pd (pl_listRg1 b.list b.range (pd_var 3) rg)) ?_)) (PL.pd (pl_listRg1 b.list b.range (pd_var 3) rg)) ?_)) pds_nil)) ⟨by simp, ?_⟩) fun d hd => ?_)) ?_ fun d hd => ?_
    · have : (rgD 0 (i : Int)).length = i := by unfold rgD; simp
      simp only [List.length_cons, List.length_nil, this]
      exact fits (by rw [List.length_map, List.length_range]; omega)
    · have : (rgD 0 (i : Int)).length = i := by unfold rgD; simp
      simp only [List.length_append, List.length_cons, List.length_nil, this]
      exact fits (by omega)
    · have : (rgD 0 (i : Int)).length = i := by unfold rgD; simp
      simp only [List.length_append, List.length_cons, this]
      omega
    · have hm : ∀ d ∈ rgD 0 (i : Int), ∃ o : Option Nat, d = onD o ∧ ∀ j, o = some j → j < i := fun d hd => by
        unfold rgD at hd
        obtain ⟨j, hj, rfl⟩ := List.mem_map.mp hd
        have hj := List.mem_range.mp hj
        refine ⟨some j, ?_, fun j' e => ?_⟩
        · show D.int (0 + (j : Int)) = .int (j : Int)
          rw [Int.zero_add]
        · cases e
          omega
      rcases List.mem_append.mp hd with hd | hd
      · obtain rfl | hd := List.mem_cons.mp hd
        · exact ⟨none, rfl, fun _ e => by cases e⟩
        · exact hm d hd
      · exact hm d hd
    · rw [List.length_map, hl]; exact Nat.lt_of_lt_of_le hi (Nat.le_trans hn (by decide))
    · obtain ⟨o, rfl, ho⟩ := hd
      refine rg_nil ⟨ps ++ [o], _, by rw [List.map_append]; rfl, by simp [hl], ⟨fun k j h => ?_⟩⟩
      by_cases hk : k < ps.length
      · rw [List.getElem?_append_left hk] at h; exact hf.lt k j h
      · rw [List.getElem?_append_right (by omega)] at h
        have hk0 : k - ps.length = 0 := by
          cases e : k - ps.length with
          | zero => rfl
          | succ m => rw [e] at h; simp at h
        rw [hk0] at h
        have := ho j (by simpa using h)
        omega
  · rintro items ds' rfl ⟨ps, s3, rfl, hl, hf⟩
    refine rg_ret (PD.pn (P := fun d => d = .lst (ps.map onD)) (pd_var 2) rfl) fun d hd => ⟨ps, hd, by rw [hl]; simp, hf⟩
end
end E
namespace E
open LamX L2 PyProof.Rows PySem PySem.Spec
section
variable {X : Cx} {T : List (Addr × Str)} {elt tg iter : Expr} {scope : Scope} {own : List (Str × Nat)} {pos : Pos} {ds : List Sl} {pat : Pat}
/-- [elt for tg in iter]: items of which only a truth is known -/
theorem plc_mapN {α : Type} {P0 : List α → Prop} {it : α → D} {R : α → D → Prop} (hsrc : SrcN X T tg iter ds (fun l => ∃ xs : List α, l = xs.map it ∧ P0 xs)) (hp : inBlk X scope fun Y => PatOk Y tg pat) (ok : BlkOk X.N X.env.scope scope own) (hN : X.N.Nodup) (hn : ∀ xs, P0 xs → xs.length ≤ sizeLine)
    (hstep : ∀ xs a, P0 xs → a ∈ xs → ∃ ds', pat.bind (it a) (wipeD ds (own.map (·.2))) = some ds' ∧ inBlk X scope fun Y => PN Y T elt ds' (R a))
    (hsl : ∀ i ∈ pat.slots, i ∈ own.map (·.2) := by decide) (hc : X.calm = true := by rfl) (hs : ∀ x, foldedSetIterable iter X.env x = pure x := by intro _; rfl) :
    PLc X T (.ListComp elt [⟨tg, iter, [], 0⟩] scope pos) ds (fun l => ∃ xs, P0 xs ∧ Paired R xs l) := by
  refine plc_lc (fun i items acc => ∃ xs : List α, items = xs.map it ∧ P0 xs ∧ Paired R (xs.take i) acc) hsrc hp ok hN hsl (fun items ⟨xs, h1, h2⟩ => ⟨xs, h1, h2, .nil⟩) (fun items i d acc p0 hd ⟨xs, h1, h2, h3⟩ => ?_) (fun items acc p0 ⟨xs, h1, h2, h3⟩ => ?_) (by decide) hc hs
  · subst h1
    rw [List.getElem?_map] at hd
    obtain ⟨a, ha', rfl⟩ := Option.map_eq_some_iff.mp hd
    obtain ⟨ds', k1, k2⟩ := hstep xs a h2 (List.mem_of_getElem? ha')
    have hlt : i < xs.length := (List.getElem?_eq_some_iff.mp ha').1
    refine ⟨ds', k1, true, rfl, fun _ => ⟨fun s H C cl fp => (k2 s H C cl fp).imp fun d hd => ⟨xs, rfl, h2, ?_⟩, ?_⟩, fun e => by cases e⟩
    · rw [List.take_add_one, ha']
      exact Paired.snoc' hd h3
    · have : acc.length ≤ i := by
        rw [← Paired.length h3, List.length_take]; omega
      have := hn xs h2
      omega
  · subst h1
    refine ⟨xs, h2, ?_⟩
    rwa [List.length_map, List.take_length] at h3
theorem paired_map {α β : Type} {g : α → β} : ∀ {xs : List α} {l : List β}, Paired (fun a e => e = g a) xs l → l = xs.map g
  | _, _, .nil => rfl
  | _, _, .cons h t => by rw [h, paired_map t]; rfl
end
section
variable {P : Program} {w : World} {K : PySem.W.Frag} {mg : Str → Option Value} {base : Heap} {T : List (Addr × Str)}
theorem onD_at {ps : List (Option Nat)} {h : Nat} {o : Option Nat} (e : ps[h]? = some o) : (ps.map onD)[h]? = some (onD o) := by rw [List.getElem?_map, e]; rfl
abbrev SpLine (T : List (Addr × Str)) (K : PySem.W.Frag) : Sp := SpF T K (fun x : List (Option Nat) × Nat => [.lst (x.1.map onD), .int (x.2 : Int)]) (fun x => Frst x.1 ∧ x.2 < x.1.length ∧ x.1.length ≤ 400) (fun x d => ∃ l : List Nat, d = .lst (dN l) ∧ Line x.1 x.2 l ∧ l.length ≤ 400)
theorem ok_law_line (b : Bl mg) (F : At K mg "_law_line" s_law_line ["_law_parents", "_law_at"]) : DfOk P w K mg base 1 "_law_line" ["_law_parents", "_law_at"] (SpLine T K) := by
  refine df_mk F sc_law_line (fun _ => rfl) fun f cd A' outer s H E hr x hx => ?_
  obtain ⟨ps, at'⟩ := x
  obtain ⟨hf, hlt, h400⟩ := hx
  simp only [] at hf hlt h400
  have nd := sc_law_line.nd
  refine rg_asg 2 (PL.pd (pl_lst (pds_cons (pd_var 1) pds_nil))) nd ?_
  refine rg_while (fun m ds => ∃ tl, ds = [.dat (.lst (ps.map onD)), .dat (.int (at' : Int)), .dat (.lst (dN (m :: tl)))] ∧ m < ps.length ∧ tl.length + m ≤ at' ∧ ∀ l', Line ps m l' → Line ps at' (l' ++ tl)) at'
    ⟨[], rfl, hlt, by simp, fun l' h => by simpa using h⟩ ?_ .never
  rintro m ds' ⟨tl, rfl, hm, hl, hL⟩
  have hg : ps[m]? = some ps[m] := List.getElem?_eq_getElem hm
  have hrd : ∀ {ds : List Sl}, ds = [.dat (.lst (ps.map onD)), .dat (.int (at' : Int)), .dat (.lst (dN (m :: tl)))] → ∀ {p1 p2 p3 p4 p5 : Pos} {j : Nat}, PD (dcx P w K mg base N_law_line "_law_line" (defScope s_law_line) f cd A' outer s H E) T (.Subscript (.Name "_law_parents" p1) (.Subscript (.Name "_law_found" p2) (.Constant (.int 0) j p3) p4) p5) ds (onD ps[m]) := fun {ds} e {p1 p2 p3 p4 p5 j} => by
    subst e
    exact pd_ixL (pd_var 0) (pd_ixL (pd_var 2) pd_int (atI_nat (j := 0) rfl)) (atI_nat (j := m) (onD_at hg))
  refine ⟨ps[m].isSome, TD.of (td_cmp c_notN (hrd rfl) pd_non) ?_, fun hk => ?_, fun hk => ?_⟩
  · cases ps[m] <;> rfl
  · cases e : ps[m] with
    | none => rw [e] at hk; cases hk
    | some j =>
      have hj := hf.lt m j (by rw [hg, e])
      refine rg_asg 2 (PL.pd (pl_cat (PL.pd (pl_lst (pds_cons (hrd rfl) pds_nil))) (pd_var 2) (fits (by simp [dN]; omega)))) nd (rg_nil ⟨j, hj, m :: tl, ?_, by omega, by simp; omega, fun l' h => ?_⟩)
      · rw [e]; rfl
      · have := hL _ (Line.step m j l' (by rw [hg, e]) h)
        rwa [List.append_assoc] at this
  · cases e : ps[m] with
    | some j => rw [e] at hk; cases hk
    | none =>
      refine rg_ret (PD.pn (P := fun d => d = .lst (dN (m :: tl))) (pd_var 2) rfl) fun d hd => ⟨m :: tl, hd, ?_, by simp; omega⟩
      exact hL [m] (Line.root m (by rw [hg, e]))
abbrev SpColMixed (T : List (Addr × Str)) (K : PySem.W.Frag) : Sp := SpF T K (fun x : List Str × List (Option Nat) × Nat => [.bag, .lst (x.1.map .str), .lst (x.2.1.map onD), .int (x.2.2 : Int)]) (fun x => Frst x.2.1 ∧ x.2.2 < x.2.1.length ∧ x.2.1.length ≤ 400 ∧ x.2.1.length = x.1.length)
  (fun x d => ∃ (l : List Nat) (own : List Str), Line x.2.1 x.2.2 l ∧ d = fS own ∧ own.Perm (l.map fun u => x.1.getD u ""))
theorem perm_map {α β : Type} {f : α → β} {ys : List β} {xs : List α} (h : ys.Perm (xs.map f)) : ∃ zs : List α, ys = zs.map f ∧ zs.Perm xs := by
  have key : ∀ {as bs : List β}, as.Perm bs → ∀ xs : List α, bs = xs.map f → ∃ zs : List α, as = zs.map f ∧ zs.Perm xs := fun {as bs} h => by
    induction h with
    | nil => intro xs e; cases xs with
      | nil => exact ⟨[], rfl, .nil⟩
      | cons _ _ => cases e
    | cons a _ ih => intro xs e; cases xs with
      | nil => cases e
      | cons x xs =>
        simp only [List.cons.injEq, List.map_cons] at e
        obtain ⟨zs, h1, h2⟩ := ih xs e.2
        exact ⟨x :: zs, by rw [h1, List.map_cons, e.1], h2.cons x⟩
    | swap a b l => intro xs e; cases xs with
      | nil => cases e
      | cons x xs => cases xs with
        | nil => cases e
        | cons y xs =>
          simp only [List.cons.injEq, List.map_cons] at e
          exact ⟨y :: x :: xs, by simp [e.1, e.2.1, e.2.2], .swap x y xs⟩
    | trans _ _ ih1 ih2 =>
      intro xs e
      obtain ⟨zs, h1, h2⟩ := ih2 xs e
      obtain ⟨us, h3, h4⟩ := ih1 zs h1
      exact ⟨us, h3, h4.trans h2⟩
  exact key h xs rfl
theorem ok_law_columns_mixed (b : Bl mg) (F : At K mg "_law_columns_mixed" s_law_columns_mixed ["_law_bag_here", "_law_names", "_law_parents", "_law_at"]) (A1 : DfOk P w K mg base 2 "_law_mixed" ["_law_bag_here", "_law_things"] (SpMixed T K)) (A2 : DfOk P w K mg base 1 "_law_line" ["_law_parents", "_law_at"] (SpLine T K)) :
    DfOk P w K mg base 3 "_law_columns_mixed" ["_law_bag_here", "_law_names", "_law_parents", "_law_at"] (SpColMixed T K) := by
  refine df_mk F sc_law_columns_mixed (fun _ => rfl) fun f cd A' outer s H E hr x hx => ?_
  obtain ⟨names, ps, at'⟩ := x
  obtain ⟨hf, hlt, h400, hl⟩ := hx
  simp only [] at hf hlt h400 hl
  have nd := sc_law_columns_mixed.nd
  refine rg_ret (P := fun d => ∃ l, d = .ftp l ∧ ∃ (ln : List Nat) (own : List Str), Line ps at' ln ∧ l = own.map .str ∧ own.Perm (ln.map fun u => names.getD u "")) (pn_tupF b.tuple (pn_callN (P0 := fun l => ∃ ln : List Nat, Line ps at' ln ∧ ln.length ≤ 400 ∧ l = [.bag, .lst (ln.map fun u => .str (names.getD u ""))]) A1 hr
    (pns_cons (P := fun d => d = .bag) (R := fun l => ∃ ln : List Nat, Line ps at' ln ∧ ln.length ≤ 400 ∧ l = [.lst (ln.map fun u => .str (names.getD u ""))]) (PD.pn (pd_var 0) rfl) (pns_cons (P := fun d => ∃ ln : List Nat, Line ps at' ln ∧ ln.length ≤ 400 ∧ d = .lst (ln.map fun u => .str (names.getD u ""))) (R := fun l => l = []) (PN.imp (PLc.pln (plc_mapN (pat := .nm 4) (P0 := fun ln : List Nat => Line ps at' ln ∧ ln.length ≤ 400) (it := fun u : Nat => .int (u : Int)) (R := fun u e => e = .str (names.getD u ""))
      (srcN_list (PN.imp (pn_call A2 (hr.mono (by omega)) (ps, at') (pds_cons (pd_var 2) (pds_cons (pd_var 3) pds_nil)) ⟨hf, hlt, h400⟩) fun d ⟨l, h1, h2, h3⟩ => ⟨_, h1, l, rfl, h2, h3⟩)) (fun _ _ _ _ _ => pat_nm 4 nd) (blkOk_by (N := N_law_columns_mixed) (sc := defScope s_law_columns_mixed) (own := [("_law_one", 4)]) (by decide +kernel)) nd (fun xs h => fits (by omega)) ?_)).pn fun d hd => ?_) (PDs.pns pds_nil rfl) fun x xs h1 h2 => ?_) fun x xs h1 h2 => ?_) fun l hl' => ?_)) fun d hd => ?_
  · intro xs u hxs hu
    have hu' : u < names.length := by
      have := ((hxs.1.mem u).mp hu).ltl hf
      omega
    refine ⟨_, rfl, fun _ _ _ _ _ => PD.pn (pd_ixL (pd_var 1) (pd_var 4) (atI_nat (j := u) ?_)) rfl⟩
    rw [List.getElem?_map, List.getElem?_eq_getElem hu', List.getD_eq_getElem?_getD, List.getElem?_eq_getElem hu']
    rfl
  · obtain ⟨l, rfl, xs, h1, h2⟩ := hd
    exact ⟨xs, h1.1, h1.2, by rw [paired_map h2]⟩
  · subst h2
    obtain ⟨ln, h1, h3, rfl⟩ := h1
    exact ⟨ln, h1, h3, rfl⟩
  · subst h1
    obtain ⟨ln, h1, h3, rfl⟩ := h2
    exact ⟨ln, h1, h3, rfl⟩
  · obtain ⟨ln, h1, h3, rfl⟩ := hl'
    refine ⟨_, rfl, by rw [List.length_map]; omega, fun d ⟨ys, hd, hp⟩ => ⟨ys, hd, ?_⟩⟩
    have e : (ln.map fun u => D.str (names.getD u "")) = (ln.map fun u => names.getD u "").map .str := by rw [List.map_map]; rfl
    rw [e] at hp
    obtain ⟨own, h4, h5⟩ := perm_map hp
    exact ⟨ln, own, h1, h4, h5⟩
  · obtain ⟨l, rfl, ln, own, h1, rfl, h2⟩ := hd
    exact ⟨ln, own, h1, rfl, h2⟩
abbrev SpRanges (T : List (Addr × Str)) (K : PySem.W.Frag) : Sp := SpF T K (fun cols : List Str => [.bag, fS cols]) (fun cols => cols.length ≤ 400)
  (fun cols d => ∃ rs : List (Str × Option Int × Option Int), d = .ftp (rs.map rngD) ∧ rs.length ≤ cols.length ∧ ∀ r ∈ rs, r.1 ∈ cols ∧ (∀ v, r.2.1 = some v → -3 ≤ v ∧ v ≤ 2) ∧ (∀ v, r.2.2 = some v → v.natAbs ≤ 6) ∧ ∀ v h, r.2.1 = some v → r.2.2 = some h → v ≤ h)
theorem ok_law_ranges (b : Bl mg) (F : At K mg "_law_ranges" s_law_ranges ["_law_bag_here", "_law_columns"]) (A1 : DfOk P w K mg base 1 "_law_take" ["_law_bag_here", "_law_many"] (SpTake T K)) (A2 : DfOk P w K mg base 2 "_law_some" ["_law_bag_here", "_law_things"] (SpSome T K)) (A3 : DfOk P w K mg base 2 "_law_mixed" ["_law_bag_here", "_law_things"] (SpMixed T K)) :
    DfOk P w K mg base 3 "_law_ranges" ["_law_bag_here", "_law_columns"] (SpRanges T K) := by
  refine df_mk F sc_law_ranges (fun _ => rfl) fun f cd A' outer s H E hr cols hx => ?_
  have nd := sc_law_ranges.nd
  refine rg_asgL 2 (P := fun l => l = []) (PL.pln (pl_lst pds_nil) rfl) nd (fun l hl => ?_)
  subst hl
  have hcl : (cols.map D.str).length ≤ 400 := by rw [List.length_map]; exact hx
  refine rg_for (P0 := fun l => l.Perm (cols.map .str)) (pat := .nm 3) (fun _ i ds => ∃ (rs : List (Str × Option Int × Option Int)) (s3 s4 s5 : Sl), ds = [.dat .bag, .dat (fS cols), .own (rs.map rngD), s3, s4, s5] ∧ rs.length ≤ i ∧ ∀ r ∈ rs, r.1 ∈ cols ∧ (∀ v, r.2.1 = some v → -3 ≤ v ∧ v ≤ 2) ∧ (∀ v, r.2.2 = some v → v.natAbs ≤ 6) ∧ ∀ v h, r.2.1 = some v → r.2.2 = some h → v ≤ h)
    ?_ (pat_nm 3 nd) (fun _ _ => ⟨[], _, _, _, rfl, Nat.le_refl _, by simp⟩) ?_ ?_ .never
  · refine srcN_list ?_
    refine PN.imp (pn_call A3 hr (cols.map .str) ?_ ?_) ?_
    · exact pds_cons (pd_var 0) (pds_cons (PL.pd (pl_listT b.list (PD.tup (pd_var 1)))) pds_nil)
    · show (cols.map D.str).length ≤ 1000
      omega
    · exact fun d hd => hd
  · rintro items i d ds' hperm hd ⟨rs, s3, s4, s5, rfl, hl, hrs⟩
    obtain ⟨c, hc, rfl⟩ : ∃ c ∈ cols, D.str c = d := List.mem_map.mp (hperm.mem_iff.mp (List.mem_of_getElem? hd))
    have hi : i < 400 := by
      have := (List.getElem?_eq_some_iff.mp hd).1
      rw [hperm.length_eq] at this
      omega
    refine ⟨_, rfl, ?_⟩
    show RG _ _ _ [.dat .bag, .dat (fS cols), .own (rs.map rngD), .dat (.str c), s4, s5] _
    refine rg_whenN (tn_eqI (PN.imp (pn_call (k := 1) A1 (hr.mono (by decide)) (3 : Int) (pds_cons (pd_var 0) (pds_cons pd_int pds_nil)) ⟨by decide, by decide⟩) fun d ⟨m, h, _⟩ => ⟨m, h⟩) (pd_int.pn ⟨0, rfl⟩)) ?_ (rg_nil ⟨rs, _, _, _, rfl, by omega, hrs⟩)
    refine rg_asgN 4 (P := fun d => ∃ lo : Option Int, d = oi lo ∧ ∀ v, lo = some v → -3 ≤ v ∧ v ≤ 2) (PN.imp (pn_call A2 hr ([.non, .int 0, .int 1, .int 2, .int (-3)] : List D) (pds_cons (pd_var 0) (pds_cons (PL.pd (pl_lst (pds_cons pd_non (pds_cons pd_int (pds_cons pd_int (pds_cons pd_int (pds_cons (pd_neg pd_int) pds_nil))))))) pds_nil)) ⟨by simp, by decide⟩) fun d hd => ?_) nd fun d ⟨lo, hd, hlo⟩ => ?_
    · simp only [List.mem_cons, List.not_mem_nil, or_false] at hd
      rcases hd with rfl | rfl | rfl | rfl | rfl
      · exact ⟨none, rfl, fun _ e => by cases e⟩
      all_goals exact ⟨some _, rfl, fun _ e => by cases e; decide⟩
    subst hd
    show RG _ _ _ [.dat .bag, .dat (fS cols), .own (rs.map rngD), .dat (.str c), .dat (oi lo), s5] _
    refine rg_asgN 5 (P := fun d => ∃ hi : Option Int, d = oi hi ∧ ∀ v, hi = some v → v.natAbs ≤ 6) (PN.imp (pn_call A2 hr ([.non, .int 3, .int 4, .int 6, .int (lo.getD 2), .int 5] : List D) ?_ ?_) fun d hd => ?_) nd fun d ⟨hi', hd, hhi⟩ => ?_
    · refine pds_cons (pd_var 0) (pds_cons (PL.pd (pl_lst (pds_cons pd_non (pds_cons pd_int (pds_cons pd_int (pds_cons pd_int (pds_cons (pd_if (k := lo.isSome) (td_cmp c_notOi (pd_var 4) pd_non) (fun h => ?_) fun h => ?_) (pds_cons pd_int pds_nil)))))))) pds_nil)
      · cases lo with
        | none => cases h
        | some v => exact pd_var 4
      · cases lo with
        | none => exact pd_int
        | some v => cases h
    · exact ⟨by simp, by show 6 ≤ 1000; decide⟩
    · simp only [List.mem_cons, List.not_mem_nil, or_false] at hd
      rcases hd with rfl | rfl | rfl | rfl | rfl | rfl
      · exact ⟨none, rfl, fun _ e => by cases e⟩
      · exact ⟨some _, rfl, fun _ e => by cases e; decide⟩
      · exact ⟨some _, rfl, fun _ e => by cases e; decide⟩
      · exact ⟨some _, rfl, fun _ e => by cases e; decide⟩
      · refine ⟨some _, rfl, fun _ e => ?_⟩
        cases e
        cases lo with
        | none => decide
        | some v => have := hlo v rfl; show v.natAbs ≤ 6; omega
      · exact ⟨some _, rfl, fun _ e => by cases e; decide⟩
    subst hd
    show RG _ _ _ [.dat .bag, .dat (fS cols), .own (rs.map rngD), .dat (.str c), .dat (oi lo), .dat (oi hi')] _
    obtain ⟨fi, hfi, k, hk1, hk2, hk3⟩ : ∃ (fi : Option Int), ((∀ v, fi = some v → v.natAbs ≤ 6) ∧ ∀ v h, lo = some v → fi = some h → v ≤ h) ∧ ∃ k : Bool, k = (lo.isNone || (hi'.isNone || match lo, hi' with | some v, some h => decide (v ≤ h) | _, _ => true)) ∧ (k = true → fi = hi') ∧ (k = false → fi = lo) := by
      cases lo with
      | none => exact ⟨hi', ⟨hhi, fun _ _ e => (by cases e)⟩, true, rfl, fun _ => rfl, fun e => (by cases e)⟩
      | some v =>
        cases hi' with
        | none => exact ⟨none, ⟨fun _ e => (by cases e), fun _ _ _ e => (by cases e)⟩, true, rfl, fun _ => rfl, fun e => (by cases e)⟩
        | some h =>
          by_cases z : v ≤ h
          · exact ⟨some h, ⟨hhi, fun _ _ e1 e2 => (by cases e1; cases e2; exact z)⟩, true, by simp [z], fun _ => rfl, fun e => (by cases e)⟩
          · exact ⟨some v, ⟨fun _ e => (by cases e; have := hlo v rfl; omega), fun _ _ e1 e2 => (by cases e1; cases e2; exact Int.le_refl _)⟩, false, by simp [z], fun e => (by cases e), fun _ => rfl⟩
    refine rg_append 2 (xs := rs.map rngD) rfl (P := fun d => d = rngD (c, lo, fi)) (PN.po (PD.pn (pd_tup (pds_cons (pd_var 3) (pds_cons (pd_var 4) (pds_cons (pd_if (d := oi fi) (k := k) (WD.td (hk1 ▸ wd_or (k := lo.isNone) (td_cmp c_isOi (pd_var 4) pd_non) fun e1 => wd_or (k := hi'.isNone) (td_cmp c_isOi (pd_var 5) pd_non) fun e2 => wd_or1 ?_)) (fun h => hk2 h ▸ pd_var 5) fun h => hk3 h ▸ pd_var 4) pds_nil)))) rfl)) (by rw [List.length_map]; exact Nat.lt_of_le_of_lt hl (Nat.lt_of_lt_of_le hi (by decide))) fun d hd => ?_
    · cases lo with
      | none => cases e1
      | some v =>
        cases hi' with
        | none => cases e2
        | some h => exact td_cmp c_le (pd_var 4) (pd_var 5)
    · subst hd
      refine rg_nil (rg_nil ⟨rs ++ [(c, lo, fi)], _, _, _, by rw [List.map_append]; rfl, by simp; omega, fun r hr => ?_⟩)
      obtain hr | hr := List.mem_append.mp hr
      · exact hrs r hr
      · rw [List.mem_singleton.mp hr]
        exact ⟨hc, hlo, hfi.1, hfi.2⟩
  · rintro items ds' hperm ⟨rs, s3, s4, s5, rfl, hl, hrs⟩
    refine rg_ret (pn_tupF (P := fun l => l = rs.map rngD) b.tuple (PD.pn (pd_var 2) ⟨_, rfl, rfl⟩)) fun d ⟨l, hd, hl'⟩ => ⟨rs, by rw [hd, hl'], ?_, hrs⟩
    rw [hperm.length_eq, List.length_map] at hl
    exact hl
end
end E
namespace E
open LamX L2 PyProof.Rows PySem PySem.Spec
def onV : Option Nat → V
  | none => .non
  | some j => .int (j : Int)
theorem inV_on {i : Nat} : ∀ {ps : List (Option Nat)}, inV (.int (i : Int)) (ps.map onV) = decide (some i ∈ ps)
  | [] => rfl
  | o :: ps => by
    have h := inV_on (i := i) (ps := ps)
    unfold inV at h ⊢
    rw [List.map_cons, List.any_cons, h]
    cases o with
    | none =>
      show (false || _) = _
      rw [Bool.false_or]
      simp
    | some j =>
      show (((j : Int) == (i : Int)) || _) = _
      rw [Bool.eq_iff_iff, Bool.or_eq_true, decide_eq_true_iff, decide_eq_true_iff, beq_iff_eq, List.mem_cons]
      constructor
      · rintro (h | h)
        · left; congr 1; omega
        · exact .inr h
      · rintro (h | h)
        · left; cases h; rfl
        · exact .inr h
def six : List Str := ["a", "b", "c", "d", "x1", "y"]
def eight : List Str := ["r", "s", "t", "u", "v", "w", "p", "q7"]
def hsD (h : Bool) : D := .str (if h then "has" else "not")
def enD (e : Bool × Nat) : D := .tup [hsD e.1, .int (e.2 : Int)]
def leafs (ps : List (Option Nat)) (n : Nat) : List (Bool × Nat) := ((List.range n).filter fun i => !decide (some i ∈ ps)).map fun i => (true, i)
theorem leafs_len (ps : List (Option Nat)) (n : Nat) : (leafs ps n).length ≤ n := by
  unfold leafs
  rw [List.length_map]
  exact Nat.le_trans (List.length_filter_le _ _) (by rw [List.length_range]; exact Nat.le_refl _)
/-- a drawn question -/
def DrawnQ (q : Qn) : Prop := (∃ names ps, Drawn q names ps) ∧ (q.atoms.map (·.name)).Nodup ∧ (∀ a ∈ q.atoms, a.name ∈ eight) ∧ ∀ c ∈ q.cols, c ∈ six
/-- the atoms made so far -/
def Made (names : List Str) (ps : List (Option Nat)) (es : List (Bool × Nat)) (tn : List Str) (as : List Atom) : Prop :=
  ∀ j, j < as.length → ∃ a e t, as[j]? = some a ∧ es[j]? = some e ∧ tn[j]? = some t ∧ a.has = e.1 ∧ a.name = t ∧ ∃ l, Line ps e.2 l ∧ a.own.Perm (l.map fun u => names.getD u "")
theorem Made.names {names : List Str} {ps : List (Option Nat)} {es : List (Bool × Nat)} {tn : List Str} {as : List Atom} (h : Made names ps es tn as) (hl : as.length ≤ tn.length) : as.map (·.name) = tn.take as.length := by
  apply List.ext_getElem
  · simp; omega
  · intro i h1 h2
    simp only [List.length_map] at h1
    obtain ⟨a, e, t, e1, _, e3, _, e5, _⟩ := h i h1
    rw [List.getElem_map, List.getElem_take]
    have k1 := (List.getElem?_eq_some_iff.mp e1).2
    have k2 := (List.getElem?_eq_some_iff.mp e3).2
    rw [k1, k2, e5]
theorem drawn_mk {names : List Str} {ps : List (Option Nat)} {es : List (Bool × Nat)} {tn : List Str} {as atoms : List Atom} {cols : List Str} {rs : List (Str × Option Int × Option Int)} (hnd : names.Nodup) (hsx : ∀ c ∈ names, c ∈ six) (h5 : names.length ≤ 5) (h1 : 1 ≤ names.length) (hpl : ps.length = names.length) (hfr : Frst ps)
    (hle : ∃ more, es = leafs ps names.length ++ more) (htn : tn.Perm eight) (hm : Made names ps es tn as) (hal : as.length = min es.length tn.length) (hc : cols.Perm names) (ha : atoms.Perm as) (hrl : rs.length ≤ cols.length)
    (hrs : ∀ r ∈ rs, r.1 ∈ cols ∧ (∀ v, r.2.1 = some v → -3 ≤ v ∧ v ≤ 2) ∧ (∀ v, r.2.2 = some v → v.natAbs ≤ 6) ∧ ∀ v h, r.2.1 = some v → r.2.2 = some h → v ≤ h) : DrawnQ ⟨cols, atoms, rs⟩ := by
  have h8 : tn.length = 8 := htn.length_eq
  have ha8 : as.length ≤ 8 := by rw [hal, h8]; exact Nat.min_le_right _ _
  have hown : ∀ a ∈ as, ∃ k l, Line ps k l ∧ a.own.Perm (l.map fun u => names.getD u "") := fun a h => by
    obtain ⟨j, hj, e⟩ := List.mem_iff_getElem.mp h
    obtain ⟨a', e', t, e1, _, _, _, _, l, h3, h4⟩ := hm j hj
    rw [List.getElem?_eq_getElem hj, e] at e1
    cases e1
    exact ⟨_, l, h3, h4⟩
  have hnm := hm.names (by omega)
  refine ⟨⟨names, ps, hnd, h5, h1, hpl, hfr, hc, fun a h => hown a (ha.mem_iff.mp h), fun k hk => ?_, by show atoms.length ≤ 8; rw [ha.length_eq]; exact ha8, fun r hr => (hrs r hr).1, fun r hr => (hrs r hr).2, by show rs.length ≤ 5; rw [hc.length_eq] at hrl; omega⟩, ?_, fun a h => ?_, fun c h => hsx c (hc.mem_iff.mp h)⟩
  · obtain ⟨more, he⟩ := hle
    have hkl : (true, k) ∈ leafs ps names.length := by
      unfold leafs
      refine List.mem_map.mpr ⟨k, List.mem_filter.mpr ⟨List.mem_range.mpr (by rw [← hpl]; exact hk.1), ?_⟩, rfl⟩
      simp only [decide_eq_false_iff_not, Bool.not_eq_true']
      intro hmem
      obtain ⟨i, hi, e⟩ := List.mem_iff_getElem.mp hmem
      exact hk.2 i (by rw [List.getElem?_eq_getElem hi, e])
    obtain ⟨j, hj, e⟩ := List.mem_iff_getElem.mp hkl
    have hll := leafs_len ps names.length
    have hje : es[j]? = some (true, k) := by rw [he, List.getElem?_append_left hj, List.getElem?_eq_getElem hj, e]
    have hjes : j < es.length := (List.getElem?_eq_some_iff.mp hje).1
    have hja : j < as.length := by rw [hal, h8]; omega
    obtain ⟨a, e', t, e1, e2, _, e4, _, l, h3, h4⟩ := hm j hja
    rw [hje] at e2
    cases e2
    exact ⟨a, ha.mem_iff.mpr (List.mem_of_getElem? e1), e4, l, h3, h4⟩
  · show (atoms.map (·.name)).Nodup
    rw [(ha.map _).nodup_iff, hnm]
    exact (htn.nodup_iff.mpr (by decide)).sublist (List.take_sublist _ _)
  · have := List.mem_map_of_mem (f := (·.name)) (ha.mem_iff.mp h)
    rw [hnm] at this
    exact htn.mem_iff.mp (List.mem_of_mem_take this)
section
variable {P : Program} {w : World} {K : PySem.W.Frag} {mg : Str → Option Value} {base : Heap} {T : List (Addr × Str)}
abbrev SpNQ (T : List (Addr × Str)) (K : PySem.W.Frag) : Sp := SpF T K (fun n : Nat => [.bag, .int (n : Int)]) (fun n => 1 ≤ n ∧ n ≤ 5) (fun n d => ∃ q : Qn, d = q.d ∧ DrawnQ q)
theorem ok_law_nested_question (b : Bl mg) (F : At K mg "_law_nested_question" s_law_nested_question ["_law_bag_here", "_law_most"]) (A1 : DfOk P w K mg base 1 "_law_take" ["_law_bag_here", "_law_many"] (SpTake T K)) (A2 : DfOk P w K mg base 2 "_law_some" ["_law_bag_here", "_law_things"] (SpSome T K)) (A3 : DfOk P w K mg base 2 "_law_mixed" ["_law_bag_here", "_law_things"] (SpMixed T K))
    (A4 : DfOk P w K mg base 3 "_law_forest" ["_law_bag_here", "_law_many"] (SpForest T K)) (A5 : DfOk P w K mg base 3 "_law_columns_mixed" ["_law_bag_here", "_law_names", "_law_parents", "_law_at"] (SpColMixed T K)) (A6 : DfOk P w K mg base 3 "_law_ranges" ["_law_bag_here", "_law_columns"] (SpRanges T K)) :
    DfOk P w K mg base 4 "_law_nested_question" ["_law_bag_here", "_law_most"] (SpNQ T K) := by
  refine df_mk F sc_law_nested_question (fun _ => rfl) fun f cd A' outer s H E hr most hx => ?_
  have nd := sc_law_nested_question.nd
  refine rg_asgN 2 (P := fun d => ∃ names : List Str, d = .lst (names.map .str) ∧ names.Nodup ∧ names.length ≤ 5 ∧ 1 ≤ names.length ∧ ∀ c ∈ names, c ∈ six) (PN.imp (PLn.pn (pln_slTo (P := fun l => l.Perm (six.map .str)) (R := fun n => 1 ≤ n ∧ n ≤ 5) ?_ ?_)) fun d hd => ?_) nd fun d ⟨names, hd, hnd, h5, h1, hsx⟩ => ?_
  · refine PN.imp (pn_call A3 (hr.mono (by decide)) (six.map D.str) ?_ ?_) ?_
    · exact pds_cons (pd_var 0) (pds_cons (PL.pd (pl_lst (pds_cons pd_str (pds_cons pd_str (pds_cons pd_str (pds_cons pd_str (pds_cons pd_str (pds_cons pd_str pds_nil)))))))) pds_nil)
    · show 6 ≤ 1000; decide
    · exact fun d hd => hd
  · refine pn_int0 (P := fun d => d = .int 1) (R := fun d => ∃ m : Int, d = .int m ∧ 0 ≤ m ∧ m < (most : Int)) (f := fun i j => i + j) op_add (fun _ _ => rfl) (pd_int.pn rfl) ?_ ?_
    · refine PN.imp (pn_call A1 (hr.mono (by decide)) (most : Int) ?_ ?_) ?_
      · exact pds_cons (pd_var 0) (pds_cons (pd_var 1) pds_nil)
      · exact ⟨by omega, by omega⟩
      · exact fun d hd => hd
    · rintro x y rfl ⟨m, rfl, h0, h2⟩
      obtain ⟨k, rfl⟩ := Int.eq_ofNat_of_zero_le h0
      exact ⟨1, k, rfl, rfl, 1 + k, by simp, by omega, by omega⟩
  · obtain ⟨l, rfl, m, n, hm, hn, rfl⟩ := hd
    obtain ⟨zs, rfl, hz⟩ := perm_map hm
    refine ⟨zs.take n, by rw [List.map_take], ((hz.nodup_iff.mpr (by decide)).sublist (List.take_sublist _ _)), by rw [List.length_take]; omega, ?_, fun c hc => hz.mem_iff.mp (List.mem_of_mem_take hc)⟩
    have : zs.length = 6 := hz.length_eq
    rw [List.length_take]; omega
  subst hd
  show RG _ _ _ [.dat .bag, .dat (.int (most : Int)), .dat (.lst (names.map .str)), .no, .no, .no, .no, .no, .no, .no, .no, .no] _
  refine rg_asgN 3 (P := fun d => ∃ ps : List (Option Nat), d = .lst (ps.map onD) ∧ ps.length = names.length ∧ Frst ps) (PN.imp (pn_call A4 hr names.length ?_ ?_) ?_) nd fun d ⟨ps, hd, hpl, hfr⟩ => ?_
  · refine pds_cons (pd_var 0) (pds_cons (PD.of (pd_lenL b.len (pd_var 2)) ?_) pds_nil)
    rw [List.length_map]
  · show names.length ≤ 400; omega
  · exact fun d hd => hd
  subst hd
  have hnl : (names.map D.str).length = names.length := List.length_map _
  show RG _ _ _ [.dat .bag, .dat (.int (most : Int)), .dat (.lst (names.map .str)), .dat (.lst (ps.map onD)), .no, .no, .no, .no, .no, .no, .no, .no] _
  refine rg_setLc 4 (P := fun l => l = (leafs ps names.length).map enD) (PLc.imp (plc_fm (pat := .nm 5) (xs := List.range names.length) (it := fun i : Nat => .int (i : Int)) (t := fun i => !decide (some i ∈ ps)) (g := fun i : Nat => enD (true, i))
    (src_of (src_range1 b.range (pd_lenL b.len (pd_var 2)) (by omega) (by omega)) ?_) (fun _ _ _ _ _ => pat_nm 5 nd) (blkOk_by (N := N_law_nested_question) (sc := defScope s_law_nested_question) (own := [("_law_at", 5)]) (by decide +kernel)) nd (by rw [List.length_range]; exact fits (by omega)) fun i hi => ⟨_, rfl, ?_, ?_⟩) fun l hl => ?_) (fun l hl => ?_) rfl rfl
  · rw [hnl]
    simp
  · refine fun _ _ _ _ _ => td_cmp (c_ninF (ws := ps.map onV) (.inr rfl) rfl ?_ inV_on) (pd_var 5) (pd_var 3)
    rw [List.map_map, List.map_map]
    refine List.map_congr_left fun o _ => ?_
    cases o <;> rfl
  · exact fun _ _ _ _ _ _ => pd_tup (pds_cons pd_str (pds_cons (pd_var 5) pds_nil))
  · rw [hl]
    unfold leafs
    rw [List.map_map]
    rfl
  subst hl
  show RG _ _ _ [.dat .bag, .dat (.int (most : Int)), .dat (.lst (names.map .str)), .dat (.lst (ps.map onD)), .own ((leafs ps names.length).map enD), .no, .no, .no, .no, .no, .no, .no] _
  refine rg_for (pat := .nm 5) (fun _ i ds => ∃ (es : List (Bool × Nat)) (s5 s6 : Sl), ds = [.dat .bag, .dat (.int (most : Int)), .dat (.lst (names.map .str)), .dat (.lst (ps.map onD)), .own (es.map enD), s5, s6, .no, .no, .no, .no, .no] ∧ (∃ more, es = leafs ps names.length ++ more) ∧ (∀ e ∈ es, e.2 < names.length) ∧ es.length ≤ names.length + 2 * i)
    (src_range1 b.range (pd_lenL b.len (pd_var 2)) (by omega) (by omega)) (pat_nm 5 nd) (fun _ _ => ⟨_, _, _, rfl, ⟨[], (List.append_nil _).symm⟩, fun e he => ?_, leafs_len ps _⟩) ?_ ?_ .never
  · unfold leafs at he
    obtain ⟨i, hi, rfl⟩ := List.mem_map.mp he
    exact List.mem_range.mp (List.mem_filter.mp hi).1
  · rintro items i d ds' rfl hd ⟨es, s5, s6, rfl, hle, hlt, hlen⟩
    have hi : i < names.length := by
      have := (List.getElem?_eq_some_iff.mp hd).1
      rw [hnl] at this
      simpa using this
    have hd : d = .int (i : Int) := by
      rw [hnl, List.getElem?_map, List.getElem?_range (by simpa using hi)] at hd
      have := Option.some.inj hd
      rw [← this]
      simp
    subst hd
    refine ⟨_, rfl, ?_⟩
    show RG _ _ _ [.dat .bag, .dat (.int (most : Int)), .dat (.lst (names.map .str)), .dat (.lst (ps.map onD)), .own (es.map enD), .dat (.int (i : Int)), s6, .no, .no, .no, .no, .no] _
    refine rg_for (P0 := fun l => ∃ n : Int, (0 ≤ n ∧ n ≤ 2) ∧ l = (List.range n.toNat).map fun i : Nat => D.int (0 + (i : Int))) (pat := .nm 6) (fun _ j ds => ∃ (es : List (Bool × Nat)) (s6 : Sl), ds = [.dat .bag, .dat (.int (most : Int)), .dat (.lst (names.map .str)), .dat (.lst (ps.map onD)), .own (es.map enD), .dat (.int (i : Int)), s6, .no, .no, .no, .no, .no] ∧ (∃ more, es = leafs ps names.length ++ more) ∧ (∀ e ∈ es, e.2 < names.length) ∧ es.length ≤ names.length + 2 * i + j)
      ?_ (pat_nm 6 nd) (fun _ _ => ⟨es, _, rfl, hle, hlt, by omega⟩) ?_ ?_ .never
    · refine srcN_range1 b.range ?_
      refine PN.imp (pn_call A2 (hr.mono (by decide)) ([.int 0, .int 0, .int 1, .int 1, .int 2] : List D) ?_ ?_) ?_
      · exact pds_cons (pd_var 0) (pds_cons (PL.pd (pl_lst (pds_cons pd_int (pds_cons pd_int (pds_cons pd_int (pds_cons pd_int (pds_cons pd_int pds_nil))))))) pds_nil)
      · exact ⟨by simp, by show 5 ≤ 1000; decide⟩
      · intro d hd
        simp only [List.mem_cons, List.not_mem_nil, or_false] at hd
        rcases hd with rfl | rfl | rfl | rfl | rfl
        all_goals exact ⟨_, rfl, ⟨by decide, by decide⟩, by decide, by decide⟩
    · rintro items j d ds' ⟨n, hn, rfl⟩ hd ⟨es, s6, rfl, hle, hlt, hlen⟩
      have hj : j < n.toNat := by
        have := (List.getElem?_eq_some_iff.mp hd).1
        simpa using this
      refine ⟨_, rfl, ?_⟩
      show RG _ _ _ [.dat .bag, .dat (.int (most : Int)), .dat (.lst (names.map .str)), .dat (.lst (ps.map onD)), .own (es.map enD), .dat (.int (i : Int)), .dat d, .no, .no, .no, .no, .no] _
      refine rg_append 4 (xs := es.map enD) (P := fun d => ∃ h : Bool, d = enD (h, i)) rfl (PN.po (pn_tup (P := fun l => ∃ h : Bool, l = [hsD h, .int (i : Int)]) (pns_cons (P := fun d => ∃ h : Bool, d = hsD h) (R := fun l => l = [.int (i : Int)]) ?_ (PDs.pns (pds_cons (pd_var 5) pds_nil) rfl) ?_) ?_)) ?_ fun d' ⟨h, hd'⟩ => ?_
      · refine PN.imp (pn_call A2 (hr.mono (by decide)) ([.str "has", .str "not", .str "has"] : List D) ?_ ?_) ?_
        · exact pds_cons (pd_var 0) (pds_cons (PL.pd (pl_lst (pds_cons pd_str (pds_cons pd_str (pds_cons pd_str pds_nil))))) pds_nil)
        · exact ⟨by simp, by show 3 ≤ 1000; decide⟩
        · intro d hd
          simp only [List.mem_cons, List.not_mem_nil, or_false] at hd
          rcases hd with rfl | rfl | rfl
          · exact ⟨true, rfl⟩
          · exact ⟨false, rfl⟩
          · exact ⟨true, rfl⟩
      · rintro x xs ⟨h, rfl⟩ rfl
        exact ⟨h, rfl⟩
      · rintro l ⟨h, rfl⟩
        exact ⟨by show 2 ≤ sizeLine; decide, h, rfl⟩
      · rw [List.length_map]
        exact Nat.lt_of_le_of_lt (by omega : es.length ≤ 1000) (by decide)
      · subst hd'
        obtain ⟨more, hmore⟩ := hle
        refine rg_nil ⟨es ++ [(h, i)], _, by rw [List.map_append]; rfl, ⟨more ++ [(h, i)], by rw [hmore, List.append_assoc]⟩, fun e he => ?_, by rw [List.length_append]; show es.length + 1 ≤ _; omega⟩
        obtain he | he := List.mem_append.mp he
        · exact hlt e he
        · rw [List.mem_singleton.mp he]; exact hi
    · rintro items ds' ⟨n, hn, rfl⟩ ⟨es, s6, rfl, hle, hlt, hlen⟩
      refine rg_nil ⟨es, _, _, rfl, hle, hlt, ?_⟩
      rw [List.length_map, List.length_range] at hlen
      omega
  rintro items ds' rfl ⟨es, s5, s6, rfl, hle, hlt, hlen⟩
  have hes : es.length ≤ 100 := by
    rw [List.length_map, List.length_range, hnl] at hlen
    omega
  refine rg_parL (P := fun d => ∃ tn : List Str, d = .lst (tn.map .str) ∧ tn.Perm eight) (R := fun l => l = []) 7 8 ?_ (PL.pln (pl_lst pds_nil) rfl) nd fun d l ⟨tn, hd, htn⟩ hl => ?_
  · refine PN.imp (pn_call A3 (hr.mono (by decide)) (eight.map D.str) ?_ ?_) ?_
    · exact pds_cons (pd_var 0) (pds_cons (PL.pd (pl_lst (pds_cons pd_str (pds_cons pd_str (pds_cons pd_str (pds_cons pd_str (pds_cons pd_str (pds_cons pd_str (pds_cons pd_str (pds_cons pd_str pds_nil)))))))))) pds_nil)
    · show 8 ≤ 1000; decide
    · rintro d ⟨ys, rfl, hp⟩
      obtain ⟨zs, rfl, hz⟩ := perm_map hp
      exact ⟨zs, rfl, hz⟩
  subst hd
  subst hl
  show RG _ _ _ [.dat .bag, .dat (.int (most : Int)), .dat (.lst (names.map .str)), .dat (.lst (ps.map onD)), .own (es.map enD), s5, s6, .dat (.lst (tn.map .str)), .own [], .no, .no, .no] _
  refine rg_freeze 4 (xs := es.map enD) rfl ?_
  show RG _ _ _ [.dat .bag, .dat (.int (most : Int)), .dat (.lst (names.map .str)), .dat (.lst (ps.map onD)), .dat (.lst (es.map enD)), s5, s6, .dat (.lst (tn.map .str)), .own [], .no, .no, .no] _
  have h8 : tn.length = 8 := htn.length_eq
  refine rg_for (pat := .tp [.tp [.nm 9, .nm 5], .nm 10]) (fun _ i ds => ∃ (as : List Atom) (s5 s9 s10 : Sl), ds = [.dat .bag, .dat (.int (most : Int)), .dat (.lst (names.map .str)), .dat (.lst (ps.map onD)), .dat (.lst (es.map enD)), s5, s6, .dat (.lst (tn.map .str)), .own (as.map Atom.d), s9, s10, .no] ∧ as.length = i ∧ Made names ps es tn as)
    (src_zip b.zip (pd_var 4) (pd_var 7)) (pat_tp (pats_cons (pat_tp (pats_cons (pat_nm 9 nd) (pats_cons (pat_nm 5 nd) pats_nil))) (pats_cons (pat_nm 10 nd) pats_nil))) (fun _ _ => ⟨[], _, _, _, rfl, rfl, fun j hj => absurd hj (Nat.not_lt_zero _)⟩) ?_ ?_ .never
  · rintro items i d ds' rfl hd ⟨as, s5, s9, s10, rfl, hal, hm⟩
    have hi : i < min es.length tn.length := by
      have := (List.getElem?_eq_some_iff.mp hd).1
      simpa using this
    have hie : i < es.length := by omega
    have hit : i < tn.length := by omega
    have hd : d = .tup [enD es[i], .str tn[i]] := by
      rw [List.getElem?_map, List.getElem?_range (by simpa using hi)] at hd
      have := Option.some.inj hd
      rw [← this]
      show D.tup [(es.map enD).getD i .non, (tn.map D.str).getD i .non] = _
      rw [List.getD_eq_getElem?_getD, List.getD_eq_getElem?_getD, List.getElem?_map, List.getElem?_map, List.getElem?_eq_getElem hie, List.getElem?_eq_getElem hit]
      rfl
    subst hd
    generalize he : es[i] = e
    obtain ⟨h, k⟩ := e
    have hk : k < names.length := by
      have := hlt es[i] (List.getElem_mem hie)
      rw [he] at this
      exact this
    refine ⟨[.dat .bag, .dat (.int (most : Int)), .dat (.lst (names.map .str)), .dat (.lst (ps.map onD)), .dat (.lst (es.map enD)), .dat (.int (k : Int)), s6, .dat (.lst (tn.map .str)), .own (as.map Atom.d), .dat (hsD h), .dat (.str tn[i]), .no], rfl, ?_⟩
    refine rg_append 8 (xs := as.map Atom.d) (P := fun d => ∃ (l : List Nat) (own : List Str), Line ps k l ∧ own.Perm (l.map fun u => names.getD u "") ∧ d = (Atom.mk h tn[i] own).d) rfl (PN.po (pn_tup (P := fun l' => ∃ (l : List Nat) (own : List Str), Line ps k l ∧ own.Perm (l.map fun u => names.getD u "") ∧ l' = [hsD h, .str tn[i], fS own]) (pns_cons (P := fun d => d = hsD h) (R := fun l' => ∃ (l : List Nat) (own : List Str), Line ps k l ∧ own.Perm (l.map fun u => names.getD u "") ∧ l' = [.str tn[i], fS own]) (PD.pn (pd_var 9) rfl)
      (pns_cons (P := fun d => d = .str tn[i]) (R := fun l' => ∃ (l : List Nat) (own : List Str), Line ps k l ∧ own.Perm (l.map fun u => names.getD u "") ∧ l' = [fS own]) (PD.pn (pd_var 10) rfl) (pns_cons (P := fun d => ∃ (l : List Nat) (own : List Str), Line ps k l ∧ d = fS own ∧ own.Perm (l.map fun u => names.getD u "")) (R := fun l => l = []) ?_ (PDs.pns pds_nil rfl) ?_) ?_) ?_) ?_)) ?_ fun d' hd' => ?_
    · refine PN.imp (pn_call A5 hr (names, ps, k) ?_ ?_) ?_
      · exact pds_cons (pd_var 0) (pds_cons (pd_var 2) (pds_cons (pd_var 3) (pds_cons (pd_var 5) pds_nil)))
      · exact ⟨hfr, by show k < ps.length; omega, by show ps.length ≤ 400; omega, hpl⟩
      · exact fun d hd => hd
    · rintro x xs ⟨l, own, h1, rfl, h2⟩ rfl
      exact ⟨l, own, h1, h2, rfl⟩
    · rintro x xs rfl ⟨l, own, h1, h2, rfl⟩
      exact ⟨l, own, h1, h2, rfl⟩
    · rintro x xs rfl ⟨l, own, h1, h2, rfl⟩
      exact ⟨l, own, h1, h2, rfl⟩
    · rintro l' ⟨l, own, h1, h2, rfl⟩
      exact ⟨by show 3 ≤ sizeLine; decide, l, own, h1, h2, rfl⟩
    · rw [List.length_map, hal]
      exact Nat.lt_of_lt_of_le hie (Nat.le_trans hes (by decide))
    · obtain ⟨l, own, h1', h2', rfl⟩ := hd'
      refine rg_nil ⟨as ++ [⟨h, tn[i], own⟩], _, _, _, by rw [List.map_append]; rfl, by simp [hal], fun j hj => ?_⟩
      by_cases hja : j < as.length
      · obtain ⟨a, e, t, k1, k2⟩ := hm j hja
        exact ⟨a, e, t, by rw [List.getElem?_append_left hja]; exact k1, k2⟩
      · have hji : j = i := by rw [List.length_append] at hj; simp at hj; omega
        subst hji
        exact ⟨⟨h, tn[j], own⟩, (h, k), tn[j], by rw [List.getElem?_append_right (by omega), hal]; simp, by rw [List.getElem?_eq_getElem hie, he], List.getElem?_eq_getElem hit, rfl, rfl, l, h1', h2'⟩
  rintro items ds' rfl ⟨as, s5, s9, s10, rfl, hal, hm⟩
  have hal : as.length = min es.length tn.length := by
    rw [hal]
    simp
  refine rg_asgN 11 (P := fun d => ∃ cols : List Str, d = fS cols ∧ cols.Perm names) ?_ nd fun d ⟨cols, hd, hc⟩ => ?_
  · refine PN.imp (pn_tupF (P := fun l => l.Perm (names.map .str)) b.tuple (PN.imp (pn_call A3 (hr.mono (by decide)) (names.map D.str) ?_ ?_) ?_)) ?_
    · exact pds_cons (pd_var 0) (pds_cons (pd_var 2) pds_nil)
    · show (names.map D.str).length ≤ 1000; omega
    · exact fun d hd => hd
    · rintro d ⟨l, rfl, hp⟩
      obtain ⟨zs, rfl, hz⟩ := perm_map hp
      exact ⟨zs, rfl, hz⟩
  subst hd
  show RG _ _ _ [.dat .bag, .dat (.int (most : Int)), .dat (.lst (names.map .str)), .dat (.lst (ps.map onD)), .dat (.lst (es.map enD)), s5, s6, .dat (.lst (tn.map .str)), .own (as.map Atom.d), s9, s10, .dat (fS cols)] _
  have hc5 : cols.length ≤ 5 := by rw [hc.length_eq]; exact h5
  refine rg_ret (P := fun d => ∃ q : Qn, d = q.d ∧ DrawnQ q) (pn_tup (P := fun l => ∃ (atoms : List Atom) (rs : List (Str × Option Int × Option Int)), l = [fS cols, .tup (atoms.map Atom.d), .tup (rs.map rngD)] ∧ atoms.Perm as ∧ rs.length ≤ cols.length ∧ ∀ r ∈ rs, r.1 ∈ cols ∧ (∀ v, r.2.1 = some v → -3 ≤ v ∧ v ≤ 2) ∧ (∀ v, r.2.2 = some v → v.natAbs ≤ 6) ∧ ∀ v h, r.2.1 = some v → r.2.2 = some h → v ≤ h)
    (pns_cons (P := fun d => d = fS cols) (R := fun l => ∃ (atoms : List Atom) (rs : List (Str × Option Int × Option Int)), l = [.tup (atoms.map Atom.d), .tup (rs.map rngD)] ∧ atoms.Perm as ∧ rs.length ≤ cols.length ∧ ∀ r ∈ rs, r.1 ∈ cols ∧ (∀ v, r.2.1 = some v → -3 ≤ v ∧ v ≤ 2) ∧ (∀ v, r.2.2 = some v → v.natAbs ≤ 6) ∧ ∀ v h, r.2.1 = some v → r.2.2 = some h → v ≤ h) (PD.pn (pd_var 11) rfl)
    (pns_cons (P := fun d => ∃ atoms : List Atom, d = .tup (atoms.map Atom.d) ∧ atoms.Perm as) (R := fun l => ∃ (rs : List (Str × Option Int × Option Int)), l = [.tup (rs.map rngD)] ∧ rs.length ≤ cols.length ∧ ∀ r ∈ rs, r.1 ∈ cols ∧ (∀ v, r.2.1 = some v → -3 ≤ v ∧ v ≤ 2) ∧ (∀ v, r.2.2 = some v → v.natAbs ≤ 6) ∧ ∀ v h, r.2.1 = some v → r.2.2 = some h → v ≤ h) ?_
    (pns_cons (P := fun d => ∃ (rs : List (Str × Option Int × Option Int)), d = .tup (rs.map rngD) ∧ rs.length ≤ cols.length ∧ ∀ r ∈ rs, r.1 ∈ cols ∧ (∀ v, r.2.1 = some v → -3 ≤ v ∧ v ≤ 2) ∧ (∀ v, r.2.2 = some v → v.natAbs ≤ 6) ∧ ∀ v h, r.2.1 = some v → r.2.2 = some h → v ≤ h) (R := fun l => l = []) ?_ (PDs.pns pds_nil rfl) ?_) ?_) ?_) ?_) fun d hd => hd
  · refine PN.imp (pn_tupleL (P := fun l => l.Perm (as.map Atom.d)) b.tuple (PN.imp (pn_call A3 (hr.mono (by decide)) (as.map Atom.d) ?_ ?_) ?_)) ?_
    · exact pds_cons (pd_var 0) (pds_cons (pd_var 8) pds_nil)
    · show (as.map Atom.d).length ≤ 1000; rw [List.length_map]; omega
    · exact fun d hd => hd
    · rintro d ⟨l, rfl, hp⟩
      obtain ⟨zs, rfl, hz⟩ := perm_map hp
      exact ⟨zs, rfl, hz⟩
  · refine PN.imp (PN.tup (P := fun l => ∃ (rs : List (Str × Option Int × Option Int)), l = rs.map rngD ∧ rs.length ≤ cols.length ∧ ∀ r ∈ rs, r.1 ∈ cols ∧ (∀ v, r.2.1 = some v → -3 ≤ v ∧ v ≤ 2) ∧ (∀ v, r.2.2 = some v → v.natAbs ≤ 6) ∧ ∀ v h, r.2.1 = some v → r.2.2 = some h → v ≤ h) (PN.imp (pn_call A6 hr cols ?_ ?_) ?_)) ?_
    · exact pds_cons (pd_var 0) (pds_cons (pd_var 11) pds_nil)
    · show cols.length ≤ 400; omega
    · rintro d ⟨rs, rfl, h1, h2⟩
      exact ⟨_, rfl, rs, rfl, h1, h2⟩
    · rintro d ⟨l, rfl, rs, rfl, h1, h2⟩
      exact ⟨rs, rfl, h1, h2⟩
  · rintro x xs ⟨rs, rfl, h1, h2⟩ rfl
    exact ⟨rs, rfl, h1, h2⟩
  · rintro x xs ⟨atoms, rfl, h0⟩ ⟨rs, rfl, h1, h2⟩
    exact ⟨atoms, rs, rfl, h0, h1, h2⟩
  · rintro x xs rfl ⟨atoms, rs, rfl, h0, h1, h2⟩
    exact ⟨atoms, rs, rfl, h0, h1, h2⟩
  · rintro l ⟨atoms, rs, rfl, h0, hrl, hrs⟩
    exact ⟨by show 3 ≤ sizeLine; decide, ⟨cols, atoms, rs⟩, rfl, drawn_mk hnd hsx h5 h1 hpl hfr hle htn hm hal hc h0 hrl hrs⟩
end
end E
namespace E
open LamX L2 PyProof.Rows PySem PySem.Spec
section
variable {X : Cx} {T : List (Addr × Str)} {ds : List Sl} {rest : List Stmt} {O : Out} {a tg : Expr} {pos p2 pt2 : Pos} {k2 : Nat}
theorem pn_take {e : Expr} {es : List Expr} {p : Pos} (A1 : DfOk X.prog X.w X.K X.mg X.base 1 "_law_take" ["_law_bag_here", "_law_many"] (SpTake T X.K)) (hr : Room 1 X.A) {n : Int} (ha : PDs X T (e :: es) ds [.bag, .int n]) (hp : 0 < n ∧ n < 1073741824) (hg : Gl X "_law_take" := by rfl)
    (he : starEach (e :: es) X.env = (false, eval e X.env) :: starEach es X.env := by exact se_of rfl) (hpl : (backTo pos (starEach es X.env)).any (·.1) = false := by rfl) : PN X T (.Call (.Name "_law_take" p) (e :: es) [] pos) ds (fun d => ∃ m : Int, d = .int m ∧ 0 ≤ m ∧ m < n) :=
  pn_call A1 hr n ha hp hg (by decide) he hpl
/-- a, b = e, {}, whatever the names -/
theorem rg_patD {P : D → Prop} (i j : Nat) (ha : PN X T a ds P) (hp : PatOk X tg (.tp [.nm i, .nm j])) (kk : ∀ d, P d → RG X T rest ((ds.set i (.dat d)).set j (.ownD [])) O)
    (hs1 : starEach [a, .Dict [] [] p2] X.env = (false, eval a X.env) :: starEach [.Dict [] [] p2] X.env := by exact se_of rfl) (hs2 : starEach [.Dict [] [] p2] X.env = (false, eval (.Dict [] [] p2) X.env) :: starEach [] X.env := by exact se_of rfl)
    (hs : swapsWithSole [tg] (.Tuple [a, .Dict [] [] p2] k2 pt2) pos.line X.env = pure false := by rfl) (hw : swappedStores [tg] (.Tuple [a, .Dict [] [] p2] k2 pt2) X.env = pure none := by rfl) (h1 : (assignEach [tg] X.env).map (·.2) = [assign tg X.env] := by rfl) :
    RG X T (.Assign [tg] (.Tuple [a, .Dict [] [] p2] k2 pt2) pos :: rest) ds O := fun B0 H0 B H σ De hh dn => by
  refine ss_cons (ofS (ps_asg (g := (Pat.tp [.nm i, .nm j]).tg X.K) (pe_tup (pa_cons peW (pa_cons pe_dnewK pa_nil hs2) hs1)) hp hs hw h1) (ha B H σ hh.go hh.sd _ fun v d B1 H1 g1 pd a1 => ?_))
  refine fun p hp => ⟨by show 2 ≤ sizeLine; decide, fun t ht => ?_⟩
  have hh1 := (hh.grow g1).set i a1
  have s2 := hh1.setNewD j hp (hh1.go.ge (.new hp)) (hh1.go.nb hp) upd_same .nil
  have s3 := s2.grow (s2.go.ge (.new (o := .tup [v, .ref p]) ht))
  exact ⟨t, [v, .ref p], rfl, .of upd_same, rfl, _, _, rfl, _, _, rfl, rfl, kk d pd B0 H0 _ _ _ De s3 dn⟩
end
theorem SrcN.imp {X : Cx} {T : List (Addr × Str)} {tg iter : Expr} {ds : List Sl} {P P' : List D → Prop} (h : SrcN X T tg iter ds P) (hp : ∀ l, P l → P' l) : SrcN X T tg iter ds P' := fun B H σ o s R q => h B H σ o s R fun J items B2 H2 g p w => q J items B2 H2 g (hp _ p) w
theorem rowsIn_of : ∀ {tb : Tbs} {t : Str × Nat × List (List Int)}, (tb.map (·.1)).Nodup → t ∈ tb → rowsIn tb t.1 = t.2.2
  | s :: tb, t, nd, h => by
    simp only [List.map_cons] at nd
    rcases List.nodup_cons.mp nd with ⟨n1, n2⟩
    obtain rfl | h := List.mem_cons.mp h
    · unfold rowsIn
      rw [List.find?_cons_of_pos (by simp)]
    · have ne : s.1 ≠ t.1 := fun e => n1 (e ▸ List.mem_map_of_mem h)
      have ih := rowsIn_of n2 h
      unfold rowsIn at ih ⊢
      rw [List.find?_cons_of_neg (by simpa using ne)]
      exact ih
def Sl.isOwnD : Sl → Bool
  | .ownD _ => true
  | _ => false
theorem ownD_one {r1 r2 : List Sl} {es : List (Str × D)} (h1 : ∀ s ∈ r1, s.isOwnD = false) (h2 : ∀ s ∈ r2, s.isOwnD = false) : ∀ (j : Nat) ys, (r1 ++ .ownD es :: r2)[j]? = some (.ownD ys) → j = r1.length := fun j ys e => by
  by_cases hj : j < r1.length
  · rw [List.getElem?_append_left hj] at e
    have := h1 _ (List.mem_of_getElem? e)
    cases this
  · rw [List.getElem?_append_right (by omega)] at e
    cases h : j - r1.length with
    | zero => omega
    | succ k =>
      rw [h, List.getElem?_cons_succ] at e
      have := h2 _ (List.mem_of_getElem? e)
      cases this
structure TbOk (a : Atom) (t : Str × Nat × List (List Int)) : Prop where
  nm : t.1 = a.name
  ar : t.2.1 = a.own.length
  ro : ∀ r ∈ t.2.2, r.length = a.own.length ∧ ∀ x ∈ r, -1 ≤ x ∧ x ≤ 7
  ln : t.2.2.length ≤ 14
theorem drawnT_mk {q : Qn} {tb : Tbs} (nd : (tb.map (·.1)).Nodup) (h : ∀ a ∈ q.atoms, ∃ t ∈ tb, TbOk a t) : DrawnT q tb := by
  have key : ∀ a ∈ q.atoms, ∃ t ∈ tb, TbOk a t ∧ rowsIn tb a.name = t.2.2 := fun a ha => by
    obtain ⟨t, ht, ok⟩ := h a ha
    exact ⟨t, ht, ok, by rw [← ok.nm]; exact rowsIn_of nd ht⟩
  refine ⟨⟨fun a ha => ?_, fun a ha r hr => ?_, fun a ha => ?_, nd⟩, fun a ha => ?_, fun a ha r hr => ?_⟩
  · obtain ⟨t, ht, ok, _⟩ := key a ha; exact ⟨t, ht, ok.nm⟩
  · obtain ⟨t, ht, ok, e⟩ := key a ha; rw [e] at hr; exact (ok.ro r hr).1
  · obtain ⟨t, ht, ok, e⟩ := key a ha; rw [e]; have := ok.ln; omega
  · obtain ⟨t, ht, ok, e⟩ := key a ha; rw [e]; exact ok.ln
  · obtain ⟨t, ht, ok, e⟩ := key a ha; rw [e] at hr; exact (ok.ro r hr).2
theorem paired_memA {α β : Type} {P : α → β → Prop} : ∀ {l : List α} {m : List β}, Paired P l m → ∀ a ∈ l, ∃ b ∈ m, P a b
  | _, _, .nil, a, h => by cases h
  | _, _, .cons hab t, a, h => by
    obtain rfl | h := List.mem_cons.mp h
    · exact ⟨_, List.mem_cons_self, hab⟩
    · obtain ⟨b, hb, hp⟩ := paired_memA t a h
      exact ⟨b, List.mem_cons_of_mem _ hb, hp⟩
theorem tb_names {l : List Atom} {tb : Tbs} (h : Paired TbOk l tb) : tb.map (·.1) = l.map (·.name) := by
  induction h with
  | nil => rfl
  | cons h _ ih => rw [List.map_cons, List.map_cons, ih, h.nm]
def tbE (tb : Tbs) : List (Str × D) := tb.map fun t => (t.1, tbD t.2)
theorem tbE_names (tb : Tbs) : (tbE tb).map (·.1) = tb.map (·.1) := by unfold tbE; rw [List.map_map]; rfl
def nine : List Str := ("other" : Str) :: eight
/-- a table as it is drawn, small -/
structure SmallT (t : Str × Nat × List (List Int)) : Prop where
  nm : t.1 ∈ nine
  ar : t.2.1 ≤ 5
  ln : t.2.2.length ≤ 14
  ro : ∀ r ∈ t.2.2, r.length ≤ 5 ∧ ∀ x ∈ r, x.natAbs ≤ 8
theorem TbOk.small {a : Atom} {t : Str × Nat × List (List Int)} (h : TbOk a t) (hn : a.name ∈ eight) (h5 : a.own.length ≤ 5) : SmallT t := ⟨by rw [h.nm]; exact List.mem_cons_of_mem _ hn, by rw [h.ar]; exact h5, h.ln, fun r hr => ⟨by rw [(h.ro r hr).1]; exact h5, fun x hx => by have := (h.ro r hr).2 x hx; omega⟩⟩
/-- rows of n ints in their range -/
def RowOk (n : Nat) (r : List Int) : Prop := r.length = n ∧ ∀ x ∈ r, -1 ≤ x ∧ x ≤ 7
theorem paired_ints {α : Type} {R : α → D → Prop} {Q : Int → Prop} (h : ∀ a d, R a d → ∃ n : Int, d = .int n ∧ Q n) : ∀ {xs : List α} {l : List D}, Paired R xs l → ∃ ns : List Int, l = ns.map .int ∧ ns.length = xs.length ∧ ∀ n ∈ ns, Q n
  | _, _, .nil => ⟨[], rfl, rfl, by simp⟩
  | _, _, .cons hab t => by
    obtain ⟨n, rfl, hn⟩ := h _ _ hab
    obtain ⟨ns, rfl, h2, h3⟩ := paired_ints h t
    refine ⟨n :: ns, rfl, by simp [h2], fun x hx => ?_⟩
    obtain rfl | hx := List.mem_cons.mp hx
    · exact hn
    · exact h3 x hx
section
variable {P : Program} {w : World} {K : PySem.W.Frag} {mg : Str → Option Value} {base : Heap} {T : List (Addr × Str)}
abbrev SpTb (T : List (Addr × Str)) (K : PySem.W.Frag) : Sp := SpF T K (fun x : Qn × Nat => [.bag, x.1.d, .int (x.2 : Int)]) (fun x => DrawnQ x.1 ∧ 1 ≤ x.2 ∧ x.2 ≤ 7) (fun x d => ∃ tb : Tbs, d = tbsD tb ∧ DrawnT x.1 tb ∧ tb.length ≤ 9 ∧ ∀ t ∈ tb, SmallT t)
theorem ok_law_tables_for (b : Bl mg) (F : At K mg "_law_tables_for" s_law_tables_for ["_law_bag_here", "_law_question", "_law_most"]) (A1 : DfOk P w K mg base 1 "_law_take" ["_law_bag_here", "_law_many"] (SpTake T K)) (A2 : DfOk P w K mg base 2 "_law_some" ["_law_bag_here", "_law_things"] (SpSome T K)) (A3 : DfOk P w K mg base 2 "_law_mixed" ["_law_bag_here", "_law_things"] (SpMixed T K)) :
    DfOk P w K mg base 3 "_law_tables_for" ["_law_bag_here", "_law_question", "_law_most"] (SpTb T K) := by
  refine df_mk F sc_law_tables_for (fun _ => rfl) fun f cd A' outer s H E hr x hx => ?_
  obtain ⟨q, most⟩ := x
  obtain ⟨⟨⟨names, ps, hd⟩, hnn, hn8, _⟩, hm1, hm7⟩ := hx
  have hnn : (q.atoms.map (·.name)).Nodup := hnn
  have hn8 : ∀ a ∈ q.atoms, a.name ∈ eight := hn8
  have hm1 : 1 ≤ most := hm1
  have hm7 : most ≤ 7 := hm7
  have hd : Drawn q names ps := hd
  have tm := hd.tame
  have nd := sc_law_tables_for.nd
  have hc5 : q.cols.length ≤ 5 := tm.fc
  have hown : ∀ a ∈ q.atoms, a.own ≠ [] ∧ a.own.length ≤ 5 ∧ ∀ c ∈ a.own, c ∈ q.cols := fun a ha => by
    obtain ⟨i, hi, rfl⟩ := mem_at ha
    exact ⟨(tm.own i hi).1, tm.own5 hi, (tm.own i hi).2.2⟩
  refine rg_pat (pat := .tp [.nm 3, .nm 4]) (d := .tup [fS q.cols, .tup (q.atoms.map Atom.d)]) (ds' := [.dat .bag, .dat q.d, .dat (.int (most : Int)), .dat (fS q.cols), .dat (.tup (q.atoms.map Atom.d)), .no, .no, .no, .no, .no, .no, .no, .no, .no, .no, .no])
    (pd_tup (pds_cons (pd_ixT (pd_var 1) pd_int (atI_nat (j := 0) rfl)) (pds_cons (pd_ixT (pd_var 1) pd_int (atI_nat (j := 1) rfl)) pds_nil))) (pat_tp (pats_cons (pat_nm 3 nd) (pats_cons (pat_nm 4 nd) pats_nil))) rfl ?_
  refine rg_patD 5 6 (P := fun d => ∃ wd : Int, d = .int wd ∧ 2 ≤ wd ∧ wd ≤ 7) ?_ (pat_tp (pats_cons (pat_nm 5 nd) (pats_cons (pat_nm 6 nd) pats_nil))) fun d ⟨wd, hd', hw2, hw7⟩ => ?_
  · refine PN.imp (pn_call A2 hr ([.int 4, .int 3, .int 7, .int 2] : List D) ?_ ?_) ?_
    · exact pds_cons (pd_var 0) (pds_cons (PL.pd (pl_lst (pds_cons pd_int (pds_cons pd_int (pds_cons pd_int (pds_cons pd_int pds_nil)))))) pds_nil)
    · exact ⟨by simp, by show 4 ≤ 1000; decide⟩
    · intro d hd
      simp only [List.mem_cons, List.not_mem_nil, or_false] at hd
      rcases hd with rfl | rfl | rfl | rfl
      all_goals exact ⟨_, rfl, by decide, by decide⟩
  subst hd'
  show RG _ _ _ [.dat .bag, .dat q.d, .dat (.int (most : Int)), .dat (fS q.cols), .dat (.tup (q.atoms.map Atom.d)), .dat (.int wd), .ownD [], .no, .no, .no, .no, .no, .no, .no, .no, .no] _
  refine rg_setLc 7 (P := fun l => ∃ pts : List (List Int), l = pts.map tI ∧ pts.length ≤ most ∧ ∀ r ∈ pts, RowOk q.cols.length r) (PLc.imp (plc_mapN (pat := .nm 14) (P0 := fun l : List Int => l.length ≤ most) (it := D.int) (R := fun _ d => ∃ r : List Int, d = tI r ∧ RowOk q.cols.length r)
    ?_ (fun _ _ _ _ _ => pat_nm 14 nd) (blkOk_by (N := N_law_tables_for) (sc := defScope s_law_tables_for) (own := [("_law_turn", 14)]) (by decide +kernel)) nd (fun xs h => fits (by omega)) ?_) ?_) (fun l ⟨pts, hl, hpl, hpts⟩ => ?_) rfl rfl
  · refine SrcN.imp (P := fun l => ∃ n : Int, (1 ≤ n ∧ n ≤ (most : Int)) ∧ l = (List.range n.toNat).map fun i : Nat => D.int (0 + (i : Int))) (srcN_range1 b.range ?_) fun l ⟨n, hn, hi⟩ => ⟨(List.range n.toNat).map fun i : Nat => 0 + (i : Int), by rw [hi, List.map_map]; rfl, by rw [List.length_map, List.length_range]; omega⟩
    refine PN.imp (pn_int0 (P := fun d => d = .int 1) (R := fun d => ∃ m : Int, d = .int m ∧ 0 ≤ m ∧ m < (most : Int)) (S := fun d => ∃ n : Int, d = .int n ∧ 1 ≤ n ∧ n ≤ (most : Int)) (f := fun i j => i + j) op_add (fun _ _ => rfl) (pd_int.pn rfl) ?_ ?_) ?_
    · refine PN.imp (pn_call A1 (hr.mono (by decide)) (most : Int) ?_ ?_) ?_
      · exact pds_cons (pd_var 0) (pds_cons (pd_var 2) pds_nil)
      · exact ⟨by omega, by omega⟩
      · exact fun d hd => hd
    · rintro x y rfl ⟨m, rfl, h0, h2⟩
      exact ⟨1, m, rfl, rfl, 1 + m, rfl, by omega, by omega⟩
    · rintro d ⟨n, rfl, h1, h2⟩
      exact ⟨n, rfl, ⟨h1, h2⟩, by omega, by omega⟩
  · rintro xs a hxs ha
    refine ⟨_, rfl, fun s1 H1 C1 cl1 fp1 => ?_⟩
    refine PN.imp (pn_tupleL (P := fun l => ∃ r : List Int, l = r.map .int ∧ RowOk q.cols.length r) b.tuple (PN.imp (PLn.pn (PLc.pln (plc_fmN (pat := .nm 15) (xs := q.cols) (it := D.str) (t := fun _ => true) (R := fun _ d => ∃ n : Int, d = .int n ∧ (-1 ≤ n ∧ n ≤ 7))
      (src_tup (PD.tup (pd_var 3))) (fun _ _ _ _ _ => pat_nm 15 nd) (blkOk_by (N := N_law_tables_for) (sc := relS _ (defScope s_law_tables_for)) (own := [("_law_column", 15)]) (by decide +kernel)) nd (fits (by omega)) fun c hc => ⟨[.dat .bag, .dat q.d, .dat (.int (most : Int)), .dat (fS q.cols), .dat (.tup (q.atoms.map Atom.d)), .dat (.int wd), .ownD [], .no, .no, .no, .no, .no, .no, .no, .dat (.int a), .dat (.str c)], rfl, rfl, ?_⟩))) ?_)) ?_
    · intro _ s2 H2 C2 cl2 fp2
      refine PN.imp (P := fun d => ∃ m : Int, d = .int m ∧ 0 ≤ m ∧ m < wd) ?_ ?_
      · refine pn_take ?_ ?_ ?_ ?_
        · exact A1
        · exact hr.mono (by decide)
        · exact pds_cons (pd_var 0) (pds_cons (pd_var 5) pds_nil)
        · exact ⟨by omega, by omega⟩
      · rintro d ⟨m, rfl, h0, h2⟩
        exact ⟨m, rfl, by omega, by omega⟩
    · rintro d ⟨l, rfl, hp⟩
      rw [List.filter_eq_self.mpr (fun _ _ => rfl)] at hp
      obtain ⟨ns, rfl, h2, h3⟩ := paired_ints (fun _ _ h => h) hp
      exact ⟨_, rfl, ns, rfl, h2, h3⟩
    · rintro d ⟨l, rfl, r, rfl, hr'⟩
      exact ⟨r, rfl, hr'⟩
  · rintro l ⟨xs, hxs, hp⟩
    obtain ⟨pts, e1, e2, e3⟩ : ∃ pts : List (List Int), l = pts.map tI ∧ pts.length = xs.length ∧ ∀ r ∈ pts, RowOk q.cols.length r := by
      clear hxs
      induction hp with
      | nil => exact ⟨[], rfl, rfl, by simp⟩
      | cons h _ ih =>
        obtain ⟨r, rfl, hr'⟩ := h
        obtain ⟨pts, rfl, h2, h3⟩ := ih
        refine ⟨r :: pts, rfl, by simp [h2], fun x hx => ?_⟩
        obtain rfl | hx := List.mem_cons.mp hx
        · exact hr'
        · exact h3 x hx
    exact ⟨pts, e1, by omega, e3⟩
  subst hl
  show RG _ _ _ [.dat .bag, .dat q.d, .dat (.int (most : Int)), .dat (fS q.cols), .dat (.tup (q.atoms.map Atom.d)), .dat (.int wd), .ownD [], .own (pts.map tI), .no, .no, .no, .no, .no, .no, .no, .no] _
  refine rg_freeze 7 (xs := pts.map tI) rfl ?_
  show RG _ _ _ [.dat .bag, .dat q.d, .dat (.int (most : Int)), .dat (fS q.cols), .dat (.tup (q.atoms.map Atom.d)), .dat (.int wd), .ownD [], .dat (.lst (pts.map tI)), .no, .no, .no, .no, .no, .no, .no, .no] _
  have fin : ∀ (tb : Tbs) (t8 t9 t10 t11 t12 t13 t14 : Sl), (tb.map (·.1)).Nodup → (∀ a ∈ q.atoms, ∃ t ∈ tb, TbOk a t) → tb.length ≤ 9 → (∀ t ∈ tb, SmallT t) → RG (dcx P w K mg base N_law_tables_for "_law_tables_for" (defScope s_law_tables_for) f cd A' outer s H E) T ((defBody s_law_tables_for).drop 5)
      [.dat .bag, .dat q.d, .dat (.int (most : Int)), .dat (fS q.cols), .dat (.tup (q.atoms.map Atom.d)), .dat (.int wd), .ownD (tbE tb), .dat (.lst (pts.map tI)), t8, t9, t10, t11, t12, t13, t14, .no] { rt := fun d => ∃ tb : Tbs, d = tbsD tb ∧ DrawnT q tb ∧ tb.length ≤ 9 ∧ ∀ t ∈ tb, SmallT t } := by
    intro tb t8 t9 t10 t11 t12 t13 t14 hnd hall hlen hsm
    refine rg_ret (P := fun d => ∃ es : List (Str × D), d = .dic es ∧ ∃ tb2 : Tbs, es = tbE tb2 ∧ tb2.Perm tb) (pn_dictP (P := fun es => ∃ tb2 : Tbs, es = tbE tb2 ∧ tb2.Perm tb) b.dict (PN.imp (pn_call A3 hr ((tbE tb).map prD) ?_ ?_) ?_)) ?_
    · exact pds_cons (pd_var 0) (pds_cons (PL.pd (pl_items b.list (pd_var 6))) pds_nil)
    · show ((tbE tb).map prD).length ≤ 1000
      unfold tbE
      rw [List.length_map, List.length_map]
      omega
    · rintro d ⟨ys, rfl, hp⟩
      obtain ⟨zs, rfl, hz⟩ := perm_map hp
      obtain ⟨tb2, rfl, hz2⟩ := perm_map (f := fun t : Str × Nat × List (List Int) => (t.1, tbD t.2)) (xs := tb) hz
      refine ⟨tbE tb2, rfl, ?_, tb2, rfl, hz2⟩
      rw [tbE_names]
      exact (hz2.map _).nodup_iff.mpr hnd
    · rintro d ⟨es, rfl, tb2, rfl, hp⟩
      refine ⟨tb2, rfl, drawnT_mk ((hp.map _).nodup_iff.mpr hnd) (fun a ha => ?_), by rw [hp.length_eq]; exact hlen, fun t ht => hsm t (hp.mem_iff.mp ht)⟩
      obtain ⟨t, ht, ok⟩ := hall a ha
      exact ⟨t, hp.mem_iff.mpr ht, ok⟩
  refine rg_for (pat := .tp [.nm 8, .nm 9, .nm 10]) (fun _ i ds => ∃ (tb : Tbs) (t8 t9 t10 t11 t12 t13 t14 : Sl), ds = [.dat .bag, .dat q.d, .dat (.int (most : Int)), .dat (fS q.cols), .dat (.tup (q.atoms.map Atom.d)), .dat (.int wd), .ownD (tbE tb), .dat (.lst (pts.map tI)), t8, t9, t10, t11, t12, t13, t14, .no] ∧ Paired TbOk (q.atoms.take i) tb ∧ ∀ s ∈ [t8, t9, t10, t11, t12, t13, t14], s.isOwnD = false)
    (src_tup (pd_var 4)) (pat_tp (pats_cons (pat_nm 8 nd) (pats_cons (pat_nm 9 nd) (pats_cons (pat_nm 10 nd) pats_nil)))) (fun _ _ => ⟨[], _, _, _, _, _, _, _, rfl, .nil, by simp [Sl.isOwnD]⟩) ?_ ?_ .never
  · rintro items i d ds' rfl hdi ⟨tb, t8, t9, t10, t11, t12, t13, t14, rfl, hp, hno⟩
    have hi : i < q.atoms.length := by
      have := (List.getElem?_eq_some_iff.mp hdi).1
      simpa using this
    have hai : q.atoms[i]? = some q.atoms[i] := List.getElem?_eq_getElem hi
    have hdi : d = (q.atoms[i]).d := by
      rw [List.getElem?_map, hai] at hdi
      exact (Option.some.inj hdi).symm
    subst hdi
    have ham : q.atoms[i] ∈ q.atoms := List.getElem_mem hi
    generalize hae : q.atoms[i] = a at hai ham
    obtain ⟨ho1, ho5, hoc⟩ := hown a ham
    have hnew : a.name ∉ (tbE tb).map (·.1) := by
      rw [tbE_names, tb_names hp]
      intro hm
      obtain ⟨b', hb', e⟩ := List.mem_map.mp hm
      obtain ⟨j, hj, ej⟩ := List.mem_iff_getElem.mp hb'
      rw [List.length_take] at hj
      have hji : j < i := by omega
      have h1 : (q.atoms.map (·.name))[j]? = some a.name := by
        rw [List.getElem?_map, List.getElem?_eq_getElem (by omega)]
        rw [List.getElem_take] at ej
        rw [ej]
        exact congrArg some e
      have h2 : (q.atoms.map (·.name))[i]? = some a.name := by
        rw [List.getElem?_map, hai]; rfl
      obtain ⟨g1, e1⟩ := List.getElem?_eq_some_iff.mp h1
      obtain ⟨g2, e2⟩ := List.getElem?_eq_some_iff.mp h2
      have := (List.getElem_inj hnn (h₀ := g1) (h₁ := g2)).mp (by rw [e1, e2])
      omega
    have htl : tb.length ≤ 8 := by
      have := Paired.length hp
      rw [List.length_take] at this
      have := tm.fa
      omega
    simp only [List.mem_cons, List.not_mem_nil, or_false, forall_eq_or_imp, forall_eq] at hno
    obtain ⟨_, _, _, _, _, no13, no14⟩ := hno
    refine ⟨[.dat .bag, .dat q.d, .dat (.int (most : Int)), .dat (fS q.cols), .dat (.tup (q.atoms.map Atom.d)), .dat (.int wd), .ownD (tbE tb), .dat (.lst (pts.map tI)), .dat (hsD a.has), .dat (.str a.name), .dat (fS a.own), t11, t12, t13, t14, .no], rfl, ?_⟩
    refine rg_parLf (R := fun l => l = []) (P := fun d => d = .int (if a.has then 3 else 2)) 11 12 (PL.pln (pl_lst pds_nil) rfl) (PD.pn (pd_if (k := a.has) (TD.of (td_cmp c_eqS (pd_var 8) pd_str) ?_) (fun h => PD.of pd_int ?_) fun h => PD.of pd_int ?_) rfl) nd fun d l hd' hl => ?_
    · cases a.has <;> decide
    · rw [if_pos h]
    · rw [if_neg (by rw [h]; decide)]
    subst hd'
    subst hl
    show RG _ _ _ [.dat .bag, .dat q.d, .dat (.int (most : Int)), .dat (fS q.cols), .dat (.tup (q.atoms.map Atom.d)), .dat (.int wd), .ownD (tbE tb), .dat (.lst (pts.map tI)), .dat (hsD a.has), .dat (.str a.name), .dat (fS a.own), .own [], .dat (.int (if a.has then 3 else 2)), t13, t14, .no] _
    generalize (if a.has then (3 : Int) else 2) = rare
    refine rg_for (pat := .nm 13) (fun _ j ds => ∃ (rs : List (List Int)) (t13 : Sl), ds = [.dat .bag, .dat q.d, .dat (.int (most : Int)), .dat (fS q.cols), .dat (.tup (q.atoms.map Atom.d)), .dat (.int wd), .ownD (tbE tb), .dat (.lst (pts.map tI)), .dat (hsD a.has), .dat (.str a.name), .dat (fS a.own), .own (rs.map tI), .dat (.int rare), t13, t14, .no] ∧ (∀ r ∈ rs, RowOk a.own.length r) ∧ rs.length ≤ j ∧ t13.isOwnD = false)
      (src_list (pd_var 7)) (pat_nm 13 nd) (fun _ _ => ⟨[], _, rfl, by simp, Nat.le_refl _, no13⟩) ?_ ?_ .never
    · rintro items j d ds' rfl hdj ⟨rs, t13, rfl, hrs, hrl, _⟩
      have hj : j < pts.length := by
        have := (List.getElem?_eq_some_iff.mp hdj).1
        simpa using this
      have hdj : d = tI pts[j] := by
        rw [List.getElem?_map, List.getElem?_eq_getElem hj] at hdj
        exact (Option.some.inj hdj).symm
      subst hdj
      obtain ⟨hpt1, hpt2⟩ := hpts _ (List.getElem_mem hj)
      generalize pts[j] = pt at hpt1 hpt2
      refine ⟨[.dat .bag, .dat q.d, .dat (.int (most : Int)), .dat (fS q.cols), .dat (.tup (q.atoms.map Atom.d)), .dat (.int wd), .ownD (tbE tb), .dat (.lst (pts.map tI)), .dat (hsD a.has), .dat (.str a.name), .dat (fS a.own), .own (rs.map tI), .dat (.int rare), .dat (tI pt), t14, .no], rfl, ?_⟩
      refine rg_whenN (tn_lt ?_ ?_) ?_ (rg_nil ⟨rs, _, rfl, hrs, by omega, rfl⟩)
      · refine PN.imp (P := fun d => ∃ m : Int, d = .int m ∧ 0 ≤ m ∧ m < 4) ?_ fun d ⟨m, h, _⟩ => ⟨m, h⟩
        exact pn_take A1 (hr.mono (by decide)) (pds_cons (pd_var 0) (pds_cons pd_int pds_nil)) ⟨by decide, by decide⟩
      · exact PD.pn (pd_subIB (pd_var 12) (pd_cmp c_eqS (pd_var 8) pd_str)) ⟨_, rfl⟩
      · have hix : ∀ c ∈ a.own, q.cols.idxOf c < pt.length := fun c hc => by rw [hpt1]; exact List.idxOf_lt_length_iff.mpr (hoc c hc)
        refine rg_append 11 (xs := rs.map tI) (P := fun d => d = tI (a.own.map fun c => pt.getD (q.cols.idxOf c) 0)) rfl (PN.po (PD.pn (pd_tupleL b.tuple (PL.pd (PLc.pl (PLc.imp (plc_fm (pat := .nm 15) (xs := a.own) (it := D.str) (t := fun _ => true) (g := fun c => .int (pt.getD (q.cols.idxOf c) 0))
          (src_tup (PD.tup (pd_var 10))) (fun _ _ _ _ _ => pat_nm 15 nd) (blkOk_by (N := N_law_tables_for) (sc := defScope s_law_tables_for) (own := [("_law_column", 15)]) (by decide +kernel)) nd (fits (by omega)) fun c hc => ⟨_, rfl, rfl, ?_⟩) ?_)))) rfl)) ?_ fun d' hd' => ?_
        · refine fun _ _ _ _ _ _ => pd_ixT (pd_var 13) (pd_index (l := q.cols) (z := c) (pd_var 3) (pd_var 15) (idx_at (hoc c hc)).1 (idx_at (hoc c hc)).2) (atI_nat ?_)
          rw [List.getElem?_map, List.getD_eq_getElem?_getD, List.getElem?_eq_getElem (hix c hc)]
          rfl
        · rintro l rfl
          rw [List.filter_eq_self.mpr (fun _ _ => rfl), List.map_map]
          rfl
        · rw [List.length_map]
          exact Nat.lt_of_le_of_lt (by omega : rs.length ≤ 1000) (by decide)
        · subst hd'
          refine rg_nil (rg_nil ⟨rs ++ [a.own.map fun c => pt.getD (q.cols.idxOf c) 0], _, by rw [List.map_append]; rfl, fun r hr' => ?_, by simp; omega, rfl⟩)
          rcases List.mem_append.mp hr' with hr' | hr'
          · exact hrs r hr'
          · rw [List.mem_singleton.mp hr']
            refine ⟨List.length_map _, fun x hx => ?_⟩
            obtain ⟨c, hc, rfl⟩ := List.mem_map.mp hx
            rw [List.getD_eq_getElem?_getD, List.getElem?_eq_getElem (hix c hc)]
            exact hpt2 _ (List.getElem_mem _)
    rintro items ds' rfl ⟨rs0, t13, rfl, hrs0, hrl0, no13⟩
    rw [List.length_map] at hrl0
    refine rg_for (P0 := fun l => ∃ n : Int, (0 ≤ n ∧ n ≤ (most : Int)) ∧ l = (List.range n.toNat).map fun i : Nat => D.int (0 + (i : Int))) (pat := .nm 14) (fun _ j ds => ∃ (rs : List (List Int)) (t14 : Sl), ds = [.dat .bag, .dat q.d, .dat (.int (most : Int)), .dat (fS q.cols), .dat (.tup (q.atoms.map Atom.d)), .dat (.int wd), .ownD (tbE tb), .dat (.lst (pts.map tI)), .dat (hsD a.has), .dat (.str a.name), .dat (fS a.own), .own (rs.map tI), .dat (.int rare), t13, t14, .no] ∧ (∀ r ∈ rs, RowOk a.own.length r) ∧ rs.length ≤ pts.length + j ∧ t14.isOwnD = false)
      ?_ (pat_nm 14 nd) (fun _ _ => ⟨rs0, _, rfl, hrs0, by omega, no14⟩) ?_ ?_ .never
    · refine srcN_range1 b.range ?_
      refine PN.imp (P := fun d => ∃ m : Int, d = .int m ∧ 0 ≤ m ∧ m < (most : Int) + 1) ?_ fun d ⟨m, h, h1, h2⟩ => ⟨m, h, ⟨h1, by omega⟩, by omega, by omega⟩
      exact pn_take A1 (hr.mono (by decide)) (pds_cons (pd_var 0) (pds_cons (pd_add (pd_var 2) pd_int) pds_nil)) ⟨by omega, by omega⟩
    · rintro items j d ds' ⟨n, hn, rfl⟩ hdj ⟨rs, t14, rfl, hrs, hrl, _⟩
      have hj : j < n.toNat := by
        have := (List.getElem?_eq_some_iff.mp hdj).1
        simpa using this
      refine ⟨[.dat .bag, .dat q.d, .dat (.int (most : Int)), .dat (fS q.cols), .dat (.tup (q.atoms.map Atom.d)), .dat (.int wd), .ownD (tbE tb), .dat (.lst (pts.map tI)), .dat (hsD a.has), .dat (.str a.name), .dat (fS a.own), .own (rs.map tI), .dat (.int rare), t13, .dat d, .no], rfl, ?_⟩
      refine rg_append 11 (xs := rs.map tI) (P := fun d => ∃ r : List Int, d = tI r ∧ RowOk a.own.length r) rfl (PN.po (PN.imp (pn_tupleL (P := fun l => ∃ r : List Int, l = r.map .int ∧ RowOk a.own.length r) b.tuple (PN.imp (PLn.pn (PLc.pln (plc_fmN (pat := .nm 15) (xs := a.own) (it := D.str) (t := fun _ => true) (R := fun _ d => ∃ n : Int, d = .int n ∧ (-1 ≤ n ∧ n ≤ 7))
        (src_tup (PD.tup (pd_var 10))) (fun _ _ _ _ _ => pat_nm 15 nd) (blkOk_by (N := N_law_tables_for) (sc := defScope s_law_tables_for) (own := [("_law_column", 15)]) (by decide +kernel)) nd (fits (by omega)) fun c hc => ⟨_, rfl, rfl, ?_⟩))) ?_)) ?_)) ?_ fun d' hd' => ?_
      · intro _ s2 H2 C2 cl2 fp2
        refine pn_int0 (P := fun d => ∃ m : Int, d = .int m ∧ 0 ≤ m ∧ m < wd + 1) (R := fun d => d = .int 0 ∨ d = .int 1) (f := fun i j => i - j) op_sub (fun _ _ => rfl) ?_ (pn_intB b.int (pn_eqI ?_ (pd_int.pn ⟨0, rfl⟩))) ?_
        · refine pn_take ?_ ?_ ?_ ?_
          · exact A1
          · exact hr.mono (by decide)
          · exact pds_cons (pd_var 0) (pds_cons (pd_add (pd_var 5) pd_int) pds_nil)
          · exact ⟨by omega, by omega⟩
        · refine PN.imp (P := fun d => ∃ m : Int, d = .int m ∧ 0 ≤ m ∧ m < 9) ?_ fun d ⟨m, h, _⟩ => ⟨m, h⟩
          refine pn_take ?_ ?_ ?_ ?_
          · exact A1
          · exact hr.mono (by decide)
          · exact pds_cons (pd_var 0) (pds_cons pd_int pds_nil)
          · exact ⟨by decide, by decide⟩
        · rintro x y ⟨m, rfl, h1, h2⟩ (rfl | rfl)
          · exact ⟨m, 0, rfl, rfl, _, rfl, by omega, by omega⟩
          · exact ⟨m, 1, rfl, rfl, _, rfl, by omega, by omega⟩
      · rintro d ⟨l, rfl, hp'⟩
        rw [List.filter_eq_self.mpr (fun _ _ => rfl)] at hp'
        obtain ⟨ns, rfl, h2, h3⟩ := paired_ints (fun _ _ h => h) hp'
        exact ⟨_, rfl, ns, rfl, h2, h3⟩
      · rintro d ⟨l, rfl, r, rfl, hr'⟩
        exact ⟨r, rfl, hr'⟩
      · rw [List.length_map]
        exact Nat.lt_of_le_of_lt (by omega : rs.length ≤ 1000) (by decide)
      · obtain ⟨r, rfl, hr'⟩ := hd'
        refine rg_nil ⟨rs ++ [r], _, by rw [List.map_append]; rfl, fun r' h' => ?_, by simp; omega, rfl⟩
        rcases List.mem_append.mp h' with h' | h'
        · exact hrs r' h'
        · rw [List.mem_singleton.mp h']; exact hr'
    rintro items ds' ⟨n, hn, rfl⟩ ⟨rs, t14, rfl, hrs, hrl, no14⟩
    rw [List.length_map, List.length_range] at hrl
    refine rg_freeze 11 (xs := rs.map tI) rfl ?_
    show RG _ _ _ [.dat .bag, .dat q.d, .dat (.int (most : Int)), .dat (fS q.cols), .dat (.tup (q.atoms.map Atom.d)), .dat (.int wd), .ownD (tbE tb), .dat (.lst (pts.map tI)), .dat (hsD a.has), .dat (.str a.name), .dat (fS a.own), .dat (.lst (rs.map tI)), .dat (.int rare), t13, t14, .no] _
    refine rg_asgN 11 (P := fun d => ∃ rs : List (List Int), d = .lst (rs.map tI) ∧ (∀ r ∈ rs, RowOk a.own.length r) ∧ rs.length ≤ 14) (pn_ifN (tn_eqI ?_ (pd_int.pn ⟨0, rfl⟩)) (PD.pn (PL.pd (pl_lst pds_nil)) ⟨[], rfl, by simp, by simp⟩) (PD.pn (pd_var 11) ⟨rs, rfl, hrs, by omega⟩)) nd fun d ⟨rs, hd', hrs, hrl⟩ => ?_
    · refine PN.imp (P := fun d => ∃ m : Int, d = .int m ∧ 0 ≤ m ∧ m < 15) ?_ fun d ⟨m, h, _⟩ => ⟨m, h⟩
      exact pn_take A1 (hr.mono (by decide)) (pds_cons (pd_var 0) (pds_cons pd_int pds_nil)) ⟨by decide, by decide⟩
    subst hd'
    show RG _ _ _ [.dat .bag, .dat q.d, .dat (.int (most : Int)), .dat (fS q.cols), .dat (.tup (q.atoms.map Atom.d)), .dat (.int wd), .ownD (tbE tb), .dat (.lst (pts.map tI)), .dat (hsD a.has), .dat (.str a.name), .dat (fS a.own), .dat (.lst (rs.map tI)), .dat (.int rare), t13, t14, .no] _
    have hown0 : 1 ≤ a.own.length := List.length_pos_iff.mpr ho1
    refine rg_dput 6 (es := tbE tb) (k := a.name) (P := fun d => ∃ t : Str × Nat × List (List Int), TbOk a t ∧ d = tbD t.2) rfl (pd_var 9) (PN.po (pn_tup (P := fun l => ∃ rs' : List (List Int), l = [.int (a.own.length : Int), .tup (rs'.map tI)] ∧ (∀ r ∈ rs', RowOk a.own.length r) ∧ rs'.length ≤ 14) (pns_cons (P := fun d => d = .int (a.own.length : Int)) (R := fun l => ∃ rs' : List (List Int), l = [.tup (rs'.map tI)] ∧ (∀ r ∈ rs', RowOk a.own.length r) ∧ rs'.length ≤ 14) (PD.pn (pd_lenT b.len (PD.tup (pd_var 10))) ?_)
      (pns_cons (P := fun d => ∃ rs' : List (List Int), d = .tup (rs'.map tI) ∧ (∀ r ∈ rs', RowOk a.own.length r) ∧ rs'.length ≤ 14) (R := fun l => l = []) (PN.imp (pn_tupleL (P := fun l => ∃ rs' : List (List Int), l = rs'.map tI ∧ (∀ r ∈ rs', RowOk a.own.length r) ∧ rs'.length ≤ 14) b.tuple (PN.imp (PLn.pn (pln_sortedSetR b.sorted b.set (pd_var 11) ?_ (by omega) ?_)) ?_)) ?_) (PDs.pns pds_nil rfl) ?_) ?_) ?_)) hnew ?_ ?_ (ownD_one (r1 := [.dat .bag, .dat q.d, .dat (.int (most : Int)), .dat (fS q.cols), .dat (.tup (q.atoms.map Atom.d)), .dat (.int wd)]) (r2 := [.dat (.lst (pts.map tI)), .dat (hsD a.has), .dat (.str a.name), .dat (fS a.own), .dat (.lst (rs.map tI)), .dat (.int rare), t13, t14, .no]) (by simp [Sl.isOwnD]) ?_) fun d' ⟨t, ok, hd'⟩ => ?_
    · rw [List.length_map]
    · have := hr.un; omega
    · intro r hr' e
      have := (hrs r hr').1
      rw [e] at this
      simp at this
      omega
    · rintro d ⟨l, rfl, rs', rfl, hnd, hmem, _⟩
      refine ⟨_, rfl, rs', rfl, fun r hr' => hrs r ((hmem r).mp hr'), ?_⟩
      have := sub_len hnd fun r hr' => (hmem r).mp hr'
      omega
    · rintro d ⟨l, rfl, rs', rfl, h1, h2⟩
      exact ⟨rs', rfl, h1, h2⟩
    · rintro x xs ⟨rs', rfl, h1, h2⟩ rfl
      exact ⟨rs', rfl, h1, h2⟩
    · rintro x xs rfl ⟨rs', rfl, h1, h2⟩
      exact ⟨rs', rfl, h1, h2⟩
    · rintro l ⟨rs', rfl, h1, h2⟩
      exact ⟨by show 2 ≤ sizeLine; decide, (a.name, a.own.length, rs'), ⟨rfl, rfl, h1, h2⟩, rfl⟩
    · unfold tbE
      rw [List.length_map]
      exact Nat.lt_of_le_of_lt htl (by decide)
    · have := hr.un; omega
    · simp only [List.mem_cons, List.not_mem_nil, or_false, forall_eq_or_imp, forall_eq]
      exact ⟨rfl, rfl, rfl, rfl, rfl, rfl, no13, no14, rfl⟩
    · subst hd'
      refine rg_nil ⟨tb ++ [t], .dat (hsD a.has), .dat (.str a.name), .dat (fS a.own), .dat (.lst (rs.map tI)), .dat (.int rare), t13, t14, ?_, ?_, ?_⟩
      · show [Sl.dat .bag, .dat q.d, .dat (.int (most : Int)), .dat (fS q.cols), .dat (.tup (q.atoms.map Atom.d)), .dat (.int wd), .ownD (tbE tb ++ [(a.name, tbD t.2)]), .dat (.lst (pts.map tI)), .dat (hsD a.has), .dat (.str a.name), .dat (fS a.own), .dat (.lst (rs.map tI)), .dat (.int rare), t13, t14, .no] = _
        have e : tbE (tb ++ [t]) = tbE tb ++ [(a.name, tbD t.2)] := by
          unfold tbE
          rw [List.map_append]
          simp [ok.nm]
        rw [e]
      · rw [List.take_add_one, hai]
        exact Paired.snoc' ok hp
      · simp only [List.mem_cons, List.not_mem_nil, or_false, forall_eq_or_imp, forall_eq]
        exact ⟨rfl, rfl, rfl, rfl, rfl, no13, no14⟩
  · rintro items ds' rfl ⟨tb, t8, t9, t10, t11, t12, t13, t14, rfl, hp, hno⟩
    rw [List.length_map, List.take_length] at hp
    have hnm := tb_names hp
    have hall : ∀ a ∈ q.atoms, ∃ t ∈ tb, TbOk a t := paired_memA hp
    have htl : tb.length ≤ 8 := by rw [← Paired.length hp]; exact tm.fa
    have hsm : ∀ t ∈ tb, SmallT t := fun t ht => by
      obtain ⟨a, ha, ok⟩ := paired_mem hp t ht
      exact ok.small (hn8 a ha) (hown a ha).2.1
    refine rg_whenN (tn_eqI ?_ (pd_int.pn ⟨0, rfl⟩)) ?_ (fin tb t8 t9 t10 t11 t12 t13 t14 (by rw [hnm]; exact hnn) hall (by omega) hsm)
    · refine PN.imp (P := fun d => ∃ m : Int, d = .int m ∧ 0 ≤ m ∧ m < 4) ?_ fun d ⟨m, h, _⟩ => ⟨m, h⟩
      exact pn_take A1 (hr.mono (by decide)) (pds_cons (pd_var 0) (pds_cons pd_int pds_nil)) ⟨by decide, by decide⟩
    · have hoth : ("other" : Str) ∉ tb.map (·.1) := by
        rw [hnm]
        intro hm
        obtain ⟨a, ha, e⟩ := List.mem_map.mp hm
        have := hn8 a ha
        rw [e] at this
        exact absurd this (by decide)
      refine rg_dput 6 (es := tbE tb) (k := "other") (P := fun d => d = tbD (1, [[5]])) rfl pd_str (PN.po (PD.pn (pd_tup (pds_cons pd_int (pds_cons (pd_tup (pds_cons (pd_tup (pds_cons pd_int pds_nil)) pds_nil)) pds_nil))) rfl)) (by rw [tbE_names]; exact hoth) ?_ ?_ (ownD_one (r1 := [.dat .bag, .dat q.d, .dat (.int (most : Int)), .dat (fS q.cols), .dat (.tup (q.atoms.map Atom.d)), .dat (.int wd)]) (r2 := [.dat (.lst (pts.map tI)), t8, t9, t10, t11, t12, t13, t14, .no]) (by simp [Sl.isOwnD]) ?_) fun d' hd' => ?_
      · unfold tbE
        rw [List.length_map]
        exact Nat.lt_of_le_of_lt htl (by decide)
      · have := hr.un; omega
      · simp only [List.mem_cons, List.not_mem_nil, or_false, forall_eq_or_imp, forall_eq] at hno ⊢
        exact ⟨rfl, hno.1, hno.2.1, hno.2.2.1, hno.2.2.2.1, hno.2.2.2.2.1, hno.2.2.2.2.2.1, hno.2.2.2.2.2.2, rfl⟩
      · subst hd'
        have e : tbE (tb ++ [((("other" : Str), 1, [[5]]) : Str × Nat × List (List Int))]) = tbE tb ++ [(Str.ofString "other", tbD (1, [[5]]))] := by
          unfold tbE
          rw [List.map_append]
          rfl
        have key := fin (tb ++ [((("other" : Str), 1, [[5]]) : Str × Nat × List (List Int))]) t8 t9 t10 t11 t12 t13 t14 (by
          rw [List.map_append]
          refine List.nodup_append.mpr ⟨by rw [hnm]; exact hnn, by simp, fun x hx y hy e => ?_⟩
          simp only [List.mem_singleton, List.map_cons, List.map_nil] at hy
          rw [e, hy] at hx
          exact hoth hx) (fun a ha => by
          obtain ⟨t, ht, ok⟩ := hall a ha
          exact ⟨t, List.mem_append_left _ ht, ok⟩) (by simp; omega) (fun t ht => by
          rcases List.mem_append.mp ht with ht | ht
          · exact hsm t ht
          · rw [List.mem_singleton.mp ht]
            exact ⟨List.mem_cons_self, by decide, by decide, by decide⟩)
        rw [e] at key
        exact rg_nil key
end
end E
/-! repr of data -/
namespace E
open LamX L2 PyProof.Rows PySem PySem.Spec
mutual
/-- no list in it -/
def D.nl : D → Bool
  | .lst _ => false
  | .tup xs => D.nls xs
  | .ftp xs => D.nls xs
  | .dic kvs => D.nlk kvs
  | _ => true
def D.nls : List D → Bool
  | [] => true
  | d :: ds => d.nl && D.nls ds
def D.nlk : List (Str × D) → Bool
  | [] => true
  | (_, d) :: ds => d.nl && D.nlk ds
end
section
variable {X : Cx} {pins : List (Addr × Obj)} {σ : L2.St} {H B : Hp} {s : Shared} {T : List (Addr × Str)}
mutual
theorem Da.reads (I : Inv X pins σ H s) (o : Go T B H) : ∀ {v : V} {d : D} {u : Value}, d.nb = true → Da X.K B v d → L2.RelV v u → ∃ as, Reads s.heap u d.py as ∧ (d.nl = true → ∀ a ∈ as, a ≠ sysModules)
  | _, _, u, _, .non, r => by
    obtain rfl : u = Value.none := r
    exact ⟨[], .none, by simp⟩
  | _, _, u, _, .bl b, r => by
    obtain rfl : u = Value.bool b := r
    exact ⟨[], .bool b, by simp⟩
  | _, _, u, _, .int i, r => by
    obtain ⟨t, rfl⟩ := r
    exact ⟨[], .int i t, by simp⟩
  | _, _, u, _, .str x, r => by
    obtain ⟨t, rfl⟩ := r
    exact ⟨[], .str x t, by simp⟩
  | _, _, u, n, @Da.lst _ _ a _ _ h1 h2, r => by
    obtain rfl : u = Value.ref a := r
    obtain ⟨_, its, m, rv, e⟩ := I.hok a _ (o.sub _ _ h1)
    obtain ⟨as, r1, r2⟩ := DaAll.reads I o (by simpa [D.nb] using n) h2 rv
    refine ⟨a :: as, ?_, fun b => by simp [D.nl] at b⟩
    simp only [D.py]
    exact .list e rfl rfl (by simpa using r1)
  | _, _, u, n, @Da.tup _ _ a _ _ h1 h2, r => by
    obtain rfl : u = Value.ref a := r
    obtain ⟨its, rv, ⟨ob, e1, e2, m, e3⟩, _⟩ := I.tuple (sqT_ext o.extN h1)
    obtain ⟨as, r1, r2⟩ := DaAll.reads I o (by simpa [D.nb] using n) h2 rv
    refine ⟨as, ?_, fun hn => r2 (by simpa [D.nl] using hn)⟩
    simp only [D.py]
    exact .tuple e1 e2 e3 (by simpa using r1)
  | _, _, u, n, @Da.ftp _ _ a _ _ _ h1 h3 h2, r => by
    obtain rfl : u = Value.ref a := r
    obtain ⟨its, rv, ⟨ob, e1, e2, m, e3⟩, _⟩ := I.tuple (sqT_ext o.extN (.inl (.inr ⟨_, h1⟩)))
    obtain ⟨as, r1, r2⟩ := DaAll.reads I o (by simpa [D.nb] using n) h2 rv
    refine ⟨as, ?_, fun hn => r2 (by simpa [D.nl] using hn)⟩
    simp only [D.py]
    exact .tuple e1 e2 e3 (by simpa using r1)
  | _, _, u, n, @Da.dic _ _ a _ _ h1 h2, r => by
    obtain rfl : u = Value.ref a := r
    obtain ⟨_, hsm, vs, kv, ob, es, ep, e1, ⟨e2, _, _⟩, e3, _, pr, _⟩ := I.hok a _ (o.sub _ _ h1)
    obtain ⟨bs, r0, r1, r2⟩ := DaKv.reads I o (by simpa [D.nb] using n) h2 kv pr
    refine ⟨a :: [] ++ bs, ?_, fun hn b hb => ?_⟩
    · simp only [D.py]
      exact .dict e1 e2 e3 r0 r1
    · obtain rfl | hb := List.mem_cons.mp hb
      · exact beq_eq_false_iff_ne.mp hsm
      · exact r2 (by simpa [D.nl] using hn) b hb
  | _, _, _, n, .bag _ _, _ => by simp [D.nb] at n
  | _, _, _, n, .scr _, _ => by simp [D.nb] at n
theorem DaAll.reads (I : Inv X pins σ H s) (o : Go T B H) : ∀ {vs : List V} {ds : List D} {us : List Value}, D.nbs ds = true → DaAll X.K B vs ds → Vals vs us → ∃ as, ReadsAll s.heap us (D.pys ds) as ∧ (D.nls ds = true → ∀ a ∈ as, a ≠ sysModules)
  | _, _, us, _, .nil, r => by
    cases r
    exact ⟨[], by simp only [D.pys]; exact .nil, by simp⟩
  | _, _, us, n, .cons h t, r => by
    simp only [D.nbs, Bool.and_eq_true] at n
    cases r with
    | cons r1 r2 =>
      obtain ⟨as, a1, a2⟩ := h.reads I o n.1 r1
      obtain ⟨bs, b1, b2⟩ := t.reads I o n.2 r2
      refine ⟨as ++ bs, by simp only [D.pys]; exact .cons a1 b1, fun hn b hb => ?_⟩
      simp only [D.nls, Bool.and_eq_true] at hn
      obtain hb | hb := List.mem_append.mp hb
      · exact a2 hn.1 b hb
      · exact b2 hn.2 b hb
theorem DaKv.reads (I : Inv X pins σ H s) (o : Go T B H) : ∀ {kvs : List (Key × V)} {es : List (Str × D)} {vs : List (Key × Value)} {ents : List DictEntry}, D.nbk es = true → DaKv X.K B kvs es → KV kvs vs → Pairs (mixKind X.prog X.w) ents vs →
    ∃ bs, ReadsAll s.heap (ents.map (·.key)) ((D.pyk es).map (·.1)) [] ∧ ReadsAll s.heap (ents.map (·.val)) ((D.pyk es).map (·.2)) bs ∧ (D.nlk es = true → ∀ a ∈ bs, a ≠ sysModules)
  | _, _, vs, ents, _, .nil, r, pr => by
    cases r
    cases pr
    exact ⟨[], by simp only [D.pyk, List.map_nil]; exact .nil, by simp only [D.pyk, List.map_nil]; exact .nil, by simp⟩
  | _, _, vs, ents, n, .cons h t, r, pr => by
    simp only [D.nbk, Bool.and_eq_true] at n
    cases r with
    | cons r1 r2 =>
      cases pr with
      | cons p1 p2 p3 =>
        obtain ⟨k1, k2⟩ := r1
        rw [← p2] at k2
        obtain ⟨as, a1, a2⟩ := h.reads I o n.1 k2
        obtain ⟨bs, b0, b1, b2⟩ := t.reads I o n.2 r2 p3
        have hk : ∀ {q : Key} {x : Str} {u : Value}, (Sum.inr x : Key) = q → (mixKind X.prog X.w).is q u = true → ∃ tk, u = .str x tk := fun {q x u} e h => by
          subst e
          exact Value.isStrOf_shape h
        obtain ⟨tk, hk⟩ := hk k1 p1
        refine ⟨as ++ bs, ?_, ?_, fun hn b hb => ?_⟩
        · simp only [D.pyk, List.map_cons]
          rw [hk]
          exact ReadsAll.cons (as := []) (.str _ tk) b0
        · simp only [D.pyk, List.map_cons]
          exact .cons a1 b1
        · simp only [D.nlk, Bool.and_eq_true] at hn
          obtain hb | hb := List.mem_append.mp hb
          · exact a2 hn.1 b hb
          · exact b2 hn.2 b hb
end
/-- repr(x) of data -/
theorem cr_repr {d : D} (hg : X.A.guards = some []) (hu : X.A.units + (d.py.depth + 1) < cLine) (hn : d.nb = true) (hs : d.py.showable = true) (hz : d.sl ≤ sizeLine) (hd : d.py.hasDict = false) : CallR X (.builtin "repr") (fun zs H Q => ∃ a B, zs = [.ref a] ∧ Go T B H ∧ Da X.K B (.ref a) d ∧ Q (.str d.py.shown) H) := by
  intro pins s σ H xs us Q I r h
  obtain ⟨a, B, rfl, o, ha, q⟩ := h
  obtain ⟨u, rfl, ru⟩ := vals1 r
  obtain rfl : u = Value.ref a := ru
  obtain ⟨as, r1, r2⟩ := ha.reads I o hn rfl
  exact repr_of_reads' r1 hs (fun h => by rw [hd] at h; cases h) hg hu (fun _ _ e => e) (fun h' v tk hk => ⟨.str _, H, I.kept hk, ⟨_, rfl⟩, q⟩) hz
end
section
variable {X : Cx} {T : List (Addr × Str)} {a : Expr} {ds : List Sl} {p pos : Pos} {d : D}
theorem pd_repr (hm : X.mg "repr" = none) (ha : PD X T a ds d) (hr : ∀ {B v}, Da X.K B v d → ∃ l, v = .ref l) (hgd : X.A.guards = some []) (hu : X.A.units + (d.py.depth + 1) < cLine) (hn : d.nb = true) (hs : d.py.showable = true) (hz : d.sl ≤ sizeLine) (hd : d.py.hasDict = false) (hg : Gl X "repr" := by rfl)
    (he : starEach [a] X.env = (false, eval a X.env) :: starEach [] X.env := by exact se_of rfl) (hpl : (backTo pos (starEach [] X.env)).any (·.1) = false := by rfl) : PD X T (.Call (.Name "repr" p) [a] [] pos) ds (.str d.py.shown) :=
  pd_callB (cr_repr (T := T) hgd hu hn hs hz hd) hm (by decide +kernel) (pds_cons ha pds_nil he) (fun vs B H Q o h q => by
    obtain ⟨v, rfl, h'⟩ := da1 h
    obtain ⟨l, rfl⟩ := hr h'
    exact ⟨l, B, rfl, o, h', q _ B H o.refl (.str _)⟩) hg (by decide) (by decide) he hpl
/-- a new list, not the table of modules -/
theorem pe_lstN {X : Cx} {es : List Expr} {t : TA} {pos : Pos} (h : PA X es t) : PE X (.List es pos) (fun σ H Q => t σ H fun xs H1 => xs.length ≤ sizeLine ∧ ∀ q, H1 q = none → q ≠ sysModules → Q (.ref q) (upd H1 q (.lst xs))) := by
  refine ⟨fun pins s0 σ H Q I0 hq => ?_⟩
  refine wpAny_List_spliced (thn (h.run pos pins s0 σ H _ I0 hq) fun us s1 ⟨xs, H1, I1, r, z, q⟩ => ⟨(by rw [← r.length]; exact z), ?_⟩)
  have hnew : H1 s1.heap.objs.size = none := I1.hok.fresh (Nat.le_refl _)
  refine ⟨.ref s1.heap.objs.size, upd H1 s1.heap.objs.size (.lst xs), I1.laid (a := s1.heap.objs.size) (o := .lst xs) (t' := s1.toks) (fun _ _ e => Heap.get?_push_of_some _ e) (Nat.le_refl _) ?_, rfl, q _ hnew (Ne.symm (Nat.ne_of_lt I1.big))⟩; exact ⟨z, us, 0, r, Heap.get?_push_size _ rfl⟩
/-- repr([..]) -/
theorem pd_reprL {es : List Expr} {dl : List D} {lp : Pos} (hm : X.mg "repr" = none) (ha : PDs X T es ds dl) (hl : dl.length ≤ sizeLine) (hgd : X.A.guards = some []) (hu : X.A.units + ((D.lst dl).py.depth + 1) < cLine) (hn : D.nbs dl = true) (hnl : D.nls dl = true) (hs : (D.lst dl).py.showable = true) (hz : (D.lst dl).sl ≤ sizeLine) (hg : Gl X "repr" := by rfl)
    (he : starEach [.List es lp] X.env = (false, eval (.List es lp) X.env) :: starEach [] X.env := by exact se_of rfl) (hpl : (backTo pos (starEach [] X.env)).any (·.1) = false := by rfl) : PD X T (.Call (.Name "repr" p) [.List es lp] [] pos) ds (.str (D.lst dl).py.shown) := fun B H σ o s Q q => by
  have cr : CallR X (.builtin "repr") (fun zs H Q => ∃ a B vs, zs = [.ref a] ∧ a ≠ sysModules ∧ Go T B H ∧ H a = some (.lst vs) ∧ DaAll X.K B vs dl ∧ Q (.str (D.lst dl).py.shown) H) := by
    intro pins st σ H xs us Q I r h
    obtain ⟨a, B, vs, rfl, ne, o, hH, hd, q⟩ := h
    obtain ⟨u, rfl, ru⟩ := vals1 r
    obtain rfl : u = Value.ref a := ru
    obtain ⟨_, its, m, rv, e⟩ := I.hok a _ hH
    obtain ⟨as, r1, r2⟩ := DaAll.reads I o hn hd rv
    have rd : Reads st.heap (.ref a) (D.lst dl).py (a :: as) := by
      simp only [D.py]
      exact .list e rfl rfl (by simpa using r1)
    refine repr_of_reads' rd hs (fun _ hm => ?_) hgd hu (fun _ _ e => e) (fun h' v tk hk => ⟨.str _, H, I.kept hk, ⟨_, rfl⟩, q⟩) hz
    obtain e1 | hm := List.mem_cons.mp hm
    · exact ne e1.symm
    · exact r2 hnl _ hm rfl
  refine ofE (pe_callB cr hg hm (by decide +kernel) (pa_cons (pe_lstN paW) pa_nil he) (by decide) (by decide) he hpl) (ha B H σ o s _ fun vs B1 H1 g1 a1 => ⟨by rw [a1.length]; exact hl, fun l hp hne => ?_⟩)
  have o1 := g1.go o
  exact ⟨l, B1, vs, rfl, hne, o1.grow (.new hp), upd_same, a1, q _ B1 _ (g1.trans (o1.ge (.new hp))) (.str _)⟩
end
end E
/-! defs that show data: their promise where nothing is being shown around them -/
namespace E
open LamX L2 PyProof.Rows PySem PySem.Spec
structure FnG (P : Program) (w : World) (K : PySem.W.Frag) (mg : Str → Option Value) (base : Heap) (k : Nat) (f : Addr) (fd : FuncData) (ps : List Str) (sp : Sp) : Prop where
  cnt : ∀ us H Q E, sp us H Q E → us.length = ps.length
  go : ∀ (A : Around) (out : List Env) (s : Shared) (H : Hp) (ar : Args) (ws : List Value) (us : List V) (Q : VK) (E : XK), A.guards = some [] → Room k A → Env0 P w K mg base A out s H → BindsTo s fd ar (ps.zip ws) → Vals us ws → sp us H Q E → codeAny (model P w) A (.call (.ref f) ar) (CR L2.CX0 out P w H s Q E) s
theorem fng_mk {P : Program} {w : World} {K : PySem.W.Frag} {mg : Str → Option Value} {base : Heap} {x : Str} {st : Stmt} {f : Addr} {fd : FuncData} {N ps : List Str} {k : Nat} {sp : Sp} (F : L2.Fun K x x st f fd) (S : FnScope N ps (defScope st)) (cnt : ∀ us H Q E, sp us H Q E → us.length = ps.length)
    (bd : ∀ (cd : Value) (A : Around) (out : List Env) (s : Shared) (H : Hp) (us : List V) (Q : VK) (E : XK), A.guards = some [] → Room k (A.deeper (envOfC x (defScope st) s.heap.objs.size f cd)) → sp us H Q E →
      ∃ t, PSs (cxOf L2.CX0 P w K mg base N x (defScope st) f cd A out s H E).nox (defBody st) t ∧ t { nx := fun _ H' => Q .non H', rt := Q } (L2.start N us) H) : FnG P w K mg base (k + 1) f fd ps sp := by
  obtain ⟨oc, od, kV, doc, pm, an, cd, ct, osl, rfl, lk, hcode⟩ := F.ex
  refine ⟨cnt, fun A out s H ar ws us Q E gd room env bnd rel want => ?_⟩
  have hcnt := cnt us H Q E want
  have inK : K.In s.heap := env.mod.kin.keeps fun b o e => (env.bs b o e).1
  have nolim : s.heap.NoLimit := env.mod.nolimit.keeps fun b o e => (env.bs b o e).1
  refine codeAny_call_function room.depth (inK _ _ lk) rfl S.co S.gen rfl (PySem.W.codeRec_of inK hcode) (bnd _ _ _ _ ?_)
  refine wpAny_newFunctionEnv_cells S.kind (fun y hy => ?_) fun ev hev s1 made => ?_
  · obtain ⟨n, v⟩ := y
    obtain q | q := S.par n (List.of_mem_zip hy).1
    · exact .inl q
    · exact Or.inr ⟨q, PySem.W.cellsFrom_some _ _ _ (Or.inl q)⟩
  subst hev
  refine ⟨nolim.keeps made.toInCall.keep, codeAny_func ?_⟩
  obtain ⟨t, ht, q⟩ := bd cd A out s H us Q E gd (room.deeper _) want
  have J0 := inv_start (CX := L2.CX0) (E := E) S room.hd env hcnt rel made
  refine wpAny_mono (ht.nox.run [] s1 (L2.start N us) H _ J0 q) (fun fl s2 hs => ?_) fun e s2 hs => hs
  have close : ∀ {σ' : L2.St} {H2 : Hp} {v : V} {u : Value}, Inv (cxOf L2.CX0 P w K mg base N x (defScope st) f cd A out s H E) [] σ' H2 s2 → L2.RelV v u → Q v H2 → CE out P w H s Q u s2 := fun {σ' H2 v u} J rv q2 => ⟨v, H2, J.os, J.bare, J.base, J.hok, rv, q2⟩
  cases fl with
  | ret u =>
    obtain ⟨v, σ2, H2, J, rv, q2⟩ := hs
    exact close J rv q2
  | next =>
    obtain ⟨σ2, H2, J, q2⟩ := hs
    exact close (v := V.non) (u := Value.none) J rfl q2
  | brk =>
    obtain ⟨_, _, _, z⟩ := hs
    exact z.elim
  | cont =>
    obtain ⟨_, _, _, z⟩ := hs
    exact z.elim
def DfG (P : Program) (w : World) (K : PySem.W.Frag) (mg : Str → Option Value) (base : Heap) (k : Nat) (name : Str) (ps : List Str) (sp : Sp) : Prop :=
  ∃ (f : Addr) (fd : FuncData), FnG P w K mg base k f fd ps sp ∧ mg name = some (.ref f) ∧ PySem.W.keepIn K (.ref f) = true ∧ Binds K fd ps []
theorem dfg_mk {P : Program} {w : World} {K : PySem.W.Frag} {mg : Str → Option Value} {base : Heap} {T : List (Addr × Str)} {A : Type} {args : A → List D} {Pre : A → Prop} {R : A → D → Prop} {k : Nat} {name : Str} {N ps : List Str} {st : Stmt} (F : At K mg name st ps) (S : FnScope N ps (defScope st))
    (hlen : ∀ x, (args x).length = ps.length) (hbody : ∀ (f : Addr) (cd : Value) (A' : Around) (outer : List Env) (s : Shared) (H : Hp) (E : XK), (dcx P w K mg base N name (defScope st) f cd A' outer s H E).A.guards = some [] → Room k (dcx P w K mg base N name (defScope st) f cd A' outer s H E).A → ∀ x, Pre x →
      RG (dcx P w K mg base N name (defScope st) f cd A' outer s H E) T (defBody st) ((args x).map Sl.dat ++ List.replicate (N.length - ps.length) .no) { rt := R x }) : DfG P w K mg base (k + 1) name ps (SpF T K args Pre R) := by
  obtain ⟨f, fd, F, hm, hb⟩ := F
  refine ⟨f, fd, fng_mk F S (fun vs H Q E h => ?_) (fun cdv A' outer s H vs Q E gd hr h => ?_), hm, F.kp, hb⟩
  · obtain ⟨B, x, _, h, _⟩ := h
    rw [h.length, hlen]
  · obtain ⟨B, x, o, h, px, q⟩ := h
    refine ⟨_, pssW, ?_⟩
    have hpl : ps.length ≤ N.length := by
      have e := congrArg List.length S.pre
      rw [List.length_take] at e
      omega
    have hl : vs.length ≤ N.length := by rw [h.length, hlen]; exact hpl
    have sd := start_sd (T := T) (H := H) N h hl
    rw [hlen] at sd
    exact hbody f cdv A' outer s H E gd hr x px B H B H (L2.start N vs) _ ⟨o, o.refl, sd, start_so⟩ ⟨fun v d B2 H2 g r a _ => q v d B2 H2 g r a, fun _ _ _ _ n => n.elim, fun _ _ _ _ n => n.elim, fun _ _ _ _ n => n.elim⟩
section
variable {X : Cx} {T : List (Addr × Str)} {k : Nat} {name : Str} {ps : List Str} {e : Expr} {es : List Expr} {ds : List Sl} {p pos : Pos}
theorem pe_callG {f : Addr} {fd : FuncData} {sp : Sp} {t : TA} (F : FnG X.prog X.w X.K X.mg X.base k f fd ps sp) (gd : X.A.guards = some []) (hr : Room k X.A) (hg : Gl X name) (hm : X.mg name = some (.ref f)) (hk : PySem.W.keepIn X.K (.ref f) = true) (hb : Binds X.K fd ps [])
    (ha : PA X (e :: es) t) (hdb : (name == ("__debug__" : Str)) = false) (he : starEach (e :: es) X.env = (false, eval e X.env) :: starEach es X.env) (hpl : (backTo pos (starEach es X.env)).any (·.1) = false) : PE X (.Call (.Name name p) (e :: es) [] pos) (fun σ H Q => t σ H fun us H1 => sp us H1 Q L2.E0) := by
  refine ⟨fun pins s σ H Q I h => ?_⟩
  refine wpAny_Call_Name_kw (ld_glob I hg hm ?_ hdb); refine PySem.W.callWith_K (h₀ := X.base) I.ok.mod.kin hk (thn (ha.run pos pins s σ H _ I h) fun ws s1 ⟨us, H1, I1, rel, want⟩ => ⟨I1.kIn, ?_⟩) he hpl
  have hcnt : (ws ++ []).length = ps.length := by rw [List.append_nil, ← rel.length]; exact F.cnt _ _ _ _ want
  have bnd := hb s1 ws I1.kIn hcnt
  rw [List.append_nil] at bnd
  refine wpAny_call (codeAny_mono (F.go X.A X.stack s1 H1 ⟨ws, []⟩ ws us Q L2.E0 gd hr I1.env0 bnd rel want) fun r s2 hq => ?_)
  cases r with
  | error e => exact hq.elim
  | ok fl =>
    cases fl with
    | ret u => exact I1.after hq
    | _ => exact (show False from hq).elim
theorem td_callG {A : Type} {args : A → List D} {Pre : A → Prop} {R : A → D → Prop} {b : Bool} (F : DfG X.prog X.w X.K X.mg X.base k name ps (SpF T X.K args Pre R)) (gd : X.A.guards = some []) (hr : Room k X.A) (x : A) (ha : PDs X T (e :: es) ds (args x)) (hp : Pre x) (hR : ∀ d', R x d' → d' = .bl b) (hg : Gl X name := by rfl) (hdb : (name == ("__debug__" : Str)) = false := by decide)
    (he : starEach (e :: es) X.env = (false, eval e X.env) :: starEach es X.env := by exact se_of rfl) (hpl : (backTo pos (starEach es X.env)).any (·.1) = false := by rfl) (hv : ∀ whole, isTrue (.Call (.Name name p) (e :: es) [] pos) X.env whole = (do let v ← whole; standAt (Expr.Call (.Name name p) (e :: es) [] pos).pos; holding [v] (truthy v)) := by intro _; rfl) :
    TD X T (.Call (.Name name p) (e :: es) [] pos) ds b := td_val (fun B H σ o s Q q => by
  obtain ⟨f, fd, F, hm, hk, hb⟩ := F
  exact ofE (pe_callG F gd hr hg hm hk hb paW hdb he hpl) (ha B H σ o s _ fun vs B1 H1 g1 a => ⟨B1, x, g1.go o, a, hp, fun v d B2 H2 g2 r hv => by
    have e := hR d r
    subst e
    exact q v B2 H2 (g1.trans g2) hv⟩)) hv
end
end E
/-! what is shown of a question and its tables is short -/
namespace E
open LamX L2 PyProof.Rows PySem PySem.Spec
structure D.Sh (K : Nat) (d : D) : Prop where
  sh : d.py.showable = true
  nb : d.nb = true
  nl : d.nl = true
  dp : d.py.depth ≤ K
theorem sh_all {K : Nat} : ∀ {ds : List D}, (∀ d ∈ ds, d.Sh K) → PyData.showableAll (D.pys ds) = true ∧ D.nbs ds = true ∧ D.nls ds = true ∧ PyData.depthAll (D.pys ds) ≤ K
  | [], _ => by simp [D.pys, D.nbs, D.nls, PyData.showableAll, PyData.depthAll]
  | d :: ds, h => by
    obtain ⟨h1, h2, h3, h4⟩ := sh_all fun x hx => h x (List.mem_cons_of_mem _ hx)
    obtain ⟨g1, g2, g3, g4⟩ := h d List.mem_cons_self
    simp only [D.pys, D.nbs, D.nls, PyData.showableAll, PyData.depthAll, h1, h2, h3, g1, g2, g3]
    exact ⟨rfl, rfl, rfl, by omega⟩
theorem sh_kv {K : Nat} : ∀ {es : List (Str × D)}, (∀ p ∈ es, p.2.Sh K) → PyData.showableKv (D.pyk es) = true ∧ D.nbk es = true ∧ D.nlk es = true ∧ PyData.depthKv (D.pyk es) ≤ K
  | [], _ => by simp [D.pyk, D.nbk, D.nlk, PyData.showableKv, PyData.depthKv]
  | (k, d) :: es, h => by
    obtain ⟨h1, h2, h3, h4⟩ := sh_kv fun x hx => h x (List.mem_cons_of_mem _ hx)
    obtain ⟨g1, g2, g3, g4⟩ := h (k, d) List.mem_cons_self
    simp only [] at g1 g2 g3 g4
    simp only [D.pyk, D.nbk, D.nlk, PyData.showableKv, PyData.depthKv, h1, h2, h3, g1, g2, g3, PyData.showable, PyData.depth]
    exact ⟨rfl, rfl, rfl, by omega⟩
theorem sh_tup {K : Nat} {ds : List D} (h : ∀ d ∈ ds, d.Sh K) : (D.tup ds).Sh (K + 1) := by
  obtain ⟨h1, h2, h3, h4⟩ := sh_all h
  exact ⟨by simp only [D.py, PyData.showable, h1], by simp only [D.nb, h2], by simp only [D.nl, h3], by simp only [D.py, PyData.depth]; omega⟩
theorem sh_ftp {K : Nat} {ds : List D} (h : ∀ d ∈ ds, d.Sh K) : (D.ftp ds).Sh (K + 1) := by
  obtain ⟨h1, h2, h3, h4⟩ := sh_all h
  exact ⟨by simp only [D.py, PyData.showable, h1], by simp only [D.nb, h2], by simp only [D.nl, h3], by simp only [D.py, PyData.depth]; omega⟩
theorem sh_dic {K : Nat} {es : List (Str × D)} (h : ∀ p ∈ es, p.2.Sh K) : (D.dic es).Sh (K + 1) := by
  obtain ⟨h1, h2, h3, h4⟩ := sh_kv h
  exact ⟨by simp only [D.py, PyData.showable, h1], by simp only [D.nb, h2], by simp only [D.nl, h3], by simp only [D.py, PyData.depth]; omega⟩
theorem sh_int {i : Int} (h : i.natAbs < 1000) {K : Nat} : (D.int i).Sh K := ⟨(fn_int h (K := K)).sh, by simp only [D.nb], by simp only [D.nl], by simp only [D.py, PyData.depth]; omega⟩
theorem sh_non {K : Nat} : D.non.Sh K := ⟨by simp only [D.py, PyData.showable], by simp only [D.nb], by simp only [D.nl], by simp only [D.py, PyData.depth]; omega⟩
theorem sh_str {s : Str} {K : Nat} : (D.str s).Sh K := ⟨by simp only [D.py, PyData.showable], by simp only [D.nb], by simp only [D.nl], by simp only [D.py, PyData.depth]; omega⟩
theorem sh_oi {o : Option Int} {K : Nat} (h : ∀ v, o = some v → v.natAbs < 1000) : (oi o).Sh K := by
  cases o with
  | none => exact sh_non
  | some v => exact sh_int (h v rfl)
theorem piled_kv : ∀ es : List (Str × D), piled (PyData.shownKv (D.pyk es)) = (es.map fun p => (D.str p.1).sl + p.2.sl + 4).sum
  | [] => by simp only [D.pyk, PyData.shownKv]; rfl
  | (k, d) :: es => by
    simp only [D.pyk, PyData.shownKv]
    rw [piled_cons, piled_kv es, strLen_append, strLen_append, List.map_cons, List.sum_cons]
    have h2 : (": " : Str).length = 2 := by decide +kernel
    rw [h2]
    unfold D.sl
    simp only [D.py]
    omega
theorem sl_dic (es : List (Str × D)) : (D.dic es).sl ≤ 2 + (es.map fun p => (D.str p.1).sl + p.2.sl + 4).sum := by
  rw [← piled_kv es]
  have e0 : (D.dic es).sl = (dictText (PyData.shownKv (D.pyk es))).length := by
    unfold D.sl
    rw [show (D.dic es).py = .dict (D.pyk es) from by simp only [D.py], PyData.shown]
  rw [e0]
  unfold dictText
  rw [strLen_append, strLen_append]; have h1 : ("{" : Str).length = 1 := by decide +kernel
  have h2 : ("}" : Str).length = 1 := by decide +kernel
  have h3 : (Str.join ", " (PyData.shownKv (D.pyk es))).length ≤ piled (PyData.shownKv (D.pyk es)) := by
    by_cases e : PyData.shownKv (D.pyk es) = []
    · rw [e]; decide +kernel
    · have := join_length_add _ e; omega
  omega
theorem sl_six : ∀ s ∈ six, (D.str s).sl ≤ 8 := fun s h => by
  rw [sl_str]
  simp only [six, List.mem_cons, List.not_mem_nil, or_false] at h
  rcases h with rfl | rfl | rfl | rfl | rfl | rfl <;> decide +kernel
theorem sl_eight : ∀ s ∈ nine, (D.str s).sl ≤ 8 := fun s h => by
  rw [sl_str]
  simp only [nine, eight, List.mem_cons, List.not_mem_nil, or_false] at h
  rcases h with rfl | rfl | rfl | rfl | rfl | rfl | rfl | rfl | rfl <;> decide +kernel
theorem tbD_small {t : Str × Nat × List (List Int)} (h : SmallT t) : (tbD t.2).sl ≤ 600 ∧ (tbD t.2).Sh 3 := by
  have h1 := sl_two (.int (t.2.1 : Int)) (.tup (t.2.2.map tI))
  have h2 : (D.int (t.2.1 : Int)).sl ≤ 4 := sl_int (by have := h.ar; omega)
  have h3 := sl_tup (t.2.2.map tI)
  have hb : ∀ r ∈ t.2.2, ∀ x ∈ r, x.natAbs < 1000 := fun r hr x hx => by have := (h.ro r hr).2 x hx; omega
  have h4 := sumL_le (ds := t.2.2.map tI) (k := 33) fun d hd => by
    obtain ⟨r, hr, rfl⟩ := List.mem_map.mp hd
    exact sl_tI (hb r hr) (h.ro r hr).1
  rw [List.length_map] at h4
  have h5 := h.ln
  refine ⟨?_, sh_tup fun d hd => ?_⟩
  · show (D.tup [.int (t.2.1 : Int), .tup (t.2.2.map tI)]).sl ≤ 600
    omega
  · simp only [List.mem_cons, List.not_mem_nil, or_false] at hd
    rcases hd with rfl | rfl
    · exact sh_int (by have := h.ar; omega)
    · refine sh_tup fun d hd => ?_
      obtain ⟨r, hr, rfl⟩ := List.mem_map.mp hd
      exact sh_tup (K := 0) fun d hd => by
        obtain ⟨x, hx, rfl⟩ := List.mem_map.mp hd
        exact sh_int (hb r hr x hx)
theorem tbs_small {tb : Tbs} (h : ∀ t ∈ tb, SmallT t) (hl : tb.length ≤ 9) : (tbsD tb).sl ≤ 10000 ∧ (tbsD tb).Sh 4 := by
  have h1 := sl_dic (tb.map fun t => (t.1, tbD t.2))
  rw [List.map_map] at h1
  have h2 : (tb.map ((fun p : Str × D => (D.str p.1).sl + p.2.sl + 4) ∘ fun t => (t.1, tbD t.2))).sum ≤ (tb.map fun _ => 612).sum := sum_le fun t ht => by
    have := sl_eight _ (h t ht).nm
    have := (tbD_small (h t ht)).1
    simp only [Function.comp]
    omega
  rw [sum_const] at h2
  refine ⟨?_, sh_dic fun p hp => ?_⟩
  · show (D.dic (tb.map fun t => (t.1, tbD t.2))).sl ≤ 10000
    omega
  · obtain ⟨t, ht, rfl⟩ := List.mem_map.mp hp
    exact (tbD_small (h t ht)).2
theorem sh_strs {l : List Str} : (fS l).Sh 1 := sh_ftp fun d hd => by
  obtain ⟨c, _, rfl⟩ := List.mem_map.mp hd
  exact sh_str
theorem sl_strs {l : List Str} (h : ∀ c ∈ l, c ∈ six) (h5 : l.length ≤ 5) : (fS l).sl ≤ 53 := by
  show (D.ftp (l.map .str)).sl ≤ 53
  rw [sl_ftp]
  have h1 := sl_tup (l.map .str)
  have h2 := sumL_le (ds := l.map .str) (k := 8) fun d hd => by
    obtain ⟨c, hc, rfl⟩ := List.mem_map.mp hd
    exact sl_six c (h c hc)
  rw [List.length_map] at h2
  omega
theorem sl_has (b : Bool) : (hsD b).sl ≤ 8 := by
  unfold hsD
  rw [sl_str]
  cases b <;> decide +kernel
theorem quest_small {q : Qn} (d : DrawnQ q) : q.d.sl ≤ 1500 ∧ q.d.Sh 4 := by
  obtain ⟨⟨names, ps, dr⟩, _, hn, hs⟩ := d
  have t := dr.tame
  have h1 := sl_three (fS q.cols) (.tup (q.atoms.map Atom.d)) (.tup (q.ranges.map rngD))
  have h2 := sl_strs hs t.fc
  have hown : ∀ a ∈ q.atoms, a.own.length ≤ 5 ∧ ∀ c ∈ a.own, c ∈ six := fun a ha => by
    obtain ⟨i, hi, rfl⟩ := mem_at ha
    exact ⟨t.own5 hi, fun c hc => hs c ((t.own i hi).2.2 c hc)⟩
  have h3 := sl_tup (q.atoms.map Atom.d)
  have h4 := sumL_le (ds := q.atoms.map Atom.d) (k := 90) fun d hd => by
    obtain ⟨a, ha, rfl⟩ := List.mem_map.mp hd
    have k1 := sl_three (hsD a.has) (.str a.name) (fS a.own)
    have k2 := sl_has a.has
    have k3 := sl_eight a.name (List.mem_cons_of_mem _ (hn a ha))
    have k4 := sl_strs (hown a ha).2 (hown a ha).1
    show (D.tup [hsD a.has, .str a.name, fS a.own]).sl ≤ 90
    omega
  have hrg : ∀ r ∈ q.ranges, (∀ v, r.2.1 = some v → v.natAbs < 1000) ∧ ∀ v, r.2.2 = some v → v.natAbs < 1000 := fun r hr => by
    obtain ⟨b1, b2, _⟩ := dr.rb r hr
    exact ⟨fun v e => by have := b1 v e; omega, fun v e => by have := b2 v e; omega⟩
  have h5 := sl_tup (q.ranges.map rngD)
  have h6 := sumL_le (ds := q.ranges.map rngD) (k := 40) fun d hd => by
    obtain ⟨r, hr, rfl⟩ := List.mem_map.mp hd
    have k1 := sl_three (.str r.1) (oi r.2.1) (oi r.2.2)
    have k2 := sl_six r.1 (hs _ (dr.rd r hr))
    have k3 := sl_oi (hrg r hr).1
    have k4 := sl_oi (hrg r hr).2
    show (D.tup [.str r.1, oi r.2.1, oi r.2.2]).sl ≤ 40
    omega
  rw [List.length_map] at h4 h6
  have h7 := t.fa
  have h8 := dr.r5
  refine ⟨?_, sh_tup fun d hd => ?_⟩
  · show (D.tup [fS q.cols, .tup (q.atoms.map Atom.d), .tup (q.ranges.map rngD)]).sl ≤ 1500
    omega
  · simp only [List.mem_cons, List.not_mem_nil, or_false] at hd
    have mono : ∀ {K K' : Nat} {d : D}, d.Sh K → K ≤ K' → d.Sh K' := fun h hk => ⟨h.sh, h.nb, h.nl, Nat.le_trans h.dp hk⟩
    rcases hd with rfl | rfl | rfl
    · exact mono sh_strs (by decide)
    · refine sh_tup (K := 2) fun d hd => ?_
      obtain ⟨a, ha, rfl⟩ := List.mem_map.mp hd
      refine sh_tup (K := 1) fun d hd => ?_
      simp only [List.mem_cons, List.not_mem_nil, or_false] at hd
      rcases hd with rfl | rfl | rfl
      · exact sh_str
      · exact sh_str
      · exact sh_strs
    · refine mono (sh_tup (K := 1) fun d hd => ?_) (by decide)
      obtain ⟨r, hr, rfl⟩ := List.mem_map.mp hd
      refine sh_tup (K := 0) fun d hd => ?_
      simp only [List.mem_cons, List.not_mem_nil, or_false] at hd
      rcases hd with rfl | rfl | rfl
      · exact sh_str
      · exact sh_oi (hrg r hr).1
      · exact sh_oi (hrg r hr).2
end E
namespace E
open LamX L2 PyProof.Rows PySem PySem.Spec
mutual
theorem pl_nb : ∀ d : D, d.pl = true → d.nb = true
  | .non, _ => by simp only [D.nb]
  | .bl _, _ => by simp only [D.nb]
  | .int _, _ => by simp only [D.nb]
  | .str _, _ => by simp only [D.nb]
  | .tup xs, h => by simp only [D.nb]; exact pls_nbs xs (by simpa [D.pl] using h)
  | .ftp xs, h => by simp only [D.nb]; exact pls_nbs xs (by simpa [D.pl] using h)
  | .lst xs, h => by simp only [D.nb]; exact pls_nbs xs (by simpa [D.pl] using h)
  | .dic _, h => by simp [D.pl] at h
  | .bag, h => by simp [D.pl] at h
  | .scr _, h => by simp [D.pl] at h
theorem pls_nbs : ∀ ds : List D, D.pls ds = true → D.nbs ds = true
  | [], _ => by simp only [D.nbs]
  | d :: ds, h => by
    simp only [D.pls, Bool.and_eq_true] at h
    simp only [D.nbs, pl_nb d h.1, pls_nbs ds h.2]
    rfl
end
section
variable {P : Program} {w : World} {K : PySem.W.Frag} {mg : Str → Option Value} {base : Heap} {T : List (Addr × Str)}
abbrev SpAlike (T : List (Addr × Str)) (K : PySem.W.Frag) : Sp := SpF T K (fun d : D => [d, d]) (fun d => (∃ xs, d = .tup xs) ∧ d.Fn 60 ∧ d.sl ≤ sizeLine) (fun _ d' => d' = .bl true)
theorem ok_law_alike (b : Bl mg) (F : At K mg "_law_alike" s_law_alike ["_law_found", "_law_due"]) : DfG P w K mg base 1 "_law_alike" ["_law_found", "_law_due"] (SpAlike T K) := by
  refine dfg_mk F sc_law_alike (fun _ => rfl) fun f cd A' outer s H E gd hr d hx => ?_
  obtain ⟨⟨xs, rfl⟩, hf, hz⟩ := hx
  have hdp := hf.dp
  have hun := hr.un
  have hshape : SeqAt.shaped (D.tup xs).py = true := by
    unfold SeqAt.shaped
    rw [hf.lay]
    simp only [Bool.true_and, decide_eq_true_eq]
    omega
  have hdict : (D.tup xs).py.hasDict = false := PyData.hasDict_of_canLay _ hf.lay
  have hnb := pl_nb _ hf.pl
  have href : ∀ {B : Hp} {v : V}, Da K B v (.tup xs) → ∃ l, v = .ref l := fun h => by cases h; exact ⟨_, rfl⟩
  refine rg_retD (d := .bl true) (PD.of (pd_and (k := true) (k' := true) (PD.of (pd_cmp (c_eqD hf.pl hf.pl hshape hshape (by omega)) (pd_var 0) (pd_var 1)) ?_) fun _ => pd_and1 (PD.of (pd_cmp c_eqS (pd_repr b.repr (pd_var 0) href gd (by omega) hnb hf.sh hz hdict) (pd_repr b.repr (pd_var 1) href gd (by omega) hnb hf.sh hz hdict)) ?_)) rfl) rfl
  · rw [SeqAt.eqv_refl _ hf.lay]
  · rw [decide_eq_true rfl]
end
end E
/-! a told list, changed behind its comparison -/
namespace E
open LamX L2 PyProof.Rows PySem PySem.Spec
/-- B without its lists -/
def noL (B : Hp) : Hp := fun a => match B a with
  | some (.lst _) => none
  | o => o
theorem noL_same {B : Hp} {a : Addr} {u : HO} (h : B a = some u) (n : ∀ xs, u ≠ .lst xs) : noL B a = some u := by
  unfold noL
  rw [h]
  cases u with
  | lst xs => exact absurd rfl (n xs)
  | _ => rfl
theorem noL_some {B : Hp} {a : Addr} {u : HO} (h : noL B a = some u) : B a = some u ∧ ∀ xs, u ≠ .lst xs := by
  unfold noL at h
  cases q : B a with
  | none => rw [q] at h; cases h
  | some w =>
    rw [q] at h
    cases w with
    | lst xs => cases h
    | _ => cases h; exact ⟨rfl, nofun⟩
mutual
theorem Da.noL {K : PySem.W.Frag} {B : Hp} : ∀ {v : V} {d : D}, d.nb = true → d.nl = true → Da K B v d → Da K (noL B) v d
  | _, _, _, _, .non => .non
  | _, _, _, _, .bl b => .bl b
  | _, _, _, _, .int i => .int i
  | _, _, _, _, .str i => .str i
  | _, _, _, l, .lst _ _ => by simp [D.nl] at l
  | _, _, n, l, .tup h1 h2 => .tup (h1.imp (fun hs => hs.elim (fun hs => .inl (noL_same hs nofun)) fun ⟨o, hs⟩ => .inr ⟨o, noL_same hs nofun⟩) id) (h2.noL (by simpa [D.nb] using n) (by simpa [D.nl] using l))
  | _, _, n, l, .ftp h1 h3 h2 => .ftp (noL_same h1 nofun) h3 (h2.noL (by simpa [D.nb] using n) (by simpa [D.nl] using l))
  | _, _, n, l, .dic h1 h2 => .dic (noL_same h1 nofun) (h2.noL (by simpa [D.nb] using n) (by simpa [D.nl] using l))
  | _, _, n, _, .bag _ _ => by simp [D.nb] at n
  | _, _, n, _, .scr _ => by simp [D.nb] at n
theorem DaAll.noL {K : PySem.W.Frag} {B : Hp} : ∀ {vs : List V} {ds : List D}, D.nbs ds = true → D.nls ds = true → DaAll K B vs ds → DaAll K (noL B) vs ds
  | _, _, _, _, .nil => .nil
  | _, _, n, l, .cons h t => by
    simp only [D.nbs, Bool.and_eq_true] at n
    simp only [D.nls, Bool.and_eq_true] at l
    exact .cons (h.noL n.1 l.1) (t.noL n.2 l.2)
theorem DaKv.noL {K : PySem.W.Frag} {B : Hp} : ∀ {vs : List (Key × V)} {ds : List (Str × D)}, D.nbk ds = true → D.nlk ds = true → DaKv K B vs ds → DaKv K (noL B) vs ds
  | _, _, _, _, .nil => .nil
  | _, _, n, l, .cons h t => by
    simp only [D.nbk, Bool.and_eq_true] at n
    simp only [D.nlk, Bool.and_eq_true] at l
    exact .cons (h.noL n.1 l.1) (t.noL n.2 l.2)
end
section
variable {X : Cx} {T : List (Addr × Str)} {B0 H0 B H : Hp} {σ : L2.St} {ds : List Sl} {rest body : List Stmt} {O : Out} {c e1 : Expr} {es1 : List Expr} {x name : Str} {ps : List Str} {k i j : Nat} {px p0 p1 p3 p4 p5 p6 p7 pos1 pos2 pos3 : Pos} {d0 d1 : D} {lks : List D}
theorem Here.setNo (h : Here X T B0 H0 B H σ ds) (i : Nat) (v : V) : Here X T B0 H0 B H (σ.set i (some v)) (ds.set i .no) := ⟨h.go, h.ge, h.sd.setN i _, h.so.set v _ (fun l e => by rcases e with ⟨_, e⟩ | ⟨_, e⟩ <;> cases e)⟩
theorem rg_told {A : Type} {args : A → List D} {Pre : A → Prop} {R : A → D → Prop} (i : Nat) (F : DfOk X.prog X.w X.K X.mg X.base k name ps (SpF T X.K args Pre R)) (hr : Room k X.A) (x0 : A) (ha : PDs X T (e1 :: es1) ds (args x0)) (hp : Pre x0) (hR : ∀ d', R x0 d' → d' = .tup [d0, d1, .lst lks])
    (hnb : D.nbs (args x0) = true) (hnl : D.nls (args x0) = true) (hil : i < ds.length) (ht : TD X T c (opn (ds.set i (.dat (.tup [d0, d1, .lst lks])))) false) (kk : RG X T rest (ds.set i .no) O) (hN : X.N.Nodup) (hi : X.N[i]? = some x := by rfl) (hx : Loc X.env.scope x := by first | exact .inl rfl | exact .inr rfl)
    (hs : swapsWith (.Call (.Name name p0) (e1 :: es1) [] p1) (some (.Name x px)) pos1.line X.env = pure false := by rfl) (hf : X.fn x = true ∨ X.env.scope.names.lookup x = some .local := by first | exact .inl rfl | exact .inr rfl)
    (hg : Gl X name := by rfl) (hdb : (name == ("__debug__" : Str)) = false := by decide) (he : starEach (e1 :: es1) X.env = (false, eval e1 X.env) :: starEach es1 X.env := by exact se_of rfl) (hpl : (backTo p1 (starEach es1 X.env)).any (·.1) = false := by rfl)
    (hv : Vis X.env.scope x := by first | exact Or.inl rfl | exact Or.inr (Or.inl rfl) | exact Or.inr (Or.inr rfl)) (h1 : (x == ("__debug__" : Str)) = false := by decide) (h2 : (x == ("__classdict__" : Str)) = false := by decide)
    (hbase : attributeBase (.Subscript (.Name x p3) (.Constant (.int 2) j p4) p5) "clear" X.env (eval (.Subscript (.Name x p3) (.Constant (.int 2) j p4) p5) X.env) = eval (.Subscript (.Name x p3) (.Constant (.int 2) j p4) p5) X.env := by rfl) (hline : (p6.endLine == p7.line) = true := by rfl)
    (hsw : swapsWith (.Call (.Attribute (.Subscript (.Name x p3) (.Constant (.int 2) j p4) p5) "clear" p6) [] [] p7) none pos3.line X.env = pure false := by rfl) :
    RG X T (.Assign [.Name x px] (.Call (.Name name p0) (e1 :: es1) [] p1) pos1 :: .If c body [] pos2 :: .Expr (.Call (.Attribute (.Subscript (.Name x p3) (.Constant (.int 2) j p4) p5) "clear" p6) [] [] p7) pos3 :: rest) ds O := fun B0 H0 B H σ De hh dn => by
  obtain ⟨f, fd, F, hm, hk, hb⟩ := F
  refine ss_cons (ofS (ps_set hN hi hx (pe_call F hr hg hm hk hb .nil pass0 paW hdb he hpl) hs hf) (ha B H σ hh.go hh.sd _ fun vs B1 H1 g1 a1 => ?_))
  have hh1 := hh.grow g1
  have o1 := hh1.go
  refine ⟨noL B1, x0, ⟨fun a u e => o1.sub a u (noL_some e).1, fun a q e => o1.nt a q (noL_some e).1, o1.tab⟩, by rw [List.append_nil]; exact a1.noL hnb hnl, hp, fun v d B2 H2 g2 r hvd => ?_⟩
  have hd := hR d r
  subst hd
  obtain ⟨a, v0, v1, l, ws, rfl, hsq, hl⟩ : ∃ a v0 v1 l ws, v = .ref a ∧ SqT X.K B2 a [v0, v1, .ref l] ∧ B2 l = some (.lst ws) := by
    cases hvd with
    | @tup a _ _ h1 h2 => cases h2 with
      | @cons v0 _ _ _ q0 h2 => cases h2 with
        | @cons v1 _ _ _ q1 h2 => cases h2 with
          | cons q2 h2 =>
            cases h2
            cases q2 with
            | @lst l ws _ k1 k2 => exact ⟨a, v0, v1, l, ws, rfl, h1, k1⟩
  have hfree : H1 l = none := by
    rcases g2.new l (by rw [hl]; trivial) with n | n
    · exfalso
      cases q : noL B1 l with
      | none => exact n q
      | some u =>
        have e := g2.ext l u q
        rw [hl] at e
        cases e
        exact (noL_some q).2 _ rfl
    · exact n
  -- both bases together
  let B3 : Hp := fun a => match B1 a with
    | some u => some u
    | none => B2 a
  have b31 : ∀ a u, B1 a = some u → B3 a = some u := fun a u e => by
    show (match B1 a with | some u => some u | none => B2 a) = _
    rw [e]
  have b3i : ∀ a u, B3 a = some u → B1 a = some u ∨ (B1 a = none ∧ B2 a = some u) := fun a u e => by
    have e : (match B1 a with | some u => some u | none => B2 a) = some u := e
    cases q : B1 a with
    | some y => rw [q] at e; exact .inl e
    | none => rw [q] at e; exact .inr ⟨rfl, e⟩
  have keep : ∀ a u, B1 a = some u → H2 a = some u := fun a u e => g2.gr.ext a u (o1.sub a u e) fun q y => o1.nt a q (by rw [e, y])
  have b32 : ∀ a u, B2 a = some u → B3 a = some u := fun a u e => by
    cases q : B1 a with
    | some y =>
      have e1 := keep a y q
      rw [g2.sub a u e] at e1
      rw [b31 a y q, ← e1]
    | none =>
      show (match B1 a with | some u => some u | none => B2 a) = _
      rw [q]
      exact e
  have g3 : Ge T B1 H1 B3 H2 := ⟨g2.gr, b31, fun a u e => (b3i a u e).elim (keep a u) fun z => g2.sub a u z.2, fun a m => by
    cases q : B3 a with
    | none => rw [q] at m; exact m.elim
    | some u =>
      rcases b3i a u q with e | ⟨e0, e⟩
      · exact .inl (by rw [e]; nofun)
      · rw [q] at m
        rcases g2.new a (by rw [e]; exact m) with n | n
        · cases q4 : noL B1 a with
          | none => exact absurd q4 n
          | some y => rw [(noL_some q4).1] at e0; cases e0
        · exact .inr n, fun a q e => (b3i a _ e).elim (o1.nt a q) fun z => g2.nt a q z.2⟩
  have hda : Da X.K B3 (.ref a) (.tup [d0, d1, .lst lks]) := hvd.mono (.of b32)
  have hh3 := (hh1.grow g3).set i hda
  have hσ : (σ.set i (some (V.ref a)))[i]? = some (some (.ref a)) := List.getElem?_set_self (Nat.lt_of_lt_of_le hil hh.sd.len)
  refine ss_cons (ofS (ps_if ptW pssW pssW) (opn_po ht hh3 fun H4 g4 => iteF (ofSs pss_nil ?_)))
  have gr4 : Gr T H1 H4 := g2.gr.trans g4.gr
  have hl4 : H4 l = some (.lst ws) := g4.gr.isl (g2.sub _ _ hl)
  have hsq4 : SqT X.K H4 a [v0, v1, .ref l] := sqT_ext (.of fun b u e => g4.sub b u (b32 b u e)) hsq
  refine ss_cons (ofS (ps_expr (pe_bm0 PySem.F.plainAttrs_list PySem.F.slot_list_clear PySem.F.type_list_clear mt_clear (pe_ix ix_seq (pv i hi hv h1 h2) pe_int (fun _ _ => rfl)) hbase hline) hsw) ?_)
  refine ⟨_, hσ, .inr (.inl ⟨a, [v0, v1, .ref l], 2, .ref l, rfl, rfl, hsq4, rfl, .inl ⟨rfl, _, .of hl4⟩, l, ws, rfl, rfl, hl4, ?_⟩)⟩
  have gr5 : Gr T H1 (upd H4 l (.lst [])) := gr4.mut hfree (mut_l hl4)
  exact kk B0 H0 B1 _ _ De ((hh1.grow (o1.ge gr5)).setNo i _) dn
end
end E
namespace E
open LamX L2 PyProof.Rows PySem PySem.Spec
theorem rowsIn_none' : ∀ {tb : Tbs} {n : Str}, (∀ t ∈ tb, t.1 ≠ n) → rowsIn tb n = []
  | [], n, _ => rfl
  | t :: tb, n, h => by
    have ih := rowsIn_none' (tb := tb) (n := n) fun s hs => h s (List.mem_cons_of_mem _ hs)
    unfold rowsIn at ih ⊢
    rw [List.find?_cons_of_neg (by simpa using h t List.mem_cons_self)]
    exact ih
theorem rowsIn_perm {tb tb2 : Tbs} (nd : (tb.map (·.1)).Nodup) (hp : tb2.Perm tb) (n : Str) : rowsIn tb2 n = rowsIn tb n := by
  have nd2 : (tb2.map (·.1)).Nodup := (hp.map _).nodup_iff.mpr nd
  by_cases h : ∃ t ∈ tb, t.1 = n
  · obtain ⟨t, ht, rfl⟩ := h
    rw [rowsIn_of nd ht, rowsIn_of nd2 (hp.mem_iff.mpr ht)]
  · have h1 : ∀ t ∈ tb, t.1 ≠ n := fun t ht e => h ⟨t, ht, e⟩
    rw [rowsIn_none' h1, rowsIn_none' fun t ht => h1 t (hp.mem_iff.mp ht)]
theorem rowsOf_perm {q : Qn} {tb tb2 : Tbs} (nd : (tb.map (·.1)).Nodup) (hp : tb2.Perm tb) : rowsOf q tb2 = rowsOf q tb := by
  funext i
  unfold rowsOf
  rw [rowsIn_perm nd hp]
theorem gt_perm {q : Qn} {tb tb2 : Tbs} (g : GT q tb) (hp : tb2.Perm tb) : GT q tb2 := by
  refine ⟨fun a ha => ?_, fun a ha r hr => ?_, fun a ha => ?_, (hp.map _).nodup_iff.mpr g.nd⟩
  · obtain ⟨t, ht, e⟩ := g.has a ha
    exact ⟨t, hp.mem_iff.mpr ht, e⟩
  · rw [rowsIn_perm g.nd hp] at hr
    exact g.row a ha r hr
  · rw [rowsIn_perm g.nd hp]
    exact g.few a ha
section
variable {P : Program} {w : World} {K : PySem.W.Frag} {mg : Str → Option Value} {base : Heap} {T : List (Addr × Str)}
theorem ok_law (b : Bl mg) (F : At K mg "law" s_law ["_law_script"]) (A0 : DfOk P w K mg base 1 "_law_bag" ["_law_script"] (SpF T K (fun ns : List Int => [.scr ns]) (fun _ => True) (fun _ d => d = .bag))) (A2 : DfOk P w K mg base 2 "_law_some" ["_law_bag_here", "_law_things"] (SpSome T K)) (A3 : DfOk P w K mg base 2 "_law_mixed" ["_law_bag_here", "_law_things"] (SpMixed T K))
    (A4 : DfOk P w K mg base 4 "_law_nested_question" ["_law_bag_here", "_law_most"] (SpNQ T K)) (A5 : DfOk P w K mg base 3 "_law_tables_for" ["_law_bag_here", "_law_question", "_law_most"] (SpTb T K))
    (A6 : DfOk P w K mg base 33 "_law_run" ["_law_question", "_law_tables"] (SpF T K (fun r : Rn => [r.q.d, tbsD r.tb]) (fun r => Lc r.q r.tb ∧ SRun r.q (rowsOf r.q r.tb) 6 (r.q.kids none) [] r.sh r.pa r.looks) (fun r d => d = r.d)))
    (A7 : DfOk P w K mg base 35 "run" ["question", "tables"] (SpF T K (fun r : Rn => [r.q.d, tbsD r.tb]) (fun r => r.ok 6) (fun r d => d = r.d))) (A8 : DfG P w K mg base 1 "_law_alike" ["_law_found", "_law_due"] (SpAlike T K)) :
    DfG P w K mg base 36 "law" ["_law_script"] (SpF T K (fun ns : List Int => [.scr ns]) (fun _ => True) (fun _ d => d = .bl true)) := by
  refine dfg_mk F sc_law (fun _ => rfl) fun f cd A' outer s H E gd hr ns _ => ?_
  have nd := sc_law.nd
  have hun := hr.un
  refine rg_asgN 1 (P := fun d => d = .bag) ?_ nd fun d hd => ?_
  · refine PN.imp (pn_call A0 (hr.mono (by decide)) ns ?_ trivial) fun d h => h
    exact pds_cons (pd_var 0) pds_nil
  subst hd
  refine rg_for (pat := .nm 2) (fun _ i ds => ∃ s2 s3 s4 s5 s6 s7 : Sl, ds = [.dat (.scr ns), .dat .bag, s2, s3, s4, s5, s6, s7]) (src_range1 b.range pd_int (by decide) (by decide)) (pat_nm 2 nd) (fun _ _ => ⟨_, _, _, _, _, _, rfl⟩) ?_ ?_ .never
  · rintro items i d ds' rfl hd ⟨s2, s3, s4, s5, s6, s7, rfl⟩
    refine ⟨[.dat (.scr ns), .dat .bag, .dat d, s3, s4, s5, s6, s7], rfl, ?_⟩
    refine rg_asgN 3 (P := fun d => ∃ q : Qn, d = q.d ∧ DrawnQ q) (pn_callN (P0 := fun l => ∃ n : Nat, (1 ≤ n ∧ n ≤ 5) ∧ l = [.bag, .int (n : Int)]) A4 (hr.mono (by decide)) (pns_cons (P := fun d => d = .bag) (R := fun l => ∃ n : Nat, (1 ≤ n ∧ n ≤ 5) ∧ l = [.int (n : Int)]) (PD.pn (pd_var 1) rfl) (pns_cons (P := fun d => ∃ n : Nat, (1 ≤ n ∧ n ≤ 5) ∧ d = .int (n : Int)) (R := fun l => l = []) ?_ (PDs.pns pds_nil rfl) ?_) ?_) ?_) nd fun d ⟨q, hq, dq⟩ => ?_
    · refine PN.imp (pn_call A2 (hr.mono (by decide)) ([.int 5, .int 3, .int 4] : List D) ?_ ?_) ?_
      · exact pds_cons (pd_var 1) (pds_cons (PL.pd (pl_lst (pds_cons pd_int (pds_cons pd_int (pds_cons pd_int pds_nil))))) pds_nil)
      · exact ⟨by simp, by show 3 ≤ 1000; decide⟩
      · intro d hd
        simp only [List.mem_cons, List.not_mem_nil, or_false] at hd
        rcases hd with rfl | rfl | rfl
        · exact ⟨5, by decide, rfl⟩
        · exact ⟨3, by decide, rfl⟩
        · exact ⟨4, by decide, rfl⟩
    · rintro x xs ⟨n, hn, rfl⟩ rfl
      exact ⟨n, hn, rfl⟩
    · rintro x xs rfl ⟨n, hn, rfl⟩
      exact ⟨n, hn, rfl⟩
    · rintro l ⟨n, hn, rfl⟩
      exact ⟨n, rfl, hn, fun d h => h⟩
    subst hq
    show RG _ _ _ [.dat (.scr ns), .dat .bag, .dat d, .dat q.d, s4, s5, s6, s7] _
    refine rg_asgN 4 (P := fun d => ∃ tb : Tbs, d = tbsD tb ∧ DrawnT q tb ∧ tb.length ≤ 9 ∧ ∀ t ∈ tb, SmallT t) (pn_callN (P0 := fun l => ∃ n : Nat, (1 ≤ n ∧ n ≤ 7) ∧ l = [.bag, q.d, .int (n : Int)]) A5 (hr.mono (by decide)) (pns_cons (P := fun d => d = .bag) (R := fun l => ∃ n : Nat, (1 ≤ n ∧ n ≤ 7) ∧ l = [q.d, .int (n : Int)]) (PD.pn (pd_var 1) rfl) (pns_cons (P := fun d => d = q.d) (R := fun l => ∃ n : Nat, (1 ≤ n ∧ n ≤ 7) ∧ l = [.int (n : Int)]) (PD.pn (pd_var 3) rfl) (pns_cons (P := fun d => ∃ n : Nat, (1 ≤ n ∧ n ≤ 7) ∧ d = .int (n : Int)) (R := fun l => l = []) ?_ (PDs.pns pds_nil rfl) ?_) ?_) ?_) ?_) nd fun d' ⟨tb, htb, dt, ht9, hts⟩ => ?_
    · refine PN.imp (pn_call A2 (hr.mono (by decide)) ([.int 5, .int 3, .int 7] : List D) ?_ ?_) ?_
      · exact pds_cons (pd_var 1) (pds_cons (PL.pd (pl_lst (pds_cons pd_int (pds_cons pd_int (pds_cons pd_int pds_nil))))) pds_nil)
      · exact ⟨by simp, by show 3 ≤ 1000; decide⟩
      · intro d hd
        simp only [List.mem_cons, List.not_mem_nil, or_false] at hd
        rcases hd with rfl | rfl | rfl
        · exact ⟨5, by decide, rfl⟩
        · exact ⟨3, by decide, rfl⟩
        · exact ⟨7, by decide, rfl⟩
    · rintro x xs ⟨n, hn, rfl⟩ rfl
      exact ⟨n, hn, rfl⟩
    · rintro x xs rfl ⟨n, hn, rfl⟩
      exact ⟨n, hn, rfl⟩
    · rintro x xs rfl ⟨n, hn, rfl⟩
      exact ⟨n, hn, rfl⟩
    · rintro l ⟨n, hn, rfl⟩
      exact ⟨(q, n), rfl, ⟨dq, hn⟩, fun d h => h⟩
    subst htb
    show RG _ _ _ [.dat (.scr ns), .dat .bag, .dat d, .dat q.d, .dat (tbsD tb), s5, s6, s7] _
    obtain ⟨names, ps, dr⟩ := dq.1
    obtain ⟨lc, sh, pa, looks, hS, hR, hlen, hsl, hf1, hf2, hf3⟩ := law_ok dr dt
    obtain ⟨qs1, qs2⟩ := quest_small dq
    obtain ⟨ts1, ts2⟩ := tbs_small hts ht9
    have hD : (Rn.mk q tb looks sh pa).d = .tup [sh, pa, .lst (looks.map Look.d)] := rfl
    have hall := sh_all (K := 4) (ds := [q.d, tbsD tb]) fun d hd => by
      simp only [List.mem_cons, List.not_mem_nil, or_false] at hd
      rcases hd with rfl | rfl
      · exact qs2
      · exact ts2
    obtain ⟨hall1, hall2, hall3, hall4⟩ := hall
    have hlsl : (D.lst [q.d, tbsD tb]).sl ≤ sizeLine := by
      have := sl_lst [q.d, tbsD tb]
      rw [sumL_cons, sumL_cons, sumL_nil] at this
      exact Nat.le_trans (by omega : _ ≤ 20000) (by decide)
    have hldp : (D.lst [q.d, tbsD tb]).py.depth ≤ 5 := by simp only [D.py, PyData.depth]; omega
    have hlsh : (D.lst [q.d, tbsD tb]).py.showable = true := by simp only [D.py, PyData.showable, hall1]
    have hfn : (D.tup [sh, pa, .lst (looks.map Look.d)]).Fn 60 := (fn_three (K := 36) hf1 hf2 ((fn_lst (K := 2) fun d hd => by
      obtain ⟨l, hl, rfl⟩ := List.mem_map.mp hd
      exact hf3 l hl).mono (by decide))).mono (by decide)
    have hsz : (D.tup [sh, pa, .lst (looks.map Look.d)]).sl ≤ sizeLine := by
      have h1 := sl_three sh pa (.lst (looks.map Look.d))
      have h2 := sl_lst (looks.map Look.d)
      exact Nat.le_trans (by omega : _ ≤ 8000100) (by decide)
    have hrok : (Rn.mk q tb looks sh pa).ok 6 := ⟨lc.gd, lc.gt, hR, by show looks.length ≤ 1000000; omega⟩
    refine rg_par 5 6 (P := fun l => l = [.str (D.lst [q.d, tbsD tb]).py.shown, .tup [sh, pa, .lst (looks.map Look.d)]]) (PDs.pns (pds_cons (pd_reprL b.repr (pds_cons (pd_var 3) (pds_cons (pd_var 4) pds_nil)) (by show 2 ≤ sizeLine; decide) gd (by omega) hall2 hall3 hlsh hlsl) (pds_cons (pd_call A6 (hr.mono (by decide)) ⟨q, tb, looks, sh, pa⟩ (pds_cons (pd_var 3) (pds_cons (pd_var 4) pds_nil)) ⟨lc, hS⟩ fun d h => h) pds_nil)) rfl) nd fun l hl => ⟨_, _, hl, ?_⟩
    show RG _ _ _ [.dat (.scr ns), .dat .bag, .dat d, .dat q.d, .dat (tbsD tb), .dat (.str (D.lst [q.d, tbsD tb]).py.shown), .dat (.tup [sh, pa, .lst (looks.map Look.d)]), s7] _
    refine rg_told (d0 := sh) (d1 := pa) (lks := looks.map Look.d) 7 A7 hr ⟨q, tb, looks, sh, pa⟩ (pds_cons (pd_var 3) (pds_cons (pd_var 4) pds_nil)) hrok (fun d h => h) hall2 hall3 (by show 7 < 8; decide) ?_ ?_ nd
    · refine td_not (k := true) (td_callG A8 gd (hr.mono (by decide)) (.tup [sh, pa, .lst (looks.map Look.d)]) (pds_cons (pd_var 7) (pds_cons (pd_var 6) pds_nil)) ⟨⟨_, rfl⟩, hfn, hsz⟩ fun d h => h)
    show RG _ _ _ [.dat (.scr ns), .dat .bag, .dat d, .dat q.d, .dat (tbsD tb), .dat (.str (D.lst [q.d, tbsD tb]).py.shown), .dat (.tup [sh, pa, .lst (looks.map Look.d)]), .no] _
    refine rg_when (k := false) (WD.td (wd_or (k := false) (k' := false) (td_not (k := true) (td_callG A8 gd (hr.mono (by decide)) (.tup [sh, pa, .lst (looks.map Look.d)]) (pds_cons (PN.pd (pn_callN (P0 := fun l => ∃ tb2 : Tbs, tb2.Perm tb ∧ l = [q.d, tbsD tb2]) A7 hr (pns_cons (P := fun d => d = q.d) (R := fun l => ∃ tb2 : Tbs, tb2.Perm tb ∧ l = [tbsD tb2]) (PD.pn (pd_var 3) rfl) (pns_cons (P := fun d => ∃ es : List (Str × D), d = .dic es ∧ ∃ tb2 : Tbs, es = tbE tb2 ∧ tb2.Perm tb) (R := fun l => l = []) (pn_dictP (P := fun es => ∃ tb2 : Tbs, es = tbE tb2 ∧ tb2.Perm tb) b.dict ?_) (PDs.pns pds_nil rfl) ?_) ?_) ?_)) (pds_cons (pd_var 6) pds_nil)) ⟨⟨_, rfl⟩, hfn, hsz⟩ fun d h => h)) fun _ => wd_or1 (TD.of (td_cmp c_neS (pd_reprL b.repr (pds_cons (pd_var 3) (pds_cons (pd_var 4) pds_nil)) (by show 2 ≤ sizeLine; decide) gd (by omega) hall2 hall3 hlsh hlsl) (pd_var 5)) ?_))) (fun h => by cases h) fun _ => rg_nil ⟨_, _, _, _, _, _, rfl⟩
    · refine PN.imp (pn_call A3 (hr.mono (by decide)) ((tbE tb).map prD) ?_ ?_) ?_
      · exact pds_cons (pd_var 1) (pds_cons (PL.pd (pl_items b.list (pd_var 4))) pds_nil)
      · show ((tbE tb).map prD).length ≤ 1000
        unfold tbE
        rw [List.length_map, List.length_map]
        omega
      · rintro d ⟨ys, rfl, hp⟩
        obtain ⟨zs, rfl, hz⟩ := perm_map hp
        obtain ⟨tb2, rfl, hz2⟩ := perm_map (f := fun t : Str × Nat × List (List Int) => (t.1, tbD t.2)) (xs := tb) hz
        refine ⟨tbE tb2, rfl, ?_, tb2, rfl, hz2⟩
        rw [tbE_names]
        exact (hz2.map _).nodup_iff.mpr dt.gt.nd
    · rintro x xs ⟨es, rfl, tb2, rfl, hp⟩ rfl
      exact ⟨tb2, hp, rfl⟩
    · rintro x xs rfl ⟨tb2, hp, rfl⟩
      exact ⟨tb2, hp, rfl⟩
    · rintro l ⟨tb2, hp, rfl⟩
      refine ⟨⟨q, tb2, looks, sh, pa⟩, rfl, ⟨lc.gd, gt_perm lc.gt hp, ?_, by show looks.length ≤ 1000000; omega⟩, fun d h => h⟩
      show Runs q (rowsOf q tb2) 6 _ looks sh pa
      rw [rowsOf_perm dt.gt.nd hp]
      exact hR
    · rw [decide_eq_true rfl]; rfl
  · rintro items ds' rfl ⟨s2, s3, s4, s5, s6, s7, rfl⟩
    exact rg_retD pd_bl rfl
end
end E
/-! the end: a law that shows data, with tables of code objects -/
namespace E
open LamX L2 PyProof.Rows PySem PySem.Spec
/-- the abstract heap at the law's call: the script, the tables -/
def inH (K : PySem.W.Frag) (o : Obj) (xs : List V) (a : Addr) (ts : List Addr) : Hp := fun b => if b = a ∧ K.lookup a = none then some (.frz o (.lst xs)) else if b ∈ ts then some (.tbl #[]) else none
section
variable {K : PySem.W.Frag} {o : Obj} {xs : List V} {a b : Addr} {ts : List Addr}
theorem inH_cases (K : PySem.W.Frag) (o : Obj) (xs : List V) (a : Addr) (ts : List Addr) (b : Addr) : (b = a ∧ K.lookup a = none ∧ inH K o xs a ts b = some (.frz o (.lst xs))) ∨ (b ∈ ts ∧ inH K o xs a ts b = some (.tbl #[])) ∨ inH K o xs a ts b = none := by
  unfold inH
  by_cases h1 : b = a ∧ K.lookup a = none
  · exact .inl ⟨h1.1, h1.2, if_pos h1⟩
  · rw [if_neg h1]
    by_cases h2 : b ∈ ts
    · exact .inr (.inl ⟨h2, if_pos h2⟩)
    · exact .inr (.inr (if_neg h2))
theorem inH_tab (hb : b ∈ ts) (ha : a ∉ ts) : inH K o xs a ts b = some (.tbl #[]) := by
  rcases inH_cases K o xs a ts b with h | h | h
  · exact absurd (h.1 ▸ hb) ha
  · exact h.2
  · unfold inH at h
    rw [if_neg (fun z : b = a ∧ K.lookup a = none => ha (z.1 ▸ hb)), if_pos hb] at h
    cases h
theorem inH_scr (h : K.lookup a = none) : inH K o xs a ts a = some (.frz o (.lst xs)) := if_pos ⟨rfl, h⟩
end
def tabO : Obj := { cls := .none, data := .fields #[] }
theorem law_callG {P : Program} {w : World} {K : PySem.W.Frag} {mg mb : Str → Option Value} {k : Nat} {fa a : Addr} {cs : List (Addr × Addr)} {name x : Str} {sp : Sp} {s1 : Shared} {vs : List Value} {ns : List Int}
    (KX : K.In s1.heap) (gM : s1.heap.Ns mainGlobals mg) (gB : s1.heap.Ns builtinsNs mb) (boot : ∀ y : Str, y ≠ "__name__" → mb y = bootBuiltins y) (lim : s1.heap.NoLimit) (noG : s1.gens = #[])
    (tE : ∀ p ∈ cs, s1.heap.get? p.2 = some tabO) (tK : ∀ p ∈ cs, K.lookup p.2 = none) (tC : ∀ p ∈ cs, PySem.W.CodeHd s1.heap p.1 p.2)
    (bM : ∃ (bm : Addr) (ob : Obj), mg "__builtins__" = some (.ref bm) ∧ bm ≠ builtinsNs ∧ s1.heap.get? bm = some ob ∧ ob.cls = .type "module" ∧ ob.dict = some builtinsNs ∧ ob.data = .plain)
    (aL : s1.heap.get? a = some { cls := .type "list", data := .seq vs.toArray }) (aI : IntsAre vs ns) (aS : ns.length ≤ sizeLine) (room : Room k callerA) (hm : mg name = some (.ref fa))
    (F : ∀ base : Heap, K.In base → base.Ns mainGlobals mg → (∀ p ∈ cs, LamX.TabB base mg p.1 p.2) → DfG P w K mg base k name [x] sp)
    (want : ∀ H : Hp, (∀ p ∈ cs, H p.2 = some (.tbl #[])) → SqL K H a (ns.map V.int) → sp [.ref a] H (fun v _ => v = .bl true) fun _ _ _ => False) :
    codeAny (model P w) callerA (.call (.ref fa) ⟨[.ref a], []⟩) (fun r s' => r = .ok (.ret (.bool true)) ∧ OldK s1.heap s'.heap ∧ s'.os = s1.os ∧ AllBare s'.gens) s1 := by
  have rel := vals_ints aI
  let ts : List Addr := cs.map (·.2)
  let oL : Obj := { cls := .type "list", data := .seq vs.toArray }
  let H : Hp := inH K oL (ns.map V.int) a ts
  have onT : ∀ {b : Addr}, b ∈ ts → ∃ p ∈ cs, p.2 = b ∧ s1.heap.get? b = some tabO := fun {b} hb => by
    obtain ⟨p, hp, rfl⟩ := List.mem_map.mp hb
    exact ⟨p, hp, rfl, tE p hp⟩
  have inT : ∀ p ∈ cs, p.2 ∈ ts := fun p hp => List.mem_map.mpr ⟨p, hp, rfl⟩
  have aT : a ∉ ts := fun z => by
    obtain ⟨_, _, _, q⟩ := onT z
    have q2 := Option.some.inj (aL.symm.trans q)
    cases congrArg Obj.data q2
  have hT : ∀ p ∈ cs, H p.2 = some (.tbl #[]) := fun p hp => inH_tab (inT p hp) aT
  have hS : SqL K H a (ns.map V.int) := by
    cases hk : K.lookup a with
    | some u =>
      obtain rfl : oL = u := Option.some.inj (aL.symm.trans (KX a u hk))
      exact .inr ⟨oL, vs.toArray, _, hk, rfl, rfl, rfl, by rw [List.size_toArray, aI.length]; exact aS, rel⟩
    | none => exact .inl (.inr ⟨oL, inH_scr hk⟩)
  have ok : HOk P w H s1.heap := fun b u z => by
    rcases inH_cases K oL (ns.map V.int) a ts b with ⟨rfl, _, h⟩ | ⟨hb, h⟩ | h
    · obtain rfl := Option.some.inj (z.symm.trans h)
      exact ⟨aL, by rw [List.length_map]; exact aS, vs, _, rel, aL⟩
    · obtain rfl := Option.some.inj (z.symm.trans h)
      obtain ⟨_, _, _, q⟩ := onT hb
      exact q
    · cases z.symm.trans h
  -- what the call is not told of stays in sight
  have sight : ∀ {b : Addr} {u : Obj}, s1.heap.get? b = some u → (∀ its n, u.data ≠ .seq its n) → u.data ≠ .fields #[] → (hidT s1.heap H).get? b = some u := fun {b u} e n1 n2 => by
    refine hidT_get e ?_
    rcases inH_cases K oL (ns.map V.int) a ts b with ⟨rfl, _, _⟩ | ⟨hb, _⟩ | h
    · obtain rfl := Option.some.inj (aL.symm.trans e)
      exact (n1 _ _ rfl).elim
    · obtain ⟨_, _, _, q⟩ := onT hb
      obtain rfl := Option.some.inj (q.symm.trans e)
      exact (n2 rfl).elim
    · exact h
  have names : ∀ {b : Addr} {m : Str → Option Value}, s1.heap.Ns b m → (hidT s1.heap H).Ns b m := fun {b m} ⟨u, es, ep, e, d, r⟩ =>
    ⟨u, es, ep, sight e (fun its n z => by cases d.symm.trans z) (fun z => by cases d.symm.trans z), d, r⟩
  have KB : K.In (hidT s1.heap H) := fun b u e => by
    refine hidT_get (KX b u e) ?_
    rcases inH_cases K oL (ns.map V.int) a ts b with ⟨rfl, z, _⟩ | ⟨hb, _⟩ | h
    · cases e.symm.trans z
    · obtain ⟨p, hp, rfl, _⟩ := onT hb
      cases e.symm.trans (tK p hp)
    · exact h
  have TB : ∀ p ∈ cs, LamX.TabB (hidT s1.heap H) mg p.1 p.2 := fun p hp => by
    have z1 := tE p hp
    refine ⟨?_, ?_, fun z => ?_⟩
    · obtain ⟨u, us, file, tf, flags, tg, inF, text, tt, e1, r1, r2, r3, r⟩ := tC p hp
      refine ⟨u, us, file, tf, flags, tg, inF, text, tt, sight e1 (fun its n z => by cases r2.symm.trans z) (fun z => ?_), r1, r2, r3, r⟩
      have z2 := Data.fields.inj (r2.symm.trans z)
      rw [z2] at r3
      simp at r3
    · obtain ⟨bm, ob, b1, b2, b3, b4, b5, b6⟩ := bM
      refine ⟨bm, ob, b1, b2, fun q => ?_, fun q => ?_, sight b3 (fun its n z => by cases b6.symm.trans z) (fun z => by cases b6.symm.trans z), b4, b5, b6⟩
      · obtain ⟨u, es, ep, e, hd, _⟩ := gM
        obtain rfl := Option.some.inj (b3.symm.trans (q ▸ e))
        cases b6.symm.trans hd
      · obtain rfl := Option.some.inj (b3.symm.trans (q ▸ z1))
        cases b6
    · obtain ⟨u, es, ep, e, hd, _⟩ := gM
      obtain rfl := Option.some.inj (z1.symm.trans (z ▸ e))
      cases hd
  have env : Env0 P w K mg (hidT s1.heap H) callerA [] s1 H :=
    ⟨rfl, ⟨KB, names gM, ⟨mb, names gB, boot⟩, let ⟨mc, h1, h2⟩ := lim; ⟨mc, names h1, h2⟩⟩, fun _ _ e => of_hidT e, Nat.le_of_eq (hidT_size _ _), trivial, fun b hb => (List.not_mem_nil hb).elim, ok, .of_eq noG⟩
  obtain ⟨f, fd, G, hm2, _, bd⟩ := F _ KB (names gM) TB
  obtain rfl : f = fa := Value.ref.inj (Option.some.inj (hm2.symm.trans hm))
  refine codeAny_mono (G.go callerA [] s1 H ⟨[.ref a], []⟩ [.ref a] [.ref a] _ _ rfl room env (bd s1 [.ref a] KX rfl) (.cons rfl .nil) (want H hT hS)) fun r s' h => ?_
  match r, h with
  | .ok (.ret u), h =>
    obtain ⟨v, H2, os, bare, un, ok2, r2, q⟩ := h
    obtain rfl : v = .bl true := q
    obtain rfl : u = Value.bool true := r2
    have tab : ∀ {b : Addr}, b ∈ ts → ∃ more : Array Value, s'.heap.get? b = some { cls := .none, data := .fields more } := fun {b} hb => by
      obtain ⟨p, hp, rfl, _⟩ := onT hb
      obtain ⟨more, z⟩ := un.tbls p.2 #[] (hT p hp)
      exact ⟨_, ok2 p.2 _ z⟩
    have old : ∀ b u, b ∉ ts → s1.heap.get? b = some u → s'.heap.get? b = some u := fun b u nb e => by
      rcases inH_cases K oL (ns.map V.int) a ts b with ⟨rfl, _, z⟩ | ⟨z, _⟩ | z
      · obtain ⟨e1, _⟩ := ok b _ z
        obtain ⟨e2, _⟩ := ok2 b _ (un.frzs b _ _ z)
        exact e2.trans (e1.symm.trans e)
      · exact absurd z nb
      · exact un.keep b u e z (fun z => (List.not_mem_nil z).elim) (fun z => (List.not_mem_nil z).elim)
    refine ⟨rfl, ⟨fun b u e => ?_, fun b u e => ?_⟩, os, bare⟩
    · by_cases hb : b ∈ ts
      · obtain ⟨p, hp, rfl, e2⟩ := onT hb
        obtain ⟨more, hm⟩ := tab hb
        obtain rfl := Option.some.inj (e2.symm.trans e)
        exact .inr (.inl ⟨((tC p hp).tab (tE p hp)).isCodeTable, rfl, #[], more, rfl, by rw [Array.empty_append]; exact hm⟩)
      · exact .inl (old b u hb e)
    · by_cases hb : b ∈ ts
      · obtain ⟨more, hm⟩ := tab hb
        exact ⟨_, hm⟩
      · exact ⟨u, old b u hb e⟩
/-- the law's walk, from what the head's Hook tells -/
theorem walk_ofG {l : PySem.W.OpenLaw} {n k : Nat} {q : Program} {loose : List Str} {XP : (Str → Option Value) → Heap → Prop} {YP : World → Heap → Prop} {d : DefRec} {x : Str} (h1 : l.most = some n) (h2 : n ≤ sizeLine) (h3 : d.params.defaults = []) (room : Room k callerA)
    (F : ∀ (w : World) (mg : Str → Option Value) (h : Heap), YP w h → h.Ns mainGlobals mg →
      ∃ (K : PySem.W.Frag) (cs : List (Addr × Addr)) (sp : Sp), K.In h ∧ (∀ p ∈ cs, h.get? p.2 = some tabO) ∧ (∀ p ∈ cs, K.lookup p.2 = none) ∧ (∀ p ∈ cs, PySem.W.CodeHd h p.1 p.2) ∧
        (∀ (H : Hp) (a : Addr) (ns : List Int), (∀ p ∈ cs, H p.2 = some (.tbl #[])) → SqL K H a (ns.map V.int) → sp [.ref a] H (fun v _ => v = .bl true) fun _ _ _ => False) ∧
        ∀ base : Heap, K.In base → base.Ns mainGlobals mg → (∀ p ∈ cs, LamX.TabB base mg p.1 p.2) → DfG l.prog w K mg base k d.name [x] sp) : PySem.W.WalkO q loose XP YP l.row.toRowW d [] (fun f vs => PySem.call f vs) := by
  refine Att.attach_callB h1 h3 fun w s0 s1 mg mb fa o pm cd doc a vs ns G Y ho hd hcd hmg obj aints len bits gens => ?_
  obtain ⟨K, cs, sp, KX, tE, tK, tC, want, hF⟩ := F w mg _ Y G.T.g
  exact law_callG KX G.T.g G.T.b G.T.builtins G.T.nolimit gens tE tK tC G.T.bmain obj aints (Nat.le_trans len h2) room hmg hF fun H hT hS => want H a ns hT hS
end E
/-! all defs, one behind another -/
namespace E
open LamX L2 PyProof.Rows PySem PySem.Spec
structure Top (K : PySem.W.Frag) (mg : Str → Option Value) (c1 c2 : Addr) : Prop where
  b : Bl mg
  atoms_of : At K mg "atoms_of" s_atoms_of ["question", "column"]
  range_of : At K mg "range_of" s_range_of ["question", "column"]
  is_above : At K mg "is_above" s_is_above ["question", "one", "other"]
  above_of : At K mg "above_of" s_above_of ["question", "column"]
  path_of : AtC K mg "path_of" s_path_of ["question", "column"] c1
  parent_of : At K mg "parent_of" s_parent_of ["question", "column"]
  children_of : At K mg "children_of" s_children_of ["question", "column"]
  roots_of : At K mg "roots_of" s_roots_of ["question"]
  way_of : AtC K mg "way_of" s_way_of ["question", "atom"] c2
  end_of : At K mg "end_of" s_end_of ["question", "atom"]
  through : At K mg "through" s_through ["question", "column"]
  ending : At K mg "ending" s_ending ["question", "column"]
  way_rows : At K mg "way_rows" s_way_rows ["question", "tables", "atom"]
  begins_with : At K mg "begins_with" s_begins_with ["row", "prefix"]
  nearest_by_all : At K mg "nearest_by_all" s_nearest_by_all ["rows", "prefix", "x"]
  told : At K mg "told" s_told ["question", "tables", "look"]
  farthest : At K mg "farthest" s_farthest ["best", "atom", "its"]
  going_on : At K mg "going_on" s_going_on ["question", "column", "prefix", "x", "level"]
  started : At K mg "started" s_started ["question", "column", "prefix"]
  put_value : At K mg "put_value" s_put_value ["level", "x", "what", "shape"]
  below : At K mg "below" s_below ["question", "state"]
  behind_has : At K mg "behind_has" s_behind_has ["question", "state", "its"]
  behind_not : At K mg "behind_not" s_behind_not ["question", "state", "its"]
  column_wanted : At K mg "column_wanted" s_column_wanted ["question", "state"]
  column_behind : At K mg "column_behind" s_column_behind ["question", "state", "its"]
  siblings : At K mg "siblings" s_siblings ["question", "columns", "prefix"]
  siblings_wanted : At K mg "siblings_wanted" s_siblings_wanted ["question", "state"]
  siblings_behind : At K mg "siblings_behind" s_siblings_behind ["question", "state", "its"]
  begin : At K mg "begin" s_begin ["question"]
  wanted : At K mg "wanted" s_wanted ["question", "state"]
  behind : At K mg "behind" s_behind ["question", "state", "its"]
  result : At K mg "result" s_result ["question", "state"]
  run_knowing : At K mg "run_knowing" s_run_knowing ["question", "tables", "pairs"]
  run : At K mg "run" s_run ["question", "tables"]
  law_bag : At K mg "_law_bag" s_law_bag ["_law_script"]
  law_take : At K mg "_law_take" s_law_take ["_law_bag_here", "_law_many"]
  law_some : At K mg "_law_some" s_law_some ["_law_bag_here", "_law_things"]
  law_mixed : At K mg "_law_mixed" s_law_mixed ["_law_bag_here", "_law_things"]
  law_alike : At K mg "_law_alike" s_law_alike ["_law_found", "_law_due"]
  law_forest : At K mg "_law_forest" s_law_forest ["_law_bag_here", "_law_many"]
  law_line : At K mg "_law_line" s_law_line ["_law_parents", "_law_at"]
  law_nested_question : At K mg "_law_nested_question" s_law_nested_question ["_law_bag_here", "_law_most"]
  law_columns_mixed : At K mg "_law_columns_mixed" s_law_columns_mixed ["_law_bag_here", "_law_names", "_law_parents", "_law_at"]
  law_ranges : At K mg "_law_ranges" s_law_ranges ["_law_bag_here", "_law_columns"]
  law_tables_for : At K mg "_law_tables_for" s_law_tables_for ["_law_bag_here", "_law_question", "_law_most"]
  law_atoms_of : At K mg "_law_atoms_of" s_law_atoms_of ["_law_question", "_law_column"]
  law_is_above : At K mg "_law_is_above" s_law_is_above ["_law_question", "_law_one", "_law_other"]
  law_path : At K mg "_law_path" s_law_path ["_law_question", "_law_column"]
  law_children : At K mg "_law_children" s_law_children ["_law_question", "_law_column"]
  law_way : At K mg "_law_way" s_law_way ["_law_question", "_law_index"]
  law_led_rows : At K mg "_law_led_rows" s_law_led_rows ["_law_question", "_law_tables", "_law_index"]
  law_range_of : At K mg "_law_range_of" s_law_range_of ["_law_question", "_law_column"]
  law_values_behind : At K mg "_law_values_behind" s_law_values_behind ["_law_rows", "_law_prefix"]
  law_gap : At K mg "_law_gap" s_law_gap ["_law_values", "_law_x"]
  law_through : At K mg "_law_through" s_law_through ["_law_question", "_law_column"]
  law_rows_of : At K mg "_law_rows_of" s_law_rows_of ["_law_question", "_law_tables"]
  law_sibling_run : At K mg "_law_sibling_run" s_law_sibling_run ["_law_question", "_law_rows", "_law_columns", "_law_prefix"]
  law_farthest : At K mg "_law_farthest" s_law_farthest ["_law_found"]
  law_column_run : At K mg "_law_column_run" s_law_column_run ["_law_question", "_law_rows", "_law_column", "_law_prefix"]
  law_run : At K mg "_law_run" s_law_run ["_law_question", "_law_tables"]
  law : At K mg "law" s_law ["_law_script"]
section
variable {P : Program} {w : World} {K : PySem.W.Frag} {mg : Str → Option Value} {base : Heap} {T : List (Addr × Str)} {c1 c2 : Addr}
theorem all_sw (f : Top K mg c1 c2) (A1 : DfOk P w K mg base 2 "through" ["question", "column"] (SpThru T K)) (A2 : DfOk P w K mg base 13 "ending" ["question", "column"] (SpEnds T K)) : ∀ n, DfOk P w K mg base (20 + 2 * n) "siblings_wanted" ["question", "state"] (SpSW T K n)
  | 0 => ok_siblings_wanted0 f.siblings_wanted
  | n + 1 => ok_siblings_wanted n f.siblings_wanted (ok_column_wanted f.b n f.column_wanted A1 A2 (all_sw f A1 A2 n))
theorem all_sb (f : Top K mg c1 c2) (A1 : DfOk P w K mg base 14 "behind_has" ["question", "state", "its"] (SpHas T K)) (A2 : DfOk P w K mg base 14 "behind_not" ["question", "state", "its"] (SpNo T K)) (A4 : DfOk P w K mg base 2 "going_on" ["question", "column", "prefix", "x", "level"] (SpGo T K)) (A5 : DfOk P w K mg base 1 "put_value" ["level", "x", "what", "shape"] (SpPut T K)) : ∀ n, DfOk P w K mg base (20 + 2 * n) "siblings_behind" ["question", "state", "its"] (SpSB T K n)
  | 0 => ok_siblings_behind0 f.siblings_behind
  | n + 1 => ok_siblings_behind f.b n f.siblings_behind (ok_column_behind f.b n f.column_behind A1 A2 (all_sb f A1 A2 A4 A5 n) A4 A5)
theorem all_run (f : Top K mg c1 c2) {P1 P2 : Addr} (t1 : LamX.TabB base mg c1 P1) (t2 : LamX.TabB base mg c2 P2) (m1 : (P1, ("path_of.<locals>.<lambda>" : Str)) ∈ T) (u1 : ∀ p ∈ T, p.1 = P1 → p.2 = ("path_of.<locals>.<lambda>" : Str)) (m2 : (P2, ("way_of.<locals>.<lambda>" : Str)) ∈ T) (u2 : ∀ p ∈ T, p.1 = P2 → p.2 = ("way_of.<locals>.<lambda>" : Str)) :
    DfOk P w K mg base 35 "run" ["question", "tables"] (SpF T K (fun r : Rn => [r.q.d, tbsD r.tb]) (fun r => r.ok 6) (fun r d => d = r.d)) := by
  have atoms := ok_atoms_of (P := P) (w := w) (base := base) (T := T) f.b f.atoms_of
  have range := ok_range_of (P := P) (w := w) (base := base) (T := T) f.range_of
  have path := ok_path_of (P := P) (w := w) (T := T) f.b f.path_of t1 m1 u1 (ok_above_of f.b f.above_of (ok_is_above f.b f.is_above atoms))
  have par := ok_parent_of f.b f.parent_of path
  have kids := ok_children_of f.b f.children_of par
  have roots := ok_roots_of f.b f.roots_of par
  have way := ok_way_of f.b f.way_of t2 m2 u2 path
  have thru := ok_through f.b f.through atoms
  have ends := ok_ending f.b f.ending atoms (ok_end_of f.b f.end_of way)
  have told := ok_told f.b f.told (ok_way_rows f.b f.way_rows way) (ok_nearest f.b f.nearest_by_all (ok_begins_with f.b f.begins_with))
  have go := ok_going_on f.b f.going_on range
  have put := ok_put_value (P := P) (w := w) (base := base) (T := T) f.b f.put_value
  have sibs := ok_siblings f.b f.siblings (ok_started f.b f.started range)
  have below := ok_below f.b f.below sibs kids go put
  have far := ok_farthest (P := P) (w := w) (base := base) (T := T) f.b f.farthest
  have sb := all_sb f (ok_behind_has f.b f.behind_has thru far go ends below) (ok_behind_not f.b f.behind_not put go ends below) go put 6
  exact ok_run 6 f.run (ok_run_knowing f.b 6 f.run_knowing (ok_begin f.b f.begin sibs roots) (ok_wanted f.b 6 f.wanted (all_sw f thru ends 6)) (ok_behind 6 f.behind sb) (ok_result f.result) told)
theorem all_law_run (f : Top K mg c1 c2) : DfOk P w K mg base 33 "_law_run" ["_law_question", "_law_tables"] (SpF T K (fun r : Rn => [r.q.d, tbsD r.tb]) (fun r => Lc r.q r.tb ∧ SRun r.q (rowsOf r.q r.tb) 6 (r.q.kids none) [] r.sh r.pa r.looks) (fun r d => d = r.d)) := by
  have atoms := ok_law_atoms_of (P := P) (w := w) (base := base) (T := T) f.b f.law_atoms_of
  have path := ok_law_path f.b f.law_path (ok_law_is_above f.b f.law_is_above atoms)
  have kids := ok_law_children f.b f.law_children path
  have way := ok_law_way f.b f.law_way path
  have rows := ok_law_rows_of f.b f.law_rows_of (ok_law_led_rows f.b f.law_led_rows way)
  have thru := ok_law_through f.b f.law_through atoms way
  have sibs := ok_law_siblings f.b f.law_sibling_run f.law_column_run thru (ok_law_range_of f.b f.law_range_of) (ok_law_values_behind f.b f.law_values_behind) (ok_law_gap f.b f.law_gap) (ok_law_farthest f.b f.law_farthest) kids 6
  exact ok_law_run f.b 6 f.law_run rows kids sibs
theorem all_law (f : Top K mg c1 c2) {P1 P2 : Addr} (t1 : LamX.TabB base mg c1 P1) (t2 : LamX.TabB base mg c2 P2) (m1 : (P1, ("path_of.<locals>.<lambda>" : Str)) ∈ T) (u1 : ∀ p ∈ T, p.1 = P1 → p.2 = ("path_of.<locals>.<lambda>" : Str)) (m2 : (P2, ("way_of.<locals>.<lambda>" : Str)) ∈ T) (u2 : ∀ p ∈ T, p.1 = P2 → p.2 = ("way_of.<locals>.<lambda>" : Str)) :
    DfG P w K mg base 36 "law" ["_law_script"] (SpF T K (fun ns : List Int => [.scr ns]) (fun _ => True) (fun _ d => d = .bl true)) := by
  have take := ok_law_take (P := P) (w := w) (base := base) (T := T) f.b f.law_take
  have some_ := ok_law_some f.b f.law_some take
  have mixed := ok_law_mixed f.b f.law_mixed take
  have line := ok_law_line (P := P) (w := w) (base := base) (T := T) f.b f.law_line
  have nq := ok_law_nested_question f.b f.law_nested_question take some_ mixed (ok_law_forest f.b f.law_forest some_) (ok_law_columns_mixed f.b f.law_columns_mixed mixed line) (ok_law_ranges f.b f.law_ranges take some_ mixed)
  exact ok_law f.b f.law (ok_law_bag f.b f.law_bag) some_ mixed nq (ok_law_tables_for f.b f.law_tables_for take some_ mixed) (all_law_run f) (all_run f t1 t2 m1 u1 m2 u2) (ok_law_alike f.b f.law_alike)
end
end E
/-! the head: what the top leaves; the law -/
namespace E
open LamX L2 PyProof.Rows PySem PySem.Spec
def dd (i : Nat) (x : Str) : He.DefD := ⟨(x, none), x, x, defArgs (topS i), defBody (topS i), defScope (topS i), [], []⟩
def namesA : List (Nat × Str) := [(1, "atoms_of"), (2, "range_of"), (4, "is_above"), (5, "above_of"), (6, "path_of"), (7, "parent_of"), (8, "children_of"), (9, "roots_of"), (10, "way_of"), (11, "end_of"), (12, "through"), (13, "ending"), (14, "way_rows"), (16, "begins_with"), (17, "nearest_by_all"), (19, "told"), (21, "farthest"), (22, "going_on"), (23, "started"), (24, "put_value"), (25, "below"), (26, "behind_has"), (27, "behind_not"), (28, "column_wanted"), (29, "column_behind"), (30, "siblings"), (31, "siblings_wanted"), (32, "siblings_behind"), (33, "begin"), (34, "wanted")]
def namesB : List (Nat × Str) := [(35, "behind"), (36, "result"), (38, "run_knowing"), (39, "run"), (41, "_law_bag"), (42, "_law_take"), (43, "_law_some"), (44, "_law_mixed"), (45, "_law_alike"), (46, "_law_forest"), (47, "_law_line"), (48, "_law_nested_question"), (49, "_law_columns_mixed"), (50, "_law_ranges"), (51, "_law_tables_for"), (52, "_law_atoms_of"), (53, "_law_is_above"), (54, "_law_path"), (55, "_law_children"), (56, "_law_way"), (57, "_law_led_rows"), (58, "_law_range_of"), (59, "_law_values_behind"), (60, "_law_gap"), (61, "_law_through"), (62, "_law_rows_of"), (63, "_law_sibling_run"), (64, "_law_farthest"), (65, "_law_column_run"), (66, "_law_run"), (67, "law")]
def namesAB : List (Nat × Str) := namesA ++ namesB
def dfs : List He.DefD := namesAB.map fun p => dd p.1 p.2
def bls : List Str := ["tuple", "len", "list", "all", "sorted", "range", "enumerate", "dict", "int", "abs", "max", "repr", "set", "zip"]
def fas : List He.Fa := (namesAB.map fun p => He.Fa.glo p.2) ++ bls.map He.Fa.free
def pP : He.Defn := ("path_of", none)
def pW : He.Defn := ("way_of", none)
def exB (K : PySem.W.Frag) : Bool := !((He.cT K pP).2 == (He.cT K pW).2)
section
variable {K : PySem.W.Frag} {h : Heap} {mg : Str → Option Value} {i : Nat} {x : Str} {ps : List Str}
theorem atc_of (X : K.In h) (G : h.Ns mainGlobals mg) (c : He.SaysD fas dfs K) (m : (i, x) ∈ namesAB)
    (bd : ∀ (kV doc pm : Value) (an : Option Addr) (cdv ct : Value) (us : List Value), us.length = ps.length → bindArgs (PySem.W.fnOf x x (defArgs (topS i)) (defBody (topS i)) (defScope (topS i)) .none kV doc pm an cdv ct) ⟨us, []⟩ = pure (ps.zip us)) :
    AtC K mg x (topS i) ps (He.codeOf K (x, none)) := by
  obtain ⟨fd, F⟩ := c.defs (d := dd i x) (List.mem_map.mpr ⟨(i, x), m, rfl⟩)
  have hm := He.glo_ok X G (c.facts (f := .glo x) (List.mem_append_left _ (List.mem_map.mpr ⟨(i, x), m, rfl⟩)))
  have b : Binds K fd ps [] := FunD.bindsN F bd
  obtain ⟨oc, od, dV, kV, doc, pm, an, cdv, ct, osl, rfl, lk, hcd, hD, _⟩ := F.ex
  obtain rfl : dV = .none := hD.elim (fun z => z.2) fun z => absurd rfl z.1
  obtain ⟨cc, rfl⟩ := He.codeIn_ref hcd
  refine ⟨_, _, ⟨⟨oc, od, kV, doc, pm, an, _, ct, osl, rfl, lk, hcd⟩, F.kp⟩, hm, b, ?_⟩
  exact congrArg Value.ref (He.codeOf_eq lk rfl).symm
theorem at_of (X : K.In h) (G : h.Ns mainGlobals mg) (c : He.SaysD fas dfs K) (m : (i, x) ∈ namesAB)
    (bd : ∀ (kV doc pm : Value) (an : Option Addr) (cdv ct : Value) (us : List Value), us.length = ps.length → bindArgs (PySem.W.fnOf x x (defArgs (topS i)) (defBody (topS i)) (defScope (topS i)) .none kV doc pm an cdv ct) ⟨us, []⟩ = pure (ps.zip us)) :
    At K mg x (topS i) ps := by
  obtain ⟨f, fd, F, m, b, _⟩ := atc_of X G c m bd
  exact ⟨f, fd, F, m, b⟩
theorem bl_of (X : K.In h) (G : h.Ns mainGlobals mg) (c : He.SaysD fas dfs K) : Bl mg := by
  have z : ∀ y ∈ bls, mg y = none := fun y hy => He.free_ok X G (c.facts (f := .free y) (List.mem_append_right _ (List.mem_map.mpr ⟨y, hy, rfl⟩)))
  exact ⟨z _ (by decide), z _ (by decide), z _ (by decide), z _ (by decide), z _ (by decide), z _ (by decide), z _ (by decide), z _ (by decide), z _ (by decide), z _ (by decide), z _ (by decide), z _ (by decide), z _ (by decide), z _ (by decide)⟩
theorem top_of (X : K.In h) (G : h.Ns mainGlobals mg) (c : He.SaysD fas dfs K) : Top K mg (He.codeOf K pP) (He.codeOf K pW) where
  b := bl_of X G c
  atoms_of := at_of X G c (by decide) fun _ _ _ _ _ _ us hl => match us, hl with | [_, _], _ => rfl
  range_of := at_of X G c (by decide) fun _ _ _ _ _ _ us hl => match us, hl with | [_, _], _ => rfl
  is_above := at_of X G c (by decide) fun _ _ _ _ _ _ us hl => match us, hl with | [_, _, _], _ => rfl
  above_of := at_of X G c (by decide) fun _ _ _ _ _ _ us hl => match us, hl with | [_, _], _ => rfl
  path_of := atc_of X G c (by decide) fun _ _ _ _ _ _ us hl => match us, hl with | [_, _], _ => rfl
  parent_of := at_of X G c (by decide) fun _ _ _ _ _ _ us hl => match us, hl with | [_, _], _ => rfl
  children_of := at_of X G c (by decide) fun _ _ _ _ _ _ us hl => match us, hl with | [_, _], _ => rfl
  roots_of := at_of X G c (by decide) fun _ _ _ _ _ _ us hl => match us, hl with | [_], _ => rfl
  way_of := atc_of X G c (by decide) fun _ _ _ _ _ _ us hl => match us, hl with | [_, _], _ => rfl
  end_of := at_of X G c (by decide) fun _ _ _ _ _ _ us hl => match us, hl with | [_, _], _ => rfl
  through := at_of X G c (by decide) fun _ _ _ _ _ _ us hl => match us, hl with | [_, _], _ => rfl
  ending := at_of X G c (by decide) fun _ _ _ _ _ _ us hl => match us, hl with | [_, _], _ => rfl
  way_rows := at_of X G c (by decide) fun _ _ _ _ _ _ us hl => match us, hl with | [_, _, _], _ => rfl
  begins_with := at_of X G c (by decide) fun _ _ _ _ _ _ us hl => match us, hl with | [_, _], _ => rfl
  nearest_by_all := at_of X G c (by decide) fun _ _ _ _ _ _ us hl => match us, hl with | [_, _, _], _ => rfl
  told := at_of X G c (by decide) fun _ _ _ _ _ _ us hl => match us, hl with | [_, _, _], _ => rfl
  farthest := at_of X G c (by decide) fun _ _ _ _ _ _ us hl => match us, hl with | [_, _, _], _ => rfl
  going_on := at_of X G c (by decide) fun _ _ _ _ _ _ us hl => match us, hl with | [_, _, _, _, _], _ => rfl
  started := at_of X G c (by decide) fun _ _ _ _ _ _ us hl => match us, hl with | [_, _, _], _ => rfl
  put_value := at_of X G c (by decide) fun _ _ _ _ _ _ us hl => match us, hl with | [_, _, _, _], _ => rfl
  below := at_of X G c (by decide) fun _ _ _ _ _ _ us hl => match us, hl with | [_, _], _ => rfl
  behind_has := at_of X G c (by decide) fun _ _ _ _ _ _ us hl => match us, hl with | [_, _, _], _ => rfl
  behind_not := at_of X G c (by decide) fun _ _ _ _ _ _ us hl => match us, hl with | [_, _, _], _ => rfl
  column_wanted := at_of X G c (by decide) fun _ _ _ _ _ _ us hl => match us, hl with | [_, _], _ => rfl
  column_behind := at_of X G c (by decide) fun _ _ _ _ _ _ us hl => match us, hl with | [_, _, _], _ => rfl
  siblings := at_of X G c (by decide) fun _ _ _ _ _ _ us hl => match us, hl with | [_, _, _], _ => rfl
  siblings_wanted := at_of X G c (by decide) fun _ _ _ _ _ _ us hl => match us, hl with | [_, _], _ => rfl
  siblings_behind := at_of X G c (by decide) fun _ _ _ _ _ _ us hl => match us, hl with | [_, _, _], _ => rfl
  begin := at_of X G c (by decide) fun _ _ _ _ _ _ us hl => match us, hl with | [_], _ => rfl
  wanted := at_of X G c (by decide) fun _ _ _ _ _ _ us hl => match us, hl with | [_, _], _ => rfl
  behind := at_of X G c (by decide) fun _ _ _ _ _ _ us hl => match us, hl with | [_, _, _], _ => rfl
  result := at_of X G c (by decide) fun _ _ _ _ _ _ us hl => match us, hl with | [_, _], _ => rfl
  run_knowing := at_of X G c (by decide) fun _ _ _ _ _ _ us hl => match us, hl with | [_, _, _], _ => rfl
  run := at_of X G c (by decide) fun _ _ _ _ _ _ us hl => match us, hl with | [_, _], _ => rfl
  law_bag := at_of X G c (by decide) fun _ _ _ _ _ _ us hl => match us, hl with | [_], _ => rfl
  law_take := at_of X G c (by decide) fun _ _ _ _ _ _ us hl => match us, hl with | [_, _], _ => rfl
  law_some := at_of X G c (by decide) fun _ _ _ _ _ _ us hl => match us, hl with | [_, _], _ => rfl
  law_mixed := at_of X G c (by decide) fun _ _ _ _ _ _ us hl => match us, hl with | [_, _], _ => rfl
  law_alike := at_of X G c (by decide) fun _ _ _ _ _ _ us hl => match us, hl with | [_, _], _ => rfl
  law_forest := at_of X G c (by decide) fun _ _ _ _ _ _ us hl => match us, hl with | [_, _], _ => rfl
  law_line := at_of X G c (by decide) fun _ _ _ _ _ _ us hl => match us, hl with | [_, _], _ => rfl
  law_nested_question := at_of X G c (by decide) fun _ _ _ _ _ _ us hl => match us, hl with | [_, _], _ => rfl
  law_columns_mixed := at_of X G c (by decide) fun _ _ _ _ _ _ us hl => match us, hl with | [_, _, _, _], _ => rfl
  law_ranges := at_of X G c (by decide) fun _ _ _ _ _ _ us hl => match us, hl with | [_, _], _ => rfl
  law_tables_for := at_of X G c (by decide) fun _ _ _ _ _ _ us hl => match us, hl with | [_, _, _], _ => rfl
  law_atoms_of := at_of X G c (by decide) fun _ _ _ _ _ _ us hl => match us, hl with | [_, _], _ => rfl
  law_is_above := at_of X G c (by decide) fun _ _ _ _ _ _ us hl => match us, hl with | [_, _, _], _ => rfl
  law_path := at_of X G c (by decide) fun _ _ _ _ _ _ us hl => match us, hl with | [_, _], _ => rfl
  law_children := at_of X G c (by decide) fun _ _ _ _ _ _ us hl => match us, hl with | [_, _], _ => rfl
  law_way := at_of X G c (by decide) fun _ _ _ _ _ _ us hl => match us, hl with | [_, _], _ => rfl
  law_led_rows := at_of X G c (by decide) fun _ _ _ _ _ _ us hl => match us, hl with | [_, _, _], _ => rfl
  law_range_of := at_of X G c (by decide) fun _ _ _ _ _ _ us hl => match us, hl with | [_, _], _ => rfl
  law_values_behind := at_of X G c (by decide) fun _ _ _ _ _ _ us hl => match us, hl with | [_, _], _ => rfl
  law_gap := at_of X G c (by decide) fun _ _ _ _ _ _ us hl => match us, hl with | [_, _], _ => rfl
  law_through := at_of X G c (by decide) fun _ _ _ _ _ _ us hl => match us, hl with | [_, _], _ => rfl
  law_rows_of := at_of X G c (by decide) fun _ _ _ _ _ _ us hl => match us, hl with | [_, _], _ => rfl
  law_sibling_run := at_of X G c (by decide) fun _ _ _ _ _ _ us hl => match us, hl with | [_, _, _, _], _ => rfl
  law_farthest := at_of X G c (by decide) fun _ _ _ _ _ _ us hl => match us, hl with | [_], _ => rfl
  law_column_run := at_of X G c (by decide) fun _ _ _ _ _ _ us hl => match us, hl with | [_, _, _, _], _ => rfl
  law_run := at_of X G c (by decide) fun _ _ _ _ _ _ us hl => match us, hl with | [_, _], _ => rfl
  law := at_of X G c (by decide) fun _ _ _ _ _ _ us hl => match us, hl with | [_], _ => rfl
end
theorem scr_want {K : PySem.W.Frag} {T : List (Addr × Str)} {H : Hp} {a : Addr} {ns : List Int} (tb : Tabs T H) (hS : SqL K H a (ns.map V.int)) (E' : XK) : SpF T K (fun ns : List Int => [.scr ns]) (fun _ => True) (fun _ d => d = .bl true) [.ref a] H (fun v _ => v = .bl true) E' := by
  have key : ∀ B : Hp, Go T B H → SqL K B a (ns.map V.int) → SpF T K (fun ns : List Int => [.scr ns]) (fun _ => True) (fun _ d => d = .bl true) [.ref a] H (fun v _ => v = .bl true) E' := fun B o s => by
    refine ⟨B, ns, o, .cons (.scr s) .nil, trivial, fun v d B2 H2 g r dv => ?_⟩
    subst r
    cases dv
    rfl
  rcases hS with hS | hS
  · refine key (fun b => if b = a then H a else none) ⟨fun b u z => ?_, fun b ps z => ?_, tb⟩ (.inl ?_)
    · by_cases e : b = a
      · rw [e]
        exact (if_pos e).symm.trans z
      · cases (if_neg e).symm.trans z
    · by_cases e : b = a
      · have z2 := (if_pos e).symm.trans z
        rcases hS with q | ⟨_, q⟩ <;> cases q.symm.trans z2
      · cases (if_neg e).symm.trans z
    · rcases hS with q | ⟨u, q⟩
      · exact .inl ((if_pos rfl).trans q)
      · exact .inr ⟨u, (if_pos rfl).trans q⟩
  · exact key (fun _ => none) ⟨fun b u z => by (cases z), fun b ps z => by (cases z), tb⟩ (.inr hS)

def looseA : List Str := ["atoms_of", "range_of", "is_above", "above_of", "path_of", "parent_of", "children_of", "roots_of", "way_of", "end_of", "through", "ending", "way_rows", "begins_with", "nearest_by_all", "told", "farthest", "going_on", "started", "put_value", "below", "behind_has", "behind_not", "column_wanted", "column_behind", "siblings", "siblings_wanted", "siblings_behind", "begin", "wanted"]
def looseB : List Str := ["behind", "result", "run_knowing", "run", "_law_bag", "_law_take", "_law_some", "_law_mixed", "_law_alike", "_law_forest", "_law_line", "_law_nested_question", "_law_columns_mixed", "_law_ranges", "_law_tables_for", "_law_atoms_of", "_law_is_above", "_law_path", "_law_children", "_law_way", "_law_led_rows", "_law_range_of", "_law_values_behind", "_law_gap", "_law_through", "_law_rows_of", "_law_sibling_run", "_law_farthest", "_law_column_run", "_law_run"]
abbrev RR : PySem.W.OpenRow := PySem.W.OpenLaw.row PySem.Challenge.rw_enoughlooks_k48_whole_engine_look_by_loo
abbrev hk : PySem.W.Hook := He.hookX 4 fas dfs [] [pP, pW] exB
def ob (s : PySem.W.SharedT) : He.AlX := He.obsX 4 fas dfs [] [pP, pW] exB (HandSHeadRun.getT s)
theorem ob_eq (s : PySem.W.SharedT) : ob s = hk.obs s.abs := He.obsX_eq (HandSHeadRun.getT_eq s)
theorem run (w : World) : HandSHeadRun.RunEq RR (PySem.W.view RR.prog [67]) hk ob 4000 (looseA ++ looseB) w := by
  intro os
  kernel_rfl
end E
namespace E
open LamX L2 PyProof.Rows PySem PySem.Spec
theorem law_walk {w : World} {mg : Str → Option Value} {h : Heap} (Y : hk.says w h) (G : h.Ns mainGlobals mg) :
    ∃ (K : PySem.W.Frag) (cs : List (Addr × Addr)) (sp : Sp), K.In h ∧ (∀ p ∈ cs, h.get? p.2 = some tabO) ∧ (∀ p ∈ cs, K.lookup p.2 = none) ∧ (∀ p ∈ cs, PySem.W.CodeHd h p.1 p.2) ∧
      (∀ (H : Hp) (a : Addr) (ns : List Int), (∀ p ∈ cs, H p.2 = some (.tbl #[])) → SqL K H a (ns.map V.int) → sp [.ref a] H (fun v _ => v = .bl true) fun _ _ _ => False) ∧
      ∀ base : Heap, K.In base → base.Ns mainGlobals mg → (∀ p ∈ cs, LamX.TabB base mg p.1 p.2) → DfG PySem.Challenge.rw_enoughlooks_k48_whole_engine_look_by_loo.prog w K mg base 36 "law" ["_law_script"] sp := by
  obtain ⟨K, X, c⟩ := Y
  let T : List (Addr × Str) := [((He.cT K pP).2, "path_of.<locals>.<lambda>"), ((He.cT K pW).2, "way_of.<locals>.<lambda>")]
  have ne : (He.cT K pP).2 ≠ (He.cT K pW).2 := fun z => by
    have q : (!((He.cT K pP).2 == (He.cT K pW).2)) = true := c.more
    rw [z] at q
    simp at q
  have two : ∀ {Q : Addr × Addr → Prop}, (∀ p ∈ [pP, pW], Q (He.cT K p)) → ∀ p ∈ [He.cT K pP, He.cT K pW], Q p := fun {Q} z p hp => by
    obtain rfl | hp := List.mem_cons.mp hp
    · exact z pP (List.mem_cons_self ..)
    · obtain rfl | hp := List.mem_cons.mp hp
      · exact z pW (List.mem_cons_of_mem _ (List.mem_cons_self ..))
      · cases hp
  refine ⟨K, [He.cT K pP, He.cT K pW], SpF T K (fun ns : List Int => [.scr ns]) (fun _ => True) (fun _ d => d = .bl true), X, two c.empty, two c.out, two fun p hp => PySem.W.codeHd_of_K X (c.hd p hp), fun H a ns hT hS => scr_want (fun p hp => ?_) hS _, fun base KB GB tb => ?_⟩
  · obtain rfl | hp := List.mem_cons.mp hp
    · exact ⟨#[], hT (He.cT K pP) (List.mem_cons_self ..), trivial, fun _ _ z => by cases z⟩
    · obtain rfl | hp := List.mem_cons.mp hp
      · exact ⟨#[], hT (He.cT K pW) (List.mem_cons_of_mem _ (List.mem_cons_self ..)), trivial, fun _ _ z => by cases z⟩
      · cases hp
  · refine all_law (T := T) (top_of KB GB c.t.d) (tb (He.cT K pP) (List.mem_cons_self ..)) (tb (He.cT K pW) (List.mem_cons_of_mem _ (List.mem_cons_self ..))) (List.mem_cons_self ..) (fun p hp e => ?_) (List.mem_cons_of_mem _ (List.mem_cons_self ..)) fun p hp e => ?_
    · obtain rfl | hp := List.mem_cons.mp hp
      · rfl
      · obtain rfl | hp := List.mem_cons.mp hp
        · exact absurd e.symm ne
        · cases hp
    · obtain rfl | hp := List.mem_cons.mp hp
      · exact absurd e ne
      · obtain rfl | hp := List.mem_cons.mp hp
        · rfl
        · cases hp
end E
open PyProof.Rows PySem PySem.Calls PySem.W
theorem PySem.Challenge.cw_enoughlooks_k48_whole_engine_look_by_loo_holds : PySem.Challenge.rw_enoughlooks_k48_whole_engine_look_by_loo.Holds := by
  w_on; o_law
  refine HandSHeadRun.head_any (r := E.RR) (q := view E.RR.prog [67]) (H := E.hk) (ob := E.ob) (M := 4000) (loose := E.looseA ++ E.looseB) (d := HandSHeadRun.topDef E.RR.prog 67) (kwd := []) E.ob_eq
    (by kernel_rfl) (fun s => by kernel_rfl) E.run (by kernel_rfl) (by kernel_rfl) (by kernel_rfl) (by rfl) (by first | assumption | decide +kernel) (by decide +kernel) ⟨rfl, rfl, rfl, rfl, rfl, by decide +kernel⟩ ?hw ?hc
  case hw => w_witness2
  case hc =>
    refine E.walk_ofG (l := PySem.Challenge.rw_enoughlooks_k48_whole_engine_look_by_loo) (n := 63) (k := 36) (x := "_law_script") rfl (by decide) (by kernel_rfl) ⟨rfl, by decide, by decide⟩ fun w mg h Y G => ?_
    have e : (HandSHeadRun.topDef E.RR.prog 67).name = ("law" : PySem.Str) := by kernel_rfl
    rw [e]
    exact E.law_walk Y G
